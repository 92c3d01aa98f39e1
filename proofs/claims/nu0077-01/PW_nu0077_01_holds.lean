import PyProof.Rows.All
import Wide.All
import OpenK.AllK
import Wide.FinOn
import KE.KIntText
import KE.KxPart
import KE.KIsNot
import KE.LcTurns
import PyProof.ExcInit
import PyProof.ExcBaseAll.Exception
import PyProof.InstStoreFacts
import Lean
import PySem.Challenge.RW_nu0077_01
set_option Elab.async false
set_option linter.all false
set_option maxRecDepth 100000
set_option maxHeartbeats 4000000
set_option backward.match.sparseCases false
local macro_rules | `(tactic| omega) => `(tactic| lia -matchEqs -splitMatch)
namespace Mine.Internal
theorem and_t {a b:Bool} (x:a=true) (y:b=true):(a && b)=true:=by rw [x,y];rfl
theorem law_said:PySem.Challenge.rw_nu0077_01.wellSaid=true:=by
 rw [PySem.W.Fast.te9446332074065402090]
 delta PySem.W.Fast.tw9446332074065402090
 repeat' (with_reducible refine and_t ?_ ?_)
 all_goals try delta PySem.W.Fast.tw17960256430627541270 PySem.W.Fast.tw2436336058641802641 PySem.W.Fast.tw12908688711261696721
 repeat' (with_reducible refine and_t ?_ ?_)
 all_goals decide +kernel
end Mine.Internal
noncomputable section
namespace MineH.Internal
open PySem PySem.W
noncomputable abbrev pw:Program:=PySem.Challenge.pw_nu0077_01
noncomputable abbrev S (x:String):Str:=Str.ofString x
noncomputable abbrev vn:Value:= .none
noncomputable abbrev vT:Value:= .bool true
noncomputable abbrev vF:Value:= .bool false
noncomputable abbrev vi (i:Int) (t:Nat):Value:= .int i t
noncomputable abbrev vs (x:String) (t:Nat):Value:= .str (Str.ofString x) t
noncomputable abbrev vt (x:String):Value:= .type x
noncomputable abbrev vb (x:String):Value:= .builtin x
noncomputable abbrev vr (a:Nat):Value:= .ref a
noncomputable abbrev de (P:Params) (x:String) (t:Nat) (v:Value):DictEntry:=⟨PyData.keyHash P (Str.ofString x),.str (Str.ofString x) t,v⟩
noncomputable abbrev plain:Data:= .plain
noncomputable abbrev seq (l:List Value) (e:Nat):Data:= .seq l.toArray e
noncomputable abbrev dict (l:List DictEntry) (e:Nat):Data:= .dict l.toArray e
noncomputable abbrev flds (l:List Value):Data:= .fields l.toArray
noncomputable abbrev ob (c:Value) (d:Option Nat) (x:Data) (sl:List (Option Value)):Obj:=⟨c,d,x,sl.toArray⟩
noncomputable abbrev tu (l:List Value):Obj:=ob (vt "tuple") none (seq l 0) []
noncomputable abbrev fl (l:List Value):Obj:=ob vn none (flds l) []
noncomputable abbrev co (l:List Value):Obj:=ob (vt "code") none (flds l) []
noncomputable abbrev di (l:List DictEntry) (n:Nat):Obj:=ob (vt "dict") none (dict l n) []
noncomputable abbrev fr (a b c:Nat) (s:Value):Obj:=ob (vt "frame") none plain [some (vr a),some (vr b),some (vr c),none,some s,none,some (vr 0)]
noncomputable abbrev cf (n q:String) (a l k j b:Nat):Obj:=co [vs n a,vs q (a + 1),vs "/claim/cut.py" (a + 2),vi l 0,vi k 0,vi 0 0,vi 0 0,vi 3 0,vr j,vT,vi 181 0,vr (j + 1),vn,vr (j + 2),vr (j + 3),vr (j + 4),vi b 0,vi l 0,vs "/claim/cut.py" (b + 1)]
noncomputable abbrev bodyT:List Stmt:=behindTheImports pw
noncomputable def stT (i:Nat):Stmt:=(bodyT)[i]?.getD (.Pass ⟨0,0,0,0⟩)
noncomputable def stM (i j:Nat):Stmt:=match stT i with
 | .ClassDef _ _ _ b _ _ _ _ _ _ _=>b[j]?.getD (.Pass ⟨0,0,0,0⟩)
 | s=>s
noncomputable def fnD (st:Stmt) (n q:String) (g:Nat) (cl:List (Str×Nat)) (df kd doc pm:Value) (an:Option Nat) (cd ct:Value) (bi:Nat):Data:=match st with
 | .FunctionDef _ a b _ _ _ sc _ _ _=> .func { name:=S n,qualname:=S q,params:=a,body:= .stmts b,scope:=sc,globals:=g,closure:=cl,defaults:=df,kwdefaults:=kd,doc:=doc,pyModule:=pm,annotations:=an,code:=cd,closureTuple:=ct,builtins:=bi }
 | _=> .plain
noncomputable abbrev fu (st:Stmt) (n q:String) (d:Value) (m:String) (t c:Nat):Obj:=ob (vt "function") none (fnD st n q 3 [] d vn vn (vs m t) none (vr c) vn 0) []
noncomputable abbrev clsD (n:String) (bs mro:List Value) (ns:Nat) (q:String) (hd:Bool) (sl:List String) (subs:List Value) (ab:Bool) (co:Option Bool) (del:Bool):Data :=
 .cls { name:=S n,bases:=bs,mro:=mro,ns:=ns,qualname:=S q,hasDict:=hd,slotNames:=sl.map Str.ofString,subclasses:=subs,abstract:=ab,collection:=co,hasDel:=del }
def o2 (P:Params):=ob vn none (dict [(de P "type.__subclasses__.Exception.0" 214 (vi 31 0)),(de P "type.__subclasses__.Exception.n" 215 (vi 1 0))] 2) []
def o28 (P:Params):=fu (stM 1 0) "__init__" "MarkupError.__init__" vn "markupmill.errors" 187 27
def o30 (P:Params):=di [(de P "__module__" 196 (vs "markupmill.errors" 187)),(de P "__firstlineno__" 200 (vi 2 199)),(de P "__init__" 208 (vr 28)),(de P "__static_attributes__" 210 (vr 29)),(de P "__weakref__" 212 (vr 32)),(de P "__doc__" 213 vn)] 3
def o31 (P:Params):=ob (vt "type") none (clsD "MarkupError" [vt "Exception"] [vr 31,vt "Exception",vt "BaseException",vt "object"] 30 "MarkupError" true [] [vr 44] false none false) [(some (vr 15)),none,(some (vs "MarkupError" 189)),(some (vs "MarkupError" 197)),(some (vb "Exception.__new__")),(some vT)]
def o43 (P:Params):=di [(de P "__module__" 225 (vs "markupmill.errors" 187)),(de P "__firstlineno__" 229 (vi 7 228)),(de P "__static_attributes__" 230 (vr 42)),(de P "__doc__" 231 vn)] 2
def o44 (P:Params):=ob (vt "type") none (clsD "PathFault" [vr 31] [vr 44,vr 31,vt "Exception",vt "BaseException",vt "object"] 43 "PathFault" true [] [] false none false) [(some (vr 35)),none,(some (vs "PathFault" 218)),(some (vs "PathFault" 226)),(some (vb "Exception.__new__")),(some vT)]
def o53 (P:Params):=fu (stT 4) "common_divisor" "common_divisor" vn "markupmill.numbers" 234 52
def o60 (P:Params):=fu (stT 5) "sign_of" "sign_of" vn "markupmill.numbers" 234 59
def o68 (P:Params):=fu (stT 6) "number_of" "number_of" (vr 61) "markupmill.numbers" 234 67
def o73 (P:Params):=fu (stT 8) "rows_of" "rows_of" vn "markupmill.xpath_nodes" 263 72
def o87 (P:Params):=fu (stM 9 0) "__init__" "Literal.__init__" vn "markupmill.xpath_nodes" 263 86
def o94 (P:Params):=fu (stM 9 1) "row" "Literal.row" vn "markupmill.xpath_nodes" 263 93
def o96 (P:Params):=di [(de P "__module__" 278 (vs "markupmill.xpath_nodes" 263)),(de P "__firstlineno__" 282 (vi 31 281)),(de P "__init__" 290 (vr 87)),(de P "row" 297 (vr 94)),(de P "__static_attributes__" 299 (vr 95)),(de P "__dict__" 301 (vr 98)),(de P "__weakref__" 303 (vr 99)),(de P "__doc__" 304 vn)] 4
def o97 (P:Params):=ob (vt "type") none (clsD "Literal" [vt "object"] [vr 97,vt "object"] 96 "Literal" true [] [] false none false) [none,none,(some (vs "Literal" 271)),(some (vs "Literal" 279)),(some (vb "object.__new__")),(some vT)]
def o115 (P:Params):=fu (stM 10 0) "__init__" "NumberNode.__init__" vn "markupmill.xpath_nodes" 263 114
def o122 (P:Params):=fu (stM 10 1) "row" "NumberNode.row" vn "markupmill.xpath_nodes" 263 121
def o124 (P:Params):=di [(de P "__module__" 314 (vs "markupmill.xpath_nodes" 263)),(de P "__firstlineno__" 318 (vi 38 317)),(de P "__init__" 326 (vr 115)),(de P "row" 333 (vr 122)),(de P "__static_attributes__" 335 (vr 123)),(de P "__dict__" 337 (vr 126)),(de P "__weakref__" 339 (vr 127)),(de P "__doc__" 340 vn)] 4
def o125 (P:Params):=ob (vt "type") none (clsD "NumberNode" [vt "object"] [vr 125,vt "object"] 124 "NumberNode" true [] [] false none false) [none,none,(some (vs "NumberNode" 307)),(some (vs "NumberNode" 315)),(some (vb "object.__new__")),(some vT)]
def o143 (P:Params):=fu (stM 11 0) "__init__" "VariableNode.__init__" vn "markupmill.xpath_nodes" 263 142
def o150 (P:Params):=fu (stM 11 1) "row" "VariableNode.row" vn "markupmill.xpath_nodes" 263 149
def o152 (P:Params):=di [(de P "__module__" 350 (vs "markupmill.xpath_nodes" 263)),(de P "__firstlineno__" 354 (vi 45 353)),(de P "__init__" 362 (vr 143)),(de P "row" 369 (vr 150)),(de P "__static_attributes__" 371 (vr 151)),(de P "__dict__" 373 (vr 154)),(de P "__weakref__" 375 (vr 155)),(de P "__doc__" 376 vn)] 4
def o153 (P:Params):=ob (vt "type") none (clsD "VariableNode" [vt "object"] [vr 153,vt "object"] 152 "VariableNode" true [] [] false none false) [none,none,(some (vs "VariableNode" 343)),(some (vs "VariableNode" 351)),(some (vb "object.__new__")),(some vT)]
def o171 (P:Params):=fu (stM 12 0) "__init__" "Call.__init__" vn "markupmill.xpath_nodes" 263 170
def o178 (P:Params):=fu (stM 12 1) "row" "Call.row" vn "markupmill.xpath_nodes" 263 177
def o180 (P:Params):=di [(de P "__module__" 386 (vs "markupmill.xpath_nodes" 263)),(de P "__firstlineno__" 390 (vi 52 389)),(de P "__init__" 399 (vr 171)),(de P "row" 406 (vr 178)),(de P "__static_attributes__" 409 (vr 179)),(de P "__dict__" 411 (vr 182)),(de P "__weakref__" 413 (vr 183)),(de P "__doc__" 414 vn)] 4
def o181 (P:Params):=ob (vt "type") none (clsD "Call" [vt "object"] [vr 181,vt "object"] 180 "Call" true [] [] false none false) [none,none,(some (vs "Call" 379)),(some (vs "Call" 387)),(some (vb "object.__new__")),(some vT)]
def o199 (P:Params):=fu (stM 13 0) "__init__" "Binary.__init__" vn "markupmill.xpath_nodes" 263 198
def o206 (P:Params):=fu (stM 13 1) "row" "Binary.row" vn "markupmill.xpath_nodes" 263 205
def o208 (P:Params):=di [(de P "__module__" 424 (vs "markupmill.xpath_nodes" 263)),(de P "__firstlineno__" 428 (vi 60 427)),(de P "__init__" 438 (vr 199)),(de P "row" 445 (vr 206)),(de P "__static_attributes__" 449 (vr 207)),(de P "__dict__" 451 (vr 210)),(de P "__weakref__" 453 (vr 211)),(de P "__doc__" 454 vn)] 4
def o209 (P:Params):=ob (vt "type") none (clsD "Binary" [vt "object"] [vr 209,vt "object"] 208 "Binary" true [] [] false none false) [none,none,(some (vs "Binary" 417)),(some (vs "Binary" 425)),(some (vb "object.__new__")),(some vT)]
def o227 (P:Params):=fu (stM 14 0) "__init__" "Negated.__init__" vn "markupmill.xpath_nodes" 263 226
def o234 (P:Params):=fu (stM 14 1) "row" "Negated.row" vn "markupmill.xpath_nodes" 263 233
def o236 (P:Params):=di [(de P "__module__" 464 (vs "markupmill.xpath_nodes" 263)),(de P "__firstlineno__" 468 (vi 69 467)),(de P "__init__" 476 (vr 227)),(de P "row" 483 (vr 234)),(de P "__static_attributes__" 485 (vr 235)),(de P "__dict__" 487 (vr 238)),(de P "__weakref__" 489 (vr 239)),(de P "__doc__" 490 vn)] 4
def o237 (P:Params):=ob (vt "type") none (clsD "Negated" [vt "object"] [vr 237,vt "object"] 236 "Negated" true [] [] false none false) [none,none,(some (vs "Negated" 457)),(some (vs "Negated" 465)),(some (vb "object.__new__")),(some vT)]
def o255 (P:Params):=fu (stM 15 0) "__init__" "Filter.__init__" vn "markupmill.xpath_nodes" 263 254
def o262 (P:Params):=fu (stM 15 1) "row" "Filter.row" vn "markupmill.xpath_nodes" 263 261
def o264 (P:Params):=di [(de P "__module__" 500 (vs "markupmill.xpath_nodes" 263)),(de P "__firstlineno__" 504 (vi 76 503)),(de P "__init__" 513 (vr 255)),(de P "row" 520 (vr 262)),(de P "__static_attributes__" 523 (vr 263)),(de P "__dict__" 525 (vr 266)),(de P "__weakref__" 527 (vr 267)),(de P "__doc__" 528 vn)] 4
def o265 (P:Params):=ob (vt "type") none (clsD "Filter" [vt "object"] [vr 265,vt "object"] 264 "Filter" true [] [] false none false) [none,none,(some (vs "Filter" 493)),(some (vs "Filter" 501)),(some (vb "object.__new__")),(some vT)]
def o283 (P:Params):=fu (stM 16 0) "__init__" "Path.__init__" vn "markupmill.xpath_nodes" 263 282
def o290 (P:Params):=fu (stM 16 1) "row" "Path.row" vn "markupmill.xpath_nodes" 263 289
def o292 (P:Params):=di [(de P "__module__" 538 (vs "markupmill.xpath_nodes" 263)),(de P "__firstlineno__" 542 (vi 84 541)),(de P "__init__" 551 (vr 283)),(de P "row" 559 (vr 290)),(de P "__static_attributes__" 562 (vr 291)),(de P "__dict__" 564 (vr 294)),(de P "__weakref__" 566 (vr 295)),(de P "__doc__" 567 vn)] 4
def o293 (P:Params):=ob (vt "type") none (clsD "Path" [vt "object"] [vr 293,vt "object"] 292 "Path" true [] [] false none false) [none,none,(some (vs "Path" 531)),(some (vs "Path" 539)),(some (vb "object.__new__")),(some vT)]
def o311 (P:Params):=fu (stM 17 0) "__init__" "Step.__init__" vn "markupmill.xpath_nodes" 263 310
def o318 (P:Params):=fu (stM 17 1) "row" "Step.row" vn "markupmill.xpath_nodes" 263 317
def o320 (P:Params):=di [(de P "__module__" 577 (vs "markupmill.xpath_nodes" 263)),(de P "__firstlineno__" 581 (vi 95 580)),(de P "__init__" 591 (vr 311)),(de P "row" 598 (vr 318)),(de P "__static_attributes__" 602 (vr 319)),(de P "__dict__" 604 (vr 322)),(de P "__weakref__" 606 (vr 323)),(de P "__doc__" 607 vn)] 4
def o321 (P:Params):=ob (vt "type") none (clsD "Step" [vt "object"] [vr 321,vt "object"] 320 "Step" true [] [] false none false) [none,none,(some (vs "Step" 570)),(some (vs "Step" 578)),(some (vb "object.__new__")),(some vT)]
def o349 (P:Params):=fu (stT 23) "is_in_ranges" "is_in_ranges" vn "markupmill.chars" 610 348
def o356 (P:Params):=fu (stT 24) "is_space" "is_space" vn "markupmill.chars" 610 355
def o363 (P:Params):=fu (stT 25) "is_small_letter" "is_small_letter" vn "markupmill.chars" 610 362
def o370 (P:Params):=fu (stT 26) "is_name_start" "is_name_start" vn "markupmill.chars" 610 369
def o377 (P:Params):=fu (stT 27) "is_name_char" "is_name_char" vn "markupmill.chars" 610 376
def o397 (P:Params):=fu (stM 36 0) "__init__" "Word.__init__" vn "markupmill.xpath_words" 686 396
def o404 (P:Params):=fu (stM 36 1) "is_sign" "Word.is_sign" vn "markupmill.xpath_words" 686 403
def o411 (P:Params):=fu (stM 36 2) "is_operator" "Word.is_operator" vn "markupmill.xpath_words" 686 410
def o418 (P:Params):=fu (stM 36 3) "row" "Word.row" vn "markupmill.xpath_words" 686 417
def o420 (P:Params):=di [(de P "__module__" 742 (vs "markupmill.xpath_words" 686)),(de P "__firstlineno__" 746 (vi 138 745)),(de P "__init__" 756 (vr 397)),(de P "is_sign" 764 (vr 404)),(de P "is_operator" 772 (vr 411)),(de P "row" 779 (vr 418)),(de P "__static_attributes__" 783 (vr 419)),(de P "__dict__" 785 (vr 422)),(de P "__weakref__" 787 (vr 423)),(de P "__doc__" 788 vn)] 4
def o421 (P:Params):=ob (vt "type") none (clsD "Word" [vt "object"] [vr 421,vt "object"] 420 "Word" true [] [] false none false) [none,none,(some (vs "Word" 735)),(some (vs "Word" 743)),(some (vb "object.__new__")),(some vT)]
def o439 (P:Params):=fu (stM 37 0) "__init__" "PathScanner.__init__" vn "markupmill.xpath_words" 686 438
def o447 (P:Params):=fu (stM 37 1) "sign" "PathScanner.sign" (vr 440) "markupmill.xpath_words" 686 446
def o454 (P:Params):=fu (stM 37 2) "add" "PathScanner.add" vn "markupmill.xpath_words" 686 453
def o461 (P:Params):=fu (stM 37 3) "run" "PathScanner.run" vn "markupmill.xpath_words" 686 460
def o468 (P:Params):=fu (stM 37 4) "skip" "PathScanner.skip" vn "markupmill.xpath_words" 686 467
def o475 (P:Params):=fu (stM 37 5) "is_behind_operand" "PathScanner.is_behind_operand" vn "markupmill.xpath_words" 686 474
def o482 (P:Params):=fu (stM 37 6) "step" "PathScanner.step" vn "markupmill.xpath_words" 686 481
def o489 (P:Params):=fu (stM 37 7) "number" "PathScanner.number" vn "markupmill.xpath_words" 686 488
def o496 (P:Params):=fu (stM 37 8) "figures" "PathScanner.figures" vn "markupmill.xpath_words" 686 495
def o503 (P:Params):=fu (stM 37 9) "literal" "PathScanner.literal" vn "markupmill.xpath_words" 686 502
def o510 (P:Params):=fu (stM 37 10) "variable" "PathScanner.variable" vn "markupmill.xpath_words" 686 509
def o517 (P:Params):=fu (stM 37 11) "plain_name" "PathScanner.plain_name" vn "markupmill.xpath_words" 686 516
def o524 (P:Params):=fu (stM 37 12) "qualified" "PathScanner.qualified" vn "markupmill.xpath_words" 686 523
def o531 (P:Params):=fu (stM 37 13) "name" "PathScanner.name" vn "markupmill.xpath_words" 686 530
def o538 (P:Params):=fu (stM 37 14) "mark" "PathScanner.mark" vn "markupmill.xpath_words" 686 537
def o540 (P:Params):=di [(de P "__module__" 798 (vs "markupmill.xpath_words" 686)),(de P "__firstlineno__" 802 (vi 153 801)),(de P "__init__" 810 (vr 439)),(de P "sign" 820 (vr 447)),(de P "add" 830 (vr 454)),(de P "run" 837 (vr 461)),(de P "skip" 844 (vr 468)),(de P "is_behind_operand" 852 (vr 475)),(de P "step" 860 (vr 482)),(de P "number" 868 (vr 489)),(de P "figures" 875 (vr 496)),(de P "literal" 885 (vr 503)),(de P "variable" 894 (vr 510)),(de P "plain_name" 902 (vr 517)),(de P "qualified" 911 (vr 524)),(de P "name" 921 (vr 531)),(de P "mark" 930 (vr 538)),(de P "__static_attributes__" 934 (vr 539)),(de P "__dict__" 936 (vr 542)),(de P "__weakref__" 938 (vr 543)),(de P "__doc__" 939 vn)] 4
def o541 (P:Params):=ob (vt "type") none (clsD "PathScanner" [vt "object"] [vr 541,vt "object"] 540 "PathScanner" true [] [] false none false) [none,none,(some (vs "PathScanner" 791)),(some (vs "PathScanner" 799)),(some (vb "object.__new__")),(some vT)]
def o552 (P:Params):=fu (stT 38) "path_words" "path_words" vn "markupmill.xpath_words" 686 551
def o554 (P:Params):=di [(de P "or" 967 (vi 1 968)),(de P "and" 969 (vi 2 970)),(de P "=" 971 (vi 3 972)),(de P "!=" 973 (vi 3 974)),(de P "<" 975 (vi 4 976)),(de P "<=" 977 (vi 4 978)),(de P ">" 979 (vi 4 980)),(de P ">=" 981 (vi 4 982)),(de P "+" 983 (vi 5 984)),(de P "-" 985 (vi 5 986)),(de P "*" 987 (vi 6 988)),(de P "div" 989 (vi 6 990)),(de P "mod" 991 (vi 6 992))] 13
def o562 (P:Params):=fu (stT 44) "any_step" "any_step" vn "markupmill.xpath_grammar" 949 561
def o569 (P:Params):=fu (stT 45) "name_test" "name_test" vn "markupmill.xpath_grammar" 949 568
def o576 (P:Params):=fu (stT 46) "number_value" "number_value" vn "markupmill.xpath_grammar" 949 575
def o590 (P:Params):=fu (stM 47 0) "__init__" "PathReader.__init__" vn "markupmill.xpath_grammar" 949 589
def o597 (P:Params):=fu (stM 47 1) "here" "PathReader.here" vn "markupmill.xpath_grammar" 949 596
def o604 (P:Params):=fu (stM 47 2) "go" "PathReader.go" vn "markupmill.xpath_grammar" 949 603
def o611 (P:Params):=fu (stM 47 3) "refuse" "PathReader.refuse" vn "markupmill.xpath_grammar" 949 610
def o618 (P:Params):=fu (stM 47 4) "need" "PathReader.need" vn "markupmill.xpath_grammar" 949 617
def o625 (P:Params):=fu (stM 47 5) "whole" "PathReader.whole" vn "markupmill.xpath_grammar" 949 624
def o632 (P:Params):=fu (stM 47 6) "expression" "PathReader.expression" vn "markupmill.xpath_grammar" 949 631
def o639 (P:Params):=fu (stM 47 7) "counted" "PathReader.counted" vn "markupmill.xpath_grammar" 949 638
def o646 (P:Params):=fu (stM 47 8) "level" "PathReader.level" vn "markupmill.xpath_grammar" 949 645
def o653 (P:Params):=fu (stM 47 9) "negated" "PathReader.negated" vn "markupmill.xpath_grammar" 949 652
def o660 (P:Params):=fu (stM 47 10) "union" "PathReader.union" vn "markupmill.xpath_grammar" 949 659
def o667 (P:Params):=fu (stM 47 11) "path" "PathReader.path" vn "markupmill.xpath_grammar" 949 666
def o674 (P:Params):=fu (stM 47 12) "from_primary" "PathReader.from_primary" vn "markupmill.xpath_grammar" 949 673
def o681 (P:Params):=fu (stM 47 13) "primary" "PathReader.primary" vn "markupmill.xpath_grammar" 949 680
def o688 (P:Params):=fu (stM 47 14) "arguments" "PathReader.arguments" vn "markupmill.xpath_grammar" 949 687
def o695 (P:Params):=fu (stM 47 15) "is_step" "PathReader.is_step" vn "markupmill.xpath_grammar" 949 694
def o702 (P:Params):=fu (stM 47 16) "steps" "PathReader.steps" vn "markupmill.xpath_grammar" 949 701
def o709 (P:Params):=fu (stM 47 17) "one_step" "PathReader.one_step" vn "markupmill.xpath_grammar" 949 708
def o716 (P:Params):=fu (stM 47 18) "axis" "PathReader.axis" vn "markupmill.xpath_grammar" 949 715
def o723 (P:Params):=fu (stM 47 19) "test" "PathReader.test" vn "markupmill.xpath_grammar" 949 722
def o730 (P:Params):=fu (stM 47 20) "predicates" "PathReader.predicates" vn "markupmill.xpath_grammar" 949 729
def o732 (P:Params):=di [(de P "__module__" 1046 (vs "markupmill.xpath_grammar" 949)),(de P "__firstlineno__" 1050 (vi 302 1049)),(de P "__init__" 1058 (vr 590)),(de P "here" 1065 (vr 597)),(de P "go" 1073 (vr 604)),(de P "refuse" 1081 (vr 611)),(de P "need" 1089 (vr 618)),(de P "whole" 1097 (vr 625)),(de P "expression" 1109 (vr 632)),(de P "counted" 1117 (vr 639)),(de P "level" 1125 (vr 646)),(de P "negated" 1135 (vr 653)),(de P "union" 1144 (vr 660)),(de P "path" 1152 (vr 667)),(de P "from_primary" 1161 (vr 674)),(de P "primary" 1170 (vr 681)),(de P "arguments" 1178 (vr 688)),(de P "is_step" 1186 (vr 695)),(de P "steps" 1194 (vr 702)),(de P "one_step" 1203 (vr 709)),(de P "axis" 1211 (vr 716)),(de P "test" 1220 (vr 723)),(de P "predicates" 1228 (vr 730)),(de P "__static_attributes__" 1232 (vr 731)),(de P "__dict__" 1234 (vr 734)),(de P "__weakref__" 1236 (vr 735)),(de P "__doc__" 1237 vn)] 4
def o733 (P:Params):=ob (vt "type") none (clsD "PathReader" [vt "object"] [vr 733,vt "object"] 732 "PathReader" true [] [] false none false) [none,none,(some (vs "PathReader" 1039)),(some (vs "PathReader" 1047)),(some (vb "object.__new__")),(some vT)]
def o744 (P:Params):=fu (stT 48) "parse_path" "parse_path" vn "markupmill.xpath_grammar" 949 743
def o751 (P:Params):=fu (stT 55) "level_of" "level_of" vn "markupmill.xpath_printer" 1247 750
def o758 (P:Params):=fu (stT 56) "quoted" "quoted" vn "markupmill.xpath_printer" 1247 757
def o765 (P:Params):=fu (stT 57) "decimal_text" "decimal_text" vn "markupmill.xpath_printer" 1247 764
def o772 (P:Params):=fu (stT 58) "test_text" "test_text" vn "markupmill.xpath_printer" 1247 771
def o779 (P:Params):=fu (stT 59) "at_least" "at_least" vn "markupmill.xpath_printer" 1247 778
def o784 (P:Params):=fu (stT 60) "predicates_text" "predicates_text" vn "markupmill.xpath_printer" 1247 783
def o789 (P:Params):=fu (stT 61) "steps_text" "steps_text" vn "markupmill.xpath_printer" 1247 788
def o796 (P:Params):=fu (stT 62) "binary_text" "binary_text" vn "markupmill.xpath_printer" 1247 795
def o803 (P:Params):=fu (stT 63) "path_text" "path_text" vn "markupmill.xpath_printer" 1247 802
def o808 (P:Params):=fu (stT 64) "write_path" "write_path" vn "markupmill.xpath_printer" 1247 807
def o815 (P:Params):=fu (stT 66) "_law_pool" "_law_pool" vn "law_nu0077_01" 1334 814
def o822 (P:Params):=fu (stT 67) "_law_take" "_law_take" vn "law_nu0077_01" 1334 821
def o829 (P:Params):=fu (stT 68) "_law_one" "_law_one" vn "law_nu0077_01" 1334 828
def o836 (P:Params):=fu (stT 69) "_law_leaf" "_law_leaf" vn "law_nu0077_01" 1334 835
def o843 (P:Params):=fu (stT 70) "_law_step" "_law_step" vn "law_nu0077_01" 1334 842
def o848 (P:Params):=fu (stT 71) "_law_some" "_law_some" vn "law_nu0077_01" 1334 847
def o853 (P:Params):=fu (stT 72) "_law_drawn" "_law_drawn" vn "law_nu0077_01" 1334 852
def o860 (P:Params):=fu (stT 73) "_law_short" "_law_short" vn "law_nu0077_01" 1334 859
def o867 (P:Params):=fu (stT 74) "_law_alike" "_law_alike" vn "law_nu0077_01" 1334 866
def o874 (P:Params):=fu (stT 75) "_law_is_none" "_law_is_none" vn "law_nu0077_01" 1334 873
def o881 (P:Params):=fu (stT 76) "law" "law" vn "law_nu0077_01" 1334 880
def o2v0 (P:Params):=ob vn none (dict [] 0) []
def o31v0 (P:Params):=ob (vt "type") none (clsD "MarkupError" [vt "Exception"] [vr 31,vt "Exception",vt "BaseException",vt "object"] 30 "MarkupError" true [] [] false none false) [(some (vr 15)),none,(some (vs "MarkupError" 189)),(some (vs "MarkupError" 197)),(some (vb "Exception.__new__")),(some vT)]
noncomputable def gl (P:Params):List DictEntry:=[(de P "__name__" 165 (vs "law_nu0077_01" 1334)),(de P "__doc__" 166 vn),(de P "__package__" 167 vn),(de P "__loader__" 168 (vb "__main__.__loader__#opaque")),(de P "__spec__" 169 vn),(de P "__annotations__" 170 (vr 6)),(de P "__builtins__" 171 (vr 4)),(de P "__file__" 173 (vs "/claim/cut.py" 172)),(de P "__cached__" 174 vn),(de P "MarkupError" 217 (vr 31)),(de P "PathFault" 233 (vr 44)),(de P "common_divisor" 245 (vr 53)),(de P "sign_of" 252 (vr 60)),(de P "number_of" 262 (vr 68)),(de P "rows_of" 270 (vr 73)),(de P "Literal" 306 (vr 97)),(de P "NumberNode" 342 (vr 125)),(de P "VariableNode" 378 (vr 153)),(de P "Call" 416 (vr 181)),(de P "Binary" 456 (vr 209)),(de P "Negated" 492 (vr 237)),(de P "Filter" 530 (vr 265)),(de P "Path" 569 (vr 293)),(de P "Step" 609 (vr 321)),(de P "SPACES" 613 (vs " \t\n\x0d" 612)),(de P "START_RANGES" 638 (vr 338)),(de P "MORE_RANGES" 645 (vr 342)),(de P "FIRST_BEYOND" 647 (vi (128) 646)),(de P "is_in_ranges" 657 (vr 349)),(de P "is_space" 664 (vr 356)),(de P "is_small_letter" 671 (vr 363)),(de P "is_name_start" 678 (vr 370)),(de P "is_name_char" 685 (vr 377)),(de P "FIGURES" 689 (vs "0123456789" 688)),(de P "PAIRS" 696 (vr 378)),(de P "OPERATORS" 708 (vr 379)),(de P "SIGNS" 718 (vr 380)),(de P "WORD_OPERATORS" 723 (vr 381)),(de P "KINDS_OF_NODES" 728 (vr 382)),(de P "BEHIND_NO_OPERAND" 734 (vr 383)),(de P "Word" 790 (vr 421)),(de P "PathScanner" 941 (vr 541)),(de P "path_words" 948 (vr 552)),(de P "MOST_DEPTH" 952 (vi (50) 951)),(de P "AXES" 966 (vr 553)),(de P "LEVELS" 1006 (vr 554)),(de P "PRIMARY_KINDS" 1011 (vr 555)),(de P "any_step" 1018 (vr 562)),(de P "name_test" 1028 (vr 569)),(de P "number_value" 1038 (vr 576)),(de P "PathReader" 1239 (vr 733)),(de P "parse_path" 1246 (vr 744)),(de P "UNARY_LEVEL" 1250 (vi (7) 1249)),(de P "UNION_LEVEL" 1252 (vi (8) 1251)),(de P "PATH_LEVEL" 1254 (vi (9) 1253)),(de P "FILTER_LEVEL" 1256 (vi (10) 1255)),(de P "PRIMARY_LEVEL" 1258 (vi (11) 1257)),(de P "level_of" 1266 (vr 751)),(de P "quoted" 1273 (vr 758)),(de P "decimal_text" 1284 (vr 765)),(de P "test_text" 1291 (vr 772)),(de P "at_least" 1300 (vr 779)),(de P "predicates_text" 1306 (vr 784)),(de P "steps_text" 1312 (vr 789)),(de P "binary_text" 1320 (vr 796)),(de P "path_text" 1327 (vr 803)),(de P "write_path" 1333 (vr 808)),(de P "_law_pool" 1346 (vr 815)),(de P "_law_take" 1355 (vr 822)),(de P "_law_one" 1363 (vr 829)),(de P "_law_leaf" 1371 (vr 836)),(de P "_law_step" 1382 (vr 843)),(de P "_law_some" 1388 (vr 848)),(de P "_law_drawn" 1394 (vr 853)),(de P "_law_short" 1402 (vr 860)),(de P "_law_alike" 1411 (vr 867)),(de P "_law_is_none" 1418 (vr 874)),(de P "law" 1432 (vr 881))]
def o3 (P:Params) (c:Nat) (x:String) (t e:Nat):Obj:=ob (vt "dict") none (dict (de P "__name__" 165 (vs x t) :: ((gl P).take c).tail) e) []
noncomputable def f12:List Value:=[(vi (2) 0),(vi (0) 0),(vr 20),(vi (7) 0),(vi (0) 0),(vr 40),(vi (10) 0),(vi (0) 0),(vr 52),(vi (15) 0),(vi (0) 0),(vr 59),(vi (21) 0),(vi (0) 0),(vr 67),(vi (29) 0),(vi (0) 0),(vr 72),(vi (31) 0),(vi (0) 0),(vr 79),(vi (38) 0),(vi (0) 0),(vr 107),(vi (45) 0),(vi (0) 0),(vr 135),(vi (52) 0),(vi (0) 0),(vr 163),(vi (60) 0),(vi (0) 0),(vr 191),(vi (69) 0),(vi (0) 0),(vr 219),(vi (76) 0),(vi (0) 0),(vr 247),(vi (84) 0),(vi (0) 0),(vr 275),(vi (95) 0),(vi (0) 0),(vr 303),(vi (109) 0),(vi (0) 0),(vr 348),(vi (116) 0),(vi (0) 0),(vr 355),(vi (118) 0),(vi (0) 0),(vr 362),(vi (120) 0),(vi (0) 0),(vr 369),(vi (124) 0),(vi (0) 0),(vr 376),(vi (138) 0),(vi (0) 0),(vr 389),(vi (153) 0),(vi (0) 0),(vr 431),(vi (283) 0),(vi (0) 0),(vr 551),(vi (290) 0),(vi (0) 0),(vr 561),(vi (292) 0),(vi (0) 0),(vr 568),(vi (299) 0),(vi (0) 0),(vr 575),(vi (302) 0),(vi (0) 0),(vr 582),(vi (479) 0),(vi (0) 0),(vr 743),(vi (487) 0),(vi (0) 0),(vr 750),(vi (496) 0),(vi (0) 0),(vr 757),(vi (502) 0),(vi (0) 0),(vr 764),(vi (516) 0),(vi (0) 0),(vr 771),(vi (526) 0),(vi (0) 0),(vr 778),(vi (529) 0),(vi (0) 0),(vr 783),(vi (531) 0),(vi (0) 0),(vr 788),(vi (533) 0),(vi (0) 0),(vr 795),(vi (536) 0),(vi (0) 0),(vr 802),(vi (542) 0),(vi (0) 0),(vr 807),(vi (559) 0),(vi (0) 0),(vr 814),(vi (567) 0),(vi (0) 0),(vr 821),(vi (574) 0),(vi (0) 0),(vr 828),(vi (576) 0),(vi (0) 0),(vr 835),(vi (587) 0),(vi (0) 0),(vr 842),(vi (594) 0),(vi (0) 0),(vr 847),(vi (596) 0),(vi (0) 0),(vr 852),(vi (612) 0),(vi (0) 0),(vr 859),(vi (620) 0),(vi (0) 0),(vr 866),(vi (624) 0),(vi (0) 0),(vr 873),(vi (630) 0),(vi (0) 0),(vr 880)]
def o12 (c:Nat):Obj:=ob vn none (flds (f12.take c)) []
noncomputable def tr (P:Params) (a b c d:Obj):BT:=(.node (boot_o_0 P) (.node (boot_o_1 P) (.node a (.node (boot_o_7 P) (.node (tu [vt "Exception"]) (.node d (.node (fl []) (.node (ob (vt "getset_descriptor") none (flds [vs "__weakref__" 338,vr 125,vb "ExceptionGroup.__weakref__",vn]) []) (.node (o255 P) (.node (tu []) .nil .nil) (.node (fl []) .nil .nil)) (.node (tu [vs "@" 729,vs "::" 730,vs "(" 731,vs "[" 732,vs "," 733]) (.node (o639 P) .nil .nil) .nil)) (.node (co [vs "Binary" 419,vs "Binary" 420,vs "/claim/cut.py" 421,vi 60 0,vi 0 0,vi 0 0,vi 0 0,vi 0 0,vr 189,vF,vi 181 0,vr 190,vn,vn,vn,vn,vi 422 0,vi 60 0,vs "/claim/cut.py" 423]) (.node (tu [vs "axis" 599,vs "predicates" 600,vs "test" 601]) (.node (cf "number_value" "number_value" 1029 299 1 570 1036) .nil .nil) (.node (fl []) .nil .nil)) (.node (o447 P) (.node (tu []) .nil .nil) .nil))) (.node (tu [vs "value" 298]) (.node (ob (vt "builtin_function_or_method") none (flds [vb "type.__prepare__",vt "type"]) []) (.node (tu []) (.node (ob (vt "getset_descriptor") none (flds [vs "__weakref__" 937,vr 541,vb "ExceptionGroup.__weakref__",vn]) []) .nil .nil) (.node (tu [vs "node" 1324]) .nil .nil)) (.node (tu []) (.node (tu []) .nil .nil) .nil)) (.node (tu [vs "self" 472,vs "value" 473]) (.node (fl []) (.node (tu [vs "self" 1077,vs "message" 1078]) .nil .nil) (.node (tu [vs "source" 1406,vs "ops" 1407,vs "inner" 1408]) .nil .nil)) (.node (tu []) (.node (ob (vt "getset_descriptor") none (flds [vs "__weakref__" 1235,vr 733,vb "ExceptionGroup.__weakref__",vn]) []) .nil .nil) .nil)))) (.node (tu []) (.node (co [vs "Literal" 273,vs "Literal" 274,vs "/claim/cut.py" 275,vi 31 0,vi 0 0,vi 0 0,vi 0 0,vi 0 0,vr 77,vF,vi 181 0,vr 78,vn,vn,vn,vn,vi 276 0,vi 31 0,vs "/claim/cut.py" 277]) (.node (o143 P) (.node (ob (vt "builtin_function_or_method") none (flds [vb "type.__prepare__",vt "type"]) []) (.node (tu [vs "self" 915,vs "begin" 916,vs "word" 917,vs "behind" 918]) .nil .nil) (.node (co [vs "predicates_text" 1301,vs "predicates_text" 1302,vs "/claim/cut.py" 1303,vi 529 0,vi 1 0,vi 0 0,vi 0 0,vi 3 0,vr 780,vT,vi 181 0,vr 781,vn,vn,vn,vr 782,vi 1304 0,vi 529 0,vs "/claim/cut.py" 1305]) .nil .nil)) (.node (fl []) (.node (fl []) .nil .nil) .nil)) (.node (tu [vs "left" 446,vs "op" 447,vs "right" 448]) (.node (tu [vi 63744 632,vi 64975 633]) (.node (tu []) .nil .nil) (.node (co [vs "_law_some" 1383,vs "_law_some" 1384,vs "/claim/cut.py" 1385,vi 594 0,vi 3 0,vi 0 0,vi 0 0,vi 3 0,vr 844,vT,vi 181 0,vr 845,vn,vn,vn,vr 846,vi 1386 0,vi 594 0,vs "/claim/cut.py" 1387]) .nil .nil)) (.node (fl []) (.node (tu [vs "self" 1215,vs "word" 1216,vs "target" 1217]) .nil .nil) .nil))) (.node (tu [vs "self" 322,vs "value" 323]) (.node (tu []) (.node (co [vs "Step" 572,vs "Step" 573,vs "/claim/cut.py" 574,vi 95 0,vi 0 0,vi 0 0,vi 0 0,vi 0 0,vr 301,vF,vi 181 0,vr 302,vn,vn,vn,vn,vi 575 0,vi 95 0,vs "/claim/cut.py" 576]) (.node (tu []) .nil .nil) (.node (o815 P) .nil .nil)) (.node (co [vs "PathScanner" 793,vs "PathScanner" 794,vs "/claim/cut.py" 795,vi 153 0,vi 0 0,vi 0 0,vi 0 0,vi 0 0,vr 429,vF,vi 181 0,vr 430,vn,vn,vn,vn,vi 796 0,vi 153 0,vs "/claim/cut.py" 797]) (.node (cf "arguments" "PathReader.arguments" 1171 412 1 682 1176) .nil .nil) .nil)) (.node (ob (vt "getset_descriptor") none (flds [vs "__weakref__" 488,vr 237,vb "ExceptionGroup.__weakref__",vn]) []) (.node (tu []) (.node (ob vn none (fnD (stM 47 5) "whole" "PathReader.whole" 0 [] vn vn vn vn none vn vn 0) []) .nil .nil) (.node (ob vn none (fnD (stT 76) "law" "law" 0 [] vn vn vn vn none vn vn 0) []) .nil .nil)) (.node (cf "figures" "PathScanner.figures" 869 211 1 490 873) (.node (o751 P) .nil .nil) .nil))))) (.node (fl []) (.node (fl []) (.node (ob vn none (fnD (stT 8) "rows_of" "rows_of" 0 [] vn vn vn vn none vn vn 0) []) (.node (co [vs "VariableNode" 345,vs "VariableNode" 346,vs "/claim/cut.py" 347,vi 45 0,vi 0 0,vi 0 0,vi 0 0,vi 0 0,vr 133,vF,vi 181 0,vr 134,vn,vn,vn,vn,vi 348 0,vi 45 0,vs "/claim/cut.py" 349]) (.node (tu [vs "base" 521,vs "predicates" 522]) (.node (fl []) .nil .nil) (.node (tu [vs "node" 1295,vs "level" 1296,vs "text" 1297]) .nil .nil)) (.node (tu []) (.node (tu []) .nil .nil) .nil)) (.node (o199 P) (.node (tu [vi 216 616,vi 246 617]) (.node (fr 582 3 579 (vs "markupmill.xpath_grammar" 949)) .nil .nil) (.node (tu [vs "source" 1375,vs "depth" 1376,vs "axes" 1377,vs "along" 1378,vs "tests" 1379]) .nil .nil)) (.node (tu []) (.node (fl []) .nil .nil) .nil))) (.node (ob (vt "builtin_function_or_method") none (flds [vb "type.__prepare__",vt "type"]) []) (.node (tu [vs "self" 394,vs "name" 395,vs "arguments" 396]) (.node (ob (vt "getset_descriptor") none (flds [vs "__weakref__" 565,vr 293,vb "ExceptionGroup.__weakref__",vn]) []) (.node (cf "path_words" "path_words" 942 283 1 546 946) .nil .nil) (.node (co [vs "write_path" 1328,vs "write_path" 1329,vs "/claim/cut.py" 1330,vi 542 0,vi 1 0,vi 0 0,vi 0 0,vi 3 0,vr 804,vT,vi 181 0,vr 805,vn,vn,vn,vr 806,vi 1331 0,vi 542 0,vs "/claim/cut.py" 1332]) .nil .nil)) (.node (ob (vt "getset_descriptor") none (flds [vs "__weakref__" 786,vr 421,vb "ExceptionGroup.__weakref__",vn]) []) (.node (ob vn none (fnD (stM 47 13) "primary" "PathReader.primary" 0 [] vn vn vn vn none vn vn 0) []) .nil .nil) .nil)) (.node (tu []) (.node (tu [vs "sign" 668]) (.node (tu []) .nil .nil) (.node (tu []) .nil .nil)) (.node (ob vn none (fnD (stM 37 7) "number" "PathScanner.number" 0 [] vn vn vn vn none vn vn 0) []) (.node (cf "parse_path" "parse_path" 1240 479 1 738 1244) .nil .nil) .nil)))) (.node (fl []) (.node (o87 P) (.node (tu [vs "name" 370]) (.node (tu [vs "self" 546,vs "start" 547,vs "steps" 548]) (.node (tu []) .nil .nil) (.node (fl []) .nil .nil)) (.node (tu [vs "self" 768,vs "text" 769]) (.node (tu [vs "self" 1148,vs "word" 1149]) .nil .nil) .nil)) (.node (ob (vt "builtin_function_or_method") none (flds [vb "type.__prepare__",vt "type"]) []) (.node (tu []) (.node (fl []) .nil .nil) (.node (fl []) .nil .nil)) (.node (tu [vs "self" 848,vs "word" 849]) (.node (tu []) .nil .nil) .nil))) (.node (tu []) (.node (ob (vt "getset_descriptor") none (flds [vs "__weakref__" 412,vr 181,vb "ExceptionGroup.__weakref__",vn]) []) (.node (o311 P) (.node (ob vn none (fnD (stT 45) "name_test" "name_test" 0 [] vn vn vn vn none vn vn 0) []) .nil .nil) (.node (tu []) .nil .nil)) (.node (o439 P) (.node (o695 P) .nil .nil) .nil)) (.node (co [vs "Filter" 495,vs "Filter" 496,vs "/claim/cut.py" 497,vi 76 0,vi 0 0,vi 0 0,vi 0 0,vi 0 0,vr 245,vF,vi 181 0,vr 246,vn,vn,vn,vn,vi 498 0,vi 76 0,vs "/claim/cut.py" 499]) (.node (ob vn none (fnD (stT 27) "is_name_char" "is_name_char" 0 [] vn vn vn vn none vn vn 0) []) (.node (cf "expression" "PathReader.expression" 1098 332 2 626 1107) .nil .nil) .nil) (.node (o503 P) (.node (tu []) .nil .nil) .nil)))))) (.node (tu []) (.node (fl [vi 4 0,vi 4 0,vr 27]) (.node (tu [vr 31]) (.node (cf "number_of" "number_of" 254 21 2 62 260) (.node (ob (vt "builtin_function_or_method") none (flds [vb "type.__prepare__",vt "type"]) []) (.node (tu []) (.node (ob vn none (fnD (stM 37 11) "plain_name" "PathScanner.plain_name" 0 [] vn vn vn vn none vn vn 0) []) .nil .nil) (.node (cf "test_text" "test_text" 1285 516 1 766 1289) .nil .nil)) (.node (tu []) (.node (tu []) .nil .nil) .nil)) (.node (tu [vs "self" 432,vs "op" 433,vs "left" 434,vs "right" 435]) (.node (ob (vt "getset_descriptor") none (flds [vs "__weakref__" 605,vr 321,vb "ExceptionGroup.__weakref__",vn]) []) (.node (di [(de P "__module__" 1046 (vs "markupmill.xpath_grammar" 949)),(de P "__qualname__" 1048 (vs "PathReader" 1047)),(de P "__firstlineno__" 1050 (vi 302 1049)),(de P "__init__" 1058 (vr 590)),(de P "here" 1065 (vr 597)),(de P "go" 1073 (vr 604)),(de P "refuse" 1081 (vr 611)),(de P "need" 1089 (vr 618)),(de P "whole" 1097 (vr 625)),(de P "expression" 1109 (vr 632)),(de P "counted" 1117 (vr 639)),(de P "level" 1125 (vr 646)),(de P "negated" 1135 (vr 653)),(de P "union" 1144 (vr 660)),(de P "path" 1152 (vr 667)),(de P "from_primary" 1161 (vr 674)),(de P "primary" 1170 (vr 681)),(de P "arguments" 1178 (vr 688)),(de P "is_step" 1186 (vr 695)),(de P "steps" 1194 (vr 702)),(de P "one_step" 1203 (vr 709)),(de P "axis" 1211 (vr 716)),(de P "test" 1220 (vr 723)),(de P "predicates" 1228 (vr 730)),(de P "__static_attributes__" 1232 (vr 731))] 25) .nil .nil) (.node (cf "_law_leaf" "_law_leaf" 1364 576 1 830 1369) .nil .nil)) (.node (tu []) (.node (ob vn none (fnD (stM 47 17) "one_step" "PathReader.one_step" 0 [] vn vn vn vn none vn vn 0) []) .nil .nil) .nil))) (.node (ob (vt "getset_descriptor") none (flds [vs "__weakref__" 302,vr 97,vb "ExceptionGroup.__weakref__",vn]) []) (.node (co [vs "Call" 381,vs "Call" 382,vs "/claim/cut.py" 383,vi 52 0,vi 0 0,vi 0 0,vi 0 0,vi 0 0,vr 161,vF,vi 181 0,vr 162,vn,vn,vn,vn,vi 384 0,vi 52 0,vs "/claim/cut.py" 385]) (.node (tu [vs "start" 560,vs "steps" 561]) (.node (fl []) .nil .nil) (.node (o803 P) .nil .nil)) (.node (tu [vs "kind" 780,vs "place" 781,vs "text" 782]) (.node (tu []) .nil .nil) .nil)) (.node (o227 P) (.node (cf "is_space" "is_space" 658 116 1 350 662) (.node (o611 P) .nil .nil) (.node (o867 P) .nil .nil)) (.node (tu []) (.node (fl []) .nil .nil) .nil)))) (.node (ob vn none (fnD (stT 4) "common_divisor" "common_divisor" 0 [] vn vn vn vn none vn vn 0) []) (.node (tu [vs "self" 286,vs "value" 287]) (.node (tu []) (.node (co [vs "Path" 533,vs "Path" 534,vs "/claim/cut.py" 535,vi 84 0,vi 0 0,vi 0 0,vi 0 0,vi 0 0,vr 273,vF,vi 181 0,vr 274,vn,vn,vn,vn,vi 536 0,vi 84 0,vs "/claim/cut.py" 537]) (.node (o531 P) .nil .nil) (.node (ob vn none (fnD (stT 61) "steps_text" "steps_text" 0 [] vn vn vn vn none vn vn 0) []) .nil .nil)) (.node (cf "is_sign" "Word.is_sign" 757 145 2 398 762) (.node (cf "union" "PathReader.union" 1136 366 1 654 1142) .nil .nil) .nil)) (.node (ob (vt "getset_descriptor") none (flds [vs "__weakref__" 452,vr 209,vb "ExceptionGroup.__weakref__",vn]) []) (.node (tu [vi 183 639,vi 183 640]) (.node (ob vn none (fnD (stM 47 1) "here" "PathReader.here" 0 [] vn vn vn vn none vn vn 0) []) .nil .nil) (.node (ob vn none (fnD (stT 72) "_law_drawn" "_law_drawn" 0 [] vn vn vn vn none vn vn 0) []) .nil .nil)) (.node (cf "skip" "PathScanner.skip" 838 175 1 462 842) (.node (o723 P) .nil .nil) .nil))) (.node (o115 P) (.node (tu [vs "arguments" 407,vs "name" 408]) (.node (tu [vs "self" 585,vs "axis" 586,vs "test" 587,vs "predicates" 588]) (.node (tu []) .nil .nil) (.node (tu []) .nil .nil)) (.node (tu [vs "self" 806,vs "text" 807]) (.node (tu [vs "self" 1182,vs "word" 1183]) .nil .nil) .nil)) (.node (ob (vt "builtin_function_or_method") none (flds [vb "type.__prepare__",vt "type"]) []) (.node (tu []) (.node (fl []) .nil .nil) .nil) (.node (tu [vs "self" 879,vs "quote" 880,vs "begin" 881,vs "end" 882]) (.node (tu []) .nil .nil) .nil))))) (.node (cf "__init__" "MarkupError.__init__" 201 4 2 22 206) (.node (o43 P) (.node (ob (vt "builtin_function_or_method") none (flds [vb "type.__prepare__",vt "type"]) []) (.node (tu [vs "self" 358,vs "name" 359]) (.node (ob (vt "getset_descriptor") none (flds [vs "__weakref__" 526,vr 265,vb "ExceptionGroup.__weakref__",vn]) []) (.node (cf "qualified" "PathScanner.qualified" 903 239 1 518 909) .nil .nil) (.node (o779 P) .nil .nil)) (.node (ob vn none (fnD (stM 36 0) "__init__" "Word.__init__" 0 [] vn vn vn vn none vn vn 0) []) (.node (ob vn none (fnD (stM 47 9) "negated" "PathReader.negated" 0 [] vn vn vn vn none vn vn 0) []) .nil .nil) .nil)) (.node (tu []) (.node (tu [vi 8204 624,vi 8205 625]) (.node (tu []) .nil .nil) (.node (o843 P) .nil .nil)) (.node (ob vn none (fnD (stM 37 3) "run" "PathScanner.run" 0 [] vn vn vn vn none vn vn 0) []) (.node (cf "axis" "PathReader.axis" 1204 445 1 710 1209) .nil .nil) .nil))) (.node (co [vs "NumberNode" 309,vs "NumberNode" 310,vs "/claim/cut.py" 311,vi 38 0,vi 0 0,vi 0 0,vi 0 0,vi 0 0,vr 105,vF,vi 181 0,vr 106,vn,vn,vn,vn,vi 312 0,vi 38 0,vs "/claim/cut.py" 313]) (.node (o171 P) (.node (ob (vt "builtin_function_or_method") none (flds [vb "type.__prepare__",vt "type"]) []) (.node (tu [vs "literal" 1007,vs "number" 1008,vs "variable" 1009,vs "function" 1010]) .nil .nil) (.node (tu [vs "script" 1339,vs "digits" 1340,vs "mixed" 1341,vs "number" 1342,vs "size" 1343]) .nil .nil)) (.node (ob (vt "builtin_function_or_method") none (flds [vb "type.__prepare__",vt "type"]) []) (.node (fl []) .nil .nil) .nil)) (.node (tu [vs "value" 484]) (.node (o363 P) (.node (tu []) .nil .nil) (.node (tu []) .nil .nil)) (.node (fl []) (.node (tu [vs "node" 1262,vs "levels" 1263]) .nil .nil) .nil)))) (.node (cf "sign_of" "sign_of" 246 15 1 54 250) (.node (tu []) (.node (ob (vt "getset_descriptor") none (flds [vs "__weakref__" 374,vr 153,vb "ExceptionGroup.__weakref__",vn]) []) (.node (o283 P) (.node (tu [vs "at" 931,vs "found" 932,vs "text" 933]) .nil .nil) (.node (cf "binary_text" "binary_text" 1313 533 1 790 1318) .nil .nil)) (.node (o411 P) (.node (o667 P) .nil .nil) .nil)) (.node (co [vs "Negated" 459,vs "Negated" 460,vs "/claim/cut.py" 461,vi 69 0,vi 0 0,vi 0 0,vi 0 0,vi 0 0,vr 217,vF,vi 181 0,vr 218,vn,vn,vn,vn,vi 462 0,vi 69 0,vs "/claim/cut.py" 463]) (.node (ob vn none (fnD (stT 23) "is_in_ranges" "is_in_ranges" 0 [] vn vn vn vn none vn vn 0) []) (.node (cf "go" "PathReader.go" 1066 312 1 598 1071) .nil .nil) (.node (cf "_law_short" "_law_short" 1395 612 1 854 1400) .nil .nil)) (.node (o475 P) (.node (tu [vs "at" 1229,vs "depth" 1230,vs "words" 1231]) .nil .nil) .nil))) (.node (tu [vs "value" 334]) (.node (ob (vt "builtin_function_or_method") none (flds [vb "type.__prepare__",vt "type"]) []) (.node (tu []) (.node (fl []) .nil .nil) (.node (ob vn none (fnD (stT 68) "_law_one" "_law_one" 0 [] vn vn vn vn none vn vn 0) []) .nil .nil)) (.node (tu [vs "self" 815,vs "ahead" 816,vs "place" 817]) (.node (tu []) .nil .nil) .nil)) (.node (tu [vs "self" 508,vs "base" 509,vs "predicates" 510]) (.node (tu [vs "/" 697,vs "//" 698,vs "|" 699,vs "+" 700,vs "-" 701,vs "=" 702,vs "!=" 703,vs "<" 704,vs "<=" 705,vs ">" 706,vs ">=" 707]) (.node (tu [vs "self" 1113,vs "many" 1114]) .nil .nil) .nil) (.node (tu []) (.node (ob vn none (fnD (stT 57) "decimal_text" "decimal_text" 0 [] vn vn vn vn none vn vn 0) []) .nil .nil) .nil))))))) (.node (boot_o_5 P) (.node (boot_o_9 P) (.node (di [(de P "__module__" 196 (vs "markupmill.errors" 187)),(de P "__qualname__" 198 (vs "MarkupError" 197)),(de P "__firstlineno__" 200 (vi 2 199)),(de P "__init__" 208 (vr 28)),(de P "__static_attributes__" 210 (vr 29))] 5) (.node (ob (vt "super") none (flds [vr 31,vr 31,vr 31]) []) (.node (tu []) (.node (ob (vt "builtin_function_or_method") none (flds [vb "object.__init_subclass__",vr 125]) []) (.node (fl []) (.node (tu [vs "self" 898,vs "begin" 899]) .nil .nil) (.node (tu []) .nil .nil)) (.node (ob (vt "builtin_function_or_method") none (flds [vb "type.__prepare__",vt "type"]) []) (.node (fl []) .nil .nil) .nil)) (.node (tu []) (.node (o321 P) (.node (tu []) .nil .nil) (.node (tu []) .nil .nil)) (.node (fl []) (.node (tu [vs "self" 1198,vs "word" 1199,vs "axis" 1200]) .nil .nil) .nil))) (.node (o97 P) (.node (tu []) (.node (cf "row" "Path.row" 552 90 1 284 557) (.node (ob (vt "builtin_function_or_method") none (flds [vb "object.__init_subclass__",vr 541]) []) .nil .nil) (.node (ob vn none (fnD (stT 63) "path_text" "path_text" 0 [] vn vn vn vn none vn vn 0) []) .nil .nil)) (.node (cf "row" "Word.row" 773 151 1 412 777) (.node (cf "from_primary" "PathReader.from_primary" 1153 385 1 668 1159) .nil .nil) .nil)) (.node (ob vn none (fnD (stM 14 0) "__init__" "Negated.__init__" 0 [] vn vn vn vn none vn vn 0) []) (.node (tu []) (.node (ob vn none (fnD (stM 47 3) "refuse" "PathReader.refuse" 0 [] vn vn vn vn none vn vn 0) []) .nil .nil) (.node (ob vn none (fnD (stT 74) "_law_alike" "_law_alike" 0 [] vn vn vn vn none vn vn 0) []) .nil .nil)) (.node (cf "step" "PathScanner.step" 853 187 1 476 858) (.node (ob (vt "builtin_function_or_method") none (flds [vb "object.__init_subclass__",vr 733]) []) .nil .nil) .nil)))) (.node (tu [vs "one" 239,vs "other" 240,vs "first" 241,vs "second" 242]) (.node (tu []) (.node (fl []) (.node (tu []) (.node (ob vn none (fnD (stM 37 13) "name" "PathScanner.name" 0 [] vn vn vn vn none vn vn 0) []) .nil .nil) (.node (tu []) .nil .nil)) (.node (tu []) (.node (tu []) .nil .nil) .nil)) (.node (o209 P) (.node (tu [vi 65536 636,vi 983039 637]) (.node (tu [vs "self" 1062]) .nil .nil) (.node (tu []) .nil .nil)) (.node (tu []) (.node (ob vn none (fnD (stM 47 19) "test" "PathReader.test" 0 [] vn vn vn vn none vn vn 0) []) .nil .nil) .nil))) (.node (ob vn none (fnD (stM 10 0) "__init__" "NumberNode.__init__" 0 [] vn vn vn vn none vn vn 0) []) (.node (cf "row" "Call.row" 400 58 1 172 404) (.node (tu []) (.node (cf "any_step" "any_step" 1012 290 1 556 1016) .nil .nil) (.node (fl []) .nil .nil)) (.node (tu []) (.node (tu []) .nil .nil) .nil)) (.node (ob (vt "builtin_function_or_method") none (flds [vb "object.__init_subclass__",vr 237]) []) (.node (cf "is_name_start" "is_name_start" 672 120 1 364 676) (.node (o625 P) .nil .nil) (.node (o881 P) .nil .nil)) (.node (tu []) (.node (fl []) .nil .nil) .nil))))) (.node (tu []) (.node (fr 40 3 37 (vs "markupmill.errors" 187)) (.node (o73 P) (.node (tu []) (.node (o265 P) (.node (tu []) .nil .nil) (.node (ob vn none (fnD (stT 59) "at_least" "at_least" 0 [] vn vn vn vn none vn vn 0) []) .nil .nil)) (.node (tu [vs "self" 750,vs "kind" 751,vs "text" 752,vs "place" 753]) (.node (tu [vs "self" 1129,vs "many" 1130,vs "found" 1131,vs "turn" 1132]) .nil .nil) .nil)) (.node (fl []) (.node (tu [vi 880 620,vi 893 621]) (.node (fl []) .nil .nil) (.node (ob vn none (fnD (stT 70) "_law_step" "_law_step" 0 [] vn vn vn vn none vn vn 0) []) .nil .nil)) (.node (tu [vs "self" 834]) (.node (tu []) .nil .nil) .nil))) (.node (tu []) (.node (ob vn none (fnD (stM 12 0) "__init__" "Call.__init__" 0 [] vn vn vn vn none vn vn 0) []) (.node (ob (vt "builtin_function_or_method") none (flds [vb "object.__init_subclass__",vr 293]) []) (.node (tu [vs "ancestor" 953,vs "ancestor-or-self" 954,vs "attribute" 955,vs "child" 956,vs "descendant" 957,vs "descendant-or-self" 958,vs "following" 959,vs "following-sibling" 960,vs "namespace" 961,vs "parent" 962,vs "preceding" 963,vs "preceding-sibling" 964,vs "self" 965]) .nil .nil) (.node (tu []) .nil .nil)) (.node (ob (vt "builtin_function_or_method") none (flds [vb "object.__init_subclass__",vr 421]) []) (.node (o681 P) .nil .nil) .nil)) (.node (cf "row" "Negated.row" 477 74 1 228 481) (.node (ob vn none (fnD (stT 25) "is_small_letter" "is_small_letter" 0 [] vn vn vn vn none vn vn 0) []) (.node (cf "need" "PathReader.need" 1082 321 2 612 1087) .nil .nil) (.node (cf "_law_is_none" "_law_is_none" 1412 624 1 868 1416) .nil .nil)) (.node (o489 P) (.node (tu []) .nil .nil) .nil)))) (.node (tu []) (.node (fl []) (.node (o153 P) (.node (ob vn none (fnD (stM 16 0) "__init__" "Path.__init__" 0 [] vn vn vn vn none vn vn 0) []) (.node (cf "mark" "PathScanner.mark" 922 271 1 532 928) .nil .nil) (.node (tu []) .nil .nil)) (.node (ob vn none (fnD (stM 36 2) "is_operator" "Word.is_operator" 0 [] vn vn vn vn none vn vn 0) []) (.node (ob vn none (fnD (stM 47 11) "path" "PathReader.path" 0 [] vn vn vn vn none vn vn 0) []) .nil .nil) .nil)) (.node (tu []) (.node (tu [vs "code" 651,vs "ranges" 652,vs "low" 653,vs "high" 654]) (.node (tu []) .nil .nil) (.node (tu []) .nil .nil)) (.node (ob vn none (fnD (stM 37 5) "is_behind_operand" "PathScanner.is_behind_operand" 0 [] vn vn vn vn none vn vn 0) []) (.node (cf "predicates" "PathReader.predicates" 1221 472 1 724 1226) .nil .nil) .nil))) (.node (cf "row" "NumberNode.row" 327 43 1 116 331) (.node (ob (vt "builtin_function_or_method") none (flds [vb "object.__init_subclass__",vr 181]) []) (.node (fl []) (.node (o569 P) .nil .nil) (.node (tu [vs "source" 1359,vs "things" 1360]) .nil .nil)) (.node (tu []) (.node (fl []) .nil .nil) .nil)) (.node (tu []) (.node (o377 P) (.node (tu []) .nil .nil) .nil) (.node (fl []) (.node (tu [vs "value" 1277,vs "top" 1278,vs "bottom" 1279,vs "figures" 1280,vs "shown" 1281]) .nil .nil) .nil)))))) (.node (co [vs "<module>" 182,vs "<module>" 183,vs "/claim/cut.py" 184,vi 1 0,vi 0 0,vi 0 0,vi 0 0,vi 0 0,vr 11,vF,vi 181 0,vr 12,vn,vn,vn,vn,vi 185 0,vi 1 0,vs "/claim/cut.py" 186]) (.node (fr 20 3 17 (vs "markupmill.errors" 187)) (.node (di [(de P "__module__" 225 (vs "markupmill.errors" 187)),(de P "__qualname__" 227 (vs "PathFault" 226)),(de P "__firstlineno__" 229 (vi 7 228)),(de P "__static_attributes__" 230 (vr 42))] 4) (.node (tu []) (.node (tu []) (.node (cf "row" "Filter.row" 514 82 1 256 518) (.node (o517 P) .nil .nil) (.node (tu []) .nil .nil)) (.node (co [vs "Word" 737,vs "Word" 738,vs "/claim/cut.py" 739,vi 138 0,vi 0 0,vi 0 0,vi 0 0,vi 0 0,vr 387,vF,vi 181 0,vr 388,vn,vn,vn,vn,vi 740 0,vi 138 0,vs "/claim/cut.py" 741]) (.node (cf "level" "PathReader.level" 1118 350 1 640 1123) .nil .nil) .nil)) (.node (ob vn none (fnD (stM 13 0) "__init__" "Binary.__init__" 0 [] vn vn vn vn none vn vn 0) []) (.node (ob (vt "builtin_function_or_method") none (flds [vb "object.__init_subclass__",vr 321]) []) (.node (fl [vi 304 0,vi 4 0,vr 589,vi 309 0,vi 4 0,vr 596,vi 312 0,vi 4 0,vr 603,vi 318 0,vi 4 0,vr 610,vi 321 0,vi 4 0,vr 617,vi 326 0,vi 4 0,vr 624,vi 332 0,vi 4 0,vr 631,vi 345 0,vi 4 0,vr 638,vi 350 0,vi 4 0,vr 645,vi 354 0,vi 4 0,vr 652,vi 366 0,vi 4 0,vr 659,vi 373 0,vi 4 0,vr 666,vi 385 0,vi 4 0,vr 673,vi 398 0,vi 4 0,vr 680,vi 412 0,vi 4 0,vr 687,vi 423 0,vi 4 0,vr 694,vi 427 0,vi 4 0,vr 701,vi 435 0,vi 4 0,vr 708,vi 445 0,vi 4 0,vr 715,vi 458 0,vi 4 0,vr 722,vi 472 0,vi 4 0,vr 729]) .nil .nil) (.node (tu []) .nil .nil)) (.node (cf "add" "PathScanner.add" 821 164 4 448 828) (.node (o709 P) .nil .nil) .nil))) (.node (ob (vt "builtin_function_or_method") none (flds [vb "object.__init_subclass__",vr 97]) []) (.node (tu []) (.node (o293 P) (.node (tu []) .nil .nil) (.node (fl []) .nil .nil)) (.node (o421 P) (.node (tu [vs "self" 1165,vs "word" 1166,vs "found" 1167]) .nil .nil) .nil)) (.node (fl []) (.node (tu []) (.node (fl []) .nil .nil) (.node (fl []) .nil .nil)) (.node (tu [vs "self" 864,vs "begin" 865]) (.node (tu []) .nil .nil) .nil)))) (.node (o53 P) (.node (ob vn none (fnD (stM 9 0) "__init__" "Literal.__init__" 0 [] vn vn vn vn none vn vn 0) []) (.node (cf "row" "VariableNode.row" 363 50 1 144 367) (.node (tu []) (.node (fl []) .nil .nil) (.node (o789 P) .nil .nil)) (.node (tu []) (.node (tu []) .nil .nil) .nil)) (.node (ob (vt "builtin_function_or_method") none (flds [vb "object.__init_subclass__",vr 209]) []) (.node (tu [vi 8255 643,vi 8256 644]) (.node (o597 P) .nil .nil) (.node (o853 P) .nil .nil)) (.node (tu []) (.node (fl []) .nil .nil) .nil))) (.node (fl []) (.node (o181 P) (.node (ob vn none (fnD (stM 17 0) "__init__" "Step.__init__" 0 [] vn vn vn vn none vn vn 0) []) (.node (tu [vs "text" 1022,vs "prefix" 1023,vs "colon" 1024,vs "local" 1025]) .nil .nil) (.node (cf "_law_take" "_law_take" 1347 567 2 816 1353) .nil .nil)) (.node (ob vn none (fnD (stM 37 0) "__init__" "PathScanner.__init__" 0 [] vn vn vn vn none vn vn 0) []) (.node (ob vn none (fnD (stM 47 15) "is_step" "PathReader.is_step" 0 [] vn vn vn vn none vn vn 0) []) .nil .nil) .nil)) (.node (tu []) (.node (tu [vs "sign" 682]) (.node (tu []) .nil .nil) .nil) (.node (ob vn none (fnD (stM 37 9) "literal" "PathScanner.literal" 0 [] vn vn vn vn none vn vn 0) []) (.node (cf "quoted" "quoted" 1267 496 1 752 1271) .nil .nil) .nil))))) (.node (tu [vs "message" 209]) (.node (ob (vt "super") none (flds [vr 44,vr 44,vr 44]) []) (.node (tu []) (.node (ob vn none (fnD (stM 11 0) "__init__" "VariableNode.__init__" 0 [] vn vn vn vn none vn vn 0) []) (.node (ob (vt "builtin_function_or_method") none (flds [vb "object.__init_subclass__",vr 265]) []) (.node (tu []) .nil .nil) (.node (fl []) .nil .nil)) (.node (o397 P) (.node (o653 P) .nil .nil) .nil)) (.node (cf "row" "Binary.row" 439 67 1 200 443) (.node (tu [vi 11264 628,vi 12271 629]) (.node (cf "__init__" "PathReader.__init__" 1051 304 2 584 1056) .nil .nil) (.node (fl []) .nil .nil)) (.node (o461 P) (.node (tu []) .nil .nil) .nil))) (.node (tu []) (.node (fl []) (.node (tu []) (.node (fl []) .nil .nil) (.node (ob vn none (fnD (stT 66) "_law_pool" "_law_pool" 0 [] vn vn vn vn none vn vn 0) []) .nil .nil)) (.node (tu []) (.node (tu []) .nil .nil) .nil)) (.node (o237 P) (.node (fl []) (.node (tu [vs "self" 1093,vs "found" 1094]) .nil .nil) (.node (tu [vs "script" 1422,vs "source" 1423,vs "node" 1424,vs "text" 1425,vs "read" 1426,vs "short" 1427,vs "long" 1428,vs "odds" 1429]) .nil .nil)) (.node (tu []) (.node (ob vn none (fnD (stT 55) "level_of" "level_of" 0 [] vn vn vn vn none vn vn 0) []) .nil .nil) .nil)))) (.node (tu [vi 1 253]) (.node (cf "row" "Literal.row" 291 36 1 88 295) (.node (ob (vt "builtin_function_or_method") none (flds [vb "object.__init_subclass__",vr 153]) []) (.node (fl []) (.node (o541 P) .nil .nil) (.node (tu []) .nil .nil)) (.node (fl []) (.node (fl []) .nil .nil) .nil)) (.node (tu []) (.node (o349 P) (.node (tu []) .nil .nil) (.node (tu []) .nil .nil)) (.node (fl []) (.node (o733 P) .nil .nil) .nil))) (.node (o125 P) (.node (tu []) (.node (cf "row" "Step.row" 592 102 1 312 596) (.node (tu []) .nil .nil) (.node (o829 P) .nil .nil)) (.node (ob vn none (fnD (stM 37 1) "sign" "PathScanner.sign" 0 [] vn vn vn vn none vn vn 0) []) (.node (cf "steps" "PathReader.steps" 1187 427 1 696 1192) .nil .nil) .nil)) (.node (ob vn none (fnD (stM 15 0) "__init__" "Filter.__init__" 0 [] vn vn vn vn none vn vn 0) []) (.node (tu [vs "and" 719,vs "or" 720,vs "mod" 721,vs "div" 722]) (.node (ob vn none (fnD (stM 47 7) "counted" "PathReader.counted" 0 [] vn vn vn vn none vn vn 0) []) .nil .nil) .nil) (.node (cf "variable" "PathScanner.variable" 886 223 1 504 892) (.node (o765 P) .nil .nil) .nil)))))))) (.node c (.node (boot_o_4 P) (.node (boot_o_8 P) (.node (ob (vt "builtin_function_or_method") none (flds [vb "type.__prepare__",vt "type"]) []) (.node (ob (vt "getset_descriptor") none (flds [vs "__weakref__" 211,vr 31,vb "ExceptionGroup.__weakref__",vn]) []) (.node (tu [vs "top" 257,vs "bottom" 258,vs "common" 259]) (.node (ob (vt "super") none (flds [vr 125,vr 125,vr 125]) []) (.node (tu []) (.node (fl []) .nil .nil) (.node (tu [vs "test" 1288]) .nil .nil)) (.node (tu []) (.node (tu []) .nil .nil) .nil)) (.node (fr 191 3 188 (vs "markupmill.xpath_nodes" 263)) (.node (o320 P) (.node (o576 P) .nil .nil) (.node (tu [vs "source" 1367,vs "way" 1368]) .nil .nil)) (.node (tu []) (.node (fl []) .nil .nil) .nil))) (.node (o96 P) (.node (di [(de P "__module__" 386 (vs "markupmill.xpath_nodes" 263)),(de P "__qualname__" 388 (vs "Call" 387)),(de P "__firstlineno__" 390 (vi 52 389)),(de P "__init__" 399 (vr 171)),(de P "row" 406 (vr 178)),(de P "__static_attributes__" 409 (vr 179))] 6) (.node (ob vn none (fnD (stM 16 1) "row" "Path.row" 0 [] vn vn vn vn none vn vn 0) []) (.node (ob (vt "super") none (flds [vr 541,vr 541,vr 541]) []) .nil .nil) (.node (tu []) .nil .nil)) (.node (ob vn none (fnD (stM 36 3) "row" "Word.row" 0 [] vn vn vn vn none vn vn 0) []) (.node (ob vn none (fnD (stM 47 12) "from_primary" "PathReader.from_primary" 0 [] vn vn vn vn none vn vn 0) []) .nil .nil) .nil)) (.node (tu []) (.node (tu [vs "sign" 661]) (.node (tu []) .nil .nil) (.node (tu []) .nil .nil)) (.node (ob vn none (fnD (stM 37 6) "step" "PathScanner.step" 0 [] vn vn vn vn none vn vn 0) []) (.node (ob (vt "super") none (flds [vr 733,vr 733,vr 733]) []) .nil .nil) .nil)))) (.node (fl []) (.node (fr 79 3 76 (vs "markupmill.xpath_nodes" 263)) (.node (tu []) (.node (di [(de P "__module__" 538 (vs "markupmill.xpath_nodes" 263)),(de P "__qualname__" 540 (vs "Path" 539)),(de P "__firstlineno__" 542 (vi 84 541)),(de P "__init__" 551 (vr 283)),(de P "row" 559 (vr 290)),(de P "__static_attributes__" 562 (vr 291))] 6) (.node (tu []) .nil .nil) (.node (o784 P) .nil .nil)) (.node (tu [vs "self" 760,vs "text" 761]) (.node (tu [vs "self" 1139,vs "found" 1140,vs "many" 1141]) .nil .nil) .nil)) (.node (o208 P) (.node (tu [vi 65008 634,vi 65533 635]) (.node (fl []) .nil .nil) (.node (o848 P) .nil .nil)) (.node (tu [vs "self" 841]) (.node (tu []) .nil .nil) .nil))) (.node (tu []) (.node (ob vn none (fnD (stM 12 1) "row" "Call.row" 0 [] vn vn vn vn none vn vn 0) []) (.node (fr 303 3 300 (vs "markupmill.xpath_nodes" 263)) (.node (ob vn none (fnD (stT 44) "any_step" "any_step" 0 [] vn vn vn vn none vn vn 0) []) .nil .nil) (.node (tu []) .nil .nil)) (.node (fr 431 3 428 (vs "markupmill.xpath_words" 686)) (.node (o688 P) .nil .nil) .nil)) (.node (ob (vt "super") none (flds [vr 237,vr 237,vr 237]) []) (.node (ob vn none (fnD (stT 26) "is_name_start" "is_name_start" 0 [] vn vn vn vn none vn vn 0) []) (.node (cf "whole" "PathReader.whole" 1090 326 1 619 1095) .nil .nil) (.node (cf "law" "law" 1419 630 1 875 1430) .nil .nil)) (.node (o496 P) (.node (tu []) .nil .nil) .nil))))) (.node (tu [vs "self" 204,vs "message" 205]) (.node (co [vs "PathFault" 220,vs "PathFault" 221,vs "/claim/cut.py" 222,vi 7 0,vi 0 0,vi 0 0,vi 0 0,vi 0 0,vr 38,vF,vi 181 0,vr 39,vn,vn,vn,vn,vi 223 0,vi 7 0,vs "/claim/cut.py" 224]) (.node (co [vs "rows_of" 265,vs "rows_of" 266,vs "/claim/cut.py" 267,vi 29 0,vi 1 0,vi 0 0,vi 0 0,vi 3 0,vr 69,vT,vi 181 0,vr 70,vn,vn,vn,vr 71,vi 268 0,vi 29 0,vs "/claim/cut.py" 269]) (.node (fr 135 3 132 (vs "markupmill.xpath_nodes" 263)) (.node (o264 P) (.node (tu [vs "self" 906,vs "first" 907,vs "second" 908]) .nil .nil) (.node (tu []) .nil .nil)) (.node (fl []) (.node (fl []) .nil .nil) .nil)) (.node (tu []) (.node (tu [vi 248 618,vi 767 619]) (.node (tu []) .nil .nil) (.node (tu []) .nil .nil)) (.node (fl []) (.node (tu [vs "self" 1207,vs "word" 1208]) .nil .nil) .nil))) (.node (di [(de P "__module__" 314 (vs "markupmill.xpath_nodes" 263)),(de P "__qualname__" 316 (vs "NumberNode" 315)),(de P "__firstlineno__" 318 (vi 38 317)),(de P "__init__" 326 (vr 115)),(de P "row" 333 (vr 122)),(de P "__static_attributes__" 335 (vr 123))] 6) (.node (tu []) (.node (ob (vt "super") none (flds [vr 293,vr 293,vr 293]) []) (.node (o552 P) .nil .nil) (.node (o808 P) .nil .nil)) (.node (ob (vt "super") none (flds [vr 421,vr 421,vr 421]) []) (.node (cf "primary" "PathReader.primary" 1162 398 1 675 1168) .nil .nil) .nil)) (.node (ob vn none (fnD (stM 14 1) "row" "Negated.row" 0 [] vn vn vn vn none vn vn 0) []) (.node (tu []) (.node (ob vn none (fnD (stM 47 4) "need" "PathReader.need" 0 [] vn vn vn vn none vn vn 0) []) .nil .nil) (.node (ob vn none (fnD (stT 75) "_law_is_none" "_law_is_none" 0 [] vn vn vn vn none vn vn 0) []) .nil .nil)) (.node (cf "number" "PathScanner.number" 861 203 1 483 866) (.node (o744 P) .nil .nil) .nil)))) (.node (tu [vs "number" 249]) (.node (tu []) (.node (o152 P) (.node (tu []) (.node (ob vn none (fnD (stM 37 14) "mark" "PathScanner.mark" 0 [] vn vn vn vn none vn vn 0) []) .nil .nil) (.node (tu [vs "node" 1316,vs "level" 1317]) .nil .nil)) (.node (tu []) (.node (tu []) .nil .nil) .nil)) (.node (di [(de P "__module__" 464 (vs "markupmill.xpath_nodes" 263)),(de P "__qualname__" 466 (vs "Negated" 465)),(de P "__firstlineno__" 468 (vi 69 467)),(de P "__init__" 476 (vr 227)),(de P "row" 483 (vr 234)),(de P "__static_attributes__" 485 (vr 235))] 6) (.node (fl []) (.node (tu [vs "self" 1069,vs "word" 1070]) .nil .nil) (.node (tu [vs "source" 1398,vs "pairs" 1399]) .nil .nil)) (.node (tu []) (.node (ob vn none (fnD (stM 47 20) "predicates" "PathReader.predicates" 0 [] vn vn vn vn none vn vn 0) []) .nil .nil) .nil))) (.node (ob vn none (fnD (stM 10 1) "row" "NumberNode.row" 0 [] vn vn vn vn none vn vn 0) []) (.node (ob (vt "super") none (flds [vr 181,vr 181,vr 181]) []) (.node (tu []) (.node (cf "name_test" "name_test" 1019 292 1 563 1026) .nil .nil) (.node (fl []) .nil .nil)) (.node (tu [vi 0 811]) (.node (tu []) .nil .nil) .nil)) (.node (fr 247 3 244 (vs "markupmill.xpath_nodes" 263)) (.node (cf "is_name_char" "is_name_char" 679 124 1 371 683) (.node (o632 P) .nil .nil) .nil) (.node (tu []) (.node (fl []) .nil .nil) .nil)))))) (.node b (.node (co [vs "MarkupError" 191,vs "MarkupError" 192,vs "/claim/cut.py" 193,vi 2 0,vi 0 0,vi 0 0,vi 0 0,vi 0 0,vr 18,vF,vi 181 0,vr 19,vn,vn,vn,vn,vi 194 0,vi 2 0,vs "/claim/cut.py" 195]) (.node (ob (vt "builtin_function_or_method") none (flds [vb "type.__prepare__",vt "type"]) []) (.node (o68 P) (.node (di [(de P "__module__" 350 (vs "markupmill.xpath_nodes" 263)),(de P "__qualname__" 352 (vs "VariableNode" 351)),(de P "__firstlineno__" 354 (vi 45 353)),(de P "__init__" 362 (vr 143)),(de P "row" 369 (vr 150)),(de P "__static_attributes__" 371 (vr 151))] 6) (.node (ob vn none (fnD (stM 15 1) "row" "Filter.row" 0 [] vn vn vn vn none vn vn 0) []) (.node (cf "plain_name" "PathScanner.plain_name" 895 231 1 511 900) .nil .nil) (.node (o772 P) .nil .nil)) (.node (fl [vi 140 0,vi 4 0,vr 396,vi 145 0,vi 4 0,vr 403,vi 148 0,vi 4 0,vr 410,vi 151 0,vi 4 0,vr 417]) (.node (ob vn none (fnD (stM 47 8) "level" "PathReader.level" 0 [] vn vn vn vn none vn vn 0) []) .nil .nil) .nil)) (.node (tu []) (.node (ob (vt "super") none (flds [vr 321,vr 321,vr 321]) []) (.node (tu []) .nil .nil) (.node (o836 P) .nil .nil)) (.node (ob vn none (fnD (stM 37 2) "add" "PathScanner.add" 0 [] vn vn vn vn none vn vn 0) []) (.node (cf "one_step" "PathReader.one_step" 1195 435 1 703 1201) .nil .nil) .nil))) (.node (ob (vt "super") none (flds [vr 97,vr 97,vr 97]) []) (.node (fr 163 3 160 (vs "markupmill.xpath_nodes" 263)) (.node (o292 P) (.node (tu [vs "text" 945]) .nil .nil) (.node (tu []) .nil .nil)) (.node (o420 P) (.node (fl []) .nil .nil) .nil)) (.node (tu []) (.node (o356 P) (.node (tu []) .nil .nil) (.node (tu []) .nil .nil)) (.node (fl []) (.node (tu [vs "text" 1243]) .nil .nil) .nil)))) (.node (cf "common_divisor" "common_divisor" 236 10 2 47 243) (.node (tu []) (.node (ob vn none (fnD (stM 11 1) "row" "VariableNode.row" 0 [] vn vn vn vn none vn vn 0) []) (.node (fr 275 3 272 (vs "markupmill.xpath_nodes" 263)) (.node (tu []) .nil .nil) (.node (co [vs "steps_text" 1307,vs "steps_text" 1308,vs "/claim/cut.py" 1309,vi 531 0,vi 1 0,vi 0 0,vi 0 0,vi 3 0,vr 785,vT,vi 181 0,vr 786,vn,vn,vn,vr 787,vi 1310 0,vi 531 0,vs "/claim/cut.py" 1311]) .nil .nil)) (.node (o404 P) (.node (o660 P) .nil .nil) .nil)) (.node (ob (vt "super") none (flds [vr 209,vr 209,vr 209]) []) (.node (tu [vi 768 641,vi 879 642]) (.node (cf "here" "PathReader.here" 1059 309 1 591 1063) .nil .nil) (.node (co [vs "_law_drawn" 1389,vs "_law_drawn" 1390,vs "/claim/cut.py" 1391,vi 596 0,vi 2 0,vi 0 0,vi 0 0,vi 3 0,vr 849,vT,vi 181 0,vr 850,vn,vn,vn,vr 851,vi 1392 0,vi 596 0,vs "/claim/cut.py" 1393]) .nil .nil)) (.node (o468 P) (.node (tu []) .nil .nil) .nil))) (.node (tu []) (.node (o180 P) (.node (tu []) (.node (fl []) .nil .nil) (.node (ob vn none (fnD (stT 67) "_law_take" "_law_take" 0 [] vn vn vn vn none vn vn 0) []) .nil .nil)) (.node (tu []) (.node (tu []) .nil .nil) .nil)) (.node (di [(de P "__module__" 500 (vs "markupmill.xpath_nodes" 263)),(de P "__qualname__" 502 (vs "Filter" 501)),(de P "__firstlineno__" 504 (vi 76 503)),(de P "__init__" 513 (vr 255)),(de P "row" 520 (vr 262)),(de P "__static_attributes__" 523 (vr 263))] 6) (.node (fl []) (.node (tu [vs "self" 1101,vs "least" 1102,vs "found" 1103,vs "level" 1104,vs "many" 1105,vs "op" 1106]) .nil .nil) .nil) (.node (tu []) (.node (ob vn none (fnD (stT 56) "quoted" "quoted" 0 [] vn vn vn vn none vn vn 0) []) .nil .nil) .nil))))) (.node (o28 P) (.node (o44 P) (.node (di [(de P "__module__" 278 (vs "markupmill.xpath_nodes" 263)),(de P "__qualname__" 280 (vs "Literal" 279)),(de P "__firstlineno__" 282 (vi 31 281)),(de P "__init__" 290 (vr 87)),(de P "row" 297 (vr 94)),(de P "__static_attributes__" 299 (vr 95))] 6) (.node (tu []) (.node (ob (vt "super") none (flds [vr 265,vr 265,vr 265]) []) (.node (o524 P) .nil .nil) (.node (tu []) .nil .nil)) (.node (cf "__init__" "Word.__init__" 747 140 4 391 754) (.node (cf "negated" "PathReader.negated" 1126 354 1 647 1133) .nil .nil) .nil)) (.node (ob vn none (fnD (stM 13 1) "row" "Binary.row" 0 [] vn vn vn vn none vn vn 0) []) (.node (tu [vi 8304 626,vi 8591 627]) (.node (ob vn none (fnD (stM 47 0) "__init__" "PathReader.__init__" 0 [] vn vn vn vn none vn vn 0) []) .nil .nil) (.node (tu []) .nil .nil)) (.node (cf "run" "PathScanner.run" 831 167 1 455 835) (.node (o716 P) .nil .nil) .nil))) (.node (fr 107 3 104 (vs "markupmill.xpath_nodes" 263)) (.node (tu []) (.node (di [(de P "__module__" 577 (vs "markupmill.xpath_nodes" 263)),(de P "__qualname__" 579 (vs "Step" 578)),(de P "__firstlineno__" 581 (vi 95 580)),(de P "__init__" 591 (vr 311)),(de P "row" 598 (vr 318)),(de P "__static_attributes__" 602 (vr 319))] 6) (.node (tu []) .nil .nil) (.node (tu []) .nil .nil)) (.node (di [(de P "__module__" 798 (vs "markupmill.xpath_words" 686)),(de P "__qualname__" 800 (vs "PathScanner" 799)),(de P "__firstlineno__" 802 (vi 153 801)),(de P "__init__" 810 (vr 439)),(de P "sign" 820 (vr 447)),(de P "add" 830 (vr 454)),(de P "run" 837 (vr 461)),(de P "skip" 844 (vr 468)),(de P "is_behind_operand" 852 (vr 475)),(de P "step" 860 (vr 482)),(de P "number" 868 (vr 489)),(de P "figures" 875 (vr 496)),(de P "literal" 885 (vr 503)),(de P "variable" 894 (vr 510)),(de P "plain_name" 902 (vr 517)),(de P "qualified" 911 (vr 524)),(de P "name" 921 (vr 531)),(de P "mark" 930 (vr 538)),(de P "__static_attributes__" 934 (vr 539))] 19) (.node (tu [vs "self" 1174,vs "found" 1175]) .nil .nil) .nil)) (.node (o236 P) (.node (tu []) (.node (fl []) .nil .nil) (.node (fl []) .nil .nil)) (.node (tu [vs "self" 872]) (.node (tu []) .nil .nil) .nil)))) (.node (o60 P) (.node (ob vn none (fnD (stM 9 1) "row" "Literal.row" 0 [] vn vn vn vn none vn vn 0) []) (.node (ob (vt "super") none (flds [vr 153,vr 153,vr 153]) []) (.node (tu []) (.node (o540 P) .nil .nil) (.node (o796 P) .nil .nil)) (.node (tu []) (.node (tu []) .nil .nil) .nil)) (.node (fr 219 3 216 (vs "markupmill.xpath_nodes" 263)) (.node (cf "is_in_ranges" "is_in_ranges" 648 109 2 343 655) (.node (o604 P) .nil .nil) (.node (o860 P) .nil .nil)) (.node (tu []) (.node (o732 P) .nil .nil) .nil))) (.node (o124 P) (.node (di [(de P "__module__" 424 (vs "markupmill.xpath_nodes" 263)),(de P "__qualname__" 426 (vs "Binary" 425)),(de P "__firstlineno__" 428 (vi 60 427)),(de P "__init__" 438 (vr 199)),(de P "row" 445 (vr 206)),(de P "__static_attributes__" 449 (vr 207))] 6) (.node (ob vn none (fnD (stM 17 1) "row" "Step.row" 0 [] vn vn vn vn none vn vn 0) []) (.node (tu [vs "text" 1032,vs "whole" 1033,vs "point" 1034,vs "part" 1035]) .nil .nil) (.node (cf "_law_one" "_law_one" 1356 574 2 823 1361) .nil .nil)) (.node (tu []) (.node (ob vn none (fnD (stM 47 16) "steps" "PathReader.steps" 0 [] vn vn vn vn none vn vn 0) []) .nil .nil) .nil)) (.node (tu []) (.node (tu [vs "(" 709,vs ")" 710,vs "[" 711,vs "]" 712,vs "." 713,vs ".." 714,vs "@" 715,vs "," 716,vs "::" 717]) (.node (tu []) .nil .nil) .nil) (.node (ob vn none (fnD (stM 37 10) "variable" "PathScanner.variable" 0 [] vn vn vn vn none vn vn 0) []) (.node (cf "decimal_text" "decimal_text" 1274 502 1 759 1282) .nil .nil) .nil))))))) (.node (boot_o_6 P) (.node (boot_o_10 P) (.node (tu []) (.node (ob (vt "builtin_function_or_method") none (flds [vb "object.__init_subclass__",vr 31]) []) (.node (ob vn none (fnD (stT 6) "number_of" "number_of" 0 [] vn vn vn vn none vn vn 0) []) (.node (tu []) (.node (tu [vs "self" 517]) (.node (tu []) .nil .nil) (.node (ob vn none (fnD (stT 58) "test_text" "test_text" 0 [] vn vn vn vn none vn vn 0) []) .nil .nil)) (.node (di [(de P "__module__" 742 (vs "markupmill.xpath_words" 686)),(de P "__qualname__" 744 (vs "Word" 743)),(de P "__firstlineno__" 746 (vi 138 745)),(de P "__init__" 756 (vr 397)),(de P "is_sign" 764 (vr 404)),(de P "is_operator" 772 (vr 411)),(de P "row" 779 (vr 418)),(de P "__static_attributes__" 783 (vr 419))] 8) (.node (tu [vs "self" 1121,vs "word" 1122]) .nil .nil) .nil)) (.node (fl []) (.node (ob (vt "getset_descriptor") none (flds [vs "__dict__" 603,vr 321,vb "function.__dict__",vb "function.__dict__#set"]) []) (.node (ob (vt "builtin_function_or_method") none (flds [vb "type.__prepare__",vt "type"]) []) .nil .nil) (.node (ob vn none (fnD (stT 69) "_law_leaf" "_law_leaf" 0 [] vn vn vn vn none vn vn 0) []) .nil .nil)) (.node (tu [vs "self" 824,vs "kind" 825,vs "text" 826,vs "begin" 827]) (.node (tu []) .nil .nil) .nil))) (.node (ob (vt "getset_descriptor") none (flds [vs "__dict__" 300,vr 97,vb "function.__dict__",vb "function.__dict__#set"]) []) (.node (fl [vi 54 0,vi 4 0,vr 170,vi 58 0,vi 4 0,vr 177]) (.node (o290 P) (.node (tu []) .nil .nil) (.node (cf "path_text" "path_text" 1321 536 1 797 1325) .nil .nil)) (.node (o418 P) (.node (o674 P) .nil .nil) .nil)) (.node (cf "__init__" "Negated.__init__" 469 71 2 221 474) (.node (ob vn none (fnD (stT 24) "is_space" "is_space" 0 [] vn vn vn vn none vn vn 0) []) (.node (cf "refuse" "PathReader.refuse" 1074 318 2 605 1079) .nil .nil) (.node (cf "_law_alike" "_law_alike" 1403 620 1 861 1409) .nil .nil)) (.node (o482 P) (.node (tu []) .nil .nil) .nil)))) (.node (tu []) (.node (fl []) (.node (tu [vs "self" 366]) (.node (fl [vi 86 0,vi 4 0,vr 282,vi 90 0,vi 4 0,vr 289]) (.node (cf "name" "PathScanner.name" 912 252 1 525 919) .nil .nil) (.node (fl []) .nil .nil)) (.node (ob vn none (fnD (stM 36 1) "is_sign" "Word.is_sign" 0 [] vn vn vn vn none vn vn 0) []) (.node (ob vn none (fnD (stM 47 10) "union" "PathReader.union" 0 [] vn vn vn vn none vn vn 0) []) .nil .nil) .nil)) (.node (ob (vt "getset_descriptor") none (flds [vs "__dict__" 450,vr 209,vb "function.__dict__",vb "function.__dict__#set"]) []) (.node (tu [vr 326,vr 327,vr 328,vr 329,vr 330,vr 331,vr 332,vr 333,vr 334,vr 335,vr 336,vr 337]) (.node (tu []) .nil .nil) (.node (fl []) .nil .nil)) (.node (ob vn none (fnD (stM 37 4) "skip" "PathScanner.skip" 0 [] vn vn vn vn none vn vn 0) []) (.node (cf "test" "PathReader.test" 1212 458 1 717 1218) .nil .nil) .nil))) (.node (cf "__init__" "NumberNode.__init__" 319 40 2 109 324) (.node (o178 P) (.node (fl []) (.node (o562 P) .nil .nil) (.node (tu [vs "source" 1350,vs "top" 1351,vs "drawn" 1352]) .nil .nil)) (.node (fl []) (.node (fl []) .nil .nil) .nil)) (.node (tu []) (.node (o370 P) (.node (tu []) .nil .nil) .nil) (.node (fl []) (.node (tu [vs "text" 1270]) .nil .nil) .nil))))) (.node (ob vn none (fnD (stM 1 0) "__init__" "MarkupError.__init__" 0 [] vn vn vn vn none vn vn 0) []) (.node (tu []) (.node (tu []) (.node (fl []) (.node (ob (vt "getset_descriptor") none (flds [vs "__dict__" 524,vr 265,vb "function.__dict__",vb "function.__dict__#set"]) []) (.node (ob vn none (fnD (stM 37 12) "qualified" "PathScanner.qualified" 0 [] vn vn vn vn none vn vn 0) []) .nil .nil) (.node (cf "at_least" "at_least" 1292 526 2 773 1298) .nil .nil)) (.node (tu []) (.node (tu []) .nil .nil) .nil)) (.node (tu [vs "self" 442]) (.node (tu [vi 895 622,vi 8191 623]) (.node (tu [vs "self" 1054,vs "words" 1055]) .nil .nil) (.node (cf "_law_step" "_law_step" 1372 587 2 837 1380) .nil .nil)) (.node (tu []) (.node (ob vn none (fnD (stM 47 18) "axis" "PathReader.axis" 0 [] vn vn vn vn none vn vn 0) []) .nil .nil) .nil))) (.node (fl [vi 40 0,vi 4 0,vr 114,vi 43 0,vi 4 0,vr 121]) (.node (cf "__init__" "Call.__init__" 391 54 3 165 397) (.node (tu []) (.node (o554 P) .nil .nil) (.node (fl []) .nil .nil)) (.node (tu []) (.node (tu []) .nil .nil) .nil)) (.node (o234 P) (.node (cf "is_small_letter" "is_small_letter" 665 118 1 357 669) (.node (o618 P) .nil .nil) (.node (o874 P) .nil .nil)) (.node (tu []) (.node (fl []) .nil .nil) .nil)))) (.node (ob vn none (fnD (stT 5) "sign_of" "sign_of" 0 [] vn vn vn vn none vn vn 0) []) (.node (tu [vs "self" 294]) (.node (ob (vt "getset_descriptor") none (flds [vs "__dict__" 372,vr 153,vb "function.__dict__",vb "function.__dict__#set"]) []) (.node (cf "__init__" "Path.__init__" 543 86 3 277 549) (.node (o538 P) .nil .nil) (.node (ob vn none (fnD (stT 62) "binary_text" "binary_text" 0 [] vn vn vn vn none vn vn 0) []) .nil .nil)) (.node (cf "is_operator" "Word.is_operator" 765 148 2 405 770) (.node (cf "path" "PathReader.path" 1145 373 1 661 1150) .nil .nil) .nil)) (.node (fl [vi 71 0,vi 4 0,vr 226,vi 74 0,vi 4 0,vr 233]) (.node (tu []) (.node (ob vn none (fnD (stM 47 2) "go" "PathReader.go" 0 [] vn vn vn vn none vn vn 0) []) .nil .nil) (.node (ob vn none (fnD (stT 73) "_law_short" "_law_short" 0 [] vn vn vn vn none vn vn 0) []) .nil .nil)) (.node (cf "is_behind_operand" "PathScanner.is_behind_operand" 845 179 1 469 850) (.node (o730 P) .nil .nil) .nil))) (.node (o122 P) (.node (tu []) (.node (tu [vs "self" 595]) (.node (tu []) .nil .nil) (.node (tu []) .nil .nil)) (.node (fl []) (.node (tu [vs "self" 1190,vs "found" 1191]) .nil .nil) .nil)) (.node (fl []) (.node (tu [vs "//" 690,vs "!=" 691,vs "<=" 692,vs ">=" 693,vs ".." 694,vs "::" 695]) (.node (fl []) .nil .nil) .nil) (.node (tu [vs "self" 889,vs "begin" 890,vs "name" 891]) (.node (tu []) .nil .nil) .nil)))))) (.node (fr 13 3 3 (vs "__main__" 164)) (.node (tu []) (.node (tu []) (.node (fl []) (.node (fl [vi 47 0,vi 4 0,vr 142,vi 50 0,vi 4 0,vr 149]) (.node (o262 P) (.node (tu []) .nil .nil) (.node (fl []) .nil .nil)) (.node (fr 389 3 386 (vs "markupmill.xpath_words" 686)) (.node (o646 P) .nil .nil) .nil)) (.node (cf "__init__" "Binary.__init__" 429 62 4 193 436) (.node (tu [vi 192 614,vi 214 615]) (.node (co [vs "PathReader" 1041,vs "PathReader" 1042,vs "/claim/cut.py" 1043,vi 302 0,vi 0 0,vi 0 0,vi 0 0,vi 0 0,vr 580,vF,vi 181 0,vr 581,vn,vn,vn,vn,vi 1044 0,vi 302 0,vs "/claim/cut.py" 1045]) .nil .nil) (.node (fl []) .nil .nil)) (.node (o454 P) (.node (tu []) .nil .nil) .nil))) (.node (tu []) (.node (fl []) (.node (ob (vt "getset_descriptor") none (flds [vs "__dict__" 563,vr 293,vb "function.__dict__",vb "function.__dict__#set"]) []) (.node (ob vn none (fnD (stT 38) "path_words" "path_words" 0 [] vn vn vn vn none vn vn 0) []) .nil .nil) (.node (ob vn none (fnD (stT 64) "write_path" "write_path" 0 [] vn vn vn vn none vn vn 0) []) .nil .nil)) (.node (ob (vt "getset_descriptor") none (flds [vs "__dict__" 784,vr 421,vb "function.__dict__",vb "function.__dict__#set"]) []) (.node (tu []) .nil .nil) .nil)) (.node (tu [vs "self" 480]) (.node (fl []) (.node (tu [vs "self" 1085,vs "text" 1086]) .nil .nil) (.node (tu [vs "text" 1415]) .nil .nil)) (.node (tu []) (.node (ob vn none (fnD (stT 48) "parse_path" "parse_path" 0 [] vn vn vn vn none vn vn 0) []) .nil .nil) .nil)))) (.node (tu []) (.node (cf "__init__" "Literal.__init__" 283 33 2 81 288) (.node (o150 P) (.node (fl []) (.node (tu [vs "self" 925,vs "begin" 926,vs "text" 927]) .nil .nil) (.node (tu []) .nil .nil)) (.node (fl []) (.node (fl []) .nil .nil) .nil)) (.node (tu []) (.node (tu [vr 339,vr 340,vr 341]) (.node (tu []) .nil .nil) (.node (tu []) .nil .nil)) (.node (fl []) (.node (tu [vs "self" 1224,vs "found" 1225]) .nil .nil) .nil))) (.node (tu [vs "self" 330]) (.node (ob (vt "getset_descriptor") none (flds [vs "__dict__" 410,vr 181,vb "function.__dict__",vb "function.__dict__#set"]) []) (.node (cf "__init__" "Step.__init__" 582 97 4 305 589) (.node (tu []) .nil .nil) (.node (o822 P) .nil .nil)) (.node (cf "__init__" "PathScanner.__init__" 803 155 2 433 808) (.node (cf "is_step" "PathReader.is_step" 1179 423 1 689 1184) .nil .nil) .nil)) (.node (fl [vi 78 0,vi 4 0,vr 254,vi 82 0,vi 4 0,vr 261]) (.node (tu []) (.node (ob vn none (fnD (stM 47 6) "expression" "PathReader.expression" 0 [] vn vn vn vn none vn vn 0) []) .nil .nil) .nil) (.node (cf "literal" "PathScanner.literal" 876 215 2 497 883) (.node (o758 P) .nil .nil) .nil))))) (.node (o30 P) (.node (ob (vt "builtin_function_or_method") none (flds [vb "object.__init_subclass__",vr 44]) []) (.node (fl [vi 33 0,vi 4 0,vr 86,vi 36 0,vi 4 0,vr 93]) (.node (cf "__init__" "VariableNode.__init__" 355 47 2 137 360) (.node (tu []) (.node (fl []) .nil .nil) (.node (ob vn none (fnD (stT 60) "predicates_text" "predicates_text" 0 [] vn vn vn vn none vn vn 0) []) .nil .nil)) (.node (tu []) (.node (tu []) .nil .nil) .nil)) (.node (o206 P) (.node (tu [vi 12289 630,vi 55295 631]) (.node (o590 P) .nil .nil) (.node (ob vn none (fnD (stT 71) "_law_some" "_law_some" 0 [] vn vn vn vn none vn vn 0) []) .nil .nil)) (.node (tu []) (.node (fl []) .nil .nil) .nil))) (.node (fl []) (.node (tu [vs "self" 403]) (.node (fl [vi 97 0,vi 4 0,vr 310,vi 102 0,vi 4 0,vr 317]) (.node (tu [vs "axis" 1015]) .nil .nil) (.node (cf "_law_pool" "_law_pool" 1336 559 1 809 1344) .nil .nil)) (.node (fl [vi 155 0,vi 4 0,vr 438,vi 160 0,vi 4 0,vr 446,vi 164 0,vi 4 0,vr 453,vi 167 0,vi 4 0,vr 460,vi 175 0,vi 4 0,vr 467,vi 179 0,vi 4 0,vr 474,vi 187 0,vi 4 0,vr 481,vi 203 0,vi 4 0,vr 488,vi 211 0,vi 4 0,vr 495,vi 215 0,vi 4 0,vr 502,vi 223 0,vi 4 0,vr 509,vi 231 0,vi 4 0,vr 516,vi 239 0,vi 4 0,vr 523,vi 252 0,vi 4 0,vr 530,vi 271 0,vi 4 0,vr 537]) (.node (ob vn none (fnD (stM 47 14) "arguments" "PathReader.arguments" 0 [] vn vn vn vn none vn vn 0) []) .nil .nil) .nil)) (.node (ob (vt "getset_descriptor") none (flds [vs "__dict__" 486,vr 237,vb "function.__dict__",vb "function.__dict__#set"]) []) (.node (tu [vs "sign" 675]) (.node (tu []) .nil .nil) (.node (tu []) .nil .nil)) (.node (ob vn none (fnD (stM 37 8) "figures" "PathScanner.figures" 0 [] vn vn vn vn none vn vn 0) []) (.node (cf "level_of" "level_of" 1259 487 1 745 1264) .nil .nil) .nil)))) (.node (tu []) (.node (o94 P) (.node (tu []) (.node (tu [vs "self" 555,vs "start" 556]) (.node (ob (vt "getset_descriptor") none (flds [vs "__dict__" 935,vr 541,vb "function.__dict__",vb "function.__dict__#set"]) []) .nil .nil) (.node (fl []) .nil .nil)) (.node (tu [vs "self" 776]) (.node (tu [vs "self" 1156,vs "found" 1157,vs "predicates" 1158]) .nil .nil) .nil)) (.node (fl []) (.node (tu []) (.node (fl []) .nil .nil) (.node (fl []) .nil .nil)) (.node (tu [vs "self" 856,vs "sign" 857]) (.node (ob (vt "getset_descriptor") none (flds [vs "__dict__" 1233,vr 733,vb "function.__dict__",vb "function.__dict__#set"]) []) .nil .nil) .nil))) (.node (ob (vt "getset_descriptor") none (flds [vs "__dict__" 336,vr 125,vb "function.__dict__",vb "function.__dict__#set"]) []) (.node (fl [vi 62 0,vi 4 0,vr 198,vi 67 0,vi 4 0,vr 205]) (.node (o318 P) (.node (ob vn none (fnD (stT 46) "number_value" "number_value" 0 [] vn vn vn vn none vn vn 0) []) .nil .nil) (.node (tu []) .nil .nil)) (.node (cf "sign" "PathScanner.sign" 812 160 2 441 818) (.node (o702 P) .nil .nil) .nil)) (.node (cf "__init__" "Filter.__init__" 505 78 3 249 511) (.node (tu [vs "comment" 724,vs "text" 725,vs "processing-instruction" 726,vs "node" 727]) (.node (cf "counted" "PathReader.counted" 1110 345 2 633 1115) .nil .nil) .nil) (.node (o510 P) (.node (tu []) .nil .nil) .nil)))))))))
noncomputable def env0:Env:={ scope:=pw.main.scope,locals:=mainNs,globals:=mainNs,cells:=[],code:= .ref 13,frame:=some 14 }
noncomputable abbrev cd0:Code:= .body bodyT env0
noncomputable abbrev q0:Pos:=⟨0,0,0,0⟩
noncomputable def T0 (P:Params):BT:=(tr P (o3 P 9 "__main__" 164 9) (o12 0) (o2v0 P) (o31 P))
noncomputable abbrev X0 (w:World) (os:OsState):SharedT:=⟨T0 w.params,15,{},#[],{},187,os⟩
noncomputable abbrev qz:Pos:=⟨0,0,0,0⟩
noncomputable def T2 (P:Params):BT:=(tr P (o3 P 10 "markupmill.errors" 187 10) (o12 3) (o2 P) (o31v0 P))
noncomputable abbrev X2 (w:World) (os:OsState):SharedT:=⟨T2 w.params,35,{},#[],{},218,os⟩
noncomputable abbrev q2:Pos:=⟨2,0,6,30⟩
noncomputable def T9 (P:Params):BT:=(tr P (o3 P 15 "markupmill.xpath_nodes" 263 15) (o12 18) (o2 P) (o31 P))
noncomputable abbrev X9 (w:World) (os:OsState):SharedT:=⟨T9 w.params,74,{},#[],{},271,os⟩
noncomputable abbrev q9:Pos:=⟨29,0,30,48⟩
noncomputable def T10 (P:Params):BT:=(tr P (o3 P 16 "markupmill.xpath_nodes" 263 16) (o12 21) (o2 P) (o31 P))
noncomputable abbrev X10 (w:World) (os:OsState):SharedT:=⟨T10 w.params,102,{},#[],{},307,os⟩
noncomputable abbrev q10:Pos:=⟨31,0,37,38⟩
noncomputable def T11 (P:Params):BT:=(tr P (o3 P 17 "markupmill.xpath_nodes" 263 17) (o12 24) (o2 P) (o31 P))
noncomputable abbrev X11 (w:World) (os:OsState):SharedT:=⟨T11 w.params,130,{},#[],{},343,os⟩
noncomputable abbrev q11:Pos:=⟨38,0,44,37⟩
noncomputable def T12 (P:Params):BT:=(tr P (o3 P 18 "markupmill.xpath_nodes" 263 18) (o12 27) (o2 P) (o31 P))
noncomputable abbrev X12 (w:World) (os:OsState):SharedT:=⟨T12 w.params,158,{},#[],{},379,os⟩
noncomputable abbrev q12:Pos:=⟨45,0,51,38⟩
noncomputable def T13 (P:Params):BT:=(tr P (o3 P 19 "markupmill.xpath_nodes" 263 19) (o12 30) (o2 P) (o31 P))
noncomputable abbrev X13 (w:World) (os:OsState):SharedT:=⟨T13 w.params,186,{},#[],{},417,os⟩
noncomputable abbrev q13:Pos:=⟨52,0,59,59⟩
noncomputable def T14 (P:Params):BT:=(tr P (o3 P 20 "markupmill.xpath_nodes" 263 20) (o12 33) (o2 P) (o31 P))
noncomputable abbrev X14 (w:World) (os:OsState):SharedT:=⟨T14 w.params,214,{},#[],{},457,os⟩
noncomputable abbrev q14:Pos:=⟨60,0,68,69⟩
noncomputable def T15 (P:Params):BT:=(tr P (o3 P 21 "markupmill.xpath_nodes" 263 21) (o12 36) (o2 P) (o31 P))
noncomputable abbrev X15 (w:World) (os:OsState):SharedT:=⟨T15 w.params,242,{},#[],{},493,os⟩
noncomputable abbrev q15:Pos:=⟨69,0,75,44⟩
noncomputable def T16 (P:Params):BT:=(tr P (o3 P 22 "markupmill.xpath_nodes" 263 22) (o12 39) (o2 P) (o31 P))
noncomputable abbrev X16 (w:World) (os:OsState):SharedT:=⟨T16 w.params,270,{},#[],{},531,os⟩
noncomputable abbrev q16:Pos:=⟨76,0,83,68⟩
noncomputable def T17 (P:Params):BT:=(tr P (o3 P 23 "markupmill.xpath_nodes" 263 23) (o12 42) (o2 P) (o31 P))
noncomputable abbrev X17 (w:World) (os:OsState):SharedT:=⟨T17 w.params,298,{},#[],{},570,os⟩
noncomputable abbrev q17:Pos:=⟨84,0,94,51⟩
noncomputable def T24 (P:Params):BT:=(tr P (o3 P 29 "markupmill.chars" 610 29) (o12 48) (o2 P) (o31 P))
noncomputable abbrev X24 (w:World) (os:OsState):SharedT:=⟨T24 w.params,350,{},#[],{},658,os⟩
noncomputable abbrev q24:Pos:=⟨109,0,115,16⟩
noncomputable def T36 (P:Params):BT:=(tr P (o3 P 40 "markupmill.xpath_words" 686 40) (o12 60) (o2 P) (o31 P))
noncomputable abbrev X36 (w:World) (os:OsState):SharedT:=⟨T36 w.params,384,{},#[],{},735,os⟩
noncomputable abbrev q36:Pos:=⟨137,0,137,17⟩
noncomputable def T37 (P:Params):BT:=(tr P (o3 P 41 "markupmill.xpath_words" 686 41) (o12 63) (o2 P) (o31 P))
noncomputable abbrev X37 (w:World) (os:OsState):SharedT:=⟨T37 w.params,426,{},#[],{},791,os⟩
noncomputable abbrev q37:Pos:=⟨138,0,152,37⟩
noncomputable def T38 (P:Params):BT:=(tr P (o3 P 42 "markupmill.xpath_words" 686 42) (o12 66) (o2 P) (o31 P))
noncomputable abbrev X38 (w:World) (os:OsState):SharedT:=⟨T38 w.params,546,{},#[],{},942,os⟩
noncomputable abbrev q38:Pos:=⟨153,0,282,35⟩
noncomputable def T42 (P:Params):BT:=(tr P (o3 P 45 "markupmill.xpath_grammar" 949 45) (o12 69) (o2 P) (o31 P))
noncomputable abbrev X42 (w:World) (os:OsState):SharedT:=⟨T42 w.params,554,{},#[],{},967,os⟩
noncomputable abbrev q42:Pos:=⟨287,0,287,4⟩
noncomputable def T43 (P:Params):BT:=(tr P (o3 P 46 "markupmill.xpath_grammar" 949 46) (o12 69) (o2 P) (o31 P))
noncomputable abbrev X43 (w:World) (os:OsState):SharedT:=⟨T43 w.params,555,{},#[],{},1007,os⟩
noncomputable abbrev q43:Pos:=⟨288,0,288,6⟩
noncomputable def T47 (P:Params):BT:=(tr P (o3 P 50 "markupmill.xpath_grammar" 949 50) (o12 78) (o2 P) (o31 P))
noncomputable abbrev X47 (w:World) (os:OsState):SharedT:=⟨T47 w.params,577,{},#[],{},1039,os⟩
noncomputable abbrev q47:Pos:=⟨299,0,301,62⟩
noncomputable def T48 (P:Params):BT:=(tr P (o3 P 51 "markupmill.xpath_grammar" 949 51) (o12 81) (o2 P) (o31 P))
noncomputable abbrev X48 (w:World) (os:OsState):SharedT:=⟨T48 w.params,738,{},#[],{},1240,os⟩
noncomputable abbrev q48:Pos:=⟨302,0,478,27⟩
noncomputable def T66 (P:Params):BT:=(tr P (o3 P 67 "law_nu0077_01" 1334 67) (o12 114) (o2 P) (o31 P))
noncomputable abbrev X66 (w:World) (os:OsState):SharedT:=⟨T66 w.params,809,{},#[],{},1336,os⟩
noncomputable abbrev q66:Pos:=⟨558,0,558,8⟩
noncomputable def T77 (P:Params):BT:=(tr P (o3 P 78 "law_nu0077_01" 1334 78) (o12 147) (o2 P) (o31 P))
noncomputable abbrev X77 (w:World) (os:OsState):SharedT:=⟨T77 w.params,882,{},#[],{},1433,os⟩
noncomputable abbrev q77:Pos:=⟨630,0,641,88⟩
theorem p0 (w:World):(fun os=>segRunT treeTable pw w 11 (some (.ref 6)) 1 238 (X0 w os) (piecesOf [stT 0,stT 1] env0 cd0 qz [topFrame q0]))=fun os=>some (Flow.next,X2 w os,cd0,q2):=by
 rw [PySem.W.Fast.te10110043849684766642,PySem.W.Fast.te14364793385576792824];kernel_rfl
theorem p1 (w:World):(fun os=>segRunT treeTable pw w 11 (some (.ref 6)) 1 352 (X2 w os) (piecesOf [stT 2,stT 3,stT 4,stT 5,stT 6,stT 7,stT 8] env0 cd0 q2 [topFrame q0]))=fun os=>some (Flow.next,X9 w os,cd0,q9):=by
 rw [PySem.W.Fast.te10110043849684766642,PySem.W.Fast.te14364793385576792824];kernel_rfl
theorem p2 (w:World):(fun os=>segRunT treeTable pw w 11 (some (.ref 6)) 1 254 (X9 w os) (piecesOf [stT 9] env0 cd0 q9 [topFrame q0]))=fun os=>some (Flow.next,X10 w os,cd0,q10):=by
 rw [PySem.W.Fast.te10110043849684766642,PySem.W.Fast.te14364793385576792824];kernel_rfl
theorem p3 (w:World):(fun os=>segRunT treeTable pw w 11 (some (.ref 6)) 1 254 (X10 w os) (piecesOf [stT 10] env0 cd0 q10 [topFrame q0]))=fun os=>some (Flow.next,X11 w os,cd0,q11):=by
 rw [PySem.W.Fast.te10110043849684766642,PySem.W.Fast.te14364793385576792824];kernel_rfl
theorem p4 (w:World):(fun os=>segRunT treeTable pw w 11 (some (.ref 6)) 1 254 (X11 w os) (piecesOf [stT 11] env0 cd0 q11 [topFrame q0]))=fun os=>some (Flow.next,X12 w os,cd0,q12):=by
 rw [PySem.W.Fast.te10110043849684766642,PySem.W.Fast.te14364793385576792824];kernel_rfl
theorem p5 (w:World):(fun os=>segRunT treeTable pw w 11 (some (.ref 6)) 1 256 (X12 w os) (piecesOf [stT 12] env0 cd0 q12 [topFrame q0]))=fun os=>some (Flow.next,X13 w os,cd0,q13):=by
 rw [PySem.W.Fast.te10110043849684766642,PySem.W.Fast.te14364793385576792824];kernel_rfl
theorem p6 (w:World):(fun os=>segRunT treeTable pw w 11 (some (.ref 6)) 1 258 (X13 w os) (piecesOf [stT 13] env0 cd0 q13 [topFrame q0]))=fun os=>some (Flow.next,X14 w os,cd0,q14):=by
 rw [PySem.W.Fast.te10110043849684766642,PySem.W.Fast.te14364793385576792824];kernel_rfl
theorem p7 (w:World):(fun os=>segRunT treeTable pw w 11 (some (.ref 6)) 1 254 (X14 w os) (piecesOf [stT 14] env0 cd0 q14 [topFrame q0]))=fun os=>some (Flow.next,X15 w os,cd0,q15):=by
 rw [PySem.W.Fast.te10110043849684766642,PySem.W.Fast.te14364793385576792824];kernel_rfl
theorem p8 (w:World):(fun os=>segRunT treeTable pw w 11 (some (.ref 6)) 1 256 (X15 w os) (piecesOf [stT 15] env0 cd0 q15 [topFrame q0]))=fun os=>some (Flow.next,X16 w os,cd0,q16):=by
 rw [PySem.W.Fast.te10110043849684766642,PySem.W.Fast.te14364793385576792824];kernel_rfl
theorem p9 (w:World):(fun os=>segRunT treeTable pw w 11 (some (.ref 6)) 1 257 (X16 w os) (piecesOf [stT 16] env0 cd0 q16 [topFrame q0]))=fun os=>some (Flow.next,X17 w os,cd0,q17):=by
 rw [PySem.W.Fast.te10110043849684766642,PySem.W.Fast.te14364793385576792824];kernel_rfl
theorem p10 (w:World):(fun os=>segRunT treeTable pw w 11 (some (.ref 6)) 1 397 (X17 w os) (piecesOf [stT 17,stT 18,stT 19,stT 20,stT 21,stT 22,stT 23] env0 cd0 q17 [topFrame q0]))=fun os=>some (Flow.next,X24 w os,cd0,q24):=by
 rw [PySem.W.Fast.te10110043849684766642,PySem.W.Fast.te14364793385576792824];kernel_rfl
theorem p11 (w:World):(fun os=>segRunT treeTable pw w 11 (some (.ref 6)) 1 234 (X24 w os) (piecesOf [stT 24,stT 25,stT 26,stT 27,stT 28,stT 29,stT 30,stT 31,stT 32,stT 33,stT 34,stT 35] env0 cd0 q24 [topFrame q0]))=fun os=>some (Flow.next,X36 w os,cd0,q36):=by
 rw [PySem.W.Fast.te10110043849684766642,PySem.W.Fast.te14364793385576792824];kernel_rfl
theorem p12 (w:World):(fun os=>segRunT treeTable pw w 11 (some (.ref 6)) 1 322 (X36 w os) (piecesOf [stT 36] env0 cd0 q36 [topFrame q0]))=fun os=>some (Flow.next,X37 w os,cd0,q37):=by
 rw [PySem.W.Fast.te10110043849684766642,PySem.W.Fast.te14364793385576792824];kernel_rfl
theorem p13 (w:World):(fun os=>segRunT treeTable pw w 11 (some (.ref 6)) 1 682 (X37 w os) (piecesOf [stT 37] env0 cd0 q37 [topFrame q0]))=fun os=>some (Flow.next,X38 w os,cd0,q38):=by
 rw [PySem.W.Fast.te10110043849684766642,PySem.W.Fast.te14364793385576792824];kernel_rfl
theorem p14 (w:World):(fun os=>segRunT treeTable pw w 11 (some (.ref 6)) 1 71 (X38 w os) (piecesOf [stT 38,stT 39,stT 40,stT 41] env0 cd0 q38 [topFrame q0]))=fun os=>some (Flow.next,X42 w os,cd0,q42):=by
 rw [PySem.W.Fast.te10110043849684766642,PySem.W.Fast.te14364793385576792824];kernel_rfl
theorem p15f (w:World):(fun os=>segRunT treeTable pw (w.withFollow "special-get-raises" false) 11 (some (.ref 6)) 1 206 (X42 (w.withFollow "special-get-raises" false) os) (piecesOf [stT 42] env0 cd0 q42 [topFrame q0]))=fun os=>some (Flow.next,X43 (w.withFollow "special-get-raises" false) os,cd0,q43):=by
 rw [PySem.W.Fast.te10110043849684766642,PySem.W.Fast.te14364793385576792824];kernel_rfl
theorem p15t (w:World):(fun os=>segRunT treeTable pw (w.withFollow "special-get-raises" true) 11 (some (.ref 6)) 1 206 (X42 (w.withFollow "special-get-raises" true) os) (piecesOf [stT 42] env0 cd0 q42 [topFrame q0]))=fun os=>some (Flow.next,X43 (w.withFollow "special-get-raises" true) os,cd0,q43):=by
 rw [PySem.W.Fast.te10110043849684766642,PySem.W.Fast.te14364793385576792824];kernel_rfl
theorem p15 (w:World):(fun os=>segRunT treeTable pw w 11 (some (.ref 6)) 1 206 (X42 w os) (piecesOf [stT 42] env0 cd0 q42 [topFrame q0]))=fun os=>some (Flow.next,X43 w os,cd0,q43):=byRow2 "special-get-raises" (P:=fun w=>(fun os=>segRunT treeTable pw w 11 (some (.ref 6)) 1 206 (X42 w os) (piecesOf [stT 42] env0 cd0 q42 [topFrame q0]))=fun os=>some (Flow.next,X43 w os,cd0,q43)) p15f p15t w
theorem p16 (w:World):(fun os=>segRunT treeTable pw w 11 (some (.ref 6)) 1 108 (X43 w os) (piecesOf [stT 43,stT 44,stT 45,stT 46] env0 cd0 q43 [topFrame q0]))=fun os=>some (Flow.next,X47 w os,cd0,q47):=by
 rw [PySem.W.Fast.te10110043849684766642,PySem.W.Fast.te14364793385576792824];kernel_rfl
theorem p17 (w:World):(fun os=>segRunT treeTable pw w 11 (some (.ref 6)) 1 875 (X47 w os) (piecesOf [stT 47] env0 cd0 q47 [topFrame q0]))=fun os=>some (Flow.next,X48 w os,cd0,q48):=by
 rw [PySem.W.Fast.te10110043849684766642,PySem.W.Fast.te14364793385576792824];kernel_rfl
theorem p18 (w:World):(fun os=>segRunT treeTable pw w 11 (some (.ref 6)) 1 382 (X48 w os) (piecesOf [stT 48,stT 49,stT 50,stT 51,stT 52,stT 53,stT 54,stT 55,stT 56,stT 57,stT 58,stT 59,stT 60,stT 61,stT 62,stT 63,stT 64,stT 65] env0 cd0 q48 [topFrame q0]))=fun os=>some (Flow.next,X66 w os,cd0,q66):=by
 rw [PySem.W.Fast.te10110043849684766642,PySem.W.Fast.te14364793385576792824];kernel_rfl
theorem p19 (w:World):(fun os=>segRunT treeTable pw w 11 (some (.ref 6)) 1 336 (X66 w os) (piecesOf [stT 66,stT 67,stT 68,stT 69,stT 70,stT 71,stT 72,stT 73,stT 74,stT 75,stT 76] env0 cd0 q66 [topFrame q0]))=fun os=>some (Flow.next,X77 w os,cd0,q77):=by
 rw [PySem.W.Fast.te10110043849684766642,PySem.W.Fast.te14364793385576792824];kernel_rfl
end MineH.Internal
end
noncomputable section
namespace MineH.Internal
open PySem PySem.W PySem.Calls PyProof.Rows
noncomputable abbrev L0:List Stmt:=[stT 0,stT 1]
noncomputable abbrev L1:List Stmt:=[stT 2,stT 3,stT 4,stT 5,stT 6,stT 7,stT 8]
noncomputable abbrev L2:List Stmt:=[stT 9]
noncomputable abbrev L3:List Stmt:=[stT 10]
noncomputable abbrev L4:List Stmt:=[stT 11]
noncomputable abbrev L5:List Stmt:=[stT 12]
noncomputable abbrev L6:List Stmt:=[stT 13]
noncomputable abbrev L7:List Stmt:=[stT 14]
noncomputable abbrev L8:List Stmt:=[stT 15]
noncomputable abbrev L9:List Stmt:=[stT 16]
noncomputable abbrev L10:List Stmt:=[stT 17,stT 18,stT 19,stT 20,stT 21,stT 22,stT 23]
noncomputable abbrev L11:List Stmt:=[stT 24,stT 25,stT 26,stT 27,stT 28,stT 29,stT 30,stT 31,stT 32,stT 33,stT 34,stT 35]
noncomputable abbrev L12:List Stmt:=[stT 36]
noncomputable abbrev L13:List Stmt:=[stT 37]
noncomputable abbrev L14:List Stmt:=[stT 38,stT 39,stT 40,stT 41]
noncomputable abbrev L15:List Stmt:=[stT 42]
noncomputable abbrev L16:List Stmt:=[stT 43,stT 44,stT 45,stT 46]
noncomputable abbrev L17:List Stmt:=[stT 47]
noncomputable abbrev L18:List Stmt:=[stT 48,stT 49,stT 50,stT 51,stT 52,stT 53,stT 54,stT 55,stT 56,stT 57,stT 58,stT 59,stT 60,stT 61,stT 62,stT 63,stT 64,stT 65]
noncomputable abbrev L19:List Stmt:=[stT 66,stT 67,stT 68,stT 69,stT 70,stT 71,stT 72,stT 73,stT 74,stT 75,stT 76]
theorem z71:bodyT=L0++(L1++(L2++(L3++(L4++(L5++(L6++(L7++(L8++(L9++(L10++(L11++(L12++(L13++(L14++(L15++(L16++(L17++(L18++(L19++[]))))))))))))))))))):=by kernel_rfl
theorem pre0 (w:World) (os:OsState):topGo treeTable pw w 11 (some (.ref 6)) 12 ⟨boot_heap w.params,#[],boot_drawn,boot_toks,os⟩ (topStub pw)=some ((X0 w os).abs,⟨denote treeTable cd0,cd0,qz,[topFrame q0]⟩):=by
 rw [PySem.W.Fast.te15667345088766844465,PySem.W.Fast.te11892475500146522536,PySem.W.Fast.te14364793385576792824];kernel_rfl
theorem blk0 (w:World) (os:OsState):segRun treeTable pw w 11 (some (.ref 6)) 1 1 (X0 w os).abs (blockOf bodyT env0 cd0 qz [topFrame q0])=some (.next,(X0 w os).abs,cd0,qz):=by
 rw [PySem.W.Fast.te14374325043358763698,PySem.W.Fast.te14364793385576792824];kernel_rfl
theorem fin0 (w:World) (s:Shared) (c:Code) (q:Pos):topRun treeTable pw w 11 (some (.ref 6)) 2 s ⟨doneF .next,c,q,[topFrame q0]⟩=some s:=by
 obtain ⟨h,g,d,t,os⟩:=s;rfl
noncomputable abbrev H1 (P:Params):Heap:=absHeap (T77 P) 882 {}
theorem zdv (w:World) (os:OsState):topRun treeTable pw w 11 (some (.ref 6)) 6261 ⟨boot_heap w.params,#[],boot_drawn,boot_toks,os⟩ (topStub pw)=some ⟨H1 w.params,#[],{},1433,os⟩:=by
 have k20:=piece_nil (env:=env0) (fin0 w (X77 w os).abs cd0 q77)
 have k19:=piece_app (env:=env0) (q:=q0) (segRun_of (congrFun (p19 w) os)) k20
 have k18:=piece_app (env:=env0) (q:=q0) (segRun_of (congrFun (p18 w) os)) k19
 have k17:=piece_app (env:=env0) (q:=q0) (segRun_of (congrFun (p17 w) os)) k18
 have k16:=piece_app (env:=env0) (q:=q0) (segRun_of (congrFun (p16 w) os)) k17
 have k15:=piece_app (env:=env0) (q:=q0) (segRun_of (congrFun (p15 w) os)) k16
 have k14:=piece_app (env:=env0) (q:=q0) (segRun_of (congrFun (p14 w) os)) k15
 have k13:=piece_app (env:=env0) (q:=q0) (segRun_of (congrFun (p13 w) os)) k14
 have k12:=piece_app (env:=env0) (q:=q0) (segRun_of (congrFun (p12 w) os)) k13
 have k11:=piece_app (env:=env0) (q:=q0) (segRun_of (congrFun (p11 w) os)) k12
 have k10:=piece_app (env:=env0) (q:=q0) (segRun_of (congrFun (p10 w) os)) k11
 have k9:=piece_app (env:=env0) (q:=q0) (segRun_of (congrFun (p9 w) os)) k10
 have k8:=piece_app (env:=env0) (q:=q0) (segRun_of (congrFun (p8 w) os)) k9
 have k7:=piece_app (env:=env0) (q:=q0) (segRun_of (congrFun (p7 w) os)) k8
 have k6:=piece_app (env:=env0) (q:=q0) (segRun_of (congrFun (p6 w) os)) k7
 have k5:=piece_app (env:=env0) (q:=q0) (segRun_of (congrFun (p5 w) os)) k6
 have k4:=piece_app (env:=env0) (q:=q0) (segRun_of (congrFun (p4 w) os)) k5
 have k3:=piece_app (env:=env0) (q:=q0) (segRun_of (congrFun (p3 w) os)) k4
 have k2:=piece_app (env:=env0) (q:=q0) (segRun_of (congrFun (p2 w) os)) k3
 have k1:=piece_app (env:=env0) (q:=q0) (segRun_of (congrFun (p1 w) os)) k2
 have k0:=piece_app (env:=env0) (q:=q0) (segRun_of (congrFun (p0 w) os)) k1
 rw [← z71] at k0
 exact go_top (pre0 w os) (piece_block (blk0 w os) k0)
noncomputable def looseN:List Str:=[S "MarkupError",S "PathFault",S "common_divisor",S "sign_of",S "number_of",S "rows_of",S "Literal",S "NumberNode",S "VariableNode",S "Call",S "Binary",S "Negated",S "Filter",S "Path",S "Step",S "SPACES",S "START_RANGES",S "MORE_RANGES",S "FIRST_BEYOND",S "is_in_ranges",S "is_space",S "is_small_letter",S "is_name_start",S "is_name_char",S "FIGURES",S "PAIRS",S "OPERATORS",S "SIGNS",S "WORD_OPERATORS",S "KINDS_OF_NODES",S "BEHIND_NO_OPERAND",S "Word",S "PathScanner",S "path_words",S "MOST_DEPTH",S "AXES",S "LEVELS",S "PRIMARY_KINDS",S "any_step",S "name_test",S "number_value",S "PathReader",S "parse_path",S "UNARY_LEVEL",S "UNION_LEVEL",S "PATH_LEVEL",S "FILTER_LEVEL",S "PRIMARY_LEVEL",S "level_of",S "quoted",S "decimal_text",S "test_text",S "at_least",S "predicates_text",S "steps_text",S "binary_text",S "path_text",S "write_path",S "_law_pool",S "_law_take",S "_law_one",S "_law_leaf",S "_law_step",S "_law_some",S "_law_drawn",S "_law_short",S "_law_alike",S "_law_is_none"]
noncomputable def view0:Program:={ pw with main:={ pw.main with body:=[stT 76] } }
theorem open0:∀ w:World,(fencedOpening treeTable pw w 13000).map (fun s=>(s.heap,s.gens,s.drawn,s.toks))=some (boot_heap w.params,Array.mk [],boot_drawn,boot_toks) :=
 boot_open (by kernel_rfl) (by kernel_rfl) (fun s=>by kernel_rfl)
theorem size0 (w:World):((boot_heap w.params).isNs mainGlobals && (Array.mk []:Array GenState).size == 0,(boot_heap w.params).objs.size,(boot_heap w.params).nsMap mainGlobals "__annotations__")=(true,11,some (.ref 6)):=by
 kernel_rfl
noncomputable abbrev Xt0:Shared→Bool:=fun s=>xlAt view0 [] s && recOk (RowW.records PySem.Challenge.rw_nu0077_01.row.toRowW) s
theorem look1 (w:World) (os:OsState):(staticsOk (importedModules pw.main.body) (boot_heap w.params) (H1 w.params) && namesBound pw (H1 w.params) && gensDone ⟨H1 w.params,#[],{},1433,os⟩ && laidKept (boot_heap w.params) (H1 w.params))=true:=by
 kernel_rfl
theorem look2 (w:World) (os:OsState):openSeen view0 looseN (importedModules pw.main.body) Xt0 true ⟨H1 w.params,#[],{},1433,os⟩=openGood view0 looseN:=by
 rw [PySem.W.Fast.te4187177175401517315];kernel_rfl
theorem left0:LeftO pw view0 looseN Xt0 (fun s=>s.heap) (fun w=>H1 w.params) 13000 :=
 LeftO.of_pieces open0 size0 zdv (by kernel_rfl) (fun w=>funext fun os=>Prod.ext (look1 w os) (Prod.ext (look2 w os) rfl))
end MineH.Internal
end
set_option compiler.extract_closed false
set_option genSizeOfSpec false
set_option genSizeOf false
namespace Mine.Internal
open PySem
inductive T where
 | none
 | bool (b:Bool)
 | int (i:Int)
 | str (s:List Nat)
 | tup (l:List T)
 | node (c:Nat) (l:List T)
 | dict (l:List (List Nat×Int))
 | lst (l:List Int)
 deriving Inhabited
inductive V where
 | undef
 | t (x:T)
 | ref (i:Nat)
 deriving Inhabited
inductive MO where
 | list (l:List V)
 | inst (c:Nat) (l:List V)
 deriving Inhabited
noncomputable abbrev St:=List MO
inductive R (α:Type) where
 | ok (a : α) (σ:St)
 | exc (σ:St)
 | bot
noncomputable def R.bind {α β:Type} (r:R α) (f : α→St→R β):R β:=match r with
 | .ok a σ=>f a σ
 | .exc σ=> .exc σ
 | .bot=> .bot
noncomputable def R.lift {α:Type} (o:Option α) (σ:St):R α:=match o with
 | some a=> .ok a σ
 | .none=> .bot
set_option genCtorIdx false
set_option genInjectivity false
inductive X where
 | bad
 | c (x:T)
 | var (i:Nat)
 | glob (g:Nat)
 | nil
 | cons (a b:X)
 | tup (l:X)
 | lst (l:X)
 | dict (l:List (List Nat×Int))
 | bin (op:Nat) (a b:X)
 | neg (a:X)
 | not (a:X)
 | and (a b:X)
 | or (a b:X)
 | cmp (op:Nat) (a b:X)
 | cmp2 (a b c:X)
 | ite (c a b:X)
 | attr (a:X) (f:Nat)
 | idx (a b:X)
 | slice (a lo hi:X)
 | callF (f:Nat) (l:X)
 | callM (o:X) (m:Nat) (l:X)
 | new (k:Nat) (l:X)
 | blt (b:Nat) (l:X)
 | smeth (o:X) (m:Nat) (l:X)
 | isinst (a:X) (k:Nat)
 | comp (e:X) (i:Nat) (it:X)
 | compR (e:X) (i:Nat) (n:X)
 deriving Inhabited
inductive S where
 | bad
 | nil
 | seq (a b:S)
 | asg (i:Nat) (x:X)
 | asgT (is:List Nat) (x:X)
 | asgP (is:List Nat) (x:X)
 | setA (o:X) (f:Nat) (x:X)
 | setI (o i x:X)
 | expr (x:X)
 | ifs (c:X) (a b:S)
 | whl (c:X) (b:S)
 | forL (i:Nat) (x:X) (b:S)
 | forR (i:Nat) (n:X) (b:S)
 | ret (x:X)
 | raise (x:X)
 | tryE (b:S) (x:T)
 deriving Inhabited
set_option genCtorIdx true
set_option genInjectivity true
noncomputable def lineS:Nat:=1048576
noncomputable def repL (l:List Nat):Nat→List Nat
 | 0=>[]
 | n + 1=>l++repL l n
noncomputable def binT:Nat→T→T→Option T
 | 0,.int a,.int b=>some (.int (a+b))
 | 0,.str a,.str b=>if a.length+b.length≤lineS then some (.str (a++b)) else .none
 | 0,.tup a,.tup b=>if a.length+b.length≤lineS then some (.tup (a++b)) else .none
 | 1,.int a,.int b=>some (.int (a - b))
 | 2,.int a,.int b=>if a.natAbs < 2 ^ 64∧b.natAbs < 2 ^ 64 then some (.int (a * b)) else .none
 | 2,.str a,.int b=>if 0≤b∧b ≤ 16∧a.length = 1 then some (.str (repL a b.toNat)) else .none
 | 3,.int a,.int b=>if b ≠ 0 then some (.int (a.fdiv b)) else .none
 | 4,.int a,.int b=>if b ≠ 0 then some (.int (a.fmod b)) else .none
 | 5,.int a,.int b=>if a = 10 ∧ 0≤b∧b ≤ 18 then some (.int (10 ^ b.toNat)) else .none
 | _,_,_=> .none
noncomputable def eqbN:Nat→T→T→Bool
 | _ + 1,.none,.none=>true
 | _ + 1,.bool a,.bool b=>a == b
 | _ + 1,.int a,.int b=>decide (a=b)
 | _ + 1,.str a,.str b=>decide (a=b)
 | n + 1,.tup a,.tup b=>decide (a.length=b.length) && (a.zip b).all fun p=>eqbN n p.1 p.2
 | _,_,_=>false
noncomputable def eqT:T→T→Option Bool
 | .int a,.int b=>some (decide (a=b))
 | .str a,.str b=>some (decide (a=b))
 | .none,.str _=>some false
 | .node c _,.str _=>if c < 12 then some false else Option.none
 | .tup a,.tup b=>if b.isEmpty then some a.isEmpty else if eqbN 60 (.tup a) (.tup b) then some true else Option.none
 | _,_=>Option.none
noncomputable def inT:T→T→Option Bool
 | .str a,.str b=>match a with
  | []=>some true
  | [c]=>some (b.contains c)
  | _=>Option.none
 | .str a,.tup l=>if l.all (fun x=>match x with | .str _=>true | _=>false) then some (l.any fun x=>match x with | .str b=>decide (a=b) | _=>false) else Option.none
 | _,_=>Option.none
noncomputable def cmpT:Nat→T→T→Option Bool
 | 0,a,b=>eqT a b
 | 1,a,b=>(eqT a b).map (!·)
 | 2,.int a,.int b=>some (decide (a < b))
 | 3,.int a,.int b=>some (decide (a≤b))
 | 3,.str a,.str b=>some (decide (a≤b))
 | 4,.int a,.int b=>some (decide (a > b))
 | 5,.int a,.int b=>some (decide (a ≥ b))
 | 6,a,.none=>some (match a with | .none=>true | _=>false)
 | 7,a,.none=>some (match a with | .none=>false | _=>true)
 | 8,a,b=>inT a b
 | 9,a,b=>(inT a b).map (!·)
 | _,_,_=>Option.none
noncomputable def truthT:T→Option Bool
 | .none=>some false
 | .bool b=>some b
 | .int i=>some (decide (i ≠ 0))
 | .str s=>some (!s.isEmpty)
 | _=>Option.none
noncomputable def truthV:V→Option Bool
 | .t x=>truthT x
 | _=>Option.none
noncomputable def idxT:T→T→Option T
 | .tup l,.int i=>if 0≤i then l[i.toNat]? else Option.none
 | .str s,.int i=>if 0≤i then (s[i.toNat]?).map fun c=> .str [c] else Option.none
 | _,_=>Option.none
noncomputable def sliceT:T→T→T→Option T
 | .str s,.int a,.int b=>if 0≤a∧a≤b∧b≤s.length then some (.str ((s.take b.toNat).drop a.toNat)) else Option.none
 | .str s,.none,.int b=>if 0≤b∧b≤s.length then some (.str (s.take b.toNat)) else Option.none
 | .str s,.int a,.none=>if 0≤a∧a≤s.length then some (.str (s.drop a.toNat)) else Option.none
 | _,_,_=>Option.none
noncomputable def figs (n:Nat):List Nat:=(Nat.toDigits 10 n).map Char.toNat
noncomputable def numOf:List Nat→Option Nat
 | l=>if l.all (fun c=>decide (48≤c∧c ≤ 57)) && !l.isEmpty && decide (l.length ≤ 18) then some (l.foldl (fun n c=>10 * n+(c - 48)) 0) else Option.none
noncomputable def posFrom (c:Nat):List Nat→Nat→Nat→Int
 | [],_,_=>-1
 | x :: l,i,k=>if i≤k∧x=c then k else posFrom c l i (k + 1)
noncomputable def part1 (c:Nat):List Nat→List Nat×List Nat×List Nat
 | []=>([],[],[])
 | x :: l=>if x=c then ([],[c],l) else let r:=part1 c l;(x :: r.1,r.2.1,r.2.2)
noncomputable def part2 (c:Nat) (l:List Nat):List Nat×List Nat×List Nat :=
 let r:=part1 c l.reverse
 (r.2.2.reverse,r.2.1,r.1.reverse)
noncomputable def joinL (sep:List Nat):List (List Nat)→List Nat
 | []=>[]
 | [a]=>a
 | a :: r=>a++sep++joinL sep r
noncomputable def strsV:List V→Option (List (List Nat))
 | []=>some []
 | .t (.str s) :: r=>(strsV r).map (s :: ·)
 | _=>Option.none
noncomputable def treesV:List V→Option (List T)
 | []=>some []
 | .t x :: r=>(treesV r).map (x :: ·)
 | _=>Option.none
noncomputable def dictAt:List (List Nat×Int)→List Nat→Option Int
 | [],_=>Option.none
 | (k,v) :: r,x=>if x=k then some v else dictAt r x
noncomputable def V.low (k:Nat):V→Bool
 | .ref i=>decide (i < k)
 | _=>true
noncomputable def MO.vals:MO→List V
 | .list l=>l
 | .inst _ l=>l
noncomputable def lowAll (k:Nat) (σ:St):Bool:=σ.all fun o=>o.vals.all (V.low k)
noncomputable def trunc (k:Nat) (v:V) (σ:St):St:=if σ.length=k then σ else if v.low k && lowAll k (σ.take k) then σ.take k else σ
noncomputable def posOf (f:Nat):List Nat→Nat→Option Nat
 | [],_=>Option.none
 | g :: r,k=>if g=f then some k else posOf f r (k + 1)
noncomputable def fieldsOf:Nat→List Nat
 | 0=>[1] | 1=>[1] | 2=>[2] | 3=>[2,3] | 4=>[4,5,6] | 5=>[1] | 6=>[7,8] | 7=>[9,10] | 8=>[11,12,8]
 | 9=>[13,14,15] | 10=>[14,16,17] | 11=>[18,16,19]
 | _=>[]
noncomputable def frozenC (k:Nat):Bool:=decide (k ≤ 9)
noncomputable def getA (σ:St):V→Nat→Option V
 | .t (.node c l),f=>(posOf f (fieldsOf c) 0).bind fun j=>(l[j]?).map .t
 | .ref i,f=>match σ[i]? with
  | some (.inst c l)=>(posOf f (fieldsOf c) 0).bind fun j=>l[j]?
  | _=>Option.none
 | _,_=>Option.none
noncomputable def setA (σ:St):V→Nat→V→Option St
 | .ref i,f,v=>match σ[i]? with
  | some (.inst c l)=>(posOf f (fieldsOf c) 0).bind fun j=>
    if j < l.length then some (σ.set i (.inst c (l.set j v))) else if j=l.length then some (σ.set i (.inst c (l++[v]))) else Option.none
  | _=>Option.none
 | _,_,_=>Option.none
noncomputable def clsOf (σ:St):V→Option Nat
 | .t (.node c _)=>some c
 | .ref i=>match σ[i]? with
  | some (.inst c _)=>some c
  | _=>Option.none
 | _=>Option.none
noncomputable def idxV (σ:St):V→V→Option V
 | .t a,.t b=>(idxT a b).map .t
 | .ref i,.t (.int k)=>match σ[i]? with
  | some (.list l)=>if 0≤k then l[k.toNat]? else if k = -1 then l.getLast? else Option.none
  | _=>Option.none
 | _,_=>Option.none
noncomputable def setI (σ:St):V→V→V→Option St
 | .ref i,.t (.int k),v=>match σ[i]? with
  | some (.list l)=>if 0≤k∧k.toNat < l.length then some (σ.set i (.list (l.set k.toNat v))) else Option.none
  | _=>Option.none
 | _,_,_=>Option.none
noncomputable def cmpV (σ:St) (op:Nat):V→V→Option Bool
 | .t a,.t b=>cmpT op a b
 | .ref i,.ref j=>if op = 0 then (match σ[i]?,σ[j]? with
  | some (.list l),some (.list [])=>some l.isEmpty
  | _,_=>Option.none) else Option.none
 | _,_=>Option.none
noncomputable def bltV (σ:St):Nat→List V→Option T
 | 0,[.t (.str s)]=>some (.int s.length)
 | 0,[.t (.tup l)]=>some (.int l.length)
 | 0,[.ref i]=>match σ[i]? with
  | some (.list l)=>some (.int l.length)
  | _=>Option.none
 | 1,[.t (.str [c])]=>some (.int c)
 | 2,[.t (.str s)]=>(numOf s).map fun n:Nat=>T.int (n:Int)
 | 3,[.t (.int i)]=>if 0≤i∧i < 10 ^ 9∧(figs i.toNat).length ≤ 9 then some (.str (figs i.toNat)) else Option.none
 | 4,[.t (.int i)]=>some (.int i.natAbs)
 | 5,[.ref i]=>match σ[i]? with
  | some (.list l)=>(treesV l).bind fun r=>if r.length≤lineS then some (.tup r) else Option.none
  | _=>Option.none
 | _,_=>Option.none
noncomputable def smethV (σ:St):V→Nat→List V→R V
 | .t (.str s),0,[.t (.str [c]),.t (.int i)]=>if 0≤i then .ok (.t (.int (posFrom c s i.toNat 0))) σ else .bot
 | .t (.str s),1,[.t (.str [c])]=> .ok (.t (.bool (decide (s.getLast? = some c)))) σ
 | .t (.str s),2,[.t (.str [c])]=>if s.length≤lineS then (let r:=part1 c s;.ok (.t (.tup [.str r.1,.str r.2.1,.str r.2.2])) σ) else .bot
 | .t (.str s),3,[.t (.str [c])]=>if s.length≤lineS then (let r:=part2 c s;.ok (.t (.tup [.str r.1,.str r.2.1,.str r.2.2])) σ) else .bot
 | .t (.str s),4,[.ref i]=>match σ[i]? with
  | some (.list l)=>match strsV l with
   | some ss=>if (joinL s ss).length≤lineS∧ss.length≤lineS∧s.length ≤ 4 then .ok (.t (.str (joinL s ss))) σ else .bot
   | Option.none=> .bot
  | _=> .bot
 | .ref i,5,[v]=>match σ[i]? with
  | some (.list l)=>if l.length < lineS then .ok (.t .none) (σ.set i (.list (l++[v]))) else .bot
  | _=> .bot
 | .t (.dict l),6,[.t (.str k),.t (.int d)]=> .ok (.t (.int ((dictAt l k).getD d))) σ
 | _,_,_=> .bot
noncomputable def smFits (σ:St):V→Nat→Bool
 | .t (.str _),m=>decide (m ≤ 4)
 | .ref i,m=>decide (m = 5) && match σ[i]? with
  | some (.list _)=>true
  | _=>false
 | .t (.dict _),m=>decide (m = 6)
 | _,_=>false
noncomputable def itemsV:V→Option (List V)
 | .t (.tup l)=>some (l.map .t)
 | _=>Option.none
noncomputable def numsV:V→Option (List V)
 | .t (.int n)=>if 0≤n∧n ≤ 1000 then some ((List.range n.toNat).map fun k:Nat=> .t (.int (k:Int))) else Option.none
 | _=>Option.none
noncomputable def compL (f:V→St→R V) (i:Nat):List V→St→R V
 | [],σ=> .ok (.ref i) σ
 | x :: r,σ=>match f x σ with
  | .ok v σ=>(match σ[i]? with
   | some (.list l)=>if l.length < lineS then compL f i r (σ.set i (.list (l++[v]))) else .bot
   | _=> .bot)
  | _=> .bot
set_option genInjectivity false in
structure Tabs where
 glob:Nat→Option T
 meth:Nat→Nat→Option Nat
 init:Nat→Option Nat
section
variable (tb:Tabs) (Φ:Nat→List V→St→R V)
noncomputable def newV (k:Nat) (vs:List V) (σ:St):R V:=match tb.init k with
 | Option.none=> .bot
 | some f=>(Φ f (.ref σ.length :: vs) (σ++[.inst k []])).bind fun v σ'=>match v with
  | .t .none=>
  if frozenC k then (match σ'[σ.length]? with
   | some (.inst k' l)=>match treesV l with
    | some ts=>if k'=k ∧ σ'.length = σ.length + 1∧ts.length=(fieldsOf k).length∧lowAll σ.length (σ'.take σ.length)=true then .ok (.t (.node k ts)) (σ'.take σ.length) else .bot
    | Option.none=> .bot
   | _=> .bot)
  else .ok (.ref σ.length) σ'
  | _=> .bot
mutual
noncomputable def den:X→List V→St→R V
 | .c x,_,σ=> .ok (.t x) σ
 | .var i,ρ,σ=>match ρ[i]? with
  | some (.t x)=> .ok (.t x) σ
  | some (.ref j)=> .ok (.ref j) σ
  | _=> .bot
 | .glob g,_,σ=>match tb.glob g with
  | some x=> .ok (.t x) σ
  | Option.none=> .bot
 | .tup l,ρ,σ=>(denL l ρ σ).bind fun vs σ=>match treesV vs with
  | some ts=>if ts.length≤lineS then .ok (.t (.tup ts)) σ else .bot
  | Option.none=> .bot
 | .lst l,ρ,σ=>(denL l ρ σ).bind fun vs σ=>if vs.length≤lineS then .ok (.ref σ.length) (σ++[.list vs]) else .bot
 | .dict l,_,σ=> .ok (.t (.dict l)) σ
 | .bin op a b,ρ,σ=>(den a ρ σ).bind fun v σ=>(den b ρ σ).bind fun u σ=>match v,u with
  | .t x,.t y=>R.lift ((binT op x y).map .t) σ
  | .ref i,.ref j=>if op = 0 then (match σ[i]?,σ[j]? with
   | some (.list l),some (.list l')=>if l.length+l'.length≤lineS then .ok (.ref σ.length) (σ++[.list (l++l')]) else .bot
   | _,_=> .bot) else .bot
  | _,_=> .bot
 | .neg a,ρ,σ=>(den a ρ σ).bind fun v σ=>match v with
  | .t (.int i)=> .ok (.t (.int (-i))) σ
  | _=> .bot
 | .not a,ρ,σ=>(den a ρ σ).bind fun v σ=>R.lift ((truthV v).map fun b=> .t (.bool (!b))) σ
 | .and a b,ρ,σ=>(den a ρ σ).bind fun v σ=>match truthV v with
  | some true=>den b ρ σ
  | some false=> .ok v σ
  | Option.none=> .bot
 | .or a b,ρ,σ=>(den a ρ σ).bind fun v σ=>match truthV v with
  | some true=> .ok v σ
  | some false=>den b ρ σ
  | Option.none=> .bot
 | .cmp op a b,ρ,σ=>(den a ρ σ).bind fun v σ=>(den b ρ σ).bind fun u σ=>R.lift ((cmpV σ op v u).map fun b=> .t (.bool b)) σ
 | .cmp2 a b c,ρ,σ=>(den a ρ σ).bind fun v σ=>(den b ρ σ).bind fun u σ=>match cmpV σ 3 v u with
  | some true=>(den c ρ σ).bind fun w σ=>R.lift ((cmpV σ 3 u w).map fun b=> .t (.bool b)) σ
  | some false=> .ok (.t (.bool false)) σ
  | Option.none=> .bot
 | .ite c a b,ρ,σ=>(den c ρ σ).bind fun v σ=>match truthV v with
  | some true=>den a ρ σ
  | some false=>den b ρ σ
  | Option.none=> .bot
 | .attr a f,ρ,σ=>(den a ρ σ).bind fun v σ=>R.lift (getA σ v f) σ
 | .idx a b,ρ,σ=>(den a ρ σ).bind fun v σ=>(den b ρ σ).bind fun u σ=>R.lift (idxV σ v u) σ
 | .slice a lo hi,ρ,σ=>(den a ρ σ).bind fun v σ=>(den lo ρ σ).bind fun u σ=>(den hi ρ σ).bind fun w σ=>match v,u,w with
  | .t x,.t y,.t z=>R.lift ((sliceT x y z).map .t) σ
  | _,_,_=> .bot
 | .callF f l,ρ,σ=>(denL l ρ σ).bind fun vs σ=>Φ f vs σ
 | .callM o m l,ρ,σ=>(den o ρ σ).bind fun v σ=>match clsOf σ v with
  | some c=>match tb.meth c m with
   | some f=>(denL l ρ σ).bind fun vs σ=>Φ f (v :: vs) σ
   | Option.none=> .bot
  | Option.none=> .bot
 | .new k l,ρ,σ=>(denL l ρ σ).bind fun vs σ=>newV tb Φ k vs σ
 | .blt b l,ρ,σ=>(denL l ρ σ).bind fun vs σ=>R.lift ((bltV σ b vs).map .t) σ
 | .smeth o m l,ρ,σ=>(den o ρ σ).bind fun v σ=>if smFits σ v m then (denL l ρ σ).bind fun vs σ=>smethV σ v m vs else .bot
 | .isinst a k,ρ,σ=>(den a ρ σ).bind fun v σ=>match v with
  | .t (.node c _)=>if c < 12 then .ok (.t (.bool (decide (c=k)))) σ else .bot
  | _=> .bot
 | .comp e i it,ρ,σ=>(den it ρ σ).bind fun v σ=>match itemsV v with
  | some xs=>compL (fun x σ=>den e (ρ.set i x) σ) σ.length xs (σ++[.list []])
  | Option.none=> .bot
 | .compR e i n,ρ,σ=>(den n ρ σ).bind fun v σ=>match numsV v with
  | some xs=>compL (fun x σ=>den e (ρ.set i x) σ) σ.length xs (σ++[.list []])
  | Option.none=> .bot
 | .bad,_,_=> .bot
 | .nil,_,_=> .bot
 | .cons _ _,_,_=> .bot
noncomputable def denL:X→List V→St→R (List V)
 | .nil,_,σ=> .ok [] σ
 | .cons a b,ρ,σ=>(den a ρ σ).bind fun v σ=>(denL b ρ σ).bind fun vs σ=> .ok (v :: vs) σ
 | _,_,_=> .bot
end
end
inductive RS where
 | next (ρ:List V) (σ:St)
 | ret (v:V) (σ:St)
 | exc (ρ:List V) (σ:St)
 | bot
noncomputable def setAll (ρ:List V):List Nat→List V→List V
 | i :: is,v :: vs=>setAll (ρ.set i v) is vs
 | _,_=>ρ
noncomputable def R.toS {α:Type} (ρ:List V) (r:R α) (f : α→St→RS):RS:=match r with
 | .ok a σ=>f a σ
 | .exc σ=> .exc ρ σ
 | .bot=> .bot
noncomputable def RS.andThen (r:RS) (f:List V→St→RS):RS:=match r with
 | .next ρ σ=>f ρ σ
 | r=>r
noncomputable def whileN (test:List V→St→R V) (body:List V→St→RS):Nat→List V→St→RS
 | 0,_,_=> .bot
 | n + 1,ρ,σ=>(test ρ σ).toS ρ fun v σ=>match truthV v with
  | some true=>(body ρ σ).andThen fun ρ σ=>whileN test body n ρ σ
  | some false=> .next ρ σ
  | Option.none=> .bot
noncomputable def forN (i:Nat) (body:List V→St→RS):List V→List V→St→RS
 | [],ρ,σ=> .next ρ σ
 | x :: r,ρ,σ=>match body (ρ.set i x) σ with
  | .next ρ σ=>forN i body r ρ σ
  | .ret v σ=> .ret v σ
  | _=> .bot
noncomputable def forLN (i:Nat) (a:Nat) (body:List V→St→RS):Nat→Nat→List V→St→RS
 | 0,_,_,_=> .bot
 | n + 1,j,ρ,σ=>match σ[a]? with
  | some (.list l)=>match l[j]? with
   | some x=>(match body (ρ.set i x) σ with
    | .next ρ σ=>forLN i a body n (j + 1) ρ σ
    | .ret v σ=> .ret v σ
    | _=> .bot)
   | Option.none=> .next ρ σ
  | _=> .bot
section
variable (tb:Tabs) (Φ:Nat→List V→St→R V) (W:Nat)
noncomputable def exS:S→List V→St→RS
 | .nil,ρ,σ=> .next ρ σ
 | .seq a b,ρ,σ=>(exS a ρ σ).andThen fun ρ σ=>exS b ρ σ
 | .asg i x,ρ,σ=>(den tb Φ x ρ σ).toS ρ fun v σ=> .next (ρ.set i v) σ
 | .asgT is x,ρ,σ=>(den tb Φ x ρ σ).toS ρ fun v σ=>match itemsV v with
  | some vs=>if vs.length=is.length then .next (setAll ρ is vs) σ else .bot
  | Option.none=> .bot
 | .asgP is x,ρ,σ=>(denL tb Φ x ρ σ).toS ρ fun vs σ=>match treesV vs with
  | some _=>if vs.length=is.length then .next (setAll ρ is vs) σ else .bot
  | Option.none=> .bot
 | .setA o f x,ρ,σ=>(den tb Φ x ρ σ).toS ρ fun v σ=>(den tb Φ o ρ σ).toS ρ fun u σ=>match setA σ u f v with
  | some σ=> .next ρ σ
  | Option.none=> .bot
 | .setI o i x,ρ,σ=>(den tb Φ x ρ σ).toS ρ fun v σ=>(den tb Φ o ρ σ).toS ρ fun u σ=>(den tb Φ i ρ σ).toS ρ fun k σ=>match setI σ u k v with
  | some σ=> .next ρ σ
  | Option.none=> .bot
 | .expr x,ρ,σ=>(den tb Φ x ρ σ).toS ρ fun _ σ=> .next ρ σ
 | .ifs c a b,ρ,σ=>(den tb Φ c ρ σ).toS ρ fun v σ=>match truthV v with
  | some true=>exS a ρ σ
  | some false=>exS b ρ σ
  | Option.none=> .bot
 | .whl c b,ρ,σ=>whileN (fun ρ σ=>den tb Φ c ρ σ) (fun ρ σ=>exS b ρ σ) W ρ σ
 | .forL i x b,ρ,σ=>(den tb Φ x ρ σ).toS ρ fun v σ=>match v with
  | .ref a=>forLN i a (fun ρ σ=>exS b ρ σ) W 0 ρ σ
  | .t (.lst l)=>forN i (fun ρ σ=>exS b ρ σ) (l.map fun k=> .t (.int k)) ρ σ
  | _=> .bot
 | .forR i n b,ρ,σ=>(den tb Φ n ρ σ).toS ρ fun v σ=>match numsV v with
  | some xs=>forN i (fun ρ σ=>exS b ρ σ) xs ρ σ
  | Option.none=> .bot
 | .ret x,ρ,σ=>(den tb Φ x ρ σ).toS ρ fun v σ=> .ret v σ
 | .raise x,ρ,σ=>(den tb Φ x ρ σ).toS ρ fun v σ=>match v with
  | .t (.str _)=> .exc ρ σ
  | _=> .bot
 | .tryE b x,ρ,σ=>match exS b ρ σ with
  | .exc _ σ=> .ret (.t x) σ
  | r=>r
 | .bad,_,_=> .bot
end
set_option genInjectivity false in
structure Fn where
 np:Nat
 dfl:List T
 ns:Nat
 body:S
set_option genInjectivity false in
structure Prog where
 tb:Tabs
 fn:Nat→Option Fn
noncomputable def layArgs (f:Fn) (vs:List V):Option (List V) :=
 if vs.length≤f.np∧f.np≤vs.length+f.dfl.length then
  some ((vs++(f.dfl.drop (vs.length+f.dfl.length - f.np)).map .t)++List.replicate (f.ns - f.np) .undef)
 else Option.none
noncomputable def runF (P:Prog) (W:Nat):Nat→Nat→List V→St→R V
 | 0,_,_,_=> .bot
 | n + 1,f,vs,σ=>match P.fn f with
  | Option.none=> .bot
  | some fd=>match layArgs fd vs with
   | Option.none=> .bot
   | some ρ=>match exS P.tb (runF P W n) W fd.body ρ σ with
    | .next _ σ'=> .ok (.t .none) (trunc σ.length (.t .none) σ')
    | .ret v σ'=> .ok v (trunc σ.length v σ')
    | .exc _ σ'=> .exc (trunc σ.length (.t .none) σ')
    | .bot=> .bot
theorem nS {α:Type} {x : α} {p:Prop} (h:Option.none=some x):p:=by cases h
theorem ite_o {α:Type} {c:Prop} [Decidable c] {x:Option α} {t : α} (h:(if c then x else Option.none)=some t):c∧x=some t:=by
 by_cases q:c
 ·rw [if_pos q] at h;exact ⟨q,h⟩
 ·rw [if_neg q] at h;exact nS h
theorem z1d {α:Type} {c:Prop} [Decidable c] {x t : α} (h:(if c then some x else Option.none)=some t):c∧t=x:=⟨(ite_o h).1,(Option.some.inj (ite_o h).2).symm⟩
end Mine.Internal
namespace Mine.Internal
open PySem
noncomputable def b0:S:=(.seq (.expr .bad) (.seq (.setA (.var 0) 0 (.var 1)) .nil))
noncomputable def b1:S:=(.seq (.asgP [2,3] (.cons (.blt 4 (.cons (.var 0) .nil)) (.cons (.var 1) .nil))) (.seq (.whl (.cmp 4 (.var 3) (.c (.int 0))) (.seq (.asgP [2,3] (.cons (.var 3) (.cons (.bin 4 (.var 2) (.var 3)) .nil))) .nil)) (.seq (.ret (.var 2)) .nil)))
noncomputable def b2:S:=(.seq (.ifs (.cmp 4 (.var 0) (.c (.int 0))) (.seq (.ret (.c (.int 1))) .nil) .nil) (.seq (.ifs (.cmp 2 (.var 0) (.c (.int 0))) (.seq (.ret (.neg (.c (.int 1)))) .nil) .nil) (.seq (.ret (.c (.int 0))) .nil)))
noncomputable def b3:S:=(.seq (.ifs (.cmp 0 (.var 1) (.c (.int 0))) (.seq (.ret (.tup (.cons (.callF 2 (.cons (.var 0) .nil)) (.cons (.c (.int 0)) .nil)))) .nil) .nil) (.seq (.ifs (.cmp 2 (.var 1) (.c (.int 0))) (.seq (.asgP [0,1] (.cons (.neg (.var 0)) (.cons (.neg (.var 1)) .nil))) .nil) .nil) (.seq (.asg 2 (.callF 1 (.cons (.var 0) (.cons (.var 1) .nil)))) (.seq (.ret (.tup (.cons (.bin 3 (.var 0) (.var 2)) (.cons (.bin 3 (.var 1) (.var 2)) .nil)))) .nil))))
noncomputable def b4:S:=(.seq (.ret (.blt 5 (.cons (.comp (.callM (.var 1) 27 .nil) 1 (.var 0)) .nil))) .nil)
noncomputable def b5:S:=(.seq (.setA (.var 0) 1 (.var 1)) .nil)
noncomputable def b6:S:=(.seq (.ret (.tup (.cons (.c (.str [108,105,116,101,114,97,108])) (.cons (.attr (.var 0) 1) .nil)))) .nil)
noncomputable def b7:S:=(.seq (.setA (.var 0) 1 (.var 1)) .nil)
noncomputable def b8:S:=(.seq (.ret (.tup (.cons (.c (.str [110,117,109,98,101,114])) (.cons (.attr (.var 0) 1) .nil)))) .nil)
noncomputable def b9:S:=(.seq (.setA (.var 0) 2 (.var 1)) .nil)
noncomputable def b10:S:=(.seq (.ret (.tup (.cons (.c (.str [118,97,114,105,97,98,108,101])) (.cons (.attr (.var 0) 2) .nil)))) .nil)
noncomputable def b11:S:=(.seq (.setA (.var 0) 2 (.var 1)) (.seq (.setA (.var 0) 3 (.var 2)) .nil))
noncomputable def b12:S:=(.seq (.ret (.tup (.cons (.c (.str [99,97,108,108])) (.cons (.attr (.var 0) 2) (.cons (.callF 4 (.cons (.attr (.var 0) 3) .nil)) .nil))))) .nil)
noncomputable def b13:S:=(.seq (.setA (.var 0) 4 (.var 1)) (.seq (.setA (.var 0) 5 (.var 2)) (.seq (.setA (.var 0) 6 (.var 3)) .nil)))
noncomputable def b14:S:=(.seq (.ret (.tup (.cons (.c (.str [98,105,110,97,114,121])) (.cons (.attr (.var 0) 4) (.cons (.callM (.attr (.var 0) 5) 27 .nil) (.cons (.callM (.attr (.var 0) 6) 27 .nil) .nil)))))) .nil)
noncomputable def b15:S:=(.seq (.setA (.var 0) 1 (.var 1)) .nil)
noncomputable def b16:S:=(.seq (.ret (.tup (.cons (.c (.str [110,101,103,97,116,101,100])) (.cons (.callM (.attr (.var 0) 1) 27 .nil) .nil)))) .nil)
noncomputable def b17:S:=(.seq (.setA (.var 0) 7 (.var 1)) (.seq (.setA (.var 0) 8 (.var 2)) .nil))
noncomputable def b18:S:=(.seq (.ret (.tup (.cons (.c (.str [102,105,108,116,101,114])) (.cons (.callM (.attr (.var 0) 7) 27 .nil) (.cons (.callF 4 (.cons (.attr (.var 0) 8) .nil)) .nil))))) .nil)
noncomputable def b19:S:=(.seq (.setA (.var 0) 9 (.var 1)) (.seq (.setA (.var 0) 10 (.var 2)) .nil))
noncomputable def b20:S:=(.seq (.asg 1 (.attr (.var 0) 9)) (.seq (.ifs (.and (.cmp 7 (.var 1) (.c .none)) (.cmp 1 (.var 1) (.c (.str [114,111,111,116])))) (.seq (.asg 1 (.callM (.var 1) 27 .nil)) .nil) .nil) (.seq (.ret (.tup (.cons (.c (.str [112,97,116,104])) (.cons (.var 1) (.cons (.callF 4 (.cons (.attr (.var 0) 10) .nil)) .nil))))) .nil)))
noncomputable def b21:S:=(.seq (.setA (.var 0) 11 (.var 1)) (.seq (.setA (.var 0) 12 (.var 2)) (.seq (.setA (.var 0) 8 (.var 3)) .nil)))
noncomputable def b22:S:=(.seq (.ret (.tup (.cons (.c (.str [115,116,101,112])) (.cons (.attr (.var 0) 11) (.cons (.attr (.var 0) 12) (.cons (.callF 4 (.cons (.attr (.var 0) 8) .nil)) .nil)))))) .nil)
noncomputable def b23:S:=(.seq .bad (.seq (.ret (.c (.bool false))) .nil))
noncomputable def b24:S:=(.seq (.ret (.and (.cmp 8 (.var 0) (.glob 0)) (.cmp 1 (.var 0) (.c (.str []))))) .nil)
noncomputable def b25:S:=(.seq (.ret (.cmp2 (.c (.str [97])) (.var 0) (.c (.str [122])))) .nil)
noncomputable def b26:S:=(.seq (.ifs (.cmp 2 (.blt 1 (.cons (.var 0) .nil)) (.glob 1)) (.seq (.ret (.or (.callF 25 (.cons (.var 0) .nil)) (.or (.cmp2 (.c (.str [65])) (.var 0) (.c (.str [90]))) (.or (.cmp 0 (.var 0) (.c (.str [95]))) (.cmp 0 (.var 0) (.c (.str [58]))))))) .nil) .nil) (.seq (.ret (.callF 23 (.cons (.blt 1 (.cons (.var 0) .nil)) (.cons .bad .nil)))) .nil))
noncomputable def b27:S:=(.seq (.ifs (.callF 26 (.cons (.var 0) .nil)) (.seq (.ret (.c (.bool true))) .nil) .nil) (.seq (.ifs (.cmp 2 (.blt 1 (.cons (.var 0) .nil)) (.glob 1)) (.seq (.ret (.or (.cmp2 (.c (.str [48])) (.var 0) (.c (.str [57]))) (.or (.cmp 0 (.var 0) (.c (.str [45]))) (.cmp 0 (.var 0) (.c (.str [46])))))) .nil) .nil) (.seq (.ret (.callF 23 (.cons (.blt 1 (.cons (.var 0) .nil)) (.cons .bad .nil)))) .nil)))
noncomputable def b28:S:=(.seq (.setA (.var 0) 13 (.var 1)) (.seq (.setA (.var 0) 14 (.var 2)) (.seq (.setA (.var 0) 15 (.var 3)) .nil)))
noncomputable def b29:S:=(.seq (.ret (.and (.cmp 0 (.attr (.var 0) 13) (.c (.str [115,105,103,110]))) (.cmp 0 (.attr (.var 0) 14) (.var 1)))) .nil)
noncomputable def b30:S:=(.seq (.ret (.and (.cmp 0 (.attr (.var 0) 13) (.c (.str [111,112,101,114,97,116,111,114]))) (.cmp 0 (.attr (.var 0) 14) (.var 1)))) .nil)
noncomputable def b31:S:=(.seq (.ret (.tup (.cons (.attr (.var 0) 13) (.cons (.attr (.var 0) 14) .nil)))) .nil)
noncomputable def b32:S:=(.seq (.setA (.var 0) 14 (.var 1)) (.seq (.setA (.var 0) 16 (.c (.int 0))) (.seq (.setA (.var 0) 17 (.lst .nil)) .nil)))
noncomputable def b33:S:=(.seq (.asg 2 (.bin 0 (.attr (.var 0) 16) (.var 1))) (.seq (.ret (.ite (.cmp 2 (.var 2) (.blt 0 (.cons (.attr (.var 0) 14) .nil))) (.idx (.attr (.var 0) 14) (.var 2)) (.c (.str [])))) .nil))
noncomputable def b34:S:=(.seq (.expr (.smeth (.attr (.var 0) 17) 5 (.cons (.new 9 (.cons (.var 1) (.cons (.var 2) (.cons (.var 3) .nil)))) .nil))) .nil)
noncomputable def b35:S:=(.seq (.expr (.callM (.var 0) 30 .nil)) (.seq (.whl (.cmp 2 (.attr (.var 0) 16) (.blt 0 (.cons (.attr (.var 0) 14) .nil))) (.seq (.expr (.callM (.var 0) 31 .nil)) (.seq (.expr (.callM (.var 0) 30 .nil)) .nil))) (.seq (.expr (.callM (.var 0) 0 (.cons (.c (.str [101,110,100])) (.cons (.c (.str [])) (.cons (.attr (.var 0) 16) .nil))))) (.seq (.ret (.attr (.var 0) 17)) .nil))))
noncomputable def b36:S:=(.seq (.whl (.and (.cmp 2 (.attr (.var 0) 16) (.blt 0 (.cons (.attr (.var 0) 14) .nil))) (.callF 24 (.cons (.idx (.attr (.var 0) 14) (.attr (.var 0) 16)) .nil))) (.seq (.setA (.var 0) 16 (.bin 0 (.attr (.var 0) 16) (.c (.int 1)))) .nil)) .nil)
noncomputable def b37:S:=(.seq (.ifs (.cmp 0 (.attr (.var 0) 17) (.lst .nil)) (.seq (.ret (.c (.bool false))) .nil) .nil) (.seq (.asg 1 (.idx (.attr (.var 0) 17) (.neg (.c (.int 1))))) (.seq (.ifs (.cmp 0 (.attr (.var 1) 13) (.c (.str [111,112,101,114,97,116,111,114]))) (.seq (.ret (.c (.bool false))) .nil) .nil) (.seq (.ret (.not (.and (.cmp 0 (.attr (.var 1) 13) (.c (.str [115,105,103,110]))) (.cmp 8 (.attr (.var 1) 14) (.glob 8))))) .nil))))
noncomputable def b38:S:=(.seq (.asg 1 (.callM (.var 0) 29 .nil)) (.seq (.ifs (.or (.cmp 8 (.var 1) (.glob 2)) (.and (.cmp 0 (.var 1) (.c (.str [46]))) (.and (.cmp 1 (.callM (.var 0) 29 (.cons (.c (.int 1)) .nil)) (.c (.str []))) (.cmp 8 (.callM (.var 0) 29 (.cons (.c (.int 1)) .nil)) (.glob 2))))) (.seq (.expr (.callM (.var 0) 19 .nil)) .nil) (.seq (.ifs (.cmp 8 (.var 1) (.tup (.cons (.c (.str [39])) (.cons (.c (.str [34])) .nil)))) (.seq (.expr (.callM (.var 0) 14 (.cons (.var 1) .nil))) .nil) (.seq (.ifs (.cmp 0 (.var 1) (.c (.str [36]))) (.seq (.expr (.callM (.var 0) 35 .nil)) .nil) (.seq (.ifs (.cmp 0 (.var 1) (.c (.str [42]))) (.seq (.setA (.var 0) 16 (.bin 0 (.attr (.var 0) 16) (.c (.int 1)))) (.seq (.expr (.callM (.var 0) 0 (.cons (.ite (.callM (.var 0) 9 .nil) (.c (.str [111,112,101,114,97,116,111,114])) (.c (.str [110,97,109,101]))) (.cons (.c (.str [42])) (.cons (.bin 1 (.attr (.var 0) 16) (.c (.int 1))) .nil))))) .nil)) (.seq (.ifs (.and (.callF 26 (.cons (.var 1) .nil)) (.cmp 1 (.var 1) (.c (.str [58])))) (.seq (.expr (.callM (.var 0) 16 .nil)) .nil) (.seq (.expr (.callM (.var 0) 15 .nil)) .nil)) .nil)) .nil)) .nil)) .nil)) .nil))
noncomputable def b39:S:=(.seq (.asg 1 (.attr (.var 0) 16)) (.seq (.expr (.callM (.var 0) 5 .nil)) (.seq (.ifs (.and (.cmp 0 (.callM (.var 0) 29 .nil) (.c (.str [46]))) (.cmp 1 (.callM (.var 0) 29 (.cons (.c (.int 1)) .nil)) (.c (.str [46])))) (.seq (.setA (.var 0) 16 (.bin 0 (.attr (.var 0) 16) (.c (.int 1)))) (.seq (.expr (.callM (.var 0) 5 .nil)) .nil)) .nil) (.seq (.expr (.callM (.var 0) 0 (.cons (.c (.str [110,117,109,98,101,114])) (.cons (.slice (.attr (.var 0) 14) (.var 1) (.attr (.var 0) 16)) (.cons (.var 1) .nil))))) .nil))))
noncomputable def b40:S:=(.seq (.whl (.and (.cmp 1 (.callM (.var 0) 29 .nil) (.c (.str []))) (.cmp 8 (.callM (.var 0) 29 .nil) (.glob 2))) (.seq (.setA (.var 0) 16 (.bin 0 (.attr (.var 0) 16) (.c (.int 1)))) .nil)) .nil)
noncomputable def b41:S:=(.seq (.asg 2 (.attr (.var 0) 16)) (.seq (.asg 3 (.smeth (.attr (.var 0) 14) 0 (.cons (.var 1) (.cons (.bin 0 (.var 2) (.c (.int 1))) .nil)))) (.seq (.ifs (.cmp 2 (.var 3) (.c (.int 0))) (.seq (.raise (.bin 0 (.c (.str [97,32,113,117,111,116,101,32,105,115,32,110,111,116,32,99,108,111,115,101,100,32,97,116,32])) (.blt 3 (.cons (.var 2) .nil)))) .nil) .nil) (.seq (.setA (.var 0) 16 (.bin 0 (.var 3) (.c (.int 1)))) (.seq (.expr (.callM (.var 0) 0 (.cons (.c (.str [108,105,116,101,114,97,108])) (.cons (.slice (.attr (.var 0) 14) (.bin 0 (.var 2) (.c (.int 1))) (.var 3)) (.cons (.var 2) .nil))))) .nil)))))
noncomputable def b42:S:=(.seq (.asg 1 (.attr (.var 0) 16)) (.seq (.setA (.var 0) 16 (.bin 0 (.attr (.var 0) 16) (.c (.int 1)))) (.seq (.asg 2 (.callM (.var 0) 25 .nil)) (.seq (.ifs (.or (.cmp 0 (.var 2) (.c (.str []))) (.smeth (.var 2) 1 (.cons (.c (.str [42])) .nil))) (.seq (.raise (.bin 0 (.c (.str [97,32,118,97,114,105,97,98,108,101,32,104,97,115,32,110,111,32,110,97,109,101,32,97,116,32])) (.blt 3 (.cons (.var 1) .nil)))) .nil) .nil) (.seq (.expr (.callM (.var 0) 0 (.cons (.c (.str [118,97,114,105,97,98,108,101])) (.cons (.var 2) (.cons (.var 1) .nil))))) .nil)))))
noncomputable def b43:S:=(.seq (.asg 1 (.attr (.var 0) 16)) (.seq (.ifs (.or (.cmp 0 (.callM (.var 0) 29 .nil) (.c (.str []))) (.or (.cmp 0 (.callM (.var 0) 29 .nil) (.c (.str [58]))) (.not (.callF 26 (.cons (.callM (.var 0) 29 .nil) .nil))))) (.seq (.ret (.c (.str []))) .nil) .nil) (.seq (.whl (.and (.cmp 1 (.callM (.var 0) 29 .nil) (.c (.str []))) (.and (.cmp 1 (.callM (.var 0) 29 .nil) (.c (.str [58]))) (.callF 27 (.cons (.callM (.var 0) 29 .nil) .nil)))) (.seq (.setA (.var 0) 16 (.bin 0 (.attr (.var 0) 16) (.c (.int 1)))) .nil)) (.seq (.ret (.slice (.attr (.var 0) 14) (.var 1) (.attr (.var 0) 16))) .nil))))
noncomputable def b44:S:=(.seq (.asg 1 (.callM (.var 0) 22 .nil)) (.seq (.ifs (.or (.cmp 0 (.var 1) (.c (.str []))) (.or (.cmp 1 (.callM (.var 0) 29 .nil) (.c (.str [58]))) (.cmp 0 (.callM (.var 0) 29 (.cons (.c (.int 1)) .nil)) (.c (.str [58]))))) (.seq (.ret (.var 1)) .nil) .nil) (.seq (.setA (.var 0) 16 (.bin 0 (.attr (.var 0) 16) (.c (.int 1)))) (.seq (.ifs (.cmp 0 (.callM (.var 0) 29 .nil) (.c (.str [42]))) (.seq (.setA (.var 0) 16 (.bin 0 (.attr (.var 0) 16) (.c (.int 1)))) (.seq (.ret (.bin 0 (.var 1) (.c (.str [58,42])))) .nil)) .nil) (.seq (.asg 2 (.callM (.var 0) 22 .nil)) (.seq (.ifs (.cmp 0 (.var 2) (.c (.str []))) (.seq (.raise (.bin 0 (.c (.str [97,32,110,97,109,101,32,105,115,32,109,105,115,115,105,110,103,32,98,101,104,105,110,100,32,97,32,99,111,108,111,110,32,97,116,32])) (.blt 3 (.cons (.attr (.var 0) 16) .nil)))) .nil) .nil) (.seq (.ret (.bin 0 (.bin 0 (.var 1) (.c (.str [58]))) (.var 2))) .nil)))))))
noncomputable def b45:S:=(.seq (.asg 1 (.attr (.var 0) 16)) (.seq (.ifs (.callM (.var 0) 9 .nil) (.seq (.asg 2 (.callM (.var 0) 22 .nil)) (.seq (.ifs (.cmp 9 (.var 2) (.glob 6)) (.seq (.raise (.bin 0 (.c (.str [97,110,32,111,112,101,114,97,116,111,114,32,105,115,32,109,105,115,115,105,110,103,32,97,116,32])) (.blt 3 (.cons (.var 1) .nil)))) .nil) .nil) (.seq (.expr (.callM (.var 0) 0 (.cons (.c (.str [111,112,101,114,97,116,111,114])) (.cons (.var 2) (.cons (.var 1) .nil))))) (.seq (.ret (.c .none)) .nil)))) .nil) (.seq (.asg 2 (.callM (.var 0) 25 .nil)) (.seq (.asg 3 (.attr (.var 0) 16)) (.seq (.expr (.callM (.var 0) 30 .nil)) (.seq (.ifs (.and (.cmp 0 (.callM (.var 0) 29 .nil) (.c (.str [40]))) (.not (.smeth (.var 2) 1 (.cons (.c (.str [42])) .nil)))) (.seq (.expr (.callM (.var 0) 0 (.cons (.ite (.cmp 8 (.var 2) (.glob 7)) (.c (.str [107,105,110,100])) (.c (.str [102,117,110,99,116,105,111,110]))) (.cons (.var 2) (.cons (.var 1) .nil))))) .nil) (.seq (.ifs (.and (.cmp 0 (.callM (.var 0) 29 .nil) (.c (.str [58]))) (.cmp 0 (.callM (.var 0) 29 (.cons (.c (.int 1)) .nil)) (.c (.str [58])))) (.seq (.expr (.callM (.var 0) 0 (.cons (.c (.str [97,120,105,115])) (.cons (.var 2) (.cons (.var 1) .nil))))) .nil) (.seq (.setA (.var 0) 16 (.var 3)) (.seq (.expr (.callM (.var 0) 0 (.cons (.c (.str [110,97,109,101])) (.cons (.var 2) (.cons (.var 1) .nil))))) .nil))) .nil)) .nil))))))
noncomputable def b46:S:=(.seq (.asg 1 (.attr (.var 0) 16)) (.seq (.asg 2 (.bin 0 (.callM (.var 0) 29 .nil) (.callM (.var 0) 29 (.cons (.c (.int 1)) .nil)))) (.seq (.ifs (.cmp 9 (.var 2) (.glob 3)) (.seq (.asg 2 (.callM (.var 0) 29 .nil)) .nil) .nil) (.seq (.ifs (.cmp 8 (.var 2) (.glob 4)) (.seq (.expr (.callM (.var 0) 0 (.cons (.c (.str [111,112,101,114,97,116,111,114])) (.cons (.var 2) (.cons (.var 1) .nil))))) .nil) (.seq (.ifs (.cmp 8 (.var 2) (.glob 5)) (.seq (.expr (.callM (.var 0) 0 (.cons (.c (.str [115,105,103,110])) (.cons (.var 2) (.cons (.var 1) .nil))))) .nil) (.seq (.raise (.bin 0 (.c (.str [97,32,115,116,114,97,110,103,101,32,115,105,103,110,32,97,116,32])) (.blt 3 (.cons (.var 1) .nil)))) .nil)) .nil)) (.seq (.setA (.var 0) 16 (.bin 0 (.var 1) (.blt 0 (.cons (.var 2) .nil)))) .nil)))))
noncomputable def b47:S:=(.seq (.ret (.callM (.new 10 (.cons (.var 0) .nil)) 28 .nil)) .nil)
noncomputable def b48:S:=(.seq (.ret (.new 8 (.cons (.var 0) (.cons (.tup (.cons (.c (.str [110,111,100,101])) .nil)) (.cons (.tup .nil) .nil))))) .nil)
noncomputable def b49:S:=(.seq (.ifs (.cmp 0 (.var 0) (.c (.str [42]))) (.seq (.ret (.tup (.cons (.c (.str [97,110,121])) .nil))) .nil) .nil) (.seq (.asgT [1,2,3] (.smeth (.var 0) 3 (.cons (.c (.str [58])) .nil))) (.seq (.ifs (.cmp 0 (.var 3) (.c (.str [42]))) (.seq (.ret (.tup (.cons (.c (.str [97,110,121,32,111,102])) (.cons (.var 1) .nil)))) .nil) .nil) (.seq (.ret (.tup (.cons (.c (.str [110,97,109,101])) (.cons (.var 1) (.cons (.var 3) .nil))))) .nil))))
noncomputable def b50:S:=(.seq (.asgT [1,2,3] (.smeth (.var 0) 2 (.cons (.c (.str [46])) .nil))) (.seq (.ret (.callF 3 (.cons (.blt 2 (.cons (.bin 0 (.bin 0 (.c (.str [48])) (.var 1)) (.var 3)) .nil)) (.cons (.bin 5 (.c (.int 10)) (.blt 0 (.cons (.var 3) .nil))) .nil)))) .nil))
noncomputable def b51:S:=(.seq (.setA (.var 0) 18 (.var 1)) (.seq (.setA (.var 0) 16 (.c (.int 0))) (.seq (.setA (.var 0) 19 (.c (.int 0))) .nil)))
noncomputable def b52:S:=(.seq (.ret (.idx (.attr (.var 0) 18) (.attr (.var 0) 16))) .nil)
noncomputable def b53:S:=(.seq (.asg 1 (.idx (.attr (.var 0) 18) (.attr (.var 0) 16))) (.seq (.ifs (.cmp 1 (.attr (.var 1) 13) (.c (.str [101,110,100]))) (.seq (.setA (.var 0) 16 (.bin 0 (.attr (.var 0) 16) (.c (.int 1)))) .nil) .nil) (.seq (.ret (.var 1)) .nil)))
noncomputable def b54:S:=(.seq (.raise (.bin 0 (.bin 0 (.var 1) (.c (.str [32,97,116,32]))) (.blt 3 (.cons (.attr (.callM (.var 0) 8 .nil) 15) .nil)))) .nil)
noncomputable def b55:S:=(.seq (.ifs (.not (.callM (.callM (.var 0) 8 .nil) 11 (.cons (.var 1) .nil))) (.seq (.expr (.callM (.var 0) 26 (.cons (.bin 0 (.var 1) (.c (.str [32,105,115,32,109,105,115,115,105,110,103]))) .nil))) .nil) .nil) (.seq (.expr (.callM (.var 0) 7 .nil)) .nil))
noncomputable def b56:S:=(.seq (.asg 1 (.callM (.var 0) 4 (.cons (.c (.int 1)) .nil))) (.seq (.ifs (.cmp 1 (.attr (.callM (.var 0) 8 .nil) 13) (.c (.str [101,110,100]))) (.seq (.expr (.callM (.var 0) 26 (.cons (.c (.str [97,32,115,116,114,97,110,103,101,32,119,111,114,100])) .nil))) .nil) .nil) (.seq (.ret (.var 1)) .nil)))
noncomputable def b57:S:=(.seq (.setA (.var 0) 19 (.bin 0 (.attr (.var 0) 19) (.c (.int 1)))) (.seq (.ifs (.cmp 4 (.attr (.var 0) 19) (.glob 9)) (.seq (.expr (.callM (.var 0) 26 (.cons (.c (.str [116,111,111,32,100,101,101,112])) .nil))) .nil) .nil) (.seq (.asg 2 (.callM (.var 0) 18 .nil)) (.seq (.asgP [3,4] (.cons (.callM (.var 0) 13 .nil) (.cons (.c (.int 0)) .nil))) (.seq (.whl (.cmp 5 (.var 3) (.var 1)) (.seq (.asg 5 (.attr (.callM (.var 0) 7 .nil) 14)) (.seq (.asg 2 (.new 4 (.cons (.var 5) (.cons (.var 2) (.cons (.callM (.var 0) 4 (.cons (.bin 0 (.var 3) (.c (.int 1))) .nil)) .nil))))) (.seq (.asgP [3,4] (.cons (.callM (.var 0) 13 .nil) (.cons (.callM (.var 0) 3 (.cons (.var 4) .nil)) .nil))) .nil)))) (.seq (.setA (.var 0) 19 (.bin 1 (.attr (.var 0) 19) (.c (.int 1)))) (.seq (.ret (.var 2)) .nil)))))))
noncomputable def b58:S:=(.seq (.ifs (.cmp 5 (.var 1) (.glob 9)) (.seq (.expr (.callM (.var 0) 26 (.cons (.c (.str [116,111,111,32,109,97,110,121,32,111,112,101,114,97,116,111,114,115])) .nil))) .nil) .nil) (.seq (.ret (.bin 0 (.var 1) (.c (.int 1)))) .nil))
noncomputable def b59:S:=(.seq (.asg 1 (.callM (.var 0) 8 .nil)) (.seq (.ret (.ite (.cmp 0 (.attr (.var 1) 13) (.c (.str [111,112,101,114,97,116,111,114]))) (.smeth (.glob 11) 6 (.cons (.attr (.var 1) 14) (.cons (.c (.int 0)) .nil))) (.c (.int 0)))) .nil))
noncomputable def b60:S:=(.seq (.asg 1 (.c (.int 0))) (.seq (.whl (.callM (.callM (.var 0) 8 .nil) 10 (.cons (.c (.str [45])) .nil)) (.seq (.expr (.callM (.var 0) 7 .nil)) (.seq (.asg 1 (.bin 0 (.var 1) (.c (.int 1)))) .nil))) (.seq (.ifs (.cmp 4 (.var 1) (.glob 9)) (.seq (.expr (.callM (.var 0) 26 (.cons (.c (.str [116,111,111,32,100,101,101,112])) .nil))) .nil) .nil) (.seq (.asg 2 (.callM (.var 0) 34 .nil)) (.seq (.forR 3 (.var 1) (.seq (.asg 2 (.new 5 (.cons (.var 2) .nil))) .nil)) (.seq (.ret (.var 2)) .nil))))))
noncomputable def b61:S:=(.seq (.asgP [1,2] (.cons (.callM (.var 0) 21 .nil) (.cons (.c (.int 0)) .nil))) (.seq (.whl (.callM (.callM (.var 0) 8 .nil) 10 (.cons (.c (.str [124])) .nil)) (.seq (.expr (.callM (.var 0) 7 .nil)) (.seq (.asgP [1,2] (.cons (.new 4 (.cons (.c (.str [124])) (.cons (.var 1) (.cons (.callM (.var 0) 21 .nil) .nil)))) (.cons (.callM (.var 0) 3 (.cons (.var 2) .nil)) .nil))) .nil))) (.seq (.ret (.var 1)) .nil)))
noncomputable def b62:S:=(.seq (.asg 1 (.callM (.var 0) 8 .nil)) (.seq (.ifs (.callM (.var 1) 10 (.cons (.c (.str [47])) .nil)) (.seq (.expr (.callM (.var 0) 7 .nil)) (.seq (.ret (.new 7 (.cons (.c (.str [114,111,111,116])) (.cons (.ite (.callM (.var 0) 12 .nil) (.blt 5 (.cons (.callM (.var 0) 32 .nil) .nil)) (.tup .nil)) .nil)))) .nil)) .nil) (.seq (.ifs (.callM (.var 1) 10 (.cons (.c (.str [47,47])) .nil)) (.seq (.expr (.callM (.var 0) 7 .nil)) (.seq (.ret (.new 7 (.cons (.c (.str [114,111,111,116])) (.cons (.bin 0 (.tup (.cons (.callF 48 (.cons (.c (.str [100,101,115,99,101,110,100,97,110,116,45,111,114,45,115,101,108,102])) .nil)) .nil)) (.blt 5 (.cons (.callM (.var 0) 32 .nil) .nil))) .nil)))) .nil)) .nil) (.seq (.ifs (.and (.cmp 9 (.attr (.var 1) 13) (.glob 12)) (.not (.callM (.var 1) 11 (.cons (.c (.str [40])) .nil)))) (.seq (.ret (.new 7 (.cons (.c .none) (.cons (.blt 5 (.cons (.callM (.var 0) 32 .nil) .nil)) .nil)))) .nil) .nil) (.seq (.ret (.callM (.var 0) 6 .nil)) .nil)))))
noncomputable def b63:S:=(.seq (.asg 1 (.callM (.var 0) 24 .nil)) (.seq (.asg 2 (.callM (.var 0) 23 .nil)) (.seq (.ifs (.cmp 1 (.var 2) (.tup .nil)) (.seq (.asg 1 (.new 6 (.cons (.var 1) (.cons (.var 2) .nil)))) .nil) .nil) (.seq (.ifs (.callM (.callM (.var 0) 8 .nil) 10 (.cons (.c (.str [47])) .nil)) (.seq (.expr (.callM (.var 0) 7 .nil)) (.seq (.ret (.new 7 (.cons (.var 1) (.cons (.blt 5 (.cons (.callM (.var 0) 32 .nil) .nil)) .nil)))) .nil)) .nil) (.seq (.ifs (.callM (.callM (.var 0) 8 .nil) 10 (.cons (.c (.str [47,47])) .nil)) (.seq (.expr (.callM (.var 0) 7 .nil)) (.seq (.ret (.new 7 (.cons (.var 1) (.cons (.bin 0 (.tup (.cons (.callF 48 (.cons (.c (.str [100,101,115,99,101,110,100,97,110,116,45,111,114,45,115,101,108,102])) .nil)) .nil)) (.blt 5 (.cons (.callM (.var 0) 32 .nil) .nil))) .nil)))) .nil)) .nil) (.seq (.ret (.var 1)) .nil))))))
noncomputable def b64:S:=(.seq (.asg 1 (.callM (.var 0) 7 .nil)) (.seq (.ifs (.cmp 0 (.attr (.var 1) 13) (.c (.str [108,105,116,101,114,97,108]))) (.seq (.ret (.new 0 (.cons (.attr (.var 1) 14) .nil))) .nil) .nil) (.seq (.ifs (.cmp 0 (.attr (.var 1) 13) (.c (.str [110,117,109,98,101,114]))) (.seq (.ret (.new 1 (.cons (.callF 50 (.cons (.attr (.var 1) 14) .nil)) .nil))) .nil) .nil) (.seq (.ifs (.cmp 0 (.attr (.var 1) 13) (.c (.str [118,97,114,105,97,98,108,101]))) (.seq (.ret (.new 2 (.cons (.attr (.var 1) 14) .nil))) .nil) .nil) (.seq (.ifs (.cmp 0 (.attr (.var 1) 13) (.c (.str [102,117,110,99,116,105,111,110]))) (.seq (.ret (.new 3 (.cons (.attr (.var 1) 14) (.cons (.callM (.var 0) 1 .nil) .nil)))) .nil) .nil) (.seq (.asg 2 (.callM (.var 0) 4 (.cons (.c (.int 1)) .nil))) (.seq (.expr (.callM (.var 0) 17 (.cons (.c (.str [41])) .nil))) (.seq (.ret (.var 2)) .nil))))))))
noncomputable def b65:S:=(.seq (.expr (.callM (.var 0) 17 (.cons (.c (.str [40])) .nil))) (.seq (.asg 1 (.lst .nil)) (.seq (.ifs (.not (.callM (.callM (.var 0) 8 .nil) 11 (.cons (.c (.str [41])) .nil))) (.seq (.expr (.smeth (.var 1) 5 (.cons (.callM (.var 0) 4 (.cons (.c (.int 1)) .nil)) .nil))) (.seq (.whl (.callM (.callM (.var 0) 8 .nil) 11 (.cons (.c (.str [44])) .nil)) (.seq (.expr (.callM (.var 0) 7 .nil)) (.seq (.expr (.smeth (.var 1) 5 (.cons (.callM (.var 0) 4 (.cons (.c (.int 1)) .nil)) .nil))) .nil))) .nil)) .nil) (.seq (.expr (.callM (.var 0) 17 (.cons (.c (.str [41])) .nil))) (.seq (.ret (.blt 5 (.cons (.var 1) .nil))) .nil)))))
noncomputable def b66:S:=(.seq (.asg 1 (.callM (.var 0) 8 .nil)) (.seq (.ret (.or (.cmp 8 (.attr (.var 1) 13) (.tup (.cons (.c (.str [110,97,109,101])) (.cons (.c (.str [97,120,105,115])) (.cons (.c (.str [107,105,110,100])) .nil))))) (.and (.cmp 0 (.attr (.var 1) 13) (.c (.str [115,105,103,110]))) (.cmp 8 (.attr (.var 1) 14) (.tup (.cons (.c (.str [46])) (.cons (.c (.str [46,46])) (.cons (.c (.str [64])) .nil)))))))) .nil))
noncomputable def b67:S:=(.seq (.asg 1 (.lst (.cons (.callM (.var 0) 20 .nil) .nil))) (.seq (.whl (.or (.callM (.callM (.var 0) 8 .nil) 10 (.cons (.c (.str [47])) .nil)) (.callM (.callM (.var 0) 8 .nil) 10 (.cons (.c (.str [47,47])) .nil))) (.seq (.ifs (.cmp 0 (.attr (.callM (.var 0) 7 .nil) 14) (.c (.str [47,47]))) (.seq (.expr (.smeth (.var 1) 5 (.cons (.callF 48 (.cons (.c (.str [100,101,115,99,101,110,100,97,110,116,45,111,114,45,115,101,108,102])) .nil)) .nil))) .nil) .nil) (.seq (.expr (.smeth (.var 1) 5 (.cons (.callM (.var 0) 20 .nil) .nil))) .nil))) (.seq (.ret (.var 1)) .nil)))
noncomputable def b68:S:=(.seq (.ifs (.not (.callM (.var 0) 12 .nil)) (.seq (.expr (.callM (.var 0) 26 (.cons (.c (.str [97,32,115,116,101,112,32,105,115,32,109,105,115,115,105,110,103])) .nil))) .nil) .nil) (.seq (.asg 1 (.callM (.var 0) 8 .nil)) (.seq (.ifs (.or (.callM (.var 1) 11 (.cons (.c (.str [46])) .nil)) (.callM (.var 1) 11 (.cons (.c (.str [46,46])) .nil))) (.seq (.expr (.callM (.var 0) 7 .nil)) (.seq (.ret (.callF 48 (.cons (.ite (.cmp 0 (.attr (.var 1) 14) (.c (.str [46]))) (.c (.str [115,101,108,102])) (.c (.str [112,97,114,101,110,116]))) .nil))) .nil)) .nil) (.seq (.asg 2 (.callM (.var 0) 2 .nil)) (.seq (.ret (.new 8 (.cons (.var 2) (.cons (.callM (.var 0) 33 .nil) (.cons (.callM (.var 0) 23 .nil) .nil))))) .nil)))))
noncomputable def b69:S:=(.seq (.asg 1 (.callM (.var 0) 8 .nil)) (.seq (.ifs (.callM (.var 1) 11 (.cons (.c (.str [64])) .nil)) (.seq (.expr (.callM (.var 0) 7 .nil)) (.seq (.ret (.c (.str [97,116,116,114,105,98,117,116,101]))) .nil)) .nil) (.seq (.ifs (.cmp 1 (.attr (.var 1) 13) (.c (.str [97,120,105,115]))) (.seq (.ret (.c (.str [99,104,105,108,100]))) .nil) .nil) (.seq (.expr (.callM (.var 0) 7 .nil)) (.seq (.expr (.callM (.var 0) 17 (.cons (.c (.str [58,58])) .nil))) (.seq (.ifs (.cmp 9 (.attr (.var 1) 14) (.glob 10)) (.seq (.raise (.bin 0 (.c (.str [110,111,32,115,117,99,104,32,97,120,105,115,58,32])) (.attr (.var 1) 14))) .nil) .nil) (.seq (.ret (.attr (.var 1) 14)) .nil)))))))
noncomputable def b70:S:=(.seq (.asg 1 (.callM (.var 0) 7 .nil)) (.seq (.ifs (.cmp 0 (.attr (.var 1) 13) (.c (.str [110,97,109,101]))) (.seq (.ret (.callF 49 (.cons (.attr (.var 1) 14) .nil))) .nil) .nil) (.seq (.ifs (.cmp 1 (.attr (.var 1) 13) (.c (.str [107,105,110,100]))) (.seq (.setA (.var 0) 16 (.ite (.cmp 1 (.attr (.var 1) 13) (.c (.str [101,110,100]))) (.bin 1 (.attr (.var 0) 16) (.c (.int 1))) (.attr (.var 0) 16))) (.seq (.expr (.callM (.var 0) 26 (.cons (.c (.str [97,32,116,101,115,116,32,105,115,32,109,105,115,115,105,110,103])) .nil))) .nil)) .nil) (.seq (.expr (.callM (.var 0) 17 (.cons (.c (.str [40])) .nil))) (.seq (.asg 2 (.c .none)) (.seq (.ifs (.and (.cmp 0 (.attr (.var 1) 14) (.c (.str [112,114,111,99,101,115,115,105,110,103,45,105,110,115,116,114,117,99,116,105,111,110]))) (.cmp 0 (.attr (.callM (.var 0) 8 .nil) 13) (.c (.str [108,105,116,101,114,97,108])))) (.seq (.asg 2 (.attr (.callM (.var 0) 7 .nil) 14)) .nil) .nil) (.seq (.expr (.callM (.var 0) 17 (.cons (.c (.str [41])) .nil))) (.seq (.ret (.ite (.cmp 0 (.attr (.var 1) 14) (.c (.str [112,114,111,99,101,115,115,105,110,103,45,105,110,115,116,114,117,99,116,105,111,110]))) (.tup (.cons (.c (.str [105,110,115,116,114,117,99,116,105,111,110])) (.cons (.var 2) .nil))) (.tup (.cons (.attr (.var 1) 14) .nil)))) .nil))))))))
noncomputable def b71:S:=(.seq (.asg 1 (.lst .nil)) (.seq (.whl (.callM (.callM (.var 0) 8 .nil) 11 (.cons (.c (.str [91])) .nil)) (.seq (.expr (.callM (.var 0) 7 .nil)) (.seq (.expr (.smeth (.var 1) 5 (.cons (.callM (.var 0) 4 (.cons (.c (.int 1)) .nil)) .nil))) (.seq (.expr (.callM (.var 0) 17 (.cons (.c (.str [93])) .nil))) .nil)))) (.seq (.ret (.blt 5 (.cons (.var 1) .nil))) .nil)))
noncomputable def b72:S:=(.seq (.ret (.callM (.new 11 (.cons (.callF 47 (.cons (.var 0) .nil)) .nil)) 36 .nil)) .nil)
noncomputable def b73:S:=(.seq (.ifs (.isinst (.var 0) 4) (.seq (.asg 1 (.dict [([111,114],1),([97,110,100],2),([61],3),([33,61],3),([43],5),([45],5),([42],6),([100,105,118],6),([109,111,100],6),([124],8)])) (.seq (.ret (.smeth (.var 1) 6 (.cons (.attr (.var 0) 4) (.cons (.c (.int 4)) .nil)))) .nil)) .nil) (.seq (.ifs (.isinst (.var 0) 5) (.seq (.ret (.glob 13)) .nil) .nil) (.seq (.ifs (.isinst (.var 0) 7) (.seq (.ret (.ite (.and (.cmp 0 (.attr (.var 0) 9) (.c (.str [114,111,111,116]))) (.cmp 0 (.attr (.var 0) 10) (.tup .nil))) (.c (.int 0)) (.glob 15))) .nil) .nil) (.seq (.ret (.ite (.isinst (.var 0) 6) (.glob 16) (.glob 17))) .nil))))
noncomputable def b74:S:=(.seq (.ifs (.cmp 9 (.c (.str [34])) (.var 0)) (.seq (.ret (.bin 0 (.bin 0 (.c (.str [34])) (.var 0)) (.c (.str [34])))) .nil) .nil) (.seq (.ifs (.cmp 8 (.c (.str [39])) (.var 0)) (.seq (.raise (.c (.str [97,32,116,101,120,116,32,119,105,116,104,32,98,111,116,104,32,113,117,111,116,101,115,32,99,97,110,110,111,116,32,98,101,32,119,114,105,116,116,101,110]))) .nil) .nil) (.seq (.ret (.bin 0 (.bin 0 (.c (.str [39])) (.var 0)) (.c (.str [39])))) .nil)))
noncomputable def b75:S:=(.seq (.asgT [3,4] (.var 0)) (.seq (.ifs (.or (.cmp 2 (.var 3) (.c (.int 0))) (.cmp 0 (.var 4) (.c (.int 0)))) (.seq (.raise (.c (.str [97,32,110,117,109,98,101,114,32,116,104,97,116,32,99,97,110,110,111,116,32,98,101,32,119,114,105,116,116,101,110,32,105,110,32,97,32,112,97,116,104]))) .nil) .nil) (.seq (.asg 1 (.c (.int 0))) (.seq (.whl (.and (.cmp 1 (.var 4) (.c (.int 1))) (.cmp 1 (.bin 4 (.bin 2 (.var 3) (.bin 5 (.c (.int 10)) (.var 1))) (.var 4)) (.c (.int 0)))) (.seq (.asg 1 (.bin 0 (.var 1) (.c (.int 1)))) (.seq (.ifs (.cmp 4 (.var 1) (.c (.int 400))) (.seq (.raise (.c (.str [97,32,110,117,109,98,101,114,32,119,105,116,104,111,117,116,32,97,110,32,101,110,100]))) .nil) .nil) .nil))) (.seq (.asg 2 (.blt 3 (.cons (.bin 3 (.bin 2 (.var 3) (.bin 5 (.c (.int 10)) (.var 1))) (.var 4)) .nil))) (.seq (.ifs (.cmp 0 (.var 1) (.c (.int 0))) (.seq (.ret (.var 2)) .nil) .nil) (.seq (.asg 2 (.bin 0 (.bin 2 (.c (.str [48])) (.bin 1 (.bin 0 (.var 1) (.c (.int 1))) (.blt 0 (.cons (.var 2) .nil)))) (.var 2))) (.seq (.ret (.bin 0 (.bin 0 (.slice (.var 2) (.c .none) (.bin 1 (.blt 0 (.cons (.var 2) .nil)) (.var 1))) (.c (.str [46]))) (.slice (.var 2) (.bin 1 (.blt 0 (.cons (.var 2) .nil)) (.var 1)) (.c .none)))) .nil))))))))
noncomputable def b76:S:=(.seq (.ifs (.cmp 0 (.idx (.var 0) (.c (.int 0))) (.c (.str [97,110,121]))) (.seq (.ret (.c (.str [42]))) .nil) .nil) (.seq (.ifs (.cmp 0 (.idx (.var 0) (.c (.int 0))) (.c (.str [97,110,121,32,111,102]))) (.seq (.ret (.bin 0 (.idx (.var 0) (.c (.int 1))) (.c (.str [58,42])))) .nil) .nil) (.seq (.ifs (.cmp 0 (.idx (.var 0) (.c (.int 0))) (.c (.str [110,97,109,101]))) (.seq (.ret (.ite (.cmp 0 (.idx (.var 0) (.c (.int 1))) (.c (.str []))) (.idx (.var 0) (.c (.int 2))) (.bin 0 (.bin 0 (.idx (.var 0) (.c (.int 1))) (.c (.str [58]))) (.idx (.var 0) (.c (.int 2)))))) .nil) .nil) (.seq (.ifs (.cmp 0 (.idx (.var 0) (.c (.int 0))) (.c (.str [105,110,115,116,114,117,99,116,105,111,110]))) (.seq (.ret (.bin 0 (.bin 0 (.c (.str [112,114,111,99,101,115,115,105,110,103,45,105,110,115,116,114,117,99,116,105,111,110,40])) (.ite (.cmp 6 (.idx (.var 0) (.c (.int 1))) (.c .none)) (.c (.str [])) (.callF 74 (.cons (.idx (.var 0) (.c (.int 1))) .nil)))) (.c (.str [41])))) .nil) .nil) (.seq (.ret (.bin 0 (.idx (.var 0) (.c (.int 0))) (.c (.str [40,41])))) .nil)))))
noncomputable def b77:S:=(.seq (.asg 2 (.callF 82 (.cons (.var 0) .nil))) (.seq (.ret (.ite (.cmp 5 (.callF 73 (.cons (.var 0) .nil)) (.var 1)) (.var 2) (.bin 0 (.bin 0 (.c (.str [40])) (.var 2)) (.c (.str [41]))))) .nil))
noncomputable def b78:S:=(.seq (.ret (.smeth (.c (.str [])) 4 (.cons (.comp (.bin 0 (.bin 0 (.c (.str [91])) (.callF 82 (.cons (.var 1) .nil))) (.c (.str [93]))) 1 (.var 0)) .nil))) .nil)
noncomputable def b79:S:=(.seq (.ret (.smeth (.c (.str [47])) 4 (.cons (.comp (.bin 0 (.bin 0 (.bin 0 (.attr (.var 1) 11) (.c (.str [58,58]))) (.callF 76 (.cons (.attr (.var 1) 12) .nil))) (.callF 78 (.cons (.attr (.var 1) 8) .nil))) 1 (.var 0)) .nil))) .nil)
noncomputable def b80:S:=(.seq (.asg 1 (.callF 73 (.cons (.var 0) .nil))) (.seq (.ret (.bin 0 (.bin 0 (.bin 0 (.bin 0 (.callF 77 (.cons (.attr (.var 0) 5) (.cons (.var 1) .nil))) (.c (.str [32]))) (.attr (.var 0) 4)) (.c (.str [32]))) (.callF 77 (.cons (.attr (.var 0) 6) (.cons (.bin 0 (.var 1) (.c (.int 1))) .nil))))) .nil))
noncomputable def b81:S:=(.seq (.ifs (.cmp 6 (.attr (.var 0) 9) (.c .none)) (.seq (.ret (.callF 79 (.cons (.attr (.var 0) 10) .nil))) .nil) .nil) (.seq (.ifs (.cmp 0 (.attr (.var 0) 9) (.c (.str [114,111,111,116]))) (.seq (.ret (.bin 0 (.c (.str [47])) (.callF 79 (.cons (.attr (.var 0) 10) .nil)))) .nil) .nil) (.seq (.ret (.bin 0 (.bin 0 (.callF 77 (.cons (.attr (.var 0) 9) (.cons (.glob 16) .nil))) (.c (.str [47]))) (.callF 79 (.cons (.attr (.var 0) 10) .nil)))) .nil)))
noncomputable def b82:S:=(.seq (.ifs (.isinst (.var 0) 0) (.seq (.ret (.callF 74 (.cons (.attr (.var 0) 1) .nil))) .nil) .nil) (.seq (.ifs (.isinst (.var 0) 1) (.seq (.ret (.callF 75 (.cons (.attr (.var 0) 1) .nil))) .nil) .nil) (.seq (.ifs (.isinst (.var 0) 2) (.seq (.ret (.bin 0 (.c (.str [36])) (.attr (.var 0) 2))) .nil) .nil) (.seq (.ifs (.isinst (.var 0) 3) (.seq (.ret (.bin 0 (.bin 0 (.bin 0 (.attr (.var 0) 2) (.c (.str [40]))) (.smeth (.c (.str [44,32])) 4 (.cons (.comp (.callF 82 (.cons (.var 1) .nil)) 1 (.attr (.var 0) 3)) .nil))) (.c (.str [41])))) .nil) .nil) (.seq (.ifs (.isinst (.var 0) 4) (.seq (.ret (.callF 80 (.cons (.var 0) .nil))) .nil) .nil) (.seq (.ifs (.isinst (.var 0) 5) (.seq (.ret (.bin 0 (.c (.str [45])) (.callF 77 (.cons (.attr (.var 0) 1) (.cons (.glob 13) .nil))))) .nil) .nil) (.seq (.ifs (.isinst (.var 0) 6) (.seq (.ret (.bin 0 (.callF 77 (.cons (.attr (.var 0) 7) (.cons (.glob 17) .nil))) (.callF 78 (.cons (.attr (.var 0) 8) .nil)))) .nil) .nil) (.seq (.ret (.callF 81 (.cons (.var 0) .nil))) .nil))))))))
noncomputable def b83:S:=(.seq (.asgP [2,3] (.cons (.c (.int 0)) (.cons (.c (.int 59)) .nil))) (.seq (.forL 1 (.var 0) (.seq (.asg 4 (.ite (.cmp 5 (.var 1) (.c (.int 0))) (.var 1) (.bin 1 (.neg (.c (.int 1))) (.var 1)))) (.seq (.ifs (.and (.cmp 5 (.var 4) (.bin 5 (.c (.int 10)) (.c (.int 18)))) (.cmp 0 (.var 2) (.c (.int 0)))) (.seq (.asg 2 (.var 4)) .nil) .nil) (.seq (.asg 3 (.bin 4 (.bin 0 (.bin 0 (.bin 2 (.var 3) (.c (.int 48271))) (.bin 4 (.var 4) (.c (.int 2147483629)))) (.c (.int 7919))) (.c (.int 2147483647)))) .nil)))) (.seq (.ret (.lst (.cons (.var 2) (.cons (.var 3) .nil)))) .nil)))
noncomputable def b84:S:=(.seq (.ifs (.cmp 4 (.idx (.var 0) (.c (.int 0))) (.c (.int 0))) (.seq (.asg 2 (.bin 4 (.idx (.var 0) (.c (.int 0))) (.var 1))) (.seq (.setI (.var 0) (.c (.int 0)) (.bin 3 (.idx (.var 0) (.c (.int 0))) (.var 1))) (.seq (.ret (.var 2)) .nil))) .nil) (.seq (.setI (.var 0) (.c (.int 1)) (.bin 4 (.bin 0 (.bin 2 (.idx (.var 0) (.c (.int 1))) (.c (.int 39373))) (.c (.int 7))) (.c (.int 2147483647)))) (.seq (.ret (.bin 4 (.bin 3 (.bin 4 (.bin 2 (.idx (.var 0) (.c (.int 1))) (.idx (.var 0) (.c (.int 1)))) (.c (.int 2147483629))) (.c (.int 32))) (.var 1))) .nil)))
noncomputable def b85:S:=(.seq (.ret (.idx (.var 1) (.callF 84 (.cons (.var 0) (.cons (.blt 0 (.cons (.var 1) .nil)) .nil))))) .nil)
noncomputable def b86:S:=(.seq (.asg 1 (.callF 84 (.cons (.var 0) (.cons (.c (.int 5)) .nil)))) (.seq (.ifs (.cmp 0 (.var 1) (.c (.int 0))) (.seq (.ret (.new 0 (.cons (.callF 85 (.cons (.var 0) (.cons (.lst (.cons (.c (.str [])) (.cons (.c (.str [105,116,39,115])) (.cons (.c (.str [97,32,34,98,34])) (.cons (.c (.str [100,105,118])) .nil))))) .nil))) .nil))) .nil) .nil) (.seq (.ifs (.cmp 0 (.var 1) (.c (.int 1))) (.seq (.ret (.new 1 (.cons (.callF 85 (.cons (.var 0) (.cons (.lst (.cons (.tup (.cons (.c (.int 0)) (.cons (.c (.int 1)) .nil))) (.cons (.tup (.cons (.c (.int 5)) (.cons (.c (.int 1)) .nil))) (.cons (.tup (.cons (.c (.int 1)) (.cons (.c (.int 2)) .nil))) (.cons (.tup (.cons (.c (.int 13)) (.cons (.c (.int 4)) .nil))) (.cons (.tup (.cons (.c (.int 120)) (.cons (.c (.int 1)) .nil))) .nil)))))) .nil))) .nil))) .nil) .nil) (.seq (.ifs (.cmp 0 (.var 1) (.c (.int 2))) (.seq (.ret (.new 2 (.cons (.callF 85 (.cons (.var 0) (.cons (.lst (.cons (.c (.str [118])) (.cons (.c (.str [112,58,119])) (.cons (.c (.str [97,110,100])) .nil)))) .nil))) .nil))) .nil) .nil) (.seq (.ifs (.cmp 0 (.var 1) (.c (.int 3))) (.seq (.ret (.new 3 (.cons (.callF 85 (.cons (.var 0) (.cons (.lst (.cons (.c (.str [108,97,115,116])) (.cons (.c (.str [112,58,102])) (.cons (.c (.str [100,105,118])) .nil)))) .nil))) (.cons (.tup .nil) .nil)))) .nil) .nil) (.seq (.ret (.ite (.cmp 4 (.callF 84 (.cons (.var 0) (.cons (.c (.int 4)) .nil))) (.c (.int 0))) (.new 7 (.cons (.callF 85 (.cons (.var 0) (.cons (.lst (.cons (.c .none) (.cons (.c (.str [114,111,111,116])) .nil))) .nil))) (.cons (.tup (.cons (.callF 87 (.cons (.var 0) (.cons (.c (.int 0)) .nil))) .nil)) .nil))) (.new 7 (.cons (.c (.str [114,111,111,116])) (.cons (.tup .nil) .nil))))) .nil))))))
noncomputable def b87:S:=(.seq (.asg 2 (.lst (.cons (.c (.str [99,104,105,108,100])) (.cons (.c (.str [97,116,116,114,105,98,117,116,101])) (.cons (.c (.str [115,101,108,102])) (.cons (.c (.str [112,97,114,101,110,116])) (.cons (.c (.str [112,114,101,99,101,100,105,110,103,45,115,105,98,108,105,110,103])) (.cons (.c (.str [100,101,115,99,101,110,100,97,110,116,45,111,114,45,115,101,108,102])) (.cons (.c (.str [97,110,99,101,115,116,111,114])) (.cons (.c (.str [100,101,115,99,101,110,100,97,110,116])) .nil)))))))))) (.seq (.asg 2 (.bin 0 (.var 2) (.lst (.cons (.c (.str [97,110,99,101,115,116,111,114,45,111,114,45,115,101,108,102])) (.cons (.c (.str [102,111,108,108,111,119,105,110,103])) (.cons (.c (.str [102,111,108,108,111,119,105,110,103,45,115,105,98,108,105,110,103])) (.cons (.c (.str [110,97,109,101,115,112,97,99,101])) (.cons (.c (.str [112,114,101,99,101,100,105,110,103])) .nil)))))))) (.seq (.asg 3 (.callF 85 (.cons (.var 0) (.cons (.var 2) .nil)))) (.seq (.asg 4 (.lst (.cons (.tup (.cons (.c (.str [97,110,121])) .nil)) (.cons (.tup (.cons (.c (.str [97,110,121,32,111,102])) (.cons (.c (.str [112])) .nil))) (.cons (.tup (.cons (.c (.str [110,97,109,101])) (.cons (.c (.str [])) (.cons (.c (.str [97])) .nil)))) (.cons (.tup (.cons (.c (.str [110,97,109,101])) (.cons (.c (.str [112])) (.cons (.c (.str [98])) .nil)))) (.cons (.tup (.cons (.c (.str [110,97,109,101])) (.cons (.c (.str [])) (.cons (.c (.str [100,105,118])) .nil)))) (.cons (.tup (.cons (.c (.str [110,97,109,101])) (.cons (.c (.str [])) (.cons (.c (.str [116,101,120,116])) .nil)))) .nil)))))))) (.seq (.asg 4 (.bin 0 (.var 4) (.lst (.cons (.tup (.cons (.c (.str [110,111,100,101])) .nil)) (.cons (.tup (.cons (.c (.str [116,101,120,116])) .nil)) (.cons (.tup (.cons (.c (.str [99,111,109,109,101,110,116])) .nil)) (.cons (.tup (.cons (.c (.str [105,110,115,116,114,117,99,116,105,111,110])) (.cons (.c .none) .nil))) (.cons (.tup (.cons (.c (.str [105,110,115,116,114,117,99,116,105,111,110])) (.cons (.c (.str [116])) .nil))) .nil)))))))) (.seq (.ret (.new 8 (.cons (.var 3) (.cons (.callF 85 (.cons (.var 0) (.cons (.var 4) .nil))) (.cons (.ite (.cmp 4 (.var 1) (.c (.int 0))) (.callF 88 (.cons (.var 0) (.cons (.bin 1 (.var 1) (.c (.int 1))) (.cons (.c (.int 2)) .nil)))) (.tup .nil)) .nil))))) .nil))))))
noncomputable def b88:S:=(.seq (.ret (.blt 5 (.cons (.compR (.callF 89 (.cons (.var 0) (.cons (.var 1) .nil))) 3 (.callF 84 (.cons (.var 0) (.cons (.bin 0 (.var 2) (.c (.int 1))) .nil)))) .nil))) .nil)
noncomputable def b89:S:=(.seq (.asg 2 (.callF 84 (.cons (.var 0) (.cons (.c (.int 8)) .nil)))) (.seq (.ifs (.or (.cmp 3 (.var 1) (.c (.int 0))) (.cmp 0 (.var 2) (.c (.int 0)))) (.seq (.ret (.callF 86 (.cons (.var 0) .nil))) .nil) .nil) (.seq (.ifs (.cmp 2 (.var 2) (.c (.int 4))) (.seq (.asg 4 (.lst (.cons (.c (.str [111,114])) (.cons (.c (.str [97,110,100])) (.cons (.c (.str [61])) (.cons (.c (.str [33,61])) (.cons (.c (.str [60])) (.cons (.c (.str [60,61])) (.cons (.c (.str [62])) (.cons (.c (.str [62,61])) (.cons (.c (.str [43])) (.cons (.c (.str [45])) (.cons (.c (.str [45])) (.cons (.c (.str [42])) (.cons (.c (.str [100,105,118])) (.cons (.c (.str [109,111,100])) (.cons (.c (.str [124])) .nil))))))))))))))))) (.seq (.ret (.new 4 (.cons (.callF 85 (.cons (.var 0) (.cons (.var 4) .nil))) (.cons (.callF 89 (.cons (.var 0) (.cons (.bin 1 (.var 1) (.c (.int 1))) .nil))) (.cons (.callF 89 (.cons (.var 0) (.cons (.bin 1 (.var 1) (.c (.int 1))) .nil))) .nil))))) .nil)) .nil) (.seq (.ifs (.cmp 0 (.var 2) (.c (.int 4))) (.seq (.ret (.new 5 (.cons (.callF 89 (.cons (.var 0) (.cons (.bin 1 (.var 1) (.c (.int 1))) .nil))) .nil))) .nil) .nil) (.seq (.ifs (.cmp 0 (.var 2) (.c (.int 5))) (.seq (.ret (.new 3 (.cons (.callF 85 (.cons (.var 0) (.cons (.lst (.cons (.c (.str [99,111,117,110,116])) (.cons (.c (.str [112,58,102])) (.cons (.c (.str [110,111,116])) .nil)))) .nil))) (.cons (.callF 88 (.cons (.var 0) (.cons (.bin 1 (.var 1) (.c (.int 1))) (.cons (.c (.int 2)) .nil)))) .nil)))) .nil) .nil) (.seq (.ifs (.cmp 0 (.var 2) (.c (.int 6))) (.seq (.ret (.new 6 (.cons (.callF 89 (.cons (.var 0) (.cons (.bin 1 (.var 1) (.c (.int 1))) .nil))) (.cons (.tup (.cons (.callF 89 (.cons (.var 0) (.cons (.bin 1 (.var 1) (.c (.int 1))) .nil))) .nil)) .nil)))) .nil) .nil) (.seq (.asg 3 (.callF 85 (.cons (.var 0) (.cons (.lst (.cons (.c .none) (.cons (.c (.str [114,111,111,116])) (.cons (.c (.str [101,120,112,114,101,115,115,105,111,110])) .nil)))) .nil)))) (.seq (.asg 3 (.ite (.cmp 0 (.var 3) (.c (.str [101,120,112,114,101,115,115,105,111,110]))) (.callF 89 (.cons (.var 0) (.cons (.bin 1 (.var 1) (.c (.int 1))) .nil))) (.var 3))) (.seq (.ret (.new 7 (.cons (.var 3) (.cons (.blt 5 (.cons (.compR (.callF 87 (.cons (.var 0) (.cons (.var 1) .nil))) 5 (.bin 0 (.c (.int 1)) (.callF 84 (.cons (.var 0) (.cons (.c (.int 2)) .nil))))) .nil)) .nil)))) .nil)))))))))
noncomputable def b90:S:=(.seq (.asg 1 (.lst (.cons (.tup (.cons (.c (.str [47,47,97])) (.cons (.c (.str [47,100,101,115,99,101,110,100,97,110,116,45,111,114,45,115,101,108,102,58,58,110,111,100,101,40,41,47,99,104,105,108,100,58,58,97])) .nil))) (.cons (.tup (.cons (.c (.str [97,47,47,64,98])) (.cons (.c (.str [97,47,100,101,115,99,101,110,100,97,110,116,45,111,114,45,115,101,108,102,58,58,110,111,100,101,40,41,47,97,116,116,114,105,98,117,116,101,58,58,98])) .nil))) .nil)))) (.seq (.asg 1 (.bin 0 (.var 1) (.lst (.cons (.tup (.cons (.c (.str [46])) (.cons (.c (.str [115,101,108,102,58,58,110,111,100,101,40,41])) .nil))) (.cons (.tup (.cons (.c (.str [46,46,47,42])) (.cons (.c (.str [112,97,114,101,110,116,58,58,110,111,100,101,40,41,47,99,104,105,108,100,58,58,42])) .nil))) (.cons (.tup (.cons (.c (.str [97,91,49,93,91,46,61,39,120,39,93])) (.cons (.c (.str [99,104,105,108,100,58,58,97,91,49,93,91,115,101,108,102,58,58,110,111,100,101,40,41,32,61,32,39,120,39,93])) .nil))) .nil)))))) (.seq (.asg 1 (.bin 0 (.var 1) (.lst (.cons (.tup (.cons (.c (.str [42,32,42,32,42])) (.cons (.c (.str [99,104,105,108,100,58,58,42,32,42,32,99,104,105,108,100,58,58,42])) .nil))) (.cons (.tup (.cons (.c (.str [100,105,118,32,100,105,118,32,109,111,100])) (.cons (.c (.str [99,104,105,108,100,58,58,100,105,118,32,100,105,118,32,99,104,105,108,100,58,58,109,111,100])) .nil))) (.cons (.tup (.cons (.c (.str [45,97,45,98])) (.cons (.c (.str [45,99,104,105,108,100,58,58,97,45,98])) .nil))) .nil)))))) (.seq (.asg 1 (.bin 0 (.var 1) (.lst (.cons (.tup (.cons (.c (.str [97,32,45,32,98])) (.cons (.c (.str [99,104,105,108,100,58,58,97,32,45,32,99,104,105,108,100,58,58,98])) .nil))) (.cons (.tup (.cons (.c (.str [36,118,47,46,46])) (.cons (.c (.str [36,118,47,112,97,114,101,110,116,58,58,110,111,100,101,40,41])) .nil))) (.cons (.tup (.cons (.c (.str [40,97,41,91,50,93])) (.cons (.c (.str [40,99,104,105,108,100,58,58,97,41,91,50,93])) .nil))) .nil)))))) (.seq (.asg 1 (.bin 0 (.var 1) (.lst (.cons (.tup (.cons (.c (.str [49,32,45,32,45,32,50])) (.cons (.c (.str [49,32,45,32,45,50])) .nil))) (.cons (.tup (.cons (.c (.str [97,124,98,124,99])) (.cons (.c (.str [40,40,97,32,124,32,98,41,32,124,32,99,41])) .nil))) (.cons (.tup (.cons (.c (.str [49,60,50,61,51])) (.cons (.c (.str [40,49,32,60,32,50,41,32,61,32,51])) .nil))) (.cons (.tup (.cons (.c (.str [46,53])) (.cons (.c (.str [48,46,53])) .nil))) (.cons (.tup (.cons (.c (.str [53,46])) (.cons (.c (.str [53])) .nil))) .nil)))))))) (.seq (.asg 1 (.bin 0 (.var 1) (.lst (.cons (.tup (.cons (.c (.str [99,111,117,110,116,32,40,32,97,32,41])) (.cons (.c (.str [99,111,117,110,116,40,97,41])) .nil))) (.cons (.tup (.cons (.c (.str [99,104,105,108,100,32,58,58,32,97,32,91,32,49,32,93])) (.cons (.c (.str [99,104,105,108,100,58,58,97,91,49,93])) .nil))) .nil))))) (.seq (.ret (.callF 85 (.cons (.var 0) (.cons (.var 1) .nil)))) .nil)))))))
noncomputable def b91:S:=(.seq (.asg 1 (.callF 85 (.cons (.var 0) (.cons (.lst (.cons (.lst (.cons (.c (.str [43])) (.cons (.c (.str [45])) .nil))) (.cons (.lst (.cons (.c (.str [42])) (.cons (.c (.str [100,105,118])) (.cons (.c (.str [109,111,100])) .nil)))) (.cons (.lst (.cons (.c (.str [61])) (.cons (.c (.str [33,61])) .nil))) (.cons (.lst (.cons (.c (.str [60])) (.cons (.c (.str [60,61])) (.cons (.c (.str [62])) (.cons (.c (.str [62,61])) .nil))))) (.cons (.lst (.cons (.c (.str [124])) .nil)) (.cons (.lst (.cons (.c (.str [97,110,100])) .nil)) (.cons (.lst (.cons (.c (.str [111,114])) .nil)) .nil)))))))) .nil)))) (.seq (.asg 2 (.new 4 (.cons (.callF 85 (.cons (.var 0) (.cons (.var 1) .nil))) (.cons (.callF 86 (.cons (.var 0) .nil)) (.cons (.callF 86 (.cons (.var 0) .nil)) .nil))))) (.seq (.ret (.new 4 (.cons (.callF 85 (.cons (.var 0) (.cons (.var 1) .nil))) (.cons (.callF 86 (.cons (.var 0) .nil)) (.cons (.var 2) .nil))))) .nil)))
noncomputable def b92:S:=(.seq (.tryE (.seq (.expr (.callF 72 (.cons (.var 0) .nil))) .nil) (.bool true)) (.seq (.ret (.c (.bool false))) .nil))
noncomputable def b93:S:=(.seq (.asg 1 (.callF 83 (.cons (.var 0) .nil))) (.seq (.forL 2 (.lst (.cons (.callF 89 (.cons (.var 1) (.cons (.c (.int 2)) .nil))) (.cons (.callF 91 (.cons (.var 1) .nil)) .nil))) (.seq (.asg 4 (.callF 82 (.cons (.var 2) .nil))) (.seq (.asg 5 (.callF 72 (.cons (.bin 0 (.bin 0 (.callF 85 (.cons (.var 1) (.cons (.lst (.cons (.c (.str [])) (.cons (.c (.str [32,32])) (.cons (.c (.str [9,10])) .nil)))) .nil))) (.var 4)) (.callF 85 (.cons (.var 1) (.cons (.lst (.cons (.c (.str [])) (.cons (.c (.str [32])) .nil))) .nil)))) .nil))) (.seq (.ifs (.or (.cmp 1 (.callM (.var 5) 27 .nil) (.callM (.var 2) 27 .nil)) (.cmp 1 (.callF 82 (.cons (.var 5) .nil)) (.var 4))) (.seq (.ret (.c (.bool false))) .nil) .nil) .nil)))) (.seq (.asgT [6,7] (.callF 90 (.cons (.var 1) .nil))) (.seq (.ifs (.cmp 1 (.callM (.callF 72 (.cons (.var 6) .nil)) 27 .nil) (.callM (.callF 72 (.cons (.var 7) .nil)) 27 .nil)) (.seq (.ret (.c (.bool false))) .nil) .nil) (.seq (.asg 3 (.lst (.cons (.c (.str [])) (.cons (.c (.str [97,32,98])) (.cons (.c (.str [97,91])) (.cons (.c (.str [97,93])) (.cons (.c (.str [47,97,47])) (.cons (.c (.str [97,58,58,98])) (.cons (.c (.str [99,104,105,108,100,58,58])) (.cons (.c (.str [102,40])) (.cons (.c (.str [102,40,49,44,41])) (.cons (.c (.str [49,32,43])) (.cons (.c (.str [39,97])) (.cons (.c (.str [36])) (.cons (.c (.str [97,47,49])) (.cons (.c (.str [46,46,91,49,93])) (.cons (.c (.str [97,58,98,58,99])) (.cons (.c (.str [64])) (.cons (.c (.str [33,97])) .nil))))))))))))))))))) (.seq (.ret (.and (.callF 92 (.cons (.callF 85 (.cons (.var 1) (.cons (.var 3) .nil))) .nil)) (.callF 92 (.cons (.callF 85 (.cons (.var 1) (.cons (.var 3) .nil))) .nil)))) .nil))))))
noncomputable def globTL:List T:=[(.str [32,9,10,13]),
 (.int 128),
 (.str [48,49,50,51,52,53,54,55,56,57]),
 (.tup [(.str [47,47]),(.str [33,61]),(.str [60,61]),(.str [62,61]),(.str [46,46]),(.str [58,58])]),
 (.tup [(.str [47]),(.str [47,47]),(.str [124]),(.str [43]),(.str [45]),(.str [61]),(.str [33,61]),(.str [60]),(.str [60,61]),(.str [62]),(.str [62,61])]),
 (.tup [(.str [40]),(.str [41]),(.str [91]),(.str [93]),(.str [46]),(.str [46,46]),(.str [64]),(.str [44]),(.str [58,58])]),
 (.tup [(.str [97,110,100]),(.str [111,114]),(.str [109,111,100]),(.str [100,105,118])]),
 (.tup [(.str [99,111,109,109,101,110,116]),(.str [116,101,120,116]),(.str [112,114,111,99,101,115,115,105,110,103,45,105,110,115,116,114,117,99,116,105,111,110]),(.str [110,111,100,101])]),
 (.tup [(.str [64]),(.str [58,58]),(.str [40]),(.str [91]),(.str [44])]),
 (.int 50),
 (.tup [(.str [97,110,99,101,115,116,111,114]),(.str [97,110,99,101,115,116,111,114,45,111,114,45,115,101,108,102]),(.str [97,116,116,114,105,98,117,116,101]),(.str [99,104,105,108,100]),(.str [100,101,115,99,101,110,100,97,110,116]),(.str [100,101,115,99,101,110,100,97,110,116,45,111,114,45,115,101,108,102]),(.str [102,111,108,108,111,119,105,110,103]),(.str [102,111,108,108,111,119,105,110,103,45,115,105,98,108,105,110,103]),(.str [110,97,109,101,115,112,97,99,101]),(.str [112,97,114,101,110,116]),(.str [112,114,101,99,101,100,105,110,103]),(.str [112,114,101,99,101,100,105,110,103,45,115,105,98,108,105,110,103]),(.str [115,101,108,102])]),
 (.dict [([111,114],1),([97,110,100],2),([61],3),([33,61],3),([60],4),([60,61],4),([62],4),([62,61],4),([43],5),([45],5),([42],6),([100,105,118],6),([109,111,100],6)]),
 (.tup [(.str [108,105,116,101,114,97,108]),(.str [110,117,109,98,101,114]),(.str [118,97,114,105,97,98,108,101]),(.str [102,117,110,99,116,105,111,110])]),
 (.int 7),
 (.int 8),
 (.int 9),
 (.int 10),
 (.int 11)]
noncomputable def globT (g:Nat):Option T:=globTL[g]?
noncomputable def tblAt:List (Nat×Nat)→Nat→Option Nat
 | [],_=>Option.none
 | p :: r,m=>if p.1=m then some p.2 else tblAt r m
noncomputable def methTL:List (List (Nat×Nat)):=[[(27,6)],[(27,8)],[(27,10)],[(27,12)],[(27,14)],[(27,16)],[(27,18)],[(27,20)],[(27,22)],[(10,30),(11,29),(27,31)],[(0,34),(5,40),(9,37),(14,41),(15,46),(16,45),(19,39),(22,43),(25,44),(28,35),(29,33),(30,36),(31,38),(35,42)],[(1,65),(2,69),(3,58),(4,57),(6,63),(7,53),(8,52),(12,66),(13,59),(17,55),(18,60),(20,68),(21,62),(23,71),(24,64),(26,54),(32,67),(33,70),(34,61),(36,56)]]
noncomputable def methT (k m:Nat):Option Nat:=(methTL[k]?).bind fun l=>tblAt l m
noncomputable def initTL:List (Nat×Nat):=[(0,5),(1,7),(2,9),(3,11),(4,13),(5,15),(6,17),(7,19),(8,21),(9,28),(10,32),(11,51)]
noncomputable def initT (k:Nat):Option Nat:=tblAt initTL k
noncomputable def fnTL:List (List Fn):=[
 [⟨2,[],2,b0⟩,⟨2,[],4,b1⟩,⟨1,[],1,b2⟩,⟨2,[(.int 1)],3,b3⟩,⟨1,[],2,b4⟩,⟨2,[],2,b5⟩,⟨1,[],1,b6⟩,⟨2,[],2,b7⟩,⟨1,[],1,b8⟩,⟨2,[],2,b9⟩],
 [⟨1,[],1,b10⟩,⟨3,[],3,b11⟩,⟨1,[],1,b12⟩,⟨4,[],4,b13⟩,⟨1,[],1,b14⟩,⟨2,[],2,b15⟩,⟨1,[],1,b16⟩,⟨3,[],3,b17⟩,⟨1,[],1,b18⟩,⟨3,[],3,b19⟩],
 [⟨1,[],2,b20⟩,⟨4,[],4,b21⟩,⟨1,[],1,b22⟩,⟨2,[],4,b23⟩,⟨1,[],1,b24⟩,⟨1,[],1,b25⟩,⟨1,[],1,b26⟩,⟨1,[],1,b27⟩,⟨4,[],4,b28⟩,⟨2,[],2,b29⟩],
 [⟨2,[],2,b30⟩,⟨1,[],1,b31⟩,⟨2,[],2,b32⟩,⟨2,[(.int 0)],3,b33⟩,⟨4,[],4,b34⟩,⟨1,[],1,b35⟩,⟨1,[],1,b36⟩,⟨1,[],2,b37⟩,⟨1,[],2,b38⟩,⟨1,[],2,b39⟩],
 [⟨1,[],1,b40⟩,⟨2,[],4,b41⟩,⟨1,[],3,b42⟩,⟨1,[],2,b43⟩,⟨1,[],3,b44⟩,⟨1,[],4,b45⟩,⟨1,[],3,b46⟩,⟨1,[],1,b47⟩,⟨1,[],1,b48⟩,⟨1,[],4,b49⟩],
 [⟨1,[],4,b50⟩,⟨2,[],2,b51⟩,⟨1,[],1,b52⟩,⟨1,[],2,b53⟩,⟨2,[],2,b54⟩,⟨2,[],2,b55⟩,⟨1,[],2,b56⟩,⟨2,[],6,b57⟩,⟨2,[],2,b58⟩,⟨1,[],2,b59⟩],
 [⟨1,[],4,b60⟩,⟨1,[],3,b61⟩,⟨1,[],2,b62⟩,⟨1,[],3,b63⟩,⟨1,[],3,b64⟩,⟨1,[],2,b65⟩,⟨1,[],2,b66⟩,⟨1,[],2,b67⟩,⟨1,[],3,b68⟩,⟨1,[],2,b69⟩],
 [⟨1,[],3,b70⟩,⟨1,[],2,b71⟩,⟨1,[],1,b72⟩,⟨1,[],2,b73⟩,⟨1,[],1,b74⟩,⟨1,[],5,b75⟩,⟨1,[],1,b76⟩,⟨2,[],3,b77⟩,⟨1,[],2,b78⟩,⟨1,[],2,b79⟩],
 [⟨1,[],2,b80⟩,⟨1,[],1,b81⟩,⟨1,[],2,b82⟩,⟨1,[],5,b83⟩,⟨2,[],3,b84⟩,⟨2,[],2,b85⟩,⟨1,[],2,b86⟩,⟨2,[],5,b87⟩,⟨3,[],4,b88⟩,⟨2,[],6,b89⟩],
 [⟨1,[],2,b90⟩,⟨1,[],3,b91⟩,⟨1,[],1,b92⟩,⟨1,[],8,b93⟩]]
noncomputable def fnT (k:Nat):Option Fn:=(fnTL[k / 10]?).bind fun l=>l[k % 10]?
noncomputable def tabs:Tabs:=⟨globT,methT,initT⟩
noncomputable def PG:Prog:=⟨tabs,fnT⟩
end Mine.Internal
namespace Mine.Internal.P
open PySem PySem.W
open Lean in
def stepM (l:String):MacroM (TSyntax `tactic):=do
 let r ← `(rfl)
 let m ← `(by assumption)
 let d ← `(by decide)
 let q ← `(tactic| rfl)
 let e ← `(tactic| first | assumption | array_get_dec)
 let I (s:String):Term:=mkIdent (Name.mkSimple s)
 let N (k:Name) (s:String) (x:Syntax):=Syntax.node .none k #[mkAtom s,x]
 let a:=(l.splitOn " ").map fun s=>
  let p:=s.splitOn ":"
  let n:=I (p.getD 1 "")
  let b:=I (p.getD 2 "")
  let f:=p.getD 0 ""
  let ap:=N `Lean.Parser.Tactic.apply "apply" n
  let ex (y:Syntax):=N `Lean.Parser.Tactic.exact "exact" y
  if f = "a" then ap
  else if f = "p" then Syntax.node .none `Lean.Parser.Tactic.«tactic_<;>_» #[N `Lean.Parser.Tactic.apply "apply" (if p.length = 2 then n else Syntax.mkApp n #[b]),mkAtom "<;>",e]
  else if f = "i" then Syntax.node .none `Lean.Parser.Tactic.tacticSeq1Indented #[mkNullNode #[ap,mkAtom ";",if p.length = 2 then q else ex (Syntax.mkApp b #[m])]]
  else ex (Syntax.mkApp n (f.toList.map fun c=>if c='r' then r else if c='m' then m else if c='d' then d else b).toArray)
 `(tactic| first $[| $(a.toArray.map fun x=>⟨x⟩)]*)
local macro_rules | `(tactic| array_get_dec) => `(tactic| first | decide | exact Nat.le_trans (by decide) ‹2 ≤ _› | exact Nat.le_trans (by decide) ‹3 ≤ _› | omega -splitMinMax)
noncomputable def Ev (d:Nat) (p:Nat→Nat→Prop):Prop:=∃ k,∀ n W,d≤n→k≤W→p n W
section
variable {d:Nat} {p q r s:Nat→Nat→Prop}
theorem Ev.of (h:∀ n W,p n W):Ev d p:=⟨0,fun n W _ _=>h n W⟩
theorem Ev.map (h:Ev d p) (f:∀ n W,p n W→q n W):Ev d q:=let ⟨k,h⟩:=h;⟨k,fun n W a b=>f n W (h n W a b)⟩
theorem Ev.map2 (h:Ev d p) (g:Ev d q) (f:∀ n W,p n W→q n W→r n W):Ev d r :=
 let ⟨k,h⟩:=h;let ⟨l,g⟩:=g
 ⟨k+l,fun n W a b=>f n W (h n W a (Nat.le_trans (Nat.le_add_right k l) b)) (g n W a (Nat.le_trans (Nat.le_add_left l k) b))⟩
theorem Ev.map3 (h:Ev d p) (g:Ev d q) (j:Ev d r) (f:∀ n W,p n W→q n W→r n W→s n W):Ev d s :=
 (h.map2 g fun _ _ a b=>And.intro a b).map2 j fun n W a b=>f n W a.1 a.2 b
theorem Ev.up {e:Nat} (l:d≤e) (h:Ev d p):Ev e p:=let ⟨k,h⟩:=h;⟨k,fun n W a b=>h n W (Nat.le_trans l a) b⟩
end
structure D (d:Nat) (x:X) (ρ:List V) (σ:St) (v:V) (σ':St):Prop where
 o:Ev d fun n W=>den tabs (runF PG W n) x ρ σ = .ok v σ'
structure DL (d:Nat) (x:X) (ρ:List V) (σ:St) (v:List V) (σ':St):Prop where
 o:Ev d fun n W=>denL tabs (runF PG W n) x ρ σ = .ok v σ'
structure XS (d:Nat) (s:S) (ρ:List V) (σ:St) (r:RS):Prop where
 o:Ev d fun n W=>exS tabs (runF PG W n) W s ρ σ=r
structure C (d:Nat) (f:Nat) (vs:List V) (σ:St) (v:V) (σ':St):Prop where
 o:Ev d fun n W=>runF PG W n f vs σ = .ok v σ'
structure NW (d:Nat) (k:Nat) (vs:List V) (σ:St) (v:V) (σ':St):Prop where
 o:Ev d fun n W=>newV tabs (runF PG W n) k vs σ = .ok v σ'
structure CL (d:Nat) (e:X) (i:Nat) (ρ:List V) (a:Nat) (xs:List V) (σ:St) (v:V) (σ':St):Prop where
 o:Ev d fun n W=>compL (fun x σ=>den tabs (runF PG W n) e (ρ.set i x) σ) a xs σ = .ok v σ'
structure LW (d:Nat) (c:X) (b tl:S) (ρ:List V) (σ:St) (r:RS):Prop where
 o:∃ k,∀ n W m,d≤n→k≤W→k≤m→(whileN (fun ρ σ=>den tabs (runF PG W n) c ρ σ) (fun ρ σ=>exS tabs (runF PG W n) W b ρ σ) m ρ σ).andThen (fun ρ σ=>exS tabs (runF PG W n) W tl ρ σ)=r
structure FN (d:Nat) (i:Nat) (b:S) (xs:List V) (ρ:List V) (σ:St) (r:RS):Prop where
 o:Ev d fun n W=>forN i (fun ρ σ=>exS tabs (runF PG W n) W b ρ σ) xs ρ σ=r
theorem C.up {d e f:Nat} {vs:List V} {σ σ':St} {v:V} (h:C d f vs σ v σ') (l:d≤e:=by array_get_dec):C e f vs σ v σ':=⟨h.o.up l⟩
theorem NW.up {d e f:Nat} {vs:List V} {σ σ':St} {v:V} (h:NW d f vs σ v σ') (l:d≤e:=by array_get_dec):NW e f vs σ v σ':=⟨h.o.up l⟩
section
variable {d:Nat} {a b c:X} {ρ ρ1:List V} {σ σ1 σ2 σ3:St} {v u w z:V} {vs:List V} {r:RS}
theorem d_c {x:T}:D d (.c x) ρ σ (.t x) σ:=⟨.of fun _ _=>rfl⟩
theorem d_vt {i:Nat} {x:T} (h : ρ[i]? = some (.t x)):D d (.var i) ρ σ (.t x) σ:=⟨.of fun _ _=>by show (match ρ[i]? with | some (.t x)=>_ | some (.ref j)=>_ | _=>_)=_;rw [h]⟩
theorem d_vr {i j:Nat} (h : ρ[i]? = some (.ref j)):D d (.var i) ρ σ (.ref j) σ:=⟨.of fun _ _=>by show (match ρ[i]? with | some (.t x)=>_ | some (.ref j)=>_ | _=>_)=_;rw [h]⟩
theorem d_g {g:Nat} {x:T} (h:globT g=some x):D d (.glob g) ρ σ (.t x) σ:=⟨.of fun _ _=>by show (match globT g with | some x=>R.ok (V.t x) σ | Option.none=>R.bot)=_;rw [h]⟩
theorem z0n:DL d .nil ρ σ [] σ:=⟨.of fun _ _=>rfl⟩
theorem z04 (h:D d a ρ σ v σ1) (g:DL d b ρ σ1 vs σ2):DL d (.cons a b) ρ σ (v :: vs) σ2:=⟨h.o.map2 g.o fun _ _ h g=>by show (den ..).bind _=_;rw [h];show (denL ..).bind _=_;rw [g];rfl⟩
theorem d_tup {ts:List T} (h:DL d a ρ σ vs σ1) (g:treesV vs=some ts) (l:ts.length≤lineS):D d (.tup a) ρ σ (.t (.tup ts)) σ1:=⟨h.o.map fun _ _ h=>by show (denL ..).bind _=_;rw [h];show (match treesV vs with | some ts=>if ts.length≤lineS then R.ok (V.t (.tup ts)) σ1 else R.bot | Option.none=>R.bot)=_;rw [g];exact if_pos l⟩
theorem d_lst (h:DL d a ρ σ vs σ1) (l:vs.length≤lineS):D d (.lst a) ρ σ (.ref σ1.length) (σ1++[.list vs]):=⟨h.o.map fun _ _ h=>by show (denL ..).bind _=_;rw [h];exact if_pos l⟩
theorem zgq {l}:D d (.dict l) ρ σ (.t (.dict l)) σ:=⟨.of fun _ _=>rfl⟩
theorem d_bin {op} {x y z:T} (h:D d a ρ σ (.t x) σ1) (g:D d b ρ σ1 (.t y) σ2) (e:binT op x y=some z):D d (.bin op a b) ρ σ (.t z) σ2:=⟨h.o.map2 g.o fun _ _ h g=>by show (den ..).bind _=_;rw [h];show (den ..).bind _=_;rw [g];show R.lift ((binT op x y).map V.t) σ2=_;rw [e];rfl⟩
theorem zci {i j:Nat} {l l':List V} (h:D d a ρ σ (.ref i) σ1) (g:D d b ρ σ1 (.ref j) σ2) (e : σ2[i]? = some (.list l)) (e' : σ2[j]? = some (.list l')) (o:l.length+l'.length≤lineS):D d (.bin 0 a b) ρ σ (.ref σ2.length) (σ2++[.list (l++l')]):=⟨h.o.map2 g.o fun _ _ h g=>by
 show (den ..).bind _=_;rw [h];show (den ..).bind _=_;rw [g]
 show (match σ2[i]?,σ2[j]? with
   | some (.list l),some (.list l')=>if l.length+l'.length≤lineS then R.ok (V.ref σ2.length) (σ2++[MO.list (l++l')]) else R.bot
   | _,_=>R.bot)=_
 rw [e,e'];exact if_pos o⟩
theorem d_neg {i:Int} (h:D d a ρ σ (.t (.int i)) σ1):D d (.neg a) ρ σ (.t (.int (-i))) σ1:=⟨h.o.map fun _ _ h=>by show (den ..).bind _=_;rw [h];rfl⟩
theorem d_not {t:Bool} (h:D d a ρ σ v σ1) (e:truthV v=some t):D d (.not a) ρ σ (.t (.bool (!t))) σ1:=⟨h.o.map fun _ _ h=>by show (den ..).bind _=_;rw [h];show R.lift ((truthV v).map _) σ1=_;rw [e];rfl⟩
noncomputable def Els (d:Nat) (t:Bool) (v:V) (y:X) (ρ:List V) (σ:St) (w:V) (σ':St):Prop:=(truthV v=some t∧D d y ρ σ w σ')∨(truthV v=some (!t)∧w=v ∧ σ' = σ)
theorem d_and (h:D d a ρ σ v σ1) (g:Els d true v b ρ σ1 w σ2):D d (.and a b) ρ σ w σ2:=by
 rcases g with ⟨e,g⟩ | ⟨e,rfl,rfl⟩
 ·exact ⟨h.o.map2 g.o fun _ _ h g=>by show (den ..).bind _=_;rw [h];show (match truthV v with | some true=>_ | some false=>_ | Option.none=>_)=_;rw [e];exact g⟩
 ·exact ⟨h.o.map fun _ _ h=>by show (den ..).bind _=_;rw [h];show (match truthV w with | some true=>_ | some false=>_ | Option.none=>_)=_;rw [e];rfl⟩
theorem d_or (h:D d a ρ σ v σ1) (g:Els d false v b ρ σ1 w σ2):D d (.or a b) ρ σ w σ2:=by
 rcases g with ⟨e,g⟩ | ⟨e,rfl,rfl⟩
 ·exact ⟨h.o.map2 g.o fun _ _ h g=>by show (den ..).bind _=_;rw [h];show (match truthV v with | some true=>_ | some false=>_ | Option.none=>_)=_;rw [e];exact g⟩
 ·exact ⟨h.o.map fun _ _ h=>by show (den ..).bind _=_;rw [h];show (match truthV w with | some true=>_ | some false=>_ | Option.none=>_)=_;rw [e];rfl⟩
noncomputable def Ite (d:Nat) (v:V) (x y:X) (ρ:List V) (σ:St) (w:V) (σ':St):Prop:=(truthV v=some true∧D d x ρ σ w σ')∨(truthV v=some false∧D d y ρ σ w σ')
theorem d_ite (h:D d c ρ σ v σ1) (g:Ite d v a b ρ σ1 w σ2):D d (.ite c a b) ρ σ w σ2:=by
 rcases g with ⟨e,g⟩ | ⟨e,g⟩
 ·exact ⟨h.o.map2 g.o fun _ _ h g=>by show (den ..).bind _=_;rw [h];show (match truthV v with | some true=>_ | some false=>_ | Option.none=>_)=_;rw [e];exact g⟩
 ·exact ⟨h.o.map2 g.o fun _ _ h g=>by show (den ..).bind _=_;rw [h];show (match truthV v with | some true=>_ | some false=>_ | Option.none=>_)=_;rw [e];exact g⟩
theorem d_cmp {op} {t:Bool} (h:D d a ρ σ v σ1) (g:D d b ρ σ1 u σ2) (e:cmpV σ2 op v u=some t):D d (.cmp op a b) ρ σ (.t (.bool t)) σ2:=⟨h.o.map2 g.o fun _ _ h g=>by show (den ..).bind _=_;rw [h];show (den ..).bind _=_;rw [g];show R.lift ((cmpV σ2 op v u).map _) σ2=_;rw [e];rfl⟩
theorem z5a {t:Bool} (h:D d a ρ σ v σ1) (g:D d b ρ σ1 u σ2) (e:cmpV σ2 3 v u=some true) (k:D d c ρ σ2 w σ3) (e':cmpV σ3 3 u w=some t):D d (.cmp2 a b c) ρ σ (.t (.bool t)) σ3:=⟨h.o.map3 g.o k.o fun _ _ h g k=>by
 show (den ..).bind _=_;rw [h];show (den ..).bind _=_;rw [g];show (match cmpV σ2 3 v u with | some true=>_ | some false=>_ | Option.none=>_)=_;rw [e];show (den ..).bind _=_;rw [k];show R.lift ((cmpV σ3 3 u w).map _) σ3=_;rw [e'];rfl⟩
theorem z5b (h:D d a ρ σ v σ1) (g:D d b ρ σ1 u σ2) (e:cmpV σ2 3 v u=some false):D d (.cmp2 a b c) ρ σ (.t (.bool false)) σ2:=⟨h.o.map2 g.o fun _ _ h g=>by
 show (den ..).bind _=_;rw [h];show (den ..).bind _=_;rw [g];show (match cmpV σ2 3 v u with | some true=>_ | some false=>_ | Option.none=>_)=_;rw [e]⟩
theorem zcj {f} (h:D d a ρ σ v σ1) (e:getA σ1 v f=some w):D d (.attr a f) ρ σ w σ1:=⟨h.o.map fun _ _ h=>by show (den ..).bind _=_;rw [h];show R.lift (getA σ1 v f) σ1=_;rw [e];rfl⟩
theorem d_idx (h:D d a ρ σ v σ1) (g:D d b ρ σ1 u σ2) (e:idxV σ2 v u=some w):D d (.idx a b) ρ σ w σ2:=⟨h.o.map2 g.o fun _ _ h g=>by show (den ..).bind _=_;rw [h];show (den ..).bind _=_;rw [g];show R.lift (idxV σ2 v u) σ2=_;rw [e];rfl⟩
theorem zdw {x y z t:T} (h:D d a ρ σ (.t x) σ1) (g:D d b ρ σ1 (.t y) σ2) (k:D d c ρ σ2 (.t z) σ3) (e:sliceT x y z=some t):D d (.slice a b c) ρ σ (.t t) σ3:=⟨h.o.map3 g.o k.o fun _ _ h g k=>by
 show (den ..).bind _=_;rw [h];show (den ..).bind _=_;rw [g];show (den ..).bind _=_;rw [k];show R.lift ((sliceT x y z).map V.t) σ3=_;rw [e];rfl⟩
theorem d_f {f} (h:DL d a ρ σ vs σ1) (g:C d f vs σ1 w σ2):D d (.callF f a) ρ σ w σ2:=⟨h.o.map2 g.o fun _ _ h g=>by show (denL ..).bind _=_;rw [h];exact g⟩
theorem d_m {m k f} (h:D d a ρ σ v σ1) (e:clsOf σ1 v=some k) (e':methT k m=some f) (h':DL d b ρ σ1 vs σ2) (g:C d f (v :: vs) σ2 w σ3):D d (.callM a m b) ρ σ w σ3:=⟨h.o.map3 h'.o g.o fun _ _ h h' g=>by
 show (den ..).bind _=_;rw [h];show (match clsOf σ1 v with | some c=>_ | Option.none=>_)=_;rw [e];show (match methT k m with | some f=>_ | Option.none=>_)=_;rw [e'];show (denL ..).bind _=_;rw [h'];exact g⟩
theorem d_new {k} (h:DL d a ρ σ vs σ1) (g:NW d k vs σ1 w σ2):D d (.new k a) ρ σ w σ2:=⟨h.o.map2 g.o fun _ _ h g=>by show (denL ..).bind _=_;rw [h];exact g⟩
theorem d_blt {k} {t:T} (h:DL d a ρ σ vs σ1) (e:bltV σ1 k vs=some t):D d (.blt k a) ρ σ (.t t) σ1:=⟨h.o.map fun _ _ h=>by show (denL ..).bind _=_;rw [h];show R.lift ((bltV σ1 k vs).map V.t) σ1=_;rw [e];rfl⟩
theorem d_sm {m} (h:D d a ρ σ v σ1) (e:smFits σ1 v m=true) (g:DL d b ρ σ1 vs σ2) (e':smethV σ2 v m vs = .ok w σ3):D d (.smeth a m b) ρ σ w σ3:=⟨h.o.map2 g.o fun _ _ h g=>by
 show (den ..).bind _=_;rw [h];show (if smFits σ1 v m then (denL ..).bind _ else _)=_;rw [if_pos e,g];exact e'⟩
theorem d_isi {k c:Nat} {l} (h:D d a ρ σ (.t (.node c l)) σ1) (e:c < 12):D d (.isinst a k) ρ σ (.t (.bool (decide (c=k)))) σ1:=⟨h.o.map fun _ _ h=>by show (den ..).bind _=_;rw [h];show (if _ then _ else _)=_;exact if_pos e⟩
theorem zgr {i} {xs} (h:D d a ρ σ v σ1) (e:itemsV v=some xs) (g:CL d b i ρ σ1.length xs (σ1++[.list []]) w σ2):D d (.comp b i a) ρ σ w σ2:=⟨h.o.map2 g.o fun _ _ h g=>by
 show (den ..).bind _=_;rw [h];show (match itemsV v with | some xs=>_ | Option.none=>_)=_;rw [e];exact g⟩
theorem z7q {i} {xs} (h:D d a ρ σ v σ1) (e:numsV v=some xs) (g:CL d b i ρ σ1.length xs (σ1++[.list []]) w σ2):D d (.compR b i a) ρ σ w σ2:=⟨h.o.map2 g.o fun _ _ h g=>by
 show (den ..).bind _=_;rw [h];show (match numsV v with | some xs=>_ | Option.none=>_)=_;rw [e];exact g⟩
theorem zck {i k}:CL d a i ρ k [] σ (.ref k) σ:=⟨.of fun _ _=>rfl⟩
theorem z7r {i k} {x:V} {xs l} (h:D d a (ρ.set i x) σ v σ1) (e : σ1[k]? = some (.list l)) (o:l.length < lineS) (g:CL d a i ρ k xs (σ1.set k (.list (l++[v]))) w σ2):CL d a i ρ k (x :: xs) σ w σ2:=⟨h.o.map2 g.o fun _ _ h g=>by
 show (match den .. with | .ok v σ=>_ | _=>_:R V)=_;rw [h];show (match σ1[k]? with | some (.list l)=>_ | _=>_)=_;rw [e];show (if l.length < lineS then _ else _)=_;rw [if_pos o];exact g⟩
end
section
variable {d:Nat} {a b c:S} {x y:X} {ρ ρ1:List V} {σ σ1 σ2 σ3:St} {v u w z:V} {vs:List V} {r:RS}
theorem x_nil:XS d .nil ρ σ (.next ρ σ):=⟨.of fun _ _=>rfl⟩
theorem z7s (h:XS d b ρ σ r):XS d (.seq .nil b) ρ σ r:=⟨h.o.map fun _ _ h=>h⟩
theorem zdx (h:XS d (.seq a (.seq b c)) ρ σ r):XS d (.seq (.seq a b) c) ρ σ r:=⟨h.o.map fun _ _ h=>by
 rw [← h];show (RS.andThen (RS.andThen (exS ..) _) _)=RS.andThen (exS ..) _
 cases exS tabs (runF PG _ _) _ a ρ σ<;>rfl⟩
theorem x_asg {i} (h:D d x ρ σ v σ1) (e : ρ.set i v = ρ1) (g:XS d b ρ1 σ1 r):XS d (.seq (.asg i x) b) ρ σ r:=by
 subst e;exact ⟨h.o.map2 g.o fun _ _ h g=>by show (R.toS _ (den ..) _:RS).andThen _=_;rw [h];exact g⟩
theorem z7t {is} {ts} (h:DL d x ρ σ vs σ1) (t:treesV vs=some ts) (l:vs.length=is.length) (e:setAll ρ is vs = ρ1) (g:XS d b ρ1 σ1 r):XS d (.seq (.asgP is x) b) ρ σ r:=by
 subst e;exact ⟨h.o.map2 g.o fun _ _ h g=>by
  show (R.toS _ (denL ..) _:RS).andThen _=_;rw [h];show (match treesV vs with | some _=>_ | Option.none=>_:RS).andThen _=_;rw [t];show (if vs.length=is.length then _ else _:RS).andThen _=_;rw [if_pos l];exact g⟩
theorem zcl {is} {us} (h:D d x ρ σ v σ1) (t:itemsV v=some us) (l:us.length=is.length) (e:setAll ρ is us = ρ1) (g:XS d b ρ1 σ1 r):XS d (.seq (.asgT is x) b) ρ σ r:=by
 subst e;exact ⟨h.o.map2 g.o fun _ _ h g=>by
  show (R.toS _ (den ..) _:RS).andThen _=_;rw [h];show (match itemsV v with | some vs=>_ | Option.none=>_:RS).andThen _=_;rw [t];show (if us.length=is.length then _ else _:RS).andThen _=_;rw [if_pos l];exact g⟩
theorem z0t {f} (h:D d x ρ σ v σ1) (k:D d y ρ σ1 u σ2) (e:setA σ2 u f v=some σ3) (g:XS d b ρ σ3 r):XS d (.seq (.setA y f x) b) ρ σ r:=⟨h.o.map3 k.o g.o fun _ _ h k g=>by
 show (R.toS _ (den ..) _:RS).andThen _=_;rw [h];show (R.toS _ (den ..) _:RS).andThen _=_;rw [k];show (match setA σ2 u f v with | some σ=>_ | Option.none=>_:RS).andThen _=_;rw [e];exact g⟩
theorem zgs {z} {w:V} {σ4} (h:D d x ρ σ v σ1) (k:D d y ρ σ1 u σ2) (j:D d z ρ σ2 w σ3) (e:setI σ3 u w v=some σ4) (g:XS d b ρ σ4 r):XS d (.seq (.setI y z x) b) ρ σ r:=⟨(h.o.map2 k.o fun _ _ h k=>And.intro h k).map3 j.o g.o fun _ _ h j g=>by
 show (R.toS _ (den ..) _:RS).andThen _=_;rw [h.1];show (R.toS _ (den ..) _:RS).andThen _=_;rw [h.2];show (R.toS _ (den ..) _:RS).andThen _=_;rw [j];show (match setI σ3 u w v with | some σ=>_ | Option.none=>_:RS).andThen _=_;rw [e];exact g⟩
theorem zcm (h:D d x ρ σ v σ1) (g:XS d b ρ σ1 r):XS d (.seq (.expr x) b) ρ σ r:=⟨h.o.map2 g.o fun _ _ h g=>by show (R.toS _ (den ..) _:RS).andThen _=_;rw [h];exact g⟩
theorem x_ret (h:D d x ρ σ v σ1):XS d (.seq (.ret x) b) ρ σ (.ret v σ1):=⟨h.o.map fun _ _ h=>by show (R.toS _ (den ..) _:RS).andThen _=_;rw [h];rfl⟩
noncomputable def IfS (d:Nat) (v:V) (a b c:S) (ρ:List V) (σ:St) (r:RS):Prop:=(truthV v=some true∧XS d (.seq a c) ρ σ r)∨(truthV v=some false∧XS d (.seq b c) ρ σ r)
theorem x_if (h:D d x ρ σ v σ1) (g:IfS d v a b c ρ σ1 r):XS d (.seq (.ifs x a b) c) ρ σ r:=by
 rcases g with ⟨e,g⟩ | ⟨e,g⟩
 ·exact ⟨h.o.map2 g.o fun _ _ h g=>by show (R.toS _ (den ..) _:RS).andThen _=_;rw [h];show (match truthV v with | some true=>_ | some false=>_ | Option.none=>_:RS).andThen _=_;rw [e];exact g⟩
 ·exact ⟨h.o.map2 g.o fun _ _ h g=>by show (R.toS _ (den ..) _:RS).andThen _=_;rw [h];show (match truthV v with | some true=>_ | some false=>_ | Option.none=>_:RS).andThen _=_;rw [e];exact g⟩
theorem x_whl (h:LW d x a b ρ σ r):XS d (.seq (.whl x a) b) ρ σ r:=by
 obtain ⟨k,h⟩:=h
 exact ⟨k,fun n W hn hW=>h n W W hn hW hW⟩
theorem zdy (h:D d x ρ σ v σ1) (e:truthV v=some false) (g:XS d b ρ σ1 r):LW d x a b ρ σ r:=by
 obtain ⟨k,h⟩:=h
 obtain ⟨l,g⟩:=g
 refine ⟨k+l + 1,fun n W m hn hW hm=>?_⟩
 obtain ⟨m,rfl⟩:∃ j,m=j + 1:=⟨m - 1,by omega⟩
 show (RS.andThen (R.toS _ (den ..) _) _)=_;rw [h n W hn (by omega)]
 show (match truthV v with | some true=>_ | some false=>_ | Option.none=>_:RS).andThen _=_
 rw [e]
 exact g n W hn (by omega)
theorem zdz (h:D d x ρ σ v σ1) (e:truthV v=some true) (h':XS d a ρ σ1 (.next ρ1 σ2)) (g:LW d x a b ρ1 σ2 r):LW d x a b ρ σ r:=by
 obtain ⟨k,h⟩:=h
 obtain ⟨k',h'⟩:=h'
 obtain ⟨l,g⟩:=g
 refine ⟨k+k'+l + 1,fun n W m hn hW hm=>?_⟩
 obtain ⟨m,rfl⟩:∃ j,m=j + 1:=⟨m - 1,by omega⟩
 show (RS.andThen (R.toS _ (den ..) _) _)=_;rw [h n W hn (by omega)]
 show (match truthV v with | some true=>_ | some false=>_ | Option.none=>_:RS).andThen _=_
 rw [e]
 show (RS.andThen (RS.andThen (exS tabs (runF PG W n) W a ρ σ1) _) _)=_
 rw [h' n W hn (by omega)]
 exact g n W m hn (by omega) (by omega)
noncomputable def Trn (d:Nat) (v:V) (x:X) (a b:S) (ρ:List V) (σ:St) (r:RS):Prop:=(truthV v=some true∧∃ ρ1 σ2,XS d a ρ σ (.next ρ1 σ2)∧LW d x a b ρ1 σ2 r)∨(truthV v=some false∧XS d b ρ σ r)
theorem lw_go (h:D d x ρ σ v σ1) (g:Trn d v x a b ρ σ1 r):LW d x a b ρ σ r:=by
 rcases g with ⟨e,ρ1,σ2,g,l⟩ | ⟨e,g⟩
 ·exact zdz h e g l
 ·exact zdy h e g
theorem z2f (e:truthV v=some true) (h:XS d a ρ σ (.next ρ1 σ2)) (g:LW d x a b ρ1 σ2 r):Trn d v x a b ρ σ r:= .inl ⟨e,ρ1,σ2,h,g⟩
theorem z25 (e:truthV v=some false) (g:XS d b ρ σ r):Trn d v x a b ρ σ r:= .inr ⟨e,g⟩
theorem zgt {i} {xs} (h:D d x ρ σ v σ1) (e:numsV v=some xs) (k:FN d i a xs ρ σ1 (.next ρ1 σ2)) (g:XS d b ρ1 σ2 r):XS d (.seq (.forR i x a) b) ρ σ r:=⟨h.o.map3 k.o g.o fun _ _ h k g=>by
 show (R.toS _ (den ..) _:RS).andThen _=_;rw [h];show (match numsV v with | some xs=>_ | Option.none=>_:RS).andThen _=_;rw [e];show (forN ..).andThen _=_;rw [k];exact g⟩
theorem zgu {i} {l:List Int} (h:D d x ρ σ (.t (.lst l)) σ1) (k:FN d i a (l.map fun k=> .t (.int k)) ρ σ1 (.next ρ1 σ2)) (g:XS d b ρ1 σ2 r):XS d (.seq (.forL i x a) b) ρ σ r:=⟨h.o.map3 k.o g.o fun _ _ h k g=>by
 show (R.toS _ (den ..) _:RS).andThen _=_;rw [h];show (forN ..).andThen _=_;rw [k];exact g⟩
theorem z7u {i}:FN d i a [] ρ σ (.next ρ σ):=⟨.of fun _ _=>rfl⟩
theorem z5c {i} {x:V} {xs} (h:XS d a (ρ.set i x) σ (.next ρ1 σ1)) (g:FN d i a xs ρ1 σ1 r):FN d i a (x :: xs) ρ σ r:=⟨h.o.map2 g.o fun _ _ h g=>by show (match exS .. with | .next ρ σ=>_ | .ret v σ=>_ | _=>_:RS)=_;rw [h];exact g⟩
end
section
variable {d:Nat} {a b c:S} {x y:X} {ρ:List V} {σ σ':St} {v w:V} {r:RS}
theorem i_t (e:truthV v=some true) (g:XS d (.seq a c) ρ σ r):IfS d v a b c ρ σ r:= .inl ⟨e,g⟩
theorem i_f (e:truthV v=some false) (g:XS d (.seq b c) ρ σ r):IfS d v a b c ρ σ r:= .inr ⟨e,g⟩
theorem e_t (e:truthV v=some true) (g:D d x ρ σ w σ'):Ite d v x y ρ σ w σ':= .inl ⟨e,g⟩
theorem e_f (e:truthV v=some false) (g:D d y ρ σ w σ'):Ite d v x y ρ σ w σ':= .inr ⟨e,g⟩
theorem l_go {t:Bool} (e:truthV v=some t) (g:D d y ρ σ w σ'):Els d t v y ρ σ w σ':= .inl ⟨e,g⟩
theorem l_no {t:Bool} (e:truthV v=some (!t)):Els d t v y ρ σ v σ:= .inr ⟨e,rfl,rfl⟩
end
section
variable {p:Prop} [Decidable p]
theorem tr_t (h:p):truthV (.t (.bool (decide p)))=some true:=by rw [decide_eq_true h];rfl
theorem tr_f (h:¬ p):truthV (.t (.bool (decide p)))=some false:=by rw [decide_eq_false h];rfl
theorem tn_t (h:¬ p):truthV (.t (.bool (!decide p)))=some true:=by rw [decide_eq_false h];rfl
theorem tn_f (h:p):truthV (.t (.bool (!decide p)))=some false:=by rw [decide_eq_true h];rfl
end
noncomputable def finR (k:Nat):RS→Option (V×St)
 | .next _ σ'=>some (.t .none,trunc k (.t .none) σ')
 | .ret v σ'=>some (v,trunc k v σ')
 | _=>Option.none
theorem c_of {d f:Nat} {vs:List V} {σ σ':St} {v:V} {F:Fn} {ρ:List V} {r:RS} (h:fnT f=some F) (hl:layArgs F vs=some ρ) (g:XS d F.body ρ σ r) (e:finR σ.length r=some (v,σ')):C (d + 1) f vs σ v σ':=by
 obtain ⟨k,g⟩:=g
 refine ⟨k,fun n W hn hW=>?_⟩
 obtain ⟨n,rfl⟩:∃ j,n=j + 1:=⟨n - 1,by omega⟩
 show (match fnT f with | Option.none=>_ | some fd=>_:R V)=_
 rw [h]
 show (match layArgs F vs with | Option.none=>_ | some ρ=>_:R V)=_
 rw [hl]
 show (match exS tabs (runF PG W n) W F.body ρ σ with | .next _ σ'=>_ | .ret v σ'=>_ | .exc _ σ'=>_ | .bot=>_:R V)=_
 rw [g n W (by omega) hW]
 cases r with
 | next ρ' τ=>obtain ⟨rfl,rfl⟩:=Prod.mk.inj (Option.some.inj e);rfl
 | ret v' τ=>obtain ⟨rfl,rfl⟩:=Prod.mk.inj (Option.some.inj e);rfl
 | _=>exact nS e
theorem c_run {d f:Nat} {vs:List V} {σ σ':St} {v:V} (h:∀ n W,runF PG (W + 200) (n+d) f vs σ = .ok v σ'):C d f vs σ v σ' :=
 ⟨200,fun n W hn hW=>by have:=h (n - d) (W - 200);rwa [Nat.sub_add_cancel hn,Nat.sub_add_cancel hW] at this⟩
noncomputable def Lw (σ:St):Prop:=lowAll σ.length σ=true
theorem z1w {k:Nat} {σ τ:St}:lowAll k (σ ++ τ)=(lowAll k σ && lowAll k τ):=List.all_append ..
theorem z1l {k l:Nat} (h:k≤l) {σ:St} (a:lowAll k σ=true):lowAll l σ=true:=by
 unfold lowAll at *
 rw [List.all_eq_true] at *
 intro o ho
 have:=a o ho
 rw [List.all_eq_true] at *
 intro v hv
 have:=this v hv
 cases v with
 | ref i=>exact decide_eq_true (Nat.lt_of_lt_of_le (of_decide_eq_true this) h)
 | _=>rfl
theorem low_t {k:Nat} {ts:List T}:(ts.map V.t).all (V.low k)=true:=by
 induction ts with
 | nil=>rfl
 | cons a r ih=>simpa [V.low] using ih
theorem ze0 {σ:St} {ts:List T} (h:Lw σ):Lw (σ++[.list (ts.map V.t)]):=by
 unfold Lw at *
 rw [z1w,z1l (by simp) h]
 show (lowAll _ [MO.list _])=true
 unfold lowAll
 rw [List.all_cons]
 exact Bool.and_eq_true_iff.mpr ⟨low_t,rfl⟩
theorem z00 {k:Nat} {v:V} {σ:St} (h : σ.length=k):finR k (.ret v σ)=some (v,σ):=by
 unfold finR trunc;simp only [if_pos h]
theorem z1e {k:Nat} {ρ:List V} {σ:St} (h : σ.length=k):finR k (.next ρ σ)=some (.t .none,σ):=by
 unfold finR trunc;simp only [if_pos h]
theorem z45 {k:Nat} {x:T} {σ τ:St} (h : σ.length=k) (l:lowAll k σ=true):trunc k (.t x) (σ ++ τ) = σ:=by
 unfold trunc
 subst h
 rw [List.take_left,l]
 split
 ·rename_i h;cases τ with
  | nil=>simp
  | cons=>simp at h
 ·rfl
theorem fin_t {k:Nat} {x:T} {σ τ:St} (h : σ.length=k) (l:lowAll k σ=true):finR k (.ret (.t x) (σ ++ τ))=some (.t x,σ):=by
 unfold finR;simp only [z45 h l]
theorem fin_n {k:Nat} {ρ:List V} {σ τ:St} (h : σ.length=k) (l:lowAll k σ=true):finR k (.next ρ (σ ++ τ))=some (.t .none,σ):=by
 unfold finR;simp only [z45 h l]
theorem trb_t {b:Bool} (h:b=true):truthV (.t (.bool b))=some true:=by rw [h];rfl
theorem trb_f {b:Bool} (h:b=false):truthV (.t (.bool b))=some false:=by rw [h];rfl
theorem z0o {σ:St} {o:MO}:(σ++[o])[σ.length]? = some o:=by simp
theorem z1m {σ τ:St} {o:MO}:(σ++o :: τ)[σ.length]? = some o:=by simp
theorem z0h {σ τ:St} {o o':MO}:(σ++o :: τ).set σ.length o' = σ++o' :: τ:=by simp
theorem z0d {σ:St} {c f:Nat} {l:List V} {v:V} (h:posOf f (fieldsOf c) 0=some l.length):setA (σ++[.inst c l]) (.ref σ.length) f v=some (σ++[.inst c (l++[v])]):=by
 unfold setA
 simp only [z0o]
 rw [h]
 simp [z0h]
theorem z2g (ts:List T):treesV (ts.map V.t)=some ts:=by
 induction ts with
 | nil=>rfl
 | cons a r ih=>show (treesV (r.map V.t)).map (a :: ·)=_;rw [ih];rfl
theorem nw_of {d k f:Nat} {ts:List T} {σ:St} (h:initT k=some f) (z:frozenC k=true) (hl:ts.length=(fieldsOf k).length) (lw:Lw σ) (c:C d f (.ref σ.length :: ts.map V.t) (σ++[.inst k []]) (.t .none) (σ++[.inst k (ts.map V.t)])):NW d k (ts.map V.t) σ (.t (.node k ts)) σ:=⟨c.o.map fun n W e=>by
 unfold newV
 show (match initT k with | Option.none=>_ | some f=>_:R V)=_
 rw [h]
 show (R.bind (runF PG W n f (.ref σ.length :: ts.map V.t) (σ++[.inst k []])) _)=_
 rw [e]
 simp only [R.bind,z,if_true,z0o,z2g,List.take_left,List.length_append,List.length_cons,List.length_nil,hl,Nat.zero_add,if_true,and_self,true_and]
 exact if_pos lw⟩
theorem zcn {d k f:Nat} {vs:List V} {σ:St} {σ':St} (h:initT k=some f) (z:frozenC k=false) (c:C d f (.ref σ.length :: vs) (σ++[.inst k []]) (.t .none) σ'):NW d k vs σ (.ref σ.length) σ':=⟨c.o.map fun n W e=>by
 unfold newV
 show (match initT k with | Option.none=>_ | some f=>_:R V)=_
 rw [h]
 show (R.bind (runF PG W n f (.ref σ.length :: vs) (σ++[.inst k []])) _)=_
 rw [e]
 show (if frozenC k=true then _ else _)=_
 rw [z];rfl⟩
section
variable {σ:St} {x y z:T}
theorem ini1 {k f a:Nat} {b:S} (h:fnT f=some ⟨2,[],2,b⟩) (hb:b = .seq (.setA (.var 0) a (.var 1)) .nil) (p:posOf a (fieldsOf k) 0=some 0):C 1 f [.ref σ.length,.t x] (σ++[.inst k []]) (.t .none) (σ++[.inst k [.t x]]):=by
 subst hb
 exact c_of (ρ:=[_,_]) h rfl (z0t (d_vt rfl) (d_vr rfl) (z0d p) x_nil) (z1e (by simp))
theorem ini2 {k f a a':Nat} {b:S} (h:fnT f=some ⟨3,[],3,b⟩) (hb:b = .seq (.setA (.var 0) a (.var 1)) (.seq (.setA (.var 0) a' (.var 2)) .nil)) (p:posOf a (fieldsOf k) 0=some 0) (p':posOf a' (fieldsOf k) 0=some 1):C 1 f [.ref σ.length,.t x,.t y] (σ++[.inst k []]) (.t .none) (σ++[.inst k [.t x,.t y]]):=by
 subst hb
 exact c_of (ρ:=[_,_,_]) h rfl (z0t (d_vt rfl) (d_vr rfl) (z0d p) (z0t (d_vt rfl) (d_vr rfl) (z0d p') x_nil)) (z1e (by simp))
theorem ini3 {k f a a' a2:Nat} {b:S} (h:fnT f=some ⟨4,[],4,b⟩) (hb:b = .seq (.setA (.var 0) a (.var 1)) (.seq (.setA (.var 0) a' (.var 2)) (.seq (.setA (.var 0) a2 (.var 3)) .nil))) (p:posOf a (fieldsOf k) 0=some 0) (p':posOf a' (fieldsOf k) 0=some 1) (p2:posOf a2 (fieldsOf k) 0=some 2):C 1 f [.ref σ.length,.t x,.t y,.t z] (σ++[.inst k []]) (.t .none) (σ++[.inst k [.t x,.t y,.t z]]):=by
 subst hb
 exact c_of (ρ:=[_,_,_,_]) h rfl (z0t (d_vt rfl) (d_vr rfl) (z0d p) (z0t (d_vt rfl) (d_vr rfl) (z0d p') (z0t (d_vt rfl) (d_vr rfl) (z0d p2) x_nil))) (z1e (by simp))
variable {d:Nat}
theorem nw0 (l:Lw σ) (e : 1≤d:=by array_get_dec):NW d 0 [.t x] σ (.t (.node 0 [x])) σ:=(nw_of (ts:=[x]) (f:=5) rfl rfl rfl l (ini1 rfl rfl rfl)).up e
theorem nw1 (l:Lw σ) (e : 1≤d:=by array_get_dec):NW d 1 [.t x] σ (.t (.node 1 [x])) σ:=(nw_of (ts:=[x]) (f:=7) rfl rfl rfl l (ini1 rfl rfl rfl)).up e
theorem nw2 (l:Lw σ) (e : 1≤d:=by array_get_dec):NW d 2 [.t x] σ (.t (.node 2 [x])) σ:=(nw_of (ts:=[x]) (f:=9) rfl rfl rfl l (ini1 rfl rfl rfl)).up e
theorem nw3 (l:Lw σ) (e : 1≤d:=by array_get_dec):NW d 3 [.t x,.t y] σ (.t (.node 3 [x,y])) σ:=(nw_of (ts:=[x,y]) (f:=11) rfl rfl rfl l (ini2 rfl rfl rfl rfl)).up e
theorem nw4 (l:Lw σ) (e : 1≤d:=by array_get_dec):NW d 4 [.t x,.t y,.t z] σ (.t (.node 4 [x,y,z])) σ:=(nw_of (ts:=[x,y,z]) (f:=13) rfl rfl rfl l (ini3 rfl rfl rfl rfl rfl)).up e
theorem nw5 (l:Lw σ) (e : 1≤d:=by array_get_dec):NW d 5 [.t x] σ (.t (.node 5 [x])) σ:=(nw_of (ts:=[x]) (f:=15) rfl rfl rfl l (ini1 rfl rfl rfl)).up e
theorem nw6 (l:Lw σ) (e : 1≤d:=by array_get_dec):NW d 6 [.t x,.t y] σ (.t (.node 6 [x,y])) σ:=(nw_of (ts:=[x,y]) (f:=17) rfl rfl rfl l (ini2 rfl rfl rfl rfl)).up e
theorem nw7 (l:Lw σ) (e : 1≤d:=by array_get_dec):NW d 7 [.t x,.t y] σ (.t (.node 7 [x,y])) σ:=(nw_of (ts:=[x,y]) (f:=19) rfl rfl rfl l (ini2 rfl rfl rfl rfl)).up e
theorem nw8 (l:Lw σ) (e : 1≤d:=by array_get_dec):NW d 8 [.t x,.t y,.t z] σ (.t (.node 8 [x,y,z])) σ:=(nw_of (ts:=[x,y,z]) (f:=21) rfl rfl rfl l (ini3 rfl rfl rfl rfl rfl)).up e
theorem nw9 (l:Lw σ) (e : 1≤d:=by array_get_dec):NW d 9 [.t x,.t y,.t z] σ (.t (.node 9 [x,y,z])) σ:=(nw_of (ts:=[x,y,z]) (f:=28) rfl rfl rfl l (ini3 rfl rfl rfl rfl rfl)).up e
end
noncomputable abbrev wd (k t:List Nat) (p:Int):T:= .node 9 [.str k,.str t,.int p]
noncomputable def isW (q:List Nat) (w:T) (x:List Nat):Bool:=match w with
 | .node 9 [.str k,.str t,.int _]=>decide (k=q) && decide (t=x)
 | _=>false
noncomputable abbrev isS (w:T) (x:List Nat):Bool:=isW [115,105,103,110] w x
noncomputable abbrev isO (w:T) (x:List Nat):Bool:=isW [111,112,101,114,97,116,111,114] w x
local macro_rules | `(tactic| sizeOf_list_dec) => `(tactic| first | rfl | exact Nat.le_of_ble_eq_true rfl | decide)
local macro_rules | `(tactic| sizeOf_list_dec) => stepM "a:d_c r:d_vt r:d_vr r:d_g a:z0n a:z04 a:zcj a:d_cmp a:d_m a:d_f a:d_and a:d_or a:d_not a:d_ite a:d_bin a:d_blt a:d_sm a:d_idx a:zdw a:d_tup a:d_lst a:d_isi a:d_new a:zgq a:d_neg a:x_ret a:x_asg a:x_if a:z7s a:zdx a:zcm a:z0t a:zgs a:z7t a:zcl a:x_nil a:x_whl a:lw_go i:i_t i:i_f i:e_t i:e_f i:l_go i:l_no i:z2f i:z25"
theorem z38 {d:Nat} {σ:St} {k t x:List Nat} {p:Int} (e : 1≤d:=by array_get_dec):C d 29 [.t (wd k t p),.t (.str x)] σ (.t (.bool (isS (wd k t p) x))) σ:=by
 refine C.up (d:=1) ?_ e
 by_cases h:k=[115,105,103,110]
 ·rw [show isS (wd k t p) x=decide (t=x) from by show (decide (k=_) && decide (t=x))=_;rw [decide_eq_true h];rfl]
  subst h
  apply c_of (ρ:=[_,_]) rfl rfl
  repeat sizeOf_list_dec
  exact z00 rfl
 ·rw [show isS (wd k t p) x=decide (k=[115,105,103,110]) from by show (decide (k=_) && decide (t=x))=_;rw [decide_eq_false h];rfl]
  apply c_of (ρ:=[_,_]) rfl rfl
  ·apply x_ret
   apply d_and
   ·repeat sizeOf_list_dec
   ·exact l_no (tr_f h)
  exact z00 rfl
theorem z66 {d:Nat} {σ:St} {k t x:List Nat} {p:Int} (e : 1≤d:=by array_get_dec):C d 30 [.t (wd k t p),.t (.str x)] σ (.t (.bool (isO (wd k t p) x))) σ:=by
 refine C.up (d:=1) ?_ e
 by_cases h:k=[111,112,101,114,97,116,111,114]
 ·rw [show isO (wd k t p) x=decide (t=x) from by show (decide (k=_) && decide (t=x))=_;rw [decide_eq_true h];rfl]
  subst h
  apply c_of (ρ:=[_,_]) rfl rfl
  repeat sizeOf_list_dec
  exact z00 rfl
 ·rw [show isO (wd k t p) x=decide (k=[111,112,101,114,97,116,111,114]) from by show (decide (k=_) && decide (t=x))=_;rw [decide_eq_false h];rfl]
  apply c_of (ρ:=[_,_]) rfl rfl
  ·apply x_ret
   apply d_and
   ·repeat sizeOf_list_dec
   ·exact l_no (tr_f h)
  exact z00 rfl
section
set_option genInjectivity false in
structure Rd where
 pre:St
 iw:Nat
 ws:List T
 hw:pre[iw]? = some (.list (ws.map V.t))
 low:Lw pre
 lt:iw < pre.length
noncomputable def tmp (υ:List (List T)):St:=υ.map fun l=> .list (l.map V.t)
noncomputable def rs (Γ:Rd) (a dp:Nat) (υ:List (List T)):St:=Γ.pre ++ .inst 11 [.ref Γ.iw,.t (.int a),.t (.int dp)] :: tmp υ
noncomputable abbrev Rd.me (Γ:Rd):V:= .ref Γ.pre.length
section
variable {Γ:Rd} {a dp:Nat} {υ υ':List (List T)} {l:List T}
theorem z12:(rs Γ a dp υ).length = Γ.pre.length + 1 + υ.length:=by simp [rs,tmp];omega
theorem zjf:tmp (υ ++ υ')=tmp υ++tmp υ':=by simp [tmp]
theorem z7v {k:Nat}:lowAll k (tmp υ)=true:=by
 unfold lowAll tmp
 rw [List.all_map,List.all_eq_true]
 intro l _
 exact low_t
theorem z0u:Lw (rs Γ a dp υ):=by
 have h:lowAll (rs Γ a dp υ).length (.inst 11 [.ref Γ.iw,.t (.int a),.t (.int dp)] :: tmp υ)=true:=by
  show ([V.ref Γ.iw,.t (.int a),.t (.int dp)].all (V.low _) && lowAll _ (tmp υ))=true
  rw [z7v]
  have:=Γ.lt
  simp [V.low,z12]
  omega
 unfold Lw
 conv=>lhs;arg 2;unfold rs
 rw [z1w,h,z1l (by rw [z12];omega) Γ.low]
 rfl
theorem rs_me:(rs Γ a dp υ)[Γ.pre.length]? = some (.inst 11 [.ref Γ.iw,.t (.int a),.t (.int dp)]):=by unfold rs;exact z1m
theorem rs_ws:(rs Γ a dp υ)[Γ.iw]? = some (.list (Γ.ws.map V.t)):=by unfold rs;rw [List.getElem?_append_left Γ.lt];exact Γ.hw
theorem g_at:getA (rs Γ a dp υ) Γ.me 16=some (.t (.int a)):=by unfold getA;simp only [rs_me];rfl
theorem z7w:getA (rs Γ a dp υ) Γ.me 18=some (.ref Γ.iw):=by unfold getA;simp only [rs_me];rfl
theorem z7x:getA (rs Γ a dp υ) Γ.me 19=some (.t (.int dp)):=by unfold getA;simp only [rs_me];rfl
theorem s_at:setA (rs Γ a dp υ) Γ.me 16 (.t (.int ((a:Int) + 1)))=some (rs Γ (a + 1) dp υ):=by
 unfold setA;simp only [rs_me]
 show some ((rs Γ a dp υ).set _ (.inst 11 [.ref Γ.iw,.t (.int ((a:Int) + 1)),.t (.int dp)]))=_
 unfold rs;rw [z0h];rfl
theorem s_up:setA (rs Γ a dp υ) Γ.me 19 (.t (.int ((dp:Int) + 1)))=some (rs Γ a (dp + 1) υ):=by
 unfold setA;simp only [rs_me]
 show some ((rs Γ a dp υ).set _ (.inst 11 [.ref Γ.iw,.t (.int a),.t (.int ((dp:Int) + 1))]))=_
 unfold rs;rw [z0h];rfl
theorem zco:setA (rs Γ a (dp + 1) υ) Γ.me 19 (.t (.int (((dp + 1:Nat):Int) - 1)))=some (rs Γ a dp υ):=by
 have e:(((dp + 1:Nat):Int) - 1)=(dp:Int):=by omega
 unfold setA;simp only [rs_me,e]
 show some ((rs Γ a (dp + 1) υ).set _ (.inst 11 [.ref Γ.iw,.t (.int a),.t (.int (dp:Int))]))=_
 unfold rs;rw [z0h]
theorem k_me:clsOf (rs Γ a dp υ) Γ.me=some 11:=by unfold clsOf;simp only [rs_me]
theorem ix_w {w:T} (h : Γ.ws[a]? = some w):idxV (rs Γ a dp υ) (.ref Γ.iw) (.t (.int a))=some (.t w):=by
 unfold idxV;simp only [rs_ws]
 rw [if_pos (by omega)];simp [h]
noncomputable abbrev tl (Γ:Rd) (υ:List (List T)):V:= .ref (Γ.pre.length + 1 + υ.length)
theorem z46:rs Γ a dp υ++[.list (l.map V.t)]=rs Γ a dp (υ++[l]):=by simp [rs,tmp]
theorem rs_tl:(rs Γ a dp (υ++[l]))[Γ.pre.length + 1 + υ.length]? = some (.list (l.map V.t)):=by
 rw [← z46,← z12 (a:=a) (dp:=dp)];exact z0o
theorem z7y {x:T} (h:l.length < lineS):smethV (rs Γ a dp (υ++[l])) (tl Γ υ) 5 [.t x] = .ok (.t .none) (rs Γ a dp (υ++[l++[x]])):=by
 show (match (rs Γ a dp (υ++[l]))[Γ.pre.length + 1 + υ.length]? with
  | some (.list l)=>if l.length < lineS then R.ok (V.t .none) ((rs Γ a dp (υ++[_])).set (Γ.pre.length + 1 + υ.length) (.list (l++[V.t x]))) else .bot
  | _=> .bot)=_
 rw [rs_tl]
 show (if (l.map V.t).length < lineS then _ else _)=_
 rw [if_pos (by simpa using h),← z46,← z46,← z12 (a:=a) (dp:=dp),z0h]
 simp
theorem z7z:smFits (rs Γ a dp (υ++[l])) (tl Γ υ) 5=true:=by
 show (match (rs Γ a dp (υ++[l]))[Γ.pre.length + 1 + υ.length]? with
  | some (.list _)=>true
  | _=>false)=_
 rw [rs_tl]
theorem z3o (h:l.length≤lineS):bltV (rs Γ a dp (υ++[l])) 5 [tl Γ υ]=some (.tup l):=by
 show (match (rs Γ a dp (υ++[l]))[Γ.pre.length + 1 + υ.length]? with
  | some (.list l)=>(treesV l).bind fun r=>if r.length≤lineS then some (T.tup r) else Option.none
  | _=>Option.none)=_
 rw [rs_tl]
 show (treesV (l.map V.t)).bind _=_
 rw [z2g]
 exact if_pos h
theorem d_nil {d:Nat} {ρ:List V}:D d (.lst .nil) ρ (rs Γ a dp υ) (tl Γ υ) (rs Γ a dp (υ++[[]])):=by
 have:=d_lst (d:=d) (a:= .nil) (ρ:=ρ) (σ:=rs Γ a dp υ) z0n (by decide)
 rw [z12] at this
 rw [← z46 (l:=[])]
 exact this
theorem d_one {d:Nat} {ρ:List V} {x:X} {t:T} {σ:St} (h:D d x ρ σ (.t t) (rs Γ a dp υ)):D d (.lst (.cons x .nil)) ρ σ (tl Γ υ) (rs Γ a dp (υ++[[t]])):=by
 have:=d_lst (d:=d) (ρ:=ρ) (z04 h z0n) (by show 1≤lineS;decide)
 rw [z12] at this
 rw [← z46 (l:=[t])]
 exact this
theorem z80 {a' dp':Nat} {x:T}:finR (rs Γ a dp υ).length (.ret (.t x) (rs Γ a' dp' (υ ++ υ')))=some (.t x,rs Γ a' dp' υ):=by
 have e:rs Γ a' dp' (υ ++ υ')=rs Γ a' dp' υ++tmp υ':=by simp [rs,tmp]
 rw [e]
 refine fin_t (by simp only [z12]) ?_
 have:=z0u (Γ:=Γ) (a:=a') (dp:=dp') (υ:=υ)
 unfold Lw at this
 rw [z12] at this ⊢
 exact this
theorem z1x {a' dp':Nat} {x:T}:finR (rs Γ a dp υ).length (.ret (.t x) (rs Γ a' dp' υ))=some (.t x,rs Γ a' dp' υ):=z00 (by simp only [z12])
theorem z81 {a' dp':Nat} {ρ:List V}:finR (rs Γ a dp υ).length (.next ρ (rs Γ a' dp' υ))=some (.t .none,rs Γ a' dp' υ):=z1e (by simp only [z12])
theorem z5d {a' dp':Nat}:finR (rs Γ a dp υ).length (.ret (tl Γ υ) (rs Γ a' dp' (υ++[l])))=some (tl Γ υ,rs Γ a' dp' (υ++[l])):=by
 unfold finR trunc
 simp only [z12,List.length_append,List.length_cons,List.length_nil]
 rw [if_neg (by omega)]
 simp [V.low]
end
local macro_rules | `(tactic| sizeOf_list_dec) => stepM ":g_at :z7w :z7x :s_at :s_up :zco :k_me m:ix_w :z1x :z81 :z80 :z5d :d_nil a:d_one :z7z m:z7y m:z3o :z0u"
section
variable {Γ:Rd} {a dp d:Nat} {υ:List (List T)}
theorem z5e {w:T} (h : Γ.ws[a]? = some w) (e : 1≤d:=by array_get_dec):C d 52 [Γ.me] (rs Γ a dp υ) (.t w) (rs Γ a dp υ):=by
 refine C.up (d:=1) ?_ e
 apply c_of (ρ:=[_]) rfl rfl
 repeat sizeOf_list_dec
theorem go_ok {k t:List Nat} {p:Int} (h : Γ.ws[a]? = some (wd k t p)) (hk:k≠[101,110,100]) (e : 1≤d:=by array_get_dec):C d 53 [Γ.me] (rs Γ a dp υ) (.t (wd k t p)) (rs Γ (a + 1) dp υ):=by
 refine C.up (d:=1) ?_ e
 apply c_of (ρ:=[_,_]) rfl rfl
 repeat sizeOf_list_dec
 (apply i_t;exact tn_t hk)
 repeat sizeOf_list_dec
local macro_rules | `(tactic| sizeOf_list_dec) => stepM "p:z5e p:go_ok p:z38 p:z66 i:i_t:trb_t i:i_f:trb_f"
theorem ze1 {t:List Nat} {p:Int} (h : Γ.ws[a]? = some (wd [115,105,103,110] t p)) (e : 2≤d:=by array_get_dec):C d 55 [Γ.me,.t (.str t)] (rs Γ a dp υ) (.t .none) (rs Γ (a + 1) dp υ):=by
 refine C.up (d:=2) ?_ e
 have q:truthV (.t (.bool (!isS (wd [115,105,103,110] t p) t)))=some false:=by
  rw [show isS (wd [115,105,103,110] t p) t=true from by show (decide ([115,105,103,110]=[115,105,103,110]) && decide (t=t))=_;rw [decide_eq_true rfl,decide_eq_true rfl];rfl]
  rfl
 apply c_of (ρ:=[_,_]) rfl rfl
 repeat sizeOf_list_dec
 (apply i_f;exact q)
 repeat sizeOf_list_dec
theorem z39 {m:Nat} (h:m < 50) (e : 1≤d:=by array_get_dec):C d 58 [Γ.me,.t (.int m)] (rs Γ a dp υ) (.t (.int (m + 1:Nat))) (rs Γ a dp υ):=by
 refine C.up (d:=1) ?_ e
 apply c_of (ρ:=[_,_]) rfl rfl
 repeat sizeOf_list_dec
 (apply i_f;exact tr_f (by omega))
 repeat sizeOf_list_dec
noncomputable def lvO (t:List Nat):Int:=match globT 11 with
 | some (.dict l)=>(dictAt l t).getD 0
 | _=>0
noncomputable def lvW (w:T):Int:=match w with
 | .node 9 [.str k,.str t,.int _]=>if k=[111,112,101,114,97,116,111,114] then lvO t else 0
 | _=>0
theorem zad {k t:List Nat} {p:Int} (h : Γ.ws[a]? = some (wd k t p)) (e : 2≤d:=by array_get_dec):C d 59 [Γ.me] (rs Γ a dp υ) (.t (.int (lvW (wd k t p)))) (rs Γ a dp υ):=by
 refine C.up (d:=2) ?_ e
 by_cases hk:k=[111,112,101,114,97,116,111,114]
 ·rw [show lvW (wd k t p)=lvO t from by show (if k=_ then lvO t else 0)=_;rw [if_pos hk]]
  subst hk
  apply c_of (ρ:=[_,.undef]) rfl rfl
  repeat sizeOf_list_dec
 ·rw [show lvW (wd k t p) = 0 from by show (if k=_ then lvO t else 0)=_;rw [if_neg hk]]
  apply c_of (ρ:=[_,.undef]) rfl rfl
  repeat sizeOf_list_dec
  (apply e_f;exact tr_f hk)
  repeat sizeOf_list_dec
end
end
section
local macro_rules | `(tactic| sizeOf_list_dec) => stepM ":g_at :z7w :z7x :s_at :s_up :zco :k_me m:ix_w :z1x :z81 :z80 :z5d :d_nil a:d_one :z7z m:z7y m:z3o :z0u p:z5e p:go_ok p:z38 p:z66 p:ze1 p:zad p:nw4:z0u p:nw5:z0u p:nw7:z0u i:i_t:trb_t i:i_f:trb_f i:z2f:trb_t i:z25:trb_f"
noncomputable def At (Γ:Rd) (a:Nat) (l:List T):Prop:=∃ r,Γ.ws.drop a=l++r
section
variable {Γ:Rd} {a:Nat} {l l':List T} {x:T}
theorem At.hd (h:At Γ a (x :: l)) : Γ.ws[a]? = some x:=by
 obtain ⟨r,h⟩:=h
 rw [← List.head?_drop,h];rfl
theorem At.tl (h:At Γ a (x :: l)):At Γ (a + 1) l:=by
 obtain ⟨r,h⟩:=h
 refine ⟨r,?_⟩
 rw [← List.drop_drop,h];rfl
theorem At.le (h:At Γ a (l++l')):At Γ a l:=by
 obtain ⟨r,h⟩:=h
 exact ⟨l'++r,by rw [h,List.append_assoc]⟩
theorem At.ri (h:At Γ a (l++l')):At Γ (a+l.length) l':=by
 obtain ⟨r,h⟩:=h
 refine ⟨r,?_⟩
 rw [← List.drop_drop,h,List.append_assoc,List.drop_left]
end
structure Fo (L:Nat) (w:T):Prop where
 wd:∃ k t p,w=wd k t p
 lev:lvW w≤L
 bar:L < 8→isO w [124]=false
 sl:L < 10→isO w [47]=false∧isO w [47,47]=false
 br:L < 11→isS w [91]=false
theorem Fo.mono {L M:Nat} {w:T} (h:Fo L w) (l:L≤M):Fo M w :=
 ⟨h.wd,by have:=h.lev;omega,fun k=>h.bar (by omega),fun k=>h.sl (by omega),fun k=>h.br (by omega)⟩
theorem isW_t {q t x:List Nat} {p:Int}:isW q (wd q t p) x=decide (t=x):=by
 show (decide (q=q) && decide (t=x))=_
 rw [decide_eq_true rfl];rfl
theorem z67 {q k t x:List Nat} {p:Int} (h:t≠x):isW q (wd k t p) x=false:=by
 show (decide (k=q) && decide (t=x))=_
 rw [decide_eq_false h,Bool.and_false]
theorem fo_op {t:List Nat} {p:Int} {L:Nat} (h:lvO t≤L) (h1:t≠[124] ∨ 8≤L) (h2:(t≠[47]∧t≠[47,47]) ∨ 10≤L):Fo L (wd [111,112,101,114,97,116,111,114] t p):=by
 refine ⟨⟨_,_,_,rfl⟩,h,fun l=>z67 (h1.resolve_right (by omega)),fun l=>?_,fun _=>rfl⟩
 have:=h2.resolve_right (by omega)
 exact ⟨z67 this.1,z67 this.2⟩
theorem z5f {t:List Nat} {p:Int} {L:Nat} (h:t≠[91] ∨ 11≤L):Fo L (wd [115,105,103,110] t p) :=
 ⟨⟨_,_,_,rfl⟩,by show (0:Int)≤L;omega,fun _=>rfl,fun _=>⟨rfl,rfl⟩,fun l=>z67 (h.resolve_right (by omega))⟩
theorem zgv {p:Int} {L:Nat}:Fo L (wd [101,110,100] [] p):=⟨⟨_,_,_,rfl⟩,by show (0:Int)≤L;omega,fun _=>rfl,fun _=>⟨rfl,rfl⟩,fun _=>rfl⟩
noncomputable def whC:S→X
 | .seq (.whl c _) _=>c
 | _=> .bad
noncomputable def whB:S→S
 | .seq (.whl _ b) _=>b
 | _=> .bad
noncomputable def nx:S→S
 | .seq _ b=>b
 | _=> .bad
noncomputable abbrev LS (d:Nat) (s:S) (ρ:List V) (σ:St) (r:RS):Prop:=LW d (whC s) (whB s) (nx s) ρ σ r
noncomputable def Hd (ws:List T):Prop:=∃ k t p r,ws=wd k t p :: r∧isO (wd k t p) [45]=false
noncomputable def PR (f n:Nat) (t:T) (ws:List T):Prop:=∀ Γ a dp υ,At Γ a ws→dp+n ≤ 50→C f 64 [Γ.me] (rs Γ a dp υ) (.t t) (rs Γ (a+ws.length) dp υ)
noncomputable def PT (f n:Nat) (F:T→Prop) (t:T) (ws:List T):Prop:=∀ Γ a dp υ w,At Γ a (ws++[w])→F w→dp+n ≤ 50→C f 62 [Γ.me] (rs Γ a dp υ) (.t t) (rs Γ (a+ws.length) dp υ)
noncomputable def UN (f n:Nat) (F:T→Prop) (t:T) (ws:List T):Prop:=∀ Γ a dp υ w,At Γ a (ws++[w])→F w→dp+n ≤ 50→∃ m:Nat,m≤n∧∀ r,LS f (nx b61) [Γ.me,.t t,.t (.int m)] (rs Γ (a+ws.length) dp υ) r→XS f b61 [Γ.me,.undef,.undef] (rs Γ a dp υ) r
noncomputable def UF (f n:Nat) (F:T→Prop) (t:T) (ws:List T):Prop:=∀ Γ a dp υ w,At Γ a (ws++[w])→F w→dp+n ≤ 50→C f 61 [Γ.me] (rs Γ a dp υ) (.t t) (rs Γ (a+ws.length) dp υ)
noncomputable def negs:Nat→T→T
 | 0,t=>t
 | n + 1,t=>negs n (.node 5 [t])
noncomputable def NG (f n:Nat) (F:T→Prop) (j:Nat) (t:T) (ws:List T):Prop:=∀ i,i+j ≤ 50→∀ Γ a dp υ w,At Γ a (ws++[w])→F w→dp+n ≤ 50→LS f (nx b60) [Γ.me,.t (.int (i:Nat)),.undef,.undef] (rs Γ a dp υ) (.ret (.t (negs i t)) (rs Γ (a+ws.length) dp υ))
noncomputable def NF (f n:Nat) (F:T→Prop) (t:T) (ws:List T):Prop:=∀ Γ a dp υ w,At Γ a (ws++[w])→F w→dp+n ≤ 50→C f 60 [Γ.me] (rs Γ a dp υ) (.t t) (rs Γ (a+ws.length) dp υ)
noncomputable def EX (f n lm:Nat) (F:T→Prop) (t:T) (ws:List T):Prop:=∀ ls:Nat,ls≤lm→∀ Γ a dp υ w,At Γ a (ws++[w])→F w→dp+n ≤ 50→∃ (m:Nat) (o:V),m + 1≤n∧∀ r,LS f (nx (nx (nx (nx b57)))) [Γ.me,.t (.int ls),.t t,.t (.int (lvW w)),.t (.int m),o] (rs Γ (a+ws.length) (dp + 1) υ) r→XS f (nx (nx b57)) [Γ.me,.t (.int ls),.undef,.undef,.undef,.undef] (rs Γ a (dp + 1) υ) r
noncomputable def EF (f n lm:Nat) (F:T→Prop) (t:T) (ws:List T):Prop:=∀ ls:Nat,ls≤lm→∀ Γ a dp υ w,At Γ a (ws++[w])→F w→lvW w < ls→dp+n ≤ 50→C f 57 [Γ.me,.t (.int ls)] (rs Γ a dp υ) (.t t) (rs Γ (a+ws.length) dp υ)
noncomputable def Clo (w:T):Prop:=∃ p,w=wd [101,110,100] [] p∨w=wd [115,105,103,110] [41] p∨w=wd [115,105,103,110] [93] p∨w=wd [115,105,103,110] [44] p
theorem Clo.fo {w:T} {L:Nat} (h:Clo w):Fo L w:=by
 obtain ⟨p,rfl | rfl | rfl | rfl⟩:=h
 ·exact zgv
 ·exact z5f (.inl (by decide))
 ·exact z5f (.inl (by decide))
 ·exact z5f (.inl (by decide))
noncomputable def E0 (f n:Nat) (t:T) (ws:List T):Prop:=∀ Γ a dp υ w,At Γ a (ws++[w])→Clo w→dp+n ≤ 50→C f 57 [Γ.me,.t (.int 1)] (rs Γ a dp υ) (.t t) (rs Γ (a+ws.length) dp υ)
section
variable {f n lm:Nat} {F:T→Prop} {t:T} {ws:List T}
theorem un_of (h:PT f n F t ws):UN f n F t ws:=by
 intro Γ a dp υ w hw fo hd
 refine ⟨0,Nat.zero_le _,fun r hr=>?_⟩
 have c:=h Γ a dp υ w hw fo hd
 apply z7t
 repeat (first | exact c | exact x_whl hr | sizeOf_list_dec)
theorem uf_of (h:UN f n F t ws) (l:∀ w,F w→Fo 7 w) (hf : 1≤f):UF (f + 1) n F t ws:=by
 intro Γ a dp υ w hw fo hd
 obtain ⟨m,hm,k⟩:=h Γ a dp υ w hw fo hd
 obtain ⟨kk,tt,pp,rfl⟩:=(l w fo).wd
 have h1:=hw.ri.hd
 have h2:=(l _ fo).bar (by decide)
 refine c_of (ρ:=[_,.undef,.undef]) rfl rfl (k (.ret (.t t) (rs Γ (a+ws.length) dp υ)) ?_) z1x
 apply lw_go
 repeat sizeOf_list_dec
theorem zgw {n1 n2:Nat} {tL tR:T} {wL wR:List T} {p:Int} (hL:UN f n1 (Fo 8) tL wL) (hR:PT f n2 (Fo 8) tR wR) (hf : 2≤f) (h1:n1 + 1≤n) (h2:n2≤n) (hn:n ≤ 50)   : UN f n (Fo 8) (.node 4 [.str [124],tL,tR]) (wL++wd [111,112,101,114,97,116,111,114] [124] p :: wR):=by
 intro Γ a dp υ w hw fo hd
 rw [List.append_assoc] at hw
 have hl:At Γ a (wL++[wd [111,112,101,114,97,116,111,114] [124] p]):=by
  have:wL++(wd [111,112,101,114,97,116,111,114] [124] p :: wR++[w])=(wL++[wd [111,112,101,114,97,116,111,114] [124] p])++(wR++[w]):=by simp
  rw [this] at hw;exact hw.le
 have hr:At Γ (a+wL.length + 1) (wR++[w]):=hw.ri.tl
 have h0:=hw.ri.hd
 obtain ⟨m,hm,k⟩:=hL Γ a dp υ _ hl (fo_op (by decide) (.inr (by decide)) (.inl (by decide))) (by omega)
 refine ⟨m + 1,by omega,fun r q=>k r ?_⟩
 have c:=hR Γ (a+wL.length + 1) dp υ w hr fo (by omega)
 have e:a+(wL++wd [111,112,101,114,97,116,111,114] [124] p :: wR).length=a+wL.length + 1+wR.length:=by simp;omega
 rw [e] at q
 apply lw_go
 repeat (first | exact c | exact z39 (by omega) | exact q | sizeOf_list_dec)
theorem FN.end {d i:Nat} {b:S} {ρ:List V} {σ:St}:FN d i b [] ρ σ (.next ρ σ):=z7u
theorem z68 {σ:St} {v me:V}:∀ (xs:List V) (t:T) (u:V),(∀ x∈xs,∃ k,x = .t k)→Lw σ→1≤f→∃ u',FN f 3 (.seq (.asg 2 (.new 5 (.cons (.var 2) .nil))) .nil) xs [me,v,.t t,u] σ (.next [me,v,.t (negs xs.length t),u'] σ)
 | [],t,u,_,_,_=>⟨u,z7u⟩
 | x :: xs,t,u,hx,lw,hf=>by
  obtain ⟨u',h⟩:=z68 (v:=v) (me:=me) xs (.node 5 [t]) x (fun y hy=>hx y (.tail _ hy)) lw hf
  refine ⟨u',z5c (ρ1:=[me,v,.t (.node 5 [t]),x]) (σ1:=σ) ?_ h⟩
  apply x_asg
  repeat (first | exact nw5 lw | sizeOf_list_dec)
theorem ng_of (h:UF f n F t ws) (hh:Hd ws) (hf : 2≤f):NG f n F 0 t ws:=by
 intro i hi Γ a dp υ w hw fo hd
 have c:=h Γ a dp υ w hw fo hd
 obtain ⟨k,tt,p,r,rfl,hm⟩:=hh
 have h0:=hw.hd
 obtain ⟨u',q⟩:=z68 (σ:=rs Γ (a+(wd k tt p :: r).length) dp υ) (me:=Γ.me) (f:=f) (v:= .t (.int (i:Nat))) ((List.range i).map fun k:Nat=> .t (.int (k:Int))) t .undef (fun x hx=>by
  obtain ⟨k,_,rfl⟩:=List.mem_map.mp hx;exact ⟨_,rfl⟩) z0u (by omega)
 rw [List.length_map,List.length_range] at q
 have e:numsV (.t (.int (i:Nat)))=some ((List.range i).map fun k:Nat=> .t (.int (k:Int))):=by
  show (if (0:Int)≤(i:Int)∧(i:Int) ≤ 1000 then _ else _)=_
  rw [if_pos (by omega)];rfl
 apply lw_go
 repeat sizeOf_list_dec
 (apply i_f;exact tr_f (by omega))
 repeat (first | exact c | sizeOf_list_dec)
 apply zgt (d_vt rfl) e q
 repeat sizeOf_list_dec
theorem zgx {j:Nat} {p:Int} (h:NG f n F j t ws) (hf : 2≤f):NG f n F (j + 1) (.node 5 [t]) (wd [111,112,101,114,97,116,111,114] [45] p :: ws):=by
 intro i hi Γ a dp υ w hw fo hd
 have h0:=hw.hd
 have q:=h (i + 1) (by omega) Γ (a + 1) dp υ w hw.tl fo hd
 have e:a+(wd [111,112,101,114,97,116,111,114] [45] p :: ws).length=a + 1+ws.length:=by simp;omega
 rw [e]
 apply lw_go
 repeat (first | exact q | sizeOf_list_dec)
theorem nf_of {j:Nat} (h:NG f n F j t ws) (hj:j ≤ 50):NF (f + 1) n F t ws:=by
 intro Γ a dp υ w hw fo hd
 have q:=h 0 (by omega) Γ a dp υ w hw fo hd
 refine c_of (ρ:=[_,.undef,.undef,.undef]) rfl rfl ?_ z1x
 apply x_asg d_c rfl
 exact x_whl q
theorem ex_of (h:NF f n F t ws) (l:∀ w,F w→Fo 7 w) (hf : 2≤f):EX f (n + 1) 50 F t ws:=by
 intro ls hl Γ a dp υ w hw fo hd
 refine ⟨0,.undef,by omega,fun r hr=>?_⟩
 have c:=h Γ a (dp + 1) υ w hw fo (by omega)
 obtain ⟨kk,tt,pp,rfl⟩:=(l w fo).wd
 have h1:=hw.ri.hd
 apply x_asg
 repeat (first | exact c | exact x_whl hr | sizeOf_list_dec)
theorem ef_of (h:EX f n lm F t ws) (hf : 2≤f) (hn : 1≤n):EF (f + 1) n lm F t ws:=by
 intro ls hl Γ a dp υ w hw fo lt hd
 obtain ⟨m,o,hm,k⟩:=h ls hl Γ a dp υ w hw fo hd
 have q:LS f (nx (nx (nx (nx b57)))) [Γ.me,.t (.int ls),.t t,.t (.int (lvW w)),.t (.int m),o] (rs Γ (a+ws.length) (dp + 1) υ) (.ret (.t t) (rs Γ (a+ws.length) dp υ)):=by
  apply lw_go
  repeat sizeOf_list_dec
  (apply z25;exact tr_f (by omega))
  repeat sizeOf_list_dec
 have z:XS f (nx b57) [Γ.me,.t (.int ls),.undef,.undef,.undef,.undef] (rs Γ a (dp + 1) υ) (.ret (.t t) (rs Γ (a+ws.length) dp υ)):=by
  apply x_if
  repeat sizeOf_list_dec
  (apply i_f;exact tr_f (by omega))
  exact z7s (k _ q)
 apply c_of (ρ:=[_,_,.undef,.undef,.undef,.undef]) rfl rfl
 repeat (first | exact z | sizeOf_list_dec)
theorem zgy {n1 n2 lm1 k l2 L L2:Nat} {tL tR:T} {wL wR:List T} {o:List Nat} {p:Int} (hL:EX f n1 lm1 (Fo L) tL wL) (hR:EF f n2 l2 (Fo L2) tR wR) (hk:lvO o=k) (k1 : 1≤k) (k6:k ≤ 6) (hl1:k≤lm1) (hL1:k≤L) (hl2:k + 1≤l2) (hL2:k≤L2) (b1:o≠[124]) (b2:o≠[47]) (b3:o≠[47,47]) (hf : 2≤f) (h1:n1 + 1≤n) (h2:n2 + 1≤n) (hn:n ≤ 50):EX f n k (Fo k) (.node 4 [.str o,tL,tR]) (wL++wd [111,112,101,114,97,116,111,114] o p :: wR):=by
 intro ls hls Γ a dp υ w hw fo hd
 rw [List.append_assoc] at hw
 have hl:At Γ a (wL++[wd [111,112,101,114,97,116,111,114] o p]):=by
  have:wL++(wd [111,112,101,114,97,116,111,114] o p :: wR++[w])=(wL++[wd [111,112,101,114,97,116,111,114] o p])++(wR++[w]):=by simp
  rw [this] at hw;exact hw.le
 have hr:At Γ (a+wL.length + 1) (wR++[w]):=hw.ri.tl
 have h0:=hw.ri.hd
 have hlv:lvW (wd [111,112,101,114,97,116,111,114] o p)=k:=hk
 obtain ⟨m,ov,hm,kk⟩:=hL ls (by omega) Γ a dp υ _ hl (fo_op (by omega) (.inl b1) (.inl ⟨b2,b3⟩)) (by omega)
 rw [hlv] at kk
 refine ⟨m + 1,.t (.str o),by omega,fun r q=>kk r ?_⟩
 have c:=hR (k + 1) hl2 Γ (a+wL.length + 1) (dp + 1) υ w hr (fo.mono hL2) (by have:=fo.lev;omega) (by omega)
 have e:a+(wL++wd [111,112,101,114,97,116,111,114] o p :: wR).length=a+wL.length + 1+wR.length:=by simp;omega
 rw [e] at q
 obtain ⟨kw,tt,pp,rfl⟩:=fo.wd
 have h3:=hr.ri.hd
 apply lw_go
 repeat sizeOf_list_dec
 (apply z2f;exact tr_t (by omega))
 repeat (first | exact c | exact z39 (by omega) | exact q | sizeOf_list_dec)
theorem e0_of (h:EF f n lm F t ws) (hl : 1≤lm) (l:∀ w,Clo w→F w):E0 f n t ws:=fun Γ a dp υ w hw cl hd=>
 h 1 hl Γ a dp υ w hw (l w cl) (by have:=(cl.fo (L:=0)).lev;show lvW w < 1;omega) hd
theorem zae {p1 p2:Int} (h:E0 f n t ws) (hf : 2≤f):PR (f + 1) n t (wd [115,105,103,110] [40] p1 :: (ws++[wd [115,105,103,110] [41] p2])):=by
 intro Γ a dp υ hw hd
 have h0:=hw.hd
 have h1:=hw.tl
 have h2:=h1.ri.hd
 have c:=h Γ (a + 1) dp υ _ h1 ⟨p2,.inr (.inl rfl)⟩ hd
 have e:a+(wd [115,105,103,110] [40] p1 :: (ws++[wd [115,105,103,110] [41] p2])).length=a + 1+ws.length + 1:=by simp;omega
 rw [e]
 apply c_of (ρ:=[_,.undef,.undef]) rfl rfl
 repeat (first | exact c | sizeOf_list_dec)
end
theorem tnb_t {b:Bool} (h:b=false):truthV (.t (.bool (!b)))=some true:=by rw [h];rfl
section
variable {Γ:Rd} {a dp d f n:Nat} {υ:List (List T)} {ws:List T}
theorem zji {s:List Nat} {σ:St} (lw:Lw σ) (e : 2≤d:=by array_get_dec):C d 48 [.t (.str s)] σ (.t (.node 8 [.str s,.tup [.str [110,111,100,101]],.tup []])) σ:=by
 refine C.up (d:=2) ?_ e
 apply c_of (ρ:=[_]) rfl rfl
 repeat (first | exact nw8 lw | sizeOf_list_dec)
 exact z00 rfl
theorem z82 {t:List Nat} {p:Int} (h : Γ.ws[a]? = some (wd [97,120,105,115] t p)) (e : 2≤d:=by array_get_dec):C d 66 [Γ.me] (rs Γ a dp υ) (.t (.bool true)) (rs Γ a dp υ):=by
 refine C.up (d:=2) ?_ e
 apply c_of (ρ:=[_,.undef]) rfl rfl
 repeat sizeOf_list_dec
theorem z83 {w:T} (h : Γ.ws[a]? = some w) (hc:Clo w) (e : 2≤d:=by array_get_dec):C d 66 [Γ.me] (rs Γ a dp υ) (.t (.bool false)) (rs Γ a dp υ):=by
 refine C.up (d:=2) ?_ e
 obtain ⟨p,rfl | rfl | rfl | rfl⟩:=hc
 ·apply c_of (ρ:=[_,.undef]) rfl rfl
  repeat sizeOf_list_dec
 ·apply c_of (ρ:=[_,.undef]) rfl rfl
  repeat sizeOf_list_dec
 ·apply c_of (ρ:=[_,.undef]) rfl rfl
  repeat sizeOf_list_dec
 ·apply c_of (ρ:=[_,.undef]) rfl rfl
  repeat sizeOf_list_dec
noncomputable def axT:T:=(globT 10).getD .none
theorem ze2 {x:List Nat} {p1 p2:Int} (h:At Γ a [wd [97,120,105,115] x p1,wd [115,105,103,110] [58,58] p2]) (hx:cmpT 9 (.str x) axT=some false) (e : 3≤d:=by array_get_dec):C d 69 [Γ.me] (rs Γ a dp υ) (.t (.str x)) (rs Γ (a + 2) dp υ):=by
 refine C.up (d:=3) ?_ e
 have h1:=h.hd
 have h2:=h.tl.hd
 apply c_of (ρ:=[_,.undef]) rfl rfl
 repeat (first | exact hx | sizeOf_list_dec)
noncomputable def TS (f:Nat) (t:T) (ws:List T):Prop:=∀ Γ a dp υ,At Γ a ws→C f 70 [Γ.me] (rs Γ a dp υ) (.t t) (rs Γ (a+ws.length) dp υ)
theorem z3p {s:List Nat} {t:T} {p:Int} (h:∀ σ,C 1 49 [.t (.str s)] σ (.t t) σ):TS 2 t [wd [110,97,109,101] s p]:=by
 intro Γ a dp υ hw
 have h1:=hw.hd
 have c:=h (rs Γ (a + 1) dp υ)
 apply c_of (ρ:=[_,.undef,.undef]) rfl rfl
 repeat (first | exact c | sizeOf_list_dec)
theorem z5g {s:List Nat} {p1 p2 p3:Int} (hs:s≠[112,114,111,99,101,115,115,105,110,103,45,105,110,115,116,114,117,99,116,105,111,110]):TS 3 (.tup [.str s]) [wd [107,105,110,100] s p1,wd [115,105,103,110] [40] p2,wd [115,105,103,110] [41] p3]:=by
 intro Γ a dp υ hw
 have h1:=hw.hd
 have h2:=hw.tl.hd
 have h3:=hw.tl.tl.hd
 apply c_of (ρ:=[_,.undef,.undef]) rfl rfl
 repeat (first | (apply l_no;exact tr_f hs) | (apply i_f;exact tr_f hs) | (apply e_f;exact tr_f hs) | sizeOf_list_dec)
theorem ts_pi {p1 p2 p3:Int}:TS 3 (.tup [.str [105,110,115,116,114,117,99,116,105,111,110],.none]) [wd [107,105,110,100] [112,114,111,99,101,115,115,105,110,103,45,105,110,115,116,114,117,99,116,105,111,110] p1,wd [115,105,103,110] [40] p2,wd [115,105,103,110] [41] p3]:=by
 intro Γ a dp υ hw
 have h1:=hw.hd
 have h2:=hw.tl.hd
 have h3:=hw.tl.tl.hd
 apply c_of (ρ:=[_,.undef,.undef]) rfl rfl
 repeat sizeOf_list_dec
theorem zgz {s:List Nat} {p1 p2 p3 p4:Int}:TS 3 (.tup [.str [105,110,115,116,114,117,99,116,105,111,110],.str s]) [wd [107,105,110,100] [112,114,111,99,101,115,115,105,110,103,45,105,110,115,116,114,117,99,116,105,111,110] p1,wd [115,105,103,110] [40] p2,wd [108,105,116,101,114,97,108] s p3,wd [115,105,103,110] [41] p4]:=by
 intro Γ a dp υ hw
 have h1:=hw.hd
 have h2:=hw.tl.hd
 have h3:=hw.tl.tl.hd
 have h4:=hw.tl.tl.tl.hd
 apply c_of (ρ:=[_,.undef,.undef]) rfl rfl
 repeat sizeOf_list_dec
inductive PL (f n:Nat):List T→List T→Prop
 | nil:PL f n [] []
 | cons {p:T} {wp ps ws:List T} {p1 p2:Int}:E0 f n p wp→PL f n ps ws→PL f n (p :: ps) (wd [115,105,103,110] [91] p1 :: (wp++wd [115,105,103,110] [93] p2 :: ws))
theorem ze3 (hf : 2≤f) {w:T} {k t:List Nat} {q:Int} (hq:w=wd k t q) (hb:isS w [91]=false) (hd:dp+n ≤ 50) {ps ws:List T} (h:PL f n ps ws):∀ {a:Nat} {acc:List T},At Γ a (ws++[w])→acc.length+ps.length < lineS →
  LS f (nx b71) [Γ.me,tl Γ υ] (rs Γ a dp (υ++[acc])) (.ret (.t (.tup (acc++ps))) (rs Γ (a+ws.length) dp (υ++[acc++ps]))):=by
 induction h with
 | nil=>
  intro a acc hw hl
  subst hq
  have h1:=hw.hd
  have l1:acc.length≤lineS:=by simp at hl;omega
  rw [List.append_nil]
  apply lw_go
  repeat sizeOf_list_dec
 | cons he h ih=>
  rename_i p wp ps ws p1 p2
  intro a acc hw hl
  have h1:At Γ a (wd [115,105,103,110] [91] p1 :: (wp++wd [115,105,103,110] [93] p2 :: (ws++[w]))):=by simpa using hw
  have h0:=h1.hd
  have h2:At Γ (a + 1) (wp++[wd [115,105,103,110] [93] p2]):=by
   have:=h1.tl
   rw [show wp++wd [115,105,103,110] [93] p2 :: (ws++[w])=(wp++[wd [115,105,103,110] [93] p2])++(ws++[w]) from by simp] at this
   exact this.le
  have h3:=h2.ri.hd
  have c:=he Γ (a + 1) dp (υ++[acc]) _ h2 ⟨p2,.inr (.inr (.inl rfl))⟩ hd
  have l1:acc.length < lineS:=by simp at hl;omega
  have ih:=ih (a:=a + 1+wp.length + 1) (acc:=acc++[p]) (h1.tl.ri.tl) (by simp at hl ⊢;omega)
  have e:a+(wd [115,105,103,110] [91] p1 :: (wp++wd [115,105,103,110] [93] p2 :: ws)).length=a + 1+wp.length + 1+ws.length:=by simp;omega
  rw [e]
  rw [List.append_assoc] at ih
  apply lw_go
  repeat (first | exact c | exact ih | sizeOf_list_dec)
theorem pd_ok {w:T} {ps:List T} (h:PL f n ps ws) (hf : 2≤f) (hw:At Γ a (ws++[w])) (fo:Fo 10 w) (hd:dp+n ≤ 50) (hl:ps.length < lineS):C (f + 1) 71 [Γ.me] (rs Γ a dp υ) (.t (.tup ps)) (rs Γ (a+ws.length) dp υ):=by
 obtain ⟨k,t,q,hq⟩:=fo.wd
 have ih:=ze3 (Γ:=Γ) (υ:=υ) hf hq (fo.br (by decide)) hd h (a:=a) (acc:=[]) hw (by simpa using hl)
 rw [List.nil_append] at ih
 apply c_of (ρ:=[_,.undef]) rfl rfl
 repeat (first | exact x_whl ih | sizeOf_list_dec)
inductive AL (f n:Nat):List T→List T→Prop
 | nil:AL f n [] []
 | cons {p:T} {wp ps ws:List T} {p1:Int}:E0 f n p wp→AL f n ps ws→AL f n (p :: ps) (wd [115,105,103,110] [44] p1 :: (wp++ws))
theorem al_fo {ps ws:List T} {p2:Int} (h:AL f n ps ws):∃ x r,ws++[wd [115,105,103,110] [41] p2]=x :: r∧Clo x:=by
 cases h with
 | nil=>exact ⟨_,_,rfl,_,.inr (.inl rfl)⟩
 | cons h1 h2=>exact ⟨_,_,rfl,_,.inr (.inr (.inr rfl))⟩
theorem ze4 (hf : 2≤f) {p2:Int} (hd:dp+n ≤ 50) {ps ws:List T} (h:AL f n ps ws):∀ {a:Nat} {acc:List T},At Γ a (ws++[wd [115,105,103,110] [41] p2])→acc.length+ps.length < lineS →
  LW f (.callM (.callM (.var 0) 8 .nil) 11 (.cons (.c (.str [44])) .nil)) (.seq (.expr (.callM (.var 0) 7 .nil)) (.seq (.expr (.smeth (.var 1) 5 (.cons (.callM (.var 0) 4 (.cons (.c (.int 1)) .nil)) .nil))) .nil)) (.seq .nil (nx (nx (nx b65)))) [Γ.me,tl Γ υ] (rs Γ a dp (υ++[acc])) (.ret (.t (.tup (acc++ps))) (rs Γ (a+ws.length + 1) dp (υ++[acc++ps]))):=by
 induction h with
 | nil=>
  intro a acc hw hl
  have h1:=hw.hd
  have l1:acc.length≤lineS:=by simp at hl;omega
  rw [List.append_nil]
  apply lw_go
  repeat sizeOf_list_dec
 | cons he h ih=>
  rename_i p wp ps ws p1
  intro a acc hw hl
  have h1:At Γ a (wd [115,105,103,110] [44] p1 :: (wp++(ws++[wd [115,105,103,110] [41] p2]))):=by simpa using hw
  have h0:=h1.hd
  obtain ⟨x,r,e1,e2⟩:=al_fo (p2:=p2) h
  have h2:At Γ (a + 1) (wp++[x]):=by
   have:=h1.tl
   rw [e1,show wp++x :: r=(wp++[x])++r from by simp] at this
   exact this.le
  have c:=he Γ (a + 1) dp (υ++[acc]) _ h2 e2 hd
  have l1:acc.length < lineS:=by simp at hl;omega
  have ih:=ih (a:=a + 1+wp.length) (acc:=acc++[p]) (h1.tl.ri) (by simp at hl ⊢;omega)
  have e:a+(wd [115,105,103,110] [44] p1 :: (wp++ws)).length + 1=a + 1+wp.length+ws.length + 1:=by simp;omega
  rw [e]
  rw [List.append_assoc] at ih
  apply lw_go
  repeat (first | exact c | exact ih | sizeOf_list_dec)
theorem args0 {p1 p2:Int} (h:At Γ a [wd [115,105,103,110] [40] p1,wd [115,105,103,110] [41] p2]) (e : 3≤d:=by array_get_dec):C d 65 [Γ.me] (rs Γ a dp υ) (.t (.tup [])) (rs Γ (a + 2) dp υ):=by
 refine C.up (d:=3) ?_ e
 have h1:=h.hd
 have h2:=h.tl.hd
 apply c_of (ρ:=[_,.undef]) rfl rfl
 repeat (first | exact z3o (by decide) | sizeOf_list_dec)
noncomputable def Opn (ws:List T):Prop:=∃ k t p r,ws=wd k t p :: r∧isS (wd k t p) [41]=false
theorem args1 {p:T} {wp ps:List T} {p1 p2:Int} (he:E0 f n p wp) (ho:Opn wp) (h:AL f n ps ws) (hf : 2≤f) (hw:At Γ a (wd [115,105,103,110] [40] p1 :: (wp++(ws++[wd [115,105,103,110] [41] p2])))) (hd:dp+n ≤ 50) (hl:ps.length + 1 < lineS) :
  C (f + 1) 65 [Γ.me] (rs Γ a dp υ) (.t (.tup (p :: ps))) (rs Γ (a + 1+wp.length+ws.length + 1) dp υ):=by
 have h0:=hw.hd
 obtain ⟨x,r,e1,e2⟩:=al_fo (p2:=p2) h
 have h2:At Γ (a + 1) (wp++[x]):=by
  have:=hw.tl
  rw [e1,show wp++x :: r=(wp++[x])++r from by simp] at this
  exact this.le
 have c:=he Γ (a + 1) dp (υ++[[]]) _ h2 e2 hd
 have ih:=ze4 (Γ:=Γ) (υ:=υ) hf hd h (a:=a + 1+wp.length) (acc:=[]++[p]) (hw.tl.ri) (by simp at hl ⊢;omega)
 obtain ⟨k1,t1,q1,r1,rfl,e4⟩:=ho
 have h3:=hw.tl.hd
 apply c_of (ρ:=[_,.undef]) rfl rfl
 repeat (first | exact c | exact ih | exact z7y (by decide) | (apply i_t;exact tnb_t e4) | sizeOf_list_dec)
end
local macro_rules | `(tactic| sizeOf_list_dec) => stepM "p:z82 p:nw8:z0u p:nw6:z0u p:nw3:z0u p:nw2:z0u p:nw1:z0u p:nw0:z0u"
section
variable {Γ:Rd} {a dp d f n L:Nat} {υ:List (List T)} {t:T} {ws:List T}
noncomputable def SP (f n:Nat) (t:T) (ws:List T):Prop:=∀ Γ a dp υ w,At Γ a (ws++[w])→Fo 10 w→dp+n ≤ 50→C f 68 [Γ.me] (rs Γ a dp υ) (.t t) (rs Γ (a+ws.length) dp υ)
theorem sp_of {x:List Nat} {p1 p2:Int} {te:T} {wt ps wp:List T} (hx:cmpT 9 (.str x) axT=some false) (ht:TS 3 te wt) (hp:PL f n ps wp) (hl:ps.length < lineS) (hf : 2≤f) :
  SP (f + 2) n (.node 8 [.str x,te,.tup ps]) (wd [97,120,105,115] x p1 :: wd [115,105,103,110] [58,58] p2 :: (wt++wp)):=by
 intro Γ a dp υ w hw fo hd
 have h1:=hw.hd
 have w2:At Γ a ([wd [97,120,105,115] x p1,wd [115,105,103,110] [58,58] p2]++(wt++(wp++[w]))):=by simpa using hw
 have c1:=ze2 (d:=f + 1) (dp:=dp) (υ:=υ) w2.le hx
 have w3:At Γ (a + 2) (wt++(wp++[w])):=w2.ri
 have c2:=(ht Γ (a + 2) dp υ w3.le).up (e:=f + 1)
 have c3:=pd_ok (dp:=dp) (υ:=υ) hp hf w3.ri fo hd hl
 have e:a+(wd [97,120,105,115] x p1 :: wd [115,105,103,110] [58,58] p2 :: (wt++wp)).length=a + 2+wt.length+wp.length:=by simp;omega
 rw [e]
 apply c_of (ρ:=[_,.undef,.undef]) rfl rfl
 repeat (first | exact c1 | exact c2 | exact c3 | sizeOf_list_dec)
inductive SL (f n:Nat):List T→List T→Prop
 | nil:SL f n [] []
 | cons {t:T} {wt ts ws:List T} {p:Int}:SP f n t wt→SL f n ts ws→SL f n (t :: ts) (wd [111,112,101,114,97,116,111,114] [47] p :: (wt++ws))
theorem sl_fo {ts ws:List T} {w:T} (h:SL f n ts ws) (fo:Fo 10 w):∃ x r,ws++[w]=x :: r∧Fo 10 x:=by
 cases h with
 | nil=>exact ⟨_,_,rfl,fo⟩
 | cons h1 h2=>exact ⟨_,_,rfl,fo_op (by decide) (.inl (by decide)) (.inr (by decide))⟩
theorem ze5 (hf : 2≤f) {w:T} (fo:Fo 9 w) (hd:dp+n ≤ 50) {ts ws:List T} (h:SL f n ts ws):∀ {a:Nat} {acc:List T},At Γ a (ws++[w])→acc.length+ts.length < lineS →
  LS f (nx b67) [Γ.me,tl Γ υ] (rs Γ a dp (υ++[acc])) (.ret (tl Γ υ) (rs Γ (a+ws.length) dp (υ++[acc++ts]))):=by
 induction h with
 | nil=>
  intro a acc hw hl
  obtain ⟨k,t,q,rfl⟩:=fo.wd
  have h1:=hw.hd
  have h2:=(fo.sl (by decide)).1
  have h3:=(fo.sl (by decide)).2
  rw [List.append_nil]
  apply lw_go
  repeat (first | (apply l_go;exact trb_f (by assumption)) | sizeOf_list_dec)
 | cons ht h ih=>
  rename_i t wt ts ws p
  intro a acc hw hl
  have h1:At Γ a (wd [111,112,101,114,97,116,111,114] [47] p :: (wt++(ws++[w]))):=by simpa using hw
  have h0:=h1.hd
  obtain ⟨x,r,e1,fx⟩:=sl_fo h (fo.mono (by decide))
  have h2:At Γ (a + 1) (wt++[x]):=by
   have:=h1.tl
   rw [e1,show wt++x :: r=(wt++[x])++r from by simp] at this
   exact this.le
  have c:=ht Γ (a + 1) dp (υ++[acc]) _ h2 fx hd
  have l1:acc.length < lineS:=by simp at hl;omega
  have ih:=ih (a:=a + 1+wt.length) (acc:=acc++[t]) (h1.tl.ri) (by simp at hl ⊢;omega)
  have e:a+(wd [111,112,101,114,97,116,111,114] [47] p :: (wt++ws)).length=a + 1+wt.length+ws.length:=by simp;omega
  rw [e]
  rw [List.append_assoc] at ih
  apply lw_go
  repeat (first | exact c | exact ih | sizeOf_list_dec)
noncomputable def SS (f n:Nat) (ts:List T) (ws:List T):Prop:=∀ Γ a dp υ w,At Γ a (ws++[w])→Fo 9 w→dp+n ≤ 50→C f 67 [Γ.me] (rs Γ a dp υ) (tl Γ υ) (rs Γ (a+ws.length) dp (υ++[ts]))
theorem ss_of {wt ts ws:List T} (ht:SP f n t wt) (h:SL f n ts ws) (hf : 2≤f) (hl:ts.length + 1 < lineS):SS (f + 1) n (t :: ts) (wt++ws):=by
 intro Γ a dp υ w hw fo hd
 rw [List.append_assoc] at hw
 obtain ⟨x,r,e1,fx⟩:=sl_fo h (fo.mono (by decide))
 have h2:At Γ a (wt++[x]):=by
  rw [e1,show wt++x :: r=(wt++[x])++r from by simp] at hw
  exact hw.le
 have c:=ht Γ a dp υ _ h2 fx hd
 have ih:=ze5 (Γ:=Γ) (υ:=υ) hf fo hd h (a:=a+wt.length) (acc:=[t]) hw.ri (by simp at hl ⊢;omega)
 rw [List.length_append,← Nat.add_assoc]
 apply c_of (ρ:=[_,.undef]) rfl rfl
 repeat (first | exact c | exact x_whl ih | exact z5d (l:=t :: ts) | sizeOf_list_dec)
theorem zh0 {x:List Nat} {p:Int} {ts r:List T} (h:SS f n ts (wd [97,120,105,115] x p :: r)) (hf : 2≤f) (hl:ts.length≤lineS):PT (f + 1) n (Fo 9) (.node 7 [.none,.tup ts]) (wd [97,120,105,115] x p :: r):=by
 intro Γ a dp υ w hw fo hd
 have c:=h Γ a dp υ w hw fo hd
 have h1:=hw.hd
 apply c_of (ρ:=[_,.undef]) rfl rfl
 repeat (first | exact c | sizeOf_list_dec)
theorem ze6 {x:List Nat} {p q:Int} {ts r:List T} (h:SS f n ts (wd [97,120,105,115] x p :: r)) (hf : 2≤f) (hl:ts.length≤lineS):PT (f + 1) n (Fo 9) (.node 7 [.str [114,111,111,116],.tup ts]) (wd [111,112,101,114,97,116,111,114] [47] q :: wd [97,120,105,115] x p :: r):=by
 intro Γ a dp υ w hw fo hd
 have c:=h Γ (a + 1) dp υ w hw.tl fo hd
 have h1:=hw.hd
 have h2:=hw.tl.hd
 have e:a+(wd [111,112,101,114,97,116,111,114] [47] q :: wd [97,120,105,115] x p :: r).length=a + 1+(wd [97,120,105,115] x p :: r).length:=by simp;omega
 rw [e]
 apply c_of (ρ:=[_,.undef]) rfl rfl
 repeat (first | exact c | sizeOf_list_dec)
theorem zaf {q:Int}:PT 4 n Clo (.node 7 [.str [114,111,111,116],.tup []]) [wd [111,112,101,114,97,116,111,114] [47] q]:=by
 intro Γ a dp υ w hw cl _
 have h1:=hw.hd
 have h2:=hw.tl.hd
 have c:=z83 (dp:=dp) (υ:=υ) (d:=3) h2 cl
 apply c_of (ρ:=[_,.undef]) rfl rfl
 repeat (first | exact c | sizeOf_list_dec)
noncomputable def FI (f n:Nat) (t:T) (ws:List T):Prop:=∀ Γ a dp υ w,At Γ a (ws++[w])→Fo 10 w→dp+n ≤ 50→∃ v,∀ r,XS f (nx (nx (nx b63))) [Γ.me,.t t,v] (rs Γ (a+ws.length) dp υ) r→XS f b63 [Γ.me,.undef,.undef] (rs Γ a dp υ) r
theorem fi_pr (h:PR f n t ws) (hf : 3≤f):FI f n t ws:=by
 intro Γ a dp υ w hw fo hd
 refine ⟨.t (.tup []),fun r hr=>?_⟩
 have c:=h Γ a dp υ hw.le hd
 have c2:=(pd_ok (dp:=dp) (υ:=υ) (f:=2) .nil (by decide) (show At Γ (a+ws.length) ([]++[w]) from hw.ri) fo hd (by decide)).up (e:=f)
 apply x_asg
 repeat (first | exact c | exact c2 | exact hr | sizeOf_list_dec)
theorem z84 {ps wp:List T} {q:T} (h:PR f n t ws) (hp:PL (f - 1) n (q :: ps) wp) (hl:(q :: ps).length < lineS) (hf : 3≤f):FI f n (.node 6 [t,.tup (q :: ps)]) (ws++wp):=by
 intro Γ a dp υ w hw fo hd
 rw [List.append_assoc] at hw
 refine ⟨.t (.tup (q :: ps)),fun r hr=>?_⟩
 rw [List.length_append,← Nat.add_assoc] at hr
 have c:=h Γ a dp υ hw.le hd
 have c2:=(pd_ok (dp:=dp) (υ:=υ) hp (by omega) hw.ri fo hd hl).up (e:=f)
 apply x_asg
 repeat (first | exact c | exact c2 | exact hr | sizeOf_list_dec)
noncomputable def Pri (ws:List T):Prop:=∃ k t p r,ws=wd k t p :: r∧((k≠[111,112,101,114,97,116,111,114]∧cmpT 9 (.str k) ((globT 12).getD .none)=some false)∨(k=[115,105,103,110]∧t=[40]))
theorem z85 {k t x:List Nat} {p:Int} (h:k≠[111,112,101,114,97,116,111,114]):isO (wd k t p) x=false:=by
 show (decide (k=_) && decide (t=x))=_
 rw [decide_eq_false h];rfl
theorem zcp (hp:Pri ws) (c:∀ Γ a dp υ w,At Γ a (ws++[w])→Fo 9 w→dp+n ≤ 50→C f 63 [Γ.me] (rs Γ a dp υ) (.t t) (rs Γ (a+ws.length) dp υ)) (hf : 2≤f):PT (f + 1) n (Fo 9) t ws:=by
 intro Γ a dp υ w hw fo hd
 have c:=c Γ a dp υ w hw fo hd
 obtain ⟨k,x,p,r,rfl,⟨h1,h2⟩ | ⟨rfl,rfl⟩⟩:=hp
 ·have h0:=hw.hd
  have o1:=z85 (t:=x) (x:=[47]) (p:=p) h1
  have o2:=z85 (t:=x) (x:=[47,47]) (p:=p) h1
  apply c_of (ρ:=[_,.undef]) rfl rfl
  repeat (first | exact c | exact h2 | sizeOf_list_dec)
 ·have h0:=hw.hd
  apply c_of (ρ:=[_,.undef]) rfl rfl
  repeat (first | exact c | sizeOf_list_dec)
theorem pt_fi (hp:Pri ws) (h:FI f n t ws) (hf : 3≤f):PT (f + 2) n (Fo 9) t ws:=by
 refine zcp hp (fun Γ a dp υ w hw fo hd=>?_) (by omega)
 obtain ⟨v,k⟩:=h Γ a dp υ w hw (fo.mono (by decide)) hd
 have q:XS f (nx (nx (nx b63))) [Γ.me,.t t,v] (rs Γ (a+ws.length) dp υ) (.ret (.t t) (rs Γ (a+ws.length) dp υ)):=by
  obtain ⟨k,t,q,rfl⟩:=fo.wd
  have h1:=hw.ri.hd
  have h2:=(fo.sl (by decide)).1
  have h3:=(fo.sl (by decide)).2
  apply x_if
  repeat sizeOf_list_dec
 exact c_of (ρ:=[_,.undef,.undef]) rfl rfl (k _ q) z1x
theorem ze7 {p:Int} {ts wt:List T} (hp:Pri ws) (h:FI f n t ws) (hs:SS f n ts wt) (hf : 3≤f) (hl:ts.length≤lineS):PT (f + 2) n (Fo 9) (.node 7 [t,.tup ts]) (ws++wd [111,112,101,114,97,116,111,114] [47] p :: wt):=by
 refine zcp (by obtain ⟨k,x,q,r,rfl,h1⟩:=hp;exact ⟨k,x,q,_,rfl,h1⟩) (fun Γ a dp υ w hw fo hd=>?_) (by omega)
 rw [List.append_assoc] at hw
 have w1:At Γ a (ws++[wd [111,112,101,114,97,116,111,114] [47] p]):=by
  rw [show ws++(wd [111,112,101,114,97,116,111,114] [47] p :: wt++[w])=(ws++[wd [111,112,101,114,97,116,111,114] [47] p])++(wt++[w]) from by simp] at hw
  exact hw.le
 have h1:=w1.ri.hd
 obtain ⟨v,k⟩:=h Γ a dp υ _ w1 (fo_op (by decide) (.inl (by decide)) (.inr (by decide))) hd
 have c:=hs Γ (a+ws.length + 1) dp υ w hw.ri.tl fo hd
 have e:a+(ws++wd [111,112,101,114,97,116,111,114] [47] p :: wt).length=a+ws.length + 1+wt.length:=by simp;omega
 rw [e]
 have q:XS f (nx (nx (nx b63))) [Γ.me,.t t,v] (rs Γ (a+ws.length) dp υ) (.ret (.t (.node 7 [t,.tup ts])) (rs Γ (a+ws.length + 1+wt.length) dp (υ++[ts]))):=by
  apply x_if
  repeat (first | exact c | sizeOf_list_dec)
 exact c_of (ρ:=[_,.undef,.undef]) rfl rfl (k _ q) z80
theorem zh1 {s:List Nat} {p:Int}:PR 2 n (.node 0 [.str s]) [wd [108,105,116,101,114,97,108] s p]:=by
 intro Γ a dp υ hw hd
 have h1:=hw.hd
 apply c_of (ρ:=[_,.undef,.undef]) rfl rfl
 repeat sizeOf_list_dec
theorem zcq {s:List Nat} {p:Int}:PR 2 n (.node 2 [.str s]) [wd [118,97,114,105,97,98,108,101] s p]:=by
 intro Γ a dp υ hw hd
 have h1:=hw.hd
 apply c_of (ρ:=[_,.undef,.undef]) rfl rfl
 repeat sizeOf_list_dec
theorem zcr {s:List Nat} {p:Int} (h:∀ σ,C d 50 [.t (.str s)] σ (.t t) σ) (e : 1≤d):PR (d + 1) n (.node 1 [t]) [wd [110,117,109,98,101,114] s p]:=by
 intro Γ a dp υ hw hd
 have h1:=hw.hd
 have c:=h (rs Γ (a + 1) dp υ)
 apply c_of (ρ:=[_,.undef,.undef]) rfl rfl
 repeat (first | exact c | sizeOf_list_dec)
theorem zag {s:List Nat} {p p1 p2:Int}:PR 4 n (.node 3 [.str s,.tup []]) [wd [102,117,110,99,116,105,111,110] s p,wd [115,105,103,110] [40] p1,wd [115,105,103,110] [41] p2]:=by
 intro Γ a dp υ hw hd
 have h1:=hw.hd
 have c:=args0 (dp:=dp) (υ:=υ) (d:=3) hw.tl
 apply c_of (ρ:=[_,.undef,.undef]) rfl rfl
 repeat (first | exact c | sizeOf_list_dec)
theorem ze8 {s:List Nat} {q:T} {wp ps:List T} {p p1 p2:Int} (he:E0 f n q wp) (ho:Opn wp) (h:AL f n ps ws) (hf : 2≤f) (hl:ps.length + 1 < lineS):PR (f + 2) n (.node 3 [.str s,.tup (q :: ps)]) (wd [102,117,110,99,116,105,111,110] s p :: wd [115,105,103,110] [40] p1 :: (wp++(ws++[wd [115,105,103,110] [41] p2]))):=by
 intro Γ a dp υ hw hd
 have h1:=hw.hd
 have c:=args1 (dp:=dp) (υ:=υ) he ho h hf hw.tl hd hl
 have e:a+(wd [102,117,110,99,116,105,111,110] s p :: wd [115,105,103,110] [40] p1 :: (wp++(ws++[wd [115,105,103,110] [41] p2]))).length=a + 1 + 1+wp.length+ws.length + 1:=by simp;omega
 rw [e]
 apply c_of (ρ:=[_,.undef,.undef]) rfl rfl
 repeat (first | exact c | sizeOf_list_dec)
end
end
section
set_option genInjectivity false in
structure Sn where
 pre:St
 tx:List Nat
 low:Lw pre
noncomputable def ss (Γ:Sn) (a:Nat) (fo:List T) (υ:List (List T)):St:=Γ.pre ++ .inst 10 [.t (.str Γ.tx),.t (.int a),.ref (Γ.pre.length + 1)] :: .list (fo.map V.t) :: tmp υ
noncomputable abbrev Sn.me (Γ:Sn):V:= .ref Γ.pre.length
noncomputable def Rem (Γ:Sn) (a:Nat) (u:List Nat):Prop:=Γ.tx.drop a=u∧a ≤ Γ.tx.length
noncomputable def hd1:List Nat→List Nat
 | []=>[]
 | c :: _=>[c]
section
variable {Γ:Sn} {a b d f n:Nat} {fo:List T} {υ υ':List (List T)} {u s:List Nat} {c:Nat}
theorem Rem.tl (h:Rem Γ a (c :: u)):Rem Γ (a + 1) u:=by
 refine ⟨by rw [← List.drop_drop,h.1];rfl,?_⟩
 have:=congrArg List.length h.1
 simp at this;omega
theorem Rem.ri (h:Rem Γ a (s++u)):Rem Γ (a+s.length) u:=by
 refine ⟨by rw [← List.drop_drop,h.1,List.drop_left],?_⟩
 have h1:=congrArg List.length h.1
 have h2:=h.2
 rw [List.length_drop,List.length_append] at h1;omega
theorem Rem.lt (h:Rem Γ a (c :: u)):a < Γ.tx.length:=by
 have:=congrArg List.length h.1
 simp at this;omega
theorem Rem.end (h:Rem Γ a []):a = Γ.tx.length:=by
 have h1:=congrArg List.length h.1
 have h2:=h.2
 rw [List.length_drop,List.length_nil] at h1;omega
theorem Rem.at (h:Rem Γ a (c :: u)) : Γ.tx[a]? = some c:=by rw [← List.head?_drop,h.1];rfl
theorem z13:(ss Γ a fo υ).length = Γ.pre.length + 2 + υ.length:=by simp [ss,tmp];omega
theorem z69:Lw (ss Γ a fo υ):=by
 have h:lowAll (ss Γ a fo υ).length (.inst 10 [.t (.str Γ.tx),.t (.int a),.ref (Γ.pre.length + 1)] :: .list (fo.map V.t) :: tmp υ)=true:=by
  show ([V.t (.str Γ.tx),.t (.int a),.ref (Γ.pre.length + 1)].all (V.low _) && ((fo.map V.t).all (V.low _) && lowAll _ (tmp υ)))=true
  rw [z7v,low_t]
  simp [V.low,z13]
  omega
 unfold Lw
 conv=>lhs;arg 2;unfold ss
 rw [z1w,h,z1l (by rw [z13];omega) Γ.low]
 rfl
theorem ss_me:(ss Γ a fo υ)[Γ.pre.length]? = some (.inst 10 [.t (.str Γ.tx),.t (.int a),.ref (Γ.pre.length + 1)]):=by unfold ss;exact z1m
theorem z3q:ss Γ a fo υ=(Γ.pre++[.inst 10 [.t (.str Γ.tx),.t (.int a),.ref (Γ.pre.length + 1)]]) ++ .list (fo.map V.t) :: tmp υ:=by simp [ss]
theorem at_i {σ τ:St} {o:MO} (h : σ.length=n):(σ++o :: τ)[n]? = some o:=by subst h;exact z1m
theorem set_i {σ τ:St} {o o':MO} (h : σ.length=n):(σ++o :: τ).set n o' = σ++o' :: τ:=by subst h;exact z0h
theorem ss_fo:(ss Γ a fo υ)[Γ.pre.length + 1]? = some (.list (fo.map V.t)):=by
 rw [z3q];exact at_i (by simp)
theorem z86:getA (ss Γ a fo υ) Γ.me 14=some (.t (.str Γ.tx)):=by unfold getA;simp only [ss_me];rfl
theorem h_at:getA (ss Γ a fo υ) Γ.me 16=some (.t (.int a)):=by unfold getA;simp only [ss_me];rfl
theorem z5h:getA (ss Γ a fo υ) Γ.me 17=some (.ref (Γ.pre.length + 1)):=by unfold getA;simp only [ss_me];rfl
theorem h_set:setA (ss Γ a fo υ) Γ.me 16 (.t (.int (b:Nat)))=some (ss Γ b fo υ):=by
 unfold setA;simp only [ss_me]
 show some ((ss Γ a fo υ).set _ (.inst 10 [.t (.str Γ.tx),.t (.int (b:Nat)),.ref (Γ.pre.length + 1)]))=_
 unfold ss;rw [z0h]
theorem zcs:setA (ss Γ a fo υ) Γ.me 16 (.t (.int ((b:Int) + 1)))=some (ss Γ (b + 1) fo υ):=h_set (b:=b + 1)
theorem z3a:setA (ss Γ a fo υ) Γ.me 16 (.t (.int ((b:Int)+(n:Int))))=some (ss Γ (b+n) fo υ):=by
 rw [show (b:Int)+(n:Int)=((b+n:Nat):Int) from by omega];exact h_set
theorem h_cls:clsOf (ss Γ a fo υ) Γ.me=some 10:=by unfold clsOf;simp only [ss_me]
theorem h_len {σ:St}:bltV σ 0 [.t (.str s)]=some (.int s.length):=rfl
theorem h_idx {σ:St} (h:Rem Γ a (c :: u)):idxV σ (.t (.str Γ.tx)) (.t (.int a))=some (.t (.str [c])):=by
 show ((if 0≤(a:Int) then ((Γ.tx[(a:Int).toNat]?).map fun c=>T.str [c]) else Option.none).map V.t)=_
 rw [if_pos (by omega),show (a:Int).toNat=a from rfl,h.at];rfl
theorem h_add {x:T} (h:fo.length < lineS):smethV (ss Γ a fo υ) (.ref (Γ.pre.length + 1)) 5 [.t x] = .ok (.t .none) (ss Γ a (fo++[x]) υ):=by
 show (match (ss Γ a fo υ)[Γ.pre.length + 1]? with
  | some (.list l)=>if l.length < lineS then R.ok (V.t .none) ((ss Γ a fo υ).set (Γ.pre.length + 1) (.list (l++[V.t x]))) else .bot
  | _=> .bot)=_
 rw [ss_fo]
 show (if (fo.map V.t).length < lineS then _ else _)=_
 rw [if_pos (by simpa using h),z3q,z3q,set_i (by simp)]
 simp
theorem zct:smFits (ss Γ a fo υ) (.ref (Γ.pre.length + 1)) 5=true:=by
 show (match (ss Γ a fo υ)[Γ.pre.length + 1]? with
  | some (.list _)=>true
  | _=>false)=_
 rw [ss_fo]
theorem zcu {ρ:List V}:D d (.lst .nil) ρ (ss Γ a fo []) (.ref (Γ.pre.length + 2)) (ss Γ a fo [[]]):=by
 have:=d_lst (d:=d) (a:= .nil) (ρ:=ρ) (σ:=ss Γ a fo []) z0n (by decide)
 rw [z13] at this
 have e:ss Γ a fo []++[.list []]=ss Γ a fo [[]]:=by simp [ss,tmp]
 rw [e] at this
 exact this
theorem z6a {a':Nat} {fo':List T} {ρ:List V}:finR (ss Γ a fo υ).length (.next ρ (ss Γ a' fo' υ))=some (.t .none,ss Γ a' fo' υ):=z1e (by simp only [z13])
theorem z87 {a':Nat} {fo':List T} {x:T}:finR (ss Γ a fo υ).length (.ret (.t x) (ss Γ a' fo' υ))=some (.t x,ss Γ a' fo' υ):=z00 (by simp only [z13])
theorem z88 {a':Nat} {fo':List T} {x:T}:finR (ss Γ a fo []).length (.ret (.t x) (ss Γ a' fo' υ'))=some (.t x,ss Γ a' fo' []):=by
 have e:ss Γ a' fo' υ'=ss Γ a' fo' []++tmp υ':=by simp [ss,tmp]
 rw [e]
 refine fin_t (by simp only [z13]) ?_
 have:=z69 (Γ:=Γ) (a:=a') (fo:=fo') (υ:=[])
 unfold Lw at this
 rw [z13] at this ⊢
 exact this
end
local macro_rules | `(tactic| sizeOf_list_dec) => stepM ":z86 :h_at :z5h :zcs :h_set :z3a :h_cls m:h_add :zct m:h_idx :h_len :z6a :z87 :z88 p:nw9:z69 :zcu"
section
variable {Γ:Sn} {a b d f n:Nat} {fo:List T} {u s:List Nat} {c:Nat}
theorem zcv {k:Nat} (h:Rem Γ (a+k) u) (e : 1≤d:=by array_get_dec):C d 33 [Γ.me,.t (.int k)] (ss Γ a fo []) (.t (.str (hd1 u))) (ss Γ a fo []):=by
 refine C.up (d:=1) ?_ e
 cases u with
 | nil=>
  have:=h.end
  apply c_of (ρ:=[_,_,.undef]) rfl rfl
  repeat sizeOf_list_dec
  (apply e_f;exact tr_f (by omega))
  repeat sizeOf_list_dec
 | cons c u=>
  have:=h.lt
  have q:idxV (ss Γ a fo []) (.t (.str Γ.tx)) (.t (.int ((a:Int)+(k:Int))))=some (.t (.str [c])):=by
   rw [show (a:Int)+(k:Int)=((a+k:Nat):Int) from by omega];exact h_idx h
  apply c_of (ρ:=[_,_,.undef]) rfl rfl
  repeat sizeOf_list_dec
  (apply e_t;exact tr_t (by omega))
  repeat (first | exact q | sizeOf_list_dec)
theorem C.dfl {f k np ns:Nat} {x:T} {v:V} {b:S} {vs:List V} {σ σ':St} (hf:fnT f=some ⟨np,[x],ns,b⟩) (hl:vs.length + 1=np) (h:C d f (vs++[.t x]) σ v σ'):C d f vs σ v σ':=by
 have e:layArgs ⟨np,[x],ns,b⟩ vs=layArgs ⟨np,[x],ns,b⟩ (vs++[.t x]):=by
  subst hl
  simp [layArgs]
 obtain ⟨k,h⟩:=h
 refine ⟨k,fun n W hn hW=>?_⟩
 rw [← h n W hn hW]
 cases n with
 | zero=>rfl
 | succ n=>
  have hf':PG.fn f=some ⟨np,[x],ns,b⟩:=hf
  show (match PG.fn f with | Option.none=>_ | some fd=>_:R V)=(match PG.fn f with | Option.none=>_ | some fd=>_:R V)
  rw [hf']
  show (match layArgs _ vs with | Option.none=>_ | some ρ=>_:R V)=(match layArgs _ (vs++[.t x]) with | Option.none=>_ | some ρ=>_:R V)
  rw [e]
theorem sign0 (h:Rem Γ a u) (e : 1≤d:=by array_get_dec):C d 33 [Γ.me] (ss Γ a fo []) (.t (.str (hd1 u))) (ss Γ a fo []) :=
 C.dfl (f:=33) (k:=0) rfl rfl (zcv (k:=0) h e)
theorem sign1 (h:Rem Γ a (c :: u)) (e : 1≤d:=by array_get_dec):C d 33 [Γ.me,.t (.int 1)] (ss Γ a fo []) (.t (.str (hd1 u))) (ss Γ a fo []):=zcv (k:=1) h.tl e
theorem zcw {k t:List Nat} {p:Int} (h:fo.length < lineS) (e : 2≤d:=by array_get_dec):C d 34 [Γ.me,.t (.str k),.t (.str t),.t (.int p)] (ss Γ a fo []) (.t .none) (ss Γ a (fo++[wd k t p]) []):=by
 refine C.up (d:=2) ?_ e
 apply c_of (ρ:=[_,_,_,_]) rfl rfl
 repeat sizeOf_list_dec
end
end
section
local macro_rules | `(tactic| sizeOf_list_dec) => stepM ":z86 :h_at :z5h :zcs :h_set :z3a :h_cls m:h_add :zct m:h_idx :h_len :z6a :z87 :z88 p:nw9:z69 :zcu p:sign0 p:sign1 p:zcw i:i_t:trb_t i:i_f:trb_f i:z2f:trb_t i:z25:trb_f"
section
variable {Γ:Sn} {a b d f n:Nat} {fo:List T} {u s:List Nat} {c:Nat} {σ:St}
noncomputable def spB (c:Nat):Bool:=[32,9,10,13].contains c
noncomputable def nsp:List Nat→Nat
 | []=>0
 | c :: u=>if spB c then nsp u + 1 else 0
theorem z2h (e : 1≤d:=by array_get_dec):C d 24 [.t (.str [c])] σ (.t (.bool (spB c))) σ:=by
 refine C.up (d:=1) ?_ e
 cases h:spB c with
 | true=>
  apply c_of (ρ:=[_]) rfl rfl
  ·apply x_ret
   apply d_and
   ·repeat sizeOf_list_dec
   ·(apply l_go;exact trb_t h)
    repeat sizeOf_list_dec
  ·exact z00 rfl
 | false=>
  apply c_of (ρ:=[_]) rfl rfl
  ·apply x_ret
   apply d_and
   ·repeat sizeOf_list_dec
   ·(apply l_no;exact trb_f h)
  ·show finR _ (.ret (.t (.bool (spB c))) σ)=_
   rw [h]
   exact z00 rfl
theorem z47:∀ {u:List Nat} {a:Nat},Rem Γ a u→LS 1 b36 [Γ.me] (ss Γ a fo []) (.next [Γ.me] (ss Γ (a+nsp u) fo []))
 | [],a,h=>by
  have:=h.end
  apply lw_go
  ·apply d_and
   ·repeat sizeOf_list_dec
   ·(apply l_no;exact tr_f (by omega))
  (apply z25;exact tr_f (by omega))
  repeat sizeOf_list_dec
 | c :: u,a,h=>by
  have:=h.lt
  cases hc:spB c with
  | true=>
   have ih:=z47 h.tl
   have e:a+nsp (c :: u)=a + 1+nsp u:=by simp [nsp,hc];omega
   rw [e]
   apply lw_go
   ·apply d_and
    ·repeat sizeOf_list_dec
    ·(apply l_go;exact tr_t (by omega))
     repeat (first | exact z2h | sizeOf_list_dec)
   (apply z2f;exact trb_t hc)
   repeat (first | exact ih | sizeOf_list_dec)
  | false=>
   have e:a+nsp (c :: u)=a:=by simp [nsp,hc]
   rw [e]
   apply lw_go
   ·apply d_and
    ·repeat sizeOf_list_dec
    ·(apply l_go;exact tr_t (by omega))
     repeat (first | exact z2h | sizeOf_list_dec)
   (apply z25;exact trb_f hc)
   repeat sizeOf_list_dec
theorem z2i (h:Rem Γ a u) (e : 2≤d:=by array_get_dec):C d 36 [Γ.me] (ss Γ a fo []) (.t .none) (ss Γ (a+nsp u) fo []):=by
 refine C.up (d:=2) ?_ e
 exact c_of (ρ:=[_]) rfl rfl (x_whl (z47 h)) z6a
theorem le_s {x:Nat}:cmpV σ 3 (.t (.str [x])) (.t (.str [c]))=some (decide (x≤c)):=by
 show some (decide ([x]≤[c]))=_
 congr 1
 rw [decide_eq_decide]
 simp [List.cons_le_cons_iff]
 omega
theorem eq_s {x:Nat}:cmpV σ 0 (.t (.str [x])) (.t (.str [c]))=some (decide (x=c)):=by
 show some (decide ([x]=[c]))=_
 congr 1
 rw [decide_eq_decide]
 simp
theorem le_t {x:Nat} (h:x≤c):cmpV σ 3 (.t (.str [x])) (.t (.str [c]))=some true:=by rw [le_s,decide_eq_true h]
theorem le_f {x:Nat} (h:¬ x≤c):cmpV σ 3 (.t (.str [x])) (.t (.str [c]))=some false:=by rw [le_s,decide_eq_false h]
theorem eq_f {x:Nat} (h:c≠x):cmpV σ 0 (.t (.str [c])) (.t (.str [x]))=some false:=by rw [eq_s,decide_eq_false h]
theorem eq_t (s:List Nat):cmpV σ 0 (.t (.str s)) (.t (.str s))=some true:=by show some (decide (s=s))=_;rw [decide_eq_true rfl]
theorem ze9 (h1 : 97≤c) (h2:c ≤ 122) (e : 1≤d:=by array_get_dec):C d 25 [.t (.str [c])] σ (.t (.bool true)) σ :=
 C.up (d:=1) (c_of (ρ:=[_]) rfl rfl (x_ret (z5a d_c (d_vt rfl) (le_t h1) d_c (le_t h2))) (z00 rfl)) e
theorem z89 (h:c < 97) (e : 1≤d:=by array_get_dec):C d 25 [.t (.str [c])] σ (.t (.bool false)) σ :=
 C.up (d:=1) (c_of (ρ:=[_]) rfl rfl (x_ret (z5b d_c (d_vt rfl) (le_f (by omega)))) (z00 rfl)) e
theorem z6b (h:c < 128):truthV (.t (.bool (decide ((c:Int) < 128))))=some true:=tr_t (by omega)
theorem ns_t (h1 : 97≤c) (h2:c ≤ 122) (e : 2≤d:=by array_get_dec):C d 26 [.t (.str [c])] σ (.t (.bool true)) σ:=by
 refine C.up (d:=2) ?_ e
 apply c_of (ρ:=[_]) rfl rfl
 repeat (first | exact ze9 h1 h2 | (apply i_t;exact z6b (by omega)) | sizeOf_list_dec)
 exact z00 rfl
noncomputable def stL:List Nat:=[32,40,41,44,47,91,93]
theorem zah:∀ c∈stL,c < 128∧c < 97∧c ≠ 58∧c ≠ 95∧c ≠ 45∧c ≠ 46∧(¬ 65≤c∨(65≤c∧¬ c ≤ 90))∧(¬ 48≤c∨(48≤c∧¬ c ≤ 57)):=by decide
theorem z2j {a b:Nat} {ρ:List V} (h0 : ρ[0]? = some (.t (.str [c]))) (h:¬ a≤c∨(a≤c∧¬ c≤b)):D d (.cmp2 (.c (.str [a])) (.var 0) (.c (.str [b]))) ρ σ (.t (.bool false)) σ :=
 h.elim (fun h=>z5b d_c (d_vt h0) (le_f h)) fun h=>z5a d_c (d_vt h0) (le_t h.1) d_c (le_f h.2)
theorem ns_f (h1:c < 128) (h2:c < 97) (h3:c ≠ 58) (h4:c ≠ 95) (h5:¬ 65≤c∨(65≤c∧¬ c ≤ 90)) (e : 2≤d:=by decide):C d 26 [.t (.str [c])] σ (.t (.bool false)) σ:=by
 refine C.up (d:=2) ?_ e
 have q:D 1 (.cmp2 (.c (.str [65])) (.var 0) (.c (.str [90]))) [.t (.str [c])] σ (.t (.bool false)) σ:=z2j rfl h5
 apply c_of (ρ:=[_]) rfl rfl
 repeat (first | exact q | exact z89 h2 | exact eq_f h4 | exact eq_f h3 | (apply i_t;exact z6b h1) | sizeOf_list_dec)
 exact z00 rfl
noncomputable def nmP (c:Nat):Prop:=(97≤c∧c ≤ 122)∨c = 45
noncomputable def stP (c:Nat):Prop:=c∈stL
theorem nc_t (h:nmP c) (e : 3≤d:=by array_get_dec):C d 27 [.t (.str [c])] σ (.t (.bool true)) σ:=by
 refine C.up (d:=3) ?_ e
 rcases h with ⟨h1,h2⟩ | rfl
 ·apply c_of (ρ:=[_]) rfl rfl
  repeat (first | exact ns_t h1 h2 | sizeOf_list_dec)
  exact z00 rfl
 ·apply c_of (ρ:=[_]) rfl rfl
  repeat (first | exact ns_f (by decide) (by decide) (by decide) (by decide) (.inl (by decide)) | (apply z5b;exact d_c;exact d_vt rfl;exact le_f (by decide)) | sizeOf_list_dec)
  exact z00 rfl
theorem nc_f (h:stP c) (e : 3≤d:=by decide):C d 27 [.t (.str [c])] σ (.t (.bool false)) σ:=by
 refine C.up (d:=3) ?_ e
 obtain ⟨h1,h2,h3,h4,h5,h6,h7,h8⟩:=zah c h
 have q:D 2 (.cmp2 (.c (.str [48])) (.var 0) (.c (.str [57]))) [.t (.str [c])] σ (.t (.bool false)) σ:=z2j rfl h8
 have q2:=ns_f (σ:=σ) (d:=2) h1 h2 h3 h4 h7
 apply c_of (ρ:=[_]) rfl rfl
 repeat (first | exact q | exact q2 | exact eq_f h5 | exact eq_f h6 | (apply i_t;exact z6b h1) | sizeOf_list_dec)
 exact z00 rfl
noncomputable def Stop (u:List Nat):Prop:=∀ c v,u=c :: v→stP c∨c = 58
theorem z48 {v:V}:∀ {cs:List Nat} {u:List Nat} {a:Nat},(∀ c∈cs,nmP c)→Stop u→Rem Γ a (cs++u)→∀ {r:RS},XS 3 (nx (nx (nx b43))) [Γ.me,v] (ss Γ (a+cs.length) fo []) r→LS 3 (nx (nx b43)) [Γ.me,v] (ss Γ a fo []) r
 | [],[],a,_,_,h,r,hr=>by
  have h:Rem Γ a []:=h
  apply lw_go
  repeat (first | exact hr | sizeOf_list_dec)
 | [],c :: u,a,_,hs,h,r,hr=>by
  have h:Rem Γ a (c :: u):=h
  by_cases k:c = 58
  ·subst k
   apply lw_go
   repeat (first | exact hr | sizeOf_list_dec)
  ·have:=nc_f (σ:=ss Γ a fo []) (d:=3) ((hs c u rfl).resolve_right k)
   have k':¬ ([c]=[58]):=by simpa using k
   apply lw_go
   repeat (first | exact hr | exact this | (apply l_go;exact tn_t k') | sizeOf_list_dec)
 | c :: cs,u,a,hc,hs,h,r,hr=>by
  have h:Rem Γ a (c :: (cs++u)):=h
  have hc1:=hc c (.head _)
  have k:c ≠ 58:=by unfold nmP at hc1;omega
  have:=nc_t (σ:=ss Γ a fo []) (d:=3) hc1
  have k':¬ ([c]=[58]):=by simpa using k
  have ih:=z48 (v:=v) (fun x hx=>hc x (.tail _ hx)) hs h.tl (r:=r) (by rwa [show a + 1+cs.length=a+(c :: cs).length from by simp;omega])
  apply lw_go
  repeat (first | exact ih | exact this | (apply l_go;exact tn_t k') | sizeOf_list_dec)
theorem z29 (h:Rem Γ a (s++u)):sliceT (.str Γ.tx) (.int a) (.int ((a+s.length:Nat):Int))=some (.str s):=by
 have h1:=congrArg List.length h.1
 rw [List.length_drop,List.length_append] at h1
 have h2:=h.2
 show (if (0:Int)≤a∧(a:Int)≤((a+s.length:Nat):Int)∧((a+s.length:Nat):Int)≤(Γ.tx.length:Int) then some (T.str ((Γ.tx.take ((a+s.length:Nat):Int).toNat).drop (a:Int).toNat)) else Option.none)=_
 rw [if_pos (by omega)]
 have e1:((a+s.length:Nat):Int).toNat=a+s.length:=by omega
 have e2:(a:Int).toNat=a:=by omega
 rw [e1,e2,List.drop_take,h.1]
 simp
theorem zai {cs:List Nat} (hc : 97≤c∧c ≤ 122) (hcs:∀ x∈cs,nmP x) (hs:Stop u) (h:Rem Γ a (c :: cs++u)) (e : 4≤d:=by array_get_dec):C d 43 [Γ.me] (ss Γ a fo []) (.t (.str (c :: cs))) (ss Γ (a+(c :: cs).length) fo []):=by
 refine C.up (d:=4) ?_ e
 have h1:Rem Γ a (c :: (cs++u)):=h
 have k':¬ ([c]=[58]):=by simp;omega
 have hn:=ns_t (σ:=ss Γ a fo []) (d:=3) hc.1 hc.2
 have sl:=z29 h
 have lp:=z48 (fo:=fo) (v:= .t (.int a)) (cs:=c :: cs) (fun x hx=>by cases hx with | head=>exact .inl hc | tail _ hx=>exact hcs x hx) hs h (r:= .ret (.t (.str (c :: cs))) (ss Γ (a+(c :: cs).length) fo [])) (by
  apply x_ret
  repeat (first | exact sl | sizeOf_list_dec))
 apply c_of (ρ:=[_,.undef]) rfl rfl
 repeat (first | exact x_whl lp | exact hn | (apply l_go;exact tr_f k') | sizeOf_list_dec)
end
section
variable {Γ:Sn} {a b d f n:Nat} {fo:List T} {u s:List Nat} {c:Nat} {σ:St}
noncomputable def Nm (s:List Nat):Prop:=∃ c cs,s=c :: cs ∧ 97≤c∧c ≤ 122∧∀ x∈cs,nmP x
theorem z1n (hn:Nm s) (hs:Stop u) (h:Rem Γ a (s++u)) (e : 4≤d:=by array_get_dec):C d 43 [Γ.me] (ss Γ a fo []) (.t (.str s)) (ss Γ (a+s.length) fo []):=by
 obtain ⟨c,cs,rfl,h1,h2,h3⟩:=hn
 exact zai ⟨h1,h2⟩ h3 hs h e
theorem nm_ne (hn:Nm s):s≠[]:=by obtain ⟨c,cs,rfl,_⟩:=hn;exact List.cons_ne_nil _ _
theorem hd_ne {x:Nat} (h:∀ v,u≠x :: v):¬ (hd1 u=[x]):=by
 cases u with
 | nil=>exact fun q=>nomatch q
 | cons c v=>intro q;injection q with q;subst q;exact h v rfl
theorem z2a (hn:Nm s) (hs:Stop u) (hq:(∀ v,u ≠ 58 :: v)∨∃ v,u = 58 :: 58 :: v) (h:Rem Γ a (s++u)) (e : 5≤d:=by array_get_dec):C d 44 [Γ.me] (ss Γ a fo []) (.t (.str s)) (ss Γ (a+s.length) fo []):=by
 refine C.up (d:=5) ?_ e
 have c1:=z1n (d:=4) (fo:=fo) hn hs h
 have n1:=nm_ne hn
 have r1:=h.ri
 rcases hq with hq | ⟨v,rfl⟩
 ·have q:=hd_ne hq
  apply c_of (ρ:=[_,.undef,.undef]) rfl rfl
  repeat (first | exact c1 | (apply l_go;exact tr_f n1) | (apply l_no;exact tn_t q) | sizeOf_list_dec)
  (apply i_t;exact tn_t q)
  repeat sizeOf_list_dec
 ·apply c_of (ρ:=[_,.undef,.undef]) rfl rfl
  repeat (first | exact c1 | (apply l_go;exact tr_f n1) | sizeOf_list_dec)
theorem z3r {s2:List Nat} (hn:Nm s) (hn2:Nm s2) (hs:Stop u) (hl:s.length+s2.length + 1≤lineS) (h:Rem Γ a (s ++ 58 :: (s2++u))) (e : 5≤d:=by array_get_dec):C d 44 [Γ.me] (ss Γ a fo []) (.t (.str (s++[58]++s2))) (ss Γ (a+(s++[58]++s2).length) fo []):=by
 refine C.up (d:=5) ?_ e
 have c1:=z1n (d:=4) (fo:=fo) hn (fun c v q=>by injection q with q;exact .inr q.symm) h
 have n1:=nm_ne hn
 have n2:=nm_ne hn2
 have r1:=h.ri
 have c2:=z1n (d:=4) (fo:=fo) hn2 hs r1.tl
 have e2:a+(s++[58]++s2).length=a+s.length + 1+s2.length:=by simp;omega
 have q1:¬ (hd1 (s2++u)=[58]):=by obtain ⟨c,cs,rfl,h1,h2,h3⟩:=hn2;show ¬ ([c]=[58]);simp;omega
 have q2:¬ (hd1 (s2++u)=[42]):=by obtain ⟨c,cs,rfl,h1,h2,h3⟩:=hn2;show ¬ ([c]=[42]);simp;omega
 have b1:binT 0 (.str s) (.str [58])=some (.str (s++[58])):=if_pos (by show s.length + 1≤lineS;omega)
 have b2:binT 0 (.str (s++[58])) (.str s2)=some (.str (s++[58]++s2)):=if_pos (by simp;omega)
 have r2:=r1.tl
 rw [e2]
 apply c_of (ρ:=[_,.undef,.undef]) rfl rfl
 repeat (first | exact c1 | exact c2 | exact b1 | exact b2 | (apply l_go;exact tr_f n1) | (apply i_f;exact tr_f q1) | (apply i_f;exact tr_f q2) | (apply i_f;exact tr_f n2) | sizeOf_list_dec)
theorem zaj (hn:Nm s) (hl:s.length + 2≤lineS) (h:Rem Γ a (s ++ 58 :: 42 :: u)) (e : 5≤d:=by array_get_dec):C d 44 [Γ.me] (ss Γ a fo []) (.t (.str (s++[58,42]))) (ss Γ (a+(s++[58,42]).length) fo []):=by
 refine C.up (d:=5) ?_ e
 have c1:=z1n (d:=4) (fo:=fo) hn (fun c v q=>by injection q with q;exact .inr q.symm) h
 have n1:=nm_ne hn
 have r1:=h.ri
 have r2:=r1.tl
 have e2:a+(s++[58,42]).length=a+s.length + 1 + 1:=by simp;omega
 have b1:binT 0 (.str s) (.str [58,42])=some (.str (s++[58,42])):=if_pos (by show s.length + 2≤lineS;omega)
 rw [e2]
 apply c_of (ρ:=[_,.undef,.undef]) rfl rfl
 repeat (first | exact c1 | exact b1 | (apply l_go;exact tr_f n1) | sizeOf_list_dec)
noncomputable def bnT:T:=(globT 8).getD .none
noncomputable def NB (w:T):Prop:=∃ t p,w=wd [111,112,101,114,97,116,111,114] t p∨(w=wd [115,105,103,110] t p∧cmpT 8 (.str t) bnT=some true)
noncomputable def YB (w:T):Prop:=∃ k t p,w=wd k t p∧k≠[111,112,101,114,97,116,111,114]∧(k≠[115,105,103,110]∨(k=[115,105,103,110]∧cmpT 8 (.str t) bnT=some false))
noncomputable def NotB (fo:List T):Prop:=fo=[]∨∃ l w,fo=l++[w]∧NB w
noncomputable def IsB (fo:List T):Prop:=∃ l w,fo=l++[w]∧YB w
theorem NotB.app {l:List T} {w:T} (h:NB w):NotB (l++[w]):= .inr ⟨_,_,rfl,h⟩
theorem IsB.app {l:List T} {w:T} (h:YB w):IsB (l++[w]):=⟨_,_,rfl,h⟩
theorem nb_op {t:List Nat} {p:Int}:NB (wd [111,112,101,114,97,116,111,114] t p):=⟨_,_,.inl rfl⟩
theorem nb_sg {t:List Nat} {p:Int} (h:cmpT 8 (.str t) bnT=some true):NB (wd [115,105,103,110] t p):=⟨_,_,.inr ⟨rfl,h⟩⟩
theorem yb_sg {t:List Nat} {p:Int} (h:cmpT 8 (.str t) bnT=some false):YB (wd [115,105,103,110] t p):=⟨_,_,_,rfl,by decide,.inr ⟨rfl,h⟩⟩
theorem yb_k {k t:List Nat} {p:Int} (h:k≠[111,112,101,114,97,116,111,114]) (h':k≠[115,105,103,110]):YB (wd k t p):=⟨_,_,_,rfl,h,.inl h'⟩
theorem z2k:cmpV (ss Γ a fo [[]]) 0 (.ref (Γ.pre.length + 1)) (.ref (Γ.pre.length + 2))=some (fo.map V.t).isEmpty:=by
 have e:(ss Γ a fo [[]])[Γ.pre.length + 2]? = some (.list []):=by
  rw [show ss Γ a fo [[]]=ss Γ a fo []++MO.list [] :: [] from by simp [ss,tmp]]
  exact at_i (by rw [z13];rfl)
 unfold cmpV
 simp only [ss_fo,e,if_true]
theorem z2b {w:T}:idxV (ss Γ a (fo++[w]) [[]]) (.ref (Γ.pre.length + 1)) (.t (.int (-1)))=some (.t w):=by
 unfold idxV
 simp only [ss_fo]
 rw [if_neg (by decide),if_pos trivial]
 simp
theorem isb_f (h:NotB fo) (e : 1≤d:=by array_get_dec):C d 37 [Γ.me] (ss Γ a fo []) (.t (.bool false)) (ss Γ a fo []):=by
 refine C.up (d:=1) ?_ e
 rcases h with rfl | ⟨l,w,rfl,t,p,rfl | ⟨rfl,h⟩⟩
 ·apply c_of (ρ:=[_,.undef]) rfl rfl
  repeat (first | exact z2k | sizeOf_list_dec)
 ·have q:truthV (.t (.bool ((l++[wd [111,112,101,114,97,116,111,114] t p]).map V.t).isEmpty))=some false:=trb_f (by simp)
  apply c_of (ρ:=[_,.undef]) rfl rfl
  repeat (first | exact z2k | exact z2b | (apply i_f;exact q) | sizeOf_list_dec)
 ·have q:truthV (.t (.bool ((l++[wd [115,105,103,110] t p]).map V.t).isEmpty))=some false:=trb_f (by simp)
  apply c_of (ρ:=[_,.undef]) rfl rfl
  repeat (first | exact z2k | exact z2b | exact h | (apply i_f;exact q) | sizeOf_list_dec)
theorem isb_t (h:IsB fo) (e : 1≤d:=by array_get_dec):C d 37 [Γ.me] (ss Γ a fo []) (.t (.bool true)) (ss Γ a fo []):=by
 refine C.up (d:=1) ?_ e
 obtain ⟨l,w,rfl,k,t,p,rfl,hk,h | ⟨rfl,h⟩⟩:=h
 ·have q:truthV (.t (.bool ((l++[wd k t p]).map V.t).isEmpty))=some false:=trb_f (by simp)
  apply c_of (ρ:=[_,.undef]) rfl rfl
  repeat (first | exact z2k | exact z2b | (apply i_f;exact q) | (apply i_f;exact tr_f hk) | (apply l_no;exact tr_f h) | exact tr_f h | sizeOf_list_dec)
 ·have q:truthV (.t (.bool ((l++[wd [115,105,103,110] t p]).map V.t).isEmpty))=some false:=trb_f (by simp)
  apply c_of (ρ:=[_,.undef]) rfl rfl
  repeat (first | exact z2k | exact z2b | exact h | (apply i_f;exact q) | sizeOf_list_dec)
end
section
variable {Γ:Sn} {a b d f n:Nat} {fo:List T} {u s:List Nat} {c:Nat} {σ:St}
theorem Rem.sk:∀ {u:List Nat} {a:Nat},Rem Γ a u→Rem Γ (a+nsp u) (u.drop (nsp u))
 | [],a,h=>h
 | c :: u,a,h=>by
  cases hc:spB c with
  | true=>
   have e:nsp (c :: u)=nsp u + 1:=by simp [nsp,hc]
   rw [e,show a+(nsp u + 1)=a + 1+nsp u from by omega]
   exact h.tl.sk
  | false=>
   have e:nsp (c :: u) = 0:=by simp [nsp,hc]
   rw [e];exact h
theorem zjd (h:s.getLast? ≠ some 42):truthV (.t (.bool (decide (s.getLast? = some 42))))=some false:=tr_f h
theorem z6c {b:Bool} (hB:NotB fo) (c1:C 5 44 [Γ.me] (ss Γ a fo []) (.t (.str s)) (ss Γ (a+s.length) fo [])) (h:Rem Γ (a+s.length) (40 :: u)) (hs:s.getLast? ≠ some 42) (hk:cmpT 8 (.str s) ((globT 7).getD .none)=some b) (l:fo.length < lineS) :
  C 6 45 [Γ.me] (ss Γ a fo []) (.t .none) (ss Γ (a+s.length) (fo++[wd (if b then [107,105,110,100] else [102,117,110,99,116,105,111,110]) s a]) []):=by
 have c0:=isb_f (Γ:=Γ) (a:=a) (d:=5) hB
 have c2:=z2i (fo:=fo) (d:=5) h
 rw [show nsp (40 :: u) = 0 from rfl,Nat.add_zero] at c2
 have q:truthV (.t (.bool (!decide (s.getLast? = some 42))))=some true:=tn_t hs
 cases b
 ·apply c_of (ρ:=[_,.undef,.undef,.undef]) rfl rfl
  repeat (first | exact c0 | exact c1 | exact c2 | exact hk | (apply i_t;exact q) | sizeOf_list_dec)
 ·apply c_of (ρ:=[_,.undef,.undef,.undef]) rfl rfl
  repeat (first | exact c0 | exact c1 | exact c2 | exact hk | (apply i_t;exact q) | sizeOf_list_dec)
theorem z8a (hB:NotB fo) (c1:C 5 44 [Γ.me] (ss Γ a fo []) (.t (.str s)) (ss Γ (a+s.length) fo [])) (h:Rem Γ (a+s.length) (58 :: 58 :: u)) (l:fo.length < lineS) :
  C 6 45 [Γ.me] (ss Γ a fo []) (.t .none) (ss Γ (a+s.length) (fo++[wd [97,120,105,115] s a]) []):=by
 have c0:=isb_f (Γ:=Γ) (a:=a) (d:=5) hB
 have c2:=z2i (fo:=fo) (d:=5) h
 rw [show nsp (58 :: 58 :: u) = 0 from rfl,Nat.add_zero] at c2
 apply c_of (ρ:=[_,.undef,.undef,.undef]) rfl rfl
 repeat (first | exact c0 | exact c1 | exact c2 | sizeOf_list_dec)
theorem z2l (hB:NotB fo) (c1:C 5 44 [Γ.me] (ss Γ a fo []) (.t (.str s)) (ss Γ (a+s.length) fo [])) (h:Rem Γ (a+s.length) u) (h1:¬ (hd1 (u.drop (nsp u))=[40])) (h2:¬ (hd1 (u.drop (nsp u))=[58])) (l:fo.length < lineS) :
  C 6 45 [Γ.me] (ss Γ a fo []) (.t .none) (ss Γ (a+s.length) (fo++[wd [110,97,109,101] s a]) []):=by
 have c0:=isb_f (Γ:=Γ) (a:=a) (d:=5) hB
 have c2:=z2i (fo:=fo) (d:=5) h
 have r:=h.sk
 apply c_of (ρ:=[_,.undef,.undef,.undef]) rfl rfl
 repeat (first | exact c0 | exact c1 | exact c2 | (apply l_no;exact tr_f h1) | (apply l_no;exact tr_f h2) | (apply i_f;exact tr_f h1) | (apply i_f;exact tr_f h2) | sizeOf_list_dec)
theorem zea (hB:IsB fo) (hn:Nm s) (hs:Stop u) (h:Rem Γ a (s++u)) (hk:cmpT 9 (.str s) ((globT 6).getD .none)=some false) (l:fo.length < lineS) :
  C 6 45 [Γ.me] (ss Γ a fo []) (.t .none) (ss Γ (a+s.length) (fo++[wd [111,112,101,114,97,116,111,114] s a]) []):=by
 have c0:=isb_t (Γ:=Γ) (a:=a) (d:=5) hB
 have c1:=z1n (fo:=fo) (d:=5) hn hs h
 apply c_of (ρ:=[_,.undef,.undef,.undef]) rfl rfl
 repeat (first | exact c0 | exact c1 | exact hk | sizeOf_list_dec)
noncomputable def fgB (c:Nat):Bool:=[48,49,50,51,52,53,54,55,56,57].contains c
theorem in_fg:cmpV σ 8 (.t (.str [c])) (.t (.str [48,49,50,51,52,53,54,55,56,57]))=some (fgB c):=rfl
noncomputable def NoF (u:List Nat):Prop:=∀ c v,u=c :: v→fgB c=false
theorem z49:∀ {s:List Nat} {a:Nat},(∀ c∈s,fgB c=true)→NoF u→Rem Γ a (s++u)→LS 2 b40 [Γ.me] (ss Γ a fo []) (.next [Γ.me] (ss Γ (a+s.length) fo []))
 | [],a,_,hu,h=>by
  cases u with
  | nil=>
   have h:Rem Γ a []:=h
   apply lw_go
   repeat sizeOf_list_dec
  | cons c u=>
   have h:Rem Γ a (c :: u):=h
   have q:=hu c u rfl
   apply lw_go
   repeat (first | exact in_fg | (apply z25;exact trb_f q) | sizeOf_list_dec)
 | c :: s,a,hc,hu,h=>by
  have h:Rem Γ a (c :: (s++u)):=h
  have q:=hc c (.head _)
  have ih:=z49 (fun x hx=>hc x (.tail _ hx)) hu h.tl
  rw [show a+(c :: s).length=a + 1+s.length from by simp;omega]
  apply lw_go
  repeat (first | exact in_fg | exact ih | (apply z2f;exact trb_t q) | sizeOf_list_dec)
theorem z5i (hs:∀ c∈s,fgB c=true) (hu:NoF u) (h:Rem Γ a (s++u)) (e : 3≤d:=by array_get_dec):C d 40 [Γ.me] (ss Γ a fo []) (.t .none) (ss Γ (a+s.length) fo []):=by
 refine C.up (d:=3) ?_ e
 exact c_of (ρ:=[_]) rfl rfl (x_whl (z49 hs hu h)) z6a
theorem zeb (hs:∀ c∈s,fgB c=true) (hu:NoF u) (hp:¬ (hd1 u=[46])) (h:Rem Γ a (s++u)) (l:fo.length < lineS):C 6 39 [Γ.me] (ss Γ a fo []) (.t .none) (ss Γ (a+s.length) (fo++[wd [110,117,109,98,101,114] s a]) []):=by
 have c1:=z5i (fo:=fo) (d:=5) hs hu h
 have sl:=z29 h
 have r:=h.ri
 apply c_of (ρ:=[_,.undef]) rfl rfl
 repeat (first | exact c1 | exact sl | (apply l_no;exact tr_f hp) | (apply i_f;exact tr_f hp) | sizeOf_list_dec)
theorem zec {s2:List Nat} (hs:∀ c∈s,fgB c=true) (hs2:∀ c∈s2,fgB c=true) (hu:NoF u) (hp:¬ (hd1 (s2++u)=[46])) (h:Rem Γ a (s ++ 46 :: (s2++u))) (l:fo.length < lineS):C 6 39 [Γ.me] (ss Γ a fo []) (.t .none) (ss Γ (a+(s ++ 46 :: s2).length) (fo++[wd [110,117,109,98,101,114] (s ++ 46 :: s2) a]) []):=by
 have c1:=z5i (fo:=fo) (d:=5) hs (u:=46 :: (s2++u)) (fun c v q=>by injection q with q;subst q;rfl) h
 have r:=h.ri
 have c2:=z5i (fo:=fo) (d:=5) hs2 hu r.tl
 have e:a+(s ++ 46 :: s2).length=a+s.length + 1+s2.length:=by simp;omega
 have sl:=z29 (s:=s ++ 46 :: s2) (u:=u) (by simpa using h)
 rw [e] at sl ⊢
 apply c_of (ρ:=[_,.undef]) rfl rfl
 repeat (first | exact c1 | exact c2 | exact sl | (apply i_t;exact tn_t hp) | sizeOf_list_dec)
theorem zcx:∀ {l:List Nat} {c:Nat} {t u:List Nat} {i k:Nat},c∉t→k≤i→l.drop (i - k)=t++c :: u→posFrom c l i k=(i+t.length:Nat)
 | [],c,t,u,i,k,_,_,h=>by simp at h
 | x :: l,c,t,u,i,k,hc,hk,h=>by
  unfold posFrom
  by_cases e:i=k
  ·subst e
   rw [Nat.sub_self,List.drop_zero] at h
   cases t with
   | nil=>
    injection h with h1 h2
    rw [if_pos ⟨Nat.le_refl _,h1⟩];rfl
   | cons y t=>
    injection h with h1 h2
    subst h1
    rw [if_neg (fun q=>hc (by rw [q.2];exact .head _))]
    have:=pos_next (c:=c) (l:=l) (t:=t) (u:=u) (i:=i) (k:=i + 1) (fun q=>hc (.tail _ q)) (by omega) h2
    rw [this];simp;omega
  ·rw [if_neg (fun q=>e (by omega))]
   rw [show i - k=(i - (k + 1)) + 1 from by omega] at h
   exact zcx (u:=u) hc (by omega) h
where pos_next:∀ {l:List Nat} {c:Nat} {t u:List Nat} {i k:Nat},c∉t→i≤k→l=t++c :: u→posFrom c l i k=(k+t.length:Nat)
 | [],c,t,u,i,k,_,_,h=>by simp at h
 | x :: l,c,[],u,i,k,_,hk,h=>by
  injection h with h1 h2
  unfold posFrom
  rw [if_pos ⟨hk,h1⟩];rfl
 | x :: l,c,y :: t,u,i,k,hc,hk,h=>by
  injection h with h1 h2
  subst h1
  unfold posFrom
  rw [if_neg (fun q=>hc (by rw [q.2];exact .head _))]
  rw [pos_next (fun q=>hc (.tail _ q)) (by omega) h2]
  simp;omega
theorem zh2 (hc:c∉s) (h:Rem Γ a (c :: (s++c :: u))) (l:fo.length < lineS):C 6 41 [Γ.me,.t (.str [c])] (ss Γ a fo []) (.t .none) (ss Γ (a+s.length + 2) (fo++[wd [108,105,116,101,114,97,108] s a]) []):=by
 have hp:posFrom c Γ.tx (a + 1) 0=((a + 1+s.length:Nat):Int):=zcx hc (Nat.zero_le _) h.tl.1
 have sl:=z29 (s:=s) h.tl
 have q:smethV (ss Γ a fo []) (.t (.str Γ.tx)) 0 [.t (.str [c]),.t (.int ((a:Int) + 1))] = .ok (.t (.int ((a + 1+s.length:Nat):Int))) (ss Γ a fo []):=by
  show (if 0≤(a:Int) + 1 then R.ok (V.t (.int (posFrom c Γ.tx ((a:Int) + 1).toNat 0))) (ss Γ a fo []) else R.bot)=_
  rw [if_pos (by omega),show ((a:Int) + 1).toNat=a + 1 from by omega,hp]
 rw [show a+s.length + 2=a + 1+s.length + 1 from by omega]
 apply c_of (ρ:=[_,_,.undef,.undef]) rfl rfl
 repeat (first | exact q | exact sl | (apply i_f;exact tr_f (by omega)) | sizeOf_list_dec)
theorem zcy (c1:C 5 44 [Γ.me] (ss Γ (a + 1) fo []) (.t (.str s)) (ss Γ (a + 1+s.length) fo [])) (hn:s≠[]) (hs:s.getLast? ≠ some 42) (l:fo.length < lineS) :
  C 6 42 [Γ.me] (ss Γ a fo []) (.t .none) (ss Γ (a + 1+s.length) (fo++[wd [118,97,114,105,97,98,108,101] s a]) []):=by
 apply c_of (ρ:=[_,.undef,.undef]) rfl rfl
 repeat (first | exact c1 | (apply l_go;exact tr_f hn) | (apply i_f;exact tr_f hs) | sizeOf_list_dec)
theorem zak {b:Bool} (h:Rem Γ a (c :: u)) (h1:cmpT 9 (.str ([c]++hd1 u)) ((globT 3).getD .none)=some true) (h2:cmpT 8 (.str [c]) ((globT 4).getD .none)=some b) (h3:b=false→cmpT 8 (.str [c]) ((globT 5).getD .none)=some true) (l:fo.length < lineS) :
  C 6 46 [Γ.me] (ss Γ a fo []) (.t .none) (ss Γ (a + 1) (fo++[wd (if b then [111,112,101,114,97,116,111,114] else [115,105,103,110]) [c] a]) []):=by
 have b1:binT 0 (.str [c]) (.str (hd1 u))=some (.str ([c]++hd1 u)):=if_pos (by cases u<;>exact Nat.le_of_ble_eq_true rfl)
 cases b
 ·have h3:=h3 rfl
  apply c_of (ρ:=[_,.undef,.undef]) rfl rfl
  repeat (first | exact b1 | exact h1 | exact h2 | exact h3 | exact z3a (n:=1) | sizeOf_list_dec)
 ·apply c_of (ρ:=[_,.undef,.undef]) rfl rfl
  repeat (first | exact b1 | exact h1 | exact h2 | exact z3a (n:=1) | sizeOf_list_dec)
theorem zal {b:Bool} {c2:Nat} (h:Rem Γ a (c :: c2 :: u)) (h1:cmpT 9 (.str [c,c2]) ((globT 3).getD .none)=some false) (h2:cmpT 8 (.str [c,c2]) ((globT 4).getD .none)=some b) (h3:b=false→cmpT 8 (.str [c,c2]) ((globT 5).getD .none)=some true) (l:fo.length < lineS) :
  C 6 46 [Γ.me] (ss Γ a fo []) (.t .none) (ss Γ (a + 2) (fo++[wd (if b then [111,112,101,114,97,116,111,114] else [115,105,103,110]) [c,c2] a]) []):=by
 cases b
 ·have h3:=h3 rfl
  apply c_of (ρ:=[_,.undef,.undef]) rfl rfl
  repeat (first | exact h1 | exact h2 | exact h3 | exact z3a (n:=2) | sizeOf_list_dec)
 ·apply c_of (ρ:=[_,.undef,.undef]) rfl rfl
  repeat (first | exact h1 | exact h2 | exact z3a (n:=2) | sizeOf_list_dec)
end
section
variable {Γ:Sn} {a a' b d f n:Nat} {fo fo':List T} {u u' s:List Nat} {c:Nat} {σ:St}
theorem z6d (h:Rem Γ a (c :: u)) (hc:fgB c=true) (k:C 6 39 [Γ.me] (ss Γ a fo []) (.t .none) (ss Γ a' fo' [])):C 7 38 [Γ.me] (ss Γ a fo []) (.t .none) (ss Γ a' fo' []):=by
 apply c_of (ρ:=[_,.undef]) rfl rfl
 repeat (first | exact k | exact in_fg | (apply l_no;exact trb_t hc) | (apply i_t;exact trb_t hc) | sizeOf_list_dec)
theorem zam (h:Rem Γ a (c :: u)) (hc:c = 34∨c = 39) (k:C 6 41 [Γ.me,.t (.str [c])] (ss Γ a fo []) (.t .none) (ss Γ a' fo' [])):C 7 38 [Γ.me] (ss Γ a fo []) (.t .none) (ss Γ a' fo' []):=by
 rcases hc with rfl | rfl
 ·apply c_of (ρ:=[_,.undef]) rfl rfl
  repeat (first | exact k | sizeOf_list_dec)
 ·apply c_of (ρ:=[_,.undef]) rfl rfl
  repeat (first | exact k | sizeOf_list_dec)
theorem z6e (h:Rem Γ a (36 :: u)) (k:C 6 42 [Γ.me] (ss Γ a fo []) (.t .none) (ss Γ a' fo' [])):C 7 38 [Γ.me] (ss Γ a fo []) (.t .none) (ss Γ a' fo' []):=by
 apply c_of (ρ:=[_,.undef]) rfl rfl
 repeat (first | exact k | sizeOf_list_dec)
theorem z4a (h:Rem Γ a (42 :: u)) (hB:IsB fo) (l:fo.length < lineS):C 7 38 [Γ.me] (ss Γ a fo []) (.t .none) (ss Γ (a + 1) (fo++[wd [111,112,101,114,97,116,111,114] [42] (((a + 1:Nat):Int) - 1)]) []):=by
 have k:=isb_t (Γ:=Γ) (a:=a + 1) (d:=6) hB
 apply c_of (ρ:=[_,.undef]) rfl rfl
 repeat (first | exact k | sizeOf_list_dec)
theorem z37 (h:Rem Γ a (42 :: u)) (hB:NotB fo) (l:fo.length < lineS):C 7 38 [Γ.me] (ss Γ a fo []) (.t .none) (ss Γ (a + 1) (fo++[wd [110,97,109,101] [42] (((a + 1:Nat):Int) - 1)]) []):=by
 have k:=isb_f (Γ:=Γ) (a:=a + 1) (d:=6) hB
 apply c_of (ρ:=[_,.undef]) rfl rfl
 repeat (first | exact k | sizeOf_list_dec)
theorem zh3 (h : 97≤c):fgB c=false:=by
 unfold fgB
 rw [List.contains_eq_mem,decide_eq_false]
 simp
 omega
theorem zcz (h1:c ≠ 39) (h2:c ≠ 34):cmpV σ 8 (.t (.str [c])) (.t (.tup [.str [39],.str [34]]))=some false:=by
 show some ([T.str [39],.str [34]].any fun x=>match x with | .str b=>decide ([c]=b) | _=>false)=_
 simp [h1,h2]
theorem z8b (h:Rem Γ a (c :: u)) (h1 : 97≤c) (h2:c ≤ 122) (k:C 6 45 [Γ.me] (ss Γ a fo []) (.t .none) (ss Γ a' fo' [])):C 7 38 [Γ.me] (ss Γ a fo []) (.t .none) (ss Γ a' fo' []):=by
 have q1:=zh3 h1
 have q2:=ns_t (σ:=ss Γ a fo []) (d:=6) h1 h2
 have q3:¬ ([c]=[58]):=by simp;omega
 have q4:¬ ([c]=[46]):=by simp;omega
 have q5:¬ ([c]=[36]):=by simp;omega
 have q6:¬ ([c]=[42]):=by simp;omega
 apply c_of (ρ:=[_,.undef]) rfl rfl
 repeat (first | exact k | exact q2 | exact in_fg | exact zcz (by omega) (by omega) | (apply l_go;exact trb_f q1) | (apply l_no;exact tr_f q4) | (apply i_f;exact tr_f q4) | (apply i_f;exact tr_f q5) | (apply i_f;exact tr_f q6) | (apply i_t;exact tn_t q3) | sizeOf_list_dec)
noncomputable def mkL:List Nat:=[40,41,91,93,44,47,43,45,61,33,60,62,124,58]
noncomputable def mkP (c:Nat):Prop:=c∈mkL
theorem z2c:∀ c∈mkL,fgB c=false∧¬ ([c]=[46])∧¬ ([c]=[36])∧¬ ([c]=[42])∧c ≠ 39∧c ≠ 34∧spB c=false∧c < 128∧(c < 97∨c = 124)∧c ≠ 95∧(¬ 65≤c∨(65≤c∧¬ c ≤ 90)):=by decide
theorem zed (h:mkP c):∃ v,C 6 26 [.t (.str [c])] σ (.t (.bool v)) σ∧(v=false∨c = 58):=by
 obtain ⟨_,_,_,_,_,_,_,h1,h2,h4,h5⟩:=z2c c h
 have s:C 1 25 [.t (.str [c])] σ (.t (.bool false)) σ:=by
  rcases h2 with h2 | rfl
  ·exact z89 h2
  ·exact c_of (ρ:=[_]) rfl rfl (x_ret (z5a d_c (d_vt rfl) (le_t (by decide)) d_c (le_f (by decide)))) (z00 rfl)
 have q:D 1 (.cmp2 (.c (.str [65])) (.var 0) (.c (.str [90]))) [.t (.str [c])] σ (.t (.bool false)) σ:=z2j rfl h5
 by_cases k:c = 58
 ·subst k
  refine ⟨true,C.up (d:=2) ?_,.inr rfl⟩
  apply c_of (ρ:=[_]) rfl rfl
  repeat (first | exact s | exact q | sizeOf_list_dec)
  exact z00 rfl
 ·refine ⟨false,C.up (d:=2) ?_,.inl rfl⟩
  apply c_of (ρ:=[_]) rfl rfl
  repeat (first | exact s | exact q | exact eq_f h4 | exact eq_f k | (apply i_t;exact z6b h1) | sizeOf_list_dec)
  exact z00 rfl
theorem z4b (h:Rem Γ a (c :: u)) (hc:mkP c) (k:C 6 46 [Γ.me] (ss Γ a fo []) (.t .none) (ss Γ a' fo' [])):C 7 38 [Γ.me] (ss Γ a fo []) (.t .none) (ss Γ a' fo' []):=by
 obtain ⟨v,q2,hv⟩:=zed (σ:=ss Γ a fo []) hc
 obtain ⟨q1,q4,q5,q6,q7,q8,_⟩:=z2c c hc
 have q9:D 6 (.and (.callF 26 (.cons (.var 1) .nil)) (.cmp 1 (.var 1) (.c (.str [58])))) [Γ.me,.t (.str [c])] (ss Γ a fo []) (.t (.bool false)) (ss Γ a fo []):=by
  rcases hv with rfl | rfl
  ·repeat (first | exact q2 | sizeOf_list_dec)
  ·cases v
   ·repeat (first | exact q2 | sizeOf_list_dec)
   ·repeat (first | exact q2 | sizeOf_list_dec)
 apply c_of (ρ:=[_,.undef]) rfl rfl
 repeat (first | exact k | exact q9 | exact in_fg | exact zcz q7 q8 | (apply l_go;exact trb_f q1) | (apply l_no;exact tr_f q4) | (apply i_f;exact tr_f q4) | (apply i_f;exact tr_f q5) | (apply i_f;exact tr_f q6) | sizeOf_list_dec)
noncomputable def GO (Γ:Sn) (a:Nat) (u:List Nat) (fo:List T) (a':Nat) (u':List Nat) (fo':List T):Prop :=
 ∀ r,LS 8 (nx b35) [Γ.me] (ss Γ (a'+nsp u') fo' []) r→LS 8 (nx b35) [Γ.me] (ss Γ (a+nsp u) fo []) r
theorem go_of (h:Rem Γ a (c :: u)) (hc:spB c=false) (h':Rem Γ a' u') (k:C 7 38 [Γ.me] (ss Γ a fo []) (.t .none) (ss Γ a' fo' [])):GO Γ a (c :: u) fo a' u' fo':=by
 intro r hr
 have lt:=h.lt
 have k:=k.up (e:=8)
 have c2:=z2i (fo:=fo') (d:=8) h'
 rw [show a+nsp (c :: u)=a from by simp [nsp,hc]]
 apply lw_go
 repeat sizeOf_list_dec
 (apply z2f;exact tr_t (by omega))
 repeat (first | exact k | exact c2 | exact hr | sizeOf_list_dec)
structure CT (Γ:Sn) (a:Nat) (u:List Nat) (fo:List T):Prop where
 rem:Rem Γ a u
 le:fo.length≤a
 lt : Γ.tx.length < lineS
theorem CT.fl (h:CT Γ a u fo):fo.length < lineS:=by have:=h.le;have:=h.rem.2;have:=h.lt;omega
structure SG (Γ:Sn) (a:Nat) (s u:List Nat) (fo ws:List T):Prop where
 go:GO Γ a (s++u) fo (a+s.length) u (fo++ws)
 le:ws.length≤s.length
theorem SG.ct {ws:List T} (h:SG Γ a s u fo ws) (k:CT Γ a (s++u) fo):CT Γ (a+s.length) u (fo++ws) :=
 ⟨k.rem.ri,by have:=k.le;have:=h.le;simp;omega,k.lt⟩
theorem SG.app {s1 s2:List Nat} {w1 w2:List T} (h:SG Γ a s1 (s2++u) fo w1) (k:SG Γ (a+s1.length) s2 u (fo++w1) w2):SG Γ a (s1++s2) u fo (w1++w2):=by
 refine ⟨fun r hr=>?_,by have:=h.le;have:=k.le;simp;omega⟩
 rw [List.append_assoc]
 refine h.go r (k.go r ?_)
 rw [List.length_append,← Nat.add_assoc,← List.append_assoc] at hr
 exact hr
theorem SG.nil:SG Γ a [] u fo []:=⟨fun r hr=>by simpa using hr,by simp⟩
theorem sg_sp (hc:spB c=true):SG Γ a [c] u fo []:=by
 refine ⟨fun r hr=>?_,by simp⟩
 rw [show a+nsp ([c]++u)=a+[c].length+nsp u from by simp [nsp,hc];omega]
 simpa using hr
theorem sg_of {w:T} {tk:List Nat} (h:CT Γ a (c :: tk++u) fo) (hc:spB c=false) (k:C 7 38 [Γ.me] (ss Γ a fo []) (.t .none) (ss Γ (a+(c :: tk).length) (fo++[w]) [])):SG Γ a (c :: tk) u fo [w] :=
 ⟨go_of h.rem hc h.rem.ri k,by simp⟩
end
end
section
variable {Γ:Sn} {a a' b d f n:Nat} {fo fo':List T} {u u' s:List Nat} {c:Nat}
noncomputable def flL:List Nat:=[41,93,44,47,91]
theorem z1o:∀ c∈flL,stP c∧c ≠ 58∧c ≠ 46∧c ≠ 40∧fgB c=false∧spB c=false:=by unfold stP;decide
inductive Fol:List Nat→Prop
 | nil:Fol []
 | one:Fol [32]
 | sg {c:Nat} {v:List Nat}:c∈flL→Fol (c :: v)
 | sp {c:Nat} {v:List Nat}:spB c=false→c ≠ 40→c ≠ 58→Fol (32 :: c :: v)
theorem Fol.stop (h:Fol u):Stop u:=by
 intro c v e
 cases h with
 | nil=>cases e
 | one=>injection e with e;subst e;exact .inl (by unfold stP;decide)
 | sg q=>injection e with e;subst e;exact .inl (z1o _ q).1
 | sp=>injection e with e;subst e;exact .inl (by unfold stP;decide)
theorem Fol.colon (h:Fol u):∀ v,u ≠ 58 :: v:=by
 intro v e
 cases h with
 | nil=>cases e
 | one=>cases e
 | sg q=>injection e with e;exact (z1o _ q).2.1 e
 | sp=>injection e with e;cases e
theorem Fol.dot (h:Fol u):¬ (hd1 u=[46]):=by
 refine hd_ne fun v e=>?_
 cases h with
 | nil=>cases e
 | one=>cases e
 | sg q=>injection e with e;exact (z1o _ q).2.2.1 e
 | sp=>injection e with e;cases e
theorem Fol.nof (h:Fol u):NoF u:=by
 intro c v e
 cases h with
 | nil=>cases e
 | one=>injection e with e;subst e;rfl
 | sg q=>injection e with e;subst e;exact (z1o _ q).2.2.2.2.1
 | sp=>injection e with e;subst e;rfl
theorem Fol.skip (h:Fol u):¬ (hd1 (u.drop (nsp u))=[40])∧¬ (hd1 (u.drop (nsp u))=[58]):=by
 cases h with
 | nil=>exact ⟨(fun q=>nomatch q),(fun q=>nomatch q)⟩
 | one=>exact ⟨(fun q=>nomatch q),(fun q=>nomatch q)⟩
 | sg q=>
  rename_i c v
  have f:=z1o _ q
  have e:nsp (c :: v) = 0:=by simp [nsp,f.2.2.2.2.2]
  rw [e,List.drop_zero]
  exact ⟨fun q=>by injection q with q;exact f.2.2.2.1 q,fun q=>by injection q with q;exact f.2.1 q⟩
 | sp k k2 k3=>
  rename_i x w
  have e:nsp (32 :: x :: w) = 1:=by
   show nsp (x :: w) + 1 = 1
   rw [show nsp (x :: w) = 0 from by simp [nsp,k]]
  rw [e]
  exact ⟨fun q=>by injection q with q;exact k2 q,fun q=>by injection q with q;exact k3 q⟩
theorem z6f (h : 48≤c):spB c=false:=by
 unfold spB
 rw [List.contains_eq_mem,decide_eq_false]
 simp
 omega
theorem nm_hd (hn:Nm s):∃ c cs,s=c :: cs ∧ 97≤c∧c ≤ 122:=by obtain ⟨c,cs,rfl,h1,h2,_⟩:=hn;exact ⟨c,cs,rfl,h1,h2⟩
theorem z5j (hn:Nm s):s.getLast? ≠ some 42:=by
 obtain ⟨c,cs,rfl,h1,h2,h3⟩:=hn
 intro h
 have:=List.mem_of_getLast? h
 cases this with
 | head=>omega
 | tail _ h=>have:=h3 _ h;unfold nmP at this;omega
theorem z6g {s2:List Nat} (hn2:Nm s2):(s++s2).getLast? ≠ some 42:=by
 have e:=z5j hn2
 obtain ⟨c,cs,rfl,_⟩:=hn2
 rw [List.getLast?_append]
 cases h:(c :: cs).getLast? with
 | none=>simp at h
 | some x=>rw [h] at e;exact e
theorem tk_by (hn:∃ c cs,s=c :: cs ∧ 97≤c∧c ≤ 122) {w:T} (h:CT Γ a (s++u) fo) (k:C 6 45 [Γ.me] (ss Γ a fo []) (.t .none) (ss Γ (a+s.length) (fo++[w]) [])):SG Γ a s u fo [w]:=by
 obtain ⟨c,cs,rfl,h1,h2⟩:=hn
 exact sg_of h (z6f (by omega)) (z8b h.rem h1 h2 k)
theorem z8c {b:Bool} (hn:Nm s) (hB:NotB fo) (hk:cmpT 8 (.str s) ((globT 7).getD .none)=some b) (h:CT Γ a (s ++ 40 :: u) fo):SG Γ a s (40 :: u) fo [wd (if b then [107,105,110,100] else [102,117,110,99,116,105,111,110]) s a] :=
 tk_by (nm_hd hn) h (z6c hB (z2a hn (fun c v e=>by injection e with e;subst e;exact .inl (by unfold stP;decide)) (.inl fun v e=>by injection e;omega) h.rem) h.rem.ri (z5j hn) hk h.fl)
theorem zee {b:Bool} {s2:List Nat} (hn:Nm s) (hn2:Nm s2) (hB:NotB fo) (hk:cmpT 8 (.str (s++[58]++s2)) ((globT 7).getD .none)=some b) (hl:s.length+s2.length + 1≤lineS) (h:CT Γ a (s++[58]++s2 ++ 40 :: u) fo):SG Γ a (s++[58]++s2) (40 :: u) fo [wd (if b then [107,105,110,100] else [102,117,110,99,116,105,111,110]) (s++[58]++s2) a]:=by
 have e:(s++[58]++s2).getLast? ≠ some 42:=z6g hn2
 obtain ⟨c,cs,rfl,h1,h2,h3⟩:=hn
 exact tk_by ⟨c,_,rfl,h1,h2⟩ h (z6c hB (z3r (u:=40 :: u) ⟨c,cs,rfl,h1,h2,h3⟩ hn2 (fun c v e=>by injection e with e;subst e;exact .inl (by unfold stP;decide)) hl (by simpa using h.rem)) h.rem.ri e hk h.fl)
theorem zef (hn:Nm s) (hB:NotB fo) (h:CT Γ a (s ++ 58 :: 58 :: u) fo):SG Γ a s (58 :: 58 :: u) fo [wd [97,120,105,115] s a] :=
 tk_by (nm_hd hn) h (z8a hB (z2a hn (fun c v e=>by injection e with e;exact .inr e.symm) (.inr ⟨_,rfl⟩) h.rem) h.rem.ri h.fl)
theorem zeg (hn:Nm s) (hB:NotB fo) (hu:Fol u) (h:CT Γ a (s++u) fo):SG Γ a s u fo [wd [110,97,109,101] s a] :=
 tk_by (nm_hd hn) h (z2l hB (z2a hn hu.stop (.inl hu.colon) h.rem) h.rem.ri hu.skip.1 hu.skip.2 h.fl)
theorem zan {s2:List Nat} (hn:Nm s) (hn2:Nm s2) (hB:NotB fo) (hu:Fol u) (hl:s.length+s2.length + 1≤lineS) (h:CT Γ a (s++[58]++s2++u) fo):SG Γ a (s++[58]++s2) u fo [wd [110,97,109,101] (s++[58]++s2) a]:=by
 obtain ⟨c,cs,rfl,h1,h2,h3⟩:=hn
 exact tk_by ⟨c,_,rfl,h1,h2⟩ h (z2l hB (z3r ⟨c,cs,rfl,h1,h2,h3⟩ hn2 hu.stop hl (by simpa using h.rem)) h.rem.ri hu.skip.1 hu.skip.2 h.fl)
theorem zao (hn:Nm s) (hB:NotB fo) (hu:Fol u) (hl:s.length + 2≤lineS) (h:CT Γ a (s++[58,42]++u) fo):SG Γ a (s++[58,42]) u fo [wd [110,97,109,101] (s++[58,42]) a]:=by
 obtain ⟨c,cs,rfl,h1,h2,h3⟩:=hn
 exact tk_by ⟨c,_,rfl,h1,h2⟩ h (z2l hB (zaj ⟨c,cs,rfl,h1,h2,h3⟩ hl (by simpa using h.rem)) h.rem.ri hu.skip.1 hu.skip.2 h.fl)
theorem zeh (hn:Nm s) (hB:IsB fo) (hk:cmpT 9 (.str s) ((globT 6).getD .none)=some false) (h:CT Γ a (s ++ 32 :: u) fo):SG Γ a s (32 :: u) fo [wd [111,112,101,114,97,116,111,114] s a] :=
 tk_by (nm_hd hn) h (zea hB hn (fun c v e=>by injection e with e;subst e;exact .inl (by unfold stP;decide)) h.rem hk h.fl)
theorem zei (hs:∀ c∈s,fgB c=true) (hs0:s≠[]) (hu:Fol u) (h:CT Γ a (s++u) fo):SG Γ a s u fo [wd [110,117,109,98,101,114] s a]:=by
 cases s with
 | nil=>exact absurd rfl hs0
 | cons c s=>
  have hc:=hs c (.head _)
  have h':spB c=false:=by
   refine z6f ?_
   unfold fgB at hc
   rw [List.contains_eq_mem,decide_eq_true_eq] at hc
   simp at hc;omega
  exact sg_of h h' (z6d h.rem hc (zeb hs hu.nof hu.dot h.rem h.fl))
theorem zej {s2:List Nat} (hs:∀ c∈s,fgB c=true) (hs0:s≠[]) (hs2:∀ c∈s2,fgB c=true) (h2:s2≠[]) (hu:Fol u) (h:CT Γ a (s ++ 46 :: s2++u) fo):SG Γ a (s ++ 46 :: s2) u fo [wd [110,117,109,98,101,114] (s ++ 46 :: s2) a]:=by
 cases s with
 | nil=>exact absurd rfl hs0
 | cons c s=>
  have hc:=hs c (.head _)
  have h':spB c=false:=by
   refine z6f ?_
   unfold fgB at hc
   rw [List.contains_eq_mem,decide_eq_true_eq] at hc
   simp at hc;omega
  have hd:¬ (hd1 (s2++u)=[46]):=by
   cases s2 with
   | nil=>exact absurd rfl h2
   | cons x s2=>
    intro q
    injection q with q
    have:=hs2 x (.head _)
    rw [q] at this
    cases this
  exact sg_of h h' (z6d (u:=s ++ 46 :: s2++u) h.rem hc (zec hs hs2 hu.nof hd (by simpa using h.rem) h.fl))
theorem zd0 (hq:c = 34∨c = 39) (hc:c∉s) (h:CT Γ a (c :: (s++[c])++u) fo):SG Γ a (c :: (s++[c])) u fo [wd [108,105,116,101,114,97,108] s a]:=by
 have r:Rem Γ a (c :: (s++c :: u)):=by simpa using h.rem
 refine sg_of h (by rcases hq with rfl | rfl<;>rfl) ?_
 rw [show a+(c :: (s++[c])).length=a+s.length + 2 from by simp;omega]
 exact zam r hq (zh2 hc r h.fl)
theorem zh4 (hn:Nm s) (hu:Fol u) (h:CT Γ a (36 :: s++u) fo):SG Γ a (36 :: s) u fo [wd [118,97,114,105,97,98,108,101] s a]:=by
 refine sg_of h rfl ?_
 rw [show a+(36 :: s).length=a + 1+s.length from by simp;omega]
 exact z6e h.rem (zcy (z2a hn hu.stop (.inl hu.colon) h.rem.tl) (nm_ne hn) (z5j hn) h.fl)
theorem zek {s2:List Nat} (hn:Nm s) (hn2:Nm s2) (hu:Fol u) (hl:s.length+s2.length + 1≤lineS) (h:CT Γ a (36 :: (s++[58]++s2)++u) fo):SG Γ a (36 :: (s++[58]++s2)) u fo [wd [118,97,114,105,97,98,108,101] (s++[58]++s2) a]:=by
 have e:(s++[58]++s2).getLast? ≠ some 42:=z6g hn2
 refine sg_of h rfl ?_
 rw [show a+(36 :: (s++[58]++s2)).length=a + 1+(s++[58]++s2).length from by simp;omega]
 exact z6e h.rem (zcy (z3r hn hn2 hu.stop hl (by have:=h.rem.tl;simpa using this)) (by simp) e h.fl)
theorem zel (hB:IsB fo) (h:CT Γ a ([42]++u) fo):∃ p,SG Γ a [42] u fo [wd [111,112,101,114,97,116,111,114] [42] p] :=
 ⟨_,sg_of h rfl (z4a h.rem hB h.fl)⟩
theorem zh5 (hB:NotB fo) (h:CT Γ a ([42]++u) fo):∃ p,SG Γ a [42] u fo [wd [110,97,109,101] [42] p] :=
 ⟨_,sg_of h rfl (z37 h.rem hB h.fl)⟩
theorem tk_m1 {b:Bool} (hc:mkP c) (h1:cmpT 9 (.str ([c]++hd1 u)) ((globT 3).getD .none)=some true) (h2:cmpT 8 (.str [c]) ((globT 4).getD .none)=some b) (h3:b=false→cmpT 8 (.str [c]) ((globT 5).getD .none)=some true) (h:CT Γ a ([c]++u) fo) :
  SG Γ a [c] u fo [wd (if b then [111,112,101,114,97,116,111,114] else [115,105,103,110]) [c] a] :=
 sg_of h (z2c c hc).2.2.2.2.2.2.1 (z4b h.rem hc (zak h.rem h1 h2 h3 h.fl))
theorem tk_m2 {b:Bool} {c2:Nat} (hc:mkP c) (h1:cmpT 9 (.str [c,c2]) ((globT 3).getD .none)=some false) (h2:cmpT 8 (.str [c,c2]) ((globT 4).getD .none)=some b) (h3:b=false→cmpT 8 (.str [c,c2]) ((globT 5).getD .none)=some true) (h:CT Γ a ([c,c2]++u) fo) :
  SG Γ a [c,c2] u fo [wd (if b then [111,112,101,114,97,116,111,114] else [115,105,103,110]) [c,c2] a] :=
 sg_of h (z2c c hc).2.2.2.2.2.2.1 (z4b h.rem hc (zal h.rem h1 h2 h3 h.fl))
end
section
variable {a d f n:Nat} {u s tx:List Nat} {σ τ:St} {t:T} {ws:List T}
theorem zap {c f:Nat} {l:List V} {v:V} (h:posOf f (fieldsOf c) 0=some l.length):setA (σ ++ .inst c l :: τ) (.ref σ.length) f v=some (σ ++ .inst c (l++[v]) :: τ):=by
 unfold setA
 simp only [z1m]
 rw [h]
 simp [z0h]
theorem zh6:C 1 32 [.ref σ.length,.t (.str tx)] (σ++[.inst 10 []]) (.t .none) (σ ++ .inst 10 [.t (.str tx),.t (.int 0),.ref (σ.length + 1)] :: [.list []]):=by
 have q:D 0 (.lst .nil) [.ref σ.length,.t (.str tx)] (σ++[.inst 10 [.t (.str tx),.t (.int 0)]]) (.ref (σ.length + 1)) (σ ++ .inst 10 [.t (.str tx),.t (.int 0)] :: [.list []]):=by
  have:=d_lst (d:=0) (a:= .nil) (ρ:=[.ref σ.length,.t (.str tx)]) (σ:=σ++[.inst 10 [.t (.str tx),.t (.int 0)]]) z0n (by decide)
  rw [List.length_append,List.append_assoc] at this
  exact this
 apply c_of (ρ:=[_,_]) rfl rfl
 ·exact z0t (d_vt rfl) (d_vr rfl) (z0d rfl) (z0t d_c (d_vr rfl) (z0d rfl) (z0t q (d_vr rfl) (zap rfl) x_nil))
 ·show finR (σ++[MO.inst 10 []]).length (.next _ (σ++MO.inst 10 [.t (.str tx),.t (.int 0),.ref (σ.length + 1)] :: [.list []]))=_
  unfold finR trunc
  have e:(σ++MO.inst 10 [.t (.str tx),.t (.int 0),.ref (σ.length + 1)] :: [.list []]).take (σ++[MO.inst 10 []]).length = σ++[MO.inst 10 [.t (.str tx),.t (.int 0),.ref (σ.length + 1)]]:=by
   rw [show σ++MO.inst 10 [.t (.str tx),.t (.int 0),.ref (σ.length + 1)] :: [.list []]=(σ++[MO.inst 10 [.t (.str tx),.t (.int 0),.ref (σ.length + 1)]])++[.list []] from by simp]
   exact List.take_left' (by simp)
  have l:lowAll (σ++[MO.inst 10 []]).length (σ++[MO.inst 10 [.t (.str tx),.t (.int 0),.ref (σ.length + 1)]])=false:=by
   rw [z1w]
   simp [lowAll,MO.vals,V.low]
  show some (V.t .none,if (σ++MO.inst 10 [.t (.str tx),.t (.int 0),.ref (σ.length + 1)] :: [.list []]).length=_ then _ else _)=_
  rw [if_neg (by simp),e,l]
  rfl
theorem zh7 {r:Nat}:C 1 51 [.ref σ.length,.ref r] (σ++[.inst 11 []]) (.t .none) (σ++[.inst 11 [.ref r,.t (.int 0),.t (.int 0)]]):=by
 apply c_of (ρ:=[_,_]) rfl rfl
 ·exact z0t (d_vr rfl) (d_vr rfl) (z0d rfl) (z0t d_c (d_vr rfl) (z0d rfl) (z0t d_c (d_vr rfl) (z0d rfl) x_nil))
 ·exact z1e (by simp)
noncomputable abbrev endW (a:Nat):T:=wd [101,110,100] [] a
theorem zh8 (Γ:Sn) (lt : Γ.tx.length < lineS) (h:SG Γ 0 Γ.tx [] [] ws):C 9 35 [Γ.me] (ss Γ 0 [] []) (.ref (Γ.pre.length + 1)) (ss Γ Γ.tx.length (ws++[endW Γ.tx.length]) []):=by
 have r0:Rem Γ 0 Γ.tx:=⟨rfl,Nat.zero_le _⟩
 have c0:=z2i (fo:=[]) (d:=8) r0
 have ls:ws.length < lineS:=by have:=h.le;omega
 have c1:=zcw (Γ:=Γ) (a:=Γ.tx.length) (fo:=ws) (d:=8) (k:=[101,110,100]) (t:=[]) (p:=Γ.tx.length) ls
 have e:=h.go (.ret (.ref (Γ.pre.length + 1)) (ss Γ Γ.tx.length (ws++[endW Γ.tx.length]) [])) (by
  rw [show 0 + Γ.tx.length+nsp [] = Γ.tx.length from by simp [nsp],List.nil_append]
  apply lw_go
  repeat (first | exact h_at | exact z86 | exact h_cls | exact h_len | sizeOf_list_dec)
  (apply z25;exact tr_f (by omega))
  repeat (first | exact h_at | exact z5h | exact h_cls | exact c1 | sizeOf_list_dec))
 rw [List.append_nil] at e
 refine c_of (ρ:=[_]) rfl rfl (r:= .ret (.ref (Γ.pre.length + 1)) (ss Γ Γ.tx.length (ws++[endW Γ.tx.length]) [])) ?_ (z00 (by simp only [z13]))
 apply zcm
 repeat (first | exact h_cls | exact c0 | exact x_whl e | sizeOf_list_dec)
theorem zaq (lw:Lw σ) (lt:tx.length < lineS) (h:SG ⟨σ,tx,lw⟩ 0 tx [] [] ws):C 10 47 [.t (.str tx)] σ (.ref (σ.length + 1)) (ss ⟨σ,tx,lw⟩ tx.length (ws++[endW tx.length]) []):=by
 have c:=zh8 ⟨σ,tx,lw⟩ lt h
 have k:NW 9 10 [.t (.str tx)] σ (.ref σ.length) (ss ⟨σ,tx,lw⟩ 0 [] []):=zcn (f:=32) rfl rfl (zh6.up (e:=9))
 apply c_of (ρ:=[_]) rfl rfl
 ·apply x_ret
  repeat (first | exact k | exact h_cls | exact c | sizeOf_list_dec)
 ·unfold finR trunc
  simp only [z13]
  rw [if_neg (by show ¬ (σ.length + 2+_ = σ.length);omega)]
  simp [V.low]
  intro h;omega
noncomputable def rdOf (Γ:Sn) (ws:List T) (a:Nat):Rd:=⟨ss Γ a ws [],Γ.pre.length + 1,ws,ss_fo,z69,by rw [z13];omega⟩
theorem zar {Γ:Rd} (h:E0 f n t ws) (hn:n ≤ 50) (hw:At Γ 0 (ws++[endW a])) (hf : 1≤f):C (f + 1) 56 [Γ.me] (rs Γ 0 0 []) (.t t) (rs Γ (0+ws.length) 0 []):=by
 have c:=h Γ 0 0 [] _ hw ⟨a,.inl rfl⟩ (by omega)
 have h1:=hw.ri.hd
 apply c_of (ρ:=[_,.undef]) rfl rfl
 repeat (first | exact c | exact k_me | exact z5e h1 | exact z1x | sizeOf_list_dec)
theorem zas (lw:Lw σ) (lt:tx.length < lineS) (h:SG ⟨σ,tx,lw⟩ 0 tx [] [] ws) (e:E0 f n t ws) (hn:n ≤ 50) (hf : 9≤f):C (f + 2) 72 [.t (.str tx)] σ (.t t) σ:=by
 have c1:=(zaq lw lt h).up (e:=f + 1)
 let Γ:Rd:=rdOf ⟨σ,tx,lw⟩ (ws++[endW tx.length]) tx.length
 have c2:NW (f + 1) 11 [.ref (σ.length + 1)] (ss ⟨σ,tx,lw⟩ tx.length (ws++[endW tx.length]) []) Γ.me (rs Γ 0 0 []):=zcn (f:=51) rfl rfl (zh7.up (e:=f + 1))
 have c3:=zar (Γ:=Γ) e hn ⟨[],by simp [Γ,rdOf];rfl⟩ (by omega)
 apply c_of (ρ:=[_]) rfl rfl
 ·apply x_ret
  repeat (first | exact c1 | exact c2 | exact c3 | exact k_me | sizeOf_list_dec)
 ·have e:rs Γ (0+ws.length) 0 [] = σ++(.inst 10 [.t (.str tx),.t (.int tx.length),.ref (σ.length + 1)] :: .list ((ws++[endW tx.length]).map V.t) :: .inst 11 [.ref (σ.length + 1),.t (.int ((0+ws.length:Nat):Int)),.t (.int (0:Nat))] :: []):=by
   simp [Γ,rs,rdOf,ss,tmp]
  rw [e]
  exact fin_t rfl lw
end
section
variable {f f0 n n' L lm j:Nat} {F G:T→Prop} {t:T} {ws:List T}
theorem PR.le (h:PR f n t ws) (l:n≤n'):PR f n' t ws:=fun Γ a dp υ hw hd=>h Γ a dp υ hw (by omega)
theorem FI.le (h:FI f n t ws) (l:n≤n'):FI f n' t ws:=fun Γ a dp υ w hw fo hd=>h Γ a dp υ w hw fo (by omega)
theorem PT.le (h:PT f n F t ws) (l:n≤n') (k:∀ w,G w→F w):PT f n' G t ws:=fun Γ a dp υ w hw fo hd=>h Γ a dp υ w hw (k w fo) (by omega)
theorem UN.le (h:UN f n F t ws) (l:n≤n') (k:∀ w,G w→F w):UN f n' G t ws:=fun Γ a dp υ w hw fo hd=>let ⟨m,a,b⟩:=h Γ a dp υ w hw (k w fo) (by omega);⟨m,by omega,b⟩
theorem NG.le (h:NG f n F j t ws) (l:n≤n') (k:∀ w,G w→F w) {j':Nat} (q:j≤j'):NG f n' G j' t ws:=fun i hi Γ a dp υ w hw fo hd=>h i (by omega) Γ a dp υ w hw (k w fo) (by omega)
theorem EX.le (h:EX f n lm F t ws) (l:n≤n') (k:∀ w,G w→F w) {lm':Nat} (q:lm'≤lm):EX f n' lm' G t ws:=fun ls hl Γ a dp υ w hw fo hd=>let ⟨m,o,a,b⟩:=h ls (by omega) Γ a dp υ w hw (k w fo) (by omega);⟨m,o,by omega,b⟩
theorem EF.le (h:EF f n lm F t ws) (l:n≤n') (k:∀ w,G w→F w) {lm':Nat} (q:lm'≤lm):EF f n' lm' G t ws:=fun ls hl Γ a dp υ w hw fo lt hd=>h ls (by omega) Γ a dp υ w hw (k w fo) lt (by omega)
theorem E0.le (h:E0 f n t ws) (l:n≤n'):E0 f n' t ws:=fun Γ a dp υ w hw cl hd=>h Γ a dp υ w hw cl (by omega)
structure RA (f n L:Nat) (t:T) (ws:List T):Prop where
 e0:E0 f n t ws
 r11 : 11≤L→PR f n t ws
 r10 : 10≤L→FI f n t ws
 r9 : 9≤L→PT f n (Fo 9) t ws
 r8 : 8≤L→UN f n (Fo 8) t ws
 r7 : 7≤L→NG f n (Fo 7) n t ws
 ex : 1≤L→EX f n (min L 7) (Fo (min L 7)) t ws
 ef : 1≤L→EF f n (min L 7) (Fo (min L 7)) t ws
structure RL (f0 n L:Nat) (t:T) (ws:List T):Prop where
 all:∀ f,f0≤f→RA f n L t ws
 opn:Opn ws
 pri : 10≤L→Pri ws
 hd : 8≤L→Hd ws
theorem Pri.hd (h:Pri ws):Hd ws:=by
 obtain ⟨k,x,p,r,rfl,⟨h1,h2⟩ | ⟨rfl,rfl⟩⟩:=h
 ·exact ⟨k,x,p,r,rfl,z85 h1⟩
 ·exact ⟨_,_,_,_,rfl,rfl⟩
theorem Pri.opn (h:Pri ws):Opn ws:=by
 obtain ⟨k,x,p,r,rfl,⟨h1,h2⟩ | ⟨rfl,rfl⟩⟩:=h
 ·refine ⟨k,x,p,r,rfl,?_⟩
  have e:k≠[115,105,103,110]:=by
   rintro rfl
   cases h2
  show (decide (k=_) && decide (x=_))=_
  rw [decide_eq_false e];rfl
 ·exact ⟨_,_,_,_,rfl,rfl⟩
theorem fo98 {w:T} (h:Fo 8 w):Fo 9 w:=h.mono (by decide)
theorem ra_k (k:Nat) (hk : 1≤k) (k7:k ≤ 6) (h:∀ f,f0≤f→EX f n k (Fo k) t ws) (h2 : 2≤f0) (hn : 1≤n):∀ f,f0 + 1≤f→RA f n k t ws:=by
 intro f hf
 have e:=h f (by omega)
 have e':=ef_of (h (f - 1) (by omega)) (by omega) hn
 rw [Nat.sub_add_cancel (by omega)] at e'
 have m:min k 7=k:=by omega
 refine ⟨e0_of e' hk (fun w c=>c.fo),fun l=>by omega,fun l=>by omega,fun l=>by omega,fun l=>by omega,fun l=>by omega,fun _=>?_,fun _=>?_⟩
 ·rw [m];exact e
 ·rw [m];exact e'
theorem ra_7 (h:∀ f,f0≤f→NG f n (Fo 7) n t ws) (h2 : 2≤f0) (hn:n < 50):∀ f,f0 + 2≤f→RA f (n + 1) 7 t ws:=by
 have x:∀ f,f0 + 1≤f→EX f (n + 1) 50 (Fo 7) t ws:=fun f hf=>by
  have:=ex_of (nf_of (h (f - 1) (by omega)) (by omega)) (fun w k=>k) (by omega)
  rwa [Nat.sub_add_cancel (by omega)] at this
 intro f hf
 have e:=x f (by omega)
 have e':=ef_of (x (f - 1) (by omega)) (by omega) (by omega)
 rw [Nat.sub_add_cancel (by omega)] at e'
 refine ⟨e0_of e' (by omega) (fun w c=>c.fo),fun l=>by omega,fun l=>by omega,fun l=>by omega,fun l=>by omega,fun _=>(h f (by omega)).le (by omega) (fun _ k=>k) (by omega),fun _=>?_,fun _=>?_⟩
 ·exact e.le (Nat.le_refl _) (fun _ k=>k) (by decide)
 ·exact e'.le (Nat.le_refl _) (fun _ k=>k) (by decide)
theorem ra_8 (h:∀ f,f0≤f→UN f n (Fo 8) t ws) (hh:Hd ws) (h2 : 2≤f0) (hn:n < 50):∀ f,f0 + 3≤f→RA f (n + 1) 8 t ws:=by
 have g:∀ f,f0 + 1≤f→NG f n (Fo 7) n t ws:=fun f hf=>by
  have:=uf_of ((h (f - 1) (by omega)).le (G:=Fo 7) (Nat.le_refl _) (fun w k=>k.mono (by decide))) (fun w k=>k) (by omega)
  rw [Nat.sub_add_cancel (by omega)] at this
  exact (ng_of this hh (by omega)).le (Nat.le_refl _) (fun _ k=>k) (by omega)
 intro f hf
 obtain ⟨a,_,_,_,_,c,d,e⟩:=ra_7 (f0:=f0 + 1) g (by omega) hn f (by omega)
 exact ⟨a,fun l=>by omega,fun l=>by omega,fun l=>by omega,fun _=>(h f (by omega)).le (by omega) (fun _ k=>k),fun _=>c (by decide),fun _=>d (by decide),fun _=>e (by decide)⟩
theorem ra_9 (h:∀ f,f0≤f→PT f n (Fo 9) t ws) (hh:Hd ws) (h2 : 2≤f0) (hn:n < 50):∀ f,f0 + 3≤f→RA f (n + 1) 9 t ws:=by
 intro f hf
 obtain ⟨a,_,_,_,b,c,d,e⟩:=ra_8 (f0:=f0) (fun f hf=>un_of ((h f hf).le (Nat.le_refl _) (fun w=>fo98))) hh h2 hn f (by omega)
 exact ⟨a,fun l=>by omega,fun l=>by omega,fun _=>(h f (by omega)).le (by omega) (fun _ k=>k),fun _=>b (by decide),fun _=>c (by decide),fun _=>d (by decide),fun _=>e (by decide)⟩
theorem ra_10 (h:∀ f,f0≤f→FI f n t ws) (hh:Pri ws) (h2 : 3≤f0) (hn:n < 50):∀ f,f0 + 5≤f→RA f (n + 1) 10 t ws:=by
 intro f hf
 obtain ⟨a,_,_,z,b,c,d,e⟩:=ra_9 (f0:=f0 + 2) (fun f hf=>by
  have:=pt_fi hh (h (f - 2) (by omega)) (by omega)
  rwa [Nat.sub_add_cancel (by omega)] at this) hh.hd (by omega) hn f (by omega)
 exact ⟨a,fun l=>by omega,fun _=>(h f (by omega)).le (by omega),fun _=>z (by decide),fun _=>b (by decide),fun _=>c (by decide),fun _=>d (by decide),fun _=>e (by decide)⟩
theorem ra_11 (h:∀ f,f0≤f→PR f n t ws) (hh:Pri ws) (h2 : 3≤f0) (hn:n < 50):∀ f,f0 + 5≤f→RA f (n + 1) 11 t ws:=by
 intro f hf
 obtain ⟨a,_,y,z,b,c,d,e⟩:=ra_10 (f0:=f0) (fun f hf=>fi_pr (h f hf) (by omega)) hh (by omega) hn f (by omega)
 exact ⟨a,fun _=>(h f (by omega)).le (by omega),fun _=>y (by decide),fun _=>z (by decide),fun _=>b (by decide),fun _=>c (by decide),fun _=>d (by decide),fun _=>e (by decide)⟩
theorem ra_0 (h:∀ f,f0≤f→PT f n Clo t ws) (hh:Hd ws) (h2 : 2≤f0) (hn:n < 49):∀ f,f0 + 3≤f→RA f (n + 1) 0 t ws:=by
 intro f hf
 have u:=uf_of (un_of (h (f - 3) (by omega))) (fun w k=>k.fo) (by omega)
 have e:=ef_of (ex_of (nf_of (ng_of u hh (by omega)) (by omega)) (fun w k=>k.fo) (by omega)) (by omega) (by omega)
 rw [show f - 3 + 1 + 1 + 1=f from by omega] at e
 exact ⟨e0_of e (by omega) (fun w c=>c),fun l=>by omega,fun l=>by omega,fun l=>by omega,fun l=>by omega,fun l=>by omega,fun l=>by omega,fun l=>by omega⟩
theorem rl_11 (h:∀ f,f0≤f→PR f n t ws) (hh:Pri ws) (h2 : 3≤f0) (hn:n < 50):RL (f0 + 5) (n + 1) 11 t ws:=⟨ra_11 h hh h2 hn,hh.opn,fun _=>hh,fun _=>hh.hd⟩
theorem rl_10 (h:∀ f,f0≤f→FI f n t ws) (hh:Pri ws) (h2 : 3≤f0) (hn:n < 50):RL (f0 + 5) (n + 1) 10 t ws:=⟨ra_10 h hh h2 hn,hh.opn,fun _=>hh,fun _=>hh.hd⟩
theorem rl_9 (h:∀ f,f0≤f→PT f n (Fo 9) t ws) (hh:Hd ws) (ho:Opn ws) (h2 : 2≤f0) (hn:n < 50):RL (f0 + 3) (n + 1) 9 t ws:=⟨ra_9 h hh h2 hn,ho,fun l=>by omega,fun _=>hh⟩
theorem rl_8 (h:∀ f,f0≤f→UN f n (Fo 8) t ws) (hh:Hd ws) (ho:Opn ws) (h2 : 2≤f0) (hn:n < 50):RL (f0 + 3) (n + 1) 8 t ws:=⟨ra_8 h hh h2 hn,ho,fun l=>by omega,fun _=>hh⟩
theorem rl_7 (h:∀ f,f0≤f→NG f n (Fo 7) n t ws) (ho:Opn ws) (h2 : 2≤f0) (hn:n < 50):RL (f0 + 2) (n + 1) 7 t ws:=⟨ra_7 h h2 hn,ho,fun l=>by omega,fun l=>by omega⟩
theorem rl_k (k:Nat) (hk : 1≤k) (k7:k ≤ 6) (h:∀ f,f0≤f→EX f n k (Fo k) t ws) (ho:Opn ws) (h2 : 2≤f0) (hn : 1≤n):RL (f0 + 1) n k t ws:=⟨ra_k k hk k7 h h2 hn,ho,fun l=>by omega,fun l=>by omega⟩
theorem rl_0 (h:∀ f,f0≤f→PT f n Clo t ws) (hh:Hd ws) (ho:Opn ws) (h2 : 2≤f0) (hn:n < 49):RL (f0 + 3) (n + 1) 0 t ws:=⟨ra_0 h hh h2 hn,ho,fun l=>by omega,fun l=>by omega⟩
theorem RA.le (h:RA f n L t ws) (l:n≤n'):RA f n' L t ws:=⟨h.e0.le l,fun k=>(h.r11 k).le l,fun k=>(h.r10 k).le l,fun k=>(h.r9 k).le l (fun _ k=>k),fun k=>(h.r8 k).le l (fun _ k=>k),fun k=>(h.r7 k).le l (fun _ k=>k) l,fun k=>(h.ex k).le l (fun _ k=>k) (Nat.le_refl _),fun k=>(h.ef k).le l (fun _ k=>k) (Nat.le_refl _)⟩
theorem RL.le {f1:Nat} (h:RL f0 n L t ws) (l:n≤n') (k:f0≤f1):RL f1 n' L t ws:=⟨fun f hf=>(h.all f (by omega)).le l,h.opn,h.pri,h.hd⟩
end
section
variable {Γ:Sn} {a f f0 n n' L L1 L2 j k:Nat} {t t1 t2:T} {ws fo:List T} {u s s1 s2:List Nat}
theorem tk_lp (h:CT Γ a ([40]++u) fo):SG Γ a [40] u fo [wd [115,105,103,110] [40] a]:=tk_m1 (b:=false) (by unfold mkP;decide) rfl rfl (fun _=>rfl) h
theorem tk_rp (h:CT Γ a ([41]++u) fo):SG Γ a [41] u fo [wd [115,105,103,110] [41] a]:=tk_m1 (b:=false) (by unfold mkP;decide) rfl rfl (fun _=>rfl) h
theorem tk_lb (h:CT Γ a ([91]++u) fo):SG Γ a [91] u fo [wd [115,105,103,110] [91] a]:=tk_m1 (b:=false) (by unfold mkP;decide) rfl rfl (fun _=>rfl) h
theorem tk_rb (h:CT Γ a ([93]++u) fo):SG Γ a [93] u fo [wd [115,105,103,110] [93] a]:=tk_m1 (b:=false) (by unfold mkP;decide) rfl rfl (fun _=>rfl) h
theorem tk_cm (h:CT Γ a ([44]++u) fo):SG Γ a [44] u fo [wd [115,105,103,110] [44] a]:=tk_m1 (b:=false) (by unfold mkP;decide) rfl rfl (fun _=>rfl) h
theorem tk_cc (h:CT Γ a ([58,58]++u) fo):SG Γ a [58,58] u fo [wd [115,105,103,110] [58,58] a]:=tk_m2 (b:=false) (by unfold mkP;decide) rfl rfl (fun _=>rfl) h
theorem tk_mi (h:CT Γ a ([45]++u) fo):SG Γ a [45] u fo [wd [111,112,101,114,97,116,111,114] [45] a]:=tk_m1 (b:=true) (by unfold mkP;decide) rfl rfl (fun q=>nomatch q) h
theorem tk_sl (hu:¬ (hd1 u=[47])) (h:CT Γ a ([47]++u) fo):SG Γ a [47] u fo [wd [111,112,101,114,97,116,111,114] [47] a]:=by
 refine tk_m1 (b:=true) (by unfold mkP;decide) ?_ rfl (fun q=>nomatch q) h
 cases u with
 | nil=>rfl
 | cons c u=>
  have e:c ≠ 47:=fun q=>hu (by rw [q];rfl)
  show some (!([T.str [47,47],.str [33,61],.str [60,61],.str [62,61],.str [46,46],.str [58,58]].any fun x=>match x with | .str b=>decide ([47,c]=b) | _=>false))=_
  simp [e]
theorem z2m (c:Nat) (hc:c∈flL):Fol (c :: u):= .sg hc
theorem hd_47 {c:Nat} (h:c ≠ 47):¬ (hd1 (c :: u)=[47]):=fun q=>h (by injection q)
noncomputable def Sx (f0 n L:Nat) (t:T) (s:List Nat):Prop:=∀ Γ a u fo,CT Γ a (s++u) fo→Fol u→(L = 0→¬ (hd1 u=[47]))→NotB fo→∃ ws,RL f0 n L t ws∧(L ≠ 0→IsB (fo++ws))∧SG Γ a s u fo ws
theorem Sx.le {f1:Nat} (h:Sx f0 n L t s) (l:n≤n') (k:f0≤f1):Sx f1 n' L t s:=fun Γ a u fo c hu h0 hB=>let ⟨ws,r,b,g⟩:=h Γ a u fo c hu h0 hB;⟨ws,r.le l k,b,g⟩
theorem pri_k {k t:List Nat} {p:Int} {r:List T} (h:k≠[111,112,101,114,97,116,111,114]) (h':cmpT 9 (.str k) ((globT 12).getD .none)=some false):Pri (wd k t p :: r):=⟨k,t,p,r,rfl,.inl ⟨h,h'⟩⟩
theorem z5k {k x:List Nat} (h:∀ p f,3≤f→PR f 0 t [wd k x p]) (h1:k≠[111,112,101,114,97,116,111,114]) (h2:k≠[115,105,103,110]) (h3:cmpT 9 (.str k) ((globT 12).getD .none)=some false)
  (g:∀ Γ a u fo,CT Γ a (s++u) fo→Fol u→SG Γ a s u fo [wd k x a]):Sx 8 1 11 t s:=fun Γ a u fo c hu _ _=>
 ⟨_,rl_11 (f0:=3) (n:=0) (h a) (pri_k h1 h3) (by decide) (by decide),fun _=> .app (yb_k h1 h2),g Γ a u fo c hu⟩
theorem PR.up {f':Nat} (h:PR f n t ws) (l:f≤f'):PR f' n t ws:=fun Γ a dp υ hw hd=>(h Γ a dp υ hw hd).up l
theorem zd1 {c:Nat} (hq:c = 34∨c = 39) (hc:c∉s):Sx 8 1 11 (.node 0 [.str s]) (c :: (s++[c])) :=
 z5k (fun p f hf=>zh1.up (by omega)) (by decide) (by decide) rfl fun Γ a u fo ct _=>zd0 hq hc ct
theorem zem (h:∀ σ,C 4 50 [.t (.str s)] σ (.t t) σ) (hs:∀ c∈s,fgB c=true) (hs0:s≠[]):Sx 10 1 11 (.node 1 [t]) s:=fun Γ a u fo c hu _ _=>
 ⟨_,rl_11 (f0:=5) (n:=0) (fun f hf=>(zcr (n:=0) h (by decide)).up hf) (pri_k (by decide) rfl) (by decide) (by decide),fun _=> .app (yb_k (by decide) (by decide)),zei hs hs0 hu c⟩
theorem zen (h:∀ σ,C 4 50 [.t (.str (s ++ 46 :: s2))] σ (.t t) σ) (hs:∀ c∈s,fgB c=true) (hs0:s≠[]) (hs2:∀ c∈s2,fgB c=true) (h2:s2≠[]):Sx 10 1 11 (.node 1 [t]) (s ++ 46 :: s2):=fun Γ a u fo c hu _ _=>
 ⟨_,rl_11 (f0:=5) (n:=0) (fun f hf=>(zcr (n:=0) h (by decide)).up hf) (pri_k (by decide) rfl) (by decide) (by decide),fun _=> .app (yb_k (by decide) (by decide)),zej hs hs0 hs2 h2 hu c⟩
theorem zh9 (hn:Nm s):Sx 8 1 11 (.node 2 [.str s]) (36 :: s) :=
 z5k (fun p f hf=>zcq.up (by omega)) (by decide) (by decide) rfl fun Γ a u fo ct hu=>zh4 hn hu ct
theorem zeo (hn:Nm s) (hn2:Nm s2) (hl:s.length+s2.length + 1≤lineS):Sx 8 1 11 (.node 2 [.str (s++[58]++s2)]) (36 :: (s++[58]++s2)) :=
 z5k (fun p f hf=>zcq.up (by omega)) (by decide) (by decide) rfl fun Γ a u fo ct hu=>zek hn hn2 hu hl ct
theorem zat (h:Sx f0 n L t s) (h2 : 2≤f0) (hn:n < 49):Sx (f0 + 6) (n + 1) 11 t ([40]++(s++[41])):=by
 intro Γ a u fo c hu _ hB
 have e:[40]++(s++[41])++u=[40]++(s++([41]++u)):=by simp
 rw [e] at c
 have g1:=tk_lp c
 have c1:=g1.ct c
 obtain ⟨ws,r,b,g2⟩:=h Γ _ _ _ c1 (z2m 41 (by decide)) (fun _=>hd_47 (by decide)) (.app (nb_sg rfl))
 have c2:=g2.ct c1
 have g3:=tk_rp c2
 refine ⟨_,rl_11 (f0:=f0 + 1) (n:=n) (fun f hf=>?_) ⟨[115,105,103,110],[40],_,_,rfl,.inr ⟨rfl,rfl⟩⟩ (by omega) (by omega),fun _=>?_,SG.app (by rw [List.append_assoc];exact g1) (SG.app g2 g3)⟩
 ·have:=zae (p1:=a) (p2:=(a+[40].length+s.length:Nat)) ((r.all (f - 1) (by omega)).e0) (by omega)
  rw [Nat.sub_add_cancel (by omega)] at this
  exact this
 ·exact ⟨fo++wd [115,105,103,110] [40] a :: ws,wd [115,105,103,110] [41] (a+[40].length+s.length:Nat),by simp,yb_sg rfl⟩
theorem z4c (h:Sx f0 n L t s) (h2 : 2≤f0) (hn:n < 49) (hk:k ≤ 11):∃ L',k≤L'∧Sx (f0 + 6) (n + 1) L' t (if k≤L then s else [40]++(s++[41])):=by
 by_cases q:k≤L
 ·exact ⟨L,q,by rw [if_pos q];exact h.le (by omega) (by omega)⟩
 ·exact ⟨11,hk,by rw [if_neg q];exact zat h h2 hn⟩
theorem zha (h:Sx f0 n L t s) (hl : 7≤L) (h2 : 2≤f0) (hn:n < 49):Sx (f0 + 2) (n + 2) 7 (.node 5 [t]) ([45]++s):=by
 intro Γ a u fo c hu _ hB
 rw [List.append_assoc] at c
 have g1:=tk_mi c
 have c1:=g1.ct c
 obtain ⟨ws,r,b,g2⟩:=h Γ _ _ _ c1 hu (fun q=>by omega) (.app nb_op)
 refine ⟨_,rl_7 (f0:=f0) (n:=n + 1) (fun f hf=>?_) ⟨_,_,_,_,rfl,rfl⟩ h2 (by omega),fun _=>?_,SG.app g1 g2⟩
 ·exact (zgx ((r.all f hf).r7 hl) (by omega)).le (by omega) (fun _ k=>k) (by omega)
 ·have:=b (by omega)
  rwa [List.append_assoc] at this
structure OpT (o:List Nat):Prop where
 tk:∀ {Γ a u fo},CT Γ a (o++(32 :: u)) fo→IsB fo→∃ p,SG Γ a o (32 :: u) fo [wd [111,112,101,114,97,116,111,114] o p]
 hd:∃ c v,o=c :: v∧spB c=false∧c ≠ 40∧c ≠ 58
theorem z3s (hn:Nm s) (hk:cmpT 9 (.str s) ((globT 6).getD .none)=some false):OpT s :=
 ⟨fun c b=>⟨_,zeh hn b hk c⟩,by obtain ⟨c,cs,rfl,h1,h2⟩:=nm_hd hn;exact ⟨c,cs,rfl,z6f (by omega),by omega,by omega⟩⟩
theorem op_m1 {c:Nat} (hc:mkP c) (h1:cmpT 9 (.str [c,32]) ((globT 3).getD .none)=some true) (h2:cmpT 8 (.str [c]) ((globT 4).getD .none)=some true) (h3:spB c=false∧c ≠ 40∧c ≠ 58):OpT [c] :=
 ⟨fun k _=>⟨_,tk_m1 (b:=true) hc h1 h2 (fun q=>nomatch q) k⟩,c,[],rfl,h3⟩
theorem op_m2 {c c2:Nat} (hc:mkP c) (h1:cmpT 9 (.str [c,c2]) ((globT 3).getD .none)=some false) (h2:cmpT 8 (.str [c,c2]) ((globT 4).getD .none)=some true) (h3:spB c=false∧c ≠ 40∧c ≠ 58):OpT [c,c2] :=
 ⟨fun k _=>⟨_,tk_m2 (b:=true) hc h1 h2 (fun q=>nomatch q) k⟩,c,[c2],rfl,h3⟩
theorem zep:OpT [42]:=⟨fun c b=>zel b c,42,[],rfl,rfl,by decide,by decide⟩
theorem zd2 {o:List Nat} {P:List T→Prop} (ho:OpT o) (hl:Sx f0 n L1 t1 s1) (h1:L1 ≠ 0) (hr:Sx f0 n L2 t2 s2) (h2:L2 ≠ 0)
  (hP:∀ w1 w2 p,RL f0 n L1 t1 w1→RL f0 n L2 t2 w2→P (w1++wd [111,112,101,114,97,116,111,114] o p :: w2)) (Γ:Sn) (a:Nat) (u:List Nat) (fo:List T) (c:CT Γ a ((s1++([32]++(o++([32]++s2))))++u) fo) (hu:Fol u) (hB:NotB fo) :
  ∃ ws,P ws∧IsB (fo++ws)∧SG Γ a (s1++([32]++(o++([32]++s2)))) u fo ws:=by
 have e:(s1++([32]++(o++([32]++s2))))++u=s1++([32]++(o++([32]++(s2++u)))):=by simp
 rw [e] at c
 obtain ⟨x,v,rfl,q1,q2,q3⟩:=ho.hd
 obtain ⟨w1,r1,b1,g1⟩:=hl Γ a _ fo c (.sp q1 q2 q3) (fun q=>absurd q h1) hB
 have c1:=g1.ct c
 have g2:SG Γ (a+s1.length) [32] (x :: v++([32]++(s2++u))) (fo++w1) []:=sg_sp rfl
 have c2:=g2.ct c1
 obtain ⟨p,g3⟩:=ho.tk c2 (by rw [List.append_nil];exact b1 h1)
 have c3:=g3.ct c2
 have g4:SG Γ (a+s1.length+[32].length+(x :: v).length) [32] (s2++u) (fo++w1++[]++[wd [111,112,101,114,97,116,111,114] (x :: v) p]) []:=sg_sp rfl
 have c4:=g4.ct c3
 obtain ⟨w2,r2,b2,g5⟩:=hr Γ _ u _ c4 hu (fun q=>absurd q h2) (by rw [List.append_nil];exact .app nb_op)
 refine ⟨w1++wd [111,112,101,114,97,116,111,114] (x :: v) p :: w2,hP w1 w2 p r1 r2,?_,?_⟩
 ·have:=b2 h2
  simpa using this
 ·have z:=SG.app (s1:=s1) (s2:=[32]++(x :: v++([32]++s2))) (u:=u) (by simpa using g1) (SG.app (by simpa using g2) (SG.app (by simpa using g3) (SG.app g4 g5)))
  simpa using z
theorem zhb {o:List Nat} (ho:OpT o) (k1 : 1≤k) (k6:k ≤ 6) (hk:lvO o=k) (b1:o≠[124]) (b2:o≠[47]) (b3:o≠[47,47]) (hl:Sx f0 n L1 t1 s1) (h1:k≤L1) (hr:Sx f0 n L2 t2 s2) (h2:k + 1≤L2) (hf : 2≤f0) (hn:n < 49) :
  Sx (f0 + 1) (n + 1) k (.node 4 [.str o,t1,t2]) (s1++([32]++(o++([32]++s2)))):=by
 intro Γ a u fo c hu _ hB
 obtain ⟨ws,r,b,g⟩:=zd2 (P:=RL (f0 + 1) (n + 1) k (.node 4 [.str o,t1,t2])) ho hl (by omega) hr (by omega) (fun w1 w2 p r1 r2=>by
  refine rl_k (f0:=f0) k k1 k6 (fun f hf=>?_) ?_ hf (by omega)
  ·exact zgy ((r1.all f hf).ex (by omega)) ((r2.all f hf).ef (by omega)) hk k1 k6 (by omega) (by omega) (by omega) (by omega) b1 b2 b3 (by omega) (Nat.le_refl _) (Nat.le_refl _) (by omega)
  ·obtain ⟨k,t,p,r,rfl,h⟩:=r1.opn
   exact ⟨_,_,_,_,rfl,h⟩) Γ a u fo c hu hB
 exact ⟨ws,r,fun _=>b,g⟩
theorem zhc (hl:Sx f0 n L1 t1 s1) (h1 : 8≤L1) (hr:Sx f0 n L2 t2 s2) (h2 : 9≤L2) (hf : 2≤f0) (hn:n < 48) :
  Sx (f0 + 3) (n + 2) 8 (.node 4 [.str [124],t1,t2]) (s1++([32]++([124]++([32]++s2)))):=by
 intro Γ a u fo c hu _ hB
 obtain ⟨ws,r,b,g⟩:=zd2 (P:=RL (f0 + 3) (n + 2) 8 (.node 4 [.str [124],t1,t2])) (op_m1 (by unfold mkP;decide) rfl rfl ⟨rfl,by decide,by decide⟩) hl (by omega) hr (by omega) (fun w1 w2 p r1 r2=>by
  refine rl_8 (f0:=f0) (n:=n + 1) (fun f hf=>?_) ?_ ?_ hf (by omega)
  ·exact zgw ((r1.all f hf).r8 h1) (((r2.all f hf).r9 h2).le (Nat.le_refl _) (fun w=>fo98)) (by omega) (Nat.le_refl _) (by omega) (by omega)
  ·obtain ⟨k,t,p,r,rfl,h⟩:=r1.hd h1
   exact ⟨_,_,_,_,rfl,h⟩
  ·obtain ⟨k,t,p,r,rfl,h⟩:=r1.opn
   exact ⟨_,_,_,_,rfl,h⟩) Γ a u fo c hu hB
 exact ⟨ws,r,fun _=>b,g⟩
end
section
variable {Γ:Sn} {a f f0 n n' L L1 L2 j k:Nat} {t t1 t2 te:T} {ws fo ps ts:List T} {u s s1 s2 r x:List Nat}
theorem SG.of {s':List Nat} {ws':List T} (h:SG Γ a s u fo ws) (e:s=s') (e':ws=ws'):SG Γ a s' u fo ws':=by subst e e';exact h
theorem IsB.l (l:List T) {w:T} (h:YB w):IsB (fo++(l++[w])):=⟨fo++l,w,by simp,h⟩
inductive PX (f0 n:Nat):List T→List Nat→Prop
 | nil:PX f0 n [] []
 | cons {L:Nat} {p:T} {s:List Nat} {ps:List T} {r:List Nat}:Sx f0 n L p s→PX f0 n ps r→PX f0 n (p :: ps) ([91]++(s++([93]++r)))
theorem PX.le {f1:Nat} (l:n≤n') (k:f0≤f1) {ps:List T} {r:List Nat} (h:PX f0 n ps r):PX f1 n' ps r:=by
 induction h with
 | nil=>exact .nil
 | cons h q ih=>exact .cons (h.le l k) ih
theorem z8d {ps:List T} {r:List Nat} (h:PX f0 n ps r):∀ {a:Nat} {fo:List T},CT Γ a (r++u) fo→IsB fo→∃ ws,(∀ f,f0≤f→PL f n ps ws)∧IsB (fo++ws)∧SG Γ a r u fo ws:=by
 induction h with
 | nil=>
  intro a fo _ hB
  exact ⟨[],fun f _=> .nil,by rw [List.append_nil];exact hB,SG.nil⟩
 | cons h q ih=>
  rename_i L p s ps r
  intro a fo c hB
  have c:CT Γ a ([91]++(s++([93]++(r++u)))) fo:=by simpa using c
  have g1:=tk_lb c
  have c1:=g1.ct c
  obtain ⟨w1,r1,b1,g2⟩:=h Γ _ _ _ c1 (z2m 93 (by decide)) (fun _=>hd_47 (by decide)) (.app (nb_sg rfl))
  have c2:=g2.ct c1
  have g3:=tk_rb c2
  have c3:=g3.ct c2
  obtain ⟨w2,h2,b2,g4⟩:=ih c3 (.app (yb_sg rfl))
  refine ⟨wd [115,105,103,110] [91] a :: (w1++wd [115,105,103,110] [93] (a+[91].length+s.length:Nat) :: w2),fun f hf=> .cons ((r1.all f hf).e0) (h2 f hf),?_,?_⟩
  ·simpa using b2
  ·exact (SG.app (by simpa using g1) (SG.app (by simpa using g2) (SG.app g3 g4))).of rfl (by simp)
inductive AX (f0 n:Nat):List T→List Nat→Prop
 | nil:AX f0 n [] []
 | cons {L:Nat} {p:T} {s:List Nat} {ps:List T} {r:List Nat}:Sx f0 n L p s→AX f0 n ps r→AX f0 n (p :: ps) ([44]++([32]++(s++r)))
theorem z6h (h:AX f0 n ps r):Fol (r ++ 41 :: u)∧¬ (hd1 (r ++ 41 :: u)=[47]):=by
 cases h with
 | nil=>exact ⟨z2m 41 (by decide),hd_47 (by decide)⟩
 | cons h q=>exact ⟨z2m 44 (by decide),hd_47 (by decide)⟩
theorem zeq {ps:List T} {r:List Nat} (h:AX f0 n ps r):∀ {a:Nat} {fo:List T},CT Γ a (r ++ 41 :: u) fo→∃ ws,(∀ f,f0≤f→AL f n ps ws)∧SG Γ a r (41 :: u) fo ws:=by
 induction h with
 | nil=>
  intro a fo _
  exact ⟨[],fun f _=> .nil,SG.nil⟩
 | cons h q ih=>
  rename_i L p s ps r
  intro a fo c
  have c:CT Γ a ([44]++([32]++(s++(r ++ 41 :: u)))) fo:=by simpa using c
  have g1:=tk_cm c
  have c1:=g1.ct c
  have g2:SG Γ (a+[44].length) [32] (s++(r ++ 41 :: u)) (fo++[wd [115,105,103,110] [44] a]) []:=sg_sp rfl
  have c2:=g2.ct c1
  obtain ⟨w1,r1,b1,g3⟩:=h Γ _ _ _ c2 (z6h q).1 (fun _=>(z6h q).2) (by rw [List.append_nil];exact .app (nb_sg rfl))
  have c3:=g3.ct c2
  obtain ⟨w2,h2,g4⟩:=ih c3
  refine ⟨wd [115,105,103,110] [44] a :: (w1++w2),fun f hf=> .cons ((r1.all f hf).e0) (h2 f hf),?_⟩
  exact (SG.app (by simpa using g1) (SG.app (by simpa using g2) (SG.app g3 g4))).of rfl (by simp)
noncomputable def FnT (s:List Nat):Prop:=∀ Γ a u fo,CT Γ a (s ++ 40 :: u) fo→NotB fo→SG Γ a s (40 :: u) fo [wd [102,117,110,99,116,105,111,110] s a]
theorem z6i (hn:Nm s) (hk:cmpT 8 (.str s) ((globT 7).getD .none)=some false):FnT s:=fun Γ a u fo c hB=>z8c (b:=false) hn hB hk c
theorem zd3 (hn:Nm s) (hn2:Nm s2) (hk:cmpT 8 (.str (s++[58]++s2)) ((globT 7).getD .none)=some false) (hl:s.length+s2.length + 1≤lineS):FnT (s++[58]++s2):=fun Γ a u fo c hB=>zee (b:=false) hn hn2 hB hk hl c
theorem zau (h:FnT s):Sx 10 1 11 (.node 3 [.str s,.tup []]) (s++([40]++[41])):=by
 intro Γ a u fo c hu _ hB
 have c:CT Γ a (s++([40]++([41]++u))) fo:=by simpa using c
 have g1:=h Γ a _ fo c hB
 have c1:=g1.ct c
 have g2:=tk_lp (u:=[41]++u) c1
 have c2:=g2.ct c1
 have g3:=tk_rp c2
 refine ⟨_,rl_11 (f0:=5) (n:=0) (fun f hf=>zag.up (by omega)) (pri_k (by decide) rfl) (by omega) (by omega),fun _=>?_,(SG.app (s2:=[40]++[41]) g1 (SG.app g2 g3)).of rfl rfl⟩
 exact IsB.l [_,_] (yb_sg rfl)
theorem zer (h:FnT s) (h1:Sx f0 n L t1 s1) (hr:AX f0 n ps r) (hl:ps.length + 1 < lineS) (h2 : 2≤f0) (hn:n < 50):Sx (f0 + 8) (n + 1) 11 (.node 3 [.str s,.tup (t1 :: ps)]) (s++([40]++(s1++(r++[41])))):=by
 intro Γ a u fo c hu _ hB
 have c:CT Γ a (s++([40]++(s1++(r++(41 :: u))))) fo:=by simpa using c
 have g1:=h Γ a _ fo c hB
 have c1:=g1.ct c
 have g2:=tk_lp (u:=s1++(r++(41 :: u))) c1
 have c2:=g2.ct c1
 obtain ⟨w1,r1,b1,g3⟩:=h1 Γ _ _ _ c2 (z6h hr).1 (fun _=>(z6h hr).2) (.app (nb_sg rfl))
 have c3:=g3.ct c2
 obtain ⟨w2,r2,g4⟩:=zeq hr c3
 have c4:=g4.ct c3
 have g5:=tk_rp (u:=u) c4
 refine ⟨wd [102,117,110,99,116,105,111,110] s a :: wd [115,105,103,110] [40] (a+s.length:Nat) :: (w1++(w2++[wd [115,105,103,110] [41] (a+s.length+[40].length+s1.length+r.length:Nat)])),rl_11 (f0:=f0 + 3) (n:=n) (fun f hf=>?_) (pri_k (by decide) rfl) (by omega) (by omega),fun _=>?_,?_⟩
 ·have:=ze8 (f:=f - 2) (s:=s) (p:=a) (p1:=(a+s.length:Nat)) (p2:=(a+s.length+[40].length+s1.length+r.length:Nat)) ((r1.all (f - 2) (by omega)).e0) r1.opn (r2 (f - 2) (by omega)) (by omega) hl
  rw [show f - 2 + 2=f from by omega] at this
  exact this
 ·have:=IsB.l (fo:=fo) (wd [102,117,110,99,116,105,111,110] s a :: wd [115,105,103,110] [40] (a+s.length:Nat) :: (w1++w2)) (yb_sg (t:=[41]) (p:=(a+s.length+[40].length+s1.length+r.length:Nat)) rfl)
  rwa [show (wd [102,117,110,99,116,105,111,110] s a :: wd [115,105,103,110] [40] (a+s.length:Nat) :: (w1++w2))++[wd [115,105,103,110] [41] (a+s.length+[40].length+s1.length+r.length:Nat)]=wd [102,117,110,99,116,105,111,110] s a :: wd [115,105,103,110] [40] (a+s.length:Nat) :: (w1++(w2++[wd [115,105,103,110] [41] (a+s.length+[40].length+s1.length+r.length:Nat)])) from by rw [List.cons_append,List.cons_append,List.append_assoc]] at this
 ·exact (SG.app (s2:=[40]++(s1++(r++[41]))) (by simpa using g1) (SG.app (by simpa using g2) (SG.app (by simpa using g3) (SG.app g4 g5)))).of rfl (by simp)
noncomputable def TX (te:T) (s:List Nat):Prop:=∀ Γ a u fo,CT Γ a (s++u) fo→Fol u→NotB fo→∃ ws,TS 3 te ws∧IsB (fo++ws)∧SG Γ a s u fo ws
theorem TS.up (h:TS 2 t ws):TS 3 t ws:=fun Γ a dp υ hw=>(h Γ a dp υ hw).up
theorem yb_n {t:List Nat} {p:Int}:YB (wd [110,97,109,101] t p):=yb_k (by decide) (by decide)
theorem z5l (hn:Nm s) (h:∀ σ,C 1 49 [.t (.str s)] σ (.t te) σ):TX te s:=fun Γ a u fo c hu hB=>⟨_,(z3p h).up,.app yb_n,zeg hn hB hu c⟩
theorem zav (hn:Nm s) (hn2:Nm s2) (hl:s.length+s2.length + 1≤lineS) (h:∀ σ,C 1 49 [.t (.str (s++[58]++s2))] σ (.t te) σ):TX te (s++[58]++s2):=fun Γ a u fo c hu hB=>⟨_,(z3p h).up,.app yb_n,zan hn hn2 hB hu hl c⟩
theorem zaw (hn:Nm s) (hl:s.length + 2≤lineS) (h:∀ σ,C 1 49 [.t (.str (s++[58,42]))] σ (.t te) σ):TX te (s++[58,42]):=fun Γ a u fo c hu hB=>⟨_,(z3p h).up,.app yb_n,zao hn hB hu hl c⟩
theorem zhd (h:∀ σ,C 1 49 [.t (.str [42])] σ (.t te) σ):TX te [42]:=fun Γ a u fo c hu hB=>let ⟨p,g⟩:=zh5 hB c;⟨_,(z3p h).up,.app yb_n,g⟩
theorem z3t (hn:Nm s) (hk:cmpT 8 (.str s) ((globT 7).getD .none)=some true) (hs:∀ p1 p2 p3:Int,TS 3 te [wd [107,105,110,100] s p1,wd [115,105,103,110] [40] p2,wd [115,105,103,110] [41] p3]):TX te (s++([40]++[41])):=by
 intro Γ a u fo c hu hB
 have c:CT Γ a (s++([40]++([41]++u))) fo:=by simpa using c
 have g1:=z8c (b:=true) hn hB hk c
 have c1:=g1.ct c
 have g2:=tk_lp (u:=[41]++u) c1
 have c2:=g2.ct c1
 have g3:=tk_rp c2
 exact ⟨_,hs _ _ _,IsB.l [_,_] (yb_sg rfl),(SG.app (s2:=[40]++[41]) g1 (SG.app g2 g3)).of rfl rfl⟩
theorem zhe (hc : 34∉x):TX (.tup [.str [105,110,115,116,114,117,99,116,105,111,110],.str x]) ([112,114,111,99,101,115,115,105,110,103,45,105,110,115,116,114,117,99,116,105,111,110]++([40]++(34 :: (x++[34])++[41]))):=by
 intro Γ a u fo c hu hB
 have hn:Nm [112,114,111,99,101,115,115,105,110,103,45,105,110,115,116,114,117,99,116,105,111,110]:=⟨_,_,rfl,by decide,by decide,by unfold nmP;decide⟩
 have c:CT Γ a ([112,114,111,99,101,115,115,105,110,103,45,105,110,115,116,114,117,99,116,105,111,110]++([40]++(34 :: (x++[34])++([41]++u)))) fo:=by simpa using c
 have g1:=z8c (b:=true) hn hB rfl c
 have c1:=g1.ct c
 have g2:=tk_lp c1
 have c2:=g2.ct c1
 have g3:=zd0 (.inl rfl) hc c2
 have c3:=g3.ct c2
 have g4:=tk_rp c3
 exact ⟨_,zgz,IsB.l [_,_,_] (yb_sg rfl),SG.app (by simpa using g1) (SG.app (by simpa using g2) (SG.app g3 g4))⟩
noncomputable def StX (f0 n:Nat) (t:T) (s:List Nat):Prop:=(∃ c v,s=c :: v ∧ 97≤c∧c ≤ 122)∧∀ Γ a u fo,CT Γ a (s++u) fo→Fol u→NotB fo→∃ ws,(∀ f,f0 + 2≤f→SP f n t ws)∧(∃ x p r,ws=wd [97,120,105,115] x p :: r)∧IsB (fo++ws)∧SG Γ a s u fo ws
theorem zd4 (h:PX f0 n ps r) (hu:Fol u):Fol (r++u):=by
 cases h with
 | nil=>exact hu
 | cons h q=>exact z2m 91 (by decide)
theorem st_of (hx:Nm x) (hx2:cmpT 9 (.str x) axT=some false) (ht:TX te s) (hp:PX f0 n ps r) (hl:ps.length < lineS) (h2 : 2≤f0):StX f0 n (.node 8 [.str x,te,.tup ps]) (x++([58,58]++(s++r))):=by
 refine ⟨by obtain ⟨c,cs,rfl,h1,h2⟩:=nm_hd hx;exact ⟨c,_,rfl,h1,h2⟩,fun Γ a u fo c hu hB=>?_⟩
 have c:CT Γ a (x++([58,58]++(s++(r++u)))) fo:=by simpa using c
 have g1:=zef hx hB c
 have c1:=g1.ct c
 have g2:=tk_cc (u:=s++(r++u)) c1
 have c2:=g2.ct c1
 obtain ⟨w1,r1,b1,g3⟩:=ht Γ _ _ _ c2 (zd4 hp hu) (.app (nb_sg rfl))
 have c3:=g3.ct c2
 obtain ⟨w2,r2,b2,g4⟩:=z8d hp c3 b1
 refine ⟨wd [97,120,105,115] x a :: wd [115,105,103,110] [58,58] (a+x.length:Nat) :: (w1++w2),fun f hf=>?_,⟨_,_,_,rfl⟩,by simpa using b2,?_⟩
 ·have:=sp_of (f:=f - 2) (p1:=a) (p2:=(a+x.length:Nat)) hx2 r1 (r2 (f - 2) (by omega)) hl (by omega)
  rw [show f - 2 + 2=f from by omega] at this
  exact this
 ·exact (SG.app (s2:=[58,58]++(s++r)) (by simpa using g1) (SG.app (by simpa using g2) (SG.app g3 g4))).of rfl (by simp)
inductive SX (f0 n:Nat):List T→List Nat→Prop
 | nil:SX f0 n [] []
 | cons {t:T} {s:List Nat} {ts:List T} {r:List Nat}:StX f0 n t s→SX f0 n ts r→SX f0 n (t :: ts) ([47]++(s++r))
theorem zd5 (h:SX f0 n ts r) (hu:Fol u):Fol (r++u):=by
 cases h with
 | nil=>exact hu
 | cons h q=>exact z2m 47 (by decide)
theorem zes (hu:Fol u) {ts:List T} {r:List Nat} (h:SX f0 n ts r):∀ {a:Nat} {fo:List T},CT Γ a (r++u) fo→IsB fo→∃ ws,(∀ f,f0 + 2≤f→SL f n ts ws)∧IsB (fo++ws)∧SG Γ a r u fo ws:=by
 induction h with
 | nil=>
  intro a fo _ hB
  exact ⟨[],fun f _=> .nil,by rw [List.append_nil];exact hB,SG.nil⟩
 | cons h q ih=>
  rename_i t s ts r
  intro a fo c hB
  have c:CT Γ a ([47]++(s++(r++u))) fo:=by simpa using c
  obtain ⟨⟨c0,v,rfl,q1,q2⟩,h⟩:=h
  have g1:=tk_sl (hd_47 (u:=v++(r++u)) (c:=c0) (by omega)) c
  have c1:=g1.ct c
  obtain ⟨w1,r1,_,b1,g2⟩:=h Γ _ _ _ c1 (zd5 q hu) (.app nb_op)
  have c2:=g2.ct c1
  obtain ⟨w2,r2,b2,g3⟩:=ih c2 b1
  refine ⟨wd [111,112,101,114,97,116,111,114] [47] a :: (w1++w2),fun f hf=> .cons (r1 f hf) (r2 f hf),by simpa using b2,?_⟩
  exact (SG.app (s2:=c0 :: v++r) (by simpa using g1) (SG.app g2 g3)).of rfl (by simp)
theorem z5m (ht:StX f0 n t s) (hr:SX f0 n ts r) (hl:ts.length + 1 < lineS) (hu:Fol u) (c:CT Γ a (s++r++u) fo) (hB:NotB fo) :
  ∃ ws,(∀ f,f0 + 3≤f→SS f n (t :: ts) ws)∧(∃ x p r,ws=wd [97,120,105,115] x p :: r)∧IsB (fo++ws)∧SG Γ a (s++r) u fo ws:=by
 rw [List.append_assoc] at c
 obtain ⟨w1,r1,⟨x,p,r',rfl⟩,b1,g1⟩:=ht.2 Γ _ _ _ c (zd5 hr hu) hB
 have c1:=g1.ct c
 obtain ⟨w2,r2,b2,g2⟩:=zes hu hr c1 b1
 refine ⟨wd [97,120,105,115] x p :: r'++w2,fun f hf=>?_,⟨_,_,_,rfl⟩,by simpa using b2,SG.app g1 g2⟩
 have:=ss_of (f:=f - 1) (r1 (f - 1) (by omega)) (r2 (f - 1) (by omega)) (by omega) hl
 rw [show f - 1 + 1=f from by omega] at this
 exact this
theorem st_hd (ht:StX f0 n t s):¬ (hd1 (s++r++u)=[47]):=by
 obtain ⟨⟨c,v,rfl,h1,h2⟩,_⟩:=ht
 exact hd_47 (by omega)
theorem zd6 (ht:StX f0 n t s) (hr:SX f0 n ts r) (hl:ts.length + 1 < lineS) (h2 : 2≤f0) (hn:n < 50):Sx (f0 + 7) (n + 1) 9 (.node 7 [.none,.tup (t :: ts)]) (s++r):=by
 intro Γ a u fo c hu _ hB
 obtain ⟨ws,r1,⟨x,p,r',rfl⟩,b,g⟩:=z5m ht hr hl hu c hB
 refine ⟨_,rl_9 (f0:=f0 + 4) (n:=n) (fun f hf=>?_) ⟨_,_,_,_,rfl,rfl⟩ ⟨_,_,_,_,rfl,rfl⟩ (by omega) (by omega),fun _=>b,g⟩
 have:=zh0 (f:=f - 1) (r1 (f - 1) (by omega)) (by omega) (by simp;omega)
 rw [show f - 1 + 1=f from by omega] at this
 exact this
theorem z8e (ht:StX f0 n t s) (hr:SX f0 n ts r) (hl:ts.length + 1 < lineS) (h2 : 2≤f0) (hn:n < 50):Sx (f0 + 7) (n + 1) 9 (.node 7 [.str [114,111,111,116],.tup (t :: ts)]) ([47]++(s++r)):=by
 intro Γ a u fo c hu _ hB
 have c:CT Γ a ([47]++(s++r++u)) fo:=by simpa using c
 have g1:=tk_sl (st_hd ht) c
 have c1:=g1.ct c
 obtain ⟨ws,r1,⟨x,p,r',rfl⟩,b,g⟩:=z5m ht hr hl hu c1 (.app nb_op)
 refine ⟨_,rl_9 (f0:=f0 + 4) (n:=n) (fun f hf=>?_) ⟨_,_,_,_,rfl,rfl⟩ ⟨_,_,_,_,rfl,rfl⟩ (by omega) (by omega),fun _=>by simpa using b,SG.app g1 g⟩
 have:=ze6 (f:=f - 1) (q:=a) (r1 (f - 1) (by omega)) (by omega) (by simp;omega)
 rw [show f - 1 + 1=f from by omega] at this
 exact this
theorem PT.up {f':Nat} {F:T→Prop} (h:PT f n F t ws) (l:f≤f'):PT f' n F t ws:=fun Γ a dp υ w hw fo hd=>(h Γ a dp υ w hw fo hd).up l
theorem zax:Sx 7 1 0 (.node 7 [.str [114,111,111,116],.tup []]) [47]:=by
 intro Γ a u fo c hu h0 hB
 have g1:=tk_sl (h0 rfl) c
 exact ⟨_,rl_0 (f0:=4) (n:=0) (fun f hf=>zaf.up hf) ⟨_,_,_,_,rfl,rfl⟩ ⟨_,_,_,_,rfl,rfl⟩ (by decide) (by decide),fun q=>absurd rfl q,g1⟩
theorem zet (h1:Sx f0 n L t1 s1) (hk : 10≤L) (ht:StX f0 n t s) (hr:SX f0 n ts r) (hl:ts.length + 1 < lineS) (h2 : 2≤f0) (hn:n < 50):Sx (f0 + 8) (n + 1) 9 (.node 7 [t1,.tup (t :: ts)]) (s1++([47]++(s++r))):=by
 intro Γ a u fo c hu _ hB
 have c:CT Γ a (s1++([47]++(s++r++u))) fo:=by simpa using c
 obtain ⟨w0,r0,b0,g0⟩:=h1 Γ _ _ _ c (z2m 47 (by decide)) (fun q=>by omega) hB
 have c0:=g0.ct c
 have g1:=tk_sl (st_hd ht) c0
 have c1:=g1.ct c0
 obtain ⟨ws,r1,⟨x,p,r',rfl⟩,b,g⟩:=z5m ht hr hl hu c1 (.app nb_op)
 have hp:=r0.pri hk
 refine ⟨w0++wd [111,112,101,114,97,116,111,114] [47] (a+s1.length:Nat) :: wd [97,120,105,115] x p :: r',rl_9 (f0:=f0 + 5) (n:=n) (fun f hf=>?_) ?_ ?_ (by omega) (by omega),fun _=>by simpa using b,(SG.app (s2:=[47]++(s++r)) (by simpa using g0) (SG.app g1 g)).of rfl rfl⟩
 ·have:=ze7 (f:=f - 2) (p:=(a+s1.length:Nat)) hp ((r0.all (f - 2) (by omega)).r10 hk) (r1 (f - 2) (by omega)) (by omega) (by simp;omega)
  rw [show f - 2 + 2=f from by omega] at this
  exact this
 ·obtain ⟨k,t,p,r,rfl,h⟩:=hp.hd
  exact ⟨_,_,_,_,rfl,h⟩
 ·obtain ⟨k,t,p,r,rfl,h⟩:=hp.opn
  exact ⟨_,_,_,_,rfl,h⟩
theorem z8f {q:T} (h1:Sx f0 n L t1 s1) (hk : 11≤L) (hp:PX f0 n (q :: ps) r) (hl:(q :: ps).length < lineS) (h2 : 2≤f0) (hn:n < 50):Sx (f0 + 6) (n + 1) 10 (.node 6 [t1,.tup (q :: ps)]) (s1++r):=by
 intro Γ a u fo c hu _ hB
 rw [List.append_assoc] at c
 have fo1:Fol (r++u):=zd4 hp hu
 obtain ⟨w0,r0,b0,g0⟩:=h1 Γ _ _ _ c fo1 (fun q=>by omega) hB
 have c0:=g0.ct c
 obtain ⟨w1,r1,b1,g1⟩:=z8d hp c0 (b0 (by omega))
 have hp:=r0.pri (by omega)
 refine ⟨w0++w1,rl_10 (f0:=f0 + 1) (n:=n) (fun f hf=>?_) ?_ (by omega) (by omega),fun _=>by simpa using b1,SG.app g0 g1⟩
 ·exact z84 ((r0.all f (by omega)).r11 hk) (r1 (f - 1) (by omega)) hl (by omega)
 ·obtain ⟨k,t,p,r,rfl,h⟩:=hp
  exact ⟨_,_,_,_,rfl,h⟩
end
section
variable {d g f f0 n n' L L1 L2 j k B:Nat} {t t1 t2 te:T} {ps ts:List T} {u s s1 s2 r x:List Nat} {σ:St}
theorem z06 {a b:List Nat} (h:a.length+b.length≤lineS):binT 0 (.str a) (.str b)=some (.str (a++b)):=if_pos h
inductive All2 (R:T→T→Prop):List T→List T→Prop
 | nil:All2 R [] []
 | cons {x y:T} {xs ys:List T}:R x y→All2 R xs ys→All2 R (x :: xs) (y :: ys)
theorem z6j {e:X} {i:Nat} {ρ:List V} {R:T→T→Prop} (hR:∀ x y,R x y→∀ acc:List T,D d e (ρ.set i (.t x)) (σ++[.list (acc.map V.t)]) (.t y) (σ++[.list (acc.map V.t)])) :
  ∀ {xs ys:List T},All2 R xs ys→∀ {acc:List T},acc.length+xs.length < lineS→CL d e i ρ σ.length (xs.map V.t) (σ++[.list (acc.map V.t)]) (.ref σ.length) (σ++[.list ((acc++ys).map V.t)]):=by
 intro xs ys h
 induction h with
 | nil=>
  intro acc _
  rw [List.append_nil];exact zck
 | cons h q ih=>
  rename_i x y xs ys
  intro acc hl
  have ih:=ih (acc:=acc++[y]) (by simp at hl ⊢;omega)
  rw [List.append_assoc] at ih
  refine z7r (hR x y h acc) z0o (by simp at hl ⊢;omega) ?_
  rw [show (σ++[MO.list (acc.map V.t)]).set σ.length (.list (acc.map V.t++[V.t y])) = σ++[.list ((acc++[y]).map V.t)] from by rw [z0h];simp]
  exact ih
theorem z3u {e a:X} {i:Nat} {ρ:List V} {xs ys:List T} (h:D d a ρ σ (.t (.tup xs)) σ) (g:CL d e i ρ σ.length (xs.map V.t) (σ++[.list ([].map V.t)]) (.ref σ.length) (σ++[.list (([]++ys).map V.t)])):D d (.comp e i a) ρ σ (.ref σ.length) (σ++[.list (ys.map V.t)]):=zgr h rfl g
theorem zay (ss:List (List Nat)):strsV ((ss.map T.str).map V.t)=some ss:=by
 induction ss with
 | nil=>rfl
 | cons a r ih=>show (strsV ((r.map T.str).map V.t)).map (a :: ·)=_;rw [ih];rfl
theorem z5n {sep:List Nat} {ss:List (List Nat)} (h1:(joinL sep ss).length≤lineS) (h2:ss.length≤lineS) (h3:sep.length ≤ 4):smethV (σ++[.list ((ss.map T.str).map V.t)]) (.t (.str sep)) 4 [.ref σ.length] = .ok (.t (.str (joinL sep ss))) (σ++[.list ((ss.map T.str).map V.t)]):=by
 show (match (σ++[MO.list ((ss.map T.str).map V.t)])[σ.length]? with
  | some (.list l)=>match strsV l with
   | some ss=>if (joinL sep ss).length≤lineS∧ss.length≤lineS∧sep.length ≤ 4 then R.ok (V.t (.str (joinL sep ss))) (σ++[MO.list _]) else .bot
   | Option.none=> .bot
  | _=> .bot)=_
 rw [z0o]
 show (match strsV ((ss.map T.str).map V.t) with
   | some ss=>_
   | Option.none=>_:R V)=_
 rw [zay]
 exact if_pos ⟨h1,h2,h3⟩
theorem zd7 {ys:List T} (h:ys.length≤lineS):bltV (σ++[.list (ys.map V.t)]) 5 [.ref σ.length]=some (.tup ys):=by
 show (match (σ++[MO.list (ys.map V.t)])[σ.length]? with
  | some (.list l)=>(treesV l).bind fun r=>if r.length≤lineS then some (T.tup r) else Option.none
  | _=>Option.none)=_
 rw [z0o]
 show (treesV (ys.map V.t)).bind _=_
 rw [z2g]
 exact if_pos h
theorem quo_1 (h : 34∉s) (l:s.length + 2≤lineS):C 1 74 [.t (.str s)] σ (.t (.str (34 :: (s++[34])))) σ:=by
 have c:cmpV σ 9 (.t (.str [34])) (.t (.str s))=some true:=by
  show some (!s.contains 34)=_
  rw [List.contains_eq_mem,decide_eq_false h];rfl
 have b1:binT 0 (.str [34]) (.str s)=some (.str (34 :: s)):=z06 (by simp;omega)
 have b2:binT 0 (.str (34 :: s)) (.str [34])=some (.str (34 :: (s++[34]))):=z06 (by simp;omega)
 apply c_of (ρ:=[_]) rfl rfl
 repeat (first | exact c | exact b1 | exact b2 | sizeOf_list_dec)
 exact z00 rfl
theorem quo_2 (h : 34∈s) (h' : 39∉s) (l:s.length + 2≤lineS):C 1 74 [.t (.str s)] σ (.t (.str (39 :: (s++[39])))) σ:=by
 have c:cmpV σ 9 (.t (.str [34])) (.t (.str s))=some false:=by
  show some (!s.contains 34)=_
  rw [List.contains_eq_mem,decide_eq_true h];rfl
 have c':cmpV σ 8 (.t (.str [39])) (.t (.str s))=some false:=by
  show some (s.contains 39)=_
  rw [List.contains_eq_mem,decide_eq_false h']
 have b1:binT 0 (.str [39]) (.str s)=some (.str (39 :: s)):=z06 (by simp;omega)
 have b2:binT 0 (.str (39 :: s)) (.str [39])=some (.str (39 :: (s++[39]))):=z06 (by simp;omega)
 apply c_of (ρ:=[_]) rfl rfl
 repeat (first | exact c | exact c' | exact b1 | exact b2 | sizeOf_list_dec)
 exact z00 rfl
noncomputable def Lv (t:T) (L:Nat):Prop:=∀ σ,C 1 73 [.t t] σ (.t (.int (L:Nat))) σ
theorem zd8 {o:List Nat} {k:Nat} (h:(dictAt [([111,114],1),([97,110,100],2),([61],3),([33,61],3),([43],5),([45],5),([42],6),([100,105,118],6),([109,111,100],6),([124],8)] o).getD 4=(k:Nat)):Lv (.node 4 [.str o,t1,t2]) k:=by
 intro σ
 rw [← h]
 apply c_of (ρ:=[_,.undef]) rfl rfl
 repeat sizeOf_list_dec
 exact z00 rfl
theorem zhf:Lv (.node 5 [t]) 7:=by
 intro σ
 apply c_of (ρ:=[_,.undef]) rfl rfl
 repeat sizeOf_list_dec
 exact z00 rfl
theorem zhg:Lv (.node 6 [t1,t2]) 10:=by
 intro σ
 apply c_of (ρ:=[_,.undef]) rfl rfl
 repeat sizeOf_list_dec
 exact z00 rfl
theorem z26 {c:Nat} {l:List T} (h:c < 4):Lv (.node c l) 11:=by
 intro σ
 rcases (show c = 0∨c = 1∨c = 2∨c = 3 by omega) with rfl | rfl | rfl | rfl
 all_goals
  apply c_of (ρ:=[_,.undef]) rfl rfl
  repeat sizeOf_list_dec
  exact z00 rfl
theorem zaz:Lv (.node 7 [.str [114,111,111,116],.tup []]) 0:=by
 intro σ
 apply c_of (ρ:=[_,.undef]) rfl rfl
 repeat sizeOf_list_dec
 exact z00 rfl
theorem z2n {b:Bool} (h:cmpT 0 t1 (.str [114,111,111,116])=some b):Lv (.node 7 [t1,.tup (t :: ts)]) 9:=by
 intro σ
 cases b
 ·apply c_of (ρ:=[_,.undef]) rfl rfl
  repeat (first | exact h | sizeOf_list_dec)
  exact z00 rfl
 ·have q:cmpV σ 0 (.t (.tup (t :: ts))) (.t (.tup []))=some false:=rfl
  apply c_of (ρ:=[_,.undef]) rfl rfl
  repeat (first | exact h | exact q | sizeOf_list_dec)
  exact z00 rfl
noncomputable def Wr (g:Nat) (t:T) (s:List Nat):Prop:=∀ σ,Lw σ→C g 82 [.t t] σ (.t (.str s)) σ
noncomputable def par (k L:Nat) (s:List Nat):List Nat:=if k≤L then s else [40]++(s++[41])
theorem z0r:(par k L s).length≤s.length + 2:=by unfold par;split<;>simp
theorem z4d (h:Wr g t s) (h2:Lv t L) (lw:Lw σ) (l:s.length + 2≤lineS) (hg : 1≤g):C (g + 1) 77 [.t t,.t (.int (k:Nat))] σ (.t (.str (par k L s))) σ:=by
 have c1:=h σ lw
 have c2:=(h2 σ).up (e:=g)
 unfold par
 split
 ·rename_i q
  apply c_of (ρ:=[_,_,.undef]) rfl rfl
  repeat (first | exact c1 | exact c2 | (apply e_t;exact tr_t (by omega)) | sizeOf_list_dec)
  exact z00 rfl
 ·rename_i q
  have b1:binT 0 (.str [40]) (.str s)=some (.str (40 :: s)):=z06 (by simp;omega)
  have b2:binT 0 (.str (40 :: s)) (.str [41])=some (.str ([40]++(s++[41]))):=z06 (by simp;omega)
  apply c_of (ρ:=[_,_,.undef]) rfl rfl
  repeat (first | exact c1 | exact c2 | exact b1 | exact b2 | (apply e_f;exact tr_f (by omega)) | sizeOf_list_dec)
  exact z00 rfl
end
section
variable {d g f f0 n n' L L1 L2 j k B:Nat} {t t1 t2 te:T} {ps ts:List T} {u s s1 s2 r x:List Nat} {ss:List (List Nat)} {σ:St}
noncomputable def prT:List (List Nat)→List Nat
 | []=>[]
 | s :: r=>[91]++(s++([93]++prT r))
noncomputable def arT:List (List Nat)→List Nat
 | []=>[]
 | s :: r=>[44]++([32]++(s++arT r))
noncomputable def slT:List (List Nat)→List Nat
 | []=>[]
 | s :: r=>[47]++(s++slT r)
theorem z8g:∀ ss:List (List Nat),joinL [] (ss.map fun s=>[91]++s++[93])=prT ss:=by
 intro ss
 induction ss with
 | nil=>rfl
 | cons s r ih=>
  cases r with
  | nil=>show [91]++s++[93]=[91]++(s++([93]++[]));simp
  | cons s' r=>
   show [91]++s++[93]++[]++joinL [] ((s' :: r).map fun s=>[91]++s++[93])=[91]++(s++([93]++prT (s' :: r)))
   rw [ih];simp
theorem z5o (s:List Nat) (ss:List (List Nat)):joinL [44,32] (s :: ss)=s++arT ss:=by
 induction ss generalizing s with
 | nil=>exact (List.append_nil s).symm
 | cons s' r ih=>
  show s++[44,32]++joinL [44,32] (s' :: r)=s++([44]++([32]++(s'++arT r)))
  rw [ih];simp
theorem z0e (s:List Nat) (ss:List (List Nat)):joinL [47] (s :: ss)=s++slT ss:=by
 induction ss generalizing s with
 | nil=>exact (List.append_nil s).symm
 | cons s' r ih=>
  show s++[47]++joinL [47] (s' :: r)=s++([47]++(s'++slT r))
  rw [ih];simp
inductive WL (R:T→List Nat→Prop) (B:Nat):List T→List (List Nat)→Prop
 | nil:WL R B [] []
 | cons {t:T} {s:List Nat} {ts:List T} {ss:List (List Nat)}:R t s→s.length≤B→WL R B ts ss→WL R B (t :: ts) (s :: ss)
section
variable {R:T→List Nat→Prop} {ts:List T} {ss:List (List Nat)}
theorem WL.all (fn:List Nat→List Nat) (h:WL R B ts ss):All2 (fun x y=>∃ s,y = .str (fn s)∧R x s∧s.length≤B) ts ((ss.map fn).map T.str):=by
 induction h with
 | nil=>exact .nil
 | cons h l q ih=>exact .cons ⟨_,rfl,h,l⟩ ih
theorem WL.len (h:WL R B ts ss):ss.length=ts.length:=by
 induction h with
 | nil=>rfl
 | cons h l q ih=>exact congrArg (· + 1) ih
theorem z8h {a b c k:Nat} (h1:a≤B) (h2:b≤(B + 2) * k) (h3:c≤a+b + 2):c≤(B + 2) * (k + 1):=by
 rw [Nat.mul_succ];omega
theorem WL.pr (h:WL R B ts ss):(prT ss).length≤(B + 2) * ts.length:=by
 induction h with
 | nil=>exact Nat.zero_le _
 | cons h l q ih=>exact z8h l ih (by simp [prT]<;>omega)
theorem WL.ar (h:WL R B ts ss):(arT ss).length≤(B + 2) * ts.length:=by
 induction h with
 | nil=>exact Nat.zero_le _
 | cons h l q ih=>exact z8h l ih (by simp [arT]<;>omega)
theorem WL.sl (h:WL R B ts ss):(slT ss).length≤(B + 2) * ts.length:=by
 induction h with
 | nil=>exact Nat.zero_le _
 | cons h l q ih=>exact z8h l ih (by simp [slT]<;>omega)
end
theorem z2o {k:Nat} (hk:k ≤ 3) (hB:B ≤ 100000):(B + 2) * k ≤ 300006:=by
 have:=Nat.mul_le_mul (show B + 2 ≤ 100002 by omega) hk
 omega
theorem lw1 {ts:List T} (h:Lw σ):Lw (σ++[.list (ts.map V.t)]):=ze0 h
theorem z8i (h:WL (Wr g) B ps ss) (lw:Lw σ) (hB:B ≤ 100000) (hl:ps.length ≤ 3) (hg : 1≤g):C (g + 1) 78 [.t (.tup ps)] σ (.t (.str (prT ss))) σ:=by
 have c:=z6j (d:=g) (σ:=σ) (e:= .bin 0 (.bin 0 (.c (.str [91])) (.callF 82 (.cons (.var 1) .nil))) (.c (.str [93]))) (i:=1) (ρ:=[.t (.tup ps),.undef]) (fun x y q acc=>by
  obtain ⟨s,rfl,h,l⟩:=q
  have c1:=h (σ++[.list (acc.map V.t)]) (lw1 lw)
  have b1:binT 0 (.str [91]) (.str s)=some (.str ([91]++s)):=z06 (by simp [lineS];omega)
  have b2:binT 0 (.str ([91]++s)) (.str [93])=some (.str ([91]++s++[93])):=z06 (by simp [lineS];omega)
  apply d_bin
  repeat (first | exact c1 | exact b1 | exact b2 | sizeOf_list_dec)) (h.all fun s=>[91]++s++[93]) (acc:=[]) (by simp [lineS];omega)
 have j:=z5n (σ:=σ) (sep:=[]) (ss:=ss.map fun s=>[91]++s++[93]) (by rw [z8g];have:=h.pr;have:=z2o hl hB;show _ ≤ 1048576;omega) (by simp [h.len,lineS];omega) (by decide)
 rw [z8g] at j
 have e:D g (.comp (.bin 0 (.bin 0 (.c (.str [91])) (.callF 82 (.cons (.var 1) .nil))) (.c (.str [93]))) 1 (.var 0)) [.t (.tup ps),.undef] σ _ _:=z3u (d_vt rfl) c
 apply c_of (ρ:=[_,.undef]) rfl rfl
 ·apply x_ret
  repeat (first | exact e | exact j | sizeOf_list_dec)
 ·exact fin_t rfl lw
structure StW (g B:Nat) (t:T) (s:List Nat):Prop where
 ex:∃ x te ps tt ss,t = .node 8 [.str x,te,.tup ps]∧s=x++([58,58]++(tt++prT ss))∧(∀ σ,C 2 76 [.t te] σ (.t (.str tt)) σ)∧WL (Wr g) B ps ss∧ps.length ≤ 3∧x.length+tt.length ≤ 100
theorem z3v (h:WL (StW g B) (3 * B + 200) ts ss) (lw:Lw σ) (hB:B ≤ 30000) (hl:ts.length ≤ 3) (hg : 1≤g):C (g + 2) 79 [.t (.tup ts)] σ (.t (.str (joinL [47] ss))) σ:=by
 have c:=z6j (d:=g + 1) (σ:=σ) (e:= .bin 0 (.bin 0 (.bin 0 (.attr (.var 1) 11) (.c (.str [58,58]))) (.callF 76 (.cons (.attr (.var 1) 12) .nil))) (.callF 78 (.cons (.attr (.var 1) 8) .nil))) (i:=1) (ρ:=[.t (.tup ts),.undef]) (fun x y q acc=>by
  obtain ⟨s,rfl,⟨x,te,ps,tt,ss,rfl,rfl,ct,hw,hp,lx⟩,l⟩:=q
  have c1:=(ct (σ++[.list (acc.map V.t)])).up (e:=g + 1)
  have c2:=z8i (σ:=σ++[.list (acc.map V.t)]) hw (lw1 lw) (by omega) hp hg
  simp only [List.length_append,List.length_cons,List.length_nil] at l
  have b1:binT 0 (.str x) (.str [58,58])=some (.str (x++[58,58])):=z06 (by simp [lineS];omega)
  have b2:binT 0 (.str (x++[58,58])) (.str tt)=some (.str (x++[58,58]++tt)):=z06 (by simp [lineS];omega)
  have b3:binT 0 (.str (x++[58,58]++tt)) (.str (prT ss))=some (.str (x++([58,58]++(tt++prT ss)))):=by
   rw [z06 (by simp [lineS];omega)];simp
  apply d_bin
  repeat (first | exact c1 | exact c2 | exact b1 | exact b2 | exact b3 | sizeOf_list_dec)) (h.all id) (acc:=[]) (by simp [lineS];omega)
 have hj:(joinL [47] ss).length≤lineS:=by
  have e1:=h.len
  have e2:=h.sl
  have e3:=z2o (B:=3 * B + 200) hl (by omega)
  cases ss with
  | nil=>simp [joinL]
  | cons s ss=>
   rw [z0e]
   simp only [slT,List.length_append,List.length_cons,List.length_nil] at e2 ⊢
   show _ ≤ 1048576
   omega
 have j:=z5n (σ:=σ) (sep:=[47]) (ss:=ss) hj (by simp [h.len,lineS];omega) (by decide)
 rw [List.map_id] at c
 have e:D (g + 1) (.comp (.bin 0 (.bin 0 (.bin 0 (.attr (.var 1) 11) (.c (.str [58,58]))) (.callF 76 (.cons (.attr (.var 1) 12) .nil))) (.callF 78 (.cons (.attr (.var 1) 8) .nil))) 1 (.var 0)) [.t (.tup ts),.undef] σ _ _:=z3u (d_vt rfl) c
 apply c_of (ρ:=[_,.undef]) rfl rfl
 ·apply x_ret
  repeat (first | exact e | exact j | sizeOf_list_dec)
 ·exact fin_t rfl lw
theorem wr_of {b:S} {c:Nat} {l:List T} (h:C g 82 [.t (.node c l)] σ (.t (.str s)) σ):C g 82 [.t (.node c l)] σ (.t (.str s)) σ:=h
theorem zd9 (h:∀ σ,C 1 74 [.t (.str x)] σ (.t (.str s)) σ):Wr 2 (.node 0 [.str x]) s:=by
 intro σ lw
 have c:=h σ
 apply c_of (ρ:=[_,.undef]) rfl rfl
 repeat (first | exact c | sizeOf_list_dec)
 exact z00 rfl
theorem zda (h:∀ σ,C 1 75 [.t t] σ (.t (.str s)) σ):Wr 2 (.node 1 [t]) s:=by
 intro σ lw
 have c:=h σ
 apply c_of (ρ:=[_,.undef]) rfl rfl
 repeat (first | exact c | sizeOf_list_dec)
 exact z00 rfl
theorem zdb (h:x.length < 1000):Wr 2 (.node 2 [.str x]) (36 :: x):=by
 intro σ lw
 have b1:binT 0 (.str [36]) (.str x)=some (.str (36 :: x)):=z06 (by simp [lineS];omega)
 refine C.up (d:=1) ?_
 apply c_of (ρ:=[_,.undef]) rfl rfl
 repeat (first | exact b1 | sizeOf_list_dec)
 exact z00 rfl
theorem z8j (h:WL (Wr g) B ts ss) (hB:B ≤ 100000) (hl:ts.length ≤ 3) (hx:x.length < 1000) (hj:(joinL [44,32] ss).length ≤ 400000) (hg : 1≤g):Wr (g + 1) (.node 3 [.str x,.tup ts]) (x++([40]++(joinL [44,32] ss++[41]))):=by
 intro σ lw
 have c:=z6j (d:=g) (σ:=σ) (e:= .callF 82 (.cons (.var 1) .nil)) (i:=1) (ρ:=[.t (.node 3 [.str x,.tup ts]),.undef]) (fun x y q acc=>by
  obtain ⟨s,rfl,h,l⟩:=q
  have c1:=h (σ++[.list (acc.map V.t)]) (lw1 lw)
  apply d_f
  repeat (first | exact c1 | sizeOf_list_dec)) (h.all id) (acc:=[]) (by simp [lineS];omega)
 rw [List.map_id] at c
 have j:=z5n (σ:=σ) (sep:=[44,32]) (ss:=ss) (by simp [lineS];omega) (by simp [h.len,lineS];omega) (by decide)
 have b1:binT 0 (.str x) (.str [40])=some (.str (x++[40])):=z06 (by simp [lineS];omega)
 have b2:binT 0 (.str (x++[40])) (.str (joinL [44,32] ss))=some (.str (x++[40]++joinL [44,32] ss)):=z06 (by simp [lineS];omega)
 have b3:binT 0 (.str (x++[40]++joinL [44,32] ss)) (.str [41])=some (.str (x++([40]++(joinL [44,32] ss++[41])))):=by
  rw [z06 (by simp [lineS];omega)];simp
 have e:D g (.comp (.callF 82 (.cons (.var 1) .nil)) 1 (.attr (.var 0) 3)) [.t (.node 3 [.str x,.tup ts]),.undef] σ _ _:=z3u (zcj (d_vt rfl) rfl) c
 apply c_of (ρ:=[_,.undef]) rfl rfl
 repeat (first | exact e | exact j | exact b1 | exact b2 | exact b3 | sizeOf_list_dec)
 exact fin_t rfl lw
theorem zhh {o:List Nat} (h1:Wr g t1 s1) (l1:Lv t1 L1) (h2:Wr g t2 s2) (l2:Lv t2 L2) (lv:Lv (.node 4 [.str o,t1,t2]) k) (hB:s1.length≤B) (hB':s2.length≤B) (hb:B ≤ 100000) (ho:o.length ≤ 10) (hg : 1≤g) :
  Wr (g + 3) (.node 4 [.str o,t1,t2]) (par k L1 s1++([32]++(o++([32]++par (k + 1) L2 s2)))):=by
 intro σ lw
 have p1:=z0r (k:=k) (L:=L1) (s:=s1)
 have p2:=z0r (k:=k + 1) (L:=L2) (s:=s2)
 have c0:=(lv σ).up (e:=g + 1)
 have c1:=z4d (k:=k) h1 l1 lw (by simp [lineS];omega) hg
 have c2:C (g + 1) 77 [.t t2,.t (.int ((k:Int) + 1))] σ (.t (.str (par (k + 1) L2 s2))) σ:=z4d (k:=k + 1) h2 l2 lw (by simp [lineS];omega) hg
 have b1:binT 0 (.str (par k L1 s1)) (.str [32])=some (.str (par k L1 s1++[32])):=z06 (by simp [lineS];omega)
 have b2:binT 0 (.str (par k L1 s1++[32])) (.str o)=some (.str (par k L1 s1++[32]++o)):=z06 (by simp [lineS];omega)
 have b3:binT 0 (.str (par k L1 s1++[32]++o)) (.str [32])=some (.str (par k L1 s1++[32]++o++[32])):=z06 (by simp [lineS];omega)
 have b4:binT 0 (.str (par k L1 s1++[32]++o++[32])) (.str (par (k + 1) L2 s2))=some (.str (par k L1 s1++([32]++(o++([32]++par (k + 1) L2 s2))))):=by
  rw [z06 (by simp [lineS];omega)];simp
 have c3:C (g + 2) 80 [.t (.node 4 [.str o,t1,t2])] σ (.t (.str (par k L1 s1++([32]++(o++([32]++par (k + 1) L2 s2)))))) σ:=by
  apply c_of (ρ:=[_,.undef]) rfl rfl
  repeat (first | exact c0 | exact c1 | exact c2 | exact b1 | exact b2 | exact b3 | exact b4 | sizeOf_list_dec)
  exact z00 rfl
 apply c_of (ρ:=[_,.undef]) rfl rfl
 repeat (first | exact c3 | sizeOf_list_dec)
 exact z00 rfl
theorem zhi (h1:Wr g t1 s1) (l1:Lv t1 L1) (hB:s1.length ≤ 100000) (hg : 1≤g):Wr (g + 2) (.node 5 [t1]) ([45]++par 7 L1 s1):=by
 intro σ lw
 have p1:=z0r (k:=7) (L:=L1) (s:=s1)
 have c1:=z4d (k:=7) h1 l1 lw (by simp [lineS];omega) hg
 have b1:binT 0 (.str [45]) (.str (par 7 L1 s1))=some (.str ([45]++par 7 L1 s1)):=z06 (by simp [lineS];omega)
 apply c_of (ρ:=[_,.undef]) rfl rfl
 repeat (first | exact c1 | exact b1 | sizeOf_list_dec)
 exact z00 rfl
theorem zhj (h1:Wr g t1 s1) (l1:Lv t1 L1) (h:WL (Wr g) B ps ss) (hB:s1.length≤B) (hb:B ≤ 100000) (hl:ps.length ≤ 3) (hg : 1≤g):Wr (g + 2) (.node 6 [t1,.tup ps]) (par 11 L1 s1++prT ss):=by
 intro σ lw
 have p1:=z0r (k:=11) (L:=L1) (s:=s1)
 have c1:=z4d (k:=11) h1 l1 lw (by simp [lineS];omega) hg
 have c2:=z8i h lw hb hl hg
 have b1:binT 0 (.str (par 11 L1 s1)) (.str (prT ss))=some (.str (par 11 L1 s1++prT ss)):=z06 (by have:=h.pr;have:=z2o hl hb;show _ ≤ 1048576;omega)
 apply c_of (ρ:=[_,.undef]) rfl rfl
 repeat (first | exact c1 | exact c2 | exact b1 | sizeOf_list_dec)
 exact z00 rfl
theorem z5p {s:List Nat} (h:∀ σ,Lw σ→C g 81 [.t (.node 7 [t1,t2])] σ (.t (.str s)) σ):Wr (g + 1) (.node 7 [t1,t2]) s:=by
 intro σ lw
 have c:=h σ lw
 apply c_of (ρ:=[_,.undef]) rfl rfl
 repeat (first | exact c | sizeOf_list_dec)
 exact z00 rfl
theorem zdc (h:WL (StW g B) (3 * B + 200) ts ss) (hB:B ≤ 30000) (hl:ts.length ≤ 3) (hg : 1≤g):Wr (g + 4) (.node 7 [.none,.tup ts]) (joinL [47] ss):=by
 refine z5p fun σ lw=>?_
 have c:=z3v h lw hB hl hg
 apply c_of (ρ:=[_]) rfl rfl
 repeat (first | exact c | sizeOf_list_dec)
 exact z00 rfl
theorem z5q (h:WL (StW g B) (3 * B + 200) ts ss) (hB:B ≤ 30000) (hl:ts.length ≤ 3) (hj:(joinL [47] ss).length ≤ 400000) (hg : 1≤g):Wr (g + 4) (.node 7 [.str [114,111,111,116],.tup ts]) ([47]++joinL [47] ss):=by
 refine z5p fun σ lw=>?_
 have c:=z3v h lw hB hl hg
 have b1:binT 0 (.str [47]) (.str (joinL [47] ss))=some (.str ([47]++joinL [47] ss)):=z06 (by simp [lineS];omega)
 apply c_of (ρ:=[_]) rfl rfl
 repeat (first | exact c | exact b1 | sizeOf_list_dec)
 exact z00 rfl
theorem zeu {c:Nat} {l:List T} (h1:Wr (g + 1) (.node c l) s1) (l1:Lv (.node c l) L1) (hc:c < 12) (h:WL (StW g B) (3 * B + 200) ts ss) (hB:B ≤ 30000) (hb:s1.length≤B) (hl:ts.length ≤ 3) (hj:(joinL [47] ss).length ≤ 400000) (hg : 1≤g):Wr (g + 4) (.node 7 [.node c l,.tup ts]) (par 10 L1 s1++([47]++joinL [47] ss)):=by
 refine z5p fun σ lw=>?_
 have p1:=z0r (k:=10) (L:=L1) (s:=s1)
 have c1:=z3v h lw hB hl hg
 have c2:=z4d (k:=10) h1 l1 lw (by simp [lineS];omega) (by omega)
 have q:cmpV σ 0 (.t (.node c l)) (.t (.str [114,111,111,116]))=some false:=if_pos hc
 have b1:binT 0 (.str (par 10 L1 s1)) (.str [47])=some (.str (par 10 L1 s1++[47])):=z06 (by simp [lineS];omega)
 have b2:binT 0 (.str (par 10 L1 s1++[47])) (.str (joinL [47] ss))=some (.str (par 10 L1 s1++([47]++joinL [47] ss))):=by
  rw [z06 (by simp [lineS];omega)];simp
 apply c_of (ρ:=[_]) rfl rfl
 repeat (first | exact c1 | exact c2 | exact q | exact b1 | exact b2 | sizeOf_list_dec)
 exact z00 rfl
end
section
variable {σ:St} {s x:List Nat} {te t:T}
noncomputable def nmB (s:List Nat):Bool:=match s with
 | []=>false
 | c :: cs=>decide (97≤c) && decide (c ≤ 122) && cs.all fun x=>(decide (97≤x) && decide (x ≤ 122)) || decide (x = 45)
theorem nm_of (h:nmB s=true):Nm s:=by
 cases s with
 | nil=>cases h
 | cons c cs=>
  simp only [nmB,Bool.and_eq_true,decide_eq_true_eq] at h
  refine ⟨c,cs,rfl,h.1.1,h.1.2,fun x hx=>?_⟩
  have:=List.all_eq_true.mp h.2 x hx
  simp only [Bool.or_eq_true,Bool.and_eq_true,decide_eq_true_eq] at this
  exact this
theorem zjg (h:∀ σ:St,True):True:=trivial
theorem zhk:C 1 49 [.t (.str [42])] σ (.t (.tup [.str [97,110,121]])) σ:=by
 apply c_of (ρ:=[_,.undef,.undef,.undef]) rfl rfl
 repeat sizeOf_list_dec
 exact z00 rfl
theorem nt_of:C 1 49 [.t (.str [112,58,42])] σ (.t (.tup [.str [97,110,121,32,111,102],.str [112]])) σ:=by
 apply c_of (ρ:=[_,.undef,.undef,.undef]) rfl rfl
 repeat sizeOf_list_dec
 exact z00 rfl
theorem nt_a:C 1 49 [.t (.str [97])] σ (.t (.tup [.str [110,97,109,101],.str [],.str [97]])) σ:=by
 apply c_of (ρ:=[_,.undef,.undef,.undef]) rfl rfl
 repeat sizeOf_list_dec
 exact z00 rfl
theorem nt_b:C 1 49 [.t (.str [112,58,98])] σ (.t (.tup [.str [110,97,109,101],.str [112],.str [98]])) σ:=by
 apply c_of (ρ:=[_,.undef,.undef,.undef]) rfl rfl
 repeat sizeOf_list_dec
 exact z00 rfl
theorem zhl:C 1 49 [.t (.str [100,105,118])] σ (.t (.tup [.str [110,97,109,101],.str [],.str [100,105,118]])) σ:=by
 apply c_of (ρ:=[_,.undef,.undef,.undef]) rfl rfl
 repeat sizeOf_list_dec
 exact z00 rfl
theorem zev:C 1 49 [.t (.str [116,101,120,116])] σ (.t (.tup [.str [110,97,109,101],.str [],.str [116,101,120,116]])) σ:=by
 apply c_of (ρ:=[_,.undef,.undef,.undef]) rfl rfl
 repeat sizeOf_list_dec
 exact z00 rfl
theorem zhm:C 2 76 [.t (.tup [.str [97,110,121]])] σ (.t (.str [42])) σ:=by
 apply c_of (ρ:=[_]) rfl rfl
 repeat sizeOf_list_dec
 exact z00 rfl
theorem tt_of:C 2 76 [.t (.tup [.str [97,110,121,32,111,102],.str [112]])] σ (.t (.str [112,58,42])) σ:=by
 apply c_of (ρ:=[_]) rfl rfl
 repeat sizeOf_list_dec
 exact z00 rfl
theorem z5r:C 2 76 [.t (.tup [.str [110,97,109,101],.str [],.str x])] σ (.t (.str x)) σ:=by
 apply c_of (ρ:=[_]) rfl rfl
 repeat sizeOf_list_dec
 exact z00 rfl
theorem tt_b:C 2 76 [.t (.tup [.str [110,97,109,101],.str [112],.str [98]])] σ (.t (.str [112,58,98])) σ:=by
 apply c_of (ρ:=[_]) rfl rfl
 repeat sizeOf_list_dec
 exact z00 rfl
theorem zew:C 2 76 [.t (.tup [.str [110,111,100,101]])] σ (.t (.str [110,111,100,101,40,41])) σ:=by
 apply c_of (ρ:=[_]) rfl rfl
 repeat sizeOf_list_dec
 exact z00 rfl
theorem zex:C 2 76 [.t (.tup [.str [116,101,120,116]])] σ (.t (.str [116,101,120,116,40,41])) σ:=by
 apply c_of (ρ:=[_]) rfl rfl
 repeat sizeOf_list_dec
 exact z00 rfl
theorem zhn:C 2 76 [.t (.tup [.str [99,111,109,109,101,110,116]])] σ (.t (.str [99,111,109,109,101,110,116,40,41])) σ:=by
 apply c_of (ρ:=[_]) rfl rfl
 repeat sizeOf_list_dec
 exact z00 rfl
theorem tt_pi:C 2 76 [.t (.tup [.str [105,110,115,116,114,117,99,116,105,111,110],.none])] σ (.t (.str [112,114,111,99,101,115,115,105,110,103,45,105,110,115,116,114,117,99,116,105,111,110,40,41])) σ:=by
 apply c_of (ρ:=[_]) rfl rfl
 repeat sizeOf_list_dec
 exact z00 rfl
theorem zho:C 2 76 [.t (.tup [.str [105,110,115,116,114,117,99,116,105,111,110],.str [116]])] σ (.t (.str [112,114,111,99,101,115,115,105,110,103,45,105,110,115,116,114,117,99,116,105,111,110,40,34,116,34,41])) σ:=by
 have c:C 1 74 [.t (.str [116])] σ (.t (.str [34,116,34])) σ:=quo_1 (by decide) (by decide)
 apply c_of (ρ:=[_]) rfl rfl
 repeat (first | exact c | sizeOf_list_dec)
 exact z00 rfl
noncomputable def testsL:List T:=[.tup [.str [97,110,121]],.tup [.str [97,110,121,32,111,102],.str [112]],.tup [.str [110,97,109,101],.str [],.str [97]],.tup [.str [110,97,109,101],.str [112],.str [98]],.tup [.str [110,97,109,101],.str [],.str [100,105,118]],.tup [.str [110,97,109,101],.str [],.str [116,101,120,116]],
 .tup [.str [110,111,100,101]],.tup [.str [116,101,120,116]],.tup [.str [99,111,109,109,101,110,116]],.tup [.str [105,110,115,116,114,117,99,116,105,111,110],.none],.tup [.str [105,110,115,116,114,117,99,116,105,111,110],.str [116]]]
noncomputable def TestOk (te:T):Prop:=∃ tt,(∀ σ,C 2 76 [.t te] σ (.t (.str tt)) σ)∧TX te tt∧tt.length ≤ 40
theorem all_cons {α:Type} {P : α→Prop} {a : α} {l:List α} (h:P a) (k:∀ x∈l,P x):∀ x∈a :: l,P x:=fun x hx=>by cases hx with | head=>exact h | tail _ hx=>exact k x hx
theorem all_nil {α:Type} {P : α→Prop}:∀ x∈([]:List α),P x:=fun x hx=>nomatch hx
theorem z6k:∀ te∈testsL,TestOk te :=
 all_cons ⟨_,fun σ=>zhm,zhd fun σ=>zhk,by decide⟩ <|
 all_cons ⟨_,fun σ=>tt_of,zaw (s:=[112]) (nm_of rfl) (by decide) fun σ=>nt_of,by decide⟩ <|
 all_cons ⟨_,fun σ=>z5r,z5l (nm_of rfl) fun σ=>nt_a,by decide⟩ <|
 all_cons ⟨_,fun σ=>tt_b,zav (s:=[112]) (s2:=[98]) (nm_of rfl) (nm_of rfl) (by decide) fun σ=>nt_b,by decide⟩ <|
 all_cons ⟨_,fun σ=>z5r,z5l (nm_of rfl) fun σ=>zhl,by decide⟩ <|
 all_cons ⟨_,fun σ=>z5r,z5l (nm_of rfl) fun σ=>zev,by decide⟩ <|
 all_cons ⟨_,fun σ=>zew,z3t (s:=[110,111,100,101]) (nm_of rfl) rfl fun _ _ _=>z5g (by decide),by decide⟩ <|
 all_cons ⟨_,fun σ=>zex,z3t (s:=[116,101,120,116]) (nm_of rfl) rfl fun _ _ _=>z5g (by decide),by decide⟩ <|
 all_cons ⟨_,fun σ=>zhn,z3t (s:=[99,111,109,109,101,110,116]) (nm_of rfl) rfl fun _ _ _=>z5g (by decide),by decide⟩ <|
 all_cons ⟨_,fun σ=>tt_pi,z3t (s:=[112,114,111,99,101,115,115,105,110,103,45,105,110,115,116,114,117,99,116,105,111,110]) (nm_of rfl) rfl fun _ _ _=>ts_pi,by decide⟩ <|
 all_cons ⟨_,fun σ=>zho,zhe (x:=[116]) (by decide),by decide⟩ all_nil
noncomputable def NumOk (t:T) (s:List Nat):Prop:=(∀ σ,C 1 75 [.t t] σ (.t (.str s)) σ)∧∀ σ,C 4 50 [.t (.str s)] σ (.t t) σ
theorem num_0:NumOk (.tup [.int 0,.int 1]) [48]:=by
 refine ⟨fun σ=>?_,fun σ=>?_⟩
 ·apply c_of (ρ:=[_,.undef,.undef,.undef,.undef]) rfl rfl
  repeat sizeOf_list_dec
  exact z00 rfl
 ·have c1:C 2 1 [.t (.int 0),.t (.int 1)] σ (.t (.int 1)) σ:=by
   apply c_of (ρ:=[_,_,.undef,.undef]) rfl rfl
   repeat sizeOf_list_dec
   exact z00 rfl
  have c2:C 3 3 [.t (.int 0),.t (.int 1)] σ (.t (.tup [.int 0,.int 1])) σ:=by
   apply c_of (ρ:=[_,_,.undef]) rfl rfl
   repeat (first | exact c1 | sizeOf_list_dec)
   exact z00 rfl
  apply c_of (ρ:=[_,.undef,.undef,.undef]) rfl rfl
  repeat (first | exact c2 | sizeOf_list_dec)
  exact z00 rfl
theorem num_5:NumOk (.tup [.int 5,.int 1]) [53]:=by
 refine ⟨fun σ=>?_,fun σ=>?_⟩
 ·apply c_of (ρ:=[_,.undef,.undef,.undef,.undef]) rfl rfl
  repeat sizeOf_list_dec
  exact z00 rfl
 ·have c1:C 2 1 [.t (.int 5),.t (.int 1)] σ (.t (.int 1)) σ:=by
   apply c_of (ρ:=[_,_,.undef,.undef]) rfl rfl
   repeat sizeOf_list_dec
   exact z00 rfl
  have c2:C 3 3 [.t (.int 5),.t (.int 1)] σ (.t (.tup [.int 5,.int 1])) σ:=by
   apply c_of (ρ:=[_,_,.undef]) rfl rfl
   repeat (first | exact c1 | sizeOf_list_dec)
   exact z00 rfl
  apply c_of (ρ:=[_,.undef,.undef,.undef]) rfl rfl
  repeat (first | exact c2 | sizeOf_list_dec)
  exact z00 rfl
theorem zey:NumOk (.tup [.int 120,.int 1]) [49,50,48]:=by
 refine ⟨fun σ=>?_,fun σ=>?_⟩
 ·apply c_of (ρ:=[_,.undef,.undef,.undef,.undef]) rfl rfl
  repeat sizeOf_list_dec
  exact z00 rfl
 ·have c1:C 2 1 [.t (.int 120),.t (.int 1)] σ (.t (.int 1)) σ:=by
   apply c_of (ρ:=[_,_,.undef,.undef]) rfl rfl
   repeat sizeOf_list_dec
   exact z00 rfl
  have c2:C 3 3 [.t (.int 120),.t (.int 1)] σ (.t (.tup [.int 120,.int 1])) σ:=by
   apply c_of (ρ:=[_,_,.undef]) rfl rfl
   repeat (first | exact c1 | sizeOf_list_dec)
   exact z00 rfl
  apply c_of (ρ:=[_,.undef,.undef,.undef]) rfl rfl
  repeat (first | exact c2 | sizeOf_list_dec)
  exact z00 rfl
theorem num_h:NumOk (.tup [.int 1,.int 2]) [48,46,53]:=by
 refine ⟨fun σ=>?_,fun σ=>?_⟩
 ·apply c_of (ρ:=[_,.undef,.undef,.undef,.undef]) rfl rfl
  repeat sizeOf_list_dec
  exact z00 rfl
 ·have c1:C 2 1 [.t (.int 5),.t (.int 10)] σ (.t (.int 5)) σ:=by
   apply c_of (ρ:=[_,_,.undef,.undef]) rfl rfl
   repeat sizeOf_list_dec
   exact z00 rfl
  have c2:C 3 3 [.t (.int 5),.t (.int 10)] σ (.t (.tup [.int 1,.int 2])) σ:=by
   apply c_of (ρ:=[_,_,.undef]) rfl rfl
   repeat (first | exact c1 | sizeOf_list_dec)
   exact z00 rfl
  apply c_of (ρ:=[_,.undef,.undef,.undef]) rfl rfl
  repeat (first | exact c2 | sizeOf_list_dec)
  exact z00 rfl
theorem num_q:NumOk (.tup [.int 13,.int 4]) [51,46,50,53]:=by
 refine ⟨fun σ=>?_,fun σ=>?_⟩
 ·apply c_of (ρ:=[_,.undef,.undef,.undef,.undef]) rfl rfl
  repeat sizeOf_list_dec
  exact z00 rfl
 ·have c1:C 2 1 [.t (.int 325),.t (.int 100)] σ (.t (.int 25)) σ:=by
   apply c_of (ρ:=[_,_,.undef,.undef]) rfl rfl
   repeat sizeOf_list_dec
   exact z00 rfl
  have c2:C 3 3 [.t (.int 325),.t (.int 100)] σ (.t (.tup [.int 13,.int 4])) σ:=by
   apply c_of (ρ:=[_,_,.undef]) rfl rfl
   repeat (first | exact c1 | sizeOf_list_dec)
   exact z00 rfl
  apply c_of (ρ:=[_,.undef,.undef,.undef]) rfl rfl
  repeat (first | exact c2 | sizeOf_list_dec)
  exact z00 rfl
noncomputable def axesL:List (List Nat):=[[99,104,105,108,100],[97,116,116,114,105,98,117,116,101],[115,101,108,102],[112,97,114,101,110,116],[112,114,101,99,101,100,105,110,103,45,115,105,98,108,105,110,103],[100,101,115,99,101,110,100,97,110,116,45,111,114,45,115,101,108,102],[97,110,99,101,115,116,111,114],[100,101,115,99,101,110,100,97,110,116],[97,110,99,101,115,116,111,114,45,111,114,45,115,101,108,102],[102,111,108,108,111,119,105,110,103],[102,111,108,108,111,119,105,110,103,45,115,105,98,108,105,110,103],[110,97,109,101,115,112,97,99,101],[112,114,101,99,101,100,105,110,103]]
noncomputable def axB (x:List Nat):Bool:=nmB x && (match cmpT 9 (.str x) axT with | some false=>true | _=>false) && decide (x.length ≤ 20)
theorem zhp:axesL.all axB=true:=by decide +kernel
theorem z8k:∀ x∈axesL,Nm x∧cmpT 9 (.str x) axT=some false∧x.length ≤ 20:=fun x hx=>by
 have h:=List.all_eq_true.mp zhp x hx
 unfold axB at h
 rw [Bool.and_eq_true,Bool.and_eq_true,decide_eq_true_eq] at h
 refine ⟨nm_of h.1.1,?_,h.2⟩
 have h2:=h.1.2
 generalize cmpT 9 (.str x) axT=o at h2
 match o,h2 with
 | some false,_=>rfl
end
section
variable {d g g' f f0 n n' L L1 L2 j k B:Nat} {t t1 t2 te:T} {ps ts:List T} {u s s1 s2 r x o:List Nat} {ss:List (List Nat)} {σ:St}
structure TR (g f0 n B L:Nat) (t:T) (s:List Nat):Prop where
 wr:Wr g t s
 lv:Lv t L
 len:s.length≤B
 rd:Sx f0 n L t s
 nd:∃ c l,t = .node c l∧c < 12
theorem Wr.up (h:Wr g t s) (l:g≤g':=by array_get_dec):Wr g' t s:=fun σ lw=>(h σ lw).up l
noncomputable def gD (d:Nat):Nat:=5 + 4 * d
noncomputable def fD (d:Nat):Nat:=10 + 14 * d
noncomputable def nD (d:Nat):Nat:=1 + 3 * d
noncomputable def bD:Nat→Nat
 | 0=>100
 | d + 1=>8 * bD d + 500
noncomputable def TD (d:Nat) (t:T):Prop:=∃ L s,L ≤ 11∧TR (gD d) (fD d) (nD d) (bD d) L t s
theorem td_up (h:TD d t):TD (d + 1) t:=by
 obtain ⟨L,s,l,h⟩:=h
 exact ⟨L,s,l,h.wr.up (by unfold gD;omega),h.lv,by have:=h.len;show _ ≤ 8 * bD d + 500;omega,h.rd.le (by unfold nD;omega) (by unfold fD;omega),h.nd⟩
theorem td_0 (h:TD 0 t):∀ d,TD d t
 | 0=>h
 | d + 1=>td_up (td_0 h d)
noncomputable def Sm (d:Nat):Prop:=d ≤ 1
theorem sm_b (h:Sm d):bD d ≤ 1300:=by
 rcases (show d = 0∨d = 1 by unfold Sm at h;omega) with rfl | rfl<;>decide
theorem sm_n (h:Sm d):nD d ≤ 4:=by unfold Sm at h;unfold nD;omega
theorem leaf {g f:Nat} (hL:L ≤ 11) (h1:Wr g t s) (h2:Lv t L) (h3:s.length ≤ 100) (h4:Sx f 1 L t s) (h5:∃ c l,t = .node c l∧c < 12) (hg:g ≤ 5) (hf:f ≤ 10):TD 0 t :=
 ⟨L,s,hL,h1.up hg,h2,h3,h4.le (Nat.le_refl _) hf,h5⟩
theorem z5s (h : 34∉x) (l:x.length ≤ 50):TD 0 (.node 0 [.str x]):=leaf (by decide) (zd9 fun σ=>quo_1 h (by simp [lineS];omega)) (z26 (by decide)) (by simp;omega) (zd1 (.inl rfl) h) ⟨_,_,rfl,by decide⟩ (by decide) (by decide)
theorem zez (h : 34∈x) (h' : 39∉x) (l:x.length ≤ 50):TD 0 (.node 0 [.str x]):=leaf (by decide) (zd9 fun σ=>quo_2 h h' (by simp [lineS];omega)) (z26 (by decide)) (by simp;omega) (zd1 (.inr rfl) h') ⟨_,_,rfl,by decide⟩ (by decide) (by decide)
theorem z5t (h:NumOk t s) (hs:∀ c∈s,fgB c=true) (h0:s≠[]) (l:s.length ≤ 50):TD 0 (.node 1 [t]):=leaf (by decide) (zda h.1) (z26 (by decide)) (by omega) (zem h.2 hs h0) ⟨_,_,rfl,by decide⟩ (by decide) (by decide)
theorem z8l (h:NumOk t (s ++ 46 :: s2)) (hs:∀ c∈s,fgB c=true) (h0:s≠[]) (hs2:∀ c∈s2,fgB c=true) (h2:s2≠[]) (l:(s ++ 46 :: s2).length ≤ 50):TD 0 (.node 1 [t]):=leaf (by decide) (zda h.1) (z26 (by decide)) (by omega) (zen h.2 hs h0 hs2 h2) ⟨_,_,rfl,by decide⟩ (by decide) (by decide)
theorem zdd (h:Nm x) (l:x.length ≤ 50):TD 0 (.node 2 [.str x]):=leaf (by decide) (zdb (by omega)) (z26 (by decide)) (by simp;omega) (zh9 h) ⟨_,_,rfl,by decide⟩ (by decide) (by decide)
theorem zf0 (h:Nm s) (h2:Nm s2) (l:s.length+s2.length ≤ 50):TD 0 (.node 2 [.str (s++[58]++s2)]):=leaf (by decide) (zdb (by simp;omega)) (z26 (by decide)) (by simp;omega) (zeo h h2 (by simp [lineS];omega)) ⟨_,_,rfl,by decide⟩ (by decide) (by decide)
theorem z6l (h:FnT x) (l:x.length ≤ 50):TD 0 (.node 3 [.str x,.tup []]):=leaf (by decide) (z8j (g:=1) (B:=0) (ss:=[]) .nil (by decide) (by decide) (by omega) (by decide) (by decide)) (z26 (by decide)) (by simp [joinL];omega) (zau h) ⟨_,_,rfl,by decide⟩ (by decide) (by decide)
theorem zb0:TD 0 (.node 7 [.str [114,111,111,116],.tup []]):=leaf (by decide) (z5q (g:=1) (B:=0) (ss:=[]) .nil (by decide) (by decide) (by decide) (by decide)) zaz (by decide) zax ⟨_,_,rfl,by decide⟩ (by decide) (by decide)
theorem z3w:∀ {ps:List T},(∀ p∈ps,TD d p)→∃ ss,WL (Wr (gD d)) (bD d) ps ss∧PX (fD d) (nD d) ps (prT ss)
 | [],_=>⟨[],.nil,.nil⟩
 | p :: ps,h=>by
  obtain ⟨ss,h1,h2⟩:=z3w fun x hx=>h x (.tail _ hx)
  obtain ⟨L,s,_,k⟩:=h p (.head _)
  exact ⟨s :: ss,.cons k.wr k.len h1,.cons k.rd h2⟩
theorem z8m:∀ {ps:List T},(∀ p∈ps,TD d p)→∃ ss,WL (Wr (gD d)) (bD d) ps ss∧AX (fD d) (nD d) ps (arT ss)
 | [],_=>⟨[],.nil,.nil⟩
 | p :: ps,h=>by
  obtain ⟨ss,h1,h2⟩:=z8m fun x hx=>h x (.tail _ hx)
  obtain ⟨L,s,_,k⟩:=h p (.head _)
  exact ⟨s :: ss,.cons k.wr k.len h1,.cons k.rd h2⟩
noncomputable def StD (d:Nat) (t:T):Prop:=∃ s,StW (gD d) (bD d) t s∧StX (fD d) (nD d) t s∧s.length ≤ 3 * bD d + 200
theorem z3x:∀ {ts:List T},(∀ p∈ts,StD d p)→∃ ss,WL (StW (gD d) (bD d)) (3 * bD d + 200) ts ss∧SX (fD d) (nD d) ts (slT ss)
 | [],_=>⟨[],.nil,.nil⟩
 | p :: ps,h=>by
  obtain ⟨ss,h1,h2⟩:=z3x fun x hx=>h x (.tail _ hx)
  obtain ⟨s,k1,k2,l⟩:=h p (.head _)
  exact ⟨s :: ss,.cons k1 l h1,.cons k2 h2⟩
theorem b100:∀ d,100≤bD d
 | 0=>Nat.le_refl _
 | d + 1=>by have:=b100 d;show 100 ≤ 8 * bD d + 500;omega
theorem zhq (hx:x∈axesL) (ht:te∈testsL) (hp:∀ p∈ps,TD d p) (hl:ps.length ≤ 2):StD d (.node 8 [.str x,te,.tup ps]):=by
 obtain ⟨h1,h2,h3⟩:=z8k x hx
 obtain ⟨tt,q1,q2,q3⟩:=z6k te ht
 obtain ⟨ss,w1,w2⟩:=z3w hp
 have l1:=w1.pr
 have l2:=Nat.mul_le_mul (Nat.le_refl (bD d + 2)) hl
 have l3:=b100 d
 refine ⟨_,⟨x,te,ps,tt,ss,rfl,rfl,q1,w1,by omega,by omega⟩,st_of h1 h2 q2 w2 (by simp [lineS];omega) (by unfold fD;omega),?_⟩
 simp
 omega
theorem StX.le {f1:Nat} (h:StX f0 n t s) (l:n≤n') (k:f0≤f1):StX f1 n' t s:=⟨h.1,fun Γ a u fo c hu hB=>let ⟨ws,a1,a2,a3,a4⟩:=h.2 Γ a u fo c hu hB;⟨ws,fun f hf Γ a dp υ w hw fo hd=>a1 f (by omega) Γ a dp υ w hw fo (by omega),a2,a3,a4⟩⟩
theorem SX.le {f1:Nat} (l:n≤n') (k:f0≤f1) {ts:List T} {r:List Nat} (h:SX f0 n ts r):SX f1 n' ts r:=by
 induction h with
 | nil=>exact .nil
 | cons h q ih=>exact .cons (h.le l k) ih
theorem zhr (h:StD d t) (hs:∀ p∈ts,StD d p) (hl:ts.length ≤ 1) (sm:Sm d):TD (d + 1) (.node 7 [.none,.tup (t :: ts)])∧TD (d + 1) (.node 7 [.str [114,111,111,116],.tup (t :: ts)]):=by
 obtain ⟨s,k1,k2,l⟩:=h
 obtain ⟨ss,w1,w2⟩:=z3x hs
 have hb:=sm_b sm
 have hn:=sm_n sm
 have l1:=w1.sl
 have l2:=Nat.mul_le_mul (Nat.le_refl (3 * bD d + 200 + 2)) hl
 have hj:(joinL [47] (s :: ss)).length ≤ 400000:=by rw [z0e];simp;omega
 constructor
 ·refine ⟨9,joinL [47] (s :: ss),by decide,(zdc (.cons k1 l w1) (by omega) (by simp;omega) (by unfold gD;omega)).up (by unfold gD;omega),z2n (b:=false) rfl,?_,?_,_,_,rfl,by decide⟩
  ·rw [z0e];simp;show _ ≤ 8 * bD d + 500;omega
  ·rw [z0e]
   exact (zd6 k2 w2 (by simp [lineS];omega) (by unfold fD;omega) (by omega)).le (by unfold nD;omega) (by unfold fD;omega)
 ·refine ⟨9,[47]++joinL [47] (s :: ss),by decide,(z5q (.cons k1 l w1) (by omega) (by simp;omega) hj (by unfold gD;omega)).up (by unfold gD;omega),z2n (b:=true) rfl,?_,?_,_,_,rfl,by decide⟩
  ·rw [z0e];simp;show _ ≤ 8 * bD d + 500;omega
  ·rw [z0e]
   exact (z8e k2 w2 (by simp [lineS];omega) (by unfold fD;omega) (by omega)).le (by unfold nD;omega) (by unfold fD;omega)
theorem zf1 (h0:TD d t1) (h:StD d t) (hs:∀ p∈ts,StD d p) (hl:ts.length ≤ 1) (sm:Sm d):TD (d + 1) (.node 7 [t1,.tup (t :: ts)]):=by
 obtain ⟨s,k1,k2,l⟩:=h
 obtain ⟨ss,w1,w2⟩:=z3x hs
 obtain ⟨L,s1,hL,q⟩:=h0
 obtain ⟨c,la,rfl,hc⟩:=q.nd
 have hb:=sm_b sm
 have hn:=sm_n sm
 have l0:=q.len
 have l1:=w1.sl
 have l2:=Nat.mul_le_mul (Nat.le_refl (3 * bD d + 200 + 2)) hl
 have l3:=z0r (k:=10) (L:=L) (s:=s1)
 have hj:(joinL [47] (s :: ss)).length ≤ 400000:=by rw [z0e];simp;omega
 obtain ⟨L',e1,e2⟩:=z4c (k:=10) q.rd (by unfold fD;omega) (by omega) (by decide)
 refine ⟨9,par 10 L s1++([47]++joinL [47] (s :: ss)),by decide,(zeu (q.wr.up (by omega)) q.lv hc (.cons k1 l w1) (by omega) l0 (by simp;omega) hj (by unfold gD;omega)).up (by unfold gD;omega),z2n (b:=false) (if_pos hc),?_,?_,_,_,rfl,by decide⟩
 ·rw [z0e];simp;show _ ≤ 8 * bD d + 500;omega
 ·rw [z0e]
  exact (zet e2 e1 (k2.le (by omega) (by omega)) (SX.le (by omega) (by omega) w2) (by simp [lineS];omega) (by unfold fD;omega) (by omega)).le (by unfold nD;omega) (by unfold fD;omega)
theorem zhs (h0:TD d t1) (sm:Sm d):TD (d + 1) (.node 5 [t1]):=by
 obtain ⟨L,s1,hL,q⟩:=h0
 have hb:=sm_b sm
 have hn:=sm_n sm
 have l0:=q.len
 have l3:=z0r (k:=7) (L:=L) (s:=s1)
 obtain ⟨L',e1,e2⟩:=z4c (k:=7) q.rd (by unfold fD;omega) (by omega) (by decide)
 refine ⟨7,[45]++par 7 L s1,by decide,(zhi q.wr q.lv (by omega) (by unfold gD;omega)).up (by unfold gD;omega),zhf,?_,(zha e2 e1 (by unfold fD;omega) (by omega)).le (by unfold nD;omega) (by unfold fD;omega),_,_,rfl,by decide⟩
 simp;show _ ≤ 8 * bD d + 500;omega
theorem zht (h0:TD d t1) (h:TD d t) (sm:Sm d):TD (d + 1) (.node 6 [t1,.tup [t]]):=by
 obtain ⟨L,s1,hL,q⟩:=h0
 obtain ⟨ss,w1,w2⟩:=z3w (ps:=[t]) (fun p hp=>by cases hp with | head=>exact h | tail _ hp=>cases hp)
 have hb:=sm_b sm
 have hn:=sm_n sm
 have l0:=q.len
 have l1:=w1.pr
 have l3:=z0r (k:=11) (L:=L) (s:=s1)
 obtain ⟨L',e1,e2⟩:=z4c (k:=11) q.rd (by unfold fD;omega) (by omega) (by decide)
 refine ⟨10,par 11 L s1++prT ss,by decide,(zhj q.wr q.lv w1 l0 (by omega) (by simp) (by unfold gD;omega)).up (by unfold gD;omega),zhg,?_,(z8f e2 e1 (PX.le (by omega) (by omega) w2) (by simp [lineS]) (by unfold fD;omega) (by omega)).le (by unfold nD;omega) (by unfold fD;omega),_,_,rfl,by decide⟩
 simp at l1 ⊢;show _ ≤ 8 * bD d + 500;omega
theorem zf2 (hx:FnT x) (lx:x.length ≤ 50) (hp:∀ p∈ps,TD d p) (hl:ps.length ≤ 2) (sm:Sm d):TD (d + 1) (.node 3 [.str x,.tup ps]):=by
 cases ps with
 | nil=>exact td_0 (z6l hx lx) _
 | cons p ps=>
  obtain ⟨ss,w1,w2⟩:=z8m (ps:=ps) fun y hy=>hp y (.tail _ hy)
  obtain ⟨L,s1,hL,q⟩:=hp p (.head _)
  have hl:ps.length ≤ 1:=by simp at hl;exact hl
  have hb:=sm_b sm
  have hn:=sm_n sm
  have l0:=q.len
  have l1:=w1.ar
  have l2:=Nat.mul_le_mul (Nat.le_refl (bD d + 2)) hl
  refine ⟨11,x++([40]++(joinL [44,32] (s1 :: ss)++[41])),by decide,(z8j (.cons q.wr l0 w1) (by omega) (by simp;omega) (by omega) (by rw [z5o];simp;omega) (by unfold gD;omega)).up (by unfold gD;omega),z26 (by decide),?_,?_,_,_,rfl,by decide⟩
  ·rw [z5o];simp;show _ ≤ 8 * bD d + 500;omega
  ·rw [z5o,List.append_assoc]
   exact (zer hx q.rd w2 (by simp [lineS];omega) (by unfold fD;omega) (by omega)).le (by unfold nD;omega) (by unfold fD;omega)
noncomputable def opsL:List (List Nat):=[[111,114],[97,110,100],[61],[33,61],[60],[60,61],[62],[62,61],[43],[45],[42],[100,105,118],[109,111,100],[124]]
noncomputable def OpOk (o:List Nat):Prop:=OpT o∧o.length ≤ 10∧∃ k:Nat,(1≤k∧k ≤ 6∧lvO o=k∧(o≠[124]∧o≠[47]∧o≠[47,47])∨k = 8∧o=[124])∧(dictAt [([111,114],1),([97,110,100],2),([61],3),([33,61],3),([43],5),([45],5),([42],6),([100,105,118],6),([109,111,100],6),([124],8)] o).getD 4=(k:Nat)
theorem zhu:∀ o∈opsL,OpOk o :=
 all_cons ⟨z3s (nm_of rfl) rfl,by decide,1,.inl (by decide),rfl⟩ <|
 all_cons ⟨z3s (nm_of rfl) rfl,by decide,2,.inl (by decide),rfl⟩ <|
 all_cons ⟨op_m1 (by unfold mkP;decide) rfl rfl (by decide),by decide,3,.inl (by decide),rfl⟩ <|
 all_cons ⟨op_m2 (by unfold mkP;decide) rfl rfl (by decide),by decide,3,.inl (by decide),rfl⟩ <|
 all_cons ⟨op_m1 (by unfold mkP;decide) rfl rfl (by decide),by decide,4,.inl (by decide),rfl⟩ <|
 all_cons ⟨op_m2 (by unfold mkP;decide) rfl rfl (by decide),by decide,4,.inl (by decide),rfl⟩ <|
 all_cons ⟨op_m1 (by unfold mkP;decide) rfl rfl (by decide),by decide,4,.inl (by decide),rfl⟩ <|
 all_cons ⟨op_m2 (by unfold mkP;decide) rfl rfl (by decide),by decide,4,.inl (by decide),rfl⟩ <|
 all_cons ⟨op_m1 (by unfold mkP;decide) rfl rfl (by decide),by decide,5,.inl (by decide),rfl⟩ <|
 all_cons ⟨op_m1 (by unfold mkP;decide) rfl rfl (by decide),by decide,5,.inl (by decide),rfl⟩ <|
 all_cons ⟨zep,by decide,6,.inl (by decide),rfl⟩ <|
 all_cons ⟨z3s (nm_of rfl) rfl,by decide,6,.inl (by decide),rfl⟩ <|
 all_cons ⟨z3s (nm_of rfl) rfl,by decide,6,.inl (by decide),rfl⟩ <|
 all_cons ⟨op_m1 (by unfold mkP;decide) rfl rfl (by decide),by decide,8,.inr ⟨rfl,rfl⟩,rfl⟩ all_nil
theorem zhv (ho:o∈opsL) (h1:TD d t1) (h2:TD d t2) (sm:Sm d):TD (d + 1) (.node 4 [.str o,t1,t2]):=by
 obtain ⟨ot,ol,k,hk,lk⟩:=zhu o ho
 obtain ⟨L1,s1,hL1,q1⟩:=h1
 obtain ⟨L2,s2,hL2,q2⟩:=h2
 have hb:=sm_b sm
 have hn:=sm_n sm
 have l1:=q1.len
 have l2:=q2.len
 have k8:k ≤ 8:=by omega
 have p1:=z0r (k:=k) (L:=L1) (s:=s1)
 have p2:=z0r (k:=k + 1) (L:=L2) (s:=s2)
 obtain ⟨La,a1,a2⟩:=z4c (k:=k) q1.rd (by unfold fD;omega) (by omega) (by omega)
 obtain ⟨Lb,b1,b2⟩:=z4c (k:=k + 1) q2.rd (by unfold fD;omega) (by omega) (by omega)
 refine ⟨k,par k L1 s1++([32]++(o++([32]++par (k + 1) L2 s2))),by omega,(zhh q1.wr q1.lv q2.wr q2.lv (zd8 lk) l1 l2 (by omega) ol (by unfold gD;omega)).up (by unfold gD;omega),zd8 lk,?_,?_,_,_,rfl,by decide⟩
 ·simp;show _ ≤ 8 * bD d + 500
  have:=b100 d
  omega
 ·rcases hk with ⟨h1,h6,h3,h4,h5,h7⟩ | ⟨rfl,rfl⟩
  ·exact (zhb ot h1 h6 h3 h4 h5 h7 a2 a1 b2 b1 (by unfold fD;omega) (by omega)).le (by unfold nD;omega) (by unfold fD;omega)
  ·exact (zhc a2 a1 b2 b1 (by unfold fD;omega) (by omega)).le (by unfold nD;omega) (by unfold fD;omega)
end
section
variable {d h h' m m' c f:Nat} {t t1 t2 te:T} {l ps ts r:List T} {x:List Nat} {σ:St}
noncomputable def Eqs (m:Nat) (t:T):Prop:=eqbN m t t=true
theorem z2p (k:∀ x∈l,Eqs m x):Eqs (m + 1) (.tup l):=by
 show (decide (l.length=l.length) && (l.zip l).all fun p=>eqbN m p.1 p.2)=true
 rw [decide_eq_true rfl,Bool.true_and,List.all_eq_true]
 intro p hp
 have:p.1=p.2∧p.1∈l:=by
  clear k
  induction l with
  | nil=>cases hp
  | cons a l ih=>
   cases hp with
   | head=>exact ⟨rfl,.head _⟩
   | tail _ q=>exact ⟨(ih q).1,.tail _ (ih q).2⟩
 rw [← this.1]
 exact k _ this.2
theorem z09 {s:List Nat}:Eqs (m + 1) (.str s):=decide_eq_true rfl
theorem z5u {i:Int}:Eqs (m + 1) (.int i):=decide_eq_true rfl
theorem zb1:Eqs (m + 1) .none:=rfl
theorem z8n:∀ {l:List T} {x:T},x∈l→(x,x)∈l.zip l
 | _,_,.head _=> .head _
 | _,_,.tail _ h=> .tail _ (z8n h)
theorem Eqs.up:∀ {m:Nat} {t:T},Eqs m t→Eqs (m + 1) t
 | 0,t,q=>by cases t<;>cases q
 | m + 1,.none,_=>rfl
 | m + 1,.bool b,q=>q
 | m + 1,.int i,_=>z5u
 | m + 1,.str s,_=>z09
 | m + 1,.tup l,q=>by
  refine z2p fun x hx=>Eqs.up ?_
  have q:(decide (l.length=l.length) && (l.zip l).all fun p=>eqbN m p.1 p.2)=true:=q
  rw [decide_eq_true rfl,Bool.true_and,List.all_eq_true] at q
  exact q (x,x) (z8n hx)
 | m + 1,.node _ _,q=>by cases q
 | m + 1,.dict _,q=>by cases q
 | m + 1,.lst _,q=>by cases q
theorem Eqs.le (q:Eqs m t) (k:m≤m'):Eqs m' t:=by
 obtain ⟨j,rfl⟩:∃ j,m'=m+j:=⟨m' - m,by omega⟩
 clear k
 induction j with
 | zero=>exact q
 | succ j ih=>exact ih.up
structure RwA (h m:Nat) (t:T) (c f:Nat) (r:List T):Prop where
 me:methT c 27=some f
 run:∀ σ,Lw σ→C h f [.t t] σ (.t (.tup r)) σ
 ne:r≠[]
 eq:Eqs m (.tup r)
noncomputable def Rw (h m:Nat) (t:T):Prop:=∃ c l f r,t = .node c l∧RwA h m (.node c l) c f r
theorem Rw.up (q:Rw h m t) (k:h≤h') (k':m≤m'):Rw h' m' t:=by
 obtain ⟨c,l,f,r,rfl,q⟩:=q
 exact ⟨c,l,f,r,rfl,q.me,fun σ lw=>(q.run σ lw).up k,q.ne,q.eq.le k'⟩
theorem z6m:∀ {ps:List T},(∀ p∈ps,Rw h m p)→∃ rs:List T,All2 (fun x y=>∃ c l f r,x = .node c l∧y = .tup r∧RwA h m (.node c l) c f r) ps rs∧(∀ x∈rs,Eqs m x)∧rs.length=ps.length
 | [],_=>⟨[],.nil,all_nil,rfl⟩
 | p :: ps,k=>by
  obtain ⟨rs,h1,h2,h3⟩:=z6m fun x hx=>k x (.tail _ hx)
  obtain ⟨c,l,f,r,rfl,q⟩:=k p (.head _)
  exact ⟨.tup r :: rs,.cons ⟨c,l,f,r,rfl,rfl,q⟩ h1,all_cons q.eq h2,by simp [h3]⟩
theorem z2q (k:∀ p∈ps,Rw h m p) (hl:ps.length ≤ 3):∃ rs:List T,Eqs (m + 1) (.tup rs)∧∀ σ,Lw σ→C (h + 1) 4 [.t (.tup ps)] σ (.t (.tup rs)) σ:=by
 obtain ⟨rs,h1,h2,h3⟩:=z6m k
 refine ⟨rs,z2p h2,fun σ lw=>?_⟩
 have q:=z6j (d:=h) (σ:=σ) (e:= .callM (.var 1) 27 .nil) (i:=1) (ρ:=[.t (.tup ps),.undef]) (fun x y q acc=>by
  obtain ⟨c,l,f,r,rfl,rfl,q⟩:=q
  exact d_m (d_vt rfl) rfl q.me z0n (q.run _ (lw1 lw))) h1 (acc:=[]) (by simp [lineS];omega)
 have e:D h (.comp (.callM (.var 1) 27 .nil) 1 (.var 0)) [.t (.tup ps),.undef] σ _ _:=z3u (d_vt rfl) q
 have tp:=zd7 (σ:=σ) (ys:=rs) (by rw [h3];simp [lineS];omega)
 apply c_of (ρ:=[_,.undef]) rfl rfl
 ·apply x_ret
  repeat (first | exact e | exact tp | sizeOf_list_dec)
 ·exact fin_t rfl lw
theorem eqs3 {a b c:T} (h1:Eqs m a) (h2:Eqs m b) (h3:Eqs m c):Eqs (m + 1) (.tup [a,b,c]):=z2p (all_cons h1 (all_cons h2 (all_cons h3 all_nil)))
theorem eqs2 {a b:T} (h1:Eqs m a) (h2:Eqs m b):Eqs (m + 1) (.tup [a,b]):=z2p (all_cons h1 (all_cons h2 all_nil))
theorem eqs4 {a b c d:T} (h1:Eqs m a) (h2:Eqs m b) (h3:Eqs m c) (h4:Eqs m d):Eqs (m + 1) (.tup [a,b,c,d]):=z2p (all_cons h1 (all_cons h2 (all_cons h3 (all_cons h4 all_nil))))
theorem rw_0:Rw 1 2 (.node 0 [.str x]):=⟨_,_,6,[.str [108,105,116,101,114,97,108],.str x],rfl,rfl,fun σ _=>by
 apply c_of (ρ:=[_]) rfl rfl
 repeat sizeOf_list_dec
 exact z00 rfl,List.cons_ne_nil _ _,eqs2 z09 z09⟩
theorem rw_1 (q:Eqs 2 t):Rw 1 3 (.node 1 [t]):=⟨_,_,8,[.str [110,117,109,98,101,114],t],rfl,rfl,fun σ _=>by
 apply c_of (ρ:=[_]) rfl rfl
 repeat sizeOf_list_dec
 exact z00 rfl,List.cons_ne_nil _ _,eqs2 z09 q⟩
theorem rw_2:Rw 1 2 (.node 2 [.str x]):=⟨_,_,10,[.str [118,97,114,105,97,98,108,101],.str x],rfl,rfl,fun σ _=>by
 apply c_of (ρ:=[_]) rfl rfl
 repeat sizeOf_list_dec
 exact z00 rfl,List.cons_ne_nil _ _,eqs2 z09 z09⟩
theorem rw_3 (k:∀ p∈ps,Rw h m p) (hl:ps.length ≤ 3):Rw (h + 2) (m + 2) (.node 3 [.str x,.tup ps]):=by
 obtain ⟨rs,e,q⟩:=z2q k hl
 refine ⟨_,_,12,[.str [99,97,108,108],.str x,.tup rs],rfl,rfl,fun σ lw=>?_,List.cons_ne_nil _ _,eqs3 z09 z09 e⟩
 have q:=q σ lw
 apply c_of (ρ:=[_]) rfl rfl
 repeat (first | exact q | sizeOf_list_dec)
 exact z00 rfl
theorem rw_4 (q1:Rw h m t1) (q2:Rw h m t2) (hm : 1≤m):Rw (h + 1) (m + 1) (.node 4 [.str x,t1,t2]):=by
 obtain ⟨c1,l1,f1,r1,rfl,q1⟩:=q1
 obtain ⟨c2,l2,f2,r2,rfl,q2⟩:=q2
 obtain ⟨m,rfl⟩:∃ j,m=j + 1:=⟨m - 1,by omega⟩
 refine ⟨_,_,14,[.str [98,105,110,97,114,121],.str x,.tup r1,.tup r2],rfl,rfl,fun σ lw=>?_,List.cons_ne_nil _ _,eqs4 z09 z09 q1.eq q2.eq⟩
 have e1:=q1.run σ lw
 have e2:=q2.run σ lw
 have e3:=q1.me
 have e4:=q2.me
 apply c_of (ρ:=[_]) rfl rfl
 repeat (first | exact e1 | exact e2 | exact e3 | exact e4 | sizeOf_list_dec)
 exact z00 rfl
theorem rw_5 (q1:Rw h m t1) (hm : 1≤m):Rw (h + 1) (m + 1) (.node 5 [t1]):=by
 obtain ⟨c1,l1,f1,r1,rfl,q1⟩:=q1
 obtain ⟨m,rfl⟩:∃ j,m=j + 1:=⟨m - 1,by omega⟩
 refine ⟨_,_,16,[.str [110,101,103,97,116,101,100],.tup r1],rfl,rfl,fun σ lw=>?_,List.cons_ne_nil _ _,eqs2 z09 q1.eq⟩
 have e1:=q1.run σ lw
 have e3:=q1.me
 apply c_of (ρ:=[_]) rfl rfl
 repeat (first | exact e1 | exact e3 | sizeOf_list_dec)
 exact z00 rfl
theorem rw_6 (q1:Rw h m t1) (k:∀ p∈ps,Rw h m p) (hl:ps.length ≤ 3):Rw (h + 2) (m + 2) (.node 6 [t1,.tup ps]):=by
 obtain ⟨c1,l1,f1,r1,rfl,q1⟩:=q1
 obtain ⟨rs,e,q⟩:=z2q k hl
 refine ⟨_,_,18,[.str [102,105,108,116,101,114],.tup r1,.tup rs],rfl,rfl,fun σ lw=>?_,List.cons_ne_nil _ _,eqs3 z09 q1.eq.up e⟩
 have e1:=(q1.run σ lw).up (e:=h + 1)
 have e3:=q1.me
 have q:=q σ lw
 apply c_of (ρ:=[_]) rfl rfl
 repeat (first | exact e1 | exact e3 | exact q | sizeOf_list_dec)
 exact z00 rfl
theorem rw_8 (q0:Eqs 3 te) (k:∀ p∈ps,Rw h m p) (hl:ps.length ≤ 3) (hm : 2≤m):Rw (h + 2) (m + 2) (.node 8 [.str x,te,.tup ps]):=by
 obtain ⟨rs,e,q⟩:=z2q k hl
 refine ⟨_,_,22,[.str [115,116,101,112],.str x,te,.tup rs],rfl,rfl,fun σ lw=>?_,List.cons_ne_nil _ _,eqs4 z09 z09 (q0.le (by omega)) e⟩
 have q:=q σ lw
 apply c_of (ρ:=[_]) rfl rfl
 repeat (first | exact q | sizeOf_list_dec)
 exact z00 rfl
theorem rw_7 (k:∀ p∈ps,Rw h m p) (hl:ps.length ≤ 3):Rw (h + 2) (m + 2) (.node 7 [.none,.tup ps])∧Rw (h + 2) (m + 2) (.node 7 [.str [114,111,111,116],.tup ps]):=by
 obtain ⟨rs,e,q⟩:=z2q k hl
 refine ⟨⟨_,_,20,[.str [112,97,116,104],.none,.tup rs],rfl,rfl,fun σ lw=>?_,List.cons_ne_nil _ _,eqs3 z09 zb1 e⟩,⟨_,_,20,[.str [112,97,116,104],.str [114,111,111,116],.tup rs],rfl,rfl,fun σ lw=>?_,List.cons_ne_nil _ _,eqs3 z09 z09 e⟩⟩
 ·have q:=q σ lw
  apply c_of (ρ:=[_,.undef]) rfl rfl
  repeat (first | exact q | sizeOf_list_dec)
  exact z00 rfl
 ·have q:=q σ lw
  apply c_of (ρ:=[_,.undef]) rfl rfl
  repeat (first | exact q | sizeOf_list_dec)
  exact z00 rfl
theorem rw_7f (q1:Rw h m t1) (h12:∃ c l,t1 = .node c l∧c < 12) (k:∀ p∈ps,Rw h m p) (hl:ps.length ≤ 3):Rw (h + 2) (m + 2) (.node 7 [t1,.tup ps]):=by
 obtain ⟨c1,l1,f1,r1,rfl,q1⟩:=q1
 obtain ⟨rs,e,q⟩:=z2q k hl
 have hc:c1 < 12:=by obtain ⟨c,l,e,hc⟩:=h12;injection e with e;omega
 refine ⟨_,_,20,[.str [112,97,116,104],.tup r1,.tup rs],rfl,rfl,fun σ lw=>?_,List.cons_ne_nil _ _,eqs3 z09 q1.eq.up e⟩
 have e1:=(q1.run σ lw).up (e:=h + 1)
 have e3:=q1.me
 have q:=q σ lw
 have ne:cmpV σ 1 (.t (.node c1 l1)) (.t (.str [114,111,111,116]))=some true:=by
  show (if c1 < 12 then some false else Option.none).map (!·)=_
  rw [if_pos hc];rfl
 apply c_of (ρ:=[_,.undef]) rfl rfl
 repeat (first | exact e1 | exact e3 | exact ne | exact q | sizeOf_list_dec)
 exact z00 rfl
end
section
variable {d h i j n:Nat} {x y top:Int} {τ τ':St} {vs:List V} {ρ:List V} {t:T} {ts:List T}
noncomputable def gs (x y:Int) (τ:St):St:= .list [.t (.int x),.t (.int y)] :: τ
structure Gx (x y:Int):Prop where
 x0 : 0≤x
 y0 : 0≤y
 y1:y < 2147483647
noncomputable def LT (τ:St):Prop:=lowAll (τ.length + 1) τ=true
theorem zjj:(gs x y τ).length = τ.length + 1:=rfl
theorem z0l (l:LT τ):Lw (gs x y τ):=by
 show (([V.t (.int x),.t (.int y)].all (V.low (τ.length + 1))) && lowAll (τ.length + 1) τ)=true
 exact Bool.and_eq_true_iff.mpr ⟨rfl,l⟩
theorem z8o (l:LT τ):LT (τ++[.list (ts.map V.t)]):=by
 unfold LT at *
 rw [z1w,z1l (by simp) l]
 show (lowAll _ [MO.list _])=true
 unfold lowAll
 rw [List.all_cons]
 exact Bool.and_eq_true_iff.mpr ⟨low_t,rfl⟩
theorem z11 {x' y':Int} (l:LT τ):finR (gs x y τ).length (.ret (.t t) (gs x' y' (τ ++ τ')))=some (.t t,gs x' y' τ):=fin_t (σ:=gs x' y' τ) (τ:=τ') rfl (z0l (x:=x') (y:=y') l)
theorem z14 {x' y':Int} {v:V}:finR (gs x y τ).length (.ret v (gs x' y' τ))=some (v,gs x' y' τ):=z00 rfl
theorem gs_i0:idxV (gs x y τ) (.ref 0) (.t (.int 0))=some (.t (.int x)):=rfl
theorem gs_i1:idxV (gs x y τ) (.ref 0) (.t (.int 1))=some (.t (.int y)):=rfl
theorem gs_s0 {z:Int}:setI (gs x y τ) (.ref 0) (.t (.int 0)) (.t (.int z))=some (gs z y τ):=rfl
theorem gs_s1 {z:Int}:setI (gs x y τ) (.ref 0) (.t (.int 1)) (.t (.int z))=some (gs x z τ):=rfl
theorem m_nn {a b:Int} (hb : 0 < b) : 0≤a.fmod b:=Int.fmod_nonneg_of_pos a hb
theorem m_lt {a b:Int} (hb : 0 < b):a.fmod b < b:=Int.fmod_lt_of_pos a hb
theorem bin4 {a b:Int} (k:b ≠ 0):binT 4 (.int a) (.int b)=some (.int (a.fmod b)):=if_pos k
theorem bin3 {a b:Int} (k:b ≠ 0):binT 3 (.int a) (.int b)=some (.int (a.fdiv b)):=if_pos k
theorem z1k (g:Gx x y) (h0 : 0 < top):∃ r x' y',0≤r∧r < top∧Gx x' y'∧C 1 84 [.ref 0,.t (.int top)] (gs x y τ) (.t (.int r)) (gs x' y' τ):=by
 have hm {a:Int}:binT 4 (.int a) (.int top)=some (.int (a.fmod top)):=if_pos (by omega)
 by_cases hx:x > 0
 ·have hd {a:Int}:binT 3 (.int a) (.int top)=some (.int (a.fdiv top)):=if_pos (by omega)
  refine ⟨x.fmod top,x.fdiv top,y,m_nn h0,m_lt h0,⟨Int.fdiv_nonneg g.x0 (by omega),g.y0,g.y1⟩,?_⟩
  apply c_of (ρ:=[_,_,.undef]) rfl rfl
  repeat (first | exact gs_i0 | exact gs_i1 | exact gs_s0 | exact gs_s1 | exact hm | exact hd | (apply i_t;exact tr_t hx) | exact z14 | sizeOf_list_dec)
 ·have hy:=g.y0
  have hy1:=g.y1
  have b1:binT 2 (.int y) (.int 39373)=some (.int (y * 39373)):=if_pos ⟨by omega,by decide⟩
  let z:Int:=(y * 39373 + 7).fmod 2147483647
  have z0 : 0≤z:=m_nn (by decide)
  have z1:z < 2147483647:=m_lt (by decide)
  have b2:binT 2 (.int z) (.int z)=some (.int (z * z)):=if_pos ⟨by omega,by omega⟩
  have b3:binT 4 (.int (y * 39373 + 7)) (.int 2147483647)=some (.int z):=bin4 (by decide)
  have b4:binT 4 (.int (z * z)) (.int 2147483629)=some (.int ((z * z).fmod 2147483629)):=bin4 (by decide)
  have b5 {a:Int}:binT 3 (.int a) (.int 32)=some (.int (a.fdiv 32)):=bin3 (by decide)
  refine ⟨(((z * z).fmod 2147483629).fdiv 32).fmod top,x,z,m_nn h0,m_lt h0,⟨g.x0,z0,z1⟩,?_⟩
  apply c_of (ρ:=[_,_,.undef]) rfl rfl
  repeat (first | exact gs_i0 | exact gs_i1 | exact gs_s0 | exact gs_s1 | exact b1 | exact b2 | exact b3 | exact b4 | exact b5 | exact hm | (apply i_f;exact tr_f hx) | exact z14 | sizeOf_list_dec)
theorem z3b (g:Gx x y) (hj : τ[j]? = some (.list vs)) (hn:vs≠[]):∃ v x' y',v∈vs∧Gx x' y'∧C 2 85 [.ref 0,.ref (j + 1)] (gs x y τ) v (gs x' y' τ):=by
 have hl : 0 < vs.length:=List.length_pos_iff.mpr hn
 obtain ⟨r,x',y',r0,r1,g',c⟩:=z1k (τ:=τ) g (top:=(vs.length:Nat)) (by omega)
 obtain ⟨k,rfl⟩:∃ k:Nat,r=k:=⟨r.toNat,by omega⟩
 have hk:k < vs.length:=by omega
 refine ⟨vs[k],x',y',List.getElem_mem _,g',?_⟩
 have c:=c
 have b:bltV (gs x y τ) 0 [.ref (j + 1)]=some (.int (vs.length:Nat)):=by
  show (match τ[j]? with
   | some (.list l)=>some (T.int l.length)
   | _=>Option.none)=_
  rw [hj]
 have e:idxV (gs x' y' τ) (.ref (j + 1)) (.t (.int (k:Nat)))=some vs[k]:=by
  show (match τ[j]? with
   | some (.list l)=>if 0≤(k:Int) then l[(k:Int).toNat]? else if (k:Int) = -1 then l.getLast? else Option.none
   | _=>Option.none)=_
  rw [hj]
  show (if 0≤(k:Int) then vs[(k:Int).toNat]? else _)=_
  rw [if_pos (by omega),show (k:Int).toNat=k from rfl,List.getElem?_eq_getElem hk]
 apply c_of (ρ:=[_,_]) rfl rfl
 repeat (first | exact c | exact b | exact e | exact z14 | sizeOf_list_dec)
theorem z2r {a:X} (q:DL h a ρ (gs x y τ) vs (gs x y τ)) (l:vs.length≤lineS):D h (.lst a) ρ (gs x y τ) (.ref (τ.length + 1)) (gs x y (τ++[.list vs])):=d_lst q l
noncomputable def Dr (h:Nat) (f:Nat) (args:List V) (P:T→Prop):Prop:=∀ x y τ,Gx x y→LT τ→∃ t x' y',P t∧Gx x' y'∧C h f (.ref 0 :: args) (gs x y τ) (.t t) (gs x' y' τ)
theorem Dr.up {h' f:Nat} {args:List V} {P Q:T→Prop} (q:Dr h f args P) (l:h≤h') (k:∀ t,P t→Q t):Dr h' f args Q:=fun x y τ g lt=>let ⟨t,x',y',a,b,c⟩:=q x y τ g lt;⟨t,x',y',k t a,b,c.up l⟩
theorem z2s {a:X} (g:Gx x y) (lt:LT τ) (q:DL h a ρ (gs x y τ) (ts.map V.t) (gs x y τ)) (hn:ts≠[]) (hl:ts.length≤lineS) (h0 : ρ[0]? = some (.ref 0)) (hh : 2≤h):∃ t x' y',t∈ts∧Gx x' y'∧D h (.callF 85 (.cons (.var 0) (.cons (.lst a) .nil))) ρ (gs x y τ) (.t t) (gs x' y' (τ++[.list (ts.map V.t)])):=by
 obtain ⟨v,x',y',hv,g',c⟩:=z3b (τ:=τ++[.list (ts.map V.t)]) (j:=τ.length) (vs:=ts.map V.t) g (by simp) (by simpa using hn)
 obtain ⟨t,ht,rfl⟩:=List.mem_map.mp hv
 exact ⟨t,x',y',ht,g',d_f (z04 (d_vr h0) (z04 (z2r q (by simpa using hl)) z0n)) (c.up hh)⟩
theorem z5v {e:X} {P:T→Prop} (he:∀ x y τ v,Gx x y→LT τ→∃ t x' y',P t∧Gx x' y'∧D h e (ρ.set i v) (gs x y τ) (.t t) (gs x' y' τ)) :
  ∀ {xs:List V} {acc:List T} {x y:Int},Gx x y→LT τ→acc.length+xs.length < lineS→∃ ts x' y',(∀ t∈ts,P t)∧ts.length=xs.length∧Gx x' y'∧CL h e i ρ (τ.length + 1) xs (gs x y (τ++[.list (acc.map V.t)])) (.ref (τ.length + 1)) (gs x' y' (τ++[.list ((acc++ts).map V.t)]))
 | [],acc,x,y,g,lt,_=>⟨[],x,y,all_nil,rfl,g,by rw [List.append_nil];exact zck⟩
 | v :: xs,acc,x,y,g,lt,hl=>by
  obtain ⟨t,x1,y1,pt,g1,q⟩:=he x y (τ++[.list (acc.map V.t)]) v g (z8o lt)
  obtain ⟨ts,x2,y2,pts,l,g2,c⟩:=z5v he (xs:=xs) (acc:=acc++[t]) g1 lt (by simp at hl ⊢;omega)
  refine ⟨t :: ts,x2,y2,all_cons pt pts,by simp [l],g2,z7r q (l:=acc.map V.t) ?_ (by simp at hl ⊢;omega) ?_⟩
  ·show (τ++[MO.list (acc.map V.t)])[τ.length]? = _
   exact z0o
  ·rw [List.append_assoc] at c
   rw [show (gs x1 y1 (τ++[MO.list (acc.map V.t)])).set (τ.length + 1) (.list (acc.map V.t++[V.t t]))=gs x1 y1 (τ++[.list ((acc++[t]).map V.t)]) from by
    show gs x1 y1 ((τ++[MO.list (acc.map V.t)]).set τ.length (.list (acc.map V.t++[V.t t])))=_
    rw [z0h];simp]
   exact c
theorem zde {ys:List T} (l:ys.length≤lineS):bltV (gs x y (τ++[.list (ys.map V.t)])) 5 [.ref (τ.length + 1)]=some (.tup ys):=zd7 (σ:=gs x y τ) l
noncomputable def hR (d:Nat):Nat:=4 + 4 * d
noncomputable def mR (d:Nat):Nat:=6 + 4 * d
noncomputable def GD (d:Nat) (t:T):Prop:=TD d t∧Rw (hR d) (mR d) t
theorem gd_0 (q:GD 0 t) (d:Nat):GD d t:=⟨td_0 q.1 d,q.2.up (by unfold hR;omega) (by unfold mR;omega)⟩
noncomputable def litsL:List T:=[.str [],.str [105,116,39,115],.str [97,32,34,98,34],.str [100,105,118]]
theorem zf3:∀ t∈litsL,GD 0 (.node 0 [t]) :=
 all_cons ⟨z5s (by decide) (by decide),rw_0.up (by decide) (by decide)⟩ <| all_cons ⟨z5s (by decide) (by decide),rw_0.up (by decide) (by decide)⟩ <|
 all_cons ⟨zez (by decide) (by decide) (by decide),rw_0.up (by decide) (by decide)⟩ <| all_cons ⟨z5s (by decide) (by decide),rw_0.up (by decide) (by decide)⟩ all_nil
noncomputable def numsL:List T:=[.tup [.int 0,.int 1],.tup [.int 5,.int 1],.tup [.int 1,.int 2],.tup [.int 13,.int 4],.tup [.int 120,.int 1]]
theorem z2t {a b:Int}:Eqs 2 (.tup [.int a,.int b]):=eqs2 z5u z5u
theorem zf4:∀ t∈numsL,GD 0 (.node 1 [t]) :=
 all_cons ⟨z5t num_0 (by decide) (by decide) (by decide),(rw_1 z2t).up (by decide) (by decide)⟩ <| all_cons ⟨z5t num_5 (by decide) (by decide) (by decide),(rw_1 z2t).up (by decide) (by decide)⟩ <|
 all_cons ⟨z8l (s:=[48]) (s2:=[53]) num_h (by decide) (by decide) (by decide) (by decide) (by decide),(rw_1 z2t).up (by decide) (by decide)⟩ <|
 all_cons ⟨z8l (s:=[51]) (s2:=[50,53]) num_q (by decide) (by decide) (by decide) (by decide) (by decide),(rw_1 z2t).up (by decide) (by decide)⟩ <|
 all_cons ⟨z5t zey (by decide) (by decide) (by decide),(rw_1 z2t).up (by decide) (by decide)⟩ all_nil
noncomputable def varsL:List T:=[.str [118],.str [112,58,119],.str [97,110,100]]
theorem zf5:∀ t∈varsL,GD 0 (.node 2 [t]) :=
 all_cons ⟨zdd (nm_of rfl) (by decide),rw_2.up (by decide) (by decide)⟩ <| all_cons ⟨zf0 (s:=[112]) (s2:=[119]) (nm_of rfl) (nm_of rfl) (by decide),rw_2.up (by decide) (by decide)⟩ <|
 all_cons ⟨zdd (nm_of rfl) (by decide),rw_2.up (by decide) (by decide)⟩ all_nil
noncomputable def funsL:List T:=[.str [108,97,115,116],.str [112,58,102],.str [100,105,118]]
theorem call0 {x:List Nat} (f:FnT x) (l:x.length ≤ 50):GD 0 (.node 3 [.str x,.tup []]):=⟨z6l f l,(rw_3 (h:=0) (m:=0) all_nil (by decide)).up (by decide) (by decide)⟩
theorem zf6:∀ t∈funsL,GD 0 (.node 3 [t,.tup []]) :=
 all_cons (call0 (z6i (nm_of rfl) rfl) (by decide)) <| all_cons (call0 (zd3 (s:=[112]) (s2:=[102]) (nm_of rfl) (nm_of rfl) rfl (by decide)) (by decide)) <| all_cons (call0 (z6i (nm_of rfl) rfl) (by decide)) all_nil
noncomputable def Sl (t:T):Prop:=∃ x te,x∈axesL∧te∈testsL∧t = .node 8 [.str x,te,.tup []]
theorem z4e:∀ te∈testsL,Eqs 3 te:=by
 have q:testsL.all (fun te=>eqbN 3 te te)=true:=by decide +kernel
 exact fun te ht=>List.all_eq_true.mp q te ht
theorem leafpath (q:Sl t):GD 0 (.node 7 [.none,.tup [t]])∧GD 0 (.node 7 [.str [114,111,111,116],.tup [t]]):=by
 obtain ⟨x,te,hx,ht,rfl⟩:=q
 obtain ⟨h1,h2,h3⟩:=z8k x hx
 obtain ⟨tt,q1,q2,q3⟩:=z6k te ht
 have r8:Rw 2 4 (.node 8 [.str x,te,.tup []]):=rw_8 (h:=0) (m:=2) (z4e te ht) all_nil (by decide) (by decide)
 have r7:=rw_7 (h:=2) (m:=4) (ps:=[.node 8 [.str x,te,.tup []]]) (all_cons r8 all_nil) (by simp)
 have w:StW 1 0 (.node 8 [.str x,te,.tup []]) (x++([58,58]++(tt++[]))):=⟨x,te,[],tt,[],rfl,rfl,q1,.nil,by decide,by omega⟩
 have l:(x++([58,58]++(tt++[]))).length ≤ 62:=by simp;omega
 have s:=st_of (f0:=2) (n:=0) h1 h2 q2 .nil (by decide) (by decide)
 refine ⟨⟨leaf (by decide) (zdc (g:=1) (B:=0) (.cons w (by omega) .nil) (by decide) (by simp) (by decide)) (z2n (b:=false) rfl) (by rw [z0e];simp [slT] at l ⊢;omega) (by rw [z0e];exact zd6 s .nil (by decide) (by decide) (by decide)) ⟨_,_,rfl,by decide⟩ (by decide) (by decide),r7.1.up (by decide) (by decide)⟩,
  ⟨leaf (by decide) (z5q (g:=1) (B:=0) (.cons w (by omega) .nil) (by decide) (by simp) (by rw [z0e];simp [slT] at l ⊢;omega) (by decide)) (z2n (b:=true) rfl) (by rw [z0e];simp [slT] at l ⊢;omega) (by rw [z0e];exact z8e s .nil (by decide) (by decide) (by decide)) ⟨_,_,rfl,by decide⟩ (by decide) (by decide),r7.2.up (by decide) (by decide)⟩⟩
theorem zb2:GD 0 (.node 7 [.str [114,111,111,116],.tup []]):=⟨zb0,(rw_7 (h:=0) (m:=0) (ps:=[]) all_nil (by decide)).2.up (by decide) (by decide)⟩
end
section
variable {d h i j n:Nat} {x y top:Int} {τ τ':St} {vs ws:List V} {ρ:List V} {t:T} {ts us:List T}
theorem lt_l (l:LT τ):LT (τ++[.list (ts.map V.t)]):=z8o l
theorem z1p {k:Nat} (g:Gx x y) (hj : τ[j]? = some (.list (ts.map V.t))) (hn:ts≠[]) (h0 : ρ[0]? = some (.ref 0)) (hk : ρ[k]? = some (.ref (j + 1))) (hh : 2≤h):∃ t x' y',t∈ts∧Gx x' y'∧D h (.callF 85 (.cons (.var 0) (.cons (.var k) .nil))) ρ (gs x y τ) (.t t) (gs x' y' τ):=by
 obtain ⟨v,x',y',hv,g',c⟩:=z3b g hj (by simpa using hn)
 obtain ⟨t,ht,rfl⟩:=List.mem_map.mp hv
 exact ⟨t,x',y',ht,g',d_f (z04 (d_vr h0) (z04 (d_vr hk) z0n)) (c.up hh)⟩
noncomputable abbrev L (ts:List T):MO:= .list (ts.map V.t)
theorem x_two {A B:X} {v:Nat} {rest:S} {r:RS} (qA:∀ τ,DL h A ρ (gs x y τ) (ts.map V.t) (gs x y τ)) (qB:∀ τ,DL h B (ρ.set v (.ref (τ'.length + 1))) (gs x y τ) (us.map V.t) (gs x y τ)) (hv:(ρ.set v (.ref (τ'.length + 1)))[v]? = some (.ref (τ'.length + 1))) (l:ts.length+us.length ≤ 1000)
  (k:XS h rest ((ρ.set v (.ref (τ'.length + 1))).set v (.ref (τ'.length + 3))) (gs x y (τ'++[L ts]++[L us]++[L (ts++us)])) r):XS h (.seq (.asg v (.lst A)) (.seq (.asg v (.bin 0 (.var v) (.lst B))) rest)) ρ (gs x y τ') r:=by
 have q0:=z2r (qA τ') (by simp [lineS];omega)
 have q1:=z2r (qB (τ'++[L ts])) (by simp [lineS];omega)
 have z:=zci (l:=ts.map V.t) (l':=us.map V.t) (d_vr hv) q1 (by
  show (τ'++[MO.list (ts.map V.t)]++[MO.list (us.map V.t)])[τ'.length]? = _
  rw [List.append_assoc];exact z1m) (by
  show (τ'++[MO.list (ts.map V.t)]++[MO.list (us.map V.t)])[(τ'++[MO.list (ts.map V.t)]).length]? = _
  exact z0o) (by simp [lineS];omega)
 rw [← List.map_append] at z
 have e:(gs x y (τ'++[L ts]++[L us])).length = τ'.length + 3:=by simp [gs]
 rw [e] at z
 exact x_asg q0 rfl (x_asg z rfl k)
theorem ints5 {r:Int} (a : 0≤r) (b:r < 5):r = 0∨r = 1∨r = 2∨r = 3∨r = 4:=by omega
noncomputable def ax1:List T:=[.str [99,104,105,108,100],.str [97,116,116,114,105,98,117,116,101],.str [115,101,108,102],.str [112,97,114,101,110,116],.str [112,114,101,99,101,100,105,110,103,45,115,105,98,108,105,110,103],.str [100,101,115,99,101,110,100,97,110,116,45,111,114,45,115,101,108,102],.str [97,110,99,101,115,116,111,114],.str [100,101,115,99,101,110,100,97,110,116]]
noncomputable def ax2:List T:=[.str [97,110,99,101,115,116,111,114,45,111,114,45,115,101,108,102],.str [102,111,108,108,111,119,105,110,103],.str [102,111,108,108,111,119,105,110,103,45,115,105,98,108,105,110,103],.str [110,97,109,101,115,112,97,99,101],.str [112,114,101,99,101,100,105,110,103]]
noncomputable def te1:List T:=[.tup [.str [97,110,121]],.tup [.str [97,110,121,32,111,102],.str [112]],.tup [.str [110,97,109,101],.str [],.str [97]],.tup [.str [110,97,109,101],.str [112],.str [98]],.tup [.str [110,97,109,101],.str [],.str [100,105,118]],.tup [.str [110,97,109,101],.str [],.str [116,101,120,116]]]
noncomputable def te2:List T:=[.tup [.str [110,111,100,101]],.tup [.str [116,101,120,116]],.tup [.str [99,111,109,109,101,110,116]],.tup [.str [105,110,115,116,114,117,99,116,105,111,110],.none],.tup [.str [105,110,115,116,114,117,99,116,105,111,110],.str [116]]]
theorem ax_in:∀ t∈ax1++ax2,∃ x∈axesL,t = .str x:=fun t q=>by
 have q:t∈axesL.map T.str:=q
 obtain ⟨x,hx,rfl⟩:=List.mem_map.mp q
 exact ⟨x,hx,rfl⟩
theorem te_in:∀ t∈te1++te2,t∈testsL:=fun t q=>q
noncomputable def predX:X:= .ite (.cmp 4 (.var 1) (.c (.int 0))) (.callF 88 (.cons (.var 0) (.cons (.bin 1 (.var 1) (.c (.int 1))) (.cons (.c (.int 2)) .nil)))) (.tup .nil)
theorem z4f {dep:Int} {P:List T→Prop} (hh : 2≤h) (hp:∀ x y τ ax u w,Gx x y→LT τ→∃ ps x' y',P ps∧Gx x' y'∧D h predX [.ref 0,.t (.int dep),u,ax,w] (gs x y τ) (.t (.tup ps)) (gs x' y' τ)) :
  Dr (h + 1) 87 [.t (.int dep)] (fun t=>∃ ax te ps,ax∈axesL∧te∈testsL∧P ps∧t = .node 8 [.str ax,te,.tup ps]):=by
 intro x y τ g lt
 have l0:LT (τ++[L ax1]++[L ax2]++[L (ax1++ax2)]):=lt_l (lt_l (lt_l lt))
 obtain ⟨ax,x1,y1,hax,g1,d1⟩:=z1p (h:=h) (k:=2) (ρ:=[.ref 0,.t (.int dep),.ref (τ.length + 3),.undef,.undef]) (j:=τ.length + 2) (ts:=ax1++ax2) (τ:=τ++[L ax1]++[L ax2]++[L (ax1++ax2)]) g (at_i (by simp)) (by decide) rfl rfl hh
 obtain ⟨ax,ha,rfl⟩:=ax_in _ hax
 have hA:∀ τ,DL h (.cons (.c (.str [99,104,105,108,100])) (.cons (.c (.str [97,116,116,114,105,98,117,116,101])) (.cons (.c (.str [115,101,108,102])) (.cons (.c (.str [112,97,114,101,110,116])) (.cons (.c (.str [112,114,101,99,101,100,105,110,103,45,115,105,98,108,105,110,103])) (.cons (.c (.str [100,101,115,99,101,110,100,97,110,116,45,111,114,45,115,101,108,102])) (.cons (.c (.str [97,110,99,101,115,116,111,114])) (.cons (.c (.str [100,101,115,99,101,110,100,97,110,116])) .nil)))))))) [.ref 0,.t (.int dep),.undef,.undef,.undef] (gs x y τ) (ax1.map V.t) (gs x y τ):=fun τ=>by
  repeat sizeOf_list_dec
 have hB:∀ τ' ρ,DL h (.cons (.c (.str [97,110,99,101,115,116,111,114,45,111,114,45,115,101,108,102])) (.cons (.c (.str [102,111,108,108,111,119,105,110,103])) (.cons (.c (.str [102,111,108,108,111,119,105,110,103,45,115,105,98,108,105,110,103])) (.cons (.c (.str [110,97,109,101,115,112,97,99,101])) (.cons (.c (.str [112,114,101,99,101,100,105,110,103])) .nil))))) ρ (gs x y τ') (ax2.map V.t) (gs x y τ'):=fun τ' ρ=>by
  repeat sizeOf_list_dec
 have hC:∀ τ' ρ,DL h (.cons (.tup (.cons (.c (.str [97,110,121])) .nil)) (.cons (.tup (.cons (.c (.str [97,110,121,32,111,102])) (.cons (.c (.str [112])) .nil))) (.cons (.tup (.cons (.c (.str [110,97,109,101])) (.cons (.c (.str [])) (.cons (.c (.str [97])) .nil)))) (.cons (.tup (.cons (.c (.str [110,97,109,101])) (.cons (.c (.str [112])) (.cons (.c (.str [98])) .nil)))) (.cons (.tup (.cons (.c (.str [110,97,109,101])) (.cons (.c (.str [])) (.cons (.c (.str [100,105,118])) .nil)))) (.cons (.tup (.cons (.c (.str [110,97,109,101])) (.cons (.c (.str [])) (.cons (.c (.str [116,101,120,116])) .nil)))) .nil)))))) ρ (gs x1 y1 τ') (te1.map V.t) (gs x1 y1 τ'):=fun τ' ρ=>by
  repeat sizeOf_list_dec
 have hD:∀ τ' ρ,DL h (.cons (.tup (.cons (.c (.str [110,111,100,101])) .nil)) (.cons (.tup (.cons (.c (.str [116,101,120,116])) .nil)) (.cons (.tup (.cons (.c (.str [99,111,109,109,101,110,116])) .nil)) (.cons (.tup (.cons (.c (.str [105,110,115,116,114,117,99,116,105,111,110])) (.cons (.c .none) .nil))) (.cons (.tup (.cons (.c (.str [105,110,115,116,114,117,99,116,105,111,110])) (.cons (.c (.str [116])) .nil))) .nil))))) ρ (gs x1 y1 τ') (te2.map V.t) (gs x1 y1 τ'):=fun τ' ρ=>by
  repeat sizeOf_list_dec
 let τ1:=τ++[L ax1]++[L ax2]++[L (ax1++ax2)]
 let τ2:=τ1++[L te1]++[L te2]++[L (te1++te2)]
 have l1:LT τ2:=lt_l (lt_l (lt_l l0))
 obtain ⟨te,x2,y2,hte,g2,d2⟩:=z1p (h:=h) (k:=4) (ρ:=[.ref 0,.t (.int dep),.ref (τ.length + 3),.t (.str ax),.ref (τ1.length + 3)]) (j:=τ1.length + 2) (ts:=te1++te2) (τ:=τ2) g1 (at_i (by simp)) (by decide) rfl rfl hh
 obtain ⟨ps,x3,y3,hps,g3,d3⟩:=hp x2 y2 τ2 (.t (.str ax)) (.ref (τ.length + 3)) (.ref (τ1.length + 3)) g2 l1
 refine ⟨_,x3,y3,⟨ax,te,ps,ha,te_in _ hte,hps,rfl⟩,g3,?_⟩
 have fin:finR (gs x y τ).length (.ret (.t (.node 8 [.str ax,te,.tup ps])) (gs x3 y3 τ2))=some (.t (.node 8 [.str ax,te,.tup ps]),gs x3 y3 τ):=by
  have e : τ2 = τ++([L ax1]++([L ax2]++([L (ax1++ax2)]++([L te1]++([L te2]++[L (te1++te2)]))))):=by simp only [τ2,τ1,List.append_assoc]
  rw [e]
  exact z11 lt
 have q2:XS h (nx (nx (nx b87))) [.ref 0,.t (.int dep),.ref (τ.length + 3),.t (.str ax),.undef] (gs x1 y1 τ1) (.ret (.t (.node 8 [.str ax,te,.tup ps])) (gs x3 y3 τ2)):=by
  refine x_two (h:=h) (v:=4) (ρ:=[.ref 0,.t (.int dep),.ref (τ.length + 3),.t (.str ax),.undef]) (fun τ'=>hC τ' _) (fun τ'=>hD τ' _) rfl (by decide) ?_
  apply x_ret
  repeat (first | exact d2 | exact d3 | exact nw8 (z0l l1) | sizeOf_list_dec)
 have q1:XS h (nx (nx b87)) [.ref 0,.t (.int dep),.ref (τ.length + 3),.undef,.undef] (gs x y τ1) (.ret (.t (.node 8 [.str ax,te,.tup ps])) (gs x3 y3 τ2)):=x_asg d1 rfl q2
 exact c_of (ρ:=[.ref 0,.t (.int dep),.undef,.undef,.undef]) rfl rfl (x_two (h:=h) (v:=2) (ρ:=[.ref 0,.t (.int dep),.undef,.undef,.undef]) hA (fun τ'=>hB τ' _) rfl (by decide) q1) fin
theorem zhw:Dr 3 87 [.t (.int 0)] Sl:=by
 refine (z4f (h:=2) (dep:=0) (P:=fun ps=>ps=[]) (by decide) (fun x y τ ax u w g lt=>⟨[],x,y,rfl,g,?_⟩)).up (by decide) (fun t q=>?_)
 ·unfold predX
  repeat sizeOf_list_dec
 ·obtain ⟨ax,te,ps,h1,h2,rfl,rfl⟩:=q
  exact ⟨ax,te,h1,h2,rfl⟩
theorem z15:Dr 5 86 [] (GD 0):=by
 intro x y τ g lt
 obtain ⟨r,x1,y1,r0,r1,g1,c1⟩:=z1k (τ:=τ) (top:=5) g (by decide)
 have c1:=c1.up (e:=4)
 rcases ints5 r0 r1 with rfl | rfl | rfl | rfl | rfl
 ·obtain ⟨t,x2,y2,ht,g2,d2⟩:=z2s (h:=4) (ρ:=[.ref 0,.t (.int 0)]) (ts:=litsL) (a:= .cons (.c (.str [])) (.cons (.c (.str [105,116,39,115])) (.cons (.c (.str [97,32,34,98,34])) (.cons (.c (.str [100,105,118])) .nil)))) g1 lt (by repeat sizeOf_list_dec) (by decide) (by decide) rfl (by decide)
  refine ⟨.node 0 [t],x2,y2,zf3 t ht,g2,?_⟩
  apply c_of (ρ:=[_,.undef]) rfl rfl
  repeat (first | exact c1 | exact d2 | exact nw0 (z0l (lt_l lt)) | exact z11 lt | sizeOf_list_dec)
 ·obtain ⟨t,x2,y2,ht,g2,d2⟩:=z2s (h:=4) (ρ:=[.ref 0,.t (.int 1)]) (ts:=numsL) (a:= .cons (.tup (.cons (.c (.int 0)) (.cons (.c (.int 1)) .nil))) (.cons (.tup (.cons (.c (.int 5)) (.cons (.c (.int 1)) .nil))) (.cons (.tup (.cons (.c (.int 1)) (.cons (.c (.int 2)) .nil))) (.cons (.tup (.cons (.c (.int 13)) (.cons (.c (.int 4)) .nil))) (.cons (.tup (.cons (.c (.int 120)) (.cons (.c (.int 1)) .nil))) .nil))))) g1 lt (by repeat sizeOf_list_dec) (by decide) (by decide) rfl (by decide)
  refine ⟨.node 1 [t],x2,y2,zf4 t ht,g2,?_⟩
  apply c_of (ρ:=[_,.undef]) rfl rfl
  repeat (first | exact c1 | exact d2 | exact nw1 (z0l (lt_l lt)) | exact z11 lt | sizeOf_list_dec)
 ·obtain ⟨t,x2,y2,ht,g2,d2⟩:=z2s (h:=4) (ρ:=[.ref 0,.t (.int 2)]) (ts:=varsL) (a:= .cons (.c (.str [118])) (.cons (.c (.str [112,58,119])) (.cons (.c (.str [97,110,100])) .nil))) g1 lt (by repeat sizeOf_list_dec) (by decide) (by decide) rfl (by decide)
  refine ⟨.node 2 [t],x2,y2,zf5 t ht,g2,?_⟩
  apply c_of (ρ:=[_,.undef]) rfl rfl
  repeat (first | exact c1 | exact d2 | exact nw2 (z0l (lt_l lt)) | exact z11 lt | sizeOf_list_dec)
 ·obtain ⟨t,x2,y2,ht,g2,d2⟩:=z2s (h:=4) (ρ:=[.ref 0,.t (.int 3)]) (ts:=funsL) (a:= .cons (.c (.str [108,97,115,116])) (.cons (.c (.str [112,58,102])) (.cons (.c (.str [100,105,118])) .nil))) g1 lt (by repeat sizeOf_list_dec) (by decide) (by decide) rfl (by decide)
  refine ⟨.node 3 [t,.tup []],x2,y2,zf6 t ht,g2,?_⟩
  apply c_of (ρ:=[_,.undef]) rfl rfl
  repeat (first | exact c1 | exact d2 | exact nw3 (z0l (lt_l lt)) | exact z11 lt | sizeOf_list_dec)
 ·obtain ⟨r,x2,y2,r0,r1,g2,c2⟩:=z1k (τ:=τ) (top:=4) g1 (by decide)
  have c2:=c2.up (e:=4)
  by_cases hr:r > 0
  ·obtain ⟨s,x3,y3,hs,g3,d3⟩:=z2s (h:=4) (ρ:=[.ref 0,.t (.int 4)]) (ts:=[.none,.str [114,111,111,116]]) (a:= .cons (.c .none) (.cons (.c (.str [114,111,111,116])) .nil)) g2 lt (by repeat sizeOf_list_dec) (by decide) (by decide) rfl (by decide)
   obtain ⟨t,x4,y4,ht,g4,c4⟩:=zhw x3 y3 _ g3 (lt_l (ts:=[.none,.str [114,111,111,116]]) lt)
   have c4:=c4.up (e:=4)
   refine ⟨.node 7 [s,.tup [t]],x4,y4,?_,g4,?_⟩
   ·have:=leafpath ht
    rcases List.mem_cons.mp hs with rfl | hs
    ·exact this.1
    ·rw [List.mem_singleton.mp hs];exact this.2
   ·apply c_of (ρ:=[_,.undef]) rfl rfl
    repeat (first | exact c1 | exact c2 | exact d3 | exact c4 | (apply e_t;exact tr_t hr) | exact nw7 (z0l (lt_l lt)) | exact z11 lt | sizeOf_list_dec)
  ·refine ⟨.node 7 [.str [114,111,111,116],.tup []],x2,y2,zb2,g2,?_⟩
   have f0:finR (gs x y τ).length (.ret (.t (.node 7 [.str [114,111,111,116],.tup []])) (gs x2 y2 τ))=some (.t (.node 7 [.str [114,111,111,116],.tup []]),gs x2 y2 τ):=z14
   apply c_of (ρ:=[_,.undef]) rfl rfl
   repeat (first | exact c1 | exact c2 | (apply e_f;exact tr_f hr) | exact nw7 (z0l lt) | exact f0 | sizeOf_list_dec)
end
section
variable {d h i j n:Nat} {x y top:Int} {τ τ':St} {vs ws:List V} {ρ:List V} {t:T} {ts us:List T}
theorem ints3 {r:Int} (a : 0≤r) (b:r < 3):r = 0∨r = 1∨r = 2:=by omega
theorem z4g {P:T→Prop} (hd:Dr h 89 [.t (.int (d:Nat))] P) (hh : 1≤h):Dr (h + 1) 88 [.t (.int (d:Nat)),.t (.int 2)] (fun t=>∃ ts,t = .tup ts∧ts.length ≤ 2∧∀ p∈ts,P p):=by
 intro x y τ g lt
 obtain ⟨r,x1,y1,r0,r1,g1,c1⟩:=z1k (τ:=τ) (top:=3) g (by decide)
 have c1:=c1.up (e:=h)
 obtain ⟨xs,e,l⟩:∃ xs,numsV (.t (.int r))=some xs∧xs.length ≤ 2:=by
  rcases ints3 r0 r1 with rfl | rfl | rfl<;>exact ⟨_,rfl,by decide⟩
 obtain ⟨ts,x2,y2,h1,h2,g2,q⟩:=z5v (h:=h) (i:=3) (e:= .callF 89 (.cons (.var 0) (.cons (.var 1) .nil))) (ρ:=[.ref 0,.t (.int (d:Nat)),.t (.int 2),.undef]) (P:=P) (fun x y τ v g lt=>by
  obtain ⟨t,x1,y1,p,g1,c⟩:=hd x y τ g lt
  refine ⟨t,x1,y1,p,g1,?_⟩
  apply d_f
  repeat (first | exact c | sizeOf_list_dec)) (xs:=xs) (acc:=[]) (τ:=τ) g1 lt (by simp [lineS];omega)
 have tp:=zde (x:=x2) (y:=y2) (τ:=τ) (ys:=ts) (by simp [lineS];omega)
 have fin:finR (gs x y τ).length (.ret (.t (.tup ts)) (gs x2 y2 (τ++[.list (ts.map V.t)])))=some (.t (.tup ts),gs x2 y2 τ):=z11 lt
 have cm:D h (.compR (.callF 89 (.cons (.var 0) (.cons (.var 1) .nil))) 3 (.callF 84 (.cons (.var 0) (.cons (.bin 0 (.var 2) (.c (.int 1))) .nil)))) [.ref 0,.t (.int (d:Nat)),.t (.int 2),.undef] (gs x y τ) (.ref (τ.length + 1)) (gs x2 y2 (τ++[.list (ts.map V.t)])):=by
  refine z7q (v:= .t (.int r)) (σ1:=gs x1 y1 τ) ?_ e q
  repeat (first | exact c1 | sizeOf_list_dec)
 refine ⟨.tup ts,x2,y2,⟨ts,rfl,by omega,h1⟩,g2,?_⟩
 apply c_of (ρ:=[_,_,_,.undef]) rfl rfl
 repeat (first | exact cm | exact tp | exact fin | sizeOf_list_dec)
noncomputable def StG (d:Nat) (t:T):Prop:=StD d t∧Rw (hR d + 2) (mR d + 2) t
theorem z3c:binT 1 (.int ((d + 1:Nat):Int)) (.int 1)=some (.int (d:Nat)):=by
 show some (T.int (((d + 1:Nat):Int) - 1))=_
 rw [show (((d + 1:Nat):Int) - 1)=(d:Int) from by omega]
theorem zhx (hd:Dr h 89 [.t (.int (d:Nat))] (GD d)) (hh : 1≤h):Dr (h + 2) 87 [.t (.int ((d + 1:Nat):Int))] (StG d):=by
 refine (z4f (h:=h + 1) (dep:=((d + 1:Nat):Int)) (P:=fun ps=>ps.length ≤ 2∧∀ p∈ps,GD d p) (by omega) (fun x y τ ax u w g lt=>?_)).up (by omega) (fun t q=>?_)
 ·obtain ⟨t,x1,y1,⟨ts,rfl,l,p⟩,g1,c⟩:=z4g hd hh x y τ g lt
  refine ⟨ts,x1,y1,⟨l,p⟩,g1,?_⟩
  unfold predX
  repeat (first | exact c | exact z3c | (apply e_t;exact tr_t (by omega)) | sizeOf_list_dec)
 ·obtain ⟨ax,te,ps,h1,h2,⟨l,p⟩,rfl⟩:=q
  exact ⟨zhq h1 h2 (fun q hq=>(p q hq).1) l,rw_8 (z4e te h2) (fun q hq=>(p q hq).2) (by omega) (by unfold mR;omega)⟩
noncomputable def opsX:List T:=[.str [111,114],.str [97,110,100],.str [61],.str [33,61],.str [60],.str [60,61],.str [62],.str [62,61],.str [43],.str [45],.str [45],.str [42],.str [100,105,118],.str [109,111,100],.str [124]]
theorem zhy:∀ t∈opsX,∃ o∈opsL,t = .str o:=by
 unfold opsX
 repeat' (first | exact all_nil | (refine all_cons ⟨_,?_,rfl⟩ ?_;(unfold opsL;decide)))
theorem z8p {o:List Nat} {t1 t2:T} (ho:o∈opsL) (h1:GD d t1) (h2:GD d t2) (sm:Sm d):GD (d + 1) (.node 4 [.str o,t1,t2]) :=
 ⟨zhv ho h1.1 h2.1 sm,(rw_4 h1.2 h2.2 (by unfold mR;omega)).up (by unfold hR;omega) (by unfold mR;omega)⟩
theorem zf7:∀ t∈[T.str [99,111,117,110,116],.str [112,58,102],.str [110,111,116]],∃ x,t = .str x∧FnT x∧x.length ≤ 50 :=
 all_cons ⟨_,rfl,z6i (nm_of rfl) rfl,by decide⟩ <| all_cons ⟨_,rfl,zd3 (s:=[112]) (s2:=[102]) (nm_of rfl) (nm_of rfl) rfl (by decide),by decide⟩ <| all_cons ⟨_,rfl,z6i (nm_of rfl) rfl,by decide⟩ all_nil
theorem ways {r:Int} (a : 0≤r) (b:r < 8):r = 0∨(0 < r∧r < 4)∨r = 4∨r = 5∨r = 6∨r = 7:=by omega
theorem zf8:Dr 6 89 [.t (.int (0:Nat))] (GD 0):=by
 intro x y τ g lt
 obtain ⟨r,x1,y1,r0,r1,g1,c1⟩:=z1k (τ:=τ) (top:=8) g (by decide)
 obtain ⟨t,x2,y2,p,g2,c2⟩:=z15 x1 y1 τ g1 lt
 have c1:=c1.up (e:=5)
 have f0:finR (gs x y τ).length (.ret (.t t) (gs x2 y2 τ))=some (.t t,gs x2 y2 τ):=z14
 refine ⟨t,x2,y2,p,g2,?_⟩
 apply c_of (ρ:=[_,_,.undef,.undef,.undef,.undef]) rfl rfl
 repeat (first | exact c1 | exact c2 | exact f0 | sizeOf_list_dec)
theorem z8q (hd:Dr h 89 [.t (.int (d:Nat))] (GD d)) (hh : 6≤h) (sm:Sm d):Dr (h + 3) 89 [.t (.int ((d + 1:Nat):Int))] (GD (d + 1)):=by
 intro x y τ g lt
 obtain ⟨r,x1,y1,r0,r1,g1,c1⟩:=z1k (τ:=τ) (top:=8) g (by decide)
 have c1:=c1.up (e:=h + 2)
 rcases ways r0 r1 with rfl | ⟨ra,rb⟩ | rfl | rfl | rfl | rfl
 ·obtain ⟨t,x2,y2,p,g2,c2⟩:=z15 x1 y1 τ g1 lt
  have c2:=c2.up (e:=h + 2)
  have f0:finR (gs x y τ).length (.ret (.t t) (gs x2 y2 τ))=some (.t t,gs x2 y2 τ):=z14
  refine ⟨t,x2,y2,gd_0 p _,g2,?_⟩
  apply c_of (ρ:=[_,_,.undef,.undef,.undef,.undef]) rfl rfl
  repeat (first | exact c1 | exact c2 | exact f0 | (apply l_go;exact tr_f (by omega)) | sizeOf_list_dec)
 ·have lt1:=lt_l (ts:=opsX) lt
  obtain ⟨_,x2,y2,hov,g2,c2⟩:=z3b (τ:=τ++[L opsX]) (j:=τ.length) (vs:=opsX.map V.t) g1 (by simp) (by decide)
  obtain ⟨ov,hov2,rfl⟩:=List.mem_map.mp hov
  obtain ⟨o,ho,rfl⟩:=zhy ov hov2
  have c2:=c2.up (e:=h + 2)
  obtain ⟨t1,x3,y3,p3,g3,c3⟩:=hd x2 y2 _ g2 lt1
  obtain ⟨t2,x4,y4,p4,g4,c4⟩:=hd x3 y3 _ g3 lt1
  have c3:=c3.up (e:=h + 2)
  have c4:=c4.up (e:=h + 2)
  have ls:D (h + 2) (.lst (.cons (.c (.str [111,114])) (.cons (.c (.str [97,110,100])) (.cons (.c (.str [61])) (.cons (.c (.str [33,61])) (.cons (.c (.str [60])) (.cons (.c (.str [60,61])) (.cons (.c (.str [62])) (.cons (.c (.str [62,61])) (.cons (.c (.str [43])) (.cons (.c (.str [45])) (.cons (.c (.str [45])) (.cons (.c (.str [42])) (.cons (.c (.str [100,105,118])) (.cons (.c (.str [109,111,100])) (.cons (.c (.str [124])) .nil)))))))))))))))) [.ref 0,.t (.int ((d + 1:Nat):Int)),.t (.int r),.undef,.undef,.undef] (gs x1 y1 τ) (.ref (τ.length + 1)) (gs x1 y1 (τ++[L opsX])):=z2r (by repeat sizeOf_list_dec) (by decide)
  refine ⟨.node 4 [.str o,t1,t2],x4,y4,z8p ho p3 p4 sm,g4,?_⟩
  apply c_of (ρ:=[_,_,.undef,.undef,.undef,.undef]) rfl rfl
  repeat (first | exact c1 | exact ls | exact c2 | exact c3 | exact c4 | exact z3c | (apply l_go;exact tr_f (by omega)) | (apply i_f;exact tr_f (by omega)) | (apply i_t;exact tr_t (by omega)) | exact nw4 (z0l lt1) | exact z11 lt | sizeOf_list_dec)
 ·obtain ⟨t1,x3,y3,p3,g3,c3⟩:=hd x1 y1 _ g1 lt
  have c3:=c3.up (e:=h + 2)
  have f0:finR (gs x y τ).length (.ret (.t (.node 5 [t1])) (gs x3 y3 τ))=some (.t (.node 5 [t1]),gs x3 y3 τ):=z14
  refine ⟨.node 5 [t1],x3,y3,⟨zhs p3.1 sm,(rw_5 p3.2 (by unfold mR;omega)).up (by unfold hR;omega) (by unfold mR;omega)⟩,g3,?_⟩
  apply c_of (ρ:=[_,_,.undef,.undef,.undef,.undef]) rfl rfl
  repeat (first | exact c1 | exact c3 | exact z3c | (apply l_go;exact tr_f (by omega)) | exact nw5 (z0l lt) | exact f0 | sizeOf_list_dec)
 ·have lt1:=lt_l (ts:=[T.str [99,111,117,110,116],.str [112,58,102],.str [110,111,116]]) lt
  obtain ⟨o,x2,y2,ho,g2,d2⟩:=z2s (h:=h + 2) (ρ:=[.ref 0,.t (.int ((d + 1:Nat):Int)),.t (.int 5),.undef,.undef,.undef]) (ts:=[.str [99,111,117,110,116],.str [112,58,102],.str [110,111,116]]) (a:= .cons (.c (.str [99,111,117,110,116])) (.cons (.c (.str [112,58,102])) (.cons (.c (.str [110,111,116])) .nil))) g1 lt (by repeat sizeOf_list_dec) (by decide) (by decide) rfl (by omega)
  obtain ⟨xx,rfl,fx,lx⟩:=zf7 o ho
  obtain ⟨_,x3,y3,⟨ts,rfl,l,p⟩,g3,c3⟩:=z4g hd (by omega) x2 y2 _ g2 lt1
  have c3:=c3.up (e:=h + 2)
  refine ⟨.node 3 [.str xx,.tup ts],x3,y3,⟨zf2 fx lx (fun q hq=>(p q hq).1) l sm,(rw_3 (fun q hq=>(p q hq).2) (by omega)).up (by unfold hR;omega) (by unfold mR;omega)⟩,g3,?_⟩
  apply c_of (ρ:=[_,_,.undef,.undef,.undef,.undef]) rfl rfl
  repeat (first | exact c1 | exact d2 | exact c3 | exact z3c | (apply l_go;exact tr_f (by omega)) | exact nw3 (z0l lt1) | exact z11 lt | sizeOf_list_dec)
 ·obtain ⟨t1,x3,y3,p3,g3,c3⟩:=hd x1 y1 _ g1 lt
  obtain ⟨t2,x4,y4,p4,g4,c4⟩:=hd x3 y3 _ g3 lt
  have c3:=c3.up (e:=h + 2)
  have c4:=c4.up (e:=h + 2)
  have f0:finR (gs x y τ).length (.ret (.t (.node 6 [t1,.tup [t2]])) (gs x4 y4 τ))=some (.t (.node 6 [t1,.tup [t2]]),gs x4 y4 τ):=z14
  refine ⟨.node 6 [t1,.tup [t2]],x4,y4,⟨zht p3.1 p4.1 sm,(rw_6 p3.2 (all_cons p4.2 all_nil) (by simp)).up (by unfold hR;omega) (by unfold mR;omega)⟩,g4,?_⟩
  apply c_of (ρ:=[_,_,.undef,.undef,.undef,.undef]) rfl rfl
  repeat (first | exact c1 | exact c3 | exact c4 | exact z3c | (apply l_go;exact tr_f (by omega)) | exact nw6 (z0l lt) | exact f0 | sizeOf_list_dec)
 ·have lt1:=lt_l (ts:=[T.none,.str [114,111,111,116],.str [101,120,112,114,101,115,115,105,111,110]]) lt
  obtain ⟨s,x2,y2,hs,g2,d2⟩:=z2s (h:=h + 2) (ρ:=[.ref 0,.t (.int ((d + 1:Nat):Int)),.t (.int 7),.undef,.undef,.undef]) (ts:=[.none,.str [114,111,111,116],.str [101,120,112,114,101,115,115,105,111,110]]) (a:= .cons (.c .none) (.cons (.c (.str [114,111,111,116])) (.cons (.c (.str [101,120,112,114,101,115,115,105,111,110])) .nil))) g1 lt (by repeat sizeOf_list_dec) (by decide) (by decide) rfl (by omega)
  have st:=zhx hd (by omega)
  obtain ⟨s',x3,y3,g3,q3,hs'⟩:∃ s' x3 y3,Gx x3 y3∧D (h + 2) (.ite (.cmp 0 (.var 3) (.c (.str [101,120,112,114,101,115,115,105,111,110]))) (.callF 89 (.cons (.var 0) (.cons (.bin 1 (.var 1) (.c (.int 1))) .nil))) (.var 3)) [.ref 0,.t (.int ((d + 1:Nat):Int)),.t (.int 7),.t s,.undef,.undef] (gs x2 y2 (τ++[L [T.none,.str [114,111,111,116],.str [101,120,112,114,101,115,115,105,111,110]]])) (.t s') (gs x3 y3 (τ++[L [T.none,.str [114,111,111,116],.str [101,120,112,114,101,115,115,105,111,110]]]))∧(s' = .none∨s' = .str [114,111,111,116]∨GD d s'):=by
   rcases List.mem_cons.mp hs with rfl | hs
   ·exact ⟨.none,x2,y2,g2,by repeat sizeOf_list_dec,.inl rfl⟩
   ·rcases List.mem_cons.mp hs with rfl | hs
    ·exact ⟨.str [114,111,111,116],x2,y2,g2,by repeat sizeOf_list_dec,.inr (.inl rfl)⟩
    ·rw [List.mem_singleton.mp hs]
     obtain ⟨t1,x3,y3,p3,g3,c3⟩:=hd x2 y2 _ g2 lt1
     have c3:=c3.up (e:=h + 2)
     exact ⟨t1,x3,y3,g3,by repeat (first | exact c3 | exact z3c | sizeOf_list_dec),.inr (.inr p3)⟩
  obtain ⟨r,x4,y4,r0,r1,g4,c4⟩:=z1k (τ:=τ++[L [T.none,.str [114,111,111,116],.str [101,120,112,114,101,115,115,105,111,110]]]) (top:=2) g3 (by decide)
  have c4:=c4.up (e:=h + 2)
  obtain ⟨xs,e,l0,l1⟩:∃ xs,numsV (.t (.int (1+r)))=some xs ∧ 1≤xs.length∧xs.length ≤ 2:=by
   rcases (show r = 0∨r = 1 by omega) with rfl | rfl<;>exact ⟨_,rfl,by decide,by decide⟩
  obtain ⟨ts,x5,y5,h1,h2,g5,q5⟩:=z5v (h:=h + 2) (i:=5) (e:= .callF 87 (.cons (.var 0) (.cons (.var 1) .nil))) (ρ:=[.ref 0,.t (.int ((d + 1:Nat):Int)),.t (.int 7),.t s',.undef,.undef]) (P:=StG d) (fun x y τ v g lt=>by
   obtain ⟨t,x1,y1,p,g1,c⟩:=st x y τ g lt
   refine ⟨t,x1,y1,p,g1,?_⟩
   apply d_f
   repeat (first | exact c | sizeOf_list_dec)) (xs:=xs) (acc:=[]) (τ:=τ++[L [T.none,.str [114,111,111,116],.str [101,120,112,114,101,115,115,105,111,110]]]) g4 lt1 (by simp [lineS];omega)
  have tp:=zde (x:=x5) (y:=y5) (τ:=τ++[L [T.none,.str [114,111,111,116],.str [101,120,112,114,101,115,115,105,111,110]]]) (ys:=ts) (by simp [lineS];omega)
  have lt2:=lt_l (ts:=ts) lt1
  have cm:D (h + 2) (.compR (.callF 87 (.cons (.var 0) (.cons (.var 1) .nil))) 5 (.bin 0 (.c (.int 1)) (.callF 84 (.cons (.var 0) (.cons (.c (.int 2)) .nil))))) [.ref 0,.t (.int ((d + 1:Nat):Int)),.t (.int 7),.t s',.undef,.undef] (gs x3 y3 (τ++[L [T.none,.str [114,111,111,116],.str [101,120,112,114,101,115,115,105,111,110]]])) (.ref ((τ++[L [T.none,.str [114,111,111,116],.str [101,120,112,114,101,115,115,105,111,110]]]).length + 1)) (gs x5 y5 (τ++[L [T.none,.str [114,111,111,116],.str [101,120,112,114,101,115,115,105,111,110]]]++[.list (ts.map V.t)])):=by
   refine z7q (v:= .t (.int (1+r))) (σ1:=gs x4 y4 (τ++[L [T.none,.str [114,111,111,116],.str [101,120,112,114,101,115,115,105,111,110]]])) ?_ e q5
   repeat (first | exact c4 | sizeOf_list_dec)
  have fin:finR (gs x y τ).length (.ret (.t (.node 7 [s',.tup ts])) (gs x5 y5 (τ++[L [T.none,.str [114,111,111,116],.str [101,120,112,114,101,115,115,105,111,110]]]++[.list (ts.map V.t)])))=some (.t (.node 7 [s',.tup ts]),gs x5 y5 τ):=by
   rw [List.append_assoc];exact z11 lt
  refine ⟨.node 7 [s',.tup ts],x5,y5,?_,g5,?_⟩
  ·have hl:ts.length ≤ 2:=by omega
   cases ts with
   | nil=>simp at h2;omega
   | cons t ts=>
    have k1:=h1 t (.head _)
    have k2:∀ p∈ts,StD d p:=fun p hp=>(h1 p (.tail _ hp)).1
    have hl':ts.length ≤ 1:=by simp at hl;exact hl
    have rl:=zhr k1.1 k2 hl' sm
    have rr:=rw_7 (ps:=t :: ts) (fun p hp=>(h1 p hp).2) (by simp;omega)
    rcases hs' with rfl | rfl | hs'
    ·exact ⟨rl.1,rr.1.up (by unfold hR;omega) (by unfold mR;omega)⟩
    ·exact ⟨rl.2,rr.2.up (by unfold hR;omega) (by unfold mR;omega)⟩
    ·refine ⟨zf1 hs'.1 k1.1 k2 hl' sm,(rw_7f (hs'.2.up (Nat.le_add_right _ 2) (Nat.le_add_right _ 2)) ?_ (ps:=t :: ts) (fun p hp=>(h1 p hp).2) (by simp;omega)).up (by unfold hR;omega) (by unfold mR;omega)⟩
     obtain ⟨_,_,_,q⟩:=hs'.1
     exact q.nd
  ·apply c_of (ρ:=[_,_,.undef,.undef,.undef,.undef]) rfl rfl
   repeat (first | exact c1 | exact d2 | exact q3 | exact cm | exact tp | (apply l_go;exact tr_f (by omega)) | exact nw7 (z0l lt2) | exact fin | sizeOf_list_dec)
theorem zf9:Dr 12 89 [.t (.int 2)] (GD 2):=z8q (d:=1) (z8q (d:=0) zf8 (by decide) (by unfold Sm;decide)) (by decide) (by unfold Sm;decide)
end
section
variable {d h i j n:Nat} {x y top:Int} {τ τ' τ1:St} {vs ws:List V} {ρ:List V} {t:T} {ts us:List T}
theorem z0x {a:X} (q:DL h a ρ (gs x y τ) vs (gs x y τ1)) (l:vs.length≤lineS):D h (.lst a) ρ (gs x y τ) (.ref (τ1.length + 1)) (gs x y (τ1++[.list vs])):=d_lst q l
noncomputable def ot1:List T:=[.str [43],.str [45]]
noncomputable def ot2:List T:=[.str [42],.str [100,105,118],.str [109,111,100]]
noncomputable def ot3:List T:=[.str [61],.str [33,61]]
noncomputable def ot4:List T:=[.str [60],.str [60,61],.str [62],.str [62,61]]
noncomputable def ot5:List T:=[.str [124]]
noncomputable def ot6:List T:=[.str [97,110,100]]
noncomputable def ot7:List T:=[.str [111,114]]
noncomputable def OpsT (ts:List T):Prop:=ts≠[]∧∀ t∈ts,∃ o∈opsL,t = .str o
theorem mo {o:List Nat} {ts:List T} (q:opsL.contains o=true) (k:∀ t∈ts,∃ o∈opsL,t = .str o):∀ t ∈ .str o :: ts,∃ o∈opsL,t = .str o:=all_cons ⟨o,List.contains_iff_mem.mp q,rfl⟩ k
noncomputable abbrev tA (τ:St):St:=τ++[L ot1]++[L ot2]++[L ot3]++[L ot4]++[L ot5]++[L ot6]++[L ot7]
theorem at_k {τ τ':St} {o:MO} {k:Nat} (q:k < τ'.length) (e : τ'[k]? = some o):(τ ++ τ')[τ.length+k]? = some o:=by
 rw [List.getElem?_append_right (by omega)]
 rw [show τ.length+k - τ.length=k from by omega]
 exact e
theorem z72:Dr 7 91 [] (GD 2):=by
 intro x y τ g lt
 have lists:D 6 (.lst (.cons (.lst (.cons (.c (.str [43])) (.cons (.c (.str [45])) .nil))) (.cons (.lst (.cons (.c (.str [42])) (.cons (.c (.str [100,105,118])) (.cons (.c (.str [109,111,100])) .nil)))) (.cons (.lst (.cons (.c (.str [61])) (.cons (.c (.str [33,61])) .nil))) (.cons (.lst (.cons (.c (.str [60])) (.cons (.c (.str [60,61])) (.cons (.c (.str [62])) (.cons (.c (.str [62,61])) .nil))))) (.cons (.lst (.cons (.c (.str [124])) .nil)) (.cons (.lst (.cons (.c (.str [97,110,100])) .nil)) (.cons (.lst (.cons (.c (.str [111,114])) .nil)) .nil)))))))) [.ref 0,.undef,.undef] (gs x y τ) (.ref ((tA τ).length + 1)) (gs x y (tA τ++[.list [.ref (τ.length + 1),.ref (τ.length + 1 + 1),.ref (τ.length + 2 + 1),.ref (τ.length + 3 + 1),.ref (τ.length + 4 + 1),.ref (τ.length + 5 + 1),.ref (τ.length + 6 + 1)]])):=by
  refine z0x ?_ (Nat.le_of_ble_eq_true rfl)
  have e1:∀ {o:MO},(τ++[o]).length = τ.length + 1:=by simp
  have a1:D 6 (.lst (.cons (.c (.str [43])) (.cons (.c (.str [45])) .nil))) [.ref 0,.undef,.undef] (gs x y τ) (.ref (τ.length + 1)) (gs x y (τ++[L ot1])):=z0x (by repeat sizeOf_list_dec) (by decide)
  have a2:D 6 (.lst (.cons (.c (.str [42])) (.cons (.c (.str [100,105,118])) (.cons (.c (.str [109,111,100])) .nil)))) [.ref 0,.undef,.undef] (gs x y (τ++[L ot1])) (.ref ((τ++[L ot1]).length + 1)) (gs x y (τ++[L ot1]++[L ot2])):=z0x (by repeat sizeOf_list_dec) (by decide)
  have a3:D 6 (.lst (.cons (.c (.str [61])) (.cons (.c (.str [33,61])) .nil))) [.ref 0,.undef,.undef] (gs x y (τ++[L ot1]++[L ot2])) (.ref ((τ++[L ot1]++[L ot2]).length + 1)) (gs x y (τ++[L ot1]++[L ot2]++[L ot3])):=z0x (by repeat sizeOf_list_dec) (by decide)
  have a4:D 6 (.lst (.cons (.c (.str [60])) (.cons (.c (.str [60,61])) (.cons (.c (.str [62])) (.cons (.c (.str [62,61])) .nil))))) [.ref 0,.undef,.undef] (gs x y (τ++[L ot1]++[L ot2]++[L ot3])) (.ref ((τ++[L ot1]++[L ot2]++[L ot3]).length + 1)) (gs x y (τ++[L ot1]++[L ot2]++[L ot3]++[L ot4])):=z0x (by repeat sizeOf_list_dec) (by decide)
  have a5:D 6 (.lst (.cons (.c (.str [124])) .nil)) [.ref 0,.undef,.undef] (gs x y (τ++[L ot1]++[L ot2]++[L ot3]++[L ot4])) (.ref ((τ++[L ot1]++[L ot2]++[L ot3]++[L ot4]).length + 1)) (gs x y (τ++[L ot1]++[L ot2]++[L ot3]++[L ot4]++[L ot5])):=z0x (by repeat sizeOf_list_dec) (by decide)
  have a6:D 6 (.lst (.cons (.c (.str [97,110,100])) .nil)) [.ref 0,.undef,.undef] (gs x y (τ++[L ot1]++[L ot2]++[L ot3]++[L ot4]++[L ot5])) (.ref ((τ++[L ot1]++[L ot2]++[L ot3]++[L ot4]++[L ot5]).length + 1)) (gs x y (τ++[L ot1]++[L ot2]++[L ot3]++[L ot4]++[L ot5]++[L ot6])):=z0x (by repeat sizeOf_list_dec) (by decide)
  have a7:D 6 (.lst (.cons (.c (.str [111,114])) .nil)) [.ref 0,.undef,.undef] (gs x y (τ++[L ot1]++[L ot2]++[L ot3]++[L ot4]++[L ot5]++[L ot6])) (.ref ((τ++[L ot1]++[L ot2]++[L ot3]++[L ot4]++[L ot5]++[L ot6]).length + 1)) (gs x y (tA τ)):=z0x (by repeat sizeOf_list_dec) (by decide)
  simp only [List.length_append,List.length_cons,List.length_nil,Nat.zero_add,Nat.add_assoc] at a2 a3 a4 a5 a6 a7
  simp only [Nat.add_assoc]
  exact z04 a1 (z04 a2 (z04 a3 (z04 a4 (z04 a5 (z04 a6 (z04 a7 z0n))))))
 have hv:∀ v∈[V.ref (τ.length + 1),.ref (τ.length + 1 + 1),.ref (τ.length + 2 + 1),.ref (τ.length + 3 + 1),.ref (τ.length + 4 + 1),.ref (τ.length + 5 + 1),.ref (τ.length + 6 + 1)],∃ j ts,v = .ref (j + 1)∧(tA τ++[.list [.ref (τ.length + 1),.ref (τ.length + 1 + 1),.ref (τ.length + 2 + 1),.ref (τ.length + 3 + 1),.ref (τ.length + 4 + 1),.ref (τ.length + 5 + 1),.ref (τ.length + 6 + 1)]])[j]? = some (L ts)∧OpsT ts:=by
  have ea:∀ o,tA τ++[o] = τ++[L ot1,L ot2,L ot3,L ot4,L ot5,L ot6,L ot7,o]:=by intro o;simp [tA]
  rw [ea]
  exact all_cons ⟨τ.length + 0,ot1,rfl,at_k (Nat.le_of_ble_eq_true rfl) rfl,by unfold ot1;simp,mo (by decide) (mo (by decide) all_nil)⟩ <| all_cons ⟨τ.length + 1,ot2,rfl,at_k (Nat.le_of_ble_eq_true rfl) rfl,by unfold ot2;simp,mo (by decide) (mo (by decide) (mo (by decide) all_nil))⟩ <|
   all_cons ⟨τ.length + 2,ot3,rfl,at_k (Nat.le_of_ble_eq_true rfl) rfl,by unfold ot3;simp,mo (by decide) (mo (by decide) all_nil)⟩ <| all_cons ⟨τ.length + 3,ot4,rfl,at_k (Nat.le_of_ble_eq_true rfl) rfl,by unfold ot4;simp,mo (by decide) (mo (by decide) (mo (by decide) (mo (by decide) all_nil)))⟩ <|
   all_cons ⟨τ.length + 4,ot5,rfl,at_k (Nat.le_of_ble_eq_true rfl) rfl,by unfold ot5;simp,mo (by decide) all_nil⟩ <| all_cons ⟨τ.length + 5,ot6,rfl,at_k (Nat.le_of_ble_eq_true rfl) rfl,by unfold ot6;simp,mo (by decide) all_nil⟩ <|
   all_cons ⟨τ.length + 6,ot7,rfl,at_k (Nat.le_of_ble_eq_true rfl) rfl,by unfold ot7;simp,mo (by decide) all_nil⟩ all_nil
 have lt2:LT (tA τ++[.list [.ref (τ.length + 1),.ref (τ.length + 1 + 1),.ref (τ.length + 2 + 1),.ref (τ.length + 3 + 1),.ref (τ.length + 4 + 1),.ref (τ.length + 5 + 1),.ref (τ.length + 6 + 1)]]):=by
  have l7:LT (tA τ):=lt_l (lt_l (lt_l (lt_l (lt_l (lt_l (lt_l lt))))))
  unfold LT at *
  rw [z1w,z1l (by simp) l7]
  simp [lowAll,MO.vals,V.low,tA]
 have et:∃ τ8,tA τ++[.list [.ref (τ.length + 1),.ref (τ.length + 1 + 1),.ref (τ.length + 2 + 1),.ref (τ.length + 3 + 1),.ref (τ.length + 4 + 1),.ref (τ.length + 5 + 1),.ref (τ.length + 6 + 1)]] = τ ++ τ8:=⟨[L ot1,L ot2,L ot3,L ot4,L ot5,L ot6,L ot7,.list [.ref (τ.length + 1),.ref (τ.length + 1 + 1),.ref (τ.length + 2 + 1),.ref (τ.length + 3 + 1),.ref (τ.length + 4 + 1),.ref (τ.length + 5 + 1),.ref (τ.length + 6 + 1)]],by simp [tA]⟩
 obtain ⟨ov,x1,y1,hov,g1,c1⟩:=z3b (τ:=tA τ++[.list [.ref (τ.length + 1),.ref (τ.length + 1 + 1),.ref (τ.length + 2 + 1),.ref (τ.length + 3 + 1),.ref (τ.length + 4 + 1),.ref (τ.length + 5 + 1),.ref (τ.length + 6 + 1)]]) (j:=(tA τ).length) g z0o (List.cons_ne_nil _ _)
 obtain ⟨j,ts,rfl,hj,hne,hops⟩:=hv ov hov
 have c1:=c1.up (e:=6)
 generalize tA τ++[.list [.ref (τ.length + 1),.ref (τ.length + 1 + 1),.ref (τ.length + 2 + 1),.ref (τ.length + 3 + 1),.ref (τ.length + 4 + 1),.ref (τ.length + 5 + 1),.ref (τ.length + 6 + 1)]] = τ9 at *
 obtain ⟨τ8,rfl⟩:=et
 have d1:D 6 _ [.ref 0,.undef,.undef] (gs x y τ) (.ref (j + 1)) (gs x1 y1 (τ ++ τ8)):=d_f (f:=85) (z04 (d_vr (i:=0) rfl) (z04 lists z0n)) c1
 obtain ⟨o1,x2,y2,ho1,g2,d2⟩:=z1p (h:=6) (k:=1) (ρ:=[.ref 0,.ref (j + 1),.undef]) g1 hj hne rfl rfl (by decide)
 obtain ⟨o1,hp1,rfl⟩:=hops o1 ho1
 obtain ⟨t1,x3,y3,p1,g3,c3⟩:=z15 x2 y2 _ g2 lt2
 obtain ⟨t2,x4,y4,p2,g4,c4⟩:=z15 x3 y3 _ g3 lt2
 obtain ⟨o2,x5,y5,ho2,g5,d5⟩:=z1p (h:=6) (k:=1) (ρ:=[.ref 0,.ref (j + 1),.t (.node 4 [.str o1,t1,t2])]) g4 hj hne rfl rfl (by decide)
 obtain ⟨o2,hp2,rfl⟩:=hops o2 ho2
 obtain ⟨t3,x6,y6,p3,g6,c6⟩:=z15 x5 y5 _ g5 lt2
 have c3:=c3.up (e:=6)
 have c4:=c4.up (e:=6)
 have c6:=c6.up (e:=6)
 refine ⟨.node 4 [.str o2,t3,.node 4 [.str o1,t1,t2]],x6,y6,z8p hp2 (gd_0 p3 1) (z8p hp1 p1 p2 (by unfold Sm;decide)) (by unfold Sm;decide),g6,?_⟩
 apply c_of (ρ:=[_,.undef,.undef]) rfl rfl
 repeat (first | exact d1 | exact d2 | exact c3 | exact c4 | exact d5 | exact c6 | exact nw4 (z0l lt2) | exact z11 lt | sizeOf_list_dec)
theorem z2u {s:T}:∀ (ns:List Int) {x y:Int} {v w:V},Gx x y→∃ x' y' v' w',Gx x' y'∧FN 0 1 (.seq (.asg 4 (.ite (.cmp 5 (.var 1) (.c (.int 0))) (.var 1) (.bin 1 (.neg (.c (.int 1))) (.var 1)))) (.seq (.ifs (.and (.cmp 5 (.var 4) (.bin 5 (.c (.int 10)) (.c (.int 18)))) (.cmp 0 (.var 2) (.c (.int 0)))) (.seq (.asg 2 (.var 4)) .nil) .nil) (.seq (.asg 3 (.bin 4 (.bin 0 (.bin 0 (.bin 2 (.var 3) (.c (.int 48271))) (.bin 4 (.var 4) (.c (.int 2147483629)))) (.c (.int 7919))) (.c (.int 2147483647)))) .nil))) (ns.map fun k=> .t (.int k)) [.t s,v,.t (.int x),.t (.int y),w] [] (.next [.t s,v',.t (.int x'),.t (.int y'),w'] [])
 | [],x,y,v,w,g=>⟨x,y,v,w,g,z7u⟩
 | k :: ns,x,y,v,w,g=>by
  obtain ⟨z,hz,qz⟩:∃ z:Int,0≤z∧D 0 (.ite (.cmp 5 (.var 1) (.c (.int 0))) (.var 1) (.bin 1 (.neg (.c (.int 1))) (.var 1))) [.t s,.t (.int k),.t (.int x),.t (.int y),w] [] (.t (.int z)) []:=by
   by_cases hk:k ≥ 0
   ·refine ⟨k,hk,?_⟩
    repeat (first | (apply e_t;exact tr_t hk) | sizeOf_list_dec)
   ·refine ⟨-1 - k,by omega,?_⟩
    repeat (first | (apply e_f;exact tr_f hk) | sizeOf_list_dec)
  have y0:=g.y0
  have y1:=g.y1
  have b1:binT 2 (.int y) (.int 48271)=some (.int (y * 48271)):=if_pos ⟨by omega,by decide⟩
  have b2:binT 4 (.int z) (.int 2147483629)=some (.int (z.fmod 2147483629)):=bin4 (by decide)
  let m:Int:=(y * 48271+z.fmod 2147483629 + 7919).fmod 2147483647
  have b3:binT 4 (.int (y * 48271+z.fmod 2147483629 + 7919)) (.int 2147483647)=some (.int m):=bin4 (by decide)
  have m0 : 0≤m:=m_nn (by decide)
  have m1:m < 2147483647:=m_lt (by decide)
  have b4:binT 5 (.int 10) (.int 18)=some (.int 1000000000000000000):=rfl
  by_cases hc:z ≥ 1000000000000000000∧x = 0
  ·obtain ⟨x',y',v',w',g',ih⟩:=z2u (s:=s) ns (x:=z) (y:=m) (v:= .t (.int k)) (w:= .t (.int z)) ⟨hz,m0,m1⟩
   refine ⟨x',y',v',w',g',z5c ?_ ih⟩
   obtain ⟨c1,rfl⟩:=hc
   apply x_asg
   repeat (first | exact qz | exact b1 | exact b2 | exact b3 | exact b4 | (apply l_go;exact tr_t c1) | sizeOf_list_dec)
  ·obtain ⟨x',y',v',w',g',ih⟩:=z2u (s:=s) ns (x:=x) (y:=m) (v:= .t (.int k)) (w:= .t (.int z)) ⟨g.x0,m0,m1⟩
   refine ⟨x',y',v',w',g',z5c ?_ ih⟩
   by_cases c1:z ≥ 1000000000000000000
   ·have c2:¬ (x = 0):=fun q=>hc ⟨c1,q⟩
    apply x_asg
    repeat (first | exact qz | exact b1 | exact b2 | exact b3 | exact b4 | (apply l_go;exact tr_t c1) | (apply i_f;exact tr_f c2) | sizeOf_list_dec)
   ·apply x_asg
    repeat (first | exact qz | exact b1 | exact b2 | exact b3 | exact b4 | (apply l_no;exact tr_f c1) | (apply i_f;exact tr_f c1) | sizeOf_list_dec)
theorem zfa (ns:List Int):∃ x y,Gx x y∧C 1 83 [.t (.lst ns)] [] (.ref 0) (gs x y []):=by
 obtain ⟨x,y,v,w,g,q⟩:=z2u (s:= .lst ns) ns (x:=0) (y:=59) (v:= .undef) (w:= .undef) ⟨by decide,by decide,by decide⟩
 refine ⟨x,y,g,c_of (ρ:=[_,.undef,.undef,.undef,.undef]) (r:= .ret (.ref 0) (gs x y [])) rfl rfl ?_ rfl⟩
 refine z7t (vs:=[.t (.int 0),.t (.int 59)]) (by repeat sizeOf_list_dec) rfl rfl rfl ?_
 refine zgu (d_vt rfl) q ?_
 apply x_ret
 exact d_lst (σ:=[]) (vs:=[.t (.int x),.t (.int y)]) (z04 (d_vt rfl) (z04 (d_vt rfl) z0n)) (Nat.le_of_ble_eq_true rfl)
end
section
variable {d h i j n:Nat} {x y top:Int} {τ τ' τ1:St} {vs ws:List V} {ρ:List V} {t:T} {ts us:List T}
theorem z4h {B:X} {v:Nat} {rest:S} {r:RS} (hk : ρ[v]? = some (.ref (j + 1))) (hj : τ[j]? = some (L ts)) (qB:∀ τ,DL h B ρ (gs x y τ) (us.map V.t) (gs x y τ)) (l:ts.length+us.length ≤ 1000)
  (k:XS h rest (ρ.set v (.ref (τ.length + 2))) (gs x y (τ++[L us]++[L (ts++us)])) r):XS h (.seq (.asg v (.bin 0 (.var v) (.lst B))) rest) ρ (gs x y τ) r:=by
 have q1:=z2r (qB τ) (by simp [lineS];omega)
 have z:=zci (l:=ts.map V.t) (l':=us.map V.t) (d_vr hk) q1 (by
  show (τ++[MO.list (us.map V.t)])[j]? = _
  rw [List.getElem?_append_left (by by_cases q:j < τ.length;exact q;rw [List.getElem?_eq_none (by omega)] at hj;cases hj)];exact hj) (by
  show (τ++[MO.list (us.map V.t)])[τ.length]? = _
  exact z0o) (by simp [lineS];omega)
 rw [← List.map_append] at z
 have e:(gs x y (τ++[L us])).length = τ.length + 2:=by simp [gs]
 rw [e] at z
 exact x_asg z rfl k
noncomputable def sp0:List T:=[.tup [.str [47,47,97],.str [47,100,101,115,99,101,110,100,97,110,116,45,111,114,45,115,101,108,102,58,58,110,111,100,101,40,41,47,99,104,105,108,100,58,58,97]],.tup [.str [97,47,47,64,98],.str [97,47,100,101,115,99,101,110,100,97,110,116,45,111,114,45,115,101,108,102,58,58,110,111,100,101,40,41,47,97,116,116,114,105,98,117,116,101,58,58,98]]]
noncomputable def sp1:List T:=[.tup [.str [46],.str [115,101,108,102,58,58,110,111,100,101,40,41]],.tup [.str [46,46,47,42],.str [112,97,114,101,110,116,58,58,110,111,100,101,40,41,47,99,104,105,108,100,58,58,42]],.tup [.str [97,91,49,93,91,46,61,39,120,39,93],.str [99,104,105,108,100,58,58,97,91,49,93,91,115,101,108,102,58,58,110,111,100,101,40,41,32,61,32,39,120,39,93]]]
noncomputable def sp2:List T:=[.tup [.str [42,32,42,32,42],.str [99,104,105,108,100,58,58,42,32,42,32,99,104,105,108,100,58,58,42]],.tup [.str [100,105,118,32,100,105,118,32,109,111,100],.str [99,104,105,108,100,58,58,100,105,118,32,100,105,118,32,99,104,105,108,100,58,58,109,111,100]],.tup [.str [45,97,45,98],.str [45,99,104,105,108,100,58,58,97,45,98]]]
noncomputable def sp3:List T:=[.tup [.str [97,32,45,32,98],.str [99,104,105,108,100,58,58,97,32,45,32,99,104,105,108,100,58,58,98]],.tup [.str [36,118,47,46,46],.str [36,118,47,112,97,114,101,110,116,58,58,110,111,100,101,40,41]],.tup [.str [40,97,41,91,50,93],.str [40,99,104,105,108,100,58,58,97,41,91,50,93]]]
noncomputable def sp4:List T:=[.tup [.str [49,32,45,32,45,32,50],.str [49,32,45,32,45,50]],.tup [.str [97,124,98,124,99],.str [40,40,97,32,124,32,98,41,32,124,32,99,41]],.tup [.str [49,60,50,61,51],.str [40,49,32,60,32,50,41,32,61,32,51]],.tup [.str [46,53],.str [48,46,53]],.tup [.str [53,46],.str [53]]]
noncomputable def sp5:List T:=[.tup [.str [99,111,117,110,116,32,40,32,97,32,41],.str [99,111,117,110,116,40,97,41]],.tup [.str [99,104,105,108,100,32,58,58,32,97,32,91,32,49,32,93],.str [99,104,105,108,100,58,58,97,91,49,93]]]
noncomputable def pairsL:List T:=(((((sp0++sp1)++sp2)++sp3)++sp4)++sp5)
theorem spl0 (ρ:List V):∀ τ,DL h (.cons (.tup (.cons (.c (.str [47,47,97])) (.cons (.c (.str [47,100,101,115,99,101,110,100,97,110,116,45,111,114,45,115,101,108,102,58,58,110,111,100,101,40,41,47,99,104,105,108,100,58,58,97])) .nil))) (.cons (.tup (.cons (.c (.str [97,47,47,64,98])) (.cons (.c (.str [97,47,100,101,115,99,101,110,100,97,110,116,45,111,114,45,115,101,108,102,58,58,110,111,100,101,40,41,47,97,116,116,114,105,98,117,116,101,58,58,98])) .nil))) .nil)) ρ (gs x y τ) (sp0.map V.t) (gs x y τ):=fun τ=>by repeat sizeOf_list_dec
theorem spl1 (ρ:List V):∀ τ,DL h (.cons (.tup (.cons (.c (.str [46])) (.cons (.c (.str [115,101,108,102,58,58,110,111,100,101,40,41])) .nil))) (.cons (.tup (.cons (.c (.str [46,46,47,42])) (.cons (.c (.str [112,97,114,101,110,116,58,58,110,111,100,101,40,41,47,99,104,105,108,100,58,58,42])) .nil))) (.cons (.tup (.cons (.c (.str [97,91,49,93,91,46,61,39,120,39,93])) (.cons (.c (.str [99,104,105,108,100,58,58,97,91,49,93,91,115,101,108,102,58,58,110,111,100,101,40,41,32,61,32,39,120,39,93])) .nil))) .nil))) ρ (gs x y τ) (sp1.map V.t) (gs x y τ):=fun τ=>by repeat sizeOf_list_dec
theorem spl2 (ρ:List V):∀ τ,DL h (.cons (.tup (.cons (.c (.str [42,32,42,32,42])) (.cons (.c (.str [99,104,105,108,100,58,58,42,32,42,32,99,104,105,108,100,58,58,42])) .nil))) (.cons (.tup (.cons (.c (.str [100,105,118,32,100,105,118,32,109,111,100])) (.cons (.c (.str [99,104,105,108,100,58,58,100,105,118,32,100,105,118,32,99,104,105,108,100,58,58,109,111,100])) .nil))) (.cons (.tup (.cons (.c (.str [45,97,45,98])) (.cons (.c (.str [45,99,104,105,108,100,58,58,97,45,98])) .nil))) .nil))) ρ (gs x y τ) (sp2.map V.t) (gs x y τ):=fun τ=>by repeat sizeOf_list_dec
theorem spl3 (ρ:List V):∀ τ,DL h (.cons (.tup (.cons (.c (.str [97,32,45,32,98])) (.cons (.c (.str [99,104,105,108,100,58,58,97,32,45,32,99,104,105,108,100,58,58,98])) .nil))) (.cons (.tup (.cons (.c (.str [36,118,47,46,46])) (.cons (.c (.str [36,118,47,112,97,114,101,110,116,58,58,110,111,100,101,40,41])) .nil))) (.cons (.tup (.cons (.c (.str [40,97,41,91,50,93])) (.cons (.c (.str [40,99,104,105,108,100,58,58,97,41,91,50,93])) .nil))) .nil))) ρ (gs x y τ) (sp3.map V.t) (gs x y τ):=fun τ=>by repeat sizeOf_list_dec
theorem spl4 (ρ:List V):∀ τ,DL h (.cons (.tup (.cons (.c (.str [49,32,45,32,45,32,50])) (.cons (.c (.str [49,32,45,32,45,50])) .nil))) (.cons (.tup (.cons (.c (.str [97,124,98,124,99])) (.cons (.c (.str [40,40,97,32,124,32,98,41,32,124,32,99,41])) .nil))) (.cons (.tup (.cons (.c (.str [49,60,50,61,51])) (.cons (.c (.str [40,49,32,60,32,50,41,32,61,32,51])) .nil))) (.cons (.tup (.cons (.c (.str [46,53])) (.cons (.c (.str [48,46,53])) .nil))) (.cons (.tup (.cons (.c (.str [53,46])) (.cons (.c (.str [53])) .nil))) .nil))))) ρ (gs x y τ) (sp4.map V.t) (gs x y τ):=fun τ=>by repeat sizeOf_list_dec
theorem spl5 (ρ:List V):∀ τ,DL h (.cons (.tup (.cons (.c (.str [99,111,117,110,116,32,40,32,97,32,41])) (.cons (.c (.str [99,111,117,110,116,40,97,41])) .nil))) (.cons (.tup (.cons (.c (.str [99,104,105,108,100,32,58,58,32,97,32,91,32,49,32,93])) (.cons (.c (.str [99,104,105,108,100,58,58,97,91,49,93])) .nil))) .nil)) ρ (gs x y τ) (sp5.map V.t) (gs x y τ):=fun τ=>by repeat sizeOf_list_dec
theorem z73:Dr 4 90 [] (fun t=>t∈pairsL):=by
 intro x y τ g lt
 have lt9:LT (τ++[L sp0]++[L sp1]++[L (sp0++sp1)]++[L sp2]++[L ((sp0++sp1)++sp2)]++[L sp3]++[L (((sp0++sp1)++sp2)++sp3)]++[L sp4]++[L ((((sp0++sp1)++sp2)++sp3)++sp4)]++[L sp5]++[L (((((sp0++sp1)++sp2)++sp3)++sp4)++sp5)]):=lt_l (lt_l (lt_l (lt_l (lt_l (lt_l (lt_l (lt_l (lt_l (lt_l (lt_l lt))))))))))
 obtain ⟨t,x1,y1,ht,g1,d1⟩:=z1p (h:=3) (k:=1) (ρ:=[.ref 0,.ref (τ.length + 11)]) (j:=τ.length + 10) (ts:=pairsL) (τ:=τ++[L sp0]++[L sp1]++[L (sp0++sp1)]++[L sp2]++[L ((sp0++sp1)++sp2)]++[L sp3]++[L (((sp0++sp1)++sp2)++sp3)]++[L sp4]++[L ((((sp0++sp1)++sp2)++sp3)++sp4)]++[L sp5]++[L (((((sp0++sp1)++sp2)++sp3)++sp4)++sp5)]) g (at_i (by simp)) (by decide) rfl rfl (by decide)
 have fin:finR (gs x y τ).length (.ret (.t t) (gs x1 y1 (τ++[L sp0]++[L sp1]++[L (sp0++sp1)]++[L sp2]++[L ((sp0++sp1)++sp2)]++[L sp3]++[L (((sp0++sp1)++sp2)++sp3)]++[L sp4]++[L ((((sp0++sp1)++sp2)++sp3)++sp4)]++[L sp5]++[L (((((sp0++sp1)++sp2)++sp3)++sp4)++sp5)])))=some (.t t,gs x1 y1 τ):=by
  simp only [List.append_assoc];exact z11 lt
 refine ⟨t,x1,y1,ht,g1,?_⟩
 refine c_of (ρ:=[_,.undef]) (r:= .ret (.t t) (gs x1 y1 (τ++[L sp0]++[L sp1]++[L (sp0++sp1)]++[L sp2]++[L ((sp0++sp1)++sp2)]++[L sp3]++[L (((sp0++sp1)++sp2)++sp3)]++[L sp4]++[L ((((sp0++sp1)++sp2)++sp3)++sp4)]++[L sp5]++[L (((((sp0++sp1)++sp2)++sp3)++sp4)++sp5)]))) rfl rfl ?_ fin
 refine x_asg (z2r (spl0 _ τ) (by decide)) rfl ?_
 refine z4h (h:=3) (j:=τ.length) (ts:=sp0) (us:=sp1) (τ:=τ++[L sp0]) rfl (at_i (by simp)) (spl1 _) (by decide) ?_
 rw [show (τ++[L sp0]).length + 2 = τ.length + 3 from by simp]
 refine z4h (h:=3) (j:=τ.length + 2) (ts:=(sp0++sp1)) (us:=sp2) (τ:=τ++[L sp0]++[L sp1]++[L (sp0++sp1)]) rfl (at_i (by simp)) (spl2 _) (by decide) ?_
 rw [show (τ++[L sp0]++[L sp1]++[L (sp0++sp1)]).length + 2 = τ.length + 5 from by simp]
 refine z4h (h:=3) (j:=τ.length + 4) (ts:=((sp0++sp1)++sp2)) (us:=sp3) (τ:=τ++[L sp0]++[L sp1]++[L (sp0++sp1)]++[L sp2]++[L ((sp0++sp1)++sp2)]) rfl (at_i (by simp)) (spl3 _) (by decide) ?_
 rw [show (τ++[L sp0]++[L sp1]++[L (sp0++sp1)]++[L sp2]++[L ((sp0++sp1)++sp2)]).length + 2 = τ.length + 7 from by simp]
 refine z4h (h:=3) (j:=τ.length + 6) (ts:=(((sp0++sp1)++sp2)++sp3)) (us:=sp4) (τ:=τ++[L sp0]++[L sp1]++[L (sp0++sp1)]++[L sp2]++[L ((sp0++sp1)++sp2)]++[L sp3]++[L (((sp0++sp1)++sp2)++sp3)]) rfl (at_i (by simp)) (spl4 _) (by decide) ?_
 rw [show (τ++[L sp0]++[L sp1]++[L (sp0++sp1)]++[L sp2]++[L ((sp0++sp1)++sp2)]++[L sp3]++[L (((sp0++sp1)++sp2)++sp3)]).length + 2 = τ.length + 9 from by simp]
 refine z4h (h:=3) (j:=τ.length + 8) (ts:=((((sp0++sp1)++sp2)++sp3)++sp4)) (us:=sp5) (τ:=τ++[L sp0]++[L sp1]++[L (sp0++sp1)]++[L sp2]++[L ((sp0++sp1)++sp2)]++[L sp3]++[L (((sp0++sp1)++sp2)++sp3)]++[L sp4]++[L ((((sp0++sp1)++sp2)++sp3)++sp4)]) rfl (at_i (by simp)) (spl5 _) (by decide) ?_
 rw [show (τ++[L sp0]++[L sp1]++[L (sp0++sp1)]++[L sp2]++[L ((sp0++sp1)++sp2)]++[L sp3]++[L (((sp0++sp1)++sp2)++sp3)]++[L sp4]++[L ((((sp0++sp1)++sp2)++sp3)++sp4)]).length + 2 = τ.length + 11 from by simp]
 apply x_ret
 exact d1
noncomputable def l3:List T:=[.str [],.str [32,32],.str [9,10]]
noncomputable def l2:List T:=[.str [],.str [32]]
noncomputable abbrev st5 (n1 n2:T):St:=[L [n1,n2],L l3,L l2,L l3,L l2]
noncomputable def sameX:X:= .cmp 1 (.callM (.callF 72 (.cons (.var 6) .nil)) 27 .nil) (.callM (.callF 72 (.cons (.var 7) .nil)) 27 .nil)
noncomputable def SameOk (t:T):Prop:=∃ s l:T,t = .tup [s,l]∧∀ (x y:Int) (n1 n2:T) (u0 u1 u2 u3 u4 u5:V) (n W:Nat),den tabs (runF PG (W + 200) (n + 60)) sameX [u0,u1,u2,u3,u4,u5,.t s,.t l] (gs x y (st5 n1 n2)) = .ok (.t (.bool false)) (gs x y (st5 n1 n2))
theorem same0:SameOk (.tup [.str [47,47,97],.str [47,100,101,115,99,101,110,100,97,110,116,45,111,114,45,115,101,108,102,58,58,110,111,100,101,40,41,47,99,104,105,108,100,58,58,97]]):=⟨_,_,rfl,fun x y n1 n2 u0 u1 u2 u3 u4 u5 n W=>by kernel_rfl⟩
theorem same1:SameOk (.tup [.str [97,47,47,64,98],.str [97,47,100,101,115,99,101,110,100,97,110,116,45,111,114,45,115,101,108,102,58,58,110,111,100,101,40,41,47,97,116,116,114,105,98,117,116,101,58,58,98]]):=⟨_,_,rfl,fun x y n1 n2 u0 u1 u2 u3 u4 u5 n W=>by kernel_rfl⟩
theorem same2:SameOk (.tup [.str [46],.str [115,101,108,102,58,58,110,111,100,101,40,41]]):=⟨_,_,rfl,fun x y n1 n2 u0 u1 u2 u3 u4 u5 n W=>by kernel_rfl⟩
theorem same3:SameOk (.tup [.str [46,46,47,42],.str [112,97,114,101,110,116,58,58,110,111,100,101,40,41,47,99,104,105,108,100,58,58,42]]):=⟨_,_,rfl,fun x y n1 n2 u0 u1 u2 u3 u4 u5 n W=>by kernel_rfl⟩
theorem same4:SameOk (.tup [.str [97,91,49,93,91,46,61,39,120,39,93],.str [99,104,105,108,100,58,58,97,91,49,93,91,115,101,108,102,58,58,110,111,100,101,40,41,32,61,32,39,120,39,93]]):=⟨_,_,rfl,fun x y n1 n2 u0 u1 u2 u3 u4 u5 n W=>by kernel_rfl⟩
theorem same5:SameOk (.tup [.str [42,32,42,32,42],.str [99,104,105,108,100,58,58,42,32,42,32,99,104,105,108,100,58,58,42]]):=⟨_,_,rfl,fun x y n1 n2 u0 u1 u2 u3 u4 u5 n W=>by kernel_rfl⟩
theorem same6:SameOk (.tup [.str [100,105,118,32,100,105,118,32,109,111,100],.str [99,104,105,108,100,58,58,100,105,118,32,100,105,118,32,99,104,105,108,100,58,58,109,111,100]]):=⟨_,_,rfl,fun x y n1 n2 u0 u1 u2 u3 u4 u5 n W=>by kernel_rfl⟩
theorem same7:SameOk (.tup [.str [45,97,45,98],.str [45,99,104,105,108,100,58,58,97,45,98]]):=⟨_,_,rfl,fun x y n1 n2 u0 u1 u2 u3 u4 u5 n W=>by kernel_rfl⟩
theorem same8:SameOk (.tup [.str [97,32,45,32,98],.str [99,104,105,108,100,58,58,97,32,45,32,99,104,105,108,100,58,58,98]]):=⟨_,_,rfl,fun x y n1 n2 u0 u1 u2 u3 u4 u5 n W=>by kernel_rfl⟩
theorem same9:SameOk (.tup [.str [36,118,47,46,46],.str [36,118,47,112,97,114,101,110,116,58,58,110,111,100,101,40,41]]):=⟨_,_,rfl,fun x y n1 n2 u0 u1 u2 u3 u4 u5 n W=>by kernel_rfl⟩
theorem same10:SameOk (.tup [.str [40,97,41,91,50,93],.str [40,99,104,105,108,100,58,58,97,41,91,50,93]]):=⟨_,_,rfl,fun x y n1 n2 u0 u1 u2 u3 u4 u5 n W=>by kernel_rfl⟩
theorem same11:SameOk (.tup [.str [49,32,45,32,45,32,50],.str [49,32,45,32,45,50]]):=⟨_,_,rfl,fun x y n1 n2 u0 u1 u2 u3 u4 u5 n W=>by kernel_rfl⟩
theorem same12:SameOk (.tup [.str [97,124,98,124,99],.str [40,40,97,32,124,32,98,41,32,124,32,99,41]]):=⟨_,_,rfl,fun x y n1 n2 u0 u1 u2 u3 u4 u5 n W=>by kernel_rfl⟩
theorem same13:SameOk (.tup [.str [49,60,50,61,51],.str [40,49,32,60,32,50,41,32,61,32,51]]):=⟨_,_,rfl,fun x y n1 n2 u0 u1 u2 u3 u4 u5 n W=>by kernel_rfl⟩
theorem same14:SameOk (.tup [.str [46,53],.str [48,46,53]]):=⟨_,_,rfl,fun x y n1 n2 u0 u1 u2 u3 u4 u5 n W=>by kernel_rfl⟩
theorem same15:SameOk (.tup [.str [53,46],.str [53]]):=⟨_,_,rfl,fun x y n1 n2 u0 u1 u2 u3 u4 u5 n W=>by kernel_rfl⟩
theorem same16:SameOk (.tup [.str [99,111,117,110,116,32,40,32,97,32,41],.str [99,111,117,110,116,40,97,41]]):=⟨_,_,rfl,fun x y n1 n2 u0 u1 u2 u3 u4 u5 n W=>by kernel_rfl⟩
theorem same17:SameOk (.tup [.str [99,104,105,108,100,32,58,58,32,97,32,91,32,49,32,93],.str [99,104,105,108,100,58,58,97,91,49,93]]):=⟨_,_,rfl,fun x y n1 n2 u0 u1 u2 u3 u4 u5 n W=>by kernel_rfl⟩
theorem zfb:∀ t∈pairsL,SameOk t:=all_cons same0 <|
 all_cons same1 <|
 all_cons same2 <|
 all_cons same3 <|
 all_cons same4 <|
 all_cons same5 <|
 all_cons same6 <|
 all_cons same7 <|
 all_cons same8 <|
 all_cons same9 <|
 all_cons same10 <|
 all_cons same11 <|
 all_cons same12 <|
 all_cons same13 <|
 all_cons same14 <|
 all_cons same15 <|
 all_cons same16 <|
 all_cons same17 all_nil
noncomputable def oddsL:List T:=[.str [],.str [97,32,98],.str [97,91],.str [97,93],.str [47,97,47],.str [97,58,58,98],.str [99,104,105,108,100,58,58],.str [102,40],.str [102,40,49,44,41],.str [49,32,43],.str [39,97],.str [36],.str [97,47,49],.str [46,46,91,49,93],.str [97,58,98,58,99],.str [64],.str [33,97]]
noncomputable def OddOk (t:T):Prop:=∀ (x y:Int) (n1 n2:T) (n W:Nat),runF PG (W + 200) (n + 60) 92 [.t t] (gs x y (st5 n1 n2++[L oddsL])) = .ok (.t (.bool true)) (gs x y (st5 n1 n2++[L oddsL]))
theorem odd0:OddOk (.str []):=fun x y n1 n2 n W=>by kernel_rfl
theorem odd1:OddOk (.str [97,32,98]):=fun x y n1 n2 n W=>by kernel_rfl
theorem odd2:OddOk (.str [97,91]):=fun x y n1 n2 n W=>by kernel_rfl
theorem odd3:OddOk (.str [97,93]):=fun x y n1 n2 n W=>by kernel_rfl
theorem odd4:OddOk (.str [47,97,47]):=fun x y n1 n2 n W=>by kernel_rfl
theorem odd5:OddOk (.str [97,58,58,98]):=fun x y n1 n2 n W=>by kernel_rfl
theorem odd6:OddOk (.str [99,104,105,108,100,58,58]):=fun x y n1 n2 n W=>by kernel_rfl
theorem odd7:OddOk (.str [102,40]):=fun x y n1 n2 n W=>by kernel_rfl
theorem odd8:OddOk (.str [102,40,49,44,41]):=fun x y n1 n2 n W=>by kernel_rfl
theorem odd9:OddOk (.str [49,32,43]):=fun x y n1 n2 n W=>by kernel_rfl
theorem odd10:OddOk (.str [39,97]):=fun x y n1 n2 n W=>by kernel_rfl
theorem odd11:OddOk (.str [36]):=fun x y n1 n2 n W=>by kernel_rfl
theorem odd12:OddOk (.str [97,47,49]):=fun x y n1 n2 n W=>by kernel_rfl
theorem odd13:OddOk (.str [46,46,91,49,93]):=fun x y n1 n2 n W=>by kernel_rfl
theorem odd14:OddOk (.str [97,58,98,58,99]):=fun x y n1 n2 n W=>by kernel_rfl
theorem odd15:OddOk (.str [64]):=fun x y n1 n2 n W=>by kernel_rfl
theorem odd16:OddOk (.str [33,97]):=fun x y n1 n2 n W=>by kernel_rfl
theorem z8r:∀ t∈oddsL,OddOk t:=all_cons odd0 <|
 all_cons odd1 <|
 all_cons odd2 <|
 all_cons odd3 <|
 all_cons odd4 <|
 all_cons odd5 <|
 all_cons odd6 <|
 all_cons odd7 <|
 all_cons odd8 <|
 all_cons odd9 <|
 all_cons odd10 <|
 all_cons odd11 <|
 all_cons odd12 <|
 all_cons odd13 <|
 all_cons odd14 <|
 all_cons odd15 <|
 all_cons odd16 all_nil
end
section
variable {d h i j n:Nat} {x y top:Int} {τ τ' τ1:St} {vs ws:List V} {ρ ρ1 ρ2 ρ3:List V} {t:T} {ts us:List T} {σ σ1 σ2 σ3:St} {r:RS}
theorem ln_go {a i j n:Nat} {body:List V→St→RS} {ρ ρ':List V} {σ σ':St} {l:List V} {x:V} (e : σ[a]? = some (.list l)) (ex:l[j]? = some x) (b:body (ρ.set i x) σ = .next ρ' σ'):forLN i a body (n + 1) j ρ σ=forLN i a body n (j + 1) ρ' σ':=by
 show (match σ[a]? with | some (.list l)=>_ | _=>_:RS)=_
 rw [e]
 show (match l[j]? with | some x=>_ | Option.none=>_:RS)=_
 rw [ex]
 show (match body .. with | .next ρ σ=>_ | .ret v σ=>_ | _=>_:RS)=_
 rw [b]
theorem zhz {a i j n:Nat} {body:List V→St→RS} {ρ:List V} {σ:St} {l:List V} (e : σ[a]? = some (.list l)) (ex:l[j]? = Option.none):forLN i a body (n + 1) j ρ σ = .next ρ σ:=by
 show (match σ[a]? with | some (.list l)=>_ | _=>_:RS)=_
 rw [e]
 show (match l[j]? with | some x=>_ | Option.none=>_:RS)=_
 rw [ex]
theorem zi0 {a:Nat} {b rest:S} {x:X} {v1 v2:V} (q:D d x ρ σ (.ref a) σ1) (e1 : σ1[a]? = some (.list [v1,v2])) (b1:XS d b (ρ.set i v1) σ1 (.next ρ2 σ2)) (e2 : σ2[a]? = some (.list [v1,v2])) (b2:XS d b (ρ2.set i v2) σ2 (.next ρ3 σ3)) (e3 : σ3[a]? = some (.list [v1,v2])) (g:XS d rest ρ3 σ3 r):XS d (.seq (.forL i x b) rest) ρ σ r:=by
 obtain ⟨k1,q⟩:=q.o
 obtain ⟨k2,b1⟩:=b1.o
 obtain ⟨k3,b2⟩:=b2.o
 obtain ⟨k4,g⟩:=g.o
 refine ⟨k1+k2+k3+k4 + 3,fun n W hn hW=>?_⟩
 obtain ⟨W',rfl⟩:∃ j,W=j + 3:=⟨W - 3,by omega⟩
 show (R.toS _ (den ..) _:RS).andThen _=_
 rw [q n _ hn (by omega)]
 show (forLN i a _ (W' + 3) 0 ρ σ1).andThen _=r
 rw [ln_go e1 rfl (b1 n (W' + 3) hn (by omega)),ln_go e2 rfl (b2 n (W' + 3) hn (by omega)),zhz e3 rfl]
 exact g n (W' + 3) hn (by omega)
theorem d_run {x:X} {v:V} (q:∀ n W,den tabs (runF PG (W + 200) (n+d)) x ρ σ = .ok v σ1):D d x ρ σ v σ1 :=
 ⟨200,fun n W hn hW=>by have:=q (n - d) (W - 200);rwa [Nat.sub_add_cancel hn,Nat.sub_add_cancel hW] at this⟩
theorem D.up {x:X} {v:V} {e:Nat} (q:D d x ρ σ v σ1) (l:d≤e):D e x ρ σ v σ1:=⟨q.o.up l⟩
theorem zi1:∀ w∈l3,∃ s:List Nat,w = .str s∧s.length ≤ 2∧∀ c∈s,spB c=true :=
 all_cons ⟨[],rfl,by decide,by decide⟩ <| all_cons ⟨[32,32],rfl,by decide,by decide⟩ <| all_cons ⟨[9,10],rfl,by decide,by decide⟩ all_nil
theorem zfc:∀ w∈l2,∃ s:List Nat,w = .str s∧(s=[]∨s=[32]) :=
 all_cons ⟨[],rfl,.inl rfl⟩ <| all_cons ⟨[32],rfl,.inr rfl⟩ all_nil
theorem z8s {Γ:Sn} {u:List Nat} {fo:List T}:∀ {s:List Nat} {a:Nat},(∀ c∈s,spB c=true)→SG Γ a s u fo []
 | [],a,_=>SG.nil
 | c :: s,a,q=>by
  have g1:SG Γ a [c] (s++u) fo []:=sg_sp (q c (.head _))
  have g2:SG Γ (a+[c].length) s u (fo++[]) []:=z8s fun x hx=>q x (.tail _ hx)
  exact (SG.app g1 g2).of rfl rfl
theorem zb3 {s s1 s2:List Nat} {L0:Nat} (lw:Lw σ) (q:TR (gD 2) (fD 2) (nD 2) (bD 2) L0 t s) (h1:s1.length ≤ 2∧∀ c∈s1,spB c=true) (h2:s2=[]∨s2=[32]):C 60 72 [.t (.str (s1++s++s2))] σ (.t t) σ:=by
 have hb:s.length ≤ 10900:=q.len
 have hl2:s2.length ≤ 1:=by rcases h2 with rfl | rfl<;>decide
 have lt:(s1++s++s2).length < lineS:=by simp [lineS];omega
 have ct:CT ⟨σ,s1++s++s2,lw⟩ 0 (s1++(s++s2)) []:=⟨⟨by simp,Nat.zero_le _⟩,Nat.le_refl _,lt⟩
 have g1:SG ⟨σ,s1++s++s2,lw⟩ 0 s1 (s++s2) [] []:=z8s h1.2
 have c1:=g1.ct ct
 obtain ⟨ws,r,b,g2⟩:=q.rd _ _ s2 _ c1 (by rcases h2 with rfl | rfl;exact .nil;exact .one) (fun _=>by rcases h2 with rfl | rfl<;>exact fun q=>nomatch q) (.inl rfl)
 have g3:SG ⟨σ,s1++s++s2,lw⟩ (0+s1.length+s.length) s2 [] ([]++[]++ws) []:=z8s (by rcases h2 with rfl | rfl<;>decide)
 have g:SG ⟨σ,s1++s++s2,lw⟩ 0 (s1++s++s2) [] [] ws:=(SG.app (s2:=s++s2) (by simpa using g1) (SG.app (by simpa using g2) g3)).of (by simp) (by simp)
 exact (zas lw lt g ((r.all 58 (by decide)).e0) (by decide) (by decide))
noncomputable def body93:S:=match nx b93 with
 | .seq (.forL _ _ b) _=>b
 | _=> .bad
theorem z8t {a:X} {k:Nat} (g:Gx x y) (q:DL h a ρ (gs x y τ) (ts.map V.t) (gs x y τ)) (hn:ts≠[]) (hl:ts.length≤lineS) (h0 : ρ[k]? = some (.ref 0)) (hh : 2≤h):∃ t x' y',t∈ts∧Gx x' y'∧D h (.callF 85 (.cons (.var k) (.cons (.lst a) .nil))) ρ (gs x y τ) (.t t) (gs x' y' (τ++[L ts])):=by
 obtain ⟨v,x',y',hv,g',c⟩:=z3b (τ:=τ++[L ts]) (j:=τ.length) (vs:=ts.map V.t) g z0o (by simpa using hn)
 obtain ⟨t,ht,rfl⟩:=List.mem_map.mp hv
 exact ⟨t,x',y',ht,g',d_f (z04 (d_vr h0) (z04 (z2r q (by simpa using hl)) z0n)) (c.up hh)⟩
theorem z4i {k s:Nat} (g:Gx x y) (hj : τ[j]? = some (L ts)) (hn:ts≠[]) (h0 : ρ[s]? = some (.ref 0)) (hk : ρ[k]? = some (.ref (j + 1))) (hh : 2≤h):∃ t x' y',t∈ts∧Gx x' y'∧D h (.callF 85 (.cons (.var s) (.cons (.var k) .nil))) ρ (gs x y τ) (.t t) (gs x' y' τ):=by
 obtain ⟨v,x',y',hv,g',c⟩:=z3b g hj (by simpa using hn)
 obtain ⟨t,ht,rfl⟩:=List.mem_map.mp hv
 exact ⟨t,x',y',ht,g',d_f (z04 (d_vr h0) (z04 (d_vr hk) z0n)) (c.up hh)⟩
theorem z8u (gd:GD 2 t) (g:Gx x y) (lt:LT τ) {u0 u3 u4 u5 u6 u7:V}:∃ x' y' v4 v5,Gx x' y'∧XS 100 body93 [u0,.ref 0,.t t,u3,u4,u5,u6,u7] (gs x y τ) (.next [u0,.ref 0,.t t,u3,.t v4,.t v5,u6,u7] (gs x' y' (τ++[L l3]++[L l2]))):=by
 obtain ⟨⟨L0,s,hL,q⟩,⟨c,l,f,rw,rfl,ra⟩⟩:=gd
 obtain ⟨w1,x1,y1,hw1,g1,d1⟩:=z8t (h:=100) (k:=1) (ρ:=[u0,.ref 0,.t (.node c l),u3,.t (.str s),u5,u6,u7]) (ts:=l3) (a:= .cons (.c (.str [])) (.cons (.c (.str [32,32])) (.cons (.c (.str [9,10])) .nil))) (τ:=τ) g (by repeat sizeOf_list_dec) (by decide) (by decide) rfl (by decide)
 obtain ⟨s1,rfl,hs1⟩:=zi1 w1 hw1
 have lt1:=lt_l (ts:=l3) lt
 obtain ⟨w2,x2,y2,hw2,g2,d2⟩:=z8t (h:=100) (k:=1) (ρ:=[u0,.ref 0,.t (.node c l),u3,.t (.str s),u5,u6,u7]) (ts:=l2) (a:= .cons (.c (.str [])) (.cons (.c (.str [32])) .nil)) (τ:=τ++[L l3]) g1 (by repeat sizeOf_list_dec) (by decide) (by decide) rfl (by decide)
 obtain ⟨s2,rfl,hs2⟩:=zfc w2 hw2
 have lt2:=lt_l (ts:=l2) lt1
 have lw2:Lw (gs x2 y2 (τ++[L l3]++[L l2])):=z0l lt2
 have c0:=(q.wr (gs x y τ) (z0l lt)).up (e:=100) (by decide)
 have c1:=(q.wr _ lw2).up (e:=100) (by decide)
 have c2:=(zb3 lw2 q hs1 hs2).up (e:=100)
 have c3:=(ra.run _ lw2).up (e:=100) (by decide)
 have hb:s.length ≤ 10900:=q.len
 have hl2:s2.length ≤ 1:=by rcases hs2 with rfl | rfl<;>decide
 have b1:binT 0 (.str s1) (.str s)=some (.str (s1++s)):=z06 (by simp [lineS];omega)
 have b2:binT 0 (.str (s1++s)) (.str s2)=some (.str (s1++s++s2)):=z06 (by simp [lineS];omega)
 have e1:cmpV (gs x2 y2 (τ++[L l3]++[L l2])) 1 (.t (.tup rw)) (.t (.tup rw))=some false:=by
  show (if rw.isEmpty then some rw.isEmpty else if eqbN 60 (.tup rw) (.tup rw) then some true else Option.none).map (!·)=_
  have n0:rw.isEmpty=false:=by
   cases rw with
   | nil=>exact absurd rfl ra.ne
   | cons=>rfl
  rw [n0]
  have:=ra.eq.le (m':=60) (by decide)
  unfold Eqs at this
  rw [this];rfl
 have e2:cmpV (gs x2 y2 (τ++[L l3]++[L l2])) 1 (.t (.str s)) (.t (.str s))=some false:=by
  show some (!decide (s=s))=_
  rw [decide_eq_true rfl];rfl
 have m0:=ra.me
 refine ⟨x2,y2,.str s,.node c l,g2,?_⟩
 apply x_asg
 repeat (first | exact c0 | exact c1 | exact c2 | exact c3 | exact d1 | exact d2 | exact b1 | exact b2 | exact e1 | exact e2 | exact m0 | sizeOf_list_dec)
theorem XS.up {s:S} {e:Nat} (q:XS d s ρ σ r) (l:d≤e):XS e s ρ σ r:=⟨q.o.up l⟩
theorem zi2 (ns:List Int):∃ σ',C 150 93 [.t (.lst ns)] [] (.t (.bool true)) σ':=by
 obtain ⟨x,y,g,c0⟩:=zfa ns
 have c0:=c0.up (e:=149)
 obtain ⟨n1,x1,y1,p1,g1,c1⟩:=zf9 x y [] g rfl
 have c1:=c1.up (e:=149)
 obtain ⟨n2,x2,y2,p2,g2,c2⟩:=z72 x1 y1 [] g1 rfl
 have c2:=c2.up (e:=149)
 obtain ⟨x3,y3,v4,v5,g3,b1⟩:=z8u (τ:=[L [n1,n2]]) p1 g2 (lt_l (ts:=[n1,n2]) (τ:=[]) rfl) (u0:= .t (.lst ns)) (u3:= .undef) (u4:= .undef) (u5:= .undef) (u6:= .undef) (u7:= .undef)
 obtain ⟨x4,y4,v4',v5',g4,b2⟩:=z8u (τ:=[L [n1,n2]]++[L l3]++[L l2]) p2 g3 (lt_l (lt_l (lt_l (ts:=[n1,n2]) (τ:=[]) rfl))) (u0:= .t (.lst ns)) (u3:= .undef) (u4:= .t v4) (u5:= .t v5) (u6:= .undef) (u7:= .undef)
 have l5:LT (st5 n1 n2):=lt_l (ts:=l2) (τ:=[L [n1,n2],L l3,L l2,L l3]) (lt_l (ts:=l3) (τ:=[L [n1,n2],L l3,L l2]) (lt_l (ts:=l2) (τ:=[L [n1,n2],L l3]) (lt_l (ts:=l3) (τ:=[L [n1,n2]]) (lt_l (ts:=[n1,n2]) (τ:=[]) rfl))))
 obtain ⟨t,x5,y5,ht,g5,c5⟩:=z73 x4 y4 (st5 n1 n2) g4 l5
 have c5:=c5.up (e:=149)
 obtain ⟨s,l,rfl,same⟩:=zfb t ht
 have d6:D 149 sameX [.t (.lst ns),.ref 0,.t n2,.undef,.t v4',.t v5',.t s,.t l] (gs x5 y5 (st5 n1 n2)) (.t (.bool false)) (gs x5 y5 (st5 n1 n2)):=(d_run (d:=60) (same x5 y5 n1 n2 _ _ _ _ _ _)).up (by decide)
 obtain ⟨o1,x6,y6,h1,g6,d7⟩:=z4i (h:=149) (k:=3) (s:=1) (ρ:=[.t (.lst ns),.ref 0,.t n2,.ref 6,.t v4',.t v5',.t s,.t l]) (j:=5) (ts:=oddsL) (τ:=st5 n1 n2++[L oddsL]) g5 rfl (by decide) rfl rfl (by decide)
 have c7:C 149 92 [.t o1] (gs x6 y6 (st5 n1 n2++[L oddsL])) (.t (.bool true)) (gs x6 y6 (st5 n1 n2++[L oddsL])):=(c_run (d:=60) (z8r o1 h1 x6 y6 n1 n2)).up
 obtain ⟨o2,x7,y7,h2,g7,d8⟩:=z4i (h:=149) (k:=3) (s:=1) (ρ:=[.t (.lst ns),.ref 0,.t n2,.ref 6,.t v4',.t v5',.t s,.t l]) (j:=5) (ts:=oddsL) (τ:=st5 n1 n2++[L oddsL]) g6 rfl (by decide) rfl rfl (by decide)
 have c8:C 149 92 [.t o2] (gs x7 y7 (st5 n1 n2++[L oddsL])) (.t (.bool true)) (gs x7 y7 (st5 n1 n2++[L oddsL])):=(c_run (d:=60) (z8r o2 h2 x7 y7 n1 n2)).up
 have q4:XS 149 (nx (nx b93)) [.t (.lst ns),.ref 0,.t n2,.undef,.t v4',.t v5',.undef,.undef] (gs x4 y4 (st5 n1 n2)) (.ret (.t (.bool true)) (gs x7 y7 (st5 n1 n2++[L oddsL]))):=by
  refine zcl (us:=[.t s,.t l]) (d_f (z04 (d_vr rfl) z0n) c5) rfl rfl rfl ?_
  refine x_if d6 (i_f rfl (z7s ?_))
  refine x_asg (v:= .ref 6) (z0x (vs:=oddsL.map V.t) (τ:=st5 n1 n2) (τ1:=st5 n1 n2) (by repeat sizeOf_list_dec) (by decide)) rfl ?_
  apply x_ret
  repeat (first | exact d7 | exact d8 | exact c7 | exact c8 | sizeOf_list_dec)
 have dl:D 149 (.lst (.cons (.callF 89 (.cons (.var 1) (.cons (.c (.int 2)) .nil))) (.cons (.callF 91 (.cons (.var 1) .nil)) .nil))) [.t (.lst ns),.ref 0,.undef,.undef,.undef,.undef,.undef,.undef] (gs x y []) (.ref 1) (gs x2 y2 [L [n1,n2]]):=by
  have q:DL 149 (.cons (.callF 89 (.cons (.var 1) (.cons (.c (.int 2)) .nil))) (.cons (.callF 91 (.cons (.var 1) .nil)) .nil)) [.t (.lst ns),.ref 0,.undef,.undef,.undef,.undef,.undef,.undef] (gs x y []) [.t n1,.t n2] (gs x2 y2 []):=by
   repeat (first | exact c1 | exact c2 | sizeOf_list_dec)
  exact d_lst q (Nat.le_of_ble_eq_true rfl)
 refine ⟨_,c_of (ρ:=[_,.undef,.undef,.undef,.undef,.undef,.undef,.undef]) (r:= .ret (.t (.bool true)) (gs x7 y7 (st5 n1 n2++[L oddsL]))) rfl rfl ?_ rfl⟩
 refine x_asg (v:= .ref 0) (σ1:=gs x y []) (d_f (z04 (d_vt rfl) z0n) c0) rfl ?_
 exact zi0 dl rfl (b1.up (by decide)) rfl (b2.up (by decide)) rfl q4
theorem law_true (ns:List Int):∃ W σ',runF PG W 150 93 [.t (.lst ns)] [] = .ok (.t (.bool true)) σ':=by
 obtain ⟨σ',⟨k,q⟩⟩:=zi2 ns
 exact ⟨k,σ',q 150 k (Nat.le_refl _) (Nat.le_refl _)⟩
end
end Mine.Internal.P
namespace Mine.Internal
open PySem PySem.W PySem.Calls PyProof.Rows
theorem zdf {α:Type} {σ:St} {i:Nat} {f:List V→Option α} {r : α} (h:(match σ[i]? with
  | some (.list l)=>f l
  | _=>Option.none)=some r):∃ l,σ[i]? = some (.list l)∧f l=some r:=by
 cases e : σ[i]? with
 | none=>rw [e] at h;exact nS h
 | some o=>
  rw [e] at h
  cases o with
  | list l=>exact ⟨l,rfl,h⟩
  | inst=>exact nS h
theorem z8v {α:Type} {σ:St} {i:Nat} {f:Nat→List V→Option α} {r : α} (h:(match σ[i]? with
  | some (.inst c l)=>f c l
  | _=>Option.none)=some r):∃ c l,σ[i]? = some (.inst c l)∧f c l=some r:=by
 cases e : σ[i]? with
 | none=>rw [e] at h;exact nS h
 | some o=>
  rw [e] at h
  cases o with
  | list=>exact nS h
  | inst c l=>exact ⟨c,l,rfl,h⟩
theorem tup_b {α:Type} {v:V} {f:List T→R α} (h:(match v with
 | .t (.tup l)=>f l
 | _=> .bot) ≠ .bot):∃ l,v = .t (.tup l):=by
 cases v with
 | t t=>cases t<;>first | exact ⟨_,rfl⟩ | exact (h rfl).elim
 | _=>exact (h rfl).elim
theorem int_b {α:Type} {v:V} {f:Int→R α} (h:(match v with
 | .t (.int l)=>f l
 | _=> .bot) ≠ .bot):∃ l,v = .t (.int l):=by
 cases v with
 | t t=>cases t<;>first | exact ⟨_,rfl⟩ | exact (h rfl).elim
 | _=>exact (h rfl).elim
theorem ite_r {α:Type} {c:Prop} [Decidable c] {x:R α} (h:(if c then x else .bot) ≠ .bot):c:=Decidable.byContradiction fun q=>h (if_neg q)
theorem zi3 {α:Type} {σ:St} {i:Nat} {f:List V→R α} (h:(match σ[i]? with
 | some (.list l)=>f l
 | _=> .bot) ≠ .bot):∃ l,σ[i]? = some (.list l):=by
 cases e : σ[i]? with
 | none=>rw [e] at h;exact (h rfl).elim
 | some m=>
  rw [e] at h
  cases m with
  | list l=>exact ⟨l,rfl⟩
  | inst _ _=>exact (h rfl).elim
theorem zi4 {α:Type} {σ:St} {i:Nat} {f:Nat→List V→R α} (h:(match σ[i]? with
 | some (.inst c l)=>f c l
 | _=> .bot) ≠ .bot):∃ c l,σ[i]? = some (.inst c l):=by
 cases e : σ[i]? with
 | none=>rw [e] at h;exact (h rfl).elim
 | some m=>
  rw [e] at h
  cases m with
  | inst c l=>exact ⟨c,l,rfl⟩
  | list _=>exact (h rfl).elim
noncomputable abbrev Sub (Z Z':Heap):Prop:=∀ b o,Z.get? b=some o→Z'.get? b=some o
theorem Sub.refl (Z:Heap):Sub Z Z:=fun _ _ e=>e
theorem Sub.trans {a b c:Heap} (x:Sub a b) (y:Sub b c):Sub a c:=fun _ _ e=>y _ _ (x _ _ e)
class PH where
 tab:Heap→Addr→List (Str×Value)→Prop
 mono:∀ {Z Z':Heap} {a:Addr} {kvs:List (Str×Value)},Sub Z Z'→tab Z a kvs→tab Z' a kvs
variable [PH]
noncomputable def mkS (l:List Nat):Str:=⟨l.toArray⟩
noncomputable def caddr:Nat→Nat
 | 0=>97 | 1=>125 | 2=>153 | 3=>181 | 4=>209 | 5=>237 | 6=>265 | 7=>293 | 8=>321 | 9=>421 | 10=>541 | 11=>733 | _=>0
noncomputable def aname:Nat→Str
 | 0=>Str.ofString "message" | 1=>Str.ofString "value" | 2=>Str.ofString "name" | 3=>Str.ofString "arguments" | 4=>Str.ofString "op" | 5=>Str.ofString "left" | 6=>Str.ofString "right" | 7=>Str.ofString "base" | 8=>Str.ofString "predicates" | 9=>Str.ofString "start"
 | 10=>Str.ofString "steps" | 11=>Str.ofString "axis" | 12=>Str.ofString "test" | 13=>Str.ofString "kind" | 14=>Str.ofString "text" | 15=>Str.ofString "place" | 16=>Str.ofString "at" | 17=>Str.ofString "found" | 18=>Str.ofString "words" | 19=>Str.ofString "depth"
 | _=>Str.ofString ""
noncomputable def Keyed:List Nat→List DictEntry→Prop
 | [],[]=>True
 | f :: fs,e :: es=>(∃ t,e.key = .str (aname f) t)∧Keyed fs es
 | _,_=>False
noncomputable def KeyedD:List (List Nat×Int)→List (Str×Value)→Prop
 | [],[]=>True
 | f :: fs,e :: es=>(e.1=mkS f.1∧∃ u,e.2 = .int f.2 u)∧KeyedD fs es
 | _,_=>False
noncomputable def IntsRep:List Int→List Value→Prop
 | [],[]=>True
 | i :: l,v :: vs=>(∃ t,v = .int i t)∧IntsRep l vs
 | _,_=>False
mutual
noncomputable def RepT (Z:Heap):T→Value→Prop
 | .none,x=>x = .none
 | .bool b,x=>x = .bool b
 | .int i,x=>∃ t,x = .int i t
 | .str s,x=>∃ t,x = .str (mkS s) t∧s.length≤lineS
 | .tup l,x=>∃ a vs,x = .ref a∧Z.IsTuple a vs∧RepTs Z l vs.toList∧l.length≤lineS
 | .node c l,x=>∃ a d sl es n,x = .ref a∧Z.get? a=some ⟨.ref (caddr c),some d,.plain,sl⟩∧Z.get? d=some (dictOf es n)∧Keyed (fieldsOf c) es∧RepTs Z l (es.map (·.val))
 | .dict l,x=>∃ a es,x = .ref a∧PH.tab Z a es∧KeyedD l es∧(a == sysModules)=false
 | .lst l,x=>∃ a vs,x = .ref a∧Z.PlainList a vs∧IntsRep l vs.toList
noncomputable def RepTs (Z:Heap):List T→List Value→Prop
 | [],[]=>True
 | x :: xs,y :: ys=>RepT Z x y∧RepTs Z xs ys
 | _,_=>False
end
noncomputable abbrev SA:=Addr×Option Addr
noncomputable def RepV (Z:Heap) (μ:List SA):V→Value→Prop
 | .undef,_=>False
 | .t x,v=>RepT Z x v
 | .ref i,v=>∃ sa,μ[i]? = some sa∧v = .ref sa.1
noncomputable def RepVs (Z:Heap) (μ:List SA):List V→List Value→Prop
 | [],[]=>True
 | x :: xs,y :: ys=>RepV Z μ x y∧RepVs Z μ xs ys
 | _,_=>False
noncomputable def MRep (Z:Heap) (μ:List SA) (h:Heap):MO→SA→Prop
 | .list l,sa=>sa.2=none∧l.length≤lineS∧∃ vs,h.PlainList sa.1 vs.toArray∧RepVs Z μ l vs
 | .inst c l,sa=>∃ d es n,sa.2=some d∧h.get? sa.1=some (instObj (caddr c) d)∧h.get? d=some (dictOf es n)∧Keyed ((fieldsOf c).take l.length) es∧l.length≤(fieldsOf c).length∧RepVs Z μ l (es.map (·.val))
inductive PO where
 | ns (m:Str→Option Value)
 | ob (o:Obj)
noncomputable def PO.holds (h:Heap) (a:Addr):PO→Prop
 | .ns m=>h.Ns a m
 | .ob o=>h.get? a=some o
noncomputable abbrev Outs:=List (Addr×PO)
noncomputable def nsA (outs:Outs):List Addr:=outs.filterMap fun p=>match p.2 with | .ns _=>some p.1 | .ob _=>none
noncomputable def ofSA (sa:SA):List Addr:=sa.1 :: sa.2.toList
noncomputable def addrs (μ:List SA) (outs:Outs):List Addr:=μ.flatMap ofSA++outs.map (·.1)
structure WS (Z:Heap) (σ:St) (μ:List SA) (outs:Outs) (h:Heap):Prop where
 keep:Sub Z h
 len : μ.length = σ.length
 rep:∀ (i:Nat) (mo:MO) (sa:SA),σ[i]? = some mo→μ[i]? = some sa→MRep Z μ h mo sa
 out:∀ p∈outs,PO.holds h p.1 p.2
 nodup:(addrs μ outs).Nodup
 fresh:∀ a∈addrs μ outs,Z.get? a=none
theorem RepVs.ind {Z:Heap} {μ:List SA} {P:List V→List Value→Prop} (n:P [] []) (c:∀ x y xs ys,RepV Z μ x y→P xs ys→P (x :: xs) (y :: ys)) {x:List V}:∀ {v:List Value},RepVs Z μ x v→P x v:=by
 induction x with
 | nil=>
  intro v h
  cases v with
  | nil=>exact n
  | cons=>exact h.elim
 | cons x xs ih=>
  intro v h
  cases v with
  | nil=>exact h.elim
  | cons y ys=>exact c x y xs ys h.1 (ih h.2)
theorem RepTs.ind {Z:Heap} {P:List T→List Value→Prop} (n:P [] []) (c:∀ x y xs ys,RepT Z x y→P xs ys→P (x :: xs) (y :: ys)) {x:List T}:∀ {v:List Value},RepTs Z x v→P x v:=by
 induction x with
 | nil=>
  intro v h
  cases v with
  | nil=>exact n
  | cons=>exact h.elim
 | cons x xs ih=>
  intro v h
  cases v with
  | nil=>exact h.elim
  | cons y ys=>exact c x y xs ys h.1 (ih h.2)
theorem RepT.mono {Z Z':Heap} (k:Sub Z Z') {x:T} {v:Value}:RepT Z x v→RepT Z' x v:=by
 refine T.rec (motive_1:=fun x=>∀ v,RepT Z x v→RepT Z' x v) (motive_2:=fun l=>∀ v,RepTs Z l v→RepTs Z' l v) (fun _ h=>h) (fun _ _ h=>h) (fun _ _ h=>h) (fun _ _ h=>h) ?_ ?_ ?_ ?_ ?_ ?_ x v
 ·intro l ih v h
  obtain ⟨a,vs,e,⟨o,ho,r⟩,t,z⟩:=h
  exact ⟨a,vs,e,⟨o,k _ _ ho,r⟩,ih _ t,z⟩
 ·intro c l ih v h
  obtain ⟨a,d,sl,es,n,e,h1,h2,h3,t⟩:=h
  exact ⟨a,d,sl,es,n,e,k _ _ h1,k _ _ h2,h3,ih _ t⟩
 ·intro l v h
  obtain ⟨a,es,e,h1,h2⟩:=h
  exact ⟨a,es,e,PH.mono k h1,h2⟩
 ·intro l v h
  obtain ⟨a,vs,e,⟨n,h1⟩,h2⟩:=h
  exact ⟨a,vs,e,⟨n,k _ _ h1⟩,h2⟩
 ·intro v h
  cases v with
  | nil=>trivial
  | cons=>exact h.elim
 ·intro x l ih ih2 v h
  cases v with
  | nil=>exact h.elim
  | cons=>exact ⟨ih _ h.1,ih2 _ h.2⟩
theorem RepTs.mono {Z Z':Heap} (k:Sub Z Z') {x:List T} {v:List Value} (h:RepTs Z x v):RepTs Z' x v :=
 h.ind (P:=RepTs Z') trivial fun _ _ _ _ a ih=>⟨a.mono k,ih⟩
theorem RepV.mono {Z Z':Heap} (k:Sub Z Z') {μ μ':List SA} (p:∀ (i:Nat) (sa:SA),μ[i]? = some sa→μ'[i]? = some sa) {x:V} {v:Value} (h:RepV Z μ x v):RepV Z' μ' x v:=by
 cases x with
 | undef=>exact h
 | t _=>exact RepT.mono k h
 | ref _=>obtain ⟨sa,a,e⟩:=h;exact ⟨sa,p _ _ a,e⟩
theorem RepVs.mono {Z Z':Heap} (k:Sub Z Z') {μ μ':List SA} (p:∀ (i:Nat) (sa:SA),μ[i]? = some sa→μ'[i]? = some sa) {x:List V} {v:List Value} (h:RepVs Z μ x v):RepVs Z' μ' x v :=
 h.ind (P:=RepVs Z' μ') trivial fun _ _ _ _ a ih=>⟨a.mono k p,ih⟩
theorem RepVs.length {Z:Heap} {μ:List SA} {x:List V} {v:List Value} (h:RepVs Z μ x v):x.length=v.length :=
 h.ind (P:=fun x v=>x.length=v.length) rfl fun _ _ _ _ _ ih=>congrArg (· + 1) ih
theorem RepTs.length {Z:Heap} {x:List T} {v:List Value} (h:RepTs Z x v):x.length=v.length :=
 h.ind (P:=fun x v=>x.length=v.length) rfl fun _ _ _ _ _ ih=>congrArg (· + 1) ih
theorem RepVs.get {Z:Heap} {μ:List SA} {x:List V} {v:List Value} {i:Nat} {a:V} (h:RepVs Z μ x v):x[i]? = some a→∃ b,v[i]? = some b∧RepV Z μ a b :=
 h.ind (P:=fun x v=>∀ i a,x[i]? = some a→∃ b,v[i]? = some b∧RepV Z μ a b) (fun i a e=>nS e) (fun x y xs ys h ih i a e=>by
  cases i with
  | zero=>obtain rfl:=Option.some.inj e;exact ⟨y,rfl,h⟩
  | succ i=>exact ih i a e) i a
theorem RepTs.get {Z:Heap} {x:List T} {v:List Value} {i:Nat} {a:T} (h:RepTs Z x v):x[i]? = some a→∃ b,v[i]? = some b∧RepT Z a b :=
 h.ind (P:=fun x v=>∀ i a,x[i]? = some a→∃ b,v[i]? = some b∧RepT Z a b) (fun i a e=>nS e) (fun x y xs ys h ih i a e=>by
  cases i with
  | zero=>obtain rfl:=Option.some.inj e;exact ⟨y,rfl,h⟩
  | succ i=>exact ih i a e) i a
theorem RepVs.append {Z:Heap} {μ:List SA} {x x':List V} {v v':List Value} (h:RepVs Z μ x v) (h':RepVs Z μ x' v'):RepVs Z μ (x++x') (v++v') :=
 h.ind (P:=fun x v=>RepVs Z μ (x++x') (v++v')) h' fun _ _ _ _ a ih=>⟨a,ih⟩
theorem RepTs.append {Z:Heap} {x x':List T} {v v':List Value} (h:RepTs Z x v) (h':RepTs Z x' v'):RepTs Z (x++x') (v++v') :=
 h.ind (P:=fun x v=>RepTs Z (x++x') (v++v')) h' fun _ _ _ _ a ih=>⟨a,ih⟩
theorem RepVs.set {Z:Heap} {μ:List SA} {a:V} {b:Value} (r:RepV Z μ a b) {x:List V} {v:List Value} {i:Nat} (h:RepVs Z μ x v):RepVs Z μ (x.set i a) (v.set i b):=by
 have hh:x.length=v.length:=h.length
 induction x generalizing v i with
 | nil=>
  cases v with
  | nil=>trivial
  | cons=>exact h.elim
 | cons x xs ih=>
  cases v with
  | nil=>exact h.elim
  | cons y ys=>
   cases i with
   | zero=>exact ⟨r,h.2⟩
   | succ i=>exact ⟨h.1,ih h.2 h.2.length⟩
theorem RepVs.trees {Z:Heap} {μ:List SA} {x:List V}:∀ {v:List Value} {ts:List T},RepVs Z μ x v→treesV x=some ts→RepTs Z ts v:=by
 induction x with
 | nil=>
  intro v ts h e
  obtain rfl:=Option.some.inj e
  cases v with
  | nil=>trivial
  | cons=>exact h.elim
 | cons a xs ih=>
  intro v ts h e
  cases a with
  | t a=>
   obtain ⟨r,e1,rfl⟩:=Option.map_eq_some_iff.mp e
   cases v with
   | nil=>exact h.elim
   | cons y ys=>exact ⟨h.1,ih h.2 e1⟩
  | _=>exact nS e
theorem RepTs.vals {Z:Heap} {μ:List SA} {ts:List T} {v:List Value} (h:RepTs Z ts v):RepVs Z μ (ts.map .t) v :=
 h.ind (P:=fun ts v=>RepVs Z μ (ts.map .t) v) trivial fun _ _ _ _ a ih=>⟨a,ih⟩
theorem MRep.mono {Z Z':Heap} (k:Sub Z Z') {μ μ':List SA} (p:∀ (i:Nat) (sa:SA),μ[i]? = some sa→μ'[i]? = some sa) {h h':Heap} {mo:MO} {sa:SA} (kh:∀ a∈ofSA sa,∀ o,h.get? a=some o→h'.get? a=some o)
  (r:MRep Z μ h mo sa):MRep Z' μ' h' mo sa:=by
 cases mo with
 | list l=>
  obtain ⟨e,z,vs,⟨n,ho⟩,rv⟩:=r
  exact ⟨e,z,vs,⟨n,kh _ (.head _) _ ho⟩,rv.mono k p⟩
 | inst c l=>
  obtain ⟨d,es,n,e,h1,h2,h3,h4,h5⟩:=r
  exact ⟨d,es,n,e,kh _ (.head _) _ h1,kh _ (by simp [ofSA,e]) _ h2,h3,h4,h5.mono k p⟩
theorem PO.keeps {h h':Heap} {a:Addr} {p:PO} (k:∀ o,h.get? a=some o→h'.get? a=some o) (x:p.holds h a):p.holds h' a:=by
 cases p with
 | ns m=>obtain ⟨o,es,ep,ho,r⟩:=x;exact ⟨o,es,ep,k _ ho,r⟩
 | ob o=>exact k _ x
theorem MRep.there {Z:Heap} {μ:List SA} {h:Heap} {mo:MO} {sa:SA} (r:MRep Z μ h mo sa):∀ a∈ofSA sa,∃ o,h.get? a=some o:=by
 cases mo with
 | list l=>obtain ⟨e,_,vs,⟨n,ho⟩,_⟩:=r;intro a ha;simp [ofSA,e] at ha;subst ha;exact ⟨_,ho⟩
 | inst c l=>
  obtain ⟨d,es,n,e,h1,h2,_⟩:=r
  intro a ha
  simp [ofSA,e] at ha
  rcases ha with rfl | rfl
  ·exact ⟨_,h1⟩
  ·exact ⟨_,h2⟩
theorem PO.there {h:Heap} {a:Addr} {p:PO} (x:p.holds h a):∃ o,h.get? a=some o:=by
 cases p with
 | ns m=>obtain ⟨o,es,ep,ho,r⟩:=x;exact ⟨o,ho⟩
 | ob o=>exact ⟨o,x⟩
theorem z02 {μ:List SA} {outs:Outs} {a:Addr}:a∈addrs μ outs↔(∃ (i:Nat) (sa:SA),μ[i]? = some sa∧a∈ofSA sa)∨(∃ p∈outs,p.1=a):=by
 unfold addrs
 rw [List.mem_append,List.mem_flatMap,List.mem_map]
 constructor
 ·rintro (⟨sa,h,h'⟩ | h)
  ·obtain ⟨i,hi⟩:=List.getElem?_of_mem h;exact .inl ⟨i,sa,hi,h'⟩
  ·exact .inr h
 ·rintro (⟨i,sa,h,h'⟩ | h)
  ·exact .inl ⟨sa,List.mem_of_getElem? h,h'⟩
  ·exact .inr h
section
variable {Z Z' h h':Heap} {σ:St} {μ:List SA} {outs:Outs}
theorem WS.there (w:WS Z σ μ outs h) {a:Addr} (ha:a∈addrs μ outs):∃ o,h.get? a=some o:=by
 rcases z02.mp ha with ⟨i,sa,hi,hs⟩ | ⟨p,hp,rfl⟩
 ·have hl:i < σ.length:=by rw [← w.len];exact (List.getElem?_eq_some_iff.mp hi).1
  exact (w.rep i σ[i] sa (List.getElem?_eq_getElem hl) hi).there a hs
 ·exact PO.there (w.out p hp)
theorem WS.ext (w:WS Z σ μ outs h) (k:Sub h h'):WS Z σ μ outs h' :=
 ⟨w.keep.trans k,w.len,fun i mo sa e e'=>(w.rep i mo sa e e').mono (Sub.refl _) (fun _ _ x=>x) (fun a _ o x=>k a o x),fun p hp=>PO.keeps (fun o x=>k _ o x) (w.out p hp),w.nodup,w.fresh⟩
theorem WS.extBut (w:WS Z σ μ outs h) {a:Addr} (k:Heap.ExtBut a h h') (ha:a∉addrs μ outs) (hz:Z.get? a=none):WS Z σ μ outs h' :=
 ⟨fun b o e=>k b o (fun q=>by rw [q,hz] at e;cases e) (w.keep b o e),w.len,
  fun i mo sa e e'=>(w.rep i mo sa e e').mono (Sub.refl _) (fun _ _ x=>x) (fun b hb o x=>k b o (fun q=>ha (q ▸ z02.mpr (.inl ⟨i,sa,e',hb⟩))) x),
  fun p hp=>PO.keeps (fun o x=>k _ o (fun q=>ha (q ▸ z02.mpr (.inr ⟨p,hp,rfl⟩))) x) (w.out p hp),w.nodup,w.fresh⟩
theorem z0c {μ:List SA} {a:Addr} {p:PO} {outs:Outs}:(addrs μ ((a,p) :: outs)).Perm (a :: addrs μ outs):=by
 unfold addrs
 rw [List.map_cons]
 exact List.perm_middle
theorem WS.pop {a:Addr} {p:PO} (w:WS Z σ μ ((a,p) :: outs) h):WS Z σ μ outs h :=
 ⟨w.keep,w.len,w.rep,fun q hq=>w.out q (.tail _ hq),(List.nodup_cons.mp (z0c.nodup_iff.mp w.nodup)).2,fun b hb=>w.fresh b (z0c.mem_iff.mpr (.tail _ hb))⟩
theorem WS.push (w:WS Z σ μ outs h) {a:Addr} {p:PO} (hp:p.holds h a) (ha:a∉addrs μ outs) (hz:Z.get? a=none):WS Z σ μ ((a,p) :: outs) h :=
 ⟨w.keep,w.len,w.rep,fun q hq=>(List.mem_cons.mp hq).elim (fun e=>by rw [e];exact hp) (w.out q),z0c.nodup_iff.mpr (List.nodup_cons.mpr ⟨ha,w.nodup⟩),
  fun b hb=>(List.mem_cons.mp (z0c.mem_iff.mp hb)).elim (fun e=>by rw [e];exact hz) (w.fresh b)⟩
theorem WS.not_mem (w:WS Z σ μ outs h) {a:Addr} (ha:h.get? a=none):a∉addrs μ outs∧Z.get? a=none :=
 ⟨fun q=>(by obtain ⟨o,e⟩:=w.there q;rw [ha] at e;cases e),by
  cases q:Z.get? a with
  | none=>rfl
  | some o=>have:=w.keep a o q;rw [ha] at this;cases this⟩
theorem WS.pushNew (w:WS Z σ μ outs h) (k:Sub h h') {a:Addr} {p:PO} (ha:h.get? a=none) (hp:p.holds h' a):WS Z σ μ ((a,p) :: outs) h' :=
 (w.ext k).push hp (w.not_mem ha).1 (w.not_mem ha).2
theorem WS.head_out {a:Addr} {p:PO} (w:WS Z σ μ ((a,p) :: outs) h):p.holds h a:=w.out _ (.head _)
theorem WS.head_off {a:Addr} {p:PO} (w:WS Z σ μ ((a,p) :: outs) h):a∉addrs μ outs∧Z.get? a=none :=
 ⟨(List.nodup_cons.mp (z0c.nodup_iff.mp w.nodup)).1,w.fresh a (z0c.mem_iff.mpr (.head _))⟩
theorem WS.turn {a:Addr} {p p':PO} (w:WS Z σ μ ((a,p) :: outs) h) (k:Heap.ExtBut a h h') (hp:p'.holds h' a):WS Z σ μ ((a,p') :: outs) h' :=
 (w.pop.extBut k w.head_off.1 w.head_off.2).push hp w.head_off.1 w.head_off.2
theorem z3d {α β:Type} {f : α→List β}:∀ {l:List α},(l.flatMap f).Nodup→∀ {i j:Nat} {x y : α} {a : β},l[i]? = some x→l[j]? = some y→a∈f x→a∈f y→i=j
 | [],_,_,_,_,_,_,e,_,_,_=>by simp at e
 | z :: l,n,i,j,x,y,a,ex,ey,hx,hy=>by
  rw [List.flatMap_cons] at n
  have n':=List.nodup_append.mp n
  cases i with
  | zero=>
   cases j with
   | zero=>rfl
   | succ j=>
    simp at ex ey
    subst ex
    exact absurd rfl (n'.2.2 a hx a (List.mem_flatMap.mpr ⟨y,List.mem_of_getElem? ey,hy⟩))
  | succ i=>
   cases j with
   | zero=>
    simp at ex ey
    subst ey
    exact absurd rfl (n'.2.2 a hy a (List.mem_flatMap.mpr ⟨x,List.mem_of_getElem? ex,hx⟩))
   | succ j=>
    simp at ex ey
    exact congrArg (· + 1) (z3d n'.2.1 ex ey hx hy)
theorem WS.apart (w:WS Z σ μ outs h) {i j:Nat} {x y:SA} {a:Addr} (ex : μ[i]? = some x) (ey : μ[j]? = some y) (hx:a∈ofSA x) (hy:a∈ofSA y):i=j :=
 z3d (List.nodup_append.mp w.nodup).1 ex ey hx hy
theorem WS.apartOut (w:WS Z σ μ outs h) {i:Nat} {x:SA} {a:Addr} {p:Addr×PO} (ex : μ[i]? = some x) (hx:a∈ofSA x) (hp:p∈outs):p.1≠a:=fun q=>by
 refine absurd rfl ((List.nodup_append.mp w.nodup).2.2 a (List.mem_flatMap.mpr ⟨x,List.mem_of_getElem? ex,hx⟩) a ?_)
 exact List.mem_map.mpr ⟨p,hp,q⟩
theorem WS.store (w:WS Z σ μ outs h) {i:Nat} {sa:SA} {mo:MO} {a:Addr} (es : μ[i]? = some sa) (ha:a∈ofSA sa) (k:Heap.ExtBut a h h') (r:MRep Z μ h' mo sa):WS Z (σ.set i mo) μ outs h':=by
 have hz:Z.get? a=none:=w.fresh a (z02.mpr (.inl ⟨i,sa,es,ha⟩))
 refine ⟨fun b o e=>k b o (fun q=>by rw [q,hz] at e;cases e) (w.keep b o e),by rw [List.length_set];exact w.len,fun j mo' sa' e e'=>?_,fun p hp=>PO.keeps (fun o x=>k _ o (w.apartOut es ha hp) x) (w.out p hp),w.nodup,w.fresh⟩
 rw [List.getElem?_set] at e
 split at e
 ·rename_i hij
  subst hij
  split at e
  ·rw [es] at e';cases e';cases e;exact r
  ·cases e
 ·rename_i hij
  exact (w.rep j mo' sa' e e').mono (Sub.refl _) (fun _ _ x=>x) (fun b hb o x=>k b o (fun q=>hij (w.apart es e' ha (q ▸ hb))) x)
theorem WS.alloc (w:WS Z σ μ outs h) (k:Sub h h') {sa:SA} {mo:MO} (r:MRep Z (μ++[sa]) h' mo sa) (hn:∀ a∈ofSA sa,h.get? a=none) (hd:(ofSA sa).Nodup):WS Z (σ++[mo]) (μ++[sa]) outs h':=by
 have w':=w.ext k
 have pre:∀ (i:Nat) (x:SA),μ[i]? = some x→(μ++[sa])[i]? = some x:=fun i x e=>by rw [List.getElem?_append_left (List.getElem?_eq_some_iff.mp e).1];exact e
 have e0:addrs (μ++[sa]) outs = μ.flatMap ofSA++(ofSA sa++outs.map (·.1)):=by simp [addrs]
 have nw:∀ a∈ofSA sa,a∉addrs μ outs:=fun a ha=>(w.not_mem (hn a ha)).1
 refine ⟨w'.keep,by simp [w.len],fun i mo' sa' e e'=>?_,w'.out,?_,fun a ha=>?_⟩
 ·rcases Nat.lt_trichotomy i σ.length with hl | hl | hl
  ·rw [List.getElem?_append_left hl] at e
   rw [List.getElem?_append_left (by rw [w.len];exact hl)] at e'
   exact (w'.rep i mo' sa' e e').mono (Sub.refl _) pre (fun _ _ _ x=>x)
  ·subst hl
   rw [List.getElem?_append_right (Nat.le_refl _),Nat.sub_self] at e
   rw [List.getElem?_append_right (by rw [w.len];exact Nat.le_refl _),w.len,Nat.sub_self] at e'
   cases e;cases e';exact r
  ·rw [List.getElem?_eq_none (by simp;omega)] at e;cases e
 ·rw [e0]
  have n:=w.nodup
  unfold addrs at n nw
  obtain ⟨n1,n2,n3⟩:=List.nodup_append.mp n
  refine List.nodup_append.mpr ⟨n1,List.nodup_append.mpr ⟨hd,n2,fun a ha b hb q=>nw a ha (List.mem_append.mpr (.inr (q ▸ hb)))⟩,fun a ha b hb q=>?_⟩
  rcases List.mem_append.mp hb with hb | hb
  ·exact nw b hb (List.mem_append.mpr (.inl (q ▸ ha)))
  ·exact n3 a ha b hb q
 ·rw [e0] at ha
  rcases List.mem_append.mp ha with ha | ha
  ·exact w.fresh a (List.mem_append.mpr (.inl ha))
  ·rcases List.mem_append.mp ha with ha | ha
   ·exact (w.not_mem (hn a ha)).2
   ·exact w.fresh a (List.mem_append.mpr (.inr ha))
noncomputable def frz (h:Heap) (μ:List SA) (outs:Outs):Heap:=hideAll h (addrs μ outs)
theorem WS.frz_sub (w:WS Z σ μ outs h):Sub Z (frz h μ outs):=fun b o e=>hideAll_get _ (w.keep b o e) fun q=>by rw [w.fresh b q] at e;cases e
theorem z2v {b:Addr} {o:Obj} (e:h.get? b=some o) (hb:b∉addrs μ outs):(frz h μ outs).get? b=some o:=hideAll_get _ e hb
theorem WS.frz (w:WS Z σ μ outs h):WS (frz h μ outs) σ μ outs h :=
 ⟨fun b o e=>of_hideAll _ e,w.len,fun i mo sa e e'=>(w.rep i mo sa e e').mono w.frz_sub (fun _ _ x=>x) (fun _ _ _ x=>x),w.out,w.nodup,fun a ha=>hideAll_none _ ha⟩
theorem RepV.drop {k:Nat} {x:V} {v:Value} (l:x.low k=true) (h:RepV Z μ x v):RepV Z (μ.take k) x v:=by
 cases x with
 | undef=>exact h
 | t _=>exact h
 | ref _=>obtain ⟨sa,e,h⟩:=h;exact ⟨sa,by rw [List.getElem?_take_of_lt (of_decide_eq_true l)];exact e,h⟩
theorem RepVs.drop {k:Nat} {x:List V} {v:List Value} (l:x.all (V.low k)=true) (h:RepVs Z μ x v):RepVs Z (μ.take k) x v :=
 h.ind (P:=fun x v=>x.all (V.low k)=true→RepVs Z (μ.take k) x v) (fun _=>trivial) (fun _ _ _ _ a ih l=>by
  rw [List.all_cons,Bool.and_eq_true] at l
  exact ⟨RepV.drop l.1 a,ih l.2⟩) l
theorem WS.drop (w:WS Z σ μ outs h) {k:Nat} (hl:lowAll k (σ.take k)=true):WS Z (σ.take k) (μ.take k) outs h:=by
 have sub:∀ a,a∈addrs (μ.take k) outs→a∈addrs μ outs:=fun a ha=>by
  rcases z02.mp ha with ⟨i,sa,e,x⟩ | x
  ·refine z02.mpr (.inl ⟨i,sa,?_,x⟩)
   have:i < k:=by
    have:=(List.getElem?_eq_some_iff.mp e).1
    rw [List.length_take] at this;omega
   rwa [List.getElem?_take_of_lt this] at e
  ·exact z02.mpr (.inr x)
 refine ⟨w.keep,by rw [List.length_take,List.length_take,w.len],fun i mo sa e e'=>?_,w.out,?_,fun a ha=>w.fresh a (sub a ha)⟩
 ·have hik:i < k:=by
   have:=(List.getElem?_eq_some_iff.mp e).1
   rw [List.length_take] at this;omega
  have hm:=List.mem_of_getElem? e
  rw [List.getElem?_take_of_lt hik] at e e'
  have r:=w.rep i mo sa e e'
  have lo:=List.all_eq_true.mp hl mo hm
  cases mo with
  | list l=>
   obtain ⟨e1,z,vs,h1,h2⟩:=r
   exact ⟨e1,z,vs,h1,h2.drop lo⟩
  | inst c l=>
   obtain ⟨d,es,n,e1,h1,h2,h3,h4,h5⟩:=r
   exact ⟨d,es,n,e1,h1,h2,h3,h4,h5.drop lo⟩
 ·have n:=w.nodup
  unfold addrs at n ⊢
  obtain ⟨n1,n2,n3⟩:=List.nodup_append.mp n
  have s:((μ.take k).flatMap ofSA).Sublist (μ.flatMap ofSA):=by
   conv=>rhs;rw [← List.take_append_drop k μ,List.flatMap_append]
   exact List.sublist_append_left _ _
  exact List.nodup_append.mpr ⟨n1.sublist s,n2,fun a ha b hb=>n3 a (s.subset ha) b hb⟩
end
end Mine.Internal
namespace Mine.Internal
open PySem PySem.W PySem.Calls PyProof.Rows
variable [PH]
noncomputable abbrev Pre (μ μ':List SA):Prop:=∀ (i:Nat) (sa:SA),μ[i]? = some sa→μ'[i]? = some sa
theorem Pre.refl (μ:List SA):Pre μ μ:=fun _ _ e=>e
theorem Pre.trans {a b c:List SA} (x:Pre a b) (y:Pre b c):Pre a c:=fun _ _ e=>y _ _ (x _ _ e)
inductive Fl where
 | new
 | mine (L:Addr)
 | left
noncomputable def faultC:Nat:=44
noncomputable def ExcIn (f:Fl) (Z:Heap) (μ:List SA) (outs:Outs) (h:Heap) (e:Addr):Prop :=
 Z.get? e=none∧e∉addrs μ outs∧∃ oe vs,h.get? e=some oe∧oe.cls = .ref faultC∧oe.data = .fields vs ∧
  match f with
  | .new=>vs[1]? = some .none
  | .mine L=>∃ T oT ts,vs[1]? = some (.ref T)∧Z.get? T=none∧T∉addrs μ outs∧T≠e∧h.get? T=some oT∧oT.data = .fields ts∧ts[3]? = some (rawInt L)
  | .left=>∃ T oT ts,vs[1]? = some (.ref T)∧Z.get? T=none∧T∉addrs μ outs∧T≠e∧h.get? T=some oT∧oT.data = .fields ts∧ts[3]? = some .none
section
variable {prog:Program} {w:World}
noncomputable def KOk {α β:Type} (Rp:Heap→List SA→α→β→Prop) (s:Shared) (Z:Heap) (μ:List SA) (outs:Outs) (r:R α) (Q : β→Shared→Prop):Prop :=
 ∀ v σ',r = .ok v σ'→∀ Z' μ' h' tk x,Sub Z Z'→Pre μ μ'→WS Z' σ' μ' outs h'→Rp Z' μ' v x→Q x { s with heap:=h',toks:=tk }
noncomputable def KExc {α:Type} (s:Shared) (Z:Heap) (μ:List SA) (outs:Outs) (r:R α) (E:Value→Shared→Prop):Prop :=
 ∀ σ',r = .exc σ'→∀ Z' μ' h' tk e,Sub Z Z'→Pre μ μ'→WS Z' σ' μ' outs h'→ExcIn .left Z' μ' outs h' e→E (.ref e) { s with heap:=h',toks:=tk }
noncomputable def Sp (prog:Program) (w:World) (A:Around) {α β:Type} (Rp:Heap→List SA→α→β→Prop) (t:Sem β) (s:Shared) (Z:Heap) (μ:List SA) (outs:Outs) (r:R α):Prop :=
 r ≠ .bot→∀ (Q : β→Shared→Prop) (E:Value→Shared→Prop),KOk Rp s Z μ outs r Q→KExc s Z μ outs r E→wpAny (model prog w) A t Q E s
noncomputable abbrev SpV (prog:Program) (w:World) (A:Around):=Sp prog w A RepV
noncomputable abbrev SpL (prog:Program) (w:World) (A:Around):=Sp prog w A RepVs
variable {α β γ δ:Type} {Rp:Heap→List SA→α→β→Prop} {s:Shared} {Z:Heap} {μ:List SA} {outs:Outs} {A:Around}
theorem KExc.step {α':Type} {r:R α} {f : α→St→R α'} {E:Value→Shared→Prop} {a : α} {σ':St} {Z':Heap} {μ':List SA} {h':Heap} {tk:Nat}
  (ex:KExc s Z μ outs (r.bind f) E) (e:r = .ok a σ') (z:Sub Z Z') (p:Pre μ μ'):KExc { s with heap:=h',toks:=tk } Z' μ' outs (f a σ') E:=by
 intro σ'' e' Z'' μ'' h'' tk'' x z' p' ws ei
 exact ex σ'' (by rw [e];exact e') Z'' μ'' h'' tk'' x (z.trans z') (p.trans p') ws ei
theorem KOk.step {α' β':Type} {Rq:Heap→List SA→α'→β'→Prop} {r:R α} {f : α→St→R α'} {Q : β'→Shared→Prop} {a : α} {σ':St} {Z':Heap} {μ':List SA} {h':Heap} {tk:Nat}
  (ok:KOk Rq s Z μ outs (r.bind f) Q) (e:r = .ok a σ') (z:Sub Z Z') (p:Pre μ μ'):KOk Rq { s with heap:=h',toks:=tk } Z' μ' outs (f a σ') Q:=by
 intro v σ'' e' Z'' μ'' h'' tk'' x z' p' ws rx
 exact ok v σ'' (by rw [e];exact e') Z'' μ'' h'' tk'' x (z.trans z') (p.trans p') ws rx
theorem Sp.bind {α' β':Type} {Rq:Heap→List SA→α'→β'→Prop} {t:Sem β} {r:R α} {f : α→St→R α'} {Q : β'→Shared→Prop} {Q' : β→Shared→Prop} {E:Value→Shared→Prop}
  (h:Sp prog w A Rp t s Z μ outs r) (hb:r.bind f ≠ .bot) (ok:KOk Rq s Z μ outs (r.bind f) Q) (ex:KExc s Z μ outs (r.bind f) E)
  (k:∀ a σ' Z' μ' h' tk x,r = .ok a σ'→Sub Z Z'→Pre μ μ'→WS Z' σ' μ' outs h'→Rp Z' μ' a x→f a σ' ≠ .bot →
   KOk Rq { s with heap:=h',toks:=tk } Z' μ' outs (f a σ') Q→KExc { s with heap:=h',toks:=tk } Z' μ' outs (f a σ') E→Q' x { s with heap:=h',toks:=tk }) :
  wpAny (model prog w) A t Q' E s:=by
 cases hr:r with
 | bot=>rw [hr] at hb;exact absurd rfl hb
 | exc σ'=>
  refine h (by rw [hr];exact fun x=>nomatch x) Q' E (fun v σ'' e=>by rw [hr] at e;cases e) fun σ'' e=>?_
  exact ex σ'' (by rw [e];rfl)
 | ok a σ'=>
  refine h (by rw [hr];exact fun x=>nomatch x) Q' E (fun v σ'' e Z' μ' h' tk x z p ws rx=>?_) (fun σ'' e=>by rw [hr] at e;cases e)
  exact k v σ'' Z' μ' h' tk x e z p ws rx (fun q=>hb (by rw [e];exact q)) (ok.step e z p) (ex.step e z p)
theorem KOk.now {a : α} {σ:St} {x : β} {Q : β→Shared→Prop} {tk:Nat} (ok:KOk Rp s Z μ outs (.ok a σ) Q) (ws:WS Z σ μ outs s.heap) (r:Rp Z μ a x):Q x { s with toks:=tk } :=
 ok a σ rfl Z μ s.heap tk x (Sub.refl _) (Pre.refl _) ws r
theorem KOk.at {a : α} {σ:St} {x : β} {Q : β→Shared→Prop} {tk:Nat} {h':Heap} {Z':Heap} {μ':List SA} (ok:KOk Rp s Z μ outs (.ok a σ) Q) (z:Sub Z Z') (p:Pre μ μ') (ws:WS Z' σ μ' outs h') (r:Rp Z' μ' a x):Q x { s with heap:=h',toks:=tk } :=
 ok a σ rfl Z' μ' h' tk x z p ws r
theorem z0y {o:Option α} {σ:St} (h:R.lift o σ ≠ .bot):∃ a,o=some a∧R.lift o σ = .ok a σ:=by
 cases o with
 | none=>exact absurd rfl h
 | some a=>exact ⟨a,rfl,rfl⟩
end
set_option genInjectivity false in
structure Cx where
 names:List Str
 scope:Scope
noncomputable def Lc (C:Cx) (env:Env) (Z:Heap) (μ:List SA) (m:Str→Option Value) (ρ:List V):Prop :=
 ∀ (i:Nat) (x:Str) (v:V),C.names[i]? = some x→ρ[i]? = some v→v ≠ .undef→match C.scope.names.lookup x with
  | some .local=>∃ val,m x=some val∧RepV Z μ v val
  | some .cell=>∃ c val,env.cells.lookup x=some c∧Z.IsCell c (some val)∧RepV Z μ v val
  | _=>True
structure EnvOk (C:Cx) (env:Env) (L:Addr):Prop where
 scope:env.scope=C.scope
 kind:C.scope.kind = .function
 glob:env.globals=mainGlobals
 blt:env.builtins=builtinsNs
 loc:env.locals=L
 cells:∀ y,C.scope.names.lookup y=some .cell→∃ c,env.cells.lookup y=some c
theorem lc_e {o:Option NameKind} {a b:Prop}:(o=some .local→a)→(o=some .cell→b)→match o with
  | some .local=>a
  | some .cell=>b
  | _=>True:=by
 intro h1 h2
 cases o with
 | none=>trivial
 | some k=>cases k<;>first | exact h1 rfl | exact h2 rfl | trivial
theorem Lc.mono {C:Cx} {env:Env} {Z Z':Heap} {μ μ':List SA} {m:Str→Option Value} {ρ:List V} (z:Sub Z Z') (p:Pre μ μ') (l:Lc C env Z μ m ρ):Lc C env Z' μ' m ρ:=by
 intro i x v e1 e2 e3
 have:=l i x v e1 e2 e3
 refine lc_e (fun hk=>?_) fun hk=>?_
 ·rw [hk] at this;obtain ⟨val,a,b⟩:=this;exact ⟨val,a,b.mono z p⟩
 ·rw [hk] at this;obtain ⟨c,val,a,⟨o,ho,r⟩,b⟩:=this;exact ⟨c,val,a,⟨o,z _ _ ho,r⟩,b.mono z p⟩
end Mine.Internal
namespace Mine.Internal
open PySem PySem.W PySem.Calls PyProof.Rows
variable [PH]
section
variable {prog:Program} {w:World} {A:Around} {E:Value→Shared→Prop} {s:Shared} {Z:Heap} {μ:List SA} {outs:Outs} {σ:St}
theorem zfd (a b:List Nat):mkS a++mkS b=mkS (a++b):=by
 show Str.mk (a.toArray++b.toArray)=Str.mk (a++b).toArray
 exact congrArg Str.mk (by simp)
theorem z03 (a:List Nat):(mkS a).length=a.length:=by show a.toArray.size=_;simp
theorem z2w (a:List Nat):(mkS a).cps.toList=a:=rfl
theorem z5w {a b:List Nat} (h:mkS a=mkS b):a=b:=congrArg (fun x=>x.cps.toList) h
theorem z0v {o:Obj} (ws:WS Z σ μ outs s.heap) (hf:o.isFreed=false):∃ Z',Sub Z Z'∧WS Z' σ μ outs (s.heap.push o)∧Z'.get? s.heap.objs.size=some o∧Sub s.heap (s.heap.push o):=by
 have k:Sub s.heap (s.heap.push o):=fun b x e=>Heap.get?_push_of_some o e
 have w':=ws.ext k
 have g:(s.heap.push o).get? s.heap.objs.size=some o:=Heap.get?_push_size _ hf
 have hn:s.heap.get? s.heap.objs.size=none:=by
  cases q:s.heap.get? s.heap.objs.size with
  | none=>rfl
  | some o'=>exact absurd (Heap.lt_size q) (Nat.lt_irrefl _)
 exact ⟨frz (s.heap.push o) μ outs,w'.frz_sub,w'.frz,z2v g (ws.not_mem hn).1,k⟩
theorem z08 (h:Heap):h.get? h.objs.size=none:=by
 cases q:h.get? h.objs.size with
 | none=>rfl
 | some o'=>exact absurd (Heap.lt_size q) (Nat.lt_irrefl _)
noncomputable def opOf:Nat→Option Operator
 | 0=>some .Add | 1=>some .Sub | 2=>some .Mult | 3=>some .FloorDiv | 4=>some .Mod | 5=>some .Pow | _=>none
theorem zfe (l:List Nat):∀ n,(List.replicate n l.toArray).foldl (· ++ ·) #[]=(repL l n).toArray:=by
 have g:∀ n (acc:Array Nat),(List.replicate n l.toArray).foldl (· ++ ·) acc=acc++(repL l n).toArray:=by
  intro n
  induction n with
  | zero=>intro acc;exact (Array.append_empty).symm
  | succ n ih=>intro acc;rw [List.replicate_succ,List.foldl_cons,ih];show _=acc++(l++repL l n).toArray;simp
 intro n
 rw [g];simp
theorem z01 {α:Type} {a : α} {P:Prop} (h:(Option.none:Option α)=some a):P:=by cases h
theorem zi5 {P:Nat→T→T→Prop} {op:Nat} {x y t:T}
  (h1:∀ (a:Int) (b:Int),some (T.int (a+b))=some t→P 0 (.int a) (.int b))
  (h2:∀ (a:List Nat) (b:List Nat),(if a.length+b.length≤lineS then some (T.str (a++b)) else Option.none)=some t→P 0 (.str a) (.str b))
  (h3:∀ (a:List T) (b:List T),(if a.length+b.length≤lineS then some (T.tup (a++b)) else Option.none)=some t→P 0 (.tup a) (.tup b))
  (h4:∀ (a:Int) (b:Int),some (T.int (a - b))=some t→P 1 (.int a) (.int b))
  (h5:∀ (a:Int) (b:Int),(if a.natAbs < 2 ^ 64∧b.natAbs < 2 ^ 64 then some (T.int (a * b)) else Option.none)=some t→P 2 (.int a) (.int b))
  (h6:∀ (a:List Nat) (b:Int),(if 0≤b∧b ≤ 16∧a.length = 1 then some (T.str (repL a b.toNat)) else Option.none)=some t→P 2 (.str a) (.int b))
  (h7:∀ (a:Int) (b:Int),(if b ≠ 0 then some (T.int (a.fdiv b)) else Option.none)=some t→P 3 (.int a) (.int b))
  (h8:∀ (a:Int) (b:Int),(if b ≠ 0 then some (T.int (a.fmod b)) else Option.none)=some t→P 4 (.int a) (.int b))
  (h9:∀ (a:Int) (b:Int),(if a = 10 ∧ 0≤b∧b ≤ 18 then some (T.int (10 ^ b.toNat)) else Option.none)=some t→P 5 (.int a) (.int b)) (e:binT op x y=some t):P op x y:=by
 rcases op with _ | _ | _ | _ | _ | _ | op
 ·cases x with
  | int a=>
    cases y with
    | int b=>
      exact h1 a b e
    | _=>exact z01 e
  | str a=>
    cases y with
    | str b=>
      exact h2 a b e
    | _=>exact z01 e
  | tup a=>
    cases y with
    | tup b=>
      exact h3 a b e
    | _=>exact z01 e
  | _=>exact z01 e
 ·cases x with
  | int a=>
    cases y with
    | int b=>
      exact h4 a b e
    | _=>exact z01 e
  | _=>exact z01 e
 ·cases x with
  | int a=>
    cases y with
    | int b=>
      exact h5 a b e
    | _=>exact z01 e
  | str a=>
    cases y with
    | int b=>
      exact h6 a b e
    | _=>exact z01 e
  | _=>exact z01 e
 ·cases x with
  | int a=>
    cases y with
    | int b=>
      exact h7 a b e
    | _=>exact z01 e
  | _=>exact z01 e
 ·cases x with
  | int a=>
    cases y with
    | int b=>
      exact h8 a b e
    | _=>exact z01 e
  | _=>exact z01 e
 ·cases x with
  | int a=>
    cases y with
    | int b=>
      exact h9 a b e
    | _=>exact z01 e
  | _=>exact z01 e
 ·exact z01 e
theorem zff {op:Nat} {o:Operator} {x y t:T} {a b:Value} {Q:Value→Shared→Prop} (ho:opOf op=some o) (e:binT op x y=some t) (ra:RepT Z x a) (rb:RepT Z y b) (ws:WS Z σ μ outs s.heap) (pr:PySem.PylongRoom (model prog w) A s)
  (q:∀ Z' h' tk v,Sub Z Z'→WS Z' σ μ outs h'→RepT Z' t v→Q v { s with heap:=h',toks:=tk }):wpAny (model prog w) A (binaryOp o a b) Q E s:=by
 have now:∀ {tk v},RepT Z t v→Q v { s with toks:=tk }:=fun r=>q Z s.heap _ _ (Sub.refl _) ws r
 have now':∀ {v},RepT Z t v→Q v s:=fun r=>q Z s.heap s.toks _ (Sub.refl _) ws r
 refine zi5 (P:=fun op x y=>opOf op=some o→RepT Z x a→RepT Z y b→wpAny (model prog w) A (binaryOp o a b) Q E s) ?_ ?_ ?_ ?_ ?_ ?_ ?_ ?_ ?_ e ho ra rb
 ·intro la lb e ho ra rb
  injection ho with ho
  subst ho
  obtain ⟨ta,rfl⟩:=ra;obtain ⟨tb,rfl⟩:=rb
  injection e with e;subst e
  exact P.add_int (now ⟨_,rfl⟩)
 ·intro la lb e ho ra rb
  injection ho with ho
  subst ho
  obtain ⟨ta,rfl,za⟩:=ra;obtain ⟨tb,rfl,zb⟩:=rb
  split at e
  ·rename_i hl
   injection e with e;subst e
   refine P.add_str ?_
   rw [zfd]
   simp only [z03]
   split
   ·rename_i h0
    have:la=[]:=by simpa using h0
    subst this
    exact now' ⟨_,rfl,zb⟩
   ·split
    ·rename_i h0
     have:lb=[]:=by simpa using h0
     subst this
     exact now' ⟨_,by rw [List.append_nil],by rw [List.append_nil];exact za⟩
    ·refine ⟨?_,now ⟨_,rfl,by rw [List.length_append];exact hl⟩⟩
     rw [z03,List.length_append]
     exact Nat.le_trans hl (by decide)
  ·cases e
 ·intro la lb e ho ra rb
  injection ho with ho
  subst ho
  split at e
  ·rename_i hl
   injection e with e;subst e
   obtain ⟨aa,vs,rfl,⟨⟨cls,dd,data,sl⟩,hg,hc,n,hd⟩,r1,z1⟩:=ra
   obtain ⟨bb,vs2,rfl,⟨⟨cls2,dd2,data2,sl2⟩,hg2,hc2,n2,hd2⟩,r2,z2⟩:=rb
   simp only at hc hd hc2 hd2
   subst hc hd hc2 hd2
   have g1:=ws.keep _ _ hg
   have g2:=ws.keep _ _ hg2
   have l1:=r1.length
   have l2:=r2.length
   by_cases hv:vs.isEmpty=true
   ·have hv':vs = #[]:=by simpa using hv
    subst hv'
    have ea:la=[]:=List.length_eq_zero_iff.mp (by simpa using l1)
    subst ea
    exact concat_meets ⟨_,g1,rfl⟩ ⟨_,g2,rfl⟩ noFill_tuple_add seq_tuple_add PySem.F.slot_tuple_add PySem.F.entry_tuple_add (PySem.F.args_tuple_add_2 _ _)
     (tuple_addW0 _ _ _ _ n n2 dd dd2 sl sl2 (by simp)) ⟨g1,g2,now' ⟨_,_,rfl,⟨_,hg2,rfl,_,rfl⟩,r2,z2⟩⟩
   ·by_cases hw:vs2.isEmpty=true
    ·have hw':vs2 = #[]:=by simpa using hw
     subst hw'
     have eb:lb=[]:=List.length_eq_zero_iff.mp (by simpa using l2)
     subst eb
     exact concat_meets ⟨_,g1,rfl⟩ ⟨_,g2,rfl⟩ noFill_tuple_add seq_tuple_add PySem.F.slot_tuple_add PySem.F.entry_tuple_add (PySem.F.args_tuple_add_2 _ _)
      (tuple_addW1 _ _ _ _ n n2 dd dd2 sl sl2 (by simpa using hv) (by simp)) ⟨g1,g2,now' ⟨_,_,rfl,⟨_,hg,rfl,_,rfl⟩,by rw [List.append_nil];exact r1,by rw [List.append_nil];exact z1⟩⟩
    ·refine concat_meets ⟨_,g1,rfl⟩ ⟨_,g2,rfl⟩ noFill_tuple_add seq_tuple_add PySem.F.slot_tuple_add PySem.F.entry_tuple_add (PySem.F.args_tuple_add_2 _ _)
      (tuple_addW2 _ _ _ _ n n2 dd dd2 sl sl2 (by simpa using hv) (by simpa using hw) (by
       have:vs.size+vs2.size≤lineS:=by simp only [Array.length_toList] at l1 l2;omega
       exact Nat.le_trans this (by decide))) ⟨g1,g2,?_⟩
     obtain ⟨Z',z,w',g,_⟩:=z0v (o:={ cls:= .type "tuple",data:= .seq (vs++vs2) }) ws rfl
     exact q Z' _ s.toks _ z w' ⟨_,_,rfl,⟨_,g,rfl,_,rfl⟩,by rw [Array.toList_append];exact (r1.mono z).append (r2.mono z),by rw [List.length_append];exact hl⟩
  ·cases e
 ·intro la lb e ho ra rb
  injection ho with ho
  subst ho
  obtain ⟨ta,rfl⟩:=ra;obtain ⟨tb,rfl⟩:=rb
  injection e with e;subst e
  exact P.sub_int (now ⟨_,rfl⟩)
 ·intro la lb e ho ra rb
  injection ho with ho
  subst ho
  obtain ⟨ta,rfl⟩:=ra;obtain ⟨tb,rfl⟩:=rb
  split at e
  ·rename_i hl
   injection e with e;subst e
   exact P.mul_int (now ⟨_,rfl⟩) (IntMulOk.of_left (intBits_le_64 (by omega) (by omega)))
  ·cases e
 ·intro la lb e ho ra rb
  injection ho with ho
  subst ho
  obtain ⟨ta,rfl,za⟩:=ra;obtain ⟨tb,rfl⟩:=rb
  have rl:∀ n,(repL la n).length=n * la.length:=by
   intro n
   induction n with
   | zero=>exact (Nat.zero_mul _).symm
   | succ n ih=>show (la++repL la n).length=_;rw [List.length_append,ih,Nat.succ_mul];exact Nat.add_comm _ _
  split at e
  ·rename_i hl
   obtain ⟨h0,h1,h2⟩:=hl
   have zr:(repL la lb.toNat).length≤lineS:=by
    rw [rl,h2]
    have e:lineS = 1048576:=rfl
    omega
   injection e with e;subst e
   refine P.mul_str (by
    rw [decide_eq_false (show ¬ lb < -(2 ^ 63:Int) by omega),decide_eq_false (show ¬ lb ≥ 2 ^ 63 by omega)];rfl) (fun h3 _=>?_) (fun _ _=>?_) ?_
   ·rw [z03,h2]
    have:(1:Int)≤(2 ^ 63 - 1) / lb:=by
     rw [Int.le_ediv_iff_mul_le (by omega)];omega
    have e1:((1:Nat):Int) = 1:=rfl
    rw [e1]
    exact Int.not_lt.mpr this
   ·rw [z03,h2,Nat.one_mul]
    refine decide_eq_false ?_
    have:lb.toNat ≤ 16:=by omega
    have e:(sizeLine:Nat) = 16777216:=rfl
    omega
   ·by_cases hb0:lb < 1
    ·rw [if_pos hb0]
     have:lb = 0:=by omega
     subst this
     exact ⟨by decide,now ⟨_,rfl,zr⟩⟩
    ·rw [if_neg hb0]
     split
     ·rename_i h3
      simp only [Bool.or_eq_true,beq_iff_eq,z03] at h3
      rcases h3 with h3 | h3
      ·subst h3
       refine now' ⟨ta,?_,zr⟩
       show Value.str (mkS la) ta=Value.str (mkS (repL la 1)) ta
       show _=Value.str (mkS (la++[])) ta
       rw [List.append_nil]
      ·omega
     ·have e1:(⟨(List.replicate lb.toNat (mkS la).cps).foldl (· ++ ·) #[]⟩:Str)=mkS (repL la lb.toNat):=by
       show Str.mk _=Str.mk _
       exact congrArg Str.mk (zfe la _)
      rw [e1]
      refine ⟨?_,now ⟨_,rfl,zr⟩⟩
      rw [z03]
      exact Nat.le_trans zr (by decide)
  ·cases e
 ·intro la lb e ho ra rb
  injection ho with ho
  subst ho
  obtain ⟨ta,rfl⟩:=ra;obtain ⟨tb,rfl⟩:=rb
  split at e
  ·rename_i hb
   injection e with e;subst e
   exact floordiv_int hb (now ⟨_,rfl⟩) (Or.inr pr)
  ·cases e
 ·intro la lb e ho ra rb
  injection ho with ho
  subst ho
  obtain ⟨ta,rfl⟩:=ra;obtain ⟨tb,rfl⟩:=rb
  split at e
  ·rename_i hb
   injection e with e;subst e
   exact mod_int hb (now ⟨_,rfl⟩)
  ·cases e
 ·intro la lb e ho ra rb
  injection ho with ho
  subst ho
  obtain ⟨ta,rfl⟩:=ra;obtain ⟨tb,rfl⟩:=rb
  split at e
  ·rename_i hb
   obtain ⟨rfl,h0,h1⟩:=hb
   injection e with e;subst e
   exact pow_int_small h0 (by omega) (by decide) (now ⟨_,rfl⟩)
  ·cases e
end
end Mine.Internal
namespace Mine.Internal
open PySem PySem.W PySem.Calls PyProof.Rows PySem.SeqAt
variable [PH]
section
variable {prog:Program} {w:World} {A:Around} {E:Value→Shared→Prop} {s:Shared} {Z:Heap} {μ:List SA} {outs:Outs} {σ:St}
noncomputable def cmpOf:Nat→Option CmpOp
 | 0=>some .Eq | 1=>some .NotEq | 2=>some .Lt | 3=>some .LtE | 4=>some .Gt | 5=>some .GtE | 6=>some .Is | 7=>some .IsNot | 8=>some .In | 9=>some .NotIn | _=>none
theorem RepTs.zip {Z:Heap} {x:List T} {v:List Value} {j:Nat} (h:j < x.length) (h':j < v.length) (r:RepTs Z x v):RepT Z x[j] v[j]:=by
 obtain ⟨b,e,r⟩:=r.get (List.getElem?_eq_getElem h)
 rw [List.getElem?_eq_getElem h'] at e
 rw [Option.some.inj e];exact r
theorem IsTup.up {h:Heap} {a:Addr} {vs:Array Value} (k:Sub Z h) (t:Z.IsTuple a vs):h.IsTuple a vs:=let ⟨o,ho,r⟩:=t;⟨o,k _ _ ho,r⟩
theorem zi6 (n:Nat):∀ {A:Around} {s:Shared} {x y:T} {a b:Value},Sub Z s.heap→eqbN n x y=true→RepT Z x a→RepT Z y b→A.units+n < cLine→EqAt A s a b true:=by
 induction n with
 | zero=>intro A s x y a b k e;exact Bool.noConfusion e
 | succ n ih=>
  intro A s x y a b k e ra rb hu
  cases x with
  | none=>
   cases y with
   | none=>
    obtain rfl:a = .none:=ra
    obtain rfl:b = .none:=rb
    exact EqAt.same _
   | _=>exact Bool.noConfusion e
  | bool x=>
   cases y with
   | bool y=>
    obtain rfl:a = .bool _:=ra
    obtain rfl:b = .bool _:=rb
    obtain rfl:=eq_of_beq (show (x == y)=true from e)
    exact EqAt.same _
   | _=>exact Bool.noConfusion e
  | int x=>
   cases y with
   | int y=>
    obtain ⟨ta,rfl⟩:=ra
    obtain ⟨tb,rfl⟩:=rb
    obtain rfl:=of_decide_eq_true (show decide (x=y)=true from e)
    have:=EqAt.int_int (A:=A) (s:=s) x ta x tb
    simpa using this
   | _=>exact Bool.noConfusion e
  | str x=>
   cases y with
   | str y=>
    obtain ⟨ta,rfl,_⟩:=ra
    obtain ⟨tb,rfl,_⟩:=rb
    obtain rfl:=of_decide_eq_true (show decide (x=y)=true from e)
    have:=EqAt.str_str (A:=A) (s:=s) (mkS x) ta (mkS x) tb
    rwa [beq_self_eq_true] at this
   | _=>exact Bool.noConfusion e
  | tup la=>
   cases y with
   | tup lb=>
    obtain ⟨aa,vs,rfl,ht,r1,_⟩:=ra
    obtain ⟨ab,ws,rfl,ht2,r2,_⟩:=rb
    have e:=Bool.and_eq_true_iff.mp (show (decide (la.length=lb.length) && (la.zip lb).all fun p=>eqbN n p.1 p.2)=true from e)
    have hl:=of_decide_eq_true e.1
    by_cases hab:aa=ab
    ·subst hab;exact EqAt.same _
    ·have l1:=r1.length
     have l2:=r2.length
     have:=RcAt.tuples (A:=A) (s:=s) (e:=fun _=>true) (IsTup.up k ht) (IsTup.up k ht2) (by omega) fun j h1 h2=>by
      have j1:j < la.length:=by rw [l1];simpa using h1
      have j2:j < lb.length:=by rw [l2];simpa using h2
      refine ih (x:=la[j]) (y:=lb[j]) k ?_ ?_ ?_ (by show A.units + 1+n < cLine;omega)
      ·have:=List.all_eq_true.mp e.2 (la[j],lb[j]) (by
        have:(la.zip lb)[j]'(by simp;omega)=(la[j],lb[j]):=by simp
        rw [← this];exact List.getElem_mem _)
       exact this
      ·have:=r1.zip j1 (by simpa using h1);simpa using this
      ·have:=r2.zip j2 (by simpa using h2);simpa using this
     refine EqAt.of_refs hab ?_
     have sz:vs.size=ws.size:=by simp only [Array.length_toList] at l1 l2;omega
     have h1:((List.range (min vs.size ws.size)).all (fun _=>true) && vs.size == ws.size)=true:=by
      rw [sz,beq_self_eq_true,Bool.and_true];exact List.all_eq_true.mpr fun _ _=>rfl
     rwa [h1] at this
   | _=>exact Bool.noConfusion e
  | _=>exact Bool.noConfusion e
theorem z8w {a b:Value} {k:Bool} {Q:Value→Shared→Prop} (r:RcNeAt A s a b k) (h:Q (.bool k) s):wpAny (model prog w) A (compareOp .NotEq a b) Q E s:=cmp_ofNotEq (r prog w E Q h)
theorem z2x {a b:Value} {k:Bool} {Q:Value→Shared→Prop} (r:RcAt A s a b k) (h:Q (.bool k) s):wpAny (model prog w) A (compareOp .Eq a b) Q E s:=cmp_ofEq (r prog w E Q h)
theorem z8x (a b:List Nat):(mkS a == mkS b)=decide (a=b):=by
 by_cases h:a=b
 ·subst h;rw [beq_self_eq_true];exact (decide_eq_true rfl).symm
 ·rw [decide_eq_false h]
  exact beq_eq_false_iff_ne.mpr fun e=>h (z5w e)
theorem zb4 (k:Sub Z s.heap) (hu:A.units + 100 < cLine) {la lb:List T} {r:Bool} (e:eqT (.tup la) (.tup lb)=some r) {a b:Value} (ra:RepT Z (.tup la) a) (rb:RepT Z (.tup lb) b) :
  RcAt A s a b r∧RcNeAt A s a b (!r):=by
 obtain ⟨aa,vs,rfl,ht,r1,_⟩:=ra
 obtain ⟨ab,ws,rfl,ht2,r2,_⟩:=rb
 have l1:=r1.length
 have l2:=r2.length
 simp only [Array.length_toList] at l1 l2
 have e:(if lb.isEmpty=true then some la.isEmpty else if eqbN 60 (.tup la) (.tup lb)=true then some true else Option.none)=some r:=e
 split at e
 ·rename_i he
  injection e with e
  subst e
  have e0:lb=[]:=by simpa using he
  subst e0
  have w0:ws.size = 0:=by simpa using l2.symm
  have g:((List.range (min vs.size ws.size)).all (fun _=>true) && vs.size == ws.size)=la.isEmpty:=by
   rw [w0,Nat.min_zero]
   simp only [List.range_zero,List.all_nil,Bool.true_and]
   cases la with
   | nil=>simp at l1;simp [← l1]
   | cons x r=>simp at l1;simp [← l1]
  have h1:=RcAt.tuples (A:=A) (s:=s) (e:=fun _=>true) (IsTup.up k ht) (IsTup.up k ht2) (by omega) fun j h1 h2=>by rw [w0] at h2;exact absurd h2 (Nat.not_lt_zero _)
  have h2:=RcNeAt.tuples (A:=A) (s:=s) (e:=fun _=>true) (IsTup.up k ht) (IsTup.up k ht2) (by omega) fun j h1 h2=>by rw [w0] at h2;exact absurd h2 (Nat.not_lt_zero _)
  rw [g] at h1 h2
  exact ⟨h1,h2⟩
 ·split at e
  ·rename_i he
   injection e with e
   subst e
   have he:=Bool.and_eq_true_iff.mp (show (decide (la.length=lb.length) && (la.zip lb).all fun p=>eqbN 59 p.1 p.2)=true from he)
   have he1:=of_decide_eq_true he.1
   have each:∀ j (h1:j < vs.size) (h2:j < ws.size),EqAt A.in1 s vs[j] ws[j] true:=fun j h1 h2=>by
    have j1:j < la.length:=by rw [l1];simpa using h1
    have j2:j < lb.length:=by rw [l2];simpa using h2
    refine zi6 59 (x:=la[j]) (y:=lb[j]) k ?_ ?_ ?_ (by show A.units + 1 + 59 < cLine;omega)
    ·have:=List.all_eq_true.mp he.2 (la[j],lb[j]) (by
      have:(la.zip lb)[j]'(by simp;omega)=(la[j],lb[j]):=by simp
      rw [← this];exact List.getElem_mem _)
     exact this
    ·have:=r1.zip j1 (by simpa using h1);simpa using this
    ·have:=r2.zip j2 (by simpa using h2);simpa using this
   have sz:vs.size=ws.size:=by omega
   have g:((List.range (min vs.size ws.size)).all (fun _=>true) && vs.size == ws.size)=true:=by
    rw [sz,beq_self_eq_true,Bool.and_true];exact List.all_eq_true.mpr fun _ _=>rfl
   have h1:=RcAt.tuples (A:=A) (s:=s) (e:=fun _=>true) (IsTup.up k ht) (IsTup.up k ht2) (by omega) each
   have h2:=RcNeAt.tuples (A:=A) (s:=s) (e:=fun _=>true) (IsTup.up k ht) (IsTup.up k ht2) (by omega) each
   rw [g] at h1 h2
   exact ⟨h1,h2⟩
  ·cases e
theorem zb5 {l:List T}:∀ {vs:List Value},l.all (fun x=>match x with | .str _=>true | _=>false)=true→RepTs Z l vs →
  ∃ ys,StrsAre vs ys∧∀ a:List Nat,ys.any (· == mkS a)=l.any (fun x=>match x with | .str b=>decide (a=b) | _=>false):=by
 induction l with
 | nil=>
  intro vs _ r
  cases vs with
  | nil=>exact ⟨[],.nil,fun _=>rfl⟩
  | cons=>exact r.elim
 | cons x l ih=>
  intro vs h r
  cases vs with
  | nil=>exact r.elim
  | cons y vs=>
   obtain ⟨r0,r⟩:=r
   have h:=Bool.and_eq_true_iff.mp h
   obtain ⟨ys,h1,h2⟩:=ih h.2 r
   have h0:=h.1
   cases x with
   | str b=>
    obtain ⟨t,e,_⟩:=r0
    subst e
    refine ⟨mkS b :: ys,.cons _ _ h1,fun a=>?_⟩
    rw [List.any_cons,List.any_cons,h2,z8x]
    congr 1
    simp only [eq_comm]
   | _=>exact Bool.noConfusion h0
theorem inStr (a b:List Nat) {r:Bool} (e:inT (.str a) (.str b)=some r):(!(Builtin.Str.occurrences (mkS b) (mkS a) 0 (mkS b).length 1).isEmpty)=r:=by
 cases a with
 | nil=>
  obtain rfl:=Option.some.inj e
  rw [StrLaws.found_iff]
  refine ⟨0,by simp [z03],?_⟩
  rw [StrLaws.subAt_eq]
  simp [z2w];exact .inl rfl
 | cons c a=>
  cases a with
  | cons=>exact nS e
  | nil=>
   obtain rfl:=Option.some.inj e
   refine (StrLaws.found_one (mkS b) c).trans ?_
   rw [z2w,List.contains_eq_mem]
noncomputable def T.isN:T→Bool
 | .none=>true
 | _=>false
theorem z6n {x:T} {a:Value} (ra:RepT Z x a):(a == .none)=x.isN:=by
 cases x with
 | none=>obtain rfl:a = .none:=ra;rfl
 | bool b=>obtain rfl:a = .bool b:=ra;rfl
 | int i=>obtain ⟨t,rfl⟩:=ra;rfl
 | str l=>obtain ⟨t,rfl,_⟩:=ra;rfl
 | tup l=>obtain ⟨t,_,rfl,_⟩:=ra;rfl
 | node c l=>obtain ⟨t,_,_,_,_,rfl,_⟩:=ra;rfl
 | dict l=>obtain ⟨t,_,rfl,_⟩:=ra;rfl
 | lst l=>obtain ⟨t,_,rfl,_⟩:=ra;rfl
theorem zdg {x y:T} {r:Bool} {a b:Value} {Q:Bool→Prop} (e:inT x y=some r) (ra:RepT Z x a) (rb:RepT Z y b) (k:Sub Z s.heap)
  (h1:∀ p t q u,x = .str p→y = .str q→a = .str (mkS p) t→b = .str (mkS q) u→Q (!(Builtin.Str.occurrences (mkS q) (mkS p) 0 (mkS q).length 1).isEmpty))
  (h2:∀ p t u items ys,a = .str (mkS p) t→b = .ref u→IsTup s.heap u items→StrsAre items.toList ys→ys.any (· == mkS p)=r→Q r):Q r:=by
 cases x with
 | str p=>
  cases y with
  | str q=>
   obtain ⟨t,rfl,_⟩:=ra;obtain ⟨u,rfl,_⟩:=rb
   have:=h1 p t q u rfl rfl rfl rfl
   rwa [inStr p q e] at this
  | tup l=>
   obtain ⟨t,rfl,_⟩:=ra;obtain ⟨u,vs,rfl,ht,rt,_⟩:=rb
   obtain ⟨hall,rfl⟩:=z1d e
   obtain ⟨ys,g1,g2⟩:=zb5 hall rt
   exact h2 p t u vs ys rfl rfl (IsTup.up k ht) g1 (g2 p)
  | _=>exact nS e
 | _=>exact nS e
noncomputable def noneT (x:T):Bool:=match x with
 | .none=>true
 | _=>false
noncomputable def someT (x:T):Bool:=match x with
 | .none=>false
 | _=>true
theorem zi7 {P:Nat→T→T→Prop} {op:Nat} {x y:T} {r:Bool}
  (h0:∀ (x y:T),eqT x y=some r→P 0 x y)
  (h1:∀ (x y:T),(eqT x y).map (!·)=some r→P 1 x y)
  (h2:∀ (a:Int) (b:Int),some (decide (a < b))=some r→P 2 (.int a) (.int b))
  (h3:∀ (a:Int) (b:Int),some (decide (a≤b))=some r→P 3 (.int a) (.int b))
  (h4:∀ (a:List Nat) (b:List Nat),some (decide (a≤b))=some r→P 3 (.str a) (.str b))
  (h5:∀ (a:Int) (b:Int),some (decide (a > b))=some r→P 4 (.int a) (.int b))
  (h6:∀ (a:Int) (b:Int),some (decide (a ≥ b))=some r→P 5 (.int a) (.int b))
  (h7:∀ (x:T),some (noneT x)=some r→P 6 x .none)
  (h8:∀ (x:T),some (someT x)=some r→P 7 x .none)
  (h9:∀ (x y:T),inT x y=some r→P 8 x y)
  (h10:∀ (x y:T),(inT x y).map (!·)=some r→P 9 x y) (e:cmpT op x y=some r):P op x y:=by
 rcases op with _ | _ | _ | _ | _ | _ | _ | _ | _ | _ | op
 ·exact h0 x y e
 ·exact h1 x y e
 ·cases x with
  | int a=>
    cases y with
    | int b=>
      exact h2 a b e
    | _=>exact z01 e
  | _=>exact z01 e
 ·cases x with
  | int a=>
    cases y with
    | int b=>
      exact h3 a b e
    | _=>exact z01 e
  | str a=>
    cases y with
    | str b=>
      exact h4 a b e
    | _=>exact z01 e
  | _=>exact z01 e
 ·cases x with
  | int a=>
    cases y with
    | int b=>
      exact h5 a b e
    | _=>exact z01 e
  | _=>exact z01 e
 ·cases x with
  | int a=>
    cases y with
    | int b=>
      exact h6 a b e
    | _=>exact z01 e
  | _=>exact z01 e
 ·cases y with
  | none =>
    exact h7 x e
  | _=>exact z01 e
 ·cases y with
  | none =>
    exact h8 x e
  | _=>exact z01 e
 ·exact h9 x y e
 ·exact h10 x y e
 ·exact z01 e
theorem zfg {op:Nat} {o:CmpOp} {x y:T} {r:Bool} {a b:Value} {Q:Value→Shared→Prop} (ho:cmpOf op=some o) (e:cmpT op x y=some r) (ra:RepT Z x a) (rb:RepT Z y b) (k:Sub Z s.heap) (hu:A.units + 100 < cLine)
  (hn:∀ c l d,c < 12→x = .node c l→y = .str d→RcAt A s a b false∧RcNeAt A s a b true) (q:Q (.bool r) s):wpAny (model prog w) A (compareOp o a b) Q E s:=by
 have eq_all:∀ r',eqT x y=some r'→RcAt A s a b r'∧RcNeAt A s a b (!r'):=by
  intro r' e
  cases x with
  | none=>
   cases y with
   | str d=>
    obtain rfl:a = .none:=ra
    obtain ⟨u,rfl,_⟩:=rb
    injection e with e;subst e
    exact ⟨RcAt.none_str _ _,RcNeAt.none_str _ _⟩
   | _=>exact z01 e
  | int i=>
   cases y with
   | int j=>
    obtain ⟨t,rfl⟩:=ra;obtain ⟨u,rfl⟩:=rb
    injection e with e;subst e
    exact ⟨RcAt.int_int i t j u,RcNeAt.int_int i t j u⟩
   | _=>exact z01 e
  | str i=>
   cases y with
   | str j=>
    obtain ⟨t,rfl,_⟩:=ra;obtain ⟨u,rfl,_⟩:=rb
    injection e with e;subst e
    have h1:=RcAt.str_str (A:=A) (s:=s) (mkS i) t (mkS j) u
    have h2:=RcNeAt.str_str (A:=A) (s:=s) (mkS i) t (mkS j) u
    rw [z8x] at h1 h2
    exact ⟨h1,h2⟩
   | _=>exact z01 e
  | node c l=>
   cases y with
   | str d=>
    have e:(if c < 12 then some false else Option.none)=some r':=e
    split at e
    ·rename_i hc
     injection e with e;subst e
     exact hn c l d hc rfl rfl
    ·cases e
   | _=>exact z01 e
  | tup l=>
   cases y with
   | tup m=>exact zb4 k hu e ra rb
   | _=>exact z01 e
  | _=>cases y<;>exact z01 e
 refine zi7 (P:=fun op x y=>cmpOf op=some o→(∀ r',eqT x y=some r'→RcAt A s a b r'∧RcNeAt A s a b (!r'))→RepT Z x a→RepT Z y b→wpAny (model prog w) A (compareOp o a b) Q E s) ?_ ?_ ?_ ?_ ?_ ?_ ?_ ?_ ?_ ?_ ?_ e ho eq_all ra rb
 ·intro x y e ho eq_all ra rb
  injection ho with ho
  subst ho
  exact z2x (eq_all _ e).1 q
 ·intro x y e ho eq_all ra rb
  injection ho with ho
  subst ho
  obtain ⟨r',e1,rfl⟩:=Option.map_eq_some_iff.mp e
  exact z8w (eq_all _ e1).2 q
 ·intro c d e ho _ ra rb
  injection ho with ho
  subst ho
  obtain ⟨t,rfl⟩:=ra;obtain ⟨u,rfl⟩:=rb
  injection e with e;subst e
  exact P.lt_int q
 ·intro c d e ho _ ra rb
  injection ho with ho
  subst ho
  obtain ⟨t,rfl⟩:=ra;obtain ⟨u,rfl⟩:=rb
  injection e with e;subst e
  exact P.le_int q
 ·intro c d e ho _ ra rb
  injection ho with ho
  subst ho
  obtain ⟨t,rfl,_⟩:=ra;obtain ⟨u,rfl,_⟩:=rb
  injection e with e;subst e
  refine P.le_str ?_
  have:(!decide ((mkS d).cps.toList < (mkS c).cps.toList))=decide (c≤d):=by
   rw [z2w,z2w,← decide_not]
   rfl
  rwa [this]
 ·intro c d e ho _ ra rb
  injection ho with ho
  subst ho
  obtain ⟨t,rfl⟩:=ra;obtain ⟨u,rfl⟩:=rb
  injection e with e;subst e
  exact P.gt_int q
 ·intro c d e ho _ ra rb
  injection ho with ho
  subst ho
  obtain ⟨t,rfl⟩:=ra;obtain ⟨u,rfl⟩:=rb
  injection e with e;subst e
  exact P.ge_int q
 ·intro x e ho _ ra rb
  injection ho with ho
  subst ho
  obtain rfl:b = .none:=rb
  injection e with e;subst e
  refine is_none ?_
  rw [z6n ra]
  cases x<;>exact q
 ·intro x e ho _ ra rb
  injection ho with ho
  subst ho
  obtain rfl:b = .none:=rb
  injection e with e;subst e
  refine isNot_none ?_
  rw [z6n ra]
  cases x<;>exact q
 ·intro x y e ho _ ra rb
  injection ho with ho
  subst ho
  refine zdg (Q:=fun r'=>Q (.bool r') s→wpAny (model prog w) A (compareOp .In a b) Q E s) e ra rb k (fun p t q' u _ _ ea eb hq=>?_) (fun p t u items ys ea eb ht hs hy hq=>?_) q
  ·subst ea eb;exact P.in_str hq
  ·subst ea eb;exact in_tuple_strs ht hs (by rwa [hy])
 ·intro x y e ho _ ra rb
  injection ho with ho
  subst ho
  obtain ⟨r',e1,rfl⟩:=Option.map_eq_some_iff.mp e
  refine zdg (Q:=fun r'=>Q (.bool (!r')) s→wpAny (model prog w) A (compareOp .NotIn a b) Q E s) e1 ra rb k (fun p t q' u _ _ ea eb hq=>?_) (fun p t u items ys ea eb ht hs hy hq=>?_) q
  ·subst ea eb;exact P.notIn_str hq
  ·subst ea eb;exact notin_tuple_strs ht hs (by rwa [hy])
end
end Mine.Internal
namespace Mine.Internal
open PySem PySem.W PySem.Calls PyProof.Rows PySem.SeqAt PySem.MeetsSeq
open PySem.AutoSeq1 (wpAny_loadPart')
variable [PH]
section
variable {prog:Program} {w:World} {A:Around} {E:Value→Shared→Prop} {s:Shared} {K:Frag} {x C:Addr} {ox:Obj} {od:Option Obj}
theorem slotEq:Slot "object" "__eq__" "object.__eq__":=F.cmp_object.eq
theorem slotNe:Slot "object" "__ne__" "object.__ne__":=F.cmp_object.ne
theorem z2y {M:Model} {name:Str} {id:String} {args:List Value} {Q:Option Value→Shared→Prop} (X:K.In s.heap) (I:InstAt s.heap x ox C od) (hs:findIn K (.ref C) name=some (some (.builtin id))) (S:Slot "object" name id)
  (h:wpAny M A (call (.builtin id) (.ref x :: args)) (fun v=>Q (some v)) E s):wpAny M A (callSpecialIfBound? (.ref x) name args) Q E s:=by
 delta callSpecialIfBound? bindSpecialIfBound?
 refine wpAny_holding (wpAny_bind (wpAny_bind (wpAny_bind (I.type.here ((looks_findIn X hs).here ?_)))))
 dsimp only
 rw [S.bind]
 refine wpAny_bind (wpAny_askSetting (wpAny_ite ?_))
 have fin:wpAny M A (call (.builtin id) ([.ref x]++args) >>= fun v=>pure (some v)) Q E s:=wpAny_bind (wpAny_mono h (fun v s' h'=>wpAny_pure h') fun _ _ h'=>h')
 split
 ·exact wpAny_bind (wpAny_pure (wpAny_pure (by exact fin)))
 ·exact wpAny_tryCatch (wpAny_bind (wpAny_pure (wpAny_pure (by exact fin))))
structure CmpIs (K:Frag) (C:Addr):Prop where
 obj:mroIn K C (.type "object")=some true
 eq:findIn K (.ref C) "__eq__" = some (some (.builtin "object.__eq__"))
 ne:findIn K (.ref C) "__ne__" = some (some (.builtin "object.__ne__"))
 sub:subIn K (.type "str") (.ref C)=some false
theorem z6o {M:Model} (X:K.In s.heap) (I:InstAt s.heap x ox C od) (e:mroIn K C (.type "object")=some true):Looks M s.heap (isInstance (.ref x) (.type "object")) true:=I.type.andThen (looks_mroIn X e)
theorem z4j {d:Str} {u:Tok} {Q:Value→Shared→Prop} (X:K.In s.heap) (I:InstAt s.heap x ox C od) (Cm:CmpIs K C) (hq:Q .notImplemented s) :
  wpAny (model prog w) A (call (.builtin "object.__eq__") [.ref x,.str d u]) Q E s :=
 wpAny_call (codeAny_call_builtin slotEq.plain F.cmpEntry_eq (check_slot F.cmpKind_eq F.cmpSplit_eq (z6o X I Cm.obj) (F.cmpArgs_eq _ _) (by
  unfold Builtin.«object.__eq__»
  have hs:isSame (.ref x) (.str d u)=pure false:=rfl
  repeat (first | with_reducible refine wpAny_of_eq hs ?_ | wp_step)
  exact hq)))
theorem z8y {d:Str} {u:Tok} {Q:Option Value→Shared→Prop} (X:K.In s.heap) (I:InstAt s.heap x ox C od) (Cm:CmpIs K C) (hq:Q none s) :
  wpAny (model prog w) A (tryCompare (.ref x) "__eq__" (.str d u)) Q E s:=by
 unfold tryCompare
 exact wpAny_bind (z2y X I Cm.eq slotEq (z4j X I Cm (wpAny_pure hq)))
theorem z8z {d:Str} {u:Tok} {Q:Option Value→Shared→Prop} (X:K.In s.heap) (I:InstAt s.heap x ox C od) (Cm:CmpIs K C) (hu:A.units + 1 < cLine) (hq:Q none s) :
  wpAny (model prog w) A (tryCompare (.ref x) "__ne__" (.str d u)) Q E s:=by
 unfold tryCompare
 refine wpAny_bind (z2y X I Cm.ne slotNe (wpAny_call (codeAny_call_builtin slotNe.plain F.cmpEntry_ne (check_slot F.cmpKind_ne F.cmpSplit_ne (z6o X I Cm.obj) (F.cmpArgs_ne _ _) ?_))))
 unfold Builtin.«object.__ne__»
 have hu':A.in1.units < cLine:=hu
 repeat (first | with_reducible refine wpAny_cRoomFor hu' ?_ | with_reducible refine z2y X I Cm.eq slotEq (z4j X I Cm ?_) | wp_step)
 exact hq
theorem z2z (b:Str) (u:Tok) (l:Addr) (o:Obj) (hd:o.data = .plain) :
  Meets (Builtin.«str.__eq__» ⟨[.str b u,.ref l],[]⟩) (fun _ R s=>s.heap.get? l=some o∧R (.ok (.ret .notImplemented)) s) :=
 .of_wp fun prog w A R s h=>by
  obtain ⟨c,dd,dt,sl⟩:=o
  simp only at hd
  subst hd
  obtain ⟨hp,g,d,tk,os⟩:=s;obtain ⟨hl,h⟩:=h
  wp_walk using wpAny_loadPart' hl,wpAny_load hl
  exact ⟨_,rfl,h⟩
theorem z30 (b:Str) (u:Tok) (l:Addr) (o:Obj) (hd:o.data = .plain) :
  Meets (Builtin.«str.__ne__» ⟨[.str b u,.ref l],[]⟩) (fun _ R s=>s.heap.get? l=some o∧R (.ok (.ret .notImplemented)) s) :=
 .of_wp fun prog w A R s h=>by
  obtain ⟨c,dd,dt,sl⟩:=o
  simp only at hd
  subst hd
  obtain ⟨hp,g,d,tk,os⟩:=s;obtain ⟨hl,h⟩:=h
  wp_walk using wpAny_loadPart' hl,wpAny_load hl
  exact ⟨_,rfl,h⟩
theorem z5x {d:Str} {u:Tok} (X:K.In s.heap) (I:InstAt s.heap x ox C od) (hp:ox.data = .plain) (Cm:CmpIs K C) (hu:A.units + 100 < cLine):RcAt A s (.ref x) (.str d u) false:=fun prog w E Q h=>by
 simp only [richCompare,cmpInfo_Eq,oneThing_ref]
 refine wpAny_holding (wpAny_bind (wpAny_cRoomFor (by omega) ?_))
 refine wpAny_bind (I.type.here (wpAny_bind (wpAny_typeOf (typeIs_str s d u) ?_)))
 rw [if_pos (by rfl)]
 refine wpAny_bind ((looks_subIn X Cm.sub).here ?_)
 simp only [Bool.false_eq_true,if_false,Bool.not_false,if_true]
 refine wpAny_bind (z8y X I Cm ?_)
 refine wpAny_bind (m:=tryCompare (.str d u) _ (.ref x)) (wpAny_tryCompare_declines (typeIs_str s d u) F.slot_str_eq_refl (call_meets F.slot_str_eq_refl (typeIs_str s d u) F.entry_str_eq (F.args_str_eq_2 _ _) (z2z d u x ox hp) ⟨I.at_,rfl,?_⟩))
 exact wpAny_bind (wpAny_rule (wpAny_bind (wpAny_of_eq (rfl:isSame (.ref x) (.str d u)=pure false) (wpAny_pure h))))
theorem z5y {d:Str} {u:Tok} (X:K.In s.heap) (I:InstAt s.heap x ox C od) (hp:ox.data = .plain) (Cm:CmpIs K C) (hu:A.units + 100 < cLine):RcNeAt A s (.ref x) (.str d u) true:=fun prog w E Q h=>by
 simp only [richCompare,cmpInfo_NotEq,oneThing_ref]
 refine wpAny_holding (wpAny_bind (wpAny_cRoomFor (by omega) ?_))
 refine wpAny_bind (I.type.here (wpAny_bind (wpAny_typeOf (typeIs_str s d u) ?_)))
 rw [if_pos (by rfl)]
 refine wpAny_bind ((looks_subIn X Cm.sub).here ?_)
 simp only [Bool.false_eq_true,if_false,Bool.not_false,if_true]
 refine wpAny_bind (z8z X I Cm (by omega) ?_)
 refine wpAny_bind (m:=tryCompare (.str d u) _ (.ref x)) (wpAny_tryCompare_declines (typeIs_str s d u) F.slot_str_ne_refl (call_meets F.slot_str_ne_refl (typeIs_str s d u) F.entry_str_ne (F.args_str_ne_2 _ _) (z30 d u x ox hp) ⟨I.at_,rfl,?_⟩))
 exact wpAny_bind (wpAny_rule (wpAny_bind (wpAny_of_eq (rfl:isSame (.ref x) (.str d u)=pure false) (wpAny_pure h))))
end
end Mine.Internal
namespace Mine.Internal
open PySem PySem.W PySem.Calls PyProof.Rows PySem.SeqAt
theorem den_1:∀ (tb:Tabs) (Φ:Nat→List V→St→R V) (x:List V) (x_1:St) (x_3:T),den tb Φ (X.c x_3) x x_1=R.ok (V.t x_3) x_1:=by intros;rfl
theorem den_2:∀ (tb:Tabs) (Φ:Nat→List V→St→R V) (x:List V) (x_1:St) (i:Nat),
 den tb Φ (X.var i) x x_1 =
  match x[i]? with
  | some (V.t x)=>R.ok (V.t x) x_1
  | some (V.ref j)=>R.ok (V.ref j) x_1
  | x=>R.bot:=by intros;rfl
theorem den_3:∀ (tb:Tabs) (Φ:Nat→List V→St→R V) (x:List V) (x_1:St) (g:Nat),
 den tb Φ (X.glob g) x x_1 =
  match Tabs.glob tb g with
  | some x=>R.ok (V.t x) x_1
  | none=>R.bot:=by intros;rfl
theorem den_4:∀ (tb:Tabs) (Φ:Nat→List V→St→R V) (x:List V) (x_1:St) (l:X),
 den tb Φ (X.tup l) x x_1 =
  R.bind (denL tb Φ l x x_1) fun vs σ ↦
   match treesV vs with
   | some ts=>if List.length ts≤lineS then R.ok (V.t (T.tup ts)) σ else R.bot
   | none=>R.bot:=by intros;rfl
theorem den_5:∀ (tb:Tabs) (Φ:Nat→List V→St→R V) (x:List V) (x_1:St) (l:X),
 den tb Φ (X.lst l) x x_1=R.bind (denL tb Φ l x x_1) fun vs σ ↦ if List.length vs≤lineS then R.ok (V.ref (List.length σ)) (σ++[MO.list vs]) else R.bot:=by intros;rfl
theorem den_6:∀ (tb:Tabs) (Φ:Nat→List V→St→R V) (x:List V) (x_1:St) (l:List (List Nat×Int)),den tb Φ (X.dict l) x x_1=R.ok (V.t (T.dict l)) x_1:=by intros;rfl
theorem den_7:∀ (tb:Tabs) (Φ:Nat→List V→St→R V) (x:List V) (x_1:St) (op:Nat) (a b:X),
 den tb Φ (X.bin op a b) x x_1 =
  R.bind (den tb Φ a x x_1) fun v σ ↦
   R.bind (den tb Φ b x σ) fun u σ ↦
    match v,u with
    | V.t x,V.t y=>R.lift (Option.map V.t (binT op x y)) σ
    | V.ref i,V.ref j=>
     if op = 0 then
      match σ[i]?,σ[j]? with
      | some (MO.list l),some (MO.list l')=>if List.length l+List.length l'≤lineS then R.ok (V.ref (List.length σ)) (σ++[MO.list (l++l')]) else R.bot
      | x,x_2=>R.bot
     else R.bot
    | x,x_2=>R.bot:=by intros;rfl
theorem den_8:∀ (tb:Tabs) (Φ:Nat→List V→St→R V) (x:List V) (x_1:St) (a:X),
 den tb Φ (X.neg a) x x_1 =
  R.bind (den tb Φ a x x_1) fun v σ ↦
   match v with
   | V.t (T.int i)=>R.ok (V.t (T.int (-i))) σ
   | x=>R.bot:=by intros;rfl
theorem den_9:∀ (tb:Tabs) (Φ:Nat→List V→St→R V) (x:List V) (x_1:St) (a:X),den tb Φ (X.not a) x x_1=R.bind (den tb Φ a x x_1) fun v σ ↦ R.lift (Option.map (fun b ↦ V.t (T.bool !b)) (truthV v)) σ:=by intros;rfl
theorem zdh:∀ (tb:Tabs) (Φ:Nat→List V→St→R V) (x:List V) (x_1:St) (a b:X),
 den tb Φ (X.and a b) x x_1 =
  R.bind (den tb Φ a x x_1) fun v σ ↦
   match truthV v with
   | some true=>den tb Φ b x σ
   | some false=>R.ok v σ
   | none=>R.bot:=by intros;rfl
theorem zdi:∀ (tb:Tabs) (Φ:Nat→List V→St→R V) (x:List V) (x_1:St) (a b:X),
 den tb Φ (X.or a b) x x_1 =
  R.bind (den tb Φ a x x_1) fun v σ ↦
   match truthV v with
   | some true=>R.ok v σ
   | some false=>den tb Φ b x σ
   | none=>R.bot:=by intros;rfl
theorem zdj:∀ (tb:Tabs) (Φ:Nat→List V→St→R V) (x:List V) (x_1:St) (op:Nat) (a b:X),
 den tb Φ (X.cmp op a b) x x_1=R.bind (den tb Φ a x x_1) fun v σ ↦ R.bind (den tb Φ b x σ) fun u σ ↦ R.lift (Option.map (fun b ↦ V.t (T.bool b)) (cmpV σ op v u)) σ:=by intros;rfl
theorem zdk:∀ (tb:Tabs) (Φ:Nat→List V→St→R V) (x:List V) (x_1:St) (a b c:X),
 den tb Φ (X.cmp2 a b c) x x_1 =
  R.bind (den tb Φ a x x_1) fun v σ ↦
   R.bind (den tb Φ b x σ) fun u σ ↦
    match cmpV σ 3 v u with
    | some true=>R.bind (den tb Φ c x σ) fun w σ ↦ R.lift (Option.map (fun b ↦ V.t (T.bool b)) (cmpV σ 3 u w)) σ
    | some false=>R.ok (V.t (T.bool false)) σ
    | none=>R.bot:=by intros;rfl
theorem zdl:∀ (tb:Tabs) (Φ:Nat→List V→St→R V) (x:List V) (x_1:St) (c a b:X),
 den tb Φ (X.ite c a b) x x_1 =
  R.bind (den tb Φ c x x_1) fun v σ ↦
   match truthV v with
   | some true=>den tb Φ a x σ
   | some false=>den tb Φ b x σ
   | none=>R.bot:=by intros;rfl
theorem zi8:∀ (tb:Tabs) (Φ:Nat→List V→St→R V) (x:List V) (x_1:St) (a:X) (f:Nat),den tb Φ (X.attr a f) x x_1=R.bind (den tb Φ a x x_1) fun v σ ↦ R.lift (getA σ v f) σ:=by intros;rfl
theorem zi9:∀ (tb:Tabs) (Φ:Nat→List V→St→R V) (x:List V) (x_1:St) (a b:X),den tb Φ (X.idx a b) x x_1=R.bind (den tb Φ a x x_1) fun v σ ↦ R.bind (den tb Φ b x σ) fun u σ ↦ R.lift (idxV σ v u) σ:=by intros;rfl
theorem zia:∀ (tb:Tabs) (Φ:Nat→List V→St→R V) (x:List V) (x_1:St) (a lo hi:X),
 den tb Φ (X.slice a lo hi) x x_1 =
  R.bind (den tb Φ a x x_1) fun v σ ↦
   R.bind (den tb Φ lo x σ) fun u σ ↦
    R.bind (den tb Φ hi x σ) fun w σ ↦
     match v,u,w with
     | V.t x,V.t y,V.t z=>R.lift (Option.map V.t (sliceT x y z)) σ
     | x,x_2,x_3=>R.bot:=by intros;rfl
theorem zib:∀ (tb:Tabs) (Φ:Nat→List V→St→R V) (x:List V) (x_1:St) (f:Nat) (l:X),den tb Φ (X.callF f l) x x_1=R.bind (denL tb Φ l x x_1) fun vs σ ↦ Φ f vs σ:=by intros;rfl
theorem zic:∀ (tb:Tabs) (Φ:Nat→List V→St→R V) (x:List V) (x_1:St) (o:X) (m:Nat) (l:X),
 den tb Φ (X.callM o m l) x x_1 =
  R.bind (den tb Φ o x x_1) fun v σ ↦
   match clsOf σ v with
   | some c=>
    match Tabs.meth tb c m with
    | some f=>R.bind (denL tb Φ l x σ) fun vs σ ↦ Φ f (v :: vs) σ
    | none=>R.bot
   | none=>R.bot:=by intros;rfl
theorem zid:∀ (tb:Tabs) (Φ:Nat→List V→St→R V) (x:List V) (x_1:St) (k:Nat) (l:X),den tb Φ (X.new k l) x x_1=R.bind (denL tb Φ l x x_1) fun vs σ ↦ newV tb Φ k vs σ:=by intros;rfl
theorem zie:∀ (tb:Tabs) (Φ:Nat→List V→St→R V) (x:List V) (x_1:St) (b:Nat) (l:X),den tb Φ (X.blt b l) x x_1=R.bind (denL tb Φ l x x_1) fun vs σ ↦ R.lift (Option.map V.t (bltV σ b vs)) σ:=by intros;rfl
theorem zif:∀ (tb:Tabs) (Φ:Nat→List V→St→R V) (x:List V) (x_1:St) (o:X) (m:Nat) (l:X),
 den tb Φ (X.smeth o m l) x x_1=R.bind (den tb Φ o x x_1) fun v σ ↦ if smFits σ v m=true then R.bind (denL tb Φ l x σ) fun vs σ ↦ smethV σ v m vs else R.bot:=by intros;rfl
theorem zig:∀ (tb:Tabs) (Φ:Nat→List V→St→R V) (x:List V) (x_1:St) (a:X) (k:Nat),
 den tb Φ (X.isinst a k) x x_1 =
  R.bind (den tb Φ a x x_1) fun v σ ↦
   match v with
   | V.t (T.node c l)=>if c < 12 then R.ok (V.t (T.bool (decide (c=k)))) σ else R.bot
   | x=>R.bot:=by intros;rfl
theorem zih:∀ (tb:Tabs) (Φ:Nat→List V→St→R V) (x:List V) (x_1:St) (e:X) (i:Nat) (it:X),
 den tb Φ (X.comp e i it) x x_1 =
  R.bind (den tb Φ it x x_1) fun v σ ↦
   match itemsV v with
   | some xs=>compL (fun x_2 σ ↦ den tb Φ e (List.set x i x_2) σ) (List.length σ) xs (σ++[MO.list []])
   | none=>R.bot:=by intros;rfl
theorem zii:∀ (tb:Tabs) (Φ:Nat→List V→St→R V) (x:List V) (x_1:St) (e:X) (i:Nat) (n:X),
 den tb Φ (X.compR e i n) x x_1 =
  R.bind (den tb Φ n x x_1) fun v σ ↦
   match numsV v with
   | some xs=>compL (fun x_2 σ ↦ den tb Φ e (List.set x i x_2) σ) (List.length σ) xs (σ++[MO.list []])
   | none=>R.bot:=by intros;rfl
theorem zjk:∀ (tb:Tabs) (Φ:Nat→List V→St→R V) (x:List V) (x_1:St),den tb Φ X.bad x x_1=R.bot:=by intros;rfl
theorem zjl:∀ (tb:Tabs) (Φ:Nat→List V→St→R V) (x:List V) (x_1:St),den tb Φ X.nil x x_1=R.bot:=by intros;rfl
theorem zjm:∀ (tb:Tabs) (Φ:Nat→List V→St→R V) (x:List V) (x_1:St) (a b:X),den tb Φ (X.cons a b) x x_1=R.bot:=by intros;rfl
theorem zij:∀ (tb:Tabs) (Φ:Nat→List V→St→R V) (x:List V) (x_1:St),denL tb Φ X.nil x x_1=R.ok [] x_1:=by intros;rfl
theorem zik:∀ (tb:Tabs) (Φ:Nat→List V→St→R V) (x:List V) (x_1:St) (a b:X),denL tb Φ (X.cons a b) x x_1=R.bind (den tb Φ a x x_1) fun v σ ↦ R.bind (denL tb Φ b x σ) fun vs σ ↦ R.ok (v :: vs) σ:=by intros;rfl
theorem exS_1:∀ (tb:Tabs) (Φ:Nat→List V→St→R V) (W:Nat) (x:List V) (x_1:St),exS tb Φ W S.nil x x_1=RS.next x x_1:=by intros;rfl
theorem exS_2:∀ (tb:Tabs) (Φ:Nat→List V→St→R V) (W:Nat) (x:List V) (x_1:St) (a b:S),exS tb Φ W (S.seq a b) x x_1=RS.andThen (exS tb Φ W a x x_1) fun ρ σ ↦ exS tb Φ W b ρ σ:=by intros;rfl
theorem exS_3:∀ (tb:Tabs) (Φ:Nat→List V→St→R V) (W:Nat) (x:List V) (x_1:St) (i:Nat) (x_3:X),exS tb Φ W (S.asg i x_3) x x_1=R.toS x (den tb Φ x_3 x x_1) fun v σ ↦ RS.next (List.set x i v) σ:=by intros;rfl
theorem exS_4:∀ (tb:Tabs) (Φ:Nat→List V→St→R V) (W:Nat) (x:List V) (x_1:St) (is:List Nat) (x_3:X),
 exS tb Φ W (S.asgT is x_3) x x_1 =
  R.toS x (den tb Φ x_3 x x_1) fun v σ ↦
   match itemsV v with
   | some vs=>if List.length vs=List.length is then RS.next (setAll x is vs) σ else RS.bot
   | none=>RS.bot:=by intros;rfl
theorem exS_5:∀ (tb:Tabs) (Φ:Nat→List V→St→R V) (W:Nat) (x:List V) (x_1:St) (is:List Nat) (x_3:X),
 exS tb Φ W (S.asgP is x_3) x x_1 =
  R.toS x (denL tb Φ x_3 x x_1) fun vs σ ↦
   match treesV vs with
   | some val=>if List.length vs=List.length is then RS.next (setAll x is vs) σ else RS.bot
   | none=>RS.bot:=by intros;rfl
theorem exS_6:∀ (tb:Tabs) (Φ:Nat→List V→St→R V) (W:Nat) (x:List V) (x_1:St) (o:X) (f:Nat) (x_3:X),
 exS tb Φ W (S.setA o f x_3) x x_1 =
  R.toS x (den tb Φ x_3 x x_1) fun v σ ↦
   R.toS x (den tb Φ o x σ) fun u σ ↦
    match setA σ u f v with
    | some σ=>RS.next x σ
    | none=>RS.bot:=by intros;rfl
theorem exS_7:∀ (tb:Tabs) (Φ:Nat→List V→St→R V) (W:Nat) (x:List V) (x_1:St) (o i x_3:X),
 exS tb Φ W (S.setI o i x_3) x x_1 =
  R.toS x (den tb Φ x_3 x x_1) fun v σ ↦
   R.toS x (den tb Φ o x σ) fun u σ ↦
    R.toS x (den tb Φ i x σ) fun k σ ↦
     match setI σ u k v with
     | some σ=>RS.next x σ
     | none=>RS.bot:=by intros;rfl
theorem exS_8:∀ (tb:Tabs) (Φ:Nat→List V→St→R V) (W:Nat) (x:List V) (x_1:St) (x_3:X),exS tb Φ W (S.expr x_3) x x_1=R.toS x (den tb Φ x_3 x x_1) fun x_2 σ ↦ RS.next x σ:=by intros;rfl
theorem exS_9:∀ (tb:Tabs) (Φ:Nat→List V→St→R V) (W:Nat) (x:List V) (x_1:St) (c:X) (a b:S),
 exS tb Φ W (S.ifs c a b) x x_1 =
  R.toS x (den tb Φ c x x_1) fun v σ ↦
   match truthV v with
   | some true=>exS tb Φ W a x σ
   | some false=>exS tb Φ W b x σ
   | none=>RS.bot:=by intros;rfl
theorem zil:∀ (tb:Tabs) (Φ:Nat→List V→St→R V) (W:Nat) (x:List V) (x_1:St) (c:X) (b:S),exS tb Φ W (S.whl c b) x x_1=whileN (fun ρ σ ↦ den tb Φ c ρ σ) (fun ρ σ ↦ exS tb Φ W b ρ σ) W x x_1:=by intros;rfl
theorem zim:∀ (tb:Tabs) (Φ:Nat→List V→St→R V) (W:Nat) (x:List V) (x_1:St) (i:Nat) (x_3:X) (b:S),
 exS tb Φ W (S.forL i x_3 b) x x_1 =
  R.toS x (den tb Φ x_3 x x_1) fun v σ ↦
   match v with
   | V.ref a=>forLN i a (fun ρ σ ↦ exS tb Φ W b ρ σ) W 0 x σ
   | V.t (T.lst l)=>forN i (fun ρ σ ↦ exS tb Φ W b ρ σ) (List.map (fun k ↦ V.t (T.int k)) l) x σ
   | x=>RS.bot:=by intros;rfl
theorem zin:∀ (tb:Tabs) (Φ:Nat→List V→St→R V) (W:Nat) (x:List V) (x_1:St) (i:Nat) (n:X) (b:S),
 exS tb Φ W (S.forR i n b) x x_1 =
  R.toS x (den tb Φ n x x_1) fun v σ ↦
   match numsV v with
   | some xs=>forN i (fun ρ σ ↦ exS tb Φ W b ρ σ) xs x σ
   | none=>RS.bot:=by intros;rfl
theorem zdm:∀ (tb:Tabs) (Φ:Nat→List V→St→R V) (W:Nat) (x:List V) (x_1:St) (x_3:X),exS tb Φ W (S.ret x_3) x x_1=R.toS x (den tb Φ x_3 x x_1) fun v σ ↦ RS.ret v σ:=by intros;rfl
theorem zio:∀ (tb:Tabs) (Φ:Nat→List V→St→R V) (W:Nat) (x:List V) (x_1:St) (x_3:X),
 exS tb Φ W (S.raise x_3) x x_1 =
  R.toS x (den tb Φ x_3 x x_1) fun v σ ↦
   match v with
   | V.t (T.str s)=>RS.exc x σ
   | x=>RS.bot:=by intros;rfl
theorem ziq:∀ (tb:Tabs) (Φ:Nat→List V→St→R V) (W:Nat) (x:List V) (x_1:St) (b:S) (x_3:T),
 exS tb Φ W (S.tryE b x_3) x x_1 =
  match exS tb Φ W b x x_1 with
  | RS.exc ρ σ=>RS.ret (V.t x_3) σ
  | r=>r:=by intros;rfl
theorem zjn:∀ (tb:Tabs) (Φ:Nat→List V→St→R V) (W:Nat) (x:List V) (x_1:St),exS tb Φ W S.bad x x_1=RS.bot:=by intros;rfl
theorem zje:∀ (ρ:List V) (i:Nat) (is:List Nat) (v:V) (vs:List V),setAll ρ (i :: is) (v :: vs)=setAll (List.set ρ i v) is vs:=by intros;rfl
end Mine.Internal
namespace Mine.Internal
open PySem PySem.W PySem.Calls PyProof.Rows PySem.SeqAt
variable [PH]
noncomputable def gname:List (Str×Nat):=[(Str.ofString "SPACES",0),(Str.ofString "FIRST_BEYOND",1),(Str.ofString "FIGURES",2),(Str.ofString "PAIRS",3),(Str.ofString "OPERATORS",4),(Str.ofString "SIGNS",5),(Str.ofString "WORD_OPERATORS",6),(Str.ofString "KINDS_OF_NODES",7),(Str.ofString "BEHIND_NO_OPERAND",8),(Str.ofString "MOST_DEPTH",9),(Str.ofString "AXES",10),(Str.ofString "LEVELS",11),(Str.ofString "PRIMARY_KINDS",12),(Str.ofString "UNARY_LEVEL",13),(Str.ofString "UNION_LEVEL",14),(Str.ofString "PATH_LEVEL",15),(Str.ofString "FILTER_LEVEL",16),(Str.ofString "PRIMARY_LEVEL",17)]
noncomputable def sLook {α:Type}:List (Str × α)→Str→Option α
 | [],_=>none
 | (k,v) :: r,x=>@Bool.rec (fun _=>Option α) (sLook r x) (some v) (PySem.W.Fast.sEq x k)
theorem z90 {α:Type} (k x:Str) (u : α) (r:List (Str × α)):sLook ((k,u) :: r) x = @Bool.rec (fun _=>Option α) (sLook r x) (some u) (PySem.W.Fast.sEq x k):=rfl
theorem z6p {α:Type} (l:List (Str × α)) (x:Str):sLook l x=l.lookup x:=by
 induction l with
 | nil=>rfl
 | cons p r ih=>
  obtain ⟨k,u⟩:=p
  rw [z90,List.lookup_cons]
  cases hb:PySem.W.Fast.sEq x k with
  | true=>rw [PySem.W.Fast.sEq_iff.mp hb,beq_self_eq_true]
  | false=>
   have:(x == k)=false:=beq_eq_false_iff_ne.mpr fun e=>by rw [PySem.W.Fast.sEq_iff.mpr e] at hb;cases hb
   rw [this];exact ih
theorem z0p {α:Type} {l:List (Str × α)} {x:Str} {v : α} (h:sLook l x=some v):(x,v)∈l:=by
 induction l with
 | nil=>exact nS h
 | cons p r ih=>
  obtain ⟨k,u⟩:=p
  rw [z90] at h
  cases hb:PySem.W.Fast.sEq x k with
  | true=>
   rw [hb] at h
   rw [PySem.W.Fast.sEq_iff.mp hb,← Option.some.inj h];exact .head _
  | false=>rw [hb] at h;exact .tail _ (ih h)
noncomputable def sIdx:List Str→Str→Nat→Option Nat
 | [],_,_=>none
 | k :: r,x,i=>@Bool.rec (fun _=>Option Nat) (sIdx r x (i + 1)) (some i) (PySem.W.Fast.sEq x k)
theorem zjh {l:List Str} {x:Str}:∀ {i j:Nat},sIdx l x i=some j→i≤j∧l[j - i]? = some x:=by
 induction l with
 | nil=>intro _ _ h;exact nS h
 | cons k r ih=>
  intro i j h
  replace h : @Bool.rec (fun _=>Option Nat) (sIdx r x (i + 1)) (some i) (PySem.W.Fast.sEq x k)=some j:=h
  cases hb:PySem.W.Fast.sEq x k with
  | true=>
   rw [hb] at h
   obtain rfl:=Option.some.inj h
   rw [PySem.W.Fast.sEq_iff.mp hb,Nat.sub_self];exact ⟨Nat.le_refl _,rfl⟩
  | false=>
   rw [hb] at h
   obtain ⟨h1,h2⟩:=ih h
   refine ⟨Nat.le_of_succ_le h1,?_⟩
   have:j - i=(j - (i + 1)) + 1:=by omega
   rw [this];exact h2
structure Ground (prog:Program) (HB:Heap) (K:Frag) (mg mb:Str→Option Value) (tb:Tabs):Prop where
 frag:K.In HB
 g:HB.Ns mainGlobals mg
 b:HB.Ns builtinsNs mb
 lim:HB.NoLimit
 seer:HB.NoSeer
 tree:prog.given.tree=none
 globs:∀ x g t,sLook gname x=some g→tb.glob g=some t→(x == ("__debug__" : Str))=false∧∃ v,mg x=some v∧RepT HB t v
 cmps:∀ c,c < 12→CmpIs K (caddr c)
noncomputable def FrIn (fs:List Addr) (env:Env):Prop:=env.scope.kind ≠ .module∧∃ L,env.frame=some L∧L∈fs
structure Gc (n:Nat) (A:Around) (fs:List Addr):Prop where
 hand:A.handled=none
 dep:A.depth + 3 * n + 120 < recursionLimit
 un:A.units + 20 * n + 300 < cLine
 fr:∃ l,A.frames=some l∧∀ e∈l,FrIn fs e
structure Gd (n:Nat) (A:Around) (fs:List Addr):Prop where
 hand:A.handled=none
 dep:A.depth + 3 * n + 122 < recursionLimit
 un:A.units + 20 * n + 310 < cLine
 fr:∃ env l,A.frames=some (env :: l)∧env.scope.isGenerator=false∧env.scope.isCoroutine=false∧env.builtins=builtinsNs∧env.globals=mainGlobals∧∀ e∈env :: l,FrIn fs e
section
variable {prog:Program} {w:World} {HB:Heap} {K:Frag} {mg mb:Str→Option Value} {tb:Tabs} {Φ:Nat→List V→St→R V} {n:Nat}
theorem Gd.room {A:Around} {s:Shared} {Z:Heap} {σ:St} {μ:List SA} {outs:Outs} (G:Ground prog HB K mg mb tb) {fs:List Addr} (g:Gd n A fs) (z:Sub HB Z) (ws:WS Z σ μ outs s.heap):PylongRoom (model prog w) A s:=by
 obtain ⟨env,l,h1,h2,h3,h4,h5,_⟩:=g.fr
 have d:=g.dep
 have k:Sub HB s.heap:=z.trans ws.keep
 exact PylongRoom.of (G.lim.keeps k) (by show A.depth + 100 < recursionLimit;omega) (SeerAt.of (G.seer.keeps k) G.tree h1 h2 h3 h4 h5)
theorem Gd.more {A:Around} {fs:List Addr} (g:Gd n A fs) (a:Addr):Gd n A (a :: fs):=⟨g.hand,g.dep,g.un,let ⟨env,l,h1,h2,h3,h4,h5,h6⟩:=g.fr;⟨env,l,h1,h2,h3,h4,h5,fun e he=>let ⟨k,L,e1,e2⟩:=h6 e he;⟨k,L,e1,.tail _ e2⟩⟩⟩
theorem Gd.u100 {A:Around} {fs:List Addr} (g:Gd n A fs):A.units + 100 < cLine:=by have:=g.un;omega
noncomputable def SndE (prog:Program) (w:World) (HB:Heap) (tb:Tabs) (Φ:Nat→List V→St→R V) (n:Nat) (C:Cx) (e:Expr) (x:X):Prop :=
 ∀ ⦃A:Around⦄ ⦃s:Shared⦄ ⦃Z:Heap⦄ ⦃μ:List SA⦄ ⦃rest:Outs⦄ ⦃σ:St⦄ ⦃env:Env⦄ ⦃L:Addr⦄ ⦃m:Str→Option Value⦄ ⦃ρ:List V⦄,
  Gd n A (L :: nsA rest)→Sub HB Z→EnvOk C env L→WS Z σ μ ((L,.ns m) :: rest) s.heap→Lc C env Z μ m ρ→SpV prog w A (eval e env) s Z μ ((L,.ns m) :: rest) (den tb Φ x ρ σ)
noncomputable def tst (r:R V):R Bool:=r.bind fun v σ=>R.lift (truthV v) σ
noncomputable def RepB (_:Heap) (_:List SA) (a b:Bool):Prop:=a=b
noncomputable def SndB (prog:Program) (w:World) (HB:Heap) (tb:Tabs) (Φ:Nat→List V→St→R V) (n:Nat) (C:Cx) (e:Expr) (x:X):Prop :=
 ∀ ⦃A:Around⦄ ⦃s:Shared⦄ ⦃Z:Heap⦄ ⦃μ:List SA⦄ ⦃rest:Outs⦄ ⦃σ:St⦄ ⦃env:Env⦄ ⦃L:Addr⦄ ⦃m:Str→Option Value⦄ ⦃ρ:List V⦄,
  Gd n A (L :: nsA rest)→Sub HB Z→EnvOk C env L→WS Z σ μ ((L,.ns m) :: rest) s.heap→Lc C env Z μ m ρ→Sp prog w A RepB (isTrue e env (eval e env)) s Z μ ((L,.ns m) :: rest) (tst (den tb Φ x ρ σ))
noncomputable def SndL (prog:Program) (w:World) (HB:Heap) (tb:Tabs) (Φ:Nat→List V→St→R V) (n:Nat) (C:Cx) (es:List Expr) (x:X):Prop :=
 ∀ ⦃A:Around⦄ ⦃s:Shared⦄ ⦃Z:Heap⦄ ⦃μ:List SA⦄ ⦃rest:Outs⦄ ⦃σ:St⦄ ⦃env:Env⦄ ⦃L:Addr⦄ ⦃m:Str→Option Value⦄ ⦃ρ:List V⦄ (pos:Pos),
  Gd n A (L :: nsA rest)→Sub HB Z→EnvOk C env L→WS Z σ μ ((L,.ns m) :: rest) s.heap→Lc C env Z μ m ρ→SpL prog w A (spliced (backTo pos (starEach es env))) s Z μ ((L,.ns m) :: rest) (denL tb Φ x ρ σ)
variable {C:Cx}
theorem z0w {A:Around} {E:Value→Shared→Prop} {s:Shared} {Z:Heap} {μ:List SA} {v:V} {x:Value} {b:Bool} {Q:Bool→Shared→Prop} (e:truthV v=some b) (r:RepV Z μ v x)
  (q:∀ tk,Q b { s with toks:=tk }):wpAny (model prog w) A (truthy x) Q E s:=by
 cases v with
 | t t=>
  cases t with
  | none=>obtain rfl:x = .none:=r;obtain rfl:=Option.some.inj e;exact fun _ _ _=>q s.toks
  | bool c=>obtain rfl:x = .bool c:=r;obtain rfl:=Option.some.inj e;exact fun _ _ _=>q s.toks
  | int i=>
   obtain ⟨t,rfl⟩:=r
   obtain rfl:=Option.some.inj e
   refine P.truthy_int ?_
   have:(i != 0)=decide (i ≠ 0):=by by_cases h:i = 0<;>simp [h]
   rw [this];exact q s.toks
  | str l=>
   obtain ⟨t,rfl,hl⟩:=r
   obtain rfl:=Option.some.inj e
   have z:lineS = 1048576:=rfl
   refine P.truthy_str (by rw [z03];omega) ?_
   have:(((mkS l).length:Int) != 0) = !l.isEmpty:=by
    rw [z03]
    cases l<;>simp<;>omega
   rw [this];exact q _
  | _=>exact nS e
 | ref i=>exact nS e
 | undef=>exact nS e
theorem SndB.of_value {e:Expr} {x:X} (h:SndE prog w HB tb Φ n C e x) (he:∀ env whole,isTrue e env whole=(do let v ← whole;standAt e.pos;holding [v] (truthy v))):SndB prog w HB tb Φ n C e x:=by
 intro A s Z μ rest σ env L m ρ g z eo ws lc hb Q E ok ex
 refine wpAny_isTrue_value ?_ (he _ _)
 refine (h g z eo ws lc).bind hb ok ex fun a σ1 Z1 μ1 h1 tk1 v e1 z1 p1 ws1 r1 hb1 ok1 ex1=>?_
 obtain ⟨b,e2,e3⟩:=z0y hb1
 rw [e3] at ok1
 exact z0w e2 r1 fun tk=>ok1.now ws1 rfl
inductive COk:Const→T→Prop
 | none:COk .none .none
 | bool {b:Bool}:COk (.bool b) (.bool b)
 | int {i:Int}:COk (.int i) (.int i)
 | str {b:List Nat} (h:b.length≤lineS):COk (.str (mkS b)) (.str b)
theorem z91 {c:Const} {t:T} {k:Nat} {pos:Pos} (h:COk c t):SndE prog w HB tb Φ n C (.Constant c k pos) (.c t):=by
 intro A s Z μ rest σ env L m ρ g z eo ws lc hb Q E ok ex
 rw [den_1] at ok
 cases h with
 | none=>exact wpAny_Constant_none (ok.now (tk:=s.toks) ws rfl)
 | bool=>exact wpAny_Constant_bool (ok.now (tk:=s.toks) ws rfl)
 | int=>exact wpAny_Constant_int (ok.now ws ⟨_,rfl⟩)
 | str hl=>exact wpAny_Constant_str (ok.now ws ⟨_,rfl,hl⟩)
theorem zfh {x:Str} {i:Nat} {pos:Pos} (hi:C.names[i]? = some x) (hk:C.scope.names.lookup x=some .local∨C.scope.names.lookup x=some .cell) (hd:(x == ("__debug__" : Str))=false):SndE prog w HB tb Φ n C (.Name x pos) (.var i):=by
 intro A s Z μ rest σ env L m ρ g z eo ws lc hb Q E ok ex
 have hkd:env.kindOf x=C.scope.names.lookup x:=by show env.scope.names.lookup x=_;rw [eo.scope]
 have hkf:env.scope.kind = .function:=by rw [eo.scope];exact eo.kind
 rw [den_2] at ok hb
 refine wpAny_Name ?_ hd
 have key:∀ v,ρ[i]? = some v→v ≠ .undef→(∀ val,RepV Z μ v val→Q val s)→wpAny (model prog w) A (loadName env x) Q E s:=by
  intro v ev hv q
  have:=lc i x v hi ev hv
  rcases hk with hk | hk
  ·rw [hk] at this
   obtain ⟨val,h1,h2⟩:=this
   exact wpAny_loadName_local hkf (hkd.trans hk) (by rw [eo.loc];exact ws.head_out) h1 (q val h2)
  ·rw [hk] at this
   obtain ⟨c,val,h1,h2,h3⟩:=this
   exact wpAny_loadName_cell hkf (hkd.trans hk) h1 (h2.keeps ws.keep) (q val h3)
 cases e : ρ[i]? with
 | none=>rw [e] at hb;exact (hb rfl).elim
 | some v=>
  rw [e] at ok hb
  cases v with
  | undef=>exact (hb rfl).elim
  | t t=>exact key _ e (fun h=>V.noConfusion h) fun val r=>ok.now (tk:=s.toks) ws r
  | ref j=>exact key _ e (fun h=>V.noConfusion h) fun val r=>ok.now (tk:=s.toks) ws r
theorem zb6 (G:Ground prog HB K mg mb tb) {x:Str} {i:Nat} {pos:Pos} (hi:sLook gname x=some i) (hk:C.scope.names.lookup x=some .globalImplicit):SndE prog w HB tb Φ n C (.Name x pos) (.glob i):=by
 intro A s Z μ rest σ env L m ρ g z eo ws lc hb Q E ok ex
 have hkd:env.kindOf x=C.scope.names.lookup x:=by show env.scope.names.lookup x=_;rw [eo.scope]
 have hkf:env.scope.kind = .function:=by rw [eo.scope];exact eo.kind
 rw [den_3] at ok hb
 split at ok<;>rename_i e
 ·obtain ⟨h1,v,h2,h3⟩:=G.globs x i _ hi e
  exact Calls.Name_function_global hkf (hkd.trans hk) (Calls.loadGlobal_global (by rw [eo.glob];exact G.g.keeps (z.trans ws.keep)) h2 (ok.now (tk:=s.toks) ws (h3.mono z))) h1
 ·exact (hb (by simp only [e])).elim
theorem zfi:SndL prog w HB tb Φ n C [] .nil:=by
 intro A s Z μ rest σ env L m ρ pos g z eo ws lc hb Q E ok ex
 rw [zij] at ok
 exact wpAny_items_nil (ok.now (tk:=s.toks) ws trivial)
theorem zb7 {e:Expr} {es:List Expr} {x xs:X} (h1:SndE prog w HB tb Φ n C e x) (h2:SndL prog w HB tb Φ n C es xs) (hn:∀ env,starEach (e :: es) env=(false,eval e env) :: starEach es env):SndL prog w HB tb Φ n C (e :: es) (.cons x xs):=by
 intro A s Z μ rest σ env L m ρ pos g z eo ws lc hb Q E ok ex
 rw [zik] at ok hb ex
 refine wpAny_items_cons ?_ (hn env)
 refine (h1 g z eo ws lc).bind hb ok ex fun a σ1 Z1 μ1 h1' tk1 v e1 z1 p1 ws1 r1 hb1 ok1 ex1=>?_
 refine (h2 pos g (z.trans z1) eo ws1 (lc.mono z1 p1)).bind hb1 ok1 ex1 fun a2 σ2 Z2 μ2 h2' tk2 v2 e2 z2 p2 ws2 r2 hb2 ok2 ex2=>?_
 exact ok2.now (tk:=tk2) ws2 ⟨r1.mono z2 p2,r2⟩
end
end Mine.Internal
namespace Mine.Internal
open PySem PySem.W PySem.Calls PyProof.Rows PySem.SeqAt
variable [PH]
section
variable {prog:Program} {w:World} {HB:Heap} {K:Frag} {mg mb:Str→Option Value} {tb:Tabs} {Φ:Nat→List V→St→R V} {n:Nat} {C:Cx}
theorem z1y {Z:Heap} {σ:St} {μ:List SA} {outs:Outs} {h:Heap} (ws:WS Z σ μ outs h) {l:List V} {vs:List Value} (r:RepVs Z μ l vs) (hl:l.length≤lineS) :
  WS Z (σ++[.list l]) (μ++[(h.objs.size,none)]) outs (h.push { cls:= .type "list",data:= .seq vs.toArray })∧RepV Z (μ++[(h.objs.size,none)]) (.ref σ.length) (.ref h.objs.size)∧Pre μ (μ++[(h.objs.size,none)]):=by
 have pre:Pre μ (μ++[(h.objs.size,none)]):=fun i x e=>by rw [List.getElem?_append_left (List.getElem?_eq_some_iff.mp e).1];exact e
 refine ⟨ws.alloc (sa:=(h.objs.size,none)) (fun b o e=>Heap.get?_push_of_some _ e) ⟨rfl,hl,vs,⟨_,Heap.get?_push_size _ rfl⟩,r.mono (Sub.refl _) pre⟩ (fun a ha=>?_) (by simp [ofSA]),⟨(h.objs.size,none),?_,rfl⟩,pre⟩
 ·simp [ofSA] at ha;subst ha;exact z08 h
 ·rw [← ws.len];simp
theorem z0q {Z:Heap} {σ:St} {μ:List SA} {outs:Outs} {h:Heap} (ws:WS Z σ μ outs h) {i:Nat} {l:List V} {v:Value} (r:RepV Z μ (.ref i) v) (e : σ[i]? = some (.list l)) :
  ∃ a vs,v = .ref a ∧ μ[i]? = some (a,none)∧h.PlainList a vs.toArray∧RepVs Z μ l vs∧l.length≤lineS:=by
 obtain ⟨⟨a,d⟩,h1,rfl⟩:=r
 obtain ⟨h2,h3,vs,h4,h5⟩:=ws.rep i _ _ e h1
 simp only at h2
 subst h2
 exact ⟨a,vs,rfl,h1,h4,h5,h3⟩
theorem z0i:lineS≤sizeLine:=by decide
theorem zir {σ:St} {a b:V} {op:Nat} {P:R V→Prop} (bot:P .bot) (tt:∀ x y t,a = .t x→b = .t y→binT op x y=some t→P (.ok (.t t) σ))
  (rr:∀ i j l l',a = .ref i→b = .ref j→op = 0→σ[i]? = some (.list l)→σ[j]? = some (.list l')→l.length+l'.length≤lineS→P (.ok (.ref σ.length) (σ++[.list (l++l')]))) :
  P (match (generalizing:=false) a,b with
   | .t x,.t y=>R.lift ((binT op x y).map V.t) σ
   | .ref i,.ref j=>if op = 0 then (match σ[i]?,σ[j]? with
    | some (.list l),some (.list l')=>if l.length+l'.length≤lineS then R.ok (V.ref σ.length) (σ++[MO.list (l++l')]) else R.bot
    | _,_=>R.bot) else R.bot
   | _,_=>R.bot):=by
 cases a with
 | undef=>exact bot
 | t x=>
  cases b with
  | t y=>
   show P (R.lift ((binT op x y).map V.t) σ)
   cases h:binT op x y with
   | none=>exact bot
   | some t=>exact tt x y t rfl rfl h
  | _=>exact bot
 | ref i=>
  cases b with
  | ref j=>
   show P (if op = 0 then _ else _)
   by_cases hop:op = 0
   ·rw [if_pos hop]
    cases ei : σ[i]? with
    | none=>exact bot
    | some oi=>
    cases oi with
    | inst=>exact bot
    | list l=>
    cases ej : σ[j]? with
    | none=>exact bot
    | some oj=>
    cases oj with
    | inst=>exact bot
    | list l'=>
    show P (if l.length+l'.length≤lineS then _ else _)
    by_cases hs:l.length+l'.length≤lineS
    ·rw [if_pos hs];exact rr i j l l' rfl rfl hop ei ej hs
    ·rw [if_neg hs];exact bot
   ·rw [if_neg hop];exact bot
  | _=>exact bot
theorem zfj (G:Ground prog HB K mg mb tb) {l r:Expr} {op:Nat} {o:Operator} {x y:X} {pos:Pos} (ho:opOf op=some o) (hl:SndE prog w HB tb Φ n C l x) (hr:SndE prog w HB tb Φ n C r y):SndE prog w HB tb Φ n C (.BinOp l o r pos) (.bin op x y):=by
 intro A s Z μ rest σ env L m ρ g z eo ws lc hb Q E ok ex
 rw [den_7] at ok hb ex
 refine wpAny_BinOp ?_
 refine (hl g z eo ws lc).bind hb ok ex fun a σ1 Z1 μ1 h1 tk1 v e1 z1 p1 ws1 r1 hb1 ok1 ex1=>?_
 refine (hr g (z.trans z1) eo ws1 (lc.mono z1 p1)).bind hb1 ok1 ex1 fun b σ2 Z2 μ2 h2 tk2 u e2 z2 p2 ws2 r2 hb2 ok2 ex2=>?_
 have r1':=r1.mono z2 p2
 refine zir (op:=op) (P:=fun r=>r ≠ .bot→KOk RepV _ _ _ _ r Q→wpAny (model prog w) A _ Q E _) (fun h=>(h rfl).elim) (fun a b t ea eb e5 _ ok3=>?_) (fun i j li lj ea eb hop ei ej hs _ ok3=>?_) hb2 ok2
 ·subst ea eb
  exact zff ho e5 r1' r2 ws2 (g.room (s:={ s with heap:=h2,toks:=tk2 }) G ((z.trans z1).trans z2) ws2) fun Z' h' tk v zz ww rr=>ok3.at zz (Pre.refl _) ww rr
 ·subst ea eb hop
  obtain rfl:=Option.some.inj ho
  obtain ⟨aa,vs,rfl,_,⟨n1,g1⟩,rv1,_⟩:=z0q ws2 r1' ei
  obtain ⟨ab,us,rfl,_,⟨n2,g2⟩,rv2,_⟩:=z0q ws2 r2 ej
  obtain ⟨w3,r3,p3⟩:=z1y ws2 (rv1.append rv2) (by rw [List.length_append];exact hs)
  refine P.add_list (s:={ s with heap:=h2,toks:=tk2 }) g1 g2 ?_ (by
   simp only [List.size_toArray];rw [← rv1.length,← rv2.length];exact Nat.le_trans hs z0i)
  rw [List.append_toArray]
  exact ok3.at (tk:=tk2) (Sub.refl _) p3 w3 r3
theorem zfk {e:Expr} {x:X} {pos:Pos} (h:SndE prog w HB tb Φ n C e x):SndE prog w HB tb Φ n C (.UnaryOp .USub e pos) (.neg x):=by
 intro A s Z μ rest σ env L m ρ g z eo ws lc hb Q E ok ex
 rw [den_8] at ok hb ex
 refine wpAny_UnaryOp ?_
 refine (h g z eo ws lc).bind hb ok ex fun a σ1 Z1 μ1 h1 tk1 v e1 z1 p1 ws1 r1 hb1 ok1 ex1=>?_
 clear hb ok ex
 cases a with
 | undef=>exact (hb1 rfl).elim
 | ref _=>exact (hb1 rfl).elim
 | t t=>
  cases t with
  | int i=>
   obtain ⟨t,rfl⟩:=r1
   exact P.neg_int (ok1.now ws1 ⟨_,rfl⟩)
  | _=>exact (hb1 rfl).elim
theorem zfl {e:Expr} {x:X} {pos:Pos} (h:SndE prog w HB tb Φ n C e x):SndE prog w HB tb Φ n C (.UnaryOp .Not e pos) (.not x):=by
 intro A s Z μ rest σ env L m ρ g z eo ws lc hb Q E ok ex
 rw [den_9] at ok hb ex
 refine wpAny_UnaryOp ?_
 refine (h g z eo ws lc).bind hb ok ex fun a σ1 Z1 μ1 h1 tk1 v e1 z1 p1 ws1 r1 hb1 ok1 ex1=>?_
 obtain ⟨t,e3,e4⟩:=z0y hb1
 obtain ⟨b,e5,rfl⟩:=Option.map_eq_some_iff.mp e3
 rw [e4] at ok1
 exact not_value (z0w e5 r1 fun tk=>ok1.now ws1 rfl)
theorem zfm (r:R V):tst (r.bind fun v σ=>R.lift ((truthV v).map fun b=> .t (.bool (!b))) σ)=(tst r).bind fun b σ=> .ok (!b) σ:=by
 cases r with
 | ok v σ=>
  show R.bind (R.lift ((truthV v).map fun b=>V.t (.bool (!b))) σ) _=R.bind (R.lift (truthV v) σ) _
  cases truthV v with
  | none=>rfl
  | some b=>rfl
 | exc σ=>rfl
 | bot=>rfl
theorem z92 {α:Type} (r:R V) (f g:St→R α):(r.bind fun v σ=>match truthV v with
 | some true=>f σ
 | some false=>g σ
 | none=> .bot)=(tst r).bind fun b σ=>if b then f σ else g σ:=by
 cases r with
 | ok v σ=>
  show (match truthV v with
   | some true=>f σ
   | some false=>g σ
   | none=> .bot)=R.bind (R.lift (truthV v) σ) _
  cases truthV v with
  | none=>rfl
  | some b=>cases b<;>rfl
 | exc σ=>rfl
 | bot=>rfl
theorem zis (r:R V) (f g:St→R V):tst (r.bind fun v σ=>match truthV v with
 | some true=>f σ
 | some false=>g σ
 | none=> .bot)=(tst r).bind fun b σ=>if b then tst (f σ) else tst (g σ):=by
 rw [z92]
 cases tst r with
 | ok b σ=>cases b<;>rfl
 | exc σ=>rfl
 | bot=>rfl
theorem zit (r:R V) (f:St→R V):tst (r.bind fun v σ=>match truthV v with
 | some true=>f σ
 | some false=> .ok v σ
 | none=> .bot)=(tst r).bind fun b σ=>if b then tst (f σ) else .ok false σ:=by
 cases r with
 | ok v σ=>
  show tst (match truthV v with
   | some true=>f σ
   | some false=> .ok v σ
   | none=> .bot)=R.bind (R.lift (truthV v) σ) _
  cases et:truthV v with
  | none=>rfl
  | some b=>
   cases b with
   | true=>rfl
   | false=>(show R.lift (truthV v) σ=_;rw [et];rfl)
 | exc σ=>rfl
 | bot=>rfl
theorem or_tv (r:R V) (f:St→R V):tst (r.bind fun v σ=>match truthV v with
 | some true=> .ok v σ
 | some false=>f σ
 | none=> .bot)=(tst r).bind fun b σ=>if b then .ok true σ else tst (f σ):=by
 cases r with
 | ok v σ=>
  show tst (match truthV v with
   | some true=> .ok v σ
   | some false=>f σ
   | none=> .bot)=R.bind (R.lift (truthV v) σ) _
  cases et:truthV v with
  | none=>rfl
  | some b=>
   cases b with
   | true=>(show R.lift (truthV v) σ=_;rw [et];rfl)
   | false=>rfl
 | exc σ=>rfl
 | bot=>rfl
theorem zb8 {e:Expr} {x:X} {pos:Pos} (h:SndB prog w HB tb Φ n C e x):SndB prog w HB tb Φ n C (.UnaryOp .Not e pos) (.not x):=by
 intro A s Z μ rest σ env L m ρ g z eo ws lc hb Q E ok ex
 rw [den_9] at ok hb ex
 rw [zfm] at ok hb ex
 refine wpAny_isTrue_Not ?_
 refine (h g z eo ws lc).bind hb ok ex fun a σ1 Z1 μ1 h1 tk1 v e1 z1 p1 ws1 r1 hb1 ok1 ex1=>?_
 obtain rfl:a=v:=r1
 exact ok1.now (tk:=tk1) ws1 rfl
theorem zfn {c a b:Expr} {x y u:X} {pos:Pos} (hc:SndB prog w HB tb Φ n C c x) (ha:SndE prog w HB tb Φ n C a y) (hb':SndE prog w HB tb Φ n C b u):SndE prog w HB tb Φ n C (.IfExp c a b pos) (.ite x y u):=by
 intro A s Z μ rest σ env L m ρ g z eo ws lc hb Q E ok ex
 have re:den tb Φ (.ite x y u) ρ σ=(tst (den tb Φ x ρ σ)).bind fun b σ=>if b then den tb Φ y ρ σ else den tb Φ u ρ σ:=by
  rw [zdl];exact z92 _ _ _
 rw [re] at ok hb ex
 refine wpAny_IfExp ?_
 refine (hc g z eo ws lc).bind hb ok ex fun t σ1 Z1 μ1 h1 tk1 v e1 z1 p1 ws1 r1 hb1 ok1 ex1=>?_
 obtain rfl:t=v:=r1
 cases t with
 | true=>exact ha g (z.trans z1) eo ws1 (lc.mono z1 p1) hb1 _ _ ok1 ex1
 | false=>exact hb' g (z.trans z1) eo ws1 (lc.mono z1 p1) hb1 _ _ ok1 ex1
inductive Bools (prog:Program) (w:World) (HB:Heap) (tb:Tabs) (Φ:Nat→List V→St→R V) (n:Nat) (C:Cx):BoolOp→List Expr→X→Prop
 | one {op e x}:SndE prog w HB tb Φ n C e x→SndB prog w HB tb Φ n C e x→Bools prog w HB tb Φ n C op [e] x
 | and {e x es xs}:SndE prog w HB tb Φ n C e x→SndB prog w HB tb Φ n C e x→Bools prog w HB tb Φ n C .And es xs→es≠[]→Bools prog w HB tb Φ n C .And (e :: es) (.and x xs)
 | or {e x es xs}:SndE prog w HB tb Φ n C e x→SndB prog w HB tb Φ n C e x→Bools prog w HB tb Φ n C .Or es xs→es≠[]→Bools prog w HB tb Φ n C .Or (e :: es) (.or x xs)
theorem z6q {op:BoolOp} {es:List Expr} {x:X} (h:Bools prog w HB tb Φ n C op es x) :
  ∀ {A:Around} {s:Shared} {Z:Heap} {μ:List SA} {rest:Outs} {σ:St} {env:Env} {L:Addr} {m:Str→Option Value} {ρ:List V} (pos:Pos),
  Gd n A (L :: nsA rest)→Sub HB Z→EnvOk C env L→WS Z σ μ ((L,.ns m) :: rest) s.heap→Lc C env Z μ m ρ →
  SpV prog w A (boolOp pos op (evalEach es env)) s Z μ ((L,.ns m) :: rest) (den tb Φ x ρ σ)∧Sp prog w A RepB (allTrue op es env) s Z μ ((L,.ns m) :: rest) (tst (den tb Φ x ρ σ)):=by
 induction h with
 | @one op e x h1 h2=>
  intro A s Z μ rest σ env L m ρ pos g z eo ws lc
  refine ⟨h1 g z eo ws lc,fun hb Q E ok ex=>?_⟩
  have key:wpAny (model prog w) A (isTrue e env (eval e env)) Q E s:=h2 g z eo ws lc hb Q E ok ex
  cases op with
  | And=>
   refine wpAny_allTrue_And_cons (wpAny_mono key (fun b s1 hq=>?_) fun _ _ x=>x)
   cases b
   ·exact hq
   ·exact wpAny_allTrue_And_nil hq
  | Or=>
   refine wpAny_allTrue_Or_cons (wpAny_mono key (fun b s1 hq=>?_) fun _ _ x=>x)
   cases b
   ·exact wpAny_allTrue_Or_nil hq
   ·exact hq
 | @and e x es xs h1 h2 _ hne ih=>
  intro A s Z μ rest σ env L m ρ pos g z eo ws lc
  constructor
  ·intro hb Q E ok ex
   rw [zdh] at ok hb ex
   obtain ⟨e2,es2,rfl⟩:=List.exists_cons_of_ne_nil hne
   show wpAny _ _ (eval e env >>= _) _ _ _
   refine wpAny_bind ?_
   refine (h1 g z eo ws lc).bind hb ok ex fun a σ1 Z1 μ1 h1' tk1 v e1 z1 p1 ws1 r1 hb1 ok1 ex1=>?_
   refine wpAny_bind (wpAny_standAt (wpAny_bind (wpAny_holding ?_)))
   cases et:truthV a with
   | none=>rw [et] at hb1;exact (hb1 rfl).elim
   | some b=>
    rw [et] at hb1 ok1 ex1
    cases b with
    | true=>exact z0w et r1 fun tk=>(ih (s:={ s with heap:=h1',toks:=tk }) pos g (z.trans z1) eo ws1 (lc.mono z1 p1)).1 hb1 Q E ok1 ex1
    | false=>exact z0w et r1 fun tk=>wpAny_pure (ok1.now (tk:=tk) ws1 r1)
  ·intro hb Q E ok ex
   have re:tst (den tb Φ (.and x xs) ρ σ)=(tst (den tb Φ x ρ σ)).bind fun b σ=>if b then tst (den tb Φ xs ρ σ) else .ok false σ:=by
    rw [zdh];exact zit _ _
   rw [re] at hb ok ex
   refine wpAny_allTrue_And_cons ?_
   refine (h2 g z eo ws lc).bind hb ok ex fun t σ1 Z1 μ1 h1' tk1 v e1 z1 p1 ws1 r1 hb1 ok1 ex1=>?_
   obtain rfl:t=v:=r1
   cases t with
   | true=>exact (ih (s:={ s with heap:=h1',toks:=tk1 }) pos g (z.trans z1) eo ws1 (lc.mono z1 p1)).2 hb1 Q E ok1 ex1
   | false=>exact ok1.now (tk:=tk1) ws1 rfl
 | @or e x es xs h1 h2 _ hne ih=>
  intro A s Z μ rest σ env L m ρ pos g z eo ws lc
  constructor
  ·intro hb Q E ok ex
   rw [zdi] at ok hb ex
   obtain ⟨e2,es2,rfl⟩:=List.exists_cons_of_ne_nil hne
   show wpAny _ _ (eval e env >>= _) _ _ _
   refine wpAny_bind ?_
   refine (h1 g z eo ws lc).bind hb ok ex fun a σ1 Z1 μ1 h1' tk1 v e1 z1 p1 ws1 r1 hb1 ok1 ex1=>?_
   refine wpAny_bind (wpAny_standAt (wpAny_bind (wpAny_holding ?_)))
   cases et:truthV a with
   | none=>rw [et] at hb1;exact (hb1 rfl).elim
   | some b=>
    rw [et] at hb1 ok1 ex1
    cases b with
    | false=>exact z0w et r1 fun tk=>(ih (s:={ s with heap:=h1',toks:=tk }) pos g (z.trans z1) eo ws1 (lc.mono z1 p1)).1 hb1 Q E ok1 ex1
    | true=>exact z0w et r1 fun tk=>wpAny_pure (ok1.now (tk:=tk) ws1 r1)
  ·intro hb Q E ok ex
   have re:tst (den tb Φ (.or x xs) ρ σ)=(tst (den tb Φ x ρ σ)).bind fun b σ=>if b then .ok true σ else tst (den tb Φ xs ρ σ):=by
    rw [zdi];exact or_tv _ _
   rw [re] at hb ok ex
   refine wpAny_allTrue_Or_cons ?_
   refine (h2 g z eo ws lc).bind hb ok ex fun t σ1 Z1 μ1 h1' tk1 v e1 z1 p1 ws1 r1 hb1 ok1 ex1=>?_
   obtain rfl:t=v:=r1
   cases t with
   | false=>exact (ih (s:={ s with heap:=h1',toks:=tk1 }) pos g (z.trans z1) eo ws1 (lc.mono z1 p1)).2 hb1 Q E ok1 ex1
   | true=>exact ok1.now (tk:=tk1) ws1 rfl
theorem z1q {op:BoolOp} {es:List Expr} {x:X} {pos:Pos} (h:Bools prog w HB tb Φ n C op es x):SndE prog w HB tb Φ n C (.BoolOp op es pos) x:=fun _ _ _ _ _ _ _ _ _ _ g z eo ws lc=>(z6q h pos g z eo ws lc).1
theorem z1f {op:BoolOp} {es:List Expr} {x:X} {pos:Pos} (h:Bools prog w HB tb Φ n C op es x):SndB prog w HB tb Φ n C (.BoolOp op es pos) x:=fun _ _ _ _ _ _ _ _ _ _ g z eo ws lc hb Q E ok ex=>wpAny_isTrue_BoolOp ((z6q h pos g z eo ws lc).2 hb Q E ok ex)
theorem zb9 {c a b:Expr} {x y u:X} {pos:Pos} (hc:SndB prog w HB tb Φ n C c x) (ha:SndB prog w HB tb Φ n C a y) (hb':SndB prog w HB tb Φ n C b u):SndB prog w HB tb Φ n C (.IfExp c a b pos) (.ite x y u):=by
 intro A s Z μ rest σ env L m ρ g z eo ws lc hb Q E ok ex
 have re:tst (den tb Φ (.ite x y u) ρ σ)=(tst (den tb Φ x ρ σ)).bind fun b σ=>if b then tst (den tb Φ y ρ σ) else tst (den tb Φ u ρ σ):=by
  rw [zdl];exact zis _ _ _
 rw [re] at ok hb ex
 rw [arm_isTrue_IfExp]
 refine wpAny_bind ?_
 refine (hc g z eo ws lc).bind hb ok ex fun t σ1 Z1 μ1 h1 tk1 v e1 z1 p1 ws1 r1 hb1 ok1 ex1=>?_
 obtain rfl:t=v:=r1
 cases t with
 | true=>exact ha g (z.trans z1) eo ws1 (lc.mono z1 p1) hb1 _ _ ok1 ex1
 | false=>exact hb' g (z.trans z1) eo ws1 (lc.mono z1 p1) hb1 _ _ ok1 ex1
theorem z93 {es:List Expr} {xs:X} {k:Nat} {pos:Pos} (h:SndL prog w HB tb Φ n C es xs):SndE prog w HB tb Φ n C (.Tuple es k pos) (.tup xs):=by
 intro A s Z μ rest σ env L m ρ g z eo ws lc hb Q E ok ex
 rw [den_4] at ok hb ex
 refine wpAny_Tuple ?_
 refine (h pos g z eo ws lc).bind hb ok ex fun vs σ1 Z1 μ1 h1 tk1 us e1 z1 p1 ws1 r1 hb1 ok1 ex1=>?_
 cases et:treesV vs with
 | none=>simp only [et] at hb1;exact (hb1 rfl).elim
 | some ts=>
  simp only [et] at hb1 ok1
  by_cases hl:ts.length≤lineS
  ·rw [if_pos hl] at ok1
   have rt:=r1.trees et
   refine ⟨by rw [← rt.length];exact Nat.le_trans hl z0i,?_⟩
   obtain ⟨Z',zz,w',gg,_⟩:=z0v (s:={ s with heap:=h1,toks:=tk1 }) (o:={ cls:= .type "tuple",data:= .seq us.toArray }) ws1 rfl
   exact ok1.at (tk:=tk1) zz (Pre.refl _) w' ⟨_,_,rfl,⟨_,gg,rfl,_,rfl⟩,by simpa using rt.mono zz,hl⟩
  ·rw [if_neg hl] at hb1;exact (hb1 rfl).elim
theorem zba {es:List Expr} {xs:X} {pos:Pos} (h:SndL prog w HB tb Φ n C es xs):SndE prog w HB tb Φ n C (.List es pos) (.lst xs):=by
 intro A s Z μ rest σ env L m ρ g z eo ws lc hb Q E ok ex
 rw [den_5] at ok hb ex
 refine wpAny_List ?_
 refine (h pos g z eo ws lc).bind hb ok ex fun vs σ1 Z1 μ1 h1 tk1 us e1 z1 p1 ws1 r1 hb1 ok1 ex1=>?_
 by_cases hl:vs.length≤lineS
 ·rw [if_pos hl] at ok1
  obtain ⟨w3,r3,p3⟩:=z1y ws1 r1 hl
  exact ⟨by rw [← r1.length];exact Nat.le_trans hl z0i,ok1.at (tk:=tk1) (Sub.refl _) p3 w3 r3⟩
 ·rw [if_neg hl] at hb1;exact (hb1 rfl).elim
end
end Mine.Internal
namespace Mine.Internal
open PySem PySem.W PySem.Calls PyProof.Rows PySem.SeqAt
variable [PH]
section
variable {prog:Program} {w:World} {HB:Heap} {K:Frag} {mg mb:Str→Option Value} {tb:Tabs} {Φ:Nat→List V→St→R V} {n:Nat} {C:Cx}
theorem ziu {σ:St} {i j:Nat} {r:Bool} (h:(match σ[i]?,σ[j]? with
  | some (.list l),some (.list [])=>some l.isEmpty
  | _,_=>Option.none)=some r):∃ l,σ[i]? = some (.list l) ∧ σ[j]? = some (.list [])∧r=l.isEmpty:=by
 cases e : σ[i]? with
 | none=>rw [e] at h;exact nS h
 | some o=>
 rw [e] at h
 cases o with
 | inst=>exact nS h
 | list l=>
 cases e' : σ[j]? with
 | none=>rw [e'] at h;exact nS h
 | some o=>
 rw [e'] at h
 cases o with
 | inst=>exact nS h
 | list l'=>
 cases l' with
 | nil=>exact ⟨l,rfl,rfl,(Option.some.inj h).symm⟩
 | cons=>exact nS h
theorem z1z (G:Ground prog HB K mg mb tb) {A:Around} {E:Value→Shared→Prop} {s:Shared} {Z:Heap} {μ:List SA} {outs:Outs} {σ:St} {fs:List Addr} (g:Gd n A fs) (z:Sub HB Z) (ws:WS Z σ μ outs s.heap)
  {op:Nat} {o:CmpOp} {x y:V} {r:Bool} {a b:Value} {Q:Value→Shared→Prop} (ho:cmpOf op=some o) (e:cmpV σ op x y=some r) (ra:RepV Z μ x a) (rb:RepV Z μ y b) (q:Q (.bool r) s):wpAny (model prog w) A (compareOp o a b) Q E s:=by
 have hu:=g.u100
 cases x with
 | t x=>
  cases y with
  | t y=>
   refine zfg ho e ra rb ws.keep hu (fun c l d hc ex ey=>?_) q
   subst ex ey
   obtain ⟨aa,dd,sl,es,nn,rfl,h1,h2,_⟩:=ra
   obtain ⟨tk,rfl,_⟩:=rb
   have X:K.In s.heap:=G.frag.keeps (z.trans ws.keep)
   have I:InstAt s.heap aa ⟨.ref (caddr c),some dd,.plain,sl⟩ (caddr c) (some (dictOf es nn)):=⟨ws.keep _ _ h1,rfl,rfl,ws.keep _ _ h2⟩
   exact ⟨z5x X I rfl (G.cmps c hc) hu,z5y X I rfl (G.cmps c hc) hu⟩
  | ref j=>exact nS e
  | undef=>exact nS e
 | ref i=>
  cases y with
  | ref j=>
   obtain ⟨hop,e'⟩:=ite_o e
   subst hop
   obtain rfl:=Option.some.inj ho
   obtain ⟨l,ei,ej,rfl⟩:=ziu e'
   clear e e'
   obtain ⟨aa,vs,rfl,_,g1,rv1,_⟩:=z0q ws ra ei
   obtain ⟨ab,us,rfl,_,g2,rv2,_⟩:=z0q ws rb ej
   have l1:=rv1.length
   have l2:=rv2.length
   cases l with
   | nil=>
    have h1:vs=[]:=List.length_eq_zero_iff.mp l1.symm
    have h2:us=[]:=List.length_eq_zero_iff.mp l2.symm
    subst h1 h2
    have:=RcAt.lists (A:=A) (s:=s) (e:=fun _=>true) g1.isList g2.isList rfl (by omega) (fun j h1=>absurd h1 (by simp))
    exact z2x this (by simpa using q)
   | cons v r=>
    have h2:us=[]:=List.length_eq_zero_iff.mp l2.symm
    subst h2
    refine z2x (RcAt.lists_lengths g1.isList g2.isList ?_ (by omega)) q
    simp only [List.length_cons] at l1
    simp [← l1]
  | t _=>exact nS e
  | undef=>exact nS e
 | undef=>exact nS e
theorem zfo (G:Ground prog HB K mg mb tb) {l r:Expr} {op:Nat} {o:CmpOp} {x y:X} {pos:Pos} (ho:cmpOf op=some o) (hm:behindInMarks o r=false) (hl:SndE prog w HB tb Φ n C l x) (hr:SndE prog w HB tb Φ n C r y):SndE prog w HB tb Φ n C (.Compare l [o] [r] pos) (.cmp op x y):=by
 intro A s Z μ rest σ env L m ρ g z eo ws lc hb Q E ok ex
 rw [zdj] at ok hb ex
 refine wpAny_Compare1 ?_ hm
 refine (hl g z eo ws lc).bind hb ok ex fun a σ1 Z1 μ1 h1 tk1 v e1 z1 p1 ws1 r1 hb1 ok1 ex1=>?_
 refine (hr g (z.trans z1) eo ws1 (lc.mono z1 p1)).bind hb1 ok1 ex1 fun b σ2 Z2 μ2 h2 tk2 u e2 z2 p2 ws2 r2 hb2 ok2 ex2=>?_
 obtain ⟨t,e3,e4⟩:=z0y hb2
 obtain ⟨t',e5,rfl⟩:=Option.map_eq_some_iff.mp e3
 rw [e4] at ok2
 exact z1z (s:={ s with heap:=h2,toks:=tk2 }) G g ((z.trans z1).trans z2) ws2 ho e5 (r1.mono z2 p2) r2 (ok2.now (tk:=tk2) ws2 rfl)
theorem zbb (G:Ground prog HB K mg mb tb) {l r:Expr} {op:Nat} {o:CmpOp} {x y:X} {pos:Pos} (ho:cmpOf op=some o) (hm:behindInMarks o r=false) (hl:SndE prog w HB tb Φ n C l x) (hr:SndE prog w HB tb Φ n C r y):SndB prog w HB tb Φ n C (.Compare l [o] [r] pos) (.cmp op x y):=by
 intro A s Z μ rest σ env L m ρ g z eo ws lc hb Q E ok ex
 have re:tst (den tb Φ (.cmp op x y) ρ σ)=(den tb Φ x ρ σ).bind fun v σ=>(den tb Φ y ρ σ).bind fun u σ=>R.lift (cmpV σ op v u) σ:=by
  rw [zdj]
  cases den tb Φ x ρ σ with
  | ok v σ1=>
   show tst (R.bind (den tb Φ y ρ σ1) _)=R.bind (den tb Φ y ρ σ1) _
   cases den tb Φ y ρ σ1 with
   | ok u σ2=>
    show tst (R.lift ((cmpV σ2 op v u).map _) σ2)=R.lift (cmpV σ2 op v u) σ2
    cases cmpV σ2 op v u<;>rfl
   | exc σ=>rfl
   | bot=>rfl
  | exc σ=>rfl
  | bot=>rfl
 rw [re] at ok hb ex
 refine wpAny_isTrue_Compare1 ?_ hm
 refine (hl g z eo ws lc).bind hb ok ex fun a σ1 Z1 μ1 h1 tk1 v e1 z1 p1 ws1 r1 hb1 ok1 ex1=>?_
 refine (hr g (z.trans z1) eo ws1 (lc.mono z1 p1)).bind hb1 ok1 ex1 fun b σ2 Z2 μ2 h2 tk2 u e2 z2 p2 ws2 r2 hb2 ok2 ex2=>?_
 obtain ⟨t,e3,e4⟩:=z0y hb2
 rw [e4] at ok2
 exact z1z (s:={ s with heap:=h2,toks:=tk2 }) G g ((z.trans z1).trans z2) ws2 ho e3 (r1.mono z2 p2) r2 (wpAny_truthy_bool (ok2.now (tk:=tk2) ws2 rfl))
theorem zbc (G:Ground prog HB K mg mb tb) {l r r':Expr} {x y u:X} {pos:Pos} (hm:lastMarks [.LtE,.LtE] [r,r']=false) (hl:SndE prog w HB tb Φ n C l x) (hr:SndE prog w HB tb Φ n C r y) (hr':SndE prog w HB tb Φ n C r' u):SndE prog w HB tb Φ n C (.Compare l [.LtE,.LtE] [r,r'] pos) (.cmp2 x y u):=by
 intro A s Z μ rest σ env L m ρ g z eo ws lc hb Q E ok ex
 rw [zdk] at ok hb ex
 refine Compare_chain ?_ hm
 refine (hl g z eo ws lc).bind hb ok ex fun a σ1 Z1 μ1 h1 tk1 v e1 z1 p1 ws1 r1 hb1 ok1 ex1=>?_
 refine chain_link ?_
 refine (hr g (z.trans z1) eo ws1 (lc.mono z1 p1)).bind hb1 ok1 ex1 fun b σ2 Z2 μ2 h2 tk2 u2 e2 z2 p2 ws2 r2 hb2 ok2 ex2=>?_
 cases ec:cmpV σ2 3 a b with
 | none=>rw [ec] at hb2;exact (hb2 rfl).elim
 | some t=>
  rw [ec] at hb2 ok2 ex2
  refine z1z (s:={ s with heap:=h2,toks:=tk2 }) G g ((z.trans z1).trans z2) ws2 (op:=3) rfl ec (r1.mono z2 p2) r2 (wpAny_truthy_bool ?_)
  cases t with
  | false=>exact ok2.now (tk:=tk2) ws2 rfl
  | true=>
   rw [if_pos rfl]
   refine chain_last ?_
   refine (hr' (s:={ s with heap:=h2,toks:=tk2 }) g ((z.trans z1).trans z2) eo ws2 ((lc.mono z1 p1).mono z2 p2)).bind hb2 ok2 ex2 fun d σ3 Z3 μ3 h3 tk3 u3 e3 z3 p3 ws3 r3 hb3 ok3 ex3=>?_
   obtain ⟨t,e3,e4⟩:=z0y hb3
   obtain ⟨t',e5,rfl⟩:=Option.map_eq_some_iff.mp e3
   rw [e4] at ok3
   exact z1z (s:={ s with heap:=h3,toks:=tk3 }) G g (((z.trans z1).trans z2).trans z3) ws3 (op:=3) rfl e5 (r2.mono z3 p3) r3 (ok3.now (tk:=tk3) ws3 rfl)
noncomputable def plainBase:Expr→Bool
 | .Call (.Name _ _) [] [] _=>false
 | _=>true
theorem z1j {o:Expr} {a:Str} {env:Env} {whole:Sem Value} (h:plainBase o=true):attributeBase o a env whole=whole:=by
 cases o<;>first | rfl | skip
 rename_i f l m p
 cases f<;>first | rfl | skip
 cases l<;>first | rfl | skip
 cases m<;>first | rfl | exact (Bool.false_ne_true h).elim
theorem z94 {f:Nat} {fs:List Nat}:∀ {es:List DictEntry} {k j:Nat},Keyed fs es→posOf f fs k=some j→(∀ g∈fs,aname g=aname f→g=f)→k≤j∧∃ e,es[j - k]? = some e∧es.find? (·.key.isStr (aname f))=some e:=by
 induction fs with
 | nil=>intro _ _ _ _ h;exact nS h
 | cons g fs ih=>
  intro es k j h0 h hi
  cases es with
  | nil=>exact h0.elim
  | cons e es=>
   obtain ⟨⟨t,he⟩,hk⟩:=h0
   replace h:(if g=f then some k else posOf f fs (k + 1))=some j:=h
   by_cases hg:g=f
   ·rw [if_pos hg] at h
    obtain rfl:=Option.some.inj h
    subst hg
    refine ⟨Nat.le_refl _,e,by rw [Nat.sub_self];rfl,?_⟩
    rw [List.find?_cons,he]
    simp [Value.isStr]
   ·rw [if_neg hg] at h
    obtain ⟨h1,e',h2,h3⟩:=ih hk h (fun g' hg'=>hi g' (.tail _ hg'))
    refine ⟨Nat.le_of_succ_le h1,e',?_,?_⟩
    ·have:j - k=(j - (k + 1)) + 1:=by omega
     rw [this];exact h2
    ·rw [List.find?_cons,he]
     have:(Value.str (aname g) t).isStr (aname f)=false:=beq_eq_false_iff_ne.mpr fun q=>hg (hi g (.head _) q)
     rw [this];exact h3
end
end Mine.Internal
namespace Mine.Internal
open PySem PySem.W PySem.Calls PyProof.Rows PySem.SeqAt PySem.Builtin.Str
variable [PH]
structure ClsOk (K:Frag) (c:Nat):Prop where
 ga:findIn K (.ref (caddr c)) "__getattribute__" = some (some (.builtin "object.__getattribute__"))∧findIn K (.ref (caddr c)) "__getattr__" = some none
 hd:hasDictIn K (caddr c)=true
 no:∀ f∈fieldsOf c,findIn K (.ref (caddr c)) (aname f)=some none
 apart:∀ f∈fieldsOf c,∀ g∈fieldsOf c,aname g=aname f→g=f
section
variable {prog:Program} {w:World} {HB:Heap} {K:Frag} {mg mb:Str→Option Value} {tb:Tabs} {Φ:Nat→List V→St→R V} {n:Nat} {C:Cx}
theorem z31:∀ {fs:List Nat} {f k j:Nat},posOf f fs k=some j→f∈fs
 | [],_,_,_,h=>by simp [posOf] at h
 | g :: fs,f,k,j,h=>by
  unfold posOf at h
  split at h
  ·rename_i e;subst e;exact .head _
  ·exact .tail _ (z31 h)
theorem z20:∀ {fs:List Nat} {f k j m:Nat},posOf f fs k=some j→j < k+m→posOf f (fs.take m) k=some j
 | [],_,_,_,_,h,_=>by simp [posOf] at h
 | g :: fs,f,k,j,m,h,hj=>by
  cases m with
  | zero=>
   have:k≤j:=by
    have:∀ {fs:List Nat} {f k j:Nat},posOf f fs k=some j→k≤j:=by
     intro fs
     induction fs with
     | nil=>intro f k j h;simp [posOf] at h
     | cons g fs ih=>
      intro f k j h
      unfold posOf at h
      split at h
      ·injection h with h;omega
      ·have:=ih h;omega
    exact this h
   omega
  | succ m=>
   unfold posOf at h ⊢
   rw [List.take_succ_cons]
   simp only
   split
   ·rename_i e;rw [if_pos e] at h;exact h
   ·rename_i e;rw [if_neg e] at h;exact z20 h (by omega)
theorem z2d:∀ {fs:List Nat} {f k j:Nat},posOf f fs k=some j→k≤j∧j < k+fs.length
 | [],_,_,_,h=>by simp [posOf] at h
 | g :: fs,f,k,j,h=>by
  unfold posOf at h
  split at h
  ·injection h with h;subst h;simp
  ·have:=z2d h;simp only [List.length_cons];omega
theorem z21 {c f k j:Nat} (h:posOf f (fieldsOf c) k=some j):c < 12:=by
 by_cases hc:c < 12
 ·exact hc
 ·obtain ⟨d,rfl⟩:∃ d,c=d + 12:=⟨c - 12,by omega⟩
  exact nS h
theorem z4k {A:Around} {E:Value→Shared→Prop} {s:Shared} (X:K.In s.heap) {c:Nat} (co:ClsOk K c) {a d:Addr} {sl:Array (Option Value)} {es:List DictEntry} {nn j f:Nat} {fs:List Nat} {expr:Bool}
  (h1:s.heap.get? a=some ⟨.ref (caddr c),some d,.plain,sl⟩) (h2:s.heap.get? d=some (dictOf es nn)) (hk:Keyed fs es) (hs:∀ g∈fs,g∈fieldsOf c) (hp:posOf f fs 0=some j) {v:Value} (hv:(es.map (·.val))[j]? = some v) (hh:handedIn v=true)
  {Q:Value→Shared→Prop} (q:Q v { s with toks:=s.toks + 1 }):wpAny (model prog w) A (getAttr (.ref a) (aname f) expr) Q E s:=by
 have hm:f∈fieldsOf c:=hs _ (z31 hp)
 obtain ⟨_,e,h3,h4⟩:=z94 hk hp (fun g hg=>co.apart f hm g (hs g hg))
 simp only [Nat.sub_zero] at h3
 rw [List.getElem?_map,h3] at hv
 injection hv with hv
 have I:InstAt s.heap a ⟨.ref (caddr c),some d,.plain,sl⟩ (caddr c) (some (dictOf es nn)):=⟨h1,rfl,rfl,h2⟩
 refine get_value X I co.ga.1 (findObj_own co.hd (co.no f hm) rfl ?_) hh q
 rw [lookIn_dict]
 unfold getL
 rw [h4,← hv]
theorem z3e {Z:Heap} {μ:List SA} {v:V} {x:Value} (r:RepV Z μ v x):handedIn x=true:=by
 cases v with
 | undef=>exact r.elim
 | ref i=>obtain ⟨sa,_,rfl⟩:=r;rfl
 | t t=>
  cases t with
  | none=>obtain rfl:x = .none:=r;rfl
  | bool b=>obtain rfl:x = .bool b:=r;rfl
  | int i=>obtain ⟨t,rfl⟩:=r;rfl
  | str l=>obtain ⟨t,rfl,_⟩:=r;rfl
  | tup l=>obtain ⟨t,_,rfl,_⟩:=r;rfl
  | node c l=>obtain ⟨t,_,_,_,_,rfl,_⟩:=r;rfl
  | dict l=>obtain ⟨t,_,rfl,_⟩:=r;rfl
  | lst l=>obtain ⟨t,_,rfl,_⟩:=r;rfl
theorem zfp (G:Ground prog HB K mg mb tb) (cl:∀ c,c < 12→ClsOk K c) {A:Around} {E:Value→Shared→Prop} {s:Shared} {Z:Heap} {μ:List SA} {outs:Outs} {σ:St} (z:Sub HB Z) (ws:WS Z σ μ outs s.heap)
  {v u:V} {f:Nat} {a:Value} {expr:Bool} {Q:Value→Shared→Prop} (e:getA σ v f=some u) (r:RepV Z μ v a) (q:∀ tk val,RepV Z μ u val→Q val { s with toks:=tk }):wpAny (model prog w) A (getAttr a (aname f) expr) Q E s:=by
 have X:K.In s.heap:=G.frag.keeps (z.trans ws.keep)
 cases v with
 | undef=>exact r.elim
 | t t=>
  cases t with
  | node c l=>
   obtain ⟨j,h1,h2⟩:=Option.bind_eq_some_iff.mp e
   obtain ⟨t,h3,rfl⟩:=Option.map_eq_some_iff.mp h2
   obtain ⟨aa,d,sl,es,nn,rfl,g1,g2,g3,g4⟩:=r
   obtain ⟨val,h5,h6⟩:=g4.get h3
   exact z4k X (cl c (z21 h1)) (ws.keep _ _ g1) (ws.keep _ _ g2) g3 (fun _ h=>h) h1 h5 (z3e (μ:=μ) (v:= .t t) h6) (q _ _ h6)
  | _=>exact nS e
 | ref i=>
  obtain ⟨c,l,ei,e⟩:=z8v e
  obtain ⟨j,h1,h2⟩:=Option.bind_eq_some_iff.mp e
  obtain ⟨⟨aa,dd⟩,h3,rfl⟩:=r
  obtain ⟨d,es,nn,h4,g1,g2,g3,g4,g5⟩:=ws.rep i _ _ ei h3
  obtain ⟨val,h5,h6⟩:=g5.get h2
  have hj:j < l.length:=(List.getElem?_eq_some_iff.mp h2).1
  exact z4k X (cl c (z21 h1)) g1 g2 g3 (fun g h=>List.mem_of_mem_take h) (z20 h1 (by omega)) h5 (z3e h6) (q _ _ h6)
theorem zbd (G:Ground prog HB K mg mb tb) (cl:∀ c,c < 12→ClsOk K c) {e:Expr} {x:X} {f:Nat} {pos:Pos} {at_:Str} (hat:at_=aname f) (hp:plainBase e=true) (h:SndE prog w HB tb Φ n C e x):SndE prog w HB tb Φ n C (.Attribute e at_ pos) (.attr x f):=by
 subst hat
 intro A s Z μ rest σ env L m ρ g z eo ws lc hb Q E ok ex
 rw [zi8] at ok hb ex
 rw [arm_eval_Attribute,z1j hp]
 refine wpAny_bind ?_
 refine (h g z eo ws lc).bind hb ok ex fun a σ1 Z1 μ1 h1 tk1 v e1 z1 p1 ws1 r1 hb1 ok1 ex1=>?_
 obtain ⟨u,e3,e4⟩:=z0y hb1
 rw [e4] at ok1
 refine wpAny_bind (wpAny_standAt (wpAny_bind (wpAny_holding (zfp (s:={ s with heap:=h1,toks:=tk1 }) G cl (z.trans z1) ws1 e3 r1 fun tk val rv=>?_))))
 exact wpAny_bind (wpAny_letTemporaryGo (wpAny_pure (ok1.now (tk:=tk) ws1 rv)))
noncomputable def notSlice:Expr→Bool
 | .Slice _ _ _ _=>false
 | _=>true
theorem z16 {slice:Expr} {o i:Value} (h:notSlice slice=true):subscripted slice false o i=operate [o,i] (getItem o i):=by
 cases slice<;>first | rfl | exact (Bool.false_ne_true h).elim
theorem z32 {i:Int} {len:Nat} (h0 : 0≤i) (h1:i.toNat < len):seqIndex? i len=some i.toNat:=by
 have h2:¬ i < 0:=by omega
 have h3:i < len:=by omega
 simp [seqIndex?,h2,h0,h3]
theorem z2e {A:Around} {E:Value→Shared→Prop} {s:Shared} {T id:String} {o i:Value} {base:Expr} {Q:Value→Shared→Prop} (hT:s.TypeIs o T) (hl:typeLookup (.type T) "__getitem__" = pure (some (.builtin id))) {t:Sem Value}
  (ht:t=operate [o,i] (getItem o i)∨t=operate [i,o] (getItem o i)) {sl:Expr} (he:subscripted sl false o i=t)
  (h:wpAny (model prog w) A (getItem o i) Q E s):wpAny (model prog w) A (do let r ← subscripted sl (← getitemInPython o) o i;letTemporaryGo base o r;pure r) Q E s:=by
 refine wpAny_bind ?_
 unfold getitemInPython
 refine wpAny_bind (wpAny_specialOf hT hl ?_)
 refine wpAny_pure ?_
 rw [he]
 have fin:wpAny (model prog w) A (getItem o i) (fun r s₃=>wpAny (model prog w) A (letTemporaryGo base o r >>= fun _=>pure r) Q E s₃) E s :=
  wpAny_mono h (fun r s3 h3=>wpAny_bind (wpAny_letTemporaryGo (wpAny_pure h3))) fun _ _ x=>x
 rcases ht with rfl | rfl<;>exact wpAny_bind (wpAny_operate' fin)
theorem zfq {A:Around} {E:Value→Shared→Prop} {s:Shared} {Z:Heap} {μ:List SA} {outs:Outs} {σ:St} (ws:WS Z σ μ outs s.heap)
  {v u r:V} {a b:Value} {base sl:Expr} {Q:Value→Shared→Prop} (hs:notSlice sl=true) (e:idxV σ v u=some r) (ra:RepV Z μ v a) (rb:RepV Z μ u b) (q:∀ tk val,RepV Z μ r val→Q val { s with toks:=tk }) :
  wpAny (model prog w) A (do let r ← subscripted sl (← getitemInPython a) a b;letTemporaryGo base a r;pure r) Q E s:=by
 have zl:lineS = 1048576:=rfl
 cases v with
 | undef=>exact ra.elim
 | t x=>
  cases u with
  | t y=>
   obtain ⟨t,e1,rfl⟩:=Option.map_eq_some_iff.mp e
   cases x with
   | tup l=>
    cases y with
    | int i=>
     obtain ⟨h0,e1⟩:=ite_o e1
     obtain ⟨aa,vs,rfl,ht,rt,hl⟩:=ra
     obtain ⟨tk,rfl⟩:=rb
     have hi:i.toNat < l.length:=(List.getElem?_eq_some_iff.mp e1).1
     have ll:=rt.length
     simp only [Array.length_toList] at ll
     obtain ⟨val,h5,h6⟩:=rt.get e1
     refine z2e (IsTup.typeIs (IsTup.up ws.keep ht)) F.slot_tuple_getitem.lookup (.inl rfl) (z16 hs) ?_
     exact PyProof.Rows.getItem_tuple (j:=i.toNat) (x:=val) (IsTup.up ws.keep ht) (by omega) (by omega) (z32 h0 (by omega)) (by simpa using h5) (q s.toks val h6)
    | _=>exact nS e1
   | str l=>
    cases y with
    | int i=>
     obtain ⟨h0,e1⟩:=ite_o e1
     obtain ⟨c,e2,rfl⟩:=Option.map_eq_some_iff.mp e1
     obtain ⟨tk,rfl,hl⟩:=ra
     obtain ⟨tk2,rfl⟩:=rb
     have hi:i.toNat < l.length:=(List.getElem?_eq_some_iff.mp e2).1
     refine z2e (typeIs_str s _ _) F.slot_str_getitem.lookup (.inl rfl) (z16 hs) ?_
     refine P.getItem_str (c:=c) ?_ ?_ (q _ _ ⟨_,rfl,by simp [lineS]⟩)
     ·rw [decide_eq_false (by omega),decide_eq_false (by omega)];rfl
     ·rw [z32 h0 (by rw [z03];exact hi)]
      show (mkS l).cps[i.toNat]? = some c
      simpa [mkS] using e2
    | _=>exact nS e1
   | _=>exact nS e1
  | ref _=>exact nS e
  | undef=>exact nS e
 | ref i=>
  cases u with
  | t y=>
   cases y with
   | int k=>
    obtain ⟨l,ei,e⟩:=zdf e
    obtain ⟨aa,vs,rfl,_,g1,rv,hl⟩:=z0q ws ra ei
    obtain ⟨tk2,rfl⟩:=rb
    have ll:=rv.length
    refine z2e g1.isList.typeIs F.slot_list_getitem.lookup (.inl rfl) (z16 hs) ?_
    by_cases h0 : 0≤k
    ·rw [if_pos h0] at e
     obtain ⟨val,h5,h6⟩:=rv.get e
     have hi:k.toNat < l.length:=(List.getElem?_eq_some_iff.mp e).1
     exact wpAny_getItem_list g1.isList h0 (by omega) (by simpa using h5) (q s.toks val h6)
    ·rw [if_neg h0] at e
     obtain ⟨h1,e⟩:=ite_o e
     subst h1
     rw [List.getLast?_eq_getElem?] at e
     obtain ⟨val,h5,h6⟩:=rv.get e
     have hi:l.length - 1 < l.length:=(List.getElem?_eq_some_iff.mp e).1
     refine wpAny_getItem_list_neg (x:=val) g1.isList (by omega) (by simp;omega) (by omega) ?_ (q s.toks val h6)
     have:((-1:Int)+(vs.toArray.size:Int)).toNat=l.length - 1:=by simp only [List.size_toArray];omega
     rw [this];simpa using h5
   | _=>exact nS e
  | ref _=>exact nS e
  | undef=>exact nS e
theorem zfr {e i:Expr} {x y:X} {pos:Pos} (hs:notSlice i=true) (h:SndE prog w HB tb Φ n C e x) (h':SndE prog w HB tb Φ n C i y):SndE prog w HB tb Φ n C (.Subscript e i pos) (.idx x y):=by
 intro A s Z μ rest σ env L m ρ g z eo ws lc hb Q E ok ex
 rw [zi9] at ok hb ex
 rw [arm_eval_Subscript]
 refine wpAny_bind ?_
 refine (h g z eo ws lc).bind hb ok ex fun a σ1 Z1 μ1 h1 tk1 v e1 z1 p1 ws1 r1 hb1 ok1 ex1=>?_
 refine wpAny_bind (wpAny_holding ?_)
 refine (h' g (z.trans z1) eo ws1 (lc.mono z1 p1)).bind hb1 ok1 ex1 fun b σ2 Z2 μ2 h2 tk2 u e2 z2 p2 ws2 r2 hb2 ok2 ex2=>?_
 obtain ⟨t,e3,e4⟩:=z0y hb2
 rw [e4] at ok2
 exact wpAny_bind (wpAny_standAt (zfq (s:={ s with heap:=h2,toks:=tk2 }) ws2 hs e3 (r1.mono z2 p2) r2 fun tk val rv=>ok2.now (tk:=tk) ws2 rv))
end
end Mine.Internal
namespace Mine.Internal
open PySem PySem.W PySem.Calls PyProof.Rows PySem.SeqAt PySem.Builtin.Str PySem.StrLaws
variable [PH]
section
variable {prog:Program} {w:World} {HB:Heap} {K:Frag} {mg mb:Str→Option Value} {tb:Tabs} {Φ:Nat→List V→St→R V} {n:Nat} {C:Cx}
theorem z74 {l:List Nat} {t:Tok} {lo hi:Option (Int×Tok)} {a b:Nat} (hab:a≤b) (hb:b≤l.length) (hl:l.length≤lineS)
  (he:strSliceIndices (lo.map (·.1)) (hi.map (·.1)) 1 (mkS l).length=strSliceIndices (some (a:Int)) (some (b:Int)) 1 (mkS l).length) {Q:Value→Shared→Prop} {s:Shared}
  (q:∀ tk t',Q (.str (mkS ((l.take b).drop a)) t') { s with toks:=tk }):(sliceMade (mkS l) t lo hi none).post Q s:=by
 have hp:slicePicked (mkS l) lo hi none=(List.range (b - a)).map (fun k=>a+k):=by
  unfold slicePicked
  show strSliceIndices _ _ 1 _=_
  rw [he,strSliceIndices_plain hab (by rw [z03];exact hb)]
 have hf:(slicePicked (mkS l) lo hi none).filterMap ((mkS l).cps[·]?)=(l.take b).drop a:=by
  have:=sliced_plain (mkS l) hab (by rw [z03];exact hb)
  unfold slicePicked
  show (strSliceIndices _ _ 1 _).filterMap _=_
  rw [he,this,List.drop_take];rfl
 unfold sliceMade
 split
 ·rename_i h
  simp only [hp,List.length_map,List.length_range,z03,Bool.and_eq_true,beq_iff_eq] at h
  have h1:a = 0:=by omega
  have h2:b=l.length:=by omega
  have:(l.take b).drop a=l:=by rw [h1,h2];simp
  rw [this] at q
  exact q s.toks t
 ·rw [hf]
  refine ⟨?_,q _ _⟩
  show (mkS ((l.take b).drop a)).length≤sizeLine
  rw [z03]
  simp only [List.length_drop,List.length_take]
  have:=z0i
  omega
theorem ziv (lo:Option Int) (len:Nat):strSliceIndices lo none 1 len=strSliceIndices lo (some (len:Int)) 1 len:=by
 have h1:¬ ((len:Int) < 0):=by omega
 have e:max (0:Int) (min (len:Int) len)=len:=by omega
 simp only [strSliceIndices,h1,if_false,e,show ((1:Int) > 0)=True from by simp,if_true]
theorem ziw (hi:Option Int) (len:Nat):strSliceIndices none hi 1 len=strSliceIndices (some ((0:Nat):Int)) hi 1 len:=by
 have h1:¬ (((0:Nat):Int) < 0):=by omega
 have e:max (0:Int) (min ((0:Nat):Int) len) = 0:=by omega
 simp only [strSliceIndices,h1,if_false,e,show ((1:Int) > 0)=True from by simp,if_true]
noncomputable def SndO (prog:Program) (w:World) (HB:Heap) (tb:Tabs) (Φ:Nat→List V→St→R V) (n:Nat) (C:Cx) (e:Option Expr) (x:X):Prop :=
 (e=none∧x = .c .none)∨∃ e',e=some e'∧SndE prog w HB tb Φ n C e' x
theorem SndO.go {e:Option Expr} {x:X} (h:SndO prog w HB tb Φ n C e x) {A:Around} {s:Shared} {Z:Heap} {μ:List SA} {rest:Outs} {σ:St} {env:Env} {L:Addr} {m:Str→Option Value} {ρ:List V}
  (g:Gd n A (L :: nsA rest)) (z:Sub HB Z) (eo:EnvOk C env L) (ws:WS Z σ μ ((L,.ns m) :: rest) s.heap) (lc:Lc C env Z μ m ρ):SpV prog w A (evalPart e env) s Z μ ((L,.ns m) :: rest) (den tb Φ x ρ σ):=by
 rcases h with ⟨rfl,rfl⟩ | ⟨e',rfl,h⟩
 ·intro hb Q E ok ex
  rw [den_1] at ok
  rw [evalPart_none]
  exact wpAny_pure (ok.now (tk:=s.toks) ws rfl)
 ·rw [evalPart_some];exact h g z eo ws lc
inductive SlI (v u2 u3:Value):T→Prop
 | mk (l:List Nat) (tt:Tok) (lo hi:Option (Int×Tok)) (i j:Nat) (e0:v = .str (mkS l) tt) (hl:l.length≤lineS) (e1:u2=partValue lo) (e2:u3=partValue hi) (a3:i≤j) (a4:j≤l.length)
   (a6:strSliceIndices (lo.map (·.1)) (hi.map (·.1)) 1 (mkS l).length=strSliceIndices (some (i:Int)) (some (j:Int)) 1 (mkS l).length):SlI v u2 u3 (.str ((l.take j).drop i))
theorem zbe {Z:Heap} {a b c t:T} {v u2 u3:Value} (h:sliceT a b c=some t) (r1:RepT Z a v) (r2:RepT Z b u2) (r3:RepT Z c u3):SlI v u2 u3 t:=by
 cases a with
 | str l=>
  obtain ⟨tt,rfl,hl⟩:=r1
  have ml:(mkS l).length=l.length:=z03 l
  cases b with
  | int i=>
   obtain ⟨t2,rfl⟩:=r2
   cases c with
   | int j=>
    obtain ⟨t3,rfl⟩:=r3
    obtain ⟨⟨h0,h1,h2⟩,rfl⟩:=z1d h
    refine .mk l tt (some (i,t2)) (some (j,t3)) i.toNat j.toNat rfl hl rfl rfl (by omega) (by omega) ?_
    show strSliceIndices (some i) (some j) 1 _=_
    rw [Int.toNat_of_nonneg h0,Int.toNat_of_nonneg (by omega)]
   | none=>
    obtain rfl:u3 = .none:=r3
    obtain ⟨⟨h0,h1⟩,rfl⟩:=z1d h
    rw [show l.drop i.toNat=(l.take l.length).drop i.toNat by rw [List.take_length]]
    refine .mk l tt (some (i,t2)) none i.toNat l.length rfl hl rfl rfl (by omega) (Nat.le_refl _) ?_
    show strSliceIndices (some i) none 1 _=_
    rw [Int.toNat_of_nonneg h0,ml]
    exact ziv _ _
   | _=>exact nS h
  | none=>
   obtain rfl:u2 = .none:=r2
   cases c with
   | int j=>
    obtain ⟨t3,rfl⟩:=r3
    obtain ⟨⟨h0,h1⟩,rfl⟩:=z1d h
    refine .mk l tt none (some (j,t3)) 0 j.toNat rfl hl rfl rfl (Nat.zero_le _) (by omega) ?_
    show strSliceIndices none (some j) 1 _=_
    rw [Int.toNat_of_nonneg h0]
    exact ziw _ _
   | _=>exact nS h
  | _=>exact nS h
 | _=>exact nS h
theorem slR_c {σ:St} {Z:Heap} {μ:List SA} {a b c:V} {v u2 u3:Value} {P:R V→Prop} (r1:RepV Z μ a v) (r2:RepV Z μ b u2) (r3:RepV Z μ c u3) (bot:P .bot) (k:∀ t,SlI v u2 u3 t→P (.ok (.t t) σ)) :
  P (match (generalizing:=false) a,b,c with
   | .t x,.t y,.t z=>R.lift (Option.map V.t (sliceT x y z)) σ
   | _,_,_=>R.bot):=by
 cases a with
 | undef=>exact r1.elim
 | ref _=>exact bot
 | t a=>
 cases b with
 | undef=>exact r2.elim
 | ref _=>exact bot
 | t b=>
 cases c with
 | undef=>exact r3.elim
 | ref _=>exact bot
 | t c=>
 show P (R.lift (Option.map V.t (sliceT a b c)) σ)
 cases h:sliceT a b c with
 | none=>exact bot
 | some t=>exact k t (zbe h r1 r2 r3)
theorem z95 {e:Expr} {lo hi:Option Expr} {x y u:X} {p pos:Pos} (h:SndE prog w HB tb Φ n C e x) (h1:SndO prog w HB tb Φ n C lo y) (h2:SndO prog w HB tb Φ n C hi u):SndE prog w HB tb Φ n C (.Subscript e (.Slice lo hi none p) pos) (.slice x y u):=by
 intro A s Z μ rest σ env L m ρ g z eo ws lc hb Q E ok ex
 rw [zia] at ok hb ex
 rw [arm_eval_Subscript]
 refine wpAny_bind ?_
 refine (h g z eo ws lc).bind hb ok ex fun a σ1 Z1 μ1 h1' tk1 v e1 z1 p1 ws1 r1 hb1 ok1 ex1=>?_
 refine wpAny_bind (wpAny_holding (wpAny_Slice ?_))
 refine (h1.go g (z.trans z1) eo ws1 (lc.mono z1 p1)).bind hb1 ok1 ex1 fun b σ2 Z2 μ2 h2' tk2 u2 e2 z2 p2 ws2 r2 hb2 ok2 ex2=>?_
 refine (h2.go (s:={ s with heap:=h2',toks:=tk2 }) g ((z.trans z1).trans z2) eo ws2 ((lc.mono z1 p1).mono z2 p2)).bind hb2 ok2 ex2 fun c σ3 Z3 μ3 h3' tk3 u3 e3 z3 p3 ws3 r3 hb3 ok3 ex3=>?_
 rw [evalPart_none]
 refine wpAny_pure (wpAny_bind (wpAny_standAt ?_))
 refine slR_c (P:=fun r=>r ≠ .bot→KOk RepV _ _ _ _ r Q→wpAny (model prog w) A _ Q E _) ((r1.mono z2 p2).mono z3 p3) (r2.mono z3 p3) r3 (fun h=>(h rfl).elim) (fun t si _ ok3=>?_) hb3 ok3
 cases si with | mk l tt lo' hi' i j e0 hl a1 a2 a3 a4 a6=>
 subst e0
 generalize ho:({ cls:= .type "slice",data:= .fields #[u2,u3,.none] }:Obj)=o
 have hs:({ s with heap:=h3'.push o,toks:=tk3 }:Shared).heap.IsSlice h3'.objs.size lo' hi' none:=⟨o,Heap.get?_push_size _ (by rw [← ho];rfl),by rw [← ho],by rw [← ho,a1,a2];rfl⟩
 refine z2e (typeIs_str _ _ _) F.slot_str_getitem.lookup (.inr rfl) rfl ?_
 refine wpAny_getItem_str_slice hs rfl (z74 a3 a4 hl a6 fun tk t''=>?_)
 exact ok3.at (tk:=tk) (Sub.refl _) (Pre.refl _) (ws3.ext fun b o e=>Heap.get?_push_of_some _ e) ⟨_,rfl,Nat.le_trans (by rw [List.length_drop];exact Nat.sub_le _ _) (Nat.le_trans (List.length_take_le' ..) hl)⟩
end
end Mine.Internal
namespace Mine.Internal
open PySem PySem.W PySem.Calls PyProof.Rows PySem.SeqAt
variable [PH]
noncomputable def noStar (es:List Expr):Bool:=es.all fun e=>match e with | .Starred _ _=>false | _=>true
theorem z27 {e:Expr} (h:noStar [e]=true) (es:List Expr) (env:Env):starEach (e :: es) env=(false,eval e env) :: starEach es env:=by
 cases e<;>first | rfl | exact (Bool.false_ne_true h).elim
theorem z75 {env:Env} {es:List Expr}:noStar es=true→starEach es env=es.map fun e=>(false,eval e env):=by
 induction es with
 | nil=>exact fun _=>rfl
 | cons e es ih=>
  intro h
  unfold noStar at h
  rw [List.all_cons,Bool.and_eq_true] at h
  exact (z27 (by unfold noStar;rw [List.all_cons,h.1];rfl) es env).trans (congrArg _ (ih h.2))
theorem z0g {env:Env} {pos:Pos} {es:List Expr} (h:noStar es=true):backTo pos (starEach es env)=es.map fun e=>(false,eval e env):=by
 rw [z75 h]
 unfold backTo
 rw [List.map_map]
 rfl
theorem z0j {env:Env} {pos:Pos} {es:List Expr} (h:noStar es=true):(backTo pos (starEach es env)).any (·.1)=false:=by
 rw [z0g h,List.any_map]
 exact List.any_eq_false.mpr fun _ _=>by simp
theorem z07 {M:Model} {A:Around} {E:Value→Shared→Prop} {s:Shared} {env:Env} {pos:Pos} {es:List Expr} {f:Value} {Q:Args→Shared→Prop} (hn:noStar es=true)
  (h:wpAny M A (spliced (backTo pos (starEach es env))) (fun vs s'=>Q ⟨vs,[]⟩ s') E s):wpAny M A (evalArgs f true (backTo pos (starEach es env)) []) Q E s:=by
 rw [z0g hn] at h ⊢
 cases es with
 | nil=>
  unfold evalArgs
  show wpAny M A (spliced [] >>= _) Q E s
  refine wpAny_bind (wpAny_mono h (fun vs s' h'=>?_) fun _ _ x=>x)
  refine wpAny_bind (wpAny_pure ?_)
  refine wpAny_holding ?_
  exact wpAny_bind (wpAny_pure (wpAny_bind (wpAny_pure (wpAny_pure h'))))
 | cons e es=>exact evalArgs_plain h
section
variable {prog:Program} {w:World} {HB:Heap} {K:Frag} {mg mb:Str→Option Value} {tb:Tabs} {Φ:Nat→List V→St→R V} {n:Nat} {C:Cx} {fa:Nat→Addr}
theorem Gd.c {A:Around} {fs:List Addr} (g:Gd n A fs):Gc n A fs:=⟨g.hand,by have:=g.dep;omega,by have:=g.un;omega,let ⟨e,l,h,_,_,_,_,k⟩:=g.fr;⟨_,h,k⟩⟩
set_option backward.match.sparseCases true in
noncomputable def Back (Q:Value→Shared→Prop) (E:Value→Shared→Prop) (r:Result) (s':Shared):Prop:=match r with
 | .ok (.ret v)=>Q v s'
 | .ok _=>False
 | .error e=>E e s'
noncomputable def PhiOK (prog:Program) (w:World) (HB:Heap) (fa:Nat→Addr) (n:Nat) (Φ:Nat→List V→St→R V):Prop :=
 ∀ ⦃A:Around⦄ ⦃s:Shared⦄ ⦃Z:Heap⦄ ⦃μ:List SA⦄ ⦃outs:Outs⦄ ⦃σ:St⦄ ⦃f:Nat⦄ ⦃vs:List V⦄ ⦃args:List Value⦄,
  Gc n A (nsA outs)→Sub HB Z→WS Z σ μ outs s.heap→RepVs Z μ vs args→Φ f vs σ ≠ .bot→∀ (Q:Value→Shared→Prop) (E:Value→Shared→Prop),KOk RepV s Z μ outs (Φ f vs σ) Q→KExc s Z μ outs (Φ f vs σ) E →
  codeAny (model prog w) A (.call (.ref (fa f)) ⟨args,[]⟩) (Back Q E) s
theorem PhiOK.call (P:PhiOK prog w HB fa n Φ) {A:Around} {s:Shared} {Z:Heap} {μ:List SA} {outs:Outs} {σ:St} {f:Nat} {vs:List V} {args:List Value}
  (g:Gc n A (nsA outs)) (z:Sub HB Z) (ws:WS Z σ μ outs s.heap) (r:RepVs Z μ vs args):SpV prog w A (PySem.call (.ref (fa f)) args) s Z μ outs (Φ f vs σ) :=
 fun hb Q E ok ex=>wpAny_call (P g z ws r hb Q E ok ex)
theorem z96 (G:Ground prog HB K mg mb tb) (P:PhiOK prog w HB fa n Φ) {x:Str} {f:Nat} {p pos:Pos} {es:List Expr} {xs:X}
  (hm:mg x=some (.ref (fa f))) (hk:keepIn K (.ref (fa f))=true) (hx:C.scope.names.lookup x=some .globalImplicit) (hd:(x == ("__debug__" : Str))=false) (hn:noStar es=true) (h:SndL prog w HB tb Φ n C es xs) :
  SndE prog w HB tb Φ n C (.Call (.Name x p) es [] pos) (.callF f xs):=by
 intro A s Z μ rest σ env L m ρ g z eo ws lc hb Q E ok ex
 rw [zib] at ok hb ex
 have hkd:env.kindOf x=C.scope.names.lookup x:=by show env.scope.names.lookup x=_;rw [eo.scope]
 have hkf:env.scope.kind = .function:=by rw [eo.scope];exact eo.kind
 refine wpAny_Call_Name_kw (keywords:=[]) ?_
 refine Calls.Name_function_global hkf (hkd.trans hx) (Calls.loadGlobal_global (by rw [eo.glob];exact G.g.keeps (z.trans ws.keep)) hm ?_) hd
 refine callWith_of (P:=K.In) (by rw [z0j hn];rfl) (keeps_K hk) (z07 hn ?_)
 refine (h pos g z eo ws lc).bind hb ok ex fun vs σ1 Z1 μ1 h1 tk1 us e1 z1 p1 ws1 r1 hb1 ok1 ex1=>?_
 exact ⟨G.frag.keeps ((z.trans z1).trans ws1.keep),P.call (outs:=(L,.ns m) :: rest) g.c (z.trans z1) ws1 r1 hb1 Q E ok1 ex1⟩
structure MethIs (K:Frag) (fa:Nat→Addr) (name:Str) (c f:Nat):Prop where
 lt:c < 12
 find:findIn K (.ref (caddr c)) name=some (some (.ref (fa f)))
 fn:isFn K (.ref (fa f))=true
 keep:keepIn K (.ref (fa f))=true
 apart:∀ g∈fieldsOf c,aname g≠name
theorem z76 {name:Str} {fs:List Nat}:∀ {es:List DictEntry},Keyed fs es→(∀ g∈fs,aname g≠name)→getL name es=some none:=by
 induction fs with
 | nil=>
  intro es hk _
  cases es with
  | nil=>rfl
  | cons=>exact hk.elim
 | cons g fs ih=>
  intro es hk h
  cases es with
  | nil=>exact hk.elim
  | cons e es=>
   obtain ⟨⟨t,he⟩,hk⟩:=hk
   have ih:=ih hk (fun g' hg'=>h g' (.tail _ hg'))
   unfold getL at ih ⊢
   rw [List.find?_cons]
   have h1:e.key.isStr name=false:=by
    rw [he]
    exact beq_eq_false_iff_ne.mpr fun q=>h g (.head _) q
   have h2:e.refKey=false:=by simp [DictEntry.refKey,he]
   rw [h1]
   simp only [List.any_cons,h2,Bool.false_or]
   exact ih
theorem zfs {A:Around} {E:Value→Shared→Prop} {s:Shared} {Z:Heap} {μ:List SA} {outs:Outs} {σ:St} (X:K.In s.heap) (cl:∀ c,c < 12→ClsOk K c) (ws:WS Z σ μ outs s.heap) {name:Str} {c f:Nat} {v:V} {a:Value} {pl:Sem Bool} {Q:Value×List Value→Shared→Prop}
  (M:MethIs K fa name c f) (e:clsOf σ v=some c) (r:RepV Z μ v a) (q:Q (.ref (fa f),[a]) s):wpAny (model prog w) A (getMethod a name pl) Q E s:=by
 have co:=cl c M.lt
 have go:∀ (aa d:Addr) (sl:Array (Option Value)) (es:List DictEntry) (nn:Nat) (fs:List Nat),a = .ref aa→s.heap.get? aa=some ⟨.ref (caddr c),some d,.plain,sl⟩→s.heap.get? d=some (dictOf es nn)→Keyed fs es→(∀ g∈fs,g∈fieldsOf c) →
   wpAny (model prog w) A (getMethod a name pl) Q E s:=by
  intro aa d sl es nn fs ea h1 h2 hk hs
  subst ea
  have I:InstAt s.heap aa ⟨.ref (caddr c),some d,.plain,sl⟩ (caddr c) (some (dictOf es nn)):=⟨h1,rfl,rfl,h2⟩
  exact method_fn X I co.ga.1 co.ga.2 M.find (beq_iff_eq.mp M.fn) (by
   show (lookIn name (dictOf es nn)).map _=_
   rw [lookIn_dict,z76 hk fun g hg=>M.apart g (hs g hg)];rfl) q
 cases v with
 | undef=>exact r.elim
 | t t=>
  cases t with
  | node c' l=>
   obtain rfl:=Option.some.inj e
   obtain ⟨aa,d,sl,es,nn,rfl,g1,g2,g3,g4⟩:=r
   exact go aa d sl es nn _ rfl (ws.keep _ _ g1) (ws.keep _ _ g2) g3 (fun _ h=>h)
  | _=>exact nS e
 | ref i=>
  obtain ⟨c',l,ei,e⟩:=z8v (f:=fun c _=>some c) e
  obtain rfl:=Option.some.inj e
  obtain ⟨⟨aa,dd⟩,h3,rfl⟩:=r
  obtain ⟨d,es,nn,h4,g1,g2,g3,g4,g5⟩:=ws.rep i _ _ ei h3
  exact go aa d _ es nn _ rfl g1 g2 g3 (fun g h=>List.mem_of_mem_take h)
theorem z0s {A:Around} {E:Value→Shared→Prop} {s:Shared} {env:Env} {o:Expr} {name:Str} {apos pos:Pos} {es:List Expr} {Q:Value→Shared→Prop} (hp:plainBase o=true) (hl:(apos.endLine == pos.line)=true) (hn:noStar es=true) (hlen:es.length < 30)
  (h:wpAny (model prog w) A (eval o env) (fun ov s1=>wpAny (model prog w) A (getMethod ov name (do return (← importBound o env).getD true)) (fun p s2=>wpAny (model prog w) A (callWith pos p.1 p.2 (backTo pos (starEach es env)) []) Q E s2) E s1) E s) :
  wpAny (model prog w) A (eval (.Call (.Attribute o name apos) es [] pos) env) Q E s:=by
 rw [arm_eval_Call,z1j hp]
 refine wpAny_bind (wpAny_mono h (fun ov s1 h1=>wpAny_bind (wpAny_standAt ?_)) fun _ _ x=>x)
 have few:methodCallForm (es.length+([]:List Keyword).length) (backTo pos (starEach es env)) (backToKw pos (keywordEach [] env))=true:=by
  unfold methodCallForm
  rw [z0g hn,List.all_map]
  have kw:keywordEach [] env=[]:=by rfl
  simp [hlen,kw,backToKw]
 unfold methodCall
 rw [few]
 refine wpAny_bind (wpAny_holding (m:=calleeOf true o env ov name) ?_)
 show wpAny _ _ (getMethod ov name (do return (← importBound o env).getD true)) _ _ _
 refine wpAny_mono h1 (fun p s2 h2=>?_) fun _ _ x=>x
 obtain ⟨f,first⟩:=p
 have hpos:methodCallPos true o env apos pos=pure pos:=by
  unfold methodCallPos
  rw [hl];rfl
 dsimp only
 rw [hpos]
 exact wpAny_bind (wpAny_pure h2)
theorem z97 (G:Ground prog HB K mg mb tb) (cl:∀ c,c < 12→ClsOk K c) (P:PhiOK prog w HB fa n Φ) {o:Expr} {x:X} {name:Str} {mi:Nat} {apos pos:Pos} {es:List Expr} {xs:X} (hp:plainBase o=true) (hl:(apos.endLine == pos.line)=true) (hn:noStar es=true) (hlen:es.length < 30)
  (hm:∀ c f,tb.meth c mi=some f→MethIs K fa name c f) (ho:SndE prog w HB tb Φ n C o x) (h:SndL prog w HB tb Φ n C es xs):SndE prog w HB tb Φ n C (.Call (.Attribute o name apos) es [] pos) (.callM x mi xs):=by
 intro A s Z μ rest σ env L m ρ g z eo ws lc hb Q E ok ex
 rw [zic] at ok hb ex
 refine z0s hp hl hn hlen ?_
 refine (ho g z eo ws lc).bind hb ok ex fun v σ1 Z1 μ1 h1 tk1 a e1 z1 p1 ws1 r1 hb1 ok1 ex1=>?_
 cases ec:clsOf σ1 v with
 | none=>simp only [ec] at hb1;exact (hb1 rfl).elim
 | some c=>
  cases em:tb.meth c mi with
  | none=>simp only [ec,em] at hb1;exact (hb1 rfl).elim
  | some f=>
   simp only [ec,em] at hb1 ok1 ex1
   have M:=hm c f em
   refine zfs (s:={ s with heap:=h1,toks:=tk1 }) (G.frag.keeps ((z.trans z1).trans ws1.keep)) cl ws1 M ec r1 ?_
   refine callWith_of (P:=K.In) (by rw [z0j hn];rfl) (keeps_K M.keep) (z07 hn ?_)
   refine (h (s:={ s with heap:=h1,toks:=tk1 }) pos g (z.trans z1) eo ws1 (lc.mono z1 p1)).bind hb1 ok1 ex1 fun vs σ2 Z2 μ2 h2 tk2 us e2 z2 p2 ws2 r2 hb2 ok2 ex2=>?_
   exact ⟨G.frag.keeps (((z.trans z1).trans z2).trans ws2.keep),P.call (outs:=(L,.ns m) :: rest) g.c ((z.trans z1).trans z2) ws2 (show RepVs Z2 μ2 (v :: vs) (a :: us) from ⟨r1.mono z2 p2,r2⟩) hb2 Q E ok2 ex2⟩
end
end Mine.Internal
namespace Mine.Internal
open PySem PySem.W PySem.Calls PyProof.Rows PySem.SeqAt
variable [PH]
section
variable {prog:Program} {w:World} {HB:Heap} {K:Frag} {mg mb:Str→Option Value} {tb:Tabs} {Φ:Nat→List V→St→R V} {n:Nat} {C:Cx} {fa:Nat→Addr}
theorem z77 {A:Around} {fs:List Addr} {C:Addr} {vals:List Value} (g:Gd n A fs):Gc n (A.under (.builtin "type.__call__" ⟨.ref C :: vals,[]⟩)) fs:=by
 have e1:(Code.builtin "type.__call__" ⟨.ref C :: vals,[]⟩).weight = 1:=rfl
 have e2:(Code.builtin "type.__call__" ⟨.ref C :: vals,[]⟩).cUnits = 1:=rfl
 have d:=g.dep
 have u:=g.un
 obtain ⟨env,l,h,_,_,_,_,hk⟩:=g.fr
 refine ⟨g.hand,?_,?_,⟨env :: l,?_,hk⟩⟩
 ·show A.depth+(Code.builtin "type.__call__" ⟨.ref C :: vals,[]⟩).weight + 3 * n + 120 < _
  rw [e1];omega
 ·show A.units+(Code.builtin "type.__call__" ⟨.ref C :: vals,[]⟩).cUnits + 20 * n + 300 < _
  rw [e2];omega
 ·show pushEnvs (Code.builtin "type.__call__" ⟨.ref C :: vals,[]⟩).envs A.frames=some _
  rw [h];rfl
structure MakeIs (K:Frag) (fa:Nat→Addr) (k f:Nat):Prop where
 makes:makesIn K (caddr k)=true
 init:findIn K (.ref (caddr k)) "__init__" = some (some (.ref (fa f)))
 fn:typeIn K (.ref (fa f))=some (.type "function")
 keep:keepIn K (.ref (caddr k))=true
theorem zbf {σ:St} {μ μ':List SA} {x:SA} (hl : μ.length = σ.length) (p:Pre (μ++[x]) μ'):Pre μ (μ'.take σ.length):=fun i sa e=>by
 have hi:i < σ.length:=by rw [← hl];exact (List.getElem?_eq_some_iff.mp e).1
 rw [List.getElem?_take_of_lt hi]
 exact p i sa (by rw [List.getElem?_append_left (by omega)];exact e)
theorem z33 {Z h:Heap} {σ:St} {μ:List SA} {outs:Outs} (w:WS Z σ μ outs h) {k:Nat} {sa:SA} {a:Addr} (hk : μ[k]? = some sa) (ha:a∈ofSA sa):a∉addrs (μ.take k) outs:=fun q=>by
 rcases z02.mp q with ⟨i,sa',e,h'⟩ | ⟨p,hp,e⟩
 ·have hi:i < k:=by
   have:=(List.getElem?_eq_some_iff.mp e).1
   rw [List.length_take] at this;omega
  rw [List.getElem?_take_of_lt hi] at e
  have:=w.apart e hk h' ha
  omega
 ·exact w.apartOut hk ha hp e
structure NewI (k:Nat) (σ:St) (r rv:R V):Prop where
 nb:r ≠ .bot
 exc:∀ σ1,r = .exc σ1→rv = .exc σ1
 ok:∀ v σ1,r = .ok v σ1→v = .t .none∧(rv = .ok (.ref σ.length) σ1∨∃ l ts,σ1[σ.length]? = some (.inst k l)∧treesV l=some ts∧(σ1.length = σ.length + 1∧ts.length=(fieldsOf k).length∧lowAll σ.length (σ1.take σ.length)=true)∧rv = .ok (.t (.node k ts)) (σ1.take σ.length))
theorem zix {k:Nat} {vs:List V} {σ:St} (hb:newV tb Φ k vs σ ≠ .bot):∃ f,tb.init k=some f∧NewI k σ (Φ f (.ref σ.length :: vs) (σ++[.inst k []])) (newV tb Φ k vs σ):=by
 have e:newV tb Φ k vs σ=(match tb.init k with
  | Option.none=> .bot
  | some f=>(Φ f (.ref σ.length :: vs) (σ++[.inst k []])).bind fun v σ'=>match v with
   | .t .none=>
    if frozenC k then (match σ'[σ.length]? with
     | some (.inst k' l)=>match treesV l with
      | some ts=>if k'=k ∧ σ'.length = σ.length + 1∧ts.length=(fieldsOf k).length∧lowAll σ.length (σ'.take σ.length)=true then .ok (.t (.node k ts)) (σ'.take σ.length) else .bot
      | Option.none=> .bot
     | _=> .bot)
    else .ok (.ref σ.length) σ'
   | _=> .bot):=rfl
 rw [e] at hb ⊢
 clear e
 revert hb
 cases tb.init k with
 | none=>intro hb;exact (hb rfl).elim
 | some f=>
  intro hb
  refine ⟨f,rfl,?_⟩
  dsimp only at hb ⊢
  generalize Φ f (.ref σ.length :: vs) (σ++[.inst k []])=r at hb ⊢
  cases r with
  | bot=>exact (hb rfl).elim
  | exc σ1=>exact ⟨fun q=>(by cases q),fun _ q=>(by cases q;rfl),fun _ _ q=>(by cases q)⟩
  | ok v σ1=>
   refine ⟨fun q=>(by cases q),fun _ q=>(by cases q),fun v' σ' q=>?_⟩
   cases q
   cases v with
   | t t=>
    cases t with
    | none=>
     refine ⟨rfl,?_⟩
     by_cases hfz:frozenC k=true
     ·have h1:=fun q=>hb ((if_pos hfz).trans q)
      obtain ⟨c,l,e3⟩:=zi4 h1
      rw [e3] at h1
      dsimp only at h1
      cases e4:treesV l with
      | none=>rw [e4] at h1;exact (h1 rfl).elim
      | some ts=>
       rw [e4] at h1
       have hc:=ite_r h1
       obtain ⟨rfl,hc'⟩:=id hc
       exact .inr ⟨l,ts,e3,e4,hc',(if_pos hfz).trans (by rw [e3];dsimp only;rw [e4];exact if_pos hc)⟩
     ·exact .inl (if_neg hfz)
    | _=>exact (hb rfl).elim
   | _=>exact (hb rfl).elim
theorem zft (G:Ground prog HB K mg mb tb) (P:PhiOK prog w HB fa n Φ) {A:Around} {s:Shared} {Z:Heap} {μ:List SA} {outs:Outs} {σ:St} (g:Gd n A (nsA outs)) (z:Sub HB Z) (ws:WS Z σ μ outs s.heap)
  {k:Nat} {vs:List V} {us:List Value} (hm:∀ f,tb.init k=some f→MakeIs K fa k f) (r:RepVs Z μ vs us):SpV prog w A (call (.ref (caddr k)) us) s Z μ outs (newV tb Φ k vs σ):=by
 intro hb Q E ok ex
 have X:K.In s.heap:=G.frag.keeps (z.trans ws.keep)
 obtain ⟨f,ef,hi⟩:=zix hb
 ·have M:=hm f ef
  obtain ⟨hh,gg,d,t,os⟩:=s
  refine wpAny_call (make_core (makes_of X M.makes) (looks_findIn X M.init) (fun self=>bind_fn X self M.fn) (.inl rfl) ?_)
  generalize hH:(hh.push emptyDict).push (instObj (caddr k) hh.objs.size)=H
  have k1:Sub hh H:=fun b o e=>by rw [← hH];exact Heap.get?_push_of_some _ (Heap.get?_push_of_some _ e)
  have sz:(hh.push emptyDict).objs.size=hh.objs.size + 1:=Heap.size_push ..
  have gx:H.get? (hh.objs.size + 1)=some (instObj (caddr k) hh.objs.size):=by rw [← hH,← sz];exact Heap.get?_push_size _ rfl
  have gd:H.get? hh.objs.size=some emptyDict:=by rw [← hH];exact Heap.get?_push_of_some _ (Heap.get?_push_size _ rfl)
  have nx:hh.get? (hh.objs.size + 1)=none:=by
   cases q:hh.get? (hh.objs.size + 1) with
   | none=>rfl
   | some o'=>exact absurd (Heap.lt_size q) (Nat.not_lt.mpr (Nat.le_succ _))
  have ws1:WS Z (σ++[.inst k []]) (μ++[(hh.objs.size + 1,some hh.objs.size)]) outs H:=by
   refine ws.alloc (sa:=(hh.objs.size + 1,some hh.objs.size)) k1 ⟨hh.objs.size,[],0,rfl,gx,gd,trivial,Nat.zero_le _,trivial⟩ (fun a ha=>?_) (by simp [ofSA])
   simp [ofSA] at ha
   rcases ha with rfl | rfl
   ·exact nx
   ·exact z08 hh
  have pre:Pre μ (μ++[(hh.objs.size + 1,some hh.objs.size)]):=fun i x e=>by rw [List.getElem?_append_left (List.getElem?_eq_some_iff.mp e).1];exact e
  have atk:(μ++[(hh.objs.size + 1,some hh.objs.size)])[σ.length]? = some (hh.objs.size + 1,some hh.objs.size):=by rw [← ws.len];simp
  have rr:RepVs Z (μ++[(hh.objs.size + 1,some hh.objs.size)]) (.ref σ.length :: vs) (.ref (hh.objs.size + 1) :: us):=⟨⟨_,atk,rfl⟩,r.mono (Sub.refl _) pre⟩
  have sp:=P (s:=⟨H,gg,d,t,os⟩) (f:=f) (z77 (C:=caddr k) (vals:=us) g) z ws1 rr
  have call1:codeAny (model prog w) (A.under (.builtin "type.__call__" ⟨.ref (caddr k) :: us,[]⟩)) (.call (.ref (fa f)) ⟨.ref (hh.objs.size + 1) :: us,[]⟩)
    (Back (fun v s'=>v = .none∧Q (.ref (hh.objs.size + 1)) s') E) ⟨H,gg,d,t,os⟩:=by
   refine sp hi.nb _ E (fun v' σ1 e Z1 μ1 h1 tk1 x z1 p1 ws2 r2=>?_) fun σ'' e=>?_
   ·obtain ⟨rfl,hi2⟩:=hi.ok _ _ e
    obtain rfl:x = .none:=r2
    refine ⟨rfl,?_⟩
    have a1 : μ1[σ.length]? = some (hh.objs.size + 1,some hh.objs.size):=p1 _ _ atk
    rcases hi2 with e1 | ⟨l,ts,e3,e4,⟨hl,hts,hlow⟩,e5⟩
    ·exact ok _ _ e1 Z1 μ1 h1 tk1 _ z1 (pre.trans p1) ws2 ⟨_,a1,rfl⟩
    ·obtain ⟨dd,es,nn,q1,q2,q3,q4,q5,q6⟩:=ws2.rep _ _ _ e3 a1
     injection q1 with q1
     subst q1
     have ws3:=ws2.drop hlow
     have rt:=q6.trees e4
     have n1:=z33 ws2 a1 (a:=hh.objs.size + 1) (by simp [ofSA])
     have n2:=z33 ws2 a1 (a:=hh.objs.size) (by simp [ofSA])
     have ll:l.length=(fieldsOf k).length:=by rw [← hts,q6.length,rt.length]
     rw [ll,List.take_length] at q4
     exact ok _ _ e5 (frz h1 (μ1.take σ.length) outs) (μ1.take σ.length) h1 tk1 _ (z1.trans ws3.frz_sub) (zbf ws.len p1) ws3.frz ⟨_,_,_,es,nn,rfl,z2v q2 n1,z2v q3 n2,q4,rt.mono ws3.frz_sub⟩
   ·intro Z'' μ'' h'' tk'' x z'' p'' ws'' ei
    exact ex σ'' (hi.exc _ e) Z'' μ'' h'' tk'' x z'' (pre.trans p'') ws'' ei
  refine codeAny_mono call1 fun r s' hr=>?_
  cases r with
  | error e=>exact hr
  | ok fl=>cases fl<;>first | exact hr | exact hr.elim
theorem zfu (G:Ground prog HB K mg mb tb) (P:PhiOK prog w HB fa n Φ) {x:Str} {k:Nat} {p pos:Pos} {es:List Expr} {xs:X}
  (hm:mg x=some (.ref (caddr k))) (hk:keepIn K (.ref (caddr k))=true) (hi:∀ f,tb.init k=some f→MakeIs K fa k f) (hx:C.scope.names.lookup x=some .globalImplicit) (hd:(x == ("__debug__" : Str))=false) (hn:noStar es=true) (h:SndL prog w HB tb Φ n C es xs) :
  SndE prog w HB tb Φ n C (.Call (.Name x p) es [] pos) (.new k xs):=by
 intro A s Z μ rest σ env L m ρ g z eo ws lc hb Q E ok ex
 rw [zid] at ok hb ex
 have hkd:env.kindOf x=C.scope.names.lookup x:=by show env.scope.names.lookup x=_;rw [eo.scope]
 have hkf:env.scope.kind = .function:=by rw [eo.scope];exact eo.kind
 refine wpAny_Call_Name_kw (keywords:=[]) ?_
 refine Calls.Name_function_global hkf (hkd.trans hx) (Calls.loadGlobal_global (by rw [eo.glob];exact G.g.keeps (z.trans ws.keep)) hm ?_) hd
 refine callWith_of (P:=K.In) (by rw [z0j hn];rfl) (keeps_K hk) (z07 hn ?_)
 refine (h pos g z eo ws lc).bind hb ok ex fun vs σ1 Z1 μ1 h1 tk1 us e1 z1 p1 ws1 r1 hb1 ok1 ex1=>?_
 exact ⟨G.frag.keeps ((z.trans z1).trans ws1.keep),zft (Φ:=Φ) (outs:=(L,.ns m) :: rest) (s:={ s with heap:=h1,toks:=tk1 }) G P g (z.trans z1) ws1 hi r1 hb1 Q E ok1 ex1⟩
end
end Mine.Internal
namespace Mine.Internal
open PySem PySem.W PySem.Calls PyProof.Rows PySem.SeqAt PySem.StrLaws PySem.Builtin.Str
variable [PH]
theorem z17 (s:List Nat) (c i:Nat):At (mkS s) ⟨#[c]⟩ (mkS s).length i↔s[i]? = some c:=subAt_one (mkS s) c i
theorem z4l (c x i k:Nat) (l:List Nat):posFrom c (x :: l) i k=if i≤k∧x=c then (k:Int) else posFrom c l i (k + 1):=rfl
theorem z4m {c i:Nat} {l:List Nat}:∀ {k:Nat},(∀ j,l[j]? = some c→¬ i≤k+j)→posFrom c l i k = -1:=by
 induction l with
 | nil=>intro _ _;rfl
 | cons x l ih=>
  intro k h
  rw [z4l,if_neg (fun q=>h 0 (congrArg some q.2) q.1)]
  exact ih fun j hj=>by
   have:=h (j + 1) hj
   omega
theorem z4n {c i:Nat} {l:List Nat}:∀ {k j:Nat},l[j]? = some c→i≤k+j→(∀ j',j' < j→l[j']? = some c→¬ i≤k+j')→posFrom c l i k=((k+j:Nat):Int):=by
 induction l with
 | nil=>intro _ _ h _ _;exact nS h
 | cons x l ih=>
  intro k j h h1 h2
  cases j with
  | zero=>exact if_pos ⟨h1,Option.some.inj h⟩
  | succ j=>
   rw [z4l,if_neg (fun q=>h2 0 (Nat.succ_pos j) (congrArg some q.2) q.1),ih (k:=k + 1) h (by omega) fun j' hj' hs=>by
    have:=h2 (j' + 1) (Nat.succ_lt_succ hj') hs
    omega]
   congr 1
   omega
theorem z5z {n lo a:Nat} {pre post:List Nat} (h:List.range' lo n=pre++a :: post):∀ k,lo≤k→k < a→k∈pre:=by
 intro k hk0 hk
 have hL:n=pre.length+(post.length + 1):=by
  have:=congrArg List.length h
  simpa using this
 have hlen:lo+pre.length=a:=by
  have h1:(List.range' lo n)[pre.length]? = some a:=by rw [h];simp
  rw [List.getElem?_range'] at h1
  ·simpa using h1
  ·omega
 have h2:(List.range' lo n)[k - lo]? = pre[k - lo]?:=by rw [h,List.getElem?_append_left (by omega)]
 rw [List.getElem?_range'] at h2
 ·have h3:pre[k - lo]? = some k:=by rw [← h2];simp;omega
  exact List.mem_of_getElem? h3
 ·omega
theorem z98 (s:List Nat) (c:Nat) {i:Int} (h0 : 0≤i):Txt.find3 (mkS s) ⟨#[c]⟩ i=posFrom c s i.toNat 0:=by
 have hf:fromIndex (mkS s).length i=i.toNat:=by
  unfold fromIndex
  rw [if_neg (by omega)]
  omega
 unfold Txt.find3
 rw [hf,occ_eq]
 rcases occ_first (mkS s) ⟨#[c]⟩ (mkS s).length 1 (Nat.le_refl _) (List.range' i.toNat ((mkS s).length + 1 - i.toNat)) i.toNat (fun k hk=>by simp [List.mem_range'] at hk;omega) with ⟨h1,hn⟩ | ⟨pre,a,post,e,h1,ha,hn⟩
 ·rw [h1]
  refine (z4m fun j hj hij=>?_).symm
  refine hn j ?_ ((z17 s c j).mpr hj)
  have hl:j < s.length:=(List.getElem?_eq_some_iff.mp hj).1
  rw [z03,List.mem_range']
  exact ⟨j - i.toNat,by omega,by omega⟩
 ·generalize (forIn (List.range' i.toNat ((mkS s).length + 1 - i.toNat)) ((#[]:Array Nat),i.toNat) (occBody (mkS s) ⟨#[c]⟩ (mkS s).length 1)).run.fst=arr at h1
  have h2:arr.toList[0]? = some a:=by simpa using h1
  have hs:=(z17 s c a).mp ha
  have hm:a∈List.range' i.toNat ((mkS s).length + 1 - i.toNat):=by rw [e];simp
  rw [List.mem_range'] at hm
  obtain ⟨d,_,hd⟩:=hm
  cases hL:arr.toList with
  | nil=>rw [hL] at h2;cases h2
  | cons b t=>
   rw [hL] at h2
   simp at h2
   subst h2
   simp only
   have:=z4n (i:=i.toNat) (k:=0) hs (by omega) fun j' hj' hs' hij=>hn j' (z5z e j' (by omega) hj') ((z17 s c j').mpr hs')
   rw [this];congr 1;omega
theorem z4o (s:List Nat) (i j:Nat):strSub (mkS s) i j=mkS ((s.drop i).take (j - i)):=by
 unfold strSub mkS
 congr 1
 simp [List.extract]
theorem z60 (c x:Nat) (l:List Nat):part1 c (x :: l)=if x=c then ([],[c],l) else (x :: (part1 c l).1,(part1 c l).2.1,(part1 c l).2.2):=rfl
theorem z3f {c:Nat} {l:List Nat}:∀ {i:Nat},l[i]? = some c→(∀ k,k < i→l[k]? ≠ some c)→part1 c l=(l.take i,[c],l.drop (i + 1)):=by
 induction l with
 | nil=>intro _ h _;exact nS h
 | cons x l ih=>
  intro i h hn
  cases i with
  | zero=>exact if_pos (Option.some.inj h)
  | succ i=>
   rw [z60,if_neg fun q=>hn 0 (Nat.succ_pos i) (congrArg some q),ih h fun k hk=>hn (k + 1) (Nat.succ_lt_succ hk)];rfl
theorem z3g {c:Nat} {l:List Nat}:(∀ k:Nat,l[k]? ≠ some c)→part1 c l=(l,[],[]):=by
 induction l with
 | nil=>intro _;rfl
 | cons x l ih=>
  intro hn
  rw [z60,if_neg fun q=>hn 0 (congrArg some q),ih fun k=>hn (k + 1)]
theorem z4p (s:List Nat) (c:Nat):Txt.partition (mkS s) ⟨#[c]⟩=(mkS (part1 c s).1,mkS (part1 c s).2.1,mkS (part1 c s).2.2):=by
 unfold Txt.partition
 rcases occ_head (mkS s) ⟨#[c]⟩ 1 (Nat.le_refl _) with ⟨h1,hn⟩ | ⟨i,r,h1,ha,hn⟩
 ·rw [h1,z3g fun k q=>hn k ((z17 s c k).mpr q)]
  rfl
 ·have hs:=(z17 s c i).mp ha
  have hl:i < s.length:=(List.getElem?_eq_some_iff.mp hs).1
  rw [h1,z3f hs fun k hk q=>hn k hk ((z17 s c k).mpr q)]
  simp only [z4o,z03]
  refine Prod.ext ?_ (Prod.ext rfl ?_)
  ·simp
  ·show mkS ((s.drop (i + 1)).take (s.length - (i + 1)))=mkS (s.drop (i + 1))
   rw [List.take_of_length_le (by simp)]
theorem z78 {c:Nat} {l:List Nat} {i:Nat} (h:l[i]? = some c) (hn:∀ k,i < k→l[k]? ≠ some c):part2 c l=(l.take i,[c],l.drop (i + 1)):=by
 obtain ⟨j,hj⟩:∃ j,l.length=j+(i + 1):=⟨_,(Nat.sub_add_cancel (List.getElem?_eq_some_iff.mp h).1).symm⟩
 have hj':j < l.length:=by rw [hj];exact Nat.lt_succ_of_le (Nat.le_add_right j i)
 have e0:∀ k r,l.length=k+(r + 1)→l.length - 1 - k=r:=fun k r e=>by rw [e];exact Nat.add_sub_cancel_left _ _
 have h1:l.reverse[j]? = some c:=by rw [List.getElem?_reverse hj',e0 j i hj];exact h
 have:=z3f (c:=c) h1 fun k hk q=>by
  obtain ⟨r,rfl⟩:=Nat.exists_eq_add_of_lt hk
  rw [List.getElem?_reverse (Nat.lt_trans hk hj'),e0 k (i + 1+r) (by rw [hj];omega)] at q
  exact hn _ (Nat.lt_of_lt_of_le (Nat.lt_succ_self i) (Nat.le_add_right _ r)) q
 unfold part2
 rw [this]
 simp only
 refine Prod.ext ?_ (Prod.ext rfl ?_)
 ·simp only [List.drop_reverse,List.reverse_reverse]
  rw [show l.length - (j + 1)=i by rw [hj,Nat.add_left_comm,Nat.add_comm i];exact Nat.add_sub_cancel_left _ _]
 ·simp only [List.take_reverse,List.reverse_reverse]
  rw [show l.length - j=i + 1 by rw [hj];exact Nat.add_sub_cancel_left _ _]
theorem z79 {c:Nat} {l:List Nat} (hn:∀ k:Nat,l[k]? ≠ some c):part2 c l=([],[],l):=by
 have:=z3g (c:=c) (l:=l.reverse) fun k q=>by
  have hl:k < l.reverse.length:=(List.getElem?_eq_some_iff.mp q).1
  rw [List.length_reverse] at hl
  rw [List.getElem?_reverse (by omega)] at q
  exact hn _ q
 unfold part2
 rw [this];simp
theorem z3y (s:List Nat) (c:Nat):Txt.rpartition (mkS s) ⟨#[c]⟩=(mkS (part2 c s).1,mkS (part2 c s).2.1,mkS (part2 c s).2.2):=by
 unfold Txt.rpartition
 rcases last_spec (mkS s) ⟨#[c]⟩ with ⟨h1,hn⟩ | ⟨i,h1,ha,hn⟩
 ·rw [h1,z79 fun k q=>hn k ((z17 s c k).mpr q)]
  rfl
 ·have hs:=(z17 s c i).mp ha
  have hl:i < s.length:=(List.getElem?_eq_some_iff.mp hs).1
  rw [h1,z78 hs fun k hk q=>hn k hk ((z17 s c k).mpr q)]
  simp only [z4o,z03]
  refine Prod.ext ?_ (Prod.ext rfl ?_)
  ·simp
  ·show mkS ((s.drop (i + 1)).take (s.length - (i + 1)))=mkS (s.drop (i + 1))
   rw [List.take_of_length_le (by simp)]
theorem z4q (c:Nat) (l:List Nat):(part1 c l).1.length≤l.length∧(part1 c l).2.1.length ≤ 1∧(part1 c l).2.2.length≤l.length:=by
 induction l with
 | nil=>exact ⟨Nat.zero_le _,Nat.zero_le _,Nat.zero_le _⟩
 | cons x l ih=>
  rw [z60]
  by_cases q:x=c
  ·rw [if_pos q];exact ⟨Nat.zero_le _,Nat.le_refl _,Nat.le_succ _⟩
  ·rw [if_neg q];exact ⟨Nat.succ_le_succ ih.1,ih.2.1,Nat.le_succ_of_le ih.2.2⟩
theorem z99 (c:Nat) (l:List Nat):(part2 c l).1.length≤l.length∧(part2 c l).2.1.length ≤ 1∧(part2 c l).2.2.length≤l.length:=by
 have:=z4q c l.reverse
 show (part1 c l.reverse).2.2.reverse.length≤_∧_∧(part1 c l.reverse).1.reverse.length≤_
 rw [List.length_reverse] at this
 rw [List.length_reverse,List.length_reverse]
 exact ⟨this.2.2,this.2.1,this.1⟩
theorem zfv (s:List Nat) (c:Nat):Txt.endswith (mkS s) ⟨#[c]⟩=decide (s.getLast? = some c):=by
 unfold Txt.endswith
 have hl:(⟨#[c]⟩:Str).length = 1:=rfl
 rw [hl,Bool.eq_iff_iff,Bool.and_eq_true,decide_eq_true_eq,decide_eq_true_eq,List.getLast?_eq_getElem?,z03]
 constructor
 ·rintro ⟨h1,h2⟩
  exact (z17 s c _).mp ⟨by rw [hl,z03];omega,h2⟩
 ·intro h
  have:=(z17 s c _).mpr h
  exact ⟨by have:=(List.getElem?_eq_some_iff.mp h).1;omega,this.2⟩
theorem zfw (sep a:List Nat):joinL sep [a]=a:=rfl
theorem z61 (sep a b:List Nat) (r:List (List Nat)):joinL sep (a :: b :: r)=a++sep++joinL sep (b :: r):=rfl
theorem z9a (sep:List Nat) {r:List (List Nat)}:∀ a:List Nat,(joinL sep (a :: r)).length+sep.length=((a :: r).map fun l=>l.length+sep.length).sum:=by
 induction r with
 | nil=>intro a;rfl
 | cons b r ih=>
  intro a
  rw [z61,List.length_append,List.length_append,Nat.add_assoc,ih b]
  rfl
theorem zbg (sep:List Nat):∀ ls:List (List Nat),Txt.join (mkS sep) (ls.map mkS)=mkS (joinL sep ls)
 | []=>rfl
 | [a]=>rfl
 | a :: b :: r=>by
  have key:∀ (r:List (List Nat)) (acc:Array Nat) (b:List Nat),((b :: r).map mkS).foldl (fun acc p=>acc++(mkS sep).cps++p.cps) acc=acc++(mkS (sep++joinL sep (b :: r))).cps:=by
   intro r
   induction r with
   | nil=>intro acc b;simp [zfw,mkS]
   | cons c r ih=>
    intro acc b
    rw [List.map_cons,List.foldl_cons,ih]
    simp [z61,mkS]
  show glued (mkS sep) ((a :: b :: r).map mkS)=_
  unfold glued
  simp only [List.map_cons,List.drop_succ_cons,List.drop_zero,List.headD_cons]
  have:=key r (mkS a).cps b
  rw [List.map_cons] at this
  rw [this]
  simp [z61,mkS]
theorem z6r (sep:Nat):∀ (ls:List (List Nat)) (a:Nat),(ls.map mkS).foldl (fun n p=>n+p.length+sep) a=a+(ls.map fun l=>l.length+sep).sum
 | [],a=>by simp
 | l :: ls,a=>by
  rw [List.map_cons,List.foldl_cons,z6r sep ls]
  simp only [List.map_cons,List.sum_cons,z03]
  omega
theorem z9b {sep:List Nat} {ls:List (List Nat)} (h:(joinL sep ls).length≤lineS) (h2:sep.length ≤ 4):JoinOk (mkS sep) (ls.map mkS)=true:=by
 unfold JoinOk
 have e:(ls.map mkS).toArray.foldl (· + ·.length+(mkS sep).length) 0=(ls.map fun l=>l.length+sep.length).sum:=by
  rw [List.foldl_toArray,z03,z6r,Nat.zero_add]
 rw [e]
 unfold tooLong
 have zl:lineS = 1048576:=rfl
 have zs:sizeLine = 16777216:=rfl
 have:(ls.map fun l=>l.length+sep.length).sum≤lineS + 4:=by
  cases ls with
  | nil=>simp
  | cons a r=>rw [← z9a sep a];omega
 simp only [Bool.not_eq_true',decide_eq_false_iff_not]
 omega
theorem zfx {i:Int} (h : 0≤i):(Str.ofString (toString i))=mkS (figs i.toNat):=by
 obtain ⟨k,rfl⟩:=Int.eq_ofNat_of_zero_le h
 show Str.ofString (Nat.repr k)=_
 unfold Nat.repr
 rw [PySem.W.Fast.ofString_ofList]
 rfl
theorem z9c {i:Int} (h : 0≤i) (h1:i < 10 ^ 9):i.natAbs.log2 < 1920:=by
 by_cases h0:i.natAbs = 0
 ·rw [h0];decide
 ·have:i.natAbs.log2 < 30:=by
   rw [Nat.log2_lt h0];omega
  omega
theorem z34:∀ (l:List Nat) (a:Nat),l.foldl (fun n c=>10 * n+(c - 48)) a=l.foldl (fun acc c=>acc * 10+(c - 48)) a
 | [],_=>rfl
 | c :: l,a=>by rw [List.foldl_cons,List.foldl_cons,z34 l,Nat.mul_comm]
theorem ziy {l:List Nat} {n:Nat} (h:numOf l=some n):PySem.intText? (mkS l)=some (n:Int)∧l.length ≤ 18:=by
 simp only [numOf] at h
 split at h
 ·rename_i hc
  simp only [Bool.and_eq_true,Bool.not_eq_true',decide_eq_true_eq,List.all_eq_true] at hc
  obtain ⟨⟨h1,h2⟩,h3⟩:=hc
  injection h with h
  refine ⟨?_,h3⟩
  have hd:NumText.AllDigits (mkS l).cps.toList:=fun c hc=>h1 c hc
  have:=PySem.intText_digits hd (by rw [z2w];intro q;rw [q] at h2;simp at h2) (by rw [z03];omega)
  rw [this,← h,z34];rfl
 ·cases h
end Mine.Internal
namespace Mine.Internal
open PySem PySem.W PySem.Calls PyProof.Rows PySem.SeqAt PySem.StrLaws
variable [PH]
section
variable {prog:Program} {w:World} {HB:Heap} {K:Frag} {mg mb:Str→Option Value} {tb:Tabs} {Φ:Nat→List V→St→R V} {n:Nat} {C:Cx} {fa:Nat→Addr}
noncomputable def bval:Nat→Value
 | 0=> .builtin "len" | 1=> .builtin "ord" | 2=> .type "int" | 3=> .type "str" | 4=> .builtin "abs" | 5=> .type "tuple" | _=> .none
theorem z0a {Z:Heap} {μ:List SA} {v:V} {us:List Value} (r:RepVs Z μ [v] us):∃ u,us=[u]∧RepV Z μ v u:=by
 cases us with
 | nil=>exact r.elim
 | cons u us=>cases us with
  | nil=>exact ⟨u,rfl,r.1⟩
  | cons _ _=>exact r.2.elim
theorem z3z {Z:Heap} {μ:List SA} {v v':V} {us:List Value} (r:RepVs Z μ [v,v'] us):∃ u u',us=[u,u']∧RepV Z μ v u∧RepV Z μ v' u':=by
 cases us with
 | nil=>exact r.elim
 | cons u us=>
  obtain ⟨u',rfl,h⟩:=z0a r.2
  exact ⟨u,u',rfl,r.1,h⟩
theorem zdn {β:Type} {σ:St} {i:Nat} {k:List V→Option β} {z : β} (e:(match σ[i]? with
  | some (.list l)=>k l
  | _=>Option.none)=some z):∃ l,σ[i]? = some (.list l)∧k l=some z:=by
 generalize σ[i]? = o at e
 cases o with
 | none=>exact z01 e
 | some mo=>cases mo with
  | list l=>exact ⟨l,rfl,e⟩
  | inst=>exact z01 e
theorem zdo {σ:St} {i:Nat} {k:List V→R V} {z:R V} (h:z=(match σ[i]? with
  | some (.list l)=>k l
  | _=> .bot)) (hb:z ≠ .bot):∃ l,σ[i]? = some (.list l)∧z=k l:=by
 subst h
 generalize σ[i]? = o at hb
 cases o with
 | none=>exact (hb rfl).elim
 | some mo=>cases mo with
  | list l=>exact ⟨l,rfl,rfl⟩
  | inst=>exact (hb rfl).elim
theorem if_r {p:Prop} [Decidable p] {a z:R V} (h:z=if p then a else .bot) (hb:z ≠ .bot):p∧z=a:=by
 by_cases q:p
 ·rw [if_pos q] at h;exact ⟨q,h⟩
 ·rw [if_neg q] at h;exact (hb h).elim
theorem zbh {P:V→Nat→List V→Prop} {σ:St} {v:V} {m:Nat} {vs:List V}
  (h0:∀ s c i,P (.t (.str s)) 0 [.t (.str [c]),.t (.int i)]) (h1:∀ s c,P (.t (.str s)) 1 [.t (.str [c])]) (h2:∀ s c,P (.t (.str s)) 2 [.t (.str [c])]) (h3:∀ s c,P (.t (.str s)) 3 [.t (.str [c])])
  (h4:∀ s i,P (.t (.str s)) 4 [.ref i]) (h5:∀ i v,P (.ref i) 5 [v]) (h6:∀ l k d,P (.t (.dict l)) 6 [.t (.str k),.t (.int d)]) (hb:smethV σ v m vs ≠ .bot):P v m vs:=by
 cases v with
 | ref i=>
   rcases m with _ | _ | _ | _ | _ | _ | m
   ·exact (hb rfl).elim
   ·exact (hb rfl).elim
   ·exact (hb rfl).elim
   ·exact (hb rfl).elim
   ·exact (hb rfl).elim
   ·cases vs with
    | nil=>exact (hb rfl).elim
    | cons b0 b1=>
      cases b1 with
      | nil=>exact h5 _ _
      | cons=>exact (hb rfl).elim
   ·exact (hb rfl).elim
 | t x=>
   cases x with
   | str s=>
     rcases m with _ | _ | _ | _ | _ | m
     ·cases vs with
      | nil=>exact (hb rfl).elim
      | cons b0 b1=>
        cases b0 with
        | t y=>
          cases y with
          | str z=>
            cases z with
            | nil=>exact (hb rfl).elim
            | cons c z=>
              cases z with
              | cons=>exact (hb rfl).elim
              | nil=>
                cases b1 with
                | nil=>exact (hb rfl).elim
                | cons d0 d1=>
                  cases d0 with
                  | t w=>
                    cases w with
                    | int j=>
                      cases d1 with
                      | nil=>exact h0 _ _ _
                      | cons=>exact (hb rfl).elim
                    | _=>exact (hb rfl).elim
                  | _=>exact (hb rfl).elim
          | _=>exact (hb rfl).elim
        | _=>exact (hb rfl).elim
     ·cases vs with
      | nil=>exact (hb rfl).elim
      | cons b0 b1=>
        cases b0 with
        | t y=>
          cases y with
          | str z=>
            cases z with
            | nil=>exact (hb rfl).elim
            | cons c z=>
              cases z with
              | cons=>exact (hb rfl).elim
              | nil=>
                cases b1 with
                | nil=>exact h1 _ _
                | cons=>exact (hb rfl).elim
          | _=>exact (hb rfl).elim
        | _=>exact (hb rfl).elim
     ·cases vs with
      | nil=>exact (hb rfl).elim
      | cons b0 b1=>
        cases b0 with
        | t y=>
          cases y with
          | str z=>
            cases z with
            | nil=>exact (hb rfl).elim
            | cons c z=>
              cases z with
              | cons=>exact (hb rfl).elim
              | nil=>
                cases b1 with
                | nil=>exact h2 _ _
                | cons=>exact (hb rfl).elim
          | _=>exact (hb rfl).elim
        | _=>exact (hb rfl).elim
     ·cases vs with
      | nil=>exact (hb rfl).elim
      | cons b0 b1=>
        cases b0 with
        | t y=>
          cases y with
          | str z=>
            cases z with
            | nil=>exact (hb rfl).elim
            | cons c z=>
              cases z with
              | cons=>exact (hb rfl).elim
              | nil=>
                cases b1 with
                | nil=>exact h3 _ _
                | cons=>exact (hb rfl).elim
          | _=>exact (hb rfl).elim
        | _=>exact (hb rfl).elim
     ·cases vs with
      | nil=>exact (hb rfl).elim
      | cons b0 b1=>
        cases b0 with
        | ref j=>
          cases b1 with
          | nil=>exact h4 _ _
          | cons=>exact (hb rfl).elim
        | _=>exact (hb rfl).elim
     ·exact (hb rfl).elim
   | dict l=>
     rcases m with _ | _ | _ | _ | _ | _ | _ | m
     ·exact (hb rfl).elim
     ·exact (hb rfl).elim
     ·exact (hb rfl).elim
     ·exact (hb rfl).elim
     ·exact (hb rfl).elim
     ·exact (hb rfl).elim
     ·cases vs with
      | nil=>exact (hb rfl).elim
      | cons b0 b1=>
        cases b0 with
        | t y=>
          cases y with
          | str z=>
            cases b1 with
            | nil=>exact (hb rfl).elim
            | cons d0 d1=>
              cases d0 with
              | t w=>
                cases w with
                | int j=>
                  cases d1 with
                  | nil=>exact h6 _ _ _
                  | cons=>exact (hb rfl).elim
                | _=>exact (hb rfl).elim
              | _=>exact (hb rfl).elim
          | _=>exact (hb rfl).elim
        | _=>exact (hb rfl).elim
     ·exact (hb rfl).elim
   | _=>exact (hb rfl).elim
 | _=>exact (hb rfl).elim
theorem ziz {P:Nat→List V→Prop} {σ:St} {b:Nat} {vs:List V} {t:T}
  (h0:∀ s:List Nat,some (T.int s.length)=some t→P 0 [.t (.str s)]) (h1:∀ l:List T,some (T.int l.length)=some t→P 0 [.t (.tup l)]) (h2:∀ i,bltV σ 0 [.ref i]=some t→P 0 [.ref i])
  (h3:∀ c:Nat,some (T.int c)=some t→P 1 [.t (.str [c])]) (h4:∀ s,((numOf s).map fun n:Nat=>T.int (n:Int))=some t→P 2 [.t (.str s)])
  (h5:∀ i:Int,(if 0≤i∧i < 10 ^ 9∧(figs i.toNat).length ≤ 9 then some (T.str (figs i.toNat)) else Option.none)=some t→P 3 [.t (.int i)]) (h6:∀ i:Int,some (T.int i.natAbs)=some t→P 4 [.t (.int i)]) (h7:∀ i,bltV σ 5 [.ref i]=some t→P 5 [.ref i])
  (e:bltV σ b vs=some t):P b vs:=by
 rcases b with _ | _ | _ | _ | _ | _ | b
 ·cases vs with
  | nil=>exact z01 e
  | cons b0 b1=>
    cases b0 with
    | t y=>
      cases y with
      | str z=>
        cases b1 with
        | nil=>exact h0 _ e
        | cons=>exact z01 e
      | tup z=>
        cases b1 with
        | nil=>exact h1 _ e
        | cons=>exact z01 e
      | _=>exact z01 e
    | ref j=>
      cases b1 with
      | nil=>exact h2 _ e
      | cons=>exact z01 e
    | _=>exact z01 e
 ·cases vs with
  | nil=>exact z01 e
  | cons b0 b1=>
    cases b0 with
    | t y=>
      cases y with
      | str z=>
        cases z with
        | nil=>exact z01 e
        | cons c z=>
          cases z with
          | cons=>exact z01 e
          | nil=>
            cases b1 with
            | nil=>exact h3 _ e
            | cons=>exact z01 e
      | _=>exact z01 e
    | _=>exact z01 e
 ·cases vs with
  | nil=>exact z01 e
  | cons b0 b1=>
    cases b0 with
    | t y=>
      cases y with
      | str z=>
        cases b1 with
        | nil=>exact h4 _ e
        | cons=>exact z01 e
      | _=>exact z01 e
    | _=>exact z01 e
 ·cases vs with
  | nil=>exact z01 e
  | cons b0 b1=>
    cases b0 with
    | t y=>
      cases y with
      | int z=>
        cases b1 with
        | nil=>exact h5 _ e
        | cons=>exact z01 e
      | _=>exact z01 e
    | _=>exact z01 e
 ·cases vs with
  | nil=>exact z01 e
  | cons b0 b1=>
    cases b0 with
    | t y=>
      cases y with
      | int z=>
        cases b1 with
        | nil=>exact h6 _ e
        | cons=>exact z01 e
      | _=>exact z01 e
    | _=>exact z01 e
 ·cases vs with
  | nil=>exact z01 e
  | cons b0 b1=>
    cases b0 with
    | ref j=>
      cases b1 with
      | nil=>exact h7 _ e
      | cons=>exact z01 e
    | _=>exact z01 e
 ·exact z01 e
theorem zfy {A:Around} {E:Value→Shared→Prop} {s:Shared} {Z:Heap} {μ:List SA} {outs:Outs} {σ:St} (ws:WS Z σ μ outs s.heap)
  {b:Nat} {vs:List V} {t:T} {us:List Value} {Q:Value→Shared→Prop} (e:bltV σ b vs=some t) (r:RepVs Z μ vs us) (q:∀ Z' h' tk val,Sub Z Z'→WS Z' σ μ outs h'→RepT Z' t val→Q val { s with heap:=h',toks:=tk }) :
  wpAny (model prog w) A (call (bval b) us) Q E s:=by
 have zl:lineS = 1048576:=rfl
 have now:∀ tk val,RepT Z t val→Q val { s with toks:=tk }:=fun tk val rv=>q Z s.heap tk val (Sub.refl _) ws rv
 refine ziz (P:=fun b vs=>RepVs Z μ vs us→wpAny (model prog w) A (call (bval b) us) Q E s) ?_ ?_ ?_ ?_ ?_ ?_ ?_ ?_ e r
 ·intro l e r
  injection e with e;subst e
  obtain ⟨u,rfl,r1⟩:=z0a r
  obtain ⟨tk,rfl,hl⟩:=r1
  refine P.len_str (by rw [z03];omega) (now _ _ ⟨_,by rw [z03]⟩)
 ·intro l e r
  injection e with e;subst e
  obtain ⟨u,rfl,r1⟩:=z0a r
  obtain ⟨a,vs,rfl,ht,rt,hl⟩:=r1
  have ll:=rt.length
  simp only [Array.length_toList] at ll
  refine PyProof.Rows.len_tuple (IsTup.up ws.keep ht) (by omega) (now _ _ ⟨_,by rw [ll]⟩)
 ·intro i e r
  obtain ⟨u,rfl,r1⟩:=z0a r
  obtain ⟨l,ei,e⟩:=zdn (k:=fun l=>some (T.int l.length)) e
  injection e with e;subst e
  obtain ⟨a,vs,rfl,_,g,rv,hl⟩:=z0q ws r1 ei
  have ll:=rv.length
  refine Calls.call_len_list g.isList (by simp;omega) (now _ _ ⟨s.toks + 1,by simp [ll]⟩)
 ·intro c e r
  injection e with e;subst e
  obtain ⟨u,rfl,r1⟩:=z0a r
  obtain ⟨tk,rfl,hl⟩:=r1
  exact P.ord_of_char (now _ _ ⟨_,rfl⟩)
 ·intro l e r
  obtain ⟨u,rfl,r1⟩:=z0a r
  obtain ⟨tk,rfl,hl⟩:=r1
  obtain ⟨k,e1,rfl⟩:=Option.map_eq_some_iff.mp e
  obtain ⟨h1,h2⟩:=ziy e1
  exact KIN.call_text h1 (by rw [z03];omega) (now _ _ ⟨_,rfl⟩)
 ·intro i e r
  obtain ⟨u,rfl,r1⟩:=z0a r
  obtain ⟨tk,rfl⟩:=r1
  split at e
  ·rename_i hc
   injection e with e;subst e
   refine P.str_of_int (z9c hc.1 hc.2.1) ?_
   rw [zfx hc.1]
   exact now _ _ ⟨_,rfl,by omega⟩
  ·cases e
 ·intro i e r
  injection e with e;subst e
  obtain ⟨u,rfl,r1⟩:=z0a r
  obtain ⟨tk,rfl⟩:=r1
  refine PyProof.Rows.call_abs_int fun u tk=>now _ _ ⟨u,?_⟩
  congr 1
  split<;>omega
 ·intro i e r
  obtain ⟨u,rfl,r1⟩:=z0a r
  obtain ⟨l,ei,e⟩:=zdn (k:=fun l=>(treesV l).bind fun r=>if r.length≤lineS then some (T.tup r) else Option.none) e
  obtain ⟨ts,e1,e2⟩:=Option.bind_eq_some_iff.mp e
  split at e2
  ·rename_i hlen
   injection e2 with e2;subst e2
   obtain ⟨a,vs,rfl,_,g,rv,hl⟩:=z0q ws r1 ei
   have rt:=rv.trees e1
   have ll:=rv.length
   refine call_tuple_list g.isList (fun h' k=>?_) (by simp only [List.size_toArray];have:=z0i;omega)
   have w':=ws.ext k
   obtain ⟨Z',zz,w3,gg,_⟩:=z0v (s:={ s with heap:=h' }) (o:={ cls:= .type "tuple",data:= .seq vs.toArray }) w' rfl
   exact q Z' _ s.toks _ zz w3 ⟨_,_,rfl,⟨_,gg,rfl,_,rfl⟩,by simpa using rt.mono zz,hlen⟩
  ·cases e2
theorem z18 {M:Model} {f:Value} (h:∀ a,f ≠ .ref a) (hp:Heap):∃ k,(k=Keeper.frame∨k=Keeper.machine∨k=Keeper.boundFrame)∧Looks M hp (keeperOf f) k:=by
 refine ⟨.machine,.inr (.inl rfl),Looks.of_pure ?_⟩
 cases f with
 | ref a=>exact absurd rfl (h a)
 | _=>rfl
theorem zfz (G:Ground prog HB K mg mb tb) {x:Str} {b:Nat} {p pos:Pos} {es:List Expr} {xs:X} (hg:mg x=none) (hv:mb x=some (bval b)) (hb':∀ a,bval b ≠ .ref a)
  (hx:C.scope.names.lookup x=some .globalImplicit) (hd:(x == ("__debug__" : Str))=false) (hn:noStar es=true) (h:SndL prog w HB tb Φ n C es xs):SndE prog w HB tb Φ n C (.Call (.Name x p) es [] pos) (.blt b xs):=by
 intro A s Z μ rest σ env L m ρ g z eo ws lc hb Q E ok ex
 rw [zie] at ok hb ex
 have hkd:env.kindOf x=C.scope.names.lookup x:=by show env.scope.names.lookup x=_;rw [eo.scope]
 have hkf:env.scope.kind = .function:=by rw [eo.scope];exact eo.kind
 have kk:Sub HB s.heap:=z.trans ws.keep
 refine wpAny_Call_Name_kw (keywords:=[]) ?_
 refine Calls.Name_function_global hkf (hkd.trans hx) (Calls.loadGlobal_builtin (by rw [eo.glob];exact G.g.keeps kk) hg (by rw [eo.blt];exact G.b.keeps kk) hv ?_) hd
 refine callWith_of (P:=fun _=>True) (by rw [z0j hn];rfl) (fun hp _=>z18 hb' hp) (z07 hn ?_)
 refine (h pos g z eo ws lc).bind hb ok ex fun vs σ1 Z1 μ1 h1 tk1 us e1 z1 p1 ws1 r1 hb1 ok1 ex1=>?_
 refine ⟨trivial,?_⟩
 obtain ⟨t,e3,e4⟩:=z0y hb1
 obtain ⟨t',e5,rfl⟩:=Option.map_eq_some_iff.mp e3
 rw [e4] at ok1
 exact zfy (s:={ s with heap:=h1,toks:=tk1 }) ws1 e5 r1 fun Z' h' tk val zz w' rv=>ok1.at (tk:=tk) zz (Pre.refl _) w' rv
structure IsiOk (K:Frag):Prop where
 same:∀ c,c < 12→isIn K (.ref (caddr c)) (caddr c)=true
 other:∀ c k,c < 12→k < 12→c≠k→kin_not K (caddr c) (caddr k)=true
 cls:∀ c,c < 12→findIn K (.ref (caddr c)) "__class__" = some (some (.builtin "object.__class__"))
 get:specialIn K (.builtin "object.__class__") "__get__" = some (some (.builtin "getset_descriptor.__get__"))
 take:takesIn K (.builtin "object.__class__")=some true
theorem starNames {a:Expr} {x':Str} {p':Pos} (ha:noStar [a]=true):noStar [a,.Name x' p']=true:=ha
theorem z7a (G:Ground prog HB K mg mb tb) (cl:∀ c,c < 12→ClsOk K c) (I:IsiOk K) {x y:Str} {k:Nat} {p p' pos:Pos} {a:Expr} {u:X} (hg:mg x=none) (hv:mb x=some (.builtin "isinstance")) (hy:mg y=some (.ref (caddr k))) (hk:k < 12)
  (hx:C.scope.names.lookup x=some .globalImplicit) (hx':C.scope.names.lookup y=some .globalImplicit) (hd:(x == ("__debug__" : Str))=false) (hd':(y == ("__debug__" : Str))=false) (hn:noStar [a]=true) (h:SndE prog w HB tb Φ n C a u) :
  SndE prog w HB tb Φ n C (.Call (.Name x p) [a,.Name y p'] [] pos) (.isinst u k):=by
 intro A s Z μ rest σ env L m ρ g z eo ws lc hb Q E ok ex
 rw [zig] at ok hb ex
 have hkd:env.kindOf x=C.scope.names.lookup x:=by show env.scope.names.lookup x=_;rw [eo.scope]
 have hkd':env.kindOf y=C.scope.names.lookup y:=by show env.scope.names.lookup y=_;rw [eo.scope]
 have hkf:env.scope.kind = .function:=by rw [eo.scope];exact eo.kind
 have kk:Sub HB s.heap:=z.trans ws.keep
 have hn2:noStar [a,.Name y p']=true:=starNames hn
 refine wpAny_Call_Name_kw (keywords:=[]) ?_
 refine Calls.Name_function_global hkf (hkd.trans hx) (Calls.loadGlobal_builtin (by rw [eo.glob];exact G.g.keeps kk) hg (by rw [eo.blt];exact G.b.keeps kk) hv ?_) hd
 refine callWith_of (P:=fun _=>True) (by rw [z0j hn2];rfl) (fun hp _=>z18 (f:= .builtin "isinstance") (fun a q=>Value.noConfusion q) hp) (z07 hn2 ?_)
 rw [z0g hn2]
 refine spliced_cons ?_
 refine (h g z eo ws lc).bind hb ok ex fun v σ1 Z1 μ1 h1 tk1 val e1 z1 p1 ws1 r1 hb1 ok1 ex1=>?_
 have kk1:Sub HB h1:=(z.trans z1).trans ws1.keep
 refine spliced_cons ?_
 refine Calls.Name_function_global hkf (hkd'.trans hx') (Calls.loadGlobal_global (by rw [eo.glob];exact G.g.keeps kk1) hy ?_) hd'
 refine spliced_nil ⟨trivial,?_⟩
 cases v with
 | ref _=>exact (hb1 rfl).elim
 | undef=>exact (hb1 rfl).elim
 | t t=>
  cases t with
  | node c l=>
   simp only at ok1
   obtain ⟨aa,d,sl,es,nn,rfl,g1,g2,g3,g4⟩:=r1
   have X:K.In h1:=G.frag.keeps kk1
   by_cases hc:c < 12
   ·rw [if_pos hc] at ok1
    have Ia:InstAt h1 aa ⟨.ref (caddr c),some d,.plain,sl⟩ (caddr c) (some (dictOf es nn)):=⟨ws1.keep _ _ g1,rfl,rfl,ws1.keep _ _ g2⟩
    by_cases hck:c=k
    ·subst hck
     refine isi_call (s:={ s with heap:=h1,toks:=tk1 }) X (fun M=>Ia.type) (I.same c hc) (fun q=>nomatch q) ?_
     have:=ok1.now (tk:=tk1) (x:= .bool true) ws1 (by show Value.bool true=Value.bool (decide (c=c));simp)
     exact this
    ·refine kin_callC (s:={ s with heap:=h1,toks:=tk1 }) X Ia (I.other c k hc hk hck) ?_ (cl c hc).hd (I.cls c hc) I.get I.take (G.cmps c hc).obj ?_
     ·unfold plainGet
      rw [(cl c hc).ga.1,(cl c hc).ga.2];decide
     ·exact ok1.now (tk:=tk1 + 1) ws1 (by show Value.bool false=Value.bool (decide (c=k));simp [hck])
   ·simp only [if_neg hc] at hb1;exact (hb1 rfl).elim
  | _=>exact (hb1 rfl).elim
noncomputable def mid:Nat→Option String
 | 0=>some "str.find" | 1=>some "str.endswith" | 2=>some "str.partition" | 3=>some "str.rpartition" | 4=>some "str.join" | 5=>some "list.append" | 6=>some "dict.get" | _=>none
theorem z9d {Z:Heap} {μ:List SA} {l:List V}:∀ {vs:List Value} {ss:List (List Nat)},strsV l=some ss→RepVs Z μ l vs→∃ ps:List (Str×Tok),vs=strValues ps∧ps.map (·.1)=ss.map mkS:=by
 induction l with
 | nil=>
  intro vs ss e r
  cases vs with
  | nil=>obtain rfl:=Option.some.inj e;exact ⟨[],rfl,rfl⟩
  | cons _ _=>exact r.elim
 | cons v l ih=>
  intro vs ss e r
  cases vs with
  | nil=>exact r.elim
  | cons y vs=>
   cases v with
   | undef=>exact nS e
   | ref _=>exact nS e
   | t t=>
    cases t with
    | str x=>
     obtain ⟨⟨t,e1,_⟩,r⟩:=r
     obtain ⟨ss',e2,rfl⟩:=Option.map_eq_some_iff.mp e
     obtain ⟨ps,h1,h2⟩:=ih e2 r
     exact ⟨(mkS x,t) :: ps,by rw [e1,h1];rfl,by simp [h2]⟩
    | _=>exact nS e
theorem z9e {l:List (List Nat×Int)} {kvs:List (Str×Value)} {k:List Nat} (h:KeyedD l kvs):(∀ i,dictAt l k=some i→∃ u,valueAt kvs (mkS k)=some (.int i u))∧(dictAt l k=none→valueAt kvs (mkS k)=none):=by
 induction l generalizing kvs with
 | nil=>
  cases kvs with
  | nil=>exact ⟨fun i e=>nS e,fun _=>rfl⟩
  | cons _ _=>exact h.elim
 | cons f fs ih=>
  cases kvs with
  | nil=>exact h.elim
  | cons e es=>
   obtain ⟨⟨h1,u,h2⟩,h3⟩:=h
   obtain ⟨ih1,ih2⟩:=ih h3
   obtain ⟨fk,fv⟩:=f
   obtain ⟨ek,ev⟩:=e
   obtain rfl:ek=mkS fk:=h1
   obtain rfl:ev = .int fv u:=h2
   show (∀ i,(if k=fk then some fv else dictAt fs k)=some i→_)∧((if k=fk then some fv else dictAt fs k)=none→_)
   unfold valueAt
   rw [List.find?_cons]
   by_cases hk:k=fk
   ·subst hk
    rw [if_pos rfl]
    simp
   ·have hk':¬ mkS fk=mkS k:=fun q=>hk (z5w q).symm
    rw [if_neg hk]
    simp only [hk',decide_false]
    exact ⟨ih1,ih2⟩
theorem z1r {s:Shared} {Z:Heap} {μ:List SA} {outs:Outs} {σ:St} (ws:WS Z σ μ outs s.heap) {a b c:List Nat} {ta tb tc:Tok} (ha:a.length≤lineS) (hb:b.length≤lineS) (hc:c.length≤lineS) {Q:Value→Shared→Prop} {tk:Nat}
  (ok:KOk RepV s Z μ outs (.ok (.t (.tup [.str a,.str b,.str c])) σ) Q):Q (.ref s.heap.objs.size) { s with heap:=s.heap.push { cls:= .type "tuple",data:= .seq #[.str (mkS a) ta,.str (mkS b) tb,.str (mkS c) tc] },toks:=tk }:=by
 obtain ⟨Z',zz,w3,gg,_⟩:=z0v (s:=s) (o:={ cls:= .type "tuple",data:= .seq #[.str (mkS a) ta,.str (mkS b) tb,.str (mkS c) tc] }) ws rfl
 exact ok.at (tk:=tk) zz (Pre.refl _) w3 ⟨_,_,rfl,⟨_,gg,rfl,_,rfl⟩,⟨⟨_,rfl,ha⟩,⟨_,rfl,hb⟩,⟨_,rfl,hc⟩,trivial⟩,by show 3≤lineS;decide⟩
theorem z9f (HT:∀ Z a kvs,PH.tab Z a kvs↔Z.DictOf (PySem.strKind prog w) a kvs) {A:Around} {E:Value→Shared→Prop} {s:Shared} {Z:Heap} {μ:List SA} {outs:Outs} {σ:St} (ws:WS Z σ μ outs s.heap)
  {v:V} {mi:Nat} {vs:List V} {a:Value} {us:List Value} {Q:Value→Shared→Prop} (hb:smethV σ v mi vs ≠ .bot) (ra:RepV Z μ v a) (r:RepVs Z μ vs us) (ok:KOk RepV s Z μ outs (smethV σ v mi vs) Q) {id:String} (hid:mid mi=some id) :
  wpAny (model prog w) A (call (.builtin id) (a :: us)) Q E s:=by
 have zl:lineS = 1048576:=rfl
 have hle:=z0i
 refine zbh (P:=fun v mi vs=>smethV σ v mi vs ≠ .bot→RepV Z μ v a→RepVs Z μ vs us→KOk RepV s Z μ outs (smethV σ v mi vs) Q→mid mi=some id→wpAny (model prog w) A (call (.builtin id) (a :: us)) Q E s) ?_ ?_ ?_ ?_ ?_ ?_ ?_ hb hb ra r ok hid
 ·intro l c i hb ra r ok hid
  injection hid with hid;subst hid
  obtain ⟨u,u',rfl,r1,r2⟩:=z3z r
  obtain ⟨ta,rfl,hl⟩:=ra
  obtain ⟨tu,rfl,_⟩:=r1
  obtain ⟨tv,rfl⟩:=r2
  obtain ⟨h0,e0⟩:=if_r rfl hb
  rw [show smethV σ (.t (.str l)) 0 [.t (.str [c]),.t (.int i)]=_ from e0] at ok
  refine SC.find3 ?_
  have:=z98 l c h0
  exact ok.now ws ⟨_,by rw [← this];rfl⟩
 ·intro l c hb ra r ok hid
  injection hid with hid;subst hid
  obtain ⟨u,rfl,r1⟩:=z0a r
  obtain ⟨ta,rfl,hl⟩:=ra
  obtain ⟨tu,rfl,_⟩:=r1
  refine SC.endswith ?_
  have:=zfv l c
  exact ok.now (tk:=s.toks) ws (by show Value.bool (Txt.endswith _ ⟨#[_]⟩)=_;rw [this])
 ·intro l c hb ra r ok hid
  injection hid with hid;subst hid
  obtain ⟨u,rfl,r1⟩:=z0a r
  obtain ⟨ta,rfl,hl⟩:=ra
  obtain ⟨tu,rfl,_⟩:=r1
  rw [show smethV σ (.t (.str l)) 2 [.t (.str [c])]=_ from if_pos hl] at ok
  have pl:=z4q c l
  refine call_meets F.slot_str_partition (typeIs_str _ _ _) F.entry_str_partition (F.args_str_partition_2 _ _) (meets_str_partition _ _ ta tu (by rfl) (by rw [z03];omega)) ?_
  have e:=z4p l c
  unfold Txt.partition at e
  show wants Q E _ (match Builtin.Str.occurrences (mkS l) ⟨#[c]⟩ 0 (mkS l).length 1 with | i :: tail=>_ | []=>_)
  revert e
  cases Builtin.Str.occurrences (mkS l) ⟨#[c]⟩ 0 (mkS l).length 1 with
  | nil=>
   intro e
   have e1:=(Prod.mk.inj e).1;have e2:=(Prod.mk.inj (Prod.mk.inj e).2).1;have e3:=(Prod.mk.inj (Prod.mk.inj e).2).2
   have:=z1r (tk:=s.toks + 1) (ta:=ta) (tb:=s.toks) (tc:=s.toks) ws (by omega) (by omega) (by omega) ok
   rw [← e1,← e2,← e3] at this
   exact this
  | cons i r=>
   intro e
   have e1:=(Prod.mk.inj e).1;have e2:=(Prod.mk.inj (Prod.mk.inj e).2).1;have e3:=(Prod.mk.inj (Prod.mk.inj e).2).2
   have:=z1r (tk:=s.toks + 1 + 1) (ta:=s.toks) (tb:=tu) (tc:=s.toks + 1) ws (by omega) (by omega) (by omega) ok
   rw [← e1,← e2,← e3] at this
   exact this
 ·intro l c hb ra r ok hid
  injection hid with hid;subst hid
  obtain ⟨u,rfl,r1⟩:=z0a r
  obtain ⟨ta,rfl,hl⟩:=ra
  obtain ⟨tu,rfl,_⟩:=r1
  rw [show smethV σ (.t (.str l)) 3 [.t (.str [c])]=_ from if_pos hl] at ok
  have pl:=z99 c l
  refine call_meets F.slot_str_rpartition (typeIs_str _ _ _) F.entry_str_rpartition (F.args_str_rpartition_2 _ _) (meets_str_rpartition _ _ ta tu (by rfl) (by rw [z03];omega)) ?_
  have e:=z3y l c
  unfold Txt.rpartition at e
  show wants Q E _ (match Builtin.Str.lastOccurrence (mkS l) ⟨#[c]⟩ 0 (mkS l).length with | some i=>_ | none=>_)
  revert e
  cases Builtin.Str.lastOccurrence (mkS l) ⟨#[c]⟩ 0 (mkS l).length with
  | none=>
   intro e
   have e1:=(Prod.mk.inj e).1;have e2:=(Prod.mk.inj (Prod.mk.inj e).2).1;have e3:=(Prod.mk.inj (Prod.mk.inj e).2).2
   have:=z1r (tk:=s.toks + 1) (ta:=s.toks) (tb:=s.toks) (tc:=ta) ws (by omega) (by omega) (by omega) ok
   rw [← e1,← e2,← e3] at this
   exact this
  | some i=>
   intro e
   have e1:=(Prod.mk.inj e).1;have e2:=(Prod.mk.inj (Prod.mk.inj e).2).1;have e3:=(Prod.mk.inj (Prod.mk.inj e).2).2
   have:=z1r (tk:=s.toks + 1 + 1) (ta:=s.toks) (tb:=tu) (tc:=s.toks + 1) ws (by omega) (by omega) (by omega) ok
   rw [← e1,← e2,← e3] at this
   exact this
 ·intro l i hb ra r ok hid
  injection hid with hid;subst hid
  obtain ⟨u,rfl,r1⟩:=z0a r
  obtain ⟨ta,rfl,hl⟩:=ra
  obtain ⟨lv,ei,e0⟩:=zdo (z:=smethV σ (.t (.str l)) 4 [.ref i]) (k:=fun lv=>match strsV lv with
   | some ss=>if (joinL l ss).length≤lineS∧ss.length≤lineS∧l.length ≤ 4 then .ok (.t (.str (joinL l ss))) σ else .bot
   | Option.none=> .bot) rfl hb
  cases es:strsV lv with
  | none=>rw [es] at e0;exact (hb e0).elim
  | some ss=>
   rw [es] at e0
   obtain ⟨hc,e0⟩:=if_r e0 hb
   rw [e0] at ok
   obtain ⟨a,vs,rfl,_,g,rv,_⟩:=z0q ws r1 ei
   obtain ⟨ps,h1,h2⟩:=z9d es rv
   subst h1
   refine SC.join g.isList h2 (z9b hc.1 hc.2.2) fun t' k=>?_
   rw [zbg]
   exact ok.now (tk:=k) ws ⟨_,rfl,hc.1⟩
 ·intro i x hb ra r ok hid
  injection hid with hid;subst hid
  obtain ⟨u,rfl,r1⟩:=z0a r
  obtain ⟨l,ei,e0⟩:=zdo (z:=smethV σ (.ref i) 5 [x]) (k:=fun l=>if l.length < lineS then .ok (.t .none) (σ.set i (.list (l++[x]))) else .bot) rfl hb
  obtain ⟨hc,e0⟩:=if_r e0 hb
  rw [e0] at ok
  obtain ⟨a,vs,rfl,hm,g,rv,_⟩:=z0q ws ra ei
  have ll:=rv.length
  refine wpAny_list_append_plain g (fun h' g' sb=>?_) (by simp only [List.size_toArray];omega)
  refine ok.at (tk:=s.toks) (Sub.refl _) (Pre.refl _) (ws.store hm (a:=a) (by simp [ofSA]) sb.extBut ⟨rfl,by simp;omega,vs++[u],by simpa using g',rv.append ⟨r1,trivial⟩⟩) rfl
 ·intro l k d hb ra r ok hid
  injection hid with hid;subst hid
  obtain ⟨u,u',rfl,r1,r2⟩:=z3z r
  obtain ⟨aa,kvs,rfl,h1,h2,h3⟩:=ra
  obtain ⟨tu,rfl,_⟩:=r1
  obtain ⟨tv,rfl⟩:=r2
  have hd:=((HT _ _ _).mp h1).keep ws.keep
  refine call_meetsIn PySem.F.slot_dict_get hd.typeIs PySem.F.entry_dict_get (PySem.F.args_dict_get_3 _ _ _) (meets_dict_get_default (PySem.strKind prog w) aa (strKind_is prog w (mkS k) tu) h3 (.int d tv)) ⟨_,hd.mapOf,?_⟩
  obtain ⟨k1,k2⟩:=z9e (k:=k) h2
  have:∃ u,(valueAt kvs (mkS k)).getD (.int d tv) = .int ((dictAt l k).getD d) u:=by
   cases e:dictAt l k with
   | none=>rw [k2 e];exact ⟨tv,rfl⟩
   | some i=>obtain ⟨u,e'⟩:=k1 i e;rw [e'];exact ⟨u,rfl⟩
  obtain ⟨u,e⟩:=this
  exact ok.now (tk:=s.toks + 1) ws ⟨u,e⟩
end
end Mine.Internal
namespace Mine.Internal
open PySem PySem.W PySem.Calls PyProof.Rows PySem.SeqAt PySem.StrLaws
variable [PH]
section
variable {prog:Program} {w:World} {HB:Heap} {K:Frag} {mg mb:Str→Option Value} {tb:Tabs} {Φ:Nat→List V→St→R V} {n:Nat} {C:Cx} {fa:Nat→Addr}
noncomputable def sname:Nat→Str
 | 0=>Str.ofString "find" | 1=>Str.ofString "endswith" | 2=>Str.ofString "partition" | 3=>Str.ofString "rpartition" | 4=>Str.ofString "join" | 5=>Str.ofString "append" | 6=>Str.ofString "get" | _=>Str.ofString ""
theorem isl_i {σ:St} {i:Nat} (h:(match σ[i]? with
  | some (.list _)=>true
  | _=>false)=true):∃ l,σ[i]? = some (.list l):=by
 cases e : σ[i]? with
 | none=>rw [e] at h;exact Bool.noConfusion h
 | some o=>
  rw [e] at h
  cases o with
  | list l=>exact ⟨l,rfl⟩
  | inst=>exact Bool.noConfusion h
theorem zg0 (HT:∀ Z a kvs,PH.tab Z a kvs↔Z.DictOf (PySem.strKind prog w) a kvs) {A:Around} {E:Value→Shared→Prop} {s:Shared} {Z:Heap} {μ:List SA} {outs:Outs} {σ:St} (ws:WS Z σ μ outs s.heap)
  {v:V} {mi:Nat} {a:Value} {pl:Sem Bool} {Q:Value×List Value→Shared→Prop} (hf:smFits σ v mi=true) (ra:RepV Z μ v a) (q:∀ id,mid mi=some id→Q (.builtin id,[a]) s) :
  wpAny (model prog w) A (getMethod a (sname mi) pl) Q E s:=by
 cases v with
 | undef=>exact ra.elim
 | t t=>
  cases t with
  | str l=>
   obtain ⟨t,rfl,_⟩:=ra
   have hm:mi ≤ 4:=of_decide_eq_true hf
   obtain rfl | rfl | rfl | rfl | rfl:mi = 0∨mi = 1∨mi = 2∨mi = 3∨mi = 4:=by omega
   ·show wpAny _ _ (getMethod _ (Str.ofString "find") _) _ _ _
    exact GM.find (q _ rfl)
   ·show wpAny _ _ (getMethod _ (Str.ofString "endswith") _) _ _ _
    exact GM.endswith (q _ rfl)
   ·show wpAny _ _ (getMethod _ (Str.ofString "partition") _) _ _ _
    exact GM.partition (q _ rfl)
   ·show wpAny _ _ (getMethod _ (Str.ofString "rpartition") _) _ _ _
    exact GM.rpartition (q _ rfl)
   ·show wpAny _ _ (getMethod _ (Str.ofString "join") _) _ _ _
    exact GM.join (q _ rfl)
  | dict l=>
   obtain rfl:mi = 6:=of_decide_eq_true hf
   obtain ⟨aa,kvs,rfl,h1,h2,h3⟩:=ra
   have hd:=((HT _ _ _).mp h1).keep ws.keep
   show wpAny _ _ (getMethod _ (Str.ofString "get") _) _ _ _
   exact getMethod_builtin hd.typeIs PySem.F.plainAttrs_dict PySem.F.slot_dict_get PySem.F.type_dict_get hd.mapOf.noDict (q _ rfl)
  | _=>exact Bool.noConfusion hf
 | ref i=>
  obtain ⟨h5,h6⟩:=Bool.and_eq_true_iff.mp hf
  obtain rfl:mi = 5:=of_decide_eq_true h5
  obtain ⟨l,ei⟩:=isl_i h6
  obtain ⟨a,vs,rfl,hm,⟨n,g⟩,rv,_⟩:=z0q ws ra ei
  show wpAny _ _ (getMethod _ (Str.ofString "append") _) _ _ _
  exact getMethod_list_append g rfl rfl (q _ rfl)
theorem z9g (HT:∀ Z a kvs,PH.tab Z a kvs↔Z.DictOf (PySem.strKind prog w) a kvs) {o:Expr} {x:X} {name:Str} {mi:Nat} {apos pos:Pos} {es:List Expr} {xs:X} (hp:plainBase o=true) (hl:(apos.endLine == pos.line)=true) (hn:noStar es=true) (hlen:es.length < 30)
  (hname:name=sname mi) (ho:SndE prog w HB tb Φ n C o x) (h:SndL prog w HB tb Φ n C es xs):SndE prog w HB tb Φ n C (.Call (.Attribute o name apos) es [] pos) (.smeth x mi xs):=by
 subst hname
 intro A s Z μ rest σ env L m ρ g z eo ws lc hb Q E ok ex
 rw [zif] at ok hb ex
 refine z0s hp hl hn hlen ?_
 refine (ho g z eo ws lc).bind hb ok ex fun v σ1 Z1 μ1 h1 tk1 a e1 z1 p1 ws1 r1 hb1 ok1 ex1=>?_
 by_cases hf:smFits σ1 v mi=true
 ·simp only [if_pos hf] at hb1 ok1 ex1
  refine zg0 (s:={ s with heap:=h1,toks:=tk1 }) HT ws1 hf r1 fun id hid=>?_
  refine callWith_of (P:=fun _=>True) (by rw [z0j hn];rfl) (fun hp _=>z18 (f:= .builtin id) (fun a q=>Value.noConfusion q) hp) (z07 hn ?_)
  refine (h (s:={ s with heap:=h1,toks:=tk1 }) pos g (z.trans z1) eo ws1 (lc.mono z1 p1)).bind hb1 ok1 ex1 fun vs σ2 Z2 μ2 h2 tk2 us e2 z2 p2 ws2 r2 hb2 ok2 ex2=>?_
  exact ⟨trivial,z9f (s:={ s with heap:=h2,toks:=tk2 }) HT ws2 hb2 (r1.mono z2 p2) r2 ok2 hid⟩
 ·simp only [if_neg hf] at hb1;exact (hb1 rfl).elim
end
end Mine.Internal
namespace Mine.Internal
open PySem PySem.W PySem.Calls PyProof.Rows PySem.SeqAt PySem.StrLaws
variable [PH]
section
variable {prog:Program} {w:World} {HB:Heap} {K:Frag} {mg mb:Str→Option Value} {tb:Tabs} {Φ:Nat→List V→St→R V} {n:Nat} {C:Cx} {fa:Nat→Addr} {A:Around}
noncomputable def Yields (prog:Program) (w:World) (A:Around) (Z:Heap) (I:Addr):List T→Obj→Prop
 | [],o=>∀ (s:Shared) (Q:Option Value→Shared→Prop) (E:Value→Shared→Prop),Sub Z s.heap→s.heap.get? I=some o →
   (∀ h' tk,Heap.ExtBut I s.heap h'→Q none { s with heap:=h',toks:=tk })→wpAny (model prog w) A (pyNext (.ref I)) Q E s
 | x :: xs,o=>∀ (s:Shared) (Q:Option Value→Shared→Prop) (E:Value→Shared→Prop),Sub Z s.heap→s.heap.get? I=some o →
   (∀ v h' tk o',RepT Z x v→Heap.ExtBut I s.heap h'→h'.get? I=some o'→Yields prog w A Z I xs o'→Q (some v) { s with heap:=h',toks:=tk })→wpAny (model prog w) A (pyNext (.ref I)) Q E s
theorem Yields.mono {Z Z':Heap} (k:Sub Z Z') {I:Addr}:∀ {xs:List T} {o:Obj},Yields prog w A Z I xs o→Yields prog w A Z' I xs o
 | [],_,h=>fun s Q E z e q=>h s Q E (k.trans z) e q
 | x :: xs,_,h=>fun s Q E z e q=>h s Q E (k.trans z) e fun v h' tk o' rv eb e' y=>q v h' tk o' (rv.mono k) eb e' (Yields.mono k y)
theorem Yields.of_walks {Z:Heap} {I:Addr} {fp:List Addr} {m:Nat} {P:Nat→Value→Prop} {St:Nat→Heap→Prop} (W:Walks prog w A I fp [I] m P St) (hfp:∀ b∈fp,b=I∨∃ o,Z.get? b=some o) {xs:List T} (hl:xs.length=m)
  (hP:∀ i v,P i v→∀ x,xs[i]? = some x→RepT Z x v) (hI:∀ i h,St i h→∃ o,h.get? I=some o) (hz:Z.get? I=none):∀ (k i:Nat),k+i=m→∀ (o:Obj) (h0:Heap),Sub Z h0→h0.get? I=some o→St i h0→Yields prog w A Z I (xs.drop i) o:=by
 have move:∀ {i:Nat} {o:Obj} {h0 h:Heap},Sub Z h0→h0.get? I=some o→St i h0→Sub Z h→h.get? I=some o→St i h:=by
  intro i o h0 h z0 e0 st z e
  refine W.frame i h0 h st fun b hb ob hob=>?_
  rcases hfp b hb with rfl | ⟨oz,hz⟩
  ·rw [e0] at hob;rw [← hob];exact e
  ·rw [z0 b oz hz] at hob;rw [← hob];exact z b oz hz
 intro k
 induction k with
 | zero=>
  intro i hi o h0 z0 e0 st
  have:xs.drop i=[]:=List.drop_eq_nil_of_le (by omega)
  rw [this]
  intro s Q E z e q
  have hm:i=m:=by omega
  subst hm
  exact W.done s Q E (move z0 e0 st z e) fun h' tk hk=>q h' tk fun b ob hb hob=>hk b ob (by simpa using hb) hob
 | succ k ih=>
  intro i hi o h0 z0 e0 st
  have hlt:i < xs.length:=by omega
  rw [List.drop_eq_getElem_cons hlt]
  intro s Q E z e q
  refine W.item i s Q E (by omega) (move z0 e0 st z e) fun v h' tk pv st' hk=>?_
  obtain ⟨o',e'⟩:=hI _ _ st'
  have eb:Heap.ExtBut I s.heap h':=fun b ob hb hob=>hk b ob (by simpa using hb) hob
  refine q v h' tk o' (hP i v pv _ (List.getElem?_eq_getElem hlt)) eb e' (ih (i + 1) (by omega) o' h' (fun b ob hob=>?_) e' st')
  by_cases hb:b=I
  ·subst hb;rw [hz] at hob;cases hob
  ·exact eb b ob hb (z b ob hob)
structure ItOk (prog:Program) (w:World) (A:Around) (Z:Heap) (I:Addr) (xs:List T) (o:Obj):Prop where
 gives:Yields prog w A Z I xs o
 self:∀ (s:Shared) (Q:Value→Shared→Prop) (E:Value→Shared→Prop),Sub Z s.heap→s.heap.get? I=some o→Q (.ref I) s→wpAny (model prog w) A (pyIter (.ref I)) Q E s
theorem z7b (hh:A.handled=none) {E:Value→Shared→Prop} {s:Shared} {Z:Heap} {μ:List SA} {outs:Outs} {σ:St} (ws:WS Z σ μ outs s.heap) {xs:List T} {a:Value} {Q:Value→Shared→Prop} (r:RepT Z (.tup xs) a)
  (q:∀ I h' o,Sub s.heap h'→s.heap.get? I=none→h'.get? I=some o→ItOk prog w A Z I xs o→Q (.ref I) { s with heap:=h' }):wpAny (model prog w) A (pyIter a) Q E s:=by
 obtain ⟨aa,vs,rfl,ht,rt,hl⟩:=r
 have ht':=IsTup.up ws.keep ht
 obtain ⟨ot,hot,_⟩:=id ht
 refine wpAny_pyIter_tuple ht' ?_
 generalize hoi:({ cls:= .type "tuple_iterator",data:= .fields #[.ref aa,.int 0 0] }:Obj)=oi
 have g:(s.heap.push oi).get? s.heap.objs.size=some oi:=Heap.get?_push_size _ (by rw [← hoi];rfl)
 have n0:=z08 s.heap
 have hne:aa≠s.heap.objs.size:=fun e=>by
  have:=ws.keep _ _ hot
  rw [e,n0] at this;cases this
 have zI:Z.get? s.heap.objs.size=none:=(ws.not_mem n0).2
 have k:Sub s.heap (s.heap.push oi):=fun b o e=>Heap.get?_push_of_some _ e
 have ll:=rt.length
 simp only [Array.length_toList] at ll
 have W:=Walks.tuple (prog:=prog) (w:=w) hh s.heap.objs.size aa hne vs
 have it0:(s.heap.push oi).IsTupleIter s.heap.objs.size aa 0:=⟨oi,g,by rw [← hoi],by rw [← hoi];rfl⟩
 have st0:(s.heap.push oi).IsTupleIter s.heap.objs.size aa 0∧(s.heap.push oi).IsTuple aa vs:=⟨it0,IsTup.up k ht'⟩
 refine q _ _ oi k n0 g ⟨?_,fun s' Q' E' z' e' q'=>?_⟩
 ·have:=Yields.of_walks (Z:=Z) (xs:=xs) W (fun b hb=>by
   simp at hb
   rcases hb with rfl | rfl
   ·exact .inl rfl
   ·exact .inr ⟨_,hot⟩) ll (fun i v pv x hx=>by
    obtain ⟨val,h1,h2⟩:=rt.get hx
    have:vs[i]? = some val:=by simpa using h1
    have pv':vs[i]? = some v:=pv
    rw [this] at pv';cases pv';exact h2) (fun i h st=>by obtain ⟨o,e,_⟩:=st.1;exact ⟨o,e⟩) zI vs.size 0 (by omega) oi (s.heap.push oi) (ws.keep.trans k) g st0
  simpa using this
 ·refine W.self 0 s' Q' E' ⟨⟨oi,e',by rw [← hoi],by rw [← hoi];rfl⟩,IsTup.up z' ht⟩ q'
noncomputable def numT (k:Nat):List T:=(List.range k).map fun j:Nat=>T.int (j:Int)
theorem z7c (hh:A.handled=none) {E:Value→Shared→Prop} {s:Shared} {Z:Heap} {μ:List SA} {outs:Outs} {σ:St} (ws:WS Z σ μ outs s.heap) {k:Int} {t:Tok} (hk0 : 0≤k) (hk:k ≤ 1000) {Q:Value→Shared→Prop}
  (q:∀ I h' tk o,Sub s.heap h'→s.heap.get? I=none→h'.get? I=some o→ItOk prog w A Z I (numT k.toNat) o→Q (.ref I) { s with heap:=h',toks:=tk }) :
  wpAny (model prog w) A (call (.type "range") [.int k t]) (fun r s1=>wpAny (model prog w) A (pyIter r) Q E s1) E s:=by
 refine call_range_1 ?_
 generalize hor:({ cls:= .type "range",data:= .fields #[.int 0 s.toks,.int k t,.int 1 (s.toks + 1)] }:Obj)=orr
 have gr:(s.heap.push orr).get? s.heap.objs.size=some orr:=Heap.get?_push_size _ (by rw [← hor];rfl)
 have k1:Sub s.heap (s.heap.push orr):=fun b o e=>Heap.get?_push_of_some _ e
 have hsz:Builtin.Range.rangeSize 0 k 1=((k.toNat:Nat):Int):=by
  unfold Builtin.Range.rangeSize
  split<;>(try split)<;>omega
 refine wpAny_pyIter_range (a:=0) (b:=k) (c:=1) (t:=s.toks) (u:=t) (v:=s.toks + 1) (gr.trans (congrArg some hor.symm)) ?_ ?_
 ·unfold Builtin.Range.small
  rw [hsz]
  unfold Builtin.Range.rangeFitsLong
  simp only [Bool.and_eq_true,Bool.or_eq_true,decide_eq_true_eq,show ((1:Int) > 0)=True from by simp,if_true]
  omega
 ·rw [hsz]
  generalize hoi:({ cls:= .type "range_iterator",data:= .fields #[rawInt 0,rawInt ((k.toNat:Nat):Int),rawInt 1] }:Obj)=oi
  generalize hH:s.heap.push orr=H at *
  have g:(H.push oi).get? H.objs.size=some oi:=Heap.get?_push_size _ (by rw [← hoi];rfl)
  have k2:Sub H (H.push oi):=fun b o e=>Heap.get?_push_of_some _ e
  have n0:s.heap.get? H.objs.size=none:=by
   cases e:s.heap.get? H.objs.size with
   | none=>rfl
   | some o'=>have:=Heap.lt_size (k1 _ _ e);exact absurd this (Nat.lt_irrefl _)
  have zI:Z.get? H.objs.size=none:=(ws.not_mem n0).2
  have W:=Walks.range (prog:=prog) (w:=w) (A:=A) hh H.objs.size 0 1 k.toNat
  have st0:IsRangeIter (H.push oi) H.objs.size (0+((0:Nat):Int) * 1) ((k.toNat:Int) - ((0:Nat):Int)) 1:=by
   show (H.push oi).get? H.objs.size=some _
   rw [g,← hoi]
   simp
  refine q _ _ _ oi (k1.trans k2) n0 g ⟨?_,fun s' Q' E' z' e' q'=>?_⟩
  ·have:=Yields.of_walks (Z:=Z) (xs:=numT k.toNat) W (fun b hb=>by simp at hb;exact .inl hb) (by simp [numT]) (fun i v pv x hx=>by
    obtain ⟨t,rfl⟩:=pv
    simp only [numT,List.getElem?_map,Option.map_eq_some_iff] at hx
    obtain ⟨j,h1,rfl⟩:=hx
    have:j=i:=by
     rw [List.getElem?_range] at h1
     ·cases h1;rfl
     ·rcases Nat.lt_or_ge i k.toNat with hc | hc
      ·exact hc
      ·rw [List.getElem?_eq_none (by simp;omega)] at h1;cases h1
    subst this
    exact ⟨t,by simp⟩) (fun i h st=>⟨_,st⟩) zI k.toNat 0 (by omega) oi (H.push oi) ((ws.keep.trans k1).trans k2) g st0
   simpa using this
  ·refine W.self 0 s' Q' E' ?_ q'
   show s'.heap.get? H.objs.size=some _
   rw [e',← hoi]
   simp
end
end Mine.Internal
namespace Mine.Internal
open PySem PySem.W PySem.Calls PyProof.Rows PySem.SeqAt PySem.StrLaws
variable [PH]
noncomputable def relS (scope outer:Scope):Scope :=
 { scope with names:=scope.names.map fun (n,k)=>if (k == .free && outer.kind == .function && outer.names.lookup n == some .cell) then (n,.cell) else (n,k) }
theorem z7d (scope:Scope) (env:Env):relabel scope env=relS scope env.scope:=rfl
noncomputable def clo (cells:List (Str×Addr)):List (Str×NameKind)→List (Str×Addr)→List (Str×Addr)
 | [],acc=>acc
 | (n,k) :: r,acc=>if k == .free then clo cells r ((n,(cells.lookup n).getD 0) :: acc) else clo cells r acc
theorem clo_c (cells:List (Str×Addr)) (n:Str) (k:NameKind) (r:List (Str×NameKind)) (acc:List (Str×Addr)) :
  clo cells ((n,k) :: r) acc=if k == .free then clo cells r ((n,(cells.lookup n).getD 0) :: acc) else clo cells r acc:=rfl
theorem z7e {scope:Scope} {env:Env} (h:∀ x∈scope.names,x.2 = .free→∃ c,env.cells.lookup x.1=some c):closureFor scope env=pure (clo env.cells scope.names []):=by
 unfold closureFor
 generalize scope.names=names at h
 suffices H:∀ (acc:List (Str×Addr)),(forIn names acc fun (x:Str×NameKind) (cs:List (Str×Addr))=>(match x with
   | (name,kind)=>if kind == .free then do let c ← cellOf env name;pure (ForInStep.yield ((name,c) :: cs)) else pure (ForInStep.yield cs):Sem (ForInStep (List (Str×Addr)))))=pure (clo env.cells names acc) by
  have:=H []
  simpa using congrArg (· >>= fun cs=>pure cs) this
 induction names with
 | nil=>intro acc;rfl
 | cons x r ih=>
  intro acc
  obtain ⟨n,k⟩:=x
  rw [List.forIn_cons]
  have ih':=ih (fun x hx=>h x (.tail _ hx))
  rw [clo_c]
  by_cases hk:(k == NameKind.free)=true
  ·obtain ⟨c,hc⟩:=h (n,k) (.head _) (beq_iff_eq.mp hk)
   have e:cellOf env n=pure c:=by unfold cellOf;rw [hc]
   simp only [hk,if_true,e,pure_bind]
   rw [ih',hc];rfl
  ·simp only [hk,if_false,Bool.false_eq_true,pure_bind]
   rw [ih']
theorem zg1 {cells:List (Str×Addr)} {names:List (Str×NameKind)}:∀ {acc:List (Str×Addr)},(∀ p∈acc,p.2=(cells.lookup p.1).getD 0)→∀ p∈clo cells names acc,p.2=(cells.lookup p.1).getD 0:=by
 induction names with
 | nil=>intro _ h;exact h
 | cons x r ih=>
  obtain ⟨n,k⟩:=x
  intro acc h
  rw [clo_c]
  by_cases q:(k == NameKind.free)=true
  ·rw [if_pos q]
   refine ih fun p hp=>?_
   rcases List.mem_cons.mp hp with rfl | hp
   ·rfl
   ·exact h p hp
  ·rw [if_neg q];exact ih h
theorem zg2 {cells:List (Str×Addr)} {y:Str} {names:List (Str×NameKind)}:∀ {acc:List (Str×Addr)},((y,NameKind.free)∈names∨∃ c,(y,c)∈acc)→∃ c,(y,c)∈clo cells names acc:=by
 induction names with
 | nil=>intro _ h;rcases h with h | h;cases h;exact h
 | cons x r ih=>
  obtain ⟨n,k⟩:=x
  intro acc h
  rw [clo_c]
  by_cases q:(k == NameKind.free)=true
  ·rw [if_pos q]
   rcases h with h | ⟨c,h⟩
   ·rcases List.mem_cons.mp h with h | h
    ·cases h;exact ih (.inr ⟨_,.head _⟩)
    ·exact ih (.inl h)
   ·exact ih (.inr ⟨c,.tail _ h⟩)
  ·rw [if_neg q]
   rcases h with h | ⟨c,h⟩
   ·rcases List.mem_cons.mp h with h | h
    ·cases h;exact absurd rfl q
    ·exact ih (.inl h)
   ·exact ih (.inr ⟨c,h⟩)
theorem z0z {α:Type}:∀ {l:List (Str × α)} {y:Str} {c : α},(y,c)∈l→∃ c',l.lookup y=some c'
 | (k,v) :: r,y,c,h=>by
  rw [List.lookup_cons]
  cases hb:y == k with
  | true=>exact ⟨v,rfl⟩
  | false=>
   rcases List.mem_cons.mp h with h | h
   ·injection h with h1 h2;subst h1;rw [beq_self_eq_true] at hb;cases hb
   ·exact z0z h
theorem z3h {cells:List (Str×Addr)} {names:List (Str×NameKind)} {y:Str} {c:Addr} (h:(y,NameKind.free)∈names) (hc:cells.lookup y=some c):(clo cells names []).lookup y=some c:=by
 obtain ⟨c0,h0⟩:=zg2 (cells:=cells) (names:=names) (acc:=[]) (.inl h)
 obtain ⟨c1,h1⟩:=z0z h0
 have:=zg1 (cells:=cells) (names:=names) (acc:=[]) (fun p hp=>nomatch hp) _ (mem_of_lookup h1)
 simp only [hc,Option.getD_some] at this
 rw [h1,this]
structure CompOk (C:Cx) (scope:Scope) (x:Str) (i:Nat):Prop where
 kind:scope.kind = .function
 nocell:∀ y∈scope.names,y.2 ≠ .cell
 hx:scope.names.lookup x=some .local
 hnames:∀ y∈scope.names,y.2 = .local→scope.names.lookup y.1=some .local
 at_:C.names[i]? = some x
 only:∀ j,C.names[j]? = some x→j=i
 loc:∀ (j:Nat) y,C.names[j]? = some y→(relS scope C.scope).names.lookup y=some .local→y=x
 cell:∀ y,(relS scope C.scope).names.lookup y=some .cell→C.scope.names.lookup y=some .cell∧(y,NameKind.free)∈scope.names
 free:∀ y∈scope.names,y.2 = .free→C.scope.names.lookup y.1=some .cell
section
variable {prog:Program} {w:World} {HB:Heap} {K:Frag} {mg mb:Str→Option Value} {tb:Tabs} {Φ:Nat→List V→St→R V} {n:Nat} {C:Cx} {fa:Nat→Addr}
noncomputable def CompOk.cx (C:Cx) (scope:Scope):Cx:=⟨C.names,relS scope C.scope⟩
theorem CompOk.env {scope:Scope} {x:Str} {i:Nat} (O:CompOk C scope x i) {env:Env} {L Cc:Addr} (eo:EnvOk C env L):EnvOk (CompOk.cx C scope) (compEnvC scope (clo env.cells scope.names []) Cc env) Cc where
 scope:=by show relabel scope env=_;rw [z7d,eo.scope];rfl
 kind:=O.kind
 glob:=eo.glob
 blt:=eo.blt
 loc:=rfl
 cells:=fun y hy=>by
  obtain ⟨h1,h2⟩:=O.cell y hy
  obtain ⟨c,hc⟩:=eo.cells y h1
  exact ⟨c,z3h h2 hc⟩
theorem CompOk.lc {scope:Scope} {x:Str} {i:Nat} (O:CompOk C scope x i) {env:Env} {L Cc:Addr} (eo:EnvOk C env L) {Z:Heap} {μ:List SA} {m mC:Str→Option Value} {ρ:List V} (l:Lc C env Z μ m ρ) {v:V} {val:Value} (hv:mC x=some val) (r:RepV Z μ v val) :
  Lc (CompOk.cx C scope) (compEnvC scope (clo env.cells scope.names []) Cc env) Z μ mC (ρ.set i v):=by
 intro j y u e1 e2 e3
 have e1':C.names[j]? = some y:=e1
 refine lc_e (fun hk=>?_) fun hk=>?_
 ·have:=O.loc j y e1' hk
  subst this
  have hj:=O.only j e1'
  subst hj
  rw [List.getElem?_set_self'] at e2
  have:u=v:=by
   cases q : ρ[j]? with
   | none=>rw [q] at e2;cases e2
   | some z=>rw [q] at e2;cases e2;rfl
  subst this
  exact ⟨val,hv,r⟩
 ·replace hk:(relS scope C.scope).names.lookup y=some .cell:=hk
  obtain ⟨h1,h2⟩:=O.cell y hk
  have hji:i≠j:=fun q=>by
   subst q
   have:=O.at_
   rw [e1'] at this
   injection this with this
   subst this
   have h4:=O.hx
   have:(relS scope C.scope).names.lookup y=some .local:=lookup_relabel_local (env:={ env with scope:=C.scope }) h4
   rw [hk] at this;cases this
  rw [List.getElem?_set_ne hji] at e2
  have:=l j y u e1' e2 e3
  rw [h1] at this
  obtain ⟨c,w',hc,hcell,hr⟩:=this
  exact ⟨c,w',z3h h2 hc,hcell,hr⟩
end
end Mine.Internal
namespace Mine.Internal
open PySem PySem.W PySem.Calls PyProof.Rows PySem.SeqAt PySem.StrLaws
variable [PH]
section
variable {prog:Program} {w:World} {HB:Heap} {K:Frag} {mg mb:Str→Option Value} {tb:Tabs} {Φ:Nat→List V→St→R V} {n:Nat} {C:Cx} {fa:Nat→Addr}
noncomputable def SndI (prog:Program) (w:World) (HB:Heap) (n:Nat) (C:Cx) (e:Expr) (src:List V→St→R (List T)):Prop :=
 ∀ ⦃A:Around⦄ ⦃s:Shared⦄ ⦃Z:Heap⦄ ⦃μ:List SA⦄ ⦃rest:Outs⦄ ⦃σ:St⦄ ⦃env:Env⦄ ⦃L:Addr⦄ ⦃m:Str→Option Value⦄ ⦃ρ:List V⦄,
  Gd n A (L :: nsA rest)→Sub HB Z→EnvOk C env L→WS Z σ μ ((L,.ns m) :: rest) s.heap→Lc C env Z μ m ρ→src ρ σ ≠ .bot→∀ (Q:Value→Shared→Prop) (E:Value→Shared→Prop),
  (∀ xs σ',src ρ σ = .ok xs σ'→∀ Z' μ' h' tk I o,Sub Z Z'→Pre μ μ'→WS Z' σ' μ' ((I,.ob o) :: (L,.ns m) :: rest) h'→ItOk prog w A Z' I xs o→Q (.ref I) { s with heap:=h',toks:=tk }) →
  KExc s Z μ ((L,.ns m) :: rest) (src ρ σ) E→wpAny (model prog w) A (eval e env) (fun x s1=>wpAny (model prog w) A (pyIter x) Q E s1) E s
noncomputable def tupSrc (tb:Tabs) (Φ:Nat→List V→St→R V) (x:X) (ρ:List V) (σ:St):R (List T):=(den tb Φ x ρ σ).bind fun v σ=>match v with
 | .t (.tup l)=> .ok l σ
 | _=> .bot
noncomputable def rngSrc (tb:Tabs) (Φ:Nat→List V→St→R V) (x:X) (ρ:List V) (σ:St):R (List T):=(den tb Φ x ρ σ).bind fun v σ=>match v with
 | .t (.int k)=>if 0≤k∧k ≤ 1000 then .ok (numT k.toNat) σ else .bot
 | _=> .bot
theorem z9h {e:Expr} {x:X} (h:SndE prog w HB tb Φ n C e x):SndI prog w HB n C e (tupSrc tb Φ x):=by
 intro A s Z μ rest σ env L m ρ g z eo ws lc hb Q E ok ex
 delta tupSrc at hb ok ex
 refine h g z eo ws lc ?_ _ E (fun v σ' e1 Z1 μ1 h1 tk1 x1 z1 p1 ws1 r1=>?_) (fun σ' e1=>?_)
 ·intro q;rw [q] at hb;exact hb rfl
 ·rw [e1] at hb ok
  obtain ⟨l,rfl⟩:=tup_b hb
  refine z7b g.hand ws1 r1 fun I h' o k n0 go it=>?_
  exact ok l σ' rfl Z1 μ1 h' tk1 I o z1 p1 (ws1.pushNew k n0 go) it
 ·exact ex σ' (by rw [e1];rfl)
theorem z4r (G:Ground prog HB K mg mb tb) {e:Expr} {x:X} {nm:Str} {p pos:Pos} (hg:mg nm=none) (hv:mb nm=some (.type "range")) (hx:C.scope.names.lookup nm=some .globalImplicit) (hd:(nm == ("__debug__" : Str))=false) (hn:noStar [e]=true)
  (h:SndE prog w HB tb Φ n C e x):SndI prog w HB n C (.Call (.Name nm p) [e] [] pos) (rngSrc tb Φ x):=by
 intro A s Z μ rest σ env L m ρ g z eo ws lc hb Q E ok ex
 have hkd:env.kindOf nm=C.scope.names.lookup nm:=by show env.scope.names.lookup nm=_;rw [eo.scope]
 have hkf:env.scope.kind = .function:=by rw [eo.scope];exact eo.kind
 have kk:Sub HB s.heap:=z.trans ws.keep
 delta rngSrc at hb ok ex
 refine wpAny_Call_Name_kw (keywords:=[]) ?_
 refine Calls.Name_function_global hkf (hkd.trans hx) (Calls.loadGlobal_builtin (by rw [eo.glob];exact G.g.keeps kk) hg (by rw [eo.blt];exact G.b.keeps kk) hv ?_) hd
 refine callWith_of (P:=fun _=>True) (by rw [z0j hn];rfl) (fun hp _=>z18 (f:= .type "range") (fun a q=>Value.noConfusion q) hp) (z07 hn ?_)
 rw [z0g hn]
 refine spliced_cons ?_
 refine h g z eo ws lc ?_ _ E (fun v σ' e1 Z1 μ1 h1 tk1 x1 z1 p1 ws1 r1=>?_) (fun σ' e1=>?_)
 ·intro q;rw [q] at hb;exact hb rfl
 ·rw [e1] at hb ok
  refine spliced_nil ⟨trivial,?_⟩
  obtain ⟨k,rfl⟩:=int_b hb
  have hk:=ite_r hb
  obtain ⟨t,rfl⟩:=r1
  exact z7c g.hand (s:={ s with heap:=h1,toks:=tk1 }) ws1 hk.1 hk.2 fun I h' tk o k n0 go it=>ok _ σ' (if_pos hk) Z1 μ1 h' tk I o z1 p1 (ws1.pushNew k n0 go) it
 ·exact ex σ' (by rw [e1];rfl)
noncomputable def compSrc (tb:Tabs) (Φ:Nat→List V→St→R V) (src:List V→St→R (List T)) (e:X) (i:Nat) (ρ:List V) (σ:St):R V :=
 (src ρ σ).bind fun xs σ=>compL (fun x σ=>den tb Φ e (ρ.set i x) σ) σ.length (xs.map .t) (σ++[.list []])
theorem zbi (e it:X) (i:Nat) (ρ:List V) (σ:St):den tb Φ (.comp e i it) ρ σ=compSrc tb Φ (tupSrc tb Φ it) e i ρ σ:=by
 rw [zih]
 show _=R.bind (R.bind (den tb Φ it ρ σ) _) _
 cases den tb Φ it ρ σ with
 | ok v σ1=>
  cases v with
  | t t=>cases t<;>rfl
  | ref _=>rfl
  | undef=>rfl
 | exc _=>rfl
 | bot=>rfl
theorem z9i (e it:X) (i:Nat) (ρ:List V) (σ:St):den tb Φ (.compR e i it) ρ σ=compSrc tb Φ (rngSrc tb Φ it) e i ρ σ:=by
 rw [zii]
 show _=R.bind (R.bind (den tb Φ it ρ σ) _) _
 cases den tb Φ it ρ σ with
 | ok v σ1=>
  cases v with
  | t t=>
   cases t with
   | int k=>
    by_cases hk : 0≤k∧k ≤ 1000
    ·have e1:numsV (.t (.int k))=some ((numT k.toNat).map .t):=(if_pos hk).trans (congrArg some (List.map_map (g:=V.t)).symm)
     show (match numsV (.t (.int k)) with | some xs=>_ | none=>R.bot)=R.bind (if 0≤k∧k ≤ 1000 then .ok (numT k.toNat) σ1 else .bot) _
     rw [e1,if_pos hk];rfl
    ·have e1:numsV (.t (.int k))=none:=if_neg hk
     show (match numsV (.t (.int k)) with | some xs=>_ | none=>R.bot)=R.bind (if 0≤k∧k ≤ 1000 then .ok (numT k.toNat) σ1 else .bot) _
     rw [e1,if_neg hk];rfl
   | _=>rfl
  | ref _=>rfl
  | undef=>rfl
 | exc _=>rfl
 | bot=>rfl
theorem zg3 {f:V→St→R V} {i:Nat} {x:V} {r:List V} {σ:St} (h:compL f i (x :: r) σ ≠ .bot) :
  ∃ v σ1 l,f x σ = .ok v σ1 ∧ σ1[i]? = some (.list l)∧l.length < lineS∧compL f i (x :: r) σ=compL f i r (σ1.set i (.list (l++[v]))):=by
 have e:compL f i (x :: r) σ=(match f x σ with
  | .ok v σ=>(match σ[i]? with
   | some (.list l)=>if l.length < lineS then compL f i r (σ.set i (.list (l++[v]))) else .bot
   | _=> .bot)
  | _=> .bot):=rfl
 rw [e] at h ⊢;clear e
 revert h
 cases f x σ with
 | exc _=>intro h;exact (h rfl).elim
 | bot=>intro h;exact (h rfl).elim
 | ok v σ1=>
  intro h
  obtain ⟨l,e7⟩:=zi3 h
  dsimp only at h ⊢
  rw [e7] at h ⊢
  have hl:=ite_r h
  exact ⟨v,σ1,l,rfl,e7,hl,if_pos hl⟩
inductive CmI (prog:Program) (w:World) (A:Around) (s:Shared) (rest:Outs) (Z1:Heap) (μ1:List SA) (J I:Addr) (F:List T→St→Prop):Nat→Shared→Prop
 | mk (xs':List T) (Z':Heap) (μ':List SA) (σ':St) (h':Heap) (tk:Nat) (mC:Str→Option Value) (o':Obj) (a:F xs' σ') (z:Sub Z1 Z') (p:Pre μ1 μ') (ws:WS Z' σ' μ' ((J,.ns mC) :: (I,.ob o') :: rest) h') (y:Yields prog w A Z' I xs' o'):CmI prog w A s rest Z1 μ1 J I F xs'.length { s with heap:=h',toks:=tk }
theorem z3i {elt iter:Expr} {x:Str} {px:Pos} {scope:Scope} {spos:Pos} {e:X} {i:Nat} {src:List V→St→R (List T)} (O:CompOk C scope x i) (hs:∀ env v,foldedSetIterable iter env v=pure v)
  (hI:SndI prog w HB n C iter src) (hE:SndE prog w HB tb Φ n (CompOk.cx C scope) elt e) :
  ∀ {A:Around} {s:Shared} {Z:Heap} {μ:List SA} {rest:Outs} {σ:St} {env:Env} {L:Addr} {m:Str→Option Value} {ρ:List V},
  Gd n A (L :: nsA rest)→Sub HB Z→EnvOk C env L→WS Z σ μ ((L,.ns m) :: rest) s.heap→Lc C env Z μ m ρ→SpV prog w A (eval (.ListComp elt [⟨.Name x px,iter,[],0⟩] scope spos) env) s Z μ ((L,.ns m) :: rest) (compSrc tb Φ src e i ρ σ):=by
 intro A s Z μ rest σ env L m ρ g z eo ws lc hb Q E ok ex
 rw [eval_ListComp]
 have hcl:closureFor scope env=pure (clo env.cells scope.names []):=z7e fun y hy hf=>eo.cells _ (O.free y hy hf)
 refine wpAny_comprehension_free (use:=none) rfl (hs env) hcl O.kind O.hnames ?_
 delta compSrc at hb ok ex
 refine hI g z eo ws lc (fun q=>by rw [q] at hb;exact hb rfl) _ E (fun xs σ1 e1 Z1 μ1 h1 tk1 I o z1 p1 ws1 it=>?_) (fun σ' e1=>ex σ' (by rw [e1];rfl))
 rw [e1] at hb ok
 replace hb:compL (fun x σ=>den tb Φ e (ρ.set i x) σ) σ1.length (xs.map .t) (σ1++[.list []]) ≠ .bot:=hb
 replace ok:KOk RepV s Z μ ((L,.ns m) :: rest) (compL (fun x σ=>den tb Φ e (ρ.set i x) σ) σ1.length (xs.map .t) (σ1++[.list []])) Q:=ok
 refine wpAny_newObj_type ?_ (by show 0≤sizeLine;decide)
 obtain ⟨ws2,r2,p2⟩:=z1y ws1 (l:=[]) (vs:=[]) trivial (Nat.zero_le _)
 generalize hH:h1.push { cls:= .type "list",data:= .seq ([]:List Value).toArray }=H at *
 refine wpAny_newFunctionEnv O.nocell (by intro y hy;simp at hy) (fun h3 hns3 hsb3=>?_) O.kind
 dsimp only at hns3 hsb3 ⊢
 have k3:Sub H h3:=fun b ob e=>hsb3.extBut b ob (Nat.ne_of_lt (Heap.lt_size e)) (Heap.get?_push_of_some _ e)
 have ws3:WS Z1 (σ1++[.list []]) (μ1++[(h1.objs.size,none)]) ((H.objs.size,.ns fun _=>none) :: (I,.ob o) :: (L,.ns m) :: rest) h3:=ws2.pushNew k3 (z08 H) hns3
 have hlen:(σ1++[MO.list []]).length = σ1.length + 1:=by simp
 have loop:∀ (s3:Shared),s3 = { s with heap:=h3,toks:=tk1 + 0 }→codeAny (model prog w) A (.compLoop (.ListComp elt [⟨.Name x px,iter,[],0⟩] scope spos) 0 (.ref I) (.ref h1.objs.size) (compEnvC scope (clo env.cells scope.names []) H.objs.size env))
   (compPost (model prog w) A E none Q (.ref h1.objs.size) H.objs.size) s3:=by
  rintro s3 rfl
  refine codeAny_compLoop_tests (CmI prog w A s ((L,.ns m) :: rest) Z1 (μ1++[(h1.objs.size,none)]) H.objs.size I fun xs' σ'=>compL (fun x σ=>den tb Φ e (ρ.set i x) σ) σ1.length (xs'.map .t) σ'=compL (fun x σ=>den tb Φ e (ρ.set i x) σ) σ1.length (xs.map .t) (σ1++[.list []])) ?_ xs.length
   (.mk xs Z1 _ _ h3 _ _ o rfl (Sub.refl _) (Pre.refl _) ws3 it.gives)
  intro k s' hI
  cases hI with | mk xs' Z' μ' σ' h' tk mC o' ec z' p' ws' y'=>
  have oI:h'.get? I=some o':=ws'.out _ (.tail _ (.head _))
  have dAt : μ'[σ1.length]? = some (h1.objs.size,none):=by
   obtain ⟨sa,q1,q2⟩:=r2
   have:=p' _ _ q1
   rw [this]
   have q3:(μ1++[(h1.objs.size,(none:Option Addr))])[σ1.length]? = some (h1.objs.size,none):=by rw [← ws1.len];simp
   rw [q1] at q3;exact q3
  cases xs' with
  | nil=>
   refine y' _ _ _ ws'.keep oI fun h4 tk4 eb=>?_
   refine ⟨mC,?_,fun h5 sb=>?_⟩
   ·have hne:(H.objs.size:Addr)≠I:=fun q=>ws'.head_off.1 (z02.mpr (.inr ⟨_,.head _,q.symm⟩))
    exact PO.keeps (p:= .ns mC) (fun ob e=>eb _ ob hne e) ws'.head_out
   ·have hIC:(I:Addr)≠H.objs.size:=fun q=>ws'.head_off.1 (z02.mpr (.inr ⟨_,.head _,q⟩))
    have w5:WS Z' σ' μ' ((L,.ns m) :: rest) h4:=ws'.pop.pop.extBut eb ws'.pop.head_off.1 ws'.pop.head_off.2
    have hoff:(H.objs.size:Addr)∉addrs μ' ((L,.ns m) :: rest):=fun q=>ws'.head_off.1 (z0c.mem_iff.mpr (.tail _ q))
    have w6:WS Z' σ' μ' ((L,.ns m) :: rest) h5:=w5.extBut sb.extBut hoff ws'.head_off.2
    exact ok (.ref σ1.length) σ' ec.symm Z' μ' h5 tk4 (.ref h1.objs.size) (z1.trans z') (p1.trans (p2.trans p')) w6 ⟨_,dAt,rfl⟩
  | cons t xs'=>
   refine y' _ _ _ ws'.keep oI fun v h4 tk4 o4 rv eb e4 y4=>?_
   have hIC:(H.objs.size:Addr)≠I:=fun q=>ws'.head_off.1 (z02.mpr (.inr ⟨_,.head _,q.symm⟩))
   have nsC:h4.Ns H.objs.size mC:=PO.keeps (p:= .ns mC) (fun ob e=>eb _ ob hIC e) ws'.head_out
   have w4:WS Z' σ' μ' ((H.objs.size,.ns mC) :: (I,.ob o4) :: (L,.ns m) :: rest) h4:=(ws'.pop.turn eb (p':= .ob o4) e4).push nsC (fun q=>ws'.head_off.1 (by
    rcases z02.mp q with q | ⟨p,hp,hq⟩
    ·exact z02.mpr (.inl q)
    ·rcases List.mem_cons.mp hp with rfl | hp
     ·exact z02.mpr (.inr ⟨_,.head _,hq⟩)
     ·exact z02.mpr (.inr ⟨p,.tail _ hp,hq⟩))) ws'.head_off.2
   have eoC:EnvOk (CompOk.cx C scope) (compEnvC scope (clo env.cells scope.names []) H.objs.size env) H.objs.size:=O.env eo
   have hkx:(compEnvC scope (clo env.cells scope.names []) H.objs.size env).kindOf x=some .local:=lookup_relabel_local O.hx
   refine wpAny_assign_Name (wpAny_storeName_local hkx (m:=mC) nsC (fun h5 hns5 sb5=>?_) (by simp [compEnvC,relabel,O.kind]))
   have w5:=w4.turn sb5.extBut (p':= .ns fun y=>if y=x then some v else mC y) hns5
   refine wpAny_tests_nil ?_
   simp only [if_true]
   have lcC:=O.lc (Cc:=H.objs.size) eo ((lc.mono z1 p1).mono z' (p2.trans p')) (mC:=fun y=>if y=x then some v else mC y) (v:= .t t) (val:=v) (by simp) rv
   obtain ⟨vv,σ6,l,hd,e7,hl,e8⟩:=zg3 (fun q=>hb (ec.symm.trans q))
   replace ec:=e8.symm.trans ec;clear e8
   replace hd:den tb Φ e (ρ.set i (.t t)) σ' = .ok vv σ6:=hd
   refine hE (s:={ s with heap:=h5,toks:=tk4 + 1 }) (g.more _) ((z.trans z1).trans z') eoC w5 lcC (by rw [hd];exact fun q=>nomatch q) _ _ (fun v' σ'' e6 Z6 μ6 h6 tk6 x6 z6 p6 ws6 r6=>?_) (fun σ'' e6=>by rw [hd] at e6;cases e6)
   rw [hd] at e6
   injection e6 with q1 q2
   subst q1 q2
   have dAt6:=p6 _ _ dAt
   obtain ⟨q1,q2,vs,q3,q4⟩:=ws6.rep _ _ _ e7 dAt6
   have ll:l.length=vs.length:=q4.length
   refine wpAny_list_append_plain q3 (fun h7 g7 sb7=>?_) (by rw [List.size_toArray,← ll];exact Nat.le_of_lt (Nat.lt_of_lt_of_le hl z0i))
   refine ⟨xs'.length,Nat.lt_succ_self _,.mk xs' Z6 μ6 _ h7 tk6 (fun y=>if y=x then some v else mC y) o4 ec (z'.trans z6) (p'.trans p6) ?_ (y4.mono z6)⟩
   exact ws6.store dAt6 (a:=h1.objs.size) (by simp [ofSA]) sb7.extBut ⟨rfl,by rw [List.length_append];exact hl,vs++[x6],by simpa using g7,q4.append ⟨r6,trivial⟩⟩
 exact codeAny_compStart_list (loop _ rfl) (it.self _ _ _ ws3.keep (ws3.out _ (.tail _ (.head _))) (loop _ rfl))
theorem zbj {elt iter:Expr} {x:Str} {px:Pos} {scope:Scope} {spos:Pos} {e it:X} {i:Nat} (O:CompOk C scope x i) (hs:∀ env v,foldedSetIterable iter env v=pure v) (h:SndE prog w HB tb Φ n C iter it) (hE:SndE prog w HB tb Φ n (CompOk.cx C scope) elt e) :
  SndE prog w HB tb Φ n C (.ListComp elt [⟨.Name x px,iter,[],0⟩] scope spos) (.comp e i it):=by
 intro A s Z μ rest σ env L m ρ g z eo ws lc
 rw [zbi]
 exact z3i O hs (z9h h) hE g z eo ws lc
theorem z9j (G:Ground prog HB K mg mb tb) {elt ie:Expr} {x nm:Str} {px p pos:Pos} {scope:Scope} {spos:Pos} {e it:X} {i:Nat} (O:CompOk C scope x i) (hg:mg nm=none) (hv:mb nm=some (.type "range")) (hx:C.scope.names.lookup nm=some .globalImplicit) (hd:(nm == ("__debug__" : Str))=false) (hn:noStar [ie]=true)
  (h:SndE prog w HB tb Φ n C ie it) (hE:SndE prog w HB tb Φ n (CompOk.cx C scope) elt e):SndE prog w HB tb Φ n C (.ListComp elt [⟨.Name x px,.Call (.Name nm p) [ie] [] pos,[],0⟩] scope spos) (.compR e i it):=by
 intro A s Z μ rest σ env L m ρ g z eo ws lc
 rw [z9i]
 exact z3i O (fun _ _=>rfl) (z4r G hg hv hx hd hn h) hE g z eo ws lc
end
end Mine.Internal
namespace Mine.Internal
open PySem PySem.W PySem.Calls PyProof.Rows PySem.SeqAt PySem.StrLaws
variable [PH]
noncomputable def ExcT (fl:Value) (Z:Heap) (μ:List SA) (outs:Outs) (h:Heap) (e:Addr):Prop :=
 Z.get? e=none∧e∉addrs μ outs∧∃ oe vs,h.get? e=some oe∧oe.cls = .ref faultC∧oe.data = .fields vs ∧
  ∃ T oT ts,vs[1]? = some (.ref T)∧Z.get? T=none∧T∉addrs μ outs∧T≠e∧h.get? T=some oT∧oT.data = .fields ts∧ts[3]? = some fl
theorem z4s {Z:Heap} {μ:List SA} {outs:Outs} {h:Heap} {e:Addr}:ExcT .none Z μ outs h e↔ExcIn .left Z μ outs h e:=Iff.rfl
theorem z19 {L:Addr} {Z:Heap} {μ:List SA} {outs:Outs} {h:Heap} {e:Addr}:ExcT (rawInt L) Z μ outs h e↔ExcIn (.mine L) Z μ outs h e:=Iff.rfl
noncomputable def fns (l:List Env):List Addr:=l.filterMap (·.frame)
section
variable {Z h h':Heap} {σ:St} {μ:List SA} {outs:Outs} {l:List Env} {as:List Addr}
theorem z9k {a:Addr} (ha:a∈nsA outs):∃ m,(a,PO.ns m)∈outs:=by
 unfold nsA at ha
 obtain ⟨⟨b,p⟩,hp,e⟩:=List.mem_filterMap.mp ha
 cases p with
 | ns m=>simp at e;subst e;exact ⟨m,hp⟩
 | ob o=>simp at e
theorem z9l (hf:∀ env∈l,FrIn (nsA outs) env) {a:Addr} (ha:a∈fns l):∃ m,(a,PO.ns m)∈outs:=by
 obtain ⟨env,he,e⟩:=List.mem_filterMap.mp ha
 obtain ⟨_,L,e1,e2⟩:=hf env he
 rw [e1] at e;cases e
 exact z9k e2
theorem WS.fr_none (w:WS Z σ μ outs h) {a:Addr} {m:Str→Option Value} (ha:(a,PO.ns m)∈outs):Z.get? a=none:=w.fresh a (z02.mpr (.inr ⟨_,ha,rfl⟩))
theorem WS.fr_apart (w:WS Z σ μ outs h) {a:Addr} {m:Str→Option Value} (ha:(a,PO.ns m)∈outs) {i:Nat} {sa:SA} (hi : μ[i]? = some sa):a∉ofSA sa:=fun q=>w.apartOut hi q ha rfl
theorem WS.fr_ob (w:WS Z σ μ outs h) {a:Addr} {m:Str→Option Value} (ha:(a,PO.ns m)∈outs) {o:Obj}:(a,PO.ob o)∉outs:=fun hb=>by
 have n:=(List.nodup_append.mp w.nodup).2.1
 obtain ⟨i,hi⟩:=List.getElem?_of_mem ha
 obtain ⟨j,hj⟩:=List.getElem?_of_mem hb
 have e1:(outs.map (·.1))[i]? = some a:=by rw [List.getElem?_map,hi];rfl
 have e2:(outs.map (·.1))[j]? = some a:=by rw [List.getElem?_map,hj];rfl
 have:i=j:=by
  have hl:=(List.getElem?_eq_some_iff.mp e1).1
  exact (List.getElem?_inj hl n).mp (e1.trans e2.symm)
 subst this
 rw [hi] at hj;cases hj
noncomputable abbrev bs (h:Heap) (l:List Env) (as:List Addr):Heap:=hideAll h (fns l++as)
theorem z4t (w:WS Z σ μ outs h) {b:Addr} {o:Obj} (e:h.get? b=some o) (h1:b∉fns l) (h2:b∉as):(bs h l as).get? b=some o :=
 hideAll_get _ e fun q=>(List.mem_append.mp q).elim h1 h2
theorem z4u (w:WS Z σ μ outs h) (hf:∀ env∈l,FrIn (nsA outs) env):h.FunFrames (bs h l as) l:=by
 have key:∀ l',(∀ env∈l',env∈l)→h.FunFrames (bs h l as) l':=by
  intro l'
  induction l' with
  | nil=>intro _;trivial
  | cons env r ih=>
   intro hs
   have hm:=hs env (.head _)
   obtain ⟨hk,L,e1,e2⟩:=hf env hm
   obtain ⟨m,hm'⟩:=z9k e2
   obtain ⟨o,es,ep,ho,hd,_⟩:=w.out _ hm'
   refine ⟨hk,⟨L,o,e1,hideAll_none _ (List.mem_append_left _ (List.mem_filterMap.mpr ⟨env,hm,e1⟩)),ho,fun vs q=>by rw [hd] at q;cases q⟩,ih fun e he=>hs e (.tail _ he)⟩
 exact key l fun _ x=>x
theorem z6s:(bs h l as).StaysIn h:=fun b o e=>of_hideAll _ e
theorem ws_of (w:WS Z σ μ outs h) (hf:∀ env∈l,FrIn (nsA outs) env) (ha:∀ a∈as,Z.get? a=none∧a∉addrs μ outs) (k:(bs h l as).StaysIn h') (up:h.UpToSlots h'):WS Z σ μ outs h':=by
 have fr:∀ b,b∈fns l→∃ m,(b,PO.ns m)∈outs:=fun b hb=>z9l hf hb
 refine ⟨fun b o e=>?_,w.len,fun i mo sa e e'=>?_,fun p hp=>?_,w.nodup,w.fresh⟩
 ·refine k b o (z4t w (w.keep b o e) (fun q=>?_) (fun q=>?_))
  ·obtain ⟨m,hm⟩:=fr b q;rw [w.fr_none hm] at e;cases e
  ·rw [(ha b q).1] at e;cases e
 ·refine (w.rep i mo sa e e').mono (Sub.refl _) (fun _ _ x=>x) fun b hb o x=>k b o (z4t w x (fun q=>?_) (fun q=>?_))
  ·obtain ⟨m,hm⟩:=fr b q;exact w.fr_apart hm e' hb
  ·exact (ha b q).2 (z02.mpr (.inl ⟨i,sa,e',hb⟩))
 ·have:=w.out p hp
  obtain ⟨a,po⟩:=p
  cases po with
  | ns m=>exact up.ns this
  | ob o=>
   refine k a o (z4t w this (fun q=>?_) (fun q=>?_))
   ·obtain ⟨m,hm⟩:=fr a q;exact w.fr_ob hm hp
   ·exact (ha a q).2 (z02.mpr (.inr ⟨_,hp,rfl⟩))
theorem zdp (w:WS Z σ μ outs h) (hf:∀ env∈l,FrIn (nsA outs) env) (ha:∀ a∈as,Z.get? a=none∧a∉addrs μ outs) {e:Addr} {a0 fl:Value} (he:Z.get? e=none∧e∉addrs μ outs)
  (ff:h'.FunFrames (bs h l as) l) (t:h'.TracedAtW (bs h l as) e (.ref faultC) a0 fl):ExcT fl Z μ outs h' e:=by
 obtain ⟨oe,vs,T,oT,ts,e1,⟨e2,_⟩,e3,e4,e5,e6,e7,e8,e9⟩:=t
 refine ⟨he.1,he.2,oe,vs,e1,e2,e3,T,oT,ts,e4,?_,?_,e6,e7,e8,e9⟩
 ·cases q:Z.get? T with
  | none=>rfl
  | some o=>
   have:(bs h l as).get? T=some o:=z4t w (w.keep _ _ q) (fun hb=>by obtain ⟨m,hm⟩:=z9l hf hb;rw [w.fr_none hm] at q;cases q) (fun hb=>by rw [(ha _ hb).1] at q;cases q)
   rw [e5] at this;cases this
 ·intro q
  obtain ⟨o,ho⟩:=w.there q
  by_cases hb:T∈fns l
  ·obtain ⟨_,o',ho',hn⟩:=ff.mem hb
   rw [e7] at ho';cases ho';exact hn _ e8
  ·have:(bs h l as).get? T=some o:=z4t w ho hb (fun hb=>(ha _ hb).2 q)
   rw [e5] at this;cases this
theorem zdq (x:ExcT fl Z μ outs h e):∃ T a0,(Z.get? T=none∧T∉addrs μ outs)∧h.TracedAtW (bs h l [e,T]) e (.ref faultC) a0 fl∧(bs h l [e,T]).get? e=none:=by
 obtain ⟨x1,x2,oe,vs,e1,e2,e3,T,oT,ts,e4,e5,e6,e7,e8,e9,e10⟩:=x
 have hs : 1 < vs.size:=(Array.getElem?_eq_some_iff.mp e4).1
 have h0:vs[0]? = some vs[0]:=Array.getElem?_eq_getElem (by omega)
 exact ⟨T,vs[0],⟨e5,e6⟩,⟨oe,vs,T,oT,ts,e1,⟨e2,h0⟩,e3,e4,hideAll_none _ (by simp),e7,e8,e9,e10⟩,hideAll_none _ (by simp)⟩
end
noncomputable def ExcS (L:Addr) (Z:Heap) (μ:List SA) (outs:Outs) (h:Heap) (e:Addr):Prop :=
 ExcIn .new Z μ outs h e∨ExcIn (.mine L) Z μ outs h e∨ExcIn .left Z μ outs h e
section
variable {M:Model} {A:Around} {E:Value→Shared→Prop} {s:Shared} {Z:Heap} {μ:List SA} {outs:Outs} {σ:St} {env:Env} {l:List Env} {L e:Addr} {Q:Unit→Shared→Prop}
theorem z40 (hfr:A.frames=some (env :: l)) (hf:∀ x∈env :: l,FrIn (nsA outs) x) (hL:env.frame=some L) (ws:WS Z σ μ outs s.heap) (x:ExcS L Z μ outs s.heap e)
  (q:∀ h',WS Z σ μ outs h'→ExcIn (.mine L) Z μ outs h' e→Q () { s with heap:=h' }):wpAny M A (noteFrame (.ref e) env) Q E s:=by
 rcases x with x | x | x
 ·obtain ⟨x1,x2,oe,vs,e1,e2,e3,e4⟩:=x
  have hs : 1 < vs.size:=(Array.getElem?_eq_some_iff.mp e4).1
  have h0:vs[0]? = some vs[0]:=Array.getElem?_eq_getElem (by omega)
  have ha:∀ a∈[e],Z.get? a=none∧a∉addrs μ outs:=fun a ha=>by simp at ha;subst ha;exact ⟨x1,x2⟩
  unfold noteFrame
  simp only [hL]
  refine wpAny_bind (wpAny_field e1 e3 e4 ?_)
  rw [if_neg (by decide)]
  refine wpAny_entryW (base:=bs s.heap (env :: l) [e]) hfr (z4u ws hf) hL e1 z6s (hideAll_none _ (by simp)) e3 hs h0 fun h' hN=>?_
  obtain ⟨k1,k2,k3,k4⟩:=hN
  rw [e2] at k3
  exact q h' (ws_of ws hf ha k1 k4) (zdp ws hf ha ⟨x1,x2⟩ k2 k3)
 ·obtain ⟨T,a0,hT,ht,_⟩:=zdq (l:=env :: l) (z19.mpr x)
  refine wpAny_noteFrame_againW (base:=bs s.heap (env :: l) [e,T]) hL ht ?_
  exact q s.heap ws x
 ·have x1:=x.1
  have x2:=x.2.1
  obtain ⟨T,a0,hT,ht,he⟩:=zdq (l:=env :: l) (z4s.mpr x)
  have ha:∀ a∈[e,T],Z.get? a=none∧a∉addrs μ outs:=fun a ha=>by
   simp at ha
   rcases ha with rfl | rfl
   ·exact ⟨x1,x2⟩
   ·exact hT
  refine wpAny_noteFrame_onW (base:=bs s.heap (env :: l) [e,T]) hfr (z4u ws hf) hL ht z6s he fun h' hN=>?_
  obtain ⟨k1,k2,k3,k4⟩:=hN
  exact q h' (ws_of ws hf ha k1 k4) (zdp ws hf ha ⟨x1,x2⟩ k2 k3)
theorem z1g {fl:Value} {fr:Option Addr} (ws:WS Z σ μ outs s.heap) (x:ExcT fl Z μ outs s.heap e)
  (q:∀ h',WS Z σ μ outs h'→ExcT (fr.elim .none fun f=>rawInt f) Z μ outs h' e→Q () { s with heap:=h' }):wpAny M A (setFlight (.ref e) fr) Q E s:=by
 obtain ⟨x1,x2,oe,vs,e1,e2,e3,T,oT,ts,e4,e5,e6,e7,e8,e9,e10⟩:=x
 have hs : 3 < ts.size:=(Array.getElem?_eq_some_iff.mp e10).1
 unfold setFlight
 refine wpAny_bind (wpAny_field e1 e3 e4 ?_)
 rw [if_pos (show (Value.ref T != Value.none)=true from by simp)]
 refine wpAny_setField e8 e9 hs ?_
 have eb:Heap.ExtBut T s.heap (s.heap.update T (Obj.mapFields (·.setIfInBounds 3 (fr.elim .none fun f=>rawInt f)))):=(Heap.SameBut.update ..).extBut
 refine q _ (ws.extBut eb e6 e5) ⟨x1,x2,oe,vs,eb _ _ (Ne.symm e7) e1,e2,e3,T,_,_,e4,e5,e6,e7,Heap.get?_update_self _ e8 (Obj.isFreed_of_fields (Obj.data_mapFields e9 _)),Obj.data_mapFields e9 _,by simp [hs]⟩
theorem z9m (hfr:A.frames=some (env :: l)) (hf:∀ x∈env :: l,FrIn (nsA outs) x) (hL:env.frame=some L) (ws:WS Z σ μ outs s.heap) (x:ExcS L Z μ outs s.heap e)
  (q:∀ h',WS Z σ μ outs h'→ExcIn .left Z μ outs h' e→Q () { s with heap:=h' }):wpAny M A (leaving env (.ref e)) Q E s:=by
 unfold leaving
 refine wpAny_bind (z40 hfr hf hL ws x fun h' w' x'=>?_)
 exact z1g (s:={ s with heap:=h' }) (fl:=rawInt L) (fr:=none) w' (z19.mpr x') fun h'' w'' x''=>q h'' w'' (z4s.mp x'')
theorem zbk {E':Value→Shared→Prop} (hfr:A.frames=some (env :: l)) (hf:∀ x∈env :: l,FrIn (nsA outs) x) (hL:env.frame=some L) (ws:WS Z σ μ outs s.heap) (x:ExcS L Z μ outs s.heap e)
  (q:∀ h',WS Z σ μ outs h'→ExcIn (.mine L) Z μ outs h' e→E' (.ref e) { s with heap:=h' }):notedBy M A env (cameBackBy M A env E') (.ref e) s:=by
 unfold notedBy
 refine z40 hfr hf hL ws x fun h' w' x'=>?_
 unfold cameBackBy
 have x'':=x'
 obtain ⟨x1,x2,oe,vs,e1,e2,e3,T,oT,ts,e4,e5,e6,e7,e8,e9,e10⟩:=x''
 refine wpAny_bind (wpAny_field e1 e3 e4 ?_)
 rw [if_neg (show ¬ (Value.ref T == Value.none)=true from by simp)]
 rw [hL]
 exact z1g (s:={ s with heap:=h' }) (fl:=rawInt L) (fr:=some L) w' (z19.mpr x') fun h'' w'' x3=>q h'' w'' (z19.mp x3)
end
end Mine.Internal
namespace Mine.Internal
open PySem PySem.W PySem.Calls PyProof.Rows PySem.SeqAt PySem.StrLaws
variable [PH]
structure StOk (C:Cx) (env:Env) (L:Addr) (A:Around):Prop extends EnvOk C env L where
 frame:env.frame=some L
 top:∃ l,A.frames=some (env :: l)
structure KS (C:Cx) (env:Env) (L:Addr) (s:Shared) (Z:Heap) (μ:List SA) (rest:Outs) (r:RS) (Q:Flow→Shared→Prop) (E:Value→Shared→Prop):Prop where
 next:∀ ρ' σ',r = .next ρ' σ'→∀ Z' μ' m' h' tk,Sub Z Z'→Pre μ μ'→WS Z' σ' μ' ((L,.ns m') :: rest) h'→Lc C env Z' μ' m' ρ'→Q .next { s with heap:=h',toks:=tk }
 ret:∀ v σ',r = .ret v σ'→∀ Z' μ' m' h' tk x,Sub Z Z'→Pre μ μ'→WS Z' σ' μ' ((L,.ns m') :: rest) h'→RepV Z' μ' v x→Q (.ret x) { s with heap:=h',toks:=tk }
 exc:∀ ρ' σ',r = .exc ρ' σ'→∀ Z' μ' m' h' tk e,Sub Z Z'→Pre μ μ'→WS Z' σ' μ' ((L,.ns m') :: rest) h'→ExcS L Z' μ' ((L,.ns m') :: rest) h' e→E (.ref e) { s with heap:=h',toks:=tk }
section
variable {C:Cx} {env:Env} {L:Addr} {s:Shared} {Z:Heap} {μ:List SA} {rest:Outs} {Q:Flow→Shared→Prop} {E:Value→Shared→Prop}
theorem KS.step {r r':RS} {Z':Heap} {μ':List SA} {h':Heap} {tk:Nat} (k:KS C env L s Z μ rest r Q E) (e:r=r') (z:Sub Z Z') (p:Pre μ μ'):KS C env L { s with heap:=h',toks:=tk } Z' μ' rest r' Q E:=by
 subst e
 exact ⟨fun a b e Z'' μ'' m'' h'' tk'' z' p'=>k.next a b e Z'' μ'' m'' h'' tk'' (z.trans z') (p.trans p'),
  fun a b e Z'' μ'' m'' h'' tk'' x z' p'=>k.ret a b e Z'' μ'' m'' h'' tk'' x (z.trans z') (p.trans p'),
  fun a b e Z'' μ'' m'' h'' tk'' x z' p'=>k.exc a b e Z'' μ'' m'' h'' tk'' x (z.trans z') (p.trans p')⟩
theorem Sp.toS {α β:Type} {Rp:Heap→List SA→α→β→Prop} {prog:Program} {w:World} {A:Around} {t:Sem β} {r:R α} {ρ:List V} {f : α→St→RS} {m:Str→Option Value} {Q' : β→Shared→Prop}
  (h:Sp prog w A Rp t s Z μ ((L,.ns m) :: rest) r) (hb:r.toS ρ f ≠ .bot) (k:KS C env L s Z μ rest (r.toS ρ f) Q E)
  (c:∀ a σ' Z' μ' h' tk x,r = .ok a σ'→Sub Z Z'→Pre μ μ'→WS Z' σ' μ' ((L,.ns m) :: rest) h'→Rp Z' μ' a x→f a σ' ≠ .bot→KS C env L { s with heap:=h',toks:=tk } Z' μ' rest (f a σ') Q E→Q' x { s with heap:=h',toks:=tk }) :
  wpAny (model prog w) A t Q' E s:=by
 cases hr:r with
 | bot=>rw [hr] at hb;exact absurd rfl hb
 | exc σ'=>
  refine h (by rw [hr];exact fun x=>nomatch x) Q' E (fun v σ'' e=>by rw [hr] at e;cases e) fun σ'' e Z' μ' h' tk x z p ws ei=>?_
  exact k.exc ρ σ'' (by rw [e];rfl) Z' μ' m h' tk x z p ws (.inr (.inr ei))
 | ok a σ'=>
  refine h (by rw [hr];exact fun x=>nomatch x) Q' E (fun v σ'' e Z' μ' h' tk x z p ws rx=>?_) (fun σ'' e=>by rw [hr] at e;cases e)
  have e2:r.toS ρ f=f v σ'':=by rw [e];rfl
  exact c v σ'' Z' μ' h' tk x e z p ws rx (by rw [← e2];exact hb) (k.step e2 z p)
theorem Lc.store {m:Str→Option Value} {ρ:List V} {x:Str} {i:Nat} {v:V} {val:Value} (l:Lc C env Z μ m ρ) (hi:C.names[i]? = some x) (hk:C.scope.names.lookup x=some .local) (only:∀ j,C.names[j]? = some x→j=i) (r:RepV Z μ v val) :
  Lc C env Z μ (fun y=>if y=x then some val else m y) (ρ.set i v):=by
 intro j y u e1 e2 e3
 by_cases hj:j=i
 ·subst hj
  rw [hi] at e1;injection e1 with e1;subst e1
  rw [hk]
  rw [List.getElem?_set_self'] at e2
  have:u=v:=by
   cases q : ρ[j]? with
   | none=>rw [q] at e2;cases e2
   | some z=>rw [q] at e2;cases e2;rfl
  subst this
  exact ⟨val,by simp,r⟩
 ·rw [List.getElem?_set_ne (Ne.symm hj)] at e2
  have:=l j y u e1 e2 e3
  have hy:y≠x:=fun q=>hj (only j (by rw [e1,q]))
  refine lc_e (fun hk'=>?_) fun hk'=>?_
  ·rw [hk'] at this;simpa [hy] using this
  ·rw [hk'] at this;exact this
end
section
variable {prog:Program} {w:World} {HB:Heap} {K:Frag} {mg mb:Str→Option Value} {tb:Tabs} {Φ:Nat→List V→St→R V} {n W:Nat} {C:Cx} {fa:Nat→Addr}
noncomputable def SndS (prog:Program) (w:World) (HB:Heap) (tb:Tabs) (Φ:Nat→List V→St→R V) (W n:Nat) (C:Cx) (sts:List Stmt) (S:S):Prop :=
 ∀ ⦃A:Around⦄ ⦃s:Shared⦄ ⦃Z:Heap⦄ ⦃μ:List SA⦄ ⦃rest:Outs⦄ ⦃σ:St⦄ ⦃env:Env⦄ ⦃L:Addr⦄ ⦃m:Str→Option Value⦄ ⦃ρ:List V⦄,
  Gd n A (L :: nsA rest)→Sub HB Z→StOk C env L A→WS Z σ μ ((L,.ns m) :: rest) s.heap→Lc C env Z μ m ρ→exS tb Φ W S ρ σ ≠ .bot→∀ (Q:Flow→Shared→Prop) (E:Value→Shared→Prop),
  KS C env L s Z μ rest (exS tb Φ W S ρ σ) Q E→wpAny (model prog w) A (execs sts env) Q E s
noncomputable def SndT (prog:Program) (w:World) (HB:Heap) (tb:Tabs) (Φ:Nat→List V→St→R V) (W n:Nat) (C:Cx) (st:Stmt) (S:S):Prop :=
 ∀ ⦃A:Around⦄ ⦃s:Shared⦄ ⦃Z:Heap⦄ ⦃μ:List SA⦄ ⦃rest:Outs⦄ ⦃σ:St⦄ ⦃env:Env⦄ ⦃L:Addr⦄ ⦃m:Str→Option Value⦄ ⦃ρ:List V⦄,
  Gd n A (L :: nsA rest)→Sub HB Z→StOk C env L A→WS Z σ μ ((L,.ns m) :: rest) s.heap→Lc C env Z μ m ρ→exS tb Φ W S ρ σ ≠ .bot→∀ (Q:Flow→Shared→Prop) (E:Value→Shared→Prop),
  KS C env L s Z μ rest (exS tb Φ W S ρ σ) Q E→wpAny (model prog w) A (exec st env) Q E s
theorem zbl:SndS prog w HB tb Φ W n C [] .nil:=by
 intro A s Z μ rest σ env L m ρ g z so ws lc hb Q E k
 rw [exS_1] at k
 exact wpAny_execs_nil (k.next ρ σ rfl Z μ m s.heap s.toks (Sub.refl _) (Pre.refl _) ws lc)
theorem z9n {st:Stmt} {sts:List Stmt} {a b:S} (h1:SndT prog w HB tb Φ W n C st a) (h2:SndS prog w HB tb Φ W n C sts b):SndS prog w HB tb Φ W n C (st :: sts) (.seq a b):=by
 intro A s Z μ rest σ env L m ρ g z so ws lc hb Q E k
 rw [exS_2] at k hb
 refine wpAny_execs_cons ?_
 have hb1:exS tb Φ W a ρ σ ≠ .bot:=fun q=>by rw [q] at hb;exact hb rfl
 refine h1 g z so ws lc hb1 _ E ⟨fun ρ' σ' e Z' μ' m' h' tk zz p ws' lc'=>?_,fun v σ' e Z' μ' m' h' tk x zz p ws' r=>?_,fun ρ' σ' e Z' μ' m' h' tk x zz p ws' r=>?_⟩
 ·have e2:(exS tb Φ W a ρ σ).andThen (fun ρ σ=>exS tb Φ W b ρ σ)=exS tb Φ W b ρ' σ':=by rw [e];rfl
  exact h2 (s:={ s with heap:=h',toks:=tk }) g (z.trans zz) so ws' lc' (by rw [← e2];exact hb) Q E (k.step e2 zz p)
 ·exact k.ret v σ' (by rw [e];rfl) Z' μ' m' h' tk x zz p ws' r
 ·exact k.exc ρ' σ' (by rw [e];rfl) Z' μ' m' h' tk x zz p ws' r
structure Slot1 (C:Cx) (x:Str) (i:Nat):Prop where
 at_:C.names[i]? = some x
 loc:C.scope.names.lookup x=some .local
 only:∀ j,C.names[j]? = some x→j=i
theorem z1s {A:Around} {E:Value→Shared→Prop} {s:Shared} {Z:Heap} {μ:List SA} {rest:Outs} {σ:St} {env:Env} {L:Addr} {m:Str→Option Value} {ρ:List V} {x:Str} {i:Nat} {v:V} {val:Value} {Q:Unit→Shared→Prop}
  (eo:EnvOk C env L) (ws:WS Z σ μ ((L,.ns m) :: rest) s.heap) (lc:Lc C env Z μ m ρ) (S1:Slot1 C x i) (r:RepV Z μ v val)
  (q:∀ m' h' tk,WS Z σ μ ((L,.ns m') :: rest) h'→Lc C env Z μ m' (ρ.set i v)→Q () { s with heap:=h',toks:=tk }):wpAny (model prog w) A (storeName env x val) Q E s:=by
 have hkd:env.kindOf x=some .local:=by show env.scope.names.lookup x=_;rw [eo.scope];exact S1.loc
 have hkf:env.scope.kind = .function:=by rw [eo.scope];exact eo.kind
 refine wpAny_storeName_local hkd (m:=m) (by rw [eo.loc];exact ws.head_out) (fun h' hn hs=>?_) (by rw [hkf];rfl)
 rw [eo.loc] at hn hs
 exact q _ h' _ (ws.turn hs.extBut (p':= .ns fun y=>if y=x then some val else m y) hn) (lc.store S1.at_ S1.loc S1.only r)
noncomputable def notComp:Expr→Bool
 | .ListComp _ _ _ _ | .SetComp _ _ _ _ | .DictComp _ _ _ _ _=>false
 | _=>true
theorem z1t {e:Expr} {t:Option Expr} {k:Nat} {env:Env} (h:notComp e=true):swapsWith e t k env=pure false:=by
 cases e<;>first | rfl | exact (Bool.false_ne_true h).elim
theorem zbm {x:Str} {i:Nat} {e:Expr} {u:X} {p pos:Pos} (S1:Slot1 C x i) (hn:notComp e=true) (h:SndE prog w HB tb Φ n C e u):SndT prog w HB tb Φ W n C (.Assign [.Name x p] e pos) (.asg i u):=by
 intro A s Z μ rest σ env L m ρ g z so ws lc hb Q E k
 rw [exS_3] at k hb
 refine wpAny_Assign_Name ?_ (z1t hn)
 refine (h g z so.toEnvOk ws lc).toS hb k fun a σ' Z' μ' h' tk v e1 z1 p1 ws1 r1 hb1 k1=>?_
 refine z1s (s:={ s with heap:=h',toks:=tk }) so.toEnvOk ws1 (lc.mono z1 p1) S1 r1 fun m2 h2 tk2 ws2 lc2=>?_
 exact k1.next _ _ rfl Z' μ' m2 h2 tk2 (Sub.refl _) (Pre.refl _) ws2 lc2
theorem z9o {e:Expr} {u:X} {pos:Pos} (hn:notComp e=true) (h:SndE prog w HB tb Φ n C e u):SndT prog w HB tb Φ W n C (.Expr e pos) (.expr u):=by
 intro A s Z μ rest σ env L m ρ g z so ws lc hb Q E k
 rw [exS_8] at k hb
 have hkf:env.scope.kind = .function:=by rw [so.scope];exact so.kind
 refine wpAny_Expr_any ?_ (by unfold interactive;rw [hkf];rfl) (z1t hn)
 refine (h g z so.toEnvOk ws lc).toS hb k fun a σ' Z' μ' h' tk v e1 z1 p1 ws1 r1 hb1 k1=>?_
 exact k1.next _ _ rfl Z' μ' m h' tk (Sub.refl _) (Pre.refl _) ws1 (lc.mono z1 p1)
theorem zbn {e:Expr} {u:X} {pos:Pos} (h:SndE prog w HB tb Φ n C e u):SndT prog w HB tb Φ W n C (.Return (some e) pos) (.ret u):=by
 intro A s Z μ rest σ env L m ρ g z so ws lc hb Q E k
 rw [zdm] at k hb
 refine wpAny_Return_some ?_
 refine (h g z so.toEnvOk ws lc).toS hb k fun a σ' Z' μ' h' tk v e1 z1 p1 ws1 r1 hb1 k1=>?_
 exact k1.ret _ _ rfl Z' μ' m h' tk v (Sub.refl _) (Pre.refl _) ws1 r1
theorem z9p {pos:Pos}:SndT prog w HB tb Φ W n C (.Return none pos) (.ret (.c .none)):=by
 intro A s Z μ rest σ env L m ρ g z so ws lc hb Q E k
 simp only [zdm,den_1] at k hb
 exact wpAny_Return_none (k.ret (.t .none) σ rfl Z μ m s.heap s.toks .none (Sub.refl _) (Pre.refl _) ws rfl)
theorem z9q (r:R V) (ρ:List V) (f:V→St→RS) (a b:St→RS) (hf:∀ v σ,f v σ=match truthV v with | some true=>a σ | some false=>b σ | Option.none=> .bot) :
  r.toS ρ f=(tst r).toS ρ fun t σ=>if t then a σ else b σ:=by
 cases r with
 | ok v σ=>
  show f v σ=R.toS ρ (R.lift (truthV v) σ) _
  rw [hf]
  cases truthV v with
  | none=>rfl
  | some t=>cases t<;>rfl
 | exc σ=>rfl
 | bot=>rfl
theorem zj0 (u:X) (a b:S) (ρ:List V) (σ:St):exS tb Φ W (.ifs u a b) ρ σ=(tst (den tb Φ u ρ σ)).toS ρ fun t σ=>if t then exS tb Φ W a ρ σ else exS tb Φ W b ρ σ:=by
 rw [exS_9]
 exact z9q _ _ _ (fun σ=>exS tb Φ W a ρ σ) (fun σ=>exS tb Φ W b ρ σ) (fun v σ=>by cases truthV v with | none=>rfl | some t=>cases t<;>rfl)
theorem zbo {c:Expr} {u:X} {bs os:List Stmt} {a b:S} {pos:Pos} (h:SndB prog w HB tb Φ n C c u) (h1:SndS prog w HB tb Φ W n C bs a) (h2:SndS prog w HB tb Φ W n C os b):SndT prog w HB tb Φ W n C (.If c bs os pos) (.ifs u a b):=by
 intro A s Z μ rest σ env L m ρ g z so ws lc hb Q E k
 rw [zj0] at k hb
 refine wpAny_If ?_
 refine (h g z so.toEnvOk ws lc).toS hb k fun t σ' Z' μ' h' tk v e1 z1 p1 ws1 r1 hb1 k1=>?_
 obtain rfl:t=v:=r1
 cases t with
 | true=>exact h1 (s:={ s with heap:=h',toks:=tk }) g (z.trans z1) so ws1 (lc.mono z1 p1) hb1 Q E k1
 | false=>exact h2 (s:={ s with heap:=h',toks:=tk }) g (z.trans z1) so ws1 (lc.mono z1 p1) hb1 Q E k1
structure SetOk (K:Frag) (c:Nat):Prop where
 sa:findIn K (.ref (caddr c)) "__setattr__" = some (some (.builtin "object.__setattr__"))
 po:plainOver K (caddr c)=true
theorem zdr {f:Nat} {hsh:Int} {key v:Value}:∀ {fs:List Nat} {es:List DictEntry} {k j:Nat},Keyed fs es→posOf f fs k=some j→(∀ g∈fs,aname g=aname f→g=f) →
  k≤j∧(putL (aname f) hsh key v es).map (·.val)=(es.map (·.val)).set (j - k) v∧Keyed fs (putL (aname f) hsh key v es)
 | [],_,k,j,_,h,_=>by simp [posOf] at h
 | g :: fs,[],k,j,h,_,_=>h.elim
 | g :: fs,e :: es,k,j,⟨⟨t,he⟩,hk⟩,h,hi=>by
  unfold posOf at h
  unfold putL
  split at h
  ·rename_i hg
   injection h with h
   subst h hg
   have:e.key.isStr (aname g)=true:=by rw [he];simp [Value.isStr]
   rw [if_pos this]
   exact ⟨Nat.le_refl _,by simp,⟨t,he⟩,hk⟩
  ·rename_i hg
   obtain ⟨h1,h2,h3⟩:=zdr (hsh:=hsh) (key:=key) (v:=v) hk h (fun g' hg'=>hi g' (.tail _ hg'))
   have:¬ e.key.isStr (aname f)=true:=by
    rw [he]
    simp only [Value.isStr]
    intro q
    exact hg (hi g (.head _) (beq_iff_eq.mp q))
   rw [if_neg this]
   have hs:j - k=(j - (k + 1)) + 1:=by omega
   refine ⟨by omega,?_,⟨t,he⟩,h3⟩
   rw [hs,List.map_cons,List.map_cons,List.set_cons_succ,h2]
theorem z9r {f:Nat} {hsh:Int} {v:Value} {t:Tok}:∀ {fs:List Nat} {es:List DictEntry},Keyed fs es→(∀ g∈fs,aname g≠aname f) →
  (putL (aname f) hsh (.str (aname f) t) v es).map (·.val)=es.map (·.val)++[v]∧Keyed (fs++[f]) (putL (aname f) hsh (.str (aname f) t) v es)
 | [],[],_,_=>⟨rfl,⟨t,rfl⟩,trivial⟩
 | [],_ :: _,h,_=>h.elim
 | g :: fs,[],h,_=>h.elim
 | g :: fs,e :: es,⟨⟨t',he⟩,hk⟩,hi=>by
  obtain ⟨h2,h3⟩:=z9r (hsh:=hsh) (v:=v) (t:=t) hk (fun g' hg'=>hi g' (.tail _ hg'))
  unfold putL
  have:¬ e.key.isStr (aname f)=true:=by
   rw [he]
   simp only [Value.isStr]
   intro q
   exact hi g (.head _) (beq_iff_eq.mp q)
  rw [if_neg this]
  exact ⟨by rw [List.map_cons,List.map_cons,h2];rfl,⟨t',he⟩,h3⟩
theorem osaD {A:Around} {R:Result→Shared→Prop} {s:Shared} {Cc x dx:Addr} {ox:Obj} {es es':List DictEntry} {nn n':Nat} {name:Str} {tk:Tok} {v:Value} (X:K.In s.heap)
  (I:InstAt s.heap x ox Cc (some (dictOf es nn))) (hd:ox.dict=some dx) (D:s.heap.get? dx=some (dictOf es nn)) (hp:plainOver K Cc=true) (ht:takerIn K Cc name=some none) (hh:hasDictIn K Cc=true)
  (hl:(getL name es).isSome=true) (e1:putL name (PyData.keyHash w.params name) (.str name s.toks) v es=es') (e2:putN name es nn=n') (hz:es'.length ≤ 1000)
  (h:∀ h',Heap.ExtBut dx s.heap h'→h'.get? dx=some (dictOf es' n')→R (.ok (.ret .none)) { s with heap:=h',toks:=s.toks + 1 }) :
  codeAny (model prog w) A (.call (.builtin "object.__setattr__") ⟨[.ref x,.str name tk,v],[]⟩) R s:=by
 refine osa_open X I hp ht fun b=>?_
 obtain ⟨cd,hc,hd'⟩:=any_some hh
 have eo:Obj.putName name (PyData.keyHash w.params name) (.str name s.toks) v (dictOf es nn)=dictOf es' n':=by rw [putName_dict,e1,e2]
 have D':(s.heap.update dx (Obj.putName name (PyData.keyHash w.params name) (.str name s.toks) v)).get? dx=some (dictOf es' n'):=eo ▸ Heap.get?_update_self _ D (by rw [eo];rfl)
 have EB:Heap.ExtBut dx s.heap (s.heap.update dx (Obj.putName name (PyData.keyHash w.params name) (.str name s.toks) v)):=(Heap.SameBut.update ..).extBut
 obtain ⟨hx,hcl,hn,-⟩:=I
 obtain ⟨oc,odi,oda,osl⟩:=ox
 dsimp only at hcl hd
 subst hcl hd
 refine wpAny_bind (wpAny_pure (wpAny_bind (wpAny_bind (wpAny_loadPart hx (wpAny_bind ((looks_clsIn X hc).here ?_))))))
 rw [hd']
 refine wpAny_pure (a:=some dx) (wpAny_bind (wpAny_pure (wpAny_bind ?_)))
 unfold nsSet
 refine wpAny_bind (wpAny_bind (wpAny_askSetting (wpAny_pure (wpAny_bind (wpAny_mkText (wpAny_bind (wpAny_loadPart D ?_)))))))
 dsimp only
 have c:(!es.any (·.key.isStr name) && es.any (·.refKey))=false:=by
  unfold getL at hl
  split at hl
  ·rename_i en he
   rw [List.any_eq_true.mpr ⟨en,List.mem_of_find?_eq_some he,List.find?_some he⟩];rfl
  ·split at hl
   ·cases hl
   ·rename_i z;rw [Bool.not_eq_true] at z;rw [z,Bool.and_false]
 have c':(!es.toArray.any (·.key.isStr name) && es.toArray.any (·.refKey))=false:=by
  rw [← Array.any_toList,← Array.any_toList];exact c
 rw [aRefKeyMayBeTheName_at,c']
 refine wpAny_updatePart D ?_
 refine wpAny_bind (wpAny_lookBehind D' (pastItsLine_dict (by rw [List.size_toArray,sizeLine_eq];omega)) ?_)
 exact wpAny_pure (h _ EB D')
theorem z4v:∀ {fs:List Nat} {es:List DictEntry},Keyed fs es→fs.length=es.length
 | [],[],_=>rfl
 | [],_ :: _,h=>h.elim
 | _ :: _,[],h=>h.elim
 | _ :: _,_ :: _,⟨_,h⟩=>by simp only [List.length_cons,z4v h]
theorem z62:∀ {fs:List Nat} {es:List DictEntry} {name:Str},Keyed fs es→(getL name es).isSome=true
 | fs,es,name,h=>by
  unfold getL
  cases q:es.find? (·.key.isStr name) with
  | some e=>rfl
  | none=>
   have:∀ {fs:List Nat} {es:List DictEntry},Keyed fs es→es.any (·.refKey)=false:=by
    intro fs
    induction fs with
    | nil=>intro es h;cases es with | nil=>rfl | cons _ _=>exact h.elim
    | cons g fs ih=>
     intro es h
     cases es with
     | nil=>exact h.elim
     | cons e es=>
      obtain ⟨⟨t,he⟩,h'⟩:=h
      rw [List.any_cons,ih h',Bool.or_false]
      simp [DictEntry.refKey,he]
   simp only
   rw [if_neg (by rw [this h];decide)];rfl
theorem z35:∀ {fs:List Nat} {f k j:Nat},posOf f fs k=some j→∀ g∈fs.take (j - k),g≠f
 | [],_,_,_,h=>by simp [posOf] at h
 | g :: fs,f,k,j,h=>by
  unfold posOf at h
  split at h
  ·injection h with h;subst h;intro g' hg';simp at hg'
  ·rename_i hne
   have hl:=z2d h
   have hs:j - k=(j - (k + 1)) + 1:=by omega
   rw [hs,List.take_succ_cons]
   intro g' hg'
   rcases List.mem_cons.mp hg' with rfl | hg'
   ·exact hne
   ·exact z35 h g' hg'
theorem z4w:∀ {fs:List Nat} {f k j:Nat},posOf f fs k=some j→fs[j - k]? = some f
 | [],_,_,_,h=>by simp [posOf] at h
 | g :: fs,f,k,j,h=>by
  unfold posOf at h
  split at h
  ·rename_i e;injection h with h;subst h e;simp
  ·have hl:=z2d h
   have hs:j - k=(j - (k + 1)) + 1:=by omega
   rw [hs,List.getElem?_cons_succ]
   exact z4w h
theorem z7f (c:Nat):(fieldsOf c).length ≤ 3:=by
 by_cases hc:c < 12
 ·exact (by decide:∀ c,c < 12→(fieldsOf c).length ≤ 3) c hc
 ·obtain ⟨d,rfl⟩:∃ d,c=d + 12:=⟨c - 12,by omega⟩
  exact Nat.zero_le _
theorem z3j {α β:Type} {f : α→List β}:∀ {l:List α} {x : α},(l.flatMap f).Nodup→x∈l→(f x).Nodup
 | y :: l,x,n,h=>by
  rw [List.flatMap_cons] at n
  rcases List.mem_cons.mp h with rfl | h
  ·exact (List.nodup_append.mp n).1
  ·exact z3j (List.nodup_append.mp n).2.1 h
theorem zg4 (G:Ground prog HB K mg mb tb) (cl:∀ c,c < 12→ClsOk K c) (cs:∀ c,c < 12→SetOk K c) {A:Around} {E:Value→Shared→Prop} {s:Shared} {Z:Heap} {μ:List SA} {outs:Outs} {σ σ':St} (z:Sub HB Z) (ws:WS Z σ μ outs s.heap)
  {u v:V} {f:Nat} {a b:Value} {Q:Unit→Shared→Prop} (e:setA σ u f v=some σ') (ru:RepV Z μ u a) (rv:RepV Z μ v b) (q:∀ h' tk,WS Z σ' μ outs h'→Q () { s with heap:=h',toks:=tk }) :
  wpAny (model prog w) A (setAttr a (aname f) b) Q E s:=by
 have X:K.In s.heap:=G.frag.keeps (z.trans ws.keep)
 cases u with
 | undef=>exact ru.elim
 | t t=>exact nS e
 | ref i=>
  obtain ⟨c,l,ei,e⟩:=z8v e
  obtain ⟨j,h1,h2⟩:=Option.bind_eq_some_iff.mp e
  obtain ⟨⟨aa,dd⟩,h3,rfl⟩:=ru
  obtain ⟨d,es,nn,h4,g1,g2,g3,g4,g5⟩:=ws.rep i _ _ ei h3
  simp only at h4 g1
  subst h4
  have hc:=z21 h1
  have co:=cl c hc
  have hjl:=z2d h1
  have hf:f∈fieldsOf c:=z31 h1
  have I:InstAt s.heap aa (instObj (caddr c) d) (caddr c) (some (dictOf es nn)):=⟨g1,rfl,rfl,g2⟩
  have ht:takerIn K (caddr c) (aname f)=some none:=by unfold takerIn;rw [co.no f hf];rfl
  have l5:=g5.length
  rw [List.length_map] at l5
  have ap:∀ g∈(fieldsOf c).take l.length,aname g=aname f→g=f:=fun g hg=>co.apart f hf g (List.mem_of_mem_take hg)
  have go:∀ l' es',l'.length≤(fieldsOf c).length→putL (aname f) (PyData.keyHash w.params (aname f)) (.str (aname f) (s.toks + 1)) b es=es'→Keyed ((fieldsOf c).take l'.length) es'→RepVs Z μ l' (es'.map (·.val))→σ' = σ.set i (.inst c l') →
    wpAny (model prog w) A (setAttr (.ref aa) (aname f) b) Q E s:=by
   intro l' es' q1 q2 q3 q4 q5
   have lz:es'.length ≤ 1000:=by
    have:=z4v q3
    rw [List.length_take] at this
    have:=z7f c
    omega
   refine set_plain X I (cs c hc).sa (osaD (s:={ s with toks:=s.toks + 1 }) X I rfl g2 (cs c hc).po ht co.hd (z62 g3) q2 rfl lz fun h' eb hd'=>?_)
   subst q5
   refine q h' _ (ws.store h3 (a:=d) (by simp [ofSA]) eb ⟨d,es',_,rfl,eb _ _ ?_ g1,hd',q3,q1,q4⟩)
   intro q
   have:=ws.nodup
   unfold addrs at this
   have n1:=(List.nodup_append.mp this).1
   have:(ofSA (aa,some d)).Nodup:=z3j n1 (List.mem_of_getElem? h3)
   simp [ofSA] at this
   exact this q
  by_cases hj:j < l.length
  ·rw [if_pos hj] at h2
   have h2:=Option.some.inj h2
   obtain ⟨_,q2,q3⟩:=zdr (hsh:=PyData.keyHash w.params (aname f)) (key:= .str (aname f) (s.toks + 1)) (v:=b) g3 (z20 h1 (by omega)) ap
   refine go (l.set j v) _ (by rw [List.length_set];exact g4) rfl (by rw [List.length_set];exact q3) ?_ h2.symm
   rw [q2,Nat.sub_zero]
   exact g5.set rv
  ·rw [if_neg hj] at h2
   ·obtain ⟨hj,h7⟩:=z1d h2
    subst hj
    have fresh:∀ g∈(fieldsOf c).take l.length,aname g≠aname f:=fun g hg q=>by
     have:=z35 h1 g (by rw [Nat.sub_zero];exact hg)
     exact this (ap g hg q)
    obtain ⟨q2,q3⟩:=z9r (hsh:=PyData.keyHash w.params (aname f)) (t:=s.toks + 1) (v:=b) g3 fresh
    have tk:(fieldsOf c).take (l.length + 1)=(fieldsOf c).take l.length++[f]:=by
     have:=z4w h1
     rw [Nat.sub_zero] at this
     rw [List.take_succ,this];rfl
    refine go (l++[v]) _ (by simp;omega) rfl (by rw [List.length_append];show Keyed ((fieldsOf c).take (l.length + 1)) _;rw [tk];exact q3) ?_ h7
    rw [q2]
    exact g5.append ⟨rv,trivial⟩
theorem z9s (G:Ground prog HB K mg mb tb) (cl:∀ c,c < 12→ClsOk K c) (cs:∀ c,c < 12→SetOk K c) {o e:Expr} {x u:X} {f:Nat} {at_:Str} {p pos:Pos} (hat:at_=aname f) (hn:notComp e=true) (ho:SndE prog w HB tb Φ n C o x) (he:SndE prog w HB tb Φ n C e u) :
  SndT prog w HB tb Φ W n C (.Assign [.Attribute o at_ p] e pos) (.setA x f u):=by
 subst hat
 intro A s Z μ rest σ env L m ρ g z so ws lc hb Q E k
 rw [exS_6] at k hb
 refine plainObj_wpAny_Assign_Attribute ?_ (z1t hn)
 refine (he g z so.toEnvOk ws lc).toS hb k fun a σ1 Z1 μ1 h1 tk1 v e1 z1 p1 ws1 r1 hb1 k1=>?_
 refine (ho (s:={ s with heap:=h1,toks:=tk1 }) g (z.trans z1) so.toEnvOk ws1 (lc.mono z1 p1)).toS hb1 k1 fun b σ2 Z2 μ2 h2 tk2 v2 e2 z2 p2 ws2 r2 hb2 k2=>?_
 cases es:setA σ2 b f a with
 | none=>simp only [es] at hb2;exact (hb2 rfl).elim
 | some σ3=>
  simp only [es] at k2
  refine zg4 (s:={ s with heap:=h2,toks:=tk2 }) G cl cs ((z.trans z1).trans z2) ws2 es r2 (r1.mono z2 p2) fun h3 tk3 ws3=>?_
  exact k2.next _ _ rfl Z2 μ2 m h3 tk3 (Sub.refl _) (Pre.refl _) ws3 ((lc.mono z1 p1).mono z2 p2)
theorem z41 {A:Around} {E:Value→Shared→Prop} {s:Shared} {l:Addr} {items:Array Value} {k:Int} {t:Tok} {v:Value} {Q:Unit→Shared→Prop} (hp:s.heap.PlainList l items) (h0 : 0≤k) (hfit:k < 2 ^ 63) (hn:k.toNat < items.size)
  (hQ:∀ h',h'.PlainList l (items.setIfInBounds k.toNat v)→Heap.SameBut l s.heap h'→Q () { s with heap:=h' }):wpAny (model prog w) A (setItem (.ref l) (.int k t) v) Q E s:=by
 obtain ⟨n,ho⟩:=id hp
 have hl:=hp.isList
 have hfits:=PySem.fitsIndex_of h0 hfit
 unfold setItem
 try with_reducible refine wpAny_holding ?_
 first | refine wpAny_bind (wpAny_pure ?_) | skip
 refine wpAny_bind (wpAny_sequenceKey hl.typeIs (by decide) ?_)
 refine wpAny_bind (wpAny_callSpecial?_slot (name:=Str.ofString "__setitem__") hl.typeIs slot_list_setitem (wpAny_call_entry slot_list_setitem hl.typeIs entry_list_setitem ?_ (args_list_setitem _ _ _)))
 show wpAny _ _ (Builtin.List.listSubscript? (.int k t) >>= _) _ _ s
 refine wpAny_bind (wpAny_listSubscript_int hfits ?_)
 clear hfit hfits
 obtain ⟨j,rfl⟩:=Int.eq_ofNat_of_zero_le h0
 have hj:j < items.size:=hn
 have hx:items[j]? = some items[j]:=Array.getElem?_eq_getElem hj
 show wpAny _ _ ((seqItemAt l j >>= fun r=>pure (r.map (j,·))) >>= _) _ _ s
 refine wpAny_bind (wpAny_bind (wpAny_seqItemAt ho rfl (wpAny_pure ?_)))
 rw [hx]
 show wpAny _ _ (setSeqItemAt l j v >>= _) _ _ s
 have hfin:(s.heap.update l (Obj.mapSeq (·.setIfInBounds j v))).PlainList l (items.setIfInBounds j v):=⟨_,Heap.get?_update_self _ ho rfl⟩
 refine wpAny_bind (wpAny_setSeqItemAt ho rfl ?_)
 first
  | exact wpAny_bind (wpAny_pure (wpAny_pure ⟨.none,rfl,wpAny_pure (hQ _ hfin (Heap.SameBut.update ..))⟩))
  | exact wpAny_pure ⟨.none,rfl,wpAny_pure (hQ _ hfin (Heap.SameBut.update ..))⟩
theorem zg5 {A:Around} {E:Value→Shared→Prop} {s:Shared} {Z:Heap} {μ:List SA} {outs:Outs} {σ σ':St} (ws:WS Z σ μ outs s.heap)
  {u i v:V} {a b c:Value} {Q:Unit→Shared→Prop} (e:setI σ u i v=some σ') (ru:RepV Z μ u a) (ri:RepV Z μ i b) (rv:RepV Z μ v c) (q:∀ h' tk,WS Z σ' μ outs h'→Q () { s with heap:=h',toks:=tk }) :
  wpAny (model prog w) A (setItem a b c) Q E s:=by
 have zl:lineS = 1048576:=rfl
 cases u with
 | undef=>exact ru.elim
 | t t=>exact nS e
 | ref j=>
  cases i with
  | undef=>exact ri.elim
  | ref _=>exact nS e
  | t t=>
   cases t with
   | int k=>
    obtain ⟨tk,rfl⟩:=ri
    obtain ⟨l,ei,e⟩:=zdf e
    obtain ⟨hk,rfl⟩:=z1d e
    obtain ⟨aa,vs,rfl,hm,⟨n,g1⟩,rl,hl⟩:=z0q ws ru ei
    have ll:=rl.length
    refine z41 ⟨n,g1⟩ hk.1 (by omega) (by simp only [List.size_toArray];omega) fun h' hl' sb=>?_
    exact q h' s.toks (ws.store hm (a:=aa) (by simp [ofSA]) sb.extBut ⟨rfl,by rw [List.length_set];exact hl,vs.set k.toNat c,by simpa using hl',rl.set rv⟩)
   | _=>exact nS e
theorem z9t {o i e:Expr} {x y u:X} {p pos:Pos} (hs:notSlice i=true) (hn:notComp e=true) (ho:SndE prog w HB tb Φ n C o x) (hi:SndE prog w HB tb Φ n C i y) (he:SndE prog w HB tb Φ n C e u):SndT prog w HB tb Φ W n C (.Assign [.Subscript o i p] e pos) (.setI x y u):=by
 intro A s Z μ rest σ env L m ρ g z so ws lc hb Q E k
 rw [exS_7] at k hb
 refine wpAny_Assign_Subscript ?_ (z1t hn)
 refine (he g z so.toEnvOk ws lc).toS hb k fun a σ1 Z1 μ1 h1 tk1 v e1 z1 p1 ws1 r1 hb1 k1=>?_
 refine (ho (s:={ s with heap:=h1,toks:=tk1 }) g (z.trans z1) so.toEnvOk ws1 (lc.mono z1 p1)).toS hb1 k1 fun b σ2 Z2 μ2 h2 tk2 v2 e2 z2 p2 ws2 r2 hb2 k2=>?_
 refine (hi (s:={ s with heap:=h2,toks:=tk2 }) g ((z.trans z1).trans z2) so.toEnvOk ws2 ((lc.mono z1 p1).mono z2 p2)).toS hb2 k2 fun c σ3 Z3 μ3 h3 tk3 v3 e3 z3 p3 ws3 r3 hb3 k3=>?_
 cases es:setI σ3 b c a with
 | none=>simp only [es] at hb3;exact (hb3 rfl).elim
 | some σ4=>
  simp only [es] at k3
  refine zg5 (s:={ s with heap:=h3,toks:=tk3 }) ws3 es (r2.mono z3 p3) r3 ((r1.mono z2 p2).mono z3 p3) fun h4 tk4 ws4=>?_
  exact k3.next _ _ rfl Z3 μ3 m h4 tk4 (Sub.refl _) (Pre.refl _) ws4 (((lc.mono z1 p1).mono z2 p2).mono z3 p3)
inductive Slots (C:Cx):List Str→List Nat→Prop
 | nil:Slots C [] []
 | cons {x i xs is}:Slot1 C x i→Slots C xs is→Slots C (x :: xs) (i :: is)
theorem z4x {E:Value→Shared→Prop} {A:Around} {rest:Outs} {env:Env} {L:Addr} {Z:Heap} {μ:List SA} {σ:St} (eo:EnvOk C env L) {α:Type} {nm : α→Str} {t : α→Value→Sem Unit}
  (ht:∀ x v (Q:Unit→Shared→Prop) (s:Shared),wpAny (model prog w) A (storeName env (nm x) v) Q E s→wpAny (model prog w) A (t x v) Q E s) (xs:List α) :
  ∀ (is:List Nat) (vs:List V) (us:List Value) (s:Shared) (m:Str→Option Value) (ρ:List V) (Q:Unit→Shared→Prop),Slots C (xs.map nm) is→WS Z σ μ ((L,.ns m) :: rest) s.heap→Lc C env Z μ m ρ→RepVs Z μ vs us→xs.length=vs.length →
  (∀ m' h' tk,WS Z σ μ ((L,.ns m') :: rest) h'→Lc C env Z μ m' (setAll ρ is vs)→Q () { s with heap:=h',toks:=tk })→wpAny (model prog w) A (assignInOrder (xs.map t) us) Q E s:=by
 induction xs with
 | nil=>
  intro is vs us s m ρ Q Sl ws lc r hl q
  cases Sl
  cases vs with
  | nil=>exact wpAny_pure (q m s.heap s.toks ws lc)
  | cons _ _=>simp at hl
 | cons x xs ih=>
  intro is vs us s m ρ Q Sl ws lc r hl q
  rw [List.map_cons] at Sl
  cases Sl with
  | cons S1 Sl=>
  cases vs with
  | nil=>simp at hl
  | cons v vs=>
   cases us with
   | nil=>exact r.elim
   | cons u us=>
    rw [List.map_cons]
    refine wpAny_assignInOrder_more (ht _ _ _ _ (z1s eo ws lc S1 r.1 fun m' h' tk ws' lc'=>?_))
    exact ih _ vs us { s with heap:=h',toks:=tk } m' _ Q Sl ws' lc' r.2 (by simpa using hl) fun m2 h2 tk2 ws2 lc2=>q m2 h2 tk2 ws2 lc2
theorem z1h {env:Env}:∀ (ts:List (Str×Pos)),assignEach (ts.map fun t=>Expr.Name t.1 t.2) env=ts.map fun t=>(false,assign (.Name t.1 t.2) env)
 | []=>rfl
 | t :: ts=>by rw [List.map_cons,List.map_cons,← z1h ts];rfl
theorem zbp {ρ:List V} {i j:Nat} {v u:V} (h:i≠j):setAll ρ [j,i] [u,v]=setAll ρ [i,j] [v,u]:=by
 show List.set (List.set ρ j u) i v=List.set (List.set ρ i v) j u
 exact List.set_comm _ _ (Ne.symm h)
theorem zg6 {Z:Heap} {μ:List SA} {v u:V} {us:List Value} (r:RepVs Z μ [v,u] us):RepVs Z μ [u,v] us.reverse∧us.length = 2:=by
 obtain ⟨a,b,rfl,h1,h2⟩:=z3z r
 exact ⟨⟨h2,h1,trivial⟩,rfl⟩
theorem z9u {x1 x2:Str} {p1 p2 tp vp pos:Pos} {k k':Nat} {vs:List Expr} {i j:Nat} {u:X} (hn1:noStar vs=true) (Sa:Slot1 C x1 i) (Sb:Slot1 C x2 j) (hij:i≠j) (h:SndL prog w HB tb Φ n C vs u)
  (hsw:∀ env:Env,env.scope=C.scope→swappedStores [.Tuple [.Name x1 p1,.Name x2 p2] k tp] (.Tuple vs k' vp) env=pure (some [x1,x2])) :
  SndT prog w HB tb Φ W n C (.Assign [.Tuple [.Name x1 p1,.Name x2 p2] k tp] (.Tuple vs k' vp) pos) (.asgP [i,j] u):=by
 intro A s Z μ rest σ env L m ρ g z so ws lc hb Q E kk
 rw [exS_5] at kk hb
 refine Assign_Tuple_swapped (names:=[x1,x2]) ?_ rfl (hsw env so.scope)
 refine wpAny_Tuple ?_
 refine (h vp g z so.toEnvOk ws lc).toS hb kk fun a σ1 Z1 μ1 h1 tk1 us e1 z1 p1' ws1 r1 hb1 k1=>?_
 cases et:treesV a with
 | none=>simp only [et] at hb1;exact (hb1 rfl).elim
 | some ts=>
  simp only [et] at hb1 k1
  by_cases hl:a.length = 2
  ·have hl2:a.length=[i,j].length:=hl
   rw [if_pos hl2] at k1
   have rt:=r1.trees et
   have lt:=rt.length
   have lv:=r1.length
   refine ⟨by have:=z0i;have e:lineS = 1048576:=rfl;omega,?_⟩
   obtain ⟨Z',zz,w',gg,_⟩:=z0v (s:={ s with heap:=h1,toks:=tk1 }) (o:={ cls:= .type "tuple",data:= .seq us.toArray }) ws1 rfl
   have hT:IsTup (h1.push { cls:= .type "tuple",data:= .seq us.toArray }) h1.objs.size us.toArray:=⟨_,Heap.get?_push_size _ rfl,rfl,_,rfl⟩
   have hsz:us.toArray.size = 2:=by simp only [List.size_toArray];omega
   have:=unpackItems_tuple (prog:=prog) (w:=w) (A:=A) (E:=E) (s:={ s with heap:=h1.push { cls:= .type "tuple",data:= .seq us.toArray },toks:=tk1 })
    (Q:=fun items s₂=>wpAny (model prog w) A (assignInOrder ([x1,x2].reverse.map fun n=>bindName env n) items.reverse) (fun _=>Q .next) E s₂) g.hand hT ?_
   ·rw [hsz] at this;exact this
   intro h' eb
   have w2:WS Z' σ1 μ1 ((L,.ns m) :: rest) h':=w'.extBut eb ((w'.not_mem (z08 _)).1) ((w'.not_mem (z08 _)).2)
   obtain ⟨v,r,e0⟩:∃ v r,a=[v,r]:=by
    match a,hl with
    | [v,r],_=>exact ⟨v,r,rfl⟩
   subst e0
   obtain ⟨r3,_⟩:=zg6 (r1.mono zz (Pre.refl _))
   refine z4x (nm:=fun x=>x) (t:=fun x=>bindName env x) so.toEnvOk (fun x v Q s h=>wpAny_bindName h) [x2,x1] [j,i] _ _ { s with heap:=h',toks:=tk1 } _ _ _ (.cons Sb (.cons Sa .nil)) w2 ((lc.mono z1 p1').mono zz (Pre.refl _)) r3 rfl fun m' h2 tk2 ws2 lc2=>?_
   rw [zbp hij] at lc2
   exact k1.next _ _ rfl Z' μ1 m' h2 tk2 zz (Pre.refl _) ws2 lc2
  ·have hl2:¬ a.length=[i,j].length:=hl
   rw [if_neg hl2] at hb1;exact (hb1 rfl).elim
theorem z4y {A:Around} {E:Value→Shared→Prop} {s:Shared} {Z:Heap} {μ:List SA} {rest:Outs} {σ:St} {env:Env} {L:Addr} {m:Str→Option Value} {ρ:List V} {l:List T} {a:Value} {ts:List (Str×Pos)} {is:List Nat} {k:Nat} {tp:Pos} {Q:Unit→Shared→Prop}
  (hh:A.handled=none) (eo:EnvOk C env L) (ws:WS Z σ μ ((L,.ns m) :: rest) s.heap) (lc:Lc C env Z μ m ρ) (Sl:Slots C (ts.map (·.1)) is) (hl:ts.length=l.length) (r:RepT Z (.tup l) a)
  (q:∀ m' h' tk,WS Z σ μ ((L,.ns m') :: rest) h'→Lc C env Z μ m' (setAll ρ is (l.map .t))→Q () { s with heap:=h',toks:=tk }) :
  wpAny (model prog w) A (assign (.Tuple (ts.map fun t=>Expr.Name t.1 t.2) k tp) env a) Q E s:=by
 obtain ⟨aa,vs,rfl,ht,rt,hz⟩:=r
 have ll:=rt.length
 simp only [Array.length_toList] at ll
 have ht':=IsTup.up ws.keep ht
 refine wpAny_assign_Tuple hh ht' (by rw [z1h,List.length_map];omega) (by
  rw [z1h,List.findIdx?_eq_none_iff]
  intro x hx
  obtain ⟨t,_,rfl⟩:=List.mem_map.mp hx
  rfl) fun h' eb=>?_
 have w2:WS Z σ μ ((L,.ns m) :: rest) h':=ws.extBut eb ((ws.not_mem (z08 _)).1) ((ws.not_mem (z08 _)).2)
 rw [z1h,List.map_map]
 exact z4x (nm:=fun t:Str×Pos=>t.1) eo (fun x v Q s h=>PySem.wpAny_assign_Name h) ts is (l.map .t) vs.toList { s with heap:=h' } m ρ Q Sl w2 lc rt.vals (by rw [List.length_map];exact hl) fun m2 h2 tk2 ws2 lc2=>q m2 h2 tk2 ws2 lc2
theorem z4z {xs:List Str} {is:List Nat} (h:Slots C xs is):xs.length=is.length:=by
 induction h with
 | nil=>rfl
 | cons _ _ ih=>exact congrArg (· + 1) ih
theorem z9v {ts:List (Str×Pos)} {is:List Nat} {e:Expr} {u:X} {k:Nat} {tp pos:Pos} (Sl:Slots C (ts.map (·.1)) is) (hn:notComp e=true) (h:SndE prog w HB tb Φ n C e u)
  (hsw:∀ env:Env,env.scope=C.scope→swappedStores [.Tuple (ts.map fun t=>Expr.Name t.1 t.2) k tp] e env=pure none) :
  SndT prog w HB tb Φ W n C (.Assign [.Tuple (ts.map fun t=>Expr.Name t.1 t.2) k tp] e pos) (.asgT is u):=by
 intro A s Z μ rest σ env L m ρ g z so ws lc hb Q E kk
 rw [exS_4] at kk hb
 refine Assign_Tuple ?_ (by unfold swapsWithSole;exact z1t hn) (hsw env so.scope)
 refine (h g z so.toEnvOk ws lc).toS hb kk fun a σ1 Z1 μ1 h1 tk1 v e1 z1 p1 ws1 r1 hb1 k1=>?_
 cases a with
 | ref _=>exact (hb1 rfl).elim
 | undef=>exact (hb1 rfl).elim
 | t t=>
  cases t with
  | tup l=>
   by_cases hl:(l.map V.t).length=is.length
   ·have sl:=z4z Sl
    rw [List.length_map] at sl hl
    refine z4y (s:={ s with heap:=h1,toks:=tk1 }) g.hand so.toEnvOk ws1 (lc.mono z1 p1) Sl (by omega) r1 fun m' h' tk ws' lc'=>?_
    exact k1.next _ _ (if_pos (by rw [List.length_map];exact hl)) Z1 μ1 m' h' tk (Sub.refl _) (Pre.refl _) ws' lc'
   ·exact (hb1 (if_neg hl)).elim
  | _=>exact (hb1 rfl).elim
theorem zbq {a:List V}:∀ {l:List T},treesV a=some l→a=l.map .t:=by
 induction a with
 | nil=>intro l e;cases Option.some.inj e;rfl
 | cons x a ih=>
  intro l e
  cases x with
  | t t=>
   obtain ⟨r,f,rfl⟩:=Option.map_eq_some_iff.mp (e:(treesV a).map (t :: ·)=some l)
   rw [ih f];rfl
  | ref _=>exact nS e
  | undef=>exact nS e
theorem z9w {ts:List (Str×Pos)} {is:List Nat} {vs:List Expr} {u:X} {k k':Nat} {tp vp pos:Pos} (Sl:Slots C (ts.map (·.1)) is) (hz3:is.length ≤ 3) (h:SndL prog w HB tb Φ n C vs u)
  (hsw:∀ env:Env,env.scope=C.scope→swappedStores [.Tuple (ts.map fun t=>Expr.Name t.1 t.2) k tp] (.Tuple vs k' vp) env=pure none) :
  SndT prog w HB tb Φ W n C (.Assign [.Tuple (ts.map fun t=>Expr.Name t.1 t.2) k tp] (.Tuple vs k' vp) pos) (.asgP is u):=by
 intro A s Z μ rest σ env L m ρ g z so ws lc hb Q E kk
 rw [exS_5] at kk hb
 refine Assign_Tuple ?_ rfl (hsw env so.scope)
 refine wpAny_Tuple ?_
 refine (h vp g z so.toEnvOk ws lc).toS hb kk fun a σ1 Z1 μ1 h1 tk1 us e1 z1 p1' ws1 r1 hb1 k1=>?_
 cases et:treesV a with
 | none=>simp only [et] at hb1;exact (hb1 rfl).elim
 | some l=>
  simp only [et] at hb1 k1
  by_cases hl:a.length=is.length
  ·rw [if_pos hl] at k1
   have rt:=r1.trees et
   have lt:=rt.length
   have lv:=r1.length
   have sl:=z4z Sl
   rw [List.length_map] at sl
   have ea':=zbq et
   subst ea'
   have hz:l.length≤lineS:=by have e:lineS = 1048576:=rfl;rw [List.length_map] at hl;omega
   refine ⟨by rw [← lt];exact Nat.le_trans hz z0i,?_⟩
   obtain ⟨Z',zz,w',gg,_⟩:=z0v (s:={ s with heap:=h1,toks:=tk1 }) (o:={ cls:= .type "tuple",data:= .seq us.toArray }) ws1 rfl
   refine z4y (s:={ s with heap:=_,toks:=tk1 }) g.hand so.toEnvOk w' ((lc.mono z1 p1').mono zz (Pre.refl _)) Sl (by omega) (l:=l) ⟨_,_,rfl,⟨_,gg,rfl,_,rfl⟩,by simpa using rt.mono zz,hz⟩ fun m' h' tk ws' lc'=>?_
   exact k1.next _ _ rfl Z' μ1 m' h' tk zz (Pre.refl _) ws' lc'
  ·rw [if_neg hl] at hb1;exact (hb1 rfl).elim
end
end Mine.Internal
namespace Mine.Internal
open PySem PySem.W PySem.Calls PyProof.Rows PySem.SeqAt PySem.StrLaws
variable [PH]
theorem WS.swap {Z h:Heap} {σ:St} {μ:List SA} {a b:Addr×PO} {r:Outs} (w:WS Z σ μ (a :: b :: r) h):WS Z σ μ (b :: a :: r) h:=by
 have pm:(addrs μ (b :: a :: r)).Perm (addrs μ (a :: b :: r)):=by
  unfold addrs
  simp only [List.map_cons]
  exact List.Perm.append_left _ (List.Perm.swap _ _ _)
 refine ⟨w.keep,w.len,w.rep,fun p hp=>w.out p ?_,pm.nodup_iff.mpr w.nodup,fun x hx=>w.fresh x (pm.mem_iff.mp hx)⟩
 rcases List.mem_cons.mp hp with rfl | hp
 ·exact .tail _ (.head _)
 ·rcases List.mem_cons.mp hp with rfl | hp
  ·exact .head _
  ·exact .tail _ (.tail _ hp)
section
variable {prog:Program} {w:World} {HB:Heap} {K:Frag} {mg mb:Str→Option Value} {tb:Tabs} {Φ:Nat→List V→St→R V} {n W:Nat} {C:Cx} {fa:Nat→Addr}
theorem Gd.all {A:Around} {fs:List Addr} {env:Env} {l:List Env} (g:Gd n A fs) (e:A.frames=some (env :: l)):∀ x∈env :: l,FrIn fs x:=by
 obtain ⟨env',l',h1,_,_,_,_,h6⟩:=g.fr
 rw [h1] at e;injection e with e;rw [← e];exact h6
theorem KS.noted {A:Around} {s:Shared} {Z:Heap} {μ:List SA} {rest:Outs} {env:Env} {L:Addr} {r:RS} {Q:Flow→Shared→Prop} {E:Value→Shared→Prop} (g:Gd n A (L :: nsA rest)) (so:StOk C env L A)
  (k:KS C env L s Z μ rest r Q E):KS C env L s Z μ rest r Q (notedBy (model prog w) A env (cameBackBy (model prog w) A env E)):=by
 obtain ⟨l,hl⟩:=so.top
 refine ⟨k.next,k.ret,fun ρ' σ' e Z' μ' m' h' tk x z p ws ex=>?_⟩
 refine zbk (outs:=(L,.ns m') :: rest) (s:={ s with heap:=h',toks:=tk }) hl (fun y hy=>g.all hl y hy) so.frame ws ex fun h'' w'' x''=>?_
 exact k.exc ρ' σ' e Z' μ' m' h'' tk x z p w'' (.inr (.inl x''))
theorem z63 {test:List V→St→R V} {body:List V→St→RS} {k:Nat} {ρ:List V} {σ:St} :
  whileN test body (k + 1) ρ σ=(tst (test ρ σ)).toS ρ fun t σ=>if t then (body ρ σ).andThen (fun ρ σ=>whileN test body k ρ σ) else .next ρ σ:=by
 exact z9q _ _ _ (fun σ=>(body ρ σ).andThen (fun ρ σ=>whileN test body k ρ σ)) (fun σ=> .next ρ σ) fun _ _=>rfl
inductive WhI (C:Cx) (s:Shared) (env:Env) (rest:Outs) (L:Addr) (Z1:Heap) (μ1:List SA) (F:Nat→List V→St→Prop):Nat→Shared→Prop
 | mk (j:Nat) (ρ':List V) (σ':St) (Z':Heap) (μ':List SA) (m':Str→Option Value) (h':Heap) (tk:Nat) (a:F j ρ' σ') (z:Sub Z1 Z') (p:Pre μ1 μ') (ws:WS Z' σ' μ' ((L,.ns m') :: rest) h') (lc:Lc C env Z' μ' m' ρ'):WhI C s env rest L Z1 μ1 F j { s with heap:=h',toks:=tk }
theorem zbr {c:Expr} {u:X} {bs:List Stmt} {b:S} {pos:Pos} (h:SndB prog w HB tb Φ n C c u) (h1:SndS prog w HB tb Φ W n C bs b):SndT prog w HB tb Φ W n C (.While c bs [] pos) (.whl u b):=by
 intro A s Z μ rest σ env L m ρ g z so ws lc hb Q E k
 rw [zil] at k hb
 generalize hr:whileN (fun ρ σ=>den tb Φ u ρ σ) (fun ρ σ=>exS tb Φ W b ρ σ) W ρ σ=r0 at k hb
 have kn:=k.noted (prog:=prog) (w:=w) g so
 refine wpAny_While (codeAny_whileLoop (WhI C s env rest L Z μ fun j ρ' σ'=>whileN (fun ρ σ=>den tb Φ u ρ σ) (fun ρ σ=>exS tb Φ W b ρ σ) j ρ' σ'=r0) ?_ W (.mk W ρ σ Z μ m s.heap s.toks hr (Sub.refl _) (Pre.refl _) ws lc))
 intro j s' hI
 cases hI with | mk ρ' σ' Z' μ' m' h' tk er z' p' ws' lc'=>
 cases j with
 | zero=>exact absurd er (fun q=>hb (by rw [← q];rfl))
 | succ j=>
  rw [z63] at er
  have hb':(tst (den tb Φ u ρ' σ')).toS ρ' (fun t σ=>if t then (exS tb Φ W b ρ' σ).andThen (fun ρ σ=>whileN (fun ρ σ=>den tb Φ u ρ σ) (fun ρ σ=>exS tb Φ W b ρ σ) j ρ σ) else .next ρ' σ) ≠ .bot:=fun q=>hb (by rw [← er];exact q)
  refine (h (s:={ s with heap:=h',toks:=tk }) g (z.trans z') so.toEnvOk ws' lc').toS (Q:=Q) hb' (kn.step er.symm z' p') fun t σ1 Z1 μ1 h1' tk1 v e1 z1 p1 ws1 r1 hb1 k1=>?_
  obtain rfl:t=v:=r1
  have lc1:=lc'.mono z1 p1
  cases t with
  | false=>
   rw [if_neg Bool.false_ne_true]
   exact wpAny_execs_nil (k1.next _ _ rfl Z1 μ1 m' h1' tk1 (Sub.refl _) (Pre.refl _) ws1 lc1)
  | true=>
   rw [if_pos rfl] at hb1 k1 ⊢
   have hbb:exS tb Φ W b ρ' σ1 ≠ .bot:=fun q=>by rw [q] at hb1;exact hb1 rfl
   refine h1 (s:={ s with heap:=h1',toks:=tk1 }) g ((z.trans z').trans z1) so ws1 lc1 hbb _ _ ⟨fun ρ2 σ2 e2 Z2 μ2 m2 h2 tk2 z2 p2 ws2 lc2=>?_,fun v2 σ2 e2 Z2 μ2 m2 h2 tk2 x2 z2 p2 ws2 r2=>?_,fun ρ2 σ2 e2 Z2 μ2 m2 h2 tk2 x2 z2 p2 ws2 r2=>?_⟩
   ·refine ⟨j,Nat.lt_succ_self _,.mk j ρ2 σ2 Z2 μ2 m2 h2 tk2 ?_ ((z'.trans z1).trans z2) ((p'.trans p1).trans p2) ws2 lc2⟩
    rw [← er]
    rw [e1]
    show _=RS.andThen (exS tb Φ W b ρ' σ1) _
    rw [e2];rfl
   ·exact k1.ret v2 σ2 (by rw [e2];rfl) Z2 μ2 m2 h2 tk2 x2 z2 p2 ws2 r2
   ·exact k1.exc ρ2 σ2 (by rw [e2];rfl) Z2 μ2 m2 h2 tk2 x2 z2 p2 ws2 r2
theorem zg7 (i:Nat) (x:X) (b:S) (ρ:List V) (σ:St):exS tb Φ W (.forR i x b) ρ σ=(rngSrc tb Φ x ρ σ).toS ρ fun ts σ=>forN i (fun ρ σ=>exS tb Φ W b ρ σ) (ts.map .t) ρ σ:=by
 rw [zin]
 show _=R.toS ρ (R.bind (den tb Φ x ρ σ) _) _
 cases den tb Φ x ρ σ with
 | ok v σ1=>
  cases v with
  | t t=>
   cases t with
   | int k=>
    by_cases hk : 0≤k∧k ≤ 1000
    ·have e1:numsV (.t (.int k))=some ((numT k.toNat).map .t):=(if_pos hk).trans (congrArg some (List.map_map (g:=V.t)).symm)
     show (match numsV (.t (.int k)) with | some xs=>_ | none=>RS.bot)=R.toS ρ (if 0≤k∧k ≤ 1000 then .ok (numT k.toNat) σ1 else .bot) _
     rw [e1,if_pos hk];rfl
    ·have e1:numsV (.t (.int k))=none:=if_neg hk
     show (match numsV (.t (.int k)) with | some xs=>_ | none=>RS.bot)=R.toS ρ (if 0≤k∧k ≤ 1000 then .ok (numT k.toNat) σ1 else .bot) _
     rw [e1,if_neg hk];rfl
   | _=>rfl
  | ref _=>rfl
  | undef=>rfl
 | exc _=>rfl
 | bot=>rfl
structure LoopI (b r0:RS) (nx:List V→St→RS):Prop where
 nb:b ≠ .bot
 next:∀ ρ σ,b = .next ρ σ→nx ρ σ=r0
 ret:∀ v σ,b = .ret v σ→r0 = .ret v σ
 exc:∀ ρ σ,b ≠ .exc ρ σ
theorem z9x {b r0:RS} {nx:List V→St→RS} (h:(match b with
  | .next ρ σ=>nx ρ σ
  | .ret v σ=> .ret v σ
  | _=> .bot:RS)=r0) (hb:r0 ≠ .bot):LoopI b r0 nx:=by
 cases b with
 | next ρ σ=>exact ⟨fun q=>RS.noConfusion q,fun _ _ q=>by cases q;exact h,fun _ _ q=>RS.noConfusion q,fun _ _ q=>RS.noConfusion q⟩
 | ret v σ=>exact ⟨fun q=>RS.noConfusion q,fun _ _ q=>RS.noConfusion q,fun _ _ q=>by cases q;exact h.symm,fun _ _ q=>RS.noConfusion q⟩
 | _=>exact (hb h.symm).elim
theorem z9y {i a n j:Nat} {body:List V→St→RS} {ρ:List V} {σ:St} {r0:RS} (h:forLN i a body (n + 1) j ρ σ=r0) (hb:r0 ≠ .bot) :
  ∃ l,σ[a]? = some (.list l)∧((l[j]? = none∧r0 = .next ρ σ)∨∃ x,l[j]? = some x∧LoopI (body (ρ.set i x) σ) r0 fun ρ σ=>forLN i a body n (j + 1) ρ σ):=by
 have h:(match σ[a]? with
  | some (.list l)=>match l[j]? with
   | some x=>(match body (ρ.set i x) σ with
    | .next ρ σ=>forLN i a body n (j + 1) ρ σ
    | .ret v σ=> .ret v σ
    | _=> .bot)
   | Option.none=> .next ρ σ
  | _=> .bot:RS)=r0:=h
 cases e : σ[a]? with
 | none=>rw [e] at h;exact (hb h.symm).elim
 | some mo=>
  rw [e] at h
  cases mo with
  | inst _ _=>exact (hb h.symm).elim
  | list l=>
   refine ⟨l,rfl,?_⟩
   cases e':l[j]? with
   | none=>exact .inl ⟨rfl,by rw [← h];show (match l[j]? with | some x=>_ | Option.none=>_:RS)=_;rw [e']⟩
   | some x=>
    have h:(match l[j]? with
     | some x=>(match body (ρ.set i x) σ with
      | .next ρ σ=>forLN i a body n (j + 1) ρ σ
      | .ret v σ=> .ret v σ
      | _=> .bot)
     | Option.none=> .next ρ σ:RS)=r0:=h
    rw [e'] at h
    exact .inr ⟨x,rfl,z9x h hb⟩
inductive ForY (prog:Program) (w:World) (C:Cx) (A:Around) (s:Shared) (env:Env) (rest:Outs) (L:Addr) (Z1:Heap) (μ1:List SA) (I:Addr) (F:List T→List V→St→Prop):Nat→Shared→Prop
 | mk (xs':List T) (ρ':List V) (σ':St) (Z':Heap) (μ':List SA) (m':Str→Option Value) (h':Heap) (tk:Nat) (o':Obj) (a:F xs' ρ' σ') (z:Sub Z1 Z') (p:Pre μ1 μ') (ws:WS Z' σ' μ' ((L,.ns m') :: (I,.ob o') :: rest) h') (lc:Lc C env Z' μ' m' ρ') (y:Yields prog w A Z' I xs' o'):ForY prog w C A s env rest L Z1 μ1 I F xs'.length { s with heap:=h',toks:=tk }
theorem z9z (G:Ground prog HB K mg mb tb) {ie:Expr} {x nm:Str} {px p cp pos:Pos} {u:X} {i:Nat} {bs:List Stmt} {b:S} (S1:Slot1 C x i) (hg:mg nm=none) (hv:mb nm=some (.type "range")) (hx:C.scope.names.lookup nm=some .globalImplicit) (hd:(nm == ("__debug__" : Str))=false) (hn:noStar [ie]=true)
  (h:SndE prog w HB tb Φ n C ie u) (h1:SndS prog w HB tb Φ W n C bs b):SndT prog w HB tb Φ W n C (.For (.Name x px) (.Call (.Name nm p) [ie] [] cp) bs [] pos) (.forR i u b):=by
 intro A s Z μ rest σ env L m ρ g z so ws lc hb Q E k
 rw [zg7] at k hb
 have hI:SndI prog w HB n C (.Call (.Name nm p) [ie] [] cp) (rngSrc tb Φ u):=z4r G hg hv hx hd hn h
 refine wpAny_For ?_
 have hb0:rngSrc tb Φ u ρ σ ≠ .bot:=fun q=>by rw [q] at hb;exact hb rfl
 refine hI g z so.toEnvOk ws lc hb0 _ E (fun xs σ1 e1 Z1 μ1 h1' tk1 I o z1 p1 ws1 it=>?_) (fun σ1 e1 Z1 μ1 h1' tk1 x1 z1 p1 ws1 ei=>k.exc ρ σ1 (by rw [e1];rfl) Z1 μ1 m h1' tk1 x1 z1 p1 ws1 (.inr (.inr ei)))
 rw [e1] at hb k
 replace hb:forN i (fun ρ σ=>exS tb Φ W b ρ σ) (xs.map .t) ρ σ1 ≠ .bot:=hb
 replace k:KS C env L s Z μ rest (forN i (fun ρ σ=>exS tb Φ W b ρ σ) (xs.map .t) ρ σ1) Q E:=k
 generalize hr:forN i (fun ρ σ=>exS tb Φ W b ρ σ) (xs.map .t) ρ σ1=r0 at k hb
 refine codeAny_forLoop (ForY prog w C A s env rest L Z1 μ1 I fun xs' ρ' σ'=>forN i (fun ρ σ=>exS tb Φ W b ρ σ) (xs'.map .t) ρ' σ'=r0) ?_ xs.length (.mk xs ρ σ1 Z1 μ1 m h1' tk1 o hr (Sub.refl _) (Pre.refl _) ws1.swap (lc.mono z1 p1) it.gives)
 intro j s' hI
 cases hI with | mk xs' ρ' σ' Z' μ' m' h' tk o' er z' p' ws' lc' y'=>
 have oI:h'.get? I=some o':=ws'.out _ (.tail _ (.head _))
 cases xs' with
 | nil=>
  refine y' { s with heap:=h',toks:=tk } _ _ ws'.keep oI fun h4 tk4 eb=>?_
  have w4:WS Z' σ' μ' ((L,.ns m') :: rest) h4:=ws'.swap.pop.extBut eb ws'.swap.head_off.1 ws'.swap.head_off.2
  exact wpAny_execs_nil (k.next ρ' σ' er.symm Z' μ' m' h4 tk4 (z1.trans z') (p1.trans p') w4 lc')
 | cons t xs'=>
  refine y' { s with heap:=h',toks:=tk } _ _ ws'.keep oI fun v h4 tk4 o4 rv eb e4 y4=>?_
  have w4:WS Z' σ' μ' ((L,.ns m') :: (I,.ob o4) :: rest) h4:=(ws'.swap.turn eb (p':= .ob o4) e4).swap
  refine PySem.wpAny_assign_Name (z1s (s:={ s with heap:=h4,toks:=tk4 }) so.toEnvOk w4 lc' S1 (v:= .t t) rv fun m5 h5 tk5 w5 lc5=>?_)
  have lp:=z9x (b:=exS tb Φ W b (ρ'.set i (.t t)) σ') (nx:=fun ρ σ=>forN i (fun ρ σ=>exS tb Φ W b ρ σ) (xs'.map .t) ρ σ) er hb
  refine h1 (s:={ s with heap:=h5,toks:=tk5 }) (rest:=(I,.ob o4) :: rest) g ((z.trans z1).trans z') so w5 lc5 lp.nb _ _ ⟨fun ρ2 σ2 e2 Z2 μ2 m2 h2 tk2 z2 p2 ws2 lc2=>?_,fun v2 σ2 e2 Z2 μ2 m2 h2 tk2 x2 z2 p2 ws2 r2=>?_,fun ρ2 σ2 e2=>(lp.exc _ _ e2).elim⟩
  ·refine ⟨xs'.length,Nat.lt_succ_self _,.mk xs' ρ2 σ2 Z2 μ2 m2 h2 tk2 o4 (lp.next _ _ e2) (z'.trans z2) (p'.trans p2) ws2 lc2 (y4.mono z2)⟩
  ·exact k.ret v2 σ2 (lp.ret _ _ e2) Z2 μ2 m2 h2 tk2 x2 ((z1.trans z').trans z2) ((p1.trans p').trans p2) ws2.swap.pop r2
theorem zbs {l:List Int}:∀ {vs:List Value},IntsRep l vs→l.length=vs.length:=by
 induction l with
 | nil=>
  intro vs h
  cases vs with
  | nil=>rfl
  | cons=>exact h.elim
 | cons x l ih=>
  intro vs h
  cases vs with
  | nil=>exact h.elim
  | cons y vs=>exact congrArg (· + 1) (ih h.2)
theorem z6t:∀ {l:List Int} {vs:List Value} {c:Nat},IntsRep l vs→(h:c < l.length)→∃ t,vs[c]? = some (.int l[c] t)
 | _ :: _,_ :: _,0,⟨⟨t,e⟩,_⟩,_=>⟨t,by simp [e]⟩
 | _ :: _,_ :: _,c + 1,⟨_,h⟩,hc=>by
  obtain ⟨t,e⟩:=z6t h (Nat.lt_of_succ_lt_succ hc)
  exact ⟨t,by simpa using e⟩
inductive ForI (C:Cx) (s:Shared) (env:Env) (rest:Outs) (L:Addr) (Z1:Heap) (μ1:List SA) (ix al:Addr) (F:Nat→Nat→List V→St→Prop):Nat→Shared→Prop
 | mk (j c:Nat) (ρ':List V) (σ':St) (Z':Heap) (μ':List SA) (m':Str→Option Value) (h':Heap) (tk:Nat) (o':Obj) (a:F j c ρ' σ') (z:Sub Z1 Z') (p:Pre μ1 μ') (ws:WS Z' σ' μ' ((L,.ns m') :: (ix,.ob o') :: rest) h') (lc:Lc C env Z' μ' m' ρ') (hit:h'.IsListIter ix al c):ForI C s env rest L Z1 μ1 ix al F j { s with heap:=h',toks:=tk }
theorem za0 {it:Expr} {x:Str} {px pos:Pos} {u:X} {i:Nat} {bs:List Stmt} {b:S} (S1:Slot1 C x i) (hs:∀ env v,foldedSetIterable it env v=pure v) (h:SndE prog w HB tb Φ n C it u) (h1:SndS prog w HB tb Φ W n C bs b):SndT prog w HB tb Φ W n C (.For (.Name x px) it bs [] pos) (.forL i u b):=by
 intro A s Z μ rest σ env L m ρ g z so ws lc hb Q E k
 rw [zim] at k hb
 refine wpAny_For ?_ (hs env)
 refine (h g z so.toEnvOk ws lc).toS hb k fun a σ1 Z1 μ1 h1' tk1 v e1 z1 p1 ws1 r1 hb1 k1=>?_
 clear hb k
 cases a with
 | undef=>exact (hb1 rfl).elim
 | t x0=>
  cases x0 with
  | lst l=>
   replace hb1:forN i (fun ρ σ=>exS tb Φ W b ρ σ) (l.map fun k=> .t (.int k)) ρ σ1 ≠ .bot:=hb1
   replace k1:KS C env L { s with heap:=h1',toks:=tk1 } Z1 μ1 rest (forN i (fun ρ σ=>exS tb Φ W b ρ σ) (l.map fun k=> .t (.int k)) ρ σ1) Q E:=k1
   obtain ⟨al,vs,rfl,hpl,hin⟩:=r1
   generalize hr:forN i (fun ρ σ=>exS tb Φ W b ρ σ) (l.map fun k=> .t (.int k)) ρ σ1=r0 at k1 hb1
   have ll:=zbs hin
   refine wpAny_pyIter_list (s:={ s with heap:=h1',toks:=tk1 }) (hpl.at fun o e=>ws1.keep _ _ e).isList ?_
   generalize hoi:({ cls:= .type "list_iterator",data:= .fields #[.ref al,.int 0 0] }:Obj)=oi
   have gi:(h1'.push oi).get? h1'.objs.size=some oi:=Heap.get?_push_size _ (by rw [← hoi];rfl)
   have wi:WS Z1 σ1 μ1 ((L,.ns m) :: (h1'.objs.size,.ob oi) :: rest) (h1'.push oi):=(ws1.pushNew (fun b o e=>Heap.get?_push_of_some _ e) (z08 _) (p:= .ob oi) gi).swap
   refine codeAny_forLoop (ForI C s env rest L Z1 μ1 h1'.objs.size al fun j c ρ' σ'=>c+j=l.length∧forN i (fun ρ σ=>exS tb Φ W b ρ σ) ((l.drop c).map fun k=> .t (.int k)) ρ' σ'=r0) ?_ l.length (.mk l.length 0 ρ σ1 Z1 μ1 m _ tk1 oi ⟨Nat.zero_add _,hr⟩ (Sub.refl _) (Pre.refl _) wi (lc.mono z1 p1) ⟨oi,gi,by rw [← hoi],by rw [← hoi];rfl⟩)
   intro j s' hI
   cases hI with | mk c ρ' σ' Z' μ' m' h' tk o' a z' p' ws' lc' hit=>
   obtain ⟨hj,er⟩:=a
   have oI:h'.get? h1'.objs.size=some o':=ws'.out _ (.tail _ (.head _))
   have hpl':h'.IsList al vs:=(hpl.at fun o e=>ws'.keep _ _ (z' _ _ e)).isList
   cases j with
   | zero=>
    have hd:l.drop c=[]:=List.drop_eq_nil_of_le (by omega)
    rw [hd] at er
    refine wpAny_pyNext_list_end (s:={ s with heap:=h',toks:=tk }) g.hand hit hpl' (by
     rw [Array.getElem?_eq_none_iff]
     simp only [Array.length_toList] at ll;omega) fun h4 eb=>?_
    have w4:WS Z' σ' μ' ((L,.ns m') :: rest) h4:=ws'.swap.pop.extBut eb ws'.swap.head_off.1 ws'.swap.head_off.2
    exact wpAny_execs_nil (k1.next ρ' σ' er.symm Z' μ' m' h4 tk z' p' w4 lc')
   | succ j=>
    have hc:c < l.length:=by omega
    rw [List.drop_eq_getElem_cons hc] at er
    obtain ⟨tv,hv⟩:=z6t hin hc
    refine wpAny_pyNext_list_item (s:={ s with heap:=h',toks:=tk }) hit hpl' (x:= .int l[c] tv) (by simpa using hv) fun h4 hit4 sb=>?_
    obtain ⟨o4,ho4,r4⟩:=id hit4
    have w4:WS Z' σ' μ' ((L,.ns m') :: (h1'.objs.size,.ob o4) :: rest) h4:=(ws'.swap.turn sb.extBut (p':= .ob o4) ho4).swap
    refine PySem.wpAny_assign_Name (z1s (s:={ s with heap:=h4,toks:=tk }) so.toEnvOk w4 lc' S1 (v:= .t (.int l[c])) ⟨tv,rfl⟩ fun m5 h5 tk5 w5 lc5=>?_)
    have lp:=z9x (b:=exS tb Φ W b (ρ'.set i (.t (.int l[c]))) σ') (nx:=fun ρ σ=>forN i (fun ρ σ=>exS tb Φ W b ρ σ) ((l.drop (c + 1)).map fun k=> .t (.int k)) ρ σ) er hb1
    refine h1 (s:={ s with heap:=h5,toks:=tk5 }) (rest:=(h1'.objs.size,.ob o4) :: rest) g ((z.trans z1).trans z') so w5 lc5 lp.nb _ _ ⟨fun ρ2 σ2 e2 Z2 μ2 m2 h2 tk2 z2 p2 ws2 lc2=>?_,fun v2 σ2 e2 Z2 μ2 m2 h2 tk2 x2 z2 p2 ws2 r2=>?_,fun ρ2 σ2 e2=>(lp.exc _ _ e2).elim⟩
    ·refine ⟨j,Nat.lt_succ_self _,.mk j (c + 1) ρ2 σ2 Z2 μ2 m2 h2 tk2 o4 ⟨by omega,lp.next _ _ e2⟩ (z'.trans z2) (p'.trans p2) ws2 lc2 ⟨o4,ws2.out _ (.tail _ (.head _)),r4⟩⟩
    ·exact k1.ret v2 σ2 (lp.ret _ _ e2) Z2 μ2 m2 h2 tk2 x2 (z'.trans z2) (p'.trans p2) ws2.swap.pop r2
  | _=>exact (hb1 rfl).elim
 | ref a=>
  replace hb1:forLN i a (fun ρ σ=>exS tb Φ W b ρ σ) W 0 ρ σ1 ≠ .bot:=hb1
  replace k1:KS C env L { s with heap:=h1',toks:=tk1 } Z1 μ1 rest (forLN i a (fun ρ σ=>exS tb Φ W b ρ σ) W 0 ρ σ1) Q E:=k1
  have lc1:=lc.mono z1 p1
  generalize hr:forLN i a (fun ρ σ=>exS tb Φ W b ρ σ) W 0 ρ σ1=r0 at k1 hb1
  obtain ⟨sa,hsa,rfl⟩:=r1
  have hW:∃ l,σ1[a]? = some (.list l):=by
   cases W with
   | zero=>exact (hb1 hr.symm).elim
   | succ W=>obtain ⟨l,e,_⟩:=z9y hr hb1;exact ⟨l,e⟩
  obtain ⟨l,el⟩:=hW
  obtain ⟨q1,q2,vs,q3,q4⟩:=ws1.rep _ _ _ el hsa
  refine wpAny_pyIter_list (s:={ s with heap:=h1',toks:=tk1 }) q3.isList ?_
  generalize hoi:({ cls:= .type "list_iterator",data:= .fields #[.ref sa.1,.int 0 0] }:Obj)=oi
  have gi:(h1'.push oi).get? h1'.objs.size=some oi:=Heap.get?_push_size _ (by rw [← hoi];rfl)
  have wi:WS Z1 σ1 μ1 ((L,.ns m) :: (h1'.objs.size,.ob oi) :: rest) (h1'.push oi):=(ws1.pushNew (fun b o e=>Heap.get?_push_of_some _ e) (z08 _) (p:= .ob oi) gi).swap
  refine codeAny_forLoop (ForI C s env rest L Z1 μ1 h1'.objs.size sa.1 fun j c ρ' σ'=>forLN i a (fun ρ σ=>exS tb Φ W b ρ σ) j c ρ' σ'=r0) ?_ W (.mk W 0 ρ σ1 Z1 μ1 m _ tk1 oi hr (Sub.refl _) (Pre.refl _) wi lc1 ⟨oi,gi,by rw [← hoi],by rw [← hoi];rfl⟩)
  intro j s' hI
  cases hI with | mk c ρ' σ' Z' μ' m' h' tk o' er z' p' ws' lc' hit=>
  have oI:h'.get? h1'.objs.size=some o':=ws'.out _ (.tail _ (.head _))
  cases j with
  | zero=>exact (hb1 er.symm).elim
  | succ j=>
   obtain ⟨l',e,er⟩:=z9y er hb1
   have hsa':=p' _ _ hsa
   obtain ⟨t1,t2,us,t3,t4⟩:=ws'.rep _ _ _ e hsa'
   have lu:=t4.length
   rcases er with ⟨el',er⟩ | ⟨x0,el',lp⟩
   ·refine wpAny_pyNext_list_end (s:={ s with heap:=h',toks:=tk }) g.hand hit t3.isList (by
     rw [List.getElem?_eq_none_iff] at el'
     simp;omega) fun h4 eb=>?_
    have w4:WS Z' σ' μ' ((L,.ns m') :: rest) h4:=ws'.swap.pop.extBut eb ws'.swap.head_off.1 ws'.swap.head_off.2
    exact wpAny_execs_nil (k1.next ρ' σ' er Z' μ' m' h4 tk z' p' w4 lc')
   ·obtain ⟨val,f1,f2⟩:=t4.get el'
    refine wpAny_pyNext_list_item (s:={ s with heap:=h',toks:=tk }) hit t3.isList (x:=val) (by simpa using f1) fun h4 hit4 sb=>?_
    obtain ⟨o4,ho4,r4⟩:=id hit4
    have w4:WS Z' σ' μ' ((L,.ns m') :: (h1'.objs.size,.ob o4) :: rest) h4:=(ws'.swap.turn sb.extBut (p':= .ob o4) ho4).swap
    refine PySem.wpAny_assign_Name (z1s (s:={ s with heap:=h4,toks:=tk }) so.toEnvOk w4 lc' S1 (v:=x0) f2 fun m5 h5 tk5 w5 lc5=>?_)
    refine h1 (s:={ s with heap:=h5,toks:=tk5 }) (rest:=(h1'.objs.size,.ob o4) :: rest) g ((z.trans z1).trans z') so w5 lc5 lp.nb _ _ ⟨fun ρ2 σ2 e2 Z2 μ2 m2 h2 tk2 z2 p2 ws2 lc2=>?_,fun v2 σ2 e2 Z2 μ2 m2 h2 tk2 x2 z2 p2 ws2 r2=>?_,fun ρ2 σ2 e2=>(lp.exc _ _ e2).elim⟩
    ·exact ⟨j,Nat.lt_succ_self _,.mk j (c + 1) ρ2 σ2 Z2 μ2 m2 h2 tk2 o4 (lp.next _ _ e2) (z'.trans z2) (p'.trans p2) ws2 lc2 ⟨o4,ws2.out _ (.tail _ (.head _)),r4⟩⟩
    ·exact k1.ret v2 σ2 (lp.ret _ _ e2) Z2 μ2 m2 h2 tk2 x2 (z'.trans z2) (p'.trans p2) ws2.swap.pop r2
end
end Mine.Internal
namespace Mine.Internal
open PySem PySem.W PySem.Calls PyProof.Rows PySem.SeqAt PySem.StrLaws
theorem z3k {α:Type} {ns:List Str}:∀ {vs:List α},ns.length=vs.length→∀ n∈ns,((ns.zip vs).lookup n).isSome=true:=by
 induction ns with
 | nil=>intro _ _ _ h;exact nomatch h
 | cons n ns ih=>
  intro vs e m h
  cases vs with
  | nil=>exact Nat.noConfusion e
  | cons v vs=>
   rw [List.zip_cons_cons,List.lookup_cons]
   cases hb:m == n with
   | true=>rfl
   | false=>
    rcases List.mem_cons.mp h with rfl | h
    ·rw [beq_self_eq_true] at hb;cases hb
    ·exact ih (Nat.succ.inj e) m h
theorem z3l {α:Type} {l:List (Str × α)} {n:Str} (h:∀ p∈l,p.1≠n):l.lookup n=none:=by
 induction l with
 | nil=>rfl
 | cons x l ih=>
  obtain ⟨m,v⟩:=x
  rw [List.lookup_cons]
  have:(n == m)=false:=beq_eq_false_iff_ne.mpr fun q=>h _ (.head _) q.symm
  rw [this]
  exact ih fun p hp=>h p (.tail _ hp)
theorem z42 {α:Type} {ns:List Str}:∀ {vs:List α},ns.length=vs.length→ns.Nodup→∀ (pre:List (Str × α)),(∀ p∈pre,p.1∉ns)→ns.filterMap (fun n=>((pre++ns.zip vs).lookup n).map (n,·))=ns.zip vs:=by
 induction ns with
 | nil=>intros;rfl
 | cons n ns ih=>
  intro vs e nd pre hp
  cases vs with
  | nil=>exact Nat.noConfusion e
  | cons v vs=>
   have nd':=List.nodup_cons.mp nd
   have h0:(pre++(n :: ns).zip (v :: vs)).lookup n=some v:=by
    rw [List.lookup_append,z3l (l:=pre) fun p hp' q=>hp p hp' (by rw [← q];exact .head _),List.zip_cons_cons,List.lookup_cons,beq_self_eq_true];rfl
   rw [List.filterMap_cons,h0]
   have:=ih (Nat.succ.inj e) nd'.2 (pre++[(n,v)]) (fun p hp'=>by
    rcases List.mem_append.mp hp' with h | h
    ·exact fun q=>hp p h (.tail _ q)
    ·rw [List.mem_singleton.mp h];exact nd'.1)
   rw [List.append_assoc] at this
   exact congrArg ((n,v) :: ·) this
theorem zbt (rest:List (Str×Value)) (sl ds:List (Str×Value)) (h:∀ p∈ds,(sl.lookup p.1).isSome=true) :
  (forIn (ds++rest) sl fun (x:Str×Value) (r:List (Str×Value))=>if (List.lookup x.fst r).isNone=true then (pure (ForInStep.yield (r++[(x.fst,x.snd)])):Sem _) else pure (ForInStep.yield r)) =
   (forIn rest sl fun (x:Str×Value) (r:List (Str×Value))=>if (List.lookup x.fst r).isNone=true then (pure (ForInStep.yield (r++[(x.fst,x.snd)])):Sem _) else pure (ForInStep.yield r)):=by
 induction ds with
 | nil=>rfl
 | cons p ds ih=>
  rw [List.cons_append,List.forIn_cons]
  have e:(List.lookup p.1 sl).isNone=false:=by
   have:=h p (.head _)
   cases q:List.lookup p.1 sl with
   | none=>rw [q] at this;cases this
   | some _=>rfl
  rw [if_neg (by rw [e];exact Bool.false_ne_true),pure_bind]
  exact ih fun p hp=>h p (.tail _ hp)
theorem zbu (ns:List Str):∀ (ds:List Value) (sl:List (Str×Value)),ns.Nodup→(∀ n∈ns,∀ p∈sl,p.1≠n) →
  (forIn (ns.zip ds) sl fun (x:Str×Value) (r:List (Str×Value))=>if (List.lookup x.fst r).isNone=true then (pure (ForInStep.yield (r++[(x.fst,x.snd)])):Sem _) else pure (ForInStep.yield r))=pure (sl++ns.zip ds):=by
 induction ns with
 | nil=>intro _ sl _ _;exact congrArg (fun x=>(pure x:Sem _)) (List.append_nil sl).symm
 | cons n ns ih=>
  intro ds sl nd h
  cases ds with
  | nil=>exact congrArg (fun x=>(pure x:Sem _)) (List.append_nil sl).symm
  | cons d ds=>
   have nd':=List.nodup_cons.mp nd
   rw [List.zip_cons_cons,List.forIn_cons,if_pos (by rw [z3l fun p hp=>h n (.head _) p hp];rfl),pure_bind]
   show forIn (ns.zip ds) (sl++[(n,d)]) _=_
   rw [ih ds _ nd'.2 fun m hm p hp=>?_]
   ·rw [List.append_assoc];rfl
   ·rcases List.mem_append.mp hp with hp | hp
    ·exact h m (.tail _ hm) p hp
    ·rw [List.mem_singleton.mp hp]
     exact fun q=>nd'.1 (by rw [show n=m from q];exact hm)
theorem z7g {α:Type} (N:List α) {k a:Nat} (h:k≤a) (ha:a≤N.length):N.drop k=(N.take a).drop k++N.drop a:=by
 have:(N.take a++N.drop a).drop k=(N.take a).drop k++N.drop a:=by
  rw [List.drop_append]
  have:k - (N.take a).length = 0:=by rw [List.length_take];omega
  rw [this];rfl
 rwa [List.take_append_drop] at this
theorem za1 {α β:Type} {l1 l2:List α} {ds:List β} {m:Nat} (h:l1.length=m) (hm:m≤ds.length):(l1++l2).zip ds=l1.zip (ds.take m)++l2.zip (ds.drop m):=by
 have:(l1++l2).zip (ds.take m++ds.drop m)=l1.zip (ds.take m)++l2.zip (ds.drop m):=List.zip_append (by rw [List.length_take];omega)
 rwa [List.take_append_drop] at this
theorem zbv {α β:Type} {N:List α} {as ds:List β} {k:Nat} (h:as.length=k) (hk:k≤N.length):N.zip (as++ds)=(N.take k).zip as++(N.drop k).zip ds:=by
 have:(N.take k++N.drop k).zip (as++ds)=(N.take k).zip as++(N.drop k).zip ds:=List.zip_append (by rw [List.length_take];omega)
 rwa [List.take_append_drop] at this
theorem z6u {s:Shared} {fd:FuncData} {args:List Value} {ds:List Value} (h1:fd.params.posonlyargs=[]) (h2:fd.params.kwonlyargs=[]) (h3:fd.params.vararg=none) (h4:fd.params.kwarg=none)
  (hl:args.length≤(fd.params.args.map (·.arg)).length) (hl2:(fd.params.args.map (·.arg)).length≤args.length+ds.length) (hl3:ds.length≤(fd.params.args.map (·.arg)).length) (nd:(fd.params.args.map (·.arg)).Nodup)
  (hd:(fd.defaults = .none∧ds=[])∨∃ T o n,fd.defaults = .ref T∧s.heap.get? T=some o∧o.data = .seq ds.toArray n) :
  BindsTo s fd ⟨args,[]⟩ ((fd.params.args.map (·.arg)).zip (args++ds.drop (args.length+ds.length - (fd.params.args.map (·.arg)).length))):=by
 intro M A E Q hq
 have load:∀ {Q':Option (Array Value)→Shared→Prop},(∀ o,(o.getD #[]).toList=ds→Q' o s)→wpAny M A (seqItems? fd.defaults) Q' E s:=fun {Q'} h=>by
  rcases hd with ⟨hd,e⟩ | ⟨T,o,n,hd,ho,hs⟩
  ·rw [hd];exact wpAny_pure (h _ (by rw [e];rfl))
  ·rw [hd];exact wpAny_seqItems ho hs (h _ rfl)
 unfold bindArgs
 simp only [h1,h2,h3,h4,List.map_nil,List.nil_append,List.append_nil,List.forIn_nil,pure_bind]
 refine wpAny_bind (load fun o eo=>?_)
 rw [eo]
 generalize hN:List.map (fun x=>x.arg) fd.params.args=N at *
 obtain ⟨p,hp⟩:∃ p,N.length=args.length+p:=⟨_,(Nat.add_sub_of_le hl).symm⟩
 obtain ⟨t,ht⟩:∃ t,N.length=ds.length+t:=⟨_,(Nat.add_sub_of_le hl3).symm⟩
 obtain ⟨r,hr⟩:∃ r,args.length+ds.length=N.length+r:=⟨_,(Nat.add_sub_of_le hl2).symm⟩
 have et:N.length - ds.length=t:=by rw [ht];exact Nat.add_sub_cancel_left _ _
 have er:args.length+ds.length - N.length=r:=by rw [hr];exact Nat.add_sub_cancel_left _ _
 have ha:args.length=t+r:=by omega
 have hd':ds.length=p+r:=by omega
 have hta:t≤args.length:=by rw [ha];exact Nat.le_add_right t r
 rw [er] at hq
 have tooMany:(decide (args.length > N.length))=false:=decide_eq_false (Nat.not_lt_of_le hl)
 have zk:N.zip args=(N.take args.length).zip args:=by
  rw [List.zip_eq_zip_take_min]
  rw [Nat.min_eq_right hl,List.take_length]
 have tk:(N.take args.length).length=args.length:=by rw [List.length_take];exact Nat.min_eq_left hl
 have e0:ds.length - N.length = 0:=Nat.sub_eq_zero_of_le hl3
 have d0:ds.drop 0=ds:=rfl
 have miss:(N.take t).filter (fun n=>(List.lookup n (N.zip args)).isNone)=[]:=by
  rw [List.filter_eq_nil_iff]
  intro n hn
  have hn':n∈N.take args.length:=by
   have:N.take t=(N.take args.length).take t:=by rw [List.take_take,Nat.min_eq_left hta]
   rw [this] at hn
   exact List.mem_of_mem_take hn
  have:=z3k tk n hn'
  rw [zk]
  simp only [Option.isNone_iff_eq_none]
  intro q
  rw [q] at this;cases this
 simp only [tooMany,Bool.false_and,Bool.false_eq_true,if_false,e0,d0,et,miss,List.isEmpty_nil,Bool.not_true,List.filter_nil]
 have sp:(N.drop t).zip ds=((N.take args.length).drop t).zip (ds.take r)++(N.drop args.length).zip (ds.drop r):=by
  rw [z7g N (k:=t) (a:=args.length) hta hl]
  exact za1 (by rw [List.length_drop,tk,ha];exact Nat.add_sub_cancel_left _ _) (by rw [hd'];exact Nat.le_add_left r p)
 have loop:(forIn ((N.drop t).zip ds) (N.zip args) fun (x:Str×Value) (r:List (Str×Value))=>if (List.lookup x.fst r).isNone=true then (pure (ForInStep.yield (r++[(x.fst,x.snd)])):Sem _) else pure (ForInStep.yield r)) =
   pure (N.zip (args++ds.drop r)):=by
  rw [sp,zbt _ (N.zip args) _ (fun p hp=>?_),zbu (N.drop args.length) _ _ (nd.sublist (List.drop_sublist _ _)) (fun n hn p hp q=>?_)]
  ·rw [zbv rfl hl,zk]
  ·rw [zk] at hp
   have h1:p.1∈N.take args.length:=(List.of_mem_zip (show (p.1,p.2)∈_ from hp)).1
   have n2:=nd
   rw [← List.take_append_drop args.length N] at n2
   exact (List.nodup_append.mp n2).2.2 p.1 h1 n hn q
  ·have:p.1∈(N.take args.length).drop t:=(List.of_mem_zip (show (p.1,p.2)∈_ from hp)).1
   rw [zk]
   exact z3k tk p.1 (List.mem_of_mem_drop this)
 rw [loop,pure_bind]
 have res:=z42 (ns:=N) (vs:=args++ds.drop r) (by rw [List.length_append,List.length_drop,hd',Nat.add_sub_cancel];exact hp) nd [] (fun p hp=>nomatch hp)
 rw [List.nil_append] at res
 rw [res]
 exact wpAny_pure hq
end Mine.Internal
namespace Mine.Internal
open PySem PySem.W PySem.Calls PyProof.Rows PySem.SeqAt PySem.StrLaws
variable [PH]
theorem z50 {kd:Str→Option NameKind}:∀ {l:List (Str×Value)} {m:Str→Option Value} {x:Str},(∀ p∈l,p.1≠x)→bindL kd l m x=m x
 | [],_,_,_=>rfl
 | (n,v) :: l,m,x,h=>by
  unfold bindL
  rw [z50 fun p hp=>h p (.tail _ hp)]
  have:=h _ (.head _)
  split
  ·simp [Ne.symm this]
  ·rfl
theorem z51 {kd:Str→Option NameKind}:∀ {l:List (Str×Value)} {m:Str→Option Value} {x:Str},(∀ p∈l,p.1≠x)→bindC kd l m x=m x
 | [],_,_,_=>rfl
 | (n,v) :: l,m,x,h=>by
  unfold bindC
  rw [z51 fun p hp=>h p (.tail _ hp)]
  have:=h _ (.head _)
  split
  ·rfl
  ·simp [Ne.symm this]
theorem z6v {kd:Str→Option NameKind} {x:Str} {v:Value} (hk:kd x=some .local):∀ {ns:List Str} {vs:List Value} {m:Str→Option Value} {i:Nat},ns.Nodup→ns[i]? = some x→vs[i]? = some v→bindL kd (ns.zip vs) m x=some v
 | [],_,_,_,_,h,_=>by simp at h
 | n :: ns,[],_,i,_,_,h=>by simp at h
 | n :: ns,u :: vs,m,0,nd,h1,h2=>by
  simp at h1 h2
  subst h1 h2
  rw [List.zip_cons_cons]
  unfold bindL
  rw [if_pos hk,z50 (fun (p:Str×Value) (hp:p∈ns.zip vs) (q:p.1=n)=>(List.nodup_cons.mp nd).1 (by rw [← q];exact (List.of_mem_zip (show (p.1,p.2)∈ns.zip vs from hp)).1))]
  simp
 | n :: ns,u :: vs,m,i + 1,nd,h1,h2=>by
  rw [List.zip_cons_cons]
  unfold bindL
  exact z6v hk (List.nodup_cons.mp nd).2 (by simpa using h1) (by simpa using h2)
theorem z6w {kd:Str→Option NameKind} {x:Str} {v:Value} (hk:kd x≠some .local):∀ {ns:List Str} {vs:List Value} {m:Str→Option Value} {i:Nat},ns.Nodup→ns[i]? = some x→vs[i]? = some v→bindC kd (ns.zip vs) m x=some v
 | [],_,_,_,_,h,_=>by simp at h
 | n :: ns,[],_,i,_,_,h=>by simp at h
 | n :: ns,u :: vs,m,0,nd,h1,h2=>by
  simp at h1 h2
  subst h1 h2
  rw [List.zip_cons_cons]
  unfold bindC
  rw [if_neg hk,z51 (fun (p:Str×Value) (hp:p∈ns.zip vs) (q:p.1=n)=>(List.nodup_cons.mp nd).1 (by rw [← q];exact (List.of_mem_zip (show (p.1,p.2)∈ns.zip vs from hp)).1))]
  simp
 | n :: ns,u :: vs,m,i + 1,nd,h1,h2=>by
  rw [List.zip_cons_cons]
  unfold bindC
  exact z6w hk (List.nodup_cons.mp nd).2 (by simpa using h1) (by simpa using h2)
theorem z1a {y:Str}:∀ {names:List (Str×NameKind)} {k:Nat} {acc:List (Str×Addr)},((y,NameKind.cell)∈names∨∃ c,(y,c)∈acc)→∃ c,(y,c)∈cellsFrom k names acc
 | [],_,_,h=>by rcases h with h | h;cases h;exact h
 | (n,kd) :: r,k,acc,h=>by
  unfold cellsFrom
  rcases h with h | ⟨c,h⟩
  ·rcases List.mem_cons.mp h with h | h
   ·injection h with h1 h2
    subst h1 h2
    exact z1a (.inr ⟨_,.head _⟩)
   ·split<;>exact z1a (.inl h)
  ·split
   ·exact z1a (.inr ⟨c,.tail _ h⟩)
   ·exact z1a (.inr ⟨c,h⟩)
theorem z22 {y:Str} {names:List (Str×NameKind)} (k:Nat) (h:names.lookup y=some .cell):∃ c,(cellsFrom k names []).lookup y=some c:=by
 obtain ⟨c,hc⟩:=z1a (k:=k) (acc:=[]) (.inl (mem_of_lookup h))
 exact z0z hc
theorem z7h {μ:List SA} {outs:Outs} {k:Nat} {a:Addr} (ha:a∈addrs (μ.take k) outs):a∈addrs μ outs:=by
 rcases z02.mp ha with ⟨i,sa,e,x⟩ | x
 ·refine z02.mpr (.inl ⟨i,sa,?_,x⟩)
  have:i < k:=by
   have:=(List.getElem?_eq_some_iff.mp e).1
   rw [List.length_take] at this;omega
  rwa [List.getElem?_take_of_lt this] at e
 ·exact z02.mpr (.inr x)
theorem ExcIn.sub {Z:Heap} {μ μ2:List SA} {outs outs2:Outs} {h:Heap} {e:Addr} (s:∀ a,a∈addrs μ2 outs2→a∈addrs μ outs) (x:ExcIn .left Z μ outs h e):ExcIn .left Z μ2 outs2 h e:=by
 obtain ⟨x1,x2,oe,vs,e1,e2,e3,T,oT,ts,e4,e5,e6,e7⟩:=x
 exact ⟨x1,fun q=>x2 (s _ q),oe,vs,e1,e2,e3,T,oT,ts,e4,e5,fun q=>e6 (s _ q),e7⟩
theorem z43 {Z h:Heap} {σ:St} {μ μ0:List SA} {outs:Outs} (w:WS Z σ μ outs h) {k:Nat} {v:V} {x:Value} (r:RepV Z μ v x) (p:Pre μ0 μ) (hl : μ0.length=k) :
  ∃ μ2,WS Z (trunc k v σ) μ2 outs h∧RepV Z μ2 v x∧Pre μ0 μ2∧∀ a,a∈addrs μ2 outs→a∈addrs μ outs:=by
 unfold trunc
 split
 ·exact ⟨μ,w,r,p,fun _ h=>h⟩
 ·split
  ·rename_i hc
   rw [Bool.and_eq_true] at hc
   refine ⟨μ.take k,w.drop hc.2,r.drop hc.1,fun i sa e=>?_,fun a ha=>z7h ha⟩
   have hi:i < k:=by rw [← hl];exact (List.getElem?_eq_some_iff.mp e).1
   rw [List.getElem?_take_of_lt hi]
   exact p i sa e
  ·exact ⟨μ,w,r,p,fun _ h=>h⟩
structure FnIs (HB:Heap) (a:Addr) (F:Fn) (C:Cx) (body:List Stmt):Prop where
 fd:∃ o fd,HB.get? a=some o∧o.data = .func fd∧fd.body = .stmts body∧fd.scope=C.scope∧fd.globals=mainGlobals∧fd.builtins=builtinsNs∧fd.closure=[]∧HB.CodeRec fd.code fd.qualname ∧
  fd.params.posonlyargs=[]∧fd.params.kwonlyargs=[]∧fd.params.vararg=none∧fd.params.kwarg=none∧fd.params.args.map (·.arg)=C.names.take F.np ∧
  ∃ ds,RepTs HB F.dfl ds∧((fd.defaults = .none∧ds=[])∨∃ T o n,fd.defaults = .ref T∧HB.get? T=some o∧o.data = .seq ds.toArray n)
 kind:C.scope.kind = .function
 gen:C.scope.isGenerator=false
 cor:C.scope.isCoroutine=false
 len:C.names.length=F.ns
 np:F.np≤F.ns
 nodup:C.names.Nodup
 dfl:F.dfl.length≤F.np
 kinds:∀ x∈C.names.take F.np,C.scope.names.lookup x=some .local∨C.scope.names.lookup x=some .cell
section
variable {prog:Program} {w:World} {HB:Heap} {K:Frag} {mg mb:Str→Option Value} {W:Nat} {fa:Nat→Addr} {P:Prog}
theorem Gc.deeper {n:Nat} {A:Around} {fs:List Addr} {env:Env} {L:Addr} (g:Gc (n + 1) A fs) (h1:env.scope.isGenerator=false) (h2:env.scope.isCoroutine=false) (h3:env.builtins=builtinsNs) (h4:env.globals=mainGlobals) (h5:env.scope.kind ≠ .module) (h6:env.frame=some L):Gd n (A.deeper env) (L :: fs):=by
 obtain ⟨l,hl,hf⟩:=g.fr
 have d:=g.dep
 have u:=g.un
 refine ⟨g.hand,?_,?_,env,l,Around.frames_deeper hl,h1,h2,h3,h4,fun e he=>?_⟩
 ·show A.depth + 1 + 3 * n + 122 < _;omega
 ·show A.units + 3 + 20 * n + 310 < _;omega
 ·rcases List.mem_cons.mp he with rfl | he
  ·exact ⟨h5,L,h6,.head _⟩
  ·obtain ⟨k,L',e1,e2⟩:=hf e he
   exact ⟨k,L',e1,.tail _ e2⟩
theorem z6x {Z:Heap}:∀ {x:List T} {v:List Value} (k:Nat),RepTs Z x v→RepTs Z (x.drop k) (v.drop k)
 | _,_,0,h=>h
 | [],[],_ + 1,_=>trivial
 | _ :: _,_ :: _,k + 1,⟨_,h⟩=>z6x k h
theorem run_i {P:Prog} {W n f:Nat} {F:Fn} {vs:List V} {σ:St} (hf:P.fn f=some F) (hb:runF P W (n + 1) f vs σ ≠ .bot) :
  ∃ ρ,(vs.length≤F.np∧F.np≤vs.length+F.dfl.length)∧((vs++(F.dfl.drop (vs.length+F.dfl.length - F.np)).map .t)++List.replicate (F.ns - F.np) .undef) = ρ∧runF P W (n + 1) f vs σ=(match exS P.tb (runF P W n) W F.body ρ σ with
    | .next _ σ'=> .ok (.t .none) (trunc σ.length (.t .none) σ')
    | .ret v σ'=> .ok v (trunc σ.length v σ')
    | .exc _ σ'=> .exc (trunc σ.length (.t .none) σ')
    | .bot=> .bot):=by
 have e:runF P W (n + 1) f vs σ=(match P.fn f with
  | Option.none=> .bot
  | some fd=>match layArgs fd vs with
   | Option.none=> .bot
   | some ρ=>match exS P.tb (runF P W n) W fd.body ρ σ with
    | .next _ σ'=> .ok (.t .none) (trunc σ.length (.t .none) σ')
    | .ret v σ'=> .ok v (trunc σ.length v σ')
    | .exc _ σ'=> .exc (trunc σ.length (.t .none) σ')
    | .bot=> .bot):=rfl
 rw [hf] at e
 dsimp only at e
 by_cases q:vs.length≤F.np∧F.np≤vs.length+F.dfl.length
 ·rw [show layArgs F vs=_ from if_pos q] at e
  exact ⟨_,q,rfl,e⟩
 ·rw [show layArgs F vs=_ from if_neg q] at e
  exact absurd e hb
theorem zg8 (G:Ground prog HB K mg mb P.tb) {n f:Nat} {F:Fn} {C:Cx} {body:List Stmt} (hf:P.fn f=some F) (I:FnIs HB (fa f) F C body) (hS:SndS prog w HB P.tb (runF P W n) W n C body F.body) :
  ∀ {A:Around} {s:Shared} {Z:Heap} {μ:List SA} {outs:Outs} {σ:St} {vs:List V} {args:List Value},
  Gc (n + 1) A (nsA outs)→Sub HB Z→WS Z σ μ outs s.heap→RepVs Z μ vs args→runF P W (n + 1) f vs σ ≠ .bot→∀ (Q:Value→Shared→Prop) (E:Value→Shared→Prop),KOk RepV s Z μ outs (runF P W (n + 1) f vs σ) Q→KExc s Z μ outs (runF P W (n + 1) f vs σ) E →
  codeAny (model prog w) A (.call (.ref (fa f)) ⟨args,[]⟩) (Back Q E) s:=by
 intro A s Z μ outs σ vs args g z ws rv hb Q E ok ex
 obtain ⟨o,fd,i1,i2,i3,i4,i5,i6,i7,i8,i9,i10,i11,i12,i13,ds,i14,i15⟩:=I.fd
 have k:Sub HB s.heap:=z.trans ws.keep
 have lv:=rv.length
 have ld:=i14.length
 obtain ⟨ρ,hlen,elay,run⟩:=run_i hf hb
 ·have nl:(C.names.take F.np).length=F.np:=by rw [List.length_take,I.len];exact Nat.min_eq_left I.np
  have nd:(C.names.take F.np).Nodup:=I.nodup.sublist (List.take_sublist _ _)
  have dep:=g.dep
  refine codeAny_call_function (by omega) (k _ _ i1) i2 (by rw [i4];exact I.cor) (by rw [i4];exact I.gen) i3 (i8.keeps k) ?_
  have hbind:=z6u (s:=s) (fd:=fd) (args:=args) (ds:=ds) i9 i10 i11 i12 (by rw [i13,nl];omega) (by rw [i13,nl];omega) (by rw [i13,nl];have:=I.dfl;omega) (by rw [i13];exact nd) (by
   rcases i15 with h | ⟨T,o,n,h1,h2,h3⟩
   ·exact .inl h
   ·exact .inr ⟨T,o,n,h1,k _ _ h2,h3⟩)
  rw [i13,nl] at hbind
  refine hbind _ _ _ _ ?_
  rw [i7]
  generalize hbs:(C.names.take F.np).zip (args++ds.drop (args.length+ds.length - F.np))=bds
  have bmem:∀ x∈bds,x.1∈C.names.take F.np:=fun x hx=>by
   rw [← hbs] at hx
   exact (List.of_mem_zip (show (x.1,x.2)∈_ from hx)).1
  refine wpAny_newFunctionEnv_cells (by rw [i4];exact I.kind) (fun x hx=>?_) fun env he s' x=>?_
  ·rw [i4]
   rcases I.kinds x.1 (bmem x hx) with h | h
   ·exact .inl h
   ·obtain ⟨c,hc⟩:=z22 (s.heap.objs.size + 1) h
    exact .inr ⟨h,by rw [hc];rfl⟩
  ·obtain ⟨⟨⟨h1,tk1,rfl⟩,xns,xkeep,xfresh⟩,xcell,xap,xab⟩:=x
   have eL:env.locals=s.heap.objs.size:=by rw [he];rfl
   have escope:env.scope=C.scope:=by rw [he];exact i4
   have eframe:env.frame=some s.heap.objs.size:=by rw [he];rfl
   have eglob:env.globals=mainGlobals:=by rw [he];exact i5
   have eblt:env.builtins=builtinsNs:=by rw [he];exact i6
   have ecells:env.cells=cellsFrom (s.heap.objs.size + 1) C.scope.names []:=by rw [he,← i4];rfl
   have ekind:env.kindOf=fun x=>C.scope.names.lookup x:=by funext x;show env.scope.names.lookup x=_;rw [escope]
   rw [eL] at xns
   dsimp only at xns xkeep xcell ⊢
   refine ⟨G.lim.keeps (fun b o e=>xkeep b o (k b o e)),codeAny_func ?_⟩
   have ws1:WS Z σ μ ((s.heap.objs.size,.ns (bindL env.kindOf bds fun _=>none)) :: outs) h1:=ws.pushNew xkeep (z08 _) xns
   have ws2:=ws1.frz
   have zf:=ws1.frz_sub
   have cellZ:∀ y c,env.cells.lookup y=some c→(frz h1 μ ((s.heap.objs.size,.ns (bindL env.kindOf bds fun _=>none)) :: outs)).IsCell c (bindC env.kindOf bds (fun _=>none) y):=fun y c hc=>by
    obtain ⟨oc,q1,q2⟩:=xcell y c hc
    have hlt:s.heap.objs.size < c:=by rw [← eL];exact xab y c (mem_of_lookup hc)
    refine ⟨oc,z2v q1 fun q=>?_,q2⟩
    rcases List.mem_cons.mp (z0c.mem_iff.mp q) with q | q
    ·exact absurd q (Nat.ne_of_gt hlt)
    ·obtain ⟨o',ho'⟩:=ws.there q
     have:=Heap.lt_size ho'
     exact absurd this (Nat.not_lt.mpr (Nat.le_of_lt hlt))
   have reps:RepVs (frz h1 μ ((s.heap.objs.size,.ns (bindL env.kindOf bds fun _=>none)) :: outs)) μ (vs++(F.dfl.drop (vs.length+F.dfl.length - F.np)).map .t) (args++ds.drop (args.length+ds.length - F.np)):=by
    refine (rv.mono zf (Pre.refl _)).append ?_
    rw [lv,ld]
    exact (z6x _ (RepTs.mono (z.trans zf) i14)).vals
   have so:StOk C env s.heap.objs.size (A.deeper env):=by
    obtain ⟨l,hl,_⟩:=g.fr
    exact ⟨⟨escope,I.kind,eglob,eblt,eL,fun y hy=>by rw [ecells];exact z22 _ hy⟩,eframe,l,Around.frames_deeper hl⟩
   have lc:Lc C env (frz h1 μ ((s.heap.objs.size,.ns (bindL env.kindOf bds fun _=>none)) :: outs)) μ (bindL env.kindOf bds fun _=>none) ρ:=by
    intro i y v e1 e2 e3
    have hi:i < F.np:=by
     rcases Nat.lt_or_ge i F.np with h | h
     ·exact h
     ·rw [← elay,List.getElem?_append_right (by simp only [List.length_append,List.length_map,List.length_drop];omega)] at e2
      have:=List.mem_of_getElem? e2
      exact absurd (List.eq_of_mem_replicate this) e3
    have e1':(C.names.take F.np)[i]? = some y:=by rw [List.getElem?_take_of_lt hi];exact e1
    rw [← elay,List.getElem?_append_left (by simp only [List.length_append,List.length_map,List.length_drop];omega)] at e2
    obtain ⟨val,f1,f2⟩:=reps.get e2
    rcases I.kinds y (List.mem_of_getElem? e1') with hk | hk
    ·rw [hk]
     refine ⟨val,?_,f2⟩
     rw [← hbs]
     exact z6v (by rw [ekind];exact hk) nd e1' f1
    ·rw [hk]
     obtain ⟨c,hc⟩:=z22 (s.heap.objs.size + 1) hk
     rw [← ecells] at hc
     have cz:=cellZ y c hc
     rw [← hbs,z6w (by rw [ekind];simp only [hk];decide) nd e1' f1] at cz
     exact ⟨c,val,hc,by rw [← hbs];exact cz,f2⟩
   have gd:Gd n (A.deeper env) (s.heap.objs.size :: nsA outs):=g.deeper (by rw [escope];exact I.gen) (by rw [escope];exact I.cor) eblt eglob (by rw [escope,I.kind];decide) eframe
   have hbb:exS P.tb (runF P W n) W F.body ρ σ ≠ .bot:=fun q=>hb (by rw [run,q])
   rw [run] at ok ex
   refine hS (s:={ s with heap:=h1,toks:=tk1 }) gd (z.trans zf) so ws2 lc hbb _ _ ⟨fun ρ' σ' e Z' μ' m' h' tk zz p ws' lc'=>?_,fun v σ' e Z' μ' m' h' tk xv zz p ws' r=>?_,fun ρ' σ' e Z' μ' m' h' tk xe zz p ws' ei=>?_⟩
   ·obtain ⟨μ2,t1,t2,t3,_⟩:=z43 (k:=σ.length) (v:= .t .none) (x:= .none) ws'.pop rfl p ws.len
    exact ok _ _ (by rw [e]) Z' μ2 h' tk _ (zf.trans zz) t3 t1 t2
   ·obtain ⟨μ2,t1,t2,t3,_⟩:=z43 (k:=σ.length) ws'.pop r p ws.len
    exact ok _ _ (by rw [e]) Z' μ2 h' tk _ (zf.trans zz) t3 t1 t2
   ·obtain ⟨l,hl⟩:=so.top
    refine z9m (outs:=(s.heap.objs.size,.ns m') :: outs) (s:={ s with heap:=h',toks:=tk }) hl (fun y hy=>gd.all hl y hy) eframe ws' ei fun h'' w'' x''=>?_
    obtain ⟨μ2,t1,_,t3,t4⟩:=z43 (k:=σ.length) (v:= .t .none) (x:= .none) w''.pop rfl p ws.len
    exact ex _ (by rw [e]) Z' μ2 h'' tk _ (zf.trans zz) t3 t1 (x''.sub fun a ha=>z0c.mem_iff.mpr (.tail _ (t4 a ha)))
end
end Mine.Internal
namespace Mine.Internal
open PySem PySem.W PySem.Calls PyProof.Rows PySem.SeqAt PySem.StrLaws
noncomputable abbrev bmE:List Value:=[.type "Exception",.type "BaseException",.type "object"]
section
variable {M:Model} {A:Around} {E:Value→Shared→Prop} {h:Heap} {g:Array GenState} {d:Drawn} {t:Nat} {os:OsState}
variable {nm q nm' q':Str} {C N D ND:Addr} {bs bs':List Value} {hdct hdct':Bool} {sn sn':List Str} {sub sub':List Value} {ab ab':Bool} {col col':Option Bool} {dd dd':Option Addr} {k0 k1 k2 k3 k5 l0 l1 l2 l3 l5:Option Value} {newId:String}
theorem look2 {name:Str} {mC mD:Str→Option Value} {y:Option Value} {Q:Option Value→Shared→Prop}
  (hC:h.get? C=some (excClassObj nm q C N bs (.ref D :: bmE) hdct sn sub ab col dd k0 k1 k2 k3 k5 "Exception.__new__")) (hD:h.get? D=some (excClassObj nm' q' D ND bs' bmE hdct' sn' sub' ab' col' dd' l0 l1 l2 l3 l5 "Exception.__new__"))
  (hn:h.Ns N mC) (hm:h.Ns ND mD) (hB:typeLookup (.type "Exception") name=pure y)
  (hq:Q (match mC name with | some v=>some v | none=>match mD name with | some v=>some v | none=>y) ⟨h,g,d,t,os⟩):wpAny M A (typeLookup (.ref C) name) Q E ⟨h,g,d,t,os⟩:=by
 have hrest:lookupAlong bmE name=pure y:=by rw [typeLookup_eq,PySem.F.excBase_Exception.mroIs] at hB;exact hB
 rw [typeLookup_eq]
 refine wpAny_bind (wpAny_mroOf_exc hC ?_)
 rw [lookupAlong_cons]
 refine wpAny_bind (wpAny_classOwn_exc hC hn ?_)
 cases hv:mC name with
 | some v=>rw [hv] at hq;exact wpAny_pure hq
 | none=>
  rw [hv] at hq
  simp only
  rw [lookupAlong_cons]
  refine wpAny_bind (wpAny_classOwn_exc hD hm ?_)
  cases hv':mD name with
  | some v=>rw [hv'] at hq;exact wpAny_pure hq
  | none=>rw [hv'] at hq;simp only;rw [hrest];exact wpAny_pure hq
theorem z7i {rest:List Value} {Q:Unit→Shared→Prop} (hC:h.get? C=some (excClassObj nm q C N bs (.ref D :: bmE) hdct sn sub ab col dd k0 k1 k2 k3 k5 "Exception.__new__"))
  (hq:Q () ⟨h,g,d,t,os⟩):wpAny M A (checkBuiltinCall "Exception.__new__" ⟨.ref C :: rest,[]⟩) Q E ⟨h,g,d,t,os⟩:=by
 have F:=PySem.F.excBase_Exception
 have hcont:(Value.ref C :: .ref D :: bmE).contains (.type "Exception")=true:=by rw [List.contains_cons,List.contains_cons,F.hasB,Bool.or_true,Bool.or_true]
 have hstar:=F.noStar
 simp only [checkBuiltinCall,F.newKind,F.newSplit,F.newRow]
 repeat (first | refine wpAny_loadPart_at hC ?_ | (refine wpAny_isSubtype_exc hC ?_;rw [hcont]) | refine wpAny_staticBase_exc hC ?_ | refine wpAny_madeBy_exc hC ?_ | simp only [bne_self_eq_false,Bool.false_eq_true,if_false] | wp_step)
 exact hq
end
section
variable {prog:Program} {w:World} {A:Around} {E:Value→Shared→Prop} {R:Result→Shared→Prop} {h:Heap} {g:Array GenState} {d:Drawn} {t:Nat} {os:OsState}
variable {nm q nm' q':Str} {C N D ND:Addr} {bs bs':List Value} {hdct hdct':Bool} {sn sn':List Str} {sub sub':List Value} {ab ab':Bool} {col col':Option Bool} {dd dd':Option Addr} {k0 k1 k2 k3 k5 l0 l1 l2 l3 l5:Option Value}
theorem zbw {rest:List Value} (hC:h.get? C=some (excClassObj nm q C N bs (.ref D :: bmE) hdct sn sub ab col dd k0 k1 k2 k3 k5 "Exception.__new__"))
  (hq:R (.ok (.ret (.ref (h.objs.size + 1)))) ⟨(h.push { cls:= .type "tuple",data:= .seq rest.toArray }).push { cls:= .ref C,data:= .fields #[.ref h.objs.size,.none,.none,.none,.bool false,.none] },g,d,t,os⟩) (hrest:rest.length≤sizeLine) :
  codeAny (model prog w) A (.builtin "Exception.__new__" ⟨.ref C :: rest,[]⟩) R ⟨h,g,d,t,os⟩:=by
 have F:=PySem.F.excBase_Exception
 have hends:=F.ends
 have hcB:(Value.ref C :: .ref D :: bmE).contains (.type "Exception")=true:=by rw [List.contains_cons,List.contains_cons,F.hasB,Bool.or_true,Bool.or_true]
 have hcA:(Value.ref C :: .ref D :: bmE).contains (.type "AttributeError")=false:=by rw [List.contains_cons,List.contains_cons,F.noAttr];rfl
 have hcN:(Value.ref C :: .ref D :: bmE).contains (.type "NameError")=false:=by rw [List.contains_cons,List.contains_cons,F.noName];rfl
 refine PySem.codeAny_builtinAt F.entry ?_
 unfold Builtin.«BaseException.__new__»
 refine PySem.wpAt_bind ?_
 show PySem.wpAt _ _ _ (stack >>= _) _ _ _
 refine PySem.wpAt_bind (PySem.wpAt_stack fun p below=>PySem.wpAt_of_wpAny ?_)
 wp_walk
 refine PySem.wpAt_of_wpAny ?_
 rw [F.owner]
 repeat (first | with_reducible refine wpAny_madeHere_exc F.canon hC ?_ | with_reducible refine wpAny_loadPart_at hC ?_ | (with_reducible refine wpAny_isSubtype_exc hC ?_;first | rw [hcB] | rw [hcA] | rw [hcN]) | wp_step)
 show R _ _
 rw [Heap.size_push]
 exact hq
theorem z7j {mC mD:Str→Option Value} {rest:List Value} {fI:Addr} {oI:Obj} {Q:Fin→Shared→Prop}
  (hC:h.get? C=some (excClassObj nm q C N bs (.ref D :: bmE) hdct sn sub ab col dd k0 k1 k2 k3 k5 "Exception.__new__")) (hD:h.get? D=some (excClassObj nm' q' D ND bs' bmE hdct' sn' sub' ab' col' dd' l0 l1 l2 l3 l5 "Exception.__new__"))
  (hn:h.Ns N mC) (hm:h.Ns ND mD) (hi0:mC "__init__" = none) (hi:mD "__init__" = some (.ref fI)) (hfI:h.get? fI=some oI) (hfc:oI.cls = .type "function")
  (hq:∀ h' e,Heap.MadeExcOf h h' e (.ref C) rest →
   wpAny (model prog w) A (call (.ref fI) (.ref e :: rest)) (fun r s'=>r = .none∧Q (.done (.ret (.ref e))) s') E ⟨h',g,d,t,os⟩) (hrest:rest.length≤sizeLine) :
  wpAny (model prog w) A (Builtin.«type.__call__» ⟨.ref C :: rest,[]⟩) Q E ⟨h,g,d,t,os⟩:=by
 have F:=PySem.F.excBase_Exception
 repeat (first | with_reducible refine wpAny_loadPart_at hC ?_ | with_reducible refine wpAny_madeBy_exc hC ?_ | wp_step)
 refine codeAny_call_builtin_code (Code.quiet_builtin _ F.quiet) (z7i hC ?_)
 refine zbw hC ?_ hrest
 show wpAny _ _ _ _ _ _
 have up:∀ {b:Addr} {o:Obj},h.get? b=some o→((h.push { cls:= .type "tuple",data:= .seq rest.toArray }).push { cls:= .ref C,data:= .fields #[.ref h.objs.size,.none,.none,.none,.bool false,.none] }).get? b=some o:=fun e=>Heap.get?_push_of_some _ (Heap.get?_push_of_some _ e)
 have hget:((h.push { cls:= .type "tuple",data:= .seq rest.toArray }).push
   { cls:= .ref C,data:= .fields #[.ref h.objs.size,.none,.none,.none,.bool false,.none] }).get? (h.objs.size + 1)=some
   { cls:= .ref C,data:= .fields #[.ref h.objs.size,.none,.none,.none,.bool false,.none] }:=by heap_get
 have hcC:(Value.ref C :: .ref D :: bmE).contains (.ref C)=true:=by simp
 unfold isInstance
 repeat (first | with_reducible refine wpAny_loadPart_at hget ?_ | (with_reducible refine wpAny_isSubtype_exc (up hC) ?_;rw [hcC]) | wp_step)
 show wpAny _ _ (typeLookup (.ref C) _) _ _ _
 refine look2 (up hC) (up hD) (hn.keeps fun _ _ e=>up e) (hm.keeps fun _ _ e=>up e) F.init.lookup ?_
 rw [hi0,hi]
 refine wpAny_holding (wpAny_bind ?_)
 unfold bindSpecial
 refine wpAny_bind (wpAny_typeOf (T:="function") ⟨_,up hfI,hfc⟩ ?_)
 rw [if_pos (by decide)]
 refine wpAny_pure (wpAny_bind (wpAny_mono (hq _ (h.objs.size + 1) ⟨fun b o hb=>up hb,Heap.get?_none_of_le (Nat.le_succ _),h.objs.size,hget,Heap.get?_none_of_le (Nat.le_refl _),?_⟩) (fun r s' hr=>?_) fun _ _ x=>x))
 ·exact Heap.get?_push_of_some _ (Heap.get?_push_at rfl rfl)
 ·obtain ⟨rfl,hQ⟩:=hr
  wp_walk
  exact hQ
theorem za2 {mC mD:Str→Option Value} {rest:List Value} {fI:Addr} {oI:Obj} {Q:Value→Shared→Prop}
  (hC:h.get? C=some (excClassObj nm q C N bs (.ref D :: bmE) hdct sn sub ab col dd k0 k1 k2 k3 k5 "Exception.__new__")) (hD:h.get? D=some (excClassObj nm' q' D ND bs' bmE hdct' sn' sub' ab' col' dd' l0 l1 l2 l3 l5 "Exception.__new__"))
  (hn:h.Ns N mC) (hm:h.Ns ND mD) (hi0:mC "__init__" = none) (hi:mD "__init__" = some (.ref fI)) (hfI:h.get? fI=some oI) (hfc:oI.cls = .type "function")
  (hq:∀ h' e,Heap.MadeExcOf h h' e (.ref C) rest →
   wpAny (model prog w) (A.under (.builtin "type.__call__" ⟨.ref C :: rest,[]⟩)) (call (.ref fI) (.ref e :: rest)) (fun r s'=>r = .none∧Q (.ref e) s') E ⟨h',g,d,t,os⟩) (hrest:rest.length≤sizeLine) :
  wpAny (model prog w) A (call (.ref C) rest) Q E ⟨h,g,d,t,os⟩:=by
 have f1:=tc_lookup
 have f2:=tc_bind (.ref C)
 have hT:(⟨h,g,d,t,os⟩:Shared).TypeIs (.ref C) "type":=⟨_,hC,rfl⟩
 refine wpAny_call (codeAny_of_tree ?_)
 show wpAny _ _ (callAny (.ref C) _) _ _ _
 repeat (any_goals (first | assumption | with_reducible refine wpAny_loadPart_at hC ?_ | wp_step))
 refine ⟨rfl,?_⟩
 refine codeAny_call_builtin_at (Code.quiet_builtin _ (by decide +kernel)) entry_typeCall (wpAny_check_type_call_sub hC (z7j (hrest:=hrest) hC hD hn hm hi0 hi hfI hfc fun h' e hm=>?_))
 exact hq h' e hm
theorem z64 {e:Addr} {oe:Obj} {rest:List Value} {M:Model} {Q:Unit→Shared→Prop}
  (hC:h.get? C=some (excClassObj nm q C N bs (.ref D :: bmE) hdct sn sub ab col dd k0 k1 k2 k3 k5 "Exception.__new__")) (he:h.get? e=some oe) (hcls:oe.cls = .ref C) (hq:Q () ⟨h,g,d,t,os⟩) :
  wpAny M A (checkBuiltinCall "Exception.__init__" ⟨.ref e :: rest,[]⟩) Q E ⟨h,g,d,t,os⟩:=by
 have F:=PySem.F.excBase_Exception
 have hcB:(Value.ref C :: .ref D :: bmE).contains (.type "Exception")=true:=by rw [List.contains_cons,List.contains_cons,F.hasB,Bool.or_true,Bool.or_true]
 have hshort:=F.noStar
 simp only [checkBuiltinCall,F.initKind,F.initSplit,F.initRow]
 repeat (first | (with_reducible refine wpAny_loadPart_at he ?_;rw [hcls]) | with_reducible refine wpAny_loadPart_at hC ?_ | (with_reducible refine wpAny_isSubtype_exc hC ?_;rw [hcB]) | wp_step)
 refine wpAny_onRaise ?_
 rw [show ∀ (a b:String) (n:Nat),Bind.check ⟨.positional,"*","Exception",.self,[⟨"args",.varPos,false⟩]⟩ a b n (List.map (fun x=>x.fst) ({ pos:=Value.ref e :: rest }:Args).kw)=pure () from
  fun a b n=>check_star_args _ _ _ _ _ _]
 exact wpAny_pure hq
theorem init2 {e t0:Addr} {oe:Obj} {vs:Array Value} {rest:List Value} {Q:Value→Shared→Prop}
  (hC:h.get? C=some (excClassObj nm q C N bs (.ref D :: bmE) hdct sn sub ab col dd k0 k1 k2 k3 k5 "Exception.__new__")) (he:h.get? e=some oe) (hcls:oe.cls = .ref C) (hd:oe.data = .fields vs) (h0:vs[0]? = some (.ref t0))
  (hq:∀ h',Heap.ExtBut e h h'→h'.get? e=some (oe.mapFields (·.setIfInBounds 0 (.ref h.objs.size)))→Q .none ⟨h',g,d,t,os⟩) (hrest:rest.length≤sizeLine) :
  wpAny (model prog w) A (call (.builtin "Exception.__init__") (.ref e :: rest)) Q E ⟨h,g,d,t,os⟩:=by
 have F:=PySem.F.excBase_Exception
 refine wpAny_call (codeAny_call_builtin F.init.plain F.initEntry (z64 hC he hcls ?_))
 unfold Builtin.«BaseException.__init__»
 dsimp only
 rw [if_neg (by simp)]
 unfold newTuple Builtin.BaseException.bexcPut
 have hsz : 0 < vs.size:=(Array.getElem?_eq_some_iff.mp h0).1
 have he₁:=Heap.get?_push_of_some (h:=h) { cls:= .type "tuple",data:= .seq rest.toArray } he
 refine wpAny_bind (wpAny_newObj_type (wpAny_bind (wpAny_bind (wpAny_field he₁ hd h0 (wpAny_bind (wpAny_setField he₁ hd hsz ?_))))) (by show rest.toArray.size≤sizeLine;rw [List.size_toArray];exact hrest))
 refine wpAny_letGo (wpAny_pure (hq _ (fun b o hb e'=>?_) (Heap.get?_update_self _ he₁ (Obj.isFreed_of_fields (Obj.data_mapFields hd _)))))
 exact (Heap.get?_update_other _ _ (Ne.symm hb)).trans (Heap.get?_push_of_some _ e')
end
end Mine.Internal
namespace Mine.Internal
open PySem PySem.W PySem.Calls PyProof.Rows PySem.SeqAt PySem.StrLaws
open PySem.Builtin PySem.Builtin.ObjectAttr
section
variable {prog:Program} {w:World} {A:Around} {E:Value→Shared→Prop} {R:Result→Shared→Prop} {h:Heap} {g:Array GenState} {d:Drawn} {t:Nat} {os:OsState}
variable {nm q nm' q':Str} {C N D ND:Addr} {bs bs':List Value} {hdct':Bool} {sn sn':List Str} {sub sub':List Value} {ab ab':Bool} {col col':Option Bool} {dd dd':Option Addr} {k0 k1 k2 k3 k5 l0 l1 l2 l3 l5:Option Value}
 {mC mD:Str→Option Value} {x:Addr} {name:Str} {v:Value} {o:Obj} {vs:Array Value}
theorem za3 {M:Model} {nameV:Value} {Q:Unit→Shared→Prop}
  (hC:h.get? C=some (excClassObj nm q C N bs (.ref D :: bmE) true sn sub ab col dd k0 k1 k2 k3 k5 "Exception.__new__")) (hx:h.get? x=some o) (hc:o.cls = .ref C) (hq:Q () ⟨h,g,d,t,os⟩) :
  wpAny M A (checkBuiltinCall "object.__setattr__" ⟨[.ref x,nameV,v],[]⟩) Q E ⟨h,g,d,t,os⟩:=by
 have SF:=PySem.F.store_Exception
 have hcB:(Value.ref C :: .ref D :: bmE).contains (.type "object")=true:=by rw [List.contains_cons,List.contains_cons,SF.hasOwner,Bool.or_true,Bool.or_true]
 have ha:=SF.args (.ref x) nameV v
 simp only [checkBuiltinCall,SF.kind,SF.split]
 refine wpAny_bind ?_
 ·unfold isInstance
  repeat (first | (with_reducible refine wpAny_loadPart_at hx ?_;rw [hc]) | (with_reducible refine wpAny_isSubtype_exc hC ?_;rw [hcB]) | wp_step)
  exact hq
theorem z52 {tk:Tok} {Q:Fin→Shared→Prop}
  (hC:h.get? C=some (excClassObj nm q C N bs (.ref D :: bmE) true sn sub ab col dd k0 k1 k2 k3 k5 "Exception.__new__")) (hD:h.get? D=some (excClassObj nm' q' D ND bs' bmE hdct' sn' sub' ab' col' dd' l0 l1 l2 l3 l5 "Exception.__new__"))
  (hn:h.Ns N mC) (hm:h.Ns ND mD) (hna:mC name=none) (hnb:mD name=none) (hB:typeLookup (.type "Exception") name=pure none) (hx:h.get? x=some o) (hc:o.cls = .ref C) (hd:o.data = .fields vs) (hdn:o.dict=none)
  (hq:∀ h' tk' dx,Heap.ExtBut x h h'→h'.get? x=some { cls:=o.cls,dict:=some dx,data:=o.data,slots:=o.slots }→Q (.done (.ret .none)) ⟨h',g,d,tk',os⟩) :
  wpAny (model prog w) A (Builtin.«object.__setattr__» ⟨[.ref x,.str name tk,v],[]⟩) Q E ⟨h,g,d,t,os⟩:=by
 have SF:=PySem.F.store_Exception
 have hpass:=SF.passes (.ref x)
 unfold Builtin.«object.__setattr__»
 repeat (first | rw [refuse_eq] | (rw [refuseLoop_ref,refuseLoop_ref,hpass]) | (with_reducible refine wpAny_loadPart_at hx ?_;rw [hc]) | with_reducible refine wpAny_mroOf_exc hC ?_ | (with_reducible refine look2 hC hD hn hm hB ?_;rw [hna,hnb]) | wp_step)
 rw [hdn,if_neg (by simp [typeHasDict])]
 split
 ·rename_i hcd
  cases hcd
 split
 ·rename_i c hcd
  rw [hd] at hcd;cases hcd
 ·have hx₁:(h.push { cls:= .type "dict",data:= .dict #[] }).get? x=some o:=Heap.get?_push_of_some _ hx
  have hxs:x≠h.objs.size:=Nat.ne_of_lt (Heap.lt_size hx)
  refine wpAny_bind (wpAny_alloc' ?_)
  refine wpAny_bind (wpAny_update' hx₁ ?_)
  refine wpAny_pure ?_
  have hgd:((h.push { cls:= .type "dict",data:= .dict #[] }).update x fun o=>{ cls:=o.cls,dict:=some h.objs.size,data:=o.data,slots:=o.slots }).get? h.objs.size
    = some { cls:= .type "dict",data:= .dict #[] } :=
   (Heap.get?_update_ne _ _ _ _ hxs.symm).trans (Heap.get?_push_at rfl rfl)
  have hnd:((h.push { cls:= .type "dict",data:= .dict #[] }).update x fun o=>{ cls:=o.cls,dict:=some h.objs.size,data:=o.data,slots:=o.slots }).Ns h.objs.size (fun _=>none) :=
   ⟨_,#[],_,hgd,rfl,fun e he=>absurd he (by simp),fun _=>rfl⟩
  show wpAny _ _ (storeInDict h.objs.size (.str name tk) name v) _ _ _
  unfold storeInDict newKeyGuard
  refine wpAny_bind (wpAny_pure (wpAny_bind (wpAny_nsSet1 (Heap.Ns1.of_empty hnd) fun h' hn' hs=>?_)))
  obtain ⟨oD,esD,epD,hoD,hdD,hcD⟩:=hn'.count (Within.cons name v Within.nil)
  refine wpAny_bind (wpAny_lookBehind hoD (by rw [hdD];exact pastItsLine_dict (Nat.le_trans hcD (by rw [List.length_cons,List.length_nil,sizeLine_eq];omega))) ?_)
  wp_walk
  refine hq h' _ h.objs.size (fun b ob hbx hb=>?_) ?_
  ·exact (hs.2 b (Nat.ne_of_lt (Heap.lt_size hb))).trans ((Heap.get?_update_ne _ _ _ _ hbx).trans (Heap.get?_push_of_some _ hb))
  ·refine (hs.2 x hxs).trans (Heap.get?_update_self _ hx₁ ?_)
   exact Obj.isFreed_of_fields (vs:=vs) hd
theorem setattr2 {Q:Unit→Shared→Prop}
  (hC:h.get? C=some (excClassObj nm q C N bs (.ref D :: bmE) true sn sub ab col dd k0 k1 k2 k3 k5 "Exception.__new__")) (hD:h.get? D=some (excClassObj nm' q' D ND bs' bmE hdct' sn' sub' ab' col' dd' l0 l1 l2 l3 l5 "Exception.__new__"))
  (hn:h.Ns N mC) (hm:h.Ns ND mD) (hs1:mC "__setattr__" = none) (hs2:mD "__setattr__" = none) (hna:mC name=none) (hnb:mD name=none) (hB:typeLookup (.type "Exception") name=pure none)
  (hx:h.get? x=some o) (hc:o.cls = .ref C) (hd:o.data = .fields vs) (hdn:o.dict=none)
  (hq:∀ h' tk' dx,Heap.ExtBut x h h'→h'.get? x=some { cls:=o.cls,dict:=some dx,data:=o.data,slots:=o.slots }→Q () ⟨h',g,d,tk',os⟩) :
  wpAny (model prog w) A (setAttr (.ref x) name v) Q E ⟨h,g,d,t,os⟩:=by
 have SF:=PySem.F.store_Exception
 have f3:=SF.slot.bind (.ref x)
 unfold setAttr callSpecial? specialOf
 repeat (any_goals (first | assumption | (with_reducible refine wpAny_loadPart_at hx ?_;rw [hc]) | (with_reducible refine look2 hC hD hn hm SF.slot.lookup ?_;rw [hs1,hs2]) | wp_step))
 refine codeAny_call_builtin SF.slot.plain SF.entry (za3 hC hx hc (z52 hC hD hn hm hna hnb hB hx hc hd hdn fun h' tk' dx k1 k2=>?_))
 repeat (any_goals (first | assumption | wp_step))
 exact hq h' tk' dx k1 k2
end
end Mine.Internal
namespace Mine.Internal
open PySem PySem.W PySem.Calls PyProof.Rows PySem.SeqAt PySem.StrLaws
variable [PH]
theorem z53 {prog:Program} {w:World} {A:Around} {E:Value→Shared→Prop} {s:Shared} {K:Frag} {T:String} {name:Str} {v:Value} {pl:Sem Bool} {Q:Value×List Value→Shared→Prop} (X:K.In s.heap) (ht:typeOf (.type T)=pure (.type "type")) (hs:Manifest.isStub T=false)
  (e:findCls K (.type T) (.type "type") name=some (.val v)) (hh:handedIn v=true) (h:Q (v,[]) { s with toks:=s.toks + 1 }):wpAny (model prog w) A (getMethod (.type T) name pl) Q E s:=by
 have hstub:opaqueClassAbove (.type T)=pure none:=by unfold opaqueClassAbove;dsimp only;rw [hs];rfl
 have L0:Looks (model prog w) s.heap (typeOf (.type T)) (.type "type"):=Looks.of_pure ht
 have hg:findIn K (.type "type") "__getattribute__" = some (some (.builtin "type.__getattribute__")):=type_tga
 unfold getMethod specialOf
 refine wpAny_bind (wpAny_bind (L0.here ((looks_findIn X hg).here ?_)))
 dsimp only
 rw [if_pos canon_tga]
 refine wpAny_bind (wpAny_mono (Q:=fun v=>Q (v,[])) (E:=E) ?_ (fun _ _ z=>wpAny_pure z) fun _ _ z=>z)
 have LO:Looks (model prog w) s.heap (opaqueClassAbove (.type T)) none:=Looks.of_pure hstub
 exact cls_open X LO L0 hg (looks_hook X (r:=none) (by rfl)) (by show subIn K _ _=_;rfl) e
  (wpAny_pure (by show wpAny _ _ (handedOut v) _ _ _;rw [handedOut_of hh];exact wpAny_pure h))
noncomputable def excName:Str:=Str.ofString "Exception"
noncomputable def initName:Str:=Str.ofString "__init__"
noncomputable def selfName:Str:=Str.ofString "self"
noncomputable def msgName:Str:=Str.ofString "message"
structure FaultOk (HB:Heap) (K:Frag) (mg mb:Str→Option Value):Prop where
 c44:∃ nm q bs sn sub ab col dd k0 k1 k2 k3 k5,HB.get? 44=some (excClassObj nm q 44 43 bs (.ref 31 :: bmE) true sn sub ab col dd k0 k1 k2 k3 k5 "Exception.__new__")
 c31:∃ nm q bs hd sn sub ab col dd k0 k1 k2 k3 k5,HB.get? 31=some (excClassObj nm q 31 30 bs bmE hd sn sub ab col dd k0 k1 k2 k3 k5 "Exception.__new__")
 n43:∃ m,HB.Ns 43 m∧m initName=none∧m (Str.ofString "__setattr__")=none∧m msgName=none
 n30:∃ m,HB.Ns 30 m∧m initName=some (.ref 28)∧m (Str.ofString "__setattr__")=none∧m msgName=none
 fn:∃ o fd p1 p2 p3 p4 p5 p6 p7 p8 p9 p10,HB.get? 28=some o∧o.cls = .type "function" ∧ o.data = .func fd∧HB.CodeRec fd.code fd.qualname∧fd.closure=[] ∧
  fd.body = .stmts [.Expr (.Call (.Attribute (.Name excName p1) initName p2) [.Name selfName p3,.Name msgName p4] [] p5) p6,.Assign [.Attribute (.Name selfName p7) msgName p8] (.Name msgName p9) p10] ∧
  (p2.endLine == p5.line)=true∧fd.params.posonlyargs=[]∧fd.params.kwonlyargs=[]∧fd.params.vararg=none∧fd.params.kwarg=none∧fd.params.args.map (·.arg)=[selfName,msgName]∧fd.defaults = .none ∧
  fd.scope.names=[(selfName,.local),(msgName,.local),(excName,.globalImplicit)]∧fd.scope.kind = .function∧fd.scope.isGenerator=false∧fd.scope.isCoroutine=false∧fd.globals=mainGlobals∧fd.builtins=builtinsNs
 g:mg excName=none
 b:mb excName=some (.type "Exception")
 find:findCls K (.type "Exception") (.type "type") initName=some (.val (.builtin "Exception.__init__"))
 keep:keepIn K (.ref 44)=true
section
variable {prog:Program} {w:World} {A:Around} {E:Value→Shared→Prop} {HB:Heap} {K:Frag} {mg mb:Str→Option Value} {tb:Tabs}
theorem noMsg:typeLookup (.type "Exception") msgName=pure none:=by rw [typeLookup_type,builtinLookup_eq_fast];kernel_rfl
theorem zbx (G:Ground prog HB K mg mb tb) (F:FaultOk HB K mg mb) {s:Shared} (k:Sub HB s.heap) {m:List Nat} {tm:Tok} (hm:m.length≤lineS) {e t0:Addr} (hA:A.depth + 2 < recursionLimit)
  (he:s.heap.get? e=some { cls:= .ref 44,data:= .fields #[.ref t0,.none,.none,.none,.bool false,.none] }) (hHe:HB.get? e=none) {Q:Value→Shared→Prop}
  (q:∀ h' tk,Heap.ExtBut e s.heap h'→(∃ oe vs,h'.get? e=some oe∧oe.cls = .ref 44∧oe.data = .fields vs∧vs[1]? = some .none)→Q .none { s with heap:=h',toks:=tk }) :
  wpAny (model prog w) A (call (.ref 28) [.ref e,.str (mkS m) tm]) Q E s:=by
 obtain ⟨o,fd,p1,p2,p3,p4,p5,p6,p7,p8,p9,p10,f1,f2,f3,f4,f5,f6,f7,f8,f9,f10,f11,f12,f13,f14,f15,f16,f17,f18,f19⟩:=F.fn
 obtain ⟨nm,qn,bs,sn,sub,ab,col,dd,k0,k1,k2,k3,k5,hC⟩:=F.c44
 obtain ⟨nm',qn',bs',hd',sn',sub',ab',col',dd',l0,l1,l2,l3,l5,hD⟩:=F.c31
 obtain ⟨m43,n1,n2,n3,n4⟩:=F.n43
 obtain ⟨m30,o1,o2,o3,o4⟩:=F.n30
 have nd:([selfName,msgName]:List Str).Nodup:=by decide
 have hbind:=z6u (s:=s) (fd:=fd) (args:=[.ref e,.str (mkS m) tm]) (ds:=[]) f8 f9 f10 f11 (by rw [f12];exact Nat.le_refl 2) (by rw [f12];exact Nat.le_refl 2) (by simp) (by rw [f12];exact nd) (.inl ⟨f13,rfl⟩)
 rw [f12] at hbind
 refine wpAny_call (codeAny_call_def (binds:=[(selfName,.ref e),(msgName,.str (mkS m) tm)]) (by omega) (k _ _ f1) f3 (G.lim.keeps k) (f4.keeps k) f6 hbind (by rw [f14];decide) (fun x hx=>?_) ?_ f17 f16 f15)
 ·rw [f14]
  rcases List.mem_cons.mp hx with rfl | hx
  ·show ([(selfName,NameKind.local),(msgName,NameKind.local),(excName,NameKind.globalImplicit)]:List (Str×NameKind)).lookup selfName=_;decide
  ·rw [List.mem_singleton] at hx;subst hx;show ([(selfName,NameKind.local),(msgName,NameKind.local),(excName,NameKind.globalImplicit)]:List (Str×NameKind)).lookup msgName=_;decide
 intro h₀ hns keep
 generalize hen:callEnv fd s.heap.objs.size 28=env
 have escope:env.scope=fd.scope:=by rw [← hen];rfl
 have eloc:env.locals=s.heap.objs.size:=by rw [← hen];rfl
 have eglob:env.globals=mainGlobals:=by rw [← hen];exact f18
 have eblt:env.builtins=builtinsNs:=by rw [← hen];exact f19
 have ekf:env.scope.kind = .function:=by rw [escope];exact f15
 have ekd:∀ x,env.kindOf x=fd.scope.names.lookup x:=fun x=>by show env.scope.names.lookup x=_;rw [escope]
 have ks:env.kindOf selfName=some .local:=by rw [ekd,f14];decide
 have km:env.kindOf msgName=some .local:=by rw [ekd,f14];decide
 have kx:env.kindOf excName=some .globalImplicit:=by rw [ekd,f14];decide
 have ms:([(selfName,Value.ref e),(msgName,Value.str (mkS m) tm)]:List (Str×Value)).reverse.lookup selfName=some (.ref e):=by
  show (match selfName == msgName with | true=>some (Value.str (mkS m) tm) | false=>(match selfName == selfName with | true=>some (Value.ref e) | false=>none))=_
  rw [show (selfName == msgName)=false from by decide,beq_self_eq_true]
 have mm:([(selfName,Value.ref e),(msgName,Value.str (mkS m) tm)]:List (Str×Value)).reverse.lookup msgName=some (.str (mkS m) tm):=by
  show (match msgName == msgName with | true=>some (Value.str (mkS m) tm) | false=>(match msgName == selfName with | true=>some (Value.ref e) | false=>none))=_
  rw [beq_self_eq_true]
 have hk0:Sub HB h₀:=fun b o e=>keep b o (k b o e)
 have he0:=keep _ _ he
 have hle:=z0i
 refine wpAny_execs_cons (wpAny_Expr_any ?_ (by unfold interactive;rw [ekf];rfl) rfl)
 refine z0s rfl f7 rfl (by show 2 < 30;decide) ?_
 refine Calls.Name_function_global ekf kx (Calls.loadGlobal_builtin (by rw [eglob];exact G.g.keeps hk0) F.g (by rw [eblt];exact G.b.keeps hk0) F.b ?_) (by decide)
 refine z53 (G.frag.keeps hk0) (by rfl) (by decide +kernel) F.find rfl ?_
 refine callWith_of (P:=fun _=>True) (by rfl) (fun hp _=>z18 (f:= .builtin "Exception.__init__") (fun a q=>Value.noConfusion q) hp) (z07 rfl ?_)
 rw [z0g rfl]
 refine spliced_cons (wpAny_Name (wpAny_loadName_local ekf ks (by rw [eloc];exact hns) ms ?_) (by decide))
 refine spliced_cons (wpAny_Name (wpAny_loadName_local ekf km (by rw [eloc];exact hns) mm ?_) (by decide))
 refine spliced_nil ⟨trivial,?_⟩
 refine init2 (hk0 _ _ hC) he0 rfl rfl rfl (fun h1 eb1 e1=>?_) (by show 1≤sizeLine;decide)
 have hk1:Sub HB h1:=fun b o q=>eb1 b o (fun z=>by rw [z,hHe] at q;cases q) (hk0 b o q)
 have hne:s.heap.objs.size≠e:=fun z=>by have:=Heap.lt_size he;rw [z] at this;exact Nat.lt_irrefl _ this
 have hns1:h1.Ns s.heap.objs.size (fun x=>([(selfName,Value.ref e),(msgName,Value.str (mkS m) tm)]:List (Str×Value)).reverse.lookup x):=by
  obtain ⟨o',es,ep,q1,r⟩:=hns
  exact ⟨o',es,ep,eb1 _ _ hne q1,r⟩
 refine wpAny_execs_cons (plainObj_wpAny_Assign_Attribute ?_ rfl)
 refine wpAny_Name (wpAny_loadName_local ekf km (by rw [eloc];exact hns1) mm ?_) (by decide)
 refine wpAny_Name (wpAny_loadName_local ekf ks (by rw [eloc];exact hns1) ms ?_) (by decide)
 refine setattr2 (hk1 _ _ hC) (hk1 _ _ hD) (n1.keeps hk1) (o1.keeps hk1) n3 o3 n4 o4 noMsg e1 rfl rfl rfl fun h2 tk2 dx eb2 e2=>?_
 refine wpAny_execs_nil ?_
 exact q h2 tk2 (fun b o hb q=>eb2 b o hb (eb1 b o hb (keep b o q))) ⟨_,_,e2,rfl,rfl,rfl⟩
theorem z7k (G:Ground prog HB K mg mb tb) (F:FaultOk HB K mg mb) {s:Shared} (k:Sub HB s.heap) {m:List Nat} {tm:Tok} (hm:m.length≤lineS) (hA:A.depth + 4 < recursionLimit) {Q:Value→Shared→Prop}
  (q:∀ h' tk e,Sub s.heap h'→s.heap.get? e=none→(∃ oe vs,h'.get? e=some oe∧oe.cls = .ref 44∧oe.data = .fields vs∧vs[1]? = some .none)→Q (.ref e) { s with heap:=h',toks:=tk }) :
  wpAny (model prog w) A (call (.ref 44) [.str (mkS m) tm]) Q E s:=by
 obtain ⟨o,fd,p1,p2,p3,p4,p5,p6,p7,p8,p9,p10,f1,f2,_⟩:=F.fn
 obtain ⟨nm,qn,bs,sn,sub,ab,col,dd,k0,k1,k2,k3,k5,hC⟩:=F.c44
 obtain ⟨nm',qn',bs',hd',sn',sub',ab',col',dd',l0,l1,l2,l3,l5,hD⟩:=F.c31
 obtain ⟨m43,n1,n2,n3,n4⟩:=F.n43
 obtain ⟨m30,o1,o2,o3,o4⟩:=F.n30
 obtain ⟨hh,gg,d,t,os⟩:=s
 refine za2 (k _ _ hC) (k _ _ hD) (n1.keeps k) (o1.keeps k) n2 o2 (k _ _ f1) f2 (fun h' e hm'=>?_) (by show 1≤sizeLine;decide)
 obtain ⟨t0,x1,x2,x3⟩:=hm'.there
 have hHe:HB.get? e=none:=by
  cases z:HB.get? e with
  | none=>rfl
  | some o=>have:=k _ _ z;rw [hm'.new] at this;cases this
 refine zbx (s:=⟨h',gg,d,t,os⟩) G F (fun b o z=>hm'.keeps b o (k b o z)) hm (by show A.depth+_ + 2 < _;have e1:(Code.builtin "type.__call__" ⟨[.ref 44,.str (mkS m) tm],[]⟩).weight = 1:=rfl;rw [e1];omega) x1 hHe fun h2 tk2 eb hx=>⟨rfl,?_⟩
 exact q h2 tk2 e (fun b o z=>eb b o (fun y=>by rw [y,hm'.new] at z;cases z) (hm'.keeps b o z)) hm'.new hx
end
end Mine.Internal
namespace Mine.Internal
open PySem PySem.W PySem.Calls PyProof.Rows PySem.SeqAt PySem.StrLaws
variable [PH]
section
variable {M:Model} {A:Around} {E:Value→Shared→Prop} {env:Env}
variable {nm q:Str} {bs:List Value} {hdct:Bool} {sn:List Str} {sub:List Value} {ab:Bool} {col:Option Bool} {dd:Option Addr} {k0 k1 k2 k3 k5:Option Value}
theorem z23 {s:Shared} {x:Sem Value} {Q:Flow→Shared→Prop} (hh:A.handled=none)
  (h:wpAny M A x (fun v s₁=>∃ e oe vs,v = .ref e∧s₁.heap.get? 44=some (excClassObj nm q 44 43 bs (.ref 31 :: bmE) hdct sn sub ab col dd k0 k1 k2 k3 k5 "Exception.__new__") ∧
   s₁.heap.get? e=some oe∧oe.cls = .ref 44∧oe.data = .fields vs∧vs[1]? = some .none∧E (.ref e) s₁) E s) :
  wpAny M A (raiseStmt env (some x) none) Q E s:=by
 have hcB:(Value.ref 44 :: .ref 31 :: bmE).contains (.type "BaseException")=true:=by rw [List.contains_cons,List.contains_cons,PySem.F.excBase_Exception.hasBase,Bool.or_true,Bool.or_true]
 unfold raiseStmt
 refine wpAny_bind (wpAny_mono h (fun v s₁ h₁=>?_) fun _ _ x=>x)
 obtain ⟨e,oe,vs,rfl,hC,he,hc,hd,h1,hE⟩:=h₁
 obtain ⟨hp,g,d,tk,os⟩:=s₁
 obtain ⟨oc,od,odt,osl⟩:=oe
 simp only at hc hd
 subst hc hd
 have hf:∀ {Q:Unit→Shared→Prop},Q () ⟨hp,g,d,tk,os⟩→wpAny M A (setFlight (.ref e) none) Q E ⟨hp,g,d,tk,os⟩:=fun {Q} hq=>by
  unfold setFlight
  refine wpAny_bind (wpAny_field he rfl h1 ?_)
  rw [if_neg (by simp)]
  exact wpAny_pure hq
 repeat (first | with_reducible refine wpAny_bind (hf ?_) | with_reducible refine wpAny_loadPart_at he ?_ | with_reducible refine wpAny_loadPart_at hC ?_ | (with_reducible refine wpAny_isSubtype_exc hC ?_;rw [hcB]) | wp_step)
 exact wpAny_raiseNew_none hh hE
end
section
variable {prog:Program} {w:World} {HB:Heap} {K:Frag} {mg mb:Str→Option Value} {tb:Tabs} {Φ:Nat→List V→St→R V} {n W:Nat} {C:Cx} {fa:Nat→Addr}
theorem zj1 {v:V} {f:List Nat→RS} (h:(match v with
 | .t (.str l)=>f l
 | _=> .bot) ≠ .bot):∃ l,v = .t (.str l):=by
 cases v with
 | t t=>cases t<;>first | exact ⟨_,rfl⟩ | exact (h rfl).elim
 | _=>exact (h rfl).elim
theorem z7l (G:Ground prog HB K mg mb tb) (F:FaultOk HB K mg mb) {x:Str} {p cp pos:Pos} {e:Expr} {u:X} (hm:mg x=some (.ref 44)) (hx:C.scope.names.lookup x=some .globalImplicit) (hd:(x == ("__debug__" : Str))=false) (hn:noStar [e]=true) (h:SndE prog w HB tb Φ n C e u) :
  SndT prog w HB tb Φ W n C (.Raise (some (.Call (.Name x p) [e] [] cp)) none pos) (.raise u):=by
 intro A s Z μ rest σ env L m ρ g z so ws lc hb Q E k
 rw [zio] at k hb
 obtain ⟨nm,qn,bs,sn,sub,ab,col,dd,k0,k1,k2,k3,k5,hC⟩:=F.c44
 have hkd:env.kindOf x=C.scope.names.lookup x:=by show env.scope.names.lookup x=_;rw [so.scope]
 have hkf:env.scope.kind = .function:=by rw [so.scope];exact so.kind
 have key:wpAny (model prog w) A (eval (.Call (.Name x p) [e] [] cp) env) (fun v s₁=>∃ e oe vs,v = .ref e∧s₁.heap.get? 44=some (excClassObj nm qn 44 43 bs (.ref 31 :: bmE) true sn sub ab col dd k0 k1 k2 k3 k5 "Exception.__new__") ∧
   s₁.heap.get? e=some oe∧oe.cls = .ref 44∧oe.data = .fields vs∧vs[1]? = some .none∧E (.ref e) s₁) E s:=by
  refine wpAny_Call_Name_kw (keywords:=[]) ?_
  refine Calls.Name_function_global hkf (hkd.trans hx) (Calls.loadGlobal_global (by rw [so.glob];exact G.g.keeps (z.trans ws.keep)) hm ?_) hd
  refine callWith_of (P:=K.In) (by rw [z0j hn];rfl) (keeps_K F.keep) (z07 hn ?_)
  rw [z0g hn]
  refine spliced_cons ?_
  refine (h g z so.toEnvOk ws lc).toS hb k fun a σ1 Z1 μ1 h1 tk1 v e1 z1 p1 ws1 r1 hb1 k1'=>?_
  refine spliced_nil ?_
  have kk:Sub HB h1:=(z.trans z1).trans ws1.keep
  refine ⟨G.frag.keeps kk,?_⟩
  obtain ⟨l,rfl⟩:=zj1 hb1
  replace k1':KS C env L _ Z1 μ1 rest (.exc ρ σ1) Q E:=k1'
  clear hb k hb1
  ·obtain ⟨t,rfl,hl⟩:=r1
   have dep:=g.dep
   refine z7k (s:={ s with heap:=h1,toks:=tk1 }) G F kk hl (by omega) fun h2 tk2 e s2 n2 hx2=>?_
   obtain ⟨oe,vs,x1,x2,x3,x4⟩:=hx2
   refine ⟨e,oe,vs,rfl,s2 _ _ (kk _ _ hC),x1,x2,x3,x4,?_⟩
   have ws2:=ws1.ext s2
   have nm2:=ws1.not_mem n2
   exact k1'.exc _ _ rfl Z1 μ1 m h2 tk2 e (Sub.refl _) (Pre.refl _) ws2 (.inl ⟨nm2.2,nm2.1,oe,vs,x1,x2,x3,x4⟩)
 rw [arm_exec_Raise]
 first
  | exact wpAny_bind (wpAny_standAt (z23 g.hand (wpAny_bind (wpAny_mono key (fun v s₁ h₁=>wpAny_bind (wpAny_standAt (wpAny_pure h₁))) fun _ _ x=>x))))
  | (simp only [evalOpt,Option.map];exact wpAny_bind (wpAny_standAt (z23 g.hand (wpAny_bind (wpAny_mono key (fun v s₁ h₁=>wpAny_bind (wpAny_standAt (wpAny_pure h₁))) fun _ _ x=>x)))))
  | (show wpAny _ A (do standAt pos;raiseStmt env (some (do let v ← eval (.Call (.Name x p) [e] [] cp) env;standAt pos;pure v)) none) Q E s;exact wpAny_bind (wpAny_standAt (z23 g.hand (wpAny_bind (wpAny_mono key (fun v s₁ h₁=>wpAny_bind (wpAny_standAt (wpAny_pure h₁))) fun _ _ x=>x)))))
theorem z44 {M:Model} {A:Around} {E:Value→Shared→Prop} {h:Heap} {g:Array GenState} {d:Drawn} {t:Nat} {os:OsState} {nm q:Str} {bs:List Value} {hdct:Bool} {sn:List Str} {sub:List Value} {ab:Bool} {col:Option Bool} {dd:Option Addr} {k0 k1 k2 k3 k5:Option Value} {e:Addr} {oe:Obj} {Q:Bool→Shared→Prop}
  (hC:h.get? 44=some (excClassObj nm q 44 43 bs (.ref 31 :: bmE) hdct sn sub ab col dd k0 k1 k2 k3 k5 "Exception.__new__")) (he:h.get? e=some oe) (hcls:oe.cls = .ref 44) (hq:Q true ⟨h,g,d,t,os⟩):wpAny M A (excMatches (.ref e) (.ref 44)) Q E ⟨h,g,d,t,os⟩ :=
 wpAny_excMatches_sub_self hC he hcls (by rw [List.contains_cons,PySem.F.excBase_Exception.hasBase,Bool.or_true]) hq
theorem zby (G:Ground prog HB K mg mb tb) (F:FaultOk HB K mg mb) {x:Str} {p hp rp cp pos:Pos} {body:List Stmt} {b:S} {bv:Bool} {kk:Nat} (hm:mg x=some (.ref 44)) (hx:C.scope.names.lookup x=some .globalImplicit) (hd:(x == ("__debug__" : Str))=false) (h:SndS prog w HB tb Φ W n C body b) :
  SndT prog w HB tb Φ W n C (.Try body [.ExceptHandler (some (.Name x p)) none [.Return (some (.Constant (.bool bv) kk cp)) rp] hp] [] [] pos) (.tryE b (.bool bv)):=by
 intro A s Z μ rest σ env L m ρ g z so ws lc hb Q E k
 rw [ziq] at k hb
 obtain ⟨nm,qn,bs,sn,sub,ab,col,dd,k0,k1,k2,k3,k5,hC⟩:=F.c44
 have hkd:env.kindOf x=C.scope.names.lookup x:=by show env.scope.names.lookup x=_;rw [so.scope]
 have hkf:env.scope.kind = .function:=by rw [so.scope];exact so.kind
 obtain ⟨l,hl⟩:=so.top
 refine wpAny_Try_except ?_
 have hbb:exS tb Φ W b ρ σ ≠ .bot:=fun q=>by rw [q] at hb;exact hb rfl
 refine h g z so ws lc hbb _ _ ⟨fun ρ' σ' e Z' μ' m' h' tk zz p' ws' lc'=>?_,fun v σ' e Z' μ' m' h' tk xv zz p' ws' r=>?_,fun ρ' σ' e Z' μ' m' h' tk xe zz p' ws' ei=>?_⟩
 ·exact wpAny_execs_nil (k.next ρ' σ' (by rw [e]) Z' μ' m' h' tk zz p' ws' lc')
 ·exact k.ret v σ' (by rw [e]) Z' μ' m' h' tk xv zz p' ws' r
 ·have hf:∀ y∈env :: l,FrIn (nsA ((L,.ns m') :: rest)) y:=fun y hy=>g.all hl y hy
  refine z40 (outs:=(L,.ns m') :: rest) (s:={ s with heap:=h',toks:=tk }) hl hf so.frame ws' ei fun h1 w1 x1=>?_
  refine z1g (outs:=(L,.ns m') :: rest) (s:={ s with heap:=h1,toks:=tk }) (fl:=rawInt L) (fr:=none) w1 (z19.mpr x1) fun h2 w2 x2=>?_
  have hk2:Sub HB h2:=(z.trans zz).trans w2.keep
  refine wpAny_handleBy_cons (codeAny_handlers_test ?_) (by intro q;cases q)
  refine Calls.Name_function_global hkf (hkd.trans hx) (Calls.loadGlobal_global (by rw [so.glob];exact G.g.keeps hk2) hm ?_) hd
  obtain ⟨y1,y2,oe,vs,y3,y4,y5,y6⟩:=id x2
  refine z44 (hk2 _ _ hC) y3 y4 ?_
  show codeAny _ _ _ _ _
  refine codeAny_handlers_suite ?_
  refine z1g (outs:=(L,.ns m') :: rest) (s:={ s with heap:=h2,toks:=tk }) (fl:= .none) (fr:=none) w2 x2 fun h3 w3 x3=>?_
  refine wpAny_execs_cons (wpAny_Return_some (wpAny_Constant_bool ?_))
  exact k.ret (.t (.bool bv)) σ' (by rw [e]) Z' μ' m' h3 tk (.bool bv) zz p' w3 rfl
end
end Mine.Internal
namespace Mine.Internal
open PySem PySem.W PySem.Calls PyProof.Rows PySem.SeqAt PySem.StrLaws
variable [PH]
section
variable {prog:Program} {w:World} {HB:Heap} {K:Frag} {mg mb:Str→Option Value} {tb:Tabs} {Φ:Nat→List V→St→R V} {n:Nat} {C:Cx} {fa:Nat→Addr}
theorem zbz (x y u:X) (ρ:List V) (σ:St):tst (den tb Φ (.cmp2 x y u) ρ σ)=(den tb Φ x ρ σ).bind fun v σ=>(den tb Φ y ρ σ).bind fun u' σ=>match cmpV σ 3 v u' with
  | some true=>(den tb Φ u ρ σ).bind fun w σ=>R.lift (cmpV σ 3 u' w) σ
  | some false=> .ok false σ
  | Option.none=> .bot:=by
 rw [zdk]
 cases den tb Φ x ρ σ with
 | ok v σ1=>
  show tst (R.bind (den tb Φ y ρ σ1) _)=R.bind (den tb Φ y ρ σ1) _
  cases den tb Φ y ρ σ1 with
  | ok u' σ2=>
   show tst (match cmpV σ2 3 v u' with
    | some true=>_
    | some false=>_
    | none=> .bot)=(match cmpV σ2 3 v u' with
    | some true=>_
    | some false=>_
    | none=> .bot)
   cases cmpV σ2 3 v u' with
   | none=>rfl
   | some b=>
    cases b with
    | false=>rfl
    | true=>
     show tst (R.bind (den tb Φ u ρ σ2) _)=R.bind (den tb Φ u ρ σ2) _
     cases den tb Φ u ρ σ2 with
     | ok w' σ3=>
      show tst (R.lift ((cmpV σ3 3 u' w').map _) σ3)=R.lift (cmpV σ3 3 u' w') σ3
      cases cmpV σ3 3 u' w'<;>rfl
     | exc σ=>rfl
     | bot=>rfl
  | exc σ=>rfl
  | bot=>rfl
 | exc σ=>rfl
 | bot=>rfl
theorem za4 (G:Ground prog HB K mg mb tb) {l r r':Expr} {x y u:X} {pos:Pos} (hm:lastMarks [.LtE,.LtE] [r,r']=false) (hl:SndE prog w HB tb Φ n C l x) (hr:SndE prog w HB tb Φ n C r y) (hr':SndE prog w HB tb Φ n C r' u):SndB prog w HB tb Φ n C (.Compare l [.LtE,.LtE] [r,r'] pos) (.cmp2 x y u):=by
 intro A s Z μ rest σ env L m ρ g z eo ws lc hb Q E ok ex
 rw [zbz] at ok hb ex
 refine isTrue_chain ?_ hm
 refine (hl g z eo ws lc).bind hb ok ex fun a σ1 Z1 μ1 h1 tk1 v e1 z1 p1 ws1 r1 hb1 ok1 ex1=>?_
 refine test_link ?_
 refine (hr g (z.trans z1) eo ws1 (lc.mono z1 p1)).bind hb1 ok1 ex1 fun b σ2 Z2 μ2 h2 tk2 u2 e2 z2 p2 ws2 r2 hb2 ok2 ex2=>?_
 cases ec:cmpV σ2 3 a b with
 | none=>rw [ec] at hb2;exact (hb2 rfl).elim
 | some t=>
  rw [ec] at hb2 ok2 ex2
  refine z1z (s:={ s with heap:=h2,toks:=tk2 }) G g ((z.trans z1).trans z2) ws2 (op:=3) rfl ec (r1.mono z2 p2) r2 (wpAny_truthy_bool ?_)
  cases t with
  | false=>exact ok2.now (tk:=tk2) ws2 rfl
  | true=>
   rw [if_pos rfl]
   refine test_last ?_
   refine (hr' (s:={ s with heap:=h2,toks:=tk2 }) g ((z.trans z1).trans z2) eo ws2 ((lc.mono z1 p1).mono z2 p2)).bind hb2 ok2 ex2 fun d σ3 Z3 μ3 h3 tk3 u3 e3 z3 p3 ws3 r3 hb3 ok3 ex3=>?_
   obtain ⟨t,e3,e4⟩:=z0y hb3
   rw [e4] at ok3
   exact z1z (s:={ s with heap:=h3,toks:=tk3 }) G g (((z.trans z1).trans z2).trans z3) ws3 (op:=3) rfl e3 (r2.mono z3 p3) r3 (wpAny_truthy_bool (ok3.now (tk:=tk3) ws3 rfl))
noncomputable def ValIs (tb:Tabs) (C:Cx) (i:Int) (e:Expr):Prop :=
 (∃ k pos,e = .Constant (.int i) k pos)∨∃ x g pos,e = .Name x pos∧sLook gname x=some g∧C.scope.names.lookup x=some .globalImplicit∧tb.glob g=some (.int i)
inductive Disp (tb:Tabs) (C:Cx):List (Option Expr)→List Expr→List (List Nat×Int)→Prop
 | nil:Disp tb C [] [] []
 | cons {s:Str} {k:List Nat} {i:Int} {kk:Nat} {kp:Pos} {v:Expr} {ks vs l}:s=mkS k→ValIs tb C i v→Disp tb C ks vs l→Disp tb C (some (.Constant (.str s) kk kp) :: ks) (v :: vs) ((k,i) :: l)
noncomputable def PairsAre:List (Value×Value)→List (List Nat×Int)→Prop
 | [],[]=>True
 | (a,b) :: r,(k,i) :: l=>(∃ t u,a = .str (mkS k) t∧b = .int i u)∧PairsAre r l
 | _,_=>False
theorem z7m (G:Ground prog HB K mg mb tb) {A:Around} {E:Value→Shared→Prop} {env:Env} {pos:Pos} {L:Addr} (eo:EnvOk C env L):∀ {ks:List (Option Expr)} {vs:List Expr} {l:List (List Nat×Int)},Disp tb C ks vs l→∀ {s:Shared} {Q:List (Value×Value)→Shared→Prop},Sub HB s.heap →
  (∀ ps tk,PairsAre ps l→Q ps { s with toks:=tk })→wpAny (model prog w) A (evalPairs (pairTrees ks vs env pos)) Q E s:=by
 intro ks vs l h
 induction h with
 | nil=>intro s Q k q;exact pairTrees_nil_walk (q [] s.toks trivial)
 | @cons st k i kk kp v ks vs l hs hv _ ih=>
  intro s Q kx q
  subst hs
  refine pairTrees_cons_walk (wpAny_Constant_str ?_)
  have fin:∀ tk u,wpAny (model prog w) A (evalPairs (pairTrees ks vs env pos)) (fun r s₃=>Q ((.str (mkS k) s.toks,.int i u) :: r) s₃) E { s with toks:=tk }:=fun tk u=>
   ih (s:={ s with toks:=tk }) kx fun ps tk' hp=>q _ tk' ⟨⟨_,_,rfl,rfl⟩,hp⟩
  rcases hv with ⟨k',pos',rfl⟩ | ⟨x,g,pos',rfl,h1,h2,h3⟩
  ·exact wpAny_Constant_int (fin _ _)
  ·have hkd:env.kindOf x=C.scope.names.lookup x:=by show env.scope.names.lookup x=_;rw [eo.scope]
   have hkf:env.scope.kind = .function:=by rw [eo.scope];exact eo.kind
   obtain ⟨hd,v,hv,rv⟩:=G.globs x g _ h1 h3
   obtain ⟨u,rfl⟩:=rv
   exact Calls.Name_function_global hkf (hkd.trans h2) (Calls.loadGlobal_global (by rw [eo.glob];exact G.g.keeps kx) hv (fin _ _)) hd
theorem z36:∀ {ps:List (Value×Value)} {l:List (List Nat×Int)},PairsAre ps l→∃ kvs:List (Str×Value),Carries (PySem.strKind prog w) ps kvs∧KeyedD l kvs∧kvs.map (·.1)=l.map fun p=>mkS p.1
 | [],[],_=>⟨[],trivial,trivial,rfl⟩
 | (a,b) :: ps,(k,i) :: l,⟨⟨t,u,e1,e2⟩,h⟩=>by
  obtain ⟨kvs,h1,h2,h3⟩:=z36 h
  subst e1 e2
  exact ⟨(mkS k,.int i u) :: kvs,⟨strKind_is prog w _ _,rfl,h1⟩,⟨⟨rfl,u,rfl⟩,h2⟩,by simp [h3]⟩
theorem z3m {K:Type} [DecidableEq K]:∀ (more kvs:List (K×Value)),(more.map (·.1)).Nodup→(∀ p∈more,∀ q∈kvs,q.1≠p.1)→merged kvs more=kvs++more
 | [],kvs,_,_=>by simp [merged]
 | (k,v) :: more,kvs,nd,h=>by
  have nd':=List.nodup_cons.mp nd
  have e:stored kvs k v=kvs++[(k,v)]:=by
   unfold stored
   rw [if_neg]
   simp only [List.any_eq_true,decide_eq_true_eq,not_exists,not_and]
   exact fun q hq=>h _ (.head _) q hq
  show merged (stored kvs k v) more=_
  rw [e,z3m more _ nd'.2 fun p hp q hq=>?_]
  ·simp
  ·rcases List.mem_append.mp hq with hq | hq
   ·exact h p (.tail _ hp) q hq
   ·simp at hq;subst hq
    exact fun z=>nd'.1 (by simp only at z;rw [z];exact List.mem_map.mpr ⟨p,hp,rfl⟩)
theorem z54:∀ {l:List (List Nat)},l.Nodup→(l.map mkS).Nodup
 | [],_=>List.nodup_nil
 | a :: l,h=>by
  have h':=List.nodup_cons.mp h
  rw [List.map_cons]
  refine List.nodup_cons.mpr ⟨fun q=>?_,z54 h'.2⟩
  obtain ⟨b,hb,e⟩:=List.mem_map.mp q
  exact h'.1 (by rw [← z5w e];exact hb)
theorem zc0 {ks:List (Option Expr)} {vs:List Expr} {l:List (List Nat×Int)} (h:Disp tb C ks vs l):ks.all (·.isSome)=true∧ks.length=vs.length∧ks.length=l.length:=by
 induction h with
 | nil=>exact ⟨rfl,rfl,rfl⟩
 | cons _ _ _ ih=>
  obtain ⟨h1,h2,h3⟩:=ih
  exact ⟨by simpa using h1,by simp [h2],by simp [h3]⟩
theorem zc1 (G:Ground prog HB K mg mb tb) (HT:∀ Z a kvs,PH.tab Z a kvs↔Z.DictOf (PySem.strKind prog w) a kvs) {ks:List (Option Expr)} {vs:List Expr} {l:List (List Nat×Int)} {pos:Pos} (D:Disp tb C ks vs l) (h0:l≠[]) (hl:l.length ≤ 15) (nd:(l.map (·.1)).Nodup) :
  SndE prog w HB tb Φ n C (.Dict ks vs pos) (.dict l):=by
 intro A s Z μ rest σ env L m ρ g z eo ws lc hb Q E ok ex
 rw [den_6] at ok
 obtain ⟨d1,d2,d3⟩:=zc0 D
 have k:Sub HB s.heap:=z.trans ws.keep
 have k1:Sub s.heap (s.heap.push { cls:= .type "dict",data:= .dict #[] }):=fun b o e=>Heap.get?_push_of_some _ e
 have hsz:mainGlobals < s.heap.objs.size:=by
  obtain ⟨o,es,ep,e,_⟩:=G.g
  exact Heap.lt_size (k _ _ e)
 refine wpAny_Dict_walk (knd:=PySem.strKind prog w) d1 d2 (fun q=>h0 (by rw [q] at d3;exact List.length_eq_zero_iff.mp d3.symm)) (by omega) ?_
 refine z7m (s:={ s with heap:=s.heap.push { cls:= .type "dict",data:= .dict #[] } }) G eo D (fun b o e=>k1 b o (k b o e)) fun ps tk hp=>?_
 obtain ⟨kvs,c1,c2,c3⟩:=z36 (prog:=prog) (w:=w) hp
 refine ⟨kvs,c1,Heap.DictOf.new _,fun h' hd sb=>?_⟩
 have ndk:(kvs.map (·.1)).Nodup:=by
  rw [c3]
  have:(l.map fun p=>mkS p.1)=(l.map (·.1)).map mkS:=by rw [List.map_map];rfl
  rw [this]
  exact z54 nd
 rw [z3m kvs [] ndk (fun p _ q hq=>nomatch hq),List.nil_append] at hd
 have kk:Sub s.heap h':=fun b o e=>sb.extBut b o (Nat.ne_of_lt (Heap.lt_size e)) (k1 b o e)
 have w':=ws.ext kk
 obtain ⟨o,es,ep,q1,q2⟩:=id hd
 have nm:=(ws.not_mem (z08 s.heap)).1
 refine ok.at (tk:=tk+ps.length) w'.frz_sub (Pre.refl _) w'.frz ⟨s.heap.objs.size,kvs,rfl,(HT _ _ _).mpr ⟨o,es,ep,z2v q1 nm,q2⟩,c2,?_⟩
 refine beq_eq_false_iff_ne.mpr fun q=>?_
 have e1:sysModules = 1:=rfl
 have e2:mainGlobals = 3:=rfl
 have hsz':(3:Nat) < s.heap.objs.size:=hsz
 have q':s.heap.objs.size=(1:Nat):=q
 omega
end
end Mine.Internal
namespace Mine.Internal
open PySem PySem.W
set_option genInjectivity false
set_option genSizeOfSpec false
structure Vw where
 tag:Nat
 a:Expr
 b:Expr
 c:Expr
 s:Str
 es:List Expr
 n:Nat
 p:Pos
 k:Const
 ks:List (Option Expr)
 o:Operator
 u:UnaryOp
 bo:BoolOp
 os:List CmpOp
 oa:Option Expr
 ob:Option Expr
 oc:Option Expr
 kw:List Keyword
 gs:List Comprehension
 sc:Scope
noncomputable def dE:Expr:= .Name ⟨#[]⟩ ⟨0,0,0,0⟩
noncomputable def dV:Vw:=⟨0,dE,dE,dE,⟨#[]⟩,[],0,⟨0,0,0,0⟩,default,[],default,default,default,[],none,none,none,[],[],default⟩
noncomputable def vw (e:Expr):Vw:=match e with
 | .Constant c n p=>{ dV with tag:=1,k:=c,n:=n,p:=p }
 | .Name x p=>{ dV with tag:=2,s:=x,p:=p }
 | .Tuple es n p=>{ dV with tag:=3,es:=es,n:=n,p:=p }
 | .List es p=>{ dV with tag:=4,es:=es,p:=p }
 | .Attribute a s p=>{ dV with tag:=5,a:=a,s:=s,p:=p }
 | .Dict ks es p=>{ dV with tag:=6,ks:=ks,es:=es,p:=p }
 | .BinOp a o b p=>{ dV with tag:=7,a:=a,o:=o,b:=b,p:=p }
 | .UnaryOp u a p=>{ dV with tag:=8,u:=u,a:=a,p:=p }
 | .BoolOp o es p=>{ dV with tag:=9,bo:=o,es:=es,p:=p }
 | .Compare a os es p=>{ dV with tag:=10,a:=a,os:=os,es:=es,p:=p }
 | .IfExp a b c p=>{ dV with tag:=11,a:=a,b:=b,c:=c,p:=p }
 | .Subscript a b p=>{ dV with tag:=12,a:=a,b:=b,p:=p }
 | .Slice a b c p=>{ dV with tag:=13,oa:=a,ob:=b,oc:=c,p:=p }
 | .Call a es kw p=>{ dV with tag:=14,a:=a,es:=es,kw:=kw,p:=p }
 | .ListComp a gs sc p=>{ dV with tag:=15,a:=a,gs:=gs,sc:=sc,p:=p }
 | _=>dV
noncomputable def rbT (t:Nat) (v:Vw):Expr:=match t with
 | 1=> .Constant v.k v.n v.p
 | 2=> .Name v.s v.p
 | 3=> .Tuple v.es v.n v.p
 | 4=> .List v.es v.p
 | 5=> .Attribute v.a v.s v.p
 | 6=> .Dict v.ks v.es v.p
 | 7=> .BinOp v.a v.o v.b v.p
 | 8=> .UnaryOp v.u v.a v.p
 | 9=> .BoolOp v.bo v.es v.p
 | 10=> .Compare v.a v.os v.es v.p
 | 11=> .IfExp v.a v.b v.c v.p
 | 12=> .Subscript v.a v.b v.p
 | 13=> .Slice v.oa v.ob v.oc v.p
 | 14=> .Call v.a v.es v.kw v.p
 | 15=> .ListComp v.a v.gs v.sc v.p
 | _=>dE
noncomputable def VwOk (e:Expr):Prop:=rbT (vw e).tag (vw e)=e∨(vw e).tag = 0
theorem vw_ok (e:Expr):VwOk e:=by
 cases e<;>first | exact .inl rfl | exact .inr rfl
theorem vw_t {e:Expr} {t:Nat} (h:Nat.beq (vw e).tag (t + 1)=true):e=rbT (t + 1) (vw e):=by
 have h:=Nat.beq_eq.mp h
 rcases vw_ok e with q | q
 ·rw [h] at q;exact q.symm
 ·rw [h] at q;exact Nat.noConfusion q
structure Sw where
 tag:Nat
 ts:List Expr
 a:Expr
 b:Expr
 oa:Option Expr
 ob:Option Expr
 b1:List Stmt
 b2:List Stmt
 b3:List Stmt
 hs:List ExceptHandler
 p:Pos
noncomputable def dS:Sw:=⟨0,[],dE,dE,none,none,[],[],[],[],⟨0,0,0,0⟩⟩
noncomputable def sw (e:Stmt):Sw:=match e with
 | .Assign ts a p=>{ dS with tag:=1,ts:=ts,a:=a,p:=p }
 | .Expr a p=>{ dS with tag:=2,a:=a,p:=p }
 | .If a b1 b2 p=>{ dS with tag:=3,a:=a,b1:=b1,b2:=b2,p:=p }
 | .While a b1 b2 p=>{ dS with tag:=4,a:=a,b1:=b1,b2:=b2,p:=p }
 | .For a b b1 b2 p=>{ dS with tag:=5,a:=a,b:=b,b1:=b1,b2:=b2,p:=p }
 | .Return o p=>{ dS with tag:=6,oa:=o,p:=p }
 | .Raise o q p=>{ dS with tag:=7,oa:=o,ob:=q,p:=p }
 | .Try b1 hs b2 b3 p=>{ dS with tag:=8,b1:=b1,hs:=hs,b2:=b2,b3:=b3,p:=p }
 | _=>dS
noncomputable def rbS (t:Nat) (v:Sw):Stmt:=match t with
 | 1=> .Assign v.ts v.a v.p
 | 2=> .Expr v.a v.p
 | 3=> .If v.a v.b1 v.b2 v.p
 | 4=> .While v.a v.b1 v.b2 v.p
 | 5=> .For v.a v.b v.b1 v.b2 v.p
 | 6=> .Return v.oa v.p
 | 7=> .Raise v.oa v.ob v.p
 | 8=> .Try v.b1 v.hs v.b2 v.b3 v.p
 | _=> .Pass v.p
noncomputable def SwOk (e:Stmt):Prop:=rbS (sw e).tag (sw e)=e∨(sw e).tag = 0
theorem sw_ok (e:Stmt):SwOk e:=by
 cases e<;>first | exact .inl rfl | exact .inr rfl
theorem sw_t {e:Stmt} {t:Nat} (h:Nat.beq (sw e).tag (t + 1)=true):e=rbS (t + 1) (sw e):=by
 have h:=Nat.beq_eq.mp h
 rcases sw_ok e with q | q
 ·rw [h] at q;exact q.symm
 ·rw [h] at q;exact Nat.noConfusion q
noncomputable def l0 {α:Type} (l:List α):Bool:=match l with
 | []=>true
 | _ :: _=>false
theorem l0_i {α:Type} {l:List α} (h:l0 l=true):l=[]:=by
 cases l with
 | nil=>rfl
 | cons=>exact Bool.noConfusion h
noncomputable def lc {α:Type} (l:List α) (k : α→List α→Bool):Bool:=match l with
 | []=>false
 | a :: r=>k a r
theorem lc_i {α:Type} {l:List α} {k : α→List α→Bool} (h:lc l k=true):∃ a r,l=a :: r∧k a r=true:=by
 cases l with
 | nil=>exact Bool.noConfusion h
 | cons a r=>exact ⟨a,r,rfl,h⟩
theorem nb {b:Bool} (h:(!b)=true):b=false:=by
 cases b
 ·rfl
 ·exact Bool.noConfusion h
theorem a2 {a b:Bool} (h:(a && b)=true):a=true∧b=true:=Bool.and_eq_true_iff.mp h
theorem a3 {a b c:Bool} (h:(a && b && c)=true):a=true∧b=true∧c=true:=let ⟨x,y⟩:=a2 h;let ⟨x,z⟩:=a2 x;⟨x,z,y⟩
theorem a4 {a b c d:Bool} (h:(a && b && c && d)=true):a=true∧b=true∧c=true∧d=true:=let ⟨x,y⟩:=a2 h;let ⟨x,z,w⟩:=a3 x;⟨x,z,w,y⟩
theorem a5 {a b c d e:Bool} (h:(a && b && c && d && e)=true):a=true∧b=true∧c=true∧d=true∧e=true:=let ⟨x,y⟩:=a2 h;let ⟨x,z,w,v⟩:=a4 x;⟨x,z,w,v,y⟩
theorem a6 {a b c d e f:Bool} (h:(a && b && c && d && e && f)=true):a=true∧b=true∧c=true∧d=true∧e=true∧f=true:=let ⟨x,y⟩:=a2 h;let ⟨x,z,w,v,u⟩:=a5 x;⟨x,z,w,v,u,y⟩
noncomputable def l1 {α:Type} (l:List α) (k : α→Bool):Bool:=lc l fun a r=>l0 r && k a
theorem l1_i {α:Type} {l:List α} {k : α→Bool} (h:l1 l k=true):∃ a,l=[a]∧k a=true:=by
 obtain ⟨a,r,e,q⟩:=lc_i h
 have q:=a2 q
 rw [l0_i q.1] at e
 exact ⟨a,e,q.2⟩
noncomputable def l2v {α:Type} (l:List α) (k : α→α→Bool):Bool:=lc l fun a r=>l1 r fun b=>k a b
theorem l2v_i {α:Type} {l:List α} {k : α→α→Bool} (h:l2v l k=true):∃ a b,l=[a,b]∧k a b=true:=by
 obtain ⟨a,r,e,q⟩:=lc_i h
 obtain ⟨b,e2,q2⟩:=l1_i q
 rw [e2] at e
 exact ⟨a,b,e,q2⟩
noncomputable def l23 {α:Type} (l:List α) (k : α→α→Bool) (m : α→α→α→List α→Bool):Bool:=lc l fun a r=>lc r fun b q=>match q with
 | []=>k a b
 | c :: s=>m a b c s
theorem l23_i {α:Type} {l:List α} {k : α→α→Bool} {m : α→α→α→List α→Bool} (h:l23 l k m=true):(∃ a b,l=[a,b]∧k a b=true)∨∃ a b c s,l=a :: b :: c :: s∧m a b c s=true:=by
 obtain ⟨a,r,e,h2⟩:=lc_i h
 obtain ⟨b,q,e2,h3⟩:=lc_i h2
 rw [e2] at e
 cases q with
 | nil=>exact .inl ⟨a,b,e,h3⟩
 | cons c s=>exact .inr ⟨a,b,c,s,e,h3⟩
noncomputable def oN {α:Type} (o:Option α):Bool:=match o with
 | none=>true
 | some _=>false
theorem oN_i {α:Type} {o:Option α} (h:oN o=true):o=none:=by
 cases o with
 | none=>rfl
 | some=>exact Bool.noConfusion h
noncomputable def oE {α:Type} (o:Option α) (b:Bool) (k : α→Bool):Bool:=match o with
 | none=>b
 | some a=>k a
theorem oE_i {α:Type} {o:Option α} {b:Bool} {k : α→Bool} (h:oE o b k=true):(o=none∧b=true)∨∃ a,o=some a∧k a=true:=by
 cases o with
 | none=>exact .inl ⟨rfl,h⟩
 | some a=>exact .inr ⟨a,rfl,h⟩
theorem oS_i {α:Type} {o:Option α} {k : α→Bool} (h:oE o false k=true):∃ a,o=some a∧k a=true:=by
 cases o with
 | none=>exact Bool.noConfusion h
 | some a=>exact ⟨a,rfl,h⟩
noncomputable def xN (x:X):Bool:=match x with
 | .c t=>(match t with
  | .none=>true
  | _=>false)
 | _=>false
theorem xN_i {x:X} (h:xN x=true):x = .c .none:=by
 cases x with
 | c t=>cases t<;>first | rfl | exact Bool.noConfusion h
 | _=>exact Bool.noConfusion h
end Mine.Internal
namespace Mine.Internal
open PySem PySem.W PySem.Calls PyProof.Rows PySem.SeqAt PySem.StrLaws
variable [PH]
noncomputable def bname:List (Str×Nat):=[(Str.ofString "len",0),(Str.ofString "ord",1),(Str.ofString "int",2),(Str.ofString "str",3),(Str.ofString "abs",4),(Str.ofString "tuple",5)]
noncomputable def isiName:Str:=Str.ofString "isinstance"
noncomputable def rngName:Str:=Str.ofString "range"
noncomputable def pfName:Str:=Str.ofString "PathFault"
noncomputable def dbgName:Str:=Str.ofString "__debug__"
set_option genInjectivity false in
structure Tbl where
 fn:List (Str×Nat)
 cls:List (Str×Nat)
 meth:List (Str×Nat)
noncomputable def kindOf' (l:List (Str×NameKind)) (x:Str) (k:NameKind):Bool:=oE (sLook l x) false fun k'=>decide (k'=k)
theorem kindOf'_iff {l:List (Str×NameKind)} {x:Str} {k:NameKind}:kindOf' l x k=true↔l.lookup x=some k:=by
 rw [← z6p]
 refine ⟨fun h=>?_,fun h=>?_⟩
 ·obtain ⟨k',e,h⟩:=oS_i h
  rw [e,of_decide_eq_true h]
 ·show oE (sLook l x) false _=true
  rw [h];exact decide_eq_true rfl
noncomputable def kIs (C:Cx) (x:Str) (k:NameKind):Bool:=kindOf' C.scope.names x k
theorem z0m {C:Cx} {x:Str} {k:NameKind} (h:kIs C x k=true):C.scope.names.lookup x=some k:=kindOf'_iff.mp h
noncomputable def okName (x:Str):Bool:=!PySem.W.Fast.sEq x dbgName
theorem z1b {x:Str} (h:okName x=true):(x == ("__debug__" : Str))=false:=by
 unfold okName at h
 refine beq_eq_false_iff_ne.mpr fun e=>?_
 have:PySem.W.Fast.sEq x dbgName=true:=PySem.W.Fast.sEq_iff.mpr e
 rw [this] at h;cases h
noncomputable def sIs (o:Option Nat) (n:Nat):Bool:=oE o false fun k=>decide (k=n)
theorem z3n {o:Option Nat} {n:Nat} (h:sIs o n=true):o=some n:=by
 obtain ⟨k,rfl,h⟩:=oS_i h
 rw [of_decide_eq_true h]
noncomputable def cStr (c:Const) (s:Str):Bool:=match c with
 | .str x=>PySem.W.Fast.sEq x s
 | _=>false
theorem zds {c:Const} {s:Str} (h:cStr c s=true):c = .str s:=by
 cases c<;>first | exact congrArg _ (PySem.W.Fast.sEq_iff.mp h) | exact Bool.noConfusion h
noncomputable def cInt (c:Const) (i:Int):Bool:=match c with
 | .int x=>decide (x=i)
 | _=>false
theorem zdt {c:Const} {i:Int} (h:cInt c i=true):c = .int i:=by
 cases c<;>first | exact congrArg _ (of_decide_eq_true h) | exact Bool.noConfusion h
noncomputable def cBl (c:Const) (b:Bool):Bool:=match c with
 | .bool x=>decide (x=b)
 | _=>false
theorem cBl_i {c:Const} {b:Bool} (h:cBl c b=true):c = .bool b:=by
 cases c<;>first | exact congrArg _ (of_decide_eq_true h) | exact Bool.noConfusion h
noncomputable def cNo (c:Const):Bool:=match c with
 | .none=>true
 | _=>false
theorem cNo_i {c:Const} (h:cNo c=true):c = .none:=by
 cases c<;>first | rfl | exact Bool.noConfusion h
noncomputable def cOk (c:Const) (t:T):Bool:=match t with
 | .none=>cNo c
 | .bool b=>cBl c b
 | .int i=>cInt c i
 | .str b=>cStr c (mkS b) && decide (b.length ≤ 1000)
 | _=>false
noncomputable def cmpNoSet:CmpOp→Expr→Bool:=fun o r=>!behindInMarks o r
noncomputable def hasAt (C:Cx) (x:Str) (i:Nat):Bool:=oE C.names[i]? false fun y=>PySem.W.Fast.sEq y x
theorem z1u {C:Cx} {x:Str} {i:Nat} (h:hasAt C x i=true):C.names[i]? = some x:=by
 obtain ⟨y,e,h⟩:=oS_i h
 rw [e,PySem.W.Fast.sEq_iff.mp h]
noncomputable def compB (C:Cx) (scope:Scope) (x:Str) (i:Nat):Bool :=
 decide (scope.kind = .function) && scope.names.all (fun y=>decide (y.2 ≠ .cell)) && kindOf' scope.names x .local && scope.names.all (fun y=>decide (y.2 ≠ .local) || kindOf' scope.names y.1 .local) && hasAt C x i &&
 C.names.all (fun y=>!kindOf' (relS scope C.scope).names y .local || PySem.W.Fast.sEq y x) &&
 (relS scope C.scope).names.all (fun p=>decide (p.2 ≠ .cell) || (kindOf' C.scope.names p.1 .cell && scope.names.any fun q=>PySem.W.Fast.sEq q.1 p.1 && decide (q.2 = .free))) &&
 scope.names.all (fun p=>decide (p.2 ≠ .free) || kindOf' C.scope.names p.1 .cell)
theorem za5 {l:List Str} (nd:l.Nodup) {x:Str} {i j:Nat} (hi:l[i]? = some x) (hj:l[j]? = some x):j=i:=by
 have hl:=(List.getElem?_eq_some_iff.mp hj).1
 exact (List.getElem?_inj hl nd).mp (hj.trans hi.symm)
theorem z6y {C:Cx} {scope:Scope} {x:Str} {i:Nat} (nd:C.names.Nodup) (h:compB C scope x i=true):CompOk C scope x i:=by
 unfold compB at h
 simp only [Bool.and_eq_true,decide_eq_true_eq,List.all_eq_true,Bool.or_eq_true,Bool.not_eq_true',List.any_eq_true] at h
 obtain ⟨⟨⟨⟨⟨⟨⟨h1,h2⟩,h3⟩,h4⟩,h5⟩,h6⟩,h7⟩,h8⟩:=h
 refine ⟨h1,h2,kindOf'_iff.mp h3,fun y hy e=>?_,z1u h5,fun j hj=>za5 nd (z1u h5) hj,fun j y hj e=>?_,fun y e=>?_,fun y hy e=>?_⟩
 ·rcases h4 y hy with q | q
  ·exact absurd e q
  ·exact kindOf'_iff.mp q
 ·rcases h6 y (List.mem_of_getElem? hj) with q | q
  ·rw [kindOf'_iff.mpr e] at q;cases q
  ·exact PySem.W.Fast.sEq_iff.mp q
 ·rcases h7 _ (mem_of_lookup e) with q | ⟨q1,⟨r,hr,q2,q3⟩⟩
  ·exact absurd rfl q
  ·refine ⟨kindOf'_iff.mp q1,?_⟩
   have:r=(y,NameKind.free):=Prod.ext (PySem.W.Fast.sEq_iff.mp q2) q3
   rw [← this];exact hr
 ·rcases h8 y hy with q | q
  ·exact absurd e q
  ·exact kindOf'_iff.mp q
noncomputable def noSet:Expr→Bool
 | .Set _ _ _=>false
 | _=>true
theorem z6z {e:Expr} (h:noSet e=true) (env:Env) (v:Value):foldedSetIterable e env v=pure v:=by
 cases e<;>first | rfl | exact (Bool.false_ne_true h).elim
noncomputable def tInt (t:T) (i:Int):Bool:=match t with
 | .int x=>decide (x=i)
 | _=>false
theorem zj2 {t:T} {i:Int} (h:tInt t i=true):t = .int i:=by
 cases t<;>first | exact congrArg _ (of_decide_eq_true h) | exact Bool.noConfusion h
noncomputable def valB (tb:Tabs) (C:Cx) (i:Int) (e:Expr):Bool:=(Nat.beq (vw e).tag 1 && cInt (vw e).k i) || (Nat.beq (vw e).tag 2 && kIs C (vw e).s .globalImplicit && oE (sLook gname (vw e).s) false fun g=>oE (tb.glob g) false fun t=>tInt t i)
theorem zg9 {tb:Tabs} {C:Cx} {i:Int} {e:Expr} (h:valB tb C i e=true):ValIs tb C i e:=by
 rcases Bool.or_eq_true_iff.mp h with h | h
 ·have q:e = .Constant (vw e).k (vw e).n (vw e).p:=vw_t (a2 h).1
  rw [zdt (a2 h).2] at q
  exact .inl ⟨_,_,q⟩
 ·obtain ⟨h0,h1,h2⟩:=a3 h
  obtain ⟨g,eg,h2⟩:=oS_i h2
  obtain ⟨t,et,h2⟩:=oS_i h2
  exact .inr ⟨_,g,_,vw_t h0,eg,z0m h1,et.trans (congrArg _ (zj2 h2))⟩
noncomputable def dispB (tb:Tabs) (C:Cx) (ks:List (Option Expr)) (vs:List Expr) (l:List (List Nat×Int)):Bool:=match l with
 | []=>l0 ks && l0 vs
 | p :: l=>lc ks fun k ks=>lc vs fun v vs=>oE k false (fun e=>Nat.beq (vw e).tag 1 && cStr (vw e).k (mkS p.1)) && valB tb C p.2 v && dispB tb C ks vs l
theorem zc2 {tb:Tabs} {C:Cx} {l:List (List Nat×Int)}:∀ {ks:List (Option Expr)} {vs:List Expr},dispB tb C ks vs l=true→Disp tb C ks vs l:=by
 induction l with
 | nil=>
  intro ks vs h
  rw [l0_i (a2 h).1,l0_i (a2 h).2];exact .nil
 | cons p l ih=>
  intro ks vs h
  obtain ⟨k,ks,rfl,q⟩:=lc_i h
  obtain ⟨v,vs,rfl,q⟩:=lc_i q
  obtain ⟨h1,h2,h3⟩:=a3 q
  obtain ⟨e,rfl,h1⟩:=oS_i h1
  have q:e = .Constant (vw e).k (vw e).n (vw e).p:=vw_t (a2 h1).1
  rw [zds (a2 h1).2] at q
  rw [q]
  exact .cons rfl (zg9 h2) (ih h3)
noncomputable def callB (e:Expr) (k:Str→Bool):Bool:=Nat.beq (vw e).tag 14 && l0 (vw e).kw && Nat.beq (vw (vw e).a).tag 2 && k (vw (vw e).a).s
theorem z0f {e:Expr} {k:Str→Bool} (h:callB e k=true):e = .Call (.Name (vw (vw e).a).s (vw (vw e).a).p) (vw e).es [] (vw e).p∧k (vw (vw e).a).s=true:=by
 obtain ⟨h1,h2,h3,h4⟩:=a4 h
 have q:e = .Call (vw e).a (vw e).es (vw e).kw (vw e).p:=vw_t h1
 rw [l0_i h2] at q
 have q2:(vw e).a = .Name (vw (vw e).a).s (vw (vw e).a).p:=vw_t h3
 exact ⟨q.trans (congrArg (fun a=>Expr.Call a (vw e).es [] (vw e).p) q2),h4⟩
noncomputable def methB (e:Expr) (k:Str→Bool):Bool:=Nat.beq (vw e).tag 14 && l0 (vw e).kw && Nat.beq (vw (vw e).a).tag 5 && (plainBase (vw (vw e).a).a && ((vw (vw e).a).p.endLine == (vw e).p.line) && noStar (vw e).es && decide ((vw e).es.length < 30)) && k (vw (vw e).a).s
theorem z0k {e:Expr} {k:Str→Bool} (h:methB e k=true):e = .Call (.Attribute (vw (vw e).a).a (vw (vw e).a).s (vw (vw e).a).p) (vw e).es [] (vw e).p∧plainBase (vw (vw e).a).a=true∧((vw (vw e).a).p.endLine == (vw e).p.line)=true∧noStar (vw e).es=true∧(vw e).es.length < 30∧k (vw (vw e).a).s=true:=by
 obtain ⟨h1,h2,h3,h4,h5⟩:=a5 h
 have q:e = .Call (vw e).a (vw e).es (vw e).kw (vw e).p:=vw_t h1
 rw [l0_i h2] at q
 have q2:(vw e).a = .Attribute (vw (vw e).a).a (vw (vw e).a).s (vw (vw e).a).p:=vw_t h3
 obtain ⟨r1,r2,r3,r4⟩:=a4 h4
 exact ⟨q.trans (congrArg (fun a=>Expr.Call a (vw e).es [] (vw e).p) q2),r1,r2,r3,of_decide_eq_true r4,h5⟩
noncomputable def genB (g:Comprehension):Bool:=Nat.beq (vw g.target).tag 2 && l0 g.ifs && decide (g.is_async = 0)
theorem zdu {g:Comprehension} (h:genB g=true):g = ⟨.Name (vw g.target).s (vw g.target).p,g.iter,[],0⟩:=by
 obtain ⟨h1,h2,h3⟩:=a3 h
 have q:g.target = .Name (vw g.target).s (vw g.target).p:=vw_t h1
 have e:g = ⟨g.target,g.iter,g.ifs,g.is_async⟩:=by cases g;rfl
 rw [l0_i h2,of_decide_eq_true h3] at e
 exact e.trans (congrArg (fun a=>Comprehension.mk a g.iter [] 0) q)
section
variable (tb:Tabs) (tl:Tbl)
noncomputable def ops2:List CmpOp→Bool
 | [.LtE,.LtE]=>true
 | _=>false
mutual
noncomputable def chkE:X→Cx→Expr→Bool
 | .c t,_,e=>Nat.beq (vw e).tag 1 && cOk (vw e).k t
 | .var i,C,e=>Nat.beq (vw e).tag 2 && hasAt C (vw e).s i && (kIs C (vw e).s .local || kIs C (vw e).s .cell) && okName (vw e).s
 | .glob g,C,e=>Nat.beq (vw e).tag 2 && sIs (sLook gname (vw e).s) g && kIs C (vw e).s .globalImplicit
 | .tup l,C,e=>Nat.beq (vw e).tag 3 && chkL l C (vw e).es
 | .lst l,C,e=>Nat.beq (vw e).tag 4 && chkL l C (vw e).es
 | .dict l,C,e=>Nat.beq (vw e).tag 6 && dispB tb C (vw e).ks (vw e).es l && decide (l≠[]) && decide (l.length ≤ 15) && decide ((l.map (·.1)).Nodup)
 | .bin op a b,C,e=>Nat.beq (vw e).tag 7 && decide (opOf op=some (vw e).o) && chkE a C (vw e).a && chkE b C (vw e).b
 | .neg a,C,e=>Nat.beq (vw e).tag 8 && decide ((vw e).u = .USub) && chkE a C (vw e).a
 | .not a,C,e=>Nat.beq (vw e).tag 8 && decide ((vw e).u = .Not) && chkE a C (vw e).a
 | .and a b,C,e=>Nat.beq (vw e).tag 9 && decide ((vw e).bo = .And) && l23 (vw e).es (fun x y=>chkE a C x && chkE b C y) (fun x y z r=>chkE a C x && chkE b C (.BoolOp .And (y :: z :: r) (vw e).p))
 | .or a b,C,e=>Nat.beq (vw e).tag 9 && decide ((vw e).bo = .Or) && l23 (vw e).es (fun x y=>chkE a C x && chkE b C y) (fun x y z r=>chkE a C x && chkE b C (.BoolOp .Or (y :: z :: r) (vw e).p))
 | .cmp op a b,C,e=>Nat.beq (vw e).tag 10 && l1 (vw e).os (fun o=>l1 (vw e).es fun r=>decide (cmpOf op=some o) && cmpNoSet o r && chkE a C (vw e).a && chkE b C r)
 | .cmp2 a b c,C,e=>Nat.beq (vw e).tag 10 && decide ((vw e).os=[.LtE,.LtE]) && l2v (vw e).es (fun r r'=>!lastMarks [.LtE,.LtE] [r,r'] && chkE a C (vw e).a && chkE b C r && chkE c C r')
 | .ite c a b,C,e=>Nat.beq (vw e).tag 11 && chkE c C (vw e).a && chkE a C (vw e).b && chkE b C (vw e).c
 | .attr a f,C,e=>Nat.beq (vw e).tag 5 && PySem.W.Fast.sEq (vw e).s (aname f) && plainBase (vw e).a && chkE a C (vw e).a
 | .idx a b,C,e=>Nat.beq (vw e).tag 12 && notSlice (vw e).b && chkE a C (vw e).a && chkE b C (vw e).b
 | .slice a lo hi,C,e=>Nat.beq (vw e).tag 12 && Nat.beq (vw (vw e).b).tag 13 && oN (vw (vw e).b).oc && chkE a C (vw e).a && oE (vw (vw e).b).oa (xN lo) (fun l=>chkE lo C l) && oE (vw (vw e).b).ob (xN hi) (fun h=>chkE hi C h)
 | .callF f l,C,e=>callB e (fun x=>sIs (sLook tl.fn x) f && kIs C x .globalImplicit) && noStar (vw e).es && chkL l C (vw e).es
 | .callM o m l,C,e=>methB e (fun n=>sIs (sLook tl.meth n) m) && chkE o C (vw (vw e).a).a && chkL l C (vw e).es
 | .new k l,C,e=>callB e (fun x=>sIs (sLook tl.cls x) k && kIs C x .globalImplicit) && noStar (vw e).es && chkL l C (vw e).es
 | .blt b l,C,e=>callB e (fun x=>sIs (sLook bname x) b && kIs C x .globalImplicit) && noStar (vw e).es && chkL l C (vw e).es
 | .smeth o m l,C,e=>methB e (fun n=>PySem.W.Fast.sEq n (sname m)) && chkE o C (vw (vw e).a).a && chkL l C (vw e).es
 | .isinst a k,C,e=>callB e (fun x=>PySem.W.Fast.sEq x isiName && kIs C x .globalImplicit) && l2v (vw e).es (fun a' y=>Nat.beq (vw y).tag 2 && sIs (sLook tl.cls (vw y).s) k && kIs C (vw y).s .globalImplicit && noStar [a'] && chkE a C a')
 | .comp b i it,C,e=>Nat.beq (vw e).tag 15 && l1 (vw e).gs (fun g=>genB g && compB C (vw e).sc (vw g.target).s i && noSet g.iter && chkE it C g.iter && chkE b (CompOk.cx C (vw e).sc) (vw e).a)
 | .compR b i n,C,e=>Nat.beq (vw e).tag 15 && l1 (vw e).gs (fun g=>genB g && compB C (vw e).sc (vw g.target).s i && callB g.iter (fun x=>PySem.W.Fast.sEq x rngName && kIs C x .globalImplicit) && l1 (vw g.iter).es (fun ie=>noStar [ie] && chkE n C ie) && chkE b (CompOk.cx C (vw e).sc) (vw e).a)
 | .bad,_,e=>!Nat.beq (vw e).tag 9
 | .nil,_,_=>false
 | .cons _ _,_,_=>false
noncomputable def chkL:X→Cx→List Expr→Bool
 | .nil,_,es=>l0 es
 | .cons a b,C,es=>lc es fun e es=>chkE a C e && chkL b C es && noStar [e]
 | _,_,_=>false
end
end
structure TblOk (K:Frag) (mg mb:Str→Option Value) (fa:Nat→Addr) (tb:Tabs) (tl:Tbl):Prop where
 call:∀ x f,sLook tl.fn x=some f→mg x=some (.ref (fa f))∧keepIn K (.ref (fa f))=true∧(x == ("__debug__" : Str))=false
 new:∀ x k,sLook tl.cls x=some k→k < 12∧mg x=some (.ref (caddr k))∧keepIn K (.ref (caddr k))=true∧(x == ("__debug__" : Str))=false∧∀ f,tb.init k=some f→MakeIs K fa k f
 blt:∀ x b,sLook bname x=some b→mg x=none∧mb x=some (bval b)∧(x == ("__debug__" : Str))=false
 meth:∀ x m,sLook tl.meth x=some m→∀ c f,tb.meth c m=some f→MethIs K fa x c f
 isi:mg isiName=none∧mb isiName=some (.builtin "isinstance")
 rng:mg rngName=none∧mb rngName=some (.type "range")
 pf:mg pfName=some (.ref 44)
section
variable {prog:Program} {w:World} {HB:Heap} {K:Frag} {mg mb:Str→Option Value} {tb:Tabs} {tl:Tbl} {Φ:Nat→List V→St→R V} {n:Nat} {fa:Nat→Addr}
structure Good1 (prog:Program) (w:World) (HB:Heap) (tb:Tabs) (Φ:Nat→List V→St→R V) (n:Nat) (C:Cx) (e:Expr) (x:X):Prop where
 ge:SndE prog w HB tb Φ n C e x
 gb:SndB prog w HB tb Φ n C e x
 bs:∀ op es pos,e = .BoolOp op es pos→Bools prog w HB tb Φ n C op es x
theorem zc3 (b:Nat) (a:Addr):bval b ≠ .ref a:=by
 rcases b with _ | _ | _ | _ | _ | _ | b<;>exact fun q=>Value.noConfusion q
theorem z05 {C:Cx} {e:Expr} {x:X} (h:SndE prog w HB tb Φ n C e x) (hp:match e with | .UnaryOp .Not _ _ | .BoolOp _ _ _ | .IfExp _ _ _ _ | .Compare _ _ _ _=>False | _=>True):Good1 prog w HB tb Φ n C e x:=by
 refine ⟨h,SndB.of_value h fun env whole=>?_,fun op es pos q=>?_⟩
 ·cases e<;>first | rfl | exact hp.elim | (rename_i op _ _;cases op<;>first | rfl | exact hp.elim)
 ·subst q;exact hp.elim
end
end Mine.Internal
namespace Mine.Internal
open PySem PySem.W PySem.Calls PyProof.Rows PySem.SeqAt PySem.StrLaws
variable [PH]
theorem zj3 {c:Const} {t:T} (h:cOk c t=true):COk c t:=by
 cases t with
 | none=>rw [cNo_i h];exact .none
 | bool=>rw [cBl_i h];exact .bool
 | int=>rw [zdt h];exact .int
 | str=>rw [zds (a2 h).1];exact .str (Nat.le_trans (of_decide_eq_true (a2 h).2) (by decide))
 | _=>exact Bool.noConfusion h
section
variable {prog:Program} {w:World} {HB:Heap} {K:Frag} {mg mb:Str→Option Value} {tb:Tabs} {tl:Tbl} {Φ:Nat→List V→St→R V} {n:Nat} {fa:Nat→Addr}
structure Chk (prog:Program) (w:World) (HB:Heap) (tb:Tabs) (tl:Tbl) (Φ:Nat→List V→St→R V) (n:Nat) (x:X):Prop where
 e:∀ (C:Cx) (e:Expr),C.names.Nodup→chkE tb tl x C e=true→Good1 prog w HB tb Φ n C e x
 l:∀ (C:Cx) (es:List Expr),C.names.Nodup→chkL tb tl x C es=true→SndL prog w HB tb Φ n C es x
theorem Chk.of {x:X} (h:∀ (C:Cx) (e:Expr),C.names.Nodup→chkE tb tl x C e=true→Good1 prog w HB tb Φ n C e x) (g:∀ (C:Cx) (es:List Expr),chkL tb tl x C es=false):Chk prog w HB tb tl Φ n x :=
 ⟨h,fun C es _ q=>Bool.noConfusion ((g C es).symm.trans q)⟩
theorem Chk.ofL {x:X} (h:∀ (C:Cx) (es:List Expr),C.names.Nodup→chkL tb tl x C es=true→SndL prog w HB tb Φ n C es x) (g:∀ (C:Cx) (e:Expr),chkE tb tl x C e=false):Chk prog w HB tb tl Φ n x :=
 ⟨fun C e _ q=>Bool.noConfusion ((g C e).symm.trans q),h⟩
theorem Good1.eq {C:Cx} {e e':Expr} {x:X} (q:e=e') (g:Good1 prog w HB tb Φ n C e' x):Good1 prog w HB tb Φ n C e x:=by subst q;exact g
theorem Good1.vw {C:Cx} {e:Expr} {x:X} {t:Nat} (h:Nat.beq (vw e).tag (t + 1)=true) (g:Good1 prog w HB tb Φ n C (rbT (t + 1) (vw e)) x):Good1 prog w HB tb Φ n C e x:= .eq (vw_t h) g
theorem z55 (G:Ground prog HB K mg mb tb) (cl:∀ c,c < 12→ClsOk K c) (I:IsiOk K) (P:PhiOK prog w HB fa n Φ) (HT:∀ Z a kvs,PH.tab Z a kvs↔Z.DictOf (PySem.strKind prog w) a kvs) (TO:TblOk K mg mb fa tb tl) :
  ∀ x:X,Chk prog w HB tb tl Φ n x:=by
 intro x
 induction x with
 | bad=>
  refine .of (fun C e nd h=>⟨?_,?_,fun op es pos q=>?_⟩) fun _ _=>rfl
  ·intro A s Z μ rest σ env L m ρ g z eo ws lc hb
   exact (hb rfl).elim
  ·intro A s Z μ rest σ env L m ρ g z eo ws lc hb
   exact (hb rfl).elim
  ·subst q
   exact Bool.noConfusion h
 | c t=>
  refine .of (fun C e nd h=>?_) fun _ _=>rfl
  haveI h0:=(a2 h).1
  haveI h1:=(a2 h).2
  refine .vw h0 ?_
  exact z05 (z91 (zj3 h1)) trivial
 | var i=>
  refine .of (fun C e nd h=>?_) fun _ _=>rfl
  haveI h0:=(a4 h).1
  haveI h1:=(a4 h).2.1
  haveI h2:=(a4 h).2.2.1
  haveI h3:=(a4 h).2.2.2
  refine .vw h0 ?_
  exact z05 (zfh (z1u h1) ((Bool.or_eq_true_iff.mp h2).imp z0m z0m) (z1b h3)) trivial
 | glob g=>
  refine .of (fun C e nd h=>?_) fun _ _=>rfl
  haveI h0:=(a3 h).1
  haveI h1:=(a3 h).2.1
  haveI h2:=(a3 h).2.2
  refine .vw h0 ?_
  exact z05 (zb6 G (z3n h1) (z0m h2)) trivial
 | nil=>
  refine .ofL (fun C es nd h=>?_) fun _ _=>rfl
  rw [l0_i h]
  exact zfi
 | cons a b iha ihb=>
  refine .ofL (fun C es nd h=>?_) fun _ _=>rfl
  obtain ⟨e,r,q,h⟩:=lc_i h
  haveI h1:=(a3 h).1
  haveI h2:=(a3 h).2.1
  haveI h3:=(a3 h).2.2
  rw [q]
  exact zb7 (iha.1 _ _ nd h1).ge (ihb.2 _ _ nd h2) fun env=>z27 h3 _ env
 | tup l ih=>
  refine .of (fun C e nd h=>?_) fun _ _=>rfl
  haveI h0:=(a2 h).1
  haveI h1:=(a2 h).2
  refine .vw h0 ?_
  exact z05 (z93 (ih.2 _ _ nd h1)) trivial
 | lst l ih=>
  refine .of (fun C e nd h=>?_) fun _ _=>rfl
  haveI h0:=(a2 h).1
  haveI h1:=(a2 h).2
  refine .vw h0 ?_
  exact z05 (zba (ih.2 _ _ nd h1)) trivial
 | dict l=>
  refine .of (fun C e nd h=>?_) fun _ _=>rfl
  haveI h0:=(a5 h).1
  haveI h1:=(a5 h).2.1
  haveI h2:=(a5 h).2.2.1
  haveI h3:=(a5 h).2.2.2.1
  haveI h4:=(a5 h).2.2.2.2
  refine .vw h0 ?_
  exact z05 (zc1 G HT (zc2 h1) (of_decide_eq_true h2) (of_decide_eq_true h3) (of_decide_eq_true h4)) trivial
 | bin op a b iha ihb=>
  refine .of (fun C e nd h=>?_) fun _ _=>rfl
  haveI h0:=(a4 h).1
  haveI h1:=(a4 h).2.1
  haveI h2:=(a4 h).2.2.1
  haveI h3:=(a4 h).2.2.2
  refine .vw h0 ?_
  exact z05 (zfj G (of_decide_eq_true h1) (iha.1 _ _ nd h2).ge (ihb.1 _ _ nd h3).ge) trivial
 | neg a ih=>
  refine .of (fun C e nd h=>?_) fun _ _=>rfl
  haveI h0:=(a3 h).1
  haveI h1:=(a3 h).2.1
  haveI h2:=(a3 h).2.2
  have q:e = .UnaryOp (vw e).u (vw e).a (vw e).p:=vw_t h0
  rw [of_decide_eq_true h1] at q
  refine .eq q ?_
  exact z05 (zfk (ih.1 _ _ nd h2).ge) trivial
 | not a ih=>
  refine .of (fun C e nd h=>?_) fun _ _=>rfl
  haveI h0:=(a3 h).1
  haveI h1:=(a3 h).2.1
  haveI h2:=(a3 h).2.2
  have q:e = .UnaryOp (vw e).u (vw e).a (vw e).p:=vw_t h0
  rw [of_decide_eq_true h1] at q
  refine .eq q ?_
  have g:=ih.1 _ _ nd h2
  exact ⟨zfl g.ge,zb8 g.gb,fun op es pos q=>Expr.noConfusion q⟩
 | and a b iha ihb=>
  refine .of (fun C e nd h=>?_) fun _ _=>rfl
  haveI h0:=(a3 h).1
  haveI h1:=(a3 h).2.1
  haveI h2:=(a3 h).2.2
  have q:e = .BoolOp (vw e).bo (vw e).es (vw e).p:=vw_t h0
  rw [of_decide_eq_true h1] at q
  obtain ⟨x,y,e1,h3⟩ | ⟨x,y,z,r,e1,h3⟩:=l23_i h2
  ·rw [e1] at q
   refine .eq q ?_
   haveI h4:=(a2 h3).1
   haveI h5:=(a2 h3).2
   haveI g1:=iha.1 _ _ nd h4
   haveI g2:=ihb.1 _ _ nd h5
   haveI B:=Bools.and g1.ge g1.gb (.one g2.ge g2.gb) (by simp)
   exact ⟨z1q B,z1f B,fun op es pos q=>by cases q;exact B⟩
  ·rw [e1] at q
   refine .eq q ?_
   haveI h4:=(a2 h3).1
   haveI h5:=(a2 h3).2
   haveI g1:=iha.1 _ _ nd h4
   haveI g2:=ihb.1 _ _ nd h5
   haveI B:=Bools.and g1.ge g1.gb (g2.bs _ _ _ rfl) (by simp)
   exact ⟨z1q B,z1f B,fun op es pos q=>by cases q;exact B⟩
 | or a b iha ihb=>
  refine .of (fun C e nd h=>?_) fun _ _=>rfl
  haveI h0:=(a3 h).1
  haveI h1:=(a3 h).2.1
  haveI h2:=(a3 h).2.2
  have q:e = .BoolOp (vw e).bo (vw e).es (vw e).p:=vw_t h0
  rw [of_decide_eq_true h1] at q
  obtain ⟨x,y,e1,h3⟩ | ⟨x,y,z,r,e1,h3⟩:=l23_i h2
  ·rw [e1] at q
   refine .eq q ?_
   haveI h4:=(a2 h3).1
   haveI h5:=(a2 h3).2
   haveI g1:=iha.1 _ _ nd h4
   haveI g2:=ihb.1 _ _ nd h5
   haveI B:=Bools.or g1.ge g1.gb (.one g2.ge g2.gb) (by simp)
   exact ⟨z1q B,z1f B,fun op es pos q=>by cases q;exact B⟩
  ·rw [e1] at q
   refine .eq q ?_
   haveI h4:=(a2 h3).1
   haveI h5:=(a2 h3).2
   haveI g1:=iha.1 _ _ nd h4
   haveI g2:=ihb.1 _ _ nd h5
   haveI B:=Bools.or g1.ge g1.gb (g2.bs _ _ _ rfl) (by simp)
   exact ⟨z1q B,z1f B,fun op es pos q=>by cases q;exact B⟩
 | cmp op a b iha ihb=>
  refine .of (fun C e nd h=>?_) fun _ _=>rfl
  haveI h0:=(a2 h).1
  haveI h1:=(a2 h).2
  have q:e = .Compare (vw e).a (vw e).os (vw e).es (vw e).p:=vw_t h0
  obtain ⟨o,e1,h2⟩:=l1_i h1
  obtain ⟨r,e2,h3⟩:=l1_i h2
  rw [e1,e2] at q
  refine .eq q ?_
  haveI h4:=(a4 h3).1
  haveI h5:=(a4 h3).2.1
  haveI h6:=(a4 h3).2.2.1
  haveI h7:=(a4 h3).2.2.2
  haveI g1:=iha.1 _ _ nd h6
  haveI g2:=ihb.1 _ _ nd h7
  haveI h5:=nb h5
  exact ⟨zfo G (of_decide_eq_true h4) h5 g1.ge g2.ge,zbb G (of_decide_eq_true h4) h5 g1.ge g2.ge,fun op es pos q=>Expr.noConfusion q⟩
 | cmp2 a b c iha ihb ihc=>
  refine .of (fun C e nd h=>?_) fun _ _=>rfl
  haveI h0:=(a3 h).1
  haveI h1:=(a3 h).2.1
  haveI h2:=(a3 h).2.2
  have q:e = .Compare (vw e).a (vw e).os (vw e).es (vw e).p:=vw_t h0
  obtain ⟨r,r',e2,h3⟩:=l2v_i h2
  rw [of_decide_eq_true h1,e2] at q
  refine .eq q ?_
  haveI h4:=(a4 h3).1
  haveI h5:=(a4 h3).2.1
  haveI h6:=(a4 h3).2.2.1
  haveI h7:=(a4 h3).2.2.2
  haveI g1:=iha.1 _ _ nd h5
  haveI g2:=ihb.1 _ _ nd h6
  haveI g3:=ihc.1 _ _ nd h7
  haveI h4:=nb h4
  exact ⟨zbc G h4 g1.ge g2.ge g3.ge,za4 G h4 g1.ge g2.ge g3.ge,fun op es pos q=>Expr.noConfusion q⟩
 | ite c a b ihc iha ihb=>
  refine .of (fun C e nd h=>?_) fun _ _=>rfl
  haveI h0:=(a4 h).1
  haveI h1:=(a4 h).2.1
  haveI h2:=(a4 h).2.2.1
  haveI h3:=(a4 h).2.2.2
  refine .vw h0 ?_
  haveI g1:=ihc.1 _ _ nd h1
  haveI g2:=iha.1 _ _ nd h2
  haveI g3:=ihb.1 _ _ nd h3
  exact ⟨zfn g1.gb g2.ge g3.ge,zb9 g1.gb g2.gb g3.gb,fun op es pos q=>Expr.noConfusion q⟩
 | attr a f ih=>
  refine .of (fun C e nd h=>?_) fun _ _=>rfl
  haveI h0:=(a4 h).1
  haveI h1:=(a4 h).2.1
  haveI h2:=(a4 h).2.2.1
  haveI h3:=(a4 h).2.2.2
  refine .vw h0 ?_
  exact z05 (zbd G cl (PySem.W.Fast.sEq_iff.mp h1) h2 (ih.1 _ _ nd h3).ge) trivial
 | idx a b iha ihb=>
  refine .of (fun C e nd h=>?_) fun _ _=>rfl
  haveI h0:=(a4 h).1
  haveI h1:=(a4 h).2.1
  haveI h2:=(a4 h).2.2.1
  haveI h3:=(a4 h).2.2.2
  refine .vw h0 ?_
  exact z05 (zfr h1 (iha.1 _ _ nd h2).ge (ihb.1 _ _ nd h3).ge) trivial
 | slice a lo hi iha ihl ihh=>
  refine .of (fun C e nd h=>?_) fun _ _=>rfl
  haveI h0:=(a6 h).1
  haveI h1:=(a6 h).2.1
  haveI h2:=(a6 h).2.2.1
  haveI h3:=(a6 h).2.2.2.1
  haveI h4:=(a6 h).2.2.2.2.1
  haveI h5:=(a6 h).2.2.2.2.2
  have q:e = .Subscript (vw e).a (vw e).b (vw e).p:=vw_t h0
  have q2:(vw e).b = .Slice (vw (vw e).b).oa (vw (vw e).b).ob (vw (vw e).b).oc (vw (vw e).b).p:=vw_t h1
  rw [oN_i h2] at q2
  rw [q.trans (congrArg (fun x=>Expr.Subscript (vw e).a x (vw e).p) q2)]
  refine z05 (z95 (iha.1 _ _ nd h3).ge ?_ ?_) trivial
  ·exact (oE_i h4).elim (fun x=> .inl ⟨x.1,xN_i x.2⟩) fun ⟨l,x,y⟩=> .inr ⟨l,x,(ihl.1 _ _ nd y).ge⟩
  ·exact (oE_i h5).elim (fun x=> .inl ⟨x.1,xN_i x.2⟩) fun ⟨l,x,y⟩=> .inr ⟨l,x,(ihh.1 _ _ nd y).ge⟩
 | callF f l ih=>
  refine .of (fun C e nd h=>?_) fun _ _=>rfl
  haveI h0:=(a3 h).1
  haveI h1:=(a3 h).2.1
  haveI h2:=(a3 h).2.2
  haveI q:=(z0f h0).1
  haveI h3:=(z0f h0).2
  haveI h4:=(a2 h3).1
  haveI h5:=(a2 h3).2
  refine .eq q ?_
  obtain ⟨t1,t2,t3⟩:=TO.call _ _ (z3n h4)
  exact z05 (z96 (Φ:=Φ) G P t1 t2 (z0m h5) t3 h1 (ih.2 _ _ nd h2)) trivial
 | callM o m l iho ihl=>
  refine .of (fun C e nd h=>?_) fun _ _=>rfl
  haveI h0:=(a3 h).1
  haveI h1:=(a3 h).2.1
  haveI h2:=(a3 h).2.2
  haveI q:=(z0k h0).1
  haveI r1:=(z0k h0).2.1
  haveI r2:=(z0k h0).2.2.1
  haveI r3:=(z0k h0).2.2.2.1
  haveI r4:=(z0k h0).2.2.2.2.1
  haveI r5:=(z0k h0).2.2.2.2.2
  refine .eq q ?_
  exact z05 (z97 (Φ:=Φ) G cl P r1 r2 r3 r4 (TO.meth _ _ (z3n r5)) (iho.1 _ _ nd h1).ge (ihl.2 _ _ nd h2)) trivial
 | new k l ih=>
  refine .of (fun C e nd h=>?_) fun _ _=>rfl
  haveI h0:=(a3 h).1
  haveI h1:=(a3 h).2.1
  haveI h2:=(a3 h).2.2
  haveI q:=(z0f h0).1
  haveI h3:=(z0f h0).2
  haveI h4:=(a2 h3).1
  haveI h5:=(a2 h3).2
  refine .eq q ?_
  obtain ⟨t0,t1,t2,t3,t4⟩:=TO.new _ _ (z3n h4)
  exact z05 (zfu (Φ:=Φ) G P t1 t2 t4 (z0m h5) t3 h1 (ih.2 _ _ nd h2)) trivial
 | blt b l ih=>
  refine .of (fun C e nd h=>?_) fun _ _=>rfl
  haveI h0:=(a3 h).1
  haveI h1:=(a3 h).2.1
  haveI h2:=(a3 h).2.2
  haveI q:=(z0f h0).1
  haveI h3:=(z0f h0).2
  haveI h4:=(a2 h3).1
  haveI h5:=(a2 h3).2
  refine .eq q ?_
  obtain ⟨t1,t2,t3⟩:=TO.blt _ _ (z3n h4)
  exact z05 (zfz G t1 t2 (zc3 b) (z0m h5) t3 h1 (ih.2 _ _ nd h2)) trivial
 | smeth o m l iho ihl=>
  refine .of (fun C e nd h=>?_) fun _ _=>rfl
  haveI h0:=(a3 h).1
  haveI h1:=(a3 h).2.1
  haveI h2:=(a3 h).2.2
  haveI q:=(z0k h0).1
  haveI r1:=(z0k h0).2.1
  haveI r2:=(z0k h0).2.2.1
  haveI r3:=(z0k h0).2.2.2.1
  haveI r4:=(z0k h0).2.2.2.2.1
  haveI r5:=(z0k h0).2.2.2.2.2
  refine .eq q ?_
  exact z05 (z9g HT r1 r2 r3 r4 (PySem.W.Fast.sEq_iff.mp r5) (iho.1 _ _ nd h1).ge (ihl.2 _ _ nd h2)) trivial
 | isinst a k ih=>
  refine .of (fun C e nd h=>?_) fun _ _=>rfl
  haveI h0:=(a2 h).1
  haveI h1:=(a2 h).2
  haveI q:=(z0f h0).1
  haveI h2:=(z0f h0).2
  haveI h3:=(a2 h2).1
  haveI h4:=(a2 h2).2
  obtain ⟨a',y,e2,h5⟩:=l2v_i h1
  haveI h6:=(a5 h5).1
  haveI h7:=(a5 h5).2.1
  haveI h8:=(a5 h5).2.2.1
  haveI h9:=(a5 h5).2.2.2.1
  haveI h10:=(a5 h5).2.2.2.2
  have ex:=PySem.W.Fast.sEq_iff.mp h3
  have ey:y = .Name (vw y).s (vw y).p:=vw_t h6
  rw [ey] at e2
  rw [ex,e2] at q
  refine .eq q ?_
  rw [ex] at h4
  obtain ⟨t0,t1,t2,t3,t4⟩:=TO.new _ _ (z3n h7)
  exact z05 (z7a G cl I TO.isi.1 TO.isi.2 t1 t0 (z0m h4) (z0m h8) (by decide) t3 h9 (ih.1 _ _ nd h10).ge) trivial
 | comp b i it ihb ihi=>
  refine .of (fun C e nd h=>?_) fun _ _=>rfl
  haveI h0:=(a2 h).1
  haveI h1:=(a2 h).2
  have q:e = .ListComp (vw e).a (vw e).gs (vw e).sc (vw e).p:=vw_t h0
  obtain ⟨g,e1,h2⟩:=l1_i h1
  haveI h3:=(a5 h2).1
  haveI h4:=(a5 h2).2.1
  haveI h5:=(a5 h2).2.2.1
  haveI h6:=(a5 h2).2.2.2.1
  haveI h7:=(a5 h2).2.2.2.2
  rw [e1,zdu h3] at q
  refine .eq q ?_
  exact z05 (zbj (z6y nd h4) (z6z h5) (ihi.1 _ _ nd h6).ge (ihb.1 (CompOk.cx _ _) _ nd h7).ge) trivial
 | compR b i m ihb ihi=>
  refine .of (fun C e nd h=>?_) fun _ _=>rfl
  haveI h0:=(a2 h).1
  haveI h1:=(a2 h).2
  have q:e = .ListComp (vw e).a (vw e).gs (vw e).sc (vw e).p:=vw_t h0
  obtain ⟨g,e1,h2⟩:=l1_i h1
  haveI h3:=(a5 h2).1
  haveI h4:=(a5 h2).2.1
  haveI h5:=(a5 h2).2.2.1
  haveI h6:=(a5 h2).2.2.2.1
  haveI h7:=(a5 h2).2.2.2.2
  haveI q2:=(z0f h5).1
  haveI h8:=(z0f h5).2
  haveI h9:=(a2 h8).1
  haveI h10:=(a2 h8).2
  obtain ⟨ie,e2,h11⟩:=l1_i h6
  haveI h12:=(a2 h11).1
  haveI h13:=(a2 h11).2
  have ex:=PySem.W.Fast.sEq_iff.mp h9
  rw [ex,e2] at q2
  rw [ex] at h10
  rw [e1,(zdu h3).trans (congrArg (fun x=>Comprehension.mk (.Name (vw g.target).s (vw g.target).p) x [] 0) q2)] at q
  refine .eq q ?_
  exact z05 (z9j G (z6y nd h4) TO.rng.1 TO.rng.2 (z0m h10) (by decide) h12 (ihi.1 _ _ nd h13).ge (ihb.1 (CompOk.cx _ _) _ nd h7).ge) trivial
end
end Mine.Internal
namespace Mine.Internal
open PySem PySem.W PySem.Calls PyProof.Rows PySem.SeqAt PySem.StrLaws
variable [PH]
noncomputable def slotB (C:Cx) (x:Str) (i:Nat):Bool:=hasAt C x i && kIs C x .local
theorem z1i {C:Cx} {x:Str} {i:Nat} (nd:C.names.Nodup) (h:slotB C x i=true):Slot1 C x i:=by
 have h:=a2 h
 exact ⟨z1u h.1,z0m h.2,fun j hj=>za5 nd (z1u h.1) hj⟩
noncomputable def slotsB (C:Cx):List Expr→List Nat→Bool
 | [],is=>l0 is
 | e :: es,is=>lc is fun i is=>(Nat.beq (vw e).tag 2 && slotB C (vw e).s i) && slotsB C es is
theorem z10 {C:Cx} {e:Expr} {i:Nat} (h:(Nat.beq (vw e).tag 2 && slotB C (vw e).s i)=true):e = .Name (vw e).s (vw e).p∧slotB C (vw e).s i=true:=⟨vw_t (a2 h).1,(a2 h).2⟩
theorem z56 {C:Cx} (nd:C.names.Nodup):∀ {es:List Expr} {is:List Nat},slotsB C es is=true→∃ ts:List (Str×Pos),es=ts.map (fun t=>Expr.Name t.1 t.2)∧Slots C (ts.map (·.1)) is:=by
 intro es
 induction es with
 | nil=>
  intro is h
  exact ⟨[],rfl,by rw [l0_i h];exact .nil⟩
 | cons e es ih=>
  intro is h
  obtain ⟨i,r,q,h⟩:=lc_i h
  have ⟨h1,h2⟩:=a2 h
  have ⟨n1,m1⟩:=z10 h1
  obtain ⟨ts,e1,e2⟩:=ih h2
  exact ⟨((vw e).s,(vw e).p) :: ts,by rw [e1];exact congrArg (· :: _) n1,by rw [q];exact .cons (z1i nd m1) e2⟩
noncomputable def notTup:Expr→Bool
 | .Tuple _ _ _=>false
 | _=>true
set_option backward.match.sparseCases true in
noncomputable def anyStar (vs:List Expr):Bool:=vs.any fun | .Starred ..=>true | _=>false
theorem zga {ts:List Expr} {k:Nat} {tp:Pos} {e:Expr} {env:Env} (h:notTup e=true):swappedStores [.Tuple ts k tp] e env=pure none:=by
 cases e<;>first | rfl | exact (Bool.false_ne_true h).elim
set_option backward.match.sparseCases true in
theorem zj4 {C:Cx} {x1 x2:Str} {p1 p2 tp vp:Pos} {k k':Nat} {v1 v2:Expr} {env:Env} (hf:C.scope.kind = .function) (he:env.scope=C.scope) (h1:C.scope.names.lookup x1=some .local) (h2:C.scope.names.lookup x2=some .local) (hne:x1≠x2) (hl:(p2.line == p1.line)=true)
  (hs:anyStar [v1,v2]=false) (hfo:[v1,v2].all (foldedForSure 8)=false) (hco:[v1,v2].all (constantsAlone 8)=false) :
  swappedStores [.Tuple [.Name x1 p1,.Name x2 p2] k tp] (.Tuple [v1,v2] k' vp) env=pure (some [x1,x2]):=by
 have k1:env.kindOf x1=some .local:=by show env.scope.names.lookup x1=_;rw [he];exact h1
 have k2:env.kindOf x2=some .local:=by show env.scope.names.lookup x2=_;rw [he];exact h2
 have kb:env.blockKind = .function:=by
  unfold Env.blockKind
  rw [he,hf];rfl
 have e1:(Expr.Name x1 p1).pos=p1:=rfl
 have hn:([.Name x1 p1,.Name x2 p2]:List Expr).filterMap (fun e=>match e with
   | .Name id pos=>if (env.kindOf id == some .local && pos.line == p1.line)=true then some id else none
   | _=>none)=[x1,x2]:=by
  refine (List.filterMap_cons_some (b:=x1) ?_).trans (congrArg _ ((List.filterMap_cons_some (b:=x2) ?_).trans rfl))
  ·show (if (env.kindOf x1 == some .local && p1.line == p1.line)=true then some x1 else none)=_
   rw [k1,beq_self_eq_true p1.line];rfl
  ·show (if (env.kindOf x2 == some .local && p2.line == p1.line)=true then some x2 else none)=_
   rw [k2,hl];rfl
 have hd:([x1,x2]:List Str).eraseDups=[x1,x2]:=by
  rw [List.eraseDups_cons,List.filter_cons]
  have:(!(x2 == x1))=true:=by rw [beq_eq_false_iff_ne.mpr (Ne.symm hne)];rfl
  rw [this]
  simp [List.eraseDups_cons]
 unfold swappedStores
 dsimp only
 refine (if_neg (by rw [kb];simp)).trans ?_
 refine (if_neg (fun q=>by have q':anyStar [v1,v2]=true:=q;rw [hs] at q';cases q')).trans ?_
 generalize hg:List.filterMap _ [Expr.Name x1 p1,Expr.Name x2 p2]=N
 have eN:N=[x1,x2]:=by rw [← hg];exact hn
 subst eN
 rw [hd,if_neg (by simp),if_neg (by rw [hfo];decide),if_neg (by rw [hco];decide)]
theorem ite_b {α:Type} {c:Prop} [Decidable c] {a b : α} (h:b=a):(if c then a else b)=a:=by
 by_cases q:c
 ·exact if_pos q
 ·exact (if_neg q).trans h
theorem zc4 {ts:List Expr} {tp vp:Pos} {k k':Nat} {vs:List Expr} {env:Env} (hfo:vs.all (foldedForSure 8)=true) :
  swappedStores [.Tuple ts k tp] (.Tuple vs k' vp) env=pure none:=by
 unfold swappedStores
 dsimp only
 exact ite_b (ite_b (ite_b (if_pos hfo)))
noncomputable def tyH (h:ExceptHandler):Option Expr:=match h with
 | .ExceptHandler t _ _ _=>t
noncomputable def nmH (h:ExceptHandler):Option Str:=match h with
 | .ExceptHandler _ n _ _=>n
noncomputable def bdH (h:ExceptHandler):List Stmt:=match h with
 | .ExceptHandler _ _ b _=>b
noncomputable def psH (h:ExceptHandler):Pos:=match h with
 | .ExceptHandler _ _ _ p=>p
noncomputable def boolB (t:T):Bool:=match t with
 | .bool _=>true
 | _=>false
theorem zgb {t:T} (h:boolB t=true):∃ b,t = .bool b:=by
 cases t with
 | bool b=>exact ⟨b,rfl⟩
 | _=>exact Bool.noConfusion h
noncomputable def handB (C:Cx) (t:T) (h:ExceptHandler):Bool:=oN (nmH h) && oE (tyH h) false (fun e=>Nat.beq (vw e).tag 2 && PySem.W.Fast.sEq (vw e).s pfName && kIs C (vw e).s .globalImplicit) && boolB t &&
 l1 (bdH h) (fun s=>Nat.beq (sw s).tag 6 && oE (sw s).oa false fun e=>Nat.beq (vw e).tag 1 && cOk (vw e).k t)
theorem zgc {C:Cx} {t:T} {h:ExceptHandler} (q:handB C t h=true):∃ p1 p2 p3 p4 k b,t = .bool b∧kIs C pfName .globalImplicit=true∧h = .ExceptHandler (some (.Name pfName p1)) none [.Return (some (.Constant (.bool b) k p2)) p3] p4:=by
 obtain ⟨h1,h2,h3,h4⟩:=a4 q
 obtain ⟨e,e1,h5⟩:=oS_i h2
 obtain ⟨h6,h7,h8⟩:=a3 h5
 obtain ⟨b,rfl⟩:=zgb h3
 obtain ⟨s,e2,h9⟩:=l1_i h4
 obtain ⟨h10,h11⟩:=a2 h9
 obtain ⟨c,e3,h12⟩:=oS_i h11
 obtain ⟨h13,h14⟩:=a2 h12
 have q1:e = .Name (vw e).s (vw e).p:=vw_t h6
 have q2:s = .Return (sw s).oa (sw s).p:=sw_t h10
 have q3:c = .Constant (vw c).k (vw c).n (vw c).p:=vw_t h13
 have ex:=PySem.W.Fast.sEq_iff.mp h7
 rw [ex] at q1 h8
 rw [cBl_i h14] at q3
 rw [e3,q3] at q2
 rw [q1] at e1
 rw [q2] at e2
 cases h with
 | ExceptHandler ty nm bd ps=>
  have z1:ty=_:=e1
  have z2:bd=_:=e2
  have z3:nm=none:=oN_i h1
  rw [z1,z2,z3]
  exact ⟨_,_,_,_,_,b,rfl,h8,rfl⟩
section
variable (tb:Tabs) (tl:Tbl)
mutual
noncomputable def chkT:S→Cx→Stmt→Bool
 | .asg i x,C,st=>Nat.beq (sw st).tag 1 && l1 (sw st).ts (fun y=>Nat.beq (vw y).tag 2 && slotB C (vw y).s i) && notComp (sw st).a && chkE tb tl x C (sw st).a
 | .asgT is x,C,st=>Nat.beq (sw st).tag 1 && l1 (sw st).ts (fun y=>Nat.beq (vw y).tag 3 && slotsB C (vw y).es is) && notComp (sw st).a && notTup (sw st).a && chkE tb tl x C (sw st).a
 | .asgP is x,C,st=>Nat.beq (sw st).tag 1 && Nat.beq (vw (sw st).a).tag 3 && l1 (sw st).ts (fun y=>Nat.beq (vw y).tag 3 && slotsB C (vw y).es is && (((vw (sw st).a).es.all (foldedForSure 8) && decide (is.length ≤ 3)) ||
   l2v is fun i j=>l2v (vw y).es fun t1 t2=>l2v (vw (sw st).a).es fun v1 v2=>decide (i≠j) && !PySem.W.Fast.sEq (vw t1).s (vw t2).s && ((vw t2).p.line == (vw t1).p.line) && !anyStar [v1,v2] && (![v1,v2].all (foldedForSure 8) && ![v1,v2].all (constantsAlone 8)))) && noStar (vw (sw st).a).es && chkL tb tl x C (vw (sw st).a).es
 | .setA o f x,C,st=>Nat.beq (sw st).tag 1 && l1 (sw st).ts (fun y=>Nat.beq (vw y).tag 5 && PySem.W.Fast.sEq (vw y).s (aname f) && chkE tb tl o C (vw y).a) && notComp (sw st).a && chkE tb tl x C (sw st).a
 | .setI o i x,C,st=>Nat.beq (sw st).tag 1 && l1 (sw st).ts (fun y=>Nat.beq (vw y).tag 12 && notSlice (vw y).b && chkE tb tl o C (vw y).a && chkE tb tl i C (vw y).b) && notComp (sw st).a && chkE tb tl x C (sw st).a
 | .expr x,C,st=>Nat.beq (sw st).tag 2 && notComp (sw st).a && chkE tb tl x C (sw st).a
 | .ifs c a b,C,st=>Nat.beq (sw st).tag 3 && chkE tb tl c C (sw st).a && chkS a C (sw st).b1 && chkS b C (sw st).b2
 | .whl c a,C,st=>Nat.beq (sw st).tag 4 && l0 (sw st).b2 && chkE tb tl c C (sw st).a && chkS a C (sw st).b1
 | .forL i x a,C,st=>Nat.beq (sw st).tag 5 && l0 (sw st).b2 && (Nat.beq (vw (sw st).a).tag 2 && slotB C (vw (sw st).a).s i) && noSet (sw st).b && chkE tb tl x C (sw st).b && chkS a C (sw st).b1
 | .forR i x a,C,st=>Nat.beq (sw st).tag 5 && l0 (sw st).b2 && (Nat.beq (vw (sw st).a).tag 2 && slotB C (vw (sw st).a).s i) && callB (sw st).b (fun n=>PySem.W.Fast.sEq n rngName && kIs C n .globalImplicit) && l1 (vw (sw st).b).es (fun ie=>noStar [ie] && chkE tb tl x C ie) && chkS a C (sw st).b1
 | .ret x,C,st=>Nat.beq (sw st).tag 6 && oE (sw st).oa (xN x) (fun e=>chkE tb tl x C e)
 | .raise x,C,st=>Nat.beq (sw st).tag 7 && oN (sw st).ob && oE (sw st).oa false (fun c=>callB c (fun n=>PySem.W.Fast.sEq n pfName && kIs C n .globalImplicit) && l1 (vw c).es fun e=>noStar [e] && chkE tb tl x C e)
 | .tryE a t,C,st=>Nat.beq (sw st).tag 8 && l0 (sw st).b2 && l0 (sw st).b3 && l1 (sw st).hs (fun h=>handB C t h) && chkS a C (sw st).b1
 | .bad,_,_=>true
 | .nil,_,_=>false
 | .seq _ _,_,_=>false
noncomputable def chkS:S→Cx→List Stmt→Bool
 | .nil,_,sts=>l0 sts
 | .seq a b,C,sts=>lc sts fun st sts=>chkT a C st && chkS b C sts
 | _,_,_=>false
end
end
section
variable {prog:Program} {w:World} {HB:Heap} {K:Frag} {mg mb:Str→Option Value} {tb:Tabs} {tl:Tbl} {Φ:Nat→List V→St→R V} {n W:Nat} {fa:Nat→Addr}
structure SChk (prog:Program) (w:World) (HB:Heap) (tb:Tabs) (tl:Tbl) (Φ:Nat→List V→St→R V) (n W:Nat) (C:Cx) (x:S):Prop where
 t:∀ st:Stmt,chkT tb tl x C st=true→SndT prog w HB tb Φ W n C st x
 s:∀ sts:List Stmt,chkS tb tl x C sts=true→SndS prog w HB tb Φ W n C sts x
theorem SChk.of {C:Cx} {x:S} (h:∀ st:Stmt,chkT tb tl x C st=true→SndT prog w HB tb Φ W n C st x) (g:∀ sts:List Stmt,chkS tb tl x C sts=false):SChk prog w HB tb tl Φ n W C x :=
 ⟨h,fun sts q=>Bool.noConfusion ((g sts).symm.trans q)⟩
theorem SndT.eq {C:Cx} {e e':Stmt} {x:S} (q:e=e') (g:SndT prog w HB tb Φ W n C e' x):SndT prog w HB tb Φ W n C e x:=by subst q;exact g
theorem zgd (G:Ground prog HB K mg mb tb) (cl:∀ c,c < 12→ClsOk K c) (cs:∀ c,c < 12→SetOk K c) (F:FaultOk HB K mg mb) (I:IsiOk K) (P:PhiOK prog w HB fa n Φ) (HT:∀ Z a kvs,PH.tab Z a kvs↔Z.DictOf (PySem.strKind prog w) a kvs) (TO:TblOk K mg mb fa tb tl) {C:Cx} (nd:C.names.Nodup) (hf:C.scope.kind = .function) :
  ∀ x:S,SChk prog w HB tb tl Φ n W C x:=by
 have ce:∀ {x:X} {e:Expr},chkE tb tl x C e=true→Good1 prog w HB tb Φ n C e x:=fun h=>(z55 (Φ:=Φ) G cl I P HT TO _).1 _ _ nd h
 have cL:∀ {x:X} {es:List Expr},chkL tb tl x C es=true→Good1 prog w HB tb Φ n C (.Tuple es 0 ⟨0,0,0,0⟩) (.tup x)∧∀ (Y:Prop),(SndL prog w HB tb Φ n C es x→Y)→Y:=fun h=>⟨z05 (z93 ((z55 (Φ:=Φ) G cl I P HT TO _).2 _ _ nd h)) trivial,fun Y k=>k ((z55 (Φ:=Φ) G cl I P HT TO _).2 _ _ nd h)⟩
 intro x
 induction x with
 | bad=>
  refine .of (fun st h=>?_) fun _=>rfl
  intro A s Z μ rest σ env L m ρ g z so ws lc hb
  exact (hb rfl).elim
 | nil=>
  refine ⟨fun st h=>Bool.noConfusion h,fun sts h=>?_⟩
  rw [l0_i h]
  exact zbl
 | seq a b iha ihb=>
  refine ⟨fun st h=>Bool.noConfusion h,fun sts h=>?_⟩
  obtain ⟨st,r,q,h⟩:=lc_i h
  haveI h1:=(a2 h).1
  haveI h2:=(a2 h).2
  rw [q]
  exact z9n (iha.1 _ h1) (ihb.2 _ h2)
 | asg i x=>
  refine .of (fun st h=>?_) fun _=>rfl
  haveI h0:=(a4 h).1
  haveI h1:=(a4 h).2.1
  haveI h2:=(a4 h).2.2.1
  haveI h3:=(a4 h).2.2.2
  have q:st = .Assign (sw st).ts (sw st).a (sw st).p:=sw_t h0
  obtain ⟨y,e1,h4⟩:=l1_i h1
  haveI h5:=(a2 h4).1
  haveI h6:=(a2 h4).2
  have ey:y = .Name (vw y).s (vw y).p:=vw_t h5
  rw [e1,ey] at q
  refine .eq q ?_
  exact zbm (z1i nd h6) h2 (ce h3).ge
 | asgT is x=>
  refine .of (fun st h=>?_) fun _=>rfl
  haveI h0:=(a5 h).1
  haveI h1:=(a5 h).2.1
  haveI h2:=(a5 h).2.2.1
  haveI h3:=(a5 h).2.2.2.1
  haveI h4:=(a5 h).2.2.2.2
  have q:st = .Assign (sw st).ts (sw st).a (sw st).p:=sw_t h0
  obtain ⟨y,e1,h5⟩:=l1_i h1
  haveI h6:=(a2 h5).1
  haveI h7:=(a2 h5).2
  have ey:y = .Tuple (vw y).es (vw y).n (vw y).p:=vw_t h6
  obtain ⟨ts,e2,e3⟩:=z56 nd h7
  rw [e2] at ey
  rw [e1,ey] at q
  refine .eq q ?_
  exact z9v e3 h2 (ce h4).ge fun env _=>zga h3
 | asgP is x=>
  refine .of (fun st h=>?_) fun _=>rfl
  haveI h0:=(a5 h).1
  haveI h1:=(a5 h).2.1
  haveI h2:=(a5 h).2.2.1
  haveI h3:=(a5 h).2.2.2.1
  haveI h4:=(a5 h).2.2.2.2
  have q:st = .Assign (sw st).ts (sw st).a (sw st).p:=sw_t h0
  have qa:(sw st).a = .Tuple (vw (sw st).a).es (vw (sw st).a).n (vw (sw st).a).p:=vw_t h1
  obtain ⟨y,e1,h5⟩:=l1_i h2
  haveI h6:=(a3 h5).1
  haveI h7:=(a3 h5).2.1
  haveI h8:=(a3 h5).2.2
  have ey:y = .Tuple (vw y).es (vw y).n (vw y).p:=vw_t h6
  rcases Bool.or_eq_true_iff.mp h8 with h9 | h9
  ·haveI h10:=(a2 h9).1
   haveI h11:=(a2 h9).2
   obtain ⟨ts,e2,e3⟩:=z56 nd h7
   rw [e2] at ey
   rw [e1,ey,qa] at q
   refine .eq q ?_
   exact z9w e3 (of_decide_eq_true h11) ((z55 (Φ:=Φ) G cl I P HT TO _).2 _ _ nd h4) fun env _=>zc4 h10
  ·obtain ⟨i,j,ei,h10⟩:=l2v_i h9
   obtain ⟨t1,t2,et,h11⟩:=l2v_i h10
   obtain ⟨v1,v2,ev,h12⟩:=l2v_i h11
   haveI q1:=(a5 h12).1
   haveI q2:=(a5 h12).2.1
   haveI q3:=(a5 h12).2.2.1
   haveI q4:=(a5 h12).2.2.2.1
   haveI q56:=(a5 h12).2.2.2.2
   haveI q5:=(a2 q56).1
   haveI q6:=(a2 q56).2
   subst ei
   rw [et] at h7 ey
   haveI s1:=(a2 h7).1
   haveI s1':=(a2 h7).2
   haveI s2:=(a2 s1').1
   haveI n1:=(z10 s1).1
   haveI m1:=(z10 s1).2
   haveI n2:=(z10 s2).1
   haveI m2:=(z10 s2).2
   rw [n1,n2] at ey
   rw [ev] at qa h3 h4
   haveI Sa:=z1i nd m1
   haveI Sb:=z1i nd m2
   have hne:(vw t1).s≠(vw t2).s:=fun q=>by rw [PySem.W.Fast.sEq_iff.mpr q] at q2;cases q2
   haveI hL:SndL prog w HB tb Φ n C [v1,v2] x:=(z55 (Φ:=Φ) G cl I P HT TO _).2 _ _ nd h4
   rw [e1,ey,qa] at q
   refine .eq q ?_
   exact z9u h3 Sa Sb (of_decide_eq_true q1) hL fun env he=>zj4 hf he Sa.loc Sb.loc hne q3 (nb q4) (nb q5) (nb q6)
 | setA o f x=>
  refine .of (fun st h=>?_) fun _=>rfl
  haveI h0:=(a4 h).1
  haveI h1:=(a4 h).2.1
  haveI h2:=(a4 h).2.2.1
  haveI h3:=(a4 h).2.2.2
  have q:st = .Assign (sw st).ts (sw st).a (sw st).p:=sw_t h0
  obtain ⟨y,e1,h4⟩:=l1_i h1
  haveI h5:=(a3 h4).1
  haveI h6:=(a3 h4).2.1
  haveI h7:=(a3 h4).2.2
  have ey:y = .Attribute (vw y).a (vw y).s (vw y).p:=vw_t h5
  rw [e1,ey] at q
  refine .eq q ?_
  exact z9s G cl cs (PySem.W.Fast.sEq_iff.mp h6) h2 (ce h7).ge (ce h3).ge
 | setI o i x=>
  refine .of (fun st h=>?_) fun _=>rfl
  haveI h0:=(a4 h).1
  haveI h1:=(a4 h).2.1
  haveI h2:=(a4 h).2.2.1
  haveI h3:=(a4 h).2.2.2
  have q:st = .Assign (sw st).ts (sw st).a (sw st).p:=sw_t h0
  obtain ⟨y,e1,h4⟩:=l1_i h1
  haveI h5:=(a4 h4).1
  haveI h6:=(a4 h4).2.1
  haveI h7:=(a4 h4).2.2.1
  haveI h8:=(a4 h4).2.2.2
  have ey:y = .Subscript (vw y).a (vw y).b (vw y).p:=vw_t h5
  rw [e1,ey] at q
  refine .eq q ?_
  exact z9t h6 h2 (ce h7).ge (ce h8).ge (ce h3).ge
 | expr x=>
  refine .of (fun st h=>?_) fun _=>rfl
  haveI h0:=(a3 h).1
  haveI h1:=(a3 h).2.1
  haveI h2:=(a3 h).2.2
  refine .eq (sw_t h0) ?_
  exact z9o h1 (ce h2).ge
 | ifs c a b iha ihb=>
  refine .of (fun st h=>?_) fun _=>rfl
  haveI h0:=(a4 h).1
  haveI h1:=(a4 h).2.1
  haveI h2:=(a4 h).2.2.1
  haveI h3:=(a4 h).2.2.2
  refine .eq (sw_t h0) ?_
  exact zbo (ce h1).gb (iha.2 _ h2) (ihb.2 _ h3)
 | whl c a iha=>
  refine .of (fun st h=>?_) fun _=>rfl
  haveI h0:=(a4 h).1
  haveI h1:=(a4 h).2.1
  haveI h2:=(a4 h).2.2.1
  haveI h3:=(a4 h).2.2.2
  have q:st = .While (sw st).a (sw st).b1 (sw st).b2 (sw st).p:=sw_t h0
  rw [l0_i h1] at q
  refine .eq q ?_
  exact zbr (ce h2).gb (iha.2 _ h3)
 | forL i x a iha=>
  refine .of (fun st h=>?_) fun _=>rfl
  haveI h0:=(a6 h).1
  haveI h1:=(a6 h).2.1
  haveI h2:=(a6 h).2.2.1
  haveI h3:=(a6 h).2.2.2.1
  haveI h4:=(a6 h).2.2.2.2.1
  haveI h5:=(a6 h).2.2.2.2.2
  have q:st = .For (sw st).a (sw st).b (sw st).b1 (sw st).b2 (sw st).p:=sw_t h0
  haveI n1:=(z10 h2).1
  haveI m1:=(z10 h2).2
  rw [l0_i h1,n1] at q
  refine .eq q ?_
  exact za0 (z1i nd m1) (z6z h3) (ce h4).ge (iha.2 _ h5)
 | forR i x a iha=>
  refine .of (fun st h=>?_) fun _=>rfl
  haveI h0:=(a6 h).1
  haveI h1:=(a6 h).2.1
  haveI h2:=(a6 h).2.2.1
  haveI h3:=(a6 h).2.2.2.1
  haveI h4:=(a6 h).2.2.2.2.1
  haveI h5:=(a6 h).2.2.2.2.2
  have q:st = .For (sw st).a (sw st).b (sw st).b1 (sw st).b2 (sw st).p:=sw_t h0
  haveI n1:=(z10 h2).1
  haveI m1:=(z10 h2).2
  haveI q2:=(z0f h3).1
  haveI h6:=(z0f h3).2
  haveI h7:=(a2 h6).1
  haveI h8:=(a2 h6).2
  obtain ⟨ie,e2,h9⟩:=l1_i h4
  haveI h10:=(a2 h9).1
  haveI h11:=(a2 h9).2
  have ex:=PySem.W.Fast.sEq_iff.mp h7
  rw [ex,e2] at q2
  rw [ex] at h8
  rw [l0_i h1,n1,q2] at q
  refine .eq q ?_
  haveI hE:SndE prog w HB tb Φ n C _ x:=(ce h11).ge
  haveI hS:SndS prog w HB tb Φ W n C _ a:=iha.2 _ h5
  exact z9z G (z1i nd m1) TO.rng.1 TO.rng.2 (z0m h8) (by decide) h10 hE hS
 | ret x=>
  refine .of (fun st h=>?_) fun _=>rfl
  haveI h0:=(a2 h).1
  haveI h1:=(a2 h).2
  have q:st = .Return (sw st).oa (sw st).p:=sw_t h0
  rcases oE_i h1 with ⟨e1,h2⟩ | ⟨e,e1,h2⟩
  ·rw [e1] at q
   rw [q,xN_i h2]
   exact z9p
  ·rw [e1] at q
   refine .eq q ?_
   exact zbn (ce h2).ge
 | raise x=>
  refine .of (fun st h=>?_) fun _=>rfl
  haveI h0:=(a3 h).1
  haveI h1:=(a3 h).2.1
  haveI h2:=(a3 h).2.2
  have q:st = .Raise (sw st).oa (sw st).ob (sw st).p:=sw_t h0
  obtain ⟨c,e1,h3⟩:=oS_i h2
  haveI h4:=(a2 h3).1
  haveI h5:=(a2 h3).2
  haveI q2:=(z0f h4).1
  haveI h6:=(z0f h4).2
  haveI h7:=(a2 h6).1
  haveI h8:=(a2 h6).2
  obtain ⟨e,e2,h9⟩:=l1_i h5
  haveI h10:=(a2 h9).1
  haveI h11:=(a2 h9).2
  have ex:=PySem.W.Fast.sEq_iff.mp h7
  rw [ex,e2] at q2
  rw [ex] at h8
  rw [oN_i h1,e1,q2] at q
  refine .eq q ?_
  exact z7l G F TO.pf (z0m h8) (by decide) h10 (ce h11).ge
 | tryE a t iha=>
  refine .of (fun st h=>?_) fun _=>rfl
  haveI h0:=(a5 h).1
  haveI h1:=(a5 h).2.1
  haveI h2:=(a5 h).2.2.1
  haveI h3:=(a5 h).2.2.2.1
  haveI h4:=(a5 h).2.2.2.2
  have q:st = .Try (sw st).b1 (sw st).hs (sw st).b2 (sw st).b3 (sw st).p:=sw_t h0
  obtain ⟨hh,e1,h5⟩:=l1_i h3
  obtain ⟨p1,p2,p3,p4,k,b,rfl,h6,e2⟩:=zgc h5
  rw [e2] at e1
  rw [l0_i h1,l0_i h2,e1] at q
  refine .eq q ?_
  exact zby G F TO.pf (z0m h6) (by decide) (iha.2 _ h4)
end
end Mine.Internal
namespace Mine.Internal
open PySem PySem.W PySem.Calls PyProof.Rows PySem.SeqAt PySem.StrLaws
variable [PH]
section
variable {prog:Program} {w:World} {HB:Heap} {K:Frag} {mg mb:Str→Option Value} {tl:Tbl} {W:Nat} {fa:Nat→Addr} {P:Prog}
theorem zj5 (G:Ground prog HB K mg mb P.tb) (cl:∀ c,c < 12→ClsOk K c) (cs:∀ c,c < 12→SetOk K c) (F:FaultOk HB K mg mb) (I:IsiOk K) (HT:∀ Z a kvs,PH.tab Z a kvs↔Z.DictOf (PySem.strKind prog w) a kvs) (TO:TblOk K mg mb fa P.tb tl)
  (fs:∀ f F,P.fn f=some F→∃ C body,FnIs HB (fa f) F C body∧chkS P.tb tl F.body C body=true):∀ n,PhiOK prog w HB fa n (runF P W n):=by
 intro n
 induction n with
 | zero=>
  intro A s Z μ outs σ f vs args g z ws r hb
  exact (hb (by unfold runF;rfl)).elim
 | succ n ih=>
  intro A s Z μ outs σ f vs args g z ws r hb Q E ok ex
  cases hf:P.fn f with
  | none=>exact (hb (by unfold runF;rw [hf])).elim
  | some Fd=>
   obtain ⟨C,body,h1,h2⟩:=fs f Fd hf
   have hS:SndS prog w HB P.tb (runF P W n) W n C body Fd.body:=(zgd (Φ:=runF P W n) G cl cs F I ih HT TO h1.nodup h1.kind _).2 _ h2
   exact zg8 G hf h1 hS g z ws r hb Q E ok ex
end
end Mine.Internal
namespace Mine.Internal
open PySem PySem.W PySem.Calls PyProof.Rows PySem.SeqAt PySem.StrLaws MineH.Internal
noncomputable abbrev TT (P:Params):BT:=T77 P
theorem z1v {P:Params} {a:Nat} {o:Obj} (h:Nat.blt a 882=true) (g:(TT P).get a=some o) (f:o.isFreed=false):(H1 P).get? a=some o:=by
 rw [abs_get (Nat.blt_eq.mp h) g]
 obtain ⟨c,d,x,sl⟩:=o
 cases x<;>first | rfl | (cases f)
noncomputable def entriesOf (P:Params) (l:List (Str×Nat×Value)):List DictEntry:=l.map fun p=>⟨PyData.keyHash P p.1,.str p.1 p.2.1,p.2.2⟩
noncomputable def valsOf (l:List (Str×Nat×Value)):List (Str×Value):=l.map fun p=>(p.1,p.2.2)
noncomputable def onR (v:Value) (k:Addr→Bool):Bool:=match v with
 | .ref a=>k a
 | _=>false
theorem onR_i {v:Value} {k:Addr→Bool} (h:onR v k=true):∃ a,v = .ref a∧k a=true:=by
 cases v<;>first | exact ⟨_,rfl,h⟩ | exact Bool.noConfusion h
noncomputable def onS (v:Value) (k:Str→Bool):Bool:=match v with
 | .str x _=>k x
 | _=>false
theorem onS_i {v:Value} {k:Str→Bool} (h:onS v k=true):∃ x t,v = .str x t∧k x=true:=by
 cases v<;>first | exact ⟨_,_,rfl,h⟩ | exact Bool.noConfusion h
noncomputable def onI (v:Value) (k:Int→Bool):Bool:=match v with
 | .int x _=>k x
 | _=>false
theorem onI_i {v:Value} {k:Int→Bool} (h:onI v k=true):∃ x t,v = .int x t∧k x=true:=by
 cases v<;>first | exact ⟨_,_,rfl,h⟩ | exact Bool.noConfusion h
noncomputable def onT (v:Value) (c:String):Bool:=match v with
 | .type x=>decide (x=c)
 | _=>false
theorem onT_i {v:Value} {c:String} (h:onT v c=true):v = .type c:=by
 cases v<;>first | exact congrArg _ (of_decide_eq_true h) | exact Bool.noConfusion h
noncomputable def dQ (d:Data) (k:Array Value→Bool):Bool:=match d with
 | .seq x _=>k x
 | _=>false
theorem dQ_i {v:Data} {k:Array Value→Bool} (h:dQ v k=true):∃ x n,v = .seq x n∧k x=true:=by
 cases v<;>first | exact ⟨_,_,rfl,h⟩ | exact Bool.noConfusion h
noncomputable def dF (d:Data) (k:Array Value→Bool):Bool:=match d with
 | .fields x=>k x
 | _=>false
theorem dF_i {v:Data} {k:Array Value→Bool} (h:dF v k=true):∃ x,v = .fields x∧k x=true:=by
 cases v<;>first | exact ⟨_,rfl,h⟩ | exact Bool.noConfusion h
noncomputable def dU (d:Data) (k:FuncData→Bool):Bool:=match d with
 | .func x=>k x
 | _=>false
theorem dU_i {v:Data} {k:FuncData→Bool} (h:dU v k=true):∃ x,v = .func x∧k x=true:=by
 cases v<;>first | exact ⟨_,rfl,h⟩ | exact Bool.noConfusion h
noncomputable def bS (fd:FuncData) (k:List Stmt→Bool):Bool:=match fd.body with
 | .stmts x=>k x
 | _=>false
theorem bS_i {v:FuncData} {k:List Stmt→Bool} (h:bS v k=true):∃ x,v.body = .stmts x∧k x=true:=by
 unfold bS at h
 generalize v.body=b at h ⊢
 cases b<;>first | exact ⟨_,rfl,h⟩ | exact Bool.noConfusion h
noncomputable def atB (t:BT) (a:Nat) (k:Obj→Bool):Bool:=Nat.blt a 882 && oE (t.get a) false fun o=>!o.isFreed && k o
theorem atB_i {P:Params} {a:Nat} {k:Obj→Bool} (h:atB (TT P) a k=true):∃ o,(H1 P).get? a=some o∧k o=true:=by
 obtain ⟨h1,h2⟩:=a2 h
 obtain ⟨o,eo,h3⟩:=oS_i h2
 exact ⟨o,z1v h1 eo (nb (a2 h3).1),(a2 h3).2⟩
variable [PH]
theorem z28 (P:Params):∀ (l:List (Str×Nat×Value)) (x:Str),nsFind (entriesOf P l).toArray x=sLook (valsOf l) x
 | [],x=>by simp [entriesOf,valsOf,nsFind,findBy,sLook]
 | (k,t,v) :: l,x=>by
  have ih:=z28 P l x
  unfold nsFind findBy at ih ⊢
  rw [z6p] at ih ⊢
  simp only [List.find?_toArray] at ih ⊢
  show ((⟨PyData.keyHash P k,.str k t,v⟩ :: entriesOf P l:List DictEntry).find? fun e=>e.key.isStr x).map (·.val)=((k,v) :: valsOf l).lookup x
  rw [List.find?_cons,List.lookup_cons]
  by_cases h:x=k
  ·subst h
   simp [Value.isStr]
  ·have h1:(Value.str k t).isStr x=false:=by
    simp only [Value.isStr]
    exact beq_eq_false_iff_ne.mpr fun q=>h q.symm
   have h2:(x == k)=false:=beq_eq_false_iff_ne.mpr h
   rw [h1,h2]
   exact ih
theorem z57 (P:Params) (l:List (Str×Nat×Value)):StrKeys (entriesOf P l).toArray:=by
 intro e he
 simp only [List.mem_toArray,entriesOf,List.mem_map] at he
 obtain ⟨p,_,rfl⟩:=he
 exact ⟨_,_,rfl⟩
theorem ns_of {h:Heap} {P:Params} {a:Addr} {o:Obj} {l:List (Str×Nat×Value)} {n:Nat} (g:h.get? a=some o) (d:o.data = .dict (entriesOf P l).toArray n):h.Ns a (sLook (valsOf l)) :=
 ⟨o,_,n,g,d,z57 P l,z28 P l⟩
theorem zge {h:Heap} {a:Addr} {m m':Str→Option Value} (x:h.Ns a m) (y:h.Ns a m'):m=m':=by
 obtain ⟨o,es,ep,g,d,_,f⟩:=x
 obtain ⟨o',es',ep',g',d',_,f'⟩:=y
 rw [g] at g';cases g'
 rw [d] at d';cases d'
 funext x
 rw [← f,← f']
theorem za6 {prog:Program} {w:World} {h:Heap} {a:Addr} {o:Obj} {l:List (Str×Nat×Value)} {n:Nat} (g:h.get? a=some o) (e:o.ExactDict) (d:o.data = .dict (entriesOf w.params l).toArray n) (nd:(l.map (·.1)).Nodup) :
  h.DictOf (PySem.strKind prog w) a (valsOf l):=by
 refine ⟨o,_,n,g,e,d,?_,?_,?_⟩
 ·intro e he
  simp only [List.mem_toArray,entriesOf,List.mem_map] at he
  obtain ⟨p,_,rfl⟩:=he
  exact ⟨p.1,strKind_is prog w _ _,rfl⟩
 ·clear g e d nd
  show Pairs (PySem.strKind prog w) (entriesOf w.params l) (valsOf l)
  induction l with
  | nil=>exact .nil
  | cons p l ih=>exact .cons (strKind_is prog w _ _) rfl ih
 ·have:(valsOf l).map (·.1)=l.map (·.1):=by unfold valsOf;rw [List.map_map];rfl
  rw [this];exact nd
noncomputable def repB (t:BT):Nat→T→Value→Bool
 | _,.int i,v=>onI v fun j=>decide (i=j)
 | _,.str s,v=>onS v fun x=>PySem.W.Fast.sEq x (mkS s) && decide (s.length ≤ 1000)
 | n + 1,.tup l,v=>onR v fun a=>atB t a fun o=>onT o.cls "tuple" && dQ o.data fun vs=>decide (l.length=vs.toList.length) && decide (l.length ≤ 1000) && (l.zip vs.toList).all fun p=>repB t n p.1 p.2
 | _,_,_=>false
theorem za7 {Z:Heap} {l:List T}:∀ {vs:List Value},l.length=vs.length→(∀ p∈l.zip vs,RepT Z p.1 p.2)→RepTs Z l vs:=by
 induction l with
 | nil=>
  intro vs e _
  cases vs with
  | nil=>trivial
  | cons=>exact Nat.noConfusion e
 | cons x l ih=>
  intro vs e h
  cases vs with
  | nil=>exact Nat.noConfusion e
  | cons y vs=>exact ⟨h (x,y) (.head _),ih (Nat.succ.inj e) fun p hp=>h p (.tail _ hp)⟩
theorem rep_i {P:Params} {i:Int} {v:Value} (h:onI v (fun j=>decide (i=j))=true):RepT (H1 P) (.int i) v:=by
 obtain ⟨j,t,rfl,h⟩:=onI_i h
 rw [of_decide_eq_true h];exact ⟨_,rfl⟩
theorem rep_s {P:Params} {s:List Nat} {v:Value} (h:onS v (fun x=>PySem.W.Fast.sEq x (mkS s) && decide (s.length ≤ 1000))=true):RepT (H1 P) (.str s) v:=by
 obtain ⟨j,t,rfl,h⟩:=onS_i h
 rw [PySem.W.Fast.sEq_iff.mp (a2 h).1]
 exact ⟨_,rfl,Nat.le_trans (of_decide_eq_true (a2 h).2) (by decide)⟩
theorem za8 {P:Params} {n:Nat}:∀ {x:T} {v:Value},repB (TT P) n x v=true→RepT (H1 P) x v:=by
 induction n with
 | zero=>
  intro x v h
  cases x with
  | int i=>exact rep_i h
  | str s=>exact rep_s h
  | _=>exact Bool.noConfusion h
 | succ n ih=>
  intro x v h
  cases x with
  | int i=>exact rep_i h
  | str s=>exact rep_s h
  | tup l=>
   obtain ⟨a,rfl,h⟩:=onR_i h
   obtain ⟨o,g,h⟩:=atB_i h
   obtain ⟨vs,k,ed,h⟩:=dQ_i (a2 h).2
   obtain ⟨h1,h2,h3⟩:=a3 h
   exact ⟨a,vs,rfl,⟨o,g,onT_i (a2 ‹_›).1,k,ed⟩,za7 (of_decide_eq_true h1) fun p hp=>ih (List.all_eq_true.mp h3 p hp),Nat.le_trans (of_decide_eq_true h2) (by decide)⟩
  | _=>exact Bool.noConfusion h
noncomputable def sNodup:List Str→Bool
 | []=>true
 | x :: l=>l.all (fun y=>!PySem.W.Fast.sEq x y) && sNodup l
theorem z58 {l:List Str}:sNodup l=true→l.Nodup:=by
 induction l with
 | nil=>exact fun _=>List.nodup_nil
 | cons x l ih=>
  intro h
  obtain ⟨h,g⟩:=a2 h
  refine List.nodup_cons.mpr ⟨fun q=>?_,ih g⟩
  have:=nb (List.all_eq_true.mp h x q)
  rw [PySem.W.Fast.sEq_iff.mpr rfl] at this
  exact Bool.noConfusion this
noncomputable def sEqs:List Str→List Str→Bool
 | [],[]=>true
 | x :: l,y :: r=>PySem.W.Fast.sEq x y && sEqs l r
 | _,_=>false
theorem z65 {l:List Str}:∀ {r:List Str},sEqs l r=true→l=r:=by
 induction l with
 | nil=>
  intro r h
  cases r with
  | nil=>rfl
  | cons=>exact Bool.noConfusion h
 | cons x l ih=>
  intro r h
  cases r with
  | nil=>exact Bool.noConfusion h
  | cons y r=>
   obtain ⟨h,g⟩:=a2 h
   rw [PySem.W.Fast.sEq_iff.mp h,ih g]
noncomputable def codeB (t:BT) (cd:Value) (q:Str):Bool:=onR cd fun c=>atB t c fun o=>dF o.data fun vs=>oE (vs[1]?:Option Value) false fun x=>onS x fun x=>PySem.W.Fast.sEq x q
theorem z70 {P:Params} {cd:Value} {q:Str} (h:codeB (TT P) cd q=true):(H1 P).CodeRec cd q:=by
 obtain ⟨c,rfl,h⟩:=onR_i h
 obtain ⟨o,g,h⟩:=atB_i h
 obtain ⟨vs,ed,h⟩:=dF_i h
 obtain ⟨x,ev,h⟩:=oS_i h
 obtain ⟨x,t,rfl,h⟩:=onS_i h
 exact ⟨c,o,vs,t,rfl,g,ed,by rw [ev,PySem.W.Fast.sEq_iff.mp h]⟩
noncomputable def isN (v:Value):Bool:=match v with
 | .none=>true
 | _=>false
theorem isN_i {v:Value} (h:isN v=true):v = .none:=by
 cases v<;>first | rfl | exact Bool.noConfusion h
noncomputable def dfltB (t:BT) (dv:Value) (l:List T):Bool:=(isN dv && l0 l) || onR dv fun a=>atB t a fun o=>dQ o.data fun vs=>decide (l.length=vs.toList.length) && (l.zip vs.toList).all fun p=>repB t 2 p.1 p.2
theorem zc5 {P:Params} {dv:Value} {l:List T} (h:dfltB (TT P) dv l=true):∃ ds,RepTs (H1 P) l ds∧((dv = .none∧ds=[])∨∃ T o n,dv = .ref T∧(H1 P).get? T=some o∧o.data = .seq ds.toArray n):=by
 rcases Bool.or_eq_true_iff.mp h with h | h
 ·rw [l0_i (a2 h).2]
  exact ⟨[],trivial,.inl ⟨isN_i (a2 h).1,rfl⟩⟩
 ·obtain ⟨a,rfl,h⟩:=onR_i h
  obtain ⟨o,g,h⟩:=atB_i h
  obtain ⟨vs,n,ed,h⟩:=dQ_i h
  exact ⟨vs.toList,za7 (of_decide_eq_true (a2 h).1) fun p hp=>za8 (List.all_eq_true.mp (a2 h).2 p hp),.inr ⟨a,o,n,rfl,g,ed⟩⟩
noncomputable def fnB (tb:Tabs) (tl:Tbl) (t:BT) (a:Nat) (F:Fn) (names:List Str):Bool:=atB t a fun o=>dU o.data fun fd=>bS fd fun body=>Nat.beq fd.globals 3 && Nat.beq fd.builtins 0 && fd.closure.isEmpty && fd.params.posonlyargs.isEmpty && fd.params.kwonlyargs.isEmpty && fd.params.vararg.isNone && fd.params.kwarg.isNone &&
    sEqs (fd.params.args.map (·.arg)) (names.take F.np) && decide (fd.scope.kind = .function) && !fd.scope.isGenerator && !fd.scope.isCoroutine && Nat.beq names.length F.ns && Nat.ble F.np F.ns && sNodup names && Nat.ble F.dfl.length F.np &&
    (names.take F.np).all (fun x=>kIs ⟨names,fd.scope⟩ x .local || kIs ⟨names,fd.scope⟩ x .cell) && codeB t fd.code fd.qualname && dfltB t fd.defaults F.dfl && chkS tb tl F.body ⟨names,fd.scope⟩ body
theorem zj6 {tb:Tabs} {tl:Tbl} {P:Params} {a:Nat} {F:Fn} {names:List Str} (h:fnB tb tl (TT P) a F names=true):∃ C body,FnIs (H1 P) a F C body∧chkS tb tl F.body C body=true:=by
 obtain ⟨o,g,h⟩:=atB_i h
 obtain ⟨fd,ed,h⟩:=dU_i h
 obtain ⟨body,eb,h4⟩:=bS_i h
 simp only [Bool.and_eq_true,Bool.or_eq_true,Bool.not_eq_true',decide_eq_true_eq,List.all_eq_true,Nat.beq_eq,Nat.ble_eq,List.isEmpty_iff,Option.isNone_iff_eq_none] at h4
 obtain ⟨⟨⟨⟨⟨⟨⟨⟨⟨⟨⟨⟨⟨⟨⟨⟨⟨⟨c1,c2⟩,c3⟩,c4⟩,c5⟩,c6⟩,c7⟩,c8⟩,c9⟩,c10⟩,c11⟩,c12⟩,c13⟩,c14⟩,c15⟩,c16⟩,c17⟩,c18⟩,c19⟩:=h4
 exact ⟨⟨names,fd.scope⟩,body,⟨⟨o,fd,g,ed,eb,rfl,c1,c2,c3,z70 c17,c4,c5,c6,c7,z65 c8,zc5 c18⟩,c9,c10,c11,c12,c13,z58 c14,c15,fun x hx=>(c16 x hx).imp z0m z0m⟩,c19⟩
theorem FnIs.mono {Z Z':Heap} (k:Sub Z Z') {a:Addr} {F:Fn} {C:Cx} {body:List Stmt} (I:FnIs Z a F C body):FnIs Z' a F C body:=by
 obtain ⟨⟨o,fd,i1,i2,i3,i4,i5,i6,i7,i8,i9,i10,i11,i12,i13,ds,i14,i15⟩,r1,r2,r3,r4,r5,r6,r7,r8⟩:=I
 exact ⟨⟨o,fd,k _ _ i1,i2,i3,i4,i5,i6,i7,i8.keeps k,i9,i10,i11,i12,i13,ds,RepTs.mono k i14,i15.imp id fun ⟨T,o,n,h1,h2,h3⟩=>⟨T,o,n,h1,k _ _ h2,h3⟩⟩,r1,r2,r3,r4,r5,r6,r7,r8⟩
theorem z0b {α:Type} {f:Nat→α} {n:Nat} {v : α} (h:(List.range n).map f=List.replicate n v):∀ c,c < n→f c=v:=by
 intro c hc
 have h1:((List.range n).map f)[c]? = some (f c):=by rw [List.getElem?_map,List.getElem?_range hc];rfl
 rw [h,List.getElem?_replicate,if_pos hc] at h1
 exact (Option.some.inj h1).symm
theorem z1c {α β:Type} {f g : α→β} {l:List α} (h:l.map f=l.map g):∀ p∈l,f p=g p:=List.map_inj_left.mp h
end Mine.Internal
namespace Mine.Internal
open PySem PySem.W PySem.Calls PyProof.Rows PySem.SeqAt PySem.StrLaws MineH.Internal
noncomputable section
variable [PH]
noncomputable def faTL:List Addr:=[28,53,60,68,73,87,94,115,122,143,150,171,178,199,206,227,234,255,262,283,290,311,318,349,356,363,370,377,397,404,411,418,439,447,454,461,468,475,482,489,496,503,510,517,524,531,538,552,562,569,576,590,597,604,611,618,625,632,639,646,653,660,667,674,681,688,695,702,709,716,723,730,744,751,758,765,772,779,784,789,796,803,808,815,822,829,836,843,848,853,860,867,874,881]
noncomputable def faT (f:Nat):Addr:=(faTL[f]?).getD 0
noncomputable def namesTL:List (List Str):=[[MineH.Internal.S "self",MineH.Internal.S "message"],
 [MineH.Internal.S "one",MineH.Internal.S "other",MineH.Internal.S "first",MineH.Internal.S "second"],
 [MineH.Internal.S "number"],
 [MineH.Internal.S "top",MineH.Internal.S "bottom",MineH.Internal.S "common"],
 [MineH.Internal.S "parts",MineH.Internal.S "part"],
 [MineH.Internal.S "self",MineH.Internal.S "value"],
 [MineH.Internal.S "self"],
 [MineH.Internal.S "self",MineH.Internal.S "value"],
 [MineH.Internal.S "self"],
 [MineH.Internal.S "self",MineH.Internal.S "name"],
 [MineH.Internal.S "self"],
 [MineH.Internal.S "self",MineH.Internal.S "name",MineH.Internal.S "arguments"],
 [MineH.Internal.S "self"],
 [MineH.Internal.S "self",MineH.Internal.S "op",MineH.Internal.S "left",MineH.Internal.S "right"],
 [MineH.Internal.S "self"],
 [MineH.Internal.S "self",MineH.Internal.S "value"],
 [MineH.Internal.S "self"],
 [MineH.Internal.S "self",MineH.Internal.S "base",MineH.Internal.S "predicates"],
 [MineH.Internal.S "self"],
 [MineH.Internal.S "self",MineH.Internal.S "start",MineH.Internal.S "steps"],
 [MineH.Internal.S "self",MineH.Internal.S "start"],
 [MineH.Internal.S "self",MineH.Internal.S "axis",MineH.Internal.S "test",MineH.Internal.S "predicates"],
 [MineH.Internal.S "self"],
 [MineH.Internal.S "code",MineH.Internal.S "ranges",MineH.Internal.S "low",MineH.Internal.S "high"],
 [MineH.Internal.S "sign"],
 [MineH.Internal.S "sign"],
 [MineH.Internal.S "sign"],
 [MineH.Internal.S "sign"],
 [MineH.Internal.S "self",MineH.Internal.S "kind",MineH.Internal.S "text",MineH.Internal.S "place"],
 [MineH.Internal.S "self",MineH.Internal.S "text"],
 [MineH.Internal.S "self",MineH.Internal.S "text"],
 [MineH.Internal.S "self"],
 [MineH.Internal.S "self",MineH.Internal.S "text"],
 [MineH.Internal.S "self",MineH.Internal.S "ahead",MineH.Internal.S "place"],
 [MineH.Internal.S "self",MineH.Internal.S "kind",MineH.Internal.S "text",MineH.Internal.S "begin"],
 [MineH.Internal.S "self"],
 [MineH.Internal.S "self"],
 [MineH.Internal.S "self",MineH.Internal.S "word"],
 [MineH.Internal.S "self",MineH.Internal.S "sign"],
 [MineH.Internal.S "self",MineH.Internal.S "begin"],
 [MineH.Internal.S "self"],
 [MineH.Internal.S "self",MineH.Internal.S "quote",MineH.Internal.S "begin",MineH.Internal.S "end"],
 [MineH.Internal.S "self",MineH.Internal.S "begin",MineH.Internal.S "name"],
 [MineH.Internal.S "self",MineH.Internal.S "begin"],
 [MineH.Internal.S "self",MineH.Internal.S "first",MineH.Internal.S "second"],
 [MineH.Internal.S "self",MineH.Internal.S "begin",MineH.Internal.S "word",MineH.Internal.S "behind"],
 [MineH.Internal.S "self",MineH.Internal.S "begin",MineH.Internal.S "text"],
 [MineH.Internal.S "text"],
 [MineH.Internal.S "axis"],
 [MineH.Internal.S "text",MineH.Internal.S "prefix",MineH.Internal.S "colon",MineH.Internal.S "local"],
 [MineH.Internal.S "text",MineH.Internal.S "whole",MineH.Internal.S "point",MineH.Internal.S "part"],
 [MineH.Internal.S "self",MineH.Internal.S "words"],
 [MineH.Internal.S "self"],
 [MineH.Internal.S "self",MineH.Internal.S "word"],
 [MineH.Internal.S "self",MineH.Internal.S "message"],
 [MineH.Internal.S "self",MineH.Internal.S "text"],
 [MineH.Internal.S "self",MineH.Internal.S "found"],
 [MineH.Internal.S "self",MineH.Internal.S "least",MineH.Internal.S "found",MineH.Internal.S "level",MineH.Internal.S "many",MineH.Internal.S "op"],
 [MineH.Internal.S "self",MineH.Internal.S "many"],
 [MineH.Internal.S "self",MineH.Internal.S "word"],
 [MineH.Internal.S "self",MineH.Internal.S "many",MineH.Internal.S "found",MineH.Internal.S "turn"],
 [MineH.Internal.S "self",MineH.Internal.S "found",MineH.Internal.S "many"],
 [MineH.Internal.S "self",MineH.Internal.S "word"],
 [MineH.Internal.S "self",MineH.Internal.S "found",MineH.Internal.S "predicates"],
 [MineH.Internal.S "self",MineH.Internal.S "word",MineH.Internal.S "found"],
 [MineH.Internal.S "self",MineH.Internal.S "found"],
 [MineH.Internal.S "self",MineH.Internal.S "word"],
 [MineH.Internal.S "self",MineH.Internal.S "found"],
 [MineH.Internal.S "self",MineH.Internal.S "word",MineH.Internal.S "axis"],
 [MineH.Internal.S "self",MineH.Internal.S "word"],
 [MineH.Internal.S "self",MineH.Internal.S "word",MineH.Internal.S "target"],
 [MineH.Internal.S "self",MineH.Internal.S "found"],
 [MineH.Internal.S "text"],
 [MineH.Internal.S "node",MineH.Internal.S "levels"],
 [MineH.Internal.S "text"],
 [MineH.Internal.S "value",MineH.Internal.S "figures",MineH.Internal.S "shown",MineH.Internal.S "top",MineH.Internal.S "bottom"],
 [MineH.Internal.S "test"],
 [MineH.Internal.S "node",MineH.Internal.S "level",MineH.Internal.S "text"],
 [MineH.Internal.S "predicates",MineH.Internal.S "predicate"],
 [MineH.Internal.S "steps",MineH.Internal.S "step"],
 [MineH.Internal.S "node",MineH.Internal.S "level"],
 [MineH.Internal.S "node"],
 [MineH.Internal.S "node",MineH.Internal.S "argument"],
 [MineH.Internal.S "script",MineH.Internal.S "number",MineH.Internal.S "digits",MineH.Internal.S "mixed",MineH.Internal.S "size"],
 [MineH.Internal.S "source",MineH.Internal.S "top",MineH.Internal.S "drawn"],
 [MineH.Internal.S "source",MineH.Internal.S "things"],
 [MineH.Internal.S "source",MineH.Internal.S "way"],
 [MineH.Internal.S "source",MineH.Internal.S "depth",MineH.Internal.S "axes",MineH.Internal.S "along",MineH.Internal.S "tests"],
 [MineH.Internal.S "source",MineH.Internal.S "depth",MineH.Internal.S "most",MineH.Internal.S "turn"],
 [MineH.Internal.S "source",MineH.Internal.S "depth",MineH.Internal.S "way",MineH.Internal.S "start",MineH.Internal.S "ops",MineH.Internal.S "turn"],
 [MineH.Internal.S "source",MineH.Internal.S "pairs"],
 [MineH.Internal.S "source",MineH.Internal.S "ops",MineH.Internal.S "inner"],
 [MineH.Internal.S "text"],
 [MineH.Internal.S "script",MineH.Internal.S "source",MineH.Internal.S "node",MineH.Internal.S "odds",MineH.Internal.S "text",MineH.Internal.S "read",MineH.Internal.S "short",MineH.Internal.S "long"]]
noncomputable def namesT (f:Nat):List Str:=(namesTL[f]?).getD []
noncomputable def fnL:List (Str×Nat):=[(MineH.Internal.S "common_divisor",1),(MineH.Internal.S "sign_of",2),(MineH.Internal.S "number_of",3),(MineH.Internal.S "rows_of",4),(MineH.Internal.S "is_in_ranges",23),(MineH.Internal.S "is_space",24),(MineH.Internal.S "is_small_letter",25),(MineH.Internal.S "is_name_start",26),(MineH.Internal.S "is_name_char",27),(MineH.Internal.S "path_words",47),(MineH.Internal.S "any_step",48),(MineH.Internal.S "name_test",49),(MineH.Internal.S "number_value",50),(MineH.Internal.S "parse_path",72),(MineH.Internal.S "level_of",73),(MineH.Internal.S "quoted",74),(MineH.Internal.S "decimal_text",75),(MineH.Internal.S "test_text",76),(MineH.Internal.S "at_least",77),(MineH.Internal.S "predicates_text",78),(MineH.Internal.S "steps_text",79),(MineH.Internal.S "binary_text",80),(MineH.Internal.S "path_text",81),(MineH.Internal.S "write_path",82),(MineH.Internal.S "_law_pool",83),(MineH.Internal.S "_law_take",84),(MineH.Internal.S "_law_one",85),(MineH.Internal.S "_law_leaf",86),(MineH.Internal.S "_law_step",87),(MineH.Internal.S "_law_some",88),(MineH.Internal.S "_law_drawn",89),(MineH.Internal.S "_law_short",90),(MineH.Internal.S "_law_alike",91),(MineH.Internal.S "_law_is_none",92),(MineH.Internal.S "law",93)]
noncomputable def clL:List (Str×Nat):=[(MineH.Internal.S "Literal",0),(MineH.Internal.S "NumberNode",1),(MineH.Internal.S "VariableNode",2),(MineH.Internal.S "Call",3),(MineH.Internal.S "Binary",4),(MineH.Internal.S "Negated",5),(MineH.Internal.S "Filter",6),(MineH.Internal.S "Path",7),(MineH.Internal.S "Step",8),(MineH.Internal.S "Word",9),(MineH.Internal.S "PathScanner",10),(MineH.Internal.S "PathReader",11)]
noncomputable def mtL:List (Str×Nat):=[(MineH.Internal.S "add",0),(MineH.Internal.S "arguments",1),(MineH.Internal.S "axis",2),(MineH.Internal.S "counted",3),(MineH.Internal.S "expression",4),(MineH.Internal.S "figures",5),(MineH.Internal.S "from_primary",6),(MineH.Internal.S "go",7),(MineH.Internal.S "here",8),(MineH.Internal.S "is_behind_operand",9),(MineH.Internal.S "is_operator",10),(MineH.Internal.S "is_sign",11),(MineH.Internal.S "is_step",12),(MineH.Internal.S "level",13),(MineH.Internal.S "literal",14),(MineH.Internal.S "mark",15),(MineH.Internal.S "name",16),(MineH.Internal.S "need",17),(MineH.Internal.S "negated",18),(MineH.Internal.S "number",19),(MineH.Internal.S "one_step",20),(MineH.Internal.S "path",21),(MineH.Internal.S "plain_name",22),(MineH.Internal.S "predicates",23),(MineH.Internal.S "primary",24),(MineH.Internal.S "qualified",25),(MineH.Internal.S "refuse",26),(MineH.Internal.S "row",27),(MineH.Internal.S "run",28),(MineH.Internal.S "sign",29),(MineH.Internal.S "skip",30),(MineH.Internal.S "step",31),(MineH.Internal.S "steps",32),(MineH.Internal.S "test",33),(MineH.Internal.S "union",34),(MineH.Internal.S "variable",35),(MineH.Internal.S "whole",36)]
noncomputable def tlT:Tbl:=⟨fnL,clL,mtL⟩
noncomputable def glT:List (Str×Nat×Value):=[(MineH.Internal.S "__name__",165,(vs "law_nu0077_01" 1334)),(MineH.Internal.S "__doc__",166,vn),(MineH.Internal.S "__package__",167,vn),(MineH.Internal.S "__loader__",168,(vb "__main__.__loader__#opaque")),(MineH.Internal.S "__spec__",169,vn),(MineH.Internal.S "__annotations__",170,(vr 6)),(MineH.Internal.S "__builtins__",171,(vr 4)),(MineH.Internal.S "__file__",173,(vs "/claim/cut.py" 172)),(MineH.Internal.S "__cached__",174,vn),(MineH.Internal.S "MarkupError",217,(vr 31)),(MineH.Internal.S "PathFault",233,(vr 44)),(MineH.Internal.S "common_divisor",245,(vr 53)),(MineH.Internal.S "sign_of",252,(vr 60)),(MineH.Internal.S "number_of",262,(vr 68)),(MineH.Internal.S "rows_of",270,(vr 73)),(MineH.Internal.S "Literal",306,(vr 97)),(MineH.Internal.S "NumberNode",342,(vr 125)),(MineH.Internal.S "VariableNode",378,(vr 153)),(MineH.Internal.S "Call",416,(vr 181)),(MineH.Internal.S "Binary",456,(vr 209)),(MineH.Internal.S "Negated",492,(vr 237)),(MineH.Internal.S "Filter",530,(vr 265)),(MineH.Internal.S "Path",569,(vr 293)),(MineH.Internal.S "Step",609,(vr 321)),(MineH.Internal.S "SPACES",613,(vs " \t\n\x0d" 612)),(MineH.Internal.S "START_RANGES",638,(vr 338)),(MineH.Internal.S "MORE_RANGES",645,(vr 342)),(MineH.Internal.S "FIRST_BEYOND",647,(vi (128) 646)),(MineH.Internal.S "is_in_ranges",657,(vr 349)),(MineH.Internal.S "is_space",664,(vr 356)),(MineH.Internal.S "is_small_letter",671,(vr 363)),(MineH.Internal.S "is_name_start",678,(vr 370)),(MineH.Internal.S "is_name_char",685,(vr 377)),(MineH.Internal.S "FIGURES",689,(vs "0123456789" 688)),(MineH.Internal.S "PAIRS",696,(vr 378)),(MineH.Internal.S "OPERATORS",708,(vr 379)),(MineH.Internal.S "SIGNS",718,(vr 380)),(MineH.Internal.S "WORD_OPERATORS",723,(vr 381)),(MineH.Internal.S "KINDS_OF_NODES",728,(vr 382)),(MineH.Internal.S "BEHIND_NO_OPERAND",734,(vr 383)),(MineH.Internal.S "Word",790,(vr 421)),(MineH.Internal.S "PathScanner",941,(vr 541)),(MineH.Internal.S "path_words",948,(vr 552)),(MineH.Internal.S "MOST_DEPTH",952,(vi (50) 951)),(MineH.Internal.S "AXES",966,(vr 553)),(MineH.Internal.S "LEVELS",1006,(vr 554)),(MineH.Internal.S "PRIMARY_KINDS",1011,(vr 555)),(MineH.Internal.S "any_step",1018,(vr 562)),(MineH.Internal.S "name_test",1028,(vr 569)),(MineH.Internal.S "number_value",1038,(vr 576)),(MineH.Internal.S "PathReader",1239,(vr 733)),(MineH.Internal.S "parse_path",1246,(vr 744)),(MineH.Internal.S "UNARY_LEVEL",1250,(vi (7) 1249)),(MineH.Internal.S "UNION_LEVEL",1252,(vi (8) 1251)),(MineH.Internal.S "PATH_LEVEL",1254,(vi (9) 1253)),(MineH.Internal.S "FILTER_LEVEL",1256,(vi (10) 1255)),(MineH.Internal.S "PRIMARY_LEVEL",1258,(vi (11) 1257)),(MineH.Internal.S "level_of",1266,(vr 751)),(MineH.Internal.S "quoted",1273,(vr 758)),(MineH.Internal.S "decimal_text",1284,(vr 765)),(MineH.Internal.S "test_text",1291,(vr 772)),(MineH.Internal.S "at_least",1300,(vr 779)),(MineH.Internal.S "predicates_text",1306,(vr 784)),(MineH.Internal.S "steps_text",1312,(vr 789)),(MineH.Internal.S "binary_text",1320,(vr 796)),(MineH.Internal.S "path_text",1327,(vr 803)),(MineH.Internal.S "write_path",1333,(vr 808)),(MineH.Internal.S "_law_pool",1346,(vr 815)),(MineH.Internal.S "_law_take",1355,(vr 822)),(MineH.Internal.S "_law_one",1363,(vr 829)),(MineH.Internal.S "_law_leaf",1371,(vr 836)),(MineH.Internal.S "_law_step",1382,(vr 843)),(MineH.Internal.S "_law_some",1388,(vr 848)),(MineH.Internal.S "_law_drawn",1394,(vr 853)),(MineH.Internal.S "_law_short",1402,(vr 860)),(MineH.Internal.S "_law_alike",1411,(vr 867)),(MineH.Internal.S "_law_is_none",1418,(vr 874)),(MineH.Internal.S "law",1432,(vr 881))]
noncomputable def lvT:List (Str×Nat×Value):=[(MineH.Internal.S "or",967,(vi (1) 968)),(MineH.Internal.S "and",969,(vi (2) 970)),(MineH.Internal.S "=",971,(vi (3) 972)),(MineH.Internal.S "!=",973,(vi (3) 974)),(MineH.Internal.S "<",975,(vi (4) 976)),(MineH.Internal.S "<=",977,(vi (4) 978)),(MineH.Internal.S ">",979,(vi (4) 980)),(MineH.Internal.S ">=",981,(vi (4) 982)),(MineH.Internal.S "+",983,(vi (5) 984)),(MineH.Internal.S "-",985,(vi (5) 986)),(MineH.Internal.S "*",987,(vi (6) 988)),(MineH.Internal.S "div",989,(vi (6) 990)),(MineH.Internal.S "mod",991,(vi (6) 992))]
noncomputable def nsL43:List (Str×Nat×Value):=[(MineH.Internal.S "__module__",225,(vs "markupmill.errors" 187)),(MineH.Internal.S "__firstlineno__",229,(vi (7) 228)),(MineH.Internal.S "__static_attributes__",230,(vr 42)),(MineH.Internal.S "__doc__",231,vn)]
noncomputable def nsL30:List (Str×Nat×Value):=[(MineH.Internal.S "__module__",196,(vs "markupmill.errors" 187)),(MineH.Internal.S "__firstlineno__",200,(vi (2) 199)),(MineH.Internal.S "__init__",208,(vr 28)),(MineH.Internal.S "__static_attributes__",210,(vr 29)),(MineH.Internal.S "__weakref__",212,(vr 32)),(MineH.Internal.S "__doc__",213,vn)]
noncomputable def KL (P:Params):Frag:=[(97,o97 P),(96,o96 P),(125,o125 P),(124,o124 P),(153,o153 P),(152,o152 P),(181,o181 P),(180,o180 P),(209,o209 P),(208,o208 P),(237,o237 P),(236,o236 P),(265,o265 P),(264,o264 P),(293,o293 P),(292,o292 P),(321,o321 P),(320,o320 P),(421,o421 P),(420,o420 P),(541,o541 P),(540,o540 P),(733,o733 P),(732,o732 P),(44,o44 P),(43,o43 P),(31,o31 P),(30,o30 P),(28,o28 P),(53,o53 P),(60,o60 P),(68,o68 P),(73,o73 P),(87,o87 P),(94,o94 P),(115,o115 P),(122,o122 P),(143,o143 P),(150,o150 P),(171,o171 P),(178,o178 P),(199,o199 P),(206,o206 P),(227,o227 P),(234,o234 P),(255,o255 P),(262,o262 P),(283,o283 P),(290,o290 P),(311,o311 P),(318,o318 P),(349,o349 P),(356,o356 P),(363,o363 P),(370,o370 P),(377,o377 P),(397,o397 P),(404,o404 P),(411,o411 P),(418,o418 P),(439,o439 P),(447,o447 P),(454,o454 P),(461,o461 P),(468,o468 P),(475,o475 P),(482,o482 P),(489,o489 P),(496,o496 P),(503,o503 P),(510,o510 P),(517,o517 P),(524,o524 P),(531,o531 P),(538,o538 P),(552,o552 P),(562,o562 P),(569,o569 P),(576,o576 P),(590,o590 P),(597,o597 P),(604,o604 P),(611,o611 P),(618,o618 P),(625,o625 P),(632,o632 P),(639,o639 P),(646,o646 P),(653,o653 P),(660,o660 P),(667,o667 P),(674,o674 P),(681,o681 P),(688,o688 P),(695,o695 P),(702,o702 P),(709,o709 P),(716,o716 P),(723,o723 P),(730,o730 P),(744,o744 P),(751,o751 P),(758,o758 P),(765,o765 P),(772,o772 P),(779,o779 P),(784,o784 P),(789,o789 P),(796,o796 P),(803,o803 P),(808,o808 P),(815,o815 P),(822,o822 P),(829,o829 P),(836,o836 P),(843,o843 P),(848,o848 P),(853,o853 P),(860,o860 P),(867,o867 P),(874,o874 P),(881,o881 P)]
theorem zj7 (P:Params):(KL P).map (fun p=>(TT P).get p.1)=(KL P).map fun p=>some p.2:=by kernel_rfl
theorem KL_ok (P:Params):(KL P).all (fun p=>Nat.blt p.1 882 && !p.2.isFreed)=true:=by kernel_rfl
theorem KL_in (P:Params):(KL P).In (H1 P):=by
 refine Frag.in_of (as:=(KL P).map (·.1)) rfl ?_
 rw [List.map_map]
 refine List.map_inj_left.mpr fun p hp=>?_
 have h:=List.all_eq_true.mp (KL_ok P) p hp
 rw [Bool.and_eq_true] at h
 exact z1v h.1 (z1c (zj7 P) p hp) (by simpa using h.2)
theorem o3_is (P:Params):(TT P).get 3=some (o3 P 78 "law_nu0077_01" 1334 78):=by kernel_rfl
theorem zgf (P:Params):(o3 P 78 "law_nu0077_01" 1334 78).data = .dict (entriesOf P glT).toArray 78:=by kernel_rfl
theorem lv_is (P:Params):(TT P).get 554=some (o554 P):=by kernel_rfl
theorem zgg (P:Params):(o554 P).data = .dict (entriesOf P lvT).toArray 13:=by kernel_rfl
noncomputable def mgF:Str→Option Value:=sLook (valsOf glT)
theorem mg_ns (P:Params):(H1 P).Ns mainGlobals mgF:=ns_of (z1v (by kernel_rfl) (o3_is P) (by kernel_rfl)) (zgf P)
noncomputable def okF (P:Params) (f:Nat):Bool:=match fnT f with
 | some F=>fnB tabs tlT (TT P) (faT f) F (namesT f)
 | Option.none=>true
theorem zgh (P:Params):(List.range 100).all (okF P)=true:=by kernel_rfl
theorem zj8 {f:Nat} {F:Fn} (h:fnT f=some F):f < 100:=by
 have q:fnTL[f / 10]? ≠ Option.none:=fun q=>by
  have h:(fnTL[f / 10]?).bind (fun l=>l[f % 10]?)=some F:=h
  rw [q] at h;cases h
 have l:f / 10 < 10:=by
  by_cases l:f / 10 < 10
  ·exact l
  ·exact absurd (List.getElem?_eq_none (show fnTL.length≤f / 10 from Nat.le_of_not_lt l)) q
 omega
theorem zj9 (P:Params):∀ f F,fnT f=some F→fnB tabs tlT (TT P) (faT f) F (namesT f)=true:=fun f F h=>by
 have q:=List.all_eq_true.mp (zgh P) f (List.mem_range.mpr (zj8 h))
 unfold okF at q
 rwa [h] at q
end
end Mine.Internal
namespace Mine.Internal
open PySem PySem.W PySem.Calls PyProof.Rows PySem.SeqAt PySem.StrLaws MineH.Internal
noncomputable section
variable [PH]
variable (P:Params)
theorem zgi:∀ c,c < 12→CmpIs (KL P) (caddr c):=fun c hc=>
 ⟨z0b (f:=fun c=>mroIn (KL P) (caddr c) (.type "object")) (v:=some true) (n:=12) (by kernel_rfl) c hc,
  z0b (f:=fun c=>findIn (KL P) (.ref (caddr c)) "__eq__") (v:=some (some (.builtin "object.__eq__"))) (n:=12) (by kernel_rfl) c hc,
  z0b (f:=fun c=>findIn (KL P) (.ref (caddr c)) "__ne__") (v:=some (some (.builtin "object.__ne__"))) (n:=12) (by kernel_rfl) c hc,
  z0b (f:=fun c=>subIn (KL P) (.type "str") (.ref (caddr c))) (v:=some false) (n:=12) (by kernel_rfl) c hc⟩
theorem za9:((List.range 12).flatMap fun c=>(fieldsOf c).map fun f=>findIn (KL P) (.ref (caddr c)) (aname f))=((List.range 12).flatMap fun c=>(fieldsOf c).map fun f=>(some none:Option (Option Value))):=by kernel_rfl
theorem z24 {α β:Type} {g:Nat→List α} {f f':Nat→α→β}:∀ {l:List Nat},(l.flatMap fun c=>(g c).map (f c))=(l.flatMap fun c=>(g c).map (f' c))→∀ c∈l,∀ x∈g c,f c x=f' c x
 | [],_,_,h,_,_=>nomatch h
 | d :: l,e,c,hc,x,hx=>by
  rw [List.flatMap_cons,List.flatMap_cons] at e
  have hl:((g d).map (f d)).length=((g d).map (f' d)).length:=by simp
  obtain ⟨e1,e2⟩:=List.append_inj e hl
  rcases List.mem_cons.mp hc with rfl | hc
  ·exact List.map_inj_left.mp e1 x hx
  ·exact z24 e2 c hc x hx
theorem zaa:((List.range 12).all fun c=>(fieldsOf c).all fun f=>(fieldsOf c).all fun g=>!PySem.W.Fast.sEq (aname g) (aname f) || Nat.beq g f)=true:=by kernel_rfl
theorem zgj:∀ c,c < 12→ClsOk (KL P) c:=fun c hc=>
 ⟨⟨z0b (f:=fun c=>findIn (KL P) (.ref (caddr c)) "__getattribute__") (v:=some (some (.builtin "object.__getattribute__"))) (n:=12) (by kernel_rfl) c hc,
  z0b (f:=fun c=>findIn (KL P) (.ref (caddr c)) "__getattr__") (v:=some none) (n:=12) (by kernel_rfl) c hc⟩,
  z0b (f:=fun c=>hasDictIn (KL P) (caddr c)) (v:=true) (n:=12) (by kernel_rfl) c hc,
  fun f hf=>z24 (g:=fieldsOf) (f:=fun c f=>findIn (KL P) (.ref (caddr c)) (aname f)) (f':=fun c f=>some none) (za9 P) c (List.mem_range.mpr hc) f hf,
  fun f hf g hg e=>by
  have h:=List.all_eq_true.mp (List.all_eq_true.mp (List.all_eq_true.mp zaa c (List.mem_range.mpr hc)) f hf) g hg
  rw [Bool.or_eq_true,PySem.W.Fast.sEq_iff.mpr e] at h
  rcases h with h | h
  ·cases h
  ·exact Nat.beq_eq.mp h⟩
theorem zgk:∀ c,c < 12→SetOk (KL P) c:=fun c hc=>
 ⟨z0b (f:=fun c=>findIn (KL P) (.ref (caddr c)) "__setattr__") (v:=some (some (.builtin "object.__setattr__"))) (n:=12) (by kernel_rfl) c hc,
  z0b (f:=fun c=>plainOver (KL P) (caddr c)) (v:=true) (n:=12) (by kernel_rfl) c hc⟩
theorem zab:((List.range 12).flatMap fun c=>(List.range 12).map fun k=>Nat.beq c k || kin_not (KL P) (caddr c) (caddr k))=((List.range 12).flatMap fun c=>(List.range 12).map fun k=>true):=by kernel_rfl
theorem zgl:IsiOk (KL P) :=
 ⟨fun c hc=>z0b (f:=fun c=>isIn (KL P) (.ref (caddr c)) (caddr c)) (v:=true) (n:=12) (by kernel_rfl) c hc,
  fun c k hc hk hne=>by
  have h:=z24 (g:=fun _=>List.range 12) (f:=fun c k=>Nat.beq c k || kin_not (KL P) (caddr c) (caddr k)) (f':=fun _ _=>true) (zab P) c (List.mem_range.mpr hc) k (List.mem_range.mpr hk)
  rw [Bool.or_eq_true] at h
  rcases h with h | h
  ·exact absurd (Nat.beq_eq.mp h) hne
  ·exact h,
  fun c hc=>z0b (f:=fun c=>findIn (KL P) (.ref (caddr c)) "__class__") (v:=some (some (.builtin "object.__class__"))) (n:=12) (by kernel_rfl) c hc,
  by kernel_rfl,by kernel_rfl⟩
theorem zc6:(fnL.map fun p=>(mgF p.1,keepIn (KL P) (.ref (faT p.2)),okName p.1))=fnL.map fun p=>(some (.ref (faT p.2)),true,true):=by kernel_rfl
theorem zc7:(clL.map fun p=>(mgF p.1,keepIn (KL P) (.ref (caddr p.2)),okName p.1,Nat.blt p.2 12))=clL.map fun p=>(some (.ref (caddr p.2)),true,true,true):=by kernel_rfl
noncomputable def initL:List (Nat×Nat):=(List.range 12).filterMap fun k=>(initT k).map fun f=>(k,f)
theorem z7n:(initL.map fun p=>(makesIn (KL P) (caddr p.1),findIn (KL P) (.ref (caddr p.1)) "__init__",typeIn (KL P) (.ref (faT p.2)),keepIn (KL P) (.ref (caddr p.1))))=initL.map fun p=>(true,some (some (.ref (faT p.2))),some (.type "function"),true):=by kernel_rfl
theorem zc8:∀ k f,k < 12→tabs.init k=some f→MakeIs (KL P) faT k f:=fun k f hk h=>by
 have hm:(k,f)∈initL:=List.mem_filterMap.mpr ⟨k,List.mem_range.mpr hk,by
  have h':initT k=some f:=h
  rw [h'];rfl⟩
 have e:=z1c (z7n P) _ hm
 simp only [Prod.mk.injEq] at e
 exact ⟨e.1,e.2.1,e.2.2.1,e.2.2.2⟩
noncomputable def methL:List (Str×Nat×Nat):=mtL.flatMap fun p=>(List.range 12).filterMap fun c=>(methT c p.2).map fun f=>(p.1,c,f)
theorem z7o:(methL.map fun p=>(findIn (KL P) (.ref (caddr p.2.1)) p.1,isFn (KL P) (.ref (faT p.2.2)),keepIn (KL P) (.ref (faT p.2.2)),(fieldsOf p.2.1).all fun g=>!PySem.W.Fast.sEq (aname g) p.1))=methL.map fun p=>(some (some (.ref (faT p.2.2))),true,true,true):=by kernel_rfl
theorem zgm:∀ c m f,methT c m=some f→c < 12:=fun c m f h=>by
 by_cases l:c < 12
 ·exact l
 ·have h:(methTL[c]?).bind (fun l=>tblAt l m)=some f:=h
  rw [List.getElem?_eq_none (show methTL.length≤c from Nat.le_of_not_lt l)] at h
  cases h
theorem zc9:∀ x m,sLook tlT.meth x=some m→∀ c f,tabs.meth c m=some f→MethIs (KL P) faT x c f:=fun x m hx c f h=>by
 have h':methT c m=some f:=h
 have hc:=zgm c m f h'
 have hm:(x,c,f)∈methL:=List.mem_flatMap.mpr ⟨(x,m),z0p hx,List.mem_filterMap.mpr ⟨c,List.mem_range.mpr hc,by rw [h'];rfl⟩⟩
 have e:=z1c (z7o P) _ hm
 simp only [Prod.mk.injEq] at e
 refine ⟨hc,e.1,e.2.1,e.2.2.1,fun g hg q=>?_⟩
 have:=List.all_eq_true.mp e.2.2.2 g hg
 rw [PySem.W.Fast.sEq_iff.mpr q] at this;cases this
theorem zca:(bname.map fun p=>(mgF p.1,okName p.1))=bname.map fun p=>(none,true):=by kernel_rfl
theorem zgn:(bname.map fun p=>bootBuiltins p.1)=bname.map fun p=>some (bval p.2):=by kernel_rfl
theorem zcb:(bname.map fun p=>PySem.W.Fast.sEq p.1 (Str.ofString "__name__"))=bname.map fun p=>false:=by kernel_rfl
theorem zja {mb:Str→Option Value} (hb:∀ x:Str,x ≠ "__name__"→mb x=bootBuiltins x):TblOk (KL P) mgF mb faT tabs tlT where
 call:=fun x f h=>by
  have e:=z1c (zc6 P) _ (z0p h)
  simp only [Prod.mk.injEq] at e
  exact ⟨e.1,e.2.1,z1b e.2.2⟩
 new:=fun x k h=>by
  have e:=z1c (zc7 P) _ (z0p h)
  simp only [Prod.mk.injEq] at e
  have hk:k < 12:=Nat.blt_eq.mp e.2.2.2
  exact ⟨hk,e.1,e.2.1,z1b e.2.2.1,fun f hf=>zc8 P k f hk hf⟩
 blt:=fun x b h=>by
  have e:=z1c zca _ (z0p h)
  have e2:=z1c zgn _ (z0p h)
  have e3:=z1c zcb _ (z0p h)
  simp only [Prod.mk.injEq] at e
  refine ⟨e.1,?_,z1b e.2⟩
  rw [hb x fun q=>?_]
  ·exact e2
  ·simp only at e3
   rw [PySem.W.Fast.sEq_iff.mpr q] at e3;cases e3
 meth:=zc9 P
 isi:=⟨by kernel_rfl,by rw [hb _ (by decide)];kernel_rfl⟩
 rng:=⟨by kernel_rfl,by rw [hb _ (by decide)];kernel_rfl⟩
 pf:=by kernel_rfl
end
end Mine.Internal
namespace Mine.Internal
open PySem PySem.W PySem.Calls PyProof.Rows PySem.SeqAt PySem.StrLaws MineH.Internal
noncomputable section
noncomputable abbrev phW (w:World):PH:=⟨fun Z a kvs=>Z.DictOf (PySem.strKind pw w) a kvs,fun k h=>h.keep k⟩
noncomputable def globB (P:Params) (p:Str×Nat):Bool:=okName p.1 && (match mgF p.1,globT p.2 with
 | some v,some t=>Nat.beq p.2 11 || repB (TT P) 3 t v
 | _,_=>false)
section
variable [PH]
theorem z7p (P:Params):gname.all (globB P)=true:=by kernel_rfl
end
noncomputable def keyedB (l:List (List Nat×Int)) (kvs:List (Str×Value)):Bool:=match l with
 | []=>l0 kvs
 | f :: fs=>lc kvs fun e es=>PySem.W.Fast.sEq e.1 (mkS f.1) && onI e.2 (fun i=>decide (i=f.2)) && keyedB fs es
theorem zac {l:List (List Nat×Int)}:∀ {kvs:List (Str×Value)},keyedB l kvs=true→KeyedD l kvs:=by
 induction l with
 | nil=>intro kvs h;rw [l0_i h];trivial
 | cons f fs ih=>
  intro kvs h
  obtain ⟨e,es,rfl,q⟩:=lc_i h
  obtain ⟨h1,h2,h3⟩:=a3 q
  obtain ⟨i,u,e2,h4⟩:=onI_i h2
  exact ⟨⟨PySem.W.Fast.sEq_iff.mp h1,u,by rw [e2,of_decide_eq_true h4]⟩,ih h3⟩
noncomputable def lvD:List (List Nat×Int):=match globT 11 with
 | some (.dict l)=>l
 | _=>[]
theorem zcc:keyedB lvD (valsOf lvT)=true:=by kernel_rfl
theorem lv_t:globT 11=some (.dict lvD):=rfl
theorem lv_nd:sNodup (lvT.map (·.1))=true:=by kernel_rfl
theorem lv_mg:mgF (Str.ofString "LEVELS")=some (.ref 554):=by kernel_rfl
theorem zcd:(gname.all fun p=>!Nat.beq p.2 11 || PySem.W.Fast.sEq p.1 (Str.ofString "LEVELS"))=true:=by kernel_rfl
theorem zce (w:World) {Z:Heap} (k:Sub (H1 w.params) Z):∀ x g t,sLook gname x=some g→tabs.glob g=some t→(x == ("__debug__" : Str))=false∧∃ v,mgF x=some v ∧ @RepT (phW w) Z t v:=by
 letI:=phW w
 intro x g t hx ht
 have ht':globT g=some t:=ht
 have hm:=z0p hx
 have h:=List.all_eq_true.mp (z7p w.params) _ hm
 unfold globB at h
 rw [Bool.and_eq_true] at h
 refine ⟨z1b h.1,?_⟩
 have h2:=h.2
 simp only [ht'] at h2
 split at h2
 ·rename_i v t' ev et
  injection et with et
  subst et
  refine ⟨v,ev,?_⟩
  rw [Bool.or_eq_true] at h2
  rcases h2 with h2 | h2
  ·have hg:g = 11:=Nat.beq_eq.mp h2
   subst hg
   have h3:=List.all_eq_true.mp zcd _ hm
   rw [Bool.or_eq_true] at h3
   have hx':x=Str.ofString "LEVELS":=by
    rcases h3 with h3 | h3
    ·cases h3
    ·exact PySem.W.Fast.sEq_iff.mp h3
   subst hx'
   rw [lv_mg] at ev
   injection ev with ev
   subst ev
   rw [lv_t] at ht'
   injection ht' with ht'
   subst ht'
   have hget:(H1 w.params).get? 554=some (o554 w.params):=z1v (by kernel_rfl) (lv_is _) (by kernel_rfl)
   have hd:(H1 w.params).DictOf (PySem.strKind pw w) 554 (valsOf lvT):=za6 hget ⟨rfl,rfl,rfl⟩ (zgg _) (z58 lv_nd)
   exact ⟨554,valsOf lvT,rfl,hd.keep k,zac zcc,by decide⟩
  ·exact RepT.mono k (za8 h2)
 ·cases h2
noncomputable def isNm (e:Expr) (x:Str):Bool:=Nat.beq (vw e).tag 2 && PySem.W.Fast.sEq (vw e).s x
theorem z59 {e:Expr} {x:Str} (h:isNm e x=true):e = .Name x (vw e).p:=by
 have q:e = .Name (vw e).s (vw e).p:=vw_t (a2 h).1
 rwa [PySem.W.Fast.sEq_iff.mp (a2 h).2] at q
noncomputable def bodyI (l:List Stmt):Bool:=l2v l fun s1 s2=>(Nat.beq (sw s1).tag 2 && Nat.beq (vw (sw s1).a).tag 14 && l0 (vw (sw s1).a).kw && l2v (vw (sw s1).a).es (fun a b=>isNm a selfName && isNm b msgName) && ((vw (vw (sw s1).a).a).p.endLine == (vw (sw s1).a).p.line)) &&
 (Nat.beq (vw (vw (sw s1).a).a).tag 5 && PySem.W.Fast.sEq (vw (vw (sw s1).a).a).s initName && isNm (vw (vw (sw s1).a).a).a excName) &&
 (Nat.beq (sw s2).tag 1 && l1 (sw s2).ts (fun y=>Nat.beq (vw y).tag 5 && PySem.W.Fast.sEq (vw y).s msgName && isNm (vw y).a selfName) && isNm (sw s2).a msgName)
theorem zgo {l:List Stmt} (h:bodyI l=true):∃ p1 p2 p3 p4 p5 p6 p7 p8 p9 p10,l=[.Expr (.Call (.Attribute (.Name excName p1) initName p2) [.Name selfName p3,.Name msgName p4] [] p5) p6,.Assign [.Attribute (.Name selfName p7) msgName p8] (.Name msgName p9) p10]∧(p2.endLine == p5.line)=true:=by
 obtain ⟨s1,s2,e,h⟩:=l2v_i h
 obtain ⟨h1,h2,h3⟩:=a3 h
 obtain ⟨q1,q2,q3,q4,q5⟩:=a5 h1
 obtain ⟨r1,r2,r3⟩:=a3 h2
 obtain ⟨t1,t2,t3⟩:=a3 h3
 obtain ⟨a,b,e1,q6⟩:=l2v_i q4
 obtain ⟨y,e2,t4⟩:=l1_i t2
 obtain ⟨t5,t6,t7⟩:=a3 t4
 have x1:s1 = .Expr (sw s1).a (sw s1).p:=sw_t q1
 have x2:(sw s1).a = .Call (vw (sw s1).a).a (vw (sw s1).a).es (vw (sw s1).a).kw (vw (sw s1).a).p:=vw_t q2
 have x3:(vw (sw s1).a).a = .Attribute (vw (vw (sw s1).a).a).a (vw (vw (sw s1).a).a).s (vw (vw (sw s1).a).a).p:=vw_t r1
 have x4:s2 = .Assign (sw s2).ts (sw s2).a (sw s2).p:=sw_t t1
 have x5:y = .Attribute (vw y).a (vw y).s (vw y).p:=vw_t t5
 rw [PySem.W.Fast.sEq_iff.mp r2,z59 r3] at x3
 rw [e1,z59 (a2 q6).1,z59 (a2 q6).2,l0_i q3] at x2
 rw [PySem.W.Fast.sEq_iff.mp t6,z59 t7] at x5
 rw [e2,x5,z59 t3] at x4
 have x6:=x1.trans (congrArg (fun z=>Stmt.Expr z (sw s1).p) (x2.trans (congrArg (fun z=>Expr.Call z _ [] _) x3)))
 exact ⟨_,_,_,_,_,_,_,_,_,_,e.trans (congrArg (fun z=>[z,s2]) x6 |>.trans (congrArg (fun z=>[_,z]) x4)),q5⟩
noncomputable def initF (P:Params) (fd:FuncData) (l:List Stmt):Bool:=(codeB (TT P) fd.code fd.qualname && fd.closure.isEmpty && fd.params.posonlyargs.isEmpty && fd.params.kwonlyargs.isEmpty && fd.params.vararg.isNone && fd.params.kwarg.isNone) && (sEqs (fd.params.args.map (·.arg)) [selfName,msgName] &&
  decide (fd.scope.kind = .function) && !fd.scope.isGenerator && !fd.scope.isCoroutine && Nat.beq fd.globals 3) && (Nat.beq fd.builtins 0 &&
  sEqs (fd.scope.names.map (·.1)) [selfName,msgName,excName] && decide (fd.scope.names.map (·.2)=[.local,.local,.globalImplicit]) && bodyI l)
noncomputable def fd28 (P:Params):FuncData:=match (o28 P).data with
 | .func fd=>fd
 | _=>⟨⟨#[]⟩,⟨#[]⟩,⟨[],[],none,[],[],none,[]⟩,.stmts [],pw.main.scope,0,[],.none,.none,.none,.none,none,.none,.none,0⟩
noncomputable def bd28 (P:Params):List Stmt:=match (fd28 P).body with
 | .stmts l=>l
 | _=>[]
theorem zcf {l:List (Str×NameKind)} {a:List Str} {b:List NameKind} (h1:l.map (·.1)=a) (h2:l.map (·.2)=b):l=a.zip b:=by
 subst h1 h2
 induction l with
 | nil=>rfl
 | cons x l ih=>simp only [List.map_cons,List.zip_cons_cons];rw [← ih]
theorem init28 (P:Params):initF P (fd28 P) (bd28 P)=true:=by kernel_rfl
theorem zcg (w:World) {Z:Heap} (k:Sub (H1 w.params) Z) {mb:Str→Option Value} (hb:∀ x:Str,x ≠ "__name__"→mb x=bootBuiltins x):FaultOk Z (KL w.params) mgF mb where
 c44:=⟨MineH.Internal.S "PathFault",MineH.Internal.S "PathFault",[vr 31],[],[],false,none,none,some (vr 35),none,some (vs "PathFault" 218),some (vs "PathFault" 226),some vT,
  k _ _ (z1v (P:=w.params) (o:=o44 w.params) (by kernel_rfl) (by kernel_rfl) (by kernel_rfl))⟩
 c31:=⟨MineH.Internal.S "MarkupError",MineH.Internal.S "MarkupError",[vt "Exception"],true,[],[vr 44],false,none,none,some (vr 15),none,some (vs "MarkupError" 189),some (vs "MarkupError" 197),some vT,
  k _ _ (z1v (P:=w.params) (o:=o31 w.params) (by kernel_rfl) (by kernel_rfl) (by kernel_rfl))⟩
 n43:=by
  letI:=phW w
  exact ⟨sLook (valsOf nsL43),(ns_of (P:=w.params) (n:=2) (z1v (P:=w.params) (o:=o43 w.params) (by kernel_rfl) (by kernel_rfl) (by kernel_rfl)) (by kernel_rfl)).keeps k,by kernel_rfl,by kernel_rfl,by kernel_rfl⟩
 n30:=by
  letI:=phW w
  exact ⟨sLook (valsOf nsL30),(ns_of (P:=w.params) (n:=3) (z1v (P:=w.params) (o:=o30 w.params) (by kernel_rfl) (by kernel_rfl) (by kernel_rfl)) (by kernel_rfl)).keeps k,by kernel_rfl,by kernel_rfl,by kernel_rfl⟩
 fn:=by
  letI:=phW w
  have hget:(H1 w.params).get? 28=some (o28 w.params):=z1v (by kernel_rfl) (by kernel_rfl) (by kernel_rfl)
  obtain ⟨g1,g2,g3⟩:=a3 (init28 w.params)
  obtain ⟨c1,c2,c3,c4,c5,c6⟩:=a6 g1
  obtain ⟨c7,c9,c10,c11,c12⟩:=a5 g2
  obtain ⟨c13,c14,c15,c16⟩:=a4 g3
  obtain ⟨p1,p2,p3,p4,p5,p6,p7,p8,p9,p10,eb,e8⟩:=zgo c16
  have eb':(fd28 w.params).body = .stmts (bd28 w.params):=by kernel_rfl
  rw [eb] at eb'
  exact ⟨_,fd28 w.params,p1,p2,p3,p4,p5,p6,p7,p8,p9,p10,k _ _ hget,by kernel_rfl,by kernel_rfl,(z70 c1).keeps k,List.isEmpty_iff.mp c2,eb',e8,List.isEmpty_iff.mp c3,List.isEmpty_iff.mp c4,Option.isNone_iff_eq_none.mp c5,Option.isNone_iff_eq_none.mp c6,z65 c7,by kernel_rfl,zcf (z65 c14) (of_decide_eq_true c15),of_decide_eq_true c9,nb c10,nb c11,Nat.beq_eq.mp c12,Nat.beq_eq.mp c13⟩
 g:=by kernel_rfl
 b:=by rw [hb _ (by decide)];kernel_rfl
 find:=by kernel_rfl
 keep:=by kernel_rfl
end
end Mine.Internal
namespace Mine.Internal
open PySem PySem.W PySem.Calls PyProof.Rows PySem.SeqAt PySem.StrLaws MineH.Internal
noncomputable section
noncomputable abbrev rowL:OpenRow:=PySem.Challenge.rw_nu0077_01.row
noncomputable def dLaw:DefRec:=match stT 76 with
 | .FunctionDef n a b _ _ _ sc _ _ p=>⟨n,a,b,sc,p⟩
 | _=>⟨Str.ofString "",⟨[],[],none,[],[],none,[]⟩,[],pw.main.scope,⟨0,0,0,0⟩⟩
theorem zch:dLaw.name=Str.ofString "law":=by kernel_rfl
section
variable [PH]
theorem zjb:mgF (Str.ofString "law")=some (.ref 881):=by kernel_rfl
end
theorem zgp {P:Params} {h:Heap} {xs:List WData}:∀ {vs:List Value},WShape.hasItems [] xs .int=true→WellAll P h vs xs→∃ ns:List Int,IntsRep ns vs:=by
 induction xs with
 | nil=>
  intro vs _ w
  cases w with
  | nil=>exact ⟨[],trivial⟩
 | cons d xs ih=>
  intro vs hs w
  have hs:(WShape.has [] d .int && WShape.hasItems [] xs .int)=true:=hs
  cases w with
  | cons w r=>
   obtain ⟨ns,h⟩:=ih (a2 hs).2 r
   have h0:=(a2 hs).1
   cases w with
   | int i t=>exact ⟨i :: ns,⟨t,rfl⟩,h⟩
   | _=>exact Bool.noConfusion h0
theorem zjc [PH] (h:Heap):WS h [] [] [] h:=by
 constructor
 ·exact Sub.refl _
 ·rfl
 ·intro i mo sa e
  simp at e
 ·intro p hp;cases hp
 ·exact List.nodup_nil
 ·intro a ha;simp [addrs] at ha
theorem walk_law (pl:∀ ns:List Int,∃ W σ',runF PG W 150 93 [.t (.lst ns)] [] = .ok (.t (.bool true)) σ'):rowL.Holds:=by
 refine holds_open (q:=view0) (loose:=looseN) (Xt:=Xt0) (XP:=XL view0 []) (Yf:=fun s=>s.heap) (Ya:=fun w=>H1 w.params) (YP:=fun w h=>Sub (H1 w.params) h) (N:=13000) (d:=dLaw) (kwd:=[])
  left0 (fun w s e=>by rw [← e];exact Sub.refl _) (fun w h h' y k=>y.trans k) (fun s e=>xl_of s (Bool.and_eq_true_iff.mp e).1) XL.keeps (by kernel_rfl) (by kernel_rfl) (by kernel_rfl) (fun s e=>recFacts_of (Bool.and_eq_true_iff.mp e).2) rfl
  (row_said law_said) (by decide +kernel) ⟨rfl,rfl,rfl,rfl,rfl,by decide +kernel⟩ ?hw ?hc
 case hw=>exact ⟨[.list []],by decide +kernel,by decide +kernel⟩
 case hc=>
  intro w s₀ s₁ mg mb G Y fa o pm cd doc dV kV ho hd hcd hD hmg hg args vals as hpre hlay hrd hwl hlo
  letI:=phW w
  have emg:mg=mgF:=zge G.T.g ((mg_ns w.params).keeps Y)
  subst emg
  rw [zch,zjb] at hmg
  injection hmg with hmg
  injection hmg with hmg
  subst hmg
  have hsh:=(pre_splitW hpre).1
  obtain ⟨al,vs,ns,evals,hget,hints⟩:∃ al vs ns,vals=[.ref al]∧s₁.heap.get? al=some { cls:= .type "list",data:= .seq vs.toArray }∧IntsRep ns vs:=by
   cases hwl with
   | nil=>exact Bool.noConfusion hsh
   | cons w1 r1=>
    cases r1 with
    | cons w2 r2=>exact Bool.noConfusion (a2 hsh).2
    | nil=>
     have h1:WShape.has [] _ (.list .int)=true:=(a2 hsh).1
     cases w1 with
     | list hg hr=>
      rename_i xs2
      have h2:WShape.hasItems [] xs2 .int=true:=by
       have h1:(WShape.hasItems [] xs2 .int || false)=true:=h1
       rwa [Bool.or_false] at h1
      obtain ⟨ns,h3⟩:=zgp h2 hr
      exact ⟨_,_,ns,rfl,hg,h3⟩
     | _=>exact Bool.noConfusion h1
  subst evals
  have G':Mine.Internal.Ground pw s₁.heap (KL w.params) mgF mb tabs:=⟨(KL_in _).keeps Y,G.T.g,G.T.b,G.T.nolimit,G.T.seer (by kernel_rfl),rfl,zce w Y,zgi _⟩
  have fs:∀ f F,PG.fn f=some F→∃ C body,FnIs s₁.heap (faT f) F C body∧chkS PG.tb tlT F.body C body=true:=fun f F h=>by
   obtain ⟨C,body,h1,h2⟩:=zj6 (zj9 w.params f F h)
   exact ⟨C,body,h1.mono Y,h2⟩
  obtain ⟨W,σ',run⟩:=pl ns
  have all:PhiOK pw w s₁.heap faT 150 (runF PG W 150):=zj5 (P:=PG) G' (zgj _) (zgk _) (zcg w Y G.T.builtins) (zgl _) (fun _ _ _=>Iff.rfl) (zja _ G.T.builtins) fs 150
  have gc:Gc 150 callerA (nsA []):=⟨rfl,by decide,by decide,[],rfl,fun e he=>nomatch he⟩
  have rv:RepVs s₁.heap [] [.t (.lst ns)] [.ref al]:=⟨⟨al,vs.toArray,rfl,⟨_,hget⟩,by simpa using hints⟩,trivial⟩
  refine all.call (f:=93) (outs:=[]) gc (Sub.refl _) (zjc _) rv (by rw [run];exact fun q=>nomatch q) _ _ (fun v σ2 e Z' μ' h' tk x z p ws r=>?_) (fun σ2 e=>by rw [run] at e;cases e)
  rw [run] at e
  injection e with ev es
  subst ev
  obtain rfl:x = .bool true:=r
  exact ⟨.inl ⟨.bool true,.bool true,[],rfl,fun _=>rfl,.bool true,(by kernel_rfl),fun _=>⟨List.nodup_nil,fun a ha=>nomatch ha⟩⟩,.of_keep (z.trans ws.keep),rfl,.of_eq hg⟩
end
end Mine.Internal
open PySem PySem.W PyProof.Rows
theorem PySem.Challenge.cw_nu0077_01_holds : PySem.Challenge.rw_nu0077_01.Holds :=
 holds_law Mine.Internal.law_said fun _=>Mine.Internal.walk_law Mine.Internal.P.law_true
