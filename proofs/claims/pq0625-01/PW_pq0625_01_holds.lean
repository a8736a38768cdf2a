import PyProof.Rows.All
import Wide.All
import OpenK.AllK
import OpenK.ZHead
import Wide.FinOn
import Lean
import PySem.Challenge.RW_pq0625_01
set_option Elab.async false
set_option maxRecDepth 100000
set_option linter.all false
set_option genSizeOf false
set_option genInjectivity false
set_option genCtorIdx false
set_option bootstrap.genMatcherCode false
noncomputable section
section
open PySem
namespace Mine
noncomputable abbrev Rj:= @Nat.exists_eq_add_of_le'
noncomputable abbrev Rk:= @List.mem_cons_of_mem.{0}
noncomputable abbrev Rl:= @Nat.le_trans
noncomputable abbrev Rm:= @Nat.le_of_ble_eq_true
noncomputable abbrev Rn:= @wpAny_bind
noncomputable abbrev Ro:= @wpAny_mono
noncomputable abbrev Rp:= @Nat.ble_eq_true_of_le
noncomputable abbrev Rq:= @Nat.eq_of_beq_eq_true
noncomputable abbrev Rs:= @wpAny_pure
noncomputable abbrev Rt:= @Nat.lt_of_le_of_lt
noncomputable abbrev Ru:= @Nat.le_add_right
noncomputable abbrev Rv:= @Nat.le_add_left
noncomputable abbrev Rw:= @Bool.and_eq_true_iff
noncomputable abbrev Rx:= @List.mem_singleton.{0}
noncomputable abbrev Ry:= @Nat.le_of_not_lt
noncomputable abbrev Rz:= @List.mem_append_left.{0}
noncomputable abbrev RA:= @List.mem_map_of_mem.{0,0}
end Mine
end
section
open PySem PySem.W PySem.Calls PyProof.Rows
namespace MineH
noncomputable section
noncomputable abbrev pw:Program:=PySem.Challenge.pw_pq0625_01
noncomputable def bodyL:List Stmt:=pw.main.body
noncomputable def q7:List Stmt->Nat->Stmt
 | [],_=> .Pass default
 | s::_,0=>s
 | _::r,n+1=>q7 r n
noncomputable def st (i:Nat):Stmt:=q7 bodyL i
noncomputable def sm (i j:Nat):Stmt:=match st i with | .ClassDef _ _ _ b _ _ _ _ _ _ _=>q7 b j | s=>s
noncomputable def vi (i:Int) (t:Nat):PySem.Value:= .int i t
noncomputable def vs (x:String) (t:Nat):PySem.Value:= .str (Str.ofString x) t
noncomputable def ot (l:List PySem.Value):Obj:=⟨.type "tuple",none,.seq l.toArray 0,#[]⟩
noncomputable def og (l:List PySem.Value):Obj:=⟨.none,none,.fields l.toArray,#[]⟩
noncomputable def oc (n:String) (l:List PySem.Value):Obj:=⟨.type n,none,.fields l.toArray,#[]⟩
noncomputable def op (n:String) (l:List (Option PySem.Value)):Obj:=⟨.type n,none,.plain,l.toArray⟩
noncomputable def fd (s:Stmt) (q:String) (g:Addr) (cl:List (Str×Addr)) (dv kv doc pm:PySem.Value) (an:Option Addr) (code ct:PySem.Value) (blt:Addr):FuncData:=match s with
 | .FunctionDef n a b _ _ _ sc _ _ _=>⟨n,Str.ofString q,a,.stmts b,sc,g,cl,dv,kv,doc,pm,an,code,ct,blt⟩
 | _=>default
noncomputable def of (f:FuncData):Obj:=⟨.none,none,.func f,#[]⟩
noncomputable def oh (f:FuncData):Obj:=⟨.type "function",none,.func f,#[]⟩
noncomputable def en (P:Params) (x:String) (t:Nat) (v:PySem.Value):DictEntry:=⟨PyData.keyHash P (Str.ofString x),.str (Str.ofString x) t,v⟩
noncomputable def od (l:List DictEntry) (n:Nat):Obj:=⟨.type "dict",none,.dict l.toArray n,#[]⟩
noncomputable def oe (l:List DictEntry) (n:Nat):Obj:=⟨.none,none,.dict l.toArray n,#[]⟩
noncomputable def ok (n:String) (bs mro:List PySem.Value) (ns:Addr) (qn:String) (hd:Bool) (sub:List PySem.Value) (sl:List (Option PySem.Value)):Obj :=
 ⟨.type "type",none,.cls { name:=Str.ofString n,bases:=bs,mro:=mro,ns:=ns,qualname:=Str.ofString qn,hasDict:=hd,subclasses:=sub },sl.toArray⟩
noncomputable def bA:List Obj->Nat->Obj
 | [],_=>default
 | x::_,0=>x
 | _::r,n+1=>bA r n
noncomputable def cd (n s:Nat) (a b:Obj):Obj:=match Nat.blt n s with
 | true=>a
 | false=>b
noncomputable def ap:List Obj->List Obj->List Obj
 | [],l=>l
 | x::r,l=>x::ap r l
noncomputable def vt:Nat->List String->List PySem.Value
 | _,[]=>[]
 | t,x::r=>vs x t::vt (t+1) r
noncomputable def co (t:Nat) (q n:String) (ln na fl:Int) (k:Nat) (r8 IT:Addr) (x13 x14 x15:PySem.Value):Obj:=oc "code" [vs n t,vs q (t+1),vs "/claim/cut.py" (t+2),vi ln 0,vi na 0,vi 0 0,vi 0 0,vi fl 0,.ref r8,.bool true,vi 181 0,.ref IT,.none,x13,x14,x15,.int (Int.ofNat (t+3+k)) 0,vi ln 0,vs "/claim/cut.py" (t+4+k)]
noncomputable def fG (a t:Nat) (S:Stmt) (q n:String) (ln na:Int) (l:List String) (M:PySem.Value) (c:List String) (D:PySem.Value) (g:List PySem.Value) (fl:Int):List Obj :=
 [ot [],og g,ot (vt (t+3) l),ot (vt (t+3+l.length) c),of (fd S q 0 [] .none .none .none .none none .none .none 0),co t q n ln na fl (l.length+c.length) a (a+1) (.ref (a+2)) (.ref (a+3)) (.ref (a+4)),oh (fd S q 3 [] D .none .none M none (.ref (a+5)) .none 0)]
noncomputable def fH (a t:Nat) (S:Stmt) (q n:String) (ln na:Int) (M:PySem.Value) (D:PySem.Value) (g:List PySem.Value) (fl:Int):List Obj :=
 [ot [],og g,of (fd S q 0 [] .none .none .none .none none .none .none 0),co t q n ln na fl 0 a (a+1) .none .none (.ref (a+2)),oh (fd S q 3 [] D .none .none M none (.ref (a+3)) .none 0)]
noncomputable def fA (a t:Nat) (S:Stmt) (n:String) (ln na:Int) (l:List String) (M:PySem.Value):List Obj:=fG a t S n n ln na l M [] .none [] 3
noncomputable def gu (a t:Nat) (S:Stmt) (q n:String) (ln na:Int) (l:List String) (M:PySem.Value):List Obj:=fG a t S q n ln na l M [] .none [] 3
noncomputable def fB (a t:Nat) (S:Stmt) (n:String) (ln na:Int) (M:PySem.Value):List Obj:=fH a t S n n ln na M .none [] 3
noncomputable def Mv (a t:Nat) (S:Stmt) (q n:String) (ln na:Int) (M:PySem.Value):List Obj:=fH a t S q n ln na M .none [] 3
noncomputable def er (P:Params):List (String×Nat×Addr)->List DictEntry
 | []=>[]
 | x::r=>en P x.1 x.2.1 (.ref x.2.2)::er P r
noncomputable def gT (f:Nat->Obj) (n:Nat):Nat->Nat->Nat->BT
 | 0,_,_=> .nil
 | k+1,a,b=>match Nat.blt b n with
   | true=> .node (f b) (gT f n k (2 * a) (a+b)) (gT f n k (2 * a) (2 * a+b))
   | false=> .nil
noncomputable def H8 (v:Obj):BT->BT
 | .nil=> .nil
 | .node _ l r=> .node v l r
noncomputable def Cw (f:BT->BT):BT->BT
 | .nil=> .nil
 | .node v l r=> .node v (f l) r
noncomputable def Fz (f:BT->BT):BT->BT
 | .nil=> .nil
 | .node v l r=> .node v l (f r)
noncomputable def boot_life:Life:={}
noncomputable def m0:PySem.Value:=vs "__main__" 164
noncomputable def m1:PySem.Value:=vs "ledgerspeak.columns" 194
noncomputable def m2:PySem.Value:=vs "ledgerspeak.errors" 240
noncomputable def m3:PySem.Value:=vs "ledgerspeak.decimals" 314
noncomputable def m4:PySem.Value:=vs "ledgerspeak.tokens" 397
noncomputable def m5:PySem.Value:=vs "ledgerspeak.references" 658
noncomputable def m6:PySem.Value:=vs "ledgerspeak.expressions" 806
noncomputable def m7:PySem.Value:=vs "ledgerspeak.conditions" 946
noncomputable def m8:PySem.Value:=vs "ledgerspeak.showing" 1226
noncomputable def m9:PySem.Value:=vs "ledgerspeak.showprog" 1699
noncomputable def kF:PySem.Value:=vs "ledgerspeak.procread" 1725
noncomputable def jb:PySem.Value:=vs "ledgerspeak.reader" 1931
noncomputable def Mw:PySem.Value:=vs "ledgerspeak.readarith" 2157
noncomputable def FA:PySem.Value:=vs "ledgerspeak.readflow" 2168
noncomputable def vh:PySem.Value:=vs "law_pq0625_01" 2214
noncomputable def g0 (P:Params):List Obj:=ap [ot [],ot [],oc "code" [(vs "<module>" 182),(vs "<module>" 183),(vs "/claim/cut.py" 184),(vi 1 0),(vi 0 0),(vi 0 0),(vi 0 0),(vi 0 0),(.ref 11),(.bool false),(vi 181 0),(.ref 12),.none,.none,.none,.none,(vi 185 0),(vi 1 0),(vs "/claim/cut.py" 186)],op "frame" [(some (.ref 13)),(some (.ref 3)),(some (.ref 3)),none,(some m0),none,(some (.ref 0))]] (ap (fA 15 187 (st 0) "_wall" 1 1 ["k"] m0) (ap [ot [],oc "builtin_function_or_method" [(.builtin "type.__prepare__"),(.type "type")],od [en P "__module__" 205 m1,en P "__qualname__" 207 (vs "Line" 206),en P "__firstlineno__" 209 (vi 6 208),en P "__init__" 218 (.ref 35),en P "told" 225 (.ref 42),en P "__static_attributes__" 228 (.ref 43)] 6,ot [],og [(vi 8 0),(vi 4 0),(.ref 34),(vi 12 0),(vi 4 0),(.ref 41)],oc "code" [(vs "Line" 200),(vs "Line" 201),(vs "/claim/cut.py" 202),(vi 6 0),(vi 0 0),(vi 0 0),(vi 0 0),(vi 0 0),(.ref 25),(.bool false),(vi 181 0),(.ref 26),.none,.none,.none,.none,(vi 203 0),(vi 6 0),(vs "/claim/cut.py" 204)],op "frame" [(some (.ref 27)),(some (.ref 3)),(some (.ref 24)),none,(some m1),none,(some (.ref 0))]] (ap (gu 29 210 (sm 3 0) "Line.__init__" "__init__" 8 3 ["self", "text", "spots"] m1) (ap (gu 36 219 (sm 3 1) "Line.told" "told" 12 1 ["self"] m1) ([ot [(vs "places" 226),(vs "text" 227)],od [en P "__module__" 205 m1,en P "__firstlineno__" 209 (vi 6 208),en P "__init__" 218 (.ref 35),en P "told" 225 (.ref 42),en P "__static_attributes__" 228 (.ref 43),en P "__dict__" 230 (.ref 46),en P "__weakref__" 232 (.ref 47),en P "__doc__" 233 .none] 4,ok "Line" [(.type "object")] [(.ref 45),(.type "object")] 44 "Line" true [] [none,none,(some (vs "Line" 198)),(some (vs "Line" 206)),(some (.builtin "object.__new__")),(some (.bool true))],oc "getset_descriptor" [(vs "__dict__" 229),(.ref 45),(.builtin "function.__dict__"),(.builtin "function.__dict__#set")],oc "getset_descriptor" [(vs "__weakref__" 231),(.ref 45),(.builtin "ExceptionGroup.__weakref__"),.none],oc "super" [(.ref 45),(.ref 45),(.ref 45)],oc "builtin_function_or_method" [(.builtin "object.__init_subclass__"),(.ref 45)],ot [(.type "Exception")],oc "builtin_function_or_method" [(.builtin "type.__prepare__"),(.type "type")],od [en P "__module__" 249 m2,en P "__qualname__" 251 (vs "LedgerError" 250),en P "__firstlineno__" 253 (vi 17 252),en P "__init__" 264 (.ref 65),en P "told" 271 (.ref 72),en P "__static_attributes__" 274 (.ref 73)] 6,ot [],og [(vi 19 0),(vi 4 0),(.ref 64),(vi 24 0),(vi 4 0),(.ref 71)]])))))
noncomputable def g1 (P:Params):List Obj:=ap [oc "code" [(vs "LedgerError" 244),(vs "LedgerError" 245),(vs "/claim/cut.py" 246),(vi 17 0),(vi 0 0),(vi 0 0),(vi 0 0),(vi 0 0),(.ref 53),(.bool false),(vi 181 0),(.ref 54),.none,.none,.none,.none,(vi 247 0),(vi 17 0),(vs "/claim/cut.py" 248)],op "frame" [(some (.ref 55)),(some (.ref 3)),(some (.ref 52)),none,(some m2),none,(some (.ref 0))],ot [(vi 0 254),(vi 0 255)],ot [(.ref 57)]] (ap (fG 59 256 (sm 7 0) "LedgerError.__init__" "__init__" 19 3 ["self", "what", "at"] m2 [] (.ref 58) [] 3) (ap (gu 66 265 (sm 7 1) "LedgerError.told" "told" 24 1 ["self"] m2) ([ot [(vs "at" 272),(vs "what" 273)],od [en P "__module__" 249 m2,en P "__firstlineno__" 253 (vi 17 252),en P "__init__" 264 (.ref 65),en P "told" 271 (.ref 72),en P "__static_attributes__" 274 (.ref 73),en P "__weakref__" 276 (.ref 76),en P "__doc__" 277 .none] 3,ot [],oc "getset_descriptor" [(vs "__weakref__" 275),(.ref 75),(.builtin "ExceptionGroup.__weakref__"),.none],oc "super" [(.ref 75),(.ref 75),(.ref 75)],oc "builtin_function_or_method" [(.builtin "object.__init_subclass__"),(.ref 75)],ot [(.ref 75)],oc "builtin_function_or_method" [(.builtin "type.__prepare__"),(.type "type")],od [en P "__module__" 289 m2,en P "__qualname__" 291 (vs "TokenFault" 290),en P "__firstlineno__" 293 (vi 26 292),en P "__static_attributes__" 294 (.ref 86)] 4,ot [],og [],oc "code" [(vs "TokenFault" 284),(vs "TokenFault" 285),(vs "/claim/cut.py" 286),(vi 26 0),(vi 0 0),(vi 0 0),(vi 0 0),(vi 0 0),(.ref 82),(.bool false),(vi 181 0),(.ref 83),.none,.none,.none,.none,(vi 287 0),(vi 26 0),(vs "/claim/cut.py" 288)],op "frame" [(some (.ref 84)),(some (.ref 3)),(some (.ref 81)),none,(some m2),none,(some (.ref 0))],ot [],od [en P "__module__" 289 m2,en P "__firstlineno__" 293 (vi 26 292),en P "__static_attributes__" 294 (.ref 86),en P "__doc__" 295 .none] 2,ok "TokenFault" [(.ref 75)] [(.ref 88),(.ref 75),(.type "Exception"),(.type "BaseException"),(.type "object")] 87 "TokenFault" true [] [(some (.ref 79)),none,(some (vs "TokenFault" 282)),(some (vs "TokenFault" 290)),(some (.builtin "Exception.__new__")),(some (.bool true))],oc "super" [(.ref 88),(.ref 88),(.ref 88)],oc "builtin_function_or_method" [(.builtin "object.__init_subclass__"),(.ref 88)],ot [(.ref 75)],oc "builtin_function_or_method" [(.builtin "type.__prepare__"),(.type "type")],od [en P "__module__" 305 m2,en P "__qualname__" 307 (vs "GrammarFault" 306),en P "__firstlineno__" 309 (vi 28 308),en P "__static_attributes__" 310 (.ref 98)] 4,ot [],og [],oc "code" [(vs "GrammarFault" 300),(vs "GrammarFault" 301),(vs "/claim/cut.py" 302),(vi 28 0),(vi 0 0),(vi 0 0),(vi 0 0),(vi 0 0),(.ref 94),(.bool false),(vi 181 0),(.ref 95),.none,.none,.none,.none,(vi 303 0),(vi 28 0),(vs "/claim/cut.py" 304)],op "frame" [(some (.ref 96)),(some (.ref 3)),(some (.ref 93)),none,(some m2),none,(some (.ref 0))],ot []])))
noncomputable def g2 (P:Params):List Obj:=ap [od [en P "__module__" 305 m2,en P "__firstlineno__" 309 (vi 28 308),en P "__static_attributes__" 310 (.ref 98),en P "__doc__" 311 .none] 2,ok "GrammarFault" [(.ref 75)] [(.ref 100),(.ref 75),(.type "Exception"),(.type "BaseException"),(.type "object")] 99 "GrammarFault" true [] [(some (.ref 91)),none,(some (vs "GrammarFault" 298)),(some (vs "GrammarFault" 306)),(some (.builtin "Exception.__new__")),(some (.bool true))],oc "super" [(.ref 100),(.ref 100),(.ref 100)],oc "builtin_function_or_method" [(.builtin "object.__init_subclass__"),(.ref 100)]] (ap (fA 103 318 (st 12) "cut_quotient" 32 2 ["top", "bottom"] m3) (ap [ot [(vi 0 326)]] (ap (fG 111 327 (st 13) "decimal" "decimal" 36 2 ["units", "scale"] m3 [] (.ref 110) [] 3) (ap (fA 118 335 (st 14) "negated" 43 1 ["a"] m3) (ap (fA 125 342 (st 15) "units_at" 45 3 ["a", "scale", "is_rounded", "size", "half"] m3) (ap (fA 132 353 (st 16) "is_whole" 53 1 ["a"] m3) ((fA 139 360 (st 17) "whole_of" 55 1 ["a"] m3))))))))
noncomputable def g3 (P:Params):List Obj:=ap (fA 146 367 (st 18) "worth_of" 57 1 ["figures", "number", "figure"] m3) (ap (fA 153 376 (st 19) "read_decimal" 62 1 ["text", "begin", "ahead", "behind", "point", "at", "units"] m3) (ap (fA 160 389 (st 20) "write_decimal" 77 1 ["a", "figures"] m3) (ap [ot [],oc "builtin_function_or_method" [(.builtin "type.__prepare__"),(.type "type")],od [en P "__module__" 426 m4,en P "__qualname__" 428 (vs "Token" 427),en P "__firstlineno__" 430 (vi 93 429),en P "__init__" 443 (.ref 182),en P "told" 450 (.ref 189),en P "__static_attributes__" 455 (.ref 190)] 6,ot [],og [(vi 95 0),(vi 4 0),(.ref 181),(vi 101 0),(vi 4 0),(.ref 188)],oc "code" [(vs "Token" 421),(vs "Token" 422),(vs "/claim/cut.py" 423),(vi 93 0),(vi 0 0),(vi 0 0),(vi 0 0),(vi 0 0),(.ref 170),(.bool false),(vi 181 0),(.ref 171),.none,.none,.none,.none,(vi 424 0),(vi 93 0),(vs "/claim/cut.py" 425)],op "frame" [(some (.ref 172)),(some (.ref 3)),(some (.ref 169)),none,(some m4),none,(some (.ref 0))],ot [(vi 0 431),(vi 0 432)],ot [(.ref 174),(.bool false)]] (ap (fG 176 433 (sm 31 0) "Token.__init__" "__init__" 95 5 ["self", "kind", "worth", "at", "is_in_a"] m4 [] (.ref 175) [] 3) ((gu 183 444 (sm 31 1) "Token.told" "told" 101 1 ["self"] m4))))))
noncomputable def g4 (P:Params):List Obj:=ap [ot [(vs "at" 451),(vs "is_in_a" 452),(vs "kind" 453),(vs "worth" 454)],od [en P "__module__" 426 m4,en P "__firstlineno__" 430 (vi 93 429),en P "__init__" 443 (.ref 182),en P "told" 450 (.ref 189),en P "__static_attributes__" 455 (.ref 190),en P "__dict__" 457 (.ref 193),en P "__weakref__" 459 (.ref 194),en P "__doc__" 460 .none] 4,ok "Token" [(.type "object")] [(.ref 192),(.type "object")] 191 "Token" true [] [none,none,(some (vs "Token" 419)),(some (vs "Token" 427)),(some (.builtin "object.__new__")),(some (.bool true))],oc "getset_descriptor" [(vs "__dict__" 456),(.ref 192),(.builtin "function.__dict__"),(.builtin "function.__dict__#set")],oc "getset_descriptor" [(vs "__weakref__" 458),(.ref 192),(.builtin "ExceptionGroup.__weakref__"),.none],oc "super" [(.ref 192),(.ref 192),(.ref 192)],oc "builtin_function_or_method" [(.builtin "object.__init_subclass__"),(.ref 192)]] (ap (fA 197 463 (st 32) "capital_of" 103 1 ["sign"] m4) (ap (fB 204 470 (st 33) "capitals" 105 1 m4) (ap (fA 209 476 (st 34) "is_word_sign" 107 1 ["sign"] m4) (ap (fA 216 483 (st 35) "is_parted" 109 2 ["text", "at"] m4) (ap (fA 223 491 (st 36) "line_fault" 111 3 ["line", "at", "what"] m4) ((fA 230 500 (st 37) "run_end" 113 3 ["text", "at", "signs"] m4)))))))
noncomputable def g5 (P:Params):List Obj:=ap (fA 237 509 (st 38) "number_end" 117 2 ["text", "at", "end"] m4) (ap (fA 244 518 (st 39) "literal_end" 122 2 ["line", "at", "quote", "end"] m4) (ap (fA 251 528 (st 40) "picture_end" 133 2 ["text", "at", "end"] m4) (ap (fB 258 537 (st 41) "checked_word" 138 3 m4) (ap (fA 263 543 (st 42) "checked_number" 147 3 ["line", "at", "end", "worth"] m4) (ap (fA 270 553 (st 43) "checked_literal" 152 3 ["line", "at", "end", "quote", "worth"] m4) ((fA 277 564 (st 44) "checked_picture" 158 2 ["line", "at", "end"] m4)))))))
noncomputable def g6 (P:Params):List Obj:=ap (fA 284 573 (st 45) "need_apart" 163 2 ["line", "end", "behind"] m4) (ap (fA 291 582 (st 46) "mark_at" 171 2 ["line", "at", "pair", "sign"] m4) (ap (fA 298 592 (st 47) "worth_at" 181 2 ["line", "at", "sign", "end", "behind", "kind", "worth"] m4) (ap (fA 305 605 (st 48) "is_blank_at" 201 2 ["text", "at"] m4) (ap (fA 312 613 (st 49) "is_picture_next" 203 1 ["tokens"] m4) (ap (fA 319 620 (st 50) "add_tokens" 205 2 ["tokens", "line", "at", "was_is", "place", "kind", "worth", "end"] m4) ((fA 326 634 (st 51) "is_word_is" 225 2 ["text", "at"] m4)))))))
noncomputable def g7 (P:Params):List Obj:=ap (fA 333 642 (st 52) "tokens_of" 227 1 ["lines", "tokens", "line"] m4) (ap (fA 340 651 (st 53) "quoted" 232 1 ["text"] m4) (ap [od [en P "ZERO" 662 (vs "ZERO" 663),en P "ZEROS" 664 (vs "ZERO" 665),en P "ZEROES" 666 (vs "ZERO" 667),en P "SPACE" 668 (vs "SPACE" 669),en P "SPACES" 670 (vs "SPACE" 671),en P "HIGH-VALUE" 672 (vs "HIGH" 673),en P "HIGH-VALUES" 674 (vs "HIGH" 675),en P "LOW-VALUE" 676 (vs "LOW" 677),en P "LOW-VALUES" 678 (vs "LOW" 679),en P "QUOTE" 680 (vs "QUOTE" 681),en P "QUOTES" 682 (vs "QUOTE" 683)] 11,od [en P "ZERO" 696 (vs "ZERO" 697),en P "SPACE" 698 (vs "SPACE" 699),en P "HIGH" 700 (vs "HIGH-VALUE" 701),en P "LOW" 702 (vs "LOW-VALUE" 703),en P "QUOTE" 704 (vs "QUOTE" 705)] 5] (ap (fA 349 712 (st 58) "is_part_next" 238 1 ["reader", "depth", "ahead"] m5) (ap (fA 356 721 (st 59) "read_subscripts" 251 2 ["reader", "read_expr", "found"] m5) (ap (fA 363 730 (st 60) "read_part" 259 2 ["reader", "read_expr", "begin", "length"] m5) ((fA 370 740 (st 61) "read_ref" 266 2 ["reader", "read_expr", "name", "qualifiers", "subscripts", "part"] m5)))))))
noncomputable def g8 (P:Params):List Obj:=ap (fA 377 752 (st 62) "read_all" 276 1 ["reader", "figure"] m5) (ap (fA 384 760 (st 63) "read_figure" 283 1 ["reader"] m5) (ap (fA 391 767 (st 64) "read_operand" 287 2 ["reader", "read_expr", "figure"] m5) (ap (fB 398 776 (st 65) "shown_octets" 296 1 m5) (ap (fB 403 782 (st 66) "shown_subscripts" 298 2 m5) (ap (fA 408 788 (st 67) "show_ref" 303 2 ["ref", "show_expr", "found", "length"] m5) ((fA 415 798 (st 68) "show_operand" 311 2 ["operand", "show_expr"] m5)))))))
noncomputable def g9 (P:Params):List Obj:=ap [od [en P "+" 816 (vi 1 817),en P "-" 818 (vi 1 819),en P "*" 820 (vi 2 821),en P "/" 822 (vi 2 823),en P "**" 824 (vi 4 825)] 5] (ap (fA 423 832 (st 75) "read_expression" 325 1 ["reader"] m6) (ap (fA 430 839 (st 76) "sign_among" 327 2 ["reader", "signs", "token"] m6) (ap (fA 437 848 (st 77) "read_sum" 332 2 ["reader", "depth", "found", "sign"] m6) (ap (fA 444 858 (st 78) "read_product" 340 2 ["reader", "depth", "found", "sign"] m6) (ap (fA 451 868 (st 79) "read_factor" 346 2 ["reader", "depth", "sign", "is_own", "found"] m6) (ap (fA 458 879 (st 80) "is_lone_number" 356 1 ["reader", "token", "behind"] m6) ((fA 465 888 (st 81) "read_power" 361 2 ["reader", "depth", "found"] m6))))))))
noncomputable def Fh (P:Params):List Obj:=ap (fG 472 897 (st 82) "read_primary" "read_primary" 367 2 ["reader", "depth", "found"] m6 ["depth"] .none [] 3) (ap (fA 479 907 (st 83) "level_of" 375 1 ["expr"] m6) (ap (fA 486 914 (st 84) "bracketed" 379 2 ["expr", "least", "text"] m6) (ap (fA 493 923 (st 85) "show_expression" 382 1 ["expr", "pieces", "here"] m6) (ap (fA 500 932 (st 86) "right_part" 395 1 ["expr"] m6) (ap (fA 507 939 (st 87) "show_signed" 397 1 ["expr"] m6) ([od [en P "=" 950 (vs "<>" 951),en P "<>" 952 (vs "=" 953),en P "<" 954 (vs ">=" 955),en P ">=" 956 (vs "<" 957),en P ">" 958 (vs "<=" 959),en P "<=" 960 (vs ">" 961)] 6,ot [(vs "NUMERIC" 969),(vs "ALPHABETIC" 970),(vs "ALPHABETIC-LOWER" 971),(vs "ALPHABETIC-UPPER" 972)]]))))))
noncomputable def Cy (P:Params):List Obj:=ap [od [en P "POSITIVE" 974 (vs "POSITIVE" 975),en P "NEGATIVE" 976 (vs "NEGATIVE" 977),en P "ZERO" 978 (vs "ZERO" 979),en P "ZEROS" 980 (vs "ZERO" 981),en P "ZEROES" 982 (vs "ZERO" 983)] 5,od [en P "GREATER" 990 (vs ">" 991),en P "LESS" 992 (vs "<" 993),en P "EQUAL" 994 (vs "=" 995)] 3,ot [(vs "=" 1000),(vs "<" 1001),(vs ">" 1002),(vs "<=" 1003),(vs ">=" 1004)],ot [(vi 0 1006)]] (ap (fG 520 1007 (st 95) "word_here" "word_here" 408 2 ["reader", "ahead", "token"] m7 [] (.ref 519) [] 3) (ap (fA 527 1016 (st 96) "is_relation_at" 411 2 ["reader", "ahead", "token"] m7) (ap (fA 534 1025 (st 97) "place_of_word" 416 1 ["reader", "ahead"] m7) (ap (fA 541 1033 (st 98) "is_predicate_here" 419 1 ["reader", "ahead", "word"] m7) (ap (fA 548 1042 (st 99) "is_bare_relation_here" 423 1 ["reader"] m7) ([ot [],oc "builtin_function_or_method" [(.builtin "type.__prepare__"),(.type "type")],od [en P "__module__" 1056 m7,en P "__qualname__" 1058 (vs "ConditionReader" 1057),en P "__firstlineno__" 1060 (vi 425 1059),en P "__init__" 1070 (.ref 568),en P "either" 1078 (.ref 575),en P "both" 1086 (.ref 582),en P "turned" 1093 (.ref 589),en P "single" 1104 (.ref 596),en P "unbracketed" 1112 (.ref 603),en P "in_brackets" 1120 (.ref 610),en P "subject_of_last" 1127 (.ref 617),en P "sign_of_last" 1134 (.ref 624),en P "predicate" 1145 (.ref 631),en P "relation" 1155 (.ref 638),en P "sign_here" 1164 (.ref 645),en P "__static_attributes__" 1169 (.ref 646)] 16,ot [],og [(vi 427 0),(vi 4 0),(.ref 567),(vi 433 0),(vi 4 0),(.ref 574),(vi 439 0),(vi 4 0),(.ref 581),(vi 445 0),(vi 4 0),(.ref 588),(vi 451 0),(vi 4 0),(.ref 595),(vi 465 0),(vi 4 0),(.ref 602),(vi 476 0),(vi 4 0),(.ref 609),(vi 485 0),(vi 4 0),(.ref 616),(vi 490 0),(vi 4 0),(.ref 623),(vi 495 0),(vi 4 0),(.ref 630),(vi 509 0),(vi 4 0),(.ref 637),(vi 516 0),(vi 4 0),(.ref 644)]]))))))
noncomputable def yW (P:Params):List Obj:=ap [oc "code" [(vs "ConditionReader" 1051),(vs "ConditionReader" 1052),(vs "/claim/cut.py" 1053),(vi 425 0),(vi 0 0),(vi 0 0),(vi 0 0),(vi 0 0),(.ref 558),(.bool false),(vi 181 0),(.ref 559),.none,.none,.none,.none,(vi 1054 0),(vi 425 0),(vs "/claim/cut.py" 1055)],op "frame" [(some (.ref 560)),(some (.ref 3)),(some (.ref 557)),none,(some m7),none,(some (.ref 0))]] (ap (gu 562 1061 (sm 100 0) "ConditionReader.__init__" "__init__" 427 4 ["self", "reader", "is_named", "depth"] m7) (ap (gu 569 1071 (sm 100 1) "ConditionReader.either" "either" 433 1 ["self", "found"] m7) (ap (gu 576 1079 (sm 100 2) "ConditionReader.both" "both" 439 1 ["self", "found"] m7) (ap (gu 583 1087 (sm 100 3) "ConditionReader.turned" "turned" 445 1 ["self"] m7) (ap (gu 590 1094 (sm 100 4) "ConditionReader.single" "single" 451 1 ["self", "start", "error", "elder", "far"] m7) ((gu 597 1105 (sm 100 5) "ConditionReader.unbracketed" "unbracketed" 465 1 ["self", "subject"] m7)))))))
noncomputable def FB (P:Params):List Obj:=ap (gu 604 1113 (sm 100 6) "ConditionReader.in_brackets" "in_brackets" 476 1 ["self", "found"] m7) (ap (gu 611 1121 (sm 100 7) "ConditionReader.subject_of_last" "subject_of_last" 485 1 ["self"] m7) (ap (gu 618 1128 (sm 100 8) "ConditionReader.sign_of_last" "sign_of_last" 490 1 ["self"] m7) (ap (gu 625 1135 (sm 100 9) "ConditionReader.predicate" "predicate" 495 2 ["self", "subject", "word", "is_not", "found"] m7) (ap (gu 632 1146 (sm 100 10) "ConditionReader.relation" "relation" 509 2 ["self", "subject", "is_not", "sign"] m7) (ap (gu 639 1156 (sm 100 11) "ConditionReader.sign_here" "sign_here" 516 1 ["self", "token", "sign"] m7) ([ot [(vs "depth" 1165),(vs "is_named" 1166),(vs "last" 1167),(vs "reader" 1168)],od [en P "__module__" 1056 m7,en P "__firstlineno__" 1060 (vi 425 1059),en P "__init__" 1070 (.ref 568),en P "either" 1078 (.ref 575),en P "both" 1086 (.ref 582),en P "turned" 1093 (.ref 589),en P "single" 1104 (.ref 596),en P "unbracketed" 1112 (.ref 603),en P "in_brackets" 1120 (.ref 610),en P "subject_of_last" 1127 (.ref 617),en P "sign_of_last" 1134 (.ref 624),en P "predicate" 1145 (.ref 631),en P "relation" 1155 (.ref 638),en P "sign_here" 1164 (.ref 645),en P "__static_attributes__" 1169 (.ref 646),en P "__dict__" 1171 (.ref 649),en P "__weakref__" 1173 (.ref 650),en P "__doc__" 1174 .none] 4]))))))
noncomputable def Bm (P:Params):List Obj:=ap [ok "ConditionReader" [(.type "object")] [(.ref 648),(.type "object")] 647 "ConditionReader" true [] [none,none,(some (vs "ConditionReader" 1049)),(some (vs "ConditionReader" 1057)),(some (.builtin "object.__new__")),(some (.bool true))],oc "getset_descriptor" [(vs "__dict__" 1170),(.ref 648),(.builtin "function.__dict__"),(.builtin "function.__dict__#set")],oc "getset_descriptor" [(vs "__weakref__" 1172),(.ref 648),(.builtin "ExceptionGroup.__weakref__"),.none],oc "super" [(.ref 648),(.ref 648),(.ref 648)],oc "builtin_function_or_method" [(.builtin "object.__init_subclass__"),(.ref 648)],ot [.none]] (ap (fG 654 1177 (st 101) "read_condition" "read_condition" 528 2 ["reader", "is_named"] m7 ["reader"] (.ref 653) [] 3) (ap (fA 661 1186 (st 102) "show_relation" 532 1 ["cond", "sign"] m7) (ap (fA 668 1194 (st 103) "strength_of" 535 1 ["cond"] m7) (ap (fA 675 1201 (st 104) "in_place" 537 2 ["cond", "least", "text"] m7) (ap (fA 682 1210 (st 105) "show_simple" 540 1 ["cond"] m7) ((fA 689 1217 (st 106) "show_condition" 546 1 ["cond", "pieces", "here"] m7)))))))
noncomputable def H9 (P:Params):List Obj:=ap [od [en P "size" 1228 (vs "ON SIZE ERROR" 1229),en P "over" 1230 (vs "ON OVERFLOW" 1231),en P "end" 1232 (vs "AT END" 1233),en P "invalid" 1234 (vs "INVALID KEY" 1235),en P "fault" 1236 (vs "ON EXCEPTION" 1237)] 5,od [en P "alphabetic" 1244 (vs "ALPHABETIC" 1245),en P "alphanumeric" 1246 (vs "ALPHANUMERIC" 1247),en P "alnum-edited" 1248 (vs "ALPHANUMERIC-EDITED" 1249),en P "numeric" 1250 (vs "NUMERIC" 1251),en P "edited" 1252 (vs "NUMERIC-EDITED" 1253)] 5,od [en P "input" 1260 (vs "INPUT" 1261),en P "output" 1262 (vs "OUTPUT" 1263),en P "i-o" 1264 (vs "I-O" 1265),en P "extend" 1266 (vs "EXTEND" 1267)] 4,od [en P "=" 1273 (vs "TO" 1274),en P "+" 1275 (vs "UP BY" 1276),en P "-" 1277 (vs "DOWN BY" 1278)] 3] (ap (fA 700 1283 (st 112) "operand_text" 564 1 ["operand"] m8) (ap (fA 707 1290 (st 113) "ref_text" 566 1 ["ref"] m8) (ap (fB 714 1297 (st 114) "joined" 568 1 m8) (ap (fA 719 1303 (st 115) "worded" 570 2 ["word", "text"] m8) (ap (fA 726 1311 (st 116) "ref_behind_word" 572 2 ["word", "ref"] m8) ((fA 733 1319 (st 117) "operand_behind_word" 574 2 ["word", "operand"] m8)))))))
noncomputable def K7 (P:Params):List Obj:=ap (fB 740 1327 (st 118) "show_body" 576 2 m8) (ap (fA 745 1333 (st 119) "show_phrase" 580 1 ["key"] m8) (ap (fB 752 1340 (st 120) "show_branches" 584 2 m8) (ap (fA 757 1346 (st 121) "rounded" 586 2 ["text", "is_rounded"] m8) (ap (fB 764 1354 (st 122) "summands" 588 1 m8) (ap (fB 769 1360 (st 123) "show_goals" 599 1 m8) (ap (fB 774 1366 (st 124) "show_arith" 601 2 m8) ((fA 779 1372 (st 125) "show_divide" 617 2 ["statement", "show", "word", "dividend", "divisor", "goal", "remainder", "branches", "head"] m8))))))))
noncomputable def K8 (P:Params):List Obj:=ap (fA 786 1387 (st 126) "show_corr" 622 2 ["statement", "show", "word", "way", "source", "goal", "is_rounded", "branches", "verb", "joint", "head"] m8) (ap (fB 793 1404 (st 127) "show_refs" 627 1 m8) (ap (fB 798 1410 (st 128) "show_initialize" 629 1 m8) (ap (fB 803 1416 (st 129) "show_search" 632 2 m8) (ap (fB 808 1422 (st 130) "show_display" 642 1 m8) (ap (fA 813 1428 (st 131) "show_data" 644 2 ["statement", "show", "word"] m8) (ap (fA 820 1437 (st 132) "show_bounds" 661 2 ["before", "after"] m8) ((fA 827 1445 (st 133) "show_string" 663 2 ["statement", "show", "word", "rows", "goal", "pointer", "branches", "told", "operand", "delimiter", "head"] m8))))))))
noncomputable def Ia (P:Params):List Obj:=ap (fB 834 1462 (st 134) "show_unstring" 670 2 m8) (ap (fA 839 1468 (st 135) "show_tally" 679 1 ["statement", "rows", "count", "kind", "operand", "before", "after", "told"] m8) (ap (fA 846 1482 (st 136) "show_replace" 685 1 ["statement", "rows", "kind", "operand", "by", "before", "after", "told"] m8) (ap (fA 853 1496 (st 137) "show_convert" 691 1 ["statement", "word", "ref", "source", "goal", "before", "after"] m8) (ap (fA 860 1509 (st 138) "show_texts" 694 2 ["statement", "show", "word"] m8) (ap (fA 867 1518 (st 139) "show_pair" 705 1 ["pair"] m8) ((fA 874 1525 (st 140) "show_range" 707 2 ["first", "last"] m8)))))))
noncomputable def K9 (P:Params):List Obj:=ap (fA 881 1533 (st 141) "show_if" 709 2 ["statement", "show", "others"] m8) (ap (fA 888 1542 (st 142) "show_part" 712 1 ["part", "text"] m8) (ap (fB 895 1550 (st 143) "show_parts" 723 1 m8) (ap (fB 900 1556 (st 144) "show_evaluate" 725 2 m8) (ap (fA 905 1562 (st 145) "show_varying" 733 1 ["rows", "told", "ref", "begin", "step", "cond", "row"] m8) (ap (fA 912 1575 (st 146) "show_loop" 739 1 ["loop", "head"] m8) ((fA 919 1583 (st 147) "show_perform" 748 2 ["statement", "show", "goal", "loop"] m8)))))))
noncomputable def IJ (P:Params):List Obj:=ap (fB 926 1593 (st 148) "show_call" 753 2 m8) (ap (fB 931 1599 (st 149) "show_control" 758 2 m8) (ap (fA 936 1605 (st 150) "show_read" 773 2 ["statement", "show", "word", "name", "is_next", "into", "key", "branches", "head"] m8) (ap (fA 943 1620 (st 151) "show_record" 777 2 ["statement", "show", "word", "record", "source", "branches", "verb"] m8) (ap (fA 950 1633 (st 152) "show_start" 781 2 ["statement", "show", "word", "name", "relation", "key", "branches"] m8) (ap (fB 957 1646 (st 153) "show_keys" 784 1 m8) (ap (fA 962 1652 (st 154) "show_side" 786 3 ["side", "procedure_words", "files_word"] m8) ((fA 969 1661 (st 155) "show_sort" 790 1 ["statement", "word", "name", "keys", "files", "goal", "is_kept", "source", "order"] m8))))))))
noncomputable def IK (P:Params):List Obj:=ap (fB 976 1676 (st 156) "show_files" 797 2 m8) (ap (fA 981 1682 (st 157) "show_reckoning" 819 2 ["statement", "show"] m8) (ap (fA 988 1690 (st 158) "show_statement" 825 1 ["statement", "part", "text"] m8) (ap [ot [(.bool false)]] (ap (fH 996 1701 (st 160) "text_tokens" "text_tokens" 832 2 m9 (.ref 995) [] 3) (ap (fA 1001 1707 (st 161) "row_tokens" 836 1 ["row", "found", "statement"] m9) (ap (fA 1008 1716 (st 162) "procedure_tokens" 845 1 ["procedures", "found", "row"] m9) ([ot [(vs "ADD" 1729),(vs "SUBTRACT" 1730),(vs "MULTIPLY" 1731),(vs "DIVIDE" 1732),(vs "COMPUTE" 1733),(vs "MOVE" 1734),(vs "INITIALIZE" 1735),(vs "SET" 1736),(vs "STRING" 1737),(vs "UNSTRING" 1738),(vs "INSPECT" 1739),(vs "SEARCH" 1740),(vs "ACCEPT" 1741),(vs "DISPLAY" 1742),(vs "IF" 1743),(vs "EVALUATE" 1744),(vs "PERFORM" 1745),(vs "GO" 1746),(vs "EXIT" 1747),(vs "STOP" 1748),(vs "CALL" 1749),(vs "CONTINUE" 1750),(vs "OPEN" 1751),(vs "CLOSE" 1752),(vs "READ" 1753),(vs "WRITE" 1754),(vs "REWRITE" 1755),(vs "DELETE" 1756),(vs "START" 1757),(vs "SORT" 1758),(vs "MERGE" 1759),(vs "RELEASE" 1760),(vs "RETURN" 1761)],ot [],oc "builtin_function_or_method" [(.builtin "type.__prepare__"),(.type "type")],od [en P "__module__" 1770 kF,en P "__qualname__" 1772 (vs "Paragraph" 1771),en P "__firstlineno__" 1774 (vi 853 1773),en P "__init__" 1784 (.ref 1029),en P "told" 1791 (.ref 1036),en P "__static_attributes__" 1795 (.ref 1037)] 6,ot []])))))))
noncomputable def Ib (P:Params):List Obj:=ap [og [(vi 855 0),(vi 4 0),(.ref 1028),(vi 860 0),(vi 4 0),(.ref 1035)],oc "code" [(vs "Paragraph" 1765),(vs "Paragraph" 1766),(vs "/claim/cut.py" 1767),(vi 853 0),(vi 0 0),(vi 0 0),(vi 0 0),(vi 0 0),(.ref 1019),(.bool false),(vi 181 0),(.ref 1020),.none,.none,.none,.none,(vi 1768 0),(vi 853 0),(vs "/claim/cut.py" 1769)],op "frame" [(some (.ref 1021)),(some (.ref 3)),(some (.ref 1018)),none,(some kF),none,(some (.ref 0))]] (ap (gu 1023 1775 (sm 166 0) "Paragraph.__init__" "__init__" 855 4 ["self", "name", "section", "statements"] kF) (ap (gu 1030 1785 (sm 166 1) "Paragraph.told" "told" 860 1 ["self"] kF) (ap [ot [(vs "name" 1792),(vs "section" 1793),(vs "statements" 1794)],od [en P "__module__" 1770 kF,en P "__firstlineno__" 1774 (vi 853 1773),en P "__init__" 1784 (.ref 1029),en P "told" 1791 (.ref 1036),en P "__static_attributes__" 1795 (.ref 1037),en P "__dict__" 1797 (.ref 1040),en P "__weakref__" 1799 (.ref 1041),en P "__doc__" 1800 .none] 4,ok "Paragraph" [(.type "object")] [(.ref 1039),(.type "object")] 1038 "Paragraph" true [] [none,none,(some (vs "Paragraph" 1763)),(some (vs "Paragraph" 1771)),(some (.builtin "object.__new__")),(some (.bool true))],oc "getset_descriptor" [(vs "__dict__" 1796),(.ref 1039),(.builtin "function.__dict__"),(.builtin "function.__dict__#set")],oc "getset_descriptor" [(vs "__weakref__" 1798),(.ref 1039),(.builtin "ExceptionGroup.__weakref__"),.none],oc "super" [(.ref 1039),(.ref 1039),(.ref 1039)],oc "builtin_function_or_method" [(.builtin "object.__init_subclass__"),(.ref 1039)],ot [],oc "builtin_function_or_method" [(.builtin "type.__prepare__"),(.type "type")],od [en P "__module__" 1810 kF,en P "__qualname__" 1812 (vs "Procedures" 1811),en P "__firstlineno__" 1814 (vi 862 1813),en P "__init__" 1823 (.ref 1057),en P "told" 1829 (.ref 1062),en P "section_end" 1837 (.ref 1069),en P "range_of" 1845 (.ref 1076),en P "__static_attributes__" 1848 (.ref 1077)] 8,ot [],og [(vi 864 0),(vi 4 0),(.ref 1056),(vi 868 0),(vi 4 0),(.ref 1061),(vi 871 0),(vi 4 0),(.ref 1068),(vi 874 0),(vi 4 0),(.ref 1075)],oc "code" [(vs "Procedures" 1805),(vs "Procedures" 1806),(vs "/claim/cut.py" 1807),(vi 862 0),(vi 0 0),(vi 0 0),(vi 0 0),(vi 0 0),(.ref 1047),(.bool false),(vi 181 0),(.ref 1048),.none,.none,.none,.none,(vi 1808 0),(vi 862 0),(vs "/claim/cut.py" 1809)],op "frame" [(some (.ref 1049)),(some (.ref 3)),(some (.ref 1046)),none,(some kF),none,(some (.ref 0))]] (ap (gu 1051 1815 (sm 167 0) "Procedures.__init__" "__init__" 864 3 ["self", "rows", "using"] kF) (ap (Mv 1058 1824 (sm 167 1) "Procedures.told" "told" 868 1 kF) ((gu 1063 1830 (sm 167 2) "Procedures.section_end" "section_end" 871 2 ["self", "at"] kF)))))))
noncomputable def Ic (P:Params):List Obj:=ap (gu 1070 1838 (sm 167 3) "Procedures.range_of" "range_of" 874 2 ["self", "pair"] kF) (ap [ot [(vs "rows" 1846),(vs "using" 1847)],od [en P "__module__" 1810 kF,en P "__firstlineno__" 1814 (vi 862 1813),en P "__init__" 1823 (.ref 1057),en P "told" 1829 (.ref 1062),en P "section_end" 1837 (.ref 1069),en P "range_of" 1845 (.ref 1076),en P "__static_attributes__" 1848 (.ref 1077),en P "__dict__" 1850 (.ref 1080),en P "__weakref__" 1852 (.ref 1081),en P "__doc__" 1853 .none] 4,ok "Procedures" [(.type "object")] [(.ref 1079),(.type "object")] 1078 "Procedures" true [] [none,none,(some (vs "Procedures" 1803)),(some (vs "Procedures" 1811)),(some (.builtin "object.__new__")),(some (.bool true))],oc "getset_descriptor" [(vs "__dict__" 1849),(.ref 1079),(.builtin "function.__dict__"),(.builtin "function.__dict__#set")],oc "getset_descriptor" [(vs "__weakref__" 1851),(.ref 1079),(.builtin "ExceptionGroup.__weakref__"),.none],oc "super" [(.ref 1079),(.ref 1079),(.ref 1079)],oc "builtin_function_or_method" [(.builtin "object.__init_subclass__"),(.ref 1079)]] (ap (fA 1084 1856 (st 168) "read_continue" 876 2 ["reader", "read_body"] kF) (ap (fA 1091 1864 (st 169) "is_verb_here" 879 1 ["reader"] kF) (ap (fA 1098 1871 (st 170) "body_at" 881 3 ["reader", "depth", "choose", "statements"] kF) (ap (fG 1105 1881 (st 171) "statement_at" "statement_at" 886 3 ["reader", "depth", "choose"] kF ["depth", "choose"] .none [] 3) ((fA 1112 1892 (st 172) "is_head" 892 1 ["reader", "later"] kF)))))))
noncomputable def IL (P:Params):List Obj:=ap (fA 1119 1900 (st 173) "is_end" 897 1 ["reader"] kF) (ap (fA 1126 1907 (st 174) "read_head" 901 2 ["reader", "section", "name"] kF) (ap (fB 1133 1916 (st 175) "rows_here" 910 2 kF) (ap (fA 1138 1922 (st 176) "procedures_by" 925 2 ["reader", "choose", "using"] kF) (ap (fA 1145 1937 (st 180) "is_reserved" 934 1 ["word"] jb) (ap (fB 1152 1944 (st 181) "octets_of_text" 936 1 jb) ([ot [],oc "builtin_function_or_method" [(.builtin "type.__prepare__"),(.type "type")],od [en P "__module__" 1957 jb,en P "__qualname__" 1959 (vs "Reader" 1958),en P "__firstlineno__" 1961 (vi 941 1960),en P "__init__" 1971 (.ref 1171),en P "peek" 1980 (.ref 1179),en P "is_done" 1987 (.ref 1186),en P "fault" 1995 (.ref 1193),en P "take" 2003 (.ref 1200),en P "is_kind" 2014 (.ref 1208),en P "is_word" 2024 (.ref 1215),en P "skip" 2032 (.ref 1222),en P "need" 2040 (.ref 1229),en P "one_of" 2049 (.ref 1236),en P "word" 2056 (.ref 1243),en P "is_name" 2065 (.ref 1251),en P "name" 2072 (.ref 1258),en P "names" 2080 (.ref 1265),en P "is_sign" 2090 (.ref 1273),en P "skip_sign" 2098 (.ref 1280),en P "need_sign" 2106 (.ref 1287),en P "is_number" 2113 (.ref 1294),en P "signed" 2122 (.ref 1301),en P "whole" 2130 (.ref 1308),en P "literal" 2137 (.ref 1315),en P "octets" 2145 (.ref 1322),en P "__static_attributes__" 2149 (.ref 1323)] 26,ot [],og [(vi 943 0),(vi 4 0),(.ref 1170),(vi 948 0),(vi 4 0),(.ref 1178),(vi 953 0),(vi 4 0),(.ref 1185),(vi 956 0),(vi 4 0),(.ref 1192),(vi 961 0),(vi 4 0),(.ref 1199),(vi 968 0),(vi 4 0),(.ref 1207),(vi 972 0),(vi 4 0),(.ref 1214),(vi 980 0),(vi 4 0),(.ref 1221),(vi 986 0),(vi 4 0),(.ref 1228),(vi 990 0),(vi 4 0),(.ref 1235),(vi 996 0),(vi 4 0),(.ref 1242),(vi 1001 0),(vi 4 0),(.ref 1250),(vi 1004 0),(vi 4 0),(.ref 1257),(vi 1009 0),(vi 4 0),(.ref 1264),(vi 1015 0),(vi 4 0),(.ref 1272),(vi 1018 0),(vi 4 0),(.ref 1279),(vi 1024 0),(vi 4 0),(.ref 1286),(vi 1028 0),(vi 4 0),(.ref 1293),(vi 1033 0),(vi 4 0),(.ref 1300),(vi 1042 0),(vi 4 0),(.ref 1307),(vi 1051 0),(vi 4 0),(.ref 1314),(vi 1056 0),(vi 4 0),(.ref 1321)],oc "code" [(vs "Reader" 1952),(vs "Reader" 1953),(vs "/claim/cut.py" 1954),(vi 941 0),(vi 0 0),(vi 0 0),(vi 0 0),(vi 0 0),(.ref 1160),(.bool false),(vi 181 0),(.ref 1161),.none,.none,.none,.none,(vi 1955 0),(vi 941 0),(vs "/claim/cut.py" 1956)]]))))))
noncomputable def IM (P:Params):List Obj:=ap [op "frame" [(some (.ref 1162)),(some (.ref 3)),(some (.ref 1159)),none,(some jb),none,(some (.ref 0))],ot [(vi 0 1962)]] (ap (fG 1165 1963 (sm 182 0) "Reader.__init__" "__init__" 943 3 ["self", "tokens", "at"] jb [] (.ref 1164) [] 3) (ap [ot [(vi 0 1972)]] (ap (fG 1173 1973 (sm 182 1) "Reader.peek" "peek" 948 2 ["self", "ahead"] jb [] (.ref 1172) [] 3) (ap (gu 1180 1981 (sm 182 2) "Reader.is_done" "is_done" 953 1 ["self"] jb) (ap (gu 1187 1988 (sm 182 3) "Reader.fault" "fault" 956 2 ["self", "what"] jb) (ap (gu 1194 1996 (sm 182 4) "Reader.take" "take" 961 1 ["self", "token"] jb) (ap [ot [(vi 0 2004)]] ((fG 1202 2005 (sm 182 5) "Reader.is_kind" "is_kind" 968 3 ["self", "kind", "ahead", "token"] jb [] (.ref 1201) [] 3)))))))))
noncomputable def Id (P:Params):List Obj:=ap (gu 1209 2015 (sm 182 6) "Reader.is_word" "is_word" 972 2 ["self", "words", "ahead", "word"] jb) (ap (gu 1216 2025 (sm 182 7) "Reader.skip" "skip" 980 2 ["self", "words"] jb) (ap (gu 1223 2033 (sm 182 8) "Reader.need" "need" 986 2 ["self", "words"] jb) (ap (gu 1230 2041 (sm 182 9) "Reader.one_of" "one_of" 990 2 ["self", "words", "word"] jb) (ap (gu 1237 2050 (sm 182 10) "Reader.word" "word" 996 1 ["self"] jb) (ap [ot [(vi 0 2057)]] (ap (fG 1245 2058 (sm 182 11) "Reader.is_name" "is_name" 1001 2 ["self", "ahead"] jb [] (.ref 1244) [] 3) ((gu 1252 2066 (sm 182 12) "Reader.name" "name" 1004 1 ["self"] jb))))))))
noncomputable def Ie (P:Params):List Obj:=ap (gu 1259 2073 (sm 182 13) "Reader.names" "names" 1009 1 ["self", "found"] jb) (ap [ot [(vi 0 2081)]] (ap (fG 1267 2082 (sm 182 14) "Reader.is_sign" "is_sign" 1015 3 ["self", "sign", "ahead"] jb [] (.ref 1266) [] 3) (ap (gu 1274 2091 (sm 182 15) "Reader.skip_sign" "skip_sign" 1018 2 ["self", "sign"] jb) (ap (gu 1281 2099 (sm 182 16) "Reader.need_sign" "need_sign" 1024 2 ["self", "sign"] jb) (ap (gu 1288 2107 (sm 182 17) "Reader.is_number" "is_number" 1028 1 ["self"] jb) (ap (gu 1295 2114 (sm 182 18) "Reader.signed" "signed" 1033 1 ["self", "is_below", "found"] jb) ((gu 1302 2123 (sm 182 19) "Reader.whole" "whole" 1042 1 ["self", "found"] jb))))))))
noncomputable def IN (P:Params):List Obj:=ap (gu 1309 2131 (sm 182 20) "Reader.literal" "literal" 1051 1 ["self"] jb) (ap (gu 1316 2138 (sm 182 21) "Reader.octets" "octets" 1056 1 ["self", "found"] jb) (ap [ot [(vs "at" 2146),(vs "named" 2147),(vs "tokens" 2148)],od [en P "__module__" 1957 jb,en P "__firstlineno__" 1961 (vi 941 1960),en P "__init__" 1971 (.ref 1171),en P "peek" 1980 (.ref 1179),en P "is_done" 1987 (.ref 1186),en P "fault" 1995 (.ref 1193),en P "take" 2003 (.ref 1200),en P "is_kind" 2014 (.ref 1208),en P "is_word" 2024 (.ref 1215),en P "skip" 2032 (.ref 1222),en P "need" 2040 (.ref 1229),en P "one_of" 2049 (.ref 1236),en P "word" 2056 (.ref 1243),en P "is_name" 2065 (.ref 1251),en P "name" 2072 (.ref 1258),en P "names" 2080 (.ref 1265),en P "is_sign" 2090 (.ref 1273),en P "skip_sign" 2098 (.ref 1280),en P "need_sign" 2106 (.ref 1287),en P "is_number" 2113 (.ref 1294),en P "signed" 2122 (.ref 1301),en P "whole" 2130 (.ref 1308),en P "literal" 2137 (.ref 1315),en P "octets" 2145 (.ref 1322),en P "__static_attributes__" 2149 (.ref 1323),en P "__dict__" 2151 (.ref 1326),en P "__weakref__" 2153 (.ref 1327),en P "__doc__" 2154 .none] 4,ok "Reader" [(.type "object")] [(.ref 1325),(.type "object")] 1324 "Reader" true [] [none,none,(some (vs "Reader" 1950)),(some (vs "Reader" 1958)),(some (.builtin "object.__new__")),(some (.bool true))],oc "getset_descriptor" [(vs "__dict__" 2150),(.ref 1325),(.builtin "function.__dict__"),(.builtin "function.__dict__#set")],oc "getset_descriptor" [(vs "__weakref__" 2152),(.ref 1325),(.builtin "ExceptionGroup.__weakref__"),.none],oc "super" [(.ref 1325),(.ref 1325),(.ref 1325)],oc "builtin_function_or_method" [(.builtin "object.__init_subclass__"),(.ref 1325)]] (ap (fA 1330 2159 (st 184) "body_here" 1065 2 ["reader", "read_body", "body"] Mw) (ap (fA 1337 2170 (st 186) "name_pair" 1071 1 ["reader", "name"] FA) (ap (fA 1344 2178 (st 187) "read_if" 1076 2 ["reader", "read_body", "cond", "yes", "no"] FA) ((fA 1351 2189 (st 188) "read_goto" 1084 2 ["reader", "read_body", "pairs"] FA)))))))
noncomputable def IO (P:Params):List Obj:=ap (fA 1358 2198 (st 189) "read_exit" 1096 2 ["reader", "read_body"] FA) (ap (fA 1365 2206 (st 190) "read_stop" 1099 2 ["reader", "read_body"] FA) (ap (fA 1372 2216 (st 192) "_law_take" 1104 2 ["bag", "many", "worth"] vh) (ap (fA 1379 2225 (st 193) "_law_bag" 1108 1 ["script", "number", "cell"] vh) (ap (fA 1386 2234 (st 194) "_law_statement" 1113 2 ["bag", "depth", "way", "cond", "others"] vh) (ap (fB 1393 2245 (st 195) "_law_body" 1122 1 vh) ((fA 1398 2251 (st 196) "_law_rows" 1124 1 ["bag", "rows", "section", "first", "turn"] vh)))))))
noncomputable def Ig (P:Params):List Obj:=ap (fA 1405 2262 (st 197) "_law_choose" 1136 1 ["verb"] vh) (ap (fB 1412 2269 (st 198) "_law_heads" 1138 1 vh) (ap (fB 1417 2275 (st 199) "_law_is_right" 1140 1 vh) ((fB 1422 2281 (st 200) "law" 1158 1 vh))))
noncomputable def ob (P:Params) (n:Nat):Obj:=cd n 696 (cd n 333 (cd n 146 (cd n 55 (bA (g0 P) (n - 11)) (cd n 99 (bA (g1 P) (n - 55)) (bA (g2 P) (n - 99)))) (cd n 237 (cd n 190 (bA (g3 P) (n - 146)) (bA (g4 P) (n - 190))) (cd n 284 (bA (g5 P) (n - 237)) (bA (g6 P) (n - 284))))) (cd n 516 (cd n 422 (cd n 377 (bA (g7 P) (n - 333)) (bA (g8 P) (n - 377))) (cd n 472 (bA (g9 P) (n - 422)) (bA (Fh P) (n - 472)))) (cd n 604 (cd n 560 (bA (Cy P) (n - 516)) (bA (yW P) (n - 560))) (cd n 648 (bA (FB P) (n - 604)) (bA (Bm P) (n - 648)))))) (cd n 1070 (cd n 881 (cd n 786 (cd n 740 (bA (H9 P) (n - 696)) (bA (K7 P) (n - 740))) (cd n 834 (bA (K8 P) (n - 786)) (bA (Ia P) (n - 834)))) (cd n 976 (cd n 926 (bA (K9 P) (n - 881)) (bA (IJ P) (n - 926))) (cd n 1020 (bA (IK P) (n - 976)) (bA (Ib P) (n - 1020))))) (cd n 1259 (cd n 1163 (cd n 1119 (bA (Ic P) (n - 1070)) (bA (IL P) (n - 1119))) (cd n 1209 (bA (IM P) (n - 1163)) (bA (Id P) (n - 1209)))) (cd n 1358 (cd n 1309 (bA (Ie P) (n - 1259)) (bA (IN P) (n - 1309))) (cd n 1405 (bA (IO P) (n - 1358)) (bA (Ig P) (n - 1405))))))
noncomputable def FC (P:Params) (nm:PySem.Value):List DictEntry:=[en P "__name__" 165 nm,en P "__doc__" 166 .none,en P "__package__" 167 .none,en P "__loader__" 168 (.builtin "__main__.__loader__#opaque"),en P "__spec__" 169 .none,en P "__annotations__" 170 (.ref 6),en P "__builtins__" 171 (.ref 4),en P "__file__" 173 (vs "/claim/cut.py" 172),en P "__cached__" 174 .none]
noncomputable def Mx (P:Params):List DictEntry:=er P [("_wall",193,21)]++[en P "QUOTES" 197 (vs "\"'" 196)]++er P [("Line",235,45)]++[en P "AREA_A" 237 (vi 8 236),en P "AREA_B" 239 (vi 12 238)]++er P [("LedgerError",281,75),("TokenFault",297,88),("GrammarFault",313,100)]++[en P "FIGURES_decimals" 317 (vs "0123456789" 316)]++er P [("cut_quotient",325,109),("decimal",334,117),("negated",341,124),("units_at",352,131),("is_whole",359,138),("whole_of",366,145),("worth_of",375,152),("read_decimal",388,159),("write_decimal",396,166)]++[en P "LETTERS" 400 (vs "ABCDEFGHIJKLMNOPQRSTUVWXYZ" 399),en P "FIGURES_tokens" 402 (vs "0123456789" 401),en P "WORD_SIGNS" 406 (vs "ABCDEFGHIJKLMNOPQRSTUVWXYZ0123456789-" 405),en P "SINGLE_SIGNS" 408 (vs "():+-*/=<>" 407),en P "DOUBLE_SIGNS" 410 (vs "** <= >=" 409),en P "ENDS" 412 (vs ".,;" 411),en P "MOST_WORD" 414 (vi 30 413),en P "MOST_FIGURES" 416 (vi 18 415),en P "MOST_LITERAL" 418 (vi 160 417)]++er P [("Token",462,192),("capital_of",469,203),("capitals",475,208)]
noncomputable def My (P:Params):List DictEntry:=er P [("is_word_sign",482,215),("is_parted",490,222),("line_fault",499,229),("run_end",508,236),("number_end",517,243),("literal_end",527,250),("picture_end",536,257),("checked_word",542,262),("checked_number",552,269),("checked_literal",563,276),("checked_picture",572,283),("need_apart",581,290),("mark_at",591,297),("worth_at",604,304),("is_blank_at",612,311),("is_picture_next",619,318),("add_tokens",633,325),("is_word_is",641,332),("tokens_of",650,339),("quoted",657,346)]++[en P "MOST_SUBSCRIPTS" 661 (vi 7 660)]++er P [("FIGURE_NAMES",695,347),("FIGURE_SHOWN",711,348),("is_part_next",720,355),("read_subscripts",729,362),("read_part",739,369),("read_ref",751,376),("read_all",759,383),("read_figure",766,390),("read_operand",775,397)]
noncomputable def Mz (P:Params):List DictEntry:=er P [("shown_octets",781,402),("shown_subscripts",787,407),("show_ref",797,414),("show_operand",805,421)]++[en P "MOST_DEEP_expressions" 809 (vi 20 808),en P "SIGNED" 811 (vi 3 810),en P "RAISED" 813 (vi 4 812),en P "BARE" 815 (vi 5 814)]++er P [("LEVELS",831,422),("read_expression",838,429),("sign_among",847,436),("read_sum",857,443),("read_product",867,450),("read_factor",878,457),("is_lone_number",887,464),("read_power",896,471),("read_primary",906,478),("level_of",913,485),("bracketed",922,492),("show_expression",931,499),("right_part",938,506),("show_signed",945,513)]++[en P "MOST_DEEP_conditions" 949 (vi 20 948)]++er P [("OPPOSITES",968,514),("CLASSES",973,515),("WORDS_OF_SIGNS",989,516),("WORDS_OF_RELATIONS",999,517),("RELATIONS",1005,518),("word_here",1015,526),("is_relation_at",1024,533)]
noncomputable def MA (P:Params):List DictEntry:=er P [("place_of_word",1032,540),("is_predicate_here",1041,547),("is_bare_relation_here",1048,554),("ConditionReader",1176,648),("read_condition",1185,660),("show_relation",1193,667),("strength_of",1200,674),("in_place",1209,681),("show_simple",1216,688),("show_condition",1225,695),("PHRASES",1243,696),("CATEGORY_WORDS",1259,697),("MODE_WORDS",1272,698),("SET_WORDS",1282,699),("operand_text",1289,706),("ref_text",1296,713),("joined",1302,718),("worded",1310,725),("ref_behind_word",1318,732),("operand_behind_word",1326,739),("show_body",1332,744),("show_phrase",1339,751),("show_branches",1345,756),("rounded",1353,763),("summands",1359,768),("show_goals",1365,773),("show_arith",1371,778),("show_divide",1386,785),("show_corr",1403,792),("show_refs",1409,797)]
noncomputable def MB (P:Params):List DictEntry:=er P [("show_initialize",1415,802),("show_search",1421,807),("show_display",1427,812),("show_data",1436,819),("show_bounds",1444,826),("show_string",1461,833),("show_unstring",1467,838),("show_tally",1481,845),("show_replace",1495,852),("show_convert",1508,859),("show_texts",1517,866),("show_pair",1524,873),("show_range",1532,880),("show_if",1541,887),("show_part",1549,894),("show_parts",1555,899),("show_evaluate",1561,904),("show_varying",1574,911),("show_loop",1582,918),("show_perform",1592,925),("show_call",1598,930),("show_control",1604,935),("show_read",1619,942),("show_record",1632,949),("show_start",1645,956),("show_keys",1651,961),("show_side",1660,968),("show_sort",1675,975),("show_files",1681,980),("show_reckoning",1689,987)]
noncomputable def MC (P:Params):List DictEntry:=er P [("show_statement",1698,994),("text_tokens",1706,1000),("row_tokens",1715,1007),("procedure_tokens",1724,1014)]++[en P "MOST_NEST" 1728 (vi 12 1727)]++er P [("VERBS",1762,1015),("Paragraph",1802,1039),("Procedures",1855,1079),("read_continue",1863,1090),("is_verb_here",1870,1097),("body_at",1880,1104),("statement_at",1891,1111),("is_head",1899,1118),("is_end",1906,1125),("read_head",1915,1132),("rows_here",1921,1137),("procedures_by",1930,1144)]++[en P "MOST_OCTET" 1934 (vi 255 1933),en P "RESERVED" 1936 (vs " ACCEPT ACCESS ADD ADVANCING AFTER ALL ALPHABETIC ALPHABETIC-LOWER ALPHABETIC-UPPER ALPHANUMERIC ALPHANUMERIC-EDITED ALSO ALTERNATE AND ANY ARE AREA AREAS ASCENDING ASSIGN AT AUTHOR BEFORE BINARY BLANK BLOCK BY CALL CHARACTER CHARACTERS CLOSE COMP COMP-3 COMPUTATIONAL COMPUTATIONAL-3 COMPUTE CONFIGURATION CONTAINS CONTENT CONTINUE CONVERTING COPY CORR CORRESPONDING COUNT DATA DATE-COMPILED DATE-WRITTEN DELETE DELIMITED DELIMITER DEPENDING DESCENDING DISPLAY DIVIDE DIVISION DOWN DUPLICATES DYNAMIC ELSE END END-ADD END-CALL END-COMPUTE END-DELETE END-DIVIDE END-EVALUATE END-IF END-MULTIPLY END-PERFORM END-READ END-RETURN END-REWRITE END-SEARCH END-START END-STRING END-SUBTRACT END-UNSTRING END-WRITE ENVIRONMENT EQUAL ERROR EVALUATE EXCEPTION EXIT EXTEND EXTERNAL FALSE FD FILE FILE-CONTROL FILLER FIRST FOR FROM GIVING GLOBAL GO GREATER HIGH-VALUE HIGH-VALUES I-O I-O-CONTROL IDENTIFICATION IF IN INDEX INDEXED INITIAL INITIALIZE INPUT INPUT-OUTPUT INSPECT INSTALLATION INTO INVALID IS JUST JUSTIFIED KEY LABEL LEADING LEFT LESS LINE LINES LINKAGE LOCK LOW-VALUE LOW-VALUES MERGE MODE MOVE MULTIPLY NATIVE NEGATIVE NEXT NO NOT NUMERIC NUMERIC-EDITED OBJECT-COMPUTER OCCURS OF OFF OMITTED ON OPEN OPTIONAL OR ORDER ORGANIZATION OTHER OUTPUT OVERFLOW PACKED-DECIMAL PERFORM PIC PICTURE POINTER POSITIVE PROCEDURE PROCEED PROGRAM PROGRAM-ID QUOTE QUOTES RANDOM READ RECORD RECORDS REDEFINES REFERENCE RELATIVE RELEASE REMAINDER RENAMES REPLACE REPLACING RETURN REWRITE RIGHT ROUNDED RUN SAME SD SEARCH SECTION SECURITY SELECT SENTENCE SEPARATE SEQUENTIAL SET SIGN SIZE SORT SORT-MERGE SOURCE-COMPUTER SPACE SPACES SPECIAL-NAMES STANDARD START STATUS STOP STRING SUBTRACT SYNC SYNCHRONIZED TALLYING TEST THAN THEN THROUGH THRU TIMES TO TRAILING TRUE UNSTRING UNTIL UP UPON USAGE USING VALUE VALUES VARYING WHEN WITH WORKING-STORAGE WRITE ZERO ZEROES ZEROS " 1935)]++er P [("is_reserved",1943,1151),("octets_of_text",1949,1156),("Reader",2156,1325),("body_here",2167,1336),("name_pair",2177,1343),("read_if",2188,1350),("read_goto",2197,1357),("read_exit",2205,1364),("read_stop",2213,1371),("_law_take",2224,1378),("_law_bag",2233,1385)]
noncomputable def MD (P:Params):List DictEntry:=er P [("_law_statement",2244,1392),("_law_body",2250,1397),("_law_rows",2261,1404),("_law_choose",2268,1411),("_law_heads",2274,1416),("_law_is_right",2280,1421),("law",2286,1426)]
noncomputable def ME (P:Params):List DictEntry:=Mx P++(My P++(Mz P++(MA P++(MB P++(MC P++(MD P))))))
noncomputable def IP:List PySem.Value:=[(vi 1 0),(vi 0 0),(.ref 20),(vi 6 0),(vi 0 0),(.ref 27),(vi 17 0),(vi 0 0),(.ref 55),(vi 26 0),(vi 0 0),(.ref 84),(vi 28 0),(vi 0 0),(.ref 96),(vi 32 0),(vi 0 0),(.ref 108),(vi 36 0),(vi 0 0),(.ref 116),(vi 43 0),(vi 0 0),(.ref 123),(vi 45 0),(vi 0 0),(.ref 130),(vi 53 0),(vi 0 0),(.ref 137),(vi 55 0),(vi 0 0),(.ref 144),(vi 57 0),(vi 0 0),(.ref 151),(vi 62 0),(vi 0 0),(.ref 158),(vi 77 0),(vi 0 0),(.ref 165),(vi 93 0),(vi 0 0),(.ref 172),(vi 103 0),(vi 0 0),(.ref 202),(vi 105 0),(vi 0 0),(.ref 207),(vi 107 0),(vi 0 0),(.ref 214),(vi 109 0),(vi 0 0),(.ref 221),(vi 111 0),(vi 0 0),(.ref 228),(vi 113 0),(vi 0 0),(.ref 235),(vi 117 0),(vi 0 0),(.ref 242),(vi 122 0),(vi 0 0),(.ref 249),(vi 133 0),(vi 0 0),(.ref 256),(vi 138 0),(vi 0 0),(.ref 261),(vi 147 0),(vi 0 0),(.ref 268),(vi 152 0),(vi 0 0),(.ref 275),(vi 158 0),(vi 0 0),(.ref 282),(vi 163 0),(vi 0 0),(.ref 289),(vi 171 0),(vi 0 0),(.ref 296),(vi 181 0),(vi 0 0),(.ref 303),(vi 201 0),(vi 0 0),(.ref 310),(vi 203 0),(vi 0 0),(.ref 317),(vi 205 0),(vi 0 0),(.ref 324),(vi 225 0),(vi 0 0),(.ref 331),(vi 227 0),(vi 0 0),(.ref 338),(vi 232 0),(vi 0 0),(.ref 345),(vi 238 0),(vi 0 0),(.ref 354),(vi 251 0),(vi 0 0),(.ref 361),(vi 259 0),(vi 0 0),(.ref 368),(vi 266 0),(vi 0 0),(.ref 375),(vi 276 0),(vi 0 0),(.ref 382),(vi 283 0),(vi 0 0),(.ref 389),(vi 287 0),(vi 0 0),(.ref 396),(vi 296 0),(vi 0 0),(.ref 401),(vi 298 0),(vi 0 0),(.ref 406),(vi 303 0),(vi 0 0),(.ref 413),(vi 311 0),(vi 0 0),(.ref 420),(vi 325 0),(vi 0 0),(.ref 428),(vi 327 0),(vi 0 0),(.ref 435),(vi 332 0),(vi 0 0),(.ref 442),(vi 340 0),(vi 0 0),(.ref 449),(vi 346 0),(vi 0 0),(.ref 456),(vi 356 0),(vi 0 0),(.ref 463),(vi 361 0),(vi 0 0),(.ref 470),(vi 367 0),(vi 0 0),(.ref 477),(vi 375 0),(vi 0 0),(.ref 484),(vi 379 0),(vi 0 0),(.ref 491),(vi 382 0),(vi 0 0),(.ref 498),(vi 395 0),(vi 0 0),(.ref 505),(vi 397 0),(vi 0 0),(.ref 512),(vi 408 0),(vi 0 0),(.ref 525),(vi 411 0),(vi 0 0),(.ref 532),(vi 416 0),(vi 0 0),(.ref 539),(vi 419 0),(vi 0 0),(.ref 546),(vi 423 0),(vi 0 0),(.ref 553),(vi 425 0),(vi 0 0),(.ref 560),(vi 528 0),(vi 0 0),(.ref 659),(vi 532 0),(vi 0 0),(.ref 666),(vi 535 0),(vi 0 0),(.ref 673),(vi 537 0),(vi 0 0),(.ref 680),(vi 540 0),(vi 0 0),(.ref 687),(vi 546 0),(vi 0 0),(.ref 694),(vi 564 0),(vi 0 0),(.ref 705),(vi 566 0),(vi 0 0),(.ref 712),(vi 568 0),(vi 0 0),(.ref 717),(vi 570 0),(vi 0 0),(.ref 724),(vi 572 0),(vi 0 0),(.ref 731),(vi 574 0),(vi 0 0),(.ref 738),(vi 576 0),(vi 0 0),(.ref 743),(vi 580 0),(vi 0 0),(.ref 750),(vi 584 0),(vi 0 0),(.ref 755),(vi 586 0),(vi 0 0),(.ref 762),(vi 588 0),(vi 0 0),(.ref 767),(vi 599 0),(vi 0 0),(.ref 772),(vi 601 0),(vi 0 0),(.ref 777),(vi 617 0),(vi 0 0),(.ref 784),(vi 622 0),(vi 0 0),(.ref 791),(vi 627 0),(vi 0 0),(.ref 796),(vi 629 0),(vi 0 0),(.ref 801),(vi 632 0),(vi 0 0),(.ref 806),(vi 642 0),(vi 0 0),(.ref 811),(vi 644 0),(vi 0 0),(.ref 818),(vi 661 0),(vi 0 0),(.ref 825),(vi 663 0),(vi 0 0),(.ref 832),(vi 670 0),(vi 0 0),(.ref 837),(vi 679 0),(vi 0 0),(.ref 844),(vi 685 0),(vi 0 0),(.ref 851),(vi 691 0),(vi 0 0),(.ref 858),(vi 694 0),(vi 0 0),(.ref 865),(vi 705 0),(vi 0 0),(.ref 872),(vi 707 0),(vi 0 0),(.ref 879),(vi 709 0),(vi 0 0),(.ref 886),(vi 712 0),(vi 0 0),(.ref 893),(vi 723 0),(vi 0 0),(.ref 898),(vi 725 0),(vi 0 0),(.ref 903),(vi 733 0),(vi 0 0),(.ref 910),(vi 739 0),(vi 0 0),(.ref 917),(vi 748 0),(vi 0 0),(.ref 924),(vi 753 0),(vi 0 0),(.ref 929),(vi 758 0),(vi 0 0),(.ref 934),(vi 773 0),(vi 0 0),(.ref 941),(vi 777 0),(vi 0 0),(.ref 948),(vi 781 0),(vi 0 0),(.ref 955),(vi 784 0),(vi 0 0),(.ref 960),(vi 786 0),(vi 0 0),(.ref 967),(vi 790 0),(vi 0 0),(.ref 974),(vi 797 0),(vi 0 0),(.ref 979),(vi 819 0),(vi 0 0),(.ref 986),(vi 825 0),(vi 0 0),(.ref 993),(vi 832 0),(vi 0 0),(.ref 999),(vi 836 0),(vi 0 0),(.ref 1006),(vi 845 0),(vi 0 0),(.ref 1013),(vi 853 0),(vi 0 0),(.ref 1021),(vi 862 0),(vi 0 0),(.ref 1049),(vi 876 0),(vi 0 0),(.ref 1089),(vi 879 0),(vi 0 0),(.ref 1096),(vi 881 0),(vi 0 0),(.ref 1103),(vi 886 0),(vi 0 0),(.ref 1110),(vi 892 0),(vi 0 0),(.ref 1117),(vi 897 0),(vi 0 0),(.ref 1124),(vi 901 0),(vi 0 0),(.ref 1131),(vi 910 0),(vi 0 0),(.ref 1136),(vi 925 0),(vi 0 0),(.ref 1143),(vi 934 0),(vi 0 0),(.ref 1150),(vi 936 0),(vi 0 0),(.ref 1155),(vi 941 0),(vi 0 0),(.ref 1162),(vi 1065 0),(vi 0 0),(.ref 1335),(vi 1071 0),(vi 0 0),(.ref 1342),(vi 1076 0),(vi 0 0),(.ref 1349),(vi 1084 0),(vi 0 0),(.ref 1356),(vi 1096 0),(vi 0 0),(.ref 1363),(vi 1099 0),(vi 0 0),(.ref 1370),(vi 1104 0),(vi 0 0),(.ref 1377),(vi 1108 0),(vi 0 0),(.ref 1384),(vi 1113 0),(vi 0 0),(.ref 1391),(vi 1122 0),(vi 0 0),(.ref 1396),(vi 1124 0),(vi 0 0),(.ref 1403),(vi 1136 0),(vi 0 0),(.ref 1410),(vi 1138 0),(vi 0 0),(.ref 1415),(vi 1140 0),(vi 0 0),(.ref 1420),(vi 1158 0),(vi 0 0),(.ref 1425)]
noncomputable def IQ (P:Params) (n:Nat):Obj:=match Nat.blt n 11 with
 | true=>bA [boot_o_0 P,boot_o_1 P,default,default,boot_o_4 P,boot_o_5 P,boot_o_6 P,boot_o_7 P,boot_o_8 P,boot_o_9 P,boot_o_10 P] n
 | false=>ob P n
noncomputable def q8 (P:Params) (n:Nat) (x2:Obj) (nm:PySem.Value) (m ep pl:Nat) (x75:Obj):BT :=
 Cw (Cw (Fz (Fz (Cw (Cw (H8 x75)))))) (Fz (Cw (Fz (H8 (og (IP.take pl))))) (Cw (Cw (H8 (od (FC P nm++(ME P).take m) ep))) (Fz (H8 x2) (gT (IQ P) n 11 1 0))))
noncomputable def MF (P:Params):Obj:=(oe [en P "type.__subclasses__.Exception.0" 278 (vi 75 0),en P "type.__subclasses__.Exception.n" 279 (vi 1 0)] 2)
noncomputable def FD:Obj:=(ok "LedgerError" [(.type "Exception")] [(.ref 75),(.type "Exception"),(.type "BaseException"),(.type "object")] 74 "LedgerError" true [] [(some (.ref 50)),none,(some (vs "LedgerError" 242)),(some (vs "LedgerError" 250)),(some (.builtin "Exception.__new__")),(some (.bool true))])
noncomputable def FE:Obj:=(ok "LedgerError" [(.type "Exception")] [(.ref 75),(.type "Exception"),(.type "BaseException"),(.type "object")] 74 "LedgerError" true [(.ref 88)] [(some (.ref 50)),none,(some (vs "LedgerError" 242)),(some (vs "LedgerError" 250)),(some (.builtin "Exception.__new__")),(some (.bool true))])
noncomputable def cr:Obj:=(ok "LedgerError" [(.type "Exception")] [(.ref 75),(.type "Exception"),(.type "BaseException"),(.type "object")] 74 "LedgerError" true [(.ref 88),(.ref 100)] [(some (.ref 50)),none,(some (vs "LedgerError" 242)),(some (vs "LedgerError" 250)),(some (.builtin "Exception.__new__")),(some (.bool true))])
noncomputable def iu (P:Params) (n:Nat) (nm:PySem.Value) (m pl:Nat) (x75:Obj):BT:=q8 P n (MF P) nm m (m+9) pl x75
noncomputable def T0 (P:Params):BT:=q8 P 15 (oe [] 0) m0 0 9 0 (default)
noncomputable def s0 (w:World) (os:OsState):SharedT:=⟨T0 w.params,15,boot_life,#[],boot_drawn,187,os⟩
noncomputable def Cz:Pos:=⟨0,0,0,0⟩
noncomputable def T1 (P:Params):BT:=q8 P 22 (oe [] 0) m1 2 11 3 (default)
noncomputable def s1 (w:World) (os:OsState):SharedT:=⟨T1 w.params,22,boot_life,#[],boot_drawn,198,os⟩
noncomputable def FG:Pos:=⟨5,0,5,6⟩
noncomputable def T2 (P:Params):BT:=q8 P 50 (oe [] 0) m1 3 12 6 (default)
noncomputable def s2 (w:World) (os:OsState):SharedT:=⟨T2 w.params,50,boot_life,#[],boot_drawn,236,os⟩
noncomputable def FH:Pos:=⟨6,0,13,46⟩
noncomputable def T3 (P:Params):BT:=q8 P 50 (oe [] 0) m2 5 14 6 (default)
noncomputable def s3 (w:World) (os:OsState):SharedT:=⟨T3 w.params,50,boot_life,#[],boot_drawn,242,os⟩
noncomputable def FI:Pos:=⟨16,0,16,8⟩
noncomputable def T4 (P:Params):BT:=iu P 79 m2 6 9 FD
noncomputable def s4 (w:World) (os:OsState):SharedT:=⟨T4 w.params,79,boot_life,#[],boot_drawn,282,os⟩
noncomputable def FJ:Pos:=⟨17,0,25,35⟩
noncomputable def T5 (P:Params):BT:=iu P 91 m2 7 12 FE
noncomputable def s5 (w:World) (os:OsState):SharedT:=⟨T5 w.params,91,boot_life,#[],boot_drawn,298,os⟩
noncomputable def FK:Pos:=⟨26,0,27,8⟩
noncomputable def T6 (P:Params):BT:=iu P 103 m3 9 15 cr
noncomputable def s6 (w:World) (os:OsState):SharedT:=⟨T6 w.params,103,boot_life,#[],boot_drawn,318,os⟩
noncomputable def FL:Pos:=⟨31,0,31,16⟩
noncomputable def T7 (P:Params):BT:=iu P 160 m3 17 39 cr
noncomputable def s7 (w:World) (os:OsState):SharedT:=⟨T7 w.params,160,boot_life,#[],boot_drawn,389,os⟩
noncomputable def FM:Pos:=⟨62,0,76,69⟩
noncomputable def T8 (P:Params):BT:=iu P 167 m4 27 42 cr
noncomputable def s8 (w:World) (os:OsState):SharedT:=⟨T8 w.params,167,boot_life,#[],boot_drawn,419,os⟩
noncomputable def FN:Pos:=⟨92,0,92,12⟩
noncomputable def T9 (P:Params):BT:=iu P 197 m4 28 45 cr
noncomputable def s9 (w:World) (os:OsState):SharedT:=⟨T9 w.params,197,boot_life,#[],boot_drawn,463,os⟩
noncomputable def FO:Pos:=⟨93,0,102,38⟩
noncomputable def MG (P:Params):BT:=iu P 251 m4 36 69 cr
noncomputable def Ih (w:World) (os:OsState):SharedT:=⟨MG w.params,251,boot_life,#[],boot_drawn,528,os⟩
noncomputable def Bn:Pos:=⟨122,0,132,56⟩
noncomputable def MH (P:Params):BT:=iu P 305 m4 44 93 cr
noncomputable def Ii (w:World) (os:OsState):SharedT:=⟨MH w.params,305,boot_life,#[],boot_drawn,605,os⟩
noncomputable def Bo:Pos:=⟨181,0,200,41⟩
noncomputable def MI (P:Params):BT:=iu P 347 m5 51 111 cr
noncomputable def FP (w:World) (os:OsState):SharedT:=⟨MI w.params,347,boot_life,#[],boot_drawn,662,os⟩
noncomputable def vj:Pos:=⟨235,0,235,15⟩
noncomputable def MJ (P:Params):BT:=iu P 349 m5 53 111 cr
noncomputable def FQ (w:World) (os:OsState):SharedT:=⟨MJ w.params,349,boot_life,#[],boot_drawn,712,os⟩
noncomputable def vk:Pos:=⟨237,0,237,12⟩
noncomputable def ML (P:Params):BT:=iu P 403 m5 61 135 cr
noncomputable def FR (w:World) (os:OsState):SharedT:=⟨ML w.params,403,boot_life,#[],boot_drawn,782,os⟩
noncomputable def vm:Pos:=⟨296,0,297,60⟩
noncomputable def MM (P:Params):BT:=iu P 430 m6 70 147 cr
noncomputable def FS (w:World) (os:OsState):SharedT:=⟨MM w.params,430,boot_life,#[],boot_drawn,839,os⟩
noncomputable def vp:Pos:=⟨325,0,326,30⟩
noncomputable def MN (P:Params):BT:=iu P 486 m6 78 171 cr
noncomputable def FT (w:World) (os:OsState):SharedT:=⟨MN w.params,486,boot_life,#[],boot_drawn,914,os⟩
noncomputable def vq:Pos:=⟨375,0,378,36⟩
noncomputable def MO (P:Params):BT:=iu P 516 m7 85 183 cr
noncomputable def Fi (w:World) (os:OsState):SharedT:=⟨MO w.params,516,boot_life,#[],boot_drawn,974,os⟩
noncomputable def sa:Pos:=⟨404,0,404,7⟩
noncomputable def MP (P:Params):BT:=iu P 541 m7 91 192 cr
noncomputable def FU (w:World) (os:OsState):SharedT:=⟨MP w.params,541,boot_life,#[],boot_drawn,1033,os⟩
noncomputable def vr:Pos:=⟨416,0,418,68⟩
noncomputable def MQ (P:Params):BT:=iu P 555 m7 93 198 cr
noncomputable def La (w:World) (os:OsState):SharedT:=⟨MQ w.params,555,boot_life,#[],boot_drawn,1049,os⟩
noncomputable def Bp:Pos:=⟨423,0,424,56⟩
noncomputable def MR (P:Params):BT:=iu P 653 m7 94 201 cr
noncomputable def Lb (w:World) (os:OsState):SharedT:=⟨MR w.params,653,boot_life,#[],boot_drawn,1177,os⟩
noncomputable def Bq:Pos:=⟨425,0,527,19⟩
noncomputable def MS (P:Params):BT:=iu P 696 m8 100 219 cr
noncomputable def IR (w:World) (os:OsState):SharedT:=⟨MS w.params,696,boot_life,#[],boot_drawn,1228,os⟩
noncomputable def vu:Pos:=⟨559,0,559,8⟩
noncomputable def MT (P:Params):BT:=iu P 699 m8 103 219 cr
noncomputable def Ij (w:World) (os:OsState):SharedT:=⟨MT w.params,699,boot_life,#[],boot_drawn,1273,os⟩
noncomputable def sd:Pos:=⟨562,0,562,10⟩
noncomputable def MU (P:Params):BT:=iu P 745 m8 111 240 cr
noncomputable def IS (w:World) (os:OsState):SharedT:=⟨MU w.params,745,boot_life,#[],boot_drawn,1333,os⟩
noncomputable def vw:Pos:=⟨576,0,579,52⟩
noncomputable def MV (P:Params):BT:=iu P 793 m8 119 264 cr
noncomputable def Lc (w:World) (os:OsState):SharedT:=⟨MV w.params,793,boot_life,#[],boot_drawn,1404,os⟩
noncomputable def Br:Pos:=⟨622,0,626,71⟩
noncomputable def MW (P:Params):BT:=iu P 839 m8 127 288 cr
noncomputable def Le (w:World) (os:OsState):SharedT:=⟨MW w.params,839,boot_life,#[],boot_drawn,1468,os⟩
noncomputable def Bt:Pos:=⟨670,0,678,82⟩
noncomputable def MX (P:Params):BT:=iu P 895 m8 135 312 cr
noncomputable def Lg (w:World) (os:OsState):SharedT:=⟨MX w.params,895,boot_life,#[],boot_drawn,1550,os⟩
noncomputable def Bu:Pos:=⟨712,0,722,46⟩
noncomputable def MY (P:Params):BT:=iu P 943 m8 143 336 cr
noncomputable def Lh (w:World) (os:OsState):SharedT:=⟨MY w.params,943,boot_life,#[],boot_drawn,1620,os⟩
noncomputable def Bv:Pos:=⟨773,0,776,68⟩
noncomputable def MZ (P:Params):BT:=iu P 995 m9 151 360 cr
noncomputable def Li (w:World) (os:OsState):SharedT:=⟨MZ w.params,995,boot_life,#[],boot_drawn,1701,os⟩
noncomputable def Bw:Pos:=⟨831,0,831,8⟩
noncomputable def M1 (P:Params):BT:=iu P 1016 kF 156 369 cr
noncomputable def Lj (w:World) (os:OsState):SharedT:=⟨M1 w.params,1016,boot_life,#[],boot_drawn,1763,os⟩
noncomputable def Bx:Pos:=⟨852,0,852,5⟩
noncomputable def M2 (P:Params):BT:=iu P 1044 kF 157 372 cr
noncomputable def Ll (w:World) (os:OsState):SharedT:=⟨M2 w.params,1044,boot_life,#[],boot_drawn,1803,os⟩
noncomputable def By:Pos:=⟨853,0,861,57⟩
noncomputable def M3 (P:Params):BT:=iu P 1084 kF 158 375 cr
noncomputable def Lm (w:World) (os:OsState):SharedT:=⟨M3 w.params,1084,boot_life,#[],boot_drawn,1856,os⟩
noncomputable def Bz:Pos:=⟨862,0,875,16⟩
noncomputable def M4 (P:Params):BT:=iu P 1138 kF 166 399 cr
noncomputable def Ln (w:World) (os:OsState):SharedT:=⟨M4 w.params,1138,boot_life,#[],boot_drawn,1922,os⟩
noncomputable def BA:Pos:=⟨910,0,924,57⟩
noncomputable def M5 (P:Params):BT:=iu P 1157 jb 171 408 cr
noncomputable def Lo (w:World) (os:OsState):SharedT:=⟨M5 w.params,1157,boot_life,#[],boot_drawn,1950,os⟩
noncomputable def BB:Pos:=⟨936,0,940,25⟩
noncomputable def M6 (P:Params):BT:=iu P 1330 jb 172 411 cr
noncomputable def Lq (w:World) (os:OsState):SharedT:=⟨M6 w.params,1330,boot_life,#[],boot_drawn,2157,os⟩
noncomputable def BC:Pos:=⟨941,0,1063,20⟩
noncomputable def M7 (P:Params):BT:=iu P 1379 vh 179 432 cr
noncomputable def Lr (w:World) (os:OsState):SharedT:=⟨M7 w.params,1379,boot_life,#[],boot_drawn,2225,os⟩
noncomputable def BD:Pos:=⟨1104,0,1107,16⟩
noncomputable def T36 (P:Params):BT:=iu P 1427 vh 187 456 cr
noncomputable def s36 (w:World) (os:OsState):SharedT:=⟨T36 w.params,1427,boot_life,#[],boot_drawn,2287,os⟩
noncomputable def vx:Pos:=⟨1158,0,1167,99⟩
noncomputable def bY:Env:={ scope:=pw.main.scope,locals:=mainNs,globals:=mainNs,cells:=[],code:= .ref 13,frame:=some 14 }
noncomputable def bU:Pos:=⟨0,0,0,0⟩
noncomputable def cT:Code:= .body (behindTheImports pw) bY
noncomputable def annT:Option PySem.Value:=some (.ref 6)
noncomputable abbrev cC (w:World) (n:Nat) (s:SharedT) (t:Thread):=segRunT treeTable pw w 11 annT 1 n s t
noncomputable def sts (a n:Nat):List Stmt:=(bodyL.drop a).take n
theorem r1 (w:World):(λ os=>cC w 48 (s0 w os) (piecesOf (sts 0 3) bY cT Cz [topFrame bU]))=λ os=>some (.next,s1 w os,cT,FG):=by kernel_rfl
theorem r2 (w:World):(λ os=>cC w 256 (s1 w os) (piecesOf (sts 3 1) bY cT FG [topFrame bU]))=λ os=>some (.next,s2 w os,cT,FH):=by kernel_rfl
theorem r3 (w:World):(λ os=>cC w 28 (s2 w os) (piecesOf (sts 4 3) bY cT FH [topFrame bU]))=λ os=>some (.next,s3 w os,cT,FI):=by kernel_rfl
theorem r4 (w:World):(λ os=>cC w 267 (s3 w os) (piecesOf (sts 7 1) bY cT FI [topFrame bU]))=λ os=>some (.next,s4 w os,cT,FJ):=by kernel_rfl
theorem r5 (w:World):(λ os=>cC w 214 (s4 w os) (piecesOf (sts 8 1) bY cT FJ [topFrame bU]))=λ os=>some (.next,s5 w os,cT,FK):=by kernel_rfl
theorem r6 (w:World):(λ os=>cC w 232 (s5 w os) (piecesOf (sts 9 3) bY cT FK [topFrame bU]))=λ os=>some (.next,s6 w os,cT,FL):=by kernel_rfl
theorem r7 (w:World):(λ os=>cC w 249 (s6 w os) (piecesOf (sts 12 8) bY cT FL [topFrame bU]))=λ os=>some (.next,s7 w os,cT,FM):=by kernel_rfl
theorem r8 (w:World):(λ os=>cC w 137 (s7 w os) (piecesOf (sts 20 11) bY cT FM [topFrame bU]))=λ os=>some (.next,s8 w os,cT,FN):=by kernel_rfl
theorem r9 (w:World):(λ os=>cC w 265 (s8 w os) (piecesOf (sts 31 1) bY cT FN [topFrame bU]))=λ os=>some (.next,s9 w os,cT,FO):=by kernel_rfl
theorem M8 (w:World):(λ os=>cC w 240 (s9 w os) (piecesOf (sts 32 8) bY cT FO [topFrame bU]))=λ os=>some (.next,Ih w os,cT,Bn):=by kernel_rfl
theorem IT (w:World):(λ os=>cC w 252 (Ih w os) (piecesOf (sts 40 8) bY cT Bn [topFrame bU]))=λ os=>some (.next,Ii w os,cT,Bo):=by kernel_rfl
theorem M9 (w:World):(λ os=>cC w 204 (Ii w os) (piecesOf (sts 48 8) bY cT Bo [topFrame bU]))=λ os=>some (.next,FP w os,cT,vj):=by kernel_rfl
theorem IU (w:World):(λ os=>cC w 261 (FP w os) (piecesOf (sts 56 2) bY cT vj [topFrame bU]))=λ os=>some (.next,FQ w os,cT,vk):=byRow2 "special-get-raises" (P:=λ w=>(λ os=>cC w 261 (FP w os) (piecesOf (sts 56 2) bY cT vj [topFrame bU]))=λ os=>some (.next,FQ w os,cT,vk)) (λ w=>by kernel_rfl) (λ w=>by kernel_rfl) w
theorem Na (w:World):(λ os=>cC w 245 (FQ w os) (piecesOf (sts 58 8) bY cT vk [topFrame bU]))=λ os=>some (.next,FR w os,cT,vm):=by kernel_rfl
theorem Nb (w:World):(λ os=>cC w 248 (FR w os) (piecesOf (sts 66 10) bY cT vm [topFrame bU]))=λ os=>some (.next,FS w os,cT,vp):=byRow2 "special-get-raises" (P:=λ w=>(λ os=>cC w 248 (FR w os) (piecesOf (sts 66 10) bY cT vm [topFrame bU]))=λ os=>some (.next,FS w os,cT,vp)) (λ w=>by kernel_rfl) (λ w=>by kernel_rfl) w
theorem Nc (w:World):(λ os=>cC w 252 (FS w os) (piecesOf (sts 76 8) bY cT vp [topFrame bU]))=λ os=>some (.next,FT w os,cT,vq):=by kernel_rfl
theorem Nd (w:World):(λ os=>cC w 253 (FT w os) (piecesOf (sts 84 8) bY cT vq [topFrame bU]))=λ os=>some (.next,Fi w os,cT,sa):=byRow2 "special-get-raises" (P:=λ w=>(λ os=>cC w 253 (FT w os) (piecesOf (sts 84 8) bY cT vq [topFrame bU]))=λ os=>some (.next,Fi w os,cT,sa)) (λ w=>by kernel_rfl) (λ w=>by kernel_rfl) w
theorem Nf (w:World):(λ os=>cC w 250 (Fi w os) (piecesOf (sts 92 6) bY cT sa [topFrame bU]))=λ os=>some (.next,FU w os,cT,vr):=byRow2 "special-get-raises" (P:=λ w=>(λ os=>cC w 250 (Fi w os) (piecesOf (sts 92 6) bY cT sa [topFrame bU]))=λ os=>some (.next,FU w os,cT,vr)) (λ w=>by kernel_rfl) (λ w=>by kernel_rfl) w
theorem Ng (w:World):(λ os=>cC w 61 (FU w os) (piecesOf (sts 98 2) bY cT vr [topFrame bU]))=λ os=>some (.next,La w os,cT,Bp):=by kernel_rfl
theorem Nh (w:World):(λ os=>cC w 586 (La w os) (piecesOf (sts 100 1) bY cT Bp [topFrame bU]))=λ os=>some (.next,Lb w os,cT,Bq):=by kernel_rfl
theorem Ni (w:World):(λ os=>cC w 192 (Lb w os) (piecesOf (sts 101 7) bY cT Bq [topFrame bU]))=λ os=>some (.next,IR w os,cT,vu):=by kernel_rfl
theorem Nj (w:World):(λ os=>cC w 241 (IR w os) (piecesOf (sts 108 3) bY cT vu [topFrame bU]))=λ os=>some (.next,Ij w os,cT,sd):=byRow2 "special-get-raises" (P:=λ w=>(λ os=>cC w 241 (IR w os) (piecesOf (sts 108 3) bY cT vu [topFrame bU]))=λ os=>some (.next,Ij w os,cT,sd)) (λ w=>by kernel_rfl) (λ w=>by kernel_rfl) w
theorem Nk (w:World):(λ os=>cC w 256 (Ij w os) (piecesOf (sts 111 8) bY cT sd [topFrame bU]))=λ os=>some (.next,IS w os,cT,vw):=byRow2 "special-get-raises" (P:=λ w=>(λ os=>cC w 256 (Ij w os) (piecesOf (sts 111 8) bY cT sd [topFrame bU]))=λ os=>some (.next,IS w os,cT,vw)) (λ w=>by kernel_rfl) (λ w=>by kernel_rfl) w
theorem Nl (w:World):(λ os=>cC w 240 (IS w os) (piecesOf (sts 119 8) bY cT vw [topFrame bU]))=λ os=>some (.next,Lc w os,cT,Br):=by kernel_rfl
theorem Nm (w:World):(λ os=>cC w 231 (Lc w os) (piecesOf (sts 127 8) bY cT Br [topFrame bU]))=λ os=>some (.next,Le w os,cT,Bt):=by kernel_rfl
theorem Nn (w:World):(λ os=>cC w 259 (Le w os) (piecesOf (sts 135 8) bY cT Bt [topFrame bU]))=λ os=>some (.next,Lg w os,cT,Bu):=by kernel_rfl
theorem No (w:World):(λ os=>cC w 239 (Lg w os) (piecesOf (sts 143 8) bY cT Bu [topFrame bU]))=λ os=>some (.next,Lh w os,cT,Bv):=by kernel_rfl
theorem Np (w:World):(λ os=>cC w 261 (Lh w os) (piecesOf (sts 151 9) bY cT Bv [topFrame bU]))=λ os=>some (.next,Li w os,cT,Bw):=by kernel_rfl
theorem Nq (w:World):(λ os=>cC w 151 (Li w os) (piecesOf (sts 160 6) bY cT Bw [topFrame bU]))=λ os=>some (.next,Lj w os,cT,Bx):=by kernel_rfl
theorem Nr (w:World):(λ os=>cC w 258 (Lj w os) (piecesOf (sts 166 1) bY cT Bx [topFrame bU]))=λ os=>some (.next,Ll w os,cT,By):=by kernel_rfl
theorem Nt (w:World):(λ os=>cC w 317 (Ll w os) (piecesOf (sts 167 1) bY cT By [topFrame bU]))=λ os=>some (.next,Lm w os,cT,Bz):=by kernel_rfl
theorem Nu (w:World):(λ os=>cC w 241 (Lm w os) (piecesOf (sts 168 8) bY cT Bz [topFrame bU]))=λ os=>some (.next,Ln w os,cT,BA):=by kernel_rfl
theorem Nv (w:World):(λ os=>cC w 114 (Ln w os) (piecesOf (sts 176 6) bY cT BA [topFrame bU]))=λ os=>some (.next,Lo w os,cT,BB):=by kernel_rfl
theorem Nw (w:World):(λ os=>cC w 910 (Lo w os) (piecesOf (sts 182 1) bY cT BB [topFrame bU]))=λ os=>some (.next,Lq w os,cT,BC):=by kernel_rfl
theorem Nx (w:World):(λ os=>cC w 244 (Lq w os) (piecesOf (sts 183 10) bY cT BC [topFrame bU]))=λ os=>some (.next,Lr w os,cT,BD):=by kernel_rfl
theorem Ny (w:World):(λ os=>cC w 231 (Lr w os) (piecesOf (sts 193 8) bY cT BD [topFrame bU]))=λ os=>some (.next,s36 w os,cT,vx):=by kernel_rfl
end
end MineH
end
section
open PySem PySem.W PySem.Calls PyProof.Rows
namespace Mine
noncomputable section
noncomputable abbrev lw:OpenLaw:=PySem.Challenge.rw_pq0625_01
noncomputable abbrev pv:Program:=MineH.pw
theorem k1:(sreFenced pv.main&&((moduleNames pv.main.body).isEmpty||lookedIntoSs (moduleNames pv.main.body) pv.main.body))=true:=by kernel_rfl
theorem k2:namesResolve pv=true:=by kernel_rfl
theorem k3:(pv.boundNames.all λ n=> !worldNames.contains n)=true:=by kernel_rfl
theorem k4:(!(importedModules pv.main.body).all cThrough.contains)=false:=by kernel_rfl
theorem k5:(["vars", "dir", "locals"]:List Str).filter (readsOut pv pv.main.body)=[]:=by kernel_rfl
theorem k6:namesMeet pv pv.main.body (λ _ n=>attrL n)=true:=by kernel_rfl
theorem k7:opensWell pv=true:=by kernel_rfl
theorem k8:pv.bare:=⟨rfl,rfl,rfl,rfl,rfl,by kernel_rfl⟩
end
noncomputable section
noncomputable abbrev lrow:OpenRow:=lw.row
theorem j2:(lrow.records.isEmpty||lrow.raises.all λ ct=>ct.1 != .builtin "AttributeError" && ct.1 != .builtin "TypeError")=true:=by kernel_rfl
theorem j3:(lrow.raises.all λ ct=>match ct.1 with | .builtin n=> !lrow.prog.boundNames.contains (Str.ofString n)&& !ofTheWorld.contains n | .own _=>true)=true:=by kernel_rfl
theorem j4:decide (lrow.records.map (·.1)).Nodup=true:=by decide
theorem j6:lrow.toRowW.solid=true:=by kernel_rfl
theorem j7:lrow.pre.litsOk=true:=by kernel_rfl
theorem j8:lrow.post.litsOk=true:=by kernel_rfl
theorem Ls:(lrow.prog.boundNames.contains lrow.name&& !startupNames.contains lrow.name)=true:=by kernel_rfl
theorem j11:lrow.promised:=⟨[.list []],by kernel_rfl,by kernel_rfl⟩
theorem s1:decide (lw.foot<=(behindTheImports lw.prog).length)=true:=by kernel_rfl
theorem s2:lw.footing.all footLine=true:=by kernel_rfl
theorem s3:noClassBlock lw.prog lw.footing=true:=by kernel_rfl
theorem s4:lw.most.all (λ n=>decide (63<=n))=true:=by kernel_rfl
theorem s5:lw.bound.all (λ n=>decide (2 ^ 63<=n))=true:=by kernel_rfl
theorem s6:noRoadLSs { strict:=true,foot:=some lw.bound',writes:=lw.writes,may:=lw.may } lw.footing=true:=by kernel_rfl
theorem s7:defStands lw.about lw.above=true:=by kernel_rfl
theorem s8:lw.namesIt=true:=by kernel_rfl
theorem s9:(["type", "isinstance", "issubclass", "getattr", "hasattr"]:List Str).all (λ n=>lw.about !=[n])=true:=by kernel_rfl
theorem Ih:lw.bound'.all (λ n=> !builtinNamed n||lw.about==[n]|| !lw.reads n)=true:=by kernel_rfl
theorem Ii:(!lw.writes||(lw.prog.main.body.flatMap importedNames).all λ n=> !lw.reads n)=true:=by kernel_rfl
theorem FP:(lw.prog.main.body.flatMap importedNames).all (λ n=> !lw.reads n||(drawsOf n lw.prog.main.body).all λ mn=>mn.2 !=("attrgetter" : Str)&&mn.2 !=("methodcaller" : Str))=true:=by kernel_rfl
theorem FQ:namesMeet lw.prog lw.footing (λ sc n=>(!(["type", "isinstance", "issubclass", "getattr", "hasattr"]:List Str).contains n||sc.names.lookup n==some .globalImplicit) &&
   (lw.may !=some n||sc.kind== .module||sc.names.lookup n==some .globalImplicit))=true:=by kernel_rfl
theorem FR:lw.own.contains lw.name=true:=by kernel_rfl
theorem FS:(lw.own.eraseDups.length==lw.own.length)=true:=by kernel_rfl
theorem FT:lw.own.all (λ n=> !builtinNamed n)=true:=by kernel_rfl
theorem Fi:namesMeet lw.prog lw.above (λ _ n=> !lw.own.contains n)=true:=by kernel_rfl
theorem FU:(namesMeet lw.prog lw.footing λ sc n=>sc.kind== .module||sc.names.lookup n !=some .globalExplicit)=true:=by kernel_rfl
end
end Mine
end
section
open PySem
namespace Mine
set_option genCtorIdx true in
inductive BI where
 | len | range | tuple | list | str | abs | ord | chr
 deriving DecidableEq
set_option genCtorIdx true in
inductive BM where
 | join | split | replace | index | get
 deriving DecidableEq
set_option genCtorIdx true in
inductive W where
 | none | bool (b:Bool) | int (i:Int) | str (x:List Nat)
 | tup (l:List W) | lst (l:List W)
 | inst (c:Nat) (fs:List (Nat×W))
 | dct (l:List (List Nat×W))
 | fn (f:Nat) | cls (c:Nat) | bi (b:BI)
 | rng (a b:Int)
set_option genCtorIdx true in
inductive Sl where
 | bag | rdr | cnd | tks | tmp
 deriving DecidableEq
set_option genCtorIdx true in
inductive V where
 | w (w:W)
 | own (l:List W)
 | hds (l:List (W×List W))
 | slot (k:Sl)
 | clo (k:Nat) (cs:List V)
mutual
inductive E where
 | no
 | bad
 | cst (v:W)
 | negc (n:Nat)
 | var (i:Nat)
 | frz (i:Nat)
 | glo (g:Nat)
 | tup (es:Es)
 | lst (es:Es)
 | bin (q:Bool) (op:Operator) (l r:E)
 | not (e:E)
 | ife (t b o:E)
 | bop (isAnd:Bool) (es:Es)
 | cmp (q:Bool) (l:E) (op:CmpOp) (r:E)
 | cmp2 (l:E) (op1:CmpOp) (m:E) (op2:CmpOp) (r:E)
 | call (q:Bool) (f:E) (as:Es)
 | new (k:Sl) (g:Nat) (as:Es)
 | meth (o:E) (a:Nat) (as:Es)
 | bmeth (q:Bool) (b:BM) (o:E) (as:Es)
 | jrev (q:Bool) (sep:List Nat) (g:Nat) (e:E)
 | att (o:E) (a:Nat)
 | sub (q:Bool) (o i:E)
 | slc (q:Bool) (o lo hi:E)
 | comp (cid:Nat) (elt:E) (two:Bool) (iter:E) (hasC:Bool) (cond:E) (caps:List Nat)
 | lam (k:Nat) (caps:List Nat)
 | dct (ks:List (List Nat)) (vs:Es)
inductive Es where
 | nil
 | cons (e:E) (r:Es)
end
mutual
inductive S where
 | asg (i:Nat) (e:E)
 | asgC (i:Nat) (e:E)
 | asgN (i:Nat) (k:Sl) (e:E)
 | asgT (is:List Nat) (e:E)
 | asgS (i j:Nat) (e1 e2:E)
 | asgA (o:E) (a:Nat) (e:E)
 | asgI (o i e:E)
 | adv (o:E) (e:E)
 | exp (e:E)
 | app (i:Nat) (e:E)
 | ext (i:Nat) (e:E)
 | hd0 (i:Nat) (e:E)
 | hdA (i:Nat) (e:E)
 | hdX (i:Nat) (e:E)
 | ifs (t:E) (b o:Ss)
 | whl (id:Nat) (t:E) (b:Ss)
 | for_ (id:Nat) (i:Nat) (it:E) (b:Ss)
 | ret (e:E)
 | cont
 | bad
inductive Ss where
 | nil
 | cons (s:S) (r:Ss)
end
set_option genCtorIdx true in
inductive dy where
 | absent
 | dead
 | list (l:List W)
 | obj (c:Nat) (fs:List (Nat×V))
 | rdr (done rem:List W) (named:W)
structure ab where
 bag:dy
 rdr:dy
 cnd:dy
 tks:dy
 tmp:dy
noncomputable def ab.get (s:ab):Sl->dy
 | .bag=>s.bag | .rdr=>s.rdr | .cnd=>s.cnd | .tks=>s.tks | .tmp=>s.tmp
noncomputable def ab.set (s:ab):Sl->dy->ab
 | .bag,x=>⟨x,s.rdr,s.cnd,s.tks,s.tmp⟩
 | .rdr,x=>⟨s.bag,x,s.cnd,s.tks,s.tmp⟩
 | .cnd,x=>⟨s.bag,s.rdr,x,s.tks,s.tmp⟩
 | .tks,x=>⟨s.bag,s.rdr,s.cnd,x,s.tmp⟩
 | .tmp,x=>⟨s.bag,s.rdr,s.cnd,s.tks,x⟩
set_option genCtorIdx true in
inductive Fl where
 | next
 | cont
 | ret (v:V)
structure St where
 loc:List (Option V)
 slo:ab
noncomputable def cw:Nat:=16777216
noncomputable def u9:W->Bool
 | .none=>true
 | _=>false
noncomputable def CA:W->Option Bool
 | .bool b=>some b
 | _=>none
noncomputable def gG:W->Option Int
 | .int i=>some i
 | _=>none
noncomputable def gH:W->Option (List Nat)
 | .str x=>some x
 | _=>none
noncomputable def tO:W->Option (List W)
 | .tup l=>some l
 | _=>none
noncomputable def py:W->Option (List W)
 | .lst l=>some l
 | _=>none
noncomputable def CB:W->Option (List (List Nat×W))
 | .dct l=>some l
 | _=>none
noncomputable def BE (w:W):Option Nat:=match gH w with
 | some [c]=>some c
 | _=>none
noncomputable def CC (w:W):Option Nat:=match gG w with
 | some (.ofNat n)=>some n
 | _=>none
noncomputable def ix {α:Type}:List α->Option α
 | [a]=>some a
 | _=>none
noncomputable def pz {α:Type}:List α->Option (α×α)
 | [a,b]=>some (a,b)
 | _=>none
mutual
noncomputable def gE:W->W->Bool
 | .none,b=>u9 b
 | .bool x,b=>match CA b with | some y=>x==y | none=>false
 | .int x,b=>match gG b with | some y=>x==y | none=>false
 | .str x,b=>match gH b with | some y=>x==y | none=>false
 | .tup l,b=>match tO b with | some r=>q9 l r | none=>false
 | .lst l,b=>match py b with | some r=>q9 l r | none=>false
 | _,_=>false
noncomputable def q9:List W->List W->Bool
 | [],b=>b.isEmpty
 | a::as,b=>match b with | []=>false | y::bs=>gE a y&&q9 as bs
end
mutual
noncomputable def aC:Nat->W->Bool
 | _,.none=>true
 | _,.int _=>true
 | _,.str x=>x.all λ c=>Nat.blt c 1114112
 | n,.tup l=>match n with | 0=>false | n+1=>aS n l
 | n,.lst l=>match n with | 0=>false | n+1=>aS n l
 | _,_=>false
noncomputable def aS:Nat->List W->Bool
 | _,[]=>true
 | n,a::as=>aC n a&&aS n as
end
noncomputable def BF:List Nat->List Nat->Bool
 | [],[]=>false
 | [],_::_=>true
 | _::_,[]=>false
 | a::as,b::bs=>Nat.blt a b||(Nat.beq a b&&BF as bs)
noncomputable def pre:List Nat->List Nat->Bool
 | [],_=>true
 | _::_,[]=>false
 | a::as,b::bs=>Nat.beq a b&&pre as bs
noncomputable def subL (b:List Nat):List Nat->Bool
 | []=>pre b []
 | c::r=>pre b (c::r)||subL b r
noncomputable def gI (k:List Nat):List (List Nat×W)->Option W
 | []=>none
 | (k',v)::r=>match k==k' with | true=>some v | false=>gI k r
noncomputable def BG:Option Bool->Option Bool
 | some b=>some (!b)
 | none=>none
noncomputable def gd (b:Bool):Option Bool->Option Bool:=λ o=>match b with | true=>o | false=>none
noncomputable def yX (g:List Nat->List Nat->Bool) (a b:W):Option Bool:=match gH a with
 | some x=>(match gH b with | some y=>some (g x y) | none=>none)
 | none=>none
noncomputable def tP (f:Int->Int->Bool) (a b:W):Option Bool:=match gG a with
 | some x=>(match gG b with | some y=>some (f x y) | none=>none)
 | none=>none
noncomputable def tR (f:Int->Int->Bool) (g:List Nat->List Nat->Bool) (a b:W):Option Bool:=match gG a with
 | some x=>(match gG b with | some y=>some (f x y) | none=>none)
 | none=>yX g a b
noncomputable def Fj (a b:W):Option Bool:=match aC 40 a&&aC 40 b with
 | true=>some (gE a b)
 | false=>none
noncomputable def BH (a b:W):Option Bool:=match gH a with
 | some x=>(match gH b with | some y=>some (x==y) | none=>Fj a b)
 | none=>Fj a b
noncomputable def FV (a b:W):Option Bool:=match u9 b with
 | true=>some (u9 a)
 | false=>none
noncomputable def tS (a:W) (l:List W):Option Bool:=match aS 8 l&&aC 8 a with
 | true=>some (l.any λ y=>gE y a)
 | false=>none
noncomputable def CD (a:W) (l:List (List Nat×W)):Option Bool:=match gH a with
 | some x=>some (gI x l).isSome
 | none=>none
noncomputable def BJ (a b:W):Option Bool:=match gH b with
 | some y=>(match gH a with | some x=>some (subL x y) | none=>none)
 | none=>match tO b with
   | some l=>tS a l
   | none=>match py b with
     | some l=>tS a l
     | none=>match CB b with
       | some l=>CD a l
       | none=>none
noncomputable def gJ (op:CmpOp) (a b:W):Option Bool:=match op with
 | .Eq=>BH a b
 | .NotEq=>BG (BH a b)
 | .Lt=>tR (λ x y=>decide (x < y)) BF a b
 | .LtE=>tR (λ x y=>decide (x<=y)) (λ x y=> !BF y x) a b
 | .Gt=>tP (λ x y=>decide (y < x)) a b
 | .GtE=>tP (λ x y=>decide (y<=x)) a b
 | .Is=>FV a b
 | .IsNot=>BG (FV a b)
 | .In=>BJ a b
 | .NotIn=>BG (BJ a b)
noncomputable def kG (f:Int->Int->Option W) (a b:W):Option W:=match gG a with
 | some x=>(match gG b with | some y=>f x y | none=>none)
 | none=>none
noncomputable def yY (a b:W):Option W:=match gH a with
 | some x=>(match gH b with
   | some y=>(match Nat.ble (x.length+y.length) cw with | true=>some (.str (x++y)) | false=>none)
   | none=>none)
 | none=>none
noncomputable def yZ (x y:Int):Option W:=match Nat.ble y.natAbs 2000000 with | true=>some (.int (x * y)) | false=>none
noncomputable def CE (x y:Int):Option W:=match Nat.ble y.natAbs 1000&&Nat.blt 0 y.natAbs with | true=>some (.int (Int.fdiv x y)) | false=>none
noncomputable def y0 (x y:Int):Option W:=match Nat.blt 0 y.natAbs with | true=>some (.int (Int.fmod x y)) | false=>none
noncomputable def vy (x y:Int):Option W:=match decide (0<=y)&&Nat.ble (Builtin.Int.intBits x * y.toNat) 134217728 with | true=>some (.int (x ^ y.toNat)) | false=>none
noncomputable def iL (op:Operator) (a b:W):Option W:=match op with
 | .Add=>(match gG a with
   | some x=>(match gG b with | some y=>some (.int (x+y)) | none=>none)
   | none=>yY a b)
 | .Sub=>kG (λ x y=>some (.int (x - y))) a b
 | .Mult=>kG yZ a b
 | .FloorDiv=>kG CE a b
 | .Mod=>kG y0 a b
 | .Pow=>kG vy a b
 | _=>none
noncomputable def tT (op:Operator) (a b:W):Option (List W):=match py a with
 | some x=>(match py b with
   | some y=>(match op with
     | .Add=>(match Nat.ble (x.length+y.length) cw with | true=>some (x++y) | false=>none)
     | _=>none)
   | none=>none)
 | none=>none
noncomputable def eM:List W->Option (List (List Nat))
 | []=>some []
 | w::r=>match gH w with
   | some x=>(match eM r with | some l=>some (x::l) | none=>none)
   | none=>none
noncomputable def cZ (sep:List Nat):List (List Nat)->List Nat
 | []=>[]
 | [x]=>x
 | x::r=>x++sep++cZ sep r
noncomputable def bD (c:Nat):List Nat->List Nat->List (List Nat)
 | acc,[]=>[acc.reverse]
 | acc,d::r=>match Nat.beq d c with | true=>acc.reverse::bD c [] r | false=>bD c (d::acc) r
noncomputable def ei (sep:Nat):List (List Nat)->Nat
 | []=>0
 | x::r=>x.length+sep+ei sep r
noncomputable def jc (c:Nat):List Nat->Nat->Option Nat
 | [],_=>none
 | d::r,n=>match Nat.beq c d with | true=>some n | false=>jc c r (n+1)
noncomputable def y1 (w:W):Option W:=match w with
 | .str x=>some (.int x.length)
 | .tup x=>some (.int x.length)
 | .lst x=>some (.int x.length)
 | _=>none
noncomputable def vz (as:List W):Option W:=match ix as with
 | some w=>(match gG w with | some n=>some (.rng 0 n) | none=>none)
 | none=>match pz as with
   | some (v,w)=>(match gG v with
     | some a=>(match gG w with | some n=>some (.rng a n) | none=>none)
     | none=>none)
   | none=>none
noncomputable def y2 (x:Int):Option W:=match decide (0<=x)&&decide (x < 10) with | true=>some (.str [48+x.toNat]) | false=>none
noncomputable def y3 (c:Int):Option W:=match decide (0<=c)&&decide (c < 128) with | true=>some (.str [c.toNat]) | false=>none
noncomputable def vA (b:BI) (w:W):Option W:=match b with
 | .len=>y1 w
 | .tuple=>(match py w with | some x=>some (.tup x) | none=>none)
 | .abs=>(match gG w with | some x=>some (.int x.natAbs) | none=>none)
 | .str=>(match gG w with | some x=>y2 x | none=>none)
 | .ord=>(match BE w with | some c=>some (.int c) | none=>none)
 | .chr=>(match gG w with | some c=>y3 c | none=>none)
 | _=>none
noncomputable def vB (b:BI) (as:List W):Option W:=match b with
 | .range=>vz as
 | b=>(match ix as with | some w=>vA b w | none=>none)
noncomputable def vC (b:BI) (as:List W):Option (List W):=match b with
 | .list=>(match ix as with | some w=>tO w | none=>none)
 | _=>none
noncomputable def mT (s:List Nat) (l:List W):Option W:=match eM l with
 | some xs=>(match Nat.ble (ei s.length xs) cw with | true=>some (.str (cZ s xs)) | false=>none)
 | none=>none
noncomputable def CF (x:List Nat) (c:Nat):Option W:=match Nat.ble (x.length+2) cw with | true=>some (.lst ((bD c [] x).map .str)) | false=>none
noncomputable def vD (x:List Nat) (c:Nat) (t:List Nat):Option W:=match Nat.ble (x.length+(x.length+1) * t.length) cw&& !(t==[c]) with | true=>some (.str (cZ t (bD c [] x))) | false=>none
noncomputable def IV (x:List Nat) (c:Nat):Option W:=match jc c x 0 with | some n=>some (.int n) | none=>none
noncomputable def FW (l:List (List Nat×W)) (k:List Nat) (d:W):Option W:=match gI k l with | some v=>some v | none=>some d
noncomputable def Ik (b:BM) (x:List Nat) (w:W):Option W:=match b with
 | .join=>(match py w with | some l=>mT x l | none=>none)
 | .split=>(match BE w with | some c=>CF x c | none=>none)
 | .index=>(match BE w with | some c=>IV x c | none=>none)
 | _=>none
noncomputable def IW (b:BM) (o v w:W):Option W:=match b with
 | .replace=>(match gH o with
   | some x=>(match BE v with
     | some c=>(match gH w with | some t=>vD x c t | none=>none)
     | none=>none)
   | none=>none)
 | .get=>(match CB o with
   | some l=>(match gH v with | some k=>FW l k w | none=>none)
   | none=>none)
 | _=>none
noncomputable def vc (b:BM) (o:W) (as:List W):Option W:=match ix as with
 | some w=>(match gH o with | some x=>Ik b x w | none=>none)
 | none=>match pz as with
   | some (v,w)=>IW b o v w
   | none=>none
noncomputable def fe (i:Int) (n:Nat):Option Nat:=match i with
 | .ofNat k=>match Nat.blt k n with | true=>some k | false=>none
 | .negSucc k=>match Nat.ble (k+1) n with | true=>some (n - (k+1)) | false=>none
noncomputable def CG (l:List W) (i:Int):Option W:=match fe i l.length with | some k=>l[k]? | none=>none
noncomputable def IX (x:List Nat) (i:Int):Option W:=match fe i x.length with | some k=>(match x[k]? with | some c=>some (.str [c]) | none=>none) | none=>none
noncomputable def dz (o i:W):Option W:=match gG i with
 | some i=>(match o with
   | .str x=>IX x i
   | .tup l=>CG l i
   | .lst l=>CG l i
   | _=>none)
 | none=>match gH i with
   | some k=>(match CB o with | some l=>gI k l | none=>none)
   | none=>none
noncomputable def mU (w:W) (d:Nat):Option Nat:=match u9 w with
 | true=>some d
 | false=>CC w
noncomputable def eG {α:Type}(l:List α) (a b:Nat):List α:=(l.take b).drop a
noncomputable def rc {α:Type}(x:List α) (lo hi:W):Option (List α):=match mU lo 0 with
 | some a=>(match mU hi x.length with | some b=>some (eG x a b) | none=>none)
 | none=>none
noncomputable def vE (o lo hi:W):Option W:=match gH o with
 | some x=>(match rc x lo hi with | some y=>some (.str y) | none=>none)
 | none=>match tO o with
   | some l=>(match rc l lo hi with | some y=>some (.tup y) | none=>none)
   | none=>none
noncomputable def jF (o lo hi:W):Option (List W):=match py o with
 | some l=>rc l lo hi
 | none=>none
noncomputable def fK (a:Int):Nat->List W
 | 0=>[]
 | n+1=> .int a::fK (a+1) n
noncomputable def vF (a b:Int):Option (List W):=match decide (0<=a)&&(decide (a<=16777216)&&(decide (0<=b)&&decide (b<=16777216))) with | true=>some (fK a (b - a).toNat) | false=>none
noncomputable def br:W->Option (List W)
 | .tup l=>some l
 | .lst l=>some l
 | .str x=>some (x.map λ c=> .str [c])
 | .rng a b=>vF a b
 | _=>none
noncomputable def iM (l:List (W×List W)):W:= .lst (l.map λ p=> .tup [p.1,.lst p.2])
noncomputable def frz:V->V
 | .own l=> .w (.lst l)
 | .hds l=> .w (iM l)
 | v=>v
noncomputable def mV:V->Option W
 | .w w=>some w
 | .own l=>some (.lst l)
 | _=>none
noncomputable def fx (l:List (W×List W)) (ws:List W):Option (List (W×List W)):=match l with
 | []=>none
 | [(n,x)]=>match Nat.blt (x.length+ws.length) cw with | true=>some [(n,x++ws)] | false=>none
 | p::q::r=>match fx (q::r) ws with | some t=>some (p::t) | none=>none
noncomputable def bW {α:Type}(a:Nat):List (Nat×α)->Option α
 | []=>none
 | (b,v)::r=>match Nat.beq a b with | true=>some v | false=>bW a r
noncomputable def mO {α:Type}(a:Nat) (v:α):List (Nat×α)->List (Nat×α)
 | []=>[(a,v)]
 | (b,u)::r=>match Nat.beq a b with | true=>(b,v)::r | false=>(b,u)::mO a v r
noncomputable def aM {α:Type}:List α->Nat->α->List α
 | [],_,_=>[]
 | _::r,0,v=>v::r
 | a::r,n+1,v=>a::aM r n v
noncomputable def ax {α:Type}:List α->Nat->Option α
 | [],_=>none
 | a::_,0=>some a
 | _::r,n+1=>ax r n
noncomputable def St.put (s:St) (i:Nat) (v:V):St:={ s with loc:=aM s.loc i (some v) }
noncomputable def St.sl (s:St) (k:Sl) (x:dy):St:={ s with slo:=s.slo.set k x }
noncomputable def St.hide (s:St) (i:Nat):St:={ s with loc:=aM s.loc i none }
noncomputable def gK (l ws:List W):Option (List W):=match Nat.blt (l.length+ws.length) cw with | true=>some (l++ws) | false=>none
end Mine
end
section
open PySem
namespace Mine
structure Fd where
 np:Nat
 dfl:List W
 nv:Nat
 mks:List Sl
 body:Ss
structure Ld where
 np:Nat
 body:E
structure gC where
 gval:Nat->Option W
 meth:Nat->Nat->Option Nat
 init:Nat->Option Nat
 fn:Nat->Option Fd
 lam:Nat->Option Ld
 rdrC:Nat
 isF:Nat->Nat->Bool
 aTok:Nat
 aAt:Nat
 aNam:Nat
 peek:Nat
 done:Nat
noncomputable abbrev bP:=V->List V->St->Option (V×St)
noncomputable def vW:V->Option W
 | .w w=>some w
 | _=>none
noncomputable def dN:V->Option Sl
 | .slot k=>some k
 | _=>none
noncomputable def jd:V->Option (List W)
 | .own l=>some l
 | _=>none
noncomputable def lh:V->Option (List (W×List W))
 | .hds l=>some l
 | _=>none
noncomputable def li:W->Option (Nat×List (Nat×W))
 | .inst c fs=>some (c,fs)
 | _=>none
noncomputable def vG:W->Option Nat
 | .cls c=>some c
 | _=>none
noncomputable def gv:dy->Bool
 | .absent=>true
 | _=>false
noncomputable def jG:dy->Bool
 | .dead=>true
 | _=>false
noncomputable def gL:dy->Option (List W)
 | .list l=>some l
 | _=>none
noncomputable def mW:dy->Option (Nat×List (Nat×V))
 | .obj c fs=>some (c,fs)
 | _=>none
noncomputable def mX:dy->Option (List W×List W×W)
 | .rdr d r nm=>some (d,r,nm)
 | _=>none
noncomputable def dU (o:Option (V×St)):Option (W×St):=match o with
 | some (v,s)=>(match mV v with | some w=>some (w,s) | none=>none)
 | none=>none
noncomputable def mY (o:Option (V×St)):Option (Bool×St):=match dU o with
 | some (w,s)=>(match CA w with | some b=>some (b,s) | none=>none)
 | none=>none
noncomputable def Il (o:Option (V×St)):Option St:=match dU o with
 | some (w,s)=>(match u9 w with | true=>some s | false=>none)
 | none=>none
noncomputable def bA (l:List (Option V)) (i:Nat):Option V:=match ax l i with
 | some o=>o
 | none=>none
noncomputable def CH {α:Type}:Option α->Bool
 | none=>true
 | some _=>false
noncomputable def dI (l:List (Option V)) (i:Nat):Bool:=match ax l i with
 | some o=>CH o
 | none=>false
noncomputable def fR (two:Bool) (x:W):Option (List (Option V)):=match two with
 | false=>some [some (.w x)]
 | true=>match tO x with
   | some l=>(match pz l with | some (a,b)=>some [some (.w a),some (.w b)] | none=>none)
   | none=>none
noncomputable def compLoop (two:Bool) (caps:List (Option V)) (cnd:St->Option (V×St)) (elt:St->Option (V×St)):List W->St->Option (List W×St)
 | [],s=>some ([],s)
 | x::r,s=>match fR two x with
   | some ts=>(match mY (cnd ⟨ts++caps,s.slo⟩) with
     | some (b,s2)=>(match b with
       | true=>(match dU (elt s2) with
         | some (w,s3)=>(match compLoop two caps cnd elt r s3 with
           | some (ws,s4)=>some (w::ws,s4)
           | none=>none)
         | none=>none)
       | false=>compLoop two caps cnd elt r s2)
     | none=>none)
   | none=>none
noncomputable def FX (v:V):Option V:=match v with
 | .own _=>none
 | .hds _=>none
 | v=>some v
noncomputable def c9 (loc:List (Option V)):List Nat->Option (List (Option V))
 | []=>some []
 | i::r=>match bA loc i with
   | some v=>(match FX v with
     | some v=>(match c9 loc r with | some l=>some (some v::l) | none=>none)
     | none=>none)
   | none=>none
noncomputable def ej:List (Option V)->List V
 | []=>[]
 | some v::r=>v::ej r
 | none::r=>ej r
noncomputable def tU (s:ab):V->Option W
 | .w w=>some w
 | .own l=>some (.lst l)
 | .slot k=>match gL (s.get k) with
   | some l=>some (.lst l)
   | none=>none
 | _=>none
noncomputable def aZ:List V->Option (List W)
 | []=>some []
 | v::r=>match mV v with | some w=>(match aZ r with | some l=>some (w::l) | none=>none) | none=>none
noncomputable def fg:List (Nat×V)->Option (List (Nat×W))
 | []=>some []
 | (a,v)::r=>match mV v with | some w=>(match fg r with | some l=>some ((a,w)::l) | none=>none) | none=>none
noncomputable def vH (ks:List Sl):V->Bool
 | .slot k=> !ks.contains k
 | .clo _ _=>false
 | _=>true
noncomputable def lj (ks:List Sl):V->Bool
 | .slot k=> !ks.contains k
 | .clo _ cs=>cs.all (vH ks)
 | _=>true
noncomputable def kh (ks:List Sl):dy->Bool
 | .obj _ fs=>fs.all λ p=>lj ks p.2
 | _=>true
noncomputable def gM (s:ab):List Sl->Bool
 | []=>true
 | k::r=>match s.get k with | .absent=>gM s r | _=>false
noncomputable def dJ (s:ab):List Sl->ab
 | []=>s
 | k::r=>dJ (s.set k .absent) r
noncomputable def dl (ks:List Sl) (v:V) (s:ab):Option ab:=match ks with
 | []=>some s
 | k::r=>match lj (k::r) v&&kh (k::r) (dJ s (k::r)).cnd&&kh (k::r) (dJ s (k::r)).tmp&&kh (k::r) (dJ s (k::r)).tks&&kh (k::r) (dJ s (k::r)).bag&&kh (k::r) (dJ s (k::r)).rdr with
   | true=>some (dJ s (k::r))
   | false=>none
noncomputable def gw (T:gC) (cf:bP) (c:Nat) (as:List V) (s:St):Option (V×St):=match gv s.slo.tmp with
 | true=>(match T.init c with
   | some f=>(match Il (cf (.w (.fn f)) (.slot .tmp::as) (s.sl .tmp (.obj c []))) with
     | some s2=>(match mW s2.slo.tmp with
       | some (c',fs)=>(match fg fs with
         | some l=>(match dl [.tmp] (.w .none) s2.slo with
           | some sl=>some (.w (.inst c' l),{ s2 with slo:=sl })
           | none=>none)
         | none=>none)
       | none=>none)
     | none=>none)
   | none=>none)
 | false=>none
noncomputable def FY (T:gC) (c c' a1 a2 a3:Nat) (v1 v2 v3:W):Option dy:=match py v1 with
 | some l=>(match CC v2 with
   | some n=>(match Nat.beq n 0&&(Nat.beq c' c&&(Nat.beq a1 T.aTok&&(Nat.beq a2 T.aAt&&Nat.beq a3 T.aNam))) with
     | true=>some (.rdr [] l v3)
     | false=>none)
   | none=>none)
 | none=>none
noncomputable def BK (T:gC) (c:Nat) (x:dy):Option dy:=match mW x with
 | some (c',fs)=>(match Nat.beq c T.rdrC with
   | true=>(match fg fs with
     | some fs=>(match fs with
       | [(a1,v1),(a2,v2),(a3,v3)]=>FY T c c' a1 a2 a3 v1 v2 v3
       | _=>none)
     | none=>none)
   | false=>some (.obj c' fs))
 | none=>none
noncomputable def vI (T:gC) (cf:bP) (k:Sl) (c:Nat) (as:List V) (s:St):Option (V×St):=match gv (s.slo.get k) with
 | true=>(match T.init c with
   | some f=>(match Il (cf (.w (.fn f)) (.slot k::as) (s.sl k (.obj c []))) with
     | some s2=>(match BK T c (s2.slo.get k) with
       | some x=>some (.slot k,s2.sl k x)
       | none=>none)
     | none=>none)
   | none=>none)
 | false=>none
inductive Fv where
 | inst (c:Nat) (fs:List (Nat×W))
 | obj (c:Nat) (fs:List (Nat×V))
 | rdr (nm:W)
noncomputable def tV (s:ab) (v:V):Option Fv:=match v with
 | .w w=>(match li w with | some (c,fs)=>some (.inst c fs) | none=>none)
 | .slot k=>(match s.get k with
   | .obj c fs=>some (.obj c fs)
   | .rdr _ _ nm=>some (.rdr nm)
   | _=>none)
 | _=>none
noncomputable def Im (T:gC) (a:Nat) (x:Fv):Option V:=match x with
 | .inst _ fs=>(match bW a fs with | some w=>some (.w w) | none=>none)
 | .obj _ fs=>bW a fs
 | .rdr nm=>(match Nat.beq a T.aNam with | true=>some (.w nm) | false=>none)
noncomputable def CI (T:gC):Fv->Nat
 | .inst c _=>c
 | .obj c _=>c
 | .rdr _=>T.rdrC
noncomputable def IY (T:gC) (a:Nat):Fv->Bool
 | .inst _ fs=>(bW a fs).isSome
 | .obj _ fs=>(bW a fs).isSome
 | .rdr _=>Nat.beq a T.aTok||(Nat.beq a T.aAt||Nat.beq a T.aNam)
noncomputable def Io (T:gC) (a:Nat) (x:Fv):Option V:=match T.isF (CI T x) a with
 | true=>Im T a x
 | false=>none
noncomputable def eH (T:gC) (s:ab) (v:V) (a:Nat):Option V:=match tV s v with
 | some x=>Io T a x
 | none=>none
noncomputable def dF (T:gC) (s:ab) (ov:V) (a:Nat):Option (V×List V):=match tV s ov with
 | some x=>(match T.meth (CI T x) a with
   | some f=>(match IY T a x with | true=>none | false=>some (.w (.fn f),[ov]))
   | none=>(match Io T a x with
     | some fv=>some (fv,[])
     | none=>none))
 | none=>none
noncomputable def vJ (s:ab) (as:List V):Option (List W):=match ix as with
 | some v=>(match dN v with
   | some k=>(match gL (s.get k) with | some l=>some [.lst l] | none=>none)
   | none=>none)
 | none=>none
noncomputable def pA (b:BI) (s:ab) (as:List V):Option (List W):=match aZ as with
 | some ws=>some ws
 | none=>match b with
   | .len=>vJ s as
   | _=>none
noncomputable def Ip (b:BI) (as:List V) (s:St):Option (V×St):=match pA b s.slo as with
 | some ws=>(match vC b ws with
   | some l=>some (.own l,s)
   | none=>(match vB b ws with | some w=>some (.w w,s) | none=>none))
 | none=>none
noncomputable def ki (T:gC) (cf:bP) (fv:V) (as:List V) (s:St):Option (V×St):=match fv with
 | .w w=>(match w with
   | .bi b=>Ip b as s
   | .cls c=>gw T cf c as s
   | .fn f=>cf (.w (.fn f)) as s
   | _=>none)
 | .clo k cs=>cf (.clo k cs) as s
 | _=>none
noncomputable def pB (s:St) (i:Nat) (v:V):V×St:=match v with
 | .own l=>(.w (.lst l),s.put i (.w (.lst l)))
 | .hds l=>(.w (iM l),s.put i (.w (iM l)))
 | v=>(v,s)
mutual
noncomputable def am (T:gC) (cf:bP):E->St->Option (V×St)
 | .no,s=>some (.w .none,s)
 | .bad,_=>none
 | .cst v,s=>some (.w v,s)
 | .negc n,s=>some (.w (.int (-(n:Int))),s)
 | .var i,s=>match bA s.loc i with
   | some v=>some (pB s i v)
   | none=>none
 | .frz i,s=>match bA s.loc i with
   | some v=>(match dN v with
     | some k=>(match gL (s.slo.get k) with
       | some l=>some (.own l,s.sl k .dead)
       | none=>none)
     | none=>none)
   | none=>none
 | .glo g,s=>match T.gval g with
   | some w=>some (.w w,s)
   | none=>none
 | .tup es,s=>match dA T cf es s with
   | some (vs,s')=>(match aZ vs with | some l=>some (.w (.tup l),s') | none=>none)
   | none=>none
 | .lst es,s=>match dA T cf es s with
   | some (vs,s')=>(match aZ vs with | some l=>some (.own l,s') | none=>none)
   | none=>none
 | .bin _ op l r,s=>match dU (am T cf l s) with
   | some (x,s1)=>(match dU (am T cf r s1) with
     | some (y,s2)=>(match tT op x y with
       | some z=>some (.own z,s2)
       | none=>(match iL op x y with | some z=>some (.w z,s2) | none=>none))
     | none=>none)
   | none=>none
 | .not e,s=>match mY (am T cf e s) with
   | some (b,s')=>some (.w (.bool (!b)),s')
   | none=>none
 | .ife t b o,s=>match mY (am T cf t s) with
   | some (c,s')=>(match c with | true=>am T cf b s' | false=>am T cf o s')
   | none=>none
 | .bop isAnd es,s=>rg T cf isAnd es s
 | .cmp _ l op r,s=>match dU (am T cf l s) with
   | some (x,s1)=>(match dU (am T cf r s1) with
     | some (y,s2)=>(match gJ op x y with | some z=>some (.w (.bool z),s2) | none=>none)
     | none=>none)
   | none=>none
 | .cmp2 l op1 m op2 r,s=>match dU (am T cf l s) with
   | some (x,s1)=>(match dU (am T cf m s1) with
     | some (y,s2)=>(match gJ op1 x y with
       | some c=>(match c with
         | true=>(match dU (am T cf r s2) with
           | some (z,s3)=>(match gJ op2 y z with | some t=>some (.w (.bool t),s3) | none=>none)
           | none=>none)
         | false=>some (.w (.bool false),s2))
       | none=>none)
     | none=>none)
   | none=>none
 | .call _ f as,s=>match am T cf f s with
   | some (fv,s1)=>(match dA T cf as s1 with
     | some (vs,s2)=>ki T cf fv vs s2
     | none=>none)
   | none=>none
 | .new k g as,s=>match T.gval g with
   | some w=>(match vG w with
     | some c=>(match dA T cf as s with
       | some (vs,s2)=>vI T cf k c vs s2
       | none=>none)
     | none=>none)
   | none=>none
 | .meth o a as,s=>match am T cf o s with
   | some (ov,s1)=>(match dF T s1.slo ov a with
     | some (fv,first)=>(match dA T cf as s1 with
       | some (vs,s2)=>ki T cf fv (first++vs) s2
       | none=>none)
     | none=>none)
   | none=>none
 | .bmeth _ b o as,s=>match dU (am T cf o s) with
   | some (x,s1)=>(match dA T cf as s1 with
     | some (vs,s2)=>(match aZ vs with
       | some ws=>(match vc b x ws with | some z=>some (.w z,s2) | none=>none)
       | none=>none)
     | none=>none)
   | none=>none
 | .jrev _ sep _ e,s=>match dU (am T cf e s) with
   | some (w,s1)=>(match py w with
     | some l=>(match mT sep l.reverse with | some z=>some (.w z,s1) | none=>none)
     | none=>none)
   | none=>none
 | .att o a,s=>match am T cf o s with
   | some (ov,s1)=>(match eH T s1.slo ov a with
     | some v=>some (v,s1)
     | none=>none)
   | none=>none
 | .sub _ o i,s=>match am T cf o s with
   | some (ov,s1)=>(match dU (am T cf i s1) with
     | some (y,s2)=>(match tU s2.slo ov with
       | some x=>(match dz x y with | some z=>some (.w z,s2) | none=>none)
       | none=>none)
     | none=>none)
   | none=>none
 | .slc _ o lo hi,s=>match dU (am T cf o s) with
   | some (x,s1)=>(match dU (am T cf lo s1) with
     | some (a,s2)=>(match dU (am T cf hi s2) with
       | some (b,s3)=>(match jF x a b with
         | some z=>some (.own z,s3)
         | none=>(match vE x a b with | some z=>some (.w z,s3) | none=>none))
       | none=>none)
     | none=>none)
   | none=>none
 | .comp _ elt two iter hasC cond caps,s=>match dU (am T cf iter s) with
   | some (iw,s1)=>(match br iw with
     | some items=>(match c9 s1.loc caps with
       | some cl=>(match compLoop two cl (λ s=>match hasC with | true=>am T cf cond s | false=>some (.w (.bool true),s)) (λ s=>am T cf elt s) items s1 with
         | some (ws,s2)=>some (.own ws,⟨s1.loc,s2.slo⟩)
         | none=>none)
       | none=>none)
     | none=>none)
   | none=>none
 | .lam k caps,s=>match c9 s.loc caps with
   | some cl=>some (.clo k (ej cl),s)
   | none=>none
 | .dct ks vs,s=>match dA T cf vs s with
   | some (l,s')=>(match aZ l with | some ws=>some (.w (.dct (ks.zip ws)),s') | none=>none)
   | none=>none
noncomputable def rg (T:gC) (cf:bP) (isAnd:Bool):Es->St->Option (V×St)
 | .nil,_=>none
 | .cons e .nil,s=>(match mY (am T cf e s) with
   | some (b,s')=>some (.w (.bool b),s')
   | none=>none)
 | .cons e (.cons e2 r),s=>match mY (am T cf e s) with
   | some (b,s')=>(match Bool.xor isAnd b with
     | true=>some (.w (.bool b),s')
     | false=>rg T cf isAnd (.cons e2 r) s')
   | none=>none
noncomputable def dA (T:gC) (cf:bP):Es->St->Option (List V×St)
 | .nil,s=>some ([],s)
 | .cons e r,s=>match am T cf e s with
   | some (v,s1)=>(match dA T cf r s1 with
     | some (vs,s2)=>some (frz v::vs,s2)
     | none=>none)
   | none=>none
end
end Mine
end
section
open PySem
namespace Mine
noncomputable def bt (t:St->Option (V×St)) (b:St->Option (Fl×St)):Nat->St->Option (Fl×St)
 | 0,_=>none
 | n+1,s=>match mY (t s) with
   | some (c,s1)=>(match c with
     | true=>(match b s1 with
       | some (f,s2)=>(match f with
         | .next=>bt t b n s2
         | .cont=>bt t b n s2
         | .ret v=>some (.ret v,s2))
       | none=>none)
     | false=>some (.next,s1))
   | none=>none
noncomputable def bV (i:Nat) (b:St->Option (Fl×St)):List W->St->Option (Fl×St)
 | [],s=>some (.next,s)
 | x::r,s=>match b (s.put i (.w x)) with
   | some (f,s2)=>(match f with
     | .next=>bV i b r s2
     | .cont=>bV i b r s2
     | .ret v=>some (.ret v,s2))
   | none=>none
noncomputable def iN:List Nat->List W->St->Option St
 | [],ws,s=>match ws with | []=>some s | _::_=>none
 | i::is,ws,s=>match ws with | w::ws=>iN is ws (s.put i (.w w)) | []=>none
noncomputable def se:Nat->List W->List W->Option (List W×List W)
 | 0,d,r=>some (d,r)
 | n+1,d,x::r=>se n (x::d) r
 | _+1,_,[]=>none
noncomputable def iO:Nat:=100000
noncomputable def CJ (T:gC) (s:St) (k:Sl) (a:Nat) (v:V) (c:Nat) (fs:List (Nat×V)):Option St:=match T.isF c a&&Nat.blt fs.length 20 with
 | true=>some (s.sl k (.obj c (mO a (frz v) fs)))
 | false=>none
noncomputable def CK (T:gC) (s:St) (k:Sl) (a:Nat) (d r:List W) (w:W):Option St:=match Nat.beq a T.aNam&&T.isF T.rdrC a with
 | true=>some (s.sl k (.rdr d r w))
 | false=>none
noncomputable def pC (T:gC) (s:St) (ov:V) (a:Nat) (v:V):Option St:=match dN ov with
 | some k=>(match mW (s.slo.get k) with
   | some (c,fs)=>CJ T s k a v c fs
   | none=>match mX (s.slo.get k) with
     | some (d,r,_)=>(match mV v with
       | some w=>CK T s k a d r w
       | none=>none)
     | none=>none)
 | none=>none
noncomputable def vK (s:St) (k:Sl) (ws:List W):Option St:=match gL (s.slo.get k) with
 | some l=>(match gK l ws with | some l'=>some (s.sl k (.list l')) | none=>none)
 | none=>none
noncomputable def iF (s:St) (i:Nat) (l ws:List W):Option St:=match dI s.loc i with
 | true=>(match gK l ws with | some l'=>some (s.put i (.own l')) | none=>none)
 | false=>none
noncomputable def fy (v:V):Option (List W):=match mV v with
 | some w=>(match py w with | some l=>some l | none=>tO w)
 | none=>none
noncomputable def CL (s:St) (i:Nat) (l:List (W×List W)) (w:W):Option (Fl×St):=match dI s.loc i&&Nat.blt l.length cw with
 | true=>some (.next,s.put i (.hds (l++[(w,[])])))
 | false=>none
noncomputable def CM (s:St) (i:Nat) (l:List (W×List W)) (ws:List W):Option (Fl×St):=match dI s.loc i with
 | true=>(match fx l ws with | some l'=>some (.next,s.put i (.hds l')) | none=>none)
 | false=>none
noncomputable def IZ (s:St) (i:Nat) (k:Sl) (n:Nat) (d r:List W) (nm:W):Option (Fl×St):=match jG (s.slo.get k) with
 | true=>(match bA s.loc i with
   | some v=>(match dN v with
     | some k2=>(match se n d r with
       | some (d',r')=>(match decide (k2=k) with
         | true=>some (.next,s.sl k (.rdr d' r' nm))
         | false=>none)
       | none=>none)
     | none=>none)
   | none=>none)
 | false=>none
noncomputable def FZ:E->Option Nat
 | .var i=>some i
 | _=>none
mutual
noncomputable def bn (T:gC) (cf:bP):S->St->Option (Fl×St)
 | .asg i e,s=>match am T cf e s with
   | some (v,s')=>some (.next,s'.put i v)
   | none=>none
 | .asgC i e,s=>match am T cf e s with
   | some (v,s')=>(match dI s'.loc i with
     | true=>some (.next,s'.put i (frz v))
     | false=>none)
   | none=>none
 | .asgN i k e,s=>match am T cf e s with
   | some (v,s')=>(match jd v with
     | some l=>(match gv (s'.slo.get k) with
       | true=>some (.next,(s'.sl k (.list l)).put i (.slot k))
       | false=>none)
     | none=>none)
   | none=>none
 | .asgT is e,s=>match dU (am T cf e s) with
   | some (w,s')=>(match tO w with
     | some l=>(match iN is l s' with
       | some s2=>some (.next,s2)
       | none=>none)
     | none=>none)
   | none=>none
 | .asgS i j e1 e2,s=>match am T cf e1 s with
   | some (v1,s1)=>(match am T cf e2 s1 with
     | some (v2,s2)=>some (.next,(s2.put j v2).put i v1)
     | none=>none)
   | none=>none
 | .asgA o a e,s=>match am T cf e s with
   | some (v,s1)=>(match am T cf o s1 with
     | some (ov,s2)=>(match pC T s2 ov a v with
       | some s3=>some (.next,s3)
       | none=>none)
     | none=>none)
   | none=>none
 | .asgI o i e,s=>match dU (am T cf e s) with
   | some (w,s1)=>(match am T cf o s1 with
     | some (v,s2)=>(match dN v with
       | some k=>(match dU (am T cf i s2) with
         | some (y,s3)=>(match CC y with
           | some n=>(match gL (s3.slo.get k) with
             | some l=>(match Nat.blt n l.length with
               | true=>some (.next,s3.sl k (.list (aM l n w)))
               | false=>none)
             | none=>none)
           | none=>none)
         | none=>none)
       | none=>none)
     | none=>none)
   | none=>none
 | .adv o e,s=>match FZ o with
   | some i=>(match bA s.loc i with
     | some v=>(match dN v with
       | some k=>(match mX (s.slo.get k) with
         | some (d,r,nm)=>(match dU (am T cf e (s.sl k .dead)) with
           | some (y,s2)=>(match CC y with
             | some n=>IZ s2 i k n d r nm
             | none=>none)
           | none=>none)
         | none=>none)
       | none=>none)
     | none=>none)
   | none=>none
 | .exp e,s=>match am T cf e s with
   | some (_,s')=>some (.next,s')
   | none=>none
 | .app i e,s=>match bA s.loc i with
   | some u=>(match jd u with
     | some l=>(match dU (am T cf e (s.hide i)) with
       | some (w,s')=>(match iF s' i l [w] with | some s2=>some (.next,s2) | none=>none)
       | none=>none)
     | none=>match dN u with
       | some k=>(match gL (s.slo.get k) with
         | some _=>(match dU (am T cf e s) with
           | some (w,s')=>(match vK s' k [w] with | some s2=>some (.next,s2) | none=>none)
           | none=>none)
         | none=>none)
       | none=>none)
   | none=>none
 | .ext i e,s=>match bA s.loc i with
   | some u=>(match jd u with
     | some l=>(match am T cf e (s.hide i) with
       | some (v,s')=>(match fy v with
         | some ws=>(match iF s' i l ws with | some s2=>some (.next,s2) | none=>none)
         | none=>none)
       | none=>none)
     | none=>none)
   | none=>none
 | .hd0 i e,s=>match dU (am T cf e s) with
   | some (w,s')=>some (.next,s'.put i (.hds [(w,[])]))
   | none=>none
 | .hdA i e,s=>match bA s.loc i with
   | some u=>(match lh u with
     | some l=>(match dU (am T cf e (s.hide i)) with
       | some (w,s')=>CL s' i l w
       | none=>none)
     | none=>none)
   | none=>none
 | .hdX i e,s=>match bA s.loc i with
   | some u=>(match lh u with
     | some l=>(match am T cf e (s.hide i) with
       | some (v,s')=>(match fy v with
         | some ws=>CM s' i l ws
         | none=>none)
       | none=>none)
     | none=>none)
   | none=>none
 | .ifs t b o,s=>match mY (am T cf t s) with
   | some (c,s')=>(match c with | true=>aL T cf b s' | false=>aL T cf o s')
   | none=>none
 | .whl _ t b,s=>bt (λ s=>am T cf t s) (λ s=>aL T cf b s) iO s
 | .for_ _ i it b,s=>match dU (am T cf it s) with
   | some (w,s1)=>(match br w with
     | some l=>bV i (λ s=>aL T cf b s) l s1
     | none=>none)
   | none=>none
 | .ret e,s=>match am T cf e s with
   | some (v,s')=>some (.ret v,s')
   | none=>none
 | .cont,s=>some (.cont,s)
 | .bad,_=>none
noncomputable def aL (T:gC) (cf:bP):Ss->St->Option (Fl×St)
 | .nil,s=>some (.next,s)
 | .cons a r,s=>match bn T cf a s with
   | some (f,s')=>(match f with
     | .next=>aL T cf r s'
     | .cont=>some (.cont,s')
     | .ret v=>some (.ret v,s'))
   | none=>none
end
noncomputable def pD:List V->Nat->List W->Option (List (Option V))
 | as,np,dfl=>match Nat.ble as.length np&&Nat.ble np (as.length+dfl.length) with
   | true=>some (as.map some++(dfl.drop (as.length+dfl.length - np)).map λ w=>some (.w w))
   | false=>none
noncomputable def fL (f:Fl):Option V:=match f with
 | .ret v=>some v
 | .next=>some (.w .none)
 | .cont=>none
noncomputable def nT (T:gC) (cf:bP) (d:Fd) (as:List V) (s:St):Option (V×St):=match pD as d.np d.dfl with
 | some bs=>(match gM s.slo d.mks with
   | true=>(match aL T cf d.body ⟨bs++List.replicate (d.nv - d.np) none,s.slo⟩ with
     | some (f,s2)=>(match fL f with
       | some v=>(match dl d.mks v s2.slo with
         | some sl=>some (v,⟨s.loc,sl⟩)
         | none=>none)
       | none=>none)
     | none=>none)
   | false=>none)
 | none=>none
noncomputable def rh (T:gC) (cf:bP) (d:Ld) (as cs:List V) (s:St):Option (V×St):=match Nat.beq as.length d.np with
 | true=>(match am T cf d.body ⟨as.map some++cs.map some,s.slo⟩ with
   | some (v,s2)=>some (v,⟨s.loc,s2.slo⟩)
   | none=>none)
 | false=>none
noncomputable def pE (sl:ab) (v:V):Option (List W):=match dN v with
 | some k=>(match mX (sl.get k) with | some (_,r,_)=>some r | none=>none)
 | none=>none
noncomputable def CN (r:List W) (n:Nat):W:=match ax r n with | some t=>t | none=> .none
noncomputable def vL (sl:ab) (as:List V):Option W:=match ix as with
 | some v=>(match pE sl v with | some r=>some (CN r 0) | none=>none)
 | none=>match pz as with
   | some (v,u)=>(match pE sl v with
     | some r=>(match vW u with
       | some w=>(match CC w with | some n=>some (CN r n) | none=>none)
       | none=>none)
     | none=>none)
   | none=>none
noncomputable def BL (sl:ab) (as:List V):Option W:=match ix as with
 | some v=>(match pE sl v with | some r=>some (.bool r.isEmpty) | none=>none)
 | none=>none
noncomputable def pF (T:gC) (cf:bP) (i:Nat) (as:List V) (s:St):Option (V×St):=match Nat.beq i T.peek with
 | true=>(match vL s.slo as with | some w=>some (.w w,s) | none=>none)
 | false=>match Nat.beq i T.done with
   | true=>(match BL s.slo as with | some w=>some (.w w,s) | none=>none)
   | false=>match T.fn i with
     | some fd=>nT T cf fd as s
     | none=>none
noncomputable def vM (T:gC) (cf:bP) (k:Nat) (cs as:List V) (s:St):Option (V×St):=match T.lam k with
 | some ld=>rh T cf ld as cs s
 | none=>none
noncomputable def y4:W->Option Nat
 | .fn f=>some f
 | _=>none
noncomputable def aa (T:gC):Nat->bP
 | 0,_,_,_=>none
 | d+1,f,as,s=>match f with
     | .w w=>(match y4 w with
       | some i=>pF T (aa T d) i as s
       | none=>none)
     | .clo k cs=>vM T (aa T d) k cs as s
     | _=>none
end Mine
end
section
open PySem
namespace Mine
theorem nn {α:Type}{x:α}{P:Prop}(h:none=some x):P:=nomatch h
theorem ff {P:Prop}(h:false=true):P:=nomatch h
theorem sj {α:Type}{x y:α}(h:some x=some y):x=y:=Option.some.inj h
theorem cS {α β:Type}{a c:α}{b d:β}{P:α->β->Prop}(h:some (a,b)=some (c,d)) (p:P a b):P c d:=by cases h;exact p
theorem sR {α:Type}{a c:α}{P:α->Prop}(h:some a=some c) (p:P a):P c:=sj h▸p
section
variable {β:Type}{y:β}{P:Prop}
theorem oN {o:Option (Nat)}{f:Nat->Option β}(h:(match o with | some x=>f x | none=>none)=some y) (k: ∀ x,o=some x->f x=some y->P):P :=
 @Option.casesOn _ (λ o=>(match o with | some x=>f x | none=>none)=some y->(∀ x,o=some x->f x=some y->P)->P) o (λ h _=>nn h) (λ _ h k=>k _ rfl h) h k
theorem oI {o:Option (Int)}{f:Int->Option β}(h:(match o with | some x=>f x | none=>none)=some y) (k: ∀ x,o=some x->f x=some y->P):P :=
 @Option.casesOn _ (λ o=>(match o with | some x=>f x | none=>none)=some y->(∀ x,o=some x->f x=some y->P)->P) o (λ h _=>nn h) (λ _ h k=>k _ rfl h) h k
theorem iP {o:Option (List Nat)}{f:List Nat->Option β}(h:(match o with | some x=>f x | none=>none)=some y) (k: ∀ x,o=some x->f x=some y->P):P :=
 @Option.casesOn _ (λ o=>(match o with | some x=>f x | none=>none)=some y->(∀ x,o=some x->f x=some y->P)->P) o (λ h _=>nn h) (λ _ h k=>k _ rfl h) h k
theorem oL {o:Option (List W)}{f:List W->Option β}(h:(match o with | some x=>f x | none=>none)=some y) (k: ∀ x,o=some x->f x=some y->P):P :=
 @Option.casesOn _ (λ o=>(match o with | some x=>f x | none=>none)=some y->(∀ x,o=some x->f x=some y->P)->P) o (λ h _=>nn h) (λ _ h k=>k _ rfl h) h k
theorem oD {o:Option (List (List Nat×W))}{f:List (List Nat×W)->Option β}(h:(match o with | some x=>f x | none=>none)=some y) (k: ∀ x,o=some x->f x=some y->P):P :=
 @Option.casesOn _ (λ o=>(match o with | some x=>f x | none=>none)=some y->(∀ x,o=some x->f x=some y->P)->P) o (λ h _=>nn h) (λ _ h k=>k _ rfl h) h k
theorem oW {o:Option (W)}{f:W->Option β}(h:(match o with | some x=>f x | none=>none)=some y) (k: ∀ x,o=some x->f x=some y->P):P :=
 @Option.casesOn _ (λ o=>(match o with | some x=>f x | none=>none)=some y->(∀ x,o=some x->f x=some y->P)->P) o (λ h _=>nn h) (λ _ h k=>k _ rfl h) h k
theorem F6 {o:Option (Bool)}{f:Bool->Option β}(h:(match o with | some x=>f x | none=>none)=some y) (k: ∀ x,o=some x->f x=some y->P):P :=
 @Option.casesOn _ (λ o=>(match o with | some x=>f x | none=>none)=some y->(∀ x,o=some x->f x=some y->P)->P) o (λ h _=>nn h) (λ _ h k=>k _ rfl h) h k
theorem y5 {o:Option (Sl)}{f:Sl->Option β}(h:(match o with | some x=>f x | none=>none)=some y) (k: ∀ x,o=some x->f x=some y->P):P :=
 @Option.casesOn _ (λ o=>(match o with | some x=>f x | none=>none)=some y->(∀ x,o=some x->f x=some y->P)->P) o (λ h _=>nn h) (λ _ h k=>k _ rfl h) h k
theorem I0 {o:Option (Fv)}{f:Fv->Option β}(h:(match o with | some x=>f x | none=>none)=some y) (k: ∀ x,o=some x->f x=some y->P):P :=
 @Option.casesOn _ (λ o=>(match o with | some x=>f x | none=>none)=some y->(∀ x,o=some x->f x=some y->P)->P) o (λ h _=>nn h) (λ _ h k=>k _ rfl h) h k
theorem oV {o:Option (V)}{f:V->Option β}(h:(match o with | some x=>f x | none=>none)=some y) (k: ∀ x,o=some x->f x=some y->P):P :=
 @Option.casesOn _ (λ o=>(match o with | some x=>f x | none=>none)=some y->(∀ x,o=some x->f x=some y->P)->P) o (λ h _=>nn h) (λ _ h k=>k _ rfl h) h k
theorem Fk {o:Option (List (Option V))}{f:List (Option V)->Option β}(h:(match o with | some x=>f x | none=>none)=some y) (k: ∀ x,o=some x->f x=some y->P):P :=
 @Option.casesOn _ (λ o=>(match o with | some x=>f x | none=>none)=some y->(∀ x,o=some x->f x=some y->P)->P) o (λ h _=>nn h) (λ _ h k=>k _ rfl h) h k
theorem y8 {o:Option (St)}{f:St->Option β}(h:(match o with | some x=>f x | none=>none)=some y) (k: ∀ x,o=some x->f x=some y->P):P :=
 @Option.casesOn _ (λ o=>(match o with | some x=>f x | none=>none)=some y->(∀ x,o=some x->f x=some y->P)->P) o (λ h _=>nn h) (λ _ h k=>k _ rfl h) h k
theorem I1 {o:Option (ab)}{f:ab->Option β}(h:(match o with | some x=>f x | none=>none)=some y) (k: ∀ x,o=some x->f x=some y->P):P :=
 @Option.casesOn _ (λ o=>(match o with | some x=>f x | none=>none)=some y->(∀ x,o=some x->f x=some y->P)->P) o (λ h _=>nn h) (λ _ h k=>k _ rfl h) h k
theorem F7 {o:Option (dy)}{f:dy->Option β}(h:(match o with | some x=>f x | none=>none)=some y) (k: ∀ x,o=some x->f x=some y->P):P :=
 @Option.casesOn _ (λ o=>(match o with | some x=>f x | none=>none)=some y->(∀ x,o=some x->f x=some y->P)->P) o (λ h _=>nn h) (λ _ h k=>k _ rfl h) h k
theorem Iq {o:Option (List (Nat×W))}{f:List (Nat×W)->Option β}(h:(match o with | some x=>f x | none=>none)=some y) (k: ∀ x,o=some x->f x=some y->P):P :=
 @Option.casesOn _ (λ o=>(match o with | some x=>f x | none=>none)=some y->(∀ x,o=some x->f x=some y->P)->P) o (λ h _=>nn h) (λ _ h k=>k _ rfl h) h k
theorem oH {o:Option (List (W×List W))}{f:List (W×List W)->Option β}(h:(match o with | some x=>f x | none=>none)=some y) (k: ∀ x,o=some x->f x=some y->P):P :=
 @Option.casesOn _ (λ o=>(match o with | some x=>f x | none=>none)=some y->(∀ x,o=some x->f x=some y->P)->P) o (λ h _=>nn h) (λ _ h k=>k _ rfl h) h k
theorem Nz {o:Option (Fd)}{f:Fd->Option β}(h:(match o with | some x=>f x | none=>none)=some y) (k: ∀ x,o=some x->f x=some y->P):P :=
 @Option.casesOn _ (λ o=>(match o with | some x=>f x | none=>none)=some y->(∀ x,o=some x->f x=some y->P)->P) o (λ h _=>nn h) (λ _ h k=>k _ rfl h) h k
theorem NA {o:Option (Ld)}{f:Ld->Option β}(h:(match o with | some x=>f x | none=>none)=some y) (k: ∀ x,o=some x->f x=some y->P):P :=
 @Option.casesOn _ (λ o=>(match o with | some x=>f x | none=>none)=some y->(∀ x,o=some x->f x=some y->P)->P) o (λ h _=>nn h) (λ _ h k=>k _ rfl h) h k
theorem I2 {o:Option (Int)}{f:Int->Option β}{e:Option β}(h:(match o with | some x=>f x | none=>e)=some y) (k: ∀ x,o=some x->f x=some y->P) (k2:o=none->e=some y->P):P :=
 @Option.casesOn _ (λ o=>(match o with | some x=>f x | none=>e)=some y->(∀ x,o=some x->f x=some y->P)->(o=none->e=some y->P)->P) o (λ h _ k=>k rfl h) (λ _ h k _=>k _ rfl h) h k k2
theorem sf {o:Option (List Nat)}{f:List Nat->Option β}{e:Option β}(h:(match o with | some x=>f x | none=>e)=some y) (k: ∀ x,o=some x->f x=some y->P) (k2:o=none->e=some y->P):P :=
 @Option.casesOn _ (λ o=>(match o with | some x=>f x | none=>e)=some y->(∀ x,o=some x->f x=some y->P)->(o=none->e=some y->P)->P) o (λ h _ k=>k rfl h) (λ _ h k _=>k _ rfl h) h k k2
theorem BN {o:Option (List W)}{f:List W->Option β}{e:Option β}(h:(match o with | some x=>f x | none=>e)=some y) (k: ∀ x,o=some x->f x=some y->P) (k2:o=none->e=some y->P):P :=
 @Option.casesOn _ (λ o=>(match o with | some x=>f x | none=>e)=some y->(∀ x,o=some x->f x=some y->P)->(o=none->e=some y->P)->P) o (λ h _ k=>k rfl h) (λ _ h k _=>k _ rfl h) h k k2
theorem Lu {o:Option (W)}{f:W->Option β}{e:Option β}(h:(match o with | some x=>f x | none=>e)=some y) (k: ∀ x,o=some x->f x=some y->P) (k2:o=none->e=some y->P):P :=
 @Option.casesOn _ (λ o=>(match o with | some x=>f x | none=>e)=some y->(∀ x,o=some x->f x=some y->P)->(o=none->e=some y->P)->P) o (λ h _ k=>k rfl h) (λ _ h k _=>k _ rfl h) h k k2
theorem NB {o:Option (Nat)}{f:Nat->Option β}{e:Option β}(h:(match o with | some x=>f x | none=>e)=some y) (k: ∀ x,o=some x->f x=some y->P) (k2:o=none->e=some y->P):P :=
 @Option.casesOn _ (λ o=>(match o with | some x=>f x | none=>e)=some y->(∀ x,o=some x->f x=some y->P)->(o=none->e=some y->P)->P) o (λ h _ k=>k rfl h) (λ _ h k _=>k _ rfl h) h k k2
theorem I3 {o:Option (W×W)}{f:W->W->Option β}(h:(match o with | some (a,b)=>f a b | none=>none)=some y) (k: ∀ a b,o=some (a,b)->f a b=some y->P):P :=
 @Option.casesOn _ (λ o=>(match o with | some (a,b)=>f a b | none=>none)=some y->(∀ a b,o=some (a,b)->f a b=some y->P)->P) o (λ h _=>nn h) (λ _ h k=>k _ _ rfl h) h k
theorem F8 {o:Option (Nat×List (Nat×W))}{f:Nat->List (Nat×W)->Option β}(h:(match o with | some (a,b)=>f a b | none=>none)=some y) (k: ∀ a b,o=some (a,b)->f a b=some y->P):P :=
 @Option.casesOn _ (λ o=>(match o with | some (a,b)=>f a b | none=>none)=some y->(∀ a b,o=some (a,b)->f a b=some y->P)->P) o (λ h _=>nn h) (λ _ h k=>k _ _ rfl h) h k
theorem NC {o:Option (V×List V)}{f:V->List V->Option β}(h:(match o with | some (a,b)=>f a b | none=>none)=some y) (k: ∀ a b,o=some (a,b)->f a b=some y->P):P :=
 @Option.casesOn _ (λ o=>(match o with | some (a,b)=>f a b | none=>none)=some y->(∀ a b,o=some (a,b)->f a b=some y->P)->P) o (λ h _=>nn h) (λ _ h k=>k _ _ rfl h) h k
theorem CO {o:Option (Nat×List (Nat×V))}{f:Nat->List (Nat×V)->Option β}(h:(match o with | some (a,b)=>f a b | none=>none)=some y) (k: ∀ a b,o=some (a,b)->f a b=some y->P):P :=
 @Option.casesOn _ (λ o=>(match o with | some (a,b)=>f a b | none=>none)=some y->(∀ a b,o=some (a,b)->f a b=some y->P)->P) o (λ h _=>nn h) (λ _ h k=>k _ _ rfl h) h k
theorem Ir {o:Option (Fl×St)}{f:Fl->St->Option β}(h:(match o with | some (a,b)=>f a b | none=>none)=some y) (k: ∀ a b,o=some (a,b)->f a b=some y->P):P :=
 @Option.casesOn _ (λ o=>(match o with | some (a,b)=>f a b | none=>none)=some y->(∀ a b,o=some (a,b)->f a b=some y->P)->P) o (λ h _=>nn h) (λ _ h k=>k _ _ rfl h) h k
theorem ND {o:Option (List W×List W)}{f:List W->List W->Option β}(h:(match o with | some (a,b)=>f a b | none=>none)=some y) (k: ∀ a b,o=some (a,b)->f a b=some y->P):P :=
 @Option.casesOn _ (λ o=>(match o with | some (a,b)=>f a b | none=>none)=some y->(∀ a b,o=some (a,b)->f a b=some y->P)->P) o (λ h _=>nn h) (λ _ h k=>k _ _ rfl h) h k
theorem mL {o:Option (V×St)}{f:V->St->Option β}(h:(match o with | some (a,b)=>f a b | none=>none)=some y) (k: ∀ a b,o=some (a,b)->f a b=some y->P):P :=
 @Option.casesOn _ (λ o=>(match o with | some (a,b)=>f a b | none=>none)=some y->(∀ a b,o=some (a,b)->f a b=some y->P)->P) o (λ h _=>nn h) (λ _ h k=>k _ _ rfl h) h k
theorem je {o:Option (W×St)}{f:W->St->Option β}(h:(match o with | some (a,b)=>f a b | none=>none)=some y) (k: ∀ a b,o=some (a,b)->f a b=some y->P):P :=
 @Option.casesOn _ (λ o=>(match o with | some (a,b)=>f a b | none=>none)=some y->(∀ a b,o=some (a,b)->f a b=some y->P)->P) o (λ h _=>nn h) (λ _ h k=>k _ _ rfl h) h k
theorem CP {o:Option (Bool×St)}{f:Bool->St->Option β}(h:(match o with | some (a,b)=>f a b | none=>none)=some y) (k: ∀ a b,o=some (a,b)->f a b=some y->P):P :=
 @Option.casesOn _ (λ o=>(match o with | some (a,b)=>f a b | none=>none)=some y->(∀ a b,o=some (a,b)->f a b=some y->P)->P) o (λ h _=>nn h) (λ _ h k=>k _ _ rfl h) h k
theorem pG {o:Option (List V×St)}{f:List V->St->Option β}(h:(match o with | some (a,b)=>f a b | none=>none)=some y) (k: ∀ a b,o=some (a,b)->f a b=some y->P):P :=
 @Option.casesOn _ (λ o=>(match o with | some (a,b)=>f a b | none=>none)=some y->(∀ a b,o=some (a,b)->f a b=some y->P)->P) o (λ h _=>nn h) (λ _ h k=>k _ _ rfl h) h k
theorem CQ {o:Option (List W×St)}{f:List W->St->Option β}(h:(match o with | some (a,b)=>f a b | none=>none)=some y) (k: ∀ a b,o=some (a,b)->f a b=some y->P):P :=
 @Option.casesOn _ (λ o=>(match o with | some (a,b)=>f a b | none=>none)=some y->(∀ a b,o=some (a,b)->f a b=some y->P)->P) o (λ h _=>nn h) (λ _ h k=>k _ _ rfl h) h k
theorem F9 {o:Option (List (List Nat))}{f:List (List Nat)->Option β}(h:(match o with | some x=>f x | none=>none)=some y) (k: ∀ x,o=some x->f x=some y->P):P :=
 @Option.casesOn _ (λ o=>(match o with | some x=>f x | none=>none)=some y->(∀ x,o=some x->f x=some y->P)->P) o (λ h _=>nn h) (λ _ h k=>k _ rfl h) h k
theorem CR {o:Option (List W×List W×W)}{f:List W->List W->W->Option β}(h:(match o with | some (a,b,c)=>f a b c | none=>none)=some y) (k: ∀ a b c,o=some (a,b,c)->f a b c=some y->P):P :=
 @Option.casesOn _ (λ o=>(match o with | some (a,b,c)=>f a b c | none=>none)=some y->(∀ a b c,o=some (a,b,c)->f a b c=some y->P)->P) o (λ h _=>nn h) (λ _ h k=>k _ _ _ rfl h) h k
theorem oT {b:Bool}{e:Option β}(h:(match b with | true=>e | false=>none)=some y) (k:b=true->e=some y->P):P :=
 @Bool.casesOn (λ b=>(match b with | true=>e | false=>none)=some y->(b=true->e=some y->P)->P) b (λ h _=>nn h) (λ h k=>k rfl h) h k
theorem oF {b:Bool}{e:Option β}(h:(match b with | true=>none | false=>e)=some y) (k:b=false->e=some y->P):P :=
 @Bool.casesOn (λ b=>(match b with | true=>none | false=>e)=some y->(b=false->e=some y->P)->P) b (λ h k=>k rfl h) (λ h _=>nn h) h k
end
section
variable {w:W}
theorem vN {x:Bool}(h:CA w=some x):w= .bool x :=
 @W.casesOn (λ w=>CA w=some x->w= .bool x) w nn (λ _ h=>congrArg W.bool (sj h)) (λ _=>nn) (λ _=>nn) (λ _=>nn) (λ _=>nn) (λ _ _=>nn) (λ _=>nn) (λ _=>nn) (λ _=>nn) (λ _=>nn) (λ _ _=>nn) h
theorem dm {x:Int}(h:gG w=some x):w= .int x :=
 @W.casesOn (λ w=>gG w=some x->w= .int x) w nn (λ _=>nn) (λ _ h=>congrArg W.int (sj h)) (λ _=>nn) (λ _=>nn) (λ _=>nn) (λ _ _=>nn) (λ _=>nn) (λ _=>nn) (λ _=>nn) (λ _=>nn) (λ _ _=>nn) h
theorem da {x:List Nat}(h:gH w=some x):w= .str x :=
 @W.casesOn (λ w=>gH w=some x->w= .str x) w nn (λ _=>nn) (λ _=>nn) (λ _ h=>congrArg W.str (sj h)) (λ _=>nn) (λ _=>nn) (λ _ _=>nn) (λ _=>nn) (λ _=>nn) (λ _=>nn) (λ _=>nn) (λ _ _=>nn) h
theorem jH {x:List W}(h:tO w=some x):w= .tup x :=
 @W.casesOn (λ w=>tO w=some x->w= .tup x) w nn (λ _=>nn) (λ _=>nn) (λ _=>nn) (λ _ h=>congrArg W.tup (sj h)) (λ _=>nn) (λ _ _=>nn) (λ _=>nn) (λ _=>nn) (λ _=>nn) (λ _=>nn) (λ _ _=>nn) h
theorem fS {x:List W}(h:py w=some x):w= .lst x :=
 @W.casesOn (λ w=>py w=some x->w= .lst x) w nn (λ _=>nn) (λ _=>nn) (λ _=>nn) (λ _=>nn) (λ _ h=>congrArg W.lst (sj h)) (λ _ _=>nn) (λ _=>nn) (λ _=>nn) (λ _=>nn) (λ _=>nn) (λ _ _=>nn) h
theorem nU {x:List (List Nat×W)}(h:CB w=some x):w= .dct x :=
 @W.casesOn (λ w=>CB w=some x->w= .dct x) w nn (λ _=>nn) (λ _=>nn) (λ _=>nn) (λ _=>nn) (λ _=>nn) (λ _ _=>nn) (λ _ h=>congrArg W.dct (sj h)) (λ _=>nn) (λ _=>nn) (λ _=>nn) (λ _ _=>nn) h
theorem vO {x:Nat}(h:vG w=some x):w= .cls x :=
 @W.casesOn (λ w=>vG w=some x->w= .cls x) w nn (λ _=>nn) (λ _=>nn) (λ _=>nn) (λ _=>nn) (λ _=>nn) (λ _ _=>nn) (λ _=>nn) (λ _=>nn) (λ _ h=>congrArg W.cls (sj h)) (λ _=>nn) (λ _ _=>nn) h
theorem y9 {x:Nat}(h:y4 w=some x):w= .fn x :=
 @W.casesOn (λ w=>y4 w=some x->w= .fn x) w nn (λ _=>nn) (λ _=>nn) (λ _=>nn) (λ _=>nn) (λ _=>nn) (λ _ _=>nn) (λ _=>nn) (λ _ h=>congrArg W.fn (sj h)) (λ _=>nn) (λ _=>nn) (λ _ _=>nn) h
theorem tW {x:Nat×List (Nat×W)}(h:li w=some x):w= .inst x.1 x.2 :=
 @W.casesOn (λ w=>li w=some x->w= .inst x.1 x.2) w nn (λ _=>nn) (λ _=>nn) (λ _=>nn) (λ _=>nn) (λ _=>nn) (λ _ _ h=>congrArg (λ x:Nat×List (Nat×W)=>W.inst x.1 x.2) (sj h)) (λ _=>nn) (λ _=>nn) (λ _=>nn) (λ _=>nn) (λ _ _=>nn) h
theorem rj (h:u9 w=true):w= .none :=
 @W.casesOn (λ w=>u9 w=true->w= .none) w (λ _=>rfl) (λ _=>ff) (λ _=>ff) (λ _=>ff) (λ _=>ff) (λ _=>ff) (λ _ _=>ff) (λ _=>ff) (λ _=>ff) (λ _=>ff) (λ _=>ff) (λ _ _=>ff) h
theorem ll {n:Nat}(h:CC w=some n):w= .int (n:Int):=by
 unfold CC at h
 cases e:gG w with
 | none=>rw [e] at h;exact nn h
 | some i =>
   rw [e] at h
   cases i with
   | ofNat k=>exact sj h▸dm e
   | negSucc k=>exact nn h
theorem rk {n:Nat}(h:BE w=some n):w= .str [n]:=by
 unfold BE at h
 cases e:gH w with
 | none=>rw [e] at h;exact nn h
 | some l =>
   rw [e] at h
   match l,h,e with
   | [a],h,e=>exact sj h▸da e
theorem fU {α:Type}{a:α}: ∀ {l:List α},ix l=some a->l=[a]
 | [_],h=>congrArg (λ x=>[x]) (sj h)
theorem kL {α:Type}{a b:α}: ∀ {l:List α},pz l=some (a,b)->l=[a,b]
 | [_,_],h=>congrArg (λ x:α×α=>[x.1,x.2]) (sj h)
variable {v:V}
theorem Ga {x:W}(h:vW v=some x):v= .w x :=
 @V.casesOn (λ v=>vW v=some x->v= .w x) v (λ _ h=>congrArg V.w (sj h)) (λ _=>nn) (λ _=>nn) (λ _=>nn) (λ _ _=>nn) h
theorem dM {x:Sl}(h:dN v=some x):v= .slot x :=
 @V.casesOn (λ v=>dN v=some x->v= .slot x) v (λ _=>nn) (λ _=>nn) (λ _=>nn) (λ _ h=>congrArg V.slot (sj h)) (λ _ _=>nn) h
theorem lq {x:List W}(h:jd v=some x):v= .own x :=
 @V.casesOn (λ v=>jd v=some x->v= .own x) v (λ _=>nn) (λ _ h=>congrArg V.own (sj h)) (λ _=>nn) (λ _=>nn) (λ _ _=>nn) h
theorem pH {x:List (W×List W)}(h:lh v=some x):v= .hds x :=
 @V.casesOn (λ v=>lh v=some x->v= .hds x) v (λ _=>nn) (λ _=>nn) (λ _ h=>congrArg V.hds (sj h)) (λ _=>nn) (λ _ _=>nn) h
variable {s:dy}
theorem hZ {x:List W}(h:gL s=some x):s= .list x :=
 @dy.casesOn (λ s=>gL s=some x->s= .list x) s nn nn (λ _ h=>congrArg dy.list (sj h)) (λ _ _=>nn) (λ _ _ _=>nn) h
theorem lr {x:Nat×List (Nat×V)}(h:mW s=some x):s= .obj x.1 x.2 :=
 @dy.casesOn (λ s=>mW s=some x->s= .obj x.1 x.2) s nn nn (λ _=>nn) (λ _ _ h=>congrArg (λ x:Nat×List (Nat×V)=>dy.obj x.1 x.2) (sj h)) (λ _ _ _=>nn) h
theorem lx {x:List W×List W×W}(h:mX s=some x):s= .rdr x.1 x.2.1 x.2.2 :=
 @dy.casesOn (λ s=>mX s=some x->s= .rdr x.1 x.2.1 x.2.2) s nn nn (λ _=>nn) (λ _ _=>nn) (λ _ _ _ h=>congrArg (λ x:List W×List W×W=>dy.rdr x.1 x.2.1 x.2.2) (sj h)) h
theorem pI (h:gv s=true):s= .absent :=
 @dy.casesOn (λ s=>gv s=true->s= .absent) s (λ _=>rfl) ff (λ _=>ff) (λ _ _=>ff) (λ _ _ _=>ff) h
theorem mZ (h:jG s=true):s= .dead :=
 @dy.casesOn (λ s=>jG s=true->s= .dead) s ff (λ _=>rfl) (λ _=>ff) (λ _ _=>ff) (λ _ _ _=>ff) h
theorem fV {l:List (Option V)}{i:Nat}(h:bA l i=some v):ax l i=some (some v):=by
 unfold bA at h
 cases e:ax l i with
 | none=>rw [e] at h;exact nn h
 | some o=>rw [e] at h;exact congrArg some h
theorem sg {l:List (Option V)}{i:Nat}(h:dI l i=true):ax l i=some none:=by
 unfold dI at h
 cases e:ax l i with
 | none=>rw [e] at h;exact ff h
 | some o =>
   rw [e] at h
   cases o with
   | none=>rfl
   | some x=>exact ff h
end
end Mine
end
section
open PySem PySem.W PySem.Calls PyProof.Rows
namespace Mine
noncomputable abbrev PM:=Addr->Option Obj
noncomputable def PM.le (F F':PM):Prop:= ∀ a o,F a=some o->F' a=some o
theorem PM.le.refl (F:PM):F.le F:=λ _ _ h=>h
theorem PM.le.trans {F G H:PM}(a:F.le G) (b:G.le H):F.le H:=λ _ _ h=>b _ _ (a _ _ h)
noncomputable def PM.set (F:PM) (a:Addr) (o:Obj):PM:=λ b=>if b=a then some o else F b
theorem PM.set_self (F:PM) (a:Addr) (o:Obj):F.set a o a=some o:=by unfold PM.set;rw [if_pos rfl]
theorem PM.le_set {F:PM}{a:Addr}{o:Obj}(h:F a=none):F.le (F.set a o):=λ b o' e=>by
 unfold PM.set;rw [if_neg (λ q=>by rw [q,h] at e;cases e)];exact e
noncomputable abbrev aK:=Addr×(Obj->Prop)
noncomputable def one (a:Addr) (p:aK):Nat:=if p.1=a then 1 else 0
noncomputable def fW (a:Addr):List aK->Nat
 | []=>0
 | p::r=>one a p+fW a r
theorem cP (a:Addr): ∀ l r:List aK,fW a (l++r)=fW a l+fW a r
 | [],r=>(Nat.zero_add _).symm
 | p::l,r=>by rw [List.cons_append,fW,fW,cP a l r,Nat.add_assoc]
theorem vP (a:Addr) (P:Obj->Prop):one a (a,P)=1:=if_pos rfl
theorem sh {a:Addr}: ∀ {l:List aK}{p:aK},p ∈ l->p.1=a->1<=fW a l
 | q::l,p,h,e=>by
   rcases List.mem_cons.mp h with rfl | h
   · rw [fW,one,if_pos e];exact Ru _ _
   · exact Rl (sh h e) (Rv _ _)
theorem eO {a:Addr}: ∀ {l:List aK},(∀ p ∈ l,p.1≠a)->fW a l=0
 | [],_=>rfl
 | q::l,h=>by rw [fW,one,if_neg (h q List.mem_cons_self),eO λ p hp=>h p (Rk _ hp)]
structure cU (F:PM) (U:List aK) (h:Heap):Prop where
 fro: ∀ a o,F a=some o->h.get? a=some o
 own: ∀ p ∈ U,F p.1=none/\ ∃ o,h.get? p.1=some o/\p.2 o
 nod: ∀ a,fW a U<=1
section
variable {F F':PM}{U U':List aK}{h h':Heap}{a:Addr}{P P':Obj->Prop}{o:Obj}
theorem cU.sub (x:cU F U h) (m: ∀ p ∈ U',p ∈ U) (c: ∀ a,fW a U'<=fW a U):cU F U' h :=
 ⟨x.fro,λ q hq=>x.own q (m q hq),λ a=>Rl (c a) (x.nod a)⟩
theorem cU.keeps (x:cU F U h) (k: ∀ b o,h.get? b=some o->h'.get? b=some o):cU F U h' :=
 ⟨λ a o e=>k _ _ (x.fro a o e),λ p hp=>let ⟨e,o,g,q⟩:=x.own p hp;⟨e,o,k _ _ g,q⟩,x.nod⟩
theorem cU.drop (x:cU F ((a,P)::U) h):cU F U h:=x.sub (λ _ hp=>Rk _ hp) λ _=>Rv _ _
theorem cU.mem (x:cU F U h) (hm:(a,P) ∈ U): ∃ o,h.get? a=some o/\P o:=(x.own (a,P) hm).2
theorem cU.head (x:cU F ((a,P)::U) h): ∃ o,h.get? a=some o/\P o:=x.mem List.mem_cons_self
theorem cU.off (x:cU F ((a,P)::U) h): ∀ p ∈ U,p.1≠a:=λ p hp e=>by
 have h1:=x.nod a
 have h2:=sh hp e
 rw [fW,vP] at h1
 lia
theorem cU.upd (x:cU F ((a,P)::U) h) (k: ∀ b o,b≠a->h.get? b=some o->h'.get? b=some o) (e:h'.get? a=some o) (q:P' o):cU F ((a,P')::U) h':=by
 have fa:=(x.own (a,P) List.mem_cons_self).1
 refine ⟨λ b ob eb=>k b ob (λ z=>by rw [z,show F a=none from fa] at eb;cases eb) (x.fro b ob eb),λ p hp=> ?_,x.nod⟩
 rcases List.mem_cons.mp hp with rfl | hp
 · exact ⟨fa,o,e,q⟩
 · obtain ⟨f,ob,g,r⟩:=x.own p (Rk _ hp)
   exact ⟨f,ob,k _ _ (x.off p hp) g,r⟩
theorem cU.fresh (x:cU F U h) (f:h.get? a=none):F a=none/\ ∀ p ∈ U,p.1≠a:=by
 refine ⟨?_,λ p hp z=> ?_⟩
 · cases e:F a with
   | none=>rfl
   | some o=>have:=x.fro a o e;rw [f] at this;cases this
 · obtain ⟨_,o,g,_⟩:=x.own p hp
   rw [z,f] at g;cases g
theorem cU.newO (x:cU F U h) (k: ∀ b o,h.get? b=some o->h'.get? b=some o) (f:h.get? a=none) (e:h'.get? a=some o) (q:P o):cU F ((a,P)::U) h':=by
 obtain ⟨fa,na⟩:=x.fresh f
 have y:=x.keeps k
 refine ⟨y.fro,λ p hp=> ?_,λ b=> ?_⟩
 · rcases List.mem_cons.mp hp with rfl | hp
   · exact ⟨fa,o,e,q⟩
   · exact y.own p hp
 · rw [fW,one]
   split
   · rename_i z
     rw [eO λ p hp w=>na p hp (w.trans z.symm)];lia
   · have:=x.nod b;lia
theorem ly {na: ∀ p ∈ U,p.1≠a}(x:cU F U h): ∀ p ∈ U,(F.set a o) p.1=none/\ ∃ o,h.get? p.1=some o/\p.2 o:=λ p hp=>by
 obtain ⟨f',r⟩:=x.own p hp
 refine ⟨?_,r⟩
 unfold PM.set
 rw [if_neg (na p hp)]
 exact f'
theorem lz (x:cU F U h) (e:h.get? a=some o): ∀ b ob,(F.set a o) b=some ob->h.get? b=some ob:=λ b ob eb=>by
 unfold PM.set at eb
 split at eb
 · rename_i z;rw [z];cases eb;exact e
 · exact x.fro b ob eb
theorem cU.newF (x:cU F U h) (k: ∀ b o,h.get? b=some o->h'.get? b=some o) (f:h.get? a=none) (e:h'.get? a=some o):F.le (F.set a o)/\cU (F.set a o) U h':=by
 obtain ⟨fa,na⟩:=x.fresh f
 have y:=x.keeps k
 exact ⟨PM.le_set fa,lz y e,ly (na:=na) y,x.nod⟩
theorem cU.freeze (x:cU F ((a,P)::U) h): ∃ o,P o/\F.le (F.set a o)/\cU (F.set a o) U h:=by
 obtain ⟨fa,o,e,q⟩:=x.own (a,P) List.mem_cons_self
 exact ⟨o,q,PM.le_set fa,lz x.drop e,ly (na:=x.off) x.drop,x.drop.nod⟩
end
inductive Tr where
 | l (n:Nat)
 | n (a b:Tr)
noncomputable def za:List (List aK)->Nat->List aK
 | [],_=>[]
 | U::_,0=>U
 | _::r,n+1=>za r n
noncomputable def Tr.ev (ρ:List (List aK)):Tr->List aK
 | .l k=>za ρ k
 | .n a b=>a.ev ρ++b.ev ρ
noncomputable def Tr.lv:Tr->List Nat
 | .l k=>[k]
 | .n a b=>a.lv++b.lv
noncomputable def pJ:List Nat->List Nat->Bool
 | [],_=>true
 | k::r,l=>l.contains k&&pJ r (l.erase k)
noncomputable def nV (a:Addr) (ρ:List (List aK)):List Nat->Nat
 | []=>0
 | k::r=>fW a (za ρ k)+nV a ρ r
section
variable {a:Addr}{ρ:List (List aK)}
theorem lA: ∀ l r:List Nat,nV a ρ (l++r)=nV a ρ l+nV a ρ r
 | [],r=>(Nat.zero_add _).symm
 | _::l,r=>(congrArg (_+ ·) (lA l r)).trans (Nat.add_assoc ..).symm
theorem nX: ∀ t:Tr,fW a (t.ev ρ)=nV a ρ t.lv
 | .l _=>rfl
 | .n x y=>(cP ..).trans ((congr (congrArg _ (nX x)) (nX y)).trans (lA ..).symm)
theorem nY {p:aK}: ∀ t:Tr,p ∈ t.ev ρ ↔ ∃ k ∈ t.lv,p ∈ za ρ k
 | .l k=>⟨λ h=>⟨k,List.mem_singleton_self k,h⟩,λ ⟨_,h,k⟩=>List.mem_singleton.mp h▸k⟩
 | .n x y=>by
   show p ∈ x.ev ρ++y.ev ρ ↔ ∃ k ∈ x.lv++y.lv,_
   rw [List.mem_append,nY x,nY y]
   exact ⟨λ h=>h.elim (λ ⟨k,a,b⟩=>⟨k,Rz _ a,b⟩) (λ ⟨k,a,b⟩=>⟨k,List.mem_append_right _ a,b⟩),λ ⟨k,a,b⟩=>(List.mem_append.mp a).imp (⟨k,·,b⟩) (⟨k,·,b⟩)⟩
theorem tX {l r:List Nat}(p:l.Perm r):nV a ρ l=nV a ρ r:=by
 induction p with
 | nil=>rfl
 | cons y _ ih=>exact congrArg (_+ ·) ih
 | swap y z l=>exact Nat.add_left_comm ..
 | trans _ _ i1 i2=>exact i1.trans i2
theorem pK: ∀ {l' l:List Nat},pJ l' l=true-> ∃ m,l.Perm (l'++m)
 | [],l,_=>⟨l,.refl _⟩
 | k::r,l,h =>
   let ⟨m,p⟩:=pK (Bool.and_eq_true_iff.mp h).2
   ⟨m,(List.perm_cons_erase (List.contains_iff_mem.mp (Bool.and_eq_true_iff.mp h).1)).trans (p.cons k)⟩
theorem vQ {l' l:List Nat}(h:pJ l' l=true):nV a ρ l'<=nV a ρ l/\ ∀ j ∈ l',j ∈ l :=
 let ⟨_,p⟩:=pK h
 ⟨Rl (Ru _ _) (Nat.le_of_eq ((lA ..).symm.trans (tX p).symm)),λ _ k=>p.mem_iff.mpr (Rz _ k)⟩
theorem rl {t t':Tr}(e:pJ t'.lv t.lv=true) (p:aK) (h:p ∈ t'.ev ρ):p ∈ t.ev ρ :=
 let ⟨k,a,b⟩:=(nY t').mp h;(nY t).mpr ⟨k,(vQ (a:=0) (ρ:=ρ) e).2 k a,b⟩
theorem rn {t t':Tr}(e:pJ t'.lv t.lv=true) (a:Addr):fW a (t'.ev ρ)<=fW a (t.ev ρ):=by
 rw [nX,nX];exact (vQ e).1
theorem cU.tr {F:PM}{h:Heap}(ρ:List (List aK)) (t t':Tr) (e:pJ t'.lv t.lv=true) (x:cU F (t.ev ρ) h):cU F (t'.ev ρ) h:=x.sub (rl e) (rn e)
end
noncomputable def ae (x:List Nat):Str:=⟨x.toArray⟩
structure Lp where
 code:Addr
 place:Addr
 pos:Pos
 qual:Str
structure Cx where
 w:World
 prog:Program
 base:PM
 lps:List Lp
 K:Frag
 mg:Str->Option Value
 mb:Str->Option Value
 fnA:Nat->Addr
 clsA:Nat->Addr
 gname:Nat->Str
 aname:Nat->Str
 na:Nat
 T:gC
noncomputable def si:BI->Value
 | .len=> .builtin "len"
 | .range=> .type "range"
 | .tuple=> .type "tuple"
 | .list=> .type "list"
 | .str=> .type "str"
 | .abs=> .builtin "abs"
 | .ord=> .builtin "ord"
 | .chr=> .builtin "chr"
noncomputable def rq (a b:Int) (o:Obj):Prop:= ∃ t u v,o={ cls:= .type "range",data:= .fields #[.int a t,.int b u,.int 1 v] }
noncomputable def eP (X:Cx) (e:DictEntry) (x:Str):Prop:= ∃ t,e.key= .str x t/\e.hash=PyData.keyHash X.w.params x
inductive Gb (i:Int):Value->Prop
 | mk (t:Tok):Gb i (.int i t)
inductive Gc (x:List Nat):Value->Prop
 | mk (t:Tok):x.length<=cw->Gc x (.str (ae x) t)
inductive pL (F:PM) (k:String) (P:List Value->Prop):Value->Prop
 | mk {a:Addr} {o:Obj} {vs:List Value} {n:Nat}:F a=some o->o.cls= .type k->o.data= .seq vs.toArray n->vs.length<=cw->P vs->pL F k P (.ref a)
inductive nc (X:Cx) (F:PM) (c:Nat) (P:List DictEntry->Prop):Value->Prop
 | mk {x d:Addr} {es:List DictEntry} {n:Nat}:(X.T.init c).isSome=true->F x=some (instObj (X.clsA c) d)->F d=some (dictOf es n)->P es->nc X F c P (.ref x)
inductive tY (F:PM) (P:List DictEntry->Prop):Value->Prop
 | mk {a:Addr} {o:Obj} {es:List DictEntry} {n:Nat}:F a=some o->o.ExactDict->o.data= .dict es.toArray n->(a==sysModules)=false->P es->tY F P (.ref a)
noncomputable def I4 (X:Cx) (f:Nat):Prop:=(∃ fd,X.T.fn f=some fd)\/f=X.T.peek\/f=X.T.done
inductive I5 (X:Cx) (f:Nat):Value->Prop
 | mk:I4 X f->I5 X f (.ref (X.fnA f))
inductive tZ (F:PM) (a b:Int):Value->Prop
 | mk {r:Addr} {o:Obj}:F r=some o->rq a b o->tZ F a b (.ref r)
inductive cN {α:Type}(P:α->Prop) (Q:List α->Prop):List α->Prop
 | mk {v:α} {vs:List α}:P v->Q vs->cN P Q (v::vs)
mutual
noncomputable def RW (X:Cx) (F:PM):Value->W->Prop
 | v,.none=>v= .none
 | v,.bool b=>v= .bool b
 | v,.int i=>Gb i v
 | v,.str x=>Gc x v
 | v,.tup ws=>pL F "tuple" (λ vs=>cF X F vs ws) v
 | v,.lst ws=>pL F "list" (λ vs=>cF X F vs ws) v
 | v,.inst c fs=>nc X F c (λ es=>ng X F es fs) v
 | v,.dct l=>tY F (λ es=>kM X F es l) v
 | v,.fn f=>I5 X f v
 | v,.cls c=>v= .ref (X.clsA c)
 | v,.bi b=>v=si b
 | v,.rng a b=>tZ F a b v
noncomputable def cF (X:Cx) (F:PM):List Value->List W->Prop
 | vs,[]=>vs=[]
 | vs,w::ws=>cN (λ v=>RW X F v w) (λ vs=>cF X F vs ws) vs
noncomputable def ng (X:Cx) (F:PM):List DictEntry->List (Nat×W)->Prop
 | es,[]=>es=[]
 | es,(a,w)::r=>cN (λ e=>eP X e (X.aname a)/\RW X F e.val w) (λ es=>ng X F es r) es
noncomputable def kM (X:Cx) (F:PM):List DictEntry->List (List Nat×W)->Prop
 | es,[]=>es=[]
 | es,(k,w)::r=>cN (λ e=>eP X e (ae k)/\RW X F e.val w) (λ es=>kM X F es r) es
end
section
variable {X:Cx}{F F':PM}
theorem RW.none:RW X F .none .none:=rfl
theorem RW.bool (b:Bool):RW X F (.bool b) (.bool b):=rfl
theorem RW.int (i:Int) (t:Tok):RW X F (.int i t) (.int i):= .mk t
theorem RW.str (x:List Nat) (t:Tok) (h:x.length<=cw):RW X F (.str (ae x) t) (.str x):= .mk t h
theorem RW.tup {a:Addr}{o:Obj}{vs:List Value}{n:Nat}{ws:List W}(h1:F a=some o) (h2:o.cls= .type "tuple") (h3:o.data= .seq vs.toArray n) (h4:vs.length<=cw) (h5:cF X F vs ws):RW X F (.ref a) (.tup ws):= .mk h1 h2 h3 h4 h5
theorem RW.lst {a:Addr}{o:Obj}{vs:List Value}{n:Nat}{ws:List W}(h1:F a=some o) (h2:o.cls= .type "list") (h3:o.data= .seq vs.toArray n) (h4:vs.length<=cw) (h5:cF X F vs ws):RW X F (.ref a) (.lst ws):= .mk h1 h2 h3 h4 h5
theorem RW.inst {x d:Addr}{c:Nat}{fs:List (Nat×W)}{es:List DictEntry}{n:Nat}(h1:(X.T.init c).isSome=true) (h2:F x=some (instObj (X.clsA c) d)) (h3:F d=some (dictOf es n)) (h4:ng X F es fs):RW X F (.ref x) (.inst c fs):= .mk h1 h2 h3 h4
theorem RW.dct {a:Addr}{o:Obj}{es:List DictEntry}{n:Nat}{l:List (List Nat×W)}(h1:F a=some o) (h2:o.ExactDict) (h3:o.data= .dict es.toArray n) (h4:(a==sysModules)=false) (h5:kM X F es l):RW X F (.ref a) (.dct l):= .mk h1 h2 h3 h4 h5
theorem RW.fn (f:Nat) (fd:Fd) (h:X.T.fn f=some fd):RW X F (.ref (X.fnA f)) (.fn f):= .mk (.inl ⟨fd,h⟩)
theorem RW.cls (c:Nat):RW X F (.ref (X.clsA c)) (.cls c):=rfl
theorem RW.bi (b:BI):RW X F (si b) (.bi b):=rfl
theorem RW.rng {r:Addr}{o:Obj}(a b:Int) (h1:F r=some o) (h2:rq a b o):RW X F (.ref r) (.rng a b):= .mk h1 h2
theorem cF.nil:cF X F [] []:=rfl
theorem cF.cons {v:Value}{vs:List Value}{w:W}{ws:List W}(h:RW X F v w) (k:cF X F vs ws):cF X F (v::vs) (w::ws):= .mk h k
theorem ng.nil:ng X F [] []:=rfl
theorem ng.cons {e:DictEntry}{es:List DictEntry}{a:Nat}{w:W}{r:List (Nat×W)}(h1:eP X e (X.aname a)) (h2:RW X F e.val w) (k:ng X F es r):ng X F (e::es) ((a,w)::r):= .mk ⟨h1,h2⟩ k
theorem kM.nil:kM X F [] []:=rfl
theorem kM.cons {e:DictEntry}{es:List DictEntry}{a:List Nat}{w:W}{r:List (List Nat×W)}(h1:eP X e (ae a)) (h2:RW X F e.val w) (k:kM X F es r):kM X F (e::es) ((a,w)::r):= .mk ⟨h1,h2⟩ k
theorem pL.imp {k:String}{P P':List Value->Prop}{v:Value}(l:F.le F') (h: ∀ vs,P vs->P' vs):pL F k P v->pL F' k P' v
 | .mk a b c d e=> .mk (l _ _ a) b c d (h _ e)
theorem nc.imp {c:Nat}{P P':List DictEntry->Prop}{v:Value}(l:F.le F') (h: ∀ vs,P vs->P' vs):nc X F c P v->nc X F' c P' v
 | .mk a b c e=> .mk a (l _ _ b) (l _ _ c) (h _ e)
theorem tY.imp {P P':List DictEntry->Prop}{v:Value}(l:F.le F') (h: ∀ vs,P vs->P' vs):tY F P v->tY F' P' v
 | .mk a b c d e=> .mk (l _ _ a) b c d (h _ e)
theorem tZ.imp {a b:Int}{v:Value}(l:F.le F'):tZ F a b v->tZ F' a b v
 | .mk a b=> .mk (l _ _ a) b
theorem cN.imp {α:Type}{P P':α->Prop}{Q Q':List α->Prop}{l:List α}(h: ∀ v,P v->P' v) (k: ∀ vs,Q vs->Q' vs):cN P Q l->cN P' Q' l
 | .mk a b=> .mk (h _ a) (k _ b)
end
mutual
theorem RW.up {X:Cx}{F F':PM}(l:F.le F'): ∀ (w:W) (v:Value),RW X F v w->RW X F' v w
 | .none,_,h=>h
 | .bool _,_,h=>h
 | .int _,_,h=>h
 | .str _,_,h=>h
 | .tup ws,_,h=>pL.imp l (λ vs=>cF.up l ws vs) h
 | .lst ws,_,h=>pL.imp l (λ vs=>cF.up l ws vs) h
 | .inst _ fs,_,h=>nc.imp l (λ es=>ng.up l fs es) h
 | .dct d,_,h=>tY.imp l (λ es=>kM.up l d es) h
 | .fn _,_,h=>h
 | .cls _,_,h=>h
 | .bi _,_,h=>h
 | .rng _ _,_,h=>tZ.imp l h
termination_by structural w=>w
theorem cF.up {X:Cx}{F F':PM}(l:F.le F'): ∀ (ws:List W) (vs:List Value),cF X F vs ws->cF X F' vs ws
 | [],_,h=>h
 | w::ws,_,h=>cN.imp (λ v=>RW.up l w v) (λ vs=>cF.up l ws vs) h
termination_by structural ws=>ws
theorem ng.up {X:Cx}{F F':PM}(l:F.le F'): ∀ (fs:List (Nat×W)) (es:List DictEntry),ng X F es fs->ng X F' es fs
 | [],_,h=>h
 | (_,w)::fs,_,h=>cN.imp (λ e k=>⟨k.1,RW.up l w _ k.2⟩) (λ es=>ng.up l fs es) h
termination_by structural fs=>fs
theorem kM.up {X:Cx}{F F':PM}(l:F.le F'): ∀ (fs:List (List Nat×W)) (es:List DictEntry),kM X F es fs->kM X F' es fs
 | [],_,h=>h
 | (_,w)::fs,_,h=>cN.imp (λ e k=>⟨k.1,RW.up l w _ k.2⟩) (λ es=>kM.up l fs es) h
termination_by structural fs=>fs
end
section
variable {X:Cx}{F F':PM}
theorem RW.mono (l:F.le F') {v:Value}{w:W}(h:RW X F v w):RW X F' v w:=RW.up l w v h
theorem cF.mono (l:F.le F') {v:List Value}{w:List W}(h:cF X F v w):cF X F' v w:=cF.up l w v h
theorem ng.mono (l:F.le F') {v:List DictEntry}{w:List (Nat×W)}(h:ng X F v w):ng X F' v w:=ng.up l w v h
theorem kM.mono (l:F.le F') {v:List DictEntry}{w:List (List Nat×W)}(h:kM X F v w):kM X F' v w:=kM.up l w v h
theorem cF.length: ∀ {ws:List W}{vs:List Value},cF X F vs ws->vs.length=ws.length
 | [],_,.refl _=>rfl
 | _::_,_,.mk _ b=>congrArg (· + 1) (cF.length b)
theorem cF.append {us:List Value}{zs:List W}(k:cF X F us zs): ∀ {ws:List W}{vs:List Value},cF X F vs ws->cF X F (vs++us) (ws++zs)
 | [],_,.refl _=>k
 | _::_,_,.mk a b=> .mk a (cF.append k b)
theorem cF.nth: ∀ {ws:List W}{vs:List Value}{i:Nat}{w:W},cF X F vs ws->ws[i]?=some w-> ∃ v,vs[i]?=some v/\RW X F v w
 | [],_,_,_,_,h=>nomatch h
 | _::_,_,i,_,k,h=>by
   cases k with | mk a b=> ?_
   cases i with
   | zero=>cases h;exact ⟨_,rfl,a⟩
   | succ i=>exact cF.nth (i:=i) b h
end
noncomputable abbrev PS:=Sl->Option Addr
noncomputable def PS.le (r r':PS):Prop:= ∀ k x,r k=some x->r' k=some x
theorem PS.le.refl (F:PS):F.le F:=λ _ _ h=>h
theorem PS.le.trans {F G H:PS}(a:F.le G) (b:G.le H):F.le H:=λ _ _ h=>b _ _ (a _ _ h)
inductive jI (F:PM) (fd:FuncData):Prop
 | mk (c:Addr) (oc:Obj) (vs:Array Value) (t:Tok):fd.code= .ref c->F c=some oc->oc.data= .fields vs->vs[1]?=some (.str fd.qualname t)->jI F fd
theorem jI.mono {F F':PM}(l:F.le F') {fd:FuncData}:jI F fd->jI F' fd
 | .mk c oc vs t a b e f=> .mk c oc vs t a (l _ _ b) e f
noncomputable abbrev bu:=Nat->FuncData->Prop
inductive gO (r:PS) (k:Sl):Value->Prop
 | mk {x:Addr}:r k=some x->gO r k (.ref x)
inductive rr (LP:bu) (F:PM) (k:Nat) (P:List (Str×Addr)->Prop):Value->Prop
 | mk {a:Addr} {o:Obj} {fd:FuncData}:F a=some o->o.data= .func fd->LP k fd->jI F fd->P fd.closure.reverse->rr LP F k P (.ref a)
inductive lB (F:PM) (P:Value->Prop):Str×Addr->Prop
 | mk {n:Str} {c:Addr} {o:Obj} {v:Value}:F c=some o->o.data= .cell (some v)->P v->lB F P (n,c)
mutual
noncomputable def RV (X:Cx) (LP:bu) (F:PM) (r:PS):Value->V->Prop
 | v,.w w=>RW X F v w
 | _,.own _=>False
 | _,.hds _=>False
 | v,.slot k=>gO r k v
 | v,.clo k cs=>rr LP F k (λ l=>jD X LP F r l cs) v
noncomputable def jD (X:Cx) (LP:bu) (F:PM) (r:PS):List (Str×Addr)->List V->Prop
 | l,[]=>l=[]
 | l,v::cs=>cN (lB F λ u=>RV X LP F r u v) (λ l=>jD X LP F r l cs) l
end
section
variable {X:Cx}{LP:bu}{F F':PM}{r r':PS}
theorem RV.w {v:Value}{w:W}(h:RW X F v w):RV X LP F r v (.w w):=h
theorem RV.slot {k:Sl}{x:Addr}(h:r k=some x):RV X LP F r (.ref x) (.slot k):= .mk h
theorem RV.clo {a:Addr}{o:Obj}{fd:FuncData}{k:Nat}{cs:List V}(h1:F a=some o) (h2:o.data= .func fd) (h3:LP k fd) (h4:jI F fd) (h5:jD X LP F r fd.closure.reverse cs):RV X LP F r (.ref a) (.clo k cs):= .mk h1 h2 h3 h4 h5
theorem jD.nil:jD X LP F r [] []:=rfl
theorem jD.cons {n:Str}{c:Addr}{o:Obj}{v:Value}{V:V}{l:List (Str×Addr)}{cs:List Mine.V}(h1:F c=some o) (h2:o.data= .cell (some v)) (h3:RV X LP F r v V) (h4:jD X LP F r l cs):jD X LP F r ((n,c)::l) (V::cs):= .mk (.mk h1 h2 h3) h4
theorem rr.imp {k:Nat}{P P':List (Str×Addr)->Prop}{v:Value}(l:F.le F') (h: ∀ x,P x->P' x):rr LP F k P v->rr LP F' k P' v
 | .mk a b c d e=> .mk (l _ _ a) b c (d.mono l) (h _ e)
theorem lB.imp {P P':Value->Prop}{x:Str×Addr}(l:F.le F') (h: ∀ x,P x->P' x):lB F P x->lB F' P' x
 | .mk a b c=> .mk (l _ _ a) b (h _ c)
theorem gO.imp {k:Sl}{v:Value}(q:r.le r'):gO r k v->gO r' k v
 | .mk a=> .mk (q _ _ a)
end
mutual
theorem RV.up {X:Cx}{LP:bu}{F F':PM}{r r':PS}(l:F.le F') (q:r.le r'): ∀ (w:V) (v:Value),RV X LP F r v w->RV X LP F' r' v w
 | .w _,_,h=>RW.mono l h
 | .own _,_,h=>h
 | .hds _,_,h=>h
 | .slot _,_,h=>gO.imp q h
 | .clo _ cs,_,h=>rr.imp l (λ x=>jD.up l q cs x) h
termination_by structural w=>w
theorem jD.up {X:Cx}{LP:bu}{F F':PM}{r r':PS}(l:F.le F') (q:r.le r'): ∀ (w:List V) (v:List (Str×Addr)),jD X LP F r v w->jD X LP F' r' v w
 | [],_,h=>h
 | v::cs,_,h=>cN.imp (λ _=>lB.imp l λ u=>RV.up l q v u) (λ x=>jD.up l q cs x) h
termination_by structural w=>w
end
section
variable {X:Cx}{LP:bu}{F F':PM}{r r':PS}
theorem RV.mono (l:F.le F') (q:r.le r') {v:Value}{w:V}(h:RV X LP F r v w):RV X LP F' r' v w:=RV.up l q w v h
theorem jD.mono (l:F.le F') (q:r.le r') {v:List (Str×Addr)}{w:List V}(h:jD X LP F r v w):jD X LP F' r' v w:=jD.up l q w v h
end
noncomputable def aD (vs:List Value):Obj->Prop:=λ o=> ∃ n,o={ cls:= .type "list",data:= .seq vs.toArray n }
inductive gF (m:Str->Option Value) (o:Obj):Prop
 | mk (es:Array DictEntry) (ep:Nat):o.data= .dict es ep->StrKeys es->(∀ name,nsFind es name=m name)->gF m o
noncomputable def BO:Obj->Prop:=λ o=>o.data= .cell none
noncomputable def qX (o:Obj):Obj->Prop:=λ o'=>o'=o
noncomputable def dW (T:gC) (d q:List W) (nm:W):List (Nat×V):=[(T.aTok,.w (.lst (d.reverse++q))),(T.aAt,.w (.int d.length)),(T.aNam,.w nm)]
inductive eC {α:Type}(P:α->List aK->Prop) (Q:List α->List aK->Prop):List α->List aK->Prop
 | mk {l:α} {ls:List α} {T U:List aK}:P l T->Q ls U->eC P Q (l::ls) (T++U)
theorem eC.imp {α:Type}{P P':α->List aK->Prop}{Q Q':List α->List aK->Prop}{l:List α}{U:List aK}(h: ∀ v T,P v T->P' v T) (k: ∀ vs U,Q vs U->Q' vs U):eC P Q l U->eC P' Q' l U
 | .mk a b=> .mk (h _ _ a) (k _ _ b)
inductive I6 (P:Prop):List aK->Prop
 | mk:P->I6 P []
section
variable (X:Cx) (LP:bu) (F:PM) (r:PS)
inductive zb (p:W×List W):Value->List aK->Prop
 | mk {t l:Addr} {o:Obj} {nv:Value} {k:Nat} {xs:List Value}:F t=some o->o.cls= .type "tuple" -> o.data= .seq [nv,.ref l].toArray k->RW X F nv p.1->xs.length<=cw->cF X F xs p.2->zb p (.ref t) [(l,aD xs)]
noncomputable def RH:List Value->List (W×List W)->List aK->Prop
 | vs,[],U=>vs=[]/\U=[]
 | vs,p::q,U=>eC (zb X F p) (λ vs U=>RH vs q U) vs U
inductive Gd (ws:List W):List aK->Value->Prop
 | mk {a:Addr} {vs:List Value}:vs.length<=cw->cF X F vs ws->Gd ws [(a,aD vs)] (.ref a)
inductive Ge (l:List (W×List W)):List aK->Value->Prop
 | mk {a:Addr} {vs:List Value} {U:List aK}:vs.length<=cw->RH X F vs l U->Ge l ((a,aD vs)::U) (.ref a)
noncomputable def RT (T:List aK) (v:Value):V->Prop
 | .own ws=>Gd X F ws T v
 | .hds l=>Ge X F l T v
 | V=>I6 (RV X LP F r v V) T
inductive vR (env:Env) (x:Str):List aK->Prop
 | l:env.kindOf x=some .local->vR env x []
 | c {c:Addr}:env.kindOf x=some .cell->env.cells.lookup x=some c->vR env x [(c,BO)]
inductive zc (env:Env) (m:Str->Option Value) (x:Str) (V:V):List aK->Prop
 | l {v:Value} {T:List aK}:env.kindOf x=some .local->m x=some v->RT X LP F r T v V->zc env m x V T
 | c {c:Addr} {o:Obj} {v:Value}:env.kindOf x=some .cell\/env.kindOf x=some .free->env.cells.lookup x=some c->F c=some o->o.data= .cell (some v)->RV X LP F r v V->zc env m x V []
noncomputable def iQ (env:Env) (m:Str->Option Value) (x:Str):Option V->List aK->Prop
 | none,U=>vR env x U
 | some V,U=>zc X LP F r env m x V U
noncomputable def cQ (env:Env) (m:Str->Option Value):List Str->List (Option V)->List aK->Prop
 | [],ls,U=>ls=[]/\U=[]
 | x::xs,ls,U=>eC (iQ X LP F r env m x) (cQ env m xs) ls U
noncomputable def iy:List DictEntry->List (Nat×V)->Prop
 | es,[]=>es=[]
 | es,(a,V)::q=>cN (λ e=>eP X e (X.aname a)/\RV X LP F r e.val V) (λ es=>iy es q) es
inductive Gf:Option Addr->List aK->Prop
 | mk:Gf none []
inductive BP:Option Addr->List aK->Prop
 | mk {x:Addr}:BP (some x) []
inductive BQ (ws:List W):Option Addr->List aK->Prop
 | mk {x:Addr} {vs:List Value}:vs.length<=cw->cF X F vs ws->BQ ws (some x) [(x,aD vs)]
inductive t5 (c:Nat) (fs:List (Nat×V)):Option Addr->List aK->Prop
 | mk {x d:Addr} {es:List DictEntry} {n:Nat}:(X.T.init c).isSome=true->F x=some (instObj (X.clsA c) d)->iy X LP F r es fs->es.length<=50->t5 c fs (some x) [(d,qX (dictOf es n))]
inductive rt (dn q:List W) (nm:W):Option Addr->List aK->Prop
 | mk {x d:Addr} {es:List DictEntry} {n:Nat}:F x=some (instObj (X.clsA X.T.rdrC) d)->iy X LP F r es (dW X.T dn q nm)->rt dn q nm (some x) [(d,qX (dictOf es n))]
noncomputable def bE (o:Option Addr):dy->List aK->Prop
 | .absent,U=>Gf o U
 | .dead,U=>BP o U
 | .list ws,U=>BQ X F ws o U
 | .obj c fs,U=>t5 X LP F r c fs o U
 | .rdr d q nm,U=>rt X LP F r d q nm o U
noncomputable def pM (T:Sl->List aK):List aK:=T .bag++(T .rdr++(T .cnd++(T .tks++T .tmp)))
inductive lC (s:ab) (U:List aK):Prop
 | mk (T:Sl->List aK):(∀ k,bE X LP F r (r k) (s.get k) (T k))->U=pM T->lC s U
end
section
variable {X:Cx}{LP:bu}{F F':PM}{r r':PS}
theorem RT.v {v:Value}{V:V}(h:RV X LP F r v V):RT X LP F r [] v V:=by
 cases V<;>first | exact .mk h | exact h.elim
theorem RT.own {a:Addr}{vs:List Value}{ws:List W}(h:vs.length<=cw) (k:cF X F vs ws):RT X LP F r [(a,aD vs)] (.ref a) (.own ws):= .mk h k
theorem RT.hds {a:Addr}{vs:List Value}{l:List (W×List W)}{U:List aK}(h:vs.length<=cw) (k:RH X F vs l U):RT X LP F r ((a,aD vs)::U) (.ref a) (.hds l):= .mk h k
theorem iy.nil:iy X LP F r [] []:=rfl
theorem iy.cons {e:DictEntry}{es:List DictEntry}{a:Nat}{V:V}{q:List (Nat×Mine.V)}(h1:eP X e (X.aname a)) (h2:RV X LP F r e.val V) (k:iy X LP F r es q):iy X LP F r (e::es) ((a,V)::q):= .mk ⟨h1,h2⟩ k
theorem bE.absent:bE X LP F r none .absent []:= .mk
theorem bE.dead {x:Addr}:bE X LP F r (some x) .dead []:= .mk
theorem bE.list {x:Addr}{vs:List Value}{ws:List W}(h:vs.length<=cw) (k:cF X F vs ws):bE X LP F r (some x) (.list ws) [(x,aD vs)]:= .mk h k
theorem bE.obj {x d:Addr}{c:Nat}{es:List DictEntry}{n:Nat}{fs:List (Nat×V)}(h1:(X.T.init c).isSome=true) (h2:F x=some (instObj (X.clsA c) d)) (h3:iy X LP F r es fs) (h4:es.length<=50):bE X LP F r (some x) (.obj c fs) [(d,qX (dictOf es n))]:= .mk h1 h2 h3 h4
theorem bE.rdr {x d:Addr}{es:List DictEntry}{n:Nat}{dn q:List W}{nm:W}(h1:F x=some (instObj (X.clsA X.T.rdrC) d)) (h2:iy X LP F r es (dW X.T dn q nm)):bE X LP F r (some x) (.rdr dn q nm) [(d,qX (dictOf es n))]:= .mk h1 h2
theorem cQ.nil {env:Env}{m:Str->Option Value}:cQ X LP F r env m [] [] []:=⟨rfl,rfl⟩
theorem cQ.unbL {env:Env}{m:Str->Option Value}{x:Str}{xs:List Str}{ls:List (Option V)}{U:List aK}(h:env.kindOf x=some .local) (k:cQ X LP F r env m xs ls U):cQ X LP F r env m (x::xs) (none::ls) U:=eC.mk (T:=[]) (vR.l h) k
theorem cQ.valC {env:Env}{m:Str->Option Value}{x:Str}{c:Addr}{o:Obj}{v:Value}{V:V}{xs:List Str}{ls:List (Option Mine.V)}{U:List aK}(h1:env.kindOf x=some .cell\/env.kindOf x=some .free) (h2:env.cells.lookup x=some c) (h3:F c=some o) (h4:o.data= .cell (some v)) (h5:RV X LP F r v V)
   (k:cQ X LP F r env m xs ls U):cQ X LP F r env m (x::xs) (some V::ls) U:=eC.mk (T:=[]) (zc.c h1 h2 h3 h4 h5) k
theorem zb.mono (l:F.le F') {p:W×List W}{v:Value}{U:List aK}:zb X F p v U->zb X F' p v U
 | .mk a b c d e f=> .mk (l _ _ a) b c (d.mono l) e (f.mono l)
theorem RH.mono (l:F.le F'): ∀ {q:List (W×List W)}{vs:List Value}{U:List aK},RH X F vs q U->RH X F' vs q U
 | [],_,_,h=>h
 | _::_,_,_,h=>eC.imp (λ _ _=>zb.mono l) (λ _ _=>RH.mono l) h
theorem RT.mono (l:F.le F') (q:r.le r') {T:List aK}{v:Value}{V:V}(h:RT X LP F r T v V):RT X LP F' r' T v V:=by
 cases V with
 | own ws=>cases h with | mk a b=>exact .mk a (b.mono l)
 | hds ws=>cases h with | mk a b=>exact .mk a (b.mono l)
 | w w=>cases h with | mk a=>exact .mk (a.mono l q)
 | slot k=>cases h with | mk a=>exact .mk (a.mono l q)
 | clo k cs=>cases h with | mk a=>exact .mk (a.mono l q)
theorem iQ.mono (l:F.le F') (q:r.le r') {env:Env}{m:Str->Option Value}{x:Str}: ∀ {o:Option V}{T:List aK},iQ X LP F r env m x o T->iQ X LP F' r' env m x o T
 | none,_,h=>h
 | some _,_,.l a b c=> .l a b (c.mono l q)
 | some _,_,.c a b c d e=> .c a b (l _ _ c) d (e.mono l q)
theorem cQ.mono (l:F.le F') (q:r.le r') {env:Env}{m:Str->Option Value}: ∀ {xs:List Str}{ls:List (Option V)}{U:List aK},cQ X LP F r env m xs ls U->cQ X LP F' r' env m xs ls U
 | [],_,_,h=>h
 | _::_,_,_,h=>eC.imp (λ _ _=>iQ.mono l q) (λ _ _=>cQ.mono l q) h
theorem iy.mono (l:F.le F') (q:r.le r'): ∀ {fs:List (Nat×V)}{es:List DictEntry},iy X LP F r es fs->iy X LP F' r' es fs
 | [],_,h=>h
 | _::_,_,h=>cN.imp (λ _ k=>⟨k.1,k.2.mono l q⟩) (λ _=>iy.mono l q) h
theorem bE.mono (l:F.le F') (q:r.le r'): ∀ {s:dy}{o:Option Addr}{U:List aK},bE X LP F r o s U->bE X LP F' r' o s U
 | .absent,_,_,h=>h
 | .dead,_,_,h=>h
 | .list _,_,_,.mk a b=> .mk a (b.mono l)
 | .obj _ _,_,_,.mk z a b c=> .mk z (l _ _ a) (b.mono l q) c
 | .rdr _ _ _,_,_,.mk a b=> .mk (l _ _ a) (b.mono l q)
theorem lC.monoF (l:F.le F') {s:ab}{U:List aK}:lC X LP F r s U->lC X LP F' r s U
 | .mk T a b=> .mk T (λ k=>(a k).mono l (.refl _)) b
noncomputable def nZ:Obj->Prop:=λ o=>o={ cls:= .none,data:= .fields #[] }
noncomputable def jJ (L:Lp) (c:Addr):Obj->Prop:=λ o=>o={ cls:= .none,data:= .fields #[rawInt L.pos.line,rawInt L.pos.col,.ref c] }
inductive fX (F:PM) (L:Lp) (c:Addr):Prop
 | mk {oc:Obj} {vs:Array Value} {t:Tok}:F c=some oc->oc.data= .fields vs->vs[1]?=some (.str L.qual t)->fX F L c
theorem fX.mono (l:F.le F') {L:Lp}{c:Addr}:fX F L c->fX F' L c
 | .mk a b c=> .mk (l _ _ a) b c
inductive yP (F:PM) (L:Lp):aK->Prop
 | empty:yP F L (L.place,nZ)
 | full {c:Addr}:fX F L c->yP F L (L.place,jJ L c)
theorem yP.mono (l:F.le F') {L:Lp}{p:aK}:yP F L p->yP F' L p
 | .empty=> .empty
 | .full a=> .full (a.mono l)
noncomputable def lD (F:PM):List Lp->List aK->Prop
 | [],U=>U=[]
 | L::l,U=>cN (yP F L) (lD F l) U
theorem lD.mono (l:F.le F'): ∀ {L:List Lp}{U:List aK},lD F L U->lD F' L U
 | [],_,h=>h
 | _::_,_,h=>cN.imp (λ _=>yP.mono l) (λ _=>lD.mono l) h
inductive lE (X:Cx) (LP:bu) (F:PM) (r:PS) (s:ab) (U:List aK):Prop
 | mk (U1 U2:List aK):lC X LP F r s U1->lD F X.lps U2->U=U1++U2->lE X LP F r s U
theorem lE.monoF (l:F.le F') {s:ab}{U:List aK}:lE X LP F r s U->lE X LP F' r s U
 | .mk U1 U2 a b c=> .mk U1 U2 (a.monoF l) (b.mono l) c
inductive HC (X:Cx) (LP:bu) (F:PM) (r:PS) (s:ab) (R:List aK) (h:Heap):Prop
 | mk (U:List aK):lE X LP F r s U->cU F (U++R) h->PM.le X.base F->HC X LP F r s R h
inductive HS (X:Cx) (LP:bu) (F:PM) (r:PS) (env:Env) (m:Str->Option Value) (nm:List Str) (lc:List (Option V)) (sl:ab) (R:List aK) (h:Heap):Prop
 | mk (U:List aK):cQ X LP F r env m nm lc U->HC X LP F r sl ((env.locals,gF m)::(U++R)) h->HS X LP F r env m nm lc sl R h
end
section
variable {X:Cx}{LP:bu}{F F':PM}{r r':PS}{s:ab}{R R' U:List aK}{h h':Heap}{a:Addr}{P P':Obj->Prop}{o:Obj}{p:aK}
theorem HC.fro (x:HC X LP F r s R h): ∀ b o,F b=some o->h.get? b=some o:=by cases x with | mk U a b c=>exact b.fro
theorem HC.low (x:HC X LP F r s R h):PM.le X.base F:=by cases x with | mk U a b c=>exact c
theorem HC.base (x:HC X LP F r s R h): ∀ b o,X.base b=some o->h.get? b=some o:=λ b o e=>x.fro b o (x.low b o e)
theorem HC.sub (x:HC X LP F r s R h) (m: ∀ p ∈ R',p ∈ R) (c: ∀ a,fW a R'<=fW a R):HC X LP F r s R' h:=by
 cases x with | mk U a b d=> ?_
 refine ⟨U,a,b.sub (λ p hp=> ?_) (λ q=> ?_),d⟩
 · exact (List.mem_append.mp hp).elim (λ h=>Rz _ h) λ h=>List.mem_append_right _ (m p h)
 · rw [cP,cP];exact Nat.add_le_add_left (c q) _
theorem HC.tr (ρ:List (List aK)) (t t':Tr) (e:pJ t'.lv t.lv=true) (x:HC X LP F r s (t.ev ρ) h):HC X LP F r s (t'.ev ρ) h:=x.sub (rl e) (rn e)
theorem HC.keeps (x:HC X LP F r s R h) (k: ∀ b o,h.get? b=some o->h'.get? b=some o):HC X LP F r s R h':=by
 cases x with | mk U a b d=>exact ⟨U,a,b.keeps k,d⟩
theorem cU.front (x:cU F (U++(p::R)) h):cU F (p::(U++R)) h:=x.tr [U,[p],R] (.n (.l 0) (.n (.l 1) (.l 2))) (.n (.l 1) (.n (.l 0) (.l 2))) rfl
theorem cU.back (x:cU F (p::(U++R)) h):cU F (U++(p::R)) h:=x.tr [U,[p],R] (.n (.l 1) (.n (.l 0) (.l 2))) (.n (.l 0) (.n (.l 1) (.l 2))) rfl
theorem HC.mem (x:HC X LP F r s R h) (hm:(a,P) ∈ R): ∃ o,h.get? a=some o/\P o:=by cases x with | mk U a b d=>exact b.mem (List.mem_append_right _ hm)
theorem HC.head (x:HC X LP F r s ((a,P)::R) h): ∃ o,h.get? a=some o/\P o:=x.mem List.mem_cons_self
theorem HC.upd (x:HC X LP F r s ((a,P)::R) h) (k: ∀ b o,b≠a->h.get? b=some o->h'.get? b=some o) (e:h'.get? a=some o) (q:P' o):HC X LP F r s ((a,P')::R) h':=by
 cases x with | mk U y z d=>exact ⟨U,y,(z.front.upd k e q).back,d⟩
theorem HC.newO (x:HC X LP F r s R h) (k: ∀ b o,h.get? b=some o->h'.get? b=some o) (f:h.get? a=none) (e:h'.get? a=some o) (q:P o):HC X LP F r s ((a,P)::R) h':=by
 cases x with | mk U y z d=>exact ⟨U,y,(z.newO k f e q).back,d⟩
theorem HC.newF (x:HC X LP F r s R h) (k: ∀ b o,h.get? b=some o->h'.get? b=some o) (f:h.get? a=none) (e:h'.get? a=some o):F.le (F.set a o)/\HC X LP (F.set a o) r s R h':=by
 cases x with | mk U y z d=>exact ⟨(z.newF k f e).1,U,y.monoF (z.newF k f e).1,(z.newF k f e).2,d.trans (z.newF k f e).1⟩
theorem HC.freeze (x:HC X LP F r s ((a,P)::R) h) {Q:Prop}(k: ∀ o,P o->F.le (F.set a o)->HC X LP (F.set a o) r s R h->Q):Q:=by
 cases x with | mk U y z d=> ?_
 obtain ⟨o,q,l,w⟩:=z.front.freeze
 exact k o q l ⟨U,y.monoF l,w,d.trans l⟩
theorem HC.rot (A B:List aK) (x:HC X LP F r s (A++(B++R)) h):HC X LP F r s (B++(A++R)) h:=x.tr [A,B,R] (.n (.l 0) (.n (.l 1) (.l 2))) (.n (.l 1) (.n (.l 0) (.l 2))) rfl
theorem HC.drop (T:List aK) (x:HC X LP F r s (T++R) h):HC X LP F r s R h:=x.tr [T,R] (.n (.l 0) (.l 1)) (.l 1) rfl
theorem HC.swap {q:aK}(x:HC X LP F r s (p::q::R) h):HC X LP F r s (q::p::R) h:=x.rot [p] [q]
theorem RH.freeze: ∀ {q:List (W×List W)}{vs:List Value}{T:List aK},RH X F vs q T-> ∀ {R:List aK}{G:PM},F.le G->HC X LP G r s (T++R) h ->
   ∀ {Q:Prop},(∀ G',G.le G'->HC X LP G' r s R h->cF X G' vs (q.map λ p=> .tup [p.1,.lst p.2])->Q)->Q
 | [],_,_,t,R,G,l,x,_,K=>by
   cases t.1;cases t.2;exact K G (.refl _) x rfl
 | p::q,_,_,t,R,G,l,x,_,K=>by
   cases t with | mk t1 t2=> ?_
   cases t1 with | mk a b c d e f=> ?_
   refine HC.freeze x λ o qo l1 y=>RH.freeze t2 (l.trans l1) y λ G' l2 z k=> ?_
   obtain ⟨n,rfl⟩:=qo
   have l3:=l.trans (l1.trans l2)
   exact K G' (l1.trans l2) z (.mk (.mk (l3 _ _ a) b c (by show 2<=cw;decide) (.mk (d.mono l3) (.mk (.mk (l2 _ _ (PM.set_self _ _ _)) rfl rfl e (f.mono l3)) rfl))) k)
theorem RT.freeze {T:List aK}{v:Value}{V:V}(t:RT X LP F r T v V) (x:HC X LP F r s (T++R) h) {Q:Prop}(K: ∀ F',F.le F'->HC X LP F' r s R h->RV X LP F' r v (frz V)->Q):Q:=by
 cases V with
 | own ws =>
   cases t with | mk a b=> ?_
   refine HC.freeze x λ o qo l y=> ?_
   obtain ⟨n,rfl⟩:=qo
   exact K _ l y (RW.lst (PM.set_self _ _ _) rfl rfl a (b.mono l))
 | hds q =>
   cases t with | mk a b=> ?_
   refine HC.freeze x λ o qo l y=>b.freeze l y λ G' l2 z k=> ?_
   obtain ⟨n,rfl⟩:=qo
   exact K G' (l.trans l2) z (RW.lst (l2 _ _ (PM.set_self _ _ _)) rfl rfl a k)
 | w w=>cases t with | mk a=>exact K F (.refl _) x a
 | slot k=>cases t with | mk a=>exact K F (.refl _) x a
 | clo k cs=>cases t with | mk a=>exact K F (.refl _) x a
theorem iQ.other {env:Env}{m m':Str->Option Value}{x:Str}(e:m' x=m x): ∀ {l:Option V}{T:List aK},iQ X LP F r env m x l T->iQ X LP F r env m' x l T
 | none,_,h=>h
 | some _,_,.l a b c=> .l a (e.trans b) c
 | some _,_,.c a b c d f=> .c a b c d f
theorem cQ.other {env:Env}{m m':Str->Option Value}: ∀ {xs:List Str}{ls:List (Option V)}{U:List aK},cQ X LP F r env m xs ls U->(∀ x ∈ xs,m' x=m x)->cQ X LP F r env m' xs ls U
 | [],_,_,h,_=>h
 | _::_,_,_,h,e=>eC.imp (λ _ _=>iQ.other (e _ List.mem_cons_self)) (λ _ _ k=>cQ.other k λ x hx=>e x (Rk _ hx)) h
theorem cQ.on {env:Env}{m:Str->Option Value}{x:Str}: ∀ {xs:List Str}{ls:List (Option V)}{U:List aK}{i:Nat},cQ X LP F r env m xs ls U->xs[i]?=some x->xs.Nodup ->
   ∀ {Q:Prop},(∀ (l:Option V) (T A B:List aK),ax ls i=some l->U=A++(T++B)->iQ X LP F r env m x l T ->
     (∀ {G:PM} {r':PS} {m':Str->Option Value} {l':Option V} {T':List aK},F.le G->r.le r'->(∀ y ∈ xs,y≠x->m' y=m y)->iQ X LP G r' env m' x l' T'->cQ X LP G r' env m' xs (aM ls i l') (A++(T'++B)))->Q)->Q
 | [],_,_,_,_,e,_,_,_=>nomatch e
 | y::ys,_,_,i,h,e,nd,Q,K=>by
   have nd:=List.nodup_cons.mp nd
   cases h with | @mk l ls T U a b=> ?_
   cases i with
   | zero =>
     cases e
     exact K l T [] U rfl rfl a λ {G r' m' l' T'} le q o n=>(show eC _ _ _ (T'++U) from .mk n ((b.mono le q).other λ z hz=>o z (Rk _ hz) λ e=>nd.1 (e▸hz)))
   | succ i =>
     refine cQ.on (i:=i) b e nd.2 λ l' T' A B h1 h2 h3 h4=> ?_
     have ne:y≠x:=λ q=>nd.1 (q▸List.mem_of_getElem? (i:=i) e)
     refine K l' T' (T++A) B h1 (by rw [h2,List.append_assoc]) h3 λ {G r' m' l2 T2} le q o n=> ?_
     rw [List.append_assoc]
     exact .mk ((a.mono le q).other (o y List.mem_cons_self ne)) (h4 le q (λ z hz=>o z (Rk _ hz)) n)
theorem HS.on {env:Env}{m:Str->Option Value}{nm:List Str}{lc:List (Option V)}{i:Nat}{x:Str}(H:HS X LP F r env m nm lc s R h) (e:nm[i]?=some x) (nd:nm.Nodup) {Q:Prop}
   (K: ∀ (l:Option V) (T Z:List aK),ax lc i=some l->iQ X LP F r env m x l T->HC X LP F r s (T++((env.locals,gF m)::(Z++R))) h ->
     (∀ {G:PM} {r':PS} {m':Str->Option Value} {l':Option V} {T' R':List aK} {h':Heap} {s':ab},F.le G->r.le r'->(∀ y ∈ nm,y≠x->m' y=m y)->iQ X LP G r' env m' x l' T'->HC X LP G r' s' (T'++((env.locals,gF m')::(Z++R'))) h'->HS X LP G r' env m' nm (aM lc i l') s' R' h')->Q):Q:=by
 cases H with | mk U v b=> ?_
 refine v.on e nd λ l T A B h1 h2 h3 h4=> ?_
 subst h2
 exact K l T (A++B) h1 h3 (b.tr [[(env.locals,gF m)],A,T,B,R] (.n (.l 0) (.n (.n (.l 1) (.n (.l 2) (.l 3))) (.l 4))) (.n (.l 2) (.n (.l 0) (.n (.n (.l 1) (.l 3)) (.l 4)))) rfl) λ {G r' m' l' T' R' h' s'} le q o n k =>
   .mk _ (h4 le q o n) (k.tr [[(env.locals,gF m')],A,T',B,R'] (.n (.l 2) (.n (.l 0) (.n (.n (.l 1) (.l 3)) (.l 4)))) (.n (.l 0) (.n (.n (.l 1) (.n (.l 2) (.l 3))) (.l 4))) rfl)
noncomputable def zd {α:Type}(T:Sl->α) (k:Sl) (x:α):Sl->α:=λ j=>if j=k then x else T j
theorem nh {α:Type}(T:Sl->α) (k:Sl) (x:α):zd T k x k=x:=if_pos rfl
theorem vS {α:Type}(T:Sl->α) {k j:Sl}(x:α) (n:j≠k):zd T k x j=T j:=if_neg n
theorem fh (s:ab) (k:Sl) (x:dy):(s.set k x).get k=x:=by cases k<;>rfl
theorem sk (s:ab) {k j:Sl}(x:dy) (n:j≠k):(s.set k x).get j=s.get j:=by cases k<;>cases j<;>first | rfl | exact absurd rfl n
noncomputable def lG (T:Sl->List aK):Sl->List aK
 | .bag=>T .rdr++(T .cnd++(T .tks++T .tmp))
 | .rdr=>T .bag++(T .cnd++(T .tks++T .tmp))
 | .cnd=>T .bag++(T .rdr++(T .tks++T .tmp))
 | .tks=>T .bag++(T .rdr++(T .cnd++T .tmp))
 | .tmp=>T .bag++(T .rdr++(T .cnd++T .tks))
theorem t7 (T:Sl->List aK) (k:Sl) (x:List aK):lG (zd T k x) k=lG T k:=by cases k<;>rfl
noncomputable def q5 (a b c d e:Nat):Tr:= .n (.l a) (.n (.l b) (.n (.l c) (.n (.l d) (.l e))))
theorem cU.toFront {Z:List aK}(T:Sl->List aK) (k:Sl) (x:cU F ((pM T++U)++Z) h):cU F (T k++(lG T k++(U++Z))) h:=by
 let ρ:=[T .bag,T .rdr,T .cnd,T .tks,T .tmp,U,Z]
 let q:Nat->Nat->Nat->Nat->Nat->Tr:=λ a b c d e=> .n (.l a) (.n (.n (.l b) (.n (.l c) (.n (.l d) (.l e)))) (.n (.l 5) (.l 6)))
 let t:Tr:= .n (.n (q5 0 1 2 3 4) (.l 5)) (.l 6)
 cases k with
 | bag=>exact cU.tr ρ t (q 0 1 2 3 4) rfl x
 | rdr=>exact cU.tr ρ t (q 1 0 2 3 4) rfl x
 | cnd=>exact cU.tr ρ t (q 2 0 1 3 4) rfl x
 | tks=>exact cU.tr ρ t (q 3 0 1 2 4) rfl x
 | tmp=>exact cU.tr ρ t (q 4 0 1 2 3) rfl x
theorem cU.fromFront {Z:List aK}(T:Sl->List aK) (k:Sl) (x:cU F (T k++(lG T k++(U++Z))) h):cU F ((pM T++U)++Z) h:=by
 let ρ:=[T .bag,T .rdr,T .cnd,T .tks,T .tmp,U,Z]
 let q:Nat->Nat->Nat->Nat->Nat->Tr:=λ a b c d e=> .n (.l a) (.n (.n (.l b) (.n (.l c) (.n (.l d) (.l e)))) (.n (.l 5) (.l 6)))
 let t:Tr:= .n (.n (q5 0 1 2 3 4) (.l 5)) (.l 6)
 cases k with
 | bag=>exact cU.tr ρ (q 0 1 2 3 4) t rfl x
 | rdr=>exact cU.tr ρ (q 1 0 2 3 4) t rfl x
 | cnd=>exact cU.tr ρ (q 2 0 1 3 4) t rfl x
 | tks=>exact cU.tr ρ (q 3 0 1 2 4) t rfl x
 | tmp=>exact cU.tr ρ (q 4 0 1 2 3) t rfl x
theorem HC.slot (H:HC X LP F r s R h) (k:Sl) {Q:Prop}(K: ∀ (T Z:List aK),bE X LP F r (r k) (s.get k) T->cU F (T++(Z++R)) h ->
   (∀ {G:PM} {r':PS} {x:dy} {T' R':List aK} {h':Heap},F.le G->r.le r'->(∀ j,j≠k->r' j=r j)->bE X LP G r' (r' k) x T'->cU G (T'++(Z++R')) h'->HC X LP G r' (s.set k x) R' h')->Q):Q:=by
 cases H with | mk U a b c=> ?_
 cases a with | mk U1 U2 a1 a2 e=> ?_
 cases a1 with | mk T t e1=> ?_
 subst e e1
 refine K (T k) (lG T k++U2) (t k) ?_ λ {G r' x T' R' h'} l q o n z=>⟨_,⟨_,U2,⟨zd T k T',λ j=> ?_,rfl⟩,a2.mono l,rfl⟩,cU.fromFront _ k ?_,c.trans l⟩
 · exact (cU.toFront T k b).tr [T k,lG T k,U2,R] (.n (.l 0) (.n (.l 1) (.n (.l 2) (.l 3)))) (.n (.l 0) (.n (.n (.l 1) (.l 2)) (.l 3))) rfl
 · by_cases e:j=k
   · subst e;rw [fh,nh];exact n
   · rw [sk _ _ e,vS _ _ e,o j e];exact (t j).mono l q
 · rw [nh,t7]
   exact z.tr [T',lG T k,U2,R'] (.n (.l 0) (.n (.n (.l 1) (.l 2)) (.l 3))) (.n (.l 0) (.n (.l 1) (.n (.l 2) (.l 3)))) rfl
end
noncomputable abbrev Sc:=List (Str×NameKind)
noncomputable def fY (x:Str):Bool:= !(x==("__debug__" : Str))&& !(x==("__classdict__" : Str))&& !(x==("super" : Str))
noncomputable def Gg (k:Option NameKind):Bool:=k==some .local||k==some .cell||k==some .free
noncomputable def aE:Expr->Bool
 | .Starred .. => false
 | _=>true
noncomputable def kN:Expr->Bool
 | .Attribute .. => false
 | _=>true
noncomputable def dO:Expr->Bool
 | .Slice .. => false
 | _=>true
noncomputable def gP:Expr->Bool
 | .Set .. => false
 | _=>true
noncomputable def bK:Expr->Bool
 | .ListComp .. => false
 | .SetComp .. => false
 | .DictComp .. => false
 | _=>true
noncomputable def ru (y:Expr):Bool:=match y with
 | .Tuple vs _ _=>vs.all (foldedForSure 8)
 | .List .. => false
 | _=>true
noncomputable def cq:Expr->Bool
 | .Call (.Name ..) [] .. => false
 | _=>true
noncomputable def iR (sc names:Sc):Sc:=names.map λ (n,k)=>if (k== .free&&sc.lookup n==some .cell) then (n,.cell) else (n,k)
noncomputable def cX (names:Sc):List Str:=(names.filter λ p=>p.2== .free).map (·.1)
noncomputable def bF (nm:List Str):List Nat->Option (List Str)
 | []=>some []
 | i::r=>match nm[i]?,bF nm r with
   | some x,some l=>some (x::l)
   | _,_=>none
noncomputable def n0 (sc:Sc) (s:Scope) (tg fr:List Str):Bool :=
 s.kind== .function&&s.names.all (λ p=>p.2 != .cell)&&s.names.all (λ p=>p.2 != .local||s.names.lookup p.1==some .local) &&
 tg.all (λ x=>s.names.lookup x==some .local&&fY x)&&cX s.names==fr&&fr.all (λ x=>(sc.lookup x==some .cell||sc.lookup x==some .free)&&s.names.lookup x==some .free&&fY x)&&decide (tg++fr).Nodup
noncomputable def dK (a:Arguments):Bool:=a.posonlyargs.isEmpty&&a.vararg.isNone&&a.kwonlyargs.isEmpty&&a.kw_defaults.isEmpty&&a.kwarg.isNone
noncomputable def sn (sc:Sc) (a:Arguments) (s:Scope) (fr:List Str):Bool :=
 dK a&&a.defaults.isEmpty&&s.kind== .function&& !s.isGenerator&& !s.isCoroutine&&s.names.all (λ p=>p.2 != .cell) &&
 (a.args.map (·.arg)).all (λ x=>s.names.lookup x==some .local&&fY x)&&cX s.names==fr&&fr.all (λ x=>(sc.lookup x==some .cell||sc.lookup x==some .free)&&s.names.lookup x==some .free&&fY x) &&
 decide (a.args.map (·.arg)++fr).Nodup
noncomputable def fZ (isAnd:Bool):BoolOp:=if isAnd then .And else .Or
noncomputable def lH:BM->Str
 | .join => "join" | .split => "split" | .replace => "replace" | .index => "index" | .get => "get"
theorem gQ (s:Shared) (g:Nat) (x:GenState):(s.setGen g x).toks=s.toks:=rfl
theorem jK {M:Model}{Γ:Ctx}{p:Pos}{t:Sem Fin}{fs:List Frame}{s:Shared}{e:End}{s':Shared}(h:Runs M Γ p t fs s e s'):s.toks<=s'.toks:=by
 induction h<;>first | exact Nat.le_refl _ | assumption | lia | (simp only [gQ] at *; lia) | (dsimp only [Shared.setGen] at *; lia)
theorem rv {M:Model}{Γ:Ctx}{p:Pos}{g:Nat}{r:Resume}{s:Shared}{ft:GenResult}{s':Shared}(h:Wakes M Γ p g r s ft s'):s.toks<=s'.toks:=by
 unfold Wakes at h
 split at h
 · exact h.elim
 · split at h
   · obtain ⟨e,s1,h1,_,_,rfl⟩:=h;have:=jK h1;simpa only [gQ] using this
   · rw [h.2];exact Nat.le_refl _
   · rw [h.2];exact Nat.le_refl _
 · obtain ⟨e,s1,h1,_,_,rfl⟩:=h;have:=jK h1;simpa only [gQ] using this
 · rw [h.2];exact Nat.le_refl _
 · rw [h.2];exact Nat.le_refl _
theorem ze {α:Type}(M:Model) (Γ:Ctx) (t:Sem α) (k:Nat): ∀ (Q:α->Pos->Shared->Prop) (E:Value->Pos->Shared->Prop) (p:Pos) (s:Shared),k<=s.toks->Sem.wp M Γ t Q E p s->Sem.wp M Γ t (λ a p' s'=>Q a p' s'/\k<=s'.toks) E p s:=by
 induction t with
 | pure a=>intro Q E p s hk h;exact ⟨h,hk⟩
 | raise e=>intro Q E p s hk h;exact h
 | load a part f ih=>intro Q E p s hk h;obtain ⟨o,a,b⟩:=h;exact ⟨o,a,ih _ _ _ _ _ hk b⟩
 | update a part f g ih=>intro Q E p s hk h;exact ⟨h.1,ih _ _ _ _ _ hk h.2⟩
 | fresh f ih=>intro Q E p s hk h;exact ih _ _ _ _ _ (Nat.le_succ_of_le hk) h
 | choose src n f ih=>intro Q E p s hk h;exact ⟨h.1,ih _ _ _ _ _ hk h.2⟩
 | genState g f ih=>intro Q E p s hk h;obtain ⟨o,a,b⟩:=h;exact ⟨o,a,ih _ _ _ _ _ hk b⟩
 | call c hd g l f ih=>intro Q E p s hk h;obtain ⟨r,s',a,b⟩:=h;exact ⟨r,s',a,ih _ _ _ _ _ (Rl hk (jK a)) b⟩
 | resume g r l f ih=>intro Q E p s hk h;obtain ⟨r,s',a,b⟩:=h;exact ⟨r,s',a,ih _ _ _ _ _ (Rl hk (rv a)) b⟩
 | rule _ f ih=>intro Q E p s hk h;exact ih _ _ _ _ _ hk h
 | «at» _ f ih=>intro Q E p s hk h;exact ih _ _ _ _ _ hk h
 | alloc _ f ih=>intro Q E p s hk h;exact ih _ _ _ _ _ hk h
 | loadIfAlive _ f ih=>intro Q E p s hk h;exact ih _ _ _ _ _ hk h
 | point _ f ih=>intro Q E p s hk h;exact ih _ _ _ _ _ hk h
 | ask f ih=>intro Q E p s hk h;exact ih _ _ _ _ _ hk h
 | os _ _ f ih=>intro Q E p s hk h;exact ih _ _ _ _ _ hk h
 | handled _ f ih=>intro Q E p s hk h;exact ih _ _ _ _ _ hk h
 | newGen _ f ih=>intro Q E p s hk h;exact ih _ _ _ _ _ hk h
 | stack f ih=>intro Q E p s hk h;exact ih _ _ _ _ _ hk h
 | thread f ih=>intro Q E p s hk h;exact ih _ _ _ _ _ hk h
 | _=>intro Q E p s hk h;exact h.elim
theorem a8 {α:Type}{M:Model}{A:Around}{t:Sem α}{Q:α->Shared->Prop}{E:Value->Shared->Prop}{s:Shared}(h:wpAny M A t Q E s):wpAny M A t (λ a s'=>Q a s'/\s.toks<=s'.toks) E s :=
 λ Γ p hΓ=>ze M Γ t s.toks _ _ p s (Nat.le_refl _) (h Γ p hΓ)
inductive Sm (s:Shared):Shared->Prop
 | mk' (h:Heap) (tk:Tok):Sm s { s with heap:=h,toks:=tk }
theorem Sm.refl (s:Shared):Sm s s:= .mk' s.heap s.toks
theorem Sm.trans {a b c:Shared}:Sm a b->Sm b c->Sm a c
 | .mk' _ _,.mk' h tk=> .mk' h tk
theorem Sm.mk {s:Shared}{h:Heap}{tk:Tok}:Sm s { s with heap:=h,toks:=tk }:= .mk' h tk
noncomputable def n6 (A:Around) (d:Nat) (s:Shared):Prop:=A.handled=none/\A.depth+2 * d < recursionLimit/\A.units+40 * d+90 < cLine/\0 < s.toks
noncomputable def dG (A:Around) (d:Nat) (s:Shared):Prop:=A.handled=none/\A.depth+2 * d+1 < recursionLimit/\A.units+40 * d+120 < cLine/\0 < s.toks
theorem BR {a d D k c:Nat}(h:a+2 * d+k < c) (l:D<=d):a+2 * D+k < c:=Rt (Nat.add_le_add_right (Nat.add_le_add_left (Nat.mul_le_mul_left 2 l) a) k) h
theorem BS {a d D k c:Nat}(h:a+40 * d+k < c) (l:D<=d):a+40 * D+k < c:=Rt (Nat.add_le_add_right (Nat.add_le_add_left (Nat.mul_le_mul_left 40 l) a) k) h
theorem dG.le {A:Around}{d D:Nat}{s:Shared}(h:dG A d s) (l:D<=d):dG A D s:=⟨h.1,BR h.2.1 l,BS h.2.2.1 l,h.2.2.2⟩
theorem n6.le {A:Around}{d D:Nat}{s:Shared}(h:n6 A d s) (l:D<=d):n6 A D s:=⟨h.1,BR (k:=0) h.2.1 l,BS h.2.2.1 l,h.2.2.2⟩
theorem dG.room {A:Around}{d:Nat}{s:Shared}(h:dG A d s):n6 A d s:=⟨h.1,Nat.lt_of_succ_lt h.2.1,Rt (Nat.add_le_add_left (by decide) _) h.2.2.1,h.2.2.2⟩
theorem dG.up {A:Around}{d:Nat}{s s':Shared}(h:dG A d s) (k:s.toks<=s'.toks):dG A d s':=⟨h.1,h.2.1,h.2.2.1,Nat.lt_of_lt_of_le h.2.2.2 k⟩
theorem n6.up {A:Around}{d:Nat}{s s':Shared}(h:n6 A d s) (k:s.toks<=s'.toks):n6 A d s':=⟨h.1,h.2.1,h.2.2.1,Nat.lt_of_lt_of_le h.2.2.2 k⟩
structure aQ (env:Env) (sc:Sc) (nm:List Str) (cd:Option (Addr×Str)):Prop where
 kind:env.scope.kind= .function
 names:env.scope.names=sc
 glob:env.globals=mainGlobals
 blt:env.builtins=builtinsNs
 nod:nm.Nodup
 code: ∀ c q,cd=some (c,q)->env.code= .ref c/\env.qual=q
theorem aQ.kindOf {env:Env}{sc:Sc}{nm:List Str}{cd:Option (Addr×Str)}(h:aQ env sc nm cd) (x:Str):env.kindOf x=sc.lookup x:=by unfold Env.kindOf;rw [h.names]
section
variable (X:Cx) (LP:bu)
noncomputable def i9 (F:PM) (r:PS):List Value->List V->Prop
 | vs,[]=>vs=[]
 | vs,V::Vs=>cN (λ v=>RV X LP F r v V) (λ vs=>i9 F r vs Vs) vs
inductive kH (F:PM) (r:PS) (R:List aK) (s:Shared) (env:Env) (mm:Str->Option Value) (nm:List Str) (V:V) (lc:List (Option Mine.V)) (sl:ab) (v:Value) (s':Shared):Prop
 | mk (F':PM) (r':PS) (T:List aK):F.le F'->r.le r'->HS X LP F' r' env mm nm lc sl (T++R) s'.heap->RT X LP F' r' T v V->Sm s s'->kH F r R s env mm nm V lc sl v s'
inductive Fm (F:PM) (r:PS) (R:List aK) (s:Shared) (env:Env) (mm:Str->Option Value) (nm:List Str) (V:V) (lc:List (Option Mine.V)) (sl:ab) (v:Value) (s':Shared):Prop
 | mk (F':PM) (r':PS):F.le F'->r.le r'->HS X LP F' r' env mm nm lc sl R s'.heap->RV X LP F' r' v V->Sm s s'->Fm F r R s env mm nm V lc sl v s'
inductive zf (F:PM) (r:PS) (R:List aK) (s:Shared) (env:Env) (mm:Str->Option Value) (nm:List Str) (b:Bool) (lc:List (Option V)) (sl:ab) (c:Bool) (s':Shared):Prop
 | mk (e:c=b) (F':PM) (r':PS):F.le F'->r.le r'->HS X LP F' r' env mm nm lc sl R s'.heap->Sm s s'->zf F r R s env mm nm b lc sl c s'
noncomputable def bp (d:Nat) (env:Env) (nm:List Str) (x:Expr) (lc:List (Option V)) (sl:ab) (V:V) (lc':List (Option Mine.V)) (sl':ab):Prop :=
 ∀ (mm:Str->Option Value) (A:Around) (F:PM) (r:PS) (R:List aK) (s:Shared),dG A d s->HS X LP F r env mm nm lc sl R s.heap ->
   wpAny (model X.prog X.w) A (eval x env) (kH X LP F r R s env mm nm V lc' sl') (λ _ _=>False) s
noncomputable def eQ (d:Nat) (env:Env) (nm:List Str) (x:Expr) (lc:List (Option V)) (sl:ab) (b:Bool) (lc':List (Option V)) (sl':ab):Prop :=
 ∀ (mm:Str->Option Value) (A:Around) (F:PM) (r:PS) (R:List aK) (s:Shared),dG A d s->HS X LP F r env mm nm lc sl R s.heap ->
   wpAny (model X.prog X.w) A (isTrue x env (eval x env)) (zf X LP F r R s env mm nm b lc' sl') (λ _ _=>False) s
inductive Lv (F:PM) (r:PS) (R:List aK) (s:Shared) (env:Env) (mm:Str->Option Value) (nm:List Str) (Vs:List V) (lc:List (Option V)) (sl:ab) (vs:List Value) (s':Shared):Prop
 | mk (F':PM) (r':PS):F.le F'->r.le r'->HS X LP F' r' env mm nm lc sl R s'.heap->i9 X LP F' r' vs Vs->Sm s s'->Lv F r R s env mm nm Vs lc sl vs s'
noncomputable def lI (d:Nat) (env:Env) (nm:List Str) (xs:List Expr) (lc:List (Option V)) (sl:ab) (Vs:List V) (lc':List (Option V)) (sl':ab):Prop :=
 ∀ (mm:Str->Option Value) (A:Around) (F:PM) (r:PS) (R:List aK) (s:Shared) (pos:Pos),dG A d s->HS X LP F r env mm nm lc sl R s.heap ->
   wpAny (model X.prog X.w) A (spliced (backTo pos (starEach xs env))) (Lv X LP F r R s env mm nm Vs lc' sl') (λ _ _=>False) s
inductive Fn (F:PM) (r:PS):List aK->Flow->Fl->Prop
 | next:Fn F r [] .next .next
 | cont:Fn F r [] .cont .cont
 | ret {T v V}:RT X LP F r T v V->Fn F r T (.ret v) (.ret V)
inductive vT (F:PM) (r:PS) (R:List aK) (s:Shared) (env:Env) (nm:List Str) (fl:Fl) (lc:List (Option V)) (sl:ab) (f:Flow) (s':Shared):Prop
 | mk (mm:Str->Option Value) (F':PM) (r':PS) (T:List aK):F.le F'->r.le r'->HS X LP F' r' env mm nm lc sl (T++R) s'.heap->Fn X LP F' r' T f fl->Sm s s'->vT F r R s env nm fl lc sl f s'
noncomputable def ek (d:Nat) (env:Env) (nm:List Str) (st:Stmt) (lc:List (Option V)) (sl:ab) (fl:Fl) (lc':List (Option V)) (sl':ab):Prop :=
 ∀ (mm:Str->Option Value) (A:Around) (F:PM) (r:PS) (R:List aK) (s:Shared),dG A d s->HS X LP F r env mm nm lc sl R s.heap ->
   wpAny (model X.prog X.w) A (exec st env) (vT X LP F r R s env nm fl lc' sl') (λ _ _=>False) s
noncomputable def jL (d:Nat) (env:Env) (nm:List Str) (st:List Stmt) (lc:List (Option V)) (sl:ab) (fl:Fl) (lc':List (Option V)) (sl':ab):Prop :=
 ∀ (mm:Str->Option Value) (A:Around) (F:PM) (r:PS) (R:List aK) (s:Shared),dG A d s->HS X LP F r env mm nm lc sl R s.heap ->
   wpAny (model X.prog X.w) A (execs st env) (vT X LP F r R s env nm fl lc' sl') (λ _ _=>False) s
inductive vU (F:PM) (r:PS) (R:List aK) (s:Shared) (V:V) (sl:ab) (ft:Result) (s':Shared):Prop
 | mk (v:Value) (e:ft= .ok (.ret v)) (F':PM) (r':PS) (T:List aK):F.le F'->r.le r'->HC X LP F' r' sl (T++R) s'.heap->RT X LP F' r' T v V->Sm s s'->vU F r R s V sl ft s'
noncomputable def dZ (d:Nat) (f:V) (as:List V) (sl:ab) (V:V) (sl':ab):Prop :=
 ∀ (A:Around) (F:PM) (r:PS) (R:List aK) (s:Shared) (vf:Value) (vs:List Value),n6 A d s->HC X LP F r sl R s.heap->RV X LP F r vf f->i9 X LP F r vs as ->
   codeAny (model X.prog X.w) A (.call vf ⟨vs,[]⟩) (vU X LP F r R s V sl') s
end
section
variable {X:Cx}{LP:bu}{F F':PM}{r r':PS}{R:List aK}{env:Env}{mm:Str->Option Value}{nm:List Str}{lc:List (Option V)}{sl:ab}{h h':Heap}
theorem i9.nil:i9 X LP F r [] []:=rfl
theorem i9.cons {v:Value}{vs:List Value}{V:V}{Vs:List Mine.V}(h:RV X LP F r v V) (k:i9 X LP F r vs Vs):i9 X LP F r (v::vs) (V::Vs):= .mk h k
theorem i9.mono (l:F.le F') (q:r.le r'): ∀ {Vs:List V}{vs:List Value},i9 X LP F r vs Vs->i9 X LP F' r' vs Vs
 | [],_,h=>h
 | _::_,_,h=>cN.imp (λ _=>RV.mono l q) (λ _=>i9.mono l q) h
theorem i9.length: ∀ {Vs:List V}{vs:List Value},i9 X LP F r vs Vs->vs.length=Vs.length
 | [],_,.refl _=>rfl
 | _::_,_,.mk _ b=>congrArg (· + 1) (i9.length b)
theorem HS.fro (x:HS X LP F r env mm nm lc sl R h): ∀ b o,F b=some o->h.get? b=some o:=by cases x with | mk U a b=>exact b.fro
theorem HS.base (x:HS X LP F r env mm nm lc sl R h): ∀ b o,X.base b=some o->h.get? b=some o:=by cases x with | mk U a b=>exact b.base
theorem HS.keeps (x:HS X LP F r env mm nm lc sl R h) (k: ∀ b o,h.get? b=some o->h'.get? b=some o):HS X LP F r env mm nm lc sl R h':=by
 cases x with | mk U a b=>exact ⟨U,a,b.keeps k⟩
theorem HS.subR {R':List aK}(H:HS X LP F r env mm nm lc sl R h) (m: ∀ p ∈ R',p ∈ R) (c: ∀ a,fW a R'<=fW a R):HS X LP F r env mm nm lc sl R' h:=by
 cases H with | mk U v b=> ?_
 refine ⟨U,v,b.sub (λ q hq=> ?_) (λ q=> ?_)⟩
 · exact (List.mem_cons.mp hq).elim (λ e=>e▸List.mem_cons_self) λ k=>Rk _ ((List.mem_append.mp k).elim (Rz _) λ z=>List.mem_append_right _ (m q z))
 · rw [fW,fW,cP,cP];exact Nat.add_le_add_left (Nat.add_le_add_left (c q) _) _
theorem HS.tr (ρ:List (List aK)) (t t':Tr) (e:pJ t'.lv t.lv=true) (x:HS X LP F r env mm nm lc sl (t.ev ρ) h):HS X LP F r env mm nm lc sl (t'.ev ρ) h:=x.subR (rl e) (rn e)
theorem HS.open {T:List aK}(x:HS X LP F r env mm nm lc sl (T++R) h) {Q:Prop}(k: ∀ U,cQ X LP F r env mm nm lc U->HC X LP F r sl (T++((env.locals,gF mm)::(U++R))) h->Q):Q:=by
 cases x with | mk U a b=> ?_
 exact k U a (b.tr [[(env.locals,gF mm)],U,T,R] (.n (.l 0) (.n (.l 1) (.n (.l 2) (.l 3)))) (.n (.l 2) (.n (.l 0) (.n (.l 1) (.l 3)))) rfl)
theorem HS.shut {T:List aK}{U:List aK}(a:cQ X LP F r env mm nm lc U) (b:HC X LP F r sl (T++((env.locals,gF mm)::(U++R))) h):HS X LP F r env mm nm lc sl (T++R) h :=
 ⟨U,a,b.tr [[(env.locals,gF mm)],U,T,R] (.n (.l 2) (.n (.l 0) (.n (.l 1) (.l 3)))) (.n (.l 0) (.n (.l 1) (.n (.l 2) (.l 3)))) rfl⟩
theorem HS.freeze {T:List aK}{v:Value}{V:V}(x:HS X LP F r env mm nm lc sl (T++R) h) (t:RT X LP F r T v V) {Q:Prop}(k: ∀ F',F.le F'->HS X LP F' r env mm nm lc sl R h->RV X LP F' r v (frz V)->Q):Q :=
 x.open λ U a b=>t.freeze b λ F' l y z=>k F' l ⟨U,a.mono l (.refl _),y⟩ z
theorem HS.newF {a:Addr}{o:Obj}(x:HS X LP F r env mm nm lc sl R h) (k: ∀ b o,h.get? b=some o->h'.get? b=some o) (f:h.get? a=none) (e:h'.get? a=some o):F.le (F.set a o)/\HS X LP (F.set a o) r env mm nm lc sl R h':=by
 cases x with | mk U v b=>exact ⟨(b.newF k f e).1,U,v.mono (b.newF k f e).1 (.refl _),(b.newF k f e).2⟩
theorem HS.newO {a:Addr}{o:Obj}{P:Obj->Prop}(x:HS X LP F r env mm nm lc sl R h) (k: ∀ b o,h.get? b=some o->h'.get? b=some o) (f:h.get? a=none) (e:h'.get? a=some o) (q:P o):HS X LP F r env mm nm lc sl ((a,P)::R) h':=by
 cases x with | mk U v b=>exact HS.shut (T:=[(a,P)]) (U:=U) v (b.newO k f e q)
theorem aN (h:Heap):h.get? h.objs.size=none:=by
 cases e:h.get? h.objs.size with
 | none=>rfl
 | some o=>exact absurd (Heap.lt_size e) (Nat.lt_irrefl _)
theorem kH.frz {d:Shared}{V:V}{v:Value}{s:Shared}(x:kH X LP F r R d env mm nm V lc sl v s):Fm X LP F r R d env mm nm (frz V) lc sl v s:=by
 cases x with | mk F1 r1 T l q H t m=> ?_
 exact H.freeze t λ F2 l2 H2 t2=>⟨F2,r1,l.trans l2,q,H2,t2,m⟩
theorem Fm.toP {d:Shared}{V:V}{v:Value}{s:Shared}(x:Fm X LP F r R d env mm nm V lc sl v s):kH X LP F r R d env mm nm V lc sl v s:=by
 cases x with | mk F1 r1 l q H t m=>exact ⟨F1,r1,[],l,q,H,.v t,m⟩
theorem cG {d:Nat}{x:Expr}{V:V}{lc':List (Option Mine.V)}{sl':ab}{A:Around}{s:Shared}{Q:Value->Shared->Prop}(h:bp X LP d env nm x lc sl V lc' sl') (hA:dG A d s) (H:HS X LP F r env mm nm lc sl R s.heap)
   (k: ∀ v s' F' r',F.le F'->r.le r'->HS X LP F' r' env mm nm lc' sl' R s'.heap->RV X LP F' r' v (frz V)->Sm s s'->dG A d s'->Q v s') :
   wpAny (model X.prog X.w) A (eval x env) Q (λ _ _=>False) s :=
 Ro (a8 (h _ A F r R s hA H)) (λ v s' y=>by cases y.1.frz with | mk F1 r1 l q H1 t m=>exact k v s' F1 r1 l q H1 t m (hA.up y.2)) λ _ _ z=>z
theorem eI {d:Nat}{x:Expr}{b:Bool}{lc':List (Option Mine.V)}{sl':ab}{A:Around}{s:Shared}{Q:Bool->Shared->Prop}(h:eQ X LP d env nm x lc sl b lc' sl') (hA:dG A d s) (H:HS X LP F r env mm nm lc sl R s.heap)
   (k: ∀ s' F' r',F.le F'->r.le r'->HS X LP F' r' env mm nm lc' sl' R s'.heap->Sm s s'->dG A d s'->Q b s') :
   wpAny (model X.prog X.w) A (isTrue x env (eval x env)) Q (λ _ _=>False) s :=
 Ro (a8 (h _ A F r R s hA H)) (λ c s' y=>by cases y.1 with | mk e F1 r1 l q H1 m=>exact e▸k s' F1 r1 l q H1 m (hA.up y.2)) λ _ _ z=>z
theorem so {v:Value}{b:Bool}(x:RV X LP F r v (.w (.bool b))):v= .bool b:=x
theorem Gh {v:Value}{w:W}(x:RV X LP F r v (.w w)):RW X F v w:=x
theorem vV {V:V}{w:W}(h:mV V=some w):frz V= .w w:=by cases V<;>first | exact congrArg Mine.V.w (sj h) | exact nn h
end
structure vX (X:Cx) (c:Nat):Prop where
 mks:makesIn X.K (X.clsA c)=true
 get:plainGet X.K (X.clsA c) "" = true
 dic:hasDictIn X.K (X.clsA c)=true
 ovr:plainOver X.K (X.clsA c)=true
 seta:findIn X.K (.ref (X.clsA c)) "__setattr__" = some (some (.builtin "object.__setattr__"))
 kp:keepIn X.K (.ref (X.clsA c))=true
 ini: ∀ f,X.T.init c=some f->findIn X.K (.ref (X.clsA c)) "__init__" = some (some (.ref (X.fnA f)))/\typeIn X.K (.ref (X.fnA f))=some (.type "function")/\ ∃ fd,X.T.fn f=some fd
 mth: ∀ a f,a < X.na->X.T.meth c a=some f->findIn X.K (.ref (X.clsA c)) (X.aname a)=some (some (.ref (X.fnA f)))/\isFn X.K (.ref (X.fnA f))=true/\((∃ fd,X.T.fn f=some fd)\/f=X.T.peek\/f=X.T.done)
 fld: ∀ a,a < X.na->X.T.isF c a=true->findIn X.K (.ref (X.clsA c)) (X.aname a)=some none
noncomputable def vY (X:Cx) (f:Nat) (fd:FuncData):Prop:= ∃ o,X.base (X.fnA f)=some o/\o.data= .func fd
inductive iS (X:Cx) (a:Addr) (m:Str->Option Value):Prop
 | mk (o:Obj) (es:Array DictEntry) (ep:Nat):X.base a=some o->o.data= .dict es ep->StrKeys es->(∀ name,nsFind es name=m name)->iS X a m
theorem iS.at {X:Cx}{a:Addr}{m:Str->Option Value}{h:Heap}(x:iS X a m) (k: ∀ b o,X.base b=some o->h.get? b=some o):h.Ns a m:=by
 cases x with | mk o es ep e r1 r2 r3=>exact ⟨o,es,ep,k _ _ e,r1,r2,r3⟩
structure bM (X:Cx):Prop where
 kin: ∀ a o,X.K.lookup a=some o->X.base a=some o
 nsg:iS X mainGlobals X.mg
 nsb:iS X builtinsNs X.mb
 glob: ∀ g w,X.T.gval g=some w-> ∃ v,RW X X.base v w/\(X.mg (X.gname g)=some v\/(X.mg (X.gname g)=none/\X.mb (X.gname g)=some v))
 revd:X.mg ("reversed" : Str)=none/\X.mb ("reversed" : Str)=some (.type "reversed")
 anj: ∀ a b,X.aname a=X.aname b->a=b
 cls: ∀ c,(X.T.init c).isSome=true->vX X c
 clsG: ∀ g c,X.T.gval g=some (.cls c)->(X.T.init c).isSome=true
 rdr:(X.T.init X.T.rdrC).isSome=true
 sysm:(X.base sysModules).isSome=true
 bins: ∃ bm o,X.mg ("__builtins__" : Str)=some (.ref bm)/\bm≠builtinsNs/\X.base bm=some o/\o.cls= .type "module" /\ o.dict=some builtinsNs/\o.data= .plain
 lpc: ∀ L ∈ X.lps,∃ o vs file tf flags tg inF text tt,X.base L.code=some o/\o.cls= .type "code" /\ o.data= .fields vs/\vs.getD 11 .none= .ref L.place/\vs.getD 18 .none= .str file tf/\vs.getD 7 .none= .int flags tg/\vs.getD 9 .none= .bool inF/\vs.getD 10 .none= .int text tt/\L.code≠L.place
 nolim: ∃ mc,iS X cStatics mc/\mc "sys.recursionlimit" = none
 rdrF:X.T.isF X.T.rdrC X.T.aAt=true
 rdrD:X.T.aNam≠X.T.aTok/\X.T.aNam≠X.T.aAt/\X.T.aAt≠X.T.aTok
 fnd: ∀ f,(X.T.fn f).isSome=true\/f=X.T.peek\/f=X.T.done-> ∃ fd,vY X f fd
section
variable {X:Cx}{LP:bu}{F F':PM}{r r':PS}{R:List aK}{env:Env}{mm:Str->Option Value}{nm:List Str}{sc:Sc}{cd:Option (Addr×Str)}{lc:List (Option V)}{sl:ab}{d:Nat}
theorem kO {x:Str}(h:fY x=true):(x==("__debug__" : Str))=false:=by
 unfold fY at h;simp only [Bool.and_eq_true,Bool.not_eq_true'] at h;exact h.1.1
theorem CS {x:Str}(h:fY x=true):(x==("__classdict__" : Str))=false:=by
 unfold fY at h;simp only [Bool.and_eq_true,Bool.not_eq_true'] at h;exact h.1.2
theorem BU {m:Str->Option Value}{U:List aK}{h:Heap}(b:HC X LP F r sl ((env.locals,gF m)::(U++R)) h):h.Ns env.locals m:=by
 obtain ⟨o,e,q⟩:=b.head
 cases q with | mk es ep h1 h2 h3=>exact ⟨o,es,ep,e,h1,h2,h3⟩
theorem rx {m:Str->Option Value}{T U:List aK}{h:Heap}(b:HC X LP F r sl (T++((env.locals,gF m)::U)) h):h.Ns env.locals m:=BU (R:=T) (U:=U) (b.tr [T,[(env.locals,gF m)],U] (.n (.l 0) (.n (.l 1) (.l 2))) (.n (.l 1) (.n (.l 2) (.l 0))) rfl)
noncomputable def sq:V->Bool
 | .own _=>true
 | .hds _=>true
 | _=>false
theorem zg {P:V×St->Prop}{s:St}{i:Nat}{V:V}(h1:sq V=true->P (frz V,s.put i (frz V))) (h2:sq V=false->P (V,s)):P (pB s i V):=by
 cases V with
 | own _=>exact h1 rfl
 | hds _=>exact h1 rfl
 | _=>exact h2 rfl
theorem vZ {T:List aK}{v:Value}{V:V}(h:sq V=false) (t:RT X LP F r T v V):I6 (RV X LP F r v V) T:=by
 cases V<;>first | exact t | exact ff h.symm
theorem v0 {v:Value}{V:V}(h:sq V=true) (t:RV X LP F r v V) {Q:Prop}:Q:=by
 cases V<;>first | exact t.elim | exact ff h
theorem jf (K:aQ env sc nm cd) {i:Nat}{x:Str}{p:Pos}{V:V}(hx:nm[i]?=some x) (ok:fY x=true) (hV:ax lc i=some (some V)) :
   bp X LP d env nm (.Name x p) lc sl (pB ⟨lc,sl⟩ i V).1 (pB ⟨lc,sl⟩ i V).2.loc sl:=by
 refine zg (P:=λ o=>bp X LP d env nm (.Name x p) lc sl o.1 o.2.loc sl) (λ t mm A F r R s hA H=> ?_) (λ t mm A F r R s hA H=> ?_)
 · refine wpAny_Name (H.on hx K.nod λ l T Z e c b re=> ?_) (kO ok)
   cases hV.symm.trans e
   cases c with
   | l k em t=>exact wpAny_loadName_local K.kind k (rx b) em (t.freeze b λ F1 l1 b1 t1=>⟨F1,r,[],l1,.refl _,re (T':=[]) l1 (.refl _) (λ _ _ _=>rfl) (.l k em (.v t1)) b1,.v t1,.refl _⟩)
   | c k e f g t'=>exact v0 t t'
 · refine wpAny_Name (H.on hx K.nod λ l T Z e c b re=> ?_) (kO ok)
   cases hV.symm.trans e
   have fL: ∀ {w:Value},RV X LP F r w V->kH X LP F r R s env mm nm V lc sl w s:=λ t=>⟨F,r,[],.refl _,.refl _,H,.v t,.refl _⟩
   cases c with
   | l k em t'=>exact wpAny_loadName_local K.kind k (rx b) em (by cases vZ t t' with | mk a=>exact fL a)
   | @c c o w k e f g t' =>
     have hc:s.heap.IsCell c (some w):=⟨o,b.fro _ _ f,g⟩
     exact k.elim (λ k=>wpAny_loadName_cell K.kind k e hc (fL t')) λ k=>wpAny_loadName_free K.kind k e hc (fL t') (CS ok)
theorem HS.low {h:Heap}(x:HS X LP F r env mm nm lc sl R h):PM.le X.base F:=by cases x with | mk U a b=>exact b.low
theorem v4 (C:bM X) (K:aQ env sc nm cd) {g:Nat}{w:W}{p:Pos}(hg:X.T.gval g=some w) (ok:fY (X.gname g)=true) (hk:sc.lookup (X.gname g)=some .globalImplicit) :
   bp X LP d env nm (.Name (X.gname g) p) lc sl (.w w) lc sl:=by
 intro mm A F r R s hA H
 obtain ⟨v,hv,e⟩:=C.glob g w hg
 have fL:kH X LP F r R s env mm nm (.w w) lc sl v s:=⟨F,r,[],.refl _,.refl _,H,.v (.w (hv.mono H.low)),.refl _⟩
 refine Name_function_global K.kind ((K.kindOf _).trans hk) ?_ (kO ok)
 have g:s.heap.Ns env.globals X.mg:=K.glob▸C.nsg.at H.base
 rcases e with e | ⟨e,e'⟩
 · exact loadGlobal_global g e fL
 · exact loadGlobal_builtin g e (K.blt▸C.nsb.at H.base) e' fL
theorem Gi {k:Nat}{p:Pos}:bp X LP d env nm (.Constant .none k p) lc sl (.w .none) lc sl:=λ mm A F r R s hA H=>wpAny_Constant_none ⟨F,r,[],.refl _,.refl _,H,.v rfl,.refl _⟩
theorem Gj {b:Bool}{k:Nat}{p:Pos}:bp X LP d env nm (.Constant (.bool b) k p) lc sl (.w (.bool b)) lc sl:=λ mm A F r R s hA H=>wpAny_Constant_bool ⟨F,r,[],.refl _,.refl _,H,.v rfl,.refl _⟩
theorem Gk {i:Int}{k:Nat}{p:Pos}:bp X LP d env nm (.Constant (.int i) k p) lc sl (.w (.int i)) lc sl:=λ mm A F r R s hA H=>wpAny_Constant_int ⟨F,r,[],.refl _,.refl _,H,.v (.w (.int i _)),.mk⟩
theorem Gl {x:List Nat}{k:Nat}{p:Pos}(h:x.length<=cw):bp X LP d env nm (.Constant (.str (ae x)) k p) lc sl (.w (.str x)) lc sl:=λ mm A F r R s hA H=>wpAny_Constant_str ⟨F,r,[],.refl _,.refl _,H,.v (.w (.str x _ h)),.mk⟩
theorem lJ:lI X LP d env nm [] lc sl [] lc sl:=λ mm A F r R s pos hA H=>wpAny_items_nil ⟨F,r,.refl _,.refl _,H,.nil,.refl _⟩
theorem d6 {x:Expr}{xs:List Expr}(hs:aE x=true):starEach (x::xs) env=(false,eval x env)::starEach xs env:=by
 cases x<;>first | rfl | exact ff hs
theorem jg {x:Expr}{xs:List Expr}{V:V}{Vs:List Mine.V}{lc1 lc2:List (Option Mine.V)}{sl1 sl2:ab}(hs:aE x=true) (h:bp X LP d env nm x lc sl V lc1 sl1) (k:lI X LP d env nm xs lc1 sl1 Vs lc2 sl2) :
   lI X LP d env nm (x::xs) lc sl (frz V::Vs) lc2 sl2:=λ mm A F r R s pos hA H =>
 wpAny_items_cons (cG h hA H λ v s1 F1 r1 l1 q1 H1 t1 m1 hA=>Ro (k mm A F1 r1 R s1 pos hA H1) (λ vs s2 y=>by
   cases y with | mk F2 r2 l2 q2 H2 t2 m2=>exact ⟨F2,r2,l1.trans l2,q1.trans q2,H2,.cons (t1.mono l2 q2) t2,m1.trans m2⟩) λ _ _ z=>z) (d6 hs)
theorem fi {xs:List Expr}{Vs:List V}{lc':List (Option V)}{sl':ab}{A:Around}{s:Shared}{pos:Pos}{Q:List Value->Shared->Prop}(h:lI X LP d env nm xs lc sl Vs lc' sl') (hA:dG A d s) (H:HS X LP F r env mm nm lc sl R s.heap)
   (k: ∀ vs s' F' r',F.le F'->r.le r'->HS X LP F' r' env mm nm lc' sl' R s'.heap->i9 X LP F' r' vs Vs->Sm s s'->dG A d s'->Q vs s') :
   wpAny (model X.prog X.w) A (spliced (backTo pos (starEach xs env))) Q (λ _ _=>False) s :=
 Ro (a8 (h mm A F r R s pos hA H)) (λ v s' y=>by cases y.1 with | mk F1 r1 l q H1 t m=>exact k v s' F1 r1 l q H1 t m (hA.up y.2)) λ _ _ z=>z
theorem v5 {v:Value}{Vo:V}{w:W}(e:mV Vo=some w) (t:RV X LP F r v Vo):RW X F v w:=by
 cases Vo<;>first | exact sj e▸t | exact t.elim | exact nn e
theorem iT: ∀ {Vs:List V}{vs:List Value}{ws:List W},aZ Vs=some ws->i9 X LP F r vs Vs->cF X F vs ws
 | [],_,_,.refl _,t=>t
 | V::Vs,_,_,h,t=>by
   refine oW h λ w hw h=>oL h λ l hl h=> ?_
   cases t with | mk a b=>exact sj h▸ .mk (v5 hw a) (iT hl b)
theorem aR (h:Heap) (o:Obj): ∀ b ob,h.get? b=some ob->(h.push o).get? b=some ob:=λ _ _ e=>Heap.get?_push_of_some o e
theorem CT {xs:List Expr}{k:Nat}{p:Pos}{Vs:List V}{ws:List W}{lc':List (Option V)}{sl':ab}(h:lI X LP d env nm xs lc sl Vs lc' sl') (hw:aZ Vs=some ws) (hl:xs.length<=1000) (hlen:Vs.length=xs.length) :
   bp X LP d env nm (.Tuple xs k p) lc sl (.w (.tup ws)) lc' sl':=by
 intro mm A F r R s hA H
 refine wpAny_Tuple (fi h hA H λ vs s1 F1 r1 l1 q1 H1 t1 m1 hA=> ?_)
 have t:=iT hw t1
 have len:vs.length<=1000:=by rw [t1.length,hlen];exact hl
 refine ⟨Rl len (by rw [sizeLine_eq];decide),?_⟩
 obtain ⟨l2,H2⟩:=H1.newF (aR _ { cls:= .type "tuple",data:= .seq vs.toArray }) (aN _) (Heap.get?_push_size _ rfl)
 exact ⟨_,r1,[],l1.trans l2,q1,H2,.v (.w (.tup (PM.set_self _ _ _) rfl rfl (Rl len (by show 1000<=cw;decide)) (t.mono l2))),m1.trans .mk⟩
theorem CU {xs:List Expr}{p:Pos}{Vs:List V}{ws:List W}{lc':List (Option V)}{sl':ab}(h:lI X LP d env nm xs lc sl Vs lc' sl') (hw:aZ Vs=some ws) (hl:xs.length<=1000) (hlen:Vs.length=xs.length) :
   bp X LP d env nm (.List xs p) lc sl (.own ws) lc' sl':=by
 intro mm A F r R s hA H
 refine wpAny_List (fi h hA H λ vs s1 F1 r1 l1 q1 H1 t1 m1 hA=> ?_)
 have t:=iT hw t1
 have len:vs.length<=1000:=by rw [t1.length,hlen];exact hl
 refine ⟨Rl len (by rw [sizeLine_eq];decide),?_⟩
 have H2:=H1.newO (P:=aD vs) (aR _ { cls:= .type "list",data:= .seq vs.toArray }) (aN _) (Heap.get?_push_size _ rfl) ⟨_,rfl⟩
 exact ⟨F1,r1,[(_,aD vs)],l1,q1,H2,.own (Rl len (by show 1000<=cw;decide)) t,m1.trans .mk⟩
inductive gR (X:Cx) (F:PM) (s:Shared) (w:W) (v:Value):Shared->Prop
 | mk (tk:Tok):RW X F v w->gR X F s w v { s with toks:=tk }
theorem ic {R:List aK}{s0 s s':Shared}{w:W}{v:Value}(h:gR X F' s w v s') (l:F.le F') (q:r.le r') (H:HS X LP F' r' env mm nm lc sl R s.heap) (m:Sm s0 s):kH X LP F r R s0 env mm nm (.w w) lc sl v s':=by
 cases h with | mk tk t=>exact ⟨F',r',[],l,q,H,.v t,m.trans .mk⟩
theorem CV {x:Expr}{p:Pos}{b:Bool}{lc':List (Option V)}{sl':ab}(h:bp X LP d env nm x lc sl (.w (.bool b)) lc' sl'):bp X LP d env nm (.UnaryOp .Not x p) lc sl (.w (.bool (!b))) lc' sl':=by
 intro mm A F r R s hA H
 refine wpAny_UnaryOp (cG h hA H λ v s1 F1 r1 l1 q1 H1 t1 m1 hA=> ?_)
 rw [so t1]
 exact not_value (wpAny_truthy_bool ⟨F1,r1,[],l1,q1,H1,.v (.w (.bool _)),m1⟩)
theorem CW {x:Expr}{p:Pos}{b:Bool}{lc':List (Option V)}{sl':ab}(h:eQ X LP d env nm x lc sl b lc' sl'):eQ X LP d env nm (.UnaryOp .Not x p) lc sl (!b) lc' sl':=by
 intro mm A F r R s hA H
 exact wpAny_isTrue_Not (eI h hA H λ s1 F1 r1 l1 q1 H1 m1 hA=>⟨rfl,F1,r1,l1,q1,H1,m1⟩)
theorem v6 {x y z:Expr}{p:Pos}{b:Bool}{V:V}{lc1 lc2:List (Option Mine.V)}{sl1 sl2:ab}(h:eQ X LP d env nm x lc sl b lc1 sl1) (k:bp X LP d env nm (if b then y else z) lc1 sl1 V lc2 sl2) :
   bp X LP d env nm (.IfExp x y z p) lc sl V lc2 sl2:=by
 intro mm A F r R s hA H
 refine wpAny_IfExp (eI h hA H λ s1 F1 r1 l1 q1 H1 m1 hA=> ?_)
 have: ∀ e,e=(if b then y else z)->wpAny (model X.prog X.w) A (eval e env) (kH X LP F r R s env mm nm V lc2 sl2) (λ _ _=>False) s1:=by
   rintro e rfl
   refine Ro (k mm A F1 r1 R s1 hA H1) (λ v s2 w=> ?_) λ _ _ z=>z
   cases w with | mk F2 r2 T l2 q2 H2 t2 m2=>exact ⟨F2,r2,T,l1.trans l2,q1.trans q2,H2,t2,m1.trans m2⟩
 cases b<;>exact this _ rfl
theorem v7 {x y z:Expr}{p:Pos}{b c:Bool}{lc1 lc2:List (Option Mine.V)}{sl1 sl2:ab}(h:eQ X LP d env nm x lc sl b lc1 sl1) (k:eQ X LP d env nm (if b then y else z) lc1 sl1 c lc2 sl2) :
   eQ X LP d env nm (.IfExp x y z p) lc sl c lc2 sl2:=by
 intro mm A F r R s hA H
 show wpAny _ A (do if <- isTrue x env (eval x env) then isTrue y env (eval y env) else isTrue z env (eval z env)) _ _ s
 refine Rn (eI h hA H λ s1 F1 r1 l1 q1 H1 m1 hA=> ?_)
 have: ∀ e,e=(if b then y else z)->wpAny (model X.prog X.w) A (isTrue e env (eval e env)) (zf X LP F r R s env mm nm c lc2 sl2) (λ _ _=>False) s1:=by
   rintro e rfl
   exact eI k hA H1 λ s2 F2 r2 l2 q2 H2 m2 hA=>⟨rfl,F2,r2,l1.trans l2,q1.trans q2,H2,m1.trans m2⟩
 cases b<;>exact this _ rfl
theorem v8 {x:Expr}{b:Bool}{lc':List (Option V)}{sl':ab}(h:bp X LP d env nm x lc sl (.w (.bool b)) lc' sl') (he: ∀ whole,isTrue x env whole=(do let v <- whole;standAt x.pos;holding [v] (truthy v))):eQ X LP d env nm x lc sl b lc' sl':=by
 intro mm A F r R s hA H
 refine wpAny_isTrue_value (cG h hA H λ v s1 F1 r1 l1 q1 H1 t1 m1 hA=> ?_) (he _)
 rw [so t1]
 exact wpAny_truthy_bool ⟨rfl,F1,r1,l1,q1,H1,m1⟩
end
mutual
noncomputable def jh:W->PyData
 | .int i=> .int i
 | .str x=> .str (ae x)
 | .tup l=> .tuple (gS l)
 | .lst l=> .list (gS l)
 | _=> .none
noncomputable def gS:List W->List PyData
 | []=>[]
 | a::r=>jh a::gS r
end
section
variable {X:Cx}{F:PM}{h:Heap}
mutual
theorem dP (k: ∀ a o,F a=some o->h.get? a=some o): ∀ (w:W) (n:Nat) {v:Value},RW X F v w->aC n w=true-> ∃ as,Reads h v (jh w) as
 | .none,_,_,.refl _,_=>⟨_,Reads.none⟩
 | .bool _,_,_,_,p=>ff p
 | .int _,_,_,.mk t,_=>⟨_,Reads.int _ t⟩
 | .str _,_,_,.mk t _,_=>⟨_,Reads.str _ t⟩
 | .tup _,0,_,_,p=>ff p
 | .tup l,n+1,_,.mk a b c d e,p =>
   let ⟨as,q⟩:=d7 k l n e p
   ⟨as,Reads.tuple (k _ _ a) b c q⟩
 | .lst _,0,_,_,p=>ff p
 | .lst l,n+1,_,.mk a b c d e,p =>
   let ⟨as,q⟩:=d7 k l n e p
   ⟨_,Reads.list (k _ _ a) b c q⟩
 | .inst _ _,_,_,_,p=>ff p
 | .dct _,_,_,_,p=>ff p
 | .fn _,_,_,_,p=>ff p
 | .cls _,_,_,_,p=>ff p
 | .bi _,_,_,_,p=>ff p
 | .rng _ _,_,_,_,p=>ff p
termination_by structural w=>w
theorem d7 (k: ∀ a o,F a=some o->h.get? a=some o): ∀ (w:List W) (n:Nat) {v:List Value},cF X F v w->aS n w=true-> ∃ as,ReadsAll h v (gS w) as
 | [],_,_,.refl _,_=>⟨_,ReadsAll.nil⟩
 | w::ws,n,_,.mk a b,p =>
   let ⟨as,q1⟩:=dP k w n a (Bool.and_eq_true_iff.mp p).1
   let ⟨bs,q2⟩:=d7 k ws n b (Bool.and_eq_true_iff.mp p).2
   ⟨_,ReadsAll.cons q1 q2⟩
termination_by structural w=>w
end
end
theorem v9 {x:List Nat}(h:(x.all λ c=>Nat.blt c 1114112)=true):PyData.strOk (ae x)=true:=by
 unfold PyData.strOk ae
 simp only [List.all_eq_true] at h
 simp only [List.all_toArray,List.all_eq_true,decide_eq_true_eq]
 exact λ c hc=>Rm (h c hc)
mutual
theorem gU: ∀ (w:W) (n:Nat),aC n w=true->(jh w).canLay0=true/\(jh w).depth<=n
 | .none,n,_=>⟨rfl,Nat.zero_le n⟩
 | .int _,n,_=>⟨rfl,Nat.zero_le n⟩
 | .str _,n,p=>⟨v9 p,Nat.zero_le n⟩
 | .tup _,0,p=>ff p
 | .tup l,n+1,p=>⟨(d9 l n p).1,Nat.succ_le_succ (d9 l n p).2⟩
 | .lst _,0,p=>ff p
 | .lst l,n+1,p=>⟨(d9 l n p).1,Nat.succ_le_succ (d9 l n p).2⟩
 | .bool _,_,p=>ff p
 | .inst _ _,_,p=>ff p
 | .dct _,_,p=>ff p
 | .fn _,_,p=>ff p
 | .cls _,_,p=>ff p
 | .bi _,_,p=>ff p
 | .rng _ _,_,p=>ff p
termination_by structural w=>w
theorem d9: ∀ (w:List W) (n:Nat),aS n w=true->PyData.canLayAll0 (gS w)=true/\PyData.depthAll (gS w)<=n
 | [],n,_=>⟨rfl,Nat.zero_le n⟩
 | a::r,n,p =>
   have p:=Bool.and_eq_true_iff.mp p
   ⟨Bool.and_eq_true_iff.mpr ⟨(gU a n p.1).1,(d9 r n p.2).1⟩,Nat.max_le.mpr ⟨(gU a n p.1).2,(d9 r n p.2).2⟩⟩
termination_by structural w=>w
end
theorem ie {n:Nat}{w:W}(hn:n<=64) (p:aC n w=true):SeqAt.shaped (jh w)=true:=by
 obtain ⟨a,b⟩:=gU w n p
 unfold SeqAt.shaped
 rw [a,Bool.true_and]
 exact decide_eq_true (Rl b hn)
theorem fM {a b:List Nat}:(ae a==ae b)=(a==b):=by
 have e:(ae a=ae b) ↔ a=b:=⟨λ h=>by unfold ae at h;simpa using h,λ h=>by rw [h]⟩
 by_cases h:a=b
 · rw [beq_iff_eq.mpr h,beq_iff_eq.mpr (e.mpr h)]
 · rw [beq_eq_false_iff_ne.mpr h,beq_eq_false_iff_ne.mpr λ q=>h (e.mp q)]
theorem I7 {m:Nat}(b:W) (q:aC m b=true):PyData.eqv (jh (.none)) (jh b)=gE (.none) b :=
 @W.casesOn (λ b=>aC m b=true->PyData.eqv (jh (.none)) (jh b)=gE (.none) b) b (λ _=>rfl) (λ _ q=>ff q) (λ _ _=>rfl) (λ _ _=>rfl) (λ _ _=>rfl) (λ _ _=>rfl) (λ _ _ q=>ff q) (λ _ q=>ff q) (λ _ q=>ff q) (λ _ q=>ff q) (λ _ q=>ff q) (λ _ _ q=>ff q) q
theorem I8 {m:Nat}{i:Int}(b:W) (q:aC m b=true):PyData.eqv (jh (.int i)) (jh b)=gE (.int i) b :=
 @W.casesOn (λ b=>aC m b=true->PyData.eqv (jh (.int i)) (jh b)=gE (.int i) b) b (λ _=>rfl) (λ _ q=>ff q) (λ _ _=>rfl) (λ _ _=>rfl) (λ _ _=>rfl) (λ _ _=>rfl) (λ _ _ q=>ff q) (λ _ q=>ff q) (λ _ q=>ff q) (λ _ q=>ff q) (λ _ q=>ff q) (λ _ _ q=>ff q) q
theorem I9 {m:Nat}{x:List Nat}(b:W) (q:aC m b=true):PyData.eqv (jh (.str x)) (jh b)=gE (.str x) b :=
 @W.casesOn (λ b=>aC m b=true->PyData.eqv (jh (.str x)) (jh b)=gE (.str x) b) b (λ _=>rfl) (λ _ q=>ff q) (λ _ _=>rfl) (λ _ _=>fM) (λ _ _=>rfl) (λ _ _=>rfl) (λ _ _ q=>ff q) (λ _ q=>ff q) (λ _ q=>ff q) (λ _ q=>ff q) (λ _ q=>ff q) (λ _ _ q=>ff q) q
theorem Ja {m:Nat}{l:List W}(ih: ∀ (r:List W) (n:Nat),aS n r=true->PyData.eqvAll (gS l) (gS r)=q9 l r) (b:W) (q:aC m b=true):PyData.eqv (jh (.tup l)) (jh b)=gE (.tup l) b :=
 @W.casesOn (λ b=>aC m b=true->PyData.eqv (jh (.tup l)) (jh b)=gE (.tup l) b) b (λ _=>rfl) (λ _ q=>ff q) (λ _ _=>rfl) (λ _ _=>rfl) (λ r q=>(match m,q with | 0,q=>ff q | n+1,q=>ih r n q)) (λ _ _=>rfl) (λ _ _ q=>ff q) (λ _ q=>ff q) (λ _ q=>ff q) (λ _ q=>ff q) (λ _ q=>ff q) (λ _ _ q=>ff q) q
theorem Jb {m:Nat}{l:List W}(ih: ∀ (r:List W) (n:Nat),aS n r=true->PyData.eqvAll (gS l) (gS r)=q9 l r) (b:W) (q:aC m b=true):PyData.eqv (jh (.lst l)) (jh b)=gE (.lst l) b :=
 @W.casesOn (λ b=>aC m b=true->PyData.eqv (jh (.lst l)) (jh b)=gE (.lst l) b) b (λ _=>rfl) (λ _ q=>ff q) (λ _ _=>rfl) (λ _ _=>rfl) (λ _ _=>rfl) (λ r q=>(match m,q with | 0,q=>ff q | n+1,q=>ih r n q)) (λ _ _ q=>ff q) (λ _ q=>ff q) (λ _ q=>ff q) (λ _ q=>ff q) (λ _ q=>ff q) (λ _ _ q=>ff q) q
mutual
theorem n7: ∀ (a:W) (n m:Nat) (b:W),aC n a=true->aC m b=true->PyData.eqv (jh a) (jh b)=gE a b
 | .none,_,_,b,_,q=>I7 b q
 | .int _,_,_,b,_,q=>I8 b q
 | .str _,_,_,b,_,q=>I9 b q
 | .tup _,0,_,_,p,_=>ff p
 | .tup l,n+1,_,b,p,q=>Ja (λ r m q=>n8 l n m r p q) b q
 | .lst _,0,_,_,p,_=>ff p
 | .lst l,n+1,_,b,p,q=>Jb (λ r m q=>n8 l n m r p q) b q
 | .bool _,_,_,_,p,_=>ff p
 | .inst _ _,_,_,_,p,_=>ff p
 | .dct _,_,_,_,p,_=>ff p
 | .fn _,_,_,_,p,_=>ff p
 | .cls _,_,_,_,p,_=>ff p
 | .bi _,_,_,_,p,_=>ff p
 | .rng _ _,_,_,_,p,_=>ff p
termination_by structural a=>a
theorem n8: ∀ (a:List W) (n m:Nat) (b:List W),aS n a=true->aS m b=true->PyData.eqvAll (gS a) (gS b)=q9 a b
 | [],_,_,[],_,_=>rfl
 | [],_,_,_::_,_,_=>rfl
 | _::_,_,_,[],_,_=>rfl
 | a::r,n,m,b::t,p,q =>
   have p:=Bool.and_eq_true_iff.mp p
   have q:=Bool.and_eq_true_iff.mp q
   congr (congrArg and (n7 a n m b p.1 q.1)) (n8 r n m t p.2 q.2)
termination_by structural a=>a
end
theorem lK {n m:Nat}{x:W}(q:aC m x=true): ∀ {l:List W},aS n l=true->((gS l).any λ y=>PyData.eqv y (jh x))=l.any λ y=>gE y x
 | [],_=>rfl
 | a::r,p =>
   have p:=Bool.and_eq_true_iff.mp p
   congr (congrArg or (n7 a n m x p.1 q)) (lK q p.2)
theorem zh (a b:Nat):Nat.beq a b=(a==b):=by
 by_cases h:a=b
 · subst h;rw [Nat.beq_refl,beq_self_eq_true]
 · rw [beq_eq_false_iff_ne.mpr h]
   cases q:Nat.beq a b with
   | false=>rfl
   | true=>exact absurd (Rq q) h
theorem ry: ∀ a b:List Nat,BF a b=decide (a < b)
 | [],[]=>by rw [StrLaws.lt_nil_nil];rfl
 | [],b::t=>by rw [StrLaws.lt_nil_cons];rfl
 | a::r,[]=>by rw [StrLaws.lt_cons_nil];rfl
 | a::r,b::t=>by
   rw [StrLaws.lt_cons_cons,<- ry r t]
   show (Nat.blt a b||(Nat.beq a b&&BF r t))=_
   rw [zh]
   congr 1
   by_cases h:a < b
   · rw [decide_eq_true h];exact Rp h
   · rw [decide_eq_false h]
     cases q:Nat.blt a b with
     | false=>rfl
     | true=>exact absurd (Rm q) h
theorem n9: ∀ a b:List Nat,pre a b=true ↔ b.take a.length=a
 | [],b=>by simp [pre]
 | a::r,[]=>by simp [pre]
 | a::r,b::t=>by
   simp only [pre,Bool.and_eq_true,n9 r t,List.length_cons,List.take_succ_cons,List.cons.injEq]
   constructor
   · exact λ ⟨h,k⟩=>⟨(Rq h).symm,k⟩
   · exact λ ⟨h,k⟩=>⟨by rw [h];exact Nat.beq_refl _,k⟩
theorem pN (b:List Nat): ∀ x:List Nat,subL b x=true ↔ ∃ i,(x.drop i).take b.length=b/\i<=x.length
 | []=>by
   rw [subL,n9]
   exact ⟨λ h=>⟨0,by simpa using h,by simp⟩,λ ⟨i,h,_⟩=>by simpa using h⟩
 | c::r=>by
   rw [subL,Bool.or_eq_true,n9,pN b r]
   constructor
   · rintro (h | ⟨i,h,k⟩)
     · exact ⟨0,by simpa using h,by simp⟩
     · exact ⟨i+1,by simpa using h,by simpa using k⟩
   · rintro ⟨i,h,k⟩
     cases i with
     | zero=>exact .inl (by simpa using h)
     | succ i=>exact .inr ⟨i,by simpa using h,by simpa using k⟩
theorem kj (x y:List Nat):Txt.contains (ae x) (ae y)=subL y x:=by
 have h1:=StrLaws.found_iff (ae x) (ae y)
 have h2:=pN y x
 unfold Txt.contains
 rw [Bool.eq_iff_iff,h1,h2]
 constructor
 · rintro ⟨i,a,b⟩
   rw [StrLaws.subAt_eq] at b
   exact ⟨i,by simpa [ae,Str.length] using b,by simp [ae,Str.length] at a;omega⟩
 · rintro ⟨i,a,b⟩
   have l:((x.drop i).take y.length).length=y.length:=by rw [a]
   rw [List.length_take,List.length_drop] at l
   refine ⟨i,by simp [ae,Str.length];omega,?_⟩
   rw [StrLaws.subAt_eq]
   simpa [ae,Str.length] using a
section
variable {X:Cx}{F:PM}{A:Around}{s:Shared}{a b w:W}{va vb:Value}{z:Bool}
theorem dh {tk:Tok}{v:Value}(h:RW X F v w):gR X F s w v { s with toks:=tk }:= .mk tk h
theorem wa {v:Value}(h:RW X F v w):gR X F s w v s:= .mk s.toks h
theorem dX {c:Bool}:gR X F s (.bool c) (.bool c) s:= .mk s.toks rfl
theorem pO (k:Str) (es:List DictEntry):findBy Value.isStrOf es.toArray k=(es.find? (λ d=>Value.isStrOf k d.key)).map (·.val):=by
 unfold findBy;rw [List.find?_toArray]
noncomputable def Gm (X:Cx) (F:PM):Option Value->Option W->Prop
 | some v,some w=>RW X F v w
 | none,none=>True
 | _,_=>False
theorem ji (k:List Nat): ∀ {l:List (List Nat×W)}{es:List DictEntry},kM X F es l->Gm X F (findBy Value.isStrOf es.toArray (ae k)) (gI k l)
 | [],_,.refl _=>trivial
 | (k',v)::l,_,.mk (v:=e) (vs:=es) ⟨⟨t,hk,_⟩,hv⟩ r=>by
   have ih:=ji k r
   have q:Value.isStrOf (ae k) e.key=(k==k'):=by
     rw [hk]
     exact fM.trans (Bool.eq_iff_iff.mpr (by rw [beq_iff_eq,beq_iff_eq];exact eq_comm))
   rw [pO] at ih ⊢
   rw [List.find?_cons,q]
   show Gm X F _ (match k==k' with | true=>some v | false=>gI k l)
   cases k==k' with
   | true=>exact hv
   | false=>exact ih
theorem sr: ∀ {l:List (List Nat×W)}{es:List DictEntry},kM X F es l-> ∀ e ∈ es,∃ x,eP X e x
 | [],_,.refl _,e,he=>nomatch he
 | _::_,_,.mk a r,e,he=>(List.mem_cons.mp he).elim (λ q=>q▸⟨_,a.1⟩) (sr r e)
theorem kP (prog:Program) {es:List DictEntry}{n:Nat}{l:List (List Nat×W)}{a:Addr}{o:Obj}(e:s.heap.get? a=some o) (hx:o.ExactDict) (hd:o.data= .dict es.toArray n) (h:kM X F es l) :
   s.heap.MapOf (strKind prog X.w) a (λ k=>findBy Value.isStrOf es.toArray k) :=
 ⟨_,es.toArray,n,e,hx,hd,λ e he=>let ⟨x,t,e1,e2⟩:=sr h e (List.mem_toArray.mp he);⟨x,by rw [e1];exact strKind_is prog X.w x t,e2⟩,λ _=>rfl⟩
theorem pP {es:List DictEntry}{l:List (List Nat×W)}(h:kM X F es l) (k:List Nat):(findBy Value.isStrOf es.toArray (ae k)).isSome=(gI k l).isSome:=by
 have:=ji k h
 generalize findBy Value.isStrOf es.toArray (ae k)=p at this
 generalize gI k l=q at this
 cases p<;>cases q<;>first | rfl | exact this.elim
theorem zi {es:List DictEntry}{l:List (List Nat×W)}(h:kM X F es l) {k:List Nat}{w:W}(e:gI k l=some w): ∃ v,findBy Value.isStrOf es.toArray (ae k)=some v/\RW X F v w:=by
 have:=ji k h
 rw [e] at this
 generalize findBy Value.isStrOf es.toArray (ae k)=p at this
 cases p with
 | none=>exact this.elim
 | some v=>exact ⟨v,rfl,this⟩
section
variable {P:Bool->Prop}
theorem rz {o:Option Bool}(h:BG o=some z) (k: ∀ y,o=some y->P (!y)):P z:=by
 cases o with
 | none=>exact nn h
 | some y=>exact sj h▸k y rfl
theorem wb (h:Fj a b=some z) (k:aC 40 a=true->aC 40 b=true->P (gE a b)):P z :=
 oT h λ p h=>sj h▸k (Bool.and_eq_true_iff.mp p).1 (Bool.and_eq_true_iff.mp p).2
theorem wc (h:BH a b=some z) (k1: ∀ x y,a= .str x->b= .str y->P (x==y)) (k2:aC 40 a=true->aC 40 b=true->P (gE a b)):P z :=
 sf h (λ x hx h=>sf h (λ y hy h=>sj h▸k1 x y (da hx) (da hy)) λ _ h=>wb h k2) λ _ h=>wb h k2
theorem su {f:Int->Int->Bool}(h:tP f a b=some z) (k: ∀ x y,a= .int x->b= .int y->P (f x y)):P z :=
 oI h λ x hx h=>oI h λ y hy h=>sj h▸k x y (dm hx) (dm hy)
theorem zj {g:List Nat->List Nat->Bool}(h:yX g a b=some z) (k: ∀ x y,a= .str x->b= .str y->P (g x y)):P z :=
 iP h λ x hx h=>iP h λ y hy h=>sj h▸k x y (da hx) (da hy)
theorem sv {f:Int->Int->Bool}{g:List Nat->List Nat->Bool}(h:tR f g a b=some z) (k: ∀ x y,a= .int x->b= .int y->P (f x y)) (k2: ∀ x y,a= .str x->b= .str y->P (g x y)):P z :=
 I2 h (λ x hx h=>oI h λ y hy h=>sj h▸k x y (dm hx) (dm hy)) λ _ h=>zj h k2
theorem wd (h:FV a b=some z) (k:b= .none->P (u9 a)):P z:=oT h λ p h=>sj h▸k (rj p)
theorem sw {l:List W}(h:tS a l=some z) (k:aS 8 l=true->aC 8 a=true->P (l.any λ y=>gE y a)):P z :=
 oT h λ p h=>sj h▸k (Bool.and_eq_true_iff.mp p).1 (Bool.and_eq_true_iff.mp p).2
theorem we (h:BJ a b=some z) (k1: ∀ x y,a= .str x->b= .str y->P (subL x y)) (k2: ∀ l,b= .tup l->aS 8 l=true->aC 8 a=true->P (l.any λ y=>gE y a)) (k3: ∀ l,b= .lst l->aS 8 l=true->aC 8 a=true->P (l.any λ y=>gE y a))
   (k4: ∀ x l,a= .str x->b= .dct l->P (gI x l).isSome):P z :=
 sf h (λ y hy h=>iP h λ x hx h=>sj h▸k1 x y (da hx) (da hy)) λ _ h =>
   BN h (λ l hl h=>sw h (k2 l (jH hl))) λ _ h=>BN h (λ l hl h=>sw h (k3 l (fS hl))) λ _ h=>oD h λ l hl h=>iP h λ x hx h=>sj h▸k4 x l (da hx) (nU hl)
end
theorem wf {v:Value}{w:W}(h:RW X F v w):(v== .none)=u9 w:=by
 cases w with
 | bool b=>cases h;cases b<;>rfl
 | bi b=>cases h;cases b<;>rfl
 | _=>cases h;rfl
noncomputable abbrev pu (X:Cx) (F:PM) (A:Around) (s:Shared) (op:CmpOp) (va vb:Value) (z:Bool):Prop:=wpAny (model X.prog X.w) A (compareOp op va vb) (gR X F s (.bool z)) (λ _ _=>False) s
theorem jj {x:W}{L:List PyData}(q:aC 8 x=true):min (PyData.depthAll L) (jh x).depth<=8:=Rl (Nat.min_le_right _ _) (gU x 8 q).2
section
variable (hu:A.units+64 < cLine) (k: ∀ a o,F a=some o->s.heap.get? a=some o) (ra:RW X F va a) (rb:RW X F vb b)
include hu k ra rb
theorem CX (h:BH a b=some z):pu X F A s .Eq va vb z:=by
 refine wc (P:=λ z=>pu X F A s .Eq va vb z) h (λ x y ea eb=> ?_) λ p q=> ?_
 · subst ea eb;cases ra;cases rb;exact P.eq_str dX
 · obtain ⟨as,r1⟩:=dP k a 40 ra p
   obtain ⟨bs,r2⟩:=dP k b 40 rb q
   refine eq_dataH r1 r2 (ie (by decide) p) (ie (by decide) q) hu ?_
   rw [n7 a 40 40 b p q];exact dX
theorem CY (h:BH a b=some z):pu X F A s .NotEq va vb (!z):=by
 refine wc (P:=λ z=>pu X F A s .NotEq va vb (!z)) h (λ x y ea eb=> ?_) λ p q=> ?_
 · subst ea eb;cases ra;cases rb;exact P.ne_str dX
 · obtain ⟨as,r1⟩:=dP k a 40 ra p
   obtain ⟨bs,r2⟩:=dP k b 40 rb q
   refine ne_dataH r1 r2 (ie (by decide) p) (ie (by decide) q) hu ?_
   rw [n7 a 40 40 b p q];exact dX
theorem CZ (h:BJ a b=some z):pu X F A s .In va vb z:=by
 refine we (P:=λ z=>pu X F A s .In va vb z) h (λ x y ea eb=> ?_) (λ l eb p q=> ?_) (λ l eb p q=> ?_) λ x l ea eb=> ?_
 · subst ea eb;cases ra;cases rb;refine SB.contains ?_;rw [kj];exact dX
 · subst eb
   cases rb with | mk g1 g2 g3 _ g4=> ?_
   obtain ⟨as,r1⟩:=d7 k l 8 g4 p
   obtain ⟨bs,r2⟩:=dP k a 8 ra q
   refine SeqAt.in_tuple_reads (Reads.tuple (k _ _ g1) g2 g3 r1) r2 (d9 l 8 p).1 (gU a 8 q).1 (by have:=jj (L:=gS l) q;lia) ?_
   rw [lK q p];exact dX
 · subst eb
   cases rb with | mk g1 g2 g3 _ g4=> ?_
   obtain ⟨as,r1⟩:=d7 k l 8 g4 p
   obtain ⟨bs,r2⟩:=dP k a 8 ra q
   refine SeqAt.in_list_reads (Reads.list (k _ _ g1) g2 g3 r1) r2 (d9 l 8 p).1 (gU a 8 q).1 (by have:=jj (L:=gS l) q;lia) ?_
   rw [lK q p];exact dX
 · subst ea eb
   cases ra
   cases rb with | mk g1 x1 x2 g2 g3=> ?_
   refine wpAny_in_of (strKind_is X.prog X.w _ _) g2 (kP X.prog (k _ _ g1) x1 x2 g3) ?_
   rw [pP g3];exact dh rfl
theorem C0 (h:BJ a b=some z):pu X F A s .NotIn va vb (!z):=by
 refine we (P:=λ z=>pu X F A s .NotIn va vb (!z)) h (λ x y ea eb=> ?_) (λ l eb p q=> ?_) (λ l eb p q=> ?_) λ x l ea eb=> ?_
 · subst ea eb;cases ra;cases rb;refine SB.notContains ?_;rw [kj];exact dX
 · subst eb
   cases rb with | mk g1 g2 g3 _ g4=> ?_
   obtain ⟨as,r1⟩:=d7 k l 8 g4 p
   obtain ⟨bs,r2⟩:=dP k a 8 ra q
   refine SeqAt.notIn_tuple_reads (Reads.tuple (k _ _ g1) g2 g3 r1) r2 (d9 l 8 p).1 (gU a 8 q).1 (by have:=jj (L:=gS l) q;lia) ?_
   rw [lK q p];exact dX
 · subst eb
   cases rb with | mk g1 g2 g3 _ g4=> ?_
   obtain ⟨as,r1⟩:=d7 k l 8 g4 p
   obtain ⟨bs,r2⟩:=dP k a 8 ra q
   refine SeqAt.notIn_list_reads (Reads.list (k _ _ g1) g2 g3 r1) r2 (d9 l 8 p).1 (gU a 8 q).1 (by have:=jj (L:=gS l) q;lia) ?_
   rw [lK q p];exact dX
 · subst ea eb
   cases ra
   cases rb with | mk g1 x1 x2 g2 g3=> ?_
   refine wpAny_notIn_of (strKind_is X.prog X.w _ _) g2 (kP X.prog (k _ _ g1) x1 x2 g3) ?_
   rw [pP g3];exact dh rfl
theorem gV {op:CmpOp}(h:gJ op a b=some z):pu X F A s op va vb z:=by
 cases op with
 | Eq=>exact CX hu k ra rb h
 | NotEq=>exact rz (P:=λ z=>pu X F A s .NotEq va vb z) h λ y h=>CY hu k ra rb h
 | Lt=>exact sv (P:=λ z=>pu X F A s .Lt va vb z) h (λ x y ea eb=>by subst ea eb;cases ra;cases rb;exact P.lt_int dX) λ x y ea eb=>by subst ea eb;cases ra;cases rb;refine P.lt_str ?_;rw [ry];exact dX
 | LtE=>exact sv (P:=λ z=>pu X F A s .LtE va vb z) h (λ x y ea eb=>by subst ea eb;cases ra;cases rb;exact P.le_int dX) λ x y ea eb=>by subst ea eb;cases ra;cases rb;refine P.le_str ?_;rw [ry];exact dX
 | Gt=>exact su (P:=λ z=>pu X F A s .Gt va vb z) h λ x y ea eb=>by subst ea eb;cases ra;cases rb;exact P.gt_int dX
 | GtE=>exact su (P:=λ z=>pu X F A s .GtE va vb z) h λ x y ea eb=>by subst ea eb;cases ra;cases rb;exact P.ge_int dX
 | Is=>exact wd (P:=λ z=>pu X F A s .Is va vb z) h λ eb=>by subst eb;cases rb;refine is_none ?_;rw [wf ra];exact dX
 | IsNot=>exact rz (P:=λ z=>pu X F A s .IsNot va vb z) h λ y h=>wd (P:=λ z=>pu X F A s .IsNot va vb (!z)) h λ eb=>by subst eb;cases rb;refine isNot_none ?_;rw [wf ra];exact dX
 | In=>exact CZ hu k ra rb h
 | NotIn=>exact rz (P:=λ z=>pu X F A s .NotIn va vb z) h λ y h=>C0 hu k ra rb h
end
theorem bZ {n:Nat}(h:n<=cw):n<=sizeLine:=by rw [sizeLine_eq];exact h
theorem ge (x y:List Nat):ae x++ae y=ae (x++y):=Str.ext' ((Str.cps_append ..).trans (List.append_toArray x y))
theorem rA {y:Int}(hl:y.natAbs<=2000000):Builtin.Int.intBits y<=64:=by
 unfold Builtin.Int.intBits
 split
 · decide
 · rename_i ne
   have:y.natAbs.log2 < 63:=(Nat.log2_lt (by simpa using ne)).mpr (Rt hl (by decide))
   lia
noncomputable abbrev t8 (X:Cx) (F:PM) (A:Around) (s:Shared) (op:Operator) (va vb:Value) (z:W):Prop:=wpAny (model X.prog X.w) A (binaryOp op va vb) (gR X F s z) (λ _ _=>False) s
section
variable {x y:Int}
theorem wg (h:yZ x y=some w) (ra:RW X F va (.int x)) (rb:RW X F vb (.int y)):t8 X F A s .Mult va vb w:=by
 refine oT h λ p h=>sR (P:=λ w=>t8 X F A s .Mult va vb w) h ?_
 cases ra;cases rb
 exact P.mul_int (dh (.int _ _)) (IntMulOk.of_right (rA (Rm p)))
theorem pQ {y:Int}(p:(Nat.ble y.natAbs 1000&&Nat.blt 0 y.natAbs)=true):y≠0/\y.natAbs.log2 < 63:=by
 obtain ⟨p1,p2⟩:=Bool.and_eq_true_iff.mp p
 have h2:0 < y.natAbs:=Rm p2
 exact ⟨Int.natAbs_pos.mp h2,(Nat.log2_lt (Nat.ne_of_gt h2)).mpr (Rt (Rm p1) (by decide))⟩
theorem ua {x y:Int}(this:y.natAbs.log2 < 63):Builtin.divisionGoesByPylong x y=false:=by
 unfold Builtin.divisionGoesByPylong
 simp only [Bool.and_eq_false_iff,decide_eq_false_iff_not]
 left
 split<;>lia
theorem ub (h:CE x y=some w) (ra:RW X F va (.int x)) (rb:RW X F vb (.int y)):t8 X F A s .FloorDiv va vb w:=by
 refine oT h λ p h=>sR (P:=λ w=>t8 X F A s .FloorDiv va vb w) h ?_
 cases ra;cases rb
 exact floordiv_int (pQ p).1 (dh (.int _ _)) (.inl (ua (pQ p).2))
theorem wh (h:y0 x y=some w) (ra:RW X F va (.int x)) (rb:RW X F vb (.int y)):t8 X F A s .Mod va vb w:=by
 refine oT h λ p h=>sR (P:=λ w=>t8 X F A s .Mod va vb w) h ?_
 cases ra;cases rb
 exact mod_int' (Int.natAbs_pos.mp (Rm p)) (dh (.int _ _))
theorem wi {x y:Int}(h1:0<=y) (h2:Builtin.Int.intBits x * y.toNat<=134217728):(Builtin.Int.intBits x:Int) * y<=2 ^ 27:=by
 obtain ⟨k,rfl⟩: ∃ k:Nat,y=(k:Int):=⟨y.toNat,(Int.toNat_of_nonneg h1).symm⟩
 rw [Int.toNat_natCast] at h2
 have e:(2:Int) ^ 27=((134217728:Nat):Int):=by decide +kernel
 rw [e,<- Int.natCast_mul]
 exact Int.ofNat_le.mpr h2
theorem wj (h:vy x y=some w) (ra:RW X F va (.int x)) (rb:RW X F vb (.int y)):t8 X F A s .Pow va vb w:=by
 refine oT h λ p h=>sR (P:=λ w=>t8 X F A s .Pow va vb w) h ?_
 obtain ⟨p1,p2⟩:=Bool.and_eq_true_iff.mp p
 cases ra;cases rb
 exact pow_int (of_decide_eq_true p1) (wi (of_decide_eq_true p1) (Rm p2)) (dh (.int _ _))
theorem wk (h:yY a b=some w) (ra:RW X F va a) (rb:RW X F vb b):t8 X F A s .Add va vb w:=by
 refine iP h λ x hx h=>iP h λ y hy h=>oT h λ p h=>sR (P:=λ w=>t8 X F A s .Add va vb w) h ?_
 have hx:=da hx
 have hy:=da hy
 subst hx hy
 have hl:=Rm p
 cases ra;cases rb
 refine SB.add (λ t' k'=> ?_) (bZ hl)
 rw [ge]
 exact dh (.str _ _ (Rl (Nat.le_of_eq List.length_append) hl))
end
theorem jk {f:Int->Int->Option W}(h:kG f a b=some w) {P:Prop}(k: ∀ x y,a= .int x->b= .int y->f x y=some w->P):P :=
 oI h λ x hx h=>oI h λ y hy h=>k x y (dm hx) (dm hy) h
theorem pR {op:Operator}(h:iL op a b=some w) (ra:RW X F va a) (rb:RW X F vb b):t8 X F A s op va vb w:=by
 cases op with
 | Add =>
   refine I2 h (λ x hx h=>oI h λ y hy h=>sR (P:=λ w=>t8 X F A s .Add va vb w) h ?_) λ _ h=>wk h ra rb
   have hx:=dm hx
   have hy:=dm hy
   subst hx hy;cases ra;cases rb;exact P.add_int (dh (.int _ _))
 | Sub =>
   refine jk h λ x y hx hy h=>sR (P:=λ w=>t8 X F A s .Sub va vb w) h ?_
   subst hx hy;cases ra;cases rb;exact P.sub_int (dh (.int _ _))
 | Mult=>exact jk h λ x y hx hy h=>wg h (hx▸ra) (hy▸rb)
 | FloorDiv=>exact jk h λ x y hx hy h=>ub h (hx▸ra) (hy▸rb)
 | Mod=>exact jk h λ x y hx hy h=>wh h (hx▸ra) (hy▸rb)
 | Pow=>exact jk h λ x y hx hy h=>wj h (hx▸ra) (hy▸rb)
 | _=>exact nn h
end
theorem iU {i:Int}{n k:Nat}(h:fe i n=some k) {P:Int->Nat->Prop}(k1: ∀ j,j < n->P (Int.ofNat j) j) (k2: ∀ j,j+1<=n->P (Int.negSucc j) (n - (j+1))):P i k:=by
 cases i with
 | ofNat j=>exact oT h λ p h=>sR (P:=P (Int.ofNat j)) h (k1 j (Rm p))
 | negSucc j=>exact oT h λ p h=>sR (P:=P (Int.negSucc j)) h (k2 j (Rm p))
theorem wl {i j:Int}{n:Nat}(e:(if i < 0 then i+n else i)=j) (h0:0<=j) (h1:j < n):seqIndex? i n=some j.toNat :=
 (congrArg (λ j:Int=>if (decide (0<=j)&&decide (j < (n:Int)))=true then some j.toNat else none) e).trans (if_pos (by rw [decide_eq_true h0,decide_eq_true h1];rfl))
theorem km {i:Int}{n k:Nat}(h:fe i n=some k):seqIndex? i n=some k/\k < n :=
 iU h (P:=λ i k=>seqIndex? i n=some k/\k < n) (λ j l=>⟨wl (if_neg (Int.not_lt.mpr (Int.natCast_nonneg j))) (Int.natCast_nonneg j) (Int.ofNat_lt.mpr l),l⟩) λ j l =>
   have lt:=Nat.sub_lt (Nat.lt_of_lt_of_le (Nat.succ_pos j) l) (Nat.succ_pos j)
   ⟨wl (j:=((n - (j+1):Nat):Int)) ((if_pos (Int.negSucc_lt_zero j)).trans (by omega)) (Int.natCast_nonneg _) (Int.ofNat_lt.mpr lt),lt⟩
theorem gW {i:Int}{n k:Nat}(h:fe i n=some k) (hn:n<=cw): -(2 ^ 63)<=i/\i < 2 ^ 63:=by
 have hn:n<=16777216:=hn
 refine iU h (P:=λ i k=> -(2 ^ 63)<=i/\i < 2 ^ 63) (λ j l=> ?_) λ j l=> ?_
 · clear h;constructor<;>(simp only [Int.ofNat_eq_natCast];omega)
 · clear h;constructor<;>omega
theorem oi {α:Type}(l:List α) (a b:Nat):(l.drop (min a l.length)).take (min b l.length - min a l.length)=eG l a b:=by
 unfold eG
 rw [List.drop_take]
 rcases Nat.le_total a l.length with h | h
 · rw [Nat.min_eq_left h]
   rcases Nat.le_total b l.length with k | k
   · rw [Nat.min_eq_left k]
   · rw [Nat.min_eq_right k,List.take_of_length_le (by simp),List.take_of_length_le (by simp;omega)]
 · rw [Nat.min_eq_right h,List.drop_of_length_le (Nat.le_refl _),List.drop_of_length_le h];simp
theorem sx {α:Type}{l:List α}{a b:Nat}(h:min b l.length - min a l.length=l.length):eG l a b=l:=by
 have hy:min a l.length<=l.length:=Nat.min_le_right ..
 have hn:l.length<=l.length - min a l.length:=Rl (Nat.le_of_eq h.symm) (Nat.sub_le_sub_right (Nat.min_le_right ..) _)
 rw [<- oi,h,Nat.le_zero.mp (Nat.le_of_add_le_add_left ((Nat.le_sub_iff_add_le hy).mp hn)),List.drop_zero,List.take_length]
inductive sy (d:Nat):Option (Int×Tok)->Nat->Prop
 | none:sy d none d
 | some (n:Nat) (t:Tok):sy d (some ((n:Int),t)) n
inductive C1 (d n:Nat):Value->Prop
 | mk (p:Option (Int×Tok)):IsPart (partValue p) (p.map (·.1))->sy d p n->C1 d n (partValue p)
theorem jM {X:Cx}{F:PM}{v:Value}{w:W}{d n:Nat}(h:RW X F v w) (e:mU w d=some n):C1 d n v:=by
 unfold mU at e
 cases q:u9 w with
 | true =>
   rw [q] at e
   cases rj q
   cases h
   exact sR (P:=λ n=>C1 d n .none) e (.mk none .none .none)
 | false =>
   rw [q] at e
   cases ll e
   cases h with | mk t=>exact .mk (some ((n:Int),t)) (.int _ _) (.some n t)
theorem jm {p:Option (Int×Tok)}{d n m:Nat}(hd:d<=m) (h:sy d p n):(p.map (·.1)).elim d (clipAt m)=min n m:=by
 cases h with
 | none=>exact (Nat.min_eq_left hd).symm
 | some n t=>exact clipAt_nat ..
theorem Gn (l:List Value) {pa pb:Option (Int×Tok)}{a b:Nat}(ha:sy 0 pa a) (hb:sy l.length pb b) :
   slicePick l.toArray (pa.map (·.1)) (pb.map (·.1)) none=(eG l a b).toArray:=by
 rw [slicePick_plain,List.size_toArray,jm (Nat.zero_le _) ha,jm (Nat.le_refl _) hb,oi]
theorem Go (x:List Nat) {pa pb:Option (Int×Tok)}{a b:Nat}(ha:sy 0 pa a) (hb:sy x.length pb b) :
   Txt.slice (ae x) (pa.map (·.1)) (pb.map (·.1))=ae (eG x a b):=by
 have e:Builtin.Str.strSliceIndices (pa.map (·.1)) (pb.map (·.1)) 1 x.length=(List.range (min b x.length - min a x.length)).map (min a x.length+ ·):=by
   have h1:=sliceBounds_plain (pa.map (·.1)) (pb.map (·.1)) x.length
   have h2:Builtin.Str.strSliceIndices (pa.map (·.1)) (pb.map (·.1)) 1 x.length=sliceRange (sliceBounds (pa.map (·.1)) (pb.map (·.1)) none x.length).1 (sliceBounds (pa.map (·.1)) (pb.map (·.1)) none x.length).2.1 1:=rfl
   rw [h2,h1,jm (Nat.zero_le _) ha,jm (Nat.le_refl _) hb]
   exact sliceRange_one _ _
 have len:(ae x).length=x.length:=rfl
 have e2:((Builtin.Str.strSliceIndices (pa.map (·.1)) (pb.map (·.1)) 1 x.length).filterMap ((ae x).cps[·]?))=eG x a b:=by
   rw [e,pick_run (ae x).cps]
   exact oi x a b
 unfold Txt.slice
 rw [len]
 split
 · rename_i h
   have h':(Builtin.Str.strSliceIndices (pa.map (·.1)) (pb.map (·.1)) 1 x.length).length=x.length:=by simpa using h
   rw [e] at h'
   simp only [List.length_map,List.length_range] at h'
   rw [sx h']
 · rw [e2];rfl
section
variable {prog:Program}{w:World}{A:Around}{E:Value->Shared->Prop}{s:Shared}
theorem jn {v:Value}{k:Option Int}{Q:Option Int->Shared->Prop}(hv:IsPart v k) (h:Q k s):wpAny (model prog w) A (Builtin.Slice.slicePartIndex v) Q E s:=by
 cases hv with
 | none=>exact slicePart_none h
 | int i t=>exact slicePart_int h
theorem BV (k n:Nat):(if (k:Int) < 0 then max ((k:Int)+n) 0 else min (k:Int) n)=((min k n:Nat):Int):=(if_neg (Int.not_lt.mpr (Int.natCast_nonneg k))).trans (by omega)
theorem uc {pa pb:Option (Int×Tok)}{a b n:Nat}(ha:sy 0 pa a) (hb:sy n pb b) :
   Builtin.Slice.sliceAdjust (pa.map (·.1)) (pb.map (·.1)) 1 (n:Int)=(((min a n:Nat):Int),((min b n:Nat):Int)):=by
 refine Prod.ext ?_ ?_
 · cases ha with
   | none=>exact congrArg Int.ofNat (Nat.zero_min n).symm
   | some a t=>exact BV a n
 · cases hb with
   | none=>exact congrArg Int.ofNat (Nat.min_self _).symm
   | some b t=>exact BV b n
theorem ud (a b:Nat):Builtin.Slice.slicePlaces (a:Int) (b:Int) 1=b - a:=by
 unfold Builtin.Slice.slicePlaces
 rw [if_pos (by decide),Int.ediv_one]
 by_cases h:(a:Int) < b
 · rw [if_pos h,Int.sub_add_cancel];exact Int.toNat_sub b a
 · rw [if_neg h];exact (Nat.sub_eq_zero_of_le (Int.ofNat_le.mp (Int.not_lt.mp h))).symm
theorem kI {sl:Addr}{va vb:Value}{pa pb:Option (Int×Tok)}{a b n:Nat}{Q:Int×Int×Nat->Shared->Prop}(hs:s.heap.IsSliceOf sl va vb .none) (ia:IsPart va (pa.map (·.1))) (ib:IsPart vb (pb.map (·.1)))
   (ha:sy 0 pa a) (hb:sy n pb b) (h:Q (((min a n:Nat):Int),1,min b n - min a n) s) :
   wpAny (model prog w) A (Builtin.Slice.sliceApplied (.ref sl) (pure (n:Int))) Q E s:=by
 obtain ⟨os,hos,hcs,hds⟩:=id hs
 unfold Builtin.Slice.sliceApplied Builtin.Slice.sliceFields
 refine Rn (Rn (wpAny_field hos hds (x:=va) rfl (Rn (wpAny_field hos hds (x:=vb) rfl (Rn (wpAny_field hos hds (x:= .none) rfl (Rs ?_)))))))
 refine Rn (slicePart_none ?_)
 show wpAny _ _ (if ((1:Int)==0)=true then _ else _) _ _ s
 rw [if_neg (by decide)]
 refine Rn (jn ia (Rn (jn ib (Rn (Rs ?_)))))
 show wpAny _ _ (match Builtin.Slice.sliceAdjust (pa.map (·.1)) (pb.map (·.1)) 1 (n:Int) with | (lo,hi)=>pure (lo,(1:Int),Builtin.Slice.slicePlaces lo hi 1)) _ _ s
 rw [uc ha hb]
 show wpAny _ _ (pure (_,(1:Int),Builtin.Slice.slicePlaces _ _ 1)) _ _ s
 rw [ud]
 exact Rs h
theorem kQ {α:Type}(l:List α) (a b:Nat):(eG l a b).length<=l.length:=by
 unfold eG;rw [List.length_drop,List.length_take];exact Rl (Nat.sub_le ..) (Nat.min_le_right ..)
theorem pS (l:List Value) (m k:Nat):((List.range k).filterMap λ (k:Nat)=>l.toArray[(((m:Int))+(k:Int) * 1).toNat]?)=(l.drop m).take k:=by
 have e:(λ (k:Nat)=>l.toArray[(((m:Int))+(k:Int) * 1).toNat]?)=(λ x=>l.toArray[x]?)∘λ x=>m+x:=by
   funext k
   show l.toArray[(((m:Int))+(k:Int) * 1).toNat]?=l.toArray[m+k]?
   rw [Int.mul_one];rfl
 rw [e,<- List.filterMap_map]
 exact pick_run l.toArray m k
theorem ue {l:List Value}{a b:Nat}(hc:(((min a l.length:Nat):Int)==0&&(1:Int)==1&&(min b l.length - min a l.length)==l.length)=true):eG l a b=l:=by
 simp only [Bool.and_eq_true,beq_iff_eq] at hc
 exact sx hc.2
theorem iz {t sl:Addr}{l:List Value}{va vb:Value}{pa pb:Option (Int×Tok)}{a b:Nat}{Q:Value->Shared->Prop}(ht:IsTup s.heap t l.toArray) (hs:s.heap.IsSliceOf sl va vb .none)
   (ia:IsPart va (pa.map (·.1))) (ib:IsPart vb (pb.map (·.1))) (ha:sy 0 pa a) (hb:sy l.length pb b)
   (h:Q (.ref s.heap.objs.size) { s with heap:=s.heap.push { cls:= .type "tuple",data:= .seq (eG l a b).toArray } }) (h0:eG l a b=l->Q (.ref t) s)
   (hsz:l.length<=sizeLine):wpAny (model prog w) A (getItem (.ref t) (.ref sl)) Q E s:=by
 have hcut:sizeOk (.seq (eG l a b).toArray):=Rl (kQ l a b) hsz
 have hTs:s.TypeIs (.ref sl) "slice" := let ⟨os,hos,hcs,_⟩:=hs;⟨os,hos,hcs⟩
 unfold getItem
 try with_reducible refine wpAny_holding ?_
 first | refine Rn (Rs ?_) | skip
 refine Rn (wpAny_sequenceKey ht.typeIs (by decide) ?_)
 refine Rn (wpAny_callSpecial?_slot (name:=Str.ofString "__getitem__") ht.typeIs slot_tuple_getitem
   (wpAny_call_entry slot_tuple_getitem ht.typeIs entry_tuple_getitem ?_ (args_tuple_getitem _ _)))
 show wpAny _ _ (Builtin.Tuple.tupleItemsOf (.ref t) >>= _) _ _ s
 refine Rn (tupleItemsOf_ ht (Rn (wpAny_typeOf hTs ?_)))
 rw [if_pos (by decide)]
 refine Rn (kI (n:=l.length) hs ia ib ha hb ?_)
 show wpAny _ _ (if (((min a l.length:Nat):Int)==0&&(1:Int)==1&&(min b l.length - min a l.length)==l.length)=true then _ else _) _ _ s
 split
 · rename_i hc
   refine Rn (m:=Builtin.Tuple.tupleIsExact _) ?_
   unfold Builtin.Tuple.tupleIsExact
   refine Rn (wpAny_typeOf ht.typeIs (Rs ?_))
   rw [if_pos (by decide)]
   exact Rn (wpAny_rule (Rs ⟨_,rfl,Rs (h0 (ue hc))⟩))
 · rw [pS,oi]
   first
     | exact Rn (m:=Builtin.Tuple.tupleExact _) (wpAny_newObj_type (Rs ⟨_,rfl,Rs h⟩) hcut)
     | exact Rn (m:=Builtin.Tuple.tupleExact _) (wpAny_newObj_type (Rn (Rs (Rs ⟨_,rfl,Rs h⟩))) hcut)
     | exact Rn (Rn (m:=Builtin.Tuple.tupleExact _) (wpAny_newObj_type (Rs (Rs ⟨_,rfl,Rs h⟩)) hcut))
     | exact Rn (Rn (m:=Builtin.Tuple.tupleExact _) (wpAny_newObj_type (Rs ⟨_,rfl,Rs h⟩) hcut))
end
section
variable {X:Cx}{LP:bu}{F F':PM}{r r':PS}{R:List aK}{env:Env}{mm:Str->Option Value}{nm:List Str}{sc:Sc}{cd:Option (Addr×Str)}{lc lc1 lc2 lc3:List (Option V)}{sl sl1 sl2 sl3:ab}{d:Nat}{h h':Heap}
inductive ni (X:Cx) (F:PM) (h:Heap):Value->W->Prop
 | mk {a:Addr} {vs:List Value} {l:List W}:vs.length<=cw->h.IsList a vs.toArray->cF X F vs l->ni X F h (.ref a) (.lst l)
noncomputable def zk (X:Cx) (F:PM) (h:Heap) (v:Value) (w:W):Prop:=RW X F v w\/ni X F h v w
theorem HC.listAt {s:ab}{x:Addr}{k:Sl}{l:List W}(H:HC X LP F r s R h) (hx:r k=some x) (e:s.get k= .list l):ni X F h (.ref x) (.lst l) :=
 H.slot k λ T Z t z _=>by
   rw [e,hx] at t
   cases t with | @mk _ vs a b=> ?_
   obtain ⟨o,g,n,rfl⟩:=z.mem (a:=x) (P:=aD vs) (Rz _ List.mem_cons_self)
   exact .mk a ⟨_,g,rfl,n,rfl⟩ b
theorem zl {v:Value}{V:V}{w:W}(H:HS X LP F r env mm nm lc sl R h) (t:RV X LP F r v (frz V)) (e:tU sl V=some w):zk X F h v w:=by
 cases V with
 | w w'=>exact .inl (sj e▸t)
 | own l=>exact .inl (sj e▸t)
 | hds l=>exact nn e
 | clo _ _=>exact nn e
 | slot k =>
   cases t with | mk hx=> ?_
   refine oL e λ l hl e=> ?_
   cases H with | mk U v b=>exact .inr (sj e▸b.listAt hx (hZ hl))
theorem wm {v:Value}{l:List W}(k: ∀ a o,F a=some o->h.get? a=some o) (H:zk X F h v (.lst l)):ni X F h v (.lst l) :=
 H.elim (λ H=>by cases H with | mk a b c d e=>exact .mk d ⟨_,k _ _ a,b,_,c⟩ e) id
theorem wn {v:Value}{w:W}(H:zk X F h v w) (n: ∀ l,w≠ .lst l):RW X F v w:=H.elim id λ H=>by cases H with | mk=>exact absurd rfl (n _)
theorem ig {slice:Expr}(hs:dO slice=true) (o i:Value):subscripted slice false o i=operate [o,i] (getItem o i):=by
 cases slice<;>first | rfl | exact ff hs
noncomputable def bG (X:Cx) (LP:bu) (d:Nat) (env:Env) (nm:List Str) (x:Expr) (lc:List (Option V)) (sl:ab) (w:W) (lc':List (Option V)) (sl':ab):Prop :=
 ∀ (mm:Str->Option Value) (A:Around) (F:PM) (r:PS) (R:List aK) (s:Shared),dG A d s->HS X LP F r env mm nm lc sl R s.heap ->
   wpAny (model X.prog X.w) A (eval x env) (Fm X LP F r R s env mm nm (.w w) lc' sl') (λ _ _=>False) s
theorem bG.of {x:Expr}{Vo:V}{w:W}(e:mV Vo=some w) (h:bp X LP d env nm x lc sl Vo lc1 sl1):bG X LP d env nm x lc sl w lc1 sl1 :=
 λ mm A F r R s hA H=>Ro (h mm A F r R s hA H) (λ v s' y=>vV e▸y.frz) λ _ _ z=>z
theorem cz {x:Expr}{w:W}{A:Around}{s:Shared}{Q:Value->Shared->Prop}(h:bG X LP d env nm x lc sl w lc1 sl1) (hA:dG A d s) (H:HS X LP F r env mm nm lc sl R s.heap)
   (k: ∀ v s' F' r',F.le F'->r.le r'->HS X LP F' r' env mm nm lc1 sl1 R s'.heap->RW X F' v w->Sm s s'->dG A d s'->Q v s'):wpAny (model X.prog X.w) A (eval x env) Q (λ _ _=>False) s :=
 Ro (a8 (h _ A F r R s hA H)) (λ v s' y=>by cases y.1 with | mk F1 r1 l q H1 t m=>exact k v s' F1 r1 l q H1 t m (hA.up y.2)) λ _ _ z=>z
theorem lL {x y:Expr}{a b:W}{A:Around}{s:Shared}{Q:Value->Value->Shared->Prop}(h1:bG X LP d env nm x lc sl a lc1 sl1) (h2:bG X LP d env nm y lc1 sl1 b lc2 sl2) (hA:dG A d s) (H:HS X LP F r env mm nm lc sl R s.heap)
   (k: ∀ u v s' F' r',F.le F'->r.le r'->HS X LP F' r' env mm nm lc2 sl2 R s'.heap->RW X F' u a->RW X F' v b->Sm s s'->dG A d s'->Q u v s') :
   wpAny (model X.prog X.w) A (eval x env) (λ u=>wpAny (model X.prog X.w) A (eval y env) (Q u) (λ _ _=>False)) (λ _ _=>False) s :=
 cz h1 hA H λ u s1 F1 r1 l1 q1 H1 t1 m1 hA=>cz h2 hA H1 λ v s2 F2 r2 l2 q2 H2 t2 m2 hA=>k u v s2 F2 r2 (l1.trans l2) (q1.trans q2) H2 (t1.mono l2) t2 (m1.trans m2) hA
noncomputable abbrev Gp (X:Cx) (F:PM) (A:Around) (s:Shared) (value slice:Expr) (vo vi:Value) (z:W):Prop:=wpAny (model X.prog X.w) A (subscriptTail value slice vo vi) (gR X F s z) (λ _ _=>False) s
section
variable {A:Around}{s:Shared}{value slice:Expr}{vo vi:Value}{z:W}{i:Int}(hs:dO slice=true) (k: ∀ a o,F a=some o->s.heap.get? a=some o) (ri:RW X F vi (.int i))
include hs ri
theorem zm {x:List Nat}(ro:RW X F vo (.str x)) (e:IX x i=some z):Gp X F A s value slice vo vi z:=by
 refine oN e λ n p e=>oN e λ c q e=>sR (P:=λ z=>Gp X F A s value slice vo vi z) e ?_
 cases ro with | mk t hx=> ?_
 cases ri with | mk u=> ?_
 have fit:=gW p hx
 refine tail_any (typeIs_str s _ _) slot_str_getitem.lookup (getItem_str (c:=c) ?_ ?_ (dh (.str [c] _ (by show 1<=cw;decide)))) (ig hs _ _)
 · simp only [Bool.or_eq_false_iff,decide_eq_false_iff_not];exact ⟨Int.not_lt.mpr fit.1,Int.not_lt.mpr (Int.le_sub_one_of_lt fit.2)⟩
 · rw [show (ae x).length=x.length from rfl,(km p).1]
   show x.toArray[n]?=some c
   rw [List.getElem?_toArray];exact q
include k
theorem zn {l:List W}(ro:RW X F vo (.tup l)) (e:CG l i=some z):Gp X F A s value slice vo vi z:=by
 refine oN e λ n p e=> ?_
 cases ro with | mk a b c hl f=> ?_
 cases ri with | mk u=> ?_
 obtain ⟨v,hv,t⟩:=f.nth e
 have fit:=gW p (f.length▸hl)
 exact item_tupleT ⟨_,k _ _ a,b,_,c⟩ fit.1 fit.2 (by rw [f.length];exact (km p).1) hv (wa t) (ig hs _ _)
omit hs k ri in
theorem C2 {j n:Nat}(h:j+1<=n):(Int.negSucc j+(n:Int)).toNat=n - (j+1):=by
 rw [show Int.negSucc j+(n:Int)=((n - (j+1):Nat):Int) from Int.subNatNat_of_le h,Int.toNat_natCast]
theorem zo {l:List W}(ro:ni X F s.heap vo (.lst l)) (e:CG l i=some z):Gp X F A s value slice vo vi z:=by
 refine oN e λ n p e=> ?_
 cases ro with | @mk a vs _ hl g f=> ?_
 cases ri with | mk u=> ?_
 obtain ⟨v,hv,t⟩:=f.nth e
 have fit:=gW p (f.length▸hl)
 have len:=f.length
 refine tail_any g.typeIs slot_list_getitem.lookup ?_ (ig hs _ _)
 revert hv
 revert fit
 refine iU p (P:=λ i n=>(-(2 ^ 63)<=i/\i < 2 ^ 63)->vs[n]?=some v->wpAny (model X.prog X.w) A (getItem (.ref a) (.int i u)) (gR X F s z) (λ _ _=>False) s) (λ j _ fit hv=> ?_) λ j jl fit hv=> ?_
 · exact wpAny_getItem_list g (Int.natCast_nonneg _) fit.2 (by simpa using hv) (wa t)
 · have e1:(Int.negSucc j+(vs.toArray.size:Int)).toNat=l.length - (j+1):=by rw [List.size_toArray,len];exact C2 jl
   refine wpAny_getItem_list_neg g (Int.negSucc_lt_zero j) ?_ fit.1 ?_ (wa t)
   · rw [List.size_toArray,len];exact Int.neg_le_neg (Int.ofNat_le.mpr jl)
   · rw [e1];simpa using hv
end
theorem wo {A:Around}{s:Shared}{value slice:Expr}{vo vi:Value}{o i z:W}(hs:dO slice=true) (k: ∀ a o,F a=some o->s.heap.get? a=some o) (ro:zk X F s.heap vo o) (ri:RW X F vi i) (e:dz o i=some z):Gp X F A s value slice vo vi z:=by
 refine I2 e (λ j hj e=> ?_) λ _ e=>iP e λ key hk e=>oD e λ l hl e=> ?_
 · have ri:=dm hj▸ri
   cases o with
   | str x=>exact zm hs ri (wn ro nofun) e
   | tup l=>exact zn hs k ri (wn ro nofun) e
   | lst l=>exact zo hs k ri (wm k ro) e
   | _=>exact nn e
 · have hl:=nU hl
   have hk:=da hk
   subst hl hk
   cases wn ro nofun with | mk a x1 x2 b c=> ?_
   cases ri with | mk t _=> ?_
   obtain ⟨v,hv,t⟩:=zi c e
   have g:=kP (X:=X) X.prog (k _ _ a) x1 x2 c
   exact tail_any g.typeIs slot_dict_getitem.lookup (wpAny_getItem_of (strKind_is X.prog X.w _ _) g hv (dh t)) (ig hs _ _)
theorem C3 {xo xi:Expr}{p:Pos}{V:V}{x y z:W}(h1:bp X LP d env nm xo lc sl V lc1 sl1) (h2:bG X LP d env nm xi lc1 sl1 y lc2 sl2) (hs:dO xi=true) (e1:tU sl2 V=some x) (e2:dz x y=some z) :
   bp X LP d env nm (.Subscript xo xi p) lc sl (.w z) lc2 sl2:=λ mm A F r R s hA H =>
 Subscript_ (cG h1 hA H λ o s1 F1 r1 l1 q1 H1 t1 m1 hA=>cz h2 hA H1 λ i s2 F2 r2 l2 q2 H2 t2 m2 hA =>
   Ro (wo hs H2.fro (zl H2 (t1.mono l2 q2) e1) t2 e2) (λ v s3 y=>ic y (l1.trans l2) (q1.trans q2) H2 (m1.trans m2)) λ _ _ z=>z)
noncomputable def oj (X:Cx) (LP:bu) (d:Nat) (env:Env) (nm:List Str) (x:Option Expr) (lc:List (Option V)) (sl:ab) (w:W) (lc':List (Option V)) (sl':ab):Prop :=
 ∀ (mm:Str->Option Value) (A:Around) (F:PM) (r:PS) (R:List aK) (s:Shared),dG A d s->HS X LP F r env mm nm lc sl R s.heap ->
   wpAny (model X.prog X.w) A (evalPart x env) (Fm X LP F r R s env mm nm (.w w) lc' sl') (λ _ _=>False) s
theorem zp:oj X LP d env nm none lc sl .none lc sl:=λ mm A F r R s hA H=>Rs ⟨F,r,.refl _,.refl _,H,.w .none,.refl _⟩
theorem zq {x:Expr}{w:W}(h:bG X LP d env nm x lc sl w lc1 sl1):oj X LP d env nm (some x) lc sl w lc1 sl1:=h
theorem sA {x:Option Expr}{w:W}{A:Around}{s:Shared}{Q:Value->Shared->Prop}(h:oj X LP d env nm x lc sl w lc1 sl1) (hA:dG A d s) (H:HS X LP F r env mm nm lc sl R s.heap)
   (k: ∀ v s' F' r',F.le F'->r.le r'->HS X LP F' r' env mm nm lc1 sl1 R s'.heap->RW X F' v w->Sm s s'->dG A d s'->Q v s'):wpAny (model X.prog X.w) A (evalPart x env) Q (λ _ _=>False) s :=
 Ro (a8 (h mm A F r R s hA H)) (λ v s' y=>by cases y.1 with | mk F1 r1 l q H1 t m=>exact k v s' F1 r1 l q H1 t m (hA.up y.2)) λ _ _ z=>z
noncomputable abbrev rB (va vb:Value):Obj:={ cls:= .type "slice",data:= .fields #[va,vb,.none] }
theorem lM {xo:Expr}{xa xb:Option Expr}{p p':Pos}{x a b:W}{A:Around}{s:Shared}{Q:Value->Shared->Prop}{T id:String}
   (h1:bG X LP d env nm xo lc sl x lc1 sl1) (h2:oj X LP d env nm xa lc1 sl1 a lc2 sl2) (h3:oj X LP d env nm xb lc2 sl2 b lc3 sl3) (hA:dG A d s) (H:HS X LP F r env mm nm lc sl R s.heap)
   (hl:typeLookup (.type T) "__getitem__" = pure (some (.builtin id)))
   (k: ∀ vo va vb s' F' r',F.le F'->r.le r'->HS X LP F' r' env mm nm lc3 sl3 R s'.heap->RW X F' vo x->RW X F' va a->RW X F' vb b->Sm s s'->s'.TypeIs vo T /\
     wpAny (model X.prog X.w) A (getItem vo (.ref s'.heap.objs.size)) Q (λ _ _=>False) { s' with heap:=s'.heap.push (rB va vb) }) :
   wpAny (model X.prog X.w) A (eval (.Subscript xo (.Slice xa xb none p') p) env) Q (λ _ _=>False) s:=by
 refine Subscript_ (cz h1 hA H λ o s1 F1 r1 l1 q1 H1 t1 m1 hA=>wpAny_Slice (sA h2 hA H1 λ va s2 F2 r2 l2 q2 H2 t2 m2 hA=>sA h3 hA H2 λ vb s3 F3 r3 l3 q3 H3 t3 m3 hA=> ?_))
 rw [evalPart_none]
 obtain ⟨k1,k2⟩:=k o va vb s3 F3 r3 (l1.trans (l2.trans l3)) (q1.trans (q2.trans q3)) H3 (t1.mono (l2.trans l3)) (t2.mono l3) t3 (m1.trans (m2.trans m3))
 refine Rs (tail_any (ops:=[.ref s3.heap.objs.size,o]) (T:=T) (id:=id) ?_ hl k2 rfl)
 cases o with
 | ref a=>obtain ⟨ob,e1,e2⟩:=k1;exact ⟨ob,Heap.get?_push_of_some _ e1,e2⟩
 | _=>exact k1
theorem cF.take: ∀ {ws:List W}{vs:List Value},cF X F vs ws-> ∀ n,cF X F (vs.take n) (ws.take n)
 | [],_,.refl _,n=>by rw [List.take_nil,List.take_nil];exact .nil
 | _::_,_,.mk _ _,0=> .nil
 | _::_,_,.mk a b,n+1=> .mk a (cF.take b n)
theorem cF.drop: ∀ {ws:List W}{vs:List Value},cF X F vs ws-> ∀ n,cF X F (vs.drop n) (ws.drop n)
 | [],_,.refl _,n=>by rw [List.drop_nil,List.drop_nil];exact .nil
 | _::_,_,.mk a b,0=> .mk a b
 | _::_,_,.mk a b,n+1=>cF.drop b n
theorem cF.cut {vs:List Value}{ws:List W}(h:cF X F vs ws) (a b:Nat):cF X F (eG vs a b) (eG ws a b):=(h.take b).drop a
theorem ol {α:Type}{x:List α}{lo hi:W}{y:List α}(e:rc x lo hi=some y) {P:List α->Prop}(k: ∀ a b,mU lo 0=some a->mU hi x.length=some b->P (eG x a b)):P y:=by
 unfold rc at e
 exact oN e λ a ha e=>oN e λ b hb e=>sR e (k a b ha hb)
section
variable {xo:Expr}{xa xb:Option Expr}{p p':Pos}{a b:W}(h2:oj X LP d env nm xa lc1 sl1 a lc2 sl2) (h3:oj X LP d env nm xb lc2 sl2 b lc3 sl3)
include h2 h3
theorem zr {y z:List Nat}(h1:bG X LP d env nm xo lc sl (.str y) lc1 sl1) (e:rc y a b=some z):bp X LP d env nm (.Subscript xo (.Slice xa xb none p') p) lc sl (.w (.str z)) lc3 sl3:=by
 intro mm A F r R s hA H
 refine ol e (P:=λ z=>wpAny (model X.prog X.w) A (eval (.Subscript xo (.Slice xa xb none p') p) env) (kH X LP F r R s env mm nm (.w (.str z)) lc3 sl3) (λ _ _=>False) s) λ na nb ea eb=> ?_
 refine lM (T := "str") h1 h2 h3 hA H PySem.F.slot_str_getitem.lookup λ vo va vb s1 F1 r1 l1 q1 H1 t1 t2 t3 m1=> ?_
 cases t1 with | mk t hx=> ?_
 cases jM t2 ea with | mk pa ia ca=> ?_
 cases jM t3 eb with | mk pb ib cb=> ?_
 refine ⟨typeIs_str _ _ _,wpAny_getItem_str_slice (l:=pa) (u:=pb) (st:=none) ⟨_,Heap.get?_push_size _ rfl,rfl,rfl⟩ rfl (post_val_or_str ⟨Rl (Txt.slice_le (ae y) _ _) (bZ hx),λ t' k=> ?_⟩)⟩
 show kH X LP F r R s env mm nm _ lc3 sl3 (.str (Txt.slice (ae y) (pa.map (·.1)) (pb.map (·.1))) t') _
 rw [Go y ca cb]
 exact ⟨F1,r1,[],l1,q1,H1.keeps (aR _ _),.v (.w (.str _ _ (Rl (kQ y na nb) hx))),m1.trans .mk⟩
theorem zt {y z:List W}(h1:bG X LP d env nm xo lc sl (.tup y) lc1 sl1) (e:rc y a b=some z):bp X LP d env nm (.Subscript xo (.Slice xa xb none p') p) lc sl (.w (.tup z)) lc3 sl3:=by
 intro mm A F r R s hA H
 refine ol e (P:=λ z=>wpAny (model X.prog X.w) A (eval (.Subscript xo (.Slice xa xb none p') p) env) (kH X LP F r R s env mm nm (.w (.tup z)) lc3 sl3) (λ _ _=>False) s) λ na nb ea eb=> ?_
 refine lM (T := "tuple") h1 h2 h3 hA H slot_tuple_getitem.lookup λ vo va vb s1 F1 r1 l1 q1 H1 t1 t2 t3 m1=> ?_
 cases t1 with | @mk ad o vs n g1 g2 g3 g4 g5=> ?_
 cases jM t2 ea with | mk pa ia ca=> ?_
 cases jM t3 eb with | mk pb ib cb=> ?_
 have H2:=H1.keeps (aR _ (rB (partValue pa) (partValue pb)))
 refine ⟨IsTup.typeIs ⟨_,H1.fro _ _ g1,g2,_,g3⟩,iz ⟨_,H2.fro _ _ g1,g2,_,g3⟩ (Heap.IsSliceOf.new ..) ia ib ca (g5.length▸cb) ?_ (λ e0=> ?_) (bZ g4)⟩
 · obtain ⟨l2,H3⟩:=H2.newF (aR _ { cls:= .type "tuple",data:= .seq (eG vs na nb).toArray }) (aN _) (Heap.get?_push_size _ rfl)
   exact ⟨_,r1,[],l1.trans l2,q1,H3,.v (.w (.tup (PM.set_self _ _ _) rfl rfl (Rl (kQ vs na nb) g4) ((g5.cut na nb).mono l2))),m1.trans .mk⟩
 · exact ⟨F1,r1,[],l1,q1,H2,.v (.w (.tup g1 g2 g3 g4 (e0▸g5.cut na nb))),m1.trans .mk⟩
theorem zu {x:W}{z:List W}(h1:bG X LP d env nm xo lc sl x lc1 sl1) (e:jF x a b=some z):bp X LP d env nm (.Subscript xo (.Slice xa xb none p') p) lc sl (.own z) lc3 sl3:=by
 intro mm A F r R s hA H
 refine oL e λ y hy e=> ?_
 have hy:=fS hy
 subst hy
 refine ol e (P:=λ z=>wpAny (model X.prog X.w) A (eval (.Subscript xo (.Slice xa xb none p') p) env) (kH X LP F r R s env mm nm (.own z) lc3 sl3) (λ _ _=>False) s) λ na nb ea eb=> ?_
 refine lM (T := "list") h1 h2 h3 hA H slot_list_getitem.lookup λ vo va vb s1 F1 r1 l1 q1 H1 t1 t2 t3 m1=> ?_
 cases t1 with | @mk ad o vs n g1 g2 g3 g4 g5=> ?_
 cases jM t2 ea with | mk pa ia ca=> ?_
 cases jM t3 eb with | mk pb ib cb=> ?_
 have H2:=H1.keeps (aR _ (rB (partValue pa) (partValue pb)))
 refine ⟨Heap.IsList.typeIs ⟨_,H1.fro _ _ g1,g2,_,g3⟩,wpAny_getItem_list_slice ⟨_,H2.fro _ _ g1,g2,_,g3⟩ (Heap.IsSliceOf.new ..) ia ib .none nofun ?_ (by rw [List.size_toArray];exact bZ g4)⟩
 rw [Gn vs ca (g5.length▸cb)]
 exact ⟨F1,r1,[(_,aD _)],l1,q1,H2.newO (P:=aD (eG vs na nb)) (aR _ { cls:= .type "list",data:= .seq (eG vs na nb).toArray }) (aN _) (Heap.get?_push_size _ rfl) ⟨_,rfl⟩,.own (Rl (kQ vs na nb) g4) (g5.cut na nb),m1.trans .mk⟩
theorem zv {x z:W}(h1:bG X LP d env nm xo lc sl x lc1 sl1) (e:vE x a b=some z):bp X LP d env nm (.Subscript xo (.Slice xa xb none p') p) lc sl (.w z) lc3 sl3:=by
 refine sf e (λ y hy e=> ?_) λ _ e=>oL e λ y hy e=> ?_
 · have hy:=da hy
   subst hy
   exact iP e λ c hc e=>sR (P:=λ z=>bp X LP d env nm (.Subscript xo (.Slice xa xb none p') p) lc sl (.w z) lc3 sl3) e (zr h2 h3 h1 hc)
 · have hy:=jH hy
   subst hy
   exact oL e λ c hc e=>sR (P:=λ z=>bp X LP d env nm (.Subscript xo (.Slice xa xb none p') p) lc sl (.w z) lc3 sl3) e (zt h2 h3 h1 hc)
end
section
variable {op op2:CmpOp}{xa xb xc:Expr}{p:Pos}{x y z:W}
theorem zw {op:Operator}(h1:bG X LP d env nm xa lc sl x lc1 sl1) (h2:bG X LP d env nm xb lc1 sl1 y lc2 sl2) (e:iL op x y=some z):bp X LP d env nm (.BinOp xa op xb p) lc sl (.w z) lc2 sl2:=λ mm A F r R s hA H =>
 wpAny_BinOp (lL h1 h2 hA H λ u v s2 F2 r2 l q H2 t1 t2 m hA=>Ro (pR e t1 t2) (λ v s3 y=>ic y l q H2 m) λ _ _ z=>z)
theorem rC {prog:Program}{w:World}{A:Around}{E:Value->Shared->Prop}{s:Shared}{l b:Addr}{vs ws:List Value}{Q:Value->Shared->Prop}(hl:s.heap.IsList l vs.toArray) (hb:s.heap.IsList b ws.toArray)
   (h:Q (.ref s.heap.objs.size) { s with heap:=s.heap.push { cls:= .type "list",data:= .seq (vs++ws).toArray } }) (hsz:vs.length+ws.length<=sizeLine) :
   wpAny (model prog w) A (binaryOp .Add (.ref l) (.ref b)) Q E s:=by
 obtain ⟨⟨cls,dd,data,sl⟩,ho,rfl,n,rfl⟩:=id hl
 obtain ⟨⟨cls2,dd2,data2,sl2⟩,ho2,rfl,n2,rfl⟩:=id hb
 have e:vs.toArray++ws.toArray=(vs++ws).toArray:=List.append_toArray vs ws
 refine concat_meets ⟨_,ho,rfl⟩ ⟨_,ho2,rfl⟩ noFill_list_add seq_list_add PySem.F.slot_list_add PySem.F.entry_list_add (PySem.F.args_list_add_2 _ _) (list_addW l b vs.toArray ws.toArray n n2 dd dd2 sl sl2 hsz) ⟨ho,ho2,?_⟩
 rw [e]
 exact h
theorem zx {op:Operator}{z:List W}(h1:bG X LP d env nm xa lc sl x lc1 sl1) (h2:bG X LP d env nm xb lc1 sl1 y lc2 sl2) (e:tT op x y=some z):bp X LP d env nm (.BinOp xa op xb p) lc sl (.own z) lc2 sl2:=λ mm A F r R s hA H=>by
 refine oL e λ a ha e=>oL e λ b hb e=> ?_
 have ha:=fS ha
 have hb:=fS hb
 subst ha hb
 cases op<;>first | exact nn e | skip
 refine oT e λ q e=>sR (P:=λ z=>wpAny (model X.prog X.w) A (eval (.BinOp xa .Add xb p) env) (kH X LP F r R s env mm nm (.own z) lc2 sl2) (λ _ _=>False) s) e ?_
 refine wpAny_BinOp (lL h1 h2 hA H λ u v s2 F2 r2 l1 q1 H2 t1 t2 m hA=> ?_)
 cases t1 with | @mk ad o vs n g1 g2 g3 g4 g5=> ?_
 cases t2 with | @mk ad' o' vs' n' k1 k2 k3 k4 k5=> ?_
 have len:vs.length+vs'.length<=cw:=by rw [g5.length,k5.length];exact Rm q
 refine rC ⟨_,H2.fro _ _ g1,g2,_,g3⟩ ⟨_,H2.fro _ _ k1,k2,_,k3⟩ ?_ (bZ len)
 exact ⟨F2,r2,[(_,aD _)],l1,q1,H2.newO (P:=aD (vs++vs')) (aR _ { cls:= .type "list",data:= .seq (vs++vs').toArray }) (aN _) (Heap.get?_push_size _ rfl) ⟨_,rfl⟩,.own (Rl (Nat.le_of_eq List.length_append) len) (cF.append k5 g5),m.trans .mk⟩
theorem fN {A:Around}{s:Shared}(h:dG A d s):A.units+64 < cLine:=Rt (Rl (Nat.add_le_add_left (by decide) _) (Nat.add_le_add_right (Ru A.units (40 * d)) 120)) h.2.2.1
theorem C4 {z:Bool}(h1:bG X LP d env nm xa lc sl x lc1 sl1) (h2:bG X LP d env nm xb lc1 sl1 y lc2 sl2) (hm:behindInMarks op xb=false) (e:gJ op x y=some z):bp X LP d env nm (.Compare xa [op] [xb] p) lc sl (.w (.bool z)) lc2 sl2:=λ mm A F r R s hA H =>
 wpAny_Compare1 (lL h1 h2 hA H λ u v s2 F2 r2 l q H2 t1 t2 m hA=>Ro (gV (fN hA) H2.fro t1 t2 e) (λ v s3 y=>ic y l q H2 m) λ _ _ z=>z) hm
theorem sB {A:Around}{s0 s:Shared}{b:Bool}{v:Value}{s':Shared}(h:gR X F' s (.bool b) v s') (l:F.le F') (q:r.le r') (H:HS X LP F' r' env mm nm lc sl R s.heap) (m:Sm s0 s) :
   wpAny (model X.prog X.w) A (truthy v) (zf X LP F r R s0 env mm nm b lc sl) (λ _ _=>False) s':=by
 cases h with | mk tk t=> ?_
 cases t
 exact wpAny_truthy_bool ⟨rfl,F',r',l,q,H,m.trans .mk⟩
theorem C5 {z:Bool}(h1:bG X LP d env nm xa lc sl x lc1 sl1) (h2:bG X LP d env nm xb lc1 sl1 y lc2 sl2) (hm:behindInMarks op xb=false) (e:gJ op x y=some z):eQ X LP d env nm (.Compare xa [op] [xb] p) lc sl z lc2 sl2:=λ mm A F r R s hA H =>
 wpAny_isTrue_Compare1 (lL h1 h2 hA H λ u v s2 F2 r2 l q H2 t1 t2 m hA=>Ro (gV (fN hA) H2.fro t1 t2 e) (λ v s3 y=>sB y l q H2 m) λ _ _ z=>z) hm
theorem gf {op1 op2:CmpOp}{y z:Expr}(h:behindInMarks op2 z=false):lastMarks [op1,op2] [y,z]=false:=by simpa [lastMarks] using h
theorem ii {z:Bool}{A:Around}{s:Shared}{G:Bool->Value->Value->Value->Shared->Prop}(h1:bG X LP d env nm xa lc sl x lc1 sl1) (h2:bG X LP d env nm xb lc1 sl1 y lc2 sl2) (e:gJ op x y=some z) (hA:dG A d s) (H:HS X LP F r env mm nm lc sl R s.heap)
   (k: ∀ u v s' F' r',F.le F'->r.le r'->HS X LP F' r' env mm nm lc2 sl2 R s'.heap->RW X F' v y->Sm s s'->dG A d s'->G z (.bool z) u v s') :
   wpAny (model X.prog X.w) A (eval xa env) (λ u=>wpAny (model X.prog X.w) A (eval xb env) (λ v=>wpAny (model X.prog X.w) A (compareOp op u v) (λ c=>wpAny (model X.prog X.w) A (truthy c) (λ b=>G b c u v) (λ _ _=>False)) (λ _ _=>False)) (λ _ _=>False)) (λ _ _=>False) s:=by
 refine lL h1 h2 hA H λ u v s2 F2 r2 l q H2 t1 t2 m hA=>Ro (a8 (gV (fN hA) H2.fro t1 t2 e)) (λ v' s3 y=> ?_) λ _ _ z=>z
 cases y.1 with | mk tk t=> ?_
 cases t
 exact wpAny_truthy_bool (k u v _ F2 r2 l q H2 t2 (m.trans .mk) (hA.up y.2))
section
variable (h1:bG X LP d env nm xa lc sl x lc1 sl1) (h2:bG X LP d env nm xb lc1 sl1 y lc2 sl2) (hm:behindInMarks op2 xc=false)
include h1 h2 hm
theorem wq (e:gJ op x y=some false):bp X LP d env nm (.Compare xa [op,op2] [xb,xc] p) lc sl (.w (.bool false)) lc2 sl2:=λ mm A F r R s hA H =>
 Compare_chain (Ro (ii h1 h2 e hA H λ u v s' F' r' l q H' t m hA=>⟨F',r',[],l,q,H',.v rfl,m⟩) (λ _ _ x=>chain_link x) λ _ _ z=>z) (gf hm)
theorem wt (e:gJ op x y=some false):eQ X LP d env nm (.Compare xa [op,op2] [xb,xc] p) lc sl false lc2 sl2:=λ mm A F r R s hA H =>
 isTrue_chain (Ro (ii h1 h2 e hA H λ u v s' F' r' l q H' t m hA=>⟨rfl,F',r',l,q,H',m⟩) (λ _ _ x=>test_link x) λ _ _ z=>z) (gf hm)
variable {u:Bool}(h3:bG X LP d env nm xc lc2 sl2 z lc3 sl3) (e:gJ op x y=some true) (e2:gJ op2 y z=some u)
include h3 e e2
theorem wu:bp X LP d env nm (.Compare xa [op,op2] [xb,xc] p) lc sl (.w (.bool u)) lc3 sl3:=λ mm A F r R s hA H =>
 Compare_chain (Ro (ii h1 h2 e hA H λ _ v s' F' r' l q H' t m hA=>chain_last (cz h3 hA H' λ j s4 F4 r4 l4 q4 H4 t4 m4 hA =>
   Ro (gV (fN hA) H4.fro (t.mono l4) t4 e2) (λ v s5 y=>ic y (l.trans l4) (q.trans q4) H4 (m.trans m4)) λ _ _ z=>z)) (λ _ _ x=>chain_link x) λ _ _ z=>z) (gf hm)
theorem ww:eQ X LP d env nm (.Compare xa [op,op2] [xb,xc] p) lc sl u lc3 sl3:=λ mm A F r R s hA H =>
 isTrue_chain (Ro (ii h1 h2 e hA H λ _ v s' F' r' l q H' t m hA=>test_last (cz h3 hA H' λ j s4 F4 r4 l4 q4 H4 t4 m4 hA =>
   Ro (gV (fN hA) H4.fro (t.mono l4) t4 e2) (λ v s5 y=>sB y (l.trans l4) (q.trans q4) H4 (m.trans m4)) λ _ _ z=>z)) (λ _ _ x=>test_link x) λ _ _ z=>z) (gf hm)
end
end
end
theorem cH (x:List Nat):(ae x).length=x.length:=rfl
theorem uf (x:Str):ae x.cps.toList=x:=rfl
theorem fO (sep:List Nat): ∀ l:List (List Nat),Str.join (ae sep) (l.map ae)=ae (cZ sep l)
 | []=>rfl
 | [x]=>rfl
 | x::y::r=>by
   have ih:=fO sep (y::r)
   show ae x++ae sep++Str.join (ae sep) (List.map ae (y::r))=_
   rw [ih,ge,ge];rfl
theorem gX {c d:Nat}(h:d≠c):Nat.beq d c=false:=by rw [zh];exact beq_eq_false_iff_ne.mpr h
theorem eR {c d:Nat}(h:Nat.beq d c=false) (acc r:List Nat):bD c acc (d::r)=bD c (d::acc) r:=by
 show (match Nat.beq d c with | true=>acc.reverse::bD c [] r | false=>bD c (d::acc) r)=_
 rw [h]
theorem ij (c:Nat) (acc r:List Nat):bD c acc (c::r)=acc.reverse::bD c [] r:=by
 show (match Nat.beq c c with | true=>acc.reverse::bD c [] r | false=>bD c (c::acc) r)=_
 rw [Nat.beq_refl]
theorem sC (d:Nat) (acc r:List Nat):(d::acc).reverse++r=acc.reverse++d::r:=by rw [List.reverse_cons,List.append_assoc];rfl
theorem lN (c:Nat): ∀ (x acc:List Nat),(∀ d ∈ x,d≠c)->bD c acc x=[acc.reverse++x]
 | [],acc,_=>congrArg (λ x=>[x]) (List.append_nil _).symm
 | d::r,acc,h=>(eR (gX (h d List.mem_cons_self)) acc r).trans ((lN c r (d::acc) λ e he=>h e (Rk _ he)).trans (congrArg (λ x=>[x]) (sC d acc r)))
theorem lO (c:Nat) (rest:List Nat): ∀ (x acc:List Nat),(∀ d ∈ x,d≠c)->bD c acc (x++c::rest)=(acc.reverse++x)::bD c [] rest
 | [],acc,_=>(ij c acc rest).trans (congrArg (· :: _) (List.append_nil _).symm)
 | d::r,acc,h=>(eR (gX (h d List.mem_cons_self)) acc _).trans ((lO c rest r (d::acc) λ e he=>h e (Rk _ he)).trans (congrArg (· :: _) (sC d acc r)))
theorem kn (c:Nat): ∀ (ps:List (List Nat)),ps≠[]->(∀ p ∈ ps,∀ d ∈ p,d≠c)->bD c [] (cZ [c] ps)=ps
 | [],h,_=>absurd rfl h
 | [p],_,h=>by rw [cZ,lN c p [] (h p List.mem_cons_self)];rfl
 | p::q::r,_,h=>by
   have ih:=kn c (q::r) (by simp) λ p hp=>h p (Rk _ hp)
   show bD c [] (p++[c]++cZ [c] (q::r))=_
   rw [List.append_assoc]
   show bD c [] (p++c::cZ [c] (q::r))=_
   rw [lO c _ p [] (h p List.mem_cons_self),ih];rfl
theorem wx (x y:Str):Txt.split x y≠[]:=by
 unfold Txt.split
 split
 · simp
 · split
   · simp
   · rw [StrLaws.partsBetween_eq]
     obtain ⟨p,r,e⟩:=StrLaws.partsFrom_ne x y.length 0 (Builtin.Str.occurrences x y 0 x.length (x.length+1))
     rw [e];simp
theorem pT (x:List Nat) (c:Nat):Txt.split (ae x) ⟨#[c]⟩=(bD c [] x).map ae:=by
 have h1:=StrLaws.join_split (ae x) ⟨#[c]⟩
 have h2:=StrLaws.split_free (ae x) c
 have h3:=wx (ae x) ⟨#[c]⟩
 generalize Txt.split (ae x) ⟨#[c]⟩=L at h1 h2 h3
 have e:L=(L.map λ p=>p.cps.toList).map ae:=by rw [List.map_map];exact (List.map_id'' (λ a=>uf a) L).symm
 have j:=fO [c] (L.map λ p=>p.cps.toList)
 rw [<- e] at j
 have jx:cZ [c] (L.map λ p=>p.cps.toList)=x:=by
   have:=j.symm.trans h1
   exact eq_of_beq ((fM (a:=cZ [c] (L.map λ p=>p.cps.toList)) (b:=x))▸beq_iff_eq.mpr this)
 have s:=kn c (L.map λ p=>p.cps.toList) (by simpa using h3) (λ p hp d hd=>by
   obtain ⟨q,hq,rfl⟩:=List.mem_map.mp hp
   exact λ e=>h2 q hq (e▸hd))
 rw [jx] at s
 rw [s];exact e
theorem iV (c:Nat): ∀ (x acc:List Nat),∀ p ∈ bD c acc x,p.length<=acc.length+x.length
 | [],acc,p,h=>by cases List.mem_singleton.mp h;exact Nat.le_of_eq List.length_reverse
 | d::r,acc,p,h=>by
   cases e:Nat.beq d c with
   | true =>
     cases Rq e
     rw [ij] at h
     rcases List.mem_cons.mp h with rfl | h
     · exact Rl (Nat.le_of_eq List.length_reverse) (Ru _ _)
     · exact Rl (iV _ r [] p h) (Nat.add_le_add (Nat.zero_le _) (Nat.le_succ _))
   | false =>
     rw [eR e] at h
     exact Rl (iV c r (d::acc) p h) (Nat.le_of_eq (Nat.succ_add ..))
theorem fj (c:Nat): ∀ (x acc:List Nat),(bD c acc x).length<=x.length+1
 | [],acc=>Nat.le_refl _
 | d::r,acc=>by
   cases e:Nat.beq d c with
   | true =>
     cases Rq e
     rw [ij];exact Nat.succ_le_succ (fj _ r [])
   | false=>rw [eR e];exact Nat.le_succ_of_le (fj c r (d::acc))
theorem jo (s:Nat): ∀ l:List (List Nat),ei s l=((l.map ae).map (·.length)).sum+l.length * s
 | []=>by simp [ei]
 | x::r=>by
   rw [ei,jo s r]
   simp only [List.map_cons,List.sum_cons,cH,List.length_cons]
   rw [Nat.succ_mul];lia
theorem jN (s:List Nat) (l:List (List Nat)):(cZ s l).length<=ei s.length l:=by
 have h:=StrLaws.join_length_le (ae s) (l.map ae)
 rw [fO,cH,cH,List.length_map] at h
 rw [jo];exact h
theorem nj {s:List Nat}{l:List (List Nat)}(h:ei s.length l<=cw):JoinOk (ae s) (l.map ae)=true:=by
 unfold JoinOk
 rw [StrLaws.joinTotal,List.length_map,cH,<- jo]
 unfold Builtin.Str.tooLong
 simp only [Bool.not_eq_true',decide_eq_false_iff_not]
 have:=bZ h
 lia
theorem lP (c:Nat): ∀ (x:List Nat) (k n:Nat),jc c x k=some n-> ∃ j,n=k+j/\x[j]?=some c/\ ∀ i,i < j->x[i]?≠some c
 | [],k,n,h=>nn h
 | d::r,k,n,h=>by
   unfold jc at h
   cases e:Nat.beq c d with
   | true =>
     rw [e] at h
     exact ⟨0,(sj h).symm,congrArg some (Rq e).symm,λ i hi=>absurd hi (Nat.not_lt_zero i)⟩
   | false =>
     rw [e] at h
     obtain ⟨j,a,b,cc⟩:=lP c r (k+1) n h
     refine ⟨j+1,a.trans (Nat.add_right_comm k 1 j),b,λ i hi=> ?_⟩
     cases i with
     | zero=>intro z;cases sj z;rw [Nat.beq_refl] at e;exact ff e.symm
     | succ i=>exact cc i (Nat.lt_of_succ_lt_succ hi)
theorem ug {x:List Nat}{c n:Nat}(h:jc c x 0=some n): ∃ r,Builtin.Str.occurrences (ae x) (ae [c]) 0 (ae x).length 1=n::r:=by
 obtain ⟨j,e0,a,b⟩:=lP c x 0 n h
 have e0:n=j:=e0.trans (Nat.zero_add j)
 subst e0
 have at_iff: ∀ i,StrLaws.At (ae x) (ae [c]) (ae x).length i ↔ x[i]?=some c:=λ i=>StrLaws.subAt_one (ae x) c i
 rcases StrLaws.occ_head (ae x) (ae [c]) 1 (Nat.le_refl _) with ⟨_,h2⟩ | ⟨i,r,e,h1,h2⟩
 · exact absurd ((at_iff n).mpr a) (h2 n)
 · rcases Nat.lt_trichotomy i n with h | h | h
   · exact absurd ((at_iff i).mp h1) (b i h)
   · exact ⟨r,h▸e⟩
   · exact absurd ((at_iff n).mpr a) (h2 n h)
theorem uh: ∀ n,n < 10->(Str.ofString (toString ((n:Nat):Int))==ae [48+n])=true:=by decide +kernel
section
variable {X:Cx}{LP:bu}{F F':PM}{r r':PS}{R:List aK}{env:Env}{mm:Str->Option Value}{nm:List Str}{sc:Sc}{cd:Option (Addr×Str)}{lc:List (Option V)}{sl:ab}{d:Nat}{h h':Heap}
inductive yQ (X:Cx) (LP:bu) (F:PM) (r:PS) (R:List aK) (s:Shared) (V:V) (sl:ab) (v:Value) (s':Shared):Prop
 | mk (F':PM) (r':PS) (T:List aK):F.le F'->r.le r'->HC X LP F' r' sl (T++R) s'.heap->RT X LP F' r' T v V->Sm s s'->yQ X LP F r R s V sl v s'
noncomputable def lQ (X:Cx) (LP:bu) (d:Nat) (f:V) (as:List V) (sl:ab) (V:V) (sl':ab):Prop :=
 ∀ (A:Around) (F:PM) (r:PS) (R:List aK) (s:Shared) (vf:Value) (vs:List Value),dG A d s->HC X LP F r sl R s.heap->RV X LP F r vf f->i9 X LP F r vs as ->
   wpAny (model X.prog X.w) A (call vf vs) (yQ X LP F r R s V sl') (λ _ _=>False) s
theorem ef {s s':Shared}{w:W}{v:Value}(H:HC X LP F r sl R s.heap) (p:gR X F s w v s'):yQ X LP F r R s (.w w) sl v s':=by
 cases p with | mk tk t=>exact ⟨F,r,[],.refl _,.refl _,H,.v t,.mk⟩
theorem om {s s':Shared}{w:W}{a:Addr}{o:Obj}(H:HC X LP F r sl R s.heap) (k: ∀ b o,s.heap.get? b=some o->s'.heap.get? b=some o) (f:s.heap.get? a=none) (e:s'.heap.get? a=some o)
   (t: ∀ G,F.le G->G a=some o->RW X G (.ref a) w) (m:Sm s s'):yQ X LP F r R s (.w w) sl (.ref a) s' :=
 ⟨_,r,[],(H.newF k f e).1,.refl _,(H.newF k f e).2,.v (t _ (H.newF k f e).1 (PM.set_self _ _ _)),m⟩
theorem Gq {a b:Int}{t u v:Tok}:rq a b { cls:= .type "range",data:= .fields #[.int a t,.int b u,.int 1 v] }:=⟨t,u,v,rfl⟩
theorem oq {n:Nat}(h:n<=cw):(n:Int) < 2 ^ 63:=Int.lt_of_le_of_lt (Int.ofNat_le.mpr h) (by decide)
noncomputable abbrev gY (X:Cx) (LP:bu) (F:PM) (r:PS) (R:List aK) (sl:ab) (A:Around) (s:Shared) (b:BI) (vs:List Value) (V:V):Prop:=wpAny (model X.prog X.w) A (call (si b) vs) (yQ X LP F r R s V sl) (λ _ _=>False) s
theorem zy {n:Nat}(h:n < 10):((n:Nat):Int).natAbs.log2 < 64:=by
 rw [Int.natAbs_natCast]
 by_cases z:n=0
 · subst z;decide
 · exact (Nat.log2_lt z).mpr (Nat.lt_of_lt_of_le h (by decide))
section
variable {A:Around}{s:Shared}{v:Value}{vs:List Value}{x:Int}{w z:W}(H:HC X LP F r sl R s.heap)
include H
theorem wy (a:RW X F v (.int x)):gY X LP F r R sl A s .abs [v] (.w (.int x.natAbs)):=by
 cases a
 refine call_abs_int λ u tk=>ef H ?_
 have:(if x < 0 then -x else x)=(x.natAbs:Int):=by split<;>lia
 rw [this];exact dh (.int _ _)
theorem wz (a:RW X F v (.int x)) (e:y2 x=some z):gY X LP F r R sl A s .str [v] (.w z):=by
 refine oT e λ hx e=>sR (P:=λ z=>gY X LP F r R sl A s .str [v] (.w z)) e ?_
 cases a
 obtain ⟨h0,h1⟩:=Bool.and_eq_true_iff.mp hx
 obtain ⟨n,rfl⟩: ∃ n:Nat,x=(n:Int):=⟨x.toNat,(Int.toNat_of_nonneg (of_decide_eq_true h0)).symm⟩
 have h1:n < 10:=Int.ofNat_lt.mp (of_decide_eq_true h1)
 refine P.str_of_int ?_ (ef H ?_)
 · have:=zy h1;lia
 · rw [show Str.ofString (toString ((n:Nat):Int))=ae [48+n] from eq_of_beq (uh n h1),Int.toNat_natCast]
   exact dh (.str _ _ (by show 1<=cw;decide))
theorem iG {l:List W}(t:ni X F s.heap v (.lst l)):gY X LP F r R sl A s .len [v] (.w (.int l.length)):=by
 cases t with | mk a b c=> ?_
 refine len_list b (by rw [List.size_toArray];exact oq a) (ef H ?_)
 rw [List.size_toArray,c.length];exact dh (.int _ _)
theorem wA (t:RW X F v w) (e:y1 w=some z):gY X LP F r R sl A s .len [v] (.w z):=by
 cases w with
 | str x=>cases sj e;cases t with | mk t h=>exact len_str (by rw [cH];exact Int.not_le.mpr (oq h)) (ef H (by rw [cH];exact dh (.int _ _)))
 | tup l =>
   cases sj e
   cases t with | mk g1 g2 g3 g4 g5=> ?_
   refine len_tuple ⟨_,H.fro _ _ g1,g2,_,g3⟩ (by rw [List.size_toArray];exact oq g4) (ef H ?_)
   rw [List.size_toArray,g5.length];exact dh (.int _ _)
 | lst l=>cases sj e;exact iG H (wm H.fro (.inl t))
 | _=>exact nn e
theorem wB (a:RW X F v (.int x)) (e:y3 x=some z):gY X LP F r R sl A s .chr [v] (.w z):=by
 refine oT e λ hx e=>sR (P:=λ z=>gY X LP F r R sl A s .chr [v] (.w z)) e ?_
 cases a
 obtain ⟨h0,h1⟩:=Bool.and_eq_true_iff.mp hx
 refine P.chr_of_int ?_ (ef H (dh (.str [_] _ (by show 1<=cw;decide))))
 have h0:=of_decide_eq_true h0
 have h1:=of_decide_eq_true h1
 clear e hx
 simp only [Bool.or_eq_false_iff,decide_eq_false_iff_not];lia
theorem rD {l:List W}(t:RW X F v (.lst l)):gY X LP F r R sl A s .tuple [v] (.w (.tup l)):=by
 cases t with | @mk _ _ vs _ g1 g2 g3 g4 g5=> ?_
 refine call_tuple_list ⟨_,H.fro _ _ g1,g2,_,g3⟩ (λ h' hk=> ?_) (by rw [List.size_toArray];exact bZ g4)
 obtain ⟨l,H2⟩:=(H.keeps hk).newF (aR _ { cls:= .type "tuple",data:= .seq vs.toArray }) (aN _) (Heap.get?_push_size _ rfl)
 exact ⟨_,r,[],l,.refl _,H2,.v (.w (.tup (PM.set_self _ _ _) rfl rfl g4 (g5.mono l))),.mk⟩
theorem wC {ws:List W}(rs:cF X F vs ws) (e:vz ws=some z):gY X LP F r R sl A s .range vs (.w z):=by
 unfold vz at e
 cases q:ix ws with
 | some w =>
   rw [q] at e
   refine oI e λ n hn e=>sR (P:=λ z=>gY X LP F r R sl A s .range vs (.w z)) e ?_
   cases fU q;cases dm hn
   cases rs with | mk a b=> ?_
   cases a;cases b
   exact call_range_1 (om H (aR _ _) (aN _) (Heap.get?_push_size _ rfl) (λ G l g=> .rng _ _ g Gq) .mk)
 | none =>
   rw [q] at e
   refine I3 e λ u w h2 e=>oI e λ a ha e=>oI e λ n hn e=>sR (P:=λ z=>gY X LP F r R sl A s .range vs (.w z)) e ?_
   cases kL h2;cases dm ha;cases dm hn
   cases rs with | mk a b=> ?_
   cases b with | mk b c=> ?_
   cases a;cases b;cases c
   exact call_range_2 (om H (aR _ _) (aN _) (Heap.get?_push_size _ rfl) (λ G l g=> .rng _ _ g Gq) .mk)
theorem ui {b:BI}(t:RW X F v w) (e:vA b w=some z):gY X LP F r R sl A s b [v] (.w z):=by
 cases b with
 | len=>exact wA H t e
 | tuple=>exact oL e λ l hl e=>sR (P:=λ z=>gY X LP F r R sl A s .tuple [v] (.w z)) e (rD H (fS hl▸t))
 | abs=>exact oI e λ x hx e=>sR (P:=λ z=>gY X LP F r R sl A s .abs [v] (.w z)) e (wy H (dm hx▸t))
 | str=>exact oI e λ x hx e=>wz H (dm hx▸t) e
 | ord =>
   refine oN e λ c hc e=>sR (P:=λ z=>gY X LP F r R sl A s .ord [v] (.w z)) e ?_
   cases rk hc;cases t
   exact P.ord_of_char (ef H (dh (.int _ _)))
 | chr=>exact oI e λ x hx e=>wB H (dm hx▸t) e
 | _=>exact nn e
theorem wD {b:BI}{ws:List W}(rs:cF X F vs ws) (e:vB b ws=some z):gY X LP F r R sl A s b vs (.w z):=by
 by_cases hb:b= .range
 · subst hb;exact wC H rs e
 · have e:(match ix ws with | some w=>vA b w | none=>none)=some z:=by cases b<;>first | exact e | exact absurd rfl hb
   refine oW e λ w hw e=> ?_
   cases fU hw
   cases rs with | mk a c=> ?_
   cases c
   exact ui H a e
theorem uj {b:BI}{ws z:List W}(rs:cF X F vs ws) (e:vC b ws=some z):gY X LP F r R sl A s b vs (.own z):=by
 cases b with
 | list =>
   refine oW e λ w hw e=> ?_
   cases fU hw;cases jH e
   cases rs with | mk a c=> ?_
   cases a with | @mk _ _ us _ g1 g2 g3 g4 g5=> ?_
   cases c
   refine call_list_seq _ (.inr rfl) (H.fro _ _ g1) g2 g3 (λ h' c' kk hg=> ?_) (by rw [List.size_toArray];exact bZ g4)
   exact ⟨F,r,[(_,aD _)],.refl _,.refl _,H.newO (P:=aD us) kk (aN _) hg ⟨_,rfl⟩,.own g4 g5,.mk⟩
 | _=>exact nn e
end
theorem Gr {b:BI}{as:List V}{ws:List W}{z:W}(hb:pA b sl as=some ws) (e:vB b ws=some z):lQ X LP d (.w (.bi b)) as sl (.w z) sl:=by
 intro A F r R s vf vs hA H tf ts
 cases tf
 unfold pA at hb
 cases q:aZ as with
 | some ws'=>rw [q] at hb;cases sj hb;exact wD H (iT q ts) e
 | none =>
   rw [q] at hb
   cases b with
   | len =>
     refine oV hb λ v hv e1=>y5 e1 λ k hk e2=>oL e2 λ l hl e3=> ?_
     cases sj e3;cases fU hv;cases dM hk;cases sj (show some (W.int l.length)=some z from e)
     cases ts with | mk a c=> ?_
     cases a with | mk hx=> ?_
     cases c
     exact iG H (H.listAt hx (hZ hl))
   | _=>exact nn hb
theorem C6 {b:BI}{as:List V}{ws z:List W}(hb:aZ as=some ws) (e:vC b ws=some z):lQ X LP d (.w (.bi b)) as sl (.own z) sl:=by
 intro A F r R s vf vs hA H tf ts
 cases tf
 exact uj H (iT hb ts) e
end
section
variable {X:Cx}{LP:bu}{F F':PM}{r r':PS}{R:List aK}{env:Env}{mm:Str->Option Value}{nm:List Str}{sc:Sc}{cd:Option (Addr×Str)}{lc lc1 lc2:List (Option V)}{sl sl1 sl2 sl3:ab}{d:Nat}{h h':Heap}
noncomputable def uk (X:Cx) (LP:bu) (d:Nat) (env:Env) (nm:List Str) (op:BoolOp) (xs:List Expr) (lc:List (Option V)) (sl:ab) (b:Bool) (lc':List (Option V)) (sl':ab):Prop :=
 ∀ (mm:Str->Option Value) (A:Around) (F:PM) (r:PS) (R:List aK) (s:Shared) (pos:Pos),dG A d s->HS X LP F r env mm nm lc sl R s.heap ->
   wpAny (model X.prog X.w) A (boolOp pos op (evalEach xs env)) (kH X LP F r R s env mm nm (.w (.bool b)) lc' sl') (λ _ _=>False) s
noncomputable def ul (X:Cx) (LP:bu) (d:Nat) (env:Env) (nm:List Str) (op:BoolOp) (xs:List Expr) (lc:List (Option V)) (sl:ab) (b:Bool) (lc':List (Option V)) (sl':ab):Prop :=
 ∀ (mm:Str->Option Value) (A:Around) (F:PM) (r:PS) (R:List aK) (s:Shared),dG A d s->HS X LP F r env mm nm lc sl R s.heap ->
   wpAny (model X.prog X.w) A (allTrue op xs env) (zf X LP F r R s env mm nm b lc' sl') (λ _ _=>False) s
theorem kH.after {R:List aK}{s0 s:Shared}{F0:PM}{r0:PS}{V:V}{v:Value}{s':Shared}(y:kH X LP F r R s env mm nm V lc sl v s') (l:F0.le F) (q:r0.le r) (m:Sm s0 s):kH X LP F0 r0 R s0 env mm nm V lc sl v s':=by
 cases y with | mk F2 r2 T l2 q2 H2 t2 m2=>exact ⟨F2,r2,T,l.trans l2,q.trans q2,H2,t2,m.trans m2⟩
theorem zf.after {R:List aK}{s0 s:Shared}{F0:PM}{r0:PS}{b c:Bool}{s':Shared}(y:zf X LP F r R s env mm nm b lc sl c s') (l:F0.le F) (q:r0.le r) (m:Sm s0 s):zf X LP F0 r0 R s0 env mm nm b lc sl c s':=by
 cases y with | mk e F2 r2 l2 q2 H2 m2=>exact ⟨e,F2,r2,l.trans l2,q.trans q2,H2,m.trans m2⟩
section
variable {op:BoolOp}{isAnd b c:Bool}{x y:Expr}{xs l:List Expr}{p:Pos}
theorem zA (h1:bG X LP d env nm x lc sl (.bool b) lc1 sl1):uk X LP d env nm op [x] lc sl b lc1 sl1 :=
 λ mm A F r R s pos hA H=>Ro (h1 mm A F r R s hA H) (λ _ _ y=>y.toP) λ _ _ z=>z
theorem sD {A:Around}{s:Shared}{pos:Pos}{Q:Value->Shared->Prop}(h1:bG X LP d env nm x lc sl (.bool b) lc1 sl1) (hA:dG A d s) (H:HS X LP F r env mm nm lc sl R s.heap)
   (k: ∀ s' F' r',F.le F'->r.le r'->HS X LP F' r' env mm nm lc1 sl1 R s'.heap->Sm s s'->dG A d s'->wpAny (model X.prog X.w) A (match fZ isAnd,b with | .And,false | .Or,true=>pure (.bool b) | _,_=>boolOp pos (fZ isAnd) (evalEach (y::l) env)) Q (λ _ _=>False) s') :
   wpAny (model X.prog X.w) A (boolOp pos (fZ isAnd) (evalEach (x::y::l) env)) Q (λ _ _=>False) s:=by
 show wpAny _ A (do
   let v <- eval x env
   standAt pos
   let t <- holding [v] (truthy v)
   match fZ isAnd,t with
   | .And,false | .Or,true=>pure v
   | _,_=>boolOp pos (fZ isAnd) (evalEach (y::l) env)) _ _ s
 refine Rn (cz h1 hA H λ v s1 F1 r1 l1 q1 H1 t1 m1 hA=> ?_)
 cases t1
 exact Rn (wpAny_standAt (Rn (wpAny_holding (wpAny_truthy_bool (k s1 F1 r1 l1 q1 H1 m1 hA)))))
theorem zB (h1:bG X LP d env nm x lc sl (.bool b) lc1 sl1) (hb:Bool.xor isAnd b=true):uk X LP d env nm (fZ isAnd) (x::y::l) lc sl b lc1 sl1:=λ mm A F r R s pos hA H =>
 sD h1 hA H λ s1 F1 r1 l1 q1 H1 m1 hA=>by
   have fL:kH X LP F r R s env mm nm (.w (.bool b)) lc1 sl1 (.bool b) s1:=⟨F1,r1,[],l1,q1,H1,.v rfl,m1⟩
   cases isAnd<;>cases b<;>first | exact Rs fL | exact ff hb
theorem Gs (h1:bG X LP d env nm x lc sl (.bool b) lc1 sl1) (hb:Bool.xor isAnd b=false) (h2:uk X LP d env nm (fZ isAnd) (y::l) lc1 sl1 c lc2 sl2):uk X LP d env nm (fZ isAnd) (x::y::l) lc sl c lc2 sl2:=λ mm A F r R s pos hA H =>
 sD h1 hA H λ s1 F1 r1 l1 q1 H1 m1 hA=>by
   have fL:wpAny (model X.prog X.w) A (boolOp pos (fZ isAnd) (evalEach (y::l) env)) (kH X LP F r R s env mm nm (.w (.bool c)) lc2 sl2) (λ _ _=>False) s1 :=
     Ro (h2 mm A F1 r1 R s1 pos hA H1) (λ v s2 w=>w.after l1 q1 m1) λ _ _ z=>z
   cases isAnd<;>cases b<;>first | exact fL | exact ff hb.symm
theorem C7 (h1:uk X LP d env nm op xs lc sl b lc1 sl1):bp X LP d env nm (.BoolOp op xs p) lc sl (.w (.bool b)) lc1 sl1:=λ mm A F r R s hA H=>by
 rw [arm_eval_BoolOp]
 exact h1 mm A F r R s p hA H
theorem ou {A:Around}{s:Shared}{Q:Bool->Shared->Prop}(h1:eQ X LP d env nm x lc sl b lc1 sl1) (hA:dG A d s) (H:HS X LP F r env mm nm lc sl R s.heap)
   (k1:Bool.xor isAnd b=true-> ∀ s' F' r',F.le F'->r.le r'->HS X LP F' r' env mm nm lc1 sl1 R s'.heap->Sm s s'->dG A d s'->Q b s')
   (k2:Bool.xor isAnd b=false-> ∀ s' F' r',F.le F'->r.le r'->HS X LP F' r' env mm nm lc1 sl1 R s'.heap->Sm s s'->dG A d s'->wpAny (model X.prog X.w) A (allTrue (fZ isAnd) l env) Q (λ _ _=>False) s') :
   wpAny (model X.prog X.w) A (allTrue (fZ isAnd) (x::l) env) Q (λ _ _=>False) s:=by
 cases isAnd
 · exact wpAny_allTrue_Or_cons (eI h1 hA H λ s1 F1 r1 l1 q1 H1 m1 hA=>by
     cases b
     · exact k2 rfl s1 F1 r1 l1 q1 H1 m1 hA
     · exact k1 rfl s1 F1 r1 l1 q1 H1 m1 hA)
 · exact wpAny_allTrue_And_cons (eI h1 hA H λ s1 F1 r1 l1 q1 H1 m1 hA=>by
     cases b
     · exact k1 rfl s1 F1 r1 l1 q1 H1 m1 hA
     · exact k2 rfl s1 F1 r1 l1 q1 H1 m1 hA)
theorem zC (h1:eQ X LP d env nm x lc sl b lc1 sl1):ul X LP d env nm (fZ isAnd) [x] lc sl b lc1 sl1:=λ mm A F r R s hA H =>
 ou h1 hA H (λ _ s1 F1 r1 l1 q1 H1 m1 hA=>⟨rfl,F1,r1,l1,q1,H1,m1⟩) λ e s1 F1 r1 l1 q1 H1 m1 hA=>by
   have fL:zf X LP F r R s env mm nm b lc1 sl1 b s1:=⟨rfl,F1,r1,l1,q1,H1,m1⟩
   cases isAnd<;>cases b<;>first | exact ff e.symm | exact wpAny_allTrue_Or_nil fL | exact wpAny_allTrue_And_nil fL
theorem zD (h1:eQ X LP d env nm x lc sl b lc1 sl1) (hb:Bool.xor isAnd b=true):ul X LP d env nm (fZ isAnd) (x::l) lc sl b lc1 sl1:=λ mm A F r R s hA H =>
 ou h1 hA H (λ _ s1 F1 r1 l1 q1 H1 m1 hA=>⟨rfl,F1,r1,l1,q1,H1,m1⟩) λ e=>ff (e.symm.trans hb)
theorem Gu (h1:eQ X LP d env nm x lc sl b lc1 sl1) (hb:Bool.xor isAnd b=false) (h2:ul X LP d env nm (fZ isAnd) l lc1 sl1 c lc2 sl2):ul X LP d env nm (fZ isAnd) (x::l) lc sl c lc2 sl2:=λ mm A F r R s hA H =>
 ou h1 hA H (λ e=>ff (hb.symm.trans e)) λ _ s1 F1 r1 l1 q1 H1 m1 hA=>Ro (h2 mm A F1 r1 R s1 hA H1) (λ v s2 w=>w.after l1 q1 m1) λ _ _ z=>z
theorem C8 (h1:ul X LP d env nm op xs lc sl b lc1 sl1):eQ X LP d env nm (.BoolOp op xs p) lc sl b lc1 sl1:=λ mm A F r R s hA H=>wpAny_isTrue_BoolOp (h1 mm A F r R s hA H)
end
theorem iW {x:Expr}{xs:List Expr}(hs:(x::xs).all aE=true):aE x=true/\xs.all aE=true:=Bool.and_eq_true_iff.mp hs
theorem db {pos:Pos}: ∀ {xs:List Expr},xs.all aE=true->(backTo pos (starEach xs env)).any (·.1)=false
 | [],_=>rfl
 | x::xs,hs=>by
   rw [d6 (iW hs).1]
   exact db (xs:=xs) (iW hs).2
theorem pU {pos:Pos}{xs:List Expr}(hs:xs.all aE=true):(backTo pos (starEach xs env)).all (λ x=> !x.1)=true:=by
 have:=db (env:=env) (pos:=pos) hs
 rw [List.all_eq_not_any_not]
 simp only [Bool.not_not,this,Bool.not_false]
theorem ik {M:Model}{A:Around}{E:Value->Shared->Prop}{s:Shared}{f:Value}{pos:Pos}{xs:List Expr}{Q:Args->Shared->Prop}(hs:xs.all aE=true)
   (h:wpAny M A (spliced (backTo pos (starEach xs env))) (λ vs s'=>Q ⟨vs,[]⟩ s') E s):wpAny M A (evalArgs f true (backTo pos (starEach xs env)) []) Q E s:=by
 cases xs with
 | nil =>
   unfold evalArgs
   show wpAny M A (spliced (backTo pos (starEach [] env)) >>= _) Q E s
   refine Rn (Ro h (λ vs s' h'=> ?_) λ _ _ x=>x)
   refine Rn (Rs ?_)
   refine wpAny_holding ?_
   exact Rn (Rs (Rn (Rs (Rs h'))))
 | cons x xs =>
   rw [d6 (iW hs).1] at h ⊢
   exact evalArgs_plain h
noncomputable def jO (X:Cx):V->Prop
 | .w w=>match w with
   | .fn _=>True
   | .bi _=>True
   | .cls c=>(X.T.init c).isSome=true
   | _=>False
 | .clo _ _=>True
 | _=>False
theorem rE {f:V}(hc:jO X f):frz f=f:=by cases f<;>first | rfl | exact hc.elim
inductive C9 (M:Model) (h:Heap) (v:Value):Prop
 | mk (kk:Keeper):kk= .frame\/kk= .machine\/kk= .boundFrame->Looks M h (keeperOf v) kk->C9 M h v
theorem BW {M:Model}{a:Addr}{o:Obj}{fd:FuncData}(e1:h.get? a=some o) (e2:o.data= .func fd):C9 M h (.ref a) :=
 .mk .frame (.inl rfl) ((Looks.ld (part:=none) e1).andThen (by rw [e2];exact .now))
theorem pV {M:Model}(C:bM X) {vf:Value}{f:V}(t:RV X LP F r vf f) (hc:jO X f) (low:PM.le X.base F) (k: ∀ a o,F a=some o->h.get? a=some o):C9 M h vf:=by
 cases f with
 | slot _=>exact hc.elim
 | own _=>exact hc.elim
 | hds _=>exact hc.elim
 | clo _ _=>cases t with | mk a b _ _ _=>exact BW (k _ _ a) b
 | w w =>
   cases w with
   | fn f =>
     cases t with | mk e=> ?_
     obtain ⟨fd',o,e1,e2⟩:=C.fnd f (e.imp (λ ⟨fd,e⟩=>by rw [e];rfl) id)
     exact BW (k _ _ (low _ _ e1)) e2
   | cls c =>
     cases t
     obtain ⟨kk,h1,h2⟩:=keeps_K (M:=M) (C.cls c hc).kp h (λ a o e=>k _ _ (low _ _ (C.kin a o e)))
     exact .mk kk h1 h2
   | bi b=>cases t;exact .mk .machine (.inr (.inl rfl)) (by cases b<;>exact .now)
   | _=>exact hc.elim
theorem wE {s s0:Shared}{F0:PM}{r0:PS}{V:V}{v:Value}{s':Shared}{U:List aK}(vv:cQ X LP F r env mm nm lc U) (y:yQ X LP F r ((env.locals,gF mm)::(U++R)) s V sl1 v s')
   (l:F0.le F) (q:r0.le r) (m0:Sm s0 s):kH X LP F0 r0 R s0 env mm nm V lc sl1 v s':=by
 cases y with | mk F1 r1 T l1 q1 H1 t1 m1=>exact ⟨F1,r1,T,l.trans l1,q.trans q1,HS.shut (vv.mono l1 q1) H1,t1,m0.trans m1⟩
theorem i9.app {us vs:List Value}: ∀ {first:List V}{as:List V},i9 X LP F r us first->i9 X LP F r vs as->i9 X LP F r (us++vs) (first++as):=by
 intro first
 induction first generalizing us with
 | nil=>intro as t t2;cases t;exact t2
 | cons a l ih=>intro as t t2;cases t with | mk x y=>exact .mk x (ih y t2)
theorem kq (C:bM X) {fv:V}{first:List V}{xs:List Expr}{pos p:Pos}{as:List V}{V:V}(hs:xs.all aE=true) (h2:lI X LP d env nm xs lc sl as lc1 sl1) (hc:jO X fv) (h3:lQ X LP d fv (first++as) sl1 V sl2)
   {A:Around} {s:Shared} {vf:Value} {vfirst:List Value} (hA:dG A d s) (H:HS X LP F r env mm nm lc sl R s.heap) (tf:RV X LP F r vf fv) (tfirst:i9 X LP F r vfirst first) :
   wpAny (model X.prog X.w) A (callWith p vf vfirst (backTo pos (starEach xs env)) []) (kH X LP F r R s env mm nm V lc1 sl2) (λ _ _=>False) s:=by
 refine callWith_of (P:=λ h=> ∀ a o,F a=some o->h.get? a=some o) ?_ (λ h k=>by cases pV (M:=model X.prog X.w) C tf hc H.low k with | mk kk a b=>exact ⟨kk,a,b⟩) (ik hs (fi h2 hA H λ vs s1 F1 r1 l1 q1 H1 t1 m1 hA=> ?_))
 · show ((backTo pos (starEach xs env)).any (·.1)||false)=false
   rw [db hs];rfl
 · refine ⟨λ a o e=>H1.fro _ _ (l1 _ _ e),?_⟩
   cases H1 with | mk U vv b=> ?_
   exact Ro (h3 A F1 r1 _ s1 vf (vfirst++vs) hA b (tf.mono l1 q1) (i9.app (tfirst.mono l1 q1) t1)) (λ v s2 y=>wE vv y l1 q1 m1) λ _ _ z=>z
theorem pW {x:Expr}{xs:List Expr}{p:Pos}(hx:kN x=true):eval (.Call x xs [] p) env=(do callWith p (<- eval x env) [] (backTo p (starEach xs env)) []):=by
 cases x<;>first | rfl | exact ff hx
theorem sE (C:bM X) {x:Expr}{xs:List Expr}{p:Pos}{fv:V}{as:List V}{V:V}(hx:kN x=true) (hs:xs.all aE=true) (h1:bp X LP d env nm x lc sl fv lc1 sl1) (h2:lI X LP d env nm xs lc1 sl1 as lc2 sl2) (hc:jO X fv)
   (h3:lQ X LP d fv as sl2 V sl3):bp X LP d env nm (.Call x xs [] p) lc sl V lc2 sl3:=λ mm A F r R s hA H=>by
 rw [pW hx]
 refine Rn (cG h1 hA H λ vf s1 F1 r1 l1 q1 H1 t1 m1 hA=> ?_)
 rw [rE hc] at t1
 exact Ro (kq C (first:=[]) hs h2 hc h3 hA H1 t1 .nil) (λ v s2 w=>w.after l1 q1 m1) λ _ _ z=>z
theorem lR {fv:V}{as:List V}{V:V}(h:dZ X LP d fv as sl V sl1):lQ X LP d fv as sl V sl1 :=
 λ A F r R s vf vs hA H tf ts=>wpAny_call (codeAny_mono (h A F r R s vf vs hA.room H tf ts) λ ft s' z=>by
   cases z with | mk v e F1 r1 T l1 q1 H1 t1 m1=>exact e▸⟨F1,r1,T,l1,q1,H1,t1,m1⟩)
theorem BX {e:DictEntry}{a b:Nat}(C:bM X) (k:eP X e (X.aname a)):e.key.isStr (X.aname b)=Nat.beq b a:=by
 obtain ⟨t,e1,_⟩:=k
 rw [e1]
 show (X.aname a==X.aname b)=_
 rw [zh]
 by_cases h:b=a
 · subst h;rw [beq_self_eq_true,beq_self_eq_true]
 · rw [beq_eq_false_iff_ne.mpr h,beq_eq_false_iff_ne.mpr λ q=>h (C.anj _ _ q.symm)]
theorem wF {e:DictEntry}{x:Str}(k:eP X e x):e.refKey=false:=by
 obtain ⟨t,e1,_⟩:=k
 unfold DictEntry.refKey
 rw [e1]
theorem zE {n:Str}{e:DictEntry}{es:List DictEntry}(h:e.key.isStr n=true):getL n (e::es)=some (some e.val):=by
 unfold getL;rw [List.find?_cons,h]
theorem wG {n:Str}{e:DictEntry}{es:List DictEntry}(h:e.key.isStr n=false) (k:e.refKey=false):getL n (e::es)=getL n es:=by
 unfold getL;rw [List.find?_cons,h,List.any_cons,k,Bool.false_or]
noncomputable def Lk {α:Type}(P:Value->α->Prop):Option (Option Value)->Option α->Prop
 | some (some v),some w=>P v w
 | some none,none=>True
 | _,_=>False
theorem sF {α:Type}{P:Value->α->Prop}{e:DictEntry}{es:List DictEntry}{a b:Nat}{w:α}{fs:List (Nat×α)}(C:bM X) (k:eP X e (X.aname a)) (t:P e.val w) (ih:Lk P (getL (X.aname b) es) (bW b fs)):Lk P (getL (X.aname b) (e::es)) (bW b ((a,w)::fs)):=by
 have e1:=BX (b:=b) C k
 show Lk P _ (match Nat.beq b a with | true=>some w | false=>bW b fs)
 cases q:Nat.beq b a with
 | true=>rw [zE (e1.trans q)];exact t
 | false=>rw [wG (e1.trans q) (wF k)];exact ih
theorem lS (C:bM X) {b:Nat}: ∀ {fs:List (Nat×W)}{es:List DictEntry},ng X F es fs->Lk (λ v w=>RV X LP F r v (.w w)) (getL (X.aname b) es) (bW b fs)
 | [],_,.refl _=>trivial
 | _::_,_,.mk k rest=>sF C k.1 k.2 (lS C rest)
theorem fP (C:bM X) {b:Nat}: ∀ {fs:List (Nat×V)}{es:List DictEntry},iy X LP F r es fs->Lk (RV X LP F r) (getL (X.aname b) es) (bW b fs)
 | [],_,.refl _=>trivial
 | _::_,_,.mk k rest=>sF C k.1 k.2 (fP C rest)
theorem kR {α:Type}{P:Value->α->Prop}{o:Option (Option Value)}{q:Option α}{w:α}(h:Lk P o q) (e:q=some w): ∃ v,o=some (some v)/\P v w:=by
 subst e
 cases o with
 | none=>exact h.elim
 | some o=>cases o with
   | none=>exact h.elim
   | some v=>exact ⟨v,rfl,h⟩
theorem ow {α:Type}{P:Value->α->Prop}{o:Option (Option Value)}{q:Option α}(h:Lk P o q) (e:q.isSome=false):o=some none:=by
 cases q with
 | some _=>exact ff e.symm
 | none=>cases o with
   | none=>exact h.elim
   | some o=>cases o with
     | none=>rfl
     | some v=>exact h.elim
theorem nl {v:Value}{V:V}(t:RV X LP F r v V):handedIn v=true:=by
 cases V with
 | slot _=>cases t;rfl
 | clo _ _=>cases t;rfl
 | own _=>exact t.elim
 | hds _=>exact t.elim
 | w w=>cases w<;>cases t<;>first | rfl | (rename_i b;cases b<;>first | rfl | decide +kernel)
inductive wH (X:Cx) (LP:bu) (F:PM) (r:PS) (h:Heap) (x:Fv):Value->Prop
 | mk (y dx:Addr) (es:List DictEntry) (n:Nat):(X.T.init (CI X.T x)).isSome=true->InstAt h y (instObj (X.clsA (CI X.T x)) dx) (X.clsA (CI X.T x)) (some (dictOf es n)) ->
     (∀ a V',Im X.T a x=some V'-> ∃ v',getL (X.aname a) es=some (some v')/\RV X LP F r v' V')->(∀ a,IY X.T a x=false->getL (X.aname a) es=some none)->wH X LP F r h x (.ref y)
theorem pX {s:ab}{kk:Sl}{y:Addr}{x:dy}(H:HC X LP F r s R h) (hx:r kk=some y) (q:s.get kk=x) {Q:Prop}(K: ∀ T,bE X LP F r (some y) x T->(∀ {a:Addr}{P:Obj->Prop},(a,P) ∈ T-> ∃ o,h.get? a=some o/\P o)->Q):Q :=
 H.slot kk λ T Z sc z _=>by
   rw [hx,q] at sc
   exact K T sc λ m=>z.mem (Rz _ m)
theorem HC.inst (C:bM X) {s:ab}{v:Value}{V:V}{x:Fv}(H:HC X LP F r s R h) (t:RV X LP F r v V) (hc:tV s V=some x):wH X LP F r h x v:=by
 cases V with
 | own _=>exact nn hc
 | hds _=>exact nn hc
 | clo _ _=>exact nn hc
 | w w =>
   refine F8 hc λ c fs hi hc=>sR (P:=λ x=>wH X LP F r h x v) hc ?_
   have t:RW X F v (.inst c fs):=tW hi▸t
   cases t with | mk hi g1 g2 g3=> ?_
   refine .mk _ _ _ _ hi ⟨H.fro _ _ g1,rfl,rfl,H.fro _ _ g2⟩ (λ a V' e=> ?_) λ a e=>ow (lS (LP:=LP) (r:=r) C g3) e
   exact oW e λ w hw e=>sR (P:=λ V'=> ∃ v',getL (X.aname a) _=some (some v')/\RV X LP F r v' V') e (kR (P:=λ v w=>RV X LP F r v (.w w)) (lS C g3) hw)
 | slot kk =>
   cases t with | @mk y hx=> ?_
   have hc:(match s.get kk with | .obj c fs=>some (Fv.obj c fs) | .rdr _ _ nm=>some (.rdr nm) | _=>none)=some x:=hc
   cases q:s.get kk with
   | obj c fs =>
     rw [q] at hc
     refine sR (P:=λ x=>wH X LP F r h x (.ref y)) hc (pX H hx q λ T sc m=> ?_)
     cases sc with | @mk _ dx es n hi g1 g2 g3=> ?_
     obtain ⟨od,e1,e2⟩:=m (a:=dx) (P:=qX (dictOf es n)) List.mem_cons_self
     cases e2
     exact .mk y dx es n hi ⟨H.fro _ _ g1,rfl,rfl,e1⟩ (λ a V' e=>kR (fP C g2) e) λ a e=>ow (fP C g2) e
   | rdr dn qq nmw =>
     rw [q] at hc
     refine sR (P:=λ x=>wH X LP F r h x (.ref y)) hc (pX H hx q λ T sc m=> ?_)
     cases sc with | @mk _ dx es n g1 g2=> ?_
     obtain ⟨od,e1,e2⟩:=m (a:=dx) (P:=qX (dictOf es n)) List.mem_cons_self
     cases e2
     refine .mk y dx es n C.rdr ⟨H.fro _ _ g1,rfl,rfl,e1⟩ (λ a V' e=>oT e λ qa e=>sj e▸kR (fP C g2) ?_) λ a e=>ow (fP C g2) ?_
     · cases Rq qa
       obtain ⟨d1,d2,d3⟩:=C.rdrD
       have b1:Nat.beq X.T.aNam X.T.aTok=false:=gX d1
       have b2:Nat.beq X.T.aNam X.T.aAt=false:=gX d2
       simp only [dW,bW,b1,b2,Nat.beq_refl]
     · have e:(Nat.beq a X.T.aTok||(Nat.beq a X.T.aAt||Nat.beq a X.T.aNam))=false:=e
       simp only [Bool.or_eq_false_iff] at e
       simp only [dW,bW,e.1,e.2.1,e.2.2,Option.isSome_none]
   | _=>rw [q] at hc;exact nn hc
end
section
variable {X:Cx}{LP:bu}{F F':PM}{r r':PS}{R:List aK}{env:Env}{mm:Str->Option Value}{nm:List Str}{sc:Sc}{cd:Option (Addr×Str)}{lc lc1 lc2:List (Option V)}{sl sl1 sl2 sl3:ab}{d:Nat}{h h':Heap}
theorem gZ {x:Expr}{n:Str}(hx:cq x=true):attributeBase x n env (eval x env)=eval x env:=by
 cases x with
 | Call f as kw p =>
   cases f with
   | Name id q =>
     cases as with
     | nil=>exact ff hx
     | cons a l=>rfl
   | _=>rfl
 | _=>rfl
theorem jP (C:bM X) (k: ∀ b o,X.base b=some o->h.get? b=some o):X.K.In h:=λ a o e=>k _ _ (C.kin a o e)
theorem wI {s:ab}{Vo:V}{x:Fv}(h:tV s Vo=some x):frz Vo=Vo:=by cases Vo<;>first | rfl | exact nn h
theorem nq (C:bM X) {A:Around}{s:Shared}{E:Value->Shared->Prop}{a:Nat}{v:Value}{Vo V':V}{expr:Bool}{Q:Value->Shared->Prop}(ha:a < X.na) (H:HC X LP F r sl R s.heap) (t:RV X LP F r v Vo)
   (hf:eH X.T sl Vo a=some V') (q: ∀ v',RV X LP F r v' V'->Q v' { s with toks:=s.toks+1 }):wpAny (model X.prog X.w) A (getAttr v (X.aname a) expr) Q E s:=by
 refine I0 hf λ x hx hf=>oT hf λ hi hf=> ?_
 cases H.inst C t hx with | mk y dx es n h1 I hv hno=> ?_
 obtain ⟨v',e1,e2⟩:=hv a _ hf
 have K:=C.cls _ h1
 exact get_value (jP C H.base) I (plainGet_of K.get).1 (findObj_own K.dic (K.fld a ha hi) rfl e1) (nl e2) (q _ e2)
theorem Da (C:bM X) {x:Expr}{a:Nat}{p:Pos}{Vo V':V}(hx:cq x=true) (ha:a < X.na) (h1:bp X LP d env nm x lc sl Vo lc1 sl1) (hf:eH X.T sl1 Vo a=some V') :
   bp X LP d env nm (.Attribute x (X.aname a) p) lc sl V' lc1 sl1:=λ mm A F r R s hA H=>by
 refine Attribute_any_ (cG h1 hA H λ v s1 F1 r1 l1 q1 H1 t1 m1 hA=> ?_) ?_
 · have t1:RV X LP F1 r1 v Vo:=I0 hf λ x hx _=>wI hx▸t1
   cases H1 with | mk U vv b=> ?_
   exact nq C ha b t1 hf λ v' t'=>⟨F1,r1,[],l1,q1,⟨U,vv,b⟩,.v t',m1.trans .mk⟩
 · show (do
     let o <- attributeBase x (X.aname a) env (eval x env)
     standAt p.atName
     let r <- holding [o] (getAttr o (X.aname a) true)
     letTemporaryGo x o r
     pure r)=_
   rw [gZ hx]
theorem zF {p:Pos}{xs:List Expr}(hs:xs.all aE=true) (hn:xs.length < 30):methodCallForm (xs.length+([]:List Keyword).length) (backTo p (starEach xs env)) (backToKw p (keywordEach [] env))=true:=by
 unfold methodCallForm
 rw [pU hs]
 exact decide_eq_true hn
theorem zG (C:bM X) {x:Expr}{xs:List Expr}{a:Nat}{p ap:Pos}{Vo fv W:V}{first as:List Mine.V}(hx:cq x=true) (ha:a < X.na) (hs:xs.all aE=true) (hn:xs.length < 30) (hp:ap.endLine=p.line) (h1:bp X LP d env nm x lc sl Vo lc1 sl1)
   (hcal:dF X.T sl1 Vo a=some (fv,first)) (h2:lI X LP d env nm xs lc1 sl1 as lc2 sl2) (hc:jO X fv) (h3:lQ X LP d fv (first++as) sl2 W sl3):bp X LP d env nm (.Call (.Attribute x (X.aname a) ap) xs [] p) lc sl W lc2 sl3:=by
 intro mm A F r R s hA H
 rw [arm_eval_Call,gZ hx]
 refine Rn (cG h1 hA H λ v s1 F1 r1 l1 q1 H1 t1 m1 hA=>Rn (wpAny_standAt ?_))
 unfold methodCall
 rw [zF hs hn]
 have fL: ∀ (vf:Value) (vfirst:List Value) (s2:Shared),HS X LP F1 r1 env mm nm lc1 sl1 R s2.heap->Sm s s2->dG A d s2->RV X LP F1 r1 vf fv->i9 X LP F1 r1 vfirst first ->
     wpAny (model X.prog X.w) A (methodCallPos true x env ap p >>= λ callPos=>callWith callPos vf vfirst (backTo p (starEach xs env)) (backToKw p (keywordEach [] env))) (kH X LP F r R s env mm nm W lc2 sl3) (λ _ _=>False) s2:=λ vf vfirst s2 H2 m2 hA2 tf tfirst =>
   Rn (wpAny_of_eq (show methodCallPos true x env ap p=pure p by unfold methodCallPos;simp [hp]) (Ro (kq C (first:=first) hs h2 hc h3 hA2 H2 tf tfirst) (λ v s3 w=>w.after l1 q1 m2) λ _ _ z=>z))
 refine I0 hcal λ xo hxo hcal=> ?_
 have t1:RV X LP F1 r1 v Vo:=wI hxo▸t1
 cases id H1 with | mk U vv b=> ?_
 cases b.inst C t1 hxo with | mk y dx es n hi I hv hno=> ?_
 have K:=C.cls _ hi
 have G:=plainGet_of K.get
 refine NB hcal (λ f hm e=>oF e λ hh e=> ?_) λ hm e=>oV e λ fv' hf e=> ?_
 · obtain ⟨m1',m2',fI⟩:=K.mth a f ha hm
   obtain ⟨e1,e2⟩:=Prod.mk.inj (sj e)
   refine Rn (wpAny_holding (method_fn (jP C b.base) I G.1 G.2 m1' (beq_iff_eq.mp m2') ?_ (fL _ _ s1 H1 m1 hA (e1▸RV.w (I5.mk fI)) (e2▸ .cons t1 .nil))))
   show (lookIn (X.aname a) (dictOf es n)).map _=_
   rw [lookIn_dict,hno a hh];rfl
 · obtain ⟨e1,e2⟩:=Prod.mk.inj (sj e)
   refine oT hf λ hi' _=>Rn (wpAny_holding (method_usual (jP C b.base) I G.1 G.2 (K.fld a ha hi') rfl ?_))
   exact nq C ha b t1 (show eH X.T sl1 Vo a=some fv' by unfold eH;rw [hxo];exact hf) λ v' t'=>fL _ _ { s1 with toks:=s1.toks+1 } ⟨U,vv,b⟩ (m1.trans .mk) (hA.up (Nat.le_succ _)) (e1▸t') (e2▸ .nil)
end
theorem iH (x:Str) (w:Nat): ∀ (cuts:List Nat) (a:Nat),(StrLaws.partsFrom x w a cuts).length=cuts.length+1
 | [],_=>rfl
 | c::r,a=>by rw [StrLaws.partsFrom,List.length_cons,iH x w r,List.length_cons]
theorem iX (c:Nat): ∀ (x acc:List Nat),(((bD c acc x).map ae).map (·.length)).sum<=acc.length+x.length
 | [],acc=>Nat.le_of_eq ((Nat.add_zero _).trans List.length_reverse)
 | d::r,acc=>by
   cases e:Nat.beq d c with
   | true =>
     cases Rq e
     rw [ij]
     show (ae acc.reverse).length+_<=_
     rw [cH,List.length_reverse]
     exact Nat.add_le_add_left (Rl (iX _ r []) (Rl (Nat.le_of_eq (Nat.zero_add _)) (Nat.le_succ _))) _
   | false =>
     rw [eR e]
     exact Rl (iX c r (d::acc)) (Nat.le_of_eq (Nat.succ_add_eq_add_succ ..))
theorem wJ (c:Nat) (t x:List Nat) (h:x.length+(x.length+1) * t.length<=cw):(cZ t (bD c [] x)).length<=cw:=by
 refine Rl (jN t _) (Rl ?_ h)
 rw [jo]
 exact Nat.add_le_add (Rl (iX c x []) (Nat.le_of_eq (Nat.zero_add _))) (Nat.mul_le_mul_right _ (fj c x []))
section
variable {X:Cx}{LP:bu}{F F':PM}{r r':PS}{R:List aK}{env:Env}{mm:Str->Option Value}{nm:List Str}{sc:Sc}{cd:Option (Addr×Str)}{lc lc1 lc2:List (Option V)}{sl sl1 sl2 sl3:ab}{d:Nat}{h h':Heap}
theorem jQ: ∀ {ws:List W}{vs:List Value}{xs:List (List Nat)},cF X F vs ws->eM ws=some xs-> ∃ l:List (Str×Tok),vs=strValues l/\l.map (·.1)=xs.map ae
 | [],_,_,.refl _,e=>⟨[],rfl,by cases sj e;rfl⟩
 | w::ws,_,xs,.mk a b,e=>by
   refine iP e λ x hx e=>F9 e λ l q e=> ?_
   have a:=da hx▸a
   cases a with | mk t _=> ?_
   obtain ⟨l',h1,h2⟩:=jQ b q
   exact ⟨(ae x,t)::l',h1▸rfl,(congrArg (ae x:: ·) h2).trans (congrArg (List.map ae) (sj e))⟩
theorem nt: ∀ {l:List (Str×Tok)}{xs:List (List Nat)},l.map (·.1)=xs.map ae->(∀ x ∈ xs,x.length<=cw)->cF X F (strValues l) (xs.map .str)
 | [],[],_,_=> .nil
 | [],_::_,e,_=>nomatch e
 | _::_,[],e,_=>nomatch e
 | (y,t)::l,x::xs,e,hx=>by
   obtain ⟨e1,e2⟩:=List.cons.inj e
   have e1:y=ae x:=e1
   subst e1
   exact .cons (.str x t (hx x List.mem_cons_self)) (nt e2 λ z hz=>hx z (Rk _ hz))
noncomputable def Fo:BM->String
 | .get => "dict"
 | _ => "str"
noncomputable def Fp:BM->String
 | .join => "str.join" | .split => "str.split" | .replace => "str.replace" | .index => "str.index" | .get => "dict.get"
theorem oy (b:BM):PlainAttrs (Fo b)/\Slot (Fo b) (lH b) (Fp b)/\typeOf (.builtin (Fp b))=pure (.type "method_descriptor"):=by
 cases b
 · exact ⟨PySem.F.plainAttrs_str,PySem.F.slot_str_join,PySem.F.type_str_join⟩
 · exact ⟨PySem.F.plainAttrs_str,PySem.F.slot_str_split,PySem.F.type_str_split⟩
 · exact ⟨PySem.F.plainAttrs_str,PySem.F.slot_str_replace,PySem.F.type_str_replace⟩
 · exact ⟨PySem.F.plainAttrs_str,PySem.F.slot_str_index,PySem.F.type_str_index⟩
 · exact ⟨PySem.F.plainAttrs_dict,PySem.F.slot_dict_get,PySem.F.type_dict_get⟩
theorem BY {b:BM}{o z:W}{ws:List W}(e:vc b o ws=some z) {P:Prop}(k1: ∀ x w,o= .str x->ws=[w]->Ik b x w=some z->P) (k2: ∀ v w,ws=[v,w]->IW b o v w=some z->P):P:=by
 refine Lu e (λ w hw e=>iP e λ x hx e=>k1 x w (da hx) (fU hw) e) λ _ e=>I3 e λ v w hw e=>k2 v w (kL hw) e
theorem sG {b:BM}{s:Shared}{v:Value}{x z:W}{ws:List W}(k: ∀ a o,F a=some o->s.heap.get? a=some o) (t:RW X F v x) (e:vc b x ws=some z) :
   s.TypeIs v (Fo b)/\ ∀ a,v= .ref a-> ∃ ob,s.heap.get? a=some ob/\ob.dict=none:=by
 have str: ∀ {y},RW X F v (.str y)->s.TypeIs v "str" /\ ∀ a,v= .ref a-> ∃ ob,s.heap.get? a=some ob/\ob.dict=none:=λ t=>by cases t;exact ⟨typeIs_str _ _ _,nofun⟩
 refine BY e (λ y w hy _ e=> ?_) λ u w _ e=> ?_
 · have r:=str (hy▸t)
   cases b<;>first | exact r | exact nn e
 · cases b with
   | replace=>exact iP e λ y hy _=>str (da hy▸t)
   | get =>
     refine oD e λ l hl _=> ?_
     have t:=nU hl▸t
     cases t with | mk g1 g2 g3 g4 g5=>exact ⟨⟨_,k _ _ g1,g2.1⟩,λ a e=>by cases e;exact ⟨_,k _ _ g1,g2.2.1⟩⟩
   | _=>exact nn e
theorem rF {A:Around}{s:Shared}{x:List Nat}{c:Nat}{t u:Tok}(H:HC X LP F r sl R s.heap) (hx:x.length+2<=cw) :
   wpAny (model X.prog X.w) A (call (.builtin "str.split") [.str (ae x) t,.str (ae [c]) u]) (yQ X LP F r R s (.w (.lst ((bD c [] x).map .str))) sl) (λ _ _=>False) s:=by
 have fL: ∀ (l:List (Str×Tok)) (tk:Tok),l.map (·.1)=Txt.split (ae x) ⟨#[c]⟩ ->
     yQ X LP F r R s (.w (.lst ((bD c [] x).map .str))) sl (.ref s.heap.objs.size) { s with toks:=tk,heap:=s.heap.push { cls:= .type "list",data:= .seq (strValues l).toArray } }:=by
   intro l tk e
   rw [pT] at e
   refine om H (aR _ _) (aN _) (Heap.get?_push_size _ rfl) (λ G lg g=> .lst g rfl rfl ?_ (nt e λ p hp=> ?_)) .mk
   · have:(strValues l).length=(bD c [] x).length:=by
       have:=congrArg List.length e
       simpa [strValues] using this
     rw [this];exact Rl (fj c x []) (Nat.le_of_succ_le hx)
   · exact Rl (iV c x [] p hp) (Rl (Nat.le_of_eq (Nat.zero_add _)) (Rl (Ru _ 2) hx))
 have one:((ae [c]).length==0)=false:=by rw [cH];rfl
 have hl:(ae x).length<=sizeLine:=by rw [cH];exact bZ (Rl (Ru _ 2) hx)
 cases h1:(decide ((ae x).length < (ae [c]).length)||decide (Builtin.Str.strKind (ae x) < Builtin.Str.strKind (ae [c])))
 · cases hf:(Builtin.Str.occurrences (ae x) (ae [c]) 0 (ae x).length ((ae x).length+1)).isEmpty
   · refine call_meets PySem.F.slot_str_split (typeIs_str _ _ _) PySem.F.entry_str_split (PySem.F.args_str_split_2 _ _) (meets_str_split_sep (ae x) (ae [c]) t u h1 one hf hl ?_) ?_
     · rw [StrLaws.partsBetween_eq,iH]
       have:=StrLaws.occ_length_le_len (ae x) (ae [c]) 0 (ae x).length ((ae x).length+1)
       exact bZ (Rl (Nat.succ_le_succ this) hx)
     · show yQ X LP F r R s _ sl _ _
       rw [strsFrom_eq]
       exact fL _ _ ((numbered_texts _ _).trans ((if_neg (ne_true_of_eq_false h1)).trans (if_neg (ne_true_of_eq_false hf))).symm)
   · refine call_meets PySem.F.slot_str_split (typeIs_str _ _ _) PySem.F.entry_str_split (PySem.F.args_str_split_2 _ _) (meets_str_split_not_found (ae x) (ae [c]) t u h1 one hf) ?_
     exact fL [(ae x,t)] _ ((if_neg (ne_true_of_eq_false h1)).trans (if_pos hf)).symm
 · refine call_meets PySem.F.slot_str_split (typeIs_str _ _ _) PySem.F.entry_str_split (PySem.F.args_str_split_2 _ _) (meets_str_split_cannot_occur (ae x) (ae [c]) t u h1) ?_
   exact fL [(ae x,t)] _ (if_pos h1).symm
noncomputable abbrev rG (X:Cx) (LP:bu) (F:PM) (r:PS) (R:List aK) (sl:ab) (A:Around) (s:Shared) (b:BM) (v:Value) (vs:List Value) (z:W):Prop:=wpAny (model X.prog X.w) A (call (.builtin (Fp b)) (v::vs)) (yQ X LP F r R s (.w z) sl) (λ _ _=>False) s
section
variable {A:Around}{s:Shared}{v u u':Value}{x:List Nat}{z:W}(H:HC X LP F r sl R s.heap)
include H
theorem um {l:List W}(t:RW X F v (.str x)) (a:RW X F u (.lst l)) (e:mT x l=some z):rG X LP F r R sl A s .join v [u] z:=by
 refine F9 e λ xs q e=>oT e λ p e=>sR (P:=λ z=>rG X LP F r R sl A s .join v [u] z) e ?_
 have p:=Rm p
 cases t
 cases a with | mk g1 g2 g3 g4 g5=> ?_
 obtain ⟨l,rfl,e2⟩:=jQ g5 q
 refine SC.join ⟨_,H.fro _ _ g1,g2,_,g3⟩ e2 (nj p) λ t' k=>ef H ?_
 rw [show Txt.join (ae x) (xs.map ae)=ae (cZ x xs) from (StrLaws.glued_eq_join _ _).trans (fO _ xs)]
 exact dh (.str _ _ (Rl (jN _ _) p))
theorem wK {b:BM}{w:W}(t:RW X F v (.str x)) (a:RW X F u w) (e:Ik b x w=some z):rG X LP F r R sl A s b v [u] z:=by
 cases b with
 | join=>exact oL e λ l hl e=>um H t (fS hl▸a) e
 | split =>
   refine oN e λ c hc e=>oT e λ p e=>sR (P:=λ z=>rG X LP F r R sl A s .split v [u] z) e ?_
   have a:=rk hc▸a
   cases t;cases a
   exact rF H (Rm p)
 | index =>
   refine oN e λ c hc e=>oN e λ n p e=>sR (P:=λ z=>rG X LP F r R sl A s .index v [u] z) e ?_
   have a:=rk hc▸a
   cases t;cases a
   obtain ⟨rest,o⟩:=ug p
   exact call_gives PySem.F.slot_str_index (typeIs_str _ _ _) PySem.F.entry_str_index (PySem.F.args_str_index_2 _ _) (gives_str_index _ _ _ _ n rest o) (ef H (dh (.int _ _)))
 | _=>exact nn e
theorem wL {l:List (List Nat×W)}{k:List Nat}{w:W}(t:RW X F v (.dct l)) (a:RW X F u (.str k)) (c:RW X F u' w) (e:FW l k w=some z):rG X LP F r R sl A s .get v [u,u'] z:=by
 cases a
 cases t with | @mk _ _ es _ g1 g2 g3 g4 g5=> ?_
 have hm:=kP (X:=X) X.prog (H.fro _ _ g1) g2 g3 g5
 refine call_meetsIn PySem.F.slot_dict_get hm.typeIs PySem.F.entry_dict_get (PySem.F.args_dict_get_3 _ _ _) (meets_dict_get_default (strKind X.prog X.w) _ (strKind_is X.prog X.w _ _) g4 _) ⟨_,hm,ef H ?_⟩
 have f:=ji k g5
 generalize findBy Value.isStrOf es.toArray (ae k)=o at f
 refine Lu e (λ w' q e=> ?_) λ q e=> ?_
 · rw [q] at f
   cases o with
   | none=>exact f.elim
   | some v'=>exact sj e▸dh f
 · rw [q] at f
   cases o with
   | none=>exact sj e▸dh c
   | some v'=>exact f.elim
end
theorem zH {A:Around}{s:Shared}{b:BM}{v:Value}{vs:List Value}{x z:W}{ws:List W}(hb:b≠ .replace) (H:HC X LP F r sl R s.heap) (t:RW X F v x) (ts:cF X F vs ws) (e:vc b x ws=some z):rG X LP F r R sl A s b v vs z:=by
 refine BY e (λ y w hy hw e=> ?_) λ u w hw e=> ?_
 · have ts:=hw▸ts
   cases ts with | mk a c=> ?_
   cases c
   exact wK H (hy▸t) a e
 · have ts:=hw▸ts
   cases ts with | mk a c=> ?_
   cases c with | mk c c'=> ?_
   cases c'
   cases b with
   | get=>exact oD e λ l hl e=>iP e λ k hk e=>wL H (nU hl▸t) (da hk▸a) c e
   | replace=>exact absurd rfl hb
   | _=>exact nn e
end
section
variable {X:Cx}{LP:bu}{F F':PM}{r r':PS}{R:List aK}{env:Env}{mm:Str->Option Value}{nm:List Str}{sc:Sc}{cd:Option (Addr×Str)}{lc lc1 lc2:List (Option V)}{sl sl1 sl2 sl3:ab}{d:Nat}{h h':Heap}
theorem oz {p:Pos}{xs:List Expr}(hs:xs.all aE=true) (hn:xs.length < 30):((backTo p (starEach xs env)).all (λ x=> !x.1)&&(backToKw p (keywordEach [] env)).all (λ x=>x.1.isSome)
     && decide (xs.length+([]:List Keyword).length+(if ([]:List Keyword).isEmpty then 0 else 1) < 30))=true:=by
 rw [pU hs]
 exact decide_eq_true hn
theorem wM {b:BM}{x:Expr}{xs:List Expr}{p ap:Pos}{w z:W}{ws:List W}{as:List V}(hb:b≠ .replace) (hx:cq x=true) (hs:xs.all aE=true) (hn:xs.length < 30) (hp:ap.endLine=p.line)
   (h1:bG X LP d env nm x lc sl w lc1 sl1) (h2:lI X LP d env nm xs lc1 sl1 as lc2 sl2) (hw:aZ as=some ws) (e:vc b w ws=some z):bp X LP d env nm (.Call (.Attribute x (lH b) ap) xs [] p) lc sl (.w z) lc2 sl2:=λ mm A F r R s hA H=>by
 refine wpAny_Call_method_lateS (gZ hx) (oz hs hn) (by simp [hp]) (cz h1 hA H λ v s1 F1 r1 l1 q1 H1 t1 m1 hA=> ?_)
 obtain ⟨f1,f2,f3⟩:=oy b
 obtain ⟨g1,g2⟩:=sG H1.fro t1 e
 refine ⟨Fo b,Fp b,f1,f2,f3,g1,g2,callWith_builtin (db hs) (ik hs (fi h2 hA H1 λ vs s2 F2 r2 l2 q2 H2 t2 m2 hA=> ?_))⟩
 cases H2 with | mk U vv bb=> ?_
 exact Ro (zH hb bb (t1.mono l2) (iT hw t2) e) (λ v' s3 y=>wE vv y (l1.trans l2) (q1.trans q2) (m1.trans m2)) λ _ _ z=>z
theorem zI {x:Expr}{p ap p1 p2:Pos}{k1 k2:Nat}{w z:W}{c:Nat}{t:List Nat}(hx:cq x=true) (hp:ap.endLine=p.line)
   (h1:bG X LP d env nm x lc sl w lc1 sl1) (e:vc .replace w [.str [c],.str t]=some z):bp X LP d env nm (.Call (.Attribute x "replace" ap) [.Constant (.str (ae [c])) k1 p1,.Constant (.str (ae t)) k2 p2] [] p) lc sl (.w z) lc1 sl1:=λ mm A F r R s hA H=>by
 refine wpAny_Call_method_lateS (gZ hx) (oz rfl (by show 2 < 30;decide)) (by simp [hp]) (cz h1 hA H λ v s1 F1 r1 l1 q1 H1 t1 m1 hA=> ?_)
 obtain ⟨f1,f2,f3⟩:=oy .replace
 obtain ⟨g1,g2⟩:=sG H1.fro t1 e
 refine ⟨Fo .replace,Fp .replace,f1,f2,f3,g1,g2,callWith_builtin (db rfl) (ik rfl (wpAny_items_cons (wpAny_Constant_str (wpAny_items_cons (wpAny_Constant_str (wpAny_items_nil ?_))))))⟩
 refine iP (show (match gH w with | some x=>vD x c t | none=>none)=some z from e) λ y hy e=>oT e λ q e=> ?_
 obtain ⟨q1',q2'⟩:=Bool.and_eq_true_iff.mp q
 have q1':=Rm q1'
 have t1:=da hy▸t1
 cases t1
 refine SC.replace (Nat.ne_of_gt hA.2.2.2) (Nat.succ_ne_zero _) (Nat.ne_of_lt (Nat.lt_succ_self _)) ?_ (by rw [cH,cH];exact q1') λ t' k=> ?_
 · have:(t==[c])=false:=by simpa using q2'
   rw [fM,beq_eq_false_iff_ne]
   exact λ z=>ne_of_beq_false this z.symm
 · show kH X LP F r R s env mm nm _ lc1 sl1 (.str (Txt.replace (ae y) ⟨#[c]⟩ (ae t)) t') _
   rw [StrLaws.replace_one,pT,fO]
   exact ⟨F1,r1,[],l1,q1,H1,sR (P:=λ z=>RT X LP F1 r1 [] _ (.w z)) e (.v (.w (.str _ t' (wJ c t y q1')))),m1.trans .mk⟩
theorem zJ {n k:Nat}{p p':Pos}:bp X LP d env nm (.UnaryOp .USub (.Constant (.int n) k p) p') lc sl (.w (.int (-(n:Int)))) lc sl:=λ mm A F r R s hA H =>
 wpAny_UnaryOp (wpAny_Constant_int (P.neg_int ⟨F,r,[],.refl _,.refl _,H,.v (.w (.int _ _)),.mk⟩))
end
inductive Gv (k:List Nat):Option Expr->Prop
 | mk (c:Nat) (p:Pos):k.length<=cw->Gv k (some (.Constant (.str (ae k)) c p))
noncomputable def MK:List (List Nat)->List (Option Expr)->Prop
 | [],kx=>kx=[]
 | k::ks,kx=>cN (Gv k) (MK ks) kx
inductive Jc (lc:List (Option V)) (sl:ab):List V->List (Option V)->ab->Prop
 | mk:Jc lc sl [] lc sl
inductive Lw (X:Cx) (LP:bu) (d:Nat) (env:Env) (nm:List Str) (x:Expr) (Q:List (Option V)->ab->List V->List (Option V)->ab->Prop) (l:List (Option V)) (s:ab):List V->List (Option V)->ab->Prop
 | mk {l1 l2:List (Option V)} {s1 s2:ab} {Vo:V} {Vs:List V}:aE x=true->bp X LP d env nm x l s Vo l1 s1->Q l1 s1 Vs l2 s2->Lw X LP d env nm x Q l s (frz Vo::Vs) l2 s2
noncomputable def qY (X:Cx) (LP:bu) (d:Nat) (env:Env) (nm:List Str):List Expr->List (Option V)->ab->List V->List (Option V)->ab->Prop
 | [],l,s,Vs,l',s'=>Jc l s Vs l' s'
 | x::xs,l,s,Vs,l',s'=>Lw X LP d env nm x (qY X LP d env nm xs) l s Vs l' s'
section
variable {X:Cx}{LP:bu}{F F':PM}{r r':PS}{R:List aK}{env:Env}{mm:Str->Option Value}{nm:List Str}{sc:Sc}{cd:Option (Addr×Str)}{lc lc1 lc2:List (Option V)}{sl sl1 sl2 sl3:ab}{d:Nat}{h h':Heap}
theorem HS.updO {a:Addr}{o:Obj}{P P':Obj->Prop}(x:HS X LP F r env mm nm lc sl ((a,P)::R) h) (k: ∀ b o,b≠a->h.get? b=some o->h'.get? b=some o) (e:h'.get? a=some o) (q:P' o):HS X LP F r env mm nm lc sl ((a,P')::R) h' :=
 HS.open (T:=[(a,P)]) x λ U v b=>HS.shut (T:=[(a,P')]) v (b.upd k e q)
theorem HS.frzO {a:Addr}{P:Obj->Prop}(x:HS X LP F r env mm nm lc sl ((a,P)::R) h) {Q:Prop}(k: ∀ o,P o->F.le (F.set a o)->HS X LP (F.set a o) r env mm nm lc sl R h->Q):Q :=
 HS.open (T:=[(a,P)]) x λ U v b=>HC.freeze b λ o p l b'=>k o p l ⟨U,v.mono l (.refl _),b'⟩
theorem HS.headO {a:Addr}{P:Obj->Prop}(x:HS X LP F r env mm nm lc sl ((a,P)::R) h): ∃ o,h.get? a=some o/\P o:=HS.open (T:=[(a,P)]) x λ U v b=>HC.head b
theorem qY.ok: ∀ {xs:List Expr}{lc:List (Option V)}{sl:ab}{Vs:List V}{lc':List (Option V)}{sl':ab},qY X LP d env nm xs lc sl Vs lc' sl'->lI X LP d env nm xs lc sl Vs lc' sl'
 | [],_,_,_,_,_,.mk=>lJ
 | _::_,_,_,_,_,_,.mk a b c=>jg a b (qY.ok c)
theorem qY.stars: ∀ {xs:List Expr}{lc:List (Option V)}{sl:ab}{Vs:List V}{lc':List (Option V)}{sl':ab},qY X LP d env nm xs lc sl Vs lc' sl'->xs.all aE=true
 | [],_,_,_,_,_,_=>rfl
 | _::_,_,_,_,_,_,.mk a b c=>Bool.and_eq_true_iff.mpr ⟨a,qY.stars c⟩
theorem qY.len: ∀ {xs:List Expr}{lc:List (Option V)}{sl:ab}{Vs:List V}{lc':List (Option V)}{sl':ab},qY X LP d env nm xs lc sl Vs lc' sl'->Vs.length=xs.length
 | [],_,_,_,_,_,.mk=>rfl
 | _::_,_,_,_,_,_,.mk a b c=>congrArg (· + 1) (qY.len c)
theorem lT: ∀ {ks:List (List Nat)}{kx:List (Option Expr)}{xs:List Expr}{lc:List (Option V)}{sl:ab}{Vs:List V}{lc':List (Option V)}{sl':ab}(mk:MK ks kx) (L:qY X LP d env nm xs lc sl Vs lc' sl') (hl:ks.length=xs.length)
   {A:Around} {F:PM} {r:PS} {R:List aK} {s:Shared} {pos:Pos} {Q:List (Value×Value)->Shared->Prop} (hA:dG A d s) (H:HS X LP F r env mm nm lc sl R s.heap)
   (k: ∀ vs ej s' F' r',F.le F'->r.le r'->HS X LP F' r' env mm nm lc' sl' R s'.heap->i9 X LP F' r' ej Vs->Carries (strKind X.prog X.w) vs ((ks.map ae).zip ej)->Sm s s'->Q vs s'),
   wpAny (model X.prog X.w) A (evalPairs (pairTrees kx xs env pos)) Q (λ _ _=>False) s
 | [],_,[],_,_,_,_,_,mk,L,hl,A,F,r,R,s,pos,Q,hA,H,k=>by
   cases mk;cases L
   exact pairTrees_nil_walk (k [] [] s F r (.refl _) (.refl _) H .nil trivial (.refl _))
 | [],_,_::_,_,_,_,_,_,_,_,hl,_,_,_,_,_,_,_,_,_,_=>nomatch hl
 | _::_,_,[],_,_,_,_,_,_,_,hl,_,_,_,_,_,_,_,_,_,_=>nomatch hl
 | k0::ks,_,x::xs,_,_,_,_,_,mk,L,hl,A,F,r,R,s,pos,Q,hA,H,k=>by
   cases mk with | mk kc mk=> ?_
   cases kc with | mk c p hk=> ?_
   cases L with | mk hs h1 L=> ?_
   refine pairTrees_cons_walk (wpAny_Constant_str (cG (s:={ s with toks:=s.toks+1 }) h1 (hA.up (Nat.le_succ _)) H λ v s1 F1 r1 l1 q1 H1 t1 m1 hA=> ?_))
   exact lT mk L (Nat.succ.inj hl) hA H1 λ vs ej s2 F2 r2 l2 q2 H2 t2 cc m2 =>
     k _ (v::ej) s2 F2 r2 (l1.trans l2) (q1.trans q2) H2 (.cons (t1.mono l2 q2) t2) ⟨strKind_is X.prog X.w _ _,rfl,cc⟩ (Sm.trans .mk (m1.trans m2))
theorem lU {K:Type} [DecidableEq K]: ∀ (l acc:List (K×Value)),(acc.map (·.1)++l.map (·.1)).Nodup->merged acc l=acc++l
 | [],acc,_=>(List.append_nil acc).symm
 | (k,v)::l,acc,h=>by
   have hn:acc.any (λ kv=>decide (kv.1=k))=false:=by
     rw [List.any_eq_false]
     intro kv hkv e
     exact (List.nodup_append.mp h).2.2 kv.1 (RA hkv) k List.mem_cons_self (of_decide_eq_true e)
   have st:stored acc k v=acc++[(k,v)]:=by
     unfold stored
     rw [if_neg (by rw [hn];decide)]
   show merged (stored acc k v) l=_
   rw [st,lU l (acc++[(k,v)]) (by rw [List.map_append,List.append_assoc];exact h),List.append_assoc]
   rfl
theorem wO: ∀ {ks:List (List Nat)}{es:List DictEntry}{ej:List Value}{ws:List W},Pairs (strKind X.prog X.w) es ((ks.map ae).zip ej)->(∀ e ∈ es,∃ k,(strKind X.prog X.w).is k e.key=true/\e.hash=(strKind X.prog X.w).hash k) ->
   cF X F ej ws->ks.length=ej.length->kM X F es (ks.zip ws)
 | [],_,[],[],p,_,_,_=>by cases p;exact .nil
 | [],_,[],_::_,_,_,t,_=>nomatch t
 | [],_,_::_,_,_,_,_,e=>nomatch e
 | _::_,_,[],_,_,_,_,e=>nomatch e
 | _::_,_,_::_,[],_,_,t,_=>nomatch t
 | k::ks,_,v::ej,w::ws,p,hk,t,e=>by
   cases t with | mk a b=> ?_
   cases p with | @cons en kv es kvs p1 p2 p3=> ?_
   refine .cons ?_ (p2▸a) (wO p3 (λ e he=>hk e (Rk _ he)) b (Nat.succ.inj e))
   obtain ⟨k',h1,h2⟩:=hk en List.mem_cons_self
   have p1:Value.isStrOf (ae k) en.key=true:=p1
   obtain ⟨t,ht⟩:=Value.isStrOf_shape p1
   cases (strKind X.prog X.w).inj _ _ _ h1 p1
   exact ⟨t,ht,h2⟩
theorem oA: ∀ {ks:List (List Nat)}{kx:List (Option Expr)},MK ks kx->kx.length=ks.length/\kx.all (·.isSome)=true
 | [],_,.refl _=>⟨rfl,rfl⟩
 | _::_,_,h=>by
   cases h with | mk a b=> ?_
   cases a
   exact ⟨congrArg (· + 1) (oA b).1,(oA b).2⟩
theorem sH (C:bM X) {a:Addr}(H:HS X LP F r env mm nm lc sl R h) (f:h.get? a=none):(a==sysModules)=false:=by
 rw [beq_eq_false_iff_ne]
 intro z
 obtain ⟨o2,e2⟩:=Option.isSome_iff_exists.mp C.sysm
 have:=H.base _ _ e2
 rw [<- z,f] at this;exact nn this
theorem rH {ks:List (List Nat)}(nd:ks.Nodup):(ks.map ae).Nodup:=by
 rw [List.nodup_iff_pairwise_ne] at nd ⊢
 rw [List.pairwise_map]
 exact nd.imp λ a e=>a (eq_of_beq ((fM (a:=_) (b:=_))▸beq_iff_eq.mpr e))
theorem zK (C:bM X) {p:Pos}:bp X LP d env nm (.Dict [] [] p) lc sl (.w (.dct [])) lc sl:=λ mm A F r R s hA H=>by
 obtain ⟨l,H1⟩:=H.newF (aR _ { cls:= .type "dict",data:= .dict #[] }) (aN _) (Heap.get?_push_size _ rfl)
 exact wpAny_Dict_empty ⟨_,r,[],l,.refl _,H1,.v (.w (.dct (PM.set_self _ _ _) ⟨rfl,rfl,rfl⟩ rfl (sH C H (aN _)) .nil)),.mk⟩
theorem zL (C:bM X) {ks:List (List Nat)}{kx:List (Option Expr)}{xs:List Expr}{p:Pos}{Vs:List V}{ws:List W}(mk:MK ks kx) (L:qY X LP d env nm xs lc sl Vs lc1 sl1) (hl:ks.length=xs.length) (nd:ks.Nodup) (hn:xs.length<=15) (hw:aZ Vs=some ws) (h0:kx≠[]) :
   bp X LP d env nm (.Dict kx xs p) lc sl (.w (.dct (ks.zip ws))) lc1 sl1:=λ mm A F r R s hA H=>by
 have kl:=(oA mk).1
 have H0:=H.newO (P:=qX { cls:= .type "dict",data:= .dict #[] }) (aR _ { cls:= .type "dict",data:= .dict #[] }) (aN _) (Heap.get?_push_size _ rfl) rfl
 refine wpAny_Dict_walk (knd:=strKind X.prog X.w) (oA mk).2 (kl.trans hl) h0 (Rl (Nat.le_of_eq (kl.trans hl)) hn)
   (lT mk L hl (s:={ s with heap:=s.heap.push { cls:= .type "dict",data:= .dict #[] } }) hA H0 λ vs ej s1 F1 r1 l1 q1 H1 t1 cc m1=>⟨_,cc,?_,λ h' hd sb=> ?_⟩)
 · obtain ⟨o,e,q⟩:=H1.headO
   cases q
   exact ⟨_,#[],0,e,⟨rfl,rfl,rfl⟩,rfl,(λ e he=>by simp at he),.nil,List.nodup_nil⟩
 · have vl:ks.length=ej.length:=by rw [hl,t1.length,L.len]
   have nk:((ks.map ae).zip ej).map (·.1)=ks.map ae:=List.map_fst_zip (Nat.le_of_eq ((List.length_map _).trans vl))
   rw [lU _ [] (nk.symm▸rH nd)] at hd
   obtain ⟨o,es,ep,e,x,hdd,hk,hp,_⟩:=hd
   refine (H1.updO (P':=qX o) (λ b ob hb eb=>sb.extBut b ob hb eb) e rfl).frzO λ o' p' l2 H3=> ?_
   cases p'
   refine ⟨_,r1,[],l1.trans l2,q1,H3,.v (.w (.dct (PM.set_self _ _ _) x (es:=es.toList) hdd (sH C H (aN _)) ?_)),Sm.trans (Sm.trans .mk m1) .mk⟩
   exact wO hp (λ e he=>hk e (Array.mem_toList_iff.mp he)) ((iT hw t1).mono l2) vl
theorem Db (C:bM X) {ks:List (List Nat)}{kx:List (Option Expr)}{xs:List Expr}{p:Pos}{Vs:List V}{ws:List W}(mk:MK ks kx) (L:qY X LP d env nm xs lc sl Vs lc1 sl1) (hl:ks.length=xs.length) (nd:ks.Nodup) (hn:xs.length<=15) (hw:aZ Vs=some ws) :
   bp X LP d env nm (.Dict kx xs p) lc sl (.w (.dct (ks.zip ws))) lc1 sl1:=by
 cases ks with
 | cons k ks=>exact zL C mk L hl nd hn hw λ e=>by rw [e] at mk;cases mk
 | nil =>
   cases xs with
   | cons x xs=>exact nomatch hl
   | nil=>cases mk;cases L;exact zK C
end
noncomputable def Sub (F:PM) (h:Heap):Prop:= ∀ a o,F a=some o->h.get? a=some o
noncomputable def wP (a:Addr) (h h':Heap):Prop:= ∀ b o,b≠a->h.get? b=some o->h'.get? b=some o
noncomputable def fk (o:Obj):Bool:=match o.cls,o.data with
 | .type n,.fields vs=> !(["enumerate", "zip", "dict_itemiterator", "dict_reverseitemiterator", "odict_iterator", "itertools.zip_longest", "itertools.pairwise"].contains n)
 | _,_=>true
structure jp (X:Cx) (F:PM) (I:Addr) (ws:List W) (P:Nat->Obj->Prop):Prop where
 item: ∀ {A:Around} {s:Shared} {i:Nat} {w:W} {Q:Option Value->Shared->Prop} {E:Value->Shared->Prop},A.handled=none->ws[i]?=some w->Sub F s.heap->(∃ o,s.heap.get? I=some o/\P i o) ->
   (∀ v h' tk o',RW X F v w->h'.get? I=some o'->P (i+1) o'->wP I s.heap h'->Q (some v) { s with heap:=h',toks:=tk })->wpAny (model X.prog X.w) A (pyNext (.ref I)) Q E s
 done: ∀ {A:Around} {s:Shared} {Q:Option Value->Shared->Prop} {E:Value->Shared->Prop},A.handled=none->Sub F s.heap->(∃ o,s.heap.get? I=some o/\P ws.length o) ->
   (∀ h' tk,wP I s.heap h'->Q none { s with heap:=h',toks:=tk })->wpAny (model X.prog X.w) A (pyNext (.ref I)) Q E s
 self: ∀ {A:Around} {s:Shared} {i:Nat} {Q:Value->Shared->Prop} {E:Value->Shared->Prop},A.handled=none->Sub F s.heap->(∃ o,s.heap.get? I=some o/\P i o)->Q (.ref I) s->wpAny (model X.prog X.w) A (pyIter (.ref I)) Q E s
 plain: ∀ i o,P i o->fk o=true
section
variable {X:Cx}{F F':PM}{I:Addr}{ws:List W}{P:Nat->Obj->Prop}
theorem jp.mono (l:F.le F') (x:jp X F I ws P):jp X F' I ws P where
 item:=λ hh e k o q=>x.item hh e (λ a ob z=>k a ob (l _ _ z)) o λ v h' tk o' t g p f=>q v h' tk o' (t.mono l) g p f
 done:=λ hh k o q=>x.done hh (λ a ob z=>k a ob (l _ _ z)) o q
 self:=λ hh k o q=>x.self hh (λ a ob z=>k a ob (l _ _ z)) o q
 plain:=x.plain
theorem jp.of_walks {fp:List Addr}{n:Nat}{Pv:Nat->Value->Prop}{St:Nat->Heap->Prop}(hn:ws.length=n) (W: ∀ A:Around,A.handled=none->Walks X.prog X.w A I fp [I] n Pv St) (to: ∀ i h,Sub F h->(∃ o,h.get? I=some o/\P i o)->St i h)
   (hM: ∀ i h,St i h-> ∃ o,h.get? I=some o/\P i o) (hv: ∀ i v w,ws[i]?=some w->Pv i v->RW X F v w) (pl: ∀ i o,P i o->fk o=true):jp X F I ws P where
 item:=λ {A s i w Q E} hh e k o q=>by
   have hi:i < n:=by rw [<- hn];exact (List.getElem?_eq_some_iff.mp e).1
   refine (W A hh).item i s Q E hi (to i _ k o) λ v h' tk hp st f=> ?_
   obtain ⟨o',e',p'⟩:=hM _ _ st
   exact q v h' tk o' (hv i v w e hp) e' p' λ b ob hb eb=>f b ob (λ m=>hb (List.mem_singleton.mp m)) eb
 done:=λ {A s Q E} hh k o q=>(W A hh).done s Q E (by rw [hn] at o;exact to _ _ k o) λ h' tk f=>q h' tk λ b ob hb eb=>f b ob (λ m=>hb (List.mem_singleton.mp m)) eb
 self:=λ {A s i Q E} hh k o q=>(W A hh).self i s Q E (to _ _ k o) q
 plain:=pl
theorem sI: ∀ (n:Nat) (a:Int) (i:Nat) {w:W},(fK a n)[i]?=some w->w= .int (a+i)
 | 0,_,_,_,e=>nomatch e
 | n+1,a,0,_,e=>(sj e).symm.trans (congrArg W.int (Int.add_zero a).symm)
 | n+1,a,i+1,_,e=>(sI n (a+1) i e).trans (congrArg W.int (by rw [Int.natCast_succ,Int.add_assoc,Int.add_comm 1]))
theorem oB: ∀ (n:Nat) (a:Int),(fK a n).length=n
 | 0,_=>rfl
 | n+1,a=>congrArg (· + 1) (oB n (a+1))
noncomputable abbrev zM (X:Cx) (F:PM) (I:Addr) (ws:List W) (P:Nat->Obj->Prop):Prop:= ∀ F',F.le F'->jp X F' I ws P
theorem sJ {ad:Addr}{o:Obj}{h:Heap}(k:Sub F h) (g:F ad=some o):ad≠h.objs.size:=λ z=>nn ((aN h).symm.trans (z▸k _ _ g))
section
variable {A:Around}{s:Shared}{v:Value}{z:List W}{E:Value->Shared->Prop}{Q:Value->Shared->Prop}(k:Sub F s.heap)
 (q: ∀ (o:Obj) (P:Nat->Obj->Prop),o.isFreed=false->P 0 o->zM X F s.heap.objs.size ws P->Q (.ref s.heap.objs.size) { s with heap:=s.heap.push o })
include k q
theorem wQ (t:RW X F v (.tup ws)):wpAny (model X.prog X.w) A (pyIter v) Q E s:=by
 cases t with | @mk ad o vs n g1 g2 g3 g4 g5=> ?_
 refine wpAny_pyIter_tuple ⟨_,k _ _ g1,g2,_,g3⟩ (q _ (λ i o=>o.cls= .type "tuple_iterator" /\ o.data= .fields #[.ref ad,.int i 0]) rfl ⟨rfl,rfl⟩ λ F' l=> ?_)
 refine (jp.of_walks (n:=vs.toArray.size) (by rw [List.size_toArray,g5.length]) (λ A hh=>Walks.tuple hh _ ad (sJ k g1) vs.toArray) (λ i h kk ⟨ob,e1,e2⟩=>⟨⟨ob,e1,e2.1,e2.2⟩,⟨o,kk _ _ g1,g2,_,g3⟩⟩) (λ i h st=> ?_) (λ i v w e hp=> ?_) (λ i o p=> ?_)).mono l
 · obtain ⟨⟨ob,e1,e2,e3⟩,_⟩:=st;exact ⟨ob,e1,e2,e3⟩
 · obtain ⟨v',h1,h2⟩:=g5.nth e
   exact sj (h1.symm.trans (List.getElem?_toArray.symm.trans hp))▸h2
 · unfold fk;rw [p.1,p.2];rfl
theorem wR (t:RW X F v (.lst ws)):wpAny (model X.prog X.w) A (pyIter v) Q E s:=by
 cases t with | @mk ad o vs n g1 g2 g3 g4 g5=> ?_
 refine wpAny_pyIter_list ⟨_,k _ _ g1,g2,_,g3⟩ (q _ (λ i o=>o.cls= .type "list_iterator" /\ o.data= .fields #[.ref ad,.int i 0]) rfl ⟨rfl,rfl⟩ λ F' l=> ?_)
 refine (jp.of_walks (n:=vs.toArray.size) (by rw [List.size_toArray,g5.length]) (λ A hh=>Walks.list hh _ ad (sJ k g1) vs.toArray) (λ i h kk ⟨ob,e1,e2⟩=>⟨⟨ob,e1,e2.1,e2.2⟩,⟨o,kk _ _ g1,g2,_,g3⟩⟩) (λ i h st=> ?_) (λ i v w e hp=> ?_) (λ i o p=> ?_)).mono l
 · obtain ⟨⟨ob,e1,e2,e3⟩,_⟩:=st;exact ⟨ob,e1,e2,e3⟩
 · obtain ⟨v',h1,h2⟩:=g5.nth e
   exact sj (h1.symm.trans (List.getElem?_toArray.symm.trans hp))▸h2
 · unfold fk;rw [p.1,p.2];rfl
omit k q in
theorem sK {x:List Nat}(i:Nat) (v:Value) (w:W) (e:(x.map λ c=>W.str [c])[i]?=some w) (hp:SignAt (ae x) i v):RW X F v w:=by
 obtain ⟨c,u,h1,h2⟩:=hp
 have h1:x[i]?=some c:=List.getElem?_toArray.symm.trans h1
 rw [List.getElem?_map,h1] at e
 exact h2▸sj e▸ .str [c] u (by show 1<=cw;decide)
theorem wS {x:List Nat}(t:RW X F v (.str x)) (e:x.map (λ c=>W.str [c])=ws):wpAny (model X.prog X.w) A (pyIter v) Q E s:=by
 subst e
 cases t with | mk u hx=> ?_
 cases ha:(ae x).cps.all (· < 128)
 · refine wpAny_pyIter_wide ha (q _ (λ i o=>o.cls= .type "str_iterator" /\ o.data= .fields #[.str (ae x) u,.int i 0]) rfl ⟨rfl,rfl⟩ λ F' l=> ?_)
   refine (jp.of_walks (n:=(ae x).cps.size) (List.length_map _) (λ A hh=>Walks.strWide hh _ (ae x) u) (λ i h kk ⟨ob,e1,e2⟩=>⟨ob,e1,e2.1,e2.2⟩) (λ i h ⟨ob,e1,e2,e3⟩=>⟨ob,e1,e2,e3⟩) sK (λ i o p=> ?_)).mono l
   unfold fk;rw [p.1,p.2];rfl
 · refine wpAny_pyIter_ascii ha (q _ (λ i o=>o.cls= .type "str_ascii_iterator" /\ o.data= .fields #[.str (ae x) u,.int i 0]) rfl ⟨rfl,rfl⟩ λ F' l=> ?_)
   refine (jp.of_walks (n:=(ae x).cps.size) (List.length_map _) (λ A hh=>Walks.strAscii hh _ (ae x) u) (λ i h kk ⟨ob,e1,e2⟩=>⟨ob,e1,e2.1,e2.2⟩) (λ i h ⟨ob,e1,e2,e3⟩=>⟨ob,e1,e2,e3⟩) sK (λ i o p=> ?_)).mono l
   unfold fk;rw [p.1,p.2];rfl
omit k q in
theorem uo {a b:Int}(c:(decide (0<=a)&&(decide (a<=16777216)&&(decide (0<=b)&&decide (b<=16777216))))=true):Builtin.Range.rangeSize a b 1=((b - a).toNat:Int)/\ -2000000000<=a/\a<=2000000000/\ -2000000000<=b/\b<=2000000000:=by
 simp only [Bool.and_eq_true,decide_eq_true_eq] at c
 rw [rangeSize_one]
 refine ⟨?_,?_,?_,?_,?_⟩<;>first | lia | (split<;>lia)
theorem wT {a b:Int}(t:RW X F v (.rng a b)) (e:vF a b=some ws):wpAny (model X.prog X.w) A (pyIter v) Q E s:=by
 refine oT e λ c e=> ?_
 cases sj e
 obtain ⟨hs,c1,c2,c3,c4⟩:=uo c
 cases t with | mk g1 g2=> ?_
 obtain ⟨t1,t2,t3,rfl⟩:=g2
 refine wpAny_pyIter_range (k _ _ g1) (small_one (by lia) (by lia) (by lia) (by lia)) (q _ (λ i o=>o={ cls:= .type "range_iterator",data:= .fields #[rawInt (a+(i:Nat) * 1),rawInt (((b - a).toNat:Int) - (i:Nat)),rawInt 1] }) rfl ?_ λ F' l=> ?_)
 · rw [hs];simp
 · refine (jp.of_walks (X:=X) (F:=F) (I:=s.heap.objs.size) (P:=λ i o=>o={ cls:= .type "range_iterator",data:= .fields #[rawInt (a+(i:Nat) * 1),rawInt (((b - a).toNat:Int) - (i:Nat)),rawInt 1] }) (n:=(b - a).toNat) (oB _ a) (λ A hh=>Walks.range hh _ a 1 (b - a).toNat) (λ i h kk z=>by obtain ⟨ob,e1,e2⟩:=z;subst e2;exact e1) (λ i h st=>⟨_,st,rfl⟩) (λ i v w e ⟨t,hp⟩=> ?_) (λ i o p=> ?_)).mono l
   · rw [Int.mul_one] at hp
     exact hp▸sI _ a _ e▸ .int _ _
   · rw [p];rfl
theorem nu {iw:W}(t:RW X F v iw) (e:br iw=some ws):wpAny (model X.prog X.w) A (pyIter v) Q E s:=by
 cases iw with
 | tup l=>exact wQ k q (sj e▸t)
 | lst l=>exact wR k q (sj e▸t)
 | str x=>exact wS k q t (sj e)
 | rng a b=>exact wT k q t e
 | _=>exact nn e
end
end
theorem cU.gone {F:PM}{U:List aK}{a:Addr}{P:Obj->Prop}{h h':Heap}(x:cU F ((a,P)::U) h) (k:wP a h h'):cU F U h':=by
 have fa:=(x.own (a,P) List.mem_cons_self).1
 have y:=x.drop
 refine ⟨λ b o e=>k b o (λ z=>by rw [z,show F a=none from fa] at e;cases e) (x.fro b o e),λ p hp=> ?_,y.nod⟩
 obtain ⟨f,o,g,q⟩:=y.own p hp
 exact ⟨f,o,k _ _ (x.off p hp) g,q⟩
section
variable {X:Cx}{LP:bu}{F F':PM}{r r':PS}{R:List aK}{env:Env}{mm:Str->Option Value}{nm:List Str}{sc:Sc}{cd:Option (Addr×Str)}{lc lc1 lc2:List (Option V)}{sl sl1 sl2 sl3:ab}{d:Nat}{h h':Heap}
theorem HC.gone {a:Addr}{P:Obj->Prop}(x:HC X LP F r sl ((a,P)::R) h) (k:wP a h h'):HC X LP F r sl R h':=by
 cases x with | mk U y z e=>exact ⟨U,y,z.front.gone k,e⟩
theorem HC.subF (x:HC X LP F r sl R h):Sub F h:=x.fro
theorem HS.subF (x:HS X LP F r env mm nm lc sl R h):Sub F h:=x.fro
theorem HS.dropT {T:List aK}(x:HS X LP F r env mm nm lc sl (T++R) h):HS X LP F r env mm nm lc sl R h:=x.tr [T,R] (.n (.l 0) (.l 1)) (.l 1) rfl
theorem HS.gone {a:Addr}{P:Obj->Prop}(x:HS X LP F r env mm nm lc sl ((a,P)::R) h) (k:wP a h h'):HS X LP F r env mm nm lc sl R h' :=
 HS.open (T:=[(a,P)]) x λ U v b=>⟨U,v,HC.gone b k⟩
theorem wP.sb {a:Addr}(x:Heap.SameBut a h h'):wP a h h':=λ b o hb e=>x.extBut b o hb e
theorem Dc (K:aQ env sc nm cd):(env.scope.kind== .class||(env.scope.kind== .module&&env.locals !=env.globals))=false:=by rw [K.kind];rfl
theorem gg {M:Model}{A:Around}{E:Value->Shared->Prop}(K:aQ env sc nm cd) {i:Nat}{x:Str}{s:Shared}{T:List aK}{v:Value}{Vo:V}{Q:Unit->Shared->Prop}(hx:nm[i]?=some x) (hl:sc.lookup x=some .local) (H:HS X LP F r env mm nm lc sl (T++R) s.heap) (t:RT X LP F r T v Vo)
   (q: ∀ s' mm',HS X LP F r env mm' nm (aM lc i (some Vo)) sl R s'.heap->Sm s s'->Q () s'):wpAny M A (storeName env x v) Q E s:=by
 have hk:env.kindOf x=some .local:=(K.kindOf x).trans hl
 refine H.on hx K.nod λ l T0 Z e c b re=>wpAny_storeName_local hk (rx b) (λ h' hn sb=> ?_) (Dc K)
 obtain ⟨o,es,ep,e1,e2,e3,e4⟩:=hn
 have b1:=b.tr [T0,[(env.locals,gF mm)],Z,T,R] (.n (.l 0) (.n (.l 1) (.n (.l 2) (.n (.l 3) (.l 4))))) (.n (.l 1) (.n (.l 3) (.n (.l 2) (.l 4)))) rfl
 have b2:=HC.upd b1 (h':=h') (P':=gF λ z=>if z=x then some v else mm z) (λ b o hb eb=>sb.extBut b o hb eb) e1 ⟨es,ep,e2,e3,e4⟩
 exact q { s with heap:=h',toks:=s.toks+1 } _ (re (T':=T) (.refl _) (.refl _) (λ y _ hy=>if_neg hy) (.l hk (if_pos rfl) t) (b2.tr [[(env.locals,gF λ z=>if z=x then some v else mm z)],T,Z,R] (.n (.l 0) (.n (.l 1) (.n (.l 2) (.l 3)))) (.n (.l 1) (.n (.l 0) (.n (.l 2) (.l 3)))) rfl)) .mk
theorem oE {M:Model}{A:Around}{E:Value->Shared->Prop}(K:aQ env sc nm cd) {i:Nat}{x:Str}{p:Pos}{s:Shared}{T:List aK}{v:Value}{Vo:V}{Q:Unit->Shared->Prop}(hx:nm[i]?=some x) (hl:sc.lookup x=some .local) (H:HS X LP F r env mm nm lc sl (T++R) s.heap) (t:RT X LP F r T v Vo)
   (q: ∀ s' mm',HS X LP F r env mm' nm (aM lc i (some Vo)) sl R s'.heap->Sm s s'->Q () s'):wpAny M A (assign (.Name x p) env v) Q E s :=
 wpAny_assign_Name (gg K hx hl H t q)
noncomputable def pY (lc:List (Option V)):List Nat->List W->List (Option V)
 | i::is,w::ws=>pY (aM lc i (some (.w w))) is ws
 | _,_=>lc
theorem jq {nm:List Str}{i:Nat}{is:List Nat}{xs:List Str}(e:bF nm (i::is)=some xs) {P:Prop}(k: ∀ x l,nm[i]?=some x->bF nm is=some l->xs=x::l->P):P:=by
 have e:(match nm[i]?,bF nm is with | some x,some l=>some (x::l) | _,_=>none)=some xs:=e
 cases e1:nm[i]? with
 | none=>rw [e1] at e;exact nn e
 | some x =>
   cases e2:bF nm is with
   | none=>rw [e1,e2] at e;exact nn e
   | some l=>rw [e1,e2] at e;exact k x l e1 e2 (sj e).symm
theorem sL {M:Model}{A:Around}{E:Value->Shared->Prop}(K:aQ env sc nm cd): ∀ {is:List Nat}{ws:List W}{xs:List Str}{ps:List Pos}{vs:List Value}{lc:List (Option V)}{s:Shared}{mm:Str->Option Value}{Q:Unit->Shared->Prop},bF nm is=some xs->xs.all (λ x=>sc.lookup x==some .local)=true->xs.length=ps.length->is.length=ws.length->cF X F vs ws ->
   HS X LP F r env mm nm lc sl R s.heap->(∀ s' mm',HS X LP F r env mm' nm (pY lc is ws) sl R s'.heap->Sm s s'->Q () s') ->
   wpAny M A (assignInOrder ((assignEach ((xs.zip ps).map λ q=> .Name q.1 q.2) env).map (·.2)) vs) Q E s
 | [],_,_,_,_,lc,s,mm,Q,hn,ha,hp,hl,ts,H,q=>by
   cases sj hn
   exact Rs (q s mm H (.refl _))
 | _::_,[],_,_,_,_,_,_,_,_,_,_,hl,_,_,_=>nomatch hl
 | i::is,w::ws,xs,ps,_,lc,s,mm,Q,hn,ha,hp,hl,ts,H,q=>by
   refine jq hn λ x l e1 e2 ex=> ?_
   subst ex
   cases ts with | @mk v vs a b=> ?_
   cases ps with
   | nil=>exact nomatch hp
   | cons p ps =>
     obtain ⟨ha1,ha2⟩:=Bool.and_eq_true_iff.mp (show (sc.lookup x==some .local&&l.all (λ x=>sc.lookup x==some .local))=true from ha)
     show wpAny M A (do holding vs (assign (.Name x p) env v);assignInOrder ((assignEach ((l.zip ps).map λ q=> .Name q.1 q.2) env).map (·.2)) vs) Q E s
     exact Rn (wpAny_holding (oE (T:=[]) K e1 (eq_of_beq ha1) H (.v (.w a)) λ s1 mm1 H1 m1=>sL K e2 ha2 (Nat.succ.inj hp) (Nat.succ.inj hl) b H1 λ s2 mm2 H2 m2=>q s2 mm2 H2 (m1.trans m2)))
theorem jr: ∀ (l:List (Str×Pos)),(assignEach (l.map λ q=> .Name q.1 q.2) env).length=l.length/\(assignEach (l.map λ q=> .Name q.1 q.2) env).findIdx? (·.1)=none
 | []=>⟨rfl,rfl⟩
 | (x,p)::l=>⟨congrArg (· + 1) (jr l).1,by
     show List.findIdx? (·.1) ((false,assign (.Name x p) env)::assignEach (l.map λ q=> .Name q.1 q.2) env)=none
     rw [List.findIdx?_cons,(jr l).2];rfl⟩
theorem nw {nm:List Str}: ∀ {is:List Nat}{xs:List Str},bF nm is=some xs->xs.length=is.length
 | [],_,e=>by cases sj e;rfl
 | i::is,xs,e=>jq e λ x l e1 e2 ex=>ex▸congrArg (· + 1) (nw e2)
theorem wU {A:Around}{E:Value->Shared->Prop}(K:aQ env sc nm cd) (hA:A.handled=none) {is:List Nat}{xs:List Str}{ps:List Pos}{k:Nat}{p:Pos}{v:Value}{ws:List W}{s:Shared}{Q:Unit->Shared->Prop}(hn:bF nm is=some xs) (ha:xs.all (λ x=>sc.lookup x==some .local)=true) (hp:xs.length=ps.length)
   (hl:is.length=ws.length) (t:RW X F v (.tup ws)) (H:HS X LP F r env mm nm lc sl R s.heap) (q: ∀ s' mm',HS X LP F r env mm' nm (pY lc is ws) sl R s'.heap->Sm s s'->Q () s') :
   wpAny (model X.prog X.w) A (assign (.Tuple ((xs.zip ps).map λ q=> .Name q.1 q.2) k p) env v) Q E s:=by
 cases t with | @mk ad o vs n g1 g2 g3 g4 g5=> ?_
 have len:(assignEach ((xs.zip ps).map λ q=> .Name q.1 q.2) env).length=vs.toArray.size:=by rw [(jr _).1,List.length_zip,<- hp,Nat.min_self,List.size_toArray,g5.length,<- hl,nw hn]
 exact wpAny_assign_Tuple hA ⟨o,H.fro _ _ g1,g2,n,g3⟩ len (jr _).2 λ h' ex =>
   sL K hn ha hp hl g5 (s:={ s with heap:=h' }) (H.keeps λ b o e=>ex b o (Nat.ne_of_lt (Heap.lt_size e)) e) λ s' mm' H' m=>q s' mm' H' (Sm.trans .mk m)
theorem iY {A:Around}{E:Value->Shared->Prop}{s:Shared}{D:Addr}{vs:List Value}{v:Value}{Q:Value->Shared->Prop}(H:HC X LP F r sl ((D,aD vs)::R) s.heap) (hl:vs.length < cw)
   (q: ∀ h',HC X LP F r sl ((D,aD (vs++[v]))::R) h'->Q .none { s with heap:=h' }):wpAny (model X.prog X.w) A (call (.builtin "list.append") [.ref D,v]) Q E s:=by
 obtain ⟨o,e,n,rfl⟩:=H.head
 refine append_at e (λ h' sb e'=>q h' (H.upd (λ b o hb eb=>sb.extBut b o hb eb) e' ⟨n+1,?_⟩)) (by rw [List.size_toArray];exact bZ (Nat.le_of_lt hl))
 simp
theorem Dd {M:Model}{A:Around}{E:Value->Shared->Prop}{s:Shared}{target:Expr}{I:Addr}{v:Value}{o:Obj}{Q:Unit->Shared->Prop}(e:s.heap.get? I=some o) (p:fk o=true) (q:Q () s):wpAny M A (letOwnedTupleGo target (.ref I) v) Q E s:=by
 have tup:wpAny M A (do
     let (.ref r,.ref a):=((.ref I:Value),v) | return
     let o <- load r
     match o.cls,o.data with
     | .type n,.fields vs =>
       if ["enumerate", "zip", "dict_itemiterator", "dict_reverseitemiterator", "odict_iterator", "itertools.zip_longest", "itertools.pairwise"].contains n&&vs[0]?==some (rawInt a) then
         rule "for.unpacks-the-owned-tuple"
         updateField r 0 .none
     | _,_=>pure ():Sem Unit) Q E s:=by
   cases v<;>first | exact Rs q | skip
   refine Rn (wpAny_load e ?_)
   unfold fk at p
   generalize o.cls=c1 at p ⊢
   generalize o.data=c2 at p ⊢
   cases c1 with
   | type n=>cases c2 with
     | fields vs =>
       have p:(["enumerate", "zip", "dict_itemiterator", "dict_reverseitemiterator", "odict_iterator", "itertools.zip_longest", "itertools.pairwise"]:List String).contains n=false:=Bool.not_eq_true' _▸p
       refine wpAny_of_eq (if_neg ?_) q
       rw [p];exact λ h=>ff h
     | _=>exact Rs q
   | _=>exact Rs q
 cases target<;>first | exact tup | exact Rs q
end
inductive Lx (lc:List (Option V)) (sl:ab):Bool->List (Option V)->ab->Prop
 | mk:Lx lc sl true lc sl
noncomputable def wV (X:Cx) (LP:bu) (d:Nat) (env:Env) (nm:List Str) (ifs:List Expr) (lc:List (Option V)) (sl:ab) (b:Bool) (lc':List (Option V)) (sl':ab):Prop:=match ifs with
 | []=>Lx lc sl b lc' sl'
 | [c]=>eQ X LP d env nm c lc sl b lc' sl'
 | _=>False
inductive iA:Bool->List Str->Expr->Prop
 | one (n:Str) (p:Pos):iA false [n] (.Name n p)
 | two (n n':Str) (p p' pt:Pos) (k:Nat):iA true [n,n'] (.Tuple [.Name n p,.Name n' p'] k pt)
noncomputable def kS (tg:List Str):List (Option V):=tg.map λ _=>none
section
variable {X:Cx}{LP:bu}{F F':PM}{r r':PS}{R:List aK}{env:Env}{mm:Str->Option Value}{nm:List Str}{sc:Sc}{cd:Option (Addr×Str)}{lc:List (Option V)}{sl:ab}{d:Nat}{h h':Heap}
theorem rI {prog:Program}{w:World}{A:Around}{Rr:Result->Shared->Prop}{s:Shared}{elt target iter:Expr}{ifs:List Expr}{scope:Scope}{pos:Pos}{it acc:Value}(I:Nat->Shared->Prop)
   (turn: ∀ n s,I n s->wpAny (model prog w) A (pyNext it) (λ q s₁=>match q with
     | none=>Rr (.ok .next) s₁
     | some v=>wpAny (model prog w) A (letOwnedTupleGo target it v) (λ _ s₁'=>wpAny (model prog w) A (assign target env v) (λ _ s₂ =>
         wpAny (model prog w) A (forIn ifs true λ c r=>if r=true then do let ok <- isTrue c env (eval c env);pure (ForInStep.yield ok) else pure (ForInStep.yield r)) (λ ok s₃ =>
           if ok=true then wpAny (model prog w) A (eval elt env) (λ x s₄ =>
             wpAny (model prog w) A (call (.builtin "list.append") [acc,x]) (λ _ s₅=> ∃ m,m < n/\I m s₅) (λ _ _=>False) s₄) (λ _ _=>False) s₃
           else ∃ m,m < n/\I m s₃) (λ _ _=>False) s₂) (λ _ _=>False) s₁') (λ _ _=>False) s₁) (λ _ _=>False) s)
   (n:Nat) (h:I n s):codeAny (model prog w) A (.compLoop (.ListComp elt [⟨target,iter,ifs,0⟩] scope pos) 0 it acc env) Rr s:=by
 refine codeAny_loop rfl I (λ n s hI=> ?_) n h
 show wpAny _ A ((compTurn (.ListComp elt [⟨target,iter,ifs,0⟩] scope pos) 0 it acc env).onRaise (λ x=>do noteFrame x env;theTreesLotGoes x)) _ _ s
 refine wpAny_noted ?_
 rw [compTurn_list]
 refine Rn (wpAny_standAt (Rn (Ro (turn n s hI) (λ q s₁ h₁=> ?_) λ _ _ f=>f.elim)))
 cases q with
 | none=>exact Rs h₁
 | some v =>
   refine Rn (Ro h₁ (λ _ s₁' h₁'=>Rn (Ro h₁' (λ _ s₂ h₂=>Rn (Ro h₂ (λ ok s₃ h₃=> ?_) λ _ _ f=>f.elim)) λ _ _ f=>f.elim)) λ _ _ f=>f.elim)
   cases ok with
   | false=>exact Rs ⟨rfl,h₃⟩
   | true =>
     exact Rn (Rn (Ro h₃ (λ x s₄ h₄=>Rn (Ro h₄ (λ _ s₅ h₅=>Rs (Rs ⟨rfl,h₅⟩)) λ _ _ f=>f.elim)) λ _ _ f=>f.elim))
theorem zN {A:Around}{s:Shared}{b:Bool}{lc':List (Option V)}{sl':ab}{Q:Bool->Shared->Prop}: ∀ {ifs:List Expr},wV X LP d env nm ifs lc sl b lc' sl'->dG A d s->HS X LP F r env mm nm lc sl R s.heap ->
   (∀ s' F' r',F.le F'->r.le r'->HS X LP F' r' env mm nm lc' sl' R s'.heap->Sm s s'->dG A d s'->Q b s') ->
   wpAny (model X.prog X.w) A (forIn ifs true λ c r=>if r=true then do let ok <- isTrue c env (eval c env);pure (ForInStep.yield ok) else pure (ForInStep.yield r)) Q (λ _ _=>False) s
 | [],h,hA,H,k=>by
   cases h with | mk=>exact wpAny_tests_nil (k s F r (.refl _) (.refl _) H (.refl _) hA)
 | [c],h,hA,H,k=>wpAny_tests_one (eI h hA H k)
 | _::_::_,h,_,_,_=>h.elim
theorem De {n:Str}{l:List Str}(hl:(n::l).all (λ n=>sc.lookup n==some .local)=true):sc.lookup n=some .local:=eq_of_beq (Bool.and_eq_true_iff.mp (show (sc.lookup n==some .local&&l.all (λ x=>sc.lookup x==some .local))=true from hl)).1
theorem rJ {A:Around}(K:aQ env sc nm cd) (hA:A.handled=none) {two:Bool}{tg fr:List Str}{tgE:Expr}{caps ts:List (Option V)}{x:W}{v:Value}{s:Shared}{Q:Unit->Shared->Prop}(T:iA two tg tgE) (hn:nm=tg++fr) (hl:tg.all (λ n=>sc.lookup n==some .local)=true) (hb:fR two x=some ts)
   (t:RW X F v x) (H:HS X LP F r env mm nm (kS tg++caps) sl R s.heap) (q: ∀ s' mm',HS X LP F r env mm' nm (ts++caps) sl R s'.heap->Sm s s'->Q () s'):wpAny (model X.prog X.w) A (assign tgE env v) Q (λ _ _=>False) s:=by
 subst hn
 cases T with
 | one n p =>
   have hb:=sj hb
   subst hb
   exact oE (T:=[]) (i:=0) K rfl (De hl) H (.v (.w t)) λ s' mm' H' m=>q s' mm' H' m
 | two n n' p p' pt k =>
   refine oL hb λ l e1 hb=>I3 hb λ a b e2 hb=> ?_
   have e1:=jH e1
   have e2:=kL e2
   subst e1 e2
   have hb:=sj hb
   subst hb
   exact wU (is:=[0,1]) (xs:=[n,n']) (ps:=[p,p']) K hA rfl hl rfl rfl t H λ s' mm' H' m=>q s' mm' H' m
theorem HS.forget (x:HS X LP F r env mm nm lc sl R h):HC X LP F r sl ((env.locals,gF mm)::R) h:=by
 cases x with | mk U v b=>exact b.tr [[(env.locals,gF mm)],U,R] (.n (.l 0) (.n (.l 1) (.l 2))) (.n (.l 0) (.l 2)) rfl
theorem lV {m:Str->Option Value}{fr:List Str}{caps:List (Option V)}(v:cQ X LP F r env m fr caps []): ∀ {tg:List Str},(∀ n ∈ tg,env.kindOf n=some .local)->cQ X LP F r env m (tg++fr) (kS tg++caps) []
 | [],_=>v
 | n::tg,k=> .unbL (k n List.mem_cons_self) (lV v λ x hx=>k x (Rk _ hx))
theorem HC.third {p q z:aK}(x:HC X LP F r sl (p::q::z::R) h):HC X LP F r sl (z::p::q::R) h:=x.rot [p,q] [z]
theorem HC.third' {p q z:aK}(x:HC X LP F r sl (z::p::q::R) h):HC X LP F r sl (p::q::z::R) h:=x.rot [z] [p,q]
inductive BZ (X:Cx) (LP:bu) (two:Bool) (caps:List (Option V)) (cnd elt:St->Option (V×St)) (la:Addr) (I D:Addr) (P:Nat->Obj->Prop) (R0:List aK) (F0:PM) (r0:PS) (s0:Shared) (A:Around) (d:Nat) (items ws:List W) (t9:St) (n:Nat) (s:Shared):Prop
 | mk (i:Nat) (rest:List W) (F1:PM) (r1:PS) (t1:St) (acc:List Value) (accW restW:List W) (m1:Str->Option Value):n=rest.length->items.drop i=rest->i+rest.length=items.length->compLoop two caps cnd elt rest t1=some (restW,t9)->F0.le F1->r0.le r1 ->
     HC X LP F1 r1 t1.slo ((la,gF m1)::(I,P i)::(D,aD acc)::R0) s.heap->cF X F1 acc accW->accW++restW=ws->acc.length<=i->Sm s0 s->dG A d s->BZ X LP two caps cnd elt la I D P R0 F0 r0 s0 A d items ws t9 n s
theorem lW {α:Type}{x:α}{r:List α}: ∀ {i:Nat}{l:List α},l.drop i=x::r->l[i]?=some x/\l.drop (i+1)=r
 | 0,_,rfl=>⟨rfl,rfl⟩
 | i+1,_::l,e=>lW (i:=i) (l:=l) e
 | _+1,[],e=>nomatch e
inductive Df (X:Cx) (F:PM) (I:Addr) (x:W) (P:Obj->Prop) (s:Shared):Option Value->Shared->Prop
 | mk {v:Value} {o':Obj} {s':Shared}:RW X F v x->s'.heap.get? I=some o'->P o'->wP I s.heap s'.heap->Sm s s'->Df X F I x P s (some v) s'
inductive Gw (I:Addr) (s:Shared):Option Value->Shared->Prop
 | mk {s':Shared}:wP I s.heap s'.heap->Sm s s'->Gw I s none s'
theorem uq {A:Around}{cenv:Env}{two:Bool}{tg fr:List Str}{tgE iter elt:Expr}{ifs:List Expr}{scope:Scope}{pos:Pos}{caps:List (Option V)}{items ws:List W}{t0 t9:St}{cnd el:St->Option (V×St)}{F0:PM}{r0:PS}{I D:Addr}{P:Nat->Obj->Prop}{R0:List aK}{s:Shared}{m:Str->Option Value}{Rr:Result->Shared->Prop}
   (K:aQ cenv sc nm cd) (T:iA two tg tgE) (hn:nm=tg++fr) (hl:tg.all (λ n=>sc.lookup n==some .local)=true) (hlim:items.length<=cw) (hc: ∀ m,cQ X LP F0 r0 cenv m fr caps []) (it:jp X F0 I items P) (C:compLoop two caps cnd el items t0=some (ws,t9))
   (hcnd: ∀ s b s',mY (cnd s)=some (b,s')->wV X LP d cenv nm ifs s.loc s.slo b s'.loc s'.slo) (hel: ∀ s w s',dU (el s)=some (w,s')->bG X LP d cenv nm elt s.loc s.slo w s'.loc s'.slo)
   (hA:dG A d s) (H:HC X LP F0 r0 t0.slo ((cenv.locals,gF m)::(I,P 0)::(D,aD [])::R0) s.heap)
   (q: ∀ F' r' s' vs m',F0.le F'->r0.le r'->HC X LP F' r' t9.slo ((cenv.locals,gF m')::(D,aD vs)::R0) s'.heap->cF X F' vs ws->vs.length<=cw->Sm s s'->dG A d s'->Rr (.ok .next) s') :
   codeAny (model X.prog X.w) A (.compLoop (.ListComp elt [⟨tgE,iter,ifs,0⟩] scope pos) 0 (.ref I) (.ref D) cenv) Rr s:=by
 have kl: ∀ n ∈ tg,cenv.kindOf n=some .local:=λ n hm=>(K.kindOf n).trans (eq_of_beq (List.all_eq_true.mp hl n hm))
 refine rI (BZ X LP two caps cnd el cenv.locals I D P R0 F0 r0 s A d items ws t9) (λ n s2 z=> ?_) items.length
   (.mk 0 items F0 r0 t0 [] [] ws m rfl rfl (Nat.zero_add _) C (.refl _) (.refl _) H .nil rfl (Nat.le_refl _) (.refl _) hA)
 cases z with | mk i rest F1 r1 t1 acc accW restW m1 hn' hd hsum C l1 q1 H ta hw hi sm hA=> ?_
 have it1:=it.mono l1
 have cur:=HC.mem H (a:=I) (P:=P i) (Rk _ List.mem_cons_self)
 have lm:acc.length<=cw:=Rl hi (Rl (Nat.le_of_add_right_le (Nat.le_of_eq hsum)) hlim)
 cases rest with
 | nil =>
   have hii:i=items.length:=hsum
   refine Ro (a8 (it1.done (Q:=Gw I s2) hA.1 H.subF (hii▸cur) λ h' tk off=> .mk off .mk)) (λ q' s3 z=> ?_) λ _ _ z=>z
   obtain ⟨z,tk⟩:=z
   cases z with | mk off sm3=> ?_
   refine cS (P:=λ ws' t'=>ws'=restW->t'=t9->Rr (.ok .next) s3) C (λ ew et=> ?_) rfl rfl
   refine q F1 r1 _ acc m1 l1 q1 (et▸H.swap.gone off) ?_ lm (sm.trans sm3) (hA.up tk)
   rw [<- hw,<- ew,List.append_nil];exact ta
 | cons x rest =>
   obtain ⟨hx,hd2⟩:=lW hd
   have hil:i < items.length:=(List.getElem?_eq_some_iff.mp hx).1
   have hs2:i+1+rest.length=items.length:=(Nat.add_right_comm i 1 rest.length).trans hsum
   have fewer:rest.length < n:=hn'▸Nat.lt_succ_self _
   refine Fk C λ ts hb C=>CP C λ b t2 hcb C=> ?_
   have hts:=hcnd _ _ _ hcb
   refine Ro (a8 (it1.item (Q:=Df X F1 I x (P (i+1)) s2) (E:=λ _ _=>False) hA.1 hx H.subF cur λ v h' tk o' tv eo po off=> .mk tv eo po off .mk)) (λ q' s3 z=> ?_) λ _ _ z=>z
   obtain ⟨z,Fy⟩:=z
   have hA3:=hA.up Fy
   cases z with | @mk v o' _ tv eo po off sm3=> ?_
   have H2:=(H.swap.upd (h':=s3.heap) (P':=P (i+1)) off eo po).swap
   have vn:cQ X LP F1 r1 cenv m1 nm (kS tg++caps) []:=hn▸lV ((hc m1).mono l1 q1) kl
   have H3:HS X LP F1 r1 cenv m1 nm (kS tg++caps) t1.slo ((I,P (i+1))::(D,aD acc)::R0) s3.heap:=⟨[],vn,H2⟩
   refine Dd eo (it1.plain _ _ po) (Ro (a8 (rJ (Q:=λ _ s'=> ∃ mm2,HS X LP F1 r1 cenv mm2 nm (ts++caps) t1.slo ((I,P (i+1))::(D,aD acc)::R0) s'.heap/\Sm s3 s') K hA3.1 T hn hl hb tv H3 λ s' mm' H' m'=>⟨mm',H',m'⟩)) (λ _ s4 z=> ?_) λ _ _ z=>z)
   obtain ⟨⟨mm2,H4,m4⟩,KM⟩:=z
   refine zN hts (hA3.up KM) H4 λ s5 F2 r2 l2 q2 H5 m5 hA5=> ?_
   have m5:=(sm.trans sm3).trans (m4.trans m5)
   cases b with
   | false =>
     rw [if_neg Bool.false_ne_true]
     exact ⟨_,fewer,.mk (i+1) rest F2 r2 t2 acc accW restW mm2 rfl hd2 hs2 C (l1.trans l2) (q1.trans q2) H5.forget (ta.mono l2) hw (Nat.le_succ_of_le hi) m5 hA5⟩
   | true =>
     rw [if_pos rfl]
     refine je C λ w t3 hw3 C=>CQ C λ ws' t4 hc4 C=> ?_
     refine cz (hel _ _ _ hw3) hA5 H5 λ y s6 F3 r3 l3 q3 H6 t6 m6 hA6=> ?_
     refine iY H6.forget.third (Rt hi (Nat.lt_of_lt_of_le hil hlim)) λ h' H7=> ?_
     refine cS (P:=λ u t'=>u=restW->t'=t9->_) C (λ eu et=> ?_) rfl rfl
     exact ⟨_,fewer,.mk (i+1) rest F3 r3 t3 (acc++[y]) (accW++[w]) ws' mm2 rfl hd2 hs2 (et▸hc4) (l1.trans (l2.trans l3)) (q1.trans (q2.trans q3)) H7.third' (cF.append (.cons t6 .nil) (ta.mono (l2.trans l3)))
       (by rw [<- hw,<- eu,List.append_assoc];rfl) (by rw [List.length_append];exact Nat.succ_le_succ hi) (m5.trans (m6.trans .mk)) hA6⟩
end
theorem kr {β γ:Type}(g:Str->β->γ): ∀ (l:List (Str×β)) (x:Str),(l.map λ p=>(p.1,g p.1 p.2)).lookup x=(l.lookup x).map (g x)
 | [],_=>rfl
 | (n,k)::l,x=>by
   simp only [List.map_cons,List.lookup_cons]
   cases e:x==n with
   | true=>have:x=n:=eq_of_beq e;subst this;rfl
   | false=>exact kr g l x
noncomputable def wW (sc:Sc) (n:Str) (k:NameKind):NameKind:=if (k== .free&&sc.lookup n==some .cell) then .cell else k
theorem zO (sc names:Sc):iR sc names=names.map λ p=>(p.1,wW sc p.1 p.2):=by
 unfold iR
 apply List.map_congr_left
 rintro ⟨n,k⟩ _
 show (if _ then (n,NameKind.cell) else (n,k))=(n,wW sc n k)
 unfold wW
 by_cases c:(k== .free&&sc.lookup n==some .cell)=true
 · rw [if_pos c,if_pos c]
 · rw [if_neg c,if_neg c]
theorem ku (sc names:Sc) (x:Str):(iR sc names).lookup x=(names.lookup x).map (wW sc x):=by rw [zO];exact kr (wW sc) names x
section
variable {X:Cx}{LP:bu}{F F':PM}{r r':PS}{R:List aK}{env:Env}{mm:Str->Option Value}{nm:List Str}{sc:Sc}{cd:Option (Addr×Str)}{lc:List (Option V)}{sl:ab}{d:Nat}{h h':Heap}
theorem mP (K:aQ env sc nm cd) (s:Scope):(relabel s env).names=iR sc s.names:=by
 unfold relabel iR
 apply List.map_congr_left
 rintro ⟨n,k⟩ _
 dsimp only
 rw [K.kindOf n,K.kind]
 simp
noncomputable def ch (env:Env) (fr:List Str):List (Str×Addr):=(fr.map λ x=>(x,(env.cells.lookup x).getD 0)).reverse
theorem lX {s:Scope}(hc: ∀ x ∈ cX s.names,(env.cells.lookup x).isSome=true):closureFor s env=pure (ch env (cX s.names)):=by
 have go: ∀ (names:List (Str×NameKind)) (acc:List (Str×Addr)),(∀ x ∈ cX names,(env.cells.lookup x).isSome=true) ->
     (forIn names acc (λ (p:Str×NameKind) (cs:List (Str×Addr))=>(do
       if p.2== .free then
         let c <- cellOf env p.1
         pure (ForInStep.yield ((p.1,c)::cs))
       else pure (ForInStep.yield cs):Sem (ForInStep (List (Str×Addr))))))=(pure (ch env (cX names)++acc):Sem (List (Str×Addr))):=by
   intro names
   induction names with
   | nil=>intro acc _;rfl
   | cons p names ih =>
     intro acc hc
     obtain ⟨n,k⟩:=p
     rw [List.forIn_cons]
     cases e:(k==NameKind.free) with
     | true =>
       have hm:cX ((n,k)::names)=n::cX names:=by unfold cX;simp only [List.filter_cons,e];rfl
       obtain ⟨c,hcn⟩:=Option.isSome_iff_exists.mp (hc n (by rw [hm];exact List.mem_cons_self))
       have cell:cellOf env n=pure c:=by unfold cellOf;rw [hcn]
       simp only [e,if_true,cell,pure_bind]
       rw [ih _ λ x hx=>hc x (by rw [hm];exact Rk _ hx),hm]
       unfold ch
       simp [hcn]
     | false =>
       have hm:cX ((n,k)::names)=cX names:=by unfold cX;simp only [List.filter_cons,e];rfl
       simp only [e,Bool.false_eq_true,if_false,pure_bind]
       rw [ih _ (by rw [<- hm];exact hc),hm]
 unfold closureFor
 have:=go s.names [] hc
 rw [List.append_nil] at this
 refine Eq.trans ?_ (congrArg (λ m=>m >>= λ cs=>(pure cs:Sem (List (Str×Addr)))) this |>.trans (pure_bind _ _))
 rfl
theorem gh {β:Type}: ∀ {l:List (Str×β)},(l.map (·.1)).Nodup-> ∀ x,l.reverse.lookup x=l.lookup x
 | [],_,x=>rfl
 | (n,k)::l,nd,x=>by
   rw [List.map_cons,List.nodup_cons] at nd
   rw [List.reverse_cons,List.lookup_append,gh nd.2 x]
   simp only [List.lookup_cons,List.lookup_nil]
   cases e:x==n with
   | true =>
     have:x=n:=eq_of_beq e
     subst this
     have hno:l.lookup x=none:=by
       rw [List.lookup_eq_none_iff]
       intro p hp
       rw [bne_iff_ne]
       intro z
       exact nd.1 (z▸(RA hp:p.1 ∈ l.map (·.1)))
     rw [hno];rfl
   | false=>cases l.lookup x<;>rfl
theorem oG {fr:List Str}(nd:fr.Nodup) {x:Str}{c:Addr}(hx:x ∈ fr) (hc:env.cells.lookup x=some c):(ch env fr).lookup x=some c:=by
 unfold ch
 rw [gh (by rw [List.map_map];simp only [Function.comp_def,List.map_id'];exact nd)]
 clear nd
 induction fr with
 | nil=>cases hx
 | cons y fr ih =>
   simp only [List.map_cons,List.lookup_cons]
   cases e:x==y with
   | true=>have:x=y:=eq_of_beq e;subst this;rw [hc];rfl
   | false =>
     rcases List.mem_cons.mp hx with rfl | hx
     · simp at e
     · exact ih hx
theorem il {x:Str}{P:Prop}(a:env.kindOf x=some .local) (k:env.kindOf x=some .cell\/env.kindOf x=some .free):P:=k.elim (λ k=>nomatch a.symm.trans k) λ k=>nomatch a.symm.trans k
theorem wY {m:Str->Option Value}{x:Str}(hk:env.kindOf x=some .cell\/env.kindOf x=some .free): ∀ {l:Option V}{T:List aK},iQ X LP F r env m x l T->(env.cells.lookup x).isSome=true
 | none,_,.l a=>il a hk
 | none,_,.c _ b=>b▸rfl
 | some _,_,.l a _ _=>il a hk
 | some _,_,.c _ b _ _ _=>b▸rfl
theorem jR {m:Str->Option Value}: ∀ {xs:List Str}{ls:List (Option V)}{U:List aK},cQ X LP F r env m xs ls U-> ∀ x ∈ xs,env.kindOf x=some .cell\/env.kindOf x=some .free->(env.cells.lookup x).isSome=true
 | [],_,_,_,_,hx,_=>nomatch hx
 | y::ys,_,_,h,x,hx,hk=>by
   cases h with | @mk l ls T U a b=> ?_
   cases hx with
   | head=>exact wY hk a
   | tail _ hx=>exact jR b x hx hk
theorem jS {nm:List Str}: ∀ {is:List Nat}{xs:List Str},bF nm is=some xs-> ∀ x ∈ xs,x ∈ nm
 | [],_,e,x,hx=>by cases sj e;exact nomatch hx
 | i::is,xs,e,x,hx=>jq e λ y l e1 e2 ex=>by
   subst ex
   cases hx with
   | head=>exact List.mem_of_getElem? e1
   | tail _ hx=>exact jS e2 x hx
theorem zP {v u:V}(h:FX v=some u):v=u:=by cases v<;>first | exact sj h | exact nn h
inductive Dg (X:Cx) (LP:bu) (F:PM) (r:PS) (V:V):Option Addr->Prop
 | mk {c:Addr} {o:Obj} {w:Value}:F c=some o->o.data= .cell (some w)->RV X LP F r w V->Dg X LP F r V (some c)
theorem Dh {m:Str->Option Value}{U:List aK}(K:aQ env sc nm cd) (v:cQ X LP F r env m nm lc U) {i:Nat}{y:Str}{u:V}(e1:nm[i]?=some y) (e2:bA lc i=some u) (hk:sc.lookup y=some .cell\/sc.lookup y=some .free):Dg X LP F r u (env.cells.lookup y) :=
 v.on e1 K.nod λ l T A B h1 h2 h3 _=>by
   cases sj ((fV e2).symm.trans h1)
   cases h3 with
   | l a _ _=>exact il a (hk.imp (K.kindOf y).trans (K.kindOf y).trans)
   | c _ b a3 a4 a5=>exact b▸ .mk a3 a4 a5
theorem lY {m:Str->Option Value}{U:List aK}(K:aQ env sc nm cd) (v:cQ X LP F r env m nm lc U) {P:List Str->List (Option V)->Prop}{all:List Str}(nil:P [] []) (cons: ∀ {y:Str}{u:V}{fr:List Str}{caps:List (Option V)},y ∈ all->Dg X LP F r u (env.cells.lookup y)->P fr caps->P (y::fr) (some u::caps)) :
   ∀ {cs:List Nat} {fr:List Str} {caps:List (Option V)},c9 lc cs=some caps->bF nm cs=some fr->(∀ x ∈ fr,x ∈ all)->(∀ x ∈ fr,sc.lookup x=some .cell\/sc.lookup x=some .free)->P fr caps
 | [],fr,caps,hc,hn,_,hk=>sj hn▸sj hc▸nil
 | i::cs,fr,caps,hc,hn,hs,hk=>jq hn λ y l e1 e2 ex=>oV hc λ u hu hc=>oV hc λ w hw hc=>Fk hc λ c' hc' hc=>by
   subst ex
   exact sR (P:=λ caps=>P (y::l) caps) hc (cons (hs y List.mem_cons_self) (Dh K v e1 (zP hw▸hu) (hk y List.mem_cons_self)) (lY K v nil cons hc' e2 (λ x hx=>hs x (Rk _ hx)) λ x hx=>hk x (Rk _ hx)))
theorem ur {m:Str->Option Value}{U:List aK}(K:aQ env sc nm cd) (v:cQ X LP F r env m nm lc U) {cenv:Env}{all:List Str}(nd:all.Nodup) (hcell:cenv.cells=ch env all) (hkind: ∀ x ∈ all,cenv.kindOf x=some .cell\/cenv.kindOf x=some .free)
   {cs:List Nat} {fr:List Str} {caps:List (Option V)} (hs: ∀ x ∈ fr,x ∈ all) (hc:c9 lc cs=some caps) (hn:bF nm cs=some fr) (hk: ∀ x ∈ fr,sc.lookup x=some .cell\/sc.lookup x=some .free) (m':Str->Option Value):cQ X LP F r cenv m' fr caps [] :=
 lY K v (P:=λ fr caps=>cQ X LP F r cenv m' fr caps []) .nil (λ {y u fr caps} hy c ih=>by
   generalize eq:env.cells.lookup y=q at c
   cases c with | mk a b c=>exact .valC (hkind y hy) (hcell▸oG nd hy eq) a b c ih) hc hn hs hk
theorem ut {v:Value}{iw:W}{ws:List W}(t:RW X F v iw) (e:br iw=some ws):ws.length<=cw:=by
 cases iw with
 | tup l=>cases t with | mk a b c d f=>exact sj e▸f.length▸d
 | lst l=>cases t with | mk a b c d f=>exact sj e▸f.length▸d
 | str x=>cases t with | mk t h=>exact sR (P:=λ ws=>ws.length<=cw) e (by rw [List.length_map];exact h)
 | rng a b =>
   refine oT e λ c e=>sR (P:=λ ws=>ws.length<=cw) e ?_
   simp only [Bool.and_eq_true,decide_eq_true_eq] at c
   rw [oB]
   show _<=16777216
   omega
 | _=>exact nn e
structure lZ (sc:Sc) (s:Scope) (tg fr:List Str):Prop where
 kind:s.kind= .function
 nocell: ∀ p ∈ s.names,p.2≠ .cell
 locals: ∀ p ∈ s.names,p.2= .local->s.names.lookup p.1=some .local
 tgs: ∀ x ∈ tg,s.names.lookup x=some .local
 frees:cX s.names=fr
 outer: ∀ x ∈ fr,sc.lookup x=some .cell\/sc.lookup x=some .free
 inner: ∀ x ∈ fr,s.names.lookup x=some .free
 nod:(tg++fr).Nodup
theorem ny {s:Scope}{tg fr:List Str}(e:n0 sc s tg fr=true):lZ sc s tg fr:=by
 unfold n0 at e
 simp only [Bool.and_eq_true,beq_iff_eq,List.all_eq_true,decide_eq_true_eq,bne_iff_ne,Bool.or_eq_true,ne_eq] at e
 obtain ⟨⟨⟨⟨⟨⟨h1,h2⟩,h3⟩,h4⟩,h5⟩,h6⟩,h7⟩:=e
 exact ⟨h1,h2,λ p hp e=>(h3 p hp).resolve_left λ z=>z e,λ x hx=>(h4 x hx).1,h5,λ x hx=>(h6 x hx).1.1,λ x hx=>(h6 x hx).1.2,h7⟩
end
section
variable {X:Cx}{LP:bu}{F F':PM}{r r':PS}{R:List aK}{env:Env}{mm:Str->Option Value}{nm:List Str}{sc:Sc}{cd:Option (Addr×Str)}{lc:List (Option V)}{sl:ab}{d:Nat}{h h':Heap}
theorem lD.re: ∀ {l:List Lp}{U:List aK}{k:Nat}{L:Lp},lD F l U->l[k]?=some L ->
   ∀ {Q:Prop},(∀ A p B,U=A++(p::B)->yP F L p->(∀ {G:PM} {c:Addr},F.le G->fX G L c->lD G l (A++((L.place,jJ L c)::B)))->Q)->Q
 | [],_,_,_,_,e,_,_=>nomatch e
 | L'::l,_,k,L,h,e,Q,K=>by
   cases h with | @mk p U a b=> ?_
   cases k with
   | zero=>cases sj e;exact K [] p U rfl a λ {G c} le g=>cN.mk (yP.full g) (b.mono le)
   | succ k=>exact lD.re (k:=k) b e λ A q B h1 h2 h3=>K (p::A) q B (h1▸rfl) h2 λ {G c} le g=>cN.mk (a.mono le) (h3 le g)
theorem HC.place {s:ab}(H:HC X LP F r s R h) {k:Nat}{L:Lp}(hk:X.lps[k]?=some L) {Q:Prop}(K: ∀ p Z,yP F L p->cU F (p::Z) h->(∀ {G:PM}{c:Addr}{h':Heap},F.le G->fX G L c->cU G ((L.place,jJ L c)::Z) h'->HC X LP G r s R h')->Q):Q:=by
 cases H with | mk U a z low=> ?_
 cases a with | mk U1 U2 a b e=> ?_
 refine b.re hk λ A p B h1 h2 h3=> ?_
 subst e h1
 exact K p (U1++(A++(B++R))) h2 (z.tr [U1,A,[p],B,R] (.n (.n (.l 0) (.n (.l 1) (.n (.l 2) (.l 3)))) (.l 4)) (.n (.l 2) (.n (.l 0) (.n (.l 1) (.n (.l 3) (.l 4))))) rfl) λ {G c h'} le g z' =>
   ⟨_,⟨U1,_,a.monoF le,h3 le g,rfl⟩,z'.tr [U1,A,[(L.place,jJ L c)],B,R] (.n (.l 2) (.n (.l 0) (.n (.l 1) (.n (.l 3) (.l 4))))) (.n (.n (.l 0) (.n (.l 1) (.n (.l 2) (.l 3)))) (.l 4)) rfl,low.trans le⟩
theorem pZ {vs:Array Value}{n:Nat}{P:Addr}(h:vs.getD n .none= .ref P):vs[n]?=some (.ref P):=by
 rw [Array.getD_eq_getD_getElem?] at h
 cases e:vs[n]? with
 | none=>rw [e] at h;cases h
 | some v=>rw [e] at h;exact congrArg some h
theorem uu (C:bM X) {M:Model}{A:Around}{E:Value->Shared->Prop}{s:Shared}{k:Nat}{L:Lp}{firstLine:Nat}{name:Str}{ps:Arguments}{scope:Scope}{body:FuncBody}{Q:Value->Shared->Prop}(hk:X.lps[k]?=some L) (hc:env.code= .ref L.code) (H:HC X LP F r sl R s.heap)
   (q: ∀ c F' s',F.le F'->HC X LP F' r sl R s'.heap->fX F' L c->Sm s s'->Q (.ref c) s'):wpAny M A (functionCode env L.pos firstLine name L.qual ps scope body) Q E s:=by
 obtain ⟨o,vs,file,tf,flags,tg,inF,text,tt,e1,e0,e2,e3,e4,e5,e6,e7,ne⟩:=C.lpc L (List.mem_of_getElem? hk)
 have hco:=H.base _ _ e1
 refine H.place hk λ p Z hp z re=> ?_
 obtain ⟨op,eo,po⟩:=z.mem List.mem_cons_self
 cases hp with
 | empty =>
   cases (show op=_ from po)
   have ok:s.heap.IsCode L.code L.place #[]:=⟨o,vs,file,tf,flags,tg,inF,text,tt,_,hco,e2,e3,e4,e5,e6,e7,eo,rfl,trivial,ne⟩
   have ac:s.heap.TableAt L.code L.place #[]:=⟨⟨o,vs,hco,e0,e2,pZ e3⟩,eo⟩
   refine wpAny_functionCodeX hc ok ac rfl λ c' h' tk ex hge hlt ok' rec' tab' _=> ?_
   obtain ⟨cc,occ,cvs,ct,ec,gc,cd',cv⟩:=rec'
   cases ec
   have none_c:s.heap.get? c'=none:=by
     cases e:s.heap.get? c' with
     | none=>rfl
     | some o'=>exact absurd (Heap.lt_size e) (Nat.not_lt.mpr hge)
   have z1:=z.upd (h':=h') (P':=jJ L c') (λ b o hb e=>ex b o hb e) tab'.2 (by show _=_;simp)
   have hF:F c'=none:=by
     cases e:F c' with
     | none=>rfl
     | some o'=>exact nn (none_c.symm.trans (H.fro _ _ e))
   have cne: ∀ p ∈ ((L.place,jJ L c')::Z),p.1≠c':=λ p hp e=>by
     have: ∃ o,s.heap.get? p.1=some o:=by
       cases hp with
       | head=>exact ⟨_,eo⟩
       | tail _ hp=>obtain ⟨_,o,e,_⟩:=z.own p (Rk _ hp);exact ⟨o,e⟩
     obtain ⟨o,e'⟩:=this
     exact nn (none_c.symm.trans (e▸e'))
   have code:fX (F.set c' occ) L c':= .mk (PM.set_self _ _ _) cd' cv
   exact q c' _ _ (PM.le_set hF) (re (PM.le_set hF) code ⟨lz z1 gc,ly (na:=cne) z1,z1.nod⟩) code .mk
 | @full c g =>
   cases (show op=_ from po)
   unfold functionCode codeAt
   rw [hc,if_neg (show ¬ ((Value.ref L.code==Value.none)=true) from Bool.false_ne_true)]
   refine Rn (wpAny_fieldsOf hco e2 ?_)
   rw [e3]
   refine Rn (wpAny_fieldsOf eo rfl ?_)
   have:codeAmong L.pos (#[rawInt L.pos.line,rawInt L.pos.col,Value.ref c]:Array Value).toList=some (.ref c):=by
     show (if ((L.pos.line:Int)==L.pos.line&&(L.pos.col:Int)==L.pos.col)=true then some (Value.ref c) else _)=_
     rw [beq_self_eq_true,beq_self_eq_true];rfl
   rw [this]
   exact Rs (q c F s (.refl _) H g (.refl _))
structure wZ (sc:Sc) (a:Arguments) (s:Scope) (fr:List Str):Prop where
 simple:dK a=true
 nodef:a.defaults=[]
 kind:s.kind= .function
 nogen:s.isGenerator=false
 noco:s.isCoroutine=false
 nocell: ∀ p ∈ s.names,p.2≠ .cell
 args: ∀ x ∈ a.args.map (·.arg),s.names.lookup x=some .local
 frees:cX s.names=fr
 outer: ∀ x ∈ fr,sc.lookup x=some .cell\/sc.lookup x=some .free
 inner: ∀ x ∈ fr,s.names.lookup x=some .free
 nod:(a.args.map (·.arg)++fr).Nodup
theorem p8 {a:Arguments}{s:Scope}{fr:List Str}(e:sn sc a s fr=true):wZ sc a s fr:=by
 unfold sn at e
 simp only [Bool.and_eq_true,beq_iff_eq,List.all_eq_true,decide_eq_true_eq,bne_iff_ne,Bool.or_eq_true,ne_eq,Bool.not_eq_true',List.isEmpty_iff] at e
 obtain ⟨⟨⟨⟨⟨⟨⟨⟨⟨h0,h00⟩,h1⟩,h2⟩,h3⟩,h4⟩,h5⟩,h6⟩,h7⟩,h8⟩:=e
 exact ⟨h0,h00,h1,h2,h3,h4,λ x hx=>(h5 x hx).1,h6,λ x hx=>(h7 x hx).1.1,λ x hx=>(h7 x hx).1.2,h8⟩
theorem p9 (fr:List Str):((ch env fr).reverse).map (·.1)=fr:=by
 unfold ch
 rw [List.reverse_reverse,List.map_map]
 simp only [Function.comp_def,List.map_id']
theorem Di {m:Str->Option Value}{U:List aK}(K:aQ env sc nm cd) (v:cQ X LP F r env m nm lc U) {cs:List Nat}{fr:List Str}{caps:List (Option V)}(hc:c9 lc cs=some caps) (hn:bF nm cs=some fr) (hk: ∀ x ∈ fr,sc.lookup x=some .cell\/sc.lookup x=some .free) :
   jD X LP F r (fr.map λ x=>(x,(env.cells.lookup x).getD 0)) (ej caps) :=
 lY K v (P:=λ fr caps=>jD X LP F r (fr.map λ x=>(x,(env.cells.lookup x).getD 0)) (ej caps)) .nil (λ {y u fr caps} hy c ih=>by
   show jD X LP F r ((y,(env.cells.lookup y).getD 0)::_) (u::ej caps)
   generalize env.cells.lookup y=q at c
   cases c with | mk a b c=>exact .cons a b c ih) hc hn (λ _ h=>h) hk
theorem Dj (C:bM X) (K:aQ env sc nm cd) {k:Nat}{a:Arguments}{b:Expr}{s₀:Scope}{p:Pos}{cs:List Nat}{fr:List Str}{caps:List (Option V)}{L:Lp}{q:Str}(O:wZ sc a s₀ fr) (hn:bF nm cs=some fr) (hcap:c9 lc cs=some caps) (hk:X.lps[k]?=some L) (hcd:cd=some (L.code,q)) (hq:L.qual=q ++ "<lambda>") (hp:L.pos=p)
   (hLP: ∀ fd:FuncData,fd.defaults= .none->fd.params=a->fd.body= .expr b->fd.scope=s₀->fd.globals=mainGlobals->fd.builtins=builtinsNs->fd.closure.reverse.map (·.1)=fr->LP k fd) :
   bp X LP d env nm (.Lambda a b s₀ p) lc sl (.clo k (ej caps)) lc sl:=by
 intro mm A F r R s hA H
 obtain ⟨hcode,hqual⟩:=K.code _ _ hcd
 have hcl:closureFor s₀ env=pure (ch env fr):=by
   rw [<- O.frees]
   refine lX λ x hx=> ?_
   cases H with | mk U v bb=>exact jR v x (jS hn x (O.frees▸hx)) (by rw [K.kindOf];exact O.outer x (O.frees▸hx))
 have hdf:defaultsOf a env=([],[]):=by
   have h0:=O.simple
   have h1:=O.nodef
   obtain ⟨po,ar,va,ko,kw,ka,df⟩:=a
   unfold dK at h0
   simp only [Bool.and_eq_true,List.isEmpty_iff] at h0 h1
   subst h1
   rw [h0.1.2]
   rfl
 rw [arm_eval_Lambda,hdf]
 refine Rn (Rs (Rn (wpAny_holding (Rs ?_))))
 rw [<- hp,hqual,<- hq]
 unfold makeFunction
 simp only [List.zip_nil_right,List.filterMap_nil,List.isEmpty_nil,if_true,pure_bind,hcl]
 have rest: ∀ (ct:Value) (s1:Shared),HS X LP F r env mm nm lc sl R s1.heap->Sm s s1->wpAny (model X.prog X.w) A (do
     let code <- functionCode env L.pos L.pos.line (Str.ofString "<lambda>") L.qual a s₀ (FuncBody.expr b)
     let bl <- builtinsFor env.globals env.builtins
     let md <- nsGet env.globals (Str.ofString "__name__")
     newObj (Value.type "function") (Data.func { name:=Str.ofString "<lambda>",qualname:=L.qual,params:=a,body:=FuncBody.expr b,scope:=s₀,globals:=env.globals,closure:=ch env fr,defaults:=Value.none,kwdefaults:=Value.none,pyModule:=md.getD Value.none,code:=code,closureTuple:=ct,builtins:=bl })) (kH X LP F r R s env mm nm (.clo k (ej caps)) lc sl) (λ _ _=>False) s1:=by
   intro ct s1 H1 m1
   cases H1 with | mk U vv bb=> ?_
   refine Rn (uu C hk hcode bb λ c F1 s2 l1 b2 g m2=> ?_)
   obtain ⟨bm,ob,e1,e2,e3,e4,e5,e6⟩:=C.bins
   have gl:s2.heap.Ns env.globals X.mg:=by rw [K.glob];exact C.nsg.at b2.base
   refine Rn (wpAny_builtinsFor gl e1 e2 (b2.base _ _ e3) e4 e5 e6 (Rn (wpAny_nsGet gl ?_)))
   refine wpAny_newObj_type ?_ trivial
   generalize hfd:({ name:=Str.ofString "<lambda>",qualname:=L.qual,params:=a,body:=FuncBody.expr b,scope:=s₀,globals:=env.globals,closure:=ch env fr,defaults:=Value.none,kwdefaults:=Value.none,pyModule:=(X.mg (Str.ofString "__name__")).getD Value.none,code:=Value.ref c,closureTuple:=ct,builtins:=builtinsNs }:FuncData)=fd
   obtain ⟨l2,b3⟩:=b2.newF (aR _ { cls:= .type "function",data:= .func fd }) (aN _) (Heap.get?_push_size _ rfl)
   refine ⟨_,r,[],l1.trans l2,.refl _,⟨U,vv.mono (l1.trans l2) (.refl _),b3⟩,.v (.clo (fd:=fd) (PM.set_self _ _ _) rfl ?_ ?_ ?_),m1.trans (m2.trans .mk)⟩
   · subst hfd
     exact hLP _ rfl rfl rfl rfl K.glob rfl (p9 fr)
   · subst hfd
     cases g with | mk a b c=>exact .mk _ _ _ _ rfl (l2 _ _ a) b c
   · subst hfd
     show jD X LP _ r (ch env fr).reverse (ej caps)
     rw [show (ch env fr).reverse=fr.map λ x=>(x,(env.cells.lookup x).getD 0) from List.reverse_reverse _]
     exact jD.mono (l1.trans l2) (.refl _) (Di K vv hcap hn O.outer)
 split
 · exact rest .none s H (.refl _)
 · refine Rn (wpAny_newTextTuple ?_)
   exact rest _ _ (H.keeps (aR _ _)) .mk
end
end Mine
end
section
open PySem PySem.W PySem.Calls PyProof.Rows
open Builtin Builtin.Str Builtin.Int
namespace Mine
theorem uv:typeLookup (.type "list_reverseiterator") "__len__" = pure none:=by rw [typeLookup_type,builtinLookup_eq_fast];kernel_rfl
theorem w4:typeLookup (.type "list_reverseiterator") "__length_hint__" = pure (some (.builtin "list_reverseiterator.__length_hint__")):=by rw [typeLookup_type,builtinLookup_eq_fast];kernel_rfl
theorem w5:((Value.type "list_reverseiterator" == Value.type "list")||(Value.type "list_reverseiterator" == Value.type "tuple"))=false:=by decide +kernel
section
variable {prog:Program}{w:World}{A:Around}{E:Value->Shared->Prop}{s:Shared}{I:Addr}{fp wr:List Addr}{G:Array GenState->Array GenState->Prop}{n:Nat}{P:Nat->Value->Prop}{St:Nat->Shared->Prop}
theorem qb {Q:List Value->Shared->Prop}
   (W:WalksS prog w A.in1 I fp wr G n P St) (hT: ∀ i s,St i s->s.TypeIs (.ref I) "list_reverseiterator") (hst:St 0 s) (hfp: ∀ b ∈ fp,b < s.heap.objs.size) (hI:I ∈ fp)
   (hQ: ∀ s' acc,Moved wr G s s'->ItemsOf P acc n->Q acc.toList s') (hn:n<=sizeLine):wpAny (model prog w) A (collect (.ref I)) Q E s:=by
 have hSf:s.heap.objs.size ∉ fp:=λ hm=>Nat.lt_irrefl _ (hfp _ hm)
 have hSI:s.heap.objs.size≠I:=λ e=>hSf (e▸hI)
 unfold collect
 refine Rn (wpAny_runValue (codeAny_builtin F.entry_proto_collect ?_))
 rw [Around.under_plainId F.plain_proto_collect _]
 show wpAny _ A.in1 (newList [] >>= λ l=>again (.builtin "list.__iadd__" ⟨[l,.ref I],[]⟩)) _ _ s
 refine Rn (wpAny_newObj_type ?_)
 refine Rs ⟨plainId_quiet F.plain_list_iadd _,codeAny_builtin F.entry_list_iadd ?_⟩
 rw [Around.under_plainId F.plain_list_iadd _]
 have hst₁:=W.frame 0 s (s.heap.push { cls:= .type "list",data:= .seq ([]:List Value).toArray }) s.toks hst (Nat.le_refl _) λ b _ o e=>Heap.get?_push_of_some _ e
 have hS₁:(s.heap.push { cls:= .type "list",data:= .seq ([]:List Value).toArray }).get? s.heap.objs.size=some { cls:= .type "list",data:= .seq ([]:List Value).toArray }:=Heap.get?_push_size _ rfl
 have h1:Builtin.List.listSameRef (.ref s.heap.objs.size) (.ref I)=false:=by simp [Builtin.List.listSameRef,hSI]
 show wpAny _ A.in1 (Builtin.List.listExtendWith (.ref s.heap.objs.size) (.ref I) (.ref s.heap.objs.size)) _ _ _
 unfold Builtin.List.listExtendWith
 refine Rn (wpAny_typeOf (hT 0 _ hst₁) ?_)
 rw [if_neg (by rw [h1];decide)]
 refine Rn (W.self 0 _ _ _ hst₁ ?_)
 refine Rn (wpAny_holding ?_)
 unfold Builtin.List.listLengthHint
 refine Rn (wpAny_specialOf (hT 0 _ hst₁) uv ?_)
 show wpAny _ A.in1 (specialOf (Value.ref I) (Str.ofString "__length_hint__") >>= _) _ _ _
 refine Rn (wpAny_specialOf (hT 0 _ hst₁) w4 ?_)
 (generalize hid:("list_reverseiterator.__length_hint__" : String)=id0;(fail_if_success (clear hid id0));wp_delta;rw [show splitId id0=some ("list_reverseiterator", "__length_hint__") from by subst hid;decide +kernel];subst hid)
 refine Rn (wpAny_isInstance (b:=true) (hT 0 _ hst₁) (by rw [isSubtype_type];kernel_rfl) ?_)
 refine Rs ?_
 rw [if_neg (by decide)]
 refine Rs ⟨plainId_quiet F.plain_extend_loop _,codeAny_extend_loopS W hn _ hSf _ n 0 _ _ _ rfl (Nat.zero_le _) hst₁ hS₁ (ItemsOf.nil P) λ s' acc' c' hm hS' hacc=> ?_⟩
 show wpAny _ A (load s.heap.objs.size >>= _) _ _ s'
 refine Rn (wpAny_load hS' ?_)
 exact Rs (hQ s' acc' (Moved.drop_new (o:={ cls:= .type "list",data:= .seq ([]:List Value).toArray }) (tk:=s.toks) hm (Nat.le_refl _)) hacc)
theorem w6 {x:Str}{t:Tok}{Q:Value->Shared->Prop}(W:WalksS prog w A.in1.in1 I fp wr G n P St) (hT: ∀ i s,St i s->s.TypeIs (.ref I) "list_reverseiterator") (hst:St 0 s) (hfp: ∀ b ∈ fp,b < s.heap.objs.size) (hI:I ∈ fp)
   (hstr: ∀ i v,P i v-> ∃ y u,v=Value.str y u)
   (hq: ∀ s' (l:List (Str×Tok)),Moved wr G s s'->ItemsOf P (strValues l).toArray n->JoinOk x (l.map (·.1))=true/\ ∀ t' k,Q (.str (Txt.join x (l.map (·.1))) t') { s' with toks:=k })
   (hsz:n<=sizeLine) :
   wpAny (model prog w) A (call (.builtin "str.join") [.str x t,.ref I]) Q E s:=by
 refine wpAny_call (codeAny_call_builtin F.slot_str_join.plain F.entry_str_join (F.slot_str_join.check _ _ _ _ _ _ _ _ (typeIs_str _ _ _) (F.args_str_join_2 _ _) ?_))
 rw [join_tree_other]
 refine Rn (wpAny_typeOf (hT 0 s hst) ?_)
 show wpAny _ A.in1 (if _=true then _ else _) _ _ s
 rw [if_neg (by rw [w5];decide)]
 show wpAny _ A.in1 ((pyIter (.ref I)).tryCatch _ >>= λ it=>collect it >>= λ items=>joinTail x items) _ _ s
 refine Rn (wpAny_tryCatch (W.of_in1.self 0 s _ _ hst ?_))
 refine Rn (qb W hT hst hfp hI (λ s' acc hm hacc=> ?_) hsz)
 obtain ⟨l,hl⟩:=exists_strValues acc.toList λ v hv=>by
   obtain ⟨j,hj,rfl⟩:=Array.mem_iff_getElem.mp (Array.mem_toList_iff.mp hv)
   exact hstr j _ (hacc.2 j _ (Array.getElem?_eq_getElem hj))
 rw [<- hl]
 have hacc':ItemsOf P (strValues l).toArray n:=by rw [hl];simpa using hacc
 obtain ⟨hok,hpost⟩:=hq s' l hm hacc'
 unfold JoinOk at hok
 rw [Bool.not_eq_true'] at hok
 have g:Gives (joinTail x (strValues l)) (joinMade x l):=by
   have g0:=gives_joinTail x l hok
   cases l with
   | nil=>exact g0
   | cons p r=>cases r with
     | nil=>exact g0
     | cons q r'=>exact g0
 exact g prog w A (wants Q E) s' (post_join l ⟨joinFit_length hok,hpost⟩)
end
section
variable {X:Cx}{LP:bu}{F F':PM}{r r':PS}{R:List aK}{env:Env}{mm:Str->Option Value}{nm:List Str}{sc:Sc}{cd:Option (Addr×Str)}{lc:List (Option V)}{sl:ab}{d:Nat}{h h':Heap}
theorem uw {l ls:List (Str×Tok)}{n:Nat}(hn:n=ls.length) (h:ItemsOf (λ i v=>(strValues ls).toArray[n - 1 - i]?=some v) (strValues l).toArray n):l.map (·.1)=(ls.map (·.1)).reverse:=by
 obtain ⟨h1,h2⟩:=h
 have hl:l.length=n:=by simpa [strValues] using h1
 apply List.ext_getElem?
 intro i
 rw [List.getElem?_map]
 by_cases hi:i < n
 · have e1:l[i]?=some (l[i]'(by omega)):=List.getElem?_eq_getElem (by omega)
   have:=h2 i (.str (l[i]'(by omega)).1 (l[i]'(by omega)).2) (by simp [strValues,e1])
   have e2:ls[n - 1 - i]?=some (ls[n - 1 - i]'(by omega)):=List.getElem?_eq_getElem (by omega)
   simp only [strValues,List.getElem?_toArray,List.getElem?_map,e2,Option.map_some,Option.some.injEq,Value.str.injEq] at this
   rw [e1,List.getElem?_reverse (by rw [List.length_map];omega),List.getElem?_map,List.length_map,<- hn,e2]
   simp [this.1]
 · rw [List.getElem?_eq_none (by omega),List.getElem?_eq_none (by rw [List.length_reverse,List.length_map];omega)];rfl
theorem l6 {m:List W}{ys:List (List Nat)}(k:eM m=some ys): ∀ {l:List W}{xs:List (List Nat)},eM l=some xs->eM (l++m)=some (xs++ys)
 | [],_,h=>sj h▸k
 | a::l,xs,h=>iP h λ x hx h=>F9 h λ xs' e h=>by
   cases sj h
   show (match gH a with | some x=>(match eM (l++m) with | some l=>some (x::l) | none=>none) | none=>none)=_
   rw [hx,l6 k e];rfl
theorem l7: ∀ {l:List W}{xs:List (List Nat)},eM l=some xs->eM l.reverse=some xs.reverse
 | [],_,h=>sj h▸rfl
 | a::l,xs,h=>iP h λ x hx h=>F9 h λ xs' e h=>by
   cases sj h
   rw [List.reverse_cons,List.reverse_cons]
   refine l6 ?_ (l7 e)
   show (match gH a with | some x=>some [x] | none=>none)=_
   rw [hx]
theorem w7 {M:Model}: ∃ kk,(kk=Keeper.frame\/kk=Keeper.machine\/kk=Keeper.boundFrame)/\Looks M h (keeperOf (.type "reversed")) kk:=⟨.machine,.inr (.inl rfl),.now⟩
theorem ux {A:Around}{s:Shared}{ad:Addr}{o:Obj}{vs:List Value}{n:Nat}{l:List W}{sep:List Nat}{t:Tok}{z:W}(hA:A.handled=none) (H:HS X LP F r env mm nm lc sl R s.heap) (g1:F ad=some o) (g2:o.cls= .type "list") (g3:o.data= .seq vs.toArray n) (g4:vs.length<=cw) (g5:cF X F vs l) (e:mT sep l.reverse=some z) :
   wpAny (model X.prog X.w) A (call (.builtin "str.join") [.str (ae sep) t,.ref s.heap.objs.size]) (λ v s'=>HS X LP F r env mm nm lc sl R s'.heap/\RW X F v z/\Sm s s') (λ _ _=>False) { s with heap:=s.heap.push (revObj ad ((vs.toArray.size:Int) - 1)) }:=by
 refine F9 e λ xs q e=>oT e λ pp e=> ?_
 have q':=l7 q
 rw [List.reverse_reverse] at q'
 obtain ⟨ls,h1,hls⟩:=jQ g5 q'
 subst h1
 have sz:(strValues ls).toArray.size=ls.length:=List.length_map _
 have ex:=H.fro _ _ g1
 generalize ho:revObj ad (((strValues ls).toArray.size:Int) - 1)=ro
 have self:(s.heap.push ro).get? s.heap.objs.size=some ro:=Heap.get?_push_size _ (ho▸rfl)
 have keep:=Heap.get?_push_of_some ro ex
 have H2:=H.newO (P:=qX ro) (aR _ ro) (aN _) self rfl
 have hne:ad≠s.heap.objs.size:=λ q=>nn ((aN _).symm.trans (q▸ex))
 refine w6 (W:=(Walks.listRev (A:=A.in1.in1) hA s.heap.objs.size ad hne (strValues ls).toArray).toS) (λ i u st=>st.2.1.typeIs) ⟨Nat.zero_le _,⟨_,self,ho▸rfl,?_⟩,⟨o,keep,g2,n,g3⟩⟩ (λ b hb=> ?_) (List.mem_cons_self ..) (λ i v hv=> ?_) (λ s' l' mv it=> ?_) (by rw [sz];exact bZ (List.length_map (as:=ls) (λ q=>Value.str q.1 q.2)▸g4))
 · rw [<- ho,show ((0:Nat):Int)=0 from rfl,Int.sub_zero];rfl
 · cases hb with
   | head=>exact Heap.lt_size self
   | tail _ hb=>exact List.mem_singleton.mp hb▸Heap.lt_size keep
 · rw [List.getElem?_toArray] at hv
   obtain ⟨y,_,e⟩:=List.mem_map.mp (List.mem_of_getElem? hv)
   exact ⟨_,_,e.symm⟩
 · have e5:=uw sz it
   rw [hls,<- List.map_reverse,List.reverse_reverse] at e5
   rw [e5]
   refine ⟨nj (Rm pp),λ t' kk=> ?_⟩
   rw [show Txt.join (ae sep) (xs.map ae)=ae (cZ sep xs) from (StrLaws.glued_eq_join _ _).trans (fO _ xs)]
   cases s' with | mk h'' g' d' t'' o'=> ?_
   have e1:g'=s.gens:=mv.2
   have e2:d'=s.drawn:=mv.3
   have e3:o'=s.os:=mv.4
   have e4:=mv.1
   subst e1 e2 e3
   exact ⟨HS.gone (h':=h'') H2 (λ b ob hb eb=>e4 b ob (λ m=>hb (List.mem_singleton.mp m)) eb),sR (P:=λ z=>RW X F _ z) e (.str _ _ (Rl (jN _ _) (Rm pp))),.mk⟩
theorem zQ (C:bM X) (K:aQ env sc nm cd) {sep:List Nat}{x:Expr}{k:Nat}{cp ap rp p2 p:Pos}{l:List W}{z:W}{lc1:List (Option V)}{sl1:ab}(hs:aE x=true) (hl:sep.length<=cw) (hp:ap.endLine=p.line) (hk:sc.lookup ("reversed" : Str)=some .globalImplicit)
   (h1:bp X LP d env nm x lc sl (.w (.lst l)) lc1 sl1) (e:mT sep l.reverse=some z) :
   bp X LP d env nm (.Call (.Attribute (.Constant (.str (ae sep)) k cp) "join" ap) [.Call (.Name "reversed" rp) [x] [] p2] [] p) lc sl (.w z) lc1 sl1:=λ mm A F r R s hA H=>by
 have hs2:([x]:List Expr).all aE=true:=by show (aE x&&true)=true;rw [hs];rfl
 have hs3:([(.Call (.Name "reversed" rp) [x] [] p2)]:List Expr).all aE=true:=rfl
 refine wpAny_Call_method_lateS rfl (oz hs3 (by show 1 < 30;decide)) (by simp [hp]) (wpAny_Constant_str ?_)
 obtain ⟨f1,f2,f3⟩:=oy .join
 refine ⟨Fo .join,Fp .join,f1,f2,f3,typeIs_str _ _ _,nofun,callWith_builtin (db hs3) (ik hs3 (wpAny_items_cons ?_))⟩
 rw [pW rfl]
 refine Rn (Name_function_global K.kind ((K.kindOf _).trans hk) (loadGlobal_builtin (by rw [K.glob];exact C.nsg.at H.base) C.revd.1 (by rw [K.blt];exact C.nsb.at H.base) C.revd.2 ?_) (by decide +kernel))
 refine callWith_of (P:=λ _=>True) (by show ((backTo p2 (starEach [x] env)).any (·.1)||false)=false;rw [db hs2];rfl) (λ h _=>w7) (ik hs2 (fi (jg hs h1 lJ) (hA.up (Nat.le_succ _)) H λ vs s1 F1 r1 l1 q1 H1 t1 m1 hA1=> ?_))
 refine ⟨trivial,?_⟩
 cases t1 with | @mk v us a b=> ?_
 cases b
 cases a with | @mk ad o vs n g1 g2 g3 g4 g5=> ?_
 exact call_reversed_list ⟨o,H1.fro _ _ g1,g2,n,g3⟩ (wpAny_items_nil (Ro (ux hA1.1 H1 g1 g2 g3 g4 g5 e) (λ v s2 y=>⟨F1,r1,[],l1,q1,y.1,.v (.w y.2.1),(Sm.trans .mk m1).trans y.2.2⟩) λ _ _ z=>z))
end
end Mine
end
section
open PySem PySem.W PySem.Calls PyProof.Rows
namespace Mine
section
variable {X:Cx}{LP:bu}{F F':PM}{r r':PS}{R:List aK}{env:Env}{mm:Str->Option Value}{nm:List Str}{sc:Sc}{cd:Option (Addr×Str)}{lc:List (Option V)}{sl:ab}{d:Nat}{h h':Heap}
theorem Dk:jL X LP d env nm [] lc sl .next lc sl:=λ mm A F r R s hA H=>wpAny_execs_nil ⟨mm,F,r,[],.refl _,.refl _,H,.next,.refl _⟩
theorem sM {st:Stmt}{fl:Fl}{lc':List (Option V)}{sl':ab}{A:Around}{s:Shared}{Q:Flow->Shared->Prop}(h:ek X LP d env nm st lc sl fl lc' sl') (hA:dG A d s) (H:HS X LP F r env mm nm lc sl R s.heap)
   (k: ∀ f s' mm' F' r' T,F.le F'->r.le r'->HS X LP F' r' env mm' nm lc' sl' (T++R) s'.heap->Fn X LP F' r' T f fl->Sm s s'->dG A d s'->Q f s') :
   wpAny (model X.prog X.w) A (exec st env) Q (λ _ _=>False) s :=
 Ro (a8 (h mm A F r R s hA H)) (λ f s' y=>by cases y.1 with | mk mm1 F1 r1 T l q H1 t m=>exact k f s' mm1 F1 r1 T l q H1 t m (hA.up y.2)) λ _ _ z=>z
theorem oJ {st:List Stmt}{fl:Fl}{lc':List (Option V)}{sl':ab}{A:Around}{s:Shared}{Q:Flow->Shared->Prop}(h:jL X LP d env nm st lc sl fl lc' sl') (hA:dG A d s) (H:HS X LP F r env mm nm lc sl R s.heap)
   (k: ∀ f s' mm' F' r' T,F.le F'->r.le r'->HS X LP F' r' env mm' nm lc' sl' (T++R) s'.heap->Fn X LP F' r' T f fl->Sm s s'->dG A d s'->Q f s') :
   wpAny (model X.prog X.w) A (execs st env) Q (λ _ _=>False) s :=
 Ro (a8 (h mm A F r R s hA H)) (λ f s' y=>by cases y.1 with | mk mm1 F1 r1 T l q H1 t m=>exact k f s' mm1 F1 r1 T l q H1 t m (hA.up y.2)) λ _ _ z=>z
theorem vT.after {R:List aK}{s0 s:Shared}{F0:PM}{r0:PS}{fl:Fl}{f:Flow}{s':Shared}(y:vT X LP F r R s env nm fl lc sl f s') (l:F0.le F) (q:r0.le r) (m:Sm s0 s):vT X LP F0 r0 R s0 env nm fl lc sl f s':=by
 cases y with | mk mm F2 r2 T l2 q2 H2 t2 m2=>exact ⟨mm,F2,r2,T,l.trans l2,q.trans q2,H2,t2,m.trans m2⟩
theorem Gx {st:Stmt}{rest:List Stmt}{fl:Fl}{lc1 lc2:List (Option V)}{sl1 sl2:ab}(h1:ek X LP d env nm st lc sl .next lc1 sl1) (h2:jL X LP d env nm rest lc1 sl1 fl lc2 sl2):jL X LP d env nm (st::rest) lc sl fl lc2 sl2:=λ mm A F r R s hA H =>
 wpAny_execs_cons (sM h1 hA H λ f s1 mm1 F1 r1 T l1 q1 H1 t1 m1 hA=>by
   cases t1
   exact Ro (h2 mm1 A F1 r1 R s1 hA H1) (λ f s2 y=>y.after l1 q1 m1) λ _ _ z=>z)
noncomputable def Gy:Fl->Bool
 | .next=>false
 | _=>true
theorem sN {st:Stmt}{rest:List Stmt}{fl:Fl}{lc1:List (Option V)}{sl1:ab}(h1:ek X LP d env nm st lc sl fl lc1 sl1) (hf:Gy fl=true):jL X LP d env nm (st::rest) lc sl fl lc1 sl1:=λ mm A F r R s hA H =>
 wpAny_execs_cons (sM h1 hA H λ f s1 mm1 F1 r1 T l1 q1 H1 t1 m1 hA=>by
   cases t1 with
   | next=>exact ff hf
   | cont=>exact ⟨mm1,F1,r1,[],l1,q1,H1,.cont,m1⟩
   | ret t=>exact ⟨mm1,F1,r1,_,l1,q1,H1,.ret t,m1⟩)
theorem zR {p:Pos}:ek X LP d env nm (.Continue p) lc sl .cont lc sl:=λ mm A F r R s hA H=>wpAny_Continue ⟨mm,F,r,[],.refl _,.refl _,H,.cont,.refl _⟩
theorem zS {p:Pos}:ek X LP d env nm (.Return none p) lc sl (.ret (.w .none)) lc sl:=λ mm A F r R s hA H=>wpAny_Return_none ⟨mm,F,r,[],.refl _,.refl _,H,.ret (.v (.w .none)),.refl _⟩
theorem Dl {y:Expr}{p:Pos}{Vo:V}{lc1:List (Option V)}{sl1:ab}(h:bp X LP d env nm y lc sl Vo lc1 sl1):ek X LP d env nm (.Return (some y) p) lc sl (.ret Vo) lc1 sl1:=λ mm A F r R s hA H =>
 wpAny_Return_some (Ro (h mm A F r R s hA H) (λ v s' z=>by cases z with | mk F1 r1 T l q H1 t m=>exact ⟨mm,F1,r1,T,l,q,H1,.ret t,m⟩) λ _ _ z=>z)
theorem dc {y:Expr}{t:Option Expr}{n:Nat}(hn:bK y=true):swapsWith y t n env=pure false:=by
 cases y<;>first | rfl | exact ff hn
theorem sO (K:aQ env sc nm cd):interactive env=false:=by unfold interactive;rw [K.kind];rfl
theorem Dm (K:aQ env sc nm cd) {y:Expr}{p:Pos}{Vo:V}{lc1:List (Option V)}{sl1:ab}(hn:bK y=true) (h:bp X LP d env nm y lc sl Vo lc1 sl1):ek X LP d env nm (.Expr y p) lc sl .next lc1 sl1:=λ mm A F r R s hA H =>
 wpAny_Expr_any (Ro (h mm A F r R s hA H) (λ v s' z=>by cases z with | mk F1 r1 T l q H1 t m=>exact ⟨mm,F1,r1,[],l,q,H1.dropT,.next,m⟩) λ _ _ z=>z) (sO K) (dc hn)
theorem Dn (K:aQ env sc nm cd) {i:Nat}{x:Str}{y:Expr}{p p':Pos}{Vo:V}{lc1:List (Option V)}{sl1:ab}(hx:nm[i]?=some x) (hl:sc.lookup x=some .local) (hn:bK y=true) (h:bp X LP d env nm y lc sl Vo lc1 sl1) :
   ek X LP d env nm (.Assign [.Name x p'] y p) lc sl .next (aM lc1 i (some Vo)) sl1:=λ mm A F r R s hA H =>
 wpAny_Assign_Name (Ro (h mm A F r R s hA H) (λ v s' z=>by cases z with | mk F1 r1 T l q H1 t m=>exact gg K hx hl H1 t λ s2 mm2 H2 m2=>⟨mm2,F1,r1,[],l,q,H2,.next,m.trans m2⟩) λ _ _ z=>z) (dc hn)
section
variable {two:Bool}{tgE iter elt:Expr}{ifs:List Expr}{s₀:Scope}{p pos:Pos}{tg fr:List Str}{items ws:List W}{caps:List (Option V)}{t0 t9:St}{cnd el:St->Option (V×St)}{A:Around}{s:Shared}
structure nz (X:Cx) (LP:bu) (d:Nat) (cd:Option (Addr×Str)) (sc:Sc) (nm:List Str) (elt:Expr) (ifs:List Expr) (cnd el:St->Option (V×St)):Prop where
 c: ∀ env,aQ env sc nm cd-> ∀ s b s',mY (cnd s)=some (b,s')->wV X LP d env nm ifs s.loc s.slo b s'.loc s'.slo
 e: ∀ env,aQ env sc nm cd-> ∀ s w s',dU (el s)=some (w,s')->bG X LP d env nm elt s.loc s.slo w s'.loc s'.slo
theorem w8 {cenv:Env}{I D:Addr}{P:Nat->Obj->Prop}{m:Str->Option Value}{Rr:Result->Shared->Prop}(K:aQ cenv sc nm cd) (T:iA two tg tgE) (hn:nm=tg++fr) (hl:tg.all (λ n=>sc.lookup n==some .local)=true) (hlen:items.length<=cw) (hc: ∀ m,cQ X LP F r cenv m fr caps [])
   (hit:jp X F I items P) (C:compLoop two caps cnd el items t0=some (ws,t9)) (S:nz X LP d cd sc nm elt ifs cnd el) (hA:dG A d s) (b:HC X LP F r t0.slo ((cenv.locals,gF m)::(I,P 0)::(D,aD [])::R) s.heap)
   (fL: ∀ F' r' s' vs m',F.le F'->r.le r'->HC X LP F' r' t9.slo ((cenv.locals,gF m')::(D,aD vs)::R) s'.heap->cF X F' vs ws->vs.length<=cw->Sm s s'->dG A d s'->Rr (.ok .next) s') :
   codeAny (model X.prog X.w) A (.compStart (.ListComp elt [⟨tgE,iter,ifs,0⟩] s₀ p) 0 (.ref I) (.ref D) cenv) Rr s :=
 have loop:=uq (iter:=iter) (scope:=s₀) (pos:=p) (Rr:=Rr) K T hn hl hlen hc hit C (S.c _ K) (S.e _ K) hA b fL
 codeAny_compStart_list loop (hit.self hA.1 b.subF (b.mem (Rk _ List.mem_cons_self)) loop)
theorem uy {use:Option (Value->Sem Unit)}{Q:Value->Shared->Prop}{cs:List Nat}{I:Addr}{P:Nat->Obj->Prop}(K:aQ env sc nm cd) (T:iA two tg tgE) (hn:bF nm cs=some fr) (O:lZ sc s₀ tg fr) (hcap:c9 lc cs=some caps) (hlen:items.length<=cw)
   (hit:jp X F I items P) (C:compLoop two caps cnd el items t0=some (ws,t9)) (S:nz X LP d cd (iR sc s₀.names) (tg++fr) elt ifs cnd el) (hA:dG A d s) (H:HS X LP F r env mm nm lc t0.slo ((I,P 0)::R) s.heap)
   (fL: ∀ D Ca F' r' m' vs s',F.le F'->r.le r'->HS X LP F' r' env mm nm lc t9.slo ((Ca,gF m')::(D,aD vs)::R) s'.heap->cF X F' vs ws->vs.length<=cw->Sm s s'->dG A d s'->compPost (model X.prog X.w) A (λ _ _=>False) use Q (.ref D) Ca (.ok .next) s') :
   wpAny (model X.prog X.w) A (newList []) (λ acc s₃=>wpAny (model X.prog X.w) A (newFunctionEnv s₀ env.globals (ch env fr) [] env.qual none .none (some env)) (λ cenv s₄ =>
     codeAny (model X.prog X.w) A (.compStart (.ListComp elt [⟨tgE,iter,ifs,0⟩] s₀ p) 0 (.ref I) acc { cenv with scope:=relabel s₀ env }) (compPost (model X.prog X.w) A (λ _ _=>False) use Q acc cenv.locals) s₄) (λ _ _=>False) s₃) (λ _ _=>False) s:=by
 have H3:=H.newO (P:=aD []) (aR _ { cls:= .type "list",data:= .seq ([]:List Value).toArray }) (aN _) (Heap.get?_push_size _ rfl) ⟨0,rfl⟩
 refine wpAny_newObj_type (wpAny_newFunctionEnv O.nocell nofun (λ h4 hns hsb=> ?_) O.kind)
 generalize s.heap.push { cls:= .type "list",data:= .seq ([]:List Value).toArray }=h3 at H3 hns hsb ⊢
 generalize s.heap.objs.size=D at H3 ⊢
 obtain ⟨oC,es,ep,e1,e2,e3,e4⟩:=hns
 have H4:=H3.newO (h':=h4) (P:=gF _) (λ b o e=>hsb.extBut b o (Nat.ne_of_lt (Heap.lt_size e)) (Heap.get?_push_of_some _ e)) (aN _) e1 ⟨es,ep,e2,e3,e4⟩
 generalize h3.objs.size=Ca at H4 ⊢
 refine HS.open (T:=[_,_,_]) H4 λ U vv b=> ?_
 have Kc:aQ (compEnvC s₀ (ch env fr) Ca env) (iR sc s₀.names) (tg++fr) cd:=⟨O.kind,mP K s₀,K.glob,K.blt,O.nod,K.code⟩
 have hkind: ∀ x ∈ fr,(compEnvC s₀ (ch env fr) Ca env).kindOf x=some .cell\/(compEnvC s₀ (ch env fr) Ca env).kindOf x=some .free:=λ x hx=>by
   rw [Kc.kindOf,ku,O.inner x hx]
   show some (if _ then NameKind.cell else _)=_\/some (if _ then NameKind.cell else _)=_
   split
   · exact .inl rfl
   · exact .inr rfl
 have hl:tg.all (λ n=>(iR sc s₀.names).lookup n==some .local)=true:=List.all_eq_true.mpr λ n hm=>by
   rw [ku,O.tgs n hm];rfl
 refine w8 (cenv:=compEnvC s₀ (ch env fr) Ca env) Kc T rfl hl hlen (ur K vv (List.nodup_append.mp O.nod).2.1 rfl hkind (λ x hx=>hx) hcap hn O.outer) hit C S (hA.up (Ru _ _)) (b.tr [[_],[_],[_],_] (.n (.l 0) (.n (.l 1) (.n (.l 2) (.l 3)))) (.n (.l 0) (.n (.l 2) (.n (.l 1) (.l 3)))) rfl) λ F' r' s' vs m' l q H' ta hl2 sm hA' =>
   fL D Ca F' r' m' vs s' l q (HS.shut (T:=[_,_]) (vv.mono l q) H') ta hl2 (Sm.trans .mk sm) hA'
theorem qc {use:Option (Value->Sem Unit)}{Q:Value->Shared->Prop}{cs:List Nat}{iw:W}{lc1:List (Option V)}(K:aQ env sc nm cd) (T:iA two tg tgE) (hset:gP iter=true) (hn:bF nm cs=some fr) (O:lZ sc s₀ tg fr)
   (h1:bG X LP d env nm iter lc sl iw lc1 t0.slo) (hi:br iw=some items) (hcap:c9 lc1 cs=some caps) (C:compLoop two caps cnd el items t0=some (ws,t9)) (S:nz X LP d cd (iR sc s₀.names) (tg++fr) elt ifs cnd el) (hA:dG A d s) (H:HS X LP F r env mm nm lc sl R s.heap)
   (fL: ∀ D Ca F' r' m' vs s',F.le F'->r.le r'->HS X LP F' r' env mm nm lc1 t9.slo ((Ca,gF m')::(D,aD vs)::R) s'.heap->cF X F' vs ws->vs.length<=cw->Sm s s'->dG A d s'->compPost (model X.prog X.w) A (λ _ _=>False) use Q (.ref D) Ca (.ok .next) s') :
   wpAny (model X.prog X.w) A (comprehension (.ListComp elt [⟨tgE,iter,ifs,0⟩] s₀ p) s₀ env pos (newList []) false (eval iter env) use) Q (λ _ _=>False) s:=by
 have hs: ∀ x,foldedSetIterable iter env x=pure x:=by cases iter<;>first | (exact λ _=>rfl) | exact ff hset
 have hcl:closureFor s₀ env=pure (ch env fr):=by
   rw [<- O.frees]
   refine lX λ x hx=> ?_
   cases H with | mk U v b=>exact jR v x (jS hn x (O.frees▸hx)) (by rw [K.kindOf];exact O.outer x (O.frees▸hx))
 refine wpAny_comprehension_free (g:=⟨tgE,iter,ifs,0⟩) (gs:=[]) rfl hs hcl O.kind O.locals (cz h1 hA H λ v s1 F1 r1 l1 q1 H1 t1 m1 hA1=> ?_)
 refine nu H1.subF (λ oI P nf p0 hit=> ?_) t1 hi
 exact uy K T hn O hcap (ut t1 hi) (hit F1 (.refl _)) C S hA1 (H1.newO (P:=P 0) (aR _ oI) (aN _) (Heap.get?_push_size _ nf) p0) λ D Ca F' r' m' vs s' l q H' ta hl2 sm hA' =>
   fL D Ca F' r' m' vs s' (l1.trans l) (q1.trans q) H' ta hl2 (m1.trans (Sm.trans .mk sm)) hA'
section
variable {cs:List Nat}{iw:W}{lc1:List (Option V)}
theorem sP (K:aQ env sc nm cd) (T:iA two tg tgE) (hset:gP iter=true) (hn:bF nm cs=some fr) (O:lZ sc s₀ tg fr)
   (h1:bG X LP d env nm iter lc sl iw lc1 t0.slo) (hi:br iw=some items) (hcap:c9 lc1 cs=some caps) (C:compLoop two caps cnd el items t0=some (ws,t9)) (S:nz X LP d cd (iR sc s₀.names) (tg++fr) elt ifs cnd el) :
   bp X LP d env nm (.ListComp elt [⟨tgE,iter,ifs,0⟩] s₀ p) lc sl (.own ws) lc1 t9.slo:=λ mm A F r R s hA H=>by
 rw [eval_ListComp]
 refine qc (use:=none) K T hset hn O h1 hi hcap C S hA H λ D Ca F' r' m' vs s' l q H' ta hlen sm hA'=> ?_
 refine HS.open (T:=[_,_]) H' λ U v b=>⟨m',?_,λ h' sb=> ?_⟩
 · obtain ⟨o,e,q⟩:=b.head
   cases q with | mk es ep h1 h2 h3=>exact ⟨o,es,ep,e,h1,h2,h3⟩
 · exact ⟨F',r',[(D,aD vs)],l,q,HS.shut (T:=[_]) v (HC.gone b (wP.sb sb)),.own hlen ta,sm.trans .mk⟩
theorem rK (K:aQ env sc nm cd) {i:Nat}{x:Str}{p' pc:Pos}(hx:nm[i]?=some x) (hl:sc.lookup x=some .local) (T:iA two tg tgE) (hset:gP iter=true) (hn:bF nm cs=some fr) (O:lZ sc s₀ tg fr)
   (h1:bG X LP d env nm iter lc sl iw lc1 t0.slo) (hi:br iw=some items) (hcap:c9 lc1 cs=some caps) (C:compLoop two caps cnd el items t0=some (ws,t9)) (S:nz X LP d cd (iR sc s₀.names) (tg++fr) elt ifs cnd el) :
   ek X LP d env nm (.Assign [.Name x p'] (.ListComp elt [⟨tgE,iter,ifs,0⟩] s₀ pc) p) lc sl .next (aM lc1 i (some (.own ws))) t9.slo:=λ mm A F r R s hA H=>by
 have hsw: ∃ b,swapsWith (.ListComp elt [⟨tgE,iter,ifs,0⟩] s₀ pc) (some (.Name x p')) p.line env=pure b:=⟨_,rfl⟩
 obtain ⟨b,hsw⟩:=hsw
 cases b with
 | false=>exact wpAny_Assign_Name (Ro (sP K T hset hn O h1 hi hcap C S mm A F r R s hA H) (λ v s' z=>by cases z with | mk F1 r1 T l q H1 t m=>exact gg K hx hl H1 t λ s2 mm2 H2 m2=>⟨mm2,F1,r1,[],l,q,H2,.next,m.trans m2⟩) λ _ _ z=>z) hsw
 | true =>
   rw [exec_Assign_Name_used _ _ _ _ hsw]
   refine Rn (wpAny_standAt (Rn ?_))
   show wpAny _ A (do let _ <- comprehension (.ListComp elt [⟨tgE,iter,ifs,0⟩] s₀ pc) s₀ env _ (newList []) false (eval iter env) (some (assign (.Name x p') env))) _ _ s
   refine Rn (qc (use:=some (assign (.Name x p') env)) K T hset hn O h1 hi hcap C S hA H λ D Ca F' r' m' vs s' l q H' ta hlen sm hA'=> ?_)
   show wpAny _ A (assign (.Name x p') env (.ref D)) _ _ _
   refine oE (T:=[(D,aD vs)]) K hx hl (HS.tr [[_],[(D,aD vs)],R] (.n (.l 0) (.n (.l 1) (.l 2))) (.n (.l 1) (.n (.l 0) (.l 2))) rfl H') (.own hlen ta) λ s2 mm2 H2 m2=> ?_
   refine ⟨m',?_,λ h' sb=>Rs (Rs ⟨mm2,F',r',[],l,q,H2.gone (wP.sb sb),.next,sm.trans (m2.trans .mk)⟩)⟩
   obtain ⟨o,e,q⟩:=H2.headO
   cases q with | mk es ep h1 h2 h3=>exact ⟨o,es,ep,e,h1,h2,h3⟩
end
end
theorem l8 {α:Type}{c:Prop} [Decidable c] {a b:α}(h:b=a):(if c then a else b)=a:=by
 by_cases hc:c
 · exact if_pos hc
 · exact (if_neg hc).trans h
theorem zT (K:aQ env sc nm cd) {is:List Nat}{xs:List Str}{ps:List Pos}{y:Expr}{k:Nat}{p p':Pos}{ws:List W}{lc1:List (Option V)}{sl1:ab}(hn:bF nm is=some xs) (ha:xs.all (λ x=>sc.lookup x==some .local)=true) (hp:xs.length=ps.length)
   (hy:ru y=true) (hc:bK y=true) (hl:is.length=ws.length) (h:bG X LP d env nm y lc sl (.tup ws) lc1 sl1) :
   ek X LP d env nm (.Assign [.Tuple ((xs.zip ps).map λ q=> .Name q.1 q.2) k p'] y p) lc sl .next (pY lc1 is ws) sl1:=λ mm A F r R s hA H=>by
 refine Assign_Tuple (cz h hA H λ v s1 F1 r1 l1 q1 H1 t1 m1 hA1=> ?_) (by unfold swapsWithSole;exact dc hc) ?_
 · exact wU K hA1.1 hn ha hp hl t1 H1 λ s2 mm2 H2 m2=>⟨mm2,F1,r1,[],l1,q1,H2,.next,m1.trans m2⟩
 · cases y<;>first | rfl | skip
   rename_i vs kk pp
   replace hy:vs.all (foldedForSure 8)=true:=hy
   exact l8 (l8 (l8 (if_pos hy)))
theorem w9 {t:Expr}{b o:List Stmt}{p:Pos}{c:Bool}{fl:Fl}{lc1 lc2:List (Option V)}{sl1 sl2:ab}(h:eQ X LP d env nm t lc sl c lc1 sl1) (k:jL X LP d env nm (if c then b else o) lc1 sl1 fl lc2 sl2):ek X LP d env nm (.If t b o p) lc sl fl lc2 sl2:=λ mm A F r R s hA H =>
 wpAny_If (eI h hA H λ s1 F1 r1 l1 q1 H1 m1 hA=>by
   have k:=Ro (k mm A F1 r1 R s1 hA H1) (λ f s2 y=>y.after l1 q1 m1) λ _ _ z=>z
   cases c<;>exact k)
end
noncomputable def PS.set (r:PS) (k:Sl) (a:Addr):PS:=λ j=>if j=k then some a else r j
theorem PS.set_self (r:PS) (k:Sl) (a:Addr):r.set k a k=some a:=if_pos rfl
theorem PS.set_off (r:PS) {k j:Sl}(a:Addr) (h:j≠k):r.set k a j=r j:=if_neg h
theorem PS.le_set {r:PS}{k:Sl}{a:Addr}(h:r k=none):r.le (r.set k a):=λ j x e=>by
 unfold PS.set;rw [if_neg (λ q=>by rw [q,h] at e;cases e)];exact e
section
variable {X:Cx}{LP:bu}{F F':PM}{r r':PS}{R:List aK}{env:Env}{mm:Str->Option Value}{nm:List Str}{sc:Sc}{cd:Option (Addr×Str)}{lc:List (Option V)}{sl:ab}{d:Nat}{h h':Heap}
theorem HC.toSlot {s:ab}{T':List aK}(H:HC X LP F r s (T'++R) h) (k:Sl) (e:gv (s.get k)=true) {a:Addr}{x:dy}(t:bE X LP F (r.set k a) (some a) x T'):r.le (r.set k a)/\HC X LP F (r.set k a) (s.set k x) R h :=
 H.slot k λ T Z sc z re=>by
   rw [pI e] at sc
   generalize hr:r k=o at sc
   cases sc
   exact ⟨PS.le_set hr,re (.refl _) (PS.le_set hr) (λ j hj=>PS.set_off r a hj) (by rw [PS.set_self];exact t) (cU.tr [Z,T',R] (.n (.l 0) (.n (.l 1) (.l 2))) (.n (.l 1) (.n (.l 0) (.l 2))) rfl z)⟩
theorem HS.toSlot {T':List aK}(H:HS X LP F r env mm nm lc sl (T'++R) h) (k:Sl) (e:gv (sl.get k)=true) {a:Addr}{x:dy}(t:bE X LP F (r.set k a) (some a) x T'):r.le (r.set k a)/\HS X LP F (r.set k a) env mm nm lc (sl.set k x) R h :=
 H.open λ U v b=>⟨(b.toSlot k e t).1,U,v.mono (.refl _) (b.toSlot k e t).1,(b.toSlot k e t).2⟩
theorem HS.dropBehind {T:List aK}{p:aK}(H:HS X LP F r env mm nm lc sl (T++(p::R)) h):HS X LP F r env mm nm lc sl (T++R) h:=H.tr [T,[p],R] (.n (.l 0) (.n (.l 1) (.l 2))) (.n (.l 0) (.l 2)) rfl
theorem zU (K:aQ env sc nm cd) {i:Nat}{k:Sl}{x:Str}{y:Expr}{p p':Pos}{l:List W}{lc1:List (Option V)}{sl1:ab}(hx:nm[i]?=some x) (hl:sc.lookup x=some .local) (hn:bK y=true) (h:bp X LP d env nm y lc sl (.own l) lc1 sl1) (hk:gv (sl1.get k)=true) :
   ek X LP d env nm (.Assign [.Name x p'] y p) lc sl .next (aM lc1 i (some (.slot k))) (sl1.set k (.list l)):=λ mm A F r R s hA H =>
 wpAny_Assign_Name (Ro (h mm A F r R s hA H) (λ v s' z=>by
   cases z with | mk F1 r1 T l1 q H1 t m=> ?_
   cases t with | mk hlen tw=> ?_
   have l2:=H1.toSlot k hk (bE.list hlen tw)
   exact gg (T:=[]) K hx hl l2.2 (.v (.slot (PS.set_self _ _ _))) λ s2 mm2 H3 m2=>⟨mm2,F1,_,[],l1,q.trans l2.1,H3,.next,m.trans m2⟩) λ _ _ z=>z) (dc hn)
theorem zV (K:aQ env sc nm cd) {i:Nat}{x:Str}{y:Expr}{p p':Pos}{Vo:V}{lc1:List (Option V)}{sl1:ab}(hx:nm[i]?=some x) (hl:sc.lookup x=some .cell) (hn:bK y=true) (h:bp X LP d env nm y lc sl Vo lc1 sl1) (hno:dI lc1 i=true) :
   ek X LP d env nm (.Assign [.Name x p'] y p) lc sl .next (aM lc1 i (some (frz Vo))) sl1:=λ mm A F r R s hA H =>
 wpAny_Assign_Name (Ro (h mm A F r R s hA H) (λ v s' z=>by
   cases z.frz with | mk F1 r1 l1 q H1 t m=> ?_
   have hk:env.kindOf x=some .cell:=(K.kindOf x).trans hl
   refine H1.on hx K.nod λ l T Z e c b re=> ?_
   cases sj ((sg hno).symm.trans e)
   cases c with
   | l a=>exact il a (.inl hk)
   | @c ca _ hc =>
     obtain ⟨oc,e1,e2⟩:=HC.head b
     refine wpAny_storeName_cell K.kind hk hc ⟨oc,e1,e2⟩ λ h' hc' sb=> ?_
     obtain ⟨oc',e1',e2'⟩:=hc'
     have b2:=HC.upd b (h':=h') (P':=qX oc') (λ b o hb eb=>sb.extBut b o hb eb) e1' rfl
     refine b2.freeze λ o ho l2 b3=> ?_
     cases (show o=oc' from ho)
     exact ⟨mm,_,r1,[],l1.trans l2,q,re (T':=[]) l2 (.refl _) (λ _ _ _=>rfl) (.c (.inl hk) hc (PM.set_self _ _ _) e2' (t.mono l2 (.refl _))) b3,.next,m.trans .mk⟩) λ _ _ z=>z) (dc hn)
noncomputable def isStr (z:Expr):Bool:=match z with
 | .Starred .. => true
 | _=>false
noncomputable def It (env:Env) (line:Nat):Expr->Option Str
 | .Name id pos=>if env.kindOf id==some .local&&pos.line==line then some id else none
 | _=>none
theorem qd {z:Expr}(h:aE z=true):isStr z=false:=by cases z<;>first | rfl | exact ff h
theorem key {x x':Str}{y y':Expr}{names:List Str}(nd:([x,x']:List Str).eraseDups=[x,x']) (hf:([y,y'].all (foldedForSure 8))=false) (hc:([y,y'].all (constantsAlone 8))=false) (e:names=[x,x']) :
   (if (names.length !=2||names.eraseDups.length !=names.length)=true then pure none else if ([y,y'].all (foldedForSure 8))=true then pure none else if ([y,y'].all (constantsAlone 8))=true then (do unsupported "assign.tuple-of-constant-expressions:order-of-the-stores"; pure (some names)) else pure (some names):Sem (Option (List Str)))=pure (some [x,x']):=by
 rw [e,nd,hf,hc];rfl
theorem rL (K:aQ env sc nm cd) {x x':Str}{y y':Expr}{px px' p' p2:Pos}{k k':Nat}(hl:sc.lookup x=some .local) (hl':sc.lookup x'=some .local) (hne:x≠x') (hline:px.line=px'.line)
   (hs:aE y=true) (hs':aE y'=true) (hf:([y,y'].all (foldedForSure 8))=false) (hc:([y,y'].all (constantsAlone 8))=false):swappedStores [.Tuple [.Name x px,.Name x' px'] k p'] (.Tuple [y,y'] k' p2) env=pure (some [x,x']):=by
 have k1:(env.kindOf x==some .local)=true:=by rw [K.kindOf,hl];rfl
 have k2:(env.kindOf x'==some .local)=true:=by rw [K.kindOf,hl'];rfl
 have bk:env.blockKind= .function:=by unfold Env.blockKind;rw [K.kind];rfl
 have nd:([x,x']:List Str).eraseDups=[x,x']:=by
   have:(x'==x)=false:=by simpa using hne.symm
   simp [List.eraseDups_cons,this]
 have f1:It env px.line (.Name x px)=some x:=if_pos (by rw [k1];exact beq_self_eq_true px.line)
 have f2:It env px.line (.Name x' px')=some x':=if_pos (by rw [k2,hline];exact beq_self_eq_true px'.line)
 refine (if_neg λ h=> ?_).trans ((if_neg λ h=> ?_).trans (key (y:=y) (y':=y') nd hf hc ((List.filterMap_cons_some (f:=It env px.line) f1).trans (congrArg (x:: ·) (List.filterMap_cons_some (f:=It env px.line) f2)))))
 · rw [bk] at h;exact nomatch (show false=true from h)
 · refine ff (h.symm.trans (?_:_=false)).symm
   show (isStr y||(isStr y'||false))=false
   rw [qd hs,qd hs'];rfl
theorem zW (K:aQ env sc nm cd) {i j:Nat}{x x':Str}{y y':Expr}{p px px' p' p2:Pos}{k k':Nat}{V1 V2:V}{lc1 lc2:List (Option V)}{sl1 sl2:ab}(hx:nm[i]?=some x) (hx':nm[j]?=some x') (hl:sc.lookup x=some .local) (hl':sc.lookup x'=some .local) (hne:x≠x') (hline:px.line=px'.line)
   (hs:aE y=true) (hs':aE y'=true) (hf:([y,y'].all (foldedForSure 8))=false) (hc:([y,y'].all (constantsAlone 8))=false) (h1:bp X LP d env nm y lc sl V1 lc1 sl1) (h2:bp X LP d env nm y' lc1 sl1 V2 lc2 sl2) :
   ek X LP d env nm (.Assign [.Tuple [.Name x px,.Name x' px'] k p'] (.Tuple [y,y'] k' p2) p) lc sl .next (aM (aM lc2 j (some V2)) i (some V1)) sl2:=by
 intro mm A F r R s hA H
 have hw:=rL (p':=p') (p2:=p2) (k:=k) (k':=k') K hl hl' hne hline hs hs' hf hc
 refine Assign_Tuple_swapped (names:=[x,x']) (wpAny_Tuple (wpAny_items_cons (he:=d6 hs) (Ro (a8 (h1 mm A F r R s hA H)) (λ v1 s1 z1=> ?_) λ _ _ z=>z))) rfl hw
 have hA1:=hA.up z1.2
 cases z1.1 with | mk F1 r1 T1 l1 q1 H1 t1 m1=> ?_
 refine wpAny_items_cons (he:=d6 hs') (Ro (a8 (h2 mm A F1 r1 (T1++R) s1 hA1 H1)) (λ v2 s2 z2=> ?_) λ _ _ z=>z)
 have hA2:=hA1.up z2.2
 cases z2.1 with | mk F2 r2 T2 l2 q2 H2 t2 m2=> ?_
 refine wpAny_items_nil ⟨by rw [sizeLine_eq];show 2<=16777216;decide,?_⟩
 refine unpackItems_tuple (items:=[v1,v2].toArray) hA2.1 ⟨_,Heap.get?_push_size _ rfl,rfl,0,rfl⟩ λ h' ex=> ?_
 have H3:HS X LP F2 r2 env mm nm lc2 sl2 (T2++(T1++R)) h':=H2.keeps λ b o e=>ex b o (Nat.ne_of_lt (Nat.lt_of_lt_of_le (Heap.lt_size e) (by rw [Heap.size_push];lia))) (Heap.get?_push_of_some _ e)
 show wpAny _ A (do holding [v1] (bindName env x' v2);assignInOrder [λ v=>bindName env x v] [v1]) _ _ _
 refine Rn (wpAny_holding (wpAny_bindName (gg (T:=T2) K hx' hl' H3 t2 λ s4 mm4 H4 m4=> ?_)))
 show wpAny _ A (do holding [] (bindName env x v1);assignInOrder [] []) _ _ _
 refine Rn (wpAny_holding (wpAny_bindName (gg (T:=T1) K hx hl H4 (t1.mono l2 q2) λ s5 mm5 H5 m5=> ?_)))
 exact Rs ⟨mm5,F2,r2,[],l1.trans l2,q1.trans q2,H5,.next,(m1.trans (m2.trans .mk)).trans (m4.trans m5)⟩
end
section
variable {X:Cx}{LP:bu}{F F':PM}{r r':PS}{R:List aK}{env:Env}{mm:Str->Option Value}{nm:List Str}{sc:Sc}{cd:Option (Addr×Str)}{lc:List (Option V)}{sl:ab}{d:Nat}{h h':Heap}
inductive Jd (X:Cx) (LP:bu) (d:Nat) (env:Env) (nm:List Str) (tf:St->Option (V×St)) (bf:St->Option (Fl×St)) (fl:Fl) (t9:St) (A:Around) (F:PM) (r:PS) (R:List aK) (s:Shared) (n:Nat) (s':Shared):Prop
 | mk (mm:Str->Option Value) (F1:PM) (r1:PS) (t1:St):F.le F1->r.le r1->HS X LP F1 r1 env mm nm t1.loc t1.slo R s'.heap->Sm s s'->dG A d s'->bt tf bf n t1=some (fl,t9)->Jd X LP d env nm tf bf fl t9 A F r R s n s'
section
variable {tf:St->Option (V×St)}{bf:St->Option (Fl×St)}{b:List Stmt}{p:Pos}{fl:Fl}{t0 t9:St}
theorem Do {t:Expr}{n:Nat}(ht: ∀ s b s',mY (tf s)=some (b,s')->eQ X LP d env nm t s.loc s.slo b s'.loc s'.slo) (hb: ∀ s f s',bf s=some (f,s')->jL X LP d env nm b s.loc s.slo f s'.loc s'.slo) (W:bt tf bf n t0=some (fl,t9)) :
   ek X LP d env nm (.While t b [] p) t0.loc t0.slo fl t9.loc t9.slo:=λ mm A F r R s hA H=>by
 refine wpAny_While (codeAny_whileLoop (Jd X LP d env nm tf bf fl t9 A F r R s) (λ n s1 z=> ?_) n ⟨mm,F,r,t0,.refl _,.refl _,H,.refl _,hA,W⟩)
 cases z with | mk mm1 F1 r1 t1 l1 q1 H1 m1 hA1 W=> ?_
 cases n with
 | zero=>exact nn W
 | succ n =>
   refine CP W λ c t2 hc W=>Ro (eI (ht _ _ _ hc) hA1 H1 λ s2 F2 r2 l2 q2 H2 m2 hA2=> ?_) (λ _ _ z=>z) λ _ _ z=>z.elim
   cases c with
   | false =>
     rw [if_neg Bool.false_ne_true]
     exact cS (P:=λ fl t9=>wpAny (model X.prog X.w) A (execs [] env) (vT X LP F r R s env nm fl t9.loc t9.slo) (λ _ _=>False) s2) W (wpAny_execs_nil ⟨mm1,F2,r2,[],l1.trans l2,q1.trans q2,H2,.next,m1.trans m2⟩)
   | true =>
     rw [if_pos rfl]
     refine Ir W λ f t3 hf W=>Ro (oJ (hb _ _ _ hf) hA2 H2 λ f' s3 mm3 F3 r3 T l3 q3 H3 t m3 hA3=> ?_) (λ _ _ z=>z) λ _ _ z=>z.elim
     have go:bt tf bf n t3=some (fl,t9)->HS X LP F3 r3 env mm3 nm t3.loc t3.slo R s3.heap->Jd X LP d env nm tf bf fl t9 A F r R s n s3:=λ W H3=>⟨mm3,F3,r3,t3,l1.trans (l2.trans l3),q1.trans (q2.trans q3),H3,m1.trans (m2.trans m3),hA3,W⟩
     cases t with
     | next=>exact ⟨n,Nat.lt_succ_self _,go W H3⟩
     | cont=>exact ⟨n,Nat.lt_succ_self _,go W H3⟩
     | ret t=>exact cS (P:=λ fl t9=>vT X LP F r R s env nm fl t9.loc t9.slo _ s3) W ⟨mm3,F3,r3,T,l1.trans (l2.trans l3),q1.trans (q2.trans q3),H3,.ret t,m1.trans (m2.trans m3)⟩
inductive Je (X:Cx) (LP:bu) (d:Nat) (env:Env) (nm:List Str) (i:Nat) (bf:St->Option (Fl×St)) (fl:Fl) (t9:St) (A:Around) (I:Addr) (P:Nat->Obj->Prop) (items:List W) (F0 F:PM) (r:PS) (R:List aK) (s:Shared) (n:Nat) (s':Shared):Prop
 | mk (j:Nat) (rest:List W) (mm:Str->Option Value) (F1:PM) (r1:PS) (t1:St):n=rest.length->items.drop j=rest->j+rest.length=items.length->F0.le F1->F.le F1->r.le r1->HS X LP F1 r1 env mm nm t1.loc t1.slo ((I,P j)::R) s'.heap->Sm s s'->dG A d s'->bV i bf rest t1=some (fl,t9)->Je X LP d env nm i bf fl t9 A I P items F0 F r R s n s'
inductive Gz (X:Cx) (LP:bu) (F:PM) (r:PS) (env:Env) (nm:List Str) (lc:List (Option V)) (sl:ab) (R:List aK) (s s':Shared):Prop
 | mk (mm:Str->Option Value):HS X LP F r env mm nm lc sl R s'.heap->Sm s s'->Gz X LP F r env nm lc sl R s s'
theorem Dp (K:aQ env sc nm cd) {i:Nat}{x:Str}{iter:Expr}{p':Pos}{iw:W}{items:List W}(hx:nm[i]?=some x) (hl:sc.lookup x=some .local) (hset:gP iter=true)
   (h1:bG X LP d env nm iter lc sl iw t0.loc t0.slo) (hi:br iw=some items) (hb: ∀ s f s',bf s=some (f,s')->jL X LP d env nm b s.loc s.slo f s'.loc s'.slo) (W:bV i bf items t0=some (fl,t9)):ek X LP d env nm (.For (.Name x p') iter b [] p) lc sl fl t9.loc t9.slo:=λ mm A F r R s hA H=>by
 have hs: ∀ x,foldedSetIterable iter env x=pure x:=by cases iter<;>first | (exact λ _=>rfl) | exact ff hset
 refine wpAny_For (cz h1 hA H λ v s1 F1 r1 l1 q1 H1 t1 m1 hA1=>nu H1.subF (λ oI P nf p0 hit=> ?_) t1 hi) hs
 have H2:=H1.newO (P:=P 0) (aR _ oI) (aN _) (Heap.get?_push_size _ nf) p0
 generalize s1.heap.objs.size=I at H2 hit ⊢
 refine codeAny_forLoop (Je X LP d env nm i bf fl t9 A I P items F1 F r R s) (λ n s2 z=> ?_) items.length ⟨0,items,mm,F1,r1,t0,rfl,rfl,Nat.zero_add _,.refl _,l1,q1,H2,m1.trans .mk,hA1,W⟩
 cases z with | mk j rest mm2 F2 r2 t2 hn hd hsum lF l2 q2 H3 sm hA2 W=> ?_
 have cur:=H3.headO
 cases rest with
 | nil =>
   have hjj:j=items.length:=hsum
   refine (hit F2 lF).done hA2.1 H3.subF (hjj▸cur) λ h' tk off=> ?_
   exact cS (P:=λ fl t9=>wpAny (model X.prog X.w) A (execs [] env) (vT X LP F r R s env nm fl t9.loc t9.slo) (λ _ _=>False) { s2 with heap:=h',toks:=tk }) W (wpAny_execs_nil ⟨mm2,F2,r2,[],l2,q2,H3.gone off,.next,sm.trans .mk⟩)
 | cons w rest =>
   obtain ⟨hx',hd2⟩:=lW hd
   have hs2:j+1+rest.length=items.length:=(Nat.add_right_comm j 1 rest.length).trans hsum
   refine Ro (a8 ((hit F2 lF).item (Q:=Df X F2 I w (P (j+1)) s2) (E:=λ _ _=>False) hA2.1 hx' H3.subF cur λ v h' tk o' tv eo po off=> .mk tv eo po off .mk)) (λ q' s3 z=> ?_) λ _ _ z=>z.elim
   have hA3:=hA2.up z.2
   cases z.1 with | @mk v o' _ tv eo po off sm3=> ?_
   have H4:=H3.updO (h':=s3.heap) (P':=P (j+1)) off eo po
   refine Ro (a8 (oE (M:=model X.prog X.w) (E:=λ _ _=>False) (Q:=λ _ s'=>Gz X LP F2 r2 env nm (aM t2.loc i (some (.w w))) t2.slo ((I,P (j+1))::R) s3 s') (T:=[]) K hx hl H4 (.v (.w tv)) λ s' mm' H' m'=>⟨mm',H',m'⟩)) (λ _ s4 z=> ?_) λ _ _ z=>z.elim
   have hA4:=hA3.up z.2
   cases z.1 with | mk mm4 H5 m4=> ?_
   refine Ir W λ f t3 hf W=>Ro (oJ (hb _ _ _ hf) hA4 H5 λ f' s5 mm5 F5 r5 T l5 q5 H6 t m5 hA5=> ?_) (λ _ _ z=>z) λ _ _ z=>z.elim
   have m5:=sm.trans (sm3.trans (m4.trans m5))
   have go:bV i bf rest t3=some (fl,t9)->HS X LP F5 r5 env mm5 nm t3.loc t3.slo ((I,P (j+1))::R) s5.heap-> ∃ m,m < n/\Je X LP d env nm i bf fl t9 A I P items F1 F r R s m s5:=λ W H6=>⟨rest.length,hn▸Nat.lt_succ_self _,j+1,rest,mm5,F5,r5,t3,rfl,hd2,hs2,lF.trans l5,l2.trans l5,q2.trans q5,H6,m5,hA5,W⟩
   cases t with
   | next=>exact go W H6
   | cont=>exact go W H6
   | ret t=>exact cS (P:=λ fl t9=>vT X LP F r R s env nm fl t9.loc t9.slo _ s5) W ⟨mm5,F5,r5,T,l2.trans l5,q2.trans q5,H6.dropBehind,.ret t,m5⟩
end
theorem RH.one {t l:Addr}{w:W}{ws:List W}{xs:List Value}(h:zb X F (w,ws) (.ref t) [(l,aD xs)]):RH X F [.ref t] [(w,ws)] [(l,aD xs)]:=eC.mk (T:=[(l,aD xs)]) (U:=[]) h ⟨rfl,rfl⟩
theorem Dq (K:aQ env sc nm cd) {i:Nat}{x:Str}{y:Expr}{k:Nat}{p p' p2 p3 p4:Pos}{w:W}{lc1:List (Option V)}{sl1:ab}(hx:nm[i]?=some x) (hl:sc.lookup x=some .local) (hs:aE y=true) (h:bp X LP d env nm y lc sl (.w w) lc1 sl1) :
   ek X LP d env nm (.Assign [.Name x p'] (.List [.Tuple [y,.List [] p4] k p3] p2) p) lc sl .next (aM lc1 i (some (.hds [(w,[])]))) sl1:=by
 intro mm A F r R s hA H
 refine wpAny_Assign_Name (wpAny_List (wpAny_items_cons (wpAny_Tuple (wpAny_items_cons (he:=d6 hs) (cG h hA H λ v s1 F1 r1 l1 q1 H1 t1 m1 hA1=> ?_))))) (dc rfl)
 have tw:=Gh t1
 refine wpAny_items_cons (wpAny_List (wpAny_items_nil ⟨by rw [sizeLine_eq];show 0<=16777216;decide,wpAny_items_nil ⟨by rw [sizeLine_eq];show 2<=16777216;decide,?_⟩⟩))
 have H2:=H1.newO (P:=aD []) (aR _ { cls:= .type "list",data:= .seq ([]:List Value).toArray }) (aN _) (Heap.get?_push_size _ rfl) ⟨0,rfl⟩
 obtain ⟨l3,H3⟩:=H2.newF (aR _ { cls:= .type "tuple",data:= .seq [v,.ref s1.heap.objs.size].toArray }) (aN _) (Heap.get?_push_size _ rfl)
 refine wpAny_items_nil ⟨by rw [sizeLine_eq];show 1<=16777216;decide,?_⟩
 have H4:=H3.newO (P:=aD [.ref (s1.heap.push { cls:= .type "list",data:= .seq ([]:List Value).toArray }).objs.size]) (aR _ { cls:= .type "list",data:= .seq [Value.ref (s1.heap.push { cls:= .type "list",data:= .seq ([]:List Value).toArray }).objs.size].toArray }) (aN _) (Heap.get?_push_size _ rfl) ⟨0,rfl⟩
 refine gg (T:=[(_,_),(_,_)]) K hx hl H4 (.hds (by show 1<=cw;decide) (.one (.mk (PM.set_self _ _ _) rfl rfl (tw.mono l3) (Nat.zero_le _) .nil))) λ s5 mm5 H5 m5=> ?_
 exact ⟨mm5,_,r1,[],l1.trans l3,q1,H5,.next,m1.trans (Sm.trans .mk m5)⟩
end
section
variable {X:Cx}{LP:bu}{F F':PM}{r r':PS}{R:List aK}{env:Env}{mm:Str->Option Value}{nm:List Str}{sc:Sc}{cd:Option (Addr×Str)}{lc:List (Option V)}{sl:ab}{d:Nat}{h h':Heap}
theorem HS.hide (K:aQ env sc nm cd) {i:Nat}{x:Str}{V:V}(hx:nm[i]?=some x) (hl:sc.lookup x=some .local) (hV:bA lc i=some V) (H:HS X LP F r env mm nm lc sl R h) {Q:Prop}
   (k: ∀ v T,mm x=some v->RT X LP F r T v V->HS X LP F r env mm nm (aM lc i none) sl (T++R) h->Q):Q :=
 H.on hx K.nod λ l T Z e c b re=>by
   cases sj ((fV hV).symm.trans e)
   cases c with
   | l a e1 t=>exact k _ T e1 t (re (T':=[]) (.refl _) (.refl _) (λ _ _ _=>rfl) (.l a) (b.tr [T,[(env.locals,gF mm)],Z,R] (.n (.l 0) (.n (.l 1) (.n (.l 2) (.l 3)))) (.n (.l 1) (.n (.l 2) (.n (.l 0) (.l 3)))) rfl))
   | c a _ _ _ _=>exact il ((K.kindOf x).trans hl) a
theorem HS.unhide (K:aQ env sc nm cd) {i:Nat}{x:Str}{V:V}{v:Value}{T:List aK}(hx:nm[i]?=some x) (hl:sc.lookup x=some .local) (hV:dI lc i=true) (e:mm x=some v) (t:RT X LP F r T v V) (H:HS X LP F r env mm nm lc sl (T++R) h):HS X LP F r env mm nm (aM lc i (some V)) sl R h :=
 H.on hx K.nod λ l T0 Z e1 c b re=>by
   cases sj ((sg hV).symm.trans e1)
   cases c with
   | l a=>exact re (.refl _) (.refl _) (λ _ _ _=>rfl) (.l a e t) (HC.tr [[(env.locals,gF mm)],Z,T,R] (.n (.l 0) (.n (.l 1) (.n (.l 2) (.l 3)))) (.n (.l 2) (.n (.l 0) (.n (.l 1) (.l 3)))) rfl b)
   | c a _=>exact il ((K.kindOf x).trans hl) (.inl a)
theorem l9 {M:Model}{A:Around}{E:Value->Shared->Prop}(K:aQ env sc nm cd) {x:Str}{p:Pos}{v:Value}{s:Shared}{Q:Value->Shared->Prop}(hl:sc.lookup x=some .local) (ok:fY x=true) (e:mm x=some v) (H:HS X LP F r env mm nm lc sl R s.heap) (q:Q v s):wpAny M A (eval (.Name x p) env) Q E s:=by
 cases H with | mk U vv b=>exact wpAny_Name (wpAny_loadName_local K.kind ((K.kindOf x).trans hl) (BU b) e q) (kO ok)
theorem uz {a b:Nat}(h:a+b < cw):Builtin.List.listTooLong (a+b)=false:=decide_eq_false (Nat.not_lt.mpr (bZ (Nat.le_of_lt h)))
theorem qe {A:Around}{E:Value->Shared->Prop}{s:Shared}{D b:Addr}{o:Obj}{vs us:List Value}{n:Nat}{T:String}{Q:Value->Shared->Prop}(H:HC X LP F r sl ((D,aD vs)::R) s.heap) (hT:T = "list" \/ T = "tuple") (g1:F b=some o) (g2:o.cls= .type T) (g3:o.data= .seq us.toArray n) (hl:vs.length+us.length < cw)
   (q: ∀ h',HC X LP F r sl ((D,aD (vs++us))::R) h'->Q .none { s with heap:=h' }):wpAny (model X.prog X.w) A (call (.builtin "list.extend") [.ref D,.ref b]) Q E s:=by
 obtain ⟨oD,eD,nD,rfl⟩:=H.head
 have gb:=H.fro _ _ g1
 refine wpAny_call_entry PySem.F.slot_list_extend ⟨_,eD,rfl⟩ PySem.F.entry_list_extend ?_ (PySem.F.args_list_extend_2 _ _)
 show wpAny _ _ (Builtin.List.listExtendWith (.ref D) (.ref b) .none) _ _ _
 unfold Builtin.List.listExtendWith
 refine Rn (wpAny_typeOf (T:=T) ⟨o,gb,g2⟩ ?_)
 rw [if_pos (by rcases hT with rfl | rfl<;>simp)]
 refine Rn (wpAny_listItems gb g3 (Rn (wpAny_listItems eD rfl ?_)))
 rw [show Builtin.List.listTooLong (vs.toArray.size+us.toArray.size)=false from uz hl,Bool.and_false,if_neg Bool.false_ne_true]
 refine Rn (wpAny_updateSeq eD rfl ?_ (bZ (Nat.le_of_lt (Rt (Ru _ _) hl))) (by rw [Array.size_append];exact Nat.le_succ_of_le (bZ (Nat.le_of_lt hl))))
 refine Rn (Rs (Rs ⟨_,rfl,q _ ?_⟩))
 refine H.upd (λ c oc hc ec=>(Heap.SameBut.update ..).extBut c oc hc ec) (o:=Obj.mapSeq (λ x=>x++us.toArray) { cls:= .type "list",data:= .seq vs.toArray nD }) ?_ ⟨_,by rw [mapSeq_app,List.append_toArray]⟩
 exact Heap.get?_update_self _ eD (by rw [mapSeq_app];rfl)
theorem B0 {v:Value}{V:V}{w:W}(e:mV V=some w) (t:RV X LP F r v (frz V)):RW X F v w:=by rw [vV e] at t;exact t
theorem ma {A:Around}{E:Value->Shared->Prop}{s:Shared}{D:Addr}{vs:List Value}{v:Value}{Vo:V}{ws:List W}{Q:Value->Shared->Prop}(H:HC X LP F r sl ((D,aD vs)::R) s.heap) (t:RV X LP F r v (frz Vo)) (e:fy Vo=some ws) (hl:vs.length+ws.length < cw)
   (q: ∀ h' us,cF X F us ws->HC X LP F r sl ((D,aD (vs++us))::R) h'->Q .none { s with heap:=h' }):wpAny (model X.prog X.w) A (call (.builtin "list.extend") [.ref D,v]) Q E s:=by
 refine oW e λ w hw e=> ?_
 have t:=B0 hw t
 refine BN e (λ l hl' e=> ?_) λ _ e=> ?_
 · cases sj e
   cases fS hl'▸t with | mk a b c f g=>exact qe H (.inl rfl) a b c (g.length▸hl) λ h' H'=>q h' _ g H'
 · cases jH e▸t with | mk a b c f g=>exact qe H (.inr rfl) a b c (g.length▸hl) λ h' H'=>q h' _ g H'
noncomputable def nA (ext:Bool):Str:=match ext with
 | true => "extend"
 | false => "append"
noncomputable def Iu (ext:Bool):String:=match ext with
 | true => "list.extend"
 | false => "list.append"
theorem uA (ext:Bool):PlainAttrs "list" /\ Slot "list" (nA ext) (Iu ext)/\typeOf (.builtin (Iu ext))=pure (.type "method_descriptor"):=by
 cases ext with
 | false=>exact ⟨PySem.F.plainAttrs_list,PySem.F.slot_list_append,PySem.F.type_list_append⟩
 | true=>exact ⟨PySem.F.plainAttrs_list,PySem.F.slot_list_extend,PySem.F.type_list_extend⟩
inductive xd (P:Addr->Shared->Prop):Value->Shared->Prop
 | mk {a:Addr} {o:Obj} {vs:List Value} {s:Shared}:s.heap.get? a=some o->aD vs o->P a s->xd P (.ref a) s
theorem kT (K:aQ env sc nm cd) (ext:Bool) {xo:Expr}{ys:List Expr}{ap p' p:Pos}{A:Around}{s:Shared}{Q:Flow->Shared->Prop}(hx:cq xo=true) (hs:ys.all aE=true) (hn:ys.length < 30) (hp:ap.endLine=p'.line)
   (h:wpAny (model X.prog X.w) A (eval xo env) (xd λ a s1=>wpAny (model X.prog X.w) A (spliced (backTo p' (starEach ys env))) (λ us s2=>wpAny (model X.prog X.w) A (call (.builtin (Iu ext)) (.ref a::us)) (λ _=>Q .next) (λ _ _=>False) s2) (λ _ _=>False) s1) (λ _ _=>False) s) :
   wpAny (model X.prog X.w) A (exec (.Expr (.Call (.Attribute xo (nA ext) ap) ys [] p') p) env) Q (λ _ _=>False) s:=by
 refine wpAny_Expr_any (wpAny_Call_method_lateS (gZ hx) (oz hs hn) (by rw [hp];exact beq_self_eq_true _) (Ro h (λ v s1 z=> ?_) λ _ _ z=>z)) (sO K) rfl
 cases z with | @mk a o vs _ eo po z=> ?_
 obtain ⟨f1,f2,f3⟩:=uA ext
 obtain ⟨n,po⟩:=po
 exact ⟨_,_,f1,f2,f3,⟨o,eo,po▸rfl⟩,λ b q=>⟨o,(Value.ref.inj q)▸eo,po▸rfl⟩,callWith_builtin (db hs) (ik hs z)⟩
noncomputable def xe (ext:Bool) (v:V):Option (List W):=match ext with
 | true=>fy v
 | false=>match mV v with | some w=>some [w] | none=>none
theorem uB {A:Around}{E:Value->Shared->Prop}{s:Shared}{D:Addr}{vs:List Value}{v:Value}{Vo:V}{ws:List W}{ext:Bool}{Q:Value->Shared->Prop}(H:HC X LP F r sl ((D,aD vs)::R) s.heap) (t:RV X LP F r v (frz Vo)) (e:xe ext Vo=some ws) (hl:vs.length+ws.length < cw)
   (q: ∀ h' us,cF X F us ws->HC X LP F r sl ((D,aD (vs++us))::R) h'->Q .none { s with heap:=h' }):wpAny (model X.prog X.w) A (call (.builtin (Iu ext)) [.ref D,v]) Q E s:=by
 cases ext with
 | true=>exact ma H t e hl q
 | false =>
   refine oW e λ w hw e=> ?_
   cases sj e
   exact iY H (Nat.lt_of_succ_lt hl) λ h' H'=>q h' [v] (.cons (B0 hw t) .nil) H'
theorem me {y:Expr}(hs:aE y=true):([y]:List Expr).all aE=true:=by show (aE y&&true)=true;rw [hs];rfl
theorem xf {vs us:List Value}{l ws:List W}(hlt:l.length+ws.length < cw) (tw:cF X F vs l) (tu:cF X F us ws):(vs++us).length<=cw:=by rw [List.length_append,tu.length,tw.length];exact Nat.le_of_lt hlt
theorem qf (K:aQ env sc nm cd) (ext:Bool) {i:Nat}{x:Str}{y:Expr}{ap p p' px:Pos}{Vo:V}{l ws l':List W}{lc1:List (Option V)}{sl1:ab}(hx:nm[i]?=some x) (hl:sc.lookup x=some .local) (ok:fY x=true) (hs:aE y=true) (hp:ap.endLine=p'.line)
   (hV:bA lc i=some (.own l)) (h:bp X LP d env nm y (aM lc i none) sl Vo lc1 sl1) (e:xe ext Vo=some ws) (hno:dI lc1 i=true) (hg:gK l ws=some l') :
   ek X LP d env nm (.Expr (.Call (.Attribute (.Name x px) (nA ext) ap) [y] [] p') p) lc sl .next (aM lc1 i (some (.own l'))) sl1:=λ mm A F r R s hA H =>
 HS.hide K hx hl hV H λ v T e1 t H0=>oT hg λ c hg=>by
   have hlt:=Rm c
   cases sj hg
   cases t with | mk hlen tw=> ?_
   obtain ⟨o,eo,po⟩:=H0.headO
   refine kT K ext rfl (me hs) (by show 1 < 30;decide) hp (l9 K hl ok e1 H (.mk eo po (fi (jg hs h lJ) hA H0 λ vs' s2 F2 r2 l2 q2 H2 t2 m2 hA2=> ?_)))
   cases t2 with | mk ta tb=> ?_
   cases tb
   refine HS.open (T:=[_]) H2 λ U vv b=>uB (ext:=ext) b ta e (by rw [tw.length];exact hlt) λ h' us tu b'=> ?_
   exact ⟨mm,F2,r2,[],l2,q2,HS.unhide K hx hl hno e1 (.own (xf hlt (tw.mono l2) tu) (cF.append tu (tw.mono l2))) (HS.shut (T:=[_]) vv b'),.next,m2.trans .mk⟩
theorem bG.ev {x:Expr}{w:W}{lc1:List (Option V)}{sl1:ab}(h:bG X LP d env nm x lc sl w lc1 sl1):bp X LP d env nm x lc sl (.w w) lc1 sl1:=λ mm A F r R s hA H=>Ro (h mm A F r R s hA H) (λ _ _ y=>y.toP) λ _ _ z=>z
theorem xg (K:aQ env sc nm cd) {i:Nat}{k:Sl}{x:Str}{y:Expr}{ap p p' px:Pos}{l0 l l':List W}{w:W}{lc1:List (Option V)}{sl1:ab}(hx:nm[i]?=some x) (ok:fY x=true) (hs:aE y=true) (hp:ap.endLine=p'.line)
   (hV:bA lc i=some (.slot k)) (hk0:gL (sl.get k)=some l0) (h:bG X LP d env nm y lc sl w lc1 sl1) (hk:gL (sl1.get k)=some l) (hg:gK l [w]=some l') :
   ek X LP d env nm (.Expr (.Call (.Attribute (.Name x px) (nA false) ap) [y] [] p') p) lc sl .next lc1 (sl1.set k (.list l')):=λ mm A F r R s hA H=>oT hg λ c hg=>by
 have hlt:=Rm c
 cases sj hg
 refine kT K false rfl (me hs) (by show 1 < 30;decide) hp (cG (jf K hx ok (fV hV)) hA H λ v s1 F1 r1 l1 q1 H1 t1 m1 hA1=> ?_)
 cases t1 with | @mk a hr=> ?_
 refine HS.open (T:=[]) H1 λ _ _ b=>HC.slot b k λ T Z sc z _=> ?_
 rw [hr,hZ hk0] at sc
 cases sc with | @mk _ vs0 _ _=> ?_
 obtain ⟨o,eo,po⟩:=z.mem (a:=a) (P:=aD vs0) (Rz _ List.mem_cons_self)
 refine .mk eo po (fi (jg hs (bG.ev h) lJ) hA1 H1 λ vs' s2 F2 r2 l2 q2 H2 t2 m2 hA2=> ?_)
 cases t2 with | @mk va us ta tb=> ?_
 cases tb
 cases H2 with | mk U2 v2 b2=> ?_
 refine HC.slot b2 k λ T Z sc z re=> ?_
 rw [q2 _ _ hr,hZ hk] at sc
 cases sc with | @mk _ vs hlen tw=> ?_
 obtain ⟨o,eo,n,rfl⟩:=z.mem (a:=a) (P:=aD vs) (Rz _ List.mem_cons_self)
 refine append_at eo (λ h' sb e'=> ?_) (by rw [List.size_toArray];exact bZ hlen)
 have z2:=z.upd (h':=h') (P':=aD (vs++[va])) (λ b o hb eb=>sb.extBut b o hb eb) e' ⟨n+1,by rw [List.push_toArray]⟩
 refine ⟨mm,F2,r2,[],l1.trans l2,q1.trans q2,⟨U2,v2,re (.refl _) (.refl _) (λ _ _=>rfl) (x:= .list (l++[w])) (T':=[(a,aD (vs++[va]))]) ?_ z2⟩,.next,m1.trans (m2.trans .mk)⟩
 rw [q2 _ _ hr]
 exact .list (xf hlt tw (.cons ta .nil)) (cF.append (.cons ta .nil) tw)
theorem zX {y:Expr}{k:Nat}{p3 p4:Pos}{w:W}{lc1:List (Option V)}{sl1:ab}(hs:aE y=true) (h:bG X LP d env nm y lc sl w lc1 sl1) {A:Around}{s:Shared}{Q:Value->Shared->Prop}(hA:dG A d s) (H:HS X LP F r env mm nm lc sl R s.heap)
   (q: ∀ t l F' r' s',F.le F'->r.le r'->HS X LP F' r' env mm nm lc1 sl1 ((l,aD [])::R) s'.heap->zb X F' (w,[]) (.ref t) [(l,aD [])]->Sm s s'->dG A d s'->Q (.ref t) s'):wpAny (model X.prog X.w) A (eval (.Tuple [y,.List [] p4] k p3) env) Q (λ _ _=>False) s:=by
 refine wpAny_Tuple (wpAny_items_cons (he:=d6 hs) (cz h hA H λ v s1 F1 r1 l1 q1 H1 t1 m1 hA1=> ?_))
 refine wpAny_items_cons (wpAny_List (wpAny_items_nil ⟨by rw [sizeLine_eq];show 0<=16777216;decide,wpAny_items_nil ⟨by rw [sizeLine_eq];show 2<=16777216;decide,?_⟩⟩))
 have H2:=H1.newO (P:=aD []) (aR _ { cls:= .type "list",data:= .seq ([]:List Value).toArray }) (aN _) (Heap.get?_push_size _ rfl) ⟨0,rfl⟩
 have H3:=H2.newF (aR _ { cls:= .type "tuple",data:= .seq [v,.ref s1.heap.objs.size].toArray }) (aN _) (Heap.get?_push_size _ rfl)
 exact q _ _ _ r1 _ (l1.trans H3.1) q1 H3.2 (.mk (PM.set_self _ _ _) rfl rfl (t1.mono H3.1) (Nat.zero_le _) .nil) (m1.trans .mk) hA1
theorem RH.snoc {t la:Addr}{w:W}(e:zb X F (w,[]) (.ref t) [(la,aD [])]): ∀ {l:List (W×List W)}{vs:List Value}{U:List aK},RH X F vs l U->RH X F (vs++[.ref t]) (l++[(w,[])]) (U++[(la,aD [])])
 | [],_,_,h=>by
   cases h.1;cases h.2;exact .one e
 | _::_,_,_,h=>by
   cases h with | mk a b=> ?_
   rw [List.append_assoc]
   exact .mk a (RH.snoc e b)
theorem RH.len: ∀ {l:List (W×List W)}{vs:List Value}{U:List aK},RH X F vs l U->vs.length=l.length
 | [],_,_,h=>h.1▸rfl
 | _::_,_,_,h=>by cases h with | mk a b=>exact congrArg (· + 1) (RH.len b)
theorem Dr (K:aQ env sc nm cd) {i:Nat}{x:Str}{y:Expr}{k:Nat}{ap p p' px p3 p4:Pos}{w:W}{l:List (W×List W)}{lc1:List (Option V)}{sl1:ab}(hx:nm[i]?=some x) (hl:sc.lookup x=some .local) (ok:fY x=true) (hs:aE y=true) (hp:ap.endLine=p'.line)
   (hV:bA lc i=some (.hds l)) (h:bG X LP d env nm y (aM lc i none) sl w lc1 sl1) (hno:dI lc1 i=true) (hlt:Nat.blt l.length cw=true) :
   ek X LP d env nm (.Expr (.Call (.Attribute (.Name x px) (nA false) ap) [.Tuple [y,.List [] p4] k p3] [] p') p) lc sl .next (aM lc1 i (some (.hds (l++[(w,[])])))) sl1:=λ mm A F r R s hA H =>
 HS.hide K hx hl hV H λ v T e1 t H0=>by
   have hlt:l.length < cw:=Rm hlt
   cases t with | @mk a vs U hlen th=> ?_
   obtain ⟨o,eo,po⟩:=H0.headO
   refine kT K false rfl rfl (by show 1 < 30;decide) hp (l9 K hl ok e1 H (.mk eo po (wpAny_items_cons (zX hs h hA H0 λ t la F2 r2 s2 l2 q2 H2 e2 m2 hA2=>wpAny_items_nil ?_))))
   refine HS.open (T:=(la,aD [])::(a,aD vs)::U) H2 λ UU vv b=>iY b.swap (th.len▸hlt) λ h' b'=> ?_
   have H3:HS X LP F2 r2 env mm nm lc1 sl1 (((a,aD (vs++[.ref t]))::(U++[(la,aD [])]))++R) h':=HS.shut vv (HC.tr [[(a,aD (vs++[.ref t]))],[(la,aD [])],U,_] (.n (.l 0) (.n (.l 1) (.n (.l 2) (.l 3)))) (.n (.n (.l 0) (.n (.l 2) (.l 1))) (.l 3)) rfl b')
   exact ⟨mm,F2,r2,[],l2,q2,HS.unhide K hx hl hno e1 (.hds (by rw [List.length_append,th.len];exact hlt) ((th.mono l2).snoc e2)) H3,.next,m2.trans .mk⟩
theorem RH.last {ws:List W}: ∀ {l l':List (W×List W)}{vs:List Value}{U:List aK},RH X F vs l U->fx l ws=some l'-> ∀ {Q:Prop},(∀ vs0 t la xs o nv k U0,vs=vs0++[.ref t]->F t=some o->o.cls= .type "tuple" -> o.data= .seq [nv,.ref la].toArray k->U=U0++[(la,aD xs)]->xs.length+ws.length < cw ->
   (∀ {G:PM} {us:List Value},F.le G->cF X G us ws->RH X G vs l' (U0++[(la,aD (xs++us))]))->Q)->Q
 | [],_,_,_,_,e,_,_=>nn e
 | [(n,x)],l',_,_,h,e,_,K=>by
   cases h with | mk a b=> ?_
   cases b.1;cases b.2
   refine oT e λ c e=> ?_
   have c:=Rm c
   cases sj e
   cases a with | @mk t la o nv k xs g1 g2 g3 g4 g5 g6=> ?_
   exact K [] t la xs o nv k [] rfl g1 g2 g3 rfl (by rw [g6.length];exact c) λ {G us} le tu=> .one (.mk (le _ _ g1) g2 g3 (g4.mono le) (xf c (g6.mono le) tu) (cF.append tu (g6.mono le)))
 | p::q::l,l',_,_,h,e,_,K=>by
   cases h with | @mk _ _ T U a b=> ?_
   refine oH e λ t z e=> ?_
   cases sj e
   refine RH.last b z λ vs0 t la xs o nv k U0 h1 g1 g2 g3 h3 h4 h5=> ?_
   subst h1 h3
   exact K (_::vs0) t la xs o nv k (T++U0) rfl g1 g2 g3 (List.append_assoc ..).symm h4 λ {G us} le tu=>by
     rw [List.append_assoc]
     exact .mk (a.mono le) (h5 le tu)
theorem Ds (K:aQ env sc nm cd) {i:Nat}{x:Str}{y:Expr}{k k':Nat}{c1 c2 ap p p' px p3 p4 p5:Pos}{Vo:V}{ws:List W}{l l':List (W×List W)}{lc1:List (Option V)}{sl1:ab}(hx:nm[i]?=some x) (hl:sc.lookup x=some .local) (ok:fY x=true) (hs:aE y=true) (hp:ap.endLine=p'.line)
   (hV:bA lc i=some (.hds l)) (h:bp X LP d env nm y (aM lc i none) sl Vo lc1 sl1) (e:fy Vo=some ws) (hno:dI lc1 i=true) (he:fx l ws=some l') :
   ek X LP d env nm (.Expr (.Call (.Attribute (.Subscript (.Subscript (.Name x px) (.UnaryOp .USub (.Constant (.int 1) k c1) p3) p4) (.Constant (.int 1) k' c2) p5) (nA true) ap) [y] [] p') p) lc sl .next (aM lc1 i (some (.hds l'))) sl1:=λ mm A F r R s hA H =>
 HS.hide K hx hl hV H λ v T e1 t H0=>by
   cases t with | @mk a vs U hlen th=> ?_
   refine th.last he λ vs0 t la xs o nv kk U0 h1 g1 g2 g3 h3 hlt re=> ?_
   subst h1 h3
   have cur: ∃ o,s.heap.get? la=some o/\aD xs o:=HS.open (T:=(a,aD (vs0++[.ref t]))::(U0++[(la,aD xs)])) H0 λ UU vv b=>b.mem (Rk _ (Rz _ (List.mem_append_right _ List.mem_cons_self)))
   obtain ⟨ox,eo,po⟩:=cur
   obtain ⟨oa,ea,pa⟩:=H0.headO
   obtain ⟨na,rfl⟩:=pa
   refine kT K true rfl (me hs) (by show 1 < 30;decide) hp (Subscript_ (Subscript_ (l9 K hl ok e1 H (wpAny_UnaryOp (wpAny_Constant_int (P.neg_int ?_))))))
   refine tail_any (T := "list") ⟨_,ea,rfl⟩ slot_list_getitem.lookup ?_ (ig rfl _ _)
   have sz:(vs0++[Value.ref t]).toArray.size=vs0.length+1:=List.length_append
   refine wpAny_getItem_list_neg (items:=(vs0++[Value.ref t]).toArray) ⟨_,ea,rfl,_,rfl⟩ (by decide) (by rw [sz];lia) (by decide) (x:= .ref t) (by rw [sz,show ((-1:Int)+((vs0.length+1:Nat):Int)).toNat=vs0.length by lia,List.getElem?_toArray];exact List.getElem?_concat_length) ?_
   refine wpAny_Constant_int (item_tupleT (l:=[nv,.ref la]) ⟨_,H0.fro _ _ g1,g2,_,g3⟩ (by decide) (by decide) (k:=1) (j:=1) rfl rfl ?_ (ig rfl _ _))
   refine .mk eo po (fi (jg hs h lJ) (hA.up ?_) H0 λ vs' s2 F2 r2 l2 q2 H2 t2 m2 hA2=> ?_)
   · exact Ru s.toks 3
   · cases t2 with | mk ta tb=> ?_
     cases tb
     refine HS.open (T:=(a,aD (vs0++[.ref t]))::(U0++[(la,aD xs)])) H2 λ UU vv b=>ma (HC.tr [[(a,aD (vs0++[.ref t]))],U0,[(la,aD xs)],_] (.n (.n (.l 0) (.n (.l 1) (.l 2))) (.l 3)) (.n (.l 2) (.n (.l 0) (.n (.l 1) (.l 3)))) rfl b) ta e hlt λ h' us tu b'=> ?_
     have H3:HS X LP F2 r2 env mm nm lc1 sl1 (((a,aD (vs0++[.ref t]))::(U0++[(la,aD (xs++us))]))++R) h':=HS.shut vv (HC.tr [[(a,aD (vs0++[.ref t]))],U0,[(la,aD (xs++us))],_] (.n (.l 2) (.n (.l 0) (.n (.l 1) (.l 3)))) (.n (.n (.l 0) (.n (.l 1) (.l 2))) (.l 3)) rfl b')
     exact ⟨mm,F2,r2,[],l2,q2,HS.unhide K hx hl hno e1 (.hds hlen (re l2 tu)) H3,.next,Sm.trans .mk (m2.trans .mk)⟩
end
theorem zY {α:Type}: ∀ (l:List α) (i:Nat) (v:α),aM l i v=l.set i v
 | [],_,_=>rfl
 | _::_,0,_=>rfl
 | a::l,i+1,v=>by simp [aM,zY l i v]
section
variable {X:Cx}{LP:bu}{F F':PM}{r r':PS}{R:List aK}{env:Env}{mm:Str->Option Value}{nm:List Str}{sc:Sc}{cd:Option (Addr×Str)}{lc:List (Option V)}{sl:ab}{d:Nat}{h h':Heap}
theorem cF.set {v:Value}{w:W}(t:RW X F v w): ∀ {ws:List W}{vs:List Value},cF X F vs ws-> ∀ i,cF X F (vs.set i v) (aM ws i w)
 | [],_,.refl _,_=> .nil
 | _::_,_,.mk a b,0=> .mk t b
 | _::_,_,.mk a b,i+1=> .mk a (cF.set t b i)
theorem zZ (K:aQ env sc nm cd) {k:Sl}{xo xi y:Expr}{p p':Pos}{w:W}{n:Nat}{l:List W}{lc1 lc2 lc3:List (Option V)}{sl1 sl2 sl3:ab}(hs:dO xi=true) (hn:bK y=true) (h1:bG X LP d env nm y lc sl w lc1 sl1) (h2:bp X LP d env nm xo lc1 sl1 (.slot k) lc2 sl2) (h3:bG X LP d env nm xi lc2 sl2 (.int n) lc3 sl3)
   (hk:gL (sl3.get k)=some l) (hlt:Nat.blt n l.length=true):ek X LP d env nm (.Assign [.Subscript xo xi p'] y p) lc sl .next lc3 (sl3.set k (.list (aM l n w))):=λ mm A F r R s hA H=>by
 refine wpAny_Assign_Subscript (cz h1 hA H λ v s1 F1 r1 l1 q1 H1 t1 m1 hA1=>cG h2 hA1 H1 λ o s2 F2 r2 l2 q2 H2 t2 m2 hA2=>cz h3 hA2 H2 λ iv s3 F3 r3 l3 q3 H3 t3 m3 hA3=> ?_) (dc hn)
 have hlt:=Rm hlt
 cases t2 with | @mk a hr=> ?_
 cases t3 with | mk u=> ?_
 cases H3 with | mk U v3 b3=> ?_
 refine HC.slot b3 k λ T Z sc z re=> ?_
 rw [q3 _ _ hr,hZ hk] at sc
 cases sc with | @mk _ vs hlen tw=> ?_
 obtain ⟨oo,eo,n',rfl⟩:=z.mem (a:=a) (P:=aD vs) (Rz _ List.mem_cons_self)
 have len:=tw.length
 have l63:=oq (n:=l.length) (by rw [<- len];exact hlen)
 refine ki_setAt (items:=vs.toArray) eo (Int.natCast_nonneg _) (Int.lt_trans (Int.ofNat_lt.mpr hlt) l63) (by rw [List.size_toArray,len];exact Int.ofNat_lt.mpr hlt) ?_
 have e':=PySem.IsL.update (n:=n') (items:=vs.toArray) eo (·.setIfInBounds ((n:Int)).toNat v)
 rw [show vs.toArray.setIfInBounds ((n:Int)).toNat v=(vs.set n v).toArray from by simp] at e'
 have z2:=z.upd (h':=s3.heap.update a (Obj.mapSeq (·.setIfInBounds ((n:Int)).toNat v))) (P':=aD (vs.set n v)) (λ b o hb eb=>(Heap.SameBut.update ..).extBut b o hb eb) e' ⟨_,rfl⟩
 refine ⟨mm,F3,r3,[],l1.trans (l2.trans l3),q1.trans (q2.trans q3),⟨U,v3,re (.refl _) (.refl _) (λ _ _=>rfl) (x:= .list (aM l n w)) (T':=[(a,aD (vs.set n v))]) ?_ z2⟩,.next,m1.trans (m2.trans (m3.trans .mk))⟩
 rw [q3 _ _ hr]
 exact .list (by rw [List.length_set];exact hlen) (cF.set (t1.mono (l2.trans l3)) tw n)
theorem iy.put (C:bM X) {a:Nat}{v:Value}{Vo:V}{key:Value}{hsh:Int}(hk:eP X ⟨hsh,key,v⟩ (X.aname a)) (t:RV X LP F r v Vo): ∀ {fs:List (Nat×V)}{es:List DictEntry},iy X LP F r es fs->iy X LP F r (putL (X.aname a) hsh key v es) (mO a Vo fs)
 | [],_,.refl _=> .cons hk t .nil
 | (b,V)::q,_,.mk (v:=e) (vs:=es) k hh=>by
   have e1:=BX (b:=a) C k.1
   show iy X LP F r (if _ then _ else _) (match Nat.beq a b with | true=>(b,Vo)::q | false=>(b,V)::mO a Vo q)
   cases z:Nat.beq a b with
   | true=>rw [if_pos (e1.trans z)];exact .cons k.1 t hh
   | false=>rw [if_neg (by rw [e1,z];exact Bool.false_ne_true)];exact .cons k.1 k.2 (iy.put C hk t hh)
theorem iy.noref: ∀ {fs:List (Nat×V)}{es:List DictEntry},iy X LP F r es fs->es.any (·.refKey)=false
 | [],_,.refl _=>rfl
 | _::_,_,.mk k hh=>by rw [List.any_cons,wF k.1,iy.noref hh];rfl
theorem mf (name:Str) (hsh:Int) (key v:Value): ∀ es:List DictEntry,(putL name hsh key v es).length<=es.length+1
 | []=>Nat.le_refl _
 | e::r=>by
   unfold putL
   split
   · exact Nat.le_succ _
   · exact Nat.succ_le_succ (mf name hsh key v r)
theorem uC (C:bM X) {A:Around}{E:Value->Shared->Prop}{s:Shared}{c a:Nat}{x dx:Addr}{es:List DictEntry}{n:Nat}{v:Value}{Q:Unit->Shared->Prop}(hi:(X.T.init c).isSome=true) (ha:a < X.na) (hf:X.T.isF c a=true) (gx:F x=some (instObj (X.clsA c) dx)) (hr:es.any (·.refKey)=false) (hl:es.length<=50)
   (H:HC X LP F r sl ((dx,qX (dictOf es n))::R) s.heap)
   (q: ∀ h' tk n',HC X LP F r sl ((dx,qX (dictOf (putL (X.aname a) (PyData.keyHash X.w.params (X.aname a)) (.str (X.aname a) tk) v es) n'))::R) h'->Q () { s with heap:=h',toks:=s.toks+2 }):wpAny (model X.prog X.w) A (setAttr (.ref x) (X.aname a) v) Q E s:=by
 have K:=C.cls c hi
 have X0:=jP C H.base
 obtain ⟨od,ed,pd⟩:=H.head
 have pd:od=dictOf es n:=pd
 subst pd
 have gx':=H.fro _ _ gx
 have I:InstAt s.heap x (instObj (X.clsA c) dx) (X.clsA c) (some (dictOf es n)):=⟨gx',rfl,rfl,ed⟩
 have ht:takerIn X.K (X.clsA c) (X.aname a)=some none:=by unfold takerIn;rw [K.fld a ha hf];rfl
 refine set_plain X0 I K.seta (osa_open (s:={ s with toks:=s.toks+1 }) X0 I K.ovr ht λ b=> ?_)
 obtain ⟨cd,hc,hd'⟩:=any_some K.dic
 have hx:({ s with toks:=s.toks+1 }:Shared).heap.get? x=some (instObj (X.clsA c) dx):=gx'
 have X1:X.K.In ({ s with toks:=s.toks+1 }:Shared).heap:=X0
 refine Rn (Rs (Rn (Rn (wpAny_loadPart hx (Rn ((looks_clsIn X1 hc).here (s:={ s with toks:=s.toks+1 }) ?_))))))
 rw [hd']
 refine Rs (a:=some dx) (Rn (Rs (Rn ?_)))
 unfold nsSet
 refine Rn (Rn (wpAny_askSetting (Rs (Rn (wpAny_mkText (Rn (wpAny_loadPart ed ?_)))))))
 have c':(!es.toArray.any (·.key.isStr (X.aname a))&&es.toArray.any (·.refKey))=false:=by
   rw [<- Array.any_toList,<- Array.any_toList]
   show (!es.any _&&es.any _)=false
   rw [hr,Bool.and_false]
 dsimp only
 rw [aRefKeyMayBeTheName_at,c']
 have eN:Obj.putName (X.aname a) (PyData.keyHash X.w.params (X.aname a)) (.str (X.aname a) (s.toks+1)) v (dictOf es n)=dictOf (putL (X.aname a) (PyData.keyHash X.w.params (X.aname a)) (.str (X.aname a) (s.toks+1)) v es) (putN (X.aname a) es n):=putName_dict ..
 refine wpAny_updatePart ed ?_
 have ed':(s.heap.update dx (Obj.putName (X.aname a) (PyData.keyHash X.w.params (X.aname a)) (.str (X.aname a) (s.toks+1)) v)).get? dx=some (dictOf (putL (X.aname a) (PyData.keyHash X.w.params (X.aname a)) (.str (X.aname a) (s.toks+1)) v es) (putN (X.aname a) es n)):=by
   rw [Heap.get?_update_self _ ed (by rw [eN];rfl),eN]
 refine Rn (wpAny_lookBehind ed' (pastItsLine_dict (by rw [List.size_toArray,sizeLine_eq];exact Rl (mf _ _ _ _ es) (Rl (Nat.succ_le_succ hl) (by decide)))) ?_)
 exact Rs (q _ _ _ (H.upd (λ b o hb eb=>(Heap.SameBut.update ..).extBut b o hb eb) ed' rfl))
theorem HS.slotOut (H:HS X LP F r env mm nm lc sl R h) (k:Sl) {Q:Prop}(K: ∀ T,bE X LP F r (r k) (sl.get k) T->(∀ {x:dy},bE X LP F r (r k) x []->HS X LP F r env mm nm lc (sl.set k x) (T++R) h)->Q):Q:=by
 cases H with | mk U v b=> ?_
 exact HC.slot b k λ T Z sc z re=>K T sc λ {x} t=>⟨U,v,re (.refl _) (.refl _) (λ _ _=>rfl) t (z.tr [T,Z,[(env.locals,gF mm)],U,R] (.n (.l 0) (.n (.l 1) (.n (.l 2) (.n (.l 3) (.l 4))))) (.n (.l 1) (.n (.l 2) (.n (.l 3) (.n (.l 0) (.l 4))))) rfl)⟩
theorem HS.slotIn {T:List aK}(H:HS X LP F r env mm nm lc sl (T++R) h) (k:Sl) (e:jG (sl.get k)=true) {x:dy}(t:bE X LP F r (r k) x T):HS X LP F r env mm nm lc (sl.set k x) R h:=by
 cases H with | mk U v b=> ?_
 refine HC.slot b k λ T' Z sc z re=> ?_
 rw [mZ e] at sc
 have:T'=[]:=by generalize r k=o at sc;cases sc;rfl
 subst this
 exact ⟨U,v,re (.refl _) (.refl _) (λ _ _=>rfl) t (cU.tr [Z,[(env.locals,gF mm)],U,T,R] (.n (.l 0) (.n (.l 1) (.n (.l 2) (.n (.l 3) (.l 4))))) (.n (.l 3) (.n (.l 0) (.n (.l 1) (.n (.l 2) (.l 4))))) rfl z)⟩
end
theorem js (s:ab) (k:Sl) (x y:dy):(s.set k x).set k y=s.set k y:=by cases k<;>rfl
section
variable {X:Cx}{LP:bu}{F F':PM}{r r':PS}{R:List aK}{env:Env}{mm:Str->Option Value}{nm:List Str}{sc:Sc}{cd:Option (Addr×Str)}{lc:List (Option V)}{sl:ab}{d:Nat}{h h':Heap}
theorem iy.len: ∀ {fs:List (Nat×V)}{es:List DictEntry},iy X LP F r es fs->es.length=fs.length
 | [],_,.refl _=>rfl
 | _::_,_,.mk _ hh=>congrArg (· + 1) (iy.len hh)
theorem z4 (C:bM X) (d q:List W) (nmw w:W):mO X.T.aNam (.w w) (dW X.T d q nmw)=dW X.T d q w:=by
 obtain ⟨d1,d2,d3⟩:=C.rdrD
 simp only [dW,mO,gX d1,gX d2,Nat.beq_refl]
theorem Dt (C:bM X) (d q:List W) (nmw:W) (i:Int):mO X.T.aAt (.w (.int i)) (dW X.T d q nmw)=[(X.T.aTok,.w (.lst (d.reverse++q))),(X.T.aAt,.w (.int i)),(X.T.aNam,.w nmw)]:=by
 obtain ⟨d1,d2,d3⟩:=C.rdrD
 simp only [dW,mO,gX d3,Nat.beq_refl]
theorem mh: ∀ (n:Nat) (d q:List W) {P:List W->List W->Prop}{d' q':List W},se n d q=some (d',q')->(∀ d' q',d'.reverse++q'=d.reverse++q->d'.length=d.length+n->P d' q')->P d' q'
 | 0,d,q,_,_,_,e,k=>cS e (k d q rfl rfl)
 | n+1,d,[],_,_,_,e,k=>nn e
 | n+1,d,x::q,_,_,_,e,k=>mh n (x::d) q e λ d' q' h1 h2=>k d' q' (by rw [h1,List.reverse_cons,List.append_assoc];rfl) (by rw [h2,List.length_cons,Nat.add_right_comm];rfl)
theorem GA {β:Type}{y:β}{P:Prop}{o:Option (Nat×List (Nat×V))}{f:Nat->List (Nat×V)->Option β}{e:Option β}(h:(match o with | some (a,b)=>f a b | none=>e)=some y) (k: ∀ a b,o=some (a,b)->f a b=some y->P) (k2:e=some y->P):P :=
 @Option.casesOn _ (λ o=>(match o with | some (a,b)=>f a b | none=>e)=some y->(∀ a b,o=some (a,b)->f a b=some y->P)->P) o (λ h _=>k2 h) (λ _ h k=>k _ _ rfl h) h k
theorem iZ (C:bM X) {A:Around}{E:Value->Shared->Prop}{s:Shared}{k:Sl}{x:Addr}{c a:Nat}{v:Value}{Vo:V}{fs:List (Nat×V)}{x':dy}{Q:Unit->Shared->Prop}(H:HS X LP F r env mm nm lc sl R s.heap) (hr:r k=some x) (ha:a < X.na) (hf:X.T.isF c a=true) (hl:fs.length < 20)
   (t:RV X LP F r v Vo)
   (hin: ∀ T,bE X LP F r (some x) (sl.get k) T->t5 X LP F r c fs (some x) T)
   (hout: ∀ T,t5 X LP F r c (mO a Vo fs) (some x) T->bE X LP F r (some x) x' T)
   (q: ∀ h',HS X LP F r env mm nm lc (sl.set k x') R h'->Q () { s with heap:=h',toks:=s.toks+2 }):wpAny (model X.prog X.w) A (setAttr (.ref x) (X.aname a) v) Q E s :=
 H.slotOut k λ T tc out=>by
   rw [hr] at tc out
   have H1:=out (x:= .dead) .dead
   cases hin T tc with | @mk _ dx es n hi gx rf _=> ?_
   refine HS.open (T:=[_]) H1 λ U vv b=> ?_
   have el:es.length<=20:=rf.len▸Nat.le_of_lt hl
   refine uC C hi ha hf gx rf.noref (Rl el (by decide)) b λ h' tk n' b'=>q _ ?_
   have H2:HS X LP F r env mm nm lc (sl.set k .dead) ([_]++R) h':=HS.shut (T:=[_]) vv b'
   have H3:=HS.slotIn (x:=x') H2 k (by rw [fh];rfl) (hr▸hout _ (.mk hi gx (rf.put C ⟨_,rfl,rfl⟩ t) (Rl (mf _ _ _ _ es) (Rl (Nat.succ_le_succ el) (by decide)))))
   rw [js] at H3
   exact H3
theorem oK (C:bM X) {x:Addr}{d q:List W}{w:W}{T:List aK}(h:rt X LP F r d q w (some x) T):t5 X LP F r X.T.rdrC (dW X.T d q w) (some x) T:=by
 cases h with | mk a b=>exact .mk C.rdr a b (by rw [b.len];show 3<=50;decide)
theorem oM {x:Addr}{d q:List W}{w:W}{T:List aK}(h:t5 X LP F r X.T.rdrC (dW X.T d q w) (some x) T):rt X LP F r d q w (some x) T:=by
 cases h with | mk _ a b _=>exact .mk a b
theorem z5 (C:bM X) {a:Nat}{xo y:Expr}{p p':Pos}{Vo ov:V}{s0 s3:St}{lc1 lc2:List (Option V)}{sl1 sl2:ab}(ha:a < X.na) (hn:bK y=true) (h1:bp X LP d env nm y lc sl Vo lc1 sl1) (h2:bp X LP d env nm xo lc1 sl1 ov lc2 sl2) (e:pC X.T ⟨lc2,sl2⟩ ov a Vo=some s3) :
   ek X LP d env nm (.Assign [.Attribute xo (X.aname a) p'] y p) lc sl .next s3.loc s3.slo:=by
 intro mm A F r R s hA H
 refine plainObj_wpAny_Assign_Attribute (cG h1 hA H λ v s1 F1 r1 l1 q1 H1 t1 m1 hA1=>cG h2 hA1 H1 λ o s2 F2 r2 l2 q2 H2 t2 m2 hA2=> ?_) (dc hn)
 refine y5 e λ k hk e=> ?_
 cases dM hk
 cases t2 with | @mk x hr=> ?_
 have fL: ∀ {x':dy} {h':Heap},HS X LP F2 r2 env mm nm lc2 (sl2.set k x') R h'->vT X LP F r R s env nm .next lc2 (sl2.set k x') .next { s2 with heap:=h',toks:=s2.toks+2 }:=λ H3=>⟨mm,F2,r2,[],l1.trans l2,q1.trans q2,H3,.next,m1.trans (m2.trans .mk)⟩
 refine GA e (λ c fs q e=>oT e λ z e=> ?_) λ e=>CR e λ dn rm nmw q e=>oW e λ wv hw e=>oT e λ z e=> ?_
 · obtain ⟨hf,hlt⟩:=Bool.and_eq_true_iff.mp z
   have q:sl2.get k= .obj c fs:=lr q
   cases sj e
   exact iZ C (x':= .obj c (mO a (frz Vo) fs)) H2 hr ha hf (Rm hlt) (t1.mono l2 q2) (λ T tc=>by rw [q] at tc;exact tc) (λ T tc=>tc) λ h' H3=>fL H3
 · obtain ⟨hb,hf⟩:=Bool.and_eq_true_iff.mp z
   have q:sl2.get k= .rdr dn rm nmw:=lx q
   cases sj e
   cases Rq hb
   rw [vV hw] at t1
   exact iZ C (c:=X.T.rdrC) (fs:=dW X.T dn rm nmw) (x':= .rdr dn rm wv) H2 hr ha hf (by show 3 < 20;decide) (t1.mono l2 q2) (λ T tc=>by rw [q] at tc;exact oK C tc) (λ T tc=>by rw [z4 C] at tc;exact oM tc) λ h' H3=>fL H3
theorem Du (C:bM X) (K:aQ env sc nm cd) {i:Nat}{k:Sl}{x:Str}{y:Expr}{p p' p2 p3 px px':Pos}{dn rm dn' rm':List W}{nmw:W}{n:Nat}{lc2:List (Option V)}{sl2:ab}(hna:X.T.aAt < X.na) (hx:nm[i]?=some x) (ok:fY x=true) (hV:bA lc i=some (.slot k)) (hk:mX (sl.get k)=some (dn,rm,nmw))
   (h:bG X LP d env nm y lc (sl.set k .dead) (.int n) lc2 sl2) (hd:jG (sl2.get k)=true) (hV2:bA lc2 i=some (.slot k)) (hm:se n dn rm=some (dn',rm')) :
   ek X LP d env nm (.Assign [.Attribute (.Name x px) (X.aname X.T.aAt) p'] (.BinOp (.Attribute (.Name x px') (X.aname X.T.aAt) p2) .Add y p3) p) lc sl .next lc2 (sl2.set k (.rdr dn' rm' nmw)):=λ mm A F r R s hA H=>by
 have b1:Nat.beq X.T.aAt X.T.aTok=false:=gX C.rdrD.2.2
 have Kc:=C.cls _ C.rdr
 have hk:sl.get k= .rdr dn rm nmw:=lx hk
 refine plainObj_wpAny_Assign_Attribute (wpAny_BinOp (Attribute_any_ (cG (jf K hx ok (fV hV)) hA H λ o s1 F1 r1 l1 q1 H1 t1 m1 hA1=> ?_) (by rfl))) rfl
 cases t1 with | @mk ad hr=> ?_
 refine HS.slotOut H1 k λ T tc out=> ?_
 rw [hr] at tc out
 rw [hk] at tc
 have H1d:=out (x:= .dead) .dead
 cases tc with | @mk _ dx es nx gx rf=> ?_
 have I:InstAt s1.heap ad (instObj (X.clsA X.T.rdrC) dx) (X.clsA X.T.rdrC) (some (dictOf es nx)):=by
   obtain ⟨od,ed,pd⟩:=H1d.headO
   exact ⟨H1.fro _ _ gx,rfl,rfl,(show od=dictOf es nx from pd)▸ed⟩
 obtain ⟨v',e1,e2⟩:=kR (fP C (b:=X.T.aAt) rf) (w:= .w (.int dn.length)) (by simp only [dW,bW,b1,Nat.beq_refl])
 refine get_value (jP C H1.base) I (plainGet_of Kc.get).1 (findObj_own Kc.dic (Kc.fld _ hna C.rdrF) rfl e1) (nl e2) ?_
 refine cz (R:=_::R) h (hA1.up (Nat.le_succ _)) H1d λ v2 s2 F2 r2 l2 q2 H2 t2 m2 hA2=> ?_
 have hadd:iL .Add (.int dn.length) (.int n)=some (.int ((dn.length:Int)+n)):=rfl
 refine Ro (a8 (pR (F:=F2) hadd ((Gh e2).mono l2) t2)) (λ v3 s3 z=> ?_) λ _ _ z=>z
 have hA3:=hA2.up z.2
 have H3:HS X LP F2 r2 env mm nm lc2 (sl2.set k (.rdr dn rm nmw)) R s2.heap:=HS.slotIn (T:=[_]) H2 k hd (by rw [q2 _ _ hr];exact .rdr (l2 _ _ gx) (rf.mono l2 q2))
 cases z.1 with | mk tk tv=> ?_
 refine cG (jf K hx ok (fV hV2)) hA3 H3 λ o4 s4 F4 r4 l4 q4 H4 t4 m4 hA4=> ?_
 cases t4 with | mk hr4=> ?_
 cases (q4 _ _ (q2 _ _ hr)).symm.trans hr4
 refine iZ C (c:=X.T.rdrC) (fs:=dW X.T dn rm nmw) (Vo:= .w (.int ((dn.length:Int)+n))) (x':= .rdr dn' rm' nmw) H4 hr4 hna C.rdrF (by show 3 < 20;decide) (.w (tv.mono l4)) (λ T tc=>by rw [fh] at tc;exact oK C tc) (λ T tc=> ?_) λ h' H5=> ?_
 · rw [Dt C] at tc
   refine mh _ _ _ (P:=λ d q=>rt X LP F4 r4 d q nmw (some ad) T) hm λ d' q' h1 h2=>oM ?_
   unfold dW
   rw [h1,h2,Int.natCast_add]
   exact tc
 · rw [js] at H5
   exact ⟨mm,F4,r4,[],l1.trans (l2.trans l4),q1.trans (q2.trans q4),H5,.next,m1.trans ((Sm.trans .mk m2).trans (Sm.trans .mk (m4.trans .mk)))⟩
end
theorem mi {β:Type}{p:Str×β}{l:List (Str×β)}(nd:(l.map (·.1)).Nodup) (h:p ∈ l):l.lookup p.1=some p.2:=by
 induction l with
 | nil=>cases h
 | cons q l ih =>
   obtain ⟨a,b⟩:=q
   have nd':=List.nodup_cons.mp nd
   rw [List.lookup_cons]
   refine (List.mem_cons.mp h).elim (λ e=> ?_) λ h=> ?_
   · rw [e,beq_self_eq_true]
   · rw [beq_eq_false_iff_ne.mpr λ (q:p.1=a)=>nd'.1 (List.mem_map.mpr ⟨p,h,q⟩)];exact ih nd'.2 h
theorem qg {n:Str}{v:Value}{ns:List Str}{vs:List Value}{i:Nat}(nd:ns.Nodup) (h:ns[i]?=some n) (k:vs[i]?=some v):(ns.zip vs).lookup n=some v:=by
 induction ns generalizing vs i with
 | nil=>exact nn h
 | cons a ns ih =>
   cases vs with
   | nil=>exact nn k
   | cons b vs =>
     have nd':=List.nodup_cons.mp nd
     rw [List.zip_cons_cons,List.lookup_cons]
     cases i with
     | zero=>cases sj h;cases sj k;rw [beq_self_eq_true]
     | succ i =>
       have h:ns[i]?=some n:=h
       rw [beq_eq_false_iff_ne.mpr λ (q:n=a)=>nd'.1 (q▸List.mem_of_getElem? h)]
       exact ih nd'.2 h k
theorem uD {n:Str}{l:List (Str×Value)}(h:n ∉ l.map (·.1)):l.lookup n=none:=by
 induction l with
 | nil=>rfl
 | cons q l ih =>
   rw [List.lookup_cons,beq_eq_false_iff_ne.mpr λ (e:n=q.1)=>h (List.mem_map.mpr ⟨q,List.mem_cons_self,e.symm⟩)]
   exact ih λ m=>h (Rk _ m)
theorem uE {l:List (Str×Value)}(acc:List (Str×Value)) (nd:(l.map (·.1)).Nodup):(forIn l acc (λ (x:Str×Value) (r:List (Str×Value))=>(if (r.lookup x.1).isNone=true then pure (ForInStep.yield (r++[(x.1,x.2)])) else pure (ForInStep.yield r):Sem (ForInStep (List (Str×Value))))))=pure (acc++l.filter λ p=>(acc.lookup p.1).isNone):=by
 induction l generalizing acc with
 | nil=>rw [List.filter_nil,List.append_nil];rfl
 | cons q l ih =>
   have nd':=List.nodup_cons.mp nd
   rw [List.forIn_cons,List.filter_cons]
   cases e:(acc.lookup q.1).isNone with
   | true =>
     rw [if_pos rfl,pure_bind]
     refine (ih _ nd'.2).trans (congrArg pure ?_)
     rw [List.append_assoc,List.filter_congr λ p hp=> ?_]
     · rfl
     · rw [List.lookup_append,List.lookup_cons,beq_eq_false_iff_ne.mpr λ z=>nd'.1 (List.mem_map.mpr ⟨p,hp,z⟩)]
       show ((acc.lookup p.1).or none).isNone=_
       rw [Option.or_none]
   | false =>
     rw [if_neg Bool.false_ne_true,pure_bind]
     exact ih _ nd'.2
theorem kU {β:Type}(ns:List Str) (vs:List β):(ns.zip vs).map (·.1)=ns.take vs.length:=by
 induction ns generalizing vs with
 | nil=>rw [List.take_nil];rfl
 | cons a ns ih=>cases vs with
   | nil=>rfl
   | cons b vs=>exact congrArg (a:: ·) (ih vs)
theorem xh {l:List (Str×Value)}{ns:List Str}{ws:List Value}(hl:ws.length=ns.length) (k: ∀ p ∈ ns.zip ws,l.lookup p.1=some p.2):ns.filterMap (λ n=>Option.map (λ x=>(n,x)) (l.lookup n))=ns.zip ws:=by
 induction ns generalizing ws with
 | nil=>rfl
 | cons a ns ih =>
   cases ws with
   | nil=>exact nomatch hl
   | cons b ws =>
     rw [List.filterMap_cons_some (b:=(a,b)) (by rw [k (a,b) List.mem_cons_self];rfl),ih (Nat.succ.inj hl) λ p hp=>k p (Rk _ hp)]
     rfl
theorem xj {α β:Type}{p:α×β}{l:List α}{m:List β}(h:p ∈ l.zip m): ∃ i:Nat,l[i]?=some p.1/\m[i]?=some p.2:=by
 induction l generalizing m with
 | nil=>cases h
 | cons a l ih=>cases m with
   | nil=>cases h
   | cons b m=>exact (List.mem_cons.mp h).elim (λ e=>⟨0,e▸rfl,e▸rfl⟩) λ h=>(ih h).elim λ i z=>⟨i+1,z.1,z.2⟩
theorem xk {l:List Str}(nd:l.Nodup) {i j:Nat}{x:Str}(h:l[i]?=some x) (k:l[j]?=some x):i=j :=
 (List.getElem?_eq_some_iff.mp h).elim λ _ b=>(List.getElem?_eq_some_iff.mp k).elim λ _ e=>(List.getElem_inj nd).mp (b.trans e.symm)
noncomputable def dQ (ns:List Str) (vs ds:List Value):List (Str×Value):=ns.zip (vs++ds.drop (vs.length+ds.length - ns.length))
theorem sQ {v d n:Nat}(h1:v<=n) (h2:n<=v+d):v+(d - (v+d - n))=n:=by
 rw [<- Nat.add_sub_assoc (Nat.sub_le_of_le_add (Nat.add_comm .. ▸ Nat.add_le_add_left h1 _)) v,Nat.sub_sub_self h2]
theorem Ly (a d:Nat):a+1+2 * d+1=a+2 * (d+1):=by lia
theorem Lz (a d:Nat):a+3+40 * d+120<=a+40 * (d+1)+90:=by lia
theorem xl {ns:List Str}{vs ds:List Value}(nd:ns.Nodup) (hge:ns.length<=vs.length+ds.length):(List.filter (λ n=>(List.lookup n (ns.zip vs)).isNone) (List.take (ns.length - ds.length) ns)).isEmpty=true:=by
 rw [List.isEmpty_iff,List.filter_eq_nil_iff]
 intro n hn
 obtain ⟨i,hi⟩:=List.mem_iff_getElem?.mp hn
 rw [List.getElem?_take] at hi
 by_cases c:i < ns.length - ds.length
 · rw [if_pos c] at hi
   rw [qg nd hi (List.getElem?_eq_getElem (Nat.lt_of_lt_of_le c (Nat.sub_le_of_le_add hge)))]
   exact Bool.false_ne_true
 · rw [if_neg c] at hi;exact nn hi
theorem xm {ns:List Str}{vs ds:List Value}(nd:ns.Nodup) (hle:vs.length<=ns.length) (hge:ns.length<=vs.length+ds.length) (hds:ds.length<=ns.length) (ndz:(((ns.drop (ns.length - ds.length)).zip ds).map (·.1)).Nodup) :
   ns.filterMap (λ n=>Option.map (λ x=>(n,x)) (List.lookup n (ns.zip vs++List.filter (λ p=>(List.lookup p.1 (ns.zip vs)).isNone) ((ns.drop (ns.length - ds.length)).zip ds))))=dQ ns vs ds:=by
 refine xh (by rw [List.length_append,List.length_drop];exact sQ hle hge) λ p hp=> ?_
 obtain ⟨i,h1,h2⟩:=xj hp
 rw [List.lookup_append]
 by_cases c:i < vs.length
 · rw [List.getElem?_append_left c] at h2
   rw [qg nd h1 h2];rfl
 · have hno:(ns.zip vs).lookup p.1=none:=uD λ hm=>by
     rw [kU] at hm
     obtain ⟨j,hj⟩:=List.mem_iff_getElem?.mp hm
     rw [List.getElem?_take] at hj
     by_cases c':j < vs.length
     · rw [if_pos c'] at hj;exact c (xk nd h1 hj▸c')
     · rw [if_neg c'] at hj;exact nn hj
   rw [hno,Option.none_or]
   rw [List.getElem?_append_right (Ry c),List.getElem?_drop] at h2
   have hi:=(List.getElem?_eq_some_iff.mp h1).1
   refine mi (p:=p) (ndz.sublist ((List.filter_sublist).map _)) (List.mem_filter.mpr ⟨List.mem_iff_getElem?.mpr ⟨i - (ns.length - ds.length),?_⟩,by rw [hno];rfl⟩)
   rw [List.getElem?_zip_eq_some,List.getElem?_drop]
   have hx:ns.length - ds.length<=vs.length:=Nat.sub_le_of_le_add hge
   have hc:=Ry c
   refine ⟨?_,?_⟩
   · rw [Nat.add_sub_cancel' (Rl hx hc)];exact h1
   · rw [<- Nat.sub_add_sub_cancel hc hx,Nat.add_comm,Nat.sub_sub_right _ hds];exact h2
theorem xn {α:Type}{M:Model}{A:Around}{E:Value->Shared->Prop}{s:Shared}{Q:α->Shared->Prop}{c:Prop} [Decidable c] {a b:Sem α}(hc: ¬ c) (h:wpAny M A b Q E s):wpAny M A (if c then a else b) Q E s:=by
 rw [if_neg hc];exact h
theorem uF {p:Arguments}(hs:dK p=true):p=⟨[],p.args,none,[],[],none,p.defaults⟩:=by
 obtain ⟨po,ar,va,ko,kd,kw,df⟩:=p
 have hs:((((po.isEmpty&&va.isNone)&&ko.isEmpty)&&kd.isEmpty)&&kw.isNone)=true:=hs
 rw [Rw,Rw,Rw,Rw,List.isEmpty_iff,List.isEmpty_iff,List.isEmpty_iff,Option.isNone_iff_eq_none,Option.isNone_iff_eq_none] at hs
 rw [hs.1.1.1.1,hs.1.1.1.2,hs.1.1.2,hs.1.2,hs.2]
section
variable {M:Model}{A:Around}{E:Value->Shared->Prop}{s:Shared}{Q:List (Str×Value)->Shared->Prop}{vs ds:List Value}{dfl:Value}
noncomputable abbrev xq (s:Shared) (dfl:Value) (ds:List Value):Prop:=(dfl= .none/\ds=[])\/ ∃ T o n,dfl= .ref T/\s.heap.get? T=some o/\o.data= .seq ds.toArray n
theorem z6 (hd:xq s dfl ds) {k:Option (Array Value)->Sem (List (Str×Value))}(hk: ∀ oa:Option (Array Value),(oa.getD #[]).toList=ds->wpAny M A (k oa) Q E s):wpAny M A (seqItems? dfl >>= k) Q E s :=
 hd.elim (λ z=>z.1▸Rn (wpAny_of_eq (a:=none) rfl (hk none z.2.symm))) λ ⟨T,o,n,e,ho,hdat⟩=>e▸Rn (wpAny_seqItems ho hdat (hk (some ds.toArray) rfl))
theorem rM {nm ql:Str}{ar:List Arg}{df:List Expr}{bd:FuncBody}{sc:Scope}{gl bl:Addr}{cl:List (Str×Addr)}{kwd doc pm cd ct:Value}{an:Option Addr}(hd:xq s dfl ds) (nd:(ar.map (·.arg)).Nodup) (hle:vs.length<=(ar.map (·.arg)).length) (hge:(ar.map (·.arg)).length<=vs.length+ds.length) (hds:ds.length<=(ar.map (·.arg)).length)
   (hQ:Q (dQ (ar.map (·.arg)) vs ds) s):wpAny M A (bindArgs ⟨nm,ql,⟨[],ar,none,[],[],none,df⟩,bd,sc,gl,cl,dfl,kwd,doc,pm,an,cd,ct,bl⟩ ⟨vs,[]⟩) Q E s:=by
 have ndz:((((ar.map (·.arg)).drop ((ar.map (·.arg)).length - ds.length)).zip ds).map (·.1)).Nodup:=by
   rw [kU]
   exact (nd.sublist (List.drop_sublist _ _)).sublist (List.take_sublist _ _)
 have e0:(List.drop (ds.length - (ar.map (·.arg)).length) ds)=ds:=by rw [Nat.sub_eq_zero_of_le hds];rfl
 refine z6 hd λ oa hoa=>xn (λ h=> ?_) (xn (λ h=> ?_) (Rn (wpAny_of_eq (a:=(ar.map (·.arg)).zip vs++List.filter (λ p=>(List.lookup p.1 ((ar.map (·.arg)).zip vs)).isNone) (((ar.map (·.arg)).drop ((ar.map (·.arg)).length - ds.length)).zip ds)) ?_ (Rn (wpAny_of_eq (a:=(_,[])) rfl (xn (λ h=>ff h) (Rs ?_)))))))
 · exact Nat.lt_irrefl _ (Nat.lt_of_lt_of_le (of_decide_eq_true (Bool.and_eq_true_iff.mp h).1) hle)
 · replace h:(!(List.filter (λ n=>(List.lookup n ((ar.map (·.arg)).zip vs)).isNone) (List.take ((ar.map (·.arg)).length - (List.drop ((oa.getD #[]).toList.length - (ar.map (·.arg)).length) (oa.getD #[]).toList).length) (ar.map (·.arg)))).isEmpty)=true:=h
   rw [hoa,e0,xl nd hge] at h
   exact ff h
 · show forIn ((List.drop ((ar.map (·.arg)).length - (List.drop ((oa.getD #[]).toList.length - (ar.map (·.arg)).length) (oa.getD #[]).toList).length) (ar.map (·.arg))).zip (List.drop ((oa.getD #[]).toList.length - (ar.map (·.arg)).length) (oa.getD #[]).toList)) ((ar.map (·.arg)).zip vs) _=_
   rw [hoa,e0]
   exact uE _ ndz
 · show Q (List.filterMap (λ (n:Str)=>Option.map (λ (x:Value)=>(n,x)) (List.lookup n ((ar.map (·.arg)).zip vs++List.filter (λ (p:Str×Value)=>(List.lookup p.1 ((ar.map (·.arg)).zip vs)).isNone) (((ar.map (·.arg)).drop ((ar.map (·.arg)).length - ds.length)).zip ds)))) (ar.map (λ (x:Arg)=>x.arg)++[])) s
   rw [List.append_nil,xm nd hle hge hds ndz]
   exact hQ
end
theorem qh {s:Shared}{fd:FuncData}{vs ds:List Value}(hs:dK fd.params=true) (nd:(fd.params.args.map (·.arg)).Nodup) (hle:vs.length<=(fd.params.args.map (·.arg)).length) (hge:(fd.params.args.map (·.arg)).length<=vs.length+ds.length) (hds:ds.length<=(fd.params.args.map (·.arg)).length)
   (hd:xq s fd.defaults ds):BindsTo s fd ⟨vs,[]⟩ (dQ (fd.params.args.map (·.arg)) vs ds):=λ M A E Q hQ=>by
 exact @Eq.subst FuncData (λ f=>wpAny M A (bindArgs f ⟨vs,[]⟩) Q E s) _ _ (congrArg (λ p=>(⟨fd.name,fd.qualname,p,fd.body,fd.scope,fd.globals,fd.closure,fd.defaults,fd.kwdefaults,fd.doc,fd.pyModule,fd.annotations,fd.code,fd.closureTuple,fd.builtins⟩:FuncData)) (uF hs).symm) (rM hd nd hle hge hds hQ)
section
variable {X:Cx}{LP:bu}{F F':PM}{r r':PS}{R:List aK}{env:Env}{mm:Str->Option Value}{nm:List Str}{sc:Sc}{cd:Option (Addr×Str)}{lc:List (Option V)}{sl:ab}{d:Nat}{h h':Heap}
theorem cU.adopt {U N:List aK}(x:cU F U h) (k: ∀ b o,h.get? b=some o->h'.get? b=some o) (n: ∀ p ∈ N,h.get? p.1=none/\ ∃ o,h'.get? p.1=some o/\p.2 o) (c: ∀ a,fW a N<=1):cU F (N++U) h':=by
 have y:=x.keeps k
 refine ⟨y.fro,λ p hp=> ?_,λ a=> ?_⟩
 · rcases List.mem_append.mp hp with hp | hp
   · exact ⟨(x.fresh (n p hp).1).1,(n p hp).2⟩
   · exact y.own p hp
 · rw [cP]
   have h1:=c a
   have h2:=x.nod a
   by_cases z: ∃ p ∈ N,p.1=a
   · obtain ⟨p,hp,e⟩:=z
     have:fW a U=0:=eO λ q hq e'=>(x.fresh (n p hp).1).2 q hq (e'.trans e.symm)
     lia
   · have:fW a N=0:=eO λ q hq e'=>z ⟨q,hq,e'⟩
     lia
theorem HC.adopt {N:List aK}(x:HC X LP F r sl R h) (k: ∀ b o,h.get? b=some o->h'.get? b=some o) (n: ∀ p ∈ N,h.get? p.1=none/\ ∃ o,h'.get? p.1=some o/\p.2 o) (c: ∀ a,fW a N<=1):HC X LP F r sl (N++R) h':=by
 cases x with | mk U a b e=>exact ⟨U,a,cU.tr [N,U,R] (.n (.l 0) (.n (.l 1) (.l 2))) (.n (.l 1) (.n (.l 0) (.l 2))) rfl (b.adopt k n c),e⟩
inductive Fq (X:Cx) (LP:bu) (F:PM) (r:PS) (env:Env) (m:Str->Option Value) (x:Str) (Vo:V):List aK->Prop
 | l {v:Value}:env.kindOf x=some .local->m x=some v->RV X LP F r v Vo->Fq X LP F r env m x Vo []
 | c {c:Addr} {v:Value}:env.kindOf x=some .cell->env.cells.lookup x=some c->RV X LP F r v Vo->Fq X LP F r env m x Vo [(c,λ o=>o.data= .cell (some v))]
 | f {c:Addr} {o:Obj} {v:Value}:env.kindOf x=some .free->env.cells.lookup x=some c->F c=some o->o.data= .cell (some v)->RV X LP F r v Vo->Fq X LP F r env m x Vo []
noncomputable def NE (X:Cx) (LP:bu) (F:PM) (r:PS) (env:Env) (m:Str->Option Value) (x:Str):Option V->List aK->Prop
 | none,U=>vR env x U
 | some Vo,U=>Fq X LP F r env m x Vo U
noncomputable def yR (X:Cx) (LP:bu) (F:PM) (r:PS) (env:Env) (m:Str->Option Value):List Str->List (Option V)->List aK->Prop
 | [],ls,U=>ls=[]/\U=[]
 | x::xs,ls,U=>eC (NE X LP F r env m x) (yR X LP F r env m xs) ls U
theorem yR.vars {m:Str->Option Value}: ∀ {xs:List Str}{ls:List (Option V)}{U:List aK},yR X LP F r env m xs ls U-> ∀ {G:PM}{R:List aK},F.le G->HC X LP G r sl (U++R) h-> ∀ {Q:Prop},(∀ F' U',G.le F'->cQ X LP F' r env m xs ls U'->HC X LP F' r sl (U'++R) h->Q)->Q
 | [],ls,U,x,G,R,g,H,Q,K=>by
   cases x.1;cases x.2;exact K G [] (.refl _) .nil H
 | x::xs,_,_,y,G,R,g,H,Q,K=>by
   cases y with | @mk l ls T U a b=> ?_
   have H':HC X LP G r sl (T++(U++R)) h:=H.tr [T,U,R] (.n (.n (.l 0) (.l 1)) (.l 2)) (.n (.l 0) (.n (.l 1) (.l 2))) rfl
   have same:(∀ {G'},G.le G'->iQ X LP G' r env m x l T)->Q:=λ a'=>yR.vars b g (H'.rot T U) λ F1 U1 l1 v1 H1=>K F1 (T++U1) l1 (.mk (a' l1) v1) (H1.tr [U1,T,R] (.n (.l 0) (.n (.l 1) (.l 2))) (.n (.n (.l 1) (.l 0)) (.l 2)) rfl)
   cases l with
   | none=>exact same λ _=>a
   | some Vo =>
     cases a with
     | l k e t=>exact same λ l1=> .l k e (.v (t.mono (g.trans l1) (.refl _)))
     | f k e e2 e3 t=>exact same λ l1=> .c (.inr k) e ((g.trans l1) _ _ e2) e3 (t.mono (g.trans l1) (.refl _))
     | @c c v k e t =>
       refine HC.freeze H' λ o ho l2 H2=>yR.vars b (g.trans l2) H2 λ F1 U1 l1 v1 H1=> ?_
       exact K F1 ([]++U1) (l2.trans l1) (.mk (.c (.inl k) e (l1 _ _ (PM.set_self _ _ _)) ho (t.mono (g.trans (l2.trans l1)) (.refl _))) v1) H1
noncomputable def PS.cut (r:PS) (ks:List Sl):PS:=λ k=>if ks.contains k then none else r k
theorem PS.le_cut {r0 r:PS}{ks:List Sl}(l:r0.le r) (h: ∀ k ∈ ks,r0 k=none):r0.le (r.cut ks):=λ k x e=>by
 unfold PS.cut
 split
 · rename_i c
   exact nn ((h k (List.contains_iff_mem.mp c)).symm.trans e)
 · exact l _ _ e
theorem gO.cut {ks:List Sl}{k:Sl}{v:Value}(e:(!ks.contains k)=true):gO r k v->gO (r.cut ks) k v
 | .mk a=> .mk ((if_neg (by rw [Bool.not_eq_true'] at e;rw [e];exact Bool.false_ne_true)).trans a)
theorem RV.cut1 {ks:List Sl}{v:Value}{Vo:V}(t:RV X LP F r v Vo) (e:vH ks Vo=true):RV X LP F (r.cut ks) v Vo:=by
 cases Vo with
 | slot k=>exact gO.cut e t
 | clo _ _=>exact ff e
 | _=>exact t
theorem jD.cut {ks:List Sl}: ∀ {cs:List V}{l:List (Str×Addr)},jD X LP F r l cs->cs.all (vH ks)=true->jD X LP F (r.cut ks) l cs
 | [],_,h,_=>h
 | _::_,_,h,e=>cN.imp (λ _=>lB.imp (.refl _) λ u t=>RV.cut1 t (Bool.and_eq_true_iff.mp e).1) (λ _ t=>jD.cut t (Bool.and_eq_true_iff.mp e).2) h
theorem RV.cut {ks:List Sl}{v:Value}{Vo:V}(t:RV X LP F r v Vo) (e:lj ks Vo=true):RV X LP F (r.cut ks) v Vo:=by
 cases Vo with
 | slot k=>exact gO.cut e t
 | clo _ cs=>exact rr.imp (.refl _) (λ _ t=>jD.cut t e) t
 | _=>exact t
theorem RT.cut {ks:List Sl}{T:List aK}{v:Value}{Vo:V}(t:RT X LP F r T v Vo) (e:lj ks Vo=true):RT X LP F (r.cut ks) T v Vo:=by
 cases Vo with
 | own _=>exact t
 | hds _=>exact t
 | w _=>exact t
 | slot _=>cases t with | mk a=>exact .mk (RV.cut a e)
 | clo _ _=>cases t with | mk a=>exact .mk (RV.cut a e)
theorem iy.cut {ks:List Sl}: ∀ {fs:List (Nat×V)}{es:List DictEntry},iy X LP F r es fs->fs.all (λ p=>lj ks p.2)=true->iy X LP F (r.cut ks) es fs
 | [],_,h,_=>h
 | _::_,_,h,e=>cN.imp (λ _ k=>⟨k.1,RV.cut k.2 (Bool.and_eq_true_iff.mp e).1⟩) (λ _ t=>iy.cut t (Bool.and_eq_true_iff.mp e).2) h
theorem mj (k:Sl): ∀ (ks:List Sl) (s:ab),(dJ s ks).get k=if ks.contains k then .absent else s.get k
 | [],s=>rfl
 | j::ks,s=>by
   rw [dJ,mj k ks]
   by_cases h:k=j
   · subst h
     rw [fh,List.contains_cons,beq_self_eq_true,Bool.true_or,if_pos rfl]
     split<;>rfl
   · rw [sk _ _ h,List.contains_cons,beq_eq_false_iff_ne.mpr h,Bool.false_or]
theorem bE.cut {ks:List Sl}: ∀ {x:dy}{o:Option Addr}{U:List aK},bE X LP F r o x U->kh ks x=true->bE X LP F (r.cut ks) o x U
 | .absent,_,_,h,_=>h
 | .dead,_,_,h,_=>h
 | .list _,_,_,h,_=>h
 | .obj _ _,_,_,.mk z a b c,n=> .mk z a (b.cut n) c
 | .rdr _ _ _,_,_,.mk a b,_=> .mk a (b.cut rfl)
theorem z7 {T T':Sl->List aK}(h: ∀ k,T' k=[]\/T' k=T k):(∀ p ∈ pM T',p ∈ pM T)/\ ∀ a,fW a (pM T')<=fW a (pM T):=by
 have m: ∀ {k p},p ∈ T' k->p ∈ T k:=λ {k p} hp=>(h k).elim (λ e=>nomatch (e▸hp)) λ e=>e▸hp
 have c: ∀ k a,fW a (T' k)<=fW a (T k):=λ k a=>(h k).elim (λ e=>e▸Nat.zero_le _) λ e=>e▸Nat.le_refl _
 have ap: ∀ {A B A' B':List aK},(∀ p ∈ A,p ∈ A')->(∀ p ∈ B,p ∈ B')-> ∀ p ∈ A++B,p ∈ A'++B':=λ f g p hp=>(List.mem_append.mp hp).elim (λ z=>Rz _ (f p z)) λ z=>List.mem_append_right _ (g p z)
 refine ⟨ap (λ _=>m) (ap (λ _=>m) (ap (λ _=>m) (ap (λ _=>m) λ _=>m))),λ a=> ?_⟩
 unfold pM
 simp only [cP]
 exact Nat.add_le_add (c _ a) (Nat.add_le_add (c _ a) (Nat.add_le_add (c _ a) (Nat.add_le_add (c _ a) (c _ a))))
theorem qi {r0:PS}{ks:List Sl}{T:List aK}{v:Value}{Vo:V}{s':ab}(hl:r0.le r) (h0: ∀ k ∈ ks,r0 k=none) (e:dl ks Vo sl=some s') (H:HC X LP F r sl (T++R) h) (t:RT X LP F r T v Vo) {Q:Prop}
   (K: ∀ r',r0.le r'->HC X LP F r' s' (T++R) h->RT X LP F r' T v Vo->Q):Q:=by
 cases ks with
 | nil=>cases sj e;exact K r hl H t
 | cons k ks =>
   refine oT e λ c e=> ?_
   cases sj e
   simp only [Bool.and_eq_true] at c
   obtain ⟨⟨⟨⟨⟨c1,c2⟩,c3⟩,c4⟩,c5⟩,c6⟩:=c
   cases H with | mk U p z low=> ?_
   cases p with | mk U1 U2 p1 p2 e1=> ?_
   cases p1 with | mk T1 t1 e2=> ?_
   subst e1 e2
   have no: ∀ j,kh (k::ks) ((dJ sl (k::ks)).get j)=true:=λ j=>by cases j<;>assumption
   have dec: ∀ j,(if (k::ks).contains j then [] else T1 j)=[]\/(if (k::ks).contains j then [] else T1 j)=T1 j:=λ j=>by split;exact .inl rfl;exact .inr rfl
   have sub:=z7 (T':=λ j=>if (k::ks).contains j then [] else T1 j) dec
   refine K (r.cut (k::ks)) (PS.le_cut hl h0) ⟨_,⟨_,U2,⟨λ j=>if (k::ks).contains j then [] else T1 j,λ j=> ?_,rfl⟩,p2,rfl⟩,z.sub (λ p hp=> ?_) (λ a=> ?_),low⟩ (t.cut c1)
   · have n:=no j
     rw [mj] at n ⊢
     unfold PS.cut
     split
     · exact .mk
     · rename_i h
       rw [if_neg h] at n
       exact bE.cut (t1 j) n
   · exact (List.mem_append.mp hp).elim (λ h=>Rz _ ((List.mem_append.mp h).elim (λ h=>Rz _ (sub.1 p h)) (List.mem_append_right _))) (List.mem_append_right _)
   · simp only [cP]
     exact Nat.add_le_add_right (Nat.add_le_add_right (sub.2 a) _) _
theorem qj: ∀ {ks:List Sl},HC X LP F r sl R h->gM sl ks=true-> ∀ k ∈ ks,r k=none
 | [],_,_,_,hk=>nomatch hk
 | j::ks,H,e,k,hk=>by
   have e:(match sl.get j with | .absent=>gM sl ks | _=>false)=true:=e
   cases q:sl.get j with
   | absent =>
     rw [q] at e
     cases hk with
     | head =>
       refine HC.slot H j λ T Z sc _ _=> ?_
       rw [q] at sc
       generalize r j=o at sc ⊢
       cases sc;rfl
     | tail _ hk=>exact qj H e k hk
   | _=>rw [q] at e;exact ff e
end
theorem nB {k:Str->Option NameKind}{n:Str}: ∀ {b:List (Str×Value)}{m:Str->Option Value},n ∉ b.map (·.1)->bindL k b m n=m n
 | [],_,_=>rfl
 | (a,v)::b,m,h=>by
   simp only [List.map_cons,List.mem_cons,not_or] at h
   unfold bindL
   rw [nB h.2]
   split
   · exact if_neg h.1
   · rfl
theorem jT {k:Str->Option NameKind}{n:Str}: ∀ {b:List (Str×Value)}{m:Str->Option Value},n ∉ b.map (·.1)->bindC k b m n=m n
 | [],_,_=>rfl
 | (a,v)::b,m,h=>by
   simp only [List.map_cons,List.mem_cons,not_or] at h
   unfold bindC
   rw [jT h.2]
   split
   · rfl
   · exact if_neg h.1
theorem qk {k:Str->Option NameKind}: ∀ {b:List (Str×Value)}{m:Str->Option Value}{p:Str×Value},(b.map (·.1)).Nodup->p ∈ b->k p.1=some .local->bindL k b m p.1=some p.2
 | (a,v)::b,m,p,nd,h,e=>by
   have nd':=List.nodup_cons.mp (by simpa using nd:(a::b.map (·.1)).Nodup)
   unfold bindL
   rcases List.mem_cons.mp h with rfl | h
   · rw [nB nd'.1,if_pos e,if_pos rfl]
   · exact qk nd'.2 h e
theorem qm {k:Str->Option NameKind}: ∀ {b:List (Str×Value)}{m:Str->Option Value}{p:Str×Value},(b.map (·.1)).Nodup->p ∈ b->k p.1=some .cell->bindC k b m p.1=some p.2
 | (a,v)::b,m,p,nd,h,e=>by
   have nd':=List.nodup_cons.mp (by simpa using nd:(a::b.map (·.1)).Nodup)
   unfold bindC
   rcases List.mem_cons.mp h with rfl | h
   · rw [jT nd'.1,if_neg (by rw [e];decide),if_pos rfl]
   · exact qm nd'.2 h e
section
variable {X:Cx}{LP:bu}{F F':PM}{r r':PS}{R:List aK}{env:Env}{mm:Str->Option Value}{nm:List Str}{sc:Sc}{cd:Option (Addr×Str)}{lc:List (Option V)}{sl:ab}{d:Nat}{h h':Heap}
noncomputable def NF (X:Cx) (LP:bu) (F:PM) (r:PS) (v:Value):Option V->Prop
 | some Vo=>RV X LP F r v Vo
 | none=>False
noncomputable def Bs (X:Cx) (LP:bu) (F:PM) (r:PS):List Value->List (Option V)->Prop
 | vs,[]=>vs=[]
 | vs,o::bs=>cN (λ v=>NF X LP F r v o) (λ vs=>Bs X LP F r vs bs) vs
theorem Bs.of_rvs: ∀ {Vs:List V}{vs:List Value},i9 X LP F r vs Vs->Bs X LP F r vs (Vs.map some)
 | [],_,h=>h
 | _::_,_,h=>cN.imp (λ _ h=>h) (λ _=>Bs.of_rvs) h
theorem Bs.of_rws: ∀ {ws:List W}{vs:List Value},cF X F vs ws->Bs X LP F r vs (ws.map λ w=>some (.w w))
 | [],_,h=>h
 | _::_,_,h=>cN.imp (λ _ h=>h) (λ _=>Bs.of_rws) h
theorem Bs.append {ws:List Value}{cs:List (Option V)}(u:Bs X LP F r ws cs): ∀ {bs:List (Option V)}{vs:List Value},Bs X LP F r vs bs->Bs X LP F r (vs++ws) (bs++cs)
 | [],_,.refl _=>u
 | _::_,_,.mk a b=> .mk a (Bs.append u b)
structure gi (env:Env) (h':Heap) (xs:List Str) (U:List aK):Prop where
 own: ∀ p ∈ U,(∃ x ∈ xs,env.cells.lookup x=some p.1)/\ ∃ o,h'.get? p.1=some o/\p.2 o
 nod: ∀ a,fW a U<=1
theorem gi.up {x:Str}{xs:List Str}{U:List aK}(c:gi env h' xs U):gi env h' (x::xs) U :=
 ⟨λ p hp=>⟨(c.own p hp).1.imp λ y z=>⟨Rk _ z.1,z.2⟩,(c.own p hp).2⟩,c.nod⟩
theorem gi.new {x:Str}{xs:List Str}{U:List aK}{c:Addr}{cv:Option Value}{P:Obj->Prop}(ap: ∀ {n n':Str}{c:Addr},env.cells.lookup n=some c->env.cells.lookup n'=some c->n=n') (nd:x ∉ xs) (e:env.cells.lookup x=some c) (hc:h'.IsCell c cv) (hP: ∀ o,o.data= .cell cv->P o) (k:gi env h' xs U):gi env h' (x::xs) ((c,P)::U):=by
 refine ⟨λ p hp=> ?_,λ a=> ?_⟩
 · cases hp with
   | head=>obtain ⟨o,e1,e2⟩:=hc;exact ⟨⟨x,List.mem_cons_self,e⟩,o,e1,hP o e2⟩
   | tail _ hp=>exact k.up.own p hp
 · rw [fW,one]
   split
   · rename_i z
     have z:c=a:=z
     rw [eO λ p hp w=>by
       obtain ⟨⟨y,hy,ey⟩,_⟩:=k.own p hp
       exact nd (ap (z▸e) (w▸ey)▸hy)]
     exact Nat.le_refl 1
   · rw [Nat.zero_add];exact k.nod a
theorem jU {m cm:Str->Option Value}(ap: ∀ {n n':Str}{c:Addr},env.cells.lookup n=some c->env.cells.lookup n'=some c->n=n') (hc: ∀ n c,env.cells.lookup n=some c->h'.IsCell c (cm n)) :
   ∀ {xs:List Str} {bs:List (Option V)} {ws:List Value},xs.Nodup->ws.length<=xs.length->(∀ x ∈ xs,env.kindOf x=some .local\/(env.kindOf x=some .cell/\ ∃ c,env.cells.lookup x=some c))->Bs X LP F r ws bs ->
     (∀ p ∈ xs.zip ws,(env.kindOf p.1=some .local->m p.1=some p.2)/\(env.kindOf p.1=some .cell->cm p.1=some p.2))->(∀ x ∈ xs.drop ws.length,env.kindOf x=some .cell->cm x=none) ->
     ∀ {Q:Prop},(∀ U,yR X LP F r env m xs (bs++List.replicate (xs.length - ws.length) none) U->gi env h' xs U->Q)->Q
 | [],[],_,_,_,_,.refl _,_,_,_,K=>K [] ⟨rfl,rfl⟩ ⟨nofun,λ _=>Nat.zero_le _⟩
 | [],_::_,_,_,hl,_,.mk _ _,_,_,_,_=>nomatch hl
 | x::xs,[],_,nd,hl,hk,.refl _,hm,hn,Q,K=>by
   have nd':=List.nodup_cons.mp nd
   refine jU (m:=m) ap hc (xs:=xs) (ws:=[]) (bs:=[]) nd'.2 (Nat.zero_le _) (λ y hy=>hk y (Rk _ hy)) rfl (λ p hp=>by rw [List.zip_nil_right] at hp;exact nomatch hp) (λ y hy e=>hn y (Rk _ hy) e) λ U h1 h2=> ?_
   rcases hk x List.mem_cons_self with k | ⟨k,c,e⟩
   · exact K ([]++U) (.mk (.l k) h1) h2.up
   · exact K ([(c,BO)]++U) (.mk (.c k e) h1) (.new ap nd'.1 e (hc x c e) (λ o q=>by rw [hn x List.mem_cons_self k] at q;exact q) h2)
 | x::xs,o::bs,_,nd,hl,hk,h,hm,hn,Q,K=>by
   have nd':=List.nodup_cons.mp nd
   cases h with | @mk v ws hv hb=> ?_
   have hx:=hm (x,v) List.mem_cons_self
   refine jU (m:=m) ap hc nd'.2 (Nat.le_of_succ_le_succ hl) (λ y hy=>hk y (Rk _ hy)) hb (λ p hp=>hm p (Rk _ hp)) hn λ U h1 h2=> ?_
   rw [show (x::xs).length - (v::ws).length=xs.length - ws.length from Nat.add_sub_add_right ..] at K
   cases o with
   | none=>exact hv.elim
   | some Vo =>
     rcases hk x List.mem_cons_self with k | ⟨k,c,e⟩
     · exact K ([]++U) (.mk (.l k (hx.1 k) hv) h1) h2.up
     · exact K ([(c,_)]++U) (.mk (.c k e hv) h1) (.new ap nd'.1 e (hc x c e) (λ o q=>by rw [hx.2 k] at q;exact q) h2)
structure GB (X:Cx) (d0:Fd) (fd:FuncData) (c:Addr) (b:List Stmt) (ds:List Value) (nm:List Str):Prop where
 simple:dK fd.params=true
 clos:fd.closure=[]
 glob:fd.globals=mainGlobals
 blt:fd.builtins=builtinsNs
 code:fd.code= .ref c
 rec_: ∃ oc vs t,X.base c=some oc/\oc.data= .fields vs/\vs[1]?=some (.str fd.qualname t)
 body:fd.body= .stmts b
 dfl:(fd.defaults= .none/\ds=[])\/ ∃ T o n,fd.defaults= .ref T/\X.base T=some o/\o.data= .seq ds.toArray n
 dfw:cF X X.base ds d0.dfl
 dle:ds.length<=d0.np
 names:fd.params.args.map (·.arg)=nm.take d0.np
 np:d0.np<=nm.length
 nv:nm.length=d0.nv
 nod:nm.Nodup
 kind:fd.scope.kind= .function
 gen:fd.scope.isGenerator=false
 co:fd.scope.isCoroutine=false
 kinds: ∀ x ∈ nm,fd.scope.names.lookup x=some .local\/fd.scope.names.lookup x=some .cell
theorem jt {names:List (Str×NameKind)}{n:Nat}{x:Str}(h:names.lookup x=some .cell): ∃ c,(cellsFrom n names []).lookup x=some c :=
 Option.isSome_iff_exists.mp (cellsFrom_some names n [] (.inl h))
theorem NG {s s':Shared}(h: ∃ h tk,s'={ s with heap:=h,toks:=tk }):Sm s s':=by obtain ⟨_,_,e⟩:=h;subst e;exact .mk
inductive LA (s:Shared) (fd:FuncData) (fa:Addr) (bd:List (Str×Value)) (env:Env) (s':Shared):Prop
 | mk:env=newEnv fd.scope s.heap.objs.size fd.globals (cellsFrom (s.heap.objs.size+1) fd.scope.names []) (fd.qualname ++ ".<locals>.") (some fa) fd.code none fd.builtins->InCallC s env.locals (bindL env.kindOf bd λ _=>none) env.cells (bindC env.kindOf bd λ _=>none) s'->LA s fd fa bd env s'
theorem z8 (C:bM X) {f:Nat}{d0:Fd}{fd:FuncData}{o:Obj}{c:Addr}{b:List Stmt}{ds:List Value}{nm:List Str}(K:GB X d0 fd c b ds nm) (ho:X.base (X.fnA f)=some o) (hod:o.data= .func fd)
   {as:List V} {bs:List (Option V)} {Vo:V} {fl:Fl} {lc1:List (Option V)} {sl1 sl':ab} (hb:pD as d0.np d0.dfl=some bs) (ha:gM sl d0.mks=true)
   (hx: ∀ env,aQ env fd.scope.names nm (some (c,fd.qualname ++ ".<locals>."))->jL X LP d env nm b (bs++List.replicate (d0.nv - d0.np) none) sl fl lc1 sl1)
   (hfl:fL fl=some Vo) (hlv:dl d0.mks Vo sl1=some sl'):dZ X LP (d+1) (.w (.fn f)) as sl Vo sl':=by
 intro A F r R s vf vs hA H tf ts
 cases (show vf= .ref (X.fnA f) by cases tf;rfl)
 have low:=H.low
 refine oT hb λ cnd hb=> ?_
 cases sj hb
 obtain ⟨c1,c2⟩:=Bool.and_eq_true_iff.mp cnd
 have c1:=Rm c1
 have c2:=Rm c2
 have lvs:=ts.length
 have lds:=K.dfw.length
 have lns:(fd.params.args.map (·.arg)).length=d0.np:=by rw [K.names,List.length_take];exact Nat.min_eq_left K.np
 have ndp:(fd.params.args.map (·.arg)).Nodup:=by rw [K.names];exact K.nod.sublist (List.take_sublist _ _)
 have bind:BindsTo s fd ⟨vs,[]⟩ (dQ (fd.params.args.map (·.arg)) vs ds):=by
   refine qh K.simple ndp (by rw [lns,lvs];exact c1) (by rw [lns,lvs,lds];exact c2) (by rw [lns];exact K.dle) ?_
   rcases K.dfl with h | ⟨T,o,n,a,b,e⟩
   · exact .inl h
   · exact .inr ⟨T,o,n,a,H.base _ _ b,e⟩
 obtain ⟨oc,cvs,ct,r1,r2,r3⟩:=K.rec_
 obtain ⟨mc,hns,hlim⟩:=C.nolim
 have lim0:s.heap.NoLimit:=⟨mc,hns.at H.base,hlim⟩
 generalize hws:vs++ds.drop (vs.length+ds.length - d0.np)=ws
 have lws:ws.length=d0.np:=by rw [<- hws,List.length_append,List.length_drop,lvs,lds];exact sQ c1 c2
 have hbi:dQ (fd.params.args.map (·.arg)) vs ds=(nm.take d0.np).zip ws:=by unfold dQ;rw [lns,K.names,hws]
 have zfst:((nm.take d0.np).zip ws).map (·.1)=nm.take d0.np:=by
   rw [kU,lws,List.take_take,Nat.min_self]
 refine codeAny_call_function (Rt (Ru _ _) hA.2.1) (H.fro _ _ (low _ _ ho)) hod K.co K.gen K.body ⟨c,oc,cvs,ct,K.code,H.base _ _ r1,r2,r3⟩ (bind _ _ _ _ ?_)
 rw [hbi,K.clos]
 refine Ro (a8 (wpAny_newFunctionEnv_cells (Q:=LA s fd (X.fnA f) ((nm.take d0.np).zip ws)) K.kind (λ p hp=> ?_) λ env he s' x=>⟨he,x⟩)) (λ env s' zz=> ?_) λ _ _ z=>z
 · have hm:p.1 ∈ nm:=List.mem_of_mem_take (zfst▸RA hp)
   exact (K.kinds _ hm).imp id λ k=>⟨k,(jt k).elim λ cc e=>by rw [e];rfl⟩
 have tkle:=zz.2
 cases zz.1 with | mk he x=> ?_
 refine ⟨lim0.keeps x.toInCall.keep,codeAny_func ?_⟩
 have Kenv:aQ env fd.scope.names nm (some (c,fd.qualname ++ ".<locals>.")):=by
   subst he
   exact ⟨K.kind,rfl,K.glob,K.blt,K.nod,λ c' q' e=>by cases e;exact ⟨K.code,rfl⟩⟩
 have kof: ∀ y,env.kindOf y=fd.scope.names.lookup y:=Kenv.kindOf
 have hcells:env.cells=cellsFrom (s.heap.objs.size+1) fd.scope.names []:=by subst he;rfl
 have hloc:env.locals=s.heap.objs.size:=by subst he;rfl
 clear he bind
 have ap: ∀ {n n':Str} {c:Addr},env.cells.lookup n=some c->env.cells.lookup n'=some c->n=n':=λ e e'=>name_of_addr x.apart (mem_of_lookup e) (mem_of_lookup e')
 have bsOK:Bs X LP F r ws (as.map some++(d0.dfl.drop (as.length+d0.dfl.length - d0.np)).map λ w=>some (.w w)):=by
   rw [<- hws,<- lvs,<- lds]
   exact Bs.append (Bs.of_rws ((K.dfw.mono low).drop _)) (Bs.of_rvs ts)
 have nd2:(((nm.take d0.np).zip ws).map (·.1)).Nodup:=by rw [zfst];exact K.nod.sublist (List.take_sublist _ _)
 refine jU (m:=bindL env.kindOf ((nm.take d0.np).zip ws) λ _=>none) (h':=s'.heap) ap x.cell (xs:=nm) K.nod (by rw [lws];exact K.np) (λ y hy=>by
     rw [kof]
     exact (K.kinds y hy).imp id λ k=>⟨k,by rw [hcells];exact jt k⟩) bsOK
   (λ p hp=>by
     have hp':p ∈ (nm.take d0.np).zip ws:=by
       obtain ⟨i,e1,e2⟩:=xj hp
       refine List.mem_iff_getElem?.mpr ⟨i,?_⟩
       have hi:=(List.getElem?_eq_some_iff.mp e2).1
       rw [List.getElem?_zip_eq_some,List.getElem?_take]
       exact ⟨by rw [if_pos (lws▸hi)];exact e1,e2⟩
     exact ⟨λ k=>qk nd2 hp' k,λ k=>qm nd2 hp' k⟩)
   (λ y hy k=>by
     refine jT ?_
     rw [zfst]
     intro hm
     rw [lws] at hy
     have nd:=K.nod
     rw [<- List.take_append_drop d0.np nm] at nd
     exact (List.nodup_append.mp nd).2.2 y hm y hy rfl) λ U i1 i2=> ?_
 rw [show nm.length - ws.length=d0.nv - d0.np by rw [lws,K.nv]] at i1
 obtain ⟨oL,eL,pL1,pL2,pL3,pL4⟩:=x.toInCall.ns
 have H1:HC X LP F r sl (((env.locals,gF _)::U)++R) s'.heap:=H.adopt x.toInCall.keep (λ p hp=>by
     cases hp with
     | head=>exact ⟨hloc▸aN _,oL,pL2,.mk eL pL1 pL3 pL4.1 pL4.2⟩
     | tail _ hp =>
       obtain ⟨⟨y,hy,ey⟩,ro⟩:=i2.own p hp
       refine ⟨?_,ro⟩
       have:=x.above y p.1 (mem_of_lookup ey)
       cases q:s.heap.get? p.1 with
       | none=>rfl
       | some o'=>exact absurd (Heap.lt_size q) (Nat.not_lt.mpr (Nat.le_of_lt (hloc▸this)))) (λ a=>by
     rw [fW,one]
     split
     · rename_i z
       have z:env.locals=a:=z
       rw [eO λ p hp w=>by
         obtain ⟨⟨y,hy,ey⟩,_⟩:=i2.own p hp
         exact absurd (w.trans z.symm) (Nat.ne_of_gt (x.above y p.1 (mem_of_lookup ey)))]
       exact Nat.le_refl 1
     · rw [Nat.zero_add];exact i2.nod a)
 refine i1.vars (.refl _) (HC.tr [[(env.locals,gF _)],U,R] (.n (.n (.l 0) (.l 1)) (.l 2)) (.n (.l 1) (.n (.l 0) (.l 2))) rfl H1) λ F1 U1 l1 v1 H2=> ?_
 have H3:HS X LP F1 r env _ nm _ sl R s'.heap:=⟨U1,v1,H2.tr [U1,[(env.locals,gF _)],R] (.n (.l 0) (.n (.l 1) (.l 2))) (.n (.l 1) (.n (.l 0) (.l 2))) rfl⟩
 have sm:Sm s s':=NG x.toInCall.same
 have hA':dG (A.deeper env) d s':=⟨hA.1,Rt (Nat.le_of_eq (Ly ..)) hA.2.1,Rt (Lz ..) hA.2.2.1,Nat.lt_of_lt_of_le hA.2.2.2 tkle⟩
 refine Ro (oJ (hx env Kenv) hA' H3 λ fv s2 mm2 F2 r2 T l2 q2 H4 t2 m2 hA2=> ?_) (λ _ _ z=>z) λ _ _ z=>z.elim
 cases H4 with | mk U2 v2 b2=> ?_
 have H5:HC X LP F2 r2 sl1 (T++R) s2.heap:=b2.tr [[_],U2,T,R] (.n (.l 0) (.n (.l 1) (.n (.l 2) (.l 3)))) (.n (.l 2) (.l 3)) rfl
 have fL: ∀ v,RT X LP F2 r2 T v Vo->vU X LP F r R s Vo sl' (.ok (.ret v)) s2:=λ v t=>qi q2 (qj H ha) hlv H5 t λ r3 q3 H6 t3=>⟨v,rfl,F2,r3,T,l1.trans l2,q3,H6,t3,sm.trans m2⟩
 cases t2 with
 | ret t=>exact fL _ (sj hfl▸t)
 | next=>exact fL _ (sj hfl▸ .v (.w .none))
 | cont=>exact nn hfl
end
section
variable {X:Cx}{LP:bu}{F F':PM}{r r':PS}{R:List aK}{env:Env}{mm:Str->Option Value}{nm:List Str}{sc:Sc}{cd:Option (Addr×Str)}{lc:List (Option V)}{sl:ab}{d:Nat}{h h':Heap}
theorem HC.slotOut (H:HC X LP F r sl R h) (k:Sl) {Q:Prop}(K: ∀ T,bE X LP F r (r k) (sl.get k) T->(∀ {x:dy},bE X LP F r (r k) x []->HC X LP F r (sl.set k x) (T++R) h)->Q):Q :=
 H.slot k λ T Z sc z re=>K T sc λ {x} t=>re (.refl _) (.refl _) (λ _ _=>rfl) t (z.tr [T,Z,R] (.n (.l 0) (.n (.l 1) (.l 2))) (.n (.l 1) (.n (.l 0) (.l 2))) rfl)
theorem HC.slotIn {T:List aK}(H:HC X LP F r sl (T++R) h) (k:Sl) (e:jG (sl.get k)=true) {x:dy}(t:bE X LP F r (r k) x T):HC X LP F r (sl.set k x) R h :=
 H.slot k λ T' Z sc z re=>by
   rw [mZ e] at sc
   have:T'=[]:=by generalize r k=o at sc;cases sc;rfl
   subst this
   exact re (.refl _) (.refl _) (λ _ _=>rfl) t (cU.tr [Z,T,R] (.n (.l 0) (.n (.l 1) (.l 2))) (.n (.l 1) (.n (.l 0) (.l 2))) rfl z)
theorem HC.slotAs (H:HC X LP F r sl R h) {k:Sl}{a:Addr}(e:r k=some a) {x:dy}(f: ∀ T,bE X LP F r (some a) (sl.get k) T->bE X LP F r (some a) x T):HC X LP F r (sl.set k x) R h :=
 H.slotOut k λ T t out=>by
   rw [e] at t out
   have H2:=HC.slotIn (x:=x) (out (x:= .dead) .mk) k (by rw [fh];rfl) (e▸f T t)
   rw [js] at H2
   exact H2
theorem rN: ∀ {fs:List (Nat×V)}{es:List DictEntry}{l:List (Nat×W)},iy X LP F r es fs->fg fs=some l->ng X F es l
 | [],_,_,h,e=>sj e▸h
 | _::_,_,l,.mk k t,e=>oW e λ w hw e=>Iq e λ l' hl e=>by
   cases sj e
   exact .mk ⟨k.1,v5 hw k.2⟩ (rN t hl)
theorem xr: ∀ {l:List (Nat×W)}{es:List DictEntry},ng X F es l->iy X LP F r es (l.map λ p=>(p.1,.w p.2))
 | [],_,h=>h
 | _::_,_,.mk k t=> .mk k (xr t)
theorem oO {o:Option (V×St)}{s:St}(h:Il o=some s):o=some (.w .none,s) :=
 je h λ w s1 h1 h=>oT h λ hn h=>by
   cases sj h
   refine mL h1 λ v s2 h2 h1=>oW h1 λ w' hw h1=> ?_
   cases sj h1
   cases rj hn
   rw [h2]
   cases v with
   | w _=>cases sj hw;rfl
   | own l=>exact nomatch sj hw
   | hds l=>exact nn hw
   | slot _=>exact nn hw
   | clo _ _=>exact nn hw
theorem ml (A:Around) (C:Addr) (ej:List Value):(A.under (.builtin "type.__call__" ⟨.ref C::ej,[]⟩)).units=A.units+1:=by
 first | rfl | simp [Around.under,Code.cUnits,Code.frames,Code.isFrame]
theorem qp (C:bM X) {c f:Nat}{k:Sl}{as:List V}{sl1:ab}(hf:X.T.init c=some f) (ha:gv (sl.get k)=true) (hc:dZ X LP d (.w (.fn f)) (.slot k::as) (sl.set k (.obj c [])) (.w .none) sl1)
   {A:Around} {s:Shared} {vf:Value} {vs:List Value} {Q:Value->Shared->Prop} (hA:dG A d s) (H:HC X LP F r sl R s.heap) (tf:RV X LP F r vf (.w (.cls c))) (ts:i9 X LP F r vs as)
   (q: ∀ x F' r' s',F.le F'->r.le r'->r' k=some x->HC X LP F' r' sl1 R s'.heap->Sm s s'->Q (.ref x) s'):wpAny (model X.prog X.w) A (call vf vs) Q (λ _ _=>False) s:=by
 have hi:(X.T.init c).isSome=true:=by rw [hf];rfl
 have K:=C.cls c hi
 cases (show vf= .ref (X.clsA c) by cases tf;rfl)
 obtain ⟨i1,i2,fdI,i3⟩:=K.ini f hf
 have X0:=jP C H.base
 obtain ⟨hh,g,dr,t,os⟩:=s
 refine wpAny_call (make_core (makes_of X0 K.mks) (looks_findIn X0 i1) (λ self=>bind_fn X0 self i2) (.inl rfl) ?_)
 have k1: ∀ b o,hh.get? b=some o->((hh.push emptyDict).push (instObj (X.clsA c) hh.objs.size)).get? b=some o:=λ b o e=>Heap.get?_push_of_some _ (Heap.get?_push_of_some _ e)
 have e1:((hh.push emptyDict).push (instObj (X.clsA c) hh.objs.size)).get? hh.objs.size=some emptyDict:=Heap.get?_push_of_some _ (Heap.get?_push_size _ rfl)
 have e2:((hh.push emptyDict).push (instObj (X.clsA c) hh.objs.size)).get? (hh.objs.size+1)=some (instObj (X.clsA c) hh.objs.size):=by
   have:=Heap.get?_push_size (hh.push emptyDict) (o:=instObj (X.clsA c) hh.objs.size) rfl
   rwa [Heap.size_push] at this
 have H1:HC X LP F r sl ((hh.objs.size+1,qX (instObj (X.clsA c) hh.objs.size))::([(hh.objs.size,qX (dictOf [] 0))]++R)) ((hh.push emptyDict).push (instObj (X.clsA c) hh.objs.size)):=by
   refine H.adopt (N:=[(hh.objs.size+1,qX (instObj (X.clsA c) hh.objs.size)),(hh.objs.size,qX (dictOf [] 0))]) k1 (λ p hp=> ?_) (λ a=> ?_)
   · cases hp with
     | head=>exact ⟨Heap.get?_none_of_le (Nat.le_succ _),_,e2,rfl⟩
     | tail _ hp=>exact List.mem_singleton.mp hp▸⟨aN _,_,e1,rfl⟩
   · rw [fW,one]
     split
     · rename_i z
       have z:hh.objs.size+1=a:=z
       rw [eO λ p hp w=>by
         cases List.mem_singleton.mp hp
         exact Nat.succ_ne_self hh.objs.size (z.trans (show hh.objs.size=a from w).symm)]
       exact Nat.le_refl 1
     · rw [Nat.zero_add,fW,one]
       split
       · exact Nat.le_refl 1
       · exact Nat.zero_le 1
 refine H1.freeze λ ox ho l1 H2=> ?_
 cases (show ox=instObj (X.clsA c) hh.objs.size from ho)
 obtain ⟨l2,H3⟩:=H2.toSlot k ha (a:=hh.objs.size+1) (bE.obj (c:=c) (fs:=[]) hi (PM.set_self _ _ _) .nil (Nat.zero_le _))
 have tfi:RV X LP (F.set (hh.objs.size+1) (instObj (X.clsA c) hh.objs.size)) (r.set k (hh.objs.size+1)) (.ref (X.fnA f)) (.w (.fn f)):= .w (.fn f fdI i3)
 have room:n6 (A.under (.builtin "type.__call__" ⟨.ref (X.clsA c)::vs,[]⟩)) d { heap:=(hh.push emptyDict).push (instObj (X.clsA c) hh.objs.size),gens:=g,drawn:=dr,toks:=t,os:=os }:=by
   refine ⟨hA.1,?_,?_,hA.2.2.2⟩
   · have:=hA.2.1
     show A.depth+1+2 * d < _;lia
   · have:=hA.2.2.1
     have:=ml A (X.clsA c) vs
     lia
 refine codeAny_mono (hc _ _ _ R _ (.ref (X.fnA f)) (.ref (hh.objs.size+1)::vs) room H3 tfi (.cons (.slot (PS.set_self _ _ _)) (ts.mono l1 l2))) λ ft s' z=> ?_
 cases z with | mk v e F1 r1 T l3 q3 H4 t4 m4=> ?_
 subst e
 cases (show v= .none by cases t4 with | mk a=>exact a)
 exact ⟨rfl,q _ F1 r1 s' (l1.trans l3) (l2.trans q3) (q3 _ _ (PS.set_self _ _ _)) (H4.drop T) (Sm.trans .mk m4)⟩
theorem uG (s:ab) (x:dy):dJ (s.set .tmp x) [.tmp]=dJ s [.tmp]:=by simp only [dJ,js]
theorem uH (s:ab) (x:dy) (v:V):dl [.tmp] v (s.set .tmp x)=dl [.tmp] v s:=by simp only [dl,uG]
theorem xt {k:Sl}(H:HC X LP F r sl R h) (e:gv (sl.get k)=true):r k=none:=H.slot k λ T Z sc _ _=>by
 rw [pI e] at sc
 generalize r k=o at sc ⊢
 cases sc;rfl
theorem xu (C:bM X) {cf:bP}(hcf: ∀ f as s v s',cf f as s=some (v,s')->dZ X LP d f as s.slo v s'.slo) {c:Nat}{as:List V}{s0 s1:St}{Vo:V}(e:gw X.T cf c as s0=some (Vo,s1)):lQ X LP d (.w (.cls c)) as s0.slo Vo s1.slo :=
 oT e λ ha e=>oN e λ f hf e=>y8 e λ s2 hcall e=>CO e λ c' fs hs2 e=>Iq e λ l hl e=>I1 e λ sl' hlv e=>cS (P:=λ Vo s1=>lQ X LP d (.w (.cls c)) as s0.slo Vo s1.slo) e λ A F r R s vf vs hA H tf ts=>by
   refine qp C (k:= .tmp) hf ha (hcf _ _ _ _ _ (oO hcall)) hA H tf ts λ x F1 r1 s' l1 q1 hx H1 sm=> ?_
   refine H1.slotOut .tmp λ T tc out=> ?_
   have hs2:s2.slo.get .tmp= .obj c' fs:=lr hs2
   rw [hs2,hx] at tc
   rw [hx] at out
   cases tc with | @mk _ dx es n hi gx rf hlen=> ?_
   refine HC.freeze (out (x:= .dead) .mk) λ od hod l2 H3=> ?_
   cases (show od=dictOf es n from hod)
   refine qi (T:=[]) (v:= .none) (Vo:= .w .none) q1 (λ k hk=>by rw [List.mem_singleton.mp hk];exact xt H ha) ((uH _ _ _).trans hlv) H3 (.v (.w .none)) λ r2 q2 H4 _=> ?_
   exact ⟨_,r2,[],l1.trans l2,q2,H4,.v (.w (.inst hi (l2 _ _ gx) (PM.set_self _ _ _) ((rN rf hl).mono l2))),sm⟩
theorem xv {fs:List (Nat×W)}{g:Nat->Nat->Nat->W->W->W->Option dy}{x:dy}(e:(match fs with | [(a1,v1),(a2,v2),(a3,v3)]=>g a1 a2 a3 v1 v2 v3 | _=>none)=some x) {Q:Prop}(k: ∀ a1 a2 a3 v1 v2 v3,fs=[(a1,v1),(a2,v2),(a3,v3)]->g a1 a2 a3 v1 v2 v3=some x->Q):Q:=by
 cases fs with
 | nil=>exact nn e
 | cons p1 l=>cases l with
   | nil=>exact nn e
   | cons p2 l=>cases l with
     | nil=>exact nn e
     | cons p3 l=>cases l with
       | cons _ _=>exact nn e
       | nil=>exact k p1.1 p2.1 p3.1 p1.2 p2.2 p3.2 rfl e
theorem z9 {T:gC}{c c' a1 a2 a3:Nat}{v1 v2 v3:W}{x:dy}(e:FY T c c' a1 a2 a3 v1 v2 v3=some x) (P:Nat->List (Nat×W)->dy->Prop) (k: ∀ l,P c [(T.aTok,.lst l),(T.aAt,.int 0),(T.aNam,v3)] (.rdr [] l v3)):P c' [(a1,v1),(a2,v2),(a3,v3)] x :=
 oL e λ l hl e=>oN e λ n hn e=>oT e λ z e=>by
   rw [Rw,Rw,Rw,Rw] at z
   rw [<- sj e,fS hl,ll hn,Rq z.1,Rq z.2.1,Rq z.2.2.1,Rq z.2.2.2.1,Rq z.2.2.2.2]
   exact k l
theorem xw {c:Nat}{x x':dy}{a:Addr}{T:List aK}(e:BK X.T c x=some x') (t:bE X LP F r (some a) x T):bE X LP F r (some a) x' T :=
 CO e λ c' fs hx e=>by
   have t:bE X LP F r (some a) (.obj c' fs) T:=(show x= .obj c' fs from lr hx)▸t
   cases q:Nat.beq c X.T.rdrC with
   | false=>rw [q] at e;exact sj e▸t
   | true =>
     rw [q] at e
     refine Iq e λ l hl e=>xv e λ a1 a2 a3 v1 v2 v3 hl' e=> ?_
     cases t with | mk hi gx rf hlen=> ?_
     exact z9 e (λ c' l x'=>X.T.rdrC=c->F a=some (instObj (X.clsA c') _)->iy X LP F r _ (l.map λ p=>(p.1,.w p.2))->bE X LP F r (some a) x' _) (λ l' ec gx rf=>rt.mk (ec▸gx) rf) (Rq q).symm gx (xr (rN rf (hl'▸hl)))
theorem xx (C:bM X) {cf:bP}(hcf: ∀ f as s v s',cf f as s=some (v,s')->dZ X LP d f as s.slo v s'.slo) {k:Sl}{c:Nat}{as:List V}{s0 s1:St}{Vo:V}(e:vI X.T cf k c as s0=some (Vo,s1)):lQ X LP d (.w (.cls c)) as s0.slo Vo s1.slo :=
 oT e λ ha e=>oN e λ f hf e=>y8 e λ s2 hcall e=>F7 e λ x' hto e=>cS (P:=λ Vo s1=>lQ X LP d (.w (.cls c)) as s0.slo Vo s1.slo) e λ A F r R s vf vs hA H tf ts =>
   qp C (k:=k) hf ha (hcf _ _ _ _ _ (oO hcall)) hA H tf ts λ x F1 r1 s' l1 q1 hx H1 sm =>
     ⟨F1,r1,[],l1,q1,H1.slotAs hx λ T t=>xw hto t,.v (.slot hx),sm⟩
end
inductive A0 (nm:List Str):E->Expr->Prop
 | var {i:Nat} {x:Str} {p:Pos}:nm[i]?=some x->fY x=true->A0 nm (.var i) (.Name x p)
 | inc {q:Bool} {i n k:Nat} {x:Str} {p p1 p2:Pos}:nm[i]?=some x->fY x=true->A0 nm (.bin q .Add (.var i) (.cst (.int n))) (.BinOp (.Name x p) .Add (.Constant (.int n) k p1) p2)
inductive B1 (nm:List Str):Es->List Expr->Prop
 | nil:B1 nm .nil []
 | cons {e:E} {x:Expr} {es:Es} {xs:List Expr}:A0 nm e x->B1 nm es xs->B1 nm (.cons e es) (x::xs)
inductive M0 (X:Cx) (sc:Sc) (nm:List Str):E->Expr->Prop
 | call {q:Bool} {g:Nat} {as:Es} {xs:List Expr} {p p':Pos}:fY (X.gname g)=true->sc.lookup (X.gname g)=some .globalImplicit->B1 nm as xs->M0 X sc nm (.call q (.glo g) as) (.Call (.Name (X.gname g) p') xs [] p)
 | cin {q:Bool} {i j a:Nat} {x y:Str} {p1 p2 p3 p4:Pos}:nm[i]?=some x->fY x=true->nm[j]?=some y->fY y=true->a < X.na->M0 X sc nm (.cmp q (.var i) .In (.att (.var j) a)) (.Compare (.Name x p1) [.In] [.Attribute (.Name y p2) (X.aname a) p3] p4)
inductive GC (X:Cx) (k:Nat) (fd:FuncData):Prop
 | mk (sc:Sc) (b:Expr) (fr:List Str) (ld:Ld):fd.defaults= .none->fd.body= .expr b->fd.globals=mainGlobals->fd.builtins=builtinsNs->fd.closure.reverse.map (·.1)=fr->wZ sc fd.params fd.scope fr->X.T.lam k=some ld->ld.np=fd.params.args.length ->
     M0 X fd.scope.names (fd.params.args.map (·.arg)++fr) ld.body b->GC X k fd
noncomputable def cD (X:Cx):bu:=GC X
structure mo (X:Cx) (d:Nat) (f:V) (as:List V) (s:St) (v:V) (s':St):Prop where
 loc:s'.loc=s.loc
 ok:dZ X (cD X) d f as s.slo v s'.slo
noncomputable def fz (X:Cx) (d:Nat) (cf:bP):Prop:= ∀ f as s v s',cf f as s=some (v,s')->mo X d f as s v s'
structure ja (X:Cx) (d:Nat) (env:Env) (nm:List Str) (x:Expr) (s:St) (v:V) (s':St):Prop where
 e:bp X (cD X) d env nm x s.loc s.slo v s'.loc s'.slo
 t: ∀ b,mV v=some (.bool b)->eQ X (cD X) d env nm x s.loc s.slo b s'.loc s'.slo
noncomputable def SE (X:Cx) (cd:Option (Addr×Str)) (sc:Sc) (nm:List Str) (e:E) (z:Expr):Prop:= ∀ d cf,fz X d cf-> ∀ env,aQ env sc nm cd-> ∀ s v s',am X.T cf e s=some (v,s')->ja X d env nm z s v s'
noncomputable def vd (X:Cx) (cd:Option (Addr×Str)) (sc:Sc) (nm:List Str) (es:Es) (zs:List Expr):Prop:= ∀ d cf,fz X d cf-> ∀ env,aQ env sc nm cd-> ∀ s vs s',dA X.T cf es s=some (vs,s')->qY X (cD X) d env nm zs s.loc s.slo vs s'.loc s'.slo
section
variable {X:Cx}{d:Nat}{cf:bP}{env:Env}{nm:List Str}{sc:Sc}{cd:Option (Addr×Str)}{x y z:Expr}{e l r:E}{p:Pos}
theorem ja.of {s s':St}{v:V}(h:bp X (cD X) d env nm x s.loc s.slo v s'.loc s'.slo) (he: ∀ whole,isTrue x env whole=(do let v <- whole;standAt x.pos;holding [v] (truthy v))):ja X d env nm x s v s' :=
 ⟨h,λ b hb=>v8 (bG.ev (bG.of hb h)) he⟩
theorem SE.w (h:SE X cd sc nm e z) (hcf:fz X d cf) (K:aQ env sc nm cd) {s s':St}{w:W}(hr:dU (am X.T cf e s)=some (w,s')):bG X (cD X) d env nm z s.loc s.slo w s'.loc s'.slo :=
 mL hr λ v s1 h1 hr=>oW hr λ w' hw hr=>cS (P:=λ w s'=>bG X (cD X) d env nm z s.loc s.slo w s'.loc s'.slo) hr (bG.of hw (h d cf hcf env K s v s1 h1).e)
theorem SE.b (h:SE X cd sc nm e z) (hcf:fz X d cf) (K:aQ env sc nm cd) {s s':St}{b:Bool}(hr:mY (am X.T cf e s)=some (b,s')):bG X (cD X) d env nm z s.loc s.slo (.bool b) s'.loc s'.slo :=
 je hr λ w s1 h1 hr=>F6 hr λ b hb hr=>cS (P:=λ b s'=>bG X (cD X) d env nm z s.loc s.slo (.bool b) s'.loc s'.slo) hr (vN hb▸h.w hcf K h1)
theorem SE.tr (h:SE X cd sc nm e z) (hcf:fz X d cf) (K:aQ env sc nm cd) {s s':St}{b:Bool}(hr:mY (am X.T cf e s)=some (b,s')):eQ X (cD X) d env nm z s.loc s.slo b s'.loc s'.slo :=
 je hr λ w s1 h1 hr=>F6 hr λ b hb hr=>mL h1 λ v s2 h2 h1=>oW h1 λ w' hw h1=>cS (P:=λ b s'=>eQ X (cD X) d env nm z s.loc s.slo b s'.loc s'.slo) hr
   (cS (P:=λ w s1=>w= .bool b->eQ X (cD X) d env nm z s.loc s.slo b s1.loc s1.slo) h1 (λ e=>(h d cf hcf env K s v s2 h2).t b (e▸hw)) (vN hb))
theorem Dv:SE X cd sc nm .bad z:=λ d cf hcf env K s v s' hr=>nn hr
theorem GD {k:Nat}:SE X cd sc nm (.cst .none) (.Constant .none k p):=λ d cf hcf env K s v s' hr=>cS (P:=λ v s'=>ja X d env nm _ s v s') hr (.of Gi λ _=>rfl)
theorem GE {b:Bool}{k:Nat}:SE X cd sc nm (.cst (.bool b)) (.Constant (.bool b) k p):=λ d cf hcf env K s v s' hr=>cS (P:=λ v s'=>ja X d env nm _ s v s') hr (.of Gj λ _=>rfl)
theorem B3 {i:Int}{k:Nat}:SE X cd sc nm (.cst (.int i)) (.Constant (.int i) k p):=λ d cf hcf env K s v s' hr=>cS (P:=λ v s'=>ja X d env nm _ s v s') hr (.of Gk λ _=>rfl)
theorem GF {t:List Nat}{k:Nat}(h:t.length<=cw):SE X cd sc nm (.cst (.str t)) (.Constant (.str (ae t)) k p):=λ d cf hcf env K s v s' hr=>cS (P:=λ v s'=>ja X d env nm _ s v s') hr (.of (Gl h) λ _=>rfl)
theorem Aa {n k:Nat}{p':Pos}:SE X cd sc nm (.negc n) (.UnaryOp .USub (.Constant (.int n) k p) p'):=λ d cf hcf env K s v s' hr=>cS (P:=λ v s'=>ja X d env nm _ s v s') hr (.of zJ λ _=>rfl)
theorem xy (s:St) (i:Nat) (u:V):(pB s i u).2.slo=s.slo:=by cases u<;>rfl
theorem mq {i:Nat}{n:Str}(hx:nm[i]?=some n) (ok:fY n=true):SE X cd sc nm (.var i) (.Name n p):=λ d cf hcf env K s v s' hr =>
 oV hr λ u hu hr=>by
   have e:pB s i u=(v,s'):=sj hr
   have h:=jf (X:=X) (LP:=cD X) (d:=d) (p:=p) (lc:=s.loc) (sl:=s.slo) K hx ok (fV hu)
   have z:=xy s i u
   rw [show (⟨s.loc,s.slo⟩:St)=s from rfl,e] at h
   rw [e] at z
   exact .of (z▸h) λ _=>rfl
theorem Dw (K:aQ env sc nm cd) {i:Nat}{n:Str}{k:Sl}{t:List W}{lc:List (Option V)}{sl:ab}(hx:nm[i]?=some n) (ok:fY n=true) (hV:bA lc i=some (.slot k)) (hk:gL (sl.get k)=some t):bp X (cD X) d env nm (.Name n p) lc sl (.own t) lc (sl.set k .dead):=λ mm A F r R s hA H=>by
 refine cG (jf K hx ok (fV hV)) hA H λ v s1 F1 r1 l1 q1 H1 t1 m1 hA1=> ?_
 cases t1 with | mk hr=> ?_
 refine HS.slotOut H1 k λ T tc out=> ?_
 rw [hr,hZ hk] at tc
 rw [hr] at out
 cases tc with | mk a b=>exact ⟨F1,r1,_,l1,q1,out (x:= .dead) .mk,.own a b,m1⟩
theorem Dx {i:Nat}{n:Str}(hx:nm[i]?=some n) (ok:fY n=true):SE X cd sc nm (.frz i) (.Name n p):=λ d cf hcf env K s v s' hr =>
 oV hr λ u hu hr=>y5 hr λ k hk hr=>oL hr λ t ht hr=>cS (P:=λ v s'=>ja X d env nm _ s v s') hr (.of (Dw K hx ok (dM hk▸hu) ht) λ _=>rfl)
theorem Dy {es:Es}{xs:List Expr}{k:Nat}(h:vd X cd sc nm es xs) (hl:xs.length<=1000):SE X cd sc nm (.tup es) (.Tuple xs k p):=λ d cf hcf env K s v s' hr =>
 pG hr λ vs s1 h1 hr=>oL hr λ ws hw hr=>by
   have L:=h d cf hcf env K s vs s1 h1
   exact cS (P:=λ v s'=>ja X d env nm _ s v s') hr (.of (CT L.ok hw hl L.len) λ _=>rfl)
theorem Dz {es:Es}{xs:List Expr}(h:vd X cd sc nm es xs) (hl:xs.length<=1000):SE X cd sc nm (.lst es) (.List xs p):=λ d cf hcf env K s v s' hr =>
 pG hr λ vs s1 h1 hr=>oL hr λ ws hw hr=>by
   have L:=h d cf hcf env K s vs s1 h1
   exact cS (P:=λ v s'=>ja X d env nm _ s v s') hr (.of (CU L.ok hw hl L.len) λ _=>rfl)
theorem xz {q:Bool}{op:Operator}(h1:SE X cd sc nm l x) (h2:SE X cd sc nm r y):SE X cd sc nm (.bin q op l r) (.BinOp x op y p):=λ d cf hcf env K s v s' hr =>
 je hr λ a s1 e1 hr=>je hr λ b s2 e2 hr=>BN hr (λ z hz hr=>cS (P:=λ v s'=>ja X d env nm _ s v s') hr (.of (zx (h1.w hcf K e1) (h2.w hcf K e2) hz) λ _=>rfl))
   λ _ hr=>oW hr λ z hz hr=>cS (P:=λ v s'=>ja X d env nm _ s v s') hr (.of (zw (h1.w hcf K e1) (h2.w hcf K e2) hz) λ _=>rfl)
theorem GG {b c:Bool}(h:mV (.w (.bool b))=some (.bool c)):b=c:=sj (congrArg CA (sj h))
theorem DA (h:SE X cd sc nm e x):SE X cd sc nm (.not e) (.UnaryOp .Not x p):=λ d cf hcf env K s v s' hr =>
 CP hr λ b s1 h1 hr=>cS (P:=λ v s'=>ja X d env nm _ s v s') hr ⟨CV (bG.ev (h.b hcf K h1)),λ c hc=>GG hc▸CW (h.tr hcf K h1)⟩
theorem DB {t b o:E}(h1:SE X cd sc nm t x) (h2:SE X cd sc nm b y) (h3:SE X cd sc nm o z):SE X cd sc nm (.ife t b o) (.IfExp x y z p):=λ d cf hcf env K s v s' hr =>
 CP hr λ c s1 e1 hr=>by
   have k:=h1.tr hcf K e1
   cases c with
   | true=>exact ⟨v6 (b:=true) k (h2 d cf hcf env K s1 v s' hr).e,λ c hc=>v7 (b:=true) k ((h2 d cf hcf env K s1 v s' hr).t c hc)⟩
   | false=>exact ⟨v6 (b:=false) k (h3 d cf hcf env K s1 v s' hr).e,λ c hc=>v7 (b:=false) k ((h3 d cf hcf env K s1 v s' hr).t c hc)⟩
theorem xA {q:Bool}{op:CmpOp}(h1:SE X cd sc nm l x) (h2:SE X cd sc nm r y) (hb:behindInMarks op y=false):SE X cd sc nm (.cmp q l op r) (.Compare x [op] [y] p):=λ d cf hcf env K s v s' hr =>
 je hr λ a s1 e1 hr=>je hr λ b s2 e2 hr=>F6 hr λ z hz hr=>cS (P:=λ v s'=>ja X d env nm _ s v s') hr
   ⟨C4 (h1.w hcf K e1) (h2.w hcf K e2) hb hz,λ c hc=>GG hc▸C5 (h1.w hcf K e1) (h2.w hcf K e2) hb hz⟩
theorem Ab {op op2:CmpOp}{m:E}{w:Expr}(h1:SE X cd sc nm l x) (h2:SE X cd sc nm m y) (h3:SE X cd sc nm r w) (hb:behindInMarks op2 w=false):SE X cd sc nm (.cmp2 l op m op2 r) (.Compare x [op,op2] [y,w] p):=λ d cf hcf env K s v s' hr =>
 je hr λ a s1 e1 hr=>je hr λ b s2 e2 hr=>F6 hr λ c hc hr=>by
   have k1:=h1.w hcf K e1
   have k2:=h2.w hcf K e2
   cases c with
   | false=>exact cS (P:=λ v s'=>ja X d env nm _ s v s') hr ⟨wq k1 k2 hb hc,λ c hc'=>GG hc'▸wt k1 k2 hb hc⟩
   | true=>exact je hr λ z s3 e3 hr=>F6 hr λ t ht hr=>cS (P:=λ v s'=>ja X d env nm _ s v s') hr ⟨wu k1 k2 hb (h3.w hcf K e3) hc ht,λ c hc'=>GG hc'▸ww k1 k2 hb (h3.w hcf K e3) hc ht⟩
inductive Iv (X:Cx) (d:Nat) (env:Env) (nm:List Str) (isAnd:Bool) (xs:List Expr) (s:St) (s':St):V->Prop
 | mk (b:Bool):uk X (cD X) d env nm (fZ isAnd) xs s.loc s.slo b s'.loc s'.slo->ul X (cD X) d env nm (fZ isAnd) xs s.loc s.slo b s'.loc s'.slo->Iv X d env nm isAnd xs s s' (.w (.bool b))
noncomputable def SB (X:Cx) (cd:Option (Addr×Str)) (sc:Sc) (nm:List Str) (es:Es) (zs:List Expr):Prop:= ∀ isAnd d cf,fz X d cf-> ∀ env,aQ env sc nm cd-> ∀ s v s',rg X.T cf isAnd es s=some (v,s')->Iv X d env nm isAnd zs s s' v
theorem DC (h:SE X cd sc nm e x):SB X cd sc nm (.cons e .nil) [x]:=λ a d cf hcf env K s v s' hr =>
 CP hr λ b s1 h1 hr=>cS (P:=λ v s'=>Iv X d env nm a [x] s s' v) hr (.mk b (zA (h.b hcf K h1)) (zC (h.tr hcf K h1)))
theorem Ac {e2:E}{es:Es}{xs:List Expr}(h:SE X cd sc nm e x) (k:SB X cd sc nm (.cons e2 es) (y::xs)):SB X cd sc nm (.cons e (.cons e2 es)) (x::y::xs):=λ a d cf hcf env K s v s' hr =>
 CP hr λ b s1 h1 hr=>by
   cases q:Bool.xor a b with
   | true =>
     rw [q] at hr
     exact cS (P:=λ v s'=>Iv X d env nm a (x::y::xs) s s' v) hr (.mk b (zB (h.b hcf K h1) q) (zD (h.tr hcf K h1) q))
   | false =>
     rw [q] at hr
     cases k a d cf hcf env K s1 v s' hr with | mk c h2 h3=>exact .mk c (Gs (h.b hcf K h1) q h2) (Gu (h.tr hcf K h1) q h3)
theorem DD {a:Bool}{es:Es}{xs:List Expr}(h:SB X cd sc nm es xs):SE X cd sc nm (.bop a es) (.BoolOp (fZ a) xs p):=λ d cf hcf env K s v s' hr=>by
 cases h a d cf hcf env K s v s' hr with | mk b h1 h2=>exact ⟨C7 h1,λ c hc=>GG hc▸C8 h2⟩
theorem sS:vd X cd sc nm .nil []:=λ d cf hcf env K s v s' hr=>cS (a:=[]) (b:=s) (P:=λ v s'=>qY X (cD X) d env nm [] s.loc s.slo v s'.loc s'.slo) hr (Jc.mk (lc:=s.loc) (sl:=s.slo))
theorem qr {es:Es}{xs:List Expr}(hs:aE x=true) (h:SE X cd sc nm e x) (k:vd X cd sc nm es xs):vd X cd sc nm (.cons e es) (x::xs):=λ d cf hcf env K s v s' hr =>
 mL hr λ u s1 h1 hr=>pG hr λ us s2 h2 hr=>cS (P:=λ v s'=>qY X (cD X) d env nm (x::xs) s.loc s.slo v s'.loc s'.slo) hr (.mk hs (h d cf hcf env K s u s1 h1).e (k d cf hcf env K s1 us s2 h2))
inductive GH (X:Cx) (d:Nat) (f:V) (as:List V) (s:St) (v:V) (s':St):Prop
 | mk:s'.loc=s.loc->jO X f->lQ X (cD X) d f as s.slo v s'.slo->GH X d f as s v s'
theorem GI (hcf:fz X d cf): ∀ f as s v s',cf f as s=some (v,s')->dZ X (cD X) d f as s.slo v s'.slo:=λ f as s v s' h=>(hcf f as s v s' h).ok
theorem DE {b:BI}{as:List V}{s s':St}{v:V}(e:Ip b as s=some (v,s')):GH X d (.w (.bi b)) as s v s':=by
 refine oL e λ ws hb e=>BN e (λ l hl e=>cS (P:=λ v s'=>GH X d (.w (.bi b)) as s v s') e ⟨rfl,trivial,C6 (ws:=ws) ?_ hl⟩) λ _ e=>oW e λ w hw e=>cS (P:=λ v s'=>GH X d (.w (.bi b)) as s v s') e ⟨rfl,trivial,Gr hb hw⟩
 refine BN hb (λ ws' hw hb=>sj hb▸hw) λ hn hb=> ?_
 cases b<;>first | exact nn hb | skip
 refine oV hb λ u hu hb=>y5 hb λ k hk hb=>oL hb λ t ht hb=> ?_
 cases sj hb
 exact nn hl
theorem ja.ofL {s s':St}{v:V}{l:List (Option V)}(c:s'.loc=l) (h:bp X (cD X) d env nm x s.loc s.slo v l s'.slo) (he: ∀ whole,isTrue x env whole=(do let v <- whole;standAt x.pos;holding [v] (truthy v))):ja X d env nm x s v s':=by
 cases c;exact .of h he
theorem xB (C:bM X) {g:Nat}(ok:fY (X.gname g)=true) (hk:sc.lookup (X.gname g)=some .globalImplicit):SE X cd sc nm (.glo g) (.Name (X.gname g) p):=λ d cf hcf env K s v s' hr =>
 oW hr λ w hw hr=>cS (P:=λ v s'=>ja X d env nm _ s v s') hr (.of (v4 C K hw ok hk) λ _=>rfl)
theorem nC (hcf:fz X d cf) {c:Nat}{as:List V}{s s':St}{v:V}(e:gw X.T cf c as s=some (v,s')):s'.loc=s.loc/\(X.T.init c).isSome=true :=
 oT e λ ha e=>oN e λ f hf e=>y8 e λ s2 hcall e=>CO e λ _ fs _ e=>Iq e λ l hl e=>I1 e λ sl hs e=>cS (P:=λ v s'=>s'.loc=s.loc/\(X.T.init c).isSome=true) e ⟨(hcf _ _ _ _ _ (oO hcall)).loc,by rw [hf];rfl⟩
theorem nE (hcf:fz X d cf) {k:Sl}{c:Nat}{as:List V}{s s':St}{v:V}(e:vI X.T cf k c as s=some (v,s')):s'.loc=s.loc/\(X.T.init c).isSome=true :=
 oT e λ ha e=>oN e λ f hf e=>y8 e λ s2 hcall e=>F7 e λ _ _ e=>cS (P:=λ v s'=>s'.loc=s.loc/\(X.T.init c).isSome=true) e ⟨(hcf _ _ _ _ _ (oO hcall)).loc,by rw [hf];rfl⟩
theorem qs (C:bM X) (hcf:fz X d cf) {fv:V}{as:List V}{s s':St}{v:V}(e:ki X.T cf fv as s=some (v,s')):GH X d fv as s v s':=by
 cases fv with
 | w w=>cases w with
   | bi b=>exact DE e
   | cls c=>exact .mk (nC hcf e).1 (nC hcf e).2 (xu C (GI hcf) e)
   | fn f=>exact .mk (hcf _ _ _ _ _ e).loc trivial (lR (hcf _ _ _ _ _ e).ok)
   | _=>exact nn e
 | clo k cs=>exact .mk (hcf _ _ _ _ _ e).loc trivial (lR (hcf _ _ _ _ _ e).ok)
 | _=>exact nn e
variable {as:Es}{xs:List Expr}{ap:Pos}
theorem sT (C:bM X) {q:Bool}(h1:SE X cd sc nm e x) (h2:vd X cd sc nm as xs) (hn:kN x=true):SE X cd sc nm (.call q e as) (.Call x xs [] p):=λ d cf hcf env K s v s' hr =>
 mL hr λ fv s1 e1 hr=>pG hr λ vs s2 e2 hr=>by
   cases qs C hcf hr with | mk c1 c2 c3=> ?_
   have L:=h2 d cf hcf env K s1 vs s2 e2
   exact .ofL c1 (sE C hn L.stars (h1 d cf hcf env K s fv s1 e1).e L.ok c2 c3) λ _=>rfl
theorem DF (C:bM X) {k:Sl}{g:Nat}{p':Pos}(ok:fY (X.gname g)=true) (hk:sc.lookup (X.gname g)=some .globalImplicit) (h2:vd X cd sc nm as xs):SE X cd sc nm (.new k g as) (.Call (.Name (X.gname g) p') xs [] p):=λ d cf hcf env K s v s' hr =>
 oW hr λ w hw hr=>oN hr λ c hc hr=>pG hr λ vs s2 e2 hr=>by
   have hw:X.T.gval g=some (.cls c):=vO hc▸hw
   have L:=h2 d cf hcf env K s vs s2 e2
   exact .ofL (nE hcf hr).1 (sE C rfl L.stars (v4 C K hw ok hk) L.ok (nE hcf hr).2 (xx C (GI hcf) hr)) λ _=>rfl
theorem Ad (C:bM X) {a:Nat}(ha:a < X.na) (h1:SE X cd sc nm e x) (h2:vd X cd sc nm as xs) (hp:cq x=true) (hl:ap.endLine=p.line) (hn:xs.length < 30):SE X cd sc nm (.meth e a as) (.Call (.Attribute x (X.aname a) ap) xs [] p):=λ d cf hcf env K s v s' hr =>
 mL hr λ ov s1 e1 hr=>NC hr λ fv first hc hr=>pG hr λ vs s2 e2 hr=>by
   cases qs C hcf hr with | mk c1 c2 c3=> ?_
   have L:=h2 d cf hcf env K s1 vs s2 e2
   exact .ofL c1 (zG C hp ha L.stars hn hl (h1 d cf hcf env K s ov s1 e1).e hc L.ok c2 c3) λ _=>rfl
theorem xC {q:Bool}{b:BM}(hb:b≠ .replace) (h1:SE X cd sc nm e x) (h2:vd X cd sc nm as xs) (hp:cq x=true) (hl:ap.endLine=p.line) (hn:xs.length < 30):SE X cd sc nm (.bmeth q b e as) (.Call (.Attribute x (lH b) ap) xs [] p):=λ d cf hcf env K s v s' hr =>
 je hr λ w s1 e1 hr=>pG hr λ vs s2 e2 hr=>oL hr λ ws hw hr=>oW hr λ z hz hr=>by
   have L:=h2 d cf hcf env K s1 vs s2 e2
   exact cS (P:=λ v s'=>ja X d env nm _ s v s') hr (.of (wM hb hp L.stars hn hl (h1.w hcf K e1) L.ok hw hz) λ _=>rfl)
theorem Ae {q:Bool}{c k1 k2:Nat}{t:List Nat}{p1 p2:Pos}(h1:SE X cd sc nm e x) (hp:cq x=true) (hl:ap.endLine=p.line):SE X cd sc nm (.bmeth q .replace e (.cons (.cst (.str [c])) (.cons (.cst (.str t)) .nil))) (.Call (.Attribute x "replace" ap) [.Constant (.str (ae [c])) k1 p1,.Constant (.str (ae t)) k2 p2] [] p):=λ d cf hcf env K s v s' hr =>
 je hr λ w s1 e1 hr=>oW (o:=vc .replace w [.str [c],.str t]) (f:=λ z=>some (V.w z,s1)) hr λ z hz hr=>cS (P:=λ v s'=>ja X d env nm _ s v s') hr (.of (zI hp hl (h1.w hcf K e1) hz) λ _=>rfl)
theorem Af (C:bM X) {q:Bool}{sep:List Nat}{g k:Nat}{cp rp p2:Pos}(h1:SE X cd sc nm e x) (hs:aE x=true) (hl:sep.length<=cw) (hp:ap.endLine=p.line) (hk:sc.lookup ("reversed" : Str)=some .globalImplicit) :
   SE X cd sc nm (.jrev q sep g e) (.Call (.Attribute (.Constant (.str (ae sep)) k cp) "join" ap) [.Call (.Name "reversed" rp) [x] [] p2] [] p):=λ d cf hcf env K s v s' hr =>
 je hr λ w s1 e1 hr=>oL hr λ l hl' hr=>oW hr λ z hz hr=>cS (P:=λ v s'=>ja X d env nm _ s v s') hr (.of (zQ C K hs hl hp hk (bG.ev (fS hl'▸h1.w hcf K e1)) hz) λ _=>rfl)
theorem xD (C:bM X) {a:Nat}(ha:a < X.na) (h1:SE X cd sc nm e x) (hp:cq x=true):SE X cd sc nm (.att e a) (.Attribute x (X.aname a) p):=λ d cf hcf env K s v s' hr =>
 mL hr λ ov s1 e1 hr=>oV hr λ u hu hr=>cS (P:=λ v s'=>ja X d env nm _ s v s') hr (.of (Da C hp ha (h1 d cf hcf env K s ov s1 e1).e hu) λ _=>rfl)
theorem DG {q:Bool}(h1:SE X cd sc nm l x) (h2:SE X cd sc nm r y) (hn:dO y=true):SE X cd sc nm (.sub q l r) (.Subscript x y p):=λ d cf hcf env K s v s' hr =>
 mL hr λ ov s1 e1 hr=>je hr λ i s2 e2 hr=>oW hr λ u hu hr=>oW hr λ z hz hr=>cS (P:=λ v s'=>ja X d env nm _ s v s') hr (.of (C3 (h1 d cf hcf env K s ov s1 e1).e (h2.w hcf K e2) hn hu hz) λ _=>rfl)
noncomputable def SO (X:Cx) (cd:Option (Addr×Str)) (sc:Sc) (nm:List Str) (e:E) (z:Option Expr):Prop:= ∀ d cf,fz X d cf-> ∀ env,aQ env sc nm cd-> ∀ s w s',dU (am X.T cf e s)=some (w,s')->oj X (cD X) d env nm z s.loc s.slo w s'.loc s'.slo
theorem Ag:SO X cd sc nm .no none:=λ d cf hcf env K s w s' hr=>cS (P:=λ w s'=>oj X (cD X) d env nm none s.loc s.slo w s'.loc s'.slo) hr zp
theorem Ah (h:SE X cd sc nm e z):SO X cd sc nm e (some z):=λ d cf hcf env K s w s' hr=>zq (h.w hcf K hr)
theorem DH {q:Bool}{lo hi:E}{ya yb:Option Expr}{p':Pos}(h1:SE X cd sc nm e x) (h2:SO X cd sc nm lo ya) (h3:SO X cd sc nm hi yb):SE X cd sc nm (.slc q e lo hi) (.Subscript x (.Slice ya yb none p') p):=λ d cf hcf env K s v s' hr =>
 je hr λ a s1 e1 hr=>je hr λ b s2 e2 hr=>je hr λ c s3 e3 hr=>BN hr (λ z hz hr=>cS (P:=λ v s'=>ja X d env nm _ s v s') hr (.of (zu (h2 d cf hcf env K s1 b s2 e2) (h3 d cf hcf env K s2 c s3 e3) (h1.w hcf K e1) hz) λ _=>rfl))
   λ _ hr=>oW hr λ z hz hr=>cS (P:=λ v s'=>ja X d env nm _ s v s') hr (.of (zv (h2 d cf hcf env K s1 b s2 e2) (h3 d cf hcf env K s2 c s3 e3) (h1.w hcf K e1) hz) λ _=>rfl)
noncomputable def GJ (T:gC) (cf:bP) (hasC:Bool) (e:E) (s:St):Option (V×St):=match hasC with
 | true=>am T cf e s
 | false=>some (.w (.bool true),s)
noncomputable def SC (X:Cx) (cd:Option (Addr×Str)) (sc:Sc) (nm:List Str) (hasC:Bool) (e:E) (ifs:List Expr):Prop:= ∀ d cf,fz X d cf-> ∀ env,aQ env sc nm cd-> ∀ s b s',mY (GJ X.T cf hasC e s)=some (b,s')->wV X (cD X) d env nm ifs s.loc s.slo b s'.loc s'.slo
theorem Ai:SC X cd sc nm false e []:=λ d cf hcf env K s b s' hr=>cS (a:=true) (b:=s) (P:=λ b s'=>wV X (cD X) d env nm [] s.loc s.slo b s'.loc s'.slo) hr .mk
theorem DI (h:SE X cd sc nm e x):SC X cd sc nm true e [x]:=λ d cf hcf env K s b s' hr=>h.tr hcf K hr
inductive sU (X:Cx) (cd:Option (Addr×Str)) (sc:Sc) (nm:List Str):E->Expr->Prop
 | mk {cid:Nat} {two hasC:Bool} {elt iter cond:E} {caps:List Nat} {tg fr:List Str} {tgE x y:Expr} {ifs:List Expr} {s₀:Scope} {p:Pos}:iA two tg tgE->gP y=true->bF nm caps=some fr->n0 sc s₀ tg fr=true->SE X cd sc nm iter y->SE X cd (iR sc s₀.names) (tg++fr) elt x->SC X cd (iR sc s₀.names) (tg++fr) hasC cond ifs ->
   sU X cd sc nm (.comp cid elt two iter hasC cond caps) (.ListComp x [⟨tgE,y,ifs,0⟩] s₀ p)
theorem xE {elt cond:E}{hasC:Bool}{ifs:List Expr}(hcf:fz X d cf) (h1:SE X cd sc nm elt x) (h2:SC X cd sc nm hasC cond ifs):nz X (cD X) d cd sc nm x ifs (λ s=>GJ X.T cf hasC cond s) (λ s=>am X.T cf elt s) :=
 ⟨λ env K s b s' hr=>h2 d cf hcf env K s b s' hr,λ env K s w s' hr=>h1.w hcf K hr⟩
theorem Aj:sU X cd sc nm e z->SE X cd sc nm e z
 | .mk T hs hn hok h1 h2 h3=>λ d cf hcf env K s v s' hr =>
   je hr λ iw s1 e1 hr=>oL hr λ items hi hr=>Fk hr λ cl hcap hr=>CQ hr λ ws s2 hl hr=>cS (P:=λ v s'=>ja X d env nm _ s v s') hr (.of (sP (t0:=s1) (t9:=s2) K T hs hn (ny hok) (h1.w hcf K e1) hi hcap hl (xE hcf h2 h3)) λ _=>rfl)
theorem DJ (C:bM X) {k:Nat}{a:Arguments}{b:Expr}{s₀:Scope}{caps:List Nat}{fr:List Str}{ld:Ld}{L:Lp}{q:Str}(hld:X.T.lam k=some ld) (hk:X.lps[k]?=some L) (hcd:cd=some (L.code,q)) (hn:bF nm caps=some fr) (hok:sn sc a s₀ fr=true) (hnp:ld.np=a.args.length)
   (hm:M0 X s₀.names (a.args.map (·.arg)++fr) ld.body b) (hq:L.qual=q ++ "<lambda>") (hp:L.pos=p):SE X cd sc nm (.lam k caps) (.Lambda a b s₀ p):=λ d cf hcf env K s v s' hr =>
 Fk hr λ cl hcap hr=>cS (P:=λ v s'=>ja X d env nm _ s v s') hr (.of (Dj C K (p8 hok) hn hcap hk hcd hq hp λ fd e0 e1 e2 e3 e4 e5 e6=>by
   subst e1 e3;exact .mk _ _ _ _ e0 e2 e4 e5 e6 (p8 hok) hld hnp hm) λ _=>rfl)
theorem DK (C:bM X) {ks:List (List Nat)}{kx:List (Option Expr)}(hk:MK ks kx) (h:vd X cd sc nm as xs) (hl:ks.length=xs.length) (nd:ks.Nodup) (hn:xs.length<=15):SE X cd sc nm (.dct ks as) (.Dict kx xs p):=λ d cf hcf env K s v s' hr =>
 pG hr λ vs s1 e1 hr=>oL hr λ ws hw hr=>cS (P:=λ v s'=>ja X d env nm _ s v s') hr (.of (Db C hk (h d cf hcf env K s vs s1 e1) hl nd hn hw) λ _=>rfl)
theorem Jf (h:A0 nm e x):SE X cd sc nm e x:=by
 cases h with
 | var h1 h2=>exact mq h1 h2
 | inc h1 h2=>exact xz (mq h1 h2) B3
theorem Ak (h:A0 nm e x):aE x=true:=by cases h<;>rfl
theorem GK (h:B1 nm as xs):vd X cd sc nm as xs:=by
 induction h with
 | nil=>exact sS
 | cons a _ ih=>exact qr (Ak a) (Jf a) ih
theorem GL (C:bM X) (h:M0 X sc nm e x):SE X cd sc nm e x:=by
 cases h with
 | call h1 h2 h3=>exact sT C (xB C h1 h2) (GK h3) rfl
 | cin h1 h2 h3 h4 h5=>exact xA (mq h1 h2) (xD C h5 (mq h3 h4) rfl) rfl
end
noncomputable def SS (X:Cx) (cd:Option (Addr×Str)) (sc:Sc) (nm:List Str) (a:S) (z:Stmt):Prop:= ∀ d cf,fz X d cf-> ∀ env,aQ env sc nm cd-> ∀ s f s',bn X.T cf a s=some (f,s')->ek X (cD X) d env nm z s.loc s.slo f s'.loc s'.slo
noncomputable def Al (X:Cx) (cd:Option (Addr×Str)) (sc:Sc) (nm:List Str) (a:Ss) (z:List Stmt):Prop:= ∀ d cf,fz X d cf-> ∀ env,aQ env sc nm cd-> ∀ s f s',aL X.T cf a s=some (f,s')->jL X (cD X) d env nm z s.loc s.slo f s'.loc s'.slo
theorem hB: ∀ {is:List Nat}{ws:List W}{s s':St},iN is ws s=some s'->is.length=ws.length/\s'=⟨pY s.loc is ws,s.slo⟩
 | [],ws,s,s',e=>by
   cases ws with
   | nil=>cases sj e;exact ⟨rfl,rfl⟩
   | cons _ _=>exact nn e
 | i::is,ws,s,s',e=>by
   cases ws with
   | nil=>exact nn e
   | cons w ws =>
     have h:=hB (s:=s.put i (.w w)) (is:=is) e
     exact ⟨congrArg (· + 1) h.1,h.2⟩
section
variable {X:Cx}{d:Nat}{cf:bP}{env:Env}{nm:List Str}{sc:Sc}{cd:Option (Addr×Str)}{z x y:Expr}{e o:E}{i:Nat}{n:Str}{p p':Pos}
noncomputable abbrev mr (X:Cx) (d:Nat) (env:Env) (nm:List Str) (z:Stmt) (s:St) (f:Fl) (s':St):Prop:=ek X (cD X) d env nm z s.loc s.slo f s'.loc s'.slo
theorem DL {st:Stmt}:SS X cd sc nm .bad st:=λ d cf hcf env K s f s' hr=>nn hr
theorem DM (hx:nm[i]?=some n) (hl:sc.lookup n=some .local) (hn:bK y=true) (h:SE X cd sc nm e y):SS X cd sc nm (.asg i e) (.Assign [.Name n p'] y p):=λ d cf hcf env K s f s' hr =>
 mL hr λ v s1 e1 hr=>cS (P:=λ f s'=>mr X d env nm _ s f s') hr (Dn K hx hl hn (h d cf hcf env K s v s1 e1).e)
theorem rO (hx:nm[i]?=some n) (hl:sc.lookup n=some .local):sU X cd sc nm e y->SS X cd sc nm (.asg i e) (.Assign [.Name n p'] y p)
 | .mk T hs hn hok h1 h2 h3=>λ d cf hcf env K s f s' hr=>mL hr λ v s1 e hr =>
   cS (P:=λ f s'=>mr X d env nm _ s f s') hr (je e λ iw t0 e1 e=>oL e λ items hi e=>Fk e λ cl hcap e=>CQ e λ ws s2 hl' e=>cS (P:=λ v s1=>mr X d env nm _ s .next (s1.put i v)) e
     (rK (t0:=t0) (t9:=s2) K hx hl T hs hn (ny hok) (h1.w hcf K e1) hi hcap hl' (xE hcf h2 h3)))
theorem Am (hx:nm[i]?=some n) (hl:sc.lookup n=some .cell) (hn:bK y=true) (h:SE X cd sc nm e y):SS X cd sc nm (.asgC i e) (.Assign [.Name n p'] y p):=λ d cf hcf env K s f s' hr =>
 mL hr λ v s1 e1 hr=>oT hr λ hf hr=>cS (P:=λ f s'=>mr X d env nm _ s f s') hr (zV K hx hl hn (h d cf hcf env K s v s1 e1).e hf)
theorem An {k:Sl}(hx:nm[i]?=some n) (hl:sc.lookup n=some .local) (hn:bK y=true) (h:SE X cd sc nm e y):SS X cd sc nm (.asgN i k e) (.Assign [.Name n p'] y p):=λ d cf hcf env K s f s' hr =>
 mL hr λ v s1 e1 hr=>oL hr λ l hv hr=>oT hr λ ha hr=>cS (P:=λ f s'=>mr X d env nm _ s f s') hr (zU K hx hl hn (lq hv▸(h d cf hcf env K s v s1 e1).e) ha)
theorem Ao {is:List Nat}{xs:List Str}{ps:List Pos}{k:Nat}(hn:bF nm is=some xs) (ha:xs.all (λ x=>sc.lookup x==some .local)=true) (hp:xs.length=ps.length) (hy:ru y=true) (hc:bK y=true) (h:SE X cd sc nm e y) :
   SS X cd sc nm (.asgT is e) (.Assign [.Tuple ((xs.zip ps).map λ q=> .Name q.1 q.2) k p'] y p):=λ d cf hcf env K s f s' hr =>
 je hr λ w s1 e1 hr=>oL hr λ l hw hr=>y8 hr λ s2 e2 hr=>cS (P:=λ f s'=>mr X d env nm _ s f s') hr (by
   rw [(hB e2).2]
   exact zT K hn ha hp hy hc (hB e2).1 (jH hw▸h.w hcf K e1))
theorem Ap {j:Nat}{n':Str}{e':E}{y':Expr}{px px' p2:Pos}{k k':Nat}(hx:nm[i]?=some n) (hx':nm[j]?=some n') (hl:sc.lookup n=some .local) (hl':sc.lookup n'=some .local) (hne:n≠n') (hline:px.line=px'.line) (h1:SE X cd sc nm e y) (h2:SE X cd sc nm e' y')
   (hs:aE y=true) (hs':aE y'=true) (hf:([y,y'].all (foldedForSure 8))=false) (hc:([y,y'].all (constantsAlone 8))=false):SS X cd sc nm (.asgS i j e e') (.Assign [.Tuple [.Name n px,.Name n' px'] k p'] (.Tuple [y,y'] k' p2) p):=λ d cf hcf env K s f s' hr =>
 mL hr λ v s1 e1 hr=>mL hr λ v' s2 e2 hr=>cS (P:=λ f s'=>mr X d env nm _ s f s') hr (zW K hx hx' hl hl' hne hline hs hs' hf hc (h1 d cf hcf env K s v s1 e1).e (h2 d cf hcf env K s1 v' s2 e2).e)
theorem Aq (C:bM X) {a:Nat}(ha:a < X.na) (h1:SE X cd sc nm e y) (h2:SE X cd sc nm o x) (hn:bK y=true):SS X cd sc nm (.asgA o a e) (.Assign [.Attribute x (X.aname a) p'] y p):=λ d cf hcf env K s f s' hr =>
 mL hr λ v s1 e1 hr=>mL hr λ ov s2 e2 hr=>y8 hr λ s3 e3 hr=>cS (P:=λ f s'=>mr X d env nm _ s f s') hr (z5 (s0:=s2) C ha hn (h1 d cf hcf env K s v s1 e1).e (h2 d cf hcf env K s1 ov s2 e2).e e3)
theorem Ar {u:E}(h1:SE X cd sc nm e y) (h2:SE X cd sc nm o x) (h3:SE X cd sc nm u z) (hs:dO z=true) (hn:bK y=true):SS X cd sc nm (.asgI o u e) (.Assign [.Subscript x z p'] y p):=λ d cf hcf env K s f s' hr =>
 je hr λ w s1 e1 hr=>mL hr λ v s2 e2 hr=>y5 hr λ k hv hr=>je hr λ a s3 e3 hr=>oN hr λ m ha hr=>oL hr λ l hk hr=>oT hr λ hlt hr=>cS (P:=λ f s'=>mr X d env nm _ s f s') hr
   (zZ K hs hn (h1.w hcf K e1) (dM hv▸(h2 d cf hcf env K s1 v s2 e2).e) (ll ha▸h3.w hcf K e3) hk hlt)
theorem DO (C:bM X) {p2 p3 px px':Pos}(hna:X.T.aAt < X.na) (hx:nm[i]?=some n) (ok:fY n=true) (h:SE X cd sc nm e y):SS X cd sc nm (.adv (.var i) e) (.Assign [.Attribute (.Name n px) (X.aname X.T.aAt) p'] (.BinOp (.Attribute (.Name n px') (X.aname X.T.aAt) p2) .Add y p3) p):=λ d cf hcf env K s f s' hr =>
 oV (o:=bA s.loc i) hr λ v hv hr=>y5 hr λ k hk hr=>CR hr λ dn rm nmw hr' hr=>je hr λ w s2 e2 hr=>oN hr λ m hm hr=>oT hr λ hd hr=>oV hr λ v2 hv2 hr=>y5 hr λ k2 hk2 hr=>ND hr λ dn' rm' hmv hr=>oT hr λ hkk hr=>by
   have hkk:=of_decide_eq_true hkk
   subst hkk
   exact cS (P:=λ f s'=>mr X d env nm _ s f s') hr (Du C K hna hx ok (dM hk▸hv) hr' (ll hm▸h.w hcf K e2) hd (dM hk2▸hv2) hmv)
theorem DP (hn:bK y=true) (h:SE X cd sc nm e y):SS X cd sc nm (.exp e) (.Expr y p):=λ d cf hcf env K s f s' hr =>
 mL hr λ v s1 e1 hr=>cS (P:=λ f s'=>mr X d env nm _ s f s') hr (Dm K hn (h d cf hcf env K s v s1 e1).e)
variable {px ap:Pos}
theorem DQ (hx:nm[i]?=some n) (hl:sc.lookup n=some .local) (ok:fY n=true) (hs:aE y=true) (hp:ap.endLine=p'.line) (h:SE X cd sc nm e y):SS X cd sc nm (.app i e) (.Expr (.Call (.Attribute (.Name n px) "append" ap) [y] [] p') p):=λ d cf hcf env K s f s' hr =>
 oV hr λ u hu hr=>BN hr (λ l hl' hr=>je hr λ w s1 e1 hr=>y8 hr λ s2 e2 hr=>cS (P:=λ f s'=>mr X d env nm _ s f s') hr (oT e2 λ hfr e2=>oL e2 λ l2 hg e2=>sR (P:=λ s2=>mr X d env nm _ s .next s2) e2
     (qf (ext:=false) K hx hl ok hs hp (lq hl'▸hu) (bG.ev (h.w hcf K e1)) rfl hfr hg)))
   λ _ hr=>y5 hr λ k hk hr=>oL hr λ l0 hl0 hr=>je hr λ w s1 e1 hr=>y8 hr λ s2 e2 hr=>cS (P:=λ f s'=>mr X d env nm _ s f s') hr (oL e2 λ l hl2 e2=>oL e2 λ l' hg e2=>sR (P:=λ s2=>mr X d env nm _ s .next s2) e2
     (xg K hx ok hs hp (dM hk▸hu) hl0 (h.w hcf K e1) hl2 hg))
theorem DR (hx:nm[i]?=some n) (hl:sc.lookup n=some .local) (ok:fY n=true) (hs:aE y=true) (hp:ap.endLine=p'.line) (h:SE X cd sc nm e y):SS X cd sc nm (.ext i e) (.Expr (.Call (.Attribute (.Name n px) "extend" ap) [y] [] p') p):=λ d cf hcf env K s f s' hr =>
 oV hr λ u hu hr=>oL hr λ l hl' hr=>mL hr λ v s1 e1 hr=>oL hr λ ws hws hr=>y8 hr λ s2 e2 hr=>cS (P:=λ f s'=>mr X d env nm _ s f s') hr (oT e2 λ hfr e2=>oL e2 λ l2 hg e2=>sR (P:=λ s2=>mr X d env nm _ s .next s2) e2
     (qf (ext:=true) K hx hl ok hs hp (lq hl'▸hu) (h d cf hcf env K _ v s1 e1).e hws hfr hg))
theorem DS {k:Nat}{p2 p3 p4:Pos}(hx:nm[i]?=some n) (hl:sc.lookup n=some .local) (hs:aE y=true) (h:SE X cd sc nm e y):SS X cd sc nm (.hd0 i e) (.Assign [.Name n p'] (.List [.Tuple [y,.List [] p4] k p3] p2) p):=λ d cf hcf env K s f s' hr =>
 je hr λ w s1 e1 hr=>cS (P:=λ f s'=>mr X d env nm _ s f s') hr (Dq K hx hl hs (bG.ev (h.w hcf K e1)))
theorem DT {k:Nat}{p3 p4:Pos}(hx:nm[i]?=some n) (hl:sc.lookup n=some .local) (ok:fY n=true) (hs:aE y=true) (hp:ap.endLine=p'.line) (h:SE X cd sc nm e y):SS X cd sc nm (.hdA i e) (.Expr (.Call (.Attribute (.Name n px) "append" ap) [.Tuple [y,.List [] p4] k p3] [] p') p):=λ d cf hcf env K s f s' hr =>
 oV hr λ u hu hr=>oH hr λ l hl' hr=>je hr λ w s1 e1 hr=>oT hr λ hb hr=>cS (P:=λ f s'=>mr X d env nm _ s f s') hr (Dr K hx hl ok hs hp (pH hl'▸hu) (h.w hcf K e1) (Bool.and_eq_true_iff.mp hb).1 (Bool.and_eq_true_iff.mp hb).2)
theorem DU {k k':Nat}{c1 c2 p3 p4 p5:Pos}(hx:nm[i]?=some n) (hl:sc.lookup n=some .local) (ok:fY n=true) (hs:aE y=true) (hp:ap.endLine=p'.line) (h:SE X cd sc nm e y) :
   SS X cd sc nm (.hdX i e) (.Expr (.Call (.Attribute (.Subscript (.Subscript (.Name n px) (.UnaryOp .USub (.Constant (.int 1) k c1) p3) p4) (.Constant (.int 1) k' c2) p5) "extend" ap) [y] [] p') p):=λ d cf hcf env K s f s' hr =>
 oV hr λ u hu hr=>oH hr λ l hl' hr=>mL hr λ v s1 e1 hr=>oL hr λ ws hws hr=>oT hr λ hfr hr=>oH hr λ l2 hx2 hr=>cS (P:=λ f s'=>mr X d env nm _ s f s') hr (Ds K hx hl ok hs hp (pH hl'▸hu) (h d cf hcf env K _ v s1 e1).e hws hfr hx2)
theorem DV {b o:Ss}{yb yo:List Stmt}(h:SE X cd sc nm e y) (hb:Al X cd sc nm b yb) (ho:Al X cd sc nm o yo):SS X cd sc nm (.ifs e b o) (.If y yb yo p):=λ d cf hcf env K s f s' hr =>
 CP hr λ c s1 e1 hr=>by
   have k:=h.tr hcf K e1
   cases c with
   | true=>exact w9 (c:=true) k (hb d cf hcf env K s1 f s' hr)
   | false=>exact w9 (c:=false) k (ho d cf hcf env K s1 f s' hr)
theorem DW {id:Nat}{b:Ss}{yb:List Stmt}(h:SE X cd sc nm e y) (hb:Al X cd sc nm b yb):SS X cd sc nm (.whl id e b) (.While y yb [] p):=λ d cf hcf env K s f s' hr =>
 Do (λ s b s' e=>h.tr hcf K e) (λ s f s' e=>hb d cf hcf env K s f s' e) hr
theorem DX {id:Nat}{b:Ss}{yb:List Stmt}(hx:nm[i]?=some n) (hl:sc.lookup n=some .local) (h:SE X cd sc nm e y) (hset:gP y=true) (hb:Al X cd sc nm b yb):SS X cd sc nm (.for_ id i e b) (.For (.Name n p') y yb [] p):=λ d cf hcf env K s f s' hr =>
 je hr λ w s1 e1 hr=>oL hr λ l hl' hr=>Dp K hx hl hset (h.w hcf K e1) hl' (λ s f s' e=>hb d cf hcf env K s f s' e) hr
theorem As:SS X cd sc nm (.ret .no) (.Return none p):=λ d cf hcf env K s f s' hr=>cS (a:=Fl.ret (.w .none)) (b:=s) (P:=λ f s'=>mr X d env nm _ s f s') hr zS
theorem DY (h:SE X cd sc nm e y):SS X cd sc nm (.ret e) (.Return (some y) p):=λ d cf hcf env K s f s' hr =>
 mL hr λ v s1 e1 hr=>cS (P:=λ f s'=>mr X d env nm _ s f s') hr (Dl (h d cf hcf env K s v s1 e1).e)
theorem Au:SS X cd sc nm .cont (.Continue p):=λ d cf hcf env K s f s' hr=>cS (a:=Fl.cont) (b:=s) (P:=λ f s'=>mr X d env nm _ s f s') hr zR
theorem Av:Al X cd sc nm .nil []:=λ d cf hcf env K s f s' hr=>cS (a:=Fl.next) (b:=s) (P:=λ f s'=>jL X (cD X) d env nm [] s.loc s.slo f s'.loc s'.slo) hr Dk
theorem xF {a:S}{r:Ss}{st:Stmt}{zs:List Stmt}(h:SS X cd sc nm a st) (k:Al X cd sc nm r zs):Al X cd sc nm (.cons a r) (st::zs):=λ d cf hcf env K s f s' hr =>
 Ir hr λ g s1 e1 hr=>by
   have h1:=h d cf hcf env K s g s1 e1
   cases g with
   | next=>exact Gx h1 (k d cf hcf env K s1 f s' hr)
   | cont=>exact cS (P:=λ f s'=>jL X (cD X) d env nm (st::zs) s.loc s.slo f s'.loc s'.slo) hr (sN h1 rfl)
   | ret v=>exact cS (P:=λ f s'=>jL X (cD X) d env nm (st::zs) s.loc s.slo f s'.loc s'.slo) hr (sN h1 rfl)
end
section
variable {X:Cx}{LP:bu}{F F':PM}{r r':PS}{R:List aK}{env:Env}{nm:List Str}{sc:Sc}{cd:Option (Addr×Str)}{lc:List (Option V)}{sl:ab}{d:Nat}{h h':Heap}{cf:bP}
theorem qt {m:Str->Option Value}: ∀ {cs:List V}{l:List (Str×Addr)},jD X LP F r l cs->(∀ p ∈ l,env.kindOf p.1=some .free/\env.cells.lookup p.1=some p.2)->yR X LP F r env m (l.map (·.1)) (cs.map some) []
 | [],_,.refl _,_=>⟨rfl,rfl⟩
 | _::_,_,.mk (.mk a b c) t,k=>eC.mk (T:=[]) (Fq.f (k _ List.mem_cons_self).1 (k _ List.mem_cons_self).2 a b c) (qt t λ p hp=>k p (Rk _ hp))
theorem qu {m:Str->Option Value}{fr:List Str}{bs:List (Option V)}(i:yR X LP F r env m fr bs []): ∀ {as:List V}{vs:List Value}{ns:List Str},i9 X LP F r vs as->ns.length=vs.length->(∀ p ∈ ns.zip vs,env.kindOf p.1=some .local/\m p.1=some p.2)->yR X LP F r env m (ns++fr) (as.map some++bs) []
 | [],_,[],.refl _,_,_=>i
 | [],_,_::_,.refl _,e,_=>nomatch e
 | _::_,_,[],.mk _ _,e,_=>nomatch e
 | _::_,_,_::_,.mk a b,e,k=>eC.mk (T:=[]) (Fq.l (k _ List.mem_cons_self).1 (k _ List.mem_cons_self).2 a) (qu i b (Nat.succ.inj e) λ p hp=>k p (Rk _ hp))
theorem xG (C:bM X) (hcf:fz X d cf) {k:Nat}{ld:Ld}{as cs:List V}{s0 s1:St}{Vo:V}(hld:X.T.lam k=some ld) (hr:rh X.T cf ld as cs s0=some (Vo,s1)):mo X (d+1) (.clo k cs) as s0 Vo s1 :=
 oT hr λ hlen hr=>mL hr λ v s2 h2 hr=>cS (P:=λ Vo s1=>mo X (d+1) (.clo k cs) as s0 Vo s1) hr ⟨rfl,λ A F r R s vf vs hA H tf ts=>by
   cases tf with | @mk a o fd ga gd lp ca rcs=> ?_
   cases lp with | mk sc0 b fr ld' e0 e2 e4 e5 e6 O hld' hnp hb=> ?_
   cases sj (hld.symm.trans hld')
   cases ca with | mk c oc cvs ct k1 k2 k3 k4=> ?_
   obtain ⟨mc,hns,hlim⟩:=C.nolim
   have lim0:s.heap.NoLimit:=⟨mc,hns.at H.base,hlim⟩
   have lns:(fd.params.args.map (·.arg)).length=vs.length:=by rw [List.length_map,ts.length,Rq hlen,hnp]
   have nd1:(fd.params.args.map (·.arg)).Nodup:=(List.nodup_append.mp O.nod).1
   have nd2:fr.Nodup:=(List.nodup_append.mp O.nod).2.1
   have bind:BindsTo s fd ⟨vs,[]⟩ (dQ (fd.params.args.map (·.arg)) vs []):=qh O.simple nd1 (Nat.le_of_eq lns.symm) (Nat.le_of_eq lns) (Nat.zero_le _) (.inl ⟨e0,rfl⟩)
   have hbi:dQ (fd.params.args.map (·.arg)) vs []=(fd.params.args.map (·.arg)).zip vs:=by unfold dQ;rw [List.drop_nil,List.append_nil]
   have zfst:((fd.params.args.map (·.arg)).zip vs).map (·.1)=fd.params.args.map (·.arg):=by rw [kU,<- lns,List.take_length]
   have ndz:(((fd.params.args.map (·.arg)).zip vs).map (·.1)).Nodup:=by rw [zfst];exact nd1
   generalize hz:(fd.params.args.map (·.arg)).zip vs=z at hbi zfst ndz
   have inz: ∀ p ∈ z,p.1 ∈ fd.params.args.map (·.arg):=λ p hp=>zfst▸RA hp
   refine kla_callFunE (Rt (Ru _ _) hA.2.1) (H.fro _ _ ga) gd O.noco O.nogen e2 ⟨c,oc,cvs,ct,k1,H.fro _ _ k2,k3,k4⟩ (bind _ _ _ _ ?_)
   rw [hbi]
   refine wpAny_newFunctionEnv O.nocell (λ p hp=>O.args _ (inz p hp)) (λ h1 hns1 hsb=> ?_) O.kind
   have keep: ∀ b o,s.heap.get? b=some o->h1.get? b=some o:=λ b o e=>hsb.extBut b o (Nat.ne_of_lt (Heap.lt_size e)) (Heap.get?_push_of_some _ e)
   refine ⟨lim0.keeps keep,kla_codeExpr ?_⟩
   generalize henv:newEnv fd.scope s.heap.objs.size fd.globals fd.closure (fd.qualname ++ ".<locals>.") (some a) fd.code none fd.builtins=env
   have Kenv:aQ env fd.scope.names (fd.params.args.map (·.arg)++fr) none:=by
     subst henv
     exact ⟨O.kind,rfl,e4,e5,O.nod,λ c' q' e=>nomatch e⟩
   have hloc:env.locals=s.heap.objs.size:=by subst henv;rfl
   have hcel:env.cells=fd.closure:=by subst henv;rfl
   clear henv bind
   obtain ⟨oL,es,ep,p1,p2,p3,p4⟩:=hns1
   have H1:HC X (cD X) F r s0.slo ([(env.locals,gF λ x=>z.reverse.lookup x)]++R) h1:=H.adopt keep (λ p hp=>by
       cases List.mem_singleton.mp hp
       exact hloc▸⟨aN _,oL,p1,.mk es ep p2 p3 p4⟩) (λ a=>by
       rw [fW,one]
       split
       · exact Nat.le_refl 1
       · exact Nat.zero_le 1)
   have ndc:(fd.closure.reverse.map (·.1)).Nodup:=by rw [e6];exact nd2
   have cl: ∀ p ∈ fd.closure.reverse,env.kindOf p.1=some .free/\env.cells.lookup p.1=some p.2:=λ p hp=>by
     refine ⟨by rw [Kenv.kindOf];exact O.inner _ (e6▸RA hp),?_⟩
     have e:=gh ndc p.1
     rw [List.reverse_reverse] at e
     rw [hcel,e];exact mi ndc hp
   have iv:yR X (cD X) F r env (λ x=>z.reverse.lookup x) (fd.params.args.map (·.arg)++fr) (as.map some++cs.map some) [] :=
     qu (e6▸qt rcs cl) ts lns λ p hp=>by
       rw [hz] at hp
       exact ⟨by rw [Kenv.kindOf];exact O.args _ (inz p hp),(gh ndz p.1).trans (mi ndz hp)⟩
   refine iv.vars (.refl _) H1 λ F1 U1 l1 v1 H2=> ?_
   have H3:HS X (cD X) F1 r env _ _ _ s0.slo R h1:=⟨U1,v1,H2.tr [U1,[(env.locals,gF _)],R] (.n (.l 0) (.n (.l 1) (.l 2))) (.n (.l 1) (.n (.l 0) (.l 2))) rfl⟩
   have hA':dG (A.deeper env) d { s with heap:=h1,toks:=s.toks+z.length }:=⟨hA.1,Rt (Nat.le_of_eq (Ly ..)) hA.2.1,Rt (Lz ..) hA.2.2.1,Nat.lt_of_lt_of_le hA.2.2.2 (Ru _ _)⟩
   refine Ro ((GL C hb d cf hcf env Kenv _ _ _ h2).e _ (A.deeper env) F1 r R _ hA' H3) (λ v' s3 zz=> ?_) λ _ _ z=>z.elim
   cases zz with | mk F2 r2 T l2 q2 H4 t2 m2=> ?_
   cases H4 with | mk U2 v2 b2=> ?_
   exact ⟨v',rfl,F2,r2,T,l1.trans l2,q2,b2.tr [[_],U2,T,R] (.n (.l 0) (.n (.l 1) (.n (.l 2) (.l 3)))) (.n (.l 2) (.l 3)) rfl,t2,Sm.mk.trans m2⟩⟩
end
end Mine
end
section
open PySem
namespace Mine
section
variable (T:gC) (cf:bP) (isAnd:Bool)
theorem sV {s}:am T cf .no s=some (.w .none,s):=rfl
theorem az {v s}:am T cf (.cst v) s=some (.w v,s):=rfl
theorem oP {n s}:am T cf (.negc n) s=some (.w (.int (-(n:Int))),s):=rfl
theorem ag {i s}:am T cf (.var i) s=match bA s.loc i with | some v=>some (pB s i v) | none=>none:=rfl
theorem DZ {i s}:am T cf (.frz i) s=match bA s.loc i with | some v=>(match dN v with | some k=>(match gL (s.slo.get k) with | some l=>some (.own l,s.sl k .dead) | none=>none) | none=>none) | none=>none:=rfl
theorem av {g s}:am T cf (.glo g) s=match T.gval g with | some w=>some (.w w,s) | none=>none:=rfl
theorem bR {es s}:am T cf (.tup es) s=match dA T cf es s with | some (vs,s')=>(match aZ vs with | some l=>some (.w (.tup l),s') | none=>none) | none=>none:=rfl
theorem cV {es s}:am T cf (.lst es) s=match dA T cf es s with | some (vs,s')=>(match aZ vs with | some l=>some (.own l,s') | none=>none) | none=>none:=rfl
theorem bX {h10_1 op l r s}:am T cf (.bin h10_1 op l r) s=match dU (am T cf l s) with | some (x,s1)=>(match dU (am T cf r s1) with | some (y,s2)=>(match tT op x y with | some z=>some (.own z,s2) | none=>(match iL op x y with | some z=>some (.w z,s2) | none=>none)) | none=>none) | none=>none:=rfl
theorem ms {e s}:am T cf (.not e) s=match mY (am T cf e s) with | some (b,s')=>some (.w (.bool (!b)),s') | none=>none:=rfl
theorem dq {t b o s}:am T cf (.ife t b o) s=match mY (am T cf t s) with | some (c,s')=>(match c with | true=>am T cf b s' | false=>am T cf o s') | none=>none:=rfl
theorem cI {isAnd es s}:am T cf (.bop isAnd es) s=rg T cf isAnd es s:=rfl
theorem aI {h14_1 l op r s}:am T cf (.cmp h14_1 l op r) s=match dU (am T cf l s) with | some (x,s1)=>(match dU (am T cf r s1) with | some (y,s2)=>(match gJ op x y with | some z=>some (.w (.bool z),s2) | none=>none) | none=>none) | none=>none:=rfl
theorem sW {l op1 m op2 r s}:am T cf (.cmp2 l op1 m op2 r) s=match dU (am T cf l s) with | some (x,s1)=>(match dU (am T cf m s1) with | some (y,s2)=>(match gJ op1 x y with | some c=>(match c with | true=>(match dU (am T cf r s2) with | some (z,s3)=>(match gJ op2 y z with | some t=>some (.w (.bool t),s3) | none=>none) | none=>none) | false=>some (.w (.bool false),s2)) | none=>none) | none=>none) | none=>none:=rfl
theorem al {h16_1 f as s}:am T cf (.call h16_1 f as) s=match am T cf f s with | some (fv,s1)=>(match dA T cf as s1 with | some (vs,s2)=>ki T cf fv vs s2 | none=>none) | none=>none:=rfl
theorem fo {o a as s}:am T cf (.meth o a as) s=match am T cf o s with | some (ov,s1)=>(match dF T s1.slo ov a with | some (fv,first)=>(match dA T cf as s1 with | some (vs,s2)=>ki T cf fv (first++vs) s2 | none=>none) | none=>none) | none=>none:=rfl
theorem hC {h19_1 b o as s}:am T cf (.bmeth h19_1 b o as) s=match dU (am T cf o s) with | some (x,s1)=>(match dA T cf as s1 with | some (vs,s2)=>(match aZ vs with | some ws=>(match vc b x ws with | some z=>some (.w z,s2) | none=>none) | none=>none) | none=>none) | none=>none:=rfl
theorem a9 {o a s}:am T cf (.att o a) s=match am T cf o s with | some (ov,s1)=>(match eH T s1.slo ov a with | some v=>some (v,s1) | none=>none) | none=>none:=rfl
theorem bc {h22_1 o i s}:am T cf (.sub h22_1 o i) s=match am T cf o s with | some (ov,s1)=>(match dU (am T cf i s1) with | some (y,s2)=>(match tU s2.slo ov with | some x=>(match dz x y with | some z=>some (.w z,s2) | none=>none) | none=>none) | none=>none) | none=>none:=rfl
theorem eS {h23_1 o lo hi s}:am T cf (.slc h23_1 o lo hi) s=match dU (am T cf o s) with | some (x,s1)=>(match dU (am T cf lo s1) with | some (a,s2)=>(match dU (am T cf hi s2) with | some (b,s3)=>(match jF x a b with | some z=>some (.own z,s3) | none=>(match vE x a b with | some z=>some (.w z,s3) | none=>none)) | none=>none) | none=>none) | none=>none:=rfl
theorem ju {h24_1 elt two iter hasC cond caps s}:am T cf (.comp h24_1 elt two iter hasC cond caps) s=match dU (am T cf iter s) with | some (iw,s1)=>(match br iw with | some items=>(match c9 s1.loc caps with | some cl=>(match compLoop two cl (λ s=>match hasC with | true=>am T cf cond s | false=>some (.w (.bool true),s)) (λ s=>am T cf elt s) items s1 with | some (ws,s2)=>some (.own ws,⟨s1.loc,s2.slo⟩) | none=>none) | none=>none) | none=>none) | none=>none:=rfl
theorem D0 {k caps s}:am T cf (.lam k caps) s=match c9 s.loc caps with | some cl=>some (.clo k (ej cl),s) | none=>none:=rfl
theorem D1 {ks vs s}:am T cf (.dct ks vs) s=match dA T cf vs s with | some (l,s')=>(match aZ l with | some ws=>some (.w (.dct (ks.zip ws)),s') | none=>none) | none=>none:=rfl
theorem xH {e s}:rg T cf isAnd (.cons e .nil) s=(match mY (am T cf e s) with | some (b,s')=>some (.w (.bool b),s') | none=>none):=rfl
theorem nF {e e2 r s}:rg T cf isAnd (.cons e (.cons e2 r)) s=match mY (am T cf e s) with | some (b,s')=>(match Bool.xor isAnd b with | true=>some (.w (.bool b),s') | false=>rg T cf isAnd (.cons e2 r) s') | none=>none:=rfl
theorem aP {s}:dA T cf .nil s=some ([],s):=rfl
theorem aX {e r s}:dA T cf (.cons e r) s=match am T cf e s with | some (v,s1)=>(match dA T cf r s1 with | some (vs,s2)=>some (frz v::vs,s2) | none=>none) | none=>none:=rfl
theorem aW {i e s}:bn T cf (.asg i e) s=match am T cf e s with | some (v,s')=>some (.next,s'.put i v) | none=>none:=rfl
theorem sX {i e s}:bn T cf (.asgC i e) s=match am T cf e s with | some (v,s')=>(match dI s'.loc i with | true=>some (.next,s'.put i (frz v)) | false=>none) | none=>none:=rfl
theorem sY {i k e s}:bn T cf (.asgN i k e) s=match am T cf e s with | some (v,s')=>(match jd v with | some l=>(match gv (s'.slo.get k) with | true=>some (.next,(s'.sl k (.list l)).put i (.slot k)) | false=>none) | none=>none) | none=>none:=rfl
theorem oQ {is e s}:bn T cf (.asgT is e) s=match dU (am T cf e s) with | some (w,s')=>(match tO w with | some l=>(match iN is l s' with | some s2=>some (.next,s2) | none=>none) | none=>none) | none=>none:=rfl
theorem Aw {i j e1 e2 s}:bn T cf (.asgS i j e1 e2) s=match am T cf e1 s with | some (v1,s1)=>(match am T cf e2 s1 with | some (v2,s2)=>some (.next,(s2.put j v2).put i v1) | none=>none) | none=>none:=rfl
theorem jV {e s}:bn T cf (.exp e) s=match am T cf e s with | some (_,s')=>some (.next,s') | none=>none:=rfl
theorem jW {i e s}:bn T cf (.app i e) s=match bA s.loc i with | some u=>(match jd u with | some l=>(match dU (am T cf e (s.hide i)) with | some (w,s')=>(match iF s' i l [w] with | some s2=>some (.next,s2) | none=>none) | none=>none) | none=>match dN u with | some k=>(match gL (s.slo.get k) with | some _=>(match dU (am T cf e s) with | some (w,s')=>(match vK s' k [w] with | some s2=>some (.next,s2) | none=>none) | none=>none) | none=>none) | none=>none) | none=>none:=rfl
theorem oR {i e s}:bn T cf (.ext i e) s=match bA s.loc i with | some u=>(match jd u with | some l=>(match am T cf e (s.hide i) with | some (v,s')=>(match fy v with | some ws=>(match iF s' i l ws with | some s2=>some (.next,s2) | none=>none) | none=>none) | none=>none) | none=>none) | none=>none:=rfl
theorem D2 {i e s}:bn T cf (.hd0 i e) s=match dU (am T cf e s) with | some (w,s')=>some (.next,s'.put i (.hds [(w,[])])) | none=>none:=rfl
theorem D3 {i e s}:bn T cf (.hdA i e) s=match bA s.loc i with | some u=>(match lh u with | some l=>(match dU (am T cf e (s.hide i)) with | some (w,s')=>CL s' i l w | none=>none) | none=>none) | none=>none:=rfl
theorem D4 {i e s}:bn T cf (.hdX i e) s=match bA s.loc i with | some u=>(match lh u with | some l=>(match am T cf e (s.hide i) with | some (v,s')=>(match fy v with | some ws=>CM s' i l ws | none=>none) | none=>none) | none=>none) | none=>none:=rfl
theorem bB {t b o s}:bn T cf (.ifs t b o) s=match mY (am T cf t s) with | some (c,s')=>(match c with | true=>aL T cf b s' | false=>aL T cf o s') | none=>none:=rfl
theorem oS {h16_1 t b s}:bn T cf (.whl h16_1 t b) s=bt (λ s=>am T cf t s) (λ s=>aL T cf b s) iO s:=rfl
theorem fq {h17_1 i it b s}:bn T cf (.for_ h17_1 i it b) s=match dU (am T cf it s) with | some (w,s1)=>(match br w with | some l=>bV i (λ s=>aL T cf b s) l s1 | none=>none) | none=>none:=rfl
theorem aV {e s}:bn T cf (.ret e) s=match am T cf e s with | some (v,s')=>some (.ret v,s') | none=>none:=rfl
theorem Ax {s}:bn T cf .cont s=some (.cont,s):=rfl
theorem xI {u0}:bn T cf .bad u0=none:=rfl
theorem cJ {s}:aL T cf .nil s=some (.next,s):=rfl
theorem bv {a r s}:aL T cf (.cons a r) s=match bn T cf a s with | some (f,s')=>(match f with | .next=>aL T cf r s' | .cont=>some (.cont,s') | .ret v=>some (.ret v,s')) | none=>none:=rfl
end
theorem ak (T:gC) (cf:bP) (fv:V) (as:List V) (s:St):ki T cf fv as s=(match fv with | .w w=>(match w with | .bi b=>Ip b as s | .cls c=>gw T cf c as s | .fn f=>cf (.w (.fn f)) as s | _=>none) | .clo k cs=>cf (.clo k cs) as s | _=>none):=rfl
theorem cu (b:BI) (as:List V) (s:St):Ip b as s=(match pA b s.slo as with | some ws=>(match vC b ws with | some l=>some (.own l,s) | none=>(match vB b ws with | some w=>some (.w w,s) | none=>none)) | none=>none):=rfl
theorem a0 (b:BI) (s:ab) (as:List V):pA b s as=(match aZ as with | some ws=>some ws | none=>match b with | .len=>vJ s as | _=>none):=rfl
theorem eh (s:ab) (as:List V):vJ s as=(match ix as with | some v=>(match dN v with | some k=>(match gL (s.get k) with | some l=>some [.lst l] | none=>none) | none=>none) | none=>none):=rfl
theorem aq  (x0:V):mV x0=(match x0 with
 | .w w=>some w
 | .own l=>some (.lst l)
 | _=>none):=rfl
theorem aB  (x0:V):frz x0=(match x0 with
 | .own l=> .w (.lst l)
 | .hds l=> .w (iM l)
 | v=>v):=rfl
theorem bw (b:BI) (as:List W):vC b as=(match b with | .list=>(match ix as with | some w=>tO w | none=>none) | _=>none):=rfl
theorem bx (b:BI) (as:List W):vB b as=(match b with | .range=>vz as | b=>(match ix as with | some w=>vA b w | none=>none)):=rfl
theorem bJ (b:BI) (w:W):vA b w=(match b with | .len=>y1 w | .tuple=>(match py w with | some x=>some (.tup x) | none=>none) | .abs=>(match gG w with | some x=>some (.int x.natAbs) | none=>none) | .str=>(match gG w with | some x=>y2 x | none=>none) | .ord=>(match BE w with | some c=>some (.int c) | none=>none) | .chr=>(match gG w with | some c=>y3 c | none=>none) | _=>none):=rfl
theorem ci (w:W):y1 w=(match w with | .str x=>some (.int x.length) | .tup x=>some (.int x.length) | .lst x=>some (.int x.length) | _=>none):=rfl
theorem d8 (as:List W):vz as=(match ix as with | some w=>(match gG w with | some n=>some (.rng 0 n) | none=>none) | none=>match pz as with | some (v,w)=>(match gG v with | some a=>(match gG w with | some n=>some (.rng a n) | none=>none) | none=>none) | none=>none):=rfl
theorem i4 (x:Int):y2 x=(match decide (0<=x)&&decide (x < 10) with | true=>some (.str [48+x.toNat]) | false=>none):=rfl
theorem i5 (c:Int):y3 c=(match decide (0<=c)&&decide (c < 128) with | true=>some (.str [c.toNat]) | false=>none):=rfl
theorem aJ (op:CmpOp) (a b:W):gJ op a b=(match op with | .Eq=>BH a b | .NotEq=>BG (BH a b) | .Lt=>tR (λ x y=>decide (x < y)) BF a b | .LtE=>tR (λ x y=>decide (x<=y)) (λ x y=> !BF y x) a b | .Gt=>tP (λ x y=>decide (y < x)) a b | .GtE=>tP (λ x y=>decide (y<=x)) a b | .Is=>FV a b | .IsNot=>BG (FV a b) | .In=>BJ a b | .NotIn=>BG (BJ a b)):=rfl
theorem eU  (x0:Option Bool):BG x0=(match x0 with
 | some b=>some (!b)
 | none=>none):=rfl
theorem D5 (g:List Nat->List Nat->Bool) (a b:W):yX g a b=(match gH a with | some x=>(match gH b with | some y=>some (g x y) | none=>none) | none=>none):=rfl
theorem fC (f:Int->Int->Bool) (a b:W):tP f a b=(match gG a with | some x=>(match gG b with | some y=>some (f x y) | none=>none) | none=>none):=rfl
theorem gj (f:Int->Int->Bool) (g:List Nat->List Nat->Bool) (a b:W):tR f g a b=(match gG a with | some x=>(match gG b with | some y=>some (f x y) | none=>none) | none=>yX g a b):=rfl
theorem dj (a b:W):Fj a b=(match aC 40 a&&aC 40 b with | true=>some (gE a b) | false=>none):=rfl
theorem ce (a b:W):BH a b=(match gH a with | some x=>(match gH b with | some y=>some (x==y) | none=>Fj a b) | none=>Fj a b):=rfl
theorem xJ (a:W) (l:List W):tS a l=(match aS 8 l&&aC 8 a with | true=>some (l.any λ y=>gE y a) | false=>none):=rfl
theorem D6 (a:W) (l:List (List Nat×W)):CD a l=(match gH a with | some x=>some (gI x l).isSome | none=>none):=rfl
theorem hH (a b:W):BJ a b=(match gH b with | some y=>(match gH a with | some x=>some (subL x y) | none=>none) | none=>match tO b with | some l=>tS a l | none=>match py b with | some l=>tS a l | none=>match CB b with | some l=>CD a l | none=>none):=rfl
theorem cj (op:Operator) (a b:W):tT op a b=(match py a with | some x=>(match py b with | some y=>(match op with | .Add=>(match Nat.ble (x.length+y.length) cw with | true=>some (x++y) | false=>none) | _=>none) | none=>none) | none=>none):=rfl
theorem ck (op:Operator) (a b:W):iL op a b=(match op with | .Add=>(match gG a with | some x=>(match gG b with | some y=>some (.int (x+y)) | none=>none) | none=>yY a b) | .Sub=>kG (λ x y=>some (.int (x - y))) a b | .Mult=>kG yZ a b | .FloorDiv=>kG CE a b | .Mod=>kG y0 a b | .Pow=>kG vy a b | _=>none):=rfl
theorem oU (f:Int->Int->Option W) (a b:W):kG f a b=(match gG a with | some x=>(match gG b with | some y=>f x y | none=>none) | none=>none):=rfl
theorem gk (a b:W):yY a b=(match gH a with | some x=>(match gH b with | some y=>(match Nat.ble (x.length+y.length) cw with | true=>some (.str (x++y)) | false=>none) | none=>none) | none=>none):=rfl
theorem D7 (x y:Int):yZ x y=(match Nat.ble y.natAbs 2000000 with | true=>some (.int (x * y)) | false=>none):=rfl
theorem D8 (x y:Int):y0 x y=(match Nat.blt 0 y.natAbs with | true=>some (.int (Int.fmod x y)) | false=>none):=rfl
theorem xK (x y:Int):vy x y=(match decide (0<=y)&&Nat.ble (Builtin.Int.intBits x * y.toNat) 134217728 with | true=>some (.int (x ^ y.toNat)) | false=>none):=rfl
theorem aj (s:St) (i:Nat) (v:V):St.put s i v=({ s with loc:=aM s.loc i (some v) }):=rfl
theorem cK (s:St) (i:Nat):St.hide s i=({ s with loc:=aM s.loc i none }):=rfl
theorem gm (s:St) (k:Sl) (x:dy):St.sl s k x=({ s with slo:=s.slo.set k x }):=rfl
theorem bj (s:ab) (x0:Sl):ab.get s x0=(match x0 with
 | .bag=>s.bag | .rdr=>s.rdr | .cnd=>s.cnd | .tks=>s.tks | .tmp=>s.tmp):=rfl
theorem cA (s:ab) (x0:Sl) (x1:dy):ab.set s x0 x1=(match x0,x1 with
 | .bag,x=>⟨x,s.rdr,s.cnd,s.tks,s.tmp⟩
 | .rdr,x=>⟨s.bag,x,s.cnd,s.tks,s.tmp⟩
 | .cnd,x=>⟨s.bag,s.rdr,x,s.tks,s.tmp⟩
 | .tks,x=>⟨s.bag,s.rdr,s.cnd,x,s.tmp⟩
 | .tmp,x=>⟨s.bag,s.rdr,s.cnd,s.tks,x⟩):=rfl
theorem bq (s:ab) (x0:V):tU s x0=(match x0 with
 | .w w=>some w
 | .own l=>some (.lst l)
 | .slot k=>match gL (s.get k) with
   | some l=>some (.lst l)
   | none=>none
 | _=>none):=rfl
theorem ay (T:gC) (s:ab) (v:V) (a:Nat):eH T s v a=(match tV s v with | some x=>Io T a x | none=>none):=rfl
theorem a6 (s:ab) (v:V):tV s v=(match v with | .w w=>(match li w with | some (c,fs)=>some (.inst c fs) | none=>none) | .slot k=>(match s.get k with | .obj c fs=>some (.obj c fs) | .rdr _ _ nm=>some (.rdr nm) | _=>none) | _=>none):=rfl
theorem bN (T:gC) (a:Nat) (x:Fv):Im T a x=(match x with | .inst _ fs=>(match bW a fs with | some w=>some (.w w) | none=>none) | .obj _ fs=>bW a fs | .rdr nm=>(match Nat.beq a T.aNam with | true=>some (.w nm) | false=>none)):=rfl
theorem bI (T:gC) (x0:Fv):CI T x0=(match x0 with
 | .inst c _=>c
 | .obj c _=>c
 | .rdr _=>T.rdrC):=rfl
theorem bO (T:gC) (a:Nat) (x:Fv):Io T a x=(match T.isF (CI T x) a with | true=>Im T a x | false=>none):=rfl
theorem sZ  (x0:W):u9 x0=(match x0 with
 | .none=>true
 | _=>false):=rfl
theorem aT  (x0:W):CA x0=(match x0 with
 | .bool b=>some b
 | _=>none):=rfl
theorem aY  (x0:W):gG x0=(match x0 with
 | .int i=>some i
 | _=>none):=rfl
theorem a7  (x0:W):gH x0=(match x0 with
 | .str x=>some x
 | _=>none):=rfl
theorem gy  (x0:W):tO x0=(match x0 with
 | .tup l=>some l
 | _=>none):=rfl
theorem bQ  (x0:W):py x0=(match x0 with
 | .lst l=>some l
 | _=>none):=rfl
theorem GM  (x0:W):CB x0=(match x0 with
 | .dct l=>some l
 | _=>none):=rfl
theorem ky (w:W):BE w=(match gH w with | some [c]=>some c | _=>none):=rfl
theorem be {α:Type}(x0:List α):ix x0=(match x0 with
 | [a]=>some a
 | _=>none):=rfl
theorem hK {α:Type}(x0:List α):pz x0=(match x0 with
 | [a,b]=>some (a,b)
 | _=>none):=rfl
theorem cR  (x0:V):dN x0=(match x0 with
 | .slot k=>some k
 | _=>none):=rfl
theorem dH  (x0:V):jd x0=(match x0 with
 | .own l=>some l
 | _=>none):=rfl
theorem td  (x0:V):lh x0=(match x0 with
 | .hds l=>some l
 | _=>none):=rfl
theorem aF  (x0:W):li x0=(match x0 with
 | .inst c fs=>some (c,fs)
 | _=>none):=rfl
theorem im  (x0:dy):gv x0=(match x0 with
 | .absent=>true
 | _=>false):=rfl
theorem eA  (x0:dy):gL x0=(match x0 with
 | .list l=>some l
 | _=>none):=rfl
theorem kV  (x0:dy):mW x0=(match x0 with
 | .obj c fs=>some (c,fs)
 | _=>none):=rfl
theorem au (o:Option (V×St)):dU o=(match o with | some (v,s)=>(match mV v with | some w=>some (w,s) | none=>none) | none=>none):=rfl
theorem aU (o:Option (V×St)):mY o=(match dU o with | some (w,s)=>(match CA w with | some b=>some (b,s) | none=>none) | none=>none):=rfl
theorem te (o:Option (V×St)):Il o=(match dU o with | some (w,s)=>(match u9 w with | true=>some s | false=>none) | none=>none):=rfl
theorem af (l:List (Option V)) (i:Nat):bA l i=(match ax l i with | some o=>o | none=>none):=rfl
theorem fD {α:Type}(x0:Option α):CH x0=(match x0 with
 | none=>true
 | some _=>false):=rfl
theorem dB (l:List (Option V)) (i:Nat):dI l i=(match ax l i with | some o=>CH o | none=>false):=rfl
theorem ah (s:St) (i:Nat) (v:V):pB s i v=(match v with | .own l=>(.w (.lst l),s.put i (.w (.lst l))) | .hds l=>(.w (iM l),s.put i (.w (iM l))) | v=>(v,s)):=rfl
theorem D9 (s:St) (i:Nat) (l:List (W×List W)) (w:W):CL s i l w=(match dI s.loc i&&Nat.blt l.length cw with | true=>some (.next,s.put i (.hds (l++[(w,[])]))) | false=>none):=rfl
theorem Ea (s:St) (i:Nat) (l:List (W×List W)) (ws:List W):CM s i l ws=(match dI s.loc i with | true=>(match fx l ws with | some l'=>some (.next,s.put i (.hds l')) | none=>none) | false=>none):=rfl
theorem xL  (x0:W):y4 x0=(match x0 with
 | .fn f=>some f
 | _=>none):=rfl
theorem B4 (f:Fl):fL f=(match f with | .ret v=>some v | .next=>some (.w .none) | .cont=>none):=rfl
end Mine
end
section
open PySem PySem.W PySem.Calls PyProof.Rows
namespace Mine
noncomputable def Eb (T:gC) (gl:Nat):Fd:=⟨2,[.int 0],2,[],
 (.cons (.ifs (.cmp false (.bin false .Add (.att (.var 0) T.aAt) (.var 1)) .Lt (.call false (.glo gl) (.cons (.att (.var 0) T.aTok) .nil))) (.cons (.ret (.sub false (.att (.var 0) T.aTok) (.bin false .Add (.att (.var 0) T.aAt) (.var 1)))) .nil) .nil)
 (.cons (.ret (.cst .none)) .nil))⟩
noncomputable def Ec (T:gC) (gl:Nat):Fd:=⟨1,[],1,[],
 (.cons (.ret (.cmp false (.att (.var 0) T.aAt) .GtE (.call false (.glo gl) (.cons (.att (.var 0) T.aTok) .nil)))) .nil)⟩
theorem Ay (s:ab) (k:Sl):s.set k (s.get k)=s:=by cases k<;>rfl
theorem jv {α:Type}(l:List α) (n:Nat):ax l n=l[n]?:=by
 induction l generalizing n with
 | nil=>rfl
 | cons a l ih=>cases n with
   | zero=>rfl
   | succ n=>exact (ih n).trans List.getElem?_cons_succ.symm
theorem Az {d:List W}(q:List W) (n:Nat):(d++q)[d.length+n]?=ax q n:=by
 rw [List.getElem?_append_right (Ru _ _),Nat.add_sub_cancel_left,jv]
structure GN (X:Cx) (gl:Nat):Prop where
 len:X.T.gval gl=some (.bi .len)
 fT:X.T.isF X.T.rdrC X.T.aTok=true
inductive mQ (X:Cx) (d0:Fd) (a:Addr):Prop
 | mk {fd:FuncData} {o:Obj} {c:Addr} {b:List Stmt} {ds:List Value} {nm:List Str}:X.base a=some o->o.data= .func fd->GB X d0 fd c b ds nm->Al X (some (c,fd.qualname ++ ".<locals>.")) fd.scope.names nm d0.body b->mQ X d0 a
structure mt (X:Cx) (gl:Nat):Prop where
 rd:GN X gl
 fns: ∀ f d0,X.T.fn f=some d0->mQ X d0 (X.fnA f)
 pk:mQ X (Eb X.T gl) (X.fnA X.T.peek)
 dn:mQ X (Ec X.T gl) (X.fnA X.T.done)
section
variable {X:Cx}{LP:bu}{F F':PM}{r r':PS}{R:List aK}{env:Env}{nm:List Str}{sc:Sc}{cd:Option (Addr×Str)}{lc:List (Option V)}{sl:ab}{d:Nat}{h h':Heap}{cf:bP}{gl:Nat}
theorem oX (C:bM X) {f:Nat}{d0:Fd}(h:mQ X d0 (X.fnA f)) (hcf:fz X d cf) {as:List V}{bs:List (Option V)}{Vo:V}{fl:Fl}{s':St}{sl':ab}(hb:pD as d0.np d0.dfl=some bs) (ha:gM sl d0.mks=true)
   (hr:aL X.T cf d0.body ⟨bs++List.replicate (d0.nv - d0.np) none,sl⟩=some (fl,s')) (hfl:fL fl=some Vo) (hlv:dl d0.mks Vo s'.slo=some sl'):dZ X (cD X) (d+1) (.w (.fn f)) as sl Vo sl':=by
 cases h with | mk h1 h2 h3 h4=>exact z8 C h3 h1 h2 hb ha (λ env K=>h4 d cf hcf env K _ _ _ hr) hfl hlv
noncomputable def iB:bP:=λ _ _ _=>none
theorem ti:fz X d iB:=λ _ _ _ _ _ h=>nn h
variable {k:Sl}{dn q:List W}{nmw w:W}{s:ab}
noncomputable abbrev qv (X:Cx) (dn q:List W) (nmw:W):dy:= .obj X.T.rdrC (dW X.T dn q nmw)
section
variable (C:bM X) (P:GN X gl) (hk:s.get k=qv X dn q nmw) {l:List (Option V)}
include C hk
theorem B5:am X.T cf (.att (.var 0) X.T.aAt) ⟨some (.slot k)::l,s⟩=some (.w (.int dn.length),⟨some (.slot k)::l,s⟩):=by
 have b1:Nat.beq X.T.aAt X.T.aTok=false:=by rw [zh];exact beq_eq_false_iff_ne.mpr C.rdrD.2.2
 show (match eH X.T s (.slot k) X.T.aAt with | some v=>some (v,(⟨some (.slot k)::l,s⟩:St)) | none=>none)=_
 simp only [ay,a6,hk,bO,bI,bN,C.rdrF,dW,bW,b1,Nat.beq_refl]
omit C in
include P in
theorem xM:am X.T cf (.att (.var 0) X.T.aTok) ⟨some (.slot k)::l,s⟩=some (.w (.lst (dn.reverse++q)),⟨some (.slot k)::l,s⟩):=by
 show (match eH X.T s (.slot k) X.T.aTok with | some v=>some (v,(⟨some (.slot k)::l,s⟩:St)) | none=>none)=_
 simp only [ay,a6,hk,bO,bI,bN,P.fT,dW,bW,Nat.beq_refl]
omit C in
include P in
theorem xN:am X.T cf (.call false (.glo gl) (.cons (.att (.var 0) X.T.aTok) .nil)) ⟨some (.slot k)::l,s⟩=some (.w (.int ((dn.length+q.length:Nat):Int)),⟨some (.slot k)::l,s⟩):=by
 have e:am X.T cf (.glo gl) ⟨some (.slot k)::l,s⟩=some (.w (.bi .len),⟨some (.slot k)::l,s⟩):=by
   show (match X.T.gval gl with | some w=>some (V.w w,(⟨some (.slot k)::l,s⟩:St)) | none=>none)=_
   rw [P.len]
 show (match am X.T cf (.glo gl) ⟨some (.slot k)::l,s⟩ with | some (fv,s1)=>(match dA X.T cf (.cons (.att (.var 0) X.T.aTok) .nil) s1 with | some (vs,s2)=>ki X.T cf fv vs s2 | none=>none) | none=>none)=_
 rw [e]
 show (match (match am X.T cf (.att (.var 0) X.T.aTok) ⟨some (.slot k)::l,s⟩ with | some (v,s1)=>some ([frz v],s1) | none=>none) with | some (vs,s2)=>ki X.T cf (.w (.bi .len)) vs s2 | none=>none)=_
 rw [xM P hk,<- List.length_reverse (as:=dn),<- List.length_append]
 rfl
theorem xO (n:Nat):am X.T cf (.bin false .Add (.att (.var 0) X.T.aAt) (.var 1)) ⟨some (.slot k)::some (.w (.int n))::l,s⟩=some (.w (.int ((dn.length+n:Nat):Int)),⟨some (.slot k)::some (.w (.int n))::l,s⟩):=by
 show (match dU (am X.T cf (.att (.var 0) X.T.aAt) ⟨some (.slot k)::some (.w (.int n))::l,s⟩) with | some (x,s1)=>(match dU (am X.T cf (.var 1) s1) with | some (y,s2)=>(match tT .Add x y with | some z=>some (V.own z,s2) | none=>(match iL .Add x y with | some z=>some (V.w z,s2) | none=>none)) | none=>none) | none=>none)=_
 rw [B5 C hk]
 rfl
include P in
theorem Ed (n:Nat):aL X.T iB (Eb X.T gl).body ⟨[some (.slot k),some (.w (.int n))],s⟩=some (.ret (.w (CN q n)),⟨[some (.slot k),some (.w (.int n))],s⟩):=by
 have e:am X.T iB (.cmp false (.bin false .Add (.att (.var 0) X.T.aAt) (.var 1)) .Lt (.call false (.glo gl) (.cons (.att (.var 0) X.T.aTok) .nil))) ⟨[some (.slot k),some (.w (.int n))],s⟩=some (.w (.bool (decide (((dn.length+n:Nat):Int) < ((dn.length+q.length:Nat):Int)))),⟨[some (.slot k),some (.w (.int n))],s⟩):=by
   rw [aI,xO C hk]
   show (match dU (am X.T iB (.call false (.glo gl) (.cons (.att (.var 0) X.T.aTok) .nil)) ⟨[some (.slot k),some (.w (.int n))],s⟩) with | some (y,s2)=>(match gJ .Lt (.int ((dn.length+n:Nat):Int)) y with | some z=>some (V.w (.bool z),s2) | none=>none) | none=>none)=_
   rw [xN P hk]
   rfl
 have hd:=Az (d:=dn.reverse) q n
 rw [List.length_reverse] at hd
 show (match bn X.T iB (.ifs _ _ _) ⟨[some (.slot k),some (.w (.int n))],s⟩ with | some (f,s')=>(match f with | .next=>aL X.T iB (.cons (.ret (.cst .none)) .nil) s' | .cont=>some (.cont,s') | .ret v=>some (.ret v,s')) | none=>none)=_
 rw [bB,e]
 by_cases hn:n < q.length
 · rw [decide_eq_true (Int.ofNat_lt.mpr (Nat.add_lt_add_left hn _))]
   have eg:am X.T iB (.sub false (.att (.var 0) X.T.aTok) (.bin false .Add (.att (.var 0) X.T.aAt) (.var 1))) ⟨[some (.slot k),some (.w (.int n))],s⟩=some (.w (CN q n),⟨[some (.slot k),some (.w (.int n))],s⟩):=by
     rw [bc,xM P hk]
     show (match dU (am X.T iB (.bin false .Add (.att (.var 0) X.T.aAt) (.var 1)) ⟨[some (.slot k),some (.w (.int n))],s⟩) with | some (y,s2)=>(match tU s2.slo (.w (.lst (dn.reverse++q))) with | some x=>(match dz x y with | some z=>some (V.w z,s2) | none=>none) | none=>none) | none=>none)=_
     rw [xO C hk]
     show (match (match (match Nat.blt (dn.length+n) (dn.reverse++q).length with | true=>some (dn.length+n) | false=>none) with | some k=>(dn.reverse++q)[k]? | none=>none) with | some z=>some (V.w z,(⟨[some (.slot k),some (.w (.int n))],s⟩:St)) | none=>none)=_
     rw [show Nat.blt (dn.length+n) (dn.reverse++q).length=true from Rp (by rw [List.length_append,List.length_reverse];exact Nat.add_lt_add_left hn _)]
     show (match (dn.reverse++q)[dn.length+n]? with | some z=>some (V.w z,(⟨[some (.slot k),some (.w (.int n))],s⟩:St)) | none=>none)=_
     rw [hd,jv,List.getElem?_eq_getElem hn,CN,jv,List.getElem?_eq_getElem hn]
   show (match (match (match am X.T iB (.sub false (.att (.var 0) X.T.aTok) (.bin false .Add (.att (.var 0) X.T.aAt) (.var 1))) ⟨[some (.slot k),some (.w (.int n))],s⟩ with | some (v,s')=>some (Fl.ret v,s') | none=>none) with | some (f,s')=>(match f with | .next=>aL X.T iB .nil s' | .cont=>some (.cont,s') | .ret v=>some (.ret v,s')) | none=>none) with | some (f,s')=>(match f with | .next=>aL X.T iB (.cons (.ret (.cst .none)) .nil) s' | .cont=>some (.cont,s') | .ret v=>some (.ret v,s')) | none=>none)=_
   rw [eg]
 · rw [decide_eq_false (λ c=>hn (Nat.lt_of_add_lt_add_left (Int.ofNat_lt.mp c))),CN,jv,List.getElem?_eq_none (Ry hn)]
   rfl
include P in
theorem Ee:aL X.T iB (Ec X.T gl).body ⟨[some (.slot k)],s⟩=some (.ret (.w (.bool q.isEmpty)),⟨[some (.slot k)],s⟩):=by
 have e:am X.T iB (.cmp false (.att (.var 0) X.T.aAt) .GtE (.call false (.glo gl) (.cons (.att (.var 0) X.T.aTok) .nil))) ⟨[some (.slot k)],s⟩=some (.w (.bool (decide (((dn.length+q.length:Nat):Int)<=(dn.length:Int)))),⟨[some (.slot k)],s⟩):=by
   rw [aI,B5 C hk]
   show (match dU (am X.T iB (.call false (.glo gl) (.cons (.att (.var 0) X.T.aTok) .nil)) ⟨[some (.slot k)],s⟩) with | some (y,s2)=>(match gJ .GtE (.int dn.length) y with | some z=>some (V.w (.bool z),s2) | none=>none) | none=>none)=_
   rw [xN P hk]
   rfl
 have z:decide (((dn.length+q.length:Nat):Int)<=(dn.length:Int))=q.isEmpty:=by
   cases q with
   | nil=>exact decide_eq_true (Int.le_refl _)
   | cons a q=>exact decide_eq_false λ c=>Nat.not_succ_le_self _ (Rl (Nat.add_le_add_left (Rv 1 q.length) dn.length) (Int.ofNat_le.mp c))
 rw [z] at e
 show (match (match am X.T iB (.cmp false (.att (.var 0) X.T.aAt) .GtE (.call false (.glo gl) (.cons (.att (.var 0) X.T.aTok) .nil))) ⟨[some (.slot k)],s⟩ with | some (v,s')=>some (Fl.ret v,s') | none=>none) with | some (f,s')=>(match f with | .next=>aL X.T iB .nil s' | .cont=>some (.cont,s') | .ret v=>some (.ret v,s')) | none=>none)=_
 rw [e]
end
theorem Ef (C:bM X) (H:HC X LP F r sl R h) (hk:sl.get k= .rdr dn q nmw) {x:Addr}(hr:r k=some x):HC X LP F r (sl.set k (qv X dn q nmw)) R h :=
 H.slotAs hr λ T t=>oK C (show rt X LP F r dn q nmw (some x) T by rw [hk] at t;exact t)
theorem Eg (H:HC X LP F r (sl.set k (qv X dn q nmw)) R h) (hk:sl.get k= .rdr dn q nmw) {x:Addr}(hr:r k=some x):HC X LP F r sl R h:=by
 have:=H.slotAs (x:= .rdr dn q nmw) hr λ T t=>by
   rw [fh] at t
   exact oM t
 rw [js,<- hk,Ay] at this
 exact this
theorem nG (C:bM X) {f:V}{as:List V}(hk:sl.get k= .rdr dn q nmw) (hc:dZ X LP d f (.slot k::as) (sl.set k (qv X dn q nmw)) (.w w) (sl.set k (qv X dn q nmw))):dZ X LP d f (.slot k::as) sl (.w w) sl:=λ A F r R s vf vs hA H tf ts=>by
 cases ts with | mk a b=> ?_
 cases a with | mk hr=> ?_
 refine codeAny_mono (hc A F r R s vf _ hA (Ef C H hk hr) tf (.cons (.slot hr) b)) λ ft s' z=> ?_
 cases z with | mk v e F1 r1 T l1 q1 H1 t1 m1=>exact ⟨v,e,F1,r1,T,l1,q1,Eg H1 hk (q1 _ _ hr),t1,m1⟩
theorem qw {v:V}{q:List W}(e:pE sl v=some q) {Q:Prop}(K: ∀ k dn nmw,v= .slot k->sl.get k= .rdr dn q nmw->Q):Q :=
 y5 e λ k hk e=>CR e λ dn q' nmw hr e=>K k dn nmw (dM hk) (sj e▸lx hr)
theorem AA (C:bM X) (P:mt X gl) {as:List V}{w:W}(e:vL sl as=some w):dZ X (cD X) (d+1) (.w (.fn X.T.peek)) as sl (.w w) sl:=by
 have go: ∀ {v:V} {q:List W} (n:Nat) (as:List V),pE sl v=some q->pD (v::as) 2 [.int 0]=some [some v,some (.w (.int n))]->dZ X (cD X) (d+1) (.w (.fn X.T.peek)) (v::as) sl (.w (CN q n)) sl:=λ n as hv hb =>
   qw hv λ k dn nmw e hk=>by
     subst e
     exact nG C hk (oX C P.pk ti (fl:= .ret (.w _)) (s':=⟨_,_⟩) hb rfl (Ed C P.rd (fh _ _ _) n) rfl rfl)
 unfold vL at e
 cases h1:ix as with
 | some v =>
   rw [h1] at e
   rw [fU h1]
   exact oL e λ q hq e=>sj e▸go 0 [] hq rfl
 | none =>
   rw [h1] at e
   cases h2:pz as with
   | none=>rw [h2] at e;exact nn e
   | some p =>
     obtain ⟨v,u⟩:=p
     rw [h2] at e
     rw [kL h2]
     exact oL e λ q hq e=>oW e λ y hy e=>oN e λ n hn e=>by
       cases Ga hy
       cases ll hn
       exact sj e▸go n [_] hq rfl
theorem AB (C:bM X) (P:mt X gl) {as:List V}{w:W}(e:BL sl as=some w):dZ X (cD X) (d+1) (.w (.fn X.T.done)) as sl (.w w) sl :=
 oV e λ v h1 e=>oL e λ q hq e=>qw hq λ k dn nmw ev hk=>by
   cases sj e
   rw [fU h1,ev]
   exact nG C hk (oX C P.dn ti (bs:=[some (.slot k)]) (fl:= .ret (.w _)) (s':=⟨_,_⟩) rfl rfl (Ee C P.rd (fh _ _ _)) rfl rfl)
theorem xP (C:bM X) (P:mt X gl) (hcf:fz X d cf) {i:Nat}{as:List V}{s s':St}{v:V}(h:pF X.T cf i as s=some (v,s')):mo X (d+1) (.w (.fn i)) as s v s':=by
 unfold pF at h
 cases hp:Nat.beq i X.T.peek with
 | true =>
   rw [hp] at h
   cases Rq hp
   exact oW h λ w hw h=>cS (P:=λ v s'=>mo X (d+1) (.w (.fn X.T.peek)) as s v s') h ⟨rfl,AA C P hw⟩
 | false =>
   rw [hp] at h
   cases hd:Nat.beq i X.T.done with
   | true =>
     rw [hd] at h
     cases Rq hd
     exact oW h λ w hw h=>cS (P:=λ v s'=>mo X (d+1) (.w (.fn X.T.done)) as s v s') h ⟨rfl,AB C P hw⟩
   | false =>
     rw [hd] at h
     exact Nz h λ d0 hd0 h=>Fk h λ bs hb h=>oT h λ ha h=>Ir h λ fl s2 hr h=>oV h λ v' hf h=>I1 h λ sl' hlv h=>cS (P:=λ v s'=>mo X (d+1) (.w (.fn i)) as s v s') h ⟨rfl,oX C (P.fns _ _ hd0) hcf hb ha hr hf hlv⟩
theorem mu (C:bM X) (P:mt X gl): ∀ d,fz X d (aa X.T d)
 | 0=>λ f as s v s' h=>nn h
 | d+1=>λ f as s v s' h=>by
   cases f with
   | w w=>exact oN h λ i hi h=>y9 hi▸xP C P (mu C P d) h
   | clo k cs=>exact NA h λ ld hld h=>xG C (mu C P d) hld h
   | _=>exact nn h
end
end Mine
end
section
set_option backward.match.sparseCases false
open PySem PySem.W PySem.Calls PyProof.Rows
namespace Mine
inductive Ck (p:Prop):Type
 | yes (h:p)
 | no
namespace Ck
variable {p q:Prop}
noncomputable section
noncomputable def ok:Ck p->Bool
 | .yes _=>true
 | .no=>false
theorem get:(c:Ck p)->c.ok=true->p
 | .yes h,_=>h
noncomputable def t (c:Ck p) (f:p->Ck q):Ck q:=match c with
 | .yes h=>f h
 | .no=> .no
noncomputable def m (c:Ck p) (f:p->q):Ck q:=c.t λ h=> .yes (f h)
noncomputable def b (x:Bool):Ck (x=true):=match x with
 | true=> .yes rfl
 | false=> .no
noncomputable def f (x:Bool):Ck (x=false):=match x with
 | false=> .yes rfl
 | true=> .no
noncomputable def d (p:Prop) [Decidable p]:Ck p:=(b (decide p)).m of_decide_eq_true
noncomputable def le (m n:Nat):Ck (m<=n):=(b (Nat.ble m n)).m Rm
noncomputable def lt (m n:Nat):Ck (m < n):=(b (Nat.blt m n)).m Rm
noncomputable def eq (m n:Nat):Ck (m=n):=(b (Nat.beq m n)).m Rq
noncomputable def ls {α:Type}(e:(x y:α)->Ck (x=y)):(a b:List α)->Ck (a=b)
 | [],b=>match b with | []=> .yes rfl | _::_=> .no
 | x::a,b=>match b with | []=> .no | y::b=>(e x y).t λ h=>(ls e a b).m λ k=>h▸k▸rfl
noncomputable def s (a b:Str):Ck (a=b):=(ls eq a.cps.toList b.cps.toList).m λ e=>congrArg (λ l=>(⟨⟨l⟩⟩:Str)) e
noncomputable def po:(a b:Pos)->Ck (a=b)
 | ⟨a,b,c,d⟩,⟨a',b',c',d'⟩=>(eq a a').t λ h1=>(eq b b').t λ h2=>(eq c c').t λ h3=>(eq d d').m λ h4=>h1▸h2▸h3▸h4▸rfl
noncomputable def Iw:(nm:List Str)->(i:Nat)->(x:Str)->Ck (nm[i]?=some x)
 | [],_,_=> .no
 | y::r,i,x=>match i with | 0=>(s y x).m λ e=>congrArg some e | i+1=>Iw r i x
noncomputable def lu (x:Str) (k:NameKind):(sc:Sc)->Ck (sc.lookup x=some k)
 | []=> .no
 | (y,k')::r=>match h:(x==y) with
   | true=>(d (k'=k)).m λ e=>by rw [List.lookup_cons,h,e]
   | false=>(lu x k r).m λ e=>by rw [List.lookup_cons,h];exact e
end
end Ck
open Ck
noncomputable section
structure EK (P:Expr->Prop) where
 cst: ∀ c n p,Ck (P (.Constant c n p))
 name: ∀ x p,Ck (P (.Name x p))
 un: ∀ o x p,Ck (P (.UnaryOp o x p))
 tup: ∀ xs n p,Ck (P (.Tuple xs n p))
 lst: ∀ xs p,Ck (P (.List xs p))
 bin: ∀ x o y p,Ck (P (.BinOp x o y p))
 ife: ∀ x y w p,Ck (P (.IfExp x y w p))
 bop: ∀ o xs p,Ck (P (.BoolOp o xs p))
 cmp: ∀ x os ys p,Ck (P (.Compare x os ys p))
 call: ∀ x xs kw p,Ck (P (.Call x xs kw p))
 att: ∀ x n p,Ck (P (.Attribute x n p))
 sub: ∀ x y p,Ck (P (.Subscript x y p))
 slc: ∀ x y o p,Ck (P (.Slice x y o p))
 dct: ∀ ks xs p,Ck (P (.Dict ks xs p))
 lam: ∀ a x s p,Ck (P (.Lambda a x s p))
 com: ∀ x gs s p,Ck (P (.ListComp x gs s p))
noncomputable def qZ (P:Expr->Prop):EK P:=⟨λ _ _ _=> .no,λ _ _=> .no,λ _ _ _=> .no,λ _ _ _=> .no,λ _ _=> .no,λ _ _ _ _=> .no,λ _ _ _ _=> .no,λ _ _ _=> .no,λ _ _ _ _=> .no,λ _ _ _ _=> .no,λ _ _ _=> .no,λ _ _ _=> .no,λ _ _ _ _=> .no,λ _ _ _=> .no,λ _ _ _ _=> .no,λ _ _ _ _=> .no⟩
noncomputable def iC {P:Expr->Prop}(z:Expr) (K:EK P):Ck (P z):=match z with
 | .Constant c n p=>K.cst c n p
 | .Name x p=>K.name x p
 | .UnaryOp o x p=>K.un o x p
 | .Tuple xs n p=>K.tup xs n p
 | .List xs p=>K.lst xs p
 | .BinOp x o y p=>K.bin x o y p
 | .IfExp x y w p=>K.ife x y w p
 | .BoolOp o xs p=>K.bop o xs p
 | .Compare x os ys p=>K.cmp x os ys p
 | .Call x xs kw p=>K.call x xs kw p
 | .Attribute x n p=>K.att x n p
 | .Subscript x y p=>K.sub x y p
 | .Slice x y o p=>K.slc x y o p
 | .Dict ks xs p=>K.dct ks xs p
 | .Lambda a x s p=>K.lam a x s p
 | .ListComp x gs s p=>K.com x gs s p
 | _=> .no
structure SK (R:Stmt->Prop) where
 asg: ∀ xs y p,Ck (R (.Assign xs y p))
 exp: ∀ y p,Ck (R (.Expr y p))
 ifs: ∀ x y w p,Ck (R (.If x y w p))
 whl: ∀ x y w p,Ck (R (.While x y w p))
 for_: ∀ x y w o p,Ck (R (.For x y w o p))
 ret: ∀ y p,Ck (R (.Return y p))
 con: ∀ p,Ck (R (.Continue p))
noncomputable def Eh (R:Stmt->Prop):SK R:=⟨λ _ _ _=> .no,λ _ _=> .no,λ _ _ _ _=> .no,λ _ _ _ _=> .no,λ _ _ _ _ _=> .no,λ _ _=> .no,λ _=> .no⟩
noncomputable def rP {R:Stmt->Prop}(z:Stmt) (K:SK R):Ck (R z):=match z with
 | .Assign xs y p=>K.asg xs y p
 | .Expr y p=>K.exp y p
 | .If x y w p=>K.ifs x y w p
 | .While x y w p=>K.whl x y w p
 | .For x y w o p=>K.for_ x y w o p
 | .Return y p=>K.ret y p
 | .Continue p=>K.con p
 | _=> .no
section
variable {α:Type}{Q:List α->Prop}{P:Expr->Prop}{R:Stmt->Prop}{O:Option Expr->Prop}
noncomputable def ve (l:List α) (k:Ck (Q [])):Ck (Q l):=match l with
 | []=>k
 | _::_=> .no
noncomputable def B6 (l:List α) (k: ∀ x r,Ck (Q (x::r))):Ck (Q l):=match l with
 | []=> .no
 | x::r=>k x r
noncomputable def vg (l:List α) (k: ∀ x,Ck (Q [x])):Ck (Q l):=B6 l λ x r=>ve (Q:=λ r=>Q (x::r)) r (k x)
noncomputable def B7 (l:List α) (k: ∀ x y,Ck (Q [x,y])):Ck (Q l):=B6 l λ x r=>vg (Q:=λ r=>Q (x::r)) r (k x)
noncomputable def NH (o:Option Expr) (k:Ck (O none)):Ck (O o):=match o with
 | none=>k
 | some _=> .no
noncomputable def uI (z:Expr) (k: ∀ c n p,Ck (P (.Constant c n p))):Ck (P z):=iC z { qZ P with cst:=k }
noncomputable def cO (z:Expr) (k: ∀ x p,Ck (P (.Name x p))):Ck (P z):=iC z { qZ P with name:=k }
noncomputable def Jg (z:Expr) (k: ∀ o x p,Ck (P (.UnaryOp o x p))):Ck (P z):=iC z { qZ P with un:=k }
noncomputable def rQ (z:Expr) (k: ∀ xs n p,Ck (P (.Tuple xs n p))):Ck (P z):=iC z { qZ P with tup:=k }
noncomputable def AC (z:Expr) (k: ∀ xs p,Ck (P (.List xs p))):Ck (P z):=iC z { qZ P with lst:=k }
noncomputable def Ei (z:Expr) (k: ∀ x o y p,Ck (P (.BinOp x o y p))):Ck (P z):=iC z { qZ P with bin:=k }
noncomputable def Jh (z:Expr) (k: ∀ x y w p,Ck (P (.IfExp x y w p))):Ck (P z):=iC z { qZ P with ife:=k }
noncomputable def Ji (z:Expr) (k: ∀ o xs p,Ck (P (.BoolOp o xs p))):Ck (P z):=iC z { qZ P with bop:=k }
noncomputable def Ej (z:Expr) (k: ∀ x os ys p,Ck (P (.Compare x os ys p))):Ck (P z):=iC z { qZ P with cmp:=k }
noncomputable def kz (z:Expr) (k: ∀ x xs p,Ck (P (.Call x xs [] p))):Ck (P z):=iC z { qZ P with call:=λ x xs kw p=>ve (Q:=λ kw=>P (.Call x xs kw p)) kw (k x xs p) }
noncomputable def oY (z:Expr) (k: ∀ x n p,Ck (P (.Attribute x n p))):Ck (P z):=iC z { qZ P with att:=k }
noncomputable def xQ (z:Expr) (k: ∀ x y p,Ck (P (.Subscript x y p))):Ck (P z):=iC z { qZ P with sub:=k }
noncomputable def Jj (z:Expr) (k: ∀ x y p,Ck (P (.Slice x y none p))):Ck (P z):=iC z { qZ P with slc:=λ x y o p=>NH (O:=λ o=>P (.Slice x y o p)) o (k x y p) }
noncomputable def Jk (z:Expr) (k: ∀ ks xs p,Ck (P (.Dict ks xs p))):Ck (P z):=iC z { qZ P with dct:=k }
noncomputable def Jl (z:Expr) (k: ∀ a x s p,Ck (P (.Lambda a x s p))):Ck (P z):=iC z { qZ P with lam:=k }
noncomputable def Jm (z:Expr) (k: ∀ x t y ifs s p,Ck (P (.ListComp x [⟨t,y,ifs,0⟩] s p))):Ck (P z):=iC z { qZ P with com:=λ x gs s p=>vg (Q:=λ gs=>P (.ListComp x gs s p)) gs λ g=>match g with
   | ⟨t,y,ifs,a⟩=>(d (a=0)).t λ h=>(k x t y ifs s p).m λ q=>by rw [h];exact q }
noncomputable def AD (z:Expr) (x:List Nat) (k: ∀ n p,Ck (P (.Constant (.str (ae x)) n p))):Ck (P z):=uI z λ c n p=>match c with
 | .str y=>(s y (ae x)).t λ h=>(k n p).m λ q=>by rw [h];exact q
 | _=> .no
noncomputable def GO (z:Expr) (k: ∀ n p p',Ck (P (.UnaryOp .USub (.Constant (.int 1) n p) p'))):Ck (P z):=Jg z λ o x p'=>match o with
 | .USub=>uI (P:=λ x=>P (.UnaryOp .USub x p')) x λ c n p=>match c with
   | .int i=>(d (i=1)).t λ h=>(k n p p').m λ q=>by rw [h];exact q
   | _=> .no
 | _=> .no
noncomputable def oZ (z:Stmt) (k: ∀ x y p,Ck (R (.Assign [x] y p))):Ck (R z):=rP z { Eh R with asg:=λ xs y p=>vg (Q:=λ xs=>R (.Assign xs y p)) xs λ x=>k x y p }
noncomputable def GP (z:Stmt) (k: ∀ y p,Ck (R (.Expr y p))):Ck (R z):=rP z { Eh R with exp:=k }
noncomputable def NI (z:Stmt) (k: ∀ x y w p,Ck (R (.If x y w p))):Ck (R z):=rP z { Eh R with ifs:=k }
noncomputable def Jn (z:Stmt) (k: ∀ x y p,Ck (R (.While x y [] p))):Ck (R z):=rP z { Eh R with whl:=λ x y w p=>ve (Q:=λ w=>R (.While x y w p)) w (k x y p) }
noncomputable def Jo (z:Stmt) (k: ∀ x y w p,Ck (R (.For x y w [] p))):Ck (R z):=rP z { Eh R with for_:=λ x y w o p=>ve (Q:=λ o=>R (.For x y w o p)) o (k x y w p) }
noncomputable def Jp (z:Stmt) (k: ∀ y p,Ck (R (.Return y p))):Ck (R z):=rP z { Eh R with ret:=k }
noncomputable def Jq (z:Stmt) (k: ∀ p,Ck (R (.Continue p))):Ck (R z):=rP z { Eh R with con:=k }
noncomputable def AE (z:Stmt) (n:Str) (k: ∀ x ap y p' p,ap.endLine=p'.line->Ck (R (.Expr (.Call (.Attribute x n ap) [y] [] p') p))):Ck (R z) :=
 GP z λ e p=>kz (P:=λ e=>R (.Expr e p)) e λ g xs p'=>oY (P:=λ g=>R (.Expr (.Call g xs [] p') p)) g λ x m ap=>vg (Q:=λ xs=>R (.Expr (.Call (.Attribute x m ap) xs [] p') p)) xs λ y =>
   (s m n).t λ h=>(eq ap.endLine p'.line).t λ h'=>(k x ap y p' p h').m λ q=>by rw [h];exact q
end
noncomputable def GQ:(ks:List (List Nat))->(kx:List (Option Expr))->Ck (MK ks kx)
 | [],kx=>ve (Q:=λ kx=>MK [] kx) kx (.yes rfl)
 | k::ks,kx=>B6 (Q:=λ kx=>MK (k::ks) kx) kx λ x r=>match x with
   | none=> .no
   | some x=>AD (P:=λ x=>MK (k::ks) (some x::r)) x k λ c p=>(le k.length cw).t λ l=>(GQ ks r).m λ h=> .mk (.mk c p l) h
noncomputable def Jr (c:Const):Ck (c= .int 1):=match c with
 | .int i=>(d (i=1)).m λ h=>by rw [h]
 | _=> .no
noncomputable def Js (nm:List Str) (l:List Nat) {q:Prop}(k: ∀ x,bF nm l=some x->Ck q):Ck q:=match h:bF nm l with
 | some x=>k x h
 | none=> .no
noncomputable def LB {q:Prop}:(l:List Expr)->(xs:List Str)->(∀ ps:List Pos,l=(xs.zip ps).map (λ q=>Expr.Name q.1 q.2)->xs.length=ps.length->Ck q)->Ck q
 | [],xs,k=>match xs with
   | []=>k [] rfl rfl
   | _::_=> .no
 | z::l,xs,k=>match xs with
   | []=> .no
   | y::xs=>match z with
     | .Name x p=>(s x y).t λ h=>LB l xs λ ps h1 h2=>k (p::ps) (by rw [h,h1];rfl) (congrArg (· + 1) h2)
     | _=> .no
section
variable {X:Cx}(C:bM X) (cd:Option (Addr×Str))
section
variable (sc:Sc) (nm:List Str)
noncomputable def gN (g:Nat):Ck (fY (X.gname g)=true/\sc.lookup (X.gname g)=some .globalImplicit):=(b (fY (X.gname g))).t λ h=>(lu (X.gname g) .globalImplicit sc).m λ h'=>⟨h,h'⟩
noncomputable def Ek (i:Nat) (x:Str):Ck (nm[i]?=some x/\fY x=true):=(Iw nm i x).t λ h=>(b (fY x)).m λ h'=>⟨h,h'⟩
noncomputable def NJ (e:E) (z:Expr):Ck (A0 nm e z):=match e with
 | .var i=>cO (P:=λ z=>A0 nm (.var i) z) z λ x p=>(Ek nm i x).m λ h=> .var h.1 h.2
 | .bin q .Add (.var i) (.cst (.int (.ofNat n)))=>Ei (P:=λ z=>A0 nm (.bin q .Add (.var i) (.cst (.int (.ofNat n)))) z) z λ x o y p=>match o with
   | .Add=>cO (P:=λ x=>A0 nm (.bin q .Add (.var i) (.cst (.int (.ofNat n)))) (.BinOp x .Add y p)) x λ x p1=>uI (P:=λ y=>A0 nm (.bin q .Add (.var i) (.cst (.int (.ofNat n)))) (.BinOp (.Name x p1) .Add y p)) y λ c k p2=>match c with
     | .int m=>(d (m=Int.ofNat n)).t λ e=>(Ek nm i x).m λ h=>by rw [e];exact .inc h.1 h.2
     | _=> .no
   | _=> .no
 | _=> .no
noncomputable def GR:(e:Es)->(z:List Expr)->Ck (B1 nm e z)
 | .nil,z=>ve (Q:=λ z=>B1 nm .nil z) z (.yes .nil)
 | .cons e r,z=>B6 (Q:=λ z=>B1 nm (.cons e r) z) z λ x xs=>(NJ nm e x).t λ h=>(GR r xs).m λ h'=> .cons h h'
noncomputable def NK (e:E) (z:Expr):Ck (M0 X sc nm e z):=match e with
 | .call q (.glo g) as=>kz (P:=λ z=>M0 X sc nm (.call q (.glo g) as) z) z λ f xs p=>cO (P:=λ f=>M0 X sc nm (.call q (.glo g) as) (.Call f xs [] p)) f λ x p'=>(s x (X.gname g)).t λ e=>(gN sc g).t λ h=>(GR nm as xs).m λ h'=>by rw [e];exact .call h.1 h.2 h'
 | .cmp q (.var i) .In (.att (.var j) a)=>Ej (P:=λ z=>M0 X sc nm (.cmp q (.var i) .In (.att (.var j) a)) z) z λ x os ys p=>vg (Q:=λ os=>M0 X sc nm (.cmp q (.var i) .In (.att (.var j) a)) (.Compare x os ys p)) os λ o=>match o with
   | .In=>vg (Q:=λ ys=>M0 X sc nm (.cmp q (.var i) .In (.att (.var j) a)) (.Compare x [.In] ys p)) ys λ y=>cO (P:=λ x=>M0 X sc nm (.cmp q (.var i) .In (.att (.var j) a)) (.Compare x [.In] [y] p)) x λ x p1 =>
     oY (P:=λ y=>M0 X sc nm (.cmp q (.var i) .In (.att (.var j) a)) (.Compare (.Name x p1) [.In] [y] p)) y λ y n p3=>cO (P:=λ y=>M0 X sc nm (.cmp q (.var i) .In (.att (.var j) a)) (.Compare (.Name x p1) [.In] [.Attribute y n p3] p)) y λ y p2 =>
       (s n (X.aname a)).t λ e=>(Ek nm i x).t λ h=>(Ek nm j y).t λ h'=>(lt a X.na).m λ h3=>by rw [e];exact .cin h.1 h.2 h'.1 h'.2 h3
   | _=> .no
 | _=> .no
noncomputable def NL (v:W) (c:Const) (n:Nat) (p:Pos):Ck (SE X cd sc nm (.cst v) (.Constant c n p)):=match v with
 | .none=>match c with | .none=> .yes GD | _=> .no
 | .bool a=>match c with | .bool b=>(d (b=a)).m λ h=>by rw [h];exact GE | _=> .no
 | .int a=>match c with | .int b=>(d (b=a)).m λ h=>by rw [h];exact B3 | _=> .no
 | .str x=>match c with | .str y=>(s y (ae x)).t λ h=>(le x.length cw).m λ l=>by rw [h];exact GF l | _=> .no
 | _=> .no
end
section
variable {cd:Option (Addr×Str)}{sc:Sc}{nm:List Str}
noncomputable def LC (e:E) (f: ∀ z,Ck (SE X cd sc nm e z)) (z:Option Expr):Ck (SO X cd sc nm e z):=match z with
 | none=>match e with | .no=> .yes Ag | _=> .no
 | some z=>(f z).m Ah
noncomputable def NM (hasC:Bool) (e:E) (f: ∀ z,Ck (SE X cd sc nm e z)) (z:List Expr):Ck (SC X cd sc nm hasC e z):=match hasC with
 | false=>ve z (.yes Ai)
 | true=>vg z λ x=>(f x).m DI
noncomputable def GS:Expr->Str
 | .Name n _=>n
 | _ => ""
noncomputable def AF:Expr->List Str
 | .Tuple xs _ _=>xs.map GS
 | z=>[GS z]
noncomputable def NN (two:Bool) (t:Expr):Ck (iA two (AF t) t):=match two with
 | false=>cO (P:=λ t=>iA false (AF t) t) t λ x p=> .yes (.one x p)
 | true=>rQ (P:=λ t=>iA true (AF t) t) t λ xs k p=>B7 (Q:=λ xs=>iA true (AF (.Tuple xs k p)) (.Tuple xs k p)) xs λ y w =>
   cO (P:=λ y=>iA true (AF (.Tuple [y,w] k p)) (.Tuple [y,w] k p)) y λ n pn=>cO (P:=λ w=>iA true (AF (.Tuple [.Name n pn,w] k p)) (.Tuple [.Name n pn,w] k p)) w λ n' pn'=> .yes (.two ..)
noncomputable def GT {cid:Nat}{two hasC:Bool}{elt iter cond:E}{caps:List Nat}(f1: ∀ z,Ck (SE X cd sc nm iter z)) (f2: ∀ sc nm z,Ck (SE X cd sc nm elt z)) (f3: ∀ sc nm z,Ck (SE X cd sc nm cond z)) (z:Expr):Ck (sU X cd sc nm (.comp cid elt two iter hasC cond caps) z) :=
 Jm z λ x t y ifs s₀ p=>Js nm caps λ fr h0=>(NN two t).t λ T=>(f1 y).t λ h1=>(b (gP y)).t λ h2=>(b (n0 sc s₀ (AF t) fr)).t λ h3=>(f2 (iR sc s₀.names) (AF t++fr) x).t λ h4=>(NM hasC cond (f3 (iR sc s₀.names) (AF t++fr)) ifs).m λ h5=> .mk T h2 h0 h3 h1 h4 h5
noncomputable def Jt {e:E}{x:Expr}(r:Es) (k: ∀ z,Ck (SB X cd sc nm r z)) (xs:List Expr) (h1:SE X cd sc nm e x):Ck (SB X cd sc nm (.cons e r) (x::xs)):=match r,k with
 | .nil,_=>ve (Q:=λ xs=>SB X cd sc nm (.cons e .nil) (x::xs)) xs (.yes (DC h1))
 | .cons e2 r2,k=>B6 (Q:=λ xs=>SB X cd sc nm (.cons e (.cons e2 r2)) (x::xs)) xs λ y ys=>(k (y::ys)).m λ h=>Ac h1 h
end
mutual
noncomputable def eB:(e:E)->(sc:Sc)->(nm:List Str)->(z:Expr)->Ck (SE X cd sc nm e z)
 | .no,_,_,_=> .no
 | .bad,_,_,_=> .yes Dv
 | .cst v,sc,nm,z=>uI z λ c n p=>NL cd sc nm v c n p
 | .negc n,sc,nm,z=>Jg z λ o x p=>match o with
   | .USub=>uI (P:=λ x=>SE X cd sc nm (.negc n) (.UnaryOp .USub x p)) x λ c k p'=>match c with
     | .int i=>(d (i=n)).m λ h=>by rw [h];exact Aa
     | _=> .no
   | _=> .no
 | .var i,sc,nm,z=>cO z λ x p=>(Ek nm i x).m λ h=>mq h.1 h.2
 | .frz i,sc,nm,z=>cO z λ x p=>(Ek nm i x).m λ h=>Dx h.1 h.2
 | .glo g,sc,nm,z=>cO z λ x p=>(s x (X.gname g)).t λ e=>(gN sc g).m λ h=>by rw [e];exact xB C h.1 h.2
 | .tup es,sc,nm,z=>rQ z λ xs k p=>(qx es sc nm xs).t λ h=>(le xs.length 1000).m λ l=>Dy h l
 | .lst es,sc,nm,z=>AC z λ xs p=>(qx es sc nm xs).t λ h=>(le xs.length 1000).m λ l=>Dz h l
 | .bin q op l r,sc,nm,z=>Ei z λ x o y p=>(d (o=op)).t λ e=>(eB l sc nm x).t λ h1=>(eB r sc nm y).m λ h2=>by rw [e];exact xz h1 h2
 | .not e,sc,nm,z=>Jg z λ o x p=>match o with
   | .Not=>(eB e sc nm x).m λ h=>DA h
   | _=> .no
 | .ife t b o,sc,nm,z=>Jh z λ x y w p=>(eB t sc nm x).t λ h1=>(eB b sc nm y).t λ h2=>(eB o sc nm w).m λ h3=>DB h1 h2 h3
 | .bop a es,sc,nm,z=>Ji z λ o xs p=>(d (o=fZ a)).t λ e=>(LD es sc nm xs).m λ h=>by rw [e];exact DD h
 | .cmp q l op r,sc,nm,z=>Ej z λ x os ys p=>vg (Q:=λ os=>SE X cd sc nm (.cmp q l op r) (.Compare x os ys p)) os λ o=>vg (Q:=λ ys=>SE X cd sc nm (.cmp q l op r) (.Compare x [o] ys p)) ys λ y =>
   (d (o=op)).t λ e=>(eB l sc nm x).t λ h1=>(eB r sc nm y).t λ h2=>(f (behindInMarks op y)).m λ h3=>by rw [e];exact xA h1 h2 h3
 | .cmp2 l op m op2 r,sc,nm,z=>Ej z λ x os ys p=>B7 (Q:=λ os=>SE X cd sc nm (.cmp2 l op m op2 r) (.Compare x os ys p)) os λ o o2=>B7 (Q:=λ ys=>SE X cd sc nm (.cmp2 l op m op2 r) (.Compare x [o,o2] ys p)) ys λ y w =>
   (d (o=op)).t λ e=>(d (o2=op2)).t λ e2=>(eB l sc nm x).t λ h1=>(eB m sc nm y).t λ h2=>(eB r sc nm w).t λ h3=>(f (behindInMarks op2 w)).m λ h4=>by rw [e,e2];exact Ab h1 h2 h3 h4
 | .call q g as,sc,nm,z=>kz z λ x xs p=>(eB g sc nm x).t λ h1=>(qx as sc nm xs).t λ h2=>(b (kN x)).m λ h3=>sT C h1 h2 h3
 | .new k g as,sc,nm,z=>kz z λ f xs p=>cO (P:=λ f=>SE X cd sc nm (.new k g as) (.Call f xs [] p)) f λ x p'=>(s x (X.gname g)).t λ e=>(gN sc g).t λ h=>(qx as sc nm xs).m λ h2=>by rw [e];exact DF C h.1 h.2 h2
 | .meth o a as,sc,nm,z=>kz z λ f xs p=>oY (P:=λ f=>SE X cd sc nm (.meth o a as) (.Call f xs [] p)) f λ x n ap=>(s n (X.aname a)).t λ e=>(lt a X.na).t λ h0=>(eB o sc nm x).t λ h1=>(qx as sc nm xs).t λ h2=>(b (cq x)).t λ h3 =>
   (eq ap.endLine p.line).t λ h4=>(lt xs.length 30).m λ h5=>by rw [e];exact Ad C h0 h1 h2 h3 h4 h5
 | .bmeth q bm o as,sc,nm,z=>kz z λ f xs p=>oY (P:=λ f=>SE X cd sc nm (.bmeth q bm o as) (.Call f xs [] p)) f λ x n ap=>(s n (lH bm)).t λ e=>(eB o sc nm x).t λ h1=>(b (cq x)).t λ h3=>(eq ap.endLine p.line).t λ h4=>match bm with
   | .replace=>match as with
     | .cons (.cst (.str [c])) (.cons (.cst (.str t)) .nil)=>B7 (Q:=λ xs=>SE X cd sc nm (.bmeth q .replace o (.cons (.cst (.str [c])) (.cons (.cst (.str t)) .nil))) (.Call (.Attribute x n ap) xs [] p)) xs λ y w =>
       AD (P:=λ y=>SE X cd sc nm (.bmeth q .replace o (.cons (.cst (.str [c])) (.cons (.cst (.str t)) .nil))) (.Call (.Attribute x n ap) [y,w] [] p)) y [c] λ k1 p1 =>
       AD (P:=λ w=>SE X cd sc nm (.bmeth q .replace o (.cons (.cst (.str [c])) (.cons (.cst (.str t)) .nil))) (.Call (.Attribute x n ap) [.Constant (.str (ae [c])) k1 p1,w] [] p)) w t λ k2 p2=> .yes (by rw [e];exact Ae h1 h3 h4)
     | _=> .no
   | bm=>(d (bm≠ .replace)).t λ hb=>(qx as sc nm xs).t λ h2=>(lt xs.length 30).t λ h5=>(s n (lH bm)).m λ e=>by rw [e];exact xC hb h1 h2 h3 h4 h5
 | .jrev q sep g e,sc,nm,z=>kz z λ f xs p=>oY (P:=λ f=>SE X cd sc nm (.jrev q sep g e) (.Call f xs [] p)) f λ x n ap=>AD (P:=λ x=>SE X cd sc nm (.jrev q sep g e) (.Call (.Attribute x n ap) xs [] p)) x sep λ k cp =>
   vg (Q:=λ xs=>SE X cd sc nm (.jrev q sep g e) (.Call (.Attribute (.Constant (.str (ae sep)) k cp) n ap) xs [] p)) xs λ y=>kz (P:=λ y=>SE X cd sc nm (.jrev q sep g e) (.Call (.Attribute (.Constant (.str (ae sep)) k cp) n ap) [y] [] p)) y λ f xs p2 =>
   cO (P:=λ f=>SE X cd sc nm (.jrev q sep g e) (.Call (.Attribute (.Constant (.str (ae sep)) k cp) n ap) [.Call f xs [] p2] [] p)) f λ n2 rp=>vg (Q:=λ xs=>SE X cd sc nm (.jrev q sep g e) (.Call (.Attribute (.Constant (.str (ae sep)) k cp) n ap) [.Call (.Name n2 rp) xs [] p2] [] p)) xs λ y =>
   (s n "join").t λ e2=>(s n2 "reversed").t λ e3=>(eB e sc nm y).t λ h1=>(b (aE y)).t λ h2=>(le sep.length cw).t λ h3=>(eq ap.endLine p.line).t λ h4=>(lu "reversed" .globalImplicit sc).m λ h6=>by rw [e2,e3];exact Af C h1 h2 h3 h4 h6
 | .att o a,sc,nm,z=>oY z λ x n p=>(s n (X.aname a)).t λ e=>(lt a X.na).t λ h0=>(eB o sc nm x).t λ h1=>(b (cq x)).m λ h2=>by rw [e];exact xD C h0 h1 h2
 | .sub q o i,sc,nm,z=>xQ z λ x y p=>(eB o sc nm x).t λ h1=>(eB i sc nm y).t λ h2=>(b (dO y)).m λ h3=>DG h1 h2 h3
 | .slc q o lo hi,sc,nm,z=>xQ z λ x y p=>Jj (P:=λ y=>SE X cd sc nm (.slc q o lo hi) (.Subscript x y p)) y λ ya yb p'=>(eB o sc nm x).t λ h1 =>
   (LC lo (λ z=>eB lo sc nm z) ya).t λ h2=>(LC hi (λ z=>eB hi sc nm z) yb).m λ h3=>DH h1 h2 h3
 | .comp cid elt two iter hasC cond caps,sc,nm,z=>(GT (λ z=>eB iter sc nm z) (λ sc nm z=>eB elt sc nm z) (λ sc nm z=>eB cond sc nm z) z).m Aj
 | .lam k caps,sc,nm,z=>Jl z λ a bo s₀ p=>Js nm caps λ fr h0=>match h1:X.T.lam k with
   | none=> .no
   | some ld=>match h2:X.lps[k]? with
     | none=> .no
     | some L=>match hc:cd with
       | none=> .no
       | some (c,q)=>(b (sn sc a s₀ fr)).t λ h3=>(eq ld.np a.args.length).t λ h4=>(NK s₀.names (a.args.map (·.arg)++fr) ld.body bo).t λ h5=>(eq c L.code).t λ h6=>(s L.qual (q ++ "<lambda>")).t λ h7=>(po L.pos p).m λ h8 =>
         DJ C h1 h2 (by rw [h6]) h0 h3 h4 h5 h7 h8
 | .dct ks vs,sc,nm,z=>Jk z λ kx xs p=>(GQ ks kx).t λ h1=>(qx vs sc nm xs).t λ h2=>(eq ks.length xs.length).t λ h3=>(d ks.Nodup).t λ h4=>(le xs.length 15).m λ h5=>DK C h1 h2 h3 h4 h5
noncomputable def qx:(e:Es)->(sc:Sc)->(nm:List Str)->(z:List Expr)->Ck (vd X cd sc nm e z)
 | .nil,_,_,z=>ve z (.yes sS)
 | .cons e r,sc,nm,z=>B6 z λ x xs=>(eB e sc nm x).t λ h1=>(b (aE x)).t λ h2=>(qx r sc nm xs).m λ h3=>qr h2 h1 h3
noncomputable def LD:(e:Es)->(sc:Sc)->(nm:List Str)->(z:List Expr)->Ck (SB X cd sc nm e z)
 | .nil,_,_,_=> .no
 | .cons e r,sc,nm,z=>B6 z λ x xs=>(eB e sc nm x).t λ h1=>Jt r (λ z=>LD r sc nm z) xs h1
end
variable (sc:Sc) (nm:List Str)
noncomputable def yS (i:Nat) (x:Str):Ck (nm[i]?=some x/\sc.lookup x=some .local):=(Iw nm i x).t λ h=>(lu x .local sc).m λ h'=>⟨h,h'⟩
mutual
noncomputable def NO:(a:S)->(z:Stmt)->Ck (SS X cd sc nm a z)
 | .asg i e,z=>oZ z λ t y p=>cO (P:=λ t=>SS X cd sc nm (.asg i e) (.Assign [t] y p)) t λ x p'=>(yS sc nm i x).t λ h=>match h1:bK y with
   | true=>(eB C cd e sc nm y).m λ h2=>DM h.1 h.2 h1 h2
   | false=>match e with
     | .comp cid elt two iter hasC cond caps=>(GT (λ z=>eB C cd iter sc nm z) (λ sc nm z=>eB C cd elt sc nm z) (λ sc nm z=>eB C cd cond sc nm z) y).m λ h2=>rO h.1 h.2 h2
     | _=> .no
 | .asgC i e,z=>oZ z λ t y p=>cO (P:=λ t=>SS X cd sc nm (.asgC i e) (.Assign [t] y p)) t λ x p'=>(Iw nm i x).t λ h=>(lu x .cell sc).t λ h'=>(b (bK y)).t λ h1=>(eB C cd e sc nm y).m λ h2=>Am h h' h1 h2
 | .asgN i k e,z=>oZ z λ t y p=>cO (P:=λ t=>SS X cd sc nm (.asgN i k e) (.Assign [t] y p)) t λ x p'=>(yS sc nm i x).t λ h=>(b (bK y)).t λ h1=>(eB C cd e sc nm y).m λ h2=>An h.1 h.2 h1 h2
 | .asgT is e,z=>oZ z λ t y p=>rQ (P:=λ t=>SS X cd sc nm (.asgT is e) (.Assign [t] y p)) t λ l k p'=>Js nm is λ xs h0=>LB l xs λ ps g1 g2=>(b (xs.all λ x=>sc.lookup x==some .local)).t λ h=>(b (ru y)).t λ h2=>(b (bK y)).t λ h3 =>
   (eB C cd e sc nm y).m λ h1=>by rw [g1];exact Ao h0 h g2 h2 h3 h1
 | .asgS i j e1 e2,z=>oZ z λ t y p=>rQ (P:=λ t=>SS X cd sc nm (.asgS i j e1 e2) (.Assign [t] y p)) t λ l k p'=>B7 (Q:=λ l=>SS X cd sc nm (.asgS i j e1 e2) (.Assign [.Tuple l k p'] y p)) l λ x x' =>
   cO (P:=λ x=>SS X cd sc nm (.asgS i j e1 e2) (.Assign [.Tuple [x,x'] k p'] y p)) x λ x px=>cO (P:=λ x'=>SS X cd sc nm (.asgS i j e1 e2) (.Assign [.Tuple [.Name x px,x'] k p'] y p)) x' λ x' px' =>
   rQ (P:=λ y=>SS X cd sc nm (.asgS i j e1 e2) (.Assign [.Tuple [.Name x px,.Name x' px'] k p'] y p)) y λ l k' p2=>B7 (Q:=λ l=>SS X cd sc nm (.asgS i j e1 e2) (.Assign [.Tuple [.Name x px,.Name x' px'] k p'] (.Tuple l k' p2) p)) l λ y y' =>
   (yS sc nm i x).t λ h=>(yS sc nm j x').t λ h'=>(d (x≠x')).t λ h0=>(eq px.line px'.line).t λ h1=>(eB C cd e1 sc nm y).t λ h2=>(eB C cd e2 sc nm y').t λ h3=>(b (aE y)).t λ h4=>(b (aE y')).t λ h5 =>
   (f ([y,y'].all (foldedForSure 8))).t λ h6=>(f ([y,y'].all (constantsAlone 8))).m λ h7=>Ap h.1 h'.1 h.2 h'.2 h0 h1 h2 h3 h4 h5 h6 h7
 | .asgA o a e,z=>oZ z λ t y p=>oY (P:=λ t=>SS X cd sc nm (.asgA o a e) (.Assign [t] y p)) t λ x n p'=>(s n (X.aname a)).t λ h=>(lt a X.na).t λ h0=>(eB C cd e sc nm y).t λ h1=>(eB C cd o sc nm x).t λ h2=>(b (bK y)).m λ h3=>by rw [h];exact Aq C h0 h1 h2 h3
 | .asgI o i e,z=>oZ z λ t y p=>xQ (P:=λ t=>SS X cd sc nm (.asgI o i e) (.Assign [t] y p)) t λ x w p'=>(eB C cd e sc nm y).t λ h1=>(eB C cd o sc nm x).t λ h2=>(eB C cd i sc nm w).t λ h3=>(b (dO w)).t λ h4=>(b (bK y)).m λ h5=>Ar h1 h2 h3 h4 h5
 | .adv o e,z=>match o with
   | .var i=>oZ z λ t y p=>oY (P:=λ t=>SS X cd sc nm (.adv (.var i) e) (.Assign [t] y p)) t λ x n p'=>cO (P:=λ x=>SS X cd sc nm (.adv (.var i) e) (.Assign [.Attribute x n p'] y p)) x λ x px =>
     Ei (P:=λ y=>SS X cd sc nm (.adv (.var i) e) (.Assign [.Attribute (.Name x px) n p'] y p)) y λ l o y p3=>oY (P:=λ l=>SS X cd sc nm (.adv (.var i) e) (.Assign [.Attribute (.Name x px) n p'] (.BinOp l o y p3) p)) l λ l n' p2 =>
     cO (P:=λ l=>SS X cd sc nm (.adv (.var i) e) (.Assign [.Attribute (.Name x px) n p'] (.BinOp (.Attribute l n' p2) o y p3) p)) l λ x' px'=>(s n (X.aname X.T.aAt)).t λ h1=>(s n' (X.aname X.T.aAt)).t λ h2=>(s x' x).t λ h3=>(d (o= .Add)).t λ h4 =>
     (lt X.T.aAt X.na).t λ h0=>(Ek nm i x).t λ h=>(eB C cd e sc nm y).m λ h5=>by rw [h1,h2,h3,h4];exact DO C h0 h.1 h.2 h5
   | _=> .no
 | .exp e,z=>GP z λ y p=>(b (bK y)).t λ h=>(eB C cd e sc nm y).m λ h1=>DP h h1
 | .app i e,z=>AE z "append" λ o ap y p' p h0=>cO (P:=λ o=>SS X cd sc nm (.app i e) (.Expr (.Call (.Attribute o "append" ap) [y] [] p') p)) o λ x px=>(yS sc nm i x).t λ h=>(b (fY x)).t λ h'=>(b (aE y)).t λ h1=>(eB C cd e sc nm y).m λ h2=>DQ h.1 h.2 h' h1 h0 h2
 | .ext i e,z=>AE z "extend" λ o ap y p' p h0=>cO (P:=λ o=>SS X cd sc nm (.ext i e) (.Expr (.Call (.Attribute o "extend" ap) [y] [] p') p)) o λ x px=>(yS sc nm i x).t λ h=>(b (fY x)).t λ h'=>(b (aE y)).t λ h1=>(eB C cd e sc nm y).m λ h2=>DR h.1 h.2 h' h1 h0 h2
 | .hd0 i e,z=>oZ z λ t y p=>cO (P:=λ t=>SS X cd sc nm (.hd0 i e) (.Assign [t] y p)) t λ x p'=>AC (P:=λ y=>SS X cd sc nm (.hd0 i e) (.Assign [.Name x p'] y p)) y λ l p2=>vg (Q:=λ l=>SS X cd sc nm (.hd0 i e) (.Assign [.Name x p'] (.List l p2) p)) l λ y =>
   rQ (P:=λ y=>SS X cd sc nm (.hd0 i e) (.Assign [.Name x p'] (.List [y] p2) p)) y λ l k p3=>B7 (Q:=λ l=>SS X cd sc nm (.hd0 i e) (.Assign [.Name x p'] (.List [.Tuple l k p3] p2) p)) l λ y w=>AC (P:=λ w=>SS X cd sc nm (.hd0 i e) (.Assign [.Name x p'] (.List [.Tuple [y,w] k p3] p2) p)) w λ l p4 =>
   ve (Q:=λ l=>SS X cd sc nm (.hd0 i e) (.Assign [.Name x p'] (.List [.Tuple [y,.List l p4] k p3] p2) p)) l ((yS sc nm i x).t λ h=>(b (aE y)).t λ h1=>(eB C cd e sc nm y).m λ h2=>DS h.1 h.2 h1 h2)
 | .hdA i e,z=>AE z "append" λ o ap y p' p h0=>cO (P:=λ o=>SS X cd sc nm (.hdA i e) (.Expr (.Call (.Attribute o "append" ap) [y] [] p') p)) o λ x px=>rQ (P:=λ y=>SS X cd sc nm (.hdA i e) (.Expr (.Call (.Attribute (.Name x px) "append" ap) [y] [] p') p)) y λ l k p3 =>
   B7 (Q:=λ l=>SS X cd sc nm (.hdA i e) (.Expr (.Call (.Attribute (.Name x px) "append" ap) [.Tuple l k p3] [] p') p)) l λ y w=>AC (P:=λ w=>SS X cd sc nm (.hdA i e) (.Expr (.Call (.Attribute (.Name x px) "append" ap) [.Tuple [y,w] k p3] [] p') p)) w λ l p4 =>
   ve (Q:=λ l=>SS X cd sc nm (.hdA i e) (.Expr (.Call (.Attribute (.Name x px) "append" ap) [.Tuple [y,.List l p4] k p3] [] p') p)) l ((yS sc nm i x).t λ h=>(b (fY x)).t λ h'=>(b (aE y)).t λ h1=>(eB C cd e sc nm y).m λ h2=>DT h.1 h.2 h' h1 h0 h2)
 | .hdX i e,z=>AE z "extend" λ o ap y p' p h0=>xQ (P:=λ o=>SS X cd sc nm (.hdX i e) (.Expr (.Call (.Attribute o "extend" ap) [y] [] p') p)) o λ o m p5=>xQ (P:=λ o=>SS X cd sc nm (.hdX i e) (.Expr (.Call (.Attribute (.Subscript o m p5) "extend" ap) [y] [] p') p)) o λ o m' p4 =>
   cO (P:=λ o=>SS X cd sc nm (.hdX i e) (.Expr (.Call (.Attribute (.Subscript (.Subscript o m' p4) m p5) "extend" ap) [y] [] p') p)) o λ x px=>GO (P:=λ m'=>SS X cd sc nm (.hdX i e) (.Expr (.Call (.Attribute (.Subscript (.Subscript (.Name x px) m' p4) m p5) "extend" ap) [y] [] p') p)) m' λ k c1 p3 =>
   uI (P:=λ m=>SS X cd sc nm (.hdX i e) (.Expr (.Call (.Attribute (.Subscript (.Subscript (.Name x px) (.UnaryOp .USub (.Constant (.int 1) k c1) p3) p4) m p5) "extend" ap) [y] [] p') p)) m λ c k' c2 =>
   (Jr c).t λ g=>(yS sc nm i x).t λ h=>(b (fY x)).t λ h'=>(b (aE y)).t λ h1=>(eB C cd e sc nm y).m λ h2=>by rw [g];exact DU h.1 h.2 h' h1 h0 h2
 | .ifs t b o,z=>NI z λ x y w p=>(eB C cd t sc nm x).t λ h1=>(uJ b y).t λ h2=>(uJ o w).m λ h3=>DV h1 h2 h3
 | .whl _ t b,z=>Jn z λ x y p=>(eB C cd t sc nm x).t λ h1=>(uJ b y).m λ h2=>DW h1 h2
 | .for_ _ i it bo,z=>Jo z λ t y w p=>cO (P:=λ t=>SS X cd sc nm _ (.For t y w [] p)) t λ x p'=>(yS sc nm i x).t λ h=>(eB C cd it sc nm y).t λ h1=>(b (gP y)).t λ h2=>(uJ bo w).m λ h3=>DX h.1 h.2 h1 h2 h3
 | .ret e,z=>Jp z λ y p=>match y with
   | none=>match e with
     | .no=> .yes As
     | _=> .no
   | some y=>(eB C cd e sc nm y).m λ h=>DY h
 | .cont,z=>Jq z λ p=> .yes Au
 | .bad,_=> .yes DL
noncomputable def uJ:(a:Ss)->(z:List Stmt)->Ck (Al X cd sc nm a z)
 | .nil,z=>ve z (.yes Av)
 | .cons a r,z=>B6 z λ x xs=>(NO a x).t λ h1=>(uJ r xs).m λ h2=>xF h1 h2
end
end
end
end Mine
end
section
open PySem
namespace Mine
noncomputable def b0:Ss:=(.cons (.asgA (.var 0) 0 (.var 1)) (.cons (.asgA (.var 0) 1 (.var 2)) .nil))
noncomputable def f0:Fd:=⟨3,[],3,[],b0⟩
noncomputable def b1:Ss:=(.cons (.ifs (.cmp false (.var 1) .Lt (.cst (.int 0))) (.cons .bad .nil) .nil) (.cons (.whl 0 (.bop true (.cons (.cmp false (.var 1) .Gt (.cst (.int 0))) (.cons (.cmp false (.bin false .Mod (.var 0) (.cst (.int 10))) .Eq (.cst (.int 0))) .nil))) (.cons .bad (.cons .bad .nil))) (.cons (.ret (.tup (.cons (.var 0) (.cons (.var 1) .nil)))) .nil)))
noncomputable def f1:Fd:=⟨2,[.int 0],2,[],b1⟩
noncomputable def b2:Ss:=(.cons (.asg 1 (.cst (.int 0))) (.cons (.for_ 0 2 (.var 0) (.cons (.asg 1 (.bin false .Add (.bin false .Mult (.var 1) (.cst (.int 10))) (.bmeth false .index (.glo 0) (.cons (.var 2) .nil)))) .nil)) (.cons (.ret (.var 1)) .nil)))
noncomputable def f2:Fd:=⟨1,[],3,[],b2⟩
noncomputable def b3:Ss:=(.cons (.asg 1 (.ife (.cmp false (.slc false (.var 0) .no (.cst (.int 1))) .In (.tup (.cons (.cst (.str [43])) (.cons (.cst (.str [45])) .nil)))) (.cst (.int 1)) (.cst (.int 0)))) (.cons (.asgS 2 3 (.slc false (.var 0) (.var 1) .no) (.cst (.str []))) (.cons (.ifs (.cmp false (.cst (.str [46])) .In (.var 2)) (.cons .bad (.cons .bad (.cons .bad .nil))) .nil) (.cons (.ifs (.cmp false (.bin false .Add (.var 2) (.var 3)) .Eq (.cst (.str []))) (.cons .bad .nil) .nil) (.cons (.for_ 0 5 (.call false (.glo 1) (.cons (.var 1) (.cons (.call false (.glo 2) (.cons (.var 0) .nil)) .nil))) (.cons (.ifs (.bop true (.cons (.cmp false (.sub false (.var 0) (.var 5)) .NotIn (.glo 0)) (.cons (.cmp false (.var 5) .NotEq (.bin false .Add (.var 1) (.call false (.glo 2) (.cons (.var 2) .nil)))) .nil))) (.cons .bad .nil) .nil) .nil)) (.cons (.asg 6 (.call false (.glo 3) (.cons (.bin false .Add (.var 2) (.var 3)) .nil))) (.cons (.ret (.call false (.glo 4) (.cons (.ife (.cmp false (.slc false (.var 0) .no (.cst (.int 1))) .Eq (.cst (.str [45]))) .bad (.var 6)) (.cons (.call false (.glo 2) (.cons (.var 3) .nil)) .nil)))) .nil)))))))
noncomputable def f3:Fd:=⟨1,[],7,[],b3⟩
noncomputable def b4:Ss:=(.cons (.asg 1 (.call false (.glo 5) (.cons (.call false (.glo 6) (.cons (.sub false (.var 0) (.cst (.int 0))) .nil)) .nil))) (.cons (.ifs (.cmp false (.sub false (.var 0) (.cst (.int 1))) .Gt (.cst (.int 0))) (.cons .bad (.cons .bad .nil)) .nil) (.cons (.ret (.ife (.cmp false (.sub false (.var 0) (.cst (.int 0))) .Lt (.cst (.int 0))) (.bin false .Add (.cst (.str [45])) (.var 1)) (.var 1))) .nil)))
noncomputable def f4:Fd:=⟨1,[],2,[],b4⟩
noncomputable def b5:Ss:=(.cons (.asgA (.var 0) 2 (.var 1)) (.cons (.asgA (.var 0) 3 (.var 2)) (.cons (.asgA (.var 0) 4 (.var 3)) (.cons (.asgA (.var 0) 5 (.var 4)) .nil))))
noncomputable def f5:Fd:=⟨5,[.tup [.int 0,.int 0],.bool false],5,[],b5⟩
noncomputable def b6:Ss:=(.cons (.ret (.tup (.cons (.att (.var 0) 2) (.cons (.att (.var 0) 3) .nil)))) .nil)
noncomputable def f6:Fd:=⟨1,[],1,[],b6⟩
noncomputable def b7:Ss:=(.cons (.ret (.ife (.cmp2 (.cst (.str [97])) .LtE (.var 0) .LtE (.cst (.str [122]))) (.call false (.glo 7) (.cons (.bin false .Sub (.call false (.glo 8) (.cons (.var 0) .nil)) (.cst (.int 32))) .nil)) (.var 0))) .nil)
noncomputable def f7:Fd:=⟨1,[],1,[],b7⟩
noncomputable def b8:Ss:=(.cons (.ret (.bmeth false .join (.cst (.str [])) (.cons (.comp 0 (.call false (.glo 9) (.cons (.var 0) .nil)) false (.var 0) false .no []) .nil))) .nil)
noncomputable def f8:Fd:=⟨1,[],1,[],b8⟩
noncomputable def b9:Ss:=(.cons (.ret (.cmp false (.call false (.glo 9) (.cons (.var 0) .nil)) .In (.glo 10))) .nil)
noncomputable def f9:Fd:=⟨1,[],1,[],b9⟩
noncomputable def LE:Ss:=(.cons (.ret (.bop false (.cons (.cmp false (.var 1) .GtE (.call false (.glo 2) (.cons (.var 0) .nil))) (.cons (.cmp false (.sub false (.var 0) (.var 1)) .Eq (.cst (.str [32]))) .nil)))) .nil)
noncomputable def LF:Fd:=⟨2,[],2,[],LE⟩
noncomputable def LG:Ss:=(.cons (.whl 0 (.bop true (.cons (.cmp false (.var 1) .Lt (.call false (.glo 2) (.cons (.var 0) .nil))) (.cons (.cmp false (.call false (.glo 9) (.cons (.sub false (.var 0) (.var 1)) .nil)) .In (.var 2)) .nil))) (.cons (.asg 1 (.bin false .Add (.var 1) (.cst (.int 1)))) .nil)) (.cons (.ret (.var 1)) .nil))
noncomputable def LH:Fd:=⟨3,[],3,[],LG⟩
noncomputable def LI:Ss:=(.cons (.asg 2 (.call false (.glo 11) (.cons (.var 0) (.cons (.var 1) (.cons (.glo 12) .nil))))) (.cons (.ifs (.bop true (.cons (.cmp false (.slc false (.var 0) (.var 2) (.bin false .Add (.var 2) (.cst (.int 1)))) .Eq (.cst (.str [46]))) (.cons (.cmp false (.slc false (.var 0) (.bin false .Add (.var 2) (.cst (.int 1))) (.bin false .Add (.var 2) (.cst (.int 2)))) .NotEq (.cst (.str []))) (.cons (.cmp false (.sub false (.var 0) (.bin false .Add (.var 2) (.cst (.int 1)))) .In (.glo 12)) .nil)))) (.cons .bad .nil) .nil) (.cons (.ret (.var 2)) .nil)))
noncomputable def LJ:Fd:=⟨2,[],3,[],LI⟩
noncomputable def NP:Ss:=(.cons (.asg 3 (.call false (.glo 13) (.cons (.slc false (.att (.var 0) 0) (.var 1) (.var 2)) .nil))) (.cons (.ifs (.cmp false (.comp 0 (.var 0) false (.var 3) true (.cmp false (.var 0) .In (.glo 14)) []) .Eq (.lst .nil)) (.cons .bad .nil) .nil) (.cons (.ifs (.cmp false (.sub false (.var 3) (.negc 1)) .Eq (.cst (.str [45]))) (.cons .bad .nil) .nil) (.cons (.ifs (.cmp false (.call false (.glo 2) (.cons (.var 3) .nil)) .Gt (.glo 15)) (.cons .bad .nil) .nil) (.cons (.ret (.var 3)) .nil)))))
noncomputable def NQ:Fd:=⟨3,[],4,[],NP⟩
noncomputable def NR:Ss:=(.cons (.asg 3 (.slc false (.att (.var 0) 0) (.var 1) (.var 2))) (.cons (.ifs (.cmp false (.call false (.glo 2) (.cons (.bmeth false .replace (.var 3) (.cons (.cst (.str [46])) (.cons (.cst (.str [])) .nil))) .nil)) .Gt (.glo 16)) (.cons .bad .nil) .nil) (.cons (.ret (.var 3)) .nil)))
noncomputable def NS:Fd:=⟨3,[],4,[],NR⟩
noncomputable def NT:Ss:=(.cons (.asg 2 (.slc false (.att (.var 0) 0) (.var 1) (.bin false .Add (.var 1) (.cst (.int 2))))) (.cons (.ifs (.cmp false (.var 2) .Eq (.cst (.str []))) (.cons .bad .nil) .nil) (.cons (.ifs (.bop false (.cons (.bop true (.cons (.call false (.glo 17) (.cons (.sub false (.var 2) (.cst (.int 0))) .nil)) (.cons (.cmp false (.sub false (.var 2) (.cst (.int 0))) .NotEq (.cst (.str [45]))) .nil))) (.cons (.cmp false (.sub false (.var 2) (.cst (.int 0))) .In (.glo 18)) .nil))) (.cons .bad .nil) .nil) (.cons (.ifs (.bop true (.cons (.cmp false (.sub false (.var 2) (.cst (.int 0))) .Eq (.cst (.str [46]))) (.cons (.cmp false (.slc false (.var 2) (.cst (.int 1)) .no) .NotEq (.cst (.str []))) (.cons (.cmp false (.sub false (.var 2) (.cst (.int 1))) .In (.glo 12)) .nil)))) (.cons .bad .nil) .nil) .nil))))
noncomputable def NU:Fd:=⟨2,[],3,[],NT⟩
noncomputable def NV:Ss:=(.cons (.asg 2 (.slc false (.att (.var 0) 0) (.var 1) (.bin false .Add (.var 1) (.cst (.int 2))))) (.cons (.ifs (.cmp false (.var 2) .Eq (.cst (.str [61,61]))) (.cons .bad .nil) .nil) (.cons (.ifs (.cmp false (.var 2) .In (.bmeth false .split (.glo 19) (.cons (.cst (.str [32])) .nil))) (.cons .bad .nil) .nil) (.cons (.asg 3 (.sub false (.att (.var 0) 0) (.var 1))) (.cons (.ifs (.bop false (.cons (.cmp false (.var 3) .In (.glo 20)) (.cons (.bop true (.cons (.cmp false (.var 3) .Eq (.cst (.str [46]))) (.cons (.call false (.glo 21) (.cons (.att (.var 0) 0) (.cons (.bin false .Add (.var 1) (.cst (.int 1))) .nil))) .nil))) .nil))) (.cons (.ret (.tup (.cons (.cst (.str [115,105,103,110])) (.cons (.var 3) .nil)))) .nil) .nil) (.cons .bad .nil))))))
noncomputable def NW:Fd:=⟨2,[],4,[],NV⟩
noncomputable def GU:Ss:=(.cons (.asg 2 (.call false (.glo 9) (.cons (.sub false (.att (.var 0) 0) (.var 1)) .nil))) (.cons (.ifs (.bop false (.cons (.cmp false (.var 2) .In (.glo 14)) (.cons (.cmp false (.var 2) .In (.glo 12)) .nil))) (.cons (.asg 3 (.call false (.glo 11) (.cons (.att (.var 0) 0) (.cons (.var 1) (.cons (.glo 10) .nil))))) (.cons (.asg 4 (.call false (.glo 22) (.cons (.att (.var 0) 0) (.cons (.var 1) .nil)))) (.cons (.ifs (.bop true (.cons (.cmp false (.var 2) .In (.glo 12)) (.cons (.cmp false (.var 4) .GtE (.var 3)) .nil))) (.cons (.exp (.call false (.glo 23) (.cons (.var 0) (.cons (.var 4) .nil)))) (.cons (.ret (.tup (.cons (.cst (.str [110,117,109,98,101,114])) (.cons (.call false (.glo 24) (.cons (.var 0) (.cons (.var 1) (.cons (.var 4) .nil)))) (.cons (.var 4) .nil))))) .nil)) .nil) (.cons (.exp (.call false (.glo 23) (.cons (.var 0) (.cons (.var 3) .nil)))) (.cons (.ret (.tup (.cons (.cst (.str [119,111,114,100])) (.cons (.call false (.glo 25) (.cons (.var 0) (.cons (.var 1) (.cons (.var 3) .nil)))) (.cons (.var 3) .nil))))) .nil))))) .nil) (.cons (.ifs (.bop true (.cons (.cmp false (.var 2) .Eq (.cst (.str [46]))) (.cons (.cmp false (.slc false (.att (.var 0) 0) (.bin false .Add (.var 1) (.cst (.int 1))) (.bin false .Add (.var 1) (.cst (.int 2)))) .NotEq (.cst (.str []))) (.cons (.cmp false (.sub false (.att (.var 0) 0) (.bin false .Add (.var 1) (.cst (.int 1)))) .In (.glo 12)) .nil)))) (.cons .bad (.cons .bad (.cons .bad .nil))) .nil) (.cons (.ifs (.cmp false (.var 2) .In (.glo 18)) (.cons .bad (.cons .bad (.cons .bad .nil))) .nil) (.cons (.asgT [5,6] (.call false (.glo 26) (.cons (.var 0) (.cons (.var 1) .nil)))) (.cons (.ret (.tup (.cons (.var 5) (.cons (.var 6) (.cons (.bin false .Add (.var 1) (.call false (.glo 2) (.cons (.var 6) .nil))) .nil))))) .nil))))))
noncomputable def GV:Fd:=⟨2,[],7,[],GU⟩
noncomputable def Ju:Ss:=(.cons (.ret (.bop false (.cons (.cmp false (.sub false (.var 0) (.var 1)) .Eq (.cst (.str [32]))) (.cons (.bop true (.cons (.cmp false (.sub false (.var 0) (.var 1)) .In (.cst (.str [44,59]))) (.cons (.call false (.glo 21) (.cons (.var 0) (.cons (.bin false .Add (.var 1) (.cst (.int 1))) .nil))) .nil))) .nil)))) .nil)
noncomputable def Jv:Fd:=⟨2,[],2,[],Ju⟩
noncomputable def Ix:Ss:=(.cons (.ret (.bop true (.cons (.cmp false (.call false (.glo 2) (.cons (.var 0) .nil)) .Gt (.cst (.int 0))) (.cons (.cmp false (.att (.sub false (.var 0) (.negc 1)) 2) .Eq (.cst (.str [119,111,114,100]))) (.cons (.cmp false (.att (.sub false (.var 0) (.negc 1)) 3) .In (.tup (.cons (.cst (.str [80,73,67])) (.cons (.cst (.str [80,73,67,84,85,82,69])) .nil)))) .nil))))) .nil)
noncomputable def Iy:Fd:=⟨1,[],1,[],Ix⟩
noncomputable def LK:Ss:=(.cons (.asg 2 (.cst (.int 0))) (.cons (.asg 3 (.cst (.bool false))) (.cons (.whl 0 (.cmp false (.var 2) .Lt (.call false (.glo 2) (.cons (.att (.var 1) 0) .nil))) (.cons (.ifs (.call false (.glo 27) (.cons (.att (.var 1) 0) (.cons (.var 2) .nil))) (.cons (.asg 2 (.bin false .Add (.var 2) (.cst (.int 1)))) (.cons .cont .nil)) .nil) (.cons (.asg 4 (.sub false (.att (.var 1) 1) (.var 2))) (.cons (.ifs (.bop true (.cons (.call false (.glo 28) (.cons (.var 0) .nil)) (.cons (.not (.var 3)) (.cons .bad .nil)))) (.cons .bad (.cons .bad (.cons .bad .nil))) .nil) (.cons (.ifs (.call false (.glo 28) (.cons (.var 0) .nil)) (.cons .bad (.cons .bad .nil)) (.cons (.asgT [5,6,7] (.call false (.glo 29) (.cons (.var 1) (.cons (.var 2) .nil)))) .nil)) (.cons (.app 0 (.call false (.glo 30) (.cons (.var 5) (.cons (.var 6) (.cons (.var 4) (.cons (.cmp2 (.cst (.int 8)) .LtE (.sub false (.var 4) (.cst (.int 1))) .LtE (.cst (.int 11))) .nil)))))) (.cons (.asg 3 (.cst (.bool false))) (.cons (.asg 2 (.var 7)) .nil)))))))) .nil)))
noncomputable def LL:Fd:=⟨2,[],8,[],LK⟩
noncomputable def LM:Ss:=(.cons (.asgN 1 .tks (.lst .nil)) (.cons (.for_ 0 2 (.var 0) (.cons (.exp (.call false (.glo 31) (.cons (.var 1) (.cons (.var 2) .nil)))) .nil)) (.cons (.ret (.frz 1)) .nil)))
noncomputable def LN:Fd:=⟨1,[],3,[.tks],LM⟩
noncomputable def NX:Ss:=(.cons (.asgT [1,2] (.tup (.cons (.cst (.int 0)) (.cons (.cst (.int 0)) .nil)))) (.cons (.whl 0 (.bop false (.cons (.cmp false (.var 1) .Gt (.cst (.int 0))) (.cons (.bop true (.cons (.cmp false (.var 2) .Eq (.cst (.int 0))) (.cons (.meth (.var 0) 18 (.cons (.cst (.str [40])) .nil)) .nil))) .nil))) (.cons .bad (.cons .bad (.cons .bad .nil)))) (.cons (.ret (.cst (.bool false))) .nil)))
noncomputable def NY:Fd:=⟨1,[],3,[],NX⟩
noncomputable def NZ:Ss:=(.cons (.asg 2 (.meth (.var 0) 10 .nil)) (.cons (.asg 3 (.lst .nil)) (.cons (.whl 0 (.cmp false (.meth (.var 0) 19 (.cons (.cst (.str [79,70,32,73,78])) .nil)) .NotEq (.cst (.str []))) (.cons .bad .nil)) (.cons (.asg 4 (.tup .nil)) (.cons (.ifs (.bop true (.cons (.meth (.var 0) 18 (.cons (.cst (.str [40])) .nil)) (.cons (.not (.call false (.glo 32) (.cons (.var 0) .nil))) .nil))) (.cons .bad .nil) .nil) (.cons (.asg 5 (.ife (.call false (.glo 32) (.cons (.var 0) .nil)) .bad (.cst (.none)))) (.cons (.ret (.tup (.cons (.cst (.str [114,101,102])) (.cons (.var 2) (.cons (.call false (.glo 33) (.cons (.var 3) .nil)) (.cons (.var 4) (.cons (.var 5) .nil))))))) .nil)))))))
noncomputable def N3:Fd:=⟨2,[],6,[],NZ⟩
noncomputable def N4:Ss:=(.cons (.ifs (.bop false (.cons (.not (.meth (.var 0) 20 (.cons (.cst (.str [119,111,114,100])) .nil))) (.cons (.cmp false (.att (.meth (.var 0) 21 .nil) 3) .NotIn (.glo 34)) .nil))) (.cons (.ret (.cst (.none))) .nil) .nil) (.cons .bad .nil))
noncomputable def N5:Fd:=⟨1,[],1,[],N4⟩
noncomputable def N6:Ss:=(.cons (.ifs (.meth (.var 0) 22 .nil) (.cons (.ret (.tup (.cons (.cst (.str [110,117,109,98,101,114])) (.cons (.meth (.var 0) 23 .nil) .nil)))) .nil) .nil) (.cons (.ifs (.meth (.var 0) 20 (.cons (.cst (.str [108,105,116,101,114,97,108])) .nil)) (.cons .bad .nil) .nil) (.cons (.ifs (.meth (.var 0) 24 (.cons (.cst (.str [65,76,76])) .nil)) (.cons .bad .nil) .nil) (.cons (.asg 2 (.call false (.glo 35) (.cons (.var 0) .nil))) (.cons (.ret (.ife (.cmp false (.var 2) .Is (.cst (.none))) (.call false (.glo 36) (.cons (.var 0) (.cons (.var 1) .nil))) (.var 2))) .nil)))))
noncomputable def N7:Fd:=⟨2,[],3,[],N6⟩
noncomputable def N8:Ss:=(.cons (.asg 2 (.bmeth false .join (.cst (.str [32,79,70,32])) (.cons (.bin false .Add (.lst (.cons (.sub false (.var 0) (.cst (.int 1))) .nil)) (.call false (.glo 37) (.cons (.sub false (.var 0) (.cst (.int 2))) .nil))) .nil))) (.cons (.ifs (.cmp false (.sub false (.var 0) (.cst (.int 3))) .NotEq (.tup .nil)) (.cons .bad .nil) .nil) (.cons (.ifs (.cmp false (.sub false (.var 0) (.cst (.int 4))) .IsNot (.cst (.none))) (.cons .bad (.cons .bad .nil)) .nil) (.cons (.ret (.var 2)) .nil))))
noncomputable def N9:Fd:=⟨2,[],4,[],N8⟩
noncomputable def Oa:Ss:=(.cons (.ifs (.cmp false (.sub false (.var 0) (.cst (.int 0))) .Eq (.cst (.str [114,101,102]))) (.cons (.ret (.call false (.glo 38) (.cons (.var 0) (.cons (.var 1) .nil)))) .nil) .nil) (.cons (.ifs (.cmp false (.sub false (.var 0) (.cst (.int 0))) .Eq (.cst (.str [110,117,109,98,101,114]))) (.cons (.ret (.call false (.glo 39) (.cons (.sub false (.var 0) (.cst (.int 1))) .nil))) .nil) .nil) (.cons .bad (.cons .bad .nil))))
noncomputable def Ob:Fd:=⟨2,[],2,[],Oa⟩
noncomputable def Oc:Ss:=(.cons (.ret (.call false (.glo 40) (.cons (.var 0) (.cons (.cst (.int 0)) .nil)))) .nil)
noncomputable def Od:Fd:=⟨1,[],1,[],Oc⟩
noncomputable def Oe:Ss:=(.cons (.asg 2 (.meth (.var 0) 21 .nil)) (.cons (.ifs (.bop false (.cons (.cmp false (.var 2) .Is (.cst (.none))) (.cons (.cmp false (.att (.var 2) 2) .NotEq (.cst (.str [115,105,103,110]))) (.cons (.cmp false (.att (.var 2) 3) .NotIn (.var 1)) .nil)))) (.cons (.ret (.cst (.str []))) .nil) .nil) (.cons .bad .nil)))
noncomputable def Of:Fd:=⟨2,[],3,[],Oe⟩
noncomputable def Og:Ss:=(.cons (.ifs (.cmp false (.var 1) .Gt (.glo 41)) (.cons .bad .nil) .nil) (.cons (.asg 2 (.call false (.glo 42) (.cons (.var 0) (.cons (.var 1) .nil)))) (.cons (.whl 0 (.cmp false (.call false (.glo 43) (.cons (.var 0) (.cons (.tup (.cons (.cst (.str [43])) (.cons (.cst (.str [45])) .nil))) .nil))) .NotEq (.cst (.str []))) (.cons .bad (.cons .bad .nil))) (.cons (.ret (.var 2)) .nil))))
noncomputable def Oh:Fd:=⟨2,[],4,[],Og⟩
noncomputable def Oi:Ss:=(.cons (.asg 2 (.call false (.glo 44) (.cons (.var 0) (.cons (.var 1) .nil)))) (.cons (.whl 0 (.cmp false (.call false (.glo 43) (.cons (.var 0) (.cons (.tup (.cons (.cst (.str [42])) (.cons (.cst (.str [47])) .nil))) .nil))) .NotEq (.cst (.str []))) (.cons .bad (.cons .bad .nil))) (.cons (.ret (.var 2)) .nil)))
noncomputable def Oj:Fd:=⟨2,[],4,[],Oi⟩
noncomputable def Ok:Ss:=(.cons (.asg 2 (.call false (.glo 43) (.cons (.var 0) (.cons (.tup (.cons (.cst (.str [43])) (.cons (.cst (.str [45])) .nil))) .nil)))) (.cons (.ifs (.cmp false (.var 2) .Eq (.cst (.str []))) (.cons (.ret (.call false (.glo 45) (.cons (.var 0) (.cons (.var 1) .nil)))) .nil) .nil) (.cons .bad (.cons .bad (.cons .bad (.cons .bad (.cons .bad .nil)))))))
noncomputable def Ol:Fd:=⟨2,[],5,[],Ok⟩
noncomputable def Om:Ss:=(.cons (.asg 2 (.call false (.glo 46) (.cons (.var 0) (.cons (.var 1) .nil)))) (.cons (.whl 0 (.cmp false (.call false (.glo 43) (.cons (.var 0) (.cons (.tup (.cons (.cst (.str [42,42])) .nil)) .nil))) .NotEq (.cst (.str []))) (.cons .bad (.cons .bad .nil))) (.cons (.ret (.var 2)) .nil)))
noncomputable def On:Fd:=⟨2,[],3,[],Om⟩
noncomputable def Oo:Ss:=(.cons (.ifs (.cmp false (.call false (.glo 43) (.cons (.var 0) (.cons (.tup (.cons (.cst (.str [43])) (.cons (.cst (.str [45])) .nil))) .nil))) .NotEq (.cst (.str []))) (.cons .bad .nil) .nil) (.cons (.ifs (.not (.meth (.var 0) 25 (.cons (.cst (.str [40])) .nil))) (.cons (.ret (.call false (.glo 47) (.cons (.var 0) (.cons (.lam 0 [1]) .nil)))) .nil) .nil) (.cons .bad (.cons .bad (.cons .bad .nil)))))
noncomputable def Op:Fd:=⟨2,[],3,[],Oo⟩
noncomputable def Oq:Ss:=(.cons (.asg 1 (.lst .nil)) (.cons (.asg 2 (.var 0)) (.cons (.whl 0 (.bop true (.cons (.cmp false (.sub false (.var 2) (.cst (.int 0))) .In (.glo 48)) (.cons (.cmp false .bad .GtE (.sub false (.glo 48) (.sub false (.var 2) (.cst (.int 0))))) .nil))) (.cons .bad (.cons .bad .nil))) (.cons (.ifs (.cmp false (.sub false (.var 2) (.cst (.int 0))) .In (.glo 48)) (.cons .bad .nil) (.cons (.ifs (.cmp false (.sub false (.var 2) (.cst (.int 0))) .Eq (.cst (.str [110,101,103]))) (.cons .bad .nil) (.cons (.app 1 (.call false (.glo 49) (.cons (.var 2) (.cons (.glo 50) .nil)))) .nil)) .nil)) (.cons (.ret (.jrev false [] 51 (.var 1))) .nil)))))
noncomputable def Os:Fd:=⟨1,[],3,[],Oq⟩
noncomputable def Ot:Ss:=(.cons (.asg 2 (.meth (.var 0) 21 (.cons (.var 1) .nil))) (.cons (.ret (.ife (.bop true (.cons (.cmp false (.var 2) .IsNot (.cst (.none))) (.cons (.cmp false (.att (.var 2) 2) .Eq (.cst (.str [119,111,114,100]))) .nil))) (.att (.var 2) 3) (.cst (.str [])))) .nil))
noncomputable def Ou:Fd:=⟨2,[.int 0],3,[],Ot⟩
noncomputable def Ov:Ss:=(.cons (.asg 2 (.meth (.var 0) 21 (.cons (.var 1) .nil))) (.cons (.ifs (.bop true (.cons (.cmp false (.var 2) .IsNot (.cst (.none))) (.cons (.cmp false (.att (.var 2) 2) .Eq (.cst (.str [115,105,103,110]))) (.cons (.cmp false (.att (.var 2) 3) .In (.glo 52)) .nil)))) (.cons (.ret (.cst (.bool true))) .nil) .nil) (.cons (.ret (.cmp false (.call false (.glo 53) (.cons (.var 0) (.cons (.var 1) .nil))) .In (.glo 54))) .nil)))
noncomputable def Ow:Fd:=⟨2,[],3,[],Ov⟩
noncomputable def Ox:Ss:=(.cons (.asg 1 (.ife (.cmp false (.call false (.glo 53) (.cons (.var 0) .nil)) .Eq (.cst (.str [73,83]))) (.cst (.int 1)) (.cst (.int 0)))) (.cons (.ret (.ife (.cmp false (.call false (.glo 53) (.cons (.var 0) (.cons (.var 1) .nil))) .Eq (.cst (.str [78,79,84]))) (.bin false .Add (.var 1) (.cst (.int 1))) (.var 1))) .nil))
noncomputable def Oy:Fd:=⟨1,[],2,[],Ox⟩
noncomputable def Oz:Ss:=(.cons (.asg 1 (.call false (.glo 55) (.cons (.var 0) .nil))) (.cons (.asg 2 (.call false (.glo 53) (.cons (.var 0) (.cons (.var 1) .nil)))) (.cons (.ret (.bop false (.cons (.call false (.glo 56) (.cons (.var 0) (.cons (.var 1) .nil))) (.cons (.cmp false (.var 2) .In (.glo 57)) (.cons (.cmp false (.var 2) .In (.glo 58)) .nil))))) .nil)))
noncomputable def OA:Fd:=⟨1,[],3,[],Oz⟩
noncomputable def OB:Ss:=(.cons (.ret (.call false (.glo 56) (.cons (.var 0) (.cons (.call false (.glo 55) (.cons (.var 0) .nil)) .nil)))) .nil)
noncomputable def OC:Fd:=⟨1,[],1,[],OB⟩
noncomputable def OD:Ss:=(.cons (.asgA (.var 0) 6 (.var 1)) (.cons (.asgA (.var 0) 7 (.var 2)) (.cons (.asgA (.var 0) 8 (.var 3)) (.cons (.asgA (.var 0) 9 (.cst (.none))) .nil))))
noncomputable def OE:Fd:=⟨4,[],4,[],OD⟩
noncomputable def OF:Ss:=(.cons (.asg 1 (.meth (.var 0) 26 .nil)) (.cons (.whl 0 (.meth (.att (.var 0) 6) 24 (.cons (.cst (.str [79,82])) .nil)) (.cons .bad .nil)) (.cons (.ret (.var 1)) .nil)))
noncomputable def OG:Fd:=⟨1,[],2,[],OF⟩
noncomputable def OH:Ss:=(.cons (.asg 1 (.meth (.var 0) 27 .nil)) (.cons (.whl 0 (.meth (.att (.var 0) 6) 24 (.cons (.cst (.str [65,78,68])) .nil)) (.cons .bad .nil)) (.cons (.ret (.var 1)) .nil)))
noncomputable def OI:Fd:=⟨1,[],2,[],OH⟩
noncomputable def OJ:Ss:=(.cons (.ifs (.bop true (.cons (.cmp false (.call false (.glo 53) (.cons (.att (.var 0) 6) .nil)) .Eq (.cst (.str [78,79,84]))) (.cons (.not (.call false (.glo 59) (.cons (.att (.var 0) 6) .nil))) .nil))) (.cons .bad (.cons .bad .nil)) .nil) (.cons (.ret (.meth (.var 0) 28 .nil)) .nil))
noncomputable def OL:Fd:=⟨1,[],1,[],OJ⟩
noncomputable def OM:Ss:=(.cons (.ifs (.not (.meth (.att (.var 0) 6) 18 (.cons (.cst (.str [40])) .nil))) (.cons (.ret (.meth (.var 0) 29 .nil)) .nil) .nil) (.cons .bad (.cons .bad (.cons .bad (.cons .bad .nil)))))
noncomputable def ON:Fd:=⟨1,[],5,[],OM⟩
noncomputable def OO:Ss:=(.cons (.ifs (.call false (.glo 59) (.cons (.att (.var 0) 6) .nil)) (.cons .bad .nil) .nil) (.cons (.asg 1 (.call false (.glo 60) (.cons (.att (.var 0) 6) .nil))) (.cons (.ifs (.bop true (.cons (.cmp false (.sub false (.var 1) (.cst (.int 0))) .Eq (.cst (.str [114,101,102]))) (.cons (.meth (.var 0) 7 (.cons (.sub false (.var 1) (.cst (.int 1))) (.cons (.sub false (.var 1) (.cst (.int 2))) .nil))) .nil))) (.cons (.asgA (.var 0) 9 (.cst (.none))) (.cons (.ret (.tup (.cons (.cst (.str [110,97,109,101,100])) (.cons (.var 1) .nil)))) .nil)) .nil) (.cons (.ifs (.call false (.glo 61) (.cons (.att (.var 0) 6) .nil)) (.cons (.ret (.meth (.var 0) 30 (.cons (.var 1) .nil))) .nil) .nil) (.cons .bad .nil)))))
noncomputable def OP:Fd:=⟨1,[],2,[],OO⟩
noncomputable def OQ:Ss:=(.cons (.asg 2 (.call false (.glo 53) (.cons (.att (.var 0) 6) (.cons (.call false (.glo 55) (.cons (.att (.var 0) 6) .nil)) .nil)))) (.cons (.ifs (.bop true (.cons (.cmp false (.var 2) .NotIn (.glo 57)) (.cons (.cmp false (.var 2) .NotIn (.glo 58)) .nil))) (.cons (.ret (.meth (.var 0) 31 (.cons (.var 1) .nil))) .nil) .nil) (.cons .bad (.cons .bad (.cons .bad (.cons .bad (.cons .bad (.cons .bad .nil))))))))
noncomputable def OR:Fd:=⟨2,[],5,[],OQ⟩
noncomputable def OS:Ss:=(.cons (.exp (.meth (.att (.var 0) 6) 24 (.cons (.cst (.str [73,83])) .nil))) (.cons (.asg 2 (.meth (.att (.var 0) 6) 24 (.cons (.cst (.str [78,79,84])) .nil))) (.cons (.asg 3 (.meth (.var 0) 32 .nil)) (.cons (.asgA (.var 0) 9 (.tup (.cons (.var 1) (.cons (.ife (.var 2) (.sub false (.glo 62) (.var 3)) (.var 3)) .nil)))) (.cons (.ret (.tup (.cons (.cst (.str [114,101,108])) (.cons (.sub false (.att (.var 0) 9) (.cst (.int 1))) (.cons (.var 1) (.cons (.call false (.glo 60) (.cons (.att (.var 0) 6) .nil)) .nil)))))) .nil)))))
noncomputable def OT:Fd:=⟨2,[],4,[],OS⟩
noncomputable def OU:Ss:=(.cons (.asg 1 (.meth (.att (.var 0) 6) 33 .nil)) (.cons (.ifs (.cmp false (.att (.var 1) 2) .Eq (.cst (.str [115,105,103,110]))) (.cons (.ret (.att (.var 1) 3)) .nil) .nil) (.cons .bad (.cons .bad (.cons .bad (.cons .bad .nil))))))
noncomputable def OV:Fd:=⟨1,[],3,[],OU⟩
noncomputable def OW:Ss:=(.cons (.ifs (.cmp false (.var 1) .Is (.cst (.none))) (.cons (.ret (.meth (.new .cnd 63 (.cons (.var 0) (.cons (.lam 1 [0]) (.cons (.cst (.int 0)) .nil)))) 34 .nil)) .nil) .nil) (.cons .bad .nil))
noncomputable def OX:Fd:=⟨2,[.none],2,[.cnd],OW⟩
noncomputable def OY:Ss:=(.cons (.asg 1 (.ife (.cmp false (.sub false (.var 0) (.cst (.int 1))) .Eq (.cst (.str [60,62]))) (.cst (.str [78,79,84,32,61])) (.sub false (.var 0) (.cst (.int 1))))) (.cons (.ret (.bin false .Add (.bin false .Add (.bin false .Add (.bin false .Add (.call false (.glo 50) (.cons (.sub false (.var 0) (.cst (.int 2))) .nil)) (.cst (.str [32]))) (.var 1)) (.cst (.str [32]))) (.call false (.glo 50) (.cons (.sub false (.var 0) (.cst (.int 3))) .nil)))) .nil))
noncomputable def OZ:Fd:=⟨1,[],2,[],OY⟩
noncomputable def O0:Ss:=(.cons (.ifs (.cmp false (.sub false (.var 0) (.cst (.int 0))) .Eq (.cst (.str [114,101,108]))) (.cons (.ret (.call false (.glo 64) (.cons (.var 0) .nil))) .nil) .nil) (.cons (.ifs (.cmp false (.sub false (.var 0) (.cst (.int 0))) .Eq (.cst (.str [110,97,109,101,100]))) (.cons (.ret (.call false (.glo 50) (.cons (.sub false (.var 0) (.cst (.int 1))) .nil))) .nil) .nil) (.cons .bad .nil)))
noncomputable def O1:Fd:=⟨1,[],1,[],O0⟩
noncomputable def O2:Ss:=(.cons (.asg 1 (.lst .nil)) (.cons (.asg 2 (.var 0)) (.cons (.whl 0 (.bop true (.cons (.cmp false (.sub false (.var 2) (.cst (.int 0))) .In (.tup (.cons (.cst (.str [111,114])) (.cons (.cst (.str [97,110,100])) .nil)))) (.cons (.cmp false .bad .GtE .bad) .nil))) (.cons .bad (.cons .bad .nil))) (.cons (.ifs (.cmp false (.sub false (.var 2) (.cst (.int 0))) .Eq (.cst (.str [97,110,100]))) (.cons .bad .nil) (.cons (.ifs (.cmp false (.sub false (.var 2) (.cst (.int 0))) .Eq (.cst (.str [110,111,116]))) (.cons .bad .nil) (.cons (.app 1 (.call false (.glo 65) (.cons (.var 2) .nil))) .nil)) .nil)) (.cons (.ret (.jrev false [] 51 (.var 1))) .nil)))))
noncomputable def O3:Fd:=⟨1,[],3,[],O2⟩
noncomputable def LO:Ss:=(.cons (.ret (.bmeth false .join (.cst (.str [32])) (.cons (.comp 0 (.var 0) false (.var 0) true (.cmp false (.var 0) .NotEq (.cst (.str []))) []) .nil))) .nil)
noncomputable def LQ:Fd:=⟨1,[],1,[],LO⟩
noncomputable def O4:Ss:=(.cons (.ret (.ife (.cmp false (.var 1) .Eq (.cst (.str []))) (.cst (.str [])) (.bin false .Add (.bin false .Add (.var 0) (.cst (.str [32]))) (.var 1)))) .nil)
noncomputable def O5:Fd:=⟨2,[],2,[],O4⟩
noncomputable def LR:Ss:=(.cons (.ifs (.cmp false (.call false (.glo 2) (.cons (.var 0) .nil)) .Eq (.cst (.int 0))) (.cons .bad .nil) .nil) (.cons (.ret (.call false (.glo 66) (.cons (.comp 0 (.call false (.var 1) (.cons (.var 0) .nil)) false (.var 0) false .no [1]) .nil))) .nil))
noncomputable def LS:Fd:=⟨2,[],2,[],LR⟩
noncomputable def O6:Ss:=(.cons (.asg 2 (.sub false (.var 0) (.cst (.int 0)))) (.cons (.ifs (.cmp false (.var 2) .Eq (.cst (.str [109,111,118,101]))) (.cons .bad .nil) .nil) (.cons (.ifs (.cmp false (.var 2) .Eq (.cst (.str [109,111,118,101,45,99,111,114,114]))) (.cons .bad .nil) .nil) (.cons (.ifs (.cmp false (.var 2) .Eq (.cst (.str [105,110,105,116,105,97,108,105,122,101]))) (.cons .bad .nil) .nil) (.cons (.ifs (.cmp false (.var 2) .Eq (.cst (.str [115,101,116]))) (.cons .bad .nil) .nil) (.cons (.ifs (.cmp false (.var 2) .Eq (.cst (.str [115,101,116,45,116,114,117,101]))) (.cons .bad .nil) .nil) (.cons (.ifs (.cmp false (.var 2) .In (.tup (.cons (.cst (.str [115,101,97,114,99,104])) (.cons (.cst (.str [115,101,97,114,99,104,45,97,108,108])) .nil)))) (.cons .bad .nil) .nil) (.cons (.ifs (.cmp false (.var 2) .Eq (.cst (.str [100,105,115,112,108,97,121]))) (.cons .bad .nil) .nil) (.cons (.ret (.ife (.cmp false (.var 2) .Eq (.cst (.str [97,99,99,101,112,116]))) (.bin false .Add (.cst (.str [65,67,67,69,80,84,32])) .bad) (.cst (.str [])))) .nil)))))))))
noncomputable def O7:Fd:=⟨2,[],3,[],O6⟩
noncomputable def O8:Ss:=(.cons (.asg 2 (.sub false (.var 0) (.cst (.int 0)))) (.cons (.ifs (.cmp false (.var 2) .Eq (.cst (.str [115,116,114,105,110,103]))) (.cons .bad .nil) .nil) (.cons (.ifs (.cmp false (.var 2) .Eq (.cst (.str [117,110,115,116,114,105,110,103]))) (.cons .bad .nil) .nil) (.cons (.ifs (.cmp false (.var 2) .Eq (.cst (.str [116,97,108,108,121]))) (.cons .bad .nil) .nil) (.cons (.ifs (.cmp false (.var 2) .Eq (.cst (.str [114,101,112,108,97,99,101]))) (.cons .bad .nil) .nil) (.cons (.ret (.ife (.cmp false (.var 2) .Eq (.cst (.str [99,111,110,118,101,114,116]))) .bad (.cst (.str [])))) .nil))))))
noncomputable def O9:Fd:=⟨2,[],3,[],O8⟩
noncomputable def Pa:Ss:=(.cons (.ret (.ife (.cmp false (.sub false (.var 0) (.cst (.int 1))) .Eq (.cst (.str []))) (.sub false (.var 0) (.cst (.int 0))) (.bin false .Add (.bin false .Add (.sub false (.var 0) (.cst (.int 0))) (.cst (.str [32,79,70,32]))) (.sub false (.var 0) (.cst (.int 1)))))) .nil)
noncomputable def Pb:Fd:=⟨1,[],1,[],Pa⟩
noncomputable def Jw:Ss:=(.cons (.asg 2 (.ife (.cmp false (.call false (.glo 2) (.cons (.sub false (.var 0) (.cst (.int 3))) .nil)) .Eq (.cst (.int 0))) (.cst (.str [])) (.bin false .Add (.cst (.str [69,76,83,69,32])) (.call false (.glo 67) (.cons (.sub false (.var 0) (.cst (.int 3))) (.cons (.var 1) .nil)))))) (.cons (.ret (.call false (.glo 66) (.cons (.lst (.cons (.cst (.str [73,70])) (.cons (.call false (.glo 68) (.cons (.sub false (.var 0) (.cst (.int 1))) .nil)) (.cons (.cst (.str [84,72,69,78])) (.cons (.call false (.glo 67) (.cons (.sub false (.var 0) (.cst (.int 2))) (.cons (.var 1) .nil))) (.cons (.var 2) (.cons (.cst (.str [69,78,68,45,73,70])) .nil))))))) .nil))) .nil))
noncomputable def Jx:Fd:=⟨2,[],3,[],Jw⟩
noncomputable def LT:Ss:=(.cons (.asg 2 (.sub false (.var 0) (.cst (.int 0)))) (.cons (.ifs (.cmp false (.var 2) .Eq (.cst (.str [105,102]))) (.cons (.ret (.call false (.glo 69) (.cons (.var 0) (.cons (.var 1) .nil)))) .nil) .nil) (.cons (.ifs (.cmp false (.var 2) .Eq (.cst (.str [101,118,97,108,117,97,116,101]))) (.cons .bad .nil) .nil) (.cons (.ifs (.cmp false (.var 2) .Eq (.cst (.str [112,101,114,102,111,114,109]))) (.cons .bad .nil) .nil) (.cons (.ifs (.cmp false (.var 2) .Eq (.cst (.str [103,111,116,111]))) (.cons (.ret (.bin false .Add (.cst (.str [71,79,32,84,79,32])) (.call false (.glo 70) (.cons (.sub false (.var 0) (.cst (.int 1))) .nil)))) .nil) .nil) (.cons (.ifs (.cmp false (.var 2) .Eq (.cst (.str [103,111,116,111,45,100,101,112]))) (.cons .bad .nil) .nil) (.cons (.ifs (.cmp false (.var 2) .Eq (.cst (.str [99,97,108,108]))) (.cons .bad .nil) .nil) (.cons (.ret (.bmeth false .get (.dct [[99,111,110,116,105,110,117,101],[101,120,105,116],[101,120,105,116,45,112,114,111,103,114,97,109],[115,116,111,112]] (.cons (.cst (.str [67,79,78,84,73,78,85,69])) (.cons (.cst (.str [69,88,73,84])) (.cons (.cst (.str [69,88,73,84,32,80,82,79,71,82,65,77])) (.cons (.cst (.str [83,84,79,80,32,82,85,78])) .nil))))) (.cons (.var 2) (.cons (.cst (.str [])) .nil)))) .nil))))))))
noncomputable def LU:Fd:=⟨2,[],3,[],LT⟩
noncomputable def Pc:Ss:=(.cons (.ifs (.cmp false (.sub false (.var 0) (.cst (.int 0))) .Eq (.cst (.str [97,114,105,116,104]))) (.cons .bad .nil) .nil) (.cons (.ifs (.cmp false (.sub false (.var 0) (.cst (.int 0))) .Eq (.cst (.str [100,105,118,105,100,101]))) (.cons .bad .nil) .nil) (.cons (.ret (.ife (.cmp false (.sub false (.var 0) (.cst (.int 0))) .Eq (.cst (.str [99,111,114,114]))) .bad (.cst (.str [])))) .nil)))
noncomputable def Pd:Fd:=⟨2,[],2,[],Pc⟩
noncomputable def Pe:Ss:=(.cons .bad (.cons .bad (.cons .bad (.cons .bad (.cons .bad (.cons .bad (.cons .bad (.cons .bad (.cons .bad (.cons .bad (.cons .bad .nil)))))))))))
noncomputable def Pf:Fd:=⟨2,[],4,[],Pe⟩
noncomputable def LV:Ss:=(.cons (.for_ 0 1 (.tup (.cons (.glo 71) (.cons (.glo 72) (.cons (.glo 73) (.cons (.glo 74) (.cons (.glo 75) .nil)))))) (.cons (.asg 2 (.call false (.var 1) (.cons (.var 0) (.cons (.glo 76) .nil)))) (.cons (.ifs (.cmp false (.var 2) .NotEq (.cst (.str []))) (.cons (.ret (.var 2)) .nil) .nil) .nil))) (.cons .bad .nil))
noncomputable def LX:Fd:=⟨1,[],3,[],LV⟩
noncomputable def LY:Ss:=(.cons (.asgC 2 (.ife (.var 1) (.glo 77) (.glo 78))) (.cons (.asgC 3 (.call false (.glo 79) (.cons (.lst (.cons (.call false (.glo 80) (.cons (.var 0) (.cons (.comp 0 (.tup (.cons (.cst (.int 1)) (.cons (.bin false .Add (.var 1) (.var 0)) .nil))) false (.call false (.glo 1) (.cons (.call false (.glo 2) (.cons (.var 0) .nil)) .nil)) false .no [2]) .nil))) .nil)) .nil))) (.cons (.ret (.comp 0 (.call false (.glo 30) (.cons (.att (.sub false (.var 1) (.var 0)) 2) (.cons (.att (.sub false (.var 1) (.var 0)) 3) (.cons (.att (.sub false (.var 1) (.var 0)) 4) (.cons (.bop true (.cons (.var 2) (.cons (.cmp false (.var 0) .Eq (.cst (.int 0))) .nil))) .nil))))) false (.call false (.glo 1) (.cons (.call false (.glo 2) (.cons (.var 3) .nil)) .nil)) false .no [3,1])) .nil)))
noncomputable def LZ:Fd:=⟨2,[.bool false],4,[],LY⟩
noncomputable def Jy:Ss:=(.cons (.asg 1 (.lst .nil)) (.cons (.ifs (.cmp false (.att (.var 0) 10) .NotEq (.cst (.str []))) (.cons (.asg 1 (.call false (.glo 81) (.cons (.bin false .Add (.att (.var 0) 10) (.cst (.str [46]))) (.cons (.cst (.bool true)) .nil)))) .nil) (.cons (.ifs (.cmp false (.att (.var 0) 11) .NotEq (.cst (.str []))) (.cons (.asg 1 (.call false (.glo 81) (.cons (.bin false .Add (.att (.var 0) 11) (.cst (.str [32,83,69,67,84,73,79,78,46]))) (.cons (.cst (.bool true)) .nil)))) .nil) .nil) .nil)) (.cons (.for_ 0 2 (.att (.var 0) 12) (.cons (.ext 1 (.call false (.glo 81) (.cons (.bin false .Add (.call false (.glo 76) (.cons (.var 2) .nil)) (.cst (.str [32,46]))) .nil))) .nil)) (.cons (.ret (.var 1)) .nil))))
noncomputable def Pg:Fd:=⟨1,[],3,[],Jy⟩
noncomputable def Jz:Ss:=(.cons (.asg 1 (.call false (.glo 81) (.cons (.call false (.glo 66) (.cons (.lst (.cons (.cst (.str [80,82,79,67,69,68,85,82,69,32,68,73,86,73,83,73,79,78])) (.cons (.call false (.glo 82) (.cons (.cst (.str [85,83,73,78,71])) (.cons (.call false (.glo 66) (.cons (.att (.var 0) 14) .nil)) .nil))) (.cons (.cst (.str [46])) .nil)))) .nil)) (.cons (.cst (.bool true)) .nil)))) (.cons (.for_ 0 2 (.att (.var 0) 13) (.cons (.ext 1 (.call false (.glo 83) (.cons (.var 2) .nil))) .nil)) (.cons (.ret (.var 1)) .nil)))
noncomputable def Ph:Fd:=⟨1,[],3,[],Jz⟩
noncomputable def Pi:Ss:=(.cons (.asgA (.var 0) 10 (.var 1)) (.cons (.asgA (.var 0) 11 (.var 2)) (.cons (.asgA (.var 0) 12 (.var 3)) .nil)))
noncomputable def Pj:Fd:=⟨4,[],4,[],Pi⟩
noncomputable def Pk:Ss:=(.cons (.ret (.tup (.cons (.att (.var 0) 10) (.cons (.att (.var 0) 11) (.cons (.att (.var 0) 12) .nil))))) .nil)
noncomputable def Pl:Fd:=⟨1,[],1,[],Pk⟩
noncomputable def Pm:Ss:=(.cons (.asgA (.var 0) 13 (.var 1)) (.cons (.asgA (.var 0) 14 (.var 2)) .nil))
noncomputable def Pn:Fd:=⟨3,[],3,[],Pm⟩
noncomputable def L2:Ss:=(.cons (.ret (.tup (.cons (.call false (.glo 33) (.cons (.comp 0 (.meth (.var 0) 17 .nil) false (.att (.var 0) 13) false .no []) .nil)) (.cons (.att (.var 0) 14) .nil)))) .nil)
noncomputable def L3:Fd:=⟨1,[],1,[],L2⟩
noncomputable def Po:Ss:=(.cons (.exp (.meth (.var 0) 35 (.cons (.cst (.str [67,79,78,84,73,78,85,69])) .nil))) (.cons (.ret (.tup (.cons (.cst (.str [99,111,110,116,105,110,117,101])) .nil))) .nil))
noncomputable def Pp:Fd:=⟨2,[],2,[],Po⟩
noncomputable def Pq:Ss:=(.cons (.ret (.bop true (.cons (.meth (.var 0) 20 (.cons (.cst (.str [119,111,114,100])) .nil)) (.cons (.cmp false (.att (.meth (.var 0) 21 .nil) 3) .In (.glo 84)) .nil)))) .nil)
noncomputable def Pr:Fd:=⟨1,[],1,[],Pq⟩
noncomputable def L4:Ss:=(.cons (.asg 3 (.lst .nil)) (.cons (.whl 0 (.call false (.glo 85) (.cons (.var 0) .nil)) (.cons (.app 3 (.call false (.glo 86) (.cons (.var 0) (.cons (.var 1) (.cons (.var 2) .nil))))) .nil)) (.cons (.ret (.call false (.glo 33) (.cons (.var 3) .nil))) .nil)))
noncomputable def L6:Fd:=⟨3,[],4,[],L4⟩
noncomputable def L7:Ss:=(.cons (.ifs (.not (.call false (.glo 85) (.cons (.var 0) .nil))) (.cons .bad .nil) .nil) (.cons (.ifs (.cmp false (.var 1) .Gt (.glo 87)) (.cons .bad .nil) .nil) (.cons (.ret (.call false (.call false (.var 2) (.cons (.att (.meth (.var 0) 21 .nil) 3) .nil)) (.cons (.var 0) (.cons (.lam 2 [2,1]) .nil)))) .nil)))
noncomputable def L8:Fd:=⟨3,[],3,[],L7⟩
noncomputable def Ps:Ss:=(.cons (.ifs (.bop false (.cons (.not (.meth (.var 0) 36 .nil)) (.cons (.not (.att (.meth (.var 0) 21 .nil) 5)) .nil))) (.cons (.ret (.cst (.bool false))) .nil) .nil) (.cons (.asg 1 (.meth (.var 0) 21 (.cons (.cst (.int 1)) .nil))) (.cons (.ret (.bop true (.cons (.cmp false (.var 1) .IsNot (.cst (.none))) (.cons (.cmp false (.meth (.var 1) 17 .nil) .In (.tup (.cons (.tup (.cons (.cst (.str [115,105,103,110])) (.cons (.cst (.str [46])) .nil))) (.cons (.tup (.cons (.cst (.str [119,111,114,100])) (.cons (.cst (.str [83,69,67,84,73,79,78])) .nil))) .nil)))) .nil)))) .nil)))
noncomputable def Pt:Fd:=⟨1,[],2,[],Ps⟩
noncomputable def Pu:Ss:=(.cons (.ifs (.meth (.var 0) 37 .nil) (.cons (.ret (.cst (.bool true))) .nil) .nil) (.cons (.ret (.bop false (.cons (.meth (.var 0) 38 (.cons (.cst (.str [69,78,68,32,80,82,79,71,82,65,77])) .nil)) (.cons (.meth (.var 0) 38 (.cons (.cst (.str [73,68,69,78,84,73,70,73,67,65,84,73,79,78,32,68,73,86,73,83,73,79,78])) .nil)) (.cons (.meth (.var 0) 38 (.cons (.cst (.str [73,68,32,68,73,86,73,83,73,79,78])) .nil)) .nil))))) .nil))
noncomputable def Pw:Fd:=⟨1,[],1,[],Pu⟩
noncomputable def Px:Ss:=(.cons (.asg 2 (.meth (.var 0) 10 .nil)) (.cons (.ifs (.not (.meth (.var 0) 24 (.cons (.cst (.str [83,69,67,84,73,79,78])) .nil))) (.cons (.exp (.meth (.var 0) 39 (.cons (.cst (.str [46])) .nil))) (.cons (.ret (.tup (.cons (.var 2) (.cons (.var 1) .nil)))) .nil)) .nil) (.cons (.ifs (.meth (.var 0) 20 (.cons (.cst (.str [110,117,109,98,101,114])) .nil)) (.cons .bad .nil) .nil) (.cons (.exp (.meth (.var 0) 39 (.cons (.cst (.str [46])) .nil))) (.cons (.ret (.tup (.cons (.cst (.str [])) (.cons (.var 2) .nil)))) .nil)))))
noncomputable def Py:Fd:=⟨2,[],3,[],Px⟩
noncomputable def JA:Ss:=(.cons (.asg 2 (.tup (.cons (.cst (.str [])) (.cons (.cst (.str [])) .nil)))) (.cons (.hd0 3 (.var 2)) (.cons (.whl 0 (.not (.call false (.glo 89) (.cons (.var 0) .nil))) (.cons (.ifs (.call false (.glo 90) (.cons (.var 0) .nil)) (.cons (.asg 2 (.call false (.glo 91) (.cons (.var 0) (.cons (.sub false (.var 2) (.cst (.int 1))) .nil)))) (.cons (.hdA 3 (.var 2)) .nil)) (.cons (.asg 4 (.call false (.glo 88) (.cons (.var 0) (.cons (.cst (.int 0)) (.cons (.var 1) .nil))))) (.cons (.ifs (.cmp false (.var 4) .Eq (.tup .nil)) (.cons .bad .nil) .nil) (.cons (.exp (.meth (.var 0) 39 (.cons (.cst (.str [46])) .nil))) (.cons (.hdX 3 (.var 4)) .nil))))) .nil)) (.cons (.asg 5 (.comp 0 (.call false (.glo 92) (.cons (.sub false (.var 0) (.cst (.int 0))) (.cons (.sub false (.var 0) (.cst (.int 1))) (.cons (.call false (.glo 33) (.cons (.var 1) .nil)) .nil)))) true (.var 3) false .no [])) (.cons (.ret (.ife (.cmp false (.att (.sub false (.var 5) (.cst (.int 0))) 12) .NotEq (.tup .nil)) (.var 5) (.slc false (.var 5) (.cst (.int 1)) .no))) .nil)))))
noncomputable def Pz:Fd:=⟨2,[],6,[],JA⟩
noncomputable def JB:Ss:=(.cons (.exp (.meth (.var 0) 35 (.cons (.cst (.str [80,82,79,67,69,68,85,82,69])) .nil))) (.cons (.exp (.meth (.var 0) 35 (.cons (.cst (.str [68,73,86,73,83,73,79,78])) .nil))) (.cons (.asg 2 (.ife (.meth (.var 0) 24 (.cons (.cst (.str [85,83,73,78,71])) .nil)) (.call false (.glo 33) (.cons (.meth (.var 0) 40 .nil) .nil)) (.tup .nil))) (.cons (.exp (.meth (.var 0) 39 (.cons (.cst (.str [46])) .nil))) (.cons (.ret (.call false (.glo 93) (.cons (.call false (.glo 94) (.cons (.var 0) (.cons (.var 1) .nil))) (.cons (.var 2) .nil)))) .nil)))))
noncomputable def PA:Fd:=⟨2,[],3,[],JB⟩
noncomputable def PB:Ss:=(.cons (.ret (.cmp false (.bin false .Add (.bin false .Add (.cst (.str [32])) (.var 0)) (.cst (.str [32]))) .In (.glo 95))) .nil)
noncomputable def PC:Fd:=⟨1,[],1,[],PB⟩
noncomputable def PD:Ss:=(.cons (.asgA (.var 0) 15 (.var 1)) (.cons (.asgA (.var 0) 4 (.var 2)) (.cons (.asgA (.var 0) 16 (.dct [] .nil)) .nil)))
noncomputable def PE:Fd:=⟨3,[.int 0],3,[],PD⟩
noncomputable def PF:Ss:=(.cons (.asg 1 (.meth (.var 0) 21 .nil)) (.cons (.ifs (.cmp false (.var 1) .Is (.cst (.none))) (.cons .bad .nil) .nil) (.cons (.adv (.var 0) (.cst (.int 1))) (.cons (.ret (.var 1)) .nil))))
noncomputable def PG:Fd:=⟨1,[],2,[],PF⟩
noncomputable def PH:Ss:=(.cons (.asg 3 (.meth (.var 0) 21 (.cons (.var 2) .nil))) (.cons (.ret (.bop true (.cons (.cmp false (.var 3) .IsNot (.cst (.none))) (.cons (.cmp false (.att (.var 3) 2) .Eq (.var 1)) .nil)))) .nil))
noncomputable def PI:Fd:=⟨3,[.int 0],4,[],PH⟩
noncomputable def PJ:Ss:=(.cons (.asg 2 (.cst (.int 0))) (.cons (.for_ 0 3 (.bmeth false .split (.var 1) (.cons (.cst (.str [32])) .nil)) (.cons (.ifs (.bop false (.cons (.not (.meth (.var 0) 20 (.cons (.cst (.str [119,111,114,100])) (.cons (.var 2) .nil)))) (.cons (.cmp false (.att (.meth (.var 0) 21 (.cons (.var 2) .nil)) 3) .NotEq (.var 3)) .nil))) (.cons (.ret (.cst (.bool false))) .nil) .nil) (.cons (.asg 2 (.bin false .Add (.var 2) (.cst (.int 1)))) .nil))) (.cons (.ret (.cst (.bool true))) .nil)))
noncomputable def PK:Fd:=⟨2,[],4,[],PJ⟩
noncomputable def PL:Ss:=(.cons (.ifs (.not (.meth (.var 0) 38 (.cons (.var 1) .nil))) (.cons (.ret (.cst (.bool false))) .nil) .nil) (.cons (.adv (.var 0) (.call false (.glo 2) (.cons (.bmeth false .split (.var 1) (.cons (.cst (.str [32])) .nil)) .nil))) (.cons (.ret (.cst (.bool true))) .nil)))
noncomputable def PN:Fd:=⟨2,[],2,[],PL⟩
noncomputable def PO:Ss:=(.cons (.ifs (.not (.meth (.var 0) 24 (.cons (.var 1) .nil))) (.cons .bad .nil) .nil) .nil)
noncomputable def PP:Fd:=⟨2,[],2,[],PO⟩
noncomputable def PQ:Ss:=(.cons (.for_ 0 2 (.bmeth false .split (.var 1) (.cons (.cst (.str [32])) .nil)) (.cons (.ifs (.meth (.var 0) 24 (.cons (.var 2) .nil)) (.cons .bad .nil) .nil) .nil)) (.cons (.ret (.cst (.str []))) .nil))
noncomputable def PR:Fd:=⟨2,[],3,[],PQ⟩
noncomputable def PT:Ss:=(.cons (.ret (.bop true (.cons (.meth (.var 0) 20 (.cons (.cst (.str [119,111,114,100])) (.cons (.var 1) .nil))) (.cons (.not (.call false (.glo 96) (.cons (.att (.meth (.var 0) 21 (.cons (.var 1) .nil)) 3) .nil))) .nil)))) .nil)
noncomputable def PU:Fd:=⟨2,[.int 0],2,[],PT⟩
noncomputable def PV:Ss:=(.cons (.ifs (.not (.meth (.var 0) 36 .nil)) (.cons .bad .nil) .nil) (.cons (.ret (.att (.meth (.var 0) 33 .nil) 3)) .nil))
noncomputable def PW:Fd:=⟨1,[],1,[],PV⟩
noncomputable def PX:Ss:=(.cons (.asg 1 (.lst (.cons (.meth (.var 0) 10 .nil) .nil))) (.cons (.whl 0 (.meth (.var 0) 36 .nil) (.cons (.app 1 (.meth (.var 0) 10 .nil)) .nil)) (.cons (.ret (.var 1)) .nil)))
noncomputable def PY:Fd:=⟨1,[],2,[],PX⟩
noncomputable def PZ:Ss:=(.cons (.ret (.bop true (.cons (.meth (.var 0) 20 (.cons (.cst (.str [115,105,103,110])) (.cons (.var 2) .nil))) (.cons (.cmp false (.att (.meth (.var 0) 21 (.cons (.var 2) .nil)) 3) .Eq (.var 1)) .nil)))) .nil)
noncomputable def P0:Fd:=⟨3,[.int 0],3,[],PZ⟩
noncomputable def P1:Ss:=(.cons (.ifs (.not (.meth (.var 0) 18 (.cons (.var 1) .nil))) (.cons (.ret (.cst (.bool false))) .nil) .nil) (.cons (.adv (.var 0) (.cst (.int 1))) (.cons (.ret (.cst (.bool true))) .nil)))
noncomputable def P2:Fd:=⟨2,[],2,[],P1⟩
noncomputable def P3:Ss:=(.cons (.ifs (.not (.meth (.var 0) 25 (.cons (.var 1) .nil))) (.cons .bad .nil) .nil) .nil)
noncomputable def P4:Fd:=⟨2,[],2,[],P3⟩
noncomputable def P5:Ss:=(.cons (.ifs (.bop false (.cons (.meth (.var 0) 18 (.cons (.cst (.str [43])) .nil)) (.cons (.meth (.var 0) 18 (.cons (.cst (.str [45])) .nil)) .nil))) (.cons .bad .nil) .nil) (.cons (.ret (.meth (.var 0) 20 (.cons (.cst (.str [110,117,109,98,101,114])) .nil))) .nil))
noncomputable def P6:Fd:=⟨1,[],1,[],P5⟩
noncomputable def P7:Ss:=(.cons (.ifs (.not (.meth (.var 0) 22 .nil)) (.cons .bad .nil) .nil) (.cons (.asg 1 (.meth (.var 0) 25 (.cons (.cst (.str [45])) .nil))) (.cons (.ifs (.not (.var 1)) (.cons (.exp (.meth (.var 0) 25 (.cons (.cst (.str [43])) .nil))) .nil) .nil) (.cons (.asg 2 (.call false (.glo 97) (.cons (.att (.meth (.var 0) 33 .nil) 3) .nil))) (.cons (.ret (.ife (.var 1) .bad (.var 2))) .nil)))))
noncomputable def P8:Fd:=⟨1,[],3,[],P7⟩
noncomputable def L9:Ss:=(.cons (.asg 2 (.call false (.var 1) (.cons (.var 0) .nil))) (.cons (.ifs (.cmp false (.var 2) .Eq (.tup .nil)) (.cons .bad .nil) .nil) (.cons (.ret (.var 2)) .nil)))
noncomputable def Ma:Fd:=⟨2,[],3,[],L9⟩
noncomputable def JC:Ss:=(.cons (.asg 1 (.meth (.var 0) 10 .nil)) (.cons (.ifs (.bop false (.cons (.meth (.var 0) 24 (.cons (.cst (.str [73,78])) .nil)) (.cons (.meth (.var 0) 24 (.cons (.cst (.str [79,70])) .nil)) .nil))) (.cons (.ret (.tup (.cons (.var 1) (.cons (.meth (.var 0) 10 .nil) .nil)))) .nil) .nil) (.cons (.ret (.tup (.cons (.var 1) (.cons (.cst (.str [])) .nil)))) .nil)))
noncomputable def JD:Fd:=⟨1,[],2,[],JC⟩
noncomputable def El:Ss:=(.cons (.exp (.meth (.var 0) 35 (.cons (.cst (.str [73,70])) .nil))) (.cons (.asg 2 (.call false (.glo 98) (.cons (.var 0) .nil))) (.cons (.exp (.meth (.var 0) 24 (.cons (.cst (.str [84,72,69,78])) .nil))) (.cons (.asg 3 (.call false (.glo 99) (.cons (.var 0) (.cons (.var 1) .nil)))) (.cons (.asg 4 (.ife (.meth (.var 0) 24 (.cons (.cst (.str [69,76,83,69])) .nil)) (.call false (.glo 99) (.cons (.var 0) (.cons (.var 1) .nil))) (.tup .nil))) (.cons (.exp (.meth (.var 0) 24 (.cons (.cst (.str [69,78,68,45,73,70])) .nil))) (.cons (.ret (.tup (.cons (.cst (.str [105,102])) (.cons (.var 2) (.cons (.var 3) (.cons (.var 4) .nil)))))) .nil)))))))
noncomputable def Em:Fd:=⟨2,[],5,[],El⟩
noncomputable def JE:Ss:=(.cons (.exp (.meth (.var 0) 35 (.cons (.cst (.str [71,79])) .nil))) (.cons (.exp (.meth (.var 0) 24 (.cons (.cst (.str [84,79])) .nil))) (.cons (.asg 2 (.lst (.cons (.call false (.glo 100) (.cons (.var 0) .nil)) .nil))) (.cons (.whl 0 (.meth (.var 0) 36 .nil) (.cons .bad .nil)) (.cons (.ifs (.meth (.var 0) 24 (.cons (.cst (.str [68,69,80,69,78,68,73,78,71])) .nil)) (.cons .bad (.cons .bad .nil)) .nil) (.cons (.ifs (.cmp false (.call false (.glo 2) (.cons (.var 2) .nil)) .Gt (.cst (.int 1))) (.cons .bad .nil) .nil) (.cons (.ret (.tup (.cons (.cst (.str [103,111,116,111])) (.cons (.sub false (.var 2) (.cst (.int 0))) .nil)))) .nil)))))))
noncomputable def JF:Fd:=⟨2,[],3,[],JE⟩
noncomputable def JG:Ss:=(.cons (.exp (.meth (.var 0) 35 (.cons (.cst (.str [69,88,73,84])) .nil))) (.cons (.ret (.ife (.meth (.var 0) 24 (.cons (.cst (.str [80,82,79,71,82,65,77])) .nil)) (.tup (.cons (.cst (.str [101,120,105,116,45,112,114,111,103,114,97,109])) .nil)) (.tup (.cons (.cst (.str [101,120,105,116])) .nil)))) .nil))
noncomputable def JH:Fd:=⟨2,[],2,[],JG⟩
noncomputable def JI:Ss:=(.cons (.exp (.meth (.var 0) 35 (.cons (.cst (.str [83,84,79,80])) .nil))) (.cons (.exp (.meth (.var 0) 35 (.cons (.cst (.str [82,85,78])) .nil))) (.cons (.ret (.tup (.cons (.cst (.str [115,116,111,112])) .nil))) .nil)))
noncomputable def JJ:Fd:=⟨2,[],2,[],JI⟩
noncomputable def JK:Ss:=(.cons (.asg 2 (.bin false .Mod (.sub false (.var 0) (.cst (.int 0))) (.var 1))) (.cons (.asgI (.var 0) (.cst (.int 0)) (.bin false .FloorDiv (.sub false (.var 0) (.cst (.int 0))) (.var 1))) (.cons (.ret (.var 2)) .nil)))
noncomputable def JL:Fd:=⟨2,[],3,[],JK⟩
noncomputable def En:Ss:=(.cons (.asg 1 (.cst (.int 31))) (.cons (.for_ 0 2 (.slc false (.var 0) .no (.cst (.int 30))) (.cons (.asg 1 (.bin false .Add (.bin false .Mult (.var 1) (.cst (.int 1000003))) (.bin false .Mod (.var 2) (.bin false .Pow (.cst (.int 10)) (.cst (.int 80)))))) .nil)) (.cons (.ret (.lst (.cons (.ife (.cmp false (.var 1) .Gt (.bin false .Pow (.cst (.int 10)) (.cst (.int 60)))) (.var 1) (.bin false .Add (.bin false .Pow (.var 1) (.cst (.int 6))) (.bin false .FloorDiv (.bin false .Pow (.cst (.int 10)) (.cst (.int 69))) (.cst (.int 17))))) .nil))) .nil)))
noncomputable def JM:Fd:=⟨1,[],3,[],En⟩
noncomputable def xR:Ss:=(.cons (.asg 2 (.call false (.glo 101) (.cons (.var 0) (.cons (.ife (.cmp false (.var 1) .Gt (.cst (.int 0))) (.cst (.int 7)) (.cst (.int 5))) .nil)))) (.cons (.ifs (.cmp false (.var 2) .Eq (.cst (.int 0))) (.cons (.ret (.tup (.cons (.cst (.str [103,111,116,111])) (.cons (.sub false (.lst (.cons (.tup (.cons (.cst (.str [80,45,49])) (.cons (.cst (.str [])) .nil))) (.cons (.tup (.cons (.cst (.str [76,65,83,84])) (.cons (.cst (.str [83,45,65])) .nil))) .nil))) (.call false (.glo 101) (.cons (.var 0) (.cons (.cst (.int 2)) .nil)))) .nil)))) .nil) .nil) (.cons (.ifs (.cmp false (.var 2) .Lt (.cst (.int 5))) (.cons (.ret (.sub false (.lst (.cons (.tup (.cons (.cst (.str [99,111,110,116,105,110,117,101])) .nil)) (.cons (.tup (.cons (.cst (.str [101,120,105,116])) .nil)) (.cons (.tup (.cons (.cst (.str [115,116,111,112])) .nil)) (.cons (.tup (.cons (.cst (.str [101,120,105,116,45,112,114,111,103,114,97,109])) .nil)) .nil))))) (.bin false .Sub (.var 2) (.cst (.int 1))))) .nil) .nil) (.cons (.asg 3 (.sub false (.lst (.cons (.tup (.cons (.cst (.str [110,97,109,101,100])) (.cons (.tup (.cons (.cst (.str [114,101,102])) (.cons (.cst (.str [73,83,45,79,78])) (.cons (.tup .nil) (.cons (.tup .nil) (.cons (.cst (.none)) .nil)))))) .nil))) (.cons (.tup (.cons (.cst (.str [114,101,108])) (.cons (.cst (.str [60])) (.cons (.tup (.cons (.cst (.str [114,101,102])) (.cons (.cst (.str [78])) (.cons (.tup .nil) (.cons (.tup .nil) (.cons (.cst (.none)) .nil)))))) (.cons (.tup (.cons (.cst (.str [110,117,109,98,101,114])) (.cons (.tup (.cons (.cst (.int 3)) (.cons (.cst (.int 0)) .nil))) .nil))) .nil))))) .nil))) (.call false (.glo 101) (.cons (.var 0) (.cons (.cst (.int 2)) .nil))))) (.cons (.asg 4 (.ife (.cmp false (.call false (.glo 101) (.cons (.var 0) (.cons (.cst (.int 2)) .nil))) .Eq (.cst (.int 1))) (.tup (.cons (.call false (.glo 102) (.cons (.var 0) (.cons (.bin false .Sub (.var 1) (.cst (.int 1))) .nil))) .nil)) (.tup .nil))) (.cons (.ret (.tup (.cons (.cst (.str [105,102])) (.cons (.var 3) (.cons (.tup (.cons (.call false (.glo 102) (.cons (.var 0) (.cons (.bin false .Sub (.var 1) (.cst (.int 1))) .nil))) (.cons (.call false (.glo 102) (.cons (.var 0) (.cons (.cst (.int 0)) .nil))) .nil))) (.cons (.var 4) .nil)))))) .nil))))))
noncomputable def JN:Fd:=⟨2,[],5,[],xR⟩
noncomputable def GW:Ss:=(.cons (.ret (.call false (.glo 33) (.cons (.comp 0 (.call false (.glo 102) (.cons (.var 1) (.cons (.cst (.int 2)) .nil))) false (.call false (.glo 1) (.cons (.call false (.glo 101) (.cons (.var 0) (.cons (.cst (.int 3)) .nil))) .nil)) false .no [0]) .nil))) .nil)
noncomputable def GX:Fd:=⟨1,[],1,[],GW⟩
noncomputable def Eo:Ss:=(.cons (.asgS 1 2 (.lst .nil) (.cst (.str []))) (.cons (.asg 3 (.call false (.glo 103) (.cons (.var 0) .nil))) (.cons (.ifs (.cmp false (.var 3) .NotEq (.tup .nil)) (.cons (.app 1 (.call false (.glo 92) (.cons (.cst (.str [])) (.cons (.cst (.str [])) (.cons (.var 3) .nil))))) .nil) .nil) (.cons (.for_ 0 4 (.call false (.glo 1) (.cons (.call false (.glo 101) (.cons (.var 0) (.cons (.cst (.int 4)) .nil))) .nil)) (.cons (.ifs (.cmp false (.call false (.glo 101) (.cons (.var 0) (.cons (.cst (.int 3)) .nil))) .Eq (.cst (.int 0))) (.cons (.asg 2 (.sub false (.lst (.cons (.cst (.str [83,45,65])) (.cons (.cst (.str [77,65,73,78,45,76,73,78,69])) .nil))) (.call false (.glo 101) (.cons (.var 0) (.cons (.cst (.int 2)) .nil))))) (.cons (.app 1 (.call false (.glo 92) (.cons (.cst (.str [])) (.cons (.var 2) (.cons (.call false (.glo 103) (.cons (.var 0) .nil)) .nil))))) .nil)) (.cons (.app 1 (.call false (.glo 92) (.cons (.sub false (.lst (.cons (.cst (.str [80,45,49])) (.cons (.cst (.str [76,65,83,84])) (.cons (.cst (.str [88])) .nil)))) (.call false (.glo 101) (.cons (.var 0) (.cons (.cst (.int 3)) .nil)))) (.cons (.var 2) (.cons (.call false (.glo 103) (.cons (.var 0) .nil)) .nil))))) .nil)) .nil)) (.cons (.ret (.var 1)) .nil)))))
noncomputable def JO:Fd:=⟨1,[],5,[],Eo⟩
noncomputable def JP:Ss:=(.cons (.ret (.sub false (.dct [[67,79,78,84,73,78,85,69],[69,88,73,84],[83,84,79,80],[71,79],[73,70]] (.cons (.glo 104) (.cons (.glo 105) (.cons (.glo 106) (.cons (.glo 107) (.cons (.glo 108) .nil)))))) (.var 0))) .nil)
noncomputable def JQ:Fd:=⟨1,[],1,[],JP⟩
noncomputable def GY:Ss:=(.cons (.ret (.bin false .Add (.lst (.cons (.cst (.str [80,82,79,67,69,68,85,82,69])) .nil)) (.comp 0 (.ife (.cmp false (.att (.var 0) 10) .NotEq (.cst (.str []))) (.att (.var 0) 10) (.att (.var 0) 11)) false (.var 0) true (.cmp false (.bin false .Add (.att (.var 0) 10) (.att (.var 0) 11)) .NotEq (.cst (.str []))) []))) .nil)
noncomputable def GZ:Fd:=⟨1,[],1,[],GY⟩
noncomputable def Ep:Ss:=(.cons (.asgC 1 (.call false (.glo 109) (.cons (.var 0) .nil))) (.cons (.asg 2 (.new .rdr 110 (.cons (.var 1) .nil))) (.cons (.asgA (.var 2) 16 (.dct [[73,83,45,79,78]] (.cons (.cst (.bool true)) .nil))) (.cons (.asg 3 (.call false (.glo 111) (.cons (.var 2) (.cons (.glo 112) .nil)))) (.cons (.ifs (.bop false (.cons (.cmp false (.meth (.var 3) 17 .nil) .NotEq (.meth (.var 0) 17 .nil)) (.cons (.not (.meth (.var 2) 37 .nil)) .nil))) (.cons .bad .nil) .nil) (.cons (.asg 4 (.comp 0 (.var 0) false (.call false (.glo 1) (.cons (.call false (.glo 2) (.cons (.var 1) .nil)) .nil)) true (.att (.sub false (.var 1) (.var 0)) 5) [1])) (.cons (.ifs (.bop false (.cons (.cmp false (.comp 0 (.att (.sub false (.var 1) (.var 0)) 3) false (.var 4) false .no [1]) .NotEq (.call false (.glo 113) (.cons (.att (.var 0) 13) .nil))) (.cons (.cmp false (.sub false (.var 4) (.cst (.int 0))) .NotEq (.cst (.int 0))) (.cons (.cmp false (.meth (.sub false (.var 1) (.negc 1)) 17 .nil) .NotEq (.tup (.cons (.cst (.str [115,105,103,110])) (.cons (.cst (.str [46])) .nil)))) .nil)))) (.cons .bad .nil) .nil) (.cons (.ifs (.cmp false (.comp 0 (.var 0) false (.slc false (.var 4) (.cst (.int 1)) .no) true (.cmp false (.meth (.sub false (.var 1) (.bin false .Sub (.var 0) (.cst (.int 1)))) 17 .nil) .NotEq (.tup (.cons (.cst (.str [115,105,103,110])) (.cons (.cst (.str [46])) .nil)))) [1]) .NotEq (.lst .nil)) (.cons .bad .nil) .nil) (.cons (.asg 5 (.bin false .Add (.bmeth false .join (.cst (.str [32])) (.cons (.comp 0 (.att (.var 0) 3) false (.var 1) false .no []) .nil)) (.cst (.str [32])))) (.cons (.for_ 0 6 (.att (.var 0) 13) (.cons (.for_ 0 7 (.att (.var 6) 12) (.cons (.ifs (.cmp false (.bin false .Add (.bin false .Add (.cst (.str [32])) (.bmeth false .replace (.call false (.glo 76) (.cons (.var 7) .nil)) (.cons (.cst (.str [40])) (.cons (.cst (.str [40,32])) .nil)))) (.cst (.str [32,46,32]))) .NotIn (.var 5)) (.cons .bad .nil) .nil) .nil)) .nil)) (.cons (.ret (.cst (.bool true))) .nil)))))))))))
noncomputable def JS:Fd:=⟨1,[],8,[.rdr],Ep⟩
noncomputable def Er:Ss:=(.cons (.asg 1 (.tup (.cons (.cst (.str [103,111,116,111])) (.cons (.tup (.cons (.cst (.str [76,65,83,84])) (.cons (.cst (.str [83,45,65])) .nil))) .nil)))) (.cons (.asg 2 (.tup (.cons (.cst (.str [105,102])) (.cons (.tup (.cons (.cst (.str [110,97,109,101,100])) (.cons (.tup (.cons (.cst (.str [114,101,102])) (.cons (.cst (.str [73,83,45,79,78])) (.cons (.tup .nil) (.cons (.tup .nil) (.cons (.cst (.none)) .nil)))))) .nil))) (.cons (.tup (.cons (.var 1) .nil)) (.cons (.tup (.cons (.tup (.cons (.cst (.str [101,120,105,116])) .nil)) .nil)) .nil)))))) (.cons (.asg 3 (.lst (.cons (.call false (.glo 92) (.cons (.cst (.str [])) (.cons (.cst (.str [])) (.cons (.tup (.cons (.tup (.cons (.cst (.str [115,116,111,112])) .nil)) .nil)) .nil)))) (.cons (.call false (.glo 92) (.cons (.cst (.str [])) (.cons (.cst (.str [83,45,65])) (.cons (.tup .nil) .nil)))) (.cons (.call false (.glo 92) (.cons (.cst (.str [76,65,83,84])) (.cons (.cst (.str [83,45,65])) (.cons (.tup (.cons (.var 2) (.cons (.tup (.cons (.cst (.str [101,120,105,116,45,112,114,111,103,114,97,109])) .nil)) .nil))) .nil)))) .nil))))) (.cons (.asg 4 (.bmeth false .join (.cst (.str [32])) (.cons (.comp 0 (.att (.var 0) 3) false (.call false (.glo 109) (.cons (.call false (.glo 93) (.cons (.var 3) (.cons (.tup (.cons (.cst (.str [65,82,71])) .nil)) .nil))) .nil)) false .no []) .nil))) (.cons (.ifs (.cmp false (.var 4) .NotEq (.cst (.str [80,82,79,67,69,68,85,82,69,32,68,73,86,73,83,73,79,78,32,85,83,73,78,71,32,65,82,71,32,46,32,83,84,79,80,32,82,85,78,32,46,32,83,45,65,32,83,69,67,84,73,79,78,32,46,32,76,65,83,84,32,46,32,73,70,32,73,83,45,79,78,32,84,72,69,78,32,71,79,32,84,79,32,76,65,83,84,32,79,70,32,83,45,65,32,69,76,83,69,32,69,88,73,84,32,69,78,68,45,73,70,32,46,32,69,88,73,84,32,80,82,79,71,82,65,77,32,46]))) (.cons .bad .nil) .nil) (.cons (.asgN 5 .bag (.call false (.glo 114) (.cons (.var 0) .nil))) (.cons (.asg 6 (.slc false (.tup (.cons (.cst (.str [65,82,71])) (.cons (.cst (.str [82,69,83,84])) .nil))) .no (.call false (.glo 101) (.cons (.var 5) (.cons (.cst (.int 3)) .nil))))) (.cons (.ret (.bop true (.cons (.call false (.glo 115) (.cons (.call false (.glo 93) (.cons (.var 3) (.cons (.tup .nil) .nil))) .nil)) (.cons (.call false (.glo 115) (.cons (.call false (.glo 93) (.cons (.call false (.glo 116) (.cons (.var 5) .nil)) (.cons (.var 6) .nil))) .nil)) .nil)))) .nil))))))))
noncomputable def G0:Fd:=⟨1,[],7,[.bag],Er⟩
noncomputable def l0:Ld:=⟨1,(.call false (.glo 40) (.cons (.var 0) (.cons (.bin false .Add (.var 1) (.cst (.int 1))) .nil)))⟩
noncomputable def l1:Ld:=⟨2,(.cmp false (.var 0) .In (.att (.var 2) 16))⟩
noncomputable def l2:Ld:=⟨1,(.call false (.glo 88) (.cons (.var 0) (.cons (.bin false .Add (.var 2) (.cst (.int 1))) (.cons (.var 1) .nil))))⟩
noncomputable def Mb {α:Type}(l:List (Option α)) (n:Nat):Option α:=match ax l n with
 | some o=>o
 | none=>none
noncomputable def JT (n:Nat):Option Fd:=Mb [some f0,some f1,some f2,some f3,some f4,some f5,some f6,some f7,some f8,some f9,some LF,some LH,some LJ,some NQ,some NS,some NU,some NW,some GV,some Jv,some Iy,some LL,some LN,some NY,some N3,some N5,some N7,some N9,some Ob,some Od,some Of,some Oh,some Oj,some Ol,some On,some Op,some Os,some Ou,some Ow,some Oy,some OA,some OC,some OE,some OG,some OI,some OL,some ON,some OP,some OR,some OT,some OV,some OX,some OZ,some O1,some O3,some LQ,some O5,some LS,some O7,some O9,some Pb,some Jx,some LU,some Pd,some Pf,some LX,some LZ,some Pg,some Ph,some Pj,some Pl,some Pn,some L3,some Pp,some Pr,some L6,some L8,some Pt,some Pw,some Py,some Pz,some PA,some PC,some PE,none,none,some PG,some PI,some PK,some PN,some PP,some PR,some PU,some PW,some PY,some P0,some P2,some P4,some P6,some P8,some Ma,some JD,some Em,some JF,some JH,some JJ,some JL,some JM,some JN,some GX,some JO,some JQ,some GZ,some JS,some G0] n
noncomputable def G1:Nat->Option Ld
 | 0=>some l0
 | 1=>some l1
 | 2=>some l2
 | _=>none
noncomputable def o0 (n:Nat):Option W:=Mb [
 some (.str [48,49,50,51,52,53,54,55,56,57]),
 some (.bi .range),
 some (.bi .len),
 some (.fn 2),
 some (.fn 1),
 some (.bi .str),
 some (.bi .abs),
 some (.bi .chr),
 some (.bi .ord),
 some (.fn 7),
 some (.str [65,66,67,68,69,70,71,72,73,74,75,76,77,78,79,80,81,82,83,84,85,86,87,88,89,90,48,49,50,51,52,53,54,55,56,57,45]),
 some (.fn 11),
 some (.str [48,49,50,51,52,53,54,55,56,57]),
 some (.fn 8),
 some (.str [65,66,67,68,69,70,71,72,73,74,75,76,77,78,79,80,81,82,83,84,85,86,87,88,89,90]),
 some (.int 30),
 some (.int 18),
 some (.fn 9),
 some (.str [34,39]),
 some (.str [42,42,32,60,61,32,62,61]),
 some (.str [40,41,58,43,45,42,47,61,60,62]),
 some (.fn 10),
 some (.fn 12),
 some (.fn 15),
 some (.fn 14),
 some (.fn 13),
 some (.fn 16),
 some (.fn 18),
 some (.fn 19),
 some (.fn 17),
 some (.cls 1),
 some (.fn 20),
 some (.fn 22),
 some (.bi .tuple),
 some (.dct [([90,69,82,79],.str [90,69,82,79]),([90,69,82,79,83],.str [90,69,82,79]),([90,69,82,79,69,83],.str [90,69,82,79]),([83,80,65,67,69],.str [83,80,65,67,69]),([83,80,65,67,69,83],.str [83,80,65,67,69]),([72,73,71,72,45,86,65,76,85,69],.str [72,73,71,72]),([72,73,71,72,45,86,65,76,85,69,83],.str [72,73,71,72]),([76,79,87,45,86,65,76,85,69],.str [76,79,87]),([76,79,87,45,86,65,76,85,69,83],.str [76,79,87]),([81,85,79,84,69],.str [81,85,79,84,69]),([81,85,79,84,69,83],.str [81,85,79,84,69])]),
 some (.fn 24),
 some (.fn 23),
 some (.bi .list),
 some (.fn 26),
 some (.fn 4),
 some (.fn 30),
 some (.int 20),
 some (.fn 31),
 some (.fn 29),
 some (.fn 32),
 some (.fn 33),
 some (.fn 34),
 some (.fn 25),
 some (.dct [([43],.int 1),([45],.int 1),([42],.int 2),([47],.int 2),([42,42],.int 4)]),
 some (.fn 27),
 some (.fn 35),
 none,
 some (.tup [.str [61],.str [60],.str [62],.str [60,61],.str [62,61]]),
 some (.fn 36),
 some (.dct [([71,82,69,65,84,69,82],.str [62]),([76,69,83,83],.str [60]),([69,81,85,65,76],.str [61])]),
 some (.fn 38),
 some (.fn 37),
 some (.tup [.str [78,85,77,69,82,73,67],.str [65,76,80,72,65,66,69,84,73,67],.str [65,76,80,72,65,66,69,84,73,67,45,76,79,87,69,82],.str [65,76,80,72,65,66,69,84,73,67,45,85,80,80,69,82]]),
 some (.dct [([80,79,83,73,84,73,86,69],.str [80,79,83,73,84,73,86,69]),([78,69,71,65,84,73,86,69],.str [78,69,71,65,84,73,86,69]),([90,69,82,79],.str [90,69,82,79]),([90,69,82,79,83],.str [90,69,82,79]),([90,69,82,79,69,83],.str [90,69,82,79])]),
 some (.fn 40),
 some (.fn 28),
 some (.fn 39),
 some (.dct [([61],.str [60,62]),([60,62],.str [61]),([60],.str [62,61]),([62,61],.str [60]),([62],.str [60,61]),([60,61],.str [62])]),
 some (.cls 2),
 some (.fn 51),
 some (.fn 52),
 some (.fn 54),
 some (.fn 56),
 some (.fn 53),
 some (.fn 60),
 some (.fn 59),
 some (.fn 62),
 some (.fn 57),
 some (.fn 58),
 some (.fn 61),
 some (.fn 63),
 some (.fn 64),
 some (.int 8),
 some (.int 12),
 some (.fn 21),
 some (.cls 0),
 some (.fn 65),
 some (.fn 55),
 some (.fn 66),
 some (.tup [.str [65,68,68],.str [83,85,66,84,82,65,67,84],.str [77,85,76,84,73,80,76,89],.str [68,73,86,73,68,69],.str [67,79,77,80,85,84,69],.str [77,79,86,69],.str [73,78,73,84,73,65,76,73,90,69],.str [83,69,84],.str [83,84,82,73,78,71],.str [85,78,83,84,82,73,78,71],.str [73,78,83,80,69,67,84],.str [83,69,65,82,67,72],.str [65,67,67,69,80,84],.str [68,73,83,80,76,65,89],.str [73,70],.str [69,86,65,76,85,65,84,69],.str [80,69,82,70,79,82,77],.str [71,79],.str [69,88,73,84],.str [83,84,79,80],.str [67,65,76,76],.str [67,79,78,84,73,78,85,69],.str [79,80,69,78],.str [67,76,79,83,69],.str [82,69,65,68],.str [87,82,73,84,69],.str [82,69,87,82,73,84,69],.str [68,69,76,69,84,69],.str [83,84,65,82,84],.str [83,79,82,84],.str [77,69,82,71,69],.str [82,69,76,69,65,83,69],.str [82,69,84,85,82,78]]),
 some (.fn 73),
 some (.fn 75),
 some (.int 12),
 some (.fn 74),
 some (.fn 77),
 some (.fn 76),
 some (.fn 78),
 some (.cls 3),
 some (.cls 4),
 some (.fn 79),
 some (.str [32,65,67,67,69,80,84,32,65,67,67,69,83,83,32,65,68,68,32,65,68,86,65,78,67,73,78,71,32,65,70,84,69,82,32,65,76,76,32,65,76,80,72,65,66,69,84,73,67,32,65,76,80,72,65,66,69,84,73,67,45,76,79,87,69,82,32,65,76,80,72,65,66,69,84,73,67,45,85,80,80,69,82,32,65,76,80,72,65,78,85,77,69,82,73,67,32,65,76,80,72,65,78,85,77,69,82,73,67,45,69,68,73,84,69,68,32,65,76,83,79,32,65,76,84,69,82,78,65,84,69,32,65,78,68,32,65,78,89,32,65,82,69,32,65,82,69,65,32,65,82,69,65,83,32,65,83,67,69,78,68,73,78,71,32,65,83,83,73,71,78,32,65,84,32,65,85,84,72,79,82,32,66,69,70,79,82,69,32,66,73,78,65,82,89,32,66,76,65,78,75,32,66,76,79,67,75,32,66,89,32,67,65,76,76,32,67,72,65,82,65,67,84,69,82,32,67,72,65,82,65,67,84,69,82,83,32,67,76,79,83,69,32,67,79,77,80,32,67,79,77,80,45,51,32,67,79,77,80,85,84,65,84,73,79,78,65,76,32,67,79,77,80,85,84,65,84,73,79,78,65,76,45,51,32,67,79,77,80,85,84,69,32,67,79,78,70,73,71,85,82,65,84,73,79,78,32,67,79,78,84,65,73,78,83,32,67,79,78,84,69,78,84,32,67,79,78,84,73,78,85,69,32,67,79,78,86,69,82,84,73,78,71,32,67,79,80,89,32,67,79,82,82,32,67,79,82,82,69,83,80,79,78,68,73,78,71,32,67,79,85,78,84,32,68,65,84,65,32,68,65,84,69,45,67,79,77,80,73,76,69,68,32,68,65,84,69,45,87,82,73,84,84,69,78,32,68,69,76,69,84,69,32,68,69,76,73,77,73,84,69,68,32,68,69,76,73,77,73,84,69,82,32,68,69,80,69,78,68,73,78,71,32,68,69,83,67,69,78,68,73,78,71,32,68,73,83,80,76,65,89,32,68,73,86,73,68,69,32,68,73,86,73,83,73,79,78,32,68,79,87,78,32,68,85,80,76,73,67,65,84,69,83,32,68,89,78,65,77,73,67,32,69,76,83,69,32,69,78,68,32,69,78,68,45,65,68,68,32,69,78,68,45,67,65,76,76,32,69,78,68,45,67,79,77,80,85,84,69,32,69,78,68,45,68,69,76,69,84,69,32,69,78,68,45,68,73,86,73,68,69,32,69,78,68,45,69,86,65,76,85,65,84,69,32,69,78,68,45,73,70,32,69,78,68,45,77,85,76,84,73,80,76,89,32,69,78,68,45,80,69,82,70,79,82,77,32,69,78,68,45,82,69,65,68,32,69,78,68,45,82,69,84,85,82,78,32,69,78,68,45,82,69,87,82,73,84,69,32,69,78,68,45,83,69,65,82,67,72,32,69,78,68,45,83,84,65,82,84,32,69,78,68,45,83,84,82,73,78,71,32,69,78,68,45,83,85,66,84,82,65,67,84,32,69,78,68,45,85,78,83,84,82,73,78,71,32,69,78,68,45,87,82,73,84,69,32,69,78,86,73,82,79,78,77,69,78,84,32,69,81,85,65,76,32,69,82,82,79,82,32,69,86,65,76,85,65,84,69,32,69,88,67,69,80,84,73,79,78,32,69,88,73,84,32,69,88,84,69,78,68,32,69,88,84,69,82,78,65,76,32,70,65,76,83,69,32,70,68,32,70,73,76,69,32,70,73,76,69,45,67,79,78,84,82,79,76,32,70,73,76,76,69,82,32,70,73,82,83,84,32,70,79,82,32,70,82,79,77,32,71,73,86,73,78,71,32,71,76,79,66,65,76,32,71,79,32,71,82,69,65,84,69,82,32,72,73,71,72,45,86,65,76,85,69,32,72,73,71,72,45,86,65,76,85,69,83,32,73,45,79,32,73,45,79,45,67,79,78,84,82,79,76,32,73,68,69,78,84,73,70,73,67,65,84,73,79,78,32,73,70,32,73,78,32,73,78,68,69,88,32,73,78,68,69,88,69,68,32,73,78,73,84,73,65,76,32,73,78,73,84,73,65,76,73,90,69,32,73,78,80,85,84,32,73,78,80,85,84,45,79,85,84,80,85,84,32,73,78,83,80,69,67,84,32,73,78,83,84,65,76,76,65,84,73,79,78,32,73,78,84,79,32,73,78,86,65,76,73,68,32,73,83,32,74,85,83,84,32,74,85,83,84,73,70,73,69,68,32,75,69,89,32,76,65,66,69,76,32,76,69,65,68,73,78,71,32,76,69,70,84,32,76,69,83,83,32,76,73,78,69,32,76,73,78,69,83,32,76,73,78,75,65,71,69,32,76,79,67,75,32,76,79,87,45,86,65,76,85,69,32,76,79,87,45,86,65,76,85,69,83,32,77,69,82,71,69,32,77,79,68,69,32,77,79,86,69,32,77,85,76,84,73,80,76,89,32,78,65,84,73,86,69,32,78,69,71,65,84,73,86,69,32,78,69,88,84,32,78,79,32,78,79,84,32,78,85,77,69,82,73,67,32,78,85,77,69,82,73,67,45,69,68,73,84,69,68,32,79,66,74,69,67,84,45,67,79,77,80,85,84,69,82,32,79,67,67,85,82,83,32,79,70,32,79,70,70,32,79,77,73,84,84,69,68,32,79,78,32,79,80,69,78,32,79,80,84,73,79,78,65,76,32,79,82,32,79,82,68,69,82,32,79,82,71,65,78,73,90,65,84,73,79,78,32,79,84,72,69,82,32,79,85,84,80,85,84,32,79,86,69,82,70,76,79,87,32,80,65,67,75,69,68,45,68,69,67,73,77,65,76,32,80,69,82,70,79,82,77,32,80,73,67,32,80,73,67,84,85,82,69,32,80,79,73,78,84,69,82,32,80,79,83,73,84,73,86,69,32,80,82,79,67,69,68,85,82,69,32,80,82,79,67,69,69,68,32,80,82,79,71,82,65,77,32,80,82,79,71,82,65,77,45,73,68,32,81,85,79,84,69,32,81,85,79,84,69,83,32,82,65,78,68,79,77,32,82,69,65,68,32,82,69,67,79,82,68,32,82,69,67,79,82,68,83,32,82,69,68,69,70,73,78,69,83,32,82,69,70,69,82,69,78,67,69,32,82,69,76,65,84,73,86,69,32,82,69,76,69,65,83,69,32,82,69,77,65,73,78,68,69,82,32,82,69,78,65,77,69,83,32,82,69,80,76,65,67,69,32,82,69,80,76,65,67,73,78,71,32,82,69,84,85,82,78,32,82,69,87,82,73,84,69,32,82,73,71,72,84,32,82,79,85,78,68,69,68,32,82,85,78,32,83,65,77,69,32,83,68,32,83,69,65,82,67,72,32,83,69,67,84,73,79,78,32,83,69,67,85,82,73,84,89,32,83,69,76,69,67,84,32,83,69,78,84,69,78,67,69,32,83,69,80,65,82,65,84,69,32,83,69,81,85,69,78,84,73,65,76,32,83,69,84,32,83,73,71,78,32,83,73,90,69,32,83,79,82,84,32,83,79,82,84,45,77,69,82,71,69,32,83,79,85,82,67,69,45,67,79,77,80,85,84,69,82,32,83,80,65,67,69,32,83,80,65,67,69,83,32,83,80,69,67,73,65,76,45,78,65,77,69,83,32,83,84,65,78,68,65,82,68,32,83,84,65,82,84,32,83,84,65,84,85,83,32,83,84,79,80,32,83,84,82,73,78,71,32,83,85,66,84,82,65,67,84,32,83,89,78,67,32,83,89,78,67,72,82,79,78,73,90,69,68,32,84,65,76,76,89,73,78,71,32,84,69,83,84,32,84,72,65,78,32,84,72,69,78,32,84,72,82,79,85,71,72,32,84,72,82,85,32,84,73,77,69,83,32,84,79,32,84,82,65,73,76,73,78,71,32,84,82,85,69,32,85,78,83,84,82,73,78,71,32,85,78,84,73,76,32,85,80,32,85,80,79,78,32,85,83,65,71,69,32,85,83,73,78,71,32,86,65,76,85,69,32,86,65,76,85,69,83,32,86,65,82,89,73,78,71,32,87,72,69,78,32,87,73,84,72,32,87,79,82,75,73,78,71,45,83,84,79,82,65,71,69,32,87,82,73,84,69,32,90,69,82,79,32,90,69,82,79,69,83,32,90,69,82,79,83,32]),
 some (.fn 81),
 some (.fn 3),
 some (.fn 50),
 some (.fn 99),
 some (.fn 100),
 some (.fn 105),
 some (.fn 107),
 some (.fn 108),
 some (.fn 72),
 some (.fn 103),
 some (.fn 104),
 some (.fn 102),
 some (.fn 101),
 some (.fn 67),
 some (.cls 5),
 some (.fn 80),
 some (.fn 110),
 some (.fn 111),
 some (.fn 106),
 some (.fn 112),
 some (.fn 109)] n
noncomputable def Et (c a:Nat):Option Nat:=match ax [[],[(17,6)],[(34,42),(26,43),(27,44),(28,45),(29,46),(30,47),(31,48),(32,49)],[(17,69)],[(17,71)],[(21,83),(37,84),(33,85),(20,86),(38,87),(24,88),(35,89),(19,90),(36,91),(10,92),(40,93),(18,94),(25,95),(39,96),(22,97),(23,98)]] c with
 | some l=>bW a l
 | none=>none
noncomputable def Eu:Nat->Option Nat
 | 0=>some 0
 | 1=>some 5
 | 2=>some 41
 | 3=>some 68
 | 4=>some 70
 | 5=>some 82
 | _=>none
noncomputable def G2 (c a:Nat):Bool:=match ax [[0,1],[2,3,4,5],[6,7,8,9],[10,11,12],[13,14],[15,4,16]] c with
 | some l=>l.any (Nat.beq a)
 | none=>false
noncomputable def ac:gC:=⟨o0,Et,Eu,JT,G1,5,G2,15,4,16,83,84⟩
end Mine
end
section
open PySem PySem.W PySem.Calls PyProof.Rows
namespace MineH
noncomputable section
theorem stsapp (a n:Nat):sts a n++bodyL.drop (a+n)=bodyL.drop a:=by unfold sts;rw [<- List.drop_drop];exact List.take_append_drop n _
noncomputable abbrev uK (w:World) (N:Nat) (s:Shared) (t:Thread):=topRun treeTable pw w 11 annT N s t
theorem cY {w:World}{os:OsState}{n a m:Nat}{s s':SharedT}{r:Shared}{p p':Pos}(h:cC w n s (piecesOf (sts a m) bY cT p [topFrame bU])=some (.next,s',cT,p'))
   (k: ∃ N,uK w N s'.abs (restOf (bodyL.drop (a+m)) bY cT p' [topFrame bU])=some r): ∃ N,uK w N s.abs (restOf (bodyL.drop a) bY cT p [topFrame bU])=some r:=by
 obtain ⟨N,k⟩:=k
 have:=piece_app (segRun_of h) k
 rw [stsapp] at this
 exact ⟨_,this⟩
theorem AG:bodyL.drop 201=[]:=by kernel_rfl
theorem JU (w:World) (os:OsState):uK w 3 (s36 w os).abs ⟨doneF .next,cT,vx,[topFrame bU]⟩=some (s36 w os).abs:=by kernel_rfl
theorem Ev (w:World) (os:OsState): ∃ N,uK w N (s0 w os).abs (restOf (bodyL.drop 0) bY cT Cz [topFrame bU])=some (s36 w os).abs :=
 cY (os:=os) (congrFun (r1 w) os) <|
 cY (os:=os) (congrFun (r2 w) os) <|
 cY (os:=os) (congrFun (r3 w) os) <|
 cY (os:=os) (congrFun (r4 w) os) <|
 cY (os:=os) (congrFun (r5 w) os) <|
 cY (os:=os) (congrFun (r6 w) os) <|
 cY (os:=os) (congrFun (r7 w) os) <|
 cY (os:=os) (congrFun (r8 w) os) <|
 cY (os:=os) (congrFun (r9 w) os) <|
 cY (os:=os) (congrFun (M8 w) os) <|
 cY (os:=os) (congrFun (IT w) os) <|
 cY (os:=os) (congrFun (M9 w) os) <|
 cY (os:=os) (congrFun (IU w) os) <|
 cY (os:=os) (congrFun (Na w) os) <|
 cY (os:=os) (congrFun (Nb w) os) <|
 cY (os:=os) (congrFun (Nc w) os) <|
 cY (os:=os) (congrFun (Nd w) os) <|
 cY (os:=os) (congrFun (Nf w) os) <|
 cY (os:=os) (congrFun (Ng w) os) <|
 cY (os:=os) (congrFun (Nh w) os) <|
 cY (os:=os) (congrFun (Ni w) os) <|
 cY (os:=os) (congrFun (Nj w) os) <|
 cY (os:=os) (congrFun (Nk w) os) <|
 cY (os:=os) (congrFun (Nl w) os) <|
 cY (os:=os) (congrFun (Nm w) os) <|
 cY (os:=os) (congrFun (Nn w) os) <|
 cY (os:=os) (congrFun (No w) os) <|
 cY (os:=os) (congrFun (Np w) os) <|
 cY (os:=os) (congrFun (Nq w) os) <|
 cY (os:=os) (congrFun (Nr w) os) <|
 cY (os:=os) (congrFun (Nt w) os) <|
 cY (os:=os) (congrFun (Nu w) os) <|
 cY (os:=os) (congrFun (Nv w) os) <|
 cY (os:=os) (congrFun (Nw w) os) <|
 cY (os:=os) (congrFun (Nx w) os) <|
 cY (os:=os) (congrFun (Ny w) os) <|
 ⟨3,by
   show uK w 3 _ (restOf (bodyL.drop 201) bY cT vx [topFrame bU])=_
   rw [AG];exact piece_nil (JU w os)⟩
theorem Ew (w:World) (os:OsState):segRunT treeTable pw w 11 annT 1 1 (s0 w os) (blockOf bodyL bY cT bU [topFrame bU])=some (.next,s0 w os,cT,Cz):=by kernel_rfl
theorem AH:behindTheImports pw=bodyL:=by kernel_rfl
theorem JV (w:World) (os:OsState):topGo treeTable pw w 11 annT 12 ⟨boot_heap w.params,#[],boot_drawn,boot_toks,os⟩ (topStub pw)=some ((s0 w os).abs,⟨denote treeTable cT,cT,bU,[topFrame bU]⟩):=by kernel_rfl
theorem runTop (w:World) (os:OsState): ∃ N,uK w N ⟨boot_heap w.params,#[],boot_drawn,boot_toks,os⟩ (topStub pw)=some (s36 w os).abs:=by
 obtain ⟨N,h⟩:=Ev w os
 have e:cT= .body bodyL bY:=by unfold cT;rw [AH]
 have b:=piece_block (segRun_of (Ew w os)) h
 have p:=JV w os
 rw [e] at b p
 exact ⟨_,go_top p b⟩
end
end MineH
end
section
set_option backward.match.sparseCases false
open PySem PySem.W PySem.Calls PyProof.Rows
namespace Mine
open Ck
noncomputable section
noncomputable def P9:List Str:=(["FIGURES_decimals", "range", "len", "worth_of", "decimal", "str", "abs", "chr", "ord", "capital_of", "WORD_SIGNS", "run_end", "FIGURES_tokens", "capitals", "LETTERS", "MOST_WORD", "MOST_FIGURES", "is_word_sign", "QUOTES", "DOUBLE_SIGNS", "SINGLE_SIGNS", "is_parted", "number_end", "need_apart", "checked_number", "checked_word", "mark_at", "is_blank_at", "is_picture_next", "worth_at", "Token", "add_tokens", "is_part_next", "tuple", "FIGURE_NAMES", "read_figure", "read_ref", "list", "show_ref", "write_decimal", "read_sum", "MOST_DEEP_expressions", "read_product", "sign_among", "read_factor", "read_power", "read_primary", "read_operand", "LEVELS", "show_operand", "show_expression", "reversed", "RELATIONS", "word_here", "WORDS_OF_RELATIONS", "place_of_word", "is_relation_at", "CLASSES", "WORDS_OF_SIGNS", "is_bare_relation_here", "read_expression", "is_predicate_here", "OPPOSITES", "ConditionReader", "show_relation", "show_simple", "joined", "show_body", "show_condition", "show_if", "show_pair", "show_reckoning", "show_data", "show_texts", "show_control", "show_files", "show_statement", "AREA_A", "AREA_B", "tokens_of", "Line", "text_tokens", "worded", "row_tokens", "VERBS", "is_verb_here", "statement_at", "MOST_NEST", "body_at", "is_end", "is_head", "read_head", "Paragraph", "Procedures", "rows_here", "RESERVED", "is_reserved", "read_decimal", "read_condition", "body_here", "name_pair", "_law_take", "_law_statement", "_law_body", "read_continue", "read_exit", "read_stop", "read_goto", "read_if", "procedure_tokens", "Reader", "procedures_by", "_law_choose", "_law_heads", "_law_bag", "_law_is_right", "_law_rows"]:List String).map Str.ofString
noncomputable def Mc:List Str:=(["text", "places", "kind", "worth", "at", "is_in_a", "reader", "is_named", "depth", "last", "name", "section", "statements", "rows", "using", "tokens", "named", "told", "is_sign", "one_of", "is_kind", "peek", "is_number", "signed", "skip", "skip_sign", "both", "turned", "single", "unbracketed", "predicate", "relation", "sign_here", "take", "either", "need", "is_name", "is_done", "is_word", "need_sign", "names"]:List String).map Str.ofString
noncomputable def Qc:List Nat:=[35,117,152,159,166,182,189,203,208,215,222,236,243,262,269,290,297,304,311,318,325,339,355,376,390,397,414,421,429,436,443,450,457,471,478,499,526,533,540,547,554,568,575,582,589,596,603,631,638,645,660,667,688,695,718,725,744,819,866,873,887,935,987,980,994,1000,1007,1014,1029,1036,1057,1062,1090,1097,1104,1111,1118,1125,1132,1137,1144,1151,1171,1179,1186,1200,1208,1215,1222,1229,1236,1251,1258,1265,1273,1280,1287,1294,1301,1336,1343,1350,1357,1364,1371,1378,1385,1392,1397,1404,1411,1416,1421,1426]
noncomputable def Qd:List Nat:=[45,192,648,1039,1079,1325]
noncomputable def nH:List Nat:=[473,655,1106]
noncomputable def Fr:List Lp:=[⟨477,473,⟨371,36,371,76⟩, "read_primary.<locals>.<lambda>"⟩,⟨659,655,⟨530,39,530,84⟩, "read_condition.<locals>.<lambda>"⟩,⟨1110,1106,⟨891,47,891,94⟩, "statement_at.<locals>.<lambda>"⟩]
noncomputable def Qe:List Nat:=[35,44,45,182,189,191,192,568,575,582,589,596,603,631,638,645,647,648,1029,1036,1038,1039,1057,1062,1078,1079,1171,1179,1186,1200,1208,1215,1222,1229,1236,1251,1258,1265,1273,1280,1287,1294,1301,1324,1325]
noncomputable def dL:List Nat:=[347,422,517,516,514]
noncomputable def dC:List Nat->Nat->Bool
 | [],_=>false
 | y::r,x=>match Nat.beq y x with | true=>true | false=>dC r x
noncomputable def jX (P:Params) (a:Nat):Option Obj:=match dC nH a with
 | true=>none
 | false=>match Nat.blt a 1427 with
   | true=>(match (MineH.T36 P).get a with | some o=>alive o | none=>none)
   | false=>none
noncomputable def G3 (o:Option Obj) (n:Str):Option Value:=match o with
 | some ⟨_,_,.dict ⟨es⟩ _,_⟩=>(match es.find? λ e=>e.key.isStr n with | some e=>some e.val | none=>none)
 | _=>none
noncomputable def Fs (F:Nat->Option Obj):List Nat->Frag
 | []=>[]
 | a::r=>match F a with | some o=>(a,o)::Fs F r | none=>Fs F r
theorem Ex (F:Nat->Option Obj) (l:List Nat) (a:Nat) (o:Obj) (h:(Fs F l).lookup a=some o):F a=some o:=by
 induction l with
 | nil=>cases h
 | cons b r ih =>
   unfold Fs at h
   cases e:F b with
   | none=>rw [e] at h;exact ih h
   | some o' =>
     rw [e] at h
     have h:((b,o')::Fs F r).lookup a=some o:=h
     rw [List.lookup_cons] at h
     cases q:(a==b) with
     | true=>rw [q] at h;cases h;rw [eq_of_beq q];exact e
     | false=>rw [q] at h;exact ih h
noncomputable def Ey:List Nat->Nat->Nat
 | [],_=>0
 | x::_,0=>x
 | _::r,n+1=>Ey r n
noncomputable def q7:List Str->Nat->Str->Str
 | [],_,d=>d
 | x::_,0,_=>x
 | _::r,n+1,d=>q7 r n d
noncomputable def uL (a:Nat):Str:=q7 Mc a (ae (List.replicate a 0))
noncomputable def XX (w:World):Cx:=⟨w,MineH.pw,jX w.params,Fr,Fs (jX w.params) Qe,G3 (jX w.params 3),G3 (jX w.params 0),Ey Qc,Ey Qd,λ g=>q7 P9 g "",uL,41,ac⟩
section
variable (X:Cx)
noncomputable def Qf (x:Option (Option Value)) (n:String):Ck (x=some (some (.builtin n))):=match x with
 | some (some (.builtin m))=>(d (m=n)).m λ h=>h▸rfl
 | _=> .no
noncomputable def Md (x:Option (Option Value)) (a:Nat):Ck (x=some (some (.ref a))):=match x with
 | some (some (.ref b))=>(eq b a).m λ h=>h▸rfl
 | _=> .no
noncomputable def Qg (x:Option Value) (n:String):Ck (x=some (.type n)):=match x with
 | some (.type m)=>(d (m=n)).m λ h=>h▸rfl
 | _=> .no
noncomputable def G4 (x v:Value):Ck (x=v):=match x,v with
 | .type m,.type n=>(d (m=n)).m λ h=>h▸rfl
 | .builtin m,.builtin n=>(d (m=n)).m λ h=>h▸rfl
 | .ref m,.ref n=>(eq m n).m λ h=>h▸rfl
 | _,_=> .no
noncomputable def JW (x:Option (Option Value)):Ck (x=some none):=match x with
 | some none=> .yes rfl
 | _=> .no
noncomputable def G5 {α:Type}(x:Option α):Ck (∃ y,x=some y):=match x with
 | some y=> .yes ⟨y,rfl⟩
 | none=> .no
noncomputable def all (P:Nat->Prop) (f: ∀ n,Ck (P n)):(n:Nat)->Ck (∀ a,a < n->P a)
 | 0=> .yes λ _ h=>absurd h (Nat.not_lt_zero _)
 | n+1=>(all P f n).t λ h=>(f n).m λ h' a l=>(Nat.lt_succ_iff_lt_or_eq.mp l).elim (h a) λ e=>e▸h'
noncomputable abbrev G6 (c:Nat):Prop:= ∀ f,X.T.init c=some f->findIn X.K (.ref (X.clsA c)) "__init__" = some (some (.ref (X.fnA f)))/\typeIn X.K (.ref (X.fnA f))=some (.type "function")/\ ∃ fd,X.T.fn f=some fd
noncomputable def G7 (c:Nat):Ck (G6 X c):=match h:X.T.init c with
 | some f=>(Md (findIn X.K (.ref (X.clsA c)) "__init__") (X.fnA f)).t λ g1=>(Qg (typeIn X.K (.ref (X.fnA f))) "function").t λ g2=>(G5 (X.T.fn f)).m λ g3=>λ f' e=>by rw [h] at e;cases e;exact ⟨g1,g2,g3⟩
 | none=> .yes λ f' e=>by rw [h] at e;cases e
noncomputable def JX (f:Nat):Ck ((∃ fd,X.T.fn f=some fd)\/f=X.T.peek\/f=X.T.done):=match h:X.T.fn f with
 | some fd=> .yes (.inl ⟨fd,rfl⟩)
 | none=>(b (Nat.beq f X.T.peek||Nat.beq f X.T.done)).m λ z=> .inr ((Bool.or_eq_true_iff.mp z).imp Rq Rq)
noncomputable abbrev G8 (c a:Nat):Prop:= ∀ f,X.T.meth c a=some f->findIn X.K (.ref (X.clsA c)) (X.aname a)=some (some (.ref (X.fnA f)))/\isFn X.K (.ref (X.fnA f))=true/\((∃ fd,X.T.fn f=some fd)\/f=X.T.peek\/f=X.T.done)
noncomputable def G9 (c a:Nat):Ck (G8 X c a):=match h:X.T.meth c a with
 | some f=>(Md (findIn X.K (.ref (X.clsA c)) (X.aname a)) (X.fnA f)).t λ g1=>(b (isFn X.K (.ref (X.fnA f)))).t λ g2=>(JX X f).m λ g3=>λ f' e=>by rw [h] at e;cases e;exact ⟨g1,g2,g3⟩
 | none=> .yes λ f' e=>by rw [h] at e;cases e
noncomputable abbrev Ha (c a:Nat):Prop:=X.T.isF c a=true->findIn X.K (.ref (X.clsA c)) (X.aname a)=some none
noncomputable def Hb (c a:Nat):Ck (Ha X c a):=match h:X.T.isF c a with
 | true=>(JW (findIn X.K (.ref (X.clsA c)) (X.aname a))).m λ g _=>g
 | false=> .yes λ e=>by rw [h] at e;cases e
noncomputable def Hc (c:Nat):Ck (vX X c) :=
 (b (makesIn X.K (X.clsA c))).t λ h1=>(b (plainGet X.K (X.clsA c) "")).t λ h2=>(b (hasDictIn X.K (X.clsA c))).t λ h3=>(b (plainOver X.K (X.clsA c))).t λ h4=>(Qf (findIn X.K (.ref (X.clsA c)) "__setattr__") "object.__setattr__").t λ h5=>(b (keepIn X.K (.ref (X.clsA c)))).t λ h6 =>
 (G7 X c).t λ h7=>(all _ (G9 X c) X.na).t λ h8=>(all _ (Hb X c) X.na).m λ h9=>⟨h1,h2,h3,h4,h5,h6,h7,λ a f l=>h8 a l f,λ a l=>h9 a l⟩
noncomputable def xS:(l:List DictEntry)->Ck (∀ e ∈ l,∃ n t,e.key= .str n t)
 | []=> .yes λ _ h=>nomatch h
 | ⟨_,.str n t,_⟩::l=>(xS l).m λ h e m=>(List.mem_cons.mp m).elim (λ q=>q▸⟨n,t,rfl⟩) (h e)
 | _=> .no
noncomputable def Ez (a:Nat):Ck (iS X a (G3 (X.base a))):=match h:X.base a with
 | some ⟨c,dd,.dict ⟨es⟩ ep,sl⟩=>(xS es).m λ k=>⟨_,⟨es⟩,ep,h,rfl,λ e m=>k e (by simpa using m),λ n=>by
     unfold nsFind findBy G3
     simp only [List.find?_toArray]
     cases es.find? _<;>rfl⟩
 | _=> .no
noncomputable def JY:Value->Str
 | .str x _=>x
 | _ => ""
noncomputable def jY (es:List DictEntry):Prop:=es.map (·.hash)=es.map λ e=>PyData.keyHash X.w.params (JY e.key)
noncomputable def EA:Option Obj->List DictEntry
 | some ⟨_,_,.dict ⟨es⟩ _,_⟩=>es
 | _=>[]
variable (hk: ∀ a,dC dL a=true->jY X (EA (X.base a)))
mutual
noncomputable def Iz:(w:W)->(v:Value)->Ck (RW X X.base v w)
 | .none,v=>match v with | .none=> .yes .none | _=> .no
 | .bool x,v=>match v with | .bool y=>(d (y=x)).m λ h=>h▸ .bool _ | _=> .no
 | .int x,v=>match v with | .int y t=>(d (y=x)).m λ h=>h▸ .int _ _ | _=> .no
 | .str x,v=>match v with | .str y t=>(s y (ae x)).t λ h=>(le x.length cw).m λ l=>h▸ .str _ _ l | _=> .no
 | .tup ws,v=>match v with
   | .ref a=>match h:X.base a with
     | some ⟨c,dd,.seq ⟨vs⟩ n,sl⟩=>(G4 c (.type "tuple")).t λ h1=>(le vs.length cw).t λ l=>(EB ws vs).m λ h2=> .tup h h1 rfl l h2
     | _=> .no
   | _=> .no
 | .dct l,v=>match v with
   | .ref a=>match hE:dC dL a with
     | true=>match h:X.base a with
       | some ⟨c,none,.dict ⟨es⟩ n,⟨[]⟩⟩=>(G4 c (.type "dict")).t λ h1=>(f (a==sysModules)).t λ h2=>(Hd l es (by have:=hk a hE;rw [h] at this;exact this)).m λ h3=> .dct h ⟨h1,rfl,rfl⟩ rfl h2 h3
       | _=> .no
     | false=> .no
   | _=> .no
 | .fn g,v=>match v with
   | .ref a=>(eq a (X.fnA g)).t λ h1=>(G5 (X.T.fn g)).m λ h2=>h2.elim λ fd h2=>h1▸ .fn g fd h2
   | _=> .no
 | .cls c,v=>match v with
   | .ref a=>(eq a (X.clsA c)).m λ h=>h▸ .cls c
   | _=> .no
 | .bi x,v=>(G4 v (si x)).m λ h=>h▸ .bi x
 | _,_=> .no
noncomputable def EB:(ws:List W)->(vs:List Value)->Ck (cF X X.base vs ws)
 | [],[]=> .yes .nil
 | w::ws,v::vs=>(Iz w v).t λ h=>(EB ws vs).m λ h'=> .cons h h'
 | _,_=> .no
noncomputable def Hd:(ws:List (List Nat×W))->(es:List DictEntry)->jY X es->Ck (kM X X.base es ws)
 | [],[],_=> .yes .nil
 | (k,w)::ws,⟨hh,.str x t,v⟩::es,H=>(s x (ae k)).t λ h=>(Iz w v).t λ h1=>(Hd ws es (by unfold jY at H ⊢; simp only [List.map_cons,List.cons.injEq] at H;exact H.2)).m λ h2=> .cons ⟨t,by rw [h],by
     unfold jY at H;simp only [List.map_cons,List.cons.injEq] at H;rw [<- h];exact H.1⟩ h1 h2
 | _,_,_=> .no
end
noncomputable abbrev IA (g:Nat):Prop:= ∀ w,X.T.gval g=some w-> ∃ v,RW X X.base v w/\(X.mg (X.gname g)=some v\/(X.mg (X.gname g)=none/\X.mb (X.gname g)=some v))
noncomputable def Qh (sp:IA X 95) (g:Nat):Ck (IA X g):=match hs:Nat.beq g 95 with
 | true=> .yes (Rq hs▸sp)
 | false=>match h:X.T.gval g with
   | none=> .yes λ w e=>by rw [h] at e;cases e
   | some w=>match h1:X.mg (X.gname g) with
     | some v=>(Iz X hk w v).m λ t w' e=>by rw [h] at e;cases e;exact ⟨v,t,.inl h1⟩
     | none=>match h2:X.mb (X.gname g) with
       | some v=>(Iz X hk w v).m λ t w' e=>by rw [h] at e;cases e;exact ⟨v,t,.inr ⟨h1,h2⟩⟩
       | none=> .no
noncomputable def He (c:Nat) (q:Str):Ck (∃ oc vs t,X.base c=some oc/\oc.data= .fields vs/\vs[1]?=some (.str q t)):=match h:X.base c with
 | some ⟨_,_,.fields ⟨_:: .str q' t::r⟩,_⟩=>(s q' q).m λ e=>⟨_,_,t,rfl,rfl,by rw [<- e];rfl⟩
 | _=> .no
variable (C:bM X)
noncomputable def rR (ps:List Str):Sc->List Str
 | []=>[]
 | (x,k)::r=>match Gg (some k)&& !(ps.any λ y=>y==x)&& !(x==("." ++ "0" : Str)) with
   | true=>x::rR ps r
   | false=>rR ps r
noncomputable def Hf (v:Value):(n:List W)->Ck (∃ ds,((v= .none/\ds=[])\/ ∃ T o n,v= .ref T/\X.base T=some o/\o.data= .seq ds.toArray n)/\cF X X.base ds n)
 | []=>match v with
   | .none=> .yes ⟨[],.inl ⟨rfl,rfl⟩,.nil⟩
   | _=> .no
 | ws=>match v with
   | .ref T=>match h:X.base T with
     | some ⟨_,_,.seq ⟨vs⟩ n,_⟩=>(EB X hk ws vs).m λ h2=>⟨vs,.inr ⟨T,_,n,rfl,h,rfl⟩,h2⟩
     | _=> .no
   | _=> .no
noncomputable def EC (d0:Fd) (a:Nat):Ck (mQ X d0 a):=match h0:X.base a with
 | some ⟨oc,od,.func fd,os⟩=>match h1:fd.closure,h2:fd.code,h3:fd.body with
   | [],.ref c,.stmts bo =>
     (λ nm=>(b (dK fd.params)).t λ g1=>(eq fd.globals mainGlobals).t λ g2=>(eq fd.builtins builtinsNs).t λ g3=>(He X c fd.qualname).t λ g4=>(Hf X hk fd.defaults d0.dfl).t λ g5=>(le d0.dfl.length d0.np).t λ g6=>(ls s (fd.params.args.map (·.arg)) (nm.take d0.np)).t λ g7 =>
       (le d0.np nm.length).t λ g8=>(eq nm.length d0.nv).t λ g9=>(d nm.Nodup).t λ Fh=>(d (fd.scope.kind= .function)).t λ Cy=>(f fd.scope.isGenerator).t λ yW=>(f fd.scope.isCoroutine).t λ FB=>(b (nm.all λ x=>fd.scope.names.lookup x==some .local||fd.scope.names.lookup x==some .cell)).t λ Bm =>
       (uJ C (some (c,fd.qualname ++ ".<locals>.")) fd.scope.names nm d0.body bo).m λ H9=>g5.elim λ ds g5=>(.mk h0 rfl ⟨g1,h1,g2,g3,h2,g4,h3,g5.1,g5.2,by rw [g5.2.length];exact g6,g7,g8,g9,Fh,Cy,yW,FB,λ x hx=>by
         have:=List.all_eq_true.mp Bm x hx
         rcases Bool.or_eq_true_iff.mp this with q | q
         · exact .inl (eq_of_beq q)
         · exact .inr (eq_of_beq q)⟩ H9)) (fd.params.args.map (·.arg)++rR (fd.params.args.map (·.arg)) fd.scope.names)
   | _,_,_=> .no
 | _=> .no
noncomputable def Qi (f:Nat):Ck (∀ d0,X.T.fn f=some d0->mQ X d0 (X.fnA f)):=match h:X.T.fn f with
 | some d0=>(EC X hk C d0 (X.fnA f)).m λ t d1 e=>by cases e;exact t
 | none=> .yes λ d1 e=>by cases e
end
end
end Mine
end
section
set_option backward.match.sparseCases false
open PySem PySem.W PySem.Calls PyProof.Rows
namespace Mine
open Ck
noncomputable section
theorem io (l:List Nat) (a:Nat) (h:dC l a=true):a ∈ l:=by
 induction l with
 | nil=>cases h
 | cons y r ih =>
   unfold dC at h
   cases e:Nat.beq y a with
   | true=>rw [Rq e];exact List.mem_cons_self
   | false=>rw [e] at h;exact Rk _ (ih h)
theorem ED (w:World) (a:Nat) (h:a ∈ dL):jY (XX w) (EA ((XX w).base a)):=by
 cases h with
 | head=>show _=_;kernel_rfl
 | tail _ h=>cases h with
   | head=>show _=_;kernel_rfl
   | tail _ h=>cases h with
     | head=>show _=_;kernel_rfl
     | tail _ h=>cases h with
       | head=>show _=_;kernel_rfl
       | tail _ h=>cases h with
         | head=>show _=_;kernel_rfl
         | tail _ h=>cases h
theorem hk (w:World) (a:Nat) (h:dC dL a=true):jY (XX w) (EA ((XX w).base a)):=ED w a (io _ _ h)
noncomputable def hM (P:Nat->Prop) (f: ∀ n,Ck (P n)) (a:Nat):(n:Nat)->Ck (∀ i,i < n->P (a+i))
 | 0=> .yes λ _ h=>absurd h (Nat.not_lt_zero _)
 | n+1=>(hM P f a n).t λ h=>(f (a+n)).m λ h' i l=>(Nat.lt_succ_iff_lt_or_eq.mp l).elim (h i) λ e=>e▸h'
theorem ez {P:Nat->Prop}{a n:Nat}(h: ∀ i,i < n->P (a+i)) {x:Nat}(h1:a<=x) (h2:x < a+n):P x:=by
 obtain ⟨i,rfl⟩:=Nat.le.dest h1
 exact h i (Nat.lt_of_add_lt_add_left h2)
noncomputable def o1:List Nat:=match o0 95 with | some (.str x)=>x | _=>[]
noncomputable def AI:List Char:=o1.map Char.ofNat
theorem tj:Str.ofString (String.ofList AI)=ae o1:=(Fast.ofString_ofList AI).trans (by kernel_rfl)
theorem EE (w:World):(XX w).mg ((XX w).gname 95)=some (.str (Str.ofString (String.ofList AI)) 1935):=by kernel_rfl
theorem EF:o0 95=some (.str o1):=by kernel_rfl
theorem sp (w:World):IA (XX w) 95:=λ v e=>by
 have e:o0 95=some v:=e
 rw [EF] at e
 cases e
 exact ⟨_,.str o1 1935 (Rm (by kernel_rfl)),.inl ((EE w).trans (by rw [tj]))⟩
noncomputable abbrev gp (w:World):Nat->Prop:=IA (XX w)
noncomputable def gc (w:World): ∀ g,Ck (gp w g):=Qh (XX w) (hk w) (sp w)
theorem Qj (w:World):(hM (gp w) (gc w) 0 60).ok=true:=by kernel_rfl
theorem Qk (w:World):(hM (gp w) (gc w) 60 57).ok=true:=by kernel_rfl
theorem JZ (w:World) (g:Nat):gp w g:=by
 by_cases h:g < 60
 · exact ez (Ck.get _ (Qj w)) (Nat.zero_le _) h
 by_cases h':g < 117
 · exact ez (Ck.get _ (Qk w)) (Ry h) h'
 · obtain ⟨i,rfl⟩:=Nat.le.dest (Ry h')
   intro v e
   rw [Nat.add_comm] at e
   cases (show (none:Option W)=some v from e)
noncomputable def Me:List Nat->List Nat->Bool
 | [],[]=>true
 | x::a,y::b=>match Nat.beq x y with | true=>Me a b | false=>false
 | _,_=>false
noncomputable def Hg:List Str->Nat->List Nat->Nat
 | [],_,x=>x.length
 | y::r,i,x=>match Me y.cps.toList x with | true=>i | false=>Hg r (i+1) x
noncomputable def AJ (x:Str):Nat:=Hg Mc 0 x.cps.toList
theorem J0:(all (λ a=>AJ (uL a)=a) (λ a=>Ck.eq _ _) 41).ok=true:=by kernel_rfl
theorem Hh (i:Nat):AJ (uL (i+41))=i+41:=(show _=(List.replicate (i+41) 0).length by kernel_rfl).trans List.length_replicate
theorem xT (a:Nat):AJ (uL a)=a:=by
 by_cases h:a < 41
 · exact Ck.get _ J0 a h
 · obtain ⟨i,rfl⟩:=Nat.le.dest (Ry h)
   rw [Nat.add_comm]
   exact Hh i
theorem anj (a b:Nat) (h:uL a=uL b):a=b:=(xT a).symm.trans ((congrArg AJ h).trans (xT b))
theorem Ql (w:World):(Ez (XX w) 3).ok=true:=by kernel_rfl
theorem Qm (w:World):(Ez (XX w) 2).ok=true:=by kernel_rfl
theorem Qn (w:World):(Ez (XX w) 0).ok=true:=by kernel_rfl
theorem J1 (w:World):(all (vX (XX w)) (Hc (XX w)) 6).ok=true:=by kernel_rfl
section
variable (X:Cx)
noncomputable def Hi (L:Lp):Prop:= ∃ o vs file tf flags tg inF text tt,X.base L.code=some o/\o.cls= .type "code" /\ o.data= .fields vs/\vs.getD 11 .none= .ref L.place/\vs.getD 18 .none= .str file tf/\vs.getD 7 .none= .int flags tg/\vs.getD 9 .none= .bool inF/\vs.getD 10 .none= .int text tt/\L.code≠L.place
noncomputable def J2 (L:Lp):Ck (Hi X L):=match h:X.base L.code with
 | some ⟨c,dd,.fields vs,sl⟩=>match h1:vs.getD 11 .none,h2:vs.getD 18 .none,h3:vs.getD 7 .none,h4:vs.getD 9 .none,h5:vs.getD 10 .none with
   | .ref p,.str f tf,.int fl tg,.bool b,.int tx tt=>(G4 c (.type "code")).t λ g1=>(Ck.eq p L.place).t λ g2=>(Ck.f (Nat.beq L.code L.place)).m λ g3 =>
     ⟨_,vs,f,tf,fl,tg,b,tx,tt,h,g1,rfl,by rw [h1,g2],h2,h3,h4,h5,λ e=>by rw [e,Nat.beq_refl] at g3;cases g3⟩
   | _,_,_,_,_=> .no
 | _=> .no
noncomputable def B8:(l:List Lp)->Ck (∀ L ∈ l,Hi X L)
 | []=> .yes λ _ h=>nomatch h
 | L::l=>(J2 X L).t λ h=>(B8 l).m λ h' M m=>(List.mem_cons.mp m).elim (λ e=>e▸h) (h' M)
noncomputable def Hj (a:Nat):Ck (∃ o,X.base a=some o/\o.cls= .type "module" /\ o.dict=some builtinsNs/\o.data= .plain):=match h:X.base a with
 | some ⟨c,some dd,.plain,sl⟩=>(G4 c (.type "module")).t λ g1=>(Ck.eq dd builtinsNs).m λ g2=>⟨_,rfl,g1,congrArg some g2,rfl⟩
 | _=> .no
noncomputable abbrev Mf (g:Nat):Prop:= ∀ c,X.T.gval g=some (.cls c)->(X.T.init c).isSome=true
noncomputable def J3 (g:Nat):Ck (Mf X g):=match h:X.T.gval g with
 | some (.cls c)=>(b (X.T.init c).isSome).m λ t d e=>by rw [h] at e;cases e;exact t
 | none=> .yes λ d e=>by rw [h] at e;cases e
 | some .none=> .yes λ d e=>by rw [h] at e;cases e
 | some (.bool _)=> .yes λ d e=>by rw [h] at e;cases e
 | some (.int _)=> .yes λ d e=>by rw [h] at e;cases e
 | some (.str _)=> .yes λ d e=>by rw [h] at e;cases e
 | some (.tup _)=> .yes λ d e=>by rw [h] at e;cases e
 | some (.dct _)=> .yes λ d e=>by rw [h] at e;cases e
 | some (.fn _)=> .yes λ d e=>by rw [h] at e;cases e
 | some (.bi _)=> .yes λ d e=>by rw [h] at e;cases e
 | _=> .no
end
noncomputable def J4 (w:World) (f:Nat):Ck (∃ fd,vY (XX w) f fd):=match h:(XX w).base ((XX w).fnA f) with
 | some ⟨_,_,.func fd,_⟩=> .yes ⟨fd,_,h,rfl⟩
 | _=> .no
theorem Qp (w:World):(all (λ f=> ∃ fd,vY (XX w) f fd) (J4 w) 114).ok=true:=by kernel_rfl
theorem J5 (w:World):(B8 (XX w) (XX w).lps).ok=true:=by kernel_rfl
theorem Hk (w:World):(Hj (XX w) 4).ok=true:=by kernel_rfl
theorem Qq (w:World):(all (Mf (XX w)) (J3 (XX w)) 117).ok=true:=by kernel_rfl
theorem EG (w:World):(XX w).mg ("__builtins__" : Str)=some (.ref 4):=by kernel_rfl
theorem J6 (w:World):(XX w).mg ("reversed" : Str)=none:=by kernel_rfl
theorem J7 (w:World):(XX w).mb ("reversed" : Str)=some (.type "reversed"):=by kernel_rfl
theorem sysm (w:World):((XX w).base sysModules).isSome=true:=by kernel_rfl
theorem nolim (w:World):G3 ((XX w).base 2) "sys.recursionlimit" = none:=by kernel_rfl
theorem xU (w:World):bM (XX w) where
 kin:=Ex _ _
 nsg:=Ck.get _ (Ql w)
 nsb:=Ck.get _ (Qn w)
 glob:=JZ w
 revd:=⟨J6 w,J7 w⟩
 anj:=anj
 cls:=λ c h=>by
   by_cases h6:c < 6
   · exact Ck.get _ (J1 w) c h6
   · obtain ⟨i,rfl⟩:=Nat.le.dest (Ry h6)
     rw [Nat.add_comm] at h
     cases (show false=true from h)
 clsG:=λ g c h=>by
   by_cases h6:g < 117
   · exact Ck.get _ (Qq w) g h6 c h
   · obtain ⟨i,rfl⟩:=Nat.le.dest (Ry h6)
     rw [Nat.add_comm] at h
     cases (show (none:Option W)=some _ from h)
 rdr:=rfl
 sysm:=sysm w
 bins:=let ⟨o,h⟩:=Ck.get _ (Hk w);⟨4,o,EG w,(by decide),h⟩
 lpc:=Ck.get _ (J5 w)
 nolim:=⟨_,Ck.get _ (Qm w),nolim w⟩
 rdrF:=rfl
 rdrD:=⟨(by decide:(16:Nat)≠15),(by decide:(16:Nat)≠4),(by decide:(4:Nat)≠15)⟩
 fnd:=λ f h=>by
   by_cases h6:f < 114
   · exact Ck.get _ (Qp w) f h6
   · rcases h with h | h | h
     · obtain ⟨i,rfl⟩:=Nat.le.dest (Ry h6)
       rw [Nat.add_comm] at h
       cases (show false=true from h)
     · exact absurd (h▸(by decide:(83:Nat) < 114)) h6
     · exact absurd (h▸(by decide:(84:Nat) < 114)) h6
noncomputable abbrev fp (w:World):Nat->Prop:=λ f=> ∀ d0,(XX w).T.fn f=some d0->mQ (XX w) d0 ((XX w).fnA f)
noncomputable def fc (w:World): ∀ f,Ck (fp w f):=Qi (XX w) (hk w) (xU w)
theorem Qr (w:World):(hM (fp w) (fc w) 0 20).ok=true:=by kernel_rfl
theorem Qs (w:World):(hM (fp w) (fc w) 20 20).ok=true:=by kernel_rfl
theorem Qt (w:World):(hM (fp w) (fc w) 40 20).ok=true:=by kernel_rfl
theorem Qu (w:World):(hM (fp w) (fc w) 60 20).ok=true:=by kernel_rfl
theorem Qv (w:World):(hM (fp w) (fc w) 80 20).ok=true:=by kernel_rfl
theorem Qw (w:World):(hM (fp w) (fc w) 100 14).ok=true:=by kernel_rfl
theorem J8 (w:World) (f:Nat):fp w f:=by
 by_cases h1:f < 20
 · exact ez (Ck.get _ (Qr w)) (Nat.zero_le _) h1
 by_cases h2:f < 40
 · exact ez (Ck.get _ (Qs w)) (Ry h1) h2
 by_cases h3:f < 60
 · exact ez (Ck.get _ (Qt w)) (Ry h2) h3
 by_cases h4:f < 80
 · exact ez (Ck.get _ (Qu w)) (Ry h3) h4
 by_cases h5:f < 100
 · exact ez (Ck.get _ (Qv w)) (Ry h4) h5
 by_cases h6:f < 114
 · exact ez (Ck.get _ (Qw w)) (Ry h5) h6
 · obtain ⟨i,rfl⟩:=Nat.le.dest (Ry h6)
   intro v e
   rw [Nat.add_comm] at e
   cases (show (none:Option Fd)=some v from e)
noncomputable def J9 (w:World):Ck (mQ (XX w) (Eb (XX w).T 2) ((XX w).fnA 83)):=EC (XX w) (hk w) (xU w) _ _
noncomputable def Ka (w:World):Ck (mQ (XX w) (Ec (XX w).T 2) ((XX w).fnA 84)):=EC (XX w) (hk w) (xU w) _ _
theorem Kb (w:World):(J9 w).ok=true:=by kernel_rfl
theorem Kd (w:World):(Ka w).ok=true:=by kernel_rfl
theorem EH (w:World):mt (XX w) 2:=⟨⟨rfl,rfl⟩,J8 w,Ck.get _ (Kb w),Ck.get _ (Kd w)⟩
theorem Ke (w:World) (d:Nat):fz (XX w) d (aa ac d):=mu (xU w) (EH w) d
end
end Mine
end
section
open PySem
namespace Mine
theorem up {a b n:Nat}(h:Nat.ble a b=true:=by rfl):a<=n+b:=Rl (Rm h) (Rv ..)
theorem Qx {a b m n:Nat}(h:m+b<=n) (k:Nat.ble a b=true:=by rfl):a<=n:=Rl (Rm k) (Rl (Rv ..) h)
local macro_rules
 | `(tactic| omega)=> `(tactic| first | exact up | exact Qx (by assumption) | lia)
section
theorem g0:ac.gval 0=some (.str [48,49,50,51,52,53,54,55,56,57]):=rfl
theorem g1:ac.gval 1=some (.bi .range):=rfl
theorem g2:ac.gval 2=some (.bi .len):=rfl
theorem g3:ac.gval 3=some (.fn 2):=rfl
theorem g4:ac.gval 4=some (.fn 1):=rfl
theorem g5:ac.gval 5=some (.bi .str):=rfl
theorem g6:ac.gval 6=some (.bi .abs):=rfl
theorem g7:ac.gval 7=some (.bi .chr):=rfl
theorem g8:ac.gval 8=some (.bi .ord):=rfl
theorem g9:ac.gval 9=some (.fn 7):=rfl
theorem Fh:ac.gval 10=some (.str [65,66,67,68,69,70,71,72,73,74,75,76,77,78,79,80,81,82,83,84,85,86,87,88,89,90,48,49,50,51,52,53,54,55,56,57,45]):=rfl
theorem Cy:ac.gval 11=some (.fn 11):=rfl
theorem yW:ac.gval 12=some (.str [48,49,50,51,52,53,54,55,56,57]):=rfl
theorem FB:ac.gval 13=some (.fn 8):=rfl
theorem Bm:ac.gval 14=some (.str [65,66,67,68,69,70,71,72,73,74,75,76,77,78,79,80,81,82,83,84,85,86,87,88,89,90]):=rfl
theorem H9:ac.gval 15=some (.int 30):=rfl
theorem K7:ac.gval 16=some (.int 18):=rfl
theorem K8:ac.gval 17=some (.fn 9):=rfl
theorem Ia:ac.gval 18=some (.str [34,39]):=rfl
theorem K9:ac.gval 19=some (.str [42,42,32,60,61,32,62,61]):=rfl
theorem IJ:ac.gval 20=some (.str [40,41,58,43,45,42,47,61,60,62]):=rfl
theorem IK:ac.gval 21=some (.fn 10):=rfl
theorem Ib:ac.gval 22=some (.fn 12):=rfl
theorem Ic:ac.gval 23=some (.fn 15):=rfl
theorem IL:ac.gval 24=some (.fn 14):=rfl
theorem IM:ac.gval 25=some (.fn 13):=rfl
theorem Id:ac.gval 26=some (.fn 16):=rfl
theorem Ie:ac.gval 27=some (.fn 18):=rfl
theorem IN:ac.gval 28=some (.fn 19):=rfl
theorem IO:ac.gval 29=some (.fn 17):=rfl
theorem Ig:ac.gval 30=some (.cls 1):=rfl
theorem Qy:ac.gval 31=some (.fn 20):=rfl
theorem IB:ac.gval 33=some (.bi .tuple):=rfl
theorem Kf:ac.gval 66=some (.fn 54):=rfl
theorem Mg:ac.gval 67=some (.fn 56):=rfl
theorem Mh:ac.gval 68=some (.fn 53):=rfl
theorem Qz:ac.gval 69=some (.fn 60):=rfl
theorem QA:ac.gval 71=some (.fn 62):=rfl
theorem QB:ac.gval 72=some (.fn 57):=rfl
theorem QC:ac.gval 73=some (.fn 58):=rfl
theorem QD:ac.gval 74=some (.fn 61):=rfl
theorem QE:ac.gval 75=some (.fn 63):=rfl
theorem Ft:ac.gval 76=some (.fn 64):=rfl
theorem QF:ac.gval 78=some (.int 12):=rfl
theorem QG:ac.gval 79=some (.fn 21):=rfl
theorem QH:ac.gval 80=some (.cls 0):=rfl
theorem QI:ac.gval 81=some (.fn 65):=rfl
theorem QJ:ac.gval 83=some (.fn 66):=rfl
theorem Kg:ac.gval 85=some (.fn 73):=rfl
theorem QK:ac.gval 86=some (.fn 75):=rfl
theorem QL:ac.gval 87=some (.int 12):=rfl
theorem Mi:ac.gval 88=some (.fn 74):=rfl
theorem Kh:ac.gval 89=some (.fn 77):=rfl
theorem Mj:ac.gval 90=some (.fn 76):=rfl
theorem QM:ac.gval 91=some (.fn 78):=rfl
theorem IC:ac.gval 92=some (.cls 3):=rfl
theorem Mk:ac.gval 93=some (.cls 4):=rfl
theorem Ml:ac.gval 98=some (.fn 50):=rfl
theorem Mm:ac.gval 99=some (.fn 99):=rfl
theorem jZ:ac.gval 101=some (.fn 105):=rfl
theorem AK:ac.gval 102=some (.fn 107):=rfl
theorem EI:ac.gval 103=some (.fn 108):=rfl
theorem Ki:ac.gval 109=some (.fn 67):=rfl
theorem Kj:ac.gval 111=some (.fn 80):=rfl
theorem Kk:ac.gval 112=some (.fn 110):=rfl
theorem Kl:ac.gval 113=some (.fn 111):=rfl
theorem Km:ac.gval 114=some (.fn 106):=rfl
theorem Kn:ac.gval 115=some (.fn 112):=rfl
theorem Ko:ac.gval 116=some (.fn 109):=rfl
noncomputable def ft:Option (Fl×St)->Option (Fl×ab)
 | some (f,s)=>some (f,s.slo)
 | none=>none
noncomputable def frame (as:List V) (fd:Fd):Option (List (Option V)):=match pD as fd.np fd.dfl with
 | some bs=>some (bs++List.replicate (fd.nv - fd.np) none)
 | none=>none
theorem ao {i d:Nat}(l0:List (Option V)) {fd:Fd}{as:List V}{loc:List (Option V)}{slo slo' sl:ab}{v:V}(hp:Nat.beq i 83=false) (hd:Nat.beq i 84=false) (hf:ac.fn i=some fd)
   (hb:frame as fd=some l0) (ha:gM slo fd.mks=true) (hr:ft (aL ac (aa ac d) fd.body ⟨l0,slo⟩)=some (.ret v,slo')) (hl:dl fd.mks v slo'=some sl) :
   aa ac (d+1) (.w (.fn i)) as ⟨loc,slo⟩=some (v,⟨loc,sl⟩):=by
 have hp':Nat.beq i ac.peek=false:=hp
 have hd':Nat.beq i ac.done=false:=hd
 unfold frame at hb
 split at hb
 · rename_i bs hbs
   cases hb
   unfold ft at hr
   split at hr
   · rename_i f s e
     cases hr
     simp only [aa,xL,pF,hp',hd',hf,nT,hbs,ha,e,B4,hl]
   · cases hr
 · cases hb
theorem kB {i d:Nat}(l0:List (Option V)) {fd:Fd}{as:List V}{loc:List (Option V)}{slo slo' sl:ab}(hp:Nat.beq i 83=false) (hd:Nat.beq i 84=false) (hf:ac.fn i=some fd)
   (hb:frame as fd=some l0) (ha:gM slo fd.mks=true) (hr:ft (aL ac (aa ac d) fd.body ⟨l0,slo⟩)=some (.next,slo')) (hl:dl fd.mks (.w .none) slo'=some sl) :
   aa ac (d+1) (.w (.fn i)) as ⟨loc,slo⟩=some (.w .none,⟨loc,sl⟩):=by
 have hp':Nat.beq i ac.peek=false:=hp
 have hd':Nat.beq i ac.done=false:=hd
 unfold frame at hb
 split at hb
 · rename_i bs hbs
   cases hb
   unfold ft at hr
   split at hr
   · rename_i f s e
     cases hr
     simp only [aa,xL,pF,hp',hd',hf,nT,hbs,ha,e,B4,hl]
   · cases hr
 · cases hb
theorem rS {o:Option (V×St)}{v:V}{s:St}{w:W}(h:o=some (v,s)) (hw:mV v=some w):dU o=some (w,s):=by rw [h];simp only [au,hw]
theorem o3 {o:Option (V×St)}{s:St}{b:Bool}(h:o=some (.w (.bool b),s)):mY o=some (b,s):=by rw [h];rfl
theorem B9:Bool.xor true true=false:=rfl
theorem yT:Bool.xor true false=true:=rfl
theorem Kp:Bool.xor false true=true:=rfl
theorem EJ:Bool.xor false false=false:=rfl
theorem hN {i:Int}:aC 40 (.int i)=true:=rfl
theorem iI {i j:Int}:gE (.int i) (.int j)=(i==j):=by simp only [gE,aY]
theorem qy {cf:bP}{e:E}{r:Es}{v:V}{vs:List V}{s s1 s2:St}(h1:am ac cf e s=some (v,s1)) (h2:dA ac cf r s1=some (vs,s2)):dA ac cf (.cons e r) s=some (frz v::vs,s2):=by
 simp only [aP,aX,h1,h2]
structure At (t:List Nat) (i:Nat) (r:List Nat):Prop where
 drop:t.drop i=r
 le:i<=t.length
theorem At.len {t:List Nat}{i:Nat}{r:List Nat}(h:At t i r):t.length=i+r.length:=by
 have:=h.le;rw [<- h.drop,List.length_drop];lia
theorem At.next {t:List Nat}{i c:Nat}{r:List Nat}(h:At t i (c::r)):At t (i+1) r:=by
 refine ⟨?_,?_⟩
 · rw [<- List.drop_drop,h.drop];rfl
 · have:=h.len;rw [List.length_cons] at this;lia
theorem At.app {t:List Nat}: ∀ {w:List Nat}{i:Nat}{r:List Nat},At t i (w++r)->At t (i+w.length) r
 | [],_,_,h=>h
 | c::w,i,r,h=>by have:=(At.next h).app;rw [List.length_cons];rwa [Nat.add_assoc,Nat.add_comm 1] at this
theorem At.sub {t:List Nat}{i c:Nat}{r:List Nat}(h:At t i (c::r)):dz (.str t) (.int (i:Int))=some (.str [c]):=by
 have hl:i < t.length:=by have:=h.len;rw [List.length_cons] at this;lia
 have e1:fe (i:Int) t.length=some i:=by
   show (match Nat.blt i t.length with | true=>some i | false=>none)=_
   rw [show Nat.blt i t.length=true from Rp hl]
 have e2:t[i]?=some c:=by
   have:=congrArg List.head? h.drop
   rw [List.head?_drop] at this;exact this
 simp only [dz,aY,IX,e1,e2]
theorem At.lt {t:List Nat}{i c:Nat}{r:List Nat}(h:At t i (c::r)):decide ((i:Int) < (t.length:Int))=true:=by
 have:=h.len;rw [List.length_cons] at this;exact decide_eq_true (by omega)
theorem At.nlt {t:List Nat}{i:Nat}(h:At t i []):decide ((i:Int) < (t.length:Int))=false:=by
 have:=h.len;rw [List.length_nil] at this;exact decide_eq_false (by omega)
theorem At.nge {t:List Nat}{i:Nat}(h:At t i []):decide ((t.length:Int)<=(i:Int))=true:=by
 have:=h.len;rw [List.length_nil] at this;exact decide_eq_true (by omega)
theorem At.cut {t:List Nat}{i:Nat}{r:List Nat}(h:At t i r) (k:Nat):vE (.str t) (.int (i:Int)) (.int ((i+k:Nat):Int))=some (.str (r.take k)):=by
 have e:eG t i (i+k)=r.take k:=by
   unfold eG;rw [List.drop_take,h.drop];congr 1;lia
 show some (W.str (eG t i (i+k)))=_
 rw [e]
theorem xV {i:Nat}:(i:Int)+1=((i+1:Nat):Int):=rfl
theorem AL {i:Nat}:(i:Int)+2=((i+2:Nat):Int):=rfl
theorem Hl {i k:Nat}:(i:Int)+(k:Int)=((i+k:Nat):Int):=rfl
theorem eJ {α:Type}{two:Bool}{cl:List (Option V)}{cnd elt:St->Option (V×St)}{sl:ab}(g:α->W) (keep:α->Bool) (f:α->W): ∀ (L:List α) (s:St),s.slo=sl ->
   (∀ a ∈ L,∃ ts lc,fR two (g a)=some ts/\cnd ⟨ts++cl,sl⟩=some (.w (.bool (keep a)),⟨lc,sl⟩)/\(keep a=true-> ∃ v lc2,elt ⟨lc,sl⟩=some (v,⟨lc2,sl⟩)/\mV v=some (f a))) ->
   ∃ lc,compLoop two cl cnd elt (L.map g) s=some ((L.filter keep).map f,⟨lc,sl⟩)
 | [],s,hs,_=>⟨s.loc,by subst hs;rfl⟩
 | a::L,s,hs,h=>by
   subst hs
   obtain ⟨ts,lc,h1,h2,h3⟩:=h a List.mem_cons_self
   cases k:keep a with
   | false =>
     obtain ⟨lc',ih⟩:=eJ g keep f L ⟨lc,s.slo⟩ rfl λ b hb=>h b (Rk _ hb)
     refine ⟨lc',?_⟩
     rw [List.filter_cons,k,List.map_cons]
     simp only [compLoop,h1,o3 h2,k,ih];rfl
   | true =>
     obtain ⟨v,lc2,h4,h5⟩:=h3 k
     obtain ⟨lc',ih⟩:=eJ g keep f L ⟨lc2,s.slo⟩ rfl λ b hb=>h b (Rk _ hb)
     refine ⟨lc',?_⟩
     rw [List.filter_cons,k,List.map_cons]
     rw [k] at h2
     simp only [compLoop,h1,o3 h2,rS h4 h5,ih];rfl
theorem kW {α:Type}{cf:bP}{g:α->W}{keep:α->Bool}{f:α->W}{cid:Nat}{elt iter cond:E}{two:Bool}{caps:List Nat}{s s1:St}{v:V}{iw:W}{cl:List (Option V)}(L:List α)
   (hit:am ac cf iter s=some (v,s1)) (hw:mV v=some iw) (hi:br iw=some (L.map g)) (hc:c9 s1.loc caps=some cl)
   (h: ∀ a ∈ L,∃ ts lc,fR two (g a)=some ts/\am ac cf cond ⟨ts++cl,s1.slo⟩=some (.w (.bool (keep a)),⟨lc,s1.slo⟩)/\(keep a=true-> ∃ v lc2,am ac cf elt ⟨lc,s1.slo⟩=some (v,⟨lc2,s1.slo⟩)/\mV v=some (f a))) :
   am ac cf (.comp cid elt two iter true cond caps) s=some (.own ((L.filter keep).map f),s1):=by
 obtain ⟨lc,e⟩:=eJ (two:=two) (cl:=cl) (cnd:=λ s=>am ac cf cond s) (elt:=λ s=>am ac cf elt s) g keep f L s1 rfl h
 rw [ju]
 simp only [rS hit hw,hi,hc,e]
theorem eV {α:Type}{cf:bP}{g:α->W}{f:α->W}{cid:Nat}{elt iter cond:E}{two:Bool}{caps:List Nat}{s s1:St}{v:V}{iw:W}{cl:List (Option V)}(L:List α)
   (hit:am ac cf iter s=some (v,s1)) (hw:mV v=some iw) (hi:br iw=some (L.map g)) (hc:c9 s1.loc caps=some cl)
   (h: ∀ a ∈ L,∃ ts,fR two (g a)=some ts/\ ∃ v lc2,am ac cf elt ⟨ts++cl,s1.slo⟩=some (v,⟨lc2,s1.slo⟩)/\mV v=some (f a)) :
   am ac cf (.comp cid elt two iter false cond caps) s=some (.own (L.map f),s1):=by
 obtain ⟨lc,e⟩:=eJ (two:=two) (cl:=cl) (cnd:=λ s=>some (.w (.bool true),s)) (elt:=λ s=>am ac cf elt s) g (λ _=>true) f L s1 rfl λ a ha=>by
   obtain ⟨ts,h1,v,lc2,h2,h3⟩:=h a ha
   exact ⟨ts,ts++cl,h1,rfl,λ _=>⟨v,lc2,h2,h3⟩⟩
 rw [List.filter_eq_self.mpr λ _ _=>rfl] at e
 rw [ju]
 simp only [rS hit hw,hi,hc,e]
theorem eW {t:St->Option (V×St)}{b:St->Option (Fl×St)}{n:Nat}{s s1 s2:St}{r:Option (Fl×St)}(ht:t s=some (.w (.bool true),s1)) (hb:b s1=some (.next,s2)\/b s1=some (.cont,s2)) (hr:bt t b n s2=r):bt t b (n+1) s=r:=by
 rcases hb with hb | hb<;>simp only [bt,o3 ht,hb,hr]
theorem jw {t:St->Option (V×St)}{b:St->Option (Fl×St)}{n:Nat}{s s1:St}(ht:t s=some (.w (.bool false),s1)):bt t b (n+1) s=some (.next,s1):=by simp only [bt,o3 ht]
theorem de {i:Nat}{b:St->Option (Fl×St)}{x:W}{l:List W}{s s2:St}{r:Option (Fl×St)}(hb:b (s.put i (.w x))=some (.next,s2)\/b (s.put i (.w x))=some (.cont,s2)) (hr:bV i b l s2=r):bV i b (x::l) s=r:=by
 rcases hb with hb | hb<;>simp only [bV,hb,hr]
theorem AM {i:Nat}{b:St->Option (Fl×St)}{x:W}{l:List W}{s s2:St}{v:V}(hb:b (s.put i (.w x))=some (.ret v,s2)):bV i b (x::l) s=some (.ret v,s2):=by
 simp only [bV,hb]
end
section
set_option genCtorIdx true in
inductive Lf where
 | g1 | g2 | ct | ex | st | xp
inductive cL where
 | lf (k:Lf)
 | ife (c:Bool) (a b:cL)
 | iff (c:Bool) (a b o:cL)
noncomputable abbrev Tx:=List Nat
noncomputable def jE:Tx:=[73,70]
noncomputable def cM:Tx:=[84,72,69,78]
noncomputable def eE:Tx:=[69,76,83,69]
noncomputable def dV:Tx:=[69,78,68,45,73,70]
noncomputable def Hm:Tx:=[71,79]
noncomputable def Kq:Tx:=[84,79]
noncomputable def Mn:Tx:=[79,70]
noncomputable def Hn:Tx:=[80,45,49]
noncomputable def nI:Tx:=[76,65,83,84]
noncomputable def Cb:Tx:=[83,45,65]
noncomputable def ID:Tx:=[67,79,78,84,73,78,85,69]
noncomputable def Ho:Tx:=[69,88,73,84]
noncomputable def IE:Tx:=[83,84,79,80]
noncomputable def Hp:Tx:=[82,85,78]
noncomputable def Hq:Tx:=[80,82,79,71,82,65,77]
noncomputable def Fu:Tx:=[73,83,45,79,78]
noncomputable def wN:Tx:=[78]
noncomputable def yU:Tx:=[60]
noncomputable def w3:Tx:=[51]
noncomputable def bC:Tx:=[46]
noncomputable def cg:Tx:=[119,111,114,100]
noncomputable def dk:Tx:=[115,105,103,110]
noncomputable def qz:Tx:=[110,117,109,98,101,114]
noncomputable def gD:Lf->W
 | .g1=> .tup [.str [103,111,116,111],.tup [.str Hn,.str []]]
 | .g2=> .tup [.str [103,111,116,111],.tup [.str nI,.str Cb]]
 | .ct=> .tup [.str [99,111,110,116,105,110,117,101]]
 | .ex=> .tup [.str [101,120,105,116]]
 | .st=> .tup [.str [115,116,111,112]]
 | .xp=> .tup [.str [101,120,105,116,45,112,114,111,103,114,97,109]]
noncomputable def eX:Lf->List Tx
 | .g1=>[Hm,Kq,Hn]
 | .g2=>[Hm,Kq,nI,Mn,Cb]
 | .ct=>[ID]
 | .ex=>[Ho]
 | .st=>[IE,Hp]
 | .xp=>[Ho,Hq]
noncomputable def hO:Bool->W
 | true=> .tup [.str [110,97,109,101,100],.tup [.str [114,101,102],.str Fu,.tup [],.tup [],.none]]
 | false=> .tup [.str [114,101,108],.str yU,.tup [.str [114,101,102],.str wN,.tup [],.tup [],.none],.tup [.str qz,.tup [.int 3,.int 0]]]
noncomputable def dt:Bool->List Tx
 | true=>[Fu]
 | false=>[wN,yU,w3]
noncomputable def j0:W:= .str [105,102]
noncomputable def bH:cL->W
 | .lf k=>gD k
 | .ife c a b=> .tup [j0,hO c,.tup [bH a,bH b],.tup []]
 | .iff c a b o=> .tup [j0,hO c,.tup [bH a,bH b],.tup [bH o]]
noncomputable def bh:cL->List Tx
 | .lf k=>eX k
 | .ife c a b=>jE::(dt c++(cM::((bh a++bh b)++[dV])))
 | .iff c a b o=>jE::(dt c++(cM::((bh a++bh b)++(eE::(bh o++[dV])))))
noncomputable def kX:cL->Nat
 | .lf _=>0
 | .ife _ a b=>max (kX a) (kX b)+1
 | .iff _ a b o=>max (max (kX a) (kX b)) (kX o)+1
noncomputable def tx (ws:List Tx):Tx:=cZ [32] ws
noncomputable def bz (ws:List Tx):Nat:=ei 1 ws
theorem du: ∀ st:cL,bh st≠[]
 | .lf k=>by cases k<;>simp [bh,eX]
 | .ife .. => by simp [bh]
 | .iff .. => by simp [bh]
theorem nJ (n:Nat): ∀ a b:List Tx,ei n (a++b)=ei n a+ei n b
 | [],b=>by simp [ei]
 | x::a,b=>by simp only [List.cons_append,ei,nJ n a b];lia
theorem ba (a b:List Tx):bz (a++b)=bz a+bz b:=nJ 1 a b
theorem eK (a:Tx) (b:List Tx):bz (a::b)=a.length+1+bz b:=rfl
theorem gn: ∀ {a b:List Tx},a≠[]->b≠[]->tx (a++b)=tx a++32::tx b
 | [x],y::b,_,_=>by simp [tx,cZ]
 | x::x'::a,b,_,h=>by
   have:=gn (a:=x'::a) (b:=b) (by simp) h
   unfold tx at this ⊢
   simp only [List.cons_append,cZ] at this ⊢
   rw [this];simp
theorem rT: ∀ {a:List Tx},a≠[]->(tx a).length+1=bz a
 | [x],_=>by simp [tx,cZ,bz,ei]
 | x::y::a,_=>by
   have:=rT (a:=y::a) (by simp)
   unfold tx bz at this ⊢
   simp only [cZ,ei,List.length_append,List.length_cons,List.length_nil] at this ⊢
   lia
theorem kY: ∀ {L:List (List Tx)},(∀ l ∈ L,l≠[])->tx (L.map tx)=tx L.flatten
 | [],_=>rfl
 | [a],h=>by simp [tx,cZ]
 | a::b::L,h=>by
   have hb:=h b (by simp)
   have e:=kY (L:=b::L) (λ l hl=>h l (by simp [hl]))
   have ne:(b::L).flatten≠[]:=by
     rw [List.flatten_cons];intro q;exact hb (List.append_eq_nil_iff.mp q).1
   rw [List.flatten_cons,gn (h a (by simp)) ne,<- e]
   rw [List.map_cons,List.map_cons]
   show cZ [32] (tx a::tx b::L.map tx)=_
   show tx a++[32]++cZ [32] (tx b::L.map tx)=_
   simp [tx]
theorem ip: ∀ {L:List (List Tx)},(∀ l ∈ L,l≠[])->bz (L.map tx)=bz L.flatten
 | [],_=>rfl
 | a::L,h=>by
   rw [List.map_cons,eK,List.flatten_cons,ba,<- ip (λ l hl=>h l (by simp [hl])),<- rT (h a (by simp))]
noncomputable def qA (x:Tx):Bool:= !(x==[])
theorem o5 {L:List (List Tx)}(h: ∀ l ∈ L,tx l≠[]):(L.map tx).filter qA=L.map tx:=by
 rw [List.filter_eq_self]
 intro x hx
 obtain ⟨l,hl,rfl⟩:=List.mem_map.mp hx
 unfold qA
 rw [beq_eq_false_iff_ne.mpr (h l hl)];rfl
theorem mw: ∀ l:List Tx,eM (l.map W.str)=some l
 | []=>rfl
 | x::l=>by simp only [List.map,eM,a7,mw l]
theorem kJ:cw=16777216:=rfl
theorem tl {ps:List Tx}(h:bz ps<=16777216):vc .join (.str [32]) [.lst (ps.map W.str)]=some (.str (tx ps)):=by
 have:Nat.ble (ei ([32]:Tx).length ps) cw=true:=Rp h
 simp only [vc,be,a7,Ik,bQ,mT,mw,this];rfl
theorem Hr {a:W}{l:List W}:dz (.tup (a::l)) (.int 0)=some a:=rfl
theorem xW {a b:W}{l:List W}:dz (.tup (a::b::l)) (.int 1)=some b:=rfl
theorem Hs {a b c:W}{l:List W}:dz (.tup (a::b::c::l)) (.int 2)=some c:=rfl
theorem Ht {a b c d:W}{l:List W}:dz (.tup (a::b::c::d::l)) (.int 3)=some d:=rfl
section
variable {d:Nat}{loc:List (Option V)}{sl:ab}
theorem Kr (hd:1<=d) {ps:List Tx}(hl:bz (ps.filter qA)<=16777216):aa ac d (.w (.fn 54)) [.w (.lst (ps.map W.str))] ⟨loc,sl⟩=some (.w (.str (tx (ps.filter qA))),⟨loc,sl⟩):=by
 obtain ⟨d,rfl⟩:=Rj hd
 refine ao (i:=54) [some (.w (.lst (ps.map W.str)))] rfl rfl rfl rfl rfl (slo':=sl) ?_ rfl
 have h:=kW (cf:=aa ac d) (g:=W.str) (keep:=qA) (f:=W.str) (cid:=0) (elt:= .var 0) (iter:= .var 0) (cond:= .cmp false (.var 0) .NotEq (.cst (.str []))) (two:=false) (caps:=[]) (s:=⟨[some (.w (.lst (ps.map W.str)))],sl⟩) ps rfl rfl rfl rfl
   (λ a _=>⟨_,_,rfl,rfl,λ _=>⟨_,_,rfl,rfl⟩⟩)
 simp only [ft,LQ,LO,bv,aV,hC,az,au,aq,aX,h,aP,aB,aZ,tl hl]
theorem Ks (hd:2<=d) {α:Type}(g:α->W) (tf:α->List Tx) {L:List α}(hL:L≠[]) (hn: ∀ a ∈ L,tx (tf a)≠[]/\tf a≠[]) (hl:bz (L.map tf).flatten<=16777216)
   (h: ∀ a ∈ L,∀ loc,aa ac (d - 1) (.w (.fn 64)) [.w (g a)] ⟨loc,sl⟩=some (.w (.str (tx (tf a))),⟨loc,sl⟩)) :
   aa ac d (.w (.fn 56)) [.w (.tup (L.map g)),.w (.fn 64)] ⟨loc,sl⟩=some (.w (.str (tx (L.map tf).flatten)),⟨loc,sl⟩):=by
 obtain ⟨d,rfl⟩:=Rj hd
 refine ao (d:=d+1) (i:=56) [some (.w (.tup (L.map g))),some (.w (.fn 64))] rfl rfl rfl rfl rfl (slo':=sl) ?_ rfl
 have hm: ∀ l ∈ L.map tf,l≠[]:=λ l hl=>by obtain ⟨a,ha,rfl⟩:=List.mem_map.mp hl;exact (hn a ha).2
 have hm2: ∀ l ∈ L.map tf,tx l≠[]:=λ l hl=>by obtain ⟨a,ha,rfl⟩:=List.mem_map.mp hl;exact (hn a ha).1
 have h1:=eV (cf:=aa ac (d+1)) (g:=g) (f:=λ a=> .str (tx (tf a))) (cid:=0) (elt:= .call false (.var 1) (.cons (.var 0) .nil)) (iter:= .var 0) (cond:= .no) (two:=false) (caps:=[1]) (s:=⟨[some (.w (.tup (L.map g))),some (.w (.fn 64))],sl⟩) L rfl rfl rfl rfl
   (λ a ha=>⟨_,rfl,_,_,by
     have:=h a ha
     simp only [List.cons_append,List.nil_append,al,ag,af,ax,ah,aX,aP,aB,ak]
     exact h a ha _,rfl⟩)
 have e:(L.map λ a=>W.str (tx (tf a)))=((L.map tf).map tx).map W.str:=by simp [List.map_map]
 have h2:=Kr (d:=d+1) (loc:=[some (.w (.tup (L.map g))),some (.w (.fn 64))]) (sl:=sl) (by omega) (ps:=(L.map tf).map tx) (by rw [o5 hm2,ip hm];exact hl)
 rw [o5 hm2,kY hm,<- e] at h2
 cases L with
 | nil=>exact absurd rfl hL
 | cons a L =>
   have e0:((((g a::L.map g).length:Nat):Int)==0)=false:=by rw [beq_eq_false_iff_ne];simp;lia
   simp only [List.map] at h1 h2
   simp only [ft,LS,LR,List.map,bv,bB,aI,al,av,g2,aX,ag,af,ax,ah,aP,aB,ak,cu,a0,aZ,aq,bw,bx,be,bJ,ci,au,az,aJ,ce,a7,dj,hN,Bool.and_self,iI,e0,aU,aT,cJ,aV,Kf,h1,h2]
end
end
section
theorem xX (w:Tx):tx [w]=w:=rfl
theorem kZ {w:Tx}: ∀ {ws:List Tx},ws≠[]->tx (w::ws)=w++32::tx ws:=λ h=>gn (a:=[w]) (by simp) h
theorem mx {c:Nat}{w:Tx}: ∀ {r:List Tx},tx ((c::w)::r)≠[]
 | []=>by simp [xX]
 | y::r=>by rw [kZ (by simp)];simp
theorem o6: ∀ st:cL,tx (bh st)≠[]
 | .lf k=>by cases k<;>exact mx
 | .ife .. => mx
 | .iff .. => mx
theorem qB {a b:List Tx}(ha:a≠[]) (hb:b≠[]):tx (a++b)≠[]:=by rw [gn ha hb];simp
theorem my {a:List Tx}(h:a≠[]):(tx a).length < bz a:=by have:=rT h;lia
section
variable {n d:Nat}{loc:List (Option V)}{sl:ab}
theorem QN (k:Lf):aa ac (n+12) (.w (.fn 64)) [.w (gD k)] ⟨loc,sl⟩=some (.w (.str (tx (eX k))),⟨loc,sl⟩):=by
 cases k
 · kernel_rfl
 · kernel_rfl
 · kernel_rfl
 · kernel_rfl
 · kernel_rfl
 · kernel_rfl
theorem Mo (c:Bool):aa ac (n+12) (.w (.fn 53)) [.w (hO c)] ⟨loc,sl⟩=some (.w (.str (tx (dt c))),⟨loc,sl⟩):=by
 cases c
 · kernel_rfl
 · kernel_rfl
theorem Kt {r:List W}:aa ac (n+3) (.w (.fn 62)) [.w (.tup (j0::r)),.w (.fn 64)] ⟨loc,sl⟩=some (.w (.str []),⟨loc,sl⟩):=by kernel_rfl
theorem Ku {r:List W}:aa ac (n+3) (.w (.fn 57)) [.w (.tup (j0::r)),.w (.fn 64)] ⟨loc,sl⟩=some (.w (.str []),⟨loc,sl⟩):=by kernel_rfl
theorem Kv {r:List W}:aa ac (n+3) (.w (.fn 58)) [.w (.tup (j0::r)),.w (.fn 64)] ⟨loc,sl⟩=some (.w (.str []),⟨loc,sl⟩):=by kernel_rfl
theorem Kw (hd:1<=d) {r:List W}{v:W}(h: ∀ loc,aa ac (d - 1) (.w (.fn 60)) [.w (.tup (j0::r)),.w (.fn 64)] ⟨loc,sl⟩=some (.w v,⟨loc,sl⟩)) :
   aa ac d (.w (.fn 61)) [.w (.tup (j0::r)),.w (.fn 64)] ⟨loc,sl⟩=some (.w v,⟨loc,sl⟩):=by
 obtain ⟨d,rfl⟩:=Rj hd
 refine ao (i:=61) [some (.w (.tup (j0::r))),some (.w (.fn 64)),none] rfl rfl rfl rfl rfl (slo':=sl) ?_ rfl
 have h':=λ loc=>h loc
 simp only [Nat.add_sub_cancel] at h'
 have e:([105,102]==[105,102])=true:=rfl
 simp only [ft,LU,LT,j0,bv,aW,bc,ag,af,ax,ah,az,au,aq,bq,Hr,aj,aM,bB,aI,aJ,ce,a7,e,aU,aT,aV,al,av,Qz,aX,aP,aB,ak,cJ,dj,xI,bX,bj,eA,cu,a0,eh,be,cR,bw,gy,bx,d8,aY,hK,bJ,ci,bQ,i4,ky,i5,cj,ck,gk,List.cons_append,List.nil_append,hC,D1,aZ]
 unfold j0 at h'
 simp only [h']
theorem Hu (hd:4<=d) {r:List W}{c:Nat}{t:Tx}(h: ∀ loc,aa ac (d - 2) (.w (.fn 60)) [.w (.tup (j0::r)),.w (.fn 64)] ⟨loc,sl⟩=some (.w (.str (c::t)),⟨loc,sl⟩)) :
   aa ac d (.w (.fn 64)) [.w (.tup (j0::r))] ⟨loc,sl⟩=some (.w (.str (c::t)),⟨loc,sl⟩):=by
 obtain ⟨d,rfl⟩:=Rj hd
 refine ao (d:=d+3) (i:=64) [some (.w (.tup (j0::r))),none,none] rfl rfl rfl rfl rfl (slo':=sl) ?_ rfl
 have e0:(([]:Tx)==[])=true:=rfl
 have e1:(c::t==[])=false:=rfl
 have h4: ∀ loc,aa ac (d+3) (.w (.fn 61)) [.w (.tup (j0::r)),.w (.fn 64)] ⟨loc,sl⟩=some (.w (.str (c::t)),⟨loc,sl⟩):=λ loc=>Kw (by omega) h
 have hf:bn ac (aa ac (d+3)) (.for_ 0 1 (.tup (.cons (.glo 71) (.cons (.glo 72) (.cons (.glo 73) (.cons (.glo 74) (.cons (.glo 75) .nil)))))) (.cons (.asg 2 (.call false (.var 1) (.cons (.var 0) (.cons (.glo 76) .nil)))) (.cons (.ifs (.cmp false (.var 2) .NotEq (.cst (.str []))) (.cons (.ret (.var 2)) .nil) .nil) .nil))) ⟨[some (.w (.tup (j0::r))),none,none],sl⟩=some (.ret (.w (.str (c::t))),⟨[some (.w (.tup (j0::r))),some (.w (.fn 61)),some (.w (.str (c::t)))],sl⟩):=by
   rw [fq]
   simp only [bR,aX,av,QA,QB,QC,QD,QE,aP,aB,aZ,aq,au,br,bv,aW,al,ag,af,ah,aj,ak,cu,a0,eh,be,cR,bj,eA,bw,gy,bx,d8,aY,hK,bJ,ci,bQ,i4,ky,a7,i5,bB,aI,az,aJ,ce,dj,eU,aU,aT,aV,cJ]
   refine de (.inl ?_) (s2:=⟨[some (.w (.tup (j0::r))),some (.w (.fn 62)),some (.w (.str []))],sl⟩) (de (.inl ?_) (s2:=⟨[some (.w (.tup (j0::r))),some (.w (.fn 57)),some (.w (.str []))],sl⟩) (de (.inl ?_) (s2:=⟨[some (.w (.tup (j0::r))),some (.w (.fn 58)),some (.w (.str []))],sl⟩) (AM ?_)))
   · simp only [aj,aM,ax,Ft,Kt,e0,Bool.not_true]
   · simp only [aj,aM,ax,Ft,Ku,e0,Bool.not_true]
   · simp only [aj,aM,ax,Ft,Kv,e0,Bool.not_true]
   · simp only [aj,aM,ax,Ft,h4,e1,Bool.not_false]
 simp only [ft,LX,LV,bv,hf]
theorem EL (hd:1<=d) {L:List (List Tx)}(hL: ∀ l ∈ L,l≠[]/\tx l≠[]) (hl:bz L.flatten<=16777216):aa ac d (.w (.fn 54)) [.w (.lst ((L.map tx).map W.str))] ⟨loc,sl⟩=some (.w (.str (tx L.flatten)),⟨loc,sl⟩):=by
 have e:=o5 (L:=L) λ l h=>(hL l h).2
 have:=Kr (loc:=loc) (sl:=sl) hd (ps:=L.map tx) (by rw [e,ip λ l h=>(hL l h).1];exact hl)
 rw [e,kY λ l h=>(hL l h).1] at this
 exact this
end
end
section
theorem tn (c:Bool):dt c≠[]/\tx (dt c)≠[]:=by cases c<;>exact ⟨by simp [dt],mx⟩
theorem j1 {w:Tx}(h:w≠[]):[w]≠[]/\tx [w]≠[]:=⟨by simp,h⟩
theorem uM (c:Bool) (a b:cL): ∀ l ∈ [[jE],dt c,[cM],bh a++bh b,[dV]],l≠[]/\tx l≠[]:=by
 intro l hl
 simp only [List.mem_cons,List.not_mem_nil,or_false] at hl
 rcases hl with rfl | rfl | rfl | rfl | rfl
 · exact j1 (by decide)
 · exact tn c
 · exact j1 (by decide)
 · exact ⟨by simp [du],qB (du a) (du b)⟩
 · exact j1 (by decide)
theorem uN (c:Bool) (a b o:cL): ∀ l ∈ [[jE],dt c,[cM],bh a++bh b,eE::bh o,[dV]],l≠[]/\tx l≠[]:=by
 intro l hl
 simp only [List.mem_cons,List.not_mem_nil,or_false] at hl
 rcases hl with rfl | rfl | rfl | rfl | rfl | rfl
 · exact j1 (by decide)
 · exact tn c
 · exact j1 (by decide)
 · exact ⟨by simp [du],qB (du a) (du b)⟩
 · exact ⟨by simp,mx⟩
 · exact j1 (by decide)
theorem jy (c:Bool) (a b:cL):[[jE],dt c,[cM],bh a++bh b,[dV]].flatten=bh (.ife c a b):=by
 simp [bh,List.flatten]
theorem hR (c:Bool) (a b o:cL):[[jE],dt c,[cM],bh a++bh b,eE::bh o,[dV]].flatten=bh (.iff c a b o):=by
 simp [bh,List.flatten]
theorem mz {l:List Tx}{L:List (List Tx)}(h:l ∈ L):bz l<=bz L.flatten:=by
 induction L with
 | nil=>cases h
 | cons m L ih =>
   rw [List.flatten_cons,ba]
   exact (List.mem_cons.mp h).elim (λ e=>e▸Ru ..) λ h=>Rl (ih h) (Rv ..)
theorem o7 {n:Nat}{c:Bool}{a b:cL}(h:bz (bh (.ife c a b))<=n):bz (bh a++bh b)<=n/\bz (bh a)<=n/\bz (bh b)<=n:=by
 have:=Rl (mz (l:=bh a++bh b) (L:=[[jE],dt c,[cM],bh a++bh b,[dV]]) (.tail _ (.tail _ (.tail _ (.head _))))) (by rw [jy];exact h)
 refine ⟨this,?_⟩
 rw [ba] at this
 exact ⟨Rl (Ru ..) this,Rl (Rv ..) this⟩
theorem k9 {n:Nat}{c:Bool}{a b o:cL}(h:bz (bh (.iff c a b o))<=n):bz (bh a++bh b)<=n/\bz (bh o)+5<=n/\bz (bh a)<=n/\bz (bh b)<=n/\bz (bh o)<=n:=by
 have t:=Rl (mz (l:=bh a++bh b) (L:=[[jE],dt c,[cM],bh a++bh b,eE::bh o,[dV]]) (.tail _ (.tail _ (.tail _ (.head _))))) (by rw [hR];exact h)
 have u:=Rl (mz (l:=eE::bh o) (L:=[[jE],dt c,[cM],bh a++bh b,eE::bh o,[dV]]) (.tail _ (.tail _ (.tail _ (.tail _ (.head _)))))) (by rw [hR];exact h)
 rw [eK,Nat.add_comm] at u
 refine ⟨t,u,?_⟩
 rw [ba] at t
 exact ⟨Rl (Ru ..) t,Rl (Rv ..) t,Rl (Ru ..) u⟩
section
variable {n d:Nat}{loc:List (Option V)}{sl:ab}
theorem QO (hd:16<=d) {c:Bool}{a b:cL}(hl:bz (bh (.ife c a b))<=16777210)
   (h: ∀ x ∈ [a,b],∀ loc,aa ac (d - 2) (.w (.fn 64)) [.w (bH x)] ⟨loc,sl⟩=some (.w (.str (tx (bh x))),⟨loc,sl⟩)) :
   aa ac d (.w (.fn 60)) [.w (bH (.ife c a b)),.w (.fn 64)] ⟨loc,sl⟩=some (.w (.str (tx (bh (.ife c a b)))),⟨loc,sl⟩):=by
 obtain ⟨d,rfl⟩:=Rj hd
 refine ao (d:=d+15) (i:=60) [some (.w (bH (.ife c a b))),some (.w (.fn 64)),none] rfl rfl rfl rfl rfl (slo':=sl) ?_ rfl
 have hl2:=(o7 hl).1
 have h56: ∀ loc,aa ac (d+15) (.w (.fn 56)) [.w (.tup [bH a,bH b]),.w (.fn 64)] ⟨loc,sl⟩=some (.w (.str (tx (bh a++bh b))),⟨loc,sl⟩):=λ loc=>by
   have:=Ks (loc:=loc) (sl:=sl) (d:=d+15) up bH bh (L:=[a,b]) (by simp) (λ x _=>⟨o6 x,du x⟩) (by simpa using Rl hl2 (Rm rfl)) h
   simpa using this
 have h53: ∀ loc,aa ac (d+15) (.w (.fn 53)) [.w (hO c)] ⟨loc,sl⟩=some (.w (.str (tx (dt c))),⟨loc,sl⟩):=λ loc=>Mo (n:=d+3) c
 have h54: ∀ loc,aa ac (d+15) (.w (.fn 54)) [.w (.lst [.str jE,.str (tx (dt c)),.str cM,.str (tx (bh a++bh b)),.str [],.str dV])] ⟨loc,sl⟩=some (.w (.str (tx (bh (.ife c a b)))),⟨loc,sl⟩):=λ loc=>by
   have p:=uM c a b
   have:=Kr (loc:=loc) (sl:=sl) (d:=d+15) up (ps:=[jE,tx (dt c),cM,tx (bh a++bh b),[],dV])
   have e:[jE,tx (dt c),cM,tx (bh a++bh b),[],dV].filter qA=[[jE],dt c,[cM],bh a++bh b,[dV]].map tx:=by
     rw [<- o5 (L:=[[jE],dt c,[cM],bh a++bh b,[dV]]) λ l h=>(p l h).2]
     simp only [List.map,xX,List.filter]
     cases qA jE<;>cases qA (tx (dt c))<;>cases qA cM<;>cases qA (tx (bh a++bh b))<;>rfl
   rw [e,ip λ l h=>(p l h).1,jy] at this
   rw [kY λ l h=>(p l h).1,jy] at this
   exact this (Rl hl (Rm rfl))
 have e0:((((([]:List W).length):Nat):Int)==0)=true:=rfl
 unfold bH
 unfold jE cM dV at h54
 simp only [ft,Jx,Jw,bv,aW,dq,aI,al,av,g2,aX,bc,ag,af,ax,ah,az,au,aq,bq,Ht,aP,aB,ak,cu,a0,aZ,bw,bx,be,bJ,ci,aJ,ce,a7,dj,hN,Bool.and_self,iI,e0,aU,aT,aj,aM,aV,Kf,cV,Mh,xW,h53,Mg,Hs,h56,h54]
theorem Kx (hd:16<=d) {c:Bool}{a b o:cL}(hl:bz (bh (.iff c a b o))<=16777210)
   (h: ∀ x ∈ [a,b,o],∀ loc,aa ac (d - 2) (.w (.fn 64)) [.w (bH x)] ⟨loc,sl⟩=some (.w (.str (tx (bh x))),⟨loc,sl⟩)) :
   aa ac d (.w (.fn 60)) [.w (bH (.iff c a b o)),.w (.fn 64)] ⟨loc,sl⟩=some (.w (.str (tx (bh (.iff c a b o)))),⟨loc,sl⟩):=by
 obtain ⟨d,rfl⟩:=Rj hd
 refine ao (d:=d+15) (i:=60) [some (.w (bH (.iff c a b o))),some (.w (.fn 64)),none] rfl rfl rfl rfl rfl (slo':=sl) ?_ rfl
 have hl2:=k9 hl
 have h56: ∀ loc,aa ac (d+15) (.w (.fn 56)) [.w (.tup [bH a,bH b]),.w (.fn 64)] ⟨loc,sl⟩=some (.w (.str (tx (bh a++bh b))),⟨loc,sl⟩):=λ loc=>by
   have:=Ks (loc:=loc) (sl:=sl) (d:=d+15) up bH bh (L:=[a,b]) (by simp) (λ x _=>⟨o6 x,du x⟩) (by simpa using Rl hl2.1 (Rm rfl)) (λ x hx=>h x (by simp at hx ⊢; rcases hx with rfl | rfl<;>simp))
   simpa using this
 have h56o: ∀ loc,aa ac (d+15) (.w (.fn 56)) [.w (.tup [bH o]),.w (.fn 64)] ⟨loc,sl⟩=some (.w (.str (tx (bh o))),⟨loc,sl⟩):=λ loc=>by
   have:=Ks (loc:=loc) (sl:=sl) (d:=d+15) up bH bh (L:=[o]) (by simp) (λ x _=>⟨o6 x,du x⟩) (by simpa using Rl hl2.2.2.2.2 (Rm rfl)) (λ x hx=>h x (by simp at hx;subst hx;simp))
   simpa using this
 have h53: ∀ loc,aa ac (d+15) (.w (.fn 53)) [.w (hO c)] ⟨loc,sl⟩=some (.w (.str (tx (dt c))),⟨loc,sl⟩):=λ loc=>Mo (n:=d+3) c
 have h54: ∀ loc,aa ac (d+15) (.w (.fn 54)) [.w (.lst [.str jE,.str (tx (dt c)),.str cM,.str (tx (bh a++bh b)),.str (tx (eE::bh o)),.str dV])] ⟨loc,sl⟩=some (.w (.str (tx (bh (.iff c a b o)))),⟨loc,sl⟩):=λ loc=>by
   have:=EL (loc:=loc) (sl:=sl) (d:=d+15) up (uN c a b o) (by rw [hR];exact Rl hl (Rm rfl))
   rw [hR] at this
   exact this
 have e0:((((([bH o]:List W).length):Nat):Int)==0)=false:=rfl
 have e1:Nat.ble ([69,76,83,69,32].length+(tx (bh o)).length) cw=true:=Rp (Rl (Nat.add_comm .. ▸ Nat.add_le_add_right (Nat.le_of_lt (my (du o))) 5) (Rl hl2.2.1 (Rm rfl)))
 rw [kZ (du o)] at h54
 unfold bH
 unfold jE cM dV eE at h54
 simp only [ft,Jx,Jw,bv,aW,dq,aI,al,av,g2,aX,bc,ag,af,ax,ah,az,au,aq,bq,Ht,aP,aB,ak,cu,a0,aZ,bw,bx,be,bJ,ci,aJ,ce,a7,dj,hN,Bool.and_self,iI,e0,aU,aT,bX,Mg,h56o,cj,bQ,ck,aY,gk,e1,List.cons_append,List.nil_append,aj,aM,aV,Kf,cV,Mh,xW,h53,Hs,h56,cJ]
 simp only [List.cons_append,List.nil_append] at h54
 simp only [h54]
theorem tp: ∀ st:cL,∃ c t,tx (bh st)=c::t:=λ st=>by
 cases h:tx (bh st) with
 | nil=>exact absurd h (o6 st)
 | cons c t=>exact ⟨c,t,rfl⟩
theorem e1 {x m e:Nat}(h:20+4 * (m+1)<=e) (l:x<=m):20+4 * x<=e - 2 - 2:=by omega
theorem e2 {m e:Nat}(h:20+4 * m<=e):16<=e - 2/\4<=e/\12<=e:=by omega
theorem Fw {a b o:Nat}:a<=max (max a b) o:=Rl (Nat.le_max_left ..) (Nat.le_max_left ..)
theorem Fx {a b o:Nat}:b<=max (max a b) o:=Rl (Nat.le_max_right ..) (Nat.le_max_left ..)
theorem Mp (st:cL) {d:Nat}{loc:List (Option V)}(hd:20+4 * kX st<=d) (hl:bz (bh st)<=16777210):aa ac d (.w (.fn 64)) [.w (bH st)] ⟨loc,sl⟩=some (.w (.str (tx (bh st))),⟨loc,sl⟩):=by
 induction st generalizing d loc with
 | lf k =>
   obtain ⟨d,rfl⟩:=Rj (e2 hd).2.2
   exact QN k
 | ife c a b iha ihb =>
   obtain ⟨q,t,e⟩:=tp (.ife c a b)
   have:=λ loc=>QO (loc:=loc) (sl:=sl) (d:=d - 2) (e2 hd).1 hl (λ x hx loc=>by
     rcases List.mem_cons.mp hx with rfl | hx
     · exact iha (e1 hd (Nat.le_max_left ..)) (o7 hl).2.1
     · cases List.mem_singleton.mp hx
       exact ihb (e1 hd (Nat.le_max_right ..)) (o7 hl).2.2)
   rw [e] at this ⊢
   exact Hu (e2 hd).2.1 this
 | iff c a b o iha ihb iho =>
   obtain ⟨q,t,e⟩:=tp (.iff c a b o)
   have:=λ loc=>Kx (loc:=loc) (sl:=sl) (d:=d - 2) (e2 hd).1 hl (λ x hx loc=>by
     rcases List.mem_cons.mp hx with rfl | hx
     · exact iha (e1 hd Fw) (k9 hl).2.2.1
     · rcases List.mem_cons.mp hx with rfl | hx
       · exact ihb (e1 hd Fx) (k9 hl).2.2.2.1
       · cases List.mem_singleton.mp hx
         exact iho (e1 hd (Nat.le_max_right ..)) (k9 hl).2.2.2.2)
   rw [e] at this ⊢
   exact Hu (e2 hd).2.1 this
end
end
section
noncomputable def tk (k w:Tx) (p:W) (a:Bool):W:= .inst 1 [(2,.str k),(3,.str w),(4,p),(5,.bool a)]
noncomputable def qC:List Tx:=[jE,cM,eE,dV,Hm,Kq,Mn,Hn,nI,Cb,ID,Ho,IE,Hp,Hq,Fu,wN]
noncomputable def aH (t:Tx) (ps:List W):W:= .inst 0 [(0,.str t),(1,.lst ps)]
section
variable {n d i c:Nat}{t r:Tx}{loc:List (Option V)}{sl:ab}{ps:List W}
theorem uO (hd:2<=d) (h:At t i (32::r)):aa ac d (.w (.fn 18)) [.w (.str t),.w (.int i)] ⟨loc,sl⟩=some (.w (.bool true),⟨loc,sl⟩):=by
 obtain ⟨d,rfl⟩:=Rj hd
 refine ao (i:=18) [some (.w (.str t)),some (.w (.int i))] rfl rfl rfl rfl rfl (slo':=sl) ?_ rfl
 have e:(([32]:Tx)==[32])=true:=rfl
 simp only [ft,Jv,Ju,bv,aV,cI,nF,aI,bc,ag,af,ax,ah,au,aq,bq,h.sub,az,aJ,ce,a7,e,aU,aT,Kp]
theorem EM (hd:2<=d) (h:At t i (c::r)) (h1:([c]==([32]:Tx))=false) (h2:subL [c] [44,59]=false):aa ac d (.w (.fn 18)) [.w (.str t),.w (.int i)] ⟨loc,sl⟩=some (.w (.bool false),⟨loc,sl⟩):=by
 obtain ⟨d,rfl⟩:=Rj hd
 refine ao (i:=18) [some (.w (.str t)),some (.w (.int i))] rfl rfl rfl rfl rfl (slo':=sl) ?_ rfl
 simp only [ft,Jv,Ju,bv,aV,cI,nF,aI,bc,ag,af,ax,ah,au,aq,bq,h.sub,az,aJ,ce,a7,h1,aU,aT,EJ,xH,hH,h2,yT]
theorem AN (hd:1<=d) (h:At t i []):aa ac d (.w (.fn 10)) [.w (.str t),.w (.int i)] ⟨loc,sl⟩=some (.w (.bool true),⟨loc,sl⟩):=by
 obtain ⟨d,rfl⟩:=Rj hd
 refine ao (i:=10) [some (.w (.str t)),some (.w (.int i))] rfl rfl rfl rfl rfl (slo':=sl) ?_ rfl
 simp only [ft,LF,LE,bv,aV,cI,nF,aI,ag,af,ax,ah,au,aq,al,av,g2,aX,aP,aB,ak,cu,a0,aZ,bw,bx,be,bJ,ci,aJ,fC,aY,h.nge,aU,aT,Kp]
theorem c7 (hd:1<=d) (h:Nat.blt c 97=true):aa ac d (.w (.fn 7)) [.w (.str [c])] ⟨loc,sl⟩=some (.w (.str [c]),⟨loc,sl⟩):=by
 obtain ⟨d,rfl⟩:=Rj hd
 refine ao (i:=7) [some (.w (.str [c]))] rfl rfl rfl rfl rfl (slo':=sl) ?_ rfl
 simp only [ft,f7,b7,bv,aV,dq,sW,az,au,aq,ag,af,ax,ah,aJ,gj,aY,D5,a7,BF,h,Bool.true_or,Bool.not_true,aU,aT]
theorem Ky (hd:2<=d) {w signs:Tx}(h:At t i (w++r)) (hw: ∀ c ∈ w,Nat.blt c 97=true/\subL [c] signs=true) (hr:r=[]\/ ∃ e r',r=e::r'/\Nat.blt e 97=true/\subL [e] signs=false) (hl:w.length < 90000) :
   aa ac d (.w (.fn 11)) [.w (.str t),.w (.int i),.w (.str signs)] ⟨loc,sl⟩=some (.w (.int ((i+w.length:Nat):Int)),⟨loc,sl⟩):=by
 obtain ⟨d,rfl⟩:=Rj hd
 refine ao (d:=d+1) (i:=11) [some (.w (.str t)),some (.w (.int i)),some (.w (.str signs))] rfl rfl rfl rfl rfl (slo':=sl) ?_ rfl
 have key: ∀ (w:Tx) (i m:Nat),At t i (w++r)->(∀ c ∈ w,Nat.blt c 97=true/\subL [c] signs=true)->w.length < m ->
     bt (λ s=>am ac (aa ac (d+1)) (.bop true (.cons (.cmp false (.var 1) .Lt (.call false (.glo 2) (.cons (.var 0) .nil))) (.cons (.cmp false (.call false (.glo 9) (.cons (.sub false (.var 0) (.var 1)) .nil)) .In (.var 2)) .nil))) s) (λ s=>aL ac (aa ac (d+1)) (.cons (.asg 1 (.bin false .Add (.var 1) (.cst (.int 1)))) .nil) s) m ⟨[some (.w (.str t)),some (.w (.int i)),some (.w (.str signs))],sl⟩=some (.next,⟨[some (.w (.str t)),some (.w (.int ((i+w.length:Nat):Int))),some (.w (.str signs))],sl⟩):=by
   intro w
   induction w with
   | nil =>
     intro i m h _ hm
     obtain ⟨m,rfl⟩:=Rj (show 1<=m by simp at hm;lia)
     refine jw (s1:=⟨[some (.w (.str t)),some (.w (.int i)),some (.w (.str signs))],sl⟩) ?_
     rcases hr with rfl | ⟨e,r',rfl,h1,h2⟩
     · simp only [cI,nF,aI,ag,af,ax,ah,au,aq,al,av,g2,aX,aP,aB,ak,cu,a0,aZ,bw,bx,be,bJ,ci,aJ,gj,aY,(show At t i [] from h).nlt,aU,aT,yT]
     · have h:=(show At t i (e::r') from h)
       simp only [cI,nF,aI,ag,af,ax,ah,au,aq,al,av,g2,aX,aP,aB,ak,cu,a0,aZ,bw,bx,be,bJ,ci,aJ,gj,aY,h.lt,aU,aT,B9,xH,g9,bc,bq,h.sub,c7 (d:=d+1) (by omega) h1,hH,a7,h2]
   | cons c w ih =>
     intro i m h hw hm
     obtain ⟨m,rfl⟩:=Rj (show 1<=m by omega)
     have h0:=(show At t i (c::(w++r)) from h)
     obtain ⟨h1,h2⟩:=hw c List.mem_cons_self
     refine eW (s1:=⟨[some (.w (.str t)),some (.w (.int i)),some (.w (.str signs))],sl⟩) (s2:=⟨[some (.w (.str t)),some (.w (.int (i+1:Nat))),some (.w (.str signs))],sl⟩) ?_ (.inl ?_) ?_
     · simp only [cI,nF,aI,ag,af,ax,ah,au,aq,al,av,g2,aX,aP,aB,ak,cu,a0,aZ,bw,bx,be,bJ,ci,aJ,gj,aY,h0.lt,aU,aT,B9,xH,g9,bc,bq,h0.sub,c7 (d:=d+1) (by omega) h1,hH,a7,h2]
     · simp only [bv,aW,bX,ag,af,ax,ah,au,aq,az,cj,bQ,ck,aY,xV,aj,aM,cJ]
     · have:=ih (i+1) m h0.next (λ c hc=>hw c (Rk _ hc)) (by simp at hm;lia)
       rw [this,List.length_cons]
       have e:i+1+w.length=i+(w.length+1):=by omega
       rw [e]
 have hk:bn ac (aa ac (d+1)) (.whl 0 (.bop true (.cons (.cmp false (.var 1) .Lt (.call false (.glo 2) (.cons (.var 0) .nil))) (.cons (.cmp false (.call false (.glo 9) (.cons (.sub false (.var 0) (.var 1)) .nil)) .In (.var 2)) .nil))) (.cons (.asg 1 (.bin false .Add (.var 1) (.cst (.int 1)))) .nil)) ⟨[some (.w (.str t)),some (.w (.int i)),some (.w (.str signs))],sl⟩=some (.next,⟨[some (.w (.str t)),some (.w (.int ((i+w.length:Nat):Int))),some (.w (.str signs))],sl⟩):=by
   rw [oS]
   exact key w i iO h hw (by show w.length < 100000;lia)
 simp only [ft,LH,LG,bv,hk,aV,ag,af,ax,ah]
end
end
section
noncomputable abbrev xY:Tx:=[65,66,67,68,69,70,71,72,73,74,75,76,77,78,79,80,81,82,83,84,85,86,87,88,89,90]
noncomputable abbrev qD:Tx:=[48,49,50,51,52,53,54,55,56,57]
noncomputable abbrev AO:Tx:=[65,66,67,68,69,70,71,72,73,74,75,76,77,78,79,80,81,82,83,84,85,86,87,88,89,90,48,49,50,51,52,53,54,55,56,57,45]
theorem eY {r:Option (Fl×St)}{f:Fl}{s:St}(h:r=some (f,s)):ft r=some (f,s.slo):=by rw [h];rfl
theorem cy {cf:bP}{a:S}{r:Ss}{s s':St}{R:Option (Fl×St)}(h1:bn ac cf a s=some (.next,s')) (h2:aL ac cf r s'=R):aL ac cf (.cons a r) s=R:=by simp only [cJ,bv,h1,h2]
theorem jz {cf:bP}{a:S}{r:Ss}{s s':St}{v:V}(h1:bn ac cf a s=some (.ret v,s')):aL ac cf (.cons a r) s=some (.ret v,s'):=by simp only [cJ,bv,h1]
noncomputable def Kz (w:Tx):Bool:=(match w with | []=>false | c::_=>subL [c] xY&& !subL [c] qD&& !([c]==([46]:Tx))&& !([c]==([32]:Tx))&& !subL [c] [44,59])&&w.all (λ c=>Nat.blt c 97&&subL [c] AO)&&Nat.blt w.length 90000
structure LW (w:Tx):Prop where
 hd: ∃ c r,w=c::r/\Nat.blt c 97=true/\subL [c] xY=true/\subL [c] qD=false/\([c]==([46]:Tx))=false/\([c]==([32]:Tx))=false/\subL [c] [44,59]=false
 all: ∀ c ∈ w,Nat.blt c 97=true/\subL [c] AO=true
 len:w.length < 90000
theorem Hv {w:Tx}(h:Kz w=true):LW w:=by
 unfold Kz at h
 cases w with
 | nil=>cases h
 | cons c r =>
   simp only [Bool.and_eq_true,Bool.not_eq_true'] at h
   obtain ⟨⟨⟨⟨⟨⟨h1,h2⟩,h3⟩,h4⟩,h5⟩,h6⟩,h7⟩:=h
   have h6':=List.all_eq_true.mp h6
   have all: ∀ x ∈ c::r,Nat.blt x 97=true/\subL [x] AO=true:=λ x hx=>by simpa using h6' x hx
   exact ⟨⟨c,r,rfl,(all c List.mem_cons_self).1,h1,h2,h3,h4,h5⟩,all,Rm h7⟩
theorem xZ: ∀ w ∈ qC,LW w:=λ w hw=>Hv ((by decide +kernel: ∀ w ∈ qC,Kz w=true) w hw)
section
variable {n d i e:Nat}{t r w:Tx}{loc:List (Option V)}{sl:ab}{ps:List W}
theorem Cc {e:Nat}{r:Tx}:(e::r).take 1=[e]:=rfl
theorem Hw {a b:Nat}{r:Tx}:(a::b::r).take 2=[a,b]:=rfl
theorem EN {a:Nat}{r:Tx}:(a::r).take 2=a::r.take 1:=rfl
theorem Mq (hd:3<=d) (h:At t i (w++e::r)) (hw: ∀ c ∈ w,Nat.blt c 97=true/\subL [c] qD=true) (h1:Nat.blt e 97=true) (h2:subL [e] qD=false) (h3:([e]==([46]:Tx))=false) (hl:w.length < 90000) :
   aa ac d (.w (.fn 12)) [.w (.str t),.w (.int i)] ⟨loc,sl⟩=some (.w (.int ((i+w.length:Nat):Int)),⟨loc,sl⟩):=by
 obtain ⟨d,rfl⟩:=Rj hd
 refine ao (d:=d+2) (i:=12) [some (.w (.str t)),some (.w (.int i)),none] rfl rfl rfl rfl rfl (slo':=sl) ?_ rfl
 have a:=λ loc=>Ky (d:=d+2) (loc:=loc) (sl:=sl) (by omega) h hw (.inr ⟨e,r,rfl,h1,h2⟩) hl
 have b:=h.app.cut 1
 rw [Cc] at b
 simp only [ft,LJ,LI,bv,aW,al,av,Cy,aX,ag,af,ax,ah,yW,aP,aB,ak,a,aj,aM,bB,cI,nF,aI,eS,au,aq,bX,az,cj,bQ,ck,aY,xV,jF,b,aJ,ce,a7,h3,aU,aT,yT,cJ,aV]
theorem IU: ∀ w ∈ qC,∀ (l a e:V),aL ac (aa ac (n+5)) (.cons (.ifs (.cmp false (.comp 0 (.var 0) false (.var 3) true (.cmp false (.var 0) .In (.glo 14)) []) .Eq (.lst .nil)) (.cons .bad .nil) .nil) (.cons (.ifs (.cmp false (.sub false (.var 3) (.negc 1)) .Eq (.cst (.str [45]))) (.cons .bad .nil) .nil) (.cons (.ifs (.cmp false (.call false (.glo 2) (.cons (.var 3) .nil)) .Gt (.glo 15)) (.cons .bad .nil) .nil) (.cons (.ret (.var 3)) .nil)))) ⟨[some l,some a,some e,some (.w (.str w))],sl⟩=some (.ret (.w (.str w)),⟨[some l,some a,some e,some (.w (.str w))],sl⟩):=by
 intro w hw l a e
 simp only [qC,List.mem_cons,List.not_mem_nil,or_false] at hw
 rcases hw with rfl | rfl | rfl | rfl | rfl | rfl | rfl | rfl | rfl | rfl | rfl | rfl | rfl | rfl | rfl | rfl | rfl<;>kernel_rfl
theorem c8: ∀ w ∈ qC,aa ac (n+5) (.w (.fn 8)) [.w (.str w)] ⟨loc,sl⟩=some (.w (.str w),⟨loc,sl⟩):=by
 intro w hw
 simp only [qC,List.mem_cons,List.not_mem_nil,or_false] at hw
 rcases hw with rfl | rfl | rfl | rfl | rfl | rfl | rfl | rfl | rfl | rfl | rfl | rfl | rfl | rfl | rfl | rfl | rfl<;>kernel_rfl
theorem x8 {w r:Tx}:(w++r).take w.length=w:=by simp
theorem QP (hd:8<=d) (hv:w ∈ qC) (h:At t i (w++r)) :
   aa ac d (.w (.fn 13)) [.w (aH t ps),.w (.int i),.w (.int ((i+w.length:Nat):Int))] ⟨loc,sl⟩=some (.w (.str w),⟨loc,sl⟩):=by
 obtain ⟨d,rfl⟩:=Rj hd
 refine ao (d:=d+7) (i:=13) [some (.w (aH t ps)),some (.w (.int i)),some (.w (.int ((i+w.length:Nat):Int))),none] rfl rfl rfl rfl rfl (slo':=sl) (eY (s:=⟨[some (.w (aH t ps)),some (.w (.int i)),some (.w (.int ((i+w.length:Nat):Int))),some (.w (.str w))],sl⟩) (cy (s':=⟨[some (.w (aH t ps)),some (.w (.int i)),some (.w (.int ((i+w.length:Nat):Int))),some (.w (.str w))],sl⟩) ?_ (IU (n:=d+2) w hv _ _ _))) rfl
 have a:=λ loc=>c8 (n:=d+2) (loc:=loc) (sl:=sl) w hv
 have b:=h.cut w.length
 rw [x8] at b
 have f:bW 0 [(0,W.str t),(1,W.lst ps)]=some (.str t):=rfl
 have f2:ac.isF 0 0=true:=rfl
 simp only [aH,aW,al,av,FB,aX,eS,a9,ag,af,ax,ah,ay,a6,aF,bO,bI,f2,bN,f,au,aq,jF,bQ,b,aP,aB,ak,a,aj,aM]
theorem QQ (hd:8<=d) (h:At t i (51::r)) :
   aa ac d (.w (.fn 14)) [.w (aH t ps),.w (.int i),.w (.int ((i+1:Nat):Int))] ⟨loc,sl⟩=some (.w (.str w3),⟨loc,sl⟩):=by
 obtain ⟨d,rfl⟩:=Rj hd
 refine ao (d:=d+7) (i:=14) [some (.w (aH t ps)),some (.w (.int i)),some (.w (.int ((i+1:Nat):Int))),none] rfl rfl rfl rfl rfl (slo':=sl) (eY (s:=⟨[some (.w (aH t ps)),some (.w (.int i)),some (.w (.int ((i+1:Nat):Int))),some (.w (.str w3))],sl⟩) (cy (s':=⟨[some (.w (aH t ps)),some (.w (.int i)),some (.w (.int ((i+1:Nat):Int))),some (.w (.str w3))],sl⟩) ?_ ?_)) rfl
 · have b:=h.cut 1
   rw [Cc] at b
   have f:bW 0 [(0,W.str t),(1,W.lst ps)]=some (.str t):=rfl
   have f2:ac.isF 0 0=true:=rfl
   simp only [aH,aW,eS,a9,ag,af,ax,ah,ay,a6,aF,bO,bI,f2,bN,f,au,aq,jF,bQ,b,aj,aM]
   rfl
 · kernel_rfl
theorem Mr (hd:8<=d) (h:At t i (32::r)) :
   aa ac d (.w (.fn 15)) [.w (aH t ps),.w (.int i)] ⟨loc,sl⟩=some (.w .none,⟨loc,sl⟩):=by
 obtain ⟨d,rfl⟩:=Rj hd
 refine kB (d:=d+7) (i:=15) [some (.w (aH t ps)),some (.w (.int i)),none] rfl rfl rfl rfl rfl (slo':=sl) (eY (s:=⟨[some (.w (aH t ps)),some (.w (.int i)),some (.w (.str (32::r.take 1)))],sl⟩) (cy (s':=⟨[some (.w (aH t ps)),some (.w (.int i)),some (.w (.str (32::r.take 1)))],sl⟩) ?_ ?_)) rfl
 · have b:=h.cut 2
   rw [EN] at b
   have f:bW 0 [(0,W.str t),(1,W.lst ps)]=some (.str t):=rfl
   have f2:ac.isF 0 0=true:=rfl
   simp only [aH,aW,eS,a9,ag,af,ax,ah,ay,a6,aF,bO,bI,f2,bN,f,au,aq,bX,az,cj,bQ,ck,aY,AL,jF,b,aj,aM]
 · generalize r.take 1=q
   kernel_rfl
end
end
section
section
variable {n d i e:Nat}{t r w:Tx}{loc:List (Option V)}{sl:ab}{ps:List W}
theorem Hx (hd:4<=d) (h:At t i (60::32::r)) :
   aa ac d (.w (.fn 16)) [.w (aH t ps),.w (.int i)] ⟨loc,sl⟩=some (.w (.tup [.str dk,.str yU]),⟨loc,sl⟩):=by
 obtain ⟨d,rfl⟩:=Rj hd
 have f:bW 0 [(0,W.str t),(1,W.lst ps)]=some (.str t):=rfl
 have f2:ac.isF 0 0=true:=rfl
 refine ao (d:=d+3) (i:=16) [some (.w (aH t ps)),some (.w (.int i)),none,none] rfl rfl rfl rfl rfl (slo':=sl)
   (eY (s:=⟨[some (.w (aH t ps)),some (.w (.int i)),some (.w (.str [60,32])),some (.w (.str [60]))],sl⟩)
   (cy (s':=⟨[some (.w (aH t ps)),some (.w (.int i)),some (.w (.str [60,32])),none],sl⟩) ?_
   (cy (s':=⟨[some (.w (aH t ps)),some (.w (.int i)),some (.w (.str [60,32])),none],sl⟩) (by kernel_rfl)
   (cy (s':=⟨[some (.w (aH t ps)),some (.w (.int i)),some (.w (.str [60,32])),none],sl⟩) (by kernel_rfl)
   (cy (s':=⟨[some (.w (aH t ps)),some (.w (.int i)),some (.w (.str [60,32])),some (.w (.str [60]))],sl⟩) ?_
   (jz (by kernel_rfl))))))) rfl
 · have b:=h.cut 2
   rw [Hw] at b
   simp only [aH,aW,eS,a9,ag,af,ax,ah,ay,a6,aF,bO,bI,f2,bN,f,au,aq,bX,az,cj,bQ,ck,aY,AL,jF,b,aj,aM]
 · simp only [aH,aW,bc,a9,ag,af,ax,ah,ay,a6,aF,bO,bI,f2,bN,f,au,aq,bq,h.sub,aj,aM]
theorem EO (hd:4<=d) (h:At t i [46]) :
   aa ac d (.w (.fn 16)) [.w (aH t ps),.w (.int i)] ⟨loc,sl⟩=some (.w (.tup [.str dk,.str bC]),⟨loc,sl⟩):=by
 obtain ⟨d,rfl⟩:=Rj hd
 have f:bW 0 [(0,W.str t),(1,W.lst ps)]=some (.str t):=rfl
 have f2:ac.isF 0 0=true:=rfl
 refine ao (d:=d+3) (i:=16) [some (.w (aH t ps)),some (.w (.int i)),none,none] rfl rfl rfl rfl rfl (slo':=sl)
   (eY (s:=⟨[some (.w (aH t ps)),some (.w (.int i)),some (.w (.str [46])),some (.w (.str [46]))],sl⟩)
   (cy (s':=⟨[some (.w (aH t ps)),some (.w (.int i)),some (.w (.str [46])),none],sl⟩) ?_
   (cy (s':=⟨[some (.w (aH t ps)),some (.w (.int i)),some (.w (.str [46])),none],sl⟩) (by kernel_rfl)
   (cy (s':=⟨[some (.w (aH t ps)),some (.w (.int i)),some (.w (.str [46])),none],sl⟩) (by kernel_rfl)
   (cy (s':=⟨[some (.w (aH t ps)),some (.w (.int i)),some (.w (.str [46])),some (.w (.str [46]))],sl⟩) ?_
   (jz ?_)))))) rfl
 · have b:=h.cut 2
   have e:([46]:Tx).take 2=[46]:=rfl
   rw [e] at b
   simp only [aH,aW,eS,a9,ag,af,ax,ah,ay,a6,aF,bO,bI,f2,bN,f,au,aq,bX,az,cj,bQ,ck,aY,AL,jF,b,aj,aM]
 · simp only [aH,aW,bc,a9,ag,af,ax,ah,ay,a6,aF,bO,bI,f2,bN,f,au,aq,bq,h.sub,aj,aM]
 · have e1:subL [46] [40,41,58,43,45,42,47,61,60,62]=false:=rfl
   have e2:(([46]:Tx)==[46])=true:=rfl
   have a:=λ loc=>AN (d:=d+3) (loc:=loc) (sl:=sl) (by omega) h.next
   simp only [aH,bB,cI,nF,aI,ag,af,ax,ah,au,aq,av,IJ,aJ,hH,a7,e1,aU,aT,EJ,xH,az,ce,e2,B9,al,IK,aX,a9,ay,a6,aF,bO,bI,f2,bN,f,bX,cj,bQ,ck,aY,xV,aP,aB,ak,a,bv,aV,bR,aZ,dk,bC]
theorem KA (hd:12<=d) (hv:w ∈ qC) (h:At t i (w++32::r)) :
   aa ac d (.w (.fn 17)) [.w (aH t ps),.w (.int i)] ⟨loc,sl⟩=some (.w (.tup [.str cg,.str w,.int ((i+w.length:Nat):Int)]),⟨loc,sl⟩):=by
 obtain ⟨d,rfl⟩:=Rj hd
 have f:bW 0 [(0,W.str t),(1,W.lst ps)]=some (.str t):=rfl
 have f2:ac.isF 0 0=true:=rfl
 have L:=xZ w hv
 obtain ⟨c,q,rfl,h1,h2,h3,h4,h5,h6⟩:=L.hd
 have h0:=(show At t i (c::(q++32::r)) from h)
 have a:=λ loc=>Ky (d:=d+11) (loc:=loc) (sl:=sl) (by omega) h L.all (.inr ⟨32,r,rfl,rfl,rfl⟩) L.len
 have b:=λ loc=>Mq (d:=d+11) (loc:=loc) (sl:=sl) (by omega) (w:=[]) h0 (λ c hc=>absurd hc List.not_mem_nil) h1 h3 h4 (by show 0 < 90000;decide)
 have c:=λ loc=>Mr (d:=d+11) (loc:=loc) (sl:=sl) (ps:=ps) (by omega) h.app
 have e:=λ loc=>QP (d:=d+11) (loc:=loc) (sl:=sl) (ps:=ps) (by omega) hv h
 unfold aH at *
 refine ao (d:=d+11) (i:=17) [some (.w (aH t ps)),some (.w (.int i)),none,none,none,none,none] rfl rfl rfl rfl rfl (slo':=sl) ?_ rfl
 unfold aH
 simp only [ft,GV,GU,bv,aW,al,av,g9,aX,bc,a9,ag,af,ax,ah,ay,a6,aF,bO,bI,f2,bN,f,au,aq,bq,h0.sub,aP,aB,ak,c7 (d:=d+11) (by omega) h1,aj,aM,bB,cI,nF,aI,Bm,aJ,hH,a7,h2,aU,aT,Kp,Cy,Fh,a,Ib,b,yW,h3,yT,cJ,jV,Ic,c,aV,bR,az,IM,e,aZ,cg]
theorem KB (hd:12<=d) (h:At t i (51::32::r)) :
   aa ac d (.w (.fn 17)) [.w (aH t ps),.w (.int i)] ⟨loc,sl⟩=some (.w (.tup [.str qz,.str w3,.int ((i+1:Nat):Int)]),⟨loc,sl⟩):=by
 obtain ⟨d,rfl⟩:=Rj hd
 have f:bW 0 [(0,W.str t),(1,W.lst ps)]=some (.str t):=rfl
 have f2:ac.isF 0 0=true:=rfl
 have hw: ∀ s:Tx,subL [51] s=true-> ∀ c ∈ ([51]:Tx),Nat.blt c 97=true/\subL [c] s=true:=λ s hs c hc=>by rw [List.mem_singleton.mp hc];exact ⟨rfl,hs⟩
 have a:=λ loc=>Ky (d:=d+11) (loc:=loc) (sl:=sl) (by omega) (w:=[51]) h (hw AO rfl) (.inr ⟨32,r,rfl,rfl,rfl⟩) (by show 1 < 90000;decide)
 have b:=λ loc=>Mq (d:=d+11) (loc:=loc) (sl:=sl) (by omega) (w:=[51]) h (hw qD rfl) rfl rfl rfl (by show 1 < 90000;decide)
 have c:=λ loc=>Mr (d:=d+11) (loc:=loc) (sl:=sl) (ps:=ps) (by omega) h.next
 have e:=λ loc=>QQ (d:=d+11) (loc:=loc) (sl:=sl) (ps:=ps) (by omega) h
 have l1:([51]:Tx).length=1:=rfl
 simp only [l1] at a b
 unfold aH at *
 refine ao (d:=d+11) (i:=17) [some (.w (aH t ps)),some (.w (.int i)),none,none,none,none,none] rfl rfl rfl rfl rfl (slo':=sl) ?_ rfl
 unfold aH
 have e1:subL [51] xY=false:=rfl
 have e2:subL [51] qD=true:=rfl
 have e3:decide (((i+1:Nat):Int)<=((i+1:Nat):Int))=true:=decide_eq_true (Int.le_refl _)
 simp only [ft,GV,GU,bv,aW,al,av,g9,aX,bc,a9,ag,af,ax,ah,ay,a6,aF,bO,bI,f2,bN,f,au,aq,bq,h.sub,aP,aB,ak,c7 (d:=d+11) (c:=51) (by omega) rfl,aj,aM,bB,cI,nF,aI,Bm,aJ,hH,a7,e1,aU,aT,EJ,xH,yW,e2,Cy,Fh,a,Ib,b,B9,fC,aY,e3,jV,Ic,c,aV,bR,az,IL,e,aZ,qz]
theorem KC (hd:12<=d) (h:At t i (60::32::r)) :
   aa ac d (.w (.fn 17)) [.w (aH t ps),.w (.int i)] ⟨loc,sl⟩=some (.w (.tup [.str dk,.str yU,.int ((i+1:Nat):Int)]),⟨loc,sl⟩):=by
 obtain ⟨d,rfl⟩:=Rj hd
 have f:bW 0 [(0,W.str t),(1,W.lst ps)]=some (.str t):=rfl
 have f2:ac.isF 0 0=true:=rfl
 have a:=λ loc=>Hx (d:=d+11) (loc:=loc) (sl:=sl) (ps:=ps) (by omega) h
 unfold aH dk yU at *
 refine ao (d:=d+11) (i:=17) [some (.w (aH t ps)),some (.w (.int i)),none,none,none,none,none] rfl rfl rfl rfl rfl (slo':=sl) ?_ rfl
 unfold aH
 have e1:subL [60] xY=false:=rfl
 have e2:subL [60] qD=false:=rfl
 have e3:(([60]:Tx)==[46])=false:=rfl
 have e4:subL [60] [34,39]=false:=rfl
 have e5:(([60]:Tx).length:Int)=((1:Nat):Int):=rfl
 simp only [ft,GV,GU,bv,aW,al,av,g9,aX,bc,a9,ag,af,ax,ah,ay,a6,aF,bO,bI,f2,bN,f,au,aq,bq,h.sub,aP,aB,ak,c7 (d:=d+11) (c:=60) (by omega) rfl,aj,aM,bB,cI,nF,aI,Bm,aJ,hH,a7,e1,aU,aT,EJ,xH,yW,e2,cJ,az,ce,e3,yT,Ia,e4,oQ,Id,a,gy,iN,aV,bR,bX,g2,cu,a0,aZ,bw,bx,be,bJ,ci,e5,cj,bQ,ck,aY,Hl]
theorem KD (hd:12<=d) (h:At t i [46]) :
   aa ac d (.w (.fn 17)) [.w (aH t ps),.w (.int i)] ⟨loc,sl⟩=some (.w (.tup [.str dk,.str bC,.int ((i+1:Nat):Int)]),⟨loc,sl⟩):=by
 obtain ⟨d,rfl⟩:=Rj hd
 have f:bW 0 [(0,W.str t),(1,W.lst ps)]=some (.str t):=rfl
 have f2:ac.isF 0 0=true:=rfl
 have a:=λ loc=>EO (d:=d+11) (loc:=loc) (sl:=sl) (ps:=ps) (by omega) h
 unfold aH dk bC at *
 refine ao (d:=d+11) (i:=17) [some (.w (aH t ps)),some (.w (.int i)),none,none,none,none,none] rfl rfl rfl rfl rfl (slo':=sl) ?_ rfl
 unfold aH
 have e1:subL [46] xY=false:=rfl
 have e2:subL [46] qD=false:=rfl
 have e3:(([46]:Tx)==[46])=true:=rfl
 have e3':(([]:Tx)==[])=true:=rfl
 have e4:subL [46] [34,39]=false:=rfl
 have e5:(([46]:Tx).length:Int)=((1:Nat):Int):=rfl
 have b:=h.next.cut 1
 have b':([]:Tx).take 1=[]:=rfl
 have b2:i+1+1=i+2:=rfl
 rw [b',b2] at b
 simp only [ft,GV,GU,bv,aW,al,av,g9,aX,bc,a9,ag,af,ax,ah,ay,a6,aF,bO,bI,f2,bN,f,au,aq,bq,h.sub,aP,aB,ak,c7 (d:=d+11) (c:=46) (by omega) rfl,aj,aM,bB,cI,nF,aI,Bm,aJ,hH,a7,e1,aU,aT,EJ,xH,yW,e2,cJ,az,ce,e3,B9,eS,bX,cj,bQ,ck,aY,xV,AL,jF,b,e3',eU,Bool.not_true,yT,Ia,e4,oQ,Id,a,gy,iN,aV,bR,g2,cu,a0,aZ,bw,bx,be,bJ,ci,e5,Hl]
end
end
section
noncomputable def Cl (x:dy):Prop:= ∀ ks,kh ks x=true
theorem Cl.absent:Cl .absent:=λ _=>rfl
theorem Cl.list {l:List W}:Cl (.list l):=λ _=>rfl
theorem Cl.rdr {d r:List W}{n:W}:Cl (.rdr d r n):=λ _=>rfl
noncomputable def kindOf (w:Tx):Tx:=if w=bC then dk else if w=yU then dk else if w=w3 then qz else cg
noncomputable def aw:List Tx->Nat->List W
 | [],_=>[]
 | w::r,c=>tk (kindOf w) w (.tup [.int 1,.int (c:Int)]) false::aw r (c+w.length+1)
theorem x9: ∀ w ∈ qC,kindOf w=cg:=by decide
noncomputable def o8 (ts:List W):Prop:=ts=[]\/ ∃ ts' k w p a,ts=ts'++[tk k w p a]/\((k==([119,111,114,100]:Tx))=false\/((k==([119,111,114,100]:Tx))=true/\w ∈ qC))
theorem qE {l:List W}{x:W}:dz (.lst (l++[x])) (.int (-((1:Nat):Int)))=some x:=by
 have e:(-((1:Nat):Int))=Int.negSucc 0:=rfl
 have b:Nat.ble (0+1) (l++[x]).length=true:=Rp (by simp)
 rw [e]
 show CG (l++[x]) (.negSucc 0)=_
 simp only [CG,fe,b]
 simp
theorem yc: ∀ w ∈ qC,(aS 8 [.str [80,73,67],.str [80,73,67,84,85,82,69]]&&aC 8 (.str w))=true:=by decide +kernel
theorem yd: ∀ w ∈ qC,([W.str [80,73,67],.str [80,73,67,84,85,82,69]].any λ y=>gE y (.str w))=false:=by decide +kernel
section
variable {n d i e:Nat}{t r w:Tx}{loc:List (Option V)}{sl:ab}{ps ts:List W}{bg rd cn tm tks:dy}
theorem QR (hd:1<=d) (h:o8 ts):aa ac d (.w (.fn 19)) [.slot .tks] ⟨loc,⟨bg,rd,cn,.list ts,tm⟩⟩=some (.w (.bool false),⟨loc,⟨bg,rd,cn,.list ts,tm⟩⟩):=by
 obtain ⟨d,rfl⟩:=Rj hd
 refine ao (i:=19) [some (.slot .tks)] rfl rfl rfl rfl rfl (slo':=⟨bg,rd,cn,.list ts,tm⟩) ?_ rfl
 rcases h with rfl | ⟨ts',k,w,p,a,rfl,h⟩
 · have e:decide ((0:Int) < (([]:List W).length:Int))=false:=rfl
   simp only [ft,Iy,Ix,bv,aV,cI,nF,aI,al,av,g2,aX,ag,af,ax,ah,aP,aB,ak,cu,a0,aZ,aq,eh,be,cR,bj,eA,bw,bx,bJ,ci,au,az,aJ,fC,aY,e,aU,aT,yT]
 · have e:decide ((0:Int) < ((ts'++[tk k w p a]).length:Int))=true:=decide_eq_true (by simp)
   have f1:ac.isF 1 2=true:=rfl
   have f2:ac.isF 1 3=true:=rfl
   have f3: ∀ k w p a,bW 2 [(2,W.str k),(3,.str w),(4,p),(5,.bool a)]=some (.str k):=λ _ _ _ _=>rfl
   have f4: ∀ k w p a,bW 3 [(2,W.str k),(3,.str w),(4,p),(5,.bool a)]=some (.str w):=λ _ _ _ _=>rfl
   have s:=qE (l:=ts') (x:=tk k w p a)
   unfold tk at *
   rcases h with h | ⟨h,hv⟩
   · simp only [ft,Iy,Ix,bv,aV,cI,nF,aI,al,av,g2,aX,ag,af,ax,ah,aP,aB,ak,cu,a0,aZ,aq,eh,be,cR,bj,eA,bw,bx,bJ,ci,au,az,aJ,fC,aY,e,aU,aT,B9,a9,bc,oP,bq,s,ay,a6,aF,bO,bI,f1,bN,f3,ce,a7,h,yT]
   · simp only [ft,Iy,Ix,bv,aV,cI,nF,aI,al,av,g2,aX,ag,af,ax,ah,aP,aB,ak,cu,a0,aZ,aq,eh,be,cR,bj,eA,bw,bx,bJ,ci,au,az,aJ,fC,aY,e,aU,aT,B9,a9,bc,oP,bq,s,ay,a6,aF,bO,bI,f1,bN,f3,ce,a7,h,xH,f2,f4,bR,hH,gy,xJ,yc w hv,yd w hv]
theorem c5 {k w p b:W}:aa ac (n+3) (.w (.fn 5)) [.slot .tmp,.w k,.w w,.w p,.w b] ⟨loc,⟨bg,rd,cn,tks,.obj 1 []⟩⟩=some (.w .none,⟨loc,⟨bg,rd,cn,tks,.obj 1 [(2,.w k),(3,.w w),(4,.w p),(5,.w b)]⟩⟩):=by kernel_rfl
theorem jA {o:dy}(h1:Cl bg) (h2:Cl rd) (h3:Cl cn) (h4:Cl tks) {v:V}(hv:lj [.tmp] v=true):dl [.tmp] v ⟨bg,rd,cn,tks,o⟩=some ⟨bg,rd,cn,tks,.absent⟩:=by
 simp only [dl,hv,dJ,cA,h1 [.tmp],h2 [.tmp],h3 [.tmp],h4 [.tmp],Cl.absent [.tmp],Bool.and_self]
theorem Cd (hd:3<=d) (h1:Cl bg) (h2:Cl rd) (h3:Cl cn) (h4:Cl tks) {k w p b:W}:gw ac (aa ac d) 1 [.w k,.w w,.w p,.w b] ⟨loc,⟨bg,rd,cn,tks,.absent⟩⟩=some (.w (.inst 1 [(2,k),(3,w),(4,p),(5,b)]),⟨loc,⟨bg,rd,cn,tks,.absent⟩⟩):=by
 obtain ⟨d,rfl⟩:=Rj hd
 have i1:ac.init 1=some 5:=rfl
 have l:=jA (o:= .obj 1 [(2,.w k),(3,.w w),(4,.w p),(5,.w b)]) h1 h2 h3 h4 (v:= .w .none) rfl
 simp only [gw,im,te,au,sZ,kV,i1,gm,cA,c5,fg,aq,l]
noncomputable def iD (t:Tx) (ps:List W) (i:Int) (x4 x5 x6 x7:Option V):List (Option V):=[some (.slot .tks),some (.w (aH t ps)),some (.w (.int i)),some (.w (.bool false)),x4,x5,x6,x7]
theorem ye (hd:14<=d) {c:Nat}{k:Tx}{m:Nat}{x4 x5 x6 x7:Option V}(h1:Cl bg) (h2:Cl rd) (h3:Cl cn) (h:At t i (c::r)) (hc:([c]==([32]:Tx))=false) (hc2:subL [c] [44,59]=false) (hl:o8 ts) (hn:ts.length+1 < 16777216)
   (hp:dz (.lst ps) (.int i)=some (.tup [.int 1,.int ((12+i:Nat):Int)])) (hw: ∀ sl loc,aa ac d (.w (.fn 17)) [.w (aH t ps),.w (.int i)] ⟨loc,sl⟩=some (.w (.tup [.str k,.str w,.int ((i+m:Nat):Int)]),⟨loc,sl⟩)) :
   aL ac (aa ac d) (.cons (.ifs (.call false (.glo 27) (.cons (.att (.var 1) 0) (.cons (.var 2) .nil))) (.cons (.asg 2 (.bin false .Add (.var 2) (.cst (.int 1)))) (.cons .cont .nil)) .nil) (.cons (.asg 4 (.sub false (.att (.var 1) 1) (.var 2))) (.cons (.ifs (.bop true (.cons (.call false (.glo 28) (.cons (.var 0) .nil)) (.cons (.not (.var 3)) (.cons .bad .nil)))) (.cons .bad (.cons .bad (.cons .bad .nil))) .nil) (.cons (.ifs (.call false (.glo 28) (.cons (.var 0) .nil)) (.cons .bad (.cons .bad .nil)) (.cons (.asgT [5,6,7] (.call false (.glo 29) (.cons (.var 1) (.cons (.var 2) .nil)))) .nil)) (.cons (.app 0 (.call false (.glo 30) (.cons (.var 5) (.cons (.var 6) (.cons (.var 4) (.cons (.cmp2 (.cst (.int 8)) .LtE (.sub false (.var 4) (.cst (.int 1))) .LtE (.cst (.int 11))) .nil)))))) (.cons (.asg 3 (.cst (.bool false))) (.cons (.asg 2 (.var 7)) .nil))))))) ⟨iD t ps i x4 x5 x6 x7,⟨bg,rd,cn,.list ts,.absent⟩⟩
    = some (.next,⟨iD t ps ((i+m:Nat):Int) (some (.w (.tup [.int 1,.int ((12+i:Nat):Int)]))) (some (.w (.str k))) (some (.w (.str w))) (some (.w (.int ((i+m:Nat):Int)))),⟨bg,rd,cn,.list (ts++[tk k w (.tup [.int 1,.int ((12+i:Nat):Int)]) false]),.absent⟩⟩):=by
 have a:=λ loc sl=>EM (d:=d) (loc:=loc) (sl:=sl) (by omega) h hc hc2
 have b:=λ loc=>QR (d:=d) (loc:=loc) (bg:=bg) (rd:=rd) (cn:=cn) (tm:= .absent) (by omega) hl
 have m1:=λ loc=>Cd (d:=d) (loc:=loc) (by omega) h1 h2 h3 (Cl.list (l:=ts)) (k:= .str k) (w:= .str w) (p:= .tup [.int 1,.int ((12+i:Nat):Int)]) (b:= .bool false)
 have f:bW 0 [(0,W.str t),(1,W.lst ps)]=some (.str t):=rfl
 have f1:bW 1 [(0,W.str t),(1,W.lst ps)]=some (.lst ps):=rfl
 have f2:ac.isF 0 0=true:=rfl
 have f3:ac.isF 0 1=true:=rfl
 have e1:decide ((8:Int)<=((12+i:Nat):Int))=true:=decide_eq_true (by omega)
 have e2:decide (((12+i:Nat):Int)<=11)=false:=decide_eq_false (by omega)
 have gr:Nat.blt (ts.length+[tk k w (.tup [.int 1,.int ((12+i:Nat):Int)]) false].length) cw=true:=Rp (by simp only [List.length_cons,List.length_nil];have:=kJ;lia)
 unfold aH tk at *
 unfold iD aH
 simp only [bv,bB,al,av,Ie,aX,a9,ag,af,ax,ah,ay,a6,aF,bO,bI,f2,bN,f,aP,aB,ak,a,aU,au,aq,aT,cJ,aW,bc,f3,f1,bq,hp,aj,aM,cI,nF,IN,b,yT,oQ,IO,hw,gy,iN,jW,dH,cR,bj,eA,Ig,sW,az,xW,aJ,gj,aY,e1,e2,m1,vK,gK,gr,gm,cA]
theorem AP (hd:14<=d) {x4 x5 x6 x7:Option V}(h:At t i (32::r)) :
   aL ac (aa ac d) (.cons (.ifs (.call false (.glo 27) (.cons (.att (.var 1) 0) (.cons (.var 2) .nil))) (.cons (.asg 2 (.bin false .Add (.var 2) (.cst (.int 1)))) (.cons .cont .nil)) .nil) (.cons (.asg 4 (.sub false (.att (.var 1) 1) (.var 2))) (.cons (.ifs (.bop true (.cons (.call false (.glo 28) (.cons (.var 0) .nil)) (.cons (.not (.var 3)) (.cons .bad .nil)))) (.cons .bad (.cons .bad (.cons .bad .nil))) .nil) (.cons (.ifs (.call false (.glo 28) (.cons (.var 0) .nil)) (.cons .bad (.cons .bad .nil)) (.cons (.asgT [5,6,7] (.call false (.glo 29) (.cons (.var 1) (.cons (.var 2) .nil)))) .nil)) (.cons (.app 0 (.call false (.glo 30) (.cons (.var 5) (.cons (.var 6) (.cons (.var 4) (.cons (.cmp2 (.cst (.int 8)) .LtE (.sub false (.var 4) (.cst (.int 1))) .LtE (.cst (.int 11))) .nil)))))) (.cons (.asg 3 (.cst (.bool false))) (.cons (.asg 2 (.var 7)) .nil))))))) ⟨iD t ps i x4 x5 x6 x7,sl⟩=some (.cont,⟨iD t ps ((i+1:Nat):Int) x4 x5 x6 x7,sl⟩):=by
 have a:=λ loc sl=>uO (d:=d) (loc:=loc) (sl:=sl) (by omega) h
 have f:bW 0 [(0,W.str t),(1,W.lst ps)]=some (.str t):=rfl
 have f2:ac.isF 0 0=true:=rfl
 unfold iD aH
 simp only [bv,bB,al,av,Ie,aX,a9,ag,af,ax,ah,ay,a6,aF,bO,bI,f2,bN,f,aP,aB,ak,a,aU,au,aq,aT,aW,bX,az,cj,bQ,ck,aY,xV,aj,aM,Ax]
end
end
section
noncomputable def Ce (w:Tx):Prop:=w ∈ qC\/w=w3\/w=yU
theorem o9 (w:Tx) (r:List Tx):tx (w::r++[bC])=w++32::tx (r++[bC]):=by
 rw [List.cons_append,kZ (by simp)]
theorem iq (w:Tx) (r:List Tx) (c:Nat):aw (w::r) c=tk (kindOf w) w (.tup [.int 1,.int (c:Int)]) false::aw r (c+w.length+1):=rfl
theorem uP {ts:List W}{k w:Tx}{p:W}{a:Bool}(h:(k==([119,111,114,100]:Tx))=false\/((k==([119,111,114,100]:Tx))=true/\w ∈ qC)):o8 (ts++[tk k w p a]):= .inr ⟨ts,k,w,p,a,rfl,h⟩
section
variable {n d e:Nat}{t w:Tx}{loc:List (Option V)}{sl:ab}{ps:List W}{bg rd cn tm tks:dy}
noncomputable abbrev nK (d:Nat):St->Option (V×St):=λ s=>am ac (aa ac d) (.cmp false (.var 2) .Lt (.call false (.glo 2) (.cons (.att (.var 1) 0) .nil))) s
noncomputable abbrev Cf (d:Nat):St->Option (Fl×St):=λ s=>aL ac (aa ac d) (.cons (.ifs (.call false (.glo 27) (.cons (.att (.var 1) 0) (.cons (.var 2) .nil))) (.cons (.asg 2 (.bin false .Add (.var 2) (.cst (.int 1)))) (.cons .cont .nil)) .nil) (.cons (.asg 4 (.sub false (.att (.var 1) 1) (.var 2))) (.cons (.ifs (.bop true (.cons (.call false (.glo 28) (.cons (.var 0) .nil)) (.cons (.not (.var 3)) (.cons .bad .nil)))) (.cons .bad (.cons .bad (.cons .bad .nil))) .nil) (.cons (.ifs (.call false (.glo 28) (.cons (.var 0) .nil)) (.cons .bad (.cons .bad .nil)) (.cons (.asgT [5,6,7] (.call false (.glo 29) (.cons (.var 1) (.cons (.var 2) .nil)))) .nil)) (.cons (.app 0 (.call false (.glo 30) (.cons (.var 5) (.cons (.var 6) (.cons (.var 4) (.cons (.cmp2 (.cst (.int 8)) .LtE (.sub false (.var 4) (.cst (.int 1))) .LtE (.cst (.int 11))) .nil)))))) (.cons (.asg 3 (.cst (.bool false))) (.cons (.asg 2 (.var 7)) .nil))))))) s
theorem mA {i c:Nat}{r:Tx}{x4 x5 x6 x7:Option V}(h:At t i (c::r)):nK d ⟨iD t ps i x4 x5 x6 x7,sl⟩=some (.w (.bool true),⟨iD t ps i x4 x5 x6 x7,sl⟩):=by
 have f:bW 0 [(0,W.str t),(1,W.lst ps)]=some (.str t):=rfl
 have f2:ac.isF 0 0=true:=rfl
 unfold nK iD aH
 simp only [aI,ag,af,ax,ah,au,aq,al,av,g2,aX,a9,ay,a6,aF,bO,bI,f2,bN,f,aP,aB,ak,cu,a0,aZ,bw,bx,be,bJ,ci,aJ,gj,aY,h.lt]
theorem AQ {i:Nat}{x4 x5 x6 x7:Option V}(h:At t i []):nK d ⟨iD t ps i x4 x5 x6 x7,sl⟩=some (.w (.bool false),⟨iD t ps i x4 x5 x6 x7,sl⟩):=by
 have f:bW 0 [(0,W.str t),(1,W.lst ps)]=some (.str t):=rfl
 have f2:ac.isF 0 0=true:=rfl
 unfold nK iD aH
 simp only [aI,ag,af,ax,ah,au,aq,al,av,g2,aX,a9,ay,a6,aF,bO,bI,f2,bN,f,aP,aB,ak,cu,a0,aZ,bw,bx,be,bJ,ci,aJ,gj,aY,h.nlt]
theorem EP (hd:14<=d) (h1:Cl bg) (h2:Cl rd) (h3:Cl cn) (hp: ∀ j,j < t.length->dz (.lst ps) (.int (j:Int))=some (.tup [.int 1,.int ((12+j:Nat):Int)])) :
   ∀ (ws:List Tx) (i m:Nat) (ts:List W) (x4 x5 x6 x7:Option V),(∀ w ∈ ws,Ce w)->At t i (tx (ws++[bC]))->o8 ts->ts.length+ws.length+5 < 16777216->2 * ws.length+3<=m ->
     ∃ L,bt (nK d) (Cf d) m ⟨iD t ps i x4 x5 x6 x7,⟨bg,rd,cn,.list ts,.absent⟩⟩=some (.next,⟨L,⟨bg,rd,cn,.list (ts++aw (ws++[bC]) (12+i)),.absent⟩⟩):=by
 intro ws
 induction ws with
 | nil =>
   intro i m ts x4 x5 x6 x7 _ h hl hn hm
   obtain ⟨m,rfl⟩:=Rj (show 2<=m by omega)
   have h:At t i [46]:=h
   have a:=ye (ps:=ps) (ts:=ts) (w:=bC) (k:=dk) (m:=1) (x4:=x4) (x5:=x5) (x6:=x6) (x7:=x7) hd h1 h2 h3 h rfl rfl hl (by omega) (hp i (by have:=h.len;simp at this;lia)) (λ sl loc=>KD (by omega) h)
   exact ⟨_,eW (mA h) (.inl a) (jw (AQ h.next))⟩
 | cons w r ih =>
   intro i m ts x4 x5 x6 x7 hw h hl hn hm
   obtain ⟨m,rfl⟩:=Rj (show 2<=m by omega)
   rw [o9] at h
   have hr:=λ x hx=>hw x (Rk _ hx)
   simp only [List.length_cons] at hn hm
   have go: ∀ (k:Tx) (c:Nat) (q:Tx),w=c::q->k=kindOf w->([c]==([32]:Tx))=false->subL [c] [44,59]=false->((k==([119,111,114,100]:Tx))=false\/((k==([119,111,114,100]:Tx))=true/\w ∈ qC)) ->
       (∀ sl loc,aa ac d (.w (.fn 17)) [.w (aH t ps),.w (.int i)] ⟨loc,sl⟩=some (.w (.tup [.str k,.str w,.int ((i+w.length:Nat):Int)]),⟨loc,sl⟩)) ->
       ∃ L,bt (nK d) (Cf d) (m+2) ⟨iD t ps i x4 x5 x6 x7,⟨bg,rd,cn,.list ts,.absent⟩⟩=some (.next,⟨L,⟨bg,rd,cn,.list (ts++aw (w::r++[bC]) (12+i)),.absent⟩⟩):=by
     intro k c q hwc hk e1 e2 e3 h17
     have h':At t i (c::(q++32::tx (r++[bC]))):=by rw [hwc] at h;exact h
     have a:=ye (ps:=ps) (ts:=ts) (w:=w) (k:=k) (m:=w.length) (x4:=x4) (x5:=x5) (x6:=x6) (x7:=x7) hd h1 h2 h3 h' e1 e2 hl (by omega) (hp i (by have:=h'.len;simp at this;lia)) h17
     have hb:=h.app
     have b:=λ x4 x5 x6 x7 sl=>AP (d:=d) (ps:=ps) (sl:=sl) (x4:=x4) (x5:=x5) (x6:=x6) (x7:=x7) hd hb
     obtain ⟨L,e⟩:=ih (i+w.length+1) m (ts++[tk k w (.tup [.int 1,.int ((12+i:Nat):Int)]) false]) _ _ _ _ hr hb.next (uP e3) (by simp;lia) (by omega)
     refine ⟨L,eW (mA h') (.inl a) (eW (mA hb) (.inr (b _ _ _ _ _)) (e.trans ?_))⟩
     rw [List.cons_append,iq,<- hk,List.append_assoc,List.singleton_append]
     have:12+(i+w.length+1)=12+i+w.length+1:=by omega
     rw [this]
   rcases hw w List.mem_cons_self with hv | rfl | rfl
   · obtain ⟨c,q,rfl,g1,g2,g3,g4,g5,g6⟩:=(xZ w hv).hd
     exact go cg c q rfl (x9 _ hv).symm g5 g6 (.inr ⟨rfl,hv⟩) λ sl loc=>KA (by omega) hv h
   · exact go qz 51 [] rfl rfl rfl rfl (.inl rfl) λ sl loc=>KB (by omega) h
   · exact go dk 60 [] rfl rfl rfl rfl (.inl rfl) λ sl loc=>KC (by omega) h
theorem QS (hd:15<=d) (h1:Cl bg) (h2:Cl rd) (h3:Cl cn) {ws:List Tx}(hw: ∀ w ∈ ws,Ce w) (ht:t=tx (ws++[bC])) (hp: ∀ j,j < t.length->dz (.lst ps) (.int (j:Int))=some (.tup [.int 1,.int ((12+j:Nat):Int)])) (hn:ws.length < 40000) :
   aa ac d (.w (.fn 20)) [.slot .tks,.w (aH t ps)] ⟨loc,⟨bg,rd,cn,.list [],.absent⟩⟩=some (.w .none,⟨loc,⟨bg,rd,cn,.list (aw (ws++[bC]) 12),.absent⟩⟩):=by
 obtain ⟨d,rfl⟩:=Rj hd
 obtain ⟨L,e⟩:=EP (d:=d+14) (ps:=ps) (t:=t) (by omega) h1 h2 h3 hp ws 0 iO [] none none none none hw ⟨by rw [ht];rfl,Nat.zero_le _⟩ (.inl rfl) (by simp;lia) (by show _<=100000;lia)
 refine kB (d:=d+14) (i:=20) [some (.slot .tks),some (.w (aH t ps)),none,none,none,none,none,none] rfl rfl rfl rfl rfl (slo':=⟨bg,rd,cn,.list (aw (ws++[bC]) 12),.absent⟩) ?_ rfl
 have hk:bn ac (aa ac (d+14)) (.whl 0 (.cmp false (.var 2) .Lt (.call false (.glo 2) (.cons (.att (.var 1) 0) .nil))) (.cons (.ifs (.call false (.glo 27) (.cons (.att (.var 1) 0) (.cons (.var 2) .nil))) (.cons (.asg 2 (.bin false .Add (.var 2) (.cst (.int 1)))) (.cons .cont .nil)) .nil) (.cons (.asg 4 (.sub false (.att (.var 1) 1) (.var 2))) (.cons (.ifs (.bop true (.cons (.call false (.glo 28) (.cons (.var 0) .nil)) (.cons (.not (.var 3)) (.cons .bad .nil)))) (.cons .bad (.cons .bad (.cons .bad .nil))) .nil) (.cons (.ifs (.call false (.glo 28) (.cons (.var 0) .nil)) (.cons .bad (.cons .bad .nil)) (.cons (.asgT [5,6,7] (.call false (.glo 29) (.cons (.var 1) (.cons (.var 2) .nil)))) .nil)) (.cons (.app 0 (.call false (.glo 30) (.cons (.var 5) (.cons (.var 6) (.cons (.var 4) (.cons (.cmp2 (.cst (.int 8)) .LtE (.sub false (.var 4) (.cst (.int 1))) .LtE (.cst (.int 11))) .nil)))))) (.cons (.asg 3 (.cst (.bool false))) (.cons (.asg 2 (.var 7)) .nil)))))))) ⟨iD t ps 0 none none none none,⟨bg,rd,cn,.list [],.absent⟩⟩=some (.next,⟨L,⟨bg,rd,cn,.list (aw (ws++[bC]) 12),.absent⟩⟩):=by
   rw [oS]
   exact e
 unfold iD at hk
 simp only [ft,LL,LK,bv,aW,az,aj,aM,hk,cJ]
end
end
section
theorem nL: ∀ (n a:Nat),fK (a:Int) n=(List.range' a n).map λ (j:Nat)=>W.int (j:Int)
 | 0,_=>rfl
 | n+1,a=>by
   show W.int (a:Int)::fK ((a:Int)+1) n=_
   rw [List.range'_succ,List.map_cons]
   have e:(a:Int)+1=((a+1:Nat):Int):=rfl
   rw [e,nL n (a+1)]
theorem ir {n:Nat}(h:n<=16777216):br (.rng 0 n)=some ((List.range n).map λ (j:Nat)=>W.int (j:Int)):=by
 have e1:decide ((0:Int)<=0)=true:=rfl
 have e2:decide ((0:Int)<=16777216)=true:=rfl
 have e3:decide ((0:Int)<=(n:Int))=true:=decide_eq_true (by omega)
 have e4:decide ((n:Int)<=16777216)=true:=decide_eq_true (by omega)
 have e5:((n:Int) - 0).toNat=n:=by simp
 simp only [br,vF,e1,e2,e3,e4,Bool.and_self,e5]
 rw [show (0:Int)=((0:Nat):Int) from rfl,nL,List.range_eq_range']
theorem mB {l:List W}{j:Nat}{x:W}(h:l[j]?=some x):dz (.lst l) (.int (j:Int))=some x:=by
 have hl:=(List.getElem?_eq_some_iff.mp h).1
 have e1:fe (j:Int) l.length=some j:=by
   show (match Nat.blt j l.length with | true=>some j | false=>none)=_
   rw [show Nat.blt j l.length=true from Rp hl]
 simp only [dz,aY,CG,e1,h]
section
variable {n d e:Nat}{t w:Tx}{loc:List (Option V)}{sl:ab}{ps:List W}{bg rd cn tm tks:dy}
theorem yf {o:dy}(h1:Cl bg) (h2:Cl rd) (h3:Cl cn) {v:V}(hv:lj [.tks] v=true):dl [.tks] v ⟨bg,rd,cn,o,.absent⟩=some ⟨bg,rd,cn,.absent,.absent⟩:=by
 simp only [dl,hv,dJ,cA,h1 [.tks],h2 [.tks],h3 [.tks],Cl.absent [.tks],Bool.and_self]
theorem QT (hd:16<=d) (h1:Cl bg) (h2:Cl rd) (h3:Cl cn) {ws:List Tx}(hw: ∀ w ∈ ws,Ce w) (ht:t=tx (ws++[bC])) (hp: ∀ j,j < t.length->dz (.lst ps) (.int (j:Int))=some (.tup [.int 1,.int ((12+j:Nat):Int)])) (hn:ws.length < 40000) :
   aa ac d (.w (.fn 21)) [.w (.lst [aH t ps])] ⟨loc,⟨bg,rd,cn,.absent,.absent⟩⟩=some (.own (aw (ws++[bC]) 12),⟨loc,⟨bg,rd,cn,.absent,.absent⟩⟩):=by
 obtain ⟨d,rfl⟩:=Rj hd
 have a:=λ loc=>QS (d:=d+15) (loc:=loc) (by omega) h1 h2 h3 hw ht hp hn
 refine ao (d:=d+15) (i:=21) [some (.w (.lst [aH t ps])),none,none] rfl rfl rfl rfl rfl (slo':=⟨bg,rd,cn,.dead,.absent⟩) ?_ (yf h1 h2 h3 rfl)
 have hk:bn ac (aa ac (d+15)) (.for_ 0 2 (.var 0) (.cons (.exp (.call false (.glo 31) (.cons (.var 1) (.cons (.var 2) .nil)))) .nil)) ⟨[some (.w (.lst [aH t ps])),some (.slot .tks),none],⟨bg,rd,cn,.list [],.absent⟩⟩=some (.next,⟨[some (.w (.lst [aH t ps])),some (.slot .tks),some (.w (aH t ps))],⟨bg,rd,cn,.list (aw (ws++[bC]) 12),.absent⟩⟩):=by
   rw [fq]
   simp only [ag,af,ax,ah,au,aq,br,bv,jV,al,av,aX,aj,aP,aB,ak,cu,a0,eh,be,cR,bj,eA,bw,gy,bx,d8,aY,hK,bJ,ci,bQ,i4,ky,a7,i5,cJ]
   refine de (.inl ?_) (s2:=⟨[some (.w (.lst [aH t ps])),some (.slot .tks),some (.w (aH t ps))],⟨bg,rd,cn,.list (aw (ws++[bC]) 12),.absent⟩⟩) rfl
   simp only [Qy,aj,aM,ax,a]
 simp only [ft,LN,LM,bv,sY,cV,aP,aZ,dH,bj,im,gm,cA,aj,aM,hk,aV,DZ,af,ax,cR,eA]
theorem c0 {k w:W}:aa ac (n+3) (.w (.fn 0)) [.slot .tmp,.w k,.w w] ⟨loc,⟨bg,rd,cn,tks,.obj 0 []⟩⟩=some (.w .none,⟨loc,⟨bg,rd,cn,tks,.obj 0 [(0,.w k),(1,.w w)]⟩⟩):=by kernel_rfl
theorem EQ (hd:3<=d) (h1:Cl bg) (h2:Cl rd) (h3:Cl cn) (h4:Cl tks) {p:W}:gw ac (aa ac d) 0 [.w (.str t),.w (.lst ps)] ⟨loc,⟨bg,rd,cn,tks,.absent⟩⟩=some (.w (aH t ps),⟨loc,⟨bg,rd,cn,tks,.absent⟩⟩):=by
 obtain ⟨d,rfl⟩:=Rj hd
 have i1:ac.init 0=some 0:=rfl
 have l:=jA (o:= .obj 0 [(0,.w (.str t)),(1,.w (.lst ps))]) h1 h2 h3 h4 (v:= .w .none) rfl
 simp only [gw,im,te,au,sZ,kV,i1,gm,cA,c0,fg,aq,l,aH]
noncomputable def yg (n:Nat):List W:=(List.range n).map λ j=> .tup [.int 1,.int ((12+j:Nat):Int)]
theorem yh {n j:Nat}(h:j < n):dz (.lst (yg n)) (.int (j:Int))=some (.tup [.int 1,.int ((12+j:Nat):Int)]):=by
 apply mB
 simp [yg,h]
theorem yi: ∀ (ws:List Tx) (c j:Nat),j < ws.length-> ∃ k w p,(aw ws c)[j]?=some (tk k w p false)
 | w::r,c,0,_=>⟨_,_,_,rfl⟩
 | w::r,c,j+1,h=>by
   obtain ⟨k,x,p,e⟩:=yi r (c+w.length+1) j (by simpa using h)
   exact ⟨k,x,p,by rw [iq,List.getElem?_cons_succ];exact e⟩
theorem pe: ∀ (ws:List Tx) (c:Nat),(aw ws c).length=ws.length
 | [],_=>rfl
 | w::r,c=>by rw [iq,List.length_cons,List.length_cons,pe r]
theorem QU (hd:17<=d) (h1:Cl bg) (h2:Cl rd) (h3:Cl cn) {ws:List Tx}(hw: ∀ w ∈ ws,Ce w) (hn:ws.length < 40000) (hl:(tx (ws++[bC])).length<=16777216) :
   aa ac d (.w (.fn 65)) [.w (.str (tx (ws++[bC])))] ⟨loc,⟨bg,rd,cn,.absent,.absent⟩⟩=some (.own (aw (ws++[bC]) 12),⟨loc,⟨bg,rd,cn,.absent,.absent⟩⟩):=by
 obtain ⟨d,rfl⟩:=Rj hd
 generalize ht:tx (ws++[bC])=t at hl
 have a:=λ loc=>QT (d:=d+16) (loc:=loc) (ps:=yg t.length) (by omega) h1 h2 h3 hw ht.symm (λ j hj=>yh hj) hn
 generalize hts:aw (ws++[bC]) 12=ts at a
 have hlen:ts.length=ws.length+1:=by rw [<- hts,pe];simp
 have hget: ∀ j,j < ts.length-> ∃ k w p,ts[j]?=some (tk k w p false):=λ j hj=>by
   rw [<- hts];exact yi _ _ _ (by rw [hlen] at hj;simpa using hj)
 let L0:List (Option V):=[some (.w (.str t)),some (.w (.bool false)),some (.w (.int 12)),none]
 let L1:List (Option V):=[some (.w (.str t)),some (.w (.bool false)),some (.w (.int 12)),some (.w (.lst ts))]
 let S0:ab:=⟨bg,rd,cn,.absent,.absent⟩
 have k1:=eV (cf:=aa ac (d+16)) (g:=λ (j:Nat)=>W.int (j:Int)) (f:=λ j=> .tup [.int 1,.int ((12+j:Nat):Int)]) (cid:=0) (elt:=(.tup (.cons (.cst (.int 1)) (.cons (.bin false .Add (.var 1) (.var 0)) .nil)))) (iter:= .call false (.glo 1) (.cons (.call false (.glo 2) (.cons (.var 0) .nil)) .nil)) (cond:= .no) (two:=false) (caps:=[2]) (s:=⟨L0,S0⟩) (s1:=⟨L0,S0⟩) (v:= .w (.rng 0 t.length)) (iw:= .rng 0 t.length) (cl:=[some (.w (.int 12))]) (List.range t.length) (by simp only [al,av,g1,aX,g2,ag,af,ax,ah,aP,aB,ak,cu,a0,aZ,aq,bw,bx,be,bJ,ci,d8,aY,L0]) rfl (ir hl) rfl
   (λ j _=>⟨_,rfl,.w (.tup [.int 1,.int ((12+j:Nat):Int)]),[some (.w (.int j)),some (.w (.int 12))],by
     have e:(12:Int)+(j:Int)=((12+j:Nat):Int):=rfl
     simp only [List.cons_append,List.nil_append,bR,aX,az,bX,ag,af,ax,ah,au,aq,cj,bQ,ck,aY,e,aP,aB,aZ],rfl⟩)
 have k2:=eV (cf:=aa ac (d+16)) (g:=λ (j:Nat)=>W.int (j:Int)) (f:=λ j=>(ts[j]?).getD .none) (cid:=0) (elt:=(.call false (.glo 30) (.cons (.att (.sub false (.var 1) (.var 0)) 2) (.cons (.att (.sub false (.var 1) (.var 0)) 3) (.cons (.att (.sub false (.var 1) (.var 0)) 4) (.cons (.bop true (.cons (.var 2) (.cons (.cmp false (.var 0) .Eq (.cst (.int 0))) .nil))) .nil)))))) (iter:= .call false (.glo 1) (.cons (.call false (.glo 2) (.cons (.var 3) .nil)) .nil)) (cond:= .no) (two:=false) (caps:=[3,1]) (s:=⟨L1,S0⟩) (s1:=⟨L1,S0⟩) (v:= .w (.rng 0 ts.length)) (iw:= .rng 0 ts.length) (cl:=[some (.w (.lst ts)),some (.w (.bool false))]) (List.range ts.length) (by simp only [al,av,g1,aX,g2,ag,af,ax,ah,aP,aB,ak,cu,a0,aZ,aq,bw,bx,be,bJ,ci,d8,aY,L1]) rfl (ir (by omega)) rfl
   (λ j hj=>by
     obtain ⟨k,w,p,e⟩:=hget j (List.mem_range.mp hj)
     refine ⟨_,rfl,.w (tk k w p false),[some (.w (.int j)),some (.w (.lst ts)),some (.w (.bool false))],?_,by rw [e];rfl⟩
     have f1:ac.isF 1 2=true:=rfl
     have f2:ac.isF 1 3=true:=rfl
     have f3:ac.isF 1 4=true:=rfl
     have q1: ∀ k w p a,bW 2 [(2,W.str k),(3,.str w),(4,p),(5,.bool a)]=some (.str k):=λ _ _ _ _=>rfl
     have q2: ∀ k w p a,bW 3 [(2,W.str k),(3,.str w),(4,p),(5,.bool a)]=some (.str w):=λ _ _ _ _=>rfl
     have q3: ∀ k w p a,bW 4 [(2,W.str k),(3,.str w),(4,p),(5,.bool a)]=some p:=λ _ _ _ _=>rfl
     have m:=λ loc=>Cd (d:=d+16) (loc:=loc) (by omega) h1 h2 h3 Cl.absent (k:= .str k) (w:= .str w) (p:=p) (b:= .bool false)
     have s:=mB e
     unfold tk at *
     simp only [List.cons_append,List.nil_append,al,av,Ig,aX,a9,bc,ag,af,ax,ah,au,aq,bq,s,ay,a6,aF,bO,bI,f1,bN,q1,f2,q2,f3,q3,cI,nF,aU,aT,yT,aP,aB,ak,m,S0])
 have e2:((List.range ts.length).map λ j=>(ts[j]?).getD .none)=ts:=by
   apply List.ext_getElem?
   intro j
   by_cases hj:j < ts.length
   · simp [hj]
   · simp [hj]
 rw [e2] at k2
 have m:=λ loc=>EQ (d:=d+16) (loc:=loc) (t:=t) (ps:=yg t.length) (p:= .none) (by omega) h1 h2 h3 Cl.absent
 have e3:(List.range t.length).map (λ j=>W.tup [.int 1,.int ((12+j:Nat):Int)])=yg t.length:=rfl
 rw [e3] at k1
 refine ao (d:=d+16) (i:=65) [some (.w (.str t)),some (.w (.bool false)),none,none] rfl rfl rfl rfl rfl (slo':=S0) ?_ rfl
 simp only [L0,L1,S0] at k1 k2
 simp only [ft,LZ,LY,bv,sX,dq,ag,af,ax,ah,aU,au,aq,aT,av,QF,dB,fD,aB,aj,aM,al,QG,aX,cV,QH,k1,aP,ak,m,aZ,a,aV,k2,S0]
end
end
section
noncomputable def IF:W:= .dct [([73,83,45,79,78],.bool true)]
noncomputable def RD (bl dn rem:List W):ab:=⟨.list bl,.rdr dn rem IF,.absent,.absent,.absent⟩
noncomputable def kt (w:Tx) (p:W):W:=tk (kindOf w) w p false
noncomputable def yj:Lf->Nat
 | .g1=>102 | .g2=>102 | .ct=>72 | .ex=>103 | .st=>104 | .xp=>103
noncomputable def tq:List Tx:=[jE,Hm,ID,Ho,IE,eE,dV,bC]
section
variable {n d c:Nat}{loc:List (Option V)}{bl dn rest:List W}{p:W}{rb:V}
theorem QV: ∀ w ∈ tq,aa ac (n+25) (.w (.fn 102)) [.slot .rdr,rb] ⟨loc,RD bl dn (aw (eX .g1) c++kt w p::rest)⟩=some (.w (gD .g1),⟨loc,RD bl ((aw (eX .g1) c).reverse++dn) (kt w p::rest)⟩):=by
 intro w hw
 simp only [tq,List.mem_cons,List.not_mem_nil,or_false] at hw
 rcases hw with rfl | rfl | rfl | rfl | rfl | rfl | rfl | rfl<;>kernel_rfl
theorem QW: ∀ w ∈ tq,aa ac (n+25) (.w (.fn 102)) [.slot .rdr,rb] ⟨loc,RD bl dn (aw (eX .g2) c++kt w p::rest)⟩=some (.w (gD .g2),⟨loc,RD bl ((aw (eX .g2) c).reverse++dn) (kt w p::rest)⟩):=by
 intro w hw
 simp only [tq,List.mem_cons,List.not_mem_nil,or_false] at hw
 rcases hw with rfl | rfl | rfl | rfl | rfl | rfl | rfl | rfl<;>kernel_rfl
theorem QX {x:W}:aa ac (n+25) (.w (.fn 72)) [.slot .rdr,rb] ⟨loc,RD bl dn (aw (eX .ct) c++x::rest)⟩=some (.w (gD .ct),⟨loc,RD bl ((aw (eX .ct) c).reverse++dn) (x::rest)⟩):=by kernel_rfl
theorem QY: ∀ w ∈ tq,aa ac (n+25) (.w (.fn 103)) [.slot .rdr,rb] ⟨loc,RD bl dn (aw (eX .ex) c++kt w p::rest)⟩=some (.w (gD .ex),⟨loc,RD bl ((aw (eX .ex) c).reverse++dn) (kt w p::rest)⟩):=by
 intro w hw
 simp only [tq,List.mem_cons,List.not_mem_nil,or_false] at hw
 rcases hw with rfl | rfl | rfl | rfl | rfl | rfl | rfl | rfl<;>kernel_rfl
theorem QZ {x:W}:aa ac (n+25) (.w (.fn 104)) [.slot .rdr,rb] ⟨loc,RD bl dn (aw (eX .st) c++x::rest)⟩=some (.w (gD .st),⟨loc,RD bl ((aw (eX .st) c).reverse++dn) (x::rest)⟩):=by kernel_rfl
theorem Q0 {x:W}:aa ac (n+25) (.w (.fn 103)) [.slot .rdr,rb] ⟨loc,RD bl dn (aw (eX .xp) c++x::rest)⟩=some (.w (gD .xp),⟨loc,RD bl ((aw (eX .xp) c).reverse++dn) (x::rest)⟩):=by kernel_rfl
theorem Q1 (k:Lf): ∀ w ∈ tq,aa ac (n+25) (.w (.fn (yj k))) [.slot .rdr,rb] ⟨loc,RD bl dn (aw (eX k) c++kt w p::rest)⟩=some (.w (gD k),⟨loc,RD bl ((aw (eX k) c).reverse++dn) (kt w p::rest)⟩):=by
 intro w hw
 cases k
 · exact QV w hw
 · exact QW w hw
 · exact QX
 · exact QY w hw
 · exact QZ
 · exact Q0
theorem Cg (b:Bool):aa ac (n+40) (.w (.fn 50)) [.slot .rdr] ⟨loc,RD bl dn (aw (dt b) c++kt cM p::rest)⟩=some (.w (hO b),⟨loc,RD bl ((aw (dt b) c).reverse++dn) (kt cM p::rest)⟩):=by
 cases b
 · kernel_rfl
 · kernel_rfl
noncomputable def yk:List Tx:=[jE,Hm,ID,Ho,IE]
noncomputable def j5:List Tx:=[eE,dV,bC]
theorem qF: ∀ w ∈ yk,aa ac (n+9) (.w (.fn 73)) [.slot .rdr] ⟨loc,RD bl dn (kt w p::rest)⟩=some (.w (.bool true),⟨loc,RD bl dn (kt w p::rest)⟩):=by
 intro w hw
 simp only [yk,List.mem_cons,List.not_mem_nil,or_false] at hw
 rcases hw with rfl | rfl | rfl | rfl | rfl<;>kernel_rfl
theorem AR: ∀ w ∈ j5,aa ac (n+9) (.w (.fn 73)) [.slot .rdr] ⟨loc,RD bl dn (kt w p::rest)⟩=some (.w (.bool false),⟨loc,RD bl dn (kt w p::rest)⟩):=by
 intro w hw
 simp only [j5,List.mem_cons,List.not_mem_nil,or_false] at hw
 rcases hw with rfl | rfl | rfl<;>kernel_rfl
theorem yl:aa ac (n+9) (.w (.fn 89)) [.slot .rdr,.w (.str [73,70])] ⟨loc,RD bl dn (kt jE p::rest)⟩=some (.w .none,⟨loc,RD bl (kt jE p::dn) rest⟩):=by kernel_rfl
theorem qG:aa ac (n+9) (.w (.fn 88)) [.slot .rdr,.w (.str [84,72,69,78])] ⟨loc,RD bl dn (kt cM p::rest)⟩=some (.w (.bool true),⟨loc,RD bl (kt cM p::dn) rest⟩):=by kernel_rfl
theorem ym:aa ac (n+9) (.w (.fn 88)) [.slot .rdr,.w (.str [69,76,83,69])] ⟨loc,RD bl dn (kt eE p::rest)⟩=some (.w (.bool true),⟨loc,RD bl (kt eE p::dn) rest⟩):=by kernel_rfl
theorem ER:aa ac (n+9) (.w (.fn 88)) [.slot .rdr,.w (.str [69,76,83,69])] ⟨loc,RD bl dn (kt dV p::rest)⟩=some (.w (.bool false),⟨loc,RD bl dn (kt dV p::rest)⟩):=by kernel_rfl
theorem ty:aa ac (n+9) (.w (.fn 88)) [.slot .rdr,.w (.str [69,78,68,45,73,70])] ⟨loc,RD bl dn (kt dV p::rest)⟩=some (.w (.bool true),⟨loc,RD bl (kt dV p::dn) rest⟩):=by kernel_rfl
theorem choose: ∀ k:Lf,∃ w q,eX k=w::q/\w ∈ yk/\ ∀ (loc:List (Option V)) (sl:ab) (n:Nat),aa ac (n+3) (.w (.fn 110)) [.w (.str w)] ⟨loc,sl⟩=some (.w (.fn (yj k)),⟨loc,sl⟩):=by
 intro k
 cases k
 · exact ⟨_,_,rfl,by decide,λ _ _ _=>by kernel_rfl⟩
 · exact ⟨_,_,rfl,by decide,λ _ _ _=>by kernel_rfl⟩
 · exact ⟨_,_,rfl,by decide,λ _ _ _=>by kernel_rfl⟩
 · exact ⟨_,_,rfl,by decide,λ _ _ _=>by kernel_rfl⟩
 · exact ⟨_,_,rfl,by decide,λ _ _ _=>by kernel_rfl⟩
 · exact ⟨_,_,rfl,by decide,λ _ _ _=>by kernel_rfl⟩
theorem qH {sl:ab}:aa ac (n+3) (.w (.fn 110)) [.w (.str jE)] ⟨loc,sl⟩=some (.w (.fn 101),⟨loc,sl⟩):=by kernel_rfl
end
end
section
theorem j9: ∀ (a b:List Tx) (c:Nat),aw (a++b) c=aw a c++aw b (c+bz a)
 | [],b,c=>rfl
 | w::a,b,c=>by
   rw [List.cons_append,iq,iq,j9 a b,List.cons_append,eK]
   have:c+w.length+1+bz a=c+(w.length+1+bz a):=by omega
   rw [this]
theorem dD (w:Tx) (r:List Tx) (c:Nat):aw (w::r) c=kt w (.tup [.int 1,.int (c:Int)])::aw r (c+w.length+1):=rfl
noncomputable def Q3:cL->Nat
 | .lf k=>yj k
 | _=>101
theorem mC (st:cL): ∃ w q,bh st=w::q/\w ∈ yk/\ ∀ (loc:List (Option V)) (sl:ab) (n:Nat),aa ac (n+3) (.w (.fn 110)) [.w (.str w)] ⟨loc,sl⟩=some (.w (.fn (Q3 st)),⟨loc,sl⟩):=by
 cases st with
 | lf k=>exact choose k
 | ife c a b=>exact ⟨_,_,rfl,by decide,λ _ _ _=>qH⟩
 | iff c a b o=>exact ⟨_,_,rfl,by decide,λ _ _ _=>qH⟩
noncomputable def clo (dp:Nat):V:= .clo 2 [.w (.fn 110),.w (.int (dp:Int))]
section
variable {n d c:Nat}{loc:List (Option V)}{bl bl' dn dn' rest rest':List W}{p:W}{rb:V}
theorem AS {x:W}{l:List W}:aa ac (n+1) (.w (.fn 83)) [.slot .rdr] ⟨loc,RD bl dn (x::l)⟩=some (.w x,⟨loc,RD bl dn (x::l)⟩):=rfl
theorem Hy {bl dn rem:List W}{a f:Nat}(h:ac.meth 5 a=some f) (h2:(Nat.beq a 15||(Nat.beq a 4||Nat.beq a 16))=false):dF ac (RD bl dn rem) (.slot .rdr) a=some (.w (.fn f),[.slot .rdr]):=by
 have h3:(Nat.beq a ac.aTok||(Nat.beq a ac.aAt||Nat.beq a ac.aNam))=false:=h2
 have h4:ac.meth ac.rdrC a=some f:=h
 simp only [dF,a6,bI,IY,RD,bj,h4,h3]
theorem KE (hd:12<=d) {w:Tx}{dp f:Nat}{v:W}{q:List W}(hw:w ∈ yk) (hdp:dp<=12) (hf: ∀ (loc:List (Option V)) (sl:ab) (n:Nat),aa ac (n+3) (.w (.fn 110)) [.w (.str w)] ⟨loc,sl⟩=some (.w (.fn f),⟨loc,sl⟩))
   (h: ∀ loc,aa ac (d - 1) (.w (.fn f)) [.slot .rdr,clo dp] ⟨loc,RD bl dn (kt w p::q)⟩=some (.w v,⟨loc,RD bl dn' rest'⟩)) :
   aa ac d (.w (.fn 75)) [.slot .rdr,.w (.int dp),.w (.fn 110)] ⟨loc,RD bl dn (kt w p::q)⟩=some (.w v,⟨loc,RD bl dn' rest'⟩):=by
 obtain ⟨d,rfl⟩:=Rj hd
 have e:decide ((12:Int) < (dp:Int))=false:=decide_eq_false (by omega)
 have a:=λ loc=>qF (n:=d+2) (loc:=loc) (bl:=bl) (dn:=dn) (rest:=q) (p:=p) w hw
 have b:=λ loc sl=>hf loc sl (d+8)
 have m:=Hy (bl:=bl) (dn:=dn) (rem:=kt w p::q) (a:=21) (f:=83) rfl rfl
 have pk:=λ loc=>AS (n:=d+10) (loc:=loc) (bl:=bl) (dn:=dn) (x:=kt w p) (l:=q)
 have f1:ac.isF 1 3=true:=rfl
 have q1: ∀ k w p a,bW 3 [(2,W.str k),(3,.str w),(4,p),(5,.bool a)]=some (.str w):=λ _ _ _ _=>rfl
 have h:=λ loc=>h loc
 unfold clo at h
 have e2:d+12 - 1=d+11:=by omega
 simp only [e2] at h
 refine ao (d:=d+11) (i:=75) [some (.slot .rdr),some (.w (.int dp)),some (.w (.fn 110))] rfl rfl rfl rfl rfl (slo':=RD bl dn' rest') ?_ rfl
 have cp:c9 [some (.slot .rdr),some (.w (.int dp)),some (.w (.fn 110))] [2,1]=some [some (.w (.fn 110)),some (.w (.int dp))]:=rfl
 unfold kt tk at *
 simp only [ft,L8,L7,bv,bB,ms,al,av,Kg,aX,ag,af,ax,ah,aP,aB,ak,a,aU,au,aq,aT,Bool.not_true,cJ,aI,QL,aJ,fC,aY,e,aV,a9,fo,m,List.cons_append,List.nil_append,pk,ay,a6,aF,bO,bI,f1,bN,q1,b,D0,cp,ej,h]
end
end
section
noncomputable def AT (D dp:Nat) (st:cL):Prop:= ∀ (d:Nat) (loc:List (Option V)) (bl dn:List W) (c:Nat) (w:Tx) (p:W) (rest:List W),D<=d->w ∈ tq ->
 aa ac d (.w (.fn 75)) [.slot .rdr,.w (.int dp),.w (.fn 110)] ⟨loc,RD bl dn (aw (bh st) c++kt w p::rest)⟩=some (.w (bH st),⟨loc,RD bl ((aw (bh st) c).reverse++dn) (kt w p::rest)⟩)
noncomputable def dE (L:List cL):List Tx:=(L.map bh).flatten
theorem nM (st:cL) (L:List cL):dE (st::L)=bh st++dE L:=rfl
theorem AU: ∀ w ∈ j5,w ∈ tq:=by decide
theorem AV: ∀ w ∈ yk,w ∈ tq:=by decide
theorem yn (L:List cL) (c:Nat) {w:Tx}{p:W}{rest:List W}(hw:w ∈ tq): ∃ w' p' rest',aw (dE L) c++kt w p::rest=kt w' p'::rest'/\w' ∈ tq:=by
 cases L with
 | nil=>exact ⟨w,p,rest,rfl,hw⟩
 | cons st L =>
   obtain ⟨w',q,e,hv,_⟩:=mC st
   rw [nM,e,List.cons_append,dD,List.cons_append]
   exact ⟨_,_,_,rfl,AV _ hv⟩
theorem nN (st:cL) (c:Nat) (r:List W): ∃ w p q,aw (bh st) c++r=kt w p::q/\w ∈ yk:=by
 obtain ⟨w',q,e,hv,_⟩:=mC st
 rw [e,dD,List.cons_append]
 exact ⟨_,_,_,rfl,hv⟩
theorem yp (b:Bool) (n:Nat):aC (n+4) (hO b)=true:=by cases b<;>rfl
theorem Hz {x m n:Nat}(h:2 * (m+1)+6<=n+6) (l:x<=m):2 * x+6<=n+4:=by omega
theorem uQ (st:cL) (n:Nat) (h:2 * kX st+6<=n):aC n (bH st)=true:=by
 induction st generalizing n with
 | lf k =>
   obtain ⟨n,rfl⟩:=Rj (Rl (Rv ..) h)
   cases k<;>rfl
 | ife c a b ha hb =>
   obtain ⟨n,rfl⟩:=Rj (Rl (Rv ..) h)
   have e4:([105,102]).all (λ c=>Nat.blt c 1114112)=true:=rfl
   simp only [bH,j0,aC,aS,ha (n+4) (Hz h (Nat.le_max_left ..)),hb (n+4) (Hz h (Nat.le_max_right ..)),yp c (n+1),e4,Bool.and_self]
 | iff c a b o ha hb ho =>
   obtain ⟨n,rfl⟩:=Rj (Rl (Rv ..) h)
   have e4:([105,102]).all (λ c=>Nat.blt c 1114112)=true:=rfl
   simp only [bH,j0,aC,aS,ha (n+4) (Hz h Fw),hb (n+4) (Hz h Fx),ho (n+4) (Hz h (Nat.le_max_right ..)),yp c (n+1),e4,Bool.and_self]
theorem eZ {n:Nat}{L:List cL}(h: ∀ st ∈ L,2 * kX st+6<=n):aS n (L.map bH)=true:=by
 induction L with
 | nil=>rfl
 | cons st L ih=>exact Bool.and_eq_true_iff.mpr ⟨uQ st n (h st List.mem_cons_self),ih λ x hx=>h x (Rk _ hx)⟩
section
variable {n d dp:Nat}{loc:List (Option V)}{bl dn rest:List W}{w:Tx}{p:W}
noncomputable def yq (dp:Nat) (acc:List W):List (Option V):=[some (.slot .rdr),some (.w (.int dp)),some (.w (.fn 110)),some (.own acc)]
theorem ES {D:Nat}(hd:D<=d) (hd2:9<=d) (hw:w ∈ j5) (L:List cL) (acc:List W) (c m:Nat) (dn:List W) (h: ∀ st ∈ L,AT D dp st) (hm:L.length+1<=m) (hn:acc.length+L.length < 100000) :
   bt (λ s=>am ac (aa ac d) (.call false (.glo 85) (.cons (.var 0) .nil)) s) (λ s=>aL ac (aa ac d) (.cons (.app 3 (.call false (.glo 86) (.cons (.var 0) (.cons (.var 1) (.cons (.var 2) .nil))))) .nil) s) m ⟨yq dp acc,RD bl dn (aw (dE L) c++kt w p::rest)⟩
     = some (.next,⟨yq dp (acc++L.map bH),RD bl ((aw (dE L) c).reverse++dn) (kt w p::rest)⟩):=by
 induction L generalizing acc c m dn with
 | nil =>
   obtain ⟨m,rfl⟩:=Rj hm
   obtain ⟨d,rfl⟩:=Rj hd2
   have v:=λ loc=>AR (n:=d) (loc:=loc) (bl:=bl) (dn:=dn) (rest:=rest) (p:=p) w hw
   rw [List.map_nil,List.append_nil]
   refine jw ?_
   show _=some (V.w (.bool false),(⟨yq dp acc,RD bl dn (kt w p::rest)⟩:St))
   rw [show aw (dE []) c++kt w p::rest=kt w p::rest from rfl]
   unfold yq
   simp only [al,av,Kg,aX,ag,af,ax,ah,aP,aB,ak,v]
 | cons st L ih =>
   obtain ⟨m,rfl⟩:=Rj (Rl (Rv ..) hm)
   rw [nM,j9,List.append_assoc]
   obtain ⟨w1,p1,r1,e1,hw1⟩:=yn L (c+bz (bh st)) (AU w hw) (p:=p) (rest:=rest)
   have hs:=λ loc=>h st List.mem_cons_self d loc bl dn c w1 p1 r1 hd hw1
   obtain ⟨w2,p2,r2,e2,hw2⟩:=nN st c (kt w1 p1::r1)
   have hn':(acc++[bH st]).length+L.length < 100000:=by rw [List.length_append,Nat.add_assoc,Nat.add_comm _ L.length];exact hn
   have ih:=ih (acc++[bH st]) (c+bz (bh st)) m ((aw (bh st) c).reverse++dn) (λ x hx=>h x (Rk _ hx)) (Nat.le_of_succ_le_succ hm) hn'
   have gr:Nat.blt (acc.length+[bH st].length) cw=true:=Rp (Rl (Rt (List.length_append▸Ru ..) hn') (Rm rfl))
   rw [e1] at ih ⊢
   refine eW (s1:=⟨yq dp acc,RD bl dn (aw (bh st) c++kt w1 p1::r1)⟩) (s2:=⟨yq dp (acc++[bH st]),RD bl ((aw (bh st) c).reverse++dn) (kt w1 p1::r1)⟩) ?_ (.inl ?_) (ih.trans ?_)
   · rw [e2]
     obtain ⟨d,rfl⟩:=Rj hd2
     have v:=λ loc=>qF (n:=d) (loc:=loc) (bl:=bl) (dn:=dn) (rest:=r2) (p:=p2) w2 hw2
     unfold yq
     simp only [al,av,Kg,aX,ag,af,ax,ah,aP,aB,ak,v]
   · unfold yq
     simp only [bv,jW,af,ax,dH,cK,aM,al,av,QK,aX,ag,ah,aP,aB,ak,hs,au,aq,iF,dB,fD,gK,gr,aj,cJ]
   · rw [List.append_assoc,List.reverse_append,List.append_assoc];rfl
theorem uR {d k:Nat}{cs as:List V}{loc lc:List (Option V)}{sl sl':ab}{v:V}{ld:Ld}(hk:ac.lam k=some ld) (hn:Nat.beq as.length ld.np=true) (h:am ac (aa ac d) ld.body ⟨as.map some++cs.map some,sl⟩=some (v,⟨lc,sl'⟩)) :
   aa ac (d+1) (.clo k cs) as ⟨loc,sl⟩=some (v,⟨loc,sl'⟩):=by
 show vM ac (aa ac d) k cs as _=_
 simp only [vM,hk,rh,hn,h]
theorem Ms {D:Nat}(hd:D+10<=d) (hw:w ∈ j5) {L:List cL}{c:Nat}(h: ∀ st ∈ L,AT D dp st) (hn:L.length < 9000) :
   aa ac d (.w (.fn 74)) [.slot .rdr,.w (.int dp),.w (.fn 110)] ⟨loc,RD bl dn (aw (dE L) c++kt w p::rest)⟩=some (.w (.tup (L.map bH)),⟨loc,RD bl ((aw (dE L) c).reverse++dn) (kt w p::rest)⟩):=by
 obtain ⟨d,rfl⟩:=Rj (show 10<=d by omega)
 have hk:bn ac (aa ac (d+9)) (.whl 0 (.call false (.glo 85) (.cons (.var 0) .nil)) (.cons (.app 3 (.call false (.glo 86) (.cons (.var 0) (.cons (.var 1) (.cons (.var 2) .nil))))) .nil)) ⟨yq dp [],RD bl dn (aw (dE L) c++kt w p::rest)⟩=some (.next,⟨yq dp (L.map bH),RD bl ((aw (dE L) c).reverse++dn) (kt w p::rest)⟩):=by
   rw [oS]
   exact ES (D:=D) (by omega) (by omega) hw L [] c iO dn h (by show _<=100000;lia) (by simp;lia)
 refine ao (d:=d+9) (i:=74) [some (.slot .rdr),some (.w (.int dp)),some (.w (.fn 110)),none] rfl rfl rfl rfl rfl (slo':=RD bl ((aw (dE L) c).reverse++dn) (kt w p::rest)) ?_ rfl
 unfold yq at hk
 simp only [ft,L6,L4,bv,aW,cV,aP,aZ,aj,aM,hk,aV,al,av,IB,aX,ag,af,ax,ah,aB,ak,cu,a0,aq,bw,bx,be,bJ,bQ]
theorem KF {D:Nat}(hd:D+12<=d) (hw:w ∈ j5) {st:cL}{L:List cL}{c:Nat}(h: ∀ x ∈ st::L,AT D (dp+1) x) (hn:L.length < 8000) (hp: ∀ x ∈ st::L,kX x<=12) :
   aa ac d (.w (.fn 99)) [.slot .rdr,clo dp] ⟨loc,RD bl dn (aw (dE (st::L)) c++kt w p::rest)⟩=some (.w (.tup ((st::L).map bH)),⟨loc,RD bl ((aw (dE (st::L)) c).reverse++dn) (kt w p::rest)⟩):=by
 obtain ⟨d,rfl⟩:=Rj (show 12<=d by omega)
 have a:=λ loc=>Ms (D:=D) (d:=d+10) (loc:=loc) (bl:=bl) (dn:=dn) (rest:=rest) (p:=p) (by omega) hw (c:=c) h (by simp;lia)
 generalize aw (dE (st::L)) c++kt w p::rest=R1 at a ⊢
 generalize (aw (dE (st::L)) c).reverse++dn=R2 at a ⊢
 have l: ∀ loc,aa ac (d+11) (clo dp) [.slot .rdr] ⟨loc,RD bl dn R1⟩=some (.w (.tup ((st::L).map bH)),⟨loc,RD bl R2 (kt w p::rest)⟩):=λ loc=>by
   have e:(dp:Int)+1=((dp+1:Nat):Int):=rfl
   refine uR (lc:=[some (.slot .rdr),some (.w (.fn 110)),some (.w (.int (dp:Int)))]) (ld:=l2) rfl rfl ?_
   simp only [l2,List.map,List.cons_append,List.nil_append,al,av,Mi,aX,ag,af,ax,ah,bX,au,aq,az,cj,bQ,ck,aY,e,aP,aB,ak,a]
 have pl:aC 40 (.tup ((st::L).map bH))=true:=by
   show aS 39 _=true
   exact eZ λ x hx=>by have:=hp x hx;lia
 have pl0:aC 40 (.tup [])=true:=rfl
 have eq0:gE (.tup ((st::L).map bH)) (.tup [])=false:=rfl
 refine ao (d:=d+11) (i:=99) [some (.slot .rdr),some (clo dp),none] rfl rfl rfl rfl rfl (slo':=RD bl R2 (kt w p::rest)) ?_ rfl
 generalize (st::L).map bH=B at *
 unfold clo at *
 simp only [ft,Ma,L9,bv,aW,al,ag,af,ax,ah,aX,aP,aB,ak,l,aj,aM,bB,aI,au,aq,bR,aZ,aJ,ce,a7,dj,pl,pl0,Bool.and_self,eq0,aU,aT,cJ,aV]
end
end
section
section
variable {n d dp:Nat}{loc:List (Option V)}{bl dn rest rem:List W}{w:Tx}{p:W}
theorem pf {c:Nat}:aw [] c=[]:=rfl
theorem Ch:dF ac (RD bl dn rem) (.slot .rdr) 35=some (.w (.fn 89),[.slot .rdr]):=Hy rfl rfl
theorem Ci:dF ac (RD bl dn rem) (.slot .rdr) 24=some (.w (.fn 88),[.slot .rdr]):=Hy rfl rfl
theorem KG {D:Nat}(hd:D+42<=d) (hw:w ∈ tq) {c:Bool}{a b:cL}{cc:Nat}(ha:AT D (dp+1) a) (hb:AT D (dp+1) b) (hpa:kX a<=12) (hpb:kX b<=12) :
   aa ac d (.w (.fn 101)) [.slot .rdr,clo dp] ⟨loc,RD bl dn (aw (bh (.ife c a b)) cc++kt w p::rest)⟩=some (.w (bH (.ife c a b)),⟨loc,RD bl ((aw (bh (.ife c a b)) cc).reverse++dn) (kt w p::rest)⟩):=by
 obtain ⟨d,rfl⟩:=Rj (show 42<=d by omega)
 have e:bh (.ife c a b)=jE::(dt c++(cM::(dE [a,b]++[dV]))):=by simp [bh,dE]
 rw [e]
 simp only [dD,j9,List.cons_append,List.append_assoc,pf,List.nil_append,List.reverse_cons,List.reverse_append,List.reverse_nil]
 generalize cc+jE.length+1=k1
 generalize k1+bz (dt c)=k2
 generalize k2+cM.length+1=k3
 generalize k3+bz (dE [a,b])=k4
 have h1:=λ loc r=>yl (n:=d+32) (loc:=loc) (bl:=bl) (dn:=dn) (rest:=r) (p:= .tup [.int 1,.int (cc:Int)])
 have h2:=λ loc dn r=>Cg (n:=d+1) (loc:=loc) (bl:=bl) (dn:=dn) (rest:=r) (p:= .tup [.int 1,.int (k2:Int)]) (c:=k1) c
 have h3:=λ loc dn r=>qG (n:=d+32) (loc:=loc) (bl:=bl) (dn:=dn) (rest:=r) (p:= .tup [.int 1,.int (k2:Int)])
 have h4:=λ loc dn r=>KF (D:=D) (d:=d+41) (dp:=dp) (loc:=loc) (bl:=bl) (dn:=dn) (rest:=r) (w:=dV) (p:= .tup [.int 1,.int (k4:Int)]) (by omega) (by decide) (st:=a) (L:=[b]) (c:=k3)
   (λ x hx=>by simp at hx;rcases hx with rfl | rfl;exact ha;exact hb) (by simp) (λ x hx=>by simp at hx;rcases hx with rfl | rfl;exact hpa;exact hpb)
 have h5:=λ loc dn r=>ER (n:=d+32) (loc:=loc) (bl:=bl) (dn:=dn) (rest:=r) (p:= .tup [.int 1,.int (k4:Int)])
 have h6:=λ loc dn r=>ty (n:=d+32) (loc:=loc) (bl:=bl) (dn:=dn) (rest:=r) (p:= .tup [.int 1,.int (k4:Int)])
 refine ao (d:=d+41) (i:=101) [some (.slot .rdr),some (clo dp),none,none,none] rfl rfl rfl rfl rfl (slo':=_) ?_ rfl
 unfold clo at *
 simp only [ft,Em,El,bv,jV,fo,ag,af,ax,ah,Ch,aX,az,aP,aB,List.cons_append,List.nil_append,ak,h1,aW,al,av,Ml,h2,aj,aM,Ci,h3,Mm,h4,List.map,dq,h5,aU,au,aq,aT,bR,aZ,h6,aV,bH,j0]
theorem HA {D:Nat}(hd:D+42<=d) (hw:w ∈ tq) {c:Bool}{a b o:cL}{cc:Nat}(ha:AT D (dp+1) a) (hb:AT D (dp+1) b) (ho:AT D (dp+1) o) (hpa:kX a<=12) (hpb:kX b<=12) (hpo:kX o<=12) :
   aa ac d (.w (.fn 101)) [.slot .rdr,clo dp] ⟨loc,RD bl dn (aw (bh (.iff c a b o)) cc++kt w p::rest)⟩=some (.w (bH (.iff c a b o)),⟨loc,RD bl ((aw (bh (.iff c a b o)) cc).reverse++dn) (kt w p::rest)⟩):=by
 obtain ⟨d,rfl⟩:=Rj (show 42<=d by omega)
 have e:bh (.iff c a b o)=jE::(dt c++(cM::(dE [a,b]++(eE::(dE [o]++[dV]))))):=by simp [bh,dE]
 rw [e]
 simp only [dD,j9,List.cons_append,List.append_assoc,pf,List.nil_append,List.reverse_cons,List.reverse_append,List.reverse_nil]
 generalize cc+jE.length+1=k1
 generalize k1+bz (dt c)=k2
 generalize k2+cM.length+1=k3
 generalize k3+bz (dE [a,b])=k4
 generalize k4+eE.length+1=k5
 generalize k5+bz (dE [o])=k6
 have h1:=λ loc r=>yl (n:=d+32) (loc:=loc) (bl:=bl) (dn:=dn) (rest:=r) (p:= .tup [.int 1,.int (cc:Int)])
 have h2:=λ loc dn r=>Cg (n:=d+1) (loc:=loc) (bl:=bl) (dn:=dn) (rest:=r) (p:= .tup [.int 1,.int (k2:Int)]) (c:=k1) c
 have h3:=λ loc dn r=>qG (n:=d+32) (loc:=loc) (bl:=bl) (dn:=dn) (rest:=r) (p:= .tup [.int 1,.int (k2:Int)])
 have h4:=λ loc dn r=>KF (D:=D) (d:=d+41) (dp:=dp) (loc:=loc) (bl:=bl) (dn:=dn) (rest:=r) (w:=eE) (p:= .tup [.int 1,.int (k4:Int)]) (by omega) (by decide) (st:=a) (L:=[b]) (c:=k3)
   (λ x hx=>by simp at hx;rcases hx with rfl | rfl;exact ha;exact hb) (by simp) (λ x hx=>by simp at hx;rcases hx with rfl | rfl;exact hpa;exact hpb)
 have h5:=λ loc dn r=>ym (n:=d+32) (loc:=loc) (bl:=bl) (dn:=dn) (rest:=r) (p:= .tup [.int 1,.int (k4:Int)])
 have h7:=λ loc dn r=>KF (D:=D) (d:=d+41) (dp:=dp) (loc:=loc) (bl:=bl) (dn:=dn) (rest:=r) (w:=dV) (p:= .tup [.int 1,.int (k6:Int)]) (by omega) (by decide) (st:=o) (L:=[]) (c:=k5)
   (λ x hx=>by simp at hx;subst hx;exact ho) (by simp) (λ x hx=>by simp at hx;subst hx;exact hpo)
 have h6:=λ loc dn r=>ty (n:=d+32) (loc:=loc) (bl:=bl) (dn:=dn) (rest:=r) (p:= .tup [.int 1,.int (k6:Int)])
 refine ao (d:=d+41) (i:=101) [some (.slot .rdr),some (clo dp),none,none,none] rfl rfl rfl rfl rfl (slo':=_) ?_ rfl
 unfold clo at *
 simp only [ft,Em,El,bv,jV,fo,ag,af,ax,ah,Ch,aX,az,aP,aB,List.cons_append,List.nil_append,ak,h1,aW,al,av,Ml,h2,aj,aM,Ci,h3,Mm,h4,List.map,dq,h5,aU,au,aq,aT,h7,h6,aV,bR,aZ,bH,j0]
end
theorem d1 {x m D:Nat}(h:60+60 * (m+1)<=D) (l:x<=m):60+60 * x<=D - 60:=by omega
theorem d2 {x m e:Nat}(h:m+1+e<=12) (l:x<=m):x+(e+1)<=12:=by omega
theorem d3 {x m e:Nat}(h:m+1+e<=12) (l:x<=m):x<=12:=by omega
theorem d4 {m D e:Nat}(h:60+60 * (m+1)<=D) (l:D<=e):D - 60+42<=e - 1:=by omega
theorem d5 {m D e:Nat}(h:60+60 * m<=D) (l:D<=e):26<=e/\12<=e:=by omega
theorem RS (st:cL) {D dp:Nat}(hD:60+60 * kX st<=D) (hp:kX st+dp<=12):AT D dp st:=by
 induction st generalizing D dp with
 | lf k =>
   intro d loc bl dn c w p rest hd hw
   obtain ⟨d,rfl⟩:=Rj (d5 hD hd).1
   obtain ⟨w0,q,e,hv,hf⟩:=mC (.lf k)
   have h:=λ loc=>Q1 (n:=d) (loc:=loc) (bl:=bl) (dn:=dn) (c:=c) (rest:=rest) (p:=p) (rb:=clo dp) k w hw
   have e':eX k=w0::q:=e
   show aa ac (d+26) _ _ ⟨loc,RD bl dn (aw (eX k) c++_)⟩=_
   rw [e',dD,List.cons_append] at h ⊢
   rw [e,dD]
   exact KE (Nat.le_add_left_of_le (by decide)) hv (Rl (Rv ..) hp) hf h
 | ife b x y hx hy =>
   intro d loc bl dn c w p rest hd hw
   obtain ⟨w0,q,e,hv,hf⟩:=mC (.ife b x y)
   have h:=λ loc=>KG (D:=D - 60) (d:=d - 1) (dp:=dp) (loc:=loc) (bl:=bl) (dn:=dn) (rest:=rest) (p:=p) (c:=b) (cc:=c) (d4 hD hd) hw (hx (d1 hD (Nat.le_max_left ..)) (d2 hp (Nat.le_max_left ..))) (hy (d1 hD (Nat.le_max_right ..)) (d2 hp (Nat.le_max_right ..))) (d3 hp (Nat.le_max_left ..)) (d3 hp (Nat.le_max_right ..))
   rw [e,dD,List.cons_append] at h ⊢
   exact KE (d5 hD hd).2 hv (Rl (Rv ..) hp) hf h
 | iff b x y o hx hy ho =>
   intro d loc bl dn c w p rest hd hw
   obtain ⟨w0,q,e,hv,hf⟩:=mC (.iff b x y o)
   have h:=λ loc=>HA (D:=D - 60) (d:=d - 1) (dp:=dp) (loc:=loc) (bl:=bl) (dn:=dn) (rest:=rest) (p:=p) (c:=b) (cc:=c) (d4 hD hd) hw (hx (d1 hD Fw) (d2 hp Fw)) (hy (d1 hD Fx) (d2 hp Fx)) (ho (d1 hD (Nat.le_max_right ..)) (d2 hp (Nat.le_max_right ..))) (d3 hp Fw) (d3 hp Fx) (d3 hp (Nat.le_max_right ..))
   rw [e,dD,List.cons_append] at h ⊢
   exact KE (d5 hD hd).2 hv (Rl (Rv ..) hp) hf h
end
section
noncomputable def Mt:Tx:=[77,65,73,78,45,76,73,78,69]
noncomputable def wX:Tx:=[88]
noncomputable def HB:Tx:=[83,69,67,84,73,79,78]
set_option genCtorIdx true in
inductive dR where
 | s1 | s2 | p1 | p2 | p3
noncomputable def dR.name:dR->Tx
 | .s1=>Cb | .s2=>Mt | .p1=>Hn | .p2=>nI | .p3=>wX
noncomputable def dR.isSec:dR->Bool
 | .s1=>true | .s2=>true | _=>false
noncomputable def dR.nm (i:dR):Tx:=if i.isSec then [] else i.name
noncomputable def dR.sc (i:dR) (sec:Tx):Tx:=if i.isSec then i.name else sec
structure fE where
 it:dR
 sts:List cL
noncomputable abbrev mM:=Tx×Tx×List cL
noncomputable def bS:Tx->List fE->List mM
 | _,[]=>[]
 | sec,b::r=>(b.it.nm,b.it.sc sec,b.sts)::bS (b.it.sc sec) r
noncomputable def aG (r:mM):W:= .inst 3 [(10,.str r.1),(11,.str r.2.1),(12,.tup (r.2.2.map bH))]
noncomputable def gz (n:Nat):W:= .tup [.int 1,.int ((8+n:Nat):Int)]
noncomputable def cW (i:dR):List W:=match i.isSec with
 | true=>[tk cg i.name (gz 0) true,tk cg HB (gz (i.name.length+1)) false,tk dk bC (gz (i.name.length+8)) false]
 | false=>[tk cg i.name (gz 0) true,tk dk bC (gz i.name.length) false]
noncomputable def dS (st:cL):List W:=aw (bh st++[bC]) 12
noncomputable def bL (l:List cL):List W:=(l.map dS).flatten
noncomputable def fu (b:fE):List W:=cW b.it++bL b.sts
noncomputable def cB (l:List fE):List W:=(l.map fu).flatten
noncomputable def dw (st:cL):Prop:=kX st<=2
theorem ET (k:Lf):bz (eX k)<=20/\(eX k).length<=5:=by cases k<;>decide
theorem Cj (c:Bool):bz (dt c)<=6/\(dt c).length<=3:=by cases c<;>decide
noncomputable def pg:Nat->Nat
 | 0=>20
 | n+1=>30+3 * pg n
theorem e8 {a:Nat}: ∀ {b:Nat},a<=b->pg a<=pg b
 | 0,h=>by rw [Nat.le_zero.mp h];exact Nat.le_refl _
 | b+1,h=>by
   rcases Nat.lt_or_eq_of_le h with h | h
   · have:=e8 (a:=a) (b:=b) (by omega)
     show pg a<=30+3 * pg b;lia
   · rw [h];exact Nat.le_refl _
theorem AW (l:List Tx):l.length<=bz l:=by
 induction l with
 | nil=>exact Nat.le_refl 0
 | cons a l ih=>rw [eK,List.length_cons];lia
theorem w1 {x a b q:Nat}(hx:x<=6) (ha:a<=q) (hb:b<=q):3+(x+(5+(a+b+(7+0))))<=30+3 * q:=by lia
theorem w2 {x a b o q:Nat}(hx:x<=6) (ha:a<=q) (hb:b<=q) (ho:o<=q):3+(x+(5+(a+b+(5+o+(7+0)))))<=30+3 * q:=by lia
theorem qI (st:cL):bz (bh st)<=pg (kX st):=by
 induction st with
 | lf k=>exact (ET k).1
 | ife c a b ha hb =>
   rw [<- jy,List.flatten_cons,ba,List.flatten_cons,ba,List.flatten_cons,ba,List.flatten_cons,ba,ba,List.flatten_cons,ba]
   exact w1 (Cj c).1 (Rl ha (e8 (Nat.le_max_left ..))) (Rl hb (e8 (Nat.le_max_right ..)))
 | iff c a b o ha hb ho =>
   rw [<- hR,List.flatten_cons,ba,List.flatten_cons,ba,List.flatten_cons,ba,List.flatten_cons,ba,ba,List.flatten_cons,ba,List.flatten_cons,ba]
   exact w2 (Cj c).1 (Rl ha (e8 Fw)) (Rl hb (e8 Fx)) (Rl ho (e8 (Nat.le_max_right ..)))
theorem AX (st:cL):bz (bh st)<=pg (kX st)/\(bh st).length<=pg (kX st):=⟨qI st,Rl (AW _) (qI st)⟩
theorem ke {st:cL}(h:dw st):bz (bh st)<=400/\(bh st).length<=400:=by
 have a:=AX st
 have b:=e8 (a:=kX st) (b:=2) h
 have c:pg 2=300:=rfl
 lia
theorem tA (c:Bool): ∀ w ∈ dt c,Ce w:=by
 intro w hw
 cases c
 · simp only [dt,List.mem_cons,List.not_mem_nil,or_false] at hw
   rcases hw with rfl | rfl | rfl
   · exact .inl (by decide)
   · exact .inr (.inr rfl)
   · exact .inr (.inl rfl)
 · simp only [dt,List.mem_cons,List.not_mem_nil,or_false] at hw
   subst hw;exact .inl (by decide)
theorem AY (k:Lf): ∀ w ∈ eX k,w ∈ qC:=by cases k<;>decide
theorem i6: ∀ (st:cL),∀ w ∈ bh st,Ce w
 | .lf k,w,h=> .inl (AY k w h)
 | .ife c a b,w,h=>by
   simp only [bh,List.mem_cons,List.mem_append,List.not_mem_nil,or_false] at h
   rcases h with rfl | h | rfl | (h | h) | rfl
   · exact .inl (by decide)
   · exact tA c w h
   · exact .inl (by decide)
   · exact i6 a w h
   · exact i6 b w h
   · exact .inl (by decide)
 | .iff c a b o,w,h=>by
   simp only [bh,List.mem_cons,List.mem_append,List.not_mem_nil,or_false] at h
   rcases h with rfl | h | rfl | (h | h) | rfl | h | rfl
   · exact .inl (by decide)
   · exact tA c w h
   · exact .inl (by decide)
   · exact i6 a w h
   · exact i6 b w h
   · exact .inl (by decide)
   · exact i6 o w h
   · exact .inl (by decide)
noncomputable def TK (bl:List W):ab:=⟨.list bl,.absent,.absent,.absent,.absent⟩
theorem qJ {α β:Type}{f:α->List β}{k:Nat}: ∀ {l:List α},(∀ a ∈ l,(f a).length<=k)->(l.map f).flatten.length<=k * l.length
 | [],_=>by simp
 | a::l,h=>by
   have h1:=h a List.mem_cons_self
   have h2:=qJ (f:=f) (k:=k) (l:=l) λ b hb=>h b (Rk _ hb)
   rw [List.map_cons,List.flatten_cons,List.length_append,List.length_cons,Nat.mul_succ]
   lia
theorem i7 {st:cL}(h:dw st):(dS st).length<=401:=by
 unfold dS;rw [pe,List.length_append];have:=(ke h).2;simp;lia
section
variable {n d:Nat}{loc:List (Option V)}{bl:List W}
theorem KH (hd:40<=d) {st:cL}(h:dw st):aa ac d (.w (.fn 65)) [.w (.str (tx (bh st)++[32,46]))] ⟨loc,TK bl⟩=some (.own (dS st),⟨loc,TK bl⟩):=by
 have e:tx (bh st)++[32,46]=tx (bh st++[bC]):=by rw [gn (du st) (by simp)];rfl
 have l:=ke h
 have t:=my (du st)
 rw [e]
 exact QU (by omega) Cl.list Cl.absent Cl.absent (i6 st) (by omega) (by rw [<- e,List.length_append];simp;lia)
theorem yr (hd:40<=d) {row:W}: ∀ (l:List cL) (acc:List W) (x:Option V),(∀ st ∈ l,dw st)->acc.length+401 * l.length < 16777216 ->
   ∃ x',bV 2 (λ s=>aL ac (aa ac d) (.cons (.ext 1 (.call false (.glo 81) (.cons (.bin false .Add (.call false (.glo 76) (.cons (.var 2) .nil)) (.cst (.str [32,46]))) .nil))) .nil) s) (l.map bH) ⟨[some (.w row),some (.own acc),x],TK bl⟩=some (.next,⟨[some (.w row),some (.own (acc++bL l)),x'],TK bl⟩)
 | [],acc,x,_,_=>⟨x,by rw [show bL []=[] from rfl,List.append_nil];rfl⟩
 | st::l,acc,x,h,hn=>by
   have hs:=h st List.mem_cons_self
   obtain ⟨x',e⟩:=yr hd (row:=row) l (acc++dS st) (some (.w (bH st))) (λ y hy=>h y (Rk _ hy)) (by have:=i7 hs;simp at hn ⊢; lia)
   refine ⟨x',de (.inl ?_) (e.trans ?_)⟩
   · have a:=λ loc=>Mp (sl:=TK bl) (loc:=loc) st (d:=d) (by unfold dw at hs;lia) (by have:=ke hs;lia)
     have b:=λ loc=>KH (d:=d) (loc:=loc) (bl:=bl) hd hs
     have gr:Nat.blt (acc.length+(dS st).length) cw=true:=Rp (by have:=i7 hs;have:=kJ;simp at hn;lia)
     have le:Nat.ble ((tx (bh st)).length+([32,46]:Tx).length) cw=true:=Rp (by have:=my (du st);have:=(ke hs).1;have:=kJ;simp;lia)
     simp only [aj,aM,bv,oR,af,ax,dH,cK,al,av,QI,aX,bX,Ft,ag,ah,aP,aB,ak,a,au,aq,az,cj,bQ,ck,aY,gk,a7,le,b,fy,iF,dB,fD,gK,gr,cJ]
   · rw [List.append_assoc];rfl
theorem EU (i:dR) {sec:Tx}{ss:List W}:bn ac (aa ac (n+60)) (.ifs (.cmp false (.att (.var 0) 10) .NotEq (.cst (.str []))) (.cons (.asg 1 (.call false (.glo 81) (.cons (.bin false .Add (.att (.var 0) 10) (.cst (.str [46]))) (.cons (.cst (.bool true)) .nil)))) .nil) (.cons (.ifs (.cmp false (.att (.var 0) 11) .NotEq (.cst (.str []))) (.cons (.asg 1 (.call false (.glo 81) (.cons (.bin false .Add (.att (.var 0) 11) (.cst (.str [32,83,69,67,84,73,79,78,46]))) (.cons (.cst (.bool true)) .nil)))) .nil) .nil) .nil)) ⟨[some (.w (.inst 3 [(10,.str i.nm),(11,.str (i.sc sec)),(12,.tup ss)])),some (.own []),none],TK bl⟩=some (.next,⟨[some (.w (.inst 3 [(10,.str i.nm),(11,.str (i.sc sec)),(12,.tup ss)])),some (.own (cW i)),none],TK bl⟩):=by
 cases i
 · kernel_rfl
 · kernel_rfl
 · kernel_rfl
 · kernel_rfl
 · kernel_rfl
theorem AZ {ss:List W}:bn ac (aa ac (n+60)) (.ifs (.cmp false (.att (.var 0) 10) .NotEq (.cst (.str []))) (.cons (.asg 1 (.call false (.glo 81) (.cons (.bin false .Add (.att (.var 0) 10) (.cst (.str [46]))) (.cons (.cst (.bool true)) .nil)))) .nil) (.cons (.ifs (.cmp false (.att (.var 0) 11) .NotEq (.cst (.str []))) (.cons (.asg 1 (.call false (.glo 81) (.cons (.bin false .Add (.att (.var 0) 11) (.cst (.str [32,83,69,67,84,73,79,78,46]))) (.cons (.cst (.bool true)) .nil)))) .nil) .nil) .nil)) ⟨[some (.w (.inst 3 [(10,.str []),(11,.str []),(12,.tup ss)])),some (.own []),none],TK bl⟩=some (.next,⟨[some (.w (.inst 3 [(10,.str []),(11,.str []),(12,.tup ss)])),some (.own []),none],TK bl⟩):=by
 kernel_rfl
theorem Cm (hd:61<=d) {nm sc:Tx}{l:List cL}{hd0:List W}(h: ∀ st ∈ l,dw st) (hl:hd0.length+401 * l.length < 16777216)
   (hh: ∀ n,bn ac (aa ac (n+60)) (.ifs (.cmp false (.att (.var 0) 10) .NotEq (.cst (.str []))) (.cons (.asg 1 (.call false (.glo 81) (.cons (.bin false .Add (.att (.var 0) 10) (.cst (.str [46]))) (.cons (.cst (.bool true)) .nil)))) .nil) (.cons (.ifs (.cmp false (.att (.var 0) 11) .NotEq (.cst (.str []))) (.cons (.asg 1 (.call false (.glo 81) (.cons (.bin false .Add (.att (.var 0) 11) (.cst (.str [32,83,69,67,84,73,79,78,46]))) (.cons (.cst (.bool true)) .nil)))) .nil) .nil) .nil)) ⟨[some (.w (.inst 3 [(10,.str nm),(11,.str sc),(12,.tup (l.map bH))])),some (.own []),none],TK bl⟩=some (.next,⟨[some (.w (.inst 3 [(10,.str nm),(11,.str sc),(12,.tup (l.map bH))])),some (.own hd0),none],TK bl⟩)) :
   aa ac d (.w (.fn 66)) [.w (aG (nm,sc,l))] ⟨loc,TK bl⟩=some (.w (.lst (hd0++bL l)),⟨loc,TK bl⟩):=by
 obtain ⟨d,rfl⟩:=Rj (show 61<=d by omega)
 obtain ⟨x',e⟩:=yr (d:=d+60) (bl:=bl) (row:=aG (nm,sc,l)) (by omega) l hd0 none h hl
 have hk:bn ac (aa ac (d+60)) (.for_ 0 2 (.att (.var 0) 12) (.cons (.ext 1 (.call false (.glo 81) (.cons (.bin false .Add (.call false (.glo 76) (.cons (.var 2) .nil)) (.cst (.str [32,46]))) .nil))) .nil)) ⟨[some (.w (aG (nm,sc,l))),some (.own hd0),none],TK bl⟩=some (.next,⟨[some (.w (aG (nm,sc,l))),some (.own (hd0++bL l)),x'],TK bl⟩):=by
   rw [fq]
   have f1:ac.isF 3 12=true:=rfl
   have f2:bW 12 [(10,W.str nm),(11,.str sc),(12,.tup (l.map bH))]=some (.tup (l.map bH)):=rfl
   unfold aG at e ⊢
   simp only [a9,ag,af,ax,ah,ay,a6,aF,bO,bI,f1,bN,f2,au,aq,br,bv,oR,dH,cK,al,av,aX,bX,aj,aP,aB,ak,cu,a0,eh,be,cR,bj,eA,bw,gy,bx,d8,aY,hK,bJ,ci,bQ,i4,ky,a7,i5,az,cj,ck,gk,cJ]
   exact e
 have hr:aL ac (aa ac (d+60)) Jy ⟨[some (.w (aG (nm,sc,l))),none,none],TK bl⟩=some (.ret (.w (.lst (hd0++bL l))),⟨[some (.w (aG (nm,sc,l))),some (.w (.lst (hd0++bL l))),x'],TK bl⟩):=by
   unfold Jy
   refine cy (s':=⟨[some (.w (aG (nm,sc,l))),some (.own []),none],TK bl⟩) ?_ (cy (hh d) (cy hk (jz ?_)))
   · simp only [aW,cV,aP,aZ,aj,aM]
   · simp only [aV,ag,af,ax,ah,aj,aM]
 exact ao (d:=d+60) (i:=66) [some (.w (aG (nm,sc,l))),none,none] rfl rfl rfl rfl rfl (slo':=TK bl) (eY hr) rfl
end
end
section
set_option genCtorIdx true in
inductive Us where
 | u0 | u1 | u2
noncomputable def gA:Tx:=[80,82,79,67,69,68,85,82,69]
noncomputable def uS:Tx:=[68,73,86,73,83,73,79,78]
noncomputable def ph:Tx:=[85,83,73,78,71]
noncomputable def uT:Tx:=[65,82,71]
noncomputable def yt:Tx:=[82,69,83,84]
noncomputable def mN:Us->List W
 | .u0=>[] | .u1=>[.str uT] | .u2=>[.str uT,.str yt]
noncomputable def bT:Us->List W
 | .u0=>[tk cg gA (gz 0) true,tk cg uS (gz 10) false,tk dk bC (gz 19) false]
 | .u1=>[tk cg gA (gz 0) true,tk cg uS (gz 10) false,tk cg ph (gz 19) false,tk cg uT (gz 25) false,tk dk bC (gz 29) false]
 | .u2=>[tk cg gA (gz 0) true,tk cg uS (gz 10) false,tk cg ph (gz 19) false,tk cg uT (gz 25) false,tk cg yt (gz 29) false,tk dk bC (gz 34) false]
noncomputable def dY (u:Us) (rows:List W):W:= .inst 4 [(13,.lst rows),(14,.tup (mN u))]
structure eF (b:fE):Prop where
 len:b.sts.length<=2
 ok: ∀ st ∈ b.sts,dw st
noncomputable def aA (first:List cL) (bs:List fE):List mM:=(match first with | []=>[] | _::_=>[([],[],first)])++bS [] bs
noncomputable def aO (first:List cL) (bs:List fE):List W:=bL first++cB bs
theorem kC {l:List cL}(h: ∀ st ∈ l,dw st):(bL l).length<=401 * l.length:=qJ λ st hs=>i7 (h st hs)
theorem mD (i:dR):(cW i).length<=3:=by cases i<;>decide
theorem qK {b:fE}(h:eF b):(fu b).length<=810:=by
 unfold fu
 rw [List.length_append]
 have:=mD b.it
 have:=kC h.ok
 have:=h.len
 lia
section
variable {n d:Nat}{loc:List (Option V)}{bl:List W}
theorem KI (u:Us) {rows:List W}:bn ac (aa ac (n+60)) (.asg 1 (.call false (.glo 81) (.cons (.call false (.glo 66) (.cons (.lst (.cons (.cst (.str [80,82,79,67,69,68,85,82,69,32,68,73,86,73,83,73,79,78])) (.cons (.call false (.glo 82) (.cons (.cst (.str [85,83,73,78,71])) (.cons (.call false (.glo 66) (.cons (.att (.var 0) 14) .nil)) .nil))) (.cons (.cst (.str [46])) .nil)))) .nil)) (.cons (.cst (.bool true)) .nil)))) ⟨[some (.w (dY u rows)),none,none],TK bl⟩=some (.next,⟨[some (.w (dY u rows)),some (.own (bT u)),none],TK bl⟩):=by
 cases u
 · kernel_rfl
 · kernel_rfl
 · kernel_rfl
theorem Cn {v:V}{P r:W}{acc ts:List W}{x:Option V}(h: ∀ loc,aa ac d (.w (.fn 66)) [.w r] ⟨loc,TK bl⟩=some (v,⟨loc,TK bl⟩)) (hv:fy v=some ts) (hn:acc.length+ts.length < 16777216) :
   aL ac (aa ac d) (.cons (.ext 1 (.call false (.glo 83) (.cons (.var 2) .nil))) .nil) ⟨[some (.w P),some (.own acc),some (.w r)],TK bl⟩=some (.next,⟨[some (.w P),some (.own (acc++ts)),some (.w r)],TK bl⟩):=by
 have gr:Nat.blt (acc.length+ts.length) cw=true:=Rp (by have:=kJ;lia)
 simp only [bv,oR,af,ax,dH,cK,aM,al,av,QJ,aX,ag,ah,aP,aB,ak,h,hv,iF,dB,fD,gK,gr,aj,cJ]
theorem rU (hd:62<=d) {P:W}: ∀ (bs:List fE) (sec:Tx) (acc:List W) (x:Option V),(∀ b ∈ bs,eF b)->acc.length+810 * bs.length < 16777216 ->
   ∃ x',bV 2 (λ s=>aL ac (aa ac d) (.cons (.ext 1 (.call false (.glo 83) (.cons (.var 2) .nil))) .nil) s) ((bS sec bs).map aG) ⟨[some (.w P),some (.own acc),x],TK bl⟩=some (.next,⟨[some (.w P),some (.own (acc++cB bs)),x'],TK bl⟩)
 | [],sec,acc,x,_,_=>⟨x,by rw [show cB []=[] from rfl,List.append_nil];rfl⟩
 | b::bs,sec,acc,x,h,hn=>by
   have hb:=h b List.mem_cons_self
   have lb:=qK hb
   have hlen:=hb.len
   obtain ⟨x',e⟩:=rU hd (P:=P) bs (b.it.sc sec) (acc++fu b) (some (.w (aG (b.it.nm,b.it.sc sec,b.sts)))) (λ y hy=>h y (Rk _ hy)) (by simp at hn ⊢; lia)
   have hv:=λ loc=>Cm (loc:=loc) (bl:=bl) (d:=d) (by omega) (nm:=b.it.nm) (sc:=b.it.sc sec) (hd0:=cW b.it) hb.ok (by have:=mD b.it;lia) (λ n=>EU b.it)
   refine ⟨x',de (.inl ?_) (e.trans ?_)⟩
   · exact Cn (x:=x) hv rfl (by show acc.length+(fu b).length < _;simp at hn;lia)
   · rw [List.append_assoc];rfl
theorem Q4 (hd:63<=d) (u:Us) {first:List cL}{bs:List fE}(hf:first.length<=2) (hfo: ∀ st ∈ first,dw st) (hb: ∀ b ∈ bs,eF b) (hn:bs.length < 1000) :
   aa ac d (.w (.fn 67)) [.w (dY u ((aA first bs).map aG))] ⟨loc,TK bl⟩=some (.w (.lst (bT u++aO first bs)),⟨loc,TK bl⟩):=by
 obtain ⟨d,rfl⟩:=Rj (show 63<=d by omega)
 generalize hP:dY u ((aA first bs).map aG)=P
 have us:(bT u).length<=6:=by cases u<;>decide
 have fl:=kC hfo
 obtain ⟨x',e⟩: ∃ x',bV 2 (λ s=>aL ac (aa ac (d+62)) (.cons (.ext 1 (.call false (.glo 83) (.cons (.var 2) .nil))) .nil) s) ((aA first bs).map aG) ⟨[some (.w P),some (.own (bT u)),none],TK bl⟩=some (.next,⟨[some (.w P),some (.own (bT u++aO first bs)),x'],TK bl⟩):=by
   unfold aA aO
   cases first with
   | nil=>exact rU (by omega) bs [] _ _ hb (by omega)
   | cons st l =>
     obtain ⟨x',e⟩:=rU (d:=d+62) (bl:=bl) (by omega) (P:=P) bs [] (bT u++bL (st::l)) (some (.w (aG ([],[],st::l)))) hb (by rw [List.length_append];lia)
     have hv:=λ loc=>Cm (loc:=loc) (bl:=bl) (d:=d+62) (by omega) (nm:=[]) (sc:=[]) (hd0:=[]) hfo (by simp at *; lia) (λ n=>AZ)
     refine ⟨x',de (.inl (Cn (x:=none) hv rfl ?_)) (e.trans ?_)⟩
     · show (bT u).length+(bL (st::l)).length < _;lia
     · rw [List.append_assoc]
 have hk:bn ac (aa ac (d+62)) (.for_ 0 2 (.att (.var 0) 13) (.cons (.ext 1 (.call false (.glo 83) (.cons (.var 2) .nil))) .nil)) ⟨[some (.w P),some (.own (bT u)),none],TK bl⟩=some (.next,⟨[some (.w P),some (.own (bT u++aO first bs)),x'],TK bl⟩):=by
   rw [fq]
   have f1:ac.isF 4 13=true:=rfl
   have f2:bW 13 [(13,W.lst ((aA first bs).map aG)),(14,.tup (mN u))]=some (.lst ((aA first bs).map aG)):=rfl
   subst hP
   unfold dY at e ⊢
   simp only [a9,ag,af,ax,ah,ay,a6,aF,bO,bI,f1,bN,f2,au,aq,br,bv,oR,dH,cK,al,av,aX,aj,aP,aB,ak,cu,a0,eh,be,cR,bj,eA,bw,gy,bx,d8,aY,hK,bJ,ci,bQ,i4,ky,a7,i5,cJ]
   exact e
 have hr:aL ac (aa ac (d+62)) Jz ⟨[some (.w P),none,none],TK bl⟩=some (.ret (.w (.lst (bT u++aO first bs))),⟨[some (.w P),some (.w (.lst (bT u++aO first bs))),x'],TK bl⟩):=by
   unfold Jz
   refine cy (s':=⟨[some (.w P),some (.own (bT u)),none],TK bl⟩) ?_ (cy hk (jz ?_))
   · subst hP;exact KI (n:=d+2) u
   · simp only [aV,ag,af,ax,ah,aj,aM]
 exact ao (d:=d+62) (i:=67) [some (.w P),none,none] rfl rfl rfl rfl rfl (slo':=TK bl) (eY hr) rfl
end
end
section
section
variable {n d:Nat}{loc:List (Option V)}{bl dn rest:List W}{p:W}
theorem yu: ∀ w ∈ yk,aa ac (n+12) (.w (.fn 77)) [.slot .rdr] ⟨loc,RD bl dn (kt w p::rest)⟩=some (.w (.bool false),⟨loc,RD bl dn (kt w p::rest)⟩):=by
 intro w hw
 simp only [yk,List.mem_cons,List.not_mem_nil,or_false] at hw
 rcases hw with rfl | rfl | rfl | rfl | rfl<;>kernel_rfl
theorem uU: ∀ w ∈ yk,aa ac (n+12) (.w (.fn 76)) [.slot .rdr] ⟨loc,RD bl dn (kt w p::rest)⟩=some (.w (.bool false),⟨loc,RD bl dn (kt w p::rest)⟩):=by
 intro w hw
 simp only [yk,List.mem_cons,List.not_mem_nil,or_false] at hw
 rcases hw with rfl | rfl | rfl | rfl | rfl<;>kernel_rfl
theorem EV (i:dR):aa ac (n+12) (.w (.fn 77)) [.slot .rdr] ⟨loc,RD bl dn (cW i++rest)⟩=some (.w (.bool false),⟨loc,RD bl dn (cW i++rest)⟩):=by
 cases i
 · kernel_rfl
 · kernel_rfl
 · kernel_rfl
 · kernel_rfl
 · kernel_rfl
theorem A1 (i:dR):aa ac (n+12) (.w (.fn 76)) [.slot .rdr] ⟨loc,RD bl dn (cW i++rest)⟩=some (.w (.bool true),⟨loc,RD bl dn (cW i++rest)⟩):=by
 cases i
 · kernel_rfl
 · kernel_rfl
 · kernel_rfl
 · kernel_rfl
 · kernel_rfl
theorem A3:aa ac (n+12) (.w (.fn 77)) [.slot .rdr] ⟨loc,RD bl dn []⟩=some (.w (.bool true),⟨loc,RD bl dn []⟩):=by kernel_rfl
theorem A4 (i:dR) {sec:Tx}:aa ac (n+12) (.w (.fn 78)) [.slot .rdr,.w (.str sec)] ⟨loc,RD bl dn (cW i++rest)⟩=some (.w (.tup [.str i.nm,.str (i.sc sec)]),⟨loc,RD bl ((cW i).reverse++dn) rest⟩):=by
 cases i
 · kernel_rfl
 · kernel_rfl
 · kernel_rfl
 · kernel_rfl
 · kernel_rfl
theorem yv:aa ac (n+12) (.w (.fn 96)) [.slot .rdr,.w (.str [46])] ⟨loc,RD bl dn (kt bC p::rest)⟩=some (.w .none,⟨loc,RD bl (kt bC p::dn) rest⟩):=by kernel_rfl
end
theorem z0:((0:Nat):Int)=0:=rfl
noncomputable def iE (r:mM):W×List W:=(.tup [.str r.1,.str r.2.1],r.2.2.map bH)
theorem kD {ws:List W}: ∀ {H:List (W×List W)}{n:W}{x:List W},x.length+ws.length < 16777216->fx (H++[(n,x)]) ws=some (H++[(n,x++ws)])
 | [],n,x,h=>by
   have:Nat.blt (x.length+ws.length) cw=true:=Rp h
   simp only [List.nil_append,fx,this]
 | [q],n,x,h=>by
   have:Nat.blt (x.length+ws.length) cw=true:=Rp h
   simp only [List.cons_append,List.nil_append,fx,this]
 | q::q'::H,n,x,h=>by
   have:=kD (H:=q'::H) (n:=n) (x:=x) (ws:=ws) h
   simp only [List.cons_append] at this ⊢
   simp only [fx,this]
section
variable {n d:Nat}{loc:List (Option V)}{bl dn rest:List W}{p:W}
noncomputable def kK (nW:W) (H:List (W×List W)) (x:Option V):List (Option V):=[some (.slot .rdr),some (.w (.fn 110)),some (.w nW),some (.hds H),x,none]
noncomputable abbrev yV (d:Nat):St->Option (V×St):=λ s=>am ac (aa ac d) (.not (.call false (.glo 89) (.cons (.var 0) .nil))) s
noncomputable abbrev A5 (d:Nat):St->Option (Fl×St):=λ s=>aL ac (aa ac d) (.cons (.ifs (.call false (.glo 90) (.cons (.var 0) .nil)) (.cons (.asg 2 (.call false (.glo 91) (.cons (.var 0) (.cons (.sub false (.var 2) (.cst (.int 1))) .nil)))) (.cons (.hdA 3 (.var 2)) .nil)) (.cons (.asg 4 (.call false (.glo 88) (.cons (.var 0) (.cons (.cst (.int 0)) (.cons (.var 1) .nil))))) (.cons (.ifs (.cmp false (.var 4) .Eq (.tup .nil)) (.cons .bad .nil) .nil) (.cons (.exp (.meth (.var 0) 39 (.cons (.cst (.str [46])) .nil))) (.cons (.hdX 3 (.var 4)) .nil))))) .nil) s
theorem EW (hd:200<=d) {st:cL}(h:dw st) {nW nm:W}{H:List (W×List W)}{acc:List W}{x:Option V}{m:Nat}(hn:acc.length+1 < 16777216) :
   bt (yV d) (A5 d) (m+1) ⟨kK nW (H++[(nm,acc)]) x,RD bl dn (dS st++rest)⟩=bt (yV d) (A5 d) m ⟨kK nW (H++[(nm,acc++[bH st])]) (some (.w (.tup [bH st]))),RD bl ((dS st).reverse++dn) rest⟩:=by
 obtain ⟨d,rfl⟩:=Rj hd
 have e:dS st++rest=aw (dE [st]) 12++kt bC (.tup [.int 1,.int ((12+bz (bh st):Nat):Int)])::rest:=by
   unfold dS
   rw [j9,List.append_assoc]
   simp [dE,dD,pf]
 have e2:(dS st).reverse++dn=kt bC (.tup [.int 1,.int ((12+bz (bh st):Nat):Int)])::((aw (dE [st]) 12).reverse++dn):=by
   unfold dS
   rw [j9]
   simp [dE,dD,pf]
 generalize W.tup [.int 1,.int ((12+bz (bh st):Nat):Int)]=p at e e2
 obtain ⟨w2,p2,r2,e3,hw2⟩:=nN st 12 (kt bC p::rest)
 have e3:aw (dE [st]) 12++kt bC p::rest=kt w2 p2::r2:=by rw [<- e3];simp [dE]
 have pl:aC 40 (.tup [bH st])=true:=by
   show aS 39 ([st].map bH)=true
   exact eZ λ x hx=>by simp at hx;subst hx;unfold dw at h;lia
 have pl0:aC 40 (.tup [])=true:=rfl
 have eq0:gE (.tup [bH st]) (.tup [])=false:=rfl
 have h1:=λ loc=>Ms (D:=180) (d:=d+200) (dp:=0) (loc:=loc) (bl:=bl) (dn:=dn) (rest:=rest) (w:=bC) (p:=p) (by omega) (by decide) (L:=[st]) (c:=12) (λ x hx=>by simp at hx;subst hx;unfold dw at h;exact RS x (by omega) (by omega)) (by simp)
 have h2:=λ loc=>uU (n:=d+188) (loc:=loc) (bl:=bl) (dn:=dn) (rest:=r2) (p:=p2) w2 hw2
 have h3:=λ loc dn=>yv (n:=d+188) (loc:=loc) (bl:=bl) (dn:=dn) (rest:=rest) (p:=p)
 have h4:=λ loc=>yu (n:=d+188) (loc:=loc) (bl:=bl) (dn:=dn) (rest:=r2) (p:=p2) w2 hw2
 have hx:fx (H++[(nm,acc)]) [bH st]=some (H++[(nm,acc++[bH st])]):=kD hn
 have c39: ∀ rem,dF ac (RD bl ((aw (dE [st]) 12).reverse++dn) rem) (.slot .rdr) 39=some (.w (.fn 96),[.slot .rdr]):=λ _=>Hy rfl rfl
 rw [e,e2]
 rw [<- e3] at h2 h4
 simp only [List.map,z0] at h1
 refine eW (s1:=⟨kK nW (H++[(nm,acc)]) x,RD bl dn (aw (dE [st]) 12++kt bC p::rest)⟩) (s2:=⟨kK nW (H++[(nm,acc++[bH st])]) (some (.w (.tup [bH st]))),RD bl (kt bC p::((aw (dE [st]) 12).reverse++dn)) rest⟩) ?_ (.inl ?_) rfl
 · unfold kK
   simp only [ms,al,av,Kh,aX,ag,af,ax,ah,aP,aB,ak,h4,aU,au,aq,aT,Bool.not_false]
 · unfold kK
   simp only [bv,bB,al,av,Mj,aX,ag,af,ax,ah,aP,aB,ak,h2,aU,au,aq,aT,aW,Mi,az,h1,aj,aM,aI,bR,aZ,aJ,ce,a7,dj,pl,pl0,Bool.and_self,eq0,cJ,jV,fo,c39,List.cons_append,List.nil_append,h3,D4,td,cK,fy,bQ,gy,Ea,dB,fD,hx]
theorem EX (hd:200<=d) (i:dR) {sec a:Tx}{H:List (W×List W)}{x:Option V}{m:Nat}(hn:H.length < 10000) :
   bt (yV d) (A5 d) (m+1) ⟨kK (.tup [.str a,.str sec]) H x,RD bl dn (cW i++rest)⟩=bt (yV d) (A5 d) m ⟨kK (.tup [.str i.nm,.str (i.sc sec)]) (H++[(.tup [.str i.nm,.str (i.sc sec)],[])]) x,RD bl ((cW i).reverse++dn) rest⟩:=by
 obtain ⟨d,rfl⟩:=Rj hd
 have h1:=λ loc=>EV (n:=d+188) (loc:=loc) (bl:=bl) (dn:=dn) (rest:=rest) i
 have h2:=λ loc=>A1 (n:=d+188) (loc:=loc) (bl:=bl) (dn:=dn) (rest:=rest) i
 have h3:=λ loc=>A4 (n:=d+188) (loc:=loc) (bl:=bl) (dn:=dn) (rest:=rest) i (sec:=sec)
 have gr:Nat.blt H.length cw=true:=Rp (by have:=kJ;lia)
 refine eW (s1:=⟨kK (.tup [.str a,.str sec]) H x,RD bl dn (cW i++rest)⟩) (s2:=⟨kK (.tup [.str i.nm,.str (i.sc sec)]) (H++[(.tup [.str i.nm,.str (i.sc sec)],[])]) x,RD bl ((cW i).reverse++dn) rest⟩) ?_ (.inl ?_) rfl
 · unfold kK
   simp only [ms,al,av,Kh,aX,ag,af,ax,ah,aP,aB,ak,h1,aU,au,aq,aT,Bool.not_false]
 · unfold kK
   simp only [bv,bB,al,av,Mj,aX,ag,af,ax,ah,aP,aB,ak,h2,aU,au,aq,aT,aW,QM,bc,az,bq,xW,h3,aj,aM,D3,td,cK,D9,dB,fD,gr,Bool.and_self,cJ]
theorem pi (hd:200<=d) {nW nm:W}{H:List (W×List W)}: ∀ (l:List cL) (acc:List W) (x:Option V) (dn:List W) (m:Nat),(∀ st ∈ l,dw st)->acc.length+l.length < 16777216 ->
   ∃ x',bt (yV d) (A5 d) (m+l.length) ⟨kK nW (H++[(nm,acc)]) x,RD bl dn (bL l++rest)⟩=bt (yV d) (A5 d) m ⟨kK nW (H++[(nm,acc++l.map bH)]) x',RD bl ((bL l).reverse++dn) rest⟩
 | [],acc,x,dn,m,_,_=>⟨x,by simp [bL]⟩
 | st::l,acc,x,dn,m,h,hn=>by
   obtain ⟨x',e⟩:=pi hd (nW:=nW) (nm:=nm) (H:=H) l (acc++[bH st]) (some (.w (.tup [bH st]))) ((dS st).reverse++dn) m (λ y hy=>h y (Rk _ hy)) (by simp at hn ⊢; lia)
   refine ⟨x',?_⟩
   have e0:bL (st::l)=dS st++bL l:=rfl
   rw [e0,List.append_assoc,List.length_cons,<- Nat.add_assoc,EW hd (h st List.mem_cons_self) (by simp at hn;lia),e,List.reverse_append,List.append_assoc,List.append_assoc]
   rfl
noncomputable def dg:List fE->Nat
 | []=>0
 | b::r=>dg r+b.sts.length+1
theorem qL (hd:200<=d): ∀ (bs:List fE) (a sec:Tx) (H:List (W×List W)) (x:Option V) (dn:List W) (m:Nat),(∀ b ∈ bs,eF b)->H.length+bs.length < 10000 ->
   ∃ nW x',bt (yV d) (A5 d) (m+dg bs) ⟨kK (.tup [.str a,.str sec]) H x,RD bl dn (cB bs)⟩=bt (yV d) (A5 d) m ⟨kK nW (H++(bS sec bs).map iE) x',RD bl ((cB bs).reverse++dn) []⟩
 | [],a,sec,H,x,dn,m,_,_=>⟨.tup [.str a,.str sec],x,by simp [cB,bS,dg]⟩
 | b::bs,a,sec,H,x,dn,m,h,hn=>by
   have hb:=h b List.mem_cons_self
   have lb:=hb.len
   obtain ⟨x1,e1⟩:=pi (d:=d) (bl:=bl) (rest:=cB bs) hd (nW:= .tup [.str b.it.nm,.str (b.it.sc sec)]) (nm:= .tup [.str b.it.nm,.str (b.it.sc sec)]) (H:=H) b.sts [] x ((cW b.it).reverse++dn) (m+dg bs) hb.ok (by simp;lia)
   obtain ⟨nW,x',e2⟩:=qL hd bs b.it.nm (b.it.sc sec) (H++[(.tup [.str b.it.nm,.str (b.it.sc sec)],[]++b.sts.map bH)]) x1 ((bL b.sts).reverse++((cW b.it).reverse++dn)) m (λ y hy=>h y (Rk _ hy)) (by simp at hn ⊢; lia)
   refine ⟨nW,x',?_⟩
   have e0:cB (b::bs)=cW b.it++(bL b.sts++cB bs):=by simp [cB,fu]
   have e3:m+dg (b::bs)=(m+dg bs+b.sts.length)+1:=by simp [dg];lia
   rw [e0,e3,EX hd b.it (by simp at hn;lia),e1,e2]
   simp [bS,iE]
end
end
section
theorem HE {cf:bP}{a b c e:S}{r:Ss}{s s':St}{R:Option (Fl×St)}(h1:aL ac cf (.cons a (.cons b (.cons c (.cons e .nil)))) s=some (.next,s')) (h2:aL ac cf r s'=R):aL ac cf (.cons a (.cons b (.cons c (.cons e r)))) s=R:=by
 simp only [cJ,bv] at h1 ⊢
 cases ha:bn ac cf a s with
 | none=>rw [ha] at h1;cases h1
 | some q =>
   obtain ⟨f,s1⟩:=q
   rw [ha] at h1
   cases f with
   | cont=>cases h1
   | ret v=>cases h1
   | next =>
     dsimp only at h1 ⊢
     cases hb:bn ac cf b s1 with
     | none=>rw [hb] at h1;cases h1
     | some q =>
       obtain ⟨f,s2⟩:=q
       rw [hb] at h1
       cases f with
       | cont=>cases h1
       | ret v=>cases h1
       | next =>
         dsimp only at h1 ⊢
         cases hc:bn ac cf c s2 with
         | none=>rw [hc] at h1;cases h1
         | some q =>
           obtain ⟨f,s3⟩:=q
           rw [hc] at h1
           cases f with
           | cont=>cases h1
           | ret v=>cases h1
           | next =>
             dsimp only at h1 ⊢
             cases he:bn ac cf e s3 with
             | none=>rw [he] at h1;cases h1
             | some q =>
               obtain ⟨f,s4⟩:=q
               rw [he] at h1
               cases f with
               | cont=>cases h1
               | ret v=>cases h1
               | next =>
                 dsimp only at h1 ⊢
                 cases h1;exact h2
section
variable {n d:Nat}{loc:List (Option V)}{bl dn rest:List W}{p:W}{bg rd cn tks:dy}
theorem Q5 {a b c:W}:aa ac (n+3) (.w (.fn 68)) [.slot .tmp,.w a,.w b,.w c] ⟨loc,⟨bg,rd,cn,tks,.obj 3 []⟩⟩=some (.w .none,⟨loc,⟨bg,rd,cn,tks,.obj 3 [(10,.w a),(11,.w b),(12,.w c)]⟩⟩):=by kernel_rfl
theorem yw (hd:3<=d) (h1:Cl bg) (h2:Cl rd) (h3:Cl cn) (h4:Cl tks) {a b c:W}:gw ac (aa ac d) 3 [.w a,.w b,.w c] ⟨loc,⟨bg,rd,cn,tks,.absent⟩⟩=some (.w (.inst 3 [(10,a),(11,b),(12,c)]),⟨loc,⟨bg,rd,cn,tks,.absent⟩⟩):=by
 obtain ⟨d,rfl⟩:=Rj hd
 have i1:ac.init 3=some 68:=rfl
 have l:=jA (o:= .obj 3 [(10,.w a),(11,.w b),(12,.w c)]) h1 h2 h3 h4 (v:= .w .none) rfl
 simp only [gw,im,te,au,sZ,kV,i1,gm,cA,Q5,fg,aq,l]
theorem Q6 {a b:W}:aa ac (n+3) (.w (.fn 70)) [.slot .tmp,.w a,.w b] ⟨loc,⟨bg,rd,cn,tks,.obj 4 []⟩⟩=some (.w .none,⟨loc,⟨bg,rd,cn,tks,.obj 4 [(13,.w a),(14,.w b)]⟩⟩):=by kernel_rfl
theorem yx (hd:3<=d) (h1:Cl bg) (h2:Cl rd) (h3:Cl cn) (h4:Cl tks) {a b:W}:gw ac (aa ac d) 4 [.w a,.w b] ⟨loc,⟨bg,rd,cn,tks,.absent⟩⟩=some (.w (.inst 4 [(13,a),(14,b)]),⟨loc,⟨bg,rd,cn,tks,.absent⟩⟩):=by
 obtain ⟨d,rfl⟩:=Rj hd
 have i1:ac.init 4=some 70:=rfl
 have l:=jA (o:= .obj 4 [(13,.w a),(14,.w b)]) h1 h2 h3 h4 (v:= .w .none) rfl
 simp only [gw,im,te,au,sZ,kV,i1,gm,cA,Q6,fg,aq,l]
noncomputable def yy (r:mM):W:= .tup [.tup [.str r.1,.str r.2.1],.lst (r.2.2.map bH)]
theorem uV (l:List mM):br (iM (l.map iE))=some (l.map yy):=by
 show some ((l.map iE).map λ p=>W.tup [p.1,.lst p.2])=_
 rw [List.map_map];rfl
theorem yz {a:W}{l:List W}:dz (.lst (a::l)) (.int 0)=some a:=rfl
theorem Co {a:W}{l:List W}:jF (.lst (a::l)) (.int 1) .none=some l:=by
 show some (eG (a::l) 1 (a::l).length)=some l
 simp [eG]
theorem Q7 (hd:201<=d) {first:List cL}{bs:List fE}(hf:first.length<=2) (hfo: ∀ st ∈ first,dw st) (hb: ∀ b ∈ bs,eF b) (hn:bs.length < 1000) (ht:dg bs < 50000) :
   ∃ v,(∀ loc,aa ac d (.w (.fn 79)) [.slot .rdr,.w (.fn 110)] ⟨loc,RD bl dn (aO first bs)⟩=some (v,⟨loc,RD bl ((aO first bs).reverse++dn) []⟩))/\frz v= .w (.lst ((aA first bs).map aG)):=by
 obtain ⟨d,rfl⟩:=Rj hd
 let T0:W:= .tup [.str [],.str []]
 let RR:List mM:=([],[],first)::bS [] bs
 obtain ⟨x1,e1⟩:=pi (d:=d+200) (bl:=bl) (rest:=cB bs) (by omega) (nW:=T0) (nm:=T0) (H:=[]) first [] none dn (99990 - dg bs - first.length+dg bs+10) hfo (by simp;lia)
 obtain ⟨nW,x',e2⟩:=qL (d:=d+200) (bl:=bl) (by omega) bs [] [] ([]++[(T0,[]++first.map bH)]) x1 ((bL first).reverse++dn) (99990 - dg bs - first.length+10) hb (by simp;lia)
 have e3:99990 - dg bs - first.length+dg bs+10=99990 - dg bs - first.length+10+dg bs:=by omega
 have e4:iO=99990 - dg bs - first.length+dg bs+10+first.length:=by show 100000=_;lia
 have eL:([]++[(T0,[]++first.map bH)])++(bS [] bs).map iE=RR.map iE:=rfl
 have eT:(cB bs).reverse++((bL first).reverse++dn)=(aO first bs).reverse++dn:=by simp [aO]
 rw [eL,eT] at e2
 have e5:bt (yV (d+200)) (A5 (d+200)) iO ⟨kK T0 [(T0,[])] none,RD bl dn (aO first bs)⟩=some (.next,⟨kK nW (RR.map iE) x',RD bl ((aO first bs).reverse++dn) []⟩):=by
   have ee:=λ loc=>A3 (n:=d+188) (loc:=loc) (bl:=bl) (dn:=(aO first bs).reverse++dn)
   rw [e4]
   refine Eq.trans e1 ?_
   rw [e3]
   refine Eq.trans e2 ?_
   refine jw (n:=99990 - dg bs - first.length+9) ?_
   unfold yV kK
   simp only [ms,al,av,Kh,aX,ag,af,ax,ah,aP,aB,ak,ee,aU,au,aq,aT,Bool.not_true]
 have hk:bn ac (aa ac (d+200)) (.whl 0 (.not (.call false (.glo 89) (.cons (.var 0) .nil))) (.cons (.ifs (.call false (.glo 90) (.cons (.var 0) .nil)) (.cons (.asg 2 (.call false (.glo 91) (.cons (.var 0) (.cons (.sub false (.var 2) (.cst (.int 1))) .nil)))) (.cons (.hdA 3 (.var 2)) .nil)) (.cons (.asg 4 (.call false (.glo 88) (.cons (.var 0) (.cons (.cst (.int 0)) (.cons (.var 1) .nil))))) (.cons (.ifs (.cmp false (.var 4) .Eq (.tup .nil)) (.cons .bad .nil) .nil) (.cons (.exp (.meth (.var 0) 39 (.cons (.cst (.str [46])) .nil))) (.cons (.hdX 3 (.var 4)) .nil))))) .nil)) ⟨kK T0 [(T0,[])] none,RD bl dn (aO first bs)⟩=some (.next,⟨kK nW (RR.map iE) x',RD bl ((aO first bs).reverse++dn) []⟩):=by
   rw [oS];exact e5
 generalize hS:RD bl ((aO first bs).reverse++dn) []=SL at hk
 have hSL: ∃ A B,SL=⟨.list bl,.rdr A B IF,.absent,.absent,.absent⟩:=⟨_,_,hS.symm⟩
 let L5:List (Option V):=[some (.slot .rdr),some (.w (.fn 110)),some (.w nW),some (.w (iM (RR.map iE))),x',none]
 have k1:=eV (cf:=aa ac (d+200)) (g:=yy) (f:=aG) (cid:=0) (elt:=(.call false (.glo 92) (.cons (.sub false (.var 0) (.cst (.int 0))) (.cons (.sub false (.var 0) (.cst (.int 1))) (.cons (.call false (.glo 33) (.cons (.var 1) .nil)) .nil))))) (iter:= .var 3) (cond:= .no) (two:=true) (caps:=[]) (s:=⟨kK nW (RR.map iE) x',SL⟩) (s1:=⟨L5,SL⟩) (v:= .w (iM (RR.map iE))) (iw:=iM (RR.map iE)) (cl:=[]) RR (by unfold kK;simp only [ag,af,ax,ah,aj,aM,L5]) rfl (uV RR) rfl
   (λ r _=>⟨_,rfl,.w (aG r),[some (.w (.tup [.str r.1,.str r.2.1])),some (.w (.lst (r.2.2.map bH)))],by
     obtain ⟨A,B,rfl⟩:=hSL
     have m:=λ loc=>yw (d:=d+200) (loc:=loc) (by omega) (Cl.list (l:=bl)) (Cl.rdr (d:=A) (r:=B) (n:=IF)) Cl.absent Cl.absent (a:= .str r.1) (b:= .str r.2.1) (c:= .tup (r.2.2.map bH))
     simp only [List.cons_append,List.nil_append,al,av,IC,aX,bc,ag,af,ax,ah,az,au,aq,bq,Hr,xW,IB,aP,aB,ak,cu,a0,aZ,bw,bx,be,bJ,bQ,m,aG],rfl⟩)
 have pl:aC 40 (.tup (first.map bH))=true:=by
   show aS 39 (first.map bH)=true
   exact eZ λ x hx=>by have:=hfo x hx;unfold dw at this;lia
 have pl0:aC 40 (.tup [])=true:=rfl
 have f1:ac.isF 3 12=true:=rfl
 have f2:bW 12 [(10,W.str []),(11,.str []),(12,.tup (first.map bH))]=some (.tup (first.map bH)):=rfl
 have fL: ∃ v lc,aL ac (aa ac (d+200)) (.cons (.ret (.ife (.cmp false (.att (.sub false (.var 5) (.cst (.int 0))) 12) .NotEq (.tup .nil)) (.var 5) (.slc false (.var 5) (.cst (.int 1)) .no))) .nil) ⟨[some (.slot .rdr),some (.w (.fn 110)),some (.w nW),some (.w (iM (RR.map iE))),x',some (.own (RR.map aG))],SL⟩=some (.ret v,⟨lc,SL⟩)/\frz v= .w (.lst ((aA first bs).map aG)):=by
   have er:RR.map aG=aG ([],[],first)::(bS [] bs).map aG:=rfl
   rw [er]
   cases first with
   | nil =>
     refine ⟨.own ((bS [] bs).map aG),[some (.slot .rdr),some (.w (.fn 110)),some (.w nW),some (.w (iM (RR.map iE))),x',some (.w (.lst (aG ([],[],[])::(bS [] bs).map aG)))],?_,rfl⟩
     have eq0:gE (.tup []) (.tup [])=true:=rfl
     generalize (bS [] bs).map aG=Q
     unfold aG at *
     simp only [List.map] at f2
     simp only [List.map,bv,aV,dq,aI,a9,bc,ag,af,ax,ah,aj,aM,az,au,aq,bq,yz,ay,a6,aF,bO,bI,f1,bN,f2,bR,aP,aZ,aJ,ce,a7,dj,pl0,Bool.and_self,eq0,eU,Bool.not_true,aU,aT,eS,sV,Co]
   | cons st l =>
     refine ⟨.w (.lst (aG ([],[],st::l)::(bS [] bs).map aG)),[some (.slot .rdr),some (.w (.fn 110)),some (.w nW),some (.w (iM (RR.map iE))),x',some (.w (.lst (aG ([],[],st::l)::(bS [] bs).map aG)))],?_,rfl⟩
     have eq0:gE (.tup ((st::l).map bH)) (.tup [])=false:=rfl
     generalize (bS [] bs).map aG=Q
     unfold aG at *
     generalize (st::l).map bH=E at *
     simp only [bv,aV,dq,aI,a9,bc,ag,af,ax,ah,aj,aM,az,au,aq,bq,yz,ay,a6,aF,bO,bI,f1,bN,f2,bR,aP,aZ,aJ,ce,a7,dj,pl,pl0,Bool.and_self,eq0,eU,Bool.not_false,aU,aT]
 obtain ⟨v,lc,fL,hv⟩:=fL
 refine ⟨v,λ loc=> ?_,hv⟩
 have hr:aL ac (aa ac (d+200)) JA ⟨[some (.slot .rdr),some (.w (.fn 110)),none,none,none,none],RD bl dn (aO first bs)⟩=some (.ret v,⟨lc,SL⟩):=by
   unfold JA
   refine cy (s':=⟨[some (.slot .rdr),some (.w (.fn 110)),some (.w T0),none,none,none],RD bl dn (aO first bs)⟩) (by simp only [aW,bR,aX,az,aP,aB,aZ,aq,aj,aM,T0]) (cy (s':=⟨kK T0 [(T0,[])] none,RD bl dn (aO first bs)⟩) (by unfold kK;simp only [D2,ag,af,ax,ah,au,aq,aj,aM,T0]) (cy hk (cy (s':=⟨[some (.slot .rdr),some (.w (.fn 110)),some (.w nW),some (.w (iM (RR.map iE))),x',some (.own (RR.map aG))],SL⟩) ?_ fL)))
   simp only [aW,k1,aj,aM,L5]
 exact ao (d:=d+200) (i:=79) [some (.slot .rdr),some (.w (.fn 110)),none,none,none,none] rfl rfl rfl rfl rfl (slo':=SL) (eY hr) rfl
end
end
section
mutual
theorem qM: ∀ (w:W) (n:Nat),aC n w=true->gE w w=true
 | .none,_,_=>rfl
 | .bool b,_,_=>beq_self_eq_true b
 | .int i,_,_=>beq_self_eq_true i
 | .str x,_,_=>beq_self_eq_true x
 | .tup l,0,h=>nomatch h
 | .tup l,n+1,h=>kf l n h
 | .lst l,0,h=>nomatch h
 | .lst l,n+1,h=>kf l n h
 | .inst ..,_,h=>nomatch h
 | .dct ..,_,h=>nomatch h
 | .fn ..,_,h=>nomatch h
 | .cls ..,_,h=>nomatch h
 | .bi ..,_,h=>nomatch h
 | .rng ..,_,h=>nomatch h
termination_by structural w=>w
theorem kf: ∀ (w:List W) (n:Nat),aS n w=true->q9 w w=true
 | [],_,_=>rfl
 | a::l,n,h=>by
   obtain ⟨h1,h2⟩:=Bool.and_eq_true_iff.mp h
   exact Bool.and_eq_true_iff.mpr ⟨qM a n h1,kf l n h2⟩
termination_by structural w=>w
end
noncomputable def mR (r:mM):W:= .tup [.str r.1,.str r.2.1,.tup (r.2.2.map bH)]
noncomputable def qN (u:Us) (l:List mM):W:= .tup [.tup (l.map mR),.tup (mN u)]
section
variable {n d:Nat}{loc:List (Option V)}{bl dn rest:List W}{p:W}{sl:ab}
theorem KJ (u:Us):aL ac (aa ac (n+60)) (.cons (.exp (.meth (.var 0) 35 (.cons (.cst (.str [80,82,79,67,69,68,85,82,69])) .nil))) (.cons (.exp (.meth (.var 0) 35 (.cons (.cst (.str [68,73,86,73,83,73,79,78])) .nil))) (.cons (.asg 2 (.ife (.meth (.var 0) 24 (.cons (.cst (.str [85,83,73,78,71])) .nil)) (.call false (.glo 33) (.cons (.meth (.var 0) 40 .nil) .nil)) (.tup .nil))) (.cons (.exp (.meth (.var 0) 39 (.cons (.cst (.str [46])) .nil))) .nil)))) ⟨[some (.slot .rdr),some (.w (.fn 110)),none],RD bl dn (bT u++rest)⟩=some (.next,⟨[some (.slot .rdr),some (.w (.fn 110)),some (.w (.tup (mN u)))],RD bl ((bT u).reverse++dn) rest⟩):=by
 cases u
 · kernel_rfl
 · kernel_rfl
 · kernel_rfl
theorem Q8 (hd:202<=d) (u:Us) {first:List cL}{bs:List fE}(hf:first.length<=2) (hfo: ∀ st ∈ first,dw st) (hb: ∀ b ∈ bs,eF b) (hn:bs.length < 1000) (ht:dg bs < 50000) :
   aa ac d (.w (.fn 80)) [.slot .rdr,.w (.fn 110)] ⟨loc,RD bl [] (bT u++aO first bs)⟩=some (.w (dY u ((aA first bs).map aG)),⟨loc,RD bl ((bT u++aO first bs).reverse) []⟩):=by
 obtain ⟨d,rfl⟩:=Rj hd
 obtain ⟨v,h1,hv⟩:=Q7 (d:=d+201) (bl:=bl) (dn:=(bT u).reverse++[]) (by omega) hf hfo hb hn ht
 have e:(aO first bs).reverse++((bT u).reverse++[])=(bT u++aO first bs).reverse:=by simp
 rw [e] at h1
 have m:=λ loc=>yx (d:=d+201) (loc:=loc) (by omega) (Cl.list (l:=bl)) (Cl.rdr (d:=(bT u++aO first bs).reverse) (r:=[]) (n:=IF)) Cl.absent Cl.absent (a:= .lst ((aA first bs).map aG)) (b:= .tup (mN u))
 have hr:aL ac (aa ac (d+201)) JB ⟨[some (.slot .rdr),some (.w (.fn 110)),none],RD bl [] (bT u++aO first bs)⟩=some (.ret (.w (dY u ((aA first bs).map aG))),⟨[some (.slot .rdr),some (.w (.fn 110)),some (.w (.tup (mN u)))],RD bl ((bT u++aO first bs).reverse) []⟩):=by
   unfold JB
   refine HE (KJ (n:=d+141) u) (jz ?_)
   have frz': ∀ v,(match v with | V.own l=>V.w (.lst l) | V.hds l=> .w (iM l) | v=>v)=frz v:=λ v=>by cases v<;>rfl
   rw [aV]
   rw [al]
   have i1: ∀ loc,am ac (aa ac (d+201)) (.call false (.glo 94) (.cons (.var 0) (.cons (.var 1) .nil))) ⟨some (.slot .rdr)::some (.w (.fn 110))::loc,_⟩=_:=λ loc=>h1 _
   have i2:=qy (i1 [some (.w (.tup (mN u)))]) (qy (e:= .var 2) (r:= .nil) (v:= .w (.tup (mN u))) rfl rfl)
   rw [hv] at i2
   simp only [av,Mk,i2,aB,ak]
   unfold RD at *
   simp only [m,dY]
 exact ao (d:=d+201) (i:=80) [some (.slot .rdr),some (.w (.fn 110)),none] rfl rfl rfl rfl rfl (slo':=RD bl ((bT u++aO first bs).reverse) []) (eY hr) rfl
theorem Q9 (r:mM):aa ac (n+3) (.w (.fn 69)) [.w (aG r)] ⟨loc,sl⟩=some (.w (mR r),⟨loc,sl⟩):=by
 obtain ⟨a,b,c⟩:=r
 unfold aG mR
 dsimp only
 generalize c.map bH=c
 kernel_rfl
theorem Ra (hd:5<=d) (u:Us) {l:List mM}:aa ac d (.w (.fn 71)) [.w (dY u (l.map aG))] ⟨loc,sl⟩=some (.w (qN u l),⟨loc,sl⟩):=by
 obtain ⟨d,rfl⟩:=Rj hd
 have f1:ac.isF 4 13=true:=rfl
 have f2:bW 13 [(13,W.lst (l.map aG)),(14,.tup (mN u))]=some (.lst (l.map aG)):=rfl
 have f3:ac.isF 4 14=true:=rfl
 have f4:bW 14 [(13,W.lst (l.map aG)),(14,.tup (mN u))]=some (.tup (mN u)):=rfl
 have k:=eV (cf:=aa ac (d+4)) (g:=aG) (f:=mR) (cid:=0) (elt:= .meth (.var 0) 17 .nil) (iter:= .att (.var 0) 13) (cond:= .no) (two:=false) (caps:=[]) (s:=⟨[some (.w (dY u (l.map aG)))],sl⟩) (s1:=⟨[some (.w (dY u (l.map aG)))],sl⟩) (v:= .w (.lst (l.map aG))) (iw:= .lst (l.map aG)) (cl:=[]) l (by unfold dY;simp only [a9,ag,af,ax,ah,ay,a6,aF,bO,bI,f1,bN,f2]) rfl rfl rfl
   (λ r _=>⟨_,rfl,.w (mR r),[some (.w (aG r))],by
     have c:=λ loc=>Q9 (n:=d+1) (loc:=loc) (sl:=sl) r
     have m:dF ac sl (.w (aG r)) 17=some (.w (.fn 69),[.w (aG r)]):=rfl
     simp only [List.cons_append,List.nil_append,fo,ag,af,ax,ah,m,aP,ak,c],rfl⟩)
 refine ao (d:=d+4) (i:=71) [some (.w (dY u (l.map aG)))] rfl rfl rfl rfl rfl (slo':=sl) ?_ rfl
 unfold dY at *
 simp only [ft,L3,L2,bv,aV,bR,aX,al,av,IB,k,aP,aB,ak,cu,a0,aZ,aq,bw,bx,be,bJ,bQ,a9,ag,af,ax,ah,ay,a6,aF,bO,bI,f3,bN,f4,qN]
end
end
section
structure Tk where
 k:Tx
 w:Tx
 p:W
 a:Bool
noncomputable def Tk.W (t:Tk):Mine.W:=tk t.k t.w t.p t.a
noncomputable def tB:List Tx->Nat->List Tk
 | [],_=>[]
 | w::r,c=>⟨kindOf w,w,.tup [.int 1,.int (c:Int)],false⟩::tB r (c+w.length+1)
theorem Cp: ∀ (ws:List Tx) (c:Nat),(tB ws c).map Tk.W=aw ws c
 | [],_=>rfl
 | w::r,c=>by rw [tB,List.map_cons,iq,Cp r];rfl
theorem Cq: ∀ (ws:List Tx) (c:Nat),(tB ws c).map Tk.w=ws
 | [],_=>rfl
 | w::r,c=>by rw [tB,List.map_cons,Cq r]
theorem yA: ∀ (ws:List Tx) (c:Nat),∀ t ∈ tB ws c,t.a=false
 | [],_,t,h=>by cases h
 | w::r,c,t,h=>by
   rw [tB] at h
   rcases List.mem_cons.mp h with rfl | h
   · rfl
   · exact yA r _ t h
theorem tC: ∀ (a b:List Tx) (c:Nat),tB (a++b) c=tB a c++tB b (c+bz a)
 | [],b,c=>rfl
 | w::a,b,c=>by
   rw [List.cons_append,tB,tB,tC a b,List.cons_append,eK]
   have:c+w.length+1+bz a=c+(w.length+1+bz a):=by omega
   rw [this]
noncomputable def A6 (i:dR):List Tk:=match i.isSec with
 | true=>[⟨cg,i.name,gz 0,true⟩,⟨cg,HB,gz (i.name.length+1),false⟩,⟨dk,bC,gz (i.name.length+8),false⟩]
 | false=>[⟨cg,i.name,gz 0,true⟩,⟨dk,bC,gz i.name.length,false⟩]
theorem HF (i:dR):(A6 i).map Tk.W=cW i:=by cases i<;>rfl
noncomputable def Cr:Us->List Tk
 | .u0=>[⟨cg,gA,gz 0,true⟩,⟨cg,uS,gz 10,false⟩,⟨dk,bC,gz 19,false⟩]
 | .u1=>[⟨cg,gA,gz 0,true⟩,⟨cg,uS,gz 10,false⟩,⟨cg,ph,gz 19,false⟩,⟨cg,uT,gz 25,false⟩,⟨dk,bC,gz 29,false⟩]
 | .u2=>[⟨cg,gA,gz 0,true⟩,⟨cg,uS,gz 10,false⟩,⟨cg,ph,gz 19,false⟩,⟨cg,uT,gz 25,false⟩,⟨cg,yt,gz 29,false⟩,⟨dk,bC,gz 34,false⟩]
theorem HG (u:Us):(Cr u).map Tk.W=bT u:=by cases u<;>rfl
noncomputable def q8 (st:cL):List Tk:=tB (bh st++[bC]) 12
noncomputable def hX (l:List cL):List Tk:=(l.map q8).flatten
noncomputable def uW (b:fE):List Tk:=A6 b.it++hX b.sts
noncomputable def fw (l:List fE):List Tk:=(l.map uW).flatten
noncomputable def kg (u:Us) (first:List cL) (bs:List fE):List Tk:=Cr u++(hX first++fw bs)
theorem yB (l:List cL):(hX l).map Tk.W=bL l:=by
 unfold hX bL
 rw [List.map_flatten,List.map_map]
 congr 1
 exact List.map_congr_left λ st _=>Cp _ _
theorem EY (b:fE):(uW b).map Tk.W=fu b:=by unfold uW fu;rw [List.map_append,HF,yB]
theorem A7 (l:List fE):(fw l).map Tk.W=cB l:=by
 unfold fw cB
 rw [List.map_flatten,List.map_map]
 congr 1
 exact List.map_congr_left λ b _=>EY b
theorem EZ (u:Us) (first:List cL) (bs:List fE):(kg u first bs).map Tk.W=bT u++aO first bs:=by
 unfold kg aO;rw [List.map_append,List.map_append,HG,yB,A7]
noncomputable def tD (t:Tk):Prop:=t.k=dk/\t.w=bC
structure cE (l:List Tk):Prop where
 chain: ∀ (x y:Tk) (A B:List Tk),l=A++x::y::B->y.a=true->tD x
 last:l=[]\/ ∃ A t,l=A++[t]/\tD t
theorem cE.nil:cE []:=⟨λ x y A B e _=>(by cases A<;>cases e),.inl rfl⟩
theorem cE.app {l r:List Tk}(h1:cE l) (h2:cE r):cE (l++r):=by
 refine ⟨λ x y A B e ha=> ?_,?_⟩
 · rcases List.append_eq_append_iff.mp e with ⟨C,e1,e2⟩ | ⟨C,e1,e2⟩
   · exact h2.chain x y C B e2 ha
   · cases C with
     | nil =>
       exact h2.chain x y [] B (by simpa using e2.symm) ha
     | cons c C =>
       rw [List.cons_append] at e2
       injection e2 with e3 e4
       subst e3
       cases C with
       | nil =>
         rcases h1.last with e5 | ⟨A',t,e5,e6⟩
         · rw [e5] at e1;cases A<;>cases e1
         · rw [e5] at e1
           have:=List.append_inj' e1 rfl
           rw [<- (List.cons.inj this.2).1];exact e6
       | cons c2 C =>
         rw [List.cons_append] at e4
         injection e4 with e6 e7
         subst e6
         exact h1.chain x y A C e1 ha
 · rcases h2.last with rfl | ⟨A,t,rfl,k⟩
   · rw [List.append_nil];exact h1.last
   · exact .inr ⟨l++A,t,by simp,k⟩
theorem cE.one {t0:Tk}{l:List Tk}(ha: ∀ t ∈ l,t.a=false) (hl:(∃ A t,t0::l=A++[t]/\tD t)):cE (t0::l):=by
 refine ⟨λ x y A B e hy=> ?_,.inr hl⟩
 exfalso
 have:y ∈ l:=by
   cases A with
   | nil=>injection e with e1 e2;rw [e2];simp
   | cons c A=>rw [List.cons_append] at e;injection e with e1 e2;rw [e2];simp
 rw [ha y this] at hy;cases hy
theorem uX (st:cL):cE (q8 st):=by
 unfold q8
 cases h:tB (bh st++[bC]) 12 with
 | nil=>exact cE.nil
 | cons t l =>
   refine cE.one (λ x hx=>yA (bh st++[bC]) 12 x (by rw [h];exact Rk _ hx)) ?_
   rw [<- h,tC]
   exact ⟨_,_,rfl,rfl,rfl⟩
theorem uY (i:dR):cE (A6 i):=by
 cases i
 · exact cE.one (by simp) ⟨[_,_],_,rfl,rfl,rfl⟩
 · exact cE.one (by simp) ⟨[_,_],_,rfl,rfl,rfl⟩
 · exact cE.one (by simp) ⟨[_],_,rfl,rfl,rfl⟩
 · exact cE.one (by simp) ⟨[_],_,rfl,rfl,rfl⟩
 · exact cE.one (by simp) ⟨[_],_,rfl,rfl,rfl⟩
theorem uZ (u:Us):cE (Cr u):=by
 cases u
 · exact cE.one (by simp) ⟨[_,_],_,rfl,rfl,rfl⟩
 · exact cE.one (by simp) ⟨[_,_,_,_],_,rfl,rfl,rfl⟩
 · exact cE.one (by simp) ⟨[_,_,_,_,_],_,rfl,rfl,rfl⟩
theorem i8: ∀ l:List cL,cE (hX l)
 | []=>cE.nil
 | st::l=>(uX st).app (i8 l)
theorem kE: ∀ l:List fE,cE (fw l)
 | []=>cE.nil
 | b::l=>((uY b.it).app (i8 b.sts)).app (kE l)
theorem rV (u:Us) (first:List cL) (bs:List fE):cE (kg u first bs):=(uZ u).app ((i8 first).app (kE bs))
noncomputable def tE (l:List Tk):List Tx:=(l.filter Tk.a).map Tk.w
theorem jB (l r:List Tk):tE (l++r)=tE l++tE r:=by simp [tE]
theorem yC {l:List Tk}(h: ∀ t ∈ l,t.a=false):tE l=[]:=by
 unfold tE
 rw [List.filter_eq_nil_iff.mpr λ t ht=>by rw [h t ht];simp];rfl
theorem pj: ∀ l:List cL,tE (hX l)=[]
 | []=>rfl
 | st::l=>by rw [show hX (st::l)=q8 st++hX l from rfl,jB,pj l,yC (l:=q8 st) (yA _ _)];rfl
theorem E0 (i:dR):tE (A6 i)=[i.name]:=by cases i<;>rfl
theorem qO: ∀ l:List fE,tE (fw l)=l.map λ b=>b.it.name
 | []=>rfl
 | b::l=>by rw [show fw (b::l)=(A6 b.it++hX b.sts)++fw l from rfl,jB,jB,E0,pj,qO l];rfl
theorem A8 (u:Us) (first:List cL) (bs:List fE):tE (kg u first bs)=gA::bs.map λ b=>b.it.name:=by
 unfold kg
 rw [jB,jB,pj,qO]
 cases u<;>rfl
end
section
theorem tF: ∀ (b x:Tx),pre b (b++x)=true
 | [],_=>rfl
 | c::b,x=>by rw [List.cons_append,pre,tF b x,Nat.beq_refl];rfl
theorem mE (b:Tx): ∀ (a x:Tx),subL b (a++(b++x))=true
 | [],x=>by
   rw [List.nil_append]
   cases h:b++x with
   | nil =>
     have:b=[]:=(List.append_eq_nil_iff.mp h).1
     subst this;rfl
   | cons c r=>rw [subL,<- h,tF];rfl
 | c::a,x=>by rw [List.cons_append,subL,mE b a x,Bool.or_true]
theorem mF {c:Nat}: ∀ (x acc:Tx),(∀ y ∈ x,Nat.beq y c=false)->bD c acc x=[acc.reverse++x]
 | [],acc,_=>by simp [bD]
 | y::x,acc,h=>by
   rw [bD,h y List.mem_cons_self]
   dsimp only
   rw [mF x (y::acc) λ z hz=>h z (Rk _ hz)]
   simp
theorem nO {w:Tx}(h:Ce w): ∀ y ∈ w,Nat.beq y 40=false:=by
 rcases h with h | rfl | rfl
 · exact (by decide +kernel: ∀ w ∈ qC,∀ y ∈ w,Nat.beq y 40=false) w h
 · decide
 · decide
theorem qP: ∀ {ws:List Tx},(∀ w ∈ ws,Ce w)-> ∀ y ∈ tx ws,Nat.beq y 40=false
 | [],_,y,hy=>by cases hy
 | [w],h,y,hy=>nO (h w List.mem_cons_self) y hy
 | w::w'::r,h,y,hy=>by
   rw [kZ (by simp)] at hy
   rcases List.mem_append.mp hy with hy | hy
   · exact nO (h w List.mem_cons_self) y hy
   · rcases List.mem_cons.mp hy with rfl | hy
     · rfl
     · exact qP (λ z hz=>h z (Rk _ hz)) y hy
theorem u3 {x:Tx}(h: ∀ y ∈ x,Nat.beq y 40=false) (hl:x.length<=5000000):vc .replace (.str x) [.str [40],.str [40,32]]=some (.str x):=by
 have e1:(Nat.ble (x.length+(x.length+1) * ([40,32]:Tx).length) cw&& !(([40,32]:Tx)==[40]))=true:=by
   have a:Nat.ble (x.length+(x.length+1) * ([40,32]:Tx).length) cw=true:=Rp (by have:=kJ;simp;lia)
   rw [a];rfl
 simp only [vc,be,hK,IW,a7,ky,vD,e1,mF x [] h,cZ]
 rfl
theorem E1 {U V ws:List Tx}(hU:U≠[]) (hw:ws≠[]):subL (32::(tx ws++[32,46,32])) (tx (U++((ws++[bC])++V))++[32])=true:=by
 have e1:tx (ws++[bC])=tx ws++[32,46]:=by rw [gn hw (by simp)];rfl
 cases V with
 | nil =>
   rw [List.append_nil,gn hU (by simp),e1]
   have:tx U++32::(tx ws++[32,46])++[32]=tx U++((32::(tx ws++[32,46,32]))++[]):=by simp
   rw [this];exact mE _ _ _
 | cons v V =>
   rw [gn hU (by simp),gn (by simp) (by simp),e1]
   have:tx U++32::(tx ws++[32,46]++32::tx (v::V))++[32]=tx U++((32::(tx ws++[32,46,32]))++(tx (v::V)++[32])):=by simp
   rw [this];exact mE _ _ _
theorem Cs (st:cL):(q8 st).map Tk.w=bh st++[bC]:=Cq _ _
theorem mG {α β:Type}{f:α->List β}{a:α}{l:List α}(h:a ∈ l): ∃ A B,(l.map f).flatten=A++(f a++B):=by
 obtain ⟨l1,l2,rfl⟩:=List.append_of_mem h
 exact ⟨(l1.map f).flatten,(l2.map f).flatten,by simp⟩
theorem HH (u:Us):Cr u≠[]:=by cases u<;>simp [Cr]
theorem gq: ∀ {bs:List fE}{sec:Tx}{r:mM},r ∈ bS sec bs-> ∃ b ∈ bs,r.2.2=b.sts
 | [],_,_,h=>by cases h
 | b::bs,sec,r,h=>by
   rcases List.mem_cons.mp h with rfl | h
   · exact ⟨b,List.mem_cons_self,rfl⟩
   · obtain ⟨b',h1,h2⟩:=gq h
     exact ⟨b',Rk _ h1,h2⟩
theorem E2 {u:Us}{first:List cL}{bs:List fE}{r:mM}(hr:r ∈ aA first bs) {st:cL}(hs:st ∈ r.2.2): ∃ U V,U≠[]/\(kg u first bs).map Tk.w=U++((bh st++[bC])++V):=by
 have key: ∃ A B,hX first++fw bs=A++(q8 st++B):=by
   unfold aA at hr
   rcases List.mem_append.mp hr with hr | hr
   · have:st ∈ first:=by
       cases first with
       | nil=>cases hr
       | cons x l=>rw [List.mem_singleton.mp hr] at hs;exact hs
     obtain ⟨A,B,e⟩:=mG (f:=q8) this
     exact ⟨A,B++fw bs,by unfold hX;rw [e];simp⟩
   · obtain ⟨b,hb,e⟩:=gq hr
     rw [e] at hs
     obtain ⟨A,B,e1⟩:=mG (f:=q8) hs
     obtain ⟨A2,B2,e2⟩:=mG (f:=uW) hb
     refine ⟨hX first++(A2++(A6 b.it++A)),B++B2,?_⟩
     unfold fw
     rw [e2]
     unfold uW hX
     rw [e1];simp
 obtain ⟨A,B,e⟩:=key
 refine ⟨(Cr u++A).map Tk.w,B.map Tk.w,by simp [HH],?_⟩
 unfold kg
 rw [e,<- Cs];simp
theorem gt {α:Type}{f:α->List Tx}{k:Nat}: ∀ {l:List α},(∀ a ∈ l,bz (f a)<=k)->bz (l.map f).flatten<=k * l.length
 | [],_=>by simp [bz,ei]
 | a::l,h=>by
   have h1:=h a List.mem_cons_self
   have h2:=gt (f:=f) (k:=k) (l:=l) λ b hb=>h b (Rk _ hb)
   rw [List.map_cons,List.flatten_cons,ba,List.length_cons,Nat.mul_succ]
   lia
theorem Ct (l:List cL):(hX l).map Tk.w=(l.map λ st=>bh st++[bC]).flatten:=by
 unfold hX
 rw [List.map_flatten,List.map_map]
 congr 1
 exact List.map_congr_left λ st _=>Cs st
theorem E3 (l:List fE):(fw l).map Tk.w=(l.map λ b=>(A6 b.it).map Tk.w++(b.sts.map λ st=>bh st++[bC]).flatten).flatten:=by
 unfold fw
 rw [List.map_flatten,List.map_map]
 congr 1
 exact List.map_congr_left λ b _=>by unfold uW;simp [Ct]
theorem qQ {l:List cL}(h: ∀ st ∈ l,dw st):bz (l.map λ st=>bh st++[bC]).flatten<=403 * l.length :=
 gt λ st hs=>by have:=(ke (h st hs)).1;rw [ba];have:bz [bC]=2:=rfl;lia
theorem qR {u:Us}{first:List cL}{bs:List fE}(hf:first.length<=2) (hfo: ∀ st ∈ first,dw st) (hb: ∀ b ∈ bs,eF b) (hn:bs.length < 1000):bz ((kg u first bs).map Tk.w)<=2000000:=by
 unfold kg
 rw [List.map_append,List.map_append,ba,ba,Ct,E3]
 have h1:bz ((Cr u).map Tk.w)<=60:=by cases u<;>decide
 have h2:=qQ hfo
 have h3:bz (bs.map λ b=>(A6 b.it).map Tk.w++(b.sts.map λ st=>bh st++[bC]).flatten).flatten<=900 * bs.length:=by
   refine gt λ b hb'=> ?_
   have B:=hb b hb'
   have h4:=qQ B.ok
   have h5:=B.len
   have h6:bz ((A6 b.it).map Tk.w)<=40:=by cases b.it<;>decide
   rw [ba];lia
 lia
theorem rW {u:Us}{first:List cL}{bs:List fE}(hf:first.length<=2) (hfo: ∀ st ∈ first,dw st) (hb: ∀ b ∈ bs,eF b) (hn:bs.length < 1000):(kg u first bs).length<=2000000:=by
 have h:=qR (u:=u) hf hfo hb hn
 have: ∀ l:List Tx,l.length<=bz l:=by
   intro l
   induction l with
   | nil=>exact Nat.zero_le _
   | cons a l ih=>rw [eK,List.length_cons];lia
 have:=this ((kg u first bs).map Tk.w)
 rw [List.length_map] at this
 lia
theorem u4 {α:Type}(l:List α) (d:α):(List.range l.length).map (λ j=>(l[j]?).getD d)=l:=by
 apply List.ext_getElem?
 intro j
 by_cases hj:j < l.length
 · simp [hj]
 · simp [hj]
theorem pq {α β:Type}(l:List α) (d:α) (q:α->Bool) (f:α->β):((List.range l.length).filter λ j=>q ((l[j]?).getD d)).map (λ j=>f ((l[j]?).getD d))=(l.filter q).map f:=by
 conv=>rhs;rw [<- u4 l d]
 rw [List.filter_map,List.map_map]
 rfl
end
section
theorem qS: ∀ {bs:List fE}{sec:Tx}{r:mM},sec.length<=20->r ∈ bS sec bs->r.1.length<=20/\r.2.1.length<=20
 | [],_,_,_,h=>by cases h
 | b::bs,sec,r,hs,h=>by
   have h1:b.it.nm.length<=20/\(b.it.sc sec).length<=20:=by
     cases b.it<;>refine ⟨by decide,?_⟩<;>first | exact hs | simp [dR.sc,dR.isSec,dR.name,Cb,Mt]
   rcases List.mem_cons.mp h with rfl | h
   · exact h1
   · exact qS h1.2 h
theorem u5 {first:List cL}{bs:List fE}{r:mM}(h:r ∈ aA first bs):r.1.length<=20/\r.2.1.length<=20:=by
 unfold aA at h
 rcases List.mem_append.mp h with h | h
 · cases first with
   | nil=>cases h
   | cons x l=>rw [List.mem_singleton.mp h];exact ⟨Nat.zero_le _,Nat.zero_le _⟩
 · exact qS (by simp) h
noncomputable def jC (r:mM):Bool:=qA (r.1++r.2.1)
noncomputable def iJ (r:mM):Tx:=if qA r.1 then r.1 else r.2.1
theorem qT: ∀ (bs:List fE) (sec:Tx),((bS sec bs).filter jC).map iJ=bs.map λ b=>b.it.name
 | [],_=>rfl
 | b::bs,sec=>by
   have ih:=qT bs (b.it.sc sec)
   have h:jC (b.it.nm,b.it.sc sec,b.sts)=true/\iJ (b.it.nm,b.it.sc sec,b.sts)=b.it.name:=by
     cases b.it<;>exact ⟨rfl,rfl⟩
   rw [bS,List.filter_cons,h.1]
   simp only [if_true,List.map_cons,h.2,ih]
theorem u6 (first:List cL) (bs:List fE):((aA first bs).filter jC).map iJ=bs.map λ b=>b.it.name:=by
 unfold aA
 rw [List.filter_append,List.map_append,qT]
 cases first<;>rfl
section
variable {n d:Nat}{loc:List (Option V)}{bl dn rest:List W}{p:W}{sl:ab}
theorem KK (hd:1<=d) {rs:List mM}(hr: ∀ r ∈ rs,r.1.length<=20/\r.2.1.length<=20) (hn:rs.length < 10000) :
   aa ac d (.w (.fn 111)) [.w (.lst (rs.map aG))] ⟨loc,sl⟩=some (.own ((gA::(rs.filter jC).map iJ).map W.str),⟨loc,sl⟩):=by
 obtain ⟨d,rfl⟩:=Rj hd
 have f1:ac.isF 3 10=true:=rfl
 have f2:ac.isF 3 11=true:=rfl
 have f3: ∀ a b c:W,bW 10 [(10,a),(11,b),(12,c)]=some a:=λ _ _ _=>rfl
 have f4: ∀ a b c:W,bW 11 [(10,a),(11,b),(12,c)]=some b:=λ _ _ _=>rfl
 have k:=kW (cf:=aa ac d) (g:=aG) (keep:=jC) (f:=λ r=> .str (iJ r)) (cid:=0) (elt:=(.ife (.cmp false (.att (.var 0) 10) .NotEq (.cst (.str []))) (.att (.var 0) 10) (.att (.var 0) 11))) (iter:= .var 0) (cond:=(.cmp false (.bin false .Add (.att (.var 0) 10) (.att (.var 0) 11)) .NotEq (.cst (.str [])))) (two:=false) (caps:=[]) (s:=⟨[some (.w (.lst (rs.map aG)))],sl⟩) (s1:=⟨[some (.w (.lst (rs.map aG)))],sl⟩) (v:= .w (.lst (rs.map aG))) (iw:= .lst (rs.map aG)) (cl:=[]) rs rfl rfl rfl rfl
   (λ r hr'=>by
     obtain ⟨a,b,c⟩:=r
     obtain ⟨h1,h2⟩:=hr _ hr'
     dsimp only at h1 h2
     have le:Nat.ble (a.length+b.length) cw=true:=Rp (by have:=kJ;lia)
     refine ⟨_,_,rfl,(?_:_=some (_,(⟨[some (.w (aG (a,b,c)))],sl⟩:St))),λ _=>⟨.w (.str (iJ (a,b,c))),[some (.w (aG (a,b,c)))],?_,rfl⟩⟩
     · unfold aG
       simp only [List.cons_append,List.nil_append,aI,bX,a9,ag,af,ax,ah,ay,a6,aF,bO,bI,f1,bN,f3,au,aq,f2,f4,cj,bQ,ck,aY,gk,a7,le,az,aJ,ce,eU,jC,qA]
     · unfold aG iJ
       cases h:a==[] with
       | true =>
         have e:qA a=false:=by unfold qA;rw [h];rfl
         simp only [dq,aI,a9,ag,af,ax,ah,ay,a6,aF,bO,bI,f1,bN,f3,au,aq,az,aJ,ce,a7,h,eU,Bool.not_true,aU,aT,f2,f4,e]
         rfl
       | false =>
         have e:qA a=true:=by unfold qA;rw [h];rfl
         simp only [dq,aI,a9,ag,af,ax,ah,ay,a6,aF,bO,bI,f1,bN,f3,au,aq,az,aJ,ce,a7,h,eU,Bool.not_false,aU,aT,e]
         rfl)
 have e:((rs.filter jC).map λ r=>W.str (iJ r))=((rs.filter jC).map iJ).map W.str:=by rw [List.map_map];rfl
 rw [e] at k
 generalize hQ:(rs.filter jC).map iJ=Q at k
 have hl:Q.length < 10000:=by rw [<- hQ,List.length_map];exact Rt (List.length_filter_le _ _) hn
 have le:Nat.ble (([W.str [80,82,79,67,69,68,85,82,69]]:List W).length+(Q.map W.str).length) cw=true:=Rp (by have:=kJ;simp;lia)
 refine ao (d:=d) (i:=111) [some (.w (.lst (rs.map aG)))] rfl rfl rfl rfl rfl (slo':=sl) ?_ rfl
 simp only [ft,GZ,GY,bv,aV,bX,cV,aX,az,aP,aB,aZ,aq,au,k,cj,bQ,le,List.cons_append,List.nil_append,List.map,gA]
theorem c6 {k w:Tx}{p:W}{a:Bool}:aa ac (n+3) (.w (.fn 6)) [.w (tk k w p a)] ⟨loc,sl⟩=some (.w (.tup [.str k,.str w]),⟨loc,sl⟩):=by kernel_rfl
theorem HI {k w:Tx}{p:W}{a:Bool}:dF ac sl (.w (tk k w p a)) 17=some (.w (.fn 6),[.w (tk k w p a)]):=rfl
theorem A9:aa ac (n+1) (.w (.fn 84)) [.slot .rdr] ⟨loc,RD bl dn []⟩=some (.w (.bool true),⟨loc,RD bl dn []⟩):=rfl
theorem E4 {x0:Option V}{x3 x4 x5 x6 x7:Option V}{toks:List W}:aL ac (aa ac (n+9)) (.cons (.asg 2 (.new .rdr 110 (.cons (.var 1) .nil))) (.cons (.asgA (.var 2) 16 (.dct [[73,83,45,79,78]] (.cons (.cst (.bool true)) .nil))) .nil)) ⟨[x0,some (.w (.lst toks)),none,x3,x4,x5,x6,x7],TK bl⟩=some (.next,⟨[x0,some (.w (.lst toks)),some (.slot .rdr),x3,x4,x5,x6,x7],RD bl [] toks⟩):=by kernel_rfl
end
end
section
theorem HJ {cf:bP}{a b:S}{r:Ss}{s s':St}{R:Option (Fl×St)}(h1:aL ac cf (.cons a (.cons b .nil)) s=some (.next,s')) (h2:aL ac cf r s'=R):aL ac cf (.cons a (.cons b r)) s=R:=by
 simp only [cJ,bv] at h1 ⊢
 cases ha:bn ac cf a s with
 | none=>rw [ha] at h1;cases h1
 | some q =>
   obtain ⟨f,s1⟩:=q
   rw [ha] at h1
   cases f with
   | cont=>cases h1
   | ret v=>cases h1
   | next =>
     dsimp only at h1 ⊢
     cases hb:bn ac cf b s1 with
     | none=>rw [hb] at h1;cases h1
     | some q =>
       obtain ⟨f,s2⟩:=q
       rw [hb] at h1
       cases f with
       | cont=>cases h1
       | ret v=>cases h1
       | next=>dsimp only at h1 ⊢; cases h1;exact h2
theorem Ba {α:Type}{l:List α}{i:Nat}{x y:α}(h1:l[i]?=some x) (h2:l[i+1]?=some y): ∃ A B,l=A++x::y::B:=by
 obtain ⟨hi,rfl⟩:=List.getElem?_eq_some_iff.mp h2
 obtain ⟨hi',rfl⟩:=List.getElem?_eq_some_iff.mp h1
 refine ⟨l.take i,l.drop (i+2),?_⟩
 conv=>lhs;rw [<- List.take_append_drop i l]
 rw [List.drop_eq_getElem_cons hi',List.drop_eq_getElem_cons hi]
noncomputable def d0:Tk:=⟨[],[],.none,false⟩
noncomputable def kA (TL:List Tk) (j:Nat):Bool:=((TL[j]?).getD d0).a
theorem mH {n:Nat}: ∀ {l:List Tx},(∀ w ∈ l,w.all (λ c=>Nat.blt c 1114112)=true)->aS (n+1) (l.map W.str)=true
 | [],_=>by simp [aS]
 | w::l,h=>by
   rw [List.map_cons,aS,mH λ x hx=>h x (Rk _ hx)]
   simp only [aC,h w List.mem_cons_self,Bool.and_self]
theorem qU (bs:List fE):aC 40 (.lst ((gA::bs.map λ b=>b.it.name).map W.str))=true:=by
 show aS 39 _=true
 refine mH λ w hw=> ?_
 rcases List.mem_cons.mp hw with rfl | hw
 · rfl
 · obtain ⟨b,_,rfl⟩:=List.mem_map.mp hw
   cases b.it<;>rfl
theorem yD (u:Us):aC 39 (.tup (mN u))=true:=by cases u<;>rfl
theorem nP {n:Nat}{r:mM}(h1:r.1.all (λ c=>Nat.blt c 1114112)=true) (h2:r.2.1.all (λ c=>Nat.blt c 1114112)=true) (h: ∀ st ∈ r.2.2,dw st):aC (n+12) (mR r)=true:=by
 have h3:=eZ (n:=n+10) (L:=r.2.2) λ st hs=>by have:=h st hs;unfold dw at this;lia
 simp only [mR,aC,aS,h1,h2,h3,Bool.and_self]
theorem nQ: ∀ {bs:List fE}{sec:Tx}{r:mM},sec.all (λ c=>Nat.blt c 1114112)=true->r ∈ bS sec bs->r.1.all (λ c=>Nat.blt c 1114112)=true/\r.2.1.all (λ c=>Nat.blt c 1114112)=true
 | [],_,_,_,h=>by cases h
 | b::bs,sec,r,hs,h=>by
   have h1:b.it.nm.all (λ c=>Nat.blt c 1114112)=true/\(b.it.sc sec).all (λ c=>Nat.blt c 1114112)=true:=by
     cases b.it<;>refine ⟨by decide,?_⟩<;>first | exact hs | rfl
   rcases List.mem_cons.mp h with rfl | h
   · exact h1
   · exact nQ h1.2 h
theorem rX {first:List cL}{bs:List fE}(hfo: ∀ st ∈ first,dw st) (hb: ∀ b ∈ bs,eF b): ∀ r ∈ aA first bs,aC 38 (mR r)=true:=by
 intro r hr
 unfold aA at hr
 rcases List.mem_append.mp hr with hr | hr
 · cases first with
   | nil=>cases hr
   | cons x l=>rw [List.mem_singleton.mp hr];exact nP (n:=26) rfl rfl hfo
 · obtain ⟨b,h1,h2⟩:=gq hr
   obtain ⟨h3,h4⟩:=nQ (sec:=[]) rfl hr
   exact nP (n:=26) h3 h4 (by rw [h2];exact (hb b h1).ok)
theorem nR {n:Nat}: ∀ {l:List W},(∀ w ∈ l,aC n w=true)->aS n l=true
 | [],_=>by simp [aS]
 | w::l,h=>by rw [aS,h w List.mem_cons_self,nR λ x hx=>h x (Rk _ hx)];rfl
theorem rY {u:Us}{first:List cL}{bs:List fE}(hfo: ∀ st ∈ first,dw st) (hb: ∀ b ∈ bs,eF b):aC 40 (qN u (aA first bs))=true:=by
 show aS 39 [.tup ((aA first bs).map mR),.tup (mN u)]=true
 have h1:aC 39 (.tup ((aA first bs).map mR))=true:=by
   show aS 38 _=true
   refine nR λ w hw=> ?_
   obtain ⟨r,hr,rfl⟩:=List.mem_map.mp hw
   exact rX hfo hb r hr
 have h2:=yD u
 simp only [aS,h1,h2,Bool.and_self]
section
variable {n d:Nat}{bl dn:List W}{sl:ab}
noncomputable def cx (P:W) (toks:List W) (x3 x4 x5 x6 x7:Option V):List (Option V):=[some (.w P),some (.w (.lst toks)),some (.slot .rdr),x3,x4,x5,x6,x7]
theorem HK (hd:60<=d) {P:W}{toks:List W}{x3 x4 x6:Option V}{st:cL}(h:dw st) {Wd:Tx}(hs:subL (32::(tx (bh st)++[32,46,32])) Wd=true) :
   aL ac (aa ac d) (.cons (.ifs (.cmp false (.bin false .Add (.bin false .Add (.cst (.str [32])) (.bmeth false .replace (.call false (.glo 76) (.cons (.var 7) .nil)) (.cons (.cst (.str [40])) (.cons (.cst (.str [40,32])) .nil)))) (.cst (.str [32,46,32]))) .NotIn (.var 5)) (.cons .bad .nil) .nil) .nil) ⟨cx P toks x3 x4 (some (.w (.str Wd))) x6 (some (.w (bH st))),sl⟩=some (.next,⟨cx P toks x3 x4 (some (.w (.str Wd))) x6 (some (.w (bH st))),sl⟩):=by
 have l:=ke h
 have t:=my (du st)
 have a:=λ loc=>Mp (sl:=sl) (loc:=loc) st (d:=d) (by unfold dw at h;lia) (by omega)
 have b:=u3 (qP (i6 st)) (by omega)
 have e1:Nat.ble (([32]:Tx).length+(tx (bh st)).length) cw=true:=Rp (by have:=kJ;simp;lia)
 have e2:Nat.ble ((32::tx (bh st)).length+([32,46,32]:Tx).length) cw=true:=Rp (by have:=kJ;simp;lia)
 unfold cx
 simp only [bv,bB,aI,bX,az,au,aq,hC,al,av,Ft,aX,ag,af,ax,ah,aP,aB,ak,a,aZ,b,cj,bQ,ck,aY,gk,a7,e1,List.cons_append,List.nil_append,e2,aJ,hH,hs,eU,Bool.not_true,aU,aT,cJ]
theorem Cu (hd:60<=d) {P:W}{toks:List W}{x3 x4 x6:Option V}{Wd:Tx}: ∀ (l:List cL) (x7:Option V),(∀ st ∈ l,dw st/\subL (32::(tx (bh st)++[32,46,32])) Wd=true) ->
   ∃ x7',bV 7 (λ s=>aL ac (aa ac d) (.cons (.ifs (.cmp false (.bin false .Add (.bin false .Add (.cst (.str [32])) (.bmeth false .replace (.call false (.glo 76) (.cons (.var 7) .nil)) (.cons (.cst (.str [40])) (.cons (.cst (.str [40,32])) .nil)))) (.cst (.str [32,46,32]))) .NotIn (.var 5)) (.cons .bad .nil) .nil) .nil) s) (l.map bH) ⟨cx P toks x3 x4 (some (.w (.str Wd))) x6 x7,sl⟩=some (.next,⟨cx P toks x3 x4 (some (.w (.str Wd))) x6 x7',sl⟩)
 | [],x7,_=>⟨x7,rfl⟩
 | st::l,x7,h=>by
   obtain ⟨x7',e⟩:=Cu hd (P:=P) (toks:=toks) (x3:=x3) (x4:=x4) (x6:=x6) l (some (.w (bH st))) λ y hy=>h y (Rk _ hy)
   obtain ⟨h1,h2⟩:=h st List.mem_cons_self
   exact ⟨x7',de (.inl (HK hd h1 h2)) e⟩
theorem Cv (hd:60<=d) {P:W}{toks:List W}{x3 x4:Option V}{Wd:Tx}: ∀ (l:List mM) (x6 x7:Option V),(∀ r ∈ l,∀ st ∈ r.2.2,dw st/\subL (32::(tx (bh st)++[32,46,32])) Wd=true) ->
   ∃ x6' x7',bV 6 (λ s=>aL ac (aa ac d) (.cons (.for_ 0 7 (.att (.var 6) 12) (.cons (.ifs (.cmp false (.bin false .Add (.bin false .Add (.cst (.str [32])) (.bmeth false .replace (.call false (.glo 76) (.cons (.var 7) .nil)) (.cons (.cst (.str [40])) (.cons (.cst (.str [40,32])) .nil)))) (.cst (.str [32,46,32]))) .NotIn (.var 5)) (.cons .bad .nil) .nil) .nil)) .nil) s) (l.map aG) ⟨cx P toks x3 x4 (some (.w (.str Wd))) x6 x7,sl⟩=some (.next,⟨cx P toks x3 x4 (some (.w (.str Wd))) x6' x7',sl⟩)
 | [],x6,x7,_=>⟨x6,x7,rfl⟩
 | r::l,x6,x7,h=>by
   obtain ⟨x,e1⟩:=Cu hd (sl:=sl) (P:=P) (toks:=toks) (x3:=x3) (x4:=x4) (x6:=some (.w (aG r))) (Wd:=Wd) r.2.2 x7 (h r List.mem_cons_self)
   obtain ⟨x6',x7',e⟩:=Cv hd (P:=P) (toks:=toks) (x3:=x3) (x4:=x4) l (some (.w (aG r))) x λ y hy=>h y (Rk _ hy)
   refine ⟨x6',x7',de (.inl ?_) e⟩
   have f1:ac.isF 3 12=true:=rfl
   have f2:bW 12 [(10,W.str r.1),(11,.str r.2.1),(12,.tup (r.2.2.map bH))]=some (.tup (r.2.2.map bH)):=rfl
   have hk:bn ac (aa ac d) (.for_ 0 7 (.att (.var 6) 12) (.cons (.ifs (.cmp false (.bin false .Add (.bin false .Add (.cst (.str [32])) (.bmeth false .replace (.call false (.glo 76) (.cons (.var 7) .nil)) (.cons (.cst (.str [40])) (.cons (.cst (.str [40,32])) .nil)))) (.cst (.str [32,46,32]))) .NotIn (.var 5)) (.cons .bad .nil) .nil) .nil)) ⟨cx P toks x3 x4 (some (.w (.str Wd))) (some (.w (aG r))) x7,sl⟩=some (.next,⟨cx P toks x3 x4 (some (.w (.str Wd))) (some (.w (aG r))) x,sl⟩):=by
     rw [fq]
     unfold cx aG at *
     simp only [a9,ag,af,ax,ah,ay,a6,aF,bO,bI,f1,bN,f2,au,aq,br,bv,bB,aI,bX,az,hC,al,av,aX,aj,aP,aB,ak,cu,a0,eh,be,cR,bj,eA,bw,gy,bx,d8,aY,hK,bJ,ci,bQ,i4,ky,a7,i5,aZ,cj,ck,gk,List.cons_append,List.nil_append,aJ,hH,xJ,GM,D6,eU,aU,aT,xI,cJ]
     exact e1
   exact cy hk (by simp only [cJ,bv])
end
end
section
section
variable {n d:Nat}{bl dn:List W}{sl:ab}
theorem Bb {TL:List Tk}{j:Nat}(h:j < TL.length): ∃ t,TL[j]?=some t/\dz (.lst (TL.map Tk.W)) (.int (j:Int))=some t.W:=by
 refine ⟨TL[j],List.getElem?_eq_getElem h,mB ?_⟩
 rw [List.getElem?_map,List.getElem?_eq_getElem h];rfl
theorem HL {cf:bP}{TL:List Tk}{s:St}{P:W}{x3 x4 x5 x6 x7:Option V}(hl:TL.length<=16777216) :
   am ac cf (.comp 0 (.var 0) false (.call false (.glo 1) (.cons (.call false (.glo 2) (.cons (.var 1) .nil)) .nil)) true (.att (.sub false (.var 1) (.var 0)) 5) [1]) ⟨cx P (TL.map Tk.W) x3 x4 x5 x6 x7,sl⟩=some (.own (((List.range TL.length).filter (kA TL)).map λ (j:Nat)=>W.int (j:Int)),⟨cx P (TL.map Tk.W) x3 x4 x5 x6 x7,sl⟩):=by
 refine kW (s1:=⟨cx P (TL.map Tk.W) x3 x4 x5 x6 x7,sl⟩) (g:=λ (j:Nat)=>W.int (j:Int)) (keep:=kA TL) (v:= .w (.rng 0 (TL.map Tk.W).length)) (iw:= .rng 0 (TL.map Tk.W).length) (cl:=[some (.w (.lst (TL.map Tk.W)))]) (List.range TL.length) ?_ rfl ?_ rfl ?_
 · unfold cx
   simp only [al,av,g1,aX,g2,ag,af,ax,ah,aP,aB,ak,cu,a0,aZ,aq,bw,bx,be,bJ,ci,d8,aY]
 · rw [List.length_map];exact ir hl
 · intro j hj
   obtain ⟨t,e1,e2⟩:=Bb (List.mem_range.mp hj)
   have e3:kA TL j=t.a:=by unfold kA;rw [e1];rfl
   refine ⟨_,[some (.w (.int j)),some (.w (.lst (TL.map Tk.W)))],rfl,?_,λ _=>⟨.w (.int j),[some (.w (.int j)),some (.w (.lst (TL.map Tk.W)))],rfl,rfl⟩⟩
   have f1:ac.isF 1 5=true:=rfl
   have f2: ∀ k w p a,bW 5 [(2,W.str k),(3,.str w),(4,p),(5,.bool a)]=some (.bool a):=λ _ _ _ _=>rfl
   rw [e3]
   have e2:dz (.lst (TL.map Tk.W)) (.int (j:Int))=some (.inst 1 [(2,W.str t.k),(3,.str t.w),(4,t.p),(5,.bool t.a)]):=e2
   unfold cx
   simp only [List.cons_append,List.nil_append,a9,bc,ag,af,ax,ah,au,aq,bq,e2,ay,a6,aF,bO,bI,f1,bN,f2]
theorem HM {cf:bP}{TL:List Tk}{P:W}{x3 x5 x6 x7:Option V} :
   am ac cf (.comp 0 (.att (.sub false (.var 1) (.var 0)) 3) false (.var 4) false .no [1]) ⟨cx P (TL.map Tk.W) x3 (some (.own (((List.range TL.length).filter (kA TL)).map λ (j:Nat)=>W.int (j:Int)))) x5 x6 x7,sl⟩
     = some (.own ((tE TL).map W.str),⟨cx P (TL.map Tk.W) x3 (some (.w (.lst (((List.range TL.length).filter (kA TL)).map λ (j:Nat)=>W.int (j:Int))))) x5 x6 x7,sl⟩):=by
 have e:((List.range TL.length).filter (kA TL)).map (λ j=>W.str ((TL[j]?).getD d0).w)=(tE TL).map W.str:=by
   have:=pq TL d0 Tk.a (λ t=>W.str t.w)
   unfold tE
   rw [List.map_map]
   exact this
 rw [<- e]
 refine eV (g:=λ (j:Nat)=>W.int (j:Int)) (v:= .w (.lst (((List.range TL.length).filter (kA TL)).map λ (j:Nat)=>W.int (j:Int)))) (iw:= .lst (((List.range TL.length).filter (kA TL)).map λ (j:Nat)=>W.int (j:Int))) (cl:=[some (.w (.lst (TL.map Tk.W)))]) ((List.range TL.length).filter (kA TL)) ?_ rfl rfl rfl ?_
 · unfold cx
   simp only [ag,af,ax,ah,aj,aM]
 · intro j hj
   obtain ⟨t,e1,e2⟩:=Bb (List.mem_range.mp (List.mem_filter.mp hj).1)
   refine ⟨_,rfl,.w (.str t.w),[some (.w (.int j)),some (.w (.lst (TL.map Tk.W)))],?_,by rw [e1];rfl⟩
   have f1:ac.isF 1 3=true:=rfl
   have f2: ∀ k w p a,bW 3 [(2,W.str k),(3,.str w),(4,p),(5,.bool a)]=some (.str w):=λ _ _ _ _=>rfl
   have e2:dz (.lst (TL.map Tk.W)) (.int (j:Int))=some (.inst 1 [(2,W.str t.k),(3,.str t.w),(4,t.p),(5,.bool t.a)]):=e2
   unfold cx
   simp only [List.cons_append,List.nil_append,a9,bc,ag,af,ax,ah,au,aq,bq,e2,ay,a6,aF,bO,bI,f1,bN,f2]
theorem HN {TL:List Tk}{t0:Tk}{P:W}{x3 x5 x6 x7:Option V}{JR:List Nat}(hd:4<=d) (hs:cE (t0::TL)) (hJ:JR=(List.range TL.length).filter λ j=>kA (t0::TL) (j+1)) :
   am ac (aa ac d) (.comp 0 (.var 0) false (.slc false (.var 4) (.cst (.int 1)) .no) true (.cmp false (.meth (.sub false (.var 1) (.bin false .Sub (.var 0) (.cst (.int 1)))) 17 .nil) .NotEq (.tup (.cons (.cst (.str [115,105,103,110])) (.cons (.cst (.str [46])) .nil)))) [1]) ⟨cx P ((t0::TL).map Tk.W) x3 (some (.w (.lst (.int 0::JR.map λ (i:Nat)=>W.int ((i+1:Nat):Int))))) x5 x6 x7,sl⟩
     = some (.own [],⟨cx P ((t0::TL).map Tk.W) x3 (some (.w (.lst (.int 0::JR.map λ (i:Nat)=>W.int ((i+1:Nat):Int))))) x5 x6 x7,sl⟩):=by
 obtain ⟨d,rfl⟩:=Rj hd
 have e:((JR.filter λ _=>false).map λ _=>W.none)=[]:=by simp
 rw [<- e]
 refine kW (g:=λ (i:Nat)=>W.int ((i+1:Nat):Int)) (f:=λ _=>W.none) (keep:=λ _=>false) (v:= .own (JR.map λ (i:Nat)=>W.int ((i+1:Nat):Int))) (iw:= .lst (JR.map λ (i:Nat)=>W.int ((i+1:Nat):Int))) (cl:=[some (.w (.lst ((t0::TL).map Tk.W)))]) JR ?_ rfl rfl rfl ?_
 · unfold cx
   simp only [List.map,eS,ag,af,ax,ah,au,aq,az,sV,Co]
 · intro i hi
   rw [hJ] at hi
   obtain ⟨h1,h2⟩:=List.mem_filter.mp hi
   have h1:=List.mem_range.mp h1
   obtain ⟨x,e1,e2⟩:=Bb (TL:=t0::TL) (j:=i) (by simp;lia)
   obtain ⟨y,e3,e4⟩:=Bb (TL:=t0::TL) (j:=i+1) (by simp;lia)
   obtain ⟨A,B,eAB⟩:=Ba e1 e3
   have ya:y.a=true:=by unfold kA at h2;rw [e3] at h2;exact h2
   obtain ⟨k1,k2⟩:=hs.chain x y A B eAB ya
   refine ⟨_,[some (.w (.int ((i+1:Nat):Int))),some (.w (.lst ((t0::TL).map Tk.W)))],rfl,?_,λ q=>by cases q⟩
   have es:((i+1:Nat):Int) - 1=(i:Int):=by omega
   have c:=λ loc=>c6 (n:=d+1) (loc:=loc) (sl:=sl) (k:=x.k) (w:=x.w) (p:=x.p) (a:=x.a)
   have ct:=HI (sl:=sl) (k:=x.k) (w:=x.w) (p:=x.p) (a:=x.a)
   have eq:(aC 40 (.tup [.str x.k,.str x.w])&&aC 40 (.tup [.str [115,105,103,110],.str [46]]))=true:=by rw [k1,k2];rfl
   have eq2:gE (.tup [.str x.k,.str x.w]) (.tup [.str [115,105,103,110],.str [46]])=true:=by rw [k1,k2];rfl
   have e2:dz (.lst ((t0::TL).map Tk.W)) (.int (i:Int))=some (tk x.k x.w x.p x.a):=e2
   generalize (t0::TL).map Tk.W=toks at *
   unfold cx
   simp only [List.cons_append,List.nil_append,aI,fo,bc,ag,af,ax,ah,bX,au,aq,az,cj,bQ,ck,oU,aY,es,bq,e2,ct,aP,ak,c,bR,aX,aB,aZ,aJ,ce,a7,dj,eq,eq2,eU,Bool.not_true]
theorem HO {cf:bP}{TL:List Tk}{P:W}{x3 x4 x5 x6 x7:Option V} :
   am ac cf (.comp 0 (.att (.var 0) 3) false (.var 1) false .no []) ⟨cx P (TL.map Tk.W) x3 x4 x5 x6 x7,sl⟩=some (.own ((TL.map Tk.w).map W.str),⟨cx P (TL.map Tk.W) x3 x4 x5 x6 x7,sl⟩):=by
 rw [List.map_map]
 refine eV (g:=Tk.W) (v:= .w (.lst (TL.map Tk.W))) (iw:= .lst (TL.map Tk.W)) (cl:=[]) TL ?_ rfl rfl rfl ?_
 · unfold cx
   simp only [ag,af,ax,ah]
 · intro t _
   refine ⟨_,rfl,.w (.str t.w),[some (.w t.W)],?_,rfl⟩
   have f1:ac.isF 1 3=true:=rfl
   have f2: ∀ k w p a,bW 3 [(2,W.str k),(3,.str w),(4,p),(5,.bool a)]=some (.str w):=λ _ _ _ _=>rfl
   unfold Tk.W tk
   simp only [List.cons_append,List.nil_append,a9,ag,af,ax,ah,ay,a6,aF,bO,bI,f1,bN,f2]
end
end
section
theorem Bc (u:Us): ∃ t0 r,Cr u=t0::r/\t0.a=true:=by cases u<;>exact ⟨_,_,rfl,rfl⟩
theorem qV {w:W}{n:Nat}(h:aC n w=true):gE w w=true:=qM w n h
section
variable {n d:Nat}{bl dn:List W}{sl:ab}{loc:List (Option V)}
theorem yE {D:List W}:dl [.rdr] (.w (.bool true)) (RD bl D [])=some (TK bl):=rfl
theorem KL (hd:204<=d) (u:Us) {first:List cL}{bs:List fE}(hf:first.length<=2) (hfo: ∀ st ∈ first,dw st) (hb: ∀ b ∈ bs,eF b) (hn:bs.length < 1000) (ht:dg bs < 50000) :
   aa ac d (.w (.fn 112)) [.w (dY u ((aA first bs).map aG))] ⟨loc,TK bl⟩=some (.w (.bool true),⟨loc,TK bl⟩):=by
 obtain ⟨d,rfl⟩:=Rj hd
 obtain ⟨t0,r0,eu,ha0⟩:=Bc u
 have eTL:kg u first bs=t0::(r0++(hX first++fw bs)):=by unfold kg;rw [eu];rfl
 generalize hTL':r0++(hX first++fw bs)=TL' at eTL
 have hS:cE (t0::TL'):=eTL▸rV u first bs
 have hW:(t0::TL').map Tk.W=bT u++aO first bs:=by rw [<- eTL];exact EZ u first bs
 have hlen:(t0::TL').length<=2000000:=by rw [<- eTL];exact rW hf hfo hb hn
 have hlen1:bz ((t0::TL').map Tk.w)<=2000000:=by rw [<- eTL];exact qR hf hfo hb hn
 have hin:tE (t0::TL')=gA::bs.map λ b=>b.it.name:=by rw [<- eTL];exact A8 u first bs
 have hstand: ∀ r ∈ aA first bs,∀ st ∈ r.2.2,dw st/\subL (32::(tx (bh st)++[32,46,32])) (tx ((t0::TL').map Tk.w)++[32])=true:=by
   intro r hr st hs
   obtain ⟨U,V,hU,e⟩:=E2 (u:=u) hr hs
   rw [eTL] at e
   refine ⟨?_,by rw [e];exact E1 hU (du st)⟩
   unfold aA at hr
   rcases List.mem_append.mp hr with hr | hr
   · cases first with
     | nil=>cases hr
     | cons x l=>rw [List.mem_singleton.mp hr] at hs;exact hfo st hs
   · obtain ⟨b,h1,h2⟩:=gq hr
     rw [h2] at hs;exact (hb b h1).ok st hs
 have hrl:(aA first bs).length < 10000:=by
   have: ∀ (bs:List fE) (sec:Tx),(bS sec bs).length=bs.length:=by
     intro bs
     induction bs with
     | nil=>intro sec;rfl
     | cons b bs ih=>intro sec;rw [bS,List.length_cons,ih];rfl
   unfold aA
   rw [List.length_append,this]
   cases first<;>simp<;>lia
 have c67':=λ loc=>Q4 (d:=d+203) (loc:=loc) (bl:=bl) (by omega) u hf hfo hb hn
 have c80':=λ loc=>Q8 (d:=d+203) (loc:=loc) (bl:=bl) (by omega) u hf hfo hb hn ht
 have c71':=λ loc sl=>Ra (d:=d+203) (loc:=loc) (sl:=sl) (by omega) u (l:=aA first bs)
 have c111':=λ loc sl=>KK (d:=d+203) (loc:=loc) (sl:=sl) (by omega) (rs:=aA first bs) (λ r hr=>u5 hr) hrl
 rw [u6] at c111'
 rw [<- hW] at c67' c80'
 have hJ:(List.range (t0::TL').length).filter (kA (t0::TL'))=0::((List.range TL'.length).filter λ j=>kA (t0::TL') (j+1)).map (· + 1):=by
   rw [List.length_cons,List.range_succ_eq_map,List.filter_cons]
   have:kA (t0::TL') 0=true:=ha0
   rw [this,List.filter_map]
   rfl
 generalize hJR:((List.range TL'.length).filter λ j=>kA (t0::TL') (j+1))=JR at hJ
 have hTops:((List.range (t0::TL').length).filter (kA (t0::TL'))).map (λ (j:Nat)=>W.int (j:Int))= .int 0::JR.map λ (i:Nat)=>W.int ((i+1:Nat):Int):=by
   rw [hJ,List.map_cons,List.map_map];rfl
 obtain ⟨P,hP⟩: ∃ x,dY u ((aA first bs).map aG)=x:=⟨_,rfl⟩
 obtain ⟨DN,hDN⟩: ∃ x,((t0::TL').map Tk.W).reverse=x:=⟨_,rfl⟩
 obtain ⟨SL,hSL⟩: ∃ x,RD bl DN []=x:=⟨_,rfl⟩
 have k5:=HL (sl:=SL) (cf:=aa ac (d+203)) (TL:=t0::TL') (s:=⟨[],SL⟩) (P:=P) (x3:=some (.w P)) (x4:=none) (x5:=none) (x6:=none) (x7:=none) (by omega)
 have k6:=HM (sl:=SL) (cf:=aa ac (d+203)) (TL:=t0::TL') (P:=P) (x3:=some (.w P)) (x5:=none) (x6:=none) (x7:=none)
 have k7:=HN (sl:=SL) (d:=d+203) (TL:=TL') (t0:=t0) (P:=P) (x3:=some (.w P)) (x5:=none) (x6:=none) (x7:=none) (by omega) hS hJR.symm
 have k8:=HO (sl:=SL) (cf:=aa ac (d+203)) (TL:=t0::TL') (P:=P) (x3:=some (.w P)) (x4:=some (.w (.lst (.int 0::JR.map λ (i:Nat)=>W.int ((i+1:Nat):Int))))) (x5:=none) (x6:=none) (x7:=none)
 rw [hTops] at k5 k6
 rw [hin] at k6
 obtain ⟨tops,hTp⟩: ∃ x,(W.int 0::JR.map λ (i:Nat)=>W.int ((i+1:Nat):Int))=x:=⟨_,rfl⟩
 obtain ⟨Wd,hWd⟩: ∃ x,tx ((t0::TL').map Tk.w)++[32]=x:=⟨_,rfl⟩
 rw [hWd] at hstand
 obtain ⟨y6,y7,e9⟩:=Cv (sl:=SL) (d:=d+203) (by omega) (P:=P) (toks:=(t0::TL').map Tk.W) (x3:=some (.w P)) (x4:=some (.w (.lst tops))) (Wd:=Wd) (aA first bs) none none hstand
 obtain ⟨TA,tz,eTZ,kz1,kz2⟩: ∃ A t,t0::TL'=A++[t]/\tD t:=by
   rcases hS.last with h | h
   · cases h
   · exact h
 have hz:dz (.lst ((t0::TL').map Tk.W)) (.int (-((1:Nat):Int)))=some (tk tz.k tz.w tz.p tz.a):=by
   rw [eTZ,List.map_append];exact qE
 have hj:=tl (ps:=(t0::TL').map Tk.w) (by omega)
 have le:Nat.ble ((tx ((t0::TL').map Tk.w)).length+([32]:Tx).length) cw=true:=Rp (by have:=my (a:=(t0::TL').map Tk.w) (by simp);have:=kJ;simp at *; lia)
 have pt:=rY (u:=u) hfo hb
 have et:=qV pt
 have tQ: ∃ a,qN u (aA first bs)= .tup a:=⟨_,rfl⟩
 have pn:=qU bs
 have en:=qV pn
 have t0p: ∃ r,tops= .int 0::r:=⟨_,hTp.symm⟩
 have pr:dY u ((aA first bs).map aG)= .inst 4 [(13,W.lst ((aA first bs).map aG)),(14,.tup (mN u))]:=rfl
 have m1: ∀ sl,dF ac sl (.w P) 17=some (.w (.fn 71),[.w P]):=λ _=>by rw [<- hP];rfl
 rw [hDN,hSL] at c80'
 rw [hP] at c67' c80' c71' pr
 rw [hTp] at k5 k6 k7 k8
 generalize (t0::TL').map Tk.W=toks at *
 generalize (t0::TL').map Tk.w=wss at *
 generalize qN u (aA first bs)=Q at *
 generalize (gA::bs.map λ b=>b.it.name).map W.str=HD at *
 have s0:bn ac (aa ac (d+203)) (.asgC 1 (.call false (.glo 109) (.cons (.var 0) .nil))) ⟨[some (.w P),none,none,none,none,none,none,none],TK bl⟩=some (.next,⟨[some (.w P),some (.w (.lst toks)),none,none,none,none,none,none],TK bl⟩):=by
   simp only [sX,al,av,Ki,aX,ag,af,ax,ah,aP,aB,ak,c67',dB,fD,aj,aM]
 have s3:bn ac (aa ac (d+203)) (.asg 3 (.call false (.glo 111) (.cons (.var 2) (.cons (.glo 112) .nil)))) ⟨cx P toks none none none none none,RD bl [] toks⟩=some (.next,⟨cx P toks (some (.w P)) none none none none,SL⟩):=by
   unfold cx
   simp only [aW,al,av,Kj,aX,ag,af,ax,ah,Kk,aP,aB,ak,c80',aj,aM]
 have s4:bn ac (aa ac (d+203)) (.ifs (.bop false (.cons (.cmp false (.meth (.var 3) 17 .nil) .NotEq (.meth (.var 0) 17 .nil)) (.cons (.not (.meth (.var 2) 37 .nil)) .nil))) (.cons .bad .nil) .nil) ⟨cx P toks (some (.w P)) none none none none,SL⟩=some (.next,⟨cx P toks (some (.w P)) none none none none,SL⟩):=by
   have m2:dF ac SL (.slot .rdr) 37=some (.w (.fn 84),[.slot .rdr]):=by rw [<- hSL];exact Hy rfl rfl
   have di:=λ loc=>A9 (n:=d+202) (loc:=loc) (bl:=bl) (dn:=DN)
   rw [hSL] at di
   obtain ⟨a,rfl⟩:=tQ
   unfold cx
   simp only [bB,cI,nF,aI,fo,ag,af,ax,ah,m1,aP,List.cons_append,List.nil_append,ak,c71',au,aq,aJ,ce,a7,dj,pt,Bool.and_self,et,eU,Bool.not_true,aU,aT,EJ,xH,ms,m2,di,cJ]
 have s5:bn ac (aa ac (d+203)) (.asg 4 (.comp 0 (.var 0) false (.call false (.glo 1) (.cons (.call false (.glo 2) (.cons (.var 1) .nil)) .nil)) true (.att (.sub false (.var 1) (.var 0)) 5) [1])) ⟨cx P toks (some (.w P)) none none none none,SL⟩=some (.next,⟨cx P toks (some (.w P)) (some (.own tops)) none none none,SL⟩):=by
   rw [aW,k5];rfl
 have s6:bn ac (aa ac (d+203)) (.ifs (.bop false (.cons (.cmp false (.comp 0 (.att (.sub false (.var 1) (.var 0)) 3) false (.var 4) false .no [1]) .NotEq (.call false (.glo 113) (.cons (.att (.var 0) 13) .nil))) (.cons (.cmp false (.sub false (.var 4) (.cst (.int 0))) .NotEq (.cst (.int 0))) (.cons (.cmp false (.meth (.sub false (.var 1) (.negc 1)) 17 .nil) .NotEq (.tup (.cons (.cst (.str [115,105,103,110])) (.cons (.cst (.str [46])) .nil)))) .nil)))) (.cons .bad .nil) .nil) ⟨cx P toks (some (.w P)) (some (.own tops)) none none none,SL⟩=some (.next,⟨cx P toks (some (.w P)) (some (.w (.lst tops))) none none none,SL⟩):=by
   have f1:ac.isF 4 13=true:=rfl
   have f2:bW 13 [(13,W.lst ((aA first bs).map aG)),(14,.tup (mN u))]=some (.lst ((aA first bs).map aG)):=rfl
   have c:=λ loc=>c6 (n:=d+200) (loc:=loc) (sl:=SL) (k:=tz.k) (w:=tz.w) (p:=tz.p) (a:=tz.a)
   have ct:=HI (sl:=SL) (k:=tz.k) (w:=tz.w) (p:=tz.p) (a:=tz.a)
   have eq:(aC 40 (.tup [.str tz.k,.str tz.w])&&aC 40 (.tup [.str [115,105,103,110],.str [46]]))=true:=by rw [kz1,kz2];rfl
   have eq2:gE (.tup [.str tz.k,.str tz.w]) (.tup [.str [115,105,103,110],.str [46]])=true:=by rw [kz1,kz2];rfl
   have z:((0:Int)==0)=true:=rfl
   obtain ⟨tr,rfl⟩:=t0p
   generalize (aA first bs).map aG=RW at *
   unfold cx at *
   rw [pr] at k6 ⊢
   simp only [bB,cI,nF,aI,k6,au,aq,al,av,Kl,aX,a9,ag,af,ax,ah,ay,a6,aF,bO,bI,f1,bN,f2,aP,aB,ak,c111',aJ,ce,a7,dj,pn,Bool.and_self,en,eU,Bool.not_true,aU,aT,EJ,bc,az,bq,yz,hN,iI,z,xH,fo,oP,hz,ct,List.cons_append,List.nil_append,c,bR,aZ,eq,eq2,cJ]
 have s7:bn ac (aa ac (d+203)) (.ifs (.cmp false (.comp 0 (.var 0) false (.slc false (.var 4) (.cst (.int 1)) .no) true (.cmp false (.meth (.sub false (.var 1) (.bin false .Sub (.var 0) (.cst (.int 1)))) 17 .nil) .NotEq (.tup (.cons (.cst (.str [115,105,103,110])) (.cons (.cst (.str [46])) .nil)))) [1]) .NotEq (.lst .nil)) (.cons .bad .nil) .nil) ⟨cx P toks (some (.w P)) (some (.w (.lst tops))) none none none,SL⟩=some (.next,⟨cx P toks (some (.w P)) (some (.w (.lst tops))) none none none,SL⟩):=by
   have pl:aC 40 (.lst [])=true:=rfl
   have el:gE (.lst []) (.lst [])=true:=rfl
   simp only [bB,aI,k7,au,aq,cV,aP,aZ,aJ,ce,a7,dj,pl,Bool.and_self,el,eU,Bool.not_true,aU,aT,cJ]
 have s8:bn ac (aa ac (d+203)) (.asg 5 (.bin false .Add (.bmeth false .join (.cst (.str [32])) (.cons (.comp 0 (.att (.var 0) 3) false (.var 1) false .no []) .nil)) (.cst (.str [32])))) ⟨cx P toks (some (.w P)) (some (.w (.lst tops))) none none none,SL⟩=some (.next,⟨cx P toks (some (.w P)) (some (.w (.lst tops))) (some (.w (.str Wd))) none none,SL⟩):=by
   subst hWd
   unfold cx at *
   simp only [aW,bX,hC,az,au,aq,aX,k8,aP,aB,aZ,hj,cj,bQ,ck,aY,gk,a7,le,aj,aM]
 have s9:bn ac (aa ac (d+203)) (.for_ 0 6 (.att (.var 0) 13) (.cons (.for_ 0 7 (.att (.var 6) 12) (.cons (.ifs (.cmp false (.bin false .Add (.bin false .Add (.cst (.str [32])) (.bmeth false .replace (.call false (.glo 76) (.cons (.var 7) .nil)) (.cons (.cst (.str [40])) (.cons (.cst (.str [40,32])) .nil)))) (.cst (.str [32,46,32]))) .NotIn (.var 5)) (.cons .bad .nil) .nil) .nil)) .nil)) ⟨cx P toks (some (.w P)) (some (.w (.lst tops))) (some (.w (.str Wd))) none none,SL⟩=some (.next,⟨cx P toks (some (.w P)) (some (.w (.lst tops))) (some (.w (.str Wd))) y6 y7,SL⟩):=by
   rw [fq]
   have f1:ac.isF 4 13=true:=rfl
   have f2:bW 13 [(13,W.lst ((aA first bs).map aG)),(14,.tup (mN u))]=some (.lst ((aA first bs).map aG)):=rfl
   generalize (aA first bs).map aG=RW at *
   unfold cx at *
   rw [pr] at e9 ⊢
   simp only [a9,ag,af,ax,ah,ay,a6,aF,bO,bI,f1,bN,f2,au,aq,br,bv,cJ]
   exact e9
 have hr:aL ac (aa ac (d+203)) Ep ⟨[some (.w P),none,none,none,none,none,none,none],TK bl⟩=some (.ret (.w (.bool true)),⟨cx P toks (some (.w P)) (some (.w (.lst tops))) (some (.w (.str Wd))) y6 y7,SL⟩):=by
   unfold Ep
   refine cy s0 (HJ (E4 (n:=d+194)) (cy s3 (cy s4 (cy s5 (cy s6 (cy s7 (cy s8 (cy s9 (jz rfl)))))))))
 rw [hP]
 exact ao (d:=d+203) (i:=112) [some (.w P),none,none,none,none,none,none,none] rfl rfl rfl rfl rfl (slo':=SL) (eY hr) (by rw [<- hSL];exact yE)
end
end
section
theorem fm {N:Int}(k:Int) (h:0 < k):0<=N.fmod k/\N.fmod k < k:=⟨Int.fmod_nonneg_of_pos _ h,Int.fmod_lt_of_pos _ h⟩
theorem HP {m:Nat}{x:Int}{P:Int->Prop}(h:0<=x/\x < m) (k: ∀ n,n < m->P ((n:Nat):Int)):P x:=by
 obtain ⟨n,rfl⟩:=Int.eq_ofNat_of_zero_le h.1
 exact k n (Int.ofNat_lt.mp h.2)
theorem IG (N:Int):N.fmod 2=0\/N.fmod 2=1:=HP (m:=2) (P:=λ x=>x=0\/x=1) (fm 2 (by decide)) (by decide)
theorem IH (N:Int):N.fmod 3=0\/N.fmod 3=1\/N.fmod 3=2:=HP (m:=3) (P:=λ x=>x=0\/x=1\/x=2) (fm 3 (by decide)) (by decide)
theorem Rb (N:Int):N.fmod 4=0\/N.fmod 4=1\/N.fmod 4=2\/N.fmod 4=3:=HP (m:=4) (P:=λ x=>x=0\/x=1\/x=2\/x=3) (fm 4 (by decide)) (by decide)
theorem Rc (N:Int):N.fmod 5=0\/N.fmod 5=1\/N.fmod 5=2\/N.fmod 5=3\/N.fmod 5=4:=HP (m:=5) (P:=λ x=>x=0\/x=1\/x=2\/x=3\/x=4) (fm 5 (by decide)) (by decide)
theorem Rd (N:Int):N.fmod 7=0\/N.fmod 7=1\/N.fmod 7=2\/N.fmod 7=3\/N.fmod 7=4\/N.fmod 7=5\/N.fmod 7=6:=HP (m:=7) (P:=λ x=>x=0\/x=1\/x=2\/x=3\/x=4\/x=5\/x=6) (fm 7 (by decide)) (by decide)
section
variable {n d:Nat}{loc:List (Option V)}{N:Int}
theorem II:aa ac (n+3) (.w (.fn 105)) [.slot .bag,.w (.int 2)] ⟨loc,TK [.int N]⟩=some (.w (.int (N.fmod 2)),⟨loc,TK [.int (N.fdiv 2)]⟩):=by kernel_rfl
theorem Fy:aa ac (n+3) (.w (.fn 105)) [.slot .bag,.w (.int 3)] ⟨loc,TK [.int N]⟩=some (.w (.int (N.fmod 3)),⟨loc,TK [.int (N.fdiv 3)]⟩):=by kernel_rfl
theorem KM:aa ac (n+3) (.w (.fn 105)) [.slot .bag,.w (.int 4)] ⟨loc,TK [.int N]⟩=some (.w (.int (N.fmod 4)),⟨loc,TK [.int (N.fdiv 4)]⟩):=by kernel_rfl
theorem Re:aa ac (n+3) (.w (.fn 105)) [.slot .bag,.w (.int 5)] ⟨loc,TK [.int N]⟩=some (.w (.int (N.fmod 5)),⟨loc,TK [.int (N.fdiv 5)]⟩):=by kernel_rfl
theorem Rf:aa ac (n+3) (.w (.fn 105)) [.slot .bag,.w (.int 7)] ⟨loc,TK [.int N]⟩=some (.w (.int (N.fmod 7)),⟨loc,TK [.int (N.fdiv 7)]⟩):=by kernel_rfl
noncomputable def fQ (dp:Nat) (x2 x3 x4:Option V):List (Option V):=[some (.slot .bag),some (.w (.int dp)),x2,x3,x4]
theorem tG {dp:Nat}(w:Int) (hw:w=0\/w=1\/w=2\/w=3\/w=4): ∃ k N',aL ac (aa ac (n+3)) (.cons (.ifs (.cmp false (.var 2) .Eq (.cst (.int 0))) (.cons (.ret (.tup (.cons (.cst (.str [103,111,116,111])) (.cons (.sub false (.lst (.cons (.tup (.cons (.cst (.str [80,45,49])) (.cons (.cst (.str [])) .nil))) (.cons (.tup (.cons (.cst (.str [76,65,83,84])) (.cons (.cst (.str [83,45,65])) .nil))) .nil))) (.call false (.glo 101) (.cons (.var 0) (.cons (.cst (.int 2)) .nil)))) .nil)))) .nil) .nil) (.cons (.ifs (.cmp false (.var 2) .Lt (.cst (.int 5))) (.cons (.ret (.sub false (.lst (.cons (.tup (.cons (.cst (.str [99,111,110,116,105,110,117,101])) .nil)) (.cons (.tup (.cons (.cst (.str [101,120,105,116])) .nil)) (.cons (.tup (.cons (.cst (.str [115,116,111,112])) .nil)) (.cons (.tup (.cons (.cst (.str [101,120,105,116,45,112,114,111,103,114,97,109])) .nil)) .nil))))) (.bin false .Sub (.var 2) (.cst (.int 1))))) .nil) .nil) (.cons (.asg 3 (.sub false (.lst (.cons (.tup (.cons (.cst (.str [110,97,109,101,100])) (.cons (.tup (.cons (.cst (.str [114,101,102])) (.cons (.cst (.str [73,83,45,79,78])) (.cons (.tup .nil) (.cons (.tup .nil) (.cons (.cst (.none)) .nil)))))) .nil))) (.cons (.tup (.cons (.cst (.str [114,101,108])) (.cons (.cst (.str [60])) (.cons (.tup (.cons (.cst (.str [114,101,102])) (.cons (.cst (.str [78])) (.cons (.tup .nil) (.cons (.tup .nil) (.cons (.cst (.none)) .nil)))))) (.cons (.tup (.cons (.cst (.str [110,117,109,98,101,114])) (.cons (.tup (.cons (.cst (.int 3)) (.cons (.cst (.int 0)) .nil))) .nil))) .nil))))) .nil))) (.call false (.glo 101) (.cons (.var 0) (.cons (.cst (.int 2)) .nil))))) (.cons (.asg 4 (.ife (.cmp false (.call false (.glo 101) (.cons (.var 0) (.cons (.cst (.int 2)) .nil))) .Eq (.cst (.int 1))) (.tup (.cons (.call false (.glo 102) (.cons (.var 0) (.cons (.bin false .Sub (.var 1) (.cst (.int 1))) .nil))) .nil)) (.tup .nil))) (.cons (.ret (.tup (.cons (.cst (.str [105,102])) (.cons (.var 3) (.cons (.tup (.cons (.call false (.glo 102) (.cons (.var 0) (.cons (.bin false .Sub (.var 1) (.cst (.int 1))) .nil))) (.cons (.call false (.glo 102) (.cons (.var 0) (.cons (.cst (.int 0)) .nil))) .nil))) (.cons (.var 4) .nil)))))) .nil))))) ⟨fQ dp (some (.w (.int w))) none none,TK [.int N]⟩=some (.ret (.w (gD k)),⟨fQ dp (some (.w (.int w))) none none,TK [.int N']⟩):=by
 have t:=λ loc=>II (n:=n) (loc:=loc) (N:=N)
 rcases hw with rfl | rfl | rfl | rfl | rfl
 · rcases IG N with h | h
   · refine ⟨.g1,N.fdiv 2,?_⟩
     rw [h] at t
     have z:((0:Int)==0)=true:=rfl
     have s: ∀ a b:W,dz (.lst [a,b]) (.int 0)=some a:=λ _ _=>rfl
     unfold fQ
     simp only [bv,bB,aI,ag,af,ax,ah,au,aq,az,aJ,ce,a7,dj,hN,Bool.and_self,iI,z,aU,aT,aV,bR,aX,bc,cV,aP,aB,aZ,al,av,jZ,ak,t,bq,s,gD,Hn]
   · refine ⟨.g2,N.fdiv 2,?_⟩
     rw [h] at t
     have z:((0:Int)==0)=true:=rfl
     have s: ∀ a b:W,dz (.lst [a,b]) (.int 1)=some b:=λ _ _=>rfl
     unfold fQ
     simp only [bv,bB,aI,ag,af,ax,ah,au,aq,az,aJ,ce,a7,dj,hN,Bool.and_self,iI,z,aU,aT,aV,bR,aX,bc,cV,aP,aB,aZ,al,av,jZ,ak,t,bq,s,gD,nI,Cb]
 · exact ⟨.ct,N,by kernel_rfl⟩
 · exact ⟨.ex,N,by kernel_rfl⟩
 · exact ⟨.st,N,by kernel_rfl⟩
 · exact ⟨.xp,N,by kernel_rfl⟩
end
theorem u7: ∀ (dp:Nat) {d:Nat}{N:Int},dp<=2->10+dp<=d-> ∃ st N',kX st<=dp/\ ∀ loc,aa ac d (.w (.fn 107)) [.slot .bag,.w (.int (dp:Int))] ⟨loc,TK [.int N]⟩=some (.w (bH st),⟨loc,TK [.int N']⟩)
 | 0,d,N,_,hd=>by
   obtain ⟨d,rfl⟩:=Rj (show 10<=d by omega)
   have t:=λ loc=>Re (n:=d+6) (loc:=loc) (N:=N)
   obtain ⟨k,N',e⟩:=tG (n:=d+6) (dp:=0) (N:=N.fdiv 5) (N.fmod 5) (Rc N)
   have s0:bn ac (aa ac (d+9)) (.asg 2 (.call false (.glo 101) (.cons (.var 0) (.cons (.ife (.cmp false (.var 1) .Gt (.cst (.int 0))) (.cst (.int 7)) (.cst (.int 5))) .nil)))) ⟨fQ 0 none none none,TK [.int N]⟩=some (.next,⟨fQ 0 (some (.w (.int (N.fmod 5)))) none none,TK [.int (N.fdiv 5)]⟩):=by
     have z:decide ((0:Int) < ((0:Nat):Int))=false:=rfl
     unfold fQ
     simp only [aW,al,av,jZ,aX,ag,af,ax,ah,dq,aI,au,aq,az,aJ,fC,aY,z,aU,aT,aP,aB,ak,t,aj,aM]
   refine ⟨.lf k,N',Nat.le_refl _,λ loc=> ?_⟩
   have hr:aL ac (aa ac (d+9)) xR ⟨fQ 0 none none none,TK [.int N]⟩=some (.ret (.w (gD k)),⟨fQ 0 (some (.w (.int (N.fmod 5)))) none none,TK [.int N']⟩):=by
     unfold xR
     exact cy s0 e
   exact ao (d:=d+9) (i:=107) (fQ 0 none none none) rfl rfl rfl rfl rfl (slo':=TK [.int N']) (eY hr) rfl
 | dp+1,d,N,hdp,hd=>by
   obtain ⟨d,rfl⟩:=Rj (show 10<=d by omega)
   have t:=λ loc=>Rf (n:=d+6) (loc:=loc) (N:=N)
   have s0:bn ac (aa ac (d+9)) (.asg 2 (.call false (.glo 101) (.cons (.var 0) (.cons (.ife (.cmp false (.var 1) .Gt (.cst (.int 0))) (.cst (.int 7)) (.cst (.int 5))) .nil)))) ⟨fQ (dp+1) none none none,TK [.int N]⟩=some (.next,⟨fQ (dp+1) (some (.w (.int (N.fmod 7)))) none none,TK [.int (N.fdiv 7)]⟩):=by
     have z:decide ((0:Int) < ((dp+1:Nat):Int))=true:=decide_eq_true (by omega)
     unfold fQ
     simp only [aW,al,av,jZ,aX,ag,af,ax,ah,dq,aI,au,aq,az,aJ,fC,aY,z,aU,aT,aP,aB,ak,t,aj,aM]
   have run: ∀ {v:W} {N':Int} {L:List (Option V)},aL ac (aa ac (d+9)) (.cons (.ifs (.cmp false (.var 2) .Eq (.cst (.int 0))) (.cons (.ret (.tup (.cons (.cst (.str [103,111,116,111])) (.cons (.sub false (.lst (.cons (.tup (.cons (.cst (.str [80,45,49])) (.cons (.cst (.str [])) .nil))) (.cons (.tup (.cons (.cst (.str [76,65,83,84])) (.cons (.cst (.str [83,45,65])) .nil))) .nil))) (.call false (.glo 101) (.cons (.var 0) (.cons (.cst (.int 2)) .nil)))) .nil)))) .nil) .nil) (.cons (.ifs (.cmp false (.var 2) .Lt (.cst (.int 5))) (.cons (.ret (.sub false (.lst (.cons (.tup (.cons (.cst (.str [99,111,110,116,105,110,117,101])) .nil)) (.cons (.tup (.cons (.cst (.str [101,120,105,116])) .nil)) (.cons (.tup (.cons (.cst (.str [115,116,111,112])) .nil)) (.cons (.tup (.cons (.cst (.str [101,120,105,116,45,112,114,111,103,114,97,109])) .nil)) .nil))))) (.bin false .Sub (.var 2) (.cst (.int 1))))) .nil) .nil) (.cons (.asg 3 (.sub false (.lst (.cons (.tup (.cons (.cst (.str [110,97,109,101,100])) (.cons (.tup (.cons (.cst (.str [114,101,102])) (.cons (.cst (.str [73,83,45,79,78])) (.cons (.tup .nil) (.cons (.tup .nil) (.cons (.cst (.none)) .nil)))))) .nil))) (.cons (.tup (.cons (.cst (.str [114,101,108])) (.cons (.cst (.str [60])) (.cons (.tup (.cons (.cst (.str [114,101,102])) (.cons (.cst (.str [78])) (.cons (.tup .nil) (.cons (.tup .nil) (.cons (.cst (.none)) .nil)))))) (.cons (.tup (.cons (.cst (.str [110,117,109,98,101,114])) (.cons (.tup (.cons (.cst (.int 3)) (.cons (.cst (.int 0)) .nil))) .nil))) .nil))))) .nil))) (.call false (.glo 101) (.cons (.var 0) (.cons (.cst (.int 2)) .nil))))) (.cons (.asg 4 (.ife (.cmp false (.call false (.glo 101) (.cons (.var 0) (.cons (.cst (.int 2)) .nil))) .Eq (.cst (.int 1))) (.tup (.cons (.call false (.glo 102) (.cons (.var 0) (.cons (.bin false .Sub (.var 1) (.cst (.int 1))) .nil))) .nil)) (.tup .nil))) (.cons (.ret (.tup (.cons (.cst (.str [105,102])) (.cons (.var 3) (.cons (.tup (.cons (.call false (.glo 102) (.cons (.var 0) (.cons (.bin false .Sub (.var 1) (.cst (.int 1))) .nil))) (.cons (.call false (.glo 102) (.cons (.var 0) (.cons (.cst (.int 0)) .nil))) .nil))) (.cons (.var 4) .nil)))))) .nil))))) ⟨fQ (dp+1) (some (.w (.int (N.fmod 7)))) none none,TK [.int (N.fdiv 7)]⟩=some (.ret (.w v),⟨L,TK [.int N']⟩) ->
       ∀ loc,aa ac (d+10) (.w (.fn 107)) [.slot .bag,.w (.int ((dp+1:Nat):Int))] ⟨loc,TK [.int N]⟩=some (.w v,⟨loc,TK [.int N']⟩):=λ {v N' L} e loc=>by
     have hr:aL ac (aa ac (d+9)) xR ⟨fQ (dp+1) none none none,TK [.int N]⟩=some (.ret (.w v),⟨L,TK [.int N']⟩):=by
       unfold xR
       exact cy s0 e
     exact ao (d:=d+9) (i:=107) (fQ (dp+1) none none none) rfl rfl rfl rfl rfl (slo':=TK [.int N']) (eY hr) rfl
   by_cases hl:N.fmod 7=0\/N.fmod 7=1\/N.fmod 7=2\/N.fmod 7=3\/N.fmod 7=4
   · obtain ⟨k,N',e⟩:=tG (n:=d+6) (dp:=dp+1) (N:=N.fdiv 7) (N.fmod 7) hl
     exact ⟨.lf k,N',Nat.zero_le _,run e⟩
   · have hw:5<=N.fmod 7:=by have:=Rd N;lia
     have e1:(N.fmod 7==0)=false:=beq_eq_false_iff_ne.mpr (by omega)
     have e2:decide (N.fmod 7 < 5)=false:=decide_eq_false (by omega)
     have em:((dp+1:Nat):Int) - 1=(dp:Int):=by omega
     have t1:=λ loc=>II (n:=d+6) (loc:=loc) (N:=N.fdiv 7)
     have t2:=λ loc=>II (n:=d+6) (loc:=loc) (N:=(N.fdiv 7).fdiv 2)
     have i0: ∀ a b:W,dz (.lst [a,b]) (.int 0)=some a:=λ _ _=>rfl
     have i1: ∀ a b:W,dz (.lst [a,b]) (.int 1)=some b:=λ _ _=>rfl
     have z0:((0:Int)==1)=false:=rfl
     have z1:((1:Int)==1)=true:=rfl
     obtain ⟨cb,hcb⟩: ∃ cb:Bool,∀ a b,a=hO true->b=hO false->dz (.lst [a,b]) (.int ((N.fdiv 7).fmod 2))=some (hO cb):=by
       rcases IG (N.fdiv 7) with h | h
       · exact ⟨true,λ a b ha _=>by rw [h,ha];rfl⟩
       · exact ⟨false,λ a b _ hb=>by rw [h,hb];rfl⟩
     have hcb:=hcb _ _ rfl rfl
     unfold hO Fu yU wN qz at hcb
     rcases IG ((N.fdiv 7).fdiv 2) with h | h
     · obtain ⟨a,N1,ha,ea⟩:=u7 dp (d:=d+9) (N:=((N.fdiv 7).fdiv 2).fdiv 2) (by omega) (by omega)
       obtain ⟨b,N2,hb,eb⟩:=u7 0 (d:=d+9) (N:=N1) (by omega) (by omega)
       refine ⟨.ife cb a b,N2,by simp only [kX];lia,run (L:= ?_) ?_⟩
       · exact fQ (dp+1) (some (.w (.int (N.fmod 7)))) (some (.w (hO cb))) (some (.w (.tup [])))
       · rw [h] at t2
         have eb: ∀ loc,aa ac (d+9) (.w (.fn 107)) [.slot .bag,.w (.int 0)] ⟨loc,TK [.int N1]⟩=some (.w (bH b),⟨loc,TK [.int N2]⟩):=eb
         unfold fQ bH j0 hO Fu yU wN qz
         simp only [bv,bB,aI,ag,af,ax,ah,au,aq,az,aJ,ce,a7,dj,hN,Bool.and_self,iI,e1,aU,aT,cJ,gj,aY,e2,aW,bc,cV,aX,bR,aP,aZ,aB,al,av,jZ,ak,t1,bq,hcb,aj,aM,dq,t2,z0,aV,AK,bX,cj,bQ,ck,oU,em,ea,eb]
     · obtain ⟨o,N0,ho,eo⟩:=u7 dp (d:=d+9) (N:=((N.fdiv 7).fdiv 2).fdiv 2) (by omega) (by omega)
       obtain ⟨a,N1,ha,ea⟩:=u7 dp (d:=d+9) (N:=N0) (by omega) (by omega)
       obtain ⟨b,N2,hb,eb⟩:=u7 0 (d:=d+9) (N:=N1) (by omega) (by omega)
       refine ⟨.iff cb a b o,N2,by simp only [kX];lia,run (L:= ?_) ?_⟩
       · exact fQ (dp+1) (some (.w (.int (N.fmod 7)))) (some (.w (hO cb))) (some (.w (.tup [bH o])))
       · rw [h] at t2
         have eb: ∀ loc,aa ac (d+9) (.w (.fn 107)) [.slot .bag,.w (.int 0)] ⟨loc,TK [.int N1]⟩=some (.w (bH b),⟨loc,TK [.int N2]⟩):=eb
         rw [show bH (.iff cb a b o)= .tup [j0,hO cb,.tup [bH a,bH b],.tup [bH o]] from rfl]
         generalize bH o=Qo at *
         generalize bH a=Qa at *
         generalize bH b=Qb at *
         unfold fQ j0 hO Fu yU wN qz
         simp only [bv,bB,aI,ag,af,ax,ah,au,aq,az,aJ,ce,a7,dj,hN,Bool.and_self,iI,e1,aU,aT,cJ,gj,aY,e2,aW,bc,cV,aX,bR,aP,aZ,aB,al,av,jZ,ak,t1,bq,hcb,aj,aM,dq,t2,z1,AK,bX,cj,bQ,ck,oU,em,eo,aV,ea,eb]
end
section
section
variable {n d:Nat}{loc:List (Option V)}{N:Int}
theorem yF (hd:12<=d) (N:Int): ∃ st N',dw st/\ ∀ loc,aa ac d (.w (.fn 107)) [.slot .bag,.w (.int 2)] ⟨loc,TK [.int N]⟩=some (.w (bH st),⟨loc,TK [.int N']⟩):=u7 2 (Nat.le_refl _) (by omega)
theorem E5 (hd:13<=d) (N:Int): ∃ (l:List cL) (N':Int),l.length<=2/\(∀ st ∈ l,dw st)/\ ∀ loc,aa ac d (.w (.fn 108)) [.slot .bag] ⟨loc,TK [.int N]⟩=some (.w (.tup (l.map bH)),⟨loc,TK [.int N']⟩):=by
 obtain ⟨d,rfl⟩:=Rj hd
 have t:=λ loc=>Fy (n:=d+9) (loc:=loc) (N:=N)
 have go: ∀ (l:List cL) (N':Int),am ac (aa ac (d+12)) (.comp 0 (.call false (.glo 102) (.cons (.var 1) (.cons (.cst (.int 2)) .nil))) false (.call false (.glo 1) (.cons (.call false (.glo 101) (.cons (.var 0) (.cons (.cst (.int 3)) .nil))) .nil)) false .no [0]) ⟨[some (.slot .bag)],TK [.int N]⟩=some (.own (l.map bH),⟨[some (.slot .bag)],TK [.int N']⟩) ->
     ∀ loc,aa ac (d+13) (.w (.fn 108)) [.slot .bag] ⟨loc,TK [.int N]⟩=some (.w (.tup (l.map bH)),⟨loc,TK [.int N']⟩):=λ l N' e loc=>by
   refine ao (d:=d+12) (i:=108) [some (.slot .bag)] rfl rfl rfl rfl rfl (slo':=TK [.int N']) ?_ rfl
   generalize l.map bH=Q at *
   simp only [ft,GX,GW,bv,aV,al,av,IB,aX,e,aP,aB,ak,cu,a0,aZ,aq,bw,bx,be,bJ,bQ]
 have i0:br (.rng 0 0)=some []:=rfl
 have i1:br (.rng 0 1)=some [.int 0]:=rfl
 have i2:br (.rng 0 2)=some [.int 0,.int 1]:=rfl
 have cp:c9 [some (V.slot .bag)] [0]=some [some (.slot .bag)]:=rfl
 rcases IH N with h | h | h
 · rw [h] at t
   exact ⟨[],N.fdiv 3,by simp,by simp,go [] (N.fdiv 3) (by simp only [ju,al,av,g1,aX,jZ,ag,af,ax,ah,az,aP,aB,ak,t,cu,a0,aZ,aq,bw,bx,d8,be,aY,au,i0,cp,compLoop,List.map])⟩
 · rw [h] at t
   obtain ⟨a,N1,ha,ea⟩:=yF (d:=d+12) (by omega) (N.fdiv 3)
   exact ⟨[a],N1,by simp,by simp [ha],go [a] N1 (by simp only [ju,al,av,g1,aX,jZ,ag,af,ax,ah,az,aP,aB,ak,t,cu,a0,aZ,aq,bw,bx,d8,be,aY,au,i1,cp,compLoop,fR,List.cons_append,List.nil_append,aU,aT,AK,ea,List.map])⟩
 · rw [h] at t
   obtain ⟨a,N1,ha,ea⟩:=yF (d:=d+12) (by omega) (N.fdiv 3)
   obtain ⟨b,N2,hb,eb⟩:=yF (d:=d+12) (by omega) N1
   exact ⟨[a,b],N2,by simp,by simp [ha,hb],go [a,b] N2 (by simp only [ju,al,av,g1,aX,jZ,ag,af,ax,ah,az,aP,aB,ak,t,cu,a0,aZ,aq,bw,bx,d8,be,aY,au,i2,cp,compLoop,fR,List.cons_append,List.nil_append,aU,aT,AK,ea,eb,List.map])⟩
noncomputable def R0 (first:List cL):List mM:=match first with | []=>[] | _::_=>[([],[],first)]
noncomputable def fF (acc:List W) (sec:Tx) (x3 x4:Option V):List (Option V):=[some (.slot .bag),some (.own acc),some (.w (.str sec)),x3,x4]
theorem Bd (hd:20<=d) (N:Int) (acc:List W) (sec:Tx) (x3 x4:Option V) (hn:acc.length+1 < 16777216) :
   ∃ (b:fE) (N':Int),eF b/\aL ac (aa ac d) (.cons (.ifs (.cmp false (.call false (.glo 101) (.cons (.var 0) (.cons (.cst (.int 3)) .nil))) .Eq (.cst (.int 0))) (.cons (.asg 2 (.sub false (.lst (.cons (.cst (.str [83,45,65])) (.cons (.cst (.str [77,65,73,78,45,76,73,78,69])) .nil))) (.call false (.glo 101) (.cons (.var 0) (.cons (.cst (.int 2)) .nil))))) (.cons (.app 1 (.call false (.glo 92) (.cons (.cst (.str [])) (.cons (.var 2) (.cons (.call false (.glo 103) (.cons (.var 0) .nil)) .nil))))) .nil)) (.cons (.app 1 (.call false (.glo 92) (.cons (.sub false (.lst (.cons (.cst (.str [80,45,49])) (.cons (.cst (.str [76,65,83,84])) (.cons (.cst (.str [88])) .nil)))) (.call false (.glo 101) (.cons (.var 0) (.cons (.cst (.int 3)) .nil)))) (.cons (.var 2) (.cons (.call false (.glo 103) (.cons (.var 0) .nil)) .nil))))) .nil)) .nil) ⟨fF acc sec x3 x4,TK [.int N]⟩=some (.next,⟨fF (acc++[aG (b.it.nm,b.it.sc sec,b.sts)]) (b.it.sc sec) x3 x4,TK [.int N']⟩):=by
 obtain ⟨d,rfl⟩:=Rj hd
 have t:=λ loc=>Fy (n:=d+17) (loc:=loc) (N:=N)
 have gr: ∀ r:W,Nat.blt (acc.length+[r].length) cw=true:=λ r=>Rp (by have:=kJ;simp;lia)
 have m:=λ loc a b c N=>yw (d:=d+20) (loc:=loc) (by omega) (Cl.list (l:=[W.int N])) Cl.absent Cl.absent Cl.absent (a:=a) (b:=b) (c:=c)
 have z0:((0:Int)==0)=true:=rfl
 have z1:((1:Int)==0)=false:=rfl
 have z2:((2:Int)==0)=false:=rfl
 have par:(N.fmod 3==0)=false-> ∃ (b:fE) (N':Int),eF b/\aL ac (aa ac (d+20)) (.cons (.ifs (.cmp false (.call false (.glo 101) (.cons (.var 0) (.cons (.cst (.int 3)) .nil))) .Eq (.cst (.int 0))) (.cons (.asg 2 (.sub false (.lst (.cons (.cst (.str [83,45,65])) (.cons (.cst (.str [77,65,73,78,45,76,73,78,69])) .nil))) (.call false (.glo 101) (.cons (.var 0) (.cons (.cst (.int 2)) .nil))))) (.cons (.app 1 (.call false (.glo 92) (.cons (.cst (.str [])) (.cons (.var 2) (.cons (.call false (.glo 103) (.cons (.var 0) .nil)) .nil))))) .nil)) (.cons (.app 1 (.call false (.glo 92) (.cons (.sub false (.lst (.cons (.cst (.str [80,45,49])) (.cons (.cst (.str [76,65,83,84])) (.cons (.cst (.str [88])) .nil)))) (.call false (.glo 101) (.cons (.var 0) (.cons (.cst (.int 3)) .nil)))) (.cons (.var 2) (.cons (.call false (.glo 103) (.cons (.var 0) .nil)) .nil))))) .nil)) .nil) ⟨fF acc sec x3 x4,TK [.int N]⟩=some (.next,⟨fF (acc++[aG (b.it.nm,b.it.sc sec,b.sts)]) (b.it.sc sec) x3 x4,TK [.int N']⟩):=λ hz=>by
   have t2:=λ loc=>Fy (n:=d+17) (loc:=loc) (N:=N.fdiv 3)
   obtain ⟨l,N',h1,h2,e⟩:=E5 (d:=d+20) (by omega) ((N.fdiv 3).fdiv 3)
   obtain ⟨i,hi,hs⟩: ∃ i:dR,i.isSec=false/\dz (.lst [.str [80,45,49],.str [76,65,83,84],.str [88]]) (.int ((N.fdiv 3).fmod 3))=some (.str i.name):=by
     rcases IH (N.fdiv 3) with h | h | h
     · exact ⟨.p1,rfl,by rw [h];rfl⟩
     · exact ⟨.p2,rfl,by rw [h];rfl⟩
     · exact ⟨.p3,rfl,by rw [h];rfl⟩
   refine ⟨⟨i,l⟩,N',⟨h1,h2⟩,?_⟩
   have en:i.nm=i.name:=by unfold dR.nm;rw [hi];rfl
   have es:i.sc sec=sec:=by unfold dR.sc;rw [hi];rfl
   dsimp only
   rw [en,es]
   unfold TK at *
   unfold fF aG
   simp only [bv,bB,aI,al,av,jZ,aX,ag,af,ax,ah,az,aP,aB,ak,t,au,aq,aJ,ce,a7,dj,hN,Bool.and_self,iI,hz,aU,aT,jW,dH,cK,aM,IC,bc,cV,aZ,t2,bq,hs,EI,e,m,iF,dB,fD,gK,gr,aj,cJ]
 rcases IH N with h | h | h
 · rw [h] at t
   have t2:=λ loc=>II (n:=d+17) (loc:=loc) (N:=N.fdiv 3)
   obtain ⟨l,N',h1,h2,e⟩:=E5 (d:=d+20) (by omega) ((N.fdiv 3).fdiv 2)
   obtain ⟨i,hi,hs⟩: ∃ i:dR,i.isSec=true/\dz (.lst [.str [83,45,65],.str [77,65,73,78,45,76,73,78,69]]) (.int ((N.fdiv 3).fmod 2))=some (.str i.name):=by
     rcases IG (N.fdiv 3) with h | h
     · exact ⟨.s1,rfl,by rw [h];rfl⟩
     · exact ⟨.s2,rfl,by rw [h];rfl⟩
   refine ⟨⟨i,l⟩,N',⟨h1,h2⟩,?_⟩
   have en:i.nm=[]:=by unfold dR.nm;rw [hi];rfl
   have es:i.sc sec=i.name:=by unfold dR.sc;rw [hi];rfl
   dsimp only
   rw [en,es]
   unfold TK at *
   unfold fF aG
   simp only [bv,bB,aI,al,av,jZ,aX,ag,af,ax,ah,az,aP,aB,ak,t,au,aq,aJ,ce,a7,dj,hN,Bool.and_self,iI,z0,aU,aT,aW,bc,cV,aZ,t2,bq,hs,aj,aM,jW,dH,cK,IC,EI,e,m,iF,dB,fD,gK,gr,cJ]
 · exact par (by rw [h];rfl)
 · exact par (by rw [h];rfl)
theorem tH (hd:20<=d) {x3:Option V}: ∀ (its:List W) (N:Int) (acc:List W) (sec:Tx) (x4:Option V),acc.length+its.length < 16777216 ->
   ∃ (bs:List fE) (N':Int) (sec':Tx) (x4':Option V),bs.length=its.length/\(∀ b ∈ bs,eF b)/\bV 4 (λ s=>aL ac (aa ac d) (.cons (.ifs (.cmp false (.call false (.glo 101) (.cons (.var 0) (.cons (.cst (.int 3)) .nil))) .Eq (.cst (.int 0))) (.cons (.asg 2 (.sub false (.lst (.cons (.cst (.str [83,45,65])) (.cons (.cst (.str [77,65,73,78,45,76,73,78,69])) .nil))) (.call false (.glo 101) (.cons (.var 0) (.cons (.cst (.int 2)) .nil))))) (.cons (.app 1 (.call false (.glo 92) (.cons (.cst (.str [])) (.cons (.var 2) (.cons (.call false (.glo 103) (.cons (.var 0) .nil)) .nil))))) .nil)) (.cons (.app 1 (.call false (.glo 92) (.cons (.sub false (.lst (.cons (.cst (.str [80,45,49])) (.cons (.cst (.str [76,65,83,84])) (.cons (.cst (.str [88])) .nil)))) (.call false (.glo 101) (.cons (.var 0) (.cons (.cst (.int 3)) .nil)))) (.cons (.var 2) (.cons (.call false (.glo 103) (.cons (.var 0) .nil)) .nil))))) .nil)) .nil) s) its ⟨fF acc sec x3 x4,TK [.int N]⟩=some (.next,⟨fF (acc++(bS sec bs).map aG) sec' x3 x4',TK [.int N']⟩)
 | [],N,acc,sec,x4,_=>⟨[],N,sec,x4,rfl,by simp,by simp [bV,bS]⟩
 | i::its,N,acc,sec,x4,hn=>by
   simp only [List.length_cons] at hn
   obtain ⟨b,N1,hb,e⟩:=Bd hd N acc sec x3 (some (.w i)) (by omega)
   obtain ⟨bs,N',sec',x4',h1,h2,e2⟩:=tH hd (x3:=x3) its N1 (acc++[aG (b.it.nm,b.it.sc sec,b.sts)]) (b.it.sc sec) (some (.w i)) (by simp;lia)
   refine ⟨b::bs,N',sec',x4',by simp [h1],λ y hy=> ?_,de (.inl e) (e2.trans ?_)⟩
   · rcases List.mem_cons.mp hy with rfl | hy
     · exact hb
     · exact h2 y hy
   · simp [bS]
theorem KN (hd:21<=d) (N:Int): ∃ (first:List cL) (bs:List fE) (N':Int),first.length<=2/\(∀ st ∈ first,dw st)/\bs.length<=3/\(∀ b ∈ bs,eF b) /\
   ∀ loc,aa ac d (.w (.fn 109)) [.slot .bag] ⟨loc,TK [.int N]⟩=some (.w (.lst ((aA first bs).map aG)),⟨loc,TK [.int N']⟩):=by
 obtain ⟨d,rfl⟩:=Rj hd
 obtain ⟨first,N1,hf,hfo,e1⟩:=E5 (d:=d+20) (by omega) N
 have t:=λ loc=>KM (n:=d+17) (loc:=loc) (N:=N1)
 obtain ⟨k,hk,hk2⟩: ∃ k:Nat,k<=3/\N1.fmod 4=(k:Int):=by
   rcases Rb N1 with h | h | h | h
   · exact ⟨0,by omega,h⟩
   · exact ⟨1,by omega,h⟩
   · exact ⟨2,by omega,h⟩
   · exact ⟨3,by omega,h⟩
 rw [hk2] at t
 have its:=ir (n:=k) (by omega)
 obtain ⟨bs,N',sec',x4',h1,h2,e2⟩:=tH (d:=d+20) (by omega) (x3:=some (.w (.tup (first.map bH)))) ((List.range k).map λ (j:Nat)=>W.int (j:Int)) (N1.fdiv 4) ((R0 first).map aG) [] none (by
   have:((R0 first).map aG).length<=1:=by cases first<;>simp [R0]
   rw [List.length_map] at this
   rw [List.length_map,List.length_map,List.length_range];lia)
 refine ⟨first,bs,N',hf,hfo,by simpa [h1] using hk,h2,λ loc=> ?_⟩
 have hall:(R0 first).map aG++(bS [] bs).map aG=(aA first bs).map aG:=by rw [<- List.map_append];cases first<;>rfl
 rw [hall] at e2
 have s0:bn ac (aa ac (d+20)) (.asgS 1 2 (.lst .nil) (.cst (.str []))) ⟨[some (.slot .bag),none,none,none,none],TK [.int N]⟩=some (.next,⟨fF [] [] none none,TK [.int N]⟩):=by
   unfold fF;simp only [Aw,cV,aP,aZ,az,aj,aM]
 have s1:bn ac (aa ac (d+20)) (.asg 3 (.call false (.glo 103) (.cons (.var 0) .nil))) ⟨fF [] [] none none,TK [.int N]⟩=some (.next,⟨fF [] [] (some (.w (.tup (first.map bH)))) none,TK [.int N1]⟩):=by
   unfold fF
   generalize first.map bH=Q at *
   simp only [aW,al,av,EI,aX,ag,af,ax,ah,aP,aB,ak,e1,aj,aM]
 have pl:aC 40 (.tup (first.map bH))=true:=by
   show aS 39 (first.map bH)=true
   exact eZ λ x hx=>by have:=hfo x hx;unfold dw at this;lia
 have pl0:aC 40 (.tup [])=true:=rfl
 have s2:bn ac (aa ac (d+20)) (.ifs (.cmp false (.var 3) .NotEq (.tup .nil)) (.cons (.app 1 (.call false (.glo 92) (.cons (.cst (.str [])) (.cons (.cst (.str [])) (.cons (.var 3) .nil))))) .nil) .nil) ⟨fF [] [] (some (.w (.tup (first.map bH)))) none,TK [.int N1]⟩=some (.next,⟨fF ((R0 first).map aG) [] (some (.w (.tup (first.map bH)))) none,TK [.int N1]⟩):=by
   cases first with
   | nil =>
     have eq0:gE (.tup []) (.tup [])=true:=rfl
     unfold fF
     simp only [List.map,bB,aI,ag,af,ax,ah,au,aq,bR,aP,aZ,aJ,ce,a7,dj,pl0,Bool.and_self,eq0,eU,Bool.not_true,aU,aT,cJ]
     rfl
   | cons st l =>
     have eq0:gE (.tup ((st::l).map bH)) (.tup [])=false:=rfl
     have m:=λ loc=>yw (d:=d+20) (loc:=loc) (by omega) (Cl.list (l:=[W.int N1])) Cl.absent Cl.absent Cl.absent (a:= .str []) (b:= .str []) (c:= .tup ((st::l).map bH))
     have gr: ∀ r:W,Nat.blt (([]:List W).length+[r].length) cw=true:=λ r=>rfl
     have er:(R0 (st::l)).map aG=[.inst 3 [(10,.str []),(11,.str []),(12,.tup ((st::l).map bH))]]:=rfl
     rw [er]
     generalize (st::l).map bH=Q at *
     unfold TK at *
     unfold fF
     simp only [bB,aI,ag,af,ax,ah,au,aq,bR,aP,aZ,aJ,ce,a7,dj,pl,pl0,Bool.and_self,eq0,eU,Bool.not_false,aU,aT,bv,jW,dH,cK,aM,al,av,IC,aX,az,aB,ak,m,iF,dB,fD,gK,gr,List.nil_append,aj,cJ]
 have s3:bn ac (aa ac (d+20)) (.for_ 0 4 (.call false (.glo 1) (.cons (.call false (.glo 101) (.cons (.var 0) (.cons (.cst (.int 4)) .nil))) .nil)) (.cons (.ifs (.cmp false (.call false (.glo 101) (.cons (.var 0) (.cons (.cst (.int 3)) .nil))) .Eq (.cst (.int 0))) (.cons (.asg 2 (.sub false (.lst (.cons (.cst (.str [83,45,65])) (.cons (.cst (.str [77,65,73,78,45,76,73,78,69])) .nil))) (.call false (.glo 101) (.cons (.var 0) (.cons (.cst (.int 2)) .nil))))) (.cons (.app 1 (.call false (.glo 92) (.cons (.cst (.str [])) (.cons (.var 2) (.cons (.call false (.glo 103) (.cons (.var 0) .nil)) .nil))))) .nil)) (.cons (.app 1 (.call false (.glo 92) (.cons (.sub false (.lst (.cons (.cst (.str [80,45,49])) (.cons (.cst (.str [76,65,83,84])) (.cons (.cst (.str [88])) .nil)))) (.call false (.glo 101) (.cons (.var 0) (.cons (.cst (.int 3)) .nil)))) (.cons (.var 2) (.cons (.call false (.glo 103) (.cons (.var 0) .nil)) .nil))))) .nil)) .nil)) ⟨fF ((R0 first).map aG) [] (some (.w (.tup (first.map bH)))) none,TK [.int N1]⟩=some (.next,⟨fF ((aA first bs).map aG) sec' (some (.w (.tup (first.map bH)))) x4',TK [.int N']⟩):=by
   rw [fq]
   generalize first.map bH=Q at *
   generalize (R0 first).map aG=Q2 at *
   unfold fF at *
   simp only [al,av,g1,aX,jZ,ag,af,ax,ah,az,aP,aB,ak,t,cu,a0,aZ,aq,bw,bx,d8,be,aY,au,its,bv,bB,aI,aj,aJ,ce,a7,dj,hN,aU,aT,aW,bc,cV,bq,jW,dH,cK,eh,cR,bj,eA,gy,hK,bJ,ci,bQ,i4,ky,i5,cJ]
   exact e2
 have hr:aL ac (aa ac (d+20)) Eo ⟨[some (.slot .bag),none,none,none,none],TK [.int N]⟩=some (.ret (.w (.lst ((aA first bs).map aG))),⟨[some (.slot .bag),some (.w (.lst ((aA first bs).map aG))),some (.w (.str sec')),some (.w (.tup (first.map bH))),x4'],TK [.int N']⟩):=by
   unfold Eo
   refine cy s0 (cy s1 (cy s2 (cy s3 (jz ?_))))
   generalize first.map bH=Q at *
   generalize (aA first bs).map aG=Q2 at *
   unfold fF
   simp only [aV,ag,af,ax,ah,aj,aM]
 exact ao (d:=d+20) (i:=109) [some (.slot .bag),none,none,none,none] rfl rfl rfl rfl rfl (slo':=TK [.int N']) (eY hr) rfl
end
end
section
section
variable {n d:Nat}{loc:List (Option V)}{N:Int}{sl:ab}
noncomputable def hY:Int:=10 ^ 80
theorem KO:iL .Pow (.int 10) (.int 80)=some (.int hY):=by kernel_rfl
theorem HQ:iL .Pow (.int 10) (.int 60)=some (.int (10 ^ 60)):=by kernel_rfl
theorem KP:iL .Pow (.int 10) (.int 69)=some (.int (10 ^ 69)):=by kernel_rfl
theorem KQ {x:Int}:iL .Mult (.int x) (.int 1000003)=some (.int (x * 1000003)):=by kernel_rfl
theorem KR {x:Int}:iL .Mod (.int x) (.int hY)=some (.int (x.fmod hY)):=by kernel_rfl
theorem KS:iL .FloorDiv (.int (10 ^ 69)) (.int 17)=some (.int (Int.fdiv (10 ^ 69) 17)):=by kernel_rfl
theorem Be:0 < hY:=by decide +kernel
theorem KT {x:Int}(h0:0<=x) (h:x<=10 ^ 60):iL .Pow (.int x) (.int 6)=some (.int (x ^ 6)):=by
 have e1:decide ((0:Int)<=6)=true:=rfl
 have e2:Nat.ble (Builtin.Int.intBits x * (6:Int).toNat) 134217728=true:=by
   refine Rp ?_
   have hb:Builtin.Int.intBits x<=240:=by
     unfold Builtin.Int.intBits
     split
     · lia
     · rename_i hx
       have hx:x≠0:=by intro q;rw [q] at hx;exact hx rfl
       have hx0:x.natAbs≠0:=by omega
       have:x.natAbs.log2 < 239:=(Nat.log2_lt hx0).mpr (by
         have h1:x.natAbs<=10 ^ 60:=by
           have:((10:Int) ^ 60)=((10 ^ 60:Nat):Int):=by norm_cast
           lia
         exact Rt h1 (by decide))
       lia
   have:(6:Int).toNat=6:=rfl
   rw [this]
   lia
 show vy x 6=_
 simp only [xK,e1,e2,Bool.and_self]
 rfl
noncomputable def yG (l:List Int) (N:Int):Int:=l.foldl (λ N c=>N * 1000003+c.fmod hY) N
theorem tI: ∀ (l:List Int) (N:Int),0<=N->0<=yG l N
 | [],N,h=>h
 | c::l,N,h=>by
   have h2:0<=c.fmod hY:=Int.fmod_nonneg_of_pos _ Be
   exact tI l (N * 1000003+c.fmod hY) (by omega)
theorem mS {cf:bP}{s:St}{op:Operator}{e e':E}{x y z:W}(h:am ac cf e s=some (.w x,s)) (h':am ac cf e' s=some (.w y,s)) (hb:iL op x y=some z) (hl:tT op x y=none):am ac cf (.bin false op e e') s=some (.w z,s):=by
 rw [bX]
 simp only [au,h,h',aq,hb,hl]
theorem mI {cf:bP}{s:St}{w:W}:am ac cf (.cst w) s=some (.w w,s):=rfl
theorem Bf {sc:V}{c:Int}:aL ac (aa ac d) (.cons (.asg 1 (.bin false .Add (.bin false .Mult (.var 1) (.cst (.int 1000003))) (.bin false .Mod (.var 2) (.bin false .Pow (.cst (.int 10)) (.cst (.int 80)))))) .nil) ⟨[some sc,some (.w (.int N)),some (.w (.int c))],sl⟩=some (.next,⟨[some sc,some (.w (.int (N * 1000003+c.fmod hY))),some (.w (.int c))],sl⟩):=by
 refine cy (s':=⟨[some sc,some (.w (.int (N * 1000003+c.fmod hY))),some (.w (.int c))],sl⟩) ?_ (by simp only [cJ,bv])
 have e1: ∀ s:St,s=⟨[some sc,some (.w (.int N)),some (.w (.int c))],sl⟩->am ac (aa ac d) (.var 1) s=some (.w (.int N),s):=λ s h=>by subst h;simp only [ag,af,ax,ah]
 have e2: ∀ s:St,s=⟨[some sc,some (.w (.int N)),some (.w (.int c))],sl⟩->am ac (aa ac d) (.var 2) s=some (.w (.int c),s):=λ s h=>by subst h;simp only [ag,af,ax,ah]
 rw [aW,mS (z:= .int (N * 1000003+c.fmod hY)) (mS (e1 _ rfl) mI KQ rfl) (mS (e2 _ rfl) (mS mI mI KO rfl) KR rfl) rfl rfl]
 simp only [aj,aM]
theorem tJ {sc:V}: ∀ (l:List Int) (N:Int) (x:Option V),∃ x',bV 2 (λ s=>aL ac (aa ac d) (.cons (.asg 1 (.bin false .Add (.bin false .Mult (.var 1) (.cst (.int 1000003))) (.bin false .Mod (.var 2) (.bin false .Pow (.cst (.int 10)) (.cst (.int 80)))))) .nil) s) (l.map W.int) ⟨[some sc,some (.w (.int N)),x],sl⟩=some (.next,⟨[some sc,some (.w (.int (yG l N))),x'],sl⟩)
 | [],N,x=>⟨x,rfl⟩
 | c::l,N,x=>by
   obtain ⟨x',e⟩:=tJ (sc:=sc) l (N * 1000003+c.fmod hY) (some (.w (.int c)))
   exact ⟨x',de (.inl Bf) e⟩
theorem KU (hd:1<=d) (l:List Int): ∃ N,∀ loc sl,aa ac d (.w (.fn 106)) [.w (.lst (l.map W.int))] ⟨loc,sl⟩=some (.own [.int N],⟨loc,sl⟩):=by
 obtain ⟨d,rfl⟩:=Rj hd
 have h0:0<=yG (l.take 30) 31:=tI _ _ (by decide)
 have hcut: ∀ l:List Int,jF (.lst (l.map W.int)) .none (.int 30)=some ((l.take 30).map W.int):=λ l=>by
   show some (((l.map W.int).take 30).drop 0)=_
   rw [List.drop_zero,List.map_take]
 have lp:=λ (sl:ab)=>tJ (d:=d) (sl:=sl) (sc:= .w (.lst (l.map W.int))) (l.take 30) 31 none
 have s1: ∀ sl,∃ x',bn ac (aa ac d) (.for_ 0 2 (.slc false (.var 0) .no (.cst (.int 30))) (.cons (.asg 1 (.bin false .Add (.bin false .Mult (.var 1) (.cst (.int 1000003))) (.bin false .Mod (.var 2) (.bin false .Pow (.cst (.int 10)) (.cst (.int 80)))))) .nil)) ⟨[some (.w (.lst (l.map W.int))),some (.w (.int 31)),none],sl⟩=some (.next,⟨[some (.w (.lst (l.map W.int))),some (.w (.int (yG (l.take 30) 31))),x'],sl⟩):=λ sl=>by
   obtain ⟨x',e⟩:=lp sl
   refine ⟨x',?_⟩
   have hc:=hcut l
   generalize (l.take 30).map W.int=Q at *
   generalize l.map W.int=Q2 at *
   rw [fq]
   simp only [eS,ag,af,ax,ah,au,aq,sV,az,hc,br,bv,aW,bX,aj,cj,bQ,ck,oU,aY,D7,xK,D8,gk,a7,cJ]
   exact e
 generalize yG (l.take 30) 31=G at *
 have s2: ∃ N,∀ (sl:ab) (x':Option V),bn ac (aa ac d) (.ret (.lst (.cons (.ife (.cmp false (.var 1) .Gt (.bin false .Pow (.cst (.int 10)) (.cst (.int 60)))) (.var 1) (.bin false .Add (.bin false .Pow (.var 1) (.cst (.int 6))) (.bin false .FloorDiv (.bin false .Pow (.cst (.int 10)) (.cst (.int 69))) (.cst (.int 17))))) .nil))) ⟨[some (.w (.lst (l.map W.int))),some (.w (.int G)),x'],sl⟩=some (.ret (.own [.int N]),⟨[some (.w (.lst (l.map W.int))),some (.w (.int G)),x'],sl⟩):=by
   by_cases hG:(10:Int) ^ 60 < G
   · refine ⟨G,λ sl x'=> ?_⟩
     have e:decide ((10:Int) ^ 60 < G)=true:=decide_eq_true hG
     have p60: ∀ s:St,am ac (aa ac d) (.bin false .Pow (.cst (.int 10)) (.cst (.int 60))) s=some (.w (.int (10 ^ 60)),s):=λ s=>mS mI mI HQ rfl
     rw [aV,cV]
     simp only [aP,aX]
     rw [dq]
     have c1:am ac (aa ac d) (.cmp false (.var 1) .Gt (.bin false .Pow (.cst (.int 10)) (.cst (.int 60)))) ⟨[some (.w (.lst (l.map W.int))),some (.w (.int G)),x'],sl⟩=some (.w (.bool true),⟨[some (.w (.lst (l.map W.int))),some (.w (.int G)),x'],sl⟩):=by
       rw [aI]
       simp only [p60,ag,af,ah,au,fC,aY,ax,aq,aJ,e]
     simp only [c1,ag,aU,au,aT,af,ah,ax,aB,aZ,aq]
   · refine ⟨G ^ 6+Int.fdiv (10 ^ 69) 17,λ sl x'=> ?_⟩
     have e:decide ((10:Int) ^ 60 < G)=false:=decide_eq_false hG
     have p60: ∀ s:St,am ac (aa ac d) (.bin false .Pow (.cst (.int 10)) (.cst (.int 60))) s=some (.w (.int (10 ^ 60)),s):=λ s=>mS mI mI HQ rfl
     rw [aV,cV]
     simp only [aP,aX]
     rw [dq]
     have c1:am ac (aa ac d) (.cmp false (.var 1) .Gt (.bin false .Pow (.cst (.int 10)) (.cst (.int 60)))) ⟨[some (.w (.lst (l.map W.int))),some (.w (.int G)),x'],sl⟩=some (.w (.bool false),⟨[some (.w (.lst (l.map W.int))),some (.w (.int G)),x'],sl⟩):=by
       rw [aI]
       simp only [p60,ag,af,ah,au,fC,aY,ax,aq,aJ,e]
     have c2:am ac (aa ac d) (.bin false .Add (.bin false .Pow (.var 1) (.cst (.int 6))) (.bin false .FloorDiv (.bin false .Pow (.cst (.int 10)) (.cst (.int 69))) (.cst (.int 17)))) ⟨[some (.w (.lst (l.map W.int))),some (.w (.int G)),x'],sl⟩=some (.w (.int (G ^ 6+Int.fdiv (10 ^ 69) 17)),⟨[some (.w (.lst (l.map W.int))),some (.w (.int G)),x'],sl⟩):=by
       refine mS (x:= .int (G ^ 6)) (y:= .int (Int.fdiv (10 ^ 69) 17)) (mS (x:= .int G) (y:= .int 6) (by simp only [ag,af,ax,ah]) mI (KT h0 (by omega)) rfl) (mS (mS mI mI KP rfl) mI KS rfl) ?_ rfl
       simp only [ck,aY]
     simp only [c1,c2,aU,au,aT,aB,aZ,aq]
 obtain ⟨N,s2⟩:=s2
 refine ⟨N,λ loc sl=> ?_⟩
 obtain ⟨x',s1⟩:=s1 sl
 have hr:aL ac (aa ac d) En ⟨[some (.w (.lst (l.map W.int))),none,none],sl⟩=some (.ret (.own [.int N]),⟨[some (.w (.lst (l.map W.int))),some (.w (.int G)),x'],sl⟩):=by
   unfold En
   exact cy (s':=⟨[some (.w (.lst (l.map W.int))),some (.w (.int 31)),none],sl⟩) rfl (cy s1 (jz (s2 sl x')))
 exact ao (d:=d) (i:=106) [some (.w (.lst (l.map W.int))),none,none] rfl rfl rfl rfl rfl (slo':=sl) (eY hr) rfl
end
end
section
section
variable {n d:Nat}{loc:List (Option V)}{N:Int}{sl:ab}{bl:List W}{sc:W}
noncomputable def q0:W:=gD .g2
noncomputable def fb:W:= .tup [j0,hO true,.tup [gD .g2],.tup [gD .ex]]
noncomputable def dT:List W:=[.inst 3 [(10,.str []),(11,.str []),(12,.tup [gD .st])],.inst 3 [(10,.str []),(11,.str Cb),(12,.tup [])],.inst 3 [(10,.str nI),(11,.str Cb),(12,.tup [fb,gD .xp])]]
noncomputable def fJ:W:= .str [80,82,79,67,69,68,85,82,69,32,68,73,86,73,83,73,79,78,32,85,83,73,78,71,32,65,82,71,32,46,32,83,84,79,80,32,82,85,78,32,46,32,83,45,65,32,83,69,67,84,73,79,78,32,46,32,76,65,83,84,32,46,32,73,70,32,73,83,45,79,78,32,84,72,69,78,32,71,79,32,84,79,32,76,65,83,84,32,79,70,32,83,45,65,32,69,76,83,69,32,69,88,73,84,32,69,78,68,45,73,70,32,46,32,69,88,73,84,32,80,82,79,71,82,65,77,32,46]
noncomputable def S0:ab:=⟨.absent,.absent,.absent,.absent,.absent⟩
theorem p0:bn ac (aa ac (n+204)) (.asg 1 (.tup (.cons (.cst (.str [103,111,116,111])) (.cons (.tup (.cons (.cst (.str [76,65,83,84])) (.cons (.cst (.str [83,45,65])) .nil))) .nil)))) ⟨[some (.w sc),none,none,none,none,none,none],S0⟩=some (.next,⟨[some (.w sc),some (.w q0),none,none,none,none,none],S0⟩):=by kernel_rfl
theorem p1:bn ac (aa ac (n+204)) (.asg 2 (.tup (.cons (.cst (.str [105,102])) (.cons (.tup (.cons (.cst (.str [110,97,109,101,100])) (.cons (.tup (.cons (.cst (.str [114,101,102])) (.cons (.cst (.str [73,83,45,79,78])) (.cons (.tup .nil) (.cons (.tup .nil) (.cons (.cst (.none)) .nil)))))) .nil))) (.cons (.tup (.cons (.var 1) .nil)) (.cons (.tup (.cons (.tup (.cons (.cst (.str [101,120,105,116])) .nil)) .nil)) .nil)))))) ⟨[some (.w sc),some (.w q0),none,none,none,none,none],S0⟩=some (.next,⟨[some (.w sc),some (.w q0),some (.w fb),none,none,none,none],S0⟩):=by kernel_rfl
theorem p2:bn ac (aa ac (n+204)) (.asg 3 (.lst (.cons (.call false (.glo 92) (.cons (.cst (.str [])) (.cons (.cst (.str [])) (.cons (.tup (.cons (.tup (.cons (.cst (.str [115,116,111,112])) .nil)) .nil)) .nil)))) (.cons (.call false (.glo 92) (.cons (.cst (.str [])) (.cons (.cst (.str [83,45,65])) (.cons (.tup .nil) .nil)))) (.cons (.call false (.glo 92) (.cons (.cst (.str [76,65,83,84])) (.cons (.cst (.str [83,45,65])) (.cons (.tup (.cons (.var 2) (.cons (.tup (.cons (.cst (.str [101,120,105,116,45,112,114,111,103,114,97,109])) .nil)) .nil))) .nil)))) .nil))))) ⟨[some (.w sc),some (.w q0),some (.w fb),none,none,none,none],S0⟩=some (.next,⟨[some (.w sc),some (.w q0),some (.w fb),some (.own dT),none,none,none],S0⟩):=by kernel_rfl
theorem p3:bn ac (aa ac (n+204)) (.asg 4 (.bmeth false .join (.cst (.str [32])) (.cons (.comp 0 (.att (.var 0) 3) false (.call false (.glo 109) (.cons (.call false (.glo 93) (.cons (.var 3) (.cons (.tup (.cons (.cst (.str [65,82,71])) .nil)) .nil))) .nil)) false .no []) .nil))) ⟨[some (.w sc),some (.w q0),some (.w fb),some (.own dT),none,none,none],S0⟩=some (.next,⟨[some (.w sc),some (.w q0),some (.w fb),some (.w (.lst dT)),some (.w fJ),none,none],S0⟩):=by kernel_rfl
theorem p4:bn ac (aa ac (n+204)) (.ifs (.cmp false (.var 4) .NotEq (.cst (.str [80,82,79,67,69,68,85,82,69,32,68,73,86,73,83,73,79,78,32,85,83,73,78,71,32,65,82,71,32,46,32,83,84,79,80,32,82,85,78,32,46,32,83,45,65,32,83,69,67,84,73,79,78,32,46,32,76,65,83,84,32,46,32,73,70,32,73,83,45,79,78,32,84,72,69,78,32,71,79,32,84,79,32,76,65,83,84,32,79,70,32,83,45,65,32,69,76,83,69,32,69,88,73,84,32,69,78,68,45,73,70,32,46,32,69,88,73,84,32,80,82,79,71,82,65,77,32,46]))) (.cons .bad .nil) .nil) ⟨[some (.w sc),some (.w q0),some (.w fb),some (.w (.lst dT)),some (.w fJ),none,none],S0⟩=some (.next,⟨[some (.w sc),some (.w q0),some (.w fb),some (.w (.lst dT)),some (.w fJ),none,none],S0⟩):=by kernel_rfl
theorem E6:aa ac (n+204) (.w (.fn 112)) [.w (.inst 4 [(13,.lst dT),(14,.tup [])])] ⟨loc,TK bl⟩=some (.w (.bool true),⟨loc,TK bl⟩):=by kernel_rfl
theorem yH {bl:List W}:dl [.bag] (.w (.bool true)) (TK bl)=some S0:=rfl
theorem KV (l:List Int):aa ac (n+205) (.w (.fn 113)) [.w (.lst (l.map W.int))] ⟨loc,S0⟩=some (.w (.bool true),⟨loc,S0⟩):=by
 obtain ⟨N,e106⟩:=KU (d:=n+204) (by omega) l
 generalize hsc:W.lst (l.map W.int)=sc at *
 have t:=λ loc=>Fy (n:=n+201) (loc:=loc) (N:=N)
 obtain ⟨u,hu⟩: ∃ u:Us,vE (.tup [.str [65,82,71],.str [82,69,83,84]]) .none (.int (N.fmod 3))=some (.tup (mN u)):=by
   rcases IH N with h | h | h
   · exact ⟨.u0,by rw [h];rfl⟩
   · exact ⟨.u1,by rw [h];rfl⟩
   · exact ⟨.u2,by rw [h];rfl⟩
 have hu0:jF (.tup [.str [65,82,71],.str [82,69,83,84]]) .none (.int (N.fmod 3))=none:=rfl
 obtain ⟨first,bs,N2,hf,hfo,hbl,hb,e109⟩:=KN (d:=n+204) (by omega) (N.fdiv 3)
 have ht:dg bs < 50000:=by
   have: ∀ bs:List fE,(∀ b ∈ bs,eF b)->dg bs<=3 * bs.length:=by
     intro bs
     induction bs with
     | nil=>intro _;exact Nat.zero_le _
     | cons b bs ih =>
       intro h
       have h1:=ih λ x hx=>h x (Rk _ hx)
       have h2:=(h b List.mem_cons_self).len
       simp only [dg,List.length_cons];lia
   have:=this bs hb;lia
 have e112:=λ loc=>KL (d:=n+204) (loc:=loc) (bl:=[.int N2]) (by omega) u hf hfo hb (by omega) ht
 have e0:=λ loc=>E6 (n:=n) (loc:=loc) (bl:=[.int (N.fdiv 3)])
 have m0:=λ loc=>yx (d:=n+204) (loc:=loc) (by omega) (Cl.list (l:=[W.int (N.fdiv 3)])) Cl.absent Cl.absent Cl.absent (a:= .lst dT) (b:= .tup [])
 have m1:=λ loc=>yx (d:=n+204) (loc:=loc) (by omega) (Cl.list (l:=[W.int N2])) Cl.absent Cl.absent Cl.absent (a:= .lst ((aA first bs).map aG)) (b:= .tup (mN u))
 unfold dY at e112
 generalize (aA first bs).map aG=RW at *
 have p5:bn ac (aa ac (n+204)) (.asgN 5 .bag (.call false (.glo 114) (.cons (.var 0) .nil))) ⟨[some (.w sc),some (.w q0),some (.w fb),some (.w (.lst dT)),some (.w fJ),none,none],S0⟩=some (.next,⟨[some (.w sc),some (.w q0),some (.w fb),some (.w (.lst dT)),some (.w fJ),some (.slot .bag),none],TK [.int N]⟩):=by
   unfold S0 TK
   simp only [sY,al,av,Km,aX,ag,af,ax,ah,aP,aB,ak,e106,dH,bj,im,gm,cA,aj,aM]
 have p6:bn ac (aa ac (n+204)) (.asg 6 (.slc false (.tup (.cons (.cst (.str [65,82,71])) (.cons (.cst (.str [82,69,83,84])) .nil))) .no (.call false (.glo 101) (.cons (.var 5) (.cons (.cst (.int 3)) .nil))))) ⟨[some (.w sc),some (.w q0),some (.w fb),some (.w (.lst dT)),some (.w fJ),some (.slot .bag),none],TK [.int N]⟩=some (.next,⟨[some (.w sc),some (.w q0),some (.w fb),some (.w (.lst dT)),some (.w fJ),some (.slot .bag),some (.w (.tup (mN u)))],TK [.int (N.fdiv 3)]⟩):=by
   simp only [aW,eS,bR,aX,az,aP,aB,aZ,aq,au,sV,al,av,jZ,ag,af,ax,ah,ak,t,hu0,hu,aj,aM]
 have p7:bn ac (aa ac (n+204)) (.ret (.bop true (.cons (.call false (.glo 115) (.cons (.call false (.glo 93) (.cons (.var 3) (.cons (.tup .nil) .nil))) .nil)) (.cons (.call false (.glo 115) (.cons (.call false (.glo 93) (.cons (.call false (.glo 116) (.cons (.var 5) .nil)) (.cons (.var 6) .nil))) .nil)) .nil)))) ⟨[some (.w sc),some (.w q0),some (.w fb),some (.w (.lst dT)),some (.w fJ),some (.slot .bag),some (.w (.tup (mN u)))],TK [.int (N.fdiv 3)]⟩=some (.ret (.w (.bool true)),⟨[some (.w sc),some (.w q0),some (.w fb),some (.w (.lst dT)),some (.w fJ),some (.slot .bag),some (.w (.tup (mN u)))],TK [.int N2]⟩):=by
   unfold TK at *
   simp only [aV,cI,nF,al,av,Kn,aX,Mk,ag,af,ax,ah,bR,aP,aZ,aB,ak,m0,e0,aU,au,aq,aT,B9,xH,Ko,e109,m1,e112]
 have hr:aL ac (aa ac (n+204)) Er ⟨[some (.w sc),none,none,none,none,none,none],S0⟩=some (.ret (.w (.bool true)),⟨[some (.w sc),some (.w q0),some (.w fb),some (.w (.lst dT)),some (.w fJ),some (.slot .bag),some (.w (.tup (mN u)))],TK [.int N2]⟩):=by
   unfold Er
   exact cy p0 (cy p1 (cy p2 (cy p3 (cy p4 (cy p5 (cy p6 (jz p7)))))))
 exact ao (d:=n+204) (i:=113) [some (.w sc),none,none,none,none,none,none] rfl rfl rfl rfl rfl (slo':=TK [.int N2]) (eY hr) yH
end
end
end Mine
end
section
open PySem PySem.W PySem.Calls PyProof.Rows
namespace Mine
noncomputable section
noncomputable abbrev nS:OpenRow:=PySem.Challenge.rw_pq0625_01.row
noncomputable def hE (w:World):Heap:=absHeap (MineH.T36 w.params) 1427 MineH.boot_life
theorem tK {P:Params}{a:Addr}{o:Obj}(h:jX P a=some o) {Q:Prop}(k: ∀ o',dC nH a=false->Nat.blt a 1427=true->(MineH.T36 P).get a=some o'->alive o'=some o->Q):Q:=by
 unfold jX at h
 cases e:dC nH a with
 | true=>rw [e] at h;exact nn h
 | false =>
   rw [e] at h
   cases e2:Nat.blt a 1427 with
   | false=>rw [e2] at h;exact nn h
   | true =>
     rw [e2] at h
     cases e3:(MineH.T36 P).get a with
     | none=>rw [e3] at h;exact nn h
     | some o'=>rw [e3] at h;exact k o' e e2 e3 h
theorem mJ (w:World) {a:Addr}{o:Obj}(h:(XX w).base a=some o):(hE w).get? a=some o :=
 tK h λ o' _ e2 e3 e4=>(abs_get (Rm e2) e3).trans e4
theorem Bg (w:World) {a:Addr}{o:Obj}(h:(XX w).base a=some o):dC nH a=false:=tK h λ o' e _ _ _=>e
theorem yI {P:Addr->Prop}(h: ∀ L ∈ Fr,P L.place): ∀ a ∈ nH,P a:=λ a ha=>(List.mem_map.mp (show a ∈ Fr.map (·.place) from ha)).elim λ L h'=>h'.2▸h L h'.1
theorem mK (w:World) (a:Addr) (h:a ∈ nH):(hE w).get? a=some { cls:= .none,data:= .fields #[] }:=by
 have t: ∀ a,Nat.blt a 1427=true->(MineH.T36 w.params).get a=some { cls:= .none,data:= .fields #[] }->(hE w).get? a=some { cls:= .none,data:= .fields #[] }:=λ a h e=>(abs_get (Rm h) e).trans rfl
 cases h with
 | head=>exact t _ rfl (by kernel_rfl)
 | tail _ h=>cases h with
   | head=>exact t _ rfl (by kernel_rfl)
   | tail _ h=>cases h with
     | head=>exact t _ rfl (by kernel_rfl)
     | tail _ h=>cases h
noncomputable def FF (h:Heap):PM:=λ b=>match dC nH b with | true=>none | false=>h.get? b
theorem E7 {h:Heap}{a:Addr}{o:Obj}(e:FF h a=some o):h.get? a=some o:=by
 unfold FF at e
 cases q:dC nH a with
 | true=>rw [q] at e;exact nn e
 | false=>rw [q] at e;exact e
theorem tL {h:Heap}{a:Addr}{o:Obj}(e:h.get? a=some o) (n:dC nH a=false):FF h a=some o:=by
 unfold FF;rw [n];exact e
noncomputable abbrev E8:List aK:=Fr.map λ L=>(L.place,nZ)
theorem Mu (F:PM): ∀ (l:List Lp),lD F l (l.map λ L=>(L.place,nZ))
 | []=>rfl
 | _::l=> .mk .empty (Mu F l)
theorem Rg (w:World) {h:Heap}(kb: ∀ b o,(hE w).get? b=some o->h.get? b=some o):HC (XX w) (cD (XX w)) (FF h) (λ _=>none) S0 [] h:=by
 refine ⟨E8,⟨[],E8,.mk (λ _=>[]) (λ k=>by cases k<;>exact .mk) rfl,Mu _ _,rfl⟩,⟨λ _ _ e=>E7 e,λ p hp=> ?_,λ a=> ?_⟩,λ a o e=>tL (kb _ _ (mJ w e)) (Bg w e)⟩
 · obtain ⟨L,hL,rfl⟩:=List.mem_map.mp (show p ∈ E8 by rwa [List.append_nil] at hp)
   have hpl:L.place ∈ nH:=show L.place ∈ Fr.map (·.place) from RA hL
   refine ⟨?_,_,kb _ _ (mK w _ hpl),rfl⟩
   have:dC nH L.place=true:=yI (P:=λ a=>dC nH a=true) (λ L hL=>List.all_eq_true.mp (show Fr.all (λ L=>dC nH L.place)=true from rfl) L hL) _ hpl
   show (match dC nH L.place with | true=>none | false=>h.get? L.place)=none
   rw [this]
 · show one a (473,_)+(one a (655,_)+(one a (1106,_)+0))<=1
   unfold one
   by_cases h1:(473:Nat)=a
   · subst h1;decide
   by_cases h2:(655:Nat)=a
   · subst h2;decide
   rw [if_neg h1,if_neg h2]
   split
   · exact Nat.le_refl 1
   · exact Nat.zero_le 1
theorem E9 (w:World) {h h':Heap}{F:PM}{r:PS}{s:ab}{R:List aK}(kb: ∀ b o,(hE w).get? b=some o->h.get? b=some o) (l:(FF h).le F) (H:HC (XX w) (cD (XX w)) F r s R h'):OldK h h':=by
 have pl: ∀ a ∈ nH,∃ more,h'.get? a=some { cls:= .none,data:= .fields more }:=yI λ L hL=>by
   obtain ⟨k,hk⟩:=List.mem_iff_getElem?.mp hL
   refine H.place (L:=L) (k:=k) hk λ p Z hp z _=> ?_
   cases hp with
   | empty=>obtain ⟨o,eo,po⟩:=cU.head z;exact ⟨_,(show o=_ from po)▸eo⟩
   | full c=>obtain ⟨o,eo,po⟩:=cU.head z;exact ⟨_,(show o=_ from po)▸eo⟩
 have ac: ∀ a ∈ nH,isCodeTable h a:=yI λ L hL=>by
   obtain ⟨o,vs,_,_,_,_,_,_,_,e1,e0,e2,e3,_⟩:=(xU w).lpc L hL
   exact ⟨L.code,o,vs,kb _ _ (mJ w e1),e0,e2,pZ e3⟩
 refine ⟨λ b o e=> ?_,λ b o e=> ?_⟩
 · cases hb:dC nH b with
   | true =>
     have hb:=io _ _ hb
     cases e.symm.trans (kb _ _ (mK w b hb))
     obtain ⟨more,em⟩:=pl b hb
     exact .inr (.inl ⟨ac b hb,rfl,#[],more,rfl,by rw [em,Array.empty_append]⟩)
   | false=>exact .inl (H.fro _ _ (l _ _ (tL e hb)))
 · cases hb:dC nH b with
   | true=>obtain ⟨more,em⟩:=pl b (io _ _ hb);exact ⟨_,em⟩
   | false=>exact ⟨o,H.fro _ _ (l _ _ (tL e hb))⟩
noncomputable abbrev u8 (ns:List Int):List WData:=[ofPy (PyData.list (ns.map PyData.int))]
theorem yJ (X:Cx) (F:PM) {R:WRecords}{cl:Str->Option Addr}{h:Heap}{ns:List Int}{vs:List Value}{as:List Addr}(r:ReadsAllW R cl h vs (ofPys (ns.map PyData.int)) as):cF X F vs (ns.map W.int):=by
 induction ns generalizing vs as with
 | nil=>exact (readsAllW_nil_inv r).1
 | cons n ns ih=>exact (readsAllW_cons_inv r).elim λ v z=>z.elim λ vs' z=>z.elim λ a1 z=>z.elim λ a2 z=>(readsW_int_inv z.2.2.1).elim λ t e=>z.1▸ .mk (e.1▸ .mk t) (ih z.2.2.2)
theorem qW {args:List WData}(h:nS.toRowW.claim.pre args=true): ∃ ns:List Int,args=u8 ns/\ns.length<=63:=by
 obtain ⟨h1,h2⟩:=pre_splitW (r:=nS.toRowW) h
 obtain ⟨d,r,e,h3,h4⟩:=hasAllW_cons h1
 subst e
 cases r with
 | cons d' r=>exact ff h4
 | nil =>
   obtain ⟨xs,e,h5⟩:=hasW_list (e:= .int) h3
   obtain ⟨ns,e'⟩:=items_int h5
   subst e
   subst e'
   refine ⟨ns,by rw [u8,ofPy,ofPys_eq,List.map_map];rfl,?_⟩
   have e:WTm.holds [] nS.pre { args:=[WData.list (ns.map .int)] }=WTm.holds [] (.and (.not (.lit (.bool (decide ((63:Int) < ((ns.map WData.int).length:Int)))))) (.lit (.bool true))) { args:=[WData.list (ns.map .int)] }:=by kernel_rfl
   have h2:=e.symm.trans h2
   rw [List.length_map] at h2
   cases q:decide ((63:Int) < (ns.length:Int)) with
   | true=>rw [q] at h2;exact ff (show false=true from h2)
   | false=>exact Int.ofNat_le.mp (Int.not_lt.mp (of_decide_eq_false q))
theorem yK (w:World) {s₁:Shared}{cl:Str->Option Addr}{mean:ExcName->Option Value}{args:List WData}{vs:List Value}{as:List Addr}(kb: ∀ b o,(hE w).get? b=some o->s₁.heap.get? b=some o) (hp:nS.toRowW.claim.pre args=true) (rd:ReadsAllW [] cl s₁.heap vs args as) (ht:0 < s₁.toks) (hg:s₁.gens= #[]) :
   wpAny (model MineH.pw w) callerA (PySem.call (.ref 1426) vs) (λ v s'=>GoodWG nS.toRowW.claim cl mean args s₁ (.ok (.ret v)) s') (λ e s'=>GoodWG nS.toRowW.claim cl mean args s₁ (.error e) s') s₁:=by
 obtain ⟨l,e,hl⟩:=qW hp
 subst e
 obtain ⟨v,vs',a1,a2,e,_,r1,r2⟩:=readsAllW_cons_inv rd
 cases (readsAllW_nil_inv r2).1
 obtain ⟨a,o,vs,n,ai,e',ho,hc,hd,hr,_⟩:=readsW_list_open r1
 subst e e'
 have t:=yJ (XX w) (FF s₁.heap) hr
 have np:dC nH a=false:=by
   cases hb:dC nH a with
   | false=>rfl
   | true =>
     exact absurd (hc.symm.trans (congrArg Obj.cls (sj (ho.symm.trans (kb _ _ (mK w _ (io _ _ hb))))))) (λ e=>nomatch e)
 have len:vs.toList.length<=cw:=by
   rw [t.length,List.length_map];exact Rl hl (Rm rfl)
 have V:i9 (XX w) (cD (XX w)) (FF s₁.heap) (λ _=>none) [.ref a] [.w (.lst (l.map W.int))]:= .cons (.w (.lst (tL ho np) hc (by rw [hd]) len t)) .nil
 have Vf:RV (XX w) (cD (XX w)) (FF s₁.heap) (λ _=>none) (.ref 1426) (.w (.fn 113)):= .w (.fn (X:=XX w) 113 G0 rfl)
 have K:=(Ke w 205 _ _ _ _ _ (KV (n:=0) (loc:=[]) l)).ok callerA (FF s₁.heap) (λ _=>none) [] s₁ (.ref 1426) [.ref a] ⟨rfl,by show 1+300+2 * 205 < 1000;decide,by show 4+40 * 205+90 < 9900;decide,ht⟩ (Rg w kb) Vf V
 refine wpAny_call (codeAny_mono K λ ft s' z=> ?_)
 cases z with | mk v e F1 r1 T l1 q1 H1 t1 m1=> ?_
 cases m1 with | mk' h' tk=> ?_
 cases (show v= .bool true by cases t1 with | mk a=>exact a)
 cases e
 exact ⟨.inl ⟨_,.bool true,[],rfl,λ _=>rfl,.bool _,by kernel_rfl,λ _=>⟨List.nodup_nil,λ _ h=>nomatch h⟩⟩,E9 w kb l1 H1,rfl,by show AllBare s₁.gens;rw [hg];exact AllBare.of_eq rfl⟩
end
noncomputable section
noncomputable abbrev q6:Program:=MineH.pw
noncomputable abbrev h0 (w:World):Heap:=boot_heap w.params
theorem yL:opening q6=plainProg q6.main.scope.names:=by kernel_rfl
theorem Fa:(λ s=>fenceModules? q6 s)=λ s=>some s:=by kernel_rfl
theorem HR:importedModules q6.main.body=[]:=by kernel_rfl
theorem HT (w:World):((h0 w).isNs mainGlobals&&(#[]:Array GenState).size==0,(h0 w).objs.size,(h0 w).nsMap mainGlobals "__annotations__")=(true,11,MineH.annT):=by kernel_rfl
theorem HU (w:World):staticsOk [] (h0 w) (hE w)=true:=by kernel_rfl
theorem KW (w:World):(hE w).accountedOkI []=true:=by kernel_rfl
theorem tM (w:World):(hE w).isNs mainGlobals=true:=by kernel_rfl
theorem HV (w:World):(hE w).isNs builtinsNs=true:=by kernel_rfl
theorem HW (w:World):(hE w).bltView=bltViewBooted:=by kernel_rfl
theorem HX (w:World):laidKept (h0 w) (hE w)=true:=by kernel_rfl
theorem KX (w:World):namesBound q6 (hE w)=true:=by kernel_rfl
end
noncomputable section
noncomputable def iK:Arguments×List Stmt×Scope:=match MineH.st 200 with | .FunctionDef _ a b _ _ _ sc _ _ _=>(a,b,sc) | _=>default
noncomputable def gB:FuncData:=MineH.fd (MineH.st 200) "law" 3 [] .none .none .none (MineH.vs "law_pq0625_01" 2214) none (.ref 1425) .none 0
theorem KY (w:World):(MineH.T36 w.params).get 1426=some ⟨.type "function",none,.func gB,#[]⟩:=by kernel_rfl
theorem HY (w:World):(hE w).nsMap mainGlobals "law" = some (.ref 1426):=by kernel_rfl
theorem KZ:q6.theDef "law" = some iK:=by kernel_rfl
theorem K0:(gB.name,gB.qualname,gB.params,gB.body,gB.scope)=(("law" : Str),("law" : Str),iK.1,.stmts iK.2.1,iK.2.2):=by kernel_rfl
theorem K1:(iK.1.defaults,iK.1.kwonlyargs,iK.1.kw_defaults)=([],[],[]):=by kernel_rfl
theorem K2:(gB.globals,gB.closure,gB.builtins,gB.defaults,gB.kwdefaults)=(mainNs,[],builtinsNs,.none,.none):=by kernel_rfl
theorem K3 (w:World):(hE w).nsMap mainGlobals "__builtins__" = some (.ref 4)/\ ∃ o,(hE w).get? 4=some o/\o.cls= .type "module" /\ o.dict=some builtinsNs :=
 ⟨by kernel_rfl,let ⟨o,a,b,c,_⟩:=Ck.get _ (Hk w);⟨o,mJ w a,b,c⟩⟩
theorem Bh (w:World):isTheDefsW q6 (hE w) "law" := by
 obtain ⟨n1,n2,n3,n4,n5⟩:_/\_/\_/\_/\_:=by simpa only [Prod.mk.injEq] using K0
 obtain ⟨d1,d2,d3⟩:_/\_/\_:=by simpa only [Prod.mk.injEq] using K1
 obtain ⟨g1,g2,g3,g4,g5⟩:_/\_/\_/\_/\_:=by simpa only [Prod.mk.injEq] using K2
 refine ⟨1426,_,gB,iK.1,iK.2.1,iK.2.2,(Pin.globalOf_eq (tM w) _).trans (HY w),(abs_get (by decide) (KY w)).trans rfl,rfl,KZ,n1,n2,n3,n4,n5,g1,g2,g3,.inl ⟨d1,g4⟩,[],?_,.inl ⟨rfl,g5⟩⟩
 rw [d2,d3];rfl
theorem yM (w:World):(∃ s,AfterRun (opening q6) w s)/\ ∀ s',AfterRun (opening q6) w s'-> ∃ s₀,fenceModules? q6 s'=some s₀/\s₀.gens= #[]/\ ∃ os,TopRan q6 w s₀ (MineH.s36 w os).abs/\(MineH.s36 w os).abs.asleep:=by
 have fen:=boot_open (p:=q6) (N:=600) yL rfl (λ s=>congrFun Fa s) w
 rw [<- table_eq_tree] at fen
 obtain ⟨s₀,h1,e⟩:=Option.map_eq_some_iff.mp fen
 obtain ⟨s,h4,h5⟩:=Option.bind_eq_some_iff.mp h1
 have A:=AfterImport.of_importEnds h4
 refine ⟨⟨s,A⟩,λ s' hs'=> ?_⟩
 obtain rfl:s'=s:=AfterImport.unique hs' A
 have z:s₀.asleep:=Shared.asleep_of_life (fence_lifeW h5) A.life
 obtain ⟨h,gs,d,k,os⟩:=s₀
 obtain ⟨rfl,rfl,rfl,rfl⟩:h=boot_heap w.params/\gs= #[]/\d=boot_drawn/\k=boot_toks:=by simpa using e
 obtain ⟨N,run⟩:=MineH.runTop w os
 have run:topRun treeTable q6 w 11 MineH.annT N ⟨boot_heap w.params,#[],boot_drawn,boot_toks,os⟩ (topStub q6)=some (MineH.s36 w os).abs:=run
 rw [<- table_eq_tree] at run
 obtain ⟨a,l,os',fr⟩:=topRun_spec _ _ _ _ z run
 obtain ⟨z1,z2,z3⟩:_/\_/\_:=by simpa only [Prod.mk.injEq] using HT w
 have hg:=(Bool.and_eq_true_iff.mp z1).1
 refine ⟨_,h5,rfl,os,⟨a,l,Shared.rest_eq os',λ b o hb hn=>fr b o ?_ (λ q=>hn (.inl q)) (λ q=>hn (.inr (.inl q))) (λ q=>hn (.inr (.inr ((Pin.globalOf_eq hg _).trans (z3.trans q))))) hb,?_⟩,Shared.asleep_of_life l z⟩
 · have:=Heap.lt_size hb
   have z2:(boot_heap w.params).objs.size=11:=z2
   rw [<- z2];exact this
 · rw [HR]
   obtain ⟨b1,o,b2,b3,b4⟩:=K3 w
   exact ⟨Heap.accountedI_of_ok (KW w),statics_of_ok (HU w),Pin.keysAreStrs_of (tM w),λ x hx=>(Pin.builtinOf_eq (HV w) x).trans (Heap.of_bltView (HV w) (HW w) x hx),
     ⟨4,o,(Pin.globalOf_eq (tM w) _).trans b1,b2,b3,b4⟩,(λ g hg=>absurd (show g ∈ (#[]:Array GenState) from hg) (by simp)),names_of_bound (KX w),laid_of_kept (HX w)⟩
theorem Bi {w:World}{os:OsState}{s₁:Shared}{ns:List Int}{vs:List Value}{as:List Addr}(L:Laid [] w (MineH.s36 w os).abs s₁ (u8 ns) vs as) (rd:ReadsAllW [] (classAt (MineH.s36 w os).abs.heap) s₁.heap vs (u8 ns) as):0 < s₁.toks:=by
 obtain ⟨v,vs',a1,a2,e,_,r1,r2⟩:=readsAllW_cons_inv rd
 cases (readsAllW_nil_inv r2).1
 obtain ⟨a,o,ws,n,ai,e',_⟩:=readsW_list_open r1
 subst e e'
 exact Nat.lt_of_lt_of_le (show 0 < 2287 by decide) (PySem.W.X.script_toks L rfl)
theorem holds0 (hb:q6.bare) (ho:opensWell q6=true) (hw:nS.toRowW.promised):nS.toRowW.claim.HoldsOpenBy (callStub nS.name) (if nS.pinned then [nS.name] else []) nS.keeps nS.writes:=by
 refine ⟨⟨hb,ho,rfl⟩,hw.witness,λ w=>⟨(yM w).1,λ s' hs'=> ?_⟩⟩
 obtain ⟨s₀,hf,hg0,os,hT,hz⟩:=(yM w).2 s' hs'
 refine ⟨s₀,hf,hg0,_,hT,λ n hn=> ?_,λ x hx=>(nomatch hx),λ x hx=>(nomatch hx),?_⟩
 · have:n = "law" := by
     have hn:n ∈ [("law" : Str)]:=hn
     simpa using hn
   subst this
   exact Bh w
 refine ClaimW.callFrom_of_specG (c:=nS.toRowW.claim) (tree:=λ vs=>do match <- nsGet mainNs nS.name with
     | some f=>do ret (<- PySem.call f vs)
     | none=>unsupported "claim.caller:no-such-global") hz rfl λ args hpre hlay ord hord=> ?_
 obtain ⟨ns,e,hl⟩:=qW hpre
 subst e
 obtain ⟨⟨vs,s₁⟩,hlaid⟩:=Option.isSome_iff_exists.mp (layAllW_isSome (R:=[]) (cl:=classAt (MineH.s36 w os).abs.heap) (P:=w.params) (ord:=ord) (λ c hc=>(nomatch hc)) (u8 ns) nS.args (MineH.s36 w os).abs (pre_splitW (r:=nS.toRowW) hpre).1)
 have keeps:=layAllW_keeps _ _ _ hlaid
 have hal:=layAllW_rest _ _ _ hlaid
 obtain ⟨as,hrd,hin,hold⟩:=reads_layAllW hord _ _ _ hlaid hlay s₁.heap (λ _ _ e=>e)
 have L:Laid [] w (MineH.s36 w os).abs s₁ (u8 ns) vs as:=⟨⟨ord,hord,hlaid⟩,hrd,hin,hold,keeps,hal.1,hal.2.2.1⟩
 have tk:0 < s₁.toks:=Bi L hrd
 refine ⟨vs,s₁,hlaid,?_⟩
 have Ns:=(Heap.Ns.of_isNs (tM w)).at (h':=s₁.heap) (λ o e=>keeps _ o e)
 refine Rn (wpAny_nsGet Ns ?_)
 rw [show (hE w).nsMap mainGlobals nS.name=some (.ref 1426) from HY w]
 show wpAny _ _ (PySem.call (.ref 1426) vs >>= λ v=>ret v) _ _ _
 refine Rn (Ro (yK w (cl:=classAt (MineH.s36 w os).abs.heap) (mean:=ExcName.means (MineH.s36 w os).abs.heap) keeps hpre hrd tk hal.1) (λ v s2 g=>Rs ⟨_,rfl,?_⟩) λ e s2 g=> ?_)
 · have z:=g.laid (c:=nS.toRowW.claim) rfl rfl (ident_freeW rfl rfl rfl) L
   exact ⟨z.1,z.2.1,z.2.2,λ q=>nomatch q⟩
 · have z:=g.laid (c:=nS.toRowW.claim) rfl rfl (ident_freeW rfl rfl rfl) L
   exact ⟨z.1,z.2.1,z.2.2,λ q=>nomatch q⟩
end
noncomputable section
noncomputable def yN:Look:={ strict:=false,foot:=none,bare:=[] }
noncomputable def yO (x:Str):Stmt:=match MineH.st 179 with
 | .Assign a (.Constant _ k p) q=> .Assign a (.Constant (.str x) k p) q
 | s=>s
theorem K4:MineH.st 179=yO (Str.ofString (String.ofList AI)):=by kernel_rfl
noncomputable def tN (l:List Str):Bool:=l.all λ y=>match y.cps.toList with | 32::_=>false | _=>true
theorem Fb (r:List Nat) (l:List Str) (h:tN l=true):l.contains (ae (32::r))=false:=by
 rw [Bool.eq_false_iff]
 intro c
 have m:=List.all_eq_true.mp h _ (List.contains_iff_mem.mp c)
 cases m
theorem Bj:o1=32::o1.tail:=by kernel_rfl
theorem Bk (r:List Nat):yN.word (ae (32::r))=true:=by
 unfold Look.word attrL
 rw [Fb r _ (show tN frameAttrs=true by kernel_rfl)]
 have:(ae (32::r)).opensWith "__" = false:=by
   unfold Str.opensWith ae
   rw [Bool.eq_false_iff]
   intro c
   have c:=congrArg Array.toList (eq_of_beq c)
   rw [Array.toList_extract] at c
   cases c
 rw [this]
 rfl
theorem Bl:roadStr (ae o1)=false:=by
 unfold roadStr ae
 simp only [List.any_toArray]
 kernel_rfl
theorem Fc:yN.str (ae o1)=true:=by
 have w:yN.word (ae o1)=true:=by rw [Bj];exact Bk _
 unfold Look.str
 rw [w,Bl,Bool.or_true]
 rfl
theorem K5 (x:Str) (h:yN.str x=true):noRoadLSs yN [yO x]=true:=by
 have:noRoadLSs yN [yO x]=(yN.str x&&true):=by kernel_rfl
 rw [this,h];rfl
theorem Rh:noRoadLSs yN (MineH.bodyL.take 179)=true:=by kernel_rfl
theorem Ri:noRoadLSs yN (MineH.bodyL.drop 180)=true:=by kernel_rfl
theorem rZ (lk:Look): ∀ (a b:List Stmt),noRoadLSs lk a=true->noRoadLSs lk b=true->noRoadLSs lk (a++b)=true
 | [],b,_,h=>h
 | s::a,b,h,h'=>by
   have h:(noRoadLS lk s&&noRoadLSs lk a)=true:=h
   obtain ⟨h1,h2⟩:=Bool.and_eq_true_iff.mp h
   exact Bool.and_eq_true_iff.mpr ⟨h1,rZ lk a b h2 h'⟩
theorem Fe:MineH.sts 179 1=[MineH.st 179]:=by kernel_rfl
theorem Ff:MineH.bodyL.take 179++([MineH.st 179]++MineH.bodyL.drop 180)=MineH.bodyL:=by
 rw [<- Fe,MineH.stsapp 179 1]
 exact List.take_append_drop 179 _
theorem nr:noRoadLSs yN MineH.bodyL=true:=by
 rw [<- Ff]
 refine rZ _ _ _ Rh (rZ _ _ _ ?_ Ri)
 rw [K4,tj]
 exact K5 _ Fc
end
noncomputable section
theorem an {a b:Bool}(x:a=true) (y:b=true):(a&&b)=true:=Bool.and_eq_true_iff.mpr ⟨x,y⟩
theorem K6:({ strict:= !(importedModules pv.main.body).all cThrough.contains,foot:=none,bare:=(["vars", "dir", "locals"]:List Str).filter (readsOut pv pv.main.body) }:Look)=yN:=by
 rw [k4,k5];rfl
theorem Fg:looksOpen pv=true:=an (an (an (an k1 k2) k3) ((congrArg (λ k=>noRoadLSs k MineH.bodyL) K6).trans nr)) k6
theorem HZ:lrow.partSaid=true:=an (an (an (an (an (an (an (an (an (an (an (an (an Fg rfl) rfl) j2) j3) j4) rfl) j6) j7) j8) rfl) rfl) rfl) rfl
theorem rowWell:lrow.wellSaid=true:=an (an HZ (Bool.and_eq_true_iff.mp Ls).1) (Bool.and_eq_true_iff.mp Ls).2
theorem well0:lw.wellSaid=true:=an (an (an (an (an (an (an (an (an (an (an (an (an (an (an (an (an (an rowWell s1) s2) s3) s4) s5) s6) s7) s8) s9) Ih) Ii) FP) FQ) FR) FS) FT) Fi) FU
end
end Mine
end
end
theorem PySem.Challenge.cw_pq0625_01_holds : PySem.Challenge.rw_pq0625_01.Holds :=
 ⟨Mine.well0,Mine.rowWell,Mine.j11,Mine.holds0 Mine.k8 Mine.k7 Mine.j11⟩
