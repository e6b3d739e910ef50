import PyProof.Rows.All
import Wide.All
import Open.Pieces
import OpenK.KWalk
import OpenK.KMeth
import OpenK.KEqL
import KE.KDictSum
import KE.KRevIter
import KE.KSuper
import Lean
import PySem.Challenge.RW_nn0404_01
open PySem PySem.W PySem.Calls PyProof.Rows
set_option Elab.async false
set_option linter.all false
set_option autoImplicit true
set_option maxRecDepth 1000000
set_option maxHeartbeats 0
set_option genSizeOf false
set_option genSizeOfSpec false
set_option bootstrap.genMatcherCode false
set_option tactic.hygienic false
set_option backward.match.sparseCases false
set_option genCtorIdx false
set_option compiler.extract_closed false
namespace Mine
open List (all_eq_true all_nil any_eq_false any_eq_true append_assoc append_eq_nil_iff append_inj' append_nil concat_eq_append cons_append cons_ne_nil countP_cons count_append count_eq_zero drop_drop drop_length eq_nil_or_concat ext_getElem? filter_append filter_cons filter_nil find?_append find?_cons find?_eq_none getElem?_append_right getElem?_concat_length getElem?_drop getElem?_eq_getElem getElem?_eq_none getElem?_inj getElem?_map getElem?_mapIdx getElem?_nil getElem?_range getElem?_replicate getElem?_reverse getElem?_take getElem_cons_drop getElem_take isEmpty_iff isEmpty_nil length_append length_cons length_drop length_eq_zero_iff length_filter_le length_map length_mapIdx length_nil length_range length_reverse length_set length_singleton length_take lookup_cons mapIdx_append map_append map_cons map_drop map_id map_map map_nil map_set map_take mem_append mem_cons mem_filter mem_map mem_map_of_mem mem_of_mem_drop mem_range mem_reverse mem_singleton nil_append nil_sublist nodup_append nodup_cons nodup_nil not_mem_nil pairwise_append pairwise_map pairwise_singleton range_succ set_cons_succ set_set sublist_append_left sum_cons take_add_one take_append_drop take_length take_sublist zip_cons_cons)
open Nat (add_lt_add_left le_add_right le_of_eq le_of_lt le_refl le_succ_of_le le_trans lt_irrefl lt_min lt_of_lt_of_le lt_one_iff lt_or_ge lt_succ_of_lt lt_succ_self lt_trans ne_of_gt ne_of_lt not_le_of_lt not_lt_of_le not_lt_zero one_pos one_shiftLeft or_lt_two_pow or_zero sub_add_cancel sub_le sub_lt sub_self sub_sub succ_pos testBit_or testBit_two_pow zero_add zero_le zero_testBit)
open Int (eq_ofNat_of_zero_le natCast_nonneg neg_neg not_lt ofNat_inj ofNat_lt ofNat_sub toNat_natCast)
open Array (getElem?_toList length_toList mem_toList_iff)
open Option (getD_some map_eq_some_iff map_some)
open Bool (and_eq_true or_eq_true)
open PySem.Heap (get?_none_of_le get?_update_self lt_size size_push)
noncomputable section
set_option tactic.hygienic true
noncomputable abbrev pw:Program:=PySem.Challenge.pw_nn0404_01
noncomputable abbrev u (x:String):PySem.Str:=PySem.Str.ofString x
noncomputable abbrev S (x:String) (t:Nat):Value:=.str (PySem.Str.ofString x) t
noncomputable abbrev en (P:Params) (k:String) (t:Nat) (v:Value):DictEntry:=⟨PyData.keyHash P (PySem.Str.ofString k),.str (PySem.Str.ofString k) t,v⟩
noncomputable def tS (i:Nat):Stmt:=pw.main.body.getD i (.Pass ⟨0,0,0,0⟩)
noncomputable def cS (i j:Nat):Stmt:=match tS i with
 |.ClassDef _ _ _ b _ _ _ _ _ _ _=>b.getD j (.Pass ⟨0,0,0,0⟩)
 |s=>s
noncomputable def bd:Stmt->List Stmt
 |.FunctionDef _ _ b _ _ _ _ _ _ _=>b
 |_=>[]
noncomputable def ar:Stmt->Arguments
 |.FunctionDef _ a _ _ _ _ _ _ _ _=>a
 |_=>⟨[],[],none,[],[],none,[]⟩
noncomputable def sc:Stmt->Scope
 |.FunctionDef _ _ _ _ _ _ s _ _ _=>s
 |_=>pw.main.scope
noncomputable def nm:Stmt->PySem.Str
 |.FunctionDef n _ _ _ _ _ _ _ _ _=>n
 |_=>u ""
noncomputable def lf:Life:=⟨[],[],[],0,[],[],false,#[],[],0,false,false,false,0,[2000,10,10],false,0,true,[],[],0,false⟩
noncomputable def ad:Obj:=⟨.type "tuple",none,.seq #[] 0,#[]⟩
noncomputable def af:Obj:=⟨.none,none,.fields #[],#[]⟩
noncomputable def D1:Nat->List String->List Value
 |_,[]=>[]
 |t,x::l=>S x t::D1 (t+1) l
noncomputable def aC (t:Nat) (l:List String):Obj:=⟨.type "tuple",none,.seq (D1 t l).toArray 0,#[]⟩
noncomputable def q6 (g:Addr) (q:PySem.Str) (d:Stmt) (v m c:Value):Data:=.func ⟨nm d,q,ar d,.stmts (bd d),sc d,g,[],v,.none,.none,m,none,c,.none,0⟩
noncomputable def aW (q:String) (d:Stmt):Obj:=⟨.none,none,q6 0 (u q) d .none .none .none,#[]⟩
noncomputable def aX (m:Value) (c:Addr) (q:String) (d:Stmt) (v:Value):Obj:=⟨.type "function",none,q6 3 (u q) d v m (.ref c),#[]⟩
noncomputable def bR (i:Nat):Obj:=⟨.none,none,q6 0 (nm (tS i)) (tS i) .none .none .none,#[]⟩
noncomputable def bS (m:Value) (c:Addr) (i:Nat) (v:Value):Obj:=⟨.type "function",none,q6 3 (nm (tS i)) (tS i) v m (.ref c),#[]⟩
noncomputable def qZ (t:Nat) (n q:PySem.Str) (line ac fl:Nat) (a b:Addr) (h:Bool) (x y z:Value) (T:Nat):Obj:=
 ⟨.type "code",none,.fields #[.str n t,.str q (t+1),S "/claim/cut.py" (t+2),.int line 0,.int ac 0,.int 0 0,.int 0 0,.int fl 0,.ref a,.bool h,.int 181 0,.ref b,.none,x,y,z,.int T 0,.int line 0,S "/claim/cut.py" (T+1)],#[]⟩
noncomputable def aZ (i t:Nat) (q:String) (d:Stmt) (line ac T:Nat):Obj:=qZ t (nm d) (u q) line ac 3 (i -5) (i -4) true (.ref (i -3)) (.ref (i -2)) (.ref (i -1)) T
noncomputable def cE (i t j:Nat) (line ac T:Nat):Obj:=qZ t (nm (tS j)) (nm (tS j)) line ac 3 (i -5) (i -4) true (.ref (i -3)) (.ref (i -2)) (.ref (i -1)) T
noncomputable def fF (i t:Nat) (q:String) (d:Stmt) (line ac T:Nat):Obj:=qZ t (nm d) (u q) line ac 3 (i -3) (i -2) true .none .none (.ref (i -1)) T
noncomputable def dQ (i t:Nat) (n:String) (line T:Nat):Obj:=qZ t (u n) (u n) line 0 0 (i -2) (i -1) false .none .none .none T
noncomputable def dR (c n:Addr) (m:Value):Obj:=⟨.type "frame",none,.plain,#[some (.ref c),some (.ref 3),some (.ref n),none,some m,none,some (.ref 0)]⟩
noncomputable def yt (c:String) (l:List Value):Obj:=⟨.type c,none,.fields l.toArray,#[]⟩
noncomputable def cI (n:String) (v:Value):Obj:=yt "builtin_function_or_method" [.builtin n,v]
noncomputable def dh (n:String) (t c:Nat) (l:List Value):Obj:=yt "getset_descriptor" (S n t::.ref c::l)
noncomputable def eA (c:Nat):Obj:=yt "super" [.ref c,.ref c,.ref c]
noncomputable def D0 (k:Nat):List (Nat×Nat)->List Value
 |[]=>[]
 |(a,b)::l=>.int a 0::.int k 0::.ref b::D0 k l
noncomputable def dS (k:Nat) (l:List (Nat×Nat)):Obj:=⟨.none,none,.fields (D0 k l).toArray,#[]⟩
noncomputable def cA (l:List DictEntry) (n:Nat):Obj:=⟨.type "dict",none,.dict l.toArray n,#[]⟩
noncomputable def ak (P:Params) (k:String) (t a:Nat):DictEntry:=en P k t (.ref a)
noncomputable def d9 (a:Addr) (n:String) (b m:List Value) (s:Addr) (w:List Value) (x:Option Value) (t t':Nat) (nw:String):Obj:=
 ⟨.type "type",none,.cls ⟨u n,b,.ref a::m,s,u n,true,[],w,false,none,false⟩,#[x,none,some (S n t),some (S n t'),some (.builtin nw),some (.bool true)]⟩
noncomputable def zN (o:Obj) (a b:BT):BT:=.node o a b
noncomputable def zL (o:Obj):BT:=.node o .nil .nil
noncomputable def DZ:Value:=S "__main__" 164
noncomputable def jK:Value:=S "grammarmill.source" 194
noncomputable def bV:Value:=S "grammarmill.tables" 260
noncomputable def ey:Value:=S "grammarmill.grammar" 658
noncomputable def iM:Value:=S "grammarmill.analysis" 815
noncomputable def cN:Value:=S "grammarmill.lrzero" 878
noncomputable def eL:Value:=S "grammarmill.lookahead" 1167
noncomputable def fi:Value:=S "law_nn0404_01" 1323
def o13:Obj:=dQ 13 182 "<module>" 1 185
def o14:Obj:=dR 13 3 DZ
def o2 (P:Params):Obj:=⟨.none,none,(.dict #[en P "type.__subclasses__.Exception.0" 230 (.int (46) 0),en P "type.__subclasses__.Exception.n" 231 (.int (1) 0)] 2),#[]⟩
def CZ (P:Params):List DictEntry:=[en P "__doc__" 166 .none,en P "__package__" 167 .none,en P "__loader__" 168 (.builtin "__main__.__loader__#opaque"),en P "__spec__" 169 .none,ak P "__annotations__" 170 6,ak P "__builtins__" 171 4,en P "__file__" 173 (S "/claim/cut.py" 172),en P "__cached__" 174 .none,ak P "_wall" 193 21,ak P "ToolError" 233 46,ak P "TableError" 249 59,ak P "bits" 259 68,en P "ACCEPT" 265 (.int (1048576) 264),en P "BARRED" 270 (.int (-1048576) 269),en P "END" 272 (.int (0) 271),en P "ERROR" 274 (.int (1) 273),en P "UNDEFINED" 276 (.int (2) 275),ak P "Tables" 407 162,ak P "Conflict" 451 190,ak P "ParseTables" 507 232,ak P "settle" 518 241,ak P "RowMaker" 594 284,ak P "default_of" 605 295,ak P "without" 611 300,ak P "fill" 631 308,ak P "would_take" 646 315,ak P "exact_expected" 657 322,ak P "Rule" 704 340,ak P "Grammar" 814 422,ak P "spread" 822 431,ak P "nullable" 829 438,ak P "first_of" 840 445,ak P "first_masks" 853 452,ak P "follow_masks" 867 459,ak P "transitive" 877 466,en P "NONE" 882 (.int (-1) 881),ak P "LrState" 933 497,ak P "Closer" 996 539,ak P "advanced" 1004 550,ak P "kernels_behind" 1016 557,ak P "complete_rules" 1026 564]
def o3 (P:Params):Obj:=cA (en P "__name__" 165 (S "grammarmill.lrzero" 878)::CZ P) 42
noncomputable def zP:List (Nat×Nat):=[(1,20),(5,27),(16,55),(18,67),(34,74),(84,172),(95,201),(118,240),(134,247),(197,294),(209,299),(211,307),(232,314),(247,321),(254,328),(264,350),(311,430),(337,437),(339,444),(346,451),(360,458),(378,465),(387,472),(402,507),(431,549),(433,556),(445,563)]
def Re:Obj:=dS 0 zP
def o17:Obj:=aC 190 ["k"]
def sV:Obj:=bR 0
def lU:Obj:=cE 20 187 0 1 1 191
def lX:Obj:=bS DZ 20 0 .none
noncomputable def l9:Obj:=⟨(.type "tuple"),none,(.seq #[(.type "Exception")] 0),#[]⟩
def tf:Obj:=cI "type.__prepare__" (.type "type")
def CX (P:Params):List DictEntry:=[en P "__firstlineno__" 207 (.int (5) 206),ak P "__init__" 216 36,ak P "told" 223 43,ak P "__static_attributes__" 226 44]
def tn (P:Params):Obj:=cA (en P "__module__" 203 (S "grammarmill.source" 194)::en P "__qualname__" 205 (S "ToolError" 204)::CX P) 6
def tz:Obj:=dS 4 [(7,35),(12,42)]
def tC:Obj:=dQ 27 198 "ToolError" 5 201
def tF:Obj:=dR 27 24 jK
noncomputable def nj:Obj:=⟨(.type "tuple"),none,(.seq #[.none] 0),#[]⟩
def nI:Obj:=aC 211 ["self","what","at"]
def tV:Obj:=aW "ToolError.__init__" (cS 2 0)
def nS:Obj:=aZ 35 208 "ToolError.__init__" (cS 2 0) 7 3 214
def nY:Obj:=aX jK 35 "ToolError.__init__" (cS 2 0) (.ref 29)
def ov:Obj:=aC 220 ["self"]
def um:Obj:=aW "ToolError.told" (cS 2 1)
def oN:Obj:=aZ 42 217 "ToolError.told" (cS 2 1) 12 1 221
def oT:Obj:=aX jK 42 "ToolError.told" (cS 2 1) .none
def oZ:Obj:=aC 224 ["at","what"]
def ph (P:Params):Obj:=cA (en P "__module__" 203 (S "grammarmill.source" 194)::(CX P++[ak P "__weakref__" 228 47,en P "__doc__" 229 .none])) 3
def py:Obj:=d9 46 "ToolError" [(.type "Exception")] [(.type "Exception"),(.type "BaseException"),(.type "object")] 45 [(.ref 59)] (some (.ref 22)) 196 204 "Exception.__new__"
def pC:Obj:=dh "__weakref__" 227 46 [(.builtin "ExceptionGroup.__weakref__"),.none]
def uF:Obj:=eA 46
def uH:Obj:=cI "object.__init_subclass__" (.ref 46)
noncomputable def pT:Obj:=⟨(.type "tuple"),none,(.seq #[(.ref 46)] 0),#[]⟩
def uQ:Obj:=cI "type.__prepare__" (.type "type")
def C4 (P:Params):List DictEntry:=[en P "__firstlineno__" 245 (.int (16) 244),ak P "__static_attributes__" 246 57]
def uS (P:Params):Obj:=cA (en P "__module__" 241 (S "grammarmill.source" 194)::en P "__qualname__" 243 (S "TableError" 242)::C4 P) 4
def uZ:Obj:=dQ 55 236 "TableError" 16 239
def u5:Obj:=dR 55 52 jK
def qC (P:Params):Obj:=cA (en P "__module__" 241 (S "grammarmill.source" 194)::(C4 P++[en P "__doc__" 247 .none])) 2
def qD:Obj:=d9 59 "TableError" [(.ref 46)] [(.ref 46),(.type "Exception"),(.type "BaseException"),(.type "object")] 58 [] (some (.ref 50)) 234 242 "Exception.__new__"
def vn:Obj:=eA 59
def vw:Obj:=cI "object.__init_subclass__" (.ref 59)
def qE:Obj:=aC 253 ["mask","found","at","left"]
def vX:Obj:=bR 4
def qF:Obj:=cE 67 250 4 18 1 257
def qG:Obj:=bS jK 67 4 .none
def wh:Obj:=cI "type.__prepare__" (.type "type")
def C8 (P:Params):List DictEntry:=[en P "__firstlineno__" 288 (.int (34) 287),ak P "__init__" 301 82,ak P "terminal" 309 89,ak P "left" 317 96,ak P "length" 325 103,ak P "before" 333 110,ak P "state_count" 340 117,ak P "explicit" 349 124,ak P "default" 357 131,ak P "goto" 366 138,ak P "action" 376 145,ak P "expected" 384 152,ak P "is_consistent" 392 159,ak P "__static_attributes__" 400 160]
def wq (P:Params):Obj:=cA (en P "__module__" 284 (S "grammarmill.tables" 260)::en P "__qualname__" 286 (S "Tables" 285)::C8 P) 16
def wA:Obj:=dS 4 [(36,81),(47,88),(50,95),(53,102),(56,109),(59,116),(62,123),(65,130),(68,137),(71,144),(79,151),(82,158)]
def wH:Obj:=dQ 74 279 "Tables" 34 282
def wM:Obj:=dR 74 71 bV
def qH:Obj:=aC 292 ["self","names","terminal_count","lefts","lengths","befores","number"]
def xh:Obj:=aW "Tables.__init__" (cS 11 0)
def qI:Obj:=aZ 81 289 "Tables.__init__" (cS 11 0) 36 6 299
def jv:Obj:=aX bV 81 "Tables.__init__" (cS 11 0) .none
def qJ:Obj:=aC 305 ["self","name"]
def xP:Obj:=aW "Tables.terminal" (cS 11 1)
def qK:Obj:=aZ 88 302 "Tables.terminal" (cS 11 1) 47 2 307
def qL:Obj:=aX bV 88 "Tables.terminal" (cS 11 1) .none
def qM:Obj:=aC 313 ["self","rule"]
def xQ:Obj:=aW "Tables.left" (cS 11 2)
def qN:Obj:=aZ 95 310 "Tables.left" (cS 11 2) 50 2 315
def qO:Obj:=aX bV 95 "Tables.left" (cS 11 2) .none
def qP:Obj:=aC 321 ["self","rule"]
def sA:Obj:=aW "Tables.length" (cS 11 3)
def kI:Obj:=aZ 102 318 "Tables.length" (cS 11 3) 53 2 323
def kJ:Obj:=aX bV 102 "Tables.length" (cS 11 3) .none
def kK:Obj:=aC 329 ["self","rule"]
def sB:Obj:=aW "Tables.before" (cS 11 4)
def kL:Obj:=aZ 109 326 "Tables.before" (cS 11 4) 56 2 331
def kM:Obj:=aX bV 109 "Tables.before" (cS 11 4) .none
def kN:Obj:=aC 337 ["self"]
def sC:Obj:=aW "Tables.state_count" (cS 11 5)
def kO:Obj:=aZ 116 334 "Tables.state_count" (cS 11 5) 59 1 338
def kP:Obj:=aX bV 116 "Tables.state_count" (cS 11 5) .none
def kQ:Obj:=aC 344 ["self","state","terminal"]
def sD:Obj:=aW "Tables.explicit" (cS 11 6)
def kR:Obj:=aZ 123 341 "Tables.explicit" (cS 11 6) 62 3 347
def kS:Obj:=aX bV 123 "Tables.explicit" (cS 11 6) .none
def kT:Obj:=aC 353 ["self","state"]
def sF:Obj:=aW "Tables.default" (cS 11 7)
def kU:Obj:=aZ 130 350 "Tables.default" (cS 11 7) 65 2 355
def kW:Obj:=aX bV 130 "Tables.default" (cS 11 7) .none
def kY:Obj:=aC 361 ["self","state","nonterminal"]
def sG:Obj:=aW "Tables.goto" (cS 11 8)
def kZ:Obj:=aZ 137 358 "Tables.goto" (cS 11 8) 68 3 364
def k7:Obj:=aX bV 137 "Tables.goto" (cS 11 8) .none
def k9:Obj:=aC 370 ["self","state","terminal","told"]
def sH:Obj:=aW "Tables.action" (cS 11 9)
def lg:Obj:=aZ 144 367 "Tables.action" (cS 11 9) 71 3 374
def lp:Obj:=aX bV 144 "Tables.action" (cS 11 9) .none
def lq:Obj:=aC 380 ["self","state"]
def sI:Obj:=aW "Tables.expected" (cS 11 10)
def lu:Obj:=aZ 151 377 "Tables.expected" (cS 11 10) 79 2 382
def lw:Obj:=aX bV 151 "Tables.expected" (cS 11 10) .none
def lx:Obj:=aC 388 ["self","state"]
def sJ:Obj:=aW "Tables.is_consistent" (cS 11 11)
def ly:Obj:=aZ 158 385 "Tables.is_consistent" (cS 11 11) 82 2 390
def lA:Obj:=aX bV 158 "Tables.is_consistent" (cS 11 11) .none
def lB:Obj:=aC 393 ["befores","defaults","lefts","lengths","names","numbers","terminal_count"]
def lC (P:Params):Obj:=cA (en P "__module__" 284 (S "grammarmill.tables" 260)::(C8 P++[ak P "__dict__" 402 163,ak P "__weakref__" 404 164,en P "__doc__" 405 .none])) 4
def lD:Obj:=d9 162 "Tables" [(.type "object")] [(.type "object")] 161 [(.ref 232)] none 277 285 "object.__new__"
def lE:Obj:=dh "__dict__" 401 162 [(.builtin "function.__dict__"),(.builtin "function.__dict__#set")]
def lF:Obj:=dh "__weakref__" 403 162 [(.builtin "ExceptionGroup.__weakref__"),.none]
def sL:Obj:=eA 162
def sM:Obj:=cI "object.__init_subclass__" (.ref 162)
def sN:Obj:=cI "type.__prepare__" (.type "type")
def CW (P:Params):List DictEntry:=[en P "__firstlineno__" 419 (.int (84) 418),ak P "__init__" 431 180,ak P "told" 438 187,ak P "__static_attributes__" 444 188]
def sO (P:Params):Obj:=cA (en P "__module__" 415 (S "grammarmill.tables" 260)::en P "__qualname__" 417 (S "Conflict" 416)::CW P) 6
def sP:Obj:=dS 4 [(86,179),(93,186)]
def sQ:Obj:=dQ 172 410 "Conflict" 84 413
def sR:Obj:=dR 172 169 bV
def lG:Obj:=aC 423 ["self","state","terminal","way","rules","chosen"]
def sT:Obj:=aW "Conflict.__init__" (cS 12 0)
def lH:Obj:=aZ 179 420 "Conflict.__init__" (cS 12 0) 86 6 429
def lI:Obj:=aX bV 179 "Conflict.__init__" (cS 12 0) .none
def lJ:Obj:=aC 435 ["self"]
def sU:Obj:=aW "Conflict.told" (cS 12 1)
def lK:Obj:=aZ 186 432 "Conflict.told" (cS 12 1) 93 1 436
def lL:Obj:=aX bV 186 "Conflict.told" (cS 12 1) .none
def lO:Obj:=aC 439 ["chosen","rules","state","terminal","way"]
def lP (P:Params):Obj:=cA (en P "__module__" 415 (S "grammarmill.tables" 260)::(CW P++[ak P "__dict__" 446 191,ak P "__weakref__" 448 192,en P "__doc__" 449 .none])) 4
def lQ:Obj:=d9 190 "Conflict" [(.type "object")] [(.type "object")] 189 [] none 408 416 "object.__new__"
def lR:Obj:=dh "__dict__" 445 190 [(.builtin "function.__dict__"),(.builtin "function.__dict__#set")]
def lS:Obj:=dh "__weakref__" 447 190 [(.builtin "ExceptionGroup.__weakref__"),.none]
def sW:Obj:=eA 190
def sX:Obj:=cI "object.__init_subclass__" (.ref 190)
noncomputable def lT:Obj:=⟨(.type "tuple"),none,(.seq #[(.ref 162)] 0),#[]⟩
def sY:Obj:=cI "type.__prepare__" (.type "type")
def sZ (P:Params):Obj:=cA [en P "__module__" 459 (S "grammarmill.tables" 260),en P "__qualname__" 461 (S "ParseTables" 460),en P "__firstlineno__" 463 (.int (95) 462),ak P "__init__" 470 208,ak P "state_count" 477 215,ak P "explicit" 486 222,ak P "goto" 495 229,ak P "__static_attributes__" 503 230,ak P "__classcell__" 504 198] 9
noncomputable def jt:Obj:=⟨(.type "cell"),none,(.cell (some (.ref 232))),#[]⟩
def s6:Obj:=dS 4 [(97,207),(110,214),(113,221),(116,228)]
def s7:Obj:=dQ 201 454 "ParseTables" 95 457
def s8:Obj:=dR 201 197 bV
noncomputable def lV:Obj:=⟨(.type "tuple"),none,(.seq #[(.ref 198)] 0),#[]⟩
def lW:Obj:=aC 467 ["__class__"]
def s9:Obj:=aW "ParseTables.__init__" (cS 13 0)
def ju:Obj:=fF 207 464 "ParseTables.__init__" (cS 13 0) 97 8 468
def o208:Obj:=⟨(.type "function"),none,(.func ⟨(u "__init__"),(u "ParseTables.__init__"),ar (cS 13 0),.stmts (bd (cS 13 0)),sc (cS 13 0),3,[((u "__class__"),198)],.none,.none,.none,(S "grammarmill.tables" 260),none,(.ref 207),(.ref 203),0⟩),#[]⟩
def lY:Obj:=aC 474 ["self"]
def tc:Obj:=aW "ParseTables.state_count" (cS 13 1)
def lZ:Obj:=aZ 214 471 "ParseTables.state_count" (cS 13 1) 110 1 475
def l6:Obj:=aX bV 214 "ParseTables.state_count" (cS 13 1) .none
def l7:Obj:=aC 481 ["self","state","terminal"]
def td:Obj:=aW "ParseTables.explicit" (cS 13 2)
def mh:Obj:=aZ 221 478 "ParseTables.explicit" (cS 13 2) 113 3 484
def mo:Obj:=aX bV 221 "ParseTables.explicit" (cS 13 2) .none
def mu:Obj:=aC 490 ["self","state","nonterminal"]
def te:Obj:=aW "ParseTables.goto" (cS 13 3)
def mw:Obj:=aZ 228 487 "ParseTables.goto" (cS 13 3) 116 3 493
def mA:Obj:=aX bV 228 "ParseTables.goto" (cS 13 3) .none
def mB:Obj:=aC 496 ["conflicts","defaults","gotos","grammar","mode","rows","settled"]
def mC (P:Params):Obj:=cA [en P "__module__" 459 (S "grammarmill.tables" 260),en P "__firstlineno__" 463 (.int (95) 462),ak P "__init__" 470 208,ak P "state_count" 477 215,ak P "explicit" 486 222,ak P "goto" 495 229,ak P "__static_attributes__" 503 230,en P "__doc__" 505 .none] 3
def ip:Obj:=d9 232 "ParseTables" [(.ref 162)] [(.ref 162),(.type "object")] 231 [] (some (.ref 195)) 452 460 "object.__new__"
def tg:Obj:=eA 232
def th:Obj:=cI "object.__init_subclass__" (.ref 232)
def mD:Obj:=aC 511 ["grammar","rule","terminal","own","other"]
def ti:Obj:=bR 14
def mF:Obj:=cE 240 508 14 118 3 516
def mG:Obj:=bS bV 240 14 .none
def to:Obj:=cI "type.__prepare__" (.type "type")
def CY (P:Params):List DictEntry:=[en P "__firstlineno__" 530 (.int (134) 529),ak P "__init__" 542 255,ak P "settle_levels" 552 262,ak P "settle_one" 563 269,ak P "row" 573 276,ak P "conflicts" 579 281,ak P "__static_attributes__" 587 282]
def tp (P:Params):Obj:=cA (en P "__module__" 526 (S "grammarmill.tables" 260)::en P "__qualname__" 528 (S "RowMaker" 527)::CY P) 9
def tq:Obj:=dS 4 [(136,254),(154,261),(163,268),(176,275),(187,280)]
def tr:Obj:=dQ 247 521 "RowMaker" 134 524
def tv:Obj:=dR 247 244 bV
def mH:Obj:=aC 534 ["self","grammar","state","masks","symbol","rule"]
def tw:Obj:=aW "RowMaker.__init__" (cS 15 0)
def mI:Obj:=aZ 254 531 "RowMaker.__init__" (cS 15 0) 136 4 540
def mJ:Obj:=aX bV 254 "RowMaker.__init__" (cS 15 0) .none
def mL:Obj:=aC 546 ["self","look","terminal","way"]
def tA:Obj:=aW "RowMaker.settle_levels" (cS 15 1)
def mM:Obj:=aZ 261 543 "RowMaker.settle_levels" (cS 15 1) 154 1 550
def mN:Obj:=aX bV 261 "RowMaker.settle_levels" (cS 15 1) .none
def mO:Obj:=aC 556 ["self","look","terminal","way","chosen"]
def tB:Obj:=aW "RowMaker.settle_one" (cS 15 2)
def mP:Obj:=aZ 268 553 "RowMaker.settle_one" (cS 15 2) 163 4 561
def mQ:Obj:=aX bV 268 "RowMaker.settle_one" (cS 15 2) .none
def mR:Obj:=aC 567 ["self","row","look","terminal"]
def tD:Obj:=aW "RowMaker.row" (cS 15 3)
def mU:Obj:=aZ 275 564 "RowMaker.row" (cS 15 3) 176 1 571
def mV:Obj:=aX bV 275 "RowMaker.row" (cS 15 3) .none
def tE:Obj:=aW "RowMaker.conflicts" (cS 15 4)
def mW:Obj:=fF 280 574 "RowMaker.conflicts" (cS 15 4) 187 2 577
def mZ:Obj:=aX bV 280 "RowMaker.conflicts" (cS 15 4) .none
def m6:Obj:=aC 580 ["barred","gotos","grammar","looks","number","settled","shifts"]
def m7 (P:Params):Obj:=cA (en P "__module__" 526 (S "grammarmill.tables" 260)::(CY P++[ak P "__dict__" 589 285,ak P "__weakref__" 591 286,en P "__doc__" 592 .none])) 4
def m8:Obj:=d9 284 "RowMaker" [(.type "object")] [(.type "object")] 283 [] none 519 527 "object.__new__"
def m9:Obj:=dh "__dict__" 588 284 [(.builtin "function.__dict__"),(.builtin "function.__dict__#set")]
def nh:Obj:=dh "__weakref__" 590 284 [(.builtin "ExceptionGroup.__weakref__"),.none]
def tG:Obj:=eA 284
def tH:Obj:=cI "object.__init_subclass__" (.ref 284)
def np:Obj:=aC 598 ["row","counts","number","best","rule"]
def tI:Obj:=bR 16
def nq:Obj:=cE 294 595 16 197 1 603
def nr:Obj:=bS bV 294 16 .none
def tJ:Obj:=bR 17
def nA:Obj:=fF 299 606 "without" (tS 17) 209 2 609
def nB:Obj:=bS bV 299 17 .none
def iu:Obj:=aC 612 ["lalr"]
def nC:Obj:=aC 616 ["automaton","masks","with_defaults","mode","rows","gotos","defaults","conflicts","settled","state","maker","row","rule"]
def tL:Obj:=bR 18
def nD:Obj:=cE 307 613 18 211 4 629
def fB:Obj:=bS bV 307 18 (.ref 301)
def nE:Obj:=aC 635 ["tables","states","terminal","most","stack","turn","told","length","goal"]
def tM:Obj:=bR 19
def nF:Obj:=cE 314 632 19 232 4 644
def nG:Obj:=bS bV 314 19 .none
def nH:Obj:=aC 650 ["tables","states","most","found","terminal"]
def tN:Obj:=bR 20
def nJ:Obj:=cE 321 647 20 247 3 655
def nK:Obj:=bS bV 321 20 .none
def tO:Obj:=cI "type.__prepare__" (.type "type")
def C0 (P:Params):List DictEntry:=[en P "__firstlineno__" 671 (.int (254) 670),ak P "__init__" 689 337,ak P "__static_attributes__" 697 338]
def tP (P:Params):Obj:=cA (en P "__module__" 667 (S "grammarmill.grammar" 658)::en P "__qualname__" 669 (S "Rule" 668)::C0 P) 5
def tQ:Obj:=dS 4 [(256,336)]
def tR:Obj:=dQ 328 662 "Rule" 254 665
def tT:Obj:=dR 328 325 ey
noncomputable def iw:Obj:=⟨(.type "tuple"),none,(.seq #[(.int (-1) 673),.none,(.int (0) 674),(.int (0) 675)] 0),#[]⟩
def nL:Obj:=aC 679 ["self","number","left","right","level_of","action","line","before"]
def tU:Obj:=aW "Rule.__init__" (cS 22 0)
def nM:Obj:=aZ 336 676 "Rule.__init__" (cS 22 0) 256 8 687
def fC:Obj:=aX ey 336 "Rule.__init__" (cS 22 0) (.ref 330)
def nN:Obj:=aC 690 ["action","before","left","level_of","line","number","right"]
def nO (P:Params):Obj:=cA (en P "__module__" 667 (S "grammarmill.grammar" 658)::(C0 P++[ak P "__dict__" 699 341,ak P "__weakref__" 701 342,en P "__doc__" 702 .none])) 4
def nP:Obj:=d9 340 "Rule" [(.type "object")] [(.type "object")] 339 [] none 660 668 "object.__new__"
def nQ:Obj:=dh "__dict__" 698 340 [(.builtin "function.__dict__"),(.builtin "function.__dict__#set")]
def nR:Obj:=dh "__weakref__" 700 340 [(.builtin "ExceptionGroup.__weakref__"),.none]
def tW:Obj:=eA 340
def tX:Obj:=cI "object.__init_subclass__" (.ref 340)
def tY:Obj:=cI "type.__prepare__" (.type "type")
def C1 (P:Params):List DictEntry:=[en P "__firstlineno__" 716 (.int (264) 715),ak P "__init__" 722 356,ak P "symbol_count" 729 363,ak P "is_terminal" 737 370,ak P "is_middle" 745 377,ak P "number" 753 384,ak P "rules_of" 761 391,ak P "item" 770 398,ak P "rule_of" 778 405,ak P "dot_of" 786 412,ak P "after" 796 419,ak P "__static_attributes__" 807 420]
def tZ (P:Params):Obj:=cA (en P "__module__" 712 (S "grammarmill.grammar" 658)::en P "__qualname__" 714 (S "Grammar" 713)::C1 P) 14
def t4:Obj:=dS 4 [(266,355),(282,362),(285,369),(288,376),(291,383),(294,390),(297,397),(300,404),(303,411),(306,418)]
def t8:Obj:=dQ 350 707 "Grammar" 264 710
def t9:Obj:=dR 350 347 ey
def ub:Obj:=aW "Grammar.__init__" (cS 23 0)
def nU:Obj:=fF 355 717 "Grammar.__init__" (cS 23 0) 266 7 720
def nV:Obj:=aX ey 355 "Grammar.__init__" (cS 23 0) .none
def nW:Obj:=aC 726 ["self"]
def uc:Obj:=aW "Grammar.symbol_count" (cS 23 1)
def nZ:Obj:=aZ 362 723 "Grammar.symbol_count" (cS 23 1) 282 1 727
def n0:Obj:=aX ey 362 "Grammar.symbol_count" (cS 23 1) .none
def oe:Obj:=aC 733 ["self","symbol"]
def ud:Obj:=aW "Grammar.is_terminal" (cS 23 2)
def og:Obj:=aZ 369 730 "Grammar.is_terminal" (cS 23 2) 285 2 735
def oh:Obj:=aX ey 369 "Grammar.is_terminal" (cS 23 2) .none
def oj:Obj:=aC 741 ["self","symbol"]
def ue:Obj:=aW "Grammar.is_middle" (cS 23 3)
def om:Obj:=aZ 376 738 "Grammar.is_middle" (cS 23 3) 288 2 743
def oo:Obj:=aX ey 376 "Grammar.is_middle" (cS 23 3) .none
def op:Obj:=aC 749 ["self","name"]
def ug:Obj:=aW "Grammar.number" (cS 23 4)
def oq:Obj:=aZ 383 746 "Grammar.number" (cS 23 4) 291 2 751
def ot:Obj:=aX ey 383 "Grammar.number" (cS 23 4) .none
def ou:Obj:=aC 757 ["self","symbol"]
def uh:Obj:=aW "Grammar.rules_of" (cS 23 5)
def oy:Obj:=aZ 390 754 "Grammar.rules_of" (cS 23 5) 294 2 759
def oz:Obj:=aX ey 390 "Grammar.rules_of" (cS 23 5) .none
def oA:Obj:=aC 765 ["self","rule","dot"]
def ui:Obj:=aW "Grammar.item" (cS 23 6)
def oB:Obj:=aZ 397 762 "Grammar.item" (cS 23 6) 297 3 768
def oC:Obj:=aX ey 397 "Grammar.item" (cS 23 6) .none
def oD:Obj:=aC 774 ["self","item"]
def uk:Obj:=aW "Grammar.rule_of" (cS 23 7)
def oE:Obj:=aZ 404 771 "Grammar.rule_of" (cS 23 7) 300 2 776
def oF:Obj:=aX ey 404 "Grammar.rule_of" (cS 23 7) .none
def oG:Obj:=aC 782 ["self","item"]
def un:Obj:=aW "Grammar.dot_of" (cS 23 8)
def oH:Obj:=aZ 411 779 "Grammar.dot_of" (cS 23 8) 303 2 784
def oJ:Obj:=aX ey 411 "Grammar.dot_of" (cS 23 8) .none
def oK:Obj:=aC 790 ["self","item","right","dot"]
def uo:Obj:=aW "Grammar.after" (cS 23 9)
def oL:Obj:=aZ 418 787 "Grammar.after" (cS 23 9) 306 2 794
def oM:Obj:=aX ey 418 "Grammar.after" (cS 23 9) .none
def oO:Obj:=aC 797 ["by_left","expect","item_count","levels","names","offsets","owners","rules","start","terminal_count"]
def oP (P:Params):Obj:=cA (en P "__module__" 712 (S "grammarmill.grammar" 658)::(C1 P++[ak P "__dict__" 809 423,ak P "__weakref__" 811 424,en P "__doc__" 812 .none])) 4
def oQ:Obj:=d9 422 "Grammar" [(.type "object")] [(.type "object")] 421 [] none 705 713 "object.__new__"
def oR:Obj:=dh "__dict__" 808 422 [(.builtin "function.__dict__"),(.builtin "function.__dict__#set")]
def oS:Obj:=dh "__weakref__" 810 422 [(.builtin "ExceptionGroup.__weakref__"),.none]
def uq:Obj:=eA 422
def ur:Obj:=cI "object.__init_subclass__" (.ref 422)
def ut:Obj:=bR 25
def oU:Obj:=fF 430 817 "spread" (tS 25) 311 2 820
def oV:Obj:=bS iM 430 25 .none
def oW:Obj:=aC 826 ["grammar"]
def uu:Obj:=bR 26
def oX:Obj:=cE 437 823 26 337 1 827
def oY:Obj:=bS iM 437 26 .none
def pb:Obj:=aC 833 ["symbols","nullables","firsts","mask","symbol"]
def uv:Obj:=bR 27
def pd:Obj:=cE 444 830 27 339 3 838
def pf:Obj:=bS iM 444 27 .none
def pg:Obj:=aC 844 ["grammar","nullables","firsts","symbol","is_grown","rule","mask"]
def uw:Obj:=bR 28
def po:Obj:=cE 451 841 28 346 1 851
def pq:Obj:=bS iM 451 28 .none
def pt:Obj:=aC 857 ["grammar","nullables","firsts","follows","is_grown","rule","behind","symbol"]
def ux:Obj:=bR 29
def pu:Obj:=cE 458 854 29 360 1 865
def pv:Obj:=bS iM 458 29 .none
def pz:Obj:=aC 871 ["rows","found","middle","one"]
def uy:Obj:=bR 30
def pA:Obj:=cE 465 868 30 378 1 875
def pB:Obj:=bS iM 465 30 .none
def uz:Obj:=cI "type.__prepare__" (.type "type")
def C2 (P:Params):List DictEntry:=[en P "__firstlineno__" 894 (.int (387) 893),ak P "__init__" 904 480,ak P "goto" 912 487,ak P "is_consistent" 919 494,ak P "__static_attributes__" 926 495]
def uA (P:Params):Obj:=cA (en P "__module__" 890 (S "grammarmill.lrzero" 878)::en P "__qualname__" 892 (S "LrState" 891)::C2 P) 7
def uB:Obj:=dS 4 [(389,479),(397,486),(400,493)]
def uC:Obj:=dQ 472 885 "LrState" 387 888
def uD:Obj:=dR 472 469 cN
def pD:Obj:=aC 898 ["self","number","kernel","symbol"]
def uE:Obj:=aW "LrState.__init__" (cS 33 0)
def pE:Obj:=aZ 479 895 "LrState.__init__" (cS 33 0) 389 4 902
def pG:Obj:=aX cN 479 "LrState.__init__" (cS 33 0) .none
def pH:Obj:=aC 908 ["self","symbol"]
def uG:Obj:=aW "LrState.goto" (cS 33 1)
def pI:Obj:=aZ 486 905 "LrState.goto" (cS 33 1) 397 2 910
def pJ:Obj:=aX cN 486 "LrState.goto" (cS 33 1) .none
def pK:Obj:=aC 916 ["self"]
def uI:Obj:=aW "LrState.is_consistent" (cS 33 2)
def pL:Obj:=aZ 493 913 "LrState.is_consistent" (cS 33 2) 400 1 917
def pM:Obj:=aX cN 493 "LrState.is_consistent" (cS 33 2) .none
def pO:Obj:=aC 920 ["items","kernel","moves","number","reductions","symbol"]
def pP (P:Params):Obj:=cA (en P "__module__" 890 (S "grammarmill.lrzero" 878)::(C2 P++[ak P "__dict__" 928 498,ak P "__weakref__" 930 499,en P "__doc__" 931 .none])) 4
def pQ:Obj:=d9 497 "LrState" [(.type "object")] [(.type "object")] 496 [] none 883 891 "object.__new__"
def pR:Obj:=dh "__dict__" 927 497 [(.builtin "function.__dict__"),(.builtin "function.__dict__#set")]
def pS:Obj:=dh "__weakref__" 929 497 [(.builtin "ExceptionGroup.__weakref__"),.none]
def uJ:Obj:=eA 497
def uK:Obj:=cI "object.__init_subclass__" (.ref 497)
def uL:Obj:=cI "type.__prepare__" (.type "type")
def C3 (P:Params):List DictEntry:=[en P "__firstlineno__" 945 (.int (402) 944),ak P "__init__" 955 515,ak P "wanted" 966 522,ak P "added" 978 529,ak P "close" 986 536,ak P "__static_attributes__" 989 537]
def uM (P:Params):Obj:=cA (en P "__module__" 941 (S "grammarmill.lrzero" 878)::en P "__qualname__" 943 (S "Closer" 942)::C3 P) 8
def uN:Obj:=dS 4 [(404,514),(412,521),(420,528),(429,535)]
def uO:Obj:=dQ 507 936 "Closer" 402 939
def uP:Obj:=dR 507 504 cN
def pU:Obj:=aC 949 ["self","grammar","rows","rule"]
def uR:Obj:=aW "Closer.__init__" (cS 34 0)
def pV:Obj:=aZ 514 946 "Closer.__init__" (cS 34 0) 404 2 953
def pW:Obj:=aX cN 514 "Closer.__init__" (cS 34 0) .none
def pY:Obj:=aC 959 ["self","kernel","mask","item","symbol"]
def uT:Obj:=aW "Closer.wanted" (cS 34 1)
def pZ:Obj:=aZ 521 956 "Closer.wanted" (cS 34 1) 412 2 964
def qb:Obj:=aX cN 521 "Closer.wanted" (cS 34 1) .none
def qc:Obj:=aC 970 ["self","kernel","found","symbol","number","item"]
def uU:Obj:=aW "Closer.added" (cS 34 2)
def qd:Obj:=aZ 528 967 "Closer.added" (cS 34 2) 420 2 976
def qe:Obj:=aX cN 528 "Closer.added" (cS 34 2) .none
def qf:Obj:=aC 982 ["self","kernel"]
def uV:Obj:=aW "Closer.close" (cS 34 3)
def qg:Obj:=aZ 535 979 "Closer.close" (cS 34 3) 429 2 984
def qh:Obj:=aX cN 535 "Closer.close" (cS 34 3) .none
def qi:Obj:=aC 987 ["firsts","grammar"]
def qj (P:Params):Obj:=cA (en P "__module__" 941 (S "grammarmill.lrzero" 878)::(C3 P++[ak P "__dict__" 991 540,ak P "__weakref__" 993 541,en P "__doc__" 994 .none])) 4
def qk:Obj:=d9 539 "Closer" [(.type "object")] [(.type "object")] 538 [] none 934 942 "object.__new__"
def qm:Obj:=dh "__dict__" 990 539 [(.builtin "function.__dict__"),(.builtin "function.__dict__#set")]
def qo:Obj:=dh "__weakref__" 992 539 [(.builtin "ExceptionGroup.__weakref__"),.none]
def uW:Obj:=eA 539
def uX:Obj:=cI "object.__init_subclass__" (.ref 539)
def qp:Obj:=aC 1000 ["grammar","item"]
def uY:Obj:=bR 35
def qq:Obj:=cE 549 997 35 431 2 1002
def qr:Obj:=bS cN 549 35 .none
def qt:Obj:=aC 1008 ["grammar","items","found","item","symbol","ordered"]
def u0:Obj:=bR 36
def qw:Obj:=cE 556 1005 36 433 2 1014
def qx:Obj:=bS cN 556 36 .none
def qy:Obj:=aC 1020 ["grammar","items","found","item"]
def u6:Obj:=bR 37
def qA:Obj:=cE 563 1017 37 445 2 1024
def qB:Obj:=bS cN 563 37 .none
def uj (P:Params):Obj:=cA (en P "__name__" 165 (S "law_nn0404_01" 1323)::(CZ P++[ak P "Automaton" 1100 616,ak P "Builder" 1159 658,ak P "build" 1166 669,ak P "digraph" 1187 676,ak P "Lookaheads" 1296 733,ak P "add_once" 1304 744,ak P "lalr_masks" 1311 751,ak P "slr_masks" 1322 758,ak P "_law_at" 1333 765,ak P "_law_side" 1339 770,ak P "_law_pairs" 1347 777,ak P "_law_grammar" 1358 784,ak P "_law_empty" 1364 789,ak P "_law_column" 1387 796,ak P "_law_next" 1402 803,ak P "_law_moved" 1416 810,ak P "_law_pushed" 1428 817,ak P "_law_heard" 1434 822,ak P "law" 1440 827])) 61
noncomputable def HW:List (Nat×Nat):=zP++[(451,570),(476,626),(504,668),(507,675),(541,682),(622,743),(625,750),(627,757),(635,764),(639,769),(641,776),(647,783),(653,788),(660,795),(684,802),(696,809),(703,816),(714,821),(718,826)]
def BJ:Obj:=dS 0 HW
def BK:Obj:=cI "type.__prepare__" (.type "type")
def C5 (P:Params):List DictEntry:=[en P "__firstlineno__" 1038 (.int (451) 1037),ak P "__init__" 1047 578,ak P "goto" 1056 585,ak P "walk" 1067 592,ak P "path" 1076 599,ak P "final_state" 1083 606,ak P "transition_count" 1090 613,ak P "__static_attributes__" 1093 614]
def BL (P:Params):Obj:=cA (en P "__module__" 1034 (S "grammarmill.lrzero" 878)::en P "__qualname__" 1036 (S "Automaton" 1035)::C5 P) 10
def BM:Obj:=dS 4 [(453,577),(457,584),(460,591),(468,598),(471,605),(474,612)]
def BN:Obj:=dQ 570 1029 "Automaton" 451 1032
def BO:Obj:=dR 570 567 cN
def u7:Obj:=aC 1042 ["self","grammar","states"]
def BP:Obj:=aW "Automaton.__init__" (cS 38 0)
def u8:Obj:=aZ 577 1039 "Automaton.__init__" (cS 38 0) 453 3 1045
def u9:Obj:=aX cN 577 "Automaton.__init__" (cS 38 0) .none
def vc:Obj:=aC 1051 ["self","state","symbol"]
def BQ:Obj:=aW "Automaton.goto" (cS 38 1)
def ve:Obj:=aZ 584 1048 "Automaton.goto" (cS 38 1) 457 3 1054
def vf:Obj:=aX cN 584 "Automaton.goto" (cS 38 1) .none
def vg:Obj:=aC 1060 ["self","state","symbols","here","symbol"]
def BR:Obj:=aW "Automaton.walk" (cS 38 2)
def vh:Obj:=aZ 591 1057 "Automaton.walk" (cS 38 2) 460 3 1065
def vj:Obj:=aX cN 591 "Automaton.walk" (cS 38 2) .none
def vk:Obj:=aC 1071 ["self","state","symbols"]
def BS:Obj:=aW "Automaton.path" (cS 38 3)
def vl:Obj:=aZ 598 1068 "Automaton.path" (cS 38 3) 468 3 1074
def vm:Obj:=aX cN 598 "Automaton.path" (cS 38 3) .none
def vq:Obj:=aC 1080 ["self"]
def BU:Obj:=aW "Automaton.final_state" (cS 38 4)
def vr:Obj:=aZ 605 1077 "Automaton.final_state" (cS 38 4) 471 1 1081
def vt:Obj:=aX cN 605 "Automaton.final_state" (cS 38 4) .none
def vu:Obj:=aC 1087 ["self"]
def BV:Obj:=aW "Automaton.transition_count" (cS 38 5)
def vx:Obj:=aZ 612 1084 "Automaton.transition_count" (cS 38 5) 474 1 1088
def vz:Obj:=aX cN 612 "Automaton.transition_count" (cS 38 5) .none
def vA:Obj:=aC 1091 ["grammar","states"]
def vB (P:Params):Obj:=cA (en P "__module__" 1034 (S "grammarmill.lrzero" 878)::(C5 P++[ak P "__dict__" 1095 617,ak P "__weakref__" 1097 618,en P "__doc__" 1098 .none])) 4
def vC:Obj:=d9 616 "Automaton" [(.type "object")] [(.type "object")] 615 [] none 1027 1035 "object.__new__"
def vD:Obj:=dh "__dict__" 1094 616 [(.builtin "function.__dict__"),(.builtin "function.__dict__#set")]
def vF:Obj:=dh "__weakref__" 1096 616 [(.builtin "ExceptionGroup.__weakref__"),.none]
def BW:Obj:=eA 616
def BX:Obj:=cI "object.__init_subclass__" (.ref 616)
def BY:Obj:=cI "type.__prepare__" (.type "type")
def C6 (P:Params):List DictEntry:=[en P "__firstlineno__" 1112 (.int (476) 1111),ak P "__init__" 1120 634,ak P "number_of" 1129 641,ak P "expand" 1139 648,ak P "built" 1147 655,ak P "__static_attributes__" 1152 656]
def BZ (P:Params):Obj:=cA (en P "__module__" 1108 (S "grammarmill.lrzero" 878)::en P "__qualname__" 1110 (S "Builder" 1109)::C6 P) 8
def B0:Obj:=dS 4 [(478,633),(484,640),(490,647),(497,654)]
def B1:Obj:=dQ 626 1103 "Builder" 476 1106
def B2:Obj:=dR 626 623 cN
def vG:Obj:=aC 1116 ["self","grammar"]
def B3:Obj:=aW "Builder.__init__" (cS 39 0)
def vH:Obj:=aZ 633 1113 "Builder.__init__" (cS 39 0) 478 2 1118
def vI:Obj:=aX cN 633 "Builder.__init__" (cS 39 0) .none
def vJ:Obj:=aC 1124 ["self","kernel","symbol"]
def B4:Obj:=aW "Builder.number_of" (cS 39 1)
def vK:Obj:=aZ 640 1121 "Builder.number_of" (cS 39 1) 484 3 1127
def vL:Obj:=aX cN 640 "Builder.number_of" (cS 39 1) .none
def vM:Obj:=aC 1133 ["self","state","behind","symbol"]
def B5:Obj:=aW "Builder.expand" (cS 39 2)
def vO:Obj:=aZ 647 1130 "Builder.expand" (cS 39 2) 490 2 1137
def vP:Obj:=aX cN 647 "Builder.expand" (cS 39 2) .none
def vQ:Obj:=aC 1143 ["self","at"]
def B6:Obj:=aW "Builder.built" (cS 39 3)
def vR:Obj:=aZ 654 1140 "Builder.built" (cS 39 3) 497 1 1145
def vS:Obj:=aX cN 654 "Builder.built" (cS 39 3) .none
def vT:Obj:=aC 1148 ["closer","grammar","numbers","states"]
def vU (P:Params):Obj:=cA (en P "__module__" 1108 (S "grammarmill.lrzero" 878)::(C6 P++[ak P "__dict__" 1154 659,ak P "__weakref__" 1156 660,en P "__doc__" 1157 .none])) 4
def vV:Obj:=d9 658 "Builder" [(.type "object")] [(.type "object")] 657 [] none 1101 1109 "object.__new__"
def vW:Obj:=dh "__dict__" 1153 658 [(.builtin "function.__dict__"),(.builtin "function.__dict__#set")]
def vY:Obj:=dh "__weakref__" 1155 658 [(.builtin "ExceptionGroup.__weakref__"),.none]
def B7:Obj:=eA 658
def B8:Obj:=cI "object.__init_subclass__" (.ref 658)
def vZ:Obj:=aC 1163 ["grammar"]
def B9:Obj:=bR 40
def v5:Obj:=cE 668 1160 40 504 1 1164
def v6:Obj:=bS cN 668 40 .none
def v7:Obj:=aC 1172 ["count","relation","masks","result","heights","done","pile","start","frames","frame","x","y","last"]
def Ca:Obj:=bR 42
def v8:Obj:=cE 675 1169 42 507 3 1185
def v9:Obj:=bS eL 675 42 .none
def Cb:Obj:=cI "type.__prepare__" (.type "type")
def C7 (P:Params):List DictEntry:=[en P "__firstlineno__" 1199 (.int (541) 1198),ak P "__init__" 1205 688,ak P "number_transitions" 1215 695,ak P "find_reads" 1230 702,ak P "find_includes" 1249 709,ak P "open_ends" 1258 716,ak P "joined_masks" 1269 723,ak P "sizes" 1276 730,ak P "__static_attributes__" 1289 731]
def Cc (P:Params):Obj:=cA (en P "__module__" 1195 (S "grammarmill.lookahead" 1167)::en P "__qualname__" 1197 (S "Lookaheads" 1196)::C7 P) 11
def Cd:Obj:=dS 4 [(543,687),(561,694),(569,701),(584,708),(605,715),(611,722),(620,729)]
def Ce:Obj:=dQ 682 1190 "Lookaheads" 541 1193
def Cf:Obj:=dR 682 679 eL
def Cg:Obj:=aW "Lookaheads.__init__" (cS 43 0)
def wa:Obj:=fF 687 1200 "Lookaheads.__init__" (cS 43 0) 543 2 1203
def wb:Obj:=aX eL 687 "Lookaheads.__init__" (cS 43 0) .none
def wc:Obj:=aC 1209 ["self","grammar","state","symbol"]
def Ci:Obj:=aW "Lookaheads.number_transitions" (cS 43 1)
def we:Obj:=aZ 694 1206 "Lookaheads.number_transitions" (cS 43 1) 561 1 1213
def wf:Obj:=aX eL 694 "Lookaheads.number_transitions" (cS 43 1) .none
def wg:Obj:=aC 1219 ["self","grammar","state","symbol","goal","mask","row","moves","later"]
def Cj:Obj:=aW "Lookaheads.find_reads" (cS 43 2)
def wi:Obj:=aZ 701 1216 "Lookaheads.find_reads" (cS 43 2) 569 1 1228
def wj:Obj:=aX eL 701 "Lookaheads.find_reads" (cS 43 2) .none
def wk:Obj:=aC 1234 ["self","grammar","state","rule","x","first","left","right","ends","at","spot","symbol","inner"]
def Ck:Obj:=aW "Lookaheads.find_includes" (cS 43 3)
def wm:Obj:=aZ 708 1231 "Lookaheads.find_includes" (cS 43 3) 584 1 1247
def wo:Obj:=aX eL 708 "Lookaheads.find_includes" (cS 43 3) .none
def wr:Obj:=aC 1253 ["self","right","spot"]
def Cm:Obj:=aW "Lookaheads.open_ends" (cS 43 4)
def wt:Obj:=aZ 715 1250 "Lookaheads.open_ends" (cS 43 4) 605 2 1256
def wu:Obj:=aX eL 715 "Lookaheads.open_ends" (cS 43 4) .none
def wv:Obj:=aC 1262 ["self","masks","pair","mask","x"]
def Cn:Obj:=aW "Lookaheads.joined_masks" (cS 43 5)
def ww:Obj:=aZ 722 1259 "Lookaheads.joined_masks" (cS 43 5) 611 1 1267
def wx:Obj:=aX eL 722 "Lookaheads.joined_masks" (cS 43 5) .none
def wy:Obj:=aC 1273 ["self"]
def Co:Obj:=aW "Lookaheads.sizes" (cS 43 6)
def wz:Obj:=aZ 729 1270 "Lookaheads.sizes" (cS 43 6) 620 1 1274
def wB:Obj:=aX eL 729 "Lookaheads.sizes" (cS 43 6) .none
def wC:Obj:=aC 1277 ["automaton","direct","follow_masks","includes","index","lookback","masks","nullables","read_masks","reads","transitions","turns"]
def wD (P:Params):Obj:=cA (en P "__module__" 1195 (S "grammarmill.lookahead" 1167)::(C7 P++[ak P "__dict__" 1291 734,ak P "__weakref__" 1293 735,en P "__doc__" 1294 .none])) 4
def wE:Obj:=d9 733 "Lookaheads" [(.type "object")] [(.type "object")] 732 [] none 1188 1196 "object.__new__"
def wF:Obj:=dh "__dict__" 1290 733 [(.builtin "function.__dict__"),(.builtin "function.__dict__#set")]
def wG:Obj:=dh "__weakref__" 1292 733 [(.builtin "ExceptionGroup.__weakref__"),.none]
def Cp:Obj:=eA 733
def Cq:Obj:=cI "object.__init_subclass__" (.ref 733)
def wI:Obj:=aC 1300 ["row","number"]
def Cr:Obj:=bR 44
def wJ:Obj:=cE 743 1297 44 622 2 1302
def wK:Obj:=bS eL 743 44 .none
def wL:Obj:=aC 1308 ["automaton"]
def Cs:Obj:=bR 45
def wN:Obj:=cE 750 1305 45 625 1 1309
def wO:Obj:=bS eL 750 45 .none
def wP:Obj:=aC 1315 ["automaton","follows","masks","state","rule"]
def Ct:Obj:=bR 46
def wQ:Obj:=cE 757 1312 46 627 1 1320
def wR:Obj:=bS eL 757 46 .none
def wS:Obj:=aC 1328 ["script","k","many"]
def Cu:Obj:=bR 48
def wT:Obj:=cE 764 1325 48 635 3 1331
def wU:Obj:=bS fi 764 48 .none
def Cv:Obj:=bR 49
def wV:Obj:=fF 769 1334 "_law_side" (tS 49) 639 4 1337
def wW:Obj:=bS fi 769 49 .none
def wX:Obj:=aC 1343 ["script","pairs"]
def Cw:Obj:=bR 50
def wY:Obj:=cE 776 1340 50 641 1 1345
def wZ:Obj:=bS fi 776 50 .none
def w3:Obj:=aC 1351 ["pairs","rules","left","right","names"]
def Cx:Obj:=bR 51
def w4:Obj:=cE 783 1348 51 647 1 1356
def w6:Obj:=bS fi 783 51 .none
def Cy:Obj:=bR 52
def w7:Obj:=fF 788 1359 "_law_empty" (tS 52) 653 1 1362
def w9:Obj:=bS fi 788 52 .none
def xb:Obj:=aC 1368 ["pairs","empty","chart","begun","column","spot","rule","dot","origin","left","right","more","earlier","other","side","number","entry"]
def Cz:Obj:=bR 53
def xc:Obj:=cE 795 1365 53 660 4 1385
def xe:Obj:=bS fi 795 53 .none
def xf:Obj:=aC 1391 ["pairs","column","found","rule","dot","origin","left","right","symbol"]
def CA:Obj:=bR 54
def xj:Obj:=cE 802 1388 54 684 2 1400
def xk:Obj:=bS fi 802 54 .none
def xt:Obj:=aC 1406 ["pairs","column","symbol","found","rule","dot","origin","right"]
def CB:Obj:=bR 55
def xu:Obj:=cE 809 1403 55 696 3 1414
def xv:Obj:=bS fi 809 55 .none
def xw:Obj:=aC 1420 ["tables","states","symbol","stack","turn","deed"]
def CC:Obj:=bR 56
def xy:Obj:=cE 816 1417 56 703 3 1426
def xz:Obj:=bS fi 816 56 .none
def CD:Obj:=bR 57
def xE:Obj:=fF 821 1429 "_law_heard" (tS 57) 714 3 1432
def xH:Obj:=bS fi 821 57 .none
def CE:Obj:=bR 58
def xJ:Obj:=fF 826 1435 "law" (tS 58) 718 1 1438
def xM:Obj:=bS fi 826 58 .none
def G7 (P:Params):Heap:=⟨#[(boot_o_0 P),(boot_o_1 P),(boot_o_2 P),(boot_o_3 P),(boot_o_4 P),(boot_o_5 P),(boot_o_6 P),(boot_o_7 P),(boot_o_8 P),(boot_o_9 P),(boot_o_10 P),ad,af,o13,o14],lf⟩
def Vj (P:Params):BT:=(zN (boot_o_0 P) (zN (boot_o_1 P) (zN (boot_o_3 P) (zL (boot_o_7 P)) (zL ad)) (zN (boot_o_5 P) (zL (boot_o_9 P)) (zL o13))) (zN (boot_o_2 P) (zN (boot_o_4 P) (zL (boot_o_8 P)) (zL af)) (zN (boot_o_6 P) (zL (boot_o_10 P)) (zL o14))))
def Vk (P:Params):BT:=(zN (boot_o_0 P) (zN (boot_o_1 P) (zN (o3 P) (zN (boot_o_7 P) (zN ad (zN af (zN af (zN kT (zN mJ (zL pU) .nil) (zL oq)) (zN lR (zL ad) (zL af))) (zN qN (zN lA (zN tG (zL uX) .nil) (zL oK)) (zN ad (zL t9) (zL pE)))) (zN pC (zN ad (zN sH (zN af (zL uU) .nil) (zL ad)) (zN ju (zL tU) (zL ad))) (zN ad (zN af (zN af (zL af) .nil) (zL oV)) (zN ti (zL ad) (zL pO))))) (zN tf (zN ov (zN (wq P) (zN ad (zN ad (zL ad) .nil) (zL oz)) (zN ad (zL tQ) (zL pt))) (zN kJ (zN ad (zN nr (zL ad) .nil) (zL oR)) (zN (mC P) (zL nW) (zL pJ)))) (zN uZ (zN xP (zN lu (zN tE (zL qg) .nil) (zL af)) (zN l6 (zL tW) (zL uB))) (zN af (zN lJ (zL nE) (zL ad)) (zN tr (zL ue) (zL uL)))))) (zN ad (zN sV (zN nS (zN qF (zN kW (zN ad (zL pW) .nil) (zL ou)) (zN lT (zL ad) (zL po))) (zN qP (zN lE (zN np (zL ad) .nil) (zL oM)) (zN te (zL nU) (zL pH)))) (zN uQ (zN ad (zN af (zN mU (zL af) .nil) (zL uk)) (zN lY (zL (nO P)) (zL ad))) (zN sC (zN lH (zN nD (zL qA) .nil) (zL ad)) (zN to (zL ad) (zL pS))))) (zN tC (zN oT (zN wM (zN ad (zN tB (zL ad) .nil) (zL ad)) (zN lV (zL ad) (zL pv))) (zN ad (zN sP (zN nA (zL u0) .nil) (zL ad)) (zN ad (zL n0) (zL ad)))) (zN qD (zN af (zN lx (zN (m7 P) (zL qk) .nil) (zL oH)) (zN ad (zL (tZ P)) (zL af))) (zN kR (zN lL (zL nG) (zL uv)) (zN mH (zL af) (zL uO))))))) (zN (boot_o_5 P) (zN (boot_o_9 P) (zN o17 (zN ad (zN ad (zN sF (zN af (zL uR) .nil) (zL ad)) (zN sW (zL nJ) (zL ad))) (zN ad (zN (lC P) (zN ad (zL af) .nil) (zL uo)) (zN mu (zL af) (zL ad)))) (zN uH (zN qI (zN lp (zN ad (zL qe) .nil) (zL oD)) (zN ad (zL fC) (zL pA))) (zN kN (zN ad (zN ad (zL ad) .nil) (zL af)) (zN mG (zL og) (zL pQ))))) (zN ad (zN um (zN wA (zN kZ (zN mO (zL pZ) .nil) (zL af)) (zN s7 (zL tT) (zL ux))) (zN af (zN (sO P) (zN af (zL qt) .nil) (zL uq)) (zN tg (zL uc) (zL af)))) (zN ad (zN qL (zN ad (zN mZ (zL qi) .nil) (zL ad)) (zN af (zL ad) (zL uD))) (zN ad (zN sU (zL tM) (zL pb)) (zN ad (zL oo) (zL ad)))))) (zN o13 (zN lX (zN ad (zN ad (zN af (zN mM (zL af) .nil) (zL uh)) (zN (sZ P) (zL (tP P)) (zL ad))) (zN sA (zN sL (zN tI (zL qq) .nil) (zL (oP P))) (zN mA (zL ad) (zL uG)))) (zN ad (zN qJ (zN ad (zN ad (zL ad) .nil) (zL oF)) (zN tc (zL nQ) (zL (uA P)))) (zN kP (zN ad (zL ad) (zL oX)) (zN ad (zL oj) (zL uK))))) (zN nj (zN (ph P) (zN af (zN k9 (zN mQ (zL qc) .nil) (zL oB)) (zN af (zL nL) (zL af))) (zN kL (zN sR (zN iu (zL qx) .nil) (zL ut)) (zN mD (zL af) (zL pL)))) (zN vw (zN ad (zN sJ (zN m9 (zL qo) .nil) (zL ad)) (zN mh (zL t4) (zL ad))) (zN ad (zN (lP P) (zL af) (zL pf)) (zN tw (zL ad) (zL ad)))))))) (zN (o2 P) (zN (boot_o_4 P) (zN (boot_o_8 P) (zN af (zN nI (zN qE (zN ad (zN ad (zL ad) .nil) (zL ot)) (zN lS (zL tN) (zL pg))) (zN qO (zN lB (zN tH (zL ad) .nil) (zL ad)) (zN af (zL ad) (zL pG)))) (zN uF (zN xh (zN lg (zN mR (zL qd) .nil) (zL af)) (zN o208 (zL nM) (zL uy))) (zN af (zN lG (zN nC (zL qy) .nil) (zL ad)) (zN mF (zL ud) (zL (pP P)))))) (zN (tn P) (zN ad (zN ad (zN sG (zN af (zL uT) .nil) (zL ad)) (zN s6 (zL tR) (zL ad))) (zN ad (zN sN (zN ad (zL af) .nil) (zL oS)) (zN ip (zL ad) (zL ad)))) (zN u5 (zN qK (zN lw (zN mW (zL qh) .nil) (zL oG)) (zN ad (zL tX) (zL uC))) (zN kQ (zN ad (zL ad) (zL af)) (zN tv (zL om) (zL (uM P))))))) (zN Re (zN lU (zN nY (zN qG (zN ad (zN tA (zL ad) .nil) (zL ad)) (zN sY (zL tO) (zL pq))) (zN ad (zN lF (zN ad (zL uY) .nil) (zL oO)) (zN mw (zL nV) (zL ad)))) (zN (uS P) (zN af (zN lq (zN mV (zL qf) .nil) (zL oE)) (zN ad (zL nP) (zL uz))) (zN kO (zN lI (zN fB (zL qB) .nil) (zL uu)) (zN (tp P) (zL af) (zL uJ))))) (zN tF (zN oZ (zN ad (zN af (zN mP (zL af) .nil) (zL ui)) (zN lW (zL af) (zL ad))) (zN sB (zN sQ (zN nB (zL qw) .nil) (zL af)) (zN af (zL ad) (zL uI)))) (zN vn (zN qM (zN ad (zN m8 (zL qm) .nil) (zL oJ)) (zN td (zL ad) (zL pD))) (zN kS (zN lO (zL ad) (zL pd)) (zN ad (zL op) (zL uP))))))) (zN (boot_o_6 P) (zN (boot_o_10 P) (zN ad (zN tV (zN vX (zN kU (zN mL (zL pV) .nil) (zL af)) (zN sX (zL nK) (zL uw))) (zN af (zN lD (zN af (zL qp) .nil) (zL oL)) (zN ad (zL ub) (zL af)))) (zN pT (zN jv (zN ad (zN tD (zL ad) .nil) (zL ad)) (zN af (zL nN) (zL pB))) (zN ad (zN sT (zN tL (zL u6) .nil) (zL oW)) (zN ad (zL oh) (zL pR))))) (zN tz (zN oN (zN wH (zN k7 (zN ad (zL qb) .nil) (zL oA)) (zN s8 (zL iw) (zL pu))) (zN kK (zN ad (zN tJ (zL ad) .nil) (zL ur)) (zN th (zL nZ) (zL pK)))) (zN (qC P) (zN ad (zN af (zN m6 (zL (qj P)) .nil) (zL un)) (zN l7 (zL tY) (zL ad))) (zN sD (zN lK (zL nF) (zL ad)) (zN af (zL ad) (zL uN)))))) (zN o14 (zN l9 (zN af (zN wh (zN kY (zN mN (zL pY) .nil) (zL oy)) (zN jt (zL ad) (zL af))) (zN kI (zN sM (zN nq (zL qr) .nil) (zL oQ)) (zN mB (zL af) (zL pI)))) (zN af (zN ad (zN sI (zN af (zL uV) .nil) (zL ad)) (zN lZ (zL nR) (zL ad))) (zN ad (zN af (zL af) (zL oY)) (zN tq (zL ad) (zL ad))))) (zN ad (zN py (zN qH (zN ad (zN ad (zL ad) .nil) (zL oC)) (zN s9 (zL ad) (zL pz))) (zN kM (zN ad (zN ad (zL ad) .nil) (zL oU)) (zN ad (zL oe) (zL pM)))) (zN ad (zN xQ (zN ly (zN nh (zL uW) .nil) (zL af)) (zN mo (zL t8) (zL uE))) (zN af (zN lQ (zL nH) (zL ad)) (zN mI (zL ug) (zL af)))))))))
def Vl (P:Params):BT:=(zN (boot_o_0 P) (zN (boot_o_1 P) (zN (uj P) (zN (boot_o_7 P) (zN ad (zN af (zN af (zN kT (zN mJ (zL pU) (zL af)) (zN oq (zL B4) .nil)) (zN lR (zN ad (zL ad) .nil) (zN af (zL ad) .nil))) (zN qN (zN lA (zN tG (zL uX) (zL xf)) (zN oK (zL af) .nil)) (zN ad (zN t9 (zL ad) .nil) (zN pE (zL wG) .nil)))) (zN pC (zN ad (zN sH (zN af (zL uU) (zL w4)) (zN ad (zL vS) .nil)) (zN ju (zN tU (zL vh) .nil) (zN ad (zL wv) .nil))) (zN ad (zN af (zN af (zL af) (zL CC)) (zN oV (zL wa) .nil)) (zN ti (zN ad (zL (BZ P)) .nil) (zN pO (zL wO) .nil))))) (zN tf (zN ov (zN (wq P) (zN ad (zN ad (zL ad) (zL Cw)) (zN oz (zL vO) .nil)) (zN ad (zN tQ (zL BQ) .nil) (zN pt (zL af) .nil))) (zN kJ (zN ad (zN nr (zL ad) (zL ad)) (zN oR (zL (Cc P)) .nil)) (zN (mC P) (zN nW (zL (vB P)) .nil) (zN pJ (zL wJ) .nil)))) (zN uZ (zN xP (zN lu (zN tE (zL qg) (zL af)) (zN af (zL ad) .nil)) (zN l6 (zN tW (zL vm) .nil) (zN uB (zL ad) .nil))) (zN af (zN lJ (zN nE (zL (BL P)) (zL ad)) (zN ad (zL wf) .nil)) (zN tr (zN ue (zL ad) .nil) (zN uL (zL ad) .nil)))))) (zN ad (zN sV (zN nS (zN qF (zN kW (zN ad (zL pW) (zL ad)) (zN ou (zL af) .nil)) (zN lT (zN ad (zL ad) .nil) (zN po (zL Ck) .nil))) (zN qP (zN lE (zN np (zL ad) (zL xk)) (zN oM (zL v8) .nil)) (zN te (zN nU (zL BV) .nil) (zN pH (zL af) .nil)))) (zN uQ (zN ad (zN af (zN mU (zL af) (zL Cy)) (zN uk (zL vW) .nil)) (zN lY (zN (nO P) (zL vk) .nil) (zN ad (zL wx) .nil))) (zN sC (zN lH (zN nD (zL qA) (zL af)) (zN ad (zL wc) .nil)) (zN to (zN ad (zL B2) .nil) (zN pS (zL ad) .nil))))) (zN tC (zN oT (zN wM (zN ad (zN tB (zL ad) (zL af)) (zN ad (zL vQ) .nil)) (zN lV (zN ad (zL af) .nil) (zN pv (zL wt) .nil))) (zN ad (zN sP (zN nA (zL u0) (zL ad)) (zN ad (zL Cf) .nil)) (zN ad (zN n0 (zL BW) .nil) (zN ad (zL wL) .nil)))) (zN qD (zN af (zN lx (zN (m7 P) (zL qk) (zL xc)) (zN oH (zL B9) .nil)) (zN ad (zN (tZ P) (zL ad) .nil) (zN af (zL wC) .nil))) (zN kR (zN lL (zN nG (zL BO) (zL xM)) (zN uv (zL ad) .nil)) (zN mH (zN af (zL ad) .nil) (zN uO (zL Cu) .nil))))))) (zN (boot_o_5 P) (zN (boot_o_9 P) (zN o17 (zN ad (zN ad (zN sF (zN af (zL uR) (zL wV)) (zN ad (zL vL) .nil)) (zN sW (zN nJ (zL u8) .nil) (zN ad (zL wk) .nil))) (zN ad (zN (lC P) (zN ad (zL af) (zL CA)) (zN uo (zL ad) .nil)) (zN mu (zN af (zL vu) .nil) (zN ad (zL Cq) .nil)))) (zN uH (zN qI (zN lp (zN ad (zL qe) (zL ad)) (zN oD (zL (vU P)) .nil)) (zN ad (zN fC (zL ad) .nil) (zN pA (zL Cn) .nil))) (zN kN (zN ad (zN ad (zL ad) (zL xz)) (zN af (zL ad) .nil)) (zN mG (zN og (zL B0) .nil) (zN pQ (zL af) .nil))))) (zN ad (zN um (zN wA (zN kZ (zN mO (zL pZ) (zL wZ)) (zN af (zL ad) .nil)) (zN s7 (zN tT (zL vf) .nil) (zN ux (zL ad) .nil))) (zN af (zN (sO P) (zN af (zL qt) (zL xu)) (zN uq (zL Cd) .nil)) (zN tg (zN uc (zL vD) .nil) (zN af (zL ad) .nil)))) (zN ad (zN qL (zN ad (zN mZ (zL qi) (zL ad)) (zN ad (zL vZ) .nil)) (zN af (zN ad (zL af) .nil) (zN uD (zL wz) .nil))) (zN ad (zN sU (zN tM (zL BM) (zL CE)) (zN pb (zL af) .nil)) (zN ad (zN oo (zL vH) .nil) (zN ad (zL wS) .nil)))))) (zN o13 (zN lX (zN ad (zN ad (zN af (zN mM (zL af) (zL wX)) (zN uh (zL ad) .nil)) (zN (sZ P) (zN (tP P) (zL vc) .nil) (zN ad (zL wo) .nil))) (zN sA (zN sL (zN tI (zL qq) (zL af)) (zN (oP P) (zL ad) .nil)) (zN mA (zN ad (zL vz) .nil) (zN uG (zL ad) .nil)))) (zN ad (zN qJ (zN ad (zN ad (zL ad) (zL w9)) (zN oF (zL B7) .nil)) (zN tc (zN nQ (zL BS) .nil) (zN (uA P) (zL af) .nil))) (zN kP (zN ad (zN ad (zL ad) (zL xE)) (zN oX (zL Ci) .nil)) (zN ad (zN oj (zL af) .nil) (zN uK (zL wQ) .nil))))) (zN nj (zN (ph P) (zN af (zN k9 (zN mQ (zL qc) (zL ad)) (zN oB (zL B6) .nil)) (zN af (zN nL (zL ad) .nil) (zN af (zL ad) .nil))) (zN kL (zN sR (zN iu (zL qx) (zL xw)) (zN ut (zL af) .nil)) (zN mD (zN af (zL ad) .nil) (zN pL (zL Cs) .nil)))) (zN vw (zN ad (zN sJ (zN m9 (zL qo) (zL ad)) (zN ad (zL v6) .nil)) (zN mh (zN t4 (zL vr) .nil) (zN ad (zL wE) .nil))) (zN ad (zN (lP P) (zN af (zL af) .nil) (zN pf (zL wi) .nil)) (zN tw (zN ad (zL vJ) .nil) (zN ad (zL wU) .nil)))))))) (zN (o2 P) (zN (boot_o_4 P) (zN (boot_o_8 P) (zN af (zN nI (zN qE (zN ad (zN ad (zL ad) (zL Cv)) (zN ot (zL vK) .nil)) (zN lS (zN tN (zL BP) .nil) (zN pg (zL af) .nil))) (zN qO (zN lB (zN tH (zL ad) (zL ad)) (zN ad (zL v7) .nil)) (zN af (zN ad (zL af) .nil) (zN pG (zL Cp) .nil)))) (zN uF (zN xh (zN lg (zN mR (zL qd) (zL w6)) (zN af (zL vT) .nil)) (zN o208 (zN nM (zL vj) .nil) (zN uy (zL ad) .nil))) (zN af (zN lG (zN nC (zL qy) (zL xy)) (zN ad (zL wb) .nil)) (zN mF (zN ud (zL ad) .nil) (zN (pP P) (zL ad) .nil))))) (zN (tn P) (zN ad (zN ad (zN sG (zN af (zL uT) (zL wY)) (zN ad (zL vP) .nil)) (zN s6 (zN tR (zL ve) .nil) (zN ad (zL wr) .nil))) (zN ad (zN sN (zN ad (zL af) (zL CB)) (zN oS (zL ad) .nil)) (zN ip (zN ad (zL vC) .nil) (zN ad (zL wK) .nil)))) (zN u5 (zN qK (zN lw (zN mW (zL qh) (zL xb)) (zN oG (zL af) .nil)) (zN ad (zN tX (zL ad) .nil) (zN uC (zL Co) .nil))) (zN kQ (zN ad (zN ad (zL ad) (zL af)) (zN af (zL ad) .nil)) (zN tv (zN om (zL B3) .nil) (zN (uM P) (zL af) .nil)))))) (zN BJ (zN lU (zN nY (zN qG (zN ad (zN tA (zL ad) (zL af)) (zN ad (zL vM) .nil)) (zN sY (zN tO (zL af) .nil) (zN pq (zL wm) .nil))) (zN ad (zN lF (zN ad (zL uY) (zL ad)) (zN oO (zL v9) .nil)) (zN mw (zN nV (zL vx) .nil) (zN ad (zL wI) .nil)))) (zN (uS P) (zN af (zN lq (zN mV (zL qf) (zL w7)) (zN oE (zL vY) .nil)) (zN ad (zN nP (zL ad) .nil) (zN uz (zL ad) .nil))) (zN kO (zN lI (zN fB (zL qB) (zL CD)) (zN uu (zL ad) .nil)) (zN (tp P) (zN af (zL ad) .nil) (zN uJ (zL Ct) .nil))))) (zN tF (zN oZ (zN ad (zN af (zN mP (zL af) (zL w3)) (zN ui (zL ad) .nil)) (zN lW (zN af (zL vg) .nil) (zN ad (zL wu) .nil))) (zN sB (zN sQ (zN nB (zL qw) (zL af)) (zN af (zL ad) .nil)) (zN af (zN ad (zL BX) .nil) (zN uI (zL ad) .nil)))) (zN vn (zN qM (zN ad (zN m8 (zL qm) (zL xe)) (zN oJ (zL v5) .nil)) (zN td (zN ad (zL BU) .nil) (zN pD (zL (wD P)) .nil))) (zN kS (zN lO (zN ad (zL ad) .nil) (zN pd (zL Cj) .nil)) (zN ad (zN op (zL af) .nil) (zN uP (zL wT) .nil))))))) (zN (boot_o_6 P) (zN (boot_o_10 P) (zN ad (zN tV (zN vX (zN kU (zN mL (zL pV) (zL wW)) (zN af (zL ad) .nil)) (zN sX (zN nK (zL u9) .nil) (zN uw (zL ad) .nil))) (zN af (zN lD (zN af (zL qp) (zL xj)) (zN oL (zL Ca) .nil)) (zN ad (zN ub (zL ad) .nil) (zN af (zL ad) .nil)))) (zN pT (zN jv (zN ad (zN tD (zL ad) (zL af)) (zN ad (zL vV) .nil)) (zN af (zN nN (zL af) .nil) (zN pB (zL ww) .nil))) (zN ad (zN sT (zN tL (zL u6) (zL ad)) (zN oW (zL af) .nil)) (zN ad (zN oh (zL B1) .nil) (zN pR (zL wP) .nil))))) (zN tz (zN oN (zN wH (zN k7 (zN ad (zL qb) (zL ad)) (zN oA (zL af) .nil)) (zN s8 (zN iw (zL ad) .nil) (zN pu (zL Cm) .nil))) (zN kK (zN ad (zN tJ (zL ad) (zL xv)) (zN ur (zL Ce) .nil)) (zN th (zN nZ (zL vF) .nil) (zN pK (zL af) .nil)))) (zN (qC P) (zN ad (zN af (zN m6 (zL (qj P)) (zL Cz)) (zN un (zL ad) .nil)) (zN l7 (zN tY (zL vq) .nil) (zN ad (zL wB) .nil))) (zN sD (zN lK (zN nF (zL BN) (zL xJ)) (zN ad (zL wg) .nil)) (zN af (zN ad (zL vI) .nil) (zN uN (zL ad) .nil)))))) (zN o14 (zN l9 (zN af (zN wh (zN kY (zN mN (zL pY) (zL ad)) (zN oy (zL B5) .nil)) (zN jt (zN ad (zL ad) .nil) (zN af (zL ad) .nil))) (zN kI (zN sM (zN nq (zL qr) (zL xt)) (zN oQ (zL Cb) .nil)) (zN mB (zN af (zL vA) .nil) (zN pI (zL Cr) .nil)))) (zN af (zN ad (zN sI (zN af (zL uV) (zL ad)) (zN ad (zL B8) .nil)) (zN lZ (zN nR (zL vl) .nil) (zN ad (zL wy) .nil))) (zN ad (zN af (zN af (zL BK) (zL xH)) (zN oY (zL we) .nil)) (zN tq (zN ad (zL vG) .nil) (zN ad (zL wR) .nil))))) (zN ad (zN py (zN qH (zN ad (zN ad (zL ad) (zL Cx)) (zN oC (zL vR) .nil)) (zN s9 (zN ad (zL BR) .nil) (zN pz (zL af) .nil))) (zN kM (zN ad (zN ad (zL ad) (zL ad)) (zN oU (zL Cg) .nil)) (zN ad (zN oe (zL BY) .nil) (zN pM (zL wN) .nil)))) (zN ad (zN xQ (zN ly (zN nh (zL uW) (zL af)) (zN af (zL ad) .nil)) (zN mo (zN t8 (zL vt) .nil) (zN uE (zL wF) .nil))) (zN af (zN lQ (zN nH (zL u7) .nil) (zN ad (zL wj) .nil)) (zN mI (zN ug (zL ad) .nil) (zN af (zL ad) .nil)))))))))
def jm (P:Params):Heap:=⟨#[(boot_o_0 P),(boot_o_1 P),(o2 P),(uj P),(boot_o_4 P),(boot_o_5 P),(boot_o_6 P),(boot_o_7 P),(boot_o_8 P),(boot_o_9 P),(boot_o_10 P),ad,BJ,o13,o14,ad,af,o17,ad,sV,lU,lX,l9,tf,(tn P),ad,tz,tC,tF,nj,ad,af,nI,ad,tV,nS,nY,ad,af,ov,ad,um,oN,oT,oZ,(ph P),py,pC,uF,uH,pT,uQ,(uS P),ad,af,uZ,u5,ad,(qC P),qD,vn,vw,ad,af,qE,ad,vX,qF,qG,ad,wh,(wq P),ad,wA,wH,wM,ad,af,qH,ad,xh,qI,jv,ad,af,qJ,ad,xP,qK,qL,ad,af,qM,ad,xQ,qN,qO,ad,af,qP,ad,sA,kI,kJ,ad,af,kK,ad,sB,kL,kM,ad,af,kN,ad,sC,kO,kP,ad,af,kQ,ad,sD,kR,kS,ad,af,kT,ad,sF,kU,kW,ad,af,kY,ad,sG,kZ,k7,ad,af,k9,ad,sH,lg,lp,ad,af,lq,ad,sI,lu,lw,ad,af,lx,ad,sJ,ly,lA,lB,(lC P),lD,lE,lF,sL,sM,ad,sN,(sO P),ad,sP,sQ,sR,ad,af,lG,ad,sT,lH,lI,ad,af,lJ,ad,sU,lK,lL,lO,(lP P),lQ,lR,lS,sW,sX,lT,sY,(sZ P),jt,ad,s6,s7,s8,lV,lW,af,s9,ju,o208,ad,af,lY,ad,tc,lZ,l6,ad,af,l7,ad,td,mh,mo,ad,af,mu,ad,te,mw,mA,mB,(mC P),ip,tg,th,ad,af,mD,ad,ti,mF,mG,ad,to,(tp P),ad,tq,tr,tv,ad,af,mH,ad,tw,mI,mJ,ad,af,mL,ad,tA,mM,mN,ad,af,mO,ad,tB,mP,mQ,ad,af,mR,ad,tD,mU,mV,ad,af,tE,mW,mZ,m6,(m7 P),m8,m9,nh,tG,tH,ad,af,np,ad,tI,nq,nr,ad,af,tJ,nA,nB,iu,ad,af,nC,ad,tL,nD,fB,ad,af,nE,ad,tM,nF,nG,ad,af,nH,ad,tN,nJ,nK,ad,tO,(tP P),ad,tQ,tR,tT,iw,ad,af,nL,ad,tU,nM,fC,nN,(nO P),nP,nQ,nR,tW,tX,ad,tY,(tZ P),ad,t4,t8,t9,ad,af,ub,nU,nV,ad,af,nW,ad,uc,nZ,n0,ad,af,oe,ad,ud,og,oh,ad,af,oj,ad,ue,om,oo,ad,af,op,ad,ug,oq,ot,ad,af,ou,ad,uh,oy,oz,ad,af,oA,ad,ui,oB,oC,ad,af,oD,ad,uk,oE,oF,ad,af,oG,ad,un,oH,oJ,ad,af,oK,ad,uo,oL,oM,oO,(oP P),oQ,oR,oS,uq,ur,ad,af,ut,oU,oV,ad,af,oW,ad,uu,oX,oY,ad,af,pb,ad,uv,pd,pf,ad,af,pg,ad,uw,po,pq,ad,af,pt,ad,ux,pu,pv,ad,af,pz,ad,uy,pA,pB,ad,uz,(uA P),ad,uB,uC,uD,ad,af,pD,ad,uE,pE,pG,ad,af,pH,ad,uG,pI,pJ,ad,af,pK,ad,uI,pL,pM,pO,(pP P),pQ,pR,pS,uJ,uK,ad,uL,(uM P),ad,uN,uO,uP,ad,af,pU,ad,uR,pV,pW,ad,af,pY,ad,uT,pZ,qb,ad,af,qc,ad,uU,qd,qe,ad,af,qf,ad,uV,qg,qh,qi,(qj P),qk,qm,qo,uW,uX,ad,af,qp,ad,uY,qq,qr,ad,af,qt,ad,u0,qw,qx,ad,af,qy,ad,u6,qA,qB,ad,BK,(BL P),ad,BM,BN,BO,ad,af,u7,ad,BP,u8,u9,ad,af,vc,ad,BQ,ve,vf,ad,af,vg,ad,BR,vh,vj,ad,af,vk,ad,BS,vl,vm,ad,af,vq,ad,BU,vr,vt,ad,af,vu,ad,BV,vx,vz,vA,(vB P),vC,vD,vF,BW,BX,ad,BY,(BZ P),ad,B0,B1,B2,ad,af,vG,ad,B3,vH,vI,ad,af,vJ,ad,B4,vK,vL,ad,af,vM,ad,B5,vO,vP,ad,af,vQ,ad,B6,vR,vS,vT,(vU P),vV,vW,vY,B7,B8,ad,af,vZ,ad,B9,v5,v6,ad,af,v7,ad,Ca,v8,v9,ad,Cb,(Cc P),ad,Cd,Ce,Cf,ad,af,Cg,wa,wb,ad,af,wc,ad,Ci,we,wf,ad,af,wg,ad,Cj,wi,wj,ad,af,wk,ad,Ck,wm,wo,ad,af,wr,ad,Cm,wt,wu,ad,af,wv,ad,Cn,ww,wx,ad,af,wy,ad,Co,wz,wB,wC,(wD P),wE,wF,wG,Cp,Cq,ad,af,wI,ad,Cr,wJ,wK,ad,af,wL,ad,Cs,wN,wO,ad,af,wP,ad,Ct,wQ,wR,ad,af,wS,ad,Cu,wT,wU,ad,af,Cv,wV,wW,ad,af,wX,ad,Cw,wY,wZ,ad,af,w3,ad,Cx,w4,w6,ad,af,Cy,w7,w9,ad,af,xb,ad,Cz,xc,xe,ad,af,xf,ad,CA,xj,xk,ad,af,xt,ad,CB,xu,xv,ad,af,xw,ad,CC,xy,xz,ad,af,CD,xE,xH,ad,af,CE,xJ,xM],lf⟩
noncomputable def jf:Env:={scope:=pw.main.scope,locals:=mainNs,globals:=mainNs,cells:=[],code:=.ref 13,frame:=some 14}
noncomputable def c0:Code:=.body (behindTheImports pw) jf
noncomputable abbrev q0:Pos:=⟨0,0,0,0⟩
noncomputable abbrev Dt (w:World) (os:OsState):SharedT:=⟨Vj w.params,15,lf,Array.mk [],PySem.W.boot_drawn,187,os⟩
noncomputable abbrev Du (w:World) (os:OsState):SharedT:=⟨Vk w.params,565,lf,Array.mk [],PySem.W.boot_drawn,1027,os⟩
noncomputable abbrev Dv (w:World) (os:OsState):SharedT:=⟨Vl w.params,828,lf,Array.mk [],PySem.W.boot_drawn,1441,os⟩
noncomputable abbrev Dw (w:World) (os:OsState):Shared:=⟨G7 w.params,Array.mk [],PySem.W.boot_drawn,187,os⟩
noncomputable abbrev jC (w:World) (os:OsState):Shared:=⟨jm w.params,Array.mk [],PySem.W.boot_drawn,1441,os⟩
noncomputable def zF:List Stmt:=((behindTheImports pw).drop 0).take 38
noncomputable def zG:List Stmt:=(behindTheImports pw).drop 38
theorem G5 (w:World) (os:OsState):topGo treeTable pw w 11 (some (.ref 6)) 12 ⟨boot_heap w.params,Array.mk [],boot_drawn,boot_toks,os⟩ (topStub pw)=some (Dw w os,⟨denote treeTable c0,c0,q0,[topFrame q0]⟩):=by kernel_rfl
theorem G0 (w:World) (os:OsState):segRun treeTable pw w 11 (some (.ref 6)) 1 1 (Dw w os) (blockOf (behindTheImports pw) jf c0 q0 [topFrame q0])=some (.next,(Dt w os).abs,c0,q0):=by kernel_rfl
theorem G1 (w:World) (os:OsState):segRunT treeTable pw w 11 (some (.ref 6)) 1 4102 (Dt w os) (piecesOf zF jf c0 ⟨0,0,0,0⟩ [topFrame q0])=some (.next,Du w os,c0,⟨445,0,450,24⟩):=by kernel_rfl
theorem G2 (w:World) (os:OsState):segRunT treeTable pw w 11 (some (.ref 6)) 1 1686 (Du w os) (piecesOf zG jf c0 ⟨445,0,450,24⟩ [topFrame q0])=some (.next,Dv w os,c0,⟨718,0,751,15⟩):=by kernel_rfl
theorem G3 (w:World) (os:OsState):topRun treeTable pw w 11 (some (.ref 6)) 2 (Dv w os).abs ⟨doneF .next,c0,⟨718,0,751,15⟩,[topFrame q0]⟩=some (jC w os):=by kernel_rfl
noncomputable def M:Nat:=12+(1+(4102+(1686+2)))
theorem UU:(behindTheImports pw).drop 0=zF++(behindTheImports pw).drop 38:=by
 have h:=(take_append_drop 38 ((behindTheImports pw).drop 0)).symm;rw[drop_drop]at h;exact h
theorem UV:(behindTheImports pw).drop 38=zG++[]:=(append_nil _).symm
theorem Ve (w:World) (os:OsState):topRun treeTable pw w 11 (some (.ref 6)) M ⟨boot_heap w.params,Array.mk [],boot_drawn,boot_toks,os⟩ (topStub pw)=some (jC w os):=by
 refine go_top (G5 w os) (piece_block (G0 w os) ?_);show topRun treeTable pw w 11 (some (.ref 6)) _ _ (restOf ((behindTheImports pw).drop 0) jf c0 q0 [topFrame q0])=_;rw[UU];refine piece_app (segRun_of (G1 w os)) ?_;rw[UV];refine piece_app (segRun_of (G2 w os)) ?_;exact piece_nil (G3 w os)
noncomputable def kAs:List Addr:=(List.range 828).filter (Nat.testBit 1443583714563395675152081687863928733495836816310849831736699788558249197038223637920238500784282528972244540553585372702198026561966221869303138699120156018855436749514653407598319806216644210906493849651380157230669918276804240837428839071801049102)
noncomputable def K (P:Params):Frag:=kAs.zip [boot_o_1 P,o2 P,uj P,ad,o17,ad,lU,lX,l9,nj,ad,nI,ad,nS,nY,ad,ov,ad,oN,oT,oZ,ph P,py,pC,pT,ad,qC P,qD,ad,qE,ad,qF,qG,ad,qH,ad,qI,jv,ad,qJ,ad,qK,qL,ad,qM,ad,qN,qO,ad,qP,ad,kI,kJ,ad,kK,ad,kL,kM,ad,kN,ad,kO,kP,ad,kQ,ad,kR,kS,ad,kT,ad,kU,kW,ad,kY,ad,kZ,k7,ad,k9,ad,lg,lp,ad,lq,ad,lu,lw,ad,lx,ad,ly,lA,lB,lC P,lD,lE,lF,ad,lG,ad,lH,lI,ad,lJ,ad,lK,lL,lO,lP P,lQ,lR,lS,lT,jt,lV,lW,ju,o208,ad,lY,ad,lZ,l6,ad,l7,ad,mh,mo,ad,mu,ad,mw,mA,mB,mC P,ip,ad,mD,ad,mF,mG,ad,mH,ad,mI,mJ,ad,mL,ad,mM,mN,ad,mO,ad,mP,mQ,ad,mR,ad,mU,mV,ad,mW,mZ,m6,m7 P,m8,m9,nh,ad,np,ad,nq,nr,ad,nA,nB,iu,ad,nC,ad,nD,fB,ad,nE,ad,nF,nG,ad,nH,ad,nJ,nK,iw,ad,nL,ad,nM,fC,nN,nO P,nP,nQ,nR,ad,nU,nV,ad,nW,ad,nZ,n0,ad,oe,ad,og,oh,ad,oj,ad,om,oo,ad,op,ad,oq,ot,ad,ou,ad,oy,oz,ad,oA,ad,oB,oC,ad,oD,ad,oE,oF,ad,oG,ad,oH,oJ,ad,oK,ad,oL,oM,oO,oP P,oQ,oR,oS,ad,oU,oV,ad,oW,ad,oX,oY,ad,pb,ad,pd,pf,ad,pg,ad,po,pq,ad,pt,ad,pu,pv,ad,pz,ad,pA,pB,ad,pD,ad,pE,pG,ad,pH,ad,pI,pJ,ad,pK,ad,pL,pM,pO,pP P,pQ,pR,pS,ad,pU,ad,pV,pW,ad,pY,ad,pZ,qb,ad,qc,ad,qd,qe,ad,qf,ad,qg,qh,qi,qj P,qk,qm,qo,ad,qp,ad,qq,qr,ad,qt,ad,qw,qx,ad,qy,ad,qA,qB,ad,u7,ad,u8,u9,ad,vc,ad,ve,vf,ad,vg,ad,vh,vj,ad,vk,ad,vl,vm,ad,vq,ad,vr,vt,ad,vu,ad,vx,vz,vA,vB P,vC,vD,vF,ad,vG,ad,vH,vI,ad,vJ,ad,vK,vL,ad,vM,ad,vO,vP,ad,vQ,ad,vR,vS,vT,vU P,vV,vW,vY,ad,vZ,ad,v5,v6,ad,v7,ad,v8,v9,ad,wa,wb,ad,wc,ad,we,wf,ad,wg,ad,wi,wj,ad,wk,ad,wm,wo,ad,wr,ad,wt,wu,ad,wv,ad,ww,wx,ad,wy,ad,wz,wB,wC,wD P,wE,wF,wG,ad,wI,ad,wJ,wK,ad,wL,ad,wN,wO,ad,wP,ad,wQ,wR,ad,wS,ad,wT,wU,ad,wV,wW,ad,wX,ad,wY,wZ,ad,w3,ad,w4,w6,ad,w7,w9,ad,xb,ad,xc,xe,ad,xf,ad,xj,xk,ad,xt,ad,xu,xv,ad,xw,ad,xy,xz,ad,xE,xH,ad,xJ,xM]
def kH:Hook:=kHook K kAs (λ_=>(List.map_fst_zip (le_of_eq (by kernel_rfl))).symm)
def qv:Program:={pw with main:={pw.main with body:=[tS 58]}}
noncomputable def loose:List PySem.Str:=[u "_wall",u "ToolError",u "TableError",u "bits",u "ACCEPT",u "BARRED",u "END",u "ERROR",u "UNDEFINED",u "Tables",u "Conflict",u "ParseTables",u "settle",u "RowMaker",u "default_of",u "without",u "fill",u "would_take",u "exact_expected",u "Rule",u "Grammar",u "spread",u "nullable",u "first_of",u "first_masks",u "follow_masks",u "transitive",u "NONE",u "LrState",u "Closer",u "advanced",u "kernels_behind",u "complete_rules",u "Automaton",u "Builder",u "build",u "digraph",u "Lookaheads",u "add_once",u "lalr_masks",u "slr_masks",u "_law_at",u "_law_side",u "_law_pairs",u "_law_grammar",u "_law_empty",u "_law_column",u "_law_next",u "_law_moved",u "_law_pushed",u "_law_heard"]
noncomputable def rf:Shared->Bool:=λ_=>true
def q9:(PySem.Str->Option Value)->Heap->Prop:=λ_ _=>True
theorem G6 (w:World):((boot_heap w.params).isNs mainGlobals&&(Array.mk []:Array GenState).size==0,(boot_heap w.params).objs.size,(boot_heap w.params).nsMap mainGlobals "__annotations__")=(true,11,some (.ref 6)):=by kernel_rfl
theorem G4 (w:World) (os:OsState):((staticsOk (importedModules pw.main.body) (boot_heap w.params) (jm w.params)&&namesBound pw (jm w.params)&&gensDone (jC w os)&&laidKept (boot_heap w.params) (jm w.params)),
        openSeen qv loose (importedModules pw.main.body) rf true (jC w os),kH.obs (jC w os))=(true,openGood qv loose,kH.val w):=by kernel_rfl
theorem t_a:opening pw=plainProg pw.main.scope.names:=by kernel_rfl
theorem t_b (s:Shared):fenceModules? pw s=some s:=by kernel_rfl
theorem t_c:∀w:World,(fencedOpening treeTable pw w 11698).map (λs=>(s.heap,s.gens,s.drawn,s.toks))=some (boot_heap w.params,Array.mk [],boot_drawn,boot_toks):=boot_open t_a (by kernel_rfl) t_b
theorem left:LeftO pw qv loose rf kH.obs kH.val 11698:=
 LeftO.of_pieces (H₀:=boot_heap) (H₁:=jm) t_c G6 Ve (by kernel_rfl) (λw=>funext λos=>G4 w os)
def rG:DefRec:=⟨u "law",ar (tS 58),bd (tS 58),sc (tS 58),match tS 58 with|.FunctionDef _ _ _ _ _ _ _ _ _ q=>q|_=>q0⟩
theorem bb {a b:Bool} (x:a=true) (y:b=true):(a&&b)=true:=by rw[x,y];rfl
theorem VY:looksOpen PySem.Challenge.rw_nn0404_01.row.prog=true:=
 bb (bb (bb (bb (bb (by decide+kernel) (by decide+kernel)) (by decide+kernel)) (by decide+kernel)) (by decide+kernel)) (by decide+kernel)
theorem yb:OpenLaw.wellSaid PySem.Challenge.rw_nn0404_01=true:=by
 delta OpenLaw.wellSaid OpenRow.wellSaid OpenRow.partSaid
 rw[VY];decide+kernel
theorem head (hc:WalkO qv loose q9 kH.says PySem.Challenge.rw_nn0404_01.row.toRowW rG [] λf vs=>PySem.call f vs):PySem.Challenge.rw_nn0404_01.Holds:=by
 refine holds_law yb λyb=>?_;exact holds_open (r:=PySem.Challenge.rw_nn0404_01.row) (q:=qv) (loose:=loose) (Xt:=rf) (XP:=q9) (Yf:=kH.obs) (Ya:=kH.val) (YP:=kH.says) (N:=11698) left (Hook.of kH) (Hook.keeps kH)
  (λ_ _=>trivial) (λ_ _ _ _ _=>trivial) (d:=rG) (kwd:=[]) (by kernel_rfl) (by kernel_rfl) (by kernel_rfl) (λs _=>recFacts_nil rfl) (by kernel_rfl) yb (by decide+kernel) ⟨rfl,rfl,rfl,rfl,rfl,by decide+kernel⟩ (by w_witness2) hc
end
section
set_option tactic.hygienic true
def aF:=@List.mem_of_getElem?
def aG:=@Nat.le_of_ble_eq_true
def ay:=@wpAny_bind
def VX:=@mem_singleton
def aE:=@length_map
def aQ:=@getElem?_map
def ai:=@if_neg
def Uo:=@mem_append
def ax:=@if_pos
def aT:=@wpAny_pure
def bM:=@List.mem_append_left
def cF:=@List.getElem?_append_left
def bE:=@Bool.false_ne_true
def bJ:=@List.mem_cons_self
def c8:=@getElem?_eq_getElem
def U0:=@List.mem_iff_getElem?
def dj:=@getElem?_append_right
def bT:=@length_append
def cn:=@Nat.lt_of_le_of_lt
def dc:=@List.perm_append_comm
def cP:=@Heap.get?_push_of_some
def bK:=@wpAny_mono
def aY:=@le_refl
def cw:=@append_assoc
def c7:=@Heap.get?_push_size
def dv:=@getElem?_eq_none
def be:=@congrArg
def bW:=@map_append
def dw:=@List.mem_cons_of_mem
def di:=@Nat.lt_succ_of_le
def c9:=@List.getElem?_set
def dA:=@List.mem_append_right
def db:=@sizeLine_eq
def hU:=@all_eq_true
def dT:=@of_decide_eq_true
def dH:=@Nat.eq_zero_or_pos
def dJ:=@List.mem_concat_self
noncomputable def fdT:List PySem.Str:=[u "__init__",u "action",u "added",u "after",u "append",u "at",u "automaton",u "barred",u "before",u "befores",u "built",u "by_left",u "chosen",u "close",u "closer",u "conflicts",u "default",u "defaults",u "direct",u "dot_of",u "expand",u "expect",u "explicit",u "extend",u "find_includes",u "find_reads",u "firsts",u "follow_masks",u "get",u "goto",u "gotos",u "grammar",u "includes",u "index",u "is_terminal",u "item",u "item_count",u "items",u "joined_masks",u "kernel",u "left",u "lefts",u "length",u "lengths",u "level_of",u "levels",u "line",u "lookback",u "looks",u "masks",u "mode",u "moves",u "names",u "nullables",u "number",u "number_of",u "number_transitions",u "numbers",u "offsets",u "open_ends",u "owners",u "pop",u "read_masks",u "reads",u "reductions",u "right",u "row",u "rows",u "rule_of",u "rules",u "rules_of",u "settle_levels",u "settle_one",u "settled",u "shifts",u "start",u "state",u "states",u "symbol",u "symbol_count",u "terminal",u "terminal_count",u "told",u "transitions",u "turns",u "wanted",u "way",u "what"]
noncomputable def fS (i:Nat):PySem.Str:=fdT.getD i (u "")
noncomputable def clsTab:List (Addr×List Nat):=[(162,[52,81,41,43,9,17,57]),(190,[76,80,86,69,12]),(232,[52,81,41,43,9,17,57,31,67,30,15,73,50]),(284,[31,54,74,30,48,7,73]),(340,[54,40,65,44,1,46,8]),(422,[52,81,69,45,21,75,11,58,60,36]),(497,[54,39,78,37,51,64]),(539,[31,26]),(616,[31,77]),(658,[31,14,77,57]),(733,[6,53,83,33,18,63,32,84,47,62,27,49])]
noncomputable def eZ (c:Addr) (f:Nat):Bool:=clsTab.any λp=>p.1==c&&p.2.contains f
noncomputable def mTab:List (Addr×Nat×Addr):=[(162,1,145),(162,8,110),(162,16,131),(162,22,124),(162,29,138),(162,40,96),(162,42,103),(162,80,89),(190,82,187),(232,1,145),(232,8,110),(232,16,131),(232,22,222),(232,29,229),(232,40,96),(232,42,103),(232,80,89),(284,15,281),(284,66,276),(284,71,262),(284,72,269),(422,3,419),(422,19,412),(422,34,370),(422,35,398),(422,54,384),(422,68,405),(422,70,391),(422,79,363),(497,29,487),(539,2,529),(539,13,536),(539,85,522),(616,29,585),(658,10,655),(658,20,648),(658,55,641),(733,24,709),(733,25,702),(733,38,723),(733,56,695),(733,59,716)]
noncomputable def iTab:List (Addr×Addr):=[(162,82),(190,180),(232,208),(284,255),(340,337),(422,356),(497,480),(539,515),(616,578),(658,634),(733,688)]
noncomputable def gTab:List (PySem.Str×Addr):=[(u "_wall",21),(u "ToolError",46),(u "TableError",59),(u "bits",68),(u "Tables",162),(u "Conflict",190),(u "ParseTables",232),(u "settle",241),(u "RowMaker",284),(u "default_of",295),(u "without",300),(u "fill",308),(u "would_take",315),(u "exact_expected",322),(u "Rule",340),(u "Grammar",422),(u "spread",431),(u "nullable",438),(u "first_of",445),(u "first_masks",452),(u "follow_masks",459),(u "transitive",466),(u "LrState",497),(u "Closer",539),(u "advanced",550),(u "kernels_behind",557),(u "complete_rules",564),(u "Automaton",616),(u "Builder",658),(u "build",669),(u "digraph",676),(u "Lookaheads",733),(u "add_once",744),(u "lalr_masks",751),(u "slr_masks",758),(u "_law_at",765),(u "_law_side",770),(u "_law_pairs",777),(u "_law_grammar",784),(u "_law_empty",789),(u "_law_column",796),(u "_law_next",803),(u "_law_moved",810),(u "_law_pushed",817),(u "_law_heard",822),(u "law",827)]
noncomputable def cTab:List (PySem.Str×Int×Nat):=[(u "ACCEPT",1048576,264),(u "BARRED",-1048576,269),(u "END",0,271),(u "ERROR",1,273),(u "UNDEFINED",2,275),(u "NONE",-1,881)]
noncomputable def bTab:List (PySem.Str×Value):=[(u "len",.builtin "len"),(u "sorted",.builtin "sorted"),(u "sum",.builtin "sum"),(u "max",.builtin "max"),(u "list",.type "list"),(u "tuple",.type "tuple"),(u "int",.type "int"),(u "range",.type "range"),(u "reversed",.type "reversed"),(u "super",.type "super")]
noncomputable def rC (K:Frag) (c:Addr) (fs:List Nat):Bool:=hasDictIn K c&&findIn K (.ref c) "__getattribute__"==some (some (.builtin "object.__getattribute__"))&&findIn K (.ref c) "__getattr__"==some none&&
 findIn K (.ref c) "__setattr__"==some (some (.builtin "object.__setattr__"))&&makesIn K c&&plainOver K c&&fs.all λf=>findIn K (.ref c) (fS f)==some none
theorem yV (P:Params):(clsTab.all λp=>rC (K P) p.1 p.2)=true:=by kernel_rfl
noncomputable def BB (K:Frag) (c:Addr) (m:Nat) (f:Addr):Bool:=findIn K (.ref c) (fS m)==some (some (.ref f))&&isFn K (.ref f)&&decide (m<88)
theorem PK (P:Params):(mTab.all λp=>BB (K P) p.1 p.2.1 p.2.2)=true:=by kernel_rfl
theorem Hc (P:Params):(iTab.all λp=>findIn (K P) (.ref p.1) "__init__"==some (some (.ref p.2))&&isFn (K P) (.ref p.2))=true:=by kernel_rfl
theorem GW (P:Params):(gTab.all λp=>nsIn (K P) mainGlobals p.1==some (some (.ref p.2)))=true:=by kernel_rfl
theorem Gc (P:Params):(cTab.all λp=>nsIn (K P) mainGlobals p.1==some (some (.int p.2.1 p.2.2)))=true:=by kernel_rfl
theorem Ex (P:Params):(bTab.all λp=>nsIn (K P) mainGlobals p.1==some none&&p.1 !="__name__")=true:=by kernel_rfl
theorem Ey:(bTab.all λp=>bootBuiltins p.1==some p.2)=true:=by decide+kernel
theorem zD (P:Params):((gTab.all λp=>keepIn (K P) (.ref p.2))&&(mTab.all λp=>keepIn (K P) (.ref p.2.2))&&(iTab.all λp=>keepIn (K P) (.ref p.2)))=true:=by kernel_rfl
theorem GK:fdT.Nodup:=by decide+kernel
end
@[elab_as_elim] theorem O {a b:α} {motive:α->Prop} (h:a=b) (x:motive b):motive a:=h▸x
@[elab_as_elim] theorem Ob {a b:α} {motive:α->Prop} (h:b=a) (x:motive b):motive a:=h▸x
inductive E1 {α0:Type} (p:α0->Prop):Prop
 |mk (x0:α0) (h:p x0)
inductive E2 {α0 α1:Type} (p:α0->α1->Prop):Prop
 |mk (x0:α0) (x1:α1) (h:p x0 x1)
inductive E3 {α0 α1 α2:Type} (p:α0->α1->α2->Prop):Prop
 |mk (x0:α0) (x1:α1) (x2:α2) (h:p x0 x1 x2)
inductive E4 {α0 α1 α2 α3:Type} (p:α0->α1->α2->α3->Prop):Prop
 |mk (x0:α0) (x1:α1) (x2:α2) (x3:α3) (h:p x0 x1 x2 x3)
inductive E5 {α0 α1 α2 α3 α4:Type} (p:α0->α1->α2->α3->α4->Prop):Prop
 |mk (x0:α0) (x1:α1) (x2:α2) (x3:α3) (x4:α4) (h:p x0 x1 x2 x3 x4)
inductive E6 {α0 α1 α2 α3 α4 α5:Type} (p:α0->α1->α2->α3->α4->α5->Prop):Prop
 |mk (x0:α0) (x1:α1) (x2:α2) (x3:α3) (x4:α4) (x5:α5) (h:p x0 x1 x2 x3 x4 x5)
inductive E7 {α0 α1 α2 α3 α4 α5 α6:Type} (p:α0->α1->α2->α3->α4->α5->α6->Prop):Prop
 |mk (x0:α0) (x1:α1) (x2:α2) (x3:α3) (x4:α4) (x5:α5) (x6:α6) (h:p x0 x1 x2 x3 x4 x5 x6)
inductive E8 {α0 α1 α2 α3 α4 α5 α6 α7:Type} (p:α0->α1->α2->α3->α4->α5->α6->α7->Prop):Prop
 |mk (x0:α0) (x1:α1) (x2:α2) (x3:α3) (x4:α4) (x5:α5) (x6:α6) (x7:α7) (h:p x0 x1 x2 x3 x4 x5 x6 x7)
inductive E9 {α0 α1 α2 α3 α4 α5 α6 α7 α8:Type} (p:α0->α1->α2->α3->α4->α5->α6->α7->α8->Prop):Prop
 |mk (x0:α0) (x1:α1) (x2:α2) (x3:α3) (x4:α4) (x5:α5) (x6:α6) (x7:α7) (x8:α8) (h:p x0 x1 x2 x3 x4 x5 x6 x7 x8)
inductive A2 (p0 p1:Prop):Prop
 |mk (h0:p0) (h1:p1)
inductive A3 (p0 p1 p2:Prop):Prop
 |mk (h0:p0) (h1:p1) (h2:p2)
inductive A4 (p0 p1 p2 p3:Prop):Prop
 |mk (h0:p0) (h1:p1) (h2:p2) (h3:p3)
inductive A5 (p0 p1 p2 p3 p4:Prop):Prop
 |mk (h0:p0) (h1:p1) (h2:p2) (h3:p3) (h4:p4)
inductive A6 (p0 p1 p2 p3 p4 p5:Prop):Prop
 |mk (h0:p0) (h1:p1) (h2:p2) (h3:p3) (h4:p4) (h5:p5)
inductive A7 (p0 p1 p2 p3 p4 p5 p6:Prop):Prop
 |mk (h0:p0) (h1:p1) (h2:p2) (h3:p3) (h4:p4) (h5:p5) (h6:p6)
inductive A8 (p0 p1 p2 p3 p4 p5 p6 p7:Prop):Prop
 |mk (h0:p0) (h1:p1) (h2:p2) (h3:p3) (h4:p4) (h5:p5) (h6:p6) (h7:p7)
inductive A9 (p0 p1 p2 p3 p4 p5 p6 p7 p8:Prop):Prop
 |mk (h0:p0) (h1:p1) (h2:p2) (h3:p3) (h4:p4) (h5:p5) (h6:p6) (h7:p7) (h8:p8)
inductive A10 (p0 p1 p2 p3 p4 p5 p6 p7 p8 p9:Prop):Prop
 |mk (h0:p0) (h1:p1) (h2:p2) (h3:p3) (h4:p4) (h5:p5) (h6:p6) (h7:p7) (h8:p8) (h9:p9)
inductive A11 (p0 p1 p2 p3 p4 p5 p6 p7 p8 p9 p10:Prop):Prop
 |mk (h0:p0) (h1:p1) (h2:p2) (h3:p3) (h4:p4) (h5:p5) (h6:p6) (h7:p7) (h8:p8) (h9:p9) (h10:p10)
inductive A12 (p0 p1 p2 p3 p4 p5 p6 p7 p8 p9 p10 p11:Prop):Prop
 |mk (h0:p0) (h1:p1) (h2:p2) (h3:p3) (h4:p4) (h5:p5) (h6:p6) (h7:p7) (h8:p8) (h9:p9) (h10:p10) (h11:p11)
theorem aj {G:Prop} (h:∀X:Prop,(G->X)->X):G:=h G id
set_option genCtorIdx true in
inductive IV where
 |none
 |bool (b:Bool)
 |int (i:Int)
 |str (x:PySem.Str)
 |ref (a:Addr)
 |tup (xs:List IV)
 |frz (ns:List Int)
set_option genCtorIdx true in
inductive IO where
 |list (xs:List IV)
 |idict (kvs:List (Int×IV)) (ep:Nat)
 |sdict (kvs:List (PySem.Str×IV))
 |tdict (kvs:List (List Int×IV)) (ep:Nat)
 |inst (c:Addr) (fs:List (Nat×IV))
abbrev IH:=Addr->Option IO
noncomputable def upd (V:IH) (a:Addr) (o:IO):IH:=λb=>if b=a then some o else V b
@[simp] theorem fh (V:IH) (a:Addr) (o:IO):upd V a o a=some o:=by simp[upd]
theorem cH (V:IH) (o:IO) (h:b≠a):upd V a o b=V b:=by simp[upd,h]
@[simp] theorem yp (V:IH) (a:Addr) (o o':IO):upd (upd V a o) a o'=upd V a o':=by
  funext b;simp only[upd];split<;>rfl
def cj (o:Obj):Prop:=o.cls=.type "tuple"/\E2 λits n=>o.data=.seq its n
structure Bs where
 w:World
 h0:Heap
 os:OsState
mutual
noncomputable def VR (B:Bs) (h:Heap):Value->IV->Prop
 |v,.none=>v=.none
 |v,.bool b=>v=.bool b
 |v,.int i=>∃t,v=.int i t
 |v,.str x=>∃t,v=.str x t
 |v,.ref a=>v=.ref a
 |v,.tup xs=>E2 λa its=>A4 (v=.ref a) (h.IsTuple a its) (VRs B h its.toList xs) (xs.length<1000000)
 |v,.frz ns=>E2 λa its=>A4 (v=.ref a) (B.h0.IsList a its) (IntsAre its.toList ns) (ns.length<64)
noncomputable def VRs (B:Bs) (h:Heap):List Value->List IV->Prop
 |[],[]=>True
 |v::vs,x::xs=>VR B h v x/\VRs B h vs xs
 |_,_=>False
end
noncomputable def OVR (B:Bs) (h:Heap):Option Value->Option IV->Prop
 |_,none=>True
 |some v,some x=>VR B h v x
 |none,some _=>False
inductive KVR {K:Type} (B:Bs) (h:Heap):List (K×Value)->List (K×IV)->Prop
 |nil:KVR B h [] []
 |cons {k:K} {v:Value} {x:IV} {l:List (K×Value)} {l':List (K×IV)}:VR B h v x->KVR B h l l'->KVR B h ((k,v)::l) ((k,x)::l')
inductive KVR3 {K:Type} (B:Bs) (h:Heap):List (K×Addr×Value)->List (K×IV)->Prop
 |nil:KVR3 B h [] []
 |cons {k:K} {a:Addr} {v:Value} {x:IV} {l:List (K×Addr×Value)} {l':List (K×IV)}:VR B h v x->KVR3 B h l l'->KVR3 B h ((k,a,v)::l) ((k,x)::l')
noncomputable abbrev iK (B:Bs):=intKind pw B.w
noncomputable abbrev sK (B:Bs):=strKind pw B.w
noncomputable abbrev tK (B:Bs):=tupleKind (iK B)
noncomputable def aq {K:Type} [DecidableEq K] (kvs:List (K×IV)) (k:K):Option IV:=(kvs.find? λkv=>kv.1=k).map (·.2)
noncomputable def aK {K:Type} [DecidableEq K] (kvs:List (K×IV)) (k:K) (x:IV):List (K×IV):=
 if kvs.any (λkv=>kv.1=k)then kvs.map (λkv=>if kv.1=k then(kv.1,x)else kv)else kvs++[(k,x)]
noncomputable def OR (B:Bs) (h:Heap):Option Value->Option IV->Prop
 |none,none=>True
 |some v,some x=>VR B h v x
 |_,_=>False
def DictAtH (B:Bs) (h:Heap) (d:Addr) (xs:List (List Int×Addr×Value)) (ep:Nat):Prop:=
 E2 λo es=>A6 (h.get? d=some o) (o.ExactDict) (o.data=.dict es ep) (es.toList=xs.map (entryOfKey (tK B))) (∀x∈xs,(tK B).is h x.1 x.2.1) ((xs.map (·.1)).Nodup)
theorem DictAtH.of {h:Heap} (x:DictAtH B h d xs ep):h.DictOfH (tK B) d xs:=by obtain⟨o,es,a,b,c,d,e,f⟩:=x;exact⟨o,es,ep,a,b,c,d,e,f⟩
theorem DictAtH.from {h:Heap} (x:h.DictOfH (tK B) d xs):∃ep,DictAtH B h d xs ep:=by obtain⟨o,es,ep,a,b,c,d,e,f⟩:=x;exact⟨ep,o,es,a,b,c,d,e,f⟩
inductive ROl (B:Bs) (h:Heap) (a:Addr) (xs:List IV):Prop
 |mk (vs:Array Value) (n:Nat) (g:IsL h a vs n) (q:VRs B h vs.toList xs) (l:xs.length<1000000):ROl B h a xs
inductive ROi (B:Bs) (h:Heap) (a:Addr) (kvs:List (Int×IV)) (ep:Nat):Prop
 |mk (kvs':List (Int×Value)) (g:h.DictAt (iK B) a kvs' ep) (q:KVR B h kvs' kvs) (l:kvs.length<1000000):ROi B h a kvs ep
inductive ROs (B:Bs) (h:Heap) (a:Addr) (kvs:List (PySem.Str×IV)):Prop
 |mk (kvs':List (PySem.Str×Value)) (g:h.DictOf (sK B) a kvs') (q:KVR B h kvs' kvs) (l:kvs.length<1000000):ROs B h a kvs
inductive ROt (B:Bs) (h:Heap) (a:Addr) (kvs:List (List Int×IV)) (ep:Nat):Prop
 |mk (kvs':List (List Int×Addr×Value)) (g:DictAtH B h a kvs' ep) (q:KVR3 B h kvs' kvs) (l:kvs.length<1000000):ROt B h a kvs ep
inductive ROo (B:Bs) (h:Heap) (a c:Addr) (fs:List (Nat×IV)):Prop
 |mk (d:Addr) (sl:Array (Option Value)) (o:Obj) (es:Array DictEntry) (ep:Nat) (g:h.get? a=some ⟨.ref c,some d,.plain,sl⟩) (g':h.get? d=some o) (r1:o.data=.dict es ep) (r2:StrKeys es) (r3:es.size<=fs.length) (q:∀f,f<88->OR B h (nsFind es (fS f)) (aq fs f)) (z:∀p∈fs,eZ c p.1=true):ROo B h a c fs
noncomputable def RO (B:Bs) (h:Heap) (a:Addr):IO->Prop
 |.list xs=>ROl B h a xs
 |.idict kvs ep=>ROi B h a kvs ep
 |.sdict kvs=>ROs B h a kvs
 |.tdict kvs ep=>ROt B h a kvs ep
 |.inst c fs=>ROo B h a c fs
def aS (V:IH) (h:Heap) (b:Addr):Prop:=V b≠none\/E4 λa c fs o=>A3 (V a=some (.inst c fs)) (h.get? a=some o) (o.dict=some b)
structure St (B:Bs) (V:IH) (s:Shared):Prop where
 ro:∀a o,V a=some o->RO B s.heap a o
 inj:∀a a' c c' fs fs' o o' d,V a=some (.inst c fs)->V a'=some (.inst c' fs')->s.heap.get? a=some o->s.heap.get? a'=some o'->o.dict=some d->o'.dict=some d->a=a'
 hid:∀a c fs o d,V a=some (.inst c fs)->s.heap.get? a=some o->o.dict=some d->V d=none
 keep:∀b o,B.h0.get? b=some o->s.heap.get? b=some o
 low:∀b,aS V s.heap b->B.h0.get? b=none
 gens:s.gens= #[]
 os:s.os=B.os
structure Keep (V:IH) (h:Heap) (V':IH) (h':Heap):Prop where
 old:∀b o,h.get? b=some o->¬aS V h b->h'.get? b=some o
 grow:∀b,aS V' h' b->aS V h b\/h.get? b=none
theorem Keep.refl (V:IH) (h:Heap):Keep V h V h:=⟨λ_ _ e _=>e,λ_ f=>.inl f⟩
theorem Keep.trans (x:Keep V h V1 h₁) (y:Keep V1 h₁ V2 h₂):Keep V h V2 h₂:=by
 refine⟨λb o e nf=>y.old b o (x.old b o e nf) λf=>?_,λb f=>?_⟩
 .rcases x.grow b f with f|f
  .exact nf f
  .rw[e]at f;cases f
 .rcases y.grow b f with f|f
  .exact x.grow b f
  .by_cases fo:aS V h b
   .exact .inl fo
   .induction e:h.get? b with
    |none=>exact .inr rfl
    |some o=>rw[x.old b o e fo]at f;cases f
def Pres (B:Bs) (V:IH) (h h':Heap):Prop:=∀b o,h.get? b=some o->h'.get? b=some o\/(¬aS V h b/\¬cj o/\B.h0.get? b=none)
theorem aP {α:Type} {a b:α} (h:some a=some b):a=b:=Option.some.inj h
theorem bv {α:Type} {x:α} {C:Prop} (h:none=some x):C:=nomatch h
theorem jr {α:Type} {x:α} {C:Prop} (h:some x=none):C:=nomatch h
theorem Oe {a b c:α} (h:a=b) (e:a=c):b=c:=h.symm.trans e
theorem Os {x:Option α} {a b:α} (h:x=some a) (e:x=some b):a=b:=Option.some.inj (h.symm.trans e)
theorem On {α:Type} {x:Option α} {b:α} {C:Prop} (h:x=none) (e:x=some b):C:=bv (h.symm.trans e)
theorem Om {α:Type} {x:Option α} {b:α} {C:Prop} (h:x=some b) (e:x=none):C:=jr (h.symm.trans e)
theorem yl (h:i<n):n -i=n -(i+1)+1:=(Nat.succ_pred_eq_of_pos (Nat.sub_pos_of_lt h)).symm
theorem yk (h:i<n):n -(i+1)<n -i:=Nat.sub_lt_sub_left h (lt_succ_self i)
theorem jH {h h':Heap} (x:h.IsTuple a its) (k:∀o,h.get? a=some o->cj o->h'.get? a=some o):h'.IsTuple a its:=by
 obtain⟨o,ho,hc,n,r⟩:=x;exact⟨o,k o ho ⟨hc,_,_,r⟩,hc,n,r⟩
mutual
theorem VR.mono {h h':Heap} (k:∀a o,h.get? a=some o->cj o->h'.get? a=some o):∀{v:Value} {x:IV},VR B h v x->VR B h' v x
 |_,.none,e=>e
 |_,.bool _,e=>e
 |_,.int _,e=>e
 |_,.str _,e=>e
 |_,.ref _,e=>e
 |_,.tup xs,⟨a,its,e,t,r,l⟩=>⟨a,its,e,jH t (k a),VRs.mono k r,l⟩
 |_,.frz _,e=>e
theorem VRs.mono {h h':Heap} (k:∀a o,h.get? a=some o->cj o->h'.get? a=some o):∀{vs:List Value} {xs:List IV},VRs B h vs xs->VRs B h' vs xs
 |[],[],_=>trivial
 |_::_,_::_,⟨a,b⟩=>⟨VR.mono k a,VRs.mono k b⟩
 |[],_::_,e=>e.elim
 |_::_,[],e=>e.elim
end
theorem VRs.ind {P:List Value->List IV->Prop} (n:P [] []) (c:∀v vs x xs,VR B h v x->VRs B h vs xs->P vs xs->P (v::vs) (x::xs)):∀{xs:List IV},VRs B h vs xs->P vs xs:=by
 induction vs with
 |nil=>intro xs r;cases xs;exact n;exact r.elim
 |cons v vs ih=>intro xs r;cases xs;exact r.elim;exact c _ _ _ _ r.1 r.2 (ih r.2)
theorem VRs.length {vs:List Value} {xs:List IV} (r:VRs B h vs xs):vs.length=xs.length:=
 r.ind (P:=λvs xs=>vs.length=xs.length) rfl λ_ _ _ _ _ _ e=>be (· +1) e
theorem VRs.get {i:Nat} (r:VRs B h vs xs):xs[i]? =some x->∃v,vs[i]? =some v/\VR B h v x:=
 r.ind (P:=λvs xs=>∀i:Nat,xs[i]? =some x->∃v,vs[i]? =some v/\VR B h v x) (λ_ e=>by rcases(Oe getElem?_nil e))
  (λv _ _ _ a _ ih i=>i.casesOn (λe=>⟨v,rfl,Option.some.inj e▸a⟩) λi=>ih i) i
theorem VRs.append {xs ys:List IV} (a:VRs B h vs xs) (r:VRs B h ws ys):VRs B h (vs++ws) (xs++ys):=
 a.ind (P:=λvs xs=>VRs B h (vs++ws) (xs++ys)) r λ_ _ _ _ a _ ih=>⟨a,ih⟩
theorem VRs.take {vs:List Value} {xs:List IV} (n:Nat) (r:VRs B h vs xs):VRs B h (vs.take n) (xs.take n):=
 r.ind (P:=λvs xs=>∀n,VRs B h (vs.take n) (xs.take n)) (λn=>n.casesOn trivial λ_=>trivial) (λ_ _ _ _ a _ ih n=>n.casesOn trivial λn=>⟨a,ih n⟩) n
theorem VRs.set (r:VR B h v x) {vs:List Value} {xs:List IV} (n:Nat) (q:VRs B h vs xs):VRs B h (vs.set n v) (xs.set n x):=
 q.ind (P:=λvs xs=>∀n,VRs B h (vs.set n v) (xs.set n x)) (λ_=>trivial) (λ_ _ _ _ a b ih n=>n.casesOn ⟨r,b⟩ λn=>⟨a,ih n⟩) n
theorem VRs.nil_left (e:VRs B h vs []):vs=[]:=by induction vs with|nil=>rfl|cons _ _=>exact e.elim
theorem KVR.mono {K:Type} {h h':Heap} (k:∀a o,h.get? a=some o->cj o->h'.get? a=some o) {l:List (K×Value)} {l':List (K×IV)} (x:KVR B h l l'):KVR B h' l l':=by
 induction x with
 |nil=>exact .nil
 |cons r _ ih=>exact .cons (r.mono k) ih
theorem KVR3.mono {K:Type} {h h':Heap} (k:∀a o,h.get? a=some o->cj o->h'.get? a=some o) {l:List (K×Addr×Value)} {l':List (K×IV)} (x:KVR3 B h l l'):KVR3 B h' l l':=by
 induction x with
 |nil=>exact .nil
 |cons r _ ih=>exact .cons (r.mono k) ih
theorem zM:(Value.type "list")≠.type "tuple":=by decide
theorem jR:(Value.type "dict")≠.type "tuple":=by decide
theorem St.not_tup {s:Shared} (x:St B V s) (f:aS V s.heap b) (e:s.heap.get? b=some o):¬cj o:=by
 intro hc';have hc:=hc'.1;rcases f with f|⟨a,c,fs,o',e1,e2,e3⟩
 .induction q:V b with
  |none=>exact f q
  |some io=>
   have r:=x.ro b io q
   induction io with
   |list xs=>obtain⟨vs,n,g,_⟩:=r;replace e:=Oe g e;cases e;exact zM hc
   |idict kvs ep=>obtain⟨k',⟨o',es,g,ed,_⟩,_⟩:=r;replace e:=Oe g e;cases e;exact jR (Oe ed.1 hc)
   |sdict kvs=>obtain⟨k',⟨o',es,ep,g,ed,_⟩,_⟩:=r;replace e:=Oe g e;cases e;exact jR (Oe ed.1 hc)
   |tdict kvs ep=>obtain⟨k',⟨o',es,g,ed,_⟩,_⟩:=r;replace e:=Oe g e;cases e;exact jR (Oe ed.1 hc)
   |inst c fs=>obtain⟨d,sl,o'',es,ep,g,_⟩:=r;replace e:=Oe g e;cases e;cases hc
 .have r:=x.ro a _ e1;obtain⟨d,sl,o'',es,ep,g,g',ed,_⟩:=r
  replace e2:=Oe g e2;cases e2;cases e3
  replace e:=Oe g' e;cases e
  obtain⟨_,its,n,hd⟩:=hc'
  replace hd:=Oe ed hd;cases hd
theorem St.tups {s:Shared} {h':Heap} (x:St B V s) (k:Keep V s.heap V' h'):∀a o,s.heap.get? a=some o->cj o->h'.get? a=some o:=
 λa o e c=>k.old a o e λf=>x.not_tup f e c
theorem VR.keep {s:Shared} (r:VR B s.heap v i) (x:St B V s) (k:Keep V s.heap V' h'):VR B h' v i:=r.mono (x.tups k)
theorem VRs.keep {s:Shared} (r:VRs B s.heap v i) (x:St B V s) (k:Keep V s.heap V' h'):VRs B h' v i:=r.mono (x.tups k)
theorem Pres.tups {h h':Heap} (p:Pres B V h h'):∀a o,h.get? a=some o->cj o->h'.get? a=some o:=λa o e c=>by
 rcases p a o e with q|q
 .exact q
 .exact absurd c q.2.1
theorem OR.mono {h h':Heap} (k:∀a o,h.get? a=some o->cj o->h'.get? a=some o) (r:OR B h v x):OR B h' v x:=by
 rcases v<;>rcases x<;>first|exact r|exact VR.mono k r
theorem RO.mono {h h':Heap} (k:∀a o,h.get? a=some o->cj o->h'.get? a=some o)
 (ka:∀o,h.get? a=some o->h'.get? a=some o) (kd:∀o d od,h.get? a=some o->o.dict=some d->h.get? d=some od->h'.get? d=some od) (r:RO B h a io):RO B h' a io:=by
 induction io with
 |list xs=>obtain⟨vs,n,g,r,l⟩:=r;exact⟨vs,n,ka _ g,r.mono k,l⟩
 |idict kvs ep=>obtain⟨k',⟨o,es,g,r⟩,q,l⟩:=r;exact⟨k',⟨o,es,ka _ g,r⟩,q.mono k,l⟩
 |sdict kvs=>obtain⟨k',⟨o,es,ep,g,r⟩,q,l⟩:=r;exact⟨k',⟨o,es,ep,ka _ g,r⟩,q.mono k,l⟩
 |tdict kvs ep=>
  obtain⟨k',⟨o,es,g,ed,hd,he,hk,hn⟩,q,l⟩:=r;refine⟨k',⟨o,es,ka _ g,ed,hd,he,λx hx=>?_,hn⟩,q.mono k,l⟩;obtain⟨o',its,n,h1,h2,h3⟩:=hk x hx;exact⟨o',its,n,k _ _ h1 ⟨h2,_,_,h3.1⟩,h2,h3⟩
 |inst c fs=>obtain⟨d,sl,o,es,ep,g,g',r1,r2,r3,q,z⟩:=r;exact⟨d,sl,o,es,ep,ka _ g,kd _ _ _ g rfl g',r1,r2,r3,λf hf=>(q f hf).mono k,z⟩
theorem RO.live {h:Heap} (r:RO B h a io):∃o,h.get? a=some o:=by
 induction io with
 |list xs=>obtain⟨vs,n,g,_⟩:=r;exact⟨_,g⟩
 |idict kvs ep=>obtain⟨k',⟨o,es,g,_⟩,_⟩:=r;exact⟨_,g⟩
 |sdict kvs=>obtain⟨k',⟨o,es,ep,g,_⟩,_⟩:=r;exact⟨_,g⟩
 |tdict kvs ep=>obtain⟨k',⟨o,es,g,_⟩,_⟩:=r;exact⟨_,g⟩
 |inst c fs=>obtain⟨d,sl,o,es,ep,g,_⟩:=r;exact⟨_,g⟩
theorem St.pres {s s':Shared} (x:St B V s) (p:Pres B V s.heap s'.heap) (hg:s'.gens=s.gens) (ho:s'.os=s.os):St B V s':=by
 have ft:∀{b:Addr} {o:Obj},aS V s.heap b->s.heap.get? b=some o->s'.heap.get? b=some o:=λ{b o} f e=>by
  rcases p b o e with q|q
  .exact q
  .exact absurd f q.1
 have back:∀{a:Addr} {io:IO} {o:Obj},V a=some io->s'.heap.get? a=some o->s.heap.get? a=some o:=λ{a io o} e g=>by
  obtain⟨o1,g₁⟩:=(x.ro a io e).live;have:=ft (.inl (by refine O e ?_;simp)) g₁
  replace g:=Oe this g;cases g;exact g₁
 refine⟨λa io e=>?_,?_,?_,λb o e=>?_,λb f=>?_,hg.trans x.gens,ho.trans x.os⟩
 .refine(x.ro a io e).mono p.tups (λo g=>ft (.inl (by refine O e ?_;simp)) g) λo d od g1 g2 g3=>?_
  induction io with
  |inst c fs=>exact ft (.inr ⟨a,c,fs,o,e,g1,g2⟩) g3
  |list xs=>obtain⟨_,_,g,_⟩:=x.ro a _ e;replace g1:=Oe g g1;cases g1;cases g2
  |idict kvs ep=>obtain⟨_,⟨_,_,g,ed,_⟩,_⟩:=x.ro a _ e;replace g1:=Oe g g1;cases g1;replace g2:=Oe ed.2.1 g2;cases g2
  |sdict kvs=>obtain⟨_,⟨_,_,_,g,ed,_⟩,_⟩:=x.ro a _ e;replace g1:=Oe g g1;cases g1;replace g2:=Oe ed.2.1 g2;cases g2
  |tdict kvs ep=>obtain⟨_,⟨_,_,g,ed,_⟩,_⟩:=x.ro a _ e;replace g1:=Oe g g1;cases g1;replace g2:=Oe ed.2.1 g2;cases g2
 .intro a a' c c' fs fs' o o' d e e' g g' hd hd';exact x.inj a a' c c' fs fs' o o' d e e' (back e g) (back e' g') hd hd'
 .intro a c fs o d e g hd;exact x.hid a c fs o d e (back e g) hd
 .have e':=x.keep b o e;rcases p b o e' with q|q
  .exact q
  .rw[e]at q;cases q.2.2
 .refine x.low b ?_;rcases f with f|⟨a,c,fs,o,e1,e2,e3⟩
  .exact .inl f
  .exact .inr ⟨a,c,fs,o,e1,back e1 e2,e3⟩
theorem Pres.foot {s s':Shared} (x:St B V s) (p:Pres B V s.heap s'.heap) (b:Addr):aS V s'.heap b↔aS V s.heap b:=by
 have ft:∀{a:Addr} {io:IO} {o:Obj},V a=some io->s.heap.get? a=some o->s'.heap.get? a=some o:=λ{a io o} f e=>by
  rcases p a o e with q|q
  .exact q
  .exact absurd (.inl (by refine O f ?_;simp)) q.1
 constructor
 .rintro(f|⟨a,c,fs,o,e1,e2,e3⟩)
  .exact .inl f
  .obtain⟨o1,g₁⟩:=(x.ro a _ e1).live;have:=ft e1 g₁;rcases(Oe this e2);exact .inr ⟨a,c,fs,_,e1,g₁,e3⟩
 .rintro(f|⟨a,c,fs,o,e1,e2,e3⟩)
  .exact .inl f
  .exact .inr ⟨a,c,fs,o,e1,ft e1 e2,e3⟩
theorem Pres.ofKeeps {h h':Heap} (k:∀b o,h.get? b=some o->h'.get? b=some o):Pres B V h h':=λb o e=>.inl (k b o e)
theorem Pres.keep {s s':Shared} (x:St B V s) (k:∀b o,s.heap.get? b=some o->s'.heap.get? b=some o):Keep V s.heap V s'.heap:=
 ⟨λb o e _=>k b o e,λb f=>.inl (((Pres.ofKeeps k:Pres B V s.heap s'.heap).foot x b).mp f)⟩
structure Room (n:Nat) (A:Around):Prop where
 hand:A.handled=none
 deep:A.depth+10*n<=900
 wide:A.units+40*n<=9000
set_option hygiene false
local macro_rules | `(tactic| o_shape) => `(tactic| refine aj fun _ kX => ?_)
local macro_rules | `(tactic| pv_eval) => `(tactic| (refine kX ?_; clear kX))
set_option hygiene true
noncomputable def IO.flat:IO->Bool
 |.inst .. =>false
 |_=>true
theorem RO.nodict {h:Heap} {io:IO} {o:Obj} (r:RO B h a io) (f:io.flat=true) (e:h.get? a=some o):o.dict=none:=by
 induction io with
 |inst c fs=>exact(bE f).elim
 |list xs=>obtain⟨_,_,g,_⟩:=r;obtain rfl:=Os g e;rfl
 |idict kvs ep=>obtain⟨_,⟨_,_,g,ed,_⟩,_⟩:=r;obtain rfl:=Os g e;exact ed.2.1
 |sdict kvs=>obtain⟨_,⟨_,_,_,g,ed,_⟩,_⟩:=r;obtain rfl:=Os g e;exact ed.2.1
 |tdict kvs ep=>obtain⟨_,⟨_,_,g,ed,_⟩,_⟩:=r;obtain rfl:=Os g e;exact ed.2.1
theorem St.tk (x:St B V s) (t:Nat):St B V {s with toks:=t}:=⟨x.ro,x.inj,x.hid,x.keep,x.low,x.gens,x.os⟩
theorem St.dead {s:Shared} (x:St B V s) (hn:s.heap.get? a=none):V a=none:=by
 induction q:V a with
 |none=>rfl
 |some io=>obtain⟨o,e⟩:=(x.ro a io q).live;exact On hn e
theorem St.nofoot {s:Shared} (x:St B V s) (hn:s.heap.get? a=none):¬aS V s.heap a:=by
 rintro(f|⟨b,c,fs,o,e1,e2,e3⟩)
 .exact f (x.dead hn)
 .obtain⟨d,sl,o',es,ep,g,g',_⟩:=x.ro b _ e1;obtain rfl:=Os g e2;obtain rfl:=aP e3;exact On hn g'
theorem St.add {s:Shared} (x:St B V s) {h':Heap} {io:IO} (f:io.flat=true) (hn:s.heap.get? a=none)
 (kp:∀b o,s.heap.get? b=some o->h'.get? b=some o) (r:RO B h' a io) (t:Nat):St B (upd V a io) {s with heap:=h',toks:=t}/\Keep V s.heap (upd V a io) h':=by
 have hV:=x.dead hn;have inst:∀{b c fs},upd V a io b=some (.inst c fs)->b≠a/\V b=some (.inst c fs):=λ{b c fs} e=>by
  by_cases q:b=a
  .subst q;obtain rfl:=Os (fh ..) e;exact(bE f).elim
  .exact⟨q,by rwa[cH _ _ q]at e⟩
 have back:∀{b io o},V b=some io->h'.get? b=some o->s.heap.get? b=some o:=λ{b io o} e g=>by
  obtain⟨o1,g₁⟩:=(x.ro b io e).live;obtain rfl:=Os (kp _ _ g₁) g;exact g₁
 have ft:∀b,aS (upd V a io) h' b->aS V s.heap b\/b=a:=λb q=>by
  rcases q with q|⟨b',c,fs,o,e1,e2,e3⟩
  .by_cases e:b=a
   .exact .inr e
   .rw[cH _ _ e]at q;exact .inl (.inl q)
  .obtain⟨q,e1⟩:=inst e1;exact .inl (.inr ⟨b',c,fs,o,e1,back e1 e2,e3⟩)
 refine⟨⟨λb o e=>?_,?_,?_,λb o e=>kp _ _ (x.keep b o e),λb q=>?_,x.gens,x.os⟩,λb o e _=>kp b o e,λb q=>?_⟩
 .by_cases q:b=a
  .obtain rfl:=q.symm;obtain rfl:=Os (fh ..) e;exact r
  .exact(x.ro b o (Oe (cH _ _ q) e)).mono (λ_ _ g _=>kp _ _ g) (λ_ g=>kp _ _ g) λ_ _ _ _ _ g=>kp _ _ g
 .intro b b' c c' fs fs' o o' d e e' g g' hd hd';obtain⟨_,e⟩:=inst e;obtain⟨_,e'⟩:=inst e';exact x.inj b b' c c' fs fs' o o' d e e' (back e g) (back e' g') hd hd'
 .intro b c fs o d e g hd;obtain⟨_,e1⟩:=inst e;have g1:=back e1 g;by_cases q:d=a
  .obtain rfl:=q.symm;exact absurd (.inr ⟨b,c,fs,o,e1,g1,hd⟩) (x.nofoot hn)
  .exact O (cH _ _ q) (x.hid b c fs o d e1 g1 hd)
 .rcases ft b q with q|q
  .exact x.low b q
  .subst q
   induction e:B.h0.get? b with
   |none=>rfl
   |some o=>exact Om (x.keep b o e) hn
 .rcases ft b q with q|q
  .exact .inl q
  .subst q;exact .inr hn
theorem St.turn {s:Shared} (x:St B V s) {h':Heap} {io io':IO} (e:V a=some io) (f:io.flat=true) (f':io'.flat=true)
 (kp:∀b,b≠a->h'.get? b=s.heap.get? b) (r:RO B h' a io') (t:Nat):St B (upd V a io') {s with heap:=h',toks:=t}/\Keep V s.heap (upd V a io') h':=by
 have inst:∀{b c fs},upd V a io' b=some (.inst c fs)->b≠a/\V b=some (.inst c fs):=λ{b c fs} e=>by
  by_cases q:b=a
  .subst q;obtain rfl:=Os (fh ..) e;exact(bE f').elim
  .exact⟨q,by rwa[cH _ _ q]at e⟩
 have fa:aS V s.heap a:=.inl (by refine O e ?_;simp);have ft:∀b,aS (upd V a io') h' b->aS V s.heap b:=λb q=>by
  rcases q with q|⟨b',c,fs,o,e1,e2,e3⟩
  .by_cases q':b=a
   .obtain rfl:=q'.symm;exact fa
   .rw[cH _ _ q']at q;exact .inl q
  .obtain⟨q,e1⟩:=inst e1;exact .inr ⟨b',c,fs,o,e1,(Oe (kp _ q) e2),e3⟩
 have tup:∀b o,s.heap.get? b=some o->cj o->h'.get? b=some o:=λb o g c=>by
  exact O (kp b λq=>by obtain rfl:=q.symm;exact x.not_tup fa g c) g
 refine⟨⟨λb o q=>?_,?_,?_,λb o q=>?_,λb q=>x.low b (ft b q),x.gens,x.os⟩,λb o g q=>?_,λb q=>.inl (ft b q)⟩
 .by_cases h:b=a
  .obtain rfl:=h.symm;obtain rfl:=Os (fh ..) q;exact r
  .replace q:=Oe (cH _ _ h) q
   refine(x.ro b o q).mono tup (λ_ g=>by exact O (kp _ h) g) λo1 d od g1 g2 g3=>?_;rw[kp d];exact g3;rintro rfl
   induction o with
   |inst c fs=>have:=x.hid b c fs o1 d q g1 g2;rw[e]at this;exact jr this
   |list xs=>rw[(x.ro b _ q).nodict rfl g1]at g2;exact bv g2
   |idict xs ep=>rw[(x.ro b _ q).nodict rfl g1]at g2;exact bv g2
   |sdict xs=>rw[(x.ro b _ q).nodict rfl g1]at g2;exact bv g2
   |tdict xs ep=>rw[(x.ro b _ q).nodict rfl g1]at g2;exact bv g2
 .intro b b' c c' fs fs' o o' d q q' g g' hd hd';obtain⟨n,q⟩:=inst q;obtain⟨n',q'⟩:=inst q'
  replace g:=Oe (kp _ n) g;replace g':=Oe (kp _ n') g'
  exact x.inj b b' c c' fs fs' o o' d q q' g g' hd hd'
 .intro b c fs o d q g hd;obtain⟨n,q1⟩:=inst q
  replace g:=Oe (kp _ n) g
  by_cases h:d=a
  .subst h;have:=x.hid b c fs o d q1 g hd;exact Om e this
  .exact O (cH _ _ h) (x.hid b c fs o d q1 g hd)
 .have h:=x.keep b o q;exact O (kp b λh'=>by subst h';replace q:=Oe (x.low b fa) q;cases q) h
 .exact O (kp b λh=>by subst h;exact q fa) g
theorem St.field {s:Shared} (x:St B V s) {h':Heap} {o:Obj} (e:V a=some (.inst c fs)) (g:s.heap.get? a=some o) (hd:o.dict=some d)
 (kp:∀b,b≠d->h'.get? b=s.heap.get? b) (r:RO B h' a (.inst c fs')) (t:Nat):St B (upd V a (.inst c fs')) {s with heap:=h',toks:=t}/\Keep V s.heap (upd V a (.inst c fs')) h':=by
 have fd:aS V s.heap d:=.inr ⟨a,c,fs,o,e,g,hd⟩;have hVd:V d=none:=x.hid a c fs o d e g hd;have had:a≠d:=by rintro rfl;exact Om e hVd
 have inst:∀{b c' fs''},upd V a (.inst c fs') b=some (.inst c' fs'')->∃fs0,V b=some (.inst c' fs0):=λ{b c' fs''} q=>by
  by_cases h:b=a
  .obtain rfl:=h.symm;replace q:=Oe (fh ..) q;cases q;exact⟨fs,e⟩
  .exact⟨fs'',by rwa[cH _ _ h]at q⟩
 have ne:∀{b io},V b=some io->b≠d:=λ{b io} q h=>by obtain rfl:=h.symm;exact Om q hVd
 have ft:∀b,aS (upd V a (.inst c fs')) h' b->aS V s.heap b:=λb q=>by
  rcases q with q|⟨b',c',fs'',o',e1,e2,e3⟩
  .by_cases q':b=a
   .obtain rfl:=q'.symm;exact .inl (by refine O e ?_;simp)
   .rw[cH _ _ q']at q;exact .inl q
  .obtain⟨fs0,e1⟩:=inst e1;exact .inr ⟨b',c',fs0,o',e1,(Oe (kp _ (ne e1)) e2),e3⟩
 have tup:∀b o,s.heap.get? b=some o->cj o->h'.get? b=some o:=λb o g c=>by
  exact O (kp b λq=>by obtain rfl:=q.symm;exact x.not_tup fd g c) g
 refine⟨⟨λb io q=>?_,?_,?_,λb o q=>?_,λb q=>x.low b (ft b q),x.gens,x.os⟩,λb o g q=>?_,λb q=>.inl (ft b q)⟩
 .by_cases h:b=a
  .obtain rfl:=h.symm;obtain rfl:=Os (fh ..) q;exact r
  .replace q:=Oe (cH _ _ h) q
   refine(x.ro b io q).mono tup (λ_ g=>by exact O (kp _ (ne q)) g) λo1 d' od g1 g2 g3=>?_;rw[kp d'];exact g3;rintro rfl
   induction io with
   |inst c' fs''=>exact h (x.inj b a c' c fs'' fs o1 o d' q e g1 g g2 hd)
   |list xs=>exact On ((x.ro b _ q).nodict rfl g1) g2
   |idict xs ep=>exact On ((x.ro b _ q).nodict rfl g1) g2
   |sdict xs=>exact On ((x.ro b _ q).nodict rfl g1) g2
   |tdict xs ep=>exact On ((x.ro b _ q).nodict rfl g1) g2
 .intro b b' c1 c1' fs1 fs1' o1 o1' d' q q' g1 g1' hd1 hd1';obtain⟨f0,q⟩:=inst q;obtain⟨f0',q'⟩:=inst q'
  replace g1:=Oe (kp _ (ne q)) g1;replace g1':=Oe (kp _ (ne q')) g1'
  exact x.inj b b' _ _ _ _ o1 o1' d' q q' g1 g1' hd1 hd1'
 .intro b c1 fs1 o1 d' q g1 hd1;obtain⟨f0,q1⟩:=inst q
  replace g1:=Oe (kp _ (ne q1)) g1
  by_cases h:d'=a
  .subst h;have:=x.hid b _ _ o1 d' q1 g1 hd1;exact Om e this
  .exact O (cH _ _ h) (x.hid b _ _ o1 d' q1 g1 hd1)
 .have h:=x.keep b o q;exact O (kp b λh'=>by subst h';replace q:=Oe (x.low b fd) q;cases q) h
 .exact O (kp b λh=>by subst h;exact q fd) g
theorem St.born {s:Shared} (x:St B V s) {h':Heap} {o:Obj} (had:a≠d) (hn:s.heap.get? a=none) (hdn:s.heap.get? d=none)
 (kp:∀b o,s.heap.get? b=some o->h'.get? b=some o) (g:h'.get? a=some o) (hd:o.dict=some d) (r:RO B h' a (.inst c [])) (t:Nat):
 St B (upd V a (.inst c [])) {s with heap:=h',toks:=t}/\Keep V s.heap (upd V a (.inst c [])) h':=by
 have hV:=x.dead hn;have hVd:=x.dead hdn;have inst:∀{b c' fs},upd V a (.inst c []) b=some (.inst c' fs)->b=a\/V b=some (.inst c' fs):=λ{b c' fs} e=>by
  by_cases q:b=a
  .exact .inl q
  .exact .inr (by rwa[cH _ _ q]at e)
 have back:∀{b io o},V b=some io->h'.get? b=some o->s.heap.get? b=some o:=λ{b io o} e g=>by
  obtain⟨o1,g₁⟩:=(x.ro b io e).live;obtain rfl:=Os (kp _ _ g₁) g;exact g₁
 have ft:∀b,aS (upd V a (.inst c [])) h' b->aS V s.heap b\/b=a\/b=d:=λb q=>by
  rcases q with q|⟨b',c',fs,o',e1,e2,e3⟩
  .by_cases e:b=a
   .exact .inr (.inl e)
   .rw[cH _ _ e]at q;exact .inl (.inl q)
  .rcases inst e1 with eQ|e1
   .obtain rfl:=eQ.symm;obtain rfl:=Os g e2;obtain rfl:=Os hd e3;exact .inr (.inr rfl)
   .exact .inl (.inr ⟨b',c',fs,o',e1,back e1 e2,e3⟩)
 have dd:∀{b c' fs o'},V b=some (.inst c' fs)->s.heap.get? b=some o'->o'.dict=some d->False:=λ{b c' fs o'} e1 e2 e3=>x.nofoot hdn (.inr ⟨b,c',fs,o',e1,e2,e3⟩);refine⟨⟨λb io e=>?_,?_,?_,λb o e=>kp _ _ (x.keep b o e),λb q=>?_,x.gens,x.os⟩,λb o e _=>kp b o e,λb q=>?_⟩
 .by_cases q:b=a
  .obtain rfl:=q.symm;obtain rfl:=Os (fh ..) e;exact r
  .exact(x.ro b io (Oe (cH _ _ q) e)).mono (λ_ _ g _=>kp _ _ g) (λ_ g=>kp _ _ g) λ_ _ _ _ _ g=>kp _ _ g
 .intro b b' c1 c1' fs fs' o1 o1' d' e e' g1 g1' hd1 hd1';rcases inst e with rfl|e2
  .rcases inst e' with eQ|e2'
   .obtain rfl:=eQ.symm;rfl
   .obtain rfl:=Os g g1;obtain rfl:=Os hd hd1;exact(dd e2' (back e2' g1') hd1').elim
  .rcases inst e' with rfl|e2'
   .obtain rfl:=Os g g1';obtain rfl:=Os hd hd1';exact(dd e2 (back e2 g1) hd1).elim
   .exact x.inj b b' _ _ _ _ o1 o1' d' e2 e2' (back e2 g1) (back e2' g1') hd1 hd1'
 .intro b c1 fs o1 d' e g1 hd1;rcases inst e with eQ|e2
  .obtain rfl:=eQ.symm;obtain rfl:=Os g g1;obtain rfl:=Os hd hd1;exact O (cH _ _ (Ne.symm had)) hVd
  .have g2:=back e2 g1;by_cases q:d'=a
   .obtain rfl:=q.symm;exact absurd (.inr ⟨b,_,_,o1,e2,g2,hd1⟩) (x.nofoot hn)
   .exact O (cH _ _ q) (x.hid b _ _ o1 d' e2 g2 hd1)
 .have low:∀b,s.heap.get? b=none->B.h0.get? b=none:=λb hb=>by
   induction e:B.h0.get? b with
   |none=>rfl
   |some o=>exact Om (x.keep b o e) hb
  rcases ft b q with q|eQ|eQ
  .exact x.low b q
  .obtain rfl:=eQ.symm;exact low _ hn
  .obtain rfl:=eQ.symm;exact low _ hdn
 .rcases ft b q with q|eQ|eQ
  .exact .inl q
  .obtain rfl:=eQ.symm;exact .inr hn
  .obtain rfl:=eQ.symm;exact .inr hdn
inductive PP (B:Bs) (V:IH) (h:Heap) (Q:IV->IH->Prop) (v:Value) (s':Shared):Prop
 |mk (V':IH) (i:IV) (x:St B V' s') (k:Keep V h V' s'.heap) (r:VR B s'.heap v i) (q:Q i V')
inductive PU (B:Bs) (V:IH) (h:Heap) (Q:IH->Prop) (s':Shared):Prop
 |mk (V':IH) (x:St B V' s') (k:Keep V h V' s'.heap) (q:Q V')
abbrev aA:Value->Shared->Prop:=λ_ _=>False
theorem PP.same {s:Shared} {Q:IV->IH->Prop} (x:St B V s) (r:VR B s.heap v i) (q:Q i V):PP B V s.heap Q v s:=⟨V,i,x,Keep.refl _ _,r,q⟩
theorem PP.tok {s:Shared} {Q:IV->IH->Prop} (x:St B V s) (r:VR B s.heap v i) (q:Q i V):PP B V s.heap Q v {s with toks:=t}:=
 ⟨V,i,x.tk t,Keep.refl _ _,r,q⟩
theorem PP.from {Q:IV->IH->Prop} (k:Keep V h V' h') (p:PP B V' h' Q v s'):PP B V h Q v s':=
 by obtain⟨V'',i,x,k',r,q⟩:=p;exact⟨V'',i,x,k.trans k',r,q⟩
theorem PU.from {Q:IH->Prop} (k:Keep V h V' h') (p:PU B V' h' Q s'):PU B V h Q s':=
 by obtain⟨V'',x,k',q⟩:=p;exact⟨V'',x,k.trans k',q⟩
theorem fN {s:Shared} (x:St B V s):s.heap.get? s.heap.objs.size=none:=get?_none_of_le (aY _)
theorem PP.push {s:Shared} {o:Obj} {io:IO} {Q:IV->IH->Prop} (x:St B V s) (f:io.flat=true) (r:∀h',(∀b o,s.heap.get? b=some o->h'.get? b=some o)->h'.get? s.heap.objs.size=some o->RO B h' s.heap.objs.size io)
 (q:∀a,V a=none->Q (.ref a) (upd V a io)) (hf:o.isFreed=false):PP B V s.heap Q (.ref s.heap.objs.size) {s with heap:=s.heap.push o,toks:=t}:=by
 have kp:∀b o',s.heap.get? b=some o'->(s.heap.push o).get? b=some o':=λb o' e=>cP _ e;obtain⟨a,b⟩:=x.add f (fN x) kp (r _ kp (c7 _ hf)) t;exact⟨_,.ref s.heap.objs.size,a,b,rfl,q _ (x.dead (fN x))⟩
theorem St.extra {s:Shared} (x:St B V s) (o:Obj) (t:Nat):St B V {s with heap:=s.heap.push o,toks:=t}/\Keep V s.heap V (s.heap.push o):=by
 have kp:∀b o',s.heap.get? b=some o'->(s.heap.push o).get? b=some o':=λb o' e=>cP _ e;exact⟨x.pres (s':={s with heap:=s.heap.push o,toks:=t}) (Pres.ofKeeps kp) rfl rfl,Pres.keep (s':={s with heap:=s.heap.push o,toks:=t}) x kp⟩
section
open PySem.SeqAt
set_option tactic.hygienic true
noncomputable def cR (xs:List IV):Option (List Int):=xs.rec (some []) λx _ r=>@IV.casesOn (λ_=>Option (List Int)) x none (λ_=>none) (λi=>r.map (i:: ·)) (λ_=>none) (λ_=>none) (λ_=>none) (λ_=>none)
theorem gY (l:List Int):cR (l.map IV.int)=some l:=by
 induction l with
 |nil=>rfl
 |cons i l ih=>exact be (Option.map (i:: ·)) ih
theorem dK:∀{l:List Int},cR xs=some l->xs=l.map IV.int:=by
 induction xs with
 |nil=>intro l h;obtain rfl:=aP h;rfl
 |cons x xs ih=>
  intro l h;rcases x with _|_|i|_|_|_|_<;>first|exact nomatch(show(none:Option (List Int))=some l from h)|skip
  obtain⟨m,e,rfl⟩:=map_eq_some_iff.1 (show(cR xs).map (i:: ·)=some l from h);exact O (ih e) rfl
section
variable{B:Bs} {h:Heap}
theorem VR_int:VR B h v (.int i)↔∃t,v=.int i t:=Iff.rfl
theorem VR_bool {b:Bool}:VR B h v (.bool b)↔v=.bool b:=Iff.rfl
theorem VR_none:VR B h v .none↔v=.none:=Iff.rfl
theorem VR_ref:VR B h v (.ref a)↔v=.ref a:=Iff.rfl
theorem VR_str:VR B h v (.str x)↔∃t,v=.str x t:=Iff.rfl
theorem VRs.ints:∀{l:List Int},VRs B h vs (l.map IV.int)->IntsAre vs l:=by
 induction vs with
 |nil=>intro l r;cases l;exact .nil;exact r.elim
 |cons v vs ih=>
  intro l r;cases l
  .exact r.elim
  .obtain⟨t,rfl⟩:=r.1;exact .cons _ t (ih r.2)
theorem VRs.of_ints {l:List Int} (r:IntsAre vs l):VRs B h vs (l.map IV.int):=by
 induction r with
 |nil=>trivial
 |cons i t _ ih=>exact⟨⟨t,rfl⟩,ih⟩
theorem Hn (x:IntsAre vs l):ItemsAre (intKind prog w) l vs:=by
 induction x with
 |nil=>exact .nil
 |cons n t _ ih=>exact .cons (by simp[intKind,Value.isInt]) ih
theorem VR.tupKeyG {l:List Int} (r:VR B h v (.tup (l.map IV.int))):∃a,v=.ref a/\∀prog w,IsTupleKey (intKind prog w) h l a:=by
 o_shape;obtain⟨a,its,e,⟨o,ho,hc,n,hd⟩,q,l⟩:=r;pv_eval;exact⟨a,e,λprog w=>⟨o,its,n,ho,hc,hd,Hn q.ints⟩⟩
theorem VR.tupKey {l:List Int} (r:VR B h v (.tup (l.map IV.int))):∃a,v=.ref a/\IsTupleKey (iK B) h l a:=
 by obtain⟨a,e,k⟩:=r.tupKeyG;exact⟨a,e,k _ _⟩
end
inductive eqd:IV->IV->Bool->Prop
 |int (i j:Int):eqd (.int i) (.int j) (decide (i=j))
 |str (x y:PySem.Str):eqd (.str x) (.str y) (decide (x=y))
 |non:eqd .none .none true
 |tup {xs ys:List IV} {l m:List Int} (h:cR xs=some l) (k:cR ys=some m):eqd (.tup xs) (.tup ys) (decide (l=m))
theorem eqd.det {a b:Bool} (h:eqd x y a) (k:eqd x y b):a=b:=by
 induction h with
 |int i j=>rcases k;rfl
 |str i j=>rcases k;rfl
 |non=>rcases k;rfl
 |tup h k'=>rcases k with _|_|_|⟨h2,k2⟩;rcases h.symm.trans h2;rcases k'.symm.trans k2;rfl
theorem zi {A:Around} {s:Shared} {v u:Value} {b:Bool} (hu:A.units<cLine) (hv:VR B s.heap v x) (hw:VR B s.heap u y) (e:eqd x y b):EqAt A s v u b:=by
 intro prog w E Q q
 induction e with
 |int=>obtain⟨t,rfl⟩:=hv;obtain⟨t',rfl⟩:=hw;exact wpAny_eqBool_int q
 |str=>obtain⟨t,rfl⟩:=hv;obtain⟨t',rfl⟩:=hw;exact wpAny_eqBool_str q
 |non=>obtain rfl:=hv;obtain rfl:=hw;exact EqAt.same .none prog w E Q q
 |tup e1 e2=>
  rw[dK e1]at hv;rw[dK e2]at hw;obtain⟨a,rfl,ka⟩:=hv.tupKeyG;obtain⟨b',rfl,kb⟩:=hw.tupKeyG;exact wpAny_eqBool_tuple hu (ka prog w) (kb prog w) q
inductive anyEq (x:IV):List IV->Bool->Prop
 |nil:anyEq x [] false
 |cons {y:IV} {ys:List IV} {a b:Bool} (h:eqd y x a) (t:anyEq x ys b):anyEq x (y::ys) (a||b)
def zv (o:Operator) (x y:Int) (Q:IV->IH->Prop) (V:IH):Prop:=match o with
 |.Add=>Q (.int (x+y)) V
 |.Sub=>Q (.int (x -y)) V
 |.Mult=>x.natAbs<2^40/\y.natAbs<2^40/\Q (.int (x*y)) V
 |.FloorDiv=>y≠0/\y.natAbs<1000/\Q (.int (x.fdiv y)) V
 |.Mod=>y≠0/\Q (.int (x.fmod y)) V
 |.LShift=>0<=y/\y<=1000/\x.natAbs<2^64/\Q (.int (x*2^y.toNat)) V
 |.RShift=>0<=y/\Q (.int (x.fdiv (2^y.toNat))) V
 |.BitOr=>Q (.int (Builtin.bitOr x y)) V
 |.BitAnd=>Q (.int (Builtin.bitAnd x y)) V
 |_=>False
inductive binI (o:Operator) (a b:IV) (Q:IV->IH->Prop) (V:IH):Prop
 |int (x y:Int) (e:a=.int x) (e':b=.int y) (q:zv o x y Q V)
 |cat (p r:Addr) (xs ys:List IV) (o':o=.Add) (e:a=.ref p) (e':b=.ref r) (h:V p=some (.list xs)) (h':V r=some (.list ys)) (l:xs.length+ys.length<1000000) (q:∀r,V r=none->Q (.ref r) (upd V r (.list (xs++ys))))
 |mul (p:Addr) (n:Int) (x:IV) (o':o=.Mult) (e:a=.ref p) (e':b=.int n) (h:V p=some (.list [x])) (l:n<1000000) (l': -1000000<n) (q:∀r,V r=none->Q (.ref r) (upd V r (.list (List.replicate n.toNat x))))
theorem IntMulOk.small {x y:Int} (hx:x.natAbs<2^40) (hy:y.natAbs<2^40):IntMulOk x y:=by
 first|(unfold IntMulOk;omega)|mul_fits
section
variable{B:Bs} {A:Around} {s:Shared} {V:IH} {v u:Value} {a b:IV} {Q:IV->IH->Prop}
theorem PP.int (x:St B V s) (q:Q (.int i) V):PP B V s.heap Q (.int i k) {s with toks:=t}:=PP.tok x (VR_int.mpr ⟨_,rfl⟩) q
theorem PP.boo {b:Bool} (x:St B V s) (q:Q (.bool b) V):PP B V s.heap Q (.bool b) s:=PP.same x (VR_bool.mpr rfl) q
theorem PP.boot {b:Bool} (x:St B V s) (q:Q (.bool b) V):PP B V s.heap Q (.bool b) {s with toks:=t}:=PP.tok x (VR_bool.mpr rfl) q
theorem PP.non (x:St B V s) (q:Q .none V):PP B V s.heap Q .none s:=PP.same x (VR_none.mpr rfl) q
theorem RO.newlist {h h':Heap} {a:Addr} {vs:List Value} {xs:List IV} (r:VRs B h vs xs) (l:xs.length<1000000) (k:∀b o,h.get? b=some o->h'.get? b=some o) (e:h'.get? a=some {cls:=.type "list",data:=.seq vs.toArray}):RO B h' a (.list xs):=
 ⟨vs.toArray,0,e,by simpa using r.mono λa o g _=>k a o g,l⟩
theorem PP.newlist {vs:Array Value} {xs:List IV} (x:St B V s) (r:VRs B s.heap vs.toList xs) (l:xs.length<1000000) (q:∀a,V a=none->Q (.ref a) (upd V a (.list xs))):
 PP B V s.heap Q (.ref s.heap.objs.size) {s with heap:=s.heap.push {cls:=.type "list",data:=.seq vs},toks:=t}:=
 PP.push x rfl (λh' k e=>RO.newlist (vs:=vs.toList) r l k e) q rfl
theorem GQ (v:Value) (n:Nat):∀acc:Array Value,List.foldl (λx1 x2=>x1++x2) acc (List.replicate n #[v])=acc++(List.replicate n v).toArray:=by
 induction n with
 |zero=>intro acc;simp
 |succ n ih=>
  intro acc;refine O List.replicate_succ (O List.foldl_cons (O (ih ..) ?_));apply Array.ext';simp[List.replicate_succ]
theorem VRs.replicate (r:VR B h v x) (n:Nat):VRs B h (List.replicate n v) (List.replicate n x):=by
 induction n with
 |zero=>trivial
 |succ n ih=>exact⟨r,ih⟩
theorem SS (x:St B V s) (hv:VR B s.heap v a) (hu:VR B s.heap u b) (q:binI o a b Q V):wpAny (model pw B.w) A (binaryOp o v u) (PP B V s.heap Q) aA s:=by
 rcases q with⟨x',y',rfl,rfl,q⟩|⟨p,p',xs,ys,rfl,rfl,rfl,e1,e2,hlen,q⟩|⟨p,n,y,rfl,rfl,rfl,e1,hhi,hlo,q⟩
 .obtain⟨t,rfl⟩:=hv;obtain⟨t',rfl⟩:=hu;unfold zv at q;rcases o<;>try exact q.elim
  .exact add_int (PP.int x q)
  .exact sub_int (PP.int x q)
  .exact mul_int (PP.int x q.2.2) (IntMulOk.small q.1 q.2.1)
  .exact mod_int' q.1 (PP.int x q.2)
  .exact lshift_int_small q.1 (by have:=q.2.1;omega) q.2.2.1 (PP.int x q.2.2.2)
  .exact rshift_int q.1 (PP.int x q.2)
  .exact or_int (PP.int x q)
  .exact and_int (PP.int x q)
  .exact floordiv_int q.1 (PP.int x q.2.2) (.inl (PyProof.noPylong_small (by have:=q.2.1;omega)))
 .obtain rfl:=hv;obtain rfl:=hu;o_shape;obtain⟨vs,n,g,r,_⟩:=x.ro _ _ e1;obtain⟨vs',n',g',r',_⟩:=x.ro _ _ e2;pv_eval;have l1:=r.length;have l2:=r'.length;simp only[length_toList]at l1 l2;exact P.add_list g g' (PP.newlist (t:=s.toks) x (by simpa using r.append r') (by simp;omega) q) (by refine O db ?_;omega)
 .obtain rfl:=hv.symm;obtain⟨t',rfl⟩:=hu;o_shape;obtain⟨vs,k,g,r,_⟩:=x.ro _ _ e1;have l1:=r.length;simp only[length_toList,length_cons,length_nil]at l1;obtain⟨v,rfl⟩:∃v,vs= #[v]:=by
   obtain⟨l⟩:=vs;simp at l1;obtain⟨v,rfl⟩:=List.length_eq_one_iff.mp l1;exact⟨v,rfl⟩
  pv_eval;refine wpAny_binaryOp_repeat_ref (T:="list") (U:="int") (by decide) ⟨_,g,rfl⟩ (λs'=>typeIs_int s' _ _) noFill_list_mul F.fills_int_mul F.slot_int_rmul repeat_list F.slot_int_index.lookup
   (call_meets F.slot_int_rmul (typeIs_int s _ _) F.entry_int_rmul (F.args_int_rmul_2 _ _) (int___rmul___int_list _ _ _ _ k)
     ⟨g,rfl,⟨_,g,rfl⟩,call_meets F.slot_list_mul ⟨_,g,rfl⟩ F.entry_list_mul (F.args_list_mul_2 _ _)
       (AutoListH.list___mul___list_int_3 _ _ k _ _ (by simp[Builtin.List.listFitsIndex];omega) (by simp;omega) (by simp[Builtin.List.listTooLong,sizeLine];omega))
       ⟨g,?_⟩⟩)
  have e:(List.foldl (λx1 x2=>x1++x2) (#[]:Array Value) (List.replicate (if(#[v]:Array Value).isEmpty=true then 0 else n.toNat) #[v]))=(List.replicate n.toNat v).toArray:=by
   refine O (ai (by simp)) (O (GQ ..) ?_);simp
  have p:=PP.newlist (t:=s.toks) (vs:=(List.replicate n.toNat v).toArray) x (by simpa using VRs.replicate r.1 n.toNat) (by simp;omega) q;exact e▸p
theorem S5 (x:St B V s) (hv:VR B s.heap v (.int i)) (q:Q (.int (-i)) V):wpAny (model pw B.w) A (unaryOp .USub v) (PP B V s.heap Q) aA s:=by
 obtain⟨t,rfl⟩:=hv;exact neg_int (PP.int x q)
inductive tru:IV->(Bool->IH->Prop)->IH->Prop
 |bool {b:Bool} {K:Bool->IH->Prop} {V:IH} (q:K b V):tru (.bool b) K V
 |int {i:Int} {K:Bool->IH->Prop} {V:IH} (q:K (decide (i≠0)) V):tru (.int i) K V
 |list {p:Addr} {xs:List IV} {K:Bool->IH->Prop} {V:IH} (h:V p=some (.list xs)) (q:K (!xs.isEmpty) V):tru (.ref p) K V
end
theorem D8 {b:Bool} (h:anyEq x xs b):∀y∈xs,∃c,eqd y x c:=by
 induction h with
 |nil=>exact λ_ m=>nomatch m
 |cons h _ ih=>exact List.forall_mem_cons.2 ⟨⟨_,h⟩,ih⟩
theorem Ea {b:Bool} (h:anyEq x xs b):b=true↔∃y∈xs,eqd y x true:=by
 induction h with
 |nil=>exact⟨λe=>(bE e).elim,λzq=>by obtain⟨_,m,_⟩:=zq;exact nomatch m⟩
 | @cons z zs a b h _ ih=>
   refine O (or_eq_true ..) ?_;rw[ih];constructor
   .rintro(rfl|⟨y,m,q⟩)
    .exact⟨z,bJ,h⟩
    .exact⟨y,dw _ m,q⟩
   .rintro⟨y,m,q⟩;rcases mem_cons.1 m with rfl|m
    .exact .inl (h.det q)
    .exact .inr ⟨y,m,q⟩
theorem VRs.mem (r:VRs B h vs xs):v∈vs->∃x∈xs,VR B h v x:=
 r.ind (P:=λvs xs=>v∈vs->∃x∈xs,VR B h v x) (λm=>nomatch m) λu us y ys a _ ih m=>by
  rcases mem_cons.mp m with rfl|m
  .exact⟨y,bJ,a⟩
  .exact(ih m).imp λx q=>⟨dw _ q.1,q.2⟩
theorem VRs.mem' (r:VRs B h vs xs):x∈xs->∃v∈vs,VR B h v x:=
 r.ind (P:=λvs xs=>x∈xs->∃v∈vs,VR B h v x) (λm=>nomatch m) λu us y ys a _ ih m=>by
  rcases mem_cons.mp m with rfl|m
  .exact⟨u,bJ,a⟩
  .exact(ih m).imp λx q=>⟨dw _ q.1,q.2⟩
open Classical in
noncomputable def rH (B:Bs) (h:Heap) (xs:List IV) (x:IV) (v:Value):Bool:=decide (∃y∈xs,VR B h v y/\eqd y x true)
open Classical in
theorem jT {A:Around} {s:Shared} {its:Array Value} {u:Value} {b:Bool} (hu:A.units<cLine) (r:VRs B s.heap its.toList xs) (hx:VR B s.heap u x) (e:anyEq x xs b):
 (∀y,y∈its->EqAt A s y u (rH B s.heap xs x y))/\its.any (rH B s.heap xs x)=b:=by
 constructor
 .intro y hy;obtain⟨z,hz,rz⟩:=r.mem (mem_toList_iff.mpr hy);obtain⟨c,hc⟩:=D8 e z hz;unfold rH;by_cases q:∃y'∈xs,VR B s.heap y y'/\eqd y' x true
  .refine O (decide_eq_true q) ?_;obtain⟨y',_,h1,h2⟩:=q;exact zi hu h1 hx h2
  .refine O (decide_eq_false q) ?_
   induction c with
   |false=>exact zi hu rz hx hc
   |true=>exact absurd ⟨z,hz,rz,hc⟩ q
 .have h1:=Ea e;rw[Bool.eq_iff_iff,h1,Array.any_eq_true'];constructor
  .rintro⟨y,hy,q⟩;obtain⟨y',hy',_,q'⟩:=dT q;exact⟨y',hy',q'⟩
  .rintro⟨y,hy,q⟩;obtain⟨v,hv,rv⟩:=r.mem' hy;exact⟨v,mem_toList_iff.mp hv,decide_eq_true ⟨y,hy,rv,q⟩⟩
section
variable{K:Type} [DecidableEq K] {B:Bs} {h:Heap}
theorem KVR.get (r:KVR B h l l') (k:K):(valueAt l k=none/\aq l' k=none)\/∃v x,valueAt l k=some v/\aq l' k=some x/\VR B h v x:=by
 induction r with
 |nil=>exact .inl ⟨rfl,rfl⟩
 | @cons k' v x l l' hv r ih=>
   unfold valueAt aq;by_cases q:k'=k
   .obtain rfl:=q.symm;exact .inr ⟨v,x,by simp,by simp,hv⟩
   .have e1:valueAt ((k',v)::l) k=valueAt l k:=by simp[valueAt,q]
    have e2:aq ((k',x)::l') k=aq l' k:=by simp[aq,q]
    unfold valueAt at e1;unfold aq at e2;exact O e1 (O e2 ih)
theorem KVR.length {l:List (K×Value)} {l':List (K×IV)} (r:KVR B h l l'):l.length=l'.length:=by
 induction r with
 |nil=>rfl
 |cons _ _ ih=>simp[ih]
theorem KVR.keys {l:List (K×Value)} {l':List (K×IV)} (r:KVR B h l l'):l.map (·.1)=l'.map (·.1):=by
 induction r with
 |nil=>rfl
 |cons _ _ ih=>simp[ih]
theorem KVR.any {l:List (K×Value)} {l':List (K×IV)} (r:KVR B h l l') (k:K):(l.any λkv=>kv.1=k)=(l'.any λkv=>kv.1=k):=by
 induction r with
 |nil=>rfl
 |cons _ _ ih=>simp only[List.any_cons,ih]
theorem KVR.app (r:KVR B h l l') (r2:KVR B h m m'):KVR B h (l++m) (l'++m'):=by
 induction r with
 |nil=>exact r2
 |cons a _ ih=>exact .cons a ih
theorem KVR.over {l:List (K×Value)} {l':List (K×IV)} (r:KVR B h l l') (k:K) (hv:VR B h v x):KVR B h (l.map (λkv=>if kv.1=k then(kv.1,v)else kv)) (l'.map (λkv=>if kv.1=k then(kv.1,x)else kv)):=by
 induction r with
 |nil=>exact .nil
 | @cons k' v' x' l l' hv' r ih=>
   simp only[map_cons];by_cases q:k'=k
   .simp only[q,if_true];exact .cons hv ih
   .simp only[q,if_false];exact .cons hv' ih
theorem KVR3.over {l:List (K×Addr×Value)} {l':List (K×IV)} (r:KVR3 B h l l') (k:K) (hv:VR B h v x):KVR3 B h (l.map (putAt k v)) (l'.map (λkv=>if kv.1=k then(kv.1,x)else kv)):=by
 induction r with
 |nil=>exact .nil
 | @cons k' a' v' x' l l' hv' r ih=>
   simp only[map_cons];by_cases q:k'=k
   .simp only[q,putAt,if_true];exact .cons hv ih
   .simp only[q,putAt,if_false];exact .cons hv' ih
theorem KVR.put (r:KVR B h l l') (k:K) (hv:VR B h v x):KVR B h (stored l k v) (aK l' k x):=by
 unfold stored aK;refine O (r.any k) ?_;split
 .exact r.over k hv
 .exact r.app (.cons hv .nil)
theorem KVR3.get (r:KVR3 B h l l') (k:K):(atKey l k=none/\aq l' k=none)\/∃a v x,atKey l k=some (a,v)/\aq l' k=some x/\VR B h v x:=by
 induction r with
 |nil=>exact .inl ⟨rfl,rfl⟩
 | @cons k' a v x l l' hv r ih=>
   by_cases q:k'=k
   .subst q;exact .inr ⟨a,v,x,by simp[atKey],by simp[aq],hv⟩
   .have e1:atKey ((k',a,v)::l) k=atKey l k:=by simp[atKey,q]
    have e2:aq ((k',x)::l') k=aq l' k:=by simp[aq,q]
    exact O e1 (O e2 ih)
theorem KVR3.length {l:List (K×Addr×Value)} {l':List (K×IV)} (r:KVR3 B h l l'):l.length=l'.length:=by
 induction r with
 |nil=>rfl
 |cons _ _ ih=>simp[ih]
theorem KVR3.app (r:KVR3 B h l l') (r2:KVR3 B h m m'):KVR3 B h (l++m) (l'++m'):=by
 induction r with
 |nil=>exact r2
 |cons a _ ih=>exact .cons a ih
theorem KVR3.any {l':List (K×IV)} (r:KVR3 B h l l') (k:K):(atKey l k).isSome=(l'.any λkv=>kv.1=k):=by
 induction r with
 |nil=>rfl
 | @cons k' a v x l l' hv r ih=>
   by_cases q:k'=k
   .subst q;simp[atKey]
   .have e1:atKey ((k',a,v)::l) k=atKey l k:=by simp[atKey,q]
    refine O e1 (O ih ?_);simp[q]
theorem KVR3.put (r:KVR3 B h l l') (k:K) (hv:VR B h v x):KVR3 B h (storedH l k a v) (aK l' k x):=by
 unfold aK;refine Ob (r.any k) ?_
 induction e:atKey l k with
 |none=>
  rw[storedH_new e];simp only[Option.isSome_none,Bool.false_eq_true,if_false];exact r.app (.cons hv .nil)
 |some p=>
  rw[storedH_old e];simp only[Option.isSome_some,if_true];exact r.over k hv
end
inductive eqI (a b:IV) (K:Bool->IH->Prop) (V:IH):Prop
 |int (i j:Int) (e:a=.int i) (e':b=.int j) (q:K (decide (i=j)) V)
 |len (p r:Addr) (xs ys:List IV) (e:a=.ref p) (e':b=.ref r) (h:V p=some (.list xs)) (h':V r=some (.list ys)) (n:xs.length≠ys.length) (q:K false V)
 |lst (p r:Addr) (xs ys:List IV) (l m:List Int) (e:a=.ref p) (e':b=.ref r) (h:V p=some (.list xs)) (h':V r=some (.list ys)) (i1:cR xs=some l) (i2:cR ys=some m) (q:K (decide (l=m)) V)
inductive neI (a b:IV) (K:Bool->IH->Prop) (V:IH):Prop
 |int (i j:Int) (e:a=.int i) (e':b=.int j) (q:K (decide (i≠j)) V)
 |bool (i j:Bool) (e:a=.bool i) (e':b=.bool j) (q:K (i !=j) V)
 |lst (p r:Addr) (xs ys:List IV) (l m:List Int) (e:a=.ref p) (e':b=.ref r) (h:V p=some (.list xs)) (h':V r=some (.list ys)) (i1:cR xs=some l) (i2:cR ys=some m) (q:K (decide (l≠m)) V)
inductive inI (a b:IV) (K:Bool->IH->Prop) (V:IH):Prop
 |tup (xs:List IV) (r:Bool) (e:b=.tup xs) (h:anyEq a xs r) (q:K r V)
 |list (p:Addr) (xs:List IV) (r:Bool) (e:b=.ref p) (h:V p=some (.list xs)) (g:anyEq a xs r) (q:K r V)
 |int (p:Addr) (i:Int) (kvs:List (Int×IV)) (ep:Nat) (e':a=.int i) (e:b=.ref p) (h:V p=some (.idict kvs ep)) (q:K (aq kvs i).isSome V)
 |tupK (p:Addr) (xs:List IV) (l:List Int) (kvs:List (List Int×IV)) (ep:Nat) (e':a=.tup xs) (e:b=.ref p) (h:V p=some (.tdict kvs ep)) (i:cR xs=some l) (q:K (aq kvs l).isSome V)
inductive isNone:IV->Bool->Prop
 |none:isNone .none true
 |int (i:Int):isNone (.int i) false
 |bool (b:Bool):isNone (.bool b) false
 |ref (a:Addr):isNone (.ref a) false
inductive intsI (a b:IV) (C:Int->Int->Prop):Prop
 |mk (i j:Int) (e:a=.int i) (e':b=.int j) (q:C i j)
inductive isNI (a b:IV) (C:Bool->Prop):Prop
 |mk (r:Bool) (h:isNone a r) (e:b=.none) (q:C r)
def fv (o:CmpOp) (a b:IV) (Q:IV->IH->Prop) (V:IH):Prop:=match o with
 |.Eq=>eqI a b (λr=>Q (.bool r)) V
 |.NotEq=>neI a b (λr=>Q (.bool r)) V
 |.Lt=>intsI a b λi j=>Q (.bool (decide (i<j))) V
 |.LtE=>intsI a b λi j=>Q (.bool (decide (i<=j))) V
 |.Gt=>intsI a b λi j=>Q (.bool (decide (j<i))) V
 |.GtE=>intsI a b λi j=>Q (.bool (decide (j<=i))) V
 |.Is=>isNI a b λr=>Q (.bool r) V
 |.IsNot=>isNI a b λr=>Q (.bool (!r)) V
 |.In=>inI a b (λr=>Q (.bool r)) V
 |.NotIn=>inI a b (λr=>Q (.bool (!r))) V
section
variable{B:Bs} {A:Around} {s:Shared} {V:IH} {v u:Value} {a b:IV} {Q:IV->IH->Prop}
theorem RO.isList {h:Heap} {xs:List IV} (r:RO B h p (.list xs)) {C:Prop} (k:∀vs:Array Value,h.IsList p vs->VRs B h vs.toList xs->xs.length<1000000->C):C:=by obtain⟨vs,n,g,q,l⟩:=r;exact k vs g.isList q l
theorem St.notMods (x:St B V s) (e:V p=some io) (hm:∃o,B.h0.get? sysModules=some o):(p==sysModules)=false:=by
 refine beq_eq_false_iff_ne.mpr λq=>?_;subst q;obtain⟨o,ho⟩:=hm;have:=x.low sysModules (.inl (by refine O e ?_;simp));exact Om ho this
theorem SW (x:St B V s) (R:A.units+64<cLine) (hv:VR B s.heap v a) (hu:VR B s.heap u b) (q:eqI a b (λr=>Q (.bool r)) V):wpAny (model pw B.w) A (compareOp .Eq v u) (PP B V s.heap Q) aA s:=by
 rcases q with⟨i,j,rfl,rfl,q⟩|⟨p,r0,xs,ys,rfl,rfl,e1,e2,hne,q⟩|⟨p,r0,xs,ys,l,m,rfl,rfl,e1,e2,i1,i2,q⟩
 .obtain⟨t,rfl⟩:=hv;obtain⟨t',rfl⟩:=hu;exact eq_int (PP.boo x (by simpa[BEq.beq]using q))
 .obtain rfl:=hv;obtain rfl:=hu;o_shape;refine(x.ro _ _ e1).isList λvs g r hl=>?_;refine(x.ro _ _ e2).isList λvs' g' r' hl'=>?_;pv_eval;have l1:=r.length;have l2:=r'.length;simp only[length_toList]at l1 l2;exact eq_list_lengthsAt g g' (by simp;lia) (by lia) (PP.boo x q)
 .obtain rfl:=hv;obtain rfl:=hu;o_shape;refine(x.ro _ _ e1).isList λvs g r hl=>?_;refine(x.ro _ _ e2).isList λvs' g' r' hl'=>?_;pv_eval;rw[dK i1]at r;rw[dK i2]at r';exact eq_intsK (vs:=vs.toList) (us:=vs'.toList) (g) r.ints (g') r'.ints R (PP.boo x q)
theorem S4 (x:St B V s) (R:A.units+64<cLine) (hv:VR B s.heap v a) (hu:VR B s.heap u b) (q:neI a b (λr=>Q (.bool r)) V):wpAny (model pw B.w) A (compareOp .NotEq v u) (PP B V s.heap Q) aA s:=by
 rcases q with⟨i,j,rfl,rfl,q⟩|⟨i,j,rfl,rfl,q⟩|⟨p,r0,xs,ys,l,m,rfl,rfl,e1,e2,i1,i2,q⟩
 .obtain⟨t,rfl⟩:=hv;obtain⟨t',rfl⟩:=hu;refine ne_int (PP.boo x ?_)
  simpa[bne,BEq.beq]using q
 .obtain rfl:=hv;obtain rfl:=hu;exact ne_bool (PP.boo x q)
 .obtain rfl:=hv;obtain rfl:=hu;o_shape;refine(x.ro _ _ e1).isList λvs g r hl=>?_;refine(x.ro _ _ e2).isList λvs' g' r' hl'=>?_;pv_eval;rw[dK i1]at r;rw[dK i2]at r';refine ne_intsK (vs:=vs.toList) (us:=vs'.toList) (g) r.ints (g') r'.ints R (PP.boo x ?_)
  simpa using q
theorem iy (x:St B V s) (hm:∃o,B.h0.get? sysModules=some o) (R:A.units+64<cLine) (hv:VR B s.heap v a) (hu:VR B s.heap u b) (q:inI a b (λr=>Q (.bool r)) V):wpAny (model pw B.w) A (compareOp .In v u) (PP B V s.heap Q) aA s:=by
 have R1:A.in1.units<cLine:=by show A.units+1<cLine;lia
 rcases q with⟨xs,r,rfl,e,q⟩|⟨p,xs,r,rfl,e1,e,q⟩|⟨p,i,kvs,ep,rfl,rfl,e1,q⟩|⟨p,xs,l,kvs,ep,rfl,rfl,e1,e,q⟩
 .obtain⟨p,its,rfl,t,rr,_⟩:=hu;obtain⟨h1,h2⟩:=jT R1 rr hv e;exact in_tupleAt _ t h1 (h2▸PP.boo x q)
 .obtain rfl:=hu;refine(x.ro _ _ e1).isList λvs g rr _=>?_;obtain⟨h1,h2⟩:=jT R1 rr hv e;exact in_listAt _ g h1 (h2▸PP.boo x q)
 .obtain rfl:=hu;obtain⟨t,rfl⟩:=hv;obtain⟨kvs',g,r,hl⟩:=x.ro _ _ e1;refine wpAny_in_of (knd:=iK B) (k:=i) (by simp[intKind,Value.isInt]) (x.notMods e1 hm) g.dictOf.mapOf ?_;rcases r.get i with⟨h1,h2⟩|⟨v',x',h1,h2,h3⟩
  .refine O h1 ?_;rw[h2]at q;exact PP.boot x q
  .refine O h1 ?_;rw[h2]at q;exact PP.boot x q
 .obtain rfl:=hu;rw[dK e]at hv;obtain⟨ka,rfl,kk⟩:=hv.tupKey;obtain⟨kvs',g,r,hl⟩:=x.ro _ _ e1;refine wpAny_in_heap (knd:=tK B) (k:=l) (tupleKind_room_in1 (by assumption)) kk (x.notMods e1 hm) g.of ?_;rcases r.get l with⟨h1,h2⟩|⟨a',v',x',h1,h2,h3⟩
  .refine O h1 ?_;rw[h2]at q;exact PP.boot x q
  .refine O h1 ?_;rw[h2]at q;exact PP.boot x q
theorem S6 (x:St B V s) (hm:∃o,B.h0.get? sysModules=some o) (R:A.units+64<cLine) (hv:VR B s.heap v a) (hu:VR B s.heap u b) (q:inI a b (λr=>Q (.bool (!r))) V):wpAny (model pw B.w) A (compareOp .NotIn v u) (PP B V s.heap Q) aA s:=by
 have R1:A.in1.units<cLine:=by show A.units+1<cLine;lia
 rcases q with⟨xs,r,rfl,e,q⟩|⟨p,xs,r,rfl,e1,e,q⟩|⟨p,i,kvs,ep,rfl,rfl,e1,q⟩|⟨p,xs,l,kvs,ep,rfl,rfl,e1,e,q⟩
 .obtain⟨p,its,rfl,t,rr,_⟩:=hu;obtain⟨h1,h2⟩:=jT R1 rr hv e;exact notIn_tupleAt _ t h1 (h2▸PP.boo x q)
 .obtain rfl:=hu;refine(x.ro _ _ e1).isList λvs g rr _=>?_;obtain⟨h1,h2⟩:=jT R1 rr hv e;exact notIn_listAt _ g h1 (h2▸PP.boo x q)
 .obtain rfl:=hu;obtain⟨t,rfl⟩:=hv;obtain⟨kvs',g,r,hl⟩:=x.ro _ _ e1;refine wpAny_notIn_of (knd:=iK B) (k:=i) (by simp[intKind,Value.isInt]) (x.notMods e1 hm) g.dictOf.mapOf ?_;rcases r.get i with⟨h1,h2⟩|⟨v',x',h1,h2,h3⟩
  .refine O h1 ?_;rw[h2]at q;exact PP.boot x q
  .refine O h1 ?_;rw[h2]at q;exact PP.boot x q
 .obtain rfl:=hu;rw[dK e]at hv;obtain⟨ka,rfl,kk⟩:=hv.tupKey;obtain⟨kvs',g,r,hl⟩:=x.ro _ _ e1;refine wpAny_notIn_heap (knd:=tK B) (k:=l) (tupleKind_room_in1 (by assumption)) kk (x.notMods e1 hm) g.of ?_;rcases r.get l with⟨h1,h2⟩|⟨a',v',x',h1,h2,h3⟩
  .refine O h1 ?_;rw[h2]at q;exact PP.boot x q
  .refine O h1 ?_;rw[h2]at q;exact PP.boot x q
theorem qR (x:St B V s) (hm:∃o,B.h0.get? sysModules=some o) (R:A.units+64<cLine) (hv:VR B s.heap v a) (hu:VR B s.heap u b) (q:fv o a b Q V):wpAny (model pw B.w) A (compareOp o v u) (PP B V s.heap Q) aA s:=by
 unfold fv at q;rcases o
 .exact SW x R hv hu q
 .exact S4 x R hv hu q
 .obtain⟨i,j,rfl,rfl,q⟩:=q;obtain⟨t,rfl⟩:=hv;obtain⟨t',rfl⟩:=hu;exact lt_int (PP.boo x q)
 .obtain⟨i,j,rfl,rfl,q⟩:=q;obtain⟨t,rfl⟩:=hv;obtain⟨t',rfl⟩:=hu;exact le_int (PP.boo x q)
 .obtain⟨i,j,rfl,rfl,q⟩:=q;obtain⟨t,rfl⟩:=hv;obtain⟨t',rfl⟩:=hu;exact gt_int (PP.boo x q)
 .obtain⟨i,j,rfl,rfl,q⟩:=q;obtain⟨t,rfl⟩:=hv;obtain⟨t',rfl⟩:=hu;exact ge_int (PP.boo x q)
 .obtain⟨r,e,rfl,q⟩:=q;obtain rfl:=hu
  induction e with
  |int=>obtain⟨t,rfl⟩:=hv;exact wpAny_is_plain rfl (PP.boo x q)
  |_=>obtain rfl:=hv;exact wpAny_is_plain rfl (PP.boo x q)
 .obtain⟨r,e,rfl,q⟩:=q;obtain rfl:=hu
  induction e with
  |int=>obtain⟨t,rfl⟩:=hv;exact wpAny_isNot_plain rfl (PP.boo x q)
  |_=>obtain rfl:=hv;exact wpAny_isNot_plain rfl (PP.boo x q)
 .exact iy x hm R hv hu q
 .exact S6 x hm R hv hu q
theorem qS {K:Bool->IH->Prop} (x:St B V s) (hv:VR B s.heap v a) (q:tru a K V):wpAny (model pw B.w) A (truthy v) (λr s'=>PU B V s.heap (K r) s') aA s:=by
 induction q with
 |bool q=>obtain rfl:=hv;exact wpAny_truthy_bool ⟨_,x,Keep.refl _ _,q⟩
 |int q=>
  obtain⟨t,rfl⟩:=hv;refine truthy_int ⟨_,x,Keep.refl _ _,?_⟩
  simpa[bne,BEq.beq]using q
 | @list p xs K V e1 q=>
   obtain rfl:=hv;refine(x.ro _ _ e1).isList λvs g r hl=>?_;have l1:=r.length;simp only[length_toList]at l1;refine wpAny_truthy_list g (by lia) ⟨_,x.tk _,Keep.refl _ _,?_⟩;have:vs.isEmpty=xs.isEmpty:=by
    rw[Bool.eq_iff_iff];simp[Array.isEmpty_iff,isEmpty_iff,<-length_eq_zero_iff,<-l1,Array.size_eq_zero_iff]
   exact this▸q
end
theorem VRs.eraseLast:∀{vs:List Value} {xs:List IV},VRs B h vs xs->VRs B h vs.dropLast xs.dropLast:=λ{vs xs} r=>by
 exact O List.dropLast_eq_take (O List.dropLast_eq_take (O r.length (r.take _)))
theorem VRs.drop {vs:List Value} {xs:List IV} (n:Nat) (r:VRs B h vs xs):VRs B h (vs.drop n) (xs.drop n):=
 r.ind (P:=λvs xs=>∀n,VRs B h (vs.drop n) (xs.drop n)) (λn=>n.casesOn trivial λ_=>trivial) (λ_ _ _ _ a b ih n=>n.casesOn ⟨a,b⟩ λn=>ih n) n
noncomputable def d4 (n:Nat) (i:Int):Option Nat:=if 0<=i then(if i<n then some i.toNat else none)else if -(n:Int)<=i then some (i+n).toNat else none
inductive lenI (a:IV) (Q:IV->IH->Prop) (V:IH):Prop
 |list (p:Addr) (xs:List IV) (e:a=.ref p) (h:V p=some (.list xs)) (q:Q (.int xs.length) V)
 |tup (xs:List IV) (e:a=.tup xs) (q:Q (.int xs.length) V)
 |frz (ns:List Int) (e:a=.frz ns) (q:Q (.int ns.length) V)
inductive atI (a i:IV) (Q:IV->IH->Prop) (V:IH):Prop
 |list (p:Addr) (k:Int) (xs:List IV) (j:Nat) (x:IV) (e:a=.ref p) (e':i=.int k) (h:V p=some (.list xs)) (h1:d4 xs.length k=some j) (h2:xs[j]? =some x) (q:Q x V)
 |int (p:Addr) (k:Int) (kvs:List (Int×IV)) (ep:Nat) (x:IV) (e:a=.ref p) (e':i=.int k) (h:V p=some (.idict kvs ep)) (h1:aq kvs k=some x) (q:Q x V)
 |tupK (p:Addr) (ks:List IV) (l:List Int) (kvs:List (List Int×IV)) (ep:Nat) (x:IV) (e:a=.ref p) (e':i=.tup ks) (h:V p=some (.tdict kvs ep)) (h0:cR ks=some l) (h1:aq kvs l=some x) (q:Q x V)
 |tup (xs:List IV) (k:Int) (j:Nat) (x:IV) (e:a=.tup xs) (e':i=.int k) (h1:d4 xs.length k=some j) (h2:xs[j]? =some x) (q:Q x V)
 |frz (ns:List Int) (k:Int) (j:Nat) (x:Int) (e:a=.frz ns) (e':i=.int k) (h1:d4 ns.length k=some j) (h2:ns[j]? =some x) (q:Q (.int x) V)
inductive putI (a i y:IV) (Q:IH->Prop) (V:IH):Prop
 |list (p:Addr) (k:Int) (xs:List IV) (e:a=.ref p) (e':i=.int k) (h:V p=some (.list xs)) (l:0<=k) (l':k<xs.length) (q:Q (upd V p (.list (xs.set k.toNat y))))
 |int (p:Addr) (k:Int) (kvs:List (Int×IV)) (ep:Nat) (e:a=.ref p) (e':i=.int k) (h:V p=some (.idict kvs ep)) (l:kvs.length<999999) (q:∀ep',Q (upd V p (.idict (aK kvs k y) ep')))
 |str (p:Addr) (k:PySem.Str) (kvs:List (PySem.Str×IV)) (e:a=.ref p) (e':i=.str k) (h:V p=some (.sdict kvs)) (l:kvs.length<999999) (q:Q (upd V p (.sdict (aK kvs k y))))
 |tup (p:Addr) (ks:List IV) (k:List Int) (kvs:List (List Int×IV)) (ep:Nat) (e:a=.ref p) (e':i=.tup ks) (h:V p=some (.tdict kvs ep)) (h0:cR ks=some k) (l:kvs.length<999999) (q:∀ep',Q (upd V p (.tdict (aK kvs k y) ep')))
theorem r7 {K:Type} [DecidableEq K] (kvs:List (K×IV)) (k:K) (x:IV):(aK kvs k x).length<=kvs.length+1:=by
 unfold aK;split<;>simp
section
variable{B:Bs} {A:Around} {s:Shared} {V:IH} {v u:Value} {a b:IV} {Q:IV->IH->Prop}
theorem VR.frzList {ns:List Int} (x:St B V s) (r:VR B s.heap v (.frz ns)):∃p its,v=.ref p/\s.heap.IsList p its/\IntsAre its.toList ns/\ns.length<64:=by
 o_shape;obtain⟨p,its,e,⟨o,g,r⟩,i,l⟩:=r;pv_eval;exact⟨p,its,e,⟨o,x.keep _ _ g,r⟩,i,l⟩
theorem zK {its:Array Value} (x:St B V s) (hl:s.heap.IsList p its) (e:its.size=n) (hn:n<1000000) (q:Q (.int n) V):wpAny (model pw B.w) A (call (.builtin "len") [.ref p]) (PP B V s.heap Q) aA s:=by
 subst e;exact len_list hl (by lia) (PP.int (k:=s.toks+1) (t:=s.toks+1+1) x q)
theorem S1 (x:St B V s) (hv:VR B s.heap v a) (q:lenI a Q V):wpAny (model pw B.w) A (call (.builtin "len") [v]) (PP B V s.heap Q) aA s:=by
 rcases q with⟨p,xs,rfl,e1,q⟩|⟨xs,rfl,q⟩|⟨ns,rfl,q⟩
 .obtain rfl:=hv;o_shape;refine(x.ro _ _ e1).isList λvs g r hl=>?_;pv_eval;have:=r.length;exact zK x g (by simpa using this) hl q
 .obtain⟨p,its,rfl,t,r,hl⟩:=hv;have:=r.length;simp only[length_toList]at this;refine PyProof.Rows.len_tuple t (by lia) ?_;exact O this (PP.int x q)
 .obtain⟨p,its,rfl,g,r,hl⟩:=hv.frzList x;have:=r.length;exact zK x g (by simpa using this) (by lia) q
theorem yG {its:Array Value} {j:Nat} {R:Value->Shared->Prop} {E:Value->Shared->Prop} (hl:s.heap.IsList p its) (e:d4 its.size k=some j) (hn:its.size<1000000) (hy:its[j]? =some y) (q:R y s):
 wpAny (model pw B.w) A (getItem (.ref p) (.int k t)) R E s:=by
 unfold d4 at e;split at e
 .split at e
  .obtain rfl:=aP e;exact wpAny_getItem_list hl (by assumption) (by lia) hy q
  .exact bv e
 .split at e
  .obtain rfl:=aP e;exact wpAny_getItem_list_neg hl (by lia) (by omega) (by lia) hy q
  .exact bv e
theorem Hb (e:d4 n k=some j):seqIndex? k n=some j/\ -(n:Int)<=k/\k<n:=by
 unfold d4 at e;split at e
 .split at e
  .obtain rfl:=aP e;exact⟨seqIndex_of (by assumption) (by assumption),by lia,by assumption⟩
  .exact bv e
 .split at e
  .obtain rfl:=aP e;exact⟨seqIndex_neg (by lia) (by assumption),by assumption,by lia⟩
  .exact bv e
theorem SO (x:St B V s) (R:A.units+64<cLine) (hv:VR B s.heap v a) (hu:VR B s.heap u b) (q:atI a b Q V):wpAny (model pw B.w) A (getItem v u) (PP B V s.heap Q) aA s:=by
 rcases q with⟨p,k,xs,j,y,rfl,rfl,e1,h1,h2,q⟩|⟨p,k,kvs,ep,y,rfl,rfl,e1,h1,q⟩|⟨p,ks,l,kvs,ep,y,rfl,rfl,e1,h0,h1,q⟩|⟨xs,k,j,y,rfl,rfl,h1,h2,q⟩|⟨ns,k,j,y,rfl,rfl,h1,h2,q⟩
 .obtain rfl:=hv;obtain⟨t,rfl⟩:=hu;o_shape;refine(x.ro _ _ e1).isList λvs g r hl=>?_;have l1:=r.length;simp only[length_toList]at l1;obtain⟨w,hw,rw'⟩:=r.get h2;pv_eval;exact yG g (O l1 h1) (by lia) (by simpa using hw) (PP.same x rw' q)
 .obtain rfl:=hv;obtain⟨t,rfl⟩:=hu;o_shape;obtain⟨kvs',g,r,hl⟩:=x.ro _ _ e1;pv_eval;rcases r.get k with⟨_,h2⟩|⟨v',x',h2,h3,h4⟩
  .exact Om h1 h2
  .obtain rfl:=Os h1 h3;exact wpAny_getItem_of (knd:=iK B) (k:=k) (by simp[intKind,Value.isInt]) g.dictOf.mapOf h2 (PP.tok x h4 q)
 .obtain rfl:=hv;o_shape;obtain⟨kvs',g,r,hl⟩:=x.ro _ _ e1;rw[dK h0]at hu;obtain⟨ka,rfl,kk⟩:=hu.tupKey;pv_eval;rcases r.get l with⟨_,h2⟩|⟨a',v',x',h2,h3,h4⟩
  .exact Om h1 h2
  .obtain rfl:=Os h1 h3;exact wpAny_getItem_heap (knd:=tK B) (k:=l) (tupleKind_room_in1 (by lia)) kk g.of h2 (PP.tok x h4 q)
 .o_shape;obtain⟨p,its,rfl,t,r,hl⟩:=hv;obtain⟨t',rfl⟩:=hu;have l1:=r.length;simp only[length_toList]at l1;obtain⟨w,hw,rw'⟩:=r.get h2;obtain⟨e1,e2,e3⟩:=Hb h1;pv_eval;exact PyProof.Rows.getItem_tuple t (by lia) (by lia) (O l1 e1) (by simpa using hw) (PP.same x rw' q)
 .o_shape;obtain⟨t',rfl⟩:=hu;obtain⟨p,its,rfl,g,r,hl⟩:=hv.frzList x;have l1:=r.length;simp only[length_toList]at l1;obtain⟨w,hw,rw'⟩:=(VRs.of_ints (B:=B) (h:=s.heap) r).get (i:=j) (x:=.int y) (by simp[h2]);pv_eval;exact yG g (O l1 h1) (by lia) (by simpa using hw) (PP.same x rw' q)
theorem T1 {its:Array Value} {k:Int} {Q:Unit->Shared->Prop} {E:Value->Shared->Prop} (hl:IsL s.heap l its n)
 (h0:0<=k) (hn:k<its.size) (hs:its.size<1000000)
 (hQ:Q () {s with heap:=s.heap.update l (Obj.mapSeq (·.setIfInBounds k.toNat v))}):
 wpAny (model pw B.w) A (setItem (.ref l) (.int k t) v) Q E s:=by
 have hT:s.TypeIs (.ref l) "list":=⟨_,hl,rfl⟩;unfold setItem
 try with_reducible refine wpAny_holding ?_
 first|refine ay (aT ?_)|skip
 refine ay (wpAny_sequenceKey hT (by decide) ?_);refine ay (wpAny_callSpecial?_slot (name:=PySem.Str.ofString "__setitem__") hT slot_list_setitem
  (wpAny_call_entry slot_list_setitem hT entry_list_setitem ?_ (args_list_setitem _ _ _)))
 show wpAny _ _ (Builtin.List.listSubscript? (.int k t)>>= _) _ _ s;refine ay (wpAny_listSubscript_int (fitsIndex_of h0 (by lia)) ?_);obtain⟨j,rfl⟩:=eq_ofNat_of_zero_le h0;have hj:j<its.size:=by lia
 have hx':its[j]? =some its[j]:=Array.getElem?_eq_getElem hj;show wpAny _ _ ((seqItemAt l j>>= λr=>pure (r.map (j,·)))>>= _) _ _ s;refine ay (ay (wpAny_seqItemAt hl rfl (aT ?_)));refine O hx' ?_;show wpAny _ _ (setSeqItemAt l j v>>= _) _ _ s;refine ay (wpAny_setSeqItemAt hl rfl ?_)
 first
  |exact ay (aT (aT ⟨.none,rfl,aT hQ⟩))
  |exact aT ⟨.none,rfl,aT hQ⟩
theorem BF {o:Obj} (e:o.cls=.type "list"):¬cj o:=λh=>zM (e▸h.1)
theorem sz {o:Obj} (e:o.cls=.type "dict"):¬cj o:=λh=>jR (e▸h.1)
theorem qY {h h':Heap} (g:h.get? p=some o) (c:¬cj o) (k:∀b,b≠p->h'.get? b=h.get? b):∀a o',h.get? a=some o'->cj o'->h'.get? a=some o':=λa o' e hc=>by
 exact O (k a λq=>by subst q;obtain rfl:=Os g e;exact c hc) e
theorem St.lst (x:St B V s) {xs ys:List IV} {f:Array Value->Array Value} (e:V p=some (.list xs)) (g:IsL s.heap p vs n)
 (r:VRs B s.heap (f vs).toList ys) (l:ys.length<1000000):
 St B (upd V p (.list ys)) {s with heap:=s.heap.update p (Obj.mapSeq f),toks:=t}/\Keep V s.heap (upd V p (.list ys)) (s.heap.update p (Obj.mapSeq f)):=by
 have kp:∀b,b≠p->(s.heap.update p (Obj.mapSeq f)).get? b=s.heap.get? b:=λb hb=>Heap.get?_update_other _ _ hb.symm;refine x.turn (io':=.list ys) e rfl rfl kp ⟨f vs,_,get?_update_seq g f,r.mono (qY g (BF rfl) kp),l⟩ t
theorem S8 {Q:IH->Prop} (x:St B V s) (R:A.units+64<cLine) (hv:VR B s.heap v a) (hi:VR B s.heap vi i) (hy:VR B s.heap vy y) (q:putI a i y Q V):
 wpAny (model pw B.w) A (setItem v vi vy) (λ_ s'=>PU B V s.heap Q s') aA s:=by
 rcases q with⟨p,k,xs,rfl,rfl,e1,h0,h1,q⟩|⟨p,k,kvs,ep,rfl,rfl,e1,ql,q⟩|⟨p,k,kvs,rfl,rfl,e1,ql,q⟩|⟨p,ks,l,kvs,ep,rfl,rfl,e1,h0,h1,q⟩
 .obtain rfl:=hv;obtain⟨t,rfl⟩:=hi;o_shape;obtain⟨vs,n,g,r,hl⟩:=x.ro _ _ e1;have l1:=r.length;simp only[length_toList]at l1;pv_eval;refine T1 g h0 (by lia) (by lia) ?_;obtain⟨a,b⟩:=x.lst (t:=s.toks) e1 g (f:=(·.setIfInBounds k.toNat vy)) (ys:=xs.set k.toNat y) (by simpa using VRs.set hy k.toNat r) (by simpa using hl);exact⟨_,a,b,q⟩
 .obtain rfl:=hv;obtain⟨t,rfl⟩:=hi;obtain⟨kvs',g,r,hl⟩:=x.ro _ _ e1;refine wpAny_setItem_pairs (knd:=iK B) (k:=k) (by simp[intKind,Value.isInt]) g.dictOf (λh' g' sb=>?_) (by refine O r.length (O db ?_);lia);have kk:∀a o',s.heap.get? a=some o'->cj o'->h'.get? a=some o':=by
   o_shape;obtain⟨o,es,gg,ed,_⟩:=g;pv_eval;exact qY gg (sz ed.1) sb.2
  obtain⟨ep',g''⟩:=g'.dictAt;obtain⟨a,b⟩:=x.turn (io':=.idict (aK kvs k y) ep') e1 rfl rfl sb.2 ⟨_,g'',(r.put k hy).mono kk,by have:=r7 kvs k y;lia⟩ (s.toks+1);exact⟨_,a,b,q ep'⟩
 .obtain rfl:=hv.symm;obtain⟨t,rfl⟩:=hi;obtain⟨kvs',g,r,hl⟩:=x.ro _ _ e1;refine wpAny_setItem_pairs (knd:=sK B) (k:=k) (by simp[PySem.strKind,Value.isStrOf]) g (λh' g' sb=>?_) (by refine O r.length (O db ?_);lia);have kk:∀a o',s.heap.get? a=some o'->cj o'->h'.get? a=some o':=by
   o_shape;obtain⟨o,es,ep,gg,ed,_⟩:=g;pv_eval;exact qY gg (sz ed.1) sb.2
  obtain⟨a,b⟩:=x.turn (io':=.sdict (aK kvs k y)) e1 rfl rfl sb.2 ⟨_,g',(r.put k hy).mono kk,by have:=r7 kvs k y;lia⟩ (s.toks+1);exact⟨_,a,b,q⟩
 .obtain rfl:=hv;o_shape;obtain⟨kvs',g,r,hl⟩:=x.ro _ _ e1;rw[dK h0]at hi;obtain⟨ka,rfl,kk'⟩:=hi.tupKey;pv_eval;refine wpAny_setItem_heap (knd:=tK B) (k:=l) (tupleKind_room_in1 (by lia)) kk' g.of (λh' g' sb=>?_) (by refine O r.length (O db ?_);lia);have kk:∀a o',s.heap.get? a=some o'->cj o'->h'.get? a=some o':=by
   obtain⟨o,es,gg,ed,_⟩:=g;exact qY gg (sz ed.1) sb.2
  obtain⟨ep',g''⟩:=DictAtH.from g';obtain⟨a,b⟩:=x.turn (io':=.tdict (aK kvs l y) ep') e1 rfl rfl sb.2 ⟨_,g'',(r.put (a:=ka) l hy).mono kk,by have:=r7 kvs l y;lia⟩ (s.toks+(tK B).draws l);exact⟨_,a,b,q ep'⟩
end
noncomputable def cO (l:List Int):List Int:=l.mergeSort (λa b=>decide (a<=b))
theorem He (l:List Int):(cO l).Perm l:=List.mergeSort_perm _ _
theorem Hf (l:List Int):(cO l).Pairwise (· <= ·):=by
 have h:=List.pairwise_mergeSort (le:=λa b:Int=>decide (a<=b)) (λa b c h1 h2=>by simp at *;lia) (λa b=>by simp;lia) l;unfold cO;exact h.imp λ{a b} h=>by simpa using h
theorem Hd {l m:List Int} (p:m.Perm l) (s:m.Pairwise (· <= ·)):m=cO l:=
 (p.trans (He l).symm).eq_of_pairwise (le:=λa b=>a<=b) (λa b _ _ h1 h2=>Int.le_antisymm h1 h2) s (Hf l)
def fresh (io:IO) (Q:IV->IH->Prop) (V:IH):Prop:=∀r,V r=none->Q (.ref r) (upd V r io)
inductive copyI (a:IV) (Q:IV->IH->Prop) (V:IH):Prop
 |mk (p:Addr) (xs:List IV) (e:a=.ref p) (h:V p=some (.list xs)) (q:fresh (.list xs) Q V)
inductive tupI (a:IV) (Q:IV->IH->Prop) (V:IH):Prop
 |mk (p:Addr) (xs:List IV) (e:a=.ref p) (h:V p=some (.list xs)) (q:Q (.tup xs) V)
inductive sortI (a:IV) (Q:IV->IH->Prop) (V:IH):Prop
 |list (p:Addr) (xs:List IV) (l:List Int) (e:a=.ref p) (h:V p=some (.list xs)) (i:cR xs=some l) (n:l.length<64) (q:fresh (.list ((cO l).map IV.int)) Q V)
 |dict (p:Addr) (kvs:List (Int×IV)) (ep:Nat) (e:a=.ref p) (h:V p=some (.idict kvs ep)) (n:kvs.length<64) (q:fresh (.list ((cO (kvs.map (·.1))).map IV.int)) Q V)
 |tup (xs:List IV) (l:List Int) (e:a=.tup xs) (i:cR xs=some l) (n:l.length<64) (q:fresh (.list ((cO l).map IV.int)) Q V)
inductive sumI (a:IV) (Q:IV->IH->Prop) (V:IH):Prop
 |mk (p:Addr) (xs:List IV) (l:List Int) (e:a=.ref p) (h:V p=some (.list xs)) (i:cR xs=some l) (q:Q (.int l.sum) V)
def jZ (a:IV) (Q:IV->IH->Prop) (V:IH):Prop:=match a with
 |.int i=>Q (.int i) V
 |_=>False
inductive maxI:IV->IV->(IV->IH->Prop)->IH->Prop
 |mk {i j:Int} {Q:IV->IH->Prop} {V:IH} (q:Q (.int (if j>i then j else i)) V):maxI (.int i) (.int j) Q V
inductive uptoI (a k:IV) (Q:IV->IH->Prop) (V:IH):Prop
 |list (p:Addr) (n:Int) (xs:List IV) (e:a=.ref p) (e':k=.int n) (h:V p=some (.list xs)) (l:0<=n) (q:fresh (.list (xs.take n.toNat)) Q V)
 |frz (ns:List Int) (n:Int) (e:a=.frz ns) (e':k=.int n) (l:0<=n) (q:fresh (.list ((ns.take n.toNat).map IV.int)) Q V)
inductive fromI (a k:IV) (Q:IV->IH->Prop) (V:IH):Prop
 |list (p:Addr) (n:Int) (xs:List IV) (e:a=.ref p) (e':k=.int n) (h:V p=some (.list xs)) (l:0<=n) (q:fresh (.list (xs.drop n.toNat)) Q V)
inductive appI (a y:IV) (Q:IV->IH->Prop) (V:IH):Prop
 |mk (p:Addr) (xs:List IV) (e:a=.ref p) (h:V p=some (.list xs)) (l:xs.length<999999) (q:Q .none (upd V p (.list (xs++[y]))))
inductive extI (a b:IV) (Q:IV->IH->Prop) (V:IH):Prop
 |mk (p r:Addr) (xs ys:List IV) (e:a=.ref p) (e':b=.ref r) (h:V p=some (.list xs)) (h':V r=some (.list ys)) (l:xs.length+ys.length<1000000) (q:Q .none (upd V p (.list (xs++ys))))
inductive popI (a:IV) (Q:IV->IH->Prop) (V:IH):Prop
 |mk (p:Addr) (xs:List IV) (y:IV) (e:a=.ref p) (h:V p=some (.list xs)) (g:xs.getLast?=some y) (q:Q y (upd V p (.list xs.dropLast)))
inductive getI (a k d:IV) (Q:IV->IH->Prop) (V:IH):Prop
 |int (p:Addr) (i:Int) (kvs:List (Int×IV)) (ep:Nat) (e:a=.ref p) (e':k=.int i) (h:V p=some (.idict kvs ep)) (q:Q ((aq kvs i).getD d) V)
 |tup (p:Addr) (xs:List IV) (l:List Int) (kvs:List (List Int×IV)) (ep:Nat) (e:a=.ref p) (e':k=.tup xs) (h:V p=some (.tdict kvs ep)) (i:cR xs=some l) (q:Q ((aq kvs l).getD d) V)
section
variable{B:Bs} {A:Around} {s:Shared} {V:IH} {v u:Value} {a b:IV} {Q:IV->IH->Prop}
theorem PP.lst {h':Heap} {vs:Array Value} {xs:List IV} (x:St B V s) (hn:s.heap.get? p=none) (kp:∀b o,s.heap.get? b=some o->h'.get? b=some o) (g:IsL h' p vs n)
 (r:VRs B s.heap vs.toList xs) (l:xs.length<1000000) (q:fresh (.list xs) Q V):PP B V s.heap Q (.ref p) {s with heap:=h',toks:=t}:=by
 obtain⟨a,b⟩:=x.add (io:=.list xs) rfl hn kp ⟨vs,n,g,r.mono λa o e _=>kp a o e,l⟩ t;exact⟨_,.ref p,a,b,VR_ref.mpr rfl,q _ (x.dead hn)⟩
theorem ST (x:St B V s) (hv:VR B s.heap v a) (q:copyI a Q V):wpAny (model pw B.w) A (call (.type "list") [v]) (PP B V s.heap Q) aA s:=by
 obtain⟨p,xs,rfl,e1,q⟩:=q;obtain rfl:=hv;o_shape;obtain⟨vs,n,g,r,hl⟩:=x.ro _ _ e1;pv_eval;have l1:=r.length;simp only[length_toList]at l1;refine call_list_seq (T:="list") _ (.inl rfl) g rfl rfl (λh' c' kp g'=>?_) (by refine O db ?_;lia);exact PP.lst (t:=s.toks) x (fN x) kp g' r hl q
theorem Tc (x:St B V s) (hv:VR B s.heap v a) (q:tupI a Q V):wpAny (model pw B.w) A (call (.type "tuple") [v]) (PP B V s.heap Q) aA s:=by
 obtain⟨p,xs,rfl,e1,q⟩:=q;obtain rfl:=hv;o_shape;refine(x.ro _ _ e1).isList λvs g r hl=>?_;pv_eval;have l1:=r.length;simp only[length_toList]at l1;refine call_tuple_list g (λh' kp=>?_) (by refine O db ?_;lia);have kp':∀b o',s.heap.get? b=some o'->(h'.push {cls:=.type "tuple",data:=.seq vs}).get? b=some o':=λb o' e=>cP _ (kp b o' e);refine⟨V,.tup xs,x.pres (Pres.ofKeeps kp') rfl rfl,Pres.keep (s':={s with heap:=h'.push {cls:=.type "tuple",data:=.seq vs}}) x kp',?_,q⟩;exact⟨_,vs,rfl,⟨_,c7 _ rfl,rfl,0,rfl⟩,r.mono λa o e _=>kp' a o e,hl⟩
theorem UT {s':Shared} {vs:List Value} (x:St B V s) (hk:∀b o,s.heap.get? b=some o->s'.heap.get? b=some o) (e':s'={s with heap:=s'.heap,toks:=s'.toks}) (hI:IntsAre vs l) (h64:vs.length<64)
 (q:fresh (.list ((cO l).map IV.int)) Q V):
 wpAny (model pw B.w) A (call (.builtin "list.sort") [.ref s'.heap.objs.size]) (λ_ s2=>PP B V s.heap Q (.ref s'.heap.objs.size) s2) aA {s' with heap:=s'.heap.push {cls:=.type "list",data:=.seq vs.toArray}}:=by
 have hg:IsL (s'.heap.push {cls:=.type "list",data:=.seq vs.toArray}) s'.heap.objs.size vs.toArray 0:=c7 _ rfl;refine wpAny_call_entry slot_list_sort ⟨_,hg,rfl⟩ entry_list_sort (list_sort_tree hg hI h64 λout ns' a1 a2 a3=>⟨_,rfl,?_⟩) (args_list_sort _);have hn:s.heap.get? s'.heap.objs.size=none:=by
  induction e:s.heap.get? s'.heap.objs.size with
  |none=>rfl
  |some o=>exact absurd (lt_size (hk _ _ e)) (lt_irrefl _)
 obtain⟨ep,ge⟩:=sortedHeap_at (out:=out) hg;have e2:=Hd a2 a3;subst e2;have l1:=(VRs.of_ints (B:=B) (h:=s.heap) a1).length;have l2:=a2.length_eq;have l3:=IntsAre.length hI;have l4:(cO l).length=l.length:=l2;refine O e' (PP.lst x hn (λb o e=>?_) ge (VRs.of_ints a1) (by have:=(aE IV.int (as:=cO l));lia) q);have hlt:b<s'.heap.objs.size:=lt_size (hk _ _ e);exact O (sortedHeap_old (ne_of_lt hlt) (O (size_push' ..) (lt_succ_of_lt hlt))) (cP _ (hk _ _ e))
theorem yg {l:List Int} (x:St B V s)
 (hc:∀R:List Value->Shared->Prop,(∀vs s',(∀b o,s.heap.get? b=some o->s'.heap.get? b=some o)->s'={s with heap:=s'.heap,toks:=s'.toks}->IntsAre vs l->R vs s')->wpAny (model pw B.w) A.in1 (collect v) R aA s)
 (h64:l.length<64) (q:fresh (.list ((cO l).map IV.int)) Q V):wpAny (model pw B.w) A (call (.builtin "sorted") [v]) (PP B V s.heap Q) aA s:=by
 refine Calls.call_function_entry kind_sorted plain_sorted entry_sorted (args_sorted1 _) ?_;unfold Builtin.«sorted»;refine ay (m:=checkCount "sorted" 1 1 _) (aT ?_);refine ay (hc _ λvs s' hk e' hI=>?_);have l3:=IntsAre.length hI;refine ay (wpAny_newList ?_ (by refine O db ?_;lia));refine ay (wpAny_holding (bK (UT x hk e' hI (by lia) q) (λ_ s2 h2=>?_) λ_ _ e=>e));exact aT ⟨_,rfl,h2⟩
theorem Ta (x:St B V s) (hm:∃o,B.h0.get? sysModules=some o) (hA:A.handled=none) (hv:VR B s.heap v a) (q:sortI a Q V):wpAny (model pw B.w) A (call (.builtin "sorted") [v]) (PP B V s.heap Q) aA s:=by
 rcases q with⟨p,xs,l,rfl,e1,i1,h64,q⟩|⟨p,kvs,ep,rfl,e1,h64,q⟩|⟨xs,l,rfl,i1,h64,q⟩
 .obtain rfl:=hv;o_shape;obtain⟨vs,n,g,r,hl⟩:=x.ro _ _ e1;pv_eval;rw[dK i1]at r;have l1:=r.length;simp only[length_toList,length_map]at l1;refine yg x (λR h=>?_) h64 q;refine wpAny_collect_seq (T:="list") _ (.inl rfl) g rfl rfl (λh' kp=>h _ {s with heap:=h'} kp rfl r.ints) (by refine O db ?_;lia)
 .obtain rfl:=hv;o_shape;obtain⟨kvs',g,r,hl⟩:=x.ro _ _ e1;pv_eval;refine yg x (λR h=>?_) (by simpa using h64) q;refine kdu_collect (kdl_dict (knd:=iK B) (x.notMods e1 hm)) hA g (by refine O r.length (O db ?_);lia) λh' tk acc kp io=>?_;refine h _ {s with heap:=h',toks:=tk} kp rfl ?_;refine Ob r.keys ?_;have:∀(acc:List Value) (kvs':List (Int×Value)),acc.length=kvs'.length->(∀(i:Nat) (v:Value),acc[i]? =some v->∃k x,kvs'[i]? =some (k,x)/\(iK B).is k v=true)->IntsAre acc (kvs'.map (·.1)):=by
   intro acc
   induction acc with
   |nil=>intro kvs' h _;induction kvs' with
    |nil=>exact .nil
    |cons _ _=>simp at h
   |cons v acc ih=>
    intro kvs' h1 h2
    cases kvs' with
    |nil=>simp at h1
    |cons p kvs'=>
     obtain⟨k,x',e,hk⟩:=h2 0 v rfl;simp only[List.getElem?_cons_zero,Option.some.injEq]at e;subst e;obtain⟨t,rfl⟩:=Value.isInt_shape hk;exact .cons k t (ih kvs' (by simpa using h1) λi v e=>by simpa using h2 (i+1) v (by simpa using e))
  exact this _ _ (O length_toList io.1) λi v e=>io.2 i v (Ob getElem?_toList e)
 .o_shape;obtain⟨p,its,rfl,⟨o,ho,hc,n,hd⟩,r,hl⟩:=hv;pv_eval;rw[dK i1]at r;have l1:=r.length;simp only[length_toList,length_map]at l1;refine yg x (λR h=>?_) h64 q;exact wpAny_collect_seq (T:="tuple") _ (.inr rfl) ho hc hd (λh' kp=>h _ {s with heap:=h'} kp rfl r.ints) (by refine O db ?_;lia)
theorem S0 (x:St B V s) (hv:VR B s.heap v a) (q:jZ a Q V):wpAny (model pw B.w) A (call (.type "int") [v]) (PP B V s.heap Q) aA s:=by
 unfold jZ at q;split at q
 .obtain⟨t,rfl⟩:=hv;exact call_int_int (PP.same x (VR_int.mpr ⟨_,rfl⟩) q)
 .exact q.elim
theorem S2 (x:St B V s) (hA:A.handled=none) (hv:VR B s.heap v a) (hu:VR B s.heap u b) (q:maxI a b Q V):wpAny (model pw B.w) A (call (.builtin "max") [v,u]) (PP B V s.heap Q) aA s:=by
 induction q with
 |mk q=>
  obtain⟨t,rfl⟩:=hv;obtain⟨t',rfl⟩:=hu;refine max_two_ints hA λh' tk kp=>⟨_,_,x.pres (s':={s with heap:=h',toks:=tk}) (Pres.ofKeeps kp) rfl rfl,Pres.keep (s':={s with heap:=h',toks:=tk}) x kp,?_,q⟩;split
  .exact VR_int.mpr ⟨_,rfl⟩
  .exact VR_int.mpr ⟨_,rfl⟩
theorem SF (l:List Int) (n:Nat):n<=l.length->preSum (λi=>(l[i]?).getD 0) n=(l.take n).sum:=by
 induction n with
 |zero=>intro _;simp[preSum]
 |succ n ih=>
  intro h;show preSum _ n+_=_;refine O (ih (le_of_lt ‹_›)) (O List.take_succ (O List.sum_append ?_));have:l[n]? =some l[n]:=c8 (by assumption);simp[this,getElem?_eq_getElem (show n<l.length by assumption)]
theorem Tb (x:St B V s) (hA:A.handled=none) (hv:VR B s.heap v a) (q:sumI a Q V):wpAny (model pw B.w) A (call (.builtin "sum") [v]) (PP B V s.heap Q) aA s:=by
 obtain⟨p,xs,l,rfl,e1,i1,q⟩:=q;obtain rfl:=hv;o_shape;refine(x.ro _ _ e1).isList λvs g r hl=>?_;pv_eval;rw[dK i1]at r hl;have l1:=r.length;simp only[length_toList,length_map]at l1 hl;refine call_sum_walkAnyS (wpAny_pyIter_list g ?_);have hlt:p<s.heap.objs.size:=by obtain⟨o,ho,_⟩:=g;exact lt_size ho
 refine⟨_,_,_,_,_,_,_,λi=>(l[i]?).getD 0,rfl,(Walks.list (A:=A.in1) hA s.heap.objs.size p (ne_of_lt hlt) vs).toS,⟨⟨_,c7 _ rfl,rfl,rfl⟩,g.push _⟩,λb hb=>?_,λi v hiv=>?_,λs' t' hm=>?_⟩
 .show b<(s.heap.push _).objs.size;refine O (size_push' ..) ?_;rcases mem_cons.mp hb with e|hb
  .exact O e (lt_succ_self _)
  .exact O (VX.mp hb) (lt_succ_of_lt hlt)
 .have hi:i<l.length:=by exact Ob l1 (Array.getElem?_eq_some_iff.mp hiv).1
  o_shape;obtain⟨v',h1,t,h2⟩:=r.get (i:=i) (x:=.int l[i]) (by simp[hi]);pv_eval;obtain rfl:=Os hiv (Oe getElem?_toList h1);exact⟨t,by refine O h2 ?_;simp[hi]⟩
 .have kp:∀b o,s.heap.get? b=some o->s'.heap.get? b=some o:=λb o e=>
   hm.heap b o (λhI=>absurd (lt_size e) (O (VX.mp hI) (lt_irrefl _))) (cP _ e)
  have hs:vs.size=l.length:=l1;exact O hs (O (SF l l.length (aY _)) (O take_length (O (Moved.eq_with hm) ⟨V,_,x.pres (s':={s with heap:=s'.heap,toks:=s'.toks}) (Pres.ofKeeps kp) rfl rfl,Pres.keep (s':={s with heap:=s'.heap,toks:=s'.toks}) x kp,VR_int.mpr ⟨_,rfl⟩,q⟩)))
theorem SN (x:St B V s) (hv:VR B s.heap v a) (hu:VR B s.heap u b) (q:appI a b Q V):wpAny (model pw B.w) A (call (.builtin "list.append") [v,u]) (PP B V s.heap Q) aA s:=by
 obtain⟨p,xs,rfl,e1,ql,q⟩:=q;obtain rfl:=hv;obtain⟨vs,n,g,r,hl⟩:=x.ro _ _ e1;have l1:=r.length;simp only[length_toList]at l1;refine call_meets F.slot_list_append ⟨_,g,rfl⟩ F.entry_list_append (F.args_list_append_2 _ _) (AutoListH.list_append_list_val_0 _ vs n u (by refine O db ?_;lia)) ⟨g,?_⟩;obtain⟨c,d⟩:=x.lst (t:=s.toks) (f:=λy=>y.push u) (ys:=xs++[b]) e1 g (O Array.toList_push (r.append ⟨hu,trivial⟩)) (by simp;exact di ‹_›);exact⟨_,_,c,d,VR_none.mpr rfl,q⟩
theorem SX (x:St B V s) (hv:VR B s.heap v a) (hu:VR B s.heap u b) (q:extI a b Q V):wpAny (model pw B.w) A (call (.builtin "list.extend") [v,u]) (PP B V s.heap Q) aA s:=by
 obtain⟨p,r0,xs,ys,rfl,rfl,e1,e2,hb,q⟩:=q;obtain rfl:=hv;obtain rfl:=hu;o_shape;obtain⟨vs,n,g,r,hl⟩:=x.ro _ _ e1;obtain⟨us,m,g',r',hl'⟩:=x.ro _ _ e2;pv_eval;have l1:=r.length;have l2:=r'.length;simp only[length_toList]at l1 l2;refine call_meets F.slot_list_extend ⟨_,g,rfl⟩ F.entry_list_extend (F.args_list_extend_2 _ _) (AutoSeq1.list_extend_list_list_0 _ vs n _ us m (extend_door (by refine O db ?_;lia)) (by refine O db ?_;lia) (by refine O db ?_;lia)) ⟨g,g',?_⟩;obtain⟨c,d⟩:=x.lst (t:=s.toks) (f:=λy=>y++us) (ys:=xs++ys) e1 g (O Array.toList_append (r.append r')) (by simp;assumption);exact⟨_,_,c,d,VR_none.mpr rfl,q⟩
theorem S7 (x:St B V s) (hv:VR B s.heap v a) (q:popI a Q V):wpAny (model pw B.w) A (call (.builtin "list.pop") [v]) (PP B V s.heap Q) aA s:=by
 obtain⟨p,xs,y,rfl,e1,hy,q⟩:=q;obtain rfl:=hv;o_shape;obtain⟨vs,n,g,r,hl⟩:=x.ro _ _ e1;have l1:=r.length;simp only[length_toList]at l1;obtain⟨w,hw,rw'⟩:=r.get (Oe List.getLast?_eq_getElem? hy);pv_eval;refine call_meets F.slot_list_pop ⟨_,g,rfl⟩ F.entry_list_pop (F.args_list_pop_1 _) (MeetsSeq.list_pop_last _ vs n w (by refine O l1 ?_;simpa using hw) (by refine O db ?_;lia)) ⟨g,?_⟩;obtain⟨c,d⟩:=x.lst (t:=s.toks) (f:=λxs=>xs.eraseIdxIfInBounds (vs.size -1)) (ys:=xs.dropLast) e1 g (by
  have hp:0<xs.length:=by
   induction xs with
   |nil=>simp at hy
   |cons _ _=>simp
  have e:(vs.eraseIdxIfInBounds (vs.size -1)).toList=vs.toList.dropLast:=by
   unfold Array.eraseIdxIfInBounds;exact O (dif_pos (sub_lt (l1▸hp) one_pos)) (O Array.toList_eraseIdx (Ob length_toList (O List.eraseIdx_length_sub_one rfl)))
  exact O e r.eraseLast) (by simp;exact cn (sub_le _ _) hl)
 exact⟨_,_,c,d,rw'.keep x d,q⟩
theorem SZ (x:St B V s) (hm:∃o,B.h0.get? sysModules=some o) (R:A.units+64<cLine) (hv:VR B s.heap v a) (hu:VR B s.heap u b) (hd:VR B s.heap vd d) (q:getI a b d Q V):
 wpAny (model pw B.w) A (call (.builtin "dict.get") [v,u,vd]) (PP B V s.heap Q) aA s:=by
 rcases q with⟨p,i,kvs,ep,rfl,rfl,e1,q⟩|⟨p,xs,l,kvs,ep,rfl,rfl,e1,i1,q⟩
 .obtain rfl:=hv;obtain⟨t,rfl⟩:=hu;obtain⟨kvs',g,r,hl⟩:=x.ro _ _ e1;refine call_meetsIn F.slot_dict_get g.dictOf.typeIs F.entry_dict_get (F.args_dict_get_3 _ _ _) (meets_dict_get_default (iK B) _ (k:=i) (key:=.int i t) (by simp[intKind,Value.isInt]) (x.notMods e1 hm) vd) ⟨_,g.dictOf.mapOf,?_⟩;rcases r.get i with⟨h1,h2⟩|⟨v',x',h1,h2,h3⟩
  .refine O h1 ?_;rw[h2]at q;exact PP.tok x hd q
  .refine O h1 ?_;rw[h2]at q;exact PP.tok x h3 q
 .obtain rfl:=hv;obtain⟨kvs',g,r,hl⟩:=x.ro _ _ e1;rw[dK i1]at hu;obtain⟨ka,rfl,kk⟩:=hu.tupKey;refine call_meetsIn F.slot_dict_get g.of.typeIs F.entry_dict_get (F.args_dict_get_3 _ _ _) (meetsH_dict_get_default (tK B) _ _ (x.notMods e1 hm) vd) ⟨tupleKind_room_in1 (by show A.units+1<cLine;lia),l,_,kk,g.of,?_⟩;rcases r.get l with⟨h1,h2⟩|⟨a',v',x',h1,h2,h3⟩
  .refine O h1 ?_;rw[h2]at q;exact PP.tok x hd q
  .refine O h1 ?_;rw[h2]at q;exact PP.tok x h3 q
theorem SY (x:St B V s) (hm:∃o,B.h0.get? sysModules=some o) (R:A.units+64<cLine) (hv:VR B s.heap v a) (hu:VR B s.heap u b) (q:getI a b .none Q V):
 wpAny (model pw B.w) A (call (.builtin "dict.get") [v,u]) (PP B V s.heap Q) aA s:=by
 rcases q with⟨p,i,kvs,ep,rfl,rfl,e1,q⟩|⟨p,xs,l,kvs,ep,rfl,rfl,e1,i1,q⟩
 .obtain rfl:=hv;obtain⟨t,rfl⟩:=hu;obtain⟨kvs',g,r,hl⟩:=x.ro _ _ e1;refine call_meetsIn F.slot_dict_get g.dictOf.typeIs F.entry_dict_get (F.args_dict_get_2 _ _) (meets_dict_get (iK B) _ (k:=i) (key:=.int i t) (by simp[intKind,Value.isInt]) (x.notMods e1 hm)) ⟨_,g.dictOf.mapOf,?_⟩;rcases r.get i with⟨h1,h2⟩|⟨v',x',h1,h2,h3⟩
  .refine O h1 ?_;rw[h2]at q;exact PP.tok x (VR_none.mpr rfl) q
  .refine O h1 ?_;rw[h2]at q;exact PP.tok x h3 q
 .obtain rfl:=hv;o_shape;obtain⟨kvs',g,r,hl⟩:=x.ro _ _ e1;rw[dK i1]at hu;obtain⟨ka,rfl,kk⟩:=hu.tupKey;pv_eval;refine call_meetsIn F.slot_dict_get g.of.typeIs F.entry_dict_get (F.args_dict_get_2 _ _) (meetsH_dict_get (tK B) _ _ (x.notMods e1 hm)) ⟨tupleKind_room_in1 (by show A.units+1<cLine;lia),l,_,kk,g.of,?_⟩;rcases r.get l with⟨h1,h2⟩|⟨a',v',x',h1,h2,h3⟩
  .refine O h1 ?_;rw[h2]at q;exact PP.tok x (VR_none.mpr rfl) q
  .refine O h1 ?_;rw[h2]at q;exact PP.tok x h3 q
end
end
section
set_option genInjectivity false
set_option genCtorIdx true in
inductive BI where
 |len|sorted|list|tuple|sum|int
set_option genCtorIdx true in
inductive IK where
 |it|rng|rev
set_option genCtorIdx true in
inductive DK where
 |i|s|t
mutual
inductive ME where
 |int (i:Int)
 |str (x:PySem.Str)
 |bool (b:Bool)
 |non
 |loc (i:Nat)
 |glo (x:PySem.Str) (i:Int) (t:Nat)
 |bin (o:Operator) (a b:ME)
 |neg (a:ME)
 |cmp (o:CmpOp) (a b:ME)
 |cmp2 (o p:CmpOp) (a b c:ME)
 |not (a:ME)
 |and (a b:ME)
 |or (a b:ME)
 |and3 (a b c:ME)
 |ite (c a b:ME)
 |tup (es:MEs)
 |lst (es:MEs)
 |dct (k:DK)
 |at(a i:ME)
 |upto (a k:ME)
 |from(a k:ME)
 |att (a:ME) (f:Nat)
 |bi (b:BI) (a:ME)
 |max (a b:ME)
 |cal (x:PySem.Str) (g:Addr) (es:MEs)
 |met (a:ME) (c:Addr) (m:Nat) (f:Addr) (es:MEs)
 |app (a b:ME)
 |ext (a b:ME)
 |pop (a:ME)
 |get (a k:ME)
 |get2 (a k d:ME)
 |comp (ns:List PySem.Str) (t:Nat) (k:IK) (s e:ME)
 |compIf (ns:List PySem.Str) (t:Nat) (k:IK) (s c e:ME)
inductive MEs where
 |nil
 |cons (e:ME) (es:MEs)
end
abbrev aL:=List (Option IV)
abbrev QE:=IV->IH->Prop
abbrev QB:=Bool->IH->Prop
def D7 (P:Value->Shared->Prop) (r:Result) (s':Shared):Prop:=match r with
 |.ok (.ret v)=>P v s'
 |_=>False
def CallOk (B:Bs) (n:Nat) (f:Addr) (args:List IV) (V:IH) (Q:QE):Prop:=
 ∀A,Room n A->∀s,St B V s->∀vs,VRs B s.heap vs args->codeAny (model pw B.w) A (.call (.ref f) ⟨vs,[]⟩) (D7 (PP B V s.heap Q)) s
theorem CallOk.wp {B:Bs} (h:CallOk B n f args V Q) (R:Room n A) {s:Shared} (x:St B V s) (r:VRs B s.heap vs args):
 wpAny (model pw B.w) A (call (.ref f) vs) (PP B V s.heap Q) aA s:=by
 refine wpAny_call (codeAny_mono (h A R s x vs r) λz s' q=>?_);rcases z with e|(v|_|_|_)
 .exact q.elim
 all_goals first|exact q|exact q.elim
def dx (o:CmpOp) (a b:IV) (K:QB) (V:IH):Prop:=fv o a b (λi V'=>match i with|.bool r=>K r V'|_=>False) V
inductive itI (k:IK) (a:IV) (K:List IV->(IH->Prop)->IH->Prop) (V:IH):Prop
 |list (p:Addr) (xs:List IV) (ek:k=.it) (e:a=.ref p) (h:V p=some (.list xs)) (q:K xs (λV'=>V' p=some (.list xs)) V)
 |int (p:Addr) (kvs:List (Int×IV)) (ep:Nat) (ek:k=.it) (e:a=.ref p) (h:V p=some (.idict kvs ep)) (q:K (kvs.map λq=>.int q.1) (λV'=>V' p=some (.idict kvs ep)) V)
 |tupK (p:Addr) (kvs:List (List Int×IV)) (ep:Nat) (ek:k=.it) (e:a=.ref p) (h:V p=some (.tdict kvs ep)) (l:∀q∈kvs,q.1.length<64) (q:K (kvs.map λq=>.tup (q.1.map IV.int)) (λV'=>V' p=some (.tdict kvs ep)) V)
 |tup (xs:List IV) (ek:k=.it) (e:a=.tup xs) (q:K xs (λ_=>True) V)
 |rng (n:Int) (ek:k=.rng) (e:a=.int n) (l:n<1000000) (l': -1000000<n) (q:K ((List.range n.toNat).map λi=>.int (i:Nat)) (λ_=>True) V)
 |rev (p:Addr) (xs:List IV) (ek:k=.rev) (e:a=.ref p) (h:V p=some (.list xs)) (q:K xs.reverse (λV'=>V' p=some (.list xs)) V)
 |revT (xs:List IV) (ek:k=.rev) (e:a=.tup xs) (q:K xs.reverse (λ_=>True) V)
def fQ (b:BI) (a:IV) (Q:QE) (V:IH):Prop:=match b with
 |.len=>lenI a Q V
 |.sorted=>sortI a Q V
 |.list=>copyI a Q V
 |.tuple=>tupI a Q V
 |.sum=>sumI a Q V
 |.int=>jZ a Q V
def i6 (k:DK) (Q:QE) (V:IH):Prop:=match k with
 |.i=>∀ep,fresh (.idict [] ep) Q V
 |.s=>fresh (.sdict []) Q V
 |.t=>∀ep,fresh (.tdict [] ep) Q V
inductive attI (a:IV) (f:Nat) (Q:QE) (V:IH):Prop
 |mk (p c:Addr) (fs:List (Nat×IV)) (x:IV) (e:a=.ref p) (h:V p=some (.inst c fs)) (k:aq fs f=some x) (q:Q x V)
inductive metI (a:IV) (c:Addr) (m:Nat) (K:IV->IH->Prop) (V:IH):Prop
 |mk (p:Addr) (fs:List (Nat×IV)) (e:a=.ref p) (h:V p=some (.inst c fs)) (k:aq fs m=none) (q:K a V)
inductive isLst (a:IV) (V:IH):Prop
 |mk (p:Addr) (xs:List IV) (e:a=.ref p) (h:V p=some (.list xs))
inductive isDct (a:IV) (V:IH):Prop
 |int (p:Addr) (kvs:List (Int×IV)) (ep:Nat) (e:a=.ref p) (h:V p=some (.idict kvs ep))
 |tup (p:Addr) (kvs:List (List Int×IV)) (ep:Nat) (e:a=.ref p) (h:V p=some (.tdict kvs ep))
structure VP where
 e:QE->IH->Prop
 t:QB->IH->Prop
noncomputable def VP.of (e:QE->IH->Prop):VP:=⟨e,λK=>e λi=>tru i K⟩
def gE (xs:List IV) (alive:IH->Prop) (turn:IV->(Option IV->IH->Prop)->IH->Prop) (Q:QE) (V:IH):Prop:=
 ∃Inv:Nat->List IV->IH->Prop,Inv 0 [] V/\(∀i ys V' x,xs[i]? =some x->Inv i ys V'->alive V'/\turn x (λo V''=>match o with|some y=>Inv (i+1) (ys++[y]) V''|none=>Inv (i+1) ys V'') V')/\
  ∀ys V',Inv xs.length ys V'->alive V'/\fresh (.list ys) Q V'
mutual
noncomputable def aI (B:Bs) (n:Nat) (Z:aL):ME->VP
 |.int i=>.of λQ=>Q (.int i)
 |.str x=>.of λQ=>Q (.str x)
 |.bool b=>.of λQ=>Q (.bool b)
 |.non=>.of λQ=>Q .none
 |.loc i=>.of λQ V=>match Z[i]? with
  |some (some v)=>Q v V
  |_=>False
 |.glo _ i _=>.of λQ=>Q (.int i)
 |.bin o a b=>.of λQ=>(aI B n Z a).e λx=>(aI B n Z b).e λy=>binI o x y Q
 |.neg a=>.of λQ=>(aI B n Z a).e λx V=>match x with
  |.int i=>Q (.int (-i)) V
  |_=>False
 |.cmp o a b=>⟨λQ=>(aI B n Z a).e λx=>(aI B n Z b).e λy=>fv o x y Q,λK=>(aI B n Z a).e λx=>(aI B n Z b).e λy=>dx o x y K⟩
 |.cmp2 o p a b c=>⟨λ_ _=>False,λK=>(aI B n Z a).e λx=>(aI B n Z b).e λy=>dx o x y λr V=>if r=true then(aI B n Z c).e (λz=>dx p y z K) V else K false V⟩
 |.not a=>⟨λQ=>(aI B n Z a).e λi=>tru i λb=>Q (.bool (!b)),λK=>(aI B n Z a).t λb=>K (!b)⟩
 |.and a b=>⟨λQ=>(aI B n Z a).e λi=>tru i λr V=>if r=true then(aI B n Z b).e Q V else Q i V,λK=>(aI B n Z a).t λr V=>if r=true then(aI B n Z b).t K V else K false V⟩
 |.or a b=>⟨λQ=>(aI B n Z a).e λi=>tru i λr V=>if r=true then Q i V else(aI B n Z b).e Q V,λK=>(aI B n Z a).t λr V=>if r=true then K true V else(aI B n Z b).t K V⟩
 |.and3 a b c=>⟨λ_ _=>False,λK=>(aI B n Z a).t λr V=>if r=true then(aI B n Z b).t (λr' V'=>if r'=true then(aI B n Z c).t K V' else K false V') V else K false V⟩
 |.ite c a b=>⟨λQ=>(aI B n Z c).t λr V=>if r=true then(aI B n Z a).e Q V else(aI B n Z b).e Q V,λ_ _=>False⟩
 |.tup es=>.of λQ=>fO B n Z es λxs V=>xs.length<1000000/\Q (.tup xs) V
 |.lst es=>.of λQ=>fO B n Z es λxs V=>xs.length<1000000/\fresh (.list xs) Q V
 |.dct k=>.of λQ=>i6 k Q
 |.at a i=>.of λQ=>(aI B n Z a).e λx=>(aI B n Z i).e λy=>atI x y Q
 |.upto a k=>.of λQ=>(aI B n Z a).e λx=>(aI B n Z k).e λy=>uptoI x y Q
 |.from a k=>.of λQ=>(aI B n Z a).e λx=>(aI B n Z k).e λy=>fromI x y Q
 |.att a f=>.of λQ=>(aI B n Z a).e λx=>attI x f Q
 |.bi b a=>.of λQ=>(aI B n Z a).e λx=>fQ b x Q
 |.max a b=>.of λQ=>(aI B n Z a).e λx=>(aI B n Z b).e λy=>maxI x y Q
 |.cal _ g es=>.of λQ=>fO B n Z es λxs V=>CallOk B n g xs V Q
 |.met a c m f es=>.of λQ=>(aI B n Z a).e λx=>metI x c m λx'=>fO B n Z es λxs V=>CallOk B n f (x'::xs) V Q
 |.app a b=>.of λQ=>(aI B n Z a).e λx V=>isLst x V/\(aI B n Z b).e (λy=>appI x y Q) V
 |.ext a b=>.of λQ=>(aI B n Z a).e λx V=>isLst x V/\(aI B n Z b).e (λy=>extI x y Q) V
 |.pop a=>.of λQ=>(aI B n Z a).e λx V=>isLst x V/\popI x Q V
 |.get a k=>.of λQ=>(aI B n Z a).e λx V=>isDct x V/\(aI B n Z k).e (λy=>getI x y .none Q) V
 |.get2 a k d=>.of λQ=>(aI B n Z a).e λx V=>isDct x V/\(aI B n Z k).e (λy=>(aI B n Z d).e λz=>getI x y z Q) V
 |.comp _ t k s e=>.of λQ=>(aI B n Z s).e λx=>itI k x λxs alive=>gE xs alive (λy K=>(aI B n (Z.set t (some y)) e).e λz=>K (some z)) Q
 |.compIf _ t k s c e=>.of λQ=>(aI B n Z s).e λx=>itI k x λxs alive=>gE xs alive (λy K=>(aI B n (Z.set t (some y)) c).t λr V=>if r=true then(aI B n (Z.set t (some y)) e).e (λz=>K (some z)) V else K none V) Q
noncomputable def fO (B:Bs) (n:Nat) (Z:aL):MEs->(List IV->IH->Prop)->IH->Prop
 |.nil,K=>K []
 |.cons e es,K=>(aI B n Z e).e λx=>fO B n Z es λxs=>K (x::xs)
end
inductive TG where
 |one (i:Nat)
 |many (is:List Nat)
mutual
inductive MS where
 |asg (t:TG) (e:ME)
 |asgC (i:Nat) (e:ME)
 |asgA (o:ME) (f:Nat) (e:ME)
 |asgI (o i e:ME)
 |ex (e:ME)
 |sup (es:MEs)
 |if_ (c:ME) (a b:MSs)
 |while_ (c:ME) (a:MSs)
 |for_ (t:TG) (k:IK) (s:ME) (a:MSs)
 |ret (e:ME)
 |brk
 |cont
 |bad
inductive MSs where
 |nil
 |cons (s:MS) (r:MSs)
end
def iW (t:TG) (x:IV) (Z:aL) (K:aL->Prop):Prop:=match t with
 |.one i=>K (Z.set i (some x))
 |.many is=>match x with
  |.tup xs=>xs.length=is.length/\K ((is.zip xs).foldl (λr q=>r.set q.1 (some q.2)) Z)
  |_=>False
structure Kn where
 nx:aL->IH->Prop
 br:aL->IH->Prop
 co:aL->IH->Prop
 rt:IV->IH->Prop
noncomputable def fz (F:aL->IH->Prop) (K:Kn):Kn:=⟨F,K.nx,F,K.rt⟩
noncomputable def aH (Q:QE):Kn:=⟨λ_ V=>Q .none V,λ_ _=>False,λ_ _=>False,Q⟩
def zk (xs:List IV) (alive:IH->Prop) (bd:IV->aL->Kn->IH->Prop) (K:Kn) (Z:aL) (V:IH):Prop:=∃Inv:Nat->aL->IH->Prop,Inv 0 Z V/\
 (∀i Z' V' y F,(∀r s,Inv (i+1) r s->F r s)->xs[i]? =some y->Inv i Z' V'->alive V'/\bd y Z' (fz F K) V')/\
 ∀Z' V',Inv xs.length Z' V'->alive V'/\K.nx Z' V'
def DO (c:aL->QB->IH->Prop) (bd:aL->Kn->IH->Prop) (K:Kn) (Z:aL) (V:IH):Prop:=∃Inv:Nat->aL->IH->Prop,(∃k,Inv k Z V)/\
 ∀k Z' V' F,(∀r s,(∃j,j<k/\Inv j r s)->F r s)->Inv k Z' V'->c Z' (λr V''=>if r=true then bd Z' (fz F K) V'' else K.nx Z' V'') V'
inductive setI (a:IV) (f:Nat) (y:IV) (Q:IH->Prop) (V:IH):Prop
 |mk (p c:Addr) (fs:List (Nat×IV)) (e:a=.ref p) (h:V p=some (.inst c fs)) (o:eZ c f=true) (l:fs.length<100) (q:Q (upd V p (.inst c (aK fs f y))))
noncomputable def U1:Addr:=82
inductive supI (Z:aL) (V:IH) (C:Addr->Prop):Prop
 |mk (p:Addr) (fs:List (Nat×IV)) (h:Z[0]? =some (some (.ref p))) (g:V p=some (.inst 232 fs)) (q:C p)
mutual
noncomputable def jI (B:Bs) (n:Nat):MS->aL->Kn->IH->Prop
 |.asg t e,Z,K=>(aI B n Z e).e λx V=>iW t x Z λZ'=>K.nx Z' V
 |.asgC i e,Z,K=>(aI B n Z e).e λx V=>K.nx (Z.set i (some x)) V
 |.asgA o f e,Z,K=>(aI B n Z e).e λy=>(aI B n Z o).e λa=>setI a f y (K.nx Z)
 |.asgI o i e,Z,K=>(aI B n Z e).e λy=>(aI B n Z o).e λa=>(aI B n Z i).e λk=>putI a k y (K.nx Z)
 |.ex e,Z,K=>(aI B n Z e).e λ_=>K.nx Z
 |.sup es,Z,K=>λV=>supI Z V λp=>fO B n Z es (λxs V'=>CallOk B n U1 (.ref p::xs) V' λ_=>K.nx Z) V
 |.if_ c a b,Z,K=>(aI B n Z c).t λr V=>if r=true then az B n a Z K V else az B n b Z K V
 |.while_ c a,Z,K=>DO (λZ'=>(aI B n Z' c).t) (λZ' K'=>az B n a Z' K') K Z
 |.for_ t k s a,Z,K=>(aI B n Z s).e λx=>itI k x λxs alive=>zk xs alive (λy Z' K' V'=>iW t y Z' λZ''=>az B n a Z'' K' V') K Z
 |.ret e,Z,K=>(aI B n Z e).e K.rt
 |.brk,Z,K=>K.br Z
 |.cont,Z,K=>K.co Z
 |.bad,_,_=>λ_=>False
noncomputable def az (B:Bs) (n:Nat):MSs->aL->Kn->IH->Prop
 |.nil,Z,K=>K.nx Z
 |.cons s r,Z,K=>jI B n s Z {K with nx:=λZ'=>az B n r Z' K}
end
end
structure Base (B:Bs):Prop where
 kin:(K B.w.params).In B.h0
 T:∃mg mb,TopRead qv loose mg mb B.h0
 mods:∃o,B.h0.get? sysModules=some o
structure VO (B:Bs) (env:Env) (ns:List PySem.Str) (Z:aL) (V:IH) (h:Heap):Prop where
 kind:env.scope.kind=.function
 glob:env.globals=mainGlobals
 blt:env.builtins=builtinsNs
 kinds:∀(i:Nat) (x:PySem.Str),ns[i]? =some x->x≠u ""->env.kindOf x=some .local\/env.kindOf x=some .cell
 nodup:∀(i j:Nat) (x:PySem.Str),ns[i]? =some x->ns[j]? =some x->x≠u ""->i=j
 loc:∃m,h.Ns env.locals m/\∀(i:Nat) (x:PySem.Str),ns[i]? =some x->x≠u ""->env.kindOf x=some .local->OVR B h (m x) (Z[i]?).join
 cell:∀(i:Nat) (x:PySem.Str),ns[i]? =some x->x≠u ""->env.kindOf x=some .cell->E2 λc v=>A6 (env.cells.lookup x=some c) (h.IsCell c v) (OVR B h v (Z[i]?).join) (¬aS V h c) (B.h0.get? c=none) (c≠env.locals)
 apart:∀(i j:Nat) (x y:PySem.Str) (c:Addr),ns[i]? =some x->ns[j]? =some y->x≠u ""->y≠u ""->env.kindOf x=some .cell->env.kindOf y=some .cell->env.cells.lookup x=some c->env.cells.lookup y=some c->x=y
 nf:¬aS V h env.locals
 nb:B.h0.get? env.locals=none
def bN (env:Env) (ns:List PySem.Str) (a:Addr):Prop:=a=env.locals\/∃(i:Nat) (x:PySem.Str),ns[i]? =some x/\x≠u ""/\env.kindOf x=some .cell/\env.cells.lookup x=some a
theorem OVR.mono {h h':Heap} (k:∀a o,h.get? a=some o->cj o->h'.get? a=some o) (r:OVR B h v x):OVR B h' v x:=by
 induction x with
 |none=>rcases v<;>exact trivial
 |some x=>induction v with
  |none=>exact r.elim
  |some v=>exact VR.mono k r
section
variable{B:Bs} {M:Model} {A:Around} {E:Value->Shared->Prop} {s:Shared} {V:IH} {env:Env} {ns:List PySem.Str} {Z:aL} {v:Value} {y:IV}
theorem VO.keep {V':IH} {h':Heap} (vo:VO B env ns Z V s.heap) (x:St B V s) (k:Keep V s.heap V' h'):VO B env ns Z V' h':=by
 have t:=x.tups k;have nf:∀b o,s.heap.get? b=some o->¬aS V s.heap b->¬aS V' h' b:=λb o e q f=>by
  rcases k.grow b f with f|f
  .exact q f
  .exact On f e
 refine⟨vo.kind,vo.glob,vo.blt,vo.kinds,vo.nodup,?_,λi x e hx hk=>?_,vo.apart,?_,vo.nb⟩
 .obtain⟨m,⟨o,es,ep,ho,r⟩,q⟩:=vo.loc;exact⟨m,⟨o,es,ep,k.old _ _ ho vo.nf,r⟩,λi x e hx hk=>(q i x e hx hk).mono t⟩
 .o_shape;obtain⟨c,w,h1,⟨o,ho,hd⟩,h3,h4,h5,h6⟩:=vo.cell i x e hx hk;pv_eval;exact⟨c,w,h1,⟨o,k.old _ _ ho h4,hd⟩,h3.mono t,nf _ _ ho h4,h5,h6⟩
 .obtain⟨m,⟨o,es,ep,ho,r⟩,q⟩:=vo.loc;exact nf _ _ ho vo.nf
theorem VO.load {i:Nat} {nm:PySem.Str} {Q:Value->Shared->Prop} (vo:VO B env ns Z V s.heap) (e:ns[i]? =some nm) (hx:nm≠u "") (hd:(nm==("__debug__":PySem.Str))=false) (r:Z[i]? =some (some y))
 (q:∀v,VR B s.heap v y->Q v s):wpAny M A (eval (.Name nm pos) env) Q E s:=by
 refine wpAny_Name ?_ hd;rcases vo.kinds i nm e hx with hk|hk
 .obtain⟨m,hn,z⟩:=vo.loc;have z:=z i nm e hx hk;rw[r]at z
  induction w:m nm with
  |none=>rw[w]at z;exact z.elim
  |some v=>rw[w]at z;exact wpAny_loadName_local vo.kind hk hn w (q v z)
 .obtain⟨c,w,h1,h2,h3,_⟩:=vo.cell i nm e hx hk;rw[r]at h3
  induction w with
  |none=>exact h3.elim
  |some v=>exact wpAny_loadName_cell vo.kind hk h1 h2 (q v h3)
theorem jW {Z:aL} {i j:Nat} (h:j≠i):(Z.set i (some y))[j]? =Z[j]? :=by exact O (List.getElem?_set_ne (Ne.symm h)) rfl
theorem yA {i:Nat} (r:VR B h v y):OVR B h (some v) ((Z.set i (some y))[i]?).join:=by
 by_cases q:i<Z.length
 .exact O (List.getElem?_set_self q) r
 .exact O (dv (by simpa using q)) trivial
theorem gP {h':Heap} {t:Nat} (x:St B V s) (ho:s.heap.get? a=some o) (nt:¬cj o) (nf:¬aS V s.heap a) (nb:B.h0.get? a=none) (sb:∀b,b≠a->h'.get? b=s.heap.get? b):
 Pres B V s.heap h':=λb ob e=>by
 by_cases q:b=a
 .obtain rfl:=q.symm;obtain rfl:=Os ho e;exact .inr ⟨nf,nt,nb⟩
 .exact .inl (O (sb b q) e)
theorem VO.store {i:Nat} {nm:PySem.Str} {Q:Unit->Shared->Prop} (x:St B V s) (vo:VO B env ns Z V s.heap) (e:ns[i]? =some nm) (hx:nm≠u "") (r:VR B s.heap v y)
 (q:∀s',St B V s'->VO B env ns (Z.set i (some y)) V s'.heap->(∃a,bN env ns a/\(env.kindOf nm=some .local->a=env.locals)/\∀b,b≠a->s'.heap.get? b=s.heap.get? b)->Pres B V s.heap s'.heap->Q () s'):wpAny M A (storeName env nm v) Q E s:=by
 rcases vo.kinds i nm e hx with hk|hk
 .obtain⟨m,hn,z⟩:=vo.loc;refine wpAny_storeName_local hk hn (λh' hn' hs=>?_) (O vo.kind rfl);have hn0:=hn;o_shape;obtain⟨o,es,ep,ho,hd,_⟩:=hn0;pv_eval;have p:Pres B V s.heap h':=gP (t:=0) x ho (λzq=>by obtain⟨_,its,n,e⟩:=zq;replace e:=Oe hd e;cases e) vo.nf vo.nb hs.2;have x':=x.pres (s':={s with heap:=h',toks:=s.toks+1}) p rfl rfl;have fo:=Pres.foot (s':={s with heap:=h',toks:=s.toks+1}) x p;refine q _ x' ⟨vo.kind,vo.glob,vo.blt,vo.kinds,vo.nodup,⟨_,hn',λj z' ej hz hkz=>?_⟩,λj z' ej hz hkz=>?_,vo.apart,λf=>vo.nf ((fo _).mp f),vo.nb⟩ ⟨_,.inl rfl,λ_=>rfl,hs.2⟩ p
  .by_cases hj:j=i
   .subst hj;obtain rfl:=Os e ej;exact O (ax rfl) (yA (r.mono p.tups))
   .have:z'≠nm:=λh=>hj (vo.nodup j i nm (h▸ej) e hx);exact O (ai this) (O (jW hj) ((z j z' ej hz hkz).mono p.tups))
  .have hj:j≠i:=λh=>by subst h;obtain rfl:=Os e ej;replace hkz:=Oe hk hkz;cases hkz
   o_shape;obtain⟨c,w,h1,⟨oc,hoc,hdc⟩,h3,h4,h5,h6⟩:=vo.cell j z' ej hz hkz;pv_eval;refine O (jW hj) ?_;exact⟨c,w,h1,⟨oc,by exact O (hs.2 c h6) hoc,hdc⟩,h3.mono p.tups,λf=>h4 ((fo _).mp f),h5,h6⟩
 .obtain⟨c,w,h1,h2,h3,h4,h5,h6⟩:=vo.cell i nm e hx hk;refine wpAny_storeName_cell vo.kind hk h1 h2 λh' hc' hs=>?_;o_shape;obtain⟨o,ho,hd⟩:=h2;have p:Pres B V s.heap h':=gP (t:=0) x ho (λzq=>by obtain⟨_,its,n,e⟩:=zq;replace e:=Oe hd e;cases e) h4 h5 hs.2;have x':=x.pres (s':={s with heap:=h'}) p rfl rfl;have fo:=Pres.foot (s':={s with heap:=h'}) x p;obtain⟨m,⟨ol,esl,epl,hol,rl⟩,z⟩:=vo.loc;pv_eval;refine q _ x' ⟨vo.kind,vo.glob,vo.blt,vo.kinds,vo.nodup,⟨m,⟨ol,esl,epl,by exact O (hs.2 _ (Ne.symm h6)) hol,rl⟩,λj z' ej hz hkz=>?_⟩,λj z' ej hz hkz=>?_,vo.apart,λf=>vo.nf ((fo _).mp f),vo.nb⟩
   ⟨_,.inr ⟨i,nm,e,hx,hk,h1⟩,(λh=>by replace h:=Oe hk h;cases h),hs.2⟩ p
  .have hj:j≠i:=λh=>by subst h;obtain rfl:=Os e ej;replace hkz:=Oe hk hkz;cases hkz
   exact O (jW hj) ((z j z' ej hz hkz).mono p.tups)
  .by_cases hj:j=i
   .subst hj;obtain rfl:=Os e ej;exact⟨c,some v,h1,hc',yA (r.mono p.tups),λf=>h4 ((fo _).mp f),h5,h6⟩
   .o_shape;obtain⟨c',w',g1,⟨oc,hoc,hdc⟩,g3,g4,g5,g6⟩:=vo.cell j z' ej hz hkz;pv_eval;have hne:c'≠c:=λh=>hj (vo.nodup j i nm ((vo.apart j i z' nm c ej e hz hx hkz hk (h▸g1) h1)▸ej) e hx);refine O (jW hj) ?_;exact⟨c',w',g1,⟨oc,by exact O (hs.2 c' hne) hoc,hdc⟩,g3.mono p.tups,λf=>g4 ((fo _).mp f),g5,g6⟩
theorem Base.mg (hB:Base B) (x:St B V s) (vo:VO B env ns Z V s.heap) {nm:PySem.Str} {Q:Value->Shared->Prop} (hk:env.kindOf nm=some .globalImplicit) (hd:(nm==("__debug__":PySem.Str))=false)
 (e:nsIn (K B.w.params) mainGlobals nm=some (some v)) (q:Q v s):wpAny M A (eval (.Name nm pos) env) Q E s:=by
 o_shape;obtain⟨mg,mb,T⟩:=hB.T;pv_eval;exact Name_function_global vo.kind hk (loadGlobal_global (env:=env) (O vo.glob (T.g.keeps x.keep)) (mg_of hB.kin T.g e) q) hd
theorem Base.mb (hB:Base B) (x:St B V s) (vo:VO B env ns Z V s.heap) {nm:PySem.Str} {Q:Value->Shared->Prop} (hk:env.kindOf nm=some .globalImplicit) (hd:(nm==("__debug__":PySem.Str))=false)
 (e:nsIn (K B.w.params) mainGlobals nm=some none) (hv:bootBuiltins nm=some v) (hn:nm≠"__name__") (q:Q v s):wpAny M A (eval (.Name nm pos) env) Q E s:=by
 obtain⟨mg,mb,T⟩:=hB.T;exact Name_function_global vo.kind hk (loadGlobal_builtin (env:=env) (O vo.glob (T.g.keeps x.keep)) (mg_none_of hB.kin T.g e) (O vo.blt (T.b.keeps x.keep)) ((T.builtins nm hn).trans hv) q) hd
end
noncomputable def on (i j:Nat) (f:i=j->Bool):Bool:=if h:i=j then f h else false
theorem cU {f:i=j->Bool} (h:on i j f=true):∃e,f e=true:=by
 unfold on at h;split at h
 .exact⟨_,h⟩
 .exact(bE h).elim
noncomputable def xC (x:Expr) (k:Const->Bool):Bool:=on x.ctorIdx 19 λe=>Expr.Constant.elim (motive_1:=λ_=>Bool) x e λc i p=>k c
noncomputable def xN (x:Expr) (k:PySem.Str->Bool):Bool:=on x.ctorIdx 23 λe=>Expr.Name.elim (motive_1:=λ_=>Bool) x e λa p=>k a
noncomputable def xB (x:Expr) (k:Operator->Expr->Expr->Bool):Bool:=on x.ctorIdx 2 λe=>Expr.BinOp.elim (motive_1:=λ_=>Bool) x e λa o b p=>k o a b
noncomputable def xU (x:Expr) (k:UnaryOp->Expr->Bool):Bool:=on x.ctorIdx 3 λe=>Expr.UnaryOp.elim (motive_1:=λ_=>Bool) x e λo a p=>k o a
noncomputable def xK (x:Expr) (k:Expr->List CmpOp->List Expr->Bool):Bool:=on x.ctorIdx 15 λe=>Expr.Compare.elim (motive_1:=λ_=>Bool) x e λa o b p=>k a o b
noncomputable def xO (x:Expr) (k:BoolOp->List Expr->Bool):Bool:=on x.ctorIdx 0 λe=>Expr.BoolOp.elim (motive_1:=λ_=>Bool) x e λo a p=>k o a
noncomputable def xI (x:Expr) (k:Expr->Expr->Expr->Bool):Bool:=on x.ctorIdx 5 λe=>Expr.IfExp.elim (motive_1:=λ_=>Bool) x e λa b c p=>k a b c
noncomputable def xT (x:Expr) (k:List Expr->Bool):Bool:=on x.ctorIdx 25 λe=>Expr.Tuple.elim (motive_1:=λ_=>Bool) x e λa i p=>k a
noncomputable def xL (x:Expr) (k:List Expr->Bool):Bool:=on x.ctorIdx 24 λe=>Expr.List.elim (motive_1:=λ_=>Bool) x e λa p=>k a
noncomputable def xD (x:Expr) (k:List (Option Expr)->List Expr->Bool):Bool:=on x.ctorIdx 6 λe=>Expr.Dict.elim (motive_1:=λ_=>Bool) x e λa b p=>k a b
noncomputable def xS (x:Expr) (k:Expr->Expr->Bool):Bool:=on x.ctorIdx 21 λe=>Expr.Subscript.elim (motive_1:=λ_=>Bool) x e λa b p=>k a b
noncomputable def xZ (x:Expr) (k:Option Expr->Option Expr->Option Expr->Bool):Bool:=on x.ctorIdx 26 λe=>Expr.Slice.elim (motive_1:=λ_=>Bool) x e λa b c p=>k a b c
noncomputable def xA (x:Expr) (k:Expr->PySem.Str->Pos->Bool):Bool:=on x.ctorIdx 20 λe=>Expr.Attribute.elim (motive_1:=λ_=>Bool) x e λa b p=>k a b p
noncomputable def xF (x:Expr) (k:Expr->List Expr->List Keyword->Pos->Bool):Bool:=on x.ctorIdx 16 λe=>Expr.Call.elim (motive_1:=λ_=>Bool) x e λa b c p=>k a b c p
noncomputable def xG (x:Expr) (k:Expr->List Comprehension->Scope->Bool):Bool:=on x.ctorIdx 8 λe=>Expr.ListComp.elim (motive_1:=λ_=>Bool) x e λa b c p=>k a b c
noncomputable def y0 {α:Type} (l:List α) (k:Bool):Bool:=match l with|[]=>k|_=>false
noncomputable def yc {α:Type} (l:List α) (k:α->List α->Bool):Bool:=match l with|a::l=>k a l|_=>false
noncomputable def yn {α:Type} (l:Option α) (k:Bool):Bool:=match l with|none=>k|_=>false
noncomputable def ys {α:Type} (l:Option α) (k:α->Bool):Bool:=match l with|some a=>k a|_=>false
noncomputable def y1 {α:Type} (l:List α) (k:α->Bool):Bool:=yc l λa l=>y0 l (k a)
noncomputable def y2 {α:Type} (l:List α) (k:α->α->Bool):Bool:=yc l λa l=>y1 l (k a)
noncomputable def y3 {α:Type} (l:List α) (k:α->α->α->Bool):Bool:=yc l λa l=>y2 l (k a)
section
variable{α:Type}
@[elab_as_elim] theorem iC {x k} {C:Expr->Prop} (h:xC x k=true) (f:∀c i p,k c=true->C (.Constant c i p)):C x:=(cU h).elim λe h=>Expr.Constant.elim (motive_1:=λx=>∀e,(Expr.Constant.elim (motive_1:=λ_=>Bool) x e λc i p=>k c)=true->C x) x e (λc i p _ h=>f c i p h) e h
@[elab_as_elim] theorem iN {x k} {C:Expr->Prop} (h:xN x k=true) (f:∀a p,k a=true->C (.Name a p)):C x:=(cU h).elim λe h=>Expr.Name.elim (motive_1:=λx=>∀e,(Expr.Name.elim (motive_1:=λ_=>Bool) x e λa p=>k a)=true->C x) x e (λa p _ h=>f a p h) e h
@[elab_as_elim] theorem iB {x k} {C:Expr->Prop} (h:xB x k=true) (f:∀a o b p,k o a b=true->C (.BinOp a o b p)):C x:=(cU h).elim λe h=>Expr.BinOp.elim (motive_1:=λx=>∀e,(Expr.BinOp.elim (motive_1:=λ_=>Bool) x e λa o b p=>k o a b)=true->C x) x e (λa o b p _ h=>f a o b p h) e h
@[elab_as_elim] theorem iU {x k} {C:Expr->Prop} (h:xU x k=true) (f:∀o a p,k o a=true->C (.UnaryOp o a p)):C x:=(cU h).elim λe h=>Expr.UnaryOp.elim (motive_1:=λx=>∀e,(Expr.UnaryOp.elim (motive_1:=λ_=>Bool) x e λo a p=>k o a)=true->C x) x e (λo a p _ h=>f o a p h) e h
@[elab_as_elim] theorem zo {x k} {C:Expr->Prop} (h:xK x k=true) (f:∀a o b p,k a o b=true->C (.Compare a o b p)):C x:=(cU h).elim λe h=>Expr.Compare.elim (motive_1:=λx=>∀e,(Expr.Compare.elim (motive_1:=λ_=>Bool) x e λa o b p=>k a o b)=true->C x) x e (λa o b p _ h=>f a o b p h) e h
@[elab_as_elim] theorem iO {x k} {C:Expr->Prop} (h:xO x k=true) (f:∀o a p,k o a=true->C (.BoolOp o a p)):C x:=(cU h).elim λe h=>Expr.BoolOp.elim (motive_1:=λx=>∀e,(Expr.BoolOp.elim (motive_1:=λ_=>Bool) x e λo a p=>k o a)=true->C x) x e (λo a p _ h=>f o a p h) e h
@[elab_as_elim] theorem iI {x k} {C:Expr->Prop} (h:xI x k=true) (f:∀a b c p,k a b c=true->C (.IfExp a b c p)):C x:=(cU h).elim λe h=>Expr.IfExp.elim (motive_1:=λx=>∀e,(Expr.IfExp.elim (motive_1:=λ_=>Bool) x e λa b c p=>k a b c)=true->C x) x e (λa b c p _ h=>f a b c p h) e h
@[elab_as_elim] theorem iT {x k} {C:Expr->Prop} (h:xT x k=true) (f:∀a i p,k a=true->C (.Tuple a i p)):C x:=(cU h).elim λe h=>Expr.Tuple.elim (motive_1:=λx=>∀e,(Expr.Tuple.elim (motive_1:=λ_=>Bool) x e λa i p=>k a)=true->C x) x e (λa i p _ h=>f a i p h) e h
@[elab_as_elim] theorem iL {x k} {C:Expr->Prop} (h:xL x k=true) (f:∀a p,k a=true->C (.List a p)):C x:=(cU h).elim λe h=>Expr.List.elim (motive_1:=λx=>∀e,(Expr.List.elim (motive_1:=λ_=>Bool) x e λa p=>k a)=true->C x) x e (λa p _ h=>f a p h) e h
@[elab_as_elim] theorem iD {x k} {C:Expr->Prop} (h:xD x k=true) (f:∀a b p,k a b=true->C (.Dict a b p)):C x:=(cU h).elim λe h=>Expr.Dict.elim (motive_1:=λx=>∀e,(Expr.Dict.elim (motive_1:=λ_=>Bool) x e λa b p=>k a b)=true->C x) x e (λa b p _ h=>f a b p h) e h
@[elab_as_elim] theorem iS {x k} {C:Expr->Prop} (h:xS x k=true) (f:∀a b p,k a b=true->C (.Subscript a b p)):C x:=(cU h).elim λe h=>Expr.Subscript.elim (motive_1:=λx=>∀e,(Expr.Subscript.elim (motive_1:=λ_=>Bool) x e λa b p=>k a b)=true->C x) x e (λa b p _ h=>f a b p h) e h
@[elab_as_elim] theorem iZ {x k} {C:Expr->Prop} (h:xZ x k=true) (f:∀a b c p,k a b c=true->C (.Slice a b c p)):C x:=(cU h).elim λe h=>Expr.Slice.elim (motive_1:=λx=>∀e,(Expr.Slice.elim (motive_1:=λ_=>Bool) x e λa b c p=>k a b c)=true->C x) x e (λa b c p _ h=>f a b c p h) e h
@[elab_as_elim] theorem iA {x k} {C:Expr->Prop} (h:xA x k=true) (f:∀a b p,k a b p=true->C (.Attribute a b p)):C x:=(cU h).elim λe h=>Expr.Attribute.elim (motive_1:=λx=>∀e,(Expr.Attribute.elim (motive_1:=λ_=>Bool) x e λa b p=>k a b p)=true->C x) x e (λa b p _ h=>f a b p h) e h
@[elab_as_elim] theorem iF {x k} {C:Expr->Prop} (h:xF x k=true) (f:∀a b c p,k a b c p=true->C (.Call a b c p)):C x:=(cU h).elim λe h=>Expr.Call.elim (motive_1:=λx=>∀e,(Expr.Call.elim (motive_1:=λ_=>Bool) x e λa b c p=>k a b c p)=true->C x) x e (λa b c p _ h=>f a b c p h) e h
@[elab_as_elim] theorem iG {x k} {C:Expr->Prop} (h:xG x k=true) (f:∀a b c p,k a b c=true->C (.ListComp a b c p)):C x:=(cU h).elim λe h=>Expr.ListComp.elim (motive_1:=λx=>∀e,(Expr.ListComp.elim (motive_1:=λ_=>Bool) x e λa b c p=>k a b c)=true->C x) x e (λa b c p _ h=>f a b c p h) e h
variable{C:List α->Prop} {D:Option α->Prop}
@[elab_as_elim] theorem j0 {k} (h:y0 l k=true) (f:k=true->C []):C l:=by induction l with|nil=>exact f h|cons=>exact(bE h).elim
@[elab_as_elim] theorem jc {k} (h:yc l k=true) (f:∀a r,k a r=true->C (a::r)):C l:=by induction l with|nil=>rcases h|cons a r=>exact f a r h
@[elab_as_elim] theorem jn {k} (h:yn l k=true) (f:k=true->D none):D l:=by induction l with|none=>exact f h|some=>exact(bE h).elim
@[elab_as_elim] theorem js {k} (h:ys l k=true) (f:∀a,k a=true->D (some a)):D l:=by induction l with|none=>rcases h|some a=>exact f a h
@[elab_as_elim] theorem j1 {k} (h:y1 l k=true) (f:∀a,k a=true->C [a]):C l:=jc h λa r h=>j0 (C:=λr=>C (a::r)) h λh=>f a h
@[elab_as_elim] theorem j2 {k} (h:y2 l k=true) (f:∀a b,k a b=true->C [a,b]):C l:=jc h λa r h=>j1 (C:=λr=>C (a::r)) h λb h=>f a b h
@[elab_as_elim] theorem j3 {k} (h:y3 l k=true) (f:∀a b c,k a b c=true->C [a,b,c]):C l:=jc h λa r h=>j2 (C:=λr=>C (a::r)) h λb c h=>f a b c h
theorem bc {a b:Bool} (h:(a&&b)=true):a=true/\b=true:=by induction a with|true=>exact⟨rfl,h⟩|false=>exact(bE h).elim
theorem bA {a b:Bool} (h:(a&&b)=true) {C:Prop} (k:a=true->b=true->C):C:=k (bc h).1 (bc h).2
@[elab_as_elim] theorem dN [BEq α] [LawfulBEq α] {k} {C:α->Prop} (h:(a==b&&k)=true) (f:k=true->C b):C a:=eq_of_beq (bc h).1▸f (bc h).2
@[elab_as_elim] theorem jN [BEq α] [LawfulBEq α] {k} {C:α->Prop} (h:(a==b&&k)=true) (f:k=true->C a):C b:=eq_of_beq (bc h).1▸f (bc h).2
theorem yQ {a:Bool} (h:(!a)=true):a=false:=by induction a with|true=>rcases h|false=>rfl
theorem iX {a k:Bool} (h:(!a&&k)=true):a=false/\k=true:=by induction a with|true=>rcases h|false=>exact⟨rfl,h⟩
end
noncomputable def g9 (x:Expr):Bool:=xF x λf as ks _=>xN f λ_=>y0 as (y0 ks true)
noncomputable def gZ (x:Expr):Bool:=xN x λ_=>true
noncomputable def j7 (x:Expr):Bool:=xZ x λ_ _ _=>true
noncomputable def gM (x:Expr):Bool:=x.ctorIdx !=22
noncomputable def gi (sc:Scope) (x:PySem.Str):Bool:=sc.names.lookup x==some .globalImplicit&&x !=("__debug__":PySem.Str)
noncomputable def yK:BI->PySem.Str
 |.len=>u "len"
 |.sorted=>u "sorted"
 |.list=>u "list"
 |.tuple=>u "tuple"
 |.sum=>u "sum"
 |.int=>u "int"
noncomputable def xg (sc:Scope) (g:PySem.Str) (x:Expr) (k:List Expr->Bool):Bool:=xF x λf as ks _=>xN f λnm=>y0 ks (nm==g&&(gi sc g&&k as))
@[elab_as_elim] theorem ig {sc g x k} {C:Expr->Prop} (h:xg sc g x k=true) (f:∀q as p,gi sc g=true->k as=true->C (.Call (.Name g q) as [] p)):C x:=
  iF h λfu as ks p h=>iN (C:=λfu=>C (.Call fu as ks p)) h λnm q h=>j0 (C:=λks=>C (.Call (.Name nm q) as ks p)) h λh=>dN (C:=λnm=>C (.Call (.Name nm q) as [] p)) h λh=>f q as p (bc h).1 (bc h).2
noncomputable def xm (m:PySem.Str) (x:Expr) (k:Expr->List Expr->Bool):Bool:=xF x λf as ks p=>xA f λy nm q=>y0 ks (nm==m&&(!g9 y&&(q.endLine==p.line&&k y as)))
@[elab_as_elim] theorem im {m x k} {C:Expr->Prop} (h:xm m x k=true) (f:∀y q as p,g9 y=false->(q.endLine==p.line)=true->k y as=true->C (.Call (.Attribute y m q) as [] p)):C x:=
  iF h λfu as ks p h=>iA (C:=λfu=>C (.Call fu as ks p)) h λy nm q h=>j0 (C:=λks=>C (.Call (.Attribute y nm q) as ks p)) h λh=>dN (C:=λnm=>C (.Call (.Attribute y nm q) as [] p)) h λh=>f y q as p (iX h).1 (bc (iX h).2).1 (bc (iX h).2).2
noncomputable def fJ (sc:Scope) (k:IK) (m:Expr->Bool) (x:Expr):Bool:=match k with
 |.it=>x.ctorIdx !=7&&m x
 |.rng=>xg sc (u "range") x λas=>y1 as m
 |.rev=>xg sc (u "reversed") x λas=>y1 as m
noncomputable def gG (sc:Scope) (ns:List PySem.Str) (sc':Scope) (ns':List PySem.Str) (t:Nat) (tx:PySem.Str):Bool:=
 sc'.kind==.function&&ns'[t]? ==some tx&&tx !=u ""&&sc'.names.lookup tx==some .local&&(sc'.names.all λp=>p.2 != .cell&&(p.2 != .local||sc'.names.lookup p.1==some .local)&&(p.2 != .free||(sc.names.lookup p.1==some .cell&&ns.contains p.1&&p.1 !=u "")))&&
 ((List.range ns'.length).all λi=>i==t||ns'[i]? ==some (u "")||(ns'[i]? ==ns[i]? &&(ns'[i]?.any λx=>sc'.names.lookup x==some .free&&x !=tx)))
noncomputable def xq (sc:Scope) (ns ns':List PySem.Str) (t:Nat) (k:IK) (m:Expr->Bool) (x:Expr) (r:Expr->Scope->List Expr->Bool):Bool:=xG x λy gs sc'=>y1 gs λg=>xN g.target λtx=>g.is_async==0&&(gG sc ns sc' ns' t tx&&(fJ sc k m g.iter&&r y sc' g.ifs))
mutual
noncomputable def mE (sc:Scope) (ns:List PySem.Str):ME->Expr->Bool
 |.int i,x=>xC x λc=>match c with|.int j=>i==j|_=>false
 |.str i,x=>xC x λc=>match c with|.str j=>i==j|_=>false
 |.bool i,x=>xC x λc=>match c with|.bool j=>i==j|_=>false
 |.non,x=>xC x λc=>match c with|.none=>true|_=>false
 |.loc i,x=>xN x λnm=>ns[i]? ==some nm&&(nm !=u ""&&nm !=("__debug__":PySem.Str))
 |.glo g i t,x=>xN x λnm=>nm==g&&(gi sc g&&cTab.contains (g,i,t))
 |.bin o a b,x=>xB x λo' l r=>o==o'&&(mE sc ns a l&&mE sc ns b r)
 |.neg a,x=>xU x λo y=>o==.USub&&mE sc ns a y
 |.cmp o a b,x=>xK x λl os rs=>y1 os λo'=>y1 rs λr=>o==o'&&(mE sc ns a l&&(mE sc ns b r&& !behindInMarks o r))
 |.cmp2 o p a b c,x=>xK x λl os rs=>y2 os λo' p'=>y2 rs λr r'=>o==o'&&(p==p'&&(mE sc ns a l&&(mE sc ns b r&&(mE sc ns c r'&& !lastMarks [o,p] [r,r']))))
 |.not a,x=>xU x λo y=>o==.Not&&mE sc ns a y
 |.and a b,x=>xO x λo es=>o==.And&&y2 es λy z=>mE sc ns a y&&mE sc ns b z
 |.or a b,x=>xO x λo es=>o==.Or&&y2 es λy z=>mE sc ns a y&&mE sc ns b z
 |.and3 a b c,x=>xO x λo es=>o==.And&&y3 es λy z w=>mE sc ns a y&&(mE sc ns b z&&mE sc ns c w)
 |.ite c a b,x=>xI x λt y z=>mE sc ns c t&&(mE sc ns a y&&mE sc ns b z)
 |.tup es,x=>xT x λys=>dP sc ns es ys
 |.lst es,x=>xL x λys=>dP sc ns es ys
 |.dct _,x=>xD x λks vs=>y0 ks (y0 vs true)
 |.at a i,x=>xS x λy z=> !j7 z&&(mE sc ns a y&&mE sc ns i z)
 |.upto a k,x=>xS x λy z=>xZ z λl v r=>yn l (yn r (ys v λz=>gZ y&&(mE sc ns a y&&mE sc ns k z)))
 |.from a k,x=>xS x λy z=>xZ z λl v r=>yn v (yn r (ys l λz=>gZ y&&(mE sc ns a y&&mE sc ns k z)))
 |.att a f,x=>xA x λy nm _=>nm==fS f&&(!g9 y&&mE sc ns a y)
 |.bi b a,x=>xg sc (yK b) x λas=>y1 as λy=>mE sc ns a y
 |.max a b,x=>xg sc (u "max") x λas=>y2 as λy z=>mE sc ns a y&&mE sc ns b z
 |.cal g f es,x=>xg sc g x λas=>gTab.contains (g,f)&&dP sc ns es as
 |.met a c m f es,x=>xm (fS m) x λy as=>mTab.contains (c,m,f)&&(decide (as.length<29)&&(mE sc ns a y&&dP sc ns es as))
 |.app a b,x=>xm (u "append") x λy as=>y1 as λz=>mE sc ns a y&&mE sc ns b z
 |.ext a b,x=>xm (u "extend") x λy as=>y1 as λz=>mE sc ns a y&&mE sc ns b z
 |.pop a,x=>xm (u "pop") x λy as=>y0 as (mE sc ns a y)
 |.get a k,x=>xm (u "get") x λy as=>y1 as λz=>mE sc ns a y&&mE sc ns k z
 |.get2 a k d,x=>xm (u "get") x λy as=>y2 as λz w=>mE sc ns a y&&(mE sc ns k z&&mE sc ns d w)
 |.comp ns' t k s e,x=>xq sc ns ns' t k (λz=>mE sc ns s z) x λy sc' cs=>y0 cs (mE sc' ns' e y)
 |.compIf ns' t k s c e,x=>xq sc ns ns' t k (λz=>mE sc ns s z) x λy sc' cs=>y1 cs λz=>mE sc' ns' c z&&mE sc' ns' e y
noncomputable def dP (sc:Scope) (ns:List PySem.Str):MEs->List Expr->Bool
 |.nil,x=>y0 x true
 |.cons e es,x=>yc x λy ys=>mE sc ns e y&&(dP sc ns es ys&&gM y)
end
noncomputable def xr (x:Expr) (k:Bool):Bool:=xG x λ_ gs _=>y1 gs λg=>xN g.target λ_=>g.is_async==0&&k
@[elab_as_elim] theorem ir {x k} {C:Expr->Prop} (h:xr x k=true) (f:∀y tx q it cs sc' p,k=true->C (.ListComp y [⟨.Name tx q,it,cs,0⟩] sc' p)):C x:=
  iG h λy gs sc' p h=>j1 (C:=λgs=>C (.ListComp y gs sc' p)) h λzq h=>by obtain⟨t,it,cs,a⟩:=zq;exact iN (x:=t) (C:=λt=>C (.ListComp y [⟨t,it,cs,a⟩] sc' p)) h λtx q h=>dN (a:=a) (C:=λa=>C (.ListComp y [⟨.Name tx q,it,cs,a⟩] sc' p)) h λh=>f y tx q it cs sc' p h
@[elab_as_elim] theorem iq {sc ns ns' t k m x r} {C:Expr->Prop} (h:xq sc ns ns' t k m x r=true) (f:∀y tx q it cs sc' p,gG sc ns sc' ns' t tx=true->fJ sc k m it=true->r y sc' cs=true->C (.ListComp y [⟨.Name tx q,it,cs,0⟩] sc' p)):C x:=
  iG h λy gs sc' p h=>j1 (C:=λgs=>C (.ListComp y gs sc' p)) h λzq h=>by obtain⟨u,it,cs,a⟩:=zq;exact iN (x:=u) (C:=λu=>C (.ListComp y [⟨u,it,cs,a⟩] sc' p)) h λtx q h=>dN (a:=a) (C:=λa=>C (.ListComp y [⟨.Name tx q,it,cs,a⟩] sc' p)) h λh=>f y tx q it cs sc' p (bc h).1 (bc (bc h).2).1 (bc (bc h).2).2
theorem iqE {sc ns ns' t k m x r} (h:xq sc ns ns' t k m x r=true):∃y tx q it cs sc' p,x=.ListComp y [⟨.Name tx q,it,cs,0⟩] sc' p/\gG sc ns sc' ns' t tx=true/\fJ sc k m it=true/\r y sc' cs=true:=iq h λy tx q it cs sc' p a b c=>⟨y,tx,q,it,cs,sc',p,rfl,a,b,c⟩
section
set_option tactic.hygienic true
structure ItOk (B:Bs) (A:Around) (xs:List IV) (alive:IH->Prop) (I:Addr) (J:Nat->Heap->Prop):Prop where
 frame:∀i h h',J i h->(∀b o,h.get? b=some o->I=b\/cj o->h'.get? b=some o)->J i h'
 live:∀i h,J i h->∃o,h.get? I=some o/\¬cj o
 item:∀i x s V,xs[i]? =some x->J i s.heap->St B V s->alive V->¬aS V s.heap I->B.h0.get? I=none->∀(Q:Option Value->Shared->Prop),
  (∀v h' t,VR B h' v x->J (i+1) h'->(∀b,b≠I->h'.get? b=s.heap.get? b)->Q (some v) {s with heap:=h',toks:=t})->wpAny (model pw B.w) A (pyNext (.ref I)) Q aA s
 self:∀i s,J i s.heap->∀(Q:Value->Shared->Prop) (E:Value->Shared->Prop),Q (.ref I) s->wpAny (model pw B.w) A (pyIter (.ref I)) Q E s
 lets:∀i s,J i s.heap->∀(target:Expr) (v:Value) (Q:Unit->Shared->Prop) (E:Value->Shared->Prop),Q () s->wpAny (model pw B.w) A (letOwnedTupleGo target (.ref I) v) Q E s
 fin:∀s V,J xs.length s.heap->St B V s->alive V->∀(Q:Option Value->Shared->Prop),
  (∀h' t,(∀b o,b≠I->s.heap.get? b=some o->h'.get? b=some o)->Q none {s with heap:=h',toks:=t})->wpAny (model pw B.w) A (pyNext (.ref I)) Q aA s
theorem ItOk.liv {alive:IH->Prop} {J:Nat->Heap->Prop} (k:ItOk B A xs alive I J) {h:Heap} (j:J i h) {C:Prop} (q:∀o,h.get? I=some o->¬cj o->C):C:=(k.live i h j).elim λo z=>q o z.1 z.2
theorem jA {s:Shared} {h':Heap} (x:St B V s) (g:s.heap.get? I=some o) (n:¬cj o) (sb:∀b,b≠I->h'.get? b=s.heap.get? b):
 ∀a o',s.heap.get? a=some o'->cj o'->h'.get? a=some o':=λa o' e c=>by
 by_cases q:a=I
 .subst q;obtain rfl:=Os g e;exact absurd c n
 .exact O (sb a q) e
theorem r8 {B:Bs} {E:Value->Shared->Prop} {o:Obj} {Q':Unit->Shared->Prop} {s':Shared} (ho:s'.heap.get? I=some o) (hc:o.cls=.type T) (hd:o.data=.fields vs)
 (hT:(["enumerate","zip","dict_itemiterator","dict_reverseitemiterator","odict_iterator","itertools.zip_longest","itertools.pairwise"].contains T)=false) (h:Q' () s'):
 wpAny (model pw B.w) A (letOwnedTupleGo target (.ref I) v) Q' E s':=by
 unfold letOwnedTupleGo;rcases target<;>first
  |exact aT h
  |(rcases v<;>first
     |exact aT h
     |(refine ay (wpAny_load ho ?_)
       refine O hc (O hd ?_);dsimp only;exact O hT (O (Bool.false_and ..) (O (ai bE) (aT h)))))
theorem VRs.of_items {l:List Int} (x:ItemsAre (iK B) l vs):VRs B h vs (l.map IV.int):=by
 induction x with
 |nil=>trivial
 |cons e _ ih=>
  obtain⟨t,rfl⟩:=Value.isInt_shape e;exact⟨⟨t,rfl⟩,ih⟩
theorem ItemsAre.len {K:Type} [DecidableEq K] {knd:KeyKind prog w K} {vs:List Value} {l:List K} (x:ItemsAre knd l vs):vs.length=l.length:=by
 induction x with
 |nil=>rfl
 |cons _ _ ih=>simp[ih]
section
variable{B:Bs} {A:Around}
theorem Ho {E:Value->Shared->Prop} {kvs:List (List Int×Addr×Value)} {s:Shared} {Q:Value->Shared->Prop} (hd:(d==sysModules)=false) (hm:DictAtH B s.heap d kvs ep)
 (hQ:Q (.ref s.heap.objs.size) {s with heap:=s.heap.push {cls:=.type "dict_keyiterator",data:=.fields #[.ref d,.int 0 0,.int kvs.length 0,.int ep 0]}}):
 wpAny (model pw B.w) A (pyIter (.ref d)) Q E s:=by
 obtain⟨o,es,ho,hc,hdat,hes,his,hn⟩:=id hm;have hT:s.TypeIs (.ref d) "dict":=hm.of.typeIs;refine wpAny_pyIter_slot hT F.slot_dict_iter (wpAny_call_entry F.slot_dict_iter hT F.entry_dict_iter ?_ (F.args_dict_iter_1 _));unfold Builtin.«dict.__iter__»;refine ay ?_;unfold Builtin.Dict.dictSlotNone;refine ay (wpAny_notOrdered_dict hT ?_);show wpAny _ _ (pure (Value.ref d)) _ _ s;refine aT ?_;show wpAny _ _ (Builtin.Dict.showsAll d>>= _) _ _ s;unfold Builtin.Dict.showsAll;refine O (ai (by refine O hd ?_;exact bE)) (ay (aT ?_));refine ay (wpAny_dictEntries ho hdat ?_);refine ay (wpAny_dictEpoch ho hdat ?_);have hsz:es.size=kvs.length:=size_of_entries hes;refine ay (wpAny_newObj_type (aT ⟨_,rfl,"dict_keyiterator",_,⟨_,c7 _ rfl,rfl⟩,F.slot_dict_keyiterator_next.lookup,?_⟩))
 simpa[rawInt,hsz]using hQ
theorem Ra {i ep:Nat} {kvs:List (List Int×Addr×Value)} {s:Shared} {E:Value->Shared->Prop} {Q:Option Value->Shared->Prop} (hit:s.heap.IsKeyIter it d i kvs.length ep)
 (hm:DictAtH B s.heap d kvs ep) (hx:kvs[i]? =some x)
 (hQ:∀h',h'.IsKeyIter it d (i+1) kvs.length ep->Heap.SameBut it s.heap h'->Q (some (.ref x.2.1)) {s with heap:=h'}):
 wpAny (model pw B.w) A (pyNext (.ref it)) Q E s:=by
 o_shape;obtain⟨o,ho,hc,hd⟩:=id hit;obtain⟨od,es,hod,hcd,hdd,hes,his,hn⟩:=id hm;pv_eval;unfold pyNext;refine ay (wpAny_attempt (wpAny_callSpecial?_slot (name:=Str.ofString "__next__") hit.typeIs F.slot_dict_keyiterator_next
  (wpAny_call_entry F.slot_dict_keyiterator_next hit.typeIs F.entry_dict_keyiterator_next ?_ (F.args_dict_keyiterator_next_1 _))))
 refine ay (aT ?_);refine ay ?_;refine ay ?_
 first|refine ay (wpAny_typeNameOfWhole_keyiter hit.typeIs (aT ?_))|refine ay (wpAny_typeNameOf_keyiter hit.typeIs (aT ?_))
 refine ay (wpAny_fieldsOf ho hd ?_);have hown:Builtin.Dict_items.ownsTuple "dict_keyiterator"=false:=by decide
 refine O hown ?_;show wpAny _ _ (if(Value.ref d==Value.none)=true then _ else _) _ _ s;refine O (ai (show¬((Value.ref d==Value.none)=true)from bE)) (ay (aT ?_));refine ay (wpAny_dictEntries hod hdd ?_);have hsz:es.size=kvs.length:=size_of_entries hes;refine O (ai (by refine O hsz ?_;simp)) (ay (aT ?_));refine ay (wpAny_dictEpoch hod hdd ?_);refine O (ai (by simp)) (aT ?_);have ee:es[i]? =some (entryOfKey (tK B) x):=by rw[entry_at hes];exact O hx rfl
 dsimp only;refine O (ai (show¬((i:Int)<0)from by exact not_lt.2 (natCast_nonneg _))) (O (show es[((i:Nat):Int).toNat]? =_ from ee) (ay ?_))
 first|refine ay (wpAny_typeNameOfWhole_keyiter hit.typeIs (aT ?_))|refine ay (wpAny_typeNameOf_keyiter hit.typeIs (aT ?_))
 refine ay (wpAny_isOneOf_keyiter hit.typeIs ?_);show wpAny _ _ (setField (.ref it) 1 (rawInt ((i:Int)+1))>>= _) _ _ s;refine ay (wpAny_setField ho hd (by simp) ?_);have hit':(s.heap.update it (Obj.mapFields (·.setIfInBounds 1 (rawInt ((i:Int)+1))))).IsKeyIter it d (i+1) kvs.length ep:=
  ⟨_,get?_update_self _ ho (Obj.isFreed_of_fields (Obj.data_mapFields hd _)),(Obj.cls_mapFields ..).trans hc,by rw[Obj.data_mapFields hd];simp[rawInt]⟩
 refine ay (wpAny_holding ?_);refine ay (wpAny_isOneOf_keyiter (s:={s with heap:=s.heap.update it (Obj.mapFields (·.setIfInBounds 1 (rawInt ((i:Int)+1))))}) hit'.typeIs ?_);show wpAny _ _ (pure (Value.ref x.2.1)) _ _ _;exact aT (aT ⟨_,rfl,aT (hQ _ hit' (Heap.SameBut.update ..))⟩)
theorem GH {kvs:List (List Int×Addr×Value)} {s:Shared} {E:Value->Shared->Prop} {Q:Option Value->Shared->Prop} (hh:A.handled=none) (hit:s.heap.IsKeyIter it d i kvs.length ep)
 (hm:DictAtH B s.heap d kvs ep) (hx:kvs.length<=i)
 (hQ:∀h',Heap.ExtBut it s.heap h'->Q none {s with heap:=h'}):wpAny (model pw B.w) A (pyNext (.ref it)) Q E s:=by
 o_shape;obtain⟨o,ho,hc,hd⟩:=id hit;obtain⟨od,es,hod,hcd,hdd,hes,his,hn⟩:=id hm;pv_eval;unfold pyNext;refine ay (wpAny_attempt (wpAny_callSpecial?_slot (name:=Str.ofString "__next__") hit.typeIs F.slot_dict_keyiterator_next
  (wpAny_call_entry F.slot_dict_keyiterator_next hit.typeIs F.entry_dict_keyiterator_next ?_ (F.args_dict_keyiterator_next_1 _))))
 refine ay (aT ?_);refine ay ?_;refine ay ?_
 first|refine ay (wpAny_typeNameOfWhole_keyiter hit.typeIs (aT ?_))|refine ay (wpAny_typeNameOf_keyiter hit.typeIs (aT ?_))
 refine ay (wpAny_fieldsOf ho hd ?_);have hown:Builtin.Dict_items.ownsTuple "dict_keyiterator"=false:=by decide
 refine O hown ?_;show wpAny _ _ (if(Value.ref d==Value.none)=true then _ else _) _ _ s;refine O (ai (show¬((Value.ref d==Value.none)=true)from bE)) (ay (aT ?_));refine ay (wpAny_dictEntries hod hdd ?_);have hsz:es.size=kvs.length:=size_of_entries hes;refine O (ai (by refine O hsz ?_;simp)) (ay (aT ?_));refine ay (wpAny_dictEpoch hod hdd ?_);refine O (ai (by simp)) (aT ?_);have hge:es.size<=i:=by exact O hsz hx
 dsimp only;refine O (ai (show¬((i:Int)<0)from by exact not_lt.2 (natCast_nonneg _))) (O (show es[((i:Nat):Int).toNat]? =_ from Array.getElem?_eq_none hge) (ay ?_))
 first|refine ay (wpAny_typeNameOfWhole_keyiter hit.typeIs (aT ?_))|refine ay (wpAny_typeNameOf_keyiter hit.typeIs (aT ?_))
 show wpAny _ _ (setField (.ref it) 0 .none>>= _) _ _ s;refine ay (wpAny_setField ho hd (by simp) ?_);show wpAny _ _ (newExc (.type "StopIteration") []>>= _) _ _ _;refine ay ?_;simp only[newExc,newTuple];refine ay (wpAny_newObj_type ?_ (by size_fits));refine ay (m:=firstArgMember _ _) (wpAny_of_eq (a:=Value.none) (by first|rfl|(simp only[firstArgMember];rfl)) ?_);refine wpAny_newObj_type ?_ (by size_fits);unfold raiseNew;refine ay (wpAny_handled ?_);refine O (show A.in1.handled=none from hh) (ay (aT (wpAny_throw ?_)));refine ay (wpAny_isInstance (T:="StopIteration") (b:=true) ⟨_,c7 _ rfl,rfl⟩ isSubtype_stop ?_);exact aT (hQ _ (((Heap.SameBut.update ..).extBut.push _).push _))
theorem Hl (hA:A.handled=none) (p I:Addr) (kvs:List (List Int×IV)) (ep:Nat) (hk:∀q∈kvs,q.1.length<64):ItOk B A (kvs.map λq=>.tup (q.1.map IV.int)) (λV=>V p=some (.tdict kvs ep)) I (λi h=>h.IsKeyIter I p i kvs.length ep)where
 frame:=λi h h' zq k=>by obtain⟨o,ho,r⟩:=zq;exact⟨o,k _ _ ho (.inl rfl),r⟩
 live:=λi h ⟨o,ho,hc,hd⟩=>⟨o,ho,λzq=>by obtain⟨_,its,n,e⟩:=zq;rw[hd]at e;cases e⟩
 item:=λi x s V hx j st al nf nb Q q=>by
  o_shape;obtain⟨kvs',g,r,hl⟩:=st.ro _ _ al;obtain⟨⟨k,y⟩,hy,rfl⟩:=map_eq_some_iff.mp (Oe aQ hx);pv_eval;have hlen:=r.length;have hi:i<kvs'.length:=by exact O hlen (List.getElem?_eq_some_iff.mp hy).1
  have hkey:kvs'[i].1=k:=by
   have:∀{l:List (List Int×Addr×Value)} {l':List (List Int×IV)},KVR3 B s.heap l l'->l.map (·.1)=l'.map (·.1):=λ{l l'} r=>by
    induction r with
    |nil=>rfl
    |cons _ _ ih=>simp[ih]
   have h1:(kvs'.map (·.1))[i]? =(kvs.map (·.1))[i]? :=by exact O (this r) rfl
   rw[getElem?_map,getElem?_map,hy,getElem?_eq_getElem hi]at h1
   simpa using h1
  rw[<-hlen]at j;refine Ra j g (c8 hi) λh' j' sb=>?_;rw[hlen]at j';o_shape;obtain⟨o,es,ho,hc,hdat,hes,his,hn⟩:=g;obtain⟨o',its,n',ho',hc',hd',ia⟩:=his _ (List.getElem_mem hi);obtain⟨oi,hoi,hci,hdi⟩:=j;pv_eval;have tt:=jA st hoi (λzq=>by obtain⟨_,its,n,e⟩:=zq;rw[hdi]at e;cases e) sb.2;rw[hkey]at ia;have l1:=ItemsAre.len ia;exact q _ h' s.toks ⟨_,its,rfl,⟨o',tt _ _ ho' ⟨hc',its,n',hd'⟩,hc',n',hd'⟩,VRs.of_items ia,by
   have:k.length<64:=hk _ (aF hy);show(List.map IV.int k).length<1000000;exact O (aE ..) (lt_of_lt_of_le ‹_› (by decide))⟩ j' sb.2
 self:=λi s j Q E q=>wpAny_pyIter_keyiter j q
 lets:=λi s j target v Q E q=>letGo_keyiter j q
 fin:=λs V j st al Q q=>by
  obtain⟨kvs',g,r,hl⟩:=st.ro _ _ al;rw[<-r.length]at j;refine GH hA j g ?_ λh' eb=>q h' s.toks (λb o hb e=>eb b o hb e);exact O r.length (O (aE ..) (aY _))
end
theorem CL:Manifest.owners.lookup (String.ofList ['d','e','s','r','e','v','e','r'].reverse)=some Manifest.sig_reversed:=by kernel_rfl
theorem slot_rev_next:Slot "reversed" "__next__" "reversed.__next__":=
 .of (owner:="reversed") (n:="__next__") (by refine O (typeLookup_type ..) (O builtinLookup_eq_fast ?_);kernel_rfl) (by decide+kernel) (by decide+kernel) (by decide+kernel)
  (by first|exact .inl (by decide+kernel)|exact .inr (by decide+kernel)) (by refine O (isSubtype_type ..) ?_;kernel_rfl)
theorem zg:entryFor table "reversed.__next__"=some Builtin.«reversed.__next__»:=entryFor_of_tree (by kernel_rfl)
theorem yE (a:Value):argsOk "reversed.__next__" ⟨[a],[]⟩:=by
 unfold argsOk;refine O (signature?_of (id:="reversed.__next__") (n:=['_','_','t','x','e','n','_','_']) (o:=['d','e','s','r','e','v','e','r']) (by kernel_rfl) CL) ?_;kernel_rfl
theorem Dp:Slot "reversed" "__iter__" "reversed.__iter__":=
 .of (owner:="reversed") (n:="__iter__") (by refine O (typeLookup_type ..) (O builtinLookup_eq_fast ?_);kernel_rfl) (by decide+kernel) (by decide+kernel) (by decide+kernel)
  (by first|exact .inl (by decide+kernel)|exact .inr (by decide+kernel)) (by refine O (isSubtype_type ..) ?_;kernel_rfl)
theorem Eb (a:Value):argsOk "reversed.__iter__" ⟨[a],[]⟩:=by
 unfold argsOk;refine O (signature?_of (id:="reversed.__iter__") (n:=['_','_','r','e','t','i','_','_']) (o:=['d','e','s','r','e','v','e','r']) (by kernel_rfl) CL) ?_;kernel_rfl
theorem GI:entryFor table "reversed.__iter__"=some Builtin.«dict_keyiterator.__iter__»:=
 entryFor_alias (id':="dict_keyiterator.__iter__") (by kernel_rfl) (by first|rfl|decide+kernel|(unfold String.splitOn;simp +decide [String.splitOnAux])) (by decide+kernel) (by kernel_rfl)
theorem T7:Slot "reversed" "__init__" "object.__init__":=
 .of (owner:="object") (n:="__init__") (by refine O (typeLookup_type ..) (O builtinLookup_eq_fast ?_);kernel_rfl) (by decide+kernel) (by decide+kernel) (by decide+kernel)
  (by first|exact .inl (by decide+kernel)|exact .inr (by decide+kernel)) (by refine O (isSubtype_type ..) ?_;kernel_rfl)
theorem F3:TypeCalled "reversed" "reversed.__new__" "object.__init__":=
 ⟨by decide+kernel,F.create_reversed,⟨_,_,F.mro_reversed⟩,F.made_reversed,F.plain_reversed_new,F.sub_reversed_self,T7⟩
theorem HX:typeLookup (.type "tuple") "__reversed__"=pure none:=by refine O (typeLookup_type ..) (O builtinLookup_eq_fast ?_);kernel_rfl
theorem UZ:isSubtype (.type "tuple") (.type "dict")=pure false:=by refine O (isSubtype_type ..) ?_;kernel_rfl
theorem PF (p:Addr) (its:Array Value):Meets (Builtin.«reversed.__new__» ⟨[.type "reversed",.ref p],[]⟩) (λ_ R s=>s.heap.IsTuple p its/\its.size<1000000/\∀tk,
 R (.ok (.ret (.ref s.heap.objs.size))) {s with heap:=s.heap.push {cls:=.type "reversed",data:=.fields #[.ref p,rawInt ((its.size:Int) -1)]},toks:=tk}):=by
 refine Meets.of_wp λprog w A R s hs=>?_;obtain⟨t,l,hR⟩:=hs;unfold Builtin.«reversed.__new__»;refine ay (wpAny_of_eq (newClass_reversed _) ?_)
 try dsimp only
 refine ay (wpAny_of_eq (a:=()) (by first|rfl|kernel_rfl) ?_);refine ay (wpAny_of_eq (a:=()) (by first|rfl|kernel_rfl) ?_)
 try dsimp only
 refine ay (wpAny_specialOf t.typeIs HX ?_)
 try dsimp only
 refine ay ?_;show wpAny _ _ (isInstance (.ref p) (.type "dict")>>= _) _ _ s;refine ay (wpAny_isInstance t.typeIs UZ ?_)
 try dsimp only
 refine O (ai bE) (ay (wpAny_specialOf t.typeIs F.slot_tuple_getitem.lookup ?_))
 try dsimp only
 refine O (ax (by decide)) (aT ?_)
 try dsimp only
 first|refine O (ai (by decide)) ?_|skip
 refine ay (PyProof.Rows.len_tuple t (by lia) ?_);refine ay (wpAny_of_eq (a:=some ((its.size:Int))) rfl ?_)
 try dsimp only
 refine ay (m:=Builtin.SmallTypes.newRecord _ _) ?_;unfold Builtin.SmallTypes.newRecord
 try dsimp only
 exact wpAny_newObj_type (aT ⟨_,rfl,hR _⟩)
section
variable{B:Bs} {A:Around}
theorem F2 {E:Value->Shared->Prop} {its:Array Value} {s:Shared} {Q:Value->Shared->Prop} (t:s.heap.IsTuple p its) (l:its.size<1000000)
 (q:∀tk,Q (.ref s.heap.objs.size) {s with heap:=s.heap.push {cls:=.type "reversed",data:=.fields #[.ref p,rawInt ((its.size:Int) -1)]},toks:=tk}):
 wpAny (model pw B.w) A (call (.type "reversed") [.ref p]) Q E s:=
 callType_new F3 (by decide) (F.typeCall_reversed_1 _) (F.newCall_reversed_1 _) (λobj=>F.args_object_init_2 obj _) F.entry_reversed_new (PF p its)
  ⟨t,l,λtk=>⟨⟨_,c7 _ rfl,rfl⟩,q tk⟩⟩
def IsRevTup (h:Heap) (I p:Addr) (i:Int):Prop:=∃o,h.get? I=some o/\o.cls=.type "reversed"/\o.data=.fields #[.ref p,rawInt i]
theorem IsRevTup.typeIs {s:Shared} (x:IsRevTup s.heap I p i):s.TypeIs (.ref I) "reversed":=x.elim λo h=>⟨o,h.1,h.2.1⟩
theorem zB {E:Value->Shared->Prop} {s:Shared} {Q:Value->Shared->Prop} (hit:IsRevTup s.heap I p i) (h:Q (.ref I) s):wpAny (model pw B.w) A (pyIter (.ref I)) Q E s:=by
 refine wpAny_pyIter_slot hit.typeIs Dp (wpAny_call_entry Dp hit.typeIs GI ?_ (Eb _));show wpAny _ _ (ret (.ref I)) _ _ s;exact aT ⟨_,rfl,"reversed",_,hit.typeIs,slot_rev_next.lookup,h⟩
theorem Q9 {E:Value->Shared->Prop} {i:Nat} {its:Array Value} {s:Shared} {Q:Option Value->Shared->Prop} (hit:IsRevTup s.heap I p (i:Int)) (t:s.heap.IsTuple p its) (ne:p≠I) (l:its.size<1000000) (hx:its[i]? =some x)
 (q:∀h' tk,IsRevTup h' I p ((i:Int) -1)->Heap.SameBut I s.heap h'->Q (some x) {s with heap:=h',toks:=tk}):wpAny (model pw B.w) A (pyNext (.ref I)) Q E s:=by
 obtain⟨o,ho,hc,hd⟩:=id hit;unfold pyNext;refine ay (wpAny_attempt (wpAny_callSpecial?_slot (name:=Str.ofString "__next__") hit.typeIs slot_rev_next
  (wpAny_call_entry slot_rev_next hit.typeIs zg ?_ (yE _))))
 unfold Builtin.«reversed.__next__»;refine ay (wpAny_of_eq (a:=(Value.ref I,[])) rfl ?_)
 try dsimp only
 refine ay (wpAny_field ho hd (x:=.ref p) rfl ?_);refine ay (wpAny_field ho hd (x:=rawInt (i:Int)) rfl ?_);show wpAny _ _ (if(i:Int)<0 then _ else _) _ _ s;refine O (ai (by lia)) (ay (wpAny_specialOf t.typeIs F.slot_tuple_getitem.lookup ?_))
 try dsimp only
 have hi:i<its.size:=(Array.getElem?_eq_some_iff.mp hx).1;refine O (ai (show¬((some (Value.builtin "tuple.__getitem__")).isNone=true)from bE)) (ay (wpAny_mkInt ?_));refine ay (wpAny_attempt (PyProof.Rows.getItem_tuple (j:=i) (x:=x) t (by lia) (by lia) (by unfold seqIndex?;rw[if_neg (not_lt.2 (natCast_nonneg i))];exact O (ax (O (and_eq_true ..) (O decide_eq_true_eq (O decide_eq_true_eq ⟨natCast_nonneg i,ofNat_lt.2 hi⟩)))) rfl) hx ?_))
 try dsimp only
 refine ay (wpAny_field (s:={s with toks:=s.toks+1}) ho hd (x:=rawInt (i:Int)) rfl ?_);show wpAny _ _ (setField (.ref I) 1 (rawInt ((i:Int) -1))>>= _) _ _ _;refine ay (wpAny_setField (s:={s with toks:=s.toks+1}) ho hd (by simp) (aT ⟨x,rfl,aT (q _ _ ?_ (Heap.SameBut.update ..))⟩));exact⟨_,get?_update_self _ ho (Obj.isFreed_of_fields (Obj.data_mapFields hd _)),(Obj.cls_mapFields ..).trans hc,by
  rw[Obj.data_mapFields hd];simp⟩
theorem GF {E:Value->Shared->Prop} {s:Shared} {Q:Option Value->Shared->Prop} (hh:A.handled=none) (hit:IsRevTup s.heap I p (-1))
 (hQ:∀h',Heap.ExtBut I s.heap h'->Q none {s with heap:=h'}):wpAny (model pw B.w) A (pyNext (.ref I)) Q E s:=by
 obtain⟨o,ho,hc,hd⟩:=id hit;unfold pyNext;refine ay (wpAny_attempt (wpAny_callSpecial?_slot (name:=Str.ofString "__next__") hit.typeIs slot_rev_next
  (wpAny_call_entry slot_rev_next hit.typeIs zg ?_ (yE _))))
 unfold Builtin.«reversed.__next__»;refine ay (wpAny_of_eq (a:=(Value.ref I,[])) rfl ?_)
 try dsimp only
 refine ay (wpAny_field ho hd (x:=.ref p) rfl ?_);refine ay (wpAny_field ho hd (x:=rawInt (-1)) rfl ?_);show wpAny _ _ (if(-1:Int)<0 then _ else _) _ _ s;refine O (ax (by decide)) (ay (wpAny_rule ?_));refine ay ?_;show wpAny _ _ (setField (.ref I) 1 (rawInt (-1))>>= _) _ _ _;refine ay (wpAny_setField ho hd (by simp) ?_);have ho2:=get?_update_self (Obj.mapFields (·.setIfInBounds 1 (rawInt (-1)))) ho (Obj.isFreed_of_fields (Obj.data_mapFields hd _));refine wpAny_setField (s:={s with heap:=_}) ho2 (Obj.data_mapFields hd _) (succ_pos _) ?_
 first
 |show wpAny _ _ (newExc (.type "StopIteration") []>>= _) _ _ _
 |(refine ay ?_;show wpAny _ _ (newExc (.type "StopIteration") []>>= _) _ _ _)
 refine ay ?_;simp only[newExc,newTuple];refine ay (wpAny_newObj_type ?_ (by size_fits));refine ay (m:=firstArgMember _ _) (wpAny_of_eq (a:=Value.none) (by first|rfl|(simp only[firstArgMember];rfl)) ?_);refine wpAny_newObj_type ?_ (by size_fits);unfold raiseNew;refine ay (wpAny_handled ?_)
 first|refine O (show A.in1.handled=none from hh) ?_|rw[hh]
 refine ay (aT (wpAny_throw ?_));refine ay (wpAny_isInstance (T:="StopIteration") (b:=true) ⟨_,c7 _ rfl,rfl⟩ isSubtype_stop ?_);exact aT (hQ _ ((((Heap.SameBut.update ..).trans (Heap.SameBut.update ..)).extBut.push _).push _))
theorem Hj (hA:A.handled=none) (p I:Addr) {its:Array Value} {xs:List IV} (l:xs.length<1000000):
 ItOk B A xs.reverse (λ_=>True) I (λi h=>IsRevTup h I p ((xs.length:Int) -1 -i)/\h.IsTuple p its/\VRs B h its.toList xs)where
 frame:=λi h h' zq k=>by obtain⟨⟨o,ho,r⟩,t,z⟩:=zq;exact⟨⟨o,k _ _ ho (.inl rfl),r⟩,jH t λo e c=>k _ _ e (.inr c),z.mono λa o e c=>k _ _ e (.inr c)⟩
 live:=λi h ⟨⟨o,ho,hc,hd⟩,_⟩=>⟨o,ho,λzq=>by obtain⟨_,its,n,e⟩:=zq;rw[hd]at e;cases e⟩
 item:=λi x s V hx j st al nf nb Q q=>by
  obtain⟨j,t,z⟩:=j;have hi:i<xs.length:=by
   have:=(List.getElem?_eq_some_iff.mp hx).1
   simpa using this
  obtain⟨v,hv,rv⟩:=z.get (Oe (getElem?_reverse hi) hx);have ei:((xs.length:Int) -1 -i)=((xs.length -1 -i:Nat):Int):=by exact O (sub_sub ..) (O (ofNat_sub (by lia)) (O (Int.sub_sub ..) rfl))
  rw[ei]at j;have lz:=z.length;rw[length_toList]at lz;obtain⟨o,ho,hc,hd⟩:=id j;have ne:p≠I:=by
   rintro rfl;obtain⟨o2,ho2,hc2,_⟩:=t;obtain rfl:=Os ho ho2;exact absurd (Oe hc hc2) (by decide)
  refine Q9 j t ne (by lia) (x:=v) (by simpa using hv) λh' tk j' sb=>?_;have tt:=jA st ho (λzq=>by obtain⟨_,its,n,e⟩:=zq;rw[hd]at e;cases e) sb.2;refine q v h' tk (rv.mono tt) ⟨?_,jH t λo e c=>tt _ _ e c,z.mono tt⟩ sb.2;have ej:(((xs.length -1 -i:Nat):Int) -1)=((xs.length:Int) -1 -((i+1:Nat):Int)):=by refine Ob ei ?_;lia
  rw[ej]at j';exact j'
 self:=λi s j Q E q=>zB j.1 q
 lets:=λi s j target v Q E q=>let⟨o,ho,hc,hd⟩:=j.1;r8 ho hc hd (by decide) q
 fin:=λs V j st al Q q=>by
  have ei:((xs.length:Int) -1 -(xs.reverse.length:Nat))= -1:=by refine O length_reverse ?_;lia
  rw[ei]at j;exact GF hA j.1 λh' eb=>q h' s.toks (λb o hb e=>eb b o hb e)
theorem Te {E:Value->Shared->Prop} (hA:A.handled=none) {its:Array Value} {xs:List IV} {s:Shared} (x:St B V s) (t:s.heap.IsTuple p its) (r:VRs B s.heap its.toList xs) (l:xs.length<1000000) (Q:Value->Shared->Prop)
 (q:∀h' tk I J,(∀b o,s.heap.get? b=some o->h'.get? b=some o)->s.heap.get? I=none->ItOk B A xs.reverse (λ_=>True) I J->J 0 h'->Q (.ref I) {s with heap:=h',toks:=tk}):
 wpAny (model pw B.w) A (call (.type "reversed") [.ref p]) (λv s1=>wpAny (model pw B.w) A (pyIter v) Q E s1) E s:=by
 have lz:=r.length;rw[length_toList]at lz;refine F2 t (by lia) λtk=>?_;have j:IsRevTup (s.heap.push {cls:=.type "reversed",data:=.fields #[.ref p,rawInt ((its.size:Int) -1)]}) s.heap.objs.size p ((its.size:Int) -1):=⟨_,c7 _ rfl,rfl,rfl⟩;refine zB (s:={s with heap:=_,toks:=tk}) j ?_;refine q _ tk _ _ (λb o e=>cP _ e) (fN x) (Hj hA p _ l) ⟨?_,t.push _,r.mono λa o e _=>cP _ e⟩;have e:((xs.length:Int) -1 -((0:Nat):Int))=(its.size:Int) -1:=by lia
 exact O e j
end
section
variable{B:Bs} {A:Around}
theorem Hh (hA:A.handled=none) (p I:Addr) (xs:List IV):ItOk B A xs (λV=>V p=some (.list xs)) I (λi h=>h.IsListIter I p i)where
 frame:=λi h h' zq k=>by obtain⟨o,ho,r⟩:=zq;exact⟨o,k _ _ ho (.inl rfl),r⟩
 live:=λi h ⟨o,ho,hc,hd⟩=>⟨o,ho,λzq=>by obtain⟨_,its,n,e⟩:=zq;rw[hd]at e;cases e⟩
 item:=λi x s V hx j st al nf nb Q q=>by
  refine(st.ro _ _ al).isList λvs g r hl=>?_;obtain⟨v,hv,rv⟩:=r.get hx;refine wpAny_pyNext_list_item j g (x:=v) (by simpa using hv) λh' j' sb=>?_;obtain⟨o,ho,hc,hd⟩:=j;exact q v h' s.toks (rv.mono (jA st ho (λzq=>by obtain⟨_,its,n,e⟩:=zq;rw[hd]at e;cases e) sb.2)) j' sb.2
 self:=λi s j Q E q=>wpAny_pyIter_listiter j q
 lets:=λi s j target v Q E q=>letGo_listiter j q
 fin:=λs V j st al Q q=>by
  refine(st.ro _ _ al).isList λvs g r hl=>?_;refine wpAny_pyNext_list_end hA j g ?_ λh' eb=>q h' s.toks (λb o hb e=>eb b o hb e);refine Ob getElem?_toList ?_;exact dv (O r.length (aY _))
theorem Hi (hA:A.handled=none) (p I:Addr) (xs:List IV):ItOk B A xs.reverse (λV=>V p=some (.list xs)) I (λi h=>h.IsRevIter I p ((xs.length:Int) -1 -i))where
 frame:=λi h h' j k=>by obtain⟨o,ho,r⟩:=j;exact⟨o,k _ _ ho (.inl rfl),r⟩
 live:=λi h ⟨o,ho,hc,hd⟩=>⟨o,ho,λzq=>by obtain⟨_,its,n,e⟩:=zq;rw[hd]at e;cases e⟩
 item:=λi x s V hx j st al nf nb Q q=>by
  refine(st.ro _ _ al).isList λvs g r hl=>?_;have hi:i<xs.length:=by
   have:=(List.getElem?_eq_some_iff.mp hx).1
   simpa using this
  obtain⟨v,hv,rv⟩:=r.get (Oe (getElem?_reverse hi) hx);have ei:((xs.length:Int) -1 -i)=((xs.length -1 -i:Nat):Int):=by exact O (sub_sub ..) (O (ofNat_sub (by lia)) (O (Int.sub_sub ..) rfl))
  rw[ei]at j;refine wpAny_pyNext_rev_item j g (x:=v) (by simpa using hv) λh' j' sb=>?_;obtain⟨o,ho,hc,hd⟩:=j;refine q v h' s.toks (rv.mono (jA st ho (λzq=>by obtain⟨_,its,n,e⟩:=zq;rw[hd]at e;cases e) sb.2)) ?_ sb.2;have ej:(((xs.length -1 -i:Nat):Int) -1)=((xs.length:Int) -1 -((i+1:Nat):Int)):=by refine Ob ei ?_;lia
  rw[ej]at j';exact j'
 self:=λi s j Q E q=>wpAny_pyIter_revIter j q
 lets:=λi s j target v Q E q=>let⟨o,ho,hc,hd⟩:=j;r8 ho hc hd (by decide) q
 fin:=λs V j st al Q q=>by
  have ei:((xs.length:Int) -1 -(xs.reverse.length:Nat))= -1:=by refine O length_reverse ?_;lia
  rw[ei]at j;exact wpAny_pyNext_rev_end hA j λh' eb=>q h' s.toks (λb o hb e=>eb b o hb e)
theorem Hm (hA:A.handled=none) (p I:Addr) {its:Array Value} {s₀:Shared} (x0:St B V₀ s₀) (r:VRs B s₀.heap its.toList xs):
 ItOk B A xs (λ_=>True) I (λi h=>h.IsTupleIter I p i/\h.IsTuple p its/\VRs B h its.toList xs)where
 frame:=λi h h' zq k=>by obtain⟨⟨o,ho,r⟩,t,z⟩:=zq;exact⟨⟨o,k _ _ ho (.inl rfl),r⟩,jH t λo e c=>k _ _ e (.inr c),z.mono λa o e c=>k _ _ e (.inr c)⟩
 live:=λi h ⟨⟨o,ho,hc,hd⟩,_⟩=>⟨o,ho,λzq=>by obtain⟨_,its,n,e⟩:=zq;rw[hd]at e;cases e⟩
 item:=λi x s V hx j st al nf nb Q q=>by
  obtain⟨j,t,z⟩:=j;obtain⟨v,hv,rv⟩:=z.get hx;refine wpAny_pyNext_tuple_item j t (x:=v) (by simpa using hv) λh' j' sb=>?_;obtain⟨o,ho,hc,hd⟩:=j;have tt:=jA st ho (λzq=>by obtain⟨_,its,n,e⟩:=zq;rw[hd]at e;cases e) sb.2;exact q v h' s.toks (rv.mono tt) ⟨j',jH t λo e c=>tt _ _ e c,z.mono tt⟩ sb.2
 self:=λi s j Q E q=>wpAny_pyIter_tupleiter j.1 q
 lets:=λi s j target v Q E q=>letGo_tupleiter j.1 q
 fin:=λs V j st al Q q=>by
  obtain⟨j,t,z⟩:=j;refine wpAny_pyNext_tuple_end hA j t ?_ λh' eb=>q h' s.toks (λb o hb e=>eb b o hb e);refine Ob getElem?_toList ?_;exact dv (O z.length (aY _))
theorem Hg (hA:A.handled=none) (p I:Addr) (kvs:List (Int×IV)) (ep:Nat):ItOk B A (kvs.map λq=>.int q.1) (λV=>V p=some (.idict kvs ep)) I (λi h=>h.IsKeyIter I p i kvs.length ep)where
 frame:=λi h h' zq k=>by obtain⟨o,ho,r⟩:=zq;exact⟨o,k _ _ ho (.inl rfl),r⟩
 live:=λi h ⟨o,ho,hc,hd⟩=>⟨o,ho,λzq=>by obtain⟨_,its,n,e⟩:=zq;rcases(Oe hd e)⟩
 item:=λi x s V hx j st al nf nb Q q=>by
  obtain⟨kvs',g,r,hl⟩:=st.ro _ _ al;obtain⟨⟨k,y⟩,hk,rfl⟩:=map_eq_some_iff.mp (Oe aQ hx);have hlen:=r.length;have hi:i<kvs'.length:=by exact O hlen (List.getElem?_eq_some_iff.mp hk).1
  have hkey:kvs'[i].1=k:=by
   have h1:(kvs'.map (·.1))[i]? =(kvs.map (·.1))[i]? :=by exact O r.keys rfl
   rw[getElem?_map,getElem?_map,hk,getElem?_eq_getElem hi]at h1
   simpa using h1
  rw[<-hlen]at j;refine wpAny_pyNext_dict_item (knd:=iK B) j g (k:=k) (v:=kvs'[i].2) (O (c8 hi) (Ob hkey rfl)) λkey h' hk' j' sb=>?_;obtain⟨t,rfl⟩:=Value.isInt_shape hk';rw[hlen]at j';exact q _ h' s.toks (VR_int.mpr ⟨t,rfl⟩) j' sb.2
 self:=λi s j Q E q=>wpAny_pyIter_keyiter j q
 lets:=λi s j target v Q E q=>letGo_keyiter j q
 fin:=λs V j st al Q q=>by
  obtain⟨kvs',g,r,hl⟩:=st.ro _ _ al;rw[<-r.length]at j;refine wpAny_pyNext_dict_end (knd:=iK B) hA j g ?_ λh' eb=>q h' s.toks (λb o hb e=>eb b o hb e);exact dv (O r.length (O (aE ..) (aY _)))
theorem Hk (hA:A.handled=none) (I:Addr) (n:Nat):ItOk B A ((List.range n).map λi=>.int (i:Nat)) (λ_=>True) I (λi h=>IsRangeIter h I (i:Nat) ((n:Int) -(i:Nat)) 1)where
 frame:=λi h h' j k=>k _ _ j (.inl rfl)
 live:=λi h j=>⟨_,j,λzq=>by obtain⟨_,its,n,e⟩:=zq;rcases e⟩
 item:=λi x s V hx j st al nf nb Q q=>by
  obtain⟨k,hk,rfl⟩:=map_eq_some_iff.mp (Oe aQ hx);obtain⟨hi,e⟩:=List.getElem?_eq_some_iff.mp hk;rw[List.getElem_range]at e;subst e;rw[length_range]at hi;refine wpAny_pyNext_range_item j (by lia) λh' j' sb=>q _ h' _ (VR_int.mpr ⟨_,rfl⟩) ?_ sb.2;have e1:((i:Int)+1)=((i+1:Nat):Int):=by rfl
  have e2:((n:Int) -(i:Nat) -1)=((n:Int) -((i+1:Nat):Int)):=by lia
  rw[e1,e2]at j';exact j'
 self:=λi s j Q E q=>wpAny_pyIter_rangeiter j q
 lets:=λi s j target v Q E q=>r8 j rfl rfl (by decide) q
 fin:=λs V j st al Q q=>by
  refine wpAny_pyNext_range_end hA j (by simp) λh' eb=>q h' s.toks (λb o hb e=>eb b o hb e)
def MkIt (B:Bs) (A:Around) (k:IK) (v:Value) (R:Value->Shared->Prop) (s:Shared):Prop:=match k with
 |.it=>R v s
 |.rng=>wpAny (model pw B.w) A (call (.type "range") [v]) R aA s
 |.rev=>wpAny (model pw B.w) A (call (.type "reversed") [v]) R aA s
theorem MkIt.mono {R R':Value->Shared->Prop} (h:MkIt B A k v R s) (m:∀v s,R v s->R' v s):MkIt B A k v R' s:=by
 induction k with
 |it=>exact m _ _ h
 |rng=>exact bK h (λv s=>m v s) λ_ _ e=>e
 |rev=>exact bK h (λv s=>m v s) λ_ _ e=>e
theorem T8 (h:n<1000000) (h': -1000000<n):Builtin.Range.small 0 n 1=true:=by
 unfold Builtin.Range.small Builtin.Range.rangeSize Builtin.Range.rangeFitsLong;simp only[and_eq_true,or_eq_true,decide_eq_true_eq,beq_iff_eq];by_cases q:(0:Int)<n
 .refine O (ax (by decide)) (O (ax q) ?_);have e:(n -0 -1)/1+1=n:=by refine O (Int.ediv_one ..) ?_;lia
  refine O e ⟨⟨⟨⟨⟨by decide,by decide⟩,by lia,by lia⟩,by decide⟩,by lia,by lia⟩,.inr ?_⟩;refine O (ax (by decide)) ?_;simp;lia
 .exact O (ax (by decide)) (O (ai q) ⟨⟨⟨⟨⟨by decide,by decide⟩,by lia,by lia⟩,by decide⟩,by decide⟩,.inl rfl⟩)
inductive ItR (B:Bs) (A:Around) (K:List IV->(IH->Prop)->IH->Prop) (V:IH) (s:Shared) (it:Value) (s₂:Shared):Prop
 |mk (xs:List IV) (alive:IH->Prop) (I:Addr) (J:Nat->Heap->Prop) (e:it=.ref I) (k:K xs alive V) (io:ItOk B A xs alive I J) (j:J 0 s₂.heap) (x:St B V s₂) (l:xs.length<1000000)
  (kp:∀b o,s.heap.get? b=some o->s₂.heap.get? b=some o) (n:s.heap.get? I=none) (tk:Nat) (e':s₂={s with heap:=s₂.heap,toks:=tk})
theorem By {K:List IV->(IH->Prop)->IH->Prop} {s:Shared} (hB:Base B) (hA:A.handled=none) (x:St B V s) (r:VR B s.heap v a) (q:itI k a K V):
 MkIt B A k v (λv1 s1=>wpAny (model pw B.w) A (pyIter v1) (ItR B A K V s) aA s1) s:=by
 have fin:∀{s₂:Shared} {xs alive I J} (kp:∀b o,s.heap.get? b=some o->s₂.heap.get? b=some o) (tk:Nat),s₂={s with heap:=s₂.heap,toks:=tk}->K xs alive V->ItOk B A xs alive I J->J 0 s₂.heap->xs.length<1000000->s.heap.get? I=none->
  ItR B A K V s (.ref I) s₂:=λ{s₂ xs alive I J} kp tk e hk io j l hn=>by
  refine⟨xs,alive,I,J,rfl,hk,io,j,?_,l,kp,hn,tk,e⟩;exact O e (x.pres (s':={s with heap:=s₂.heap,toks:=tk}) (Pres.ofKeeps kp) rfl rfl)
 have kpp:∀(o:Obj) b o',s.heap.get? b=some o'->(s.heap.push o).get? b=some o':=λo b o' e=>cP _ e;rcases q with⟨p,xs,rfl,rfl,e1,q⟩|⟨p,kvs,ep,rfl,rfl,e1,q⟩|⟨p,kvs,ep,rfl,rfl,e1,ql,q⟩|⟨xs,rfl,rfl,q⟩|⟨n,rfl,rfl,q1,q2,q⟩|⟨p,xs,rfl,rfl,e1,q⟩|⟨xs,rfl,rfl,q⟩
 .obtain rfl:=r;refine(x.ro _ _ e1).isList λvs g r hl=>?_;exact wpAny_pyIter_list g (fin (kpp _) s.toks rfl q (Hh hA _ _ xs) ⟨_,c7 _ rfl,rfl,rfl⟩ hl (fN x))
 .obtain rfl:=r;obtain⟨kvs',g,r,hl⟩:=x.ro _ _ e1;refine wpAny_pyIter_dict (knd:=iK B) (x.notMods e1 hB.mods) g (fin (kpp _) s.toks rfl q (Hg hA _ _ kvs ep) ⟨_,c7 _ rfl,rfl,by simp[r.length]⟩ (by simpa using hl) (fN x))
 .obtain rfl:=r;obtain⟨kvs',g,r,hl⟩:=x.ro _ _ e1;refine Ho (x.notMods e1 hB.mods) g (fin (kpp _) s.toks rfl q (Hl hA _ _ kvs ep ql) ⟨_,c7 _ rfl,rfl,by simp[r.length]⟩ (by simpa using hl) (fN x))
 .obtain⟨p,its,rfl,t,z,hl⟩:=r;exact wpAny_pyIter_tuple t (fin (kpp _) s.toks rfl q (Hm hA _ _ x z) ⟨⟨_,c7 _ rfl,rfl,rfl⟩,t.push _,z.mono λa o e _=>cP _ e⟩ hl (fN x))
 .obtain⟨t,eQ⟩:=r;obtain rfl:=eQ.symm;refine call_range_1 ?_
  .refine wpAny_pyIter_range (a:=0) (b:=n) (c:=1) (c7 _ rfl) (T8 q1 q2) ?_;have kp2:∀b o',s.heap.get? b=some o'->((s.heap.push {cls:=Value.type "range",data:=Data.fields #[Value.int 0 s.toks,Value.int n t,Value.int 1 (s.toks+1)]}).push {cls:=.type "range_iterator",data:=.fields #[rawInt 0,rawInt (Builtin.Range.rangeSize 0 n 1),rawInt 1]}).get? b=some o':=
    λb o' e=>cP _ (cP _ e)
   have dead:s.heap.get? (s.heap.objs.size+1)=none:=get?_none_of_le (le_add_right _ _);refine fin (s₂:={s with heap:=_,toks:=_}) (I:=_) kp2 _ rfl q (Hk hA _ n.toNat) ?_ (by simp;assumption) (O (size_push ..) dead);have e1:Builtin.Range.rangeSize 0 n 1=((n.toNat:Nat):Int) -((0:Nat):Int):=by
    unfold Builtin.Range.rangeSize;refine O (ax (by decide)) ?_;by_cases h0:(0:Int)<n
    .refine O (ax h0) (O (Int.ediv_one ..) ?_);lia
    .refine O (ai h0) ?_;lia
   exact O e1 (c7 _ rfl)
 .obtain rfl:=r;refine(x.ro _ _ e1).isList λvs g r hl=>?_;have l1:=r.length;simp only[length_toList]at l1;refine call_reversed_list g ?_;have j:(s.heap.push (revObj p ((vs.size:Int) -1))).IsRevIter s.heap.objs.size p ((vs.size:Int) -1):=⟨_,c7 _ rfl,rfl,rfl⟩;refine wpAny_pyIter_revIter j (fin (kpp _) s.toks rfl q (Hi hA _ _ xs) ?_ (by simpa using hl) (fN x));have e:((xs.length:Int) -1 -((0:Nat):Int))=(vs.size:Int) -1:=by lia
  exact O e j
 .obtain⟨p,its,rfl,t,z,hl⟩:=r;exact Te hA x t z hl _ λh' tk I J kp hn io j=>fin (s₂:={s with heap:=h',toks:=tk}) kp tk rfl q io j (by simpa using hl) hn
end
theorem U8:(clsTab.all λp=>p.2.all λf=>decide (f<88))=true:=by decide+kernel
theorem CJ (h:eZ c f=true):f<88:=by
 unfold eZ at h;obtain⟨p,hp,h⟩:=any_eq_true.mp h;have:=hU.mp (hU.mp U8 p hp) f;simp only[and_eq_true,List.contains_iff_mem,decide_eq_true_eq]at h this;exact this h.2
structure ClsF (P:Params) (c:Addr):Prop where
 dict:hasDictIn (K P) c=true
 ga:findIn (K P) (.ref c) "__getattribute__"=some (some (.builtin "object.__getattribute__"))
 gt:findIn (K P) (.ref c) "__getattr__"=some none
 sa:findIn (K P) (.ref c) "__setattr__"=some (some (.builtin "object.__setattr__"))
 makes:makesIn (K P) c=true
 over:plainOver (K P) c=true
theorem CI (h:eZ c f=true) (P:Params):ClsF P c/\findIn (K P) (.ref c) (fS f)=some none:=by
 unfold eZ at h;obtain⟨p,hp,h'⟩:=any_eq_true.mp h;have g:=hU.mp (yV P) p hp;simp only[and_eq_true,List.contains_iff_mem,beq_iff_eq]at h';obtain⟨h1,h2⟩:=h';subst h1;unfold rC at g;simp only[and_eq_true,beq_iff_eq]at g;obtain⟨⟨⟨⟨⟨⟨g1,g2⟩,g3⟩,g4⟩,g5⟩,g5'⟩,g6⟩:=g;have:=hU.mp g6 f h2;exact⟨⟨g1,g2,g3,g4,g5,g5'⟩,by simpa using this⟩
theorem H2 (h:mTab.contains (c,m,f)=true) (P:Params):findIn (K P) (.ref c) (fS m)=some (some (.ref f))/\typeIn (K P) (.ref f)=some (.type "function")/\m<88:=by
 have g:=hU.mp (PK P) (c,m,f) (by simpa using h);unfold BB isFn at g;simp only[and_eq_true,beq_iff_eq,decide_eq_true_eq]at g;exact⟨g.1.1,g.1.2,g.2⟩
theorem H4:(mTab.all λq=>clsTab.any λp=>p.1==q.1)=true:=by decide+kernel
theorem yU (h:(clsTab.any λp=>p.1==c)=true) (P:Params):ClsF P c:=by
 obtain⟨p,hp,h⟩:=any_eq_true.mp h;have g:=hU.mp (yV P) p hp;simp only[beq_iff_eq]at h;subst h;unfold rC at g;simp only[and_eq_true,beq_iff_eq]at g;obtain⟨⟨⟨⟨⟨⟨g1,g2⟩,g3⟩,g4⟩,g5⟩,g5'⟩,g6⟩:=g;exact⟨g1,g2,g3,g4,g5,g5'⟩
theorem H3 (h:mTab.contains (c,m,f)=true) (P:Params):ClsF P c:=
 yU (hU.mp H4 (c,m,f) (by simpa using h)) P
theorem GJ (hi:i<88) (hj:j<88) (e:fS i=fS j):i=j:=by
 have n:fdT.length=88:=by decide+kernel
 unfold fS at e;rw[List.getD_eq_getElem?_getD,List.getD_eq_getElem?_getD,getElem?_eq_getElem (by assumption),getElem?_eq_getElem (by assumption)]at e;exact(List.getElem_inj GK).mp (by simpa using e)
theorem HB {K:Type} [DecidableEq K] {fs:List (K×IV)} {f:K} (h:aq fs f=some y):∃p∈fs,p.1=f:=by
 unfold aq at h;obtain⟨p,hp,_⟩:=map_eq_some_iff.mp h;exact⟨p,List.mem_of_find?_eq_some hp,by simpa using List.find?_some hp⟩
theorem HC {K:Type} [DecidableEq K] (fs:List (K×IV)) (f g:K) (y:IV):aq (aK fs f y) g=if g=f then some y else aq fs g:=by
 unfold aK;by_cases h:fs.any (λkv=>kv.1=f)=true
 .refine O (ax h) ?_
  induction fs with
  |nil=>simp at h
  |cons p fs ih=>
   simp only[map_cons];by_cases hp:p.1=f
   .by_cases hg:g=f
    .obtain rfl:=hg.symm;simp[aq,hp]
    .refine O (ai hg) ?_;have hpg:¬p.1=g:=λe=>hg (e.symm.trans hp);have:∀l:List (K×IV),aq (l.map λkv=>if kv.1=f then(kv.1,y)else kv) g=aq l g:=by
      intro l
      induction l with
      |nil=>rfl
      |cons q l ih2=>
       simp only[map_cons];by_cases hq:q.1=f
       .have hqg:¬q.1=g:=λe=>hg (e.symm.trans hq);simp only[aq,hq,if_true,find?_cons]at ih2⊢;have:¬f=g:=λe=>hg e.symm
        simpa[this]using ih2
       .simp only[if_neg hq];by_cases hqg:q.1=g
        .simp[aq,hqg]
        .simp only[aq,find?_cons,hqg,decide_false]at ih2⊢;exact ih2
     have e:=this (p::fs)
     simpa using e
   .simp only[if_neg hp];have h2:fs.any (λkv=>kv.1=f)=true:=by simpa[hp]using h
    have:=ih h2;by_cases hpg:p.1=g
    .have hg:¬g=f:=λe=>hp (hpg.trans e);refine O (ai hg) ?_;simp[aq,hpg]
    .simp only[aq,find?_cons,hpg,decide_false]at this⊢;exact this
 .refine O (ai h) ?_;have hn:∀p∈fs,¬p.1=f:=λp hp e=>h (any_eq_true.mpr ⟨p,hp,by simpa using e⟩);by_cases hg:g=f
  .subst hg;refine O (ax rfl) ?_;have:fs.find? (λkv=>decide (kv.1=g))=none:=find?_eq_none.mpr λp hp=>by simpa using hn p hp
   simp[aq,find?_append,this]
  .refine O (ai hg) ?_;have:¬f=g:=λe=>hg e.symm;simp[aq,find?_append,this]
theorem zQ {o:Obj} (hd:o.data=.dict es ep) (hk:StrKeys es) (nm:PySem.Str):lookIn nm o=some (nsFind es nm):=by
 unfold lookIn nsFind findBy;refine O hd ?_;simp only[<-Array.find?_toList]
 induction e:es.toList.find? (λe=>e.key.isStr nm)with
 |some x=>simp
 |none=>
  have:es.toList.any (·.refKey)=false:=by
   rw[any_eq_false];intro x hx;obtain⟨n,t,h⟩:=hk x (mem_toList_iff.mp hx);simp[DictEntry.refKey,h]
  simp[this]
theorem VR.handed (r:VR B h v y):handedIn v=true:=by
 cases y with
 |none=>obtain rfl:=r;rfl
 |bool b=>obtain rfl:=r;rfl
 |int i=>obtain⟨t,rfl⟩:=r;rfl
 |str x=>obtain⟨t,rfl⟩:=r;rfl
 |ref a=>obtain rfl:=r;rfl
 |tup xs=>obtain⟨a,its,rfl,_⟩:=r;rfl
 |frz ns=>obtain⟨a,its,rfl,_⟩:=r;rfl
section
variable{B:Bs} {A:Around} {s:Shared} {V:IH} {v u:Value} {a b:IV}
theorem Base.kin' (hB:Base B) (x:St B V s):(K B.w.params).In s.heap:=λa o e=>x.keep a o (hB.kin a o e)
theorem St.inst (x:St B V s) {fs:List (Nat×IV)} (e:V p=some (.inst c fs)):E5 λox d o es ep=>A8 (InstAt s.heap p ox c (some o)) (ox.dict=some d) (s.heap.get? d=some o) (o.data=.dict es ep) (StrKeys es) (es.size<=fs.length) (∀f,f<88->OR B s.heap (nsFind es (fS f)) (aq fs f)) (∀q∈fs,eZ c q.1=true):=by
 obtain⟨d,sl,o,es,ep,g,g',r1,r2,r3,q,z⟩:=x.ro _ _ e;exact⟨_,d,o,es,ep,⟨g,rfl,rfl,g'⟩,rfl,g',r1,r2,r3,q,z⟩
theorem SP {expr:Bool} {Q:IV->IH->Prop} (hB:Base B) (x:St B V s) (hv:VR B s.heap v a) (q:attI a f Q V):wpAny (model pw B.w) A (getAttr v (fS f) expr) (PP B V s.heap Q) aA s:=by
 obtain⟨p,c,fs,y,rfl,e1,hy,q⟩:=q;obtain rfl:=hv;o_shape;obtain⟨ox,d,o,es,ep,I,hd,g,hdat,hk,hz,rel,ok⟩:=x.inst e1;obtain⟨pr,hp,hpf⟩:=HB hy;have okf:=ok pr hp;rw[hpf]at okf;have lt:=CJ okf;obtain⟨C,hn⟩:=CI okf B.w.params;pv_eval;have r:=rel f lt;rw[hy]at r
 induction hf:nsFind es (fS f)with
 |none=>rw[hf]at r;exact r.elim
 |some w=>
  rw[hf]at r;exact get_value (hB.kin' x) I C.ga (findObj_own (attr:=none) C.dict hn rfl (by rw[zQ hdat hk];exact O hf rfl)) (VR.handed r) (PP.tok x r q)
theorem S3 {Q:Value×List Value->Shared->Prop} {K':IV->IH->Prop} (hB:Base B) (x:St B V s) (ht:mTab.contains (c,m,f)=true) (hv:VR B s.heap v a) (q:metI a c m K' V)
 (h:∀p,v=.ref p->a=.ref p->K' a V->Q (.ref f,[v]) s):wpAny (model pw B.w) A (getMethod v (fS m) pl) Q aA s:=by
 obtain⟨p,fs,rfl,e1,hn,q⟩:=q;obtain rfl:=hv;o_shape;obtain⟨ox,d,o,es,ep,I,hd,g,hdat,hk,hz,rel,ok⟩:=x.inst e1;obtain⟨hf,hty,lt⟩:=H2 ht B.w.params;pv_eval;have C:=H3 ht B.w.params;have r:=rel m lt;rw[hn]at r;have hs:nsFind es (fS m)=none:=by
  induction e:nsFind es (fS m)with
  |none=>rfl
  |some w=>rw[e]at r;exact r.elim
 exact method_fn (hB.kin' x) I C.ga C.gt hf hty (by show(lookIn (fS m) o).map (·.isSome)=some false;rw[zQ hdat hk];exact O hs rfl) (h _ rfl rfl q)
end
theorem SM {o:Obj} {es:Array DictEntry} (hd:o.data=.dict es ep) (hk:StrKeys es) (nm:PySem.Str) (hs:Int) (t:Nat) (w:Value):
 ∃es' ep',(Obj.putName nm hs (.str nm t) w o).data=.dict es' ep'/\StrKeys es'/\(∀x,nsFind es' x=if x=nm then some w else nsFind es x)/\(es'.size=es.size\/(nsFind es nm=none/\es'.size=es.size+1)):=by
 obtain⟨c,d,dt,sl⟩:=o;simp only at hd;subst hd
 induction hi:es.findIdx? (·.key.isStr nm)with
 |some i=>
  refine⟨_,ep,by simp only[Obj.putName_eq,Obj.putNameByArray,hi],hk.modify _ _,λx=>findBy_modify (λn v=>v.isStr n) Value.isStr_inj es nm x w i hi,.inl (by simp)⟩
 |none=>
  refine⟨_,ep+1,by simp only[Obj.putName_eq,Obj.putNameByArray,hi];rfl,hk.push _ _ _ _,λx=>?_,.inr ⟨?_,by simp⟩⟩
  .exact findBy_push (λn v=>v.isStr n) es nm x _ _ w (λy=>by
    show(nm==y)=decide (y=nm);by_cases h:y=nm
    .obtain rfl:=h.symm;simp
    .have:¬nm=y:=λe=>h e.symm;simp[h,this]) hi
  .unfold nsFind;exact O (findBy_of_findIdx? ..) (O hi rfl)
section
variable{B:Bs} {A:Around} {s:Shared} {V:IH} {v u:Value} {a y:IV}
theorem HE {K:Type} [DecidableEq K] (fs:List (K×IV)) (f:K) (y:IV):(aq fs f=none/\(aK fs f y).length=fs.length+1)\/((∃x,aq fs f=some x)/\(aK fs f y).length=fs.length):=by
 unfold aK;by_cases h:fs.any (λkv=>kv.1=f)=true
 .refine O (ax h) (aj λ_ kX=>?_);obtain⟨p,hp,e⟩:=any_eq_true.mp h;pv_eval;refine .inr ⟨?_,by simp⟩;unfold aq
  induction q:fs.find? (λkv=>decide (kv.1=f))with
  |none=>exact absurd e (find?_eq_none.mp q p hp)
  |some z=>exact⟨_,rfl⟩
 .refine O (ai h) (.inl ⟨?_,by simp⟩);unfold aq;exact O (find?_eq_none.mpr λp hp e=>h (any_eq_true.mpr ⟨p,hp,e⟩)) rfl
theorem HF {K:Type} [DecidableEq K] {fs:List (K×IV)} {f:K} {p:K×IV} (h:p∈aK fs f y):p.1=f\/∃q∈fs,q.1=p.1:=by
 unfold aK at h;split at h
 .obtain⟨q,hq,e⟩:=mem_map.mp h;refine .inr ⟨q,hq,?_⟩;refine Ob e ?_;split<;>rfl
 .rcases Uo.mp h with h|h
  .exact .inr ⟨p,h,rfl⟩
  .simp at h;exact .inl (O h rfl)
theorem S9 {Q:IH->Prop} (hB:Base B) (x:St B V s) (hv:VR B s.heap v a) (hu:VR B s.heap u y) (q:setI a f y Q V):wpAny (model pw B.w) A (setAttr v (fS f) u) (λ_ s'=>PU B V s.heap Q s') aA s:=by
 obtain⟨p,c,fs,rfl,e1,okf,hlen,q⟩:=q;obtain rfl:=hv;o_shape;obtain⟨ox,d,o,es,ep,I,hd,g,hdat,hk,hz,rel,ok⟩:=x.inst e1;have lt:=CJ okf;obtain⟨C,hn⟩:=CI okf B.w.params;pv_eval;have X:=hB.kin' x;refine set_plain X I C.sa ?_;refine osa_open X I C.over (r:=none) (by unfold takerIn;exact O hn rfl) λb=>?_;o_shape;obtain⟨cd,hc,hd'⟩:=any_some C.dict;have hx:=I.at_;have hcl:=I.cls;obtain⟨oc,odi,oda,osl⟩:=ox;pv_eval;dsimp only at hcl hd;subst hcl hd;refine ay (aT (ay (ay (wpAny_loadPart hx (ay ((looks_clsIn X hc).at ?_))))));refine O hd' (aT (a:=some d) (ay (aT (ay ?_))));unfold nsSet;refine ay (ay (wpAny_askSetting (aT (ay (wpAny_mkText (ay (wpAny_loadPart g ?_)))))));refine O hdat ?_;dsimp only;have hany:es.any (·.refKey)=false:=by
  rw[Array.any_eq_false'];intro e he;obtain⟨n,t,h⟩:=hk e he;simp[DictEntry.refKey,h]
 refine O (aRefKeyMayBeTheName_at ..) (O hany (O (Bool.and_false ..) (wpAny_updatePart g ?_)));o_shape;obtain⟨es',ep',h1,h2,h3,h4⟩:=SM hdat hk (fS f) (PyData.keyHash B.w.params (fS f)) (s.toks+1) u;pv_eval;have D':(s.heap.update d (Obj.putName (fS f) (PyData.keyHash B.w.params (fS f)) (.str (fS f) (s.toks+1)) u)).get? d=some (Obj.putName (fS f) (PyData.keyHash B.w.params (fS f)) (.str (fS f) (s.toks+1)) u o):=
  get?_update_self _ g (Obj.isFreed_of_dict h1)
 have hsz:es'.size<=(aK fs f y).length/\es'.size<=1000:=by
  have hzz:=hz;rcases HE fs f y with⟨k1,k2⟩|⟨⟨z,k1⟩,k2⟩
  .rcases h4 with h4|⟨_,h4⟩<;>lia
  .rcases h4 with h4|⟨h5,h4⟩
   .lia
   .have r:=rel f lt;rw[h5,k1]at r;exact r.elim
 refine ay (wpAny_lookBehind D' (by refine O h1 ?_;exact pastItsLine_dict (by refine O db ?_;lia)) ?_);have kp:∀b,b≠d->(s.heap.update d (Obj.putName (fS f) (PyData.keyHash B.w.params (fS f)) (.str (fS f) (s.toks+1)) u)).get? b=s.heap.get? b:=λb hb=>Heap.get?_update_other _ _ hb.symm;have tt:∀a o',s.heap.get? a=some o'->cj o'->(s.heap.update d (Obj.putName (fS f) (PyData.keyHash B.w.params (fS f)) (.str (fS f) (s.toks+1)) u)).get? a=some o':=
  λa o' e c=>by
   exact O (kp a λh=>by obtain rfl:=h.symm;obtain rfl:=Os g e;obtain⟨_,its,n,hh⟩:=c;replace hh:=Oe hdat hh;cases hh) e
 have hpd:p≠d:=λh=>by
  obtain rfl:=h.symm;obtain rfl:=Os hx g;have hno:=I.no
  cases hdat
  have:=x.hid _ _ _ _ _ e1 hx rfl;exact Om e1 this
 o_shape;obtain⟨hx',r1⟩:True/\True:=⟨trivial,trivial⟩;obtain⟨d0,sl0,o0,es0,ep0,g0,_⟩:=x.ro _ _ e1;pv_eval;have e0:=hx.symm.trans g0
 cases e0
 have ro':RO B (s.heap.update d (Obj.putName (fS f) (PyData.keyHash B.w.params (fS f)) (.str (fS f) (s.toks+1)) u)) p (.inst c (aK fs f y)):=by
  refine⟨d,_,_,es',ep',by exact O (kp p hpd) g0,D',h1,h2,hsz.1,λk hk'=>?_,λr hr=>?_⟩
  .refine O (h3 ..) (O (HC ..) ?_);by_cases e:k=f
   .obtain rfl:=e.symm;exact O (ax rfl) (O (ax rfl) (hu.mono tt))
   .exact O (ai e) (O (ai λh=>e (GJ hk' lt h)) ((rel k hk').mono tt))
  .rcases HF hr with h|⟨z,hz,h⟩
   .exact O h okf
   .exact Ob h (ok z hz)
 obtain⟨c1,c2⟩:=x.field e1 hx rfl kp ro' (s.toks+1+1);exact aT ⟨_,c1,c2,q⟩
end
end
structure ScE (sc:Scope) (env:Env):Prop where
 gl:∀x,sc.names.lookup x=some .globalImplicit->env.kindOf x=some .globalImplicit
 ce:∀x,sc.names.lookup x=some .cell->env.kindOf x=some .cell
structure RoomB (n:Nat) (A:Around):Prop where
 hand:A.handled=none
 deep:A.depth+10*n+5<=900
 wide:A.units+40*n+20<=9000
theorem RoomB.room (R:RoomB n A):Room n A:=⟨R.hand,by have:=R.deep;lia,by have:=R.wide;lia⟩
theorem RoomB.units {A:Around} (R:RoomB n A):A.units+64<cLine:=by have:=R.wide;show A.units+64<9900;lia
structure Ok (B:Bs) (n:Nat) (sc:Scope) (env:Env) (ns:List PySem.Str) (Z:aL) (A:Around) (V:IH) (s:Shared):Prop where
 b:Base B
 sc:ScE sc env
 R:RoomB n A
 x:St B V s
 vo:VO B env ns Z V s.heap
abbrev PT (B:Bs) (V:IH) (h:Heap) (K:QB):Bool->Shared->Prop:=λb s'=>PU B V h (K b) s'
section
variable{B:Bs} {n:Nat} {sc:Scope} {env:Env} {ns:List PySem.Str} {Z:aL} {A:Around} {V V':IH} {s s':Shared}
theorem Ok.next (o:Ok B n sc env ns Z A V s) (x':St B V' s') (k:Keep V s.heap V' s'.heap):Ok B n sc env ns Z A V' s':=⟨o.b,o.sc,o.R,x',o.vo.keep o.x k⟩
theorem PP.bind {M:Model} {Q:IV->IH->Prop} {R:Value->Shared->Prop} (p:wpAny M A m (PP B V h Q) aA s)
 (k:∀v s1 V1 i,St B V1 s1->Keep V h V1 s1.heap->VR B s1.heap v i->Q i V1->R v s1):wpAny M A m R aA s:=
 bK p (λv s1 zq=>by obtain⟨V1,i,a,b,c,d⟩:=zq;exact k v s1 V1 i a b c d) λ_ _ e=>e
theorem PP.go {M:Model} {Q:IV->IH->Prop} (k:Keep V h V1 h₁) (p:wpAny M A m (PP B V1 h₁ Q) aA s):wpAny M A m (PP B V h Q) aA s:=
 bK p (λ_ _=>PP.from k) λ_ _ e=>e
theorem PT.bind {M:Model} {K:QB} {R:Bool->Shared->Prop} (p:wpAny M A m (PT B V h K) aA s)
 (k:∀r s1 V1,St B V1 s1->Keep V h V1 s1.heap->K r V1->R r s1):wpAny M A m R aA s:=
 bK p (λv s1 zq=>by obtain⟨V1,a,b,d⟩:=zq;exact k v s1 V1 a b d) λ_ _ e=>e
theorem PT.go {M:Model} {K:QB} (k:Keep V h V1 h₁) (p:wpAny M A m (PT B V1 h₁ K) aA s):wpAny M A m (PT B V h K) aA s:=
 bK p (λ_ _=>PU.from k) λ_ _ e=>e
theorem jq {α:Type} {M:Model} {E:Value->Shared->Prop} {m:Sem α} {Q:α->Shared->Prop} (p:wpAny M A m Q aA s):wpAny M A m Q E s:=bK p (λ_ _ q=>q) λ_ _ e=>e.elim
theorem U7 {e:QE->IH->Prop} {x:Expr} (h:∀Q,e Q V->wpAny (model pw B.w) A (eval x env) (PP B V s.heap Q) aA s)
 (hx:isTrue x env (eval x env)=(do let v <-eval x env;standAt x.pos;holding [v] (truthy v))):∀K,(VP.of e).t K V->wpAny (model pw B.w) A (isTrue x env (eval x env)) (PT B V s.heap K) aA s:=
 λK q=>isTrue_plain (PP.bind (h _ q) λv s1 V1 i a b c d=>PT.go b (qS a c d)) hx
theorem VO.other {h':Heap} {t:Nat} (vo:VO B env ns Z V s.heap) (x:St B V s) (p:Pres B V s.heap h') (same:∀a,bN env ns a->h'.get? a=s.heap.get? a):VO B env ns Z V h':=by
 have fo:=Pres.foot (s':={s with heap:=h',toks:=t}) x p;refine⟨vo.kind,vo.glob,vo.blt,vo.kinds,vo.nodup,?_,λi z e hz hk=>?_,vo.apart,λf=>vo.nf ((fo _).mp f),vo.nb⟩
 .obtain⟨m,⟨o,es,ep,ho,r⟩,q⟩:=vo.loc;exact⟨m,⟨o,es,ep,by exact O (same _ (.inl rfl)) ho,r⟩,λi z e hz hk=>(q i z e hz hk).mono p.tups⟩
 .obtain⟨c,w,h1,⟨o,ho,hd⟩,h3,h4,h5,h6⟩:=vo.cell i z e hz hk;exact⟨c,w,h1,⟨o,by exact O (same _ (.inr ⟨i,z,e,hz,hk,h1⟩)) ho,hd⟩,h3.mono p.tups,λf=>h4 ((fo _).mp f),h5,h6⟩
theorem VO.live (vo:VO B env ns Z V s.heap) (o:bN env ns a):∃ob,s.heap.get? a=some ob:=by
 rcases o with rfl|⟨i,z,e,hz,hk,h1⟩
 .obtain⟨m,⟨o,es,ep,ho,r⟩,q⟩:=vo.loc;exact⟨_,ho⟩
 .obtain⟨c,w,h2,⟨o,ho,hd⟩,_⟩:=vo.cell i z e hz hk;obtain rfl:=Os h1 h2;exact⟨_,ho⟩
theorem St.reveal (x:St B V s) {io:IO} (f:io.flat=true) (nf:¬aS V s.heap a) (nb:B.h0.get? a=none) (r:RO B s.heap a io):St B (upd V a io) s:=by
 have inst:∀{b c fs},upd V a io b=some (.inst c fs)->b≠a/\V b=some (.inst c fs):=λ{b c fs} e=>by
  by_cases q:b=a
  .obtain rfl:=q.symm;obtain rfl:=Os (fh ..) e;exact(bE f).elim
  .exact⟨q,by rwa[cH _ _ q]at e⟩
 refine⟨λb o e=>?_,?_,?_,x.keep,λb q=>?_,x.gens,x.os⟩
 .by_cases q:b=a
  .obtain rfl:=q.symm;obtain rfl:=Os (fh ..) e;exact r
  .exact x.ro b o (Oe (cH _ _ q) e)
 .intro b b' c c' fs fs' o o' d e e' g g' hd hd';exact x.inj b b' c c' fs fs' o o' d (inst e).2 (inst e').2 g g' hd hd'
 .intro b c fs o d e g hd;by_cases q:d=a
  .obtain rfl:=q.symm;exact absurd (.inr ⟨b,c,fs,o,(inst e).2,g,hd⟩) nf
  .exact O (cH _ _ q) (x.hid b c fs o d (inst e).2 g hd)
 .rcases q with q|⟨b',c,fs,o,e1,e2,e3⟩
  .by_cases e:b=a
   .obtain rfl:=e.symm;exact nb
   .rw[cH _ _ e]at q;exact x.low b (.inl q)
  .exact x.low b (.inr ⟨b',c,fs,o,(inst e1).2,e2,e3⟩)
theorem Keep.reveal {h₀ h:Heap} {io:IO} (k:Keep V₀ h₀ V h) (f:io.flat=true) (hn:h₀.get? a=none):Keep V₀ h₀ (upd V a io) h:=by
 refine⟨k.old,λb q=>?_⟩;by_cases e:b=a
 .obtain rfl:=e.symm;exact .inr hn
 .refine k.grow b ?_;rcases q with q|⟨b',c,fs,o,e1,e2,e3⟩
  .rw[cH _ _ e]at q;exact .inl q
  .by_cases e':b'=a
   .subst e';obtain rfl:=Os (fh ..) e1;exact(bE f).elim
   .exact .inr ⟨b',c,fs,o,(Oe (cH _ _ e') e1),e2,e3⟩
theorem Keep.hidden {h₀ h':Heap} {t:Nat} (k:Keep V₀ h₀ V s.heap) (x:St B V s) (p:Pres B V s.heap h') (hn:h₀.get? a=none) (sb:∀b,b≠a->h'.get? b=s.heap.get? b):Keep V₀ h₀ V h':=by
 have fo:=Pres.foot (s':={s with heap:=h',toks:=t}) x p;refine⟨λb o e nf=>?_,λb q=>k.grow b ((fo b).mp q)⟩;have:b≠a:=λh=>by subst h;exact On hn e
 exact O (sb b this) (k.old b o e nf)
end
theorem CT {env:Env} {names:List (PySem.Str×NameKind)}:names.lookup x=some k->
 (names.map λ(n,k)=>if(k==NameKind.free&&env.scope.kind==.function&&env.kindOf n==some .cell)then(n,NameKind.cell)else(n,k)).lookup x=
   some (if(k==NameKind.free&&env.scope.kind==.function&&env.kindOf x==some .cell)then .cell else k):=by
 induction names with
 |nil=>exact λh=>nomatch h
 |cons p r ih=>
  obtain⟨n,k'⟩:=p;intro h;rw[lookup_cons]at h;show List.lookup x ((if(k'==NameKind.free&&env.scope.kind==.function&&env.kindOf n==some .cell)=true then(n,NameKind.cell)else(n,k'))::_)=_;by_cases e:x=n
  .obtain rfl:=e;rw[beq_self_eq_true]at h;obtain rfl:=aP h;split
   .exact O lookup_cons (O (beq_self_eq_true ..) rfl)
   .exact O lookup_cons (O (beq_self_eq_true ..) rfl)
  .rw[beq_false_of_ne e]at h;refine Eq.trans ?_ (ih h);split
   .exact O lookup_cons (O (beq_false_of_ne e) rfl)
   .exact O lookup_cons (O (beq_false_of_ne e) rfl)
theorem F7 (env:Env) (names:List (PySem.Str×NameKind)):∀(acc:List (PySem.Str×Addr)),(∀p∈names,p.2=.free->∃c,env.cells.lookup p.1=some c)->
 ∃cl,(forIn names acc λ(p:PySem.Str×NameKind) cs=>(do if p.2==NameKind.free then pure (ForInStep.yield ((p.1,<-cellOf env p.1)::cs))else pure (ForInStep.yield cs):Sem (ForInStep (List (PySem.Str×Addr)))))=pure cl/\
  ∀x,((x,NameKind.free)∈names\/acc.lookup x=env.cells.lookup x)->cl.lookup x=env.cells.lookup x:=by
 induction names with
 |nil=>exact λacc _=>⟨acc,rfl,λx h=>h.resolve_left λm=>nomatch m⟩
 |cons p r ih=>
  intro acc hf;obtain⟨n,k⟩:=p;refine O (List.forIn_cons ..) ?_;by_cases hk:k=.free
  .obtain rfl:=hk.symm;obtain⟨c,hc⟩:=hf _ bJ rfl;obtain⟨cl,h1,h2⟩:=ih ((n,c)::acc) λp hp=>hf p (dw _ hp);refine⟨cl,?_,λx h=>h2 x ?_⟩
   .have e:cellOf env n=pure c:=by unfold cellOf;exact O hc rfl
    exact O (ax (beq_self_eq_true _)) (O e h1)
   .refine O lookup_cons ?_;by_cases hx:x=n
    .exact O hx (O (beq_self_eq_true ..) (.inr hc.symm))
    .exact O (beq_false_of_ne hx) (h.imp_left λh=>(mem_cons.mp h).resolve_left λe=>hx (be Prod.fst e))
  .obtain⟨cl,h1,h2⟩:=ih acc λp hp=>hf p (dw _ hp);refine⟨cl,?_,λx h=>h2 x (h.imp_left λh=>(mem_cons.mp h).resolve_left λe=>hk (be Prod.snd e).symm)⟩;exact O (ai (by refine O (beq_false_of_ne hk) ?_;exact bE)) h1
theorem F6 (env:Env) (sc':Scope) (hf:∀p∈sc'.names,p.2=.free->∃c,env.cells.lookup p.1=some c):
 ∃cl,closureFor sc' env=pure cl/\∀x,(x,NameKind.free)∈sc'.names->cl.lookup x=env.cells.lookup x:=by
 obtain⟨cl,h1,h2⟩:=F7 env sc'.names [] hf;refine⟨cl,?_,λx h=>h2 x (.inl h)⟩;unfold closureFor;have e:(λ(p:PySem.Str×NameKind) cs=>(do if p.2==NameKind.free then pure (ForInStep.yield ((p.1,<-cellOf env p.1)::cs))else pure (ForInStep.yield cs):Sem (ForInStep (List (PySem.Str×Addr)))))=λ(p:PySem.Str×NameKind) r=>(match p with
  |(name,kind)=>if(kind==NameKind.free)=true then do
     let a <-cellOf env name
     let cs:List (PySem.Str×Addr):=(name,a)::r
     pure PUnit.unit
     pure (ForInStep.yield cs)else do
     pure PUnit.unit
     pure (ForInStep.yield r)):=by
  funext p r;obtain⟨n,k⟩:=p;by_cases hk:k=.free
  .subst hk;simp
  .simp[hk]
 rw[e]at h1;have e2:=be (λt=>t>>= λr=>pure r) h1
 first
  |exact h1
  |simpa using h1
  |exact e2
structure CompS (sc:Scope) (ns:List PySem.Str) (sc':Scope) (ns':List PySem.Str) (t:Nat) (tx:PySem.Str):Prop where
 kind:sc'.kind=.function
 tgt:ns'[t]? =some tx
 tx0:tx≠u ""
 tloc:sc'.names.lookup tx=some .local
 ncell:∀p∈sc'.names,p.2≠.cell
 nloc:∀p∈sc'.names,p.2=.local->sc'.names.lookup p.1=some .local
 nfree:∀p∈sc'.names,p.2=.free->sc.names.lookup p.1=some .cell/\p.1∈ns/\p.1≠u ""
 slots:∀(i:Nat) (x:PySem.Str),ns'[i]? =some x->x≠u ""->i≠t->ns[i]? =some x/\sc'.names.lookup x=some .free/\x≠tx
theorem F9 {sc:Scope} (h:gG sc ns sc' ns' t tx=true):CompS sc ns sc' ns' t tx:=by
 unfold gG at h;simp only[and_eq_true,beq_iff_eq,bne_iff_ne,all_eq_true,or_eq_true,List.contains_iff_mem]at h;obtain⟨⟨⟨⟨⟨h1,h2⟩,h3⟩,h4⟩,h5⟩,h6⟩:=h;refine⟨h1,h2,h3,h4,λp hp=>(h5 p hp).1.1,λp hp hl=>?_,λp hp hf=>?_,λi x hi hx hit=>?_⟩
 .rcases(h5 p hp).1.2 with h|h
  .exact absurd hl h
  .exact h
 .rcases(h5 p hp).2 with h|h
  .exact absurd hf h
  .exact⟨h.1.1,h.1.2,h.2⟩
 .have hlt:i<ns'.length:=(List.getElem?_eq_some_iff.mp hi).1;rcases h6 i (mem_range.mpr hlt)with(h|h)|⟨h,h'⟩
  .exact absurd h hit
  .obtain rfl:=Os hi h;exact absurd rfl hx
  .rw[hi]at h h';simp only[Option.any_some,and_eq_true,beq_iff_eq,bne_iff_ne]at h';exact⟨h.symm,h'.1,h'.2⟩
section
variable{B:Bs} {n:Nat} {sc sc':Scope} {env:Env} {ns ns':List PySem.Str} {Z:aL} {A:Around} {V V':IH} {s s':Shared} {t:Nat} {tx:PySem.Str}
theorem Ga (C:CompS sc ns sc' ns' t tx) (hs:ScE sc env) (vo:VO B env ns Z V s.heap) (x:St B V s) {cl:List (PySem.Str×Addr)} (hcl:∀x,(x,NameKind.free)∈sc'.names->cl.lookup x=env.cells.lookup x)
 {h':Heap} {L:Addr} (hL:h'.Ns L (λ_=>none)) (new:s.heap.get? L=none) (kp:∀b o,s.heap.get? b=some o->h'.get? b=some o):
 VO B (compEnvC sc' cl L env) ns' (Z.set t none) V h'/\ScE sc' (compEnvC sc' cl L env):=by
 have p:Pres B V s.heap h':=Pres.ofKeeps kp;have fo:=Pres.foot (s':={s with heap:=h'}) x p;have kt:(compEnvC sc' cl L env).kindOf tx=some .local:=lookup_relabel_local C.tloc;have kf:∀(i:Nat) (z:PySem.Str),ns'[i]? =some z->z≠u ""->i≠t->ns[i]? =some z/\env.kindOf z=some .cell/\(compEnvC sc' cl L env).kindOf z=some .cell/\(z,NameKind.free)∈sc'.names/\z≠tx:=λi z hi hz hit=>by
  o_shape;obtain⟨h1,h2,h3⟩:=C.slots i z hi hz hit;pv_eval;have h4:=PySem.mem_of_lookup h2;have h5:=hs.ce z (C.nfree _ h4 rfl).1;refine⟨h1,h5,?_,h4,h3⟩;have:=CT (env:=env) h2;rw[if_pos (show(NameKind.free==NameKind.free&&env.scope.kind==.function&&env.kindOf z==some .cell)=true by exact O h5 (O vo.kind rfl))]at this;exact this
 refine⟨⟨C.kind,vo.glob,vo.blt,λi z hi hz=>?_,λi j z hi hj hz=>?_,⟨_,hL,λi z hi hz hk=>?_⟩,λi z hi hz hk=>?_,λi j z y c hi hj hz hy hkz hky h1 h2=>?_,λf=>?_,?_⟩,⟨λz hz=>?_,λz hz=>?_⟩⟩
 .by_cases e:i=t
  .subst e;obtain rfl:=Os C.tgt hi;exact .inl kt
  .exact .inr (kf i z hi hz e).2.2.1
 .by_cases e:i=t
  .subst e;obtain rfl:=Os C.tgt hi;by_cases e':j=i
   .exact e'.symm
   .exact absurd rfl (kf j tx hj hz e').2.2.2.2
  .by_cases e':j=t
   .obtain rfl:=e'.symm;obtain rfl:=Os C.tgt hj;exact absurd rfl (kf i tx hi hz e).2.2.2.2
   .exact vo.nodup i j z (kf i z hi hz e).1 (kf j z hj hz e').1 hz
 .by_cases e:i=t
  .subst e;by_cases q:i<Z.length
   .exact O (List.getElem?_set_self q) trivial
   .exact O (dv (by simpa using q)) trivial
  .replace hk:=Oe (kf i z hi hz e).2.2.1 hk;cases hk
 .have e:i≠t:=λe=>by subst e;obtain rfl:=Os C.tgt hi;replace hk:=Oe kt hk;cases hk
  o_shape;obtain⟨h1,h2,_,h4,_⟩:=kf i z hi hz e;obtain⟨c,w,g1,⟨o,ho,hd⟩,g3,g4,g5,g6⟩:=vo.cell i z h1 hz h2;pv_eval;refine⟨c,w,(hcl z h4).trans g1,⟨o,kp _ _ ho,hd⟩,?_,λf=>g4 ((fo _).mp f),g5,λh=>?_⟩
  .exact O (List.getElem?_set_ne (Ne.symm e)) (g3.mono p.tups)
  .have:c=L:=h;obtain rfl:=this.symm;exact On new ho
 .have e:i≠t:=λe=>by obtain rfl:=e.symm;obtain rfl:=Os C.tgt hi;replace hkz:=Oe kt hkz;cases hkz
  have e':j≠t:=λe=>by obtain rfl:=e.symm;obtain rfl:=Os C.tgt hj;replace hky:=Oe kt hky;cases hky
  o_shape;obtain⟨a1,a2,_,a4,_⟩:=kf i z hi hz e;obtain⟨b1,b2,_,b4,_⟩:=kf j y hj hy e';pv_eval;exact vo.apart i j z y c a1 b1 hz hy a2 b2 ((hcl z a4).symm.trans h1) ((hcl y b4).symm.trans h2)
 .exact x.nofoot new ((fo _).mp f)
 .induction e:B.h0.get? L with
  |none=>exact e
  |some o=>exact Om (x.keep _ _ e) new
 .have:=CT (env:=env) hz;exact this
 .exact absurd rfl (C.ncell _ (PySem.mem_of_lookup hz))
def jM (B:Bs) (A:Around) (cenv:Env) (ns':List PySem.Str) (Z:aL) (t:Nat) (ifs:List Expr) (elt:Expr) (turn:IV->(Option IV->IH->Prop)->IH->Prop):Prop:=
 ∀(s:Shared) (V:IH) (y:IV) (K:Option IV->IH->Prop),St B V s->VO B cenv ns' (Z.set t (some y)) V s.heap->turn y K V->
  wpAny (model pw B.w) A (forIn ifs true λc r=>if r=true then do let ok <-isTrue c cenv (eval c cenv);pure (ForInStep.yield ok)else pure (ForInStep.yield r))
   (λok s3=>if ok=true then wpAny (model pw B.w) A (eval elt cenv) (PP B V s.heap (λz V'=>K (some z) V')) aA s3 else PU B V s.heap (K none) s3) aA s
theorem T2 {Z:aL}:(Z.set t o).set t (some y)=Z.set t (some y):=by exact O (set_set ..) rfl
theorem Gb {cenv:Env} {I D:Addr} {xs:List IV} {alive:IH->Prop} {J:Nat->Heap->Prop} {turn:IV->(Option IV->IH->Prop)->IH->Prop}
 {R:Result->Shared->Prop} {s₀:Shared} (io:ItOk B A xs alive I J) (hl:xs.length<1000000) (C:CompS sc ns sc' ns' t tx) (hloc:cenv.kindOf tx=some .local) (hturn:jM B A cenv ns' Z t ifs elt turn)
   (Inv:Nat->List IV->IH->Prop) (step:∀i ys V' x,xs[i]? =some x->Inv i ys V'->alive V'/\turn x (λo V''=>match o with|some y=>Inv (i+1) (ys++[y]) V''|none=>Inv (i+1) ys V'') V')
   (done:∀ys V',Inv xs.length ys V'->alive V'/\fresh (.list ys) Q V') (x:St B V s) (k:Keep V₀ s₀.heap V s.heap) (vo:VO B cenv ns' (Z.set t none) V s.heap) (j:J 0 s.heap) (hD:IsL s.heap D #[] 0) (inv:Inv 0 [] V)
   (own:∀a,bN cenv ns' a->a=cenv.locals\/∃o,s₀.heap.get? a=some o) (dD:s₀.heap.get? D=none) (dI:s₀.heap.get? I=none) (dC:s₀.heap.get? cenv.locals=none) (hDI:D≠I) (hDC:D≠cenv.locals) (hIC:I≠cenv.locals)
   (fD:¬aS V s.heap D) (fI:¬aS V s.heap I) (bD:B.h0.get? D=none) (bI:B.h0.get? I=none)
   (fin:∀s' V',St B V' s'->Keep V₀ s₀.heap V' s'.heap->Q (.ref D) V'->(∃m,s'.heap.Ns cenv.locals m)->¬aS V' s'.heap cenv.locals->R (.ok .next) s'):
   codeAny (model pw B.w) A (.compLoop (.ListComp elt [⟨.Name tx px,iter,ifs,0⟩] sc' pos) 0 (.ref I) (.ref D) cenv) R s:=by
  refine codeAny_compLoop_tests (λm s'=>E6 λi ys V' o vs c=>A12 (m+i=xs.length) (i<=xs.length) (St B V' s') (Keep V₀ s₀.heap V' s'.heap) (VO B cenv ns' (Z.set t o) V' s'.heap) (J i s'.heap) (IsL s'.heap D vs c) (VRs B s'.heap vs.toList ys) (ys.length<=i)
   (¬aS V' s'.heap D) (¬aS V' s'.heap I) (Inv i ys V')) ?_ xs.length
   ⟨0,[],V,none,#[],0,rfl,zero_le _,x,k,vo,j,hD,trivial,aY _,fD,fI,inv⟩
  rintro m s' ⟨i,ys,V',o,vs,c,hmi,hi,x',k',vo',j',hD',rD,hlen,fD',fI',inv'⟩;have ownD:∀a,bN cenv ns' a->a≠D:=λa ha e=>by
   rcases own a ha with h|⟨o,h⟩
   .exact hDC (e.symm.trans h)
   .rw[e,dD]at h;exact bv h
  have ownI:∀a,bN cenv ns' a->a≠I:=λa ha e=>by
   rcases own a ha with h|⟨o,h⟩
   .exact hIC (e.symm.trans h)
   .rw[e,dI]at h;exact bv h
  by_cases hlt:i<xs.length
  .obtain⟨m0,em⟩:=Nat.exists_eq_succ_of_ne_zero (n:=m) λe=>ne_of_lt hlt (by rw[e,zero_add]at hmi;exact hmi);o_shape;obtain⟨y,hy⟩:∃y,xs[i]? =some y:=⟨_,c8 hlt⟩;obtain⟨al,tu⟩:=step i ys V' y hy inv';pv_eval;refine bK (io.item i y s' V' hy j' x' al fI' bI _ λv h₁ tk r1 j1 sb1=>?_) (λ_ _ z=>z) λ_ _ e=>e.elim;o_shape;obtain⟨oI,hoI,ntI⟩:=io.live i _ j';pv_eval;have p1:Pres B V' s'.heap h₁:=gP (t:=0) x' hoI ntI fI' bI sb1;have x1:St B V' {s' with heap:=h₁,toks:=tk}:=x'.pres (s':={s' with heap:=h₁,toks:=tk}) p1 rfl rfl;have fo1:=Pres.foot (s':={s' with heap:=h₁,toks:=tk}) x' p1;have vo1:VO B cenv ns' (Z.set t o) V' h₁:=vo'.other (t:=tk) x' p1 λa ha=>sb1 a (ownI a ha);have k1:Keep V₀ s₀.heap V' h₁:=k'.hidden (t:=tk) x' p1 dI sb1;have hD1:IsL h₁ D vs c:=(sb1 D hDI).trans hD';refine wpAny_assign_Name (VO.store (s:={s' with heap:=h₁,toks:=tk}) x1 vo1 C.tgt C.tx0 r1 λs₂ x2 vo2 hs2 p2=>?_);rw[T2]at vo2;o_shape;obtain⟨a,ha,haloc,sb2⟩:=hs2;pv_eval;have haC:a=cenv.locals:=haloc hloc;subst haC;have fo2:=Pres.foot x1 p2;have k2:Keep V₀ s₀.heap V' s₂.heap:=Keep.hidden (s:={s' with heap:=h₁,toks:=tk}) (t:=s₂.toks) k1 x1 p2 dC sb2;have j2:J (i+1) s₂.heap:=io.frame _ _ _ j1 λb ob e hb=>by
    rcases hb with rfl|hb
    .exact O (sb2 _ hIC) e
    .exact p2.tups b ob e hb
   have hD2:IsL s₂.heap D vs c:=(sb2 D hDC).trans hD1;have rD2:VRs B s₂.heap vs.toList ys:=(rD.mono p1.tups).mono p2.tups;have fD2:¬aS V' s₂.heap D:=λf=>fD' ((fo1 _).mp ((fo2 _).mp f));have fI2:¬aS V' s₂.heap I:=λf=>fI' ((fo1 _).mp ((fo2 _).mp f));refine bK (hturn s₂ V' y _ x2 vo2 tu) (λok s3 h₃=>?_) λ_ _ e=>e.elim;have carry:∀{V4:IH} {s4:Shared},St B V4 s4->Keep V' s₂.heap V4 s4.heap->A5 (J (i+1) s4.heap) (IsL s4.heap D vs c) (VRs B s4.heap vs.toList ys) (¬aS V4 s4.heap D) (¬aS V4 s4.heap I):=λ{V4 s4} x4 k4=>by
    have nf:∀b ob,s₂.heap.get? b=some ob->¬aS V' s₂.heap b->¬aS V4 s4.heap b:=λb ob e q f=>by
     rcases k4.grow b f with f|f
     .exact q f
     .exact On f e
    refine io.liv j2 λoI2 hoI2 _=>?_;refine⟨io.frame _ _ _ j2 λb ob e hb=>?_,k4.old _ _ hD2 fD2,rD2.keep x2 k4,nf _ _ hD2 fD2,nf _ _ hoI2 fI2⟩;rcases hb with rfl|hb
    .exact k4.old _ _ e fI2
    .exact x2.tups k4 b ob e hb
   by_cases hok:ok=true
   .rw[if_pos hok]at h₃⊢;refine bK h₃ (λz s4 h₄=>?_) λ_ _ e=>e.elim;o_shape;obtain⟨V4,iv,x4,k4,rz,q4⟩:=h₄;obtain⟨j4,hD4,rD4,fD4,fI4⟩:=carry x4 k4;pv_eval;have l1:=rD4.length;simp only[length_toList]at l1;refine call_meets F.slot_list_append ⟨_,hD4,rfl⟩ F.entry_list_append (F.args_list_append_2 _ _) (AutoListH.list_append_list_val_0 _ vs c z (by refine O db ?_;lia)) ⟨hD4,?_⟩;have sb5:∀b,b≠D->(s4.heap.update D (Obj.mapSeq λy=>y.push z)).get? b=s4.heap.get? b:=λb hb=>Heap.get?_update_other _ _ hb.symm;have p5:Pres B V4 s4.heap (s4.heap.update D (Obj.mapSeq λy=>y.push z)):=gP (t:=0) x4 hD4 (BF rfl) fD4 bD sb5;have fo5:=Pres.foot (s':={s4 with heap:=s4.heap.update D (Obj.mapSeq λy=>y.push z)}) x4 p5;have x5:=x4.pres (s':={s4 with heap:=s4.heap.update D (Obj.mapSeq λy=>y.push z)}) p5 rfl rfl;have vo4:=vo2.keep x2 k4;refine⟨m0,em▸lt_succ_self m0,i+1,ys++[iv],V4,some y,_,_,(Nat.succ_add_eq_add_succ m0 i).symm.trans (em▸hmi),by assumption,x5,Keep.hidden (t:=0) (k2.trans k4) x4 p5 dD sb5,vo4.other (t:=0) x4 p5 λa ha=>sb5 a (ownD a ha),?_,get?_update_seq hD4 _,?_,by simp;assumption,λf=>fD4 ((fo5 _).mp f),λf=>fI4 ((fo5 _).mp f),q4⟩
    .exact io.frame _ _ _ j4 λb ob e hb=>by
      rcases hb with rfl|hb
      .exact O (sb5 _ (Ne.symm hDI)) e
      .exact p5.tups b ob e hb
    .exact O Array.toList_push ((rD4.mono p5.tups).append ⟨rz.mono p5.tups,trivial⟩)
   .rw[if_neg hok]at h₃⊢;o_shape;obtain⟨V4,x4,k4,q4⟩:=h₃;obtain⟨j4,hD4,rD4,fD4,fI4⟩:=carry x4 k4;pv_eval;exact⟨m0,em▸lt_succ_self m0,i+1,ys,V4,some y,vs,c,(Nat.succ_add_eq_add_succ m0 i).symm.trans (em▸hmi),by assumption,x4,k2.trans k4,vo2.keep x2 k4,j4,hD4,rD4,by exact le_succ_of_le ‹_›,fD4,fI4,q4⟩
  .have hie:i=xs.length:=by lia
   subst hie;obtain⟨al,q⟩:=done ys V' inv';refine bK (io.fin s' V' j' x' al _ λh₁ tk eb=>?_) (λ_ _ z=>z) λ_ _ e=>e.elim;o_shape;refine io.liv j' λoI hoI ntI=>?_;have p1:Pres B V' s'.heap h₁:=λb ob e=>by
    by_cases hb:b=I
    .obtain rfl:=hb.symm;obtain rfl:=Os hoI e;exact .inr ⟨fI',ntI,bI⟩
    .exact .inl (eb b ob hb e)
   have x1:St B V' {s' with heap:=h₁,toks:=tk}:=x'.pres (s':={s' with heap:=h₁,toks:=tk}) p1 rfl rfl;have fo1:=Pres.foot (s':={s' with heap:=h₁,toks:=tk}) x' p1;have k1:Keep V₀ s₀.heap V' h₁:=⟨λb ob e nf=>by
    have hb:b≠I:=λh=>by obtain rfl:=h.symm;exact On dI e
    exact eb b ob hb (k'.old b ob e nf),λb f=>k'.grow b ((fo1 b).mp f)⟩
   have hD1:IsL h₁ D vs c:=eb D _ hDI hD';have fD1:¬aS V' h₁ D:=λf=>fD' ((fo1 _).mp f);have hn:V' D=none:=by
    induction e:V' D with
    |none=>rfl
    |some _=>exact absurd (.inl (by refine O e ?_;simp)) fD'
   have x2:St B (upd V' D (.list ys)) {s' with heap:=h₁,toks:=tk}:=x1.reveal (io:=.list ys) rfl fD1 bD ⟨vs,c,hD1,rD.mono p1.tups,by exact cn ‹_› ‹_›⟩;have k2:Keep V₀ s₀.heap (upd V' D (.list ys)) h₁:=k1.reveal rfl dD;obtain⟨mm,⟨oc,es,ep,hoc,rc⟩,_⟩:=vo'.loc;pv_eval;refine fin _ _ x2 k2 (q D hn) ⟨mm,oc,es,ep,eb _ _ (Ne.symm hIC) hoc,rc⟩ λf=>?_;have nfC:¬aS V' h₁ cenv.locals:=λf=>vo'.nf ((fo1 _).mp f);rcases f with f|⟨b',c',fs,o',e1,e2,e3⟩
   .by_cases e:cenv.locals=D
    .exact hDC e.symm
    .rw[cH _ _ e]at f;exact nfC (.inl f)
   .by_cases e':b'=D
    .obtain rfl:=e'.symm;replace e1:=Oe (fh ..) e1;cases e1
    .exact nfC (.inr ⟨b',c',fs,o',(Oe (cH _ _ e') e1),e2,e3⟩)
end
section
set_option tactic.hygienic true
inductive PS (B:Bs) (V:IH) (h:Heap) (K:List IV->IH->Prop) (vs:List Value) (s':Shared):Prop
 |mk (V':IH) (ys:List IV) (x:St B V' s') (k:Keep V h V' s'.heap) (r:VRs B s'.heap vs ys) (q:K ys V')
theorem rk {nm:PySem.Str} (h:g9 o=false):attributeBase o nm env w=w:=by
 cases o with
 |Call f as ks p=>cases f with
  |Name id q=>induction as with
   |nil=>induction ks with
    |nil=>rcases h
    |cons=>rfl
   |cons=>rfl
  |_=>rfl
 |_=>rfl
structure SE (B:Bs) (n:Nat) (Z:aL) (e:ME) (env:Env) (A:Around) (V:IH) (s:Shared) (x:Expr):Prop where
 v:∀Q,(aI B n Z e).e Q V->wpAny (model pw B.w) A (eval x env) (PP B V s.heap Q) aA s
 t:∀K,(aI B n Z e).t K V->wpAny (model pw B.w) A (isTrue x env (eval x env)) (PT B V s.heap K) aA s
def aD (B:Bs) (e:ME):Prop:=∀ ⦃n:Nat⦄ ⦃sc:Scope⦄ ⦃env:Env⦄ ⦃ns:List PySem.Str⦄ ⦃Z:aL⦄ ⦃A:Around⦄ ⦃V:IH⦄ ⦃s:Shared⦄ ⦃x:Expr⦄,mE sc ns e x=true->Ok B n sc env ns Z A V s->SE B n Z e env A V s x
def fj (B:Bs) (es:MEs):Prop:=∀ ⦃n:Nat⦄ ⦃sc:Scope⦄ ⦃env:Env⦄ ⦃ns:List PySem.Str⦄ ⦃Z:aL⦄ ⦃A:Around⦄ ⦃V:IH⦄ ⦃s:Shared⦄ ⦃xs:List Expr⦄ ⦃pos:Pos⦄,dP sc ns es xs=true->Ok B n sc env ns Z A V s->
 ∀K,fO B n Z es K V->wpAny (model pw B.w) A (spliced (backTo pos (starEach xs env))) (PS B V s.heap K) aA s
theorem dG {ys:List Expr} (h:gM y=true):starEach (y::ys) env=(false,eval y env)::starEach ys env:=by
 rcases y<;>first|rfl|exact(bE h).elim
theorem yh {sc:Scope}:∀{es:MEs},dP sc ns es xs=true->(backTo pos (starEach xs env)).any (·.1)=false:=by
 induction xs with
 |nil=>intro es _;rfl
 |cons x xs ih=>
  intro es h;rcases es with _|⟨e,es⟩
  .exact nomatch h
  .have h:=bc (bc (show dP sc ns (.cons e es) (x::xs)=true from h)).2;refine O (dG h.2) ?_;have:=ih h.1;unfold backTo at this⊢
   simpa using this
theorem Dx {sc:Scope}:∀{es:MEs} {xs:List Expr},dP sc ns es xs=true->(backTo pos (starEach xs env)).all (λx=> !x.1)=true:=λ{es xs} h=>by
 have:=yh (env:=env) (pos:=pos) h;rw[any_eq_false]at this;rw[all_eq_true];intro x hx
 simpa using this x hx
noncomputable def jO:BI->Value
 |.len=>.builtin "len"
 |.sorted=>.builtin "sorted"
 |.list=>.type "list"
 |.tuple=>.type "tuple"
 |.sum=>.builtin "sum"
 |.int=>.type "int"
theorem Eh (b:BI):(yK b,jO b)∈bTab:=by rcases b<;>decide+kernel
section
variable{B:Bs} {n:Nat} {sc:Scope} {env:Env} {ns:List PySem.Str} {Z:aL} {A:Around} {V:IH} {s:Shared}
theorem rV {nm:PySem.Str} (h:gi sc nm=true) (hs:ScE sc env):env.kindOf nm=some .globalImplicit/\(nm==("__debug__":PySem.Str))=false:=by
 unfold gi at h;simp only[and_eq_true,beq_iff_eq,bne_iff_ne]at h;exact⟨hs.gl _ h.1,beq_false_of_ne h.2⟩
theorem kD {nm:PySem.Str} {Q:Value->Shared->Prop} (ok:Ok B n sc env ns Z A V s) (h:gi sc nm=true) (ht:(nm,v)∈bTab) (q:Q v s):wpAny (model pw B.w) A (eval (.Name nm pos) env) Q aA s:=by
 obtain⟨h1,h2⟩:=rV h ok.sc;have a:=hU.mp (Ex B.w.params) _ ht;have b:=hU.mp Ey _ ht;simp only[and_eq_true,beq_iff_eq,bne_iff_ne]at a b;exact ok.b.mb ok.x ok.vo h1 h2 a.1 b a.2 q
theorem Q5 {nm:PySem.Str} {Q:Value->Shared->Prop} (ok:Ok B n sc env ns Z A V s) (h:gi sc nm=true) (ht:gTab.contains (nm,g)=true) (q:Q (.ref g) s):wpAny (model pw B.w) A (eval (.Name nm pos) env) Q aA s:=by
 obtain⟨h1,h2⟩:=rV h ok.sc;have a:=hU.mp (GW B.w.params) (nm,g) (by simpa using ht);simp only[beq_iff_eq]at a;exact ok.b.mg ok.x ok.vo h1 h2 a q
theorem Q4 {nm:PySem.Str} {Q:Value->Shared->Prop} (ok:Ok B n sc env ns Z A V s) (h:gi sc nm=true) (ht:cTab.contains (nm,i,t)=true) (q:Q (.int i t) s):wpAny (model pw B.w) A (eval (.Name nm pos) env) Q aA s:=by
 obtain⟨h1,h2⟩:=rV h ok.sc;have a:=hU.mp (Gc B.w.params) (nm,i,t) (by simpa using ht);simp only[beq_iff_eq]at a;exact ok.b.mg ok.x ok.vo h1 h2 a q
theorem Hw {nm:PySem.Str} (ht:gTab.contains (nm,g)=true) (P:Params):keepIn (K P) (.ref g)=true:=by
 have h:=zD P;simp only[and_eq_true]at h;exact hU.mp h.1.1 (nm,g) (by simpa using ht)
theorem Hx (ht:mTab.contains (c,m,f)=true) (P:Params):keepIn (K P) (.ref f)=true:=by
 have h:=zD P;simp only[and_eq_true]at h;exact hU.mp h.1.2 (c,m,f) (by simpa using ht)
theorem yS {K':List IV->IH->Prop} {R:Value->Shared->Prop} (hk:keepIn (K B.w.params) f=true) (ih:fj B es) (hm:dP sc ns es xs=true) (ok:Ok B n sc env ns Z A V s)
 (q:fO B n Z es K' V) (h:∀vs s1 V1 ys,St B V1 s1->Keep V s.heap V1 s1.heap->VRs B s1.heap vs ys->K' ys V1->wpAny (model pw B.w) A (call f (first++vs)) R aA s1):
 wpAny (model pw B.w) A (callWith pos f first (backTo pos (starEach xs env)) []) R aA s:=by
 cases es with
 |nil=>
  refine j0 (l:=xs) hm λ_=>?_;exact callWith_K0 (ok.b.kin' ok.x) hk (h [] s V [] ok.x (Keep.refl _ _) trivial q)
 |cons e es=>
  have ih:=ih (pos:=pos) hm ok _ q;revert ih;refine jc (l:=xs) hm λy ys hm' ih=>?_;have hm':=bc (bc hm').2;refine callWith_K (h₀:=B.h0) ok.b.kin hk ?_ (dG hm'.2) (yh hm'.1);exact bK ih (λvs s1 zq=>by obtain⟨V1,zs,a,b,c,d⟩:=zq;exact⟨ok.b.kin' a,h vs s1 V1 zs a b c d⟩) λ_ _ e=>e
theorem ry {y:Expr} {R:Value->Shared->Prop} (hv:(∃id,v=.builtin id)\/∃T,v=.type T) (hy:gM y=true)
 (h:wpAny (model pw B.w) A (eval y env) (λw s1=>wpAny (model pw B.w) A (call v [w]) R aA s1) aA s):wpAny (model pw B.w) A (callWith pos v [] (backTo pos (starEach [y] env)) []) R aA s:=by
 have hp:(backTo pos (starEach [y] env)).any (·.1)=false:=by exact O (dG hy) rfl
 have he:wpAny (model pw B.w) A (evalArgs v true (backTo pos (starEach [y] env)) []) (λa s1=>wpAny (model pw B.w) A (call v ([]++a.pos) a.kw) R aA s1) aA s:=by
  exact dG hy▸evalArgs_plain (spliced_cons (bK h (λw s1 h₁=>spliced_nil h₁) λ_ _ e=>e))
 rcases hv with⟨id,rfl⟩|⟨T,rfl⟩
 .exact callWith_builtin hp he
 .exact PyProof.Rows.callWith_type hp he
theorem FZ {R:Value->Shared->Prop} (hv:(∃id,v=.builtin id)\/∃T,v=.type T) (hy:gM y=true) (hz:gM z=true)
 (h:wpAny (model pw B.w) A (eval y env) (λw s1=>wpAny (model pw B.w) A (eval z env) (λw' s₂=>wpAny (model pw B.w) A (call v [w,w']) R aA s₂) aA s1) aA s):wpAny (model pw B.w) A (callWith pos v [] (backTo pos (starEach [y,z] env)) []) R aA s:=by
 have hp:(backTo pos (starEach [y,z] env)).any (·.1)=false:=by exact O (dG hy) (O (dG hz) rfl)
 have he:wpAny (model pw B.w) A (evalArgs v true (backTo pos (starEach [y,z] env)) []) (λa s1=>wpAny (model pw B.w) A (call v ([]++a.pos) a.kw) R aA s1) aA s:=by
  exact O (dG hy) (O (dG hz) (evalArgs_plain (spliced_cons (bK h (λw s1 h₁=>spliced_cons (bK h₁ (λw' s₂ h₂=>spliced_nil h₂) λ_ _ e=>e)) λ_ _ e=>e))))
 rcases hv with⟨id,rfl⟩|⟨T,rfl⟩
 .exact callWith_builtin hp he
 .exact PyProof.Rows.callWith_type hp he
theorem H1 (e:ME):mE sc ns e (.Starred a p)=false:=by rcases e<;>rfl
theorem eU (h:mE sc ns e y=true):gM y=true:=by
 by_cases hc:y.ctorIdx=22
 .revert h;exact Expr.Starred.elim (motive_1:=λy=>mE sc ns e y=true->gM y=true) y hc λa p h=>by exact(bE (Oe (H1 ..) h)).elim
 .exact bne_iff_ne.2 hc
theorem rB {o:Expr} {name:PySem.Str} {apos pos:Pos} {args:List Expr} {T id:String} {Q₁:QE} {R:Value->Shared->Prop} (hsup:g9 o=false) (hfew:(backTo pos (starEach args env)).all (λx=> !x.1)=true) (hlen:args.length<29) (hline:(apos.endLine==pos.line)=true)
 (pa:PlainAttrs T) (slot:Slot T name id) (hty:typeOf (.builtin id)=pure (.type "method_descriptor"))
 (ho:wpAny (model pw B.w) A (eval o env) (PP B V s.heap Q₁) aA s)
 (h:∀v s1 V1 i,St B V1 s1->Keep V s.heap V1 s1.heap->VR B s1.heap v i->Q₁ i V1->(∃a ob,v=.ref a/\s1.heap.get? a=some ob/\ob.cls=.type T/\ob.dict=none)/\
   wpAny (model pw B.w) A (evalArgs (.builtin id) true (backTo pos (starEach args env)) []) (λa s₂=>wpAny (model pw B.w) A (call (.builtin id) ([v]++a.pos) a.kw) R aA s₂) aA s1):
 wpAny (model pw B.w) A (eval (.Call (.Attribute o name apos) args [] pos) env) R aA s:=by
 refine wpAny_Call_method (rk hsup) ?_ hline pa slot hty ?_
 .refine O hfew ?_;refine O (show backToKw pos (keywordEach [] env)=[]from rfl) ?_;simp only[map_nil,all_nil,length_nil,isEmpty_nil,if_true,Bool.true_and,decide_eq_true_eq];exact lt_succ_of_lt ‹_›
 .refine PP.bind ho λv s1 V1 i x1 k1 r1 q1=>?_;obtain⟨⟨a,ob,rfl,g,hc,hd⟩,he⟩:=h v s1 V1 i x1 k1 r1 q1;refine⟨⟨ob,g,hc⟩,λa' e=>by rcases e;exact⟨ob,g,hd⟩,callWith_builtin ?_ he⟩;rw[any_eq_false];intro z hz;have:=hU.mp hfew z hz
  simpa using this
theorem rW (x:St B V s) (r:VR B s.heap v i) (h:isLst i V):∃a ob,v=.ref a/\s.heap.get? a=some ob/\ob.cls=.type "list"/\ob.dict=none:=by
 obtain⟨p,xs,rfl,e⟩:=h;obtain rfl:=r;obtain⟨vs,n,g,_⟩:=x.ro _ _ e;exact⟨_,_,rfl,g,rfl,rfl⟩
theorem zz (x:St B V s) (r:VR B s.heap v i) (h:isDct i V):∃a ob,v=.ref a/\s.heap.get? a=some ob/\ob.cls=.type "dict"/\ob.dict=none:=by
 rcases h with⟨p,kvs,ep,rfl,e⟩|⟨p,kvs,ep,rfl,e⟩
 .obtain rfl:=r;obtain⟨kvs',⟨o,es,g,ed,_⟩,_⟩:=x.ro _ _ e;exact⟨_,_,rfl,g,ed.1,ed.2.1⟩
 .obtain rfl:=r;obtain⟨kvs',⟨o,es,g,ed,_⟩,_⟩:=x.ro _ _ e;exact⟨_,_,rfl,g,ed.1,ed.2.1⟩
theorem jE {value slice:Expr} {o i:Value} {T id:String} {R:Value->Shared->Prop} (hT:s.TypeIs o T) (hl:typeLookup (.type T) "__getitem__"=pure (some (.builtin id))) (hs:j7 slice=false) (h:wpAny (model pw B.w) A (getItem o i) R aA s):
 wpAny (model pw B.w) A (subscriptTail value slice o i) R aA s:=by
 unfold subscriptTail;refine ay ?_;refine O (getitemInPython_of_ne hT.not_modules) (ay (wpAny_specialOf hT hl ?_));have e:subscripted slice false o i=operate [o,i] (getItem o i):=by
  rcases slice<;>first|rfl|rcases hs
 refine aT ?_;exact e▸ay (wpAny_operating (bK h (λr s3 h3=>ay (wpAny_letTemporaryGo (aT h3))) λ_ _ x=>x))
theorem Eg {v u:Value} (R':A.units+64<cLine) (hs:j7 slice=false) (x:St B V s) (hv:VR B s.heap v a) (hu:VR B s.heap u b) (q:atI a b Q V):
 wpAny (model pw B.w) A (subscriptTail value slice v u) (PP B V s.heap Q) aA s:=by
 have base:=SO (A:=A) x R' hv hu q;rcases q with⟨p,_,xs,_,_,rfl,_,e1,_⟩|⟨p,_,kvs,ep,_,rfl,_,e1,_⟩|⟨p,_,_,kvs,ep,_,rfl,_,e1,_⟩|⟨xs,_,_,_,rfl,_⟩|⟨ns,_,_,_,rfl,_⟩
 .obtain rfl:=hv;obtain⟨vs,n,g,_⟩:=x.ro _ _ e1;exact jE ⟨_,g,rfl⟩ slot_list_getitem.lookup hs base
 .obtain rfl:=hv;obtain⟨kvs',g,_⟩:=x.ro _ _ e1;exact jE g.dictOf.typeIs slot_dict_getitem.lookup hs base
 .obtain rfl:=hv;obtain⟨kvs',g,_⟩:=x.ro _ _ e1;exact jE g.of.typeIs slot_dict_getitem.lookup hs base
 .obtain⟨p,its,rfl,⟨o,ho,hc,_⟩,_⟩:=hv;exact jE ⟨o,ho,hc⟩ slot_tuple_getitem.lookup hs base
 .obtain⟨p,its,rfl,⟨o,ho,hc,_⟩,_⟩:=hv.frzList x;exact jE ⟨o,ho,hc⟩ slot_list_getitem.lookup hs base
end
end
section
variable{B:Bs} {n:Nat} {sc sc':Scope} {env:Env} {ns ns':List PySem.Str} {Z:aL} {A:Around} {V:IH} {s:Shared} {t:Nat} {tx:PySem.Str}
theorem zA {R:Value->Shared->Prop} (ih:aD B se) (hk:fJ sc k (λz=>mE sc ns se z) x=true) (ok:Ok B n sc env ns Z A V s) (q:(aI B n Z se).e Q₁ V)
 (h:∀v s1 V1 i,St B V1 s1->Keep V s.heap V1 s1.heap->VR B s1.heap v i->Q₁ i V1->MkIt B A k v R s1):wpAny (model pw B.w) A (eval x env) R aA s:=by
 induction k with
 |it=>exact PP.bind ((ih (bc hk).2 ok).1 _ q) λv s1 V1 i a b c d=>h v s1 V1 i a b c d
 |rng=>
  refine ig (x:=x) hk λ_ as pos hg hk=>j1 (l:=as) hk λy hm=>?_;exact wpAny_Call_Name_kw (kD ok hg (v:=.type "range") (by decide+kernel) (ry (.inr ⟨_,rfl⟩) (eU hm) (PP.bind ((ih hm ok).1 _ q) λv s1 V1 i a b c d=>h v s1 V1 i a b c d)))
 |rev=>
  refine ig (x:=x) hk λ_ as pos hg hk=>j1 (l:=as) hk λy hm=>?_;exact wpAny_Call_Name_kw (kD ok hg (v:=.type "reversed") (by decide+kernel) (ry (.inr ⟨_,rfl⟩) (eU hm) (PP.bind ((ih hm ok).1 _ q) λv s1 V1 i a b c d=>h v s1 V1 i a b c d)))
theorem zt {m:Expr->Bool} (h:fJ sc k m x=true) (v:Value):foldedSetIterable x env v=pure v:=by
 induction k with
 |it=>rcases x<;>first|rfl|exact(bE h).elim
 |rng=>exact ig (x:=x) h λ_ _ _ _ _=>rfl
 |rev=>exact ig (x:=x) h λ_ _ _ _ _=>rfl
theorem jP {turn:IV->(Option IV->IH->Prop)->IH->Prop} {use:Option (Value->Sem Unit)} {R:Value->Shared->Prop}
 (ih:aD B se) (hok:gG sc ns sc' ns' t tx=true) (hik:fJ sc k (λz=>mE sc ns se z) iter=true) (ok:Ok B n sc env ns Z A V s)
 (hturn:∀cenv:Env,ScE sc' cenv->jM B A cenv ns' Z t ifs elt turn) (q:(aI B n Z se).e (λx=>itI k x λxs alive=>gE xs alive turn Q) V)
 (fin:∀s1 V1,St B V1 s1->Keep V s.heap V1 s1.heap->∀D C s' V',St B V' s'->Keep V1 s1.heap V' s'.heap->Q (.ref D) V'->(∃m,s'.heap.Ns C m)->¬aS V' s'.heap C->s1.heap.get? C=none->B.h0.get? C=none->compPost (model pw B.w) A aA use R (.ref D) C (.ok .next) s'):
 wpAny (model pw B.w) A (comprehension (.ListComp elt [⟨.Name tx px,iter,ifs,0⟩] sc' pos) sc' env pos' (newList []) false (eval iter env) use) R aA s:=by
 have C:=F9 hok;obtain⟨cl,hcl,hcl2⟩:=F6 env sc' λp hp hf=>by
  o_shape;obtain⟨h1,h2,h3⟩:=C.nfree p hp hf;obtain⟨i,hi,e⟩:=List.mem_iff_getElem.mp h2;obtain⟨c,v,h4,_⟩:=ok.vo.cell i p.1 (O (c8 hi) (O e rfl)) h3 (ok.sc.ce _ h1);pv_eval;exact⟨c,h4⟩
 refine wpAny_comprehension_free (cl:=cl) rfl (λv=>zt hik v) hcl C.kind (λp hp hl=>C.nloc p hp hl) ?_;refine zA (Q₁:=λx=>itI k x λxs alive=>gE xs alive turn Q) ih hik ok q λv s1 V1 i x1 k1 r1 q1=>?_;refine(By ok.b ok.R.hand x1 r1 q1).mono λv1 s1' h₁=>bK h₁ (λit s₂ h₂=>?_) λ_ _ e=>e;o_shape;obtain⟨xs,alive,I,J,rfl,ci,io,j,x2,hl,kp2,dI,tk,es2⟩:=h₂;obtain⟨Inv,inv0,step,done⟩:=ci;obtain⟨h₂,g2,d2,t2,os2⟩:=s₂;pv_eval;refine wpAny_newObj_type ?_;have hD:IsL (h₂.push {cls:=.type "list",data:=.seq ([]:List Value).toArray}) h₂.objs.size #[] 0:=c7 _ rfl;have dD2:h₂.get? h₂.objs.size=none:=get?_none_of_le (aY _);have dead:∀{a:Addr},h₂.get? a=none->s1.heap.get? a=none:=λ{a} h=>by
  induction e:s1.heap.get? a with
  |none=>rfl
  |some o=>exact Om (kp2 a o e) h
 have kp3:∀b o,h₂.get? b=some o->(h₂.push {cls:=.type "list",data:=.seq ([]:List Value).toArray}).get? b=some o:=λb o e=>cP _ e;generalize hH:h₂.push {cls:=.type "list",data:=.seq ([]:List Value).toArray}=H at hD kp3⊢;have hsz:H.objs.size=h₂.objs.size+1:=by exact Ob hH (O (size_push ..) rfl)
 refine wpAny_newFunctionEnv (λp hp=>C.ncell p hp) (λp hp=>by cases hp) (λh₄ hns hsb=>?_) C.kind;dsimp only at hns hsb⊢;have kp4:∀b o,H.get? b=some o->h₄.get? b=some o:=λb o e=>by
  have hb:b≠H.objs.size:=ne_of_lt (lt_size e);exact O (hsb.2 b hb) (cP _ e)
 have kp:∀b o,s1.heap.get? b=some o->h₄.get? b=some o:=λb o e=>kp4 _ _ (kp3 _ _ (kp2 b o e));have dL2:h₂.get? H.objs.size=none:=get?_none_of_le (by omega);have es2':(⟨h₂,g2,d2,t2,os2⟩:Shared)={s1 with heap:=h₂,toks:=tk}:=es2;have eg:g2=s1.gens:=be Shared.gens es2';have ed:d2=s1.drawn:=be Shared.drawn es2';have eo:os2=s1.os:=be Shared.os es2';have x4:St B V1 {s1 with heap:=h₄,toks:=t2+0}:=x1.pres (s':={s1 with heap:=h₄,toks:=t2+0}) (Pres.ofKeeps kp) rfl rfl;have k4:Keep V1 s1.heap V1 h₄:=Pres.keep (s':={s1 with heap:=h₄,toks:=t2+0}) x1 kp;have vo1:=ok.vo.keep ok.x k1;obtain⟨vo4,sc4⟩:=Ga (V:=V1) C ok.sc vo1 x1 hcl2 (h':=h₄) (L:=H.objs.size) hns (dead dL2) kp;have nb:∀{a:Addr},s1.heap.get? a=none->B.h0.get? a=none:=λ{a} h=>by
  induction e:B.h0.get? a with
  |none=>rfl
  |some o=>exact Om (x1.keep _ _ e) h
 have fo4:=Pres.foot (s':={s1 with heap:=h₄,toks:=t2+0}) x1 (Pres.ofKeeps kp);have hIlt:I<h₂.objs.size:=by
  refine io.liv j λo ho _=>?_;exact lt_size ho
 have j4:J 0 h₄:=io.frame _ _ _ j λb o e _=>kp4 _ _ (kp3 _ _ e);have kind:(compEnvC sc' cl H.objs.size env).kindOf tx=some .local:=lookup_relabel_local C.tloc;have own:∀a,bN (compEnvC sc' cl H.objs.size env) ns' a->a=(compEnvC sc' cl H.objs.size env).locals\/∃o,s1.heap.get? a=some o:=λa ha=>by
  rcases ha with h|⟨i,z,hi,hz,hkz,hc⟩
  .exact .inl h
  .right;have e:i≠t:=λe=>by obtain rfl:=e.symm;obtain rfl:=Os C.tgt hi;replace hkz:=Oe kind hkz;cases hkz
   o_shape;obtain⟨h1,h2,h3⟩:=C.slots i z hi hz e;have h4:=PySem.mem_of_lookup h2;obtain⟨c,w,g1,⟨o,ho,_⟩,_⟩:=vo1.cell i z h1 hz (ok.sc.ce z (C.nfree _ h4 rfl).1);pv_eval;have:cl.lookup z=some c:=(hcl2 z h4).trans g1;rw[show(compEnvC sc' cl H.objs.size env).cells=cl from rfl,this]at hc;obtain rfl:=aP hc;exact⟨o,ho⟩
 have hDL:h₂.objs.size≠(compEnvC sc' cl H.objs.size env).locals:=ne_of_lt (by show h₂.objs.size<H.objs.size;exact O hsz (lt_succ_self _));have hIL:I≠(compEnvC sc' cl H.objs.size env).locals:=ne_of_lt (by show I<H.objs.size;exact O hsz (lt_succ_of_lt hIlt));have main:∀{E':Result->Shared->Prop},(∀s' V',St B V' s'->Keep V1 s1.heap V' s'.heap->Q (.ref h₂.objs.size) V'->(∃m,s'.heap.Ns H.objs.size m)->¬aS V' s'.heap H.objs.size->E' (.ok .next) s')->
  codeAny (model pw B.w) A (.compLoop (.ListComp elt [⟨.Name tx px,iter,ifs,0⟩] sc' pos) 0 (.ref I) (.ref h₂.objs.size) (compEnvC sc' cl H.objs.size env)) E' {s1 with heap:=h₄,toks:=t2+0}:=λ{E'} fin'=>
  Gb (s₀:=s1) (V₀:=V1) io hl C kind (hturn _ sc4) Inv step done x4 k4 vo4 j4 (kp4 _ _ hD) inv0 own (dead dD2) dI (dead dL2) (ne_of_gt hIlt) hDL hIL
   (λf=>x1.nofoot (dead dD2) ((fo4 _).mp f)) (λf=>x1.nofoot dI ((fo4 _).mp f)) (nb (dead dD2)) (nb dI) fin'
 subst eg ed eo;have R':=main (E':=compPost (model pw B.w) A aA use R (.ref h₂.objs.size) H.objs.size) λs' V' a b c d e=>fin s1 V1 x1 k1 _ _ s' V' a b c d e (dead dL2) (nb (dead dL2));exact codeAny_compStart_list R' (io.self 0 _ j4 _ _ R')
end
section
set_option tactic.hygienic true
section
variable{B:Bs} {n:Nat} {sc sc':Scope} {env:Env} {ns ns':List PySem.Str} {Z:aL} {A:Around} {V:IH} {s:Shared} {t:Nat} {tx:PySem.Str}
theorem yX {s1 s':Shared} {C D:Addr} (k1:Keep V s.heap V1 s1.heap) (x':St B V' s') (k':Keep V1 s1.heap V' s'.heap) (q:Q (.ref D) V') (hn:∃m,s'.heap.Ns C m) (nf:¬aS V' s'.heap C) (dC:s1.heap.get? C=none) (bC:B.h0.get? C=none):
 compPost (model pw B.w) A aA none (PP B V s.heap Q) (.ref D) C (.ok .next) s':=by
 obtain⟨m,hn⟩:=hn;refine⟨m,hn,λh' sb=>PP.from k1 ?_⟩;o_shape;obtain⟨o,es,ep,ho,hd,_⟩:=hn;pv_eval;have p:Pres B V' s'.heap h':=gP (t:=0) x' ho (λzq=>by obtain⟨_,its,n,e⟩:=zq;rcases(Oe hd e)) nf bC sb.2;exact⟨V',.ref D,x'.pres (s':={s' with heap:=h'}) p rfl rfl,Keep.hidden (t:=0) k' x' p dC sb.2,VR_ref.mpr rfl,q⟩
theorem DM (ih:aD B e) (hb:Base B) (R:RoomB n A) (hm:mE sc' ns' e elt=true) (cenv:Env) (hs:ScE sc' cenv):
 jM B A cenv ns' Z t [] elt (λy K=>(aI B n (Z.set t (some y)) e).e λz=>K (some z)):=λs V y K x vo q=>by
 show wpAny _ _ (pure true) _ _ _;refine aT ?_;exact O (ax rfl) ((ih hm ⟨hb,hs,R,x,vo⟩).1 _ q)
theorem DJ {test elt:Expr} (ihc:aD B c) (ih:aD B e) (hb:Base B) (R:RoomB n A) (hc:mE sc' ns' c test=true) (hm:mE sc' ns' e elt=true) (cenv:Env) (hs:ScE sc' cenv):
 jM B A cenv ns' Z t [test] elt (λy K=>(aI B n (Z.set t (some y)) c).t λr V=>if r=true then(aI B n (Z.set t (some y)) e).e (λz=>K (some z)) V else K none V):=λs V y K x vo q=>by
 refine O (List.forIn_cons ..) ?_;simp only[List.forIn_nil,if_true];refine ay (ay (PT.bind ((ihc hc ⟨hb,hs,R,x,vo⟩).2 _ q) λr s1 V1 x1 k1 q1=>?_));refine aT ?_;dsimp only;refine aT ?_;by_cases hr:r=true
 .rw[if_pos hr]at q1⊢;exact PP.go k1 ((ih hm ⟨hb,hs,R,x1,vo.keep x k1⟩).1 _ q1)
 .rw[if_neg hr]at q1⊢;exact⟨V1,x1,k1,q1⟩
theorem Q8 {vs:List Value} {xs:List IV} (x:St B V s) (r:VRs B s.heap vs xs) (l:xs.length<1000000) (q:Q (.tup xs) V):
 PP B V s.heap Q (.ref s.heap.objs.size) {s with heap:=s.heap.push {cls:=.type "tuple",data:=.seq vs.toArray}}:=by
 obtain⟨a,b⟩:=x.extra {cls:=.type "tuple",data:=.seq vs.toArray} s.toks;refine⟨V,.tup xs,a,b,⟨_,vs.toArray,rfl,⟨_,c7 _ rfl,rfl,0,rfl⟩,?_,l⟩,q⟩
 simpa using r.mono λa o e _=>cP _ e
theorem SR {v:Value} (ok:Ok B n sc env ns Z A V s) (hv:VR B s.heap v a) (q:fQ b a Q V):wpAny (model pw B.w) A (call (jO b) [v]) (PP B V s.heap Q) aA s:=by
 induction b with
 |len=>exact S1 ok.x hv q
 |sorted=>exact Ta ok.x ok.b.mods ok.R.hand hv q
 |list=>exact ST ok.x hv q
 |tuple=>exact Tc ok.x hv q
 |sum=>exact Tb ok.x ok.R.hand hv q
 |int=>exact S0 ok.x hv q
theorem En (b:BI):(∃id,jO b=.builtin id)\/∃T,jO b=.type T:=by
 rcases b<;>first|exact .inl ⟨_,rfl⟩|exact .inr ⟨_,rfl⟩
theorem SU (x:St B V s) (q:i6 k Q V):PP B V s.heap Q (.ref s.heap.objs.size) {s with heap:=s.heap.push {cls:=.type "dict",data:=.dict #[]}}:=by
 have none_keys:∀knd:PySem.KeyKind pw B.w Int,True:=λ_=>trivial
 induction k with
 |i=>
  refine PP.push (t:=s.toks) x (io:=.idict [] 0) rfl (λh' _ g=>⟨[],⟨_,#[],g,⟨rfl,rfl,rfl⟩,rfl,λe he=>by simp at he,.nil,nodup_nil⟩,.nil,by simp⟩) (q 0) rfl
 |s=>
  refine PP.push (t:=s.toks) x (io:=.sdict []) rfl (λh' _ g=>⟨[],⟨_,#[],0,g,⟨rfl,rfl,rfl⟩,rfl,λe he=>by simp at he,.nil,nodup_nil⟩,.nil,by simp⟩) q rfl
 |t=>
  refine PP.push (t:=s.toks) x (io:=.tdict [] 0) rfl (λh' _ g=>⟨[],⟨_,#[],g,⟨rfl,rfl,rfl⟩,rfl,rfl,λe he=>by simp at he,nodup_nil⟩,.nil,by simp⟩) (q 0) rfl
theorem DD (hn:gZ y=true):∀o r,letTemporaryGo y o r=pure ():=λo r=>by unfold gZ at hn;exact iN hn λa p _=>rfl
theorem T6 {y z:Expr} {p pos:Pos} {v:Value} {a b:IV} {Q:QE} (hn:gZ y=true) (x:St B V s) {Q₁:QE} {Q₂:IV->QE}
 (hy:wpAny (model pw B.w) A (eval y env) (PP B V s.heap Q₁) aA s) (hz:∀v s1 V1 i,St B V1 s1->Keep V s.heap V1 s1.heap->VR B s1.heap v i->Q₁ i V1->wpAny (model pw B.w) A (eval z env) (PP B V1 s1.heap (Q₂ i)) aA s1)
 (h:∀i j V2,Q₂ i j V2->uptoI i j Q V2):wpAny (model pw B.w) A (eval (.Subscript y (.Slice none (some z) none p) pos) env) (PP B V s.heap Q) aA s:=by
 refine wpAny_Subscript_list_slice ?_ (DD hn);refine PP.bind hy λv s1 V1 i x1 k1 r1 q1=>?_;refine aT (a:=Value.none) ?_;refine PP.bind (hz v s1 V1 i x1 k1 r1 q1) λw s₂ V2 j x2 k2 r2 q2=>?_;have q:=h i j V2 q2;have rv:=r1.keep x1 k2;have push2:∀{vs:Array Value} {xs:List IV} {o:Obj},VRs B s₂.heap vs.toList xs->xs.length<1000000->fresh (.list xs) Q V2->
  PP B V2 s₂.heap Q (.ref (s₂.heap.objs.size+1)) {s₂ with heap:=(s₂.heap.push o).push {cls:=.type "list",data:=.seq vs}}:=λ{vs xs o} r l q=>by
  have kp:∀b o',s₂.heap.get? b=some o'->((s₂.heap.push o).push {cls:=.type "list",data:=.seq vs}).get? b=some o':=λb o' e=>cP _ (cP _ e);have e1:(s₂.heap.push o).objs.size=s₂.heap.objs.size+1:=size_push ..;exact PP.lst (t:=s₂.toks) (n:=0) x2 (get?_none_of_le (by omega)) kp (e1▸c7 _ rfl) r l q
 rcases q with⟨p',k',xs,rfl,rfl,e1,ql,q⟩|⟨ns0,k',rfl,rfl,ql,q⟩
 .obtain rfl:=rv.symm;obtain⟨t',rfl⟩:=r2;refine(x2.ro _ _ e1).isList λvs g r hl=>?_;have l1:=r.length;simp only[length_toList]at l1;obtain⟨kk,rfl⟩:=eq_ofNat_of_zero_le ql;refine⟨_,vs,none,some (kk:Int),rfl,g,by refine O db ?_;omega,.none,.int _ _,PP.from (k1.trans k2) ?_⟩;refine O (slicePick_upto' ..) (push2 (xs:=xs.take kk) ?_ (by simp;exact cn (Nat.min_le_right _ _) hl) (q))
  simpa using r.take kk
 .obtain⟨p',its,rfl,g,r,hl⟩:=rv.frzList x2;obtain⟨t',rfl⟩:=r2;have l1:=r.length;simp only[length_toList]at l1;obtain⟨kk,rfl⟩:=eq_ofNat_of_zero_le ql;refine⟨_,its,none,some (kk:Int),rfl,g,by refine O db ?_;omega,.none,.int _ _,PP.from (k1.trans k2) ?_⟩;refine O (slicePick_upto' ..) (push2 (xs:=(ns0.take kk).map IV.int) ?_ (by simp;exact cn (Nat.min_le_right _ _) (lt_trans hl (by decide))) (q));have:=(VRs.of_ints (B:=B) (h:=s₂.heap) r).take kk
  simpa[map_take]using this
theorem T5 {y z:Expr} {p pos:Pos} {v:Value} {a b:IV} {Q:QE} (hn:gZ y=true) (x:St B V s) {Q₁:QE} {Q₂:IV->QE}
 (hy:wpAny (model pw B.w) A (eval y env) (PP B V s.heap Q₁) aA s) (hz:∀v s1 V1 i,St B V1 s1->Keep V s.heap V1 s1.heap->VR B s1.heap v i->Q₁ i V1->wpAny (model pw B.w) A (eval z env) (PP B V1 s1.heap (Q₂ i)) aA s1)
 (h:∀i j V2,Q₂ i j V2->fromI i j Q V2):wpAny (model pw B.w) A (eval (.Subscript y (.Slice (some z) none none p) pos) env) (PP B V s.heap Q) aA s:=by
 refine wpAny_Subscript_list_slice ?_ (DD hn);refine PP.bind hy λv s1 V1 i x1 k1 r1 q1=>?_;refine PP.bind (hz v s1 V1 i x1 k1 r1 q1) λw s₂ V2 j x2 k2 r2 q2=>?_;refine aT (a:=Value.none) ?_;have q:=h i j V2 q2;have rv:=r1.keep x1 k2;obtain⟨p',k',xs,rfl,rfl,e1,ql,q⟩:=q;obtain rfl:=rv.symm;obtain⟨t',rfl⟩:=r2;refine(x2.ro _ _ e1).isList λvs g r hl=>?_;have l1:=r.length;simp only[length_toList]at l1;obtain⟨kk,rfl⟩:=eq_ofNat_of_zero_le ql;refine⟨_,vs,some (kk:Int),none,rfl,g,by refine O db ?_;omega,.int _ _,.none,PP.from (k1.trans k2) ?_⟩;refine O (slicePick_from' ..) ?_;have kp:∀(o o2:Obj) b o',s₂.heap.get? b=some o'->((s₂.heap.push o).push o2).get? b=some o':=λo o2 b o' e=>cP _ (cP _ e);have e1:∀o:Obj,(s₂.heap.push o).objs.size=s₂.heap.objs.size+1:=λo=>size_push ..;refine PP.lst (t:=s₂.toks) (n:=0) (xs:=xs.drop kk) (vs:=(vs.toList.drop kk).toArray) x2 (get?_none_of_le (by omega)) (kp _ _) ?_ ?_ (by simp;exact cn (sub_le _ _) hl) (q)
 .rw[<-e1];exact c7 _ rfl
 .simpa using r.drop kk
end
end
theorem rE {B:Bs} {s:Shared} {h:Heap} {K:QB} (q:(match i with|.bool b=>K b V|_=>False)) (x:St B V s) (r:VR B s.heap v i):wpAny (model pw B.w) A (truthy v) (PT B V s.heap K) aA s:=by
 cases i with
 |bool b=>obtain rfl:=r;exact wpAny_truthy_bool ⟨V,x,Keep.refl _ _,q⟩
 |_=>exact q.elim
structure SV (B:Bs) (n:Nat) (Z:aL) (e:ME) (env:Env) (A:Around) (V:IH) (s:Shared) (x:Expr):Prop where
 hx:isTrue x env (eval x env)=(do let v <-eval x env;standAt x.pos;holding [v] (truthy v))
 v:∀Q,(aI B n Z e).e Q V->wpAny (model pw B.w) A (eval x env) (PP B V s.heap Q) aA s
theorem cG (hv:∀n Z,(aI B n Z e).t=(VP.of (aI B n Z e).e).t)
 (h:∀ ⦃n:Nat⦄ ⦃sc:Scope⦄ ⦃env:Env⦄ ⦃ns:List PySem.Str⦄ ⦃Z:aL⦄ ⦃A:Around⦄ ⦃V:IH⦄ ⦃s:Shared⦄ ⦃x:Expr⦄,mE sc ns e x=true->Ok B n sc env ns Z A V s->SV B n Z e env A V s x):aD B e:=
 λ_ _ _ _ _ _ _ _ _ hm ok=>let h:=h hm ok;⟨h.v,by exact O (hv ..) (U7 h.v h.hx)⟩
section
variable{B:Bs} {a b c d:ME}
theorem Ut {i}:aD B (.int i):=cG (λ_ _=>rfl) λn sc env ns Z A V s x hm ok=>by
 refine iC hm λj k p hm=>?_
 induction j with
 |int j=>obtain rfl:=eq_of_beq hm;exact⟨rfl,λQ q=>wpAny_Constant_int (PP.int ok.x q)⟩
 |_=>exact(bE hm).elim
theorem UE {i}:aD B (.str i):=cG (λ_ _=>rfl) λn sc env ns Z A V s x hm ok=>by
 refine iC hm λj k p hm=>?_
 induction j with
 |str j=>obtain rfl:=eq_of_beq hm;exact⟨rfl,λQ q=>wpAny_Constant_str (PP.tok ok.x (VR_str.mpr ⟨_,rfl⟩) q)⟩
 |_=>exact(bE hm).elim
theorem Ug {i}:aD B (.bool i):=cG (λ_ _=>rfl) λn sc env ns Z A V s x hm ok=>by
 refine iC hm λj k p hm=>?_
 induction j with
 |bool j=>obtain rfl:=eq_of_beq hm;exact⟨rfl,λQ q=>wpAny_Constant_bool (PP.boo ok.x q)⟩
 |_=>exact(bE hm).elim
theorem UA:aD B .non:=cG (λ_ _=>rfl) λn sc env ns Z A V s x hm ok=>by
 refine iC hm λj k p hm=>?_
 induction j with
 |none=>exact⟨rfl,λQ q=>wpAny_Constant_none (PP.non ok.x q)⟩
 |_=>exact(bE hm).elim
theorem Uv {i}:aD B (.loc i):=cG (λ_ _=>rfl) λn sc env ns Z A V s x hm ok=>by
 refine iN hm λnm p hm=>?_;refine bA hm λh1 h2=>?_;refine bA h2 λh2 h3=>?_;refine⟨rfl,λQ q=>?_⟩;have q:(match Z[i]? with|some (some v)=>Q v V|_=>False):=q
 induction e:Z[i]? with
 |none=>rw[e]at q;exact q.elim
 |some o=>
  rw[e]at q
  induction o with
  |none=>exact q.elim
  |some v=>exact ok.vo.load (eq_of_beq h1) (bne_iff_ne.1 h2) (beq_false_of_ne (bne_iff_ne.1 h3)) e λv r=>PP.same ok.x r q
theorem Us {g i t}:aD B (.glo g i t):=cG (λ_ _=>rfl) λn sc env ns Z A V s x hm ok=>by
 refine iN hm λnm p hm=>?_;refine dN hm λhz=>?_;exact⟨rfl,λQ q=>Q4 ok (bc hz).1 (bc hz).2 (PP.same ok.x (VR_int.mpr ⟨_,rfl⟩) q)⟩
theorem Uf {o} (ha:aD B a) (hb:aD B b):aD B (.bin o a b):=cG (λ_ _=>rfl) λn sc env ns Z A V s x hm ok=>by
 refine iB hm λo l r p hm=>?_;refine jN hm λhz=>?_;exact⟨rfl,λQ q=>wpAny_BinOp (PP.bind ((ha (bc hz).1 ok).1 _ q) λv s1 V1 i x1 k1 r1 q1=>PP.bind ((hb (bc hz).2 (ok.next x1 k1)).1 _ q1) λw s₂ V2 j x2 k2 r2 q2=>PP.go (k1.trans k2) (SS x2 (r1.keep x1 k2) r2 q2))⟩
theorem Uz (ha:aD B a):aD B (.neg a):=cG (λ_ _=>rfl) λn sc env ns Z A V s x hm ok=>by
 refine iU hm λo y p hm=>?_;refine dN hm λhz=>?_;exact⟨rfl,λQ q=>wpAny_UnaryOp (PP.bind ((ha hz ok).1 _ q) λv s1 V1 i x1 k1 r1 q1=>PP.go k1 (by
  cases i with
  |int i=>exact S5 x1 r1 q1
  |_=>exact q1.elim))⟩
theorem Ui {o} (ha:aD B a) (hb:aD B b):aD B (.cmp o a b):=λn sc env ns Z A V s x hm ok=>by
 refine zo hm λl _ _ p hm=>?_;refine j1 hm λo hm=>?_;refine j1 hm λr hm=>?_;refine jN hm λhz=>?_;refine bA hz λh1 hz=>?_;refine bA hz λh2 hz=>?_;have hz:=yQ hz;exact⟨λQ q=>wpAny_Compare1 (PP.bind ((ha h1 ok).1 _ q) λv s1 V1 i x1 k1 r1 q1=>PP.bind ((hb h2 (ok.next x1 k1)).1 _ q1) λw s₂ V2 j x2 k2 r2 q2=>PP.go (k1.trans k2) (qR x2 ok.b.mods ok.R.units (r1.keep x1 k2) r2 q2)) hz,
  λK q=>wpAny_isTrue_Compare1 (PP.bind ((ha h1 ok).1 _ q) λv s1 V1 i x1 k1 r1 q1=>PP.bind ((hb h2 (ok.next x1 k1)).1 _ q1) λw s₂ V2 j x2 k2 r2 q2=>
   PP.bind (qR x2 ok.b.mods ok.R.units (r1.keep x1 k2) r2 q2) λc s3 V3 z x3 k3 r3 q3=>PT.go ((k1.trans k2).trans k3) (rE (h:=s.heap) q3 x3 r3)) hz⟩
theorem Uj {o p} (ha:aD B a) (hb:aD B b) (hc:aD B c):aD B (.cmp2 o p a b c):=λn sc env ns Z A V s x hm ok=>by
 refine zo hm λl _ _ ps hm=>?_;refine j2 hm λo' p' hm=>?_;refine j2 hm λr r' hm=>?_;refine jN hm λhz=>?_;refine jN hz λhy=>?_;refine bA hy λh1 hy=>?_;refine bA hy λh2 hy=>?_;refine bA hy λh3 hy=>?_;have hy:=yQ hy;refine⟨λQ q=>False.elim q,λK q=>isTrue_chain (PP.bind ((ha h1 ok).1 _ q) λv s1 V1 i x1 k1 r1 q1=>test_link (PP.bind ((hb h2 (ok.next x1 k1)).1 _ q1) λw s₂ V2 j x2 k2 r2 q2=>
  PP.bind (qR x2 ok.b.mods ok.R.units (r1.keep x1 k2) r2 q2) λc' s3 V3 z x3 k3 r3 q3=>PT.bind (rE (h:=s.heap) (K:=λr V=>if r=true then(aI B n Z c).e (λz=>dx p j z K) V else K false V) q3 x3 r3) λt s4 V4 x4 k4 q4=>?_)) hy⟩
 have k:=((k1.trans k2).trans k3).trans k4
 induction t with
 |true=>
  exact test_last (PP.bind ((hc h3 (ok.next x4 k)).1 _ q4) λw' s5 V5 y x5 k5 r5 q5=>PP.bind (qR x5 ok.b.mods ok.R.units (((r2.keep x2 k3).keep x3 k4).keep x4 k5) r5 q5) λc' s₆ V6 z' x6 k6 r₆ q₆=>
   PT.go ((k.trans k5).trans k6) (rE (h:=s.heap) q₆ x6 r₆))
 |false=>exact⟨V4,x4,k,q4⟩
theorem UB (ha:aD B a):aD B (.not a):=λn sc env ns Z A V s x hm ok=>by
 refine iU hm λo y p hm=>?_;refine dN hm λhz=>?_;exact⟨λQ q=>wpAny_UnaryOp (PP.bind ((ha hz ok).1 _ q) λv s1 V1 i x1 k1 r1 q1=>not_value (PT.bind (qS x1 r1 q1) λb s₂ V2 x2 k2 q2=>⟨V2,.bool (!b),x2,k1.trans k2,VR_bool.mpr rfl,q2⟩)),
  λK q=>wpAny_isTrue_Not (PT.bind ((ha hz ok).2 _ q) λb s1 V1 x1 k1 q1=>⟨V1,x1,k1,q1⟩)⟩
theorem T9 (ha:aD B a) (hb:aD B b):aD B (.and a b):=λn sc env ns Z A V s x hm ok=>by
 refine iO hm λo _ p hm=>?_;refine dN hm λhz=>?_;refine j2 hz λy z hz=>?_;refine bA hz λh1 h2=>?_;refine⟨λQ q=>wpAny_And2 (PP.bind ((ha h1 ok).1 _ q) λv s1 V1 i x1 k1 r1 q1=>PT.bind (qS x1 r1 q1) λr s₂ V2 x2 k2 q2=>?_),
  λK q=>wpAny_isTrue_BoolOp (wpAny_allTrue_And_cons (PT.bind ((ha h1 ok).2 _ q) λr s1 V1 x1 k1 q1=>?_))⟩
 .cases r with
  |true=>exact PP.go (k1.trans k2) ((hb h2 (ok.next x2 (k1.trans k2))).1 _ q2)
  |false=>exact⟨V2,i,x2,k1.trans k2,r1.keep x1 k2,q2⟩
 .cases r with
  |true=>
   refine wpAny_allTrue_And_cons (PT.bind ((hb h2 (ok.next x1 k1)).2 _ q1) λr' s₂ V2 x2 k2 q2=>?_)
   cases r' with
   |true=>exact wpAny_allTrue_And_nil ⟨V2,x2,k1.trans k2,q2⟩
   |false=>exact⟨V2,x2,k1.trans k2,q2⟩
  |false=>exact⟨V1,x1,k1,q1⟩
theorem UC (ha:aD B a) (hb:aD B b):aD B (.or a b):=λn sc env ns Z A V s x hm ok=>by
 refine iO hm λo _ p hm=>?_;refine dN hm λhz=>?_;refine j2 hz λy z hz=>?_;refine bA hz λh1 h2=>?_;refine⟨λQ q=>wpAny_Or2 (PP.bind ((ha h1 ok).1 _ q) λv s1 V1 i x1 k1 r1 q1=>PT.bind (qS x1 r1 q1) λr s₂ V2 x2 k2 q2=>?_),
  λK q=>wpAny_isTrue_BoolOp (wpAny_allTrue_Or_cons (PT.bind ((ha h1 ok).2 _ q) λr s1 V1 x1 k1 q1=>?_))⟩
 .cases r with
  |true=>exact⟨V2,i,x2,k1.trans k2,r1.keep x1 k2,q2⟩
  |false=>exact PP.go (k1.trans k2) ((hb h2 (ok.next x2 (k1.trans k2))).1 _ q2)
 .cases r with
  |true=>exact⟨V1,x1,k1,q1⟩
  |false=>
   refine wpAny_allTrue_Or_cons (PT.bind ((hb h2 (ok.next x1 k1)).2 _ q1) λr' s₂ V2 x2 k2 q2=>?_)
   cases r' with
   |true=>exact⟨V2,x2,k1.trans k2,q2⟩
   |false=>exact wpAny_allTrue_Or_nil ⟨V2,x2,k1.trans k2,q2⟩
theorem Ua (ha:aD B a) (hb:aD B b) (hc:aD B c):aD B (.and3 a b c):=λn sc env ns Z A V s x hm ok=>by
 refine iO hm λo _ p hm=>?_;refine dN hm λhz=>?_;refine j3 hz λy z w hz=>?_;refine bA hz λh1 hz=>?_;refine bA hz λh2 h3=>?_;refine⟨λQ q=>False.elim q,λK q=>wpAny_isTrue_BoolOp (wpAny_allTrue_And_cons (PT.bind ((ha h1 ok).2 _ q) λr s1 V1 x1 k1 q1=>?_))⟩
 induction r with
 |true=>
  refine wpAny_allTrue_And_cons (PT.bind ((hb h2 (ok.next x1 k1)).2 _ q1) λr' s₂ V2 x2 k2 q2=>?_)
  induction r' with
  |true=>
   refine wpAny_allTrue_And_cons (PT.bind ((hc h3 (ok.next x2 (k1.trans k2))).2 _ q2) λr'' s3 V3 x3 k3 q3=>?_)
   induction r'' with
   |true=>exact wpAny_allTrue_And_nil ⟨V3,x3,(k1.trans k2).trans k3,q3⟩
   |false=>exact⟨V3,x3,(k1.trans k2).trans k3,q3⟩
  |false=>exact⟨V2,x2,k1.trans k2,q2⟩
 |false=>exact⟨V1,x1,k1,q1⟩
theorem Uu (hc:aD B c) (ha:aD B a) (hb:aD B b):aD B (.ite c a b):=λn sc env ns Z A V s x hm ok=>by
 refine iI hm λt y z p hm=>?_;refine bA hm λh1 hm=>?_;refine bA hm λh2 h3=>?_;refine⟨λQ q=>wpAny_IfExp (PT.bind ((hc h1 ok).2 _ q) λr s1 V1 x1 k1 q1=>?_),λK q=>False.elim q⟩
 induction r with
 |true=>exact PP.go k1 ((ha h2 (ok.next x1 k1)).1 _ q1)
 |false=>exact PP.go k1 ((hb h3 (ok.next x1 k1)).1 _ q1)
theorem UF {es} (h:fj B es):aD B (.tup es):=cG (λ_ _=>rfl) λn sc env ns Z A V s x hm ok=>by
 refine iT hm λys k p hm=>?_;exact⟨rfl,λQ q=>wpAny_Tuple (bK (h hm ok _ q) (λvs s1 ⟨V1,zs,x1,k1,r1,q1⟩=>⟨by refine O r1.length (O db ?_);have:=q1.1;lia,PP.from k1 (Q8 x1 r1 q1.1 q1.2)⟩) λ_ _ e=>e)⟩
theorem Uw {es} (h:fj B es):aD B (.lst es):=cG (λ_ _=>rfl) λn sc env ns Z A V s x hm ok=>by
 refine iL hm λys p hm=>?_;exact⟨rfl,λQ q=>wpAny_List (bK (h hm ok _ q) (λvs s1 ⟨V1,zs,x1,k1,r1,q1⟩=>⟨by refine O r1.length (O db ?_);have:=q1.1;lia,PP.from k1 (PP.newlist (t:=s1.toks) x1 (r1) q1.1 q1.2)⟩) λ_ _ e=>e)⟩
theorem Um {k}:aD B (.dct k):=cG (λ_ _=>rfl) λn sc env ns Z A V s x hm ok=>by
 refine iD hm λ_ _ p hm=>?_;refine j0 hm λhm=>?_;refine j0 hm λ_=>?_;exact⟨rfl,λQ q=>wpAny_Dict_empty (SU ok.x q)⟩
theorem Uc (ha:aD B a) (hb:aD B b):aD B (.at a b):=cG (λ_ _=>rfl) λn sc env ns Z A V s x hm ok=>by
 refine iS hm λy z p hm=>?_;o_shape;obtain⟨h0,hm⟩:=iX hm;refine bA hm λh1 h2=>?_;pv_eval;exact⟨rfl,λQ q=>Subscript_ (PP.bind ((ha h1 ok).1 _ q) λv s1 V1 j x1 k1 r1 q1=>PP.bind ((hb h2 (ok.next x1 k1)).1 _ q1) λw s₂ V2 l x2 k2 r2 q2=>PP.go (k1.trans k2) (Eg ok.R.units h0 x2 (r1.keep x1 k2) r2 q2))⟩
theorem UG (ha:aD B a) (hb:aD B b):aD B (.upto a b):=cG (λ_ _=>rfl) λn sc env ns Z A V s x hm ok=>by
 refine iS hm λy _ p hm=>?_;refine iZ hm λ_ _ _ p' hm=>?_;refine jn hm λhm=>?_;refine jn hm λhm=>?_;refine js hm λz hm=>?_;refine bA hm λh0 hm=>?_;refine bA hm λh1 h2=>?_;exact⟨rfl,λQ q=>T6 (v:=.none) (a:=.none) (b:=.none) h0 ok.x (Q₂:=λi j=>uptoI i j Q) ((ha h1 ok).1 _ q) (λv s1 V1 i x1 k1 r1 q1=>(hb h2 (ok.next x1 k1)).1 _ q1) λi j V2 q=>q⟩
theorem Up (ha:aD B a) (hb:aD B b):aD B (.from a b):=cG (λ_ _=>rfl) λn sc env ns Z A V s x hm ok=>by
 refine iS hm λy _ p hm=>?_;refine iZ hm λ_ _ _ p' hm=>?_;refine jn hm λhm=>?_;refine jn hm λhm=>?_;refine js hm λz hm=>?_;refine bA hm λh0 hm=>?_;refine bA hm λh1 h2=>?_;exact⟨rfl,λQ q=>T5 (v:=.none) (a:=.none) (b:=.none) h0 ok.x (Q₂:=λi j=>fromI i j Q) ((ha h1 ok).1 _ q) (λv s1 V1 i x1 k1 r1 q1=>(hb h2 (ok.next x1 k1)).1 _ q1) λi j V2 q=>q⟩
theorem Ud {f} (ha:aD B a):aD B (.att a f):=cG (λ_ _=>rfl) λn sc env ns Z A V s x hm ok=>by
 refine iA hm λy _ p hm=>?_;refine dN hm λhz=>?_;obtain⟨hs,hz⟩:=iX hz;exact⟨rfl,λQ q=>Attribute_any_ (PP.bind ((ha hz ok).1 _ q) λv s1 V1 i x1 k1 r1 q1=>PP.go k1 (SP ok.b x1 r1 q1)) (O (arm_eval_Attribute ..) (O (rk hs) rfl))⟩
theorem Ue {i} (ha:aD B a):aD B (.bi i a):=cG (λ_ _=>rfl) λn sc env ns Z A V s x hm ok=>by
 refine ig hm λ_ _ p hg hm=>?_;refine j1 hm λy hm=>?_;exact⟨rfl,λQ q=>wpAny_Call_Name_kw (kD ok hg (Eh i) (ry (En i) (eU hm) (PP.bind ((ha hm ok).1 _ q) λv s1 V1 i x1 k1 r1 q1=>PP.go k1 (SR (ok.next x1 k1) r1 q1))))⟩
theorem Ux (ha:aD B a) (hb:aD B b):aD B (.max a b):=cG (λ_ _=>rfl) λn sc env ns Z A V s x hm ok=>by
 refine ig hm λ_ _ p hg hm=>?_;refine j2 hm λy z hm=>?_;refine bA hm λh1 h2=>?_;exact⟨rfl,λQ q=>wpAny_Call_Name_kw (kD ok hg (v:=.builtin "max") (by decide+kernel) (FZ (.inl ⟨_,rfl⟩) (eU h1) (eU h2) (PP.bind ((ha h1 ok).1 _ q) λv s1 V1 i x1 k1 r1 q1=>PP.bind ((hb h2 (ok.next x1 k1)).1 _ q1) λw s₂ V2 j x2 k2 r2 q2=>
  PP.go (k1.trans k2) (S2 x2 ok.R.hand (r1.keep x1 k2) r2 q2))))⟩
theorem Uh {g f es} (h:fj B es):aD B (.cal g f es):=cG (λ_ _=>rfl) λn sc env ns Z A V s x hm ok=>by
 refine ig hm λ_ ys p hg hm=>?_;refine bA hm λht hm=>?_;exact⟨rfl,λQ q=>wpAny_Call_Name_kw (Q5 ok hg ht (yS (Hw ht _) h hm ok q λvs s1 V1 zs x1 k1 r1 q1=>PP.go k1 (q1.wp ok.R.room x1 r1)))⟩
theorem Uy {c m f es} (ha:aD B a) (h:fj B es):aD B (.met a c m f es):=cG (λ_ _=>rfl) λn sc env ns Z A V s x hm ok=>by
 refine im hm λy ap ys p hs hl hm=>?_;o_shape;refine bA hm λht hm=>?_;refine bA hm λhn hm=>?_;refine bA hm λh1 h2=>?_;pv_eval;refine⟨rfl,λQ q=>?_⟩;refine O (arm_eval_Call ..) (O (rk hs) (ay (PP.bind ((ha h1 ok).1 _ q) λv s1 V1 i x1 k1 r1 q1=>ay (wpAny_standAt ?_))));have hform:methodCallForm (ys.length+([]:List Keyword).length) (backTo p (starEach ys env)) (backToKw p (keywordEach [] env))=true:=by
  have hn:=dT hn;unfold methodCallForm;have:=Dx (env:=env) (pos:=p) h2;refine O (show backToKw p (keywordEach [] env)=[]from rfl) ?_;simp only[map_nil,all_nil,length_nil,isEmpty_nil,if_true,Bool.and_true,and_eq_true,decide_eq_true_eq];exact⟨this,by exact lt_succ_of_lt ‹_›⟩
 have hpos:methodCallPos true y env ap p=pure p:=by unfold methodCallPos;exact O hl rfl
 unfold methodCall;refine O hform (ay (wpAny_holding (S3 ok.b x1 ht r1 q1 λpa hv hi hK=>ay (wpAny_of_eq hpos ?_))));exact yS (f:=.ref f) (first:=[v]) (pos:=p) (R:=PP B V s.heap Q) (Hx ht _) h h2 (ok.next x1 k1) hK λvs s₂ V2 zs x2 k2 r2 q2=>PP.go (k1.trans k2) (q2.wp (vs:=v::vs) ok.R.room x2 ⟨r1.keep x1 k2,r2⟩)
theorem sv {n:Nat} {sc:Scope} {env:Env} {ns:List PySem.Str} {Z:aL} {A:Around} {V:IH} {s:Shared} {y z:Expr} {m:PySem.Str} {ap p:Pos} {T id:String} {W:IV->IH->Prop} {Q:QE} (ok:Ok B n sc env ns Z A V s) (hs:g9 y=false) (hl:(ap.endLine==p.line)=true)
 (pa:PlainAttrs T) (sl:Slot T m id) (ty:typeOf (.builtin id)=pure (.type "method_descriptor")) (ha:aD B a) (hb:aD B b) (h1:mE sc ns a y=true) (h2:mE sc ns b z=true)
 (hW:∀{s1 V1 v i},St B V1 s1->VR B s1.heap v i->W i V1->∃a ob,v=.ref a/\s1.heap.get? a=some ob/\ob.cls=.type T/\ob.dict=none)
 {F:IV->IV->IH->Prop} (hF:∀{s₂ V2 v w i j},St B V2 s₂->VR B s₂.heap v i->VR B s₂.heap w j->F i j V2->wpAny (model pw B.w) A (call (.builtin id) [v,w]) (PP B V2 s₂.heap Q) aA s₂)
 (q:(aI B n Z a).e (λx V=>W x V/\(aI B n Z b).e (F x) V) V):wpAny (model pw B.w) A (eval (.Call (.Attribute y m ap) [z] [] p) env) (PP B V s.heap Q) aA s:=by
 refine rB hs (O (dG (eU h2)) rfl) (by show 1<29;decide) hl pa sl ty ((ha h1 ok).1 _ q) λv s1 V1 i x1 k1 r1 q1=>⟨hW x1 r1 q1.1,?_⟩;exact O (dG (eU h2)) (evalArgs_plain (spliced_cons (PP.bind ((hb h2 (ok.next x1 k1)).1 _ q1.2) λw s₂ V2 j x2 k2 r2 q2=>spliced_nil (PP.go (k1.trans k2) (hF x2 (r1.keep x1 k2) r2 q2)))))
theorem Ub (ha:aD B a) (hb:aD B b):aD B (.app a b):=cG (λ_ _=>rfl) λn sc env ns Z A V s x hm ok=>by
 refine im hm λy ap _ p hs hl hm=>?_;refine j1 hm λz hm=>?_;exact⟨rfl,λQ q=>sv ok hs hl PySem.F.plainAttrs_list F.slot_list_append PySem.F.type_list_append ha hb (bc hm).1 (bc hm).2 (W:=isLst) rW (λx r r' q=>SN x r r' q) q⟩
theorem Un (ha:aD B a) (hb:aD B b):aD B (.ext a b):=cG (λ_ _=>rfl) λn sc env ns Z A V s x hm ok=>by
 refine im hm λy ap _ p hs hl hm=>?_;refine j1 hm λz hm=>?_;exact⟨rfl,λQ q=>sv ok hs hl PySem.F.plainAttrs_list F.slot_list_extend PySem.F.type_list_extend ha hb (bc hm).1 (bc hm).2 (W:=isLst) rW (λx r r' q=>SX x r r' q) q⟩
theorem UD (ha:aD B a):aD B (.pop a):=cG (λ_ _=>rfl) λn sc env ns Z A V s x hm ok=>by
 refine im hm λy ap _ p hs hl hm=>?_;refine j0 hm λhm=>?_;exact⟨rfl,λQ q=>rB hs rfl (by show 0<29;decide) hl PySem.F.plainAttrs_list F.slot_list_pop PySem.F.type_list_pop ((ha hm ok).1 _ q) λv s1 V1 i x1 k1 r1 q1=>⟨rW x1 r1 q1.1,PySem.evalArgs_none (PP.go k1 (S7 x1 r1 q1.2))⟩⟩
theorem Uq (ha:aD B a) (hb:aD B b):aD B (.get a b):=cG (λ_ _=>rfl) λn sc env ns Z A V s x hm ok=>by
 refine im hm λy ap _ p hs hl hm=>?_;refine j1 hm λz hm=>?_;exact⟨rfl,λQ q=>sv ok hs hl PySem.F.plainAttrs_dict F.slot_dict_get PySem.F.type_dict_get ha hb (bc hm).1 (bc hm).2 (W:=isDct) zz (λx r r' q=>SY x ok.b.mods ok.R.units r r' q) q⟩
theorem Ur (ha:aD B a) (hb:aD B b) (hd:aD B d):aD B (.get2 a b d):=cG (λ_ _=>rfl) λn sc env ns Z A V s x hm ok=>by
 refine im hm λy ap _ p hs hl hm=>?_;refine j2 hm λz w hm=>?_;refine bA hm λh1 hm=>?_;refine bA hm λh2 h3=>?_;refine⟨rfl,λQ q=>rB hs (O (dG (eU h2)) (O (dG (eU h3)) rfl)) (by show 2<29;decide) hl PySem.F.plainAttrs_dict F.slot_dict_get PySem.F.type_dict_get ((ha h1 ok).1 _ q) λv s1 V1 i x1 k1 r1 q1=>⟨zz x1 r1 q1.1,?_⟩⟩;refine O (dG (eU h2)) (O (dG (eU h3)) ?_);exact evalArgs_plain (spliced_cons (PP.bind ((hb h2 (ok.next x1 k1)).1 _ q1.2) λw' s₂ V2 j x2 k2 r2 q2=>spliced_cons (PP.bind ((hd h3 (ok.next x2 (k1.trans k2))).1 _ q2) λw'' s3 V3 l x3 k3 r3 q3=>
  spliced_nil (PP.go ((k1.trans k2).trans k3) (SZ x3 ok.b.mods ok.R.units ((r1.keep x1 k2).keep x2 k3) (r2.keep x2 k3) r3 q3)))))
theorem Uk {ns' t k} (ha:aD B a) (hb:aD B b):aD B (.comp ns' t k a b):=cG (λ_ _=>rfl) λn sc env ns Z A V s x hm ok=>by
 refine iq hm λy tx px it _ sc' p h1 h2 hm=>?_;refine j0 hm λhm=>?_;exact⟨rfl,λQ q=>by
  exact O (eval_ListComp ..) (jP (use:=none) ha h1 h2 ok (DM hb ok.b ok.R hm) q λs1 V1 x1 k1 D C s' V' x' k' q' hn nf dC bC=>yX k1 x' k' q' hn nf dC bC)⟩
theorem Ul {ns' t k} (ha:aD B a) (hc:aD B c) (hb:aD B b):aD B (.compIf ns' t k a c b):=cG (λ_ _=>rfl) λn sc env ns Z A V s x hm ok=>by
 refine iq hm λy tx px it _ sc' p h1 h2 hm=>?_;refine j1 hm λz hm=>?_;exact⟨rfl,λQ q=>by
  exact O (eval_ListComp ..) (jP (use:=none) ha h1 h2 ok (DJ hc hb ok.b ok.R (bc hm).1 (bc hm).2) q λs1 V1 x1 k1 D C s' V' x' k' q' hn nf dC bC=>yX k1 x' k' q' hn nf dC bC)⟩
theorem UI:fj B .nil:=λn sc env ns Z A V s xs pos hm ok K q=>by
 refine j0 hm λ_=>?_;exact wpAny_items_nil ⟨V,[],ok.x,Keep.refl _ _,trivial,q⟩
theorem UH {es} (ha:aD B a) (h:fj B es):fj B (.cons a es):=λn sc env ns Z A V s xs pos hm ok K q=>by
 refine jc hm λy ys hm=>?_;refine bA hm λh1 hm=>?_;refine wpAny_items_cons (PP.bind ((ha h1 ok).1 _ q) λv s1 V1 i x1 k1 r1 q1=>?_) (dG (bc hm).2);exact bK (h (bc hm).1 (ok.next x1 k1) _ q1) (λvs s₂ zq=>by obtain⟨V2,zs,x2,k2,r2,q2⟩:=zq;exact⟨V2,i::zs,x2,k1.trans k2,⟨r1.keep x1 k2,r2⟩,q2⟩) λ_ _ e=>e
end
mutual
theorem sE (B:Bs):∀(e:ME),aD B e
 |.int _=>Ut
 |.str _=>UE
 |.bool _=>Ug
 |.non=>UA
 |.loc _=>Uv
 |.glo .. =>Us
 |.bin _ a b=>Uf (sE B a) (sE B b)
 |.neg a=>Uz (sE B a)
 |.cmp _ a b=>Ui (sE B a) (sE B b)
 |.cmp2 _ _ a b c=>Uj (sE B a) (sE B b) (sE B c)
 |.not a=>UB (sE B a)
 |.and a b=>T9 (sE B a) (sE B b)
 |.or a b=>UC (sE B a) (sE B b)
 |.and3 a b c=>Ua (sE B a) (sE B b) (sE B c)
 |.ite c a b=>Uu (sE B c) (sE B a) (sE B b)
 |.tup es=>UF (iE B es)
 |.lst es=>Uw (iE B es)
 |.dct _=>Um
 |.at a i=>Uc (sE B a) (sE B i)
 |.upto a k=>UG (sE B a) (sE B k)
 |.from a k=>Up (sE B a) (sE B k)
 |.att a _=>Ud (sE B a)
 |.bi _ a=>Ue (sE B a)
 |.max a b=>Ux (sE B a) (sE B b)
 |.cal _ _ es=>Uh (iE B es)
 |.met a _ _ _ es=>Uy (sE B a) (iE B es)
 |.app a b=>Ub (sE B a) (sE B b)
 |.ext a b=>Un (sE B a) (sE B b)
 |.pop a=>UD (sE B a)
 |.get a k=>Uq (sE B a) (sE B k)
 |.get2 a k d=>Ur (sE B a) (sE B k) (sE B d)
 |.comp _ _ _ s e=>Uk (sE B s) (sE B e)
 |.compIf _ _ _ s c e=>Ul (sE B s) (sE B c) (sE B e)
theorem iE (B:Bs):∀(es:MEs),fj B es
 |.nil=>UI
 |.cons e es=>UH (sE B e) (iE B es)
end
noncomputable def sw (x:Expr):Bool:=x.ctorIdx !=8&&x.ctorIdx !=9&&x.ctorIdx !=10
noncomputable def BD (x:Expr):Bool:=x.ctorIdx !=25
noncomputable def Vm (t:TG) (v:Expr):Bool:=match t with
 |.one _=>true
 |.many _=>BD v
noncomputable def jJ (x:Stmt) (k:List Expr->Expr->Bool):Bool:=on x.ctorIdx 5 λe=>Stmt.Assign.elim (motive_2:=λ_=>Bool) x e λa b p=>k a b
noncomputable def yq (x:Stmt) (k:Expr->Bool):Bool:=on x.ctorIdx 24 λe=>Stmt.Expr.elim (motive_2:=λ_=>Bool) x e λa p=>k a
noncomputable def DS (x:Stmt) (k:Expr->List Stmt->List Stmt->Bool):Bool:=on x.ctorIdx 12 λe=>Stmt.If.elim (motive_2:=λ_=>Bool) x e λa b c p=>k a b c
noncomputable def DU (x:Stmt) (k:Expr->List Stmt->List Stmt->Bool):Bool:=on x.ctorIdx 11 λe=>Stmt.While.elim (motive_2:=λ_=>Bool) x e λa b c p=>k a b c
noncomputable def DR (x:Stmt) (k:Expr->Expr->List Stmt->List Stmt->Bool):Bool:=on x.ctorIdx 9 λe=>Stmt.For.elim (motive_2:=λ_=>Bool) x e λa b c d p=>k a b c d
noncomputable def DT (x:Stmt) (k:Option Expr->Bool):Bool:=on x.ctorIdx 3 λe=>Stmt.Return.elim (motive_2:=λ_=>Bool) x e λa p=>k a
@[elab_as_elim] theorem iBr {x:Stmt} {C:Stmt->Prop} (h:on x.ctorIdx 26 (λ_=>true)=true) (f:∀p,C (.Break p)):C x:=(cU h).elim λe _=>Stmt.Break.elim x e f
@[elab_as_elim] theorem iCo {x:Stmt} {C:Stmt->Prop} (h:on x.ctorIdx 27 (λ_=>true)=true) (f:∀p,C (.Continue p)):C x:=(cU h).elim λe _=>Stmt.Continue.elim x e f
@[elab_as_elim] theorem jX {x k} {C:Stmt->Prop} (h:jJ x k=true) (f:∀a b p,k a b=true->C (.Assign a b p)):C x:=(cU h).elim λe h=>Stmt.Assign.elim (motive_2:=λx=>∀e,(Stmt.Assign.elim (motive_2:=λ_=>Bool) x e λa b p=>k a b)=true->C x) x e (λa b p _ h=>f a b p h) e h
@[elab_as_elim] theorem zp {x k} {C:Stmt->Prop} (h:yq x k=true) (f:∀a p,k a=true->C (.Expr a p)):C x:=(cU h).elim λe h=>Stmt.Expr.elim (motive_2:=λx=>∀e,(Stmt.Expr.elim (motive_2:=λ_=>Bool) x e λa p=>k a)=true->C x) x e (λa p _ h=>f a p h) e h
@[elab_as_elim] theorem iIf {x k} {C:Stmt->Prop} (h:DS x k=true) (f:∀a b c p,k a b c=true->C (.If a b c p)):C x:=(cU h).elim λe h=>Stmt.If.elim (motive_2:=λx=>∀e,(Stmt.If.elim (motive_2:=λ_=>Bool) x e λa b c p=>k a b c)=true->C x) x e (λa b c p _ h=>f a b c p h) e h
@[elab_as_elim] theorem iWh {x k} {C:Stmt->Prop} (h:DU x k=true) (f:∀a b c p,k a b c=true->C (.While a b c p)):C x:=(cU h).elim λe h=>Stmt.While.elim (motive_2:=λx=>∀e,(Stmt.While.elim (motive_2:=λ_=>Bool) x e λa b c p=>k a b c)=true->C x) x e (λa b c p _ h=>f a b c p h) e h
@[elab_as_elim] theorem iFo {x k} {C:Stmt->Prop} (h:DR x k=true) (f:∀a b c d p,k a b c d=true->C (.For a b c d p)):C x:=(cU h).elim λe h=>Stmt.For.elim (motive_2:=λx=>∀e,(Stmt.For.elim (motive_2:=λ_=>Bool) x e λa b c d p=>k a b c d)=true->C x) x e (λa b c d p _ h=>f a b c d p h) e h
@[elab_as_elim] theorem iRe {x k} {C:Stmt->Prop} (h:DT x k=true) (f:∀a p,k a=true->C (.Return a p)):C x:=(cU h).elim λe h=>Stmt.Return.elim (motive_2:=λx=>∀e,(Stmt.Return.elim (motive_2:=λ_=>Bool) x e λa p=>k a)=true->C x) x e (λa p _ h=>f a p h) e h
noncomputable def nmOk (ns:List PySem.Str) (i:Nat) (nm:PySem.Str):Bool:=ns[i]? ==some nm&&nm !=u ""
theorem nmOk.at {i:Nat} {nm:PySem.Str} (h:nmOk ns i nm=true):ns[i]? =some nm:=eq_of_beq (bc h).1
theorem nmOk.ne {nm:PySem.Str} (h:nmOk ns i nm=true):nm≠u "":=bne_iff_ne.1 (bc h).2
noncomputable def ku (ns:List PySem.Str):List Nat->List Expr->Bool
 |[],x=>y0 x true
 |i::is,x=>yc x λy ys=>xN y (λnm=>nmOk ns i nm)&&ku ns is ys
noncomputable def mT (ns:List PySem.Str):TG->Expr->Bool
 |.one i,x=>xN x λnm=>nmOk ns i nm
 |.many is,x=>xT x λys=>ku ns is ys
mutual
noncomputable def mS (sc:Scope) (ns:List PySem.Str):MS->Stmt->Bool
 |.asg t e,x=>jJ x λts v=>y1 ts λy=>mT ns t y&&(mE sc ns e v&&(sw v&&Vm t v))
 |.asgC i e,x=>jJ x λts v=>y1 ts λy=>xN y λnm=>nmOk ns i nm&&(xr v true&&mE sc ns e v)
 |.asgA o f e,x=>jJ x λts v=>y1 ts λt=>xA t λy nm _=>nm==fS f&&(mE sc ns o y&&mE sc ns e v)
 |.asgI o i e,x=>jJ x λts v=>y1 ts λt=>xS t λy z=>mE sc ns o y&&(mE sc ns i z&&(mE sc ns e v&& !j7 z))
 |.ex e,x=>yq x λv=>mE sc ns e v&&sw v
 |.sup _,_=>false
 |.if_ c a b,x=>DS x λt y z=>mE sc ns c t&&(eH sc ns a y&&eH sc ns b z)
 |.while_ c a,x=>DU x λt y z=>y0 z (mE sc ns c t&&eH sc ns a y)
 |.for_ t k s a,x=>DR x λy it z w=>y0 w (mT ns t y&&(fJ sc k (λw=>mE sc ns s w) it&&eH sc ns a z))
 |.ret e,x=>DT x λv=>ys v λv=>mE sc ns e v
 |.brk,x=>on x.ctorIdx 26 λ_=>true
 |.cont,x=>on x.ctorIdx 27 λ_=>true
 |.bad,_=>true
noncomputable def eH (sc:Scope) (ns:List PySem.Str):MSs->List Stmt->Bool
 |.nil,x=>y0 x true
 |.cons s r,x=>yc x λy ys=>mS sc ns s y&&eH sc ns r ys
end
structure KeepX (own:Addr->Prop) (V:IH) (h:Heap) (V':IH) (h':Heap):Prop where
 old:∀b o,h.get? b=some o->¬aS V h b->¬own b->h'.get? b=some o
 grow:∀b,aS V' h' b->aS V h b\/h.get? b=none\/own b
theorem KeepX.of {own:Addr->Prop} (k:Keep V h V' h'):KeepX own V h V' h':=⟨λb o e f _=>k.old b o e f,λb f=>(k.grow b f).elim .inl λh=>.inr (.inl h)⟩
theorem KeepX.refl {own:Addr->Prop} (V:IH) (h:Heap):KeepX own V h V h:=.of (Keep.refl _ _)
theorem KeepX.nf {own:Addr->Prop} {h h₁:Heap} (x:KeepX own V h V1 h₁) (e:h.get? b=some o) (n:¬aS V h b) (no:¬own b):¬aS V1 h₁ b:=λf=>by
 rcases x.grow b f with f|f|f
 .exact n f
 .exact Om e f
 .exact no f
theorem KeepX.trans {own:Addr->Prop} (x:KeepX own V h V1 h₁) (y:KeepX own V1 h₁ V2 h₂):KeepX own V h V2 h₂:=by
 refine⟨λb o e f n=>y.old b o (x.old b o e f n) (x.nf e f n) n,λb f=>?_⟩;rcases y.grow b f with f|f|f
 .exact x.grow b f
 .by_cases fo:aS V h b
  .exact .inl fo
  .by_cases n:own b
   .exact .inr (.inr n)
   .induction e:h.get? b with
    |none=>exact .inr (.inl rfl)
    |some o=>exact Om (x.old b o e fo n) f
 .exact .inr (.inr f)
section
variable{B:Bs} {n:Nat} {sc:Scope} {env:Env} {ns:List PySem.Str} {Z:aL} {A:Around} {V:IH} {s:Shared}
theorem VO.nt (vo:VO B env ns Z V s.heap) (o:bN env ns a) (e:s.heap.get? a=some ob):¬cj ob:=by
 rcases o with rfl|⟨i,z,ei,hz,hk,h1⟩
 .obtain⟨m,⟨o,es,ep,ho,hd,_⟩,_⟩:=vo.loc;obtain rfl:=Os e ho;exact λzq=>by obtain⟨_,its,n,h⟩:=zq;replace h:=Oe hd h;cases h
 .obtain⟨c,w,h2,⟨o,ho,hd⟩,_⟩:=vo.cell i z ei hz hk;obtain rfl:=Os h1 h2;obtain rfl:=Os e ho;exact λzq=>by obtain⟨_,its,n,h⟩:=zq;replace h:=Oe hd h;cases h
theorem KeepX.tups {h':Heap} (k:KeepX (bN env ns) V s.heap V' h') (x:St B V s) (vo:VO B env ns Z V s.heap):∀a o,s.heap.get? a=some o->cj o->h'.get? a=some o:=λa o e c=>
 k.old a o e (λf=>x.not_tup f e c) λow=>vo.nt ow e c
theorem KeepX.store {s':Shared} (x:St B V s) (p:Pres B V s.heap s'.heap) (h:∃a,bN env ns a/\∀b,b≠a->s'.heap.get? b=s.heap.get? b):KeepX (bN env ns) V s.heap V s'.heap:=by
 obtain⟨a,ow,sb⟩:=h;refine⟨λb o e nf no=>by exact O (sb b λh=>no (h▸ow)) e,λb f=>.inl ((Pres.foot x p b).mp f)⟩
noncomputable def q7 (B:Bs) (K:Kn) (Z':aL) (V':IH) (s':Shared):Flow->Prop
 |.next=>K.nx Z' V'
 |.brk=>K.br Z' V'
 |.cont=>K.co Z' V'
 |.ret v=>∃i,VR B s'.heap v i/\K.rt i V'
inductive SQ (B:Bs) (env:Env) (ns:List PySem.Str) (V:IH) (h:Heap) (K:Kn) (f:Flow) (s':Shared):Prop
 |mk (V':IH) (Z':aL) (x:St B V' s') (vo:VO B env ns Z' V' s'.heap) (k:KeepX (bN env ns) V h V' s'.heap) (q:q7 B K Z' V' s' f)
theorem SQ.imp {K K':Kn} (q:SQ B env ns V h K f s') (i:∀Z' V',q7 B K Z' V' s' f->q7 B K' Z' V' s' f):SQ B env ns V h K' f s':=
 by obtain⟨V',Z',a,b,c,d⟩:=q;exact⟨V',Z',a,b,c,i _ _ d⟩
theorem SQ.from {K:Kn} (k:KeepX (bN env ns) V h V1 h₁) (q:SQ B env ns V1 h₁ K f s'):SQ B env ns V h K f s':=
 by obtain⟨V',Z',a,b,c,d⟩:=q;exact⟨V',Z',a,b,k.trans c,d⟩
def eM (B:Bs) (m:MS):Prop:=∀ ⦃n:Nat⦄ ⦃sc:Scope⦄ ⦃env:Env⦄ ⦃ns:List PySem.Str⦄ ⦃Z:aL⦄ ⦃A:Around⦄ ⦃V:IH⦄ ⦃s:Shared⦄ ⦃x:Stmt⦄,mS sc ns m x=true->Ok B n sc env ns Z A V s->
 ∀K,jI B n m Z K V->wpAny (model pw B.w) A (exec x env) (SQ B env ns V s.heap K) aA s
def fH (B:Bs) (m:MSs):Prop:=∀ ⦃n:Nat⦄ ⦃sc:Scope⦄ ⦃env:Env⦄ ⦃ns:List PySem.Str⦄ ⦃Z:aL⦄ ⦃A:Around⦄ ⦃V:IH⦄ ⦃s:Shared⦄ ⦃xs:List Stmt⦄,eH sc ns m xs=true->Ok B n sc env ns Z A V s->
 ∀K,az B n m Z K V->wpAny (model pw B.w) A (execs xs env) (SQ B env ns V s.heap K) aA s
theorem Ee:∀{is:List Nat} {ys:List Expr} {vs:List Value} {xs:List IV} {Z:aL} {s:Shared} {R:Unit->Shared->Prop},ku ns is ys=true->VRs B s.heap vs xs->xs.length=is.length->St B V s->VO B env ns Z V s.heap->
 (∀s',St B V s'->VO B env ns ((is.zip xs).foldl (λr q=>r.set q.1 (some q.2)) Z) V s'.heap->KeepX (bN env ns) V s.heap V s'.heap->R () s')->
 wpAny (model pw B.w) A (assignInOrder ((assignEach ys env).map (·.2)) vs) R aA s:=by
 intro is
 induction is with
 |nil=>
  intro ys vs xs Z s R hm rs hl x vo h;refine j0 hm λ_=>?_;obtain rfl:=List.eq_nil_of_length_eq_zero hl
  induction vs with
  |nil=>exact aT (h s x vo (KeepX.refl _ _))
  |cons=>exact rs.elim
 |cons i is IH=>
  intro ys vs xs Z s R hm rs hl x vo h;refine jc hm λy ys hm=>?_;refine bA hm λhy hz=>?_;refine iN hy λnm p hn=>?_
  cases xs with
  |nil=>rcases hl
  |cons z xs=>
   induction vs with
   |nil=>exact rs.elim
   |cons v vs=>
    obtain⟨r,rs⟩:=rs;show wpAny _ _ (do holding vs (assign (.Name nm p) env v);assignInOrder ((assignEach ys env).map (·.2)) vs) _ _ _;refine ay (wpAny_holding (wpAny_assign_Name (VO.store x vo (nmOk.at hn) (nmOk.ne hn) r λs1 x1 vo1 hs1 p1=>?_)));obtain⟨a,ha,_,sb⟩:=hs1;have k1:KeepX (bN env ns) V s.heap V s1.heap:=KeepX.store x p1 ⟨a,ha,sb⟩;exact IH hz (rs.mono p1.tups) (Nat.succ.inj hl) x1 vo1 λs' x' vo' k'=>h s' x' vo' (k1.trans k')
theorem Ed:∀{is:List Nat} {ys:List Expr},ku ns is ys=true->(assignEach ys env).length=is.length/\(assignEach ys env).findIdx? (·.1)=none:=by
 intro is
 induction is with
 |nil=>intro ys h;exact j0 (l:=ys) h λ_=>⟨rfl,rfl⟩
 |cons i is IH=>
  intro ys h;refine jc h λy ys h=>?_;refine bA h λhy hm=>?_;refine iN hy λnm p hn=>?_;obtain⟨a,b⟩:=IH hm;have e:assignEach (.Name nm p::ys) env=(false,assign (.Name nm p) env)::assignEach ys env:=rfl;exact e▸⟨be Nat.succ a,by simpa[List.findIdx?_cons]using b⟩
theorem yF {K:aL->Prop} {R:Unit->Shared->Prop} (hA:A.handled=none) (hm:mT ns t y=true) (x:St B V s) (vo:VO B env ns Z V s.heap) (r:VR B s.heap v z) (q:iW t z Z K)
 (h:∀s' Z',St B V s'->VO B env ns Z' V s'.heap->KeepX (bN env ns) V s.heap V s'.heap->K Z'->R () s'):wpAny (model pw B.w) A (assign y env v) R aA s:=by
 induction t with
 |one i=>
  refine iN hm λnm p hn=>?_;refine wpAny_assign_Name (VO.store x vo (nmOk.at hn) (nmOk.ne hn) r λs1 x1 vo1 hs1 p1=>?_);obtain⟨a,ha,_,sb⟩:=hs1;exact h s1 _ x1 vo1 (KeepX.store x p1 ⟨a,ha,sb⟩) q
 |many is=>
  refine iT hm λys k p hm=>?_;unfold iW at q
  cases z with
  |tup xs=>
   obtain⟨pa,its,rfl,ht,rs,hlen⟩:=r;obtain⟨a,b⟩:=Ed (env:=env) hm;have l1:=rs.length;simp only[length_toList]at l1;obtain⟨hl,q⟩:=q;refine wpAny_assign_Tuple hA ht (O a (O l1 (O hl rfl))) b λh' eb=>?_;have kp:∀b o,s.heap.get? b=some o->h'.get? b=some o:=λb o e=>eb b o (ne_of_lt (lt_size e)) e;have x1:St B V {s with heap:=h'}:=x.pres (s':={s with heap:=h'}) (Pres.ofKeeps kp) rfl rfl;have k1:Keep V s.heap V h':=Pres.keep (s':={s with heap:=h'}) x kp;exact Ee (s:={s with heap:=h'}) hm (rs.mono λa o e _=>kp a o e) hl x1 (vo.keep x k1) λs' x' vo' k'=>h s' _ x' vo' ((KeepX.of k1).trans k') q
  |_=>exact q.elim
end
section
variable{B:Bs} {n:Nat} {sc:Scope} {env:Env} {ns:List PySem.Str} {Z:aL} {A:Around} {V:IH} {s:Shared}
theorem VO.other' {h':Heap} (x:St B V s) (p:Pres B V s.heap h') (vo:VO B env ns Z V s.heap) (same:∀a,bN env ns a->∀o,s.heap.get? a=some o->h'.get? a=some o):VO B env ns Z V h':=
 vo.other (t:=0) x p λa ha=>by
  obtain⟨o,ho⟩:=vo.live ha;exact O ho (O (same a ha o ho) rfl)
theorem Ok.nextX {s':Shared} (o:Ok B n sc env ns Z A V s) (x':St B V' s') (vo':VO B env ns Z' V' s'.heap):Ok B n sc env ns Z' A V' s':=⟨o.b,o.sc,o.R,x',vo'⟩
theorem DN {i:Nat} {nm:PySem.Str} {s1 s':Shared} {C D:Addr} {K:Kn} (vo:VO B env ns Z V s.heap) (x:St B V s) (hi:ns[i]? =some nm) (hn0:nm≠u "") (x1:St B V1 s1) (k1:Keep V s.heap V1 s1.heap) (x':St B V' s') (k':Keep V1 s1.heap V' s'.heap)
 (q:K.nx (Z.set i (some (.ref D))) V') (hn:∃m,s'.heap.Ns C m) (nf:¬aS V' s'.heap C) (dC:s1.heap.get? C=none) (bC:B.h0.get? C=none):
 compPost (model pw B.w) A aA (some (assign (.Name nm pn) env)) (λ_ s'=>SQ B env ns V s.heap K .next s') (.ref D) C (.ok .next) s':=by
 o_shape;obtain⟨m,hn⟩:=hn;pv_eval;have vo1:=vo.keep x k1;have vo':=vo1.keep x1 k';show wpAny _ _ (assign (.Name nm pn) env (.ref D)) _ _ _;refine wpAny_assign_Name (VO.store x' vo' hi hn0 (y:=.ref D) (VR_ref.mpr rfl) λs₂ x2 vo2 hs2 p2=>?_);o_shape;obtain⟨a,ha,_,sb⟩:=hs2;obtain⟨oa,hoa⟩:=vo1.live ha;have hCa:C≠a:=λh=>by subst h;exact On dC hoa
 obtain⟨o,es,ep,ho,hd,hr⟩:=hn;pv_eval;have ho2:s₂.heap.get? C=some o:=(sb C hCa).trans ho;have fo2:=Pres.foot x' p2;have kx2:KeepX (bN env ns) V' s'.heap V' s₂.heap:=KeepX.store x' p2 ⟨a,ha,sb⟩;refine⟨m,⟨o,es,ep,ho2,hd,hr⟩,λh' sc'=>?_⟩;have p3:Pres B V' s₂.heap h':=gP (t:=0) x2 ho2 (λzq=>by obtain⟨_,its,n,e⟩:=zq;replace e:=Oe hd e;cases e) (λf=>nf ((fo2 _).mp f)) bC sc'.2;have fo3:=Pres.foot (s':={s₂ with heap:=h'}) x2 p3;refine⟨V',_,x2.pres (s':={s₂ with heap:=h'}) p3 rfl rfl,vo2.other (t:=0) x2 p3 (λb hb=>sc'.2 b λh=>?_),?_,q⟩
 .obtain rfl:=h.symm;obtain⟨ob,hob⟩:=vo1.live hb;exact On dC hob
 .have kA:KeepX (bN env ns) V1 s1.heap V' s₂.heap:=(KeepX.of k').trans kx2;have kB:KeepX (bN env ns) V1 s1.heap V' h':=⟨λb ob e f no=>by
   have hb:b≠C:=λh=>by obtain rfl:=h.symm;exact On dC e
   exact sc'.2 b hb▸kA.old b ob e f no,λb f=>kA.grow b ((fo3 b).mp f)⟩
  exact(KeepX.of k1).trans kB
theorem U6 {nm:PySem.Str}:∃b,swapsWith (.ListComp el gs sc' p) (some (.Name nm pn)) l env=pure b:=⟨_,rfl⟩
theorem zy {sc ns ns' t k m el tx px it ifs sc' p r} (h:xq sc ns ns' t k m (.ListComp el [⟨.Name tx px,it,ifs,0⟩] sc' p) r=true) {C:Prop} (f:gG sc ns sc' ns' t tx=true->fJ sc k m it=true->r el sc' ifs=true->C):C:=by
 obtain⟨y,tx',q,it',cs,sc'',p',e,a,b,c⟩:=iqE h;rcases e;exact f a b c
theorem Ec {i:Nat} {nm tx:PySem.Str} {K:Kn} (ok:Ok B n sc env ns Z A V s) (hi:ns[i]? =some nm) (hn:nm≠u "") (hm:mE sc ns e (.ListComp el [⟨.Name tx px,it,ifs,0⟩] sc' p)=true)
 (q:(aI B n Z e).e (λx V=>K.nx (Z.set i (some x)) V) V):wpAny (model pw B.w) A (exec (.Assign [.Name nm pn] (.ListComp el [⟨.Name tx px,it,ifs,0⟩] sc' p) ps) env) (SQ B env ns V s.heap K) aA s:=by
 obtain⟨b,hb⟩:=U6 (env:=env) (el:=el) (gs:=[⟨.Name tx px,it,ifs,0⟩]) (sc':=sc') (p:=p) (nm:=nm) (pn:=pn) (l:=ps.line)
 induction b with
 |false=>
  refine wpAny_Assign_Name (PP.bind ((sE B e hm ok).1 _ q) λv s1 V1 z x1 k1 r1 q1=>?_) hb;refine VO.store x1 (ok.vo.keep ok.x k1) hi hn r1 λs₂ x2 vo2 hs2 p2=>?_;o_shape;obtain⟨a,ha,_,sb⟩:=hs2;pv_eval;exact⟨V1,_,x2,vo2,(KeepX.of k1).trans (KeepX.store x1 p2 ⟨a,ha,sb⟩),q1⟩
 |true=>
  refine O (exec_Assign_Name_used _ _ _ _ hb) (ay (wpAny_standAt (ay ?_)));refine O (arm_evalThenUse_ListComp ..) (ay ?_);have go:wpAny (model pw B.w) A (comprehension (.ListComp el [⟨.Name tx px,it,ifs,0⟩] sc' p) sc' env (firstIterPos [⟨.Name tx px,it,ifs,0⟩] p) (newList []) false (eval it env) (some (assign (.Name nm pn) env))) (λ_ s'=>SQ B env ns V s.heap K .next s') aA s:=by
   cases e with
   |comp ns' t k se e'=>
    refine zy hm λh1 h2 hm=>?_;refine j0 hm λhm=>?_;exact jP (use:=some _) (sE B se) h1 h2 ok (DM (sE B e') ok.b ok.R hm) q λs1 V1 x1 k1 D C s' V' x' k' q' hn' nf dC bC=>DN ok.vo ok.x hi hn x1 k1 x' k' q' hn' nf dC bC
   |compIf ns' t k se c e'=>
    refine zy hm λh1 h2 hm=>?_;refine j1 hm λz hm=>?_;exact jP (use:=some _) (sE B se) h1 h2 ok (DJ (sE B c) (sE B e') ok.b ok.R (bc hm).1 (bc hm).2) q λs1 V1 x1 k1 D C s' V' x' k' q' hn' nf dC bC=>DN ok.vo ok.x hi hn x1 k1 x' k' q' hn' nf dC bC
   |_=>exact(bE hm).elim
  exact bK go (λ_ s' h=>aT (aT h)) λ_ _ e=>e
theorem KeepX.nfI {s':Shared} (k:KeepX (bN env ns) V s.heap V' s'.heap) (e:s.heap.get? I=some o) (f:¬aS V s.heap I) (no:¬bN env ns I):s'.heap.get? I=some o/\¬aS V' s'.heap I:=
 ⟨k.old _ _ e f no,k.nf e f no⟩
theorem GR {K:Kn} (iha:fH B a) (ok:Ok B n sc env ns Z A V s) (hy:mT ns t y=true) (hit:fJ sc k (λw=>mE sc ns se w) it=true) (ha:eH sc ns a body=true)
 (q:jI B n (.for_ t k se a) Z K V):wpAny (model pw B.w) A (exec (.For y it body [] p) env) (SQ B env ns V s.heap K) aA s:=by
 refine wpAny_For ?_ (λv=>zt hit v);refine zA (sE B se) hit ok q λv s1 V1 i x1 k1 r1 q1=>?_;refine(By ok.b ok.R.hand x1 r1 q1).mono λv1 s1' h₁=>bK h₁ (λitv s₂ h₂=>?_) λ_ _ e=>e;o_shape;obtain⟨xs,alive,I,J,rfl,ci,io,j,x2,hl,kp2,dI,tk,es2⟩:=h₂;obtain⟨Inv,inv0,step,done⟩:=ci;pv_eval;have k2:Keep V1 s1.heap V1 s₂.heap:=Pres.keep (s':=s₂) x1 kp2;have vo1:=ok.vo.keep ok.x k1;have vo2:=vo1.keep x1 k2;have noI:¬bN env ns I:=λh=>by
  obtain⟨ob,hob⟩:=vo1.live h;exact On dI hob
 have fo2:=Pres.foot (s':=s₂) x1 (Pres.ofKeeps kp2);have fI2:¬aS V1 s₂.heap I:=λf=>x1.nofoot dI ((fo2 _).mp f);have bI:B.h0.get? I=none:=by
  induction e:B.h0.get? I with
  |none=>rfl
  |some o=>exact Om (x1.keep _ _ e) dI
 refine codeAny_forLoop_any (λm s'=>E3 λi Z' V'=>A8 (m+i=xs.length) (i<=xs.length) (St B V' s') (VO B env ns Z' V' s'.heap) (KeepX (bN env ns) V1 s1.heap V' s'.heap) (J i s'.heap) (¬aS V' s'.heap I) (Inv i Z' V')) ?_ xs.length
  ⟨0,Z,V1,rfl,zero_le _,x2,vo2,KeepX.of k2,j,fI2,inv0⟩
 rintro m s' ⟨i,Z',V',hmi,hi,x',vo',k',j',fI',inv'⟩;by_cases hlt:i<xs.length
 .obtain⟨m0,em⟩:=Nat.exists_eq_succ_of_ne_zero (n:=m) λe=>ne_of_lt hlt (by rw[e,zero_add]at hmi;exact hmi);obtain⟨z,hz⟩:∃z,xs[i]? =some z:=⟨_,c8 hlt⟩;obtain⟨al,tu⟩:=step i Z' V' z (Inv (i+1)) (λ_ _ h=>h) hz inv';refine bK (io.item i z s' V' hz j' x' al fI' bI _ λv h₁ tk r1 j₁ sb1=>?_) (λ_ _ z=>z) λ_ _ e=>e.elim;obtain⟨oI,hoI,ntI⟩:=io.live i _ j';have p1:Pres B V' s'.heap h₁:=gP (t:=0) x' hoI ntI fI' bI sb1;have x3:St B V' {s' with heap:=h₁,toks:=tk}:=x'.pres (s':={s' with heap:=h₁,toks:=tk}) p1 rfl rfl;have fo3:=Pres.foot (s':={s' with heap:=h₁,toks:=tk}) x' p1;have vo3:VO B env ns Z' V' h₁:=vo'.other (t:=tk) x' p1 λb hb=>sb1 b λh=>noI (h▸hb);have k3:KeepX (bN env ns) V1 s1.heap V' h₁:=⟨λb ob e f no=>by
   have hb:b≠I:=λh=>by obtain rfl:=h.symm;exact On dI e
   exact sb1 b hb▸k'.old b ob e f no,λb f=>k'.grow b ((fo3 b).mp f)⟩
  have fI3:¬aS V' h₁ I:=λf=>fI' ((fo3 _).mp f);refine io.liv j₁ λoI1 hoI1 ntI1=>?_;refine io.lets _ {s' with heap:=h₁,toks:=tk} j₁ y v _ _ ?_;refine jq (yF (s:={s' with heap:=h₁,toks:=tk}) ok.R.hand hy x3 vo3 r1 tu λs4 Z4 x4 vo4 k4 q4=>jq (E:=notedBy _ _ _ _) ?_);obtain⟨hoI4,fI4⟩:=KeepX.nfI (s:={s' with heap:=h₁,toks:=tk}) k4 hoI1 fI3 noI;have j4:J (i+1) s4.heap:=io.frame _ _ _ j₁ λb ob e hb=>by
   rcases hb with rfl|hb
   .obtain rfl:=Os hoI1 e;exact hoI4
   .exact k4.tups (s:={s' with heap:=h₁,toks:=tk}) x3 vo3 b ob e hb
  refine bK (iha ha (ok.nextX x4 vo4) _ q4) (λf s5 h5=>?_) λ_ _ e=>e;obtain⟨V5,Z5,x5,vo5,k5,q5⟩:=h5;have kf:KeepX (bN env ns) V1 s1.heap V5 s5.heap:=(k3.trans k4).trans k5;have again:Inv (i+1) Z5 V5->∃m',m'<m/\E3 λi Z' V'=>A8 (m'+i=xs.length) (i<=xs.length) (St B V' s5) (VO B env ns Z' V' s5.heap) (KeepX (bN env ns) V1 s1.heap V' s5.heap) (J i s5.heap) (¬aS V' s5.heap I) (Inv i Z' V'):=λq5=>by
   obtain⟨hoI5,fI5⟩:=KeepX.nfI k5 hoI4 fI4 noI;refine⟨m0,em▸lt_succ_self m0,i+1,Z5,V5,(Nat.succ_add_eq_add_succ m0 i).symm.trans (em▸hmi),by assumption,x5,vo5,kf,?_,fI5,q5⟩
   .exact io.frame _ _ _ j4 λb ob e hb=>by
     rcases hb with rfl|hb
     .obtain rfl:=Os hoI4 e;exact hoI5
     .exact k5.tups x4 vo4 b ob e hb
  induction f with
  |next=>exact again q5
  |cont=>exact again q5
  |brk=>exact⟨V5,Z5,x5,vo5,(KeepX.of k1).trans kf,q5⟩
  |ret v=>exact⟨V5,Z5,x5,vo5,(KeepX.of k1).trans kf,q5⟩
 .have hie:i=xs.length:=by omega
  obtain rfl:=hie.symm;obtain⟨al,q⟩:=done Z' V' inv';refine bK (io.fin s' V' j' x' al _ λh₁ tk eb=>?_) (λ_ _ z=>z) λ_ _ e=>e.elim;refine io.liv j' λoI hoI ntI=>?_;have p1:Pres B V' s'.heap h₁:=λb ob e=>by
   by_cases hb:b=I
   .obtain rfl:=hb.symm;obtain rfl:=Os hoI e;exact .inr ⟨fI',ntI,bI⟩
   .exact .inl (eb b ob hb e)
  have fo1:=Pres.foot (s':={s' with heap:=h₁,toks:=tk}) x' p1;refine wpAny_execs_nil ⟨V',Z',x'.pres (s':={s' with heap:=h₁,toks:=tk}) p1 rfl rfl,?_,(KeepX.of k1).trans ⟨λb ob e f no=>?_,λb f=>k'.grow b ((fo1 b).mp f)⟩,q⟩
  .refine VO.other' x' p1 vo' λb hb ob e=>eb b ob (λh=>noI (h▸hb)) e
  .have hb:b≠I:=λh=>by obtain rfl:=h.symm;exact On dI e
   exact eb b ob hb (k'.old b ob e f no)
end
section
variable{B:Bs} {n:Nat} {sc:Scope} {env:Env} {ns:List PySem.Str} {Z:aL} {A:Around} {V:IH} {s:Shared}
theorem qX (h:sw v=true):swapsWith v t l env=pure false:=by
 rcases v<;>first|rfl|exact(bE h).elim
theorem U4:swapsWith v (some (.Subscript o i q)) l env=pure false:=by rcases v<;>rfl
theorem U3:swapsWith v (some (.Attribute o m q)) l env=pure false:=by rcases v<;>rfl
theorem U5 {ys:List Expr} (h:BD v=true):swappedStores [.Tuple ys k p] v env=pure none:=by rcases v<;>first|rfl|exact(bE h).elim
theorem PU.bind {M:Model} {α:Type} {m:Sem α} {Q:IH->Prop} {R:α->Shared->Prop} (p:wpAny M A m (λ_ s'=>PU B V h Q s') aA s)
 (k:∀v s1 V1,St B V1 s1->Keep V h V1 s1.heap->Q V1->R v s1):wpAny M A m R aA s:=bK p (λv s1 zq=>by obtain⟨V1,a,b,d⟩:=zq;exact k v s1 V1 a b d) λ_ _ e=>e
theorem SQ.next {V':IH} {s':Shared} {K:Kn} (x':St B V' s') (vo':VO B env ns Z V' s'.heap) (k:Keep V s.heap V' s'.heap) (q:K.nx Z V'):SQ B env ns V s.heap K .next s':=⟨V',Z,x',vo',KeepX.of k,q⟩
theorem zw (vo:VO B env ns Z V s.heap):interactive env=false:=by unfold interactive;exact O vo.kind rfl
theorem Vs {K:Kn} (iha:fH B a) (ok:Ok B n sc env ns Z A V s) (hc:mE sc ns c t=true) (ha:eH sc ns a body=true) (q:jI B n (.while_ c a) Z K V):
 wpAny (model pw B.w) A (exec (.While t body [] p) env) (SQ B env ns V s.heap K) aA s:=by
 obtain⟨Inv,⟨k,inv⟩,step⟩:=q;refine wpAny_While ?_;refine codeAny_whileLoop (λk s'=>E2 λZ' V'=>A4 (St B V' s') (VO B env ns Z' V' s'.heap) (KeepX (bN env ns) V s.heap V' s'.heap) (Inv k Z' V')) ?_ k ⟨Z,V,ok.x,ok.vo,KeepX.refl _ _,inv⟩;rintro k s' ⟨Z',V',x',vo',k',inv'⟩;have ok':=ok.nextX x' vo';refine jq (PT.bind ((sE B c hc ok').2 _ (step k Z' V' _ (λ_ _ h=>h) inv')) λr s1 V1 x1 k1 q1=>?_);have vo1:=vo'.keep x' k1;have kx:=k'.trans (KeepX.of (own:=bN env ns) k1);by_cases hr:r=true
 .rw[if_pos hr]at q1⊢;refine jq (bK (iha ha (ok.nextX x1 vo1) _ q1) (λf s₂ h2=>?_) λ_ _ e=>e);obtain⟨V2,Z2,x2,vo2,k2,q2⟩:=h2;have kf:=kx.trans k2
  induction f with
  |next=>obtain⟨j,hj,q2⟩:=q2;exact⟨j,hj,Z2,V2,x2,vo2,kf,q2⟩
  |cont=>obtain⟨j,hj,q2⟩:=q2;exact⟨j,hj,Z2,V2,x2,vo2,kf,q2⟩
  |brk=>exact⟨V2,Z2,x2,vo2,kf,q2⟩
  |ret v=>exact⟨V2,Z2,x2,vo2,kf,q2⟩
 .rw[if_neg hr]at q1⊢;exact wpAny_execs_nil ⟨V1,Z',x1,vo1,kx,q1⟩
end
section
variable{B:Bs} {a b:MSs}
theorem UJ {t e}:eM B (.asg t e):=λn sc env ns Z A V s x hm ok K q=>by
 refine jX hm λ_ v p hm=>?_;refine j1 hm λy hm=>?_;refine bA hm λht hm=>?_;refine bA hm λhe hm=>?_;refine bA hm λhc htup=>?_;have q0:(aI B n Z e).e (λx V=>iW t x Z λZ'=>K.nx Z' V) V:=q
 induction t with
 |one i=>
  refine iN ht λnm pn hn=>?_;refine wpAny_Assign_Name (PP.bind ((sE B e he ok).1 _ q0) λw s1 V1 z x1 k1 r1 q1=>?_) (qX hc);refine VO.store x1 (ok.vo.keep ok.x k1) (nmOk.at hn) (nmOk.ne hn) r1 λs₂ x2 vo2 hs2 p2=>?_;obtain⟨a,ha,_,sb⟩:=hs2;exact⟨V1,_,x2,vo2,(KeepX.of k1).trans (KeepX.store x1 p2 ⟨a,ha,sb⟩),q1⟩
 |many is=>
  have ht':=ht;revert ht';refine iT ht λys k p' hn ht=>?_;refine Assign_Tuple (PP.bind ((sE B e he ok).1 _ q0) λw s1 V1 z x1 k1 r1 q1=>?_) (show swapsWith v (some (.Tuple ys k p')) p.line env=pure false from qX hc) ?_
  .exact yF ok.R.hand ht x1 (ok.vo.keep ok.x k1) r1 q1 λs₂ Z2 x2 vo2 k2 q2=>⟨V1,Z2,x2,vo2,(KeepX.of k1).trans k2,q2⟩
  .exact U5 htup
theorem UL {i e}:eM B (.asgC i e):=λn sc env ns Z A V s x hm ok K q=>by
 refine jX hm λ_ v p hm=>?_;refine j1 hm λy hm=>?_;refine iN hm λnm pn hm=>?_;refine bA hm λhn hm=>?_;refine bA hm λh1 he=>?_;revert he;refine ir h1 λ_ _ _ _ _ _ _ _ he=>?_;exact Ec ok (nmOk.at hn) (nmOk.ne hn) he q
theorem UK {o f e}:eM B (.asgA o f e):=λn sc env ns Z A V s x hm ok K q=>by
 refine jX hm λ_ v p hm=>?_;refine j1 hm λy hm=>?_;refine iA hm λy nm pn hm=>?_;refine dN hm λhz=>?_;refine bA hz λho he=>?_;refine plainObj_wpAny_Assign_Attribute (PP.bind ((sE B e he ok).1 _ q) λw s1 V1 z x1 k1 r1 q1=>PP.bind ((sE B o ho (ok.next x1 k1)).1 _ q1) λw' s₂ V2 z' x2 k2 r2 q2=>
  PU.bind (S9 ok.b x2 r2 (r1.keep x1 k2) q2) λ_ s3 V3 x3 k3 q3=>?_) U3
 have kk:=(k1.trans k2).trans k3;exact SQ.next x3 (ok.vo.keep ok.x kk) kk q3
theorem UM {o i e}:eM B (.asgI o i e):=λn sc env ns Z A V s x hm ok K q=>by
 refine jX hm λ_ v p hm=>?_;refine j1 hm λy hm=>?_;refine iS hm λy z pn hm=>?_;refine bA hm λho hm=>?_;refine bA hm λhi hm=>?_;refine wpAny_Assign_Subscript (PP.bind ((sE B e (bc hm).1 ok).1 _ q) λw s1 V1 z1 x1 k1 r1 q1=>PP.bind ((sE B o ho (ok.next x1 k1)).1 _ q1) λw' s₂ V2 z2 x2 k2 r2 q2=>
  PP.bind ((sE B i hi (ok.next x2 (k1.trans k2))).1 _ q2) λw'' s3 V3 z3 x3 k3 r3 q3=>PU.bind (S8 x3 ok.R.units (r2.keep x2 k3) r3 ((r1.keep x1 k2).keep x2 k3) q3) λ_ s4 V4 x4 k4 q4=>?_) U4
 have kk:=((k1.trans k2).trans k3).trans k4;exact SQ.next x4 (ok.vo.keep ok.x kk) kk q4
theorem UN {e}:eM B (.ex e):=λn sc env ns Z A V s x hm ok K q=>by
 refine zp hm λv p hm=>?_;exact wpAny_Expr_any (PP.bind ((sE B e (bc hm).1 ok).1 _ q) λw s1 V1 z x1 k1 r1 q1=>SQ.next x1 (ok.vo.keep ok.x k1) k1 q1) (zw ok.vo) (qX (bc hm).2)
theorem UP {c} (ha:fH B a) (hb:fH B b):eM B (.if_ c a b):=λn sc env ns Z A V s x hm ok K q=>by
 refine iIf hm λt y z p hm=>?_;refine bA hm λh1 hm=>?_;refine wpAny_If (PT.bind ((sE B c h1 ok).2 _ q) λr s1 V1 x1 k1 q1=>?_);have ok1:=ok.next x1 k1
 induction r with
 |true=>exact bK (ha (bc hm).1 ok1 _ q1) (λ_ _ h=>SQ.from (KeepX.of k1) h) λ_ _ e=>e
 |false=>exact bK (hb (bc hm).2 ok1 _ q1) (λ_ _ h=>SQ.from (KeepX.of k1) h) λ_ _ e=>e
theorem UR {c} (ha:fH B a):eM B (.while_ c a):=λn sc env ns Z A V s x hm ok K q=>by
 refine iWh hm λt y _ p hm=>?_;refine j0 hm λhm=>?_;exact Vs ha ok (bc hm).1 (bc hm).2 q
theorem UO {t k se} (ha:fH B a):eM B (.for_ t k se a):=λn sc env ns Z A V s x hm ok K q=>by
 refine iFo hm λy it z _ p hm=>?_;refine j0 hm λhm=>?_;refine bA hm λh1 hm=>?_;exact GR ha ok h1 (bc hm).1 (bc hm).2 q
theorem UQ {e}:eM B (.ret e):=λn sc env ns Z A V s x hm ok K q=>by
 refine iRe hm λ_ p hm=>?_;refine js hm λv hm=>?_;exact wpAny_Return_some (PP.bind ((sE B e hm ok).1 _ q) λw s1 V1 z x1 k1 r1 q1=>⟨V1,Z,x1,ok.vo.keep ok.x k1,KeepX.of k1,z,r1,q1⟩)
theorem US {m} (hs:eM B m) (hr:fH B a):fH B (.cons m a):=λn sc env ns Z A V s x hm ok K q=>by
 refine jc hm λy ys hm=>?_;refine wpAny_execs_cons (bK (hs (bc hm).1 ok _ q) (λf s1 h₁=>?_) λ_ _ e=>e)
 induction f with
 |next=>obtain⟨V1,Z1,x1,vo1,k1,q1⟩:=h₁;exact bK (hr (bc hm).2 (ok.nextX x1 vo1) _ q1) (λ_ _ h=>SQ.from k1 h) λ_ _ e=>e
 |brk=>exact h₁.imp λ_ _ h=>h
 |cont=>exact h₁.imp λ_ _ h=>h
 |ret v=>exact h₁.imp λ_ _ h=>h
end
mutual
theorem sS (B:Bs):∀(m:MS),eM B m
 |.asg .. =>UJ
 |.asgC .. =>UL
 |.asgA .. =>UK
 |.asgI .. =>UM
 |.ex _=>UN
 |.sup _=>λn sc env ns Z A V s x hm ok K q=>nomatch hm
 |.if_ _ a b=>UP (gQ B a) (gQ B b)
 |.while_ _ a=>UR (gQ B a)
 |.for_ _ _ _ a=>UO (gQ B a)
 |.ret _=>UQ
 |.brk=>λn sc env ns Z A V s x hm ok K q=>by refine iBr hm λp=>?_;exact wpAny_Break ⟨V,Z,ok.x,ok.vo,KeepX.refl _ _,q⟩
 |.cont=>λn sc env ns Z A V s x hm ok K q=>by refine iCo hm λp=>?_;exact wpAny_Continue ⟨V,Z,ok.x,ok.vo,KeepX.refl _ _,q⟩
 |.bad=>λn sc env ns Z A V s x hm ok K q=>False.elim q
theorem gQ (B:Bs):∀(m:MSs),fH B m
 |.nil=>λn sc env ns Z A V s x hm ok K q=>by refine j0 hm λ_=>?_;exact wpAny_execs_nil ⟨V,Z,ok.x,ok.vo,KeepX.refl _ _,q⟩
 |.cons m r=>US (sS B m) (gQ B r)
end
theorem Vy {names:List PySem.Str}:∀{vals:List Value},names.length=vals.length->∀n∈names,((names.zip vals).lookup n).isSome=true:=by
 induction names with
 |nil=>intro _ _ n h;rcases h
 |cons x r ih=>
  intro vals h n hn;rcases vals with _|⟨v,vs⟩
  .rcases h
  .refine O zip_cons_cons (O lookup_cons ?_);by_cases e:n=x
   .exact O e (O (beq_self_eq_true ..) rfl)
   .exact O (beq_false_of_ne e) (ih (Nat.succ.inj h) n ((mem_cons.mp hn).resolve_left e))
theorem DX {names:List PySem.Str}:∀{vals:List Value},names.length=vals.length->names.Nodup->∀(i:Nat) (x:PySem.Str) (v:Value),names[i]? =some x->vals[i]? =some v->(names.zip vals).lookup x=some v:=by
 induction names with
 |nil=>intro _ _ _ i x v h;exact On getElem?_nil h
 |cons y r ih=>
  intro vals h hn i x v h1 h2;rcases vals with _|⟨w,vs⟩
  .rcases h
  .refine O zip_cons_cons (O lookup_cons ?_);rcases i with _|i
   .obtain rfl:=aP h1;obtain rfl:=aP h2;exact O (beq_self_eq_true ..) rfl
   .have hn:=nodup_cons.mp hn;have h1:r[i]? =some x:=h1;exact O (beq_false_of_ne (a:=x) (b:=y) λe=>hn.1 (e▸aF h1)) (ih (Nat.succ.inj h) hn.2 i x v h1 h2)
theorem DY {names:List PySem.Str}:∀{vals:List Value},x∉names->(names.zip vals).lookup x=none:=by
 induction names with
 |nil=>intro _ _;rfl
 |cons y r ih=>
  intro vals h;rcases vals with _|⟨w,vs⟩
  .rfl
  .exact O zip_cons_cons (O lookup_cons (O (beq_false_of_ne (a:=x) (b:=y) λe=>h (e▸bJ)) (ih λhm=>h (dw _ hm))))
theorem Vx (names:List PySem.Str) (vals:List Value) (hl:names.length=vals.length) (hn:names.Nodup):names.filterMap (λn=>((names.zip vals).lookup n).map (n,·))=names.zip vals:=by
 have key:∀(k:List PySem.Str) (w:List Value),k.length=w.length->k.Nodup->∀f:PySem.Str->Option Value,(∀(i:Nat) (x:PySem.Str) (v:Value),k[i]? =some x->w[i]? =some v->f x=some v)->k.filterMap (λn=>(f n).map (n,·))=k.zip w:=by
  intro k
  induction k with
  |nil=>intro w _ _ f _;simp
  |cons x k ih=>
   intro w hw hk f hf
   induction w with
   |nil=>simp at hw
   |cons v w=>
    have h0:=hf 0 x v rfl rfl;refine O List.filterMap_cons (O h0 ?_);simp only[map_some,zip_cons_cons];exact O (ih w (Nat.succ.inj hw) (nodup_cons.mp hk).2 f λi y z h1 h2=>hf (i+1) y z (h1) (h2)) rfl
 exact key names vals hl hn _ λi x v h1 h2=>DX hl hn i x v h1 h2
theorem bp (nm:PySem.Str) (qn:PySem.Str) (ps:List Arg) (dd:List Expr) (vals:List Value) (bd:FuncBody) (sc:Scope) (g:Addr) (cl:List (PySem.Str×Addr)) (kd doc pm:Value) (an:Option Addr) (co ct:Value) (bu:Addr) (ns:List PySem.Str) (e:ps.map Arg.arg=ns):
 ∃X Y:Sem (List (PySem.Str×Value)),bindArgs ⟨nm,qn,⟨[],ps,none,[],[],none,dd⟩,bd,sc,g,cl,.none,kd,doc,pm,an,co,ct,bu⟩ ⟨vals,[]⟩=
  (if(decide (vals.length>ns.length)&&true)=true then X else
   if(!(((ns).take (ns.length -List.length (List.drop (List.length ([]:List Value) -ns.length) ([]:List Value)))).filter (λn=>((ns.zip vals).lookup n).isNone)).isEmpty)=true then Y else
    (forIn (m:=Sem) ((ns.drop (ns.length -List.length (List.drop (List.length ([]:List Value) -ns.length) ([]:List Value)))).zip (List.drop (List.length ([]:List Value) -ns.length) ([]:List Value))) (ns.zip vals) (λp s=>if(s.lookup p.1).isNone=true then pure (.yield (s++[(p.1,p.2)]))else pure (.yield s)))>>= λs=>pure ((ns++[]).filterMap λn=>(s.lookup n).map (n,·))):=by
 subst e;exact⟨_,_,rfl⟩
theorem yL {fd:FuncData} {ps:List Arg} {vals:List Value} (hp:fd.params=⟨[],ps,none,[],[],none,dd⟩) (hd:fd.defaults=.none) (hl:(ps.map (·.arg)).length=vals.length) (hn:(ps.map (·.arg)).Nodup):
 bindArgs fd ⟨vals,[]⟩=pure ((ps.map (·.arg)).zip vals):=by
 obtain⟨a1,a2,a3,a4,a5,a6,a7,a8,a9,b1,b2,b3,b4,b5,b6⟩:=fd;subst hp hd;obtain⟨X,Y,h⟩:=bp a1 a2 ps dd vals a4 a5 a6 a7 a9 b1 b2 b3 b4 b5 b6 _ rfl;generalize ps.map (λx=>x.arg)=ns at *;have h2:=Vy hl;simp only[List.drop_nil,length_nil,Nat.sub_zero,List.zip_nil_right]at h;refine O h (O (ai (by simp;exact le_of_eq (Eq.symm ‹_›))) ?_);rw[if_neg]
 .exact(be (pure (f:=Sem)) (by rw[append_nil,Vx _ _ hl hn]):(pure ((ns++[]).filterMap λn=>((ns.zip vals).lookup n).map (n,·)):Sem _)=_)
 .have h3:(ns.take ns.length).filter (λn=>((ns.zip vals).lookup n).isNone)=[]:=List.filter_eq_nil_iff.2 λn m=>by have:=h2 n (List.mem_of_mem_take m);rcases e:(ns.zip vals).lookup n<;>simp[e]at this⊢
  show¬(!(List.filter _ (ns.take ns.length)).isEmpty)=true;refine O h3 ?_;simp
section
set_option tactic.hygienic true
noncomputable def Dq (sc:Scope) (ns:List PySem.Str):Bool:=(List.range ns.length).all λi=>ns[i]? ==some (u "")||(((ns[i]?.any λx=>sc.names.lookup x==some .local||sc.names.lookup x==some .cell))&&(List.range ns.length).all λj=>j==i||ns[j]? !=ns[i]?)
noncomputable def CQ (p:Arguments) (ns:List PySem.Str) (k:Nat):Bool:=
 p.posonlyargs.isEmpty&&p.vararg.isNone&&p.kwonlyargs.isEmpty&&p.kw_defaults.isEmpty&&p.kwarg.isNone&&p.args.map (·.arg)==ns.take k&&p.args.length==k&&(ns.take k).all λx=>x !=u ""
noncomputable def fY (K:Frag) (fd:FuncData) (m:MSs) (ns:List PySem.Str) (k:Nat):Bool:=
 fd.globals==mainGlobals&&fd.builtins==builtinsNs&&fd.scope.kind==.function&& !fd.scope.isCoroutine&& !fd.scope.isGenerator&&codeIn K fd.code fd.qualname&&(match fd.body with|.stmts b=>eH fd.scope ns m b|_=>false)&&Dq fd.scope ns&&CQ fd.params ns k
theorem F5 (names:List (PySem.Str×NameKind)):∀(n:Nat) (acc:List (PySem.Str×Addr)),(acc.lookup x).isSome=true->((cellsFrom n names acc).lookup x).isSome=true:=by
 induction names with
 |nil=>exact λ_ _ h=>h
 |cons y r ih=>
  intro n acc h;unfold cellsFrom;split
  .refine ih _ _ ?_;refine O lookup_cons ?_;split
   .rfl
   .exact h
  .exact ih _ _ h
theorem yT (names:List (PySem.Str×NameKind)):∀(n:Nat) (acc:List (PySem.Str×Addr)),(x,NameKind.cell)∈names->((cellsFrom n names acc).lookup x).isSome=true:=by
 induction names with
 |nil=>exact λ_ _ h=>nomatch h
 |cons y r ih=>
  intro n acc h;unfold cellsFrom;rcases mem_cons.mp h with rfl|h
  .simp only[beq_self_eq_true,if_true];exact F5 r _ _ (O lookup_cons (O (beq_self_eq_true ..) rfl))
  .split
   .exact ih _ _ h
   .exact ih _ _ h
theorem Ep {kindOf:PySem.Str->Option NameKind} (hk:kindOf x=some .local) {names:List PySem.Str}:∀{vals:List Value} {m:PySem.Str->Option Value},names.length=vals.length->names.Nodup->
 bindL kindOf (names.zip vals) m x=(((names.zip vals).lookup x).or (m x)):=by
 induction names with
 |nil=>intro vals m _ _;rfl
 |cons y r ih=>
  intro vals m h hn;rcases vals with _|⟨v,vs⟩
  .rcases h
  .have hn:=nodup_cons.mp hn;rw[zip_cons_cons,lookup_cons,bindL,ih (Nat.succ.inj h) hn.2];by_cases e:x=y
   .obtain rfl:=e.symm;rw[DY hn.1,if_pos hk,if_pos rfl,beq_self_eq_true];rfl
   .rw[beq_false_of_ne e];by_cases hy:kindOf y=some .local
    .rw[if_pos hy,if_neg e]
    .rw[if_neg hy]
theorem Eo {kindOf:PySem.Str->Option NameKind} (hk:kindOf x≠some .local) {names:List PySem.Str}:∀{vals:List Value} {m:PySem.Str->Option Value},names.length=vals.length->names.Nodup->
 bindC kindOf (names.zip vals) m x=(((names.zip vals).lookup x).or (m x)):=by
 induction names with
 |nil=>intro vals m _ _;rfl
 |cons y r ih=>
  intro vals m h hn;rcases vals with _|⟨v,vs⟩
  .rcases h
  .have hn:=nodup_cons.mp hn;rw[zip_cons_cons,lookup_cons,bindC,ih (Nat.succ.inj h) hn.2];by_cases e:x=y
   .obtain rfl:=e.symm;rw[DY hn.1,if_neg hk,if_pos rfl,beq_self_eq_true];rfl
   .rw[beq_false_of_ne e];by_cases hy:kindOf y=some .local
    .rw[if_pos hy]
    .rw[if_neg hy,if_neg e]
structure FdS (K:Frag) (fd:FuncData) (m:MSs) (ns:List PySem.Str) (k:Nat):Prop where
 glob:fd.globals=mainGlobals
 blt:fd.builtins=builtinsNs
 kind:fd.scope.kind=.function
 co:fd.scope.isCoroutine=false
 gen:fd.scope.isGenerator=false
 code:codeIn K fd.code fd.qualname=true
 body:∃b,fd.body=.stmts b/\eH fd.scope ns m b=true
 slot:∀(i:Nat) (x:PySem.Str),ns[i]? =some x->x≠u ""->(fd.scope.names.lookup x=some .local\/fd.scope.names.lookup x=some .cell)/\∀j,ns[j]? =some x->j=i
 par:∃ps dd,fd.params=⟨[],ps,none,[],[],none,dd⟩/\ps.map (·.arg)=ns.take k/\ps.length=k
 par0:∀x∈ns.take k,x≠u ""
theorem rQ {K:Frag} (h:fY K fd m ns k=true):FdS K fd m ns k:=by
 unfold fY at h;simp only[and_eq_true,beq_iff_eq,Bool.not_eq_true']at h;obtain⟨⟨⟨⟨⟨⟨⟨⟨h1,h2⟩,h3⟩,h4⟩,h5⟩,h6⟩,h7⟩,h8⟩,h9⟩:=h;have hp:∃ps dd,fd.params=⟨[],ps,none,[],[],none,dd⟩/\ps.map (·.arg)=ns.take k/\ps.length=k/\∀x∈ns.take k,x≠u "":=by
  unfold CQ at h9;generalize fd.params=p at h9⊢;obtain⟨a,b,c,d,e,f,g⟩:=p;simp only[and_eq_true,beq_iff_eq,all_eq_true,bne_iff_ne,isEmpty_iff,Option.isNone_iff_eq_none]at h9;obtain⟨⟨⟨⟨⟨⟨⟨rfl,rfl⟩,rfl⟩,rfl⟩,rfl⟩,g6⟩,g7⟩,g8⟩:=h9;exact⟨b,g,rfl,g6,g7,g8⟩
 o_shape;obtain⟨ps,dd,p1,p2,p3,p4⟩:=hp;pv_eval;refine⟨h1,h2,h3,h4,h5,h6,?_,λi x hi hx=>?_,⟨ps,dd,p1,p2,p3⟩,p4⟩
 .split at h7
  .rename_i b e;exact⟨b,e,h7⟩
  .exact(bE h7).elim
 .unfold Dq at h8;have hlt:=(List.getElem?_eq_some_iff.mp hi).1;have:=hU.mp h8 i (mem_range.mpr hlt);rw[hi]at this;simp only[or_eq_true,beq_iff_eq,and_eq_true,Option.any_some,all_eq_true,bne_iff_ne]at this;rcases this with h|⟨h,h'⟩
  .obtain rfl:=aP h;exact absurd rfl hx
  .refine⟨h,λj hj=>?_⟩;have hjl:=(List.getElem?_eq_some_iff.mp hj).1;rcases h' j (mem_range.mpr hjl)with h|h
   .exact h
   .exact absurd hj h
theorem FdS.nodup {K:Frag} {ns:List PySem.Str} (S:FdS K fd m ns k):(ns.take k).Nodup:=by
 rw[List.Nodup,List.pairwise_iff_getElem];intro i j hi hj hij e;rw[getElem_take,getElem_take]at e;have hi':i<ns.length:=by simp at hi;exact(lt_min.1 ‹_›).2
 have hj':j<ns.length:=by simp at hj;exact(lt_min.1 ‹_›).2
 have a:ns[i]? =some ns[i]:=c8 hi';have b:ns[j]? =some ns[i]:=by exact O (c8 hj') (O e rfl)
 have nz:ns[i]≠u "":=S.par0 _ (List.mem_iff_getElem.mpr ⟨i,hi,by exact O getElem_take rfl⟩);have:=(S.slot i _ a nz).2 j b;lia
theorem Room.sub {A:Around} (h:Room (n+1) A) (env:Env):RoomB n (A.deeper env):=⟨h.hand,by have:=h.deep;show A.depth+1+10*n+5<=900;lia,by have:=h.wide;show A.units+3+40*n+20<=9000;lia⟩
theorem rA {B:Bs} (hB:Base B) {fd:FuncData} {ns:List PySem.Str} {args args':List IV}
 (hl:(K B.w.params).lookup f=some ⟨cls,od,.func fd,sl⟩) (hok:fY (K B.w.params) fd m ns args'.length=true) (hcl:fd.closure=[]) (hkn:args'.length<=ns.length)
 (hb:∀s,St B V s->∀vs,VRs B s.heap vs args->∃ws,BindsTo s fd ⟨vs,[]⟩ ((ns.take args'.length).zip ws)/\VRs B s.heap ws args')
 (hZ:Z0=args'.map some++List.replicate (ns.length -args'.length) none)
 (h:az B n m Z0 (aH Q) V):CallOk B (n+1) f args V Q:=by
 intro A R s x vs r;have S:=rQ hok;o_shape;obtain⟨b,hbody,hmb⟩:=S.body;obtain⟨ps,dd,hp1,hp2,hp3⟩:=S.par;obtain⟨ws,bt,rw'⟩:=hb s x vs r;have X:=hB.kin' x;obtain⟨mg,mb,T⟩:=hB.T;pv_eval;have hlim:s.heap.NoLimit:=T.nolimit.keeps x.keep;have hlen:(ns.take args'.length).length=ws.length:=by refine O rw'.length ?_;simp;lia
 have hnd:=S.nodup;refine codeAny_call_function (by have:=R.deep;show A.depth<1000;lia) (X _ _ hl) rfl S.co S.gen hbody (codeRec_of X S.code) (bt _ _ _ _ ?_);refine O hcl ?_;have hkind:∀z∈(ns.take args'.length).zip ws,fd.scope.names.lookup z.1=some .local\/(fd.scope.names.lookup z.1=some .cell/\((cellsFrom (s.heap.objs.size+1) fd.scope.names []).lookup z.1).isSome=true):=by
  intro z hz;have h1:=(List.of_mem_zip hz).1;obtain⟨i,hi,e⟩:=List.mem_iff_getElem.mp h1;rw[getElem_take]at e;have hi':i<ns.length:=by simp at hi;lia
  rcases(S.slot i z.1 (O (c8 hi') (O e rfl)) (S.par0 _ h1)).1 with h|h
  .exact .inl h
  .exact .inr ⟨h,yT _ _ _ (PySem.mem_of_lookup h)⟩
 refine wpAny_newFunctionEnv_cells S.kind hkind λenv he s1 ic=>?_;refine⟨hlim.keeps ic.toInCall.keep,codeAny_func ?_⟩;have kp:=ic.toInCall.keep;obtain⟨h₁,tk,es1⟩:=ic.toInCall.same;subst es1;have k1:Keep V s.heap V h₁:=Pres.keep (s':={s with heap:=h₁,toks:=tk}) x kp;have x1:St B V {s with heap:=h₁,toks:=tk}:=x.pres (s':={s with heap:=h₁,toks:=tk}) (Pres.ofKeeps kp) rfl rfl;have fo:=Pres.foot (s':={s with heap:=h₁,toks:=tk}) x (Pres.ofKeeps kp);have ke:∀z,env.kindOf z=fd.scope.names.lookup z:=λz=>by exact O he rfl
 have deadL:s.heap.get? env.locals=none:=get?_none_of_le ic.toInCall.fresh;have deadC:∀z c,env.cells.lookup z=some c->s.heap.get? c=none/\c≠env.locals:=λz c hc=>by
  have:=ic.above z c (PySem.mem_of_lookup hc);have hf:=ic.toInCall.fresh;exact⟨get?_none_of_le (le_of_lt (cn hf this)),ne_of_gt this⟩
 have nbase:∀{a:Addr},s.heap.get? a=none->B.h0.get? a=none:=λ{a} h=>by
  induction e:B.h0.get? a with
  |none=>rfl
  |some o=>exact Om (x.keep _ _ e) h
 have nfoot:∀{a:Addr},s.heap.get? a=none->¬aS V h₁ a:=λ{a} h f=>x.nofoot h ((fo _).mp f);have rw1:VRs B h₁ ws args':=rw'.keep x k1;have first:∀(i:Nat) (z:PySem.Str),ns[i]? =some z->z≠u ""->OVR B h₁ (((ns.take args'.length).zip ws).lookup z) (Z0[i]?).join:=λi z hi hz=>by
  subst hZ;by_cases hik:i<args'.length
  .have h1:(ns.take args'.length)[i]? =some z:=by exact O (List.getElem?_take_of_lt hik) hi
   have h2:args'[i]? =some args'[i]:=c8 hik;obtain⟨v,hv,rv⟩:=rw1.get h2;exact O (DX hlen hnd i z v h1 hv) (O (cF (by simpa using hik)) (O aQ (O h2 rv)))
  .have h3:(((args'.map some++List.replicate (ns.length -args'.length) none)[i]?).join:Option IV)=none:=by
    refine O (dj (by simpa using hik)) ?_
    induction e:(List.replicate (ns.length -args'.length) (none:Option IV))[i -(args'.map some).length]? with
    |none=>rfl
    |some o=>
     have:=aF e;rw[List.mem_replicate]at this;exact O this.2 rfl
   refine O h3 ?_;rcases((ns.take args'.length).zip ws).lookup z<;>exact trivial
 have vo:VO B env ns Z0 V h₁:=by
  refine⟨by exact O he S.kind,by exact O he S.glob,by exact O he S.blt,λi z hi hz=>by exact O (ke ..) (S.slot i z hi hz).1,λi j z hi hj hz=>((S.slot i z hi hz).2 j hj).symm,⟨_,ic.toInCall.ns,λi z hi hz hk=>?_⟩,λi z hi hz hk=>?_,
   λi j z y c hi hj hz hy hkz hky h1 h2=>PySem.name_of_addr ic.apart (PySem.mem_of_lookup h1) (PySem.mem_of_lookup h2),nfoot deadL,nbase deadL⟩
  .refine O (Ep hk hlen hnd) ?_;have:=first i z hi hz
   induction e:((ns.take args'.length).zip ws).lookup z with
   |none=>rw[e]at this;simpa using this
   |some v=>rw[e]at this;simpa using this
  .have hc:(fd.scope.names.lookup z)=some .cell:=by exact Ob (ke ..) hk
   have hs:=yT _ (s.heap.objs.size+1) [] (PySem.mem_of_lookup hc);have hce:env.cells=cellsFrom (s.heap.objs.size+1) fd.scope.names []:=by exact O he rfl
   obtain⟨c,hcc⟩:=Option.isSome_iff_exists.mp hs;rw[<-hce]at hcc;refine⟨c,_,hcc,ic.cell z c hcc,?_,nfoot (deadC z c hcc).1,nbase (deadC z c hcc).1,(deadC z c hcc).2⟩;refine O (Eo (by refine O hk ?_;intro h;cases h) hlen hnd) ?_;have:=first i z hi hz
   induction e:((ns.take args'.length).zip ws).lookup z with
   |none=>rw[e]at this;simpa using this
   |some v=>rw[e]at this;simpa using this
 have ok:Ok B n fd.scope env ns Z0 (A.deeper env) V {s with heap:=h₁,toks:=tk}:=⟨hB,⟨λz hz=>by exact O (ke ..) hz,λz hz=>by exact O (ke ..) hz⟩,R.sub env,x1,vo⟩;refine jq (bK (gQ B m hmb ok _ h) (λfl s₂ h₂=>?_) λ_ _ e=>e);obtain⟨V2,Z2,x2,vo2,k2,q2⟩:=h₂;have own_dead:∀b,bN env ns b->s.heap.get? b=none:=λb hb=>by
  rcases hb with rfl|⟨i,z,hi,hz,hk,hc⟩
  .exact deadL
  .exact(deadC z b hc).1
 have kf:Keep V s.heap V2 s₂.heap:=by
  have kx:=(KeepX.of (own:=bN env ns) k1).trans k2;refine⟨λb o e nf=>kx.old b o e nf λow=>?_,λb f=>?_⟩
  .exact On (own_dead b ow) e
  .rcases kx.grow b f with f|f|f
   .exact .inl f
   .exact .inr f
   .exact .inr (own_dead b f)
 induction fl with
 |next=>exact⟨V2,.none,x2,kf,VR_none.mpr rfl,q2⟩
 |brk=>exact q2.elim
 |cont=>exact q2.elim
 |ret v=>obtain⟨i,ri,q2⟩:=q2;exact⟨V2,i,x2,kf,ri,q2⟩
theorem F1 {B:Bs} (hB:Base B) {fd:FuncData} {ns:List PySem.Str} {args:List IV}
 (hl:(K B.w.params).lookup f=some ⟨cls,od,.func fd,sl⟩) (hok:fY (K B.w.params) fd m ns args.length=true) (hcl:fd.closure=[]) (hdef:fd.defaults=.none) (hkn:args.length<=ns.length)
 (hZ:Z0=args.map some++List.replicate (ns.length -args.length) none)
 (h:az B n m Z0 (aH Q) V):CallOk B (n+1) f args V Q:=by
 have S:=rQ hok;o_shape;obtain⟨ps,dd,hp1,hp2,hp3⟩:=S.par;pv_eval;refine rA hB hl hok hcl hkn (λs x vs r=>⟨vs,?_,r⟩) hZ h;have:=yL (vals:=vs) hp1 hdef (O (aE ..) (O hp3 (O r.length rfl))) (O hp2 S.nodup);rw[hp2]at this;exact BindsTo.of_eq this
end
theorem Vr (c:Addr) (l:List Value):(Code.builtin "type.__call__" ⟨.ref c::l,[]⟩).weight=1:=by kernel_rfl
theorem Vp (c:Addr) (l:List Value):(Code.builtin "type.__call__" ⟨.ref c::l,[]⟩).cUnits=1:=by kernel_rfl
theorem G8:(iTab.all λq=>clsTab.any λp=>p.1==q.1)=true:=by decide+kernel
theorem fq (hB:Base B) (hi:iTab.contains (c,init)=true)
 (h:∀p,V p=none->CallOk B n init (.ref p::args) (upd V p (.inst c [])) (λv V'=>v=.none/\Q (.ref p) V')):CallOk B (n+1) c args V Q:=by
 intro A R s x vs r;have X:=hB.kin' x;have hmem:(c,init)∈iTab:=by simpa using hi
 have C:=yU (hU.mp G8 _ hmem) B.w.params;have I:=hU.mp (Hc B.w.params) _ hmem;unfold isFn at I;simp only[and_eq_true,beq_iff_eq]at I;obtain⟨hh,g,d,t,os⟩:=s;refine make_core (makes_of X C.makes) (looks_findIn X I.1) (λself=>bind_fn X self I.2) (.inl rfl) ?_;have dead1:hh.get? hh.objs.size=none:=get?_none_of_le (aY _);have dead2:hh.get? (hh.objs.size+1)=none:=get?_none_of_le (Nat.le_succ _);have kp:∀b o,hh.get? b=some o->((hh.push emptyDict).push (instObj c hh.objs.size)).get? b=some o:=λb o e=>cP _ (cP _ e);have g1:((hh.push emptyDict).push (instObj c hh.objs.size)).get? (hh.objs.size+1)=some (instObj c hh.objs.size):=by
  have e:(hh.push emptyDict).objs.size=hh.objs.size+1:=size_push ..;exact e▸c7 _ rfl
 have g2:((hh.push emptyDict).push (instObj c hh.objs.size)).get? hh.objs.size=some emptyDict:=cP _ (c7 _ rfl);have ro:RO B ((hh.push emptyDict).push (instObj c hh.objs.size)) (hh.objs.size+1) (.inst c []):=
  ⟨hh.objs.size,#[],emptyDict,#[],0,g1,g2,rfl,λe he=>by simp at he,aY _,λf _=>by simp[nsFind,findBy,aq,OR],λp hp=>by cases hp⟩
 obtain⟨x1,k1⟩:=x.born (c:=c) (Nat.succ_ne_self _) dead2 dead1 kp g1 rfl ro t;have hn:V (hh.objs.size+1)=none:=x.dead dead2;have R1:Room n (A.under (.builtin "type.__call__" ⟨.ref c::vs,[]⟩)):=by
  have h1:=R.deep;have h2:=R.wide;refine⟨R.hand,?_,?_⟩
  .show A.depth+(Code.builtin "type.__call__" ⟨.ref c::vs,[]⟩).weight+10*n<=900;refine O (Vr ..) ?_;lia
  .show A.units+(Code.builtin "type.__call__" ⟨.ref c::vs,[]⟩).cUnits+40*n<=9000;refine O (Vp ..) ?_;lia
 refine codeAny_mono (h _ hn _ R1 _ x1 (.ref (hh.objs.size+1)::vs) ⟨VR_ref.mpr rfl,r.keep x k1⟩) λz s' q=>?_
 induction z with
 |error e=>exact q.elim
 |ok f=>
  induction f with
  |ret v=>
   obtain⟨V',i,x',k',ri,rfl,q'⟩:=q;exact⟨ri,V',.ref _,x',k1.trans k',VR_ref.mpr rfl,q'⟩
  |_=>exact q.elim
section
set_option tactic.hygienic true
noncomputable def aM (K:Frag) (f:Addr) (m:MSs) (ns:List PySem.Str) (k:Nat):Bool:=match K.lookup f with
 |some ⟨_,_,.func fd,_⟩=>fY K fd m ns k&&fd.closure.isEmpty&&fd.defaults==.none&&decide (k<=ns.length)
 |_=>false
theorem aN {B:Bs} (hB:Base B) {ns:List PySem.Str} {args:List IV} (hok:aM (K B.w.params) f m ns k=true) (hk:k=args.length)
 (hZ:Z0=args.map some++List.replicate (ns.length -args.length) none) (h:az B n m Z0 (aH Q) V):CallOk B (n+1) f args V Q:=by
 unfold aM at hok;rcases hl:K B.w.params |>.lookup f with _|⟨_,_,d,_⟩<;>rw[hl]at hok
 .exact(bE hok).elim
 .cases d<;>first|exact(bE hok).elim|skip
  simp only[and_eq_true,beq_iff_eq,decide_eq_true_eq,isEmpty_iff]at hok;subst hk;exact F1 hB hl hok.1.1.1 hok.1.1.2 hok.1.2 hok.2 hZ h
end
noncomputable section
set_option tactic.hygienic true
noncomputable abbrev kC (s:MS) (r:MSs):MSs:=.cons s r
def H5:=kC (.ret (.loc 1)) .nil
def H6:=kC (.asg (.one 2) (.bin .Add (.loc 2) (.int 1))) .nil
def H7:=kC (.asg (.one 3) (.bin .RShift (.loc 3) (.int 1))) H6
def H8:=kC (.ex (.app (.loc 1) (.loc 2))) .nil
def H9:=kC (.if_ (.cmp .Eq (.bin .BitAnd (.loc 3) (.int 1)) (.int 1))
 H8
 .nil) H7
def Ia:=kC (.while_ (.cmp .Gt (.loc 3) (.int 0))
 H9) H5
def Ib:=kC (.asg (.one 3) (.loc 0)) Ia
def Ic:=kC (.asg (.one 2) (.int 0)) Ib
def zR:=kC (.asg (.one 1) (.lst .nil)) Ic
def PV:List PySem.Str:=[u "mask",u "found",u "at",u "left"]
theorem Ri (P:Params):aM (K P) 68 zR PV 1=true:=by kernel_rfl
def Id:=kC (.asgI (.att (.loc 0) 57) (.at (.loc 1) (.loc 6)) (.loc 6)) .nil
def Ie:=kC (.for_ (.one 6) .rng (.loc 2)
 Id) .nil
def Ig:=kC (.asgA (.loc 0) 57 (.dct .s)) Ie
def Ih:=kC (.asgA (.loc 0) 17 (.lst .nil)) Ig
def Ii:=kC (.asgA (.loc 0) 9 (.loc 5)) Ih
def Ij:=kC (.asgA (.loc 0) 43 (.loc 4)) Ii
def Ik:=kC (.asgA (.loc 0) 41 (.loc 3)) Ij
def Il:=kC (.asgA (.loc 0) 81 (.loc 2)) Ik
def zS:=kC (.asgA (.loc 0) 52 (.loc 1)) Il
def PW:List PySem.Str:=[u "self",u "names",u "terminal_count",u "lefts",u "lengths",u "befores",u "number"]
theorem Rj (P:Params):aM (K P) 82 zS PW 6=true:=by kernel_rfl
def zT:=kC (.ret (.at (.att (.loc 0) 41) (.loc 1))) .nil
def PX:List PySem.Str:=[u "self",u "rule"]
theorem Rk (P:Params):aM (K P) 96 zT PX 2=true:=by kernel_rfl
def zU:=kC (.ret (.at (.att (.loc 0) 43) (.loc 1))) .nil
def PY:List PySem.Str:=[u "self",u "rule"]
theorem Rm (P:Params):aM (K P) 103 zU PY 2=true:=by kernel_rfl
def zV:=kC (.ret (.at (.att (.loc 0) 17) (.loc 1))) .nil
def PZ:List PySem.Str:=[u "self",u "state"]
theorem Rn (P:Params):aM (K P) 131 zV PZ 2=true:=by kernel_rfl
def Im:=kC (.ret (.loc 3)) .nil
def Io:=kC (.ret (.neg (.met (.loc 0) 232 16 131 (.cons (.loc 1) .nil)))) .nil
def Ip:=kC (.if_ (.cmp .Eq (.loc 3) (.int 0))
 Io
 .nil) Im
def Iq:=kC (.ret (.int 0)) .nil
def Ir:=kC (.if_ (.cmp .Eq (.loc 3) (.glo (u "BARRED") (-1048576) 269))
 Iq
 .nil) Ip
def zW:=kC (.asg (.one 3) (.met (.loc 0) 232 22 222 (.cons (.loc 1) (.cons (.loc 2) .nil)))) Ir
def P0:List PySem.Str:=[u "self",u "state",u "terminal",u "told"]
theorem Ro (P:Params):aM (K P) 145 zW P0 3=true:=by kernel_rfl
def It:=kC (.asgA (.loc 0) 12 (.loc 5)) .nil
def Iu:=kC (.asgA (.loc 0) 69 (.loc 4)) It
def Iw:=kC (.asgA (.loc 0) 86 (.loc 3)) Iu
def Ix:=kC (.asgA (.loc 0) 80 (.loc 2)) Iw
def zX:=kC (.asgA (.loc 0) 76 (.loc 1)) Ix
def P1:List PySem.Str:=[u "self",u "state",u "terminal",u "way",u "rules",u "chosen"]
theorem Rp (P:Params):aM (K P) 180 zX P1 6=true:=by kernel_rfl
def Iy:=kC (.asgA (.loc 0) 50 (.loc 7)) .nil
def IA:=kC (.asgA (.loc 0) 73 (.loc 6)) Iy
def IB:=kC (.asgA (.loc 0) 15 (.loc 5)) IA
def IC:=kC (.asgA (.loc 0) 17 (.loc 4)) IB
def ID:=kC (.asgA (.loc 0) 30 (.loc 3)) IC
def IE:=kC (.asgA (.loc 0) 67 (.loc 2)) ID
def sf:=kC (.asgA (.loc 0) 31 (.loc 1)) IE
def IF:=kC (.sup (.cons (.att (.loc 1) 52) (.cons (.att (.loc 1) 81) (.cons (.loc 8) (.cons (.loc 9) (.cons (.loc 10) .nil)))))) sf
def IG:=kC (.asgC 10 (.comp [u "",u "",u "",u "",u "",u "",u "",u "",u "",u "",u "",u "",u "",u "rule"] 13 .it (.att (.loc 1) 69) (.att (.loc 13) 8))) IF
def Iz:=kC (.asgC 9 (.comp [u "",u "",u "",u "",u "",u "",u "",u "",u "",u "",u "",u "",u "rule",u ""] 12 .it (.att (.loc 1) 69) (.bi .len (.att (.loc 12) 65)))) IG
def zY:=kC (.asgC 8 (.comp [u "",u "",u "",u "",u "",u "",u "",u "",u "",u "",u "",u "rule",u "",u ""] 11 .it (.att (.loc 1) 69) (.att (.loc 11) 40))) Iz
def n_a7:List PySem.Str:=[u "self",u "grammar",u "rows",u "gotos",u "defaults",u "conflicts",u "settled",u "mode",u "lefts",u "lengths",u "befores",u "",u "",u ""]
def zZ:=kC (.ret (.at (.at (.att (.loc 0) 67) (.loc 1)) (.loc 2))) .nil
def P2:List PySem.Str:=[u "self",u "state",u "terminal"]
theorem Rq (P:Params):aM (K P) 222 zZ P2 3=true:=by kernel_rfl
def z0:=kC (.ret (.get2 (.at (.att (.loc 0) 30) (.loc 1)) (.loc 2) (.neg (.int 1)))) .nil
def P3:List PySem.Str:=[u "self",u "state",u "nonterminal"]
theorem Rr (P:Params):aM (K P) 229 z0 P3 3=true:=by kernel_rfl
def II:=kC (.ret .non) .nil
def IQ:=kC (.ret (.str (u "bar"))) .nil
def IR:=kC (.if_ (.cmp .Eq (.at (.loc 4) (.int 1)) (.str (u "nonassoc")))
 IQ
 .nil) II
def IS:=kC (.ret (.str (u "shift"))) .nil
def IT:=kC (.if_ (.cmp .Eq (.at (.loc 4) (.int 1)) (.str (u "right")))
 IS
 .nil) IR
def IU:=kC (.ret (.str (u "reduce"))) .nil
def IW:=kC (.if_ (.cmp .Eq (.at (.loc 4) (.int 1)) (.str (u "left")))
 IU
 .nil) IT
def IX:=kC (.ret (.str (u "shift"))) .nil
def IY:=kC (.if_ (.cmp .Lt (.at (.loc 3) (.int 0)) (.at (.loc 4) (.int 0)))
 IX
 .nil) IW
def IJ:=kC (.ret (.str (u "reduce"))) .nil
def IL:=kC (.if_ (.cmp .Gt (.at (.loc 3) (.int 0)) (.at (.loc 4) (.int 0)))
 IJ
 .nil) IY
def IM:=kC (.ret .non) .nil
def IN:=kC (.if_ (.or (.cmp .Is (.loc 3) .non) (.cmp .Is (.loc 4) .non))
 IM
 .nil) IL
def IP:=kC (.asg (.one 4) (.get (.att (.loc 0) 45) (.loc 2))) IN
def z6:=kC (.asg (.one 3) (.get (.att (.loc 0) 45) (.att (.at (.att (.loc 0) 69) (.loc 1)) 44))) IP
def P4:List PySem.Str:=[u "grammar",u "rule",u "terminal",u "own",u "other"]
theorem Rs (P:Params):aM (K P) 241 z6 P4 3=true:=by kernel_rfl
def IZ:=kC (.asgA (.loc 0) 73 (.lst .nil)) .nil
def I5:=kC (.asgA (.loc 0) 7 (.int 0)) IZ
def I6:=kC (.ex (.app (.att (.loc 0) 48) (.lst (.cons (.loc 5) (.cons (.get2 (.loc 3) (.tup (.cons (.att (.loc 2) 54) (.cons (.loc 5) .nil))) (.int 0)) .nil))))) .nil
def I7:=kC (.for_ (.one 5) .it (.att (.loc 2) 64)
 I6) I5
def I8:=kC (.asgA (.loc 0) 48 (.lst .nil)) I7
def I9:=kC (.asgI (.att (.loc 0) 74) (.loc 4) (.glo (u "ACCEPT") (1048576) 264)) .nil
def Ja:=kC (.asgI (.att (.loc 0) 74) (.loc 4) (.at (.att (.loc 2) 51) (.loc 4))) .nil
def Jb:=kC (.asgI (.att (.loc 0) 30) (.loc 4) (.at (.att (.loc 2) 51) (.loc 4))) .nil
def Jc:=kC (.if_ (.cmp .Lt (.loc 4) (.att (.loc 1) 81))
 Ja
 Jb) .nil
def I0:=kC (.if_ (.cmp .Eq (.loc 4) (.glo (u "END") (0) 271))
 I9
 Jc) .nil
def I1:=kC (.for_ (.one 4) .it (.att (.loc 2) 51)
 I0) I8
def I2:=kC (.asgA (.loc 0) 30 (.dct .i)) I1
def I3:=kC (.asgA (.loc 0) 74 (.dct .i)) I2
def I4:=kC (.asgA (.loc 0) 54 (.att (.loc 2) 54)) I3
def z7:=kC (.asgA (.loc 0) 31 (.loc 1)) I4
def P5:List PySem.Str:=[u "self",u "grammar",u "state",u "masks",u "symbol",u "rule"]
theorem Rt (P:Params):aM (K P) 255 z7 P5 4=true:=by kernel_rfl
def Jd:=kC .bad .nil
def Je:=kC (.if_ (.cmp .IsNot (.loc 3) .non)
 Jd
 .nil) .nil
def Jf:=kC (.asg (.one 3) (.cal (u "settle") 241 (.cons (.att (.loc 0) 31) (.cons (.at (.loc 1) (.int 0)) (.cons (.loc 2) .nil))))) .nil
def Jg:=kC (.if_ (.cmp .In (.loc 2) (.att (.loc 0) 74))
 Jf
 .nil) Je
def Jh:=kC (.asg (.one 3) .non) Jg
def Ji:=kC (.for_ (.one 2) .it (.cal (u "bits") 68 (.cons (.at (.loc 1) (.int 1)) .nil))
 Jh) .nil
def z8:=kC (.for_ (.one 1) .it (.att (.loc 0) 48)
 Ji) .nil
def P6:List PySem.Str:=[u "self",u "look",u "terminal",u "way"]
theorem Ru (P:Params):aM (K P) 262 z8 P6 1=true:=by kernel_rfl
def Jj:=kC (.ret (.loc 1)) .nil
def Jl:=kC (.asgI (.loc 1) (.loc 3) (.glo (u "BARRED") (-1048576) 269)) .nil
def Jm:=kC (.for_ (.one 3) .it (.cal (u "bits") 68 (.cons (.att (.loc 0) 7) .nil))
 Jl) Jj
def Jn:=kC (.asgI (.loc 1) (.loc 3) (.at (.att (.loc 0) 74) (.loc 3))) .nil
def Jo:=kC (.for_ (.one 3) .it (.att (.loc 0) 74)
 Jn) Jm
def Jp:=kC (.asgI (.loc 1) (.loc 3) (.neg (.at (.loc 2) (.int 0)))) .nil
def Jq:=kC (.for_ (.one 3) .it (.cal (u "bits") 68 (.cons (.at (.loc 2) (.int 1)) .nil))
 Jp) .nil
def Jr:=kC (.for_ (.one 2) .rev (.att (.loc 0) 48)
 Jq) Jo
def z9:=kC (.asg (.one 1) (.bin .Mult (.lst (.cons (.int 0) .nil)) (.att (.att (.loc 0) 31) 81))) Jr
def P7:List PySem.Str:=[u "self",u "row",u "look",u "terminal"]
theorem Rv (P:Params):aM (K P) 276 z9 P7 1=true:=by kernel_rfl
def Js:=kC (.ret (.loc 2)) .nil
def Jt:=kC (.ex (.app (.loc 2) (.cal (u "Conflict") 190 (.cons (.att (.loc 0) 54) (.cons (.loc 3) (.cons (.str (u "reduce/reduce")) (.cons (.loc 6) (.cons (.at (.loc 1) (.loc 3)) .nil)))))))) .nil
def Ju:=kC (.asg (.one 6) (.tup (.cons (.at (.loc 4) (.int 0)) (.cons (.loc 5) .nil)))) Jt
def si:=kC (.for_ (.one 5) .it (.from (.loc 4) (.int 1))
 Ju) .nil
def Jv:=kC (.ex (.app (.loc 2) (.cal (u "Conflict") 190 (.cons (.att (.loc 0) 54) (.cons (.loc 3) (.cons (.str (u "shift/reduce")) (.cons (.bi .tuple (.loc 4)) (.cons (.at (.loc 1) (.loc 3)) .nil)))))))) .nil
def Jw:=kC (.if_ (.and (.loc 4) (.cmp .In (.loc 3) (.att (.loc 0) 74)))
 Jv
 .nil) si
def Jx:=kC (.asgC 4 (.compIf [u "",u "",u "",u "terminal",u "",u "",u "",u "look"] 7 .it (.att (.loc 0) 48) (.bin .BitAnd (.at (.loc 7) (.int 1)) (.bin .LShift (.int 1) (.loc 3))) (.at (.loc 7) (.int 0)))) Jw
def Jy:=kC (.for_ (.one 3) .rng (.att (.att (.loc 0) 31) 81)
 Jx) Js
def Aa:=kC (.asg (.one 2) (.lst .nil)) Jy
def P8:List PySem.Str:=[u "self",u "row",u "found",u "terminal",u "rules",u "other",u "pair",u ""]
theorem Rw (P:Params):aM (K P) 281 Aa P8 2=true:=by kernel_rfl
def Jz:=kC (.ret (.loc 3)) .nil
def JB:=kC (.asg (.one 3) (.loc 4)) .nil
def JC:=kC (.if_ (.or (.cmp .Eq (.loc 3) (.int 0)) (.cmp .Gt (.at (.loc 1) (.loc 4)) (.at (.loc 1) (.loc 3))))
 JB
 .nil) .nil
def JD:=kC (.for_ (.one 4) .it (.bi .sorted (.loc 1))
 JC) Jz
def JE:=kC (.asg (.one 3) (.int 0)) JD
def JF:=kC (.asgI (.loc 1) (.neg (.loc 2)) (.bin .Add (.get2 (.loc 1) (.neg (.loc 2)) (.int 0)) (.int 1))) .nil
def JG:=kC (.if_ (.cmp2 .Lt .Lt (.glo (u "BARRED") (-1048576) 269) (.loc 2) (.int 0))
 JF
 .nil) .nil
def JH:=kC (.for_ (.one 2) .it (.loc 0)
 JG) JE
def JI:=kC (.asg (.one 1) (.dct .i)) JH
def JA:=kC (.ret (.int 0)) .nil
def Ab:=kC (.if_ (.cmp .Gt (.at (.loc 0) (.glo (u "ERROR") (1) 273)) (.int 0))
 JA
 .nil) JI
def P9:List PySem.Str:=[u "row",u "counts",u "number",u "best",u "rule"]
theorem Rx (P:Params):aM (K P) 295 Ab P9 1=true:=by kernel_rfl
def Ac:=kC (.ret (.comp [u "",u "rule",u "number"] 2 .it (.loc 0) (.ite (.cmp .Eq (.loc 2) (.neg (.loc 1))) (.int 0) (.loc 2)))) .nil
def Qa:List PySem.Str:=[u "row",u "rule",u ""]
theorem Ry (P:Params):aM (K P) 300 Ac Qa 2=true:=by kernel_rfl
def JJ:=kC (.ret (.cal (u "ParseTables") 232 (.cons (.att (.loc 0) 31) (.cons (.loc 4) (.cons (.loc 5) (.cons (.loc 6) (.cons (.loc 7) (.cons (.loc 8) (.cons (.loc 3) .nil))))))))) .nil
def JU:=kC (.ex (.app (.loc 6) (.loc 12))) .nil
def JV:=kC (.ex (.app (.loc 5) (.att (.loc 10) 30))) JU
def Ae:=kC (.ex (.app (.loc 4) (.loc 11))) JV
def JW:=kC (.asg (.one 11) (.cal (u "without") 300 (.cons (.loc 11) (.cons (.loc 12) .nil)))) .nil
def JX:=kC (.if_ (.cmp .NotEq (.loc 12) (.int 0))
 JW
 .nil) Ae
def JY:=kC (.asg (.one 12) (.cal (u "default_of") 295 (.cons (.loc 11) .nil))) .nil
def JZ:=kC (.if_ (.loc 2)
 JY
 .nil) JX
def J0:=kC (.asg (.one 12) (.int 0)) JZ
def JK:=kC (.ex (.ext (.loc 8) (.att (.loc 10) 73))) J0
def JL:=kC (.ex (.ext (.loc 7) (.met (.loc 10) 284 15 281 (.cons (.loc 11) .nil)))) JK
def JM:=kC (.asg (.one 11) (.met (.loc 10) 284 66 276 .nil)) JL
def JN:=kC (.ex (.met (.loc 10) 284 71 262 .nil)) JM
def JO:=kC (.asg (.one 10) (.cal (u "RowMaker") 284 (.cons (.att (.loc 0) 31) (.cons (.loc 9) (.cons (.loc 1) .nil))))) JN
def JP:=kC (.for_ (.one 9) .it (.att (.loc 0) 77)
 JO) JJ
def JQ:=kC (.asg (.one 8) (.lst .nil)) JP
def JR:=kC (.asg (.one 7) (.lst .nil)) JQ
def JS:=kC (.asg (.one 6) (.lst .nil)) JR
def JT:=kC (.asg (.one 5) (.lst .nil)) JS
def Ad:=kC (.asg (.one 4) (.lst .nil)) JT
def n_b7:List PySem.Str:=[u "automaton",u "masks",u "with_defaults",u "mode",u "rows",u "gotos",u "defaults",u "conflicts",u "settled",u "state",u "maker",u "row",u "rule"]
def J1:=kC (.ret (.bool false)) .nil
def J6:=kC (.ex (.app (.loc 4) (.loc 8))) .nil
def J7:=kC (.ret (.bool false)) .nil
def J8:=kC (.if_ (.cmp .Lt (.loc 8) (.int 0))
 J7
 .nil) J6
def J9:=kC (.asg (.one 8) (.met (.loc 0) 232 29 229 (.cons (.at (.loc 4) (.neg (.int 1))) (.cons (.met (.loc 0) 232 40 96 (.cons (.neg (.loc 6)) .nil)) .nil)))) J8
def Ka:=kC (.asg (.one 4) (.upto (.loc 4) (.bin .Sub (.bi .len (.loc 4)) (.loc 7)))) J9
def Kb:=kC (.ret (.bool false)) .nil
def Kc:=kC (.if_ (.cmp .GtE (.loc 7) (.bi .len (.loc 4)))
 Kb
 .nil) Ka
def Kd:=kC (.asg (.one 7) (.met (.loc 0) 232 42 103 (.cons (.neg (.loc 6)) .nil))) Kc
def J2:=kC (.ret (.cmp .Gt (.loc 6) (.int 0))) .nil
def J3:=kC (.if_ (.cmp .GtE (.loc 6) (.int 0))
 J2
 .nil) Kd
def J4:=kC (.asg (.one 6) (.met (.loc 0) 232 1 145 (.cons (.at (.loc 4) (.neg (.int 1))) (.cons (.loc 2) .nil)))) J3
def J5:=kC (.for_ (.one 5) .rng (.loc 3)
 J4) J1
def Af:=kC (.asg (.one 4) (.loc 1)) J5
def Qb:List PySem.Str:=[u "tables",u "states",u "terminal",u "most",u "stack",u "turn",u "told",u "length",u "goal"]
theorem Rz (P:Params):aM (K P) 315 Af Qb 4=true:=by kernel_rfl
def Ke:=kC (.ret (.loc 3)) .nil
def Kf:=kC (.ex (.app (.loc 3) (.loc 4))) .nil
def Kg:=kC (.if_ (.and3 (.cmp .NotEq (.loc 4) (.glo (u "ERROR") (1) 273)) (.cmp .NotEq (.loc 4) (.glo (u "UNDEFINED") (2) 275)) (.cal (u "would_take") 315 (.cons (.loc 0) (.cons (.loc 1) (.cons (.loc 4) (.cons (.loc 2) .nil))))))
 Kf
 .nil) .nil
def Kh:=kC (.for_ (.one 4) .rng (.att (.loc 0) 81)
 Kg) Ke
def Ag:=kC (.asg (.one 3) (.lst .nil)) Kh
def Qc:List PySem.Str:=[u "tables",u "states",u "most",u "found",u "terminal"]
theorem RA (P:Params):aM (K P) 322 Ag Qc 3=true:=by kernel_rfl
def Ki:=kC (.asgA (.loc 0) 8 (.loc 7)) .nil
def Kj:=kC (.asgA (.loc 0) 46 (.loc 6)) Ki
def Kk:=kC (.asgA (.loc 0) 1 (.loc 5)) Kj
def Kl:=kC (.asgA (.loc 0) 44 (.loc 4)) Kk
def Km:=kC (.asgA (.loc 0) 65 (.loc 3)) Kl
def Ko:=kC (.asgA (.loc 0) 40 (.loc 2)) Km
def Ah:=kC (.asgA (.loc 0) 54 (.loc 1)) Ko
def n_c0:List PySem.Str:=[u "self",u "number",u "left",u "right",u "level_of",u "action",u "line",u "before"]
def Kp:=kC (.asgA (.loc 0) 36 (.bi .len (.att (.loc 0) 60))) .nil
def Kv:=kC (.ex (.ext (.att (.loc 0) 60) (.bin .Mult (.lst (.cons (.att (.loc 7) 54) .nil)) (.bin .Add (.bi .len (.att (.loc 7) 65)) (.int 1))))) .nil
def Kw:=kC (.ex (.app (.att (.loc 0) 58) (.bi .len (.att (.loc 0) 60)))) Kv
def Kx:=kC (.ex (.app (.at (.att (.loc 0) 11) (.att (.loc 7) 40)) (.att (.loc 7) 54))) Kw
def Ky:=kC (.for_ (.one 7) .it (.att (.loc 0) 69)
 Kx) Kp
def Kz:=kC (.asgA (.loc 0) 60 (.lst .nil)) Ky
def KA:=kC (.asgA (.loc 0) 58 (.lst .nil)) Kz
def KC:=kC (.asgA (.loc 0) 11 (.comp [u "",u "",u "",u "",u "",u "",u "",u "",u "name"] 8 .it (.att (.loc 0) 52) (.lst .nil))) KA
def KD:=kC (.asgA (.loc 0) 75 (.loc 6)) KC
def Kq:=kC (.asgA (.loc 0) 21 (.loc 5)) KD
def Kr:=kC (.asgA (.loc 0) 45 (.loc 4)) Kq
def Kt:=kC (.asgA (.loc 0) 69 (.loc 3)) Kr
def Ku:=kC (.asgA (.loc 0) 81 (.loc 2)) Kt
def Ai:=kC (.asgA (.loc 0) 52 (.loc 1)) Ku
def Qd:List PySem.Str:=[u "self",u "names",u "terminal_count",u "rules",u "levels",u "expect",u "start",u "rule",u ""]
theorem RB (P:Params):aM (K P) 356 Ai Qd 7=true:=by kernel_rfl
def Aj:=kC (.ret (.bi .len (.att (.loc 0) 52))) .nil
def Qe:List PySem.Str:=[u "self"]
theorem RC (P:Params):aM (K P) 363 Aj Qe 1=true:=by kernel_rfl
def Ak:=kC (.ret (.cmp .Lt (.loc 1) (.att (.loc 0) 81))) .nil
def Qf:List PySem.Str:=[u "self",u "symbol"]
theorem RD (P:Params):aM (K P) 370 Ak Qf 2=true:=by kernel_rfl
def Al:=kC (.ret (.bi .list (.at (.att (.loc 0) 11) (.loc 1)))) .nil
def Qg:List PySem.Str:=[u "self",u "symbol"]
theorem RE (P:Params):aM (K P) 391 Al Qg 2=true:=by kernel_rfl
def Am:=kC (.ret (.bin .Add (.at (.att (.loc 0) 58) (.loc 1)) (.loc 2))) .nil
def Qh:List PySem.Str:=[u "self",u "rule",u "dot"]
theorem RF (P:Params):aM (K P) 398 Am Qh 3=true:=by kernel_rfl
def An:=kC (.ret (.at (.att (.loc 0) 60) (.loc 1))) .nil
def Qi:List PySem.Str:=[u "self",u "item"]
theorem RG (P:Params):aM (K P) 405 An Qi 2=true:=by kernel_rfl
def Ao:=kC (.ret (.bin .Sub (.loc 1) (.at (.att (.loc 0) 58) (.at (.att (.loc 0) 60) (.loc 1))))) .nil
def Qj:List PySem.Str:=[u "self",u "item"]
theorem RH (P:Params):aM (K P) 412 Ao Qj 2=true:=by kernel_rfl
def KE:=kC (.ret (.ite (.cmp .Lt (.loc 3) (.bi .len (.loc 2))) (.at (.loc 2) (.loc 3)) (.neg (.int 1)))) .nil
def KF:=kC (.asg (.one 3) (.bin .Sub (.loc 1) (.at (.att (.loc 0) 58) (.at (.att (.loc 0) 60) (.loc 1))))) KE
def Ap:=kC (.asg (.one 2) (.att (.at (.att (.loc 0) 69) (.at (.att (.loc 0) 60) (.loc 1))) 65)) KF
def Qk:List PySem.Str:=[u "self",u "item",u "right",u "dot"]
theorem RI (P:Params):aM (K P) 419 Ap Qk 2=true:=by kernel_rfl
def KG:=kC (.ret (.loc 2)) .nil
def KR:=kC (.asg (.one 9) (.bin .Add (.loc 9) (.int 1))) .nil
def KY:=kC (.ex (.app (.loc 5) (.loc 11))) .nil
def KZ:=kC (.asgI (.loc 2) (.loc 11) (.bool true)) KY
def K0:=kC (.if_ (.and (.cmp .Eq (.at (.loc 3) (.loc 10)) (.int 0)) (.not (.at (.loc 2) (.loc 11))))
 KZ
 .nil) .nil
def K1:=kC (.asg (.one 11) (.att (.at (.att (.loc 0) 69) (.loc 10)) 40)) K0
def K2:=kC (.asgI (.loc 3) (.loc 10) (.bin .Sub (.at (.loc 3) (.loc 10)) (.int 1))) K1
def K3:=kC (.for_ (.one 10) .it (.at (.loc 4) (.at (.loc 5) (.loc 9)))
 K2) KR
def K4:=kC (.while_ (.cmp .Lt (.loc 9) (.bi .len (.loc 5)))
 K3) KG
def KH:=kC (.asg (.one 9) (.int 0)) K4
def KI:=kC (.ex (.app (.loc 5) (.att (.loc 6) 40))) .nil
def KJ:=kC (.asgI (.loc 2) (.att (.loc 6) 40) (.bool true)) KI
def KK:=kC (.if_ (.and (.cmp .Eq (.at (.loc 3) (.att (.loc 6) 54)) (.int 0)) (.not (.at (.loc 2) (.att (.loc 6) 40))))
 KJ
 .nil) .nil
def KL:=kC (.for_ (.one 6) .it (.att (.loc 0) 69)
 KK) KH
def KM:=kC (.ex (.app (.loc 3) (.loc 7))) .nil
def KN:=kC (.ex (.app (.at (.loc 4) (.loc 8)) (.att (.loc 6) 54))) .nil
def KO:=kC (.asg (.one 7) (.bin .Add (.loc 7) (.int 1))) KN
def KP:=kC (.if_ (.not (.at (.loc 2) (.loc 8)))
 KO
 .nil) .nil
def KQ:=kC (.for_ (.one 8) .it (.att (.loc 6) 65)
 KP) KM
def KS:=kC (.asg (.one 7) (.int 0)) KQ
def KT:=kC (.for_ (.one 6) .it (.att (.loc 0) 69)
 KS) KL
def KU:=kC (.asg (.one 5) (.lst .nil)) KT
def KW:=kC (.asgC 4 (.comp [u "",u "",u "",u "",u "",u "",u "",u "",u "",u "",u "",u "",u "symbol"] 12 .it (.loc 2) (.lst .nil))) KU
def KX:=kC (.asg (.one 3) (.lst .nil)) KW
def Aq:=kC (.asg (.one 2) (.bi .list (.loc 1))) KX
def Ql:List PySem.Str:=[u "grammar",u "known",u "found",u "lacking",u "users",u "queue",u "rule",u "missing",u "symbol",u "at",u "number",u "left",u ""]
theorem RJ (P:Params):aM (K P) 431 Aq Ql 2=true:=by kernel_rfl
def Ar:=kC (.ret (.cal (u "spread") 431 (.cons (.loc 0) (.cons (.bin .Mult (.lst (.cons (.bool false) .nil)) (.met (.loc 0) 422 79 363 .nil)) .nil)))) .nil
def Qm:List PySem.Str:=[u "grammar"]
theorem RK (P:Params):aM (K P) 438 Ar Qm 1=true:=by kernel_rfl
def K5:=kC (.ret (.tup (.cons (.loc 3) (.cons (.bool true) .nil)))) .nil
def K6:=kC (.ret (.tup (.cons (.loc 3) (.cons (.bool false) .nil)))) .nil
def K7:=kC (.if_ (.not (.at (.loc 1) (.loc 4)))
 K6
 .nil) .nil
def K8:=kC (.asg (.one 3) (.bin .BitOr (.loc 3) (.at (.loc 2) (.loc 4)))) K7
def K9:=kC (.for_ (.one 4) .it (.loc 0)
 K8) K5
def As:=kC (.asg (.one 3) (.int 0)) K9
def Qn:List PySem.Str:=[u "symbols",u "nullables",u "firsts",u "mask",u "symbol"]
theorem RL (P:Params):aM (K P) 445 As Qn 3=true:=by kernel_rfl
def La:=kC (.ret (.loc 2)) .nil
def Le:=kC (.asg (.one 4) (.bool true)) .nil
def Lf:=kC (.asgI (.loc 2) (.att (.loc 5) 40) (.loc 6)) Le
def Lg:=kC (.if_ (.cmp .NotEq (.loc 6) (.at (.loc 2) (.att (.loc 5) 40)))
 Lf
 .nil) .nil
def Lh:=kC (.asg (.one 6) (.bin .BitOr (.at (.loc 2) (.att (.loc 5) 40)) (.at (.cal (u "first_of") 445 (.cons (.att (.loc 5) 65) (.cons (.loc 1) (.cons (.loc 2) .nil)))) (.int 0)))) Lg
def Li:=kC (.for_ (.one 5) .it (.att (.loc 0) 69)
 Lh) .nil
def Lj:=kC (.asg (.one 4) (.bool false)) Li
def Lk:=kC (.while_ (.loc 4)
 Lj) La
def Lm:=kC (.asg (.one 4) (.bool true)) Lk
def Lb:=kC (.ex (.app (.loc 2) (.ite (.met (.loc 0) 422 34 370 (.cons (.loc 3) .nil)) (.bin .LShift (.int 1) (.loc 3)) (.int 0)))) .nil
def Lc:=kC (.for_ (.one 3) .rng (.met (.loc 0) 422 79 363 .nil)
 Lb) Lm
def Ld:=kC (.asg (.one 2) (.lst .nil)) Lc
def Au:=kC (.asg (.one 1) (.cal (u "nullable") 438 (.cons (.loc 0) .nil))) Ld
def Qo:List PySem.Str:=[u "grammar",u "nullables",u "firsts",u "symbol",u "is_grown",u "rule",u "mask"]
theorem RM (P:Params):aM (K P) 452 Au Qo 1=true:=by kernel_rfl
def Ln:=kC (.ret (.loc 3)) .nil
def Lw:=kC (.asg (.one 6) (.ite (.at (.loc 1) (.loc 7)) (.bin .BitOr (.loc 6) (.at (.loc 2) (.loc 7))) (.at (.loc 2) (.loc 7)))) .nil
def Lx:=kC (.asg (.one 4) (.bool true)) .nil
def Ly:=kC (.asgI (.loc 3) (.loc 7) (.bin .BitOr (.at (.loc 3) (.loc 7)) (.loc 6))) Lx
def Lz:=kC (.if_ (.cmp .NotEq (.bin .BitOr (.at (.loc 3) (.loc 7)) (.loc 6)) (.at (.loc 3) (.loc 7)))
 Ly
 .nil) Lw
def LA:=kC .cont .nil
def LC:=kC (.asg (.one 6) (.at (.loc 2) (.loc 7))) LA
def LD:=kC (.if_ (.met (.loc 0) 422 34 370 (.cons (.loc 7) .nil))
 LC
 .nil) Lz
def LE:=kC (.for_ (.one 7) .rev (.att (.loc 5) 65)
 LD) .nil
def Lo:=kC (.asg (.one 6) (.at (.loc 3) (.att (.loc 5) 40))) LE
def Lp:=kC (.for_ (.one 5) .it (.att (.loc 0) 69)
 Lo) .nil
def Lq:=kC (.asg (.one 4) (.bool false)) Lp
def Lr:=kC (.while_ (.loc 4)
 Lq) Ln
def Ls:=kC (.asg (.one 4) (.bool true)) Lr
def Lu:=kC (.asg (.one 3) (.bin .Mult (.lst (.cons (.int 0) .nil)) (.met (.loc 0) 422 79 363 .nil))) Ls
def Lv:=kC (.asg (.one 2) (.cal (u "first_masks") 452 (.cons (.loc 0) .nil))) Lu
def Av:=kC (.asg (.one 1) (.cal (u "nullable") 438 (.cons (.loc 0) .nil))) Lv
def Qp:List PySem.Str:=[u "grammar",u "nullables",u "firsts",u "follows",u "is_grown",u "rule",u "behind",u "symbol"]
theorem RN (P:Params):aM (K P) 459 Av Qp 1=true:=by kernel_rfl
def LF:=kC (.ret (.loc 1)) .nil
def LG:=kC (.asgI (.loc 1) (.loc 3) (.bin .BitOr (.at (.loc 1) (.loc 3)) (.at (.loc 1) (.loc 2)))) .nil
def LH:=kC (.if_ (.cmp .Eq (.bin .BitAnd (.bin .RShift (.at (.loc 1) (.loc 3)) (.loc 2)) (.int 1)) (.int 1))
 LG
 .nil) .nil
def LI:=kC (.for_ (.one 3) .rng (.bi .len (.loc 1))
 LH) .nil
def LJ:=kC (.for_ (.one 2) .rng (.bi .len (.loc 1))
 LI) LF
def Aw:=kC (.asg (.one 1) (.bi .list (.loc 0))) LJ
def Qq:List PySem.Str:=[u "rows",u "found",u "middle",u "one"]
theorem RP (P:Params):aM (K P) 466 Aw Qq 1=true:=by kernel_rfl
def LK:=kC (.asgA (.loc 0) 64 (.lst .nil)) .nil
def LL:=kC (.asgA (.loc 0) 51 (.dct .i)) LK
def LM:=kC (.asgA (.loc 0) 37 (.lst .nil)) LL
def LN:=kC (.asgA (.loc 0) 78 (.loc 3)) LM
def LO:=kC (.asgA (.loc 0) 39 (.loc 2)) LN
def Ax:=kC (.asgA (.loc 0) 54 (.loc 1)) LO
def Qr:List PySem.Str:=[u "self",u "number",u "kernel",u "symbol"]
theorem RQ (P:Params):aM (K P) 480 Ax Qr 4=true:=by kernel_rfl
def Ay:=kC (.ret (.get2 (.att (.loc 0) 51) (.loc 1) (.glo (u "NONE") (-1) 881))) .nil
def Qs:List PySem.Str:=[u "self",u "symbol"]
theorem RR (P:Params):aM (K P) 487 Ay Qs 2=true:=by kernel_rfl
def LP:=kC (.asgA (.loc 0) 26 (.cal (u "transitive") 466 (.cons (.loc 2) .nil))) .nil
def LQ:=kC (.asgI (.loc 2) (.att (.loc 3) 40) (.bin .BitOr (.at (.loc 2) (.att (.loc 3) 40)) (.bin .LShift (.int 1) (.at (.att (.loc 3) 65) (.int 0))))) .nil
def LR:=kC (.if_ (.cmp .Gt (.bi .len (.att (.loc 3) 65)) (.int 0))
 LQ
 .nil) .nil
def LS:=kC (.for_ (.one 3) .it (.att (.loc 1) 69)
 LR) LP
def LT:=kC (.asg (.one 2) (.bin .Mult (.lst (.cons (.int 0) .nil)) (.met (.loc 1) 422 79 363 .nil))) LS
def Az:=kC (.asgA (.loc 0) 31 (.loc 1)) LT
def Qt:List PySem.Str:=[u "self",u "grammar",u "rows",u "rule"]
theorem RS (P:Params):aM (K P) 515 Az Qt 2=true:=by kernel_rfl
def LU:=kC (.ret (.loc 2)) .nil
def LV:=kC (.asg (.one 2) (.bin .BitOr (.bin .BitOr (.loc 2) (.bin .LShift (.int 1) (.loc 4))) (.at (.att (.loc 0) 26) (.loc 4)))) .nil
def LW:=kC (.if_ (.cmp .GtE (.loc 4) (.int 0))
 LV
 .nil) .nil
def LX:=kC (.asg (.one 4) (.met (.att (.loc 0) 31) 422 3 419 (.cons (.loc 3) .nil))) LW
def LY:=kC (.for_ (.one 3) .it (.loc 1)
 LX) LU
def AA:=kC (.asg (.one 2) (.int 0)) LY
def Qu:List PySem.Str:=[u "self",u "kernel",u "mask",u "item",u "symbol"]
theorem RT (P:Params):aM (K P) 522 AA Qu 2=true:=by kernel_rfl
def LZ:=kC (.ret (.bi .sorted (.loc 2))) .nil
def L0:=kC (.ex (.app (.loc 2) (.loc 5))) .nil
def L1:=kC (.if_ (.cmp .NotIn (.loc 5) (.loc 1))
 L0
 .nil) .nil
def L4:=kC (.asg (.one 5) (.met (.att (.loc 0) 31) 422 35 398 (.cons (.loc 4) (.cons (.int 0) .nil)))) L1
def L5:=kC (.for_ (.one 4) .it (.met (.att (.loc 0) 31) 422 70 391 (.cons (.loc 3) .nil))
 L4) .nil
def L6:=kC (.for_ (.one 3) .it (.cal (u "bits") 68 (.cons (.met (.loc 0) 539 85 522 (.cons (.loc 1) .nil)) .nil))
 L5) LZ
def AB:=kC (.asg (.one 2) (.lst .nil)) L6
def Qv:List PySem.Str:=[u "self",u "kernel",u "found",u "symbol",u "number",u "item"]
theorem RU (P:Params):aM (K P) 529 AB Qv 2=true:=by kernel_rfl
def AC:=kC (.ret (.bin .Add (.bi .sorted (.loc 1)) (.met (.loc 0) 539 2 529 (.cons (.loc 1) .nil)))) .nil
def Qw:List PySem.Str:=[u "self",u "kernel"]
theorem RV (P:Params):aM (K P) 536 AC Qw 2=true:=by kernel_rfl
def AD:=kC (.ret (.met (.loc 0) 422 35 398 (.cons (.met (.loc 0) 422 68 405 (.cons (.loc 1) .nil)) (.cons (.bin .Add (.met (.loc 0) 422 19 412 (.cons (.loc 1) .nil)) (.int 1)) .nil)))) .nil
def Qx:List PySem.Str:=[u "grammar",u "item"]
theorem RW (P:Params):aM (K P) 550 AD Qx 2=true:=by kernel_rfl
def L7:=kC (.ret (.loc 5)) .nil
def L9:=kC (.asgI (.loc 5) (.loc 4) (.bi .tuple (.bi .sorted (.at (.loc 2) (.loc 4))))) .nil
def Ma:=kC (.for_ (.one 4) .it (.bi .sorted (.loc 2))
 L9) L7
def Mb:=kC (.asg (.one 5) (.dct .i)) Ma
def AF:=kC (.ex (.app (.at (.loc 2) (.loc 4)) (.cal (u "advanced") 550 (.cons (.loc 0) (.cons (.loc 3) .nil))))) .nil
def Mc:=kC (.asgI (.loc 2) (.loc 4) (.lst .nil)) .nil
def Md:=kC (.if_ (.cmp .NotIn (.loc 4) (.loc 2))
 Mc
 .nil) AF
def Me:=kC (.if_ (.cmp .GtE (.loc 4) (.int 0))
 Md
 .nil) .nil
def Mf:=kC (.asg (.one 4) (.met (.loc 0) 422 3 419 (.cons (.loc 3) .nil))) Me
def L8:=kC (.for_ (.one 3) .it (.loc 1)
 Mf) Mb
def AE:=kC (.asg (.one 2) (.dct .i)) L8
def Qy:List PySem.Str:=[u "grammar",u "items",u "found",u "item",u "symbol",u "ordered"]
theorem RX (P:Params):aM (K P) 557 AE Qy 2=true:=by kernel_rfl
def Mg:=kC (.ret (.bi .sorted (.loc 2))) .nil
def Mh:=kC (.ex (.app (.loc 2) (.met (.loc 0) 422 68 405 (.cons (.loc 3) .nil)))) .nil
def Mi:=kC (.if_ (.and (.cmp .Lt (.met (.loc 0) 422 3 419 (.cons (.loc 3) .nil)) (.int 0)) (.cmp .NotEq (.met (.loc 0) 422 68 405 (.cons (.loc 3) .nil)) (.int 0)))
 Mh
 .nil) .nil
def Mj:=kC (.for_ (.one 3) .it (.loc 1)
 Mi) Mg
def AG:=kC (.asg (.one 2) (.lst .nil)) Mj
def Qz:List PySem.Str:=[u "grammar",u "items",u "found",u "item"]
theorem RY (P:Params):aM (K P) 564 AG Qz 2=true:=by kernel_rfl
def Mk:=kC (.asgA (.loc 0) 77 (.loc 2)) .nil
def AH:=kC (.asgA (.loc 0) 31 (.loc 1)) Mk
def QA:List PySem.Str:=[u "self",u "grammar",u "states"]
theorem RZ (P:Params):aM (K P) 578 AH QA 3=true:=by kernel_rfl
def AI:=kC (.ret (.met (.at (.att (.loc 0) 77) (.loc 1)) 497 29 487 (.cons (.loc 2) .nil))) .nil
def QC:List PySem.Str:=[u "self",u "state",u "symbol"]
theorem R0 (P:Params):aM (K P) 585 AI QC 3=true:=by kernel_rfl
def Ml:=kC (.asgA (.loc 0) 57 (.dct .t)) .nil
def Mm:=kC (.asgA (.loc 0) 77 (.lst .nil)) Ml
def Mn:=kC (.asgA (.loc 0) 14 (.cal (u "Closer") 539 (.cons (.loc 1) .nil))) Mm
def AJ:=kC (.asgA (.loc 0) 31 (.loc 1)) Mn
def QD:List PySem.Str:=[u "self",u "grammar"]
theorem R3 (P:Params):aM (K P) 634 AJ QD 2=true:=by kernel_rfl
def Mo:=kC (.ret (.at (.att (.loc 0) 57) (.loc 1))) .nil
def Mp:=kC (.ex (.app (.att (.loc 0) 77) (.cal (u "LrState") 497 (.cons (.bi .len (.att (.loc 0) 77)) (.cons (.loc 1) (.cons (.loc 2) .nil)))))) .nil
def Mq:=kC (.asgI (.att (.loc 0) 57) (.loc 1) (.bi .len (.att (.loc 0) 77))) Mp
def AK:=kC (.if_ (.cmp .NotIn (.loc 1) (.att (.loc 0) 57))
 Mq
 .nil) Mo
def QF:List PySem.Str:=[u "self",u "kernel",u "symbol"]
theorem R4 (P:Params):aM (K P) 641 AK QF 3=true:=by kernel_rfl
def Mr:=kC (.asgI (.att (.loc 1) 51) (.loc 3) (.met (.loc 0) 658 55 641 (.cons (.at (.loc 2) (.loc 3)) (.cons (.loc 3) .nil)))) .nil
def Ms:=kC (.for_ (.one 3) .it (.loc 2)
 Mr) .nil
def Mt:=kC (.asg (.one 2) (.cal (u "kernels_behind") 557 (.cons (.att (.loc 0) 31) (.cons (.att (.loc 1) 37) .nil)))) Ms
def Mu:=kC (.asgA (.loc 1) 64 (.cal (u "complete_rules") 564 (.cons (.att (.loc 0) 31) (.cons (.att (.loc 1) 37) .nil)))) Mt
def AL:=kC (.asgA (.loc 1) 37 (.met (.att (.loc 0) 14) 539 13 536 (.cons (.att (.loc 1) 39) .nil))) Mu
def QG:List PySem.Str:=[u "self",u "state",u "behind",u "symbol"]
theorem R5 (P:Params):aM (K P) 648 AL QG 2=true:=by kernel_rfl
def Mv:=kC (.ret (.cal (u "Automaton") 616 (.cons (.att (.loc 0) 31) (.cons (.att (.loc 0) 77) .nil)))) .nil
def Mw:=kC (.asg (.one 1) (.bin .Add (.loc 1) (.int 1))) .nil
def Mx:=kC (.ex (.met (.loc 0) 658 20 648 (.cons (.at (.att (.loc 0) 77) (.loc 1)) .nil))) Mw
def My:=kC (.while_ (.cmp .Lt (.loc 1) (.bi .len (.att (.loc 0) 77)))
 Mx) Mv
def Mz:=kC (.asg (.one 1) (.int 0)) My
def AM:=kC (.ex (.met (.loc 0) 658 55 641 (.cons (.tup (.cons (.met (.att (.loc 0) 31) 422 35 398 (.cons (.int 0) (.cons (.int 0) .nil))) .nil)) (.cons (.glo (u "NONE") (-1) 881) .nil)))) Mz
def QH:List PySem.Str:=[u "self",u "at"]
theorem R6 (P:Params):aM (K P) 655 AM QH 1=true:=by kernel_rfl
def AN:=kC (.ret (.met (.cal (u "Builder") 658 (.cons (.loc 0) .nil)) 658 10 655 .nil)) .nil
def QI:List PySem.Str:=[u "grammar"]
theorem R7 (P:Params):aM (K P) 669 AN QI 1=true:=by kernel_rfl
def MA:=kC (.ret (.loc 3)) .nil
def ML:=kC (.asgI (.loc 3) (.loc 12) (.at (.loc 3) (.loc 10))) .nil
def MY:=kC (.asgI (.loc 4) (.loc 12) (.loc 5)) ML
def M2:=kC (.asg (.one 12) (.pop (.loc 6))) MY
def M3:=kC (.while_ (.cmp .NotEq (.loc 12) (.loc 10))
 M2) .nil
def M4:=kC (.asg (.one 12) (.neg (.int 1))) M3
def M5:=kC (.if_ (.cmp .Eq (.at (.loc 4) (.loc 10)) (.at (.loc 9) (.int 1)))
 M4
 .nil) .nil
def M6:=kC (.ex (.pop (.loc 8))) M5
def M7:=kC .cont .nil
def AP:=kC (.asgI (.loc 3) (.loc 10) (.bin .BitOr (.at (.loc 3) (.loc 10)) (.at (.loc 3) (.loc 11)))) M7
def MB:=kC (.asgI (.loc 4) (.loc 10) (.at (.loc 4) (.loc 11))) .nil
def MC:=kC (.if_ (.cmp .Lt (.at (.loc 4) (.loc 11)) (.at (.loc 4) (.loc 10)))
 MB
 .nil) AP
def MD:=kC (.asgI (.loc 9) (.int 2) (.bin .Add (.at (.loc 9) (.int 2)) (.int 1))) MC
def MF:=kC .cont .nil
def MG:=kC (.ex (.app (.loc 8) (.lst (.cons (.loc 11) (.cons (.bi .len (.loc 6)) (.cons (.int 0) .nil)))))) MF
def MH:=kC (.asgI (.loc 4) (.loc 11) (.bi .len (.loc 6))) MG
def MI:=kC (.ex (.app (.loc 6) (.loc 11))) MH
def MJ:=kC (.if_ (.cmp .Eq (.at (.loc 4) (.loc 11)) (.int 0))
 MI
 .nil) MD
def MK:=kC (.asg (.one 11) (.at (.at (.loc 1) (.loc 10)) (.at (.loc 9) (.int 2)))) MJ
def MM:=kC (.if_ (.cmp .Lt (.at (.loc 9) (.int 2)) (.bi .len (.at (.loc 1) (.loc 10))))
 MK
 .nil) M6
def MO:=kC (.asg (.one 10) (.at (.loc 9) (.int 0))) MM
def MP:=kC (.asg (.one 9) (.at (.loc 8) (.neg (.int 1)))) MO
def MQ:=kC (.while_ (.loc 8)
 MP) .nil
def MR:=kC (.asg (.one 8) (.lst (.cons (.lst (.cons (.loc 7) (.cons (.bi .len (.loc 6)) (.cons (.int 0) .nil)))) .nil))) MQ
def MT:=kC (.asgI (.loc 4) (.loc 7) (.bi .len (.loc 6))) MR
def MU:=kC (.ex (.app (.loc 6) (.loc 7))) MT
def MV:=kC .cont .nil
def MW:=kC (.if_ (.cmp .NotEq (.at (.loc 4) (.loc 7)) (.int 0))
 MV
 .nil) MU
def MX:=kC (.for_ (.one 7) .rng (.loc 0)
 MW) MA
def MZ:=kC (.asg (.one 6) (.lst .nil)) MX
def M0:=kC (.asg (.one 5) (.bin .Add (.loc 0) (.int 1))) MZ
def M1:=kC (.asg (.one 4) (.bin .Mult (.lst (.cons (.int 0) .nil)) (.loc 0))) M0
def AO:=kC (.asg (.one 3) (.bi .list (.loc 2))) M1
def QJ:List PySem.Str:=[u "count",u "relation",u "masks",u "result",u "heights",u "done",u "pile",u "start",u "frames",u "frame",u "x",u "y",u "last"]
theorem R8 (P:Params):aM (K P) 676 AO QJ 3=true:=by kernel_rfl
def M8:=kC (.asgA (.loc 0) 49 (.met (.loc 0) 733 38 723 .nil)) .nil
def Ng:=kC (.asgA (.loc 0) 27 (.cal (u "digraph") 676 (.cons (.loc 2) (.cons (.att (.loc 0) 32) (.cons (.att (.loc 0) 62) .nil))))) M8
def Nh:=kC (.asgA (.loc 0) 62 (.cal (u "digraph") 676 (.cons (.loc 2) (.cons (.att (.loc 0) 63) (.cons (.att (.loc 0) 18) .nil))))) Ng
def Ni:=kC (.asg (.one 2) (.bi .len (.att (.loc 0) 83))) Nh
def Nj:=kC (.ex (.met (.loc 0) 733 24 709 .nil)) Ni
def Nk:=kC (.asgA (.loc 0) 47 (.dct .t)) Nj
def Nl:=kC (.asgA (.loc 0) 84 (.comp [u "",u "",u "",u "",u "x"] 4 .it (.att (.loc 0) 83) (.lst .nil))) Nk
def Nm:=kC (.asgA (.loc 0) 32 (.comp [u "",u "",u "",u "x",u ""] 3 .it (.att (.loc 0) 83) (.lst .nil))) Nl
def Nn:=kC (.ex (.met (.loc 0) 733 25 702 .nil)) Nm
def M9:=kC (.asgA (.loc 0) 63 (.lst .nil)) Nn
def Na:=kC (.asgA (.loc 0) 18 (.lst .nil)) M9
def Nb:=kC (.ex (.met (.loc 0) 733 56 695 .nil)) Na
def Nc:=kC (.asgA (.loc 0) 33 (.dct .t)) Nb
def Nd:=kC (.asgA (.loc 0) 83 (.lst .nil)) Nc
def Nf:=kC (.asgA (.loc 0) 53 (.cal (u "nullable") 438 (.cons (.att (.loc 1) 31) .nil))) Nd
def AQ:=kC (.asgA (.loc 0) 6 (.loc 1)) Nf
def QK:List PySem.Str:=[u "self",u "automaton",u "count",u "",u ""]
theorem R9 (P:Params):aM (K P) 688 AQ QK 2=true:=by kernel_rfl
def No:=kC (.ex (.app (.att (.loc 0) 83) (.tup (.cons (.att (.loc 2) 54) (.cons (.loc 3) .nil))))) .nil
def Np:=kC (.asgI (.att (.loc 0) 33) (.tup (.cons (.att (.loc 2) 54) (.cons (.loc 3) .nil))) (.bi .len (.att (.loc 0) 83))) No
def Nq:=kC (.if_ (.not (.met (.loc 1) 422 34 370 (.cons (.loc 3) .nil)))
 Np
 .nil) .nil
def Nr:=kC (.for_ (.one 3) .it (.bi .sorted (.att (.loc 2) 51))
 Nq) .nil
def Nt:=kC (.for_ (.one 2) .it (.att (.att (.loc 0) 6) 77)
 Nr) .nil
def AR:=kC (.asg (.one 1) (.att (.att (.loc 0) 6) 31)) Nt
def QL:List PySem.Str:=[u "self",u "grammar",u "state",u "symbol"]
theorem Sa (P:Params):aM (K P) 695 AR QL 1=true:=by kernel_rfl
def Nu:=kC (.ex (.app (.att (.loc 0) 63) (.loc 6))) .nil
def Ny:=kC (.ex (.app (.att (.loc 0) 18) (.loc 5))) Nu
def Nz:=kC (.asg (.one 5) (.bin .BitOr (.loc 5) (.bin .LShift (.int 1) (.loc 8)))) .nil
def NA:=kC (.ex (.app (.loc 6) (.at (.att (.loc 0) 33) (.tup (.cons (.loc 4) (.cons (.loc 8) .nil)))))) .nil
def NB:=kC (.if_ (.at (.att (.loc 0) 53) (.loc 8))
 NA
 .nil) .nil
def NC:=kC (.if_ (.met (.loc 1) 422 34 370 (.cons (.loc 8) .nil))
 Nz
 NB) .nil
def ND:=kC (.for_ (.one 8) .it (.bi .sorted (.loc 7))
 NC) Ny
def NE:=kC (.asg (.one 7) (.att (.at (.att (.att (.loc 0) 6) 77) (.loc 4)) 51)) ND
def NF:=kC (.asg (.one 6) (.lst .nil)) NE
def Nv:=kC (.asg (.one 5) (.int 0)) NF
def Nw:=kC (.asg (.one 4) (.met (.att (.loc 0) 6) 616 29 585 (.cons (.loc 2) (.cons (.loc 3) .nil)))) Nv
def Nx:=kC (.for_ (.many [2,3]) .it (.att (.loc 0) 83)
 Nw) .nil
def AS:=kC (.asg (.one 1) (.att (.att (.loc 0) 6) 31)) Nx
def QM:List PySem.Str:=[u "self",u "grammar",u "state",u "symbol",u "goal",u "mask",u "row",u "moves",u "later"]
theorem Sb (P:Params):aM (K P) 702 AS QM 1=true:=by kernel_rfl
def NG:=kC (.ex (.cal (u "add_once") 744 (.cons (.at (.att (.loc 0) 47) (.tup (.cons (.loc 9) (.cons (.loc 3) .nil)))) (.cons (.loc 4) .nil)))) .nil
def AW:=kC (.asg (.one 9) (.met (.att (.loc 0) 6) 616 29 585 (.cons (.loc 9) (.cons (.loc 11) .nil)))) .nil
def NP:=kC (.ex (.cal (u "add_once") 744 (.cons (.at (.att (.loc 0) 84) (.loc 12)) (.cons (.loc 4) .nil)))) .nil
def NQ:=kC (.if_ (.cmp .Eq (.loc 10) (.int 0))
 NP
 .nil) .nil
def NR:=kC (.ex (.cal (u "add_once") 744 (.cons (.at (.att (.loc 0) 32) (.loc 12)) (.cons (.loc 4) .nil)))) NQ
def NS:=kC (.asg (.one 12) (.at (.att (.loc 0) 33) (.tup (.cons (.loc 9) (.cons (.loc 11) .nil))))) NR
def NT:=kC (.if_ (.and (.cmp .GtE (.loc 10) (.loc 8)) (.not (.met (.loc 1) 422 34 370 (.cons (.loc 11) .nil))))
 NS
 .nil) AW
def NU:=kC (.asg (.one 11) (.at (.loc 7) (.loc 10))) NT
def NV:=kC (.for_ (.one 10) .rng (.bi .len (.loc 7))
 NU) NG
def NH:=kC (.asg (.one 9) (.loc 5)) NV
def NI:=kC (.asg (.one 8) (.met (.loc 0) 733 59 716 (.cons (.loc 7) .nil))) NH
def NJ:=kC (.asg (.one 7) (.att (.at (.att (.loc 1) 69) (.loc 3)) 65)) NI
def NK:=kC (.for_ (.one 3) .it (.met (.loc 1) 422 70 391 (.cons (.loc 6) .nil))
 NJ) .nil
def NM:=kC (.asg (.many [5,6]) (.at (.att (.loc 0) 83) (.loc 4))) NK
def AU:=kC (.for_ (.one 4) .rng (.bi .len (.att (.loc 0) 83))
 NM) .nil
def NN:=kC (.asgI (.att (.loc 0) 47) (.tup (.cons (.att (.loc 2) 54) (.cons (.loc 3) .nil))) (.lst .nil)) .nil
def NO:=kC (.for_ (.one 3) .it (.att (.loc 2) 64)
 NN) .nil
def AV:=kC (.for_ (.one 2) .it (.att (.att (.loc 0) 6) 77)
 NO) AU
def AT:=kC (.asg (.one 1) (.att (.att (.loc 0) 6) 31)) AV
def QN:List PySem.Str:=[u "self",u "grammar",u "state",u "rule",u "x",u "first",u "left",u "right",u "ends",u "at",u "spot",u "symbol",u "inner"]
theorem Sc (P:Params):aM (K P) 709 AT QN 1=true:=by kernel_rfl
def AY:=kC (.ret (.max (.bin .Sub (.loc 2) (.int 1)) (.int 0))) .nil
def NW:=kC (.asg (.one 2) (.bin .Sub (.loc 2) (.int 1))) .nil
def NX:=kC (.while_ (.and (.cmp .Gt (.loc 2) (.int 0)) (.at (.att (.loc 0) 53) (.at (.loc 1) (.bin .Sub (.loc 2) (.int 1)))))
 NW) AY
def AX:=kC (.asg (.one 2) (.bi .len (.loc 1))) NX
def QO:List PySem.Str:=[u "self",u "right",u "spot"]
theorem Sd (P:Params):aM (K P) 716 AX QO 2=true:=by kernel_rfl
def NY:=kC (.ret (.loc 1)) .nil
def NZ:=kC (.asgI (.loc 1) (.loc 2) (.loc 3)) .nil
def N0:=kC (.asg (.one 3) (.bin .BitOr (.loc 3) (.at (.att (.loc 0) 27) (.loc 4)))) .nil
def N1:=kC (.for_ (.one 4) .it (.at (.att (.loc 0) 47) (.loc 2))
 N0) NZ
def N2:=kC (.asg (.one 3) (.int 0)) N1
def N3:=kC (.for_ (.one 2) .it (.att (.loc 0) 47)
 N2) NY
def AZ:=kC (.asg (.one 1) (.dct .t)) N3
def QP:List PySem.Str:=[u "self",u "masks",u "pair",u "mask",u "x"]
theorem Se (P:Params):aM (K P) 723 AZ QP 1=true:=by kernel_rfl
def N4:=kC (.ex (.app (.loc 0) (.loc 1))) .nil
def A0:=kC (.if_ (.cmp .NotIn (.loc 1) (.loc 0))
 N4
 .nil) .nil
def QQ:List PySem.Str:=[u "row",u "number"]
theorem Sf (P:Params):aM (K P) 744 A0 QQ 2=true:=by kernel_rfl
def A1:=kC (.ret (.att (.cal (u "Lookaheads") 733 (.cons (.loc 0) .nil)) 49)) .nil
def QR:List PySem.Str:=[u "automaton"]
theorem Sg (P:Params):aM (K P) 751 A1 QR 1=true:=by kernel_rfl
def N5:=kC (.ret (.loc 2)) .nil
def N6:=kC (.asgI (.loc 2) (.tup (.cons (.att (.loc 3) 54) (.cons (.loc 4) .nil))) (.at (.loc 1) (.att (.at (.att (.att (.loc 0) 31) 69) (.loc 4)) 40))) .nil
def N7:=kC (.for_ (.one 4) .it (.att (.loc 3) 64)
 N6) .nil
def N8:=kC (.for_ (.one 3) .it (.att (.loc 0) 77)
 N7) N5
def N9:=kC (.asg (.one 2) (.dct .t)) N8
def Ba:=kC (.asg (.one 1) (.cal (u "follow_masks") 459 (.cons (.att (.loc 0) 31) .nil))) N9
def QS:List PySem.Str:=[u "automaton",u "follows",u "masks",u "state",u "rule"]
theorem Sh (P:Params):aM (K P) 758 Ba QS 1=true:=by kernel_rfl
def Oa:=kC (.ret (.bin .Mod (.bin .Add (.bin .FloorDiv (.bin .Mult (.loc 1) (.bin .Add (.loc 1) (.int 1))) (.int 2)) (.bi .sum (.upto (.loc 0) (.int 40)))) (.loc 2))) .nil
def Oc:=kC (.ret (.bin .Mod (.bi .int (.at (.loc 0) (.loc 1))) (.loc 2))) .nil
def Bb:=kC (.if_ (.cmp .Lt (.loc 1) (.bi .len (.loc 0)))
 Oc
 .nil) Oa
def QT:List PySem.Str:=[u "script",u "k",u "many"]
theorem Si (P:Params):aM (K P) 765 Bb QT 3=true:=by kernel_rfl
def Bc:=kC (.ret (.bi .tuple (.comp [u "script",u "k",u "",u "symbols",u "spot"] 4 .rng (.loc 2) (.at (.loc 3) (.cal (u "_law_at") 765 (.cons (.loc 0) (.cons (.bin .Add (.loc 1) (.loc 4)) (.cons (.bi .len (.loc 3)) .nil)))))))) .nil
def QU:List PySem.Str:=[u "script",u "k",u "length",u "symbols",u ""]
theorem Sj (P:Params):aM (K P) 770 Bc QU 4=true:=by kernel_rfl
def Od:=kC (.ret (.loc 1)) .nil
def Of:=kC (.ex (.app (.loc 1) (.tup (.cons (.int 7) (.cons (.cal (u "_law_side") 770 (.cons (.loc 0) (.cons (.int 14) (.cons (.cal (u "_law_at") 765 (.cons (.loc 0) (.cons (.int 13) (.cons (.int 4) .nil)))) (.cons (.lst (.cons (.int 6) (.cons (.int 7) (.cons (.int 3) (.cons (.int 4) .nil))))) .nil))))) .nil))))) Od
def Og:=kC (.ex (.app (.loc 1) (.tup (.cons (.int 7) (.cons (.cal (u "_law_side") 770 (.cons (.loc 0) (.cons (.int 3) (.cons (.cal (u "_law_at") 765 (.cons (.loc 0) (.cons (.int 2) (.cons (.int 3) .nil)))) (.cons (.lst (.cons (.int 3) (.cons (.int 4) .nil))) .nil))))) .nil))))) Of
def Oh:=kC (.ex (.app (.loc 1) (.tup (.cons (.int 6) (.cons (.cal (u "_law_side") 770 (.cons (.loc 0) (.cons (.int 10) (.cons (.cal (u "_law_at") 765 (.cons (.loc 0) (.cons (.int 9) (.cons (.int 4) .nil)))) (.cons (.lst (.cons (.int 6) (.cons (.int 7) (.cons (.int 3) (.cons (.int 4) .nil))))) .nil))))) .nil))))) Og
def Bd:=kC (.asg (.one 1) (.lst (.cons (.tup (.cons (.int 6) (.cons (.cal (u "_law_side") 770 (.cons (.loc 0) (.cons (.int 6) (.cons (.bin .Add (.int 1) (.cal (u "_law_at") 765 (.cons (.loc 0) (.cons (.int 5) (.cons (.int 3) .nil))))) (.cons (.lst (.cons (.int 7) (.cons (.int 3) (.cons (.int 4) .nil)))) .nil))))) .nil))) .nil))) Oh
def QV:List PySem.Str:=[u "script",u "pairs"]
theorem Sk (P:Params):aM (K P) 777 Bd QV 1=true:=by kernel_rfl
def Oi:=kC (.ret (.cal (u "Grammar") 422 (.cons (.loc 4) (.cons (.int 5) (.cons (.loc 1) (.cons (.dct .i) (.cons .non (.cons (.int 6) .nil)))))))) .nil
def Oj:=kC (.asg (.one 4) (.lst (.cons (.str (u "$end")) (.cons (.str (u "error")) (.cons (.str (u "$undefined")) (.cons (.str (u "a")) (.cons (.str (u "b")) (.cons (.str (u "$accept")) (.cons (.str (u "S")) (.cons (.str (u "A")) .nil)))))))))) Oi
def Ol:=kC (.ex (.app (.loc 1) (.cal (u "Rule") 340 (.cons (.bi .len (.loc 1)) (.cons (.loc 2) (.cons (.loc 3) .nil)))))) .nil
def Oo:=kC (.for_ (.many [2,3]) .it (.loc 0)
 Ol) Oj
def Be:=kC (.asg (.one 1) (.lst (.cons (.cal (u "Rule") 340 (.cons (.int 0) (.cons (.int 5) (.cons (.tup (.cons (.int 6) (.cons (.int 0) .nil))) .nil)))) .nil))) Oo
def QW:List PySem.Str:=[u "pairs",u "rules",u "left",u "right",u "names"]
theorem Sm (P:Params):aM (K P) 784 Be QW 1=true:=by kernel_rfl
def Op:=kC (.ret (.loc 1)) .nil
def Oq:=kC (.ex (.app (.loc 1) (.loc 3))) .nil
def Ot:=kC (.if_ (.and (.cmp .NotIn (.loc 3) (.loc 1)) (.cmp .Eq (.compIf [u "",u "found",u "",u "",u "",u "symbol"] 5 .it (.loc 4) (.cmp .NotIn (.loc 5) (.loc 1)) (.loc 5)) (.lst .nil)))
 Oq
 .nil) .nil
def Ou:=kC (.for_ (.many [3,4]) .it (.loc 0)
 Ot) .nil
def Ov:=kC (.for_ (.one 2) .rng (.int 3)
 Ou) Op
def Bf:=kC (.asg (.one 1) (.lst .nil)) Ov
def QX:List PySem.Str:=[u "pairs",u "found",u "turn",u "left",u "right",u ""]
theorem Sn (P:Params):aM (K P) 789 Bf QX 1=true:=by kernel_rfl
def sk:=kC (.ret (.loc 4)) .nil
def OG:=kC (.ex (.app (.loc 4) (.loc 16))) .nil
def OK:=kC (.if_ (.cmp .NotIn (.loc 16) (.loc 4))
 OG
 .nil) .nil
def sq:=kC (.for_ (.one 16) .it (.loc 11)
 OK) .nil
def OL:=kC (.ex (.app (.loc 11) (.tup (.cons (.at (.loc 13) (.int 0)) (.cons (.bin .Add (.at (.loc 13) (.int 1)) (.int 1)) (.cons (.at (.loc 13) (.int 2)) .nil)))))) .nil
def OM:=kC (.if_ (.and (.cmp .Lt (.at (.loc 13) (.int 1)) (.bi .len (.loc 14))) (.cmp .Eq (.at (.loc 14) (.at (.loc 13) (.int 1))) (.loc 9)))
 OL
 .nil) .nil
def ON:=kC (.asg (.one 14) (.at (.at (.loc 0) (.at (.loc 13) (.int 0))) (.int 1))) OM
def Bh:=kC (.for_ (.one 13) .it (.bi .list (.loc 12))
 ON) .nil
def OO:=kC (.asg (.one 12) (.ite (.cmp .Lt (.loc 8) (.bi .len (.loc 2))) (.at (.loc 2) (.loc 8)) (.loc 4))) Bh
def Ow:=kC (.ex (.app (.loc 11) (.tup (.cons (.loc 6) (.cons (.bin .Add (.loc 7) (.int 1)) (.cons (.loc 8) .nil)))))) .nil
def Ox:=kC (.if_ (.cmp .In (.at (.loc 10) (.loc 7)) (.loc 1))
 Ow
 .nil) .nil
def Oy:=kC (.ex (.app (.loc 11) (.tup (.cons (.loc 15) (.cons (.int 0) (.cons (.bi .len (.loc 2)) .nil)))))) .nil
def Oz:=kC (.if_ (.cmp .Eq (.at (.at (.loc 0) (.loc 15)) (.int 0)) (.at (.loc 10) (.loc 7)))
 Oy
 .nil) .nil
def OA:=kC (.for_ (.one 15) .rng (.bi .len (.loc 0))
 Oz) Ox
def OB:=kC (.if_ (.cmp .Gt (.at (.loc 10) (.loc 7)) (.int 5))
 OA
 .nil) .nil
def OC:=kC (.if_ (.cmp .Eq (.loc 7) (.bi .len (.loc 10)))
 OO
 OB) sq
def OD:=kC (.asg (.one 11) (.lst .nil)) OC
def OE:=kC (.asg (.many [9,10]) (.at (.loc 0) (.loc 6))) OD
def OF:=kC (.asg (.many [6,7,8]) (.at (.loc 4) (.loc 5))) OE
def OH:=kC .brk .nil
def OI:=kC (.if_ (.cmp .GtE (.loc 5) (.bi .len (.loc 4)))
 OH
 .nil) OF
def OJ:=kC (.for_ (.one 5) .rng (.int 400)
 OI) sk
def Bg:=kC (.asg (.one 4) (.bi .list (.loc 3))) OJ
def QY:List PySem.Str:=[u "pairs",u "empty",u "chart",u "begun",u "column",u "spot",u "rule",u "dot",u "origin",u "left",u "right",u "more",u "earlier",u "other",u "side",u "number",u "entry"]
theorem So (P:Params):aM (K P) 796 Bg QY 4=true:=by kernel_rfl
def OP:=kC (.ret (.bi .sorted (.loc 2))) .nil
def OS:=kC (.ex (.app (.loc 2) (.loc 8))) .nil
def Bj:=kC (.if_ (.and (.cmp .Lt (.loc 8) (.int 5)) (.cmp .NotIn (.loc 8) (.loc 2)))
 OS
 .nil) .nil
def OT:=kC (.asg (.one 8) (.at (.loc 7) (.loc 4))) .nil
def OU:=kC (.asg (.one 8) (.int 0)) .nil
def OV:=kC (.if_ (.and (.cmp .Eq (.loc 6) (.int 6)) (.cmp .Eq (.loc 5) (.int 0)))
 OU
 .nil) .nil
def OW:=kC (.if_ (.cmp .Lt (.loc 4) (.bi .len (.loc 7)))
 OT
 OV) Bj
def OX:=kC (.asg (.one 8) (.int 9)) OW
def OY:=kC (.asg (.many [6,7]) (.at (.loc 0) (.loc 3))) OX
def OQ:=kC (.for_ (.many [3,4,5]) .it (.loc 1)
 OY) OP
def Bi:=kC (.asg (.one 2) (.lst .nil)) OQ
def QZ:List PySem.Str:=[u "pairs",u "column",u "found",u "rule",u "dot",u "origin",u "left",u "right",u "symbol"]
theorem Sp (P:Params):aM (K P) 803 Bi QZ 2=true:=by kernel_rfl
def OZ:=kC (.ret (.loc 3)) .nil
def O0:=kC (.ex (.app (.loc 3) (.tup (.cons (.loc 4) (.cons (.bin .Add (.loc 5) (.int 1)) (.cons (.loc 6) .nil)))))) .nil
def O1:=kC (.if_ (.and (.cmp .Lt (.loc 5) (.bi .len (.loc 7))) (.cmp .Eq (.at (.loc 7) (.loc 5)) (.loc 2)))
 O0
 .nil) .nil
def O2:=kC (.asg (.one 7) (.at (.at (.loc 0) (.loc 4)) (.int 1))) O1
def O3:=kC (.for_ (.many [4,5,6]) .it (.loc 1)
 O2) OZ
def Bk:=kC (.asg (.one 3) (.lst .nil)) O3
def Q0:List PySem.Str:=[u "pairs",u "column",u "symbol",u "found",u "rule",u "dot",u "origin",u "right"]
theorem Sq (P:Params):aM (K P) 810 Bk Q0 3=true:=by kernel_rfl
def O4:=kC (.ret .non) .nil
def O5:=kC (.ex (.app (.loc 3) (.met (.loc 0) 232 29 229 (.cons (.at (.loc 3) (.neg (.int 1))) (.cons (.met (.loc 0) 232 40 96 (.cons (.neg (.loc 5)) .nil)) .nil))))) .nil
def O6:=kC (.asg (.one 3) (.upto (.loc 3) (.bin .Sub (.bi .len (.loc 3)) (.met (.loc 0) 232 42 103 (.cons (.neg (.loc 5)) .nil))))) O5
def O7:=kC (.ret .non) .nil
def O8:=kC (.if_ (.cmp .Eq (.loc 5) (.int 0))
 O7
 .nil) O6
def O9:=kC (.ret (.bin .Add (.loc 3) (.lst (.cons (.loc 5) .nil)))) .nil
def Pa:=kC (.if_ (.cmp .Gt (.loc 5) (.int 0))
 O9
 .nil) O8
def Pb:=kC (.asg (.one 5) (.met (.loc 0) 232 1 145 (.cons (.at (.loc 3) (.neg (.int 1))) (.cons (.loc 2) .nil)))) Pa
def Pc:=kC (.for_ (.one 4) .rng (.int 40)
 Pb) O4
def Bl:=kC (.asg (.one 3) (.bi .list (.loc 1))) Pc
def Q1:List PySem.Str:=[u "tables",u "states",u "symbol",u "stack",u "turn",u "deed"]
theorem Sr (P:Params):aM (K P) 817 Bl Q1 3=true:=by kernel_rfl
def Pd:=kC (.ret (.compIf [u "tables",u "states",u "",u "symbol"] 3 .it (.tup (.cons (.int 0) (.cons (.int 3) (.cons (.int 4) .nil)))) (.cal (u "would_take") 315 (.cons (.loc 0) (.cons (.loc 1) (.cons (.loc 3) (.cons (.int 24) .nil))))) (.loc 3))) .nil
def Pe:=kC (.ret (.cal (u "exact_expected") 322 (.cons (.loc 0) (.cons (.loc 1) (.cons (.int 40) .nil))))) .nil
def Bm:=kC (.if_ (.loc 2)
 Pe
 .nil) Pd
def Q2:List PySem.Str:=[u "tables",u "states",u "is_clean",u ""]
theorem Ss (P:Params):aM (K P) 822 Bm Q2 3=true:=by kernel_rfl
def Pf:=kC (.ret (.bool true)) .nil
def Pn:=kC (.asg (.one 8) (.cal (u "_law_next") 803 (.cons (.loc 1) (.cons (.at (.loc 7) (.bin .Add (.loc 10) (.int 1))) .nil)))) .nil
def Pw:=kC (.ex (.app (.loc 7) (.cal (u "_law_column") 796 (.cons (.loc 1) (.cons (.loc 6) (.cons (.loc 7) (.cons (.cal (u "_law_moved") 810 (.cons (.loc 1) (.cons (.at (.loc 7) (.loc 10)) (.cons (.loc 15) .nil)))) .nil))))))) Pn
def Pz:=kC (.ret (.not (.loc 5))) .nil
def PA:=kC (.if_ (.cmp .Is (.loc 9) .non)
 Pz
 .nil) Pw
def PB:=kC (.ret (.cmp .Is (.loc 9) .non)) .nil
def PC:=kC (.if_ (.cmp .NotIn (.loc 15) (.loc 8))
 PB
 .nil) PA
def PD:=kC (.asg (.one 9) (.cal (u "_law_pushed") 817 (.cons (.loc 4) (.cons (.loc 9) (.cons (.loc 15) .nil))))) PC
def sr:=kC (.asg (.one 15) (.at (.loc 14) (.bin .Mod (.bin .FloorDiv (.loc 13) (.int 5)) (.bi .len (.loc 14))))) PD
def Bo:=kC (.asg (.one 14) (.lst (.cons (.int 3) (.cons (.int 4) (.cons (.int 2) .nil))))) .nil
def Pg:=kC (.if_ (.or (.cmp .Eq (.bin .Mod (.loc 13) (.int 5)) (.int 0)) (.cmp .Eq (.loc 14) (.lst .nil)))
 Bo
 .nil) sr
def Ph:=kC (.asgC 14 (.compIf [u "",u "",u "",u "",u "",u "",u "",u "",u "",u "",u "",u "",u "",u "",u "",u "",u "symbol",u ""] 16 .it (.loc 8) (.cmp .NotEq (.loc 16) (.int 0)) (.loc 16))) Pg
def Pi:=kC (.asg (.one 13) (.cal (u "_law_at") 765 (.cons (.loc 0) (.cons (.bin .Add (.int 18) (.loc 10)) (.cons (.int 30) .nil))))) Ph
def Pj:=kC (.ret (.bool true)) .nil
def Bp:=kC (.if_ (.cmp .Eq (.loc 10) (.int 5))
 Pj
 .nil) Pi
def Pk:=kC (.ret (.bool false)) .nil
def Pl:=kC (.if_ (.and (.cmp .NotEq (.and (.cmp .IsNot (.loc 12) .non) (.cmp .Eq (.at (.loc 12) (.neg (.int 1))) (.glo (u "ACCEPT") (1048576) 264))) (.cmp .In (.int 0) (.loc 8))) (.or (.loc 5) (.cmp .NotIn (.int 0) (.loc 8))))
 Pk
 .nil) Bp
def Bq:=kC (.asg (.one 12) (.cal (u "_law_pushed") 817 (.cons (.loc 4) (.cons (.loc 9) (.cons (.int 0) .nil))))) Pl
def Pm:=kC (.ret (.bool false)) .nil
def Br:=kC (.if_ (.cmp .NotEq (.compIf [u "",u "",u "",u "",u "",u "",u "",u "",u "due",u "",u "",u "",u "",u "",u "",u "",u "",u "symbol"] 17 .it (.loc 11) (.cmp .NotIn (.loc 17) (.loc 8)) (.loc 17)) (.lst .nil))
 Pm
 .nil) Bq
def Po:=kC (.ret (.bool false)) .nil
def Pp:=kC (.if_ (.and (.loc 5) (.cmp .NotEq (.loc 11) (.loc 8)))
 Po
 .nil) Br
def Bt:=kC (.asg (.one 11) (.cal (u "_law_heard") 822 (.cons (.loc 4) (.cons (.loc 9) (.cons (.loc 5) .nil))))) Pp
def Bu:=kC (.for_ (.one 10) .rng (.int 6)
 Bt) Pf
def Pq:=kC (.asg (.one 9) (.lst (.cons (.int 0) .nil))) Bu
def Ps:=kC (.asg (.one 8) (.cal (u "_law_next") 803 (.cons (.loc 1) (.cons (.at (.loc 7) (.int 0)) .nil)))) Pq
def Pt:=kC (.asg (.one 7) (.lst (.cons (.cal (u "_law_column") 796 (.cons (.loc 1) (.cons (.loc 6) (.cons (.lst .nil) (.cons (.lst (.cons (.tup (.cons (.int 0) (.cons (.int 0) (.cons (.int 0) .nil)))) (.cons (.tup (.cons (.int 1) (.cons (.int 0) (.cons (.int 0) .nil)))) .nil))) .nil))))) .nil))) Ps
def Pu:=kC (.asg (.one 6) (.cal (u "_law_empty") 789 (.cons (.loc 1) .nil))) Pt
def Pv:=kC (.asg (.one 5) (.cmp .Eq (.att (.loc 4) 15) (.lst .nil))) Pu
def Bv:=kC (.asg (.one 4) (.cal (u "fill") 308 (.cons (.loc 2) (.cons (.loc 3) (.cons (.cmp .Eq (.cal (u "_law_at") 765 (.cons (.loc 0) (.cons (.int 1) (.cons (.int 2) .nil)))) (.int 0)) .nil))))) Pv
def Px:=kC (.asg (.one 3) (.ite (.cmp .Eq (.cal (u "_law_at") 765 (.cons (.loc 0) (.cons (.int 0) (.cons (.int 2) .nil)))) (.int 0)) (.cal (u "lalr_masks") 751 (.cons (.loc 2) .nil)) (.cal (u "slr_masks") 758 (.cons (.loc 2) .nil)))) Bv
def Py:=kC (.asg (.one 2) (.cal (u "build") 669 (.cons (.cal (u "_law_grammar") 784 (.cons (.loc 1) .nil)) .nil))) Px
def Bn:=kC (.asg (.one 1) (.cal (u "_law_pairs") 777 (.cons (.loc 0) .nil))) Py
def Q3:List PySem.Str:=[u "script",u "pairs",u "automaton",u "masks",u "tables",u "is_clean",u "empty",u "chart",u "due",u "states",u "k",u "heard",u "at_end",u "number",u "menu",u "symbol",u "",u ""]
theorem Su (P:Params):aM (K P) 827 Bn Q3 1=true:=by kernel_rfl
section
variable{B:Bs} (hB:Base B) {n:Nat} {a0 a1 a2 a3 a4 a5 a6 a7:IV} {V:IH} {Q:QE}
include hB
theorem EA (h:az B n zR [some a0,none,none,none] (aH Q) V):CallOk B (n+1) 68 [a0] V Q:=aN hB (Ri _) rfl rfl h
theorem EC (h:az B n zS [some a0,some a1,some a2,some a3,some a4,some a5,none] (aH Q) V):CallOk B (n+1) 82 [a0,a1,a2,a3,a4,a5] V Q:=aN hB (Rj _) rfl rfl h
theorem ED (h:az B n zT [some a0,some a1] (aH Q) V):CallOk B (n+1) 96 [a0,a1] V Q:=aN hB (Rk _) rfl rfl h
theorem EE (h:az B n zU [some a0,some a1] (aH Q) V):CallOk B (n+1) 103 [a0,a1] V Q:=aN hB (Rm _) rfl rfl h
theorem EF (h:az B n zV [some a0,some a1] (aH Q) V):CallOk B (n+1) 131 [a0,a1] V Q:=aN hB (Rn _) rfl rfl h
theorem EG (h:az B n zW [some a0,some a1,some a2,none] (aH Q) V):CallOk B (n+1) 145 [a0,a1,a2] V Q:=aN hB (Ro _) rfl rfl h
theorem EH (h:az B n zX [some a0,some a1,some a2,some a3,some a4,some a5] (aH Q) V):CallOk B (n+1) 180 [a0,a1,a2,a3,a4,a5] V Q:=aN hB (Rp _) rfl rfl h
theorem EJ (h:az B n zZ [some a0,some a1,some a2] (aH Q) V):CallOk B (n+1) 222 [a0,a1,a2] V Q:=aN hB (Rq _) rfl rfl h
theorem EK (h:az B n z0 [some a0,some a1,some a2] (aH Q) V):CallOk B (n+1) 229 [a0,a1,a2] V Q:=aN hB (Rr _) rfl rfl h
theorem EL (h:az B n z6 [some a0,some a1,some a2,none,none] (aH Q) V):CallOk B (n+1) 241 [a0,a1,a2] V Q:=aN hB (Rs _) rfl rfl h
theorem EM (h:az B n z7 [some a0,some a1,some a2,some a3,none,none] (aH Q) V):CallOk B (n+1) 255 [a0,a1,a2,a3] V Q:=aN hB (Rt _) rfl rfl h
theorem EN (h:az B n z8 [some a0,none,none,none] (aH Q) V):CallOk B (n+1) 262 [a0] V Q:=aN hB (Ru _) rfl rfl h
theorem EO (h:az B n z9 [some a0,none,none,none] (aH Q) V):CallOk B (n+1) 276 [a0] V Q:=aN hB (Rv _) rfl rfl h
theorem EP (h:az B n Aa [some a0,some a1,none,none,none,none,none,none] (aH Q) V):CallOk B (n+1) 281 [a0,a1] V Q:=aN hB (Rw _) rfl rfl h
theorem EQ (h:az B n Ab [some a0,none,none,none,none] (aH Q) V):CallOk B (n+1) 295 [a0] V Q:=aN hB (Rx _) rfl rfl h
theorem ER (h:az B n Ac [some a0,some a1,none] (aH Q) V):CallOk B (n+1) 300 [a0,a1] V Q:=aN hB (Ry _) rfl rfl h
theorem ET (h:az B n Af [some a0,some a1,some a2,some a3,none,none,none,none,none] (aH Q) V):CallOk B (n+1) 315 [a0,a1,a2,a3] V Q:=aN hB (Rz _) rfl rfl h
theorem EU (h:az B n Ag [some a0,some a1,some a2,none,none] (aH Q) V):CallOk B (n+1) 322 [a0,a1,a2] V Q:=aN hB (RA _) rfl rfl h
theorem EW (h:az B n Ai [some a0,some a1,some a2,some a3,some a4,some a5,some a6,none,none] (aH Q) V):CallOk B (n+1) 356 [a0,a1,a2,a3,a4,a5,a6] V Q:=aN hB (RB _) rfl rfl h
theorem EX (h:az B n Aj [some a0] (aH Q) V):CallOk B (n+1) 363 [a0] V Q:=aN hB (RC _) rfl rfl h
theorem EY (h:az B n Ak [some a0,some a1] (aH Q) V):CallOk B (n+1) 370 [a0,a1] V Q:=aN hB (RD _) rfl rfl h
theorem EZ (h:az B n Al [some a0,some a1] (aH Q) V):CallOk B (n+1) 391 [a0,a1] V Q:=aN hB (RE _) rfl rfl h
theorem E0 (h:az B n Am [some a0,some a1,some a2] (aH Q) V):CallOk B (n+1) 398 [a0,a1,a2] V Q:=aN hB (RF _) rfl rfl h
theorem Fa (h:az B n An [some a0,some a1] (aH Q) V):CallOk B (n+1) 405 [a0,a1] V Q:=aN hB (RG _) rfl rfl h
theorem Fb (h:az B n Ao [some a0,some a1] (aH Q) V):CallOk B (n+1) 412 [a0,a1] V Q:=aN hB (RH _) rfl rfl h
theorem Fc (h:az B n Ap [some a0,some a1,none,none] (aH Q) V):CallOk B (n+1) 419 [a0,a1] V Q:=aN hB (RI _) rfl rfl h
theorem Fd (h:az B n Aq [some a0,some a1,none,none,none,none,none,none,none,none,none,none,none] (aH Q) V):CallOk B (n+1) 431 [a0,a1] V Q:=aN hB (RJ _) rfl rfl h
theorem Fe (h:az B n Ar [some a0] (aH Q) V):CallOk B (n+1) 438 [a0] V Q:=aN hB (RK _) rfl rfl h
theorem Ff (h:az B n As [some a0,some a1,some a2,none,none] (aH Q) V):CallOk B (n+1) 445 [a0,a1,a2] V Q:=aN hB (RL _) rfl rfl h
theorem Fg (h:az B n Au [some a0,none,none,none,none,none,none] (aH Q) V):CallOk B (n+1) 452 [a0] V Q:=aN hB (RM _) rfl rfl h
theorem Fh (h:az B n Av [some a0,none,none,none,none,none,none,none] (aH Q) V):CallOk B (n+1) 459 [a0] V Q:=aN hB (RN _) rfl rfl h
theorem Fi (h:az B n Aw [some a0,none,none,none] (aH Q) V):CallOk B (n+1) 466 [a0] V Q:=aN hB (RP _) rfl rfl h
theorem Fj (h:az B n Ax [some a0,some a1,some a2,some a3] (aH Q) V):CallOk B (n+1) 480 [a0,a1,a2,a3] V Q:=aN hB (RQ _) rfl rfl h
theorem Fl (h:az B n Ay [some a0,some a1] (aH Q) V):CallOk B (n+1) 487 [a0,a1] V Q:=aN hB (RR _) rfl rfl h
theorem Fm (h:az B n Az [some a0,some a1,none,none] (aH Q) V):CallOk B (n+1) 515 [a0,a1] V Q:=aN hB (RS _) rfl rfl h
theorem Fn (h:az B n AA [some a0,some a1,none,none,none] (aH Q) V):CallOk B (n+1) 522 [a0,a1] V Q:=aN hB (RT _) rfl rfl h
theorem Fp (h:az B n AB [some a0,some a1,none,none,none,none] (aH Q) V):CallOk B (n+1) 529 [a0,a1] V Q:=aN hB (RU _) rfl rfl h
theorem Fq (h:az B n AC [some a0,some a1] (aH Q) V):CallOk B (n+1) 536 [a0,a1] V Q:=aN hB (RV _) rfl rfl h
theorem Fr (h:az B n AD [some a0,some a1] (aH Q) V):CallOk B (n+1) 550 [a0,a1] V Q:=aN hB (RW _) rfl rfl h
theorem Fs (h:az B n AE [some a0,some a1,none,none,none,none] (aH Q) V):CallOk B (n+1) 557 [a0,a1] V Q:=aN hB (RX _) rfl rfl h
theorem Ft (h:az B n AG [some a0,some a1,none,none] (aH Q) V):CallOk B (n+1) 564 [a0,a1] V Q:=aN hB (RY _) rfl rfl h
theorem Fu (h:az B n AH [some a0,some a1,some a2] (aH Q) V):CallOk B (n+1) 578 [a0,a1,a2] V Q:=aN hB (RZ _) rfl rfl h
theorem Fv (h:az B n AI [some a0,some a1,some a2] (aH Q) V):CallOk B (n+1) 585 [a0,a1,a2] V Q:=aN hB (R0 _) rfl rfl h
theorem Fw (h:az B n AJ [some a0,some a1] (aH Q) V):CallOk B (n+1) 634 [a0,a1] V Q:=aN hB (R3 _) rfl rfl h
theorem Fx (h:az B n AK [some a0,some a1,some a2] (aH Q) V):CallOk B (n+1) 641 [a0,a1,a2] V Q:=aN hB (R4 _) rfl rfl h
theorem Fy (h:az B n AL [some a0,some a1,none,none] (aH Q) V):CallOk B (n+1) 648 [a0,a1] V Q:=aN hB (R5 _) rfl rfl h
theorem Fz (h:az B n AM [some a0,none] (aH Q) V):CallOk B (n+1) 655 [a0] V Q:=aN hB (R6 _) rfl rfl h
theorem FA (h:az B n AN [some a0] (aH Q) V):CallOk B (n+1) 669 [a0] V Q:=aN hB (R7 _) rfl rfl h
theorem FB (h:az B n AO [some a0,some a1,some a2,none,none,none,none,none,none,none,none,none,none] (aH Q) V):CallOk B (n+1) 676 [a0,a1,a2] V Q:=aN hB (R8 _) rfl rfl h
theorem FC (h:az B n AQ [some a0,some a1,none,none,none] (aH Q) V):CallOk B (n+1) 688 [a0,a1] V Q:=aN hB (R9 _) rfl rfl h
theorem FD (h:az B n AR [some a0,none,none,none] (aH Q) V):CallOk B (n+1) 695 [a0] V Q:=aN hB (Sa _) rfl rfl h
theorem FE (h:az B n AS [some a0,none,none,none,none,none,none,none,none] (aH Q) V):CallOk B (n+1) 702 [a0] V Q:=aN hB (Sb _) rfl rfl h
theorem FF (h:az B n AT [some a0,none,none,none,none,none,none,none,none,none,none,none,none] (aH Q) V):CallOk B (n+1) 709 [a0] V Q:=aN hB (Sc _) rfl rfl h
theorem FG (h:az B n AX [some a0,some a1,none] (aH Q) V):CallOk B (n+1) 716 [a0,a1] V Q:=aN hB (Sd _) rfl rfl h
theorem FH (h:az B n AZ [some a0,none,none,none,none] (aH Q) V):CallOk B (n+1) 723 [a0] V Q:=aN hB (Se _) rfl rfl h
theorem FI (h:az B n A0 [some a0,some a1] (aH Q) V):CallOk B (n+1) 744 [a0,a1] V Q:=aN hB (Sf _) rfl rfl h
theorem FJ (h:az B n A1 [some a0] (aH Q) V):CallOk B (n+1) 751 [a0] V Q:=aN hB (Sg _) rfl rfl h
theorem FK (h:az B n Ba [some a0,none,none,none,none] (aH Q) V):CallOk B (n+1) 758 [a0] V Q:=aN hB (Sh _) rfl rfl h
theorem FL (h:az B n Bb [some a0,some a1,some a2] (aH Q) V):CallOk B (n+1) 765 [a0,a1,a2] V Q:=aN hB (Si _) rfl rfl h
theorem FM (h:az B n Bc [some a0,some a1,some a2,some a3,none] (aH Q) V):CallOk B (n+1) 770 [a0,a1,a2,a3] V Q:=aN hB (Sj _) rfl rfl h
theorem FN (h:az B n Bd [some a0,none] (aH Q) V):CallOk B (n+1) 777 [a0] V Q:=aN hB (Sk _) rfl rfl h
theorem FO (h:az B n Be [some a0,none,none,none,none] (aH Q) V):CallOk B (n+1) 784 [a0] V Q:=aN hB (Sm _) rfl rfl h
theorem FP (h:az B n Bf [some a0,none,none,none,none,none] (aH Q) V):CallOk B (n+1) 789 [a0] V Q:=aN hB (Sn _) rfl rfl h
theorem FQ (h:az B n Bg [some a0,some a1,some a2,some a3,none,none,none,none,none,none,none,none,none,none,none,none,none] (aH Q) V):CallOk B (n+1) 796 [a0,a1,a2,a3] V Q:=aN hB (So _) rfl rfl h
theorem FT (h:az B n Bi [some a0,some a1,none,none,none,none,none,none,none] (aH Q) V):CallOk B (n+1) 803 [a0,a1] V Q:=aN hB (Sp _) rfl rfl h
theorem FU (h:az B n Bk [some a0,some a1,some a2,none,none,none,none,none] (aH Q) V):CallOk B (n+1) 810 [a0,a1,a2] V Q:=aN hB (Sq _) rfl rfl h
theorem FV (h:az B n Bl [some a0,some a1,some a2,none,none,none] (aH Q) V):CallOk B (n+1) 817 [a0,a1,a2] V Q:=aN hB (Sr _) rfl rfl h
theorem FW (h:az B n Bm [some a0,some a1,some a2,none] (aH Q) V):CallOk B (n+1) 822 [a0,a1,a2] V Q:=aN hB (Ss _) rfl rfl h
theorem FX (h:az B n Bn [some a0,none,none,none,none,none,none,none,none,none,none,none,none,none,none,none,none,none] (aH Q) V):CallOk B (n+1) 827 [a0] V Q:=aN hB (Su _) rfl rfl h
end
end
set_option hygiene false
local macro_rules | `(tactic| w_left) => `(tactic| dsimp only [VU, VS, VT, VV, VN, VL, VM, VQ, VJ, VK, az, jI, aI, fO, VP.of, iW, VA, VC, VB, VE, VD, Vz, VF, VG, VH, fresh, List.getElem?_cons_zero, List.getElem?_cons_succ, List.set_cons_zero, List.set_cons_succ, List.zip_cons_cons, List.zip_nil_right, List.foldl_cons, List.foldl_nil, List.length_cons, List.length_nil])
local macro_rules | `(tactic| w_fin) => `(tactic| (refine VW ?_; w_left))
set_option hygiene true
def Ext (V V':IH):Prop:=∀a o,V a=some o->V' a=some o
theorem Ext.rfl:Ext V V:=λ_ _ h=>h
theorem Ext.trans (x:Ext V V1) (y:Ext V1 V2):Ext V V2:=λa o h=>y a o (x a o h)
theorem Ext.new (h:V r=none):Ext V (upd V r o):=λa o' e=>by
 unfold upd;split
 .rename_i he;subst he;exact On h e
 .exact e
theorem Ext.upd (x:Ext V V') (h:V r=none):Ext V (upd V' r o):=λa o' e=>by
 unfold Mine.upd;split
 .rename_i he;subst he;exact On h e
 .exact x a o' e
theorem Ext.none (x:Ext V V') (h:V' a=none):V a=none:=by
 induction e:V a with
 |none=>rfl
 |some o=>exact Om (x a o e) h
theorem bB (V:IH) (a:Addr) (o:IO):upd V a o a=some o:=by simp[Mine.upd]
theorem fg (h:V b=some o') (n:b≠a):upd V a o b=some o':=by exact O (cH _ _ n) (O h rfl)
section
variable{B:Bs} {n:Nat} {s:MS} {r:MSs} {Z:aL} {K:Kn} {V:IH} {F:aL->IH->Prop} {Q:QE}
noncomputable def gv (B:Bs) (n:Nat) (r:MSs) (K:Kn):Kn:={K with nx:=λZ'=>az B n r Z' K}
theorem VW (h:jI B n s Z (gv B n r K) V):az B n (.cons s r) Z K V:=h
theorem VU:(gv B n r K).nx=λZ'=>az B n r Z' K:=rfl
theorem VS:(gv B n r K).br=K.br:=rfl
theorem VT:(gv B n r K).co=K.co:=rfl
theorem VV:(gv B n r K).rt=K.rt:=rfl
theorem VN:(fz F K).nx=F:=rfl
theorem VL:(fz F K).br=K.nx:=rfl
theorem VM:(fz F K).co=F:=rfl
theorem VQ:(fz F K).rt=K.rt:=rfl
theorem VJ:(aH Q).nx=λ_ V=>Q .none V:=rfl
theorem VK:(aH Q).rt=Q:=rfl
theorem aU {xs:List IV} {alive:IH->Prop} {bd:IV->aL->Kn->IH->Prop} (I:Nat->aL->IH->Prop) (h0:I 0 Z V)
 (h1:∀i Z' V' y F,(∀r s,I (i+1) r s->F r s)->xs[i]? =some y->I i Z' V'->alive V'/\bd y Z' (fz F K) V')
 (h2:∀Z' V',I xs.length Z' V'->alive V'/\K.nx Z' V'):zk xs alive bd K Z V:=⟨I,h0,h1,h2⟩
theorem gw {c:aL->QB->IH->Prop} {bd:aL->Kn->IH->Prop} (I:Nat->aL->IH->Prop) (h0:∃k,I k Z V)
 (h1:∀k Z' V' F,(∀r s,(∃j,j<k/\I j r s)->F r s)->I k Z' V'->c Z' (λr V''=>if r=true then bd Z' (fz F K) V'' else K.nx Z' V'') V'):DO c bd K Z V:=⟨I,h0,h1⟩
theorem rF {xs:List IV} {alive:IH->Prop} {turn:IV->(Option IV->IH->Prop)->IH->Prop} (I:Nat->List IV->IH->Prop) (h0:I 0 [] V)
 (h1:∀i ys V' x,xs[i]? =some x->I i ys V'->alive V'/\turn x (λo V''=>match o with|some y=>I (i+1) (ys++[y]) V''|none=>I (i+1) ys V'') V')
 (h2:∀ys V',I xs.length ys V'->alive V'/\fresh (.list ys) Q V'):gE xs alive turn Q V:=⟨I,h0,h1,h2⟩
theorem fT {xs:List IV} {alive:IH->Prop} {turn:IV->(Option IV->IH->Prop)->IH->Prop} (m:Nat) (hm:xs.length=m) (f:Nat->List IV) (f0:f 0=[]) (al:alive V)
 (h1:∀i x,xs[i]? =some x->∀K:Option IV->IH->Prop,(∀y,f (i+1)=f i++[y]->K (some y) V)->(f (i+1)=f i->K none V)->turn x K V) (q:fresh (.list (f m)) Q V):gE xs alive turn Q V:=by
 refine⟨λi ys V'=>ys=f i/\V'=V,⟨f0.symm,rfl⟩,?_,?_⟩
 .rintro i ys V' x hx ⟨rfl,rfl⟩;exact⟨al,h1 i x hx _ (λy e=>⟨e.symm,rfl⟩) λe=>⟨e.symm,rfl⟩⟩
 .rintro ys V' ⟨rfl,rfl⟩;exact⟨al,hm▸q⟩
end
section
variable{B:Bs} {V:IH} {Q:QE} {K:QB} {p:Addr}
theorem ag (h:V p=some (.inst c fs)) (k:aq fs f=some x) (q:Q x V):attI (.ref p) f Q V:=⟨p,c,fs,x,rfl,h,k,q⟩
theorem bk {K:IV->IH->Prop} (h:V p=some (.inst c fs)) (k:aq fs m=none) (q:K (.ref p) V):metI (.ref p) c m K V:=⟨p,fs,rfl,h,k,q⟩
theorem zr (h:k<n):d4 n (k:Int)=some k:=by simp[d4,h]
theorem G9 {n:Nat} {k:Int} (h0:0<=k) (h:k<n):d4 n k=some k.toNat:=by simp[d4,h,h0]
theorem Ha (h:0<n):d4 n (-1)=some (n -1):=by
 have:((-1:Int)+n).toNat=n -1:=(be Int.toNat (Int.add_comm _ _)).trans (Int.toNat_sub n 1);simp[d4];lia
theorem aB {k:Nat} (h:V p=some (.list xs)) (e:xs[k]? =some x) (q:Q x V):atI (.ref p) (.int (k:Int)) Q V:=by
 have:k<xs.length:=by rcases lt_or_ge k xs.length with a|a;exact a;exact On (dv a) e
 exact .list p k xs k x rfl rfl h (zr this) e q
theorem gV {xs:List IV} (h:V p=some (.list xs)) (e:xs.getLast?=some x) (q:Q x V):atI (.ref p) (.int (-1)) Q V:=by
 have l:0<xs.length:=by induction xs with|nil=>rcases e|cons _ _=>exact succ_pos _
 exact .list p (-1) xs _ x rfl rfl h (Ha l) (Oe List.getLast?_eq_getElem? e) q
theorem dp {k:Nat} (e:xs[k]? =some x) (q:Q x V):atI (.tup xs) (.int (k:Int)) Q V:=by
 have:k<xs.length:=by rcases lt_or_ge k xs.length with a|a;exact a;exact On (dv a) e
 exact .tup xs k k x rfl rfl (zr this) e q
theorem fU (h:V p=some (.idict kvs ep)) (e:aq kvs k=some x) (q:Q x V):atI (.ref p) (.int k) Q V:=.int p k kvs ep x rfl rfl h e q
theorem gW (h:V p=some (.tdict kvs ep)) (hl:cR xs=some l) (e:aq kvs l=some x) (q:Q x V):atI (.ref p) (.tup xs) Q V:=.tupK p xs l kvs ep x rfl rfl h hl e q
theorem cB {xs:List IV} (h:V p=some (.list xs)) (q:Q (.int xs.length) V):lenI (.ref p) Q V:=.list p xs rfl h q
theorem fV {xs:List IV} {Q:IH->Prop} (h:V p=some (.list xs)) (l:k<xs.length) (q:Q (upd V p (.list (xs.set k y)))):putI (.ref p) (.int (k:Int)) y Q V:=.list p k xs rfl rfl h (natCast_nonneg _) (ofNat_lt.2 ‹_›) q
theorem gJ {kvs:List (Int×IV)} {Q:IH->Prop} (h:V p=some (.idict kvs ep)) (l:kvs.length<999999) (q:∀ep',Q (upd V p (.idict (aK kvs k y) ep'))):putI (.ref p) (.int k) y Q V:=.int p k kvs ep rfl rfl h l q
theorem jb {kvs:List (List Int×IV)} {Q:IH->Prop} (h:V p=some (.tdict kvs ep)) (hl:cR xs=some k) (l:kvs.length<999999) (q:∀ep',Q (upd V p (.tdict (aK kvs k y) ep'))):putI (.ref p) (.tup xs) y Q V:=.tup p xs k kvs ep rfl rfl h hl l q
theorem Gx {kvs:List (PySem.Str×IV)} {Q:IH->Prop} (h:V p=some (.sdict kvs)) (l:kvs.length<999999) (q:Q (upd V p (.sdict (aK kvs k y)))):putI (.ref p) (.str k) y Q V:=.str p k kvs rfl rfl h l q
theorem cp {fs:List (Nat×IV)} {Q:IH->Prop} (h:V p=some (.inst c fs)) (o:eZ c f=true) (l:fs.length<100) (q:Q (upd V p (.inst c (aK fs f y)))):setI (.ref p) f y Q V:=⟨p,c,fs,rfl,h,o,l,q⟩
theorem bZ {xs:List IV} {y:IV} (h:V p=some (.list xs)) (l:xs.length<999999) (q:Q .none (upd V p (.list (xs++[y])))):appI (.ref p) y Q V:=⟨p,xs,rfl,h,l,q⟩
theorem bz (h:V p=some (.list xs)):isLst (.ref p) V:=⟨p,xs,rfl,h⟩
theorem rJ {xs ys:List IV} (h:V p=some (.list xs)) (h':V r=some (.list ys)) (l:xs.length+ys.length<1000000) (q:Q .none (upd V p (.list (xs++ys)))):extI (.ref p) (.ref r) Q V:=⟨p,r,xs,ys,rfl,rfl,h,h',l,q⟩
theorem y9 {xs:List IV} (h:V p=some (.list xs)) (e:xs.getLast?=some y) (q:Q y (upd V p (.list xs.dropLast))):popI (.ref p) Q V:=⟨p,xs,y,rfl,h,e,q⟩
theorem i9 (h:V p=some (.idict kvs ep)) (q:Q ((aq kvs k).getD d) V):getI (.ref p) (.int k) d Q V:=.int p k kvs ep rfl rfl h q
theorem Gi (h:V p=some (.tdict kvs ep)) (hl:cR xs=some k) (q:Q ((aq kvs k).getD d) V):getI (.ref p) (.tup xs) d Q V:=.tup p xs k kvs ep rfl rfl h hl q
theorem i7 (h:V p=some (.idict kvs ep)):isDct (.ref p) V:=.int p kvs ep rfl h
theorem Ge (h:V p=some (.tdict kvs ep)):isDct (.ref p) V:=.tup p kvs ep rfl h
theorem gH (h:V p=some (.list xs)) (q:∀r,V r=none->Q (.ref r) (upd V r (.list xs))):copyI (.ref p) Q V:=⟨p,xs,rfl,h,q⟩
theorem rP (h:V p=some (.list xs)) (q:Q (.tup xs) V):tupI (.ref p) Q V:=⟨p,xs,rfl,h,q⟩
theorem GB {xs:List Int} {ys:List IV} (h:V p=some (.list ys)) (e:ys=xs.map IV.int) (l:xs.length<64) (q:∀r,V r=none->Q (.ref r) (upd V r (.list ((cO xs).map IV.int)))):sortI (.ref p) Q V:=.list p ys xs rfl h (O e (O (gY ..) rfl)) l q
theorem rO {kvs:List (Int×IV)} (h:V p=some (.idict kvs ep)) (l:kvs.length<64) (q:∀r,V r=none->Q (.ref r) (upd V r (.list ((cO (kvs.map (·.1))).map IV.int)))):sortI (.ref p) Q V:=.dict p kvs ep rfl h l q
theorem GD {xs:List Int} {ys:List IV} (e:ys=xs.map IV.int) (l:xs.length<64) (q:∀r,V r=none->Q (.ref r) (upd V r (.list ((cO xs).map IV.int)))):sortI (.tup ys) Q V:=.tup ys xs rfl (O e (O (gY ..) rfl)) l q
theorem zf {xs:List IV} {k:Int} (h:V p=some (.list xs)) (l:0<=k) (q:∀r,V r=none->Q (.ref r) (upd V r (.list (xs.take k.toNat)))):uptoI (.ref p) (.int k) Q V:=.list p k xs rfl rfl h l q
theorem Gh {xs:List IV} {k:Int} (h:V p=some (.list xs)) (l:0<=k) (q:∀r,V r=none->Q (.ref r) (upd V r (.list (xs.drop k.toNat)))):fromI (.ref p) (.int k) Q V:=.list p k xs rfl rfl h l q
theorem gX {x:IV} {k:Int} (h:V p=some (.list [x])) (l:k<1000000) (l': -1000000<k) (q:∀r,V r=none->Q (.ref r) (upd V r (.list (List.replicate k.toNat x)))):binI .Mult (.ref p) (.int k) Q V:=binI.mul p k x rfl rfl rfl h l l' q
theorem y7 {xs ys:List IV} (h:V p=some (.list xs)) (h':V r=some (.list ys)) (l:xs.length+ys.length<1000000) (q:∀z,V z=none->Q (.ref z) (upd V z (.list (xs++ys)))):binI .Add (.ref p) (.ref r) Q V:=binI.cat p r xs ys rfl rfl rfl h h' l q
theorem Er (a b:Nat):Builtin.bitOr (a:Int) (b:Int)=((a|||b:Nat):Int):=by
 have n1:∀x:Nat,(-(x:Int) -1)=Int.negSucc x:=λx=>by lia
 have n2:∀x:Nat,decide ((0:Int)<=Int.negSucc x)=false:=λx=>by rfl
 simp only[Builtin.bitOr,Builtin.bitAnd,Builtin.bitNot,n1,n2];have n3:∀x:Nat,(-(Int.negSucc x) -1).toNat=x:=λx=>by lia
 have n4:∀x:Nat,-(-(x:Int) -1) -1=x:=λx=>by lia
 simp only[n3,<-n1,n4,toNat_natCast]
theorem dZ (q:Q (.int ((a|||b:Nat):Int)) V):binI .BitOr (.int (a:Int)) (.int (b:Int)) Q V:=by
 refine binI.int _ _ rfl rfl ?_;show Q (.int (Builtin.bitOr (a:Int) (b:Int))) V;exact O (Er ..) q
theorem rI (q:Q (.int ((a&&& b:Nat):Int)) V):binI .BitAnd (.int (a:Int)) (.int (b:Int)) Q V:=binI.int _ _ rfl rfl q
theorem jd (l:b<=1000) (q:Q (.int ((1<<<b:Nat):Int)) V):binI .LShift (.int 1) (.int (b:Int)) Q V:=by
 refine binI.int _ _ rfl rfl ⟨by exact natCast_nonneg _,by exact Int.ofNat_le.2 ‹_›,by decide,?_⟩;have:((1:Int)*(2:Int)^(b:Int).toNat)=((1<<<b:Nat):Int):=by simp[Nat.shiftLeft_eq]
 exact this▸q
theorem rM {a b:Nat} (q:Q (.int ((a>>>b:Nat):Int)) V):binI .RShift (.int (a:Int)) (.int (b:Int)) Q V:=by
 refine binI.int _ _ rfl rfl ⟨by exact natCast_nonneg _,?_⟩;have:(a:Int).fdiv ((2:Int)^(b:Int).toNat)=((a>>>b:Nat):Int):=by
  refine O (Int.fdiv_eq_ediv_of_nonneg _ (Int.pow_nonneg (by decide))) ?_;simp[Nat.shiftRight_eq_div_pow]
 exact this▸q
theorem bw {K:List IV->(IH->Prop)->IH->Prop} (h:V p=some (.list xs)) (q:K xs (λV'=>V' p=some (.list xs)) V):itI .it (.ref p) K V:=itI.list p xs rfl rfl h q
theorem rL {kvs:List (Int×IV)} {K:List IV->(IH->Prop)->IH->Prop} (h:V p=some (.idict kvs ep)) (q:K (kvs.map λq=>.int q.1) (λV'=>V' p=some (.idict kvs ep)) V):itI .it (.ref p) K V:=itI.int p kvs ep rfl rfl h q
theorem Gs {kvs:List (List Int×IV)} {K:List IV->(IH->Prop)->IH->Prop} (h:V p=some (.tdict kvs ep)) (l:∀q∈kvs,q.1.length<64) (q:K (kvs.map λq=>.tup (q.1.map IV.int)) (λV'=>V' p=some (.tdict kvs ep)) V):itI .it (.ref p) K V:=itI.tupK p kvs ep rfl rfl h l q
theorem Gy {xs:List IV} {K:List IV->(IH->Prop)->IH->Prop} (h:V p=some (.list xs)) (q:K xs.reverse (λV'=>V' p=some (.list xs)) V):itI .rev (.ref p) K V:=itI.rev p xs rfl rfl h q
theorem dF {K:List IV->(IH->Prop)->IH->Prop} (l:k<1000000) (q:K ((List.range k).map λi=>.int (i:Nat)) (λ_=>True) V):itI .rng (.int (k:Int)) K V:=itI.rng (k:Int) rfl rfl (by lia) (by lia) (O (toNat_natCast ..) q)
theorem aO {c:Prop} [Decidable c] {X Y:Prop} (a:c->X) (b:¬c->Y):if decide c=true then X else Y:=by
 by_cases h:c
 .simp only[h,decide_true,if_true];exact a h
 .simp only[h,decide_false];exact b h
theorem b9 {c:Bool} {X Y:Prop} (a:c=true->X) (b:c=false->Y):if c=true then X else Y:=by
 rcases c
 .simp only[Bool.false_eq_true,if_false];exact b rfl
 .simp only[if_true];exact a rfl
theorem ze {xs:List IV} (h:V p=some (.list xs)) (q:K (!xs.isEmpty) V):tru (.ref p) K V:=.list h q
theorem yD (l:List Int) (x:Int):anyEq (.int x) (l.map IV.int) (decide (x∈l)):=by
 induction l with
 |nil=>exact .nil
 |cons y l ih=>
  exact O (show decide (x∈y::l)=(decide (y=x)||decide (x∈l)) by simp[mem_cons,eq_comm]) (.cons (.int y x) ih)
theorem Gj {ys:List IV} {l:List Int} (h:V p=some (.list ys)) (e:ys=l.map IV.int) (q:K (decide (x∈l)) V):inI (.int x) (.ref p) K V:=by
 subst e;exact .list p _ _ rfl h (yD _ _) q
theorem Go {ys:List IV} {l:List Int} (e:ys=l.map IV.int) (q:K (decide (x∈l)) V):inI (.int x) (.tup ys) K V:=by
 subst e;exact .tup _ _ rfl (yD _ _) q
theorem rK (h:V p=some (.idict kvs ep)) (q:K (aq kvs x).isSome V):inI (.int x) (.ref p) K V:=.int p x kvs ep rfl rfl h q
theorem Gn (h:V p=some (.tdict kvs ep)) (hl:cR xs=some l) (q:K (aq kvs l).isSome V):inI (.tup xs) (.ref p) K V:=.tupK p xs l kvs ep rfl rfl h hl q
end
theorem VA (a:IV) (Q:QE):fQ .len a Q=lenI a Q:=rfl
theorem VC (a:IV) (Q:QE):fQ .sorted a Q=sortI a Q:=rfl
theorem VB (a:IV) (Q:QE):fQ .list a Q=copyI a Q:=rfl
theorem VE (a:IV) (Q:QE):fQ .tuple a Q=tupI a Q:=rfl
theorem VD (a:IV) (Q:QE):fQ .sum a Q=sumI a Q:=rfl
theorem Vz (a:IV) (Q:QE):fQ .int a Q=jZ a Q:=rfl
theorem VF (Q:QE):i6 .i Q=λV=>∀ep r,V r=none->Q (.ref r) (upd V r (.idict [] ep)):=rfl
theorem VG (Q:QE):i6 .s Q=λV=>∀r,V r=none->Q (.ref r) (upd V r (.sdict [])):=rfl
theorem VH (Q:QE):i6 .t Q=λV=>∀ep r,V r=none->Q (.ref r) (upd V r (.tdict [] ep)):=rfl
section
variable{B:Bs} {V:IH} {Q:QE} {K:QB} {i j:Int}
theorem de (q:Q (.int (i+j)) V):binI .Add (.int i) (.int j) Q V:=binI.int i j rfl rfl q
theorem fX (q:Q (.int (i -j)) V):binI .Sub (.int i) (.int j) Q V:=binI.int i j rfl rfl q
theorem dE (q:K (decide (i<j)) V):dx .Lt (.int i) (.int j) K V:=intsI.mk i j rfl rfl q
theorem gD (q:K (decide (j<i)) V):dx .Gt (.int i) (.int j) K V:=intsI.mk i j rfl rfl q
theorem gU (q:K (decide (j<=i)) V):dx .GtE (.int i) (.int j) K V:=intsI.mk i j rfl rfl q
theorem cV (q:K (decide (i=j)) V):dx .Eq (.int i) (.int j) K V:=eqI.int i j rfl rfl q
theorem fn (q:K (decide (i≠j)) V):dx .NotEq (.int i) (.int j) K V:=neI.int i j rfl rfl q
theorem Gv (q:Q (.bool (decide (i<j))) V):fv .Lt (.int i) (.int j) Q V:=intsI.mk i j rfl rfl q
theorem iR (q:inI x y K V):dx .In x y K V:=q
theorem eE (q:inI x y (λb=>K (!b)) V):dx .NotIn x y K V:=q
theorem cJ {X Y:Prop} (h:Y):if false=true then X else Y:=by exact h
theorem fx {X Y:Prop} (h:X):if true=true then X else Y:=by exact h
theorem cQ {b:Bool} (q:K b V):tru (.bool b) K V:=.bool q
theorem fw {xs:List IV} (q:Q (.int xs.length) V):lenI (.tup xs) Q V:=.tup xs rfl q
end
noncomputable abbrev nl (l:List Nat):List IV:=l.map λk:Nat=>IV.int (k:Int)
abbrev GG:=List (Nat×List Nat)
noncomputable def ah (G:GG) (r:Nat):Nat:=(G[r]?.map (·.1)).getD 0
noncomputable def ae (G:GG) (r:Nat):List Nat:=(G[r]?.map (·.2)).getD []
structure Good (G:GG):Prop where
 len:G.length=5
 l0:G[0]? =some (5,[6,0])
 l1:∃a,G[1]? =some (6,a)
 l2:∃a,G[2]? =some (6,a)
 l3:∃a,G[3]? =some (7,a)
 l4:∃a,G[4]? =some (7,a)
 len3:∀r,(ae G r).length<=3
 sym:∀r x,0<r->x∈ae G r->x=3\/x=4\/x=6\/x=7
 one:∀x,x∈ae G 1->x≠6
 three:∀x,x∈ae G 3->x<5
 three2:(ae G 3).length<=2
 pos1:0<(ae G 1).length
noncomputable def own (G:GG):Nat->List Nat
 | 0=>[]
 |i+1=>own G i++List.replicate ((ae G i).length+1) i
theorem jw (G:GG) (i:Nat):own G (i+1)=own G i++List.replicate ((ae G i).length+1) i:=rfl
noncomputable def bU (G:GG) (i:Nat):Nat:=(own G i).length
noncomputable def code (G:GG) (r d:Nat):Nat:=bU G r+d
def VI (G:GG) (r d:Nat):Prop:=r<5/\d<=(ae G r).length
noncomputable def bF (G:GG) (i x:Nat):List Nat:=(List.range i).filter λk=>ah G k==x
noncomputable def gC (G:GG) (r d:Nat):Int:=match(ae G r)[d]? with
 |some x=>(x:Int)
 |none=> -1
theorem Good.rhs0 (h:Good G):ae G 0=[6,0]:=by simp[ae,h.l0]
theorem Good.lhs0 (h:Good G):ah G 0=5:=by simp[ah,h.l0]
theorem Good.lhs1 (h:Good G):ah G 1=6:=by obtain⟨a,e⟩:=h.l1;simp[ah,e]
theorem Good.lhs2 (h:Good G):ah G 2=6:=by obtain⟨a,e⟩:=h.l2;simp[ah,e]
theorem Good.lhs3 (h:Good G):ah G 3=7:=by obtain⟨a,e⟩:=h.l3;simp[ah,e]
theorem Good.lhs4 (h:Good G):ah G 4=7:=by obtain⟨a,e⟩:=h.l4;simp[ah,e]
@[elab_as_elim] theorem jx {P:Nat->Prop} (a:0<r) (l:r<5) (h1:P 1) (h2:P 2) (h3:P 3) (h4:P 4):P r:=by
  rcases r with _|_|_|_|_|r
  .exact absurd a (lt_irrefl _)
  .exact h1
  .exact h2
  .exact h3
  .exact h4
  .exact absurd l (by lia)
theorem Good.lhs8 (h:Good G) (l:r<5):5<=ah G r/\ah G r<8:=by
 rcases dH r with e|e
 .refine O e (O h.lhs0 ?_);decide
 .refine jx e l ?_ ?_ ?_ ?_
  .refine O h.lhs1 ?_;decide
  .refine O h.lhs2 ?_;decide
  .refine O h.lhs3 ?_;decide
  .refine O h.lhs4 ?_;decide
theorem Good.rhs8 (h:Good G) (m:x∈ae G r):x<8:=by
 rcases dH r with e|e
 .subst e;rw[h.rhs0]at m;simp at m;lia
 .have:=h.sym r x e m;lia
theorem fM (G:GG) (i:Nat):bU G (i+1)=bU G i+((ae G i).length+1):=by rw[bU];exact O (jw ..) (O bT (O List.length_replicate rfl))
theorem CF (G:GG) (h:i<=j):bU G i<=bU G j:=by
 induction h with
 |refl=>exact aY _
 |step _ ih=>refine O (fM ..) ?_;lia
theorem gO (G:GG) (hr:r<n) (hd:d<=(ae G r).length):(own G n)[code G r d]? =some r:=by
 induction n with
 |zero=>lia
 |succ n ih=>
  by_cases e:r=n
  .subst e;refine O (jw ..) (O (dj (by simp[code,bU])) ?_);have:code G r d -(own G r).length=d:=by simp[code,bU]
   exact O this (O getElem?_replicate (O (ax (di ‹_›)) rfl))
  .have hr':r<n:=by lia
   have l:=CF G (i:=r+1) (j:=n) hr';rw[fM]at l;exact O (jw ..) (O (cF (by simp only[code,bU]at l⊢;lia)) (ih hr'))
theorem dX (h:VI G r d) (h':VI G r' d') (e:code G r d=code G r' d'):r=r'/\d=d':=by
 have a:=gO G h.1 h.2;have b:=gO G h'.1 h'.2;rw[e,b]at a;obtain rfl:=aP a;exact⟨rfl,by simp only[code]at e;lia⟩
structure GA where
 an:Addr
 ar:Addr
 al:Addr
 ab:Addr
 ao:Addr
 aw:Addr
 rr:List Addr
 bb:List Addr
noncomputable def gF (A:GA) (G:GG):List (Nat×IV):=[(52,.ref A.an),(81,.int 5),(69,.ref A.ar),(45,.ref A.al),(21,.none),(75,.int 6),(11,.ref A.ab),(58,.ref A.ao),(60,.ref A.aw),(36,.int (bU G 5))]
noncomputable def fE (k l:Nat) (r:List Nat):List (Nat×IV):=[(54,.int k),(40,.int l),(65,.tup (nl r)),(44,.int (-1)),(1,.none),(46,.int 0),(8,.int 0)]
noncomputable def nms:List PySem.Str:=[u "$end",u "error",u "$undefined",u "a",u "b",u "$accept",u "S",u "A"]
structure GrAt (V:IH) (G:GG) (g:Addr) (A:GA):Prop where
 good:Good G
 obj:V g=some (.inst 422 (gF A G))
 names:V A.an=some (.list (nms.map IV.str))
 rules:V A.ar=some (.list (A.rr.map IV.ref))
 rlen:A.rr.length=5
 rule:∀k,k<5->∃a,A.rr[k]? =some a/\V a=some (.inst 340 (fE k (ah G k) (ae G k)))
 lev:∃ep,V A.al=some (.idict [] ep)
 byl:V A.ab=some (.list (A.bb.map IV.ref))
 blen:A.bb.length=8
 bys:∀x,x<8->∃a,A.bb[x]? =some a/\V a=some (.list (nl (bF G 5 x)))
 offs:V A.ao=some (.list (nl ((List.range 5).map (bU G))))
 owns:V A.aw=some (.list (nl (own G 5)))
theorem GrAt.mono (h:GrAt V G g A) (e:Ext V V'):GrAt V' G g A:=
 ⟨h.good,e _ _ h.obj,e _ _ h.names,e _ _ h.rules,h.rlen,λk l=>(h.rule k l).imp λ_ z=>z.imp_right (e _ _),h.lev.imp λ_=>e _ _,e _ _ h.byl,h.blen,λk l=>(h.bys k l).imp λ_ z=>z.imp_right (e _ _),e _ _ h.offs,e _ _ h.owns⟩
section
variable{B:Bs} (hB:Base B) {n:Nat} {V:IH} {Q:QE} {G:GG} {g:Addr} {A:GA} (h:GrAt V G g A)
include hB h
theorem qW (q:Q (.int 8) V):CallOk B (n+1) 363 [.ref g] V Q:=by
 refine EX hB ?_;w_fin;exact ag h.obj rfl<|cB h.names q
theorem jz (q:Q (.bool (decide (x<5))) V):CallOk B (n+1) 370 [.ref g,.int x] V Q:=by
 refine EY hB ?_;w_fin;exact ag h.obj rfl<|Gv q
theorem Dl (l:x<8) (q:∀r,V r=none->Q (.ref r) (upd V r (.list (nl (bF G 5 x))))):CallOk B (n+1) 391 [.ref g,.int x] V Q:=by
 refine EZ hB ?_;w_fin;obtain⟨a,e,ha⟩:=h.bys x l;exact ag h.obj rfl<|aB h.byl (O aQ (O e rfl))<|gH ha q
theorem xY (l:r<5) (q:Q (.int (bU G r+d)) V):CallOk B (n+1) 398 [.ref g,.int r,.int d] V Q:=by
 refine E0 hB ?_;w_fin;exact ag h.obj rfl<|aB h.offs (O aQ (O aQ (O (getElem?_range l) rfl)))<|de q
theorem ya (v:VI G r d) (q:Q (.int r) V):CallOk B (n+1) 405 [.ref g,.int (code G r d)] V Q:=by
 refine Fa hB ?_;w_fin;exact ag h.obj rfl<|aB h.owns (O aQ (O (gO G v.1 v.2) rfl)) q
theorem Tw (v:VI G r d) (q:Q (.int d) V):CallOk B (n+1) 412 [.ref g,.int (code G r d)] V Q:=by
 refine Fb hB ?_;w_fin;refine ag h.obj rfl<|ag h.obj rfl<|aB h.owns (O aQ (O (gO G v.1 v.2) rfl))<|aB h.offs (O aQ (O aQ (O (getElem?_range v.1) rfl)))<|fX ?_;have:(code G r d:Int) -(bU G r:Int)=d:=by simp only[code];lia
 exact O this q
theorem xX (v:VI G r d) (q:Q (.int (gC G r d)) V):CallOk B (n+1) 419 [.ref g,.int (code G r d)] V Q:=by
 refine Fc hB ?_;w_fin;obtain⟨a,e,ha⟩:=h.rule r v.1;refine ag h.obj rfl<|ag h.obj rfl<|aB h.owns (O aQ (O (gO G v.1 v.2) rfl))<|aB h.rules (O aQ (O e rfl))<|ag ha rfl ?_;w_fin;refine ag h.obj rfl<|ag h.obj rfl<|aB h.owns (O aQ (O (gO G v.1 v.2) rfl))<|aB h.offs (O aQ (O aQ (O (getElem?_range v.1) rfl)))<|fX ?_;have e2:(code G r d:Int) -(bU G r:Int)=d:=by simp only[code];lia
 refine O e2 ?_;w_fin;refine fw<|dE<|aO (λl=>?_) (λl=>?_)
 .rw[length_map]at l;have l':d<(ae G r).length:=by exact ofNat_lt.1 ‹_›
  refine dp (x:=.int ((ae G r)[d]:Nat)) (O aQ (O (c8 l') rfl)) ?_
  simpa only[gC,getElem?_eq_getElem l']using q
 .rw[length_map]at l
  simpa only[gC,getElem?_eq_none (show(ae G r).length<=d by lia)]using q
end
def BitsOf (m:Nat) (xs:List Nat):Prop:=∃a,m>>>a=0/\xs=(List.range a).filter λi=>m.testBit i
theorem BitsOf.mem {m:Nat} (h:BitsOf m xs):x∈xs↔m.testBit x=true:=by
 obtain⟨a,e,rfl⟩:=h;simp only[mem_filter,mem_range];refine⟨λz=>z.2,λz=>⟨?_,z⟩⟩;rcases lt_or_ge x a with l|l
 .exact l
 .have:m.testBit x=(m>>>a).testBit (x -a):=by refine O (Nat.testBit_shiftRight ..) ?_;congr 1;exact(Nat.add_sub_cancel' l).symm
  rw[this,e]at z;simp at z
theorem BitsOf.nodup {xs:List Nat} (h:BitsOf m xs):xs.Nodup:=by
 obtain⟨a,e,rfl⟩:=h;exact List.Pairwise.filter _ List.nodup_range
theorem BitsOf.len (h:BitsOf m xs) (l:m<2^k):∀x∈xs,x<k:=λx mx=>by
 rw[h.mem]at mx;rcases lt_or_ge x k with a|a
 .exact a
 .rw[Nat.testBit_lt_two_pow (lt_of_lt_of_le l (Nat.pow_le_pow_right (by decide) a))]at mx;exact(bE mx).elim
theorem yM (m a:Nat):((m>>>a)&&& 1=1)↔m.testBit a=true:=by
 rw[Nat.testBit];simp only[Nat.and_comm 1,Nat.and_one_is_mod];have:(m>>>a) %2<2:=Nat.mod_lt _ (by decide);simp;
theorem CR (m a:Nat):(List.range (a+1)).filter (λi=>m.testBit i)=(List.range a).filter (λi=>m.testBit i)++(if m.testBit a=true then[a]else[]):=by
 refine O range_succ (O (filter_append ..) ?_);congr 1;by_cases h:m.testBit a=true<;>simp[h]
section
variable{B:Bs} (hB:Base B) {n:Nat} {V:IH} {Q:QE}
include hB
theorem qU (l:m<2^40) (q:∀xs r,BitsOf m xs->V r=none->Q (.ref r) (upd V r (.list (nl xs)))):CallOk B (n+1) 68 [.int m] V Q:=by
 refine EA hB ?_;w_fin;refine⟨by decide,λr hr=>?_⟩;w_fin;w_fin;w_fin;refine gw (λk Z V'=>∃a,k=m>>>a/\Z=[some (.int m),some (.ref r),some (.int (a:Nat)),some (.int (m>>>a:Nat))]/\V'=upd V r (.list (nl ((List.range a).filter λi=>m.testBit i)))) ⟨m,0,rfl,rfl,rfl⟩ ?_;rintro k Z V' Fk hFk ⟨a,rfl,rfl,rfl⟩;dsimp only[aI,VP.of,List.getElem?_cons_zero,List.getElem?_cons_succ];refine gD<|aO (λl1=>?_) (λl1=>?_)
 .have l2:0<m>>>a:=by lia
  have la:a<40:=by
   rcases lt_or_ge a 40 with z|z
   .exact z
   .rw[Nat.shiftRight_eq_div_pow,Nat.div_eq_of_lt (lt_of_lt_of_le l (Nat.pow_le_pow_right (by decide) z))]at l2;lia
  have hs:(m>>>a)>>>1=m>>>(a+1):=rfl;have hd:m>>>(a+1)<m>>>a:=by refine Ob hs (O (Nat.shiftRight_eq_div_pow ..) ?_);lia
  have hlen:(nl ((List.range a).filter λi=>m.testBit i)).length<999999:=by
   have:=length_filter_le (λi=>m.testBit i) (List.range a);refine O (aE ..) ?_;rw[length_range]at this;lia
  w_fin;refine rI (b:=1)<|cV<|aO (λb=>?_) (λb=>?_)
  .have hb:m.testBit a=true:=(yM m a).1 (by lia);w_fin;refine⟨bz (bB _ _ _),bZ (bB _ _ _) hlen ?_⟩;w_fin;refine rM (b:=1) ?_;w_fin;refine de ?_;refine hFk _ _ ⟨m>>>(a+1),hd,a+1,rfl,rfl,?_⟩;refine O (yp ..) (O (CR ..) (O (ax hb) ?_));simp only[nl,map_append,map_cons,map_nil]
  .have hb:¬m.testBit a=true:=λz=>b (by have:=(yM m a).2 z;lia);w_fin;refine rM (b:=1) ?_;w_fin;refine de ?_;refine hFk _ _ ⟨m>>>(a+1),hd,a+1,rfl,rfl,?_⟩;exact O (CR ..) (O (ai hb) (O (append_nil ..) rfl))
 .w_fin;exact q _ r ⟨a,by generalize m>>>a=t at l1⊢;lia,rfl⟩ hr
end
structure H (V0 V:IH) (l:List (Addr×IO)):Prop where
 ext:Ext V0 V
 nd:(l.map (·.1)).Nodup
 at_:∀p∈l,V0 p.1=none/\V p.1=some p.2
theorem H.nil:H V V []:=⟨Ext.rfl,nodup_nil,λ_ m=>by rcases m⟩
theorem H.get (h:H V0 V l) (i:Nat) (e:l[i]? =some (a,o)):V a=some o:=(h.at_ _ (aF e)).2
theorem H.free (h:H V0 V l) (i:Nat) (e:l[i]? =some (a,o)):V0 a=none:=(h.at_ _ (aF e)).1
theorem H.call (h:H V0 V l) (e:Ext V V'):H V0 V' l:=⟨h.ext.trans e,h.nd,λp m=>⟨(h.at_ p m).1,e _ _ (h.at_ p m).2⟩⟩
theorem H.new (h:H V0 V l) (o:IO) (f:V r=none):H V0 (upd V r o) ((r,o)::l):=by
 have c:=h.call (Ext.new (o:=o) f);refine⟨c.ext,?_,λp m=>?_⟩
 .refine O map_cons ?_;rw[nodup_cons];refine⟨λm=>?_,h.nd⟩;obtain⟨p,mp,e⟩:=mem_map.1 m;have:=(h.at_ p mp).2;rw[e,f]at this;exact bv this
 .rcases mem_cons.1 m with rfl|m
  .exact⟨h.ext.none f,bB _ _ _⟩
  .exact c.at_ p m
theorem H.take (h:H V0 V l) (f:V0 r=none) (g:V r=some o) (n:∀p∈l,p.1≠r):H V0 V ((r,o)::l):=by
 refine⟨h.ext,?_,λp m=>?_⟩
 .refine O map_cons ?_;rw[nodup_cons];exact⟨λm=>by obtain⟨p,mp,e⟩:=mem_map.1 m;exact n p mp e,h.nd⟩
 .rcases mem_cons.1 m with rfl|m
  .exact⟨f,g⟩
  .exact h.at_ p m
theorem H.got (h:H V0 V l) (e:Ext V V') (f:V r=none) (g:V' r=some o):H V0 V' ((r,o)::l):=
 (h.call e).take (h.ext.none f) g λp m z=>by have:=(h.at_ p m).2;rw[z,f]at this;exact bv this
theorem H.put {l:List (Addr×IO)} (h:H V0 V l) (i:Nat) (e:l[i]? =some (a,o)):H V0 (upd V a o') (l.set i (a,o')):=by
 have hi:i<l.length:=by rcases lt_or_ge i l.length with z|z;exact z;exact On (dv z) e
 have hm:(l.set i (a,o')).map (·.1)=l.map (·.1):=by
  apply ext_getElem?;intro j;refine O aQ (O aQ (O c9 ?_));by_cases c:i=j
  .subst c;rw[getElem?_eq_getElem hi,Option.some.injEq]at e;simp[hi,e]
  .simp[c]
 refine⟨h.ext.upd (h.free i e),hm▸h.nd,λp m=>?_⟩;obtain⟨j,hj⟩:=U0.1 m;rw[List.getElem?_set]at hj;by_cases c:i=j
 .subst c;simp only[if_true,hi]at hj;obtain rfl:=aP hj;exact⟨h.free i e,bB _ _ _⟩
 .rw[if_neg c]at hj;refine⟨(h.at_ p (aF hj)).1,fg (h.at_ p (aF hj)).2 λz=>c ?_⟩;have h1:(l.map (·.1))[i]? =some a:=by exact O aQ (O e rfl)
  have h2:(l.map (·.1))[j]? =some a:=by exact O aQ (O hj (be some z))
  exact(getElem?_inj (by simpa using hi) h.nd).1 (h1.trans h2.symm)
theorem H.drop (h:H V0 V (p::l)):H V0 V l:=⟨h.ext,by have:=h.nd;rw[map_cons,nodup_cons]at this;exact this.2,λq m=>h.at_ q (dw _ m)⟩
theorem H.sub (h:H V0 V l) (s:List.Sublist l' l):H V0 V l':=⟨h.ext,h.nd.sublist (s.map _),λq m=>h.at_ q (s.subset m)⟩
theorem H.perm {l l':List (Addr×IO)} (h:H V0 V l) (s:l.Perm l'):H V0 V l':=⟨h.ext,(s.map _).nodup_iff.1 h.nd,λq m=>h.at_ q (s.mem_iff.2 m)⟩
noncomputable def aJ (us:List Addr) (f:Nat->List Nat):List (Addr×IO):=us.mapIdx λi a=>(a,.list (nl (f i)))
theorem ko {f:Nat->List Nat} {x:Nat} (e:us[x]? =some a):(aJ us f)[x]? =some (a,.list (nl (f x))):=by
 rw[aJ];exact O getElem?_mapIdx (O e rfl)
theorem HV {f:Nat->List Nat} {x:Nat} (e:us[x]? =some a) (v:List Nat):(aJ us f).set x (a,.list (nl v))=aJ us (λy=>if y=x then v else f y):=by
 apply ext_getElem?;intro j;rw[aJ,aJ];refine O c9 (O getElem?_mapIdx (O getElem?_mapIdx (O length_mapIdx ?_)));by_cases c:x=j
 .subst c;have hi:x<us.length:=by rcases lt_or_ge x us.length with z|z;exact z;exact On (dv z) e
  rw[getElem?_eq_getElem hi,Option.some.injEq]at e;simp[hi,e]
 .have c':¬j=x:=λz=>c z.symm;simp[c,c']
theorem H.getL {f:Nat->List Nat} (h:H V0 V (l++aJ us f)) {x:Nat} (e:us[x]? =some a):V a=some (.list (nl (f x))):=
 h.get (l.length+x) (by refine O (dj (le_add_right _ _)) ?_;simpa using ko e)
theorem H.putL {f:Nat->List Nat} (h:H V0 V (l++aJ us f)) {x:Nat} (e:us[x]? =some a) (v:List Nat):H V0 (upd V a (.list (nl v))) (l++aJ us (λy=>if y=x then v else f y)):=by
 have:=h.put (l.length+x) (o:=.list (nl (f x))) (o':=.list (nl v)) (by refine O (dj (le_add_right _ _)) ?_;simpa using ko e);rw[List.set_append_right _ _ (le_add_right _ _)]at this;have e2:l.length+x -l.length=x:=Nat.add_sub_cancel_left ..;rw[e2,HV e]at this;exact this
theorem jU {xs:List IV} {alive:IH->Prop} (ha:∀V',Ext V V'->alive V') (q:∀us r V',us.length=xs.length->V r=none->V' r=some (.list (us.map IV.ref))->H V V' ((r,.list (us.map IV.ref))::aJ us λ_=>[])->Q (.ref r) V'):
 gE xs alive (λy K V=>0<1000000/\∀r,V r=none->K (some (.ref r)) (upd V r (.list []))) Q V:=by
 refine rF (λi ys V'=>∃us:List Addr,us.length=i/\ys=us.map IV.ref/\H V V' (aJ us λ_=>[])) ⟨[],rfl,rfl,H.nil⟩ ?_ ?_
 .rintro i ys V' x hx ⟨us,hl,rfl,h⟩;refine⟨ha _ h.ext,by decide,λr hr=>⟨us++[r],by simp[hl],by exact Eq.symm bW,?_⟩⟩;have:=h.new (.list []) hr;refine this.perm ?_;have e:aJ (us++[r]) (λ_=>[])=aJ us (λ_=>[])++[(r,.list [])]:=by simp[aJ,mapIdx_append]
  exact O e (dc (l₁:=[(r,IO.list [])]))
 .rintro ys V' ⟨us,hl,rfl,h⟩;exact⟨ha _ h.ext,λr hr=>q us r _ hl (h.ext.none hr) (bB _ _ _) (h.new _ hr)⟩
theorem H.join (h:H V0 V1 l) (k:H V1 V2 m):H V0 V2 (m++l):=by
 refine⟨h.ext.trans k.ext,?_,λp mp=>?_⟩
 .refine O bW ?_;rw[nodup_append];refine⟨k.nd,h.nd,λa ma b mb e=>?_⟩;obtain⟨p,mp,rfl⟩:=mem_map.1 ma;obtain⟨q,mq,rfl⟩:=mem_map.1 mb;have:=(k.at_ p mp).1;rw[e,(h.at_ q mq).2]at this;exact jr this
 .rcases Uo.1 mp with mp|mp
  .exact⟨h.ext.none (k.at_ p mp).1,(k.at_ p mp).2⟩
  .exact⟨(h.at_ p mp).1,k.ext _ _ (h.at_ p mp).2⟩
theorem bf {i x:Nat} (e:l[i]? =some x):(nl l)[i]? =some (.int (x:Int)):=by exact O aQ (O e rfl)
theorem cW {L:List (Addr×IO)} {fs:List (Nat×IV)} {Q:IH->Prop} (n:Nat) (fs':List (Nat×IV)) (h:H V0 V L) (g:L[n]? =some (p,.inst c fs)) (e:aK fs f y=fs') (o:(eZ c f&&Nat.ble (fs.length+1) 100)=true) (q:∀V',H V0 V' (L.set n (p,.inst c fs'))->Q V'):setI (.ref p) f y Q V:=by
 subst e;exact cp (h.get n g) (bc o).1 (aG (bc o).2) (q _ (h.put n g))
theorem fK {L:List (Addr×IO)} {Q:Addr->IH->Prop} (o:IO) (h:H V0 V L) (q:∀r V',H V0 V' ((r,o)::L)->Q r V'):∀r,V r=none->Q r (upd V r o):=λr f=>q r _ (h.new o f)
theorem kG (l:List Nat) (i x:Nat):(nl l).set i (.int (x:Int))=nl (l.set i x):=by rw[nl,nl];exact O map_set rfl
theorem dB (l:List Nat) (x:Nat):nl l++[.int (x:Int)]=nl (l++[x]):=by simp[nl]
noncomputable abbrev bl (l:List Bool):List IV:=l.map IV.bool
theorem fR {i:Nat} {x:Bool} (e:l[i]? =some x):(bl l)[i]? =some (.bool x):=by exact O aQ (O e rfl)
theorem Et (l:List Bool) (i:Nat) (x:Bool):(bl l).set i (.bool x)=bl (l.set i x):=by rw[bl,bl];exact O map_set rfl
theorem dY {l:List Nat} {x:Nat} (h:V p=some (.list (nl l))) (k:l.length<999999) (q:Q .none (upd V p (.list (nl (l++[x]))))):appI (.ref p) (.int (x:Int)) Q V:=bZ h (by rw[nl];exact O (aE ..) k) (O (dB ..) q)
theorem fW {l:List Nat} {Q:IH->Prop} (h:V p=some (.list (nl l))) (k:i<l.length) (q:Q (upd V p (.list (nl (l.set i x))))):putI (.ref p) (.int (i:Int)) (.int (x:Int)) Q V:=fV h (by rw[nl];exact O (aE ..) k) (O (kG ..) q)
theorem zb {l:List Bool} {x:Bool} {Q:IH->Prop} (h:V p=some (.list (bl l))) (k:i<l.length) (q:Q (upd V p (.list (bl (l.set i x))))):putI (.ref p) (.int (i:Int)) (.bool x) Q V:=fV h (by rw[bl];exact O (aE ..) k) (O (Et ..) q)
theorem cz {l:List Nat} (h:l.Nodup):∀{N:Nat},(∀x∈l,x<N)->l.length<=N:=by
 intro N b;have:l⊆List.range N:=λx m=>mem_range.2 (b x m);have key:∀(l m:List Nat),l.Nodup->l⊆m->l.length<=m.length:=by
  intro l
  induction l with
  |nil=>intros;exact zero_le _
  |cons x l ih=>
   intro m nd s;rw[nodup_cons]at nd;have mx:x∈m:=s (bJ ..);have:=ih (m.erase x) nd.2 λy my=>(List.mem_erase_of_ne (by rintro rfl;exact nd.1 my)).2 (s (dw _ my));rw[List.length_erase_of_mem mx]at this;have:0<m.length:=List.length_pos_of_mem mx;simp only[length_cons];exact Nat.add_le_of_le_sub ‹_› ‹_›
 have:=key l _ h this;rwa[length_range]at this
theorem ja {K:List IV->(IH->Prop)->IH->Prop} (q:K xs (λ_=>True) V):itI .it (.tup xs) K V:=itI.tup xs rfl rfl q
theorem av {α:Type} {l:List α} {i:Nat} {x:α} (e:l[i]? =some x):i<l.length:=by
 rcases lt_or_ge i l.length with z|z
 .exact z
 .exact On (dv z) e
structure NulOk (G:GG) (nb:List Bool):Prop where
 len:nb.length=8
 cl:∀r,r<5->(∀x∈ae G r,nb[x]? =some true)->nb[ah G r]? =some true
structure SpQ (fb:List Bool) (qu:List Nat):Prop where
 fl:fb.length=8
 nd:qu.Nodup
 lt:∀x∈qu,x<8
 iff:∀x,fb[x]? =some true↔x∈qu
theorem SpQ.push {fb:List Bool} (h:SpQ fb qu) {x:Nat} (l:x<8) (n:x∉qu):SpQ (fb.set x true) (qu++[x]):=by
 refine⟨by simp[h.fl],?_,λy m=>?_,λy=>?_⟩
 .rw[nodup_append];refine⟨h.nd,by exact pairwise_singleton _ _,λa m b m'=>?_⟩;simp at m';subst m';rintro rfl;exact n m
 .simp at m;rcases m with m|m
  .exact h.lt y m
  .lia
 .refine O c9 (O h.fl ?_);by_cases c:x=y
  .subst c;simp[l]
  .have c':¬y=x:=λe=>c e.symm;simp[c,c',h.iff]
theorem SpQ.get (h:SpQ fb qu) {x:Nat} (l:x<8):fb[x]? =some (decide (x∈qu)):=by
 have:x<fb.length:=by exact O h.fl l
 have e:=h.iff x;rw[getElem?_eq_getElem this]at e⊢
 induction v:fb[x]with
 |true=>have:=e.1 (O v rfl);simp[this]
 |false=>
  have:¬x∈qu:=λm=>by have:=e.2 m;rw[v]at this;rcases this
  simp[this]
def CU (G:GG) (uf:Nat->List Nat) (k j:Nat):Prop:=∀x r,(uf x).count r=(if r<k then ae G r else if r=k then(ae G k).take j else[]).count x
theorem CU.next {G:GG} {uf:Nat->List Nat} {k:Nat} (h:CU G uf k (ae G k).length):CU G uf (k+1) 0:=by
 intro x r;refine O (h x r) (O take_length ?_);by_cases c:r<k
 .exact O (ax c) (O (ax (lt_succ_of_lt ‹_›)) rfl)
 .by_cases e:r=k
  .obtain rfl:=e.symm;exact O (ai c) (O (ax rfl) (O (ax (Nat.lt_of_not_le ‹_›)) rfl))
  .refine O (ai c) (O (ai e) (O (ai (by lia)) (O List.take_zero ?_)));split<;>rfl
theorem CU.push {uf:Nat->List Nat} {k j x:Nat} (h:CU G uf k j) (e:(ae G k)[j]? =some x):CU G (λy=>if y=x then uf x++[k]else uf y) k (j+1):=by
 intro y r;show List.count r (if y=x then uf x++[k]else uf y)=_;have hj:=av e;have ht:(ae G k).take (j+1)=(ae G k).take j++[x]:=by exact O take_add_one (O e rfl)
 have hu:=h y r;by_cases c:r<k
 .rw[if_pos c]at hu⊢;have:r≠k:=by exact ne_of_lt ‹_›
  have n2:([k]:List Nat).count r=0:=by rw[count_eq_zero];simp;assumption
  by_cases d:y=x
  .subst d;exact O (ax rfl) (O count_append (O n2 (O hu rfl)))
  .exact O (ai d) (O hu rfl)
 .by_cases e:r=k
  .obtain rfl:=e.symm;rw[if_neg c,if_pos rfl]at hu⊢;refine O ht (O count_append ?_);by_cases d:y=x
   .obtain rfl:=d.symm;refine O (ax rfl) (O count_append (O hu ?_));simp
   .have n2:([x]:List Nat).count y=0:=by rw[count_eq_zero];simp;exact d
    exact O (ai d) (O n2 (O hu rfl))
  .rw[if_neg c,if_neg e]at hu⊢;have n2:([k]:List Nat).count r=0:=by rw[count_eq_zero];simp;assumption
   by_cases d:y=x
   .subst d;exact O (ax rfl) (O count_append (O n2 (O hu rfl)))
   .exact O (ai d) (O hu rfl)
theorem yY (l:List Nat) (P:List Nat) (x:Nat) (n:x∉P):l.countP (λy=>decide (y∉P))=l.countP (λy=>decide (y∉P++[x]))+l.count x:=by
 induction l with
 |nil=>rfl
 |cons y l ih=>
  refine O countP_cons (O countP_cons (O List.count_cons (O ih ?_)));by_cases c:y=x
  .obtain rfl:=c.symm;simp[n];rfl
  .simp only[mem_append,mem_singleton,c,or_false,beq_iff_eq,if_false];lia
@[elab_as_elim] theorem GrAt.ruleAt {A:GA} {i:Nat} {C:IV->Prop} (h:GrAt V G g A) (e:(A.rr.map IV.ref)[i]? =some y) (k:∀a,i<5->V a=some (.inst 340 (fE i (ah G i) (ae G i)))->C (.ref a)):C y:=by
  have l:=av e;rw[length_map,h.rlen]at l;obtain⟨a,p,q⟩:=h.rule i l;rw[getElem?_map,p]at e;obtain rfl:=aP e;exact k a l q
theorem GrAt.ruleAtE {A:GA} {i:Nat} {C:Prop} (h:GrAt V G g A) (e:(A.rr.map IV.ref)[i]? =some y) (k:∀a,i<5->V a=some (.inst 340 (fE i (ah G i) (ae G i)))->y=.ref a->C):C:=
 GrAt.ruleAt (C:=λz=>y=z->C) h e k rfl
theorem GrAt.ruleGet {A:GA} (h:GrAt V G g A) {i:Nat} (l:i<5):∃a,(A.rr.map IV.ref)[i]? =some (.ref a)/\V a=some (.inst 340 (fE i (ah G i) (ae G i))):=by
 o_shape;obtain⟨a,p,q⟩:=h.rule i l;pv_eval;exact⟨a,by exact O aQ (O p rfl),q⟩
theorem GrAt.ruleIs {A:GA} (h:GrAt V G g A) {i:Nat} (e:(A.rr.map IV.ref)[i]? =some (.ref a)):V a=some (.inst 340 (fE i (ah G i) (ae G i))):=by
 have l:=av e;rw[length_map,h.rlen]at l;obtain⟨b,p,q⟩:=h.rule i l;rw[getElem?_map,p]at e;rcases e;exact q
theorem CV {α:Type} {n i:Nat} {x:α} (h:i<n):(List.replicate n x)[i]? =some x:=by exact O getElem?_replicate (O (ax h) rfl)
@[elab_as_elim] theorem cZ {i:Nat} {C:IV->Prop} (e:(nl l)[i]? =some y) (k:∀x:Nat,l[i]? =some x->C (.int (x:Int))):C y:=by
  rw[getElem?_map]at e
  induction v:l[i]? with
  |none=>rw[v]at e;exact bv e
  |some x=>rw[v]at e;obtain rfl:=aP e;exact k x v
theorem kE {i:Nat} {C:Prop} (e:(nl l)[i]? =some y) (k:∀x:Nat,l[i]? =some x->y=.int (x:Int)->C):C:=cZ (C:=λz=>y=z->C) e k rfl
theorem iz {us:List Addr} {i:Nat} (e:us[i]? =some a):(us.map IV.ref)[i]? =some (.ref a):=by exact O aQ (O e rfl)
theorem bg {α:Type} {l:List α} {i:Nat} (h:i<l.length) {C:Prop} (k:∀x,l[i]? =some x->C):C:=k _ (c8 h)
section
variable{B:Bs} (hB:Base B) {n:Nat} {V:IH} {Q:QE} {G:GG} {g:Addr} {A:GA} (h:GrAt V G g A)
include hB h
inductive I32_1 (V:IH) (G:GG) (g:Addr) (kk:Addr) (fa:Addr) (la:Addr) (us:List Addr) (ua:Addr) (qa:Addr) (k:Nat) (Z:aL) (V':IH):Prop
 |mk (uf:Nat->List Nat) (o6:Option IV) (o7:Option IV) (o8:Option IV) (h0:Z=[some (.ref g),some (.ref kk),some (.ref fa),some (.ref la),some (.ref ua),some (.ref qa),o6,o7,o8,none,none,none,none]) (h1:CU G uf k 0) (h2:∀x,(uf x).length<=4*k) (h3:H V V' ([(qa,.list (nl [])),(ua,.list (us.map .ref)),(la,.list (nl ((List.range k).map λr=>(ae G r).length))),(fa,.list (bl (List.replicate 8 false)))]++aJ us uf))
inductive I32_2 (V:IH) (G:GG) (g:Addr) (kk:Addr) (fa:Addr) (la:Addr) (us:List Addr) (ua:Addr) (qa:Addr) (k:Nat) (a:Addr) (j:Nat) (Z:aL) (V':IH):Prop
 |mk (uf:Nat->List Nat) (o8:Option IV) (h0:Z=[some (.ref g),some (.ref kk),some (.ref fa),some (.ref la),some (.ref ua),some (.ref qa),some (.ref a),some (.int (j:Nat)),o8,none,none,none,none]) (h1:CU G uf k j) (h2:∀x,(uf x).length<=4*k+j) (h3:H V V' ([(qa,.list (nl [])),(ua,.list (us.map .ref)),(la,.list (nl ((List.range k).map λr=>(ae G r).length))),(fa,.list (bl (List.replicate 8 false)))]++aJ us uf))
inductive I32_3 (V:IH) (G:GG) (g:Addr) (kk:Addr) (fa:Addr) (la:Addr) (us:List Addr) (ua:Addr) (qa:Addr) (uf:Nat->List Nat) (o7:Option IV) (o8:Option IV) (k:Nat) (Z:aL) (V':IH):Prop
 |mk (fb:List Bool) (qu:List Nat) (o6:Option IV) (h0:Z=[some (.ref g),some (.ref kk),some (.ref fa),some (.ref la),some (.ref ua),some (.ref qa),o6,o7,o8,none,none,none,none]) (h1:SpQ fb qu) (h2:∀r,r<k->ae G r=[]->ah G r∈qu) (h3:H V V' ([(qa,.list (nl qu)),(ua,.list (us.map .ref)),(la,.list (nl ((List.range 5).map λr=>(ae G r).length))),(fa,.list (bl fb))]++aJ us uf))
inductive I32_4 (V:IH) (G:GG) (g:Addr) (kk:Addr) (fa:Addr) (la:Addr) (us:List Addr) (ua:Addr) (qa:Addr) (uf:Nat->List Nat) (o7:Option IV) (o8:Option IV) (m:Nat) (Z:aL) (V':IH):Prop
 |mk (a:Nat) (fb:List Bool) (qu:List Nat) (lk:List Nat) (o6:Option IV) (o10:Option IV) (o11:Option IV) (h0:Z=[some (.ref g),some (.ref kk),some (.ref fa),some (.ref la),some (.ref ua),some (.ref qa),o6,o7,o8,some (.int (a:Nat)),o10,o11,none]) (h1:m=8 -a) (h2:a<=qu.length) (h3:SpQ fb qu) (h4:lk.length=5) (h5:∀r,r<5->lk[r]? =some ((ae G r).countP λy=>decide (y∉qu.take a))) (h6:∀r,r<5->lk[r]? =some 0->ah G r∈qu) (h7:H V V' ([(qa,.list (nl qu)),(ua,.list (us.map .ref)),(la,.list (nl lk)),(fa,.list (bl fb))]++aJ us uf))
inductive I32_5 (V:IH) (G:GG) (g:Addr) (kk:Addr) (fa:Addr) (la:Addr) (us:List Addr) (ua:Addr) (qa:Addr) (uf:Nat->List Nat) (o7:Option IV) (o8:Option IV) (a:Nat) (qu:List Nat) (o6:Option IV) (X:Nat) (i:Nat) (Z:aL) (V':IH):Prop
 |mk (fb:List Bool) (qu':List Nat) (lk:List Nat) (o10:Option IV) (o11:Option IV) (h0:Z=[some (.ref g),some (.ref kk),some (.ref fa),some (.ref la),some (.ref ua),some (.ref qa),o6,o7,o8,some (.int (a:Nat)),o10,o11,none]) (h1:∃z,qu'=qu++z) (h2:SpQ fb qu') (h3:lk.length=5) (h4:∀r,r<5->∃v,lk[r]? =some v/\v+((uf X).take i).count r=(ae G r).countP λy=>decide (y∉qu.take a)) (h5:∀r,r<5->lk[r]? =some 0->ah G r∈qu') (h6:H V V' ([(qa,.list (nl qu')),(ua,.list (us.map .ref)),(la,.list (nl lk)),(fa,.list (bl fb))]++aJ us uf))
theorem TX (hk:V kk=some (.list (bl (List.replicate 8 false)))) (q:∀nb r V',Ext V V'->NulOk G nb->V r=none->V' r=some (.list (bl nb))->Q (.ref r) V'):CallOk B (n+1) 431 [.ref g,.ref kk] V Q:=by
 refine Fd hB ?_;w_fin;refine gH hk λfa hfa=>?_;have h1:=H.nil.new (.list (bl (List.replicate 8 false))) hfa;w_fin;refine⟨by decide,λla hla=>?_⟩;have h2:=h1.new (.list (nl [])) hla;w_fin;refine bw (h2.get 1 rfl) ?_;refine jU (λV' e=>e _ _ (h2.get 1 rfl)) λus ua V3 hl hua hus h3=>?_;have h4:=h2.join h3;w_fin;refine⟨by decide,λqa hqa=>?_⟩;have h5:=h4.new (.list (nl [])) hqa;have h6:=h5.perm (l':=[(qa,.list (nl [])),(ua,.list (us.map .ref)),(la,.list (nl [])),(fa,.list (bl (List.replicate 8 false)))]++aJ us λ_=>[]) (.cons _ (.cons _ dc));have hul:us.length=8:=by exact O hl rfl
 have e4:upd V3 qa (IO.list [])=upd V3 qa (IO.list (nl [])):=rfl;refine O e4 ?_;generalize upd V3 qa (IO.list (nl []))=V4 at h6⊢;clear e4 h5 h4 h3 h2 h1 hl hus hua hqa hla hfa;w_fin;refine ag (h.mono h6.ext).obj rfl<|bw (h.mono h6.ext).rules ?_;refine aU (I32_1 V G g kk fa la us ua qa) ⟨λ_=>[],none,none,none,rfl,λx r=>by simp,λ_=>zero_le _,h6⟩ ?_ ?_
 .rintro k Z V' y Fk hFk hy ⟨uf,o6,o7,o8,rfl,cu,cl,hh⟩;have gr:=h.mono hh.ext;refine⟨gr.rules,?_⟩;refine gr.ruleAtE hy λa k5 ha eY=>?_;obtain rfl:=eY;w_fin;w_fin;refine ag ha rfl<|ja ?_;refine aU (I32_2 V G g kk fa la us ua qa k a) ⟨uf,o8,rfl,cu,cl,hh⟩ ?_ ?_
  .rintro j Z V' y Fk hFk hy2 ⟨uf,o8,rfl,cu,cl,hh⟩;refine⟨trivial,?_⟩;refine cZ hy2 λx hx=>?_;have hx8:x<8:=(h.good.rhs8 (aF hx));have j3:=av hx;have l3:=h.good.len3 k;w_fin;refine aB (hh.get 3 rfl) (fR (CV hx8)) ?_;refine cQ<|fx ?_;w_fin;refine de ?_;w_fin;refine bg (l:=us) (i:=x) (by lia) λb hb=>?_;refine aB (hh.get 1 rfl) (iz hb) ?_;refine⟨bz (hh.getL hb),?_⟩;refine ag ((h.mono hh.ext).ruleIs hy) rfl ?_;refine dY (hh.getL hb) (by have:=cl x;lia) ?_;refine hFk _ _ ⟨_,_,rfl,cu.push hx,λy=>?_,hh.putL hb _⟩;have:=cl x;have:=cl y;show(if y=x then uf x++[k]else uf y).length<=_;split
   .refine O bT ?_;simp only[length_cons,length_nil];lia
   .lia
  .rintro Z V' ⟨uf,o8,rfl,cu,cl,hh⟩;refine⟨trivial,?_⟩;rw[length_map]at cu cl⊢;w_fin;refine⟨bz (hh.get 2 rfl),bZ (hh.get 2 rfl) (by simp;lia) ?_⟩;refine O (dB ..) (hFk _ _ ⟨uf,_,_,_,rfl,cu.next,λx=>?_,?_⟩)
   .have:=cl x;have:=h.good.len3 k;lia
   .have:=hh.put 2 (o':=.list (nl ((List.range (k+1)).map λr=>(ae G r).length))) rfl;rw[range_succ,map_append]at this⊢;exact this
 .rintro Z V' ⟨uf,o6,o7,o8,rfl,cu,cl,hh⟩;rw[length_map,h.rlen]at cu hh;clear h6 cl;refine⟨(h.mono hh.ext).rules,?_⟩;w_fin;refine ag (h.mono hh.ext).obj rfl<|bw (h.mono hh.ext).rules ?_;have cu':∀x r,(uf x).count r=(ae G r).count x:=λx r=>by
   refine O (cu x r) ?_;by_cases c:r<5
   .exact O (ax c) rfl
   .have:ae G r=[]:=by simp[ae,getElem?_eq_none (show G.length<=r by refine O h.good.len ?_;lia)]
    refine O (ai c) (O this ?_);split<;>simp
  have uf5:∀x r,r∈uf x->r<5/\x∈ae G r:=λx r m=>by
   have c:=List.count_pos_iff.2 m;rw[cu' x r]at c;have:=List.count_pos_iff.1 c;refine⟨?_,this⟩;rcases lt_or_ge r 5 with l|l
   .exact l
   .have e:ae G r=[]:=by simp[ae,getElem?_eq_none (show G.length<=r by refine O h.good.len ?_;omega)]
    rw[e]at this;cases this
  clear cu;refine aU (I32_3 V G g kk fa la us ua qa uf o7 o8) ⟨_,[],_,rfl,⟨rfl,nodup_nil,(λ_ m=>by cases m),λx=>?_⟩,λr l=>by lia,hh⟩ ?_ ?_
  .refine O getElem?_replicate ?_;split<;>simp
  .clear hh;rintro k Z V' y Fk hFk hy ⟨fb,qu,o6,eQ,sp,he,hh⟩;obtain rfl:=eQ.symm;have gr:=h.mono hh.ext;refine⟨gr.rules,?_⟩;refine gr.ruleAtE hy λa k5 ha eY=>?_;obtain rfl:=eY;have l8:=(h.good.lhs8 k5).2;w_fin;refine ag ha rfl<|aB (hh.get 2 rfl) (bf (x:=(ae G k).length) (O aQ (O (getElem?_range k5) rfl)))<|cV<|aO (λc=>?_) (λc=>?_)
   .refine ag ha rfl<|aB (hh.get 3 rfl) (fR (sp.get l8)) ?_;refine cQ<|b9 (λd=>?_) (λd=>?_)
    .have nm:ah G k∉qu:=by simpa using d
     w_fin;refine ag ha rfl<|zb (hh.get 3 rfl) (O sp.fl l8) ?_;have h2:=hh.put 3 (o':=.list (bl (fb.set (ah G k) true))) rfl;have ll:=cz sp.nd sp.lt;w_fin;refine⟨bz (h2.get 0 rfl),ag ((h.mono h2.ext).ruleIs hy) rfl<|dY (h2.get 0 rfl) (by lia) ?_⟩;refine hFk _ _ ⟨_,_,_,rfl,sp.push l8 nm,λr lr er=>?_,h2.put 0 rfl⟩;rw[mem_append];by_cases e:r=k
     .obtain rfl:=e.symm;right;simp
     .left;exact he r (by lia) er
    .refine hFk _ _ ⟨_,_,_,rfl,sp,λr lr er=>?_,hh⟩;by_cases e:r=k
     .obtain rfl:=e.symm;simpa using d
     .exact he r (by lia) er
   .refine cJ ?_;refine hFk _ _ ⟨_,_,_,rfl,sp,λr lr er=>?_,hh⟩;by_cases e:r=k
    .obtain rfl:=e.symm;rw[er]at c;exact absurd rfl c
    .exact he r (by lia) er
  .clear hh;rintro Z V' ⟨fb,qu,o6,rfl,sp,he,hh⟩;rw[length_map,h.rlen]at he;refine⟨(h.mono hh.ext).rules,?_⟩;w_fin;w_fin;refine gw (I32_4 V G g kk fa la us ua qa uf o7 o8) ⟨8,0,fb,qu,(List.range 5).map (λr=>(ae G r).length),_,_,_,rfl,rfl,zero_le _,sp,by rfl,λr l=>?_,λr l e=>?_,hh⟩ ?_
   .refine O aQ (O (getElem?_range l) ?_);simp
   .rw[getElem?_map,getElem?_range l]at e;exact he r l (length_eq_zero_iff.1 (aP e))
   .clear hh sp he;rintro m Z V' Fk hFk ⟨a,fb,qu,lk,o6,o10,o11,rfl,rfl,la1,sp,l5,hlk,hz,hh⟩;w_left;refine cB (hh.get 0 rfl)<|dE<|aO (λc=>?_) (λc=>?_)
    .rw[length_map]at c;have c':a<qu.length:=by lia
     refine bg c' λX hX=>?_;have X8:=sp.lt X (aF hX);refine bg (l:=us) (i:=X) (by lia) λb hb=>?_;have Xn:X∉qu.take a:=λm=>by
      obtain⟨j,hj⟩:=U0.1 m;have jl:=av hj;rw[length_take]at jl;rw[getElem?_take,if_pos (by lia)]at hj;have:=(getElem?_inj (by lia) sp.nd).1 (hj.trans hX.symm);lia
     w_fin;refine aB (hh.get 0 rfl) (bf hX)<|aB (hh.get 1 rfl) (iz hb)<|bw (hh.getL hb) ?_;refine aU (I32_5 V G g kk fa la us ua qa uf o7 o8 a qu o6 X) ⟨fb,qu,lk,_,_,rfl,⟨[],by exact Eq.symm (append_nil _)⟩,sp,l5,λr l=>⟨_,hlk r l,by rfl⟩,hz,hh⟩ ?_ ?_
     .clear hh sp l5 hlk hz;rintro i Z V' y Fk hFk hy ⟨fb,qu',lk,o10,o11,rfl,hq,sp,l5,hlk,hz,hh⟩;refine⟨hh.getL hb,?_⟩;o_shape;refine kE hy λr hr eY=>?_;obtain rfl:=eY;have r5:=(uf5 X r (aF hr)).1;have l8:=(h.good.lhs8 r5).2;obtain⟨v,hv,hve⟩:=hlk r r5;pv_eval;have cle:((uf X).take (i+1)).count r<=(uf X).count r:=(take_sublist _ _).count_le _;have csp:=yY (ae G r) (qu.take a) X Xn;have ct:∀r',((uf X).take (i+1)).count r'=((uf X).take i).count r'+(if r=r' then 1 else 0):=λr'=>by
       refine O take_add_one (O hr (O count_append ?_));simp[List.count_cons]
      have v1:0<v:=by rw[ct r,if_pos rfl,cu' X r]at cle;lia
      w_fin;refine aB (hh.get 2 rfl) (bf hv)<|fX ?_;have ev:((v:Int) -1)=((v -1:Nat):Int):=(ofNat_sub v1).symm;refine O ev (fW (hh.get 2 rfl) (by lia) ?_);have h2:=hh.put 2 (o':=.list (nl (lk.set r (v -1)))) rfl;have gr:=h.mono h2.ext;obtain⟨c0,hc,hc0⟩:=gr.ruleGet r5;w_fin;refine ag gr.obj rfl<|aB gr.rules hc<|ag hc0 rfl ?_;have hv2:(lk.set r (v -1))[r]? =some (v -1):=by refine O c9 ?_;simp[l5,r5]
      have hlk2:∀r',r'<5->∃v',(lk.set r (v -1))[r']? =some v'/\v'+((uf X).take (i+1)).count r'=(ae G r').countP λy=>decide (y∉qu.take a):=λr' l'=>by
       by_cases e:r=r'
       .subst e;refine⟨_,hv2,?_⟩;refine O (ct r) (O (ax rfl) ?_);lia
       .obtain⟨v',e1,e2⟩:=hlk r' l';refine⟨v',by exact O c9 (O (ai e) e1),?_⟩;exact O (ct r') (O (ai e) e2)
      w_fin;refine aB (h2.get 2 rfl) (bf hv2)<|cV<|aO (λc=>?_) (λc=>?_)
      .refine aB (h2.get 3 rfl) (fR (sp.get l8)) ?_;refine cQ<|b9 (λd=>?_) (λd=>?_)
       .have nm:ah G r∉qu':=by simpa using d
        w_fin;refine zb (h2.get 3 rfl) (O sp.fl l8) ?_;have h3:=h2.put 3 (o':=.list (bl (fb.set (ah G r) true))) rfl;have ll:=cz sp.nd sp.lt;w_fin;refine⟨bz (h3.get 0 rfl),dY (h3.get 0 rfl) (by lia) ?_⟩;refine hFk _ _ ⟨_,_,_,_,_,rfl,?_,sp.push l8 nm,by simp[l5],hlk2,λr' l' e'=>?_,h3.put 0 rfl⟩
        .obtain⟨z,rfl⟩:=hq;exact⟨z++[ah G r],by exact cw _ _ _⟩
        .rw[mem_append];by_cases e:r=r'
         .subst e;right;simp
         .left;exact hz r' l' (Oe (ai e) (Oe c9 e'))
       .refine hFk _ _ ⟨_,_,_,_,_,rfl,hq,sp,by simp[l5],hlk2,λr' l' e'=>?_,h2⟩;by_cases e:r=r'
        .subst e;simpa using d
        .exact hz r' l' (Oe (ai e) (Oe c9 e'))
      .refine cJ ?_;refine hFk _ _ ⟨_,_,_,_,_,rfl,hq,sp,by simp[l5],hlk2,λr' l' e'=>?_,h2⟩;by_cases e:r=r'
       .subst e;rw[hv2]at e';exact absurd (by injection e' with e';exact O e' rfl) c
       .exact hz r' l' (Oe (ai e) (Oe c9 e'))
     .clear hh sp l5 hlk hz;rintro Z V' ⟨fb,qu',lk,o10,o11,rfl,hq,sp,l5,hlk,hz,hh⟩;refine⟨hh.getL hb,?_⟩;w_fin;refine de ?_;obtain⟨z,rfl⟩:=hq;have tk:(qu++z).take (a+1)=qu.take a++[X]:=by
       exact O (List.take_append_of_le_length (by lia)) (O take_add_one (O hX rfl))
      refine hFk _ _ ⟨8 -(a+1),?_,a+1,fb,qu++z,lk,_,_,_,rfl,rfl,by refine O bT ?_;lia,sp,l5,λr l=>?_,hz,hh⟩
      .have:=cz sp.nd sp.lt;rw[length_append]at this;exact yk (by lia)
      .o_shape;obtain⟨v,hv,e⟩:=hlk r l;pv_eval;refine O hv (O tk ?_);have:=yY (ae G r) (qu.take a) X Xn;rw[length_map,take_length,cu' X r]at e;congr 1;lia
    .rw[length_map]at c;have ea:a=qu.length:=by lia
     subst ea;w_fin;refine q fb fa V' hh.ext ⟨sp.fl,λr l he=>?_⟩ (hh.free 3 rfl) (hh.get 3 rfl);rw[sp.iff];refine hz r l ?_;refine O (hlk r l) (O take_length ?_);congr 1;rw[List.countP_eq_zero];intro x m;have:=(sp.iff x).1 (he x m)
     simpa using this
end
noncomputable def fo (nb:List Bool) (fm:List Nat):List Nat->Nat
 |[]=>0
 |x::xs=>(fm[x]?.getD 0)|||(if nb[x]? =some true then fo nb fm xs else 0)
theorem ji (nb:List Bool) (fm:List Nat) (x:Nat) (xs:List Nat):fo nb fm (x::xs)=(fm[x]?.getD 0)|||(if nb[x]? =some true then fo nb fm xs else 0):=rfl
theorem gN (ha:a<32) (hb:b<32):a|||b<32:=or_lt_two_pow (n:=5) ha hb
structure Msk (fm:List Nat):Prop where
 len:fm.length=8
 lt:∀x:Nat,fm[x]?.getD 0<32
theorem Msk.get (h:Msk fm) {x:Nat} (l:x<8):fm[x]? =some (fm[x]?.getD 0):=by
 refine bg (l:=fm) (i:=x) (h.len▸l) λv e=>?_;exact O e rfl
theorem Msk.set {fm:List Nat} (h:Msk fm) (l:v<32):Msk (fm.set x v):=by
 refine⟨by simp[h.len],λy=>?_⟩;refine O c9 ?_;split
 .split
  .exact l
  .decide
 .exact h.lt y
theorem GO (nb:List Bool) (h:Msk fm) (xs:List Nat):fo nb fm xs<32:=by
 induction xs with
 |nil=>exact(by decide:(0:Nat)<32)
 |cons x xs ih=>
  refine O (ji ..) (gN (h.lt x) ?_);split
  .exact ih
  .decide
structure FmOk (G:GG) (nb:List Bool) (fm:List Nat):Prop extends Msk fm where
 term:∀t,t<5->fm[t]? =some (1<<<t)
 cl:∀r,r<5->(fm[ah G r]?.getD 0)|||fo nb fm (ae G r)=fm[ah G r]?.getD 0
noncomputable def dy (fm:List Nat):Nat:=(fm.map λx=>32 -x).sum
theorem Bz (fm:List Nat):∀(x v w:Nat),fm[x]? =some w->w<v->w<32->dy (fm.set x v)<dy fm:=by
 induction fm with
 |nil=>intro y v w e;exact On getElem?_nil e
 |cons y fm ih=>
  intro x v w e l l2;rcases x with _|x
  .obtain rfl:=aP e;simp only[dy,List.set_cons_zero,map_cons,sum_cons];exact Nat.add_lt_add_right (Nat.sub_lt_sub_left l2 l) _
  .have:=ih x v w e l l2;simp only[dy,set_cons_succ,map_cons,sum_cons]at this⊢;exact add_lt_add_left this _
theorem CK {a b:Nat} (h:a|||b≠a):a<a|||b:=by
 have:=Nat.left_le_or (n:=a) (m:=b);exact(Nat.lt_or_gt_of_ne ‹_›).resolve_left (not_lt_of_le ‹_›)
section
variable{B:Bs} (hB:Base B) {n:Nat} {V:IH} {Q:QE} {G:GG} {g:Addr} {A:GA} (h:GrAt V G g A)
include hB h
theorem x9 (q:∀nb r V',Ext V V'->NulOk G nb->V r=none->V' r=some (.list (bl nb))->Q (.ref r) V'):CallOk B (n+2) 438 [.ref g] V Q:=by
 refine Fe hB ?_;w_fin;refine⟨by decide,λr hr=>?_⟩;have h1:=h.mono (Ext.new (o:=.list [.bool false]) hr);refine bk h1.obj rfl<|qW hB h1<|gX (bB _ _ _) (by decide) (by decide) λr2 hr2=>?_;have h2:=h1.mono (Ext.new (o:=.list (List.replicate (8:Int).toNat (.bool false))) hr2);refine TX hB h2 (bB _ _ _) λnb r3 V' e ok f g=>?_;have e1:=(Ext.new (o:=.list [.bool false]) hr).trans (Ext.new (o:=.list (List.replicate (8:Int).toNat (.bool false))) hr2);exact q nb r3 V' (e1.trans e) ok (e1.none f) g
omit h in
theorem TE {nb:List Bool} (hn:V na=some (.list (bl nb))) (nl8:nb.length=8) (hf:V fa=some (.list (nl fm))) (hm:Msk fm) (l8:∀x∈xs,x<8) (q:∀b,Q (.tup [.int (fo nb fm xs),.bool b]) V):
 CallOk B (n+1) 445 [.tup (nl xs),.ref na,.ref fa] V Q:=by
 refine Ff hB ?_;w_fin;w_fin;refine ja ?_;refine aU (λi Z V'=>E2 λm o4=>A3 (Z=[some (.tup (nl xs)),some (.ref na),some (.ref fa),some (.int (m:Nat)),o4]) (V'=V) (m|||fo nb fm (xs.drop i)=fo nb fm xs)) ⟨0,_,rfl,rfl,by simp⟩ ?_ ?_
 .rintro i Z V' y Fk hFk hy ⟨m,o4,rfl,eQ,hm2⟩;obtain rfl:=eQ.symm;refine⟨trivial,?_⟩;refine cZ hy λx hx=>?_;have x8:=l8 x (aF hx);refine bg (l:=nb) (i:=x) (Nat.lt_of_lt_of_eq ‹_› (Eq.symm ‹_›)) λb hb=>?_;w_fin;refine aB hf (bf (hm.get x8))<|dZ ?_;w_fin;refine aB hn (fR hb)<|cQ<|b9 (λd=>?_) (λd=>?_)
  .w_fin;refine⟨by decide,?_⟩;have:fo nb fm xs=m|||(fm[x]?.getD 0):=by
    refine Ob hm2 (O (List.drop_eq_getElem_cons (av hx)) ?_);have e:xs[i]'(av hx)=x:=by have:=c8 (av hx);exact(aP (Oe hx this)).symm
    exact O e (O (ji ..) (O hb (O (ai (by rcases b<;>simp_all)) (O (or_zero ..) rfl))))
   exact this▸q _
  .refine hFk _ _ ⟨_,_,rfl,rfl,?_⟩;refine Ob hm2 (O (List.drop_eq_getElem_cons (av hx)) ?_);have e:xs[i]'(av hx)=x:=by have:=c8 (av hx);exact(aP (Oe hx this)).symm
   exact O e (O (ji ..) (O hb (O (ax (by rcases b<;>simp_all)) (O (Nat.or_assoc ..) rfl))))
 .rintro Z V' ⟨m,o4,rfl,eQ,hm2⟩;obtain rfl:=eQ.symm;refine⟨trivial,?_⟩;w_fin;refine⟨by decide,?_⟩;rw[length_map,drop_length]at hm2;have:m=fo nb fm xs:=by exact Ob hm2 (or_zero _).symm
  exact this▸q _
theorem TD (q:∀nb fm r V',Ext V V'->NulOk G nb->FmOk G nb fm->V r=none->V' r=some (.list (nl fm))->Q (.ref r) V'):CallOk B (n+3) 452 [.ref g] V Q:=by
 refine Fg hB ?_;w_fin;refine x9 hB h λnb na V1 e1 ok f1 g1=>?_;have h1:=(H.nil (V:=V)).got e1 f1 g1;w_fin;refine⟨by decide,fK (.list (nl [])) h1 λfa V2 h2=>?_⟩;clear h1 f1 g1 e1;w_fin;refine bk (h.mono h2.ext).obj rfl<|qW hB (h.mono h2.ext)<|dF (k:=8) (by decide) ?_;refine aU (λi Z V'=>E1 λo3=>A2 (Z=[some (.ref g),some (.ref na),some (.ref fa),o3,none,none,none])<|
  H V V' [(fa,.list (nl ((List.range i).map λx=>if x<5 then 1<<<x else 0))),(na,.list (bl nb))]) ⟨_,rfl,h2⟩ ?_ ?_
 .rintro i Z V' y Fk hFk hy ⟨o3,rfl,hh⟩;refine⟨trivial,?_⟩;have i8:=av hy;rw[length_map,length_range]at i8;rw[getElem?_map,getElem?_range i8]at hy;obtain rfl:=aP hy;w_fin;refine⟨bz (hh.get 0 rfl),bk (h.mono hh.ext).obj rfl<|jz hB (h.mono hh.ext)<|cQ<|aO (λc=>?_) (λc=>?_)⟩
  .refine jd (by lia)<|bZ (hh.get 0 rfl) (by simp;lia) ?_;refine O (dB ..) (hFk _ _ ⟨_,rfl,?_⟩);have:=hh.put 0 (o':=.list (nl ((List.range (i+1)).map λx=>if x<5 then 1<<<x else 0))) rfl;rw[range_succ,map_append]at this⊢;simp only[map_cons,map_nil]at this⊢;rw[if_pos (by lia)]at this⊢;exact this
  .refine bZ (y:=.int ((0:Nat):Int)) (hh.get 0 rfl) (by simp;lia) ?_;refine O (dB ..) (hFk _ _ ⟨_,rfl,?_⟩);have:=hh.put 0 (o':=.list (nl ((List.range (i+1)).map λx=>if x<5 then 1<<<x else 0))) rfl;rw[range_succ,map_append]at this⊢;simp only[map_cons,map_nil]at this⊢;rw[if_neg (by lia)]at this⊢;exact this
 .clear h2;rintro Z V' ⟨o3,rfl,hh⟩;refine⟨trivial,?_⟩;w_fin;w_fin;refine gw (λk Z V'=>E4 λfm b o5 o6=>A5 (Z=[some (.ref g),some (.ref na),some (.ref fa),o3,some (.bool b),o5,o6]) (k=2*dy fm+(if b=true then 1 else 0)) (Msk fm/\∀t,t<5->fm[t]? =some (1<<<t)) (b=false->FmOk G nb fm)<|
   H V V' [(fa,.list (nl fm)),(na,.list (bl nb))]) ⟨_,_,_,_,_,rfl,rfl,⟨⟨rfl,λx=>?_⟩,λt l=>?_⟩,(λe=>by cases e),hh⟩ ?_
  .refine O aQ ?_;rcases lt_or_ge x 8 with l|l
   .refine O (getElem?_range (by simpa using l)) ?_;show(if x<5 then 1<<<x else 0)<32;exact(by decide:∀x<8,(if x<5 then 1<<<x else 0)<32) x l
   .exact O (dv (by simpa using l)) (by decide:(0:Nat)<32)
  .refine O aQ (O (getElem?_range (by simp;lia)) ?_);simp[l]
  .clear hh;rintro k Z V' Fk hFk ⟨fm,b,o5,o6,rfl,rfl,⟨hm,ht⟩,hb,hh⟩;w_left;refine cQ<|b9 (λc=>?_) (λc=>?_)
   .w_fin;w_fin;subst c;refine ag (h.mono hh.ext).obj rfl<|bw (h.mono hh.ext).rules ?_;refine aU (λi Z V'=>E4 λfm' b o5 o6=>A5 (Z=[some (.ref g),some (.ref na),some (.ref fa),o3,some (.bool b),o5,o6]) (Msk fm'/\∀t,t<5->fm'[t]? =some (1<<<t)) (b=true->dy fm'<dy fm) (b=false->fm'=fm/\∀r,r<i->(fm[ah G r]?.getD 0)|||fo nb fm (ae G r)=fm[ah G r]?.getD 0)<|
     H V V' [(fa,.list (nl fm')),(na,.list (bl nb))]) ⟨_,_,_,_,rfl,⟨hm,ht⟩,(λe=>by exact(bE e).elim),λ_=>⟨rfl,λr l=>by lia⟩,hh⟩ ?_ ?_
    .clear hh hm ht;rintro i Z V' y Fk hFk hy ⟨fm',b,o5,o6,rfl,⟨hm,ht⟩,hg,hn,hh⟩;have gr:=h.mono hh.ext;refine⟨gr.rules,?_⟩;refine gr.ruleAt hy λa i5 ha=>?_;have l8:=h.good.lhs8 i5;w_fin;refine ag ha rfl<|aB (hh.get 0 rfl) (bf (hm.get l8.2))<|ag ha rfl<|TE hB (hh.get 1 rfl) ok.len (hh.get 0 rfl) hm (λx m=>h.good.rhs8 m) λb2=>dp (k:=0) rfl<|dZ ?_;w_fin;refine ag ha rfl<|aB (hh.get 0 rfl) (bf (hm.get l8.2))<|fn<|aO (λc=>?_) (λc=>?_)
     .have c':(fm'[ah G i]?.getD 0)|||fo nb fm' (ae G i)≠fm'[ah G i]?.getD 0:=λe=>c (O e rfl);w_fin;refine ag ha rfl<|fW (hh.get 0 rfl) (O hm.len l8.2) ?_;w_fin;have m1:=Bz fm' _ _ _ (hm.get l8.2) (CK c') (hm.lt _);refine hFk _ _ ⟨_,_,_,_,rfl,⟨hm.set (gN (hm.lt _) (GO nb hm _)),λt l=>?_⟩,λ_=>?_,(λe=>by cases e),hh.put 0 rfl⟩
      .exact O c9 (O (ai (by lia)) (ht t l))
      .induction b with
       |true=>have:=hg rfl;lia
       |false=>obtain⟨e,_⟩:=hn rfl;obtain rfl:=e.symm;exact m1
     .refine hFk _ _ ⟨_,_,_,_,rfl,⟨hm,ht⟩,hg,λe=>?_,hh⟩;obtain⟨e,cl⟩:=hn e;obtain rfl:=e.symm;refine⟨rfl,λr l=>?_⟩;by_cases e:r=i
      .obtain rfl:=e.symm;exact Classical.not_not.1 λz=>c λe=>z (by lia)
      .exact cl r (by lia)
    .clear hh hm ht;rintro Z V' ⟨fm',b,o5,o6,rfl,⟨hm,ht⟩,hg,hn,hh⟩;refine⟨(h.mono hh.ext).rules,?_⟩;refine hFk _ _ ⟨_,?_,_,_,_,_,rfl,rfl,⟨hm,ht⟩,λe=>?_,hh⟩
     .induction b with
      |true=>have:=hg rfl;simp only[if_true];lia
      |false=>obtain⟨e,_⟩:=hn rfl;obtain rfl:=e.symm;simp
     .obtain⟨e,cl⟩:=hn e;obtain rfl:=e.symm;rw[length_map,h.rlen]at cl;exact⟨hm,ht,cl⟩
   .w_fin;exact q nb fm fa V' hh.ext ok (hb c) (hh.free 0 rfl) (hh.get 0 rfl)
end
noncomputable def bh (nb:List Bool) (fm:List Nat) (b0:Nat):List Nat->Nat
 |[]=>b0
 |x::xs=>if x<5 then fm[x]?.getD 0 else if nb[x]? =some true then bh nb fm b0 xs|||fm[x]?.getD 0 else fm[x]?.getD 0
theorem iV (nb:List Bool) (fm:List Nat) (b0 x:Nat) (xs:List Nat):bh nb fm b0 (x::xs)=if x<5 then fm[x]?.getD 0 else if nb[x]? =some true then bh nb fm b0 xs|||fm[x]?.getD 0 else fm[x]?.getD 0:=rfl
def gS (G:GG) (nb:List Bool) (fm fl:List Nat) (r j:Nat):Prop:=∀pre X suf,ae G r=pre++X::suf->suf.length<j->5<=X->(fl[X]?.getD 0)|||bh nb fm (fl[ah G r]?.getD 0) suf=fl[X]?.getD 0
structure FlOk (G:GG) (nb:List Bool) (fm fl:List Nat):Prop extends Msk fl where
 cl:∀r,r<5->gS G nb fm fl r (ae G r).length
section
variable{B:Bs} (hB:Base B) {n:Nat} {V:IH} {Q:QE} {G:GG} {g:Addr} {A:GA} (h:GrAt V G g A)
include hB h
theorem TH (q:∀nb nb2 fm fl r V',Ext V V'->NulOk G nb->NulOk G nb2->FmOk G nb2 fm->FlOk G nb fm fl->V r=none->V' r=some (.list (nl fl))->Q (.ref r) V'):CallOk B (n+4) 459 [.ref g] V Q:=by
 refine Fh hB ?_;w_fin;refine x9 hB h λnb na V1 e1 ok f1 g1=>?_;have h1:=(H.nil (V:=V)).got e1 f1 g1;w_fin;refine TD hB (h.mono h1.ext) λnb2 fm fa V2 e2 ok2 fok f2 g2=>?_;have h2:=h1.got e2 f2 g2;clear h1 e1 f1 g1 e2 f2 g2;w_fin;refine⟨by decide,λr hr=>?_⟩;have h3:=h2.call (Ext.new (o:=.list [.int 0]) hr);refine bk (h.mono h3.ext).obj rfl<|qW hB (h.mono h3.ext)<|gX (bB _ _ _) (by decide) (by decide) λla hla=>?_;have h4:=h3.new (.list (nl (List.replicate 8 0))) hla;have e0:∀s:IH,upd s la (.list (List.replicate (8:Int).toNat (.int 0)))=upd s la (.list (nl (List.replicate 8 0))):=λ_=>rfl;refine O (e0 ..) ?_;generalize upd (upd V2 r (.list [.int 0])) la (.list (nl (List.replicate 8 0)))=V3 at h4⊢;clear h3 h2 e0 hla hr;w_fin;w_fin;refine gw (λk Z V'=>E5 λfl b o5 o6 o7=>A5 (Z=[some (.ref g),some (.ref na),some (.ref fa),some (.ref la),some (.bool b),o5,o6,o7]) (k=2*dy fl+(if b=true then 1 else 0)) (Msk fl) (b=false->FlOk G nb fm fl)<|
  H V V' [(la,.list (nl fl)),(fa,.list (nl fm)),(na,.list (bl nb))]) ⟨_,_,_,_,_,_,rfl,rfl,⟨rfl,λx=>?_⟩,(λe=>by cases e),h4⟩ ?_
 .refine O getElem?_replicate ?_;split<;>decide
 .clear h4;rintro k Z V' Fk hFk ⟨fl,b,o5,o6,o7,rfl,rfl,hm,hb,hh⟩;w_left;refine cQ<|b9 (λc=>?_) (λc=>?_)
  .w_fin;w_fin;subst c;refine ag (h.mono hh.ext).obj rfl<|bw (h.mono hh.ext).rules ?_;refine aU (λi Z V'=>E5 λfl' b o5 o6 o7=>A5 (Z=[some (.ref g),some (.ref na),some (.ref fa),some (.ref la),some (.bool b),o5,o6,o7]) (Msk fl') (b=true->dy fl'<dy fl) (b=false->fl'=fl/\∀r,r<i->gS G nb fm fl r (ae G r).length)<|
    H V V' [(la,.list (nl fl')),(fa,.list (nl fm)),(na,.list (bl nb))]) ⟨_,_,_,_,_,rfl,hm,(λe=>by exact(bE e).elim),λ_=>⟨rfl,λr l=>by exact absurd ‹_› (not_lt_zero _)⟩,hh⟩ ?_ ?_
   .clear hh hm;rintro i Z V' y Fk hFk hy ⟨fl1,b1,o5,o6,o7,rfl,hm1,hg1,hn1,hh⟩;have gr:=h.mono hh.ext;refine⟨gr.rules,?_⟩;refine gr.ruleAt hy λa i5 ha=>?_;have l8:=h.good.lhs8 i5;w_fin;refine ag ha rfl<|aB (hh.get 0 rfl) (bf (hm1.get l8.2)) ?_;w_fin;refine ag ha rfl<|itI.revT _ rfl rfl ?_;refine aU (λj Z V'=>E5 λfl' b o7 bd pre=>E1 λsuf=>A9 (Z=[some (.ref g),some (.ref na),some (.ref fa),some (.ref la),some (.bool b),some (.ref a),some (.int (bd:Nat)),o7]) (ae G i=pre++suf) (suf.length=j) (bd<32) (Msk fl') (b=true->dy fl'<dy fl) (b=false->bd=bh nb fm (fl[ah G i]?.getD 0) suf)
     (b=false->fl'=fl/\(∀r,r<i->gS G nb fm fl r (ae G r).length)/\gS G nb fm fl i j)<|
     H V V' [(la,.list (nl fl')),(fa,.list (nl fm)),(na,.list (bl nb))]) ⟨fl1,b1,o7,_,_,[],rfl,(append_nil _).symm,rfl,hm1.lt _,hm1,hg1,λe=>?_,λe=>?_,hh⟩ ?_ ?_
    .obtain⟨e,_⟩:=hn1 e;obtain rfl:=e.symm;rfl
    .obtain⟨e,p⟩:=hn1 e;exact⟨e,p,λpre X suf _ l=>by exact absurd ‹_› (not_lt_zero _)⟩
    .clear hh hm1 hg1 hn1 gr ha;rintro j Z V' y Fk hFk hy ⟨fl2,b2,o7,bd,pre,suf,rfl,hsp,hj,hbd,hm2,hg2,hn2,hp2,hh⟩;refine⟨trivial,?_⟩;have hpre:∃(X:Nat) (pre':List Nat),pre=pre'++[X]/\y=.int (X:Int):=by
      have e1:(nl (ae G i)).reverse=nl suf.reverse++nl pre.reverse:=by refine O hsp ?_;simp[nl]
      rw[e1,getElem?_append_right (by simp[hj])]at hy;have e2:j -(nl suf.reverse).length=0:=by simp[hj]
      rw[e2]at hy;refine cZ hy λX hX=>?_;rcases eq_nil_or_concat pre with rfl|⟨p',z,rfl⟩
      .simp at hX
      .simp at hX;subst hX;exact⟨z,p',by simp,rfl⟩
     obtain⟨X,pre',rfl,rfl⟩:=hpre;have hsp':ae G i=pre'++X::suf:=by exact O hsp (O (cw ..) rfl)
     have x8:X<8:=h.good.rhs8 (r:=i) (by refine O hsp' ?_;simp);w_fin;refine bk (h.mono hh.ext).obj rfl<|jz hB (h.mono hh.ext)<|cQ<|aO (λc=>?_) (λc=>?_)
     .w_fin;refine aB (hh.get 1 rfl) (bf ((fok.toMsk).get x8)) ?_;w_fin;refine hFk _ _ ⟨fl2,b2,_,_,pre',X::suf,rfl,hsp',by simp[hj],fok.lt _,hm2,hg2,λe=>?_,λe=>?_,hh⟩
      .exact O (iV ..) (O (ax (ofNat_lt.1 ‹_›)) rfl)
      .obtain⟨e1,p,p2⟩:=hp2 e;refine⟨e1,p,λpp Y ss hs l l5=>?_⟩;by_cases le:ss.length<j
       .exact p2 pp Y ss hs le l5
       .have:pp=pre'/\Y::ss=X::suf:=by
         refine append_inj' (hs.symm.trans hsp') ?_;simp only[length_cons];lia
        obtain⟨_,e2⟩:=this
        cases e2;lia
     .refine bg (l:=nb) (i:=X) (ok.len▸x8) λbX hbX=>?_;have nxt:∀(b:Bool) (fl3:List Nat) (V'':IH) (o7:Option IV),Msk fl3->(b=true->dy fl3<dy fl)->(b=false->b2=false/\fl3=fl/\(fl[X]?.getD 0)|||bd=fl[X]?.getD 0)->H V V'' [(la,.list (nl fl3)),(fa,.list (nl fm)),(na,.list (bl nb))]->
       E5 λfl' b' o7 bq pre=>E1 λsuf=>A9 (([some (.ref g),some (.ref na),some (.ref fa),some (.ref la),some (.bool b),some (.ref a),some (.int ((if bX=true then bd|||(fm[X]?.getD 0)else fm[X]?.getD 0:Nat):Int)),some (.int (X:Nat))]:aL)=[some (.ref g),some (.ref na),some (.ref fa),some (.ref la),some (.bool b'),some (.ref a),some (.int (bq:Nat)),o7]) (ae G i=pre++suf) (suf.length=j+1) (bq<32) (Msk fl') (b'=true->dy fl'<dy fl) (b'=false->bq=bh nb fm (fl[ah G i]?.getD 0) suf)
        (b'=false->fl'=fl/\(∀r,r<i->gS G nb fm fl r (ae G r).length)/\gS G nb fm fl i (j+1))<|H V V'' [(la,.list (nl fl')),(fa,.list (nl fm)),(na,.list (bl nb))]:=by
       intro b fl3 V'' o7 m3 g3 n3 hh3;refine⟨fl3,b,_,_,pre',X::suf,rfl,hsp',by simp[hj],?_,m3,g3,λe=>?_,λe=>?_,hh3⟩
       .split
        .exact gN hbd (fok.lt _)
        .exact fok.lt _
       .obtain⟨e1,e2,e3⟩:=n3 e;refine O (hn2 e1) (O (iV ..) (O (ai (show¬X<5 by lia)) (O hbX ?_)));rcases bX<;>simp
       .obtain⟨e1,e2,e3⟩:=n3 e;obtain⟨_,p,p2⟩:=hp2 e1;refine⟨e2,p,λpp Y ss hs l l5=>?_⟩;by_cases le:ss.length<j
        .exact p2 pp Y ss hs le l5
        .have:pp=pre'/\Y::ss=X::suf:=by
          refine append_inj' (hs.symm.trans hsp') ?_;simp only[length_cons];lia
         obtain⟨_,e4⟩:=this
         cases e4
         exact hn2 e1▸e3
      w_fin;refine aB (hh.get 0 rfl) (bf (hm2.get x8))<|dZ ?_;refine aB (hh.get 0 rfl) (bf (hm2.get x8))<|fn<|aO (λd=>?_) (λd=>?_)
      .have d':(fl2[X]?.getD 0)|||bd≠fl2[X]?.getD 0:=λe=>d (O e rfl);w_fin;refine aB (hh.get 0 rfl) (bf (hm2.get x8))<|dZ<|fW (hh.get 0 rfl) (O hm2.len x8) ?_;have hh2:=hh.put 0 (o':=.list (nl (fl2.set X ((fl2[X]?.getD 0)|||bd)))) rfl;have m1:=Bz fl2 _ _ _ (hm2.get x8) (CK d') (hm2.lt _);have m2:dy (fl2.set X ((fl2[X]?.getD 0)|||bd))<dy fl:=by
        induction b2 with
        |true=>have:=hg2 rfl;exact lt_trans ‹_› ‹_›
        |false=>obtain⟨e,_⟩:=hp2 rfl;obtain rfl:=e.symm;exact m1
       have nx:=nxt true _ _ none (hm2.set (gN (hm2.lt _) hbd)) (λ_=>m2) (λe=>by cases e) hh2;w_fin;w_fin;refine aB (hh2.get 2 rfl) (fR hbX)<|cQ<|b9 (λz=>?_) (λz=>?_)
       .refine aB (hh2.get 1 rfl) (bf ((fok.toMsk).get x8))<|dZ ?_;rw[if_pos z]at nx;exact hFk _ _ nx
       .refine aB (hh2.get 1 rfl) (bf ((fok.toMsk).get x8)) ?_;rw[if_neg (by refine O z ?_;decide)]at nx;exact hFk _ _ nx
      .have nx:=nxt b2 _ _ none hm2 hg2 (λe=>⟨e,(hp2 e).1,by exact(hp2 e).1▸Classical.not_not.1 λz=>d λe=>z (ofNat_inj.1 ‹_›)⟩) hh;w_fin;refine aB (hh.get 2 rfl) (fR hbX)<|cQ<|b9 (λz=>?_) (λz=>?_)
       .refine aB (hh.get 1 rfl) (bf ((fok.toMsk).get x8))<|dZ ?_;rw[if_pos z]at nx;exact hFk _ _ nx
       .refine aB (hh.get 1 rfl) (bf ((fok.toMsk).get x8)) ?_;rw[if_neg (by refine O z ?_;decide)]at nx;exact hFk _ _ nx
    .clear hh hm1 hg1 hn1 gr ha;rintro Z V' ⟨fl2,b2,o7,bd,pre,suf,rfl,hsp,hj,hbd,hm2,hg2,hn2,hp2,hh⟩;refine⟨trivial,?_⟩;refine hFk _ _ ⟨fl2,b2,_,_,_,rfl,hm2,hg2,λe=>?_,hh⟩;obtain⟨e1,p,p2⟩:=hp2 e;refine⟨e1,λr l=>?_⟩;by_cases e:r=i
     .obtain rfl:=e.symm;rw[length_reverse,length_map]at p2;exact p2
     .exact p r (by lia)
   .clear hh hm;rintro Z V' ⟨fl',b,o5,o6,o7,rfl,hm,hg,hn,hh⟩;refine⟨(h.mono hh.ext).rules,?_⟩;refine hFk _ _ ⟨_,?_,_,_,_,_,_,rfl,rfl,hm,λe=>?_,hh⟩
    .induction b with
     |true=>have:=hg rfl;simp only[if_true];lia
     |false=>obtain⟨e,_⟩:=hn rfl;obtain rfl:=e.symm;simp
    .obtain⟨e,cl⟩:=hn e;obtain rfl:=e.symm;rw[length_map,h.rlen]at cl;exact⟨hm,cl⟩
  .w_fin;exact q nb nb2 fm fl la V' hh.ext ok ok2 fok (hb c) (hh.free 0 rfl) (hh.get 0 rfl)
end
noncomputable def iJ (l:List Nat) (m o:Nat):List Nat:=if((l[o]?.getD 0)>>>m)&&& 1=1 then l.set o ((l[o]?.getD 0)|||(l[m]?.getD 0))else l
noncomputable def d8 (l:List Nat) (m:Nat):Nat->List Nat
 | 0=>l
 |k+1=>iJ (d8 l m k) m k
theorem yo (l:List Nat) (m k:Nat):d8 l m (k+1)=iJ (d8 l m k) m k:=rfl
noncomputable def dz (l:List Nat):Nat->List Nat
 | 0=>l
 |k+1=>d8 (dz l k) k 8
theorem Vf (l:List Nat) (k:Nat):dz l (k+1)=d8 (dz l k) k 8:=rfl
theorem Vi (l:List Nat) (m o:Nat):(iJ l m o).length=l.length:=by unfold iJ;split<;>simp
theorem DH (l:List Nat) (m k:Nat):(d8 l m k).length=l.length:=by
 induction k with
 |zero=>rfl
 |succ k ih=>exact O (yo ..) (O (Vi ..) (O ih rfl))
theorem DE (l:List Nat) (k:Nat):(dz l k).length=l.length:=by
 induction k with
 |zero=>rfl
 |succ k ih=>exact O (Vf ..) (O (DH ..) (O ih rfl))
theorem gK {l:List Nat} {i:Nat} (h:i<l.length):l[i]? =some (l[i]?.getD 0):=by exact O (c8 h) rfl
@[elab_as_elim] theorem eI {k i:Nat} {C:IV->Prop} (e:((List.range k).map λi=>IV.int (i:Nat))[i]? =some y) (q:i<k->C (.int (i:Int))):C y:=by
  have l:=av e;rw[length_map,length_range]at l;rw[getElem?_map,getElem?_range l]at e;obtain rfl:=aP e;exact q l
theorem qT {k i:Nat} {C:Prop} (e:((List.range k).map λi=>IV.int (i:Nat))[i]? =some y) (q:i<k->y=.int (i:Int)->C):C:=eI (C:=λz=>y=z->C) e q rfl
section
variable{B:Bs} (hB:Base B) {n:Nat} {V:IH} {Q:QE}
include hB
theorem TY {l:List Nat} (hp:V p=some (.list (nl l))) (l8:l.length=8) (q:∀r,V r=none->Q (.ref r) (upd V r (.list (nl (dz l 8))))):CallOk B (n+1) 466 [.ref p] V Q:=by
 refine Fi hB ?_;w_fin;refine gH hp λr hr=>?_;have ll:∀l:List Nat,l.length=8->(nl l).length=8:=λl e=>by exact O (aE ..) (O e rfl)
 w_fin;refine cB (bB _ _ _) ?_;refine O (ll l l8) (dF (k:=8) (by decide) ?_);refine aU (λi Z V'=>E2 λo2 o3=>A2 (Z=[some (.ref p),some (.ref r),o2,o3]) (V'=upd V r (.list (nl (dz l i))))) ⟨_,_,rfl,rfl⟩ ?_ ?_
 .rintro i Z V' y Fk hFk hy ⟨o2,o3,rfl,rfl⟩;refine⟨trivial,?_⟩;refine eI hy λi8=>?_;w_fin;refine cB (bB _ _ _) ?_;refine O (ll _ (O (DE ..) (O l8 rfl))) (dF (k:=8) (by decide) ?_);refine aU (λj Z V'=>E1 λo3=>A2 (Z=[some (.ref p),some (.ref r),some (.int (i:Nat)),o3]) (V'=upd V r (.list (nl (d8 (dz l i) i j))))) ⟨_,rfl,rfl⟩ ?_ ?_
  .rintro j Z V' y Fk hFk hy ⟨o3,rfl,rfl⟩;refine⟨trivial,?_⟩;refine eI hy λj8=>?_;have hl:(d8 (dz l i) i j).length=8:=by exact O (DH ..) (O (DE ..) (O l8 rfl))
   w_fin;refine aB (bB _ _ _) (bf (gK (by lia:j<(d8 (dz l i) i j).length)))<|rM<|rI (b:=1)<|cV<|aO (λc=>?_) (λc=>?_)
   .have c':(((d8 (dz l i) i j)[j]?.getD 0)>>>i)&&& 1=1:=by exact ofNat_inj.1 ‹_›
    w_fin;refine aB (bB _ _ _) (bf (gK (by lia:j<(d8 (dz l i) i j).length)))<|aB (bB _ _ _) (bf (gK (by lia:i<(d8 (dz l i) i j).length)))<|dZ<|
     fV (bB _ _ _) (O (aE ..) (Nat.lt_of_lt_of_eq ‹_› (Eq.symm ‹_›))) ?_
    refine O (kG ..) (O (yp ..) (hFk _ _ ⟨_,rfl,?_⟩));refine O (yo ..) ?_;rw[iJ];exact O (ax c') rfl
   .have c':¬(((d8 (dz l i) i j)[j]?.getD 0)>>>i)&&& 1=1:=λz=>c (O z rfl);refine hFk _ _ ⟨_,rfl,?_⟩;refine O (yo ..) ?_;rw[iJ];exact O (ai c') rfl
  .rintro Z V' ⟨o3,rfl,rfl⟩;refine⟨trivial,?_⟩;exact O (aE ..) (O length_range (hFk _ _ ⟨_,_,rfl,rfl⟩))
 .rintro Z V' ⟨o2,o3,rfl,rfl⟩;refine⟨trivial,?_⟩;w_fin;exact O (aE ..) (O length_range (q r hr))
end
def dU (G:GG) (x y:Nat):Prop:=∃r,r<5/\ah G r=x/\(ae G r)[0]? =some y
def FstP (G:GG) (x y:Nat):Prop:=dU G x y\/(dU G x 6/\dU G 6 y)\/(dU G x 7/\dU G 7 y)
structure TlOk (G:GG) (tl:List Nat):Prop where
 len:tl.length=8
 lt:∀x:Nat,tl[x]?.getD 0<256
 low:∀x,x<5->tl[x]?.getD 0=0
 iff:∀x y,x=6\/x=7->((tl[x]?.getD 0).testBit y=true↔FstP G x y)
noncomputable def DF (a b:Nat):Bool:=
 let t:=dz [0,0,0,0,0,64,a,b] 8
 let t6:=t[6]?.getD 0
 let t7:=t[7]?.getD 0
 t.length==8&&t.all (λx=>decide (x<256))&&(List.range 5).all (λx=>t[x]?.getD 0==0)&&
  (List.range 8).all (λy=>t6.testBit y==(a.testBit y||(a.testBit 6&&a.testBit y)||(a.testBit 7&&b.testBit y)))&&
  (List.range 8).all (λy=>t7.testBit y==(b.testBit y||(b.testBit 6&&a.testBit y)||(b.testBit 7&&b.testBit y)))
noncomputable def some16:List Nat:=[0,8,16,24,64,72,80,88,128,136,144,152,192,200,208,216]
theorem Vg:(some16.all λa=>some16.all λb=>DF a b)=true:=by decide+kernel
theorem Dr:∀a,a<256->a&&& 39=0->a∈some16:=by
 have:(List.range 256).all (λa=> !(a&&& 39==0)||some16.contains a)=true:=by decide+kernel
 intro a l e;have:=hU.1 this a (mem_range.2 l)
 simpa[e]using this
structure RwOk (G:GG) (k:Nat) (rw:List Nat):Prop where
 len:rw.length=8
 iff:∀x y:Nat,(rw[x]?.getD 0).testBit y=true↔∃r,r<k/\ah G r=x/\(ae G r)[0]? =some y
theorem TlOk.of (g:Good G) (h:RwOk G 5 rw):TlOk G (dz rw 8):=by
 have z:∀x,x<5->rw[x]?.getD 0=0:=λx l=>Nat.eq_of_testBit_eq λy=>by
  refine O (zero_testBit ..) ?_
  induction e:(rw[x]?.getD 0).testBit y with
  |false=>rfl
  |true=>obtain⟨r,l5,e,_⟩:=(h.iff x y).1 e;have:=(g.lhs8 l5).1;lia
 have f:∀x y,(rw[x]?.getD 0).testBit y=true↔dU G x y:=h.iff;have r5:rw[5]?.getD 0=64:=Nat.eq_of_testBit_eq λy=>by
  have h5:dU G 5 y↔y=6:=by
   refine⟨λ⟨r,l,e,m⟩=>?_,λe=>⟨0,by decide,g.lhs0,by exact O g.rhs0 (O e rfl)⟩⟩;have:r=0:=by
    rcases dH r with z|z
    .exact z
    .clear m;revert e;refine jx z l (λe=>?_) (λe=>?_) (λe=>?_) λe=>?_
     .replace e:=Oe g.lhs1 e;lia
     .replace e:=Oe g.lhs2 e;lia
     .replace e:=Oe g.lhs3 e;lia
     .replace e:=Oe g.lhs4 e;lia
   rw[this,g.rhs0]at m;simpa using m.symm
  have:Nat.testBit 64 y=decide (y=6):=by
   have e64:(64:Nat)=2^6:=by decide
   refine O e64 (O testBit_two_pow ?_);simp[eq_comm]
  refine O this ?_;have:=f 5 y;rw[h5]at this
  induction e:(rw[5]?.getD 0).testBit y with
  |true=>simp[this.1 e]
  |false=>simp;intro e2;replace e:=Oe (this.2 e2) e;cases e
 have key:∀x,x=6\/x=7->rw[x]?.getD 0<256/\(rw[x]?.getD 0)&&& 39=0:=λx hx=>by
  have sy:∀y,dU G x y->y=3\/y=4\/y=6\/y=7:=λy ⟨r,l,e,m⟩=>by
   refine g.sym r y ?_ (aF m);rcases dH r with e0|e0
   .subst e0;replace e:=Oe g.lhs0 e;lia
   .exact e0
  refine⟨Nat.lt_pow_two_of_testBit (n:=8) _ λy l=>?_,Nat.eq_of_testBit_eq λy=>?_⟩
  .induction e:(rw[x]?.getD 0).testBit y with
   |false=>rfl
   |true=>have:=sy y ((f x y).1 e);lia
  .refine O (Nat.testBit_and ..) (O (zero_testBit ..) ?_)
   induction e:(rw[x]?.getD 0).testBit y with
   |false=>rfl
   |true=>
    rcases sy y ((f x y).1 e)with e|e|e|e<;>subst e<;>decide
 have hl:rw =[0,0,0,0,0,64,rw[6]?.getD 0,rw[7]?.getD 0]:=by
  apply ext_getElem?;intro i;rcases lt_or_ge i 8 with l|l
  .refine O (gK (show i<rw.length by exact h.len▸l)) ?_;rcases lt_or_ge i 5 with l5|l5
   .exact O (z i l5) ((cF (l₁:=[0,0,0,0,0]) (l₂:=[64,_,_]) l5).trans (CV (n:=5) (x:=0) l5)).symm
   .obtain rfl|rfl|rfl:i=5\/i=6\/i=7:=by lia
    .exact O r5 rfl
    .rfl
    .rfl
  .exact O (dv (h.len▸l)) (O (dv (by exact l)) rfl)
 have c:=hU.1 (hU.1 Vg _ (Dr _ (key 6 (.inl rfl)).1 (key 6 (.inl rfl)).2)) _ (Dr _ (key 7 (.inr rfl)).1 (key 7 (.inr rfl)).2);unfold DF at c;rw[<-hl]at c;simp only[and_eq_true,beq_iff_eq,all_eq_true,mem_range]at c;obtain⟨⟨⟨⟨c1,c2⟩,c3⟩,c4⟩,c5⟩:=c;have lt:∀x:Nat,(dz rw 8)[x]?.getD 0<256:=λx=>by
  induction e:(dz rw 8)[x]? with
  |none=>exact(by decide:(0:Nat)<256)
  |some v=>simpa using c2 v (aF e)
 have hi:∀(a y:Nat),a<256->8<=y->a.testBit y=false:=λa y l g=>Nat.testBit_lt_two_pow (lt_of_lt_of_le l (Nat.pow_le_pow_right (by decide:0<2) (show 8<=y from g)));refine⟨c1,lt,c3,λx y hx=>?_⟩;unfold FstP;rcases lt_or_ge y 8 with l|l
 .rcases hx with e|e<;>subst e
  .refine O (c4 y l) ?_;rw[<-f 6 y,<-f 6 6,<-f 6 7,<-f 7 y];simp[or_assoc]
  .refine O (c5 y l) ?_;rw[<-f 7 y,<-f 7 6,<-f 6 y,<-f 7 7];simp[or_assoc]
 .refine O (hi _ _ (lt x) l) ?_;rw[<-f x y,<-f x 6,<-f 6 y,<-f x 7,<-f 7 y];refine O (hi _ _ (key 6 (.inl rfl)).1 l) (O (hi _ _ (key 7 (.inr rfl)).1 l) ?_);have:(rw[x]?.getD 0).testBit y=false:=by
   rcases hx with e|e<;>subst e
   .exact hi _ _ (key 6 (.inl rfl)).1 l
   .exact hi _ _ (key 7 (.inr rfl)).1 l
  refine O this ?_;simp
structure CloserAt (V:IH) (G:GG) (g cl t:Addr) (tl:List Nat):Prop where
 obj:V cl=some (.inst 539 [(31,.ref g),(26,.ref t)])
 lst:V t=some (.list (nl tl))
 ok:TlOk G tl
theorem CloserAt.mono (h:CloserAt V G g cl t tl) (e:Ext V V'):CloserAt V' G g cl t tl:=⟨e _ _ h.obj,e _ _ h.lst,h.ok⟩
def IsC (G:GG) (c:Nat):Prop:=∃r d,VI G r d/\c=code G r d
theorem Rf (g:Good G) (r:Nat) (l:r<5):bU G r+(ae G r).length<20:=by
 have e:bU G 5<=20:=by
  simp only[fM];have:=g.len3 0;have:=g.len3 1;have:=g.len3 2;have:=g.len3 3;have:=g.len3 4;have z:bU G 0=0:=rfl;lia
 have:=CF G (i:=r+1) (j:=5) l;rw[fM]at this;exact lt_of_lt_of_le ‹_› ‹_›
theorem iY (g:Good G) (v:VI G r d):code G r d<20:=by
 have:=Rf g r v.1;have:=v.2;unfold code;lia
theorem IsC.lt (g:Good G) (h:IsC G c):c<20:=by obtain⟨r,d,v,rfl⟩:=h;exact iY g v
theorem j9 (l:List Nat):∃l':List Nat,cO (l.map λx:Nat=>(x:Int))=l'.map (λx:Nat=>(x:Int))/\l'.Perm l/\l'.Pairwise (· <= ·):=by
 have p:(cO (l.map λx:Nat=>(x:Int))).Perm (l.map λx:Nat=>(x:Int)):=List.mergeSort_perm _ _;have s:(cO (l.map λx:Nat=>(x:Int))).Pairwise (λa b=>decide (a<=b)=true):=List.pairwise_mergeSort (λa b c=>by simp;lia) (λa b=>by simp;lia) _;have e:((cO (l.map λx:Nat=>(x:Int))).map Int.toNat).map (λx:Nat=>(x:Int))=cO (l.map λx:Nat=>(x:Int)):=by
  refine O map_map ?_
  conv=>rhs;rw[<-map_id (cO (l.map λx:Nat=>(x:Int)))]
  apply List.map_congr_left;intro a m;have:=p.mem_iff.1 m;obtain⟨x,_,rfl⟩:=mem_map.1 this;simp
 refine⟨_,e.symm,?_,?_⟩
 .have:=p.map Int.toNat;rw[map_map]at this;have e2:(Int.toNat∘λx:Nat=>(x:Int))=id:=by funext x;simp
  rwa[e2,map_id]at this
 .rw[pairwise_map];exact s.imp λh=>Int.toNat_le_toNat (dT h)
theorem eW (l:List Nat):nl l=(l.map λx:Nat=>(x:Int)).map IV.int:=by rw[nl];exact O map_map rfl
theorem jV {xs:List Nat} (h:V p=some (.list (nl xs))) (l:xs.length<64) (q:∀l' r,l'.Perm xs->l'.Pairwise (· <= ·)->V r=none->Q (.ref r) (upd V r (.list (nl l')))):sortI (.ref p) Q V:=by
 refine GB h (eW xs) (O (aE ..) l) λr hr=>?_;obtain⟨l',e,p,s⟩:=j9 xs;exact O e (Ob (eW ..) (q l' r p s hr))
theorem GC {xs:List Nat} (l:xs.length<64) (q:∀l' r,l'.Perm xs->l'.Pairwise (· <= ·)->V r=none->Q (.ref r) (upd V r (.list (nl l')))):sortI (.tup (nl xs)) Q V:=by
 refine GD (eW xs) (O (aE ..) l) λr hr=>?_;obtain⟨l',e,p,s⟩:=j9 xs;exact O e (Ob (eW ..) (q l' r p s hr))
theorem Bw (l:List Nat) (x:Nat):(x:Int)∈l.map (λx:Nat=>(x:Int))↔x∈l:=by
 rw[mem_map];exact⟨λ⟨a,m,e⟩=>by have:a=x:=by exact ofNat_inj.1 ‹_›
                                exact this▸m,λm=>⟨x,m,rfl⟩⟩
theorem eO {V:IH} {K:QB} {p:Addr} {l:List Nat} {x:Nat} (h:V p=some (.list (nl l))) (q:K (decide (x∈l)) V):inI (.int (x:Int)) (.ref p) K V:=by
 refine Gj h (eW l) ?_;have:decide ((x:Int)∈l.map λx:Nat=>(x:Int))=decide (x∈l):=decide_eq_decide.2 (Bw l x);exact O this q
theorem Gm {V:IH} {K:QB} {l:List Nat} {x:Nat} (q:K (decide (x∈l)) V):inI (.int (x:Int)) (.tup (nl l)) K V:=by
 refine Go (eW l) ?_;have:decide ((x:Int)∈l.map λx:Nat=>(x:Int))=decide (x∈l):=decide_eq_decide.2 (Bw l x);exact O this q
theorem gT {r d x:Nat} (e:(ae G r)[d]? =some x):gC G r d=x:=by simp[gC,e]
theorem rg {r d:Nat} (e:(ae G r)[d]? =none):gC G r d= -1:=by simp[gC,e]
def gB (G:GG) (ks:List Nat) (y:Nat):Prop:=∃r d X,VI G r d/\code G r d∈ks/\(ae G r)[d]? =some X/\(y=X\/FstP G X y)
def Clo (G:GG) (ks:List Nat) (c:Nat):Prop:=c∈ks\/∃r,r<5/\gB G ks (ah G r)/\c=code G r 0
theorem D3 (g:Good G) (l:x<5):¬FstP G x y:=by
 have:∀y,¬dU G x y:=λy zq=>by obtain⟨r,l5,e,_⟩:=zq;have:=(g.lhs8 l5).1;lia
 rintro(h|h|h)
 .exact this _ h
 .exact this _ h.1
 .exact this _ h.1
theorem TlOk.bit (g:Good G) (h:TlOk G tl) {r d X y:Nat} (hr:(ae G r)[d]? =some X) (h0:0<r\/X≠5):(tl[X]?.getD 0).testBit y=true↔FstP G X y:=by
 have m:=aF hr;have:X<5\/X=6\/X=7:=by
  rcases dH r with e|e
  .subst e;rw[g.rhs0]at m;simp at m;lia
  .have:=g.sym r X e m;lia
 rcases this with l|l
 .refine O (h.low X l) ?_;simp[D3 g l]
 .exact h.iff X y l
section
variable{B:Bs} (hB:Base B) {n:Nat} {V:IH} {Q:QE} {G:GG} {g:Addr} {A:GA} (h:GrAt V G g A)
include hB h
theorem Th (q:∀cl t tl V',TlOk G tl->H V V' [(cl,.inst 539 [(31,.ref g),(26,.ref t)]),(t,.list (nl tl))]->Q (.ref cl) V'):CallOk B (n+3) 539 [.ref g] V Q:=by
 refine fq hB (init:=515) (by decide) λp hp=>?_;refine Fm hB ?_;have h1:=(H.nil (V:=V)).new (.inst 539 []) hp;generalize upd V p (.inst 539 [])=V1 at h1⊢;w_fin;refine cW 0 [(31,.ref g)] h1 rfl rfl rfl λV2 h2=>?_;clear h1;w_fin;refine⟨by decide,λr hr=>?_⟩;have h3:=h2.call (Ext.new (o:=.list [.int 0]) hr);refine bk (h.mono h3.ext).obj rfl<|qW hB (h.mono h3.ext)<|gX (bB _ _ _) (by decide) (by decide) λra hra=>?_;have h4:=h3.new (.list (nl (List.replicate 8 0))) hra;have e0:∀s:IH,upd s ra (.list (List.replicate (8:Int).toNat (.int 0)))=upd s ra (.list (nl (List.replicate 8 0))):=λ_=>rfl;refine O (e0 ..) ?_;generalize upd (upd V2 r (.list [.int 0])) ra (.list (nl (List.replicate 8 0)))=V3 at h4⊢;clear h3 h2 e0 hra hr;w_fin;refine ag (h.mono h4.ext).obj rfl<|bw (h.mono h4.ext).rules ?_;refine aU (λk Z V'=>E2 λrw o3=>A2 (Z=[some (.ref p),some (.ref g),some (.ref ra),o3]) (RwOk G k rw /\H V V' [(ra,.list (nl rw)),(p,.inst 539 [(31,.ref g)])])) ⟨_,_,rfl,⟨rfl,λx y=>?_⟩,h4⟩ ?_ ?_
 .refine O getElem?_replicate ?_;split<;>simp
 .clear h4;rintro k Z V' y Fk hFk hy ⟨rw,o3,rfl,ok,hh⟩;have gr:=h.mono hh.ext;refine⟨gr.rules,?_⟩;refine gr.ruleAt hy λa k5 ha=>?_;have l8:=h.good.lhs8 k5;w_fin;refine ag ha rfl<|fw<|gD<|aO (λc=>?_) (λc=>?_)
  .rw[length_map]at c;refine bg (l:=ae G k) (i:=0) (ofNat_lt.1 ‹_›) λX hX=>?_;have x8:=h.good.rhs8 (aF hX);w_fin;refine ag ha rfl<|aB (hh.get 0 rfl) (bf (gK (O ok.len l8.2)))<|ag ha rfl<|dp (k:=0) (bf hX)<|jd (by lia)<|dZ<|ag ha rfl<|
    fW (hh.get 0 rfl) (O ok.len l8.2) ?_
   refine hFk _ _ ⟨_,_,rfl,⟨by simp[ok.len],λx y=>?_⟩,hh.put 0 rfl⟩;refine O c9 (O ok.len ?_);by_cases e:ah G k=x
   .subst e;refine O (ax rfl) (O (ax l8.2) (O getD_some (O (testBit_or ..) (O (or_eq_true ..) ?_))));rw[ok.iff];refine O (one_shiftLeft ..) (O testBit_two_pow ?_);constructor
    .rintro(⟨r,l,e,f⟩|e)
     .exact⟨r,by exact lt_succ_of_lt ‹_›,e,f⟩
     .exact⟨k,by exact lt_succ_self _,rfl,by exact O hX (O (dT e) rfl)⟩
    .rintro⟨r,l,e,f⟩;by_cases z:r=k
     .obtain rfl:=z.symm;right;obtain rfl:=Os hX f;simp
     .exact .inl ⟨r,by lia,e,f⟩
   .refine O (ai e) ?_;rw[ok.iff];constructor
    .rintro⟨r,l,e,f⟩;exact⟨r,by exact lt_succ_of_lt ‹_›,e,f⟩
    .rintro⟨r,l,e2,f⟩;by_cases z:r=k
     .obtain rfl:=z.symm;exact absurd e2 e
     .exact⟨r,by lia,e2,f⟩
  .refine hFk _ _ ⟨_,_,rfl,⟨ok.len,λx y=>?_⟩,hh⟩;rw[ok.iff];constructor
   .rintro⟨r,l,e,f⟩;exact⟨r,by exact lt_succ_of_lt ‹_›,e,f⟩
   .rintro⟨r,l,e2,f⟩;by_cases z:r=k
    .obtain rfl:=z.symm;have:=av f;rw[length_map]at c;lia
    .exact⟨r,by lia,e2,f⟩
 .clear h4;rintro Z V' ⟨rw,o3,rfl,ok,hh⟩;rw[length_map,h.rlen]at ok;refine⟨(h.mono hh.ext).rules,?_⟩;w_fin;refine TY hB (hh.get 0 rfl) ok.len λt ht=>?_;have h5:=hh.new (.list (nl (dz rw 8))) ht;refine cp (h5.get 2 rfl) (by decide) (aG rfl) ?_;have h6:=h5.put 2 (o':=.inst 539 (aK [(31,.ref g)] 26 (.ref t))) rfl;exact⟨rfl,q p t _ _ (.of h.good ok) ((h6.sub (l':=[(t,_),(p,_)]) (.cons_cons _ (.cons _ (.refl _)))).perm (.swap _ _ _))⟩
variable{cl t:Addr} {tl:List Nat} (hc:CloserAt V G g cl t tl)
theorem TZ (hc:CloserAt V G g cl t tl) (hk:∀c∈ks,IsC G c) (q:∀m:Nat,m<256->(∀y,m.testBit y=true↔gB G ks y)->Q (.int (m:Int)) V):CallOk B (n+2) 522 [.ref cl,.tup (nl ks)] V Q:=by
 refine Fn hB ?_;w_fin;w_fin;refine ja ?_;refine aU (λi Z V'=>E3 λm o3 o4=>A4 (Z=[some (.ref cl),some (.tup (nl ks)),some (.int (m:Nat)),o3,o4]) (V'=V) (m<256) (∀y,m.testBit y=true↔gB G (ks.take i) y)) ⟨0,_,_,rfl,rfl,by decide,λy=>?_⟩ ?_ ?_
 .refine O (zero_testBit ..) (O List.take_zero ⟨(λe=>by exact(bE e).elim),λzq=>by obtain⟨_,_,_,_,m,_⟩:=zq;cases m⟩)
 .rintro i Z V' y Fk hFk hy ⟨m,o3,o4,rfl,eQ,ml,mi⟩;obtain rfl:=eQ.symm;refine⟨trivial,?_⟩;refine cZ hy λc hci=>?_;obtain⟨r,d,v,rfl⟩:=hk c (aF hci);have tk:ks.take (i+1)=ks.take i++[code G r d]:=by exact O take_add_one (O hci rfl)
  have wn:∀y,gB G (ks.take (i+1)) y↔gB G (ks.take i) y\/∃X,(ae G r)[d]? =some X/\(y=X\/FstP G X y):=λy=>by
   refine O tk ?_;constructor
   .rintro⟨r',d',X,v',mm,e,f⟩;rcases Uo.1 mm with mm|mm
    .exact .inl ⟨r',d',X,v',mm,e,f⟩
    .obtain⟨eQ,rfl⟩:=dX v' v (VX.1 mm);obtain rfl:=eQ.symm;exact .inr ⟨X,e,f⟩
   .rintro(⟨r',d',X,v',mm,e,f⟩|⟨X,e,f⟩)
    .exact⟨r',d',X,v',bM _ mm,e,f⟩
    .exact⟨r,d,X,v,by exact dJ,e,f⟩
  w_fin;refine ag hc.obj rfl<|bk h.obj rfl<|xX hB h v ?_;w_fin;refine gU<|aO (λc=>?_) (λc=>?_)
  .induction hX:(ae G r)[d]? with
   |none=>rw[rg hX]at c;exact absurd c (by decide)
   |some X=>
    have x8:=h.good.rhs8 (aF hX);refine O (gT hX) ?_;w_fin;refine jd (by lia)<|dZ<|ag hc.obj rfl<|aB hc.lst (bf (gK (O hc.ok.len x8)))<|dZ ?_;refine hFk _ _ ⟨_,_,_,rfl,rfl,?_,λy=>?_⟩
    .refine or_lt_two_pow (n:=8) (or_lt_two_pow (n:=8) ml ?_) (hc.ok.lt _);exact O (one_shiftLeft ..) (Nat.pow_lt_pow_right (by decide) x8)
    .have hb:(tl[X]?.getD 0).testBit y=true↔FstP G X y:=hc.ok.bit h.good hX (by
      rcases dH r with e|e
      .subst e;right;have:=aF hX;rw[h.good.rhs0]at this;simp at this;lia
      .exact .inl e)
     refine O (testBit_or ..) (O (testBit_or ..) (O (or_eq_true ..) (O (or_eq_true ..) ?_)));rw[mi,hb,wn];refine O (one_shiftLeft ..) (O testBit_two_pow (O hX ?_));constructor
     .rintro((a|a)|a)
      .exact .inl a
      .exact .inr ⟨X,rfl,.inl (dT a).symm⟩
      .exact .inr ⟨X,rfl,.inr a⟩
     .rintro(a|⟨X',e,a|a⟩)
      .exact .inl (.inl a)
      .obtain rfl:=aP e;obtain rfl:=a.symm;left;right;simp
      .obtain rfl:=aP e;exact .inr a
  .refine hFk _ _ ⟨_,_,_,rfl,rfl,ml,λy=>?_⟩;rw[mi,wn];refine⟨.inl,λa=>a.elim id λ⟨X,e,_⟩=>?_⟩;rw[gT e]at c;exact absurd (natCast_nonneg _) c
 .rintro Z V' ⟨m,o3,o4,rfl,eQ,ml,mi⟩;obtain rfl:=eQ.symm;refine⟨trivial,?_⟩;rw[length_map,take_length]at mi;w_fin;exact q m ml mi
end
theorem byx_mem:r∈bF G 5 x↔r<5/\ah G r=x:=by simp[bF]
theorem yR (G:GG) (x:Nat):(bF G 5 x).Nodup:=List.Pairwise.filter _ List.nodup_range
theorem c6 {l:List Nat} {i x:Nat} (e:l[i]? =some x):l.take (i+1)=l.take i++[x]:=by exact O take_add_one (O e rfl)
theorem fL {l:List Nat} (h:l.Nodup) {i x:Nat} (e:l[i]? =some x):x∉l.take i:=λm=>by
 obtain⟨j,hj⟩:=U0.1 m;have jl:=av hj;rw[length_take]at jl;rw[getElem?_take,if_pos ((lt_min.1 ‹_›).1)]at hj;have:=(getElem?_inj ((lt_min.1 ‹_›).2) h).1 (hj.trans e.symm);lia
theorem ie {l:List Nat} (h:l.Nodup) {x:Nat} (n:x∉l):(l++[x]).Nodup:=by
 rw[nodup_append];refine⟨h,by exact pairwise_singleton _ _,λa m b m'=>?_⟩;simp at m';subst m';rintro rfl;exact n m
theorem dW (l:r<5):VI G r 0:=⟨l,zero_le _⟩
theorem gA {r d x:Nat} (v:VI G r d) (e:(ae G r)[d]? =some x):VI G r (d+1):=⟨v.1,av e⟩
section
variable{B:Bs} (hB:Base B) {n:Nat} {V:IH} {Q:QE} {G:GG} {g:Addr} {A:GA} (h:GrAt V G g A)
include hB h
theorem To (hc:CloserAt V G g cl t tl) (hk:∀c∈ks,IsC G c)
 (q:∀l r V',Ext V V'->l.Nodup->(∀c,c∈l↔c∉ks/\∃r,r<5/\gB G ks (ah G r)/\c=code G r 0)->V r=none->V' r=some (.list (nl l))->Q (.ref r) V'):CallOk B (n+3) 529 [.ref cl,.tup (nl ks)] V Q:=by
 refine Fp hB ?_;w_fin;refine⟨by decide,λfa hfa=>?_⟩;have h1:=(H.nil (V:=V)).new (.list (nl [])) hfa;have e0:upd V fa (.list [])=upd V fa (.list (nl [])):=rfl;refine O e0 ?_;generalize upd V fa (.list (nl []))=V1 at h1⊢;clear e0 hfa;w_fin;refine bk (hc.mono h1.ext).obj rfl<|TZ hB (h.mono h1.ext) (hc.mono h1.ext) hk λm ml mi=>qU hB (lt_trans ml (by decide)) λxs ba bo hba=>?_;have h2:=h1.new (.list (nl xs)) hba;generalize upd V1 ba (.list (nl xs))=V2 at h2⊢;clear h1 hba;have xm:∀y,y∈xs↔gB G ks y:=λy=>(bo.mem).trans (mi y);have x8:=bo.len (k:=8) ml;have xn:=bo.nodup;refine bw (h2.get 0 rfl) ?_;have lt:∀(l:List Nat) (P:Nat->Prop),(∀c,c∈l↔c∉ks/\∃r,r<5/\P r/\c=code G r 0)->∀c∈l,c<20:=λl P hl c m=>by
  obtain⟨_,r,l5,_,rfl⟩:=(hl c).1 m;exact iY h.good (dW l5)
 refine aU (λi Z V'=>E4 λl o3 o4 o5=>A3 (Z=[some (.ref cl),some (.tup (nl ks)),some (.ref fa),o3,o4,o5]) (l.Nodup/\∀c,c∈l↔c∉ks/\∃r,r<5/\ah G r∈xs.take i/\c=code G r 0)<|
  H V V' [(ba,.list (nl xs)),(fa,.list (nl l))]) ⟨[],_,_,_,rfl,⟨nodup_nil,λc=>⟨(λm=>by cases m),λzq=>by obtain⟨_,_,_,m,_⟩:=zq;cases m⟩⟩,h2⟩ ?_ ?_
 .clear h2;rintro i Z V' y Fk hFk hy ⟨l,o3,o4,o5,rfl,⟨nd,hl⟩,hh⟩;refine⟨hh.get 0 rfl,?_⟩;refine cZ hy λX hX=>?_;have X8:=x8 X (aF hX);w_fin;refine ag (hc.mono hh.ext).obj rfl<|bk (h.mono hh.ext).obj rfl<|Dl hB (h.mono hh.ext) X8 λra hra=>?_;have h2:=hh.new (.list (nl (bF G 5 X))) hra;generalize upd V' ra (.list (nl (bF G 5 X)))=V3 at h2⊢;clear hh hra;refine bw (h2.get 0 rfl) ?_;refine aU (λj Z V'=>E3 λl o4 o5=>A3 (Z=[some (.ref cl),some (.tup (nl ks)),some (.ref fa),some (.int (X:Nat)),o4,o5]) (l.Nodup/\∀c,c∈l↔c∉ks/\∃r,r<5/\(ah G r∈xs.take i\/r∈(bF G 5 X).take j)/\c=code G r 0)<|
   H V V' [(ra,.list (nl (bF G 5 X))),(ba,.list (nl xs)),(fa,.list (nl l))]) ⟨l,_,_,rfl,⟨nd,λc=>by rw[hl];simp⟩,h2⟩ ?_ ?_
  .clear h2 nd hl;rintro j Z V' y Fk hFk hy2 ⟨l,o4,o5,rfl,⟨nd,hl⟩,hh⟩;refine⟨hh.get 0 rfl,?_⟩;refine cZ hy2 λr hr=>?_;obtain⟨r5,rX⟩:=byx_mem.1 (aF hr);have tk:=c6 hr;w_fin;refine ag (hc.mono hh.ext).obj rfl<|bk (h.mono hh.ext).obj rfl<|xY hB (h.mono hh.ext) r5 ?_;have e0:(bU G r:Int)+0=(code G r 0:Nat):=by simp[code]
   refine O e0 ?_;w_fin;refine eE<|Gm<|b9 (λc=>?_) (λc=>?_)
   .have c':code G r 0∉ks:=by simpa using c
    have ll:=cz nd (lt l _ hl);w_fin;refine⟨bz (hh.get 2 rfl),dY (hh.get 2 rfl) (cn ‹_› (by decide)) ?_⟩;refine hFk _ _ ⟨_,_,_,rfl,⟨ie nd λm=>?_,λc=>?_⟩,hh.put 2 rfl⟩
    .obtain⟨_,r',r5',m,e⟩:=(hl _).1 m;obtain⟨rfl,_⟩:=dX (dW r5) (dW r5') e;rcases m with m|m
     .rw[rX]at m;exact fL xn hX m
     .exact fL (yR G X) hr m
    .rw[mem_append,hl];refine O tk ?_;constructor
     .rintro(⟨a,r',l5,m,e⟩|m)
      .exact⟨a,r',l5,m.imp id (bM _),e⟩
      .have m:c=code G r 0:=by exact VX.1 m
       subst m;exact⟨c',r,r5,.inr (dJ),rfl⟩
     .rintro⟨a,r',l5,m|m,e⟩
      .exact .inl ⟨a,r',l5,.inl m,e⟩
      .rcases Uo.1 m with m|m
       .exact .inl ⟨a,r',l5,.inr m,e⟩
       .have m:r'=r:=by exact VX.1 m
        obtain rfl:=m.symm;right;simp[e]
   .have c':code G r 0∈ks:=by simpa using c
    refine hFk _ _ ⟨_,_,_,rfl,⟨nd,λc=>?_⟩,hh⟩;rw[hl];refine O tk ?_;constructor
    .rintro⟨a,r',l5,m,e⟩;exact⟨a,r',l5,m.imp id (bM _),e⟩
    .rintro⟨a,r',l5,m|m,e⟩
     .exact⟨a,r',l5,.inl m,e⟩
     .rcases Uo.1 m with m|m
      .exact⟨a,r',l5,.inr m,e⟩
      .have m:r'=r:=by exact VX.1 m
       obtain rfl:=m.symm;rw[e]at a;exact absurd c' a
  .clear h2 nd hl;rintro Z V' ⟨l,o4,o5,rfl,⟨nd,hl⟩,hh⟩;refine⟨hh.get 0 rfl,?_⟩;rw[length_map,take_length]at hl;refine hFk _ _ ⟨_,_,_,_,rfl,⟨nd,λc=>?_⟩,hh.drop⟩;rw[hl];refine O (c6 hX) ?_;constructor
   .rintro⟨a,r',l5,m|m,e⟩
    .exact⟨a,r',l5,bM _ m,e⟩
    .exact⟨a,r',l5,by refine O (byx_mem.1 m).2 ?_;simp,e⟩
   .rintro⟨a,r',l5,m,e⟩;rcases Uo.1 m with m|m
    .exact⟨a,r',l5,.inl m,e⟩
    .exact⟨a,r',l5,.inr (byx_mem.2 ⟨l5,by exact VX.1 m⟩),e⟩
 .clear h2;rintro Z V' ⟨l,o3,o4,o5,rfl,⟨nd,hl⟩,hh⟩;refine⟨hh.get 0 rfl,?_⟩;rw[length_map,take_length]at hl;have ll:=cz nd (lt l _ hl);w_fin;refine jV (hh.get 1 rfl) (cn ‹_› (by decide)) λl' r p s hr=>?_;have h3:=hh.new (.list (nl l')) hr;refine q l' r _ h3.ext (p.nodup_iff.2 nd) (λc=>?_) (h3.free 0 rfl) (h3.get 0 rfl);rw[p.mem_iff,hl];exact⟨λzq=>by obtain⟨a,r',l5,m,e⟩:=zq;exact⟨a,r',l5,(xm _).1 m,e⟩,λzq=>by obtain⟨a,r',l5,m,e⟩:=zq;exact⟨a,r',l5,(xm _).2 m,e⟩⟩
theorem Ts (hc:CloserAt V G g cl t tl) {ks:List Nat} (hk:∀c∈ks,IsC G c) (kn:ks.Nodup)
 (q:∀l r V',Ext V V'->l.Nodup->(∀c,c∈l↔Clo G ks c)->V r=none->V' r=some (.list (nl l))->Q (.ref r) V'):CallOk B (n+4) 536 [.ref cl,.tup (nl ks)] V Q:=by
 refine Fq hB ?_;have kl:=cz kn λc m=>(hk c m).lt h.good;w_fin;refine GC (cn ‹_› (by decide)) λl1 r1 p1 _ hr1=>?_;have h1:=(H.nil (V:=V)).new (.list (nl l1)) hr1;refine bk (hc.mono h1.ext).obj rfl<|To hB (h.mono h1.ext) (hc.mono h1.ext) hk λl2 r2 V2 e2 nd2 m2 f2 g2=>?_;have h2:=h1.got e2 f2 g2;have l2l:l2.length<=20:=cz nd2 λc m=>by
  obtain⟨_,r,l5,_,rfl⟩:=(m2 c).1 m;exact iY h.good (dW l5)
 have l1l:=p1.length_eq;refine y7 (h2.get 1 rfl) (h2.get 0 rfl) (by refine O (aE ..) (O (aE ..) ?_);lia) λz hz=>?_;have e3:nl l1++nl l2=nl (l1++l2):=by simp[nl]
 refine O e3 ?_;have h3:=h2.new (.list (nl (l1++l2))) hz;refine q (l1++l2) z _ h3.ext ?_ (λc=>?_) (h3.free 0 rfl) (h3.get 0 rfl)
 .rw[nodup_append];refine⟨p1.nodup_iff.2 kn,nd2,λa ma b mb e=>?_⟩;subst e;exact((m2 a).1 mb).1 (p1.mem_iff.1 ma)
 .rw[mem_append,p1.mem_iff,m2];unfold Clo;by_cases c1:c∈ks
  .simp[c1]
  .simp[c1]
theorem Tp {r d x:Nat} (v:VI G r d) (e:(ae G r)[d]? =some x) (q:Q (.int (code G r (d+1):Nat)) V):CallOk B (n+2) 550 [.ref g,.int (code G r d)] V Q:=by
 refine Fr hB ?_;w_fin;refine bk h.obj rfl<|bk h.obj rfl<|ya hB h v<|bk h.obj rfl<|Tw hB h v<|de<|xY hB h v.1 ?_;have e0:(bU G r:Int)+((d:Int)+1)=(code G r (d+1):Nat):=by simp only[code];rfl
 exact O e0 q
theorem Tt {is:List Nat} (hi:V ia=some (.list (nl is))) (hk:∀c∈is,IsC G c) (hn:is.Nodup) (il:is.length<64)
 (q:∀l r V',Ext V V'->l.length<64->l.Nodup->(∀c,c∈l↔c≠0/\c<5/\code G c (ae G c).length∈is)->V r=none->V' r=some (.list (nl l))->Q (.ref r) V'):CallOk B (n+2) 564 [.ref g,.ref ia] V Q:=by
 refine Ft hB ?_;w_fin;refine⟨by decide,λfa hfa=>?_⟩;have h1:=(H.nil (V:=V)).new (.list (nl [])) hfa;have e0:upd V fa (.list [])=upd V fa (.list (nl [])):=rfl;refine O e0 ?_;generalize upd V fa (.list (nl []))=V1 at h1⊢;clear e0 hfa;w_fin;refine bw (h1.ext _ _ hi) ?_;refine aU (λi Z V'=>E2 λl o3=>A4 (Z=[some (.ref g),some (.ref ia),some (.ref fa),o3]) (l.length<=i/\l.Nodup) (∀c,c∈l↔c≠0/\c<5/\code G c (ae G c).length∈is.take i)<|H V V' [(fa,.list (nl l))]) ⟨[],_,rfl,⟨aY _,nodup_nil⟩,λc=>by simp,h1⟩ ?_ ?_
 .clear h1;rintro i Z V' y Fk hFk hy ⟨l,o3,rfl,⟨ll,lnd⟩,hl,hh⟩;refine⟨hh.ext _ _ hi,?_⟩;refine cZ hy λc hci=>?_;have ii:=av hci;obtain⟨r,d,v,rfl⟩:=hk c (aF hci);have gr:=h.mono hh.ext;have tk:=c6 hci;have skip:(r=0\/d≠(ae G r).length)->∀c,c∈l↔c≠0/\c<5/\code G c (ae G c).length∈is.take (i+1):=λz c=>by
   rw[hl];refine O tk ?_;constructor
   .rintro⟨a,b,m⟩;exact⟨a,b,bM _ m⟩
   .rintro⟨a,b,m⟩;refine⟨a,b,(Uo.1 m).resolve_right λm=>?_⟩;obtain⟨eQ,e⟩:=dX ⟨b,aY _⟩ v (VX.1 m);obtain rfl:=eQ.symm;rcases z with z|z
    .exact a z
    .exact z e.symm
  w_fin;refine bk gr.obj rfl<|xX hB gr v<|dE<|aO (λc=>?_) (λc=>?_)
  .induction hX:(ae G r)[d]? with
   |some X=>rw[gT hX]at c;exact absurd c (by lia)
   |none=>
    have dl:d=(ae G r).length:=by have:=v.2;rw[List.getElem?_eq_none_iff]at hX;lia
    refine bk gr.obj rfl<|ya hB gr v<|fn<|aO (λc=>?_) (λc=>?_)
    .w_fin;refine⟨bz (hh.get 0 rfl),bk gr.obj rfl<|ya hB gr v<|dY (hh.get 0 rfl) (by lia) ?_⟩;refine hFk _ _ ⟨_,_,rfl,⟨by refine O bT ?_;simp only[length_cons,length_nil];lia,ie lnd λm=>fL hn hci (O dl ((hl r).1 m).2.2)⟩,λc=>?_,hh.put 0 rfl⟩;rw[mem_append,hl];refine O tk ?_;constructor
     .rintro(⟨a,b,m⟩|m)
      .exact⟨a,b,bM _ m⟩
      .have m:c=r:=by exact VX.1 m
       obtain rfl:=m.symm;exact⟨by lia,v.1,by refine Ob dl ?_;simp⟩
     .rintro⟨a,b,m⟩;rcases Uo.1 m with m|m
      .exact .inl ⟨a,b,m⟩
      .obtain⟨eQ,e⟩:=dX ⟨b,aY _⟩ v (VX.1 m);obtain rfl:=eQ.symm;right;simp
    .exact hFk _ _ ⟨_,_,rfl,⟨by lia,lnd⟩,skip (.inl (by lia)),hh⟩
  .refine cJ ?_;refine hFk _ _ ⟨_,_,rfl,⟨by lia,lnd⟩,skip (.inr λe=>?_),hh⟩;rw[rg (getElem?_eq_none (by lia))]at c;exact c (by decide)
 .clear h1;rintro Z V' ⟨l,o3,rfl,⟨ll,lnd⟩,hl,hh⟩;rw[length_map]at ll hl;rw[take_length]at hl;refine⟨hh.ext _ _ hi,?_⟩;w_fin;refine jV (hh.get 0 rfl) (by lia) λl' r p s hr=>?_;have h3:=hh.new (.list (nl l')) hr;exact q l' r _ h3.ext (by refine O p.length_eq ?_;lia) (p.nodup_iff.2 lnd) (λc=>by rw[p.mem_iff,hl]) (h3.free 0 rfl) (h3.get 0 rfl)
end
noncomputable def eu (ks:List Nat) (us:List Addr):List (Int×IV):=List.zipWith (λ(k:Nat) a=>((k:Int),IV.ref a)) ks us
theorem d6 {K:Type} [DecidableEq K] (k k':K) (v:IV) (l:List (K×IV)):aq ((k',v)::l) k=if k'=k then some v else aq l k:=by
 unfold aq;refine O find?_cons ?_;by_cases e:k'=k<;>simp[e]
theorem DW {ks:List Nat} {X:Nat}:∀{us:List Addr},X∉ks->aq (eu ks us) (X:Int)=none:=by
 induction ks with
 |nil=>intro us _;rfl
 |cons k ks ih=>
  intro us n;rcases us with _|⟨u,us⟩
  .rfl
  .rw[mem_cons,not_or]at n;exact(d6 ..).trans ((ai (by lia)).trans (ih n.2))
theorem yr {ks:List Nat}:∀{us:List Addr} {j:Nat},ks.Nodup->ks[j]? =some X->us[j]? =some a->aq (eu ks us) (X:Int)=some (.ref a):=by
 induction ks with
 |nil=>intro us j _ e;exact On getElem?_nil e
 |cons k ks ih=>
  intro us j nd e e';rcases us with _|⟨u,us⟩
  .exact On getElem?_nil e'
  .rcases j with _|j
   .obtain rfl:=aP e;obtain rfl:=aP e';exact(d6 ..).trans (ax rfl)
   .rw[nodup_cons]at nd;have m:X∈ks:=aF (i:=j) e;exact(d6 ..).trans ((ai λz=>nd.1 ((Int.ofNat.inj z:k=X)▸m)).trans (ih nd.2 e e'))
theorem eS {K:Type} [DecidableEq K] {l:List (K×IV)} {k:K} (h:aq l k=none):aK l k v=l++[(k,v)]:=by
 unfold aK;rw[if_neg];intro c;obtain⟨p,m,e⟩:=any_eq_true.1 c;unfold aq at h;rw[Option.map_eq_none_iff,find?_eq_none]at h;exact h p m e
theorem Vw {ks:List Nat} {us:List Addr} {X:Nat} {a:Addr} (l:ks.length=us.length):eu ks us++[((X:Int),IV.ref a)]=eu (ks++[X]) (us++[a]):=by
 unfold eu;exact O (List.zipWith_append l) rfl
theorem yu {α β γ:Type} {Vo:Type} {f:α->β->γ×Vo} {g:α->γ} (h:∀a b,(f a b).1=g a) {l:List α}:∀{m:List β},l.length=m.length->(List.zipWith f l m).map (·.1)=l.map g:=by
 induction l with
 |nil=>intro m _;rfl
 |cons a l ih=>
  intro m e;rcases m with _|⟨b,m⟩
  .rcases e
  .exact O List.zipWith_cons_cons (O map_cons (O map_cons (O (h ..) (O (ih (Nat.succ.inj e)) rfl))))
theorem D2 {α β γ:Type} {f:α->β->γ} {l:List α} {m:List β} {i:Nat} {a:α} {b:β} (e:l[i]? =some a) (e':m[i]? =some b):f a b∈List.zipWith f l m:=
 aF (i:=i) (O List.getElem?_zipWith (O e (O e' rfl)))
theorem Vv {ks:List Nat} {us:List Addr}:ks.length=us.length->(eu ks us).map (·.1)=ks.map λx:Nat=>(x:Int):=yu (f:=λ(k:Nat) a=>((k:Int),IV.ref a)) λ_ _=>rfl
theorem DV {ks:List Nat} {us:List Addr} (l:ks.length=us.length):(eu ks us).length=ks.length:=by
 unfold eu;refine O List.length_zipWith ?_;lia
theorem sd (us:List Addr) (f:Nat->List Nat) (a:Addr) (v:List Nat):aJ (us++[a]) (λy=>if y=us.length then v else f y)=aJ us f++[(a,.list (nl v))]:=by
 unfold aJ;refine O mapIdx_append ?_;congr 1
 .apply ext_getElem?;intro j;refine O getElem?_mapIdx (O getElem?_mapIdx ?_)
  induction e:us[j]? with
  |none=>rfl
  |some b=>have:=av e;simp[show¬j=us.length by lia]
 .simp
inductive KB (G:GG) (cs:List Nat) (X c:Nat):Prop
 |mk (r d:Nat) (v:VI G r d) (m:code G r d∈cs) (e:(ae G r)[d]? =some X) (f:c=code G r (d+1)):KB G cs X c
noncomputable def cY (ks:List Nat) (F:Nat->List Nat):List (Int×IV):=ks.map λX:Nat=>((X:Int),IV.tup (nl (F X)))
theorem Hu {ks:List Nat} {F:Nat->List Nat} {X:Nat} (m:X∈ks):aq (cY ks F) (X:Int)=some (.tup (nl (F X))):=by
 induction ks with
 |nil=>rcases m
 |cons k ks ih=>
  show aq (((k:Int),IV.tup (nl (F k)))::cY ks F) _=_;refine O (d6 ..) ?_;by_cases e:k=X
  .obtain rfl:=e.symm;exact O (ax rfl) rfl
  .exact O (ai (by lia)) (ih ((mem_cons.1 m).resolve_left λz=>e z.symm))
theorem Hv {ks:List Nat} {F:Nat->List Nat} {X:Nat} (m:X∉ks):aq (cY ks F) (X:Int)=none:=by
 induction ks with
 |nil=>rfl
 |cons k ks ih=>
  rw[mem_cons,not_or]at m;show aq (((k:Int),IV.tup (nl (F k)))::cY ks F) _=_;exact O (d6 ..) (O (ai (by lia)) (ih m.2))
def yz (V:IH) (G:GG) (g ia fa:Addr) (is:List Nat) (i:Nat) (Z:aL) (V':IH):Prop:=E6 λks us f ep o3 o4=>A5 (Z=[some (.ref g),some (.ref ia),some (.ref fa),o3,o4,none]) (ks.Nodup/\ks.length=us.length) (∀X,X∈ks↔∃c,KB G (is.take i) X c)
 (∀j X,ks[j]? =some X->(f j).Nodup/\∀c,c∈f j↔KB G (is.take i) X c)<|H V V' ([(fa,.idict (eu ks us) ep)]++aJ us f)
section
variable{B:Bs} (hB:Base B) {n:Nat} {V:IH} {Q:QE} {G:GG} {g:Addr} {A:GA} (h:GrAt V G g A)
include hB h
theorem TK {ia:Addr} {is:List Nat} (hi:V ia=some (.list (nl is))) (hk:∀c∈is,IsC G c) (hn:is.Nodup)
 (q:∀ks F r ep V',Ext V V'->ks.Nodup->(∀X,X∈ks↔∃c,KB G is X c)->(∀X∈ks,X<8/\(F X).Nodup/\(F X).Pairwise (· <= ·)/\∀c,c∈F X↔KB G is X c)->V r=none->V' r=some (.idict (cY ks F) ep)->Q (.ref r) V'):
 CallOk B (n+3) 557 [.ref g,.ref ia] V Q:=by
 refine Fs hB ?_;have kb8:∀cs X c,KB G cs X c->X<8:=λcs X c ⟨_,_,_,_,e,_⟩=>h.good.rhs8 (aF e);w_fin;refine λep0=>fK (.idict [] ep0) (H.nil (V:=V)) λfa V1 h1=>?_;w_fin;refine bw (h1.ext _ _ hi) ?_;refine aU (yz V G g ia fa is) ⟨[],[],λ_=>[],ep0,_,_,rfl,⟨nodup_nil,rfl⟩,λX=>⟨(λm=>by cases m),λ⟨c,r,d,v,m,_,_⟩=>by cases m⟩,λj X e=>(bv e),h1⟩ ?_ ?_
 .clear h1;rintro i Z V' y Fk hFk hy ⟨ks,us,f,ep,o3,o4,rfl,⟨nd,le⟩,hks,hf,hh⟩;refine⟨hh.ext _ _ hi,?_⟩;refine cZ hy λc hci=>?_;have tk:=c6 hci;have ni:=fL hn hci;obtain⟨r,d,v,rfl⟩:=hk c (aF hci);have gr:=h.mono hh.ext;have kbs:∀X c,KB G (is.take (i+1)) X c↔KB G (is.take i) X c\/((ae G r)[d]? =some X/\c=code G r (d+1)):=λX c=>by
   refine O tk ?_;constructor
   .rintro⟨r',d',v',m,e,f⟩;rcases Uo.1 m with m|m
    .exact .inl ⟨r',d',v',m,e,f⟩
    .obtain⟨eQ,eD⟩:=dX v' v (VX.1 m);rw[eQ,eD]at e f;exact .inr ⟨e,f⟩
   .rintro(⟨r',d',v',m,e,f⟩|⟨e,f⟩)
    .exact⟨r',d',v',bM _ m,e,f⟩
    .exact⟨r,d,v,by exact dJ,e,f⟩
  w_fin;refine bk gr.obj rfl<|xX hB gr v ?_;w_fin;refine gU<|aO (λcc=>?_) (λcc=>?_)
  .induction hX:(ae G r)[d]? with
   |none=>rw[rg hX]at cc;exact absurd cc (by decide)
   |some X=>
    refine O (gT hX) ?_;have x8:=h.good.rhs8 (aF hX);have kbn:¬KB G (is.take i) X (code G r (d+1)):=λ⟨r',d',v',m,e,f⟩=>by
     obtain⟨rfl,e2⟩:=dX (gA v hX) (gA v' e) f;have:d=d':=by lia
     subst this;exact ni m
    have k8:=cz nd λX m=>by obtain⟨c,z⟩:=(hks X).1 m;exact kb8 _ _ _ z
    have fin:∀(K:Kn),(∀Z s,yz V G g ia fa is (i+1) Z s->K.nx Z s)->∀(ks:List Nat) (us:List Addr) (f:Nat->List Nat) (ep:Nat) (V':IH) (j:Nat) (a:Addr),ks.Nodup->ks.length=us.length->(∀Y,Y∈ks↔(∃c,KB G (is.take i) Y c)\/Y=X)->(∀j Y,ks[j]? =some Y->(f j).Nodup/\∀c,c∈f j↔KB G (is.take i) Y c)->ks[j]? =some X->us[j]? =some a->
     H V V' ([(fa,.idict (eu ks us) ep)]++aJ us f)->az B (n+2) AF [some (.ref g),some (.ref ia),some (.ref fa),some (.int (code G r d:Nat)),some (.int (X:Nat)),none] K V':=by
     intro K hK ks us f ep V' j a nd le hks hf hj ha hh;have gr:=h.mono hh.ext;w_fin;refine fU (hh.get 0 rfl) (yr nd hj ha) ⟨bz (hh.getL ha),Tp hB gr v hX<|bZ (hh.getL ha) ?_ ?_⟩
     .have:=cz (hf j X hj).1 (N:=20) λc m=>by
       obtain⟨r',d',v',m,e,f⟩:=((hf j X hj).2 c).1 m;exact O f (iY h.good (gA v' e))
      refine O (aE ..) ?_;lia
     .refine O (dB ..) (hK _ _ ⟨ks,us,_,ep,_,_,rfl,⟨nd,le⟩,λY=>?_,λj' Y e=>?_,hh.putL ha _⟩)
      .rw[hks];constructor
       .rintro(⟨c,z⟩|rfl)
        .exact⟨c,(kbs _ _).2 (.inl z)⟩
        .exact⟨_,(kbs _ _).2 (.inr ⟨hX,rfl⟩)⟩
       .rintro⟨c,z⟩;rcases(kbs _ _).1 z with z|⟨e,_⟩
        .exact .inl ⟨c,z⟩
        .right;obtain rfl:=Os hX e;rfl
      .show(if j'=j then _ else f j').Nodup/\∀c,c∈(if j'=j then _ else f j')↔_;by_cases z:j'=j
       .subst z;obtain rfl:=Os hj e;refine O (ax rfl) ⟨ie (hf j' X hj).1 λm=>kbn (((hf j' X hj).2 _).1 m),λc=>?_⟩;rw[mem_append,(hf j' X hj).2,kbs];exact or_congr_right ⟨λm=>⟨hX,by exact VX.1 m⟩,λm=>by exact VX.2 m.2⟩
       .refine O (ai z) ⟨(hf j' Y e).1,λc=>?_⟩;rw[(hf j' Y e).2,kbs];refine⟨.inl,λw=>w.resolve_right λ⟨e2,_⟩=>z ?_⟩;obtain rfl:=Os hX e2;exact(getElem?_inj (av e) nd).1 (e.trans hj.symm)
    w_fin;refine eE<|rK (hh.get 0 rfl) ?_;by_cases mX:X∈ks
    .obtain⟨j,hj⟩:=U0.1 mX;refine bg (l:=us) (i:=j) (by have:=av hj;lia) λa ha=>?_;refine O (yr nd hj ha) (cJ ?_);exact fin _ hFk ks us f ep V' j a nd le (λY=>by rw[hks];exact⟨.inl,λz=>z.elim id λe=>e▸(hks X).1 mX⟩) hf hj ha hh
    .refine O (DW mX) (fx ?_);w_fin;refine⟨by decide,λr2 hr2=>?_⟩;have h2:=hh.new (.list (nl [])) hr2;refine gJ (h2.get 1 rfl) (by refine O (DV le) ?_;lia) λep'=>?_;refine O (eS (DW mX)) (O (Vw le) ?_);have h3:=h2.put 1 (o':=.idict (eu (ks++[X]) (us++[r2])) ep') rfl;have h4:=h3.perm (l':=[(fa,.idict (eu (ks++[X]) (us++[r2])) ep')]++aJ (us++[r2]) (λy=>if y=us.length then[]else f y)) (by
      exact O (sd ..) ((List.Perm.swap _ _ _).trans (.cons _ (dc (l₁:=[(r2,IO.list (nl []))])))))
     refine fin _ hFk (ks++[X]) (us++[r2]) _ ep' _ ks.length r2 (ie nd mX) (by simp[le]) (λY=>?_) (λj Y e=>?_) (getElem?_concat_length) (by refine O le ?_;simp) h4
     .rw[mem_append,hks,mem_singleton]
     .show(if j=us.length then _ else f j).Nodup/\∀c,c∈(if j=us.length then _ else f j)↔_;by_cases z:j=us.length
      .subst z;rw[<-le,getElem?_append_right (le_refl _)]at e;have e:Y=X:=by simpa using e.symm
       exact O (ax rfl) (O e ⟨nodup_nil,λc=>⟨λm=>(nomatch m),λw=>absurd ((hks X).2 ⟨c,w⟩) mX⟩⟩)
      .refine O (ai z) ?_;have:=av e;rw[length_append]at this;simp only[length_cons,length_nil]at this;exact hf j Y (Oe (cF (by lia)) e)
  .refine hFk _ _ ⟨ks,us,f,ep,_,_,rfl,⟨nd,le⟩,λX=>?_,λj X e=>⟨(hf j X e).1,λc=>?_⟩,hh⟩
   .rw[hks];refine⟨λ⟨c,z⟩=>⟨c,(kbs _ _).2 (.inl z)⟩,λ⟨c2,z⟩=>⟨c2,((kbs _ _).1 z).resolve_right λ⟨e,_⟩=>?_⟩⟩;rw[gT e]at cc;exact cc (by lia)
   .rw[(hf j X e).2];refine⟨λz=>(kbs _ _).2 (.inl z),λz=>((kbs _ _).1 z).resolve_right λ⟨e,_⟩=>?_⟩;rw[gT e]at cc;exact cc (by lia)
 .clear h1;rintro Z V' ⟨ks,us,f,ep,o3,o4,rfl,⟨nd,le⟩,hks,hf,hh⟩;rw[length_map,take_length]at hks hf;refine⟨hh.ext _ _ hi,?_⟩;have k8:=cz nd λX m=>by obtain⟨c,z⟩:=(hks X).1 m;exact kb8 _ _ _ z
  w_fin;intro ep1 oa hoa;have h2:=hh.new (.idict (cY [] λ_=>[]) ep1) hoa;have e0:upd V' oa (.idict [] ep1)=upd V' oa (.idict (cY [] λ_=>[]) ep1):=rfl;refine O e0 ?_;generalize upd V' oa (.idict (cY [] λ_=>[]) ep1)=V2 at h2⊢;clear hh hoa;w_fin;refine rO (h2.get 1 rfl) (by refine O (DV le) ?_;lia) λsa hsa=>?_;refine O (Vv le) (aj λ_ kX=>?_);obtain⟨ks',ek,pk,_⟩:=j9 ks;pv_eval;rw[ek,<-eW]at *;have h3:=h2.new (.list (nl ks')) hsa;have nd':=pk.nodup_iff.2 nd;refine bw (h3.get 0 rfl) ?_;refine aU (λi Z V'=>E3 λF ep1 o4=>A3 (Z=[some (.ref g),some (.ref ia),some (.ref fa),o3,o4,some (.ref oa)]) (∀X,X∈ks'.take i->(F X).Nodup/\(F X).Pairwise (· <= ·)/\∀c,c∈F X↔KB G is X c)<|
   H V V' ([(sa,.list (nl ks')),(oa,.idict (cY (ks'.take i) F) ep1),(fa,.idict (eu ks us) ep)]++aJ us f)) ⟨_,ep1,_,rfl,λX m=>(by cases m),h3⟩ ?_ ?_
  .clear h2 h3;rintro i Z V' y Fk hFk hy ⟨F,ep1,o4,rfl,hF,hh⟩;refine⟨hh.get 0 rfl,?_⟩;o_shape;refine kE hy λX hX eY=>?_;obtain rfl:=eY;have mX:=pk.mem_iff.1 (aF hX);obtain⟨j,hj⟩:=U0.1 mX;refine bg (l:=us) (i:=j) (by have:=av hj;lia) λa ha=>?_;pv_eval;have fl:=cz (hf j X hj).1 (N:=20) λc m=>by
    obtain⟨r',d',v',m,e,f⟩:=((hf j X hj).2 c).1 m;exact O f (iY h.good (gA v' e))
   have ni:=fL nd' hX;w_fin;refine fU (hh.get 2 rfl) (yr nd hj ha)<|jV (hh.getL ha) (by lia) λl' r p s hr=>rP (bB _ _ _) ?_;have h4:=hh.call (Ext.new (o:=.list (nl l')) hr);refine gJ (h4.get 1 rfl) (by have:=(take_sublist i ks').length_le;have:=pk.length_eq;rw[cY];refine O (aE ..) ?_;lia) λep'=>?_;refine O (eS (Hv ni)) ?_;have eF:cY (ks'.take i) F++[((X:Int),IV.tup (nl l'))]=cY (ks'.take (i+1)) (λY=>if Y=X then l' else F Y):=by
    refine O (c6 hX) ?_;rw[cY,cY];refine O bW ?_;congr 1
    .apply List.map_congr_left;intro Y mY;have:Y≠X:=by rintro rfl;exact ni mY
     simp[this]
    .simp
   refine O eF (hFk _ _ ⟨_,ep',_,rfl,λY mY=>?_,h4.put 1 rfl⟩);rw[c6 hX,mem_append,mem_singleton]at mY;show(if Y=X then l' else F Y).Nodup/\(if Y=X then l' else F Y).Pairwise (· <= ·)/\∀c,c∈(if Y=X then l' else F Y)↔_;by_cases z:Y=X
   .refine O z (O (ax rfl) ?_);exact⟨p.nodup_iff.2 (hf j X hj).1,s,λc=>by rw[p.mem_iff,(hf j X hj).2]⟩
   .exact O (ai z) (hF Y (mY.resolve_right z))
  .clear h2 h3;rintro Z V' ⟨F,ep1,o4,rfl,hF,hh⟩;rw[length_map,take_length]at hF hh;refine⟨hh.get 0 rfl,?_⟩;w_fin;exact q ks' F oa ep1 V' hh.ext nd' (λX=>by rw[pk.mem_iff,hks]) (λX m=>⟨by obtain⟨c,z⟩:=(hks X).1 (pk.mem_iff.1 m);exact kb8 _ _ _ z,hF X m⟩) (hh.free 1 rfl) (hh.get 1 rfl)
end
structure SG where
 sa:Addr
 ia:Addr
 ma:Addr
 ra:Addr
 ep:Nat
 kern:List Nat
 sym:Int
 its:List Nat
 mv:List (Nat×Nat)
 rd:List Nat
noncomputable def gj (i:Nat) (s:SG):List (Nat×IV):=[(54,.int i),(39,.tup (nl s.kern)),(78,.int s.sym),(37,.ref s.ia),(51,.ref s.ma),(64,.ref s.ra)]
noncomputable def bj (mv:List (Nat×Nat)):List (Int×IV):=mv.map λp=>((p.1:Int),IV.int (p.2:Nat))
noncomputable def df (i:Nat) (s:SG):List (Addr×IO):=[(s.sa,.inst 497 (gj i s)),(s.ia,.list (nl s.its)),(s.ma,.idict (bj s.mv) s.ep),(s.ra,.list (nl s.rd))]
noncomputable def cL (S:List SG):List (List Int×IV):=S.mapIdx λi s=>(s.kern.map λc:Nat=>(c:Int),IV.int (i:Nat))
structure BA where
 b:Addr
 cl:Addr
 t:Addr
 sl:Addr
 nd:Addr
 tl:List Nat
noncomputable def f9 (g:Addr) (a:BA) (sas:List Addr) (nu:List (List Int×IV)) (ep:Nat):List (Addr×IO):=
 [(a.b,.inst 658 [(31,.ref g),(14,.ref a.cl),(77,.ref a.sl),(57,.ref a.nd)]),(a.cl,.inst 539 [(31,.ref g),(26,.ref a.t)]),(a.t,.list (nl a.tl)),(a.sl,.list (sas.map IV.ref)),(a.nd,.tdict nu ep)]
noncomputable def iH (S:List SG):List (Addr×IO):=(S.mapIdx df).flatten
noncomputable def fr (g:Addr) (a:BA) (S:List SG) (ep:Nat):List (Addr×IO):=f9 g a (S.map (·.sa)) (cL S) ep++iH S
theorem eG {K:Type} [DecidableEq K] {l:List (K×IV)} {k:K} (e:aq l k=some v):(k,v)∈l:=by
 unfold aq at e;rw[map_eq_some_iff]at e;obtain⟨p,e,rfl⟩:=e;have h1:=List.mem_of_find?_eq_some e;have h2:=List.find?_some e;have h2:p.1=k:=by exact dT h2
 subst h2;exact h1
theorem hO {K:Type} [DecidableEq K] {l:List (K×IV)} {k:K} (e:aq l k=none):∀p∈l,p.1≠k:=by
 unfold aq at e;rw[Option.map_eq_none_iff,find?_eq_none]at e;intro p m z;exact e p m (decide_eq_true z)
theorem HH {fs:List (Nat×IV)} {f:Nat} {y:IV} (k:aq fs f=none):aK fs f y=fs++[(f,y)]:=by
 unfold aK;rw[if_neg];intro z;obtain⟨p,mp,e⟩:=any_eq_true.1 z;exact hO k p mp (dT e)
theorem Gz {fs:List (Nat×IV)} {Q:IH->Prop} (h:H V0 V ((p,.inst c fs)::l)) (o:eZ c f=true) (n:fs.length<100) (q:∀V',H V0 V' ((p,.inst c (aK fs f y))::l)->Q V'):setI (.ref p) f y Q V:=
 cp (h.get 0 rfl) o n (q _ (h.put 0 rfl))
theorem cX {V0 V:IH} {p c:Addr} {fs:List (Nat×IV)} {f:Nat} {y:IV} {l:List (Addr×IO)} {Q:IH->Prop} (h:H V0 V ((p,.inst c fs)::l)) (k:aq fs f=none) (o:eZ c f=true) (n:fs.length<100) (q:∀V',H V0 V' ((p,.inst c (fs++[(f,y)]))::l)->Q V'):setI (.ref p) f y Q V:=by
 refine cp (h.get 0 rfl) o n ?_;exact O (HH k) (q _ (h.put 0 rfl))
theorem PE {l m:List Nat} (h:l.map (λc:Nat=>(c:Int))=m.map (λc:Nat=>(c:Int))):l=m:=
 (List.map_inj_right λ_ _=>Int.ofNat.inj).1 h
theorem BH {S:List SG} {k:List Nat} (e:aq (cL S) (k.map λc:Nat=>(c:Int))=some v):∃j s,S[j]? =some s/\s.kern=k/\v=.int (j:Nat):=by
 have m:=eG e;obtain⟨j,hj⟩:=U0.1 m;rw[cL,getElem?_mapIdx]at hj
 induction hs:S[j]? with
 |none=>rw[hs]at hj;exact bv hj
 |some s=>
  rw[hs]at hj;have hj:=aP hj;exact⟨j,s,hs,PE (be Prod.fst hj),(be Prod.snd hj).symm⟩
theorem BG {S:List SG} {k:List Nat} (e:aq (cL S) (k.map λc:Nat=>(c:Int))=none):∀s∈S,s.kern≠k:=λs m z=>by
 obtain⟨j,hj⟩:=U0.1 m;refine hO e (s.kern.map λc:Nat=>(c:Int),IV.int (j:Nat)) (U0.2 ⟨j,?_⟩) (O z rfl);rw[cL];exact O getElem?_mapIdx (O hj rfl)
theorem Rd (S:List SG) (s:SG):cL (S++[s])=cL S++[(s.kern.map λc:Nat=>(c:Int),IV.int (S.length:Nat))]:=by
 unfold cL;refine O mapIdx_append ?_;simp
theorem UX (S:List SG) (s:SG):iH (S++[s])=iH S++df S.length s:=by
 unfold iH;refine O mapIdx_append (O List.flatten_append ?_);simp
theorem j6 (l:List Nat):cR (nl l)=some (l.map λc:Nat=>(c:Int)):=by exact O (eW ..) (O (gY ..) rfl)
theorem UW (S:List SG):∀(k:Nat) (s:SG) (f:Nat->Nat),S[k]? =some s->∃R,∀s',((S.set k s').mapIdx λi=>df (f i)).flatten.Perm (df (f k) s'++R):=by
 induction S with
 |nil=>intro k s f e;exact On getElem?_nil e
 |cons s0 S ih=>
  intro k s f e;rcases k with _|k
  .refine⟨(S.mapIdx λi=>df (f (i+1))).flatten,λs'=>?_⟩;rw[List.set_cons_zero,List.mapIdx_cons,List.flatten_cons]
  .obtain⟨R,hR⟩:=ih k s (λi=>f (i+1)) e;refine⟨df (f 0) s0++R,λs'=>?_⟩;refine O set_cons_succ (O List.mapIdx_cons (O List.flatten_cons ?_));exact((hR s').append_left _).trans (by
    exact Ob (cw ..) (Ob (cw ..) (dc.append_right _)))
theorem yd {α:Type} {l:List α} {i:Nat} {x:α} (e:l[i]? =some x):l.set i x=l:=by
 apply ext_getElem?;intro j;refine O c9 ?_;by_cases c:i=j
 .subst c;exact O (ax rfl) (O (ax (av e)) (O e rfl))
 .exact O (ai c) rfl
theorem su {α β:Type} (f:α->β) {l:List α} {i:Nat} {x y:α} (e:l[i]? =some x) (h:f y=f x):(l.set i y).map f=l.map f:=by
 exact O map_set (O h (O (yd (O aQ (O e rfl))) rfl))
theorem Rc {S:List SG} {k:Nat} {s s':SG} (e:S[k]? =some s) (h:s'.kern=s.kern):cL (S.set k s')=cL S:=by
 unfold cL;apply ext_getElem?;intro j;refine O getElem?_mapIdx (O getElem?_mapIdx (O c9 ?_));by_cases c:k=j
 .subst c;refine O (ax rfl) (O (ax (av e)) (O e ?_));simp[h]
 .exact O (ai c) rfl
theorem zl (g:Addr) (a:BA) {S:List SG} {k:Nat} {s:SG} (ep:Nat) (e:S[k]? =some s):∃R,∀s',s'.sa=s.sa->s'.kern=s.kern->(fr g a (S.set k s') ep).Perm (df k s'++(f9 g a (S.map (·.sa)) (cL S) ep++R)):=by
 obtain⟨R,hR⟩:=UW S k s id e;refine⟨R,λs' h1 h2=>?_⟩;unfold fr;refine O (su _ e h1) (O (Rc e h2) (((hR s').append_left _).trans ?_));exact Ob (cw ..) (Ob (cw ..) (dc.append_right _))
section
variable{B:Bs} (hB:Base B) {n:Nat} {V:IH} {Q:QE}
include hB
theorem Tj (q:∀s V',s.kern=kern->s.sym=sym->s.its=[]->s.mv=[]->s.rd=[]->H V V' (df i s)->Q (.ref s.sa) V'):CallOk B (n+2) 497 [.int (i:Nat),.tup (nl kern),.int sym] V Q:=by
 refine fq hB (init:=480) (by decide) λp hp=>?_;refine Fj hB ?_;have h1:=(H.nil (V:=V)).new (.inst 497 []) hp;w_fin;refine cp (h1.get 0 rfl) (by decide) (aG rfl) ?_;have h2:=h1.put 0 (o':=.inst 497 [(54,.int i)]) rfl;refine O (show aK [] 54 (IV.int i)=[(54,IV.int i)]from rfl) ?_;rw[yp]at *;generalize upd V p (.inst 497 [(54,.int i)])=V1 at h2⊢;w_fin;refine cW 0 [(54,.int i),(39,.tup (nl kern))] h2 rfl rfl rfl λV2 h3=>?_;w_fin;refine cW 0 [(54,.int i),(39,.tup (nl kern)),(78,.int sym)] h3 rfl rfl rfl λV3 h4=>?_;clear h1 h2 h3;w_fin;refine⟨by decide,λia hia=>?_⟩;have h5:=h4.new (.list (nl [])) hia;refine cW 1 [(54,.int i),(39,.tup (nl kern)),(78,.int sym),(37,.ref ia)] h5 rfl rfl rfl λV4 h6=>?_;clear h4 h5 hia;w_fin;intro ep ma hma;have h7:=h6.new (.idict (bj []) ep) hma;refine cW 2 [(54,.int i),(39,.tup (nl kern)),(78,.int sym),(37,.ref ia),(51,.ref ma)] h7 rfl rfl rfl λV5 h8=>?_;clear h6 h7 hma;w_fin;refine⟨by decide,λra hra=>?_⟩;have h9:=h8.new (.list (nl [])) hra;refine cp (h9.get 3 rfl) (by decide) (aG rfl) ?_;have h10:=h9.put 3 (o':=.inst 497 [(54,.int i),(39,.tup (nl kern)),(78,.int sym),(37,.ref ia),(51,.ref ma),(64,.ref ra)]) rfl;refine⟨rfl,q ⟨p,ia,ma,ra,ep,kern,sym,[],[],[]⟩ _ rfl rfl rfl rfl rfl (h10.perm ?_)⟩;exact(List.reverse_perm [(p,IO.inst 497 (gj i ⟨p,ia,ma,ra,ep,kern,sym,[],[],[]⟩)),(ia,IO.list (nl [])),(ma,IO.idict (bj []) ep),(ra,IO.list (nl []))])
theorem Dj {a:BA} {S:List SG} (hh:H V0 V (fr g a S ep++l)) (hl:S.length<999999)
 (q:∀S' k ep' V',(S'=S\/∃s,S'=S++[s]/\s.kern=kern/\s.its=[]/\s.mv=[]/\s.rd=[]/\∀s∈S,s.kern≠kern)->(∃s,S'[k]? =some s/\s.kern=kern)->H V0 V' (fr g a S' ep'++l)->Q (.int (k:Nat)) V'):
 CallOk B (n+3) 641 [.ref a.b,.tup (nl kern),.int sym] V Q:=by
 refine Fx hB ?_;have sl:((S.map (·.sa)).map IV.ref).length=S.length:=by simp
 w_fin;refine ag (hh.get 0 rfl) rfl<|eE<|Gn (hh.get 4 rfl) (j6 kern) ?_
 induction e:aq (cL S) (kern.map λc:Nat=>(c:Int))with
 |some v=>
  refine cJ ?_;obtain⟨j,s,hs,hk,rfl⟩:=BH e;w_fin;refine ag (hh.get 0 rfl) rfl<|gW (hh.get 4 rfl) (j6 kern) e ?_;exact q S j ep V (.inl rfl) ⟨s,hs,hk⟩ hh
 |none=>
  refine fx ?_;have hno:=BG e;w_fin;refine ag (hh.get 0 rfl) rfl<|cB (hh.get 3 rfl) ?_;refine O sl ?_;refine ag (hh.get 0 rfl) rfl<|jb (hh.get 4 rfl) (j6 kern) (by rw[cL];exact O length_mapIdx hl) λep'=>?_;refine O (eS e) ?_;have h2:=hh.put 4 (o':=.tdict (cL S++[(kern.map λc:Nat=>(c:Int),.int (S.length:Nat))]) ep') rfl;generalize upd V a.nd (.tdict (cL S++[(kern.map λc:Nat=>(c:Int),.int (S.length:Nat))]) ep')=V1 at h2⊢;w_fin;refine ag (h2.get 0 rfl) rfl ⟨bz (h2.get 3 rfl),ag (h2.get 0 rfl) rfl<|cB (h2.get 3 rfl) ?_⟩;refine O sl (Tj hB λs V2 k1 k2 k3 k4 k5 hs=>?_);have h3:=h2.join hs;refine bZ (h3.get 7 rfl) (O sl hl) ?_;have h4:=h3.put 7 (o':=.list ((S.map (·.sa)).map IV.ref++[.ref s.sa])) rfl;generalize upd V2 a.sl (.list ((S.map (·.sa)).map IV.ref++[.ref s.sa]))=V3 at h4⊢;have h5:=h4.perm (l':=fr g a (S++[s]) ep'++l) (by
   unfold fr;refine O (Rd ..) (O (UX ..) (O k1 (O bW ?_)));unfold f9;refine O bW ?_;have p1:(df S.length s++([(a.b,IO.inst 658 [(31,.ref g),(14,.ref a.cl),(77,.ref a.sl),(57,.ref a.nd)]),(a.cl,.inst 539 [(31,.ref g),(26,.ref a.t)]),(a.t,.list (nl a.tl)),(a.sl,.list ((S.map (·.sa)).map IV.ref++[.ref s.sa])),(a.nd,.tdict (cL S++[(kern.map λc:Nat=>(c:Int),.int (S.length:Nat))]) ep')]++iH S++l)).Perm
    ([(a.b,IO.inst 658 [(31,.ref g),(14,.ref a.cl),(77,.ref a.sl),(57,.ref a.nd)]),(a.cl,.inst 539 [(31,.ref g),(26,.ref a.t)]),(a.t,.list (nl a.tl)),(a.sl,.list ((S.map (·.sa)).map IV.ref++[.ref s.sa])),(a.nd,.tdict (cL S++[(kern.map λc:Nat=>(c:Int),.int (S.length:Nat))]) ep')]++(iH S++df S.length s)++l):=by
    generalize[(a.b,IO.inst 658 [(31,.ref g),(14,.ref a.cl),(77,.ref a.sl),(57,.ref a.nd)]),(a.cl,.inst 539 [(31,.ref g),(26,.ref a.t)]),(a.t,.list (nl a.tl)),(a.sl,.list ((S.map (·.sa)).map IV.ref++[.ref s.sa])),(a.nd,.tdict (cL S++[(kern.map λc:Nat=>(c:Int),.int (S.length:Nat))]) ep')]=X;rw[<-append_assoc X,<-append_assoc (df S.length s)];exact(dc).append_right _
   exact p1)
  w_fin;refine ag (h5.get 0 rfl) rfl ?_
  induction e2:aq (cL (S++[s])) (kern.map λc:Nat=>(c:Int))with
  |none=>exact absurd k1 (BG e2 s (dJ))
  |some v=>
   obtain⟨j,s',hs',hk',rfl⟩:=BH e2;refine gW (h5.get 4 rfl) (j6 kern) e2 ?_;exact q (S++[s]) j ep' V3 (.inr ⟨s,rfl,k1,k3,k4,k5,hno⟩) ⟨s',hs',hk'⟩ h5
end
def KV (G:GG) (K:List Nat):Prop:=K=[0]\/(K.Pairwise (· < ·)/\∀c∈K,∃r d,VI G r (d+1)/\c=code G r (d+1))
theorem yW (G:GG):code G 0 0=0:=rfl
theorem KV.isC {K:List Nat} (h:KV G K) (m:c∈K):IsC G c:=by
 rcases h with rfl|⟨_,h⟩
 .have:c=0:=by exact VX.1 m
  exact⟨0,0,dW (by decide),by exact O this rfl⟩
 .obtain⟨r,d,v,e⟩:=h c m;exact⟨r,d+1,v,e⟩
theorem KV.nodup {K:List Nat} (h:KV G K):K.Nodup:=by
 rcases h with rfl|⟨h,_⟩
 .simp
 .exact h.imp λl=>by exact ne_of_lt ‹_›
noncomputable def gI (G:GG) (c:Nat):Nat:=c -(own G 5)[c]?.getD 0 -1
theorem qQ (G:GG) (h:i<=j):bU G i+j<=bU G j+i:=by
 induction h with
 |refl=>exact aY _
 |step _ ih=>refine O (fM ..) ?_;lia
theorem rS (v:VI G r (d+1)):gI G (code G r (d+1))+r=bU G r+d:=by
 have:=qQ G (zero_le r);have z:bU G 0=0:=rfl;unfold gI;refine O (gO G v.1 v.2) ?_;rw[z,zero_add,Nat.add_zero]at this;simp only[getD_some,code];exact O (sub_sub ..) (O (Nat.add_comm r 1) (Ob (sub_sub ..) (Ob (Nat.add_assoc ..) (O (Nat.add_sub_cancel ..) (sub_add_cancel (le_trans this (le_add_right _ _)))))))
theorem zm (g:Good G) (v:VI G r (d+1)):gI G (code G r (d+1))<13:=by
 have e:=rS v;have:=qQ G (i:=r+1) (j:=5) v.1;rw[fM]at this;have o5:bU G 5<=18:=by
  simp only[fM];have:=g.len3 1;have:=g.len3 2;have:=g.three2;have:=g.len3 4;have z:bU G 0=0:=rfl;refine O g.rhs0 ?_;simp only[length_cons,length_nil];lia
 have:=v.2;lia
theorem GS (v:VI G r (d+1)) (v':VI G r' (d'+1)) (e:gI G (code G r (d+1))=gI G (code G r' (d'+1))):code G r (d+1)=code G r' (d'+1):=by
 have e1:=rS v;have e2:=rS v';have a1:=v.2;have a2:=v'.2;rcases Nat.lt_trichotomy r r' with l|l|l
 .have:=qQ G (i:=r+1) (j:=r') l;rw[fM]at this;lia
 .subst l;simp only[code];lia
 .have:=qQ G (i:=r'+1) (j:=r) l;rw[fM]at this;lia
noncomputable def bm:List Nat->Nat
 |[]=>0
 |i::l=>2^i|||bm l
theorem Eu (i:Nat) (l:List Nat):bm (i::l)=2^i|||bm l:=rfl
theorem yO (l:List Nat) (j:Nat):(bm l).testBit j=true↔j∈l:=by
 induction l with
 |nil=>exact⟨λh=>by rw[show bm []=0 from rfl,zero_testBit]at h;exact(bE h).elim,λm=>nomatch m⟩
 |cons i l ih=>
  refine O (Eu ..) (O (testBit_or ..) (O (or_eq_true ..) ?_));rw[ih];refine O testBit_two_pow ?_;rw[mem_cons];simp[eq_comm]
theorem yP (l:List Nat):(∀i∈l,i<k)->bm l<2^k:=by
 induction l with
 |nil=>exact λ_=>Nat.two_pow_pos k
 |cons i l ih=>exact λh=>or_lt_two_pow (Nat.pow_lt_pow_right (by decide) (h i (bJ ..))) (ih λj m=>h j (dw _ m))
theorem Ds {l:List Nat}:∀{m:List Nat},l.Pairwise (· < ·)->m.Pairwise (· < ·)->(∀x,x∈l↔x∈m)->l=m:=by
 induction l with
 |nil=>
  intro m _ _ h;rcases m with _|⟨y,m⟩
  .rfl
  .exact nomatch(h y).2 (bJ ..)
 |cons x l ih=>
  intro m h1 h2 h;rcases m with _|⟨y,m⟩
  .exact nomatch(h x).1 (bJ ..)
  .rw[List.pairwise_cons]at h1 h2;have e:x=y:=by
    rcases mem_cons.1 ((h x).1 (bJ ..))with e|a
    .exact e
    .rcases mem_cons.1 ((h y).2 (bJ ..))with e|b
     .exact e.symm
     .have:=h1.1 y b;have:=h2.1 x a;lia
   obtain rfl:=e.symm;rw[ih h1.2 h2.2 λz=>⟨λm=>((mem_cons.1 ((h z).1 (List.mem_cons_of_mem _ m))).resolve_left λe=>absurd (h1.1 _ m) (by lia)),
    λm=>((mem_cons.1 ((h z).2 (List.mem_cons_of_mem _ m))).resolve_left λe=>absurd (h2.1 _ m) (by lia))⟩]
noncomputable def hJ (G:GG) (K:List Nat):Nat:=if K=[0]then 8192 else bm (K.map (gI G))
theorem Ht (g:Good G) {K:List Nat} (h:KV G K):hJ G K<8193:=by
 unfold hJ;split
 .decide
 .rename_i n;obtain⟨_,h⟩:=h.resolve_left n;have:bm (K.map (gI G))<2^13:=yP _ λi m=>by
   obtain⟨c,mc,rfl⟩:=mem_map.1 m;obtain⟨r,d,v,rfl⟩:=h c mc;exact zm g v
  exact lt_succ_of_lt ‹_›
theorem Hs (g:Good G) {K K':List Nat} (h:KV G K) (h':KV G K') (e:hJ G K=hJ G K'):K=K':=by
 have lt:∀K,KV G K->K≠[0]->bm (K.map (gI G))<8192:=λK h n=>yP (k:=13) _ λi m=>by
  obtain⟨_,h⟩:=h.resolve_left n;obtain⟨c,mc,rfl⟩:=mem_map.1 m;obtain⟨r,d,v,rfl⟩:=h c mc;exact zm g v
 unfold hJ at e;by_cases z:K=[0]
 .by_cases z':K'=[0]
  .exact O z (O z' rfl)
  .replace e:=Eq.trans (Oe (ax z) e) (ai z');have:=lt K' h' z';lia
 .by_cases z':K'=[0]
  .replace e:=Eq.trans (Oe (ai z) e) (ax z');have:=lt K h z;lia
  .replace e:=Eq.trans (Oe (ai z) e) (ai z')
   obtain⟨s,h⟩:=h.resolve_left z;obtain⟨s',h'⟩:=h'.resolve_left z';have one:∀(K K':List Nat),(∀c∈K,∃r d,VI G r (d+1)/\c=code G r (d+1))->(∀c∈K',∃r d,VI G r (d+1)/\c=code G r (d+1))->bm (K.map (gI G))=bm (K'.map (gI G))->∀c,c∈K->c∈K':=λK K' h h' e c m=>by
    have:gI G c∈K'.map (gI G):=by rw[<-yO];refine Ob e ?_;rw[yO];exact mem_map_of_mem m
    obtain⟨c',m',e'⟩:=mem_map.1 this;obtain⟨r,d,v,rfl⟩:=h c m;obtain⟨r',d',v',rfl⟩:=h' c' m';exact Ob (GS v' v e') m'
   exact Ds s s' λc=>⟨one K K' h h' e c,one K' K h' h e.symm c⟩
theorem rY (g:Good G) {Ks:List (List Nat)} (nd:Ks.Nodup) (h:∀K∈Ks,KV G K):Ks.length<=8193:=by
 have:=cz (l:=Ks.map (hJ G)) (by
  rw[List.Nodup,pairwise_map];exact nd.imp_of_mem λma mb n e=>n (Hs g (h _ ma) (h _ mb) e)) (N:=8193) λx m=>by
   obtain⟨K,mK,rfl⟩:=mem_map.1 m;exact Ht g (h K mK)
 rwa[aE]at this
structure ExpOk (G:GG) (Ks:List (List Nat)) (s:SG):Prop where
 nd:s.its.Nodup
 its:∀c,c∈s.its↔Clo G s.kern c
 rl:s.rd.length<64
 rn:s.rd.Nodup
 rd:∀c,c∈s.rd↔c≠0/\c<5/\code G c (ae G c).length∈s.its
 mnd:(s.mv.map (·.1)).Nodup
 mks:∀X,X∈s.mv.map (·.1)↔∃c,KB G s.its X c
 mt:∀X j,(X,j)∈s.mv->X<8/\∃K,Ks[j]? =some K/\∀c,c∈K↔KB G s.its X c
theorem ExpOk.app (h:ExpOk G Ks s):ExpOk G (Ks++T) s:=
 ⟨h.nd,h.its,h.rl,h.rn,h.rd,h.mnd,h.mks,λX j m=>(h.mt X j m).imp id λz=>z.imp λK z=>z.imp_left λe=>by exact O (cF (av e)) e⟩
structure KsOk (G:GG) (Ks:List (List Nat)):Prop where
 nd:Ks.Nodup
 kv:∀K∈Ks,KV G K
theorem Clo.isC (hk:∀c∈ks,IsC G c) (h:Clo G ks c):IsC G c:=by
 rcases h with m|⟨r,l,_,e⟩
 .exact hk c m
 .exact⟨r,0,dW l,e⟩
noncomputable abbrev cq (S:List SG):List (List Nat):=S.map (·.kern)
theorem H0 {l:List Nat} (h:l.Pairwise (· <= ·)) (n:l.Nodup):l.Pairwise (· < ·):=(h.and n).imp λa=>by lia
theorem H.last (h:H V0 V (l++[(a,o)])):V a=some o:=(h.at_ (a,o) (dJ)).2
def ExI (V0:IH) (G:GG) (g:Addr) (a:BA) (S:List SG) (k:Nat) (s:SG) (bd:Addr) (ks:List Nat) (F:Nat->List Nat) (e1:Nat) (i:Nat) (Z:aL) (V':IH):Prop:=E5 λs' T ep mv o3=>A7 (Z=[some (.ref a.b),some (.ref s.sa),some (.ref bd),o3])
 (s'={s with mv:=mv,ep:=s'.ep}) (mv.map (·.1)=ks.take i) (∀X j,(X,j)∈mv->(cq (S.set k s'++T))[j]? =some (F X)) (∀t∈T,t.mv=[]) (KsOk G (cq (S.set k s'++T)))<|
 H V0 V' (fr g a (S.set k s'++T) ep++[(bd,.idict (cY ks F) e1)])
section
variable{B:Bs} (hB:Base B) {n:Nat} {V0 V:IH} {Q:QE} {G:GG} {g:Addr} {A:GA} (h:GrAt V0 G g A)
include hB h
theorem Ty {a:BA} {S:List SG} {ep k:Nat} {s:SG} (tok:TlOk G a.tl) (hh:H V0 V (fr g a S ep)) (hs:S[k]? =some s) (hmv:s.mv=[]) (ok:KsOk G (cq S))
 (q:∀s' T ep' V',s'.sa=s.sa->s'.kern=s.kern->(∀t∈T,t.mv=[])->ExpOk G (cq (S.set k s'++T)) s'->KsOk G (cq (S.set k s'++T))->H V0 V' (fr g a (S.set k s'++T) ep')->Q .none V'):
 CallOk B (n+5) 648 [.ref a.b,.ref s.sa] V Q:=by
 refine Fy hB ?_;have kl:=av hs;have kv:KV G s.kern:=ok.kv _ (mem_map_of_mem (aF hs));obtain⟨R,hR⟩:=zl g a ep hs;have h1:=hh.perm (l':=df k s++(f9 g a (S.map (·.sa)) (cL S) ep++R)) (by have:=hR s rfl rfl;rwa[yd hs]at this);clear hh;w_fin;refine ag (h1.get 4 rfl) rfl<|bk (h1.get 5 rfl) rfl<|ag (h1.get 0 rfl) rfl<|Ts hB (h.mono h1.ext) ⟨h1.get 5 rfl,h1.get 6 rfl,tok⟩ (λc m=>kv.isC m) kv.nodup λits ia V1 ee ind im f1 g1=>?_;have h2:=h1.got ee f1 g1;refine cW 1 ((gj k {s with ia:=ia,its:=its})) h2 rfl rfl rfl λV2 h3=>?_;have h4:H V0 V2 (df k {s with ia:=ia,its:=its}++(f9 g a (S.map (·.sa)) (cL S) ep++R)):=(h3.sub (.cons_cons _ (.cons_cons _ (.cons _ (.refl _))))).perm (.swap _ _ _);clear h1 h2 h3 f1 g1 ee;have isc:∀c∈its,IsC G c:=λc m=>((im c).1 m).isC λc m=>kv.isC m;have il:its.length<=20:=cz ind λc m=>(isc c m).lt h.good;w_fin;refine ag (h4.get 4 rfl) rfl<|ag (h4.get 0 rfl) rfl<|Tt hB (h.mono h4.ext) (h4.get 1 rfl) isc ind (show its.length<64 by exact cn ‹_› (by decide)) λrd ra V3 ee rl rnd rm f1 g1=>?_;have h5:=h4.got ee f1 g1;refine cW 1 ((gj k {s with ia:=ia,its:=its,ra:=ra,rd:=rd})) h5 rfl rfl rfl λV4 h6=>?_;have h7:H V0 V4 (df k {s with ia:=ia,its:=its,ra:=ra,rd:=rd}++(f9 g a (S.map (·.sa)) (cL S) ep++R)):=(h6.sub (l':=(ra,_)::(s.sa,_)::(ia,_)::(s.ma,_)::(f9 g a (S.map (·.sa)) (cL S) ep++R)) (.cons_cons _ (.cons_cons _ (.cons_cons _ (.cons_cons _ (.cons _ (.refl _))))))).perm (by
  exact(dc (l₁:=[(ra,IO.list (nl rd))]) (l₂:=[(s.sa,IO.inst 497 (gj k {s with ia:=ia,its:=its,ra:=ra,rd:=rd})),(ia,.list (nl its)),(s.ma,.idict (bj s.mv) s.ep)])).append_right _)
 clear h4 h5 h6 f1 g1 ee;w_fin;refine ag (h7.get 4 rfl) rfl<|ag (h7.get 0 rfl) rfl<|TK hB (h.mono h7.ext) (h7.get 1 rfl) isc ind λks F bd e1 V5 ee knd km kF f1 g1=>?_;have h8:=h7.got ee f1 g1;have h9:H V0 V5 (fr g a (S.set k {s with ia:=ia,its:=its,ra:=ra,rd:=rd}) ep++[(bd,.idict (cY ks F) e1)]):=h8.perm ((dc (l₁:=[(bd,IO.idict (cY ks F) e1)])).trans ((hR {s with ia:=ia,its:=its,ra:=ra,rd:=rd} rfl rfl).symm.append_right _));clear h7 h8 f1 g1 ee hR R;generalize hs2:({s with ia:=ia,its:=its,ra:=ra,rd:=rd}:SG)=s2 at h9;have e_sa:s2.sa=s.sa:=by exact Ob hs2 rfl
 have e_kern:s2.kern=s.kern:=by exact Ob hs2 rfl
 have e_its:s2.its=its:=by exact Ob hs2 rfl
 have e_rd:s2.rd=rd:=by exact Ob hs2 rfl
 have e_mv:s2.mv=[]:=by refine Ob hs2 ?_;exact hmv
 have set_k:∀s',s'.kern=s.kern->cq (S.set k s')=cq S:=λs' e=>su _ hs e;w_fin;refine rL h9.last ?_;have kmap:(cY ks F).map (λq:Int×IV=>IV.int q.1)=nl ks:=by rw[cY];refine O map_map ?_;rfl
 refine O kmap ?_;refine aU (ExI V0 G g a S k s2 bd ks F e1) ⟨s2,[],ep,[],none,by exact O e_sa rfl,by exact Ob e_mv rfl,rfl,λX j m=>(by cases m),λt m=>(by cases m),by refine O (append_nil ..) (O (set_k _ e_kern) ?_);exact ok,by refine O (append_nil ..) ?_;exact h9⟩ ?_ ?_
 .clear h9;rintro i Z V' y Fk hFk hy ⟨s',T,ep,mv,o3,rfl,es',mk1,mt1,hT,kok,hh⟩;refine⟨hh.last,?_⟩;o_shape;refine kE hy λX hX eY=>?_;obtain rfl:=eY;have mX:=aF hX;have nX:=fL knd hX;obtain⟨x8,fnd,fs,fm⟩:=kF X mX;pv_eval;have e_k':s'.kern=s.kern:=by refine O es' ?_;exact e_kern
  have e_sa':s'.sa=s.sa:=by refine O es' ?_;exact e_sa
  have fkv:KV G (F X):=.inr ⟨H0 fs fnd,λc m=>by obtain⟨r,d,v,m,e,f⟩:=(fm c).1 m;exact⟨r,d,gA v e,f⟩⟩;have len:=rY h.good kok.nd kok.kv;rw[length_map]at len;w_fin;refine bk (hh.get 0 rfl) rfl<|fU hh.last (Hu mX)<|Dj hB hh (cn ‹_› (by decide)) λS' j ep' V1 hS' hj h1=>?_;have⟨T',hT1,hT2,kok'⟩:∃T',S'=S.set k s'++T'/\(∀t∈T',t.mv=[])/\KsOk G (cq S')/\∀(j:Nat) K,(cq (S.set k s'++T))[j]? =some K->(cq S')[j]? =some K:=by
   rcases hS' with rfl|⟨s3,rfl,c1,c2,c3,c4,c5⟩
   .exact⟨T,rfl,hT,kok,λ_ _ z=>z⟩
   .refine⟨T++[s3],by exact O (cw ..) rfl,λt m=>?_,⟨?_,λK m=>?_⟩,λj K e=>?_⟩
    .rcases Uo.1 m with m|m
     .exact hT t m
     .have:t=s3:=by exact VX.1 m
      refine O this ?_;exact c3
    .rw[cq];refine O bW ?_;rw[nodup_append];refine⟨kok.nd,by exact pairwise_singleton _ _,λK m K' m' e=>?_⟩;have:K'=s3.kern:=by exact VX.1 m'
     obtain⟨s4,m4,e4⟩:=mem_map.1 m;exact c5 s4 m4 (by refine Ob c1 (Ob this (Ob e ?_));exact e4)
    .rw[cq,map_append]at m;rcases Uo.1 m with m|m
     .exact kok.kv K m
     .have:K=s3.kern:=by exact VX.1 m
      refine O this (O c1 ?_);exact fkv
    .rw[cq];refine O bW (O (cF (av e)) ?_);exact e
  obtain⟨kok',kmono⟩:=kok';subst hT1;have hk1:(S.set k s'++T')[k]? =some s':=by
   refine O (cF (by simpa using kl)) (O c9 ?_);simp[kl]
  obtain⟨R,hR⟩:=zl g a ep' hk1;have h2:=h1.perm (l':=df k s'++(f9 g a ((S.set k s'++T').map (·.sa)) (cL (S.set k s'++T')) ep'++R)++[(bd,.idict (cY ks F) e1)]) (by have:=hR s' rfl rfl;rw[yd hk1]at this;exact this.append_right _);have mvl:mv.length<=8:=by
   have l1:(mv.map (·.1)).length<=8:=cz (by refine O mk1 ?_;exact knd.sublist (take_sublist _ _)) λx m=>by
    rw[mk1]at m;exact(kF x (List.mem_of_mem_take m)).1
   rwa[aE]at l1
  have e_mv':s'.mv=mv:=by exact O es' rfl
  have key:aq (bj s'.mv) (X:Int)=none:=by
   induction e:aq (bj s'.mv) (X:Int)with
   |none=>rfl
   |some v=>
    obtain⟨p,mp,ep⟩:=mem_map.1 (eG e);have:p.1=X:=by have:=be Prod.fst ep;simp at this;exact ofNat_inj.1 ‹_›
    rw[e_mv']at mp;have:=mem_map_of_mem (f:=(·.1)) mp;rw[mk1]at this;exact absurd (by refine Ob (‹p.1=X›) ?_;exact this) nX
  have g0:V1 s.sa=some (.inst 497 (gj k s')):=by refine Ob e_sa' ?_;exact h2.get 0 rfl
  refine O e_sa ?_;refine ag g0 rfl<|gJ (h2.get 2 rfl) (by rw[bj];refine O (aE ..) (O e_mv' ?_);exact cn ‹_› (by decide)) λe2=>?_;refine O (eS key) ?_;have h3:=h2.put 2 (o':=.idict (bj s'.mv++[((X:Int),IV.int (j:Nat))]) e2) rfl;generalize upd V1 s'.ma (.idict (bj s'.mv++[((X:Int),IV.int (j:Nat))]) e2)=V3 at h3⊢;have h4:H V0 V3 (fr g a (S.set k {s' with mv:=mv++[(X,j)],ep:=e2}++T') ep'++[(bd,.idict (cY ks F) e1)]):=by
   refine h3.perm ?_;have:=(hR {s' with mv:=mv++[(X,j)],ep:=e2} rfl rfl).symm.append_right [(bd,IO.idict (cY ks F) e1)];rw[List.set_append_left _ _ (by simpa using kl),set_set]at this;refine O (show bj s'.mv++[((X:Int),IV.int (j:Nat))]=bj (mv++[(X,j)]) by refine O e_mv' ?_;rw[bj,bj];exact O bW rfl) ?_;exact this
  have ksame:cq (S.set k {s' with mv:=mv++[(X,j)],ep:=e2}++T')=cq (S.set k s'++T'):=by
   rw[cq,cq];refine O bW (O bW ?_);congr 1;exact(set_k {s' with mv:=mv++[(X,j)],ep:=e2} e_k').trans (set_k s' e_k').symm
  refine hFk _ _ ⟨{s' with mv:=mv++[(X,j)],ep:=e2},T',ep',mv++[(X,j)],_,by exact O e_sa rfl,by exact O es' rfl,?_,λY j' m=>?_,hT2,by refine O ksame ?_;exact kok',h4⟩
  .refine O (c6 hX) (O bW (O mk1 ?_));rfl
  .refine O ksame ?_;rcases Uo.1 m with m|m
   .exact kmono _ _ (mt1 Y j' m)
   .have e:Y=X/\j'=j:=by simpa using m
    o_shape;obtain⟨s5,h5,h6⟩:=hj;pv_eval;refine O e.1 (O e.2 ?_);rw[cq];refine O aQ (O h5 (Ob h6 ?_));rfl
 .clear h9;rintro Z V' ⟨s',T,ep,mv,o3,rfl,es',mk1,mt1,hT,kok,hh⟩;rw[length_map,take_length]at mk1;refine⟨hh.last,?_⟩;have e_mv':s'.mv=mv:=by exact O es' rfl
  have e_its':s'.its=its:=by refine O es' ?_;exact e_its
  have e_rd':s'.rd=rd:=by refine O es' ?_;exact e_rd
  have e_k':s'.kern=s.kern:=by refine O es' ?_;exact e_kern
  refine q s' T ep V' (by refine O es' ?_;exact e_sa) e_k' hT ⟨by refine O e_its' ?_;exact ind,λc=>by refine O e_its' (O e_k' ?_);exact im c,by refine O e_rd' ?_;exact rl,by refine O e_rd' ?_;exact rnd,λc=>by refine O e_rd' (O e_its' ?_);exact rm c,by refine O e_mv' (O mk1 ?_);exact knd,λX=>by refine O e_mv' (O mk1 (O e_its' ?_));exact km X,λX j m=>?_⟩ kok (hh.sub (sublist_append_left _ _));rw[e_mv']at m;have mX:X∈ks:=by refine Ob mk1 ?_;exact mem_map_of_mem (f:=(·.1)) m
  refine⟨(kF X mX).1,F X,mt1 X j m,λc=>by refine O e_its' ?_;exact(kF X mX).2.2.2 c⟩
end
structure AutOk (G:GG) (S:List SG):Prop where
 kok:KsOk G (cq S)
 k0:∃s,S[0]? =some s/\s.kern=[0]
 ex:∀(k:Nat) s,S[k]? =some s->ExpOk G (cq S) s
structure AutAt (V:IH) (G:GG) (g au sl:Addr) (S:List SG):Prop where
 obj:V au=some (.inst 616 [(31,.ref g),(77,.ref sl)])
 lst:V sl=some (.list ((S.map (·.sa)).map IV.ref))
 st:∀(k:Nat) s,S[k]? =some s->V s.sa=some (.inst 497 (gj k s))/\V s.ia=some (.list (nl s.its))/\V s.ma=some (.idict (bj s.mv) s.ep)/\V s.ra=some (.list (nl s.rd))
 ok:AutOk G S
theorem AutAt.mono {S:List SG} (h:AutAt V G g au sl S) (e:Ext V V'):AutAt V' G g au sl S:=
 ⟨e _ _ h.obj,e _ _ h.lst,λk s z=>(h.st k s z).imp (e _ _) λq=>q.imp (e _ _) λq=>q.imp (e _ _) (e _ _),h.ok⟩
section
variable{B:Bs} (hB:Base B) {n:Nat} {V:IH} {Q:QE} {G:GG} {g:Addr} {A:GA} (h:GrAt V G g A)
include hB
theorem Tf (q:∀au V',H V V' [(au,.inst 616 [(31,a1),(77,a2)])]->Q (.ref au) V'):CallOk B (n+2) 616 [a1,a2] V Q:=by
 refine fq hB (init:=578) (by decide) λp hp=>?_;refine Fu hB ?_;have h1:=(H.nil (V:=V)).new (.inst 616 []) hp;w_fin;refine cp (h1.get 0 rfl) (by decide) (aG rfl) ?_;have h2:=h1.put 0 (o':=.inst 616 (aK [] 31 a1)) rfl;w_fin;refine cp (h2.get 0 rfl) (by decide) (aG rfl) ?_;have h3:=h2.put 0 (o':=.inst 616 [(31,a1),(77,a2)]) rfl;exact⟨rfl,q p _ h3⟩
include h
theorem Tg (q:∀a ep V',TlOk G a.tl->H V V' (fr g a [] ep)->Q (.ref a.b) V'):CallOk B (n+5) 658 [.ref g] V Q:=by
 refine fq hB (init:=634) (by decide) λp hp=>?_;refine Fw hB ?_;have h1:=(H.nil (V:=V)).new (.inst 658 []) hp;generalize upd V p (.inst 658 [])=V1 at h1⊢;w_fin;refine cW 0 [(31,.ref g)] h1 rfl rfl rfl λV2 h2=>?_;w_fin;refine Th hB (h.mono h2.ext) λcl t tl V3 tok hc=>?_;have h3:=h2.join hc;refine cW 2 [(31,.ref g),(14,.ref cl)] h3 rfl rfl rfl λV4 h4=>?_;clear h1 h2 hc h3;w_fin;refine⟨by decide,λsl hsl=>?_⟩;have h5:=h4.new (.list []) hsl;refine cW 3 [(31,.ref g),(14,.ref cl),(77,.ref sl)] h5 rfl rfl rfl λV5 h6=>?_;clear h4 h5 hsl;w_fin;intro ep nd hnd;have h7:=h6.new (.tdict [] ep) hnd;refine cp (h7.get 4 rfl) (by decide) (aG rfl) ?_;have h8:=h7.put 4 (o':=.inst 658 [(31,.ref g),(14,.ref cl),(77,.ref sl),(57,.ref nd)]) rfl;refine⟨rfl,q ⟨p,cl,t,sl,nd,tl⟩ ep _ tok (h8.perm ?_)⟩;exact(dc (l₁:=[(nd,IO.tdict [] ep),(sl,.list []),(cl,.inst 539 [(31,.ref g),(26,.ref t)]),(t,.list (nl tl))]) (l₂:=[(p,IO.inst 658 [(31,.ref g),(14,.ref cl),(77,.ref sl),(57,.ref nd)])])).trans (.cons _ (
  (dc (l₁:=[(nd,IO.tdict [] ep),(sl,.list [])]) (l₂:=[(cl,IO.inst 539 [(31,.ref g),(26,.ref t)]),(t,.list (nl tl))])).trans (.cons _ (.cons _ (.swap _ _ _)))))
theorem Tr {a:BA} (tok:TlOk G a.tl) (hh:H V V1 (fr g a [] ep)) (q:∀au sl S V',Ext V V'->AutAt V' G g au sl S->Q (.ref au) V'):CallOk B (n+6) 655 [.ref a.b] V1 Q:=by
 refine Fz hB ?_;w_fin;refine bk (hh.get 0 rfl) rfl<|ag (hh.get 0 rfl) rfl<|bk (h.mono hh.ext).obj rfl<|xY hB (h.mono hh.ext) (r:=0) (by decide) ?_;refine⟨by decide,?_⟩;refine O (show[IV.int ((bU G 0:Int)+0)]=nl [0]from rfl) ?_;refine Dj hB (l:=[]) (O (append_nil ..) hh) (by decide) λS k ep' V2 hS hk h1=>?_;rw[append_nil]at h1;obtain⟨s,rfl,k1,k2,k3,k4,_⟩:=hS.resolve_left (by rintro rfl;obtain⟨s,e,_⟩:=hk;exact bv e);clear hS hk hh;w_fin;w_fin;refine gw (λm Z V'=>E3 λS ep i=>A8 (Z=[some (.ref a.b),some (.int (i:Nat))]) (m=8193 -i) (i<=S.length) (KsOk G (cq S)) (∃s,S[0]? =some s/\s.kern=[0]) (∀j s,j<i->S[j]? =some s->ExpOk G (cq S) s) (∀j s,i<=j->S[j]? =some s->s.mv=[])<|H V V' (fr g a S ep)) ⟨_,[s],ep',0,rfl,rfl,zero_le _,⟨by exact pairwise_singleton _ _,λK m=>.inl ?_⟩,⟨s,rfl,k1⟩,λj s l=>by lia,λj s' _ e=>?_,h1⟩ ?_
 .have:K=s.kern:=by exact VX.1 m
  exact O this (O k1 rfl)
 .have:=aF e;have:s'=s:=by exact VX.1 this
  exact O this k3
 .clear h1;rintro m Z V' Fk hFk ⟨S,ep,i,rfl,rfl,il,kok,k0,hE,hN,hh⟩;have len:=rY h.good kok.nd kok.kv;rw[length_map]at len;have sl:((S.map (·.sa)).map IV.ref).length=S.length:=by simp
  w_left;refine ag (hh.get 0 rfl) rfl<|cB (hh.get 3 rfl)<|dE<|aO (λc=>?_) (λc=>?_)
  .rw[sl]at c;refine bg (l:=S) (i:=i) (by lia) λs hs=>?_;w_fin;refine bk (hh.get 0 rfl) rfl<|ag (hh.get 0 rfl) rfl<|aB (hh.get 3 rfl) (O aQ (O aQ (O hs rfl)))<|Ty hB h tok hh hs (hN i s (aY _) hs) kok λs' T ep' V2 e1 e2 hT ex kok' h2=>?_;have ksx:cq (S.set i s'++T)=cq S++cq T:=by
    rw[cq,cq,cq];exact O bW (O (su _ hs e2) rfl)
   w_fin;refine de ?_;refine hFk _ _ ⟨8193 -(i+1),yk (by lia),S.set i s'++T,ep',i+1,rfl,rfl,?_,kok',?_,λj s2 l e=>?_,λj s2 l e=>?_,h2⟩
   .refine O bT (O length_set ?_);lia
   .obtain⟨s0,h0,h00⟩:=k0;refine O (cF (by refine O length_set ?_;lia)) (O c9 ?_);by_cases z:i=0
    .subst z;obtain rfl:=Os hs h0;exact⟨s',by exact O (ax rfl) (O (ax (by lia)) rfl),by exact O e2 (O h00 rfl)⟩
    .exact⟨s0,by exact O (ai z) h0,h00⟩
   .by_cases z:j=i
    .subst z;obtain rfl:=Os (ax (by lia)) (Oe (ax rfl) (Oe c9 (Oe (cF (by refine O length_set ?_;lia)) e)));exact ex
    .exact O ksx (hE j s2 (by lia) (Oe (ai (by lia)) (Oe c9 (Oe (cF (by refine O length_set ?_;lia)) e)))).app
   .rcases lt_or_ge j S.length with z|z
    .exact hN j s2 (by lia) (Oe (ai (by lia)) (Oe c9 (Oe (cF (O length_set z)) e)))
    .exact hT s2 (aF (Oe (dj (O length_set z)) e))
  .rw[sl]at c;w_fin;refine ag (hh.get 0 rfl) rfl<|ag (hh.get 0 rfl) rfl<|Tf hB λau V2 h2=>?_;have h3:=hh.join h2;refine q au a.sl S V2 h3.ext ⟨h3.get 0 rfl,h3.get 4 rfl,λk s hs=>?_,kok,k0,λk s hs=>hE k s (by have:=av hs;lia) hs⟩;have mem:∀p∈df k s,V2 p.1=some p.2:=λp m=>(h3.at_ p (by
    refine dA _ (dA _ (List.mem_flatten.2 ⟨df k s,U0.2 ⟨k,?_⟩,m⟩));exact O getElem?_mapIdx (O hs rfl))).2
   exact⟨mem (s.sa,_) (by simp[df]),mem (s.ia,_) (by simp[df]),mem (s.ma,_) (by simp[df]),mem (s.ra,_) (by simp[df])⟩
theorem Tq (q:∀au sl S V',Ext V V'->AutAt V' G g au sl S->Q (.ref au) V'):CallOk B (n+7) 669 [.ref g] V Q:=by
 refine FA hB ?_;w_fin;exact Tg hB h λa ep V' tok hh=>bk (hh.get 0 rfl) rfl<|Tr hB h tok hh q
end
def sub (a b:Nat):Prop:=a|||b=b
theorem sub.rfl:sub a a:=Nat.or_self a
theorem sub.trans (h:sub a b) (k:sub b c):sub a c:=by unfold sub at *;rw[<-k,<-Nat.or_assoc,h]
theorem sub.left (a b:Nat):sub a (a|||b):=by unfold sub;rw[<-Nat.or_assoc,Nat.or_self]
theorem sub.right (a b:Nat):sub b (a|||b):=by exact O (Nat.or_comm ..) (.left _ _)
theorem sub.bit {a b:Nat} (h:sub a b) (e:a.testBit i=true):b.testBit i=true:=by refine Ob h (O (testBit_or ..) (O e ?_));rfl
abbrev FR:=Nat×Nat×Nat
noncomputable def cD (f:Nat->Nat) (x v:Nat):Nat->Nat:=λz=>if z=x then v else f z
def Pr (rel:Nat->List Nat) (FS:List FR) (w y:Nat):Prop:=y∈rel w/\∀b p,(w,b,p)∈FS->y∈(rel w).take p
structure DG (N:Nat) (rel:Nat->List Nat) (mk r h:Nat->Nat) (pile:List Nat) (FS:List FR):Prop where
 mks:∀x,sub (mk x) (r x)
 pn:pile.Nodup
 pl:∀z∈pile,z<N
 vis:∀x,x<N->(x∈pile↔h x≠0/\h x≠N+1)
 hle:∀(i z:Nat),pile[i]? =some z->h z<=i+1
 dn:∀x,x<N->h x=N+1->∀y∈rel x,h y=N+1/\sub (r y) (r x)
 fr:∀x b p,(x,b,p)∈FS->0<b/\pile[b -1]? =some x/\p<=(rel x).length
 fp:FS.Pairwise λf f'=>f.2.1<f'.2.1
 fl:∀l1 f f' l2,FS=l1++f::f'::l2->(rel f.1)[f.2.2]? =some f'.1
 f0:∀f l,FS=f::l->f.2.1=1
 fe:FS=[]->pile=[]
 ed:∀(i w:Nat),pile[i]? =some w->∀y,Pr rel FS w y->h y≠0/\(h y=N+1->sub (r y) (r w))/\∀k:Nat,pile[k]? =some y->h w<=k+1/\∀f∈FS,i+1<f.2.1->k+1<f.2.1
 sg:∀x b p,(x,b,p)∈FS->∀(i z:Nat),b<i+1->pile[i]? =some z->(∀f∈FS,f.2.1<=b\/i+1<f.2.1)->
  (sub (r z) (r x)/\h x<=h z)\/((∀f∈FS,f.2.1<=b)/\∃y,(rel x)[p]? =some y/\y∈pile/\sub (r z) (r y)/\h y<=h z)
section
variable{N:Nat} {rel:Nat->List Nat} {mk r h:Nat->Nat} {pile:List Nat} {FS:List FR}
theorem gc {l:List Nat} (nd:l.Nodup) {i j x:Nat} (e:l[i]? =some x) (e':l[j]? =some x):i=j:=(getElem?_inj (av e) nd).1 (e.trans e'.symm)
theorem DG.len (d:DG N rel mk r h pile FS):pile.length<=N:=cz d.pn d.pl
theorem DG.last (d:DG N rel mk r h pile FS) {f:FR} (e:FS=F++[f]):∀f'∈FS,f'.2.1<=f.2.1:=by
 have:=d.fp;rw[e,pairwise_append]at this;intro f' m;rw[e]at m;rcases Uo.1 m with m|m
 .exact le_of_lt (this.2.2 f' m f (bJ))
 .exact O (VX.1 m) (aY _)
theorem DG.push (d:DG N rel mk r h pile FS) {y:Nat} (yN:y<N) (hy:h y=0) (hl:∀F f,FS=F++[f]->(rel f.1)[f.2.2]? =some y):
 DG N rel mk r (cD h y (pile.length+1)) (pile++[y]) (FS++[(y,pile.length+1,0)]):=by
 have ny:y∉pile:=λm=>((d.vis y yN).1 m).1 hy;have hz:∀z,z≠y->cD h y (pile.length+1) z=h z:=λz n=>ai n;have hyy:cD h y (pile.length+1) y=pile.length+1:=ax rfl;have pn':=ie d.pn ny;have lN:pile.length<N:=by
  have:=cz pn' (N:=N) λz m=>by
   rcases Uo.1 m with m|m
   .exact d.pl z m
   .have:z=y:=by exact VX.1 m
    lia
  rw[length_append]at this;simp only[length_cons,length_nil]at this;assumption
 have old:∀(i z:Nat),(pile++[y])[i]? =some z->pile[i]? =some z/\i<pile.length/\z≠y\/(i=pile.length/\z=y):=λi z e=>by
  rcases lt_or_ge i pile.length with l|l
  .replace e:=Oe (cF l) e
   exact .inl ⟨e,l,λq=>ny (aF (e.trans (be some q)))⟩
  .replace e:=Oe (dj l) e
   have:=av e;simp only[length_cons,length_nil]at this;have i0:i -pile.length=0:=by lia
   rw[i0]at e;exact .inr ⟨by exact Nat.le_antisymm (Nat.sub_eq_zero_iff_le.1 (lt_one_iff.1 ‹_›)) ‹_›,by exact aP e.symm⟩
 have fb:∀f∈FS,f.2.1<=pile.length:=λf m=>Nat.le_of_pred_lt (av (d.fr f.1 f.2.1 f.2.2 m).2.1);refine⟨d.mks,pn',λz m=>?_,λx xN=>?_,λi z e=>?_,λx xN hx y' m=>?_,λx b p m=>?_,?_,λl1 f f' l2 e=>?_,λf l e=>?_,λe=>by simp at e,λi w e y' pr=>?_,λx b p m i z bi e c=>?_⟩
 .rcases Uo.1 m with m|m
  .exact d.pl z m
  .have:z=y:=by exact VX.1 m
   lia
 .by_cases c:x=y
  .refine O c (O hyy ?_);simp;exact ne_of_lt ‹_›
  .refine O (hz x c) ?_;rw[mem_append,<-d.vis x xN];simp[c]
 .rcases old i z e with⟨e,_,n⟩|⟨rfl,eQ⟩
  .exact O (hz z n) (d.hle i z e)
  .obtain rfl:=eQ.symm;exact O hyy (aY _)
 .by_cases c:x=y
  .rw[c,hyy]at hx;lia
  .obtain⟨a,b⟩:=d.dn x xN (Oe (hz x c) hx) y' m;have:y'≠y:=λe=>by rw[e]at a;lia
   exact⟨by exact O (hz y' this) a,b⟩
 .rcases Uo.1 m with m|m
  .obtain⟨a,b',c⟩:=d.fr x b p m;exact⟨a,by exact O (cF (av b')) b',c⟩
  .simp only[mem_singleton,Prod.mk.injEq]at m;exact O m.1 (O m.2.1 (O m.2.2 ⟨by exact aG rfl,by exact getElem?_concat_length,zero_le _⟩))
 .rw[pairwise_append];refine⟨d.fp,by exact pairwise_singleton _ _,λf m f' m'=>?_⟩;refine O (VX.1 m') ?_;have:=fb f m;show f.2.1<pile.length+1;exact di ‹_›
 .rcases eq_nil_or_concat l2 with rfl|⟨l3,f3,rfl⟩
  .have e2:FS++[(y,pile.length+1,0)]=(l1++[f])++[f']:=by refine O e ?_;simp
   obtain⟨e3,e4⟩:=append_inj' e2 rfl;have:f'=(y,pile.length+1,0):=by simpa using e4.symm
   exact O this (hl l1 f e3)
  .have e2:FS++[(y,pile.length+1,0)]=(l1++f::f'::l3)++[f3]:=by refine O e ?_;simp
   obtain⟨e3,e4⟩:=append_inj' e2 rfl;exact d.fl l1 f f' l3 e3
 .induction hF:FS with
  |nil=>
   rw[hF]at e;have:f=(y,pile.length+1,0):=by simpa using(List.cons.inj e).1.symm
   exact O this (O (d.fe hF) rfl)
  |cons f1 l'=>
   rw[hF]at e;have:=(List.cons.inj e).1;exact Ob this (d.f0 f1 l' hF)
 .rcases old i w e with⟨e,il,n⟩|⟨rfl,eQ⟩
  .obtain⟨a,b,c⟩:=d.ed i w e y' ⟨pr.1,λb p m=>pr.2 b p (bM _ m)⟩;have ny':y'≠y:=λe=>a (e▸hy);refine O (hz y' ny') (O (hz w n) ⟨a,b,λk ek=>?_⟩);rcases old k y' ek with⟨ek,kl,_⟩|⟨_,e2⟩
   .obtain⟨c1,c2⟩:=c k ek;refine⟨c1,λf m l=>?_⟩;rcases Uo.1 m with m|m
    .exact c2 f m l
    .refine O (VX.1 m) ?_;show k+1<pile.length+1;exact di ‹_›
   .exact absurd e2 ny'
  .have:=pr.2 (pile.length+1) 0 (by refine O eQ ?_;simp);simp at this
 .rcases Uo.1 m with m1|m1
  .rcases old i z e with⟨e,il,n⟩|⟨rfl,rfl⟩
   .have xp:x≠y:=λq=>ny (q▸aF (d.fr x b p m1).2.1);rcases d.sg x b p m1 i z bi e (λf mf=>c f (bM _ mf))with⟨a,a'⟩|⟨a,y',e1,e2,_⟩
    .exact .inl ⟨a,by exact O (hz x xp) (O (hz z n) a')⟩
    .exfalso;rcases eq_nil_or_concat FS with e0|⟨F,f,e0⟩
     .rw[e0]at m1;exact not_mem_nil m1
     .replace e0:=Eq.trans e0 concat_eq_append
      have hl':=hl F f e0;have pw:=d.fp;rw[e0,pairwise_append]at pw;rw[e0]at m1;rcases Uo.1 m1 with m1|m1
      .have:=pw.2.2 _ m1 f (bJ);have:=a f (by refine O e0 ?_;simp);simp only at *;exact absurd ‹_› (not_lt_of_le ‹_›)
      .have:(x,b,p)=f:=VX.1 m1;rw[<-this]at hl';obtain rfl:=Os e1 hl';exact ny e2
   .have:=fb _ m1;have:=c (z,pile.length+1,0) (dJ);simp only at this;lia
  .simp only[mem_singleton,Prod.mk.injEq]at m1;obtain⟨eQ,rfl,rfl⟩:=m1;obtain rfl:=eQ.symm;have:=av e;rw[length_append]at this;simp only[length_cons,length_nil]at this;exact absurd ‹_› (not_le_of_lt ‹_›)
theorem DG.edge (d:DG N rel mk r h pile FS) {x b p y:Nat} (hF:FS=F++[(x,b,p)]) (e:(rel x)[p]? =some y) (hy:h y≠0) (yN:y<N):
 DG N rel mk (cD r x (r x|||r y)) (cD h x (if h y<h x then h y else h x)) pile (F++[(x,b,p+1)]):=by
 have top:=d.last hF;have mtop:(x,b,p)∈FS:=by refine O hF ?_;simp
 obtain⟨b0,bx,_⟩:=d.fr x b p mtop;have xN:=d.pl x (aF bx);have hx:=(d.vis x xN).1 (aF bx);have hxb:=d.hle _ _ bx;have hz:∀z,z≠x->cD h x (if h y<h x then h y else h x) z=h z:=λz n=>ai n;have hxx:cD h x (if h y<h x then h y else h x) x=if h y<h x then h y else h x:=ax rfl
 have hle:∀z,cD h x (if h y<h x then h y else h x) z<=h z:=λz=>by
  by_cases c:z=x
  .refine O c (O hxx ?_);split<;>lia
  .exact O (hz z c) (aY _)
 have hn:(if h y<h x then h y else h x)≠0/\(if h y<h x then h y else h x)≠N+1:=by
  have:=d.len;have:=av bx;split<;>lia
 have hxy:(if h y<h x then h y else h x)<=h y:=by split<;>lia
 have rz:∀z,z≠x->cD r x (r x|||r y) z=r z:=λz n=>ai n;have rxx:cD r x (r x|||r y) x=r x|||r y:=ax rfl;have rle:∀z,sub (r z) (cD r x (r x|||r y) z):=λz=>by
  by_cases c:z=x
  .exact O c (O rxx (.left _ _))
  .exact O (rz z c) .rfl
 have bases:∀f∈F++[(x,b,p+1)],∃f'∈FS,f'.1=f.1/\f'.2.1=f.2.1:=λf m=>by
  rcases Uo.1 m with m|m
  .exact⟨f,by exact O hF (bM _ m),rfl,rfl⟩
  .exact O (VX.1 m) ⟨_,mtop,rfl,rfl⟩
 have bases':∀f∈FS,∃f'∈F++[(x,b,p+1)],f'.2.1=f.2.1:=λf m=>by
  rw[hF]at m;rcases Uo.1 m with m|m
  .exact⟨f,bM _ m,rfl⟩
  .exact O (VX.1 m) ⟨(x,b,p+1),by exact dJ,rfl⟩
 have pw:=d.fp;rw[hF,pairwise_append]at pw;have lowF:∀f∈F,f.2.1<b:=λf m=>pw.2.2 f m (x,b,p) (bJ);have neF:∀f∈F,f.1≠x:=λf m e=>by
  have:=lowF f m;obtain⟨c0,c,_⟩:=d.fr f.1 f.2.1 f.2.2 (O hF (bM _ m));rw[e]at c;exact ne_of_lt this (Nat.sub_one_cancel c0 b0 (gc d.pn c bx))
 refine⟨λz=>(d.mks z).trans (rle z),d.pn,d.pl,λz zN=>?_,λi z ez=>le_trans (hle z) (d.hle i z ez),λz zN hz' y' m=>?_,λx' b' p' m=>?_,?_,λl1 f f' l2 ee=>?_,λf l ee=>?_,λee=>by simp at ee,λi w ew y' pr=>?_,λx' b' p' m i z bi ez c=>?_⟩
 .by_cases c:z=x
  .exact O c (O hxx ⟨λ_=>hn,λ_=>aF bx⟩)
  .exact O (hz z c) (d.vis z zN)
 .have c:z≠x:=λe=>by rw[e,hxx]at hz';exact hn.2 hz'
  obtain⟨a,a'⟩:=d.dn z zN (Oe (hz z c) hz') y' m;have c':y'≠x:=λe=>by rw[e]at a;exact hx.2 a
  exact O (hz y' c') (O (rz y' c') (O (rz z c) ⟨a,a'⟩))
 .rcases Uo.1 m with m|m
  .exact d.fr x' b' p' (O hF (bM _ m))
  .simp only[mem_singleton,Prod.mk.injEq]at m;exact O m.1 (O m.2.1 (O m.2.2 ⟨b0,bx,av e⟩))
 .rw[pairwise_append];refine⟨pw.1,by exact pairwise_singleton _ _,λf m f' m'=>?_⟩;exact O (VX.1 m') (lowF f m)
 .rcases eq_nil_or_concat l2 with rfl|⟨l3,f3,rfl⟩
  .have e2:F++[(x,b,p+1)]=(l1++[f])++[f']:=by refine O ee ?_;simp
   obtain⟨e3,e4⟩:=append_inj' e2 rfl;have:f'=(x,b,p+1):=by simpa using e4.symm
   refine O this ?_;exact d.fl l1 f (x,b,p) [] (by refine O hF (O e3 ?_);simp)
  .have e2:F++[(x,b,p+1)]=(l1++f::f'::l3)++[f3]:=by refine O ee ?_;simp
   obtain⟨e3,e4⟩:=append_inj' e2 rfl;exact d.fl l1 f f' (l3++[(x,b,p)]) (by refine O hF (O e3 ?_);simp)
 .induction hF':F with
  |nil=>
   rw[hF']at ee hF;have:f=(x,b,p+1):=by simpa using(List.cons.inj ee).1.symm
   exact O this (d.f0 (x,b,p) [] hF)
  |cons f1 l'=>
   rw[hF']at ee hF;have:=(List.cons.inj ee).1;exact Ob this (d.f0 f1 (l'++[(x,b,p)]) hF)
 .have fin:(h y'≠0/\(h y'=N+1->sub (r y') (cD r x (r x|||r y) w))/\∀k:Nat,pile[k]? =some y'->cD h x (if h y<h x then h y else h x) w<=k+1/\∀f∈FS,i+1<f.2.1->k+1<f.2.1)->
   cD h x (if h y<h x then h y else h x) y'≠0/\(cD h x (if h y<h x then h y else h x) y'=N+1->sub (cD r x (r x|||r y) y') (cD r x (r x|||r y) w))/\∀k:Nat,pile[k]? =some y'->cD h x (if h y<h x then h y else h x) w<=k+1/\∀f∈F++[(x,b,p+1)],i+1<f.2.1->k+1<f.2.1:=by
   rintro⟨a,a2,a3⟩;refine⟨?_,λz=>?_,λk ek=>⟨(a3 k ek).1,λf m l=>?_⟩⟩
   .by_cases c:y'=x
    .exact O c (O hxx hn.1)
    .exact O (hz y' c) a
   .have c:y'≠x:=λe=>by rw[e,hxx]at z;exact hn.2 z
    exact O (rz y' c) (a2 (Oe (hz y' c) z))
   .obtain⟨f',m',_,e'⟩:=bases f m;rw[<-e']at l⊢;exact(a3 k ek).2 f' m' l
  apply fin;by_cases c:w=x
  .obtain rfl:=c.symm;have m:=pr.2 b (p+1) (dJ);rw[take_add_one,e]at m;rcases Uo.1 m with m|m
   .have pr':Pr rel FS x y':=⟨pr.1,λb' p' m'=>by
     rw[hF]at m';rcases Uo.1 m' with m'|m'
     .exact absurd rfl (neF _ m')
     .simp only[mem_singleton,Prod.mk.injEq]at m';exact O m'.2.2 m⟩
    obtain⟨a,a2,a3⟩:=d.ed i x ew y' pr';exact⟨a,λz=>(a2 z).trans (rle x),λk ek=>⟨le_trans (hle x) (a3 k ek).1,(a3 k ek).2⟩⟩
   .have:y'=y:=by exact VX.1 m
    refine O this ?_;refine⟨hy,λz=>by exact O rxx (.right _ _),λk ek=>⟨?_,λf m l=>?_⟩⟩
    .exact O hxx (le_trans hxy (d.hle k y ek))
    .have:=gc d.pn ew bx;have:=top f m;simp only at this;lia
  .obtain⟨a,a2,a3⟩:=d.ed i w ew y' ⟨pr.1,λb' p' m'=>by
    rw[hF]at m';rcases Uo.1 m' with m'|m'
    .exact pr.2 b' p' (bM _ m')
    .simp only[mem_singleton,Prod.mk.injEq]at m';exact absurd m'.1 c⟩
   exact⟨a,λz=>(a2 z).trans (rle w),λk ek=>⟨le_trans (hle w) (a3 k ek).1,(a3 k ek).2⟩⟩
 .have c':∀f∈FS,f.2.1<=b'\/i+1<f.2.1:=λf m=>by
   obtain⟨f',m',e'⟩:=bases' f m;exact Ob e' (c f' m')
  rcases Uo.1 m with m|m
  .have lb:=lowF _ m;have xx:=neF _ m;simp only at lb xx;have ib:i+1<b:=by have:=c' _ mtop;simp only at this;lia
   have zx:z≠x:=λe=>by have:=gc d.pn (ez.trans (be some e)) bx;lia
   rcases d.sg x' b' p' (O hF (bM _ m)) i z bi ez c' with⟨a,a'⟩|⟨a,_⟩
   .left;exact O (rz z zx) (O (rz x' xx) (O (hz z zx) (O (hz x' xx) ⟨a,a'⟩)))
   .have:=a _ mtop;simp only at this;exact absurd ‹_› (not_le_of_lt ‹_›)
  .simp only[mem_singleton,Prod.mk.injEq]at m;obtain⟨e1,e2,e3⟩:=m;obtain rfl:=e1.symm;obtain rfl:=e2.symm;obtain rfl:=e3.symm;have zx:z≠x:=λe=>by have:=gc d.pn (ez.trans (be some e)) bx;lia
   left;refine O (rz z zx) (O rxx (O (hz z zx) (O hxx ?_)));rcases d.sg x b p mtop i z bi ez c' with⟨a,a'⟩|⟨_,y',e1,e2,e3,e4⟩
   .exact⟨a.trans (.left _ _),by split<;>lia⟩
   .obtain rfl:=Os e e1;exact⟨e3.trans (.right _ _),le_trans hxy e4⟩
theorem DG.popN (d:DG N rel mk r h pile FS) (hF:FS=F++[(x,b,p)]) (hp:p=(rel x).length) (hb:h x≠b):DG N rel mk r h pile F/\F≠[]:=by
 have top:=d.last hF;have mtop:(x,b,p)∈FS:=by refine O hF ?_;simp
 o_shape;obtain⟨b0,bx,_⟩:=d.fr x b p mtop;pv_eval;have xN:=d.pl x (aF bx);have hx:=(d.vis x xN).1 (aF bx);have hxb:=d.hle _ _ bx;have pw:=d.fp;rw[hF,pairwise_append]at pw;have lowF:∀f∈F,f.2.1<b:=λf m=>pw.2.2 f m (x,b,p) (bJ);have inF:∀f∈F,f∈FS:=λf m=>by exact O hF (bM _ m)
 have ne:F≠[]:=by
  rintro rfl;have:=d.f0 (x,b,p) [] hF;simp only at this;lia
 refine⟨⟨d.mks,d.pn,d.pl,d.vis,d.hle,d.dn,λx' b' p' m=>d.fr x' b' p' (inF _ m),pw.1,λl1 f f' l2 ee=>d.fl l1 f f' (l2++[(x,b,p)]) (by refine O hF (O ee ?_);simp),λf l ee=>d.f0 f (l++[(x,b,p)]) (by refine O hF (O ee ?_);simp),λe=>absurd e ne,λi w ew y' pr=>?_,λx' b' p' m i z bi ez c=>?_⟩,ne⟩
 .obtain⟨a,a2,a3⟩:=d.ed i w ew y' ⟨pr.1,λb' p' m'=>by
   rw[hF]at m';rcases Uo.1 m' with m'|m'
   .exact pr.2 b' p' m'
   .simp only[mem_singleton,Prod.mk.injEq]at m';exact O m'.2.2 (O hp (O m'.1 (O take_length (m'.1▸pr.1))))⟩
  exact⟨a,a2,λk ek=>⟨(a3 k ek).1,λf m l=>(a3 k ek).2 f (inF f m) l⟩⟩
 .have lb:=lowF _ m;simp only at lb;by_cases ib:i+1<b
  .rcases d.sg x' b' p' (inF _ m) i z bi ez (λf mf=>by
    rw[hF]at mf;rcases Uo.1 mf with mf|mf
    .exact c f mf
    .exact O (VX.1 mf) (.inr ib))with a|⟨a,_⟩
   .exact .inl a
   .have:=a _ mtop;simp only at this;exact absurd ‹_› (not_le_of_lt ‹_›)
  .right;have last:∀f∈F,f.2.1<=b':=λf mf=>(c f mf).resolve_right λl=>by have:=lowF f mf;lia
   refine⟨last,x,?_,aF bx,?_⟩
   .rcases eq_nil_or_concat F with e0|⟨F0,f,e0⟩
    .exact absurd e0 ne
    .replace e0:=Eq.trans e0 concat_eq_append
     have ff:(x',b',p')=f:=by
      rw[e0]at m;rcases Uo.1 m with m|m
      .have pF:=pw.1;rw[e0,pairwise_append]at pF;have:=pF.2.2 _ m f (bJ);have:=last f (by refine O e0 ?_;simp);simp only at *;exact absurd ‹_› (not_lt_of_le ‹_›)
      .exact VX.1 m
     have:=d.fl F0 f (x,b,p) [] (by refine O hF (O e0 ?_);simp);rw[<-ff]at this;exact this
   .by_cases i1:i=b -1
    .rw[i1,bx]at ez;obtain rfl:=aP ez;exact⟨.rfl,aY _⟩
    .rcases d.sg x b p mtop i z (by lia) ez (λf mf=>.inl (top f mf))with a|⟨_,y',e1,_⟩
     .exact a
     .rw[hp,getElem?_eq_none (le_refl _)]at e1;exact bv e1
theorem DG.popR (d:DG N rel mk r h pile FS) (hF:FS=F++[(x,b,p)]) (hp:p=(rel x).length) (hb:h x=b) (rN:∀x y,y∈rel x->y<N) {r' h':Nat->Nat}
 (hh:∀z,h' z=if z∈pile.drop (b -1)then N+1 else h z) (hr:∀z,r' z=if z∈pile.drop (b -1)then r x else r z):DG N rel mk r' h' (pile.take (b -1)) F:=by
 have top:=d.last hF;have mtop:(x,b,p)∈FS:=by refine O hF ?_;simp
 obtain⟨b0,bx,_⟩:=d.fr x b p mtop;have pw:=d.fp;rw[hF,pairwise_append]at pw;have lowF:∀f∈F,f.2.1<b:=λf m=>pw.2.2 f m (x,b,p) (bJ);have inF:∀f∈F,f∈FS:=λf m=>by exact O hF (bM _ m)
 have inD:∀z,z∈pile.drop (b -1)↔∃i,b<=i+1/\pile[i]? =some z:=λz=>by
  rw[List.mem_iff_getElem?];constructor
  .rintro⟨k,hk⟩;exact⟨_,by lia,(Oe getElem?_drop hk)⟩
  .rintro⟨i,l,e⟩;exact⟨i -(b -1),by exact O getElem?_drop (O (Nat.add_sub_cancel' (Nat.sub_le_iff_le_add.2 l)) e)⟩
 have tk:∀(i z:Nat),(pile.take (b -1))[i]? =some z->pile[i]? =some z/\i+1<b/\z∉pile.drop (b -1):=λi z e=>by
  have l:=av e;rw[length_take]at l;have l:=(lt_min.1 l).1
  replace e:=Oe (ax l) (Oe getElem?_take e)
  have l:=Nat.add_lt_of_lt_sub l;refine⟨e,l,λm=>?_⟩;obtain⟨j,lj,ej⟩:=(inD z).1 m;have:=gc d.pn e ej;lia
 have seg:∀z,z∈pile.drop (b -1)->sub (r z) (r x)/\b<=h z:=λz m=>by
  o_shape;obtain⟨i,l,e⟩:=(inD z).1 m;pv_eval;by_cases i1:i=b -1
  .rw[i1,bx]at e;obtain rfl:=aP e;exact⟨.rfl,by exact le_of_eq (Eq.symm ‹_›)⟩
  .rcases d.sg x b p mtop i z (by lia) e (λf mf=>.inl (top f mf))with⟨a,a'⟩|⟨_,y',e1,_⟩
   .exact⟨a,by lia⟩
   .rw[hp,getElem?_eq_none (le_refl _)]at e1;exact bv e1
 have inP:∀z,z∈pile.drop (b -1)->z∈pile:=λz m=>mem_of_mem_drop m;have iy:∀z,z∈pile.drop (b -1)->r' z=r x:=λz m=>by exact O (hr ..) (O (ax m) rfl)
 have r_out:∀z,z∉pile.drop (b -1)->r' z=r z:=λz m=>by exact O (hr ..) (O (ai m) rfl)
 have h_in:∀z,z∈pile.drop (b -1)->h' z=N+1:=λz m=>by exact O (hh ..) (O (ax m) rfl)
 have h_out:∀z,z∉pile.drop (b -1)->h' z=h z:=λz m=>by exact O (hh ..) (O (ai m) rfl)
 have prF:∀(i w y:Nat),(pile.take (b -1))[i]? =some w->Pr rel F w y->Pr rel FS w y:=λi w y ew pr=>⟨pr.1,λb' p' m'=>by
  rw[hF]at m';rcases Uo.1 m' with m'|m'
  .exact pr.2 b' p' m'
  .simp only[mem_singleton,Prod.mk.injEq]at m';exact absurd ((inD w).2 ⟨_,by exact le_of_eq (Eq.symm (sub_add_cancel ‹_›)),bx.trans (be some m'.1.symm)⟩) (tk i w ew).2.2⟩
 refine⟨λz=>?_,d.pn.sublist (take_sublist _ _),λz m=>d.pl z (List.mem_of_mem_take m),λz zN=>?_,λi z e=>?_,λz zN hz y m=>?_,λx' b' p' m=>?_,pw.1,λl1 f f' l2 ee=>d.fl l1 f f' (l2++[(x,b,p)]) (by refine O hF (O ee ?_);simp),λf l ee=>d.f0 f (l++[(x,b,p)]) (by refine O hF (O ee ?_);simp),λe=>?_,λi w ew y pr=>?_,λx' b' p' m i z bi ez c=>?_⟩
 .by_cases m:z∈pile.drop (b -1)
  .exact O (iy z m) ((d.mks z).trans (seg z m).1)
  .exact O (r_out z m) (d.mks z)
 .by_cases m:z∈pile.drop (b -1)
  .refine O (h_in z m) ⟨λm'=>?_,λzq=>by obtain⟨_,e⟩:=zq;exact absurd rfl e⟩;obtain⟨i,ei⟩:=U0.1 m';exact absurd m (tk i z ei).2.2
  .refine O (h_out z m) ?_;rw[<-d.vis z zN]
   conv=>rhs;rw[<-take_append_drop (b -1) pile]
   rw[mem_append];exact⟨.inl,λw=>w.resolve_right m⟩
 .obtain⟨e,_,m⟩:=tk i z e;exact O (h_out z m) (d.hle i z e)
 .by_cases mz:z∈pile.drop (b -1)
  .obtain⟨i,li,ei⟩:=(inD z).1 mz;have pr:Pr rel FS z y:=⟨m,λb' p' m'=>by
    have m0:=m';rw[hF]at m';rcases Uo.1 m' with m'|m'
    .have:=lowF _ m';obtain⟨c0,c1,_⟩:=d.fr _ _ _ m0;have:=gc d.pn c1 ei;simp only at *;lia
    .simp only[mem_singleton,Prod.mk.injEq]at m';exact O m'.2.2 (O hp (O m'.1 (O take_length (m'.1▸m))))⟩
   obtain⟨a,a2,a3⟩:=d.ed i z ei y pr;by_cases c:h y=N+1
   .have ny:y∉pile.drop (b -1):=λm'=>((d.vis y (rN z y m)).1 (inP y m')).2 c;exact O (h_out y ny) (O (r_out y ny) (O (iy z mz) ⟨c,(a2 c).trans (seg z mz).1⟩))
   .have my:=(d.vis y (rN z y m)).2 ⟨a,c⟩;obtain⟨k,ek⟩:=U0.1 my;have:=(a3 k ek).1;have:=(seg z mz).2;have md:y∈pile.drop (b -1):=(inD y).2 ⟨k,by exact le_trans ‹_› ‹_›,ek⟩;exact O (h_in y md) (O (iy y md) (O (iy z mz) ⟨rfl,.rfl⟩))
  .obtain⟨a,a2⟩:=d.dn z zN (Oe (h_out z mz) hz) y m;have ny:y∉pile.drop (b -1):=λm'=>((d.vis y (rN z y m)).1 (inP y m')).2 a;exact O (h_out y ny) (O (r_out y ny) (O (r_out z mz) ⟨a,a2⟩))
 .obtain⟨c0,c1,c2⟩:=d.fr x' b' p' (inF _ m);have:=lowF _ m;simp only at this;exact⟨c0,by exact O getElem?_take (O (ax (Nat.sub_lt_sub_right ‹_› ‹_›)) c1),c2⟩
 .have:b=1:=by have:=d.f0 (x,b,p) [] (O hF (O e rfl));exact this
  exact O this rfl
 .obtain⟨a,a2,a3⟩:=d.ed i w (tk i w ew).1 y (prF i w y ew pr);have nw:=(tk i w ew).2.2;have ny:y∉pile.drop (b -1):=λm=>by
   obtain⟨k,lk,ek⟩:=(inD y).1 m;have:=(a3 k ek).2 _ mtop (tk i w ew).2.1;simp only at this;exact absurd ‹_› (not_lt_of_le ‹_›)
  refine O (h_out y ny) (O (r_out y ny) (O (r_out w nw) (O (h_out w nw) ⟨a,a2,λk ek=>⟨(a3 k (tk k y ek).1).1,λf m l=>(a3 k (tk k y ek).1).2 f (inF f m) l⟩⟩)))
 .have lb:=lowF _ m;simp only at lb;o_shape;obtain⟨ez',li,nz⟩:=tk i z ez;obtain⟨c0,c1,_⟩:=d.fr x' b' p' (inF _ m);pv_eval;have nx:x'∉pile.drop (b -1):=λm'=>by
   obtain⟨k,lk,ek⟩:=(inD x').1 m';have:=gc d.pn c1 ek;lia
  rcases d.sg x' b' p' (inF _ m) i z bi ez' (λf mf=>by
   rw[hF]at mf;rcases Uo.1 mf with mf|mf
   .exact c f mf
   .exact O (VX.1 mf) (.inr li))with⟨a,a'⟩|⟨a,_⟩
  .left;exact O (r_out z nz) (O (r_out x' nx) (O (h_out z nz) (O (h_out x' nx) ⟨a,a'⟩)))
  .have:=a _ mtop;simp only at this;exact absurd ‹_› (not_le_of_lt ‹_›)
end
noncomputable def gf (l:List Nat):Nat->Nat:=λx=>l[x]?.getD 0
theorem fZ {l:List Nat} (h:x<l.length):gf (l.set x v)=cD (gf l) x v:=by
 funext z;unfold gf cD;refine O c9 ?_;by_cases c:x=z
 .subst c;simp[h]
 .have:¬z=x:=λe=>c e.symm;simp[c,this]
theorem dO {l:List Nat} {x:Nat} (h:x<l.length):l[x]? =some (gf l x):=gK h
noncomputable def zc (l:List Nat):Nat:=l.countP (· ==0)
theorem Vu (l:List Nat):∀(y v:Nat),l[y]? =some 0->v≠0->zc (l.set y v)+1=zc l:=by
 induction l with
 |nil=>intro y v e;exact On getElem?_nil e
 |cons x l ih=>
  intro y v e n;rcases y with _|y
  .obtain rfl:=aP e;simp[zc,n]
  .have:=ih y v e n;simp only[zc,set_cons_succ,countP_cons]at this⊢;lia
theorem Vt (l:List Nat):∀(y v w:Nat),l[y]? =some w->w≠0->v≠0->zc (l.set y v)=zc l:=by
 induction l with
 |nil=>intro y v w e;exact On getElem?_nil e
 |cons x l ih=>
  intro y v w e n n';rcases y with _|y
  .obtain rfl:=aP e;simp[zc,n,n']
  .have:=ih y v w e n n';simp only[zc,set_cons_succ,countP_cons]at this⊢;lia
noncomputable def eP (FS:List FR):Nat->List Nat:=λj=>match FS[j]? with
 |some (x,b,p)=>[x,b,p]
 |none=>[]
noncomputable def gn (rel:Nat->List Nat) (FS:List FR):Nat:=(FS.map λf=>(rel f.1).length -f.2.2+1).sum
theorem jy (rel:Nat->List Nat) (F:List FR) (f:FR):gn rel (F++[f])=gn rel F+((rel f.1).length -f.2.2+1):=by simp[gn]
structure RelAt (V:IH) (ra:Addr) (us:List Addr) (N:Nat) (rel:Nat->List Nat):Prop where
 obj:V ra=some (.list (us.map IV.ref))
 len:us.length=N
 at_:∀x,x<N->∃a,us[x]? =some a/\V a=some (.list (nl (rel x)))
theorem RelAt.mono {rel:Nat->List Nat} (h:RelAt V ra us N rel) (e:Ext V V'):RelAt V' ra us N rel:=⟨e _ _ h.obj,h.len,λx l=>by obtain⟨a,p,q⟩:=h.at_ x l;exact⟨a,p,e _ _ q⟩⟩
structure MN (N:Nat) (l:List Nat):Prop where
 len:l.length=N
 lt:∀x,gf l x<32
theorem MN.set {l:List Nat} (h:MN N l) (lv:v<32):MN N (l.set x v):=by
 refine⟨by simp[h.len],λy=>?_⟩;unfold gf;refine O c9 ?_;split
 .split
  .exact lv
  .decide
 .exact h.lt y
theorem HU (us:List Addr) (a:Addr) (f g:Nat->List Nat) (e:∀j,j<us.length->f j=g j):aJ (us++[a]) f=aJ us g++[(a,.list (nl (f us.length)))]:=by
 unfold aJ;refine O mapIdx_append ?_;congr 1
 .apply ext_getElem?;intro j;refine O getElem?_mapIdx (O getElem?_mapIdx ?_)
  induction h:us[j]? with
  |none=>rfl
  |some b=>simp[e j (av h)]
 .simp
noncomputable def eN (fa pa ha ra:Addr) (fus:List Addr) (FS:List FR) (pile hs rs:List Nat):List (Addr×IO):=
 [(fa,.list (fus.map IV.ref)),(pa,.list (nl pile)),(ha,.list (nl hs)),(ra,.list (nl rs))]++aJ fus (eP FS)
def yw (V:IH) (N:Nat) (rel:Nat->List Nat) (mk:List Nat) (D:Nat) (a0 a1 a2:IV) (pa ha ra fa:Addr) (i:Nat) (m:Nat) (Z:aL) (V':IH):Prop:=E8 λrs hs pile FS fus o9 o10 o11=>E1 λo12=>A8
 (Z=[some a0,some a1,some a2,some (.ref ra),some (.ref ha),some (.int ((N+1:Nat):Int)),some (.ref pa),some (.int (i:Nat)),some (.ref fa),o9,o10,o11,o12])
 (m=zc hs*(D+2)+gn rel FS) (fus.length=FS.length) (DG N rel (gf mk) (gf rs) (gf hs) pile FS) (MN N rs) (hs.length=N) (∀x,x<=i->gf hs x≠0)<|H V V' (eN fa pa ha ra fus FS pile hs rs)
theorem jQ {fu:List Addr} {fr:Addr} {F:List FR} (l:fu.length=F.length):
 eN fa pa ha ra (fu++[fr]) (F++[(x,b,p)]) pile hs rs=[(fa,.list ((fu++[fr]).map IV.ref)),(pa,.list (nl pile)),(ha,.list (nl hs)),(ra,.list (nl rs))]++(aJ fu (eP F)++[(fr,.list (nl [x,b,p]))]):=by
 unfold eN;rw[HU fu fr (eP (F++[(x,b,p)])) (eP F) λj hj=>by
  unfold eP;exact O (List.getElem?_append_left (Nat.lt_of_lt_of_eq ‹_› ‹_›)) rfl]
 have:eP (F++[(x,b,p)]) fu.length=[x,b,p]:=by
  unfold eP;refine O l ?_;simp
 exact O this rfl
section
variable{B:Bs} (hB:Base B) {n:Nat} {V:IH} {Q:QE}
include hB
abbrev D4 (V:IH) (N:Nat) (rel:Nat->List Nat) (mk:List Nat) (re:Addr) (ma:Addr) (ra:Addr) (ha:Addr) (pa:Addr) (i:Nat) (Z:aL) (V':IH):Prop:=
 E8 λrs hs o7 o8 o9 o10 o11 o12=>A6 (Z=[some (.int (N:Nat)),some (.ref re),some (.ref ma),some (.ref ra),some (.ref ha),some (.int ((N+1:Nat):Int)),some (.ref pa),o7,o8,o9,o10,o11,o12]) (DG N rel (gf mk) (gf rs) (gf hs) [] []) (MN N rs) (hs.length=N) (∀x,x<i->gf hs x≠0)<|H V V' [(pa,.list (nl [])),(ha,.list (nl hs)),(ra,.list (nl rs))]
abbrev D5 (V:IH) (N:Nat) (re:Addr) (ma:Addr) (ra:Addr) (ha:Addr) (pa:Addr) (i:Nat) (fa:Addr) (rs:List Nat) (hs:List Nat) (pile:List Nat) (o11:Option IV) (F:List FR) (x:Nat) (b:Nat) (p:Nat) (fu:List Addr) (fr:Addr) (m:Nat) (Z:aL) (V':IH):Prop:=
 E4 λla rs2 hs2 pl2=>A9 (Z=[some (.int (N:Nat)),some (.ref re),some (.ref ma),some (.ref ra),some (.ref ha),some (.int ((N+1:Nat):Int)),some (.ref pa),some (.int (i:Nat)),some (.ref fa),some (.ref fr),some (.int (x:Nat)),o11,some (.int la)]) (b -1<=m/\m<=pile.length) (pl2=pile.take m) (if m=pile.length then la= -1 else∃v:Nat,pile[m]? =some v/\la=v) (MN N rs2) (hs2.length=N) (∀z,gf hs2 z=if z∈pile.drop m then N+1 else gf hs z) (∀z,gf rs2 z=if z∈pile.drop m then gf rs x else gf rs z)<|H V V' (eN fa pa ha ra fu F pl2 hs2 rs2++[(fr,.list (nl [x,b,p]))])
theorem Dc {N D:Nat} {rel:Nat->List Nat} (hre:RelAt V re us N rel) (hma:V ma=some (.list (nl mk))) (hmk:MN N mk) (hN:N<999999) (hD:∀x,(rel x).length<=D) (rN:∀x y,y∈rel x->y<N)
 (q:∀rs r V',MN N rs->(∀x,sub (gf mk x) (gf rs x))->(∀x,x<N->∀y∈rel x,sub (gf rs y) (gf rs x))->H V V' [(r,.list (nl rs))]->Q (.ref r) V'):CallOk B (n+1) 676 [.int (N:Nat),.ref re,.ref ma] V Q:=by
 refine FB hB ?_;w_fin;refine gH hma λra hra=>?_;have h1:=(H.nil (V:=V)).new (.list (nl mk)) hra;generalize upd V ra (.list (nl mk))=V1 at h1⊢;w_fin;refine⟨by decide,λr hr=>?_⟩;refine gX (bB _ _ _) (by lia) (by lia) λha hha=>?_;have h2:=(h1.call (Ext.new (o:=.list [.int 0]) hr)).new (.list (nl (List.replicate N 0))) hha;rw[show∀s:IH,upd s ha (.list (List.replicate (N:Int).toNat (.int 0)))=upd s ha (.list (nl (List.replicate N 0)))from λ_=>by rw[toNat_natCast,nl,List.map_replicate];rfl];generalize upd (upd V1 r (.list [.int 0])) ha (.list (nl (List.replicate N 0)))=V2 at h2⊢;clear h1 hr hha hra;w_fin;refine de ?_;refine O (show((N:Int)+1)=((N+1:Nat):Int) by lia) ?_;w_fin;refine⟨by decide,λpa hpa=>?_⟩;have h3:=h2.new (.list (nl [])) hpa;refine O (show upd V2 pa (.list [])=upd V2 pa (.list (nl []))from rfl) ?_;generalize upd V2 pa (.list (nl []))=V3 at h3⊢;clear h2 hpa;w_fin;refine dF (by lia) ?_;refine aU (D4 V N rel mk re ma ra ha pa) ⟨mk,List.replicate N 0,none,none,none,none,none,none,rfl,?_,hmk,by simp,λx l=>by lia,h3⟩ ?_ ?_
 .have z:∀x,gf (List.replicate N 0) x=0:=λx=>by unfold gf;refine O getElem?_replicate ?_;split<;>rfl
  exact⟨λx=>.rfl,nodup_nil,λz m=>(by cases m),λx l=>by refine O (z ..) ?_;simp,λi z e=>by simp at e,λx l e=>by rw[z]at e;lia,λx b p m=>(by cases m),List.Pairwise.nil,λl1 f f' l2 e=>by simp at e,λf l e=>(by cases e),λ_=>rfl,λi w e=>by simp at e,λx b p m=>(by cases m)⟩
 .clear h3;rintro i Z V' y Fk hFk hy ⟨rs,hs,o7,o8,o9,o10,o11,o12,rfl,dg,mrs,lhs',vis,hh⟩;refine⟨trivial,?_⟩;refine eI hy λiN=>?_;w_fin;refine aB (hh.get 1 rfl) (bf (dO (by lia:i<hs.length)))<|fn<|aO (λc=>?_) (λc=>?_)
  .w_fin;refine hFk _ _ ⟨rs,hs,_,_,_,_,_,_,rfl,dg,mrs,lhs',λx l=>?_,hh⟩;by_cases e:x=i
   .obtain rfl:=e.symm;intro z;rw[z]at c;exact c rfl
   .exact vis x (by lia)
  .have c0:gf hs i=0:=by lia
   w_fin;refine⟨bz (hh.get 0 rfl),bZ (hh.get 0 rfl) (by decide) ?_⟩;refine O (dB ..) ?_;have h2:=hh.put 0 (o':=.list (nl ([]++[i]))) rfl;generalize upd V' pa (.list (nl ([]++[i])))=V1 at h2⊢;w_fin;refine cB (h2.get 0 rfl)<|fV (h2.get 1 rfl) (by refine O (aE ..) ?_;lia) ?_;refine O (show((nl ([]++[i])).length:Int)=((1:Nat):Int)from rfl) (O (kG ..) ?_);have h3:=h2.put 1 (o':=.list (nl (hs.set i 1))) rfl;generalize upd V1 ha (.list (nl (hs.set i 1)))=V2 at h3⊢;clear hh h2;w_fin;refine cB (h3.get 0 rfl) ⟨by decide,λfr hfr=>⟨by decide,λfa hfa=>?_⟩⟩;have h4:=(h3.new (.list (nl [i,1,0])) hfr).new (.list ([fr].map IV.ref)) hfa;rw[show∀s:IH,upd s fr (.list [.int (i:Nat),.int ((nl ([]++[i])).length:Nat),.int 0])=upd s fr (.list (nl [i,1,0]))from λ_=>rfl];rw[show∀s:IH,upd s fa (.list [.ref fr])=upd s fa (.list ([fr].map IV.ref))from λ_=>rfl];generalize upd (upd V2 fr (.list (nl [i,1,0]))) fa (.list ([fr].map IV.ref))=V4 at h4⊢;have h5:H V V4 (eN fa pa ha ra [fr] [(i,1,0)] [i] (hs.set i 1) rs):=h4.perm (.cons _ (by
    exact dc (l₁:=[(fr,IO.list (nl [i,1,0]))]) (l₂:=[(pa,IO.list (nl ([]++[i]))),(ha,.list (nl (hs.set i 1))),(ra,.list (nl rs))])))
   clear h3 h4 hfr hfa;have dg1:=dg.push (y:=i) iN c0 (λF f e=>by simp at e);rw[<-fZ (by lia:i<hs.length)]at dg1;w_fin;refine gw (yw V N rel mk D (.int (N:Nat)) (.ref re) (.ref ma) pa ha ra fa i) ⟨_,rs,hs.set i 1,[i],[(i,1,0)],[fr],o9,o10,o11,o12,rfl,rfl,rfl,dg1,mrs,by simp[lhs'],λx l=>?_,h5⟩ ?_
   .refine O (fZ (by lia:i<hs.length)) ?_;unfold cD;split
    .decide
    .exact vis x (by lia)
   clear h5 dg1 dg mrs lhs' vis c c0;rintro m Z V' Gk hGk ⟨rs,hs,pile,FS,fus,o9,o10,o11,o12,rfl,rfl,fl,dg,mrs,lhs',vis,hh⟩;w_left;refine ze (hh.get 0 rfl) ?_;rcases eq_nil_or_concat FS with eQ|⟨F,⟨x,b,p⟩,eFS⟩
   .obtain rfl:=eQ.symm;have:fus=[]:=List.eq_nil_of_length_eq_zero (O fl rfl);subst this;refine cJ ?_;have:=dg.fe rfl;subst this;exact hFk _ _ ⟨rs,hs,_,_,_,_,_,_,rfl,dg,mrs,lhs',λx l=>vis x (by lia),hh.sub (.cons _ (.refl _))⟩
   .rw[concat_eq_append]at eFS;subst eFS;rcases eq_nil_or_concat fus with rfl|⟨fu,fr,efu⟩
    .rw[length_append]at fl;simp at fl
    rw[concat_eq_append]at efu;subst efu;have fl:fu.length=F.length:=by simpa using fl
    rw[jQ fl]at hh;refine O (show(!((fu++[fr]).map IV.ref).isEmpty)=true by simp) (fx ?_);have gfr:V' fr=some (.list (nl [x,b,p])):=by
     have:=hh;rw[<-append_assoc]at this;exact this.last
    have mtop:(x,b,p)∈F++[(x,b,p)]:=by simp
    obtain⟨b0,bx,pl⟩:=dg.fr x b p mtop;have xN:=dg.pl x (aF bx);have pN:=dg.len;have hx:=(dg.vis x xN).1 (aF bx);w_fin;refine gV (x:=.ref fr) (hh.get 0 rfl) (by simp) ?_;w_fin;refine aB (k:=0) gfr rfl ?_;w_fin;obtain⟨u,hu,hu2⟩:=(hre.mono hh.ext).at_ x xN;refine aB (k:=2) gfr rfl<|aB (hre.mono hh.ext).obj (iz hu)<|cB hu2<|dE<|aO (λc=>?_) (λc=>?_)
    .rw[length_map]at c;have c':p<(rel x).length:=by lia
     refine bg c' λy hy=>?_;have yN:=rN x y (aF hy);w_fin;refine aB (hre.mono hh.ext).obj (iz hu)<|aB (k:=2) gfr rfl<|aB hu2 (bf hy) ?_;w_fin;refine aB (hh.get 2 rfl) (bf (dO (by lia:y<hs.length)))<|cV<|aO (λc2=>?_) (λc2=>?_)
     .
      have hy0:gf hs y=0:=by lia
      have dg2:=dg.push yN hy0 (λF' f e=>by
       obtain⟨_,e2⟩:=append_inj' e rfl;have:f=(x,b,p):=by simpa using e2.symm
       exact O this hy)
      rw[<-fZ (by lia:y<hs.length)]at dg2;have pl2:pile.length<N:=by have:=dg2.len;rw[length_append]at this;simp only[length_cons,length_nil]at this;lia
      w_fin;refine⟨bz (hh.get 1 rfl),dY (hh.get 1 rfl) (by lia) ?_⟩;have h2:=hh.put 1 (o':=.list (nl (pile++[y]))) rfl;generalize upd V' pa (.list (nl (pile++[y])))=V1 at h2⊢;have ll:(nl (pile++[y])).length=pile.length+1:=by simp
      w_fin;refine cB (h2.get 1 rfl)<|fV (h2.get 2 rfl) (by refine O (aE ..) ?_;lia) ?_;refine O ll (O (kG ..) ?_);have h3:=h2.put 2 (o':=.list (nl (hs.set y (pile.length+1)))) rfl;generalize upd V1 ha (.list (nl (hs.set y (pile.length+1))))=V2 at h3⊢;clear h2;w_fin;refine⟨bz (h3.get 0 rfl),cB (h3.get 1 rfl) ⟨by decide,λf2 hf2=>?_⟩⟩;refine O ll ?_;have h4:=h3.new (.list (nl [y,pile.length+1,0])) hf2;have e0:upd V2 f2 (.list [.int (y:Nat),.int ((pile.length+1:Nat):Int),.int 0])=upd V2 f2 (.list (nl [y,pile.length+1,0])):=rfl;refine O e0 ?_;have fle:(F++[(x,b,p)]).length<=pile.length:=by
       have nd:((F++[(x,b,p)]).map (·.2.1)).Nodup:=by
        rw[List.Nodup,pairwise_map];exact dg.fp.imp λl=>by lia
       have:=cz nd (N:=pile.length+1) λv mv=>by
        obtain⟨f,mf,rfl⟩:=mem_map.1 mv;exact di (Nat.le_of_pred_lt (av (dg.fr f.1 f.2.1 f.2.2 mf).2.1))
       have nz:((F++[(x,b,p)]).map (·.2.1 -1)).Nodup:=by
        rw[List.Nodup,pairwise_map];exact dg.fp.imp_of_mem λ{f f'} mf mf' l e=>ne_of_lt l (Nat.sub_one_cancel (dg.fr f.1 f.2.1 f.2.2 mf).1 (dg.fr f'.1 f'.2.1 f'.2.2 mf').1 e)
       have:=cz nz (N:=pile.length) λv mv=>by
        obtain⟨f,mf,rfl⟩:=mem_map.1 mv;have:=dg.fr f.1 f.2.1 f.2.2 mf;exact av this.2.1
       rwa[aE]at this
      rw[length_append]at fle;simp only[length_cons,length_nil]at fle;refine bZ (h4.get 1 rfl) (by simp;lia) ?_;have h5:=h4.put 1 (o':=.list ((fu++[fr]).map IV.ref++[.ref f2])) rfl;generalize upd (upd V2 f2 (.list (nl [y,pile.length+1,0]))) fa (.list ((fu++[fr]).map IV.ref++[.ref f2]))=V4 at h5⊢;have h6:H V V4 (eN fa pa ha ra ((fu++[fr])++[f2]) ((F++[(x,b,p)])++[(y,pile.length+1,0)]) (pile++[y]) (hs.set y (pile.length+1)) rs):=by
       refine O (jQ (by simp[fl])) (h5.perm ?_);have e1:aJ (fu++[fr]) (eP (F++[(x,b,p)]))=aJ fu (eP F)++[(fr,.list (nl [x,b,p]))]:=by
        have:=jQ (fa:=fa) (pa:=pa) (ha:=ha) (ra:=ra) (fr:=fr) (x:=x) (b:=b) (p:=p) (pile:=pile) (hs:=hs) (rs:=rs) fl;unfold eN at this;exact List.append_cancel_left this
       exact O e1 (Ob (cw ..) (O (show((fu++[fr])++[f2]).map IV.ref=(fu++[fr]).map IV.ref++[.ref f2] by simp) (dc (l₁:=[(f2,IO.list (nl [y,pile.length+1,0]))]))))
      w_fin;have zs:=Vu hs y (pile.length+1) (O (dO (by lia:y<hs.length)) (O hy0 rfl)) (by lia);refine hGk _ _ ⟨_,?_,rs,_,_,_,_,_,_,_,_,rfl,rfl,by simp[fl],dg2,mrs,by simp[lhs'],λz l=>?_,h6⟩
      .refine O (jy ..) ?_;have:=hD y;have em:zc hs*(D+2)=zc (hs.set y (pile.length+1))*(D+2)+(D+2):=by exact Ob zs (O (Nat.add_mul ..) (O (Nat.one_mul ..) rfl))
       show _+(_+((rel y).length+1))<_;rw[em,Nat.add_assoc];refine add_lt_add_left ?_ _;rw[Nat.add_comm (gn _ _)];exact Nat.add_lt_add_right (Nat.succ_lt_succ (di this)) _
      .refine O (fZ (by lia:y<hs.length)) ?_;unfold cD;split
       .lia
       .exact vis z l
     .
      have hy0:gf hs y≠0:=λz=>c2 (O z rfl);have dg2:=dg.edge rfl hy hy0 yN;have hxl:x<hs.length:=by lia
      have hrl:x<rs.length:=by exact O mrs.len xN
      w_fin;refine aB (k:=2) gfr rfl<|de<|fV (k:=2) gfr (aG rfl) ?_;refine O (show(nl [x,b,p]).set 2 (.int ((p:Int)+1))=nl [x,b,p+1]from rfl) ?_;have h2:H V (upd V' fr (.list (nl [x,b,p+1]))) (eN fa pa ha ra (fu++[fr]) (F++[(x,b,p+1)]) pile hs rs):=by
       refine O (jQ fl) ?_;have e0:∀w:List Nat,([(fa,IO.list ((fu++[fr]).map IV.ref)),(pa,IO.list (nl pile)),(ha,IO.list (nl hs)),(ra,IO.list (nl rs))]++(aJ fu (eP F)++[(fr,IO.list (nl w))])).Perm ((fr,IO.list (nl w))::([(fa,IO.list ((fu++[fr]).map IV.ref)),(pa,IO.list (nl pile)),(ha,IO.list (nl hs)),(ra,IO.list (nl rs))]++aJ fu (eP F))):=λw=>by
        exact Ob (cw ..) (dc (l₂:=[(fr,IO.list (nl w))]))
       exact((hh.perm (e0 _)).put 0 (o':=.list (nl [x,b,p+1])) rfl).perm (e0 _).symm
      generalize upd V' fr (.list (nl [x,b,p+1]))=V1 at h2⊢;clear hh gfr;have fin:∀(V2:IH) (hs2:List Nat) (K:Kn),gf hs2=cD (gf hs) x (if gf hs y<gf hs x then gf hs y else gf hs x)->hs2.length=N->zc hs2=zc hs->H V V2 (eN fa pa ha ra (fu++[fr]) (F++[(x,b,p+1)]) pile hs2 rs)->
       (∀Z s,(∃j,j<zc hs*(D+2)+gn rel (F++[(x,b,p)])/\yw V N rel mk D (.int (N:Nat)) (.ref re) (.ref ma) pa ha ra fa i j Z s)->K.co Z s)->
       az B n AP [some (.int (N:Nat)),some (.ref re),some (.ref ma),some (.ref ra),some (.ref ha),some (.int ((N+1:Nat):Int)),some (.ref pa),some (.int (i:Nat)),some (.ref fa),some (.ref fr),some (.int (x:Nat)),some (.int (y:Nat)),o12] K V2:=by
       intro V2 hs2 K eh lh zh hh hK;w_fin;refine aB (hh.get 3 rfl) (bf (dO hrl))<|aB (hh.get 3 rfl) (bf (dO (O mrs.len yN)))<|dZ<|fW (hh.get 3 rfl) (hrl) ?_;have h3:=hh.put 3 (o':=.list (nl (rs.set x (gf rs x|||gf rs y)))) rfl;w_fin;rw[<-eh,<-fZ hrl]at dg2;refine hK _ _ ⟨_,?_,rs.set x (gf rs x|||gf rs y),hs2,pile,F++[(x,b,p+1)],fu++[fr],_,_,_,_,rfl,rfl,by simp[fl],dg2,mrs.set (gN (mrs.lt _) (mrs.lt _)),lh,λz l=>?_,h3⟩
       .exact O zh (O (jy ..) (O (jy ..) (add_lt_add_left (add_lt_add_left (Nat.succ_lt_succ (yk (ofNat_lt.1 ‹_›))) _) _)))
       .refine O eh ?_;unfold cD;split
        .split
         .exact hy0
         .exact hx.1
        .exact vis z l
      w_fin;refine aB (h2.get 2 rfl) (bf (dO (by lia:y<hs.length)))<|aB (h2.get 2 rfl) (bf (dO hxl))<|dE<|aO (λc3=>?_) (λc3=>?_)
      .w_fin;refine aB (h2.get 2 rfl) (bf (dO (by lia:y<hs.length)))<|fW (h2.get 2 rfl) (hxl) ?_;have h3:=h2.put 2 (o':=.list (nl (hs.set x (gf hs y)))) rfl;refine fin _ _ _ ?_ (by simp[lhs']) (Vt hs x _ _ (dO hxl) hx.1 hy0) h3 hGk;exact O (fZ hxl) (O (ax (by lia)) rfl)
      .refine fin _ _ _ ?_ lhs' rfl h2 hGk;refine O (ai (by lia)) ?_;funext z;unfold cD;split
       .rename_i e;exact O e rfl
       .rfl
    .rw[length_map]at c;have pe:p=(rel x).length:=by lia
     w_fin;refine⟨bz (hh.get 0 rfl),y9 (hh.get 0 rfl) (y:=.ref fr) (by simp) ?_⟩;have h2:H V (upd V' fa (.list ((fu++[fr]).map IV.ref).dropLast)) (eN fa pa ha ra fu F pile hs rs++[(fr,.list (nl [x,b,p]))]):=by
      have:=hh.put 0 (o':=.list (((fu++[fr]).map IV.ref).dropLast)) rfl;refine this.perm ?_;have e1:((fu++[fr]).map IV.ref).dropLast=fu.map IV.ref:=by simp
      refine O e1 ?_;unfold eN;exact O (cw ..) (.refl _)
     generalize upd V' fa (.list ((fu++[fr]).map IV.ref).dropLast)=V1 at h2⊢;have gfr:=h2.last;clear hh;have mless:zc hs*(D+2)+gn rel F<zc hs*(D+2)+gn rel (F++[(x,b,p)]):=by
      exact O (jy ..) (add_lt_add_left (Nat.lt_add_of_pos_right (succ_pos _)) _)
     w_fin;refine aB (h2.get 2 rfl) (bf (dO (by lia:x<hs.length)))<|aB (k:=1) gfr rfl<|cV<|aO (λc2=>?_) (λc2=>?_)
     .have hb:gf hs x=b:=by lia
      have rootD:x∈pile.drop (b -1):=U0.2 ⟨0,by exact O getElem?_drop bx⟩;w_fin;w_fin;refine gw (D5 V N re ma ra ha pa i fa rs hs pile o11 F x b p fu fr) ⟨pile.length,-1,rs,hs,pile,rfl,⟨by have:=av bx;lia,aY _⟩,by exact O take_length rfl,by exact O (ax rfl) rfl,mrs,lhs',λz=>by exact O drop_length (O (ai (by simp)) rfl),λz=>by exact O drop_length (O (ai (by simp)) rfl),h2⟩ ?_;clear h2 gfr;rintro m Z V2 Jk hJk ⟨la,rs2,hs2,pl2,rfl,⟨m1,m2⟩,rfl,hla,mrs2,lh2,gh,gr,h2⟩;w_left;refine fn<|aO (λc3=>?_) (λc3=>?_)
      .
       have m3:b -1<m:=by
        rcases lt_or_ge (b -1) m with l|l
        .exact l
        .exfalso;have e:m=b -1:=by lia
         subst e;rw[if_neg (by have:=av bx;lia)]at hla;obtain⟨v,e1,e2⟩:=hla;obtain rfl:=Os bx e1;exact c3 e2
       refine bg (l:=pile) (i:=m -1) (by lia) λv hv=>?_;have vN:=dg.pl v (aF hv);have tk:pile.take m=pile.take (m -1)++[v]:=by
        have:=c6 hv;rwa[show m -1+1=m by lia]at this
       have dk:∀z,z∈pile.drop (m -1)↔z=v\/z∈pile.drop m:=λz=>by
        refine O (List.drop_eq_getElem_cons (av hv)) ?_;rw[mem_cons];refine O (show m -1+1=m by lia) ?_;have:pile[m -1]'(av hv)=v:=by have:=c8 (av hv);exact(aP (Oe hv this)).symm
        rw[this]
       w_fin;refine⟨bz (h2.get 1 rfl),y9 (h2.get 1 rfl) (y:=.int (v:Nat)) (by refine O tk ?_;simp) ?_⟩;refine O (show(nl (pile.take m)).dropLast=nl (pile.take (m -1)) by refine O tk ?_;simp) ?_;have h3:=h2.put 1 (o':=.list (nl (pile.take (m -1)))) rfl;generalize upd V2 pa (.list (nl (pile.take (m -1))))=V3 at h3⊢;w_fin;refine fW (h3.get 2 rfl) (by lia) ?_;have h4:=h3.put 2 (o':=.list (nl (hs2.set v (N+1)))) rfl;generalize upd V3 ha (.list (nl (hs2.set v (N+1))))=V4 at h4⊢;w_fin;refine aB (h4.get 3 rfl) (bf (dO (O mrs2.len xN)))<|fW (h4.get 3 rfl) (O mrs2.len vN) ?_;have h5:=h4.put 3 (o':=.list (nl (rs2.set v (gf rs2 x)))) rfl;have rx:gf rs2 x=gf rs x:=by refine O (gr ..) ?_;split<;>rfl
       refine hJk _ _ ⟨m -1,sub_lt (cn (zero_le _) m3) one_pos,v,_,_,_,rfl,⟨Nat.le_sub_one_of_lt m3,le_trans (sub_le _ _) (by assumption)⟩,rfl,?_,mrs2.set (mrs2.lt _),by simp[lh2],λz=>?_,λz=>?_,h5⟩
       .exact O (ai (by lia)) ⟨v,hv,rfl⟩
       .refine O (fZ (by lia:v<hs2.length)) ?_;unfold cD;by_cases e:z=v
        .exact O (ax e) (O (ax ((dk z).2 (.inl e))) rfl)
        .refine O (ai e) (O (gh z) ?_);by_cases e2:z∈pile.drop m
         .exact O (ax e2) (O (ax ((dk z).2 (.inr e2))) rfl)
         .exact O (ai e2) (O (ai λw=>((dk z).1 w).elim e e2) rfl)
       .refine O (fZ (O mrs2.len vN)) (O rx ?_);unfold cD;by_cases e:z=v
        .exact O (ax e) (O (ax ((dk z).2 (.inl e))) rfl)
        .refine O (ai e) (O (gr z) ?_);by_cases e2:z∈pile.drop m
         .exact O (ax e2) (O (ax ((dk z).2 (.inr e2))) rfl)
         .exact O (ai e2) (O (ai λw=>((dk z).1 w).elim e e2) rfl)
      .
       have mb:m=b -1:=by
        by_cases e:m=pile.length
        .rw[if_pos e]at hla;lia
        .rw[if_neg e]at hla;obtain⟨v,e1,e2⟩:=hla;have:v=x:=by lia
         obtain rfl:=this.symm;exact gc dg.pn e1 bx
       subst mb;have dg2:=dg.popR rfl pe hb rN gh gr;refine hGk _ _ ⟨_,?_,rs2,hs2,_,F,fu,_,_,_,_,rfl,rfl,fl,dg2,mrs2,lh2,λz l=>?_,h2.sub (sublist_append_left _ _)⟩
       .have:zc hs2<=zc hs:=by
         unfold zc;have e1:∀(l:List Nat),l.countP (· ==0)=((List.range l.length).countP λz=>gf l z==0):=λl=>by
          have:l=(List.range l.length).map (gf l):=by
           apply ext_getElem?;intro j;refine O aQ ?_;rcases lt_or_ge j l.length with z|z
           .exact O (getElem?_range z) (O (dO z) rfl)
           .exact O (dv z) (O (dv (by simpa using z)) rfl)
          conv=>lhs;rw[this]
          exact O List.countP_map rfl
         refine O (e1 hs2) (O (e1 hs) (O lh2 (O lhs' ?_)));apply List.countP_mono_left;intro z _ e;rw[gh z]at e;split at e
         .simp at e
         .exact e
        refine O (jy ..) ?_;have:=Nat.mul_le_mul_right (D+2) this;lia
       .refine O (gh z) ?_;split
        .lia
        .exact vis z l
     .have hb:gf hs x≠b:=λe=>c2 (O e rfl);obtain⟨dg2,_⟩:=dg.popN rfl pe hb;exact hGk _ _ ⟨_,mless,rs,hs,pile,F,fu,_,_,_,_,rfl,rfl,fl,dg2,mrs,lhs',vis,h2.sub (sublist_append_left _ _)⟩
 .clear h3;rintro Z V' ⟨rs,hs,o7,o8,o9,o10,o11,o12,rfl,dg,mrs,lhs',vis,hh⟩;rw[length_map,length_range]at vis;refine⟨trivial,?_⟩;w_fin;refine q rs ra V' mrs dg.mks (λx xN y my=>(dg.dn x xN ?_ y my).2) (hh.sub (.cons _ (.cons _ (.refl _))));by_cases e:gf hs x=N+1
  .exact e
  .have:=(dg.vis x xN).2 ⟨vis x xN,e⟩;cases this
end
inductive GT (S:List SG) (p X j:Nat):Prop
 |mk (s:SG) (e:S[p]? =some s) (m:(X,j)∈s.mv):GT S p X j
inductive In (G:GG) (S:List SG) (p r d:Nat):Prop
 |mk (s:SG) (e:S[p]? =some s) (v:VI G r d) (m:code G r d∈s.its):In G S p r d
theorem jo {mv:List (Nat×Nat)} (nd:(mv.map (·.1)).Nodup) (m:(X,j)∈mv):aq (bj mv) (X:Int)=some (.int (j:Nat)):=by
 induction mv with
 |nil=>rcases m
 |cons p mv ih=>
  rw[map_cons,nodup_cons]at nd;show aq (((p.1:Int),IV.int (p.2:Nat))::bj mv) _=_;refine O (d6 ..) ?_;rcases mem_cons.1 m with e|m
  .subst e;exact O (ax rfl) rfl
  .rw[if_neg (λe=>nd.1 (by have:p.1=X:=by exact ofNat_inj.1 ‹_›
                           exact O this (mem_map_of_mem (f:=(·.1)) m)))]
   exact ih nd.2 m
theorem PM {mv:List (Nat×Nat)} {X:Nat} (m:X∉mv.map (·.1)):aq (bj mv) (X:Int)=none:=by
 induction e:aq (bj mv) (X:Int)with
 |none=>rfl
 |some v=>
  obtain⟨p,mp,ep⟩:=mem_map.1 (eG e);have:p.1=X:=by have:=be Prod.fst ep;simp at this;exact ofNat_inj.1 ‹_›
  exact absurd (Ob this (mem_map_of_mem (f:=(·.1)) mp)) m
section
variable{G:GG} {S:List SG}
theorem AutOk.kern (h:AutOk G S) {p:Nat} {s:SG} (e:S[p]? =some s):KV G s.kern:=h.kok.kv _ (mem_map_of_mem (aF e))
theorem GT.lt (h:AutOk G S) (t:GT S p X j):p<S.length/\X<8/\j<S.length:=by
 obtain⟨s,e,m⟩:=t;obtain⟨a,K,b,_⟩:=(h.ex p s e).mt X j m;exact⟨av e,a,by have:=av b;rwa[aE]at this⟩
theorem GT.fun (h:AutOk G S) (t:GT S p X j) (t':GT S p X j'):j=j':=by
 obtain⟨s,e,m⟩:=t;obtain⟨s',e',m'⟩:=t';obtain rfl:=Os e e';have a:=jo (h.ex p s e).mnd m
 replace a:=Oe (jo (h.ex p s e).mnd m') a
 cases a;rfl
theorem In.step (h:AutOk G S) {p r d X:Nat} (i:In G S p r d) (e:(ae G r)[d]? =some X):∃j,GT S p X j/\In G S j r (d+1):=by
 o_shape;obtain⟨s,es,v,m⟩:=i;have kb:KB G s.its X (code G r (d+1)):=⟨r,d,v,m,e,rfl⟩;obtain⟨q,mq,eq⟩:=mem_map.1 (((h.ex p s es).mks X).2 ⟨_,kb⟩);obtain⟨X',j⟩:=q;pv_eval;have:X'=X:=eq;subst this;obtain⟨_,K,eK,hK⟩:=(h.ex p s es).mt X' j mq
 replace eK:=Oe aQ eK
 induction ej:S[j]? with
 |none=>rw[ej]at eK;exact bv eK
 |some s'=>
  rw[ej]at eK;have eK:s'.kern=K:=aP eK;refine⟨j,⟨s,es,mq⟩,s',ej,gA v e,((h.ex j s' ej).its _).2 (.inl ?_)⟩;exact O eK ((hK _).2 kb)
theorem In.back (h:AutOk G S) {p X j r d:Nat} (t:GT S p X j) (i:In G S j r (d+1)):In G S p r d/\(ae G r)[d]? =some X:=by
 o_shape;obtain⟨s,es,m⟩:=t;obtain⟨s',ej,v,m'⟩:=i;obtain⟨_,K,eK,hK⟩:=(h.ex p s es).mt X j m;rw[getElem?_map,ej]at eK;have eK:s'.kern=K:=aP eK;have:code G r (d+1)∈s'.kern:=by
  rcases((h.ex j s' ej).its _).1 m' with a|⟨r',l,_,e⟩
  .exact a
  .have:=dX v (dW l) e;lia
 rw[eK,hK]at this;obtain⟨r',d',v',m2,e,f⟩:=this;obtain⟨rfl,e2⟩:=dX v (gA v' e) f;pv_eval;have:d=d':=by lia
 obtain rfl:=this.symm;exact⟨⟨s,es,v',m2⟩,e⟩
theorem fP (g:Good G) (f:dU G x y) (h:x≠5):(x=6\/x=7)/\y≠5:=by
 obtain⟨r,l,e,m⟩:=f;have r0:0<r:=by
  rcases dH r with z|z
  .subst z;replace e:=Oe g.lhs0 e;lia
  .exact z
 have:=g.lhs8 l;have:=g.sym r y r0 (aF m);constructor
 .lia
 .lia
theorem FstP.next {G:GG} (g:Good G) {x y z:Nat} (hx:x≠5) (f:FstP G x y) (k:dU G y z):FstP G x z:=by
 have x67:x=6\/x=7:=by
  rcases f with f|f|f
  .exact(fP g f hx).1
  .exact(fP g f.1 hx).1
  .exact(fP g f.1 hx).1
 have y5:y≠5:=by
  rcases f with f|f|f
  .exact(fP g f hx).2
  .exact(fP g f.2 (by decide)).2
  .exact(fP g f.2 (by decide)).2
 have y67:=(fP g k y5).1;unfold FstP;rcases f with f|⟨f1,f2⟩|⟨f1,f2⟩
 .rcases y67 with rfl|rfl
  .exact .inr (.inl ⟨f,k⟩)
  .exact .inr (.inr ⟨f,k⟩)
 .rcases y67 with rfl|rfl
  .exact .inr (.inl ⟨f1,k⟩)
  .rcases x67 with rfl|rfl
   .exact .inr (.inr ⟨f2,k⟩)
   .exact .inl k
 .rcases y67 with rfl|rfl
  .rcases x67 with rfl|rfl
   .exact .inl k
   .exact .inr (.inl ⟨f2,k⟩)
  .exact .inr (.inr ⟨f1,k⟩)
theorem In.clos (g:Good G) (h:AutOk G S) {p r d X r':Nat} (i:In G S p r d) (e:(ae G r)[d]? =some X) (l:r'<5) (e':ah G r'=X):In G S p r' 0:=by
 obtain⟨s,es,v,m⟩:=i;have X5:X≠5:=by
  have m:=aF e;rcases dH r with z|z
  .subst z;rw[g.rhs0]at m;simp at m;lia
  .have:=g.sym r X z m;lia
 refine⟨s,es,dW l,((h.ex p s es).its _).2 (.inr ⟨r',l,?_,rfl⟩)⟩;refine O e' ?_;rcases((h.ex p s es).its _).1 m with a|⟨r2,l2,⟨r0,d0,X0,v0,m0,e0,f0⟩,ec⟩
 .exact⟨r,d,X,v,a,e,.inl rfl⟩
 .obtain⟨rfl,rfl⟩:=dX v (dW l2) ec;have fst:dU G (ah G r) X:=⟨r,l2,rfl,e⟩;have X05:X0≠5:=by
   have m:=aF e0;rcases dH r0 with z|z
   .subst z;rw[g.rhs0]at m;simp at m;lia
   .have:=g.sym r0 X0 z m;lia
  refine⟨r0,d0,X0,v0,m0,e0,.inr ?_⟩;rcases f0 with f0|f0
  .exact Ob f0 (.inl fst)
  .exact f0.next g X05 fst
noncomputable def Path (S:List SG):Nat->List Nat->Nat->Prop
 |p,[],q=>p=q
 |p,X::γ,q=>∃j,GT S p X j/\Path S j γ q
theorem Path.snoc {q X j:Nat} (h:Path S p γ q) (t:GT S q X j):Path S p (γ++[X]) j:=by
 induction γ generalizing p with
 |nil=>rcases h;exact⟨j,t,rfl⟩
 |cons Y γ ih=>obtain⟨k,a,b⟩:=h;exact⟨k,a,ih b⟩
theorem GT.item (h:AutOk G S) (t:GT S p X j):∃r d,In G S p r d/\(ae G r)[d]? =some X:=by
 o_shape;obtain⟨s,es,m⟩:=t;have:=((h.ex p s es).mks X).1 (mem_map_of_mem (f:=(·.1)) m);obtain⟨c,r,d,v,mm,e,_⟩:=this;pv_eval;exact⟨r,d,⟨s,es,v,mm⟩,e⟩
end
section
variable{B:Bs} (hB:Base B) {n:Nat} {V:IH} {Q:QE} {G:GG} {g:Addr} {A:GA} {au sl:Addr} {S:List SG} (ha:AutAt V G g au sl S)
include ha
theorem AutAt.sref {p:Nat} {s:SG} (e:S[p]? =some s):((S.map (·.sa)).map IV.ref)[p]? =some (.ref s.sa):=by exact O aQ (O aQ (O e rfl))
include hB
theorem Dd (t:GT S p X j) (q:Q (.int (j:Nat)) V):CallOk B (n+2) 585 [.ref au,.int (p:Nat),.int (X:Nat)] V Q:=by
 refine Fv hB ?_;o_shape;obtain⟨s,e,m⟩:=t;obtain⟨g1,_,g2,_⟩:=ha.st p s e;pv_eval;w_fin;refine ag ha.obj rfl<|aB ha.lst (ha.sref e)<|bk g1 rfl ?_;refine Fl hB ?_;w_fin;refine ag g1 rfl ⟨i7 g2,i9 g2 ?_⟩;exact O (jo (ha.ok.ex p s e).mnd m) q
end
abbrev bL:=List (Nat×Nat)
noncomputable def bO (T:bL):List (List Int×IV):=T.mapIdx λi p=>([(p.1:Int),(p.2:Int)],IV.int (i:Nat))
noncomputable def bH (T:bL):List IV:=T.map λp=>IV.tup [.int (p.1:Nat),.int (p.2:Nat)]
theorem Hq {T:bL} {s X:Nat} (h:(s,X)∉T):aq (bO T) [(s:Int),(X:Int)]=none:=by
 induction e:aq (bO T) [(s:Int),(X:Int)]with
 |none=>rfl
 |some v=>
  exfalso;o_shape;obtain⟨j,hj⟩:=U0.1 (eG e);pv_eval;rw[bO,getElem?_mapIdx]at hj
  induction hp:T[j]? with
  |none=>rw[hp]at hj;exact bv hj
  |some p=>
   rw[hp]at hj;have:=be Prod.fst (aP hj);simp only[List.cons.injEq,and_true]at this;have e1:p.1=s:=by lia
   have e2:p.2=X:=by lia
   subst e1;subst e2;exact h (aF hp)
theorem zC {T:bL} (nd:T.Nodup) {s X x:Nat} (h:T[x]? =some (s,X)):aq (bO T) [(s:Int),(X:Int)]=some (.int (x:Nat)):=by
 induction e:aq (bO T) [(s:Int),(X:Int)]with
 |none=>exact absurd rfl (hO e ([(s:Int),(X:Int)],IV.int (x:Nat)) (U0.2 ⟨x,by rw[bO];exact O getElem?_mapIdx (O h rfl)⟩))
 |some v=>
  obtain⟨j,hj⟩:=U0.1 (eG e);rw[bO,getElem?_mapIdx]at hj
  induction hp:T[j]? with
  |none=>rw[hp]at hj;exact bv hj
  |some p=>
   rw[hp]at hj;have e0:=aP hj;have e1:=be Prod.fst e0;have e2:IV.int (j:Nat)=v:=be Prod.snd e0;simp only[List.cons.injEq,and_true]at e1;have:p=(s,X):=Prod.ext (by show p.1=s;lia) (by show p.2=X;lia);rw[this]at hp;have:j=x:=(getElem?_inj (av hp) nd).1 (hp.trans h.symm);exact Ob e2 (O this rfl)
theorem Hr (T:bL) (s X:Nat):bO T++[([(s:Int),(X:Int)],IV.int (T.length:Nat))]=bO (T++[(s,X)]):=by
 unfold bO;refine O mapIdx_append ?_;simp
theorem Vh (T:bL) (s X:Nat):bH T++[.tup [.int (s:Nat),.int (X:Nat)]]=bH (T++[(s,X)]):=by
 unfold bH;exact O bW rfl
theorem Hp (T:bL):(bO T).length=T.length:=by unfold bO;exact O length_mapIdx rfl
theorem BE {α:Type} {l:List α} (h:l.Nodup) {x:α} (n:x∉l):(l++[x]).Nodup:=by
 rw[nodup_append];refine⟨h,by exact pairwise_singleton _ _,λa m b m'=>?_⟩;simp at m';subst m';rintro rfl;exact n m
structure TrOk (S:List SG) (T:bL):Prop where
 nd:T.Nodup
 iff:∀s X,(s,X)∈T↔5<=X/\∃j,GT S s X j
 len:T.length<=70000
theorem GT.key {S:List SG} {s:SG} {p X:Nat} (e:S[p]? =some s):(∃j,GT S p X j)↔X∈s.mv.map (·.1):=by
 constructor
 .rintro⟨j,s',e',m⟩;obtain rfl:=Os e e';exact mem_map_of_mem (f:=(·.1)) m
 .intro m;obtain⟨q,mq,eq⟩:=mem_map.1 m;exact⟨q.2,s,e,by exact eq▸mq⟩
theorem AutOk.keys8 {S:List SG} (h:AutOk G S) {p:Nat} {s:SG} (e:S[p]? =some s):(∀X∈s.mv.map (·.1),X<8)/\s.mv.length<=8:=by
 have a:∀X∈s.mv.map (·.1),X<8:=λX m=>by
  obtain⟨q,mq,eq⟩:=mem_map.1 m;have:=((h.ex p s e).mt q.1 q.2 mq).1;lia
 refine⟨a,?_⟩;have:=cz (h.ex p s e).mnd a;rwa[aE]at this
theorem AutOk.len {S:List SG} (g:Good G) (h:AutOk G S):S.length<=8193:=by
 have:=rY g h.kok.nd h.kok.kv;rwa[aE]at this
theorem PL (mv:List (Nat×Nat)):(bj mv).map (·.1)=(mv.map (·.1)).map λx:Nat=>(x:Int):=by
 unfold bj;exact O map_map (O map_map rfl)
theorem zd {mv:List (Nat×Nat)} (h:V p=some (.idict (bj mv) ep)) (l:mv.length<64) (q:∀ks r,ks.Perm (mv.map (·.1))->ks.Pairwise (· <= ·)->V r=none->Q (.ref r) (upd V r (.list (nl ks)))):sortI (.ref p) Q V:=by
 refine rO h (by rw[bj];exact O (aE ..) l) λr hr=>?_;refine O (PL ..) (aj λ_ kX=>?_);obtain⟨l',e,pm,s⟩:=j9 (mv.map (·.1));pv_eval;exact O e (Ob (eW ..) (q l' r pm s hr))
section
variable{B:Bs} (hB:Base B) {n:Nat} {V0 V:IH} {Q:QE} {G:GG} {g:Addr} {A:GA} {au sl:Addr} {S:List SG} (h:GrAt V0 G g A) (ha:AutAt V0 G g au sl S)
include hB h ha
theorem TR {la xa ta nn:Addr} {ep:Nat} {l:List (Addr×IO)}
 (hh:H V0 V ([(la,.inst 733 [(6,.ref au),(53,.ref nn),(83,.ref ta),(33,.ref xa)]),(xa,.tdict (bO []) ep),(ta,.list (bH []))]++l))
 (q:∀T ep V',TrOk S T->H V0 V' ([(la,.inst 733 [(6,.ref au),(53,.ref nn),(83,.ref ta),(33,.ref xa)]),(xa,.tdict (bO T) ep),(ta,.list (bH T))]++l)->Q .none V'):CallOk B (n+3) 695 [.ref la] V Q:=by
 refine FD hB ?_;have Sl:=ha.ok.len h.good;w_fin;refine ag (hh.get 0 rfl) rfl<|ag (ha.mono hh.ext).obj rfl ?_;w_fin;refine ag (hh.get 0 rfl) rfl<|ag (ha.mono hh.ext).obj rfl<|bw (ha.mono hh.ext).lst ?_;refine aU (λi Z V'=>E4 λT ep o2 o3=>A4 (Z=[some (.ref la),some (.ref g),o2,o3]) (T.Nodup/\T.length<=8*i) (∀s X,(s,X)∈T↔s<i/\5<=X/\∃j,GT S s X j)<|
  H V0 V' ([(la,.inst 733 [(6,.ref au),(53,.ref nn),(83,.ref ta),(33,.ref xa)]),(xa,.tdict (bO T) ep),(ta,.list (bH T))]++l)) ⟨[],ep,_,_,rfl,⟨nodup_nil,aY _⟩,λs X=>⟨(λm=>by cases m),λm=>by lia⟩,hh⟩ ?_ ?_
 .clear hh;rintro i Z V' y Fk hFk hy ⟨T,ep,o2,o3,rfl,⟨nd,Tl⟩,hT,hh⟩;have aa:=ha.mono hh.ext;refine⟨aa.lst,?_⟩;have il:=av hy;rw[length_map,length_map]at il;refine bg il λs hs=>?_;obtain rfl:=Os (ha.sref hs) hy;obtain⟨k8,kl⟩:=ha.ok.keys8 hs;w_fin;refine ag (aa.st i s hs).1 rfl<|zd (aa.st i s hs).2.2.1 (cn ‹_› (by decide)) λks r pk _ hr=>?_;have h2:=hh.new (.list (nl ks)) hr;generalize upd V' r (.list (nl ks))=V1 at h2⊢;clear hh hr aa;have knd:=pk.nodup_iff.2 (ha.ok.ex i s hs).mnd;have kk:∀X,X∈ks↔∃j,GT S i X j:=λX=>by rw[pk.mem_iff,GT.key hs]
  have ksl:=pk.length_eq
  replace ksl:=Eq.trans ksl (aE ..)
  refine bw (h2.get 0 rfl) ?_;refine aU (λj Z V'=>E3 λT ep o3=>A4 (Z=[some (.ref la),some (.ref g),some (.ref s.sa),o3]) (T.Nodup/\T.length<=8*i+j) (∀s X,(s,X)∈T↔(s<i/\5<=X/\∃j,GT S s X j)\/(s=i/\5<=X/\X∈ks.take j))<|
   H V0 V' ([(r,.list (nl ks)),(la,.inst 733 [(6,.ref au),(53,.ref nn),(83,.ref ta),(33,.ref xa)]),(xa,.tdict (bO T) ep),(ta,.list (bH T))]++l)) ⟨T,ep,_,rfl,⟨nd,Tl⟩,λs X=>by rw[hT];simp,h2⟩ ?_ ?_
  .clear h2 nd Tl hT;rintro j Z V' y Fk hFk hy ⟨T,ep,o3,rfl,⟨nd,Tl⟩,hT,hh⟩;refine⟨hh.get 0 rfl,?_⟩;refine cZ hy λX hX=>?_;have jl:=av hX;have tk:=c6 hX;have gs:=((ha.mono hh.ext).st i s hs).1;have nT:5<=X->(i,X)∉T:=λ_ m=>by
    rcases(hT i X).1 m with⟨a,_⟩|⟨_,_,a⟩
    .exact lt_irrefl _ ‹_›
    .exact fL knd hX a
   w_fin;refine bk (h.mono hh.ext).obj rfl<|jz hB (h.mono hh.ext)<|cQ<|b9 (λc=>?_) (λc=>?_)
   .have c5:5<=X:=by simp at c;exact ofNat_lt.1 ‹_›
    w_fin;refine ag (hh.get 1 rfl) rfl<|cB (hh.get 3 rfl)<|ag (hh.get 1 rfl) rfl<|ag gs rfl ⟨by decide,jb (k:=[(i:Int),(X:Int)]) (hh.get 2 rfl) rfl (by refine O (Hp ..) ?_;lia) λep'=>?_⟩;refine O (show(bH T).length=T.length by simp[bH]) (O (eS (Hq (nT c5))) (O (Hr ..) ?_));have h2:=hh.put 2 (o':=.tdict (bO (T++[(i,X)])) ep') rfl;generalize upd V' xa (.tdict (bO (T++[(i,X)])) ep')=V1 at h2⊢;w_fin;refine ag (h2.get 1 rfl) rfl ⟨bz (h2.get 3 rfl),ag ((ha.mono h2.ext).st i s hs).1 rfl ⟨by decide,bZ (h2.get 3 rfl) (by simp[bH];lia) ?_⟩⟩;refine O (Vh ..) ?_;have h3:=h2.put 3 (o':=.list (bH (T++[(i,X)]))) rfl;refine hFk _ _ ⟨_,ep',_,rfl,⟨BE nd (nT c5),by refine O bT ?_;simp only[length_cons,length_nil];exact di ‹_›⟩,λs' Y=>?_,h3⟩;rw[mem_append,hT];refine O tk ?_;constructor
    .rintro((a|⟨a,b,c⟩)|a)
     .exact .inl a
     .exact .inr ⟨a,b,bM _ c⟩
     .have e:s'=i/\Y=X:=by simpa using a
      exact O e.1 (O e.2 (.inr ⟨rfl,c5,by exact dJ⟩))
    .rintro(a|⟨a,b,c⟩)
     .exact .inl (.inl a)
     .rcases Uo.1 c with c|c
      .exact .inl (.inr ⟨a,b,c⟩)
      .right;refine O a ?_;simpa using c
   .refine hFk _ _ ⟨T,ep,_,rfl,⟨nd,by exact le_succ_of_le ‹_›⟩,λs' Y=>?_,hh⟩;have c5:X<5:=by simp at c;exact ofNat_lt.1 ‹_›
    rw[hT];refine O tk (or_congr_right ⟨λ⟨a,b,c⟩=>⟨a,b,bM _ c⟩,λ⟨a,b,c⟩=>⟨a,b,(Uo.1 c).resolve_right λz=>?_⟩⟩);have:Y=X:=by exact VX.1 z
    lia
  .clear h2 nd Tl hT;rintro Z V' ⟨T,ep,o3,rfl,⟨nd,Tl⟩,hT,hh⟩;refine⟨hh.get 0 rfl,?_⟩;rw[length_map]at Tl hT;rw[take_length]at hT;refine hFk _ _ ⟨T,ep,_,_,rfl,⟨nd,by lia⟩,λs' Y=>?_,hh.drop⟩;rw[hT];constructor
   .rintro(⟨a,b,c⟩|⟨a,b,c⟩)
    .exact⟨by exact lt_succ_of_lt ‹_›,b,c⟩
    .exact⟨by lia,b,by exact a▸(kk Y).1 c⟩
   .rintro⟨a,b,c⟩;by_cases e:s'=i
    .exact .inr ⟨e,b,(kk Y).2 (e▸c)⟩
    .exact .inl ⟨by lia,b,c⟩
 .clear hh;rintro Z V' ⟨T,ep,o2,o3,rfl,⟨nd,Tl⟩,hT,hh⟩;rw[length_map,length_map]at hT Tl;refine⟨(ha.mono hh.ext).lst,?_⟩;refine q T ep V' ⟨nd,λs X=>?_,by lia⟩ hh;rw[hT];exact⟨λ⟨_,b⟩=>b,λ⟨b,j,c⟩=>⟨(c.lt ha.ok).1,b,j,c⟩⟩
end
structure RdOk (S:List SG) (nb:List Bool) (T:bL) (N:Nat) (dm:Nat->Nat) (rel:Nat->List Nat):Prop where
 t:∀x s X j t,x<N->T[x]? =some (s,X)->GT S s X j->t<5->(∃k,GT S j t k)->(dm x).testBit t=true
 n:∀x s X j Y y,x<N->T[x]? =some (s,X)->GT S s X j->5<=Y->nb[Y]? =some true->T[y]? =some (j,Y)->y∈rel x
 lt:∀x y,y∈rel x->y<T.length
 le:∀x,(rel x).length<=8
noncomputable def cv (au nn ta xa da ra:Addr):List (Nat×IV):=[(6,.ref au),(53,.ref nn),(83,.ref ta),(33,.ref xa),(18,.ref da),(63,.ref ra)]
theorem Es (m X t:Nat):(m||| 1<<<X).testBit t=true↔m.testBit t=true\/t=X:=by
 exact O (testBit_or ..) (O (or_eq_true ..) (O (one_shiftLeft ..) (O testBit_two_pow (or_congr_right ⟨λe=>(dT e).symm,λe=>decide_eq_true e.symm⟩))))
section
variable{B:Bs} (hB:Base B) {n:Nat} {V0 V:IH} {Q:QE} {G:GG} {g:Addr} {A:GA} {au sl:Addr} {S:List SG} (h:GrAt V0 G g A) (ha:AutAt V0 G g au sl S)
include hB h ha
theorem TC {nb:List Bool} {T:bL} (tok:TrOk S T) (nbl:nb.length=8)
 (hh:H V0 V ([(la,.inst 733 (cv au nn ta xa da ra)),(nn,.list (bl nb)),(xa,.tdict (bO T) ep),(ta,.list (bH T)),(da,.list (nl [])),(ra,.list (([]:List Addr).map IV.ref))]++aJ [] λ_=>[]))
 (q:∀dm us rel V',MN T.length dm->us.length=T.length->RdOk S nb T T.length (gf dm) rel->H V0 V' ([(la,.inst 733 (cv au nn ta xa da ra)),(nn,.list (bl nb)),(xa,.tdict (bO T) ep),(ta,.list (bH T)),(da,.list (nl dm)),(ra,.list (us.map IV.ref))]++aJ us rel)->Q .none V'):
 CallOk B (n+3) 702 [.ref la] V Q:=by
 refine FE hB ?_;have tl:=tok.len;w_fin;refine ag (hh.get 0 rfl) rfl<|ag (ha.mono hh.ext).obj rfl ?_;w_fin;refine ag (hh.get 0 rfl) rfl<|bw (hh.get 3 rfl) ?_;refine aU (λi Z V'=>E8 λdm us rel o2 o3 o4 o5 o6=>E2 λo7 o8=>A5 (Z=[some (.ref la),some (.ref g),o2,o3,o4,o5,o6,o7,o8]) (MN i dm) (us.length=i) (RdOk S nb T i (gf dm) rel)<|
  H V0 V' ([(la,.inst 733 (cv au nn ta xa da ra)),(nn,.list (bl nb)),(xa,.tdict (bO T) ep),(ta,.list (bH T)),(da,.list (nl dm)),(ra,.list (us.map IV.ref))]++aJ us rel)) ⟨[],[],λ_=>[],_,_,_,_,_,_,_,rfl,⟨rfl,λx=>(by decide:(0:Nat)<32)⟩,rfl,⟨λx s X j t l=>by exact absurd ‹_› (not_lt_zero _),λx s X j Y y l=>by exact absurd ‹_› (not_lt_zero _),λx y m=>(by cases m),λx=>zero_le _⟩,hh⟩ ?_ ?_
 .clear hh;rintro i Z V' y Fk hFk hy ⟨dm,us,rel,o2,o3,o4,o5,o6,o7,o8,rfl,mn,ul,rd,hh⟩;refine⟨hh.get 3 rfl,?_⟩;o_shape;obtain⟨⟨s,X⟩,hT,rfl⟩:∃p,T[i]? =some p/\y=.tup [.int (p.1:Nat),.int (p.2:Nat)]:=by
   rw[bH,getElem?_map]at hy
   induction e:T[i]? with
   |none=>rw[e]at hy;exact bv hy
   |some p=>rw[e]at hy;obtain rfl:=aP hy;exact⟨p,rfl,rfl⟩
  have iN:=av hT;obtain⟨X5,j,gt⟩:=(tok.iff s X).1 (aF hT);obtain⟨_,X8,jl⟩:=gt.lt ha.ok;refine bg jl λsj hj=>?_;obtain⟨k8,kl⟩:=ha.ok.keys8 hj;pv_eval;w_left;refine⟨rfl,?_⟩;have aa:=ha.mono hh.ext;w_fin;refine ag (hh.get 0 rfl) rfl<|bk aa.obj rfl<|Dd hB aa gt ?_;w_fin;w_fin;refine⟨by decide,fK (.list (nl [])) hh λrw_ V1 h2=>?_⟩;clear hh aa;have aa:=ha.mono h2.ext;w_fin;refine ag (h2.get 1 rfl) rfl<|ag aa.obj rfl<|aB aa.lst (ha.sref hj)<|ag (aa.st j sj hj).1 rfl ?_;w_fin;refine zd (aa.st j sj hj).2.2.1 (cn ‹_› (by decide)) λks kr pk _ hr=>?_;have h3:=h2.new (.list (nl ks)) hr;generalize upd V1 kr (.list (nl ks))=V2 at h3⊢;clear h2 hr aa;have kk:∀X,X∈ks↔∃k,GT S j X k:=λX=>by rw[pk.mem_iff,GT.key hj]
  have ksl:=pk.length_eq
  replace ksl:=Eq.trans ksl (aE ..)
  refine bw (h3.get 0 rfl) ?_;refine aU (λk Z V'=>E3 λm rw o8=>A6 (Z=[some (.ref la),some (.ref g),some (.int (s:Nat)),some (.int (X:Nat)),some (.int (j:Nat)),some (.int (m:Nat)),some (.ref rw_),some (.ref sj.ma),o8]) (m<32) (∀t,t<5->t∈ks.take k->m.testBit t=true) (∀Y y,5<=Y->Y∈ks.take k->nb[Y]? =some true->T[y]? =some (j,Y)->y∈rw) (rw.length<=k/\∀y∈rw,y<T.length)<|
   H V0 V' ([(kr,.list (nl ks)),(rw_,.list (nl rw)),(la,.inst 733 (cv au nn ta xa da ra)),(nn,.list (bl nb)),(xa,.tdict (bO T) ep),(ta,.list (bH T)),(da,.list (nl dm)),(ra,.list (us.map IV.ref))]++aJ us rel)) ⟨0,[],_,rfl,by decide,λt _ m=>(by cases m),λY y _ m=>(by cases m),⟨aY _,λy m=>(by cases m)⟩,h3⟩ ?_ ?_
  .clear h3;rintro k Z V' y Fk hFk hy ⟨m,rw,o8,eQ,ml,mt,mn2,⟨rl,rt⟩,hh⟩;obtain rfl:=eQ.symm;refine⟨hh.get 0 rfl,?_⟩;refine cZ hy λY hY=>?_;have Y8:=k8 Y (pk.mem_iff.1 (aF hY));have kle:=av hY;have tk:=c6 hY;w_fin;refine bk (h.mono hh.ext).obj rfl<|jz hB (h.mono hh.ext)<|cQ<|aO (λc=>?_) (λc=>?_)
   .w_fin;refine jd (by lia)<|dZ ?_;refine hFk _ _ ⟨_,rw,_,rfl,gN ml ?_,λt l mm=>?_,λZo z z5 mm=>?_,⟨by exact le_succ_of_le ‹_›,rt⟩,hh⟩
    .exact O (one_shiftLeft ..) (Nat.pow_lt_pow_right (by decide:1<2) (show Y<5 by exact ofNat_lt.1 ‹_›):2^Y<2^5)
    .rw[Es];rw[tk]at mm;rcases Uo.1 mm with mm|mm
     .exact .inl (mt t l mm)
     .right;simpa using mm
    .rw[tk]at mm;rcases Uo.1 mm with mm|mm
     .exact mn2 Zo z z5 mm
     .have:Zo=Y:=by exact VX.1 mm
      lia
   .have Y5:5<=Y:=by lia
    have nxt:∀(rw':List Nat) (V'':IH),(∀y∈rw,y∈rw')->(nb[Y]? =some true->∀y,T[y]? =some (j,Y)->y∈rw')->rw'.length<=k+1->(∀y∈rw',y<T.length)->
     H V0 V'' ([(kr,.list (nl ks)),(rw_,.list (nl rw')),(la,.inst 733 (cv au nn ta xa da ra)),(nn,.list (bl nb)),(xa,.tdict (bO T) ep),(ta,.list (bH T)),(da,.list (nl dm)),(ra,.list (us.map IV.ref))]++aJ us rel)->
     E3 λm' rw o8=>A6 (([some (.ref la),some (.ref g),some (.int (s:Nat)),some (.int (X:Nat)),some (.int (j:Nat)),some (.int (m:Nat)),some (.ref rw_),some (.ref sj.ma),some (.int (Y:Nat))]:aL)=[some (.ref la),some (.ref g),some (.int (s:Nat)),some (.int (X:Nat)),some (.int (j:Nat)),some (.int (m':Nat)),some (.ref rw_),some (.ref sj.ma),o8]) (m'<32) (∀t,t<5->t∈ks.take (k+1)->m'.testBit t=true) (∀Y y,5<=Y->Y∈ks.take (k+1)->nb[Y]? =some true->T[y]? =some (j,Y)->y∈rw) (rw.length<=k+1/\∀y∈rw,y<T.length)<|
      H V0 V'' ([(kr,.list (nl ks)),(rw_,.list (nl rw)),(la,.inst 733 (cv au nn ta xa da ra)),(nn,.list (bl nb)),(xa,.tdict (bO T) ep),(ta,.list (bH T)),(da,.list (nl dm)),(ra,.list (us.map IV.ref))]++aJ us rel):=by
     intro rw' V'' e1 e2 e3 e4 e5;refine⟨m,rw',_,rfl,ml,λt l mm=>?_,λZo z z5 mm hz hT=>?_,⟨e3,e4⟩,e5⟩
     .rw[tk]at mm;rcases Uo.1 mm with mm|mm
      .exact mt t l mm
      .have:t=Y:=by exact VX.1 mm
       lia
     .rw[tk]at mm;rcases Uo.1 mm with mm|mm
      .exact e1 _ (mn2 Zo z z5 mm hz hT)
      .have:Zo=Y:=by exact VX.1 mm
       obtain rfl:=this.symm;exact e2 hz z hT
    refine bg (l:=nb) (i:=Y) (Nat.lt_of_lt_of_eq ‹_› (Eq.symm ‹_›)) λbY hbY=>?_;w_fin;refine ag (hh.get 2 rfl) rfl<|aB (hh.get 3 rfl) (fR hbY)<|cQ<|b9 (λd=>?_) (λd=>?_)
    .subst d;o_shape;obtain⟨k2,hk2⟩:=(kk Y).1 (aF hY);obtain⟨z,hz⟩:=U0.1 ((tok.iff j Y).2 ⟨Y5,k2,hk2⟩);pv_eval;w_fin;refine⟨bz (hh.get 1 rfl),ag (hh.get 2 rfl) rfl ⟨by decide,gW (l:=[(j:Int),(Y:Int)]) (hh.get 4 rfl) rfl (zC tok.nd hz)<|dY (hh.get 1 rfl) (by lia) ?_⟩⟩;refine hFk _ _<|nxt (rw ++[z]) _ (λy m=>bM _ m) (λ_ y e=>?_) (by refine O bT ?_;simp only[length_cons,length_nil];exact di ‹_›) (λy m=>?_) (hh.put 1 rfl)
     .have:y=z:=(getElem?_inj (av e) tok.nd).1 (e.trans hz.symm);refine O this ?_;simp
     .rcases Uo.1 m with m|m
      .exact rt y m
      .have:y=z:=by exact VX.1 m
       exact O this (av hz)
    .exact hFk _ _<|nxt rw _ (λy m=>m) (λe=>by rw[hbY,d]at e;cases e) (le_succ_of_le ‹_›) rt hh
  .clear h3;rintro Z V' ⟨m,rw,o8,rfl,ml,mt,mn2,⟨rl,rt⟩,hh⟩;refine⟨hh.get 0 rfl,?_⟩;rw[length_map]at mt mn2 rl;rw[take_length]at mt mn2;w_fin;refine ag (hh.get 2 rfl) rfl ⟨bz (hh.get 6 rfl),dY (hh.get 6 rfl) (by refine O mn.len ?_;lia) ?_⟩;have h2:=hh.put 6 (o':=.list (nl (dm++[m]))) rfl;generalize upd V' da (.list (nl (dm++[m])))=V1 at h2⊢;w_fin;refine ag (h2.get 2 rfl) rfl ⟨bz (h2.get 7 rfl),bZ (h2.get 7 rfl) (by refine O (aE ..) (O ul ?_);lia) ?_⟩;have h3:=h2.put 7 (o':=.list (us.map IV.ref++[.ref rw_])) rfl;generalize upd V1 ra (.list (us.map IV.ref++[.ref rw_]))=V2 at h3⊢;have h4:H V0 V2 ([(la,.inst 733 (cv au nn ta xa da ra)),(nn,.list (bl nb)),(xa,.tdict (bO T) ep),(ta,.list (bH T)),(da,.list (nl (dm++[m]))),(ra,.list ((us++[rw_]).map IV.ref))]++aJ (us++[rw_]) (λy=>if y=us.length then rw else rel y)):=by
    refine O (sd ..) (Ob (cw ..) (h3.drop.perm ?_));exact O (show(us++[rw_]).map IV.ref=us.map IV.ref++[.ref rw_] by simp) (dc (l₁:=[(rw_,IO.list (nl rw))]))
   have gd:∀x,gf (dm++[m]) x=if x=i then m else gf dm x:=λx=>by
    unfold gf;have dl:=mn.len;by_cases e:x=i
    .obtain rfl:=e.symm;refine O (ax rfl) (Ob dl (O (dj (aY _)) ?_));simp
    .refine O (ai e) ?_;rcases lt_or_ge x dm.length with z|z
     .exact O (cF z) rfl
     .exact O (dj z) (O (dv (show dm.length<=x from z)) (O (dv (by simp only[length_cons,length_nil];exact Nat.sub_pos_of_lt (Nat.lt_of_le_of_ne z λe'=>absurd (e'.symm.trans mn.len) ‹¬x=i›))) rfl))
   refine hFk _ _ ⟨dm++[m],us++[rw_],_,_,_,_,_,_,_,_,rfl,⟨by exact O bT (O mn.len rfl),λx=>?_⟩,by exact O bT (O ul rfl),⟨λx s' X' j' t xi hT' gt' t5 hk=>?_,λx s' X' j' Y y xi hT' gt' Y5 hb hTy=>?_,λx y m=>?_,λx=>?_⟩,h4⟩
   .refine O (gd ..) ?_;split
    .exact ml
    .exact mn.lt x
   .refine O (gd ..) ?_;by_cases e:x=i
    .obtain rfl:=e.symm
     replace hT':=Oe hT hT';cases hT'
     refine O (ax rfl) ?_;have:=gt'.fun ha.ok gt;obtain rfl:=this.symm;exact mt t t5 ((kk t).2 hk)
    .exact O (ai e) (rd.t x s' X' j' t (by lia) hT' gt' t5 hk)
   .refine O ul ?_;by_cases e:x=i
    .obtain rfl:=e.symm
     replace hT':=Oe hT hT';cases hT'
     have:=gt'.fun ha.ok gt;subst this;exact O (ax rfl) (mn2 Y y Y5 ((kk Y).2 ((tok.iff j' Y).1 (aF hTy)).2) hb hTy)
    .exact O (ai e) (rd.n x s' X' j' Y y (by lia) hT' gt' Y5 hb hTy)
   .split at m
    .exact rt y m
    .exact rd.lt x y m
   .split
    .lia
    .exact rd.le x
 .clear hh;rintro Z V' ⟨dm,us,rel,o2,o3,o4,o5,o6,o7,o8,rfl,mn,ul,rd,hh⟩;rw[show(bH T).length=T.length by simp[bH]]at *;exact⟨hh.get 3 rfl,q dm us rel V' mn ul rd hh⟩
end
theorem H.getM {f:Nat->List Nat} (h:H V0 V (l1++aJ us f++l2)) {x:Nat} (e:us[x]? =some a):V a=some (.list (nl (f x))):=
 (h.at_ (a,.list (nl (f x))) (bM _ (dA _ (aF (ko e))))).2
theorem H.putM {f:Nat->List Nat} (h:H V0 V (l1++aJ us f++l2)) {x:Nat} (e:us[x]? =some a) (v:List Nat):H V0 (upd V a (.list (nl v))) (l1++aJ us (λy=>if y=x then v else f y)++l2):=by
 have p:∀g:Nat->List Nat,(l1++aJ us g++l2).Perm ((l2++l1)++aJ us g):=λg=>by rw[append_assoc l2];exact dc
 exact((h.perm (p f)).putL e v).perm (p _).symm
noncomputable def eC (f:Nat->List Nat) (y x:Nat):Nat->List Nat:=λz=>if z=y then(if x∈f y then f y else f y++[x])else f z
theorem yB (f:Nat->List Nat) (y x:Nat):x∈eC f y x y:=by
 unfold eC;refine O (ax rfl) ?_;split
 .assumption
 .simp
theorem iQ {f:Nat->List Nat} (m:w∈f z):w∈eC f y x z:=by
 unfold eC;split
 .rename_i e;subst e;split
  .exact m
  .exact bM _ m
 .exact m
def NL (N:Nat) (f:Nat->List Nat):Prop:=∀y,(f y).Nodup/\∀z∈f y,z<N
theorem NL.add {f:Nat->List Nat} (h:NL N f) (l:x<N):NL N (eC f y x):=λz=>by
 unfold eC;split
 .split
  .exact h y
  .rename_i n;refine⟨ie (h y).1 n,λw m=>?_⟩;rcases Uo.1 m with m|m
   .exact(h y).2 w m
   .have:w=x:=by exact VX.1 m
    lia
 .exact h z
section
variable{B:Bs} (hB:Base B) {n:Nat} {V0 V:IH} {Q:QE}
include hB
theorem xW (hN:N<999999) {f:Nat->List Nat} (hh:H V0 V (l1++aJ us f++l2)) (nl_:NL N f) {y x:Nat} (e:us[y]? =some a)
 (q:∀V',H V0 V' (l1++aJ us (eC f y x)++l2)->Q .none V'):CallOk B (n+1) 744 [.ref a,.int (x:Nat)] V Q:=by
 refine FI hB ?_;have ga:=hh.getM e;have ll:=cz (nl_ y).1 (nl_ y).2;w_fin;refine eE<|eO ga<|b9 (λc=>?_) (λc=>?_)
 .have c':x∉f y:=by simpa using c
  w_fin;refine⟨bz ga,bZ ga (O (aE ..) (cn ‹_› ‹_›)) ?_⟩;refine O (dB ..) ?_;have:=hh.putM e (f y++[x]);refine q _ ?_;have e2:eC f y x=λz=>if z=y then f y++[x]else f z:=by
   funext z;unfold eC;exact O (ai c') rfl
  exact O e2 this
 .have c':x∈f y:=by simpa using c
  refine q _ ?_;have e2:eC f y x=f:=by
   funext z;unfold eC;refine O (ax c') ?_;split
   .rename_i e;exact O e rfl
   .rfl
  exact O e2 hh
theorem TS {nb:List Bool} (h1:V la=some (.inst 733 fs)) (h2:aq fs 53=some (.ref nn)) (h3:V nn=some (.list (bl nb))) (nbl:nb.length=8) (w8:∀x∈w,x<8)
 (q:∀e:Nat,(∀α X β,w=α++X::β->(∀Y∈β,nb[Y]? =some true)->e<=α.length)->Q (.int (e:Nat)) V):CallOk B (n+1) 716 [.ref la,.tup (nl w)] V Q:=by
 refine FG hB ?_;w_fin;refine fw ?_;w_fin;refine gw (λm Z V'=>E1 λk=>A5 (Z=[some (.ref la),some (.tup (nl w)),some (.int (k:Nat))]) (V'=V) (k=m) (k<=w.length) (∀i x,k<=i->w[i]? =some x->nb[x]? =some true)) ⟨w.length,w.length,by exact O (aE ..) rfl,rfl,rfl,aY _,λi x l e=>?_⟩ ?_
 .exact On (dv l) e
 .rintro m Z V' Fk hFk ⟨k,rfl,rfl,rfl,kl,hk⟩;have fin:(k=0\/∃x,w[k -1]? =some x/\nb[x]? ≠some true)->az B n AY [some (.ref la),some (.tup (nl w)),some (.int (k:Nat))] (aH Q) V':=by
   intro hc;w_fin;refine fX ?_;have:(if(0:Int)>(k:Int) -1 then(0:Int)else(k:Int) -1)=((k -1:Nat):Int):=by split<;>lia
   refine .mk ?_;refine O this (q _ λα X β e hb=>?_);rcases hc with rfl|⟨x,ex,nx⟩
   .exact zero_le _
   .rcases lt_or_ge α.length (k -1)with l|l
    .exfalso;refine nx (hb x ?_);rw[e,getElem?_append_right (le_of_lt ‹_›)]at ex;have:k -1 -α.length=(k -2 -α.length)+1:=(yl l).trans (be (· +1) (by refine O (sub_sub ..) (O (sub_sub ..) ?_);congr 1;lia));rw[this,List.getElem?_cons_succ]at ex;exact aF ex
    .exact l
  w_left;refine gD<|aO (λc=>?_) (λc=>?_)
  .refine bg (l:=w) (i:=k -1) (by lia) λx hx=>?_;have x8:=w8 x (aF hx);refine bg (l:=nb) (i:=x) (Nat.lt_of_lt_of_eq ‹_› (Eq.symm ‹_›)) λb hb=>?_;refine ag h1 h2<|fX ?_;refine O (show((k:Int) -1)=((k -1:Nat):Int)from(ofNat_sub (Int.natCast_pos.1 ‹_›)).symm) (dp (bf hx)<|aB h3 (fR hb)<|cQ<|b9 (λd=>?_) (λd=>?_))
   .w_fin;refine fX ?_;refine O (show((k:Int) -1)=((k -1:Nat):Int)from(ofNat_sub (Int.natCast_pos.1 ‹_›)).symm) (hFk _ _ ⟨k -1,by exact sub_lt (Int.natCast_pos.1 ‹_›) one_pos,k -1,rfl,rfl,rfl,by exact le_trans (sub_le _ _) ‹_›,λi y l e=>?_⟩);by_cases z:i=k -1
    .subst z;obtain rfl:=Os hx e;exact O hb (O d rfl)
    .exact hk i y (by lia) e
   .exact fin (.inr ⟨x,hx,by refine O hb (O d ?_);simp⟩)
  .refine cJ ?_;exact fin (.inl (by lia))
end
noncomputable def dr (LB:bL) (us:List Addr):List (List Int×IV):=List.zipWith (λ(p:Nat×Nat) a=>([(p.1:Int),(p.2:Int)],IV.ref a)) LB us
theorem rZ {K:Type} [DecidableEq K] {l:List (K×IV)} (nd:(l.map (·.1)).Nodup) {k:K} (m:(k,v)∈l):aq l k=some v:=by
 induction e:aq l k with
 |none=>exact absurd rfl (hO e _ m)
 |some w=>
  have m2:=eG e;obtain⟨i,hi⟩:=U0.1 m;obtain⟨j,hj⟩:=U0.1 m2;have e1:(l.map (·.1))[i]? =some k:=by exact O aQ (O hi rfl)
  have e2:(l.map (·.1))[j]? =some k:=by exact O aQ (O hj rfl)
  have:i=j:=(getElem?_inj (av e1) nd).1 (e1.trans e2.symm);subst this;rcases(Oe hi hj);rfl
theorem ki {LB:bL} {us:List Addr}:LB.length=us.length->(dr LB us).map (·.1)=LB.map λp=>[(p.1:Int),(p.2:Int)]:=yu (f:=λ(p:Nat×Nat) a=>([(p.1:Int),(p.2:Int)],IV.ref a)) λ_ _=>rfl
theorem HK {LB:bL} {us:List Addr} (l:LB.length=us.length) (nd:LB.Nodup):((dr LB us).map (·.1)).Nodup:=by
 refine O (ki l) ?_;rw[List.Nodup,pairwise_map];exact nd.imp λn e=>n (by
  simp only[List.cons.injEq,and_true]at e;exact Prod.ext (by lia) (by lia))
theorem HI {i:Nat} (e:LB[i]? =some p) (e':us[i]? =some a):([(p.1:Int),(p.2:Int)],IV.ref a)∈dr LB us:=D2 (f:=λ(p:Nat×Nat) a=>([(p.1:Int),(p.2:Int)],IV.ref a)) e e'
theorem zI {LB:bL} {us:List Addr} (l:LB.length=us.length) (nd:LB.Nodup) {i s r:Nat} (e:LB[i]? =some (s,r)) (e':us[i]? =some a):aq (dr LB us) [(s:Int),(r:Int)]=some (.ref a):=
 rZ (HK l nd) (HI e e')
theorem HL {LB:bL} {us:List Addr} (l:LB.length=us.length) (n:(s,r)∉LB):aq (dr LB us) [(s:Int),(r:Int)]=none:=by
 induction e:aq (dr LB us) [(s:Int),(r:Int)]with
 |none=>rfl
 |some v=>
  have:=mem_map_of_mem (f:=(·.1)) (eG e);rw[ki l]at this;obtain⟨p,mp,ep⟩:=mem_map.1 this;simp only[List.cons.injEq,and_true]at ep;have:p=(s,r):=Prod.ext (by show p.1=s;lia) (by show p.2=r;lia);rw[this]at mp;exact absurd mp n
theorem HM {LB:bL} {us:List Addr} (l:LB.length=us.length) (s r:Nat) (a:Addr):dr LB us++[([(s:Int),(r:Int)],IV.ref a)]=dr (LB++[(s,r)]) (us++[a]):=by
 unfold dr;exact O (List.zipWith_append l) rfl
theorem HJ {LB:bL} {us:List Addr} (l:LB.length=us.length):(dr LB us).length=LB.length:=by
 unfold dr;refine O List.length_zipWith ?_;lia
theorem SC {α:Type} (b:α) (X L l:List α):(b::(X++L++l)).Perm (X++(L++[b])++l):=by
 exact Ob (cw X L [b]) ((dc (l₁:=[b]) (l₂:=X++L)).append_right l)
structure FiA where
 la:Addr
 nn:Addr
 xa:Addr
 ta:Addr
 ia:Addr
 ua:Addr
 ka:Addr
 fs:List (Nat×IV)
 nb:List Bool
 T:bL
 ep:Nat
 u2:List Addr
 u3:List Addr
noncomputable def jg (a:FiA) (LB:bL) (u4:List Addr) (ep2:Nat):List (Addr×IO):=
 [(a.ka,.tdict (dr LB u4) ep2),(a.la,.inst 733 a.fs),(a.nn,.list (bl a.nb)),(a.xa,.tdict (bO a.T) a.ep),(a.ta,.list (bH a.T)),(a.ia,.list (a.u2.map IV.ref)),(a.ua,.list (a.u3.map IV.ref))]
noncomputable def cC (a:FiA) (LB:bL) (u4:List Addr) (ep2:Nat) (inc trn lbc:Nat->List Nat) (l:List (Addr×IO)):List (Addr×IO):=
 jg a LB u4 ep2++(aJ a.u2 inc++(aJ a.u3 trn++(aJ u4 lbc++l)))
section
variable{a:FiA} {LB:bL} {u4:List Addr} {ep2:Nat} {inc trn lbc:Nat->List Nat} {l:List (Addr×IO)}
theorem rR:cC a LB u4 ep2 inc trn lbc l=jg a LB u4 ep2++aJ a.u2 inc++(aJ a.u3 trn++(aJ u4 lbc++l)):=by unfold cC;simp only[append_assoc]
theorem zj:cC a LB u4 ep2 inc trn lbc l=(jg a LB u4 ep2++aJ a.u2 inc)++aJ a.u3 trn++(aJ u4 lbc++l):=by unfold cC;simp only[append_assoc]
theorem jh:cC a LB u4 ep2 inc trn lbc l=(jg a LB u4 ep2++(aJ a.u2 inc++aJ a.u3 trn))++aJ u4 lbc++l:=by unfold cC;simp only[append_assoc]
end
structure FiF (au:Addr) (a:FiA):Prop where
 au:aq a.fs 6=some (.ref au)
 nn:aq a.fs 53=some (.ref a.nn)
 ta:aq a.fs 83=some (.ref a.ta)
 xa:aq a.fs 33=some (.ref a.xa)
 ia:aq a.fs 32=some (.ref a.ia)
 ua:aq a.fs 84=some (.ref a.ua)
 ka:aq a.fs 47=some (.ref a.ka)
 m1:aq a.fs 59=none
structure LkOk (S:List SG) (LB:bL) (u4:List Addr):Prop where
 nd:LB.Nodup
 len:LB.length=u4.length
 le:LB.length<=50000
 iff:∀s r,(s,r)∈LB↔∃st,S[s]? =some st/\r∈st.rd
def IncD (G:GG) (S:List SG) (nb:List Bool) (T:bL) (inc:Nat->List Nat) (P:Nat->Nat->Nat->Prop):Prop:=
 ∀(x p' B r:Nat) α X β (p y:Nat),P x r α.length->T[x]? =some (p',B)->r<5->ah G r=B->ae G r=α++X::β->5<=X->(∀Y∈β,nb[Y]? =some true)->Path S p' α p->T[y]? =some (p,X)->x∈inc y
def LbkD (G:GG) (S:List SG) (T LB:bL) (lbc:Nat->List Nat) (P:Nat->Nat->Prop):Prop:=
 ∀(x p' B r q k:Nat),P x r->T[x]? =some (p',B)->r<5->ah G r=B->Path S p' (ae G r) q->LB[k]? =some (q,r)->x∈lbc k
theorem xV {S:List SG} (h:AutOk G S) {p:Nat} {s:SG} (e:S[p]? =some s):s.rd.length<=5:=cz (h.ex p s e).rn λc m=>(((h.ex p s e).rd c).1 m).2.1
section
variable{B:Bs} (hB:Base B) {n:Nat} {V0 V:IH} {Q:QE} {G:GG} {g:Addr} {A:GA} {au sl:Addr} {S:List SG} (h:GrAt V0 G g A) (ha:AutAt V0 G g au sl S)
include hB h ha
theorem Tz {a:FiA} {K:Kn} (ff:FiF au a)
 (hh:H V0 V (cC a [] [] ep2 (λ_=>[]) (λ_=>[]) (λ_=>[]) l))
 (q:∀LB u4 ep2 o2 o3 V',LkOk S LB u4->H V0 V' (cC a LB u4 ep2 (λ_=>[]) (λ_=>[]) (λ_=>[]) l)->
   az B n AU [some (.ref a.la),some (.ref g),o2,o3,none,none,none,none,none,none,none,none,none] K V'):
 az B n AV [some (.ref a.la),some (.ref g),none,none,none,none,none,none,none,none,none,none,none] K V:=by
 have Sl:=ha.ok.len h.good;w_fin;refine ag (hh.get 1 rfl) ff.au<|ag (ha.mono hh.ext).obj rfl<|bw (ha.mono hh.ext).lst ?_;refine aU (λi Z V'=>E5 λLB u4 ep2 o2 o3=>A4 (Z=[some (.ref a.la),some (.ref g),o2,o3,none,none,none,none,none,none,none,none,none]) (LB.Nodup/\LB.length=u4.length/\LB.length<=5*i) (∀s r,(s,r)∈LB↔s<i/\∃st,S[s]? =some st/\r∈st.rd)<|
  H V0 V' (cC a LB u4 ep2 (λ_=>[]) (λ_=>[]) (λ_=>[]) l)) ⟨[],[],ep2,_,_,rfl,⟨nodup_nil,rfl,aY _⟩,λs r=>⟨(λm=>by cases m),λm=>by lia⟩,hh⟩ ?_ ?_
 .clear hh;rintro i Z V' y Fk hFk hy ⟨LB,u4,ep2,o2,o3,rfl,⟨nd,le,Ll⟩,hL,hh⟩;have aa:=ha.mono hh.ext;refine⟨aa.lst,?_⟩;have il:=av hy;rw[length_map,length_map]at il;refine bg il λs hs=>?_;obtain rfl:=Os (ha.sref hs) hy;have rdl:=xV ha.ok hs;have rnd:=(ha.ok.ex i s hs).rn;w_fin;refine ag (aa.st i s hs).1 rfl<|bw (aa.st i s hs).2.2.2 ?_;refine aU (λj Z V'=>E4 λLB u4 ep2 o3=>A4 (Z=[some (.ref a.la),some (.ref g),some (.ref s.sa),o3,none,none,none,none,none,none,none,none,none]) (LB.Nodup/\LB.length=u4.length/\LB.length<=5*i+j) (∀s' r,(s',r)∈LB↔(s'<i/\∃st,S[s']? =some st/\r∈st.rd)\/(s'=i/\r∈s.rd.take j))<|
   H V0 V' (cC a LB u4 ep2 (λ_=>[]) (λ_=>[]) (λ_=>[]) l)) ⟨LB,u4,ep2,_,rfl,⟨nd,le,Ll⟩,λs' r=>by rw[hL];simp,hh⟩ ?_ ?_
  .clear hh nd le Ll hL aa;rintro j Z V' y Fk hFk hy ⟨LB,u4,ep2,o3,eQ,⟨nd,le,Ll⟩,hL,hh⟩;obtain rfl:=eQ.symm;have aa:=ha.mono hh.ext;refine⟨(aa.st i s hs).2.2.2,?_⟩;refine cZ hy λr hr=>?_;have jl:=av hr;have tk:=c6 hr;have nm:(i,r)∉LB:=λm=>by
    rcases(hL i r).1 m with⟨a,_⟩|⟨_,a⟩
    .exact lt_irrefl _ ‹_›
    .exact fL rnd hr a
   w_fin;refine⟨by decide,λb hb=>?_⟩;have h2:=hh.new (.list (nl [])) hb;refine ag (h2.get 2 rfl) ff.ka<|ag ((ha.mono h2.ext).st i s hs).1 rfl ⟨by decide,jb (k:=[(i:Int),(r:Int)]) (h2.get 1 rfl) rfl (by refine O (HJ le) ?_;lia) λep'=>?_⟩;refine O (eS (HL le nm)) ?_;rw[HM le];have h3:=h2.put 1 (o':=.tdict (dr (LB++[(i,r)]) (u4++[b])) ep') rfl;refine hFk _ _ ⟨LB++[(i,r)],u4++[b],ep',_,rfl,⟨BE nd nm,by simp[le],by refine O bT ?_;simp only[length_cons,length_nil];exact di ‹_›⟩,λs' r'=>?_,h3.perm ?_⟩
   .rw[mem_append,hL];refine O tk ?_;constructor
    .rintro((a|⟨a,c⟩)|a)
     .exact .inl a
     .exact .inr ⟨a,bM _ c⟩
     .have:s'=i/\r'=r:=by simpa using a
      obtain⟨eQ,rfl⟩:=this;obtain rfl:=eQ.symm;exact .inr ⟨rfl,by exact dJ⟩
    .rintro(a|⟨a,c⟩)
     .exact .inl (.inl a)
     .rcases Uo.1 c with c|c
      .exact .inl (.inr ⟨a,c⟩)
      .right;refine O a ?_;simpa using c
   .have e1:aJ (u4++[b]) (λ_=>[])=aJ u4 (λ_=>[])++[(b,.list (nl []))]:=by
     have:=sd u4 (λ_=>[]) b []
     simpa using this
    refine O (jh (u4:=u4++[b])) (O e1 ?_);have p:=SC (b,IO.list (nl [])) (jg a (LB++[(i,r)]) (u4++[b]) ep'++(aJ a.u2 (λ_=>[])++aJ a.u3 λ_=>[])) (aJ u4 λ_=>[]) l;refine(List.Perm.of_eq ?_).trans p;exact O jh rfl
  .clear hh nd le Ll hL aa;rintro Z V' ⟨LB,u4,ep2,o3,rfl,⟨nd,le,Ll⟩,hL,hh⟩;refine⟨((ha.mono hh.ext).st i s hs).2.2.2,?_⟩;rw[length_map]at Ll hL;rw[take_length]at hL;refine hFk _ _ ⟨LB,u4,ep2,_,_,rfl,⟨nd,le,by lia⟩,λs' r=>?_,hh⟩;rw[hL];constructor
   .rintro(⟨a,b⟩|⟨a,b⟩)
    .exact⟨by exact lt_succ_of_lt ‹_›,b⟩
    .exact⟨by lia,s,by exact O a hs,b⟩
   .rintro⟨a,b⟩;by_cases e:s'=i
    .obtain⟨st,e1,e2⟩:=b;rw[e,hs]at e1;obtain rfl:=aP e1;exact .inr ⟨e,e2⟩
    .exact .inl ⟨by lia,b⟩
 .clear hh;rintro Z V' ⟨LB,u4,ep2,o2,o3,rfl,⟨nd,le,Ll⟩,hL,hh⟩;rw[length_map,length_map]at Ll hL;refine⟨(ha.mono hh.ext).lst,?_⟩;exact q LB u4 ep2 o2 o3 V' ⟨nd,le,by lia,λs r=>by rw[hL];exact⟨λx=>x.2,λx=>⟨by obtain⟨st,e,_⟩:=x;exact av e,x⟩⟩⟩ hh
end
theorem IncD.mono {S:List SG} {inc inc':Nat->List Nat} {P P':Nat->Nat->Nat->Prop} (h:IncD G S nb T inc P) (m:∀y w,w∈inc y->w∈inc' y) (p:∀x r k,P' x r k->P x r k):IncD G S nb T inc' P':=
 λx p' B r α X β q y hP a b c d e f g i=>m _ _ (h x p' B r α X β q y (p _ _ _ hP) a b c d e f g i)
theorem LbkD.mono {S:List SG} {lbc lbc':Nat->List Nat} {P P':Nat->Nat->Prop} (h:LbkD G S T LB lbc P) (m:∀y w,w∈lbc y->w∈lbc' y) (p:∀x r,P' x r->P x r):LbkD G S T LB lbc' P':=
 λx p' B r q k hP a b c d e=>m _ _ (h x p' B r q k (p _ _ hP) a b c d e)
theorem Path.fun {S:List SG} (h:AutOk G S) (a:Path S p γ q) (b:Path S p γ q'):q=q':=by
 induction γ generalizing p with
 |nil=>cases a;cases b;rfl
 |cons X γ ih=>
  obtain⟨j,t,a⟩:=a;obtain⟨j',t',b⟩:=b;have:=t.fun h t';subst this;exact ih a b
section
variable{B:Bs} (hB:Base B) {n:Nat} {V0 V:IH} {Q:QE} {G:GG} {g:Addr} {A:GA} {au sl:Addr} {S:List SG} (h:GrAt V0 G g A) (ha:AutAt V0 G g au sl S)
include hB h ha
inductive I49_1 (V0:IH) (G:GG) (g:Addr) (S:List SG) (a:FiA) (l:List (Addr×IO)) (LB:bL) (u4:List Addr) (ep2:Nat) (o2:Option IV) (i:Nat) (Z:aL) (V':IH):Prop
 |mk (inc:Nat->List Nat) (trn:Nat->List Nat) (lbc:Nat->List Nat) (o3:Option IV) (o4:Option IV) (o5:Option IV) (o6:Option IV) (o7:Option IV) (o8:Option IV) (o9:Option IV) (o10:Option IV) (o11:Option IV) (o12:Option IV) (h0:Z=[some (.ref a.la),some (.ref g),o2,o3,o4,o5,o6,o7,o8,o9,o10,o11,o12]) (h1:NL a.T.length inc) (h2:NL a.T.length trn) (h3:NL a.T.length lbc) (h4:IncD G S a.nb a.T inc λx _ _=>x<i) (h5:LbkD G S a.T LB lbc λx _=>x<i) (h6:H V0 V' (cC a LB u4 ep2 inc trn lbc l))
inductive I49_2 (V0:IH) (G:GG) (g:Addr) (S:List SG) (a:FiA) (l:List (Addr×IO)) (LB:bL) (u4:List Addr) (ep2:Nat) (o2:Option IV) (x:Nat) (p0:Nat) (X0:Nat) (rl:Addr) (j:Nat) (Z:aL) (V':IH):Prop
 |mk (inc:Nat->List Nat) (trn:Nat->List Nat) (lbc:Nat->List Nat) (o3:Option IV) (o7:Option IV) (o8:Option IV) (o9:Option IV) (o10:Option IV) (o11:Option IV) (o12:Option IV) (h0:Z=[some (.ref a.la),some (.ref g),o2,o3,some (.int (x:Nat)),some (.int (p0:Nat)),some (.int (X0:Nat)),o7,o8,o9,o10,o11,o12]) (h1:NL a.T.length inc) (h2:NL a.T.length trn) (h3:NL a.T.length lbc) (h4:IncD G S a.nb a.T inc λx' r _=>x'<x\/(x'=x/\r∈(bF G 5 X0).take j)) (h5:LbkD G S a.T LB lbc λx' r=>x'<x\/(x'=x/\r∈(bF G 5 X0).take j)) (h6:H V0 V' (cC a LB u4 ep2 inc trn lbc (l++[(rl,.list (nl (bF G 5 X0)))])))
inductive I49_3 (V0:IH) (G:GG) (g:Addr) (S:List SG) (a:FiA) (l:List (Addr×IO)) (LB:bL) (u4:List Addr) (ep2:Nat) (o2:Option IV) (x:Nat) (p0:Nat) (X0:Nat) (rl:Addr) (j:Nat) (lbc:Nat->List Nat) (r:Nat) (e:Nat) (k:Nat) (Z:aL) (V':IH):Prop
 |mk (inc:Nat->List Nat) (trn:Nat->List Nat) (p:Nat) (o10:Option IV) (o11:Option IV) (o12:Option IV) (h0:Z=[some (.ref a.la),some (.ref g),o2,some (.int (r:Nat)),some (.int (x:Nat)),some (.int (p0:Nat)),some (.int (X0:Nat)),some (.tup (nl (ae G r))),some (.int (e:Nat)),some (.int (p:Nat)),o10,o11,o12]) (h1:NL a.T.length inc) (h2:NL a.T.length trn) (h3:Path S p0 ((ae G r).take k) p) (h4:In G S p r k) (h5:IncD G S a.nb a.T inc λx' r' k'=>x'<x\/(x'=x/\(r'∈(bF G 5 X0).take j\/(r'=r/\k'<k)))) (h6:k<=(ae G r).length) (h7:H V0 V' (cC a LB u4 ep2 inc trn lbc (l++[(rl,.list (nl (bF G 5 X0)))])))
theorem TB {a:FiA} (ff:FiF au a) (nbl:a.nb.length=8) (tok:TrOk S a.T) (l2:a.u2.length=a.T.length) (l3:a.u3.length=a.T.length)
 (hh:H V0 V (cC a [] [] ep2 (λ_=>[]) (λ_=>[]) (λ_=>[]) l))
 (q:∀LB u4 ep2 inc trn lbc V',LkOk S LB u4->NL a.T.length inc->NL a.T.length lbc->IncD G S a.nb a.T inc (λx _ _=>x<a.T.length)->LbkD G S a.T LB lbc (λx _=>x<a.T.length)->H V0 V' (cC a LB u4 ep2 inc trn lbc l)->Q .none V'):
 CallOk B (n+3) 709 [.ref a.la] V Q:=by
 refine FF hB ?_;have Tl:=tok.len;w_fin;refine ag (hh.get 1 rfl) ff.au<|ag (ha.mono hh.ext).obj rfl ?_;refine Tz hB h ha ff hh λLB u4 ep2 o2 o3 V1 lk h1=>?_;clear hh;w_fin;refine ag (h1.get 1 rfl) ff.ta<|cB (h1.get 4 rfl) ?_;refine O (show(bH a.T).length=a.T.length by simp[bH]) (dF (by lia) ?_);have nl0:NL a.T.length (λ_=>[]):=λy=>⟨nodup_nil,λz m=>by cases m⟩;refine aU (I49_1 V0 G g S a l LB u4 ep2 o2) ⟨_,_,_,_,_,_,_,_,_,_,_,_,_,rfl,nl0,nl0,nl0,λx p' B r α X β p y l=>by lia,λx p' B r q k l=>by lia,h1⟩ ?_ ?_
 .clear h1;rintro x Z V' y Fk hFk hy ⟨inc,trn,lbc,o3,o4,o5,o6,o7,o8,o9,o10,o11,o12,rfl,n2,n3,n4,hI,hL,hh⟩;refine⟨trivial,?_⟩;o_shape;refine qT hy λxN eY=>?_;obtain rfl:=eY;refine bg xN λpX hT=>?_;obtain⟨p0,X0⟩:=pX;obtain⟨X05,j0,gt0⟩:=(tok.iff p0 X0).1 (aF hT);obtain⟨r0,d0,in0,e0⟩:=gt0.item ha.ok;pv_eval;have X08:=(gt0.lt ha.ok).2.1;have X0n:X0≠5:=by
   have m:=aF e0;rcases dH r0 with z|z
   .rw[z,h.good.rhs0]at m;simp at m;lia
   .have:=h.good.sym r0 X0 z m;lia
  w_fin;refine ag (hh.get 1 rfl) ff.ta<|aB (hh.get 4 rfl) (show(bH a.T)[x]? =some (.tup [.int (p0:Nat),.int (X0:Nat)]) by rw[bH];exact O aQ (O hT rfl)) ?_;refine⟨rfl,?_⟩;w_fin;refine bk (h.mono hh.ext).obj rfl<|Dl hB (h.mono hh.ext) X08 λrl hrl=>?_;have h2:=hh.new (.list (nl (bF G 5 X0))) hrl;have h3:H V0 (upd V' rl (.list (nl (bF G 5 X0)))) (cC a LB u4 ep2 inc trn lbc (l++[(rl,.list (nl (bF G 5 X0)))])):=h2.perm (by
   have e:cC a LB u4 ep2 inc trn lbc (l++[(rl,.list (nl (bF G 5 X0)))])=cC a LB u4 ep2 inc trn lbc l++[(rl,.list (nl (bF G 5 X0)))]:=by unfold cC;simp only[append_assoc]
   exact O e (dc (l₁:=[(rl,IO.list (nl (bF G 5 X0)))])))
  generalize upd V' rl (.list (nl (bF G 5 X0)))=V1 at h3⊢;clear h2 hh hrl;have getR:∀{inc trn lbc:Nat->List Nat} {s:IH},H V0 s (cC a LB u4 ep2 inc trn lbc (l++[(rl,.list (nl (bF G 5 X0)))]))->s rl=some (.list (nl (bF G 5 X0))):=λ{inc trn lbc s} hh=>(hh.at_ (rl,.list (nl (bF G 5 X0))) (by unfold cC;simp)).2;refine bw (getR h3) ?_;refine aU (I49_2 V0 G g S a l LB u4 ep2 o2 x p0 X0 rl) ⟨_,_,_,_,_,_,_,_,_,_,rfl,n2,n3,n4,hI.mono (λ_ _ z=>z) (λx' r k z=>z.elim id λz=>by cases z.2),hL.mono (λ_ _ z=>z) (λx' r z=>z.elim id λz=>by cases z.2),h3⟩ ?_ ?_
  .clear h3 n2 n3 n4 hI hL;rintro j Z V' y Fk hFk hy ⟨inc,trn,lbc,o3,o7,o8,o9,o10,o11,o12,rfl,n2,n3,n4,hI,hL,hh⟩;refine⟨getR hh,?_⟩;o_shape;refine kE hy λr hr eY=>?_;obtain rfl:=eY;obtain⟨r5,rX⟩:=byx_mem.1 (aF hr);have rnd:=yR G X0;have tkr:=c6 hr;have inr:=in0.clos h.good ha.ok e0 r5 rX;have rn0:r≠0:=λe=>by rw[e,h.good.lhs0]at rX;lia
   have gr:=h.mono hh.ext;obtain⟨ru,hru,hru2⟩:=gr.ruleGet r5;pv_eval;have w8:∀x∈ae G r,x<8:=λx m=>h.good.rhs8 m;have r3:=h.good.len3 r;w_fin;refine ag gr.obj rfl<|aB gr.rules hru<|ag hru2 rfl ?_;w_fin;refine bk (hh.get 1 rfl) ff.m1<|TS hB (hh.get 1 rfl) ff.nn (hh.get 2 rfl) nbl w8 λe he=>?_;w_fin;w_fin;refine fw ?_;refine O (aE ..) (dF (by lia) ?_);clear gr hru hru2 ru;refine aU (I49_3 V0 G g S a l LB u4 ep2 o2 x p0 X0 rl j lbc r e) ⟨_,_,p0,_,_,_,rfl,n2,n3,rfl,inr,hI.mono (λ_ _ z=>z) λx' r' k z=>z.imp id λ⟨z,w⟩=>⟨z,w.elim id λw=>by lia⟩,zero_le _,hh⟩ ?_ ?_
   .clear hh n2 n3 hI;rintro k Z V' y Fk hFk hy ⟨inc,trn,p,o10,o11,o12,rfl,n2,n3,pa,ik,hI,kl,hh⟩;refine⟨trivial,?_⟩;o_shape;refine qT hy λkw eY=>?_;obtain rfl:=eY;refine bg kw λX hX=>?_;have X8:=w8 X (aF hX);obtain⟨j1,gt1,ik1⟩:=ik.step ha.ok hX;pv_eval;have tk:(ae G r).take (k+1)=(ae G r).take k++[X]:=c6 hX;have pa1:Path S p0 ((ae G r).take (k+1)) j1:=by exact O tk (pa.snoc gt1)
    have fin:∀(inc trn:Nat->List Nat) (V2:IH) (o12:Option IV) (K:Kn),NL a.T.length inc->NL a.T.length trn->IncD G S a.nb a.T inc (λx' r' k'=>x'<x\/(x'=x/\(r'∈(bF G 5 X0).take j\/(r'=r/\k'<k+1))))->H V0 V2 (cC a LB u4 ep2 inc trn lbc (l++[(rl,.list (nl (bF G 5 X0)))]))->
     (∀Z V',(I49_3 V0 G g S a l LB u4 ep2 o2 x p0 X0 rl j lbc r e (k+1) Z V')->K.nx Z V')->
     az B (n+2) AW [some (.ref a.la),some (.ref g),o2,some (.int (r:Nat)),some (.int (x:Nat)),some (.int (p0:Nat)),some (.int (X0:Nat)),some (.tup (nl (ae G r))),some (.int (e:Nat)),some (.int (p:Nat)),some (.int (k:Nat)),some (.int (X:Nat)),o12] K V2:=by
     intro inc trn V2 o12 K n2 n3 hI hh hK;w_fin;refine ag (hh.get 1 rfl) ff.au<|bk (ha.mono hh.ext).obj rfl<|Dd hB (ha.mono hh.ext) gt1 ?_;exact hK _ _ ⟨inc,trn,j1,_,_,_,rfl,n2,n3,pa1,ik1,hI,kw,hh⟩
    have skip:(X<5\/¬e<=k)->IncD G S a.nb a.T inc (λx' r' k'=>x'<x\/(x'=x/\(r'∈(bF G 5 X0).take j\/(r'=r/\k'<k+1)))):=by
     intro hc x' p' B' r' α Y β p2 y2 hP b1 b2 b3 b4 b5 b6 b7 b8;rcases hP with z|⟨ex,z|⟨er,z⟩⟩
     .exact hI x' p' B' r' α Y β p2 y2 (.inl z) b1 b2 b3 b4 b5 b6 b7 b8
     .exact hI x' p' B' r' α Y β p2 y2 (.inr ⟨ex,.inl z⟩) b1 b2 b3 b4 b5 b6 b7 b8
     .by_cases z2:α.length<k
      .exact hI x' p' B' r' α Y β p2 y2 (.inr ⟨ex,.inr ⟨er,z2⟩⟩) b1 b2 b3 b4 b5 b6 b7 b8
      .have ek:α.length=k:=by lia
       exfalso;rcases hc with hc|hc
       .rw[<-er,b4,<-ek,getElem?_append_right (le_refl _)]at hX;simp at hX;lia
       .exact hc (Ob ek (he α Y β (er▸b4) b6))
    w_fin;refine dp (bf hX) ?_;w_fin;refine gU<|aO (λc=>?_) (λc=>?_)
    .refine bk (h.mono hh.ext).obj rfl<|jz hB (h.mono hh.ext)<|cQ<|b9 (λd=>?_) (λd=>?_)
     .have X5:5<=X:=by simp at d;lia
      o_shape;obtain⟨z,hz⟩:=U0.1 ((tok.iff p X).2 ⟨X5,j1,gt1⟩);refine bg (l:=a.u2) (i:=z) (by have:=av hz;lia) λb2 hb2=>?_;refine bg (l:=a.u3) (i:=z) (by have:=av hz;lia) λb3 hb3=>?_;pv_eval;have add:IncD G S a.nb a.T (eC inc z x) (λx' r' k'=>x'<x\/(x'=x/\(r'∈(bF G 5 X0).take j\/(r'=r/\k'<k+1)))):=by
       intro x' p' B' r' α Y β p2 y2 hP b1 b2 b3 b4 b5 b6 b7 b8;rcases hP with w|⟨ex,w|⟨er,w⟩⟩
       .exact iQ (hI x' p' B' r' α Y β p2 y2 (.inl w) b1 b2 b3 b4 b5 b6 b7 b8)
       .exact iQ (hI x' p' B' r' α Y β p2 y2 (.inr ⟨ex,.inl w⟩) b1 b2 b3 b4 b5 b6 b7 b8)
       .by_cases z2:α.length<k
        .exact iQ (hI x' p' B' r' α Y β p2 y2 (.inr ⟨ex,.inr ⟨er,z2⟩⟩) b1 b2 b3 b4 b5 b6 b7 b8)
        .have ek:α.length=k:=by lia
         rw[ex,hT]at b1;rcases b1;rw[er]at b4;have e1:(ae G r).take k=α:=by refine O b4 (Ob ek ?_);rw[List.take_left'];rfl
         rw[e1]at pa;have e2:Y=X:=by
          rw[b4,<-ek,getElem?_append_right (le_refl _)]at hX
          simpa using hX
         have e3:=pa.fun ha.ok b7;rw[<-e3,e2]at b8;exact O ex (O ((getElem?_inj (av b8) tok.nd).1 (b8.trans hz.symm)) (yB _ _ _))
      w_fin;refine ag (hh.get 1 rfl) ff.xa ⟨by decide,gW (l:=[(p:Int),(X:Int)]) (hh.get 3 rfl) rfl (zC tok.nd hz) ?_⟩;w_fin;refine ag (hh.get 1 rfl) ff.ia<|aB (hh.get 5 rfl) (iz hb2)<|xW hB (N:=a.T.length) (by lia) (by rw[rR]at hh;exact hh) n2 hb2 λV2 h2=>?_;rw[<-rR]at h2;w_fin;refine cV<|aO (λc2=>?_) (λc2=>?_)
      .w_fin;refine ag (h2.get 1 rfl) ff.ua<|aB (h2.get 6 rfl) (iz hb3)<|xW hB (N:=a.T.length) (by lia) (by rw[zj]at h2;exact h2) n3 hb3 λV3 h3=>?_;rw[<-zj]at h3;exact fin _ _ _ _ _ (n2.add xN) (n3.add xN) add h3 hFk
      .exact fin _ _ _ _ _ (n2.add xN) n3 add h2 hFk
     .exact fin _ _ _ _ _ n2 n3 (skip (.inl (by simp at d;lia))) hh hFk
    .refine cJ ?_;exact fin _ _ _ _ _ n2 n3 (skip (.inr λz=>c (by lia))) hh hFk
   .clear hh n2 n3 hI;rintro Z V' ⟨inc,trn,p,o10,o11,o12,rfl,n2,n3,pa,ik,hI,kl,hh⟩;refine⟨trivial,?_⟩;rw[length_map,length_range]at pa ik hI;rw[take_length]at pa;o_shape;obtain⟨st,hst,_,mst⟩:=ik;have mrd:r∈st.rd:=((ha.ok.ex p st hst).rd r).2 ⟨rn0,r5,mst⟩;obtain⟨z,hz⟩:=U0.1 ((lk.iff p r).2 ⟨st,hst,mrd⟩);refine bg (l:=u4) (i:=z) (by have:=av hz;rw[lk.len]at this;exact this) λb4 hb4=>?_;pv_eval;w_fin;refine ag (hh.get 1 rfl) ff.ka ⟨by decide,gW (l:=[(p:Int),(r:Int)]) (hh.get 0 rfl) rfl (zI lk.len lk.nd hz hb4)<|xW hB (N:=a.T.length) (by lia) (by rw[jh]at hh;exact hh) n4 hb4 λV2 h2=>?_⟩;rw[<-jh]at h2;refine hFk _ _ ⟨inc,trn,_,_,_,_,_,_,_,_,rfl,n2,n3,n4.add xN,?_,?_,h2⟩
    .intro x' p' B' r' α Y β p2 y2 hP b1 b2 b3 b4;refine hI x' p' B' r' α Y β p2 y2 ?_ b1 b2 b3 b4;rw[tkr]at hP;refine hP.imp id λ⟨w1,w2⟩=>⟨w1,?_⟩;rcases Uo.1 w2 with w|w
     .exact .inl w
     .have:r'=r:=by exact VX.1 w
      obtain rfl:=this.symm;exact .inr ⟨rfl,by refine O b4 (O bT ?_);simp⟩
    .intro x' p' B' r' q2 k2 hP b1 b2 b3 b4 b5;rw[tkr]at hP;rcases hP with w|⟨ex,w⟩
     .exact iQ (hL x' p' B' r' q2 k2 (.inl w) b1 b2 b3 b4 b5)
     .rcases Uo.1 w with w|w
      .exact iQ (hL x' p' B' r' q2 k2 (.inr ⟨ex,w⟩) b1 b2 b3 b4 b5)
      .have er:r'=r:=by exact VX.1 w
       rw[ex,hT]at b1;rcases b1;rw[er]at b4 b5;rw[<-pa.fun ha.ok b4]at b5;exact O ex (O ((getElem?_inj (av b5) lk.nd).1 (b5.trans hz.symm)) (yB _ _ _))
  .clear h3 n2 n3 n4 hI hL;rintro Z V' ⟨inc,trn,lbc,o3,o7,o8,o9,o10,o11,o12,rfl,n2,n3,n4,hI,hL,hh⟩;refine⟨getR hh,?_⟩;rw[length_map,take_length]at hI hL;refine hFk _ _ ⟨inc,trn,lbc,_,_,_,_,_,_,_,_,_,_,rfl,n2,n3,n4,?_,?_,hh.sub ?_⟩
   .intro x' p' B' r' α Y β p2 y2 hP b1 b2 b3;refine hI x' p' B' r' α Y β p2 y2 ?_ b1 b2 b3;by_cases w:x'=x
    .obtain rfl:=w.symm;replace b1:=Oe hT b1;cases b1
     exact .inr ⟨rfl,byx_mem.2 ⟨b2,b3⟩⟩
    .exact .inl (by lia)
   .intro x' p' B' r' q2 k2 hP b1 b2 b3;refine hL x' p' B' r' q2 k2 ?_ b1 b2 b3;by_cases w:x'=x
    .obtain rfl:=w.symm;replace b1:=Oe hT b1;cases b1
     exact .inr ⟨rfl,byx_mem.2 ⟨b2,b3⟩⟩
    .exact .inl (by lia)
   .unfold cC;exact(List.Sublist.refl _).append ((List.Sublist.refl _).append ((List.Sublist.refl _).append ((List.Sublist.refl _).append (sublist_append_left _ _))))
 .clear h1;rintro Z V' ⟨inc,trn,lbc,o3,o4,o5,o6,o7,o8,o9,o10,o11,o12,rfl,n2,n3,n4,hI,hL,hh⟩;rw[length_map,length_range]at hI hL;exact⟨trivial,q LB u4 ep2 inc trn lbc V' lk n2 n4 hI hL hh⟩
end
noncomputable def d7 (F:Nat->Nat):List Nat->Nat
 |[]=>0
 |x::xs=>F x|||d7 F xs
theorem Sv (F:Nat->Nat) (x:Nat) (xs:List Nat):d7 F (x::xs)=F x|||d7 F xs:=rfl
theorem Sx {F:Nat->Nat} (m:x∈xs):sub (F x) (d7 F xs):=by
 induction xs with
 |nil=>rcases m
 |cons y xs ih=>
  rcases mem_cons.1 m with e|m
  .subst e;exact .left _ _
  .exact(ih m).trans (.right _ _)
theorem Sw {F:Nat->Nat} (h:∀x,F x<32) (xs:List Nat):d7 F xs<32:=by
 induction xs with
 |nil=>exact(by decide:(0:Nat)<32)
 |cons y xs ih=>exact gN (h y) ih
noncomputable def eV (LB:bL) (ms:List Nat):List (List Int×IV):=List.zipWith (λ(p:Nat×Nat) (m:Nat)=>([(p.1:Int),(p.2:Int)],IV.int (m:Nat))) LB ms
theorem Bx {LB:bL} {us:List Nat}:LB.length=us.length->(eV LB us).map (·.1)=LB.map λp=>[(p.1:Int),(p.2:Int)]:=yu (f:=λ(p:Nat×Nat) (m:Nat)=>([(p.1:Int),(p.2:Int)],IV.int (m:Nat))) λ_ _=>rfl
theorem PH {LB:bL} {us:List Nat} (l:LB.length=us.length) (n:(s,r)∉LB):aq (eV LB us) [(s:Int),(r:Int)]=none:=by
 induction e:aq (eV LB us) [(s:Int),(r:Int)]with
 |none=>rfl
 |some v=>
  have:=mem_map_of_mem (f:=(·.1)) (eG e);rw[Bx l]at this;obtain⟨p,mp,ep⟩:=mem_map.1 this;simp only[List.cons.injEq,and_true]at ep;have:p=(s,r):=Prod.ext (by show p.1=s;lia) (by show p.2=r;lia);rw[this]at mp;exact absurd mp n
theorem PG {i:Nat} (e:LB[i]? =some p) (e':us[i]? =some a):([(p.1:Int),(p.2:Int)],IV.int (a:Nat))∈eV LB us:=D2 (f:=λ(p:Nat×Nat) (m:Nat)=>([(p.1:Int),(p.2:Int)],IV.int (m:Nat))) e e'
theorem Hy {LB:bL} (nd:LB.Nodup):(LB.map λp=>[(p.1:Int),(p.2:Int)]).Nodup:=by
 rw[List.Nodup,pairwise_map];exact nd.imp λn e=>n (by
  simp only[List.cons.injEq,and_true]at e;exact Prod.ext (by lia) (by lia))
theorem PI {LB:bL} {us:List Nat} (l:LB.length=us.length) (s r a:Nat):eV LB us++[([(s:Int),(r:Int)],IV.int (a:Nat))]=eV (LB++[(s,r)]) (us++[a]):=by
 unfold eV;exact O (List.zipWith_append l) rfl
structure MasksAt (V:IH) (m:Addr) (S:List SG) (mf:Nat->Nat->Nat):Prop where
 obj:∃kvs ep,V m=some (.tdict kvs ep)/\∀(s:Nat) st r,S[s]? =some st->r∈st.rd->aq kvs [(s:Int),(r:Int)]=some (.int (mf s r:Nat))
 lt:∀s r,mf s r<32
theorem MasksAt.mono {S:List SG} {mf:Nat->Nat->Nat} (h:MasksAt V m S mf) (e:Ext V V'):MasksAt V' m S mf:=⟨h.obj.imp λ_ z=>z.imp λ_ z=>z.imp_left (e _ _),h.lt⟩
open Classical in
noncomputable def kj (LB:bL) (lbc:Nat->List Nat) (F:Nat->Nat) (s r:Nat):Nat:=if h:∃k,LB[k]? =some (s,r)then d7 F (lbc h.choose)else 0
theorem zJ {LB:bL} {lbc:Nat->List Nat} {F:Nat->Nat} {s r k:Nat} (nd:LB.Nodup) (h:LB[k]? =some (s,r)):kj LB lbc F s r=d7 F (lbc k):=by
 have hx:∃k,LB[k]? =some (s,r):=⟨k,h⟩;unfold kj;refine O (dif_pos hx) ?_;have:hx.choose=k:=(getElem?_inj (av hx.choose_spec) nd).1 (hx.choose_spec.trans h.symm);exact O this rfl
section
variable{B:Bs} (hB:Base B) {n:Nat} {V:IH} {Q:QE}
include hB
theorem TJ {S:List SG} {lbc:Nat->List Nat} (lk:LkOk S LB u4) (h1:V la=some (.inst 733 fs)) (h2:aq fs 47=some (.ref ka)) (h3:aq fs 27=some (.ref fa))
 (h4:V ka=some (.tdict (dr LB u4) ep2)) (h5:∀k a,u4[k]? =some a->V a=some (.list (nl (lbc k)))) (h6:V fa=some (.list (nl R))) (mn:MN N R) (lt:∀k z,z∈lbc k->z<N)
 (q:∀m mf V',Ext V V'->MasksAt V' m S mf->(∀k s r z,LB[k]? =some (s,r)->z∈lbc k->sub (gf R z) (mf s r))->Q (.ref m) V'):CallOk B (n+1) 723 [.ref la] V Q:=by
 refine FH hB ?_;w_fin;refine λep=>fK (.tdict (eV [] []) ep) (H.nil (V:=V)) λma V1 hh=>?_;w_fin;refine ag (hh.ext _ _ h1) h2<|Gs (hh.ext _ _ h4) (λq m=>by
  have:=mem_map_of_mem (f:=(·.1)) m;rw[ki lk.len]at this;obtain⟨p,_,e⟩:=mem_map.1 this;refine Ob e ?_;show(2:Nat)<64;decide) ?_
 have kmap:(dr LB u4).map (λq:List Int×IV=>IV.tup (q.1.map IV.int))=LB.map λp=>IV.tup [.int (p.1:Nat),.int (p.2:Nat)]:=by
  have:=be (List.map λl:List Int=>IV.tup (l.map IV.int)) (ki lk.len)
  replace this:=Eq.trans (Oe map_map this) map_map
  exact this
 refine O kmap (aU (λi Z V'=>E5 λms ep o2 o3 o4=>A3 (Z=[some (.ref la),some (.ref ma),o2,o3,o4]) (ms.length=i/\∀k:Nat,k<i->ms[k]? =some (d7 (gf R) (lbc k)))<|H V V' [(ma,.tdict (eV (LB.take i) ms) ep)]) ⟨[],ep,_,_,_,rfl,⟨rfl,λk l=>by exact absurd ‹_› (not_lt_zero _)⟩,hh⟩ ?_ ?_)
 .clear hh;rintro i Z V' y Fk hFk hy ⟨ms,ep,o2,o3,o4,rfl,⟨ml,mv⟩,hh⟩;refine⟨hh.ext _ _ h4,?_⟩;obtain⟨⟨s,r⟩,hL,rfl⟩:∃p,LB[i]? =some p/\y=.tup [.int (p.1:Nat),.int (p.2:Nat)]:=by
   replace hy:=Oe aQ hy
   induction e:LB[i]? with
   |none=>rw[e]at hy;exact bv hy
   |some p=>rw[e]at hy;obtain rfl:=aP hy;exact⟨p,rfl,rfl⟩
  have il:=av hL;have le:=lk.le;refine bg (l:=u4) (i:=i) (Ob lk.len il) λa ha=>?_;have tkl:(LB.take i).length=ms.length:=by refine O length_take ?_;lia
  w_fin;w_fin;refine ag (hh.ext _ _ h1) h2<|gW (l:=[(s:Int),(r:Int)]) (hh.ext _ _ h4) rfl (zI lk.len lk.nd hL ha)<|bw (hh.ext _ _ (h5 i a ha)) ?_;refine aU (λj Z V''=>E2 λm o4=>A3 (Z=[some (.ref la),some (.ref ma),some (.tup [.int (s:Nat),.int (r:Nat)]),some (.int (m:Nat)),o4]) (m|||d7 (gf R) ((lbc i).drop j)=d7 (gf R) (lbc i)) (V''=V')) ⟨0,_,rfl,by simp,rfl⟩ ?_ ?_
  .rintro j Z V'' y Fk hFk hy ⟨m,o4,rfl,hm,eQ⟩;obtain rfl:=eQ.symm;refine⟨hh.ext _ _ (h5 i a ha),?_⟩;refine cZ hy λz hz=>?_;w_fin;refine ag (hh.ext _ _ h1) h3<|aB (hh.ext _ _ h6) (bf (dO (O mn.len (lt i z (aF hz)))))<|dZ ?_;refine hFk _ _ ⟨_,_,rfl,?_,rfl⟩;refine Ob hm (O (List.drop_eq_getElem_cons (av hz)) ?_);have e:(lbc i)[j]'(av hz)=z:=by have:=c8 (av hz);exact(aP (Oe hz this)).symm
   exact O e (O (Sv ..) (O (Nat.or_assoc ..) rfl))
  .rintro Z V'' ⟨m,o4,rfl,hm,eQ⟩;obtain rfl:=eQ.symm;refine⟨hh.ext _ _ (h5 i a ha),?_⟩;rw[length_map,drop_length]at hm;have hm:m=d7 (gf R) (lbc i):=by exact Ob hm (or_zero _).symm
   subst hm;w_fin;refine jb (k:=[(s:Int),(r:Int)]) (hh.get 0 rfl) rfl (by unfold eV;refine O List.length_zipWith (O tkl ?_);lia) λep'=>?_;have nm:(s,r)∉LB.take i:=λm=>by
    obtain⟨k,hk⟩:=U0.1 m;have kl:=av hk;rw[length_take]at kl
    replace hk:=Oe (ax (by lia)) (Oe getElem?_take hk)
    have:=(getElem?_inj (av hk) lk.nd).1 (hk.trans hL.symm);lia
   refine O (eS (PH tkl nm)) ?_;rw[PI tkl];have h7:=hh.put 0 (o':=.tdict (eV (LB.take i++[(s,r)]) (ms++[d7 (gf R) (lbc i)])) ep') rfl;have tk:LB.take (i+1)=LB.take i++[(s,r)]:=by exact O take_add_one (O hL rfl)
   refine hFk _ _ ⟨ms++[d7 (gf R) (lbc i)],ep',_,_,_,rfl,⟨by simp[ml],λk l=>?_⟩,by exact O tk h7⟩;by_cases e:k=i
   .exact O e (O (dj (le_of_eq ‹_›)) (O ml (O (sub_self ..) rfl)))
   .exact O (cF (by lia)) (mv k (by lia))
 .clear hh;rintro Z V' ⟨ms,ep,o2,o3,o4,rfl,⟨ml,mv⟩,hh⟩;rw[length_map]at ml mv hh;rw[take_length]at hh;refine⟨hh.ext _ _ h4,?_⟩;w_fin;refine q ma (kj LB lbc (gf R)) V' hh.ext ⟨⟨_,_,hh.get 0 rfl,λs st r e m=>?_⟩,λs r=>?_⟩ λk s r z hk mz=>?_
  .obtain⟨k,hk⟩:=U0.1 ((lk.iff s r).2 ⟨st,e,m⟩);refine O (zJ lk.nd hk) ?_;exact rZ (O (Bx (Eq.symm ‹_›)) (Hy lk.nd)) (PG hk (mv k (av hk)))
  .unfold kj;split
   .exact Sw mn.lt _
   .decide
  .exact O (zJ lk.nd hk) (Sx mz)
end
structure LalrOk (G:GG) (S:List SG) (mf:Nat->Nat->Nat) (T:bL) (nb:List Bool) (R1 R2:Nat->Nat):Prop where
 nul:NulOk G nb
 tok:TrOk S T
 rd1:∀x p X j t,T[x]? =some (p,X)->GT S p X j->t<5->(∃k,GT S j t k)->(R1 x).testBit t=true
 rd2:∀x p X j Y y,T[x]? =some (p,X)->GT S p X j->5<=Y->nb[Y]? =some true->T[y]? =some (j,Y)->sub (R1 y) (R1 x)
 f1:∀x,sub (R1 x) (R2 x)
 f2:∀(x p' B r:Nat) α X β (p y:Nat),T[x]? =some (p',B)->r<5->ah G r=B->ae G r=α++X::β->5<=X->(∀Y∈β,nb[Y]? =some true)->Path S p' α p->T[y]? =some (p,X)->sub (R2 x) (R2 y)
 lb:∀(x p' B r q:Nat) st,T[x]? =some (p',B)->r<5->ah G r=B->Path S p' (ae G r) q->S[q]? =some st->r∈st.rd->sub (R2 x) (mf q r)
theorem NL.le {f:Nat->List Nat} (h:NL N f) (x:Nat):(f x).length<=N:=cz (h x).1 (h x).2
theorem SB {α:Type} (k l n x t i u:α) (L2 L3 D:List α):((k::((u::L3)++(i::L2)))++(l::n::x::t::D)).Perm ([k,l,n,x,t,i,u]++(L2++(L3++([]++D)))):=by
 refine List.Perm.cons k ((List.perm_append_comm_assoc ((u::L3)++(i::L2)) [l,n,x,t] D).trans (List.Perm.append_left [l,n,x,t] ?_));exact O (cw ..) ((List.perm_append_comm_assoc (u::L3) (i::L2) D).trans (List.perm_middle.cons i))
section
variable{B:Bs} (hB:Base B) {n:Nat} {V:IH} {Q:QE} {G:GG} {g:Addr} {A:GA} {au sl:Addr} {S:List SG} (h:GrAt V G g A) (ha:AutAt V G g au sl S)
include hB h ha
theorem TL (q:∀m mf T nb R1 R2 V',Ext V V'->MasksAt V' m S mf->LalrOk G S mf T nb R1 R2->Q (.ref m) V'):CallOk B (n+6) 751 [.ref au] V Q:=by
 refine FJ hB ?_;w_fin;refine fq hB (init:=688) (by decide) λla hla=>?_;refine FC hB ?_;have h1:=(H.nil (V:=V)).new (.inst 733 []) hla;generalize upd V la (.inst 733 [])=V1 at h1⊢;clear hla;w_fin;refine cW 0 [(6,.ref au)] h1 rfl rfl rfl λV2 h2=>?_;clear h1;w_fin;refine ag (ha.mono h2.ext).obj rfl<|x9 hB (h.mono h2.ext) λnb nn V3 e3 nok f3 g3=>?_;have h3:=h2.got e3 f3 g3;refine cW 1 [(6,.ref au),(53,.ref nn)] h3 rfl rfl rfl λV4 h4=>?_;clear h2 h3 e3 f3 g3;w_fin;refine⟨by decide,λta hta=>?_⟩;have h5:=h4.new (.list (bH [])) hta;refine cW 2 [(6,.ref au),(53,.ref nn),(83,.ref ta)] h5 rfl rfl rfl λV5 h6=>?_;clear h4 h5 hta;w_fin;intro ep xa hxa;have h7:=h6.new (.tdict (bO []) ep) hxa;refine cW 3 [(6,.ref au),(53,.ref nn),(83,.ref ta),(33,.ref xa)] h7 rfl rfl rfl λV6 h8=>?_;have h9:=h8.perm (l':=[(la,.inst 733 [(6,.ref au),(53,.ref nn),(83,.ref ta),(33,.ref xa)]),(xa,.tdict (bO []) ep),(ta,.list (bH []))]++[(nn,.list (bl nb))])
  (dc (l₁:=[(xa,IO.tdict (bO []) ep),(ta,.list (bH [])),(nn,.list (bl nb))]) (l₂:=[(la,IO.inst 733 [(6,.ref au),(53,.ref nn),(83,.ref ta),(33,.ref xa)])]) |>.trans (.refl _))
 clear h6 h7 h8 hxa;w_fin;refine bk (h9.get 0 rfl) rfl<|TR hB h ha h9 λT ep V7 tok h10=>?_;clear h9;have Tl:=tok.len;w_fin;refine⟨by decide,λda hda=>?_⟩;have h11:=h10.new (.list (nl [])) hda;refine cW 1 [(6,.ref au),(53,.ref nn),(83,.ref ta),(33,.ref xa),(18,.ref da)] h11 rfl rfl rfl λV8 h12=>?_;clear h10 h11 hda;w_fin;refine⟨by decide,λra hra=>?_⟩;have h13:=h12.new (.list (([]:List Addr).map IV.ref)) hra;refine cW 2 ((cv au nn ta xa da ra)) h13 rfl rfl rfl λV9 h14=>?_;have h15:H V V9 ([(la,.inst 733 (cv au nn ta xa da ra)),(nn,.list (bl nb)),(xa,.tdict (bO T) ep),(ta,.list (bH T)),(da,.list (nl [])),(ra,.list (([]:List Addr).map IV.ref))]++aJ [] λ_=>[]):=h14.perm (by
  have p1:List.Perm ([(ra,IO.list (([]:List Addr).map IV.ref)),(da,.list (nl []))]++[(la,IO.inst 733 (cv au nn ta xa da ra)),(xa,.tdict (bO T) ep),(ta,.list (bH T)),(nn,.list (bl nb))]) ([(la,IO.inst 733 (cv au nn ta xa da ra)),(xa,.tdict (bO T) ep),(ta,.list (bH T)),(nn,.list (bl nb))]++[(da,.list (nl [])),(ra,IO.list (([]:List Addr).map IV.ref))]):=dc.trans (.append_left _ (.swap _ _ _));refine p1.trans (.cons _ ?_);exact(dc (l₁:=[(xa,IO.tdict (bO T) ep),(ta,.list (bH T))]) (l₂:=[(nn,IO.list (bl nb))])).append_right [(da,IO.list (nl [])),(ra,IO.list (([]:List Addr).map IV.ref))])
 clear h12 h13 h14 hra;w_fin;refine bk (h15.get 0 rfl) rfl<|TC hB h ha tok nok.len h15 λdm us rel V10 mdm ul rok h16=>?_;clear h15;have tll:(bH T).length=T.length:=by simp[bH]
 w_fin;refine ag (h16.get 0 rfl) rfl<|bw (h16.get 3 rfl) ?_;refine jU (λV' e=>e _ _ (h16.get 3 rfl)) λu2 ia V11 ul2 _ _ h17=>?_;have h18:=h16.join h17
 replace ul2:=Eq.trans ul2 tll
 have sx:∀{V':IH} {a0:Addr} {X:List (Addr×IO)} {fs:List (Nat×IV)} {r:List (Addr×IO)},H V V' (X++((la,.inst 733 fs)::r))->V' la=some (.inst 733 fs):=λ{V' a0 X fs r} hh=>(hh.at_ (la,.inst 733 fs) (dA _ bJ)).2;have px:∀{V':IH} {X:List (Addr×IO)} {fs fs':List (Nat×IV)} {r:List (Addr×IO)},H V V' (X++((la,.inst 733 fs)::r))->H V (upd V' la (.inst 733 fs')) (X++((la,.inst 733 fs')::r)):=λ{V' X fs fs' r} hh=>by
  have:=hh.put X.length (a:=la) (o:=.inst 733 fs) (o':=.inst 733 fs') (by simp);rw[List.set_append_right _ _ (le_refl _),sub_self]at this;exact this
 refine cp (sx (a0:=la) h18) (by decide) (aG rfl) ?_;have h19:=px (fs':=cv au nn ta xa da ra++[(32,.ref ia)]) h18;refine O (show aK (cv au nn ta xa da ra) 32 (.ref ia)=cv au nn ta xa da ra++[(32,.ref ia)]from rfl) ?_;generalize upd V11 la (.inst 733 (cv au nn ta xa da ra++[(32,.ref ia)]))=V12 at h19⊢;clear h16 h17 h18;have tx:∀{V':IH} {X:List (Addr×IO)} {fs:List (Nat×IV)} {r:List (Addr×IO)},H V V' (X++((la,.inst 733 fs)::(nn,.list (bl nb))::(xa,.tdict (bO T) ep)::(ta,.list (bH T))::r))->V' ta=some (.list (bH T)):=λ{V' X fs r} hh=>(hh.at_ (ta,.list (bH T)) (by simp)).2;w_fin;refine ag (sx (a0:=la) h19) rfl<|bw (tx h19) ?_;refine jU (λV' e=>e _ _ (tx h19)) λu3 ua V13 ul3 _ _ h20=>?_;have h21:=h19.join h20
 replace ul3:=Eq.trans ul3 tll
 rw[<-append_assoc]at h21;refine cp (sx (a0:=la) h21) (by decide) (aG rfl) ?_;have h22:=px (fs':=cv au nn ta xa da ra++[(32,.ref ia),(84,.ref ua)]) h21;refine O (show aK (cv au nn ta xa da ra++[(32,.ref ia)]) 84 (.ref ua)=cv au nn ta xa da ra++[(32,.ref ia),(84,.ref ua)]from rfl) ?_;generalize upd V13 la (.inst 733 (cv au nn ta xa da ra++[(32,.ref ia),(84,.ref ua)]))=V14 at h22⊢;clear h19 h20 h21;w_fin;intro ep2 ka hka;have h23:=h22.new (.tdict (dr [] []) ep2) hka;refine O (show upd V14 ka (.tdict [] ep2)=upd V14 ka (.tdict (dr [] []) ep2)from rfl) ?_;generalize upd V14 ka (.tdict (dr [] []) ep2)=V15 at h23⊢;rw[<-cons_append]at h23;refine cp (sx (a0:=la) h23) (by decide) (aG rfl) ?_;have h24:=px (fs':=cv au nn ta xa da ra++[(32,.ref ia),(84,.ref ua),(47,.ref ka)]) h23;refine O (show aK (cv au nn ta xa da ra++[(32,.ref ia),(84,.ref ua)]) 47 (.ref ka)=cv au nn ta xa da ra++[(32,.ref ia),(84,.ref ua),(47,.ref ka)]from rfl) ?_;generalize upd V15 la (.inst 733 (cv au nn ta xa da ra++[(32,.ref ia),(84,.ref ua),(47,.ref ka)]))=V16 at h24⊢;clear h22 h23 hka;generalize hA:(⟨la,nn,xa,ta,ia,ua,ka,cv au nn ta xa da ra++[(32,.ref ia),(84,.ref ua),(47,.ref ka)],nb,T,ep,u2,u3⟩:FiA)=a at *;have h25:H V V16 (cC a [] [] ep2 (λ_=>[]) (λ_=>[]) (λ_=>[]) ([(da,.list (nl dm)),(ra,.list (us.map IV.ref))]++aJ us rel)):=h24.perm (Ob hA (SB _ _ _ _ _ _ _ _ _ _));clear h24 sx px tx;have ff:FiF au a:=by exact Ob hA ⟨rfl,rfl,rfl,rfl,rfl,rfl,rfl,rfl⟩
 have a_la:a.la=la:=by exact Ob hA rfl
 have a_nb:a.nb=nb:=by exact Ob hA rfl
 have a_T:a.T=T:=by exact Ob hA rfl
 have a_u2:a.u2=u2:=by exact Ob hA rfl
 have a_fs:a.fs=cv au nn ta xa da ra++[(32,.ref ia),(84,.ref ua),(47,.ref ka)]:=by exact Ob hA rfl
 have a_ia:a.ia=ia:=by exact Ob hA rfl
 have a_ka:a.ka=ka:=by exact Ob hA rfl
 w_fin;refine Ob a_la ?_;refine bk (h25.get 1 rfl) (O a_fs rfl)<|TB hB h ha ff (O a_nb nok.len) (O a_T tok) (O a_u2 (O a_T ul2)) (O a_T (Ob ul3 (Ob hA rfl))) h25 λLB u4 ep2 inc trn lbc V17 lk ninc nlbc hI hL h26=>?_;clear h25;rw[a_T]at ninc nlbc hI hL;rw[a_nb]at hI;have gds:V17 da=some (.list (nl dm)):=(h26.at_ (da,.list (nl dm)) (by unfold cC;simp)).2;have gra:V17 ra=some (.list (us.map IV.ref)):=(h26.at_ (ra,.list (us.map IV.ref)) (by unfold cC;simp)).2;have gus:∀x a,us[x]? =some a->V17 a=some (.list (nl (rel x))):=λx b e=>(h26.at_ (b,.list (nl (rel x))) (by
  unfold cC;exact dA _ (dA _ (dA _ (dA _ (dA _ (aF (ko e)))))))).2
 have gu2:∀x b,a.u2[x]? =some b->V17 b=some (.list (nl (inc x))):=λx b e=>by rw[rR]at h26;exact h26.getM e
 have gu4:∀x b,u4[x]? =some b->V17 b=some (.list (nl (lbc x))):=λx b e=>by rw[jh]at h26;exact h26.getM e
 have gia:V17 ia=some (.list (a.u2.map IV.ref)):=by exact Ob a_ia (h26.get 5 rfl)
 have gka:V17 ka=some (.tdict (dr LB u4) ep2):=by exact Ob a_ka (h26.get 0 rfl)
 have gta:V17 a.ta=some (.list (bH T)):=by have:=h26.get (a:=a.ta) 4 rfl;rwa[a_T]at this
 have gla:H V17 V17 []:=H.nil;have g0:V17 a.la=some (.inst 733 a.fs):=h26.get 1 rfl;have f0:V a.la=none:=h26.free 1 rfl;have ex17:=h26.ext;w_fin;refine ag g0 ff.ta<|cB gta ?_;refine O tll ?_;w_fin;rw[a_fs]at g0;refine ag g0 rfl<|ag g0 rfl<|Dc hB (N:=T.length) (D:=8) (rel:=rel) ⟨gra,ul,λx l=>by refine bg (l:=us) (i:=x) (Nat.lt_of_lt_of_eq ‹_› (Eq.symm ‹_›)) λb hb=>?_;exact⟨b,hb,gus x b hb⟩⟩ gds mdm (cn ‹_› (by decide)) rok.le rok.lt λR1 r1 V18 m1 s1 c1 h27=>?_;have e27:=h27.ext;have gr1:=h27.get 0 rfl;have nr1:r1≠a.la:=λe=>by have:=h27.free 0 rfl;rw[e,g0]at this;exact jr this
 refine cp (e27 _ _ g0) (by decide) (aG rfl) ?_;have oth:∀{s:IH} {o:IO} {b:Addr} {o':IO},s b=some o'->b≠a.la->upd s a.la o b=some o':=λe n=>fg e n;have nl_:∀{b:Addr} {o:IO},V17 b=some o->(∀c fs,o≠.inst c fs)->b≠a.la:=λ{b o} e n z=>by rw[z,g0]at e;obtain rfl:=aP e;exact n _ _ rfl
 generalize hs19:upd V18 a.la (.inst 733 (aK (cv au nn ta xa da ra++[(32,.ref ia),(84,.ref ua),(47,.ref ka)]) 62 (.ref r1)))=V19;have k19:∀{b:Addr} {o:IO},V17 b=some o->(∀c fs,o≠.inst c fs)->V19 b=some o:=λ{b o} e n=>by exact Ob hs19 (oth (e27 _ _ e) (nl_ e n))
 have g19:V19 a.la=some (.inst 733 (cv au nn ta xa da ra++[(32,.ref ia),(84,.ref ua),(47,.ref ka),(62,.ref r1)])):=by exact Ob hs19 (bB _ _ _)
 have r19:V19 r1=some (.list (nl R1)):=by exact Ob hs19 (oth gr1 nr1)
 have ex19:Ext V V19:=by exact Ob hs19 ((ex17.trans e27).upd f0)
 clear hs19 g0 h27 gr1;w_fin;refine ag g19 rfl<|ag g19 rfl<|Dc hB (N:=T.length) (D:=T.length) (rel:=inc) ⟨k19 gia (λc fs e=>by cases e),by exact O a_u2 ul2,λx l=>by refine bg (l:=a.u2) (i:=x) (O a_u2 (Nat.lt_of_lt_of_eq ‹_› (Eq.symm ‹_›))) λb hb=>?_;exact⟨b,hb,k19 (gu2 x b hb) (λc fs e=>by cases e)⟩⟩ r19 m1 (cn ‹_› (by decide)) ninc.le (λx y m=>(ninc x).2 y m) λR2 r2 V20 m2 s2 c2 h28=>?_;have e28:=h28.ext;have gr2:=h28.get 0 rfl;have nr2:r2≠a.la:=λe=>by have:=h28.free 0 rfl;rw[e,g19]at this;exact jr this
 refine cp (e28 _ _ g19) (by decide) (aG rfl) ?_;generalize hs21:upd V20 a.la (.inst 733 (aK (cv au nn ta xa da ra++[(32,.ref ia),(84,.ref ua),(47,.ref ka),(62,.ref r1)]) 27 (.ref r2)))=V21;have k21:∀{b:Addr} {o:IO},V17 b=some o->(∀c fs,o≠.inst c fs)->V21 b=some o:=λ{b o} e n=>by exact Ob hs21 (oth (e28 _ _ (k19 e n)) (nl_ e n))
 have g21:V21 a.la=some (.inst 733 (cv au nn ta xa da ra++[(32,.ref ia),(84,.ref ua),(47,.ref ka),(62,.ref r1),(27,.ref r2)])):=by exact Ob hs21 (bB _ _ _)
 have r21:V21 r2=some (.list (nl R2)):=by exact Ob hs21 (oth gr2 nr2)
 have ex21:Ext V V21:=by exact Ob hs21 ((ex19.trans e28).upd f0)
 clear hs21 h28 gr2 g19;w_fin;refine bk g21 rfl<|TJ hB (lbc:=lbc) lk g21 rfl rfl (k21 gka (λc fs e=>by cases e)) (λk b e=>k21 (gu4 k b e) (λc fs e=>by cases e)) r21 m2 (λk z m=>(nlbc k).2 z m) λm mf V22 e22 mk lbs=>?_;refine cp (e22 _ _ g21) (by decide) (aG rfl) ?_;refine⟨rfl,ag (bB _ _ _) rfl ?_⟩;refine q m mf T nb (gf R1) (gf R2) _ ((ex21.trans e22).upd f0) ⟨?_,mk.lt⟩ ⟨nok,tok,λx p X j t hT gt t5 hk=>?_,λx p X j Y y hT gt Y5 hb hy=>?_,s2,λx p' B r α X β p y hT r5 hB' hw X5 hβ hp hy=>?_,λx p' B r q0 st hT r5 hB' hp hs hr=>?_⟩
 .obtain⟨kvs,ep,e1,e2⟩:=mk.obj;refine⟨kvs,ep,fg e1 λz=>?_,e2⟩;rw[z,e22 _ _ g21]at e1;cases e1
 .exact(s1 x).bit (rok.t x p X j t (av hT) hT gt t5 hk)
 .exact c1 x (av hT) y (rok.n x p X j Y y (av hT) hT gt Y5 hb hy)
 .exact c2 y (av hy) x (hI x p' B r α X β p y (av hT) hT r5 hB' hw X5 hβ hp hy)
 .o_shape;obtain⟨k,hk⟩:=U0.1 ((lk.iff q0 r).2 ⟨st,hs,hr⟩);pv_eval;exact lbs k q0 r x hk (hL x p' B r q0 k (av hT) hT r5 hB' hp hk)
end
theorem kg {K:Type} [DecidableEq K] (k:K):aq ([]:List (K×IV)) k=none:=by unfold aq;rfl
theorem Hz {K:Type} [DecidableEq K] (l m:List (K×IV)) (k:K):aq (l++m) k=(aq l k).or (aq m k):=by
 unfold aq;refine O find?_append ?_;cases List.find? (λkv=>decide (kv.fst=k)) l<;>simp
theorem HA {K:Type} [DecidableEq K] (l:List (K×IV)) (k:K) (v:IV) (k':K):aq (aK l k v) k'=if k'=k then some v else aq l k':=by
 induction h:aq l k with
 |none=>
  refine O (eS h) (O (Hz ..) (O (d6 ..) (O (kg ..) ?_)));by_cases e:k'=k
  .subst e;refine O h ?_;simp
  .refine O (ai e) (O (ai (λz=>e z.symm)) ?_);rcases aq l k'<;>rfl
 |some w=>
  have hany:l.any (λkv=>decide (kv.1=k))=true:=any_eq_true.2 ⟨_,eG h,by simp⟩;unfold aK;refine O (ax hany) ?_;have gen:∀l:List (K×IV),aq (l.map λkv=>if kv.1=k then(kv.1,v)else kv) k'=if k'=k then(aq l k).map (λ_=>v)else aq l k':=by
   intro l
   induction l with
   |nil=>simp[kg]
   |cons p l ih=>
    obtain⟨a,b⟩:=p;refine O map_cons ?_;by_cases e:a=k
    .subst e;refine O (ax rfl) (O (d6 ..) (O ih ?_));by_cases e2:k'=a
     .obtain rfl:=e2.symm;simp[d6]
     .exact O (ai (λz=>e2 z.symm)) (O (ai e2) (O (ai e2) (O (d6 ..) (O (ai (λz=>e2 z.symm)) rfl))))
    .refine O (ai (show¬(a,b).1=k from e)) (O (d6 ..) (O ih (O (d6 ..) (O (d6 ..) (O (ai e) ?_)))));by_cases e2:k'=k
     .obtain rfl:=e2.symm;exact O (ai e) (O (ax rfl) (O (ax rfl) rfl))
     .exact O (ai e2) (O (ai e2) rfl)
  exact O (gen ..) (O h rfl)
theorem r6 {K:Type} [DecidableEq K] (l:List (K×IV)) (k:K) (v:IV):(aK l k v).length<=l.length+1:=by
 unfold aK;split<;>simp
theorem Ei {K:QB} (q:K true V):dx .Is .none .none K V:=isNI.mk true .none rfl q
section
variable{B:Bs} (hB:Base B) {n:Nat} {V:IH} {Q:QE} {G:GG} {g:Addr} {A:GA} {au sl:Addr} {S:List SG} (h:GrAt V G g A) (ha:AutAt V G g au sl S)
include hB h ha
theorem TW (q:∀m nb nb2 fm fl V',Ext V V'->MasksAt V' m S (λ_ r=>gf fl (ah G r))->NulOk G nb->NulOk G nb2->FmOk G nb2 fm->FlOk G nb fm fl->Q (.ref m) V'):CallOk B (n+6) 758 [.ref au] V Q:=by
 refine FK hB ?_;have Sl:=ha.ok.len h.good;w_fin;refine ag ha.obj rfl<|TH hB h λnb nb2 fm fl fa V1 e1 ok1 ok2 ok3 ok4 f1 g1=>?_;have h1:=(H.nil (V:=V)).got e1 f1 g1;w_fin;refine λep=>fK (.tdict [] ep) h1 λma V2 hh=>?_;clear h1 e1 f1 g1;w_fin;refine ag (ha.mono hh.ext).obj rfl<|bw (ha.mono hh.ext).lst ?_;refine aU (λi Z V'=>E4 λkvs ep o3 o4=>A4 (Z=[some (.ref au),some (.ref fa),some (.ref ma),o3,o4]) (kvs.length<=5*i) (∀(s:Nat) st r,s<i->S[s]? =some st->r∈st.rd->aq kvs [(s:Int),(r:Int)]=some (.int (gf fl (ah G r):Nat)))<|
  H V V' [(ma,.tdict kvs ep),(fa,.list (nl fl))]) ⟨_,ep,_,_,rfl,aY _,λs st r l=>by exact absurd ‹_› (not_lt_zero _),hh⟩ ?_ ?_
 .clear hh;rintro i Z V' y Fk hFk hy ⟨kvs,ep,o3,o4,rfl,kl,hk,hh⟩;have aa:=ha.mono hh.ext;refine⟨aa.lst,?_⟩;have il:=av hy;rw[length_map,length_map]at il;refine bg il λs hs=>?_;obtain rfl:=Os (ha.sref hs) hy;have rdl:=xV ha.ok hs;w_fin;refine ag (aa.st i s hs).1 rfl<|bw (aa.st i s hs).2.2.2 ?_;refine aU (λj Z V'=>E3 λkvs ep o4=>A4 (Z=[some (.ref au),some (.ref fa),some (.ref ma),some (.ref s.sa),o4]) (kvs.length<=5*i+j) (∀(s':Nat) st r,s'<i\/(s'=i/\r∈s.rd.take j)->S[s']? =some st->r∈st.rd->aq kvs [(s':Int),(r:Int)]=some (.int (gf fl (ah G r):Nat)))<|
   H V V' [(ma,.tdict kvs ep),(fa,.list (nl fl))]) ⟨kvs,ep,_,rfl,kl,λs' st r l=>hk s' st r (l.elim id λz=>by cases z.2),hh⟩ ?_ ?_
  .clear hh kl hk aa;rintro j Z V' y Fk hFk hy ⟨kvs,ep,o4,rfl,kl,hk,hh⟩;have aa:=ha.mono hh.ext;have gr:=h.mono hh.ext;refine⟨(aa.st i s hs).2.2.2,?_⟩;refine cZ hy λr hr=>?_;have jl:=av hr;have tk:=c6 hr;have r5:=(((ha.ok.ex i s hs).rd r).1 (aF hr)).2.1;have l8:=h.good.lhs8 r5;obtain⟨ru,hru,hru2⟩:=gr.ruleGet r5;w_fin;refine ag aa.obj rfl<|ag gr.obj rfl<|aB gr.rules hru<|ag hru2 rfl<|aB (hh.get 1 rfl) (bf (dO (O ok4.len l8.2)))<|
    ag (aa.st i s hs).1 rfl ⟨by decide,jb (k:=[(i:Int),(r:Int)]) (hh.get 0 rfl) rfl (by lia) λep'=>?_⟩
   refine hFk _ _ ⟨_,ep',_,rfl,by have:=r6 kvs [(i:Int),(r:Int)] (.int (gf fl (ah G r):Nat));lia,λs' st r' c e m=>?_,hh.put 0 rfl⟩;refine O (HA ..) ?_;by_cases z:[(s':Int),(r':Int)]=[(i:Int),(r:Int)]
   .refine O (ax z) ?_;simp only[List.cons.injEq,and_true]at z;have:r'=r:=by lia
    exact O this rfl
   .refine O (ai z) (hk s' st r' (c.imp id λ⟨a,b⟩=>⟨a,?_⟩) e m);rw[tk]at b;rcases Uo.1 b with b|b
    .exact b
    .have:r'=r:=by exact VX.1 b
     exact absurd (O a (O this rfl)) z
  .clear hh kl hk aa;rintro Z V' ⟨kvs,ep,o4,rfl,kl,hk,hh⟩;refine⟨((ha.mono hh.ext).st i s hs).2.2.2,?_⟩;rw[length_map]at kl hk;rw[take_length]at hk;refine hFk _ _ ⟨kvs,ep,_,_,rfl,by lia,λs' st r l e m=>hk s' st r ?_ e m,hh⟩;by_cases z:s'=i
   .obtain rfl:=z.symm;obtain rfl:=Os hs e;exact .inr ⟨rfl,m⟩
   .exact .inl (by lia)
 .clear hh;rintro Z V' ⟨kvs,ep,o3,o4,rfl,kl,hk,hh⟩;refine⟨(ha.mono hh.ext).lst,?_⟩;rw[length_map,length_map]at hk;w_fin;exact q ma nb nb2 fm fl V' hh.ext ⟨⟨kvs,ep,hh.get 0 rfl,λs st r e m=>hk s st r (av e) e m⟩,λ_ r=>ok4.lt _⟩ ok1 ok2 ok3 ok4
omit ha in
theorem TU (r5:r<5) (q:Q .none V):CallOk B (n+1) 241 [.ref g,.int (r:Nat),.int t] V Q:=by
 refine EL hB ?_;obtain⟨ep,hl⟩:=h.lev;obtain⟨ru,hru,hru2⟩:=h.ruleGet r5;w_fin;refine ag h.obj rfl ⟨i7 hl,ag h.obj rfl<|aB h.rules hru<|ag hru2 rfl<|i9 hl ?_⟩;refine O (kg ..) ?_;w_fin;refine ag h.obj rfl ⟨i7 hl,i9 hl ?_⟩;refine O (kg ..) ?_;w_fin;refine Ei<|fx<|fx ?_;w_fin;exact q
end
noncomputable def dq (mv:List (Nat×Nat)):List (Int×IV):=(mv.filter λp=>decide (p.1<5)).map λp=>((p.1:Int),IV.int (if p.1=0 then 1048576 else(p.2:Nat)))
noncomputable def cy (mv:List (Nat×Nat)):List (Nat×Nat):=mv.filter λp=>decide (5<=p.1)
structure RmAt (V:IH) (rm g:Addr) (num:Nat) (sh go lk st:Addr) (us:List Addr) (mv:List (Nat×Nat)) (rd:List Nat) (mf:Nat->Nat):Prop where
 obj:V rm=some (.inst 284 [(31,.ref g),(54,.int (num:Nat)),(74,.ref sh),(30,.ref go),(48,.ref lk),(7,.int 0),(73,.ref st)])
 sh:∃ep,V sh=some (.idict (dq mv) ep)
 go:∃ep,V go=some (.idict (bj (cy mv)) ep)
 lk:V lk=some (.list (us.map IV.ref))
 len:us.length=rd.length
 at_:∀(i r:Nat),rd[i]? =some r->∃a,us[i]? =some a/\V a=some (.list (nl [r,mf r]))
 st:V st=some (.list [])
theorem RmAt.mono {sh go lk st:Addr} {mf:Nat->Nat} (h:RmAt V rm g num sh go lk st us mv rd mf) (e:Ext V V'):RmAt V' rm g num sh go lk st us mv rd mf:=
 ⟨e _ _ h.obj,h.sh.imp λ_=>e _ _,h.go.imp λ_=>e _ _,e _ _ h.lk,h.len,λi r z=>(h.at_ i r z).imp λ_ z=>z.imp_right (e _ _),e _ _ h.st⟩
theorem zE {K:Type} [DecidableEq K] {l:List (K×IV)} {k:K} (h:∀p∈l,p.1≠k):aq l k=none:=by
 induction e:aq l k with
 |none=>rfl
 |some v=>exact absurd rfl (h _ (eG e))
noncomputable def ds (t j:Nat):Int:=if t=0 then 1048576 else(j:Nat)
theorem Dn {mv:List (Nat×Nat)} {X:Nat} (n:X∉mv.map (·.1)):aq (dq mv) (X:Int)=none:=zE λp m e=>by
 obtain⟨q,mq,rfl⟩:=mem_map.1 m;have:q.1=X:=by have e:(q.1:Int)=X:=e;exact ofNat_inj.1 ‹_›
 exact n (Ob this (mem_map_of_mem (f:=(·.1)) (mem_filter.1 mq).1))
theorem ye (mv:List (Nat×Nat)) (X j:Nat):dq (mv++[(X,j)])=if X<5 then dq mv++[((X:Int),.int (ds X j))]else dq mv:=by
 unfold dq;refine O (filter_append ..) ?_;by_cases c:X<5<;>simp[c,ds]
theorem rU (mv:List (Nat×Nat)) (X j:Nat):cy (mv++[(X,j)])=if X<5 then cy mv else cy mv++[(X,j)]:=by
 unfold cy;refine O (filter_append ..) ?_;by_cases c:X<5
 .have:¬5<=X:=by lia
  simp[c,this]
 .have:5<=X:=by exact Nat.le_of_not_lt ‹_›
  simp[c,this]
theorem PN (mv:List (Nat×Nat)) (X j:Nat):bj mv++[((X:Int),.int (j:Nat))]=bj (mv++[(X,j)]):=by unfold bj;simp
theorem T3 {mv:List (Nat×Nat)} (nd:(mv.map (·.1)).Nodup) (m:(X,j)∈mv) (l:X<5):aq (dq mv) (X:Int)=some (.int (ds X j)):=by
 refine rZ ?_ (mem_map.2 ⟨(X,j),mem_filter.2 ⟨m,by exact decide_eq_true l⟩,rfl⟩);unfold dq;refine O map_map ?_;have h2:((mv.filter λp=>decide (p.1<5)).map (·.1)).Nodup:=nd.sublist ((List.filter_sublist).map _);rw[List.Nodup,pairwise_map]at h2⊢;exact h2.imp λ{a b} n e=>n (by have e:((a.1:Nat):Int)=(b.1:Nat):=e;exact ofNat_inj.1 ‹_›)
noncomputable abbrev il (l:List Int):List IV:=l.map IV.int
theorem jY {i:Nat} (e:l[i]? =some x):(il l)[i]? =some (.int x):=by exact O aQ (O e rfl)
theorem zu (l:List Int) (i:Nat) (x:Int):(il l).set i (.int x)=il (l.set i x):=by rw[il,il];exact O map_set rfl
theorem yC (m t:Nat):(m&&& 1<<<t≠0)↔m.testBit t=true:=by
 refine O (one_shiftLeft ..) ?_;constructor
 .intro h
  induction e:m.testBit t with
  |true=>rfl
  |false=>
   exfalso;apply h;apply Nat.eq_of_testBit_eq;intro i;refine O (Nat.testBit_and ..) (O testBit_two_pow (O (zero_testBit ..) ?_));by_cases c:t=i
   .subst c;simp[e]
   .simp[c]
 .intro e h;have:=be (λx=>x.testBit t) h;simp only[Nat.testBit_and,testBit_two_pow,e,zero_testBit]at this;simp at this
section
variable{B:Bs} (hB:Base B) {n:Nat} {V:IH} {Q:QE}
include hB
theorem C9 (q:∀p V',Ext V V'->V p=none->Q (.ref p) V'):CallOk B (n+2) 190 [a1,a2,a3,a4,a5] V Q:=by
 refine fq hB (init:=180) (by decide) λp hp=>?_;refine EH hB ?_;have h1:=(H.nil (V:=V)).new (.inst 190 []) hp;generalize upd V p (.inst 190 [])=V1 at h1⊢;w_fin;refine cp (h1.get 0 rfl) (by decide) (aG rfl) ?_;have h2:=h1.put 0 (o':=.inst 190 (aK [] 76 a1)) rfl;w_fin;refine cp (h2.get 0 rfl) (by decide) (aG rfl) ?_;have h3:=h2.put 0 (o':=.inst 190 (aK (aK [] 76 a1) 80 a2)) rfl;w_fin;refine cp (h3.get 0 rfl) (by decide) (aG rfl) ?_;have h4:=h3.put 0 (o':=.inst 190 (aK (aK (aK [] 76 a1) 80 a2) 86 a3)) rfl;w_fin;refine cp (h4.get 0 rfl) (by decide) (aG rfl) ?_;have h5:=h4.put 0 (o':=.inst 190 (aK (aK (aK (aK [] 76 a1) 80 a2) 86 a3) 69 a4)) rfl;w_fin;refine cp (h5.get 0 rfl) (by decide) (aG rfl) ?_;have h6:=h5.put 0 (o':=.inst 190 (aK (aK (aK (aK (aK [] 76 a1) 80 a2) 86 a3) 69 a4) 12 a5)) rfl;exact⟨rfl,q p _ h6.ext hp⟩
variable{G:GG} {g:Addr} {A:GA} (h:GrAt V G g A)
include h
theorem Tm {k:Nat} {s:SG} {m:Addr} {mf:Nat->Nat} (st1:V s.sa=some (.inst 497 (gj k s))) (st3:V s.ma=some (.idict (bj s.mv) s.ep)) (st4:V s.ra=some (.list (nl s.rd))) (nd:(s.mv.map (·.1)).Nodup) (mvl:s.mv.length<=8) (rdl:s.rd.length<=5)
 {kvs:List (List Int×IV)} {mep:Nat} (hm:V m=some (.tdict kvs mep)) (hm2:∀r∈s.rd,aq kvs [(k:Int),(r:Int)]=some (.int (mf r:Nat)))
 (q:∀rm sh go lk st us e2 V',H V V' [(st,.list []),(go,.idict (bj (cy s.mv)) e2),(rm,.inst 284 [(31,.ref g),(54,.int (k:Nat)),(74,.ref sh),(30,.ref go),(48,.ref lk),(7,.int 0),(73,.ref st)])]->RmAt V' rm g k sh go lk st us s.mv s.rd mf->Q (.ref rm) V'):CallOk B (n+3) 284 [.ref g,.ref s.sa,.ref m] V Q:=by
 refine fq hB (init:=255) (by decide) λp hp=>?_;refine EM hB ?_;have h1:=(H.nil (V:=V)).new (.inst 284 []) hp;generalize upd V p (.inst 284 [])=V1 at h1⊢;w_fin;refine cW 0 [(31,.ref g)] h1 rfl rfl rfl λV2 h2=>?_;clear h1;w_fin;refine ag (h2.ext _ _ st1) rfl<|cW 0 [(31,.ref g),(54,.int (k:Nat))] h2 rfl rfl rfl λV3 h3=>?_;clear h2;w_fin;intro ep1 sh hsh;have h4:=h3.new (.idict (dq []) ep1) hsh;refine cW 1 [(31,.ref g),(54,.int (k:Nat)),(74,.ref sh)] h4 rfl rfl rfl λV4 h5=>?_;clear h3 h4 hsh;w_fin;intro ep2 go hgo;have h6:=h5.new (.idict (bj (cy [])) ep2) hgo;refine cW 2 [(31,.ref g),(54,.int (k:Nat)),(74,.ref sh),(30,.ref go)] h6 rfl rfl rfl λV5 h7=>?_;clear h5 h6 hgo;w_fin;refine ag (h7.ext _ _ st1) rfl<|rL (h7.ext _ _ st3) ?_;refine aU (λi Z V'=>E3 λe1 e2 o4=>A2 (Z=[some (.ref p),some (.ref g),some (.ref s.sa),some (.ref m),o4,none])<|
  H V V' [(go,.idict (bj (cy (s.mv.take i))) e2),(sh,.idict (dq (s.mv.take i)) e1),(p,.inst 284 [(31,.ref g),(54,.int (k:Nat)),(74,.ref sh),(30,.ref go)])]) ⟨_,_,_,rfl,h7⟩ ?_ ?_
 .clear h7;rintro i Z V' y Fk hFk hy ⟨e1,e2,o4,rfl,hh⟩;refine⟨hh.ext _ _ st3,?_⟩;obtain⟨⟨X,j⟩,hX,rfl⟩:∃p,s.mv[i]? =some p/\y=.int (p.1:Nat):=by
   rw[getElem?_map,bj,getElem?_map]at hy
   induction e:s.mv[i]? with
   |none=>rw[e]at hy;exact bv hy
   |some p=>rw[e]at hy;obtain rfl:=aP hy;exact⟨p,rfl,rfl⟩
  have mX:=aF hX;have tk:s.mv.take (i+1)=s.mv.take i++[(X,j)]:=by exact O take_add_one (O hX rfl)
  have nX:X∉(s.mv.take i).map (·.1):=by
   refine O map_take ?_;exact fL nd (O aQ (O hX rfl))
  have ls:(s.mv.take i).length<=8:=le_trans (take_sublist i _).length_le mvl;have l1:(dq (s.mv.take i)).length<=8:=by unfold dq;exact O (aE ..) (le_trans (length_filter_le ..) ls)
  have l2:(bj (cy (s.mv.take i))).length<=8:=by unfold bj cy;exact O (aE ..) (le_trans (length_filter_le ..) ls)
  have ng:aq (bj (cy (s.mv.take i))) (X:Int)=none:=zE λp m e=>by
   obtain⟨q,mq,rfl⟩:=mem_map.1 m;have:q.1=X:=by have e:(q.1:Int)=X:=e;lia
   exact nX (Ob this (mem_map_of_mem (f:=(·.1)) (mem_filter.1 mq).1))
  have gm:=jo nd mX;w_fin;refine cV<|aO (λc=>?_) (λc=>?_)
  .have x0:X=0:=by lia
   subst x0;w_fin;refine ag (hh.get 2 rfl) rfl<|gJ (hh.get 1 rfl) (by lia) λep'=>?_;refine O (eS (Dn nX)) (hFk _ _ ⟨ep',e2,_,rfl,?_⟩);exact O tk (O (ye ..) (O (rU ..) (O (ax (by decide)) (O (ax (by decide)) (hh.put 1 rfl)))))
  .w_fin;refine ag (h.mono hh.ext).obj rfl<|dE<|aO (λd=>?_) (λd=>?_)
   .w_fin;refine ag (hh.ext _ _ st1) rfl<|fU (hh.ext _ _ st3) gm<|ag (hh.get 2 rfl) rfl<|gJ (hh.get 1 rfl) (by lia) λep'=>?_;refine O (eS (Dn nX)) ?_;have:ds X j=(j:Nat):=by unfold ds;exact O (ai (by lia)) rfl
    refine hFk _ _ ⟨ep',e2,_,rfl,?_⟩;exact O tk (O (ye ..) (O (rU ..) (O (ax (by lia)) (O (ax (by lia)) (O this (hh.put 1 rfl))))))
   .w_fin;refine ag (hh.ext _ _ st1) rfl<|fU (hh.ext _ _ st3) gm<|ag (hh.get 2 rfl) rfl<|gJ (hh.get 0 rfl) (by lia) λep'=>?_;refine O (eS ng) (O (PN ..) (hFk _ _ ⟨e1,ep',_,rfl,?_⟩));exact O tk (O (ye ..) (O (rU ..) (O (ai (by lia)) (O (ai (by lia)) (hh.put 0 rfl)))))
 .clear h7;rintro Z V' ⟨e1,e2,o4,rfl,hh⟩;refine⟨hh.ext _ _ st3,?_⟩;rw[length_map,show(bj s.mv).length=s.mv.length by unfold bj;exact O (length_map ..) rfl,take_length]at hh;w_fin;refine⟨by decide,λlk hlk=>?_⟩;have h8:=hh.new (.list (([]:List Addr).map IV.ref)) hlk;refine cW 3 [(31,.ref g),(54,.int (k:Nat)),(74,.ref sh),(30,.ref go),(48,.ref lk)] h8 rfl rfl rfl λV6 h9=>?_;clear hh h8 hlk;w_fin;refine ag (h9.ext _ _ st1) rfl<|bw (h9.ext _ _ st4) ?_;refine aU (λi Z V'=>E2 λus o5=>A4 (Z=[some (.ref p),some (.ref g),some (.ref s.sa),some (.ref m),o4,o5]) (us.length=i) (i<=s.rd.length)<|
   H V V' ([(lk,.list (us.map IV.ref)),(go,.idict (bj (cy s.mv)) e2),(sh,.idict (dq s.mv) e1),(p,.inst 284 [(31,.ref g),(54,.int (k:Nat)),(74,.ref sh),(30,.ref go),(48,.ref lk)])]++aJ us λi=>[s.rd[i]?.getD 0,mf (s.rd[i]?.getD 0)])) ⟨[],_,rfl,rfl,zero_le _,h9⟩ ?_ ?_
  .clear h9;rintro i Z V' y Fk hFk hy ⟨us,o5,rfl,ul,il,hh⟩;refine⟨hh.ext _ _ st4,?_⟩;refine cZ hy λr hr=>?_;have ilt:=av hr;w_fin;refine ag (hh.get 3 rfl) rfl ⟨bz (hh.get 0 rfl),Ge (hh.ext _ _ hm),ag (hh.ext _ _ st1) rfl ⟨by decide,Gi (k:=[(k:Int),(r:Int)]) (hh.ext _ _ hm) rfl ?_⟩⟩;refine O (hm2 r (aF hr)) ⟨by decide,λb hb=>?_⟩;have h2:=hh.new (.list (nl [r,mf r])) hb;refine bZ (h2.get 1 rfl) (by refine O (aE ..) (O ul ?_);lia) ?_;have h3:=h2.put 1 (o':=.list (us.map IV.ref++[.ref b])) rfl;refine hFk _ _ ⟨us++[b],_,rfl,by simp[ul],ilt,h3.perm ?_⟩;have e1:aJ (us++[b]) (λi=>[s.rd[i]?.getD 0,mf (s.rd[i]?.getD 0)])=aJ us (λi=>[s.rd[i]?.getD 0,mf (s.rd[i]?.getD 0)])++[(b,.list (nl [r,mf r]))]:=by
    unfold aJ;refine O mapIdx_append ?_;simp[ul,hr]
   exact O e1 (Ob (cw ..) (O bW (dc (l₁:=[(b,IO.list (nl [r,mf r]))]))))
  .clear h9;rintro Z V' ⟨us,o5,rfl,ul,_,hh⟩;rw[length_map]at ul;refine⟨hh.ext _ _ st4,?_⟩;w_fin;refine cW 3 [(31,.ref g),(54,.int (k:Nat)),(74,.ref sh),(30,.ref go),(48,.ref lk),(7,.int 0)] hh rfl rfl rfl λV7 h2=>?_;w_fin;refine⟨by decide,λst hst=>?_⟩;have h3:=h2.new (.list []) hst;refine cp (h3.get 4 rfl) (by decide) (aG rfl) ?_;have h4:=h3.put 4 (o':=.inst 284 [(31,.ref g),(54,.int (k:Nat)),(74,.ref sh),(30,.ref go),(48,.ref lk),(7,.int 0),(73,.ref st)]) rfl;refine⟨rfl,q p sh go lk st us e2 _ (h4.sub (.cons_cons _ (.cons _ (.cons_cons _ (.cons _ (.cons_cons _ (nil_sublist _))))))) ⟨h4.get 4 rfl,⟨_,h4.get 3 rfl⟩,⟨_,h4.get 2 rfl⟩,h4.get 1 rfl,ul,λi r e=>?_,h4.get 0 rfl⟩⟩;refine bg (l:=us) (i:=i) (O ul (av e)) λa ha=>?_;refine⟨a,ha,?_⟩;have h5:H V _ ([(st,IO.list []),(lk,.list (us.map IV.ref)),(go,.idict (bj (cy s.mv)) e2),(sh,.idict (dq s.mv) e1),(p,.inst 284 [(31,.ref g),(54,.int (k:Nat)),(74,.ref sh),(30,.ref go),(48,.ref lk),(7,.int 0),(73,.ref st)])]++aJ us λi=>[s.rd[i]?.getD 0,mf (s.rd[i]?.getD 0)]):=h4;have:=h5.getL ha;rw[e]at this;exact this
end
noncomputable abbrev gL (mv:List (Nat×Nat)):List (Nat×Nat):=mv.filter λp=>decide (p.1<5)
theorem yI {K:QB} (q:K false V):dx .IsNot .none .none K V:=isNI.mk true .none rfl q
structure RowOk (mv:List (Nat×Nat)) (rd:List Nat) (mf:Nat->Nat) (row:List Int):Prop where
 len:row.length=5
 at_:∀t,t<5->∃v,row[t]? =some v/\((∃j,(t,j)∈mv/\v=ds t j)\/((∀j,(t,j)∉mv)/\((∃r∈rd,(mf r).testBit t=true/\v= -(r:Int))\/((∀r∈rd,(mf r).testBit t=false)/\v=0))))
def fG (mv:List (Nat×Nat)) (rd:List Nat) (mf:Nat->Nat) (t:Nat):Prop:=
 (rd.filter λr=>(mf r).testBit t).length<=1/\((rd.filter λr=>(mf r).testBit t)≠[]->∀j,(t,j)∉mv)
theorem T4 {i:Nat} (e:((dq mv).map λq=>IV.int q.1)[i]? =some y):∃t j,(gL mv)[i]? =some (t,j)/\t<5/\(t,j)∈mv/\y=.int (t:Nat):=by
 rw[getElem?_map,dq,getElem?_map]at e
 induction h:(gL mv)[i]? with
 |none=>rw[h]at e;exact bv e
 |some p=>
  rw[h]at e;obtain rfl:=aP e;have:=mem_filter.1 (aF h);exact⟨p.1,p.2,rfl,by exact dT this.2,this.1,rfl⟩
theorem HD {mv:List (Nat×Nat)} {t j:Nat} (m:(t,j)∈mv) (l:t<5):(aq (dq mv) (t:Int)).isSome=true:=by
 induction e:aq (dq mv) (t:Int)with
 |some v=>rfl
 |none=>exact absurd rfl (hO e ((t:Int),.int (if t=0 then 1048576 else(j:Nat))) (mem_map.2 ⟨(t,j),mem_filter.2 ⟨m,by exact decide_eq_true l⟩,rfl⟩))
section
variable{B:Bs} (hB:Base B) {n:Nat} {V:IH} {Q:QE} {G:GG} {g:Addr} {A:GA} (h:GrAt V G g A)
variable{rm:Addr} {num:Nat} {sh go lk st:Addr} {us:List Addr} {mv:List (Nat×Nat)} {rd:List Nat} {mf:Nat->Nat} (hr:RmAt V rm g num sh go lk st us mv rd mf)
include hr
theorem RmAt.item {i:Nat} (e:(us.map IV.ref)[i]? =some y):∃r a,rd[i]? =some r/\y=.ref a/\V a=some (.list (nl [r,mf r])):=by
 have l:=av e;rw[length_map,hr.len]at l;o_shape;refine bg l λr hr1=>?_;obtain⟨a,h1,h2⟩:=hr.at_ i r hr1;pv_eval;rw[getElem?_map,h1]at e;obtain rfl:=aP e;exact⟨r,a,hr1,rfl,h2⟩
include hB h
theorem TV (nd:(mv.map (·.1)).Nodup) (r5:∀r∈rd,r<5) (ml:∀r,mf r<32) (q:∀V',Ext V V'->Q .none V'):CallOk B (n+2) 262 [.ref rm] V Q:=by
 refine EN hB ?_;w_fin;refine ag hr.obj rfl<|bw hr.lk ?_;refine aU (λi Z V'=>E3 λo1 o2 o3=>A2 (Z=[some (.ref rm),o1,o2,o3]) (Ext V V')) ⟨_,_,_,rfl,Ext.rfl⟩ ?_ ?_
 .rintro i Z V' y Fk hFk hy ⟨o1,o2,o3,rfl,ex⟩;refine⟨ex _ _ hr.lk,?_⟩;obtain⟨r,a,hri,rfl,ha⟩:=hr.item hy;have r5':=r5 r (aF hri);w_fin;refine aB (k:=1) (ex _ _ ha) (bf (x:=mf r) rfl)<|qU hB (lt_trans (ml r) (by decide)) λxs b bo hb=>?_;have ex1:=ex.trans (Ext.new (o:=.list (nl xs)) hb);have gb:=bB V' b (.list (nl xs));generalize upd V' b (.list (nl xs))=V1 at ex1 gb⊢;refine bw gb ?_;refine aU (λj Z V'=>E2 λo2 o3=>A3 (Z=[some (.ref rm),some (.ref a),o2,o3]) (V'=V1) True) ⟨_,_,rfl,rfl,trivial⟩ ?_ ?_
  .rintro j Z V' y Fk hFk hy ⟨o2,o3,rfl,eQ,_⟩;obtain rfl:=eQ.symm;refine⟨gb,?_⟩;refine cZ hy λt ht=>?_;obtain⟨ep,gsh⟩:=hr.sh;w_fin;w_fin;refine ag (ex1 _ _ hr.obj) rfl<|iR<|rK (ex1 _ _ gsh)<|b9 (λc=>?_) (λc=>?_)
   .w_fin;refine ag (ex1 _ _ hr.obj) rfl<|aB (k:=0) (ex1 _ _ ha) (bf (x:=r) rfl)<|TU hB (h.mono ex1) r5' ?_;w_fin;exact yI<|cJ (hFk _ _ ⟨_,_,rfl,rfl,trivial⟩)
   .w_fin;exact yI<|cJ (hFk _ _ ⟨_,_,rfl,rfl,trivial⟩)
  .rintro Z V' ⟨o2,o3,rfl,rfl,_⟩;exact⟨gb,hFk _ _ ⟨_,_,_,rfl,ex1⟩⟩
 .rintro Z V' ⟨o1,o2,o3,rfl,ex⟩;exact⟨ex _ _ hr.lk,q _ ex⟩
theorem TT (nd:(mv.map (·.1)).Nodup) (ml:∀r,mf r<32) (q:∀row r V',Ext V V'->RowOk mv rd mf row->V r=none->V' r=some (.list (il row))->Q (.ref r) V'):CallOk B (n+2) 276 [.ref rm] V Q:=by
 refine EO hB ?_;w_fin;refine⟨by decide,λr0 hr0=>?_⟩;have e0:=Ext.new (V:=V) (o:=.list [.int 0]) hr0;refine ag (e0 _ _ hr.obj) rfl<|ag (h.mono e0).obj rfl<|gX (bB _ _ _) (by decide) (by decide) λra hra=>?_;have hh:=((H.nil (V:=V)).call e0).new (.list (il (List.replicate 5 0))) hra;rw[show∀s:IH,upd s ra (.list (List.replicate (5:Int).toNat (.int 0)))=upd s ra (.list (il (List.replicate 5 0)))from λ_=>rfl];generalize upd (upd V r0 (.list [.int 0])) ra (.list (il (List.replicate 5 0)))=V1 at hh⊢;clear e0 hra hr0;w_fin;refine ag (hh.ext _ _ hr.obj) rfl<|Gy (hh.ext _ _ hr.lk) ?_
 let P:List Nat->Nat->Int->Prop:=λR t v=>(∃r∈R,(mf r).testBit t=true/\v= -(r:Int))\/((∀r∈R,(mf r).testBit t=false)/\v=0)
 refine aU (λi Z V'=>E3 λrow o2 o3=>A3 (Z=[some (.ref rm),some (.ref ra),o2,o3]) (row.length=5/\∀t,t<5->∃v,row[t]? =some v/\P (rd.reverse.take i) t v)<|H V V' [(ra,.list (il row))]) ⟨_,_,_,rfl,⟨rfl,λt l=>⟨0,by exact O getElem?_replicate (O (ax l) rfl),.inr ⟨λr m=>(by cases m),rfl⟩⟩⟩,hh⟩ ?_ ?_
 .clear hh;rintro i Z V' y Fk hFk hy ⟨row,o2,o3,eQ,⟨rl,hP⟩,hh⟩;obtain rfl:=eQ.symm;refine⟨hh.ext _ _ hr.lk,?_⟩;obtain⟨r,a,hri,rfl,ha⟩:∃r a,rd.reverse[i]? =some r/\y=.ref a/\V a=some (.list (nl [r,mf r])):=by
   have il:=av hy;rw[length_reverse,length_map,hr.len]at il;rw[getElem?_reverse (O (length_map ..) (O hr.len il)),length_map,hr.len]at hy;o_shape;obtain⟨r,a,h1,h2,h3⟩:=hr.item hy;pv_eval;exact⟨r,a,by exact O (getElem?_reverse il) h1,h2,h3⟩
  have tk:rd.reverse.take (i+1)=rd.reverse.take i++[r]:=c6 hri;w_fin;refine aB (k:=1) (hh.ext _ _ ha) (bf (x:=mf r) rfl)<|qU hB (lt_trans (ml r) (by decide)) λxs b bo hb=>?_;have h2:=hh.new (.list (nl xs)) hb;generalize upd V' b (.list (nl xs))=V2 at h2⊢;have x5:=bo.len (k:=5) (ml r);refine bw (h2.get 0 rfl) ?_;refine aU (λj Z V'=>E2 λrow o3=>A3 (Z=[some (.ref rm),some (.ref ra),some (.ref a),o3]) (row.length=5/\∀t,t<5->∃v,row[t]? =some v/\((t∈xs.take j/\v= -(r:Int))\/(t∉xs.take j/\P (rd.reverse.take i) t v)))<|H V V' [(b,.list (nl xs)),(ra,.list (il row))]) ⟨_,_,rfl,⟨rl,λt l=>let⟨v,a,b⟩:=hP t l;⟨v,a,.inr ⟨(λm=>by exact not_mem_nil m),b⟩⟩⟩,h2⟩ ?_ ?_
  .clear hh h2 hP rl;rintro j Z V' y Fk hFk hy ⟨row,o3,rfl,⟨rl,hP⟩,hh⟩;refine⟨hh.get 0 rfl,?_⟩;refine cZ hy λt ht=>?_;have t5:=x5 t (aF ht);have tk2:=c6 ht;w_fin;refine aB (k:=0) (hh.ext _ _ ha) (bf (x:=r) rfl) ?_;refine fV (hh.get 1 rfl) (O (aE ..) (O rl t5)) ?_;refine O (zu ..) (hFk _ _ ⟨_,_,rfl,⟨by simp[rl],λt' l=>?_⟩,hh.put 1 rfl⟩);refine O tk2 (O c9 ?_);by_cases e:t=t'
   .subst e;exact O (ax rfl) (O (ax (Nat.lt_of_lt_of_eq ‹_› (Eq.symm ‹_›))) ⟨_,rfl,.inl ⟨by exact dJ,rfl⟩⟩)
   .refine O (ai e) ?_;obtain⟨v,a,b⟩:=hP t' l;refine⟨v,a,?_⟩;have e':¬t'=t:=λz=>e z.symm
    simpa[e']using b
  .clear hh h2 hP rl;rintro Z V' ⟨row,o3,rfl,⟨rl,hP⟩,hh⟩;refine⟨hh.get 0 rfl,?_⟩;rw[length_map,take_length]at hP;refine hFk _ _ ⟨row,_,_,rfl,⟨rl,λt l=>?_⟩,hh.drop⟩;obtain⟨v,a,b⟩:=hP t l;refine⟨v,a,?_⟩;refine O tk ?_;rcases b with⟨m,e⟩|⟨m,⟨r',m',b',e⟩|⟨b',e⟩⟩
   .exact .inl ⟨r,by exact dJ,bo.mem.1 m,e⟩
   .exact .inl ⟨r',bM _ m',b',e⟩
   .refine .inr ⟨λr' m'=>?_,e⟩;rcases Uo.1 m' with m'|m'
    .exact b' r' m'
    .have:r'=r:=by exact VX.1 m'
     subst this
     induction z:(mf r').testBit t with
     |false=>rfl
     |true=>exact absurd (bo.mem.2 z) m
 .clear hh;rintro Z V' ⟨row,o2,o3,rfl,⟨rl,hP⟩,hh⟩;rw[length_reverse,length_map,hr.len]at hP;rw[show rd.reverse.take rd.length=rd.reverse by exact Ob length_reverse (O take_length rfl)]at hP;refine⟨hh.ext _ _ hr.lk,?_⟩;obtain⟨ep,gsh⟩:=hr.sh;w_fin;refine ag (hh.ext _ _ hr.obj) rfl<|rL (hh.ext _ _ gsh) ?_;refine aU (λi Z V'=>E2 λrow o3=>A3 (Z=[some (.ref rm),some (.ref ra),o2,o3]) (row.length=5/\∀t,t<5->∃v,row[t]? =some v/\((∃j,(t,j)∈(gL mv).take i/\v=ds t j)\/((∀j,(t,j)∉(gL mv).take i)/\P rd.reverse t v)))<|H V V' [(ra,.list (il row))]) ⟨_,_,rfl,⟨rl,λt l=>by obtain⟨v,a,b⟩:=hP t l;exact⟨v,a,.inr ⟨λj m=>(not_mem_nil m),b⟩⟩⟩,hh⟩ ?_ ?_
  .clear hh hP rl;rintro i Z V' y Fk hFk hy ⟨row,o3,rfl,⟨rl,hP⟩,hh⟩;refine⟨hh.ext _ _ gsh,?_⟩;o_shape;obtain⟨t,j,hj,t5,mj,rfl⟩:=T4 hy;pv_eval;have tk:(gL mv).take (i+1)=(gL mv).take i++[(t,j)]:=by exact O take_add_one (O hj rfl)
   w_fin;refine ag (hh.ext _ _ hr.obj) rfl<|fU (hh.ext _ _ gsh) (T3 nd mj t5)<|fV (hh.get 0 rfl) (O (aE ..) (O rl t5)) ?_;refine O (zu ..) (hFk _ _ ⟨_,_,rfl,⟨by simp[rl],λt' l=>?_⟩,hh.put 0 rfl⟩);refine O tk (O c9 ?_);by_cases e:t=t'
   .subst e;exact O (ax rfl) (O (ax (Nat.lt_of_lt_of_eq ‹_› (Eq.symm ‹_›))) ⟨_,rfl,.inl ⟨j,by exact dJ,rfl⟩⟩)
   .refine O (ai e) ?_;obtain⟨v,a,b⟩:=hP t' l;refine⟨v,a,b.imp (λ⟨j',m,e⟩=>⟨j',bM _ m,e⟩) λ⟨m,p⟩=>⟨λj' m'=>?_,p⟩⟩;rcases Uo.1 m' with m'|m'
    .exact m j' m'
    .have:t'=t/\j'=j:=by simpa using m'
     exact e this.1.symm
  .clear hh hP rl;rintro Z V' ⟨row,o3,rfl,⟨rl,hP⟩,hh⟩;rw[length_map,show(dq mv).length=(gL mv).length by unfold dq;exact O (length_map ..) rfl,take_length]at hP;refine⟨hh.ext _ _ gsh,?_⟩;w_fin;refine ag (hh.ext _ _ hr.obj) rfl<|qU hB (m:=0) (by decide) λxs b bo hb=>?_;have x0:xs=[]:=List.eq_nil_iff_forall_not_mem.2 λx m=>by have:=bo.mem.1 m;simp at this
   subst x0;have h2:=hh.new (.list (nl [])) hb;generalize upd V' b (.list (nl []))=V2 at h2⊢;refine bw (h2.get 0 rfl) ?_;refine aU (λi Z V'=>E1 λo3=>A2 (Z=[some (.ref rm),some (.ref ra),o2,o3]) (V'=V2)) ⟨_,rfl,rfl⟩ (λi Z V' y _ _ hy=>by simp[nl]at hy) ?_;rintro Z V' ⟨o3,rfl,rfl⟩;refine⟨h2.get 0 rfl,?_⟩;w_fin;refine q row ra V' h2.ext ⟨rl,λt l=>?_⟩ (h2.free 1 rfl) (h2.get 1 rfl);obtain⟨v,a,b⟩:=hP t l;refine⟨v,a,b.imp (λ⟨j',m,e⟩=>⟨j',(mem_filter.1 m).1,e⟩) λ⟨m,p⟩=>⟨λj' m'=>m j' (mem_filter.2 ⟨m',by exact decide_eq_true l⟩),p.imp (λ⟨r,m,z⟩=>⟨r,mem_reverse.1 m,z⟩) λ⟨m,z⟩=>⟨λr mr=>m r (mem_reverse.2 mr),z⟩⟩⟩
theorem Tu {ra:Addr} {row:List Int} (hra:V ra=some (.list (il row))) (rl:row.length=5) (rdl:rd.length<=5) (ml:∀r,mf r<32)
 (q:∀(fl:List Addr) r V',Ext V V'->fl.length<=50->(fl=[]->∀t,t<5->fG mv rd mf t)->V r=none->V' r=some (.list (fl.map IV.ref))->Q (.ref r) V'):CallOk B (n+3) 281 [.ref rm,.ref ra] V Q:=by
 refine EP hB ?_;w_fin;refine⟨by decide,fK (.list (([]:List Addr).map IV.ref)) (H.nil (V:=V)) λfa V1 hh=>?_⟩;w_fin;refine ag (hh.ext _ _ hr.obj) rfl<|ag (h.mono hh.ext).obj rfl<|dF (k:=5) (by decide) ?_;refine aU (λi Z V'=>E6 λfl o3 o4 o5 o6 o7=>A4 (Z=[some (.ref rm),some (.ref ra),some (.ref fa),o3,o4,o5,o6,o7]) (fl.length<=10*i) (fl=[]->∀t,t<i->fG mv rd mf t)<|H V V' [(fa,.list (fl.map IV.ref))]) ⟨[],_,_,_,_,_,rfl,zero_le _,λ_ t l=>(absurd ‹_› (not_lt_zero _)),hh⟩ ?_ ?_
 .clear hh;rintro t Z V' y Fk hFk hy ⟨fl,o3,o4,o5,o6,o7,rfl,fll,hfl,hh⟩;refine⟨trivial,?_⟩;refine eI hy λt5=>?_;refine bg (l:=row) (i:=t) (Nat.lt_of_lt_of_eq ‹_› (Eq.symm ‹_›)) λv hv=>?_;w_fin;refine ag (hh.ext _ _ hr.obj) rfl<|bw (hh.ext _ _ hr.lk) ?_;refine fT rd.length ((aE _).trans hr.len) (λi=>nl ((rd.take i).filter λr=>(mf r).testBit t)) rfl (hh.ext _ _ hr.lk) (λi y hy K ks kn=>?_) ?_
  .o_shape;obtain⟨r,a,hri,rfl,ha⟩:=hr.item hy;pv_eval;have tk:=c6 hri;refine aB (k:=1) (hh.ext _ _ ha) (bf (x:=mf r) rfl)<|jd (by lia)<|rI ?_;have fe:(rd.take (i+1)).filter (λr=>(mf r).testBit t)=(rd.take i).filter (λr=>(mf r).testBit t)++(if(mf r).testBit t=true then[r]else[]):=by
    refine O tk (O (filter_append ..) ?_);congr 1;by_cases c:(mf r).testBit t=true<;>simp[c]
   refine tru.int ?_;show(if decide (((mf r&&& 1<<<t:Nat):Int)≠0)=true then _ else _);refine aO (λc=>?_) (λc=>?_)
   .have c':=(yC (mf r) t).1 (by lia);refine aB (k:=0) (hh.ext _ _ ha) (bf (x:=r) rfl) (ks _ ?_);exact O fe (O (ax c') (O (dB ..) rfl))
   .have c':¬(mf r).testBit t=true:=λz=>c (by have:=(yC (mf r) t).2 z;lia);refine kn ?_;exact O fe (O (ai c') (O (append_nil ..) rfl))
  .intro ru hru;rw[take_length]at *;generalize hR:rd.filter (λr=>(mf r).testBit t)=R at *;have Rl:R.length<=5:=by exact Ob hR (le_trans (length_filter_le ..) rdl)
   have h2:=hh.new (.list (nl R)) hru;generalize upd V' ru (.list (nl R))=V2 at h2⊢;clear hh hru;have fin:∀(K:Kn) (fl2:List Addr) (V3:IH),fl2.length<=10*t+1->(fl2=[]->fl=[]/\(R≠[]->∀j,(t,j)∉mv))->H V V3 [(ru,.list (nl R)),(fa,.list (fl2.map IV.ref))]->
    (∀Z s,(E6 λfl o3 o4 o5 o6 o7=>A4 (Z=[some (.ref rm),some (.ref ra),some (.ref fa),o3,o4,o5,o6,o7]) (fl.length<=10*(t+1)) (fl=[]->∀t',t'<t+1->fG mv rd mf t')<|H V s [(fa,.list (fl.map IV.ref))])->K.nx Z s)->
    az B (n+2) si [some (.ref rm),some (.ref ra),some (.ref fa),some (.int (t:Nat)),some (.ref ru),o5,o6,o7] K V3:=by
    intro K fl2 V3 l2 e2 h3 hK;w_fin;refine Gh (h3.get 0 rfl) (by decide) λrb hrb=>?_;have h4:=h3.new (.list (nl (R.drop 1))) hrb;refine O (show(nl R).drop (1:Int).toNat=nl (R.drop 1) by rw[nl,nl];exact O map_drop rfl) ?_;generalize upd V3 rb (.list (nl (R.drop 1)))=V4 at h4⊢;refine bw (h4.get 0 rfl) ?_;refine aU (λi Z V'=>E3 λfl3 o5 o6=>A4 (Z=[some (.ref rm),some (.ref ra),some (.ref fa),some (.int (t:Nat)),some (.ref ru),o5,o6,o7]) (fl3.length<=10*t+1+i) (fl3=[]->fl2=[]/\i=0)<|H V V' [(rb,.list (nl (R.drop 1))),(ru,.list (nl R)),(fa,.list (fl3.map IV.ref))]) ⟨fl2,_,_,rfl,l2,λe=>⟨e,rfl⟩,h4⟩ ?_ ?_
    .clear h3 h4 hrb;rintro i Z V' y Fk hFk hy ⟨fl3,o5,o6,rfl,l3,e3,h3⟩;refine⟨h3.get 0 rfl,?_⟩;refine cZ hy λr hr2=>?_;have z:=av hr2;rw[length_drop]at z;have z:=lt_of_lt_of_le z (sub_le _ _);refine bg (l:=R) (i:=0) (cn (zero_le _) z) λr1 hr1=>?_;w_fin;refine aB (k:=0) (h3.get 1 rfl) (bf hr1) ⟨by decide,?_⟩;w_fin;refine⟨bz (h3.get 2 rfl),ag (h3.ext _ _ hr.obj) rfl<|aB (h3.ext _ _ hra) (jY hv)<|C9 hB λp V5 e5 f5=>?_⟩;have h4:=h3.call e5;refine bZ (h4.get 2 rfl) (by refine O (aE ..) ?_;lia) ?_;have h5:=h4.put 2 (o':=.list (fl3.map IV.ref++[.ref p])) rfl;rw[show fl3.map IV.ref++[.ref p]=(fl3++[p]).map IV.ref by simp]at h5⊢;refine hFk _ _ ⟨fl3++[p],_,_,rfl,by refine O bT ?_;simp only[length_cons,length_nil];exact di ‹_›,λe=>by simp at e,h5⟩
    .clear h3 h4 hrb;rintro Z V' ⟨fl3,o5,o6,rfl,l3,e3,h3⟩;rw[length_map,length_drop]at l3 e3;refine⟨h3.get 0 rfl,?_⟩;refine hK _ _ ⟨fl3,_,_,_,_,_,rfl,le_trans l3 (le_trans (Nat.add_le_add_left (Nat.sub_le_sub_right (m:=5) (by assumption) 1) _) (by lia)),λe t' l=>?_,h3.drop.drop⟩;obtain⟨a,b⟩:=e3 e;obtain⟨c,d⟩:=e2 a;by_cases z:t'=t
     .obtain rfl:=z.symm;unfold fG;exact O hR ⟨by lia,d⟩
     .exact hfl c t' (by lia)
   obtain⟨ep,gsh⟩:=hr.sh;have skip:∀K:Kn,(R=[]\/∀j,(t,j)∉mv)->(∀Z s,(E6 λfl o3 o4 o5 o6 o7=>A4 (Z=[some (.ref rm),some (.ref ra),some (.ref fa),o3,o4,o5,o6,o7]) (fl.length<=10*(t+1)) (fl=[]->∀t',t'<t+1->fG mv rd mf t')<|H V s [(fa,.list (fl.map IV.ref))])->K.nx Z s)->
    az B (n+2) si [some (.ref rm),some (.ref ra),some (.ref fa),some (.int (t:Nat)),some (.ref ru),o5,o6,o7] K V2:=λK hc hK=>
    fin K fl V2 (le_succ_of_le ‹_›) (λe=>⟨e,λn=>hc.elim (λz=>absurd z n) id⟩) h2 hK
   w_fin;refine ze (h2.get 0 rfl)<|b9 (λc=>?_) (λc=>?_)
   .refine ag (h2.ext _ _ hr.obj) rfl<|iR<|rK (h2.ext _ _ gsh)<|b9 (λd=>?_) (λd=>?_)
    .w_fin;refine⟨bz (h2.get 1 rfl),ag (h2.ext _ _ hr.obj) rfl<|rP (h2.get 0 rfl)<|aB (h2.ext _ _ hra) (jY hv)<|C9 hB λp V5 e5 f5=>?_⟩;have h4:=h2.call e5;refine bZ (h4.get 1 rfl) (by refine O (aE ..) ?_;lia) ?_;have h5:=h4.put 1 (o':=.list (fl.map IV.ref++[.ref p])) rfl;rw[show fl.map IV.ref++[.ref p]=(fl++[p]).map IV.ref by simp]at h5⊢;exact fin _ (fl++[p]) _ (by refine O bT ?_;simp only[length_cons,length_nil];exact di ‹_›) (λe=>by simp at e) h5 hFk
    .refine skip _ (.inr λj m=>?_) hFk;have:t<5:=t5;rcases(Oe (HD m this) d)
   .refine cJ ?_;refine skip _ (.inl ?_) hFk;have:(nl R).isEmpty=true:=by simpa using c
    simpa[nl]using this
 .clear hh;rintro Z V' ⟨fl,o3,o4,o5,o6,o7,rfl,fll,hfl,hh⟩;rw[length_map,length_range]at fll hfl;refine⟨trivial,?_⟩;w_fin;exact q fl fa V' hh.ext fll hfl (hh.free 0 rfl) (hh.get 0 rfl)
end
theorem Gw {Q:QE} {V:IH} {i:Int} (q:Q (.int (-i)) V):(match IV.int i with|.int i=>Q (.int (-i)) V|_=>False):=q
def CntOk (row:List Int) (kvs:List (Int×IV)):Prop:=∀p∈kvs,(∃n,p.2=.int n)/\0<p.1/\∃t:Nat,row[t]? =some (-p.1)
theorem CntOk.get {kvs:List (Int×IV)} (h:CntOk row kvs) (m:k∈kvs.map (·.1)):∃n,aq kvs k=some (.int n):=by
 induction e:aq kvs k with
 |none=>obtain⟨p,mp,ep⟩:=mem_map.1 m;exact absurd ep (hO e p mp)
 |some v=>obtain⟨n,hn⟩:=(h _ (eG e)).1;exact⟨n,by exact O (show v=.int n from hn) rfl⟩
theorem HG {K:Type} [DecidableEq K] {l:List (K×IV)} {k:K} {p:K×IV} (m:p∈aK l k v):p∈l\/p=(k,v):=by
 unfold aK at m;split at m
 .obtain⟨q,mq,e⟩:=mem_map.1 m;split at e
  .rename_i z;exact Ob z (.inr e.symm)
  .obtain rfl:=e.symm;exact .inl mq
 .rcases Uo.1 m with m|m
  .exact .inl m
  .exact .inr (VX.1 m)
section
variable{B:Bs} (hB:Base B) {n:Nat} {V:IH} {Q:QE}
include hB
theorem Tv {row:List Int} (hra:V ra=some (.list (il row))) (rl:row.length=5) (q:∀(b:Nat) V',Ext V V'->(b=0\/∃t:Nat,row[t]? =some (-(b:Int)))->Q (.int (b:Nat)) V'):CallOk B (n+1) 295 [.ref ra] V Q:=by
 refine EQ hB ?_;refine bg (l:=row) (i:=1) (by lia) λv1 hv1=>?_;w_fin;refine aB (k:=1) hra (jY hv1)<|gD<|aO (λc=>?_) (λc=>?_)
 .w_fin;exact q 0 V Ext.rfl (.inl rfl)
 .w_fin;intro ep ca hca;have hh:=(H.nil (V:=V)).new (.idict [] ep) hca;generalize upd V ca (.idict [] ep)=V1 at hh⊢;w_fin;refine bw (hh.ext _ _ hra) ?_;refine aU (λi Z V'=>E3 λkvs ep o2=>A4 (Z=[some (.ref ra),some (.ref ca),o2,none,none]) (kvs.length<=i) (CntOk row kvs)<|H V V' [(ca,.idict kvs ep)]) ⟨_,_,_,rfl,aY _,λp m=>(by cases m),hh⟩ ?_ ?_
  .clear hh;rintro i Z V' y Fk hFk hy ⟨kvs,ep,o2,rfl,kl,ck,hh⟩;refine⟨hh.ext _ _ hra,?_⟩;have ilt:=av hy;rw[length_map,rl]at ilt;obtain⟨v,hv,rfl⟩:∃v,row[i]? =some v/\y=.int v:=by
    replace hy:=Oe aQ hy
    cases e:row[i]? with
    |none=>rw[e]at hy;exact bv hy
    |some v=>rw[e]at hy;obtain rfl:=aP hy;exact⟨v,rfl,rfl⟩
   w_fin;refine dE<|aO (λc=>?_) (λc=>?_)
   .refine dE<|aO (λd=>?_) (λd=>?_)
    .have nxt:∀w:Int,putI (.ref ca) (.int (-v)) (.int w) (Fk [some (.ref ra),some (.ref ca),some (.int v),none,none]) V':=λw=>by
      refine gJ (hh.get 0 rfl) (by lia) λep'=>?_;refine hFk _ _ ⟨_,ep',_,rfl,by have:=r6 kvs (-v) (.int w);lia,λp m=>?_,hh.put 0 rfl⟩;rcases HG m with m|rfl
      .exact ck p m
      .exact⟨⟨w,rfl⟩,by show 0< -v;lia,i,by show _=some (- -v);exact O (neg_neg ..) hv⟩
     w_fin;refine⟨i7 (hh.get 0 rfl),i9 (hh.get 0 rfl) ?_⟩
     induction e:aq kvs (-v)with
     |none=>exact de (nxt _)
     |some w=>
      obtain⟨n,hn⟩:=(ck _ (eG e)).1;have hn:w=.int n:=hn;subst hn;exact de (nxt _)
    .exact hFk _ _ ⟨kvs,ep,_,rfl,by lia,ck,hh⟩
   .refine cJ ?_;exact hFk _ _ ⟨kvs,ep,_,rfl,by lia,ck,hh⟩
  .clear hh;rintro Z V' ⟨kvs,ep,o2,rfl,kl,ck,hh⟩;rw[length_map,rl]at kl;refine⟨hh.ext _ _ hra,?_⟩;w_fin;w_fin;refine rO (hh.get 0 rfl) (by lia) λsa hsa=>?_;have h2:=hh.new (.list (il (cO (kvs.map (·.1))))) hsa;generalize upd V' sa (.list (il (cO (kvs.map (·.1)))))=V2 at h2⊢;have pm:∀k,k∈cO (kvs.map (·.1))↔k∈kvs.map (·.1):=λk=>(List.mergeSort_perm _ _).mem_iff;refine bw (h2.get 0 rfl) ?_;refine aU (λi Z V'=>E2 λb o4=>A3 (Z=[some (.ref ra),some (.ref ca),o2,some (.int b),o4]) (b=0\/b∈kvs.map (·.1)) (V'=V2)) ⟨0,_,rfl,.inl rfl,rfl⟩ ?_ ?_
   .rintro i Z V' y Fk hFk hy ⟨b,o4,eQ,hb,rfl⟩;obtain rfl:=eQ.symm;refine⟨h2.get 0 rfl,?_⟩;obtain⟨k,hk,rfl⟩:∃k,k∈kvs.map (·.1)/\y=.int k:=by
     replace hy:=Oe aQ hy
     cases e:(cO (kvs.map (·.1)))[i]? with
     |none=>rw[e]at hy;exact bv hy
     |some v=>rw[e]at hy;obtain rfl:=aP hy;exact⟨v,(pm v).1 (aF e),rfl⟩
    obtain⟨nk,hnk⟩:=ck.get hk;w_fin;refine cV<|aO (λc=>?_) (λc=>?_)
    .refine fx ?_;w_fin;exact hFk _ _ ⟨k,_,rfl,.inr hk,rfl⟩
    .obtain⟨nb,hnb⟩:=ck.get (hb.resolve_left c);refine fU (h2.get 1 rfl) hnk<|fU (h2.get 1 rfl) hnb<|gD<|aO (λd=>?_) (λd=>?_)
     .w_fin;exact hFk _ _ ⟨k,_,rfl,.inr hk,rfl⟩
     .exact hFk _ _ ⟨b,_,rfl,hb,rfl⟩
   .rintro Z V' ⟨b,o4,rfl,hb,rfl⟩;refine⟨h2.get 0 rfl,?_⟩;w_fin;rcases hb with rfl|hb
    .exact q 0 _ h2.ext (.inl rfl)
    .obtain⟨p,mp,rfl⟩:=mem_map.1 hb;obtain⟨_,p0,t,ht⟩:=ck p mp;have e:p.1=((p.1.toNat:Nat):Int):=by lia
     show Q (.int p.1) _;refine O e ?_;exact q _ _ h2.ext (.inr ⟨t,by exact Ob e ht⟩)
noncomputable def gy (row:List Int) (r:Int):List Int:=row.map λv=>if v= -r then 0 else v
omit hB in
theorem DQ (row:List Int) (r:Int) {i:Nat} (h:row[i]? =some v):gy (row.take (i+1)) r=gy (row.take i) r++[if v= -r then 0 else v]:=by
 unfold gy;exact O take_add_one (O h (O bW rfl))
theorem T0 (hra:V ra=some (.list (il row))) (q:∀p V',Ext V V'->V p=none->V' p=some (.list (il (gy row r)))->Q (.ref p) V'):CallOk B (n+1) 300 [.ref ra,.int r] V Q:=by
 refine ER hB ?_;w_fin;refine bw hra ?_;refine fT row.length (aE _) (λi=>il (gy (row.take i) r)) rfl hra (λi y hy K ks _=>?_) λp hp=>?_
 .obtain⟨v,hv,rfl⟩:∃v,row[i]? =some v/\y=.int v:=by
   replace hy:=Oe aQ hy
   cases e:row[i]? with
   |none=>rw[e]at hy;exact bv hy
   |some v=>rw[e]at hy;obtain rfl:=aP hy;exact⟨v,rfl,rfl⟩
  refine cV<|aO (λc=>?_) (λc=>?_)
  .refine ks _ ?_;refine O (DQ row r hv) (O (ax c) ?_);rw[il,il];exact O bW rfl
  .refine ks _ ?_;refine O (DQ row r hv) (O (ai c) ?_);rw[il,il];exact O bW rfl
 .exact O take_length (q p _ (Ext.new hp) hp (bB _ _ _))
theorem Tn (hh:H V0 V ((tb,.inst 232 [])::l)) (hna:V na=some (.list (nms.map IV.str)))
 (q:∀d0 V',(∃nu,H V0 V' ((tb,.inst 232 [(52,.ref na),(81,.int 5),(41,.ref la),(43,.ref ea),(9,.ref ba),(17,.ref d0),(57,.ref nu)])::l))->Q .none V'):CallOk B (n+1) 82 [.ref tb,.ref na,.int 5,.ref la,.ref ea,.ref ba] V Q:=by
 refine EC hB ?_;have nna:na≠tb:=λe=>by rw[e,hh.get 0 rfl]at hna;cases hna
 w_fin;refine cp (hh.get 0 rfl) (by decide) (aG rfl) ?_;have h1:=hh.put 0 (o':=.inst 232 [(52,.ref na)]) rfl;have n1:=fg (a:=tb) (o:=.inst 232 (aK [] 52 (.ref na))) hna nna;rw[show aK [] 52 (IV.ref na)=[(52,IV.ref na)]from rfl]at n1⊢;generalize upd V tb (.inst 232 [(52,.ref na)])=V1 at h1 n1⊢;w_fin;refine cp (h1.get 0 rfl) (by decide) (aG rfl) ?_;have h2:=h1.put 0 (o':=.inst 232 [(52,.ref na),(81,.int 5)]) rfl;have n2:=fg (a:=tb) (o:=.inst 232 (aK [(52,.ref na)] 81 (.int 5))) n1 nna;rw[show aK [(52,IV.ref na)] 81 (.int 5)=[(52,IV.ref na),(81,.int 5)]from rfl]at n2⊢;generalize upd V1 tb (.inst 232 [(52,.ref na),(81,.int 5)])=V2 at h2 n2⊢;clear h1 n1;w_fin;refine cp (h2.get 0 rfl) (by decide) (aG rfl) ?_;have h3:=h2.put 0 (o':=.inst 232 [(52,.ref na),(81,.int 5),(41,.ref la)]) rfl;have n3:=fg (a:=tb) (o:=.inst 232 (aK [(52,.ref na),(81,.int 5)] 41 (.ref la))) n2 nna;rw[show aK [(52,IV.ref na),(81,.int 5)] 41 (.ref la)=[(52,IV.ref na),(81,.int 5),(41,.ref la)]from rfl]at n3⊢;generalize upd V2 tb (.inst 232 [(52,.ref na),(81,.int 5),(41,.ref la)])=V3 at h3 n3⊢;clear h2 n2;w_fin;refine cp (h3.get 0 rfl) (by decide) (aG rfl) ?_;have h4:=h3.put 0 (o':=.inst 232 [(52,.ref na),(81,.int 5),(41,.ref la),(43,.ref ea)]) rfl;have n4:=fg (a:=tb) (o:=.inst 232 (aK [(52,.ref na),(81,.int 5),(41,.ref la)] 43 (.ref ea))) n3 nna;rw[show aK [(52,IV.ref na),(81,.int 5),(41,.ref la)] 43 (.ref ea)=[(52,IV.ref na),(81,.int 5),(41,.ref la),(43,.ref ea)]from rfl]at n4⊢;generalize upd V3 tb (.inst 232 [(52,.ref na),(81,.int 5),(41,.ref la),(43,.ref ea)])=V4 at h4 n4⊢;clear h3 n3;w_fin;refine cp (h4.get 0 rfl) (by decide) (aG rfl) ?_;have h5:=h4.put 0 (o':=.inst 232 [(52,.ref na),(81,.int 5),(41,.ref la),(43,.ref ea),(9,.ref ba)]) rfl;have n5:=fg (a:=tb) (o:=.inst 232 (aK [(52,.ref na),(81,.int 5),(41,.ref la),(43,.ref ea)] 9 (.ref ba))) n4 nna;rw[show aK [(52,IV.ref na),(81,.int 5),(41,.ref la),(43,.ref ea)] 9 (.ref ba)=[(52,IV.ref na),(81,.int 5),(41,.ref la),(43,.ref ea),(9,.ref ba)]from rfl]at n5⊢;generalize upd V4 tb (.inst 232 [(52,.ref na),(81,.int 5),(41,.ref la),(43,.ref ea),(9,.ref ba)])=V5 at h5 n5⊢;clear h4 n4;w_fin;refine⟨by decide,λd0 hd0=>?_⟩;have h6:=h5.new (.list []) hd0;have n6:=(Ext.new (o:=.list []) hd0) _ _ n5;refine cp (h6.get 1 rfl) (by decide) (aG rfl) ?_;have h7:=(h6.put 1 (o':=.inst 232 [(52,.ref na),(81,.int 5),(41,.ref la),(43,.ref ea),(9,.ref ba),(17,.ref d0)]) rfl).drop;have n7:=fg (a:=tb) (o:=.inst 232 (aK [(52,.ref na),(81,.int 5),(41,.ref la),(43,.ref ea),(9,.ref ba)] 17 (.ref d0))) n6 nna;rw[show aK [(52,IV.ref na),(81,.int 5),(41,.ref la),(43,.ref ea),(9,.ref ba)] 17 (.ref d0)=[(52,IV.ref na),(81,.int 5),(41,.ref la),(43,.ref ea),(9,.ref ba),(17,.ref d0)]from rfl]at n7⊢;generalize upd (upd V5 d0 (.list [])) tb (.inst 232 [(52,.ref na),(81,.int 5),(41,.ref la),(43,.ref ea),(9,.ref ba),(17,.ref d0)])=V6 at h7 n7⊢;clear h5 h6 n5 n6 hd0;w_fin;intro nu hnu;have h8:=h7.new (.sdict []) hnu;have n8:=(Ext.new (o:=.sdict []) hnu) _ _ n7;refine cp (h8.get 1 rfl) (by decide) (aG rfl) ?_;have h9:=h8.put 1 (o':=.inst 232 [(52,.ref na),(81,.int 5),(41,.ref la),(43,.ref ea),(9,.ref ba),(17,.ref d0),(57,.ref nu)]) rfl;have n9:=fg (a:=tb) (o:=.inst 232 (aK [(52,.ref na),(81,.int 5),(41,.ref la),(43,.ref ea),(9,.ref ba),(17,.ref d0)] 57 (.ref nu))) n8 nna;rw[show aK [(52,IV.ref na),(81,.int 5),(41,.ref la),(43,.ref ea),(9,.ref ba),(17,.ref d0)] 57 (.ref nu)=[(52,IV.ref na),(81,.int 5),(41,.ref la),(43,.ref ea),(9,.ref ba),(17,.ref d0),(57,.ref nu)]from rfl]at n9⊢;generalize upd (upd V6 nu (.sdict [])) tb (.inst 232 [(52,.ref na),(81,.int 5),(41,.ref la),(43,.ref ea),(9,.ref ba),(17,.ref d0),(57,.ref nu)])=V7 at h9 n9⊢;clear h7 h8 n7 n8 hnu;have nnu:na≠nu:=λe=>by rw[e,h9.get 0 rfl]at n9;cases n9
 w_fin;refine dF (k:=5) (by decide) ?_;refine aU (λi Z V'=>E2 λkvs o6=>A4 (Z=[some (.ref tb),some (.ref na),some (.int 5),some (.ref la),some (.ref ea),some (.ref ba),o6]) (kvs.length<=i) (V' na=some (.list (nms.map IV.str)))<|H V0 V' ((nu,.sdict kvs)::(tb,.inst 232 [(52,.ref na),(81,.int 5),(41,.ref la),(43,.ref ea),(9,.ref ba),(17,.ref d0),(57,.ref nu)])::l)) ⟨_,_,rfl,aY _,n9,h9⟩ ?_ ?_
 .clear h9 n9;rintro i Z V' y Fk hFk hy ⟨kvs,o6,rfl,kl,nn,h9⟩;refine⟨trivial,?_⟩;refine eI hy λi5=>?_;refine bg (l:=nms) (i:=i) (by show i<8;exact lt_of_lt_of_le ‹_› (by decide)) λx hx=>?_;w_fin;refine ag (h9.get 1 rfl) rfl<|aB nn (show(nms.map IV.str)[i]? =some (.str x) by exact O aQ (O hx rfl))<|Gx (h9.get 0 rfl) (cn ‹_› (lt_of_lt_of_le ‹_› (by decide))) ?_;exact hFk _ _ ⟨_,_,rfl,by have:=r6 kvs x (.int (i:Nat));lia,fg nn nnu,h9.put 0 rfl⟩
 .rintro Z V' ⟨kvs,o6,rfl,kl,nn,h9⟩;exact⟨trivial,q d0 V' ⟨nu,h9.drop⟩⟩
end
section
set_option tactic.hygienic true
theorem HS (P:Params):(K P).lookup 337=some (fC):=by kernel_rfl
theorem HR (P:Params):(K P).lookup 330=some (iw):=by kernel_rfl
theorem HQ (P:Params):(K P).lookup 308=some (fB):=by kernel_rfl
theorem HP (P:Params):(K P).lookup 301=some (iu):=by kernel_rfl
noncomputable def cK (o:Obj):FuncData:=match o.data with|.func fd=>fd|_=>⟨u "",u "",⟨[],[],none,[],[],none,[]⟩,.stmts [],sc (tS 0),0,[],.none,.none,.none,.none,none,.none,.none,0⟩
theorem Rh (P:Params):(fY (K P) (cK (fC)) Ah n_c0 8&&(cK (fC)).closure.isEmpty)=true:=by kernel_rfl
theorem Rg (P:Params):(fY (K P) (cK (fB)) Ad n_b7 4&&(cK (fB)).closure.isEmpty)=true:=by kernel_rfl
theorem Ew (P:Params) (v0 v1 v2 v3:Value):∃k:Option (Array Value)->Sem (List (PySem.Str×Value)),bindArgs (cK (fC)) ⟨[v0,v1,v2,v3],[]⟩=seqItems? (cK (fC)).defaults>>= k/\
 k (some #[.int (-1) 673,.none,.int 0 674,.int 0 675])=pure ((n_c0.take 8).zip [v0,v1,v2,v3,.int (-1) 673,.none,.int 0 674,.int 0 675]):=by
 apply Exists.intro;apply And.intro
 case left=>exact rfl
 case right=>exact rfl
theorem Ev (P:Params) (v0 v1 v2:Value):∃k:Option (Array Value)->Sem (List (PySem.Str×Value)),bindArgs (cK (fB)) ⟨[v0,v1,v2],[]⟩=seqItems? (cK (fB)).defaults>>= k/\
 k (some #[S "lalr" 612])=pure ((n_b7.take 4).zip [v0,v1,v2,S "lalr" 612]):=by
 apply Exists.intro;apply And.intro
 case left=>exact rfl
 case right=>exact rfl
theorem VRs.inv (r:VRs B h vs (a::as)):∃v ws,vs=v::ws/\VR B h v a/\VRs B h ws as:=by
 induction vs with
 |nil=>exact r.elim
 |cons v ws=>exact⟨v,ws,rfl,r.1,r.2⟩
theorem EV (hB:Base B) (h:az B n Ah [some a0,some a1,some a2,some a3,some (.int (-1)),some .none,some (.int 0),some (.int 0)] (aH Q) V):CallOk B (n+1) 337 [a0,a1,a2,a3] V Q:=by
 have ok:=Rh B.w.params;rw[and_eq_true]at ok;refine rA hB (fd:=cK fC) (args':=[a0,a1,a2,a3,.int (-1),.none,.int 0,.int 0]) (HS B.w.params) ok.1 (isEmpty_iff.1 ok.2) (aG rfl) (λs x vs r=>?_) rfl h;o_shape;obtain⟨v0,vs,rfl,r0,r⟩:=r.inv;obtain⟨v1,vs,rfl,r1,r⟩:=r.inv;obtain⟨v2,vs,rfl,r2,r⟩:=r.inv;obtain⟨v3,vs,rfl,r3,r⟩:=r.inv;obtain rfl:=r.nil_left;obtain⟨k,h1,h2⟩:=Ew B.w.params v0 v1 v2 v3;pv_eval;have X:=hB.kin' x;exact⟨[v0,v1,v2,v3,.int (-1) 673,.none,.int 0 674,.int 0 675],BindsTo.of_defaults (T:=330) (o:=iw) rfl (X _ _ (HR B.w.params)) rfl h1 h2,r0,r1,r2,r3,⟨673,rfl⟩,rfl,⟨674,rfl⟩,⟨675,rfl⟩,trivial⟩
theorem ES (hB:Base B) (h:az B n Ad [some a0,some a1,some a2,some (.str (u "lalr")),none,none,none,none,none,none,none,none,none] (aH Q) V):CallOk B (n+1) 308 [a0,a1,a2] V Q:=by
 have ok:=Rg B.w.params;rw[and_eq_true]at ok;refine rA hB (fd:=cK fB) (args':=[a0,a1,a2,.str (u "lalr")]) (HQ B.w.params) ok.1 (isEmpty_iff.1 ok.2) (aG rfl) (λs x vs r=>?_) rfl h;o_shape;obtain⟨v0,vs,rfl,r0,r⟩:=r.inv;obtain⟨v1,vs,rfl,r1,r⟩:=r.inv;obtain⟨v2,vs,rfl,r2,r⟩:=r.inv;obtain rfl:=r.nil_left;obtain⟨k,h1,h2⟩:=Ev B.w.params v0 v1 v2;pv_eval;have X:=hB.kin' x;exact⟨[v0,v1,v2,S "lalr" 612],BindsTo.of_defaults (T:=301) (o:=iu) rfl (X _ _ (HP B.w.params)) rfl h1 h2,r0,r1,r2,⟨612,rfl⟩,trivial⟩
noncomputable def Dz (sc:Scope) (ns:List PySem.Str) (m1 m2 m3:MS) (es:MEs) (r:MSs) (l:List Stmt):Bool:=
 yc l λy1 l=>yc l λy2 l=>yc l λy3 l=>yc l λy4 ys=>yq y4 λc=>xF c λf xs ks p=>xA f λg am ap=>xF g λh as ks' _=>xN h λnm=>y0 as (y0 ks' (y0 ks
  (nm==u "super"&&(am==u "__init__"&&(decide (ap.endLine=p.line)&&(decide (xs.length<29)&&(mS sc ns m1 y1&&(mS sc ns m2 y2&&(mS sc ns m3 y3&&(dP sc ns es xs&&eH sc ns r ys))))))))))
@[elab_as_elim] theorem U2 {sc:Scope} {C:List Stmt->Prop} (h:Dz sc ns m1 m2 m3 es r l=true) (f:∀y1 y2 y3 p0 p1 ap xs p p4 ys,ap.endLine=p.line->xs.length<29->mS sc ns m1 y1=true->mS sc ns m2 y2=true->mS sc ns m3 y3=true->dP sc ns es xs=true->eH sc ns r ys=true->C (y1::y2::y3::.Expr (.Call (.Attribute (.Call (.Name (u "super") p0) [] [] p1) (u "__init__") ap) xs [] p) p4::ys)):C l:=by
  refine jc h λy1 l h=>?_;refine jc (l:=l) h λy2 l h=>?_;refine jc (l:=l) h λy3 l h=>?_;refine jc (l:=l) h λy ys h=>?_;refine zp (x:=y) h λy p4 h=>?_;refine iF (x:=y) h λy xs l1 p h=>?_;refine iA (x:=y) h λy nm ap h=>?_;refine iF (x:=y) h λy l2 l3 p1 h=>?_;refine iN (x:=y) h λn2 p0 h=>?_;refine j0 (l:=l2) h λh=>?_;refine j0 (l:=l3) h λh=>?_;refine j0 (l:=l1) h λh=>?_;refine dN (a:=n2) h λh=>?_;refine dN (a:=nm) h λh=>?_;o_shape;refine bA h λhli h=>?_;refine bA h λhl h=>?_;refine bA h λhm1 h=>?_;refine bA h λhm2 h=>?_;refine bA h λhm3 h=>?_;pv_eval;exact f y1 y2 y3 p0 p1 ap xs p p4 ys (dT hli) (dT hl) hm1 hm2 hm3 (bc h).1 (bc h).2
noncomputable def CM:MS:=.asgC 8 (.comp [u "",u "",u "",u "",u "",u "",u "",u "",u "",u "",u "",u "rule",u "",u ""] 11 .it (.att (.loc 1) 69) (.att (.loc 11) 40))
noncomputable def CN:MS:=.asgC 9 (.comp [u "",u "",u "",u "",u "",u "",u "",u "",u "",u "",u "",u "",u "rule",u ""] 12 .it (.att (.loc 1) 69) (.bi .len (.att (.loc 12) 65)))
noncomputable def CO:MS:=.asgC 10 (.comp [u "",u "",u "",u "",u "",u "",u "",u "",u "",u "",u "",u "",u "",u "rule"] 13 .it (.att (.loc 1) 69) (.att (.loc 13) 8))
noncomputable def CP:MEs:=.cons (.att (.loc 1) 52) (.cons (.att (.loc 1) 81) (.cons (.loc 8) (.cons (.loc 9) (.cons (.loc 10) .nil))))
theorem Sy:zY=.cons CM (.cons CN (.cons CO (.cons (.sup CP) sf))):=rfl
theorem zO (P:Params):(K P).lookup 208=some (o208):=by kernel_rfl
theorem HO (P:Params):(K P).lookup 207=some (ju):=by kernel_rfl
theorem HN (P:Params):(K P).lookup 198=some (jt):=by kernel_rfl
theorem r9 (P:Params):(K P).lookup 232=some (ip):=by kernel_rfl
theorem HT (P:Params):(K P).lookup 82=some (jv):=by kernel_rfl
theorem CH (P:Params):(fY (K P) {cK (o208)with body:=.stmts []} .nil n_a7 8&&Dz (sc (cS 13 0)) n_a7 CM CN CO CP sf (bd (cS 13 0))&&
 (sc (cS 13 0)).names.all (λx=>x.2 != .cell)&&(sc (cS 13 0)).names.lookup (u "super")==some .globalImplicit&&(sc (cS 13 0)).names.lookup (u "__class__")==some .free&&
 nsIn (K P) mainGlobals (u "super")==some none&&mroIn (K P) 232 (.ref 232)==some true&&nsIn (K P) cStatics (u "thirdparty.any")==some none&&fnIn (K P) 82&&
 alongIn (K P) (u "__init__") [.ref 162,.type "object"]==some (some (.ref 82))&& !((pw.main.scope.names.lookup (u "super")).isSome)&&pw.main.file==u "/claim/cut.py")=true:=by kernel_rfl
theorem F8 (P:Params):∃cd,clsIn (K P) 232=some cd/\(cd.mro.dropWhile (· != .ref 232)).drop 1=[.ref 162,.type "object"]:=by
 refine⟨match(ip).data with|.cls cd=>cd|_=>⟨u "",[],[],0,u "",false,[],[],false,none,false⟩,by kernel_rfl,by kernel_rfl⟩
theorem HY {α:Type} {l:List (PySem.Str×α)} (nd:(l.map (·.1)).Nodup) {v:α} (m:(x,v)∈l):l.reverse.lookup x=some v:=by
 have key:∀{l:List (PySem.Str×α)},(l.map (·.1)).Nodup->(x,v)∈l->l.lookup x=some v:=λ{l} nd m=>by
  induction l with
  |nil=>cases m
  |cons p l ih=>
   obtain⟨y,w⟩:=p;rw[map_cons,nodup_cons]at nd;rcases mem_cons.1 m with e|m
   .cases e;simp
   .have:x≠y:=λe=>nd.1 (e▸mem_map_of_mem (f:=(·.1)) m);exact O lookup_cons (O (beq_false_of_ne this) (ih nd.2 m))
 exact key (O List.map_reverse (List.pairwise_reverse.2 (List.Pairwise.imp (λh=>Ne.symm h) nd))) (mem_reverse.2 m)
section
variable{B:Bs} {n:Nat} {sc:Scope} {env:Env} {ns:List PySem.Str} {Z:aL} {A:Around} {V:IH} {s:Shared}
theorem rh {K:Kn} (hm:mS sc ns m y=true) (ok:Ok B n sc env ns Z A V s) (q:az B n (.cons m r) Z K V)
 (k:∀Z1 V1 s1,Ok B n sc env ns Z1 A V1 s1->KeepX (bN env ns) V s.heap V1 s1.heap->az B n r Z1 K V1->PySem.wpAt (model pw B.w) A c (execs rest env) (SQ B env ns V1 s1.heap K) aA s1):
 PySem.wpAt (model pw B.w) A c (execs (y::rest) env) (SQ B env ns V s.heap K) aA s:=by
 refine ks_wpAt_execs_cons (wpAt_of_wpAny (bK (sS B m hm ok _ q) (λf s1 h₁=>?_) λ_ _ e=>e));obtain⟨V1,Z1,x1,vo1,k1,q1⟩:=h₁
 induction f with
 |next=>exact ks_wpAt_mono (k Z1 V1 s1 (ok.nextX x1 vo1) k1 q1) (λ_ _ h=>SQ.from k1 h) λ_ _ e=>e
 |brk=>exact⟨V1,Z1,x1,vo1,k1,q1⟩
 |cont=>exact⟨V1,Z1,x1,vo1,k1,q1⟩
 |ret v=>exact⟨V1,Z1,x1,vo1,k1,q1⟩
theorem VO.self {M:Model} {E:Value->Shared->Prop} {i:Nat} {nm:PySem.Str} {Q:Value->Shared->Prop} (vo:VO B env ns Z V s.heap) (e:ns[i]? =some nm) (hx:nm≠u "") (r:Z[i]? =some (some y))
 (q:∀v,VR B s.heap v y->Q v s):wpAny M A (loadName env nm) Q E s:=by
 rcases vo.kinds i nm e hx with hk|hk
 .obtain⟨m,hn,z⟩:=vo.loc;have z:=z i nm e hx hk;rw[r]at z
  induction w:m nm with
  |none=>rw[w]at z;exact z.elim
  |some v=>rw[w]at z;exact wpAny_loadName_local vo.kind hk hn w (q v z)
 .o_shape;obtain⟨c,w,h1,h2,h3,_⟩:=vo.cell i nm e hx hk;pv_eval;rw[r]at h3
  induction w with
  |none=>exact h3.elim
  |some v=>exact wpAny_loadName_cell vo.kind hk h1 h2 (q v h3)
theorem FY {q gf:Addr} {K':List IV->IH->Prop} {R:Value->Shared->Prop} (hf:fnIn (Mine.K B.w.params) gf=true) (hq:s.heap.get? q=some (methodObj (.ref gf) self)) (nb:B.h0.get? q=none) (nf:¬aS V s.heap q)
 (ih:fj B es) (hm:dP sc ns es xs=true) (ok:Ok B n sc env ns Z A V s)
 (z:fO B n Z es K' V) (h:∀vs s1 V1 ys,St B V1 s1->Keep V s.heap V1 s1.heap->VRs B s1.heap vs ys->K' ys V1->s1.heap.get? q=some (methodObj (.ref gf) self)->wpAny (model pw B.w) A (call (.ref q) (first++vs)) R aA s1):
 wpAny (model pw B.w) A (callWith pos (.ref q) first (backTo pos (starEach xs env)) []) R aA s:=by
 cases es with
 |nil=>
  refine j0 (l:=xs) hm λ_=>?_;exact callWith_M0 ⟨hq,ok.b.kin' ok.x⟩ hf (h [] s V [] ok.x (Keep.refl _ _) trivial z hq)
 |cons e es=>
  have ih:=ih (pos:=pos) hm ok _ z;revert ih;refine jc (l:=xs) hm λy ys hm' ih=>?_;have hm':=bc (bc hm').2;refine callWith_M (h₀:=B.h0) (L:=q+1) (news:=[(q,methodObj (.ref gf) self)]) ok.b.kin (λp hp=>?_) bJ hf ?_ (dG hm'.2) (yh hm'.1)
  .obtain rfl:=VX.1 hp;exact⟨hq,ne_of_lt (lt_succ_self _),nb⟩
  exact bK ih (λvs s1 zq=>by obtain⟨V1,zs,a,b,c,d⟩:=zq;exact⟨⟨b.old _ _ hq nf,ok.b.kin' a⟩,h vs s1 V1 zs a b c d (b.old _ _ hq nf)⟩) λ_ _ e=>e
theorem Ef {p0 p1 ap p p4:Pos} {xs:List Expr} {ys body:List Stmt} {K:Kn} {fd:FuncData} (ok:Ok B n sc env ns Z A V s) (hes:dP sc ns es xs=true) (hl:xs.length<29) (hli:ap.endLine=p.line) (e0:ns[0]? =some (u "self"))
 (hks:env.kindOf (u "super")=some .globalImplicit) (hkc:env.kindOf (u "__class__")=some .free) (hfu:env.func=some 208) (hco:env.code=.ref 207) (hce:env.cells.lookup (u "__class__")=some 198)
 (hfd:o208.data=.func fd) (hp:∃ar,(fd.params.posonlyargs++fd.params.args).head?=some ar/\ar.arg=u "self")
 (q:az B n (.cons (.sup es) r) Z K V)
 (k:∀V1 s1,Ok B n sc env ns Z A V1 s1->KeepX (bN env ns) V s.heap V1 s1.heap->az B n r Z K V1->PySem.wpAt (model pw B.w) A (.func body env) (execs ys env) (SQ B env ns V1 s1.heap K) aA s1):
 PySem.wpAt (model pw B.w) A (.func body env) (execs (.Expr (.Call (.Attribute (.Call (.Name (u "super") p0) [] [] p1) (u "__init__") ap) xs [] p) p4::ys) env) (SQ B env ns V s.heap K) aA s:=by
 o_shape;obtain⟨ar,har,har2⟩:=hp;have X:(Mine.K B.w.params).In s.heap:=ok.b.kin' ok.x;have all:=CH B.w.params;simp only[and_eq_true,beq_iff_eq,Bool.not_eq_true']at all;obtain⟨⟨⟨⟨⟨⟨⟨⟨⟨⟨⟨_,_⟩,_⟩,_⟩,_⟩,a5⟩,a6⟩,a7⟩,a8⟩,a9⟩,a10⟩,a11⟩:=all;obtain⟨cd,hcd,hmro⟩:=F8 B.w.params;pv_eval;o_shape;obtain⟨a,fs,er,hfs,q0⟩:=(show supI Z V _ from q);obtain⟨ox,dd,od,oes,oep,I,_⟩:=ok.x.inst hfs;pv_eval;refine ks_wpAt_execs_cons (ks_wpAt_Expr_any ?_ (zw ok.vo) (qX rfl));refine O (arm_eval_Call ..) (PySem.wpAt_bind ?_);refine ks_wpAt_super_base hks hkc (by decide) hfu (X _ _ (zO _)) hfd har hco (X _ _ (HO _)) rfl (vs:=_) rfl (by show(pw.main.file==u "/claim/cut.py")=true;refine O a11 ?_;decide) a10 ?_;obtain⟨mg,mb,T⟩:=ok.b.T;refine ks_loadName_global ok.vo.kind hks (loadGlobal_builtin (env:=env) (O ok.vo.glob (T.g.keeps ok.x.keep)) (mg_none_of ok.b.kin T.g a5) (O ok.vo.blt (T.b.keeps ok.x.keep)) ((T.builtins (u "super") (by decide)).trans (show bootBuiltins (u "super")=some (.type "super") by decide+kernel)) ⟨rfl,?_⟩);refine wpAny_loadName_free ok.vo.kind hkc hce ⟨_,X _ _ (HN _),rfl⟩ ?_;refine O har2 (VO.self ok.vo e0 (by decide) er λv hv=>?_);obtain rfl:=hv;obtain⟨hh,g,d,t,os⟩:=s;refine ks_wpAny_isType_cls (X _ _ (r9 _)) rfl ⟨rfl,?_⟩;refine ks_wpAny_call_super (X _ _ (r9 _)) rfl I.at_ I.cls (λc e=>by have:=I.no;unfold notCls at this;rw[e]at this;exact Bool.noConfusion this) (looks_mroIn X a6) λh' e kk=>?_;have X':(Mine.K B.w.params).In h':=X.keeps kk;have hne:a≠232:=by
  rintro rfl;have e1:=I.at_;rw[X _ _ (r9 _)]at e1;have:=I.no;obtain rfl:=aP e1;exact Bool.noConfusion this
 refine wpAt_of_wpAny (ay (wpAny_standAt ?_));have hform:methodCallForm (xs.length+([]:List Keyword).length) (backTo p (starEach xs env)) (backToKw p (keywordEach [] env))=true:=by
  unfold methodCallForm;have:=Dx (env:=env) (pos:=p) hes;refine O (show backToKw p (keywordEach [] env)=[]from rfl) ?_;simp only[map_nil,all_nil,length_nil,isEmpty_nil,if_true,Bool.and_true,and_eq_true,decide_eq_true_eq];exact⟨this,by exact lt_succ_of_lt ‹_›⟩
 have hpos:methodCallPos true (.Call (.Name (u "super") p0) [] [] p1) env ap p=pure p:=by unfold methodCallPos;simp[hli]
 unfold methodCall;refine O hform (ay (wpAny_holding (ks_wpAny_getMethod_super e (looks_opaque X' a7) (λA Q E s k q=>ay ((looks_clsIn X' hcd) A _ E s k (aT q))) hmro X' a9 (X' _ _ (HT _)) rfl hne (by decide) ?_)));refine ay (wpAny_of_eq hpos ?_);have kp:∀b o,hh.get? b=some o->(h'.push {cls:=.type "method",data:=.fields #[.ref 82,.ref a]}).get? b=some o:=λb o e=>cP _ (kk b o e);have x3:St B V (⟨h'.push {cls:=.type "method",data:=.fields #[.ref 82,.ref a]},g,d,t+1,os⟩:Shared):=ok.x.pres (s':=⟨_,g,d,t+1,os⟩) (Pres.ofKeeps kp) rfl rfl;have k3:Keep V hh V (h'.push {cls:=.type "method",data:=.fields #[.ref 82,.ref a]}):=Pres.keep (s:=⟨hh,g,d,t,os⟩) (s':=⟨_,g,d,t+1,os⟩) ok.x kp;have fo:=Pres.foot (s:=⟨hh,g,d,t,os⟩) (s':=⟨_,g,d,t+1,os⟩) ok.x (Pres.ofKeeps kp);have dead:hh.get? h'.objs.size=none:=by
  induction z:hh.get? h'.objs.size with
  |none=>rfl
  |some o=>exact absurd (lt_size (kk _ _ z)) (lt_irrefl _)
 have nb:B.h0.get? h'.objs.size=none:=by
  induction z:B.h0.get? h'.objs.size with
  |none=>rfl
  |some o=>exact Om (ok.x.keep _ _ z) dead
 have nf:¬aS V (h'.push {cls:=.type "method",data:=.fields #[.ref 82,.ref a]}) h'.objs.size:=λf=>ok.x.nofoot dead ((fo _).mp f);have gq:(h'.push {cls:=.type "method",data:=.fields #[.ref 82,.ref a]}).get? h'.objs.size=some (methodObj (.ref 82) (.ref a)):=Heap.get?_push_at rfl rfl;refine FY (first:=[]) a8 gq nb nf (iE B es) hes (ok.next x3 k3) q0 λvs s₂ V2 zs x2 k2 r₂ q2 g2=>?_;refine wpAny_call (ks_codeAny_call_bound g2 (codeAny_mono (q2 A ok.R.room s₂ x2 (.ref a::vs) ⟨VR_ref.mpr rfl,r₂⟩) λz s' qz=>?_));rcases z with e|(v|_|_|_)
 .exact qz.elim
 all_goals first|exact qz.elim|skip
 obtain⟨V3,i,x₃,k₃,_,q3⟩:=qz;have kf:=k3.trans (k2.trans k₃);exact ks_wpAt_mono (k V3 s' (ok.next x₃ kf) (KeepX.of kf) q3) (λ_ _ h=>SQ.from (KeepX.of kf) h) λ_ _ e=>e
end
theorem Gd (P:Params):((sc (cS 13 0)).names.all (λx=>x.2 != .cell)&&(n_a7.take 8).all (λz=>(sc (cS 13 0)).names.lookup z==some .local))=true:=by kernel_rfl
theorem EI (hB:Base B) (h:az B n zY [some a0,some a1,some a2,some a3,some a4,some a5,some a6,some a7,none,none,none,none,none,none] (aH Q) V):
 CallOk B (n+1) 208 [a0,a1,a2,a3,a4,a5,a6,a7] V Q:=by
 intro A R s x vs r;have all:=CH B.w.params;simp only[and_eq_true]at all;o_shape;obtain⟨⟨⟨⟨⟨⟨⟨⟨⟨⟨⟨b1,b2⟩,_⟩,c3⟩,c4⟩,_⟩,_⟩,_⟩,_⟩,_⟩,_⟩,_⟩:=all;have all2:=Gd B.w.params;simp only[and_eq_true]at all2;have S:=rQ b1;have X:=hB.kin' x;obtain⟨mg,mb,T⟩:=hB.T;have hlim:s.heap.NoLimit:=T.nolimit.keeps x.keep;obtain⟨ps,dd,hp1,hp2,hp3⟩:=S.par;pv_eval;have hlen:(n_a7.take 8).length=vs.length:=by exact O r.length rfl
 have hnd:=S.nodup;have hcell:∀z∈(sc (cS 13 0)).names,z.2≠.cell:=λz m=>by
  have:=hU.mp all2.1 z m
  simpa using this
 have noc:∀z,(sc (cS 13 0)).names.lookup z≠some .cell:=λz e=>hcell _ (PySem.mem_of_lookup e) rfl;have bt:BindsTo s (cK o208) ⟨vs,[]⟩ ((n_a7.take 8).zip vs):=by
  have:=yL (fd:=cK o208) (vals:=vs) hp1 rfl (O (aE ..) (O hp3 hlen)) (O hp2 hnd);rw[hp2]at this;exact BindsTo.of_eq this
 refine ks_codeAny_call_defAt (fd:=cK o208) (body:=bd (cS 13 0)) (by have:=R.deep;show A.depth<1000;lia) (X _ _ (zO _)) rfl hlim (codeRec_of X S.code) rfl bt hcell (λz hz=>?_) (λh₁ hns kp=>?_) S.co S.gen S.kind
 .have:=hU.mp all2.2 z.1 (List.of_mem_zip hz).1;exact eq_of_beq this
 have k1:Keep V s.heap V h₁:=Pres.keep (s':={s with heap:=h₁,toks:=s.toks+((n_a7.take 8).zip vs).length}) x kp;have x1:St B V {s with heap:=h₁,toks:=s.toks+((n_a7.take 8).zip vs).length}:=x.pres (s':={s with heap:=h₁,toks:=_}) (Pres.ofKeeps kp) rfl rfl;have fo:=Pres.foot (s':={s with heap:=h₁,toks:=s.toks+((n_a7.take 8).zip vs).length}) x (Pres.ofKeeps kp);have deadL:s.heap.get? s.heap.objs.size=none:=get?_none_of_le (aY _);have nbase:B.h0.get? s.heap.objs.size=none:=by
  induction e:B.h0.get? s.heap.objs.size with
  |none=>rfl
  |some o=>exact Om (x.keep _ _ e) deadL
 have nfoot:¬aS V h₁ s.heap.objs.size:=λf=>x.nofoot deadL ((fo _).mp f);have rw1:VRs B h₁ vs [a0,a1,a2,a3,a4,a5,a6,a7]:=r.keep x k1;have kz:∀z,(callEnv (cK o208) s.heap.objs.size 208).kindOf z=(sc (cS 13 0)).names.lookup z:=λz=>rfl;have vo:VO B (callEnv (cK o208) s.heap.objs.size 208) n_a7 [some a0,some a1,some a2,some a3,some a4,some a5,some a6,some a7,none,none,none,none,none,none] V h₁:=by
  refine⟨S.kind,S.glob,S.blt,λi z hi hz=>by exact O (kz ..) (S.slot i z hi hz).1,λi j z hi hj hz=>((S.slot i z hi hz).2 j hj).symm,⟨_,hns,λi z hi hz hk=>?_⟩,λi z hi hz hk=>absurd (Ob (kz ..) hk) (noc z),λi j z y c hi hj hz hy hkz=>absurd (Ob (kz ..) hkz) (noc z),nfoot,nbase⟩;by_cases i8:i<8
  .have h1:(n_a7.take 8)[i]? =some z:=by exact O (List.getElem?_take_of_lt i8) hi
   have h2:[a0,a1,a2,a3,a4,a5,a6,a7][i]? =some [a0,a1,a2,a3,a4,a5,a6,a7][i]:=c8 i8;obtain⟨v,hv,rv⟩:=rw1.get h2;have m:(z,v)∈(n_a7.take 8).zip vs:=aF (i:=i) (by rw[List.getElem?_zip_eq_some];exact⟨h1,hv⟩);refine O (HY (O (List.map_fst_zip (le_of_eq hlen)) hnd) m) ?_;have:([some a0,some a1,some a2,some a3,some a4,some a5,some a6,some a7,none,none,none,none,none,none]:aL)[i]? =some (some [a0,a1,a2,a3,a4,a5,a6,a7][i]):=by
    show([a0,a1,a2,a3,a4,a5,a6,a7].map some++List.replicate 6 none)[i]? =_;exact O (cF i8) (O aQ (O h2 rfl))
   exact O this rv
  .have:(([some a0,some a1,some a2,some a3,some a4,some a5,some a6,some a7,none,none,none,none,none,none]:aL)[i]?).join=none:=by
    show(([a0,a1,a2,a3,a4,a5,a6,a7].map some++List.replicate 6 none)[i]?).join=none;refine O (dj (Nat.le_of_not_lt i8)) (O getElem?_replicate ?_);split<;>rfl
   refine O this ?_;rcases((n_a7.take 8).zip vs).reverse.lookup z<;>exact trivial
 have ok:Ok B n (sc (cS 13 0)) (callEnv (cK o208) s.heap.objs.size 208) n_a7 [some a0,some a1,some a2,some a3,some a4,some a5,some a6,some a7,none,none,none,none,none,none] (A.deeper (callEnv (cK o208) s.heap.objs.size 208)) V {s with heap:=h₁,toks:=s.toks+((n_a7.take 8).zip vs).length}:=
  ⟨hB,⟨λz hz=>by exact O (kz ..) hz,λz hz=>by exact O (kz ..) hz⟩,R.sub _,x1,vo⟩
 rw[Sy]at h;have fin:PySem.wpAt (model pw B.w) (A.deeper (callEnv (cK o208) s.heap.objs.size 208)) (.func (bd (cS 13 0)) (callEnv (cK o208) s.heap.objs.size 208)) (execs (bd (cS 13 0)) (callEnv (cK o208) s.heap.objs.size 208)) (SQ B (callEnv (cK o208) s.heap.objs.size 208) n_a7 V h₁ (aH Q)) aA {s with heap:=h₁,toks:=s.toks+((n_a7.take 8).zip vs).length}:=by
  generalize bd (cS 13 0)=body at b2⊢;refine U2 b2 λy1 y2 y3 p0 p1 ap xs p p4 ys hli hl hm1 hm2 hm3 hes hr=>?_;refine rh hm1 ok h λZ1 V1 s1 ok1 k1 q1=>?_;refine rh hm2 ok1 q1 λZ2 V2 s₂ ok2 k2 q2=>?_;refine rh hm3 ok2 q2 λZ3 V3 s3 ok3 k₃ q3=>?_;refine Ef (fd:=cK o208) ok3 hes hl hli rfl ?_ ?_ rfl rfl ?_ rfl ?_ q3 λV4 s4 ok4 k4 q4=>wpAt_of_wpAny (gQ B _ hr ok4 _ q4)
  .exact eq_of_beq c3
  .exact eq_of_beq c4
  .exact rfl
  .obtain⟨ar,e1,e2⟩:∃ar,ps.head?=some ar/\ar.arg=u "self":=by
    induction ps with
    |nil=>cases hp3
    |cons ar l=>exact⟨ar,rfl,by have:=be List.head? hp2;exact aP this⟩
   refine⟨ar,?_,e2⟩;have:=be (λp:Arguments=>(p.posonlyargs++p.args).head?) hp1;exact this.trans e1
 refine ks_wpAt_mono fin (λfl s₂ h₂=>?_) λ_ _ e=>e.elim;obtain⟨V2,Z2,x2,vo2,k2,q2⟩:=h₂;have own_dead:∀b,bN (callEnv (cK o208) s.heap.objs.size 208) n_a7 b->s.heap.get? b=none:=λb hb=>by
  rcases hb with rfl|⟨i,z,hi,hz,hk,hc⟩
  .exact deadL
  .exact absurd (Ob (kz ..) hk) (noc z)
 have kf:Keep V s.heap V2 s₂.heap:=by
  have kx:=(KeepX.of (own:=bN (callEnv (cK o208) s.heap.objs.size 208) n_a7) k1).trans k2;refine⟨λb o e nf=>kx.old b o e nf λow=>?_,λb f=>?_⟩
  .exact On (own_dead b ow) e
  .rcases kx.grow b f with f|f|f
   .exact .inl f
   .exact .inr f
   .exact .inr (own_dead b f)
 induction fl with
 |next=>exact⟨V2,.none,x2,kf,VR_none.mpr rfl,q2⟩
 |brk=>exact q2.elim
 |cont=>exact q2.elim
 |ret v=>obtain⟨i,ri,q2⟩:=q2;exact⟨V2,i,x2,kf,ri,q2⟩
end
noncomputable def DC (na la ea ba da nu g ro go ca se:Addr):List (Nat×IV):=[(52,.ref na),(81,.int 5),(41,.ref la),(43,.ref ea),(9,.ref ba),(17,.ref da),(57,.ref nu),(31,.ref g),(67,.ref ro),(30,.ref go),(15,.ref ca),(73,.ref se),(50,.str (u "lalr"))]
section
variable{B:Bs} (hB:Base B) {n:Nat} {V:IH} {Q:QE} {G:GG} {g:Addr} {A:GA} (h:GrAt V G g A)
include hB h
theorem Tk (q:∀tb na la ea ba nu V',Ext V V'->V' tb=some (.inst 232 (DC na la ea ba da nu g ro go ca se))->V' la=some (.list (nl ((List.range 5).map (ah G))))->V' ea=some (.list (nl ((List.range 5).map λr=>(ae G r).length)))->Q (.ref tb) V'):
 CallOk B (n+3) 232 [.ref g,.ref ro,.ref go,.ref da,.ref ca,.ref se,.str (u "lalr")] V Q:=by
 refine fq hB (init:=208) (by decide) λtb htb=>?_;refine EI hB ?_;have h1:=(H.nil (V:=V)).new (.inst 232 []) htb;generalize upd V tb (.inst 232 [])=V1 at h1⊢;w_fin;refine ag (h.mono h1.ext).obj rfl<|bw (h.mono h1.ext).rules ?_;refine fT 5 ((aE _).trans h.rlen) (λi=>nl ((List.range i).map (ah G))) rfl (h.mono h1.ext).rules (λi y hy K ks _=>?_) λla hla=>?_
 .refine(h.mono h1.ext).ruleAt hy λa i5 ha=>?_;refine ag ha rfl (ks _ ?_);exact O (dB ..) (O range_succ (O bW rfl))
 have h2:=h1.new (.list (nl ((List.range 5).map (ah G)))) hla;generalize upd V1 la (.list (nl ((List.range 5).map (ah G))))=V2 at h2⊢;clear h1 hla;w_fin;refine ag (h.mono h2.ext).obj rfl<|bw (h.mono h2.ext).rules ?_;refine fT 5 ((aE _).trans h.rlen) (λi=>nl ((List.range i).map λr=>(ae G r).length)) rfl (h.mono h2.ext).rules (λi y hy K ks _=>?_) λea hea=>?_
 .refine(h.mono h2.ext).ruleAt hy λa i5 ha=>?_;refine ag ha rfl<|fw (ks _ ?_);exact O (aE ..) (O (dB ..) (O range_succ (O bW rfl)))
 have h3:=h2.new (.list (nl ((List.range 5).map λr=>(ae G r).length))) hea;generalize upd V2 ea (.list (nl ((List.range 5).map λr=>(ae G r).length)))=V3 at h3⊢;clear h2 hea;w_fin;refine ag (h.mono h3.ext).obj rfl<|bw (h.mono h3.ext).rules ?_;refine fT 5 ((aE _).trans h.rlen) (λi=>List.replicate i (.int 0)) rfl (h.mono h3.ext).rules (λi y hy K ks _=>?_) λba hba=>?_
 .refine(h.mono h3.ext).ruleAt hy λa i5 ha=>?_;exact ag ha rfl (ks _ List.replicate_succ')
 have h4:=h3.new (.list (List.replicate 5 (.int 0))) hba;generalize upd V3 ba (.list (List.replicate 5 (.int 0)))=V4 at h4⊢;clear h3 hba;have h5:=h4.perm (dc (l₁:=[(ba,IO.list (List.replicate 5 (.int 0))),(ea,IO.list (nl ((List.range 5).map λr=>(ae G r).length))),(la,IO.list (nl ((List.range 5).map (ah G))))]) (l₂:=[(tb,IO.inst 232 [])]));clear h4;w_fin;refine⟨_,_,rfl,h5.get 0 rfl,?_⟩;refine ag (h.mono h5.ext).obj rfl<|ag (h.mono h5.ext).obj rfl<|Tn hB h5 (h.mono h5.ext).names λd0 V5 h6=>?_;obtain⟨nu,h6⟩:=h6;clear h5;w_fin;refine cX h6 rfl (by decide) (aG rfl) λV6 h7=>?_;clear h6;w_fin;refine cX h7 rfl (by decide) (aG rfl) λV7 h8=>?_;clear h7;w_fin;refine cX h8 rfl (by decide) (aG rfl) λV8 h9=>?_;clear h8;w_fin;refine Gz h9 (by decide) (aG rfl) λV9 h10=>?_;clear h9;w_fin;refine cX h10 rfl (by decide) (aG rfl) λV10 h11=>?_;clear h10;w_fin;refine cX h11 rfl (by decide) (aG rfl) λV11 h12=>?_;clear h11;w_fin;refine cp (h12.get 0 rfl) (by decide) (aG rfl) ?_;have h13:=h12.put 0 (o':=.inst 232 [(52,.ref A.an),(81,.int 5),(41,.ref la),(43,.ref ea),(9,.ref ba),(17,.ref da),(57,.ref nu),(31,.ref g),(67,.ref ro),(30,.ref go),(15,.ref ca),(73,.ref se),(50,.str (u "lalr"))]) rfl;exact⟨rfl,q tb A.an la ea ba nu _ h13.ext (h13.get 0 rfl) (h13.get 3 rfl) (h13.get 2 rfl)⟩
end
def RowFin (mv:List (Nat×Nat)) (rd:List Nat) (mf:Nat->Nat) (row:List Int) (d:Nat):Prop:=
 ∃row0,RowOk mv rd mf row0/\(d=0\/∃t:Nat,row0[t]? =some (-(d:Int)))/\row=if d=0 then row0 else gy row0 d
inductive TabO (V:IH) (tb:Addr) (G:GG) (S:List SG) (rws:List (List Int)) (dfl:List Nat) (clean:Prop):Prop
 |mk (na la ea ba da:Addr) (nu:Nat) (g ro go ca se:Addr) (h1:V tb=some (.inst 232 (DC na la ea ba da nu g ro go ca se))) (h2:V la=some (.list (nl ((List.range 5).map (ah G))))) (h3:V ea=some (.list (nl ((List.range 5).map λr=>(ae G r).length))))
  (h4:V da=some (.list (nl dfl))) (h5:E1 λrus:List Addr=>A3 (V ro=some (.list (rus.map IV.ref))) (rus.length=S.length) (∀(s:Nat) row,rws[s]? =some row->E1 λa=>A2 (rus[s]? =some a) (V a=some (.list (il row)))))
  (h6:E1 λgus:List Addr=>A3 (V go=some (.list (gus.map IV.ref))) (gus.length=S.length) (∀(s:Nat) st,S[s]? =some st->E2 λa ep=>A2 (gus[s]? =some a) (V a=some (.idict (bj (cy st.mv)) ep))))
  (h7:E1 λcl:List Addr=>A2 (V ca=some (.list (cl.map IV.ref))) (cl=[]↔clean)):TabO V tb G S rws dfl clean
structure TabAt (V:IH) (tb:Addr) (G:GG) (S:List SG) (mf:Nat->Nat->Nat) (rws:List (List Int)) (dfl:List Nat) (clean:Prop):Prop where
 obj:TabO V tb G S rws dfl clean
 rl:rws.length=S.length
 dl:dfl.length=S.length
 fin:∀(s:Nat) st row d,S[s]? =some st->rws[s]? =some row->dfl[s]? =some d->RowFin st.mv st.rd (mf s) row d
 cl:clean->∀(s:Nat) st,S[s]? =some st->∀t,t<5->fG st.mv st.rd (mf s) t
theorem TabAt.mono {S:List SG} {mf:Nat->Nat->Nat} {clean:Prop} (h:TabAt V tb G S mf rws dfl clean) (e:Ext V V'):TabAt V' tb G S mf rws dfl clean:=by
 o_shape;obtain⟨na,la,ea,ba,da,nu,g,ro,go,ca,se,h1,h2,h3,h4,⟨rus,h5,h6,h7⟩,⟨gus,h8,h9,h10⟩,cl,h11,h12⟩:=h.obj;pv_eval;exact⟨⟨na,la,ea,ba,da,nu,g,ro,go,ca,se,e _ _ h1,e _ _ h2,e _ _ h3,e _ _ h4,⟨rus,e _ _ h5,h6,λs row z=>by obtain⟨a,b,c⟩:=h7 s row z;exact⟨a,b,e _ _ c⟩⟩,⟨gus,e _ _ h8,h9,λs st z=>by obtain⟨a,ep,b,c⟩:=h10 s st z;exact⟨a,ep,b,e _ _ c⟩⟩,cl,e _ _ h11,h12⟩,h.rl,h.dl,h.fin,h.cl⟩
def yx (V:IH) (S:List SG) (mf:Nat->Nat->Nat) (a0 a1 a2:IV) (ro go da ca se:Addr) (i:Nat) (Z:aL) (V':IH):Prop:=E6 λrus gus rws dfl cl rl=>E4 λo9 o10 o11 o12=>A8
 (Z=[some a0,some a1,some a2,some (.str (u "lalr")),some (.ref ro),some (.ref go),some (.ref da),some (.ref ca),some (.ref se),o9,o10,o11,o12])
 (List.length rus=i/\List.length gus=i/\List.length rws=i/\List.length dfl=i/\List.length cl<=50*i)
 (∀(s:Nat) row,rws[s]? =some row->∃a,rus[s]? =some a/\(a,IO.list (il row))∈rl)
 (∀(s:Nat) st,s<i->S[s]? =some st->∃a ep,gus[s]? =some a/\(a,IO.idict (bj (cy st.mv)) ep)∈rl)
 (∀(s:Nat) st row d,S[s]? =some st->rws[s]? =some row->dfl[s]? =some d->RowFin st.mv st.rd (mf s) row d)
 (cl=[]->∀(s:Nat) st,s<i->S[s]? =some st->∀t,t<5->fG st.mv st.rd (mf s) t) True<|
 H V V' ([(se,.list []),(ca,.list (cl.map IV.ref)),(da,.list (nl dfl)),(go,.list (gus.map IV.ref)),(ro,.list (rus.map IV.ref))]++rl)
theorem jj {α:Type} {l:List α} {x y:α} {i:Nat} (e:(l++[x])[i]? =some y):l[i]? =some y\/(i=l.length/\y=x):=by
 rcases lt_or_ge i l.length with z|z
 .exact .inl (Oe (cF z) e)
 .replace e:=Oe (dj z) e
  have:=av e;simp only[length_cons,length_nil]at this;have i0:i -l.length=0:=by lia
  rw[i0]at e;exact .inr ⟨by exact Nat.le_antisymm (Nat.sub_eq_zero_iff_le.1 (lt_one_iff.1 ‹_›)) ‹_›,by exact aP e.symm⟩
section
variable{B:Bs} (hB:Base B) {n:Nat} {V:IH} {Q:QE} {G:GG} {g:Addr} {A:GA} {au sl:Addr} {S:List SG} (h:GrAt V G g A) (ha:AutAt V G g au sl S)
include hB h ha
theorem TA {m:Addr} {mf:Nat->Nat->Nat} {wd:Bool} (hm:MasksAt V m S mf)
 (q:∀tb rws dfl clean V',Ext V V'->TabAt V' tb G S mf rws dfl clean->Q (.ref tb) V'):CallOk B (n+5) 308 [.ref au,.ref m,.bool wd] V Q:=by
 refine ES hB ?_;have Sl:=ha.ok.len h.good;obtain⟨kvs,mep,hm1,hm2⟩:=hm.obj;w_fin;refine⟨by decide,λro hro=>?_⟩;have h1:=(H.nil (V:=V)).new (.list (([]:List Addr).map IV.ref)) hro;refine O (show upd V ro (.list [])=upd V ro (.list (([]:List Addr).map IV.ref))from rfl) ?_;generalize upd V ro (.list (([]:List Addr).map IV.ref))=V1 at h1⊢;w_fin;refine⟨by decide,λgo hgo=>?_⟩;have h2:=h1.new (.list (([]:List Addr).map IV.ref)) hgo;refine O (show upd V1 go (.list [])=upd V1 go (.list (([]:List Addr).map IV.ref))from rfl) ?_;generalize upd V1 go (.list (([]:List Addr).map IV.ref))=V2 at h2⊢;w_fin;refine⟨by decide,λda hda=>?_⟩;have h3:=h2.new (.list (nl [])) hda;refine O (show upd V2 da (.list [])=upd V2 da (.list (nl []))from rfl) ?_;generalize upd V2 da (.list (nl []))=V3 at h3⊢;w_fin;refine⟨by decide,λca hca=>?_⟩;have h4:=h3.new (.list (([]:List Addr).map IV.ref)) hca;refine O (show upd V3 ca (.list [])=upd V3 ca (.list (([]:List Addr).map IV.ref))from rfl) ?_;generalize upd V3 ca (.list (([]:List Addr).map IV.ref))=V4 at h4⊢;w_fin;refine⟨by decide,λse hse=>?_⟩;have h5:=h4.new (.list []) hse;generalize upd V4 se (.list [])=V5 at h5⊢;clear h1 h2 h3 h4 hro hgo hda hca hse;w_fin;refine ag (ha.mono h5.ext).obj rfl<|bw (ha.mono h5.ext).lst ?_;refine aU (yx V S mf (.ref au) (.ref m) (.bool wd) ro go da ca se) ⟨[],[],[],[],[],[],none,none,none,none,rfl,⟨rfl,rfl,rfl,rfl,aY _⟩,λs row e=>(bv e),λs st l=>(absurd ‹_› (not_lt_zero _)),λs st row d _ e=>(bv e),λ_ s st l=>(absurd ‹_› (not_lt_zero _)),trivial,by exact O (append_nil ..) h5⟩ ?_ ?_
 .clear h5;rintro i Z V' y Fk hFk hy ⟨rus,gus,rws,dfl,cl,rl,o9,o10,o11,o12,rfl,⟨l1,l2,l3,l4,l5⟩,hR,hGo,hF,hC,_,hh⟩;refine⟨(ha.mono hh.ext).lst,?_⟩;have ilt:=av hy;rw[length_map,length_map]at ilt;refine bg ilt λs hs=>?_;obtain rfl:=Os (ha.sref hs) hy;have ex:=ha.ok.ex i s hs;have mvl:=(ha.ok.keys8 hs).2;have rdl:=xV ha.ok hs;have r5:∀r∈s.rd,r<5:=λr m=>((ex.rd r).1 m).2.1;have aa:=ha.mono hh.ext;have gr:=h.mono hh.ext;w_fin;refine ag aa.obj rfl<|Tm hB (mf:=mf i) gr (aa.st i s hs).1 (aa.st i s hs).2.2.1 (aa.st i s hs).2.2.2 ex.mnd mvl rdl (hh.ext _ _ hm1) (λr mr=>hm2 i s r hs mr) λrm sh gd lk st us epg V1 hrm rm1=>?_;have h2:=hh.join hrm;have gr1:=h.mono h2.ext;w_fin;refine bk rm1.obj rfl<|TV hB gr1 rm1 ex.mnd r5 (λr=>hm.lt i r) λV2 e2=>?_;have h3:=h2.call e2;have rm2:=rm1.mono e2;clear h2 hrm rm1 gr1 hh;w_fin;refine bk rm2.obj rfl<|TT hB (h.mono h3.ext) rm2 ex.mnd (λr=>hm.lt i r) λrow ra V3 e3 rok f3 g3=>?_;have h4:=h3.got e3 f3 g3;have rm3:=rm2.mono e3;clear h3 rm2 e3 f3;w_fin;refine⟨bz (h4.get 5 rfl),bk rm3.obj rfl<|Tu hB (h.mono h4.ext) rm3 g3 rok.len rdl (λr=>hm.lt i r) λfl fa V4 e4 fll ffl f4 g4=>?_⟩;have h5:=h4.got e4 f4 g4;refine rJ (h5.get 6 rfl) g4 (by refine O (aE ..) (O (aE ..) ?_);lia) ?_;refine Ob bW ?_;have h6:=(h5.put 6 (o':=.list ((cl++fl).map IV.ref)) rfl).drop;generalize upd V4 ca (.list ((cl++fl).map IV.ref))=V5 at h6⊢;clear h4 h5 rm3 e4 f4 g3 g4;w_fin;refine⟨bz (h6.get 4 rfl),ag (h6.get 3 rfl) rfl<|rJ (h6.get 4 rfl) (h6.get 1 rfl) (by decide) ?_⟩;have h7:=h6.put 4 (o':=.list ([]++[])) rfl;generalize upd V5 se (.list ([]++[]))=V6 at h7⊢;clear h6;have ncl:cl++fl=[]->∀(s':Nat) st,s'<i+1->S[s']? =some st->∀t,t<5->fG st.mv st.rd (mf s') t:=λe s' st l e2=>by
   rw[append_eq_nil_iff]at e;by_cases z:s'=i
   .obtain rfl:=z.symm;obtain rfl:=Os hs e2;exact ffl e.2
   .exact hC e.1 s' st (by lia) e2
  have fin:∀(K:Kn) (row':List Int) (ra':Addr) (d:Nat) (V7:IH),RowFin s.mv s.rd (mf i) row' d->
   H V V7 [(ra',.list (il row')),(gd,.idict (bj (cy s.mv)) epg),(rm,.inst 284 [(31,.ref g),(54,.int (i:Nat)),(74,.ref sh),(30,.ref gd),(48,.ref lk),(7,.int 0),(73,.ref st)]),(se,.list []),(ca,.list ((cl++fl).map IV.ref)),(da,.list (nl dfl)),(go,.list (gus.map IV.ref)),(ro,.list (rus.map IV.ref))]/\
   H V V7 ((ra',.list (il row'))::(gd,.idict (bj (cy s.mv)) epg)::(rm,.inst 284 [(31,.ref g),(54,.int (i:Nat)),(74,.ref sh),(30,.ref gd),(48,.ref lk),(7,.int 0),(73,.ref st)])::([(se,.list []),(ca,.list ((cl++fl).map IV.ref)),(da,.list (nl dfl)),(go,.list (gus.map IV.ref)),(ro,.list (rus.map IV.ref))]++rl))->
   (∀Z s,yx V S mf (.ref au) (.ref m) (.bool wd) ro go da ca se (i+1) Z s->K.nx Z s)->
   az B (n+4) Ae [some (.ref au),some (.ref m),some (.bool wd),some (.str (u "lalr")),some (.ref ro),some (.ref go),some (.ref da),some (.ref ca),some (.ref se),some (.ref s.sa),some (.ref rm),some (.ref ra'),some (.int (d:Nat))] K V7:=by
   intro K row' ra' d V7 hrf hh2 hK;obtain⟨_,h8⟩:=hh2;w_fin;refine⟨bz (h8.get 7 rfl),bZ (h8.get 7 rfl) (by refine O (aE ..) ?_;lia) ?_⟩;have h9:=h8.put 7 (o':=.list (rus.map IV.ref++[.ref ra'])) rfl;generalize upd V7 ro (.list (rus.map IV.ref++[.ref ra']))=V8 at h9⊢;clear h8;w_fin;refine⟨bz (h9.get 6 rfl),ag (h9.get 2 rfl) rfl<|bZ (h9.get 6 rfl) (by refine O (aE ..) ?_;lia) ?_⟩;have h10:=h9.put 6 (o':=.list (gus.map IV.ref++[.ref gd])) rfl;generalize upd V8 go (.list (gus.map IV.ref++[.ref gd]))=V9 at h10⊢;clear h9;w_fin;refine⟨bz (h10.get 5 rfl),dY (h10.get 5 rfl) (by lia) ?_⟩;have h11:=h10.put 5 (o':=.list (nl (dfl++[d]))) rfl;generalize upd V9 da (.list (nl (dfl++[d])))=V10 at h11⊢;clear h10;refine hK _ _ ⟨rus++[ra'],gus++[gd],rws++[row'],dfl++[d],cl++fl,rl++[(ra',.list (il row')),(gd,.idict (bj (cy s.mv)) epg)],_,_,_,_,rfl,⟨by simp[l1],by simp[l2],by simp[l3],by simp[l4],by refine O bT ?_;lia⟩,λs' r' e=>?_,λs' st' l e=>?_,λs' st' r' d' e e2 e3=>?_,ncl,trivial,?_⟩
   .rcases jj e with e|⟨rfl,eQ⟩
    .obtain⟨a,ha1,ha2⟩:=hR s' r' e;exact⟨a,by exact O (cF (av ha1)) ha1,bM _ ha2⟩
    .obtain rfl:=eQ.symm;exact⟨ra',by refine O (dj (by lia)) ?_;simp[l1,l3],by exact dA _ bJ⟩
   .by_cases z:s'=i
    .obtain rfl:=z.symm;obtain rfl:=Os hs e;exact⟨gd,epg,by refine O (dj (le_of_eq ‹_›)) ?_;simp[l2],by simp⟩
    .obtain⟨a,ep,ha1,ha2⟩:=hGo s' st' (by lia) e;exact⟨a,ep,by exact O (cF (av ha1)) ha1,bM _ ha2⟩
   .rcases jj e2 with e2|⟨z,eQ⟩
    .rcases jj e3 with e3|⟨z,_⟩
     .exact hF s' st' r' d' e e2 e3
     .have:=av e2;lia
    .obtain rfl:=eQ.symm;rcases jj e3 with e3|⟨_,eQ⟩
     .have:=av e3;lia
     .obtain rfl:=eQ.symm;rw[z,l3,hs]at e;obtain rfl:=aP e;exact O z (O l3 hrf)
   .have e0:rus.map IV.ref++[.ref ra']=(rus++[ra']).map IV.ref:=by exact Eq.symm bW
    have e1:gus.map IV.ref++[.ref gd]=(gus++[gd]).map IV.ref:=by exact Eq.symm bW
    rw[e0,e1]at h11;have h12:H V V10 ([(ra',IO.list (il row')),(gd,.idict (bj (cy s.mv)) epg)]++([(se,.list []),(ca,.list ((cl++fl).map IV.ref)),(da,.list (nl (dfl++[d]))),(go,.list ((gus++[gd]).map IV.ref)),(ro,.list ((rus++[ra']).map IV.ref))]++rl)):=h11.sub (.cons_cons _ (.cons_cons _ (.cons _ (.refl _))));refine h12.perm ?_;rw[<-append_assoc _ rl];exact dc
  have drop3:∀{X:Addr×IO} {row':List Int} {ra':Addr} {V7:IH},H V V7 ((ra',.list (il row'))::(st,.list [])::(gd,.idict (bj (cy s.mv)) epg)::(rm,.inst 284 [(31,.ref g),(54,.int (i:Nat)),(74,.ref sh),(30,.ref gd),(48,.ref lk),(7,.int 0),(73,.ref st)])::([(se,.list []),(ca,.list ((cl++fl).map IV.ref)),(da,.list (nl dfl)),(go,.list (gus.map IV.ref)),(ro,.list (rus.map IV.ref))]++rl))->
   H V V7 [(ra',.list (il row')),(gd,.idict (bj (cy s.mv)) epg),(rm,.inst 284 [(31,.ref g),(54,.int (i:Nat)),(74,.ref sh),(30,.ref gd),(48,.ref lk),(7,.int 0),(73,.ref st)]),(se,.list []),(ca,.list ((cl++fl).map IV.ref)),(da,.list (nl dfl)),(go,.list (gus.map IV.ref)),(ro,.list (rus.map IV.ref))]/\
   H V V7 ((ra',.list (il row'))::(gd,.idict (bj (cy s.mv)) epg)::(rm,.inst 284 [(31,.ref g),(54,.int (i:Nat)),(74,.ref sh),(30,.ref gd),(48,.ref lk),(7,.int 0),(73,.ref st)])::([(se,.list []),(ca,.list ((cl++fl).map IV.ref)),(da,.list (nl dfl)),(go,.list (gus.map IV.ref)),(ro,.list (rus.map IV.ref))]++rl)):=λ{X row' ra' V7} hh=>by
   have h8:=hh.sub (.cons_cons _ (.cons _ (.refl _)));refine⟨h8.sub ?_,h8⟩;exact .cons_cons _ (.cons_cons _ (.cons_cons _ (sublist_append_left _ _)))
  have h8:H V V6 ((ra,.list (il row))::(st,.list [])::(gd,.idict (bj (cy s.mv)) epg)::(rm,.inst 284 [(31,.ref g),(54,.int (i:Nat)),(74,.ref sh),(30,.ref gd),(48,.ref lk),(7,.int 0),(73,.ref st)])::([(se,.list []),(ca,.list ((cl++fl).map IV.ref)),(da,.list (nl dfl)),(go,.list (gus.map IV.ref)),(ro,.list (rus.map IV.ref))]++rl)):=h7;clear h7;w_fin;w_fin;refine cQ<|b9 (λc=>?_) (λc=>?_)
  .w_fin;refine Tv hB (h8.get 0 rfl) rok.len λd V7 e7 hd=>?_;have h9:=h8.call e7;w_fin;refine fn<|aO (λc2=>?_) (λc2=>?_)
   .w_fin;refine T0 hB (h9.get 0 rfl) λrp V8 e8 f8 g8=>?_;have h10:=(h9.got e8 f8 g8).sub (l':=(rp,_)::(st,_)::(gd,_)::(rm,_)::([(se,_),(ca,_),(da,_),(go,_),(ro,_)]++rl)) (.cons_cons _ (.cons _ (.refl _)));exact fin _ _ rp d V8 ⟨row,rok,hd,by exact O (ai (by lia)) rfl⟩ (drop3 (X:=(rp,.list [])) h10) hFk
   .have d0:d=0:=by lia
    subst d0;exact fin _ row ra 0 V7 ⟨row,rok,.inl rfl,rfl⟩ (drop3 (X:=(ra,.list [])) h9) hFk
  .w_fin;refine fn<|aO (λc2=>absurd rfl c2) (λc2=>?_);exact fin _ row ra 0 V6 ⟨row,rok,.inl rfl,rfl⟩ (drop3 (X:=(ra,.list [])) h8) hFk
 .clear h5;rintro Z V' ⟨rus,gus,rws,dfl,cl,rl,o9,o10,o11,o12,eQ,⟨l1,l2,l3,l4,l5⟩,hR,hGo,hF,hC,_,hh⟩;obtain rfl:=eQ.symm;rw[length_map,length_map]at l1 l2 l3 l4 hGo hC;refine⟨(ha.mono hh.ext).lst,?_⟩;w_fin;refine ag (ha.mono hh.ext).obj rfl<|Tk hB (h.mono hh.ext) λtb na la ea ba nu V2 e2 g1 g2 g3=>?_;have h2:=hh.call e2;have inrl:∀{a:Addr} {o:IO},(a,o)∈rl->V2 a=some o:=λm=>(h2.at_ (_,_) (dA _ m)).2;refine q tb rws dfl (cl=[]) V2 h2.ext ⟨⟨na,la,ea,ba,da,nu,g,ro,go,ca,se,g1,g2,g3,h2.get 2 rfl,⟨rus,h2.get 4 rfl,l1,λs row e=>by obtain⟨a,b,c⟩:=hR s row e;exact⟨a,b,inrl c⟩⟩,⟨gus,h2.get 3 rfl,l2,λs st e=>by obtain⟨a,ep,b,c⟩:=hGo s st (av e) e;exact⟨a,ep,b,inrl c⟩⟩,cl,h2.get 1 rfl,Iff.rfl⟩,l3,l4,hF,λc s st e=>hC c s st (av e) e⟩
end
noncomputable def dM (rws:List (List Int)) (dfl:List Nat) (s t:Nat):Int:=
 if((rws[s]?.getD [])[t]?).getD 0=0 then -((dfl[s]?.getD 0:Nat):Int)else((rws[s]?.getD [])[t]?).getD 0
open Classical in
noncomputable def eR (S:List SG) (s X:Nat):Int:=if h:∃j,GT S s X j then((Classical.choose h:Nat):Int)else -1
theorem jk {S:List SG} (ok:AutOk G S) (t:GT S s X j):eR S s X=(j:Nat):=by
 have h:∃j,GT S s X j:=⟨j,t⟩;rw[eR];exact O (dif_pos h) (O (GT.fun ok (Classical.choose_spec h) t) rfl)
theorem GX {S:List SG} (t:∀j,¬GT S s X j):eR S s X= -1:=by
 rw[eR];exact O (dif_neg λzq=>by obtain⟨j,h⟩:=zq;exact t j h) rfl
theorem rT {S:List SG} (ok:AutOk G S) (s X:Nat):(∃j,GT S s X j/\eR S s X=(j:Nat))\/((∀j,¬GT S s X j)/\eR S s X= -1):=by
 by_cases h:∃j,GT S s X j
 .obtain⟨j,t⟩:=h;exact .inl ⟨j,t,jk ok t⟩
 .exact .inr ⟨λj t=>h ⟨j,t⟩,GX λj t=>h ⟨j,t⟩⟩
theorem GT.pos {S:List SG} (ok:AutOk G S) (t:GT S s X j):0<j:=by
 rcases dH j with rfl|z
 .obtain⟨st,e,m⟩:=t;obtain⟨_,K,eK,hK⟩:=(ok.ex s st e).mt X 0 m;obtain⟨s0,e0,k0⟩:=ok.k0;rw[getElem?_map,e0]at eK;have eK:s0.kern=K:=aP eK;obtain⟨r,d,_,_,_,c⟩:=(hK 0).1 (by refine Ob eK (O k0 ?_);simp);simp only[code]at c;lia
 .exact z
structure TblOk (G:GG) (S:List SG) (mf:Nat->Nat->Nat) (act:Nat->Nat->Int) (clean:Prop):Prop where
 sh:∀s t j,t<5->GT S s t j->act s t=ds t j
 rd:∀s t,s<S.length->t<5->(∀j,¬GT S s t j)->act s t=0\/∃r,0<r/\r<5/\In G S s r (ae G r).length/\act s t= -(r:Int)
 cl:clean->∀s t r,t<5->0<r->r<5->In G S s r (ae G r).length->(mf s r).testBit t=true->act s t= -(r:Int)
theorem gR (h:0<j):0<ds t j:=by unfold ds;split<;>lia
theorem DP {d t:Nat} (e:row0[t]? =some v):(if d=0 then row0 else gy row0 d)[t]? =some (if d≠0/\v= -(d:Int)then 0 else v):=by
 by_cases c:d=0
 .exact O (ax c) (O (ai (λz=>z.1 c)) e)
 .refine O (ai c) ?_;rw[gy];refine O aQ (O e ?_);simp only[map_some,ne_eq,c,not_false_eq_true,true_and]
section
variable{mv:List (Nat×Nat)} {rd:List Nat} {mf:Nat->Nat} {row:List Int} {d t:Nat}
theorem RowFin.val (h:RowFin mv rd mf row d) (pj:∀X j,(X,j)∈mv->0<j) (pr:∀r∈rd,0<r/\r<5) (l:t<5):
 E1 λv=>A5 (row[t]? =some v) (v≠ -1048576) (d<5) ((∃j,(t,j)∈mv/\(if v=0 then -(d:Int)else v)=ds t j)\/((∀j,(t,j)∉mv)/\((if v=0 then -(d:Int)else v)=0\/∃r∈rd,(if v=0 then -(d:Int)else v)= -(r:Int))))
  (fG mv rd mf t->∀r∈rd,(mf r).testBit t=true->(if v=0 then -(d:Int)else v)= -(r:Int)):=by
 o_shape;obtain⟨row0,ok,hd,rfl⟩:=h;have dd:d=0\/d∈rd:=by
  rcases hd with z|⟨t0,z⟩
  .exact .inl z
  .obtain⟨v,e,c⟩:=ok.at_ t0 (by have:=av z;rw[ok.len]at this;exact this);obtain rfl:=Os z e;rcases c with⟨j,m,e⟩|⟨_,⟨r,m,_,e⟩|⟨_,e⟩⟩
   .have:=gR (t:=t0) (pj _ _ m);lia
   .have:d=r:=by lia
    exact .inr (this▸m)
   .exact .inl (by lia)
 have d5:d<5:=dd.elim (λz=>by lia) λm=>(pr d m).2;obtain⟨v,e,c⟩:=ok.at_ t l;pv_eval;rcases c with⟨j,m,rfl⟩|⟨nm,c⟩
 .have p:=gR (t:=t) (pj _ _ m);refine⟨ds t j,(DP e).trans (be some (ai λz=>by lia)),by lia,d5,.inl ⟨j,m,ai (by lia)⟩,λnc r mr b=>?_⟩;exact absurd m (nc.2 (List.ne_nil_of_mem (mem_filter.2 ⟨mr,b⟩)) j)
 .have key:(if(if d≠0/\v= -(d:Int)then(0:Int)else v)=0 then -(d:Int)else(if d≠0/\v= -(d:Int)then 0 else v))=if v=0 then -(d:Int)else v:=by
   by_cases z:d≠0/\v= -(d:Int)
   .refine O (ax z) (O (ax rfl) (O (ai (by lia)) ?_));lia
   .exact O (ai z) rfl
  have vb:v≠ -1048576:=by
   rcases c with⟨r,m,_,e⟩|⟨_,e⟩
   .have:=pr r m;lia
   .lia
  refine⟨_,DP e,by split<;>lia,d5,.inr ⟨nm,?_⟩,λnc r mr b=>?_⟩
  .refine O key ?_;rcases c with⟨r,m,_,e⟩|⟨_,e⟩
   .have:=pr r m;exact O (ai (by lia)) (.inr ⟨r,m,e⟩)
   .exact O (ax e) (dd.elim (λz=>.inl (by lia)) λm=>.inr ⟨d,m,rfl⟩)
  .refine O key ?_;rcases c with⟨r',m,b',e⟩|⟨z,e⟩
   .have:=pr r' m;refine O (ai (by lia)) (O e ?_);have f1:r∈rd.filter λr=>(mf r).testBit t:=mem_filter.2 ⟨mr,b⟩;have f2:r'∈rd.filter λr=>(mf r).testBit t:=mem_filter.2 ⟨m,b'⟩;have ln:=nc.1;generalize rd.filter (λr=>(mf r).testBit t)=L at f1 f2 ln;rcases L with _|⟨x,_|⟨y,L⟩⟩
    .exact nomatch f1
    .exact O (VX.1 f1) (O (VX.1 f2) rfl)
    .exact absurd ln (by simp)
   .exact(bE (Oe (z r mr) b)).elim
end
section
variable{V:IH} {tb:Addr} {G:GG} {S:List SG} {mf:Nat->Nat->Nat} {rws:List (List Int)} {dfl:List Nat} {clean:Prop} (h:TabAt V tb G S mf rws dfl clean) (ok:AutOk G S)
include h ok
theorem TabAt.val {s t:Nat} (ls:s<S.length) (l:t<5):E4 λst row v d=>A9 (S[s]? =some st) (rws[s]? =some row) (row[t]? =some v) (dfl[s]? =some d) (dM rws dfl s t=(if v=0 then -(d:Int)else v)) (v≠ -1048576) (d<5)
 ((∃j,GT S s t j/\dM rws dfl s t=ds t j)\/((∀j,¬GT S s t j)/\(dM rws dfl s t=0\/∃r∈st.rd,dM rws dfl s t= -(r:Int)))) (clean->∀r∈st.rd,(mf s r).testBit t=true->dM rws dfl s t= -(r:Int)):=by
 o_shape;refine bg ls λst e=>?_;refine bg (l:=rws) (i:=s) (O h.rl ls) λrow e2=>?_;refine bg (l:=dfl) (i:=s) (O h.dl ls) λd e3=>?_;obtain⟨v,e4,vb,d5,c,cc⟩:=(h.fin s st row d e e2 e3).val (t:=t) (λX j m=>GT.pos ok ⟨st,e,m⟩) (λr m=>by have:=((ok.ex s st e).rd r).1 m;lia) l;pv_eval;have ea:dM rws dfl s t=(if v=0 then -(d:Int)else v):=by
  unfold dM;refine O e2 ?_;rw[getD_some];exact O e4 (O e3 rfl)
 refine⟨st,row,v,d,e,e2,e4,e3,ea,vb,d5,?_,λcl r m b=>?_⟩
 .refine O ea ?_;rcases c with⟨j,m,z⟩|⟨m,z⟩
  .exact .inl ⟨j,⟨st,e,m⟩,z⟩
  .exact .inr ⟨λj zq=>by obtain⟨st',e',m'⟩:=zq;obtain rfl:=Os e e';exact m j m',z⟩
 .exact O ea (cc (h.cl cl s st e t l) r m b)
theorem TabAt.tbl:TblOk G S mf (dM rws dfl) clean:=by
 refine⟨λs t j l g=>?_,λs t ls l g=>?_,λc s t r l r0 r5 i b=>?_⟩
 .obtain⟨_,_,_,_,_,_,_,_,_,_,_,c,_⟩:=h.val ok (GT.lt ok g).1 l;rcases c with⟨j',g',e⟩|⟨n,_⟩
  .exact O (GT.fun ok g g') e
  .exact absurd g (n j)
 .o_shape;obtain⟨st,_,_,_,es,_,_,_,_,_,_,c,_⟩:=h.val ok ls l;pv_eval;rcases c with⟨j',g',e⟩|⟨n,z|⟨r,m,z⟩⟩
  .exact absurd g' (g j')
  .exact .inl z
  .have:=((ok.ex s st es).rd r).1 m;exact .inr ⟨r,by lia,this.2.1,⟨st,es,⟨this.2.1,aY _⟩,this.2.2⟩,z⟩
 .obtain⟨st,es,v,m⟩:=i;obtain⟨st',_,_,_,es',_,_,_,_,_,_,_,cc⟩:=h.val ok (av es) l;obtain rfl:=Os es es';exact cc c r (((ok.ex s st es).rd r).2 ⟨by exact ne_of_gt ‹_›,r5,m⟩) b
end
theorem GY {V:IH} {S:List SG} (ok:AutOk G S) {s X:Nat} {st:SG} (es:S[s]? =some st) (x5:5<=X):(aq (bj (cy st.mv)) (X:Int)).getD (.int (-1))=.int (eR S s X):=by
 rcases rT ok s X with⟨j,g,e⟩|⟨n,e⟩
 .obtain⟨st',es',m⟩:=g;obtain rfl:=Os es es';have:(X,j)∈cy st.mv:=mem_filter.2 ⟨m,by exact decide_eq_true x5⟩;have nd:((cy st.mv).map (·.1)).Nodup:=(List.filter_sublist.map _).nodup (ok.ex s st es).mnd;exact O (jo nd this) (O e rfl)
 .have nm:X∉(cy st.mv).map (·.1):=λm=>by
   obtain⟨p,mp,ep⟩:=mem_map.1 m;exact n p.2 ⟨st,es,by exact Ob ep (mem_filter.1 mp).1⟩
  exact O (PM nm) (O e rfl)
section
variable{B:Bs} (hB:Base B) {n:Nat} {V:IH} {Q:QE} {tb:Addr} {G:GG} {S:List SG} {mf:Nat->Nat->Nat} {rws:List (List Int)} {dfl:List Nat} {clean:Prop} (h:TabAt V tb G S mf rws dfl clean) (ok:AutOk G S)
include hB h ok
theorem Db (ls:s<S.length) (l:t<5) (q:Q (.int (dM rws dfl s t)) V):CallOk B (n+2) 145 [.ref tb,.int s,.int t] V Q:=by
 refine EG hB ?_;o_shape;obtain⟨st,row,v,d,e1,e2,e3,e4,e5,vb,d5,_,_⟩:=h.val ok ls l;obtain⟨na,la,ea,ba,da,nu,g,ro,go,ca,se,h1,h2,h3,h4,⟨rus,h5,h6,h7⟩,_⟩:=h.obj;obtain⟨ra,h8,h9⟩:=h7 s row e2;pv_eval;w_fin;refine bk h1 rfl<|EJ hB ?_;w_fin;refine ag h1 rfl<|aB h5 (O aQ (O h8 rfl))<|aB h9 (jY e3) ?_;w_fin;refine cV<|aO (λc=>absurd c vb) (λ_=>?_);w_fin;refine cV<|aO (λc=>?_) (λc=>?_)
 .w_fin;refine bk h1 rfl<|EF hB ?_;w_fin;refine ag h1 rfl<|aB h4 (bf e4)<|Gw ?_;rw[e5,if_pos c]at q;exact q
 .w_fin;rw[e5,if_neg c]at q;exact q
theorem Dh (l:r<5) (q:Q (.int (ah G r)) V):CallOk B (n+1) 96 [.ref tb,.int r] V Q:=by
 refine ED hB ?_;obtain⟨na,la,ea,ba,da,nu,g,ro,go,ca,se,h1,h2,h3,_⟩:=h.obj;w_fin;exact ag h1 rfl<|aB h2 (bf (O aQ (O (getElem?_range l) rfl))) q
theorem Di (l:r<5) (q:Q (.int (ae G r).length) V):CallOk B (n+1) 103 [.ref tb,.int r] V Q:=by
 refine EE hB ?_;obtain⟨na,la,ea,ba,da,nu,g,ro,go,ca,se,h1,h2,h3,_⟩:=h.obj;w_fin;exact ag h1 rfl<|aB h3 (bf (O aQ (O (getElem?_range l) rfl))) q
theorem De (ls:s<S.length) (l:5<=X) (q:Q (.int (eR S s X)) V):CallOk B (n+1) 229 [.ref tb,.int s,.int X] V Q:=by
 refine EK hB ?_;o_shape;refine bg ls λst es=>?_;obtain⟨na,la,ea,ba,da,nu,g,ro,go,ca,se,h1,h2,h3,h4,_,⟨gus,h5,h6,h7⟩,_⟩:=h.obj;obtain⟨ra,ep,h8,h9⟩:=h7 s st es;pv_eval;w_fin;refine ag h1 rfl<|aB h5 (O aQ (O h8 rfl)) ⟨i7 h9,i9 h9 ?_⟩;have e:=GY (V:=V) ok es l;exact(show Q ((aq (bj (cy st.mv)) (X:Int)).getD (.int (-1))) V by exact O e q)
end
structure TF where
 act:Nat->Nat->Int
 ln:Nat->Nat
 lf:Nat->Nat
 go:Nat->Nat->Int
noncomputable def bQ (T:TF) (t:Nat):Nat->List Nat->Bool
 | 0,_=>false
 |_+1,[]=>false
 |n+1,s::st=>
  if 0<=T.act s t then decide (0<T.act s t)
  else match(s::st).drop (T.ln (-T.act s t).toNat)with
   |[]=>false
   |p::r=>if T.go p (T.lf (-T.act s t).toNat)<0 then false else bQ T t n ((T.go p (T.lf (-T.act s t).toNat)).toNat::p::r)
theorem jF (T:TF) (t n s:Nat) (st:List Nat):bQ T t (n+1) (s::st)=if 0<=T.act s t then decide (0<T.act s t)
 else match(s::st).drop (T.ln (-T.act s t).toNat)with
  |[]=>false
  |p::r=>if T.go p (T.lf (-T.act s t).toNat)<0 then false else bQ T t n ((T.go p (T.lf (-T.act s t).toNat)).toNat::p::r):=rfl
set_option genCtorIdx true in
inductive PR where
 |bad
 |no
 |yes (st:List Nat) (v:Int)
noncomputable def bP (T:TF) (t:Nat):Nat->List Nat->PR
 | 0,_=>.no
 |_+1,[]=>.bad
 |n+1,s::st=>
  if 0<T.act s t then .yes (s::st) (T.act s t)
  else if T.act s t=0 then .no
  else match(s::st).drop (T.ln (-T.act s t).toNat)with
   |[]=>.bad
   |p::r=>if T.go p (T.lf (-T.act s t).toNat)<0 then .bad else bP T t n ((T.go p (T.lf (-T.act s t).toNat)).toNat::p::r)
theorem fc (T:TF) (t n s:Nat) (st:List Nat):bP T t (n+1) (s::st)=if 0<T.act s t then .yes (s::st) (T.act s t)
 else if T.act s t=0 then .no
 else match(s::st).drop (T.ln (-T.act s t).toNat)with
  |[]=>.bad
  |p::r=>if T.go p (T.lf (-T.act s t).toNat)<0 then .bad else bP T t n ((T.go p (T.lf (-T.act s t).toNat)).toNat::p::r):=rfl
section
variable{T:TF} {t n s r p:Nat} {st q:List Nat}
theorem Vb (c:0<=T.act s t):bQ T t (n+1) (s::st)=decide (0<T.act s t):=by exact O (jF ..) (O (ax c) rfl)
theorem eB (c:T.act s t= -(r:Int)):(-T.act s t).toNat=r:=by exact O c (O (neg_neg ..) rfl)
theorem Va (c:T.act s t= -(r:Int)) (r0:0<r) (e:(s::st).drop (T.ln r)=[]):bQ T t (n+1) (s::st)=false:=by
 exact O (jF ..) (O (ai (by lia)) (O (eB c) (O e rfl)))
theorem Vc (c:T.act s t= -(r:Int)) (r0:0<r) (e:(s::st).drop (T.ln r)=p::q) (g:T.go p (T.lf r)<0):bQ T t (n+1) (s::st)=false:=by
 refine O (jF ..) (O (ai (by lia)) (O (eB c) (O e ?_)));simp only[if_pos g]
theorem U9 {j:Nat} (c:T.act s t= -(r:Int)) (r0:0<r) (e:(s::st).drop (T.ln r)=p::q) (g:T.go p (T.lf r)=(j:Int)):bQ T t (n+1) (s::st)=bQ T t n (j::p::q):=by
 refine O (jF ..) (O (ai (by lia)) (O (eB c) (O e ?_)));simp only[g,toNat_natCast];exact O (ai (not_lt.2 (natCast_nonneg _))) rfl
theorem SL (c:0<T.act s t):bP T t (n+1) (s::st)=.yes (s::st) (T.act s t):=by exact O (fc ..) (O (ax c) rfl)
theorem SJ (c:T.act s t=0):bP T t (n+1) (s::st)=.no:=by exact O (fc ..) (O (ai (by lia)) (O (ax c) rfl))
theorem SI (c:T.act s t= -(r:Int)) (r0:0<r) (e:(s::st).drop (T.ln r)=[]):bP T t (n+1) (s::st)=.bad:=by
 exact O (fc ..) (O (ai (by lia)) (O (ai (by lia)) (O (eB c) (O e rfl))))
theorem SK (c:T.act s t= -(r:Int)) (r0:0<r) (e:(s::st).drop (T.ln r)=p::q) (g:T.go p (T.lf r)<0):bP T t (n+1) (s::st)=.bad:=by
 refine O (fc ..) (O (ai (by lia)) (O (ai (by lia)) (O (eB c) (O e ?_))));simp only[if_pos g]
theorem SH {j:Nat} (c:T.act s t= -(r:Int)) (r0:0<r) (e:(s::st).drop (T.ln r)=p::q) (g:T.go p (T.lf r)=(j:Int)):bP T t (n+1) (s::st)=bP T t n (j::p::q):=by
 refine O (fc ..) (O (ai (by lia)) (O (ai (by lia)) (O (eB c) (O e ?_))));simp only[g,toNat_natCast];exact O (ai (not_lt.2 (natCast_nonneg _))) rfl
end
noncomputable def bG (G:GG) (S:List SG) (rws:List (List Int)) (dfl:List Nat):TF:=⟨dM rws dfl,λr=>(ae G r).length,ah G,eR S⟩
theorem kh (s:Nat) (st:List Nat):(nl (s::st).reverse).getLast?=some (.int (s:Nat)):=by
 refine O List.reverse_cons ?_;rw[nl];refine O bW ?_;simp
theorem DA (st:List Nat) (k:Nat):(nl st.reverse).take ((((nl st.reverse).length:Nat):Int) -(k:Nat)).toNat=nl (st.drop k).reverse:=by
 have e:((((nl st.reverse).length:Nat):Int) -(k:Nat)).toNat=st.length -k:=by
  rw[nl];exact O (aE ..) (O length_reverse (Int.toNat_sub _ _))
 refine O e (O List.reverse_drop ?_);rw[nl,nl];exact O map_take rfl
section
variable{V:IH} {tb:Addr} {G:GG} {S:List SG} {mf:Nat->Nat->Nat} {rws:List (List Int)} {dfl:List Nat} {clean:Prop} (h:TabAt V tb G S mf rws dfl clean) (ok:AutOk G S)
include h ok
theorem TabAt.neg (ls:s<S.length) (l:t<5) (c:dM rws dfl s t<0):∃r:Nat,0<r/\r<5/\dM rws dfl s t= -(r:Int)/\(-dM rws dfl s t).toNat=r:=by
 by_cases g:∃j,GT S s t j
 .obtain⟨j,g⟩:=g;have:=(h.tbl ok).sh s t j l g;have:=gR (t:=t) (GT.pos ok g);lia
 .rcases(h.tbl ok).rd s t ls l λj z=>g ⟨j,z⟩with z|⟨r,r0,r5,_,e⟩
  .lia
  .exact⟨r,r0,r5,e,by lia⟩
variable{B:Bs} (hB:Base B) {n:Nat} {Q:QE} (gd:Good G)
include hB gd
theorem Dm {st:List Nat} (hs:V sa=some (.list (nl st.reverse))) (ne:st≠[]) (va:∀s∈st,s<S.length) (l:t<5) (sm:st.length+most<900000)
 (q:∀V',Ext V V'->Q (.bool (bQ (bG G S rws dfl) t most st)) V'):CallOk B (n+3) 315 [.ref tb,.ref sa,.int t,.int most] V Q:=by
 refine ET hB ?_;w_fin;w_fin;refine dF (by lia) ?_;refine aU (λi Z V'=>E6 λa st' o5 o6 o7 o8=>A5 (Z=[some (.ref tb),some (.ref sa),some (.int t),some (.int most),some (.ref a),o5,o6,o7,o8]) (Ext V V') (V' a=some (.list (nl st'.reverse))) (st'≠[]/\(∀s∈st',s<S.length)/\st'.length<=st.length+i) (bQ (bG G S rws dfl) t most st=bQ (bG G S rws dfl) t (most -i) st')) ⟨sa,st,_,_,_,_,rfl,Ext.rfl,hs,⟨ne,va,aY _⟩,rfl⟩ ?_ ?_
 .rintro i Z V' y Fk hFk hy ⟨a,st',o5,o6,o7,o8,rfl,ex,ha,⟨ne',va',sl'⟩,et⟩;refine⟨trivial,?_⟩;o_shape;refine qT hy λim eY=>?_;obtain rfl:=eY;have hT:=h.mono ex;o_shape;obtain⟨na,la,ea,ba,da,nu,g,ro,go,ca,se,h1,_⟩:=hT.obj;pv_eval;obtain⟨s,st2,rfl⟩:∃s st2,st'=s::st2:=by induction st' with|nil=>exact absurd rfl ne'|cons s st2=>exact⟨s,st2,rfl⟩
  pv_eval;have ls:=va' s (bJ);have eT:bQ (bG G S rws dfl) t most st=bQ (bG G S rws dfl) t ((most -(i+1))+1) (s::st2):=by refine O et ?_;congr 1;exact yl (by assumption)
  w_fin;refine bk h1 rfl<|gV (x:=.int (s:Nat)) ha (kh s st2)<|Db hB hT ok ls l ?_;w_fin;refine gU<|aO (λc=>?_) (λc=>?_)
  .w_fin;rw[Vb (T:=bG G S rws dfl) c]at eT;have:=q V' ex;rw[eT]at this;exact⟨_,_,rfl,rfl,this⟩
  .obtain⟨r,r0,r5,er,er2⟩:=h.neg ok ls l (by lia);refine O er ?_;w_fin;refine O (neg_neg ..) (bk h1 rfl<|Di hB hT ok r5 ?_);w_fin;refine cB ha<|gU<|aO (λc2=>?_) (λc2=>?_)
   .rw[nl,length_map,length_reverse]at c2;rw[Va (T:=bG G S rws dfl) er r0 (List.drop_eq_nil_iff.2 (by show _<=(ae G r).length;exact ofNat_lt.1 ‹_›))]at eT;w_fin;have:=q V' ex;rw[eT]at this;exact this
   .rw[nl,length_map,length_reverse]at c2
    induction ed:(s::st2).drop (ae G r).length with
    |nil=>have:=List.drop_eq_nil_iff.1 ed;lia
    |cons p rest=>
     have vp:∀x∈p::rest,x<S.length:=λx m=>va' x (mem_of_mem_drop (ed▸m));have pl:(p::rest).length<=(s::st2).length:=by exact Ob ed (O length_drop (sub_le _ _))
     w_fin;refine cB ha<|fX<|zf ha (by rw[nl];refine O (aE ..) (O length_reverse ?_);lia) λa2 ha2=>?_;refine O (DA ..) (O ed ?_);have hh:=(H.nil (V:=V')).new (.list (nl (p::rest).reverse)) ha2;generalize upd V' a2 (.list (nl (p::rest).reverse))=V2 at hh⊢;have hT2:=hT.mono hh.ext;have h12:=hh.ext _ _ h1;w_fin;refine O (neg_neg ..) (bk h12 rfl<|gV (x:=.int (p:Nat)) (hh.get 0 rfl) (kh p rest)<|bk h12 rfl<|Dh hB hT2 ok r5<|De hB hT2 ok (vp p (bJ)) (gd.lhs8 r5).1 ?_);w_fin;refine dE<|aO (λc3=>?_) (λc3=>?_)
     .w_fin;rw[Vc (T:=bG G S rws dfl) er r0 ed c3]at eT;have:=q V2 (ex.trans hh.ext);rw[eT]at this;exact this
     .obtain⟨j,gt,ej⟩:=(rT ok p (ah G r)).resolve_right λz=>by rw[z.2]at c3;lia
      rw[U9 (T:=bG G S rws dfl) er r0 ed ej]at eT;refine O ej ?_;w_fin;refine⟨bz (hh.get 0 rfl),bZ (hh.get 0 rfl) (by rw[nl];refine O (aE ..) (O length_reverse ?_);lia) ?_⟩;have h4:=hh.put 0 (o':=.list (nl (p::rest).reverse++[.int (j:Nat)])) rfl;refine hFk _ _ ⟨a2,j::p::rest,_,_,_,_,rfl,ex.trans h4.ext,?_,⟨by exact cons_ne_nil _ _,λx m=>?_,?_⟩,?_⟩
      .refine O (h4.get 0 rfl) (O (dB ..) ?_);simp
      .rcases mem_cons.1 m with eQ|m
       .obtain rfl:=eQ.symm;exact(GT.lt ok gt).2.2
       .exact vp x m
      .refine O length_cons ?_;lia
      .exact eT
 .rintro Z V' ⟨a,st',o5,o6,o7,o8,rfl,ex,ha,_,et⟩;refine⟨trivial,?_⟩;w_fin;rw[length_map,length_range,sub_self,show∀s,bQ (bG G S rws dfl) t 0 s=false from λ_=>rfl]at et;have:=q V' ex;rw[et]at this;exact this
noncomputable def dL (t:Nat):Bool:=decide (t≠1)&&decide (t≠2)
theorem Tx {st:List Nat} (hs:V sa=some (.list (nl st.reverse))) (ne:st≠[]) (va:∀s∈st,s<S.length) (sm:st.length<800000)
 (q:∀r V',Ext V V'->V' r=some (.list (nl ((List.range 5).filter λt=>dL t&&bQ (bG G S rws dfl) t 40 st)))->Q (.ref r) V'):CallOk B (n+4) 322 [.ref tb,.ref sa,.int 40] V Q:=by
 refine EU hB ?_;o_shape;obtain⟨na,la,ea,ba,da,nu,g,ro,go,ca,se,h1,_⟩:=h.obj;pv_eval;w_fin;refine⟨by decide,λfa hfa=>?_⟩;have hh:=(H.nil (V:=V)).new (.list (nl [])) hfa;refine O (show upd V fa (.list [])=upd V fa (.list (nl []))from rfl) ?_;generalize upd V fa (.list (nl []))=V1 at hh⊢;w_fin;refine ag (hh.ext _ _ h1) rfl<|dF (k:=5) (by decide) ?_;refine aU (λi Z V'=>E1 λo4=>A2 (Z=[some (.ref tb),some (.ref sa),some (.int 40),some (.ref fa),o4]) (H V V' [(fa,.list (nl ((List.range i).filter λt=>dL t&&bQ (bG G S rws dfl) t 40 st)))])) ⟨_,rfl,hh⟩ ?_ ?_
 .clear hh;rintro i Z V' y Fk hFk hy ⟨o4,rfl,hh⟩;refine⟨trivial,?_⟩;refine eI hy λi5=>?_;have no:∀{V2:IH},H V V2 [(fa,.list (nl ((List.range i).filter λt=>dL t&&bQ (bG G S rws dfl) t 40 st)))]->(dL i&&bQ (bG G S rws dfl) i 40 st)=false->H V V2 [(fa,.list (nl ((List.range (i+1)).filter λt=>dL t&&bQ (bG G S rws dfl) t 40 st)))]:=λ{V2} hh e=>by
   refine O range_succ (O (filter_append ..) (O filter_cons (O filter_nil (O e ?_))))
   simpa using hh
  w_fin;refine fn<|aO (λc1=>?_) (λc1=>?_)
  .refine fn<|aO (λc2=>?_) (λc2=>?_)
   .refine Dm (h.mono hh.ext) ok hB gd (most:=40) (hh.ext _ _ hs) ne va i5 (by lia) λV2 e2=>?_;have h2:=hh.call e2;refine cQ<|b9 (λc=>?_) (λc=>?_)
    .w_fin;refine⟨bz (h2.get 0 rfl),dY (h2.get 0 rfl) (by have:=length_filter_le (λt=>dL t&&bQ (bG G S rws dfl) t 40 st) (List.range i);rw[length_range]at this;exact cn ‹_› (lt_of_lt_of_le ‹_› (by decide))) ?_⟩;refine hFk _ _ ⟨_,rfl,?_⟩;have:(List.range (i+1)).filter (λt=>dL t&&bQ (bG G S rws dfl) t 40 st)=(List.range i).filter (λt=>dL t&&bQ (bG G S rws dfl) t 40 st)++[i]:=by
      have ei:(dL i&&bQ (bG G S rws dfl) i 40 st)=true:=by
       refine O c ?_;rw[dL];simp;omega
      exact O range_succ (O (filter_append ..) (O filter_cons (O filter_nil (O ei rfl))))
     exact O this (h2.put 0 rfl)
    .exact hFk _ _ ⟨_,rfl,no h2 (O c (O (Bool.and_false ..) rfl))⟩
   .refine cJ (hFk _ _ ⟨_,rfl,no hh ?_⟩);have:i=2:=by lia
    subst this;rfl
  .refine cJ (hFk _ _ ⟨_,rfl,no hh ?_⟩);have:i=1:=by lia
   subst this;rfl
 .clear hh;rintro Z V' ⟨o4,rfl,hh⟩;refine⟨trivial,?_⟩;w_fin;exact q fa V' hh.ext (hh.get 0 rfl)
theorem TI {st:List Nat} {cb:Bool} (hs:V sa=some (.list (nl st.reverse))) (ne:st≠[]) (va:∀s∈st,s<S.length) (sm:st.length<800000)
 (q:∀r V',Ext V V'->V' r=some (.list (nl (if cb=true then(List.range 5).filter λt=>dL t&&bQ (bG G S rws dfl) t 40 st else[0,3,4].filter λt=>bQ (bG G S rws dfl) t 24 st)))->Q (.ref r) V'):CallOk B (n+5) 822 [.ref tb,.ref sa,.bool cb] V Q:=by
 refine FW hB ?_;w_fin;refine cQ<|b9 (λc=>?_) (λc=>?_)
 .w_fin;refine Tx h ok hB gd hs ne va sm λr V' ex g=>q r V' ex ?_;exact O (ax c) g
 .w_fin;refine⟨by decide,?_⟩;refine ja ?_;refine rF (λi ys V'=>ys=nl (([0,3,4].take i).filter λt=>bQ (bG G S rws dfl) t 24 st)/\Ext V V') ⟨rfl,Ext.rfl⟩ ?_ ?_
  .rintro i ys V' y hy ⟨rfl,ex⟩;refine⟨trivial,?_⟩;have hy:(nl [0,3,4])[i]? =some y:=hy;refine cZ hy λt ht=>?_;have t5:t<5:=by have:=aF ht;simp at this;lia
   have tk:=c6 ht;refine Dm (h.mono ex) ok hB gd (most:=24) (ex _ _ hs) ne va t5 (by lia) λV2 e2=>?_;refine cQ<|b9 (λc=>?_) (λc=>?_)
   .refine⟨?_,ex.trans e2⟩;exact O tk (O (filter_append ..) (O filter_cons (O filter_nil (O c (O (dB ..) rfl)))))
   .refine⟨?_,ex.trans e2⟩;refine O tk (O (filter_append ..) (O filter_cons (O filter_nil (O c ?_))));simp
  .rintro ys V' ⟨rfl,ex⟩;refine⟨trivial,λr hr=>?_⟩;refine q r _ (ex.trans (Ext.new hr)) ?_;exact O (bB ..) (O c rfl)
theorem Dk {st:List Nat} (hs:V sa=some (.list (nl st.reverse))) (ne:st≠[]) (va:∀s∈st,s<S.length) (l:t<5) (sm:st.length<800000) (nb:bP (bG G S rws dfl) t 40 st≠.bad)
 (q1:∀V',Ext V V'->bP (bG G S rws dfl) t 40 st=.no->Q .none V') (q2:∀st' v r V',Ext V V'->bP (bG G S rws dfl) t 40 st=.yes st' v->st'.length<=st.length+40->V r=none->V' r=some (.list (nl st'.reverse++[.int v]))->Q (.ref r) V'):CallOk B (n+4) 817 [.ref tb,.ref sa,.int t] V Q:=by
 refine FV hB ?_;w_fin;refine gH hs λa0 ha0=>?_;have h0:=(H.nil (V:=V)).new (.list (nl st.reverse)) ha0;generalize upd V a0 (.list (nl st.reverse))=V0 at h0⊢;w_fin;refine dF (k:=40) (by decide) ?_;refine aU (λi Z V'=>E4 λa st' o4 o5=>A5 (Z=[some (.ref tb),some (.ref sa),some (.int t),some (.ref a),o4,o5]) (Ext V V') (V' a=some (.list (nl st'.reverse))) (st'≠[]/\(∀s∈st',s<S.length)/\st'.length<=st.length+i) (bP (bG G S rws dfl) t 40 st=bP (bG G S rws dfl) t (40 -i) st')) ⟨a0,st,_,_,rfl,h0.ext,h0.get 0 rfl,⟨ne,va,aY _⟩,rfl⟩ ?_ ?_
 .clear h0;rintro i Z V' y Fk hFk hy ⟨a,st',o4,o5,rfl,ex,ha,⟨ne',va',sl'⟩,et⟩;refine⟨trivial,?_⟩;o_shape;refine qT hy λim eY=>?_;obtain rfl:=eY;have hT:=h.mono ex;obtain⟨na,la,ea,ba,da,nu,g,ro,go,ca,se,h1,_⟩:=hT.obj;obtain⟨s,st2,rfl⟩:∃s st2,st'=s::st2:=by induction st' with|nil=>exact absurd rfl ne'|cons s st2=>exact⟨s,st2,rfl⟩
  pv_eval;have ls:=va' s (bJ);have eT:bP (bG G S rws dfl) t 40 st=bP (bG G S rws dfl) t ((40 -(i+1))+1) (s::st2):=by refine O et ?_;congr 1;exact yl (by lia)
  rw[eT]at nb q1 q2;w_fin;refine bk h1 rfl<|gV (x:=.int (s:Nat)) ha (kh s st2)<|Db hB hT ok ls l ?_;w_fin;refine gD<|aO (λc=>?_) (λc=>?_)
  .w_fin;refine⟨by decide,λb0 hb0=>?_⟩;have ext1:=Ext.new (o:=.list [.int (dM rws dfl s t)]) hb0;refine y7 (ext1 _ _ ha) (bB _ _ _) (by rw[nl];refine O (aE ..) (O length_reverse (O length_singleton ?_));lia) λz hz=>?_;exact q2 (s::st2) _ z _ ((ex.trans ext1).trans (Ext.new hz)) (SL (T:=bG G S rws dfl) c) (by lia) ((ex.trans ext1).none hz) (bB _ _ _)
  .w_fin;refine cV<|aO (λc2=>?_) (λc2=>?_)
   .w_fin;exact q1 V' ex (SJ (T:=bG G S rws dfl) c2)
   .obtain⟨r,r0,r5,er,er2⟩:=h.neg ok ls l (by lia);refine O er ?_
    induction ed:(s::st2).drop (ae G r).length with
    |nil=>exact absurd (SI (T:=bG G S rws dfl) er r0 ed) nb
    |cons p rest=>
     have ln:=be List.length ed;rw[length_drop,length_cons (a:=p)]at ln;have vp:∀x∈p::rest,x<S.length:=λx m=>va' x (mem_of_mem_drop (ed▸m));have pl:(p::rest).length<=(s::st2).length:=by exact Ob ed (O length_drop (sub_le _ _))
     w_fin;refine O (neg_neg ..) ?_;refine cB ha<|bk h1 rfl<|Di hB hT ok r5<|fX<|zf ha (by rw[nl];exact O (aE ..) (O length_reverse (Int.sub_nonneg_of_le (Int.ofNat_le.2 (le_of_lt (Nat.lt_of_sub_pos (‹(s::st2).length -(ae G r).length=rest.length+1› ▸succ_pos _))))))) λa2 ha2=>?_;refine O (DA ..) (O ed ?_);have hh:=(H.nil (V:=V')).new (.list (nl (p::rest).reverse)) ha2;generalize upd V' a2 (.list (nl (p::rest).reverse))=V2 at hh⊢;have hT2:=hT.mono hh.ext;have h12:=hh.ext _ _ h1;w_fin;refine O (neg_neg ..) ⟨bz (hh.get 0 rfl),bk h12 rfl<|gV (x:=.int (p:Nat)) (hh.get 0 rfl) (kh p rest)<|bk h12 rfl<|Dh hB hT2 ok r5<|De hB hT2 ok (vp p (bJ)) (gd.lhs8 r5).1 ?_⟩;obtain⟨j,gt,ej⟩:=(rT ok p (ah G r)).resolve_right λz=>by
      exact nb (SK (T:=bG G S rws dfl) er r0 ed (show eR S p (ah G r)<0 by refine O z.2 ?_;lia))
     rw[SH (T:=bG G S rws dfl) er r0 ed ej]at eT;refine O ej ?_;refine bZ (hh.get 0 rfl) (by rw[nl];refine O (aE ..) (O length_reverse ?_);lia) ?_;have h4:=hh.put 0 (o':=.list (nl (p::rest).reverse++[.int (j:Nat)])) rfl;refine hFk _ _ ⟨a2,j::p::rest,_,_,rfl,ex.trans h4.ext,?_,⟨by exact cons_ne_nil _ _,λx m=>?_,?_⟩,?_⟩
     .refine O (h4.get 0 rfl) (O (dB ..) ?_);simp
     .rcases mem_cons.1 m with eQ|m
      .obtain rfl:=eQ.symm;exact(GT.lt ok gt).2.2
      .exact vp x m
     .refine O length_cons ?_;lia
     .exact eT
 .clear h0;rintro Z V' ⟨a,st',o4,o5,rfl,ex,ha,_,et⟩;refine⟨trivial,?_⟩;w_fin;rw[length_map,length_range,sub_self,show∀s,bP (bG G S rws dfl) t 0 s=.no from λ_=>rfl]at et;exact q1 V' ex et
end
inductive D (G:GG):List Nat->List Nat->List (Option Nat)->Prop
 |nil:D G [] [] []
 |t {x:Nat} {γ w:List Nat} {as:List (Option Nat)}:x<5->D G γ w as->D G (x::γ) (x::w) (none::as)
 |n {r X:Nat} {γ v w:List Nat} {as bs:List (Option Nat)}:0<r->r<5->ah G r=X->D G (ae G r) v as->D G γ w bs->D G (X::γ) (v++w) (as++some r::bs)
noncomputable def sh (as:List (Option Nat)):Nat:=as.count none
theorem eJ (a b:List (Option Nat)):sh (a++b)=sh a+sh b:=count_append
theorem yf (b:List (Option Nat)):sh (none::b)=sh b+1:=by simp[sh]
theorem jB (r:Nat) (b:List (Option Nat)):sh (some r::b)=sh b:=by simp[sh]
theorem Do (rs:List Nat):sh (rs.map some)=0:=by
 induction rs with
 |nil=>rfl
 |cons r rs ih=>exact O map_cons (O (jB ..) (O ih rfl))
section
variable{G:GG}
theorem D.sh {γ w:List Nat} (h:D G γ w as):Mine.sh as=w.length:=by
 induction h with
 |nil=>rfl
 |t _ _ ih=>exact O (yf ..) (O ih rfl)
 |n _ _ _ _ _ ih ih2=>refine O (eJ ..) ?_;rw[jB];exact O ih (O ih2 (O bT rfl))
theorem D.app (h:D G γ w as) (k:D G δ v bs):D G (γ++δ) (w++v) (as++bs):=by
 induction h with
 |nil=>exact k
 |t l _ ih=>exact .t l ih
 |n a b e d _ _ ih=>exact O (cw ..) (O (cw ..) (O cons_append (.n a b e d ih)))
inductive DSp (G:GG) (γ δ w:List Nat) (as:List (Option Nat)):Prop
 |mk (w1 w2:List Nat) (a1 a2:List (Option Nat)) (e:w=w1++w2) (f:as=a1++a2) (p:D G γ w1 a1) (q:D G δ w2 a2):DSp G γ δ w as
theorem D.split (h:D G (γ++δ) w as):DSp G γ δ w as:=by
 induction γ generalizing w as with
 |nil=>exact⟨[],w,[],as,rfl,rfl,.nil,h⟩
 |cons x γ ih=>
  rw[cons_append]at h
  cases h with
  |t l h=>obtain⟨w1,w2,a1,a2,rfl,rfl,h1,h2⟩:=ih h;exact⟨x::w1,w2,none::a1,a2,rfl,rfl,.t l h1,h2⟩
  |n a b e d h=>
   obtain⟨w1,w2,a1,a2,rfl,rfl,h1,h2⟩:=ih h;exact⟨_++w1,w2,_++some _::a1,a2,by exact Eq.symm (cw _ _ _),by exact Eq.symm (cw _ _ _),.n a b e d h1,h2⟩
inductive DOne (G:GG) (X:Nat) (w:List Nat) (as:List (Option Nat)):Prop
 |a (l:X<5) (e:w=[X]) (f:as=[none]):DOne G X w as
 |b (r:Nat) (bs:List (Option Nat)) (p:0<r) (q:r<5) (e:ah G r=X) (d:D G (ae G r) w bs) (f:as=bs++[some r]):DOne G X w as
theorem D.one {X w:_} (h:D G [X] w as):DOne G X w as:=by
 cases h with
 |t l h=>rcases h;exact .a l rfl rfl
 |n a b e d h=>rcases h;exact .b _ _ a b e (O (append_nil ..) d) rfl
theorem D.mk1 {r X:Nat} (a:0<r) (b:r<5) (e:ah G r=X) (d:D G (ae G r) w as):D G [X] w (as++[some r]):=by
 have:=D.n a b e d .nil;rwa[append_nil]at this
theorem D.nil' (h:D G [] w as):w=[]/\as=[]:=by rcases h;exact⟨rfl,rfl⟩
theorem D.asnil (h:D G γ w as) (e:as=[]):γ=[]:=by
 induction h with
 |nil=>rfl
 |t _ _=>rcases e
 |n _ _ _ _ _=>simp at e
theorem D.suf (hG:Good G):∀(n:Nat) {γ w v:List Nat} {a b p q:List (Option Nat)},a.length<=n->D G γ w a->D G γ v b->p++a=q++b->a=b:=by
 intro n
 induction n with
 |zero=>
  intro γ w v a b p q l h k e;have:a=[]:=length_eq_zero_iff.1 (Nat.sub_eq_zero_of_le ‹_›);subst this;have:=h.asnil rfl;subst this;exact O k.nil'.2 rfl
 |succ n ih=>
  intro γ w v a b p q l h k e;rcases eq_nil_or_concat γ with rfl|⟨γ,X,rfl⟩
  .exact O h.nil'.2 (O k.nil'.2 rfl)
  .rw[concat_eq_append]at h k;obtain⟨w1,w2,a1,a2,rfl,rfl,h1,h2⟩:=h.split;obtain⟨v1,v2,b1,b2,rfl,rfl,k1,k2⟩:=k.split;rcases h2.one with⟨l5,rfl,rfl⟩|⟨r,as,r0,r5,er,h3,eQ⟩
   .rcases k2.one with⟨_,rfl,rfl⟩|⟨r',bs,r0',r5',er',k3,rfl⟩
    .rw[<-append_assoc,<-append_assoc]at e;have e:=List.append_inj_left' e rfl;exact O (ih (by simp at l;assumption) h1 k1 e) rfl
    .have:=hG.lhs8 r5';lia
   .obtain rfl:=eQ.symm;rcases k2.one with⟨_,rfl,rfl⟩|⟨r',bs,r0',r5',er',k3,rfl⟩
    .have:=hG.lhs8 r5;lia
    .simp only[<-append_assoc]at e;have e1:=List.append_inj_left' e rfl;have e2:=List.append_inj_right' e rfl;have:r=r':=by simpa using e2
     subst this;have ll:a1.length+(as.length+1)<=n+1:=by simpa using l
     have:=ih (by lia) h3 k3 e1;subst this;have e3:=List.append_inj_left' e1 rfl;exact O (ih (by lia) h1 k1 e3) rfl
inductive DAt (G:GG) (γ w:List Nat) (a b:List (Option Nat)) (r:Nat):Prop
 |mk (a1 a2:List (Option Nat)) (x y z:List Nat) (e:a=a1++a2) (f:w=x++y++z) (d:D G (ae G r) y a2) (p:0<r) (q:r<5) (s:Mine.sh a1=x.length) (k:∀y' a',D G [ah G r] y' a'->D G γ (x++y'++z) (a1++a'++b)):DAt G γ w a b r
theorem D.at (h:D G γ w as):∀{a b:List (Option Nat)} {r:Nat},as=a++some r::b->DAt G γ w a b r:=by
 induction h with
 |nil=>intro a b r e;simp at e
 | @t x γ w as l h ih=>
   intro a b r e
   cases a with
   |nil=>rcases e
   |cons c a=>
    rw[cons_append]at e;injection e with e1 e2;subst e1;o_shape;obtain⟨a1,a2,x',y,z,rfl,rfl,d,r0,r5,es,f⟩:=ih e2;pv_eval;exact⟨none::a1,a2,x::x',y,z,rfl,rfl,d,r0,r5,by exact O (yf ..) (O es rfl),λy' a' d'=>.t l (f y' a' d')⟩
 | @n r0 X γ v w as bs p0 p5 e0 d1 d2 ih1 ih2=>
   intro a b r e;rcases List.append_eq_append_iff.1 e with⟨c,rfl,e2⟩|⟨c,rfl,e2⟩
   .cases c with
    |nil=>
     rw[nil_append]at e2;injection e2 with e3 e4;injection e3 with e3;subst e3 e4;refine⟨[],as,[],v,w,by exact append_nil _,by rfl,d1,p0,p5,rfl,λy' a' d'=>?_⟩;have:=d'.app d2;rw[e0]at this;exact this
    |cons c0 c=>
     rw[cons_append]at e2;injection e2 with e3 e4;subst e3;o_shape;obtain⟨a1,a2,x',y,z,rfl,rfl,d,q0,q5,es,f⟩:=ih2 e4;pv_eval;refine⟨as++some r0::a1,a2,v++x',y,z,by exact Eq.symm (cw _ _ _),by simp,d,q0,q5,by refine O (eJ ..) ?_;rw[jB];exact O es (O d1.sh (O bT rfl)),λy' a' d'=>?_⟩;have:=D.n p0 p5 e0 d1 (f y' a' d')
     simpa using this
   .cases c with
    |nil=>
     rw[nil_append]at e2;injection e2 with e3 e4;injection e3 with e3;subst e3 e4;refine⟨[],a,[],v,w,by rfl,by rfl,by simpa using d1,p0,p5,rfl,λy' a' d'=>?_⟩;have:=d'.app d2;rw[e0]at this;exact this
    |cons c0 c=>
     rw[cons_append]at e2;injection e2 with e3 e4;subst e3 e4;o_shape;obtain⟨a1,a2,x',y,z,rfl,rfl,d,q0,q5,es,f⟩:=ih1 rfl;pv_eval;refine⟨a1,a2,x',y,z++w,rfl,by exact cw _ _ _,d,q0,q5,es,λy' a' d'=>?_⟩;have:=D.n p0 p5 e0 (f y' a' d') d2
     simpa using this
end
structure Prod (G:GG):Prop where
 good:Good G
 all:∀r,0<r->r<5->∃y a,D G (ae G r) y a
def q8 (G:GG):Prop:=∀y a a',D G [6] y a->D G [6] y a'->a=a'
section
variable{G:GG}
theorem Good.lab (h:Good G) (a:0<r) (b:r<5):ah G r=6\/ah G r=7:=jx a b (.inl h.lhs1) (.inl h.lhs2) (.inr h.lhs3) (.inr h.lhs4)
theorem Good.other (h:Good G) (a:0<r) (b:r<5):∃r',r'≠r/\0<r'/\r'<5/\ah G r'=ah G r:=
 jx a b ⟨2,by decide,by decide,by decide,h.lhs2.trans h.lhs1.symm⟩ ⟨1,by decide,by decide,by decide,h.lhs1.trans h.lhs2.symm⟩ ⟨4,by decide,by decide,by decide,h.lhs4.trans h.lhs3.symm⟩ ⟨3,by decide,by decide,by decide,h.lhs3.trans h.lhs4.symm⟩
theorem GV (P:Prod G) (U:q8 G) {a1 a2 b1 b2 M post:List (Option Nat)} {y1 y2:List Nat}
 (h:D G [6] y (a1++a2++some i::(M++some j::post))) (d1:D G (ae G i) y1 a2) (d2:D G (ae G j) y2 b2) (e:b1++b2=a1++a2++some i::M) (m0:sh M=0) (el:ah G i=ah G j) (es:sh a1=sh b1):False:=by
 have hG:=P.good;obtain⟨c1,c2,x1,u1,z1,ea,ew,k1,i0,i5,s1,f1⟩:=h.at (a:=a1++a2) (r:=i) rfl;have:c2=a2:=(D.suf hG _ (aY _) d1 k1 (p:=a1) (q:=c1) ea).symm;subst this;have:=List.append_cancel_right ea;subst this;have eh:a1++c2++some i::(M++some j::post)=(b1++b2)++some j::post:=by refine O e ?_;simp
 obtain⟨g1,g2,x2,u2,z2,eb,ew2,k2,j0,j5,s2,f2⟩:=h.at (a:=b1++b2) (r:=j) eh;have:g2=b2:=(D.suf hG _ (aY _) d2 k2 (p:=b1) (q:=g1) eb).symm;subst this;have:=List.append_cancel_right eb;subst this;have xl:x1.length=x2.length:=by lia
 have nested:∀t,a1++c2=b1++t->g2=t++some i::M->False:=λt e1 e2=>by
  obtain⟨t1,t2,x3,u3,z3,e3,ew3,k3,_,_,s3,f3⟩:=k2.at (a:=t) (r:=i) e2;have:t2=c2:=(D.suf hG _ (aY _) d1 k3 (p:=a1) (q:=b1++t1) (O e1 (O e3 (O (cw ..) rfl)))).symm;subst this;have es3:=k2.sh;rw[e2,e3,eJ,eJ,jB,m0,k3.sh,ew3,length_append,length_append]at es3;have ea1:a1=b1++t1:=by
   rw[e3,<-append_assoc]at e1;exact List.append_cancel_right e1
  rw[ea1,eJ]at es;have x30:x3=[]:=length_eq_zero_iff.1 (by lia);have z30:z3=[]:=length_eq_zero_iff.1 (by lia);subst x30 z30;have new:=f2 u3 (t2++[some i]) (el▸D.mk1 i0 i5 rfl k3);have:y=x2++u3++z2:=by refine O ew2 (O ew3 ?_);simp
  rw[<-this]at new;have:=U _ _ _ h new;rw[eh,e2,e3]at this;have:=be List.length this;simp at this;lia
 rcases List.append_eq_append_iff.1 e with⟨t,e1,e2⟩|⟨t,e1,e2⟩
 .exact nested t e1 e2
 .induction t with
  |nil=>exact nested [] (by simpa using e1.symm) (e2.symm)
  |cons t0 t=>
   rw[cons_append]at e2;injection e2 with e3 e4;subst e3;rw[e4,eJ]at m0;rw[e1,eJ,eJ,jB]at es;have u10:u1=[]:=length_eq_zero_iff.1 (by have:=k1.sh;lia);have u20:u2=[]:=length_eq_zero_iff.1 (by have:=k2.sh;lia);subst u10 u20;obtain⟨r',ne,r0,r5,er⟩:=hG.other j0 j5;obtain⟨y0,e0,d0⟩:=P.all r' r0 r5;have n2:=f2 y0 _ (D.mk1 r0 r5 er d0);have n1:=f1 y0 _ (D.mk1 r0 r5 (er.trans el.symm) d0);rw[ew]at ew2;simp only[append_nil]at ew2;obtain⟨ex,ez⟩:=List.append_inj ew2 xl;subst ex ez;have:=U _ _ _ n1 n2;have e5:a1++(e0++[some r'])++M++[some j]=b1++e0++[some r']:=by
    refine List.append_cancel_right (bs:=post) ?_
    simpa using this
   have:=List.append_inj_right' e5 rfl;exact ne (by simpa using this.symm)
theorem SD (P:Nat->Nat->Prop) (a:∀i,i<n->∃c,c<m/\P i c) (b:∀i j c,i<j->j<n->P i c->P j c->False):n<=m:=by
 have:∀k,k<=n->∃l:List Nat,l.length=k/\l.Nodup/\∀c∈l,c<m/\∃i,i<k/\P i c:=by
  intro k
  induction k with
  |zero=>intro _;exact⟨[],rfl,nodup_nil,λc m=>by rcases m⟩
  |succ k ih=>
   intro l;o_shape;obtain⟨L,e,nd,f⟩:=ih (le_of_lt ‹_›);obtain⟨c,cm,pc⟩:=a k (by assumption);pv_eval;refine⟨c::L,by exact O length_cons (O e rfl),nodup_cons.2 ⟨λmc=>?_,nd⟩,λc' mc=>?_⟩
   .o_shape;obtain⟨_,i,il,pi⟩:=f c mc;pv_eval;exact b i k c il (by assumption) pi pc
   .rcases mem_cons.1 mc with rfl|mc
    .exact⟨cm,k,by exact lt_succ_self _,pc⟩
    .obtain⟨h1,i,h2,h3⟩:=f c' mc;exact⟨h1,i,by exact lt_succ_of_lt ‹_›,h3⟩
 obtain⟨L,e,nd,f⟩:=this n (aY _);exact Ob e (cz nd λx m=>(f x m).1)
inductive GapP (G:GG) (pre:List (Option Nat)) (rs:List Nat) (i c:Nat):Prop
 |mk (r:Nat) (a1 a2:List (Option Nat)) (y:List Nat) (e:rs[i]? =some r) (f:pre++(rs.take i).map some=a1++a2) (p:0<r) (q:r<5) (d:D G (ae G r) y a2) (l:c=2*sh a1+(ah G r -6)):GapP G pre rs i c
theorem zH (h:a=6\/a=7):a -6<2:=by rcases h with rfl|rfl<;>decide
theorem GU (ha:a=6\/a=7) (hb:b=6\/b=7) (h:2*s+(a -6)=2*t+(b -6)):s=t/\a=b:=by
 rcases ha with rfl|rfl<;>rcases hb with rfl|rfl
 .exact⟨Nat.eq_of_mul_eq_mul_left (by decide:0<2) h,rfl⟩
 .have h:2*s=2*t+1:=h;lia
 .have h:2*s+1=2*t:=h;lia
 .exact⟨Nat.eq_of_mul_eq_mul_left (by decide:0<2) (Nat.add_right_cancel h),rfl⟩
theorem zn (P:Prod G) (U:q8 G) {rs:List Nat} (h:D G [6] y (pre++rs.map some++post)):rs.length<=2*(sh pre+1):=by
 have cut:∀i r,rs[i]? =some r->pre++rs.map some++post=(pre++(rs.take i).map some)++some r::((rs.drop (i+1)).map some++post):=λi r e=>by
  have:rs=rs.take i++r::rs.drop (i+1):=by
   have l:=av e;have:=getElem_cons_drop (as:=rs) (i:=i) l;obtain rfl:=Os (c8 l) e;exact O this (O (take_append_drop ..) rfl)
  conv=>lhs;rw[this]
  simp
 refine SD (GapP G pre rs) (λi l=>?_) λi j c l lj pi pj=>?_
 .o_shape;refine bg l λr e=>?_;obtain⟨a1,a2,x,u,z,ea,ew,d,r0,r5,es,_⟩:=h.at (cut i r e);pv_eval;refine⟨_,?_,r,a1,a2,u,e,ea,r0,r5,d,rfl⟩;have z:=be sh ea;rw[eJ,eJ,Do]at z;exact lt_of_lt_of_le (add_lt_add_left (zH (P.good.lab r0 r5)) _) (by lia)
 .o_shape;obtain⟨r,a1,a2,u,e,ea,r0,r5,d,ec⟩:=pi;obtain⟨r',b1,b2,u',e',ea',r0',r5',d',ec'⟩:=pj;pv_eval;have g:=GU (P.good.lab r0 r5) (P.good.lab r0' r5') (ec.symm.trans ec');have hj:=cut j r' e';have tj:(rs.take j).map some=(rs.take i).map some++some r::((rs.take j).drop (i+1)).map some:=by
   have e1:(rs.take j)[i]? =some r:=by exact O getElem?_take (O (ax l) e)
   have l1:=av e1;have:=getElem_cons_drop (as:=rs.take j) (i:=i) l1;obtain rfl:=Os (c8 l1) e1
   conv=>lhs;rw[<-take_append_drop i (rs.take j),<-this]
   refine O List.take_take (O (Nat.min_eq_left (le_of_lt ‹_›)) ?_);simp
  refine GV P U (y:=y) (a1:=a1) (a2:=a2) (i:=r) (M:=((rs.take j).drop (i+1)).map some) (j:=r') (post:=(rs.drop (j+1)).map some++post) ?_ d d' (b1:=b1) ?_ (Do _) g.2 g.1
  .rw[hj,tj,<-append_assoc pre,ea]at h
   simpa using h
  .refine Ob ea' (O tj (Ob ea ?_));simp
end
section
set_option tactic.hygienic true
noncomputable def jD (T:TF):List Nat->List Nat->Option (Option Nat×List Nat×List Nat)
 |s::st,t::inp=>
  if 0<T.act s t then(if t=0 then none else some (none,(T.act s t).toNat::s::st,inp))
  else if T.act s t=0 then none
  else match(s::st).drop (T.ln (-T.act s t).toNat)with
   |[]=>none
   |p::r=>if T.go p (T.lf (-T.act s t).toNat)<0 then none else some (some (-T.act s t).toNat,(T.go p (T.lf (-T.act s t).toNat)).toNat::p::r,t::inp)
 |_,_=>none
theorem gu (T:TF) (s t:Nat) (st inp:List Nat):jD T (s::st) (t::inp)=if 0<T.act s t then(if t=0 then none else some (none,(T.act s t).toNat::s::st,inp))
 else if T.act s t=0 then none
 else match(s::st).drop (T.ln (-T.act s t).toNat)with
  |[]=>none
  |p::r=>if T.go p (T.lf (-T.act s t).toNat)<0 then none else some (some (-T.act s t).toNat,(T.go p (T.lf (-T.act s t).toNat)).toNat::p::r,t::inp):=rfl
inductive Run (T:TF):List Nat->List Nat->List (Option Nat)->List Nat->List Nat->Prop
 |nil {st inp:List Nat}:Run T st inp [] st inp
 |cons {st inp st1 inp1 st2 inp2:List Nat} {a:Option Nat} {as:List (Option Nat)}:jD T st inp=some (a,st1,inp1)->Run T st1 inp1 as st2 inp2->Run T st inp (a::as) st2 inp2
section
variable{T:TF}
theorem Run.app {st inp st1 inp1 st2 inp2:List Nat} {as bs:List (Option Nat)} (h:Run T st inp as st1 inp1) (k:Run T st1 inp1 bs st2 inp2):Run T st inp (as++bs) st2 inp2:=by
 induction h with
 |nil=>exact k
 |cons e _ ih=>exact .cons e (ih k)
theorem Run.det {st inp st1 inp1:List Nat} {as:List (Option Nat)} (h:Run T st inp as st1 inp1):∀{st2 inp2:List Nat} {bs:List (Option Nat)},Run T st inp bs st2 inp2->(∃m,bs=as++m/\Run T st1 inp1 m st2 inp2)\/∃m,as=bs++m/\Run T st2 inp2 m st1 inp1:=by
 induction h with
 |nil=>intro st2 inp2 bs k;exact .inl ⟨bs,rfl,k⟩
 |cons e h ih=>
  intro st2 inp2 bs k
  induction k with
  |nil=>exact .inr ⟨_,rfl,.cons e h⟩
  |cons e' k=>
   rw[e]at e';rcases e';rcases ih k with⟨m,rfl,x⟩|⟨m,rfl,x⟩
   .exact .inl ⟨m,rfl,x⟩
   .exact .inr ⟨m,rfl,x⟩
theorem yi {s1 st inp1:List Nat} {t r:Nat} {inp:List Nat} (h:jD T st (t::inp)=some (some r,s1,inp1)):inp1=t::inp/\∀n,bP T t (n+1) st=bP T t n s1:=by
 cases st with
 |nil=>exact bv h
 |cons s st=>
  rw[gu]at h;split at h
  .split at h
   .exact bv h
   .cases h
  .rename_i c;split at h
   .exact bv h
   .rename_i c2;split at h
    .exact bv h
    .rename_i p q e;split at h
     .exact bv h
     .rename_i c3
      cases h
      refine⟨rfl,λn=>?_⟩;refine O (fc ..) (O (ai c) (O (ai c2) (O e ?_)));simp only[if_neg c3]
theorem Dy {s1 st inp1:List Nat} {t:Nat} {inp:List Nat} (h:jD T st (t::inp)=some (none,s1,inp1)):inp1=inp/\t≠0/\∃v,0<v/\s1=v.toNat::st/\∀n,bP T t (n+1) st=.yes st v:=by
 cases st with
 |nil=>exact bv h
 |cons s st=>
  rw[gu]at h;split at h
  .rename_i c;split at h
   .exact bv h
   .rename_i c2
    cases h
    exact⟨rfl,c2,_,c,rfl,λn=>by exact O (fc ..) (O (ax c) rfl)⟩
  .split at h
   .exact bv h
   .split at h
    .exact bv h
    .split at h
     .exact bv h
     .cases h
theorem UY {s1 st inp inp1:List Nat} {a:Option Nat} (h:jD T st inp=some (a,s1,inp1)):inp.length=inp1.length+sh [a]:=by
 cases inp with
 |nil=>rcases st<;>exact bv h
 |cons t inp=>
  induction a with
  |none=>exact O (Dy h).1 rfl
  |some r=>exact O (yi h).1 rfl
theorem Run.len {st inp st1 inp1:List Nat} (h:Run T st inp as st1 inp1):inp.length=inp1.length+sh as:=by
 induction h with
 |nil=>rfl
 | @cons _ _ _ _ _ _ a as e _ ih=>refine O (UY e) (O ih ?_);show _=_+sh ([a]++as);refine O (eJ ..) ?_;lia
theorem Run.push {rs:List Nat}:∀{st:List Nat},Run T st (t::inp) (rs.map some) st1 (t::inp)->∀n,bP T t (rs.length+n) st=bP T t n st1:=by
 induction rs with
 |nil=>intro st h n;rcases h;exact O length_nil (O (zero_add ..) rfl)
 |cons r rs ih=>
  intro st h n;rcases h with _|⟨e,k⟩;obtain⟨rfl,f⟩:=yi e;exact O length_cons (O (show rs.length+1+n=(rs.length+n)+1 by lia) (O (f ..) (O (ih k n) rfl)))
theorem DB (t:Nat) (n:Nat):∀(st:List Nat),bQ T t n st=match bP T t n st with|.yes _ _=>true|_=>false:=by
 induction n with
 |zero=>intro st;rfl
 |succ n ih=>
  intro st;rcases st with _|⟨s,st⟩
  .rfl
  .refine O (jF ..) (O (fc ..) ?_);by_cases c:0<T.act s t
   .exact O (ax (Int.le_of_lt c)) (O (ax c) (decide_eq_true c))
   .refine O (ai c) ?_;by_cases c2:T.act s t=0
    .exact O (ax (by lia)) (O (ax c2) (decide_eq_false c))
    .refine O (ai (by lia)) (O (ai c2) ?_);rcases(s::st).drop (T.ln (-T.act s t).toNat)with _|⟨p,q⟩
     .rfl
     .by_cases c3:T.go p (T.lf (-T.act s t).toNat)<0
      .simp only[if_pos c3]
      .simp only[if_neg c3];exact ih _
theorem CS (as:List (Option Nat)):(∃rs:List Nat,as=rs.map some)\/∃(rs:List Nat) (bs:List (Option Nat)),as=rs.map some++none::bs:=by
 induction as with
 |nil=>exact .inl ⟨[],rfl⟩
 |cons a as ih=>
  induction a with
  |none=>exact .inr ⟨[],as,rfl⟩
  |some r=>
   rcases ih with⟨rs,rfl⟩|⟨rs,bs,rfl⟩
   .exact .inl ⟨r::rs,rfl⟩
   .exact .inr ⟨r::rs,bs,rfl⟩
theorem Run.split:∀{st inp:List Nat},Run T st inp (as++bs) st2 inp2->∃st1 inp1,Run T st inp as st1 inp1/\Run T st1 inp1 bs st2 inp2:=by
 induction as with
 |nil=>exact λh=>⟨_,_,.nil,h⟩
 |cons a as ih=>
  intro st inp h;rcases h with _|⟨e,k⟩;obtain⟨s1,i1,h1,h2⟩:=ih k;exact⟨s1,i1,.cons e h1,h2⟩
theorem Run.inp {st inp st1 inp1:List Nat} {rs:List Nat} (h:Run T st inp (rs.map some) st1 inp1):inp1=inp:=by
 induction rs generalizing st inp with
 |nil=>rcases h;rfl
 |cons r rs ih=>
  cases h with
  |cons e k=>
   induction inp with
   |nil=>rcases st<;>exact bv e
   |cons t inp=>exact O (ih k) (O (yi e).1 rfl)
end
end
theorem In.vi {S:List SG} (h:In G S p r d):VI G r d:=by rcases h with⟨_,_,v,_⟩;exact v
structure FoOk (G:GG) (S:List SG) (mf:Nat->Nat->Nat) (Fo:Nat->Nat->Nat->Prop):Prop where
 f1:∀p r d X a w as,In G S p r d->(ae G r)[d]? =some X->5<=X->D G ((ae G r).drop (d+1)) (a::w) as->Fo p X a
 f2:∀p0 p r d X a as,In G S p0 r 0->In G S p r d->Path S p0 ((ae G r).take d) p->(ae G r)[d]? =some X->5<=X->D G ((ae G r).drop (d+1)) [] as->0<r->Fo p0 (ah G r) a->Fo p X a
 f3:∀p0 q r a,0<r->In G S p0 r 0->In G S q r (ae G r).length->Path S p0 (ae G r) q->Fo p0 (ah G r) a->(mf q r).testBit a=true
structure TOk (G:GG) (S:List SG) (mf:Nat->Nat->Nat) (T:TF) (clean:Prop):Prop where
 tbl:TblOk G S mf T.act clean
 ln:T.ln=λr=>(ae G r).length
 lf:T.lf=ah G
 go:T.go=eR S
theorem D.lt (h:D G γ w as):∀b∈w,b<5:=by
 induction h with
 |nil=>intro b m;rcases m
 |t l _ ih=>intro b m;rcases mem_cons.1 m with rfl|m;exact l;exact ih b m
 |n _ _ _ _ _ i1 i2=>intro b m;rcases Uo.1 m with m|m;exact i1 b m;exact i2 b m
theorem jS {α:Type} {l:List α} {d:Nat} {x:α} {r:List α} (e:l.drop d=x::r):l[d]? =some x/\l.drop (d+1)=r/\l.take (d+1)=l.take d++[x]:=by
 have h:l[d]? =some x:=by
  have:=be (·[0]?) e
  simpa[getElem?_drop]using this
 refine⟨h,?_,by exact O take_add_one (O h rfl)⟩;exact Ob drop_drop (O e rfl)
section
variable{G:GG} {S:List SG} {mf:Nat->Nat->Nat} {T:TF} {clean:Prop} {Fo:Nat->Nat->Nat->Prop} (g:Good G) (ok:AutOk G S) (tk:TOk G S mf T clean) (fk:FoOk G S mf Fo) (cl:clean)
include g ok tk fk cl
theorem Sz {γ w:List Nat} (h:D G γ w as):∀(p:Nat) (st:List Nat) (r d p0 a:Nat) (inp:List Nat),In G S p0 r 0->In G S p r d->0<r->(ae G r).drop d=γ->Path S p0 ((ae G r).take d) p->a<5->Fo p0 (ah G r) a->
 ∃q qs,Run T (p::st) (w++a::inp) as (q::qs) (a::inp)/\Path S p0 (ae G r) q/\In G S q r (ae G r).length/\(q::qs).drop γ.length=p::st:=by
 induction h with
 |nil=>
  intro p st r d p0 a inp i0 i r0 ed pa a5 fo;have ld:(ae G r).length=d:=by
   have:=List.drop_eq_nil_iff.1 ed;have:=i.vi.2;lia
  rw[<-ld,take_length]at pa;rw[<-ld]at i;exact⟨p,st,.nil,pa,i,rfl⟩
 | @t t γ w as l h ih=>
   intro p st r d p0 a inp i0 i r0 ed pa a5 fo;o_shape;obtain⟨e1,e2,e3⟩:=jS ed;obtain⟨j,gt,ij⟩:=i.step ok e1;have t0:t≠0:=by have:=g.sym r t r0 (aF e1);lia
   have ac:=tk.tbl.sh p t j l gt;rw[ds,if_neg t0]at ac;have jp:=GT.pos ok gt;obtain⟨q,qs,h1,h2,h3,h4⟩:=ih j (p::st) r (d+1) p0 a inp i0 ij r0 e2 (e3▸pa.snoc gt) a5 fo;pv_eval;refine⟨q,qs,.cons ?_ h1,h2,h3,?_⟩
   .exact O cons_append (O (gu ..) (O ac (O (ax (by lia)) (O (ai t0) rfl))))
   .exact O length_cons (Ob drop_drop (O h4 rfl))
 | @n r1 X γ v w as bs p1 p5 eX d1 d2 ih1 ih2=>
   intro p st r d p0 a inp i0 i r0 ed pa a5 fo;o_shape;obtain⟨e1,e2,e3⟩:=jS ed;obtain⟨j,gt,ij⟩:=i.step ok e1;have X5:5<=X:=by have:=g.lhs8 p5;lia
   obtain⟨b,rest,eb,b5,fb⟩:∃b rest,w++a::inp=b::rest/\b<5/\Fo p X b:=by
    induction w with
    |nil=>exact⟨a,inp,rfl,a5,fk.f2 p0 p r d X a bs i0 i pa e1 X5 (e2▸d2) r0 fo⟩
    |cons b w=>exact⟨b,_,rfl,d2.lt b (bJ),fk.f1 p r d X b w bs i e1 X5 (e2▸d2)⟩
   have ic:In G S p r1 0:=i.clos g ok e1 p5 eX;obtain⟨q,qs,h1,h2,h3,h4⟩:=ih1 p st r1 0 p b rest ic ic p1 rfl rfl b5 (eX▸fb);have ac:=tk.tbl.cl cl q b r1 b5 p1 p5 h3 (fk.f3 p q r1 b p1 ic h3 h2 (eX▸fb));obtain⟨q',qs',k1,k2,k3,k4⟩:=ih2 j (p::st) r (d+1) p0 a inp i0 ij r0 e2 (e3▸pa.snoc gt) a5 fo;pv_eval;refine⟨q',qs',?_,k2,k3,?_⟩
   .refine O (cw ..) (O eb ?_);rw[eb]at k1;refine h1.app (.cons ?_ k1);have er:(-(-(r1:Int))).toNat=r1:=by lia
    refine O (gu ..) (O ac (O (ai (by lia)) (O (ai (by lia)) (O er (O tk.ln (O tk.lf (O tk.go ?_)))))));simp only[h4,eX,jk ok gt];exact O (ai (by lia)) rfl
   .exact O length_cons (Ob drop_drop (O k4 rfl))
theorem xR (i00:In G S 0 0 0) (h:D G [6] w as):∃j,Run T [0] (w++[0]) as [j,0] [0]/\0<T.act j 0:=by
 have r60:(ae G 0)[0]? =some 6:=by exact O g.rhs0 rfl
 o_shape;obtain⟨j,gt,ij⟩:=i00.step ok r60;obtain⟨k,gk,_⟩:=ij.step ok (X:=0) (O g.rhs0 rfl);pv_eval;have fo:Fo 0 6 0:=fk.f1 0 0 0 6 0 [] [none] i00 r60 (by decide) (O g.rhs0 (.t (by decide) .nil));rcases h.one with⟨l,_⟩|⟨r,bs,r0,r5,er,d,rfl⟩
 .lia
 .have ic:In G S 0 r 0:=i00.clos g ok r60 r5 er;o_shape;obtain⟨q,qs,h1,h2,h3,h4⟩:=Sz g ok tk fk cl d 0 [] r 0 0 0 [] ic ic r0 rfl rfl (by decide) (er▸fo);pv_eval;have ac:=tk.tbl.cl cl q 0 r (by decide) r0 r5 h3 (fk.f3 0 q r 0 r0 ic h3 h2 (er▸fo));refine⟨j,h1.app (.cons ?_ .nil),?_⟩
  .have er2:(-(-(r:Int))).toNat=r:=by lia
   refine O (gu ..) (O ac (O (ai (by lia)) (O (ai (by lia)) (O er2 (O tk.ln (O tk.lf (O tk.go ?_)))))));simp only[h4,er,jk ok gt];exact O (ai (by lia)) rfl
  .exact O (tk.tbl.sh j 0 k (by decide) gk) (gR (GT.pos ok gk))
omit g ok tk fk cl in
theorem yj (p:0<T.act j 0) (k:Run T [j,0] [0] as st2 inp2):as=[]:=by
 cases k with
 |nil=>rfl
 |cons e _=>exact On (ax rfl) (Oe (ax p) (Oe (gu ..) e))
theorem Vn (i00:In G S 0 0 0):q8 G:=λy a a' h h'=>by
 o_shape;obtain⟨j,h1,h2⟩:=xR g ok tk fk cl i00 h;obtain⟨j',k1,k2⟩:=xR g ok tk fk cl i00 h';pv_eval;rcases h1.det k1 with⟨m,e,r⟩|⟨m,e,r⟩
 .exact O e (O (yj h2 r) (O (append_nil ..) rfl))
 .exact O e (O (yj k2 r) (O (append_nil ..) rfl))
theorem Vd (P:Prod G) (i00:In G S 0 0 0) {w st u:List Nat} (hw:∀x,Run T [0] (w++x) aw st x) (w5:w.length<=5) (h:D G [6] (w++if t=0 then[]else t::u) as):∃st' v,bP T t 40 st=.yes st' v/\0<v:=by
 have U:=Vn g ok tk fk cl i00;obtain⟨j,h1,h2⟩:=xR g ok tk fk cl i00 h;rw[append_assoc]at h1;rcases(hw ((if t=0 then[]else t::u)++[0])).det h1 with⟨m,e,r⟩|⟨m,e,r⟩
 .have shw:=(hw ((if t=0 then[]else t::u)++[0])).len;have aw5:sh aw<=5:=by rw[length_append]at shw;lia
  by_cases t0:t=0
  .subst t0;rw[if_pos rfl,nil_append]at r;rcases CS m with⟨rs,rfl⟩|⟨rs,bs,rfl⟩
   .have b:rs.length<=12:=by
     have:=zn P U (post:=[]) (O (append_nil ..) (Ob e h));lia
    refine⟨[j,0],T.act j 0,?_,h2⟩;exact O (show 40=rs.length+((39 -rs.length)+1) by lia) (O (r.push ..) (O (fc ..) (O (ax h2) rfl)))
   .have:=r.len;rw[eJ,yf]at this;simp at this
  .rw[if_neg t0,cons_append]at r;rcases CS m with⟨rs,rfl⟩|⟨rs,bs,rfl⟩
   .have:=r.inp;have:=be List.length this;simp at this
   .o_shape;obtain⟨st1,inp1,r1,r2⟩:=r.split;pv_eval;have:=r1.inp;subst this;have b:rs.length<=12:=by
     have:=zn P U (pre:=aw) (rs:=rs) (post:=none::bs) (O (cw ..) (Ob e h));lia
    cases r2 with
    |cons e2 r2=>
     o_shape;obtain⟨_,_,v,v0,_,f⟩:=Dy e2;pv_eval;refine⟨st1,v,?_,v0⟩;exact O (show 40=rs.length+((39 -rs.length)+1) by lia) (O (r1.push ..) (O (f ..) rfl))
 .have:=r.len;by_cases t0:t=0
  .subst t0;rw[if_pos rfl]at r;have m0:=yj h2 r;subst m0;rcases r;exact⟨[j,0],T.act j 0,by exact O (show 40=39+1 by lia) (O (fc ..) (O (ax h2) rfl)),h2⟩
  .rw[if_neg t0]at this;simp at this;lia
end
section
variable{G:GG} {S:List SG} (g:Good G) (ok:AutOk G S)
theorem NulOk.of (h:NulOk G nb) (d:D G γ w as) (e:w=[]):∀x∈γ,nb[x]? =some true:=by
 induction d with
 |nil=>intro x m;cases m
 |t _ _ _=>cases e
 |n _ p5 eX _ _ i1 i2=>
  obtain⟨e1,e2⟩:=append_eq_nil_iff.1 e;intro x m;rcases mem_cons.1 m with rfl|m
  .exact Ob eX (h.cl _ p5 (i1 e1))
  .exact i2 e2 x m
include g in
theorem D.nt (d:D G γ w as) (e:w=[]):∀x∈γ,5<=x:=by
 induction d with
 |nil=>intro x m;cases m
 |t _ _ _=>cases e
 |n _ p5 eX _ _ i1 i2=>
  obtain⟨e1,e2⟩:=append_eq_nil_iff.1 e;intro x m;rcases mem_cons.1 m with rfl|m
  .have:=g.lhs8 p5;lia
  .exact i2 e2 x m
include g ok
section
variable{mf:Nat->Nat->Nat} {T:bL} {nb:List Bool} {R1 R2:Nat->Nat} (lk:LalrOk G S mf T nb R1 R2)
include lk
theorem Td (h:D G γ w as):∀(a:Nat) (w':List Nat) (p X j r d:Nat),w=a::w'->GT S p X j->5<=X->In G S j r d->(ae G r).drop d=γ->∃x,T[x]? =some (p,X)/\(R1 x).testBit a=true:=by
 induction h with
 |nil=>intro a w' p X j r d e;rcases e
 | @t t γ w as l h ih=>
   intro a w' p X j r d e gt X5 i ed;injection e with e1 e2;subst e1;obtain⟨e1,_⟩:=jS ed;obtain⟨k,gk,_⟩:=i.step ok e1;obtain⟨x,hx⟩:=U0.1 ((lk.tok.iff p X).2 ⟨X5,j,gt⟩);exact⟨x,hx,lk.rd1 x p X j t hx gt l ⟨k,gk⟩⟩
 | @n r1 Y γ v w as bs p1 p5 eY d1 d2 ih1 ih2=>
   intro a w' p X j r d e gt X5 i ed;obtain⟨e1,e2,_⟩:=jS ed;have Y5:5<=Y:=by have:=g.lhs8 p5;lia
   cases v with
   |cons b v=>
    rw[cons_append]at e;injection e with e3 _;subst e3;exact ih1 b v p X j r1 0 rfl gt X5 (i.clos g ok e1 p5 eY) rfl
   |nil=>
    rw[nil_append]at e;obtain⟨k,gk,ik⟩:=i.step ok e1;obtain⟨y,hy,by_⟩:=ih2 a w' j Y k r (d+1) e gk Y5 ik e2;obtain⟨x,hx⟩:=U0.1 ((lk.tok.iff p X).2 ⟨X5,j,gt⟩);have ny:nb[Y]? =some true:=by exact Ob eY (lk.nul.cl _ p5 (lk.nul.of d1 rfl))
    exact⟨x,hx,(lk.rd2 x p X j Y y hx gt Y5 ny hy).bit by_⟩
theorem GM:FoOk G S mf λp X a=>∃x,T[x]? =some (p,X)/\(R2 x).testBit a=true:=by
 refine⟨λp r d X a w as i e X5 h=>?_,λp0 p r d X a as i0 i pa e X5 h r0 ⟨x,hx,bx⟩=>?_,λp0 q r a r0 i0 iq pa ⟨x,hx,bx⟩=>?_⟩
 .obtain⟨j,gt,ij⟩:=i.step ok e;obtain⟨x,hx,bx⟩:=Td g ok lk h a w p X j r (d+1) rfl gt X5 ij rfl;exact⟨x,hx,(lk.f1 x).bit bx⟩
 .obtain⟨j,gt,ij⟩:=i.step ok e;obtain⟨y,hy⟩:=U0.1 ((lk.tok.iff p X).2 ⟨X5,j,gt⟩);have ed:ae G r=(ae G r).take d++X::(ae G r).drop (d+1):=by
   have l:=av e;have:=getElem_cons_drop (as:=ae G r) (i:=d) l;obtain rfl:=Os (c8 l) e;exact O this (O (take_append_drop ..) rfl)
  exact⟨y,hy,(lk.f2 x p0 (ah G r) r _ X _ p y hx i0.vi.1 rfl ed X5 (lk.nul.of h rfl) pa hy).bit bx⟩
 .obtain⟨st,es,v,m⟩:=iq;exact(lk.lb x p0 (ah G r) r q st hx v.1 rfl pa es (((ok.ex q st es).rd r).2 ⟨by exact ne_of_gt ‹_›,v.1,m⟩)).bit bx
end
section
variable{nb nb2:List Bool} {fm fl:List Nat} (n1:NulOk G nb) (n2:NulOk G nb2) (hf:FmOk G nb2 fm) (hl:FlOk G nb fm fl)
include n1 n2 hf hl
omit ok n1 hl g in
theorem GL (h:D G γ w as):∀(a:Nat) (w':List Nat),w=a::w'->(fo nb2 fm γ).testBit a=true:=by
 induction h with
 |nil=>intro a w' e;rcases e
 | @t t γ w as l h ih=>
   intro a w' e;injection e with e1 e2;subst e1;refine O (ji ..) (O (hf.term t l) (O (testBit_or ..) ?_));simp
 | @n r1 Y γ v w as bs p1 p5 eY d1 d2 ih1 ih2=>
   intro a w' e;refine O (ji ..) (O (testBit_or ..) (O (or_eq_true ..) ?_))
   cases v with
   |cons b v=>
    rw[cons_append]at e;injection e with e3 _;subst e3;have:=ih1 b v rfl;have c:=hf.cl r1 p5;rw[eY]at c;left;exact Ob c (O (testBit_or ..) (O this (O (Bool.or_true ..) rfl)))
   |nil=>
    rw[nil_append]at e;right;exact O (ax (Ob eY (n2.cl _ p5 (n2.of d1 rfl)))) (ih2 a w' e)
omit ok n2 hf hl g in
theorem Em (h5:∀x∈γ,5<=x) (h:∀x∈γ,nb[x]? =some true) {b a:Nat} (hb:b.testBit a=true):(bh nb fm b γ).testBit a=true:=by
 induction γ with
 |nil=>exact hb
 |cons x γ ih=>
  have:=h5 x (bJ);exact O (iV ..) (O (ai (by lia)) (O (ax (h x (bJ))) (O (testBit_or ..) (O (ih (λy m=>h5 y (dw _ m)) λy m=>h y (dw _ m)) rfl))))
omit ok hl in
theorem El (h:D G γ w as) (b:Nat):∀(a:Nat) (w':List Nat),w=a::w'->(bh nb fm b γ).testBit a=true:=by
 induction h with
 |nil=>intro a w' e;rcases e
 | @t t γ w as l h ih=>
   intro a w' e;injection e with e1 e2;subst e1;refine O (iV ..) (O (ax l) (O (hf.term t l) ?_));simp
 | @n r1 Y γ v w as bs p1 p5 eY d1 d2 ih1 ih2=>
   intro a w' e;have c5:¬Y<5\/Y<5:=by lia
   have fy:v≠[]->(fm[Y]?.getD 0).testBit a=true:=λnv=>by
    cases v with
    |nil=>exact absurd rfl nv
    |cons b' v=>
     rw[cons_append]at e;injection e with e3 _;subst e3;have c:=hf.cl r1 p5;rw[eY]at c;exact Ob c (O (testBit_or ..) (O (GL n2 hf d1 b' v rfl) (O (Bool.or_true ..) rfl)))
   refine O (iV ..) ?_;split
   .rename_i l
    induction v with
    |cons b' v=>exact fy (cons_ne_nil _ _)
    |nil=>have:=g.lhs8 p5;lia
   .split
    .refine O (testBit_or ..) (O (or_eq_true ..) ?_)
     induction v with
     |cons b' v=>exact .inr (fy (cons_ne_nil _ _))
     |nil=>exact .inl (ih2 a w' (e))
    .rename_i nn
     induction v with
     |cons b' v=>exact fy (cons_ne_nil _ _)
     |nil=>exact absurd (Ob eY (n1.cl _ p5 (n1.of d1 rfl))) nn
theorem GN:FoOk G S (λ_ r=>gf fl (ah G r)) λ_ X a=>(gf fl X).testBit a=true:=by
 have key:∀{r d X a:Nat},r<5->(ae G r)[d]? =some X->5<=X->(bh nb fm (fl[ah G r]?.getD 0) ((ae G r).drop (d+1))).testBit a=true->(gf fl X).testBit a=true:=λ{r d X a} r5 e X5 b=>by
  have ed:ae G r=(ae G r).take d++X::(ae G r).drop (d+1):=by
   have l:=av e;have:=getElem_cons_drop (as:=ae G r) (i:=d) l;obtain rfl:=Os (c8 l) e;exact O this (O (take_append_drop ..) rfl)
  have:=hl.cl r r5 _ X _ ed (O length_drop (sub_lt (cn (zero_le _) (av e)) (succ_pos _))) X5;unfold gf;exact Ob this (O (testBit_or ..) (O b (O (Bool.or_true ..) rfl)))
 refine⟨λp r d X a w as i e X5 h=>key i.vi.1 e X5 (El g n1 n2 hf h _ a w rfl),λp0 p r d X a as i0 i pa e X5 h r0 b=>key i.vi.1 e X5 (Em n1 (λx m=>?_) (n1.of h rfl) b),λp0 q r a r0 i0 iq pa b=>b⟩
 .exact h.nt g rfl x m
end
end
section
set_option tactic.hygienic true
abbrev aR:=Nat×Nat×Nat
def Ch (C:List (List aR)) (k r d o:Nat):Prop:=0<r/\∃col,C[k]? =some col/\(r -1,d,o)∈col
structure ChCl (G:GG) (w:List Nat) (C:List (List aR)):Prop where
 len:C.length=w.length+1
 c1:Ch C 0 1 0 0
 c2:Ch C 0 2 0 0
 pr:∀k r d o r',Ch C k r d o->(ae G r)[d]? =some (ah G r')->0<r'->r'<5->Ch C k r' 0 k
 co:∀k r o r' d' o',Ch C k r (ae G r).length o->Ch C o r' d' o'->(ae G r')[d']? =some (ah G r)->Ch C k r' (d'+1) o'
 sc:∀k r d o t,Ch C k r d o->(ae G r)[d]? =some t->w[k]? =some t->Ch C (k+1) r (d+1) o
def iP (G:GG) (C:List (List aR)) (k t:Nat):Prop:=(t≠0/\∃r d o,Ch C k r d o/\(ae G r)[d]? =some t)\/(t=0/\∃r,ah G r=6/\Ch C k r (ae G r).length 0)
section
variable{G:GG} {S:List SG} (g:Good G) (ok:AutOk G S)
include g ok
theorem In.ker0 {p:Nat} {s:SG} (es:S[p]? =some s) (e:s.kern=[0]):p=0:=by
 obtain⟨s0,e0,k0⟩:=ok.k0;refine(getElem?_inj (l:=cq S) ?_ ok.kok.nd).1 ?_
 .exact O (aE ..) (av es)
 .exact O aQ (O aQ (O es (O e0 (be some (e.trans k0.symm)))))
theorem In.ind {Pr:Nat->Nat->Prop} (h1:∀r d,In G S p r (d+1)->Pr r (d+1)) (h0:p=0->Pr 0 0) (hs:∀r d r',In G S p r d->Pr r d->(ae G r)[d]? =some (ah G r')->0<r'->r'<5->Pr r' 0):∀{r d:Nat},In G S p r d->Pr r d:=by
 intro r d i
 induction d with
 |succ d=>exact h1 r d i
 |zero=>
  obtain⟨s,es,v,m⟩:=i;have ker:∀{r d},VI G r d->code G r d∈s.kern->Pr r d/\In G S p r d:=λ{r d} v m=>by
   have i:In G S p r d:=⟨s,es,v,((ok.ex p s es).its _).2 (.inl m)⟩
   induction d with
   |succ d=>exact⟨h1 r d i,i⟩
   |zero=>
    rcases ok.kern es with k|⟨_,k⟩
    .have p0:=In.ker0 g ok es k;rw[k]at m;have:code G r 0=code G 0 0:=by refine O (yW ..) ?_;simpa using m
     obtain⟨rfl,_⟩:=dX v (dW (by decide)) this;exact⟨h0 p0,i⟩
    .obtain⟨r',d',v',e⟩:=k _ m;have:=(dX v v' e).2;lia
  rcases((ok.ex p s es).its _).1 m with a|⟨r1,l1,⟨r0,d0,X0,v0,m0,e0,f0⟩,ec⟩
  .exact(ker v a).1
  .obtain⟨rfl,_⟩:=dX v (dW l1) ec;obtain⟨k1,k2⟩:=ker v0 m0;have X05:X0≠5:=by
    have m:=aF e0;rcases dH r0 with z|z
    .subst z;rw[g.rhs0]at m;simp at m;lia
    .have:=g.sym r0 X0 z m;lia
   have pos:∀{r' Y},Y≠5->ah G r'=Y->0<r':=λ{r' Y} n e=>by
    rcases dH r' with z|z
    .subst z;rw[g.lhs0]at e;lia
    .exact z
   have fst:∀{Y Zo r d},Y≠5->In G S p r d->Pr r d->(ae G r)[d]? =some Y->dU G Y Zo->∃r',In G S p r' 0/\Pr r' 0/\(ae G r')[0]? =some Zo/\Zo≠5:=λ{Y Zo r d} n i q e f=>by
    o_shape;obtain⟨r',l,el,ez⟩:=f;pv_eval;exact⟨r',i.clos g ok e l el,hs r d r' i q (el▸e) (pos n el) l,ez,(fP g ⟨r',l,el,ez⟩ n).2⟩
   have fin:∀{Y r' d},Y≠5->In G S p r' d->Pr r' d->(ae G r')[d]? =some Y->ah G r=Y->Pr r 0:=λn i q e e2=>hs _ _ r i q (e2▸e) (pos n e2) l1;rcases f0 with f0|f0
   .exact fin X05 k2 k1 e0 f0
   .rcases f0 with f0|⟨f0,f1⟩|⟨f0,f1⟩
    .obtain⟨r',a,b,c,d⟩:=fst X05 k2 k1 e0 f0;exact fin d a b c rfl
    .obtain⟨r',a,b,c,d⟩:=fst X05 k2 k1 e0 f0;obtain⟨r',a,b,c,d⟩:=fst d a b c f1;exact fin d a b c rfl
    .obtain⟨r',a,b,c,d⟩:=fst X05 k2 k1 e0 f0;obtain⟨r',a,b,c,d⟩:=fst d a b c f1;exact fin d a b c rfl
theorem In.pred {p r:Nat} (i:In G S p r 0) (r0:0<r):∃r' d',In G S p r' d'/\(ae G r')[d']? =some (ah G r):=
 In.ind g ok (Pr:=λr d=>0<r->d=0->∃r' d',In G S p r' d'/\(ae G r')[d']? =some (ah G r)) (λ_ _ _ _ z=>by lia) (λ_ z=>by lia) (λr d r' i _ e _ _ _ _=>⟨r,d,i,e⟩) i r0 rfl
theorem In.zero (i:In G S p 0 0):p=0:=
 In.ind g ok (Pr:=λr d=>r=0->d=0->p=0) (λ_ _ _ _ z=>by lia) (λz _ _=>z) (λ_ _ _ _ _ _ z _ e=>by lia) i rfl rfl
structure IvK (G:GG) (C:List (List aR)) (zs:List (Nat×Nat)) (p m k d:Nat):Prop where
 a:0<k->E1 λq=>A2 ((zs[d]?).map (·.2)=some q) (Ch C p k d q)
 b:k=0->A3 (d=m) (d<=1) (d=1->∃k',ah G k'=6/\Ch C p k' (ae G k').length 0)
noncomputable def Inv (G:GG) (S:List SG) (C:List (List aR)):List (Nat×Nat)->Prop
 |[]=>False
 |(s,p)::r=>s<S.length/\(match r with|[]=>s=0/\p=0|(s',_)::_=>(∃X,GT S s' X s)/\Inv G S C r)/\
  ∀k d,In G S s k d->IvK G C ((s,p)::r) p r.length k d
variable{w:List Nat} {C:List (List aR)} (cc:ChCl G w C)
include cc
theorem Inv.start:Inv G S C [(0,0)]:=by
 o_shape;obtain⟨s0,e0,k0⟩:=ok.k0;pv_eval;refine⟨av e0,⟨rfl,rfl⟩,λk d i=>?_⟩;refine In.ind g ok (p:=0) (Pr:=IvK G C [(0,0)] 0 0) (λr d i=>?_) (λ_=>⟨λz=>by lia,λ_=>⟨rfl,by lia,λz=>by lia⟩⟩) (λr d r' i ih e r0 r5=>⟨λ_=>⟨0,rfl,?_⟩,λz=>by lia⟩) i
 .o_shape;obtain⟨s,es,v,m⟩:=i;pv_eval;obtain rfl:=Os e0 es;rcases((ok.ex 0 s0 e0).its _).1 m with a|⟨r1,l1,_,ec⟩
  .rw[k0]at a;have:code G r (d+1)=0:=by exact VX.1 a
   simp only[code]at this;lia
  .have:=(dX v (dW l1) ec).2;lia
 .rcases dH r with z|z
  .subst z;obtain⟨d0,_⟩:=ih.b rfl;subst d0;rw[g.rhs0]at e;have e6:ah G r'=6:=by exact aP e.symm
   clear ih i e;revert e6;refine jx r0 r5 (λ_=>cc.c1) (λ_=>cc.c2) (λe6=>?_) λe6=>?_
   .rw[g.lhs3]at e6;lia
   .rw[g.lhs4]at e6;lia
  .obtain⟨q,eq,c⟩:=ih.a z;have d0:d=0:=by
    induction d with
    |zero=>rfl
    |succ d=>exact bv eq
   subst d0;have q0:q=0:=by exact aP eq.symm
   subst q0;exact cc.pr 0 r 0 0 r' c e r0 r5
theorem Inv.push (h:Inv G S C ((s,p)::r)) (gt:GT S s X j) (adv:∀k d q,0<k->(ae G k)[d]? =some X->Ch C p k d q->Ch C p2 k (d+1) q)
 (adv0:s=0->p=0->X=6->∃k',ah G k'=6/\Ch C p2 k' (ae G k').length 0) (X0:X≠0):Inv G S C ((j,p2)::(s,p)::r):=by
 o_shape;obtain⟨h1,h2,h3⟩:=id h;pv_eval;refine⟨(GT.lt ok gt).2.2,⟨⟨X,gt⟩,h⟩,λk d i=>?_⟩;refine In.ind g ok (p:=j) (Pr:=IvK G C ((j,p2)::(s,p)::r) p2 (r.length+1)) (λk d i=>?_) (λz=>?_) (λk d r' i ih e r0 r5=>⟨λ_=>⟨p2,rfl,?_⟩,λz=>by lia⟩) i
 .obtain⟨ib,eb⟩:=i.back ok gt;refine⟨λk0=>?_,λk0=>?_⟩
  .o_shape;obtain⟨q,eq,c⟩:=(h3 k d ib).a k0;pv_eval;exact⟨q,eq,adv k d q k0 eb c⟩
  .subst k0;obtain⟨d1,d2,d3⟩:=(h3 0 d ib).b rfl;rw[g.rhs0]at eb;have d0:d=0:=by
    rcases lt_or_ge d 1 with z|z
    .lia
    .have:d=1:=by lia
     subst this;exact absurd (aP eb.symm) X0
   subst d0;have X6:X=6:=by exact aP eb.symm
   have rn:r=[]:=length_eq_zero_iff.1 d1.symm;subst rn;refine⟨rfl,by lia,λ_=>?_⟩;have s0:=In.zero g ok ib;subst s0;exact adv0 rfl h2.2 X6
 .have:=GT.pos ok gt;lia
 .rcases dH k with z|z
  .subst z;obtain⟨d1,d2,_⟩:=ih.b rfl;have:d=1:=by lia
   subst this;rw[g.rhs0]at e;have:ah G r'=0:=by exact aP e.symm
   have:=g.lhs8 r5;lia
  .o_shape;obtain⟨q,eq,c⟩:=ih.a z;pv_eval;exact cc.pr p2 k d q r' c e r0 r5
omit g ok cc in
theorem Inv.drop:∀{zs:List (Nat×Nat)},Inv G S C zs->d<zs.length->Inv G S C (zs.drop d):=by
 induction d with
 |zero=>intro zs h _;exact h
 |succ d ih=>
  intro zs h l;rcases zs with _|⟨a,_|⟨b,r⟩⟩
  .exact h.elim
  .exact nomatch l
  .exact ih h.2.1.2 (Nat.le_of_succ_le_succ l)
omit g cc in
theorem Inv.origin:∀{s p:Nat} {r:List (Nat×Nat)},Inv G S C ((s,p)::r)->In G S s k d->d<=r.length->E3 λs' p' r'=>A2 (((s,p)::r).drop d=(s',p')::r') (In G S s' k 0):=by
 induction d with
 |zero=>exact λ{s p r} h i l=>⟨s,p,r,rfl,i⟩
 |succ d ih=>
  intro s p r h i l;rcases r with _|⟨q,r⟩
  .exact nomatch l
  .o_shape;obtain⟨_,⟨⟨X,gt⟩,h2⟩,_⟩:=h;pv_eval;exact ih h2 (i.back ok gt).1 (Nat.le_of_succ_le_succ l)
theorem Inv.reduce (h:Inv G S C ((s,p)::r)) (i:In G S s k (ae G k).length) (k0:0<k) (k5:k<5):E4 λs' p' r' j=>A3 (((s,p)::r).drop (ae G k).length=(s',p')::r') (GT S s' (ah G k) j) (Inv G S C ((j,p)::(s',p')::r')):=by
 o_shape;obtain⟨q,eq,c⟩:=(h.2.2 k _ i).a k0;have l:(ae G k).length<((s,p)::r).length:=by
  rcases lt_or_ge (ae G k).length ((s,p)::r).length with z|z
  .exact z
  .rw[getElem?_eq_none z]at eq;exact bv eq
 obtain⟨s',p',r',ed,i0⟩:=Inv.origin ok h i (by simp at l;lia);pv_eval;have h':=h.drop l;rw[ed]at h';have ep:q=p':=by
  have:((s,p)::r)[(ae G k).length]? =some (s',p'):=by
   have:=be (·[0]?) ed
   simpa[getElem?_drop]using this
  rw[this]at eq
  simpa using eq.symm
 subst ep;o_shape;obtain⟨k',d',i',e'⟩:=i0.pred g ok k0;obtain⟨j,gt,_⟩:=i'.step ok e';pv_eval;refine⟨s',q,r',j,ed,gt,Inv.push g ok cc h' gt (λk1 d1 q1 k10 e1 c1=>cc.co p k q k1 d1 q1 c c1 e1) (λ_ q0 X6=>⟨k,X6,q0▸c⟩) (by have:=g.lhs8 k5;lia)⟩
theorem Inv.due (h:Inv G S C ((s,p)::r)) (gt:GT S s t j) (t5:t<5):iP G C p t:=by
 obtain⟨k,d,i,e⟩:=gt.item ok;rcases dH k with z|z
 .subst z;obtain⟨d1,d2,d3⟩:=(h.2.2 0 d i).b rfl;rw[g.rhs0]at e;rcases lt_or_ge d 1 with z|z
  .have:d=0:=by lia
   subst this;have:t=6:=by exact aP e.symm
   lia
  .have:d=1:=by lia
   subst this;exact .inr ⟨by exact aP e.symm,d3 rfl⟩
 .o_shape;obtain⟨q,_,c⟩:=(h.2.2 k d i).a z;pv_eval;have:=g.sym k t z (aF e);exact .inl ⟨by lia,k,d,q,c,e⟩
theorem Inv.shift {s p t j:Nat} (h:Inv G S C ((s,p)::r)) (gt:GT S s t j) (t5:t<5) (t0:t≠0) (et:w[p]? =some t):Inv G S C ((j,p+1)::(s,p)::r):=
 Inv.push g ok cc h gt (λk d q k0 e c=>cc.sc p k d q t c e et) (λ_ _ X6=>by lia) t0
variable{mf:Nat->Nat->Nat} {T:TF} {clean:Prop} (tk:TOk G S mf T clean)
include tk
theorem Inv.run (t5:t<5) (n:Nat):∀{s p:Nat} {r:List (Nat×Nat)},Inv G S C ((s,p)::r)->(match bP T t n (s::r.map (·.1))with
 |.bad=>False
 |.no=>True
 |.yes st v=>E4 λ(rs:List Nat) (s':Nat) (r':List (Nat×Nat)) (j:Nat)=>A5 (Inv G S C ((s',p)::r')) (st=s'::r'.map (·.1)) (GT S s' t j) (v=ds t j) (∀inp,Run T (s::r.map (·.1)) (t::inp) (rs.map some) st (t::inp))):=by
 induction n with
 |zero=>intro s p r h;exact trivial
 |succ n ih0=>
  intro s p r h;refine O (fc ..) ?_;by_cases gx:∃j,GT S s t j
  .obtain⟨j,gt⟩:=gx;have ac:=tk.tbl.sh s t j t5 gt;exact O ac (O (ax (gR (GT.pos ok gt))) ⟨[],s,r,j,h,rfl,gt,rfl,λinp=>.nil⟩)
  .rcases tk.tbl.rd s t h.1 t5 λj z=>gx ⟨j,z⟩with ac|⟨k,k0,k5,i,ac⟩
   .refine O ac (O (ai (by lia)) (O (ax rfl) ?_));trivial
   .o_shape;obtain⟨s',p',r',j,ed,gt,h'⟩:=Inv.reduce g ok cc h i k0 k5;pv_eval;have er:(-(-(k:Int))).toNat=k:=by lia
    have ed2:(s::r.map (·.1)).drop (ae G k).length=s'::r'.map (·.1):=by
     have:=be (List.map (·.1)) ed;exact(Oe map_drop this)
    have ih:=ih0 h';refine O ac (O (ai (by lia)) (O (ai (by lia)) (O er (O tk.ln (O tk.lf (O tk.go ?_))))));simp only[ed2,jk ok gt];refine O (ai (by lia)) ?_;split
    .rename_i e;have e':bP T t n (j::((s',p')::r').map (·.1))=.bad:=e;rw[e']at ih;exact ih
    .trivial
    .rename_i st v e;have e':bP T t n (j::((s',p')::r').map (·.1))=.yes st v:=e;rw[e']at ih;o_shape;obtain⟨rs,s2,r2,j2,q1,q2,q3,q4,q5⟩:=ih;pv_eval;refine⟨k::rs,s2,r2,j2,q1,q2,q3,q4,λinp=>.cons ?_ (q5 inp)⟩;refine O (gu ..) (O ac (O (ai (by lia)) (O (ai (by lia)) (O er (O tk.ln (O tk.lf (O tk.go ?_)))))));simp only[ed2,jk ok gt];exact O (ai (by lia)) rfl
end
end
theorem kq (h:r -1<4):r<5:=by lia
def L (G:GG) (γ w:List Nat):Prop:=∃as,D G γ w as
theorem L.nil:L G [] []:=⟨_,.nil⟩
theorem L.app (h:L G γ w) (k:L G δ v):L G (γ++δ) (w++v):=⟨_,h.choose_spec.app k.choose_spec⟩
theorem L.t {G:GG} {t:Nat} (h:t<5):L G [t] [t]:=⟨_,.t h .nil⟩
theorem L.mk (a:0<r) (b:r<5) (h:L G (ae G r) w):L G [ah G r] w:=⟨_,.mk1 a b rfl h.choose_spec⟩
theorem L.list {G:GG} {γ:List Nat} (h:∀x∈γ,∃y,L G [x] y):∃y,L G γ y:=by
 induction γ with
 |nil=>exact⟨[],.nil⟩
 |cons x γ ih=>
  obtain⟨y,hy⟩:=h x (bJ);obtain⟨z,hz⟩:=ih λx m=>h x (dw _ m);exact⟨_,hy.app hz⟩
theorem Good.syms (g:Good G) {x:Nat} (h:x=3\/x=4\/x=6\/x=7):∃y,L G [x] y:=by
 have h3:∃y,L G [7] y:=by
  obtain⟨y,hy⟩:=L.list (G:=G) (γ:=ae G 3) λx m=>⟨[x],.t (g.three x m)⟩;exact⟨y,g.lhs3▸hy.mk (by decide) (by decide)⟩
 have h1:∃y,L G [6] y:=by
  obtain⟨y,hy⟩:=L.list (G:=G) (γ:=ae G 1) λx m=>by
   have:=g.one x m;rcases g.sym 1 x (by decide) m with rfl|rfl|rfl|rfl
   .exact⟨_,.t (by decide)⟩
   .exact⟨_,.t (by decide)⟩
   .exact absurd rfl this
   .exact h3
  exact⟨y,g.lhs1▸hy.mk (by decide) (by decide)⟩
 rcases h with rfl|rfl|rfl|rfl
 .exact⟨_,.t (by decide)⟩
 .exact⟨_,.t (by decide)⟩
 .exact h1
 .exact h3
theorem Good.rest (g:Good G) (h:0<r) (s:∀x∈γ,x∈ae G r):∃y,L G γ y:=L.list λx m=>g.syms (g.sym r x h (s x m))
theorem Good.prod (g:Good G):Prod G:=⟨g,λr r0 _=>by obtain⟨y,a,h⟩:=g.rest r0 (γ:=ae G r) λ_ m=>m;exact⟨y,a,h⟩⟩
structure EmpOk (G:GG) (E:List Nat):Prop where
 snd:∀X∈E,L G [X] []
 cl:∀r,0<r->r<5->(∀x∈ae G r,x∈E)->ah G r∈E
theorem EmpOk.of (h:EmpOk G E) (d:D G γ w as) (e:w=[]):∀x∈γ,x∈E:=by
 induction d with
 |nil=>intro x m;cases m
 |t _ _ _=>cases e
 |n p0 p5 eX _ _ i1 i2=>
  obtain⟨e1,e2⟩:=append_eq_nil_iff.1 e;intro x m;rcases mem_cons.1 m with rfl|m
  .exact Ob eX (h.cl _ p0 p5 (i1 e1))
  .exact i2 e2 x m
inductive CG (G:GG) (E:List Nat) (C:List (List aR)) (b:List aR):aR->Prop
 |beg {e:aR}:e∈b->CG G E C b e
 |pred {n d o X n':Nat}:CG G E C b (n,d,o)->(ae G (n+1))[d]? =some X->5<X->n'<4->ah G (n'+1)=X->CG G E C b (n',0,C.length)
 |emp {n d o X:Nat}:CG G E C b (n,d,o)->(ae G (n+1))[d]? =some X->X∈E->CG G E C b (n,d+1,o)
 |old {n o n' d' o':Nat} {col:List aR}:CG G E C b (n,(ae G (n+1)).length,o)->C[o]? =some col->(n',d',o')∈col->(ae G (n'+1))[d']? =some (ah G (n+1))->CG G E C b (n',d'+1,o')
 |cur {n o n' d' o':Nat}:CG G E C b (n,(ae G (n+1)).length,o)->C.length<=o->CG G E C b (n',d',o')->(ae G (n'+1))[d']? =some (ah G (n+1))->CG G E C b (n',d'+1,o')
structure ColOk (G:GG) (E:List Nat) (C:List (List aR)) (b col:List aR):Prop where
 gen:∀e∈col,CG G E C b e
 beg:∀e∈b,e∈col
 pred:∀n d o X n',(n,d,o)∈col->(ae G (n+1))[d]? =some X->5<X->n'<4->ah G (n'+1)=X->(n',0,C.length)∈col
 emp:∀n d o X,(n,d,o)∈col->(ae G (n+1))[d]? =some X->5<X->X∈E->(n,d+1,o)∈col
 old:∀n o c n' d' o',(n,(ae G (n+1)).length,o)∈col->C[o]? =some c->(n',d',o')∈c->(ae G (n'+1))[d']? =some (ah G (n+1))->(n',d'+1,o')∈col
def jL (G:GG) (c:List aR) (t:Nat) (b:List aR):Prop:=∀e,e∈b↔∃n d o,(n,d,o)∈c/\(ae G (n+1))[d]? =some t/\e=(n,d+1,o)
inductive ChSt (G:GG) (E:List Nat):List Nat->List (List aR)->Prop
 |start {col:List aR}:ColOk G E [] [(0,0,0),(1,0,0)] col->ChSt G E [] [col]
 |next{w:List Nat} {C:List (List aR)} {t:Nat} {b col c:List aR}:ChSt G E w C->C[w.length]? =some c->jL G c t b->t<5->ColOk G E C b col->ChSt G E (w++[t]) (C++[col])
structure EntOk (G:GG) (v:List Nat) (e:aR):Prop where
 n4:e.1<4
 dl:e.2.1<=(ae G (e.1+1)).length
 ol:e.2.2<=v.length
 wd:L G ((ae G (e.1+1)).take e.2.1) (v.drop e.2.2)
 cx:∀y,L G [ah G (e.1+1)] y->∃u,L G [6] (v.take e.2.2++y++u)
section
variable{G:GG} {E:List Nat} (g:Good G) (he:EmpOk G E)
theorem ChSt.len {w:List Nat} {C:List (List aR)} (h:ChSt G E w C):C.length=w.length+1:=by
 induction h with
 |start _=>rfl
 |next _ _ _ _ _ ih=>exact O bT (O bT (O ih rfl))
theorem ym {l:List Nat} {d X:Nat} (e:l[d]? =some X):l.take (d+1)=l.take d++[X]:=by exact O take_add_one (O e rfl)
theorem EntOk.adv {n d o X:Nat} (h:EntOk G v (n,d,o)) (e:(ae G (n+1))[d]? =some X) (k:L G [X] y):EntOk G (v++y) (n,d+1,o):=by
 have ol:o<=v.length:=h.ol;refine⟨h.n4,av e,by refine O bT ?_;show o<=_;lia,?_,λz hz=>?_⟩
 .show L G ((ae G (n+1)).take (d+1)) ((v++y).drop o);exact O (ym e) (O (List.drop_append_of_le_length ol) (h.wd.app k))
 .obtain⟨u,hu⟩:=h.cx z hz;refine⟨u,?_⟩;show L G [6] ((v++y).take o++z++u);exact O (List.take_append_of_le_length ol) hu
include g he
theorem CG.ok {v:List Nat} {C:List (List aR)} (lc:C.length=v.length) (hC:∀i col,C[i]? =some col->∀e∈col,EntOk G (v.take i) e) (hb:∀e∈b,EntOk G v e) (h:CG G E C b e):EntOk G v e:=by
 induction h with
 |beg m=>exact hb _ m
 | @pred n d o X n' h e x5 n4 ex ih=>
   refine⟨n4,zero_le _,by show C.length<=_;exact le_of_eq ‹_›,?_,λy hy=>?_⟩
   .show L G [] (v.drop C.length);exact O lc (O drop_length .nil)
   .obtain⟨u',hu'⟩:=g.rest (r:=n+1) (aG rfl) (γ:=(ae G (n+1)).drop (d+1)) λx m=>mem_of_mem_drop m;have ed:ae G (n+1)=(ae G (n+1)).take d++([X]++(ae G (n+1)).drop (d+1)):=by
     have:=ym e
     conv=>lhs;rw[<-take_append_drop (d+1) (ae G (n+1)),this]
     exact O (cw ..) rfl
    have hy':L G [X] y:=by exact Ob ex hy
    have big:L G (ae G (n+1)) (v.drop o++(y++u')):=by
     exact O ed (L.app ih.wd (hy'.app hu'))
    obtain⟨u,hu⟩:=ih.cx _ (big.mk (aG rfl) (by have:n<4:=ih.n4;exact di ‹_›));refine⟨u'++u,?_⟩;show L G [6] (v.take C.length++y++(u'++u));refine O lc (O take_length ?_);have:v.take o++(v.drop o++(y++u'))++u=v++y++(u'++u):=by
     rw[<-append_assoc (v.take o)];refine O (take_append_drop ..) ?_;simp
    exact Ob this hu
 | @emp n d o X h e m ih=>
   have:=ih.adv e (he.snd X m);rwa[append_nil]at this
 | @old n o n' d' o' col h ec m e ih=>
   have k:=hC o col ec _ m;have l:=av ec;have:=k.adv e (L.mk (aG rfl) (by have:n<4:=ih.n4;exact di ‹_›) (by have:=ih.wd;rw[take_length]at this;exact this));rwa[take_append_drop]at this
 | @cur n o n' d' o' h l h' e ih ih'=>
   have ol:o<=v.length:=ih.ol;have w0:=ih.wd;rw[take_length]at w0;have:(n,(ae G (n+1)).length,o).2.2=o:=rfl;rw[this,show o=v.length by lia,drop_length]at w0;have:=ih'.adv e (L.mk (aG rfl) (by have:n<4:=ih.n4;exact di ‹_›) w0);rwa[append_nil]at this
theorem ChSt.ok {w:List Nat} (h:ChSt G E w C):∀(i:Nat) col,C[i]? =some col->∀e∈col,EntOk G (w.take i) e:=by
 induction h with
 | @start col h=>
   intro i c ec e m;have i0:i=0:=by have:=av ec;simp at this;assumption
   subst i0;have:c=col:=by exact aP ec.symm
   subst this;refine CG.ok g he (v:=[]) (C:=[]) rfl (λi col e=>by simp at e) (λe m=>?_) (h.gen e m);have h6:∀y,L G [6] y->∃u,L G [6] (([]:List Nat).take 0++y++u):=λy hy=>⟨[],by simpa using hy⟩;rcases mem_cons.1 m with rfl|m
   .exact⟨by decide,zero_le _,aY _,.nil,λy hy=>h6 y (g.lhs1▸hy)⟩
   .have:e=(1,0,0):=by exact VX.1 m
    subst this;exact⟨by decide,zero_le _,aY _,.nil,λy hy=>h6 y (g.lhs2▸hy)⟩
 | @next w C t b col c h ec mv t5 co ih=>
   have lc:=h.len;have old:∀(i:Nat) col',C[i]? =some col'->∀e∈col',EntOk G ((w++[t]).take i) e:=λi col' e1 e m=>by
    have l:=av e1;exact O (List.take_append_of_le_length (by lia)) (ih i col' e1 e m)
   intro i c' e1 e m;rcases lt_or_ge i C.length with z|z
   .exact old i c' (Oe (cF z) e1) e m
   .replace e1:=Oe (dj z) e1
    have:=av e1;have ei:i=C.length:=Nat.le_antisymm (Nat.sub_eq_zero_iff_le.1 (lt_one_iff.1 this)) z;subst ei;have:c'=col:=by simpa using e1.symm
    subst this;have ll:(w++[t]).length=C.length:=by exact O bT (O lc rfl)
    refine Ob ll (O take_length (CG.ok g he ll.symm old (λe m=>?_) (co.gen e m)));obtain⟨n,d,o,m',er,rfl⟩:=(mv e).1 m;have k:=ih _ c ec _ m';rw[take_length]at k;exact k.adv er (.t t5)
theorem ChSt.cl (h:ChSt G E w C):ChCl G w C:=by
 have sub1:∀{r:Nat},0<r->r -1+1=r:=λh=>by exact sub_add_cancel ‹_›
 induction h with
 | @start col h=>
   have one:∀{k r d o},Ch [col] k r d o↔k=0/\0<r/\(r -1,d,o)∈col:=λ{k r d o}=>by
    constructor
    .rintro⟨r0,c,ec,m⟩;have:=av ec;have k0:k=0:=by simp at this;assumption
     subst k0;have:c=col:=by exact aP ec.symm
     subst this;exact⟨rfl,r0,m⟩
    .rintro⟨rfl,r0,m⟩;exact⟨r0,col,rfl,m⟩
   have ent:=(ChSt.start h).ok g he 0 col rfl;refine⟨rfl,one.2 ⟨rfl,by decide,h.beg _ (by trivial)⟩,one.2 ⟨rfl,by decide,h.beg _ (by trivial)⟩,λk r d o r' c e r0 r5=>?_,λk r o r' d' o' c c' e=>?_,λk r d o t c e ew=>by simp at ew⟩
   .obtain⟨rfl,rr,m⟩:=one.1 c;exact one.2 ⟨rfl,r0,h.pred (r -1) d o _ (r' -1) m (O (sub1 rr) e) (by have:=g.lab r0 r5;lia) (Nat.sub_lt_left_of_lt_add r0 r5) (O (sub1 r0) rfl)⟩
   .obtain⟨rfl,rr,m⟩:=one.1 c;obtain⟨rfl,rr',m'⟩:=one.1 c';have k:=ent _ m;have w0:=k.wd;have r5:r<5:=kq k.n4;have lm:ah G r∈E:=by
     refine he.of (L.mk rr r5 (w:=[]) ?_).choose_spec rfl _ (bJ);have:L G ((ae G (r -1+1)).take (ae G r).length) []:=by exact w0
     rwa[sub1 rr,take_length]at this
    exact one.2 ⟨rfl,rr',h.emp (r' -1) d' o' _ m' (O (sub1 rr') e) (by have:=g.lab rr r5;lia) lm⟩
 | @next w C t b col c h ec mv t5 co ih=>
   have lc:=h.len;have ent:=(ChSt.next h ec mv t5 co).ok g he;have old:∀{k r d o},k<C.length->(Ch (C++[col]) k r d o↔Ch C k r d o):=λ{k r d o} l=>by
    unfold Ch;rw[List.getElem?_append_left l]
   have new:∀{r d o},Ch (C++[col]) C.length r d o↔0<r/\(r -1,d,o)∈col:=λ{r d o}=>by
    unfold Ch;refine O (dj (aY _)) (O (sub_self ..) ?_);exact and_congr_right λ_=>⟨λ⟨c',e,m⟩=>by have:c'=col:=by exact aP e.symm
                                                                                                 obtain rfl:=this.symm;exact m,λm=>⟨col,rfl,m⟩⟩
   have kc:∀{k r d o},Ch (C++[col]) k r d o->k<C.length\/k=C.length:=λ{k r d o} ⟨_,c',e,_⟩=>by
    have:=av e;rw[length_append]at this;simp at this;lia
   refine⟨by rw[length_append,length_append,lc];rfl,(old (by lia)).2 ih.c1,(old (by lia)).2 ih.c2,λk r d o r' cc e r0 r5=>?_,λk r o r' d' o' cc cc' e=>?_,λk r d o t' cc e ew=>?_⟩
   .rcases kc cc with l|rfl
    .exact(old l).2 (ih.pr k r d o r' ((old l).1 cc) e r0 r5)
    .obtain⟨rr,m⟩:=new.1 cc;exact new.2 ⟨r0,co.pred (r -1) d o _ (r' -1) m (by rw[sub1 rr];exact e) (by have:=g.lab r0 r5;lia) (Nat.sub_lt_left_of_lt_add r0 r5) (by rw[sub1 r0])⟩
   .rcases kc cc with l|rfl
    .have k1:=(old l).1 cc;obtain⟨rr,c1,ec1,m1⟩:=k1;have ol:o<=k:=by
      have:=(h.ok g he k c1 ec1 _ m1).ol;rw[length_take]at this;have:(r -1,(ae G r).length,o).2.2=o:=rfl;lia
     exact(old l).2 (ih.co k r o r' d' o' ⟨rr,c1,ec1,m1⟩ ((old (cn ‹_› ‹_›)).1 cc') e)
    .obtain⟨rr,m⟩:=new.1 cc;have k:=ent C.length col (O (dj (aY _)) (O (sub_self ..) rfl)) _ m;have ll:(w++[t]).length=C.length:=by exact O bT (O lc rfl)
     rw[<-ll,take_length]at k;have r5:r<5:=kq k.n4;have ol:o<=(w++[t]).length:=k.ol;rcases kc cc' with lo|rfl
     .obtain⟨rr',c1,ec1,m1⟩:=(old lo).1 cc';exact new.2 ⟨rr',co.old (r -1) o c1 (r' -1) d' o' (O (sub1 rr) m) ec1 m1 (O (sub1 rr) (O (sub1 rr') e))⟩
     .obtain⟨rr',m'⟩:=new.1 cc';have w0:L G ((ae G (r -1+1)).take (ae G r).length) ((w++[t]).drop C.length):=k.wd;rw[sub1 rr,take_length,<-ll,drop_length]at w0;have lm:ah G r∈E:=he.of (L.mk rr r5 w0).choose_spec rfl _ (bJ);exact new.2 ⟨rr',co.emp (r' -1) d' o' _ m' (O (sub1 rr') e) (by have:=g.lab rr r5;lia) lm⟩
   .rcases lt_or_ge k w.length with z|z
    .exact(old (by lia)).2 (ih.sc k r d o t' ((old (by lia)).1 cc) e (Oe (cF z) ew))
    .replace ew:=Oe (dj z) ew
     have:=av ew;have ek:k=w.length:=by simp at this;lia
     subst ek;have:t'=t:=by simpa using ew.symm
     obtain rfl:=this.symm;obtain⟨rr,c1,ec1,m1⟩:=(old (le_of_eq (Eq.symm ‹_›))).1 cc;obtain rfl:=Os ec ec1;refine O (show w.length+1=C.length by lia) ?_;exact new.2 ⟨rr,co.beg _ ((mv _).2 ⟨r -1,d,o,m1,by exact O (sub1 rr) e,rfl⟩)⟩
theorem ChSt.due {w:List Nat} (h:ChSt G E w C) (d:iP G C w.length t) (t5:t<5):∃u,L G [6] (w++if t=0 then[]else t::u):=by
 rcases d with⟨t0,r,d,o,⟨r0,c,ec,m⟩,e⟩|⟨eQ,r,e6,r0,c,ec,m⟩
 .have k:=h.ok g he _ c ec _ m;rw[take_length]at k;have er:r -1+1=r:=by exact sub_add_cancel ‹_›
  have r5:r<5:=kq k.n4;obtain⟨u',hu'⟩:=g.rest r0 (γ:=(ae G r).drop (d+1)) λx m=>mem_of_mem_drop m;have wd:L G ((ae G (r -1+1)).take d) (w.drop o):=k.wd;rw[er]at wd;have ed:ae G r=(ae G r).take d++([t]++(ae G r).drop (d+1)):=by
   have:=ym e
   conv=>lhs;rw[<-take_append_drop (d+1) (ae G r),this]
   exact O (cw ..) rfl
  have big:L G (ae G r) (w.drop o++([t]++u')):=by
   exact O ed (L.app wd ((L.t t5).app hu'))
  have cx:=k.cx;rw[er]at cx;obtain⟨u,hu⟩:=cx _ (big.mk r0 r5);refine⟨u'++u,?_⟩;refine O (ai t0) ?_;have:w.take o++(w.drop o++([t]++u'))++u=w++t::(u'++u):=by
   rw[<-append_assoc (w.take o)];refine O (take_append_drop ..) ?_;simp
  exact Ob this hu
 .obtain rfl:=eQ.symm;have k:=h.ok g he _ c ec _ m;rw[take_length]at k;have er:r -1+1=r:=by exact sub_add_cancel ‹_›
  have r5:r<5:=kq k.n4;have wd:L G ((ae G (r -1+1)).take (ae G r).length) (w.drop 0):=k.wd;rw[er,take_length,List.drop_zero]at wd;refine⟨[],?_⟩;exact O (ax rfl) (O (append_nil ..) (Ob e6 (wd.mk r0 r5)))
end
structure At (G:GG) (S:List SG) (E:List Nat) (T:TF) (w:List Nat) (C:List (List aR)) (st:List Nat):Prop where
 ch:ChSt G E w C
 inv:∃s r,st=s::r.map (·.1)/\Inv G S C ((s,w.length)::r)
 run:∃aw,∀x,Run T [0] (w++x) aw st x
section
variable{G:GG} {S:List SG} {E:List Nat} {mf:Nat->Nat->Nat} {T:TF} {clean:Prop} {Fo:Nat->Nat->Nat->Prop} (g:Good G) (ok:AutOk G S) (he:EmpOk G E) (tk:TOk G S mf T clean)
include g ok he in
theorem At.start {col:List aR} (h:ColOk G E [] [(0,0,0),(1,0,0)] col):At G S E T [] [col] [0]:=
 ⟨.start h,⟨0,[],rfl,Inv.start g ok ((ChSt.start h).cl g he)⟩,[],λx=>.nil⟩
variable{w st:List Nat} {C:List (List aR)} (h:At G S E T w C st)
include h
theorem At.ne:st≠[]:=by obtain⟨s,r,rfl,_⟩:=h.inv;simp
theorem At.lt:∀s∈st,s<S.length:=by
 obtain⟨s,r,rfl,hi⟩:=h.inv;have key:∀{zs:List (Nat×Nat)},Inv G S C zs->∀s∈zs.map (·.1),s<S.length:=by
  intro zs
  induction zs with
  |nil=>intro h;exact h.elim
  |cons z zs ih=>
   obtain⟨s,p⟩:=z;intro hi x m;rcases mem_cons.1 m with eQ|m
   .obtain rfl:=eQ.symm;exact hi.1
   .induction zs with
    |nil=>rcases m
    |cons z2 zs=>exact ih hi.2.1.2 x m
 exact key hi
include g ok he tk
theorem At.sound {t:Nat} (t5:t<5) (n:Nat):bP T t n st≠.bad/\∀st' v,bP T t n st=.yes st' v->iP G C w.length t/\0<v/\(t=0->v=1048576)/\
 (t≠0->v.toNat<S.length/\v=(v.toNat:Int)/\∀{b col c:List aR},C[w.length]? =some c->jL G c t b->ColOk G E C b col->At G S E T (w++[t]) (C++[col]) (v.toNat::st')):=by
 obtain⟨s,r,rfl,hi⟩:=h.inv;have hr:=Inv.run g ok (h.ch.cl g he) tk t5 n hi
 induction e:bP T t n (s::r.map (·.1))with
 |bad=>rw[e]at hr;exact hr.elim
 |no=>exact⟨λz=>(by cases z),λst' v z=>(by cases z)⟩
 |yes st1 v1=>
  rw[e]at hr;refine⟨λz=>(by cases z),λst' v z=>?_⟩
  cases z
  obtain⟨rs,s',r',j,i1,rfl,gt,rfl,rn⟩:=hr;have jp:=GT.pos ok gt;refine⟨Inv.due g ok (h.ch.cl g he) i1 gt t5,gR jp,λt0=>by rw[ds];exact O (ax t0) rfl,λt0=>?_⟩;have ev:(ds t j).toNat=j:=by rw[ds];exact O (ai t0) rfl
  refine⟨by exact O ev (GT.lt ok gt).2.2,by refine O ev ?_;rw[ds];exact O (ai t0) rfl,λ{b col c} ec mv co=>?_⟩;have ch2:=ChSt.next h.ch ec mv t5 co;have i2:=Inv.start g ok (ch2.cl g he);refine O ev ⟨ch2,⟨j,(s',w.length)::r',rfl,?_⟩,?_⟩
  .refine O bT ?_;refine Inv.shift g ok (ch2.cl g he) (C:=C++[col]) ?_ gt t5 t0 (O (dj (aY _)) (O (sub_self ..) rfl));have grow:∀{zs:List (Nat×Nat)},Inv G S C zs->Inv G S (C++[col]) zs:=by
    intro zs
    induction zs with
    |nil=>intro h;exact h
    |cons z zs ih=>
     obtain⟨s,p⟩:=z;intro hi;have up:∀{k r d o},Ch C k r d o->Ch (C++[col]) k r d o:=λ{k r d o} ⟨r0,c,e,m⟩=>⟨r0,c,by exact O (cF (av e)) e,m⟩;refine⟨hi.1,?_,λk d i=>⟨λk0=>by obtain⟨q,e,c⟩:=(hi.2.2 k d i).1 k0;exact⟨q,e,up c⟩,λk0=>by obtain⟨a,b,c⟩:=(hi.2.2 k d i).2 k0;exact⟨a,b,λd1=>let⟨k',e,c⟩:=c d1;⟨k',e,up c⟩⟩⟩⟩
     induction zs with
     |nil=>exact hi.2.1
     |cons z2 zs=>exact⟨hi.2.1.1,ih hi.2.1.2⟩
   exact grow i1
  .obtain⟨aw,ha⟩:=h.run;refine⟨aw++(rs.map some++[none]),λx=>?_⟩;refine O (cw ..) ((ha ([t]++x)).app ((rn x).app (.cons ?_ .nil)));exact O (gu ..) (O (tk.tbl.sh s' t j t5 gt) (O (ax (gR jp)) (O (ai t0) (O ev rfl))))
theorem At.full (fk:FoOk G S mf Fo) (i00:In G S 0 0 0) (cl:clean) (w5:w.length<=5) (t5:t<5) (d:iP G C w.length t):∃st' v,bP T t 40 st=.yes st' v:=by
 obtain⟨u,as,hd⟩:=h.ch.due g he d t5;obtain⟨aw,ha⟩:=h.run;obtain⟨st',v,e,_⟩:=Vd g ok tk fk cl g.prod i00 ha w5 hd;exact⟨st',v,e⟩
end
theorem Q7 {k:Int} (h:0<=k) (l:k<1000):k.natAbs<2^40:=by
 obtain⟨n,rfl⟩:=eq_ofNat_of_zero_le h;exact lt_trans (ofNat_lt.1 l) (by decide)
theorem Q6 {k:Int} (h:0<=k) (l:k<1000):(k+1).natAbs<2^40:=by
 obtain⟨n,rfl⟩:=eq_ofNat_of_zero_le h;exact cn (Nat.succ_le_of_lt (ofNat_lt.1 l)) (by decide)
section
variable{B:Bs} (hB:Base B) {n:Nat} {V:IH} {Q:QE}
include hB
theorem Da (q:∀p V',H V V' [(p,.inst 340 (fE k l r))]->Q (.ref p) V'):CallOk B (n+2) 340 [.int k,.int l,.tup (nl r)] V Q:=by
 refine fq hB (init:=337) (by decide) λp hp=>?_;refine EV hB ?_;have h0:=(H.nil (V:=V)).new (.inst 340 []) hp;generalize upd V p (.inst 340 [])=V0 at h0⊢;w_fin;refine cX h0 rfl (by decide) (aG rfl) λV1 h1=>?_;w_fin;refine cX h1 rfl (by decide) (aG rfl) λV2 h2=>?_;w_fin;refine cX h2 rfl (by decide) (aG rfl) λV3 h3=>?_;w_fin;refine cX h3 rfl (by decide) (aG rfl) λV4 h4=>?_;w_fin;refine cX h4 rfl (by decide) (aG rfl) λV5 h5=>?_;w_fin;refine cX h5 rfl (by decide) (aG rfl) λV6 h6=>?_;w_fin;refine cX h6 rfl (by decide) (aG rfl) λV7 h7=>?_;exact⟨rfl,q p _ h7⟩
theorem gp {ns:List Int} {k many:Int} (k0:0<=k) (k1:k<1000) (m0:0<many) (q:∀(v:Nat) V',(v:Int)<many->Ext V V'->Q (.int v) V'):CallOk B (n+1) 765 [.frz ns,.int k,.int many] V Q:=by
 refine FL hB ?_;have fin:∀(i:Int) V',Ext V V'->binI .Mod (.int i) (.int many) Q V':=λi V' ex=>by
  refine binI.int _ _ rfl rfl ⟨Int.ne_of_gt m0,?_⟩;have h1:=Int.fmod_nonneg_of_pos i m0;have h2:=Int.fmod_lt_of_pos i m0;have:=q (i.fmod many).toNat V' (O (Int.toNat_of_nonneg h1) h2) ex;rwa[Int.toNat_of_nonneg h1]at this
 w_fin;refine .frz ns rfl<|dE<|aO (λc=>?_) (λc=>?_)
 .w_fin;have kl:k.toNat<ns.length:=(Int.toNat_lt k0).2 c;refine bg kl λx hx=>?_;exact .frz ns k k.toNat x rfl rfl (G9 k0 c) hx (fin x V Ext.rfl)
 .w_fin;refine de<|binI.int _ _ rfl rfl ⟨Q7 k0 k1,Q6 k0 k1,?_⟩;refine binI.int _ _ rfl rfl ⟨by decide,by decide,?_⟩;refine .frz ns 40 rfl rfl (by decide) λr hr=>?_;refine⟨r,_,ns.take 40,rfl,bB _ _ _,gY _,?_⟩;exact de (fin _ _ (Ext.new hr))
theorem qV (k0:0<=k) (k1:k<100) (m1:m<100) (hsy:V sy=some (.list (nl syms))) (s0:syms≠[])
 (q:∀(r:List Nat) V',Ext V V'->r.length=m->(∀x∈r,x∈syms)->Q (.tup (nl r)) V'):CallOk B (n+2) 770 [.frz ns,.int k,.int m,.ref sy] V Q:=by
 refine FM hB ?_;w_fin;refine dF (by lia) ?_;refine rF (λi ys V'=>∃r:List Nat,ys=nl r/\r.length=i/\(∀x∈r,x∈syms)/\Ext V V') ⟨[],rfl,rfl,λx m=>(by rcases m),Ext.rfl⟩ ?_ ?_
 .rintro i ys V' y hy ⟨r,rfl,rl,rs,ex⟩;refine⟨trivial,?_⟩;refine eI hy λim=>?_;have s1:0<syms.length:=List.length_pos_iff.2 s0;refine de<|cB (ex _ _ hsy)<|gp hB (by lia) (by lia) (by refine O (aE ..) ?_;lia) λv V2 hv e2=>?_;rw[length_map]at hv;refine bg (l:=syms) (i:=v) (by lia) λx hx=>?_;refine aB (e2 _ _ (ex _ _ hsy)) (bf hx) ⟨r++[x],by exact O (dB ..) rfl,by simp[rl],λz m=>?_,ex.trans e2⟩;rcases Uo.1 m with m|m
  .exact rs z m
  .have:z=x:=by exact VX.1 m
   exact O this (aF hx)
 .rintro ys V' ⟨r,rfl,rl,rs,ex⟩;refine⟨trivial,λp hp=>rP (bB _ _ _) (q r _ (ex.trans (Ext.new hp)) ?_ rs)⟩;exact O rl (O (aE ..) (O length_range rfl))
end
noncomputable def cM (p:Nat×List Nat):IV:=.tup [.int p.1,.tup (nl p.2)]
theorem GZ {r1 r2 r3 r4:List Nat} (l1:0<r1.length) (l1':r1.length<=3) (l2:r2.length<=3) (l3:r3.length<=2) (l4:r4.length<=3) (s1:∀x∈r1,x∈[7,3,4]) (s2:∀x∈r2,x∈[6,7,3,4]) (s3:∀x∈r3,x∈[3,4]) (s4:∀x∈r4,x∈[6,7,3,4]):
 Good ((5,[6,0])::[(6,r1),(6,r2),(7,r3),(7,r4)]):=by
 refine⟨rfl,rfl,⟨r1,rfl⟩,⟨r2,rfl⟩,⟨r3,rfl⟩,⟨r4,rfl⟩,λr=>?_,λr x r0 m=>?_,λx m=>?_,λx m=>?_,l3,l1⟩
 .rcases r with _|_|_|_|_|r
  .exact aG rfl
  .exact l1'
  .exact l2
  .exact le_succ_of_le l3
  .exact l4
  .exact zero_le _
 .rcases r with _|_|_|_|_|r
  .exact absurd r0 (lt_irrefl _)
  .have:=s1 x m;simp at this;lia
  .have:=s2 x m;simp at this;lia
  .have:=s3 x m;simp at this;lia
  .have:=s4 x m;simp at this;lia
  .exact nomatch m
 .have:=s1 x m;simp at this;lia
 .have:=s3 x m;simp at this;lia
section
variable{B:Bs} (hB:Base B) {n:Nat} {V:IH} {Q:QE}
include hB
theorem TQ (q:∀P r V',Good ((5,[6,0])::P)->H V V' [(r,.list (P.map cM))]->Q (.ref r) V'):CallOk B (n+3) 777 [.frz ns] V Q:=by
 refine FN hB ?_;w_fin;refine gp hB (by decide) (by decide) (by decide) λv1 V1 hv1 e1=>de ⟨by decide,λy1 hy1=>?_⟩;refine O (show(1:Int)+(v1:Nat)=((1+v1:Nat):Int) by lia) ?_;have f1:=(H.nil (V:=V)).call (e1.trans (Ext.new (o:=.list (nl [7,3,4])) hy1));have g1:=bB V1 y1 (.list (nl [7,3,4]));refine O (show upd V1 y1 (.list [.int 7,.int 3,.int 4])=upd V1 y1 (.list (nl [7,3,4]))from rfl) ?_;generalize upd V1 y1 (.list (nl [7,3,4]))=V2 at f1 g1⊢;refine qV hB (by decide) (by decide) (by lia) g1 (by trivial) λr1 V3 e3 l1 s1=>⟨by decide,by decide,λp hp=>?_⟩;have h1:=(f1.call e3).new (.list ([(6,r1)].map cM)) hp;refine O (show upd V3 p (.list [.tup [.int 6,.tup (nl r1)]])=upd V3 p (.list ([(6,r1)].map cM))from rfl) ?_;generalize upd V3 p (.list ([(6,r1)].map cM))=V4 at h1⊢;clear f1 g1 e3 hp hy1 e1;w_fin;refine⟨bz (h1.get 0 rfl),?_⟩;refine gp hB (by decide) (by decide) (by decide) λv2 V5 hv2 e5=>⟨by decide,λy2 hy2=>?_⟩;have f2:=(h1.call e5).call (Ext.new (o:=.list (nl [6,7,3,4])) hy2);have g2:=bB V5 y2 (.list (nl [6,7,3,4]));refine O (show upd V5 y2 (.list [.int 6,.int 7,.int 3,.int 4])=upd V5 y2 (.list (nl [6,7,3,4]))from rfl) ?_;generalize upd V5 y2 (.list (nl [6,7,3,4]))=V6 at f2 g2⊢;refine qV hB (by decide) (by decide) (by lia) g2 (by trivial) λr2 V7 e7 l2 s2=>⟨by decide,bZ ((f2.call e7).get 0 rfl) (by simp) ?_⟩;have h2:=(f2.call e7).put 0 (o':=.list ([(6,r1),(6,r2)].map cM)) rfl;rw[show∀s:IH,upd s p (.list ([(6,r1)].map cM++[.tup [.int 6,.tup (nl r2)]]))=upd s p (.list ([(6,r1),(6,r2)].map cM))from λ_=>rfl];generalize upd V7 p (.list ([(6,r1),(6,r2)].map cM))=V8 at h2⊢;clear f2 g2 e7 hy2 e5 h1;w_fin;refine⟨bz (h2.get 0 rfl),?_⟩;refine gp hB (by decide) (by decide) (by decide) λv3 V9 hv3 e9=>⟨by decide,λy3 hy3=>?_⟩;have f3:=(h2.call e9).call (Ext.new (o:=.list (nl [3,4])) hy3);have g3:=bB V9 y3 (.list (nl [3,4]));refine O (show upd V9 y3 (.list [.int 3,.int 4])=upd V9 y3 (.list (nl [3,4]))from rfl) ?_;generalize upd V9 y3 (.list (nl [3,4]))=V10 at f3 g3⊢;refine qV hB (by decide) (by decide) (by lia) g3 (by trivial) λr3 V11 e11 l3 s3=>⟨by decide,bZ ((f3.call e11).get 0 rfl) (by simp) ?_⟩;have h3:=(f3.call e11).put 0 (o':=.list ([(6,r1),(6,r2),(7,r3)].map cM)) rfl;rw[show∀s:IH,upd s p (.list ([(6,r1),(6,r2)].map cM++[.tup [.int 7,.tup (nl r3)]]))=upd s p (.list ([(6,r1),(6,r2),(7,r3)].map cM))from λ_=>rfl];generalize upd V11 p (.list ([(6,r1),(6,r2),(7,r3)].map cM))=V12 at h3⊢;clear f3 g3 e11 hy3 e9 h2;w_fin;refine⟨bz (h3.get 0 rfl),?_⟩;refine gp hB (by decide) (by decide) (by decide) λv4 V13 hv4 e13=>⟨by decide,λy4 hy4=>?_⟩;have f4:=(h3.call e13).call (Ext.new (o:=.list (nl [6,7,3,4])) hy4);have g4:=bB V13 y4 (.list (nl [6,7,3,4]));refine O (show upd V13 y4 (.list [.int 6,.int 7,.int 3,.int 4])=upd V13 y4 (.list (nl [6,7,3,4]))from rfl) ?_;generalize upd V13 y4 (.list (nl [6,7,3,4]))=V14 at f4 g4⊢;refine qV hB (by decide) (by decide) (by lia) g4 (by trivial) λr4 V15 e15 l4 s4=>⟨by decide,bZ ((f4.call e15).get 0 rfl) (by simp) ?_⟩;have h4:=(f4.call e15).put 0 (o':=.list ([(6,r1),(6,r2),(7,r3),(7,r4)].map cM)) rfl;rw[show∀s:IH,upd s p (.list ([(6,r1),(6,r2),(7,r3)].map cM++[.tup [.int 7,.tup (nl r4)]]))=upd s p (.list ([(6,r1),(6,r2),(7,r3),(7,r4)].map cM))from λ_=>rfl];generalize upd V15 p (.list ([(6,r1),(6,r2),(7,r3),(7,r4)].map cM))=V16 at h4⊢;w_fin;exact q _ p V16 (GZ (by lia) (by lia) (by lia) (by lia) (by lia) s1 s2 s3 s4) h4
end
theorem Ez (G:GG) (i x:Nat):bF G (i+1) x=bF G i x++if ah G i=x then[i]else[]:=by
 unfold bF;refine O range_succ (O (filter_append ..) (O filter_cons (O filter_nil ?_)));by_cases c:ah G i=x<;>simp[c]
section
variable{B:Bs} (hB:Base B) {n:Nat} {V:IH} {Q:QE}
include hB
theorem Ti {na ar al:Addr} {rr:List Addr} (gd:Good G) (hna:V na=some (.list (nms.map IV.str))) (har:V ar=some (.list (rr.map IV.ref))) (rl:rr.length=5)
 (hru:∀k,k<5->∃a,rr[k]? =some a/\V a=some (.inst 340 (fE k (ah G k) (ae G k)))) (hal:V al=some (.idict [] ep))
 (q:∀g A V',Ext V V'->GrAt V' G g A->Q (.ref g) V'):CallOk B (n+2) 422 [.ref na,.int 5,.ref ar,.ref al,.none,.int 6] V Q:=by
 refine fq hB (init:=356) (by decide) λp hp=>?_;refine EW hB ?_;have h0:=(H.nil (V:=V)).new (.inst 422 []) hp;generalize upd V p (.inst 422 [])=V0 at h0⊢;w_fin;refine cX h0 rfl (by decide) (aG rfl) λV1 h1=>?_;w_fin;refine cX h1 rfl (by decide) (aG rfl) λV2 h2=>?_;w_fin;refine cX h2 rfl (by decide) (aG rfl) λV3 h3=>?_;w_fin;refine cX h3 rfl (by decide) (aG rfl) λV4 h4=>?_;w_fin;refine cX h4 rfl (by decide) (aG rfl) λV5 h5=>?_;w_fin;refine cX h5 rfl (by decide) (aG rfl) λV6 h6=>?_;clear h0 h1 h2 h3 h4 h5;w_fin;refine ag (h6.get 0 rfl) rfl<|bw (h6.ext _ _ hna) ?_;refine jU (λV' e=>e _ _ (h6.ext _ _ hna)) λbb ab V7 bl hab gab h7=>?_;have h8:=(h6.join h7).perm (l':=[(p,.inst 422 [(52,.ref na),(81,.int 5),(69,.ref ar),(45,.ref al),(21,.none),(75,.int 6)]),(ab,.list (bb.map IV.ref))]++aJ bb λ_=>[]) ((dc (l₁:=(ab,IO.list (bb.map IV.ref))::aJ bb λ_=>[])).trans (.refl _));have bb8:bb.length=8:=by exact O bl rfl
 clear h6 h7 gab;refine cX h8 rfl (by decide) (aG rfl) λV8 h8=>?_;w_fin;refine⟨by decide,λao hao=>?_⟩;have h9:=(h8.new (.list (nl [])) hao).perm (l':=(p,_)::(ao,_)::_) (.swap _ _ _);refine O (show upd V8 ao (.list [])=upd V8 ao (.list (nl []))from rfl) ?_;generalize upd V8 ao (.list (nl []))=V9 at h9⊢;refine cX h9 rfl (by decide) (aG rfl) λV10 h10=>?_;clear h8 h9;w_fin;refine⟨by decide,λaw haw=>?_⟩;have h11:=(h10.new (.list (nl [])) haw).perm (l':=(p,_)::(aw,_)::_) (.swap _ _ _);refine O (show upd V10 aw (.list [])=upd V10 aw (.list (nl []))from rfl) ?_;generalize upd V10 aw (.list (nl []))=V11 at h11⊢;refine cX h11 rfl (by decide) (aG rfl) λV12 h12=>?_;clear h10 h11;w_fin;have h12:H V V12 ([(p,.inst 422 [(52,.ref na),(81,.int 5),(69,.ref ar),(45,.ref al),(21,.none),(75,.int 6),(11,.ref ab),(58,.ref ao),(60,.ref aw)]),(aw,.list (nl [])),(ao,.list (nl [])),(ab,.list (bb.map IV.ref))]++aJ bb λx=>bF G 0 x):=h12;refine ag (h12.get 0 rfl) rfl<|bw (h12.ext _ _ har) ?_;refine aU (λi Z V'=>E1 λo7=>A2 (Z=[some (.ref p),some (.ref na),some (.int 5),some (.ref ar),some (.ref al),some .none,some (.int 6),o7,none])<|
  H V V' ([(p,.inst 422 [(52,.ref na),(81,.int 5),(69,.ref ar),(45,.ref al),(21,.none),(75,.int 6),(11,.ref ab),(58,.ref ao),(60,.ref aw)]),(aw,.list (nl (own G i))),(ao,.list (nl ((List.range i).map (bU G)))),(ab,.list (bb.map IV.ref))]++aJ bb λx=>bF G i x)) ⟨_,rfl,h12⟩ ?_ ?_
 .clear h12;rintro i Z V' y Fk hFk hy ⟨o7,rfl,hh⟩;refine⟨hh.ext _ _ har,?_⟩;have il:=av hy;rw[length_map,rl]at il;obtain⟨a,ea,ha⟩:=hru i il;rw[getElem?_map,ea]at hy;obtain rfl:=aP hy;have ha':=hh.ext _ _ ha;have l8:=gd.lhs8 il;refine bg (l:=bb) (i:=ah G i) (by lia) λb hb=>?_;have ol:(own G i).length<=4*i:=by
   clear hh ha ha' ea hb l8 hFk
   induction i with
   |zero=>exact aY _
   |succ i ih=>have:=gd.len3 i;refine O (jw ..) (O bT (O List.length_replicate ?_));have:=ih (by lia);lia
  w_fin;refine ag (hh.get 0 rfl) rfl<|ag ha' rfl<|aB (hh.get 3 rfl) (O aQ (O hb rfl)) ⟨bz (hh.getL hb),ag ha' rfl<|dY (hh.getL hb) (by have:(bF G i (ah G i)).length<=i:=by{unfold bF;have:=length_filter_le (λk=>ah G k==ah G i) (List.range i);rwa[length_range]at this};lia) ?_⟩;have h2:=hh.putL hb (bF G i (ah G i)++[i]);generalize upd V' b (.list (nl (bF G i (ah G i)++[i])))=V2 at h2⊢;have ef:(λy=>if y=ah G i then bF G i (ah G i)++[i]else bF G i y)=λx=>bF G (i+1) x:=by
   funext x;refine O (Ez ..) ?_;by_cases c:x=ah G i
   .subst c;simp
   .have:¬ah G i=x:=λz=>c z.symm;simp[c,this]
  rw[ef]at h2;have ha2:=h2.ext _ _ ha;w_fin;refine ag (h2.get 0 rfl) rfl ⟨bz (h2.get 2 rfl),ag (h2.get 0 rfl) rfl<|cB (h2.get 1 rfl)<|bZ (h2.get 2 rfl) (by rw[nl];refine O (aE ..) (O (aE ..) (O length_range ?_));lia) ?_⟩;rw[nl];refine O (aE ..) (O (show((own G i).length:Int)=((bU G i:Nat):Int)from rfl) (O (dB ..) ?_));have h3:=h2.put 2 (o':=.list (nl ((List.range i).map (bU G)++[bU G i]))) rfl;generalize upd V2 ao (.list (nl ((List.range i).map (bU G)++[bU G i])))=V3 at h3⊢;have ha3:=h3.ext _ _ ha;w_fin;refine ag (h3.get 0 rfl) rfl ⟨bz (h3.get 1 rfl),ag ha3 rfl ⟨by decide,λz hz=>?_⟩⟩;have h4:=h3.call (Ext.new (o:=.list [.int (i:Nat)]) hz);have ha4:=h4.ext _ _ ha;have l3:=gd.len3 i;refine ag ha4 rfl<|fw<|de<|gX (bB _ _ _) (by refine O (aE ..) ?_;lia) (by lia) λz2 hz2=>?_;have h5:=h4.new (.list (List.replicate ((ae G i).length+1) (.int (i:Nat)))) hz2;refine O (aE ..) (O (show((((ae G i).length:Nat):Int)+1).toNat=(ae G i).length+1 by lia) ?_);generalize upd (upd V3 z (.list [.int (i:Nat)])) z2 (.list (List.replicate ((ae G i).length+1) (.int (i:Nat))))=V5 at h5⊢;refine rJ (h5.get 2 rfl) (h5.get 0 rfl) (by rw[nl];refine O (aE ..) (O List.length_replicate ?_);lia) ?_;have eo:nl (own G i)++List.replicate ((ae G i).length+1) (.int (i:Nat))=nl (own G (i+1)):=by
   refine O (jw ..) ?_;rw[nl,nl];exact O bW (O List.map_replicate rfl)
  refine O eo ?_;have h6:=(h5.put 2 (o':=.list (nl (own G (i+1)))) rfl).drop;refine hFk _ _ ⟨_,rfl,?_⟩;exact O range_succ (O bW h6)
 .clear h12;rintro Z V' ⟨o7,eQ,hh⟩;obtain rfl:=eQ.symm;refine⟨hh.ext _ _ har,?_⟩;rw[length_map,rl]at hh;w_fin;refine ag (hh.get 0 rfl) rfl<|cB (hh.get 1 rfl) ?_;rw[nl];refine O (aE ..) (cX hh rfl (by decide) (aG rfl) λV2 h2=>?_);refine⟨rfl,q p ⟨na,ar,al,ab,ao,aw,rr,bb⟩ V2 h2.ext ⟨gd,h2.get 0 rfl,h2.ext _ _ hna,h2.ext _ _ har,rl,λk l=>by obtain⟨a,b,c⟩:=hru k l;exact⟨a,b,h2.ext _ _ c⟩,⟨ep,h2.ext _ _ hal⟩,h2.get 3 rfl,bb8,λx l=>?_,h2.get 2 rfl,h2.get 1 rfl⟩⟩;refine bg (l:=bb) (i:=x) (by lia) λb hb=>?_;exact⟨b,hb,H.getL (l:=_::_::_::_::[]) h2 hb⟩
theorem TO {P:List (Nat×List Nat)} (gd:Good ((5,[6,0])::P)) (hpa:V pa=some (.list (P.map cM))) (q:∀g A V',Ext V V'->GrAt V' ((5,[6,0])::P) g A->Q (.ref g) V'):CallOk B (n+3) 784 [.ref pa] V Q:=by
 refine FO hB ?_;have pl:P.length=4:=by have:=gd.len;replace this:=Oe length_cons this;lia
 w_fin;refine⟨by decide,?_⟩;refine Da hB (k:=0) (l:=5) (r:=[6,0]) λr0 V1 h1=>⟨by decide,λra hra=>?_⟩;have h2:=h1.new (.list ([r0].map IV.ref)) hra;refine O (show upd V1 ra (.list [.ref r0])=upd V1 ra (.list ([r0].map IV.ref))from rfl) ?_;generalize upd V1 ra (.list ([r0].map IV.ref))=V2 at h2⊢;w_fin;refine bw (h2.ext _ _ hpa) ?_;refine aU (λi Z V'=>E4 λrr rl o2 o3=>A4 (Z=[some (.ref pa),some (.ref ra),o2,o3,none]) (List.length rr=i+1) (∀k,k<i+1->∃a,rr[k]? =some a/\(a,IO.inst 340 (fE k (ah ((5,[6,0])::P) k) (ae ((5,[6,0])::P) k)))∈rl) (H V V' ((ra,.list (rr.map IV.ref))::rl))) ⟨[r0],[(r0,.inst 340 (fE 0 5 [6,0]))],_,_,rfl,rfl,λk l=>⟨r0,by exact O (show k=0 by lia) rfl,by exact O (show k=0 by lia) (VX.2 rfl)⟩,h2⟩ ?_ ?_
 .clear h1 h2 hra;rintro i Z V' y Fk hFk hy ⟨rr,rl,o2,o3,rfl,rrl,hru,hh⟩;refine⟨hh.ext _ _ hpa,?_⟩;obtain⟨p,ep,rfl⟩:∃p,P[i]? =some p/\y=cM p:=by
   replace hy:=Oe aQ hy
   induction e:P[i]? with
   |none=>rw[e]at hy;exact bv hy
   |some p=>rw[e]at hy;obtain rfl:=aP hy;exact⟨p,rfl,rfl⟩
  have il:=av ep;refine⟨rfl,?_⟩;w_left;w_fin;refine⟨bz (hh.get 0 rfl),cB (hh.get 0 rfl) ?_⟩;refine O (aE ..) (O rrl (Da hB (k:=i+1) (l:=p.1) (r:=p.2) λr1 V3 h3=>?_));have h4:=hh.join h3;refine bZ (h4.get 1 rfl) (by refine O (aE ..) ?_;lia) ?_;have h5:=h4.put 1 (o':=.list ((rr++[r1]).map IV.ref)) rfl;refine O (show rr.map IV.ref++[.ref r1]=(rr++[r1]).map IV.ref by simp) (hFk _ _ ⟨rr++[r1],(r1,.inst 340 (fE (i+1) p.1 p.2))::rl,_,_,rfl,by simp[rrl],λk l=>?_,h5.perm (.swap _ _ _)⟩);by_cases z:k=i+1
  .subst z;refine⟨r1,by refine O (dj (le_of_eq ‹_›)) ?_;simp[rrl],?_⟩;have e1:ah ((5,[6,0])::P) (i+1)=p.1:=by simp[ah,ep]
   have e2:ae ((5,[6,0])::P) (i+1)=p.2:=by simp[ae,ep]
   exact O e1 (O e2 (bJ ..))
  .obtain⟨a,b,c⟩:=hru k (by lia);exact⟨a,by exact O (cF (av b)) b,dw _ c⟩
 .clear h1 h2 hra;rintro Z V' ⟨rr,rl,o2,o3,rfl,rrl,hru,hh⟩;rw[length_map,pl]at rrl hru;refine⟨hh.ext _ _ hpa,?_⟩;w_fin;refine⟨by decide,λna hna=>?_⟩;have h3:=hh.new (.list (nms.map IV.str)) hna;refine O (show upd V' na (.list [.str (u "$end"),.str (u "error"),.str (u "$undefined"),.str (u "a"),.str (u "b"),.str (u "$accept"),.str (u "S"),.str (u "A")])=upd V' na (.list (nms.map IV.str))from rfl) ?_;generalize upd V' na (.list (nms.map IV.str))=V3 at h3⊢;w_fin;intro ep al hal;have h4:=h3.new (.idict [] ep) hal;generalize upd V3 al (.idict [] ep)=V4 at h4⊢;refine Ti hB gd (h4.get 1 rfl) (h4.get 2 rfl) rrl (λk l=>?_) (h4.get 0 rfl) λg A V5 e5 gr=>q g A V5 (h4.ext.trans e5) gr;obtain⟨a,b,c⟩:=hru k l;exact⟨a,b,(h4.at_ (_,_) (dw _ (dw _ (dw _ c)))).2⟩
end
noncomputable def aV (e:aR):IV:=.tup [.int (e.1:Nat),.int (e.2.1:Nat),.int (e.2.2:Nat)]
noncomputable abbrev GP (P:List (Nat×List Nat)):GG:=(5,[6,0])::P
theorem ix {P:List (Nat×List Nat)} {n:Nat} (l:n<P.length):(P.map cM)[n]? =some (.tup [.int (ah (GP P) (n+1):Nat),.tup (nl (ae (GP P) (n+1)))]):=by
 refine bg l λp e=>?_;refine O aQ (O e ?_);simp[ah,ae,e,cM]
theorem ky {α:Type} {f:α->IV} {l:List α} {i:Nat} (h:(l.map f)[i]? =some y):∃x,l[i]? =some x/\y=f x:=by
 rw[getElem?_map]at h
 induction e:l[i]? with
 |none=>rw[e]at h;exact bv h
 |some x=>rw[e]at h;obtain rfl:=aP h;exact⟨x,rfl,rfl⟩
theorem jG {α:Type} {l:List α} {i:Nat} {x:α} (e:l[i]? =some x):l.take (i+1)=l.take i++[x]:=by exact O take_add_one (O e rfl)
theorem D9 (l:List aR) (e:aR):anyEq (aV e) (l.map aV) (decide (e∈l)):=by
 induction l with
 |nil=>exact .nil
 |cons y l ih=>
  have h:decide (([(y.1:Int),(y.2.1:Int),(y.2.2:Int)]:List Int)=[(e.1:Int),(e.2.1:Int),(e.2.2:Int)])=decide (y=e):=by
   refine decide_eq_decide.2 ⟨λh=>?_,λh=>by exact O h rfl⟩;obtain⟨a,b,c⟩:=y;obtain⟨a',b',c'⟩:=e;injection h with h1 h;injection h with h2 h;injection h with h3 h;exact O (show a=a' from ofNat_inj.1 h1) (O (show b=b' from ofNat_inj.1 h2) (O (show c=c' from ofNat_inj.1 h3) rfl))
  exact O (show decide (e∈y::l)=(decide (y=e)||decide (e∈l)) by simp[mem_cons,eq_comm]) (Ob h (.cons (.tup rfl rfl) ih))
theorem Gl {K:QB} {l:List aR} (h:V p=some (.list (l.map aV))) (q:K (decide (e∈l)) V):inI (aV e) (.ref p) K V:=.list p _ _ rfl h (D9 l e) q
theorem yH {K:QB} {xs:List IV} (h:V p=some (.list xs)) (h':V r=some (.list [])) (q:K xs.isEmpty V):dx .Eq (.ref p) (.ref r) K V:=by
 rcases xs with _|⟨x,xs⟩
 .exact eqI.lst p r _ _ [] [] rfl rfl h h' rfl rfl q
 .exact eqI.len p r _ _ rfl rfl h h' (λh=>nomatch h) q
theorem Gf {xs:List IV} (h:V p=some (.list xs)) (h':V r=some (.list [])) (q:Q (.bool xs.isEmpty) V):fv .Eq (.ref p) (.ref r) Q V:=by
 rcases xs with _|⟨x,xs⟩
 .exact eqI.lst p r _ _ [] [] rfl rfl h h' rfl rfl q
 .exact eqI.len p r _ _ rfl rfl h h' (λh=>nomatch h) q
theorem F4 {l m:List Nat}:(l.map λx:Nat=>(x:Int))=(m.map λx:Nat=>(x:Int))↔l=m:=by
 constructor
 .intro h;have:=be (List.map Int.toNat) h
  simpa[map_map,Function.comp_def]using this
 .rintro rfl;rfl
theorem yJ {K:QB} (h:V p=some (.list (nl l))) (h':V r=some (.list (nl m))) (q:K (decide (l≠m)) V):dx .NotEq (.ref p) (.ref r) K V:=by
 refine neI.lst p r _ _ _ _ rfl rfl h h' ((be cR (eW l)).trans (gY _)) ((be cR (eW m)).trans (gY _)) ?_;have:decide ((l.map λx:Nat=>(x:Int))≠m.map λx:Nat=>(x:Int))=decide (l≠m):=decide_eq_decide.2 (not_congr F4);exact O this q
noncomputable def cT (G:GG) (t:Nat) (e:aR):List aR:=if(ae G (e.1+1))[e.2.1]? =some t then[(e.1,e.2.1+1,e.2.2)]else[]
def fA (G:GG) (e:aR) (t:Nat):Prop:=((ae G (e.1+1))[e.2.1]? =some t/\t<5)\/(t=0/\(ae G (e.1+1)).length<=e.2.1/\ah G (e.1+1)=6/\e.2.2=0)
theorem PO (G:GG) (t:Nat) (c:List aR):(c.flatMap (cT G t)).length<=c.length:=by
 induction c with
 |nil=>exact aY _
 |cons e c ih=>
  refine O List.flatMap_cons (O bT (O length_cons ?_));have:(cT G t e).length<=1:=by unfold cT;split<;>simp
  lia
section
variable{B:Bs} (hB:Base B) {n:Nat} {V:IH} {Q:QE} {P:List (Nat×List Nat)} {pa:Addr} (pl:P.length=4) (hpa:V pa=some (.list (P.map cM)))
include hB pl hpa
theorem TP {c:List aR} (hca:V ca=some (.list (c.map aV))) (cl:c.length<1000) (c4:∀e∈c,e.1<4)
 (q:∀r V',H V V' [(r,.list ((c.flatMap (cT (GP P) t)).map aV))]->Q (.ref r) V'):CallOk B (n+1) 810 [.ref pa,.ref ca,.int t] V Q:=by
 refine FU hB ?_;w_fin;refine⟨by decide,fK (.list ([].map aV)) (H.nil (V:=V)) λfa V1 hh=>?_⟩;w_fin;refine bw (hh.ext _ _ hca) ?_;refine aU (λi Z V'=>E4 λo4 o5 o6 o7=>A2 (Z=[some (.ref pa),some (.ref ca),some (.int t),some (.ref fa),o4,o5,o6,o7]) (H V V' [(fa,.list (((c.take i).flatMap (cT (GP P) t)).map aV))])) ⟨_,_,_,_,rfl,hh⟩ ?_ ?_
 .clear hh;rintro i Z V' y Fk hFk hy ⟨o4,o5,o6,o7,rfl,hh⟩;refine⟨hh.ext _ _ hca,?_⟩;obtain⟨e,he,rfl⟩:=ky hy;have n4:=c4 e (aF he);have il:=av he;have tk:(c.take (i+1)).flatMap (cT (GP P) t)=(c.take i).flatMap (cT (GP P) t)++cT (GP P) t e:=by refine O (jG he) (O List.flatMap_append ?_);simp
  have no:cT (GP P) t e=[]->H V V' [(fa,.list (((c.take (i+1)).flatMap (cT (GP P) t)).map aV))]:=λz=>by exact O tk (O z (O (append_nil ..) hh))
  refine⟨rfl,?_⟩;w_left;w_fin;refine aB (hh.ext _ _ hpa) (ix (by lia))<|dp (k:=1) rfl ?_;w_fin;refine fw<|dE<|aO (λd1=>?_) (λd1=>?_)
  .rw[length_map]at d1;refine bg (l:=ae (GP P) (e.1+1)) (i:=e.2.1) (by lia) λx hx=>?_;refine dp (bf hx)<|cV<|aO (λd2=>?_) (λd2=>?_)
   .have d2:x=t:=by lia
    subst d2;w_fin;refine⟨bz (hh.get 0 rfl),de ⟨by decide,bZ (hh.get 0 rfl) (by refine O (aE ..) ?_;have:=PO (GP P) x (c.take i);rw[length_take]at this;exact cn this (cn (Nat.min_le_right _ _) (lt_trans ‹c.length<1000› (by decide)))) ?_⟩⟩;have h2:=hh.put 0 (o':=.list (((c.take (i+1)).flatMap (cT (GP P) x)).map aV)) rfl;have e1:((c.take i).flatMap (cT (GP P) x)).map aV++[aV (e.1,e.2.1+1,e.2.2)]=((c.take (i+1)).flatMap (cT (GP P) x)).map aV:=by
     refine O tk ?_;rw[cT];exact O (ax hx) (O bW rfl)
    have e2:aV (e.1,e.2.1+1,e.2.2)=.tup [.int (e.1:Nat),.int ((e.2.1:Nat)+1),.int (e.2.2:Nat)]:=rfl;rw[e2]at e1;exact O e1 (hFk _ _ ⟨_,_,_,_,rfl,h2⟩)
   .refine hFk _ _ ⟨_,_,_,_,rfl,no ?_⟩;rw[cT];exact O (ai λz=>d2 (by obtain rfl:=Os hx z;rfl)) rfl
  .rw[length_map]at d1;refine cJ (hFk _ _ ⟨_,_,_,_,rfl,no ?_⟩);rw[cT];exact O (ai λz=>d1 (by have:=av z;lia)) rfl
 .clear hh;rintro Z V' ⟨o4,o5,o6,o7,rfl,hh⟩;rw[length_map,take_length]at hh;refine⟨hh.ext _ _ hca,?_⟩;w_fin;exact q fa V' hh
theorem Dg {c:List aR} (hca:V ca=some (.list (c.map aV))) (c4:∀e∈c,e.1<4)
 (q:∀(f:List Nat) r V',f.Nodup->f.Pairwise (· <= ·)->(∀t,t∈f↔∃e∈c,fA (GP P) e t)->H V V' [(r,.list (nl f))]->Q (.ref r) V'):CallOk B (n+1) 803 [.ref pa,.ref ca] V Q:=by
 refine FT hB ?_;w_fin;refine⟨by decide,fK (.list (nl [])) (H.nil (V:=V)) λfa V1 hh=>?_⟩;w_fin;refine bw (hh.ext _ _ hca) ?_;refine aU (λi Z V'=>E7 λf o3 o4 o5 o6 o7 o8=>A4 (Z=[some (.ref pa),some (.ref ca),some (.ref fa),o3,o4,o5,o6,o7,o8]) f.Nodup (∀t,t∈f↔∃e∈c.take i,fA (GP P) e t) (H V V' [(fa,.list (nl f))])) ⟨[],_,_,_,_,_,_,rfl,nodup_nil,λt=>by simp,hh⟩ ?_ ?_
 .clear hh;rintro i Z V' y Fk hFk hy ⟨f,o3,o4,o5,o6,o7,o8,rfl,nd,hf,hh⟩;refine⟨hh.ext _ _ hca,?_⟩;obtain⟨e,he,rfl⟩:=ky hy;have n4:=c4 e (aF he);have tk:∀t,(∃e'∈c.take (i+1),fA (GP P) e' t)↔t∈f\/fA (GP P) e t:=λt=>by
   refine O (jG he) ?_;rw[hf t];constructor
   .rintro⟨e',m,z⟩;rcases Uo.1 m with m|m
    .exact .inl ⟨e',m,z⟩
    .have:e'=e:=by exact VX.1 m
     exact .inr (this▸z)
   .rintro(⟨e',m,z⟩|z)
    .exact⟨e',bM _ m,z⟩
    .exact⟨e,by exact dJ,z⟩
  have f5:∀t∈f,t<5:=λt m=>by
   obtain⟨e',_,z|z⟩:=(hf t).1 m
   .exact z.2
   .lia
  have fin:∀(K:Kn) (x:Nat) o3 o4 o5 o6 o7,(∀t,fA (GP P) e t↔t=x/\x<5)->
   (∀Z s,(E7 λf o3 o4 o5 o6 o7 o8=>A4 (Z=[some (.ref pa),some (.ref ca),some (.ref fa),o3,o4,o5,o6,o7,o8]) f.Nodup (∀t,t∈f↔∃e∈c.take (i+1),fA (GP P) e t) (H V s [(fa,.list (nl f))]))->K.nx Z s)->
   az B n Bj [some (.ref pa),some (.ref ca),some (.ref fa),o3,o4,o5,o6,o7,some (.int x)] K V':=λK x o3 o4 o5 o6 o7 hx hK=>by
   w_fin;refine dE<|aO (λd1=>?_) (λd1=>?_)
   .refine eE<|eO (hh.get 0 rfl)<|b9 (λd2=>?_) (λd2=>?_)
    .have d2:x∉f:=by simpa using d2
     w_fin;refine⟨bz (hh.get 0 rfl),dY (hh.get 0 rfl) (by have:=cz nd f5;lia) ?_⟩;refine hK _ _ ⟨f++[x],_,_,_,_,_,_,rfl,?_,λt=>?_,hh.put 0 rfl⟩
     .rw[nodup_append];exact⟨nd,by exact pairwise_singleton _ _,λa ma b mb e=>d2 (by
       have:b=x:=by exact VX.1 mb
       exact Ob this (Ob e ma))⟩
     .rw[tk t,hx t,mem_append,mem_singleton];exact or_congr_right ⟨λe=>⟨e,by lia⟩,λe=>e.1⟩
    .have d2:x∈f:=by simpa using d2
     refine hK _ _ ⟨f,_,_,_,_,_,_,rfl,nd,λt=>?_,hh⟩;rw[tk t,hx t];exact⟨.inl,λz=>z.elim id λz=>z.1▸d2⟩
   .refine cJ (hK _ _ ⟨f,_,_,_,_,_,_,rfl,nd,λt=>?_,hh⟩);rw[tk t,hx t];exact⟨.inl,λz=>z.elim id λz=>by lia⟩
  refine⟨rfl,?_⟩;w_left;w_fin;refine aB (hh.ext _ _ hpa) (ix (by lia)) ⟨rfl,?_⟩;w_left;w_fin;w_fin;refine fw<|dE<|aO (λd1=>?_) (λd1=>?_)
  .rw[length_map]at d1;refine bg (l:=ae (GP P) (e.1+1)) (i:=e.2.1) (by lia) λx hx=>?_;w_fin;refine dp (bf hx) ?_;refine fin _ x _ _ _ _ _ (λt=>?_) hFk;unfold fA;refine O hx ?_;have:=av hx;constructor
   .rintro(⟨z,l⟩|z)
    .obtain rfl:=aP z;exact⟨rfl,l⟩
    .lia
   .rintro⟨rfl,l⟩;exact .inl ⟨rfl,l⟩
  .rw[length_map]at d1;have nx0:∀t,fA (GP P) e t↔t=0/\ah (GP P) (e.1+1)=6/\e.2.2=0:=λt=>by
    unfold fA;refine O (dv (by lia)) ?_;constructor
    .rintro(⟨z,_⟩|z)
     .exact bv z
     .exact⟨z.1,z.2.2⟩
    .rintro⟨a,b⟩;exact .inr ⟨a,by lia,b⟩
   w_fin;refine cV<|aO (λd2=>?_) (λd2=>?_)
   .refine cV<|aO (λd3=>?_) (λd3=>?_)
    .w_fin;refine fin _ 0 _ _ _ _ _ (λt=>?_) hFk;rw[nx0 t];exact⟨λz=>⟨z.1,by lia⟩,λz=>⟨z.1,by lia,by lia⟩⟩
    .refine fin _ 9 _ _ _ _ _ (λt=>?_) hFk;rw[nx0 t];exact⟨λz=>by lia,λz=>by lia⟩
   .refine cJ<|fin _ 9 _ _ _ _ _ (λt=>?_) hFk;rw[nx0 t];exact⟨λz=>by lia,λz=>by lia⟩
 .clear hh;rintro Z V' ⟨f,o3,o4,o5,o6,o7,o8,rfl,nd,hf,hh⟩;rw[length_map,take_length]at hf;refine⟨hh.ext _ _ hca,?_⟩;have f5:∀t∈f,t<5:=λt m=>by
   obtain⟨e',_,z|z⟩:=(hf t).1 m
   .exact z.2
   .lia
  w_fin;refine jV (hh.get 0 rfl) (by have:=cz nd f5;lia) λl' r pm so hr=>?_;refine q l' r _ (pm.nodup_iff.2 nd) so (λt=>by rw[pm.mem_iff];exact hf t) ?_;exact(hh.new (.list (nl l')) hr).sub (.cons_cons _ (nil_sublist _))
end
theorem six (ha:a=6\/a=7) (hb:b=6\/b=7) (e:a -6=b -6):a=b:=by
 rcases ha with rfl|rfl<;>rcases hb with rfl|rfl<;>first|rfl|exact absurd e (by decide)
def yv (G:GG) (f:List Nat):Prop:=∀r,0<r->r<5->(∀x∈ae G r,x∈f)->ah G r∈f
theorem filter_none {l f:List Nat}:(l.filter λx=>decide (x∉f)).isEmpty=true↔∀x∈l,x∈f:=by
 rw[isEmpty_iff,List.filter_eq_nil_iff];constructor
 .intro h x m;have:=h x m
  simpa using this
 .intro h x m;have:=h x m
  simpa using this
section
variable{B:Bs} (hB:Base B) {n:Nat} {V:IH} {Q:QE} {P:List (Nat×List Nat)} {pa:Addr} (g:Good (GP P)) (pl:P.length=4) (hpa:V pa=some (.list (P.map cM)))
include hB g pl hpa
theorem TN (q:∀E r V',EmpOk (GP P) E->H V V' [(r,.list (nl E))]->Q (.ref r) V'):CallOk B (n+1) 789 [.ref pa] V Q:=by
 refine FP hB ?_;w_fin;refine⟨by decide,fK (.list (nl [])) (H.nil (V:=V)) λfa V1 hh=>?_⟩;w_fin;refine dF (k:=3) (by decide) ?_;refine aU (λi Z V'=>E5 λf o2 o3 o4 o5=>A5 (Z=[some (.ref pa),some (.ref fa),o2,o3,o4,o5]) (f.Nodup/\∀x∈f,x=6\/x=7) (∀X∈f,L (GP P) [X] []) (i<=f.length\/yv (GP P) f) (H V V' [(fa,.list (nl f))])) ⟨[],_,_,_,_,rfl,⟨nodup_nil,λx m=>(by cases m)⟩,λx m=>(by cases m),.inl (aY _),hh⟩ ?_ ?_
 .clear hh;rintro i Z V' y Fk hFk hy ⟨f0,o2,o3,o4,o5,rfl,hn0,hs0,hi,hh⟩;refine⟨trivial,?_⟩;refine eI hy λi3=>?_;w_fin;refine bw (hh.ext _ _ hpa) ?_;refine aU (λj Z V'=>E4 λf o3 o4 o5=>A5 (Z=[some (.ref pa),some (.ref fa),some (.int i),o3,o4,o5]) (f.Nodup/\∀x∈f,x=6\/x=7) (∀X∈f,L (GP P) [X] []) ((f=f0/\∀r,0<r->r<=j->(∀x∈ae (GP P) r,x∈f)->ah (GP P) r∈f)\/(f0.length<f.length/\¬yv (GP P) f0)) (H V V' [(fa,.list (nl f))])) ⟨f0,_,_,_,rfl,hn0,hs0,.inl ⟨rfl,λr a b=>by exact absurd ‹_› (not_lt_of_le ‹_›)⟩,hh⟩ ?_ ?_
  .clear hh;rintro j Z V' y Fk hFk hy ⟨f,o3,o4,o5,rfl,⟨hn,h67⟩,hs,hj,hh⟩;refine⟨hh.ext _ _ hpa,?_⟩;have jl:=av hy;rw[length_map,pl]at jl;obtain rfl:=Os (ix (Nat.lt_of_lt_of_eq ‹_› (Eq.symm ‹_›))) hy;refine⟨rfl,?_⟩;w_left;w_fin;refine eE<|eO (hh.get 0 rfl)<|b9 (λc1=>?_) (λc1=>?_)
   .have c1:ah (GP P) (j+1)∉f:=by simpa using c1
    refine ja ?_;refine fT (ae (GP P) (j+1)).length (aE _) (λi=>nl (((ae (GP P) (j+1)).take i).filter λx=>decide (x∉f))) rfl trivial (λk y hy K ks kn=>?_) ?_
    .refine cZ hy λx hx=>?_;refine eE<|eO (hh.get 0 rfl)<|b9 (λc=>?_) (λc=>?_)
     .refine ks _ ?_;have:decide (x∉f)=true:=by simpa using c
      exact O (c6 hx) (O (filter_append ..) (O filter_cons (O filter_nil (O (ax this) (O (dB ..) rfl)))))
     .refine kn ?_;have:¬decide (x∉f)=true:=by simpa using c
      exact O (c6 hx) (O (filter_append ..) (O filter_cons (O filter_nil (O (ai this) (O (append_nil ..) rfl)))))
    .refine λz hz=>⟨by decide,λz2 hz2=>?_⟩;rw[take_length]at *;have h2:=hh.call (Ext.new (o:=.list (nl ((ae (GP P) (j+1)).filter λx=>decide (x∉f)))) hz);have gz:=bB V' z (.list (nl ((ae (GP P) (j+1)).filter λx=>decide (x∉f))));generalize upd V' z (.list (nl ((ae (GP P) (j+1)).filter λx=>decide (x∉f))))=V2 at h2 gz hz2⊢;have ex2:=Ext.new (o:=.list []) hz2;have h3:=h2.call ex2;refine yH (ex2 _ _ gz) (bB _ _ _)<|b9 (λc=>?_) (λc=>?_)
     .have c:∀x∈ae (GP P) (j+1),x∈f:=filter_none.1 (by simpa[nl]using c);w_fin;have fl:f.length<=8:=cz hn λx m=>by have:=h67 x m;lia
      refine⟨bz (h3.get 0 rfl),dY (h3.get 0 rfl) (cn ‹_› (by decide)) ?_⟩;refine hFk _ _ ⟨f++[ah (GP P) (j+1)],_,_,_,rfl,⟨?_,λx m=>?_⟩,λX m=>?_,.inr ?_,h3.put 0 rfl⟩
      .rw[nodup_append];exact⟨hn,by exact pairwise_singleton _ _,λa ma b mb e=>c1 (by
      have:b=ah (GP P) (j+1):=by exact VX.1 mb
      exact Ob this (Ob e ma))⟩
      .rcases Uo.1 m with m|m
       .exact h67 x m
       .have:x=ah (GP P) (j+1):=by exact VX.1 m
        exact O this (g.lab (aG rfl) (di ‹_›))
      .rcases Uo.1 m with m|m
       .exact hs X m
       .have:X=ah (GP P) (j+1):=by exact VX.1 m
        refine O this ?_;have key:∀γ:List Nat,(∀x∈γ,x∈f)->L (GP P) γ []:=by
         intro γ
         induction γ with
         |nil=>intro _;exact L.nil
         |cons x γ ih=>intro h;exact(hs x (h x (bJ))).app (ih λy m=>h y (dw _ m))
        exact(key _ c).mk (aG rfl) (di ‹_›)
      .refine O bT (O length_singleton ?_);rcases hj with⟨rfl,_⟩|⟨l,z⟩
       .exact⟨by exact lt_succ_self _,λz=>c1 (z (j+1) (aG rfl) (di ‹_›) c)⟩
       .exact⟨by exact lt_succ_of_lt ‹_›,z⟩
     .have c:¬∀x∈ae (GP P) (j+1),x∈f:=λz=>by
       have:=filter_none.2 z;simp[nl]at c;rw[isEmpty_iff,List.filter_eq_nil_iff]at this;obtain⟨x,m,k⟩:=c;exact k (z x m)
      refine hFk _ _ ⟨f,_,_,_,rfl,⟨hn,h67⟩,hs,hj.imp_left λ⟨a,b⟩=>⟨a,λr r0 rj k=>?_⟩,h3⟩;by_cases e:r=j+1
      .subst e;exact absurd k c
      .exact b r r0 (by lia) k
   .have c1:ah (GP P) (j+1)∈f:=by simpa using c1
    refine cJ (hFk _ _ ⟨f,_,_,_,rfl,⟨hn,h67⟩,hs,hj.imp_left λ⟨a,b⟩=>⟨a,λr r0 rj k=>?_⟩,hh⟩);by_cases e:r=j+1
    .subst e;exact c1
    .exact b r r0 (by lia) k
  .clear hh;rintro Z V' ⟨f,o3,o4,o5,rfl,⟨hn,h67⟩,hs,hj,hh⟩;rw[length_map,pl]at hj;refine⟨hh.ext _ _ hpa,hFk _ _ ⟨f,_,_,_,_,rfl,⟨hn,h67⟩,hs,?_,hh⟩⟩;rcases hj with⟨rfl,k⟩|⟨l,k⟩
   .exact .inr λr r0 r5=>k r r0 (Nat.le_of_lt_succ ‹_›)
   .rcases hi with hi|hi
    .exact .inl (cn ‹_› ‹_›)
    .exact absurd hi k
 .clear hh;rintro Z V' ⟨f,o2,o3,o4,o5,rfl,⟨hn,h67⟩,hs,hi,hh⟩;refine⟨trivial,?_⟩;w_fin;refine q f fa V' ⟨hs,?_⟩ hh;rcases hi with hi|hi
  .rw[length_map,length_range]at hi;have:(f.map λx=>x -6).length<=2:=by
    refine cz ?_ λx m=>?_
    .refine List.Pairwise.map _ (λa b h=>?_) (List.Pairwise.and_mem.1 hn);exact λe=>h.2.2 (six (h67 a h.1) (h67 b h.2.1) e)
    .obtain⟨y,my,rfl⟩:=mem_map.1 m;exact zH (h67 y my)
   rw[length_map]at this;exact absurd ‹_› (not_lt_of_le ‹_›)
  .exact hi
end
def EB (G:GG) (k:Nat) (e:aR):Prop:=e.1<4/\e.2.1<=(ae G (e.1+1)).length/\e.2.2<=k
def DoneE (G:GG) (E:List Nat) (C:List (List aR)) (col:List aR) (e:aR):Prop:=
 (∀X n',(ae G (e.1+1))[e.2.1]? =some X->5<X->n'<4->ah G (n'+1)=X->(n',0,C.length)∈col)/\
 (∀X,(ae G (e.1+1))[e.2.1]? =some X->5<X->X∈E->(e.1,e.2.1+1,e.2.2)∈col)/\
 (∀c n' d' o',e.2.1=(ae G (e.1+1)).length->C[e.2.2]? =some c->(n',d',o')∈c->(ae G (n'+1))[d']? =some (ah G (e.1+1))->(n',d'+1,o')∈col)
theorem DoneE.mono (h:DoneE G E C col e) (s:∀x∈col,x∈col'):DoneE G E C col' e:=
 ⟨λX n' a b c d=>s _ (h.1 X n' a b c d),λX a b c=>s _ (h.2.1 X a b c),λc n' d' o' a b m z=>s _ (h.2.2 c n' d' o' a b m z)⟩
theorem yZ {b x r y s:Nat} (l:r<b) (l':s<b) (h:x*b+r=y*b+s):x=y/\r=s:=by
 have m:=be (· %b) h;simp only[Nat.mul_add_mod_self_right,Nat.mod_eq_of_lt l,Nat.mod_eq_of_lt l']at m;rw[m]at h;exact⟨Nat.eq_of_mul_eq_mul_right (cn (zero_le _) l) (Nat.add_right_cancel h),m⟩
theorem je {G:GG} (g:Good G) {k:Nat} (k5:k<=5) {l:List aR} (nd:l.Nodup) (h:∀e∈l,EB G k e):l.length<=96:=by
 have b:∀e∈l,e.1<4/\e.2.1<=3/\e.2.2<=5:=λe m=>by
  obtain⟨a,b,c⟩:=h e m;have:=g.len3 (e.1+1);exact⟨a,by exact le_trans ‹_› ‹_›,by exact le_trans ‹_› ‹_›⟩
 have:(l.map λe:aR=>e.1*24+e.2.1*6+e.2.2).length<=96:=by
  refine cz ?_ λx m=>?_
  .refine List.Pairwise.map _ (λx y hh=>?_) (List.Pairwise.and_mem.1 nd);obtain⟨mx,my,ne⟩:=hh;have b1:=b x mx;have b2:=b y my;obtain⟨x1,x2,x3⟩:=x;obtain⟨y1,y2,y3⟩:=y;intro e;apply ne;have e:x1*24+x2*6+x3=y1*24+y2*6+y3:=e;obtain⟨e1,e3⟩:=yZ (x:=x1*4+x2) (y:=y1*4+y2) (di b1.2.2) (di b2.2.2) (by lia);obtain⟨e1,e2⟩:=yZ (di b1.2.1) (di b2.2.1) e1;exact O e1 (O (show x2=y2 from e2) (O (show x3=y3 from e3) rfl))
  .obtain⟨e,me,rfl⟩:=mem_map.1 m;have:=b e me;show e.1*24+e.2.1*6+e.2.2<96;lia
 rwa[aE]at this
section
variable{B:Bs} (hB:Base B) {n:Nat} {V:IH} {Q:QE} {P:List (Nat×List Nat)} {pa:Addr} (g:Good (GP P)) (pl:P.length=4) (hpa:V pa=some (.list (P.map cM)))
include hB g pl hpa
theorem Df {cas:List Addr} {C:List (List aR)} {b:List aR} (hE:V ea=some (.list (nl E))) (hC:V ha=some (.list (cas.map IV.ref))) (cl:cas.length=C.length) (c5:C.length<=5)
 (hcas:∀(i:Nat) c,C[i]? =some c->(∀e∈c,EB (GP P) 5 e)/\c.length<=96/\∃a,cas[i]? =some a/\V a=some (.list (c.map aV))) (hb:V ba=some (.list (b.map aV))) (bn:b.Nodup) (bb:∀e∈b,EB (GP P) 5 e)
 (q:∀col r V',ColOk (GP P) E C b col->col.Nodup->(∀e∈col,EB (GP P) 5 e)->H V V' [(r,.list (col.map aV))]->Q (.ref r) V'):CallOk B (n+1) 796 [.ref pa,.ref ea,.ref ha,.ref ba] V Q:=by
 refine FQ hB ?_;w_fin;refine gH hb λca hca=>?_;have hh:=(H.nil (V:=V)).new (.list (b.map aV)) hca;generalize upd V ca (.list (b.map aV))=V1 at hh⊢;w_fin;refine dF (k:=400) (by decide) ?_
 let Iv:Nat->aL->IH->Prop:=λi Z V'=>E8 λo5 o6 o7 o8 o9 o10 o11 o12=>E5 λo13 o14 o15 o16 (col:List aR)=>A5 (Z=[some (.ref pa),some (.ref ea),some (.ref ha),some (.ref ba),some (.ref ca),o5,o6,o7,o8,o9,o10,o11,o12,o13,o14,o15,o16]) (col.Nodup/\(∀e∈col,EB (GP P) 5 e)/\(∀e∈b,e∈col)/\i<=col.length) (∀e∈col,CG (GP P) E C b e) (∀e∈col.take i,DoneE (GP P) E C col e) (H V V' [(ca,.list (col.map aV))])
 refine aU (Iv) ⟨_,_,_,_,_,_,_,_,_,_,_,_,b,rfl,⟨bn,bb,λ_ m=>m,zero_le _⟩,λe m=>.beg m,λe m=>(by simp at m),hh⟩ ?_ ?_
 .clear hh;rintro i Z V' y Fk hFk hy ⟨o5,o6,o7,o8,o9,o10,o11,o12,o13,o14,o15,o16,col,rfl,⟨nd,eb,sb,li⟩,cg,dn,hh⟩;refine⟨trivial,?_⟩;refine eI hy λi4=>?_;have l96:=je g (aY 5) nd eb;w_fin;refine cB (hh.get 0 rfl)<|gU<|aO (λc=>?_) (λc=>?_)
  .rw[length_map]at c;have li2:i=col.length:=by lia
   subst li2;rw[take_length]at dn;w_fin;w_fin;exact q col ca V' ⟨cg,sb,λn d o X n' m e x5 n4 ex=>(dn _ m).1 X n' e x5 n4 ex,λn d o X m e x5 mx=>(dn _ m).2.1 X e x5 mx,λn o c n' d' o' m ec mc e=>(dn _ m).2.2 c n' d' o' rfl ec mc e⟩ nd eb hh
  .rw[length_map]at c;refine bg (l:=col) (i:=i) (by lia) λe he=>?_;have me:=aF he;obtain⟨n4,dl,ol⟩:=eb e me;have cge:=cg e me;have fin:∀{o5 o6 o7 o8 o9 o10 o12 o13 o14 o15 o16:Option IV} (M:List aR) (ma:Addr) (V2:IH),(∀m∈M,EB (GP P) 5 m/\CG (GP P) E C b m)->(∀col':List aR,(∀m∈M,m∈col')->(∀x∈col,x∈col')->DoneE (GP P) E C col' e)->
    H V V2 [(ma,.list (M.map aV)),(ca,.list (col.map aV))]->M.length<=1000->az B n sq [some (.ref pa),some (.ref ea),some (.ref ha),some (.ref ba),some (.ref ca),o5,o6,o7,o8,o9,o10,some (.ref ma),o12,o13,o14,o15,o16] (fz Fk (gv B n sk (aH Q))) V2:=by
    intro o5 o6 o7 o8 o9 o10 o12 o13 o14 o15 o16 M ma V2 hM hD h2 lM;w_fin;refine bw (h2.get 0 rfl) ?_;refine aU (λj Z V3=>E2 λo16 (col':List aR)=>A6 (Z=[some (.ref pa),some (.ref ea),some (.ref ha),some (.ref ba),some (.ref ca),o5,o6,o7,o8,o9,o10,some (.ref ma),o12,o13,o14,o15,o16]) (col'.Nodup/\(∀e∈col',EB (GP P) 5 e)) (∃s,col'=col++s) (∀e∈col',CG (GP P) E C b e) (∀m∈M.take j,m∈col') (H V V3 [(ma,.list (M.map aV)),(ca,.list (col'.map aV))])) ⟨_,col,rfl,⟨nd,eb⟩,⟨[],by exact Eq.symm (append_nil _)⟩,cg,λm h=>(by simp at h),h2⟩ ?_ ?_
    .clear h2;rintro j Z V3 y Jk hJk hy ⟨o16,col',eQ,⟨nd',eb'⟩,⟨s,rfl⟩,cg',tm,h2⟩;obtain rfl:=eQ.symm;refine⟨h2.get 0 rfl,?_⟩;obtain⟨m,hm,rfl⟩:=ky hy;have mm:=aF hm;have tk:=jG hm;w_fin;refine eE<|Gl (h2.get 1 rfl)<|b9 (λc=>?_) (λc=>?_)
     .have c:m∉col++s:=by simpa using c
      w_fin;have l':=je g (aY 5) nd' eb';refine⟨bz (h2.get 1 rfl),bZ (h2.get 1 rfl) (by refine O (aE ..) ?_;lia) ?_⟩;have h3:=h2.put 1 (o':=.list ((col++s++[m]).map aV)) rfl;refine O (show(col++s).map aV++[aV m]=(col++s++[m]).map aV by simp) (hJk _ _ ⟨_,col++s++[m],rfl,⟨?_,λe h=>?_⟩,⟨s++[m],by exact cw _ _ _⟩,λe h=>?_,λx h=>?_,h3⟩)
      .rw[nodup_append];exact⟨nd',by exact pairwise_singleton _ _,λa ma b mb e=>c (by
        have:b=m:=by exact VX.1 mb
        exact Ob this (Ob e ma))⟩
      .rcases Uo.1 h with h|h
       .exact eb' e h
       .have:e=m:=by exact VX.1 h
        exact this▸(hM m mm).1
      .rcases Uo.1 h with h|h
       .exact cg' e h
       .have:e=m:=by exact VX.1 h
        exact this▸(hM m mm).2
      .rw[tk]at h;rcases Uo.1 h with h|h
       .exact bM _ (tm x h)
       .exact dA _ h
     .have c:m∈col++s:=dT (by induction h:decide (m∈col++s)with|true=>rfl|false=>rw[h]at c;cases c);refine hJk _ _ ⟨_,col++s,rfl,⟨nd',eb'⟩,⟨s,rfl⟩,cg',λx h=>?_,h2⟩;rw[tk]at h;rcases Uo.1 h with h|h
      .exact tm x h
      .have:x=m:=by exact VX.1 h
       exact this▸c
    .clear h2;rintro Z V3 ⟨o16,col',eQ,⟨nd',eb'⟩,⟨s,rfl⟩,cg',tm,h2⟩;obtain rfl:=eQ.symm;rw[length_map,take_length]at tm;refine⟨h2.get 0 rfl,?_⟩;have up:∀x∈col,x∈col++s:=λx m=>bM _ m;refine hFk _ _ ⟨_,_,_,_,_,_,_,_,_,_,_,_,col++s,rfl,⟨nd',eb',λe m=>up e (sb e m),by refine O bT ?_;lia⟩,cg',λx h=>?_,h2.drop⟩;rw[List.take_append_of_le_length (by lia),jG he]at h;rcases Uo.1 h with h|h
     .exact(dn x h).mono up
     .have:x=e:=by exact VX.1 h
      obtain rfl:=this.symm;exact hD _ tm up
   w_fin;refine aB (hh.get 0 rfl) (show(col.map aV)[i]? =some (.tup [.int (e.1:Nat),.int (e.2.1:Nat),.int (e.2.2:Nat)]) by exact O aQ (O he rfl)) ⟨rfl,?_⟩;w_left;w_fin;refine aB (hh.ext _ _ hpa) (ix (by lia)) ⟨rfl,?_⟩;w_left;w_fin;refine⟨by decide,λma hma=>?_⟩;have h2:=hh.new (.list (([]:List aR).map aV)) hma;refine O (show upd V' ma (.list [])=upd V' ma (.list (([]:List aR).map aV))from rfl) ?_;generalize upd V' ma (.list (([]:List aR).map aV))=V2 at h2⊢;clear hh;w_fin;refine fw<|cV<|aO (λd1=>?_) (λd1=>?_)
   .rw[length_map]at d1;have d1:e.2.1=(ae (GP P) (e.1+1)).length:=by lia
    have nx:∀X,(ae (GP P) (e.1+1))[e.2.1]? ≠some X:=λX z=>by have:=av z;lia
    have cge:CG (GP P) E C b (e.1,(ae (GP P) (e.1+1)).length,e.2.2):=by exact Ob d1 cge
    have go:∀{o5:Option IV} (aa:Addr) (oc:List aR),oc.length<=96->V2 aa=some (.list (oc.map aV))->(∀x∈oc,EB (GP P) 5 x)->(∀n' d' o',(n',d',o')∈oc->(ae (GP P) (n'+1))[d']? =some (ah (GP P) (e.1+1))->CG (GP P) E C b (n',d'+1,o'))->(∀c,C[e.2.2]? =some c->c=oc)->
     az B n Bh [some (.ref pa),some (.ref ea),some (.ref ha),some (.ref ba),some (.ref ca),o5,some (.int e.1),some (.int e.2.1),some (.int e.2.2),some (.int (ah (GP P) (e.1+1))),some (.tup (nl (ae (GP P) (e.1+1)))),some (.ref ma),some (.ref aa),o13,o14,o15,o16] (gv B n sq (fz Fk (gv B n sk (aH Q)))) V2:=by
     intro o5 aa oc ocl haa ebo cgo hcc;w_fin;refine gH haa λza hza=>?_;have h3:=(h2.new (.list (oc.map aV)) hza);generalize upd V2 za (.list (oc.map aV))=V3 at h3⊢;refine bw (h3.get 0 rfl) ?_;refine aU (λj Z V4=>E3 λo13 o14 (M:List aR)=>A5 (Z=[some (.ref pa),some (.ref ea),some (.ref ha),some (.ref ba),some (.ref ca),o5,some (.int e.1),some (.int e.2.1),some (.int e.2.2),some (.int (ah (GP P) (e.1+1))),some (.tup (nl (ae (GP P) (e.1+1)))),some (.ref ma),some (.ref aa),o13,o14,o15,o16])
      (∀m∈M,EB (GP P) 5 m/\CG (GP P) E C b m) (∀n' d' o',(n',d',o')∈oc.take j->(ae (GP P) (n'+1))[d']? =some (ah (GP P) (e.1+1))->(n',d'+1,o')∈M) (M.length<=j) (H V V4 [(za,.list (oc.map aV)),(ma,.list (M.map aV)),(ca,.list (col.map aV))])) ⟨_,_,[],rfl,λm h=>(by cases h),λn' d' o' h=>(by simp at h),aY _,h3⟩ ?_ ?_
     .clear h3;rintro j Z V4 y Gk hGk hy ⟨o13,o14,M,rfl,hM,hF,lM,h3⟩;refine⟨h3.get 0 rfl,?_⟩;o_shape;obtain⟨x,hx,rfl⟩:=ky hy;have mx:=aF hx;have tk:=jG hx;obtain⟨x4,xd,xo⟩:=ebo x mx;pv_eval;have jl:=av hx;have skip:(ae (GP P) (x.1+1))[x.2.1]? ≠some (ah (GP P) (e.1+1))->∀n' d' o',(n',d',o')∈oc.take (j+1)->(ae (GP P) (n'+1))[d']? =some (ah (GP P) (e.1+1))->(n',d'+1,o')∈M:=λne n' d' o' h z=>by
       rw[tk]at h;rcases Uo.1 h with h|h
       .exact hF n' d' o' h z
       .have:(n',d',o')=x:=by exact VX.1 h
        subst this;exact absurd z ne
      w_fin;refine dp (k:=0) rfl<|aB (h3.ext _ _ hpa) (ix (by lia))<|dp (k:=1) rfl ?_;w_fin;refine dp (k:=1) rfl<|fw<|dE<|aO (λd2=>?_) (λd2=>?_)
      .rw[length_map]at d2;refine bg (l:=ae (GP P) (x.1+1)) (i:=x.2.1) (by lia) λz hz=>?_;refine dp (k:=1) rfl<|dp (bf hz)<|cV<|aO (λd3=>?_) (λd3=>?_)
       .have d3:z=ah (GP P) (e.1+1):=by lia
        subst d3;w_fin;refine⟨bz (h3.get 1 rfl),dp (k:=0) rfl<|dp (k:=1) rfl<|de<|dp (k:=2) rfl ⟨by decide,bZ (h3.get 1 rfl) (by refine O (aE ..) ?_;lia) ?_⟩⟩;have h4:=h3.put 1 (o':=.list ((M++[(x.1,x.2.1+1,x.2.2)]).map aV)) rfl;have e1:M.map aV++[.tup [.int (x.1:Nat),.int ((x.2.1:Nat)+1),.int (x.2.2:Nat)]]=(M++[(x.1,x.2.1+1,x.2.2)]).map aV:=by exact O bW rfl
        refine O e1 ?_;refine hGk _ _ ⟨_,_,M++[(x.1,x.2.1+1,x.2.2)],rfl,λm h=>?_,λn' d' o' h z=>?_,by refine O bT (O length_singleton ?_);lia,h4⟩
        .rcases Uo.1 h with h|h
         .exact hM m h
         .have:m=(x.1,x.2.1+1,x.2.2):=by exact VX.1 h
          subst this;exact⟨⟨x4,av hz,xo⟩,cgo x.1 x.2.1 x.2.2 mx hz⟩
        .rw[tk]at h;rcases Uo.1 h with h|h
         .exact bM _ (hF n' d' o' h z)
         .have:(n',d',o')=x:=by exact VX.1 h
          subst this;exact dA _ (bJ)
       .exact hGk _ _ ⟨_,_,M,rfl,hM,skip λz2=>d3 (by obtain rfl:=Os hz z2;rfl),by lia,h3⟩
      .rw[length_map]at d2;refine cJ (hGk _ _ ⟨_,_,M,rfl,hM,skip λz2=>d2 (by have:=av z2;lia),by lia,h3⟩)
     .clear h3;rintro Z V4 ⟨o13,o14,M,rfl,hM,hF,lM,h3⟩;rw[length_map]at lM;rw[length_map,take_length]at hF;refine⟨h3.get 0 rfl,?_⟩;refine fin M ma V4 hM (λcol' hm hc=>⟨λX n' z=>absurd z (nx X),λX z=>absurd z (nx X),λc n' d' o' _ ec mc z=>hm _ (hF n' d' o' (hcc c ec▸mc) z)⟩) h3.drop (by lia)
    w_fin;refine cB (h2.ext _ _ hC)<|dE<|aO (λd2=>?_) (λd2=>?_)
    .rw[length_map]at d2;refine bg (l:=C) (i:=e.2.2) (by lia) λc hc=>?_;obtain⟨ebc,lc,a,ha1,ha2⟩:=hcas _ c hc;refine aB (h2.ext _ _ hC) (O aQ (O ha1 rfl)) ?_;exact go a c lc (h2.ext _ _ ha2) ebc (λn' d' o' m z=>.old cge hc m z) λc' h=>by obtain rfl:=Os hc h;rfl
    .rw[length_map]at d2;exact go ca col l96 (h2.get 1 rfl) eb (λn' d' o' m z=>.cur cge (by lia) (cg _ m) z) λc' h=>by have:=av h;lia
   .rw[length_map]at d1;o_shape;refine bg (l:=ae (GP P) (e.1+1)) (i:=e.2.1) (by lia) λX hX=>?_;pv_eval;have no3:e.2.1=(ae (GP P) (e.1+1)).length->False:=λz=>d1 (by lia);w_fin;refine dp (bf hX)<|gD<|aO (λd2=>?_) (λd2=>?_)
    .have X5:5<X:=by lia
     w_fin;refine cB (h2.ext _ _ hpa) ?_;refine O (aE ..) (O pl (dF (k:=4) (by decide) ?_));refine aU (λj Z V3=>E2 λo15 (M:List aR)=>A5 (Z=[some (.ref pa),some (.ref ea),some (.ref ha),some (.ref ba),some (.ref ca),some (.int i),some (.int e.1),some (.int e.2.1),some (.int e.2.2),some (.int (ah (GP P) (e.1+1))),some (.tup (nl (ae (GP P) (e.1+1)))),some (.ref ma),o12,o13,o14,o15,o16])
      (∀m∈M,EB (GP P) 5 m/\CG (GP P) E C b m) (∀n',n'<j->ah (GP P) (n'+1)=X->(n',0,C.length)∈M) (M.length<=j) (H V V3 [(ma,.list (M.map aV)),(ca,.list (col.map aV))])) ⟨_,[],rfl,λm h=>(by cases h),λn' h=>by lia,aY _,h2⟩ ?_ ?_
     .clear h2;rintro j Z V3 y Gk hGk hy ⟨o15,M,rfl,hM,hF,lM,h3⟩;refine⟨trivial,?_⟩;refine eI hy λj4=>?_;w_fin;refine aB (h3.ext _ _ hpa) (ix (by lia))<|dp (k:=0) rfl<|dp (bf hX)<|cV<|aO (λd3=>?_) (λd3=>?_)
      .have d3:ah (GP P) (j+1)=X:=by lia
       w_fin;refine⟨bz (h3.get 0 rfl),cB (h3.ext _ _ hC) ⟨by decide,bZ (h3.get 0 rfl) (by refine O (aE ..) ?_;lia) ?_⟩⟩;have h4:=h3.put 0 (o':=.list ((M++[(j,0,C.length)]).map aV)) rfl;have e1:M.map aV++[.tup [.int (j:Nat),.int 0,.int (((cas.map IV.ref).length:Nat):Int)]]=(M++[(j,0,C.length)]).map aV:=by exact O bW (O (aE ..) (O cl rfl))
       refine O e1 ?_;refine hGk _ _ ⟨_,M++[(j,0,C.length)],rfl,λm h=>?_,λn' l z=>?_,by refine O bT (O length_singleton ?_);lia,h4⟩
       .rcases Uo.1 h with h|h
        .exact hM m h
        .have:m=(j,0,C.length):=by exact VX.1 h
         subst this;exact⟨⟨j4,zero_le _,c5⟩,.pred cge hX X5 j4 d3⟩
       .by_cases z2:n'=j
        .obtain rfl:=z2.symm;exact dA _ (bJ)
        .exact bM _ (hF n' (by lia) z)
      .refine hGk _ _ ⟨_,M,rfl,hM,λn' l z=>?_,by lia,h3⟩;by_cases z2:n'=j
       .obtain rfl:=z2.symm;exact absurd (by lia) d3
       .exact hF n' (by lia) z
     .clear h2;rintro Z V3 ⟨o15,M,rfl,hM,hF,lM,h3⟩;rw[length_map,length_range]at hF lM;refine⟨trivial,?_⟩;w_fin;refine dp (bf hX)<|iR<|eO (h3.ext _ _ hE)<|aO (λd3=>?_) (λd3=>?_)
      .w_fin;refine⟨bz (h3.get 0 rfl),de ⟨by decide,bZ (h3.get 0 rfl) (by refine O (aE ..) ?_;lia) ?_⟩⟩;have h4:=h3.put 0 (o':=.list ((M++[(e.1,e.2.1+1,e.2.2)]).map aV)) rfl;have e1:M.map aV++[.tup [.int (e.1:Nat),.int ((e.2.1:Nat)+1),.int (e.2.2:Nat)]]=(M++[(e.1,e.2.1+1,e.2.2)]).map aV:=by exact O bW rfl
       refine O e1 ?_;refine fin (M++[(e.1,e.2.1+1,e.2.2)]) ma _ (λm h=>?_) (λcol' hm hc=>⟨λX' n' z z5 n4' ez=>?_,λX' z z5 mz=>hm _ (dA _ (bJ)),λc n' d' o' z=>(no3 z).elim⟩) h4 (by refine O bT (O length_singleton ?_);lia)
       .rcases Uo.1 h with h|h
        .exact hM m h
        .have:m=(e.1,e.2.1+1,e.2.2):=by exact VX.1 h
         subst this;exact⟨⟨n4,av hX,ol⟩,.emp cge hX d3⟩
       .obtain rfl:=Os hX z;exact hm _ (bM _ (hF n' n4' ez))
      .refine fin M ma _ hM (λcol' hm hc=>⟨λX' n' z z5 n4' ez=>?_,λX' z z5 mz=>?_,λc n' d' o' z=>(no3 z).elim⟩) h3 (by lia)
       .obtain rfl:=Os hX z;exact hm _ (hF n' n4' ez)
       .obtain rfl:=Os hX z;exact absurd mz d3
    .refine fin [] ma _ (λm h=>by cases h) (λcol' hm hc=>⟨λX' n' z z5=>?_,λX' z z5=>?_,λc n' d' o' z=>(no3 z).elim⟩) h2 (by trivial)
     .obtain rfl:=Os hX z;exact absurd (by lia) d2
     .obtain rfl:=Os hX z;exact absurd (by lia) d2
 .clear hh;rintro Z V' ⟨o5,o6,o7,o8,o9,o10,o11,o12,o13,o14,o15,o16,col,rfl,⟨nd,eb,sb,li⟩,cg,dn,hh⟩;rw[length_map,length_range]at li;have l96:=je g (aY 5) nd eb;lia
end
theorem y8 (q:Q (.bool (decide (i=j))) V):fv .Eq (.int i) (.int j) Q V:=eqI.int i j rfl rfl q
theorem rq {K:QB} {a b:Bool} (q:K (a !=b) V):dx .NotEq (.bool a) (.bool b) K V:=neI.bool a b rfl rfl q
theorem Gu {x:IV} (h:V p=some (.list (xs++[x]))) (q:Q x V):atI (.ref p) (.int (-1)) Q V:=gV h (by simp) q
theorem BC {c:List aR}:jL G c t (c.flatMap (cT G t)):=λe=>by
 rw[List.mem_flatMap];constructor
 .rintro⟨x,m,h⟩;unfold cT at h;split at h
  .rename_i z;exact⟨x.1,x.2.1,x.2.2,m,z,by exact VX.1 h⟩
  .rcases h
 .rintro⟨n,d,o,m,z,rfl⟩;exact⟨(n,d,o),m,by unfold cT;refine O (ax z) ?_;simp⟩
theorem PQ {c:List aR} (nd:c.Nodup):(c.flatMap (cT G t)).Nodup:=by
 induction c with
 |nil=>exact nodup_nil
 |cons x c ih=>
  rw[nodup_cons]at nd;refine O List.flatMap_cons ?_;rw[nodup_append];refine⟨by unfold cT;split<;>simp,ih nd.2,λa ma b mb e=>?_⟩;subst e;unfold cT at ma;split at ma
  .have ea:a=(x.1,x.2.1+1,x.2.2):=by exact VX.1 ma
   obtain⟨y,my,h⟩:=List.mem_flatMap.1 mb;unfold cT at h;split at h
   .have eb:a=(y.1,y.2.1+1,y.2.2):=by exact VX.1 h
    have:x=y:=by
     obtain⟨x1,x2,x3⟩:=x;obtain⟨y1,y2,y3⟩:=y;rw[ea]at eb;simp at eb;simp;assumption
    exact nd.1 (this▸my)
   .exact not_mem_nil h
  .exact not_mem_nil ma
structure DueOk (G:GG) (C:List (List aR)) (k:Nat) (du:List Nat):Prop where
 nd:du.Pairwise (· < ·)
 t5:∀t∈du,t=0\/t=3\/t=4
 iff:∀t,t<5->(t∈du↔iP G C k t)
theorem y6 (g:Good G) (he:EmpOk G E) (h:ChSt G E w C) {k:Nat} (ec:C[k]? =some c) {du:List Nat} (nd:du.Nodup) (so:du.Pairwise (· <= ·)) (hd:∀t,t∈du↔∃e∈c,fA G e t):DueOk G C k du:=by
 have ent:=h.ok g he k c ec;refine⟨(so.and nd).imp λa=>by lia,λt m=>?_,λt t5=>?_⟩
 .obtain⟨e,me,z|z⟩:=(hd t).1 m
  .have:=g.sym (e.1+1) t (aG rfl) (aF z.1);lia
  .exact .inl z.1
 .rw[hd t];constructor
  .rintro⟨e,me,z|z⟩
   .have:=g.sym (e.1+1) t (aG rfl) (aF z.1);exact .inl ⟨by lia,e.1+1,e.2.1,e.2.2,⟨by exact aG rfl,c,ec,me⟩,z.1⟩
   .obtain⟨z1,z2,z3,z4⟩:=z;have dl:=(ent e me).dl;refine .inr ⟨z1,e.1+1,z3,by exact aG rfl,c,ec,?_⟩;have:(e.1+1 -1,(ae G (e.1+1)).length,0)=e:=by
     obtain⟨e1,e2,e3⟩:=e;simp only at z2 z4 dl;simp;lia
    exact O this me
  .rintro(⟨t0,r,d,o,⟨r0,c',ec',m⟩,e⟩|⟨t0,r,e6,r0,c',ec',m⟩)
   .obtain rfl:=Os ec ec';refine⟨_,m,.inl ⟨?_,t5⟩⟩;exact O (sub_add_cancel (n:=r) (m:=1) (by assumption)) e
   .obtain rfl:=Os ec ec';refine⟨_,m,.inr ⟨t0,?_,?_,rfl⟩⟩
    .show(ae G (r -1+1)).length<=(ae G r).length;exact O (sub_add_cancel (n:=r) (m:=1) (by assumption)) (aY _)
    .show ah G (r -1+1)=6;exact O (sub_add_cancel (n:=r) (m:=1) (by assumption)) e6
theorem GE {w:List Nat} (h:EntOk G w e) (l:w.length<=5):EB G 5 e:=⟨h.n4,h.dl,by have:=h.ol;exact le_trans ‹_› ‹_›⟩
section
set_option tactic.hygienic true
theorem Ej {K:QB} (q:K true V):dx .Is .none .none K V:=isNI.mk true .none rfl q
theorem Ek {K:QB} (q:K false V):dx .Is (.ref r) .none K V:=isNI.mk false (.ref _) rfl q
theorem Gp (q:Q (.bool true) V):fv .Is .none .none Q V:=isNI.mk true .none rfl q
theorem SA {α:Type} (a b c d:α) (l:List α):(a::b::c::d::l).Perm (d::a::c::b::l):=((List.Perm.swap c b (d::l)).cons a).trans (List.perm_middle (l₁:=[a,c,b]))
structure LawC (V9:IH) (P:List (Nat×List Nat)) (S:List SG) (E:List Nat) (T:TF) (clean:Prop) (pa tb ea:Addr) (cb:Bool):Prop where
 g:Good (GP P)
 pl:P.length=4
 ok:AutOk (GP P) S
 he:EmpOk (GP P) E
 hpa:V9 pa=some (.list (P.map cM))
 hea:V9 ea=some (.list (nl E))
 cb:cb=true->clean
 tab:∃mf rws dfl,TabAt V9 tb (GP P) S mf rws dfl clean/\T=bG (GP P) S rws dfl/\∃Fo,FoOk (GP P) S mf Fo
noncomputable abbrev yy (ch da sa:Addr) (cas:List Addr) (du st:List Nat) (cl:List (Addr×IO)):List (Addr×IO):=(ch,.list (cas.map IV.ref))::(da,.list (nl du))::(sa,.list (nl st.reverse))::cl
structure LawS (V9 V:IH) (P:List (Nat×List Nat)) (S:List SG) (E:List Nat) (T:TF) (ch da sa:Addr) (k:Nat) (w:List Nat) (C:List (List aR)) (cas:List Addr) (du st:List Nat) (cl:List (Addr×IO)):Prop where
 wl:w.length=k
 at_:At (GP P) S E T w C st
 cal:cas.length=C.length
 col:∀(i:Nat) c,C[i]? =some c->c.Nodup/\∃a,cas[i]? =some a/\(a,IO.list (c.map aV))∈cl
 due:DueOk (GP P) C k du
 stl:st.length<=1+41*k
 h:H V9 V (yy ch da sa cas du st cl)
theorem LawS.call {V9 V V':IH} {P:List (Nat×List Nat)} {S:List SG} {E:List Nat} {T:TF} {ch da sa:Addr} {k:Nat} {w:List Nat} {C:List (List aR)} {cas:List Addr} {du st:List Nat} {cl:List (Addr×IO)} (h:LawS V9 V P S E T ch da sa k w C cas du st cl) (e:Ext V V'):LawS V9 V' P S E T ch da sa k w C cas du st cl:=
 ⟨h.wl,h.at_,h.cal,h.col,h.due,h.stl,h.h.call e⟩
section
variable{B:Bs} (hB:Base B) {n:Nat} {V9:IH} {P:List (Nat×List Nat)} {S:List SG} {E:List Nat} {T:TF} {clean:Prop} {pa tb ea:Addr} {cb:Bool} (lc:LawC V9 P S E T clean pa tb ea cb)
variable{ch da sa:Addr} {k:Nat} {w:List Nat} {C:List (List aR)} {cas:List Addr} {du st:List Nat} {cl:List (Addr×IO)}
theorem LawC.tok (lc:LawC V9 P S E T clean pa tb ea cb):∃mf Fo,TOk (GP P) S mf T clean/\FoOk (GP P) S mf Fo:=by
 o_shape;obtain⟨mf,rws,dfl,ht,rfl,Fo,fk⟩:=lc.tab;pv_eval;exact⟨mf,Fo,⟨ht.tbl lc.ok,rfl,rfl,rfl⟩,fk⟩
theorem D6 {S:List SG} (ok:AutOk G S):In G S 0 0 0:=by
 obtain⟨s,e,k⟩:=ok.k0;refine⟨s,e,dW (by decide),((ok.ex 0 s e).its _).2 (.inl ?_)⟩;refine O k (O (yW ..) ?_);simp
include lc
theorem LawC.snd (ls:LawS V9 V P S E T ch da sa k w C cas du st cl) {t:Nat} (t5:t<5) (m:Nat):bP T t m st≠.bad/\∀st' v,bP T t m st=.yes st' v->t∈du/\0<v/\(t=0->v=1048576)/\
 (t≠0->v.toNat<S.length/\v=(v.toNat:Int)/\∀{b col c:List aR},C[w.length]? =some c->jL (GP P) c t b->ColOk (GP P) E C b col->At (GP P) S E T (w++[t]) (C++[col]) (v.toNat::st')):=by
 o_shape;obtain⟨mf,Fo,tk,fk⟩:=lc.tok;obtain⟨h1,h2⟩:=ls.at_.sound lc.g lc.ok lc.he tk t5 m;pv_eval;refine⟨h1,λst' v e=>?_⟩;obtain⟨a,b⟩:=h2 st' v e;rw[ls.wl]at a;exact⟨(ls.due.iff t t5).2 a,b⟩
theorem LawC.full (ls:LawS V9 V P S E T ch da sa k w C cas du st cl) (k5:k<=5) (c:cb=true) (m:t∈du):∃st' v,bP T t 40 st=.yes st' v:=by
 obtain⟨mf,Fo,tk,fk⟩:=lc.tok;have t5:t<5:=by have:=ls.due.t5 t m;lia
 refine ls.at_.full lc.g lc.ok lc.he tk fk (D6 lc.ok) (lc.cb c) (O ls.wl k5) t5 ?_;exact O ls.wl ((ls.due.iff t t5).1 m)
theorem LawC.heard (ls:LawS V9 V P S E T ch da sa k w C cas du st cl) (k5:k<=5):∀hl,hl=(if cb=true then(List.range 5).filter λt=>dL t&&bQ T t 40 st else[0,3,4].filter λt=>bQ T t 24 st)->(∀t∈hl,t∈du)/\(cb=true->hl=du):=by
 rintro hl rfl;have tkd:∀{t m},t<5->bQ T t m st=true->t∈du:=λ{t m} t5 e=>by
  rw[DB]at e;split at e
  .rename_i st' v z;exact((lc.snd ls t5 m).2 st' v z).1
  .exact(bE e).elim
 by_cases c:cb=true
 .refine O (ax c) ?_;have mem:∀t,t∈(List.range 5).filter (λt=>dL t&&bQ T t 40 st)↔t∈du:=λt=>by
   rw[mem_filter,mem_range];refine O (and_eq_true ..) ?_;constructor
   .rintro⟨t5,_,e⟩;exact tkd t5 e
   .intro m;have t3:=ls.due.t5 t m;o_shape;obtain⟨st',v,e⟩:=lc.full ls k5 c m;pv_eval;refine⟨by lia,?_,by exact O (DB ..) (O e rfl)⟩;unfold dL;simp;lia
  refine⟨λt m=>(mem t).1 m,λ_=>Ds ?_ ls.due.nd mem⟩;exact List.Pairwise.filter _ (List.pairwise_lt_range)
 .refine O (ai c) ⟨λt m=>?_,λz=>absurd z c⟩;obtain⟨m,e⟩:=mem_filter.1 m;exact tkd (by simp at m;lia) e
include hB
theorem DI {K:Kn} (hrt:∀V,K.rt (.bool true) V) {o11 o12 o15 o16 o17:Option IV} (ls:LawS V9 V P S E T ch da sa k w C cas du st cl) (k5:k<5) (hma:V ma=some (.list (nl menu))) (m0:menu≠[]) (hm:∀x∈menu,x<5/\x≠0)
 (hK:∀da sa o11 o12 o13 o14 o15 o16 o17 w C cas du st cl V',LawS V9 V' P S E T ch da sa (k+1) w C cas du st cl->K.nx [some a0,some (.ref pa),some a2,some a3,some (.ref tb),some (.bool cb),some (.ref ea),some (.ref ch),some (.ref da),some (.ref sa),some (.int k),o11,o12,o13,o14,o15,o16,o17] V'):
 az B (n+11) sr [some a0,some (.ref pa),some a2,some a3,some (.ref tb),some (.bool cb),some (.ref ea),some (.ref ch),some (.ref da),some (.ref sa),some (.int k),o11,o12,some (.int v),some (.ref ma),o15,o16,o17] K V:=by
 have len0:0<menu.length:=List.length_pos_iff.2 m0;o_shape;obtain⟨j,ej,jl⟩:∃j:Nat,((v:Int).fdiv 5).fmod (menu.length:Int)=(j:Nat)/\j<menu.length:=by
  have f1:=Int.fmod_nonneg_of_pos ((v:Int).fdiv 5) (show(0:Int)<(menu.length:Int) by lia);have f2:=Int.fmod_lt_of_pos ((v:Int).fdiv 5) (show(0:Int)<(menu.length:Int) by lia);exact⟨_,(Int.toNat_of_nonneg f1).symm,ofNat_lt.1 (O (Int.toNat_of_nonneg f1) f2)⟩
 refine bg jl λx hx=>?_;obtain⟨x5,x0⟩:=hm x (aF hx);obtain⟨sb,sy⟩:=lc.snd ls x5 40;obtain⟨mf,rws,dfl,ht,hT,Fo,fk⟩:=lc.tab;pv_eval;subst hT;have gd:=lc.g;have pl:=lc.pl;have wl:=ls.wl;have Cl:=ls.at_.ch.len;w_fin;refine binI.int _ _ rfl rfl ⟨by decide,by decide,cB hma (binI.int _ _ rfl rfl ⟨by refine O (aE ..) ?_;lia,?_⟩)⟩;refine O (aE ..) (O ej (aB hma (bf hx) ?_));w_fin;refine Dk (ht.mono ls.h.ext) lc.ok hB gd (ls.h.get 2 rfl) ls.at_.ne ls.at_.lt x5 (by have:=ls.stl;lia) sb (λV2 e2 hno=>?_) (λst' vv r V2 e2 hy sl fr gr=>?_)
 .have ls2:=ls.call e2;w_fin;refine eE<|eO (ls2.h.get 1 rfl)<|b9 (λc=>?_) (λc=>?_)
  .w_fin;exact Gp (hrt _)
  .have c:x∈du:=by simpa using c
   w_fin;refine Ej<|fx ?_;w_fin;have cf:cb=false:=by
    induction hcb:cb with
    |false=>rfl
    |true=>
     obtain⟨s1,v1,e1⟩:=lc.full ls (by lia) hcb c;rcases(Oe hno e1)
   exact O cf (.bool (hrt _))
 .o_shape;obtain⟨xd,v0,_,y3⟩:=sy st' vv hy;obtain⟨_,vE,mk⟩:=y3 x0;pv_eval;have hr:=ls.h.got e2 fr gr;have en:nl st'.reverse++[.int vv]=nl (vv.toNat::st').reverse:=by
   refine O List.reverse_cons (O vE ?_);rw[nl,nl];refine O bW ?_;simp
  rw[en]at hr;have ls2:=ls.call e2;w_fin;refine eE<|eO (ls2.h.get 1 rfl)<|b9 (λc=>?_) (λc=>?_)
  .exact absurd xd (by simpa using c)
  w_fin;refine Ek<|cJ ?_;w_fin;o_shape;refine bg (l:=C) (i:=k) (by lia) λc hc=>?_;obtain⟨nd,a,ha,hac⟩:=ls.col k c hc;pv_eval;have entk:=ls.at_.ch.ok gd lc.he;have ebk:∀(i:Nat) c,C[i]? =some c->∀e∈c,EB (GP P) 5 e:=λi c hc e m=>GE (entk i c hc e m) (by refine O length_take ?_;lia);have inl:∀{V':IH} {l:List (Addr×IO)} {p},H V9 V' (l++cl)->p∈cl->V' p.1=some p.2:=λhh m=>(hh.at_ _ (dA _ m)).2;refine⟨bz (hr.get 1 rfl),?_⟩;refine aB (hr.get 1 rfl) (show(cas.map IV.ref)[k]? =some (.ref a) by exact O aQ (O ha rfl)) ?_;refine TP hB pl (hr.ext _ _ lc.hpa) (inl (l:=[_,_,_,_]) hr hac) (by have:=je gd (aY 5) nd (ebk k c hc);lia) (λe m=>(ebk k c hc e m).1) λb V3 h3=>?_;have h4:=hr.join h3;refine Df hB gd pl (h4.ext _ _ lc.hpa) (h4.ext _ _ lc.hea) (h4.get 2 rfl) ls.cal (by lia) (λi c hc=>?_) (h4.get 0 rfl) (PQ nd) (λe m=>?_) λcol cr V4 co cnd ceb h5=>?_
  .obtain⟨nd',a',ha',hac'⟩:=ls.col i c hc;exact⟨ebk i c hc,je gd (aY 5) nd' (ebk i c hc),a',ha',inl (l:=[_,_,_,_,_]) h4 hac'⟩
  .o_shape;obtain⟨n',d',o',m',z,rfl⟩:=(BC e).1 m;obtain⟨q1,q2,q3⟩:=ebk k c hc _ m';pv_eval;exact⟨q1,av z,q3⟩
  have at2:=mk (O wl hc) BC co;have h6:=h4.join h5;refine bZ (h6.get 3 rfl) (by refine O (aE ..) ?_;have:=ls.cal;lia) ?_;have h7:=h6.put 3 (o':=.list ((cas++[cr]).map IV.ref)) rfl;refine O (show cas.map IV.ref++[.ref cr]=(cas++[cr]).map IV.ref by simp) ?_;generalize upd V4 ch (.list ((cas++[cr]).map IV.ref))=V5 at h7⊢;w_fin;refine de ?_;refine O (show(k:Int)+1=((k+1:Nat):Int) by lia) ?_;have cl2:(cas++[cr])[k+1]? =some cr:=by
   exact O (show k+1=cas.length by exact O ls.cal (O Cl (O wl rfl))) (getElem?_concat_length ..)
  refine aB (h7.get 3 rfl) (show((cas++[cr]).map IV.ref)[k+1]? =some (.ref cr) by exact O aQ (O cl2 rfl)) ?_;refine Dg hB pl (h7.ext _ _ lc.hpa) (h7.get 0 rfl) (λe m=>(ceb e m).1) λf fa V6 fnd fso hf h8=>?_;have h9:=h7.join h8;have h10:H V9 V6 ((fa,IO.list (nl f))::(cr,.list (col.map aV))::(r,.list (nl (vv.toNat::st').reverse))::(ch,.list ((cas++[cr]).map IV.ref))::cl):=h9.sub (.cons_cons _ (.cons_cons _ (.cons _ (.cons_cons _ (.cons_cons _ (.cons _ (.cons _ (.refl _))))))));have ec:(C++[col])[k+1]? =some col:=by
   exact O (show k+1=C.length by exact O Cl (O wl rfl)) (getElem?_concat_length ..)
  refine hK fa r _ _ _ _ _ _ _ (w++[x]) (C++[col]) (cas++[cr]) f (vv.toNat::st') ((cr,.list (col.map aV))::cl) V6 ⟨by exact O bT (O wl rfl),at2,by exact O bT (O bT (O ls.cal rfl)),λi c' hc'=>?_,y6 gd lc.he at2.ch ec fnd fso hf,by refine O length_cons ?_;have:=ls.stl;lia,h10.perm (SA _ _ _ _ _)⟩;rcases jj hc' with hc'|⟨rfl,eQ⟩
  .obtain⟨nd',a',ha',hac'⟩:=ls.col i c' hc';exact⟨nd',a',by exact O (cF (av ha')) ha',dw _ hac'⟩
  .obtain rfl:=eQ.symm;refine⟨cnd,cr,?_,bJ ..⟩;exact Ob ls.cal (getElem?_concat_length ..)
end
end
theorem Gg {b:Bool} {X Y:Prop} (h:b=false) (y:Y):(if b=true then X else Y):=by exact O (ai (by refine O h ?_;exact bE)) y
theorem Gq (q:Q (.bool false) V):fv .IsNot .none .none Q V:=isNI.mk true .none rfl q
theorem Gr (q:Q (.bool true) V):fv .IsNot (.ref r) .none Q V:=isNI.mk false (.ref _) rfl q
section
variable{B:Bs} (hB:Base B) {n:Nat} {V9:IH} {P:List (Nat×List Nat)} {S:List SG} {E:List Nat} {T:TF} {clean:Prop} {pa tb ea:Addr} {cb:Bool} (lc:LawC V9 P S E T clean pa tb ea cb)
variable{ch da sa:Addr} {k:Nat} {w:List Nat} {C:List (List aR)} {cas:List Addr} {du st:List Nat} {cl:List (Addr×IO)}
include lc hB
theorem DL {K:Kn} (hrt:∀V,K.rt (.bool true) V) {o11 o12 o13 o14 o15 o16 o17:Option IV} (ls:LawS V9 V P S E T ch da sa k w C cas du st cl) (k6:k<6)
 (hK:∀da sa o11 o12 o13 o14 o15 o16 o17 w C cas du st cl V',LawS V9 V' P S E T ch da sa (k+1) w C cas du st cl->K.nx [some (.frz ns),some (.ref pa),some a2,some a3,some (.ref tb),some (.bool cb),some (.ref ea),some (.ref ch),some (.ref da),some (.ref sa),some (.int k),o11,o12,o13,o14,o15,o16,o17] V'):
 az B (n+11) Bp [some (.frz ns),some (.ref pa),some a2,some a3,some (.ref tb),some (.bool cb),some (.ref ea),some (.ref ch),some (.ref da),some (.ref sa),some (.int k),o11,o12,o13,o14,o15,o16,o17] K V:=by
 w_fin;refine cV<|aO (λc=>?_) (λc=>?_)
 .w_fin;exact hrt _
 have k5:k<5:=by lia
 w_fin;refine de<|gp hB (by lia) (by lia) (by decide) λv V2 hv e2=>?_;have ls2:=ls.call e2;have du5:∀x∈du,x<5:=λx m=>by have:=ls.due.t5 x m;lia
 w_fin;refine bw (ls2.h.get 1 rfl) ?_;refine fT du.length (aE _) (λi=>nl ((du.take i).filter λx=>decide (x≠0))) rfl (ls2.h.get 1 rfl) (λi y hy K' ks kn=>?_) ?_
 .refine cZ hy λx hx=>?_;refine fn<|aO (λc=>?_) (λc=>?_)
  .refine ks _ ?_;have:decide (x≠0)=true:=decide_eq_true (by lia);exact O (c6 hx) (O (filter_append ..) (O filter_cons (O filter_nil (O (ax this) (O (dB ..) rfl)))))
  .refine kn ?_;have:¬decide (x≠0)=true:=by simp;lia
   exact O (c6 hx) (O (filter_append ..) (O filter_cons (O filter_nil (O (ai this) (O (append_nil ..) rfl)))))
 .intro ma hma;refine O take_length ?_;have ls3:=ls2.call (Ext.new (o:=.list (nl (du.filter λx=>decide (x≠0)))) hma);have gm:=bB V2 ma (.list (nl (du.filter λx=>decide (x≠0))));generalize upd V2 ma (.list (nl (du.filter λx=>decide (x≠0))))=V4 at ls3 gm⊢;have m5:∀x∈du.filter (λx=>decide (x≠0)),x<5/\x≠0:=λx m=>by
   o_shape;obtain⟨a,b⟩:=mem_filter.1 m;pv_eval;exact⟨du5 x a,by exact dT b⟩
  generalize du.filter (λx=>decide (x≠0))=menu at gm m5;have alt:∀(V5:IH),LawS V9 V5 P S E T ch da sa k w C cas du st cl->az B (n+11) Bo [some (.frz ns),some (.ref pa),some a2,some a3,some (.ref tb),some (.bool cb),some (.ref ea),some (.ref ch),some (.ref da),some (.ref sa),some (.int k),o11,o12,some (.int v),some (.ref ma),o15,o16,o17] ⟨λZ s=>az B (n+11) sr Z K s,K.br,K.co,K.rt⟩ V5:=λV5 ls5=>by
   w_fin;refine⟨by decide,λmb hmb=>?_⟩;refine DI hB lc hrt (ls5.call (Ext.new hmb)) k5 (menu:=[3,4,2]) (bB _ _ _) (by simp) (λx m=>by simp at m;lia) hK
  w_fin;refine binI.int _ _ rfl rfl ⟨by decide,?_⟩;refine cV<|aO (λc=>?_) (λc=>?_)
  .exact alt _ ls3
  .refine⟨by decide,λz hz=>?_⟩;have ex:=Ext.new (o:=.list []) hz;refine yH (ex _ _ gm) (bB _ _ _)<|b9 (λc=>?_) (λc=>?_)
   .exact alt _ (ls3.call ex)
   .exact DI hB lc hrt (ls3.call ex) k5 (ex _ _ gm) (λz=>by rw[z]at c;rcases c) m5 hK
theorem turn {K:Kn} (hrt:∀V,K.rt (.bool true) V) {o11 o12 o13 o14 o15 o16 o17:Option IV} (ls:LawS V9 V P S E T ch da sa k w C cas du st cl) (k6:k<6)
 (hK:∀da sa o11 o12 o13 o14 o15 o16 o17 w C cas du st cl V',LawS V9 V' P S E T ch da sa (k+1) w C cas du st cl->K.nx [some (.frz ns),some (.ref pa),some a2,some a3,some (.ref tb),some (.bool cb),some (.ref ea),some (.ref ch),some (.ref da),some (.ref sa),some (.int k),o11,o12,o13,o14,o15,o16,o17] V'):
 az B (n+11) Bt [some (.frz ns),some (.ref pa),some a2,some a3,some (.ref tb),some (.bool cb),some (.ref ea),some (.ref ch),some (.ref da),some (.ref sa),some (.int k),o11,o12,o13,o14,o15,o16,o17] K V:=by
 have hrd:=lc.heard ls (Nat.le_of_lt_succ ‹_›);have sn:=λ{t:Nat} (t5:t<5)=>lc.snd ls t5 40;have fl:=λ(c:cb=true) {t:Nat} (m:t∈du)=>lc.full ls (Nat.le_of_lt_succ ‹_›) c m;o_shape;obtain⟨mf,rws,dfl,ht,hT,Fo,fk⟩:=lc.tab;pv_eval;have gd:=lc.g;w_fin;refine TI (ht.mono ls.h.ext) lc.ok hB gd (ls.h.get 2 rfl) ls.at_.ne ls.at_.lt (by have:=ls.stl;lia) λhr V2 e2 ghr=>?_;rw[<-hT]at ghr;generalize hhl:(if cb=true then(List.range 5).filter λt=>dL t&&bQ T t 40 st else[0,3,4].filter λt=>bQ T t 24 st)=hl at ghr;obtain⟨hs,he⟩:=hrd hl hhl.symm;have ls2:=ls.call e2;have go:az B (n+11) Br [some (.frz ns),some (.ref pa),some a2,some a3,some (.ref tb),some (.bool cb),some (.ref ea),some (.ref ch),some (.ref da),some (.ref sa),some (.int k),some (.ref hr),o12,o13,o14,o15,o16,o17] K V2:=by
  w_fin;refine bw ghr ?_;refine fT _ rfl (λ_=>[]) rfl ghr (λi y hy K' ks kn=>?_) ?_
  .refine cZ hy λx hx=>?_;have xd:=hs x (aF hx);refine eE<|eO (ls2.h.get 1 rfl)<|b9 (λc=>?_) (λc=>?_)
   .exact absurd xd (by simpa using c)
   .exact kn rfl
  .refine λz hz=>⟨by decide,λz2 hz2=>?_⟩;have ex1:=Ext.new (o:=.list (nl [])) hz;have ex2:=Ext.new (o:=.list (nl [])) hz2;have ls3:=(ls2.call ex1).call ex2;refine yJ (l:=[]) (m:=[]) (ex2 _ _ (bB _ _ _)) (bB _ _ _)<|aO (λc=>absurd rfl c) (λ_=>?_);rw[show upd V2 z (.list [])=upd V2 z (.list (nl []))from rfl]at *;change az B (n+11) Bq _ K (upd (upd V2 z (.list (nl []))) z2 (.list (nl [])));generalize upd (upd V2 z (.list (nl []))) z2 (.list (nl []))=V4 at ls3⊢;w_fin;obtain⟨s1,s2⟩:=sn (t:=0) (by decide);refine Dk (t:=0) (ht.mono ls3.h.ext) lc.ok hB gd (ls3.h.get 2 rfl) ls.at_.ne ls.at_.lt (by decide) (by have:=ls.stl;lia) (hT▸s1) (λV5 e5 hno=>?_) (λst' vv r V5 e5 hy sl fr gr=>?_)
   .rw[<-hT]at hno;have ls5:=ls3.call e5;have nx:=DL hB lc (n:=n) (K:=K) hrt (ns:=ns) (a2:=a2) (a3:=a3) (o11:=some (.ref hr)) (o12:=some .none) (o13:=o13) (o14:=o14) (o15:=o15) (o16:=o16) (o17:=o17) ls5 k6 hK;w_fin;refine Gq<|cQ<|cJ<|iR<|eO (x:=0) (ls5.h.get 1 rfl) ?_;by_cases d0:0∈du
    .have cf:cb=false:=by
      induction hcb:cb with
      |false=>rfl
      |true=>
       obtain⟨s1,v1,e1⟩:=fl hcb d0;rcases(Oe hno e1)
     refine O (decide_eq_true d0) (rq<|fx<|cQ<|Gg cf ?_);refine eE<|eO (x:=0) (ls5.h.get 1 rfl) ?_;exact O (decide_eq_true d0) (cJ nx)
    .exact O (decide_eq_false d0) (rq<|cJ nx)
   .rw[<-hT]at hy;have ls5:=ls3.call e5;have nx:=DL hB lc (n:=n) (K:=K) hrt (ns:=ns) (a2:=a2) (a3:=a3) (o11:=some (.ref hr)) (o12:=some (.ref r)) (o13:=o13) (o14:=o14) (o15:=o15) (o16:=o16) (o17:=o17) ls5 k6 hK;obtain⟨d0,_,v0,_⟩:=s2 st' vv hy;have:=v0 rfl;subst this;w_fin;refine Gr<|cQ<|fx<|Gu gr<|y8<|iR<|eO (x:=0) (ls5.h.get 1 rfl) ?_;exact O (decide_eq_true d0) (rq<|cJ nx)
 w_fin;refine cQ<|b9 (λc=>?_) (λc=>?_)
 .refine yJ ghr (ls2.h.get 1 rfl)<|aO (λd=>absurd (he c) d) (λ_=>?_);exact go
 .exact cJ go
end
section
variable{B:Bs} (hB:Base B) {n:Nat} {V:IH} {Q:QE}
include hB
theorem TM (q:∀V',Q (.bool true) V'):CallOk B (n+12) 827 [.frz ns] V Q:=by
 refine FX hB ?_;w_fin;refine TQ hB λP pa V1 gd h1=>?_;have pl:P.length=4:=by have:=gd.len;rw[length_cons]at this;lia
 w_fin;refine TO hB gd (h1.get 0 rfl) λg A V2 e2 gr=>?_;refine Tq hB gr λau sl S V3 e3 ha=>?_;have h3:=(h1.call e2).call e3;have gr3:=gr.mono e3;have rest:∀(m:Addr) mf Fo V4,H V V4 [(pa,.list (P.map cM))]->GrAt V4 (GP P) g A->AutAt V4 (GP P) g au sl S->MasksAt V4 m S mf->FoOk (GP P) S mf Fo->
  az B (n+11) Bv [some (.frz ns),some (.ref pa),some (.ref au),some (.ref m),none,none,none,none,none,none,none,none,none,none,none,none,none,none] (aH Q) V4:=by
  clear h1 h3 gr3 e2 e3 gr ha;intro m mf Fo V4 h4 gr4 ha4 hm fk;w_fin;refine gp hB (by decide) (by decide) (by decide) λv V5 hv e5=>y8 ?_;refine TA hB (gr4.mono e5) (ha4.mono e5) (hm.mono e5) λtb rws dfl clean V6 e6 ht=>?_;have h6:=(h4.call e5).call e6;have ok:=ha4.ok;have ob:=ht.obj;o_shape;obtain⟨na,la,ea',ba,da',nu,g',ro,go,ca,se,o1,o2,o3,o4,o5,o6,cl,o7,o8⟩:=ob;pv_eval;w_fin;refine ag o1 rfl ⟨by decide,λz hz=>Gf ((Ext.new hz) _ _ o7) (bB _ _ _) ?_⟩;have h7:=h6.call (Ext.new (o:=.list []) hz);have ht7:=ht.mono (Ext.new (o:=.list []) hz);have cbl:(cl.map IV.ref).isEmpty=true->clean:=λc=>o8.1 (by simpa using c);generalize(cl.map IV.ref).isEmpty=cb at cbl⊢;generalize upd V6 z (.list [])=V7 at h7 ht7⊢;clear ht h6 h4 hm gr4 ha4 o1 o2 o3 o4 o5 o6 o7 o8;w_fin;refine TN hB gd pl (h7.get 0 rfl) λE ea V8 he h8=>?_;have h9:=h7.join h8;have ht9:=ht7.mono h8.ext;have lc:LawC V8 P S E (bG (GP P) S rws dfl) clean pa tb ea cb:=⟨gd,pl,ok,he,h9.get 1 rfl,h9.get 0 rfl,cbl,mf,rws,dfl,ht9,rfl,Fo,fk⟩;clear h7 h8 ht7;w_fin;refine⟨by decide,λz1 hz1=>⟨by decide,by decide,by decide,λz2 hz2=>?_⟩⟩;have f1:=((H.nil (V:=V8)).new (.list (([]:List Addr).map IV.ref)) hz1);rw[show upd V8 z1 (.list [])=upd V8 z1 (.list (([]:List Addr).map IV.ref))from rfl]at hz2⊢;have f2:=f1.new (.list (([(0,0,0),(1,0,0)]:List aR).map aV)) hz2;change CallOk B _ 796 _ (upd (upd V8 z1 (.list (([]:List Addr).map IV.ref))) z2 (.list (([(0,0,0),(1,0,0)]:List aR).map aV))) _;generalize upd (upd V8 z1 (.list (([]:List Addr).map IV.ref))) z2 (.list (([(0,0,0),(1,0,0)]:List aR).map aV))=V9 at f2⊢;refine Df (C:=[]) hB gd pl (f2.ext _ _ lc.hpa) (f2.ext _ _ lc.hea) (f2.get 1 rfl) rfl (by decide) (λi c e=>by simp at e) (f2.get 0 rfl) (by decide) (λe m=>?_) λcol cr V10 co cnd ceb h10=>⟨by decide,λch hch=>?_⟩
  .rcases mem_cons.1 m with rfl|m
   .exact⟨by decide,zero_le _,zero_le _⟩
   .have:e=(1,0,0):=by exact VX.1 m
    subst this;exact⟨by decide,zero_le _,zero_le _⟩
  have f3:=(f2.join h10).new (.list ([cr].map IV.ref)) hch;refine O (show upd V10 ch (.list [.ref cr])=upd V10 ch (.list ([cr].map IV.ref))from rfl) ?_;generalize upd V10 ch (.list ([cr].map IV.ref))=V11 at f3⊢;w_fin;refine aB (k:=0) (f3.get 0 rfl) (show([cr].map IV.ref)[0]? =some (.ref cr)from rfl) ?_;refine Dg hB pl (f3.ext _ _ lc.hpa) (f3.get 1 rfl) (λe m=>(ceb e m).1) λf fa V12 fnd fso hf h12=>?_;have f4:=f3.join h12;w_fin;refine⟨by decide,λsa hsa=>?_⟩;have f5:=f4.new (.list (nl [0].reverse)) hsa;change az B (n+11) Bu _ _ (upd V12 sa (.list (nl [0].reverse)));generalize upd V12 sa (.list (nl [0].reverse))=V13 at f5⊢;o_shape;obtain⟨mf',Fo',tk,fk'⟩:=lc.tok;pv_eval;have at0:At (GP P) S E (bG (GP P) S rws dfl) [] [col] [0]:=At.start gd ok he co;have f6:H V8 V13 ((sa,IO.list (nl [0].reverse))::(fa,.list (nl f))::(ch,.list ([cr].map IV.ref))::(cr,.list (col.map aV))::[]):=f5.sub (.cons_cons _ (.cons_cons _ (.cons_cons _ (.cons_cons _ (nil_sublist _)))));have f7:H V8 V13 (yy ch fa sa [cr] f [0] [(cr,.list (col.map aV))]):=f6.perm ((List.reverse_perm [(ch,IO.list ([cr].map IV.ref)),(fa,.list (nl f)),(sa,.list (nl [0].reverse))]).append_right [(cr,IO.list (col.map aV))]);have ls0:LawS V8 V13 P S E (bG (GP P) S rws dfl) ch fa sa 0 [] [col] [cr] f [0] [(cr,.list (col.map aV))]:=by
   refine⟨rfl,at0,rfl,λi c e=>?_,y6 gd he at0.ch (c:=col) rfl fnd fso hf,aY _,f7⟩;have:=av e;have i0:i=0:=by simp at this;assumption
   subst i0;have:c=col:=by exact aP e.symm
   obtain rfl:=this.symm;exact⟨cnd,cr,rfl,bJ ..⟩
  w_fin;refine dF (k:=6) (by decide) ?_;refine aU (λk Z V'=>E8 λo10 o11 o12 o13 o14 o15 o16 o17=>E8 λda sa w C cas du st cl=>A2 (Z=[some (.frz ns),some (.ref pa),some (.ref au),some (.ref m),some (.ref tb),some (.bool cb),some (.ref ea),some (.ref ch),some (.ref da),some (.ref sa),o10,o11,o12,o13,o14,o15,o16,o17]) (LawS V8 V' P S E (bG (GP P) S rws dfl) ch da sa k w C cas du st cl)) ⟨_,_,_,_,_,_,_,_,_,_,_,_,_,_,_,_,rfl,ls0⟩ ?_ ?_
  .rintro k Z V' y Fk hFk hy ⟨o10,o11,o12,o13,o14,o15,o16,o17,da,sa,w,C,cas,du,st,cl,rfl,ls⟩;refine⟨trivial,?_⟩;refine eI hy λk6=>?_;refine turn hB lc (λV=>q V) ls k6 λda sa o11 o12 o13 o14 o15 o16 o17 w C cas du st cl V' ls'=>?_;exact hFk _ _ ⟨_,_,_,_,_,_,_,_,_,_,_,_,_,_,_,_,rfl,ls'⟩
  .rintro Z V' ⟨o10,o11,o12,o13,o14,o15,o16,o17,da,sa,w,C,cas,du,st,cl,rfl,ls⟩;refine⟨trivial,?_⟩;w_fin;exact q _
 w_fin;refine gp hB (by decide) (by decide) (by decide) λv V4 hv e4=>cV<|aO (λc=>?_) (λc=>?_)
 .refine TL hB (gr3.mono e4) (ha.mono e4) λm mf T nb R1 R2 V5 e5 hm lk=>?_;exact rest m mf _ V5 ((h3.call e4).call e5) ((gr3.mono e4).mono e5) ((ha.mono e4).mono e5) hm (GM gd ha.ok lk)
 .refine TW hB (gr3.mono e4) (ha.mono e4) λm nb nb2 fm fl V5 e5 hm n1 n2 hf hl=>?_;exact rest m _ _ V5 ((h3.call e4).call e5) ((gr3.mono e4).mono e5) ((ha.mono e4).mono e5) hm (GN gd ha.ok n1 n2 hf hl)
end
section
set_option tactic.hygienic true
theorem Rb (P:Params):nsIn (K P) mainGlobals (u "law")=some (some (.ref 827)):=by kernel_rfl
theorem PJ (P:Params):(K P).lookup sysModules=some (PySem.W.boot_o_1 P):=by kernel_rfl
theorem HZ:looseW qv loose=loose:=by kernel_rfl
theorem Vq:WalkO qv loose q9 kH.says PySem.Challenge.rw_nn0404_01.row.toRowW rG [] λf vs=>PySem.call f vs:=by
 intro w s₀ s1 mg mb G hk a o pm cd doc dV kV ho hd hcr hdf hmg hgens args vals as hpre hlay hrd hwell hns;have X:(K w.params).In s1.heap:=kIn_of hk
 wrow_args hpre hlay hrd hwell hns
 rename_i ns _ _ _ _ _ _ _ p vs _ hL _ _ _ hI _ hc _;have T:TopRead qv loose mg mb s1.heap:=by
  have:=topRead_of G.T;rw[HZ]at this;exact this
 have hB:Base ⟨w,s1.heap,s1.os⟩:=⟨X,⟨mg,mb,T⟩,⟨_,X _ _ (PJ _)⟩⟩;have hm:mg (u "law")=some (.ref 827):=mg_of X G.T.g (Rb _);have ea:a=827:=by
  have:mg (u "law")=some (.ref a):=hmg
  replace this:=Oe hm this
  cases this;rfl
 subst ea;have nofoot:∀h b,¬aS (λ_=>none) h b:=λh b f=>by
  rcases f with f|⟨_,_,_,_,f,_⟩
  .exact f rfl
  .exact bv f
 have st:St ⟨w,s1.heap,s1.os⟩ (λ_=>none) s1:=⟨λ_ _ e=>(nomatch e),λ_ _ _ _ _ _ _ _ _ e=>(nomatch e),λ_ _ _ _ _ e=>(nomatch e),λ_ _ e=>e,λb f=>absurd f (nofoot _ b),hgens,rfl⟩;refine bK (CallOk.wp (TM (n:=0) hB (Q:=λv _=>v=.bool true) λ_=>rfl) (A:=callerA) ⟨rfl,by decide,by decide⟩ st (vs:=[.ref p]) ⟨⟨p,vs.toArray,rfl,hL,hI,by omega⟩,trivial⟩) (λv s' q=>?_) λ_ _ e=>e.elim;obtain⟨V',i,x',k',r',rfl⟩:=q;obtain rfl:=r';exact⟨.inl ⟨_,_,[],rfl,λ_=>rfl,ReadsW.bool true,by wrow_post,λ_=>⟨nodup_nil,λ_ hm=>(nomatch hm)⟩⟩,OldK.of_keep x'.keep,x'.os,.of_eq x'.gens⟩
theorem holds:PySem.Challenge.rw_nn0404_01.Holds:=head Vq
end
end Mine
theorem PySem.Challenge.cw_nn0404_01_holds : PySem.Challenge.rw_nn0404_01.Holds :=
  Mine.holds
