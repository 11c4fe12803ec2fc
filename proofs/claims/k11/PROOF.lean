import PyProof.Rows.All
import Wide.All
import OpenK.AllK
import Wide.FinOn
import HandS.ForMost
import HandS.IsInst
import HandS.Codes
import HandS.WideBits
import HandS.TupAny
import HandS.SortInts
import HandS.StrMore
import HandS.Walk
import HandS.EndBits
import HandS.More
import HandS.Zip
import PyProof.StrBlock2
import HandS.Rev
import PyProof.JoinWalk
import HandS.CallSlots
import HandS.Defaults
import HandS.DictComp
import HandS.DictEq
import HandS.Style
import HandS.WordsExc
import HandS.Finally
import HandS.ExcInit
import HandS.ExcIs
import HandS.TryOnly
import KE.KExcIs
import HandS.ExcField
import HandS.RaiseMore
import KE.OsRunLaw
import KE.DataFind
import HandS.Lambda
import HandS.EndTab
import HandS.HeadWalk
import KE.KDictPairs
import PyProof.EqKinds
import Wide.Seal
import KE.KeyNested
import HandS.ListItems
import PySem.Challenge.RW_flowhall_k11_raising_refused
set_option Elab.async false
set_option linter.all false
set_option maxRecDepth 100000
namespace HR
open PySem PySem.W PySem.Calls PyProof.Rows HeadRun
section
theorem tJ {α β γ:Type} {o:Option α} {f:α→β×γ} {a:β×γ} (e1:o.map (fun s=>(f s).1)=some a.1) (e2:o.map (fun s=>(f s).2)=some a.2):o.map f=some a:=by
 cases o with
 | none=>cases e1
 | some x=>
  injection e1 with e1
  injection e2 with e2
  show some (f x)=some a
  rw [show f x=a from Prod.ext e1 e2]
theorem mapT3 {α β γ δ:Type} {o:Option α} {f:α→β} {g:α→γ} {h:α→δ} {a:β} {b:γ} {c:δ} (e1:o.map f=some a) (e2:o.map g=some b) (e3:o.map h=some c):o.map (fun s=>(f s,g s,h s))=some (a,b,c):=by
 cases o with
 | none=>cases e1
 | some x=>
  injection e1 with e1
  injection e2 with e2
  injection e3 with e3
  show some (f x,g x,h x)=some (a,b,c)
  rw [e1,e2,e3]
noncomputable abbrev pw:Program:=PySem.Challenge.pw_flowhall_k11_raising_refused
noncomputable def vw:Program:= {pw with main:= {pw.main with body:= [0,2,3,4,5,6,7,8,9,10,11,12,13,14,15,16,17,18,20,21,22,23,24,25,26,28,29,30,31,32,34,36,37,38,39,40,42,43,44,45,46,47,48,49,50,52,53,54,55,56,57,58,59,60,61,62,63,64,65].map fun i=>pw.main.body.getD i (.Pass ⟨0,0,0,0⟩)}}
noncomputable def lo:List PySem.Str:= [PySem.Str.ofString "MOST"]
noncomputable def lv:List (PySem.Str×WData):= [(PySem.Str.ofString "MOST",WData.int 1000000000000000000000000000000000000000000000000000000000000)]
noncomputable def gd:=openGood vw lo
noncomputable def sn (s:SharedT):=seenQ vw lo (importedModules pw.main.body) (fun s=>xlAt vw lv s&&recOk [] s) s.abs
noncomputable def run (w:World) (os:OsState):Option SharedT:=endF (stepQ (denQ tabQ) pw w) 13384 pw w os
noncomputable def rcO (st:Stmt):Option DefRec:=match st with
 | .FunctionDef name a body _ _ _ sc _ _ pos=>some {name:=name,params:=a,body:=body,scope:=sc,pos:=pos}
 | _=>none
noncomputable def recs:List DefRec:=vw.main.body.filterMap rcO
theorem st0:PySem.W.Fast.tw3399658132070893891 vw=recs:=by kernel_rfl
theorem st2:PyProof.Rows.recsOf vw=recs:=by kernel_rfl
noncomputable def mtO (st:Stmt):Option MethRec:=match st with
 | .FunctionDef name a body _ _ _ sc _ _ _=>some {name:=name,params:=a,body:=body,scope:=sc}
 | _=>none
def dfO (st:Stmt):Bool:=match st with
 | .FunctionDef _ a _ _ _ _ _ _ _ _=>a.defaults.isEmpty
 | _=>true
noncomputable def clO (st:Stmt):Option ClsRec:=match st with
 | .ClassDef name [] _ body _ _ _ _ _ statics pos=>if body.all dfO=true then some {name:=name,base:=none,body:=body,statics:=statics,line:=pos.line,meths:=body.filterMap mtO} else none
 | _=>none
noncomputable def plns:List ClsRec:=vw.main.body.filterMap clO
theorem st6:PySem.W.Fast.tw210736558901404530 vw (PySem.W.Fast.tw821141287760084731 vw lo)=plns:=by kernel_rfl
theorem st7:plainsOf vw (looseW vw lo)=plns:=by kernel_rfl
theorem b0:∀(w:World) (os:OsState),(run w os).map (fun s=>looksF pw (boot_heap w.params) s.abs)=some true:=by
 intro w os
 kernel_rfl
theorem b1:∀(w:World) (os:OsState),(run w os).map (fun s=>(sn s).1)=some (gd.1):=by
 intro w os
 dsimp only [sn,HeadRun.seenQ,PySem.W.Fast.tw4187177175401517315,PySem.W.Fast.tw5160383126252970620,PySem.W.Fast.tw479339242167458305,PyProof.Rows.expectedOf,gd,openGood]
 rw [st0,st2]
 kernel_rfl
theorem b4:∀(w:World) (os:OsState),(run w os).map (fun s=>(sn s).2.2.2.1)=some (gd.2.2.2.1):=by
 intro w os
 dsimp only [sn,HeadRun.seenQ,PySem.W.Fast.tw4187177175401517315,PySem.W.Fast.tw5160383126252970620,PySem.W.Fast.tw479339242167458305,PyProof.Rows.expectedOf,gd,openGood]
 rw [st0]
 kernel_rfl
theorem b3:∀(w:World) (os:OsState),(run w os).map (fun s=>(sn s).2.2.1)=some (gd.2.2.1):=by
 intro w os
 dsimp only [sn,HeadRun.seenQ,PySem.W.Fast.tw4187177175401517315,PySem.W.Fast.tw5160383126252970620,PySem.W.Fast.tw479339242167458305,PyProof.Rows.expectedOf,gd,openGood]
 rw [st0]
 kernel_rfl
theorem b6:∀(w:World) (os:OsState),(run w os).map (fun s=>(sn s).2.2.2.2.2.1)=some (gd.2.2.2.2.2.1):=by
 intro w os
 dsimp only [sn,HeadRun.seenQ,PySem.W.Fast.tw4187177175401517315,PySem.W.Fast.tw5160383126252970620,PySem.W.Fast.tw479339242167458305,PyProof.Rows.expectedOf,gd,openGood,PySem.W.Fast.tw2386780881361962483,plainGoodE]
 rw [st6,st7]
 kernel_rfl
theorem b9:∀(w:World) (os:OsState),(run w os).map (fun s=>(sn s).2.2.2.2.2.2.2.2)=some (gd.2.2.2.2.2.2.2.2):=by
 intro w os
 dsimp only [sn,HeadRun.seenQ,PySem.W.Fast.tw4187177175401517315,PySem.W.Fast.tw5160383126252970620,PySem.W.Fast.tw479339242167458305,PyProof.Rows.expectedOf,gd,openGood]
 kernel_rfl
theorem b8:∀(w:World) (os:OsState),(run w os).map (fun s=>(sn s).2.2.2.2.2.2.2.1)=some (gd.2.2.2.2.2.2.2.1):=by
 intro w os
 dsimp only [sn,HeadRun.seenQ,PySem.W.Fast.tw4187177175401517315,PySem.W.Fast.tw5160383126252970620,PySem.W.Fast.tw479339242167458305,PyProof.Rows.expectedOf,gd,openGood]
 kernel_rfl
theorem b7:∀(w:World) (os:OsState),(run w os).map (fun s=>(sn s).2.2.2.2.2.2.1)=some (gd.2.2.2.2.2.2.1):=by
 intro w os
 dsimp only [sn,HeadRun.seenQ,PySem.W.Fast.tw4187177175401517315,PySem.W.Fast.tw5160383126252970620,PySem.W.Fast.tw479339242167458305,PyProof.Rows.expectedOf,gd,openGood]
 kernel_rfl
theorem b5:∀(w:World) (os:OsState),(run w os).map (fun s=>(sn s).2.2.2.2.1)=some (gd.2.2.2.2.1):=by
 intro w os
 dsimp only [sn,HeadRun.seenQ,PySem.W.Fast.tw4187177175401517315,PySem.W.Fast.tw5160383126252970620,PySem.W.Fast.tw479339242167458305,PyProof.Rows.expectedOf,gd,openGood]
 kernel_rfl
theorem b2:∀(w:World) (os:OsState),(run w os).map (fun s=>(sn s).2.1)=some (gd.2.1):=by
 intro w os
 dsimp only [sn,HeadRun.seenQ,PySem.W.Fast.tw4187177175401517315,PySem.W.Fast.tw5160383126252970620,PySem.W.Fast.tw479339242167458305,PyProof.Rows.expectedOf,gd,openGood]
 kernel_rfl
theorem seen_all (w:World) (os:OsState):(run w os).map sn=some gd:=tJ (b1 w os) (tJ (b2 w os) (tJ (b3 w os) (tJ (b4 w os) (tJ (b5 w os) (tJ (b6 w os) (tJ (b7 w os) (tJ (b8 w os) (b9 w os))))))))
def v (s:String) (n:Nat):Value:= .str (PySem.Str.ofString s) n
def r (a:Nat):Value:= .ref a
def i (a:Int) (n:Nat):Value:= .int a n
def z:Value:= .none
def t:Value:= .bool true
def bu (s:String):Value:= .builtin s
def ty (s:String):Value:= .type s
noncomputable def e (P:Params) (s:String) (n:Nat) (x:Value):DictEntry:=⟨PyData.keyHash P (PySem.Str.ofString s),v s n,x⟩
def T (l:List Value) (n:Nat:=0):Obj:= {cls:= .type "tuple",data:= .seq l.toArray n}
def D (l:List DictEntry) (n:Nat:=0):Obj:= {cls:= .type "dict",data:= .dict l.toArray n}
def C (l:List Value):Obj:= {cls:= .type "code",data:= .fields l.toArray}
def G (l:List Value):Obj:= {cls:= .type "getset_descriptor",data:= .fields l.toArray}
def c (n q:String) (a b d l m f1 f2 f3 f4 r1 r2:Nat) (x:Value) (r3 r4 r5 m2:Nat) (k:Nat) (f:String):Obj:=C [v n a,v q b,v f d,i l 0,i m 0,i f1 0,i f2 0,i f3 0,r r1,t,i f4 0,r r2,x,r r3,r r4,r r5,i m2 0,i l 0,v f k]
noncomputable def tp (i:Nat):Stmt:=pw.main.body.getD i (.Pass ⟨0,0,0,0⟩)
noncomputable def F (S:Stmt) (n q:String) (dv kV dc pm:Value) (an:Option Addr) (cd ct:Value):Obj:= {cls:= .type "function",data:= .func {name:=PySem.Str.ofString n,qualname:=PySem.Str.ofString q,params:=L2.defArgs S,body:= .stmts (L2.defBody S),scope:=L2.defScope S,globals:=3,closure:= [],defaults:=dv,kwdefaults:=kV,doc:=dc,pyModule:=pm,annotations:=an,code:=cd,closureTuple:=ct}}
noncomputable def ob (P:Params):Frag:=(nat_lit 2,{cls:=z,data:=Data.dict #[]})::
 (nat_lit 3,D [e P "__name__" 165 (v "law_flowhall_k11_raising_refused" 1055),e P "__doc__" 166 z,e P "__package__" 167 z,e P "__loader__" 168 (bu "__main__.__loader__#opaque"),e P "__spec__" 169 z,e P "__annotations__" 170 (r 6),e P "__builtins__" 171 (r 4),e P "__file__" 173 (v "/claim/cut.py" 172),e P "__cached__" 174 z,e P "_wall" 193 (r 21),e P "FlowError" 213 (r 31),e P "BadName" 229 (r 44),e P "Twice" 245 (r 56),e P "TooMany" 261 (r 68),e P "NoPlace" 286 (r 87),e P "BadTie" 302 (r 99),e P "BadRoom" 318 (r 111),e P "BadPrice" 334 (r 123),e P "NoTie" 359 (r 142),e P "BadLine" 384 (r 161),e P "BadFlow" 409 (r 180),e P "SamePlace" 425 (r 192),e P "NoFlow" 450 (r 211),e P "Endless" 475 (r 230),e P "Forever" 500 (r 249),e P "BadQuestion" 525 (r 268),e P "NoDeed" 541 (r 280),e P "LETTERS" 545 (v "abcdefghijklmnopqrstuvwxyz" 544),e P "MOST_LETTERS" 547 (i 12 546),e P "is_whole" 554 (r 289),e P "is_among" 563 (r 296),e P "are_signs" 569 (r 301),e P "is_name" 576 (r 308),e P "number_text" 583 (r 315),e P "is_amount" 593 (r 322),e P "need_flow" 599 (r 327),e P "need_ends" 608 (r 334),e P "spare_sums" 619 (r 341),e P "carried_by" 632 (r 348),e P "Rest" 760 (r 428),e P "Raised" 795 (r 449),e P "room_left" 803 (r 460),e P "rest_of" 815 (r 467),e P "flow_of" 826 (r 474),e P "raised" 832 (r 479),e P "MOST" 838 (i 1000000000000000000000000000000000000000000000000000000000000 837),e P "MOST_PLACES" 840 (i 14 839),e P "MOST_TIES" 842 (i 40 841),e P "need_room" 850 (r 486),e P "need_price" 857 (r 493),e P "Tie" 896 (r 510),e P "Net" 1039 (r 621),e P "tie_line" 1048 (r 632),e P "net_lines" 1054 (r 637),e P "_law_number" 1066 (r 644),e P "_law_mixed" 1074 (r 651),e P "_law_names" 1080 (r 656),e P "_law_great" 1089 (r 663),e P "_law_room" 1099 (r 670),e P "_law_row" 1113 (r 677),e P "_law_made" 1124 (r 684),e P "_law_alone" 1133 (r 691),e P "_law_told" 1147 (r 698),e P "_law_is_endless" 1159 (r 705),e P "_law_bent" 1165 (r 710),e P "_law_uneven" 1171 (r 715),e P "_law_asked" 1191 (r 722),e P "law" 1197 (r 727)] 68)::
 (nat_lit 15,T [])::
 (nat_lit 17,T [v "k" 190])::
 (nat_lit 18,T [])::
 (nat_lit 20,c "_wall" "_wall" 187 188 189 1 1 0 0 3 181 15 16 z 17 18 19 191 192 "/claim/cut.py")::
 (nat_lit 21,F (tp 0) "_wall" "_wall" z z z (v "__main__" 164) none (r 20) z)::
 (nat_lit 22,T [ty "ValueError"])::
 (nat_lit 29,T [])::
 (nat_lit 30,D [e P "__module__" 203 (v "flowhall.errors" 194),e P "__firstlineno__" 207 (i 5 206),e P "__static_attributes__" 208 (r 29),e P "__weakref__" 210 (r 32),e P "__doc__" 211 z] 3)::
 (nat_lit 31,{cls:=ty "type",data:=Data.cls {name:=Str.ofString "FlowError",bases:= [ty "ValueError"],mro:= [r 31,ty "ValueError",ty "Exception",ty "BaseException",ty "object"],ns:=30,qualname:=Str.ofString "FlowError",subclasses:= [r 44,r 56,r 68,r 87,r 99,r 111,r 123,r 142,r 161,r 180,r 192,r 211,r 230,r 249,r 268,r 280]},slots:= #[Option.some (r 22),Option.none,Option.some (v "FlowError" 196),Option.some (v "FlowError" 204),Option.some (bu "ValueError.__new__"),Option.some (t)]})::
 (nat_lit 32,G [v "__weakref__" 209,r 31,bu "ExceptionGroup.__weakref__",z])::
 (nat_lit 35,T [r 31])::
 (nat_lit 42,T [])::
 (nat_lit 43,D [e P "__module__" 221 (v "flowhall.errors" 194),e P "__firstlineno__" 225 (i 7 224),e P "__static_attributes__" 226 (r 42),e P "__doc__" 227 z] 2)::
 (nat_lit 44,{cls:=ty "type",data:=Data.cls {name:=Str.ofString "BadName",bases:= [r 31],mro:= [r 44,r 31,ty "ValueError",ty "Exception",ty "BaseException",ty "object"],ns:=43,qualname:=Str.ofString "BadName" },slots:= #[Option.some (r 35),Option.none,Option.some (v "BadName" 214),Option.some (v "BadName" 222),Option.some (bu "ValueError.__new__"),Option.some (t)]})::
 (nat_lit 47,T [r 31])::
 (nat_lit 54,T [])::
 (nat_lit 55,D [e P "__module__" 237 (v "flowhall.errors" 194),e P "__firstlineno__" 241 (i 9 240),e P "__static_attributes__" 242 (r 54),e P "__doc__" 243 z] 2)::
 (nat_lit 56,{cls:=ty "type",data:=Data.cls {name:=Str.ofString "Twice",bases:= [r 31],mro:= [r 56,r 31,ty "ValueError",ty "Exception",ty "BaseException",ty "object"],ns:=55,qualname:=Str.ofString "Twice" },slots:= #[Option.some (r 47),Option.none,Option.some (v "Twice" 230),Option.some (v "Twice" 238),Option.some (bu "ValueError.__new__"),Option.some (t)]})::
 (nat_lit 59,T [r 31])::
 (nat_lit 66,T [])::
 (nat_lit 67,D [e P "__module__" 253 (v "flowhall.errors" 194),e P "__firstlineno__" 257 (i 11 256),e P "__static_attributes__" 258 (r 66),e P "__doc__" 259 z] 2)::
 (nat_lit 68,{cls:=ty "type",data:=Data.cls {name:=Str.ofString "TooMany",bases:= [r 31],mro:= [r 68,r 31,ty "ValueError",ty "Exception",ty "BaseException",ty "object"],ns:=67,qualname:=Str.ofString "TooMany" },slots:= #[Option.some (r 59),Option.none,Option.some (v "TooMany" 246),Option.some (v "TooMany" 254),Option.some (bu "ValueError.__new__"),Option.some (t)]})::
 (nat_lit 71,T [r 31])::
 (nat_lit 78,T [])::
 (nat_lit 80,T [v "self" 277,v "name" 278])::
 (nat_lit 81,T [])::
 (nat_lit 83,c "__init__" "NoPlace.__init__" 274 275 276 15 2 0 0 3 181 78 79 z 80 81 82 279 280 "/claim/cut.py")::
 (nat_lit 84,F (L2.inClass (tp 6) 0) "__init__" "NoPlace.__init__" z z z (v "flowhall.errors" 194) none (r 83) z)::
 (nat_lit 85,T [v "name" 282])::
 (nat_lit 86,D [e P "__module__" 269 (v "flowhall.errors" 194),e P "__firstlineno__" 273 (i 13 272),e P "__init__" 281 (r 84),e P "__static_attributes__" 283 (r 85),e P "__doc__" 284 z] 2)::
 (nat_lit 87,{cls:=ty "type",data:=Data.cls {name:=Str.ofString "NoPlace",bases:= [r 31],mro:= [r 87,r 31,ty "ValueError",ty "Exception",ty "BaseException",ty "object"],ns:=86,qualname:=Str.ofString "NoPlace" },slots:= #[Option.some (r 71),Option.none,Option.some (v "NoPlace" 262),Option.some (v "NoPlace" 270),Option.some (bu "ValueError.__new__"),Option.some (t)]})::
 (nat_lit 90,T [r 31])::
 (nat_lit 97,T [])::
 (nat_lit 98,D [e P "__module__" 294 (v "flowhall.errors" 194),e P "__firstlineno__" 298 (i 17 297),e P "__static_attributes__" 299 (r 97),e P "__doc__" 300 z] 2)::
 (nat_lit 99,{cls:=ty "type",data:=Data.cls {name:=Str.ofString "BadTie",bases:= [r 31],mro:= [r 99,r 31,ty "ValueError",ty "Exception",ty "BaseException",ty "object"],ns:=98,qualname:=Str.ofString "BadTie" },slots:= #[Option.some (r 90),Option.none,Option.some (v "BadTie" 287),Option.some (v "BadTie" 295),Option.some (bu "ValueError.__new__"),Option.some (t)]})::
 (nat_lit 102,T [r 31])::
 (nat_lit 109,T [])::
 (nat_lit 110,D [e P "__module__" 310 (v "flowhall.errors" 194),e P "__firstlineno__" 314 (i 19 313),e P "__static_attributes__" 315 (r 109),e P "__doc__" 316 z] 2)::
 (nat_lit 111,{cls:=ty "type",data:=Data.cls {name:=Str.ofString "BadRoom",bases:= [r 31],mro:= [r 111,r 31,ty "ValueError",ty "Exception",ty "BaseException",ty "object"],ns:=110,qualname:=Str.ofString "BadRoom" },slots:= #[Option.some (r 102),Option.none,Option.some (v "BadRoom" 303),Option.some (v "BadRoom" 311),Option.some (bu "ValueError.__new__"),Option.some (t)]})::
 (nat_lit 114,T [r 31])::
 (nat_lit 121,T [])::
 (nat_lit 122,D [e P "__module__" 326 (v "flowhall.errors" 194),e P "__firstlineno__" 330 (i 21 329),e P "__static_attributes__" 331 (r 121),e P "__doc__" 332 z] 2)::
 (nat_lit 123,{cls:=ty "type",data:=Data.cls {name:=Str.ofString "BadPrice",bases:= [r 31],mro:= [r 123,r 31,ty "ValueError",ty "Exception",ty "BaseException",ty "object"],ns:=122,qualname:=Str.ofString "BadPrice" },slots:= #[Option.some (r 114),Option.none,Option.some (v "BadPrice" 319),Option.some (v "BadPrice" 327),Option.some (bu "ValueError.__new__"),Option.some (t)]})::
 (nat_lit 126,T [r 31])::
 (nat_lit 133,T [])::
 (nat_lit 135,T [v "self" 350,v "number" 351])::
 (nat_lit 136,T [])::
 (nat_lit 138,c "__init__" "NoTie.__init__" 347 348 349 25 2 0 0 3 181 133 134 z 135 136 137 352 353 "/claim/cut.py")::
 (nat_lit 139,F (L2.inClass (tp 10) 0) "__init__" "NoTie.__init__" z z z (v "flowhall.errors" 194) none (r 138) z)::
 (nat_lit 140,T [v "number" 355])::
 (nat_lit 141,D [e P "__module__" 342 (v "flowhall.errors" 194),e P "__firstlineno__" 346 (i 23 345),e P "__init__" 354 (r 139),e P "__static_attributes__" 356 (r 140),e P "__doc__" 357 z] 2)::
 (nat_lit 142,{cls:=ty "type",data:=Data.cls {name:=Str.ofString "NoTie",bases:= [r 31],mro:= [r 142,r 31,ty "ValueError",ty "Exception",ty "BaseException",ty "object"],ns:=141,qualname:=Str.ofString "NoTie" },slots:= #[Option.some (r 126),Option.none,Option.some (v "NoTie" 335),Option.some (v "NoTie" 343),Option.some (bu "ValueError.__new__"),Option.some (t)]})::
 (nat_lit 145,T [r 31])::
 (nat_lit 152,T [])::
 (nat_lit 154,T [v "self" 375,v "place" 376])::
 (nat_lit 155,T [])::
 (nat_lit 157,c "__init__" "BadLine.__init__" 372 373 374 29 2 0 0 3 181 152 153 z 154 155 156 377 378 "/claim/cut.py")::
 (nat_lit 158,F (L2.inClass (tp 11) 0) "__init__" "BadLine.__init__" z z z (v "flowhall.errors" 194) none (r 157) z)::
 (nat_lit 159,T [v "place" 380])::
 (nat_lit 160,D [e P "__module__" 367 (v "flowhall.errors" 194),e P "__firstlineno__" 371 (i 27 370),e P "__init__" 379 (r 158),e P "__static_attributes__" 381 (r 159),e P "__doc__" 382 z] 2)::
 (nat_lit 161,{cls:=ty "type",data:=Data.cls {name:=Str.ofString "BadLine",bases:= [r 31],mro:= [r 161,r 31,ty "ValueError",ty "Exception",ty "BaseException",ty "object"],ns:=160,qualname:=Str.ofString "BadLine" },slots:= #[Option.some (r 145),Option.none,Option.some (v "BadLine" 360),Option.some (v "BadLine" 368),Option.some (bu "ValueError.__new__"),Option.some (t)]})::
 (nat_lit 164,T [r 31])::
 (nat_lit 171,T [])::
 (nat_lit 173,T [v "self" 400,v "number" 401])::
 (nat_lit 174,T [])::
 (nat_lit 176,c "__init__" "BadFlow.__init__" 397 398 399 33 2 0 0 3 181 171 172 z 173 174 175 402 403 "/claim/cut.py")::
 (nat_lit 177,F (L2.inClass (tp 12) 0) "__init__" "BadFlow.__init__" z z z (v "flowhall.errors" 194) none (r 176) z)::
 (nat_lit 178,T [v "number" 405])::
 (nat_lit 179,D [e P "__module__" 392 (v "flowhall.errors" 194),e P "__firstlineno__" 396 (i 31 395),e P "__init__" 404 (r 177),e P "__static_attributes__" 406 (r 178),e P "__doc__" 407 z] 2)::
 (nat_lit 180,{cls:=ty "type",data:=Data.cls {name:=Str.ofString "BadFlow",bases:= [r 31],mro:= [r 180,r 31,ty "ValueError",ty "Exception",ty "BaseException",ty "object"],ns:=179,qualname:=Str.ofString "BadFlow" },slots:= #[Option.some (r 164),Option.none,Option.some (v "BadFlow" 385),Option.some (v "BadFlow" 393),Option.some (bu "ValueError.__new__"),Option.some (t)]})::
 (nat_lit 183,T [r 31])::
 (nat_lit 190,T [])::
 (nat_lit 191,D [e P "__module__" 417 (v "flowhall.errors" 194),e P "__firstlineno__" 421 (i 35 420),e P "__static_attributes__" 422 (r 190),e P "__doc__" 423 z] 2)::
 (nat_lit 192,{cls:=ty "type",data:=Data.cls {name:=Str.ofString "SamePlace",bases:= [r 31],mro:= [r 192,r 31,ty "ValueError",ty "Exception",ty "BaseException",ty "object"],ns:=191,qualname:=Str.ofString "SamePlace" },slots:= #[Option.some (r 183),Option.none,Option.some (v "SamePlace" 410),Option.some (v "SamePlace" 418),Option.some (bu "ValueError.__new__"),Option.some (t)]})::
 (nat_lit 195,T [r 31])::
 (nat_lit 202,T [])::
 (nat_lit 204,T [v "self" 441,v "side" 442])::
 (nat_lit 205,T [])::
 (nat_lit 207,c "__init__" "NoFlow.__init__" 438 439 440 39 2 0 0 3 181 202 203 z 204 205 206 443 444 "/claim/cut.py")::
 (nat_lit 208,F (L2.inClass (tp 14) 0) "__init__" "NoFlow.__init__" z z z (v "flowhall.errors" 194) none (r 207) z)::
 (nat_lit 209,T [v "side" 446])::
 (nat_lit 210,D [e P "__module__" 433 (v "flowhall.errors" 194),e P "__firstlineno__" 437 (i 37 436),e P "__init__" 445 (r 208),e P "__static_attributes__" 447 (r 209),e P "__doc__" 448 z] 2)::
 (nat_lit 211,{cls:=ty "type",data:=Data.cls {name:=Str.ofString "NoFlow",bases:= [r 31],mro:= [r 211,r 31,ty "ValueError",ty "Exception",ty "BaseException",ty "object"],ns:=210,qualname:=Str.ofString "NoFlow" },slots:= #[Option.some (r 195),Option.none,Option.some (v "NoFlow" 426),Option.some (v "NoFlow" 434),Option.some (bu "ValueError.__new__"),Option.some (t)]})::
 (nat_lit 214,T [r 31])::
 (nat_lit 221,T [])::
 (nat_lit 223,T [v "self" 466,v "numbers" 467])::
 (nat_lit 224,T [])::
 (nat_lit 226,c "__init__" "Endless.__init__" 463 464 465 43 2 0 0 3 181 221 222 z 223 224 225 468 469 "/claim/cut.py")::
 (nat_lit 227,F (L2.inClass (tp 15) 0) "__init__" "Endless.__init__" z z z (v "flowhall.errors" 194) none (r 226) z)::
 (nat_lit 228,T [v "numbers" 471])::
 (nat_lit 229,D [e P "__module__" 458 (v "flowhall.errors" 194),e P "__firstlineno__" 462 (i 41 461),e P "__init__" 470 (r 227),e P "__static_attributes__" 472 (r 228),e P "__doc__" 473 z] 2)::
 (nat_lit 230,{cls:=ty "type",data:=Data.cls {name:=Str.ofString "Endless",bases:= [r 31],mro:= [r 230,r 31,ty "ValueError",ty "Exception",ty "BaseException",ty "object"],ns:=229,qualname:=Str.ofString "Endless" },slots:= #[Option.some (r 214),Option.none,Option.some (v "Endless" 451),Option.some (v "Endless" 459),Option.some (bu "ValueError.__new__"),Option.some (t)]})::
 (nat_lit 233,T [r 31])::
 (nat_lit 240,T [])::
 (nat_lit 242,T [v "self" 491,v "numbers" 492])::
 (nat_lit 243,T [])::
 (nat_lit 245,c "__init__" "Forever.__init__" 488 489 490 47 2 0 0 3 181 240 241 z 242 243 244 493 494 "/claim/cut.py")::
 (nat_lit 246,F (L2.inClass (tp 16) 0) "__init__" "Forever.__init__" z z z (v "flowhall.errors" 194) none (r 245) z)::
 (nat_lit 247,T [v "numbers" 496])::
 (nat_lit 248,D [e P "__module__" 483 (v "flowhall.errors" 194),e P "__firstlineno__" 487 (i 45 486),e P "__init__" 495 (r 246),e P "__static_attributes__" 497 (r 247),e P "__doc__" 498 z] 2)::
 (nat_lit 249,{cls:=ty "type",data:=Data.cls {name:=Str.ofString "Forever",bases:= [r 31],mro:= [r 249,r 31,ty "ValueError",ty "Exception",ty "BaseException",ty "object"],ns:=248,qualname:=Str.ofString "Forever" },slots:= #[Option.some (r 233),Option.none,Option.some (v "Forever" 476),Option.some (v "Forever" 484),Option.some (bu "ValueError.__new__"),Option.some (t)]})::
 (nat_lit 252,T [r 31])::
 (nat_lit 259,T [])::
 (nat_lit 261,T [v "self" 516,v "why" 517])::
 (nat_lit 262,T [])::
 (nat_lit 264,c "__init__" "BadQuestion.__init__" 513 514 515 51 2 0 0 3 181 259 260 z 261 262 263 518 519 "/claim/cut.py")::
 (nat_lit 265,F (L2.inClass (tp 17) 0) "__init__" "BadQuestion.__init__" z z z (v "flowhall.errors" 194) none (r 264) z)::
 (nat_lit 266,T [v "why" 521])::
 (nat_lit 267,D [e P "__module__" 508 (v "flowhall.errors" 194),e P "__firstlineno__" 512 (i 49 511),e P "__init__" 520 (r 265),e P "__static_attributes__" 522 (r 266),e P "__doc__" 523 z] 2)::
 (nat_lit 268,{cls:=ty "type",data:=Data.cls {name:=Str.ofString "BadQuestion",bases:= [r 31],mro:= [r 268,r 31,ty "ValueError",ty "Exception",ty "BaseException",ty "object"],ns:=267,qualname:=Str.ofString "BadQuestion" },slots:= #[Option.some (r 252),Option.none,Option.some (v "BadQuestion" 501),Option.some (v "BadQuestion" 509),Option.some (bu "ValueError.__new__"),Option.some (t)]})::
 (nat_lit 271,T [r 31])::
 (nat_lit 278,T [])::
 (nat_lit 279,D [e P "__module__" 533 (v "flowhall.errors" 194),e P "__firstlineno__" 537 (i 53 536),e P "__static_attributes__" 538 (r 278),e P "__doc__" 539 z] 2)::
 (nat_lit 280,{cls:=ty "type",data:=Data.cls {name:=Str.ofString "NoDeed",bases:= [r 31],mro:= [r 280,r 31,ty "ValueError",ty "Exception",ty "BaseException",ty "object"],ns:=279,qualname:=Str.ofString "NoDeed" },slots:= #[Option.some (r 271),Option.none,Option.some (v "NoDeed" 526),Option.some (v "NoDeed" 534),Option.some (bu "ValueError.__new__"),Option.some (t)]})::
 (nat_lit 283,T [])::
 (nat_lit 285,T [v "thing" 551])::
 (nat_lit 286,T [])::
 (nat_lit 288,c "is_whole" "is_whole" 548 549 550 58 1 0 0 3 181 283 284 z 285 286 287 552 553 "/claim/cut.py")::
 (nat_lit 289,F (tp 22) "is_whole" "is_whole" z z z (v "flowhall.words" 542) none (r 288) z)::
 (nat_lit 290,T [])::
 (nat_lit 292,T [v "thing" 558,v "least" 559,v "most" 560])::
 (nat_lit 293,T [])::
 (nat_lit 295,c "is_among" "is_among" 555 556 557 60 3 0 0 3 181 290 291 z 292 293 294 561 562 "/claim/cut.py")::
 (nat_lit 296,F (tp 23) "is_among" "is_among" z z z (v "flowhall.words" 542) none (r 295) z)::
 (nat_lit 297,T [])::
 (nat_lit 300,C [v "are_signs" 564,v "are_signs" 565,v "/claim/cut.py" 566,i 62 0,i 2 0,i 0 0,i 0 0,i 3 0,r 297,t,i 181 0,r 298,z,z,z,r 299,i 567 0,i 62 0,v "/claim/cut.py" 568])::
 (nat_lit 301,F (tp 24) "are_signs" "are_signs" z z z (v "flowhall.words" 542) none (r 300) z)::
 (nat_lit 302,T [])::
 (nat_lit 304,T [v "thing" 573])::
 (nat_lit 305,T [])::
 (nat_lit 307,c "is_name" "is_name" 570 571 572 64 1 0 0 3 181 302 303 z 304 305 306 574 575 "/claim/cut.py")::
 (nat_lit 308,F (tp 25) "is_name" "is_name" z z z (v "flowhall.words" 542) none (r 307) z)::
 (nat_lit 309,T [])::
 (nat_lit 311,T [v "number" 580])::
 (nat_lit 312,T [])::
 (nat_lit 314,c "number_text" "number_text" 577 578 579 66 1 0 0 3 181 309 310 z 311 312 313 581 582 "/claim/cut.py")::
 (nat_lit 315,F (tp 26) "number_text" "number_text" z z z (v "flowhall.words" 542) none (r 314) z)::
 (nat_lit 316,T [])::
 (nat_lit 318,T [v "tie" 589,v "amount" 590])::
 (nat_lit 319,T [])::
 (nat_lit 321,c "is_amount" "is_amount" 586 587 588 69 2 0 0 3 181 316 317 z 318 319 320 591 592 "/claim/cut.py")::
 (nat_lit 322,F (tp 28) "is_amount" "is_amount" z z z (v "flowhall.flows" 584) none (r 321) z)::
 (nat_lit 323,T [])::
 (nat_lit 326,C [v "need_flow" 594,v "need_flow" 595,v "/claim/cut.py" 596,i 71 0,i 2 0,i 0 0,i 0 0,i 3 0,r 323,t,i 181 0,r 324,z,z,z,r 325,i 597 0,i 71 0,v "/claim/cut.py" 598])::
 (nat_lit 327,F (tp 29) "need_flow" "need_flow" z z z (v "flowhall.flows" 584) none (r 326) z)::
 (nat_lit 328,T [])::
 (nat_lit 330,T [v "net" 603,v "source" 604,v "target" 605])::
 (nat_lit 331,T [])::
 (nat_lit 333,c "need_ends" "need_ends" 600 601 602 80 3 0 0 3 181 328 329 z 330 331 332 606 607 "/claim/cut.py")::
 (nat_lit 334,F (tp 30) "need_ends" "need_ends" z z z (v "flowhall.flows" 584) none (r 333) z)::
 (nat_lit 335,T [])::
 (nat_lit 337,T [v "net" 612,v "flow" 613,v "found" 614,v "name" 615,v "tie" 616])::
 (nat_lit 338,T [])::
 (nat_lit 340,c "spare_sums" "spare_sums" 609 610 611 85 2 0 0 3 181 335 336 z 337 338 339 617 618 "/claim/cut.py")::
 (nat_lit 341,F (tp 31) "spare_sums" "spare_sums" z z z (v "flowhall.flows" 584) none (r 340) z)::
 (nat_lit 342,T [])::
 (nat_lit 344,T [v "net" 623,v "flow" 624,v "source" 625,v "target" 626,v "found" 627,v "name" 628,v "amount" 629])::
 (nat_lit 345,T [])::
 (nat_lit 347,c "carried_by" "carried_by" 620 621 622 93 4 0 0 3 181 342 343 z 344 345 346 630 631 "/claim/cut.py")::
 (nat_lit 348,F (tp 32) "carried_by" "carried_by" z z z (v "flowhall.flows" 584) none (r 347) z)::
 (nat_lit 356,T [])::
 (nat_lit 359,C [v "__init__" 647,v "Rest.__init__" 648,v "/claim/cut.py" 649,i 104 0,i 2 0,i 0 0,i 0 0,i 3 0,r 356,t,i 181 0,r 357,z,z,z,r 358,i 650 0,i 104 0,v "/claim/cut.py" 651])::
 (nat_lit 360,F (L2.inClass (tp 34) 0) "__init__" "Rest.__init__" z z z (v "flowhall.rests" 633) none (r 359) z)::
 (nat_lit 361,T [i 0 653])::
 (nat_lit 362,T [])::
 (nat_lit 364,T [v "self" 657,v "tail" 658,v "head" 659,v "room" 660,v "back" 661,v "begin" 662,v "end" 663,v "own" 664])::
 (nat_lit 365,T [])::
 (nat_lit 367,c "put_arc" "Rest.put_arc" 654 655 656 110 5 0 0 3 181 362 363 z 364 365 366 665 666 "/claim/cut.py")::
 (nat_lit 368,F (L2.inClass (tp 34) 1) "put_arc" "Rest.put_arc" (r 361) z z (v "flowhall.rests" 633) none (r 367) z)::
 (nat_lit 369,T [])::
 (nat_lit 371,T [v "self" 671,v "arc" 672])::
 (nat_lit 372,T [])::
 (nat_lit 374,c "room_of" "Rest.room_of" 668 669 670 117 2 0 0 3 181 369 370 z 371 372 373 673 674 "/claim/cut.py")::
 (nat_lit 375,F (L2.inClass (tp 34) 2) "room_of" "Rest.room_of" z z z (v "flowhall.rests" 633) none (r 374) z)::
 (nat_lit 376,T [])::
 (nat_lit 378,T [v "self" 679,v "arc" 680])::
 (nat_lit 379,T [])::
 (nat_lit 381,c "back_of" "Rest.back_of" 676 677 678 120 2 0 0 3 181 376 377 z 378 379 380 681 682 "/claim/cut.py")::
 (nat_lit 382,F (L2.inClass (tp 34) 3) "back_of" "Rest.back_of" z z z (v "flowhall.rests" 633) none (r 381) z)::
 (nat_lit 383,T [])::
 (nat_lit 385,T [v "self" 687,v "half" 688,v "is_endless" 689,v "room" 690])::
 (nat_lit 386,T [])::
 (nat_lit 388,c "lets" "Rest.lets" 684 685 686 123 3 0 0 3 181 383 384 z 385 386 387 691 692 "/claim/cut.py")::
 (nat_lit 389,F (L2.inClass (tp 34) 4) "lets" "Rest.lets" z z z (v "flowhall.rests" 633) none (r 388) z)::
 (nat_lit 390,T [])::
 (nat_lit 392,T [v "self" 697,v "source" 698,v "is_endless" 699,v "came" 700,v "seen" 701,v "row" 702,v "at" 703,v "half" 704,v "head" 705])::
 (nat_lit 393,T [])::
 (nat_lit 395,c "walked" "Rest.walked" 694 695 696 127 3 0 0 3 181 390 391 z 392 393 394 706 707 "/claim/cut.py")::
 (nat_lit 396,F (L2.inClass (tp 34) 5) "walked" "Rest.walked" z z z (v "flowhall.rests" 633) none (r 395) z)::
 (nat_lit 397,T [])::
 (nat_lit 399,T [v "self" 712,v "came" 713,v "target" 714,v "way" 715,v "point" 716])::
 (nat_lit 400,T [])::
 (nat_lit 402,c "way_to" "Rest.way_to" 709 710 711 143 3 0 0 3 181 397 398 z 399 400 401 717 718 "/claim/cut.py")::
 (nat_lit 403,F (L2.inClass (tp 34) 6) "way_to" "Rest.way_to" z z z (v "flowhall.rests" 633) none (r 402) z)::
 (nat_lit 404,T [])::
 (nat_lit 406,T [v "self" 723,v "half" 724,v "amount" 725,v "one" 726,v "own" 727])::
 (nat_lit 407,T [])::
 (nat_lit 409,c "change" "Rest.change" 720 721 722 152 3 0 0 3 181 404 405 z 406 407 408 728 729 "/claim/cut.py")::
 (nat_lit 410,F (L2.inClass (tp 34) 7) "change" "Rest.change" z z z (v "flowhall.rests" 633) none (r 409) z)::
 (nat_lit 411,T [])::
 (nat_lit 414,C [v "lift" 731,v "Rest.lift" 732,v "/claim/cut.py" 733,i 157 0,i 3 0,i 0 0,i 0 0,i 3 0,r 411,t,i 181 0,r 412,z,z,z,r 413,i 734 0,i 157 0,v "/claim/cut.py" 735])::
 (nat_lit 415,F (L2.inClass (tp 34) 8) "lift" "Rest.lift" z z z (v "flowhall.rests" 633) none (r 414) z)::
 (nat_lit 416,T [])::
 (nat_lit 419,C [v "reached" 737,v "Rest.reached" 738,v "/claim/cut.py" 739,i 168 0,i 2 0,i 0 0,i 0 0,i 3 0,r 416,t,i 181 0,r 417,z,z,z,r 418,i 740 0,i 168 0,v "/claim/cut.py" 741])::
 (nat_lit 420,F (L2.inClass (tp 34) 9) "reached" "Rest.reached" z z z (v "flowhall.rests" 633) none (r 419) z)::
 (nat_lit 421,T [])::
 (nat_lit 424,C [v "endless" 743,v "Rest.endless" 744,v "/claim/cut.py" 745,i 172 0,i 3 0,i 0 0,i 0 0,i 3 0,r 421,t,i 181 0,r 422,z,z,z,r 423,i 746 0,i 172 0,v "/claim/cut.py" 747])::
 (nat_lit 425,F (L2.inClass (tp 34) 10) "endless" "Rest.endless" z z z (v "flowhall.rests" 633) none (r 424) z)::
 (nat_lit 426,T [v "heads" 749,v "many" 750,v "rooms" 751,v "starts" 752])::
 (nat_lit 427,D [e P "__module__" 642 (v "flowhall.rests" 633),e P "__firstlineno__" 646 (i 102 645),e P "__init__" 652 (r 360),e P "put_arc" 667 (r 368),e P "room_of" 675 (r 375),e P "back_of" 683 (r 382),e P "lets" 693 (r 389),e P "walked" 708 (r 396),e P "way_to" 719 (r 403),e P "change" 730 (r 410),e P "lift" 736 (r 415),e P "reached" 742 (r 420),e P "endless" 748 (r 425),e P "__static_attributes__" 753 (r 426),e P "__dict__" 755 (r 429),e P "__weakref__" 757 (r 430),e P "__doc__" 758 z] 4)::
 (nat_lit 428,{cls:=ty "type",data:=Data.cls {name:=Str.ofString "Rest",bases:= [ty "object"],mro:= [r 428,ty "object"],ns:=427,qualname:=Str.ofString "Rest" },slots:= #[Option.none,Option.none,Option.some (v "Rest" 635),Option.some (v "Rest" 643),Option.some (bu "object.__new__"),Option.some (t)]})::
 (nat_lit 429,G [v "__dict__" 754,r 428,bu "function.__dict__",bu "function.__dict__#set"])::
 (nat_lit 430,G [v "__weakref__" 756,r 428,bu "ExceptionGroup.__weakref__",z])::
 (nat_lit 440,T [])::
 (nat_lit 442,T [v "self" 778,v "flow" 779,v "amount" 780,v "side" 781])::
 (nat_lit 443,T [])::
 (nat_lit 445,c "__init__" "Raised.__init__" 775 776 777 180 4 0 0 3 181 440 441 z 442 443 444 782 783 "/claim/cut.py")::
 (nat_lit 446,F (L2.inClass (tp 36) 0) "__init__" "Raised.__init__" z z z (v "flowhall.lifts" 761) none (r 445) z)::
 (nat_lit 447,T [v "amount" 785,v "flow" 786,v "side" 787])::
 (nat_lit 448,D [e P "__module__" 770 (v "flowhall.lifts" 761),e P "__firstlineno__" 774 (i 178 773),e P "__init__" 784 (r 446),e P "__static_attributes__" 788 (r 447),e P "__dict__" 790 (r 450),e P "__weakref__" 792 (r 451),e P "__doc__" 793 z] 4)::
 (nat_lit 449,{cls:=ty "type",data:=Data.cls {name:=Str.ofString "Raised",bases:= [ty "object"],mro:= [r 449,ty "object"],ns:=448,qualname:=Str.ofString "Raised" },slots:= #[Option.none,Option.none,Option.some (v "Raised" 763),Option.some (v "Raised" 771),Option.some (bu "object.__new__"),Option.some (t)]})::
 (nat_lit 450,G [v "__dict__" 789,r 449,bu "function.__dict__",bu "function.__dict__#set"])::
 (nat_lit 451,G [v "__weakref__" 791,r 449,bu "ExceptionGroup.__weakref__",z])::
 (nat_lit 454,T [])::
 (nat_lit 456,T [v "tie" 799,v "amount" 800])::
 (nat_lit 457,T [])::
 (nat_lit 459,c "room_left" "room_left" 796 797 798 184 2 0 0 3 181 454 455 z 456 457 458 801 802 "/claim/cut.py")::
 (nat_lit 460,F (tp 37) "room_left" "room_left" z z z (v "flowhall.lifts" 761) none (r 459) z)::
 (nat_lit 461,T [])::
 (nat_lit 463,T [v "net" 807,v "flow" 808,v "names" 809,v "rest" 810,v "tie" 811,v "amount" 812])::
 (nat_lit 464,T [])::
 (nat_lit 466,c "rest_of" "rest_of" 804 805 806 188 2 0 0 3 181 461 462 z 463 464 465 813 814 "/claim/cut.py")::
 (nat_lit 467,F (tp 38) "rest_of" "rest_of" z z z (v "flowhall.lifts" 761) none (r 466) z)::
 (nat_lit 468,T [])::
 (nat_lit 470,T [v "net" 819,v "rest" 820,v "found" 821,v "arc" 822,v "tie" 823])::
 (nat_lit 471,T [])::
 (nat_lit 473,c "flow_of" "flow_of" 816 817 818 195 2 0 0 3 181 468 469 z 470 471 472 824 825 "/claim/cut.py")::
 (nat_lit 474,F (tp 39) "flow_of" "flow_of" z z z (v "flowhall.lifts" 761) none (r 473) z)::
 (nat_lit 475,T [])::
 (nat_lit 478,C [v "raised" 827,v "raised" 828,v "/claim/cut.py" 829,i 200 0,i 4 0,i 0 0,i 0 0,i 3 0,r 475,t,i 181 0,r 476,z,z,z,r 477,i 830 0,i 200 0,v "/claim/cut.py" 831])::
 (nat_lit 479,F (tp 40) "raised" "raised" z z z (v "flowhall.lifts" 761) none (r 478) z)::
 (nat_lit 480,T [])::
 (nat_lit 482,T [v "least" 846,v "most" 847])::
 (nat_lit 483,T [])::
 (nat_lit 485,c "need_room" "need_room" 843 844 845 220 2 0 0 3 181 480 481 z 482 483 484 848 849 "/claim/cut.py")::
 (nat_lit 486,F (tp 45) "need_room" "need_room" z z z (v "flowhall.nets" 833) none (r 485) z)::
 (nat_lit 487,T [])::
 (nat_lit 489,T [v "price" 854])::
 (nat_lit 490,T [])::
 (nat_lit 492,c "need_price" "need_price" 851 852 853 223 1 0 0 3 181 487 488 z 489 490 491 855 856 "/claim/cut.py")::
 (nat_lit 493,F (tp 46) "need_price" "need_price" z z z (v "flowhall.nets" 833) none (r 492) z)::
 (nat_lit 501,T [])::
 (nat_lit 503,T [v "self" 873,v "number" 874,v "tail" 875,v "head" 876,v "least" 877,v "most" 878,v "price" 879])::
 (nat_lit 504,T [])::
 (nat_lit 506,c "__init__" "Tie.__init__" 870 871 872 228 7 0 0 3 181 501 502 z 503 504 505 880 881 "/claim/cut.py")::
 (nat_lit 507,F (L2.inClass (tp 47) 0) "__init__" "Tie.__init__" z z z (v "flowhall.nets" 833) none (r 506) z)::
 (nat_lit 508,T [v "head" 883,v "least" 884,v "most" 885,v "number" 886,v "price" 887,v "tail" 888])::
 (nat_lit 509,D [e P "__module__" 865 (v "flowhall.nets" 833),e P "__firstlineno__" 869 (i 226 868),e P "__init__" 882 (r 507),e P "__static_attributes__" 889 (r 508),e P "__dict__" 891 (r 511),e P "__weakref__" 893 (r 512),e P "__doc__" 894 z] 4)::
 (nat_lit 510,{cls:=ty "type",data:=Data.cls {name:=Str.ofString "Tie",bases:= [ty "object"],mro:= [r 510,ty "object"],ns:=509,qualname:=Str.ofString "Tie" },slots:= #[Option.none,Option.none,Option.some (v "Tie" 858),Option.some (v "Tie" 866),Option.some (bu "object.__new__"),Option.some (t)]})::
 (nat_lit 511,G [v "__dict__" 890,r 510,bu "function.__dict__",bu "function.__dict__#set"])::
 (nat_lit 512,G [v "__weakref__" 892,r 510,bu "ExceptionGroup.__weakref__",z])::
 (nat_lit 522,T [])::
 (nat_lit 524,T [v "self" 912])::
 (nat_lit 525,T [])::
 (nat_lit 527,c "__init__" "Net.__init__" 909 910 911 237 1 0 0 3 181 522 523 z 524 525 526 913 914 "/claim/cut.py")::
 (nat_lit 528,F (L2.inClass (tp 48) 0) "__init__" "Net.__init__" z z z (v "flowhall.nets" 833) none (r 527) z)::
 (nat_lit 529,T [])::
 (nat_lit 531,T [v "self" 919])::
 (nat_lit 532,T [])::
 (nat_lit 534,c "places" "Net.places" 916 917 918 242 1 0 0 3 181 529 530 z 531 532 533 920 921 "/claim/cut.py")::
 (nat_lit 535,F (L2.inClass (tp 48) 1) "places" "Net.places" z z z (v "flowhall.nets" 833) none (r 534) z)::
 (nat_lit 536,T [])::
 (nat_lit 539,C [v "ties" 923,v "Net.ties" 924,v "/claim/cut.py" 925,i 245 0,i 1 0,i 0 0,i 0 0,i 3 0,r 536,t,i 181 0,r 537,z,z,z,r 538,i 926 0,i 245 0,v "/claim/cut.py" 927])::
 (nat_lit 540,F (L2.inClass (tp 48) 2) "ties" "Net.ties" z z z (v "flowhall.nets" 833) none (r 539) z)::
 (nat_lit 541,T [])::
 (nat_lit 543,T [v "self" 932])::
 (nat_lit 544,T [])::
 (nat_lit 546,c "given" "Net.given" 929 930 931 248 1 0 0 3 181 541 542 z 543 544 545 933 934 "/claim/cut.py")::
 (nat_lit 547,F (L2.inClass (tp 48) 3) "given" "Net.given" z z z (v "flowhall.nets" 833) none (r 546) z)::
 (nat_lit 548,T [])::
 (nat_lit 550,T [v "self" 939,v "name" 940])::
 (nat_lit 551,T [])::
 (nat_lit 553,c "put_place" "Net.put_place" 936 937 938 251 2 0 0 3 181 548 549 z 550 551 552 941 942 "/claim/cut.py")::
 (nat_lit 554,F (L2.inClass (tp 48) 4) "put_place" "Net.put_place" z z z (v "flowhall.nets" 833) none (r 553) z)::
 (nat_lit 555,T [])::
 (nat_lit 557,T [v "self" 947,v "name" 948])::
 (nat_lit 558,T [])::
 (nat_lit 560,c "need_place" "Net.need_place" 944 945 946 260 2 0 0 3 181 555 556 z 557 558 559 949 950 "/claim/cut.py")::
 (nat_lit 561,F (L2.inClass (tp 48) 5) "need_place" "Net.need_place" z z z (v "flowhall.nets" 833) none (r 560) z)::
 (nat_lit 562,T [i 0 952,z,i 0 953])::
 (nat_lit 563,T [])::
 (nat_lit 565,T [v "self" 957,v "tail" 958,v "head" 959,v "least" 960,v "most" 961,v "price" 962])::
 (nat_lit 566,T [])::
 (nat_lit 568,c "put_tie" "Net.put_tie" 954 955 956 264 6 0 0 3 181 563 564 z 565 566 567 963 964 "/claim/cut.py")::
 (nat_lit 569,F (L2.inClass (tp 48) 6) "put_tie" "Net.put_tie" (r 562) z z (v "flowhall.nets" 833) none (r 568) z)::
 (nat_lit 570,T [])::
 (nat_lit 572,T [v "self" 969,v "number" 970,v "tail" 971,v "head" 972,v "least" 973,v "most" 974,v "price" 975])::
 (nat_lit 573,T [])::
 (nat_lit 575,c "put_numbered" "Net.put_numbered" 966 967 968 267 7 0 0 3 181 570 571 z 572 573 574 976 977 "/claim/cut.py")::
 (nat_lit 576,F (L2.inClass (tp 48) 7) "put_numbered" "Net.put_numbered" z z z (v "flowhall.nets" 833) none (r 575) z)::
 (nat_lit 577,T [])::
 (nat_lit 579,T [v "self" 982,v "number" 983])::
 (nat_lit 580,T [])::
 (nat_lit 582,c "tie_of" "Net.tie_of" 979 980 981 280 2 0 0 3 181 577 578 z 579 580 581 984 985 "/claim/cut.py")::
 (nat_lit 583,F (L2.inClass (tp 48) 8) "tie_of" "Net.tie_of" z z z (v "flowhall.nets" 833) none (r 582) z)::
 (nat_lit 584,T [])::
 (nat_lit 586,T [v "self" 990,v "number" 991])::
 (nat_lit 587,T [])::
 (nat_lit 589,c "drop_tie" "Net.drop_tie" 987 988 989 283 2 0 0 3 181 584 585 z 586 587 588 992 993 "/claim/cut.py")::
 (nat_lit 590,F (L2.inClass (tp 48) 9) "drop_tie" "Net.drop_tie" z z z (v "flowhall.nets" 833) none (r 589) z)::
 (nat_lit 591,T [])::
 (nat_lit 593,T [v "self" 998,v "number" 999,v "least" 1000,v "most" 1001])::
 (nat_lit 594,T [])::
 (nat_lit 596,c "set_room" "Net.set_room" 995 996 997 286 4 0 0 3 181 591 592 z 593 594 595 1002 1003 "/claim/cut.py")::
 (nat_lit 597,F (L2.inClass (tp 48) 10) "set_room" "Net.set_room" z z z (v "flowhall.nets" 833) none (r 596) z)::
 (nat_lit 598,T [])::
 (nat_lit 600,T [v "self" 1008,v "number" 1009,v "price" 1010])::
 (nat_lit 601,T [])::
 (nat_lit 603,c "set_price" "Net.set_price" 1005 1006 1007 289 3 0 0 3 181 598 599 z 600 601 602 1011 1012 "/claim/cut.py")::
 (nat_lit 604,F (L2.inClass (tp 48) 11) "set_price" "Net.set_price" z z z (v "flowhall.nets" 833) none (r 603) z)::
 (nat_lit 605,T [])::
 (nat_lit 607,T [v "self" 1017])::
 (nat_lit 608,T [])::
 (nat_lit 610,c "copied" "Net.copied" 1014 1015 1016 292 1 0 0 3 181 605 606 z 607 608 609 1018 1019 "/claim/cut.py")::
 (nat_lit 611,F (L2.inClass (tp 48) 12) "copied" "Net.copied" z z z (v "flowhall.nets" 833) none (r 610) z)::
 (nat_lit 612,T [])::
 (nat_lit 614,T [v "self" 1024,v "number" 1025])::
 (nat_lit 615,T [])::
 (nat_lit 617,c "give" "Net.give" 1021 1022 1023 295 2 0 0 3 181 612 613 z 614 615 616 1026 1027 "/claim/cut.py")::
 (nat_lit 618,F (L2.inClass (tp 48) 13) "give" "Net.give" z z z (v "flowhall.nets" 833) none (r 617) z)::
 (nat_lit 619,T [v "last_given" 1029,v "names" 1030,v "rows" 1031])::
 (nat_lit 620,D [e P "__module__" 904 (v "flowhall.nets" 833),e P "__firstlineno__" 908 (i 235 907),e P "__init__" 915 (r 528),e P "places" 922 (r 535),e P "ties" 928 (r 540),e P "given" 935 (r 547),e P "put_place" 943 (r 554),e P "need_place" 951 (r 561),e P "put_tie" 965 (r 569),e P "put_numbered" 978 (r 576),e P "tie_of" 986 (r 583),e P "drop_tie" 994 (r 590),e P "set_room" 1004 (r 597),e P "set_price" 1013 (r 604),e P "copied" 1020 (r 611),e P "give" 1028 (r 618),e P "__static_attributes__" 1032 (r 619),e P "__dict__" 1034 (r 622),e P "__weakref__" 1036 (r 623),e P "__doc__" 1037 z] 4)::
 (nat_lit 621,{cls:=ty "type",data:=Data.cls {name:=Str.ofString "Net",bases:= [ty "object"],mro:= [r 621,ty "object"],ns:=620,qualname:=Str.ofString "Net" },slots:= #[Option.none,Option.none,Option.some (v "Net" 897),Option.some (v "Net" 905),Option.some (bu "object.__new__"),Option.some (t)]})::
 (nat_lit 622,G [v "__dict__" 1033,r 621,bu "function.__dict__",bu "function.__dict__#set"])::
 (nat_lit 623,G [v "__weakref__" 1035,r 621,bu "ExceptionGroup.__weakref__",z])::
 (nat_lit 626,T [])::
 (nat_lit 628,T [v "tie" 1043,v "most" 1044,v "words" 1045])::
 (nat_lit 629,T [])::
 (nat_lit 631,c "tie_line" "tie_line" 1040 1041 1042 297 1 0 0 3 181 626 627 z 628 629 630 1046 1047 "/claim/cut.py")::
 (nat_lit 632,F (tp 49) "tie_line" "tie_line" z z z (v "flowhall.nets" 833) none (r 631) z)::
 (nat_lit 633,T [])::
 (nat_lit 636,C [v "net_lines" 1049,v "net_lines" 1050,v "/claim/cut.py" 1051,i 301 0,i 1 0,i 0 0,i 0 0,i 3 0,r 633,t,i 181 0,r 634,z,z,z,r 635,i 1052 0,i 301 0,v "/claim/cut.py" 1053])::
 (nat_lit 637,F (tp 50) "net_lines" "net_lines" z z z (v "flowhall.nets" 833) none (r 636) z)::
 (nat_lit 638,T [])::
 (nat_lit 640,T [v "_law_script" 1060,v "_law_k" 1061,v "_law_cell" 1062,v "_law_more" 1063])::
 (nat_lit 641,T [])::
 (nat_lit 643,c "_law_number" "_law_number" 1057 1058 1059 306 2 0 0 3 181 638 639 z 640 641 642 1064 1065 "/claim/cut.py")::
 (nat_lit 644,F (tp 52) "_law_number" "_law_number" z z z (v "law_flowhall_k11_raising_refused" 1055) none (r 643) z)::
 (nat_lit 652,T [])::
 (nat_lit 655,C [v "_law_names" 1075,v "_law_names" 1076,v "/claim/cut.py" 1077,i 314 0,i 2 0,i 0 0,i 0 0,i 3 0,r 652,t,i 181 0,r 653,z,z,z,r 654,i 1078 0,i 314 0,v "/claim/cut.py" 1079])::
 (nat_lit 656,F (tp 54) "_law_names" "_law_names" z z z (v "law_flowhall_k11_raising_refused" 1055) none (r 655) z)::
 (nat_lit 657,T [])::
 (nat_lit 659,T [v "_law_script" 1084,v "_law_k" 1085,v "_law_cell" 1086])::
 (nat_lit 660,T [])::
 (nat_lit 662,c "_law_great" "_law_great" 1081 1082 1083 324 2 0 0 3 181 657 658 z 659 660 661 1087 1088 "/claim/cut.py")::
 (nat_lit 663,F (tp 55) "_law_great" "_law_great" z z z (v "law_flowhall_k11_raising_refused" 1055) none (r 662) z)::
 (nat_lit 664,T [])::
 (nat_lit 666,T [v "_law_script" 1093,v "_law_k" 1094,v "_law_number_here" 1095,v "_law_most" 1096])::
 (nat_lit 667,T [])::
 (nat_lit 669,c "_law_room" "_law_room" 1090 1091 1092 329 3 0 0 3 181 664 665 z 666 667 668 1097 1098 "/claim/cut.py")::
 (nat_lit 670,F (tp 56) "_law_room" "_law_room" z z z (v "law_flowhall_k11_raising_refused" 1055) none (r 669) z)::
 (nat_lit 671,T [])::
 (nat_lit 673,T [v "_law_script" 1103,v "_law_k" 1104,v "_law_many" 1105,v "_law_number_here" 1106,v "_law_tail" 1107,v "_law_head" 1108,v "_law_least" 1109,v "_law_most" 1110])::
 (nat_lit 674,T [])::
 (nat_lit 676,c "_law_row" "_law_row" 1100 1101 1102 334 3 0 0 3 181 671 672 z 673 674 675 1111 1112 "/claim/cut.py")::
 (nat_lit 677,F (tp 57) "_law_row" "_law_row" z z z (v "law_flowhall_k11_raising_refused" 1055) none (r 676) z)::
 (nat_lit 678,T [])::
 (nat_lit 680,T [v "_law_names_here" 1117,v "_law_rows" 1118,v "_law_net" 1119,v "_law_name" 1120,v "_law_row_here" 1121])::
 (nat_lit 681,T [])::
 (nat_lit 683,c "_law_made" "_law_made" 1114 1115 1116 340 2 0 0 3 181 678 679 z 680 681 682 1122 1123 "/claim/cut.py")::
 (nat_lit 684,F (tp 58) "_law_made" "_law_made" z z z (v "law_flowhall_k11_raising_refused" 1055) none (r 683) z)::
 (nat_lit 685,T [])::
 (nat_lit 687,T [v "_law_e" 1128,v "_law_told_here" 1129,v "_law_words" 1130])::
 (nat_lit 688,T [])::
 (nat_lit 690,c "_law_alone" "_law_alone" 1125 1126 1127 350 1 0 0 3 181 685 686 z 687 688 689 1131 1132 "/claim/cut.py")::
 (nat_lit 691,F (tp 59) "_law_alone" "_law_alone" z z z (v "law_flowhall_k11_raising_refused" 1055) none (r 690) z)::
 (nat_lit 692,T [])::
 (nat_lit 694,T [v "_law_net" 1137,v "_law_flow" 1138,v "_law_source" 1139,v "_law_target" 1140,v "_law_told_here" 1141,v "_law_caught" 1142,v "_law_e" 1143,v "_law_word" 1144])::
 (nat_lit 695,T [])::
 (nat_lit 697,c "_law_told" "_law_told" 1134 1135 1136 359 4 0 0 3 181 692 693 z 694 695 696 1145 1146 "/claim/cut.py")::
 (nat_lit 698,F (tp 60) "_law_told" "_law_told" z z z (v "law_flowhall_k11_raising_refused" 1055) none (r 697) z)::
 (nat_lit 699,T [])::
 (nat_lit 701,T [v "_law_rows" 1151,v "_law_source" 1152,v "_law_target" 1153,v "_law_seen" 1154,v "_law_turn" 1155,v "_law_row_here" 1156])::
 (nat_lit 702,T [])::
 (nat_lit 704,c "_law_is_endless" "_law_is_endless" 1148 1149 1150 374 3 0 0 3 181 699 700 z 701 702 703 1157 1158 "/claim/cut.py")::
 (nat_lit 705,F (tp 61) "_law_is_endless" "_law_is_endless" z z z (v "law_flowhall_k11_raising_refused" 1055) none (r 704) z)::
 (nat_lit 706,T [])::
 (nat_lit 709,C [v "_law_bent" 1160,v "_law_bent" 1161,v "/claim/cut.py" 1162,i 381 0,i 3 0,i 0 0,i 0 0,i 3 0,r 706,t,i 181 0,r 707,z,z,z,r 708,i 1163 0,i 381 0,v "/claim/cut.py" 1164])::
 (nat_lit 710,F (tp 62) "_law_bent" "_law_bent" z z z (v "law_flowhall_k11_raising_refused" 1055) none (r 709) z)::
 (nat_lit 711,T [])::
 (nat_lit 714,C [v "_law_uneven" 1166,v "_law_uneven" 1167,v "/claim/cut.py" 1168,i 397 0,i 4 0,i 0 0,i 0 0,i 3 0,r 711,t,i 181 0,r 712,z,z,z,r 713,i 1169 0,i 397 0,v "/claim/cut.py" 1170])::
 (nat_lit 715,F (tp 63) "_law_uneven" "_law_uneven" z z z (v "law_flowhall_k11_raising_refused" 1055) none (r 714) z)::
 (nat_lit 716,T [])::
 (nat_lit 718,T [v "_law_net" 1175,v "_law_names_here" 1176,v "_law_rows" 1177,v "_law_flow" 1178,v "_law_number_here" 1179,v "_law_many" 1180,v "_law_source" 1181,v "_law_target" 1182,v "_law_ends" 1183,v "_law_due" 1184,v "_law_handed" 1185,v "_law_place" 1186,v "_law_odd" 1187,v "_law_way" 1188])::
 (nat_lit 719,T [])::
 (nat_lit 721,c "_law_asked" "_law_asked" 1172 1173 1174 405 5 0 0 3 181 716 717 z 718 719 720 1189 1190 "/claim/cut.py")::
 (nat_lit 722,F (tp 64) "_law_asked" "_law_asked" z z z (v "law_flowhall_k11_raising_refused" 1055) none (r 721) z)::
 (nat_lit 723,T [])::
 (nat_lit 726,C [v "law" 1192,v "law" 1193,v "/claim/cut.py" 1194,i 430 0,i 1 0,i 0 0,i 0 0,i 3 0,r 723,t,i 181 0,r 724,z,z,z,r 725,i 1195 0,i 430 0,v "/claim/cut.py" 1196])::
 (nat_lit 727,F (tp 65) "law" "law" z z z (v "law_flowhall_k11_raising_refused" 1055) none (r 726) z):: []
def oa:List Addr:= [2,3,15,17,18,20,21,22,29,30,31,32,35,42,43,44,47,54,55,56,59,66,67,68,71,78,80,81,83,84,85,86,87,90,97,98,99,102,109,110,111,114,121,122,123,126,133,135,136,138,139,140,141,142,145,152,154,155,157,158,159,160,161,164,171,173,174,176,177,178,179,180,183,190,191,192,195,202,204,205,207,208,209,210,211,214,221,223,224,226,227,228,229,230,233,240,242,243,245,246,247,248,249,252,259,261,262,264,265,266,267,268,271,278,279,280,283,285,286,288,289,290,292,293,295,296,297,300,301,302,304,305,307,308,309,311,312,314,315,316,318,319,321,322,323,326,327,328,330,331,333,334,335,337,338,340,341,342,344,345,347,348,356,359,360,361,362,364,365,367,368,369,371,372,374,375,376,378,379,381,382,383,385,386,388,389,390,392,393,395,396,397,399,400,402,403,404,406,407,409,410,411,414,415,416,419,420,421,424,425,426,427,428,429,430,440,442,443,445,446,447,448,449,450,451,454,456,457,459,460,461,463,464,466,467,468,470,471,473,474,475,478,479,480,482,483,485,486,487,489,490,492,493,501,503,504,506,507,508,509,510,511,512,522,524,525,527,528,529,531,532,534,535,536,539,540,541,543,544,546,547,548,550,551,553,554,555,557,558,560,561,562,563,565,566,568,569,570,572,573,575,576,577,579,580,582,583,584,586,587,589,590,591,593,594,596,597,598,600,601,603,604,605,607,608,610,611,612,614,615,617,618,619,620,621,622,623,626,628,629,631,632,633,636,637,638,640,641,643,644,652,655,656,657,659,660,662,663,664,666,667,669,670,671,673,674,676,677,678,680,681,683,684,685,687,688,690,691,692,694,695,697,698,699,701,702,704,705,706,709,710,711,714,715,716,718,719,721,722,723,726,727]
theorem b10:∀(w:World) (os:OsState),(run w os).map (fun s=>oa.map (getT s))=some ((ob w.params).map fun x=>some x.2):=by
 intro w os
 kernel_rfl
end
end HR
namespace T
open PySem PySem.Spec PyProof.Rows L2
open PySem.W (Frag codeIn excIn findIn fnOf hasDictIn isFn keepIn makesIn mroIn nsIn plainGet plainOver specialIn subIn takesIn typeIn)
def top (i:Nat):Stmt:=PySem.Challenge.pw_flowhall_k11_raising_refused.main.body.getD i (.Pass ⟨0,0,0,0⟩)
abbrev mU:Stmt:=top 52
abbrev N_Lnumber:List Str:= ["_law_script","_law_k","_law_cell","_law_more"]
theorem iy:FnScope N_Lnumber ["_law_script","_law_k"] (L2.defScope mU):=⟨rfl,rfl,rfl,by decide+kernel,rfl,by decide+kernel,by decide+kernel⟩
abbrev qt:Stmt:=top 54
abbrev N_Lnames:List Str:= ["_law_number_here","_law_many","_law_letters","_law_step","_law_base","_law_border","_law_at","_law_signs","_law_j","_law_k","_law_sign"]
theorem aU:FnScope N_Lnames ["_law_number_here","_law_many"] (L2.defScope qt):=⟨rfl,rfl,rfl,by decide+kernel,rfl,by decide+kernel,by decide+kernel⟩
abbrev qu:Stmt:=top 55
abbrev N_Lgreat:List Str:= ["_law_script","_law_k","_law_cell"]
theorem mK:FnScope N_Lgreat ["_law_script","_law_k"] (L2.defScope qu):=⟨rfl,rfl,rfl,by decide+kernel,rfl,by decide+kernel,by decide+kernel⟩
abbrev vf:Stmt:=top 56
abbrev N_Lroom:List Str:= ["_law_script","_law_k","_law_number_here","_law_most"]
theorem qr:FnScope N_Lroom ["_law_script","_law_k","_law_number_here"] (L2.defScope vf):=⟨rfl,rfl,rfl,by decide+kernel,rfl,by decide+kernel,by decide+kernel⟩
abbrev zy:Stmt:=top 57
abbrev N_Lrow:List Str:= ["_law_script","_law_k","_law_many","_law_number_here","_law_tail","_law_head","_law_least","_law_most"]
theorem kF:FnScope N_Lrow ["_law_script","_law_k","_law_many"] (L2.defScope zy):=⟨rfl,rfl,rfl,by decide+kernel,rfl,by decide+kernel,by decide+kernel⟩
abbrev kL:Stmt:=inClass (top 48) 0
abbrev N_Net_init:List Str:= ["self"]
theorem vd:FnScope N_Net_init ["self"] (L2.defScope kL):=⟨rfl,rfl,rfl,by decide+kernel,rfl,by decide+kernel,by decide+kernel⟩
abbrev jh:Stmt:=top 24
abbrev N_are_signs:List Str:= ["text","signs","sign"]
theorem gK:FnScope N_are_signs ["text","signs"] (L2.defScope jh):=⟨rfl,rfl,rfl,by decide+kernel,rfl,by decide+kernel,by decide+kernel⟩
abbrev mQ:Stmt:=top 25
abbrev N_is_name:List Str:= ["thing"]
theorem xO:FnScope N_is_name ["thing"] (L2.defScope mQ):=⟨rfl,rfl,rfl,by decide+kernel,rfl,by decide+kernel,by decide+kernel⟩
abbrev dR:Stmt:=inClass (top 48) 4
abbrev N_Net_put_place:List Str:= ["self","name"]
theorem lM:FnScope N_Net_put_place ["self","name"] (L2.defScope dR):=⟨rfl,rfl,rfl,by decide+kernel,rfl,by decide+kernel,by decide+kernel⟩
abbrev aW:Stmt:=inClass (top 6) 0
abbrev pq:List Str:= ["self","name"]
theorem mJ:FnScope pq ["self","name"] (L2.defScope aW):=⟨rfl,rfl,rfl,by decide+kernel,rfl,by decide+kernel,by decide+kernel⟩
abbrev dq:Stmt:=inClass (top 48) 5
abbrev N_Net_need_place:List Str:= ["self","name"]
theorem kE:FnScope N_Net_need_place ["self","name"] (L2.defScope dq):=⟨rfl,rfl,rfl,by decide+kernel,rfl,by decide+kernel,by decide+kernel⟩
abbrev kH:Stmt:=top 22
abbrev N_is_whole:List Str:= ["thing"]
theorem uY:FnScope N_is_whole ["thing"] (L2.defScope kH):=⟨rfl,rfl,rfl,by decide+kernel,rfl,by decide+kernel,by decide+kernel⟩
abbrev kI:Stmt:=top 23
abbrev N_is_among:List Str:= ["thing","least","most"]
theorem uZ:FnScope N_is_among ["thing","least","most"] (L2.defScope kI):=⟨rfl,rfl,rfl,by decide+kernel,rfl,by decide+kernel,by decide+kernel⟩
abbrev je:Stmt:=top 45
abbrev N_need_room:List Str:= ["least","most"]
theorem sP:FnScope N_need_room ["least","most"] (L2.defScope je):=⟨rfl,rfl,rfl,by decide+kernel,rfl,by decide+kernel,by decide+kernel⟩
abbrev gP:Stmt:=top 46
abbrev N_need_price:List Str:= ["price"]
theorem qo:FnScope N_need_price ["price"] (L2.defScope gP):=⟨rfl,rfl,rfl,by decide+kernel,rfl,by decide+kernel,by decide+kernel⟩
abbrev kJ:Stmt:=inClass (top 47) 0
abbrev N_Tie_init:List Str:= ["self","number","tail","head","least","most","price"]
theorem vc:FnScope N_Tie_init ["self","number","tail","head","least","most","price"] (L2.defScope kJ):=⟨rfl,rfl,rfl,by decide+kernel,rfl,by decide+kernel,by decide+kernel⟩
abbrev cD:Stmt:=inClass (top 48) 7
abbrev N_Net_put_numbered:List Str:= ["self","number","tail","head","least","most","price"]
theorem jb:FnScope N_Net_put_numbered ["self","number","tail","head","least","most","price"] (L2.defScope cD):=⟨rfl,rfl,rfl,by decide+kernel,rfl,by decide+kernel,by decide+kernel⟩
abbrev aH:Stmt:=inClass (top 48) 6
abbrev N_Net_put_tie:List Str:= ["self","tail","head","least","most","price"]
theorem oO:FnScope N_Net_put_tie ["self","tail","head","least","most","price"] (L2.defScope aH):=⟨rfl,rfl,rfl,by decide+kernel,rfl,by decide+kernel,by decide+kernel⟩
abbrev vg:Stmt:=top 58
abbrev N_Lmade:List Str:= ["_law_names_here","_law_rows","_law_net","_law_name","_law_row_here"]
theorem lT:FnScope N_Lmade ["_law_names_here","_law_rows"] (L2.defScope vg):=⟨rfl,rfl,rfl,by decide+kernel,rfl,by decide+kernel,by decide+kernel⟩
abbrev gR:Stmt:=inClass (top 48) 1
abbrev N_Net_places:List Str:= ["self"]
theorem qp:FnScope N_Net_places ["self"] (L2.defScope gR):=⟨rfl,rfl,rfl,by decide+kernel,rfl,by decide+kernel,by decide+kernel⟩
abbrev kK:Stmt:=inClass (top 48) 2
abbrev N_Net_ties:List Str:= ["self","number"]
theorem ja:FnScope N_Net_ties ["self"] (L2.defScope kK):=⟨rfl,rfl,rfl,by decide+kernel,rfl,by decide+kernel,by decide+kernel⟩
abbrev fG:Stmt:=top 26
abbrev N_number_text:List Str:= ["number"]
theorem oM:FnScope N_number_text ["number"] (L2.defScope fG):=⟨rfl,rfl,rfl,by decide+kernel,rfl,by decide+kernel,by decide+kernel⟩
abbrev kG:Stmt:=top 49
abbrev N_tie_line:List Str:= ["tie","most","words"]
theorem iZ:FnScope N_tie_line ["tie"] (L2.defScope kG):=⟨rfl,rfl,rfl,by decide+kernel,rfl,by decide+kernel,by decide+kernel⟩
abbrev jl:Stmt:=inClass (top 48) 3
abbrev N_Net_given:List Str:= ["self"]
theorem sS:FnScope N_Net_given ["self"] (L2.defScope jl):=⟨rfl,rfl,rfl,by decide+kernel,rfl,by decide+kernel,by decide+kernel⟩
abbrev jd:Stmt:=top 50
abbrev N_net_lines:List Str:= ["net","found","name","tie"]
theorem de:FnScope N_net_lines ["net"] (L2.defScope jd):=⟨rfl,rfl,rfl,by decide+kernel,rfl,by decide+kernel,by decide+kernel⟩
abbrev fM:Stmt:=top 61
abbrev N_Lis_endless:List Str:= ["_law_rows","_law_source","_law_target","_law_seen","_law_turn","_law_row_here"]
theorem cV:FnScope N_Lis_endless ["_law_rows","_law_source","_law_target"] (L2.defScope fM):=⟨rfl,rfl,rfl,by decide+kernel,rfl,by decide+kernel,by decide+kernel⟩
abbrev vh:Stmt:=top 62
abbrev N_Lbent:List Str:= ["_law_rows","_law_flow","_law_number_here","_law_keys","_law_odd","_law_at","_law_most","_law_wrong","_law_bent_here","_law_key"]
theorem cW:FnScope N_Lbent ["_law_rows","_law_flow","_law_number_here"] (L2.defScope vh):=⟨rfl,rfl,rfl,by decide+kernel,rfl,by decide+kernel,by decide+kernel⟩
abbrev mT:Stmt:=top 63
abbrev N_Luneven:List Str:= ["_law_rows","_law_flow","_law_source","_law_target","_law_row_here","_law_inner","_law_bent_here","_law_place"]
theorem eX:FnScope N_Luneven ["_law_rows","_law_flow","_law_source","_law_target"] (L2.defScope mT):=⟨rfl,rfl,rfl,by decide+kernel,rfl,by decide+kernel,by decide+kernel⟩
abbrev jf:Stmt:=top 30
abbrev N_need_ends:List Str:= ["net","source","target"]
theorem sQ:FnScope N_need_ends ["net","source","target"] (L2.defScope jf):=⟨rfl,rfl,rfl,by decide+kernel,rfl,by decide+kernel,by decide+kernel⟩
abbrev aY:Stmt:=inClass (top 12) 0
abbrev pz:List Str:= ["self","number"]
theorem mN:FnScope pz ["self","number"] (L2.defScope aY):=⟨rfl,rfl,rfl,by decide+kernel,rfl,by decide+kernel,by decide+kernel⟩
abbrev jg:Stmt:=top 28
abbrev N_is_amount:List Str:= ["tie","amount"]
theorem sR:FnScope N_is_amount ["tie","amount"] (L2.defScope jg):=⟨rfl,rfl,rfl,by decide+kernel,rfl,by decide+kernel,by decide+kernel⟩
abbrev dQ:Stmt:=top 29
abbrev N_need_flow:List Str:= ["net","flow","ties","tie","number"]
theorem sc_need_flow:FnScope N_need_flow ["net","flow"] (L2.defScope dQ):=⟨rfl,rfl,rfl,by decide+kernel,rfl,by decide+kernel,by decide+kernel⟩
abbrev gO:Stmt:=top 31
abbrev N_spare_sums:List Str:= ["net","flow","found","name","tie"]
theorem dB:FnScope N_spare_sums ["net","flow"] (L2.defScope gO):=⟨rfl,rfl,rfl,by decide+kernel,rfl,by decide+kernel,by decide+kernel⟩
abbrev gQ:Stmt:=top 32
abbrev N_carried_by:List Str:= ["net","flow","source","target","found","name","amount"]
theorem dC:FnScope N_carried_by ["net","flow","source","target"] (L2.defScope gQ):=⟨rfl,rfl,rfl,by decide+kernel,rfl,by decide+kernel,by decide+kernel⟩
abbrev jk:Stmt:=inClass (top 34) 0
abbrev N_Rest_init:List Str:= ["self","many","point"]
theorem gM:FnScope N_Rest_init ["self","many"] (L2.defScope jk):=⟨rfl,rfl,rfl,by decide+kernel,rfl,by decide+kernel,by decide+kernel⟩
abbrev jc:Stmt:=top 37
abbrev N_room_left:List Str:= ["tie","amount"]
theorem sO:FnScope N_room_left ["tie","amount"] (L2.defScope jc):=⟨rfl,rfl,rfl,by decide+kernel,rfl,by decide+kernel,by decide+kernel⟩
abbrev aE:Stmt:=inClass (top 34) 1
abbrev N_Rest_put_arc:List Str:= ["self","tail","head","room","back","begin","end","own"]
theorem cB:FnScope N_Rest_put_arc ["self","tail","head","room","back"] (L2.defScope aE):=⟨rfl,rfl,rfl,by decide+kernel,rfl,by decide+kernel,by decide+kernel⟩
abbrev mO:Stmt:=top 38
abbrev N_rest_of:List Str:= ["net","flow","names","rest","tie","amount"]
theorem eW:FnScope N_rest_of ["net","flow"] (L2.defScope mO):=⟨rfl,rfl,rfl,by decide+kernel,rfl,by decide+kernel,by decide+kernel⟩
abbrev jj:Stmt:=inClass (top 34) 4
abbrev N_Rest_lets:List Str:= ["self","half","is_endless","room"]
theorem lB:FnScope N_Rest_lets ["self","half","is_endless"] (L2.defScope jj):=⟨rfl,rfl,rfl,by decide+kernel,rfl,by decide+kernel,by decide+kernel⟩
abbrev fJ:Stmt:=inClass (top 34) 5
abbrev N_Rest_walked:List Str:= ["self","source","is_endless","came","seen","row","at","half","head"]
theorem sc_Rest_walked:FnScope N_Rest_walked ["self","source","is_endless"] (L2.defScope fJ):=⟨rfl,rfl,rfl,by decide+kernel,rfl,by decide+kernel,by decide+kernel⟩
abbrev fH:Stmt:=inClass (top 34) 6
abbrev N_Rest_way_to:List Str:= ["self","came","target","way","point"]
theorem cU:FnScope N_Rest_way_to ["self","came","target"] (L2.defScope fH):=⟨rfl,rfl,rfl,by decide+kernel,rfl,by decide+kernel,by decide+kernel⟩
abbrev eM:Stmt:=inClass (top 34) 10
abbrev N_Rest_endless:List Str:= ["self","source","target","way","half"]
theorem cC:FnScope N_Rest_endless ["self","source","target"] (L2.defScope eM):=⟨rfl,rfl,rfl,by decide+kernel,rfl,by decide+kernel,by decide+kernel⟩
abbrev aX:Stmt:=inClass (top 15) 0
abbrev px:List Str:= ["self","numbers"]
theorem mM:FnScope px ["self","numbers"] (L2.defScope aX):=⟨rfl,rfl,rfl,by decide+kernel,rfl,by decide+kernel,by decide+kernel⟩
abbrev fK:Stmt:=inClass (top 34) 7
abbrev N_Rest_change:List Str:= ["self","half","amount","one","own"]
theorem eK:FnScope N_Rest_change ["self","half","amount"] (L2.defScope fK):=⟨rfl,rfl,rfl,by decide+kernel,rfl,by decide+kernel,by decide+kernel⟩
abbrev ji:Stmt:=inClass (top 34) 8
abbrev N_Rest_lift:List Str:= ["self","source","target","lifted","way","narrow","half"]
theorem sc_Rest_lift:FnScope N_Rest_lift ["self","source","target"] (L2.defScope ji):=⟨rfl,rfl,rfl,by decide+kernel,rfl,by decide+kernel,by decide+kernel⟩
abbrev eO:Stmt:=inClass (top 34) 3
abbrev N_Rest_back_of:List Str:= ["self","arc"]
theorem mI:FnScope N_Rest_back_of ["self","arc"] (L2.defScope eO):=⟨rfl,rfl,rfl,by decide+kernel,rfl,by decide+kernel,by decide+kernel⟩
abbrev mS:Stmt:=top 39
abbrev N_flow_of:List Str:= ["net","rest","found","arc","tie"]
theorem iw:FnScope N_flow_of ["net","rest"] (L2.defScope mS):=⟨rfl,rfl,rfl,by decide+kernel,rfl,by decide+kernel,by decide+kernel⟩
abbrev eL:Stmt:=inClass (top 34) 9
abbrev N_Rest_reached:List Str:= ["self","source","came","point","half"]
theorem bH:FnScope N_Rest_reached ["self","source"] (L2.defScope eL):=⟨rfl,rfl,rfl,by decide+kernel,rfl,by decide+kernel,by decide+kernel⟩
abbrev fL:Stmt:=inClass (top 36) 0
abbrev N_Raised_init:List Str:= ["self","flow","amount","side"]
theorem oN:FnScope N_Raised_init ["self","flow","amount","side"] (L2.defScope fL):=⟨rfl,rfl,rfl,by decide+kernel,rfl,by decide+kernel,by decide+kernel⟩
abbrev qs:Stmt:=top 40
abbrev N_raised:List Str:= ["net","flow","source","target","names","rest","way","numbers","found","there","side","tie","arc","place","name"]
theorem aT:FnScope N_raised ["net","flow","source","target"] (L2.defScope qs):=⟨rfl,rfl,rfl,by decide+kernel,rfl,by decide+kernel,by decide+kernel⟩
abbrev qx:Stmt:=top 59
abbrev N_Lalone:List Str:= ["_law_e","_law_told_here","_law_words"]
theorem eY:FnScope N_Lalone ["_law_e"] (L2.defScope qx):=⟨rfl,rfl,rfl,by decide+kernel,rfl,by decide+kernel,by decide+kernel⟩
abbrev ve:Stmt:=top 60
abbrev N_Ltold:List Str:= ["_law_net","_law_flow","_law_source","_law_target","_law_told_here","_law_caught","_law_e","_law_word"]
theorem sc_Ltold:FnScope N_Ltold ["_law_net","_law_flow","_law_source","_law_target"] (L2.defScope ve):=⟨rfl,rfl,rfl,by decide+kernel,rfl,by decide+kernel,by decide+kernel⟩
abbrev qw:Stmt:=top 64
abbrev N_Lasked:List Str:= ["_law_net","_law_names_here","_law_rows","_law_flow","_law_number_here","_law_many","_law_source","_law_target","_law_ends","_law_due","_law_handed","_law_place","_law_odd","_law_way"]
theorem aF:FnScope N_Lasked ["_law_net","_law_names_here","_law_rows","_law_flow","_law_number_here"] (L2.defScope qw):=⟨rfl,rfl,rfl,by decide+kernel,rfl,by decide+kernel,by decide+kernel⟩
abbrev jK:Stmt:=top 65
abbrev N_law:List Str:= ["_law_script","_law_many","_law_names_here","_law_rows","_law_flow","_law_k","_law_row_here","_law_net","_law_lines","_law_kept","_law_due","_law_told_here"]
theorem eD:FnScope N_law ["_law_script"] (L2.defScope jK):=⟨rfl,rfl,rfl,by decide+kernel,rfl,by decide+kernel,by decide+kernel⟩
structure FnAt (K:Frag) (f:Addr) (n q:Str) (st:Stmt):Prop where
 ex:∃(oc:Value) (od:Option Addr) (sl:Array (Option Value)) (kV dc pm:Value) (an:Option Addr) (cd ct:Value),K.lookup f=some ⟨oc,od, .func (fnOf n q (L2.defArgs st) (L2.defBody st) (L2.defScope st) .none kV dc pm an cd ct),sl⟩∧codeIn K cd q=true∧keepIn K (.ref f)=true
theorem FnAt.fn {K:Frag} {f:Addr} {n q:Str} {st:Stmt} (h:FnAt K f n q st):∃fd,L2.Fun K n q st f fd:=by
 obtain ⟨_,_,_,_,_,_,_,_,_,l,c,k⟩:=h.ex
 exact ⟨_,L2.fun_mk l c k⟩
structure FnG (K:Frag) (f:Addr) (q:Str) (st:Stmt):Prop where
 a:nsIn K mainGlobals q=some (some (.ref f))
 l:FnAt K f q q st
structure FnM (K:Frag) (C f:Addr) (m q:Str) (st:Stmt):Prop where
 a:findIn K (.ref C) m=some (some (.ref f))
 i:isFn K (.ref f)=true
 l:FnAt K f m q st
def zi (K:Frag):L2.Sp:=fun vs H Q _=>∃(a:Addr) (ns:List Int),vs= [.ref a]∧L2.SqL K H a (ns.map L2.V.int)∧∀H',Q (.bl true) H'
section
open HR (ob)
local macro_rules | `(tactic| trivial) => `(tactic| first | k_is | exact ⟨⟨_, _, _, _, _, _, _, _, _, by k_is, by k_is, by k_is⟩⟩ | (constructor <;> trivial) | k_exc | rfl)
theorem kf0:PySem.Challenge.rw_flowhall_k11_raising_refused=PySem.Challenge.rw_flowhall_k11_raising_refused∧ob=ob:=by
 k_fill
 exact ⟨rfl,rfl⟩
set_option genSizeOf false in
set_option genInjectivity false in
structure Q0 (K:Frag) (Ca Cb Cc Cd Ce Cf Cg Ch Ci Cj Ck Cl Cm Cn Co Cp Cq Cr Cs Ct Cu:Addr) where
 (m_FlowError:nsIn K mainGlobals "FlowError" =some (some (.ref Ca)))
 (m_BadName:nsIn K mainGlobals "BadName" =some (some (.ref Cb)))
 (m_Twice:nsIn K mainGlobals "Twice" =some (some (.ref Cc)))
 (m_TooMany:nsIn K mainGlobals "TooMany" =some (some (.ref Cd)))
 (m_NoPlace:nsIn K mainGlobals "NoPlace" =some (some (.ref Ce)))
 (m_BadTie:nsIn K mainGlobals "BadTie" =some (some (.ref Cf)))
 (m_BadRoom:nsIn K mainGlobals "BadRoom" =some (some (.ref Cg)))
 (m_BadPrice:nsIn K mainGlobals "BadPrice" =some (some (.ref Ch)))
 (m_NoTie:nsIn K mainGlobals "NoTie" =some (some (.ref Ci)))
 (m_BadLine:nsIn K mainGlobals "BadLine" =some (some (.ref Cj)))
 (m_BadFlow:nsIn K mainGlobals "BadFlow" =some (some (.ref Ck)))
 (m_SamePlace:nsIn K mainGlobals "SamePlace" =some (some (.ref Cl)))
 (m_NoFlow:nsIn K mainGlobals "NoFlow" =some (some (.ref Cm)))
 (m_Endless:nsIn K mainGlobals "Endless" =some (some (.ref Cn)))
 (m_Forever:nsIn K mainGlobals "Forever" =some (some (.ref Co)))
 (m_BadQuestion:nsIn K mainGlobals "BadQuestion" =some (some (.ref Cp)))
 (m_NoDeed:nsIn K mainGlobals "NoDeed" =some (some (.ref Cq)))
 (m_Rest:nsIn K mainGlobals "Rest" =some (some (.ref Cr)))
 (m_Raised:nsIn K mainGlobals "Raised" =some (some (.ref Cs)))
 (m_Tie:nsIn K mainGlobals "Tie" =some (some (.ref Ct)))
 (m_Net:nsIn K mainGlobals "Net" =some (some (.ref Cu)))
 (xsp:specialIn K (.builtin "object.__class__") "__get__" =some (some (.builtin "getset_descriptor.__get__")))
 (xtk:takesIn K (.builtin "object.__class__")=some true)
 (pg_CRest:plainGet K Cr Str.empty=true)
 (hd_CRest:hasDictIn K Cr=true)
 (po_CRest:plainOver K Cr=true)
 (sa_CRest:findIn K (.ref Cr) "__setattr__" =some (some (.builtin "object.__setattr__")))
 (pg_CRaised:plainGet K Cs Str.empty=true)
 (hd_CRaised:hasDictIn K Cs=true)
 (po_CRaised:plainOver K Cs=true)
 (sa_CRaised:findIn K (.ref Cs) "__setattr__" =some (some (.builtin "object.__setattr__")))
 (pg_CTie:plainGet K Ct Str.empty=true)
 (hd_CTie:hasDictIn K Ct=true)
 (po_CTie:plainOver K Ct=true)
 (sa_CTie:findIn K (.ref Ct) "__setattr__" =some (some (.builtin "object.__setattr__")))
 (pg_CNet:plainGet K Cu Str.empty=true)
 (hd_CNet:hasDictIn K Cu=true)
 (po_CNet:plainOver K Cu=true)
 (sa_CNet:findIn K (.ref Cu) "__setattr__" =some (some (.builtin "object.__setattr__")))
 (z_ValueError:nsIn K mainGlobals "ValueError" =some none)
set_option maxHeartbeats 0 in
noncomputable def q0 (P:Params):Q0 (ob P) 31 44 56 68 87 99 111 123 142 161 180 192 211 230 249 268 280 428 449 510 621:=by
 have _:=kf0
 apply Q0.mk<;> trivial
set_option genSizeOf false in
set_option genInjectivity false in
structure Q1 (K:Frag) (Ca Cb Cc Cd Ce Cf Cg Ch Ci Cj Ck Cl Cm Cn Co Cp Cq Cr Cs Ct Cu:Addr) where
 (t_g_LETTERS:Tok)
 (t_g_MOST_LETTERS:Tok)
 (t_g_MOST:Tok)
 (t_g_MOST_PLACES:Tok)
 (t_g_MOST_TIES:Tok)
 (z_all:nsIn K mainGlobals "all" =some none)
 (z_bool:nsIn K mainGlobals "bool" =some none)
 (z_dict:nsIn K mainGlobals "dict" =some none)
 (z_enumerate:nsIn K mainGlobals "enumerate" =some none)
 (z_int:nsIn K mainGlobals "int" =some none)
 (z_isinstance:nsIn K mainGlobals "isinstance" =some none)
 (z_len:nsIn K mainGlobals "len" =some none)
 (z_list:nsIn K mainGlobals "list" =some none)
 (z_min:nsIn K mainGlobals "min" =some none)
 (z_range:nsIn K mainGlobals "range" =some none)
 (z_sorted:nsIn K mainGlobals "sorted" =some none)
 (z_str:nsIn K mainGlobals "str" =some none)
 (g_LETTERS:nsIn K mainGlobals "LETTERS" =some (some (.str "abcdefghijklmnopqrstuvwxyz" t_g_LETTERS)))
 (g_MOST_LETTERS:nsIn K mainGlobals "MOST_LETTERS" =some (some (.int 12 t_g_MOST_LETTERS)))
 (g_MOST:nsIn K mainGlobals "MOST" =some (some (.int 1000000000000000000000000000000000000000000000000000000000000 t_g_MOST)))
 (g_MOST_PLACES:nsIn K mainGlobals "MOST_PLACES" =some (some (.int 14 t_g_MOST_PLACES)))
 (g_MOST_TIES:nsIn K mainGlobals "MOST_TIES" =some (some (.int 40 t_g_MOST_TIES)))
 (n_amount_Raised:findIn K (.ref Cs) "amount" =some none)
 (n_flow_Raised:findIn K (.ref Cs) "flow" =some none)
 (n_head_Tie:findIn K (.ref Ct) "head" =some none)
 (n_heads_Rest:findIn K (.ref Cr) "heads" =some none)
 (n_last_given_Net:findIn K (.ref Cu) "last_given" =some none)
 (n_least_Tie:findIn K (.ref Ct) "least" =some none)
 (n_many_Rest:findIn K (.ref Cr) "many" =some none)
 (n_most_Tie:findIn K (.ref Ct) "most" =some none)
 (n_names_Net:findIn K (.ref Cu) "names" =some none)
 (n_number_Tie:findIn K (.ref Ct) "number" =some none)
 (n_price_Tie:findIn K (.ref Ct) "price" =some none)
 (n_rooms_Rest:findIn K (.ref Cr) "rooms" =some none)
 (n_rows_Net:findIn K (.ref Cu) "rows" =some none)
 (n_side_Raised:findIn K (.ref Cs) "side" =some none)
 (n_starts_Rest:findIn K (.ref Cr) "starts" =some none)
 (n_tail_Tie:findIn K (.ref Ct) "tail" =some none)
 (xhd_FlowError:hasDictIn K Ca=true)
 (xty_FlowError:typeIn K (.ref Ca)=some (.type "type"))
 (xme_FlowError:subIn K (.ref Ca) (.ref Ca)=some true)
 (xb_FlowError:subIn K (.ref Ca) (.type "BaseException")=some true)
 (xhd_BadName:hasDictIn K Cb=true)
 (xty_BadName:typeIn K (.ref Cb)=some (.type "type"))
 (xme_BadName:subIn K (.ref Cb) (.ref Cb)=some true)
 (xb_BadName:subIn K (.ref Cb) (.type "BaseException")=some true)
set_option maxHeartbeats 0 in
noncomputable def q1 (P:Params):Q1 (ob P) 31 44 56 68 87 99 111 123 142 161 180 192 211 230 249 268 280 428 449 510 621:=by
 apply Q1.mk<;> trivial
set_option genSizeOf false in
set_option genInjectivity false in
structure Q2 (K:Frag) (Ca Cb Cc Cd Ce Cf Cg Ch Ci Cj Ck Cl Cm Cn Co Cp Cq Cr Cs Ct Cu:Addr) where
 (xhd_Twice:hasDictIn K Cc=true)
 (xty_Twice:typeIn K (.ref Cc)=some (.type "type"))
 (xme_Twice:subIn K (.ref Cc) (.ref Cc)=some true)
 (xb_Twice:subIn K (.ref Cc) (.type "BaseException")=some true)
 (xhd_TooMany:hasDictIn K Cd=true)
 (xty_TooMany:typeIn K (.ref Cd)=some (.type "type"))
 (xme_TooMany:subIn K (.ref Cd) (.ref Cd)=some true)
 (xb_TooMany:subIn K (.ref Cd) (.type "BaseException")=some true)
 (xhd_NoPlace:hasDictIn K Ce=true)
 (xty_NoPlace:typeIn K (.ref Ce)=some (.type "type"))
 (xme_NoPlace:subIn K (.ref Ce) (.ref Ce)=some true)
 (xb_NoPlace:subIn K (.ref Ce) (.type "BaseException")=some true)
 (xga_NoPlace:findIn K (.ref Ce) "__getattribute__" =some (some (.builtin "BaseException.__getattribute__")))
 (xgg_NoPlace:findIn K (.ref Ce) "__getattr__" =some none)
 (xca_NoPlace:findIn K (.ref Ce) "__class__" =some (some (.builtin "object.__class__")))
 (xob_NoPlace:mroIn K Ce (.type "object")=some true)
 (xhd_BadTie:hasDictIn K Cf=true)
 (xty_BadTie:typeIn K (.ref Cf)=some (.type "type"))
 (xme_BadTie:subIn K (.ref Cf) (.ref Cf)=some true)
 (xb_BadTie:subIn K (.ref Cf) (.type "BaseException")=some true)
 (xhd_BadRoom:hasDictIn K Cg=true)
 (xty_BadRoom:typeIn K (.ref Cg)=some (.type "type"))
 (xme_BadRoom:subIn K (.ref Cg) (.ref Cg)=some true)
 (xb_BadRoom:subIn K (.ref Cg) (.type "BaseException")=some true)
 (xhd_BadPrice:hasDictIn K Ch=true)
 (xty_BadPrice:typeIn K (.ref Ch)=some (.type "type"))
 (xme_BadPrice:subIn K (.ref Ch) (.ref Ch)=some true)
 (xb_BadPrice:subIn K (.ref Ch) (.type "BaseException")=some true)
 (xhd_NoTie:hasDictIn K Ci=true)
 (xty_NoTie:typeIn K (.ref Ci)=some (.type "type"))
 (xme_NoTie:subIn K (.ref Ci) (.ref Ci)=some true)
 (xb_NoTie:subIn K (.ref Ci) (.type "BaseException")=some true)
 (xhd_BadLine:hasDictIn K Cj=true)
 (xty_BadLine:typeIn K (.ref Cj)=some (.type "type"))
 (xme_BadLine:subIn K (.ref Cj) (.ref Cj)=some true)
 (xb_BadLine:subIn K (.ref Cj) (.type "BaseException")=some true)
 (xhd_BadFlow:hasDictIn K Ck=true)
 (xty_BadFlow:typeIn K (.ref Ck)=some (.type "type"))
 (xme_BadFlow:subIn K (.ref Ck) (.ref Ck)=some true)
 (xb_BadFlow:subIn K (.ref Ck) (.type "BaseException")=some true)
 (xga_BadFlow:findIn K (.ref Ck) "__getattribute__" =some (some (.builtin "BaseException.__getattribute__")))
 (xgg_BadFlow:findIn K (.ref Ck) "__getattr__" =some none)
 (xca_BadFlow:findIn K (.ref Ck) "__class__" =some (some (.builtin "object.__class__")))
 (xob_BadFlow:mroIn K Ck (.type "object")=some true)
set_option maxHeartbeats 0 in
noncomputable def q2 (P:Params):Q2 (ob P) 31 44 56 68 87 99 111 123 142 161 180 192 211 230 249 268 280 428 449 510 621:=by
 apply Q2.mk<;> trivial
set_option genSizeOf false in
set_option genInjectivity false in
structure Q3 (K:Frag) (Ca Cb Cc Cd Ce Cf Cg Ch Ci Cj Ck Cl Cm Cn Co Cp Cq Cr Cs Ct Cu:Addr) where
 (xhd_SamePlace:hasDictIn K Cl=true)
 (xty_SamePlace:typeIn K (.ref Cl)=some (.type "type"))
 (xme_SamePlace:subIn K (.ref Cl) (.ref Cl)=some true)
 (xb_SamePlace:subIn K (.ref Cl) (.type "BaseException")=some true)
 (xga_SamePlace:findIn K (.ref Cl) "__getattribute__" =some (some (.builtin "BaseException.__getattribute__")))
 (xgg_SamePlace:findIn K (.ref Cl) "__getattr__" =some none)
 (xca_SamePlace:findIn K (.ref Cl) "__class__" =some (some (.builtin "object.__class__")))
 (xob_SamePlace:mroIn K Cl (.type "object")=some true)
 (xhd_NoFlow:hasDictIn K Cm=true)
 (xty_NoFlow:typeIn K (.ref Cm)=some (.type "type"))
 (xme_NoFlow:subIn K (.ref Cm) (.ref Cm)=some true)
 (xb_NoFlow:subIn K (.ref Cm) (.type "BaseException")=some true)
 (xhd_Endless:hasDictIn K Cn=true)
 (xty_Endless:typeIn K (.ref Cn)=some (.type "type"))
 (xme_Endless:subIn K (.ref Cn) (.ref Cn)=some true)
 (xb_Endless:subIn K (.ref Cn) (.type "BaseException")=some true)
 (xga_Endless:findIn K (.ref Cn) "__getattribute__" =some (some (.builtin "BaseException.__getattribute__")))
 (xgg_Endless:findIn K (.ref Cn) "__getattr__" =some none)
 (xca_Endless:findIn K (.ref Cn) "__class__" =some (some (.builtin "object.__class__")))
 (xob_Endless:mroIn K Cn (.type "object")=some true)
 (xhd_Forever:hasDictIn K Co=true)
 (xty_Forever:typeIn K (.ref Co)=some (.type "type"))
 (xme_Forever:subIn K (.ref Co) (.ref Co)=some true)
 (xb_Forever:subIn K (.ref Co) (.type "BaseException")=some true)
 (xhd_BadQuestion:hasDictIn K Cp=true)
 (xty_BadQuestion:typeIn K (.ref Cp)=some (.type "type"))
 (xme_BadQuestion:subIn K (.ref Cp) (.ref Cp)=some true)
 (xb_BadQuestion:subIn K (.ref Cp) (.type "BaseException")=some true)
 (xhd_NoDeed:hasDictIn K Cq=true)
 (xty_NoDeed:typeIn K (.ref Cq)=some (.type "type"))
 (xme_NoDeed:subIn K (.ref Cq) (.ref Cq)=some true)
 (xb_NoDeed:subIn K (.ref Cq) (.type "BaseException")=some true)
 (xq_SamePlace:excIn K Cl [.type "ValueError", .type "Exception", .type "BaseException", .type "object"] "ValueError.__new__" =true)
 (xk_SamePlace:keepIn K (.ref Cl)=true)
 (s_NoPlace_FlowError:subIn K (.ref Ce) (.ref Ca)=some true)
 (s_BadFlow_FlowError:subIn K (.ref Ck) (.ref Ca)=some true)
 (s_SamePlace_FlowError:subIn K (.ref Cl) (.ref Ca)=some true)
 (s_Endless_FlowError:subIn K (.ref Cn) (.ref Ca)=some true)
 (s_NoPlace_BadName:subIn K (.ref Ce) (.ref Cb)=some false)
 (s_BadFlow_BadName:subIn K (.ref Ck) (.ref Cb)=some false)
set_option maxHeartbeats 0 in
noncomputable def q3 (P:Params):Q3 (ob P) 31 44 56 68 87 99 111 123 142 161 180 192 211 230 249 268 280 428 449 510 621:=by
 apply Q3.mk<;> trivial
set_option genSizeOf false in
set_option genInjectivity false in
structure Q4 (K:Frag) (Ca Cb Cc Cd Ce Cf Cg Ch Ci Cj Ck Cl Cm Cn Co Cp Cq Cr Cs Ct Cu:Addr) where
 (s_SamePlace_BadName:subIn K (.ref Cl) (.ref Cb)=some false)
 (s_Endless_BadName:subIn K (.ref Cn) (.ref Cb)=some false)
 (s_NoPlace_Twice:subIn K (.ref Ce) (.ref Cc)=some false)
 (s_BadFlow_Twice:subIn K (.ref Ck) (.ref Cc)=some false)
 (s_SamePlace_Twice:subIn K (.ref Cl) (.ref Cc)=some false)
 (s_Endless_Twice:subIn K (.ref Cn) (.ref Cc)=some false)
 (s_NoPlace_TooMany:subIn K (.ref Ce) (.ref Cd)=some false)
 (s_BadFlow_TooMany:subIn K (.ref Ck) (.ref Cd)=some false)
 (s_SamePlace_TooMany:subIn K (.ref Cl) (.ref Cd)=some false)
 (s_Endless_TooMany:subIn K (.ref Cn) (.ref Cd)=some false)
 (s_NoPlace_NoPlace:subIn K (.ref Ce) (.ref Ce)=some true)
 (s_BadFlow_NoPlace:subIn K (.ref Ck) (.ref Ce)=some false)
 (s_SamePlace_NoPlace:subIn K (.ref Cl) (.ref Ce)=some false)
 (s_Endless_NoPlace:subIn K (.ref Cn) (.ref Ce)=some false)
 (s_NoPlace_BadTie:subIn K (.ref Ce) (.ref Cf)=some false)
 (s_BadFlow_BadTie:subIn K (.ref Ck) (.ref Cf)=some false)
 (s_SamePlace_BadTie:subIn K (.ref Cl) (.ref Cf)=some false)
 (s_Endless_BadTie:subIn K (.ref Cn) (.ref Cf)=some false)
 (s_NoPlace_BadRoom:subIn K (.ref Ce) (.ref Cg)=some false)
 (s_BadFlow_BadRoom:subIn K (.ref Ck) (.ref Cg)=some false)
 (s_SamePlace_BadRoom:subIn K (.ref Cl) (.ref Cg)=some false)
 (s_Endless_BadRoom:subIn K (.ref Cn) (.ref Cg)=some false)
 (s_NoPlace_BadPrice:subIn K (.ref Ce) (.ref Ch)=some false)
 (s_BadFlow_BadPrice:subIn K (.ref Ck) (.ref Ch)=some false)
 (s_SamePlace_BadPrice:subIn K (.ref Cl) (.ref Ch)=some false)
 (s_Endless_BadPrice:subIn K (.ref Cn) (.ref Ch)=some false)
 (s_NoPlace_NoTie:subIn K (.ref Ce) (.ref Ci)=some false)
 (s_BadFlow_NoTie:subIn K (.ref Ck) (.ref Ci)=some false)
 (s_SamePlace_NoTie:subIn K (.ref Cl) (.ref Ci)=some false)
 (s_Endless_NoTie:subIn K (.ref Cn) (.ref Ci)=some false)
 (s_NoPlace_BadLine:subIn K (.ref Ce) (.ref Cj)=some false)
 (s_BadFlow_BadLine:subIn K (.ref Ck) (.ref Cj)=some false)
 (s_SamePlace_BadLine:subIn K (.ref Cl) (.ref Cj)=some false)
 (s_Endless_BadLine:subIn K (.ref Cn) (.ref Cj)=some false)
 (s_NoPlace_BadFlow:subIn K (.ref Ce) (.ref Ck)=some false)
 (s_BadFlow_BadFlow:subIn K (.ref Ck) (.ref Ck)=some true)
 (s_SamePlace_BadFlow:subIn K (.ref Cl) (.ref Ck)=some false)
 (s_Endless_BadFlow:subIn K (.ref Cn) (.ref Ck)=some false)
 (s_NoPlace_SamePlace:subIn K (.ref Ce) (.ref Cl)=some false)
 (s_BadFlow_SamePlace:subIn K (.ref Ck) (.ref Cl)=some false)
set_option maxHeartbeats 0 in
noncomputable def q4 (P:Params):Q4 (ob P) 31 44 56 68 87 99 111 123 142 161 180 192 211 230 249 268 280 428 449 510 621:=by
 apply Q4.mk<;> trivial
set_option genSizeOf false in
set_option genInjectivity false in
structure Q5 (K:Frag) (Ca Cb Cc Cd Ce Cf Cg Ch Ci Cj Ck Cl Cm Cn Co Cp Cq Cr Cs Ct Cu:Addr) where
 (s_SamePlace_SamePlace:subIn K (.ref Cl) (.ref Cl)=some true)
 (s_Endless_SamePlace:subIn K (.ref Cn) (.ref Cl)=some false)
 (s_NoPlace_NoFlow:subIn K (.ref Ce) (.ref Cm)=some false)
 (s_BadFlow_NoFlow:subIn K (.ref Ck) (.ref Cm)=some false)
 (s_SamePlace_NoFlow:subIn K (.ref Cl) (.ref Cm)=some false)
 (s_Endless_NoFlow:subIn K (.ref Cn) (.ref Cm)=some false)
 (s_NoPlace_Endless:subIn K (.ref Ce) (.ref Cn)=some false)
 (s_BadFlow_Endless:subIn K (.ref Ck) (.ref Cn)=some false)
 (s_SamePlace_Endless:subIn K (.ref Cl) (.ref Cn)=some false)
 (s_Endless_Endless:subIn K (.ref Cn) (.ref Cn)=some true)
 (s_NoPlace_Forever:subIn K (.ref Ce) (.ref Co)=some false)
 (s_BadFlow_Forever:subIn K (.ref Ck) (.ref Co)=some false)
 (s_SamePlace_Forever:subIn K (.ref Cl) (.ref Co)=some false)
 (s_Endless_Forever:subIn K (.ref Cn) (.ref Co)=some false)
 (s_NoPlace_BadQuestion:subIn K (.ref Ce) (.ref Cp)=some false)
 (s_BadFlow_BadQuestion:subIn K (.ref Ck) (.ref Cp)=some false)
 (s_SamePlace_BadQuestion:subIn K (.ref Cl) (.ref Cp)=some false)
 (s_Endless_BadQuestion:subIn K (.ref Cn) (.ref Cp)=some false)
 (s_NoPlace_NoDeed:subIn K (.ref Ce) (.ref Cq)=some false)
 (s_BadFlow_NoDeed:subIn K (.ref Ck) (.ref Cq)=some false)
 (s_SamePlace_NoDeed:subIn K (.ref Cl) (.ref Cq)=some false)
 (s_Endless_NoDeed:subIn K (.ref Cn) (.ref Cq)=some false)
 (s_NoPlace_ValueError:subIn K (.ref Ce) (.type "ValueError")=some true)
 (s_BadFlow_ValueError:subIn K (.ref Ck) (.type "ValueError")=some true)
 (s_SamePlace_ValueError:subIn K (.ref Cl) (.type "ValueError")=some true)
 (s_Endless_ValueError:subIn K (.ref Cn) (.type "ValueError")=some true)
 (xn_NoPlace_name:findIn K (.ref Ce) "name" =some none)
 (xn_BadFlow_number:findIn K (.ref Ck) "number" =some none)
set_option maxHeartbeats 0 in
noncomputable def q5 (P:Params):Q5 (ob P) 31 44 56 68 87 99 111 123 142 161 180 192 211 230 249 268 280 428 449 510 621:=by
 apply Q5.mk<;> trivial
set_option genSizeOf false in
set_option genInjectivity false in
structure Q6 (K:Frag) (Ca Cb Cc Cd Ce Cf Cg Ch Ci Cj Ck Cl Cm Cn Co Cp Cq Cr Cs Ct Cu:Addr) where
 (f1:Addr) (od1 an1:Option Addr) (sl1:Array (Option Value)) (oc1 kV1 dc1 pm1 cd1 ct1:Value)
 (nmx1 qx1:Str) (Nx1:Addr) (bsx1 subx1:List Value) (snx1:List Str) (abx1:Bool) (colx1:Option Bool) (ddx1:Option Addr) (m0x1 m1x1 m2x1 m3x1 m5x1:Option Value)
 (f2:Addr) (od2 an2:Option Addr) (sl2:Array (Option Value)) (oc2 kV2 dc2 pm2 cd2 ct2:Value)
 (nmx2 qx2:Str) (Nx2:Addr) (bsx2 subx2:List Value) (snx2:List Str) (abx2:Bool) (colx2:Option Bool) (ddx2:Option Addr) (m0x2 m1x2 m2x2 m3x2 m5x2:Option Value)
 (f3:Addr) (od3 an3:Option Addr) (sl3:Array (Option Value)) (oc3 kV3 dc3 pm3 cd3 ct3:Value)
 (nmx3 qx3:Str) (Nx3:Addr) (bsx3 subx3:List Value) (snx3:List Str) (abx3:Bool) (colx3:Option Bool) (ddx3:Option Addr) (m0x3 m1x3 m2x3 m3x3 m5x3:Option Value)
 (f4:Addr)
 (f5:Addr)
 (f6:Addr)
 (f7:Addr)
 (f8:Addr)
 (f9:Addr)
 (f10:Addr)
 (f11:Addr)
 (f12:Addr)
 (a1:findIn K (.ref Ce) "__init__" =some (some (.ref f1)))
 (i1:typeIn K (.ref f1)=some (.type "function"))
 (l1:K.lookup f1=some ⟨oc1,od1, .func (fnOf "__init__" "NoPlace.__init__" (defArgs aW) (defBody aW) (defScope aW) .none kV1 dc1 pm1 an1 cd1 ct1),sl1⟩)
 (c1:codeIn K cd1 "NoPlace.__init__" =true)
 (k1:keepIn K (.ref f1)=true)
 (xL1:K.lookup Ce=some (excClassObj nmx1 qx1 Ce Nx1 bsx1 [.ref Ca, .type "ValueError", .type "Exception", .type "BaseException", .type "object"] true snx1 subx1 abx1 colx1 ddx1 m0x1 m1x1 m2x1 m3x1 m5x1 "ValueError.__new__"))
 (xsa1:findIn K (.ref Ce) "__setattr__" =some (some (.builtin "object.__setattr__")))
 (xno1:findIn K (.ref Ce) "name" =some none)
 (xkC1:keepIn K (.ref Ce)=true)
 (a2:findIn K (.ref Ck) "__init__" =some (some (.ref f2)))
 (i2:typeIn K (.ref f2)=some (.type "function"))
 (l2:K.lookup f2=some ⟨oc2,od2, .func (fnOf "__init__" "BadFlow.__init__" (defArgs aY) (defBody aY) (defScope aY) .none kV2 dc2 pm2 an2 cd2 ct2),sl2⟩)
 (c2:codeIn K cd2 "BadFlow.__init__" =true)
 (k2:keepIn K (.ref f2)=true)
 (xL2:K.lookup Ck=some (excClassObj nmx2 qx2 Ck Nx2 bsx2 [.ref Ca, .type "ValueError", .type "Exception", .type "BaseException", .type "object"] true snx2 subx2 abx2 colx2 ddx2 m0x2 m1x2 m2x2 m3x2 m5x2 "ValueError.__new__"))
 (xsa2:findIn K (.ref Ck) "__setattr__" =some (some (.builtin "object.__setattr__")))
 (xno2:findIn K (.ref Ck) "number" =some none)
 (xkC2:keepIn K (.ref Ck)=true)
 (a3:findIn K (.ref Cn) "__init__" =some (some (.ref f3)))
 (i3:typeIn K (.ref f3)=some (.type "function"))
 (l3:K.lookup f3=some ⟨oc3,od3, .func (fnOf "__init__" "Endless.__init__" (defArgs aX) (defBody aX) (defScope aX) .none kV3 dc3 pm3 an3 cd3 ct3),sl3⟩)
 (c3:codeIn K cd3 "Endless.__init__" =true)
 (k3:keepIn K (.ref f3)=true)
 (xL3:K.lookup Cn=some (excClassObj nmx3 qx3 Cn Nx3 bsx3 [.ref Ca, .type "ValueError", .type "Exception", .type "BaseException", .type "object"] true snx3 subx3 abx3 colx3 ddx3 m0x3 m1x3 m2x3 m3x3 m5x3 "ValueError.__new__"))
 (xsa3:findIn K (.ref Cn) "__setattr__" =some (some (.builtin "object.__setattr__")))
 (xno3:findIn K (.ref Cn) "numbers" =some none)
 (xkC3:keepIn K (.ref Cn)=true)
 (l4:FnG K f4 "is_whole" kH)
 (l5:FnG K f5 "is_among" kI)
 (l6:FnG K f6 "are_signs" jh)
 (l7:FnG K f7 "is_name" mQ)
 (l8:FnG K f8 "number_text" fG)
 (l9:FnG K f9 "is_amount" jg)
 (l10:FnG K f10 "need_flow" dQ)
 (l11:FnG K f11 "need_ends" jf)
 (l12:FnG K f12 "spare_sums" gO)
set_option maxHeartbeats 0 in
noncomputable def q6 (P:Params):Q6 (ob P) 31 44 56 68 87 99 111 123 142 161 180 192 211 230 249 268 280 428 449 510 621:=by
 apply Q6.mk<;> trivial
set_option genSizeOf false in
set_option genInjectivity false in
structure Q7 (K:Frag) (Ca Cb Cc Cd Ce Cf Cg Ch Ci Cj Ck Cl Cm Cn Co Cp Cq Cr Cs Ct Cu:Addr) where
 (f13:Addr)
 (f14:Addr)
 (f15:Addr) (od15 an15:Option Addr) (sl15:Array (Option Value)) (oc15 kV15 dc15 pm15 cd15 ct15:Value)
 (T15:Addr) (ocT15:Value) (odT15:Option Addr) (nT15:Nat) (slT15:Array (Option Value)) (tk15_0:Tok)
 (f16:Addr)
 (f17:Addr)
 (f18:Addr)
 (f19:Addr)
 (f20:Addr)
 (f21:Addr)
 (f22:Addr)
 (f23:Addr)
 (f24:Addr)
 (l13:FnG K f13 "carried_by" gQ)
 (a14:findIn K (.ref Cr) "__init__" =some (some (.ref f14)))
 (i14:isFn K (.ref f14)=true)
 (l14:FnAt K f14 "__init__" "Rest.__init__" jk)
 (mk14:makesIn K Cr=true)
 (kc14:keepIn K (.ref Cr)=true)
 (a15:findIn K (.ref Cr) "put_arc" =some (some (.ref f15)))
 (i15:isFn K (.ref f15)=true)
 (l15:K.lookup f15=some ⟨oc15,od15, .func (fnOf "put_arc" "Rest.put_arc" (defArgs aE) (defBody aE) (defScope aE) (.ref T15) kV15 dc15 pm15 an15 cd15 ct15),sl15⟩)
 (t15:K.lookup T15=some ⟨ocT15,odT15, .seq [.int 0 tk15_0].toArray nT15,slT15⟩)
 (c15:codeIn K cd15 "Rest.put_arc" =true)
 (k15:keepIn K (.ref f15)=true)
 (l16:FnM K Cr f16 "back_of" "Rest.back_of" eO)
 (l17:FnM K Cr f17 "lets" "Rest.lets" jj)
 (l18:FnM K Cr f18 "walked" "Rest.walked" fJ)
 (l19:FnM K Cr f19 "way_to" "Rest.way_to" fH)
 (l20:FnM K Cr f20 "change" "Rest.change" fK)
 (l21:FnM K Cr f21 "lift" "Rest.lift" ji)
 (l22:FnM K Cr f22 "reached" "Rest.reached" eL)
 (l23:FnM K Cr f23 "endless" "Rest.endless" eM)
 (a24:findIn K (.ref Cs) "__init__" =some (some (.ref f24)))
 (i24:isFn K (.ref f24)=true)
 (l24:FnAt K f24 "__init__" "Raised.__init__" fL)
 (mk24:makesIn K Cs=true)
 (kc24:keepIn K (.ref Cs)=true)
set_option maxHeartbeats 0 in
noncomputable def q7 (P:Params):Q7 (ob P) 31 44 56 68 87 99 111 123 142 161 180 192 211 230 249 268 280 428 449 510 621:=by
 apply Q7.mk<;> trivial
set_option genSizeOf false in
set_option genInjectivity false in
structure Q8 (K:Frag) (Ca Cb Cc Cd Ce Cf Cg Ch Ci Cj Ck Cl Cm Cn Co Cp Cq Cr Cs Ct Cu:Addr) where
 (f25:Addr)
 (f26:Addr)
 (f27:Addr)
 (f28:Addr)
 (f29:Addr)
 (f30:Addr)
 (f31:Addr)
 (f32:Addr)
 (f33:Addr)
 (f34:Addr)
 (f35:Addr)
 (f36:Addr)
 (l25:FnG K f25 "room_left" jc)
 (l26:FnG K f26 "rest_of" mO)
 (l27:FnG K f27 "flow_of" mS)
 (l28:FnG K f28 "raised" qs)
 (l29:FnG K f29 "need_room" je)
 (l30:FnG K f30 "need_price" gP)
 (a31:findIn K (.ref Ct) "__init__" =some (some (.ref f31)))
 (i31:isFn K (.ref f31)=true)
 (l31:FnAt K f31 "__init__" "Tie.__init__" kJ)
 (mk31:makesIn K Ct=true)
 (kc31:keepIn K (.ref Ct)=true)
 (a32:findIn K (.ref Cu) "__init__" =some (some (.ref f32)))
 (i32:isFn K (.ref f32)=true)
 (l32:FnAt K f32 "__init__" "Net.__init__" kL)
 (mk32:makesIn K Cu=true)
 (kc32:keepIn K (.ref Cu)=true)
 (l33:FnM K Cu f33 "places" "Net.places" gR)
 (l34:FnM K Cu f34 "ties" "Net.ties" kK)
 (l35:FnM K Cu f35 "given" "Net.given" jl)
 (l36:FnM K Cu f36 "put_place" "Net.put_place" dR)
set_option maxHeartbeats 0 in
noncomputable def q8 (P:Params):Q8 (ob P) 31 44 56 68 87 99 111 123 142 161 180 192 211 230 249 268 280 428 449 510 621:=by
 apply Q8.mk<;> trivial
set_option genSizeOf false in
set_option genInjectivity false in
structure Q9 (K:Frag) (Ca Cb Cc Cd Ce Cf Cg Ch Ci Cj Ck Cl Cm Cn Co Cp Cq Cr Cs Ct Cu:Addr) where
 (f37:Addr)
 (f38:Addr) (od38 an38:Option Addr) (sl38:Array (Option Value)) (oc38 kV38 dc38 pm38 cd38 ct38:Value)
 (T38:Addr) (ocT38:Value) (odT38:Option Addr) (nT38:Nat) (slT38:Array (Option Value)) (tk38_0 tk38_2:Tok)
 (f39:Addr)
 (f40:Addr)
 (f41:Addr)
 (f42:Addr)
 (f43:Addr)
 (f44:Addr)
 (f45:Addr)
 (f46:Addr)
 (f47:Addr)
 (f48:Addr)
 (l37:FnM K Cu f37 "need_place" "Net.need_place" dq)
 (a38:findIn K (.ref Cu) "put_tie" =some (some (.ref f38)))
 (i38:isFn K (.ref f38)=true)
 (l38:K.lookup f38=some ⟨oc38,od38, .func (fnOf "put_tie" "Net.put_tie" (defArgs aH) (defBody aH) (defScope aH) (.ref T38) kV38 dc38 pm38 an38 cd38 ct38),sl38⟩)
 (t38:K.lookup T38=some ⟨ocT38,odT38, .seq [.int 0 tk38_0, .none, .int 0 tk38_2].toArray nT38,slT38⟩)
 (c38:codeIn K cd38 "Net.put_tie" =true)
 (k38:keepIn K (.ref f38)=true)
 (l39:FnM K Cu f39 "put_numbered" "Net.put_numbered" cD)
 (l40:FnG K f40 "tie_line" kG)
 (l41:FnG K f41 "net_lines" jd)
 (l42:FnG K f42 "_law_number" mU)
 (l43:FnG K f43 "_law_names" qt)
 (l44:FnG K f44 "_law_great" qu)
 (l45:FnG K f45 "_law_room" vf)
 (l46:FnG K f46 "_law_row" zy)
 (l47:FnG K f47 "_law_made" vg)
 (l48:FnG K f48 "_law_alone" qx)
set_option maxHeartbeats 0 in
noncomputable def q9 (P:Params):Q9 (ob P) 31 44 56 68 87 99 111 123 142 161 180 192 211 230 249 268 280 428 449 510 621:=by
 apply Q9.mk<;> trivial
set_option genSizeOf false in
set_option genInjectivity false in
structure Q10 (K:Frag) (Ca Cb Cc Cd Ce Cf Cg Ch Ci Cj Ck Cl Cm Cn Co Cp Cq Cr Cs Ct Cu:Addr) where
 (f49:Addr)
 (f50:Addr)
 (f51:Addr)
 (f52:Addr)
 (f53:Addr)
 (f54:Addr) (od54 an54:Option Addr) (sl54:Array (Option Value)) (oc54 kV54 dc54 pm54 cd54 ct54:Value)
 (l49:FnG K f49 "_law_told" ve)
 (l50:FnG K f50 "_law_is_endless" fM)
 (l51:FnG K f51 "_law_bent" vh)
 (l52:FnG K f52 "_law_uneven" mT)
 (l53:FnG K f53 "_law_asked" qw)
 (a54:nsIn K mainGlobals "law" =some (some (.ref f54)))
 (l54:K.lookup f54=some ⟨oc54,od54, .func (fnOf "law" "law" (defArgs jK) (defBody jK) (defScope jK) .none kV54 dc54 pm54 an54 cd54 ct54),sl54⟩)
 (c54:codeIn K cd54 "law" =true)
 (k54:keepIn K (.ref f54)=true)
set_option maxHeartbeats 0 in
noncomputable def q10 (P:Params):Q10 (ob P) 31 44 56 68 87 99 111 123 142 161 180 192 211 230 249 268 280 428 449 510 621:=by
 apply Q10.mk<;> trivial
end
section
open PySem.W
noncomputable abbrev hdRow:OpenRow:=PySem.Challenge.rw_flowhall_k11_raising_refused.row
def hdPos (s:Stmt):Pos:=match s with
 | .FunctionDef _ _ _ _ _ _ _ _ _ p=>p
 | _=>⟨0,0,0,0⟩
noncomputable def hdDef:DefRec:=⟨"law",L2.defArgs jK,L2.defBody jK,L2.defScope jK,hdPos jK⟩
theorem hdOe:∀P,HR.oa=(HR.ob P).map (·.1):=fun _=>by kernel_rfl
noncomputable abbrev tW:Hook:=kHook HR.ob HR.oa hdOe
theorem hdT1:defOf HR.vw hdRow.name=some (hdDef,[]):=by kernel_rfl
theorem hdT2:hdRow.prog.theDef hdRow.name=some (hdDef.params,hdDef.body,hdDef.scope):=by kernel_rfl
theorem hdT3:chainsOk HR.vw=true:=by decide+kernel
theorem hdT4:opensWell hdRow.prog=true:=by decide+kernel
theorem hdT5:(frees hdRow.toRowW&&hdRow.within.isEmpty)=true:=by decide+kernel
theorem hdT6:hdRow.prog.bare:=⟨rfl,rfl,rfl,rfl,rfl,by decide+kernel⟩
set_option maxHeartbeats 0 in
theorem hdT7:(PySem.Challenge.rw_flowhall_k11_raising_refused).row.toRowW.promised:=by w_on; w_witness2
theorem hdT8a:opening hdRow.prog=plainProg hdRow.prog.main.scope.names:=by kernel_rfl
theorem hdT8b:∀s,fenceModules? hdRow.prog s=some s:=fun s=>by kernel_rfl
set_option maxHeartbeats 0 in
theorem hdT8:LeftO hdRow.prog HR.vw HR.lo (fun s=>xlAt HR.vw HR.lv s&&recOk (RowW.records hdRow.toRowW) s) (Hook.obs tW) (Hook.val tW) 14084:=by
 refine HeadRun.left_oneK (M:=13384) hdT8a (by rfl) hdT8b (by rfl) ?_
 intro w os
 apply HR.mapT3
 ·exact Eq.trans (by kernel_rfl) (HR.b0 w os)
 ·exact Eq.trans (by kernel_rfl) (Eq.trans (HR.seen_all w os) (by kernel_rfl))
 ·exact Eq.trans (by kernel_rfl) (Eq.trans (HR.b10 w os) (by kernel_rfl))
theorem hdT9:hdDef.params.defaults= []:=by kernel_rfl
set_option maxHeartbeats 0 in
theorem fin (F:WalkO HR.vw HR.lo (XL HR.vw HR.lv) (Hook.says tW) hdRow.toRowW hdDef [] fun f vs=>PySem.call f vs):PySem.Challenge.rw_flowhall_k11_raising_refused.Holds:=by
 w_on; o_law
 exact holds_open hdT8 (Hook.of tW) (Hook.keeps tW) (fun s e=>xl_of s (Bool.and_eq_true_iff.mp e).1) XL.keeps hdT1 hdT2 (by rfl) (fun s e=>recFacts_of (Bool.and_eq_true_iff.mp e).2) (by rfl) (by assumption) (by rw [hdT3,hdT4,hdT5]; rfl) hdT6 hdT7 F
end
end T

namespace M
open PySem PySem.Spec PyProof.Rows L2

section
variable {P:Program} {w:World} {K:PySem.W.Frag} {mg:Str→Option Value} {base:Heap}
structure Df (K:PySem.W.Frag) (mg:Str→Option Value) (x:Str) (st:Stmt) (ps:List Str):Prop where
 ex:∃(f:Addr) (fd:FuncData),L2.Fun K x x st f fd∧mg x=some (.ref f)∧L2.Binds K fd ps []
structure Cal (P:Program) (w:World) (K:PySem.W.Frag) (mg:Str→Option Value) (base:Heap) (k:Nat) (x:Str) (sp:Sp):Prop where
 ex:∃(f:Addr) (fd:FuncData) (ps:List Str),FnOk P w K mg base L2.CX0 k f fd ps sp∧mg x=some (.ref f)∧PySem.W.keepIn K (.ref f)=true∧Binds K fd ps []
end
section
variable {X:Cx} {x:Str} {pos:Pos} {e:Expr}
theorem tq {v:V} (hg:Gl X x) (h:∃u,X.mg x=some u∧RelV v u) (hd:(x == ("__debug__" :Str))=false:=by decide):PE X (.Name x pos) (tC v):=by
 obtain ⟨u,e,r⟩:=h
 exact pe_glob hg e r hd
end

section
variable {X:Cx}
def sx (i j:Int):Prop:=0≤j∧(Builtin.Int.intBits i:Int)*j≤2 ^ 27
theorem ng:OpR X (binaryOp .Pow) (rI sx fun i j=> .int (i ^ j.toNat)):=opI fun _ _ _ _ _ _ _ hc q=>pow_int hc.1 hc.2 q
end
def NewL (xs:List V) (H:Hp) (Q:VK):Prop:=xs.length≤sizeLine∧∀p,H p=none→Q (.ref p) (upd H p (.lst xs))
def NewT (xs:List V) (H:Hp) (Q:VK):Prop:=xs.length≤sizeLine∧∀p,H p=none→Q (.ref p) (upd H p (.tup xs))
section
variable {K:PySem.W.Frag} {σ:L2.St} {H H' :Hp} {Q:VK} {te:TE} {v x:V} {t:TS} {i:Nat}
inductive Kd (K:PySem.W.Frag) (H:Hp):V→String→Prop where
 | non:Kd K H .non "NoneType"
 | bl (b:Bool):Kd K H (.bl b) "bool"
 | int (i:Int):Kd K H (.int i) "int"
 | str (x:Str):Kd K H (.str x) "str"
 | lst {a:Addr} {xs:List V} (e:H a=some (.lst xs)):Kd K H (.ref a) "list"
 | tup {a:Addr} {xs:List V} (e:H a=some (.tup xs)):Kd K H (.ref a) "tuple"
 | dK {a:Addr} {xs:List (Key×V)} (e:H a=some (.dK xs)):Kd K H (.ref a) "dict"
theorem Kd.mono {x:V} {k:String} (s:Same H H') (h:Kd K H x k):Kd K H' x k:=by
 cases h with
 | non=>exact .non
 | bl b=>exact .bl b
 | int i=>exact .int i
 | str x=>exact .str x
 | lst e=>exact .lst (s _ _ e)
 | tup e=>exact .tup (s _ _ e)
 | dK e=>exact .dK (s _ _ e)
theorem Kd.ty {x:V} {k:String} (h:Kd K H x k):TyX K H x (.type k):=by
 cases h with
 | non=>exact .base .non
 | bl b=>exact .base (.bl b)
 | int i=>exact .base (.int i)
 | str x=>exact .base (.str x)
 | lst e=>exact .base (.lst e)
 | tup e=>exact .base (.tup e)
 | dK e=>exact .base (.dK e)
theorem cQ {i j:Int} (h1: -1000000000000000000000000000000000000000000000000000000000000000000000000000000000000≤i) (h2:i≤1000000000000000000000000000000000000000000000000000000000000000000000000000000000000) (h3: -1000000000000000000000000000000000000000000000000000000000000000000000000000000000000≤j) (h4:j≤1000000000000000000000000000000000000000000000000000000000000000000000000000000000000):CMulX i j:=
 mulx_ok (a:=300) (b:=300) (Nat.lt_of_le_of_lt (m:=1000000000000000000000000000000000000000000000000000000000000000000000000000000000000) (by omega) (by decide+kernel)) (Nat.lt_of_le_of_lt (m:=1000000000000000000000000000000000000000000000000000000000000000000000000000000000000) (by omega) (by decide+kernel)) (by decide)
theorem aw {i j:Int} (h1:0<j) (h2:j≤1000000000000000000000000000000000000000000000000000000000000000000000000000000000000):CDivW i j:=
 wide_div (b:=300) h1 (Nat.lt_of_le_of_lt (m:=1000000000000000000000000000000000000000000000000000000000000000000000000000000000000) (by omega) (by decide+kernel)) (by decide) (by decide)
def tCutE (te:TE):TE:=fun σ H Q=>∃P:VK,te σ H P∧∀v H',P v H'→Q v H'
def tCutT (t:TT):TT:=fun σ H Q=>∃P:Bool→Hp→Prop,t σ H P∧∀b H',P b H'→Q b H'
end
def LcJ (J:It) (H1:Hp) (g:TG) (tt:TT) (te:TE) (vs:List Nat) (σ:L2.St) (Qd:Addr→Hp→Prop):Prop:=∀D,H1 D=none→∃W:Nat→Nat→Hp→Prop,(∃m,W 0 m (upd H1 D (.lst [])))∧∀i m H,W i m H→
 (J.stop i H∧Qd D H)∨(J.go i H∧∃Nx:Hp→Prop,(∀H',Nx H'→∃m',m' <m∧W (i+1) m' H')∧∀x H',J.yld i H x H'→g x (wipe σ vs) H' fun σ2 H2=>wipe σ2 vs=wipe σ vs∧tt σ2 H2 fun b H3=>
  if b=true then te σ2 H3 fun y H4=>∃acc,H4 D=some (.lst acc)∧acc.length<sizeLine∧Nx (upd H4 D (.lst (acc++ [y]))) else Nx H3)
def ForJ (J:It) (σ:L2.St) (H1:Hp) (g:TG) (tb:TS) (D:Ends):Prop:=∃W:Nat→Nat→L2.St→Hp→Prop,(∃m,W 0 m σ H1)∧∀i m σ H,W i m σ H→
 (J.stop i H∧D.nx σ H)∨(J.go i H∧∃N:L2.St→Hp→Prop,(∀σ' H',N σ' H'→∃m',m' <m∧W (i+1) m' σ' H')∧∀x H',J.yld i H x H'→g x σ H' fun σ2 H2=>tb {D with nx:=N,ct:=N,bk:=D.nx} σ2 H2)
section
variable {H H' :Hp} {D:Ends} {u:TS} {n:Nat}
def SameBut (D:Addr) (H H' :Hp):Prop:=∀b o,b≠D→H b=some o→H' b=some o
theorem SameBut.upd {D:Addr} {H:Hp} {o:HO}:SameBut D H (upd H D o):=fun b u n e=>by
 rw [upd_ne n]
 exact e
theorem SameBut.trans {D:Addr} {H1 H2 H3:Hp} (a:SameBut D H1 H2) (b:SameBut D H2 H3):SameBut D H1 H3:=fun c o n e=>b c o n (a c o n e)
theorem Paired.snoc {α β:Type} {F:α→β→Prop} {l:List α} {ys:List β} {d:α} {y:β} (p:Paired F l ys) (f:F d y):Paired F (l++ [d]) (ys++ [y]):=by
 induction p with
 | nil=>exact .cons f .nil
 | cons r _ ih=>exact .cons r ih
end
def vk (K:PySem.W.Frag):List V→Hp→VK→Prop:=fun xs H Q=>∃p ys,xs= [.ref p]∧(SqL K H p ys∨SqT K H p ys)∧Q (.int ys.length) H
def zO:List V→Hp→VK→Prop:=fun xs H Q=>∃z:Str,xs= [.str z]∧z.length≤sizeLine∧Q (.int z.length) H
def rLenD:List V→Hp→VK→Prop:=fun xs H Q=>∃a,∃kvs:List (Key×V),xs= [V.ref a]∧H a=some (.dK kvs)∧Q (.int kvs.length) H
def rAbs:List V→Hp→VK→Prop:=fun xs H Q=>∃i:Int,xs= [.int i]∧Q (.int (if i<0 then -i else i)) H
def rMax2:List V→Hp→VK→Prop:=fun xs H Q=>∃i j:Int,xs= [.int i, .int j]∧Q (.int (if j > i then j else i)) H
def rMin2:List V→Hp→VK→Prop:=fun xs H Q=>∃i j:Int,xs= [.int i, .int j]∧Q (.int (if j<i then j else i)) H
def rInt1:List V→Hp→VK→Prop:=fun xs H Q=>(∃i,xs= [.int i]∧Q (.int i) H)∨∃k:Bool,xs= [.bl k]∧Q (.int (if k then 1 else 0)) H
def rStr1:List V→Hp→VK→Prop:=fun xs H Q=>∃i:Int,xs= [.int i]∧i.natAbs.log2<1920∧Q (.str (toString i)) H
def rIntS:List V→Hp→VK→Prop:=fun xs H Q=>∃a n,xs= [.str a]∧PySem.intText? a=some n∧a.length≤640∧Q (.int n) H
def zM (K:PySem.W.Frag):List V→Hp→VK→Prop:=fun xs H Q=>∃p ys,xs= [.ref p]∧(SqL K H p ys∨SqT K H p ys)∧∀l,H l=none→Q (.ref l) (upd H l (.lst ys))
def rDictD:List V→Hp→VK→Prop:=fun xs H Q=>∃(a:Addr) (kvs:List (Key×V)),xs= [.ref a]∧Rd H a (.dK kvs)∧∀p,H p=none→Q (.ref p) (upd H p (.dK kvs))
def zN:List V→Hp→VK→Prop:=fun xs H Q=>∃(a:Addr) (kvs:List (Key×V)),xs= [.ref a]∧Rd H a (.dK kvs)∧∀p,H p=none→Q (.ref p) (upd H p (.lst (kvs.map fun kv=>kV kv.1)))
def sZ:List V→Hp→VK→Prop:=fun xs H Q=>∃(a:Addr) (kvs:List (Key×V)) (ks:List Int),xs= [.ref a]∧Rd H a (.dK kvs)∧kvs.map (·.1)=ks.map Sum.inl∧ks.length<64∧∀(ys:List Int) (p:Addr),ys.Perm ks→ys.Pairwise (· ≤ ·)→H p=none→Q (.ref p) (upd H p (.lst (ys.map V.int)))
def zR (neg:Bool):R2:=fun x y H Q=>∃i j:Str,x= .str i∧y= .str j∧Q (.bl (if neg then !(!(Builtin.Str.occurrences j i 0 j.length 1).isEmpty) else !(Builtin.Str.occurrences j i 0 j.length 1).isEmpty)) H
def rInSg (neg:Bool):R2:=fun x y H Q=>∃(c:Nat) (z:Str),x= .str ⟨#[c]⟩∧y= .str z∧Q (.bl (if neg then !decide (c∈z.cps.toList) else decide (c∈z.cps.toList))) H
def rIsN:R2:=fun x y H Q=>y= .non∧Q (.bl (decide (x= .non))) H
def rNotN:R2:=fun x y H Q=>y= .non∧Q (.bl (!decide (x= .non))) H
def rAddS:R2:=fun x y H Q=>∃i j:Str,x= .str i∧y= .str j∧i.length+j.length≤sizeLine∧Q (.str (i++j)) H
def rStarts:V→List V→Hp→VK→Prop:=fun x xs H Q=>∃a b,x= .str a∧xs= [.str b]∧Q (.bl (Txt.startswith a b)) H
section
variable {X:Cx}
theorem yk:CallR X (.builtin "len") (vk X.K):=call_len_seq
theorem yj:CallR X (.builtin "len") zO:=call_len_str
theorem cl_min2 (hc:X.calm=true):CallR X (.builtin "min") rMin2:=call_min2 hc
theorem yg:CallR X (.type "str") rStr1:=call_str_int
theorem yi:CallR X (.type "list") (zM X.K):=call_list_of
theorem DT:CallR X (.type "dict") rDictD:=call_dictD
theorem DQ (hc:X.calm=true):CallR X (.type "list") zN:=call_listD hc
theorem wd (hc:X.calm=true):CallR X (.builtin "sorted") sZ:=call_sortedDI hc
theorem C1:OpR X (compareOp .In) (zR false):=op_in_str
theorem vn:OpR X (compareOp .NotIn) (zR true):=op_notin_str
theorem Ak:OpR X (compareOp .In) (rInSg false):=op_in_sign
theorem tD:OpR X (compareOp .NotIn) (rInSg true):=op_notIn_sign
theorem o_isN:OpR X (compareOp .Is) rIsN:=op_isN
theorem o_notN:OpR X (compareOp .IsNot) rNotN:=op_notN
theorem Am:OpR X (binaryOp .Add) rAddS:=op_add_str
end
section
variable {x:V} {xs:List V} {i j:Int}

theorem sj {α β:Type} (f:α→β) (xs:List α) (i:Int):atI (xs.map f) i=(atI xs i).map f:=by
 unfold atI
 rw [List.length_map]
 cases ixN xs.length i with
 | none=>rfl
 | some j=>
  show (xs.map f)[j]? =(xs[j]?).map f
  rw [List.getElem?_map]
theorem atI_in {α:Type} {xs:List α} {i:Int} (d:α) (h0:0≤i) (h1:i<xs.length):atI xs i=some (xs.getD i.toNat d):=by
 unfold atI ixN
 rw [if_pos h0,if_pos h1]
 show xs[i.toNat]? =_
 have h2:i.toNat<xs.length:=by omega
 rw [List.getElem?_eq_getElem h2,List.getD_eq_getElem?_getD,List.getElem?_eq_getElem h2]
 rfl
theorem pick {α:Type} (xs:List α) (f:α→V) (i:Int) (h0:0≤i) (h1:i<xs.length):∃x,x∈xs∧atI (xs.map f) i=some (f x):=by
 have h2:i.toNat<xs.length:=by omega
 refine ⟨xs[i.toNat],List.getElem_mem h2, ?_⟩
 rw [sj]
 unfold atI ixN
 rw [if_pos h0,if_pos h1]
 show (xs[i.toNat]?).map f=_
 rw [List.getElem?_eq_getElem h2]
 rfl
end
def wU (K:PySem.W.Frag) (neg:Bool):R2:=fun x y H Q=>∃p q xs,x= .ref p∧y= .ref q∧SqL K H p xs∧SqL K H q []∧Q (.bl (if neg then !xs.isEmpty else xs.isEmpty)) H
section
variable {X:Cx}
theorem CZ (hu:X.A.units+64<cLine):OpR X (compareOp .Eq) (wU X.K false):=by
 intro pins s σ H x y v u Q I rx ry h
 obtain ⟨p,q,xs,rfl,rfl,h1,h2,k⟩:=h
 cases rx
 cases ry
 obtain ⟨its,r1,l1,_⟩:=I.list h1
 obtain ⟨its2,r2,l2,_⟩:=I.list h2
 cases r2
 have hu2:X.A.units<cLine:=by omega
 cases r1 with
 | nil=>exact SeqAt.RcAt.lists (e:=fun _=>true) l1.isList l2.isList rfl hu2 (fun j h _=>absurd h (by simp)) X.prog X.w X.xe _ ⟨.bl _,H,I,rfl,k⟩
 | cons a b=>exact SeqAt.RcAt.lists_lengths l1.isList l2.isList (by simp) hu2 X.prog X.w X.xe _ ⟨.bl _,H,I,rfl,k⟩
theorem CW (hu:X.A.units+64<cLine):OpR X (compareOp .NotEq) (wU X.K true):=by
 intro pins s σ H x y v u Q I rx ry h
 obtain ⟨p,q,xs,rfl,rfl,h1,h2,k⟩:=h
 cases rx
 cases ry
 obtain ⟨its,r1,l1,_⟩:=I.list h1
 obtain ⟨its2,r2,l2,_⟩:=I.list h2
 cases r2
 have hu2:X.A.units<cLine:=by omega
 cases r1 with
 | nil=>exact SeqAt.RcNeAt.lists (e:=fun _=>true) l1.isList l2.isList rfl hu2 (fun j h _=>absurd h (by simp)) X.prog X.w X.xe _ ⟨.bl _,H,I,rfl,k⟩
 | cons a b=>exact SeqAt.RcNeAt.lists_lengths l1.isList l2.isList (by simp) hu2 X.prog X.w X.xe _ ⟨.bl _,H,I,rfl,k⟩
end
def rRepS:R2:=fun x y H Q=>∃(z:Str) (i:Int),x= .str z∧y= .int i∧0≤i∧i≤1∧z.length≤1000∧Q (.str (if i=0 then Str.empty else z)) H
def rSidx:V→List V→Hp→VK→Prop:=fun x xs H Q=>∃(a b:Str) (k:Nat),x= .str a∧xs= [.str b]∧Txt.index0 a b=some k∧Q (.int k) H
section

end
end M

namespace RT
open PySem PySem.Spec PyProof.Rows L2
section

end
end RT
namespace M
open PySem PySem.Spec PyProof.Rows L2
def tJoinRev (K:PySem.W.Frag) (to te:TE):TE:=fun σ H Q=>to σ H fun x H1=>(∃a,x= .str a)∧te σ H1 fun y H2=>∃(a:Str) (p:Addr) (ys:List Str),x= .str a∧y= .ref p∧SqL K H2 p (ys.map V.str)∧(ys.map (·.length)).sum+ys.length*a.length≤16777216∧Q (.str (Txt.join a ys.reverse)) H2
section

end
def rNeStrs (K:PySem.W.Frag):R2:=fun x y H Q=>∃p q,∃ws:List Str,x= .ref p∧y= .ref q∧SqL K H p (ws.map V.str)∧SqL K H q (ws.map V.str)∧Q (.bl false) H
section
variable {K:PySem.W.Frag} {mg:Str→Option Value}
structure Dm (K:PySem.W.Frag) (C:Addr) (m qual:Str) (st:Stmt) (ps:List Str):Prop where
 ex:∃(f:Addr) (fd:FuncData),L2.Fun K m qual st f fd∧Cls K C∧Meth K C m f∧L2.Binds K fd ps []
structure Dmd (K:PySem.W.Frag) (C:Addr) (m qual:Str) (st:Stmt) (ps:List Str) (dvs:List V):Prop where
 ex:∃(f:Addr) (fd:FuncData),L2.FunD K m qual (defArgs st) (defBody st) (defScope st) dvs [] f fd∧Cls K C∧Meth K C m f∧∀j,j≤dvs.length→∃ds,Vals (dvs.drop j) ds∧L2.Binds K fd ps ds
structure Dk (K:PySem.W.Frag) (mg:Str→Option Value) (x:Str) (C:Addr) (qual:Str) (st:Stmt) (ps:List Str):Prop where
 ex:∃(f:Addr) (fd:FuncData),L2.Fun K "__init__" qual st f fd∧Mk K C f∧mg x=some (.ref C)∧L2.Binds K fd ps []
end
section

end
section
variable {X:Cx} {pos:Pos}
theorem vy {K:PySem.W.Frag} (hK:X.K=K:=by rfl):CallR X (.builtin "isinstance") (rIsi K):=hK ▸ call_isi
theorem m_lenS {K:PySem.W.Frag} (hK:X.K=K:=by rfl):CallR X (.builtin "len") (vk K):=hK ▸ yk
theorem m_ixL {K:PySem.W.Frag} (hK:X.K=K:=by rfl):IxR X (rIxL K):=hK ▸ ix_list
theorem m_ixT {K:PySem.W.Frag} (hK:X.K=K:=by rfl):IxR X (rIxT K):=hK ▸ ix_tup
theorem m_slL {K:PySem.W.Frag} (hK:X.K=K:=by rfl):SlR X (rSlL K):=hK ▸ sl_list
theorem m_inS {K:PySem.W.Frag} (hK:X.K=K:=by rfl):OpR X (compareOp .In) (rIn K false):=hK ▸ op_in_seq
theorem Dj {K:PySem.W.Frag} (hK:X.K=K:=by rfl):OpR X (compareOp .NotIn) (rIn K true):=hK ▸ op_notIn_seq
theorem m_neD {K:PySem.W.Frag} (hu:X.A.units+64<cLine) (hK:X.K=K:=by rfl):OpR X (compareOp .NotEq) (rNeD K):=hK ▸ op_neD hu
theorem m_eqD {K:PySem.W.Frag} (hu:X.A.units+64<cLine) (hK:X.K=K:=by rfl):OpR X (compareOp .Eq) (rEqD K):=hK ▸ op_eqD hu
theorem iS {K:PySem.W.Frag} {n:Nat} {es:List Expr} {k:Nat} {t:TGs} (hc:X.calm=true) (h:PGs X es t) (hn:(assignEach es X.env).length=n:=by rfl) (hst:(assignEach es X.env).findIdx? (·.1)=none:=by rfl) (hK:X.K=K:=by rfl):PG X (.Tuple es k pos) (gTup K n t):=hK ▸ pg_tup hc h hn hst
end
section

end
def rNeDE:R2:=fun x y H Q=>∃a b,∃ks:List (Key×V),x= .ref a∧y= .ref b∧H a=some (.dK ks)∧H b=some (.dK [])∧Q (.bl (!ks.isEmpty)) H
section
variable {X:Cx}
theorem m_catA {K:PySem.W.Frag} (hK:X.K=K:=by rfl):OpR X (binaryOp .Add) (rCatA K):=hK ▸ op_catA
end
theorem t_catA {K:PySem.W.Frag} {H:Hp} {Q:VK} {a b:Addr} {xs ys:List V} (h1:SqT K H a xs) (h2:SqT K H b ys) (hx:xs≠ []) (hy:ys≠ []) (hl:xs.length+ys.length≤sizeLine) (q:∀p,H p=none→Q (.ref p) (upd H p (.tup (xs++ys)))):rCatA K (.ref a) (.ref b) H Q:=
 ⟨a,b,xs,ys,rfl,rfl,h1,h2,hl,fun e=>absurd e hx,fun _ e=>absurd e hy,fun _ _ p hp=>q p hp⟩
end M

namespace A
open PySem PySem.Spec PyProof.Rows L2 NumText
open TL (tl)
theorem gq (z:Str):z.length=(tl z).length:=TL.len_tl z
theorem lA (x y:Str):tl (x++y)=tl x++tl y:=TL.tl_append x y
theorem vA (x y:Str):(x++y).length=x.length+y.length:=by rw [gq,lA,List.length_append,gq,gq]
theorem yV (z:Str) (lo hi:Option Int):tl (cutS z lo hi)=((tl z).drop (HT.sIx z.length 0 lo)).take (HT.sIx z.length z.length hi - HT.sIx z.length 0 lo):=rfl
theorem zz (n d:Nat) (i:Int) (h:0≤i):HT.sIx n d (some i)=min i.toNat n:=by
 show (if i<0 then _ else min i.toNat n)=_
 rw [if_neg (by omega)]
theorem tl_from (z:Str) (i:Int) (h:0≤i):tl (cutS z (some i) none)=(tl z).drop i.toNat:=by
 rw [yV,zz _ _ _ h,HT.sIx_none,gq]
 by_cases c:i.toNat≤(tl z).length
 ·rw [Nat.min_eq_left c,List.take_of_length_le (by rw [List.length_drop]; omega)]
 ·rw [Nat.min_eq_right (by omega),List.drop_of_length_le (by omega),List.drop_of_length_le (by omega),List.take_nil]
theorem tl_to (z:Str) (i:Int) (h:0≤i):tl (cutS z none (some i))=(tl z).take i.toNat:=by
 rw [yV,zz _ _ _ h,HT.sIx_none,gq]
 show ((tl z).drop 0).take (min i.toNat (tl z).length - 0)=_
 rw [List.drop_zero,Nat.sub_zero]
 by_cases c:i.toNat≤(tl z).length
 ·rw [Nat.min_eq_left c]
 ·rw [Nat.min_eq_right (by omega),List.take_of_length_le (by omega),List.take_of_length_le (by omega)]
def isDig (c:Nat):Bool:=decide (48≤c)&&decide (c≤57)
def figs (l:List Nat):List Nat:=if l.head? =some 45 then l.drop 1 else l
def val (l:List Nat):Int:=(digitsVal l:Nat)
def good (l:List Nat):Bool:=decide (1≤(figs l).length)&&decide ((figs l).length≤61)&&(figs l).all isDig
def numRd (l:List Nat):Option Int:=
 if good l=true then
  if (figs l).head? =some 48∧l≠ [48] then none
  else some (if l.head? =some 45 then 0 - val (figs l) else val (figs l))
 else none
def numV:V→V
 | .str z=>(numRd (tl z)).elim .non .int
 | _=> .non
theorem tR:∀ls:List (List Nat),TL.joinL [] ls=ls.flatten
 | []=>rfl
 | [x]=>by
  show x= [x].flatten
  simp
 | x::y::r=>by
  show x++([]++TL.joinL [] (y::r))=_
  rw [tR (y::r),List.nil_append]
  simp only [List.flatten_cons]
theorem wF (ws:List Str):tl (Txt.join "" ws)=(ws.map tl).flatten:=by
 rw [TL.join_eq,TL.tl_join,show tl "" = [] by decide+kernel,tR]
theorem AJ (ws:List Str):(Txt.join "" ws).length=(ws.map (·.length)).sum:=by
 rw [gq,wF,List.length_flatten,List.map_map]
 exact congrArg List.sum (List.map_congr_left fun x _=>(gq x).symm)
end A

namespace M
open PySem PySem.Spec PyProof.Rows L2
def kxO (cls:Value) (d:Option Addr) (a:Addr):HO:= .ext fun h=>∃(ob:Obj) (vs:Array Value),h.get? a=some ob∧Zc cls d ob∧ob.data= .fields vs
structure Away (X:Cx) (pins:List (Addr×Obj)) (a:Addr):Prop where
 old:X.s_0.heap.get? a=none
 loc:X.env.locals≠a
 cell:∀x c,X.env.cells.lookup x=some c→c≠a
 pin:∀p∈X.pn++pins,p.1≠a
section
variable {X:Cx} {pins:List (Addr×Obj)} {σ:L2.St} {H:Hp} {s:Shared} {a:Addr} {cls:Value} {d:Option Addr}
theorem Away.track {ob:Obj} {vs:Array Value} (w:Away X pins a) (I:Inv X pins σ H s) (e:s.heap.get? a=some ob) (z:Zc cls d ob) (hd:ob.data= .fields vs) (n:H a=none):Inv X pins σ (upd H a (kxO cls d a)) s:=by
 have old:∀{b o},X.s_0.heap.get? b=some o→upd H a (kxO cls d a) b=H b:=fun {b o} q=>upd_ne fun c=>by rw [c,w.old] at q; cases q
 have had:∀{b o},H b=some o→upd H a (kxO cls d a) b=some o:=fun {b o} q=>(upd_ne fun c=>by rw [c,n] at q; cases q).trans q
 refine {I with base:=?base,free:=?free,freeC:=?cells,pin:=?pin,hok:=?hok}
 case base=>exact {I.base with
  free:=fun b o q h hx=>(old q).trans (I.base.free b o q h hx)
  tups:=fun b xs q=>had (I.base.tups b xs q)
  frzs:=fun b o u q=>had (I.base.frzs b o u q)
  tbls:=fun b ps q=>(I.base.tbls b ps q).imp fun _ r=>had r}
 case free=>exact (upd_ne w.loc).trans I.free
 case cells=>exact fun x c q=>(upd_ne (w.cell x c q)).trans (I.freeC x c q)
 case pin=>exact fun p q=>⟨(I.pin p q).1,(upd_ne (w.pin p q)).trans (I.pin p q).2.1,(I.pin p q).2.2⟩
 case hok=>
  intro b o q
  by_cases c:b=a
  ·subst c
   rw [upd_same] at q
   cases q
   exact ⟨⟨ob,vs,e,z,hd⟩,⟨ob,e⟩,fun _ _ ⟨o,v,r,r'⟩ k=>⟨o,v,k o r,r'⟩⟩
  ·rw [upd_ne c] at q
   exact (I.hok b o q).stay (fun _ _ _ r=>r) (fun _ r=>had r) fun _ _ r=>had r
end
def wK (K:PySem.W.Frag) (c:Value) (i:Nat) (ts:TS) (Wout:WX) (D:Ends):WX:=fun cls d σ H=>
 ∃b,PySem.W.exmOne K cls c=some b∧
  (b=true→∀a,H a=none→ts {rt:=D.rt,nx:=fun σ' =>D.nx (σ'.set i none),bk:=fun σ' =>D.bk (σ'.set i none),ct:=fun σ' =>D.ct (σ'.set i none)} (σ.set i (some (.ref a))) (upd H a (kxO cls d a)))∧
  (b=false→Wout cls d σ H)
structure Ground (X:Cx) (pins:List (Addr×Obj)) (B:Heap) (σ:L2.St) (H:Hp) (a:Addr) (cls:Value) (d:Option Addr) (s:Shared):Prop where
 inv:Inv X pins σ H s
 fly:HandSPX.FlyingZ B (X.env::X.outer) a (Zc cls d) s.heap
 no:H a=none
 way:Away X pins a
 stays:∀h2,HandSPX.FlyingZ B (X.env::X.outer) a (Zc cls d) h2→s.heap.UpToSlots h2→Inv X pins σ H {s with heap:=h2}
section
variable {X:Cx} {pins:List (Addr×Obj)} {σ:L2.St} {H:Hp} {s:Shared} {a:Addr} {cls c:Value} {d:Option Addr} {x n:Str} {i:Nat} {body suite:List Stmt} {b₀:Stmt} {np pos pos' :Pos} {tb:WX→TS} {ts:TS} {Wout:WX}
theorem Inv.inSuite (I:Inv X pins σ H s) (a:Addr):Inv (X.suite a (X.pn++pins)) [] σ H s:=
 {ok:=I.ok.suite a _,os:=I.os,bare:=I.bare,base:=I.base,loc:=I.loc,cell:=I.cell,free:=I.free,freeC:=I.freeC,hok:=I.hok,len:=I.len,pin:=fun p q=>I.pin p (by rw [List.append_nil] at q; exact q)}
theorem Inv.offSuite {a:Addr} (I:Inv (X.suite a (X.pn++pins)) [] σ H s) (ok:X.Ok):Inv X pins σ H s:=
 {ok:=ok,os:=I.os,bare:=I.bare,base:=I.base,loc:=I.loc,cell:=I.cell,free:=I.free,freeC:=I.freeC,hok:=I.hok,len:=I.len,pin:=fun p q=>I.pin p (List.mem_append_left _ q)}
theorem xJ {f:Flow} {D:Ends} (ok:X.Ok) (hN:X.N.Nodup) (hi:X.N[i]? =some n) (hl:X.env.kindOf n=some .local)
  (h:SP (X.suite a (X.pn++pins)) [] {rt:=D.rt,nx:=fun σ' =>D.nx (σ'.set i none),bk:=fun σ' =>D.bk (σ'.set i none),ct:=fun σ' =>D.ct (σ'.set i none)} f s):
  wpAny (model X.prog X.w) X.A (do bindName X.env n .none; unbindBehindTheSuite X.env n pos') (fun _ s' =>SP X pins D f s') X.xe s:=by
 have go:∀{σ1:L2.St} {H1:Hp} {Q:Shared→Prop},Inv (X.suite a (X.pn++pins)) [] σ1 H1 s→(∀s',Inv X pins (σ1.set i none) H1 s'→Q s')→wpAny (model X.prog X.w) X.A (do bindName X.env n .none; unbindBehindTheSuite X.env n pos') (fun _ s' =>Q s') X.xe s:=
  fun J q=>gone_ok (Inv.offSuite J ok) hN hi hl q
 cases f with
 | ret u=>obtain ⟨v,σ1,H1,J,r,q⟩:=h; exact go J fun s' J' =>⟨v,_,_,J',r,q⟩
 | next=>obtain ⟨σ1,H1,J,q⟩:=h; exact go J fun s' J' =>⟨_,_,J',q⟩
 | brk=>obtain ⟨σ1,H1,J,q⟩:=h; exact go J fun s' J' =>⟨_,_,J',q⟩
 | cont=>obtain ⟨σ1,H1,J,q⟩:=h; exact go J fun s' J' =>⟨_,_,J',q⟩
theorem Ground.obj {B:Heap} (g:Ground X pins B σ H a cls d s):∃(ob:Obj) (vs:Array Value),s.heap.get? a=some ob∧Zc cls d ob∧ob.data= .fields vs:=by
 obtain ⟨ob,vs,e,z,h⟩:=g.fly.there
 exact ⟨ob,vs,e,z,h⟩
theorem BG {B:Heap} {D:Ends} (ok:X.Ok) (hs:X.stack=X.env::X.outer) (hf:X.env.frame=some X.env.locals) (hN:X.N.Nodup) (hi:X.N[i]? =some n) (hl:X.env.kindOf n=some .local) (hc:Names X x c)
  (hsu:PSs (X.suite a (X.pn++pins)) (b₀::suite) ts) (g:Ground X pins B σ H a cls d s) (hw:wK X.K c i ts Wout D cls d σ H)
  (out:Wout cls d σ H→∀h2,HandSPX.HeldZ B (X.env::X.outer) a (Zc cls d) X.env.locals h2→s.heap.UpToSlots h2→X.xe (.ref a) {s with heap:=h2}):
  wpAny (model X.prog X.w) X.A (handleBy (.ref a) X.env [.ExceptHandler (some (.Name x np)) (some n) (b₀::suite) pos']) (SP X pins D) X.xe s:=by
 obtain ⟨b,hm,yes,no⟩:=hw
 obtain ⟨ob,vs,e,z,hd⟩:=g.obj
 have ty:PySem.W.Looks (model X.prog X.w) s.heap (typeOf (.ref a)) cls:=fun _ _ _ _ k q=>wpAny_typeOf_ref (k _ _ e) (by rw [z.1]; exact q)
 have matches' :=PySem.W.exm_one (M:=model X.prog X.w) g.inv.kIn ty hm
 have name:∀{Q:Value→Shared→Prop} {E:Value→Shared→Prop},Q c s→wpAny (model X.prog X.w) (X.A.mark (some (.ref a))) (eval (.Name x np) X.env) Q E s:=fun {Q E} q=>by
  have J:=Inv.inSuite g.inv a
  obtain ⟨gl,db,m | ⟨m,bt,nn⟩⟩:=hc
  ·exact ld_glob (X:=X.suite a (X.pn++pins)) J gl m q db
  ·exact ld_blt (X:=X.suite a (X.pn++pins)) J gl m bt q nn db
 refine wpAny_handleBy_cons (codeAny_handlers_test (name (matches'.here ?_))) (by intro q; cases q)
 cases b with
 | false=>
  show wpAny _ X.A (handleBy (.ref a) X.env []) _ _ _
  refine wpAny_handleBy_nil ?_
  obtain ⟨_,_,_,ob',vs',T,oT,ts',e',_,hd',h1,_⟩:=id g.fly
  unfold PySem.passOn
  refine wpAny_bind (wpAny_field e' hd' h1 ?_)
  rw [if_neg (show¬((Value.ref T == Value.none)=true) from by simp)]
  have up:wpAny (model X.prog X.w) X.A (setFlight (.ref a) X.env.frame) (fun _ s4=>wpAny (model X.prog X.w) X.A (throw (.ref a):Sem Flow) (SP X pins D) X.xe s4) X.xe s:=by
   rw [hf]
   exact HandSPX.setFlight_upZ g.fly fun h4 held grew=>wpAny_throw (out (no rfl) h4 held grew)
  first
   | exact wpAny_bind (wpAny_pure (wpAny_bind up))
   | exact wpAny_bind up
 | true=>
  refine codeAny_handlers_suite_as (HandSPX.lands_againZ g.fly fun h4 fly4 grew=>?_)
  have J:=g.stays h4 fly4 grew
  obtain ⟨ob4,vs4,e4,z4,hd4⟩:=fly4.there
  have J2:=Inv.inSuite (g.way.track J e4 z4 hd4 g.no) a
  refine store_ok (X:=X.suite a (X.pn++pins)) (v:= .ref a) J2 hN hi (.inl hl) rfl (fun s5 J5=>?_) (.inr hl)
  exact wpAny_mono (hsu.run [] s5 _ _ _ J5 (yes rfl a g.no)) (fun f s6 sp=>xJ ok hN hi hl sp) fun _ _ z=>False.elim z
theorem vm (hs:X.stack=X.env::X.outer) (hf:X.env.frame=some X.env.locals) (hN:X.N.Nodup) (hi:X.N[i]? =some n) (hl:X.env.kindOf n=some .local) (hc:Names X x c) (tk:Takes X Wout) (hx:X.ex= [])
  (hb:∀(W:WX) (pn:List (Addr×Obj)) (xe:Value→Shared→Prop),Takes (X.tr pn xe) W→PassesOwn (model X.prog X.w) X.A X.env xe→PSs (X.tr pn xe) body (tb W))
  (hsu:∀(a:Addr) (pn:List (Addr×Obj)),PSs (X.suite a pn) (b₀::suite) ts):
  PS X (.Try body [.ExceptHandler (some (.Name x np)) (some n) (b₀::suite) pos'] [] [] pos) (fun D σ H=>tb (wK X.K c i ts Wout D) D σ H):=by
 refine ⟨fun pins s σ H D I h=>wpAny_Try_except ?_⟩
 have ok:=I.ok
 have fr:X.A.frames=some (X.env::X.outer):=by rw [←hs]; exact ok.frames
 let caught:Value→Shared→Prop:=fun e s1=>wpAny (model X.prog X.w) X.A (noteFrame e X.env) (fun _ s2=>wpAny (model X.prog X.w) X.A (setFlight e none) (fun _ s3=>
  wpAny (model X.prog X.w) X.A (handleBy e X.env [.ExceptHandler (some (.Name x np)) (some n) (b₀::suite) pos']) (SP X pins D) X.xe s3) X.xe s2) X.xe s1
 have tkB:Takes (X.tr (X.pn++pins) caught) (wK X.K c i ts Wout D):=by
  rintro u s' ⟨a,B,sI,pins',σ',H',cls,d,rfl,J',nb,up,sky,na,os,ag,hw⟩
  have J:Inv X pins σ' H' sI:=J'.ofTry ok
  have sky' :Sky B (X.env::X.outer) a (Zc cls d) X.env.locals s'.heap:=by rw [←hs]; exact sky
  show wpAny (model X.prog X.w) X.A (noteFrame (.ref a) X.env) _ _ _
  refine Sky.land Zc.steady fr hf sky' fun h3 fly3 up3=>?_
  have stay:∀h4,HandSPX.FlyingZ B (X.env::X.outer) a (Zc cls d) h4→h3.UpToSlots h4→Inv X pins σ' H' {s' with heap:=h4}:=fun h4 f4 u4=>J.landed nb f4.1 ((up.trans up3).trans u4) os ag
  have J3:Inv X pins σ' H' {s' with heap:=h3}:=stay h3 fly3 (Heap.UpToSlots.refl _)
  obtain ⟨ob,vs,e,z,hd⟩:=fly3.there
  have noFrame:a∉frs (X.env::X.outer):=fun q=>by
   obtain ⟨_,o,e',r⟩:=fly3.2.2.1.mem q
   rw [e] at e'
   cases e'
   exact r _ hd
  have gone:sI.heap.get? a=none:=by
   cases q:sI.heap.get? a with
   | none=>rfl
   | some o=>
    have r:=nb a o q (by show a∉frs X.stack; rw [hs]; exact noFrame)
    rw [fly3.2.1] at r
    cases r
  have way:Away X pins a:=by
   refine ⟨?_,fun q=>noFrame (List.mem_filterMap.mpr ⟨X.env,List.mem_cons_self,by rw [hf,q]⟩),fun y c' q r=>?_,fun p q r=>?_⟩
   ·cases q:X.s_0.heap.get? a with
    | none=>rfl
    | some o=>
     obtain ⟨o',r⟩:=J.base.there a o q (by rw [hx]; exact fun z=>nomatch z)
     rw [gone] at r
     cases r
   ·subst r
    obtain ⟨v,o,r,_⟩:=J.cell y _ q
    rw [gone] at r
    cases r
   ·have r' :=(J.pin p q).1
    rw [r,gone] at r'
    cases r'
  exact BG ok hs hf hN hi hl hc (hsu a (X.pn++pins)) ⟨J3,fly3,na,way,stay⟩ hw fun w h4 held u4=>
   tk _ _ ⟨a,B,sI,pins,σ',H',cls,d,rfl,J,nb,(up.trans up3).trans u4, .inr (.inr (by rw [hs]; exact held)),na,os,ag,w⟩
 refine wpAny_mono ((hb _ _ caught tkB PassesOwn.looking).run [] s σ H D (I.toTry _) h) (fun f s1 sp=>?_) fun _ _ q=>q
 cases f with
 | ret u=>obtain ⟨v,σ1,H1,J,r,q⟩:=sp; exact ⟨v,σ1,H1,J.ofTry ok,r,q⟩
 | next=>obtain ⟨σ1,H1,J,q⟩:=sp; exact wpAny_execs_nil ⟨σ1,H1,J.ofTry ok,q⟩
 | brk=>obtain ⟨σ1,H1,J,q⟩:=sp; exact ⟨σ1,H1,J.ofTry ok,q⟩
 | cont=>obtain ⟨σ1,H1,J,q⟩:=sp; exact ⟨σ1,H1,J.ofTry ok,q⟩
end
def XDict (H:Hp) (d:Option Addr):Prop:=d=none∨∃da fs,d=some da∧H da=some (.xd fs)
def rIsX (K:PySem.W.Frag):List V→Hp→VK→Prop:=fun xs H Q=>∃(a D:Addr) (d:Option Addr) (c:V) (cv:Value) (b:Bool),xs= [.ref a,c]∧H a=some (kxO (.ref D) d a)∧XDict H d∧L2.ExcC K D∧(∀u,RelV c u→u=cv)∧PySem.W.kitOne K (.ref D) cv=some b∧Q (.bl b) H
section
variable {X:Cx} {pins:List (Addr×Obj)} {σ:L2.St} {H:Hp} {s:Shared} {a C:Addr} {d:Option Addr}
theorem kx_obj {cls:Value} (I:Inv X pins σ H s) (h:H a=some (kxO cls d a)):∃(ob:Obj) (vs:Array Value),s.heap.get? a=some ob∧Zc cls d ob∧ob.data= .fields vs:=by
 have z:ObjOk X.prog X.w H s.heap a (.ext fun h=>∃(ob:Obj) (vs:Array Value),h.get? a=some ob∧Zc cls d ob∧ob.data= .fields vs):=I.hok a _ h
 exact z.1
theorem kx_inst (I:Inv X pins σ H s) (h:H a=some (kxO (.ref C) d a)) (hd:XDict H d):∃(ob:Obj) (od:Option Obj),PySem.W.InstAt s.heap a ob C od:=by
 obtain ⟨ob,vs,e,⟨z1,z2⟩,hf⟩:=kx_obj I h
 have no:PySem.W.notCls ob=true:=by unfold PySem.W.notCls; rw [hf]
 rcases hd with rfl | ⟨da,fs,rfl,hx⟩
 ·exact ⟨ob,none,e,z1,no,by rw [z2]; exact True.intro⟩
 ·obtain ⟨m,hns,_⟩:=(show ObjOk X.prog X.w H s.heap da (.xd fs) from I.hok da _ hx)
  obtain ⟨od,ho,_⟩:=lookIn_ns hns
  exact ⟨ob,some od,e,z1,no,by rw [z2]; exact ho⟩
theorem DW:CallR X (.builtin "isinstance") (rIsX X.K):=by
 intro pins s σ H xs us Q I r h
 obtain ⟨a,D,d,c,cv,b,rfl,ha,hd,T,hc,e,q⟩:=h
 match us,r with
 | [_,w], .cons rfl (.cons rw' .nil)=>
  obtain rfl:=hc _ rw'
  obtain ⟨ob,od,J⟩:=kx_inst I ha hd
  exact PySem.W.kia_one (PySem.W.kitx_exc (by have:=T.hd; unfold PySem.W.hasDictIn at this; cases q:PySem.W.clsIn X.K D with | none=>rw [q] at this; cases this | some _=>rfl) T.hg T.hk T.hs T.ha T.hn T.ht T.hm) I.kIn J e (fun z=>nomatch z) fun tk=>⟨.bl b,H,I.kept (t' :=tk) fun _ _ z=>z,rfl,q⟩
theorem m_isX {K:PySem.W.Frag} (hK:X.K=K:=by rfl):CallR X (.builtin "isinstance") (rIsX K):=hK ▸ DW
def tXk (K:PySem.W.Frag) (f:Str) (te:TE):TE:=fun σ H Q=>te σ H fun x H1=>∃(a C da:Addr) (fs:List (Str×V)) (v:V),x= .ref a∧H1 a=some (kxO (.ref C) (some da) a)∧L2.XfC K C∧PySem.W.findIn K (.ref C) f=some none∧H1 da=some (.xd fs)∧fs.lookup f=some v∧Q v H1
theorem pe_xk {e:Expr} {te:TE} {f:Str} {pos:Pos} {K:PySem.W.Frag} (he:PE X e te) (hK:X.K=K:=by rfl) (hb:attributeBase e f X.env (eval e X.env)=eval e X.env:=by rfl):PE X (.Attribute e f pos) (tXk K f te):=by
 subst hK
 refine ⟨fun pins s σ H Q I h=>attr_of hb (thn (he.run pins s σ H _ I h) fun u s1 hh=>?_)⟩
 obtain ⟨x,H1,J,rx,a,C,da,fs,v,rfl,ha,T,no,hx,l,q⟩:=hh
 obtain rfl:u=Value.ref a:=rx
 obtain ⟨ob,vs,e1,⟨z1,z2⟩,hf⟩:=kx_obj J ha
 obtain ⟨m,hns,rel⟩:=(show ObjOk X.prog X.w H1 s1.heap da (.xd fs) from J.hok da _ hx)
 obtain ⟨od,ho,hl⟩:=lookIn_ns hns
 obtain ⟨w,hw,rw'⟩:=RelO.some_of (v:=v) (o:=m f) (by rw [←l]; exact rel f)
 have inst:PySem.W.InstAt s1.heap a ob C (some od):=⟨e1,z1,by unfold PySem.W.notCls; rw [hf],by rw [z2]; exact ho⟩
 exact HandSPX.exc_get J.kIn inst T.ga T.gg T.exC (PySem.W.findObj_own T.hdC no rfl (by rw [hl,hw])) (handed_of rw') ⟨v,H1,J.tok _,rw',q⟩
end
def spXI (K:PySem.W.Frag) (f:Str):Sp:=fun vs H Q _=>∃(a C:Addr) (v:V),vs= [.ref a,v]∧H a=some (exo a C none)∧OexC K C∧PySem.W.findIn K (.ref C) f=some none∧∀dx,H dx=none→dx≠a→Q .non (upd (upd H dx (exd dx [(f,v)])) a (exo a C (some dx)))
section
variable {P:Program} {w:World} {K:PySem.W.Frag} {mg:Str→Option Value} {base:Heap}
theorem xi_ok {qual f1 p1:Str} {st:Stmt} {fI:Addr} {fd:FuncData} {k:Nat} (F:L2.Fun K "__init__" qual st fI fd) (S:FnScope ["self",p1] ["self",p1] (L2.defScope st))
  (hbody:∀(cdv:Value) (A:Around) (outer:List Env) (s:Shared) (H:Hp) (E:XK),Room k (A.deeper (envOfC qual (L2.defScope st) s.heap.objs.size fI cdv))→
   PSs (cxOf (L2.CX P w) P w K mg base ["self",p1] qual (L2.defScope st) fI cdv A outer s H E) (L2.defBody st) (tOst K f1 (tVar 0) (tVar 1))):FnOk P w K mg base (L2.CX P w) (k+1) fI fd ["self",p1] (spXI K f1):=
 F.okX S (fun _ _ _ _ h=>by obtain ⟨_,_,_,rfl,_⟩:=h; rfl) fun cdv A outer s H vs Q E hr h=>by
  obtain ⟨a,C,v,rfl,ha,T,no,q⟩:=h
  exact ⟨_,hbody cdv A outer s H E hr,⟨v,rfl, .ref a,rfl,a,C,rfl,T,no, .inl ⟨ha,fun dx hdx hne=>q dx hdx hne⟩⟩⟩
structure XiZ (P:Program) (w:World) (K:PySem.W.Frag) (mg:Str→Option Value) (base:Heap) (k:Nat) (x:Str) (C:Addr) (f:Str):Prop where
 T:OexC K C
 no:PySem.W.findIn K (.ref C) f=some none
 gC:mg x=some (.ref C)
 ex:∃(fI:Addr) (fd:FuncData) (ps:List Str),PySem.W.findIn K (.ref C) "__init__" =some (some (.ref fI))∧PySem.W.typeIn K (.ref fI)=some (.type "function")∧FnOk P w K mg base (L2.CX P w) k fI fd ps (spXI K f)∧Binds K fd ps []
end
section
variable {X:Cx} {x f:Str} {C:Addr} {e:Expr} {te:TE} {k:Nat} {p pos pos' :Pos} {W:WX}
def zb (K:PySem.W.Frag) (C:Addr) (f:Str) (W:WX) (te:TE):TS:=fun _ σ H=>tMkO C (spXI K f) [] (tCons te tNil) σ H fun cls d H' =>W cls d σ H'
theorem gS {P:Program} {w:World} {K:PySem.W.Frag} {mg:Str→Option Value} {base:Heap} (D:XiZ P w K mg base k x C f) (hc:X.calm=true) (tk:Takes X W) (hr:Room k' X.A) (hk:k+1≤k') (he:PE X e te) (hg:Gl X x)
  (hP:X.prog=P:=by rfl) (hw:X.w=w:=by rfl) (hK:X.K=K:=by rfl) (hm:X.mg=mg:=by rfl) (hb:X.base=base:=by rfl)
  (hdb:(x == ("__debug__" :Str))=false:=by decide) (hst:starEach [e] X.env=(false,eval e X.env)::starEach [] X.env:=by rfl):
  PS X (.Raise (some (.Call (.Name x p) [e] [] pos)) none pos') (zb K C f W te):=by
 subst hP hw hK hm hb
 obtain ⟨fI,fd,ps,iC,tI,F,bd⟩:=D.ex
 refine ps_raise hc tk (pmk_oex D.T iC tI F (hr.mono hk) bd .nil (fun _ _ _ _ _ _ _ z=>?_) hg D.gC (pa_cons he pa_nil (hs:=hst)) hdb hst (by rfl))
 obtain ⟨_,_,_,_,_,_,_,_,_,_,_,_,h⟩:=z
 exact h.elim
end
def Ai:Option Int→Value→Bool
 | some i,v=>v.isInt i
 | none, .none=>true
 | none,_=>false
theorem bZ {v:Value} (h:Ai none v=true):v= .none:=by
 cases v<;> first | rfl | cases h
theorem bK {i:Int} {v:Value} (h:Ai (some i) v=true):∃t,v= .int i t:=Value.isInt_shape h
def oddH:Option Int→Int
 | some i=>hashInt i
 | none=>reduceHash 0xFCA86420
theorem vl {prog:Program} {w:World} {A:Around} {E:Value→Shared→Prop} {s:Shared} {Q:Int→Shared→Prop} (h:Q (reduceHash 0xFCA86420) {s with toks:=s.toks+1}):wpAny (model prog w) A (PySem.pyHash .none) Q E s:=
 W.pyHash_slot (T:= "NoneType") rfl F.slot_NoneType_hash F.entry_NoneType_hash (F.args_NoneType_hash_1 _) (beq_builtin_none _) (.inl rfl) (wpAny_bind (wpAny_pure (wpAny_bind (wpAny_mkInt (wpAny_pure ⟨_,_,rfl,h⟩)))))
def kQ (prog:Program) (w:World):PySem.KeyKind prog w (Option Int) where
 is:=Ai
 hash:=oddH
 inj:=fun v a b ha hb=>by
  cases a with
  | none=>
   obtain rfl:=bZ ha
   cases b with
   | none=>rfl
   | some j=>obtain ⟨t,e⟩:=bK hb; cases e
  | some i=>
   obtain ⟨t,rfl⟩:=bK ha
   cases b with
   | none=>have e:=bZ hb; cases e
   | some j=>obtain ⟨u,e⟩:=bK hb; cases e; rfl
 byValue:=fun k v h=>by
  cases k with
  | none=>obtain rfl:=bZ h; rfl
  | some i=>obtain ⟨t,rfl⟩:=bK h; rfl
 pyHash:=fun {A E s k v Q} hv h=>by
  cases k with
  | none=>obtain rfl:=bZ hv; exact vl h
  | some i=>obtain ⟨t,rfl⟩:=bK hv; exact wpAny_pyHash_int h
 eqBool:=fun {A E s a b u v Q} hu hv h=>by
  cases a with
  | none=>
   obtain rfl:=bZ hu
   cases b with
   | none=>
    obtain rfl:=bZ hv
    exact SeqAt.EqAt.same .none _ _ _ _ (by rw [decide_eq_true rfl] at h; exact h)
   | some j=>
    obtain ⟨t,rfl⟩:=bK hv
    exact SeqAt.EqAt.none_int j t _ _ _ _ (by rw [decide_eq_false (fun e=>nomatch e)] at h; exact h)
  | some i=>
   obtain ⟨t,rfl⟩:=bK hu
   cases b with
   | none=>
    obtain rfl:=bZ hv
    exact SeqAt.EqAt.int_none i t _ _ _ _ (by rw [decide_eq_false (fun e=>nomatch e)] at h; exact h)
   | some j=>
    obtain ⟨t',rfl⟩:=bK hv
    have e:decide (some i=some j)=(i == j):=by
     by_cases c:i=j
     ·subst c; simp
     ·rw [decide_eq_false fun z=>c (Option.some.inj z)]
      exact (beq_eq_false_iff_ne.mpr c).symm
    rw [e] at h
    exact wpAny_eqBool_int h
 «strs» :=fun k x t v h=>by
  cases k with
  | none=>exact nomatch bZ h
  | some i=>obtain ⟨u,e⟩:=bK h; cases e
def uz (n:Nat) (a:Addr):HO:= .ext fun h=>((a == sysModules)=false∧n≤sizeLine)∧∃kvs:List (Option Int×Value),kvs.length=n∧∀(P:Program) (w:World),h.DictOf (kQ P w) a kvs
theorem Ah {P P' :Program} {w w' :World} {es:List DictEntry} {kvs:List (Option Int×Value)} (h:Pairs (kQ P w) es kvs):Pairs (kQ P' w') es kvs:=by
 induction h with
 | nil=>exact .nil
 | cons h1 h2 _ ih=>exact .cons h1 h2 ih
theorem oddO_ok {P:Program} {w:World} {H:Hp} {h:Heap} {n:Nat} {a:Addr} {kvs:List (Option Int×Value)} (h1:(a == sysModules)=false) (h2:n≤sizeLine) (h3:kvs.length=n) (hd:h.DictOf (kQ P w) a kvs):ObjOk P w H h a (uz n a):=by
 have all:∀(P:Program) (w:World),h.DictOf (kQ P w) a kvs:=fun P' w' =>by
  obtain ⟨o,es,ep,e1,e2,e3,e4,e5,e6⟩:=hd
  exact ⟨o,es,ep,e1,e2,e3,e4,Ah e5,e6⟩
 refine ⟨⟨⟨h1,h2⟩,kvs,h3,all⟩, ?_,fun g1 g2 hg k=>?_⟩
 ·obtain ⟨o,_,_,e,_⟩:=hd
  exact ⟨o,e⟩
 ·obtain ⟨z,kv,e,q⟩:=hg
  refine ⟨z,kv,e,fun P w=>?_⟩
  obtain ⟨o,es,ep,e1,r⟩:=q P w
  exact ⟨o,es,ep,k o e1,r⟩
theorem pH {K:Type} [DecidableEq K]:∀(more acc:List (K×Value)),((acc++more).map (·.1)).Nodup→merged acc more=acc++more
 | [],acc,_=>by rw [List.append_nil]; rfl
 | p::more,acc,nd=>by
  show merged (stored acc p.1 p.2) more=_
  have e:stored acc p.1 p.2=acc++ [p]:=by
   unfold stored
   rw [if_neg]
   intro c
   obtain ⟨q,hq,e⟩:=List.any_eq_true.mp c
   have e:=of_decide_eq_true e
   rw [List.map_append,List.nodup_append] at nd
   exact nd.2.2 q.1 (List.mem_map.mpr ⟨q,hq,rfl⟩) p.1 (by rw [List.map_cons]; exact List.mem_cons_self) e
  rw [e,pH more (acc++ [p]) (by rw [List.append_assoc]; exact nd),List.append_assoc]
  rfl
def kOd:Option Int→V
 | some i=> .int i
 | none=> .non
theorem kOd_is {k:Option Int} {u:Value} (r:RelV (kOd k) u):Ai k u=true:=by
 cases k with
 | none=>
  have e:u= .none:=r
  rw [e]; rfl
 | some i=>
  obtain ⟨t,rfl⟩:∃t,u= .int i t:=r
  show Value.isInt i (.int i t)=true
  simp [Value.isInt]
section
variable {X:Cx}
theorem tx {pins:List (Addr×Obj)} {σ:L2.St} {H:Hp} {s:Shared} (I:Inv X pins σ H s):∀{ps:List Addr} {kvs:List (Option Int×V)},Paired (fun p kv=>SqT X.K H p [kOd kv.1,kv.2]) ps kvs→
  ∃prs:List (Option Int×Value×Value),prs.map (·.1)=kvs.map (·.1)∧prs.length=ps.length∧∀(j:Nat) (q:Option Int×Value×Value),prs[j]? =some q→∃b:Addr,ps[j]? =some b∧IsTup s.heap b #[q.2.1,q.2.2]∧Ai q.1 q.2.1=true
 | _,_, .nil=>⟨[],rfl,rfl,fun j q e=>by simp at e⟩
 | _,_, .cons (a:=p) (b:=kv) h t=>by
  obtain ⟨prs,r,hl,hp⟩:=tx I t
  obtain ⟨its,rv,ht,_⟩:=I.tuple h
  obtain ⟨u,y,ei,ru,ry⟩:=vals2 rv
  subst ei
  refine ⟨(kv.1,u,y)::prs,by rw [List.map_cons,List.map_cons,r],by rw [List.length_cons,List.length_cons,hl],fun j q e=>?_⟩
  cases j with
  | zero=>
   have e' :(kv.1,u,y)=q:=Option.some.inj e
   subst e'
   exact ⟨p,rfl,ht,kOd_is ru⟩
  | succ j=>
   obtain ⟨b,e1,e2,e3⟩:=hp j q (by simpa using e)
   exact ⟨b,by simpa using e1,e2,e3⟩
theorem AE (hcalm:X.calm=true):CallR X (.type "dict") (fun xs H Q=>∃(a:Addr) (ps:List Addr) (kvs:List (Option Int×V)),xs= [.ref a]∧SqL X.K H a (ps.map V.ref)∧Paired (fun p kv=>SqT X.K H p [kOd kv.1,kv.2]) ps kvs∧(kvs.map (·.1)).Nodup∧
  ∀p,H p=none→Q (.ref p) (upd H p (uz kvs.length p))):=by
 intro pins s σ H xs us Q I r q
 obtain ⟨a,ps,kvs,ex,hq,hp,nd,q⟩:=q
 subst ex
 obtain ⟨u,eu,rx⟩:=vals1 r
 subst eu
 cases rx
 obtain ⟨its,rv,pl,hz⟩:=I.list hq
 have ei:=refs_at rv
 subst ei
 rw [List.length_map] at hz
 obtain ⟨prs,rel,hl,hpr⟩:=tx I hp
 obtain ⟨o,n,ho,hc,hd,hdat⟩:=pl
 have hm:(s.heap.objs.size == sysModules)=false:=beq_eq_false_iff_ne.mpr (Nat.ne_of_gt I.big)
 have kl:kvs.length=ps.length:=by have:=congrArg List.length rel; rw [List.length_map,List.length_map] at this; omega
 refine PySem.call_dict_pairs (knd:=kQ X.prog X.w) (kvs:=prs.map fun q=>(q.1,q.2.2)) (PairArg.list a (ps.map Value.ref).toArray (fun j=>ps.getD j 0) (prs.map fun q=>(q.2.1,q.2.2))) (I.ok.hd hcalm) ⟨⟨o,n,ho,hc,hd,hdat⟩, ?_,fun j k v e=>?_⟩ ⟨by simp,fun i key v e=>?_⟩ (by simp; omega) fun h' tk hd' k=>?_
 ·simp [hl]
 ·rw [List.getElem?_map] at e
  cases ej:prs[j]? with
  | none=>rw [ej] at e; cases e
  | some q=>
   rw [ej] at e
   cases e
   obtain ⟨b,e1,e2,e3⟩:=hpr j q ej
   have eb:ps.getD j 0=b:=by rw [List.getD_eq_getElem?_getD,e1]; rfl
   refine ⟨?_, ?_⟩
   ·show (ps.map Value.ref).toArray[j]? =some (.ref (ps.getD j 0))
    rw [eb]
    simp [e1]
   ·show PairAt s.heap (ps.getD j 0) q.2.1 q.2.2
    rw [eb]
    exact .inl e2
 ·have e:(prs.map fun q=>(q.2.1,q.2.2))[i]? =some (key,v):=e
  rw [List.getElem?_map] at e
  cases ej:prs[i]? with
  | none=>rw [ej] at e; cases e
  | some q=>
   rw [ej] at e
   cases e
   obtain ⟨b,e1,e2,e3⟩:=hpr i q ej
   exact ⟨q.1,by rw [List.getElem?_map,ej]; rfl,e3⟩
 ·have nd2:(((([]:List (Option Int×Value))++prs.map fun q=>(q.1,q.2.2))).map (·.1)).Nodup:=by
   rw [List.nil_append,List.map_map]
   show (prs.map (·.1)).Nodup
   rw [rel]
   exact nd
  rw [pH _ _ nd2,List.nil_append] at hd'
  exact ⟨.ref s.heap.objs.size,upd H s.heap.objs.size (uz kvs.length s.heap.objs.size),I.laid (t' :=tk) (fun b o e=>k b o (fun z=>(nomatch z)) e) (Nat.le_refl _) (oddO_ok hm (by omega) (by rw [List.length_map]; omega) hd'),rfl,q _ (I.hok.fresh (Nat.le_refl _))⟩
theorem Dl:CallR X (.builtin "len") (fun xs H Q=>∃(a:Addr) (n:Nat),xs= [.ref a]∧H a=some (uz n a)∧Q (.int (n:Int)) H):=by
 intro pins s σ H xs us Q I r q
 obtain ⟨a,n,ex,ho,q⟩:=q
 subst ex
 obtain ⟨u,eu,rx⟩:=vals1 r
 subst eu
 cases rx
 obtain ⟨⟨⟨h1,h2⟩,kvs,h3,hd⟩,_⟩:=I.hok a _ ho
 have hs:sizeLine<2 ^ 62:=by decide
 refine PySem.call_len_dict h1 (hd X.prog X.w) (by omega) ?_
 rw [h3]
 exact ⟨.int n,H,I.tok _,⟨_,rfl⟩,q⟩
end
end M

namespace Z
open PySem PySem.Spec PyProof.Rows L2

inductive D where
 | non | bl (b:Bool) | int (i:Int) | str (s:Str)
 | lst (xs:List D) | con (xs:List D) | tup (xs:List D) | dct (kvs:List (Key×D)) | obj (c:Str) (fs:List (Str×D)) | exc (c:Str) (fs:List (Str×D)) | cell (i:Nat)
 | odd (n:Nat)
inductive Vl where
 | d (x:D) | own (x:D) | loc (k:Nat)
structure Sto where
 nx:Nat
 get:Nat→Option D
structure SD where
 sl:List (Option Vl)
 st:Sto
inductive R (α:Type) where
 | ok (a:α) (s:SD) | ex (c:Str) (fs:List (Str×D)) (s:SD) | bad
def R.bind {α β:Type} (m:R α) (k:α→SD→R β):R β:=match m with
 | .ok a s=>k a s
 | .ex c fs s=> .ex c fs s
 | .bad=> .bad
abbrev XQ:=Str→List (Str×D)→SD→Prop
def Wp {α:Type} (m:R α) (Q:α→SD→Prop) (E:XQ):Prop:=match m with
 | .ok a s=>Q a s
 | .ex c fs s=>E c fs s
 | .bad=>False
theorem ae {α β:Type} {m:R α} {k:α→SD→R β} {Q:β→SD→Prop} {E:XQ}:Wp (m.bind k) Q E=Wp m (fun a s=>Wp (k a s) Q E) E:=by
 cases m<;> rfl
theorem D6 {α:Type} {a:α} {s:SD} {Q:α→SD→Prop} {E:XQ}:Wp (.ok a s) Q E=Q a s:=rfl
theorem B0 {α:Type} {Q:α→SD→Prop} {E:XQ}:Wp (.bad:R α) Q E=False:=rfl
theorem Wp.mono {α:Type} {m:R α} {Q Q' :α→SD→Prop} {E E' :XQ} (h:Wp m Q E) (hq:∀a s,Q a s→Q' a s) (he:∀c fs s,E c fs s→E' c fs s):Wp m Q' E' :=by
 cases m with
 | ok a s=>exact hq _ _ h
 | ex c fs s=>exact he _ _ _ h
 | bad=>exact h

structure Gc where
 K:PySem.W.Frag
 mg:Str→Option Value
structure Wr where
 γ:Nat→Addr
 n:Nat
 O:Addr→Prop
 H:Hp
def Kept (o:HO) (x:Option HO):Prop:=x=some o∨(∃kvs od,o= .dK kvs∧x=some (.frz od o))∨∃ps more,o= .tbl ps∧x=some (.tbl (ps++more))
def RdF (p:Wr) (a:Addr) (u:HO):Prop:=¬p.O a∧Rd p.H a u
def KL (K:PySem.W.Frag) (a:Addr) (xs:List V):Prop:=∃(o:Obj) (its:Array Value) (n:Nat),K.lookup a=some o∧o.cls= .type "list" ∧o.dict=none∧o.data= .seq its n∧its.size≤sizeLine∧Vals xs its.toList
mutual
def Rep (G:Gc) (p:Wr):D→V→Prop
 | .non,v=>v= .non
 | .bl b,v=>v= .bl b
 | .int i,v=>v= .int i
 | .str s,v=>v= .str s
 | .lst ds,v=>∃a vs,v= .ref a∧(¬p.O a∧p.H a=some (.lst vs))∧Reps G p ds vs
 | .con ds,v=>∃a vs,v= .ref a∧(RdF p a (.lst vs)∨KL G.K a vs)∧Reps G p ds vs
 | .tup ds,v=>∃a vs,v= .ref a∧(¬p.O a∧p.H a=some (.tup vs))∧Reps G p ds vs
 | .dct ds,v=>∃a vs,v= .ref a∧RdF p a (.dK vs)∧RepK G p ds vs
 | .obj c ds,v=>∃a C dx vs,v= .ref a∧¬p.O a∧G.mg c=some (.ref C)∧p.H a=some (.ins C dx vs)∧RepF G p ds vs
 | .exc c ds,v=>∃a C d,v= .ref a∧¬p.O a∧G.mg c=some (.ref C)∧p.H a=some (M.kxO (.ref C) d a)∧((ds= []∧d=none)∨∃da fvs,d=some da∧p.H da=some (.xd fvs)∧¬p.O da∧RepF G p ds fvs)
 | .odd n,v=>∃a,v= .ref a∧¬p.O a∧p.H a=some (M.uz n a)
 | .cell i,v=>i<p.n∧v= .ref (p.γ i)
def Reps (G:Gc) (p:Wr):List D→List V→Prop
 | [],vs=>vs= []
 | d::ds,vs=>∃v r,vs=v::r∧Rep G p d v∧Reps G p ds r
def RepK (G:Gc) (p:Wr):List (Key×D)→List (Key×V)→Prop
 | [],vs=>vs= []
 | (k,d)::ds,vs=>∃v r,vs=(k,v)::r∧Rep G p d v∧RepK G p ds r
def RepF (G:Gc) (p:Wr):List (Str×D)→List (Str×V)→Prop
 | [],vs=>vs= []
 | (k,d)::ds,vs=>∃v r,vs=(k,v)::r∧Rep G p d v∧RepF G p ds r
end
structure Wr.le (p q:Wr):Prop where
 γ:∀i,i<p.n→q.γ i=p.γ i
 n:p.n≤q.n
 H:∀b o,¬p.O b→p.H b=some o→Kept o (q.H b)∧¬q.O b
theorem Wr.le.refl (p:Wr):p.le p:=⟨fun _ _=>rfl,Nat.le_refl _,fun _ _ h e=>⟨.inl e,h⟩⟩
theorem Kept.trans {o:HO} {y:Option HO} {x:HO} (a:Kept o (some x)) (b:Kept x y):Kept o y:=by
 rcases a with a | ⟨kvs,od,rfl,a⟩ | ⟨ps,more,rfl,a⟩
 ·cases a; exact b
 ·cases a
  rcases b with b | ⟨_,_,b,_⟩ | ⟨_,_,b,_⟩
  ·exact .inr (.inl ⟨kvs,od,rfl,b⟩)
  ·cases b
  ·cases b
 ·cases a
  rcases b with b | ⟨_,_,b,_⟩ | ⟨_,m2,b,b2⟩
  ·exact .inr (.inr ⟨ps,more,rfl,b⟩)
  ·cases b
  ·cases b
   exact .inr (.inr ⟨ps,more++m2,rfl,by rw [b2,Array.append_assoc]⟩)
theorem Wr.le.trans {p q r:Wr} (a:p.le q) (b:q.le r):p.le r:=⟨fun i h=>(b.γ i (Nat.lt_of_lt_of_le h a.n)).trans (a.γ i h),Nat.le_trans a.n b.n,fun c o h e=>by
 obtain ⟨k,h1⟩:=a.H c o h e
 have:∃x,q.H c=some x:=by rcases k with k | ⟨_,_,_,k⟩ | ⟨_,_,_,k⟩<;> exact ⟨_,k⟩
 obtain ⟨x,ex⟩:=this
 obtain ⟨k2,h2⟩:=b.H c x h1 ex
 rw [ex] at k
 exact ⟨k.trans k2,h2⟩⟩
theorem Wr.le.x {p q:Wr} (l:p.le q) {a:Addr} {o:HO} (n:¬p.O a) (h:p.H a=some o) (hd:∀kvs,o≠ .dK kvs) (ht:∀ps,o≠ .tbl ps):¬q.O a∧q.H a=some o:=by
 obtain ⟨k,n'⟩:=l.H _ _ n h
 rcases k with k | ⟨kvs,_,k,_⟩ | ⟨ps,_,k,_⟩
 ·exact ⟨n',k⟩
 ·exact (hd kvs k).elim
 ·exact (ht ps k).elim
theorem Wr.le.rd {p q:Wr} (l:p.le q) {a:Addr} {u:HO} (h:RdF p a u) (hu:∀ps,u≠ .tbl ps):RdF q a u:=by
 obtain ⟨n,h | ⟨o,h⟩⟩:=h
 ·obtain ⟨k,n'⟩:=l.H _ _ n h
  rcases k with k | ⟨_,od,_,k⟩ | ⟨ps,_,k,_⟩
  ·exact ⟨n', .inl k⟩
  ·exact ⟨n', .inr ⟨od,k⟩⟩
  ·exact (hu ps k).elim
 ·obtain ⟨n',k⟩:=l.x n h (fun _ z=>nomatch z) (fun _ z=>nomatch z)
  exact ⟨n', .inr ⟨o,k⟩⟩
structure Wr.tr (p q:Wr):Prop where
 γ:∀i,i<p.n→q.γ i=p.γ i
 n:p.n≤q.n
 L:∀b vs,¬p.O b→p.H b=some (.lst vs)→¬q.O b∧q.H b=some (.lst vs)
 T:∀b vs,¬p.O b→p.H b=some (.tup vs)→¬q.O b∧q.H b=some (.tup vs)
 I:∀b C dx vs,¬p.O b→p.H b=some (.ins C dx vs)→¬q.O b∧q.H b=some (.ins C dx vs)
 X:∀b c d,¬p.O b→p.H b=some (M.kxO c d b)→¬q.O b∧q.H b=some (M.kxO c d b)
 Y:∀b vs,¬p.O b→p.H b=some (.xd vs)→¬q.O b∧q.H b=some (.xd vs)
 C:∀b vs,RdF p b (.lst vs)→RdF q b (.lst vs)
 K:∀b vs,RdF p b (.dK vs)→RdF q b (.dK vs)
 Z:∀b n,¬p.O b→p.H b=some (M.uz n b)→¬q.O b∧q.H b=some (M.uz n b)
theorem kx_dK {c:Value} {d:Option Addr} {a:Addr} {kvs:List (Key×V)} (z:M.kxO c d a= .dK kvs):False:=by
 unfold M.kxO at z
 cases z
theorem kx_tb {c:Value} {d:Option Addr} {a:Addr} {ps:Array Value} (z:M.kxO c d a= .tbl ps):False:=by
 unfold M.kxO at z
 cases z
theorem odd_dK {n:Nat} {a:Addr} {kvs:List (Key×V)} (z:M.uz n a= .dK kvs):False:=by
 unfold M.uz at z
 cases z
theorem odd_tb {n:Nat} {a:Addr} {ps:Array Value} (z:M.uz n a= .tbl ps):False:=by
 unfold M.uz at z
 cases z
theorem Wr.le.tr {p q:Wr} (l:p.le q):p.tr q:=⟨l.γ,l.n,fun b _ n h=>l.x n h (fun _ z=>nomatch z) (fun _ z=>nomatch z),fun b _ n h=>l.x n h (fun _ z=>nomatch z) (fun _ z=>nomatch z),fun b _ _ _ n h=>l.x n h (fun _ z=>nomatch z) (fun _ z=>nomatch z),fun b _ _ n h=>l.x n h (fun _ z=>kx_dK z) (fun _ z=>kx_tb z),fun b _ n h=>l.x n h (fun _ z=>nomatch z) (fun _ z=>nomatch z),fun _ _ h=>l.rd h (fun _ z=>nomatch z),fun _ _ h=>l.rd h (fun _ z=>nomatch z),fun b _ n h=>l.x n h (fun _ z=>odd_dK z) (fun _ z=>odd_tb z)⟩
def TabZ (p:Wr) (P:Addr) (n:Str):Prop:=∃ps:Array Value,(¬p.O P∧p.H P=some (.tbl ps))∧TriplesOk ps.toList∧∀(pos:Pos) (cv:Value),codeAmong pos ps.toList=some cv→∃c,cv= .ref c∧¬p.O c∧p.H c=some (LamX.CodeO c n)
theorem TabZ.of {p q:Wr} {P:Addr} {n:Str} (t:TabZ p P n) (k:∀b o,¬p.O b→p.H b=some o→(∀kvs,o≠ .dK kvs)→¬q.O b∧q.H b=some o):TabZ q P n:=by
 obtain ⟨ps,⟨h1,h2⟩,h3,h4⟩:=t
 refine ⟨ps,k _ _ h1 h2 (fun _ z=>nomatch z),h3,fun pos cv e=>?_⟩
 obtain ⟨c,e1,e2,e3⟩:=h4 pos cv e
 exact ⟨c,e1,k _ _ e2 e3 (fun _ z=>by unfold LamX.CodeO at z; cases z)⟩
def lamT:List (Addr×Str):= []
mutual
theorem Rep.go {G:Gc} {p q:Wr} (l:p.tr q):∀{d:D} {v:V},Rep G p d v→Rep G q d v
 | .non,_,h=>h
 | .bl _,_,h=>h
 | .int _,_,h=>h
 | .str _,_,h=>h
 | .lst _,_,h=>let ⟨a,vs,e,r,t⟩:=h; ⟨a,vs,e,l.L _ _ r.1 r.2,Reps.go l t⟩
 | .con _,_,h=>let ⟨a,vs,e,r,t⟩:=h; ⟨a,vs,e,r.imp (l.C _ _) id,Reps.go l t⟩
 | .tup _,_,h=>let ⟨a,vs,e,r,t⟩:=h; ⟨a,vs,e,l.T _ _ r.1 r.2,Reps.go l t⟩
 | .dct _,_,h=>let ⟨a,vs,e,r,t⟩:=h; ⟨a,vs,e,l.K _ _ r,RepK.go l t⟩
 | .obj _ _,_,h=>let ⟨a,C,dx,vs,e,n,m,r,t⟩:=h; ⟨a,C,dx,vs,e,(l.I _ _ _ _ n r).1,m,(l.I _ _ _ _ n r).2,RepF.go l t⟩
 | .exc _ _,_,h=>let ⟨a,C,d,e,n,m,r,t⟩:=h; ⟨a,C,d,e,(l.X _ _ _ n r).1,m,(l.X _ _ _ n r).2,t.imp id fun ⟨da,fvs,e1,e2,e3,e4⟩=>⟨da,fvs,e1,(l.Y _ _ e3 e2).2,(l.Y _ _ e3 e2).1,RepF.go l e4⟩⟩
 | .odd _,_,h=>let ⟨a,e,n,r⟩:=h; ⟨a,e,(l.Z _ _ n r).1,(l.Z _ _ n r).2⟩
 | .cell i,_,h=>⟨Nat.lt_of_lt_of_le h.1 l.n,by rw [l.γ i h.1]; exact h.2⟩
theorem Reps.go {G:Gc} {p q:Wr} (l:p.tr q):∀{d:List D} {v:List V},Reps G p d v→Reps G q d v
 | [],_,h=>h
 | _::_,_,h=>let ⟨v,r,e,h1,h2⟩:=h; ⟨v,r,e,Rep.go l h1,Reps.go l h2⟩
theorem RepK.go {G:Gc} {p q:Wr} (l:p.tr q):∀{d:List (Key×D)} {v:List (Key×V)},RepK G p d v→RepK G q d v
 | [],_,h=>h
 | (_,_)::_,_,h=>let ⟨v,r,e,h1,h2⟩:=h; ⟨v,r,e,Rep.go l h1,RepK.go l h2⟩
theorem RepF.go {G:Gc} {p q:Wr} (l:p.tr q):∀{d:List (Str×D)} {v:List (Str×V)},RepF G p d v→RepF G q d v
 | [],_,h=>h
 | (_,_)::_,_,h=>let ⟨v,r,e,h1,h2⟩:=h; ⟨v,r,e,Rep.go l h1,RepF.go l h2⟩
end
theorem Rep.mono {G:Gc} {p q:Wr} (l:p.le q) {d:D} {v:V} (h:Rep G p d v):Rep G q d v:=h.go l.tr
theorem Reps.mono {G:Gc} {p q:Wr} (l:p.le q) {d:List D} {v:List V} (h:Reps G p d v):Reps G q d v:=h.go l.tr
theorem RepK.mono {G:Gc} {p q:Wr} (l:p.le q) {d:List (Key×D)} {v:List (Key×V)} (h:RepK G p d v):RepK G q d v:=h.go l.tr
theorem RepF.mono {G:Gc} {p q:Wr} (l:p.le q) {d:List (Str×D)} {v:List (Str×V)} (h:RepF G p d v):RepF G q d v:=h.go l.tr
section
variable {G:Gc} {p:Wr}
theorem Reps.len:∀{ds:List D} {vs:List V},Reps G p ds vs→vs.length=ds.length
 | [],_,h=>by rw [show _= [] from h]; rfl
 | _::_,_,h=>by obtain ⟨v,r,rfl,_,h2⟩:=h; simp [Reps.len h2]
theorem Reps.get:∀{ds:List D} {vs:List V} {i:Nat} {d:D},Reps G p ds vs→ds[i]? =some d→∃v,vs[i]? =some v∧Rep G p d v
 | [],_,_,_,_,e=>by simp at e
 | _::_,_,0,_,h,e=>by
  obtain ⟨v,r,rfl,h1,_⟩:=h
  simp only [List.getElem?_cons_zero,Option.some.injEq] at e
  subst e
  exact ⟨v,rfl,h1⟩
 | _::_,_,i+1,_,h,e=>by
  obtain ⟨v,r,rfl,_,h2⟩:=h
  obtain ⟨u,e2,h3⟩:=Reps.get (i:=i) h2 (by simpa using e)
  exact ⟨u,by simpa using e2,h3⟩
theorem Reps.of:∀{ds:List D} {vs:List V},vs.length=ds.length→(∀(i:Nat) (d:D) (v:V),ds[i]? =some d→vs[i]? =some v→Rep G p d v)→Reps G p ds vs
 | [],vs,l,_=>List.eq_nil_of_length_eq_zero l
 | d::ds,[],l,_=>by simp at l
 | d::ds,v::vs,l,h=>⟨v,vs,rfl,h 0 d v rfl rfl,Reps.of (by simpa using l) fun i d v e1 e2=>h (i+1) d v (by simpa using e1) (by simpa using e2)⟩
theorem Reps.at {ds:List D} {vs:List V} (h:Reps G p ds vs) {i:Nat} {d:D} {v:V} (e1:ds[i]? =some d) (e2:vs[i]? =some v):Rep G p d v:=by
 obtain ⟨u,e3,r⟩:=h.get e1
 rw [e2] at e3; cases e3; exact r
theorem Reps.none {ds:List D} {vs:List V} {i:Nat} (h:Reps G p ds vs) (e:ds[i]? =none):vs[i]? =none:=by
 rw [List.getElem?_eq_none_iff] at e ⊢
 rw [h.len]; exact e
theorem Reps.append {ds es:List D} {vs us:List V} (h:Reps G p ds vs) (g:Reps G p es us):Reps G p (ds++es) (vs++us):=by
 refine .of (by simp [h.len,g.len]) fun i d v e1 e2=>?_
 by_cases c:i<ds.length
 ·rw [List.getElem?_append_left c] at e1
  rw [List.getElem?_append_left (by rw [h.len]; exact c)] at e2
  exact h.at e1 e2
 ·rw [List.getElem?_append_right (by omega)] at e1
  rw [List.getElem?_append_right (by rw [h.len]; omega),h.len] at e2
  exact g.at e1 e2
theorem Reps.one {d:D} {v:V} (h:Rep G p d v):Reps G p [d] [v]:=⟨v,[],rfl,h,rfl⟩
theorem Reps.set {ds:List D} {vs:List V} (h:Reps G p ds vs) {d:D} {v:V} (g:Rep G p d v) (i:Nat):Reps G p (ds.set i d) (vs.set i v):=by
 refine .of (by simp [h.len]) fun j e u e1 e2=>?_
 by_cases c:i=j
 ·subst c
  have hl:i<ds.length:=by
   have:=List.getElem?_eq_some_iff.mp e1
   obtain ⟨a,_⟩:=this
   simpa using a
  rw [List.getElem?_set_self hl] at e1
  rw [List.getElem?_set_self (by rw [h.len]; exact hl)] at e2
  cases e1; cases e2; exact g
 ·rw [List.getElem?_set_ne c] at e1 e2
  exact h.at e1 e2
theorem Reps.take {ds:List D} {vs:List V} (h:Reps G p ds vs) (n:Nat):Reps G p (ds.take n) (vs.take n):=by
 refine .of (by simp [h.len]) fun i d v e1 e2=>?_
 rw [List.getElem?_take] at e1 e2
 split at e1
 ·rename_i c; rw [if_pos c] at e2; exact h.at e1 e2
 ·cases e1
theorem Reps.drop {ds:List D} {vs:List V} (h:Reps G p ds vs) (n:Nat):Reps G p (ds.drop n) (vs.drop n):=by
 refine .of (by simp [h.len]) fun i d v e1 e2=>?_
 rw [List.getElem?_drop] at e1 e2
 exact h.at e1 e2
theorem Reps.reverse {ds:List D} {vs:List V} (h:Reps G p ds vs):Reps G p ds.reverse vs.reverse:=by
 refine .of (by simp [h.len]) fun i d v e1 e2=>?_
 have c:i<ds.length:=by
  obtain ⟨a,_⟩:=List.getElem?_eq_some_iff.mp e1
  simpa using a
 rw [List.getElem?_reverse c] at e1
 rw [List.getElem?_reverse (by rw [h.len]; exact c),h.len] at e2
 exact h.at e1 e2
theorem RepK.keys:∀{ds:List (Key×D)} {vs:List (Key×V)},RepK G p ds vs→vs.map (·.1)=ds.map (·.1)
 | [],_,h=>by rw [show _= [] from h]; rfl
 | (k,_)::_,_,h=>by obtain ⟨v,r,rfl,_,h2⟩:=h; simp [RepK.keys h2]
theorem RepK.vals:∀{ds:List (Key×D)} {vs:List (Key×V)},RepK G p ds vs→Reps G p (ds.map (·.2)) (vs.map (·.2))
 | [],_,h=>by rw [show _= [] from h]; exact rfl
 | (k,_)::_,_,h=>by obtain ⟨v,r,rfl,h1,h2⟩:=h; exact ⟨v,r.map (·.2),rfl,h1,RepK.vals h2⟩
theorem RepK.of:∀{ds:List (Key×D)} {vs:List (Key×V)},vs.map (·.1)=ds.map (·.1)→Reps G p (ds.map (·.2)) (vs.map (·.2))→RepK G p ds vs
 | [],vs,e,_=>by cases vs with
  | nil=>rfl
  | cons a r=>simp at e
 | (k,d)::ds,[],e,_=>by simp at e
 | (k,d)::ds,(k',v)::vs,e,h=>by
  simp only [List.map_cons,List.cons.injEq] at e
  obtain ⟨rfl,e⟩:=e
  obtain ⟨u,r,e2,h1,h2⟩:=h
  simp only [List.map_cons,List.cons.injEq] at e2
  obtain ⟨rfl,rfl⟩:=e2
  exact ⟨v,vs,rfl,h1,RepK.of e h2⟩
theorem RepK.len {ds:List (Key×D)} {vs:List (Key×V)} (h:RepK G p ds vs):vs.length=ds.length:=by
 have:=congrArg List.length h.keys
 simpa using this
end
def fS (kvs:List (Key×D)) (k:Key):Option D:=(kvs.find? fun kv=>decide (kv.1=k)).map (·.2)
def jt (kvs:List (Key×D)) (k:Key) (v:D):List (Key×D):=
 if (kvs.any fun kv=>decide (kv.1=k))=true then kvs.map (fun kv=>if kv.1=k then (kv.1,v) else kv) else kvs++ [(k,v)]
def ddrop (kvs:List (Key×D)) (k:Key):List (Key×D):=kvs.filter fun kv=>decide (kv.1≠k)
def dI (fs:List (Str×D)) (f:Str):Option D:=(fs.find? fun kv=>decide (kv.1=f)).map (·.2)
def hU (f:Str) (v:D):List (Str×D)→List (Str×D)
 | []=> [(f,v)]
 | (g,x)::r=>if g=f then (g,v)::r else (g,x)::hU f v r
section
variable {G:Gc} {p:Wr}
theorem RepK.val {k:Key}:∀{ds:List (Key×D)} {vs:List (Key×V)},RepK G p ds vs→(∀d,fS ds k=some d→∃v,valV vs k=some v∧Rep G p d v)∧(fS ds k=none→valV vs k=none)
 | [],_,h=>by
  rw [show _= [] from h]
  exact ⟨fun d e=>(nomatch e),fun _=>rfl⟩
 | (k',d')::ds,_,h=>by
  obtain ⟨v,r,rfl,h1,h2⟩:=h
  by_cases c:k' =k
  ·have e:fS ((k',d')::ds) k=some d' :=by unfold fS; rw [List.find?_cons_of_pos (by simp [c])]; rfl
   rw [e]
   refine ⟨fun d q=>?_,fun q=>(nomatch q)⟩
   cases q
   exact ⟨v,valV_pos c,h1⟩
  ·have e:fS ((k',d')::ds) k=fS ds k:=by unfold fS; rw [List.find?_cons_of_neg (by simp [c])]
   rw [e,valV_neg c]
   exact RepK.val h2
theorem RepK.any {k:Key}:∀{ds:List (Key×D)} {vs:List (Key×V)},RepK G p ds vs→(vs.any fun kv=>decide (kv.1=k))=ds.any fun kv=>decide (kv.1=k)
 | [],_,h=>by rw [show _= [] from h]; rfl
 | (k',d')::ds,_,h=>by
  obtain ⟨v,r,rfl,h1,h2⟩:=h
  rw [List.any_cons,List.any_cons,RepK.any h2]
theorem RepK.map {k:Key} {d:D} {v:V} (g:Rep G p d v):∀{ds:List (Key×D)} {vs:List (Key×V)},RepK G p ds vs→RepK G p (ds.map fun kv=>if kv.1=k then (kv.1,d) else kv) (vs.map fun kv=>if kv.1=k then (kv.1,v) else kv)
 | [],_,h=>by rw [show _= [] from h]; exact rfl
 | (k',d')::ds,_,h=>by
  obtain ⟨u,r,rfl,h1,h2⟩:=h
  have ih:=RepK.map (k:=k) g h2
  rw [List.map_cons,List.map_cons]
  by_cases c:k' =k
  ·rw [if_pos c,if_pos c]; exact ⟨v,_,rfl,g,ih⟩
  ·rw [if_neg c,if_neg c]; exact ⟨u,_,rfl,h1,ih⟩
theorem RepK.snoc {k:Key} {d:D} {v:V} (g:Rep G p d v):∀{ds:List (Key×D)} {vs:List (Key×V)},RepK G p ds vs→RepK G p (ds++ [(k,d)]) (vs++ [(k,v)])
 | [],_,h=>by rw [show _= [] from h]; exact ⟨v,[],rfl,g,rfl⟩
 | (k',d')::ds,_,h=>by
  obtain ⟨u,r,rfl,h1,h2⟩:=h
  exact ⟨u,_,rfl,h1,RepK.snoc g h2⟩
theorem RepK.put {k:Key} {d:D} {v:V} {ds:List (Key×D)} {vs:List (Key×V)} (h:RepK G p ds vs) (g:Rep G p d v):RepK G p (jt ds k d) (putK vs k v):=by
 unfold jt putK
 rw [h.any]
 split
 ·exact RepK.map g h
 ·exact RepK.snoc g h
theorem RepK.drop {k:Key}:∀{ds:List (Key×D)} {vs:List (Key×V)},RepK G p ds vs→RepK G p (ddrop ds k) (dropK vs k)
 | [],_,h=>by rw [show _= [] from h]; exact rfl
 | (k',d')::ds,_,h=>by
  obtain ⟨u,r,rfl,h1,h2⟩:=h
  have ih:=RepK.drop (k:=k) h2
  unfold ddrop dropK at ih ⊢
  by_cases c:k' =k
  ·rw [List.filter_cons_of_neg (by simp [c]),List.filter_cons_of_neg (by simp [c])]; exact ih
  ·rw [List.filter_cons_of_pos (by simp [c]),List.filter_cons_of_pos (by simp [c])]; exact ⟨u,_,rfl,h1,ih⟩
theorem RepF.val {k:Str}:∀{ds:List (Str×D)} {vs:List (Str×V)},RepF G p ds vs→(∀d,dI ds k=some d→∃v,vs.lookup k=some v∧Rep G p d v)∧(dI ds k=none→vs.lookup k=none)
 | [],_,h=>by
  rw [show _= [] from h]
  exact ⟨fun d e=>(nomatch e),fun _=>rfl⟩
 | (k',d')::ds,_,h=>by
  obtain ⟨v,r,rfl,h1,h2⟩:=h
  by_cases c:k' =k
  ·have e:dI ((k',d')::ds) k=some d' :=by unfold dI; rw [List.find?_cons_of_pos (by simp [c])]; rfl
   rw [e]
   refine ⟨fun d q=>?_,fun q=>(nomatch q)⟩
   cases q
   exact ⟨v,by simp [List.lookup,c],h1⟩
  ·have e:dI ((k',d')::ds) k=dI ds k:=by unfold dI; rw [List.find?_cons_of_neg (by simp [c])]
   have e2:List.lookup k ((k',v)::r)=List.lookup k r:=by
    have:(k == k')=false:=by simpa using fun q=>c q.symm
    simp [List.lookup,this]
   rw [e,e2]
   exact RepF.val h2
theorem RepF.put {f:Str} {d:D} {v:V} (g:Rep G p d v):∀{ds:List (Str×D)} {vs:List (Str×V)},RepF G p ds vs→RepF G p (hU f d ds) (putF f v vs)
 | [],_,h=>by rw [show _= [] from h]; exact ⟨v,[],rfl,g,rfl⟩
 | (k',d')::ds,_,h=>by
  obtain ⟨u,r,rfl,h1,h2⟩:=h
  unfold hU putF
  by_cases c:k' =f
  ·rw [if_pos c,if_pos c]; exact ⟨v,r,rfl,g,h2⟩
  ·rw [if_neg c,if_neg c]; exact ⟨u,_,rfl,h1,RepF.put g h2⟩
theorem RepF.len:∀{ds:List (Str×D)} {vs:List (Str×V)},RepF G p ds vs→vs.length=ds.length
 | [],_,h=>by rw [show _= [] from h]; rfl
 | (k',d')::ds,_,h=>by obtain ⟨u,r,rfl,h1,h2⟩:=h; simp [RepF.len h2]
end
def Ho (G:Gc) (p:Wr):D→Addr→Prop
 | .lst ds,a=>∃vs,p.H a=some (.lst vs)∧Reps G p ds vs
 | .dct ds,a=>∃vs,p.H a=some (.dK vs)∧RepK G p ds vs
 | .obj c ds,a=>∃C dx vs,G.mg c=some (.ref C)∧p.H a=some (.ins C dx vs)∧RepF G p ds vs
 | _,_=>False
def Hc (G:Gc) (p:Wr):D→Addr→Prop
 | .lst ds,a=>∃vs,p.H a=some (.lst vs)∧Reps G p ds vs
 | .con ds,a=>∃vs,SqL G.K p.H a vs∧Reps G p ds vs
 | .tup ds,a=>∃vs,p.H a=some (.tup vs)∧Reps G p ds vs
 | .dct ds,a=>∃vs,Rd p.H a (.dK vs)∧RepK G p ds vs
 | .obj c ds,a=>∃C dx vs,G.mg c=some (.ref C)∧p.H a=some (.ins C dx vs)∧RepF G p ds vs
 | _,_=>False
section
variable {G:Gc} {p q:Wr} {a:Addr}
theorem Ho.c:∀{x:D},Ho G p x a→Hc G p x a
 | .lst _,h=>h
 | .dct _,h=>let ⟨vs,e,r⟩:=h; ⟨vs, .inl e,r⟩
 | .obj _ _,h=>h
 | .non,h=>h | .bl _,h=>h | .int _,h=>h | .str _,h=>h | .con _,h=>h.elim | .tup _,h=>h.elim | .exc _ _,h=>h.elim | .cell _,h=>h
 | .odd _,h=>h.elim
theorem Ho.rep (n:¬p.O a):∀{x:D},Ho G p x a→Rep G p x (.ref a)
 | .lst _,h=>let ⟨vs,e,r⟩:=h; ⟨a,vs,rfl,⟨n,e⟩,r⟩
 | .dct _,h=>let ⟨vs,e,r⟩:=h; ⟨a,vs,rfl,⟨n, .inl e⟩,r⟩
 | .obj _ _,h=>let ⟨C,dx,vs,m,e,r⟩:=h; ⟨a,C,dx,vs,rfl,n,m,e,r⟩
 | .non,h=>h.elim | .bl _,h=>h.elim | .int _,h=>h.elim | .str _,h=>h.elim | .con _,h=>h.elim | .tup _,h=>h.elim | .exc _ _,h=>h.elim | .cell _,h=>h.elim
 | .odd _,h=>h.elim
theorem Ho.mono (l:p.le q) (e:q.H a=p.H a):∀{x:D},Ho G p x a→Ho G q x a
 | .lst _,h=>let ⟨vs,e1,r⟩:=h; ⟨vs,e.trans e1,r.mono l⟩
 | .dct _,h=>let ⟨vs,e1,r⟩:=h; ⟨vs,e.trans e1,r.mono l⟩
 | .obj _ _,h=>let ⟨C,dx,vs,m,e1,r⟩:=h; ⟨C,dx,vs,m,e.trans e1,r.mono l⟩
 | .non,h=>h.elim | .bl _,h=>h.elim | .int _,h=>h.elim | .str _,h=>h.elim | .con _,h=>h.elim | .tup _,h=>h.elim | .exc _ _,h=>h.elim | .cell _,h=>h.elim
 | .odd _,h=>h.elim
theorem Ho.some:∀{x:D},Ho G p x a→∃o,p.H a=some o
 | .lst _,h=>let ⟨vs,e1,r⟩:=h; ⟨_,e1⟩
 | .dct _,h=>let ⟨vs,e1,r⟩:=h; ⟨_,e1⟩
 | .obj _ _,h=>let ⟨C,dx,vs,m,e1,r⟩:=h; ⟨_,e1⟩
 | .non,h=>h.elim | .bl _,h=>h.elim | .int _,h=>h.elim | .str _,h=>h.elim | .con _,h=>h.elim | .tup _,h=>h.elim | .exc _ _,h=>h.elim | .cell _,h=>h.elim
 | .odd _,h=>h.elim
def D.box:D→Bool
 | .lst _ | .con _ | .tup _ | .dct _ | .obj _ _=>true
 | _=>false
theorem Rep.c {v:V}:∀{x:D},x.box=true→Rep G p x v→∃a,v= .ref a∧Hc G p x a
 | .lst _,_,h=>let ⟨a,vs,e,r,t⟩:=h; ⟨a,e,vs,r.2,t⟩
 | .con _,_,h=>let ⟨a,vs,e,r,t⟩:=h; ⟨a,e,vs,r.imp (fun r=>r.2) id,t⟩
 | .tup _,_,h=>let ⟨a,vs,e,r,t⟩:=h; ⟨a,e,vs,r.2,t⟩
 | .dct _,_,h=>let ⟨a,vs,e,r,t⟩:=h; ⟨a,e,vs,r.2,t⟩
 | .obj _ _,_,h=>let ⟨a,C,dx,vs,e,_,m,r,t⟩:=h; ⟨a,e,C,dx,vs,m,r,t⟩
 | .non,b,_=>nomatch b
 | .bl _,b,_=>nomatch b
 | .int _,b,_=>nomatch b
 | .str _,b,_=>nomatch b
 | .exc _ _,b,_=>nomatch b
 | .odd _,b,_=>nomatch b
 | .cell _,b,_=>nomatch b
end
structure En where
 F:Addr→Prop
 W:Wr
 S:Sto
def Rv (G:Gc) (p:Wr) (m:Nat) (w:List (Option V)) (k:Nat):Vl→V→Prop
 | .d x,v=>Rep G p x v
 | .own x,v=>∃a,v= .ref a∧Ho G p x a
 | .loc j,v=>m≤k∧j<m∧w[j]? =some (some v)
structure Sm (G:Gc) (E:En) (m:Nat) (p:Wr) (w:List (Option V)) (ŵ:List (Option Vl)) (S:Sto):Prop where
 len:w.length=ŵ.length
 pn:p.n=S.nx
 nx:E.S.nx≤S.nx
 ebd:∀(i:Nat) (d:D),E.S.get i=some d→i<E.S.nx
 old:∀i,i<E.S.nx→p.γ i=E.W.γ i
 bd:∀(i:Nat) (d:D),S.get i=some d→i<S.nx
 cel:∀(i:Nat) (d:D),S.get i=some d→p.O (p.γ i)∧Ho G p d (p.γ i)
 inj:∀(i j:Nat) (d e:D),S.get i=some d→S.get j=some e→p.γ i=p.γ j→i=j
 born:∀(i:Nat) (d:D),S.get i=some d→(∃d0,E.S.get i=some d0)∨E.W.H (p.γ i)=none
 frm:∀a,E.F a→p.O a∧∀i d,S.get i=some d→p.γ i≠a
 kp:∀b o,E.W.H b=some o→(∀i d,E.S.get i=some d→b≠E.W.γ i)→(E.F b→p.H b=some o)∧Kept o (p.H b)
 sub:∀b o,E.W.H b=some o→∃o',p.H b=some o'
 grw:∀b o,E.W.H b=some o→¬E.W.O b→¬p.O b
 dom:∀a,p.O a→∃o,p.H a=some o
 ent:∀(k:Nat) (e:Vl),ŵ[k]? =some (some e)→∃v,w[k]? =some (some v)∧Rv G p m w k e v
 own:∀(k:Nat) (x:D) (a:Addr),ŵ[k]? =some (some (.own x))→w[k]? =some (some (.ref a))→p.O a∧E.W.H a=none∧¬E.F a∧∀i d,S.get i=some d→p.γ i≠a
 sep:∀(j k:Nat) (x y:D) (a:Addr),ŵ[j]? =some (some (.own x))→ŵ[k]? =some (some (.own y))→w[j]? =some (some (.ref a))→w[k]? =some (some (.ref a))→j=k
 tb:∀t∈lamT,TabZ p t.1 t.2
section
variable {G:Gc} {E:En} {m:Nat} {p:Wr} {w:List (Option V)} {ŵ:List (Option Vl)} {S:Sto} {x:D} {v:V} {a:Addr} {o:HO} {k:Nat}
theorem aB {α:Type} {l:List α} {x y:α} {k:Nat} (h:(l++ [x])[k]? =some y):l[k]? =some y∨(k=l.length∧x=y):=by
 by_cases c:k<l.length
 ·rw [List.getElem?_append_left c] at h; exact .inl h
 ·by_cases c2:k=l.length
  ·subst c2
   simp only [List.getElem?_append_right (Nat.le_refl _),Nat.sub_self,List.getElem?_cons_zero,Option.some.injEq] at h
   exact .inr ⟨rfl,h⟩
  ·rw [List.getElem?_eq_none (by simp; omega)] at h; cases h
theorem aJ {α:Type} {l:List α} {x y:α} {k:Nat} (h:l[k]? =some y):(l++ [x])[k]? =some y:=by
 obtain ⟨a,_⟩:=List.getElem?_eq_some_iff.mp h
 rw [List.getElem?_append_left a]; exact h
theorem af {α:Type} {l:List α} {x:α}:(l++ [x])[l.length]? =some x:=by simp
theorem ai {α:Type} {l:List α} {y:α} {k:Nat} (h:l[k]? =some y):k<l.length:=(List.getElem?_eq_some_iff.mp h).1
theorem Rv.mono {q:Wr} {e:Vl} (l:p.le q) (hh:∀x a,(∃v,v=V.ref a)→Ho G p x a→e=Vl.own x→q.H a=p.H a) {w' :List (Option V)} (hw:∀j v,j<m→w[j]? =some (some v)→w'[j]? =some (some v)):Rv G p m w k e v→Rv G q m w' k e v:=by
 cases e with
 | d x=>exact fun h=>Rep.mono l h
 | own x=>exact fun ⟨a,e,h⟩=>⟨a,e,Ho.mono l (hh x a ⟨_,rfl⟩ h rfl) h⟩
 | loc j=>exact fun ⟨h1,h2,h3⟩=>⟨h1,h2,hw _ _ h2 h3⟩
theorem Sm.push (h:Sm G E m p w ŵ S) (r:Rep G p x v):Sm G E m p (w++ [some v]) (ŵ++ [some (.d x)]) S:=by
 refine {h with len:=by simp [h.len],ent:=fun k e q=>?_,own:=fun k y a q1 q2=>?_,sep:=fun j k y z a q1 q2 q3 q4=>?_}
 ·rcases aB q with q | ⟨rfl,qq⟩
  ·obtain ⟨u,e1,r1⟩:=h.ent k e q
   exact ⟨u,aJ e1,r1.mono (.refl p) (fun _ _ _ _ _=>rfl) fun j v _ e=>aJ e⟩
  ·obtain rfl:=Option.some.inj qq
   exact ⟨v,by rw [←h.len]; exact af,r⟩
 ·rcases aB q1 with q | ⟨rfl,qq⟩
  ·have:k<w.length:=by rw [h.len]; exact ai q
   rw [List.getElem?_append_left this] at q2
   exact h.own k y a q q2
  ·cases qq
 ·rcases aB q1 with q1 | ⟨rfl,qq⟩
  ·rcases aB q2 with q2 | ⟨rfl,qq⟩
   ·rw [List.getElem?_append_left (by rw [h.len]; exact ai q1)] at q3
    rw [List.getElem?_append_left (by rw [h.len]; exact ai q2)] at q4
    exact h.sep j k y z a q1 q2 q3 q4
   ·cases qq
  ·cases qq
theorem Sm.pushLoc {j:Nat} {e:Vl} (h:Sm G E m p w ŵ S) (hm:m≤w.length) (hj:j<m) (q:ŵ[j]? =some (some e)) (hv:w[j]? =some (some v)):Sm G E m p (w++ [some v]) (ŵ++ [some (.loc j)]) S:=by
 refine {h with len:=by simp [h.len],ent:=fun k e q=>?_,own:=fun k y a q1 q2=>?_,sep:=fun j k y z a q1 q2 q3 q4=>?_}
 ·rcases aB q with q | ⟨rfl,qq⟩
  ·obtain ⟨u,e1,r1⟩:=h.ent k e q
   exact ⟨u,aJ e1,r1.mono (.refl p) (fun _ _ _ _ _=>rfl) fun j v _ e=>aJ e⟩
  ·obtain rfl:=Option.some.inj qq
   exact ⟨v,by rw [←h.len]; exact af,by rw [←h.len]; exact hm,hj,aJ hv⟩
 ·rcases aB q1 with q | ⟨rfl,qq⟩
  ·have:k<w.length:=by rw [h.len]; exact ai q
   rw [List.getElem?_append_left this] at q2
   exact h.own k y a q q2
  ·cases qq
 ·rcases aB q1 with q1 | ⟨rfl,qq⟩
  ·rcases aB q2 with q2 | ⟨rfl,qq⟩
   ·rw [List.getElem?_append_left (by rw [h.len]; exact ai q1)] at q3
    rw [List.getElem?_append_left (by rw [h.len]; exact ai q2)] at q4
    exact h.sep j k y z a q1 q2 q3 q4
   ·cases qq
  ·cases qq
theorem Sm.pop {w' :List (Option V)} {ŵ' :List (Option Vl)} (h:Sm G E m p (w++w') (ŵ++ŵ') S) (hl:w.length=ŵ.length) (hm:m≤w.length):Sm G E m p w ŵ S:=by
 have up:∀{k:Nat} {e:Vl},ŵ[k]? =some (some e)→(ŵ++ŵ')[k]? =some (some e):=fun q=>by rw [List.getElem?_append_left (ai q)]; exact q
 have dn:∀{k:Nat} {v:Option V},k<w.length→(w++w')[k]? =some v→w[k]? =some v:=fun l q=>by rw [List.getElem?_append_left l] at q; exact q
 have uq:∀{k:Nat} {v:Option V},w[k]? =some v→(w++w')[k]? =some v:=fun q=>by rw [List.getElem?_append_left (ai q)]; exact q
 refine {h with len:=hl,ent:=fun k e q=>?_,own:=fun k y a q1 q2=>h.own k y a (up q1) (uq q2),sep:=fun j k y z a q1 q2 q3 q4=>h.sep j k y z a (up q1) (up q2) (uq q3) (uq q4)}
 obtain ⟨u,e1,r1⟩:=h.ent k e (up q)
 exact ⟨u,dn (by rw [hl]; exact ai q) e1,r1.mono (.refl p) (fun _ _ _ _ _=>rfl) fun j v l e=>dn (by omega) e⟩
theorem Sm.step {q:Wr} (h:Sm G E m p w ŵ S) (l:p.le q) (hγ:q.γ=p.γ) (hn:q.n=p.n) (hO:q.O=p.O) (hH:∀b o,p.H b=some o→q.H b=some o):Sm G E m q w ŵ S:=by
 have hq:∀{x a},Ho G p x a→q.H a=p.H a:=fun {x a} ho=>by
  obtain ⟨o,e⟩:=ho.some
  rw [e]; exact hH _ _ e
 refine {h with pn:=by rw [hn]; exact h.pn,old:=by rw [hγ]; exact h.old,cel:=fun i d e=>?_,inj:=by rw [hγ]; exact h.inj,born:=by rw [hγ]; exact h.born,frm:=by rw [hγ,hO]; exact h.frm,kp:=fun b o e n=>⟨fun f=>hH _ _ ((h.kp b o e n).1 f),(h.kp b o e n).2.imp (hH _ _) (.imp (fun ⟨kvs,od,e1,e2⟩=>⟨kvs,od,e1,hH _ _ e2⟩) fun ⟨ps,mo,e1,e2⟩=>⟨ps,mo,e1,hH _ _ e2⟩)⟩,sub:=fun b o e=>?_,tb:=fun t ht=>(h.tb t ht).of fun b o n e _=>⟨by rw [hO]; exact n,hH _ _ e⟩,grw:=by rw [hO]; exact h.grw,dom:=fun a e=>?_,ent:=fun k e e1=>?_,own:=by rw [hγ,hO]; exact h.own}
 ·rw [hγ,hO]
  have:=h.cel i d e
  exact ⟨this.1,this.2.mono l (hq this.2)⟩
 ·obtain ⟨o',e'⟩:=h.sub b o e
  exact ⟨o',hH _ _ e'⟩
 ·rw [hO] at e
  obtain ⟨o,e'⟩:=h.dom a e
  exact ⟨o,hH _ _ e'⟩
 ·obtain ⟨u,e2,r⟩:=h.ent k e e1
  exact ⟨u,e2,r.mono l (fun _ _ _ ho _=>hq ho) fun _ _ _ e=>e⟩
theorem cE (hn:p.H a=none):p.le {p with H:=upd p.H a o}:=⟨fun _ _=>rfl,Nat.le_refl _,fun b u h e=>⟨.inl (by show upd _ _ _ _=_; rw [upd_ne (ne_of_none e hn)]; exact e),h⟩⟩
theorem Sm.alloc (h:Sm G E m p w ŵ S) (hn:p.H a=none):Sm G E m {p with H:=upd p.H a o} w ŵ S:=
 h.step (cE hn) rfl rfl rfl fun b u e=>by show upd _ _ _ _=_; rw [upd_ne (ne_of_none e hn)]; exact e
theorem Sm.fresh (h:Sm G E m p w ŵ S) (hn:p.H a=none):E.W.H a=none∧¬p.O a:=by
 refine ⟨?_,fun q=>?_⟩
 ·cases e:E.W.H a with
  | none=>rfl
  | some o=>obtain ⟨o',e'⟩:=h.sub a o e; rw [hn] at e'; cases e'
 ·obtain ⟨o,e⟩:=h.dom a q
  rw [hn] at e; cases e
theorem gZ (hn:p.H a=none):p.le {p with H:=upd p.H a o,O:=fun b=>p.O b∨b=a}:=⟨fun _ _=>rfl,Nat.le_refl _,fun b u h e=>⟨.inl (by show upd _ _ _ _=_; rw [upd_ne (ne_of_none e hn)]; exact e),fun q=>q.elim h (ne_of_none e hn)⟩⟩
theorem Sm.grow (h:Sm G E m p w ŵ S) (hn:p.H a=none):Sm G E m {p with H:=upd p.H a o,O:=fun b=>p.O b∨b=a} w ŵ S:=by
 have l:=gZ (p:=p) (o:=o) hn
 obtain ⟨f1,f2⟩:=h.fresh hn
 have hH:∀b u,p.H b=some u→upd p.H a o b=some u:=fun b u e=>by rw [upd_ne (ne_of_none e hn)]; exact e
 have hq:∀{x b},Ho G p x b→upd p.H a o b=p.H b:=fun {x b} ho=>by
  obtain ⟨o,e⟩:=ho.some
  rw [e]; exact hH _ _ e
 refine {h with cel:=fun i d e=>⟨.inl (h.cel i d e).1,(h.cel i d e).2.mono l (hq (h.cel i d e).2)⟩,frm:=fun b e=>⟨.inl (h.frm b e).1,(h.frm b e).2⟩,kp:=fun b u e n=>⟨fun f=>hH _ _ ((h.kp b u e n).1 f),(h.kp b u e n).2.imp (hH _ _) (.imp (fun ⟨kvs,od,e1,e2⟩=>⟨kvs,od,e1,hH _ _ e2⟩) fun ⟨ps,mo,e1,e2⟩=>⟨ps,mo,e1,hH _ _ e2⟩)⟩,tb:=fun t ht=>(h.tb t ht).of fun b u n e _=>⟨fun q=>q.elim n (ne_of_none e hn),hH _ _ e⟩,sub:=fun b u e=>?_,grw:=fun b u e n q=>?_,dom:=fun b q=>?_,ent:=fun k e e1=>?_,own:=fun k x b q1 q2=>⟨.inl (h.own k x b q1 q2).1,(h.own k x b q1 q2).2⟩}
 ·obtain ⟨o',e'⟩:=h.sub b u e
  exact ⟨o',hH _ _ e'⟩
 ·rcases q with q | rfl
  ·exact h.grw b u e n q
  ·rw [f1] at e; cases e
 ·rcases q with q | rfl
  ·obtain ⟨o',e'⟩:=h.dom b q
   exact ⟨o',hH _ _ e'⟩
  ·exact ⟨o,upd_same⟩
 ·obtain ⟨u,e2,r⟩:=h.ent k e e1
  exact ⟨u,e2,r.mono l (fun _ _ _ ho _=>hq ho) fun _ _ _ e=>e⟩
theorem Sm.allocOwn (h:Sm G E m p w ŵ S) (hn:p.H a=none) (hx:Ho G {p with H:=upd p.H a o,O:=fun b=>p.O b∨b=a} x a):
  Sm G E m {p with H:=upd p.H a o,O:=fun b=>p.O b∨b=a} (w++ [some (.ref a)]) (ŵ++ [some (.own x)]) S:=by
 obtain ⟨f1,f2⟩:=h.fresh hn
 have h1:Sm G E m {p with H:=upd p.H a o,O:=fun b=>p.O b∨b=a} w ŵ S:=h.grow hn
 ·have nog:∀i d,S.get i=some d→p.γ i≠a:=fun i d e q=>f2 (by rw [←q]; exact (h.cel i d e).1)
  have noF:¬E.F a:=fun q=>f2 (h.frm a q).1
  have noW:∀(k:Nat) (y:D),ŵ[k]? =some (some (.own y))→w[k]? ≠some (some (.ref a)):=fun k y e1 e2=>f2 (h.own k y a e1 e2).1
  refine {h1 with len:=by simp [h.len],ent:=fun k e q=>?_,own:=fun k y b q1 q2=>?_,sep:=fun j k y z b q1 q2 q3 q4=>?_}
  ·rcases aB q with q | ⟨rfl,qq⟩
   ·obtain ⟨u,e1,r1⟩:=h1.ent k e q
    exact ⟨u,aJ e1,r1.mono (.refl _) (fun _ _ _ _ _=>rfl) fun j v _ e=>aJ e⟩
   ·obtain rfl:=Option.some.inj qq
    exact ⟨.ref a,by rw [←h.len]; exact af,a,rfl,hx⟩
  ·rcases aB q1 with q | ⟨rfl,qq⟩
   ·rw [List.getElem?_append_left (by rw [h.len]; exact ai q)] at q2
    exact h1.own k y b q q2
   ·rw [←h.len,af] at q2
    cases q2
    exact ⟨.inr rfl,f1,noF,nog⟩
  ·rcases aB q1 with q1 | ⟨rfl,qq⟩
   ·rw [List.getElem?_append_left (by rw [h.len]; exact ai q1)] at q3
    rcases aB q2 with q2 | ⟨rfl,qq⟩
    ·rw [List.getElem?_append_left (by rw [h.len]; exact ai q2)] at q4
     exact h.sep j k y z b q1 q2 q3 q4
    ·rw [←h.len,af] at q4
     cases q4
     exact (noW j y q1 q3).elim
   ·rw [←h.len,af] at q3
    cases q3
    rcases aB q2 with q2 | ⟨rfl,qq⟩
    ·rw [List.getElem?_append_left (by rw [h.len]; exact ai q2)] at q4
     exact (noW k z q2 q4).elim
    ·rfl
end
section
variable {G:Gc} {E:En} {m:Nat} {p:Wr} {w:List (Option V)} {ŵ:List (Option Vl)} {S:Sto} {x y:D} {v:V} {a:Addr} {o:HO} {k:Nat}
theorem dP {α:Type} {l:List α} {x y:α} {k j:Nat} (h:(l.set k x)[j]? =some y):(k=j∧x=y)∨(k≠j∧l[j]? =some y):=by
 by_cases c:k=j
 ·subst c
  have hl:k<l.length:=by have:=ai h; simpa using this
  rw [List.getElem?_set_self hl] at h
  exact .inl ⟨rfl,Option.some.inj h⟩
 ·rw [List.getElem?_set_ne c] at h
  exact .inr ⟨c,h⟩
theorem uT {α:Type} {l:List α} {x:α} {k:Nat} (h:k<l.length):(l.set k x)[k]? =some x:=List.getElem?_set_self h
theorem tP:p.le {p with O:=fun b=>p.O b∧b≠a}:=⟨fun _ _=>rfl,Nat.le_refl _,fun _ _ h e=>⟨.inl e,fun q=>h q.1⟩⟩
theorem Sm.settle (h:Sm G E m p w ŵ S) (q:ŵ[k]? =some (some (.own x))) (qa:w[k]? =some (some (.ref a))):Sm G E m {p with O:=fun b=>p.O b∧b≠a} w (ŵ.set k (some (.d x))) S:=by
 have l:=tP (p:=p) (a:=a)
 obtain ⟨o1,o2,o3,o4⟩:=h.own k x a q qa
 have hk:=ai q
 have nk:∀{j y},(ŵ.set k (some (.d x)))[j]? =some (some (Vl.own y))→k≠j∧ŵ[j]? =some (some (.own y)):=fun {j y} e=>by
  rcases dP e with ⟨rfl,ee⟩ | e
  ·cases ee
  ·exact e
 have na:∀{j y b},ŵ[j]? =some (some (Vl.own y))→w[j]? =some (some (V.ref b))→k≠j→b≠a:=fun {j y b} e1 e2 c e=>c (h.sep k j x y a q e1 qa (by rw [←e]; exact e2))
 refine {h with len:=by simp [h.len],cel:=fun i d e=>⟨⟨(h.cel i d e).1,o4 i d e⟩,(h.cel i d e).2.mono l rfl⟩,frm:=fun b e=>⟨⟨(h.frm b e).1,fun z=>o3 (z ▸ e)⟩,(h.frm b e).2⟩,tb:=fun t ht=>(h.tb t ht).of fun b u n e _=>⟨fun z=>n z.1,e⟩,grw:=fun b u e n z=>h.grw b u e n z.1,dom:=fun b z=>h.dom b z.1,ent:=fun j e e1=>?_,own:=fun j y b e1 e2=>?_,sep:=fun i j y z b e1 e2 e3 e4=>?_}
 ·rcases dP e1 with ⟨rfl,ee⟩ | ⟨c,e1⟩
  ·cases ee
   obtain ⟨u,e2,b,rfl,r⟩:=h.ent k _ q
   rw [qa] at e2
   cases e2
   exact ⟨_,qa,Ho.rep (show¬(p.O a∧a≠a) from fun z=>z.2 rfl) (r.mono l rfl)⟩
  ·obtain ⟨u,e2,r⟩:=h.ent j e e1
   exact ⟨u,e2,r.mono l (fun _ _ _ _ _=>rfl) fun _ _ _ e=>e⟩
 ·obtain ⟨c,e1⟩:=nk e1
  have:=h.own j y b e1 e2
  exact ⟨⟨this.1,na e1 e2 c⟩,this.2⟩
 ·exact h.sep i j y z b (nk e1).2 (nk e2).2 e3 e4
theorem Sm.store {e:Vl} (h:Sm G E m p (w++ [some v]) (ŵ++ [some e]) S) (hk:k<m) (hm:m≤w.length) (hl:w.length=ŵ.length) (he:∀j,e≠ .loc j) (hn:∀(i j:Nat),ŵ[i]? =some (some (.loc j))→j≠k):Sm G E m p (w.set k (some v)) (ŵ.set k (some e)) S:=by
 have last:(ŵ++ [some e])[ŵ.length]? =some (some e):=af
 have lastv:(w++ [some v])[ŵ.length]? =some (some v):=by rw [←hl]; exact af
 have kw:k<w.length:=by omega
 -- where an entry comes from
 have go:∀{j:Nat} {e' :Vl},(ŵ.set k (some e))[j]? =some (some e')→∃i,(ŵ++ [some e])[i]? =some (some e')∧(∀u,(w.set k (some v))[j]? =some u↔(w++ [some v])[i]? =some u)∧((j=k∧i=ŵ.length∧e' =e)∨(j≠k∧i=j∧j<ŵ.length)):=fun {j e'} q=>by
  rcases dP q with ⟨rfl,qq⟩ | ⟨c,q⟩
  ·cases qq
   refine ⟨_,last,fun u=>?_, .inl ⟨rfl,rfl,rfl⟩⟩
   rw [uT kw,←hl,af]
  ·have hj:=ai q
   refine ⟨j,aJ q,fun u=>?_, .inr ⟨fun z=>c z.symm,rfl,hj⟩⟩
   rw [List.getElem?_set_ne c,List.getElem?_append_left (by omega)]
 refine {h with len:=by simp [hl],ent:=fun j e' q=>?_,own:=fun j y b q1 q2=>?_,sep:=fun i j y z b q1 q2 q3 q4=>?_}
 ·obtain ⟨i,q1,q2,c⟩:=go q
  obtain ⟨u,e1,r⟩:=h.ent i e' q1
  refine ⟨u,(q2 _).mpr e1, ?_⟩
  rcases c with ⟨rfl,rfl,rfl⟩ | ⟨c,rfl,c2⟩
  ·cases e' with
   | d x=>exact r
   | own x=>exact r
   | loc j=>exact (he j rfl).elim
  ·cases e' with
   | d x=>exact r
   | own x=>exact r
   | loc t=>
    obtain ⟨r1,r2,r3⟩:=r
    have q0:ŵ[i]? =some (some (.loc t)):=by rw [List.getElem?_append_left c2] at q1; exact q1
    refine ⟨r1,r2, ?_⟩
    rw [List.getElem?_append_left (by omega)] at r3
    rw [List.getElem?_set_ne (hn i t q0).symm]
    exact r3
 ·obtain ⟨i,e1,e2,_⟩:=go q1
  exact h.own i y b e1 ((e2 _).mp q2)
 ·obtain ⟨i',e1,e2,c1⟩:=go q1
  obtain ⟨j',e3,e4,c2⟩:=go q2
  have:=h.sep i' j' y z b e1 e3 ((e2 _).mp q3) ((e4 _).mp q4)
  omega
theorem dD (ha:p.O a):p.le {p with H:=upd p.H a o}:=⟨fun _ _=>rfl,Nat.le_refl _,fun b u h e=>⟨.inl (by
  have c:b≠a:=fun z=>h (by rw [z]; exact ha)
  show upd _ _ _ _=_
  rw [upd_ne c]; exact e),h⟩⟩
theorem Sm.write (h:Sm G E m p w ŵ S) (q:ŵ[k]? =some (some (.own x))) (qa:w[k]? =some (some (.ref a))) (hy:Ho G {p with H:=upd p.H a o} y a):Sm G E m {p with H:=upd p.H a o} w (ŵ.set k (some (.own y))) S:=by
 obtain ⟨o1,o2,o3,o4⟩:=h.own k x a q qa
 have l:=dD (p:=p) (o:=o) o1
 have hk:=ai q
 have go:∀{j:Nat} {e' :Vl},(ŵ.set k (some (.own y)))[j]? =some (some e')→(k=j∧e' = .own y)∨(k≠j∧ŵ[j]? =some (some e')):=fun {j e'} q=>by
  rcases dP q with ⟨rfl,qq⟩ | q
  ·exact .inl ⟨rfl,(Option.some.inj qq).symm⟩
  ·exact .inr q
 have ow:∀{j:Nat} {z:D},(ŵ.set k (some (.own y)))[j]? =some (some (.own z))→∃z',ŵ[j]? =some (some (.own z')):=fun {j z} e=>by
  rcases go e with ⟨rfl,_⟩ | ⟨_,e⟩
  ·exact ⟨x,q⟩
  ·exact ⟨z,e⟩
 have ne:∀{b:Addr},b≠a→upd p.H a o b=p.H b:=fun c=>upd_ne c
 refine {h with len:=by simp [h.len],cel:=fun i d e=>⟨(h.cel i d e).1,(h.cel i d e).2.mono l (ne (o4 i d e))⟩,tb:=fun t ht=>(h.tb t ht).of fun b u n e _=>⟨n,(ne fun z=>n (by rw [z]; exact o1)).trans e⟩,kp:=fun b u e n=>?_,sub:=fun b u e=>?_,dom:=fun b e=>?_,ent:=fun j e e1=>?_,own:=fun j z b e1 e2=>?_,sep:=fun i j z z' b e1 e2 e3 e4=>?_}
 ·show (_→upd _ _ _ _=_)∧Kept u (upd _ _ _ _)
  rw [ne (fun z=>by rw [z,o2] at e; cases e)]
  exact h.kp b u e n
 ·by_cases c:b=a
  ·subst c; exact ⟨o,upd_same⟩
  ·obtain ⟨u',e'⟩:=h.sub b u e
   exact ⟨u',by show upd _ _ _ _=_; rw [ne c]; exact e'⟩
 ·by_cases c:b=a
  ·subst c; exact ⟨o,upd_same⟩
  ·obtain ⟨u',e'⟩:=h.dom b e
   exact ⟨u',by show upd _ _ _ _=_; rw [ne c]; exact e'⟩
 ·rcases go e1 with ⟨rfl,rfl⟩ | ⟨c,e1⟩
  ·exact ⟨_,qa,a,rfl,hy⟩
  ·obtain ⟨u,e2,r⟩:=h.ent j e e1
   refine ⟨u,e2, ?_⟩
   cases e with
   | d z=>exact Rep.mono l r
   | own z=>
    obtain ⟨b,rfl,r⟩:=r
    exact ⟨b,rfl,r.mono l (ne fun hb=>c (h.sep k j x z a q e1 qa (by rw [←hb]; exact e2)))⟩
   | loc t=>exact r
 ·obtain ⟨z',e1⟩:=ow e1
  exact h.own j z' b e1 e2
 ·obtain ⟨z1,e1⟩:=ow e1
  obtain ⟨z2,e2⟩:=ow e2
  exact h.sep i j z1 z2 b e1 e2 e3 e4
def Sto.put (S:Sto) (i:Nat) (x:D):Sto:= {S with get:=fun j=>if j=i then some x else S.get j}
def Sto.del (S:Sto) (i:Nat):Sto:= {S with get:=fun j=>if j=i then none else S.get j}
def Sto.new (S:Sto) (x:D):Sto:= {S with nx:=S.nx+1,get:=fun j=>if j=S.nx then some x else S.get j}
theorem Sto.put_same {S:Sto} {i:Nat} {x:D}:(S.put i x).get i=some x:=if_pos rfl
theorem Sto.put_ne {S:Sto} {i j:Nat} {x:D} (h:j≠i):(S.put i x).get j=S.get j:=if_neg h
theorem Sto.put_dom {S:Sto} {i j:Nat} {x y z:D} (h:(S.put i x).get j=some y) (q:S.get i=some z):∃y',S.get j=some y' :=by
 by_cases c:j=i
 ·subst c; exact ⟨z,q⟩
 ·rw [Sto.put_ne c] at h; exact ⟨y,h⟩
theorem Sm.writeCell {i:Nat} (h:Sm G E m p w ŵ S) (q:S.get i=some x) (hy:Ho G {p with H:=upd p.H (p.γ i) o} y (p.γ i)):Sm G E m {p with H:=upd p.H (p.γ i) o} w ŵ (S.put i y):=by
 obtain ⟨o1,o2⟩:=h.cel i x q
 have l:=dD (p:=p) (o:=o) o1
 have ne:∀{b:Addr},b≠p.γ i→upd p.H (p.γ i) o b=p.H b:=fun c=>upd_ne c
 refine {h with bd:=fun j d e=>?_,cel:=fun j d e=>?_,inj:=fun j t d d' e1 e2 e3=>?_,born:=fun j d e=>?_,frm:=fun b e=>⟨(h.frm b e).1,fun j d e' =>?_⟩,tb:=fun t ht=>(h.tb t ht).of fun b u n e _=>⟨n,(ne fun z=>n (by rw [z]; exact o1)).trans e⟩,kp:=fun b u e n=>?_,sub:=fun b u e=>?_,dom:=fun b e=>?_,ent:=fun j e e1=>?_,own:=fun j z b e1 e2=>?_}
 ·obtain ⟨d',e⟩:=Sto.put_dom e q
  exact h.bd j d' e
 ·by_cases c:j=i
  ·subst c
   rw [Sto.put_same] at e; cases e
   exact ⟨o1,hy⟩
  ·rw [Sto.put_ne c] at e
   exact ⟨(h.cel j d e).1,(h.cel j d e).2.mono l (ne fun z=>c (h.inj j i d x e q z))⟩
 ·obtain ⟨d1,e1⟩:=Sto.put_dom e1 q
  obtain ⟨d2,e2⟩:=Sto.put_dom e2 q
  exact h.inj j t d1 d2 e1 e2 e3
 ·obtain ⟨d1,e⟩:=Sto.put_dom e q
  exact h.born j d1 e
 ·obtain ⟨d1,e'⟩:=Sto.put_dom e' q
  exact (h.frm b e).2 j d1 e'
 ·show (_→upd _ _ _ _=_)∧Kept u (upd _ _ _ _)
  rw [ne fun z=>?_]
  ·exact h.kp b u e n
  ·rcases h.born i x q with ⟨d0,b0⟩ | b0
   ·exact n i d0 b0 (by rw [z]; exact h.old i (h.ebd i d0 b0))
   ·rw [z,b0] at e; cases e
 ·by_cases c:b=p.γ i
  ·subst c; exact ⟨o,upd_same⟩
  ·obtain ⟨u',e'⟩:=h.sub b u e
   exact ⟨u',by show upd _ _ _ _=_; rw [ne c]; exact e'⟩
 ·by_cases c:b=p.γ i
  ·subst c; exact ⟨o,upd_same⟩
  ·obtain ⟨u',e'⟩:=h.dom b e
   exact ⟨u',by show upd _ _ _ _=_; rw [ne c]; exact e'⟩
 ·obtain ⟨u,e2,r⟩:=h.ent j e e1
  refine ⟨u,e2, ?_⟩
  cases e with
  | d z=>exact Rep.mono l r
  | own z=>
   obtain ⟨b,rfl,r⟩:=r
   exact ⟨b,rfl,r.mono l (ne fun hb=>(h.own j z b e1 e2).2.2.2 i x q hb.symm)⟩
  | loc t=>exact r
 ·have:=h.own j z b e1 e2
  refine ⟨this.1,this.2.1,this.2.2.1,fun t d e=>?_⟩
  obtain ⟨d1,e⟩:=Sto.put_dom e q
  exact this.2.2.2 t d1 e
theorem Sm.celled (h:Sm G E m p w ŵ S) (q:ŵ[k]? =some (some (.own x))) (qa:w[k]? =some (some (.ref a))):
  Sm G E m {p with γ:=fun i=>if i=S.nx then a else p.γ i,n:=S.nx+1} w (ŵ.set k (some (.d (.cell S.nx)))) (S.new x):=by
 obtain ⟨o1,o2,o3,o4⟩:=h.own k x a q qa
 have l:p.le {p with γ:=fun i=>if i=S.nx then a else p.γ i,n:=S.nx+1}:=⟨fun i hi=>if_neg (by rw [h.pn] at hi; omega),by rw [h.pn]; exact Nat.le_succ _,fun b u n e=>⟨.inl e,n⟩⟩
 have gs:(fun i=>if i=S.nx then a else p.γ i) S.nx=a:=if_pos rfl
 have gn:∀{i d},S.get i=some d→(if i=S.nx then a else p.γ i)=p.γ i:=fun {i d} e=>if_neg (Nat.ne_of_lt (h.bd i d e))
 have dm:∀{i d},(S.new x).get i=some d→(i=S.nx∧d=x)∨(i≠S.nx∧S.get i=some d):=fun {i d} e=>by
  by_cases c:i=S.nx
  ·subst c
   have e:(if S.nx=S.nx then some x else S.get S.nx)=some d:=e
   rw [if_pos rfl] at e; cases e; exact .inl ⟨rfl,rfl⟩
  ·have e:(if i=S.nx then some x else S.get i)=some d:=e
   rw [if_neg c] at e; exact .inr ⟨c,e⟩
 obtain ⟨u,e2,a',e3,r0⟩:=h.ent k _ q
 rw [qa] at e2
 cases e2
 cases e3
 have nk:∀{j y},(ŵ.set k (some (.d (.cell S.nx))))[j]? =some (some (Vl.own y))→k≠j∧ŵ[j]? =some (some (.own y)):=fun {j y} e=>by
  rcases dP e with ⟨rfl,ee⟩ | e
  ·cases ee
  ·exact e
 refine {h with len:=by simp [h.len],pn:=rfl,nx:=Nat.le_succ_of_le h.nx,old:=fun i hi=>?_,bd:=fun i d e=>?_,cel:=fun i d e=>?_,inj:=fun i j d d' e1 e2 e3=>?_,born:=fun i d e=>?_,frm:=fun b e=>⟨(h.frm b e).1,fun i d e' =>?_⟩,ent:=fun j e e1=>?_,own:=fun j z b e1 e2=>?_,sep:=fun i j y z b e1 e2 e3 e4=>h.sep i j y z b (nk e1).2 (nk e2).2 e3 e4,tb:=fun t ht=>(h.tb t ht).of fun b u n e _=>⟨n,e⟩}
 ·show (if i=S.nx then a else p.γ i)=_
  rw [if_neg (by have:=h.nx; omega)]
  exact h.old i hi
 ·rcases dm e with ⟨rfl,_⟩ | ⟨_,e⟩
  ·exact Nat.lt_succ_self _
  ·exact Nat.lt_succ_of_lt (h.bd i d e)
 ·rcases dm e with ⟨rfl,rfl⟩ | ⟨_,e⟩
  ·show p.O (if S.nx=S.nx then a else _)∧Ho _ _ _ (if S.nx=S.nx then a else _)
   rw [if_pos rfl]
   exact ⟨o1,r0.mono l rfl⟩
  ·show p.O (if i=S.nx then a else _)∧Ho _ _ _ (if i=S.nx then a else _)
   rw [gn e]
   exact ⟨(h.cel i d e).1,(h.cel i d e).2.mono l rfl⟩
 ·have e3:(if i=S.nx then a else p.γ i)=(if j=S.nx then a else p.γ j):=e3
  rcases dm e1 with ⟨i1,d1⟩ | ⟨c1,e1⟩
  ·subst i1
   rcases dm e2 with ⟨i2,d2⟩ | ⟨c2,e2⟩
   ·exact i2.symm
   ·rw [if_pos rfl,gn e2] at e3
    exact (o4 _ _ e2 e3.symm).elim
  ·rcases dm e2 with ⟨i2,d2⟩ | ⟨c2,e2⟩
   ·subst i2
    rw [if_pos rfl,gn e1] at e3
    exact (o4 i d e1 e3).elim
   ·rw [gn e1,gn e2] at e3
    exact h.inj i j d d' e1 e2 e3
 ·rcases dm e with ⟨rfl,rfl⟩ | ⟨_,e⟩
  ·right
   show E.W.H (if S.nx=S.nx then a else _)=none
   rw [if_pos rfl]; exact o2
  ·show _∨E.W.H (if i=S.nx then a else _)=none
   rw [gn e]; exact h.born i d e
 ·rcases dm e' with ⟨rfl,rfl⟩ | ⟨_,e'⟩
  ·show (if S.nx=S.nx then a else _)≠b
   rw [if_pos rfl]; exact fun z=>o3 (z ▸ e)
  ·show (if i=S.nx then a else _)≠b
   rw [gn e']; exact (h.frm b e).2 i d e'
 ·rcases dP e1 with ⟨rfl,ee⟩ | ⟨c,e1⟩
  ·cases ee
   refine ⟨_,qa,Nat.lt_succ_self _, ?_⟩
   show V.ref a=V.ref (if S.nx=S.nx then a else _)
   rw [if_pos rfl]
  ·obtain ⟨u,e2,r⟩:=h.ent j e e1
   exact ⟨u,e2,r.mono l (fun _ _ _ _ _=>rfl) fun _ _ _ e=>e⟩
 ·obtain ⟨c,e1⟩:=nk e1
  have:=h.own j z b e1 e2
  refine ⟨this.1,this.2.1,this.2.2.1,fun i d e=>?_⟩
  rcases dm e with ⟨rfl,rfl⟩ | ⟨_,e⟩
  ·show (if S.nx=S.nx then a else _)≠b
   rw [if_pos rfl]
   exact fun hb=>c (h.sep k j _ z a q e1 qa (by rw [hb]; exact e2))
  ·show (if i=S.nx then a else _)≠b
   rw [gn e]; exact this.2.2.2 i d e
theorem Sm.freeze {i:Nat} (h:Sm G E m p w ŵ S) (hc:S.get i=some x) (q:ŵ[k]? =some (some (.d (.cell i)))):Sm G E m {p with O:=fun b=>p.O b∧b≠p.γ i} w (ŵ.set k (some (.d x))) (S.del i):=by
 have l:=tP (p:=p) (a:=p.γ i)
 have dm:∀{j d},(S.del i).get j=some d→j≠i∧S.get j=some d:=fun {j d} e=>by
  by_cases c:j=i
  ·subst c
   have e:(if j=j then none else S.get j)=some d:=e
   rw [if_pos rfl] at e; cases e
  ·have e:(if j=i then none else S.get j)=some d:=e
   rw [if_neg c] at e; exact ⟨c,e⟩
 have nk:∀{j y},(ŵ.set k (some (.d x)))[j]? =some (some (Vl.own y))→k≠j∧ŵ[j]? =some (some (.own y)):=fun {j y} e=>by
  rcases dP e with ⟨rfl,ee⟩ | e
  ·cases ee
  ·exact e
 refine {h with len:=by simp [h.len],bd:=fun j d e=>h.bd j d (dm e).2,cel:=fun j d e=>?_,inj:=fun j t d d' e1 e2 e3=>h.inj j t d d' (dm e1).2 (dm e2).2 e3,born:=fun j d e=>h.born j d (dm e).2,frm:=fun b e=>⟨⟨(h.frm b e).1,fun z=>(h.frm b e).2 i x hc z.symm⟩,fun j d e' =>(h.frm b e).2 j d (dm e').2⟩,tb:=fun t ht=>(h.tb t ht).of fun b u n e _=>⟨fun z=>n z.1,e⟩,grw:=fun b u e n z=>h.grw b u e n z.1,dom:=fun b z=>h.dom b z.1,ent:=fun j e e1=>?_,own:=fun j y b e1 e2=>?_,sep:=fun i j y z b e1 e2 e3 e4=>h.sep i j y z b (nk e1).2 (nk e2).2 e3 e4}
 ·obtain ⟨c,e⟩:=dm e
  exact ⟨⟨(h.cel j d e).1,fun z=>c (h.inj j i d x e hc z)⟩,(h.cel j d e).2.mono l rfl⟩
 ·rcases dP e1 with ⟨rfl,ee⟩ | ⟨c,e1⟩
  ·cases ee
   obtain ⟨u,e2,r1,rfl⟩:=h.ent k _ q
   exact ⟨_,e2,Ho.rep (show¬(p.O (p.γ i)∧p.γ i≠p.γ i) from fun z=>z.2 rfl) ((h.cel i x hc).2.mono l rfl)⟩
  ·obtain ⟨u,e2,r⟩:=h.ent j e e1
   exact ⟨u,e2,r.mono l (fun _ _ _ _ _=>rfl) fun _ _ _ e=>e⟩
 ·obtain ⟨c,e1⟩:=nk e1
  have:=h.own j y b e1 e2
  exact ⟨⟨this.1,fun z=>this.2.2.2 i x hc z.symm⟩,this.2.1,this.2.2.1,fun t d e=>this.2.2.2 t d (dm e).2⟩
end
section
variable {G:Gc} {E:En} {m m' :Nat} {p p' :Wr} {w w' :List (Option V)} {ŵ ŵ' :List (Option Vl)} {S S' :Sto} {x y:D} {v:V} {a:Addr} {o:HO} {k:Nat} {e:Vl}
def En.of (E:En) (p:Wr) (S:Sto) (w:List (Option V)) (ŵ:List (Option Vl)):En where
 F:=fun a=>E.F a∨∃(k:Nat) (x:D),ŵ[k]? =some (some (.own x))∧w[k]? =some (some (.ref a))
 W:=p
 S:=S
def starts (n:Nat) (ds:List D):List (Option Vl):=ds.map (fun d=>some (.d d))++List.replicate (n - ds.length) none
theorem Sm.enter {N:List Str} {ds:List D} {vs:List V} (h:Sm G E m p w ŵ S) (r:Reps G p ds vs):Sm G (E.of p S w ŵ) m' p (L2.start N vs) (starts N.length ds) S:=by
 have hd:∀{k:Nat} {e:Vl},(starts N.length ds)[k]? =some (some e)→∃d,ds[k]? =some d∧e= .d d:=fun {k e} q=>by
  unfold starts at q
  by_cases c:k<ds.length
  ·rw [List.getElem?_append_left (by simpa using c),List.getElem?_map] at q
   obtain ⟨d,h1,h2⟩:=Option.map_eq_some_iff.mp q
   exact ⟨d,h1,(Option.some.inj h2).symm⟩
  ·rw [List.getElem?_append_right (by simpa using c)] at q
   have:=List.mem_of_getElem? q
   rw [List.mem_replicate] at this
   cases this.2
 refine {len:=?_,pn:=h.pn,nx:=Nat.le_refl _,ebd:=h.bd,old:=fun _ _=>rfl,bd:=h.bd,cel:=h.cel,inj:=h.inj,born:=fun i d e=> .inl ⟨d,e⟩,frm:=fun b q=>?_,kp:=fun _ _ e _=>⟨fun _=>e, .inl e⟩,sub:=fun _ o e=>⟨o,e⟩,grw:=fun _ _ _ n=>n,dom:=h.dom,ent:=fun k e q=>?_,own:=fun k x a q=>?_,sep:=fun j k x y a q=>?_,tb:=h.tb}
 ·unfold L2.start starts
  simp [r.len]
 ·rcases q with q | ⟨k,x,q1,q2⟩
  ·exact h.frm b q
  ·exact ⟨(h.own k x b q1 q2).1,(h.own k x b q1 q2).2.2.2⟩
 ·obtain ⟨d,e1,rfl⟩:=hd q
  obtain ⟨v,e2,r2⟩:=r.get e1
  refine ⟨v, ?_,r2⟩
  unfold L2.start
  rw [List.getElem?_append_left (by simpa using ai e2),List.getElem?_map,e2]
  rfl
 ·obtain ⟨d,_,q⟩:=hd q; cases q
 ·obtain ⟨d,_,q⟩:=hd q; cases q
theorem Sm.after_le (h:Sm G E m p w ŵ S) (h' :Sm G (E.of p S w ŵ) m' p' w' ŵ' S'):p.le p' :=by
 refine ⟨fun i hi=>h'.old i (by rw [h.pn] at hi; exact hi),by rw [h.pn,h'.pn]; exact h'.nx,fun b o n e=>⟨(h'.kp b o e fun i d q z=>n ?_).2,h'.grw b o e n⟩⟩
 rw [z]
 exact (h.cel i d q).1
theorem Sm.after (h:Sm G E m p w ŵ S) (h' :Sm G (E.of p S w ŵ) m' p' w' ŵ' S'):Sm G E m p' w ŵ S' :=by
 have l:=h.after_le h'
 have own' :∀(k:Nat) (x:D) (a:Addr),ŵ[k]? =some (some (.own x))→w[k]? =some (some (.ref a))→p'.H a=p.H a:=fun k x a q1 q2=>by
  obtain ⟨o1,o2,o3,o4⟩:=h.own k x a q1 q2
  obtain ⟨o,e⟩:=h.dom a o1
  rw [e]
  exact (h'.kp a o e fun i d q z=>o4 i d q z.symm).1 (.inr ⟨k,x,q1,q2⟩)
 refine {len:=h.len,pn:=h'.pn,nx:=Nat.le_trans h.nx h'.nx,ebd:=h.ebd,old:=fun i hi=>?_,bd:=h'.bd,cel:=h'.cel,inj:=h'.inj,born:=fun i d e=>?_,frm:=fun b q=>h'.frm b (.inl q),kp:=fun b o e n=>?_,sub:=fun b o e=>?_,grw:=fun b o e n=>?_,dom:=h'.dom,ent:=fun k e q=>?_,own:=fun k x b q1 q2=>?_,sep:=h.sep,tb:=h'.tb}
 ·rw [h'.old i (Nat.lt_of_lt_of_le hi h.nx)]
  exact h.old i hi
 ·rcases h'.born i d e with ⟨d0,b0⟩ | b0
  ·rcases h.born i d0 b0 with b1 | b1
   ·exact .inl b1
   ·right
    rw [h'.old i (h.bd i d0 b0)]
    exact b1
  ·right
   cases q:E.W.H (p'.γ i) with
   | none=>rfl
   | some o=>
    obtain ⟨o',e'⟩:=h.sub _ o q
    have b0:p.H (p'.γ i)=none:=b0
    rw [b0] at e'; cases e'
 ·have nc:∀(i:Nat) (d:D),S.get i=some d→b≠p.γ i:=fun i d q z=>by
   rcases h.born i d q with ⟨d0,b0⟩ | b0
   ·exact n i d0 b0 (by rw [z]; exact h.old i (h.ebd i d0 b0))
   ·rw [←z,e] at b0; cases b0
  obtain ⟨k1,k2⟩:=h.kp b o e n
  refine ⟨fun f=>(h'.kp b o (k1 f) nc).1 (.inl f), ?_⟩
  have:∃x,p.H b=some x:=by rcases k2 with k | ⟨_,_,_,k⟩ | ⟨_,_,_,k⟩<;> exact ⟨_,k⟩
  obtain ⟨x,ex⟩:=this
  rw [ex] at k2
  exact k2.trans (h'.kp b x ex nc).2
 ·obtain ⟨o',e'⟩:=h.sub b o e
  exact h'.sub b o' e'
 ·obtain ⟨o',e'⟩:=h.sub b o e
  exact h'.grw b o' e' (h.grw b o e n)
 ·obtain ⟨u,e2,r⟩:=h.ent k e q
  refine ⟨u,e2, ?_⟩
  cases e with
  | d z=>exact Rep.mono l r
  | own z=>
   obtain ⟨b,rfl,r⟩:=r
   exact ⟨b,rfl,r.mono l (own' k z b q e2)⟩
  | loc t=>exact r
 ·have o:=h.own k x b q1 q2
  have f:=h'.frm b (.inr ⟨k,x,q1,q2⟩)
  exact ⟨f.1,o.2.1,o.2.2.1,f.2⟩
theorem Sm.pushOwn (h:Sm G E m p w ŵ S) (r:Ho G p x a) (o1:p.O a) (o2:E.W.H a=none) (o3:¬E.F a) (o4:∀i d,S.get i=some d→p.γ i≠a) (o5:∀(k:Nat) (y:D),ŵ[k]? =some (some (.own y))→w[k]? ≠some (some (.ref a))):
  Sm G E m p (w++ [some (.ref a)]) (ŵ++ [some (.own x)]) S:=by
 refine {h with len:=by simp [h.len],ent:=fun k e q=>?_,own:=fun k y b q1 q2=>?_,sep:=fun j k y z b q1 q2 q3 q4=>?_}
 ·rcases aB q with q | ⟨rfl,qq⟩
  ·obtain ⟨u,e1,r1⟩:=h.ent k e q
   exact ⟨u,aJ e1,r1.mono (.refl _) (fun _ _ _ _ _=>rfl) fun j v _ e=>aJ e⟩
  ·obtain rfl:=Option.some.inj qq
   exact ⟨.ref a,by rw [←h.len]; exact af,a,rfl,r⟩
 ·rcases aB q1 with q | ⟨rfl,qq⟩
  ·rw [List.getElem?_append_left (by rw [h.len]; exact ai q)] at q2
   exact h.own k y b q q2
  ·rw [←h.len,af] at q2
   cases q2
   exact ⟨o1,o2,o3,o4⟩
 ·rcases aB q1 with q1 | ⟨rfl,qq⟩
  ·rw [List.getElem?_append_left (by rw [h.len]; exact ai q1)] at q3
   rcases aB q2 with q2 | ⟨rfl,qq⟩
   ·rw [List.getElem?_append_left (by rw [h.len]; exact ai q2)] at q4
    exact h.sep j k y z b q1 q2 q3 q4
   ·rw [←h.len,af] at q4
    cases q4
    exact (o5 j y q1 q3).elim
  ·rw [←h.len,af] at q3
   cases q3
   rcases aB q2 with q2 | ⟨rfl,qq⟩
   ·rw [List.getElem?_append_left (by rw [h.len]; exact ai q2)] at q4
    exact (o5 k z q2 q4).elim
   ·rfl
theorem Sm.lock {d:Addr} {kvs:List (Key×V)} {od:Obj} (h:Sm G E m p w ŵ S) (hd:p.H d=some (.dK kvs)) (hn:¬p.O d):Sm G E m {p with H:=upd p.H d (.frz od (.dK kvs))} w ŵ S:=by
 have l:p.le {p with H:=upd p.H d (.frz od (.dK kvs))}:=⟨fun _ _=>rfl,Nat.le_refl _,fun b o n e=>⟨by
  by_cases c:b=d
  ·subst c
   rw [hd] at e; cases e
   exact .inr (.inl ⟨kvs,od,rfl,upd_same⟩)
  ·exact .inl (by show upd _ _ _ _=_; rw [upd_ne c]; exact e),n⟩⟩
 have nO:∀{b:Addr},p.O b→upd p.H d (.frz od (.dK kvs)) b=p.H b:=fun {b} q=>upd_ne fun c=>hn (c ▸ q)
 refine {h with cel:=fun i d e=>⟨(h.cel i d e).1,(h.cel i d e).2.mono l (nO (h.cel i d e).1)⟩,tb:=fun t ht=>(h.tb t ht).of fun b o n e nd=>⟨n,(upd_ne fun c=>nd kvs (by rw [c,hd] at e; exact (Option.some.inj e).symm)).trans e⟩,kp:=fun b o e n=>?_,sub:=fun b o e=>?_,dom:=fun b q=>?_,ent:=fun k e q=>?_}
 ·obtain ⟨k1,k2⟩:=h.kp b o e n
  by_cases c:b=d
  ·subst c
   refine ⟨fun f=>(hn (h.frm b f).1).elim, ?_⟩
   rw [hd] at k2
   exact k2.trans (.inr (.inl ⟨kvs,od,rfl,upd_same⟩))
  ·show (_→upd _ _ _ _=_)∧Kept o (upd _ _ _ _)
   rw [upd_ne c]
   exact ⟨k1,k2⟩
 ·by_cases c:b=d
  ·subst c; exact ⟨_,upd_same⟩
  ·obtain ⟨o',e'⟩:=h.sub b o e
   exact ⟨o',by show upd _ _ _ _=_; rw [upd_ne c]; exact e'⟩
 ·obtain ⟨o',e'⟩:=h.dom b q
  exact ⟨o',by show upd _ _ _ _=_; rw [nO q]; exact e'⟩
 ·obtain ⟨u,e1,r⟩:=h.ent k e q
  refine ⟨u,e1, ?_⟩
  cases e with
  | d z=>exact Rep.mono l r
  | own z=>
   obtain ⟨b,rfl,r⟩:=r
   exact ⟨b,rfl,r.mono l (nO (h.own k z b q e1).1)⟩
  | loc t=>exact r
theorem Sm.leave (h:Sm G E m p w ŵ S) (h' :Sm G (E.of p S w ŵ) m' p' w' ŵ' S') (hk:ŵ'[k]? =some (some e)) (hv:w'[k]? =some (some v)) (he:∀j,e≠ .loc j):Sm G E m p' (w++ [some v]) (ŵ++ [some e]) S' :=by
 have h1:=h.after h'
 obtain ⟨u,e2,r⟩:=h'.ent k e hk
 rw [hv] at e2; cases e2
 cases e with
 | d x=>exact h1.push r
 | own x=>
  obtain ⟨a,rfl,r⟩:=r
  obtain ⟨o1,o2,o3,o4⟩:=h'.own k x a hk hv
  refine h1.pushOwn r o1 ?_ (fun z=>o3 (.inl z)) o4 fun j y q1 q2=>o3 (.inr ⟨j,y,q1,q2⟩)
  cases q:E.W.H a with
  | none=>rfl
  | some o=>
   obtain ⟨o',e'⟩:=h.sub _ o q
   have o2:p.H a=none:=o2
   rw [o2] at e'; cases e'
 | loc j=>exact (he j rfl).elim
end
def Rel (G:Gc) (E:En) (σ:L2.St) (τ:List V) (H:Hp) (s:SD) (θ:List Vl):Prop:=∃p:Wr,p.H=H∧σ.length=s.sl.length∧Sm G E s.sl.length p (σ++τ.map some) (s.sl++θ.map some) s.st
def ExV (G:Gc) (p:Wr) (c:Str) (fs:List (Str×D)) (cls:Value) (d:Option Addr):Prop:=
 ∃C,G.mg c=some (.ref C)∧cls= .ref C∧((fs= []∧d=none)∨∃da fvs,d=some da∧p.H da=some (.xd fvs)∧¬p.O da∧RepF G p fs fvs)
def RelX (G:Gc) (E:En) (σ:L2.St) (τ:List V) (H:Hp) (s:SD) (θ:List Vl) (c:Str) (fs:List (Str×D)) (cls:Value) (d:Option Addr):Prop:=
 ∃p:Wr,p.H=H∧σ.length=s.sl.length∧Sm G E s.sl.length p (σ++τ.map some) (s.sl++θ.map some) s.st∧ExV G p c fs cls d
def XP (G:Gc) (W:WX) (E:En) (τ:List V) (θ:List Vl):XQ:=fun c fs s' =>∀cls d σ' H',RelX G E σ' τ H' s' θ c fs cls d→W cls d σ' H'
def Nl (θ:List Vl):Prop:=∀e∈θ,∀j,e≠ .loc j
theorem Nl.snoc {θ:List Vl} {a:Vl} (h:Nl θ) (ha:∀j,a≠ .loc j):Nl (θ++ [a]):=fun e he=>by
 rcases List.mem_append.mp he with he | he
 ·exact h e he
 ·rw [List.mem_singleton.mp he]; exact ha
theorem Nl.d {θ:List Vl} {x:D} (h:Nl θ):Nl (θ++ [.d x]):=h.snoc fun _ q=>nomatch q
def RE (G:Gc) (W:WX) (t:TE) (fe:SD→R Vl):Prop:=∀(E:En) (σ:L2.St) (τ:List V) (H:Hp) (s:SD) (θ:List Vl) (Q:VK),Nl θ→Rel G E σ τ H s θ→
 Wp (fe s) (fun a s' =>∀v H',Rel G E σ (τ++ [v]) H' s' (θ++ [a])→Q v H') (XP G W E τ θ)→t σ H Q
def RT (G:Gc) (W:WX) (t:TT) (fe:SD→R Bool):Prop:=∀(E:En) (σ:L2.St) (τ:List V) (H:Hp) (s:SD) (θ:List Vl) (Q:Bool→Hp→Prop),Nl θ→Rel G E σ τ H s θ→
 Wp (fe s) (fun b s' =>∀H',Rel G E σ τ H' s' θ→Q b H') (XP G W E τ θ)→t σ H Q
def RA (G:Gc) (W:WX) (t:TA) (fe:SD→R (List D)):Prop:=∀(E:En) (σ:L2.St) (τ:List V) (H:Hp) (s:SD) (θ:List Vl) (Q:List V→Hp→Prop),Nl θ→Rel G E σ τ H s θ→
 Wp (fe s) (fun ds s' =>∀vs H',Rel G E σ (τ++vs) H' s' (θ++ds.map .d)→Q vs H') (XP G W E τ θ)→t σ H Q
inductive Fl where
 | nx | bk | ct | rt (a:Vl)
def FP (G:Gc) (E:En) (τ:List V) (θ:List Vl) (D:Ends):Fl→SD→Prop
 | .nx,s' =>∀σ' H',Rel G E σ' τ H' s' θ→D.nx σ' H'
 | .bk,s' =>∀σ' H',Rel G E σ' τ H' s' θ→D.bk σ' H'
 | .ct,s' =>∀σ' H',Rel G E σ' τ H' s' θ→D.ct σ' H'
 | .rt a,s' =>(∀j,a≠ .loc j)∧∀σ' v H',Rel G E σ' (τ++ [v]) H' s' (θ++ [a])→D.rt v H'
def RS (G:Gc) (W:WX) (t:TS) (fz:SD→R Fl):Prop:=∀(E:En) (σ:L2.St) (τ:List V) (H:Hp) (s:SD) (θ:List Vl) (D:Ends),Nl θ→Rel G E σ τ H s θ→
 Wp (fz s) (FP G E τ θ D) (XP G W E τ θ)→t D σ H
section
variable {G:Gc} {W:WX} {E:En} {σ:L2.St} {τ:List V} {H:Hp} {s:SD} {θ:List Vl} {v:V} {a:Vl} {x:D} {p:Wr}
theorem Rel.snoc (h:Sm G E s.sl.length p ((σ++τ.map some)++ [some v]) ((s.sl++θ.map some)++ [some a]) s.st) (hl:σ.length=s.sl.length) (hH:p.H=H):Rel G E σ (τ++ [v]) H s (θ++ [a]):=by
 refine ⟨p,hH,hl, ?_⟩
 rw [List.map_append,List.map_append,←List.append_assoc,←List.append_assoc]
 exact h
theorem Rel.unsnoc (h:Rel G E σ (τ++ [v]) H s (θ++ [a])):∃p:Wr,p.H=H∧σ.length=s.sl.length∧Sm G E s.sl.length p ((σ++τ.map some)++ [some v]) ((s.sl++θ.map some)++ [some a]) s.st:=by
 obtain ⟨p,e,hl,h⟩:=h
 rw [List.map_append,List.map_append,←List.append_assoc,←List.append_assoc] at h
 exact ⟨p,e,hl,h⟩
theorem aA {α β:Type} {l:List α} {l' :List β} {a:α} {b:β} (h:(l++ [a]).length=(l' ++ [b]).length):l.length=l'.length:=by simpa using h
theorem Sm.pop1 {m:Nat} {w:List (Option V)} {ŵ:List (Option Vl)} {S:Sto} {u:Option V} {e:Option Vl} (h:Sm G E m p (w++ [u]) (ŵ++ [e]) S) (hm:m≤w.length):Sm G E m p w ŵ S:=h.pop (aA h.len) hm
theorem bI {l:List (Option V)} (hl:σ.length=s.sl.length):s.sl.length≤(σ++l).length:=by simp; omega
theorem Rel.pop (h:Rel G E σ (τ++ [v]) H s (θ++ [a])):Rel G E σ τ H s θ:=by
 obtain ⟨p,e,hl,h⟩:=h.unsnoc
 exact ⟨p,e,hl,h.pop1 (bI hl)⟩
theorem RelX.pop {c:Str} {fs:List (Str×D)} {cls:Value} {d:Option Addr} (h:RelX G E σ (τ++ [v]) H s (θ++ [a]) c fs cls d):RelX G E σ τ H s θ c fs cls d:=by
 obtain ⟨p,e,hl,h,x⟩:=h
 rw [List.map_append,List.map_append,←List.append_assoc,←List.append_assoc] at h
 exact ⟨p,e,hl,h.pop1 (bI hl),x⟩
theorem XP.up {c:Str} {fs:List (Str×D)} (h:XP G W E τ θ c fs s):XP G W E (τ++ [v]) (θ++ [a]) c fs s:=fun cls d σ' H' r=>h cls d σ' H' r.pop
theorem Rel.len (h:Rel G E σ τ H s θ):(σ++τ.map some).length=(s.sl++θ.map some).length:=let ⟨_,_,_,h⟩:=h; h.len
theorem Rel.tlen (h:Rel G E σ τ H s θ):τ.length=θ.length:=by
 obtain ⟨_,_,hl,h⟩:=h
 have:=h.len
 simp at this
 omega
theorem Rel.last (h:Rel G E σ (τ++ [v]) H s (θ++ [.d x])):∃p:Wr,p.H=H∧Rep G p x v:=by
 obtain ⟨p,e,hl,h⟩:=h.unsnoc
 have l:=aA h.len
 obtain ⟨u,e1,r⟩:=h.ent _ _ (af (l:=s.sl++θ.map some))
 rw [←l,af] at e1
 cases e1
 exact ⟨p,e,r⟩
theorem Rel.push (h:Rel G E σ τ H s θ) (r:∀p:Wr,Rep G p x v):Rel G E σ (τ++ [v]) H s (θ++ [.d x]):=by
 obtain ⟨p,e,hl,h⟩:=h
 exact .snoc (h.push (r p)) hl e
end
end Z

namespace Z
open PySem PySem.Spec PyProof.Rows L2 M
open Classical
def SD.cont (s:SD):Vl→Option D
 | .d (.cell i)=>s.st.get i
 | .d x=>some x
 | .own x=>some x
 | .loc k=>match s.sl[k]? with
  | some (some (.own x))=>some x
  | some (some (.d (.cell i)))=>s.st.get i
  | some (some (.d x))=>some x
  | _=>none
def Cont (G:Gc) (p:Wr) (x:D) (v:V):Prop:=(x.box=true∧∃b,v= .ref b∧Hc G p x b)∨(x.box=false∧Rep G p x v)
section
variable {G:Gc} {W:WX} {E:En} {σ:L2.St} {τ:List V} {H:Hp} {s:SD} {θ:List Vl} {v u:V} {a b:Vl} {x y:D} {p:Wr} {Q:VK} {m:Nat} {w:List (Option V)} {S:Sto} {k:Nat}
theorem Ho.box {a:Addr}:∀{x:D},Ho G p x a→x.box=true
 | .lst _,_=>rfl
 | .dct _,_=>rfl
 | .obj _ _,_=>rfl
 | .non,h=>h.elim | .bl _,h=>h.elim | .int _,h=>h.elim | .str _,h=>h.elim | .con _,h=>h.elim | .tup _,h=>h.elim | .exc _ _,h=>h.elim | .cell _,h=>h.elim
 | .odd _,h=>h.elim
theorem Ho.cont {a:Addr} (h:Ho G p x a):Cont G p x (.ref a):= .inl ⟨h.box,a,rfl,h.c⟩
theorem Rep.cont (h:Rep G p x v):Cont G p x v:=by
 cases e:x.box with
 | true=>exact .inl ⟨e,h.c e⟩
 | false=>exact .inr ⟨e,h⟩
theorem Sm.cont_d (h:Sm G E m p w ŵ S) (r:Rep G p y v) (c:(match y with | .cell i=>S.get i | y=>some y)=some x):Cont G p x v:=by
 cases y with
 | cell i=>
  obtain ⟨_,rfl⟩:=r
  exact (h.cel i x c).2.cont
 | _=>cases c; exact r.cont
theorem Sm.cont {l:List (Option Vl)} (h:Sm G E m p w (s.sl++l) s.st) (hm:m=s.sl.length) (q:(s.sl++l)[k]? =some (some a)) (qv:w[k]? =some (some v)) (c:s.cont a=some x):Cont G p x v:=by
 obtain ⟨u,e1,r⟩:=h.ent k a q
 rw [qv] at e1; cases e1
 cases a with
 | d y=>exact h.cont_d r (by cases y<;> exact c)
 | own y=>
  cases c
  obtain ⟨b,rfl,r⟩:=r
  exact r.cont
 | loc j=>
  obtain ⟨_,hj,r⟩:=r
  unfold SD.cont at c
  dsimp only at c
  have hs:∀{e:Option Vl},s.sl[j]? =some e→(s.sl++l)[j]? =some e:=fun q=>by rw [List.getElem?_append_left (ai q)]; exact q
  cases q1:s.sl[j]? with
  | none=>rw [q1] at c; cases c
  | some o=>
   cases o with
   | none=>rw [q1] at c; cases c
   | some z=>
    obtain ⟨u,e2,r2⟩:=h.ent j z (hs q1)
    rw [r] at e2; cases e2
    rw [q1] at c
    cases z with
    | d y=>exact h.cont_d r2 (by cases y<;> exact c)
    | own y=>
     cases c
     obtain ⟨b,rfl,r2⟩:=r2
     exact r2.cont
    | loc i=>cases c
theorem Cont.lst {ds:List D} (h:Cont G p (.lst ds) v):∃b vs,v= .ref b∧p.H b=some (.lst vs)∧Reps G p ds vs:=by
 rcases h with ⟨_,b,e,vs,h,r⟩ | ⟨q,_⟩
 ·exact ⟨b,vs,e,h,r⟩
 ·cases q
theorem Cont.con {ds:List D} (h:Cont G p (.con ds) v):∃b vs,v= .ref b∧SqL G.K p.H b vs∧Reps G p ds vs:=by
 rcases h with ⟨_,b,e,vs,h,r⟩ | ⟨q,_⟩
 ·exact ⟨b,vs,e,h,r⟩
 ·cases q
theorem Cont.tup {ds:List D} (h:Cont G p (.tup ds) v):∃b vs,v= .ref b∧p.H b=some (.tup vs)∧Reps G p ds vs:=by
 rcases h with ⟨_,b,e,vs,h,r⟩ | ⟨q,_⟩
 ·exact ⟨b,vs,e,h,r⟩
 ·cases q
theorem Cont.dct {ds:List (Key×D)} (h:Cont G p (.dct ds) v):∃b vs,v= .ref b∧Rd p.H b (.dK vs)∧RepK G p ds vs:=by
 rcases h with ⟨_,b,e,vs,h,r⟩ | ⟨q,_⟩
 ·exact ⟨b,vs,e,h,r⟩
 ·cases q
theorem Cont.obj {c:Str} {ds:List (Str×D)} (h:Cont G p (.obj c ds) v):∃b C dx vs,v= .ref b∧G.mg c=some (.ref C)∧p.H b=some (.ins C dx vs)∧RepF G p ds vs:=by
 rcases h with ⟨_,b,e,C,dx,vs,m,h,r⟩ | ⟨q,_⟩
 ·exact ⟨b,C,dx,vs,e,m,h,r⟩
 ·cases q
theorem Cont.sc (h:Cont G p x v) (hx:x.box=false):Rep G p x v:=by
 rcases h with ⟨q,_⟩ | ⟨_,h⟩
 ·rw [hx] at q; cases q
 ·exact h
theorem Cont.int {i:Int} (h:Cont G p (.int i) v):v= .int i:=h.sc rfl
theorem Cont.str {i:Str} (h:Cont G p (.str i) v):v= .str i:=h.sc rfl
theorem Cont.bl {i:Bool} (h:Cont G p (.bl i) v):v= .bl i:=h.sc rfl
def jC (G:Gc) (r:V→Hp→VK→Prop) (f:Vl→SD→R Vl):Prop:=∀(E:En) (σ:L2.St) (τ:List V) (s:SD) (θ:List Vl) (p:Wr) (v:V) (a:Vl) (Q:VK),σ.length=s.sl.length→
 Sm G E s.sl.length p ((σ++τ.map some)++ [some v]) ((s.sl++θ.map some)++ [some a]) s.st→Wp (f a s) (fun b s' =>∀u H',Rel G E σ (τ++ [u]) H' s' (θ++ [b])→Q u H') (fun _ _ _=>False)→r v p.H Q
def dw (G:Gc) (r:R2) (f:Vl→Vl→SD→R Vl):Prop:=∀(E:En) (σ:L2.St) (τ:List V) (s:SD) (θ:List Vl) (p:Wr) (v u:V) (a b:Vl) (Q:VK),σ.length=s.sl.length→
 Sm G E s.sl.length p (((σ++τ.map some)++ [some v])++ [some u]) (((s.sl++θ.map some)++ [some a])++ [some b]) s.st→Wp (f a b s) (fun b s' =>∀u H',Rel G E σ (τ++ [u]) H' s' (θ++ [b])→Q u H') (fun _ _ _=>False)→r v u p.H Q
def z1 (f:Vl→SD→R Vl) (fa:SD→R Vl):SD→R Vl:=fun s=>(fa s).bind f
def z2 (f:Vl→Vl→SD→R Vl) (fa fb:SD→R Vl):SD→R Vl:=fun s=>(fa s).bind fun a s1=>(fb s1).bind fun b s2=>f a b s2
theorem RE.op1 {r:V→Hp→VK→Prop} {f:Vl→SD→R Vl} {ta:TE} {fa:SD→R Vl} (hp:jC G r f) (nx:∀a s c fs s',f a s≠ .ex c fs s') (ha:RE G W ta fa):RE G W (fun σ H Q=>ta σ H fun x H1=>r x H1 Q) (z1 f fa):=by
 intro E σ τ H s θ Q hN hR hw
 unfold z1 at hw
 rw [ae] at hw
 refine ha E σ τ H s θ _ hN hR (hw.mono (fun a s1 hw v H1 h1=>?_) fun _ _ _ h=>h)
 obtain ⟨p,rfl,hl,h⟩:=h1.unsnoc
 refine hp E σ τ s1 θ p v a Q hl h ?_
 cases e:f a s1 with
 | ok b s2=>rw [e] at hw; exact hw
 | ex c fs s2=>exact (nx _ _ _ _ _ e).elim
 | bad=>rw [e] at hw; exact hw
theorem Sm.pushLoc' {j:Nat} (h:Sm G E m p w ŵ S) (hm:m≤w.length) (hj:j<m) (hv:w[j]? =some (some v)):Sm G E m p (w++ [some v]) (ŵ++ [some (.loc j)]) S:=by
 refine {h with len:=by simp [h.len],ent:=fun k e q=>?_,own:=fun k y a q1 q2=>?_,sep:=fun j k y z a q1 q2 q3 q4=>?_}
 ·rcases aB q with q | ⟨rfl,qq⟩
  ·obtain ⟨u,e1,r1⟩:=h.ent k e q
   exact ⟨u,aJ e1,r1.mono (.refl p) (fun _ _ _ _ _=>rfl) fun j v _ e=>aJ e⟩
  ·obtain rfl:=Option.some.inj qq
   exact ⟨v,by rw [←h.len]; exact af,by rw [←h.len]; exact hm,hj,aJ hv⟩
 ·rcases aB q1 with q | ⟨rfl,qq⟩
  ·have:k<w.length:=by rw [h.len]; exact ai q
   rw [List.getElem?_append_left this] at q2
   exact h.own k y a q q2
  ·cases qq
 ·rcases aB q1 with q1 | ⟨rfl,qq⟩
  ·rcases aB q2 with q2 | ⟨rfl,qq⟩
   ·rw [List.getElem?_append_left (by rw [h.len]; exact ai q1)] at q3
    rw [List.getElem?_append_left (by rw [h.len]; exact ai q2)] at q4
    exact h.sep j k y z a q1 q2 q3 q4
   ·cases qq
  ·cases qq
theorem Rel.unloc {k:Nat} (h:Rel G E σ (τ++ [v]) H s (θ++ [.loc k])):k<s.sl.length∧σ[k]? =some (some v):=by
 obtain ⟨p,e,hl,h⟩:=h.unsnoc
 obtain ⟨u,e1,r1,r2,r3⟩:=h.ent _ _ (af (l:=s.sl++θ.map some))
 rw [←aA h.len,af] at e1; cases e1
 refine ⟨r2, ?_⟩
 rw [List.append_assoc,List.getElem?_append_left (by omega)] at r3
 exact r3
theorem Rel.reloc {k:Nat} (h:Rel G E σ τ H s θ) (hk:σ[k]? =some (some v)):Rel G E σ (τ++ [v]) H s (θ++ [.loc k]):=by
 obtain ⟨p,e,hl,h⟩:=h
 have:=ai hk
 exact .snoc (h.pushLoc' (bI hl) (by omega) (by rw [List.getElem?_append_left this]; exact hk)) hl e
theorem Sm.pick (h:Sm G E m p w ŵ S) {w' :List (Option V)} {ŵ' :List (Option Vl)} (f:Nat→Nat) (hl:w'.length=ŵ'.length) (hf:∀(k:Nat) (e:Vl),ŵ'[k]? =some (some e)→ŵ[f k]? =some (some e)∧w'[k]? =w[f k]? ∧(m≤f k→m≤k)) (hi:∀(j k:Nat) (y z:D),ŵ'[j]? =some (some (.own y))→ŵ'[k]? =some (some (.own z))→f j=f k→j=k)
  (hm:∀(k:Nat),k<m→w'[k]? =w[k]?):Sm G E m p w' ŵ' S:=by
 refine {h with len:=hl,ent:=fun k e q=>?_,own:=fun k y a q1 q2=>?_,sep:=fun j k y z a q1 q2 q3 q4=>?_}
 ·obtain ⟨q1,q2,q3⟩:=hf k e q
  obtain ⟨v,e1,r⟩:=h.ent _ _ q1
  refine ⟨v,q2.trans e1, ?_⟩
  cases e with
  | d x=>exact r
  | own x=>exact r
  | loc j=>exact ⟨q3 r.1,r.2.1,(hm j r.2.1).trans r.2.2⟩
 ·obtain ⟨q3,q4,_⟩:=hf k _ q1
  exact h.own _ y a q3 (q4.symm.trans q2)
 ·obtain ⟨r1,r2,_⟩:=hf j _ q1
  obtain ⟨r3,r4,_⟩:=hf k _ q2
  exact hi j k y z q1 q2 (h.sep _ _ y z a r1 r3 (r2.symm.trans q3) (r4.symm.trans q4))
theorem Rel.swap (h:Rel G E σ (τ++ [u]++ [v]) H s (θ++ [b]++ [a])) (ht:τ.length=θ.length):Rel G E σ (τ++ [v]++ [u]) H s (θ++ [a]++ [b]):=by
 obtain ⟨p,e,hl,h⟩:=h
 refine ⟨p,e,hl, ?_⟩
 have e1:∀(x y:V),σ++(τ++ [x]++ [y]).map some=(σ++τ.map some)++ [some x,some y]:=fun x y=>by simp
 have e2:∀(x y:Vl),s.sl++(θ++ [x]++ [y]).map some=(s.sl++θ.map some)++ [some x,some y]:=fun x y=>by simp
 rw [e1,e2] at h ⊢
 have l:(σ++τ.map some).length=(s.sl++θ.map some).length:=by simp [hl,ht]
 generalize (σ++τ.map some)=A at*
 have hm:s.sl.length≤(s.sl++θ.map some).length:=by simp
 generalize (s.sl++θ.map some)=B at*
 have fl:∀{α:Type} {A:List α} {x y z w:α} {k:Nat},k<A.length→(A++ [x,y])[k]? =(A++ [z,w])[k]? :=fun {α A x y z w k} hk=>by rw [List.getElem?_append_left hk,List.getElem?_append_left hk]
 have f0:∀{α:Type} {A:List α} {x y:α},(A++ [x,y])[A.length]? =some x:=fun {α A x y}=>by rw [List.getElem?_append_right (Nat.le_refl _)]; simp
 have f1:∀{α:Type} {A:List α} {x y:α},(A++ [x,y])[A.length+1]? =some y:=fun {α A x y}=>by rw [List.getElem?_append_right (Nat.le_succ _)]; simp
 refine h.pick (fun k=>if k=B.length then B.length+1 else if k=B.length+1 then B.length else k) (by simp [l]) (fun k e q=>?_) (fun j k y z h1 h2 e=>?_) fun k hk=>fl (by omega)
 ·by_cases c:k<B.length
  ·rw [if_neg (by omega),if_neg (by omega)]
   exact ⟨(fl c).trans q,fl (by omega),id⟩
  ·by_cases c2:k=B.length
   ·subst c2
    rw [if_pos rfl]
    rw [f0] at q
    exact ⟨f1.trans q,by rw [←l,f0,f1],fun _=>hm⟩
   ·have:k=B.length+1:=by have:=ai q; simp at this; omega
    subst this
    rw [if_neg (by omega),if_pos rfl]
    rw [f1] at q
    exact ⟨f0.trans q,by rw [←l,f0,f1],fun _=>by omega⟩
 ·split at e<;> split at e<;> (try split at e)<;> (try split at e)<;> omega
theorem RE.two {ta tb:TE} {fa fb:SD→R Vl} {α:Type} {f:Vl→Vl→SD→R α} {P:α→SD→Prop} {Q:V→V→Hp→Prop} (ha:RE G W ta fa) (hb:RE G W tb fb) (hN:Nl θ) (hR:Rel G E σ τ H s θ)
  (hw:Wp ((fa s).bind fun a s1=>(fb s1).bind fun b s2=>f a b s2) P (XP G W E τ θ))
  (k:∀(a b:Vl) (s2:SD) (v u:V) (H2:Hp),Rel G E σ (τ++ [v]++ [u]) H2 s2 (θ++ [a]++ [b])→Wp (f a b s2) P (XP G W E τ θ)→Q v u H2):ta σ H fun x H1=>tb σ H1 fun y H2=>Q x y H2:=by
 rw [ae] at hw
 refine ha E σ τ H s θ _ hN hR (hw.mono (fun a s1 hw v H1 h1=>?_) fun _ _ _ h=>h)
 rw [ae] at hw
 by_cases c:∃j,a= .loc j
 ·obtain ⟨j,rfl⟩:=c
  obtain ⟨c1,c2⟩:=h1.unloc
  refine hb E σ τ H1 s1 θ _ hN h1.pop (hw.mono (fun b s2 hw u H2 h2=>k _ _ _ _ _ _ ?_ hw) fun _ _ _ h=>h)
  exact (h2.reloc c2).swap hR.tlen
 ·exact hb E σ _ H1 s1 _ _ (hN.snoc fun j q=>c ⟨j,q⟩) h1 (hw.mono (fun b s2 hw u H2 h2=>k _ _ _ _ _ _ h2 hw) fun _ _ _ h=>h.up)
theorem RE.op2 {r:R2} {f:Vl→Vl→SD→R Vl} {ta tb:TE} {fa fb:SD→R Vl} (hp:dw G r f) (nx:∀a b s c fs s',f a b s≠ .ex c fs s') (ha:RE G W ta fa) (hb:RE G W tb fb):RE G W (tOp r ta tb) (z2 f fa fb):=by
 intro E σ τ H s θ Q hN hR hw
 refine RE.two ha hb hN hR hw fun a b s2 v u H2 h2 hw=>?_
 obtain ⟨p,rfl,hl,h⟩:=h2.unsnoc
 rw [List.map_append,List.map_append,←List.append_assoc,←List.append_assoc] at h
 refine hp E σ τ s2 θ p v u a b Q hl h ?_
 cases e:f a b s2 with
 | ok b s2=>rw [e] at hw; exact hw
 | ex c fs s2=>exact (nx _ _ _ _ _ _ e).elim
 | bad=>rw [e] at hw; exact hw
theorem ba (h:Sm G E s.sl.length p (σ++τ.map some) (s.sl++θ.map some) s.st) (hl:σ.length=s.sl.length) (hq:∀u H',Rel G E σ (τ++ [u]) H' s (θ++ [.d x])→Q u H') (r:Rep G p x v):Q v p.H:=
 hq v _ (.snoc (h.push r) hl rfl)
theorem du {ds:List D} {vs:List V} {a:Addr} (h:Sm G E s.sl.length p (σ++τ.map some) (s.sl++θ.map some) s.st) (hl:σ.length=s.sl.length) (hq:∀u H',Rel G E σ (τ++ [u]) H' s (θ++ [.own (.lst ds)])→Q u H') (hn:p.H a=none) (r:Reps G p ds vs):Q (.ref a) (upd p.H a (.lst vs)):=
 hq _ _ (.snoc (h.allocOwn hn ⟨vs,upd_same,r.mono (gZ hn)⟩) hl rfl)
theorem vU {ds:List (Key×D)} {vs:List (Key×V)} {a:Addr} (h:Sm G E s.sl.length p (σ++τ.map some) (s.sl++θ.map some) s.st) (hl:σ.length=s.sl.length) (hq:∀u H',Rel G E σ (τ++ [u]) H' s (θ++ [.own (.dct ds)])→Q u H') (hn:p.H a=none) (r:RepK G p ds vs):Q (.ref a) (upd p.H a (.dK vs)):=
 hq _ _ (.snoc (h.allocOwn hn ⟨vs,upd_same,r.mono (gZ hn)⟩) hl rfl)
theorem vT {ds:List D} {vs:List V} {a:Addr} (h:Sm G E s.sl.length p (σ++τ.map some) (s.sl++θ.map some) s.st) (hl:σ.length=s.sl.length) (hq:∀u H',Rel G E σ (τ++ [u]) H' s (θ++ [.d (.tup ds)])→Q u H') (hn:p.H a=none) (r:Reps G p ds vs):Q (.ref a) (upd p.H a (.tup vs)):=
 hq _ _ (.snoc ((h.alloc hn).push (x:= .tup ds) ⟨a,vs,rfl,⟨(h.fresh hn).2,upd_same⟩,r.mono (cE hn)⟩) hl rfl)
theorem cN (hl:σ.length=s.sl.length) (h:Sm G E s.sl.length p ((σ++τ.map some)++ [some v]) ((s.sl++θ.map some)++ [some a]) s.st):Sm G E s.sl.length p (σ++τ.map some) (s.sl++θ.map some) s.st∧(∀x,s.cont a=some x→Cont G p x v)∧Rv G p s.sl.length ((σ++τ.map some)++ [some v]) (s.sl++θ.map some).length a v:=by
 have l:=aA h.len
 refine ⟨h.pop1 (bI hl),fun x c=>?_, ?_⟩
 ·rw [List.append_assoc (as:=s.sl)] at h
  exact h.cont rfl (k:=(s.sl++θ.map some).length) (by rw [←List.append_assoc]; exact af) (by rw [←l]; exact af) c
 ·obtain ⟨u,e1,r⟩:=h.ent _ _ af
  rw [←l,af] at e1; cases e1
  exact r
theorem eA (hl:σ.length=s.sl.length) (h:Sm G E s.sl.length p (((σ++τ.map some)++ [some v])++ [some u]) (((s.sl++θ.map some)++ [some a])++ [some b]) s.st):
  Sm G E s.sl.length p (σ++τ.map some) (s.sl++θ.map some) s.st∧(∀x,s.cont a=some x→Cont G p x v)∧(∀x,s.cont b=some x→Cont G p x u):=by
 have h1:=h.pop1 (by simp; omega)
 obtain ⟨h2,c1,_⟩:=cN hl h1
 refine ⟨h2,c1,fun x c=>?_⟩
 have l:=aA h.len
 rw [List.append_assoc (as:=s.sl),List.append_assoc (as:=s.sl)] at h
 exact h.cont rfl (k:=((s.sl++θ.map some)++ [some a]).length) (by rw [←List.append_assoc (as:=s.sl),←List.append_assoc (as:=s.sl)]; exact af) (by rw [←l]; exact af) c
def zC (x:D):SD→R Vl:=fun s=> .ok (.d x) s
def aa (i:Nat):SD→R Vl:=fun s=>match s.sl[i]? with
 | some (some (.own _))=> .ok (.loc i) s
 | some (some (.d x))=> .ok (.d x) s
 | _=> .bad
theorem RE.c (hx:∀p:Wr,Rep G p x v):RE G W (tC v) (zC x):=fun _ _ _ _ _ _ _ _ hR hw=>hw _ _ (hR.push hx)
theorem aaa {i:Nat}:RE G W (tVar i) (aa i):=by
 intro E σ τ H s θ Q hN hR hw
 obtain ⟨p,rfl,hl,h⟩:=hR
 unfold aa at hw
 have hs:∀{e:Option Vl},s.sl[i]? =some e→(s.sl++θ.map some)[i]? =some e:=fun q=>by rw [List.getElem?_append_left (ai q)]; exact q
 have go:∀{e:Vl},s.sl[i]? =some (some e)→∃v,σ[i]? =some (some v)∧(σ++τ.map some)[i]? =some (some v)∧Rv G p s.sl.length (σ++τ.map some) i e v:=fun {e} q=>by
  obtain ⟨v,e1,r⟩:=h.ent i e (hs q)
  refine ⟨v, ?_,e1,r⟩
  rw [List.getElem?_append_left (by rw [hl]; exact ai q)] at e1
  exact e1
 cases q:s.sl[i]? with
 | none=>rw [q] at hw; exact hw.elim
 | some o=>
  rw [q] at hw
  cases o with
  | none=>exact hw.elim
  | some e=>
   obtain ⟨v,e1,e2,r⟩:=go q
   cases e with
   | d x=>exact ⟨v,e1,hw v _ (.snoc (h.push r) hl rfl)⟩
   | own x=>exact ⟨v,e1,hw v _ (.snoc (h.pushLoc (by simp; omega) (ai q) (hs q) e2) hl rfl)⟩
   | loc j=>exact hw.elim
end
def SD.fix (s:SD):Vl→R D
 | .d x=> .ok x s
 | .own x=> .ok x s
 | .loc k=>match s.sl[k]? with
  | some (some (.own x))=> .ok x {s with sl:=s.sl.set k (some (.d x))}
  | some (some (.d x))=> .ok x s
  | _=> .bad
def SD.celled (s:SD):Vl→R D
 | .d (.cell i)=> .ok (.cell i) s
 | .own x=> .ok (.cell s.st.nx) {s with st:=s.st.new x}
 | .loc k=>match s.sl[k]? with
  | some (some (.own x))=> .ok (.cell s.st.nx) ⟨s.sl.set k (some (.d (.cell s.st.nx))),s.st.new x⟩
  | some (some (.d (.cell i)))=> .ok (.cell i) s
  | _=> .bad
 | _=> .bad
def SD.frz (s:SD):Vl→R D
 | .d (.cell i)=>match s.st.get i with
  | some x=> .ok x {s with st:=s.st.del i}
  | none=> .bad
 | _=> .bad
def wC (g:SD→Vl→R D) (fa:SD→R Vl):SD→R Vl:=fun s=>(fa s).bind fun a s1=>(g s1 a).bind fun x s2=> .ok (.d x) s2
abbrev aZ:=wC SD.fix
abbrev dk:=wC SD.celled
abbrev zFrz:=wC SD.frz
section
variable {G:Gc} {W:WX} {E:En} {σ:L2.St} {τ:List V} {H:Hp} {s s' :SD} {θ:List Vl} {v u:V} {a b:Vl} {x y:D} {p:Wr} {Q:VK} {m:Nat} {w:List (Option V)} {S:Sto} {k:Nat} {l:List (Option Vl)}
theorem iq {α:Type} {l:List α} {x y:α}:(l++ [x]).set l.length y=l++ [y]:=by
 rw [List.set_append_right _ _ (Nat.le_refl _)]
 simp
theorem cz {α:Type} {l r:List α} {x:α} {k:Nat} (h:k<l.length):(l++r).set k x=l.set k x++r:=List.set_append_left _ _ h
theorem Sm.slot {e:Vl} (h:Sm G E m p w (s.sl++l) S) (q:s.sl[k]? =some (some e)):(s.sl++l)[k]? =some (some e)∧∃v,w[k]? =some (some v)∧Rv G p m w k e v:=by
 have hs:(s.sl++l)[k]? =some (some e):=by rw [List.getElem?_append_left (ai q)]; exact q
 exact ⟨hs,h.ent k e hs⟩
def Fits (G:Gc) (g:SD→Vl→R D):Prop:=∀(E:En) (s:SD) (a:Vl) (x:D) (s' :SD) (p:Wr) (w:List (Option V)) (l:List (Option Vl)) (v:V),g s a= .ok x s'→
 Sm G E s.sl.length p (w++ [some v]) ((s.sl++l)++ [some a]) s.st→s.sl.length≤w.length→
 ∃p' :Wr,p'.H=p.H∧s'.sl.length=s.sl.length∧Sm G E s'.sl.length p' (w++ [some v]) ((s'.sl++l)++ [some (.d x)]) s'.st
theorem Bg:Fits G SD.fix:=by
 intro E s a x s' p w l v c h hm
 have ll:=aA h.len
 cases a with
 | d y=>
  cases c
  exact ⟨p,rfl,rfl,h⟩
 | own y=>
  cases c
  obtain ⟨u,e1,a,rfl,r⟩:=h.ent _ _ af
  have q:=h.settle (k:=(s.sl++l).length) (x:=x) (a:=a) af e1
  rw [iq] at q
  exact ⟨_,(by rfl),(by rfl),q⟩
 | loc k=>
  unfold SD.fix at c
  dsimp only at c
  obtain ⟨u,e1,r0,r1,r2⟩:=h.ent _ _ (af (l:=s.sl++l))
  rw [←ll,af] at e1
  cases e1
  cases q1:s.sl[k]? with
  | none=>rw [q1] at c; cases c
  | some o=>
   cases o with
   | none=>rw [q1] at c; cases c
   | some z=>
    rw [q1] at c
    rw [List.append_assoc] at h
    obtain ⟨hs,u,e2,r⟩:=h.slot q1
    rw [r2] at e2; cases e2
    cases z with
    | d y=>
     cases c
     rw [←List.append_assoc] at h
     exact ⟨p,rfl,rfl,(h.pop1 hm).push r⟩
    | own y=>
     cases c
     obtain ⟨a,rfl,r⟩:=r
     have q:=h.settle hs r2
     rw [cz (ai q1),←List.append_assoc] at q
     obtain ⟨u,e3,r3⟩:=q.ent k (.d _) (by rw [List.append_assoc,List.getElem?_append_left (by simpa using ai q1)]; exact uT (ai q1))
     rw [r2] at e3
     cases e3
     have q' :=(q.pop1 hm).push r3
     refine ⟨{p with O:=fun b=>p.O b∧b≠a},rfl,List.length_set, ?_⟩
     show Sm G E (s.sl.set _ _).length _ _ _ _
     rw [List.length_set]
     exact q'
    | loc j=>cases c
theorem BM:Fits G SD.celled:=by
 intro E s a x s' p w l v c h hm
 have ll:=aA h.len
 cases a with
 | d y=>
  cases y with
  | cell i=>cases c; exact ⟨p,rfl,rfl,h⟩
  | _=>cases c
 | own y=>
  cases c
  obtain ⟨u,e1,a,rfl,r⟩:=h.ent _ _ af
  have q:=h.celled (k:=(s.sl++l).length) (x:=y) (a:=a) af e1
  rw [iq] at q
  exact ⟨_,(by rfl),(by rfl),q⟩
 | loc k=>
  unfold SD.celled at c
  dsimp only at c
  obtain ⟨u,e1,r0,r1,r2⟩:=h.ent _ _ (af (l:=s.sl++l))
  rw [←ll,af] at e1
  cases e1
  cases q1:s.sl[k]? with
  | none=>rw [q1] at c; cases c
  | some o=>
   cases o with
   | none=>rw [q1] at c; cases c
   | some z=>
    rw [q1] at c
    rw [List.append_assoc] at h
    obtain ⟨hs,u,e2,r⟩:=h.slot q1
    rw [r2] at e2; cases e2
    cases z with
    | d y=>
     cases y with
     | cell i=>
      cases c
      rw [←List.append_assoc] at h
      exact ⟨p,rfl,rfl,(h.pop1 hm).push r⟩
     | _=>cases c
    | own y=>
     cases c
     obtain ⟨a,rfl,r⟩:=r
     have q:=h.celled hs r2
     rw [cz (ai q1),←List.append_assoc] at q
     obtain ⟨u,e3,r3⟩:=q.ent k (.d (.cell s.st.nx)) (by rw [List.append_assoc,List.getElem?_append_left (by simpa using ai q1)]; exact uT (ai q1))
     rw [r2] at e3
     cases e3
     have q' :=(q.pop1 hm).push r3
     refine ⟨{p with γ:=fun i=>if i=s.st.nx then a else p.γ i,n:=s.st.nx+1},rfl,List.length_set, ?_⟩
     show Sm G E (s.sl.set _ _).length _ _ _ _
     rw [List.length_set]
     exact q'
    | loc j=>cases c
theorem frz_ok:Fits G SD.frz:=by
 intro E s a x s' p w l v c h hm
 cases a with
 | d y=>
  cases y with
  | cell i=>
   unfold SD.frz at c
   dsimp only at c
   cases q1:s.st.get i with
   | none=>rw [q1] at c; cases c
   | some z=>
    rw [q1] at c
    cases c
    have q:=h.freeze (k:=(s.sl++l).length) q1 af
    rw [iq] at q
    exact ⟨_,(by rfl),(by rfl),q⟩
  | _=>cases c
 | own y=>cases c
 | loc k=>cases c
theorem RE.via {g:SD→Vl→R D} {ta:TE} {fa:SD→R Vl} (hg:Fits G g) (nx:∀s a c fs s',g s a≠ .ex c fs s') (ha:RE G W ta fa):RE G W ta (wC g fa):=by
 intro E σ τ H s θ Q hN hR hw
 unfold wC at hw
 rw [ae] at hw
 refine ha E σ τ H s θ _ hN hR (hw.mono (fun a s1 hw v H1 h1=>?_) fun _ _ _ h=>h)
 rw [ae] at hw
 obtain ⟨p,rfl,hl,h⟩:=h1.unsnoc
 cases e:g s1 a with
 | bad=>rw [e] at hw; exact hw.elim
 | ex c fs s2=>exact (nx _ _ _ _ _ e).elim
 | ok x s2=>
  rw [e] at hw
  obtain ⟨p',hp,hs,h'⟩:=hg E s1 a x s2 p _ _ v e h (bI hl)
  exact hw v _ (hp ▸ .snoc h' (hl.trans hs.symm) rfl)
theorem xx:∀(s:SD) (a:Vl) c fs s',s.fix a≠ .ex c fs s' :=by
 intro s a c fs s'
 cases a with
 | d x=>intro q; cases q
 | own x=>intro q; cases q
 | loc k=>
  unfold SD.fix
  dsimp only
  split<;> intro q<;> cases q
theorem BN:∀(s:SD) (a:Vl) c fs s',s.celled a≠ .ex c fs s' :=by
 intro s a c fs s'
 cases a with
 | d x=>cases x<;> intro q<;> cases q
 | own x=>intro q; cases q
 | loc k=>
  unfold SD.celled
  dsimp only
  split<;> intro q<;> cases q
theorem frz_nx:∀(s:SD) (a:Vl) c fs s',s.frz a≠ .ex c fs s' :=by
 intro s a c fs s'
 unfold SD.frz
 split
 ·split<;> intro q<;> cases q
 ·intro q; cases q
theorem RE.fix {ta:TE} {fa:SD→R Vl} (ha:RE G W ta fa):RE G W ta (aZ fa):=RE.via Bg xx ha
theorem RE.cell {ta:TE} {fa:SD→R Vl} (ha:RE G W ta fa):RE G W ta (dk fa):=RE.via BM BN ha
theorem RE.frz {ta:TE} {fa:SD→R Vl} (ha:RE G W ta fa):RE G W ta (zFrz fa):=RE.via frz_ok frz_nx ha
def zA0:SD→R (List D):=fun s=> .ok [] s
def zA (fa:SD→R Vl) (fr:SD→R (List D)):SD→R (List D):=fun s=>(fa s).bind fun a s1=>(s1.fix a).bind fun x s2=>(fr s2).bind fun xs s3=> .ok (x::xs) s3
theorem RA.nil:RA G W tNil zA0:=by
 intro E σ τ H s θ Q hN hR hw
 exact hw [] H (by simpa using hR)
theorem RA.cons {ta:TE} {t:TA} {fa:SD→R Vl} {fr:SD→R (List D)} (ha:RE G W ta fa) (hr:RA G W t fr):RA G W (tCons ta t) (zA fa fr):=by
 intro E σ τ H s θ Q hN hR hw
 refine RE.fix ha E σ τ H s θ _ hN hR ?_
 unfold zA at hw
 rw [ae] at hw
 unfold aZ wC
 rw [ae]
 refine hw.mono (fun a s1 hw=>?_) fun _ _ _ h=>h
 rw [ae] at hw ⊢
 refine hw.mono (fun x s2 hw=>?_) fun _ _ _ h=>h
 rw [ae] at hw
 intro v H1 h1
 refine hr E σ _ H1 s2 _ _ hN.d h1 (hw.mono (fun xs s3 hw vs H2 h2=>?_) fun _ _ _ h=>h.up)
 exact hw (v::vs) H2 (by simpa using h2)
theorem Rel.args {vs:List V} {ds:List D} (ht:τ.length=θ.length) (h:Rel G E σ (τ++vs) H s (θ++ds.map .d)):∃p:Wr,p.H=H∧σ.length=s.sl.length∧Sm G E s.sl.length p (σ++τ.map some) (s.sl++θ.map some) s.st∧Reps G p ds vs:=by
 obtain ⟨p,e,hl,h⟩:=h
 rw [List.map_append,List.map_append,←List.append_assoc,←List.append_assoc] at h
 have l:(σ++τ.map some).length=(s.sl++θ.map some).length:=by simp [hl,ht]
 refine ⟨p,e,hl,h.pop l (bI hl), ?_⟩
 have len:=h.len
 refine .of (by simp at len; omega) fun i d v e1 e2=>?_
 obtain ⟨u,e3,r⟩:=h.ent ((s.sl++θ.map some).length+i) (.d d) (by rw [List.getElem?_append_right (by omega)]; simp [e1])
 rw [←l,List.getElem?_append_right (by omega)] at e3
 simp [e2] at e3
 subst e3
 exact r
def dj (fr:SD→R (List D)):SD→R Vl:=fun s=>(fr s).bind fun xs s1=> .ok (.d (.tup xs)) s1
def cM (fr:SD→R (List D)):SD→R Vl:=fun s=>(fr s).bind fun xs s1=> .ok (.own (.lst xs)) s1
def Many (fr:SD→R (List D)) (n:Nat):Prop:=∀s xs s',fr s= .ok xs s'→xs.length=n
theorem Many.nil:Many zA0 0:=fun s xs s' e=>by cases e; rfl
theorem Many.cons {fa:SD→R Vl} {fr:SD→R (List D)} {n:Nat} (h:Many fr n):Many (zA fa fr) (n+1):=fun s xs s' e=>by
 unfold zA at e
 cases q1:fa s with
 | bad=>rw [q1] at e; cases e
 | ex c fs s1=>rw [q1] at e; cases e
 | ok a s1=>
  rw [q1] at e
  have e:((s1.fix a).bind fun x s2=>(fr s2).bind fun xs s3=> .ok (x::xs) s3)= .ok xs s' :=e
  cases q2:s1.fix a with
  | bad=>rw [q2] at e; cases e
  | ex c fs s1=>rw [q2] at e; cases e
  | ok x s2=>
   rw [q2] at e
   have e:((fr s2).bind fun xs s3=> .ok (x::xs) s3)= .ok xs s' :=e
   cases q3:fr s2 with
   | bad=>rw [q3] at e; cases e
   | ex c fs s1=>rw [q3] at e; cases e
   | ok ys s3=>
    rw [q3] at e
    cases e
    simp [h _ _ _ q3]
theorem Wp.eq {α:Type} {m:R α} {Q:α→SD→Prop} {E:XQ} (h:Wp m Q E):Wp m (fun a s=>m= .ok a s∧Q a s) E:=by
 cases m with
 | ok a s=>exact ⟨rfl,h⟩
 | ex c fs s=>exact h
 | bad=>exact h
theorem RE.tup {t:TA} {fr:SD→R (List D)} {n:Nat} (hr:RA G W t fr) (hm:Many fr n) (hn:n≤sizeLine):RE G W (tTup t) (dj fr):=by
 intro E σ τ H s θ Q hN hR hw
 unfold dj at hw
 rw [ae] at hw
 refine hr E σ τ H s θ _ hN hR (hw.eq.mono (fun xs s1 ⟨e,hw⟩ vs H1 h1=>?_) fun _ _ _ h=>h)
 obtain ⟨p,rfl,hl,h,r⟩:=h1.args hR.tlen
 exact ⟨by rw [r.len,hm _ _ _ e]; exact hn,fun a hn=>vT h hl hw hn r⟩
theorem RE.lst {t:TA} {fr:SD→R (List D)} {n:Nat} (hr:RA G W t fr) (hm:Many fr n) (hn:n≤sizeLine):RE G W (tLst t) (cM fr):=by
 intro E σ τ H s θ Q hN hR hw
 unfold cM at hw
 rw [ae] at hw
 refine hr E σ τ H s θ _ hN hR (hw.eq.mono (fun xs s1 ⟨e,hw⟩ vs H1 h1=>?_) fun _ _ _ h=>h)
 obtain ⟨p,rfl,hl,h,r⟩:=h1.args hR.tlen
 exact ⟨by rw [r.len,hm _ _ _ e]; exact hn,fun a hn=>du h hl hw hn r⟩
def ku:SD→R Vl:=fun s=> .ok (.own (.dct [])) s
theorem aaq:RE G W tDNewK ku:=by
 intro E σ τ H s θ Q hN hR hw
 obtain ⟨p,rfl,hl,h⟩:=hR
 exact fun a hn=>vU h hl hw hn rfl
def oB:Vl→SD→R Bool
 | .d (.bl b),s=> .ok b s
 | _,_=> .bad
def zB (fa:SD→R Vl):SD→R Bool:=fun s=>(fa s).bind oB
theorem RT.val {ta:TE} {fa:SD→R Vl} (ha:RE G W ta fa):RT G W (fun σ H Q=>ta σ H fun x H' =>∃k,x= .bl k∧Q k H') (zB fa):=by
 intro E σ τ H s θ Q hN hR hw
 unfold zB at hw
 rw [ae] at hw
 refine ha E σ τ H s θ _ hN hR (hw.mono (fun a s1 hw v H1 h1=>?_) fun _ _ _ h=>h)
 cases a with
 | d x=>
  cases x with
  | bl b=>
   obtain ⟨p,_,r⟩:=h1.last
   exact ⟨b,r,hw _ h1.pop⟩
  | _=>exact hw.elim
 | own x=>exact hw.elim
 | loc k=>exact hw.elim
noncomputable def oT (a:Vl) (s:SD):R Bool:=match s.cont a with
 | some .non=> .ok false s
 | some (.bl b)=> .ok b s
 | some (.int i)=> .ok (i != 0) s
 | some (.str z)=>if z.length≤sizeLine then .ok ((z.length:Int) != 0) s else .bad
 | some (.lst xs)=> .ok (!xs.isEmpty) s
 | some (.con xs)=> .ok (!xs.isEmpty) s
 | some (.tup xs)=> .ok (!xs.isEmpty) s
 | _=> .bad
noncomputable def zT (fa:SD→R Vl):SD→R Bool:=fun s=>(fa s).bind oT
theorem Reps.empty {ds:List D} {vs:List V} (h:Reps G p ds vs):vs.isEmpty=ds.isEmpty:=by
 cases ds with
 | nil=>rw [show vs= [] from h]; rfl
 | cons d r=>obtain ⟨v,r,rfl,_⟩:=h; rfl
def jF (f g:SD→R Bool):SD→R Bool:=fun s=>(f s).bind fun b s1=>if b=true then g s1 else .ok false s1
def zOr (f g:SD→R Bool):SD→R Bool:=fun s=>(f s).bind fun b s1=>if b=true then .ok true s1 else g s1
def uB (f:SD→R Bool):SD→R Bool:=fun s=>(f s).bind fun b s1=> .ok (!b) s1
theorem aal {t u:TT} {f g:SD→R Bool} (ha:RT G W t f) (hb:RT G W u g):RT G W (tAnd t u) (jF f g):=by
 intro E σ τ H s θ Q hN hR hw
 unfold jF at hw
 rw [ae] at hw
 refine ha E σ τ H s θ _ hN hR (hw.mono (fun b s1 hw H1 h1=>?_) fun _ _ _ h=>h)
 split
 ·rename_i c; rw [if_pos c] at hw; exact hb E σ τ H1 s1 θ _ hN h1 hw
 ·rename_i c; rw [if_neg c] at hw; exact hw _ h1
theorem RT.or {t u:TT} {f g:SD→R Bool} (ha:RT G W t f) (hb:RT G W u g):RT G W (tOr t u) (zOr f g):=by
 intro E σ τ H s θ Q hN hR hw
 unfold zOr at hw
 rw [ae] at hw
 refine ha E σ τ H s θ _ hN hR (hw.mono (fun b s1 hw H1 h1=>?_) fun _ _ _ h=>h)
 split
 ·rename_i c; rw [if_pos c] at hw; exact hw _ h1
 ·rename_i c; rw [if_neg c] at hw; exact hb E σ τ H1 s1 θ _ hN h1 hw
theorem aam {t:TT} {f:SD→R Bool} (ha:RT G W t f):RT G W (tNot t) (uB f):=by
 intro E σ τ H s θ Q hN hR hw
 unfold uB at hw
 rw [ae] at hw
 exact ha E σ τ H s θ _ hN hR (hw.mono (fun b s1 hw H1 h1=>hw _ h1) fun _ _ _ h=>h)
def mn (fa fb:SD→R Vl):SD→R Vl:=fun s=>(zB fa s).bind fun b s1=>if b=true then fb s1 else .ok (.d (.bl false)) s1
def zOrV (fa fb:SD→R Vl):SD→R Vl:=fun s=>(zB fa s).bind fun b s1=>if b=true then .ok (.d (.bl true)) s1 else fb s1
def yt (fa:SD→R Vl):SD→R Vl:=fun s=>(zB fa s).bind fun b s1=> .ok (.d (.bl (!b))) s1
def zIf (c:SD→R Bool) (fa fb:SD→R Vl):SD→R Vl:=fun s=>(c s).bind fun b s1=>if b=true then fa s1 else fb s1
theorem RE.andV {ta tb:TE} {fa fb:SD→R Vl} (ha:RE G W ta fa) (hb:RE G W tb fb):RE G W (tAndV ta tb) (mn fa fb):=by
 intro E σ τ H s θ Q hN hR hw
 unfold mn at hw
 rw [ae] at hw
 refine RT.val ha E σ τ H s θ _ hN hR (hw.mono (fun b s1 hw H1 h1=>?_) fun _ _ _ h=>h)
 split
 ·rename_i c; rw [if_pos c] at hw; exact hb E σ τ H1 s1 θ _ hN h1 hw
 ·rename_i c; rw [if_neg c] at hw; exact hw _ _ (h1.push fun _=>rfl)
theorem RE.orV {ta tb:TE} {fa fb:SD→R Vl} (ha:RE G W ta fa) (hb:RE G W tb fb):RE G W (tOrV ta tb) (zOrV fa fb):=by
 intro E σ τ H s θ Q hN hR hw
 unfold zOrV at hw
 rw [ae] at hw
 refine RT.val ha E σ τ H s θ _ hN hR (hw.mono (fun b s1 hw H1 h1=>?_) fun _ _ _ h=>h)
 split
 ·rename_i c; rw [if_pos c] at hw; exact hw _ _ (h1.push fun _=>rfl)
 ·rename_i c; rw [if_neg c] at hw; exact hb E σ τ H1 s1 θ _ hN h1 hw
theorem aat {ta:TE} {fa:SD→R Vl} (ha:RE G W ta fa):RE G W (tNotV ta) (yt fa):=by
 intro E σ τ H s θ Q hN hR hw
 unfold yt at hw
 rw [ae] at hw
 exact RT.val ha E σ τ H s θ _ hN hR (hw.mono (fun b s1 hw H1 h1=>hw _ _ (h1.push fun _=>rfl)) fun _ _ _ h=>h)
theorem RE.if' {c:TT} {ta tb:TE} {fc:SD→R Bool} {fa fb:SD→R Vl} (hc:RT G W c fc) (ha:RE G W ta fa) (hb:RE G W tb fb):RE G W (tIf c ta tb) (zIf fc fa fb):=by
 intro E σ τ H s θ Q hN hR hw
 unfold zIf at hw
 rw [ae] at hw
 refine hc E σ τ H s θ _ hN hR (hw.mono (fun b s1 hw H1 h1=>?_) fun _ _ _ h=>h)
 split
 ·rename_i c; rw [if_pos c] at hw; exact ha E σ τ H1 s1 θ _ hN h1 hw
 ·rename_i c; rw [if_neg c] at hw; exact hb E σ τ H1 s1 θ _ hN h1 hw
end
section
variable {X:Cx}
theorem OpR.or {f:Value→Value→Sem Value} {r r' :R2} (h:OpR X f r) (h' :OpR X f r'):OpR X f (fun x y H Q=>r x y H Q∨r' x y H Q):=by
 intro pins s σ H x y v u Q I rx ry q
 rcases q with q | q
 ·exact h pins s σ H x y v u Q I rx ry q
 ·exact h' pins s σ H x y v u Q I rx ry q
theorem CallR.or {f:Value} {r r' :List V→Hp→VK→Prop} (h:CallR X f r) (h' :CallR X f r'):CallR X f (fun xs H Q=>r xs H Q∨r' xs H Q):=by
 intro pins s σ H xs us Q I rv q
 rcases q with q | q
 ·exact h pins s σ H xs us Q I rv q
 ·exact h' pins s σ H xs us Q I rv q
def rDIn (neg:Bool):R2:=fun y x H Q=>∃a o,x= .ref a∧DGet H a y o∧Q (.bl (if neg then !o.isSome else o.isSome)) H
theorem op_inD (hu:X.A.units+1<cLine):OpR X (compareOp .In) (rDIn false):=by
 intro pins s σ H y x u v Q I ry rx q
 obtain ⟨a,o,rfl,g,q⟩:=q
 obtain rfl:v=Value.ref a:=rx
 exact d_in hu I g ry fun s3 I3=>⟨.bl o.isSome,H,I3,rfl,q⟩
theorem Ag (hu:X.A.units+1<cLine):OpR X (compareOp .NotIn) (rDIn true):=by
 intro pins s σ H y x u v Q I ry rx q
 obtain ⟨a,o,rfl,g,q⟩:=q
 obtain rfl:v=Value.ref a:=rx
 exact d_notIn hu I g ry fun s3 I3=>⟨.bl (!o.isSome),H,I3,rfl,q⟩
def rIxD:R2:=fun x y H Q=>∃a v,x= .ref a∧DGet H a y (some v)∧Q v H
theorem ix_dict (hu:X.A.units+1<cLine):IxR X rIxD:=by
 intro value slice pins s σ H x y v u Q I rx ry h hs
 obtain ⟨a,z,rfl,g,q⟩:=h
 obtain rfl:v=Value.ref a:=rx
 have hT:=dict_typeIs I g
 unfold subscriptTail
 refine wpAny_bind ?_
 rw [getitemInPython_of_ne hT.not_modules]
 refine wpAny_bind (wpAny_specialOf hT PySem.F.slot_dict_getitem.lookup ?_)
 have fin:wpAny (model X.prog X.w) X.A (subscripted slice false (.ref a) u) (fun r s₃=>wpAny (model X.prog X.w) X.A (letTemporaryGo value (.ref a) r >>= fun _=>pure r) (EP X pins σ Q) X.xe s₃) X.xe s:=by
  rw [hs]
  exact wpAny_operating (d_getItem hu I g ry fun w' s3 I3 r3=>wpAny_bind (wpAny_letTemporaryGo (wpAny_pure ⟨z,H,I3,r3,q⟩)))
 first
  | exact wpAny_pure (wpAny_bind fin)
  | exact wpAny_bind (wpAny_pure (wpAny_bind fin))
  | exact wpAny_bind fin
def rLenDR:List V→Hp→VK→Prop:=fun xs H Q=>∃a,∃kvs:List (Key×V),xs= [V.ref a]∧Rd H a (.dK kvs)∧Q (.int kvs.length) H
theorem DR:CallR X (.builtin "len") rLenDR:=by
 intro pins s σ H xs us Q I rv q
 obtain ⟨a,kvs,rfl,e,q⟩:=q
 cases rv with
 | cons r rr=>
  cases rr
  obtain rfl:_=Value.ref a:=r
  exact d_len I e fun t s' I' =>⟨.int kvs.length,H,I',⟨t,rfl⟩,q⟩
def rNeDR (neg:Bool):R2:=fun x y H Q=>∃a b,∃ks:List (Key×V),x= .ref a∧y= .ref b∧Rd H a (.dK ks)∧Rd H b (.dK [])∧Q (.bl (if neg then !ks.isEmpty else ks.isEmpty)) H
theorem op_neDR (hu:X.A.units<cLine):OpR X (compareOp .NotEq) (rNeDR true):=by
 intro pins s σ H x y v u Q I rx ry h
 obtain ⟨a,b,ks,rfl,rfl,ea,eb,q⟩:=h
 obtain rfl:v=Value.ref a:=rx
 obtain rfl:u=Value.ref b:=ry
 obtain ⟨_,ya,va,ra,da⟩:=dk_rd I.hok ea
 obtain ⟨_,yb,vb,rb,db⟩:=dk_rd I.hok eb
 have hb:vb.length=0:=by rw [←rb.length]; rfl
 have ha:va.length=ks.length:=ra.length.symm
 refine PySem.W.keq_ne (knd:=mixKind X.prog X.w) (r:=true) ya yb da db hu (fun hl=>?_) (fin_bl I q ?_)
 ·have h0:ks= []:=List.eq_nil_of_length_eq_zero (by omega)
  subst h0
  exact hits_all rb ra (fun p hp=>nomatch hp)
 ·rw [ha,hb]
  cases ks with
  | nil=>rfl
  | cons a r=>simp
def CO (neg:Bool):R2:=fun x y H Q=>∃a b,∃ks ls:List (Key×V),x= .ref a∧y= .ref b∧Rd H a (.dK ks)∧Rd H b (.dK ls)∧ks.length=ls.length∧(∀p∈ks,valV ls p.1=some p.2∧flatB p.2=true)∧Q (.bl (!neg)) H
theorem op_eqDD (hu:X.A.units<cLine):OpR X (compareOp .Eq) (CO false):=by
 intro pins s σ H x y v u Q I rx ry h
 obtain ⟨a,b,ks,ls,rfl,rfl,ea,eb,hl,hp,q⟩:=h
 obtain rfl:v=Value.ref a:=rx
 obtain rfl:u=Value.ref b:=ry
 obtain ⟨_,ya,va,ra,da⟩:=dk_rd I.hok ea
 obtain ⟨_,yb,vb,rb,db⟩:=dk_rd I.hok eb
 have h2:va.length=vb.length:=ra.length.symm.trans (hl.trans rb.length)
 exact PySem.W.keq_eq (knd:=mixKind X.prog X.w) (r:=true) ya yb da db hu (fun _=>hits_all rb ra hp) (fin_bl I q (by simp [h2]))
theorem op_neDD (hu:X.A.units<cLine):OpR X (compareOp .NotEq) (CO true):=by
 intro pins s σ H x y v u Q I rx ry h
 obtain ⟨a,b,ks,ls,rfl,rfl,ea,eb,hl,hp,q⟩:=h
 obtain rfl:v=Value.ref a:=rx
 obtain rfl:u=Value.ref b:=ry
 obtain ⟨_,ya,va,ra,da⟩:=dk_rd I.hok ea
 obtain ⟨_,yb,vb,rb,db⟩:=dk_rd I.hok eb
 have h2:va.length=vb.length:=ra.length.symm.trans (hl.trans rb.length)
 exact PySem.W.keq_ne (knd:=mixKind X.prog X.w) (r:=true) ya yb da db hu (fun _=>hits_all rb ra hp) (fin_bl I q (by simp [h2]))
def rAddZ (K:PySem.W.Frag):R2:=fun x y H Q=>rI0 (fun i j=> .int (i+j)) x y H Q∨rAddS x y H Q∨rCat x y H Q∨rCatA K x y H Q
theorem ay {K:PySem.W.Frag} (hK:X.K=K:=by rfl):OpR X (binaryOp .Add) (rAddZ K):=OpR.or op_add (OpR.or Am (OpR.or op_cat (m_catA hK)))
def rManyS:R2:=fun x y H Q=>∃(z:Str) (i:Int),x= .str z∧y= .int i∧PySem.MulOk z i∧Q (.str (Txt.mul z i)) H
theorem CY:OpR X (binaryOp .Mult) rManyS:=by
 intro pins s σ H x y v u Q I rx ry h
 obtain ⟨z,i,rfl,rfl,hok,q⟩:=h
 obtain ⟨t,rfl⟩:=rx
 obtain ⟨t',rfl⟩:=ry
 exact PySem.SB.mul hok fun t2 k=>⟨.str (Txt.mul z i),H,I.tok _,⟨_,rfl⟩,q⟩
def rMulZ:R2:=fun x y H Q=>rI CMulX (fun i j=> .int (i*j)) x y H Q∨rRep x y H Q∨rManyS x y H Q
theorem dU:OpR X (binaryOp .Mult) rMulZ:=OpR.or op_mulX (OpR.or op_rep CY)
def rInZ (K:PySem.W.Frag) (neg:Bool):R2:=fun x y H Q=>rIn K neg x y H Q∨rInSg neg x y H Q∨zR neg x y H Q∨rDIn neg x y H Q
theorem op_inZ {K:PySem.W.Frag} (hu:X.A.units+64<cLine) (hK:X.K=K:=by rfl):OpR X (compareOp .In) (rInZ K false):=OpR.or (m_inS hK) (OpR.or Ak (OpR.or C1 (op_inD (by omega))))
theorem Af {K:PySem.W.Frag} (hu:X.A.units+64<cLine) (hK:X.K=K:=by rfl):OpR X (compareOp .NotIn) (rInZ K true):=OpR.or (Dj hK) (OpR.or tD (OpR.or vn (Ag (by omega))))
def qB (K:PySem.W.Frag) (r:Bool):R2:=fun x y H Q=>∃p z xs,x= .ref p∧y= .str z∧SqT K H p xs∧Q (.bl r) H
theorem op_eqTS {K:PySem.W.Frag} (hu:X.A.units<cLine) (hK:X.K=K:=by rfl):OpR X (compareOp .Eq) (qB K false):=by
 subst hK
 intro pins s σ H x y v u Q I rx ry h
 obtain ⟨p,z,xs,rfl,rfl,h1,k⟩:=h
 cases rx
 obtain ⟨t,rfl⟩:=ry
 obtain ⟨its,_,l1,_⟩:=I.tuple h1
 exact SeqAt.RcAt.tuple_str z t l1 hu X.prog X.w X.xe _ ⟨.bl _,H,I,rfl,k⟩
theorem op_neTS {K:PySem.W.Frag} (hu:X.A.units<cLine) (hK:X.K=K:=by rfl):OpR X (compareOp .NotEq) (qB K true):=by
 subst hK
 intro pins s σ H x y v u Q I rx ry h
 obtain ⟨p,z,xs,rfl,rfl,h1,k⟩:=h
 cases rx
 obtain ⟨t,rfl⟩:=ry
 obtain ⟨its,_,l1,_⟩:=I.tuple h1
 exact SeqAt.RcNeAt.tuple_str z t l1 hu X.prog X.w X.xe _ ⟨.bl _,H,I,rfl,k⟩
def rEqZ (K:PySem.W.Frag):R2:=fun x y H Q=>rEq x y H Q∨wU K false x y H Q∨rEqD K x y H Q∨CO false x y H Q∨qB K false x y H Q
theorem op_eqZ {K:PySem.W.Frag} (hu:X.A.units+64<cLine) (hK:X.K=K:=by rfl):OpR X (compareOp .Eq) (rEqZ K):=OpR.or op_eq (OpR.or (hK ▸ CZ hu) (OpR.or (m_eqD hu hK) (OpR.or (op_eqDD (by omega)) (op_eqTS (by omega) hK))))
def rNeZ (K:PySem.W.Frag):R2:=fun x y H Q=>rNe x y H Q∨wU K true x y H Q∨rNeD K x y H Q∨rNeDR true x y H Q∨CO true x y H Q∨qB K true x y H Q
theorem op_neZ {K:PySem.W.Frag} (hu:X.A.units+64<cLine) (hK:X.K=K:=by rfl):OpR X (compareOp .NotEq) (rNeZ K):=OpR.or op_ne (OpR.or (hK ▸ CW hu) (OpR.or (m_neD hu hK) (OpR.or (op_neDR (by omega)) (OpR.or (op_neDD (by omega)) (op_neTS (by omega) hK)))))
def rIxZ (K:PySem.W.Frag):R2:=fun x y H Q=>rIxL K x y H Q∨rIxT K x y H Q∨rIxS x y H Q∨rIxD x y H Q
theorem ix_Z {K:PySem.W.Frag} (hu:X.A.units+64<cLine) (hK:X.K=K:=by rfl):IxR X (rIxZ K):=IxR.or (m_ixL hK) (IxR.or (m_ixT hK) (IxR.or ix_str (ix_dict (by omega))))
def CN (K:PySem.W.Frag):List V→Hp→VK→Prop:=fun xs H Q=>vk K xs H Q∨zO xs H Q∨rLenDR xs H Q
theorem bx {K:PySem.W.Frag} (hK:X.K=K:=by rfl):CallR X (.builtin "len") (CN K):=CallR.or (m_lenS hK) (CallR.or yj DR)
end
def D.sc:D→Option V
 | .non=>some .non
 | .bl b=>some (.bl b)
 | .int i=>some (.int i)
 | .str s=>some (.str s)
 | _=>none
def scs:List D→Option (List V)
 | []=>some []
 | d::ds=>match d.sc,scs ds with
  | some v,some vs=>some (v::vs)
  | _,_=>none
def D.key:D→Option Key
 | .int i=>some (.inl i)
 | .str s=>some (.inr s)
 | _=>none
mutual
def D.py:D→Option PyData
 | .non=>some .none
 | .bl b=>some (.bool b)
 | .int i=>some (.int i)
 | .str s=>some (.str s)
 | .lst ds=>match D.pys ds with
  | some xs=>some (.list xs)
  | none=>none
 | .tup ds=>match D.pys ds with
  | some xs=>some (.tuple xs)
  | none=>none
 | _=>none
def D.pys:List D→Option (List PyData)
 | []=>some []
 | d::ds=>match D.py d,D.pys ds with
  | some x,some xs=>some (x::xs)
  | _,_=>none
end
noncomputable def cj (a b:Vl) (s:SD):R Vl:=match s.cont a,s.cont b with
 | some (.int i),some (.int j)=> .ok (.d (.int (i+j))) s
 | some (.str x),some (.str y)=>if x.length+y.length≤sizeLine then .ok (.d (.str (x++y))) s else .bad
 | some (.lst xs),some (.lst ys)=>if xs.length+ys.length≤sizeLine then .ok (.own (.lst (xs++ys))) s else .bad
 | some (.tup xs),some (.tup ys)=>if xs≠ []∧ys≠ []∧xs.length+ys.length≤sizeLine then .ok (.d (.tup (xs++ys))) s else .bad
 | _,_=> .bad
def tE (a b:Vl) (s:SD):R Vl:=match s.cont a,s.cont b with
 | some (.int i),some (.int j)=> .ok (.d (.int (i - j))) s
 | _,_=> .bad
noncomputable def oQ (a b:Vl) (s:SD):R Vl:=match s.cont a,s.cont b with
 | some (.int i),some (.int j)=>if CMulX i j then .ok (.d (.int (i*j))) s else .bad
 | some (.lst xs),some (.int k)=>if -(2 ^ 63)≤k∧k<2 ^ 63∧xs.length*k.toNat≤sizeLine then .ok (.own (.lst (List.replicate k.toNat xs).flatten)) s else .bad
 | some (.str z),some (.int k)=>if PySem.MulOk z k then .ok (.d (.str (Txt.mul z k))) s else .bad
 | _,_=> .bad
noncomputable def dh (a b:Vl) (s:SD):R Vl:=match s.cont a,s.cont b with
 | some (.int i),some (.int j)=>if 0<j then .ok (.d (.int (i%j))) s else .bad
 | _,_=> .bad
noncomputable def fk (a b:Vl) (s:SD):R Vl:=match s.cont a,s.cont b with
 | some (.int i),some (.int j)=>if CDivW i j then .ok (.d (.int (i / j))) s else .bad
 | _,_=> .bad
noncomputable def B5 (a b:Vl) (s:SD):R Vl:=match s.cont a,s.cont b with
 | some (.int i),some (.int j)=>if sx i j then .ok (.d (.int (i ^ j.toNat))) s else .bad
 | _,_=> .bad
def oXor (a b:Vl) (s:SD):R Vl:=match s.cont a,s.cont b with
 | some (.int i),some (.int j)=> .ok (.d (.int (Builtin.bitXor i j))) s
 | _,_=> .bad
def C3 (f:Int→Int→Bool) (a b:Vl) (s:SD):R Vl:=match s.cont a,s.cont b with
 | some (.int i),some (.int j)=> .ok (.d (.bl (f i j))) s
 | _,_=> .bad
abbrev oLt:=C3 fun i j=>decide (i<j)
abbrev oLe:=C3 fun i j=>decide (i≤j)
abbrev oGt:=C3 fun i j=>decide (i > j)
abbrev oGe:=C3 fun i j=>decide (i≥j)
noncomputable def rM (ks ls:List (Key×D)):Bool:=decide (ks.length=ls.length)&&ks.all fun q=>match q.2.sc,(fS ls q.1).bind D.sc with
 | some v,some u=>decide (v=u)
 | _,_=>false
noncomputable def dEq (x y:D):Option Bool:=match x.sc,y.sc with
 | some v,some u=>if scal v u=true then some (decide (v=u)) else none
 | _,_=>match x,y with
  | .lst xs, .lst []=>some xs.isEmpty
  | .con xs, .lst []=>some xs.isEmpty
  | .dct ks, .dct ls=>if rM ks ls=true then some true else none
  | .tup _, .str _=>some false
  | x,y=>match x.py,y.py with
   | some d,some e=>if SeqAt.shaped d=true∧SeqAt.shaped e=true then some (PyData.eqv d e) else none
   | _,_=>none
noncomputable def oEq (a b:Vl) (s:SD):R Vl:=match s.cont a,s.cont b with
 | some x,some y=>match dEq x y with
  | some r=> .ok (.d (.bl r)) s
  | none=> .bad
 | _,_=> .bad
noncomputable def oNe (a b:Vl) (s:SD):R Vl:=match s.cont a,s.cont b with
 | some (.dct ks),some (.dct [])=> .ok (.d (.bl (!ks.isEmpty))) s
 | some x,some y=>match dEq x y with
  | some r=> .ok (.d (.bl (!r))) s
  | none=> .bad
 | _,_=> .bad
def gu (neg:Bool) (a b:Vl) (s:SD):R Vl:=match b with
 | .d .non=>match a with
  | .d .non=> .ok (.d (.bl (!neg))) s
  | .d _=> .ok (.d (.bl neg)) s
  | a=>match s.cont a with
   | some x=>if x.box=true then .ok (.d (.bl neg)) s else .bad
   | none=> .bad
 | _=> .bad
noncomputable def dIn (x y:D):Option Bool:=match y with
 | .lst ys=>match x.sc,scs ys with
  | some v,some vs=>some (inV v vs)
  | _,_=>none
 | .con ys=>match x.sc,scs ys with
  | some v,some vs=>some (inV v vs)
  | _,_=>none
 | .tup ys=>match x.sc,scs ys with
  | some v,some vs=>some (inV v vs)
  | _,_=>none
 | .str z=>match x with
  | .str w=>match w.cps.toList with
   | [c]=>some (decide (c∈z.cps.toList))
   | _=>some (!(Builtin.Str.occurrences z w 0 z.length 1).isEmpty)
  | _=>none
 | .dct ks=>match x.key with
  | some k=>some (fS ks k).isSome
  | none=>none
 | _=>none
noncomputable def oIn (neg:Bool) (a b:Vl) (s:SD):R Vl:=match s.cont a,s.cont b with
 | some x,some y=>match dIn x y with
  | some r=> .ok (.d (.bl (if neg then !r else r))) s
  | none=> .bad
 | _,_=> .bad
noncomputable def dIx (x y:D):Option D:=match x,y with
 | .lst xs, .int i=>atI xs i
 | .con xs, .int i=>atI xs i
 | .tup xs, .int i=>atI xs i
 | .str z, .int i=>if z.length≤sizeLine then (atI z.cps.toList i).map fun c=> .str ⟨#[c]⟩ else none
 | .dct ks,y=>match y.key with
  | some k=>fS ks k
  | none=>none
 | _,_=>none
noncomputable def oIx (a b:Vl) (s:SD):R Vl:=match s.cont a,s.cont b with
 | some x,some y=>match dIx x y with
  | some r=> .ok (.d r) s
  | none=> .bad
 | _,_=> .bad
noncomputable def jn (a:Vl) (s:SD):R Vl:=match s.cont a with
 | some (.lst xs)=> .ok (.d (.int xs.length)) s
 | some (.con xs)=> .ok (.d (.int xs.length)) s
 | some (.tup xs)=> .ok (.d (.int xs.length)) s
 | some (.str z)=>if z.length≤sizeLine then .ok (.d (.int z.length)) s else .bad
 | some (.dct ks)=> .ok (.d (.int ks.length)) s
 | _=> .bad
section
variable {G:Gc} {p:Wr} {v u:V} {x:D} {H:Hp}
theorem eC (h:Rep G p x v) (e:x.sc=some u):v=u:=by
 cases x with
 | non=>cases e; exact h
 | bl b=>cases e; exact h
 | int i=>cases e; exact h
 | str z=>cases e; exact h
 | _=>cases e
theorem jJ (e:x.sc=some u):x.box=false:=by cases x<;> first | rfl | cases e
theorem kD (e:x.sc=some u):flatV u=true:=by cases x<;> cases e<;> rfl
theorem kB:∀{ds:List D} {vs us:List V},Reps G p ds vs→scs ds=some us→vs=us
 | [],vs,us,h,e=>by cases e; exact h
 | d::ds,vs,us,h,e=>by
  obtain ⟨v,r,rfl,h1,h2⟩:=h
  unfold scs at e
  split at e
  ·rename_i u ws e1 e2
   cases e
   rw [eC h1 e1,kB h2 e2]
  ·cases e
theorem iu:∀{ds:List D} {us:List V},scs ds=some us→us.all flatV=true
 | [],us,e=>by cases e; rfl
 | d::ds,us,e=>by
  unfold scs at e
  split at e
  ·rename_i u ws e1 e2
   cases e
   rw [List.all_cons,kD e1,iu e2]
   rfl
  ·cases e
theorem nF {k:Key} (h:Rep G p x v) (e:x.key=some k):v=kV k:=by
 cases x with
 | int i=>cases e; exact h
 | str z=>cases e; exact h
 | _=>cases e
theorem vB {k:Key} (e:x.key=some k):x.box=false:=by cases x<;> first | rfl | cases e
mutual
theorem tj:∀{x:D} {v:V} {d:PyData},Rep G p x v→x.py=some d→Dp G.K p.H v d
 | .non,v,d,h,e=>by cases e; rw [show v= .non from h]; exact .non
 | .bl b,v,d,h,e=>by cases e; rw [show v= .bl b from h]; exact .bl b
 | .int b,v,d,h,e=>by cases e; rw [show v= .int b from h]; exact .int b
 | .str b,v,d,h,e=>by cases e; rw [show v= .str b from h]; exact .str b
 | .lst ds,v,d,h,e=>by
  obtain ⟨a,vs,rfl,⟨_,hh⟩,r⟩:=h
  unfold D.py at e
  split at e
  ·rename_i xs e1
   cases e
   exact .lst (.of hh) (mY r e1)
  ·cases e
 | .tup ds,v,d,h,e=>by
  obtain ⟨a,vs,rfl,⟨_,hh⟩,r⟩:=h
  unfold D.py at e
  split at e
  ·rename_i xs e1
   cases e
   exact .tup (.of hh) (mY r e1)
  ·cases e
 | .con _,_,_,_,e=>by cases e
 | .dct _,_,_,_,e=>by cases e
 | .obj _ _,_,_,_,e=>by cases e
 | .exc _ _,_,_,_,e=>by cases e
 | .odd _,_,_,_,e=>by cases e
 | .cell _,_,_,_,e=>by cases e
theorem mY:∀{ds:List D} {vs:List V} {xs:List PyData},Reps G p ds vs→D.pys ds=some xs→DpAll G.K p.H vs xs
 | [],vs,xs,h,e=>by cases e; rw [show vs= [] from h]; exact .nil
 | d::ds,vs,xs,h,e=>by
  obtain ⟨v,r,rfl,h1,h2⟩:=h
  unfold D.pys at e
  split at e
  ·rename_i u ws e1 e2
   cases e
   exact .cons (tj h1 e1) (mY h2 e2)
  ·cases e
end
theorem rN {d:PyData} (h:Cont G p x v) (e:x.py=some d):Dp G.K p.H v d:=by
 cases x with
 | lst ds=>
  obtain ⟨b,vs,rfl,hb,r⟩:=h.lst
  unfold D.py at e
  split at e
  ·rename_i xs e1
   cases e
   exact .lst (.of hb) (mY r e1)
  ·cases e
 | tup ds=>
  obtain ⟨b,vs,rfl,hb,r⟩:=h.tup
  unfold D.py at e
  split at e
  ·rename_i xs e1
   cases e
   exact .tup (.of hb) (mY r e1)
  ·cases e
 | non=>exact tj (h.sc rfl) e
 | bl b=>exact tj (h.sc rfl) e
 | int b=>exact tj (h.sc rfl) e
 | str b=>exact tj (h.sc rfl) e
 | con ds=>cases e
 | dct ds=>cases e
 | obj c ds=>cases e
 | exc c fs=>cases e
 | odd n=>cases e
 | cell i=>cases e
theorem DK {v:V} (e:x.sc=some v):flatB v=true:=by cases x<;> cases e<;> rfl
theorem nX:∀{ks ls:List (Key×D)} {vs us:List (Key×V)},RepK G p ks vs→RepK G p ls us→(ks.all fun q=>match q.2.sc,(fS ls q.1).bind D.sc with | some v,some u=>decide (v=u) | _,_=>false)=true→
  ∀q∈vs,valV us q.1=some q.2∧flatB q.2=true
 | [],_,vs,_,h,_,_,q,hq=>by rw [show vs= [] from h] at hq; cases hq
 | (k,d)::ks,ls,vs,us,h,h',e,q,hq=>by
  obtain ⟨v,r,rfl,h1,h2⟩:=h
  rw [List.all_cons,Bool.and_eq_true] at e
  rcases List.mem_cons.mp hq with rfl | hq
  ·have e1:=e.1
   split at e1
   ·rename_i v1 u1 s1 s2
    have e1:=of_decide_eq_true e1
    subst e1
    obtain ⟨d',g1,g2⟩:=Option.bind_eq_some_iff.mp s2
    obtain ⟨v',g3,g4⟩:=(h'.val (k:=k)).1 d' g1
    have a1:=eC h1 s1
    have a2:=eC g4 g2
    subst a1 a2
    exact ⟨g3,DK s1⟩
   ·cases e1
  ·exact nX h2 h' e.2 q hq
theorem nY {ks ls:List (Key×D)} (h:rM ks ls=true):ks.length=ls.length∧(ks.all fun q=>match q.2.sc,(fS ls q.1).bind D.sc with | some v,some u=>decide (v=u) | _,_=>false)=true:=by
 unfold rM at h
 rw [Bool.and_eq_true] at h
 exact ⟨of_decide_eq_true h.1,h.2⟩
theorem dEq_eq {r:Bool} (hx:Cont G p x v) (hy:Cont G p y u) (e:dEq x y=some r) (q:Q (.bl r) p.H):rEqZ G.K v u p.H Q:=by
 unfold dEq at e
 split at e
 ·rename_i v' u' e1 e2
  split at e
  ·rename_i hs
   cases e
   have h1:=eC (hx.sc (jJ e1)) e1
   have h2:=eC (hy.sc (jJ e2)) e2
   subst h1 h2
   exact .inl ⟨hs,q⟩
  ·cases e
 ·split at e
  ·cases e
   obtain ⟨b,vs,rfl,hb,r⟩:=hx.lst
   obtain ⟨b',vs',rfl,hb',r'⟩:=hy.lst
   obtain rfl:vs' = []:=r'
   exact .inr (.inl ⟨b,b',vs,rfl,rfl, .of hb, .of hb',by rw [r.empty]; exact q⟩)
  ·cases e
   obtain ⟨b,vs,rfl,hb,r⟩:=hx.con
   obtain ⟨b',vs',rfl,hb',r'⟩:=hy.lst
   obtain rfl:vs' = []:=r'
   exact .inr (.inl ⟨b,b',vs,rfl,rfl,hb, .of hb',by rw [r.empty]; exact q⟩)
  ·split at e
   ·rename_i hs
    cases e
    obtain ⟨b,vs,rfl,hb,r⟩:=hx.dct
    obtain ⟨b',vs',rfl,hb',r'⟩:=hy.dct
    obtain ⟨l1,l2⟩:=nY hs
    exact .inr (.inr (.inr (.inl ⟨b,b',vs,vs',rfl,rfl,hb,hb',by rw [r.len,r'.len]; exact l1,nX r r' l2,q⟩)))
   ·cases e
  ·cases e
   obtain ⟨b,vs,rfl,hb,r⟩:=hx.tup
   obtain rfl:=hy.str
   exact .inr (.inr (.inr (.inr ⟨b,_,vs,rfl,rfl, .of hb,q⟩)))
  ·split at e
   ·rename_i d e' e1 e2
    split at e
    ·rename_i hs
     cases e
     exact .inr (.inr (.inl ⟨d,e',rN hx e1,rN hy e2,hs.1,hs.2,q⟩))
    ·cases e
   ·cases e
theorem dEq_ne {r:Bool} (hx:Cont G p x v) (hy:Cont G p y u) (e:dEq x y=some r) (q:Q (.bl (!r)) p.H):rNeZ G.K v u p.H Q:=by
 unfold dEq at e
 split at e
 ·rename_i v' u' e1 e2
  split at e
  ·rename_i hs
   cases e
   have h1:=eC (hx.sc (jJ e1)) e1
   have h2:=eC (hy.sc (jJ e2)) e2
   subst h1 h2
   exact .inl ⟨hs,q⟩
  ·cases e
 ·split at e
  ·cases e
   obtain ⟨b,vs,rfl,hb,r⟩:=hx.lst
   obtain ⟨b',vs',rfl,hb',r'⟩:=hy.lst
   obtain rfl:vs' = []:=r'
   exact .inr (.inl ⟨b,b',vs,rfl,rfl, .of hb, .of hb',by rw [r.empty]; exact q⟩)
  ·cases e
   obtain ⟨b,vs,rfl,hb,r⟩:=hx.con
   obtain ⟨b',vs',rfl,hb',r'⟩:=hy.lst
   obtain rfl:vs' = []:=r'
   exact .inr (.inl ⟨b,b',vs,rfl,rfl,hb, .of hb',by rw [r.empty]; exact q⟩)
  ·split at e
   ·rename_i hs
    cases e
    obtain ⟨b,vs,rfl,hb,r⟩:=hx.dct
    obtain ⟨b',vs',rfl,hb',r'⟩:=hy.dct
    obtain ⟨l1,l2⟩:=nY hs
    exact .inr (.inr (.inr (.inr (.inl ⟨b,b',vs,vs',rfl,rfl,hb,hb',by rw [r.len,r'.len]; exact l1,nX r r' l2,q⟩))))
   ·cases e
  ·cases e
   obtain ⟨b,vs,rfl,hb,r⟩:=hx.tup
   obtain rfl:=hy.str
   exact .inr (.inr (.inr (.inr (.inr ⟨b,_,vs,rfl,rfl, .of hb,q⟩))))
  ·split at e
   ·rename_i d e' e1 e2
    split at e
    ·rename_i hs
     cases e
     exact .inr (.inr (.inl ⟨d,e',rN hx e1,rN hy e2,hs.1,hs.2,q⟩))
    ·cases e
   ·cases e
theorem dIn_in {r neg:Bool} (hx:Cont G p x v) (hy:Cont G p y u) (e:dIn x y=some r) (q:Q (.bl (if neg then !r else r)) p.H):rInZ G.K neg v u p.H Q:=by
 unfold dIn at e
 split at e
 ·split at e
  ·rename_i v' vs' e1 e2
   cases e
   obtain ⟨b,vs,rfl,hb,r⟩:=hy.lst
   have h1:=eC (hx.sc (jJ e1)) e1
   have h2:=kB r e2
   subst h1 h2
   exact .inl ⟨b,_,rfl, .inl (.of hb),kD e1,iu e2,q⟩
  ·cases e
 ·split at e
  ·rename_i v' vs' e1 e2
   cases e
   obtain ⟨b,vs,rfl,hb,r⟩:=hy.con
   have h1:=eC (hx.sc (jJ e1)) e1
   have h2:=kB r e2
   subst h1 h2
   exact .inl ⟨b,_,rfl, .inl hb,kD e1,iu e2,q⟩
  ·cases e
 ·split at e
  ·rename_i v' vs' e1 e2
   cases e
   obtain ⟨b,vs,rfl,hb,r⟩:=hy.tup
   have h1:=eC (hx.sc (jJ e1)) e1
   have h2:=kB r e2
   subst h1 h2
   exact .inl ⟨b,_,rfl, .inr (.of hb),kD e1,iu e2,q⟩
  ·cases e
 ·obtain rfl:=hy.str
  split at e
  ·obtain rfl:=hx.str
   split at e
   ·rename_i w _ c hc
    cases e
    have hw:w=⟨#[c]⟩:=by
     cases w with
     | mk cps=>
      congr 1
      exact Array.toList_inj.mp hc
    subst hw
    exact .inr (.inl ⟨c,_,rfl,rfl,q⟩)
   ·cases e
    exact .inr (.inr (.inl ⟨_,_,rfl,rfl,by cases neg<;> exact q⟩))
  ·cases e
 ·rename_i ks
  split at e
  ·rename_i k e1
   cases e
   obtain ⟨b,vs,rfl,hb,r⟩:=hy.dct
   have h1:=nF (hx.sc (vB e1)) e1
   subst h1
   have e3:(valV vs k).isSome=(fS ks k).isSome:=by
    cases q:fS ks k with
    | none=>rw [r.val.2 q]; rfl
    | some d=>obtain ⟨v,e,_⟩:=r.val.1 d q; rw [e]; rfl
   exact .inr (.inr (.inr ⟨b,valV vs k,rfl, .inl ⟨vs,k,hb,rfl,rfl⟩,by rw [e3]; exact q⟩))
  ·cases e
 ·cases e
theorem mf {ds:List D} {vs:List V} {i:Int} {d:D} (r:Reps G p ds vs) (e:atI ds i=some d):∃v,atI vs i=some v∧Rep G p d v:=by
 unfold atI at e ⊢
 rw [r.len]
 cases q:ixN ds.length i with
 | none=>rw [q] at e; cases e
 | some j=>
  rw [q] at e
  exact r.get (i:=j) e
theorem dIx_ix {d:D} (hx:Cont G p x v) (hy:Cont G p y u) (e:dIx x y=some d):∃z,Rep G p d z∧(∀Q:VK,Q z p.H→rIxZ G.K v u p.H Q):=by
 unfold dIx at e
 split at e
 ·obtain ⟨b,vs,rfl,hb,r⟩:=hx.lst
  obtain rfl:=hy.int
  obtain ⟨z,e1,rz⟩:=mf r e
  exact ⟨z,rz,fun Q q=> .inl ⟨b,vs,_,z,rfl,rfl, .of hb,e1,q⟩⟩
 ·obtain ⟨b,vs,rfl,hb,r⟩:=hx.con
  obtain rfl:=hy.int
  obtain ⟨z,e1,rz⟩:=mf r e
  exact ⟨z,rz,fun Q q=> .inl ⟨b,vs,_,z,rfl,rfl,hb,e1,q⟩⟩
 ·obtain ⟨b,vs,rfl,hb,r⟩:=hx.tup
  obtain rfl:=hy.int
  obtain ⟨z,e1,rz⟩:=mf r e
  exact ⟨z,rz,fun Q q=> .inr (.inl ⟨b,vs,_,z,rfl,rfl, .of hb,e1,q⟩)⟩
 ·obtain rfl:=hx.str
  obtain rfl:=hy.int
  split at e
  ·rename_i hz
   obtain ⟨c,e1,rfl⟩:=Option.map_eq_some_iff.mp e
   exact ⟨.str ⟨#[c]⟩,rfl,fun Q q=> .inr (.inr (.inl ⟨_,_,c,rfl,rfl,hz,e1,q⟩))⟩
  ·cases e
 ·obtain ⟨b,vs,rfl,hb,r⟩:=hx.dct
  split at e
  ·rename_i k e1
   have h1:=nF (hy.sc (vB e1)) e1
   subst h1
   obtain ⟨z,e2,rz⟩:=r.val.1 d e
   exact ⟨z,rz,fun Q q=> .inr (.inr (.inr ⟨b,z,rfl, .inl ⟨vs,k,hb,rfl,e2.symm⟩,q⟩))⟩
  ·cases e
 ·cases e
end
section
variable {G:Gc}
theorem p_add:dw G (rAddZ G.K) cj:=by
 intro E σ τ s θ p v u a b Q hl h hw
 obtain ⟨h0,ca,cb⟩:=eA hl h
 unfold cj at hw
 split at hw
 ·rename_i e1 e2
  obtain rfl:=(ca _ e1).int
  obtain rfl:=(cb _ e2).int
  exact .inl ⟨_,_,rfl,rfl,ba h0 hl hw rfl⟩
 ·rename_i e1 e2
  obtain rfl:=(ca _ e1).str
  obtain rfl:=(cb _ e2).str
  split at hw
  ·rename_i hz
   exact .inr (.inl ⟨_,_,rfl,rfl,hz,ba h0 hl hw rfl⟩)
  ·exact hw.elim
 ·rename_i e1 e2
  obtain ⟨a1,vs,rfl,ha,r⟩:=(ca _ e1).lst
  obtain ⟨a2,us,rfl,hb,r'⟩:=(cb _ e2).lst
  split at hw
  ·rename_i hz
   exact .inr (.inr (.inl ⟨a1,a2,vs,us,rfl,rfl,ha,hb,by rw [r.len,r'.len]; exact hz,fun q hq=>du h0 hl hw hq (r.append r')⟩))
  ·exact hw.elim
 ·rename_i e1 e2
  obtain ⟨a1,vs,rfl,ha,r⟩:=(ca _ e1).tup
  obtain ⟨a2,us,rfl,hb,r'⟩:=(cb _ e2).tup
  split at hw
  ·rename_i hz
   refine .inr (.inr (.inr (t_catA (.of ha) (.of hb) (fun z=>hz.1 ?_) (fun z=>hz.2.1 ?_) (by rw [r.len,r'.len]; exact hz.2.2) fun q hq=>vT h0 hl hw hq (r.append r'))))
   ·exact List.eq_nil_of_length_eq_zero (by rw [←r.len,z]; rfl)
   ·exact List.eq_nil_of_length_eq_zero (by rw [←r'.len,z]; rfl)
  ·exact hw.elim
 ·exact hw.elim
theorem p_sub:dw G (rI0 fun i j=> .int (i - j)) tE:=by
 intro E σ τ s θ p v u a b Q hl h hw
 obtain ⟨h0,ca,cb⟩:=eA hl h
 unfold tE at hw
 split at hw
 ·rename_i e1 e2
  obtain rfl:=(ca _ e1).int
  obtain rfl:=(cb _ e2).int
  exact ⟨_,_,rfl,rfl,ba h0 hl hw rfl⟩
 ·exact hw.elim
theorem wO {p:Wr} {ds:List D} {vs:List V} (r:Reps G p ds vs):∀n:Nat,Reps G p (List.replicate n ds).flatten (List.replicate n vs).flatten
 | 0=>rfl
 | n+1=>by
  rw [List.replicate_succ,List.replicate_succ,List.flatten_cons,List.flatten_cons]
  exact r.append (wO r n)
theorem p_mul:dw G rMulZ oQ:=by
 intro E σ τ s θ p v u a b Q hl h hw
 obtain ⟨h0,ca,cb⟩:=eA hl h
 unfold oQ at hw
 split at hw
 ·rename_i e1 e2
  obtain rfl:=(ca _ e1).int
  obtain rfl:=(cb _ e2).int
  split at hw
  ·rename_i hz
   exact .inl ⟨_,_,rfl,rfl,hz,ba h0 hl hw rfl⟩
  ·exact hw.elim
 ·rename_i e1 e2
  obtain ⟨a1,vs,rfl,ha,r⟩:=(ca _ e1).lst
  obtain rfl:=(cb _ e2).int
  split at hw
  ·rename_i hz
   refine .inr (.inl ⟨a1,_,vs,rfl,rfl,ha,hz.1,hz.2.1,by rw [r.len]; exact hz.2.2,fun q hq=>du h0 hl hw hq ?_⟩)
   exact wO r _
  ·exact hw.elim
 ·rename_i e1 e2
  obtain rfl:=(ca _ e1).str
  obtain rfl:=(cb _ e2).int
  split at hw
  ·rename_i hz
   exact .inr (.inr ⟨_,_,rfl,rfl,hz,ba h0 hl hw rfl⟩)
  ·exact hw.elim
 ·exact hw.elim
theorem p_mod:dw G (rI (fun _ j=>0<j) fun i j=> .int (i%j)) dh:=by
 intro E σ τ s θ p v u a b Q hl h hw
 obtain ⟨h0,ca,cb⟩:=eA hl h
 unfold dh at hw
 split at hw
 ·rename_i e1 e2
  obtain rfl:=(ca _ e1).int
  obtain rfl:=(cb _ e2).int
  split at hw
  ·rename_i hz
   exact ⟨_,_,rfl,rfl,hz,ba h0 hl hw rfl⟩
  ·exact hw.elim
 ·exact hw.elim
theorem p_div:dw G (rI CDivW fun i j=> .int (i / j)) fk:=by
 intro E σ τ s θ p v u a b Q hl h hw
 obtain ⟨h0,ca,cb⟩:=eA hl h
 unfold fk at hw
 split at hw
 ·rename_i e1 e2
  obtain rfl:=(ca _ e1).int
  obtain rfl:=(cb _ e2).int
  split at hw
  ·rename_i hz
   exact ⟨_,_,rfl,rfl,hz,ba h0 hl hw rfl⟩
  ·exact hw.elim
 ·exact hw.elim
theorem p_pow:dw G (rI sx fun i j=> .int (i ^ j.toNat)) B5:=by
 intro E σ τ s θ p v u a b Q hl h hw
 obtain ⟨h0,ca,cb⟩:=eA hl h
 unfold B5 at hw
 split at hw
 ·rename_i e1 e2
  obtain rfl:=(ca _ e1).int
  obtain rfl:=(cb _ e2).int
  split at hw
  ·rename_i hz
   exact ⟨_,_,rfl,rfl,hz,ba h0 hl hw rfl⟩
  ·exact hw.elim
 ·exact hw.elim
theorem p_xor:dw G (rI0 fun i j=> .int (Builtin.bitXor i j)) oXor:=by
 intro E σ τ s θ p v u a b Q hl h hw
 obtain ⟨h0,ca,cb⟩:=eA hl h
 unfold oXor at hw
 split at hw
 ·rename_i e1 e2
  obtain rfl:=(ca _ e1).int
  obtain rfl:=(cb _ e2).int
  exact ⟨_,_,rfl,rfl,ba h0 hl hw rfl⟩
 ·exact hw.elim
theorem CV {f:Int→Int→Bool}:dw G (rI0 fun i j=> .bl (f i j)) (C3 f):=by
 intro E σ τ s θ p v u a b Q hl h hw
 obtain ⟨h0,ca,cb⟩:=eA hl h
 unfold C3 at hw
 split at hw
 ·rename_i e1 e2
  obtain rfl:=(ca _ e1).int
  obtain rfl:=(cb _ e2).int
  exact ⟨_,_,rfl,rfl,ba h0 hl hw rfl⟩
 ·exact hw.elim
theorem p_eq:dw G (rEqZ G.K) oEq:=by
 intro E σ τ s θ p v u a b Q hl h hw
 obtain ⟨h0,ca,cb⟩:=eA hl h
 unfold oEq at hw
 split at hw
 ·rename_i e1 e2
  split at hw
  ·rename_i e3
   exact dEq_eq (ca _ e1) (cb _ e2) e3 (ba h0 hl hw rfl)
  ·exact hw.elim
 ·exact hw.elim
theorem p_ne:dw G (rNeZ G.K) oNe:=by
 intro E σ τ s θ p v u a b Q hl h hw
 obtain ⟨h0,ca,cb⟩:=eA hl h
 unfold oNe at hw
 split at hw
 ·rename_i ks e1 e2
  obtain ⟨a1,vs,rfl,ha,r⟩:=(ca _ e1).dct
  obtain ⟨a2,us,rfl,hb,r'⟩:=(cb _ e2).dct
  obtain rfl:us= []:=r'
  have e3:vs.isEmpty=ks.isEmpty:=by
   have:=r.len
   cases vs with
   | nil=>cases ks with
    | nil=>rfl
    | cons _ _=>simp at this
   | cons _ _=>cases ks with
    | nil=>simp at this
    | cons _ _=>rfl
  exact .inr (.inr (.inr (.inl ⟨a1,a2,vs,rfl,rfl,ha,hb,by rw [e3]; exact ba h0 hl hw rfl⟩)))
 ·rename_i e1 e2
  split at hw
  ·rename_i e3
   exact dEq_ne (ca _ e1) (cb _ e2) e3 (ba h0 hl hw rfl)
  ·exact hw.elim
 ·exact hw.elim
theorem p_in {neg:Bool}:dw G (rInZ G.K neg) (oIn neg):=by
 intro E σ τ s θ p v u a b Q hl h hw
 obtain ⟨h0,ca,cb⟩:=eA hl h
 unfold oIn at hw
 split at hw
 ·rename_i e1 e2
  split at hw
  ·rename_i e3
   exact dIn_in (ca _ e1) (cb _ e2) e3 (ba h0 hl hw rfl)
  ·exact hw.elim
 ·exact hw.elim
theorem p_ix:dw G (rIxZ G.K) oIx:=by
 intro E σ τ s θ p v u a b Q hl h hw
 obtain ⟨h0,ca,cb⟩:=eA hl h
 unfold oIx at hw
 split at hw
 ·rename_i e1 e2
  split at hw
  ·rename_i e3
   obtain ⟨z,r,k⟩:=dIx_ix (ca _ e1) (cb _ e2) e3
   exact k Q (ba h0 hl hw r)
  ·exact hw.elim
 ·exact hw.elim
theorem non_iff {x:D} {p:Wr} {v:V} (h:Rep G p x v):v= .non↔x= .non:=by
 cases x with
 | non=>exact ⟨fun _=>rfl,fun _=>h⟩
 | bl _=>obtain rfl:=h; exact ⟨fun z=>(nomatch z),fun z=>(nomatch z)⟩
 | int _=>obtain rfl:=h; exact ⟨fun z=>(nomatch z),fun z=>(nomatch z)⟩
 | str _=>obtain rfl:=h; exact ⟨fun z=>(nomatch z),fun z=>(nomatch z)⟩
 | cell _=>obtain ⟨_,rfl⟩:=h; exact ⟨fun z=>(nomatch z),fun z=>(nomatch z)⟩
 | lst _=>obtain ⟨_,_,rfl,_⟩:=h; exact ⟨fun z=>(nomatch z),fun z=>(nomatch z)⟩
 | con _=>obtain ⟨_,_,rfl,_⟩:=h; exact ⟨fun z=>(nomatch z),fun z=>(nomatch z)⟩
 | tup _=>obtain ⟨_,_,rfl,_⟩:=h; exact ⟨fun z=>(nomatch z),fun z=>(nomatch z)⟩
 | dct _=>obtain ⟨_,_,rfl,_⟩:=h; exact ⟨fun z=>(nomatch z),fun z=>(nomatch z)⟩
 | exc _ _=>obtain ⟨_,_,_,rfl,_⟩:=h; exact ⟨fun z=>(nomatch z),fun z=>(nomatch z)⟩
 | obj _ _=>obtain ⟨_,_,_,_,rfl,_⟩:=h; exact ⟨fun z=>(nomatch z),fun z=>(nomatch z)⟩
 | odd _=>obtain ⟨_,rfl,_⟩:=h; exact ⟨fun z=>(nomatch z),fun z=>(nomatch z)⟩
def rIsZ (neg:Bool):R2:=fun x y H Q=>y= .non∧Q (.bl (if neg then !decide (x= .non) else decide (x= .non))) H
theorem lE {X:Cx}:OpR X (compareOp .Is) (rIsZ false):=o_isN
theorem dg {X:Cx}:OpR X (compareOp .IsNot) (rIsZ true):=o_notN
theorem p_isN {neg:Bool}:dw G (rIsZ neg) (gu neg):=by
 intro E σ τ s θ p v u a b Q hl h hw
 have h1:=h.pop1 (by simp; omega)
 obtain ⟨h0,c,r⟩:=cN hl h1
 unfold gu at hw
 split at hw
 ·obtain ⟨u',e1,r'⟩:=h.ent _ _ af
  have ll:=aA h.len
  rw [←ll,af] at e1
  cases e1
  obtain rfl:u= .non:=r'
  refine ⟨rfl, ?_⟩
  split at hw
  ·have e:v= .non:=r
   rw [decide_eq_true e]
   cases neg<;> exact ba h0 hl hw rfl
  ·rename_i x hx
   have e:¬v= .non:=fun z=>hx ((non_iff (show Rep G p x v from r)).mp z)
   rw [decide_eq_false e]
   cases neg<;> exact ba h0 hl hw rfl
  ·split at hw
   ·rename_i x e1
    split at hw
    ·rename_i hb
     rcases c x e1 with ⟨_,b,rfl,_⟩ | ⟨q,_⟩
     ·cases neg<;> exact ba h0 hl hw rfl
     ·rw [hb] at q; cases q
    ·exact hw.elim
   ·exact hw.elim
 ·exact hw.elim
end
section
variable {G:Gc} {W:WX} {E:En} {σ σ' :L2.St} {τ τ' :List V} {H:Hp} {s s' :SD} {θ θ' :List Vl} {v u:V} {a b:Vl} {x y:D} {p:Wr} {Q:VK} {m:Nat} {w:List (Option V)} {ŵ:List (Option Vl)} {S:Sto} {k:Nat}
theorem Sm.mid {A B C:List (Option V)} {A' B' C' :List (Option Vl)} (h:Sm G E m p ((A++B)++C) ((A' ++B')++C') S) (hA:A.length=A'.length) (hB:B.length=B'.length) (hm:m≤A.length):Sm G E m p (A++C) (A' ++C') S:=by
 have hC:C.length=C'.length:=by have:=h.len; simp at this; omega
 have fl:∀{α:Type} {A B C:List α} {k:Nat},k<A.length→((A++B)++C)[k]? =(A++C)[k]? :=fun {α A B C k} hk=>by rw [List.append_assoc,List.getElem?_append_left hk,List.getElem?_append_left hk]
 have fr:∀{α:Type} {A B C:List α} {k:Nat},¬k<A.length→((A++B)++C)[k+B.length]? =(A++C)[k]? :=fun {α A B C k} hk=>by
  rw [List.getElem?_append_right (by simp; omega),List.getElem?_append_right (by omega)]
  congr 1
  simp
  omega
 refine h.pick (fun k=>if k<A.length then k else k+B.length) (by simp [hA,hC]) (fun k e q=>?_) (fun j k y z _ _ e=>?_) fun k hk=>?_
 ·by_cases c:k<A.length
  ·rw [if_pos c]
   exact ⟨(fl (by omega)).trans q,(fl c).symm,id⟩
  ·rw [if_neg c]
   refine ⟨?_,(fr c).symm,fun _=>by omega⟩
   rw [hB]
   exact (fr (by omega)).trans q
 ·split at e<;> split at e<;> omega
 ·exact (fl (by omega)).symm
theorem Rel.dropMid (h:Rel G E σ ((τ++τ')++ [v]) H s ((θ++θ')++ [a])) (ht:τ.length=θ.length):Rel G E σ (τ++ [v]) H s (θ++ [a]):=by
 obtain ⟨p,e,hl,h⟩:=h
 have e1:σ++((τ++τ')++ [v]).map some=((σ++τ.map some)++τ'.map some)++ [some v]:=by simp
 have e2:s.sl++((θ++θ')++ [a]).map some=((s.sl++θ.map some)++θ'.map some)++ [some a]:=by simp
 rw [e1,e2] at h
 have len:=h.len
 simp at len
 exact .snoc (h.mid (by simp [hl,ht]) (by simp; omega) (bI hl)) hl e
theorem Rel.dropEnd (h:Rel G E σ (τ++τ') H s (θ++θ')) (ht:τ.length=θ.length):Rel G E σ τ H s θ:=by
 obtain ⟨p,e,hl,h⟩:=h
 rw [List.map_append,List.map_append,←List.append_assoc,←List.append_assoc] at h
 exact ⟨p,e,hl,h.pop (by simp [hl,ht]) (bI hl)⟩
theorem RelX.dropEnd {c:Str} {fs:List (Str×D)} {cls:Value} {d:Option Addr} (h:RelX G E σ (τ++τ') H s (θ++θ') c fs cls d) (ht:τ.length=θ.length):RelX G E σ τ H s θ c fs cls d:=by
 obtain ⟨p,e,hl,h,r⟩:=h
 rw [List.map_append,List.map_append,←List.append_assoc,←List.append_assoc] at h
 exact ⟨p,e,hl,h.pop (by simp [hl,ht]) (bI hl),r⟩
theorem XP.upEnd {c:Str} {fs:List (Str×D)} (h:XP G W E τ θ c fs s) (ht:τ.length=θ.length):XP G W E (τ++τ') (θ++θ') c fs s:=fun cls d σ' H' r=>h cls d σ' H' (r.dropEnd ht)
theorem C6 (h:Sm G E s.sl.length p w (s.sl++θ.map some) S) (hn:Nl θ) {i j:Nat} (q:(s.sl++θ.map some)[i]? =some (some (.loc j))):False:=by
 by_cases c:i<s.sl.length
 ·obtain ⟨_,_,r⟩:=h.ent i _ q
  exact absurd r.1 (by omega)
 ·rw [List.getElem?_append_right (by omega),List.getElem?_map] at q
  obtain ⟨e,h1,h2⟩:=Option.map_eq_some_iff.mp q
  cases h2
  exact hn _ (List.mem_of_getElem? h1) j rfl
def Only (is:List Nat) (σ σ' :L2.St):Prop:=σ'.length=σ.length∧∀k:Nat,k∉is→σ'[k]? =σ[k]?
def RG (G:Gc) (W:WX) (is:List Nat) (g:TG) (fz:Vl→SD→R Unit):Prop:=∀(E:En) (σ:L2.St) (τ:List V) (H:Hp) (s:SD) (θ:List Vl) (v:V) (a:Vl) (Q:L2.St→Hp→Prop),Nl θ→Rel G E σ (τ++ [v]) H s (θ++ [a])→
 Wp (fz a s) (fun _ s' =>∀σ' H',Rel G E σ' τ H' s' θ→Only is σ σ'→Q σ' H') (XP G W E τ θ)→g v σ H Q
def zSt (i:Nat) (a:Vl) (s:SD):R Unit:=match a with
 | .d x=> .ok () {s with sl:=s.sl.set i (some (.d x))}
 | .own x=> .ok () {s with sl:=s.sl.set i (some (.own x))}
 | .loc k=>(s.fix (.loc k)).bind fun x s2=> .ok () {s2 with sl:=s2.sl.set i (some (.d x))}
theorem Rel.store {i:Nat} (h:Rel G E σ (τ++ [v]) H s (θ++ [a])) (hn:Nl θ) (ha:∀j,a≠ .loc j):Rel G E (σ.set i (some v)) τ H {s with sl:=s.sl.set i (some a)} θ:=by
 have hpop:=h.pop
 obtain ⟨p,e,hl,h⟩:=h.unsnoc
 by_cases c:i<s.sl.length
 ·have h0:=h.pop1 (bI hl)
  have q:=h.store (k:=i) c (bI hl) (aA h.len) ha fun i' j' z=>(C6 h0 hn z).elim
  rw [cz (by rw [hl]; exact c),cz c] at q
  refine ⟨p,e,by simp [hl], ?_⟩
  show Sm G E (s.sl.set i (some a)).length _ _ _ _
  rw [List.length_set]
  exact q
 ·rw [List.set_eq_of_length_le (by omega),List.set_eq_of_length_le (by omega)]
  exact hpop
theorem Only.set {i:Nat} {u:Option V}:Only [i] σ (σ.set i u):=⟨by simp,fun k hk=>List.getElem?_set_ne (fun z=>hk (by simp [z]))⟩
theorem RG.name {i:Nat}:RG G W [i] (gName i) (zSt i):=by
 intro E σ τ H s θ v a Q hn hR hw
 cases a with
 | d x=>exact hw _ _ (hR.store hn fun j q=>nomatch q) .set
 | own x=>exact hw _ _ (hR.store hn fun j q=>nomatch q) .set
 | loc k=>
  unfold zSt at hw
  dsimp only at hw
  rw [ae] at hw
  obtain ⟨p,rfl,hl,h⟩:=hR.unsnoc
  cases e:s.fix (.loc k) with
  | bad=>rw [e] at hw; exact hw.elim
  | ex c fs s2=>exact (xx _ _ _ _ _ e).elim
  | ok x s2=>
   rw [e] at hw
   obtain ⟨p',hp,hs,h'⟩:=Bg E s _ x s2 p _ _ v e h (bI hl)
   have hR2:Rel G E σ (τ++ [v]) p.H s2 (θ++ [.d x]):=hp ▸ .snoc h' (hl.trans hs.symm) rfl
   exact hw _ _ (hR2.store hn fun j q=>nomatch q) .set
def cA:List Nat→List D→List (Option Vl)→List (Option Vl)
 | i::is,d::ds,l=>cA is ds (l.set i (some (.d d)))
 | _,_,l=>l
def xt:List Nat→TGs
 | []=>gNil
 | i::is=>gCons (gName i) (xt is)
theorem tA {i:Nat} {is:List Nat} {u:Option V} (o:Only is (σ.set i u) σ'):Only (i::is) σ σ' :=⟨o.1.trans (by simp),fun k hk=>by
 simp only [List.mem_cons,not_or] at hk
 rw [o.2 k hk.2,List.getElem?_set_ne (fun z=>hk.1 z.symm)]⟩
theorem Dd {is:List Nat}:∀{ds:List D} {vs:List V} {σ:L2.St} {s:SD} {Q:L2.St→Hp→Prop},ds.length=is.length→Nl θ→σ.length=s.sl.length→Sm G E s.sl.length p (σ++τ.map some) (s.sl++θ.map some) s.st→Reps G p ds vs→
  (∀σ',Rel G E σ' τ p.H {s with sl:=cA is ds s.sl} θ→Only is σ σ'→Q σ' p.H)→xt is vs σ p.H Q:=by
 induction is with
 | nil=>
  intro ds vs σ s Q hd hn hl h r q
  obtain rfl:ds= []:=List.eq_nil_of_length_eq_zero hd
  obtain rfl:vs= []:=r
  exact ⟨rfl,q σ ⟨p,rfl,hl,h⟩ ⟨rfl,fun _ _=>rfl⟩⟩
 | cons i is ih=>
  intro ds vs σ s Q hd hn hl h r q
  cases ds with
  | nil=>cases hd
  | cons d ds=>
   obtain ⟨v,vr,rfl,r1,r2⟩:=r
   refine ⟨v,vr,rfl, ?_⟩
   show xt is vr (σ.set i (some v)) p.H Q
   have h1:=h.push r1
   by_cases c:i<s.sl.length
   ·have q1:=h1.store (k:=i) c (bI hl) h.len (fun j z=>nomatch z) fun i' j' z=>(C6 h hn z).elim
    rw [cz (by rw [hl]; exact c),cz c] at q1
    refine ih (s:= {s with sl:=s.sl.set i (some (.d d))}) (by simpa using hd) hn (by simp [hl]) ?_ r2 fun σ' h' o=>q σ' h' (tA o)
    show Sm G E (s.sl.set i _).length _ _ _ _
    rw [List.length_set]
    exact q1
   ·have e1:σ.set i (some v)=σ:=List.set_eq_of_length_le (by omega)
    have e2:s.sl.set i (some (.d d))=s.sl:=List.set_eq_of_length_le (by omega)
    rw [e1]
    refine ih (s:=s) (by simpa using hd) hn hl h r2 fun σ' h' o=>q σ' ?_ (tA (by rw [e1]; exact o))
    unfold cA
    rw [e2]
    exact h'
def kj (is:List Nat) (a:Vl) (s:SD):R Unit:=match s.cont a with
 | some (.tup ds)=>if ds.length=is.length then .ok () {s with sl:=cA is ds s.sl} else .bad
 | _=> .bad
theorem RG.names {is:List Nat} {n:Nat} (hn:n=is.length):RG G W is (gTup G.K n (xt is)) (kj is):=by
 intro E σ τ H s θ v a Q hN hR hw
 obtain ⟨p,rfl,hl,h⟩:=hR.unsnoc
 obtain ⟨h0,c,_⟩:=cN hl h
 unfold kj at hw
 split at hw
 ·rename_i ds e1
  split at hw
  ·rename_i e2
   obtain ⟨b,vs,rfl,hb,r⟩:=(c _ e1).tup
   exact ⟨b,vs,rfl, .of hb,by rw [r.len,e2,hn],Dd e2 hN hl h0 r fun σ' h' o=>hw σ' _ h' o⟩
  ·exact hw.elim
 ·exact hw.elim
def ax (fa:SD→R Vl) (fz:Vl→SD→R Unit):SD→R Fl:=fun s=>(fa s).bind fun a s1=>(fz a s1).bind fun _ s2=> .ok .nx s2
theorem aad {is:List Nat} {te:TE} {g:TG} {fa:SD→R Vl} {fz:Vl→SD→R Unit} (ha:RE G W te fa) (hg:RG G W is g fz):RS G W (tAsg te g) (ax fa fz):=by
 intro E σ τ H s θ D hN hR hw
 unfold ax at hw
 rw [ae] at hw
 refine ha E σ τ H s θ _ hN hR (hw.mono (fun a s1 hw v H1 h1=>?_) fun _ _ _ h=>h)
 rw [ae] at hw
 exact hg E σ τ H1 s1 θ v a _ hN h1 (hw.mono (fun _ s2 hw σ' H' h' _=>hw σ' H' h') fun _ _ _ h=>h)
def aj (f g:SD→R Fl):SD→R Fl:=fun s=>(f s).bind fun fl s1=>match fl with
 | .nx=>g s1
 | .bk=> .ok .bk s1
 | .ct=> .ok .ct s1
 | .rt a=> .ok (.rt a) s1
theorem RS.seq {t u:TS} {f g:SD→R Fl} (ha:RS G W t f) (hb:RS G W u g):RS G W (tSeq t u) (aj f g):=by
 intro E σ τ H s θ D hN hR hw
 unfold aj at hw
 rw [ae] at hw
 refine ha E σ τ H s θ _ hN hR (hw.mono (fun fl s1 hw=>?_) fun _ _ _ h=>h)
 cases fl with
 | nx=>exact fun σ' H' h' =>hb E σ' τ H' s1 θ D hN h' hw
 | bk=>exact hw
 | ct=>exact hw
 | rt a=>exact hw
def az:SD→R Fl:=fun s=> .ok .nx s
def zBreak:SD→R Fl:=fun s=> .ok .bk s
def zCont:SD→R Fl:=fun s=> .ok .ct s
theorem RS.next:RS G W tNext az:=fun _ _ _ _ _ _ _ _ hR hw=>hw _ _ hR
theorem RS.brk:RS G W tBreak zBreak:=fun _ _ _ _ _ _ _ _ hR hw=>hw _ _ hR
theorem RS.cont:RS G W tCont zCont:=fun _ _ _ _ _ _ _ _ hR hw=>hw _ _ hR
def bP (c:SD→R Bool) (f g:SD→R Fl):SD→R Fl:=fun s=>(c s).bind fun b s1=>if b=true then f s1 else g s1
theorem aah {c:TT} {t u:TS} {fc:SD→R Bool} {f g:SD→R Fl} (hc:RT G W c fc) (ha:RS G W t f) (hb:RS G W u g):RS G W (tIfS c t u) (bP fc f g):=by
 intro E σ τ H s θ D hN hR hw
 unfold bP at hw
 rw [ae] at hw
 refine hc E σ τ H s θ _ hN hR (hw.mono (fun b s1 hw H1 h1=>?_) fun _ _ _ h=>h)
 split
 ·rename_i c; rw [if_pos c] at hw; exact ha E σ τ H1 s1 θ D hN h1 hw
 ·rename_i c; rw [if_neg c] at hw; exact hb E σ τ H1 s1 θ D hN h1 hw
def SD.told (s:SD):Vl→R Vl
 | .d x=> .ok (.d x) s
 | .own x=> .ok (.own x) s
 | .loc k=>match s.sl[k]? with
  | some (some (.own x))=> .ok (.own x) {s with sl:=s.sl.set k none}
  | some (some (.d x))=> .ok (.d x) s
  | _=> .bad
def bo (fa:SD→R Vl):SD→R Fl:=fun s=>(fa s).bind fun a s1=>(s1.told a).bind fun b s2=> .ok (.rt b) s2
theorem Sm.move {i:Nat} (h:Sm G E m p (w++ [some v]) (ŵ++ [some (.loc i)]) S) (q:ŵ[i]? =some (some (.own x))) (hl:w.length=ŵ.length) (hm:m≤w.length) (hn:∀(k j:Nat),ŵ[k]? =some (some (.loc j))→False):
  Sm G E m p (w++ [some v]) (ŵ.set i none++ [some (.own x)]) S:=by
 obtain ⟨u,e1,r1,r2,r3⟩:=h.ent _ _ (af (l:=ŵ))
 rw [←hl,af] at e1; cases e1
 have hi:=ai q
 rw [List.getElem?_append_left (by omega)] at r3
 have q' :(ŵ++ [some (Vl.loc i)])[i]? =some (some (.own x)):=aJ q
 have r3' :(w++ [some v])[i]? =some (some v):=aJ r3
 refine h.pick (fun k=>if k=ŵ.length then i else k) (by simp [hl]) (fun k e q1=>?_) (fun j k y z h1 h2 e=>?_) fun k hk=>rfl
 ·rcases aB q1 with q1 | ⟨rfl,qq⟩
  ·rcases dP q1 with ⟨rfl,qq⟩ | ⟨c,q1⟩
   ·cases qq
   ·rw [if_neg (by have:=ai q1; omega)]
    exact ⟨aJ q1,rfl,id⟩
  ·obtain rfl:=Option.some.inj qq
   simp only [List.length_set,if_true]
   exact ⟨q',by rw [←hl,af,r3'],fun z=>by omega⟩
 ·have ni:∀{j:Nat} {y:D},(ŵ.set i none++ [some (Vl.own x)])[j]? =some (some (.own y))→j≠i:=fun {j y} q1=>by
   rcases aB q1 with q1 | ⟨rfl,qq⟩
   ·rcases dP q1 with ⟨rfl,qq⟩ | ⟨c,q1⟩
    ·cases qq
    ·exact fun z=>c z.symm
   ·simp; omega
  have:=ni h1
  have:=ni h2
  split at e<;> split at e<;> omega
theorem told_ok {E:En} {s:SD} {a b:Vl} {s' :SD} {θ:List Vl} (c:s.told a= .ok b s') (hn:Nl θ) (hR:Rel G E σ (τ++ [v]) H s (θ++ [a])):Rel G E σ (τ++ [v]) H s' (θ++ [b])∧∀j,b≠ .loc j:=by
 cases a with
 | d x=>cases c; exact ⟨hR,fun j q=>nomatch q⟩
 | own x=>cases c; exact ⟨hR,fun j q=>nomatch q⟩
 | loc k=>
  unfold SD.told at c
  dsimp only at c
  obtain ⟨p,e,hl,h⟩:=hR.unsnoc
  have h0:=h.pop1 (bI hl)
  cases q1:s.sl[k]? with
  | none=>rw [q1] at c; cases c
  | some o=>
   cases o with
   | none=>rw [q1] at c; cases c
   | some z=>
    rw [q1] at c
    have hs:(s.sl++θ.map some)[k]? =some (some z):=by rw [List.getElem?_append_left (ai q1)]; exact q1
    cases z with
    | d y=>
     cases c
     obtain ⟨u,e1,r1,r2,r3⟩:=h.ent _ _ (af (l:=s.sl++θ.map some))
     rw [←aA h.len,af] at e1; cases e1
     rw [List.getElem?_append_left (by simp; omega)] at r3
     obtain ⟨u,e2,r⟩:=h0.ent k _ hs
     rw [r3] at e2; cases e2
     exact ⟨.snoc (h0.push r) hl e,fun j q=>nomatch q⟩
    | own y=>
     cases c
     have q:=h.move hs (aA h.len) (bI hl) fun k' j' z=>C6 h0 hn z
     rw [cz (ai q1)] at q
     refine ⟨.snoc (s:= {s with sl:=s.sl.set k none}) ?_ (by simp [hl]) e,fun j q=>nomatch q⟩
     show Sm G E (s.sl.set k none).length _ _ _ _
     rw [List.length_set]
     exact q
    | loc j=>cases c
theorem told_nx:∀(s:SD) (a:Vl) c fs s',s.told a≠ .ex c fs s' :=by
 intro s a c fs s'
 cases a with
 | d x=>intro q; cases q
 | own x=>intro q; cases q
 | loc k=>
  unfold SD.told
  dsimp only
  split<;> intro q<;> cases q
theorem aaf {te:TE} {fa:SD→R Vl} (ha:RE G W te fa):RS G W (tRet te) (bo fa):=by
 intro E σ τ H s θ D hN hR hw
 unfold bo at hw
 rw [ae] at hw
 refine ha E σ τ H s θ _ hN hR (hw.mono (fun a s1 hw v H1 h1=>?_) fun _ _ _ h=>h)
 rw [ae] at hw
 cases e:s1.told a with
 | bad=>rw [e] at hw; exact hw.elim
 | ex c fs s2=>exact (told_nx _ _ _ _ _ e).elim
 | ok b s2=>
  rw [e] at hw
  obtain ⟨h2,_⟩:=told_ok e hN h1
  exact hw.2 _ _ _ h2
def zRetN:SD→R Fl:=fun s=> .ok (.rt (.d .non)) s
def aN (fa:SD→R Vl):SD→R Fl:=fun s=>(fa s).bind fun _ s1=> .ok .nx s1
theorem RS.drop {te:TE} {fa:SD→R Vl} (ha:RE G W te fa):RS G W (tDrop te) (aN fa):=by
 intro E σ τ H s θ D hN hR hw
 unfold aN at hw
 rw [ae] at hw
 exact ha E σ τ H s θ _ hN hR (hw.mono (fun a s1 hw v H1 h1=>hw _ _ h1.pop) fun _ _ _ h=>h)
def zPar (i j:Nat) (fr:SD→R (List D)):SD→R Fl:=fun s=>(fr s).bind fun ds s1=>match ds with
 | [x,y]=> .ok .nx {s1 with sl:=cA [i,j] [x,y] s1.sl}
 | _=> .bad
end
structure Src where
 hs:List Vl
 ok:SD→Prop
 ds:List D
def Walk (G:Gc) (E:En) (J:It) (src:Src) (vs:List V):Prop:=∀(i:Nat) (σ:L2.St) (τ τ2:List V) (θ θ2:List Vl) (H:Hp) (s:SD),τ.length=θ.length→τ2.length=θ2.length→Rel G E σ (τ++vs++τ2) H s (θ++src.hs++θ2)→src.ok s→
 (∀d,src.ds[i]? =some d→J.go i H∧∀x H',J.yld i H x H'→Rel G E σ (τ++vs++τ2++ [x]) H' s (θ++src.hs++θ2++ [.d d]))∧(src.ds[i]? =none→J.stop i H)
def EnLe (G:Gc) (E E' :En):Prop:=∀(m:Nat) (p:Wr) (w:List (Option V)) (ŵ:List (Option Vl)) (S:Sto),Sm G E' m p w ŵ S→Sm G E m p w ŵ S
def RI (G:Gc) (W:WX) (wi:TI) (fi:SD→R Src):Prop:=∀(E:En) (σ:L2.St) (τ:List V) (H:Hp) (s:SD) (θ:List Vl) (Q:It→Hp→Prop),Nl θ→Rel G E σ τ H s θ→
 Wp (fi s) (fun src s' =>∀vs H' J E',EnLe G E E'→vs.length=src.hs.length→Rel G E' σ (τ++vs) H' s' (θ++src.hs)→Walk G E' J src vs→Q J H') (XP G W E τ θ)→wi σ H Q
section
variable {G:Gc} {W:WX} {E:En} {σ σ' :L2.St} {τ τ2:List V} {H:Hp} {s:SD} {θ θ2:List Vl} {v:V} {a b:Vl} {x y:D} {p:Wr} {Q:VK} {m:Nat} {k:Nat}
theorem Rel.at1 (h:Rel G E σ (τ++ [v]++τ2) H s (θ++ [a]++θ2)) (ht:τ.length=θ.length):∃p:Wr,p.H=H∧σ.length=s.sl.length∧Sm G E s.sl.length p (σ++(τ++ [v]++τ2).map some) (s.sl++(θ++ [a]++θ2).map some) s.st∧∀x,s.cont a=some x→Cont G p x v:=by
 obtain ⟨p,e,hl,h⟩:=h
 refine ⟨p,e,hl,h,fun x c=>?_⟩
 have e1:σ++(τ++ [v]++τ2).map some=(σ++τ.map some)++some v::τ2.map some:=by simp
 have e2:s.sl++(θ++ [a]++θ2).map some=(s.sl++θ.map some)++some a::θ2.map some:=by simp
 have hA:(σ++τ.map some).length=(s.sl++θ.map some).length:=by simp [hl,ht]
 refine h.cont rfl (k:=(s.sl++θ.map some).length) ?_ ?_ c
 ·rw [e2,List.getElem?_append_right (Nat.le_refl _)]; simp
 ·rw [e1,←hA,List.getElem?_append_right (Nat.le_refl _)]; simp
noncomputable def gp (fa:SD→R Vl):SD→R Src:=fun s=>(fa s).bind fun a s1=>match s1.cont a with
 | some (.lst ds)=> .ok ⟨[a],fun s=>s.cont a=some (.lst ds),ds⟩ s1
 | some (.con ds)=> .ok ⟨[a],fun s=>s.cont a=some (.con ds),ds⟩ s1
 | _=> .bad
theorem RI.lst {te:TE} {fa:SD→R Vl} (ha:RE G W te fa):RI G W (iList G.K te) (gp fa):=by
 intro E σ τ H s θ Q hN hR hw
 unfold gp at hw
 rw [ae] at hw
 refine ha E σ τ H s θ _ hN hR (hw.mono (fun a s1 hw v H1 h1=>?_) fun _ _ _ h=>h)
 have h0:=h1
 obtain ⟨p,rfl,hl,h⟩:=h1.unsnoc
 obtain ⟨h2,c,_⟩:=cN hl h
 split at hw
 ·rename_i ds e
  obtain ⟨b,vs,rfl,hb,r⟩:=(c _ e).lst
  refine ⟨b,rfl,⟨vs, .of hb⟩,hw [.ref b] _ _ E (fun _ _ _ _ _ h=>h) rfl h0 fun i σ τ τ2 θ θ2 H s ht ht2 h ok=>?_⟩
  obtain ⟨p',rfl,hl',hS,c'⟩:=h.at1 ht
  obtain ⟨b',vs',e',hb',r'⟩:=(c' _ ok).lst
  cases e'
  refine ⟨fun d e=>?_,fun e=>⟨vs', .of hb',List.getElem?_eq_none_iff.mp (r'.none e)⟩⟩
  obtain ⟨v,e1,r1⟩:=r'.get e
  refine ⟨⟨vs',v, .of hb',e1⟩,fun x H' y=>?_⟩
  obtain ⟨rfl,y⟩:=y
  have:=y vs' (.of hb')
  rw [e1] at this; cases this
  exact .snoc (hS.push r1) hl' rfl
 ·rename_i ds e
  obtain ⟨b,vs,rfl,hb,r⟩:=(c _ e).con
  refine ⟨b,rfl,⟨vs,hb⟩,hw [.ref b] _ _ E (fun _ _ _ _ _ h=>h) rfl h0 fun i σ τ τ2 θ θ2 H s ht ht2 h ok=>?_⟩
  obtain ⟨p',rfl,hl',hS,c'⟩:=h.at1 ht
  obtain ⟨b',vs',e',hb',r'⟩:=(c' _ ok).con
  cases e'
  refine ⟨fun d e=>?_,fun e=>⟨vs',hb',List.getElem?_eq_none_iff.mp (r'.none e)⟩⟩
  obtain ⟨v,e1,r1⟩:=r'.get e
  refine ⟨⟨vs',v,hb',e1⟩,fun x H' y=>?_⟩
  obtain ⟨rfl,y⟩:=y
  have:=y vs' (hb')
  rw [e1] at this; cases this
  exact .snoc (hS.push r1) hl' rfl
 ·exact hw.elim
noncomputable def B4 (fa:SD→R Vl):SD→R Src:=fun s=>(fa s).bind fun a s1=>match s1.cont a with
 | some (.tup ds)=> .ok ⟨[a],fun s=>s.cont a=some (.tup ds),ds⟩ s1
 | _=> .bad
theorem RI.tup {te:TE} {fa:SD→R Vl} (ha:RE G W te fa):RI G W (iTup G.K te) (B4 fa):=by
 intro E σ τ H s θ Q hN hR hw
 unfold B4 at hw
 rw [ae] at hw
 refine ha E σ τ H s θ _ hN hR (hw.mono (fun a s1 hw v H1 h1=>?_) fun _ _ _ h=>h)
 have h0:=h1
 obtain ⟨p,rfl,hl,h⟩:=h1.unsnoc
 obtain ⟨h2,c,_⟩:=cN hl h
 split at hw
 ·rename_i ds e
  obtain ⟨b,vs,rfl,hb,r⟩:=(c _ e).tup
  refine ⟨b,rfl,⟨vs, .of hb⟩,hw [.ref b] _ _ E (fun _ _ _ _ _ h=>h) rfl h0 fun i σ τ τ2 θ θ2 H s ht ht2 h ok=>?_⟩
  obtain ⟨p',rfl,hl',hS,c'⟩:=h.at1 ht
  obtain ⟨b',vs',e',hb',r'⟩:=(c' _ ok).tup
  cases e'
  refine ⟨fun d e=>?_,fun e=>⟨vs', .of hb',List.getElem?_eq_none_iff.mp (r'.none e)⟩⟩
  obtain ⟨v,e1,r1⟩:=r'.get e
  refine ⟨⟨vs',v, .of hb',e1⟩,fun x H' y=>?_⟩
  obtain ⟨rfl,y⟩:=y
  have:=y vs' (.of hb')
  rw [e1] at this; cases this
  exact .snoc (hS.push r1) hl' rfl
 ·exact hw.elim
def signs (z:Str):List D:=z.cps.toList.map fun c=> .str ⟨#[c]⟩
def zItS (fa:SD→R Vl):SD→R Src:=fun s=>(fa s).bind fun a s1=>match a with
 | .d (.str z)=> .ok ⟨[a],fun _=>True,signs z⟩ s1
 | _=> .bad
theorem RI.str {te:TE} {fa:SD→R Vl} (ha:RE G W te fa):RI G W (iStr te) (zItS fa):=by
 intro E σ τ H s θ Q hN hR hw
 unfold zItS at hw
 rw [ae] at hw
 refine ha E σ τ H s θ _ hN hR (hw.mono (fun a s1 hw v H1 h1=>?_) fun _ _ _ h=>h)
 split at hw
 ·rename_i z
  obtain ⟨p,rfl,r⟩:=h1.last
  obtain rfl:v= .str z:=r
  refine ⟨z,rfl,hw [.str z] _ _ E (fun _ _ _ _ _ h=>h) rfl h1 fun i σ τ τ2 θ θ2 H s ht ht2 h ok=>?_⟩
  have sz:(signs z).length=z.cps.size:=by simp [signs]
  refine ⟨fun d e=>?_,fun e=>?_⟩
  ·have hi:i<z.cps.size:=by rw [←sz]; exact ai e
   refine ⟨hi,fun x H' y=>?_⟩
   obtain ⟨rfl,c,e1,rfl⟩:=y
   unfold signs at e
   rw [List.getElem?_map,Array.getElem?_toList,e1] at e
   cases e
   exact h.push fun _=>rfl
  ·show z.cps.size≤i
   rw [←sz]
   exact List.getElem?_eq_none_iff.mp e
 ·exact hw.elim
def upTo (lo:Int) (n:Nat):List D:=(List.range n).map fun i=> .int (lo+(i:Nat))
theorem wD {lo:Int} {n i:Nat}:(upTo lo n)[i]? =if i<n then some (.int (lo+i)) else none:=by
 unfold upTo
 rw [List.getElem?_map]
 by_cases c:i<n
 ·rw [List.getElem?_range c,if_pos c]; rfl
 ·rw [List.getElem?_eq_none (by simpa using c),if_neg c]; rfl
theorem Cy {lo:Int} {n:Nat}:Walk G E (Itr lo n) ⟨[],fun _=>True,upTo lo n⟩ []:=by
 intro i σ τ τ2 θ θ2 H s ht ht2 h ok
 refine ⟨fun d e=>?_,fun e=>?_⟩
 ·rw [wD] at e
  split at e
  ·rename_i c
   cases e
   refine ⟨c,fun x H' y=>?_⟩
   obtain ⟨rfl,rfl⟩:=y
   exact h.push fun _=>rfl
  ·cases e
 ·rw [wD] at e
  split at e
  ·cases e
  ·rename_i c; exact Nat.le_of_not_lt c
def oI:D→Option Int
 | .int i=>some i
 | _=>none
noncomputable def pO (fr:SD→R (List D)):SD→R Src:=fun s=>(fr s).bind fun ds s1=>match ds with
 | [.int j]=>if -(2 ^ 62)≤j∧j<2 ^ 62 then .ok ⟨[],fun _=>True,upTo 0 j.toNat⟩ s1 else .bad
 | _=> .bad
noncomputable def zRg2 (fr:SD→R (List D)):SD→R Src:=fun s=>(fr s).bind fun ds s1=>match ds with
 | [.int i, .int j]=>if -(2 ^ 62)≤i∧i<2 ^ 62∧ -(2 ^ 62)≤j∧j<2 ^ 62 then .ok ⟨[],fun _=>True,upTo i (j - i).toNat⟩ s1 else .bad
 | _=> .bad
theorem Reps.ints1 {i:Int} {vs:List V} (r:Reps G p [.int i] vs):vs= [.int i]:=by
 obtain ⟨v,r1,rfl,h1,rfl⟩:=r
 rw [show v= .int i from h1]
theorem aar {t:TA} {fr:SD→R (List D)} (ha:RA G W t fr):RI G W (iRng1 t) (pO fr):=by
 intro E σ τ H s θ Q hN hR hw
 unfold pO at hw
 rw [ae] at hw
 refine ha E σ τ H s θ _ hN hR (hw.mono (fun ds s1 hw vs H1 h1=>?_) fun _ _ _ h=>h)
 obtain ⟨p,rfl,hl,h,r⟩:=h1.args hR.tlen
 split at hw
 ·rename_i j
  split at hw
  ·rename_i c
   exact ⟨j,r.ints1,c.1,c.2,hw [] _ _ E (fun _ _ _ _ _ h=>h) rfl (by simpa using (show Rel G E σ τ p.H s1 θ from ⟨p,rfl,hl,h⟩)) Cy⟩
  ·exact hw.elim
 ·exact hw.elim
def bS (ds:List D):List D:=ds.zipIdx.map fun q=> .tup [.int (q.2:Nat),q.1]
theorem iB {ds:List D} {i:Nat}:(bS ds)[i]? =ds[i]?.map fun d=> .tup [.int (i:Nat),d]:=by
 unfold bS
 rw [List.getElem?_map,List.getElem?_zipIdx]
 cases ds[i]? <;> simp
noncomputable def kr (fa:SD→R Vl):SD→R Src:=fun s=>(fa s).bind fun a s1=>match s1.cont a with
 | some (.lst ds)=> .ok ⟨[a],fun s=>s.cont a=some (.lst ds),bS ds⟩ s1
 | _=> .bad
theorem RI.enum {te:TE} {fa:SD→R Vl} (ha:RE G W te fa):RI G W (iEnum G.K (tCons te tNil)) (kr fa):=by
 intro E σ τ H s θ Q hN hR hw
 unfold kr at hw
 rw [ae] at hw
 refine ha E σ τ H s θ _ hN hR (hw.mono (fun a s1 hw v H1 h1=>?_) fun _ _ _ h=>h)
 have h0:=h1
 obtain ⟨p,rfl,hl,h⟩:=h1.unsnoc
 obtain ⟨h2,c,_⟩:=cN hl h
 split at hw
 ·rename_i ds e
  obtain ⟨b,vs,rfl,hb,r⟩:=(c _ e).lst
  refine ⟨b,vs,rfl, .of hb,hw [.ref b] _ _ E (fun _ _ _ _ _ h=>h) rfl h0 fun i σ τ τ2 θ θ2 H s ht ht2 h ok=>?_⟩
  obtain ⟨p',rfl,hl',hS,c'⟩:=h.at1 ht
  obtain ⟨b',vs',e',hb',r'⟩:=(c' _ ok).lst
  cases e'
  refine ⟨fun d e=>?_,fun e=>?_⟩
  ·have e:(bS ds)[i]? =some d:=e
   rw [iB] at e
   obtain ⟨d,ee,rfl⟩:=Option.map_eq_some_iff.mp e
   obtain ⟨v,e1,r1⟩:=r'.get ee
   refine ⟨⟨vs',v, .of hb',e1⟩,fun x H' y=>?_⟩
   obtain ⟨T,z,rfl,hT,rfl,y⟩:=y
   have:=y vs' (.of hb')
   rw [e1] at this; cases this
   exact .snoc ((hS.alloc hT).push (x:= .tup [.int (i:Nat),d]) ⟨T,_,rfl,⟨(hS.fresh hT).2,upd_same⟩,_,_,rfl,rfl,_,_,rfl,r1.mono (cE hT),rfl⟩) hl' rfl
  ·have e:(bS ds)[i]? =none:=e
   rw [iB,Option.map_eq_none_iff] at e
   exact ⟨vs', .of hb',List.getElem?_eq_none_iff.mp (r'.none e)⟩
 ·exact hw.elim
noncomputable def zRev (fa:SD→R Vl):SD→R Src:=fun s=>(fa s).bind fun a s1=>match s1.cont a with
 | some (.lst ds)=> .ok ⟨[a],fun s=>s.cont a=some (.lst ds),ds.reverse⟩ s1
 | _=> .bad
theorem EnLe.rel {E' :En} (l:EnLe G E E') (h:Rel G E' σ τ H s θ):Rel G E σ τ H s θ:=let ⟨p,e,hl,h⟩:=h; ⟨p,e,hl,l _ _ _ _ _ h⟩
theorem EnLe.xp {E' :En} (l:EnLe G E E') {c:Str} {fs:List (Str×D)} (h:XP G W E τ θ c fs s):XP G W E' τ θ c fs s:=fun cls d σ' H' ⟨p,e,hl,h1,x⟩=>h cls d σ' H' ⟨p,e,hl,l _ _ _ _ _ h1,x⟩
noncomputable def gw (ok:SD→Prop) (body:D→SD→R Fl):List D→SD→R Fl
 | [],s=>if ok s then .ok .nx s else .bad
 | d::ds,s=>if ok s then (body d s).bind fun fl s1=>match fl with
   | .nx=>gw ok body ds s1
   | .ct=>gw ok body ds s1
   | .bk=> .ok .nx s1
   | .rt a=> .ok (.rt a) s1
  else .bad
noncomputable def eJ (fi:SD→R Src) (fz:Vl→SD→R Unit) (fb:SD→R Fl):SD→R Fl:=fun s=>(fi s).bind fun src s1=>if Nl src.hs then gw src.ok (fun d s=>(fz (.d d) s).bind fun _ s2=>fb s2) src.ds s1 else .bad
theorem Nl.app {l l' :List Vl} (h:Nl l) (h' :Nl l'):Nl (l++l'):=fun e he=>(List.mem_append.mp he).elim (h e) (h' e)
theorem RS.for' {is:List Nat} {wi:TI} {g:TG} {tb:TS} {fi:SD→R Src} {fz:Vl→SD→R Unit} {fb:SD→R Fl} (hi:RI G W wi fi) (hg:RG G W is g fz) (hb:RS G W tb fb):RS G W (tFor wi g tb) (eJ fi fz fb):=by
 intro E σ τ H s θ D hN hR hw
 unfold eJ at hw
 rw [ae] at hw
 refine hi E σ τ H s θ _ hN hR (hw.mono (fun src s1 hw vs H1 J E' el hv h1 wk=>?_) fun _ _ _ h=>h)
 split at hw
 ·rename_i hNs
  have ht:=hR.tlen
  have hN1:Nl (θ++src.hs):=hN.app hNs
  refine ⟨fun i m σ H=>m=src.ds.length - i∧i≤src.ds.length∧∃s,Rel G E' σ (τ++vs) H s (θ++src.hs)∧Wp (gw src.ok (fun d s=>(fz (.d d) s).bind fun _ s2=>fb s2) (src.ds.drop i) s) (FP G E τ θ D) (XP G W E τ θ),⟨src.ds.length,by simp,Nat.zero_le _,s1,h1,by simpa using hw⟩, ?_⟩
  rintro i m σ2 H2 ⟨rfl,hi2,s2,h2,hw2⟩
  have h2' :Rel G E' σ2 (τ++vs++ []) H2 s2 (θ++src.hs++ []):=by simpa using h2
  by_cases c:i<src.ds.length
  ·have ed:src.ds[i]? =some src.ds[i]:=List.getElem?_eq_getElem c
   rw [List.drop_eq_getElem_cons c] at hw2
   unfold gw at hw2
   split at hw2
   ·rename_i ok
    obtain ⟨go,yl⟩:=(wk i σ2 τ [] θ [] H2 s2 ht rfl h2' ok).1 _ ed
    refine .inr ⟨go,fun σ' H' =>∃s,Rel G E' σ' (τ++vs) H' s (θ++src.hs)∧Wp (gw src.ok (fun d s=>(fz (.d d) s).bind fun _ s2=>fb s2) (src.ds.drop (i+1)) s) (FP G E τ θ D) (XP G W E τ θ),fun σ' H' ⟨s,q1,q2⟩=>⟨_,by omega,rfl,by omega,s,q1,q2⟩,fun x H' y=>?_⟩
    have hx:Rel G E' σ2 (τ++vs++ [x]) H' s2 (θ++src.hs++ [.d src.ds[i]]):=by simpa using yl x H' y
    rw [ae,ae] at hw2
    refine hg E' σ2 (τ++vs) H' s2 (θ++src.hs) x _ _ hN1 hx (hw2.mono (fun _ s3 hw3 σ3 H3 h3 _=>?_) fun _ _ _ h=>el.xp (h.upEnd ht))
    refine hb E' σ3 (τ++vs) H3 s3 (θ++src.hs) _ hN1 h3 (hw3.mono (fun fl s4 hw4=>?_) fun _ _ _ h=>el.xp (h.upEnd ht))
    cases fl with
    | nx=>exact fun σ' H' h' =>⟨s4,h',hw4⟩
    | ct=>exact fun σ' H' h' =>⟨s4,h',hw4⟩
    | bk=>exact fun σ' H' h' =>hw4 σ' H' ((el.rel h').dropEnd ht)
    | rt a=>exact ⟨hw4.1,fun σ' v H' h' =>hw4.2 σ' v H' ((el.rel h').dropMid ht)⟩
   ·exact hw2.elim
  ·have e:src.ds[i]? =none:=List.getElem?_eq_none (by omega)
   rw [List.drop_eq_nil_of_le (by omega)] at hw2
   unfold gw at hw2
   split at hw2
   ·rename_i ok
    exact .inl ⟨(wk i σ2 τ [] θ [] H2 s2 ht rfl h2' ok).2 e,hw2 _ _ ((el.rel h2).dropEnd ht)⟩
   ·exact hw2.elim
 ·exact hw.elim
def kq (c:SD→R Bool) (f:SD→R Fl):Nat→SD→R Fl
 | 0,_=> .bad
 | n+1,s=>(c s).bind fun b s1=>if b=true then (f s1).bind fun fl s2=>match fl with
   | .nx=>kq c f n s2
   | .ct=>kq c f n s2
   | .bk=> .ok .nx s2
   | .rt a=> .ok (.rt a) s2
  else .ok .nx s1
noncomputable def zWh (c:SD→R Bool) (f:SD→R Fl):SD→R Fl:=fun s=>if h:∃n,kq c f n s≠ .bad then kq c f (choose h) s else .bad
theorem RS.while' {c:TT} {tb:TS} {fc:SD→R Bool} {fb:SD→R Fl} (hc:RT G W c fc) (hb:RS G W tb fb):RS G W (tWhile c tb) (zWh fc fb):=by
 intro E σ τ H s θ D hN hR hw
 unfold zWh at hw
 split at hw
 ·rename_i hn
  refine ⟨fun m σ H=>∃s,Rel G E σ τ H s θ∧Wp (kq fc fb m s) (FP G E τ θ D) (XP G W E τ θ),⟨_,s,hR,hw⟩, ?_⟩
  rintro m σ2 H2 ⟨s2,h2,hw2⟩
  cases m with
  | zero=>exact hw2.elim
  | succ m=>
   unfold kq at hw2
   rw [ae] at hw2
   refine hc E σ2 τ H2 s2 θ _ hN h2 (hw2.mono (fun b s3 hw3 H3 h3=>?_) fun _ _ _ h=>h)
   split
   ·rename_i cb
    rw [if_pos cb,ae] at hw3
    refine ⟨fun σ' H' =>∃s,Rel G E σ' τ H' s θ∧Wp (kq fc fb m s) (FP G E τ θ D) (XP G W E τ θ),fun σ' H' q=>⟨m,Nat.lt_succ_self m,q⟩, ?_⟩
    refine hb E σ2 τ H3 s3 θ _ hN h3 (hw3.mono (fun fl s4 hw4=>?_) fun _ _ _ h=>h)
    cases fl with
    | nx=>exact fun σ' H' h' =>⟨s4,h',hw4⟩
    | ct=>exact fun σ' H' h' =>⟨s4,h',hw4⟩
    | bk=>exact hw4
    | rt a=>exact hw4
   ·rename_i cb
    rw [if_neg cb] at hw3
    exact hw3 _ _ h3
 ·exact hw.elim
end
def dZ (l:List (Option Vl)):List Nat→List (Option Vl)
 | []=>l
 | v::vs=>(dZ l vs).set v none
def SD.wipe (s:SD) (is:List Nat):SD:= {s with sl:=dZ s.sl is}
def R.nx {α:Type} (m:R α):R α:=match m with
 | .ok a s=> .ok a s
 | _=> .bad
theorem BY {α:Type} {m:R α} {Q:α→SD→Prop} {E:XQ}:Wp m.nx Q E=Wp m Q (fun _ _ _=>False):=by
 cases m<;> rfl
abbrev WF:WX:=fun _ _ _ _=>False
noncomputable def lz (ok:SD→Prop) (fz:Vl→SD→R Unit) (ft:SD→R Bool) (fe:SD→R Vl) (is:List Nat):List D→List D→SD→R (List D)
 | [],acc,s=>if ok s then .ok acc s else .bad
 | d::ds,acc,s=>if ok s then (fz (.d d) s).nx.bind fun _ s1=>(ft s1).nx.bind fun b s2=>if b=true then (fe s2).nx.bind fun a s3=>(s3.fix a).bind fun y s4=>
   if acc.length<sizeLine then lz ok fz ft fe is ds (acc++ [y]) (s4.wipe is) else .bad
   else lz ok fz ft fe is ds acc (s2.wipe is)
  else .bad
noncomputable def zLc (fi:SD→R Src) (fz:Vl→SD→R Unit) (ft:SD→R Bool) (fe:SD→R Vl) (is:List Nat):SD→R Vl:=fun s=>(fi s).bind fun src s1=>if Nl src.hs then (lz src.ok fz ft fe is src.ds [] (s1.wipe is)).nx.bind fun acc s2=> .ok (.own (.lst acc)) s2 else .bad
def eU:SD→R Bool:=fun s=> .ok true s
section
variable {G:Gc} {W:WX} {E:En} {σ σ' σ2:L2.St} {τ:List V} {H:Hp} {s s' :SD} {θ:List Vl} {v u:V} {a b:Vl} {x y:D} {p:Wr} {Q:VK} {m:Nat} {w w' :List (Option V)} {ŵ ŵ' :List (Option Vl)} {S:Sto} {k:Nat} {is:List Nat}
theorem zwipe_len {l:List (Option Vl)}:∀{is:List Nat},(dZ l is).length=l.length
 | []=>rfl
 | v::vs=>by unfold dZ; rw [List.length_set,zwipe_len]
theorem kn {l:List (Option Vl)} {i:Nat} {x:Vl}:∀{vs:List Nat},(dZ l vs)[i]? =some (some x)→l[i]? =some (some x)∧i∉vs
 | [],h=>⟨h,by simp⟩
 | v::vs,h=>by
  unfold dZ at h
  rcases dP h with ⟨rfl,q⟩ | ⟨c,q⟩
  ·cases q
  ·obtain ⟨h1,h2⟩:=kn q
   exact ⟨h1,by simp only [List.mem_cons,not_or]; exact ⟨fun e=>c e.symm,h2⟩⟩
theorem mr {i:Nat}:∀{vs:List Nat} {σ:L2.St},i∉vs→(wipe σ vs)[i]? =σ[i]?
 | [],_,_=>rfl
 | v::vs,σ,h=>by
  simp only [List.mem_cons,not_or] at h
  unfold wipe
  rw [List.getElem?_set_ne (fun e=>h.1 e.symm),mr h.2]
theorem uF {i:Nat}:∀{vs:List Nat} {σ:L2.St},i∈vs→i<σ.length→(wipe σ vs)[i]? =some none
 | v::vs,σ,h,hl=>by
  unfold wipe
  by_cases c:v=i
  ·subst c
   rw [List.getElem?_set_self (by rw [wipe_length]; exact hl)]
  ·rw [List.getElem?_set_ne c,uF ((List.mem_cons.mp h).resolve_left fun e=>c e.symm) hl]
theorem sD (o:Only is σ σ'):wipe σ' is=wipe σ is:=by
 apply List.ext_getElem?
 intro i
 by_cases c:i∈is
 ·by_cases l:i<σ.length
  ·rw [uF c (by rw [o.1]; exact l),uF c l]
  ·rw [List.getElem?_eq_none (by rw [wipe_length,o.1]; omega),List.getElem?_eq_none (by rw [wipe_length]; omega)]
 ·rw [mr c,mr c,o.2 i c]
theorem yE:wipe (wipe σ is) is=wipe σ is:=sD ⟨wipe_length _ _,fun _ h=>mr h⟩
theorem Sm.repl (h:Sm G E m p w ŵ S) (hl:w'.length=w.length) (hw:∀(k:Nat) (e:Vl),ŵ[k]? =some (some e)→w'[k]? =w[k]?) (hn:∀(k j:Nat),ŵ[k]? =some (some (.loc j))→False):Sm G E m p w' ŵ S:=by
 refine {h with len:=hl.trans h.len,ent:=fun k e q=>?_,own:=fun k y a q1 q2=>h.own k y a q1 ((hw _ _ q1).symm.trans q2),sep:=fun j k y z a q1 q2 q3 q4=>h.sep j k y z a q1 q2 ((hw _ _ q1).symm.trans q3) ((hw _ _ q2).symm.trans q4)}
 obtain ⟨v,e1,r⟩:=h.ent k e q
 refine ⟨v,(hw _ _ q).trans e1, ?_⟩
 cases e with
 | d x=>exact r
 | own x=>exact r
 | loc j=>exact (hn k j q).elim
theorem Sm.less (h:Sm G E m p w ŵ S) (hl:ŵ'.length=ŵ.length) (hw:∀(k:Nat) (e:Vl),ŵ'[k]? =some (some e)→ŵ[k]? =some (some e)):Sm G E m p w ŵ' S:=
 {h with len:=h.len.trans hl.symm,ent:=fun k e q=>h.ent k e (hw k e q),own:=fun k y a q1 q2=>h.own k y a (hw _ _ q1) q2,sep:=fun j k y z a q1 q2 q3 q4=>h.sep j k y z a (hw _ _ q1) (hw _ _ q2) q3 q4}
def D8 (s:SD) (is:List Nat):Prop:=∀i∈is,∀e,s.sl[i]? ≠some (some e)
theorem dM:D8 (s.wipe is) is:=fun i hi e q=>(kn q).2 hi
theorem Rel.wipe (h:Rel G E σ τ H s θ):Rel G E σ τ H (s.wipe is) θ:=by
 obtain ⟨p,e,hl,h⟩:=h
 refine ⟨p,e,hl.trans zwipe_len.symm, ?_⟩
 show Sm G E (dZ s.sl is).length p _ _ _
 rw [zwipe_len]
 refine h.less (by show (dZ s.sl is++_).length=_; simp [zwipe_len]) fun k e q=>?_
 have q:(dZ s.sl is++θ.map some)[k]? =some (some e):=q
 by_cases c:k<s.sl.length
 ·rw [List.getElem?_append_left (by rw [zwipe_len]; exact c)] at q
  rw [List.getElem?_append_left c]
  exact (kn q).1
 ·rw [List.getElem?_append_right (by rw [zwipe_len]; omega),zwipe_len] at q
  rw [List.getElem?_append_right (by omega)]
  exact q
theorem Rel.repl (h:Rel G E σ τ H s θ) (hn:Nl θ) (hb:D8 s is) (o:Only is σ σ'):Rel G E σ' τ H s θ:=by
 obtain ⟨p,e,hl,h⟩:=h
 refine ⟨p,e,o.1.trans hl,h.repl (by simp [o.1]) (fun k e q=>?_) fun k j q=>C6 h hn q⟩
 by_cases c:k<s.sl.length
 ·have ni:k∉is:=fun hi=>by
   rw [List.getElem?_append_left c] at q
   exact hb k hi e q
  rw [List.getElem?_append_left (by rw [o.1,hl]; exact c),List.getElem?_append_left (by rw [hl]; exact c),o.2 k ni]
 ·rw [List.getElem?_append_right (by rw [o.1,hl]; omega),List.getElem?_append_right (by rw [hl]; omega),o.1]
theorem only_wipe:Only is σ (wipe σ is):=⟨wipe_length _ _,fun _ h=>mr h⟩
theorem Only.symm (o:Only is σ σ'):Only is σ' σ:=⟨o.1.symm,fun k h=>(o.2 k h).symm⟩
theorem Only.trans (o:Only is σ σ') (o' :Only is σ' σ2):Only is σ σ2:=⟨o'.1.trans o.1,fun k h=>(o'.2 k h).trans (o.2 k h)⟩
theorem Rel.grow {D0:Addr} {acc:List D} (h:Rel G E σ (τ++ [.ref D0]++ [v]) H s (θ++ [.own (.lst acc)]++ [.d x])) (ht:τ.length=θ.length):
  ∃vs,H D0=some (.lst vs)∧vs.length=acc.length∧Rel G E σ (τ++ [.ref D0]) (upd H D0 (.lst (vs++ [v]))) s (θ++ [.own (.lst (acc++ [x]))]):=by
 obtain ⟨p,rfl,hl,h⟩:=h.unsnoc
 rw [List.map_append,List.map_append,←List.append_assoc,←List.append_assoc,show List.map some [V.ref D0]= [some (.ref D0)] from rfl,show List.map some [Vl.own (.lst acc)]= [some (.own (.lst acc))] from rfl] at h
 have l:(σ++τ.map some).length=(s.sl++θ.map some).length:=by simp [hl,ht]
 obtain ⟨u,e1,r⟩:=h.ent _ _ (af (l:=(s.sl++θ.map some)++ [some (.own (.lst acc))]))
 rw [←aA h.len] at e1
 rw [af] at e1
 cases e1
 have q1:(((s.sl++θ.map some)++ [some (Vl.own (.lst acc))])++ [some (.d x)])[(s.sl++θ.map some).length]? =some (some (.own (.lst acc))):=aJ af
 have q2:(((σ++τ.map some)++ [some (V.ref D0)])++ [some v])[(s.sl++θ.map some).length]? =some (some (.ref D0)):=aJ (by rw [←l]; exact af)
 obtain ⟨u,e2,D1,e3,vs,e4,r4⟩:=h.ent _ _ q1
 rw [q2] at e2
 cases e2
 cases e3
 refine ⟨vs,e4,r4.len, ?_⟩
 have o1:=(h.own _ _ _ q1 q2).1
 have l' :=dD (p:=p) (o:= .lst (vs++ [v])) o1
 have h2:=h.write (y:= .lst (acc++ [x])) (o:= .lst (vs++ [v])) q1 q2 ⟨_,upd_same,(r4.mono l').append (Reps.one (Rep.mono l' r))⟩
 rw [show (((s.sl++θ.map some)++ [some (Vl.own (.lst acc))])++ [some (Vl.d x)]).set (s.sl++θ.map some).length (some (.own (.lst (acc++ [x]))))=((s.sl++θ.map some)++ [some (.own (.lst (acc++ [x])))])++ [some (.d x)] from by
  rw [cz (by simp)]
  congr 1
  exact iq] at h2
 exact .snoc (h2.pop1 (by simp; omega)) hl rfl
def RIat (G:Gc) (W:WX) (E:En) (wi:TI) (fi:SD→R Src):Prop:=∀(σ:L2.St) (τ:List V) (H:Hp) (s:SD) (θ:List Vl) (Q:It→Hp→Prop),Nl θ→Rel G E σ τ H s θ→
 Wp (fi s) (fun src s' =>∀vs H' J E',EnLe G E E'→vs.length=src.hs.length→Rel G E' σ (τ++vs) H' s' (θ++src.hs)→Walk G E' J src vs→Q J H') (XP G W E τ θ)→wi σ H Q
def REat (G:Gc) (W:WX) (E:En) (t:TE) (fe:SD→R Vl):Prop:=∀(σ:L2.St) (τ:List V) (H:Hp) (s:SD) (θ:List Vl) (Q:VK),Nl θ→Rel G E σ τ H s θ→
 Wp (fe s) (fun a s' =>∀v H',Rel G E σ (τ++ [v]) H' s' (θ++ [a])→Q v H') (XP G W E τ θ)→t σ H Q
def RTs (G:Gc) (E:En) (is:List Nat) (σ:L2.St) (tt:TT) (ft:SD→R Bool):Prop:=∀(E' :En),EnLe G E E'→∀(σ3:L2.St),Only is σ3 σ→∀(τ:List V) (H:Hp) (s:SD) (θ:List Vl) (Q:Bool→Hp→Prop),Nl θ→Rel G E' σ3 τ H s θ→
 Wp (ft s) (fun b s' =>∀H',Rel G E' σ3 τ H' s' θ→Q b H') (XP G WF E' τ θ)→tt σ3 H Q
theorem lc_atE {wi:TI} {g:TG} {tt:TT} {te:TE} {fi:SD→R Src} {fz:Vl→SD→R Unit} {ft:SD→R Bool} {fe:SD→R Vl} (hi:RIat G W E wi fi) (hg:RG G WF is g fz) (he:RE G WF te fe) (σ:L2.St) (hT:RTs G E is σ tt ft) (τ:List V) (H:Hp) (s:SD) (θ:List Vl) (Q:VK) (hN:Nl θ) (hR:Rel G E σ τ H s θ)
  (hw:Wp (zLc fi fz ft fe is s) (fun a s' =>∀v H',Rel G E σ (τ++ [v]) H' s' (θ++ [a])→Q v H') (XP G W E τ θ)):tLc wi g tt te is σ H Q:=by
 unfold zLc at hw
 rw [ae] at hw
 refine hi σ τ H s θ _ hN hR (hw.mono (fun src s1 hw vs H1 J E' el hv h1 wk=>?_) fun _ _ _ h=>h)
 split at hw
 ·rename_i hNs
  have ht:=hR.tlen
  have ht1:(τ++vs).length=(θ++src.hs).length:=by simp [ht,hv]
  have hN1:Nl (θ++src.hs):=hN.app hNs
  intro D0 hD
  have h2:Rel G E' σ ((τ++vs)++ [.ref D0]) (upd H1 D0 (.lst [])) (s1.wipe is) ((θ++src.hs)++ [.own (.lst [])]):=by
   obtain ⟨p,rfl,hl,h⟩:=h1.wipe (is:=is)
   exact .snoc (h.allocOwn hD ⟨[],upd_same,rfl⟩) hl rfl
  let P:List D→SD→Prop:=fun acc s2=>∀u H',Rel G E σ (τ++ [u]) H' s2 (θ++ [.own (.lst acc)])→Q u H'
  refine ⟨fun i m H=>m=src.ds.length - i∧i≤src.ds.length∧∃s acc,Rel G E' σ ((τ++vs)++ [.ref D0]) H s ((θ++src.hs)++ [.own (.lst acc)])∧D8 s is∧Wp (lz src.ok fz ft fe is (src.ds.drop i) acc s) P (fun _ _ _=>False),⟨src.ds.length,by simp,Nat.zero_le _,s1.wipe is,[],h2,dM, ?_⟩, ?_⟩
  ·rw [ae,BY] at hw
   rw [List.drop_zero]
   exact hw
  ·rintro i m H2 ⟨rfl,hi2,s2,acc,h2,hb2,hw2⟩
   have hNo:Nl ((θ++src.hs)++ [.own (.lst acc)]):=hN1.snoc fun _ q=>nomatch q
   have h3:=h2.repl (σ' :=wipe σ is) hNo hb2 only_wipe
   by_cases c:i<src.ds.length
   ·have ed:src.ds[i]? =some src.ds[i]:=List.getElem?_eq_getElem c
    rw [List.drop_eq_getElem_cons c] at hw2
    unfold lz at hw2
    split at hw2
    ·rename_i ok
     obtain ⟨go,yl⟩:=(wk i (wipe σ is) τ [.ref D0] θ [.own (.lst acc)] H2 s2 ht rfl h3 ok).1 _ ed
     refine .inr ⟨go,fun H' =>∃s acc,Rel G E' σ ((τ++vs)++ [.ref D0]) H' s ((θ++src.hs)++ [.own (.lst acc)])∧D8 s is∧Wp (lz src.ok fz ft fe is (src.ds.drop (i+1)) acc s) P (fun _ _ _=>False),fun H' ⟨s,acc,q1,q2,q3⟩=>⟨_,by omega,rfl,by omega,s,acc,q1,q2,q3⟩,fun x H' y=>?_⟩
     have hx:=yl x H' y
     rw [ae,BY] at hw2
     refine hg E' (wipe σ is) _ H' s2 _ x _ _ hNo hx (hw2.mono (fun _ s3 hw3 σ3 H3 h3 o3=>?_) fun _ _ _ h=>h.elim)
     have ow:Only is σ3 σ:=o3.symm.trans only_wipe.symm
     refine ⟨(sD o3).trans yE, ?_⟩
     rw [ae,BY] at hw3
     refine hT E' el σ3 ow _ H3 s3 _ _ hNo h3 (hw3.mono (fun b s4 hw4 H4 h4=>?_) fun _ _ _ h=>h.elim)
     split
     ·rename_i cb
      rw [if_pos cb,ae,BY] at hw4
      refine RE.fix he E' σ3 _ H4 s4 _ _ hNo h4 ?_
      unfold aZ wC
      rw [ae]
      refine hw4.mono (fun a s5 hw5=>?_) fun _ _ _ h=>h.elim
      rw [ae] at hw5 ⊢
      cases e5:s5.fix a with
      | bad=>rw [e5] at hw5; exact hw5.elim
      | ex _ _ _=>exact (xx _ _ _ _ _ e5).elim
      | ok y s6=>
       rw [e5] at hw5
       intro v H5 h5
       have hw5:Wp (if acc.length<sizeLine then _ else _) _ _:=hw5
       split at hw5
       ·rename_i hz
        obtain ⟨av,e6,hl6,h6⟩:=h5.grow ht1
        refine ⟨av,e6,by rw [hl6]; exact hz,s6.wipe is,acc++ [y], ?_,dM,hw5⟩
        exact (h6.wipe (is:=is)).repl (hN1.snoc fun _ q=>nomatch q) dM ow
       ·exact hw5.elim
     ·rename_i cb
      rw [if_neg cb] at hw4
      exact ⟨s4.wipe is,acc,(h4.wipe (is:=is)).repl hNo dM ow,dM,hw4⟩
    ·exact hw2.elim
   ·have e:src.ds[i]? =none:=List.getElem?_eq_none (by omega)
    rw [List.drop_eq_nil_of_le (by omega)] at hw2
    unfold lz at hw2
    split at hw2
    ·rename_i ok
     exact .inl ⟨(wk i (wipe σ is) τ [.ref D0] θ [.own (.lst acc)] H2 s2 ht rfl h3 ok).2 e,hw2 _ _ ((el.rel h2).dropMid ht)⟩
    ·exact hw2.elim
 ·exact hw.elim
theorem lc_at {wi:TI} {g:TG} {tt:TT} {te:TE} {fi:SD→R Src} {fz:Vl→SD→R Unit} {ft:SD→R Bool} {fe:SD→R Vl} (hi:RIat G W E wi fi) (hg:RG G WF is g fz) (hT:RT G WF tt ft) (he:RE G WF te fe):REat G W E (tLc wi g tt te is) (zLc fi fz ft fe is):=fun σ τ H s θ Q hN hR hw=>lc_atE hi hg he σ (fun E' _ σ3 _=>hT E' σ3) τ H s θ Q hN hR hw
theorem aak {wi:TI} {g:TG} {tt:TT} {te:TE} {fi:SD→R Src} {fz:Vl→SD→R Unit} {ft:SD→R Bool} {fe:SD→R Vl} (hi:RI G W wi fi) (hg:RG G WF is g fz) (hT:RT G WF tt ft) (he:RE G WF te fe):RE G W (tLc wi g tt te is) (zLc fi fz ft fe is):=fun E=>lc_at (hi E) hg hT he
theorem aai:RT G W tYes eU:=fun _ _ _ _ _ _ _ _ hR hw=>hw _ hR
end
def SD.mod (s:SD) (y:D):Vl→R Unit
 | .d (.cell i)=> .ok () {s with st:=s.st.put i y}
 | .loc k=>match s.sl[k]? with
  | some (some (.own _))=> .ok () {s with sl:=s.sl.set k (some (.own y))}
  | some (some (.d (.cell i)))=> .ok () {s with st:=s.st.put i y}
  | _=> .bad
 | _=> .bad
section
variable {G:Gc} {W:WX} {E:En} {σ:L2.St} {τ:List V} {H:Hp} {s s' :SD} {θ:List Vl} {v u:V} {a b:Vl} {x y:D} {p:Wr} {Q:VK} {m:Nat} {w:List (Option V)} {k:Nat} {l:List (Option Vl)}
theorem mod_ok {c:D} (h:Sm G E s.sl.length p w (s.sl++l) s.st) (q:(s.sl++l)[k]? =some (some a)) (qv:w[k]? =some (some v)) (hc:s.cont a=some c) (hm:s.mod y a= .ok () s'):
  ∃b,v= .ref b∧p.O b∧Ho G p c b∧s'.sl.length=s.sl.length∧∀ho,Ho G {p with H:=upd p.H b ho} y b→Sm G E s'.sl.length {p with H:=upd p.H b ho} w (s'.sl++l) s'.st:=by
 obtain ⟨u,e1,r⟩:=h.ent k a q
 rw [qv] at e1; cases e1
 have cell:∀{i:Nat} {c:D},s.st.get i=some c→s' = {s with st:=s.st.put i y}→v= .ref (p.γ i)→∃b,v= .ref b∧p.O b∧Ho G p c b∧s'.sl.length=s.sl.length∧∀ho,Ho G {p with H:=upd p.H b ho} y b→Sm G E s'.sl.length {p with H:=upd p.H b ho} w (s'.sl++l) s'.st:=fun {i c} hc e ev=>by
  subst e ev
  obtain ⟨o1,o2⟩:=h.cel i c hc
  exact ⟨_,rfl,o1,o2,rfl,fun ho hy=>h.writeCell hc hy⟩
 cases a with
 | d z=>
  cases z with
  | cell i=>
   cases hm
   exact cell hc rfl r.2
  | _=>cases hm
 | own z=>cases hm
 | loc j=>
  obtain ⟨r1,r2,r3⟩:=r
  unfold SD.mod at hm
  unfold SD.cont at hc
  dsimp only at hm hc
  cases q1:s.sl[j]? with
  | none=>rw [q1] at hm; cases hm
  | some o=>
   cases o with
   | none=>rw [q1] at hm; cases hm
   | some z=>
    rw [q1] at hm hc
    obtain ⟨hs,u,e2,r⟩:=h.slot q1
    rw [r3] at e2; cases e2
    cases z with
    | d z=>
     cases z with
     | cell i=>
      cases hm
      exact cell hc rfl r.2
     | _=>cases hm
    | own z=>
     cases hm
     cases hc
     obtain ⟨b,rfl,r⟩:=r
     have o1:=(h.own j _ b hs r3).1
     refine ⟨b,rfl,o1,r,by simp,fun ho hy=>?_⟩
     have q2:=h.write hs r3 hy
     rw [cz (ai q1)] at q2
     show Sm G E (s.sl.set j _).length _ _ _ _
     rw [List.length_set]
     exact q2
    | loc i=>cases hm
theorem pG:∀(s:SD) (y:D) (a:Vl) c fs s',s.mod y a≠ .ex c fs s' :=by
 intro s y a c fs s'
 cases a with
 | d x=>cases x<;> intro q<;> cases q
 | own x=>intro q; cases q
 | loc k=>
  unfold SD.mod
  dsimp only
  split<;> intro q<;> cases q
theorem mod1 {c:D} (hl:σ.length=s.sl.length) (h:Sm G E s.sl.length p ((σ++τ.map some)++ [some v]) ((s.sl++θ.map some)++ [some a]) s.st) (hc:s.cont a=some c) (hm:s.mod y a= .ok () s'):
  ∃b,v= .ref b∧Ho G p c b∧∀ho,(p.le {p with H:=upd p.H b ho}→Ho G {p with H:=upd p.H b ho} y b)→p.le {p with H:=upd p.H b ho}∧σ.length=s'.sl.length∧Sm G E s'.sl.length {p with H:=upd p.H b ho} (σ++τ.map some) (s'.sl++θ.map some) s'.st:=by
 have ll:=aA h.len
 rw [List.append_assoc (as:=s.sl)] at h
 obtain ⟨b,e,o1,ho,hs,go⟩:=mod_ok (k:=(s.sl++θ.map some).length) (v:=v) h (by rw [←List.append_assoc]; exact af) (by rw [←ll]; exact af) hc hm
 refine ⟨b,e,ho,fun ho' hy=>⟨dD o1,hl.trans hs.symm, ?_⟩⟩
 have q:=go ho' (hy (dD o1))
 rw [←List.append_assoc] at q
 exact q.pop1 (by rw [hs]; exact bI hl)
def oB2 (f:D→D→Option (D×D)) (a b:Vl) (s:SD):R Vl:=match b with
 | .d z=>match s.cont a with
  | some c=>match f c z with
   | some (y,r)=>(s.mod y a).bind fun _ s' => .ok (.d r) s'
   | none=> .bad
  | none=> .bad
 | _=> .bad
def oB1 (f:D→Option (D×D)) (a:Vl) (s:SD):R Vl:=match s.cont a with
 | some c=>match f c with
  | some (y,r)=>(s.mod y a).bind fun _ s' => .ok (.d r) s'
  | none=> .bad
 | none=> .bad
def Chg2 (G:Gc) (r:V→V→Hp→VK→Prop) (f:D→D→Option (D×D)):Prop:=∀(p:Wr) (c z y t:D) (b:Addr) (u:V) (Q:VK),f c z=some (y,t)→Ho G p c b→Rep G p z u→
 ∃ho w,Rep G p t w∧(p.le {p with H:=upd p.H b ho}→Ho G {p with H:=upd p.H b ho} y b)∧(Q w (upd p.H b ho)→r (.ref b) u p.H Q)
def Chg1 (G:Gc) (r:V→Hp→VK→Prop) (f:D→Option (D×D)):Prop:=∀(p:Wr) (c y t:D) (b:Addr) (Q:VK),f c=some (y,t)→Ho G p c b→
 ∃ho w,Rep G p t w∧(p.le {p with H:=upd p.H b ho}→Ho G {p with H:=upd p.H b ho} y b)∧(Q w (upd p.H b ho)→r (.ref b) p.H Q)
theorem p_chg2 {r:V→V→Hp→VK→Prop} {f:D→D→Option (D×D)} (hf:Chg2 G r f):dw G r (oB2 f):=by
 intro E σ τ s θ p v u a b Q hl h hw
 unfold oB2 at hw
 split at hw
 ·rename_i z
  split at hw
  ·rename_i c e1
   split at hw
   ·rename_i y t e2
    rw [ae] at hw
    cases e3:s.mod y a with
    | bad=>rw [e3] at hw; exact hw.elim
    | ex _ _ _=>exact (pG _ _ _ _ _ _ e3).elim
    | ok _ s' =>
     rw [e3] at hw
     obtain ⟨u',e4,r4⟩:=h.ent _ _ af
     rw [←aA h.len,af] at e4
     cases e4
     obtain ⟨b,rfl,ho,go⟩:=mod1 hl (h.pop1 (by simp; omega)) e1 e3
     obtain ⟨o',w,r5,hy,k⟩:=hf p c _ y t b u Q e2 ho r4
     obtain ⟨le,hl',hS⟩:=go o' hy
     exact k (hw w _ (.snoc (hS.push (r5.mono le)) hl' rfl))
   ·exact hw.elim
  ·exact hw.elim
 ·exact hw.elim
theorem p_chg1 {r:V→Hp→VK→Prop} {f:D→Option (D×D)} (hf:Chg1 G r f):jC G r (oB1 f):=by
 intro E σ τ s θ p v a Q hl h hw
 unfold oB1 at hw
 split at hw
 ·rename_i c e1
  split at hw
  ·rename_i y t e2
   rw [ae] at hw
   cases e3:s.mod y a with
   | bad=>rw [e3] at hw; exact hw.elim
   | ex _ _ _=>exact (pG _ _ _ _ _ _ e3).elim
   | ok _ s' =>
    rw [e3] at hw
    obtain ⟨b,rfl,ho,go⟩:=mod1 hl h e1 e3
    obtain ⟨o',w,r5,hy,k⟩:=hf p c y t b Q e2 ho
    obtain ⟨le,hl',hS⟩:=go o' hy
    exact k (hw w _ (.snoc (hS.push (r5.mono le)) hl' rfl))
  ·exact hw.elim
 ·exact hw.elim
noncomputable def bf (c z:D):Option (D×D):=match c with
 | .lst ds=>if ds.length<sizeLine then some (.lst (ds++ [z]), .non) else none
 | _=>none
theorem DB:Chg2 G (fun x y H Q=>rAppend x [y] H Q) bf:=by
 intro p c z y t b u Q e ho r
 unfold bf at e
 split at e
 ·split at e
  ·rename_i ds hz
   cases e
   obtain ⟨vs,e1,r1⟩:=ho
   exact ⟨.lst (vs++ [u]), .non,rfl,fun le=>⟨_,upd_same,(r1.mono le).append (Reps.one (Rep.mono le r))⟩,fun q=>⟨b,vs,u,rfl,rfl,e1,by rw [r1.len]; exact hz,q⟩⟩
  ·cases e
 ·cases e
noncomputable def kW (c z:D):Option (D×D):=match c,z with
 | .lst ds, .lst es=>if ds.length+es.length≤sizeLine then some (.lst (ds++es), .non) else none
 | _,_=>none
theorem DA:Chg2 G (fun x y H Q=>rExtend x [y] H Q) kW:=by
 intro p c z y t b u Q e ho r
 unfold kW at e
 split at e
 ·split at e
  ·rename_i ds es hz
   cases e
   obtain ⟨vs,e1,r1⟩:=ho
   obtain ⟨b',us,rfl,⟨_,e2⟩,r2⟩:=r
   exact ⟨.lst (vs++us), .non,rfl,fun le=>⟨_,upd_same,(r1.mono le).append (r2.mono le)⟩,fun q=>⟨b,b',vs,us,rfl,rfl,e1,e2,by rw [r1.len,r2.len]; exact hz,q⟩⟩
  ·cases e
 ·cases e
def fPop (c:D):Option (D×D):=match c with
 | .lst ds=>match ds[ds.length - 1]? with
  | some t=>some (.lst ds.dropLast,t)
  | none=>none
 | _=>none
theorem h_pop:Chg1 G (fun x H Q=>rPop x [] H Q) fPop:=by
 intro p c y t b Q e ho
 unfold fPop at e
 split at e
 ·rename_i ds
  split at e
  ·rename_i e0
   cases e
   obtain ⟨vs,e1,r1⟩:=ho
   obtain ⟨w,e2,r2⟩:=r1.get e0
   have e3:vs.dropLast=vs.take (ds.length - 1):=by rw [List.dropLast_eq_take,r1.len]
   have r3:Reps G p ds.dropLast vs.dropLast:=by rw [e3,List.dropLast_eq_take]; exact r1.take _
   exact ⟨.lst vs.dropLast,w,r2,fun le=>⟨_,upd_same,r3.mono le⟩,fun q=>⟨b,vs,w,rfl,rfl,e1,by rw [r1.len]; exact e2,q⟩⟩
  ·cases e
 ·cases e
def iD (c:D):Option (D×D):=match c with
 | .lst ds=>some (.lst ds.reverse, .non)
 | _=>none
theorem AW:Chg1 G (fun x H Q=>rReverse x [] H Q) iD:=by
 intro p c y t b Q e ho
 unfold iD at e
 split at e
 ·cases e
  obtain ⟨vs,e1,r1⟩:=ho
  exact ⟨.lst vs.reverse, .non,rfl,fun le=>⟨_,upd_same,r1.reverse.mono le⟩,fun q=>⟨b,vs,rfl,rfl,e1,q⟩⟩
 ·cases e
def ug (c:D):Option (D×D):=match c with
 | .lst ds=>some (.lst [], .non)
 | _=>none
theorem h_clear:Chg1 G (fun x H Q=>rClear x [] H Q) ug:=by
 intro p c y t b Q e ho
 unfold ug at e
 split at e
 ·cases e
  obtain ⟨vs,e1,r1⟩:=ho
  exact ⟨.lst [], .non,rfl,fun le=>⟨_,upd_same,rfl⟩,fun q=>⟨b,vs,rfl,rfl,e1,q⟩⟩
 ·cases e
theorem oB2_nx {f:D→D→Option (D×D)}:∀(a b:Vl) (s:SD) c fs s',oB2 f a b s≠ .ex c fs s' :=by
 intro a b s c fs s'
 unfold oB2
 split
 ·split
  ·split
   ·rename_i y r _
    cases e:s.mod y a with
    | bad=>intro q; cases q
    | ok _ _=>intro q; cases q
    | ex _ _ _=>exact (pG _ _ _ _ _ _ e).elim
   ·intro q; cases q
  ·intro q; cases q
 ·intro q; cases q
theorem Ao {f:D→Option (D×D)}:∀(a:Vl) (s:SD) c fs s',oB1 f a s≠ .ex c fs s' :=by
 intro a s c fs s'
 unfold oB1
 split
 ·split
  ·rename_i y r _
   cases e:s.mod y a with
   | bad=>intro q; cases q
   | ok _ _=>intro q; cases q
   | ex _ _ _=>exact (pG _ _ _ _ _ _ e).elim
  ·intro q; cases q
 ·intro q; cases q
def isL (s:SD) (a:Vl):Bool:=match s.cont a with
 | some (.lst _)=>true
 | _=>false
def zM2 (chk:SD→Vl→Bool) (f:Vl→Vl→SD→R Vl) (fa fb:SD→R Vl):SD→R Vl:=fun s=>(fa s).bind fun a s1=>if chk s1 a=true then (fb s1).bind fun b s2=>f a b s2 else .bad
def zM1 (f:Vl→SD→R Vl) (fa:SD→R Vl):SD→R Vl:=z1 f fa
theorem RE.next {tb:TE} {fb:SD→R Vl} {α:Type} {f:Vl→SD→R α} {P:α→SD→Prop} {Q:V→Hp→Prop} (hb:RE G W tb fb) (hN:Nl θ) (hR:Rel G E σ (τ++ [v]) H s (θ++ [a])) (hw:Wp ((fb s).bind fun b s2=>f b s2) P (XP G W E τ θ))
  (k:∀(b:Vl) (s2:SD) (u:V) (H2:Hp),Rel G E σ (τ++ [v]++ [u]) H2 s2 (θ++ [a]++ [b])→Wp (f b s2) P (XP G W E τ θ)→Q u H2):tb σ H Q:=by
 rw [ae] at hw
 by_cases c:∃j,a= .loc j
 ·obtain ⟨j,rfl⟩:=c
  obtain ⟨c1,c2⟩:=hR.unloc
  refine hb E σ τ H s θ _ hN hR.pop (hw.mono (fun b s2 hw u H2 h2=>k _ _ _ _ ?_ hw) fun _ _ _ h=>h)
  exact (h2.reloc c2).swap hR.pop.tlen
 ·exact hb E σ _ H s _ _ (hN.snoc fun j q=>c ⟨j,q⟩) hR (hw.mono (fun b s2 hw u H2 h2=>k _ _ _ _ h2 hw) fun _ _ _ h=>h.up)
theorem RE.bm {T:String} {chk:SD→Vl→Bool} {r:V→List V→Hp→VK→Prop} {f:Vl→Vl→SD→R Vl} {ta tb:TE} {fa fb:SD→R Vl} (hk:∀(p:Wr) (s:SD) (a:Vl) (v:V),chk s a=true→(∀x,s.cont a=some x→Cont G p x v)→tyV G.K T v p.H) (hp:dw G (fun x y H Q=>r x [y] H Q) f)
  (nx:∀a b s c fs s',f a b s≠ .ex c fs s') (ha:RE G W ta fa) (hb:RE G W tb fb):RE G W (tBM G.K T r ta (tCons tb tNil)) (zM2 chk f fa fb):=by
 intro E σ τ H s θ Q hN hR hw
 unfold zM2 at hw
 rw [ae] at hw
 refine ha E σ τ H s θ _ hN hR (hw.mono (fun a s1 hw v H1 h1=>?_) fun _ _ _ h=>h)
 split at hw
 ·rename_i c
  have h0:=h1
  obtain ⟨p,rfl,hl,h⟩:=h1.unsnoc
  refine ⟨hk p s1 a v c (cN hl h).2.1, ?_⟩
  refine RE.next (Q:=fun u H2=>r v [u] H2 Q) hb hN h0 hw fun b s2 u H2 h2 hw=>?_
  obtain ⟨p,rfl,hl,h⟩:=h2.unsnoc
  rw [List.map_append,List.map_append,←List.append_assoc,←List.append_assoc] at h
  refine hp E σ τ s2 θ p v u a b Q hl h ?_
  cases e:f a b s2 with
  | ok b s2=>rw [e] at hw; exact hw
  | ex c fs s2=>exact (nx _ _ _ _ _ _ e).elim
  | bad=>rw [e] at hw; exact hw
 ·exact hw.elim
theorem RE.bm0 {T:String} {r:V→List V→Hp→VK→Prop} {f:Vl→SD→R Vl} {ta:TE} {fa:SD→R Vl} (hp:jC G (fun x H Q=>tyV G.K T x H∧r x [] H Q) f) (nx:∀a s c fs s',f a s≠ .ex c fs s') (ha:RE G W ta fa):RE G W (tBM0 G.K T r ta) (z1 f fa):=RE.op1 (r:=fun x H Q=>tyV G.K T x H∧r x [] H Q) hp nx ha
theorem xq:∀(p:Wr) (s:SD) (a:Vl) (v:V),isL s a=true→(∀x,s.cont a=some x→Cont G p x v)→tyV G.K "list" v p.H:=by
 intro p s a v h c
 unfold isL at h
 split at h
 ·rename_i e
  obtain ⟨b,vs,rfl,hb,_⟩:=(c _ e).lst
  exact .inl ⟨rfl,vs, .of hb⟩
 ·cases h
theorem p_lm0 {r:V→List V→Hp→VK→Prop} {f:D→Option (D×D)} (hf:Chg1 G (fun x H Q=>r x [] H Q) f) (hl:∀c y,f c=some y→∃ds,c= .lst ds):jC G (fun x H Q=>tyV G.K "list" x H∧r x [] H Q) (oB1 f):=p_chg1 fun p c y t b Q e ho=>by
 obtain ⟨ho',w,r1,hy,k⟩:=hf p c y t b Q e ho
 refine ⟨ho',w,r1,hy,fun q=>⟨?_,k q⟩⟩
 obtain ⟨ds,rfl⟩:=hl c _ e
 obtain ⟨vs,e1,_⟩:=ho
 exact .inl ⟨rfl,vs, .of e1⟩
def fDClear (c:D):Option (D×D):=match c with
 | .dct ds=>some (.dct [], .non)
 | _=>none
def gm (G:Gc) (f:Str) (cls:List Str):Prop:=∀c∈cls,∀C,G.mg c=some (.ref C)→Cls G.K C∧NoAttr G.K C f
noncomputable def bg (cls:List Str) (f:Str) (a:Vl) (s:SD):R Vl:=match s.cont a with
 | some (.obj c fs)=>if c∈cls then match dI fs f with
  | some x=> .ok (.d x) s
  | none=> .bad
  else .bad
 | _=> .bad
theorem RE.fld {cls:List Str} {f:Str} {ta:TE} {fa:SD→R Vl} (hf:gm G f cls) (ha:RE G W ta fa):RE G W (tFld G.K ta f) (z1 (bg cls f) fa):=by
 refine RE.op1 (r:=fun x H1 Q=>∃a C dx fs v,x= .ref a∧H1 a=some (.ins C dx fs)∧Cls G.K C∧NoAttr G.K C f∧fs.lookup f=some v∧Q v H1) ?_ ?_ ha
 ·intro E σ τ s θ p v a Q hl h hw
  obtain ⟨h0,ca,_⟩:=cN hl h
  unfold bg at hw
  split at hw
  ·rename_i c fs e
   obtain ⟨b,C,dx,vs,rfl,hm,hb,r⟩:=(ca _ e).obj
   split at hw
   ·rename_i hc
    split at hw
    ·rename_i x e1
     obtain ⟨v,e2,r2⟩:=r.val.1 x e1
     obtain ⟨c1,c2⟩:=hf c hc C hm
     exact ⟨b,C,dx,vs,v,rfl,hb,c1,c2,e2,ba h0 hl hw r2⟩
    ·exact hw.elim
   ·exact hw.elim
  ·exact hw.elim
 ·intro a s c fs s'
  unfold bg
  split
  ·split
   ·split<;> (intro q; cases q)
   ·intro q; cases q
  ·intro q; cases q
noncomputable def cL (cls:List Str) (f:Str) (fo fv:SD→R Vl):SD→R Fl:=fun s=>(fv s).bind fun v s0=>(s0.fix v).bind fun x s1=>(fo s1).bind fun a s2=>match s2.cont a with
 | some (.obj c fs)=>if c∈cls∧fs.length<1000 then (s2.mod (.obj c (hU f x fs)) a).bind fun _ s3=> .ok .nx s3 else .bad
 | _=> .bad
theorem RS.fld {cls:List Str} {f:Str} {ta tv:TE} {fo fv:SD→R Vl} (hf:gm G f cls) (hv:RE G W tv fv) (ho:RE G W ta fo):RS G W (sFld G.K ta tv f) (cL cls f fo fv):=by
 intro E σ τ H s θ D hN hR hw
 unfold cL at hw
 refine RE.fix hv E σ τ H s θ _ hN hR ?_
 unfold aZ wC
 rw [ae] at hw ⊢
 refine hw.mono (fun v0 s0 hw=>?_) fun _ _ _ h=>h
 rw [ae] at hw ⊢
 refine hw.mono (fun x s1 hw=>?_) fun _ _ _ h=>h
 intro y H1 h1
 rw [ae] at hw
 refine ho E σ _ H1 s1 _ _ hN.d h1 (hw.mono (fun a s2 hw v H2 h2=>?_) fun _ _ _ h=>h.up)
 obtain ⟨p,rfl,hl,h⟩:=h2.unsnoc
 obtain ⟨h3,ca,_⟩:=cN hl h
 split at hw
 ·rename_i c fs e
  split at hw
  ·rename_i hc
   rw [ae] at hw
   cases e3:s2.mod (.obj c (hU f x fs)) a with
   | bad=>rw [e3] at hw; exact hw.elim
   | ex _ _ _=>exact (pG _ _ _ _ _ _ e3).elim
   | ok _ s' =>
    rw [e3] at hw
    obtain ⟨b,rfl,hO,go⟩:=mod1 hl h e e3
    obtain ⟨C,dx,vs,m,e4,r⟩:=hO
    obtain ⟨c1,c2⟩:=hf c hc.1 C m
    rw [List.map_append,List.map_append,←List.append_assoc,←List.append_assoc] at h3
    obtain ⟨u',e5,ry⟩:=h3.ent _ _ af
    rw [←aA h3.len,show List.map some [y]= [some y] from rfl,af] at e5
    cases e5
    obtain ⟨le,hl',hS⟩:=go (.ins C dx (putF f y vs)) fun le=>⟨C,dx,_,m,upd_same,RepF.put (Rep.mono le ry) (r.mono le)⟩
    refine ⟨b,C,dx,vs,rfl,e4,c1,c2,by rw [r.len]; exact hc.2,hw σ _ (Rel.pop (v:=y) (a:= .d x) ⟨_,rfl,hl',hS⟩)⟩
  ·exact hw.elim
 ·exact hw.elim
end
section
variable {X:Cx} {CX:CXT} {k:Nat} {f C:Addr} {fd:FuncData} {ps:List Str} {sp:Sp} {dvs:List V} {ds:List Value} {E:L2.St→XK} {x m:Str} {pos apos:Pos} {e o:Expr} {es:List Expr} {ta:TE} {t:TA}
def sH (C:Addr) (m:Str) (sp:Sp) (dvs:List V) (E:L2.St→XK) (ta:TE) (t:TA):TE:=fun σ H Q=>ta σ H fun x H1=>∃a dx fs,x= .ref a∧H1 a=some (.ins C dx fs)∧fs.lookup m=none∧
 t σ H1 fun vs H2=>sp (x::(vs++dvs)) H2 Q (E σ)
theorem Ac {pl:Sem Bool} (he:PE X o ta) (c:Cls X.K C) (hm:Meth X.K C m f) (F:FnOk X.prog X.w X.K X.mg X.base CX k f fd ps sp) (hr:Room k X.A) (hb:Binds X.K fd ps ds) (hd:Vals dvs ds) (hx:∀σ,PassesAt CX X σ (E σ)) (ha:PA X (e::es) t)
  (hst:starEach (e::es) X.env=(false,eval e X.env)::starEach es X.env:=by rfl) (hpl:(backTo pos (starEach es X.env)).any (·.1)=false:=by rfl)
  (ht:eval (.Call (.Attribute o m apos) (e::es) [] pos) X.env=(do
   let ov←eval o X.env
   standAt apos.atName
   let (f,first)←holding [ov] (getMethod ov m pl)
   callWith pos f first (backTo pos (starEach (e::es) X.env)) (backToKw pos (keywordEach [] X.env))):=by rfl):
  PE X (.Call (.Attribute o m apos) (e::es) [] pos) (sH C m sp dvs E ta t):=by
 refine ⟨fun pins s σ H Q I h=>?_⟩
 refine PySem.W.methodCall_KW (pl:=pl) (thn (he.run pins s σ H _ I h) fun u s1 ⟨x,H1,I1,rx,a,dx,fs,ex,ea,l,q⟩=>?_) ht
 subst ex
 obtain rfl:u=Value.ref a:=rx
 refine getmeth_ok I1 ea c hm l ?_
 refine PySem.W.callWith_K (first:= [.ref a]) (h₀:=X.base) I.ok.mod.kin hm.kp (thn (ha.run pos pins s1 σ H1 _ I1 q) fun us s2 ⟨vs,H2,I2,r,q2⟩=>⟨I2.kIn, ?_⟩) hst hpl
 exact run_fnSD (us:= .ref a::us) (vs:= .ref a::vs) F hr hb hd (hx σ) I2 (.cons rfl r) q2
theorem xR {pl:Sem Bool} (he:PE X o ta) (c:Cls X.K C) (hm:Meth X.K C m f) (F:FnOk X.prog X.w X.K X.mg X.base CX k f fd ps sp) (hr:Room k X.A) (hb:Binds X.K fd ps ds) (hd:Vals dvs ds) (hx:∀σ,PassesAt CX X σ (E σ))
  (ht:eval (.Call (.Attribute o m apos) [] [] pos) X.env=(do
   let ov←eval o X.env
   standAt apos.atName
   let (f,first)←holding [ov] (getMethod ov m pl)
   callWith pos f first (backTo pos (starEach [] X.env)) (backToKw pos (keywordEach [] X.env))):=by rfl):
  PE X (.Call (.Attribute o m apos) [] [] pos) (sH C m sp dvs E ta tNil):=by
 refine ⟨fun pins s σ H Q I h=>?_⟩
 refine PySem.W.methodCall_KW (pl:=pl) (thn (he.run pins s σ H _ I h) fun u s1 ⟨x,H1,I1,rx,a,dx,fs,ex,ea,l,q⟩=>?_) ht
 subst ex
 obtain rfl:u=Value.ref a:=rx
 refine getmeth_ok I1 ea c hm l ?_
 exact PySem.W.callWith_K0 (first:= [.ref a]) I1.kIn hm.kp (run_fnSD (us:= [.ref a]) (vs:= [.ref a]) F hr hb hd (hx σ) I1 (.cons rfl .nil) q)
def tMakeS (C:Addr) (sp:Sp) (dvs:List V) (E:L2.St→XK) (t:TA):TE:=fun σ H Q=>t σ H fun vs H1=>∀x dx,H1 x=none→H1 dx=none→dx≠x→
 sp (.ref x::(vs++dvs)) (upd (upd H1 dx (.own x)) x (.ins C dx [])) (fun v H2=>v= .non∧H2 dx=some (.own x)∧Q (.ref x) H2) (fun cls d H2=>H2 dx=some (.own x)∧E σ cls d H2)
end
def zFn (n:Nat) (body:SD→R Fl) (ds:List D) (S:Sto):R Vl:=match body ⟨starts n ds,S⟩ with
 | .ok .nx s=> .ok (.d .non) s
 | .ok (.rt (.d x)) s=> .ok (.d x) s
 | .ok (.rt (.own x)) s=> .ok (.own x) s
 | .ok _ _=> .bad
 | .ex c fs s=> .ex c fs s
 | .bad=> .bad
abbrev FnV:=List D→Sto→R Vl
def goF (F:FnV) (ds:List D) (s:SD):R Vl:=match F ds s.st with
 | .ok a s' => .ok a {s with st:=s'.st}
 | .ex c fs s' => .ex c fs {s with st:=s'.st}
 | .bad=> .bad
def spF (G:Gc) (n:Nat) (F:FnV):Sp:=fun vs H Q X=>vs.length=n∧∃(E:En) (m:Nat) (p:Wr) (w:List (Option V)) (ŵ:List (Option Vl)) (S:Sto) (ds:List D),p.H=H∧Sm G E m p w ŵ S∧Reps G p ds vs∧
 Wp (F ds S) (fun a s' =>∀v (p' :Wr),Sm G E m p' (w++ [some v]) (ŵ++ [some a]) s'.st→Q v p'.H) (fun c fs s' =>∀cls d (p' :Wr),Sm G E m p' w ŵ s'.st→ExV G p' c fs cls d→X cls d p'.H)
section
variable {P:Program} {w:World} {K:PySem.W.Frag} {mg:Str→Option Value} {base:Heap}
theorem ql {G:Gc} {t:TS} {fz:SD→R Fl} {N:List Str} {n:Nat} {vs:List V} {H:Hp} {Q:VK} {X:XK} (hb:RS G (fun cls d _ H=>X cls d H) t fz) (hs:spF G n (zFn N.length fz) vs H Q X) (hn:n≤N.length):t {nx:=fun _ H' =>Q .non H',rt:=Q} (L2.start N vs) H:=by
 obtain ⟨hl,E,m,p,w,ŵ,S,ds,rfl,h,r,hw⟩:=hs
 have hd:ds.length=n:=by rw [←r.len]; exact hl
 have h0:=h.enter (N:=N) (m' :=N.length) r
 have ls:(starts N.length ds).length=N.length:=by unfold starts; simp; omega
 have hR:Rel G (E.of p S w ŵ) (L2.start N vs) [] p.H ⟨starts N.length ds,S⟩ []:=by
  refine ⟨p,rfl, ?_, ?_⟩
  ·show _=(starts N.length ds).length
   rw [ls]
   unfold L2.start
   simp [hl]
   omega
  ·show Sm G _ (starts N.length ds).length p _ _ _
   rw [ls]
   simpa using h0
 refine hb _ _ [] p.H _ [] _ (fun e h=>absurd h List.not_mem_nil) hR ?_
 unfold zFn at hw
 have push:∀{σ' :L2.St} {v:V} {H' :Hp} {s' :SD} {a:Vl},(∀j,a≠ .loc j)→Rel G (E.of p S w ŵ) σ' ([]++ [v]) H' s' ([]++ [a])→∃p' :Wr,p'.H=H'∧Sm G E m p' (w++ [some v]) (ŵ++ [some a]) s'.st:=fun {σ' v H' s' a} ha hR=>by
  obtain ⟨p',rfl,hl',h'⟩:=hR.unsnoc
  have ll:=aA h'.len
  exact ⟨p',rfl,h.leave h' (k:=(s'.sl++([]:List Vl).map some).length) af (by rw [←ll]; exact af) ha⟩
 cases e:fz ⟨starts N.length ds,S⟩ with
 | bad=>rw [e] at hw; exact hw.elim
 | ex c fs s' =>
  rw [e] at hw
  intro cls d σ' H' hx
  obtain ⟨p',rfl,hl',h',x⟩:=hx
  exact hw cls d p' (h.after h') x
 | ok fl s' =>
  rw [e] at hw
  cases fl with
  | nx=>
   intro σ' H' hR'
   obtain ⟨p',rfl,h'⟩:=push (a:= .d .non) (fun j q=>nomatch q) (hR'.push (x:= .non) (v:= .non) fun _=>rfl)
   exact hw _ _ h'
  | bk=>exact hw.elim
  | ct=>exact hw.elim
  | rt a=>
   cases a with
   | loc j=>exact hw.elim
   | d x=>
    refine ⟨(fun j q=>nomatch q),fun σ' v H' hR' =>?_⟩
    obtain ⟨p',rfl,h'⟩:=push (a:= .d x) (fun j q=>nomatch q) hR'
    exact hw _ _ h'
   | own x=>
    refine ⟨(fun j q=>nomatch q),fun σ' v H' hR' =>?_⟩
    obtain ⟨p',rfl,h'⟩:=push (a:= .own x) (fun j q=>nomatch q) hR'
    exact hw _ _ h'
theorem zk {G:Gc} {n:Nat} {F:FnV}:∀vs H Q E,spF G n F vs H Q E→vs.length=n:=fun _ _ _ _ h=>h.1
theorem fnZ {x qual:Str} {st:Stmt} {f:Addr} {fd:FuncData} {N ps:List Str} {k:Nat} {fz:SD→R Fl} (F:L2.Fun K x qual st f fd) (S:FnScope N ps (L2.defScope st)) (hn:ps.length≤N.length)
  (hbody:∀(cdv:Value) (A:Around) (outer:List Env) (s:Shared) (H:Hp) (E:XK),Room k (A.deeper (envOfC qual (L2.defScope st) s.heap.objs.size f cdv))→
   ∃t,PSs (cxOf (L2.CX P w) P w K mg base N qual (L2.defScope st) f cdv A outer s H E) (L2.defBody st) t∧RS ⟨K,mg⟩ (fun cls d _ H=>E cls d H) t fz):FnOk P w K mg base (L2.CX P w) (k+1) f fd ps (spF ⟨K,mg⟩ ps.length (zFn N.length fz)):=
 F.okX S zk fun cdv A outer s H vs Q E hr h=>by
  obtain ⟨t,h1,h2⟩:=hbody cdv A outer s H E hr
  exact ⟨t,h1,ql h2 h hn⟩
theorem fnZ0 {x qual:Str} {st:Stmt} {f:Addr} {fd:FuncData} {N ps:List Str} {k:Nat} {fz:SD→R Fl} (F:L2.Fun K x qual st f fd) (S:FnScope N ps (L2.defScope st)) (hn:ps.length≤N.length)
  (hbody:∀(cdv:Value) (A:Around) (outer:List Env) (s:Shared) (H:Hp) (E:XK),Room k (A.deeper (envOfC qual (L2.defScope st) s.heap.objs.size f cdv))→
   ∃t,PSs (cxOf L2.CX0 P w K mg base N qual (L2.defScope st) f cdv A outer s H E).nox (L2.defBody st) t∧RS ⟨K,mg⟩ WF t fz):FnOk P w K mg base L2.CX0 (k+1) f fd ps (fun vs H Q E=>spF ⟨K,mg⟩ ps.length (zFn N.length fz) vs H Q (fun _ _ _=>False)):=
 F.ok S (fun _ _ _ _ h=>h.1) fun cdv A outer s H vs Q E hr h=>by
  obtain ⟨t,h1,h2⟩:=hbody cdv A outer s H E hr
  exact ⟨t,h1,ql (X:=fun _ _ _=>False) h2 h hn⟩
end
inductive DvOk:List V→List D→Prop where
 | nil:DvOk [] []
 | cons {v:V} {d:D} {vs:List V} {ds:List D} (h:d.sc=some v) (t:DvOk vs ds):DvOk (v::vs) (d::ds)
section
variable {G:Gc} {W:WX} {E:En} {σ:L2.St} {τ:List V} {H:Hp} {s s' :SD} {θ:List Vl} {v:V} {a b:Vl} {x:D} {p:Wr}
theorem zI (e:x.sc=some v):Rep G p x v:=by
 cases x<;> cases e<;> rfl
theorem DvOk.reps {vs:List V} {ds:List D} (h:DvOk vs ds):Reps G p ds vs:=by
 induction h with
 | nil=>rfl
 | cons h _ ih=>exact ⟨_,_,rfl,zI h,ih⟩
def ar (F:FnV) (dds:List D) (fr:SD→R (List D)):SD→R Vl:=fun s=>(fr s).bind fun ds s1=>goF F (ds++dds) s1
theorem goF_sp {F:FnV} {n:Nat} {ds:List D} {vs:List V} {Q:VK} (h:Sm G E s.sl.length p (σ++τ.map some) (s.sl++θ.map some) s.st) (hl:σ.length=s.sl.length) (r:Reps G p ds vs) (hn:vs.length=n)
  (hw:Wp (goF F ds s) (fun a s' =>∀v H',Rel G E σ (τ++ [v]) H' s' (θ++ [a])→Q v H') (XP G W E τ θ)):spF G n F vs p.H Q (WE W σ):=by
 refine ⟨hn,E,_,p,_,_,s.st,ds,rfl,h,r, ?_⟩
 unfold goF at hw
 cases e:F ds s.st with
 | bad=>rw [e] at hw; exact hw.elim
 | ok a s' =>
  rw [e] at hw
  intro v p' h'
  exact hw v _ (.snoc h' hl rfl)
 | ex c fs s' =>
  rw [e] at hw
  intro cls d p' h' x
  exact hw cls d σ _ ⟨p',rfl,hl,h',x⟩
theorem RE.call {F:FnV} {n:Nat} {dvs:List V} {dds:List D} {t:TA} {fr:SD→R (List D)} {k:Nat} (hd:DvOk dvs dds) (hr:RA G W t fr) (hm:Many fr k) (hn:k+dvs.length=n):RE G W (tCallSD (spF G n F) dvs (WE W) t) (ar F dds fr):=by
 intro E σ τ H s θ Q hN hR hw
 unfold ar at hw
 rw [ae] at hw
 refine hr E σ τ H s θ _ hN hR (hw.eq.mono (fun ds s1 ⟨e,hw⟩ vs H1 h1=>?_) fun _ _ _ h=>h)
 obtain ⟨p,rfl,hl,h,r⟩:=h1.args hR.tlen
 exact goF_sp h hl (r.append hd.reps) (by rw [List.length_append,r.len,hm _ _ _ e]; exact hn) hw
noncomputable def aD (c m:Str) (F:FnV) (dds:List D) (fo:SD→R Vl) (fr:SD→R (List D)):SD→R Vl:=fun s=>(fo s).bind fun a s1=>(s1.fix a).bind fun x s2=>match s2.cont (.d x) with
 | some (.obj c' fs)=>if c' =c∧dI fs m=none then (fr s2).bind fun ds s3=>goF F (x::(ds++dds)) s3 else .bad
 | _=> .bad
theorem RE.meth {c m:Str} {C:Addr} {F:FnV} {n:Nat} {dvs:List V} {dds:List D} {to:TE} {fo:SD→R Vl} {t:TA} {fr:SD→R (List D)} {k:Nat} (hC:G.mg c=some (.ref C)) (hd:DvOk dvs dds) (ho:RE G W to fo) (hr:RA G W t fr) (hm:Many fr k) (hn:k+dvs.length+1=n):
  RE G W (sH C m (spF G n F) dvs (WE W) to t) (aD c m F dds fo fr):=by
 intro E σ τ H s θ Q hN hR hw
 unfold aD at hw
 refine RE.fix ho E σ τ H s θ _ hN hR ?_
 unfold aZ wC
 rw [ae] at hw ⊢
 refine hw.mono (fun a s1 hw=>?_) fun _ _ _ h=>h
 rw [ae] at hw ⊢
 refine hw.mono (fun x s2 hw=>?_) fun _ _ _ h=>h
 intro v H1 h1
 have h0:=h1
 obtain ⟨p,rfl,hl,h⟩:=h1.unsnoc
 obtain ⟨h3,ca,_⟩:=cN hl h
 split at hw
 ·rename_i c' fs e
  split at hw
  ·rename_i hc
   obtain ⟨b,C',dx,vs,rfl,hm',hb,r⟩:=(ca _ e).obj
   rw [hc.1,hC] at hm'
   cases hm'
   refine ⟨b,dx,vs,rfl,hb,r.val.2 hc.2, ?_⟩
   rw [ae] at hw
   refine hr E σ _ p.H s2 _ _ hN.d h0 (hw.eq.mono (fun ds s3 ⟨e,hw⟩ vs H2 h2=>?_) fun _ _ _ h=>h.up)
   have h2' :Rel G E σ (τ++(.ref b::vs)) H2 s3 (θ++(x::ds).map .d):=by simpa using h2
   obtain ⟨p2,rfl,hl2,h4,r2⟩:=h2'.args hR.tlen
   have r3:Reps G p2 (x::(ds++dds)) (.ref b::(vs++dvs)):=by
    obtain ⟨v1,r1,e1,q1,q2⟩:=r2
    cases e1
    exact ⟨_,_,rfl,q1,q2.append hd.reps⟩
   obtain ⟨v1,r1,e1,q1,q2⟩:=r2
   cases e1
   exact goF_sp h4 hl2 r3 (by rw [List.length_cons,List.length_append,q2.len,hm _ _ _ e]; exact hn) hw
  ·exact hw.elim
 ·exact hw.elim
end
section
variable {X:Cx} {CX:CXT} {k:Nat} {f C:Addr} {fd:FuncData} {ps:List Str} {sp:Sp} {dvs:List V} {ds:List Value} {E:L2.St→XK} {x:Str} {p pos:Pos} {e:Expr} {es:List Expr} {t:TA}
def uO (C:Addr) (sp:Sp) (dvs:List V) (E:L2.St→XK) (t:TA):TE:=fun σ H Q=>t σ H fun vs H1=>∀x dx,H1 x=none→H1 dx=none→dx≠x→
 sp (.ref x::(vs++dvs)) (upd (upd H1 dx (.own x)) x (.ins C dx [])) (fun v H2=>v= .non∧Q (.ref x) H2) (E σ)
theorem wL {pins:List (Addr×Obj)} {σ:L2.St} {H:Hp} {s:Shared} {Q:VK} {us:List Value} {vs:List V} (M:Mk X.K C f) (F:FnOk X.prog X.w X.K X.mg X.base CX k f fd ps sp) (hr:Room (k+1) X.A) (hb:Binds X.K fd ps ds) (hd:Vals dvs ds)
  (hx:PassesAt CX X σ (E σ)) (I:Inv X pins σ H s) (r:Vals vs us)
  (h:∀x dx,H x=none→H dx=none→dx≠x→sp (.ref x::(vs++dvs)) (upd (upd H dx (.own x)) x (.ins C dx [])) (fun v H2=>v= .non∧Q (.ref x) H2) (E σ)):
  wpAny (model X.prog X.w) X.A (call (.ref C) us) (EP X pins σ Q) X.xe s:=by
 have hq:=h (s.heap.objs.size+1) s.heap.objs.size (I.hok.fresh (Nat.le_succ _)) (I.hok.fresh (Nat.le_refl _)) (Nat.ne_of_lt (Nat.lt_succ_self _))
 have I2:=Inv.made (C:=C) I
 have r2:Vals (V.ref (s.heap.objs.size+1)::(vs++dvs)) (Value.ref (s.heap.objs.size+1)::(us++ds)):= .cons rfl (r.append hd)
 have hl:(Value.ref (s.heap.objs.size+1)::us++ds).length=ps.length:=by
  have e:=r2.length
  rw [F.len _ _ _ _ hq] at e
  exact e.symm
 refine wpAny_call (make_map (f:=f) I.kIn M.makes M.init (beq_iff_eq.mp M.fn) (codeAny_mono (F.run _ X.stack _ _ ⟨Value.ref (s.heap.objs.size+1)::us,[]⟩ (Value.ref (s.heap.objs.size+1)::(us++ds)) _ _ (E σ) (hr.make C us [])
  (I2.env0.make C us []) (hb _ (Value.ref (s.heap.objs.size+1)::us) I2.kIn hl) r2 hq) fun r s' hq' =>?_))
 cases r with
 | error e=>exact hx pins _ _ e s' I2 hq'
 | ok fl=>
  cases fl with
  | ret u=>
   obtain ⟨v,H',I3,rv,ev,q3⟩:=I2.after hq'
   subst ev
   exact ⟨rv,⟨V.ref (s.heap.objs.size+1),H',I3,rfl,q3⟩⟩
  | next=>exact False.elim hq'
  | brk=>exact False.elim hq'
  | cont=>exact False.elim hq'
theorem pe_makS (M:Mk X.K C f) (F:FnOk X.prog X.w X.K X.mg X.base CX k f fd ps sp) (hr:Room (k+1) X.A) (hg:Gl X x) (hm:X.mg x=some (.ref C)) (hb:Binds X.K fd ps ds) (hd:Vals dvs ds) (hx:∀σ,PassesAt CX X σ (E σ))
  (ha:PA X (e::es) t) (hdb:(x == ("__debug__" :Str))=false:=by decide) (he:starEach (e::es) X.env=(false,eval e X.env)::starEach es X.env:=by rfl) (hpl:(backTo pos (starEach es X.env)).any (·.1)=false:=by rfl):
  PE X (.Call (.Name x p) (e::es) [] pos) (uO C sp dvs E t):=by
 refine ⟨fun pins s σ H Q I h=>?_⟩
 refine wpAny_Call_Name_kw (ld_glob I hg hm ?_ hdb)
 refine PySem.W.callWith_K (h₀:=X.base) I.ok.mod.kin M.kp (thn (ha.run pos pins s σ H _ I h) fun us s1 ⟨vs,H1,I1,r,q⟩=>⟨I1.kIn, ?_⟩) he hpl
 exact wL M F hr hb hd (hx σ) I1 r q
theorem CQ (M:Mk X.K C f) (F:FnOk X.prog X.w X.K X.mg X.base CX k f fd ps sp) (hr:Room (k+1) X.A) (hg:Gl X x) (hm:X.mg x=some (.ref C)) (hb:Binds X.K fd ps ds) (hd:Vals dvs ds) (hx:∀σ,PassesAt CX X σ (E σ))
  (hdb:(x == ("__debug__" :Str))=false:=by decide):PE X (.Call (.Name x p) [] [] pos) (uO C sp dvs E tNil):=by
 refine ⟨fun pins s σ H Q I h=>?_⟩
 refine wpAny_Call_Name_kw (ld_glob I hg hm ?_ hdb)
 exact PySem.W.callWith_K0 I.kIn M.kp (wL (us:= []) M F hr hb hd (hx σ) I .nil h)
end
def lL (c:Str) (F:FnV) (dds:List D) (fr:SD→R (List D)):SD→R Vl:=fun s=>(fr s).bind fun ds s1=>match F (.cell s1.st.nx::(ds++dds)) (s1.st.new (.obj c [])) with
 | .ok (.d .non) s' => .ok (.d (.cell s1.st.nx)) {s1 with st:=s'.st}
 | .ex c fs s' => .ex c fs {s1 with st:=s'.st}
 | _=> .bad
section
variable {G:Gc} {W:WX} {E:En} {σ:L2.St} {τ:List V} {H:Hp} {s s' :SD} {θ:List Vl} {v u:V} {a b:Vl} {x y:D} {p:Wr} {Q:VK}
theorem RE.make {c:Str} {C:Addr} {F:FnV} {n:Nat} {dvs:List V} {dds:List D} {t:TA} {fr:SD→R (List D)} {k:Nat} (hC:G.mg c=some (.ref C)) (hd:DvOk dvs dds) (hr:RA G W t fr) (hm:Many fr k) (hn:k+dvs.length+1=n):
  RE G W (uO C (spF G n F) dvs (WE W) t) (lL c F dds fr):=by
 intro E σ τ H s θ Q hN hR hw
 unfold lL at hw
 rw [ae] at hw
 refine hr E σ τ H s θ _ hN hR (hw.eq.mono (fun ds s1 ⟨e,hw⟩ vs H1 h1=>?_) fun _ _ _ h=>h)
 obtain ⟨p,rfl,hl,h,r⟩:=h1.args hR.tlen
 intro x dx hx hdx hne
 have q1:=h.alloc (o:= .own x) hdx
 have hx' :({p with H:=upd p.H dx (.own x)}:Wr).H x=none:=by show upd _ _ _ _=_; rw [upd_ne (Ne.symm hne)]; exact hx
 have q2:=q1.allocOwn (o:= .ins C dx []) (x:= .obj c []) hx' ⟨C,dx,[],hC,upd_same,rfl⟩
 have ll:(σ++τ.map some).length=(s1.sl++θ.map some).length:=h.len
 have q3:=q2.celled (k:=(s1.sl++θ.map some).length) (a:=x) af (by rw [←ll]; exact af)
 rw [iq] at q3
 have le1:=(cE (p:=p) (o:= .own x) hdx).trans (gZ (o:= .ins C dx []) hx')
 have le2:∀{q:Wr},q.n=s1.st.nx→q.le {q with γ:=fun i=>if i=s1.st.nx then x else q.γ i,n:=s1.st.nx+1}:=fun {q} hq=>⟨fun i hi=>if_neg (by rw [hq] at hi; omega),by rw [hq]; exact Nat.le_succ _,fun b u n e=>⟨.inl e,n⟩⟩
 have le:=le1.trans (le2 q2.pn)
 obtain ⟨v0,e0,r0⟩:=q3.ent _ (.d (.cell s1.st.nx)) af
 rw [←ll,af] at e0
 cases e0
 refine ⟨by rw [List.length_cons,List.length_append,r.len,hm _ _ _ e]; exact hn,E,_,_,_,_,_, .cell s1.st.nx::(ds++dds),rfl,q3,⟨_,_,rfl,r0,(r.mono le).append hd.reps⟩, ?_⟩
 cases e1:F (.cell s1.st.nx::(ds++dds)) (s1.st.new (.obj c [])) with
 | bad=>rw [e1] at hw; exact hw.elim
 | ex c fs s' =>
  rw [e1] at hw
  intro cls d p' h' x
  exact hw cls d σ _ ⟨p',rfl,hl,h'.pop1 (bI hl),x⟩
 | ok a s' =>
  rw [e1] at hw
  cases a with
  | own y=>exact hw.elim
  | loc j=>exact hw.elim
  | d y=>
   cases y with
   | non=>
    intro v p' h'
    have l2:=aA h'.len
    obtain ⟨v1,e2,r1⟩:=h'.ent _ _ af
    rw [←l2,af] at e2
    cases e2
    have e3:v= .non:=r1
    exact ⟨e3,hw (.ref x) _ (.snoc (h'.pop1 (by simp; omega)) hl rfl)⟩
   | _=>exact hw.elim
theorem RE.cb1 {r:List V→Hp→VK→Prop} {f:Vl→SD→R Vl} {ta:TE} {fa:SD→R Vl} (hp:jC G (fun v H Q=>r [v] H Q) f) (nx:∀a s c fs s',f a s≠ .ex c fs s') (ha:RE G W ta fa):RE G W (tCB r (tCons ta tNil)) (z1 f fa):=
 RE.op1 (r:=fun v H Q=>r [v] H Q) hp nx ha
theorem RE.cb2 {r:List V→Hp→VK→Prop} {f:Vl→Vl→SD→R Vl} {ta tb:TE} {fa fb:SD→R Vl} (hp:dw G (fun v u H Q=>r [v,u] H Q) f) (nx:∀a b s c fs s',f a b s≠ .ex c fs s') (ha:RE G W ta fa) (hb:RE G W tb fb):RE G W (tCB r (tCons ta (tCons tb tNil))) (z2 f fa fb):=
 RE.op2 (r:=fun v u H Q=>r [v,u] H Q) hp nx ha hb
theorem p_len:jC G (fun v H Q=>CN G.K [v] H Q) jn:=by
 intro E σ τ s θ p v a Q hl h hw
 obtain ⟨h0,ca,_⟩:=cN hl h
 unfold jn at hw
 split at hw
 ·rename_i e
  obtain ⟨b,vs,rfl,hb,r⟩:=(ca _ e).lst
  exact .inl ⟨b,vs,rfl, .inl (.of hb),by rw [r.len]; exact ba h0 hl hw rfl⟩
 ·rename_i e
  obtain ⟨b,vs,rfl,hb,r⟩:=(ca _ e).con
  exact .inl ⟨b,vs,rfl, .inl hb,by rw [r.len]; exact ba h0 hl hw rfl⟩
 ·rename_i e
  obtain ⟨b,vs,rfl,hb,r⟩:=(ca _ e).tup
  exact .inl ⟨b,vs,rfl, .inr (.of hb),by rw [r.len]; exact ba h0 hl hw rfl⟩
 ·rename_i e
  obtain rfl:=(ca _ e).str
  split at hw
  ·rename_i hz
   exact .inr (.inl ⟨_,rfl,hz,ba h0 hl hw rfl⟩)
  ·exact hw.elim
 ·rename_i e
  obtain ⟨b,vs,rfl,hb,r⟩:=(ca _ e).dct
  exact .inr (.inr ⟨b,vs,rfl,hb,by rw [r.len]; exact ba h0 hl hw rfl⟩)
 ·exact hw.elim
def lX:Key→D
 | .inl i=> .int i
 | .inr z=> .str z
theorem jV {k:Key}:Rep G p (lX k) (kV k):=by cases k<;> rfl
theorem tQ:∀{ks:List (Key×D)} {vs:List (Key×V)},RepK G p ks vs→Reps G p (ks.map fun kv=>lX kv.1) (vs.map fun kv=>kV kv.1)
 | [],_,h=>by rw [show _= [] from h]; exact rfl
 | (k,d)::ks,_,h=>by
  obtain ⟨v,r,rfl,h1,h2⟩:=h
  exact ⟨_,_,rfl,jV,tQ h2⟩
noncomputable def qF (a:Vl) (s:SD):R Vl:=match s.cont a with
 | some (.lst xs)=> .ok (.own (.lst xs)) s
 | some (.con xs)=> .ok (.own (.lst xs)) s
 | some (.tup xs)=> .ok (.own (.lst xs)) s
 | some (.dct ks)=> .ok (.own (.lst (ks.map fun kv=>lX kv.1))) s
 | _=> .bad
def pC (K:PySem.W.Frag):List V→Hp→VK→Prop:=fun xs H Q=>zM K xs H Q∨zN xs H Q
theorem mb {X:Cx} {K:PySem.W.Frag} (hc:X.calm=true) (hK:X.K=K:=by rfl):CallR X (.type "list") (pC K):=CallR.or (hK ▸ yi) (DQ hc)
theorem p_list:jC G (fun v H Q=>pC G.K [v] H Q) qF:=by
 intro E σ τ s θ p v a Q hl h hw
 obtain ⟨h0,ca,_⟩:=cN hl h
 unfold qF at hw
 split at hw
 ·rename_i e
  obtain ⟨b,vs,rfl,hb,r⟩:=(ca _ e).lst
  exact .inl ⟨b,vs,rfl, .inl (.of hb),fun l hn=>du h0 hl hw hn r⟩
 ·rename_i e
  obtain ⟨b,vs,rfl,hb,r⟩:=(ca _ e).con
  exact .inl ⟨b,vs,rfl, .inl hb,fun l hn=>du h0 hl hw hn r⟩
 ·rename_i e
  obtain ⟨b,vs,rfl,hb,r⟩:=(ca _ e).tup
  exact .inl ⟨b,vs,rfl, .inr (.of hb),fun l hn=>du h0 hl hw hn r⟩
 ·rename_i e
  obtain ⟨b,vs,rfl,hb,r⟩:=(ca _ e).dct
  exact .inr ⟨b,vs,rfl,hb,fun l hn=>du h0 hl hw hn (tQ r)⟩
 ·exact hw.elim
def bU (ks:List (Key×D)):List (Key×D):=ks.foldl (fun acc kv=>jt acc kv.1 kv.2) []
def kP:List D→Option (List (Key×D))
 | []=>some []
 | .tup [k,d]::ds=>match k.key,kP ds with
  | some k,some r=>some ((k,d)::r)
  | _,_=>none
 | _=>none
theorem RepK.merge:∀{ks:List (Key×D)} {vs:List (Key×V)} {acc:List (Key×D)} {av:List (Key×V)},RepK G p ks vs→RepK G p acc av→RepK G p (ks.foldl (fun acc kv=>jt acc kv.1 kv.2) acc) (mergeK av vs)
 | [],_,_,_,h,h2=>by rw [show _= [] from h]; exact h2
 | (k,d)::ks,_,_,_,h,h2=>by
  obtain ⟨v,r,rfl,h1,h3⟩:=h
  have q:=RepK.merge h3 (h2.put (k:=k) h1)
  exact q
theorem tu:∀{ds:List D} {vs:List V} {ks:List (Key×D)},Reps G p ds vs→kP ds=some ks→∃(ps:List Addr) (kvs:List (Key×V)),vs=ps.map V.ref∧RepK G p ks kvs∧Paired (fun q kv=>SqT G.K p.H q [kV kv.1,kv.2]) ps kvs
 | [],vs,ks,h,e=>by
  cases e
  rw [show vs= [] from h]
  exact ⟨[],[],rfl,rfl, .nil⟩
 | d::ds,vs,ks,h,e=>by
  obtain ⟨v,r,rfl,h1,h2⟩:=h
  unfold kP at e
  split at e
  ·rename_i heq
   cases heq
  ·rename_i kd d' ds' heq
   cases heq
   split at e
   ·rename_i k r' e1 e2
    cases e
    obtain ⟨ps,kvs,rfl,h3,h4⟩:=tu h2 e2
    obtain ⟨a,vs,rfl,⟨_,hh⟩,rr⟩:=h1
    obtain ⟨v1,r1,rfl,q1,v2,r2,rfl,q2,rfl⟩:=rr
    obtain rfl:=nF q1 e1
    exact ⟨a::ps,(k,v2)::kvs,rfl,⟨v2,kvs,rfl,q2,h3⟩, .cons (.of hh) h4⟩
   ·cases e
  ·cases e
noncomputable def fN (a:Vl) (s:SD):R Vl:=match s.cont a with
 | some (.dct ks)=> .ok (.own (.dct ks)) s
 | some (.lst ds)=>match kP ds with
  | some ks=> .ok (.own (.dct (bU ks))) s
  | none=> .bad
 | _=> .bad
def zS (K:PySem.W.Frag):List V→Hp→VK→Prop:=fun xs H Q=>rDictD xs H Q∨∃(a:Addr) (ps:List Addr) (kvs:List (Key×V)),xs= [.ref a]∧SqL K H a (ps.map V.ref)∧Paired (fun p kv=>SqT K H p [kV kv.1,kv.2]) ps kvs∧
  ∀p,H p=none→Q (.ref p) (upd H p (.dK (mergeK [] kvs)))
theorem iH {X:Cx} {K:PySem.W.Frag} (hc:X.calm=true) (hK:X.K=K:=by rfl):CallR X (.type "dict") (zS K):=CallR.or DT (hK ▸ call_dictP hc)
theorem p_dict:jC G (fun v H Q=>zS G.K [v] H Q) fN:=by
 intro E σ τ s θ p v a Q hl h hw
 obtain ⟨h0,ca,_⟩:=cN hl h
 unfold fN at hw
 split at hw
 ·rename_i e
  obtain ⟨b,vs,rfl,hb,r⟩:=(ca _ e).dct
  exact .inl ⟨b,vs,rfl,hb,fun l hn=>vU h0 hl hw hn r⟩
 ·rename_i e
  split at hw
  ·rename_i e1
   obtain ⟨b,vs,rfl,hb,r⟩:=(ca _ e).lst
   obtain ⟨ps,kvs,rfl,r1,r2⟩:=tu r e1
   exact .inr ⟨b,ps,kvs,rfl, .of hb,r2,fun l hn=>vU h0 hl hw hn (r1.merge rfl)⟩
  ·exact hw.elim
 ·exact hw.elim
def lP:List D→Option (List Int)
 | []=>some []
 | .int i::ds=>match lP ds with
  | some is=>some (i::is)
  | none=>none
 | _=>none
theorem oh:∀{ds:List D} {vs:List V} {is:List Int},Reps G p ds vs→lP ds=some is→vs=is.map V.int
 | [],vs,is,h,e=>by cases e; exact h
 | d::ds,vs,is,h,e=>by
  obtain ⟨v,r,rfl,h1,h2⟩:=h
  unfold lP at e
  split at e
  ·rename_i heq; cases heq
  ·rename_i heq
   cases heq
   split at e
   ·rename_i e1
    cases e
    rw [List.map_cons,oh h2 e1,show v= .int _ from h1]
   ·cases e
  ·cases e
theorem tU {is:List Int}:Reps G p (is.map D.int) (is.map V.int):=by
 induction is with
 | nil=>rfl
 | cons i is ih=>exact ⟨_,_,rfl,rfl,ih⟩
def Dz:List (Key×D)→Option (List Int)
 | []=>some []
 | (.inl i,_)::ks=>match Dz ks with
  | some is=>some (i::is)
  | none=>none
 | _=>none
theorem pJ:∀{ks:List (Key×D)} {is:List Int},Dz ks=some is→ks.map (·.1)=is.map Sum.inl
 | [],is,e=>by cases e; rfl
 | k::ks,is,e=>by
  unfold Dz at e
  split at e
  ·rename_i heq; cases heq
  ·rename_i heq
   cases heq
   split at e
   ·rename_i e1
    cases e
    rw [List.map_cons,List.map_cons,pJ e1]
   ·cases e
  ·cases e
def srt (ns:List Int):List Int:=ns.mergeSort fun a b=>decide (a≤b)
theorem srt_perm {ns:List Int}:(srt ns).Perm ns:=List.mergeSort_perm ns _
theorem srt_up {ns:List Int}:(srt ns).Pairwise (· ≤ ·):=(List.pairwise_mergeSort (le:=fun a b:Int=>decide (a≤b)) (fun a b c h1 h2=>by simp at*; omega) (fun a b=>by simp; omega) ns).imp fun h=>by simpa using h
theorem zf {ns ys:List Int} (hp:ys.Perm ns) (hs:ys.Pairwise (· ≤ ·)):ys=srt ns:=
 List.Perm.eq_of_pairwise (le:=(· ≤ ·)) (fun a b _ _ h1 h2=>Int.le_antisymm h1 h2) hs srt_up (hp.trans srt_perm.symm)
noncomputable def jm (a:Vl) (s:SD):R Vl:=match s.cont a with
 | some (.lst ds)=>match lP ds with
  | some is=> .ok (.own (.lst ((srt is).map D.int))) s
  | none=> .bad
 | some (.dct ks)=>match Dz ks with
  | some is=>if is.length<64 then .ok (.own (.lst ((srt is).map D.int))) s else .bad
  | none=> .bad
 | _=> .bad
def qC (K:PySem.W.Frag):List V→Hp→VK→Prop:=fun xs H Q=>rSortedI K xs H Q∨sZ xs H Q
theorem yh {X:Cx} {K:PySem.W.Frag} (hc:X.calm=true) (hK:X.K=K:=by rfl):CallR X (.builtin "sorted") (qC K):=CallR.or (hK ▸ cr_sortedI) (wd hc)
theorem CT:jC G (fun v H Q=>qC G.K [v] H Q) jm:=by
 intro E σ τ s θ p v a Q hl h hw
 obtain ⟨h0,ca,_⟩:=cN hl h
 unfold jm at hw
 split at hw
 ·rename_i e
  split at hw
  ·rename_i e1
   obtain ⟨b,vs,rfl,hb,r⟩:=(ca _ e).lst
   obtain rfl:=oh r e1
   refine .inl ⟨b,_,rfl, .of hb,fun ns' l hp hs hn=>?_⟩
   rw [zf hp hs]
   exact du h0 hl hw hn tU
  ·exact hw.elim
 ·rename_i e
  split at hw
  ·rename_i is e1
   split at hw
   ·rename_i hz
    obtain ⟨b,vs,rfl,hb,r⟩:=(ca _ e).dct
    refine .inr ⟨b,vs,is,rfl,hb,r.keys.trans (pJ e1),hz,fun ns' l hp hs hn=>?_⟩
    rw [zf hp hs]
    exact du h0 hl hw hn tU
   ·exact hw.elim
  ·exact hw.elim
 ·exact hw.elim
noncomputable def oSum (a:Vl) (s:SD):R Vl:=match s.cont a with
 | some (.lst ds)=>match lP ds with
  | some is=> .ok (.d (.int is.sum)) s
  | none=> .bad
 | _=> .bad
def DO:List D→Option (List Bool)
 | []=>some []
 | .bl i::ds=>match DO ds with
  | some is=>some (i::is)
  | none=>none
 | _=>none
theorem xB:∀{ds:List D} {vs:List V} {is:List Bool},Reps G p ds vs→DO ds=some is→vs=is.map V.bl
 | [],vs,is,h,e=>by cases e; exact h
 | d::ds,vs,is,h,e=>by
  obtain ⟨v,r,rfl,h1,h2⟩:=h
  unfold DO at e
  split at e
  ·rename_i heq; cases heq
  ·rename_i heq
   cases heq
   split at e
   ·rename_i e1
    cases e
    rw [List.map_cons,xB h2 e1,show v= .bl _ from h1]
   ·cases e
  ·cases e
noncomputable def C4 (a:Vl) (s:SD):R Vl:=match s.cont a with
 | some (.lst ds)=>match DO ds with
  | some bs=> .ok (.d (.bl (bs.all id))) s
  | none=> .bad
 | _=> .bad
noncomputable def oAny (a:Vl) (s:SD):R Vl:=match s.cont a with
 | some (.lst ds)=>match DO ds with
  | some bs=> .ok (.d (.bl (bs.any id))) s
  | none=> .bad
 | _=> .bad
theorem p_all:jC G (fun v H Q=>rAll G.K [v] H Q) C4:=by
 intro E σ τ s θ p v a Q hl h hw
 obtain ⟨h0,ca,_⟩:=cN hl h
 unfold C4 at hw
 split at hw
 ·rename_i e
  split at hw
  ·rename_i e1
   obtain ⟨b,vs,rfl,hb,r⟩:=(ca _ e).lst
   obtain rfl:=xB r e1
   exact ⟨b,_,rfl, .of hb,ba h0 hl hw rfl⟩
  ·exact hw.elim
 ·exact hw.elim
def oAbs (a:Vl) (s:SD):R Vl:=match a with
 | .d (.int i)=> .ok (.d (.int (if i<0 then -i else i))) s
 | _=> .bad
def oInt (a:Vl) (s:SD):R Vl:=match a with
 | .d (.int i)=> .ok (.d (.int i)) s
 | .d (.bl b)=> .ok (.d (.int (if b then 1 else 0))) s
 | .d (.str z)=>match PySem.intText? z with
  | some n=>if z.length≤640 then .ok (.d (.int n)) s else .bad
  | none=> .bad
 | _=> .bad
def rIntZ:List V→Hp→VK→Prop:=fun xs H Q=>rInt1 xs H Q∨rIntS xs H Q
def oStr (a:Vl) (s:SD):R Vl:=match a with
 | .d (.int i)=>if i.natAbs.log2<1920 then .ok (.d (.str (toString i))) s else .bad
 | _=> .bad
theorem p_str:jC G (fun v H Q=>rStr1 [v] H Q) oStr:=by
 intro E σ τ s θ p v a Q hl h hw
 obtain ⟨h0,_,r⟩:=cN hl h
 unfold oStr at hw
 split at hw
 ·obtain rfl:v= .int _:=r
  split at hw
  ·rename_i hz
   exact ⟨_,rfl,hz,ba h0 hl hw rfl⟩
  ·exact hw.elim
 ·exact hw.elim
def oMin (a b:Vl) (s:SD):R Vl:=match a,b with
 | .d (.int i), .d (.int j)=> .ok (.d (.int (if j<i then j else i))) s
 | _,_=> .bad
def oMax (a b:Vl) (s:SD):R Vl:=match a,b with
 | .d (.int i), .d (.int j)=> .ok (.d (.int (if j > i then j else i))) s
 | _,_=> .bad
theorem AL (hl:σ.length=s.sl.length) (h:Sm G E s.sl.length p (((σ++τ.map some)++ [some v])++ [some u]) (((s.sl++θ.map some)++ [some (.d x)])++ [some (.d y)]) s.st):Rep G p x v∧Rep G p y u:=by
 have l:=aA h.len
 obtain ⟨u',e1,r⟩:=h.ent _ _ af
 rw [←l,af] at e1; cases e1
 have h1:=h.pop1 (by simp; omega)
 obtain ⟨u',e1,r'⟩:=h1.ent _ _ af
 rw [←aA h1.len,af] at e1; cases e1
 exact ⟨r',r⟩
theorem p_min:dw G (fun v u H Q=>rMin2 [v,u] H Q) oMin:=by
 intro E σ τ s θ p v u a b Q hl h hw
 unfold oMin at hw
 split at hw
 ·obtain ⟨r1,r2⟩:=AL hl h
  obtain ⟨h0,_,_⟩:=eA hl h
  obtain rfl:v= .int _:=r1
  obtain rfl:u= .int _:=r2
  exact ⟨_,_,rfl,ba h0 hl hw rfl⟩
 ·exact hw.elim
end
section
variable {G:Gc} {W:WX} {E:En} {σ σ' :L2.St} {τ:List V} {H:Hp} {s s' :SD} {θ:List Vl} {v u:V} {a b:Vl} {x y:D} {p:Wr} {Q:VK} {m:Nat} {w:List (Option V)} {k:Nat}
def stO (f:D→D→Option D) (o i:Vl) (s:SD):R Unit:=match i with
 | .d z=>match s.cont o with
  | some c=>match f c z with
   | some y=>s.mod y o
   | none=> .bad
  | none=> .bad
 | _=> .bad
def StOk (G:Gc) (r:V→V→V→Hp→(Hp→Prop)→Prop) (f:D→D→D→Option D):Prop:=∀(p:Wr) (c z x y:D) (b:Addr) (i v:V) (Q:Hp→Prop),f x c z=some y→Ho G p c b→Rep G p z i→Rep G p x v→
 ∃ho,(p.le {p with H:=upd p.H b ho}→Ho G {p with H:=upd p.H b ho} y b)∧(Q (upd p.H b ho)→r (.ref b) i v p.H Q)
theorem st_go {r:V→V→V→Hp→(Hp→Prop)→Prop} {f:D→D→D→Option D} (hr:StOk G r f) {v o i:V} {a b:Vl} {x:D} {P:Unit→SD→Prop} {Ex:XQ} {R0:Hp→Prop} (h:Rel G E σ (τ++ [v]++ [o]++ [i]) H s (θ++ [.d x]++ [a]++ [b]))
  (hw:Wp (stO (f x) a b s) P Ex) (k:∀s' H',Rel G E σ τ H' s' θ→P () s'→R0 H'):r o i v H R0:=by
 obtain ⟨p,rfl,hl,h⟩:=h.unsnoc
 unfold stO at hw
 split at hw
 ·rename_i z
  obtain ⟨u',e4,r4⟩:=h.ent _ _ af
  rw [←aA h.len,af] at e4
  cases e4
  have h1:=h.pop1 (bI hl)
  rw [show σ++(τ++ [v]++ [o]).map some=(σ++(τ++ [v]).map some)++ [some o] from by simp,show s.sl++(θ++ [Vl.d x]++ [a]).map some=(s.sl++(θ++ [Vl.d x]).map some)++ [some a] from by simp] at h1
  split at hw
  ·rename_i c e1
   split at hw
   ·rename_i y e2
    cases e3:s.mod y a with
    | bad=>rw [e3] at hw; exact hw.elim
    | ex _ _ _=>exact (pG _ _ _ _ _ _ e3).elim
    | ok _ s' =>
     rw [e3] at hw
     obtain ⟨b,rfl,ho,go⟩:=mod1 hl h1 e1 e3
     have h2:=h1.pop1 (bI hl)
     rw [show σ++(τ++ [v]).map some=(σ++τ.map some)++ [some v] from by simp,show s.sl++(θ++ [Vl.d x]).map some=(s.sl++θ.map some)++ [some (.d x)] from by simp] at h2
     obtain ⟨u',e5,r5⟩:=h2.ent _ _ af
     rw [←aA h2.len,af] at e5
     cases e5
     obtain ⟨o',hy,k2⟩:=hr p c _ x y b i v R0 e2 ho r4 r5
     obtain ⟨le,hl',hS⟩:=go o' hy
     exact k2 (k s' _ (Rel.pop (v:=v) (a:= .d x) ⟨_,rfl,hl',hS⟩) hw)
   ·exact hw.elim
  ·exact hw.elim
 ·exact hw.elim
noncomputable def oY (x c z:D):Option D:=match c,z.key with
 | .dct ks,some k=>if ks.length<sizeLine then some (.dct (jt ks k x)) else none
 | _,_=>none
def rDput:V→V→V→Hp→(Hp→Prop)→Prop:=fun o i v H Q=>∃a H4,o= .ref a∧DPut H a i v H4∧Q H4
theorem h_dput:StOk G rDput oY:=by
 intro p c z x y b i v Q e ho ri rv
 unfold oY at e
 split at e
 ·split at e
  ·rename_i ks k e1 hz
   cases e
   obtain ⟨vs,e2,r⟩:=ho
   have h1:=nF ri e1
   subst h1
   exact ⟨_,fun le=>⟨_,upd_same,(r.mono le).put (Rep.mono le rv)⟩,fun q=>⟨b,_,rfl,DPut.k e2 (by rw [r.len]; exact hz),q⟩⟩
  ·cases e
 ·cases e
noncomputable def eV (fo fi fv:SD→R Vl):SD→R Fl:=fun s=>(fv s).bind fun v s0=>(s0.fix v).bind fun x s1=>((fo s1).bind fun o s2=>(fi s2).bind fun i s3=>stO (oY x) o i s3).bind fun _ s4=> .ok .nx s4
theorem aap {td ty tv:TE} {fo fi fv:SD→R Vl} (ho:RE G W td fo) (hi:RE G W ty fi) (hv:RE G W tv fv):RS G W (sDPut td ty tv) (eV fo fi fv):=by
 intro E σ τ H s θ D hN hR hw
 unfold eV at hw
 refine RE.fix hv E σ τ H s θ _ hN hR ?_
 unfold aZ wC
 rw [ae] at hw ⊢
 refine hw.mono (fun v0 s0 hw=>?_) fun _ _ _ h=>h
 rw [ae] at hw ⊢
 refine hw.mono (fun x s1 hw=>?_) fun _ _ _ h=>h
 intro v H1 h1
 rw [ae] at hw
 refine RE.two (Q:=fun o i H3=>∃a H4,o= .ref a∧DPut H3 a i v H4∧D.nx σ H4) ho hi hN.d h1 (hw.mono (fun _ _ h=>h) fun _ _ _ h=>h.up) fun a b s2 o i H2 h2 hw=>?_
 exact st_go h_dput h2 hw fun s' H' h' hw=>hw σ H' h'
def fR (x c z:D):Option D:=match c,z with
 | .lst ds, .int k=>match ixN ds.length k with
  | some j=>some (.lst (ds.set j x))
  | none=>none
 | _,_=>none
theorem h_setL:StOk G rSetL fR:=by
 intro p c z x y b i v Q e ho ri rv
 unfold fR at e
 split at e
 ·split at e
  ·rename_i ds k _ j e1
   cases e
   obtain ⟨vs,e2,r⟩:=ho
   have h1:i= .int k:=ri
   subst h1
   exact ⟨_,fun le=>⟨_,upd_same,(r.mono le).set (Rep.mono le rv) j⟩,fun q=>⟨b,vs,k,j,rfl,rfl,e2,by rw [r.len]; exact e1,q⟩⟩
  ·cases e
 ·cases e
def sy (fo fi:SD→R Vl) (a:Vl) (s:SD):R Unit:=(s.fix a).bind fun x s1=>(fo s1).bind fun o s2=>(fi s2).bind fun i s3=>stO (fR x) o i s3
theorem RG.sub {to ti:TE} {fo fi:SD→R Vl} (ho:RE G W to fo) (hi:RE G W ti fi):RG G W [] (gSub to ti rSetL) (sy fo fi):=by
 intro E σ τ H s θ v a Q hN hR hw
 unfold sy at hw
 rw [ae] at hw
 obtain ⟨p,rfl,hl,h⟩:=hR.unsnoc
 cases e:s.fix a with
 | bad=>rw [e] at hw; exact hw.elim
 | ex c fs s2=>exact (xx _ _ _ _ _ e).elim
 | ok x s2=>
  rw [e] at hw
  obtain ⟨p',hp,hs,h'⟩:=Bg E s _ x s2 p _ _ v e h (bI hl)
  have hR2:Rel G E σ (τ++ [v]) p.H s2 (θ++ [.d x]):=hp ▸ .snoc h' (hl.trans hs.symm) rfl
  refine RE.two (Q:=fun o i H2=>rSetL o i v H2 fun H3=>Q σ H3) ho hi hN.d hR2 (Wp.mono (show Wp ((fo s2).bind fun o s2=>(fi s2).bind fun i s3=>stO (fR x) o i s3) _ _ from hw) (fun _ _ h=>h) fun _ _ _ h=>h.up) fun a b s2 o i H2 h2 hw=>?_
  exact st_go h_setL h2 hw fun s' H' h' hw=>hw σ H' h' ⟨rfl,fun _ _=>rfl⟩
def zAug (i:Nat) (f:Int→Int→Int) (fe:SD→R Vl):SD→R Fl:=fun s=>match s.sl[i]? with
 | some (some (.d (.int m)))=>(fe s).bind fun b s1=>match b with
  | .d (.int n)=> .ok .nx {s1 with sl:=s1.sl.set i (some (.d (.int (f m n))))}
  | _=> .bad
 | _=> .bad
theorem aav {i:Nat} {te:TE} {f:Int→Int→Int} {fe:SD→R Vl} (he:RE G W te fe):RS G W (tAug i te (ipI f)) (zAug i f fe):=by
 intro E σ τ H s θ D hN hR hw
 unfold zAug at hw
 split at hw
 ·rename_i m e
  obtain ⟨p,rfl,hl,h⟩:=hR
  obtain ⟨hs,u,e1,r⟩:=h.slot e
  obtain rfl:u= .int m:=r
  rw [List.getElem?_append_left (by rw [hl]; exact ai e)] at e1
  rw [ae] at hw
  refine ⟨.int m,e1,he E σ τ p.H s θ _ hN ⟨p,rfl,hl,h⟩ (hw.mono (fun b s1 hw y H1 h1=>?_) fun _ _ _ h=>h)⟩
  split at hw
  ·rename_i n
   obtain ⟨p1,rfl,r1⟩:=h1.last
   obtain rfl:y= .int n:=r1
   refine ⟨m,n,rfl,rfl,hw _ _ ?_⟩
   exact (h1.pop.push (x:= .int (f m n)) (v:= .int (f m n)) fun _=>rfl).store hN fun j q=>nomatch q
  ·exact hw.elim
 ·exact hw.elim
theorem AX {X:Cx} {K:PySem.W.Frag} (hK:X.K=K:=by rfl):PGet X (rIxL K):=by
 subst hK
 intro pins s σ H x y v u Q I rx ry h
 obtain ⟨p,xs,i,z,rfl,rfl,hq,he,q⟩:=h
 cases rx
 obtain ⟨t,rfl⟩:=ry
 obtain ⟨its,r,pl,hz⟩:=I.list hq
 obtain ⟨j,h1,h2,h3,h4,h5⟩:=atI_get he
 obtain ⟨w,ew,rw'⟩:=r.get h2
 have hl:=r.length
 have hn:=line63
 have fin:EP X pins σ Q w s:=⟨z,H,I,rw',q⟩
 by_cases h0:0≤i
 ·have hj:i.toNat=j:=by
   rw [seqIndex_of h0 h5] at h1
   exact Option.some.inj h1
  exact wpAny_getItem_list pl.isList h0 (by omega) (by rw [hj]; simpa using ew) fin
 ·have hj:(i+(its.toArray.size:Int)).toNat=j:=by
   rw [seqIndex_neg (by omega) h4] at h1
   rw [List.size_toArray,←hl]
   exact Option.some.inj h1
  exact wpAny_getItem_list_neg pl.isList (by omega) (by rw [List.size_toArray]<;> omega) (by omega) (by rw [hj]; simpa using ew) fin
noncomputable def gD (c z:D):Option Int:=match c,z.key with
 | .dct ks,some k=>match fS ks k with
  | some (.int m)=>some m
  | _=>none
 | _,_=>none
def gL (c z:D):Option Int:=match c,z with
 | .lst ds, .int k=>match atI ds k with
  | some (.int m)=>some m
  | _=>none
 | _,_=>none
noncomputable def oK (g:D→D→Option Int) (st:D→D→D→Option D) (f:Int→Int→Int) (fo fi fe:SD→R Vl):SD→R Fl:=fun s=>((fo s).bind fun o s1=>(fi s1).bind fun i s2=>match i,s2.cont o with
 | .d z,some c=>match g c z,D.sc z with
  | some m,some _=>(fe s2).bind fun b s3=>match b with
   | .d (.int n)=>stO (st (.int (f m n))) o (.d z) s3
   | _=> .bad
  | _,_=> .bad
 | _,_=> .bad).bind fun _ s4=> .ok .nx s4
theorem aug_go {st:D→D→D→Option D} {f:Int→Int→Int} {r:V→V→V→Hp→(Hp→Prop)→Prop} {fe:SD→R Vl} {te:TE} {D0:Ends} {Q:V→Hp→Prop} {o i:V} {a:Vl} {z:D} {m:Int} {iv:V} (hr:StOk G r st) (he:RE G W te fe) (hN:Nl θ) (h:Rel G E σ (τ++ [o]++ [i]) H s (θ++ [a]++ [.d z])) (hz:z.sc=some iv)
  (hw:Wp ((fe s).bind fun b s3=>match b with
   | .d (.int n)=>stO (st (.int (f m n))) a (.d z) s3
   | _=> .bad) (fun _ s4=>∀σ' H',Rel G E σ' τ H' s4 θ→D0.nx σ' H') (XP G W E τ θ))
  (k:∀n H4,r o i (.int (f m n)) H4 (fun H6=>D0.nx σ H6)→Q (.int n) H4):te σ H Q:=by
 have hi:i=iv:=by
  obtain ⟨p,_,r⟩:=h.last
  exact eC r hz
 subst hi
 refine RE.next (v:=o) (a:=a) he hN h.pop hw fun b s2 y H2 h2 hw=>?_
 split at hw
 ·rename_i n
  obtain ⟨p1,_,r1⟩:=h2.last
  obtain rfl:y= .int n:=r1
  refine k n H2 ?_
  have h3:=h2.pop
  have h5:=(h3.push (x:= .int (f m n)) (v:= .int (f m n)) fun _=>rfl).swap (by have:=h3.tlen; simpa using this)
  exact st_go hr (h5.push (x:=z) (v:=i) fun _=>zI hz) hw fun s' H' h' hw=>hw σ H' h'
 ·exact hw.elim
theorem zx {z:D} {iv:V} (e:z.sc=some iv):s.cont (.d z)=some z:=by cases z<;> first | rfl | cases e
theorem aas {td ty tv:TE} {fo fi fv:SD→R Vl} {rd:V→V→Hp→VK→Prop} {f:Int→Int→Int} (hd:∀(m n:Int) (H:Hp) (Q:VK),Q (.int (f m n)) H→rd (.int m) (.int n) H Q) (ho:RE G W td fo) (hi:RE G W ty fi) (hv:RE G W tv fv):RS G W (sDAug td ty tv rd) (oK gD oY f fo fi fv):=by
 intro E σ τ H s θ D hN hR hw
 unfold oK at hw
 rw [ae] at hw
 refine RE.two (Q:=fun x y H2=>∃a v,x= .ref a∧DGet H2 a y (some v)∧tv σ H2 fun y2 H3=>rd v y2 H3 fun z H4=>∃H5,DPut H4 a y z H5∧D.nx σ H5) ho hi hN hR hw fun a b s2 o i H2 h2 hw=>?_
 split at hw
 ·rename_i z c e1
  split at hw
  ·rename_i m iv e2 e3
   have h2' :=h2
   obtain ⟨p,rfl,hl,h⟩:=h2.unsnoc
   rw [List.map_append,List.map_append,←List.append_assoc,←List.append_assoc] at h
   obtain ⟨h0,ca,cb⟩:=eA hl h
   unfold gD at e2
   split at e2
   ·rename_i ks k e4
    split at e2
    ·rename_i m' e5
     cases e2
     obtain ⟨b,vs,rfl,hb,r⟩:=(ca _ e1).dct
     obtain ⟨w,e6,rw⟩:=r.val.1 _ e5
     obtain rfl:w= .int m:=rw
     have h6:=nF ((cb _ (zx e3)).sc (vB e4)) e4
     subst h6
     exact ⟨b, .int m,rfl, .inl ⟨vs,k,hb,rfl,e6.symm⟩,aug_go (D0:=D) (r:=rDput) h_dput hv hN h2' e3 hw fun n H4 ⟨a',H5,e7,q1,q2⟩=>by
      cases e7
      exact hd m n H4 _ ⟨H5,q1,q2⟩⟩
    ·cases e2
   ·cases e2
  ·exact hw.elim
 ·exact hw.elim
theorem RS.laug {td ty tv:TE} {fo fi fv:SD→R Vl} {f:Int→Int→Int} (ho:RE G W td fo) (hi:RE G W ty fi) (hv:RE G W tv fv):RS G W (tAugS td ty tv (rIxL G.K) (ipI f) rSetL) (oK gL fR f fo fi fv):=by
 intro E σ τ H s θ D hN hR hw
 unfold oK at hw
 rw [ae] at hw
 refine RE.two (Q:=fun o i H2=>rIxL G.K o i H2 fun x H3=>tv σ H3 fun y H4=>ipI f x y H4 fun z H5=>rSetL o i z H5 fun H6=>D.nx σ H6) ho hi hN hR hw fun a b s2 o i H2 h2 hw=>?_
 split at hw
 ·rename_i z c e1
  split at hw
  ·rename_i m iv e2 e3
   have h2' :=h2
   obtain ⟨p,rfl,hl,h⟩:=h2.unsnoc
   rw [List.map_append,List.map_append,←List.append_assoc,←List.append_assoc] at h
   obtain ⟨h0,ca,cb⟩:=eA hl h
   unfold gL at e2
   split at e2
   ·rename_i ds k
    split at e2
    ·rename_i m' e5
     cases e2
     obtain ⟨b,vs,rfl,hb,r⟩:=(ca _ e1).lst
     obtain ⟨w,e6,rw⟩:=mf r e5
     obtain rfl:w= .int m:=rw
     obtain rfl:=(cb _ (zx e3)).int
     exact ⟨b,vs,k, .int m,rfl,rfl, .of hb,e6,aug_go (D0:=D) (r:=rSetL) h_setL hv hN h2' e3 hw fun n H4 q=>⟨m,n,rfl,rfl,q⟩⟩
    ·cases e2
   ·cases e2
  ·exact hw.elim
 ·exact hw.elim
end
section
variable {X:Cx}
def rSlZ (K:PySem.W.Frag):V→Option Int→Option Int→Hp→VK→Prop:=fun x lo hi H Q=>rSlL K x lo hi H Q∨rSlS x lo hi H Q∨rSlT K x lo hi H Q
theorem sl_Z {K:PySem.W.Frag} (hK:X.K=K:=by rfl):SlR X (rSlZ K):=SlR.or (m_slL hK) (SlR.or sl_str (hK ▸ sl_tup))
def tLk (t:TE):TE:=fun σ H Q=>t σ H fun x H1=>∃d u,x= .ref d∧((H1 d=some u∧Mut (some u)∧∀od,Q x (upd H1 d (.frz od u)))∨∃od,H1 d=some (.frz od u)∧Q x H1)
theorem pe_lk {e:Expr} {t:TE} (h:PE X e t):PE X e (tLk t):=by
 refine ⟨fun pins s σ H Q I hw=>?_⟩
 refine thn (h.run pins s σ H _ I hw) fun v s1 ⟨x,H1,I1,r,d,u,e,q⟩=>?_
 rcases q with ⟨hd,mu,q⟩ | ⟨od,hd,q⟩
 ·obtain ⟨od,I2⟩:=I1.lock hd mu
  exact ⟨x,_,I2,r,q od⟩
 ·exact ⟨x,H1,I1,r,q⟩
end
section
variable {G:Gc} {W:WX} {E:En} {σ:L2.St} {τ τ2:List V} {H:Hp} {s s' :SD} {θ θ2:List Vl} {v u:V} {a b:Vl} {x y:D} {p:Wr} {Q:VK} {m:Nat} {w w' :List (Option V)} {ŵ ŵ' :List (Option Vl)} {S:Sto} {k:Nat}
def RO (G:Gc) (W:WX) (t:TO) (fe:SD→R (Option Int)):Prop:=∀(E:En) (σ:L2.St) (τ:List V) (H:Hp) (s:SD) (θ:List Vl) (Q:Option Int→Hp→Prop),Nl θ→Rel G E σ τ H s θ→
 Wp (fe s) (fun b s' =>∀H',Rel G E σ τ H' s' θ→Q b H') (XP G W E τ θ)→t σ H Q
def zNo:SD→R (Option Int):=fun s=> .ok none s
def zPt (fa:SD→R Vl):SD→R (Option Int):=fun s=>(fa s).bind fun a s1=>match a with
 | .d (.int i)=> .ok (some i) s1
 | _=> .bad
theorem RO.no:RO G W tNoPart zNo:=fun _ _ _ _ _ _ _ _ hR hw=>hw _ hR
theorem RO.part {te:TE} {fa:SD→R Vl} (ha:RE G W te fa):RO G W (tPart te) (zPt fa):=by
 intro E σ τ H s θ Q hN hR hw
 unfold zPt at hw
 rw [ae] at hw
 refine ha E σ τ H s θ _ hN hR (hw.mono (fun a s1 hw v H1 h1=>?_) fun _ _ _ h=>h)
 split at hw
 ·rename_i i
  obtain ⟨p,_,r⟩:=h1.last
  exact ⟨i,r,hw _ h1.pop⟩
 ·exact hw.elim
def B7 (ds:List D) (lo hi:Option Int):List D:=(ds.drop (HT.sIx ds.length 0 lo)).take (HT.sIx ds.length ds.length hi - HT.sIx ds.length 0 lo)
theorem wb {ds:List D} {vs:List V} {lo hi:Option Int} (r:Reps G p ds vs):Reps G p (B7 ds lo hi) (cutV vs lo hi):=by
 unfold B7 cutV
 rw [r.len]
 exact (r.drop _).take _
noncomputable def oSl (a:Vl) (lo hi:Option Int) (s:SD):R Vl:=match s.cont a with
 | some (.lst ds)=> .ok (.own (.lst (B7 ds lo hi))) s
 | some (.con ds)=> .ok (.own (.lst (B7 ds lo hi))) s
 | some (.str z)=>if z.length≤sizeLine then .ok (.d (.str (cutS z lo hi))) s else .bad
 | some (.tup ds)=>if¬(HT.sIx ds.length 0 lo=0∧HT.sIx ds.length ds.length hi=ds.length) then .ok (.d (.tup (B7 ds lo hi))) s else .bad
 | _=> .bad
noncomputable def zSl (fa:SD→R Vl) (fl fh:SD→R (Option Int)):SD→R Vl:=fun s=>(fa s).bind fun a s1=>(fl s1).bind fun lo s2=>(fh s2).bind fun hi s3=>oSl a lo hi s3
theorem RE.sl {te:TE} {tl th:TO} {fa:SD→R Vl} {fl fh:SD→R (Option Int)} (ha:RE G W te fa) (hl:RO G W tl fl) (hh:RO G W th fh):RE G W (tSl (rSlZ G.K) te tl th) (zSl fa fl fh):=by
 intro E σ τ H s θ Q hN hR hw
 unfold zSl at hw
 rw [ae] at hw
 refine ha E σ τ H s θ _ hN hR (hw.mono (fun a s1 hw v H1 h1=>?_) fun _ _ _ h=>h)
 rw [ae] at hw
 have fin:∀{lo hi:Option Int} {s3:SD} {H3:Hp},Rel G E σ (τ++ [v]) H3 s3 (θ++ [a])→Wp (oSl a lo hi s3) (fun a s' =>∀v H',Rel G E σ (τ++ [v]) H' s' (θ++ [a])→Q v H') (XP G W E τ θ)→rSlZ G.K v lo hi H3 Q:=fun {lo hi s3 H3} h3 hw=>by
  obtain ⟨p,rfl,hl,h⟩:=h3.unsnoc
  obtain ⟨h0,ca,_⟩:=cN hl h
  unfold oSl at hw
  split at hw
  ·rename_i e
   obtain ⟨b,vs,rfl,hb,r⟩:=(ca _ e).lst
   exact .inl ⟨b,vs,rfl, .of hb,fun l hn=>du h0 hl hw hn (wb r)⟩
  ·rename_i e
   obtain ⟨b,vs,rfl,hb,r⟩:=(ca _ e).con
   exact .inl ⟨b,vs,rfl,hb,fun l hn=>du h0 hl hw hn (wb r)⟩
  ·rename_i e
   obtain rfl:=(ca _ e).str
   split at hw
   ·rename_i hz
    exact .inr (.inl ⟨_,rfl,hz,ba h0 hl hw rfl⟩)
   ·exact hw.elim
  ·rename_i e
   obtain ⟨b,vs,rfl,hb,r⟩:=(ca _ e).tup
   split at hw
   ·rename_i hz
    exact .inr (.inr ⟨b,vs,rfl, .of hb,by rw [r.len]; exact hz,fun l hn=>vT h0 hl hw hn (wb r)⟩)
   ·exact hw.elim
  ·exact hw.elim
 by_cases c:∃j,a= .loc j
 ·obtain ⟨j,rfl⟩:=c
  obtain ⟨c1,c2⟩:=h1.unloc
  refine hl E σ τ H1 s1 θ _ hN h1.pop (hw.mono (fun lo s2 hw H2 h2=>?_) fun _ _ _ h=>h)
  rw [ae] at hw
  exact hh E σ τ H2 s2 θ _ hN h2 (hw.mono (fun hi s3 hw H3 h3=>fin (h3.reloc c2) hw) fun _ _ _ h=>h)
 ·refine hl E σ _ H1 s1 _ _ (hN.snoc fun j q=>c ⟨j,q⟩) h1 (hw.mono (fun lo s2 hw H2 h2=>?_) fun _ _ _ h=>h.up)
  rw [ae] at hw
  exact hh E σ _ H2 s2 _ _ (hN.snoc fun j q=>c ⟨j,q⟩) h2 (hw.mono (fun hi s3 hw H3 h3=>fin h3 hw) fun _ _ _ h=>h.up)
noncomputable def oRevL (a:Vl) (s:SD):R Vl:=match s.cont a with
 | some (.lst ds)=> .ok (.own (.lst ds.reverse)) s
 | _=> .bad
def rStep (K:PySem.W.Frag):R2:=fun x y H Q=>∃i,y= .int i∧∃a xs,x= .ref a∧(i=1∨i= -1)∧SqL K H a xs∧∀p,H p=none→Q (.ref p) (upd H p (.lst (if i=1 then xs else xs.reverse)))
noncomputable def oStep (a b:Vl) (s:SD):R Vl:=match s.cont a,s.cont b with
 | some (.lst ds),some (.int i)=>if i=1 then .ok (.own (.lst ds)) s else if i= -1 then .ok (.own (.lst ds.reverse)) s else .bad
 | _,_=> .bad
def RP (G:Gc) (W:WX) (trs:List (TE×TE)) (fp:SD→R (List (Key×D))):Prop:=∀(E:En) (σ:L2.St) (τ:List V) (H:Hp) (s:SD) (θ:List Vl) (Q:List (V×V)→Hp→Prop),Nl θ→Rel G E σ τ H s θ→
 Wp (fp s) (fun ks s' =>∀(vs:List V) H',Rel G E σ (τ++vs) H' s' (θ++ks.map fun kv=> .d kv.2)→vs.length=ks.length→Q ((ks.map fun kv=>kV kv.1).zip vs) H') (XP G W E τ θ)→tPairs trs σ H Q
def zP0:SD→R (List (Key×D)):=fun s=> .ok [] s
def zP (k:Key) (fv:SD→R Vl) (fp:SD→R (List (Key×D))):SD→R (List (Key×D)):=fun s=>(fv s).bind fun a s1=>(s1.fix a).bind fun x s2=>(fp s2).bind fun ks s3=> .ok ((k,x)::ks) s3
theorem RP.nil:RP G W [] zP0:=fun _ _ τ H _ θ Q _ hR hw=>hw [] H (by simpa using hR) rfl
theorem RP.cons {k:Key} {tv:TE} {fv:SD→R Vl} {trs:List (TE×TE)} {fp:SD→R (List (Key×D))} (hv:RE G W tv fv) (hp:RP G W trs fp):RP G W ((tC (kV k),tv)::trs) (zP k fv fp):=by
 intro E σ τ H s θ Q hN hR hw
 unfold zP at hw
 refine RE.fix hv E σ τ H s θ _ hN hR ?_
 unfold aZ wC
 rw [ae] at hw ⊢
 refine hw.mono (fun v0 s0 hw=>?_) fun _ _ _ h=>h
 rw [ae] at hw ⊢
 refine hw.mono (fun x s1 hw=>?_) fun _ _ _ h=>h
 intro v H1 h1
 rw [ae] at hw
 refine hp E σ _ H1 s1 _ _ hN.d h1 (hw.mono (fun ks s3 hw vs H2 h2 hl=>?_) fun _ _ _ h=>h.up)
 exact hw (v::vs) H2 (by simpa using h2) (by simp [hl])
def Cv (fp:SD→R (List (Key×D))):SD→R Vl:=fun s=>(fp s).bind fun ks s1=>if ks.length≤15 then .ok (.own (.dct (bU ks))) s1 else .bad
theorem RepK.zip:∀{ks:List (Key×D)} {vs:List V},Reps G p (ks.map (·.2)) vs→RepK G p ks ((ks.map (·.1)).zip vs)
 | [],vs,h=>by rw [show vs= [] from h]; exact rfl
 | (k,d)::ks,vs,h=>by
  obtain ⟨v,r,rfl,h1,h2⟩:=h
  exact ⟨v,_,rfl,h1,RepK.zip h2⟩
theorem wB:∀(ks:List (Key×D)) (vs:List V),(ks.map fun kv=>kV kv.1).zip vs=((ks.map (·.1)).zip vs).map fun kv=>(kV kv.1,kv.2)
 | [],_=>rfl
 | _::_,[]=>rfl
 | k::ks,v::vs=>by
  rw [List.map_cons,List.map_cons,List.zip_cons_cons,List.zip_cons_cons,List.map_cons,wB ks vs]
theorem RE.disp {trs:List (TE×TE)} {fp:SD→R (List (Key×D))} (hp:RP G W trs fp):RE G W (tDisp trs) (Cv fp):=by
 intro E σ τ H s θ Q hN hR hw D0 hD
 unfold Cv at hw
 rw [ae] at hw
 have ht:=hR.tlen
 have h1:Rel G E σ (τ++ [.ref D0]) (upd H D0 (.dK [])) s (θ++ [.own (.dct [])]):=by
  obtain ⟨p,rfl,hl,h⟩:=hR
  exact .snoc (h.allocOwn hD ⟨[],upd_same,rfl⟩) hl rfl
 refine hp E σ _ _ s _ _ (hN.snoc (a:= .own (.dct [])) fun j q=>nomatch q) h1 (hw.mono (fun ks s1 hw vs H2 h2 hl2=>?_) fun _ _ _ h=>h.up)
 split at hw
 ·rename_i hz
  have h2' :Rel G E σ ((τ++ [.ref D0])++vs) H2 s1 ((θ++ [.own (.dct [])])++(ks.map (·.2)).map .d):=by rw [List.map_map]; exact h2
  obtain ⟨p,rfl,hl,h,r⟩:=h2'.args (by simp [ht])
  rw [List.map_append,List.map_append,←List.append_assoc,←List.append_assoc] at h
  have ll:=aA h.len
  have q1:((s1.sl++θ.map some)++List.map some [Vl.own (.dct [])])[(s1.sl++θ.map some).length]? =some (some (.own (.dct []))):=af
  have q2:((σ++τ.map some)++List.map some [V.ref D0])[(s1.sl++θ.map some).length]? =some (some (.ref D0)):=by rw [←ll]; exact af
  obtain ⟨u,e2,D1,e3,vs0,e4,r4⟩:=h.ent _ _ q1
  rw [q2] at e2
  cases e2
  cases e3
  obtain rfl:vs0= []:=r4
  have o1:=(h.own _ _ _ q1 q2).1
  have l' :=dD (p:=p) (o:= .dK (mergeK [] ((ks.map (·.1)).zip vs))) o1
  have h3:=h.write (y:= .dct (bU ks)) (o:= .dK (mergeK [] ((ks.map (·.1)).zip vs))) q1 q2 ⟨_,upd_same,RepK.merge (RepK.zip (r.mono l')) rfl⟩
  rw [show ((s1.sl++θ.map some)++List.map some [Vl.own (.dct [])]).set (s1.sl++θ.map some).length (some (.own (.dct (bU ks))))=(s1.sl++θ.map some)++ [some (.own (.dct (bU ks)))] from iq] at h3
  refine ⟨e4,(ks.map (·.1)).zip vs, ?_, ?_,hw _ _ (.snoc h3 hl rfl)⟩
  ·exact wB ks vs
  ·simp; omega
 ·exact hw.elim
def En.lk (E:En) (d:Addr) (o:HO):En:= {E with W:= {E.W with H:=upd E.W.H d o},S:= {E.S with get:=fun i=>if E.W.γ i=d then none else E.S.get i}}
theorem Sm.toLk {d:Addr} {od:Obj} {kvs:List (Key×V)} (h:Sm G E m p w ŵ S) (hd:p.H d=some (.frz od (.dK kvs))) (hn:¬p.O d):Sm G (E.lk d (.frz od (.dK kvs))) m p w ŵ S∧EnLe G E (E.lk d (.frz od (.dK kvs))):=by
 have sg:∀{i:Nat} {d0:D},(E.lk d (.frz od (.dK kvs))).S.get i=some d0→E.S.get i=some d0∧E.W.γ i≠d:=fun {i d0} e=>by
  have e:(if E.W.γ i=d then none else E.S.get i)=some d0:=e
  split at e
  ·cases e
  ·rename_i c; exact ⟨e,c⟩
 have gs:∀{i:Nat} {d0:D},E.S.get i=some d0→E.W.γ i≠d→(E.lk d (.frz od (.dK kvs))).S.get i=some d0:=fun {i d0} e c=>by
  show (if E.W.γ i=d then none else E.S.get i)=some d0
  rw [if_neg c]; exact e
 have hH:∀{b:Addr},b≠d→(E.lk d (.frz od (.dK kvs))).W.H b=E.W.H b:=fun c=>upd_ne c
 have hdd:(E.lk d (.frz od (.dK kvs))).W.H d=some (.frz od (.dK kvs)):=upd_same
 constructor
 ·refine {h with nx:=h.nx,ebd:=fun i d0 e=>h.ebd i d0 (sg e).1,old:=h.old,born:=fun i d0 e=>?_,frm:=h.frm,kp:=fun b o e n=>?_,sub:=fun b o e=>?_,grw:=fun b o e n=>?_,own:=fun k x b q1 q2=>?_}
  ·have hO:p.γ i≠d:=fun z=>hn (z ▸ (h.cel i d0 e).1)
   rcases h.born i d0 e with ⟨d1,b1⟩ | b1
   ·left
    exact ⟨d1,gs b1 (by rw [←h.old i (h.ebd i d1 b1)]; exact hO)⟩
   ·right
    rw [hH hO]; exact b1
  ·by_cases c:b=d
   ·subst c
    rw [hdd] at e
    cases e
    exact ⟨fun f=>hd, .inl hd⟩
   ·rw [hH c] at e
    exact h.kp b o e fun i d0 q z=>n i d0 (gs q (by rw [←z]; exact c)) z
  ·by_cases c:b=d
   ·subst c; exact ⟨_,hd⟩
   ·rw [hH c] at e; exact h.sub b o e
  ·by_cases c:b=d
   ·subst c; exact hn
   ·rw [hH c] at e; exact h.grw b o e n
  ·have q:=h.own k x b q1 q2
   refine ⟨q.1, ?_,q.2.2.1,q.2.2.2⟩
   rw [hH fun z=>hn (z ▸ q.1)]
   exact q.2.1
 ·intro m' p' w' ŵ' S' h'
  have f0:p'.H d=some (.frz od (.dK kvs)):=by
   rcases (h'.kp d _ hdd fun i d0 q z=>(sg q).2 z.symm).2 with k | ⟨_,_,k,_⟩ | ⟨_,_,k,_⟩
   ·exact k
   ·cases k
   ·cases k
  refine {h' with nx:=h'.nx,ebd:=h.ebd,old:=h'.old,born:=fun i d0 e=>?_,frm:=h'.frm,kp:=fun b o e n=>?_,sub:=fun b o e=>?_,grw:=fun b o e n=>?_,own:=fun k x b q1 q2=>?_}
  ·rcases h'.born i d0 e with ⟨d1,b1⟩ | b1
   ·exact .inl ⟨d1,(sg b1).1⟩
   ·have c:p'.γ i≠d:=fun z=>by rw [z,hdd] at b1; cases b1
    right
    rw [hH c] at b1; exact b1
  ·by_cases c:b=d
   ·subst c
    obtain ⟨k1,k2⟩:=h.kp b o e n
    refine ⟨fun f=>by rw [f0,←hd]; exact k1 f,by rw [f0,←hd]; exact k2⟩
   ·exact h'.kp b o (by rw [hH c]; exact e) fun i d0 q z=>n i d0 (sg q).1 z
  ·by_cases c:b=d
   ·subst c; exact ⟨_,f0⟩
   ·exact h'.sub b o (by rw [hH c]; exact e)
  ·by_cases c:b=d
   ·subst c; exact h'.grw b _ hdd n
   ·exact h'.grw b o (by rw [hH c]; exact e) n
  ·have q:=h'.own k x b q1 q2
   refine ⟨q.1, ?_,q.2.2.1,q.2.2.2⟩
   by_cases c:b=d
   ·subst c
    have:=q.2.1
    rw [hdd] at this; cases this
   ·rw [←hH c]; exact q.2.1
theorem En.lk_at {d:Addr} {od:Obj} {kvs:List (Key×V)} (h:Sm G (E.lk d (.frz od (.dK kvs))) m p w ŵ S):p.H d=some (.frz od (.dK kvs)):=by
 have hdd:(E.lk d (.frz od (.dK kvs))).W.H d=some (.frz od (.dK kvs)):=upd_same
 have k0:=(h.kp d _ hdd fun i d0 q z=>by
  have q:(if E.W.γ i=d then none else E.S.get i)=some d0:=q
  have z:d=E.W.γ i:=z
  rw [if_pos z.symm] at q; cases q).2
 rcases k0 with k | ⟨_,_,k,_⟩ | ⟨_,_,k,_⟩
 ·exact k
 ·cases k
 ·cases k
inductive Wk where
 | keys | vals | items
def Wk.it:Wk→Addr→Obj→List (Key×V)→It
 | .keys=>Itk
 | .vals=>Itd
 | .items=>Iti
def Wk.ds:Wk→List (Key×D)→List D
 | .keys,ks=>ks.map fun kv=>lX kv.1
 | .vals,ks=>ks.map (·.2)
 | .items,ks=>ks.map fun kv=> .tup [lX kv.1,kv.2]
def iWk (wk:Wk) (td:TE):TI:=fun σ H R=>tLk td σ H fun x H1=>∃d o kvs,x= .ref d∧H1 d=some (.frz o (.dK kvs))∧R (wk.it d o kvs) H1
def oJ (wk:Wk) (fa:SD→R Vl):SD→R Src:=fun s=>(aZ fa s).bind fun a s1=>match a with
 | .d (.dct ks)=> .ok ⟨[.d (.dct ks)],fun _=>True,wk.ds ks⟩ s1
 | _=> .bad
theorem RepK.at {ks:List (Key×D)} {vs:List (Key×V)} {i:Nat} (r:RepK G p ks vs) {k:Key} {z:V} (e:vs[i]? =some (k,z)):∃d,ks[i]? =some (k,d)∧Rep G p d z:=by
 have hl:i<ks.length:=by rw [←r.len]; exact ai e
 have e1:(vs.map (·.1))[i]? =some k:=by rw [List.getElem?_map,e]; rfl
 rw [r.keys,List.getElem?_map,List.getElem?_eq_getElem hl] at e1
 have e2:(vs.map (·.2))[i]? =some z:=by rw [List.getElem?_map,e]; rfl
 have e3:(ks.map (·.2))[i]? =some ks[i].2:=by rw [List.getElem?_map,List.getElem?_eq_getElem hl]; rfl
 refine ⟨ks[i].2, ?_,r.vals.at e3 e2⟩
 rw [List.getElem?_eq_getElem hl]
 congr 1
 exact Prod.ext (Option.some.inj e1) rfl
theorem RI.walkG {wk:Wk} {I:V→Hp→(It→Hp→Prop)→Prop} (hI:∀d o kvs H1 R,H1 d=some (.frz o (.dK kvs))→R (wk.it d o kvs) H1→I (.ref d) H1 R) {td:TE} {fa:SD→R Vl} (ha:RE G W td fa):RI G W (fun σ H R=>tLk td σ H fun x H1=>I x H1 R) (oJ wk fa):=by
 intro E σ τ H s θ Q hN hR hw
 unfold oJ at hw
 rw [ae] at hw
 refine RE.fix ha E σ τ H s θ _ hN hR (hw.mono (fun a s1 hw v H1 h1=>?_) fun _ _ _ h=>h)
 split at hw
 ·rename_i ks
  have h1' :=h1
  obtain ⟨p,rfl,hl,h⟩:=h1.unsnoc
  obtain ⟨h0,_,a,vs,rfl,⟨hn,hd⟩,r⟩:=cN hl h
  have fin:∀{od:Obj} {p' :Wr},p.le p'→p'.H a=some (.frz od (.dK vs))→¬p'.O a→Sm G E s1.sl.length p' ((σ++τ.map some)++ [some (.ref a)]) ((s1.sl++θ.map some)++ [some (.d (.dct ks))]) s1.st→Q (wk.it a od vs) p'.H:=fun {od p'} le hd hn h=>by
   obtain ⟨h2,el⟩:=h.toLk hd hn
   refine hw [.ref a] _ _ _ el rfl (.snoc h2 hl rfl) fun i σ τ τ2 θ θ2 H s ht ht2 h ok=>?_
   obtain ⟨p2,rfl,hl2,hS,ca⟩:=h.at1 ht
   have hf:=En.lk_at hS
   have r2:RepK G p2 ks vs:=by
    obtain ⟨b,vs',e,hb,r'⟩:=(ca _ rfl).dct
    cases e
    rcases hb with hb | ⟨_,hb⟩
    ·rw [hf] at hb; cases hb
    ·rw [hf] at hb; cases hb; exact r'
   have len:=r2.len
   have dl:(wk.ds ks).length=ks.length:=by cases wk<;> simp [Wk.ds]
   refine ⟨fun d e=>?_,fun e=>?_⟩
   ·have hi:i<vs.length:=by rw [len,←dl]; exact ai e
    have hi' :i<ks.length:=by omega
    cases wk with
    | keys=>
     refine ⟨⟨hf,hi⟩,fun x H' y=>?_⟩
     obtain ⟨rfl,k,z,e1,rfl⟩:=y
     obtain ⟨d',e2,_⟩:=r2.at e1
     have e:(ks.map fun kv=>lX kv.1)[i]? =some d:=e
     rw [List.getElem?_map,e2] at e
     cases e
     exact .snoc (hS.push jV) hl2 rfl
    | vals=>
     refine ⟨⟨hf,hi⟩,fun x H' y=>?_⟩
     obtain ⟨rfl,k,e1⟩:=y
     obtain ⟨d',e2,r3⟩:=r2.at e1
     have e:(ks.map (·.2))[i]? =some d:=e
     rw [List.getElem?_map,e2] at e
     cases e
     exact .snoc (hS.push r3) hl2 rfl
    | items=>
     refine ⟨⟨hf,hi⟩,fun x H' y=>?_⟩
     obtain ⟨T,k,z,e1,rfl,hT,rfl⟩:=y
     obtain ⟨d',e2,r3⟩:=r2.at e1
     have e:(ks.map fun kv=>D.tup [lX kv.1,kv.2])[i]? =some d:=e
     rw [List.getElem?_map,e2] at e
     cases e
     exact .snoc ((hS.alloc hT).push (x:= .tup [lX k,d']) ⟨T,_,rfl,⟨(hS.fresh hT).2,upd_same⟩,_,_,rfl,jV,_,_,rfl,r3.mono (cE hT),rfl⟩) hl2 rfl
   ·have hi:vs.length≤i:=by rw [len,←dl]; exact List.getElem?_eq_none_iff.mp e
    cases wk with
    | keys=>exact ⟨hf,hi⟩
    | vals=>exact ⟨hf,hi⟩
    | items=>exact ⟨hf,hi⟩
  rcases hd with hd | ⟨od,hd⟩
  ·refine ⟨a, .dK vs,rfl, .inl ⟨hd,True.intro,fun od=>hI _ _ _ _ _ upd_same ?_⟩⟩
   have q:=h.lock (od:=od) hd hn
   exact fin (p' := {p with H:=upd p.H a (.frz od (.dK vs))}) ⟨fun _ _=>rfl,Nat.le_refl _,fun b o n e=>⟨by
    by_cases c:b=a
    ·subst c
     rw [hd] at e; cases e
     exact .inr (.inl ⟨vs,od,rfl,upd_same⟩)
    ·exact .inl (by show upd _ _ _ _=_; rw [upd_ne c]; exact e),n⟩⟩ upd_same hn q
  ·exact ⟨a, .dK vs,rfl, .inr ⟨od,hd,hI _ _ _ _ _ hd (fin (.refl p) hd hn h)⟩⟩
 ·exact hw.elim
theorem RI.walk {wk:Wk} {td:TE} {fa:SD→R Vl} (ha:RE G W td fa):RI G W (iWk wk td) (oJ wk fa):=RI.walkG (fun d o kvs H1 R h1 h2=>⟨d,o,kvs,rfl,h1,h2⟩) ha
theorem RI.keys {td:TE} {fa:SD→R Vl} (ha:RE G W td fa):RI G W (iKeys (tLk td)) (oJ .keys fa):=RI.walkG (wk:= .keys) (fun d o kvs H1 R h1 h2=>⟨d,o,rfl, .inl ⟨kvs,h1,h2⟩⟩) ha
end
inductive Ty1 where
 | int | bool | str | list | tuple | dict
def Ty1.nm:Ty1→String
 | .int=> "int" | .bool=> "bool" | .str=> "str" | .list=> "list" | .tuple=> "tuple" | .dict=> "dict"
def D.knd:D→Option String
 | .non=>some "NoneType" | .bl _=>some "bool" | .int _=>some "int" | .str _=>some "str" | .lst _=>some "list" | .con _=>some "list" | .tup _=>some "tuple" | .dct _=>some "dict"
 | _=>none
def isT:Ty1→D→Bool
 | .int, .int _=>true
 | .int, .bl _=>true
 | .bool, .bl _=>true
 | .str, .str _=>true
 | .list, .lst _=>true
 | .list, .con _=>true
 | .tuple, .tup _=>true
 | .dict, .dct _=>true
 | _,_=>false
theorem kit_tab:∀t:Ty1,kitB "NoneType" t.nm=some false∧kitB "bool" t.nm=some (match t with | .int=>true | .bool=>true | _=>false)∧kitB "int" t.nm=some (match t with | .int=>true | _=>false)∧kitB "str" t.nm=some (match t with | .str=>true | _=>false)∧
  kitB "list" t.nm=some (match t with | .list=>true | _=>false)∧kitB "tuple" t.nm=some (match t with | .tuple=>true | _=>false)∧kitB "dict" t.nm=some (match t with | .dict=>true | _=>false):=by
 intro t
 cases t<;> decide+kernel
section
variable {G:Gc} {W:WX} {E:En} {σ:L2.St} {τ τ2:List V} {H:Hp} {s s' :SD} {θ θ2:List Vl} {v u:V} {a b:Vl} {x y:D} {p:Wr} {Q:VK} {k:Nat} {is:List Nat}
theorem AM {k:String} (h:Cont G p x v) (e:x.knd=some k):TyX G.K p.H v (.type k):=by
 cases x with
 | non=>cases e; obtain rfl:v= .non:=h.sc rfl; exact .base .non
 | bl b=>cases e; obtain rfl:=h.bl; exact .base (.bl b)
 | int i=>cases e; obtain rfl:=h.int; exact .base (.int i)
 | str z=>cases e; obtain rfl:=h.str; exact .base (.str z)
 | lst ds=>cases e; obtain ⟨b,vs,rfl,hb,r⟩:=h.lst; exact .base (.lst hb)
 | con ds=>cases e; obtain ⟨b,vs,rfl,(hb | ⟨o,hb⟩) | ⟨o,its,n,lk,cl,_⟩,r⟩:=h.con; exact .base (.lst hb); exact .base (.frz hb); exact .kList lk cl
 | tup ds=>cases e; obtain ⟨b,vs,rfl,hb,r⟩:=h.tup; exact .base (.tup hb)
 | dct ds=>cases e; obtain ⟨b,vs,rfl,hb | ⟨o,hb⟩,r⟩:=h.dct; exact .base (.dK hb); exact .fDict hb
 | obj c fs=>cases e
 | exc c fs=>cases e
 | cell i=>cases e
 | odd n=>cases e
theorem knd_is {k:String} (t:Ty1) (e:x.knd=some k):kitB k t.nm=some (isT t x):=by
 obtain ⟨h1,h2,h3,h4,h5,h6,h7⟩:=kit_tab t
 cases x<;> cases e<;> cases t<;> first | exact h1 | exact h2 | exact h3 | exact h4 | exact h5 | exact h6 | exact h7
def xT (t:Ty1) (a:Vl) (s:SD):R Vl:=match s.cont a with
 | some x=>match x.knd with
  | some _=> .ok (.d (.bl (isT t x))) s
  | none=> .bad
 | none=> .bad
theorem RE.isi {t:Ty1} {ta:TE} {fa:SD→R Vl} (ha:RE G W ta fa):RE G W (tCB (rIsi G.K) (tCons ta (tCons (tC (.ty t.nm)) tNil))) (z1 (xT t) fa):=by
 refine RE.op1 (r:=fun v H Q=>rIsi G.K [v, .ty t.nm] H Q) ?_ ?_ ha
 ·intro E σ τ s θ p v a Q hl h hw
  obtain ⟨h0,ca,_⟩:=cN hl h
  unfold xT at hw
  split at hw
  ·rename_i x e
   split at hw
   ·rename_i k e1
    exact ⟨v, .ty t.nm, .type k, .type t.nm,isT t x,rfl, .ty _,AM (ca _ e) e1,kit_ty (knd_is t e1),ba h0 hl hw rfl⟩
   ·exact hw.elim
  ·exact hw.elim
 ·intro a s c fs s'
  unfold xT
  split
  ·split<;> (intro q; cases q)
  ·intro q; cases q
structure IsOk (G:Gc) (C:Addr) (f:Str→Option Bool) (kd:Bool):Prop where
 own:∀c b C',f c=some b→G.mg c=some (.ref C')→C8.InsC G.K C'∧PySem.W.kitOne G.K (.ref C') (.ref C)=some b
 kd:kd=true→∀k∈ ["NoneType","bool","int","str","list","tuple","dict"],PySem.W.kitOne G.K (.type k) (.ref C)=some false
noncomputable def oIsC (f:Str→Option Bool) (kd:Bool) (a:Vl) (s:SD):R Vl:=match s.cont a with
 | some (.obj c _)=>match f c with
  | some b=> .ok (.d (.bl b)) s
  | none=> .bad
 | some x=>match x.knd with
  | some _=>if kd=true then .ok (.d (.bl false)) s else .bad
  | none=> .bad
 | none=> .bad
def isDc (s:SD) (a:Vl):Bool:=match s.cont a with
 | some (.dct _)=>true
 | _=>false
def fDpop (c z:D):Option (D×D):=match c,z.key with
 | .dct ks,some k=>match fS ks k with
  | some t=>some (.dct (ddrop ks k),t)
  | none=>none
 | _,_=>none
noncomputable def zGet2 (fo fi fx:SD→R Vl):SD→R Vl:=fun s=>(fo s).bind fun a s1=>if isDc s1 a=true then (fi s1).bind fun i s2=>match i with
 | .d z=>match D.sc z with
  | some _=>(fx s2).bind fun b s3=>match b,s3.cont a,z.key with
   | .d x,some (.dct ks),some k=> .ok (.d ((fS ks k).getD x)) s3
   | _,_,_=> .bad
  | none=> .bad
 | _=> .bad
 else .bad
def wa:List D→Option (List Str)
 | []=>some []
 | .str z::ds=>match wa ds with
  | some zs=>some (z::zs)
  | none=>none
 | _=>none
theorem uj:∀{ds:List D} {vs:List V} {is:List Str},Reps G p ds vs→wa ds=some is→vs=is.map V.str
 | [],vs,is,h,e=>by cases e; exact h
 | d::ds,vs,is,h,e=>by
  obtain ⟨v,r,rfl,h1,h2⟩:=h
  unfold wa at e
  split at e
  ·rename_i heq; cases heq
  ·rename_i heq
   cases heq
   split at e
   ·rename_i e1
    cases e
    rw [List.map_cons,uj h2 e1,show v= .str _ from h1]
   ·cases e
  ·cases e
theorem zd {is:List Str}:Reps G p (is.map D.str) (is.map V.str):=by
 induction is with
 | nil=>rfl
 | cons i is ih=>exact ⟨_,_,rfl,rfl,ih⟩
def isS (a:Vl):Bool:=match a with
 | .d (.str _)=>true
 | _=>false
def zM1s (f:Vl→Vl→SD→R Vl) (fa fb:SD→R Vl):SD→R Vl:=fun s=>(fa s).bind fun a s1=>if isS a=true then (fb s1).bind fun b s2=>f a b s2 else .bad
theorem RE.m1 {r:V→List V→Hp→VK→Prop} {f:Vl→Vl→SD→R Vl} {ta tb:TE} {fa fb:SD→R Vl} (hp:dw G (fun x y H Q=>r x [y] H Q) f) (nx:∀a b s c fs s',f a b s≠ .ex c fs s') (ha:RE G W ta fa) (hb:RE G W tb fb):RE G W (tM1 r ta tb) (zM1s f fa fb):=by
 intro E σ τ H s θ Q hN hR hw
 unfold zM1s at hw
 rw [ae] at hw
 refine ha E σ τ H s θ _ hN hR (hw.mono (fun a s1 hw v H1 h1=>?_) fun _ _ _ h=>h)
 split at hw
 ·rename_i c
  have hv:∃z,v= .str z:=by
   unfold isS at c
   split at c
   ·rename_i z
    obtain ⟨p,_,r⟩:=h1.last
    exact ⟨z,r⟩
   ·cases c
  refine ⟨hv, ?_⟩
  refine RE.next (Q:=fun u H2=>r v [u] H2 Q) hb hN h1 hw fun b s2 u H2 h2 hw=>?_
  obtain ⟨p,rfl,hl,h⟩:=h2.unsnoc
  rw [List.map_append,List.map_append,←List.append_assoc,←List.append_assoc] at h
  refine hp E σ τ s2 θ p v u a b Q hl h ?_
  cases e:f a b s2 with
  | ok b s2=>rw [e] at hw; exact hw
  | ex c fs s2=>exact (nx _ _ _ _ _ _ e).elim
  | bad=>rw [e] at hw; exact hw
 ·exact hw.elim
noncomputable def qG (a b:Vl) (s:SD):R Vl:=match s.cont a,s.cont b with
 | some (.str z),some (.lst ds)=>match wa ds with
  | some ys=>if (ys.map (·.length)).sum+ys.length*z.length≤16777216 then .ok (.d (.str (Txt.join z ys))) s else .bad
  | none=> .bad
 | _,_=> .bad
theorem p_join:dw G (fun x y H Q=>∃a p,∃ys:List Str,x= .str a∧ [y]= [.ref p]∧(SqL G.K H p (ys.map V.str)∨SqT G.K H p (ys.map V.str))∧(ys.map (·.length)).sum+ys.length*a.length≤16777216∧Q (.str (Txt.join a ys)) H) qG:=by
 intro E σ τ s θ p v u a b Q hl h hw
 obtain ⟨h0,ca,cb⟩:=eA hl h
 unfold qG at hw
 split at hw
 ·rename_i e1 e2
  split at hw
  ·rename_i ys e3
   split at hw
   ·rename_i hz
    obtain rfl:=(ca _ e1).str
    obtain ⟨b,vs,rfl,hb,r⟩:=(cb _ e2).lst
    obtain rfl:=uj r e3
    exact ⟨_,b,ys,rfl,rfl, .inl (.of hb),hz,ba h0 hl hw rfl⟩
   ·exact hw.elim
  ·exact hw.elim
 ·exact hw.elim
theorem C2:∀(a b:Vl) (s:SD) c fs s',qG a b s≠ .ex c fs s' :=by
 intro a b s c fs s'
 unfold qG
 split
 ·split
  ·split<;> (intro q; cases q)
  ·intro q; cases q
 ·intro q; cases q
def B3:List D→List D→List D
 | x::xs,y::ys=> .tup [x,y]::B3 xs ys
 | _,_=> []
theorem pN:∀{xs ys:List D} {i:Nat},(B3 xs ys)[i]? =match xs[i]?,ys[i]? with
  | some x,some y=>some (.tup [x,y])
  | _,_=>none
 | [],ys,i=>by simp [B3]
 | x::xs,[],i=>by simp [B3]
 | x::xs,y::ys,0=>rfl
 | x::xs,y::ys,i+1=>by
  simp only [B3,List.getElem?_cons_succ]
  exact pN
noncomputable def zZip (fa fb:SD→R Vl):SD→R Src:=fun s=>(aZ fa s).bind fun a s1=>(aZ fb s1).bind fun b s2=>match s2.cont a,s2.cont b with
 | some (.lst xs),some (.lst ys)=> .ok ⟨[a,b],fun s=>s.cont a=some (.lst xs)∧s.cont b=some (.lst ys),B3 xs ys⟩ s2
 | _,_=> .bad
theorem RI.zip {ta tb:TE} {fa fb:SD→R Vl} (ha:RE G W ta fa) (hb:RE G W tb fb):RI G W (iZip G.K (tCons ta (tCons tb tNil))) (zZip fa fb):=by
 intro E σ τ H s θ Q hN hR hw
 unfold zZip at hw
 refine RE.two (f:=fun a b s2=>match s2.cont a,s2.cont b with
  | some (.lst xs),some (.lst ys)=> .ok (⟨[a,b],fun s=>s.cont a=some (.lst xs)∧s.cont b=some (.lst ys),B3 xs ys⟩:Src) s2
  | _,_=> .bad) (Q:=fun x y H2=>∃a b xs ys,[x,y]= [.ref a, .ref b]∧SqL G.K H2 a xs∧SqL G.K H2 b ys∧Q (Itz G.K a b) H2) (RE.fix ha) (RE.fix hb) hN hR hw fun a b s2 v u H2 h2 hw=>?_
 have h3:=h2
 obtain ⟨p,rfl,hl,h⟩:=h2.unsnoc
 rw [List.map_append,List.map_append,←List.append_assoc,←List.append_assoc] at h
 obtain ⟨h0,ca,cb⟩:=eA hl h
 split at hw
 ·rename_i xs ys e1 e2
  obtain ⟨a1,vs,rfl,ha1,r1⟩:=(ca _ e1).lst
  obtain ⟨b1,us,rfl,hb1,r2⟩:=(cb _ e2).lst
  refine ⟨a1,b1,vs,us,rfl, .of ha1, .of hb1,hw [.ref a1, .ref b1] _ _ E (fun _ _ _ _ _ h=>h) rfl (by simpa using h3) fun i σ τ τ2 θ θ2 H s ht ht2 h ok=>?_⟩
  have e3:τ++ [V.ref a1, .ref b1]++τ2=τ++ [V.ref a1]++([V.ref b1]++τ2):=by simp
  have e4:θ++ [a,b]++θ2=θ++ [a]++([b]++θ2):=by simp
  have e5:τ++ [V.ref a1, .ref b1]++τ2=(τ++ [.ref a1])++ [.ref b1]++τ2:=by simp
  have e6:θ++ [a,b]++θ2=(θ++ [a])++ [b]++θ2:=by simp
  have hA:=h
  obtain ⟨p',rfl,hl',hS⟩:=h
  have c1:∀x,s.cont a=some x→Cont G p' x (.ref a1):=fun x c=>by
   have q1:σ++(τ++ [V.ref a1, .ref b1]++τ2).map some=(σ++τ.map some)++some (.ref a1)::some (.ref b1)::τ2.map some:=by simp
   have q2:s.sl++(θ++ [a,b]++θ2).map some=(s.sl++θ.map some)++some a::some b::θ2.map some:=by simp
   have hL:(σ++τ.map some).length=(s.sl++θ.map some).length:=by simp [hl',ht]
   refine hS.cont rfl (k:=(s.sl++θ.map some).length) ?_ ?_ c
   ·rw [q2,List.getElem?_append_right (Nat.le_refl _)]; simp
   ·rw [q1,←hL,List.getElem?_append_right (Nat.le_refl _)]; simp
  have c2:∀x,s.cont b=some x→Cont G p' x (.ref b1):=fun x c=>by
   have q1:σ++(τ++ [V.ref a1, .ref b1]++τ2).map some=(σ++(τ++ [V.ref a1]).map some)++some (.ref b1)::τ2.map some:=by simp
   have q2:s.sl++(θ++ [a,b]++θ2).map some=(s.sl++(θ++ [a]).map some)++some b::θ2.map some:=by simp
   have hL:(σ++(τ++ [V.ref a1]).map some).length=(s.sl++(θ++ [a]).map some).length:=by simp [hl',ht]
   refine hS.cont rfl (k:=(s.sl++(θ++ [a]).map some).length) ?_ ?_ c
   ·rw [q2,List.getElem?_append_right (Nat.le_refl _)]; simp
   ·rw [q1,←hL,List.getElem?_append_right (Nat.le_refl _)]; simp
  obtain ⟨_,vs',e7,ha2,r3⟩:=(c1 _ ok.1).lst
  cases e7
  obtain ⟨_,us',e8,hb2,r4⟩:=(c2 _ ok.2).lst
  cases e8
  refine ⟨fun d e=>?_,fun e=>?_⟩
  ·have e:(B3 xs ys)[i]? =some d:=e
   rw [pN] at e
   split at e
   ·rename_i x y ex ey
    cases e
    obtain ⟨v1,f1,g1⟩:=r3.get ex
    obtain ⟨v2,f2,g2⟩:=r4.get ey
    refine ⟨⟨vs',us',v1,v2, .of ha2, .of hb2,f1,f2⟩,fun q H' yl=>?_⟩
    obtain ⟨T,z1,z2,rfl,hT,rfl,y1,y2⟩:=yl
    have e9:=y1 vs' (.of ha2)
    rw [f1] at e9; cases e9
    have e10:=y2 us' (.of hb2)
    rw [f2] at e10; cases e10
    exact .snoc ((hS.alloc hT).push (x:= .tup [x,y]) ⟨T,_,rfl,⟨(hS.fresh hT).2,upd_same⟩,_,_,rfl,g1.mono (cE hT),_,_,rfl,g2.mono (cE hT),rfl⟩) hl' rfl
   ·cases e
  ·have e:(B3 xs ys)[i]? =none:=e
   rw [pN] at e
   refine ⟨vs',us', .of ha2, .of hb2, ?_⟩
   cases ex:xs[i]? with
   | none=>exact .inl (List.getElem?_eq_none_iff.mp (r3.none ex))
   | some x=>
    cases ey:ys[i]? with
    | none=>exact .inr (List.getElem?_eq_none_iff.mp (r4.none ey))
    | some y=>rw [ex,ey] at e; cases e
 ·exact hw.elim
def zPar3 (i j l:Nat) (fr:SD→R (List D)):SD→R Fl:=fun s=>(fr s).bind fun ds s1=>match ds with
 | [x,y,z]=> .ok .nx {s1 with sl:=cA [i,j,l] [x,y,z] s1.sl}
 | _=> .bad
end
structure Op2 (G:Gc) (r:R2) (f:Vl→Vl→SD→R Vl):Prop where
 p:dw G r f
 nx:∀a b s c fs s',f a b s≠ .ex c fs s'
structure Op1 (G:Gc) (r:V→Hp→VK→Prop) (f:Vl→SD→R Vl):Prop where
 p:jC G r f
 nx:∀a s c fs s',f a s≠ .ex c fs s'
section
variable {G:Gc} {W:WX}
theorem bG:Op2 G (rAddZ G.K) cj:=⟨p_add,by intros; unfold cj; (repeat' split)<;> (intro q; cases q)⟩
theorem tf:Op2 G (rI0 fun i j=> .int (i - j)) tE:=⟨p_sub,by intros; unfold tE; (repeat' split)<;> (intro q; cases q)⟩
theorem mW:Op2 G rMulZ oQ:=⟨p_mul,by intros; unfold oQ; (repeat' split)<;> (intro q; cases q)⟩
theorem bJ:Op2 G (rI (fun _ j=>0<j) fun i j=> .int (i%j)) dh:=⟨p_mod,by intros; unfold dh; (repeat' split)<;> (intro q; cases q)⟩
theorem dS:Op2 G (rI CDivW fun i j=> .int (i / j)) fk:=⟨p_div,by intros; unfold fk; (repeat' split)<;> (intro q; cases q)⟩
theorem zV:Op2 G (rI sx fun i j=> .int (i ^ j.toNat)) B5:=⟨p_pow,by intros; unfold B5; (repeat' split)<;> (intro q; cases q)⟩
theorem q_xor:Op2 G (rI0 fun i j=> .int (Builtin.bitXor i j)) oXor:=⟨p_xor,by intros; unfold oXor; (repeat' split)<;> (intro q; cases q)⟩
theorem wW {f:Int→Int→Bool}:∀a b s c fs s',C3 f a b s≠ .ex c fs s' :=by intros; unfold C3; (repeat' split)<;> (intro q; cases q)
theorem q_lt:Op2 G (rI0 fun i j=> .bl (decide (i<j))) oLt:=⟨CV,wW⟩
theorem q_le:Op2 G (rI0 fun i j=> .bl (decide (i≤j))) oLe:=⟨CV,wW⟩
theorem q_gt:Op2 G (rI0 fun i j=> .bl (decide (i > j))) oGt:=⟨CV,wW⟩
theorem q_ge:Op2 G (rI0 fun i j=> .bl (decide (i≥j))) oGe:=⟨CV,wW⟩
theorem oH:Op2 G (rEqZ G.K) oEq:=⟨p_eq,by intros; unfold oEq; (repeat' split)<;> (intro q; cases q)⟩
theorem q_ne:Op2 G (rNeZ G.K) oNe:=⟨p_ne,by intros; unfold oNe; (repeat' split)<;> (intro q; cases q)⟩
theorem q_in {neg:Bool}:Op2 G (rInZ G.K neg) (oIn neg):=⟨p_in,by intros; unfold oIn; (repeat' split)<;> (intro q; cases q)⟩
theorem bN:Op2 G (rIxZ G.K) oIx:=⟨p_ix,by intros; unfold oIx; (repeat' split)<;> (intro q; cases q)⟩
theorem iK {neg:Bool}:Op2 G (rIsZ neg) (gu neg):=⟨p_isN,by intros; unfold gu; (repeat' split)<;> (intro q; cases q)⟩
theorem q_len:Op1 G (fun v H Q=>CN G.K [v] H Q) jn:=⟨p_len,by intros; unfold jn; (repeat' split)<;> (intro q; cases q)⟩
theorem zW:Op1 G (fun v H Q=>pC G.K [v] H Q) qF:=⟨p_list,by intros; unfold qF; (repeat' split)<;> (intro q; cases q)⟩
theorem pD:Op1 G (fun v H Q=>zS G.K [v] H Q) fN:=⟨p_dict,by intros; unfold fN; (repeat' split)<;> (intro q; cases q)⟩
theorem CP:Op1 G (fun v H Q=>qC G.K [v] H Q) jm:=⟨CT,by intros; unfold jm; (repeat' split)<;> (intro q; cases q)⟩
theorem q_all:Op1 G (fun v H Q=>rAll G.K [v] H Q) C4:=⟨p_all,by intros; unfold C4; (repeat' split)<;> (intro q; cases q)⟩
theorem q_str:Op1 G (fun v H Q=>rStr1 [v] H Q) oStr:=⟨p_str,by intros; unfold oStr; (repeat' split)<;> (intro q; cases q)⟩
theorem q_min:Op2 G (fun v u H Q=>rMin2 [v,u] H Q) oMin:=⟨p_min,by intros; unfold oMin; (repeat' split)<;> (intro q; cases q)⟩
theorem aac {r:R2} {f:Vl→Vl→SD→R Vl} {ta tb:TE} {fa fb:SD→R Vl} (h:Op2 G r f) (ha:RE G W ta fa) (hb:RE G W tb fb):RE G W (tOp r ta tb) (z2 f fa fb):=RE.op2 h.p h.nx ha hb
theorem RE.c1 {r:List V→Hp→VK→Prop} {f:Vl→SD→R Vl} {ta:TE} {fa:SD→R Vl} (h:Op1 G (fun v H Q=>r [v] H Q) f) (ha:RE G W ta fa):RE G W (tCB r (tCons ta tNil)) (z1 f fa):=RE.cb1 h.p h.nx ha
theorem RE.c2 {r:List V→Hp→VK→Prop} {f:Vl→Vl→SD→R Vl} {ta tb:TE} {fa fb:SD→R Vl} (h:Op2 G (fun v u H Q=>r [v,u] H Q) f) (ha:RE G W ta fa) (hb:RE G W tb fb):RE G W (tCB r (tCons ta (tCons tb tNil))) (z2 f fa fb):=RE.cb2 h.p h.nx ha hb
def neg1 (f:Vl→SD→R Vl):SD→Vl→R Vl:=fun s a=>f a s
theorem RE.append {ta tb:TE} {fa fb:SD→R Vl} (ha:RE G W ta fa) (hb:RE G W tb fb):RE G W (tBM G.K "list" rAppend ta (tCons tb tNil)) (zM2 isL (oB2 bf) fa (aZ fb)):=RE.bm xq (p_chg2 DB) oB2_nx ha (RE.fix hb)
theorem RE.extend {ta tb:TE} {fa fb:SD→R Vl} (ha:RE G W ta fa) (hb:RE G W tb fb):RE G W (tBM G.K "list" rExtend ta (tCons tb tNil)) (zM2 isL (oB2 kW) fa (aZ fb)):=RE.bm xq (p_chg2 DA) oB2_nx ha (RE.fix hb)
theorem RE.pop {ta:TE} {fa:SD→R Vl} (ha:RE G W ta fa):RE G W (tBM0 G.K "list" rPop ta) (z1 (oB1 fPop) fa):=RE.bm0 (p_lm0 h_pop fun c y h=>by unfold fPop at h; split at h; exact ⟨_,rfl⟩; cases h) Ao ha
theorem RE.reverse {ta:TE} {fa:SD→R Vl} (ha:RE G W ta fa):RE G W (tBM0 G.K "list" rReverse ta) (z1 (oB1 iD) fa):=RE.bm0 (p_lm0 AW fun c y h=>by unfold iD at h; split at h; exact ⟨_,rfl⟩; cases h) Ao ha
theorem RE.clear {ta:TE} {fa:SD→R Vl} (ha:RE G W ta fa):RE G W (tBM0 G.K "list" rClear ta) (z1 (oB1 ug) fa):=RE.bm0 (p_lm0 h_clear fun c y h=>by unfold ug at h; split at h; exact ⟨_,rfl⟩; cases h) Ao ha
theorem RE.join {ta tb:TE} {fa fb:SD→R Vl} (ha:RE G W ta fa) (hb:RE G W tb fb):RE G W (tM1 (fun x xs H Q=>∃a p,∃ys:List Str,x= .str a∧xs= [.ref p]∧(SqL G.K H p (ys.map V.str)∨SqT G.K H p (ys.map V.str))∧(ys.map (·.length)).sum+ys.length*a.length≤16777216∧Q (.str (Txt.join a ys)) H) ta tb) (zM1s qG fa fb):=
 RE.m1 p_join C2 ha hb
theorem aab {i:Int}:RE G W (tC (.int i)) (zC (.int i)):=RE.c fun _=>rfl
theorem aae {i:Str}:RE G W (tC (.str i)) (zC (.str i)):=RE.c fun _=>rfl
theorem aaj {i:Bool}:RE G W (tC (.bl i)) (zC (.bl i)):=RE.c fun _=>rfl
theorem aag:RE G W (tC .non) (zC .non):=RE.c fun _=>rfl
def sA (f g:Vl→Vl→SD→R Vl) (fa fb fc:SD→R Vl):SD→R Vl:=fun s=>(fa s).bind fun a s1=>(fb s1).bind fun b s2=>match b with
 | .d z=>match D.sc z with
  | some _=>(f a b s2).bind fun r s3=>match r with
   | .d (.bl true)=>(fc s3).bind fun c s4=>g (.d z) c s4
   | .d (.bl false)=> .ok (.d (.bl false)) s3
   | _=> .bad
  | none=> .bad
 | _=> .bad
theorem RE.chain {r r' :R2} {f g:Vl→Vl→SD→R Vl} {ta tb tc:TE} {fa fb fc:SD→R Vl} (hf:Op2 G r f) (hg:Op2 G r' g) (ha:RE G W ta fa) (hb:RE G W tb fb) (hc:RE G W tc fc):RE G W (tChain r r' ta tb tc) (sA f g fa fb fc):=by
 intro E σ τ H s θ Q hN hR hw
 unfold sA at hw
 refine RE.two (f:=fun a b s2=>match b with
  | .d z=>match D.sc z with
   | some _=>(f a b s2).bind fun r s3=>match r with
    | .d (.bl true)=>(fc s3).bind fun c s4=>g (.d z) c s4
    | .d (.bl false)=> .ok (.d (.bl false)) s3
    | _=> .bad
   | none=> .bad
  | _=> .bad) (Q:=fun x y H2=>r x y H2 fun z H3=>∃k,z= .bl k∧(if k=true then tc σ H3 fun w' H4=>r' y w' H4 Q else Q (.bl false) H3)) ha hb hN hR hw fun a b s2 v u H2 h2 hw=>?_
 split at hw
 ·rename_i z
  split at hw
  ·rename_i uv e1
   have hu:u=uv:=by
    obtain ⟨p,_,rr⟩:=h2.last
    exact eC rr e1
   subst hu
   obtain ⟨p,rfl,hl,h⟩:=h2.unsnoc
   rw [List.map_append,List.map_append,←List.append_assoc,←List.append_assoc] at h
   refine hf.p E σ τ s2 θ p v u a _ _ hl h ?_
   rw [ae] at hw
   cases e:f a (.d z) s2 with
   | bad=>rw [e] at hw; exact hw.elim
   | ex _ _ _=>exact (hf.nx _ _ _ _ _ _ e).elim
   | ok rv s3=>
    rw [e] at hw
    intro q H3 h3
    have hw:Wp (match rv with
     | .d (.bl true)=>(fc s3).bind fun c s4=>g (.d z) c s4
     | .d (.bl false)=> .ok (.d (.bl false)) s3
     | _=> .bad) (fun a s=>_) (fun c fs s=>_):=hw
    split at hw
    ·obtain ⟨p3,_,r3⟩:=h3.last
     obtain rfl:q= .bl true:=r3
     refine ⟨true,rfl, ?_⟩
     rw [if_pos rfl]
     have h4:=h3.pop.push (x:=z) (v:=u) fun _=>zI e1
     rw [ae] at hw
     refine hc E σ _ H3 s3 _ _ hN.d h4 (hw.mono (fun c s4 hw w' H4 h5=>?_) fun _ _ _ h=>h.up)
     obtain ⟨p,rfl,hl,h⟩:=h5.unsnoc
     rw [List.map_append,List.map_append,←List.append_assoc,←List.append_assoc] at h
     refine hg.p E σ τ s4 θ p u w' _ c Q hl h ?_
     cases e:g (.d z) c s4 with
     | ok b s2=>rw [e] at hw; exact hw
     | ex c fs s2=>exact (hg.nx _ _ _ _ _ _ e).elim
     | bad=>rw [e] at hw; exact hw
    ·obtain ⟨p3,_,r3⟩:=h3.last
     obtain rfl:q= .bl false:=r3
     refine ⟨false,rfl, ?_⟩
     rw [if_neg (by decide)]
     exact hw _ _ h3
    ·exact hw.elim
  ·exact hw.elim
 ·exact hw.elim
def jE:SD→R Fl:=fun _=> .bad
theorem RS.never:RS G W tNever jE:=fun _ _ _ _ _ _ _ _ _ hw=>hw.elim
def zPass:SD→R Fl:=az
theorem uA {f c:Str} {C:Addr} (hm:G.mg c=some (.ref C)) (hc:Cls G.K C) (hn:NoAttr G.K C f):gm G f [c]:=by
 intro c' h C' hm'
 obtain rfl:=List.mem_singleton.mp h
 rw [hm] at hm'; cases hm'
 exact ⟨hc,hn⟩
end
section
variable (P:Program) (w:World) (K:PySem.W.Frag) (mg:Str→Option Value) (base:Heap)
structure CalZ (k:Nat) (x:Str) (n:Nat) (F:FnV) (dvs:List V):Prop where
 ex:∃(f:Addr) (fd:FuncData) (ps:List Str) (ds:List Value),FnOk P w K mg base (L2.CX P w) k f fd ps (spF ⟨K,mg⟩ n F)∧mg x=some (.ref f)∧PySem.W.keepIn K (.ref f)=true∧Binds K fd ps ds∧Vals dvs ds
structure MetZ (k:Nat) (C:Addr) (m:Str) (n:Nat) (F:FnV) (dvs:List V):Prop where
 ex:∃(f:Addr) (fd:FuncData) (ps:List Str) (ds:List Value),Cls K C∧Meth K C m f∧FnOk P w K mg base (L2.CX P w) k f fd ps (spF ⟨K,mg⟩ n F)∧Binds K fd ps ds∧Vals dvs ds
structure MakZ (k:Nat) (x:Str) (C:Addr) (n:Nat) (F:FnV) (dvs:List V):Prop where
 ex:∃(f:Addr) (fd:FuncData) (ps:List Str) (ds:List Value),Mk K C f∧FnOk P w K mg base (L2.CX P w) k f fd ps (spF ⟨K,mg⟩ n F)∧mg x=some (.ref C)∧Binds K fd ps ds∧Vals dvs ds
end
section
variable {P:Program} {w:World} {K:PySem.W.Frag} {mg:Str→Option Value} {base:Heap}
structure DfZ (K:PySem.W.Frag) (mg:Str→Option Value) (x:Str) (st:Stmt) (ps:List Str) (dvs:List V):Prop where
 ex:∃(f:Addr) (fd:FuncData),L2.FunD K x x (defArgs st) (defBody st) (defScope st) dvs [] f fd∧mg x=some (.ref f)∧PySem.W.keepIn K (.ref f)=true∧∀j,j≤dvs.length→∃ds,Vals (dvs.drop j) ds∧L2.Binds K fd ps ds
theorem calZ_of {x:Str} {st:Stmt} {N ps:List Str} {k n:Nat} {fz:SD→R Fl} (D:M.Df K mg x st ps) (S:FnScope N ps (L2.defScope st)) (hn:ps.length≤N.length) (hn2:n=ps.length)
  (hbody:∀(f:Addr) (cdv:Value) (A:Around) (outer:List Env) (s:Shared) (H:Hp) (E:XK),Room k (A.deeper (envOfC x (L2.defScope st) s.heap.objs.size f cdv))→
   ∃t,PSs (cxOf (L2.CX P w) P w K mg base N x (L2.defScope st) f cdv A outer s H E) (L2.defBody st) t∧RS ⟨K,mg⟩ (fun cls d _ H=>E cls d H) t fz):CalZ P w K mg base (k+1) x n (zFn N.length fz) []:=by
 obtain ⟨f,fd,F,hm,hb⟩:=D.ex
 subst hn2
 exact ⟨f,fd,ps,[],fnZ F S hn (fun cdv A outer s H E hr=>hbody f cdv A outer s H E hr),hm,F.kp,hb, .nil⟩
theorem metZ_of {C:Addr} {m qual:Str} {st:Stmt} {N ps:List Str} {k n:Nat} {fz:SD→R Fl} (D:M.Dm K C m qual st ps) (S:FnScope N ps (L2.defScope st)) (hn:ps.length≤N.length) (hn2:n=ps.length)
  (hbody:∀(f:Addr) (cdv:Value) (A:Around) (outer:List Env) (s:Shared) (H:Hp) (E:XK),Room k (A.deeper (envOfC qual (L2.defScope st) s.heap.objs.size f cdv))→
   ∃t,PSs (cxOf (L2.CX P w) P w K mg base N qual (L2.defScope st) f cdv A outer s H E) (L2.defBody st) t∧RS ⟨K,mg⟩ (fun cls d _ H=>E cls d H) t fz):MetZ P w K mg base (k+1) C m n (zFn N.length fz) []:=by
 obtain ⟨f,fd,F,c,me,b⟩:=D.ex
 subst hn2
 exact ⟨f,fd,ps,[],c,me,fnZ F S hn (fun cdv A outer s H E hr=>hbody f cdv A outer s H E hr),b, .nil⟩
theorem makZ_of {x qual:Str} {C:Addr} {st:Stmt} {N ps:List Str} {k n:Nat} {fz:SD→R Fl} (D:M.Dk K mg x C qual st ps) (S:FnScope N ps (L2.defScope st)) (hn:ps.length≤N.length) (hn2:n=ps.length)
  (hbody:∀(f:Addr) (cdv:Value) (A:Around) (outer:List Env) (s:Shared) (H:Hp) (E:XK),Room k (A.deeper (envOfC qual (L2.defScope st) s.heap.objs.size f cdv))→
   ∃t,PSs (cxOf (L2.CX P w) P w K mg base N qual (L2.defScope st) f cdv A outer s H E) (L2.defBody st) t∧RS ⟨K,mg⟩ (fun cls d _ H=>E cls d H) t fz):MakZ P w K mg base (k+1) x C n (zFn N.length fz) []:=by
 obtain ⟨f,fd,F,M,hm,b⟩:=D.ex
 subst hn2
 exact ⟨f,fd,ps,[],M,fnZ F S hn (fun cdv A outer s H E hr=>hbody f cdv A outer s H E hr),hm,b, .nil⟩
theorem Dh {C:Addr} {m qual:Str} {st:Stmt} {N ps:List Str} {dvs:List V} {k n:Nat} {fz:SD→R Fl} (D:M.Dmd K C m qual st ps dvs) (S:FnScope N ps (L2.defScope st)) (hn:ps.length≤N.length) (hn2:n=ps.length)
  (hbody:∀(f:Addr) (cdv:Value) (A:Around) (outer:List Env) (s:Shared) (H:Hp) (E:XK),Room k (A.deeper (envOfC qual (L2.defScope st) s.heap.objs.size f cdv))→
   ∃t,PSs (cxOf (L2.CX P w) P w K mg base N qual (L2.defScope st) f cdv A outer s H E) (L2.defBody st) t∧RS ⟨K,mg⟩ (fun cls d _ H=>E cls d H) t fz) (j:Nat) (hj:j≤dvs.length):MetZ P w K mg base (k+1) C m n (zFn N.length fz) (dvs.drop j):=by
 obtain ⟨f,fd,F,c,me,b⟩:=D.ex
 subst hn2
 obtain ⟨ds,hd,hb⟩:=b j hj
 refine ⟨f,fd,ps,ds,c,me, ?_,hb,hd⟩
 exact F.ok S zk fun cdv A outer s H vs Q E hr h=>by
  obtain ⟨t,h1,h2⟩:=hbody f cdv A outer s H E hr
  exact ⟨t,h1,ql h2 h hn⟩
end
section
variable {X:Cx} {W:WX} {k j n:Nat} {C:Addr} {x m:Str} {F:FnV} {dvs:List V} {p pos apos:Pos} {e o:Expr} {es:List Expr} {ta:TE} {t:TA}
theorem m_cZ (c:CalZ X.prog X.w X.K X.mg X.base k x n F dvs) (hr:Room j X.A) (hk:k≤j) (tk:Takes X W) (hg:Gl X x) (ha:PA X (e::es) t)
  (hdb:(x == ("__debug__" :Str))=false:=by decide) (he:starEach (e::es) X.env=(false,eval e X.env)::starEach es X.env:=by rfl) (hpl:(backTo pos (starEach es X.env)).any (·.1)=false:=by rfl):
  PE X (.Call (.Name x p) (e::es) [] pos) (tCallSD (spF ⟨X.K,X.mg⟩ n F) dvs (WE W) t):=by
 obtain ⟨f,fd,ps,ds,h,hm,kp,b,d⟩:=c.ex
 exact pe_callSD h (hr.mono hk) hg hm kp b d (fun σ=>passAt tk σ) ha hdb he hpl
theorem m_mkZ (c:MakZ X.prog X.w X.K X.mg X.base k x C n F dvs) (hr:Room j X.A) (hk:k+1≤j) (tk:Takes X W) (hg:Gl X x) (ha:PA X (e::es) t)
  (hdb:(x == ("__debug__" :Str))=false:=by decide) (he:starEach (e::es) X.env=(false,eval e X.env)::starEach es X.env:=by rfl) (hpl:(backTo pos (starEach es X.env)).any (·.1)=false:=by rfl):
  PE X (.Call (.Name x p) (e::es) [] pos) (uO C (spF ⟨X.K,X.mg⟩ n F) dvs (WE W) t):=by
 obtain ⟨f,fd,ps,ds,M,h,hm,b,d⟩:=c.ex
 exact pe_makS M h (hr.mono hk) hg hm b d (fun σ=>passAt tk σ) ha hdb he hpl
theorem m_mkZ0 (c:MakZ X.prog X.w X.K X.mg X.base k x C n F dvs) (hr:Room j X.A) (hk:k+1≤j) (tk:Takes X W) (hg:Gl X x)
  (hdb:(x == ("__debug__" :Str))=false:=by decide):PE X (.Call (.Name x p) [] [] pos) (uO C (spF ⟨X.K,X.mg⟩ n F) dvs (WE W) tNil):=by
 obtain ⟨f,fd,ps,ds,M,h,hm,b,d⟩:=c.ex
 exact CQ M h (hr.mono hk) hg hm b d (fun σ=>passAt tk σ) hdb
theorem eo {pl:Sem Bool} (c:MetZ X.prog X.w X.K X.mg X.base k C m n F dvs) (hr:Room j X.A) (hk:k≤j) (tk:Takes X W) (he:PE X o ta) (ha:PA X (e::es) t)
  (hst:starEach (e::es) X.env=(false,eval e X.env)::starEach es X.env:=by rfl) (hpl:(backTo pos (starEach es X.env)).any (·.1)=false:=by rfl)
  (ht:eval (.Call (.Attribute o m apos) (e::es) [] pos) X.env=(do
   let ov←eval o X.env
   standAt apos.atName
   let (f,first)←holding [ov] (getMethod ov m pl)
   callWith pos f first (backTo pos (starEach (e::es) X.env)) (backToKw pos (keywordEach [] X.env))):=by rfl):
  PE X (.Call (.Attribute o m apos) (e::es) [] pos) (sH C m (spF ⟨X.K,X.mg⟩ n F) dvs (WE W) ta t):=by
 obtain ⟨f,fd,ps,ds,cl,me,h,b,d⟩:=c.ex
 exact Ac (pl:=pl) he cl me h (hr.mono hk) b d (fun σ=>passAt tk σ) ha hst hpl ht
theorem gW {pl:Sem Bool} (c:MetZ X.prog X.w X.K X.mg X.base k C m n F dvs) (hr:Room j X.A) (hk:k≤j) (tk:Takes X W) (he:PE X o ta)
  (ht:eval (.Call (.Attribute o m apos) [] [] pos) X.env=(do
   let ov←eval o X.env
   standAt apos.atName
   let (f,first)←holding [ov] (getMethod ov m pl)
   callWith pos f first (backTo pos (starEach [] X.env)) (backToKw pos (keywordEach [] X.env))):=by rfl):
  PE X (.Call (.Attribute o m apos) [] [] pos) (sH C m (spF ⟨X.K,X.mg⟩ n F) dvs (WE W) ta tNil):=by
 obtain ⟨f,fd,ps,ds,cl,me,h,b,d⟩:=c.ex
 exact xR (pl:=pl) he cl me h (hr.mono hk) b d (fun σ=>passAt tk σ) ht
theorem mF:Takes X WF:=fun _ _ ⟨_,_,_,_,_,_,_,_,_,_,_,_,_,_,_,_,w⟩=>w.elim
theorem m_fldZ {K:PySem.W.Frag} {f:Str} {ta:TE} (he:PE X e ta) (hb:attributeBase e f X.env (eval e X.env)=eval e X.env:=by rfl) (hK:X.K=K:=by rfl):PE X (.Attribute e f pos) (tFld K ta f):=hK ▸ pe_fld he hb
end
section
variable {G:Gc} {W:WX}
def oNeg (a:Vl) (s:SD):R Vl:=match s.cont a with
 | some (.int i)=> .ok (.d (.int (-i))) s
 | _=> .bad
theorem RE.neg {ta:TE} {fa:SD→R Vl} (ha:RE G W ta fa):RE G W (tUn (rU fun i=> .int (-i)) ta) (z1 oNeg fa):=by
 refine RE.op1 (r:=rU fun i=> .int (-i)) ?_ ?_ ha
 ·intro E σ τ s θ p v a Q hl h hw
  obtain ⟨h0,ca,_⟩:=cN hl h
  unfold oNeg at hw
  split at hw
  ·rename_i i e
   obtain rfl:=(ca _ e).int
   exact ⟨i,rfl,ba h0 hl hw rfl⟩
  ·exact hw.elim
 ·intro a s c fs s'
  unfold oNeg
  split<;> (intro q; cases q)
theorem hd_Add:∀(m n:Int) (H:Hp) (Q:VK),Q (.int (m+n)) H→rAdd (.int m) (.int n) H Q:=fun m n H Q q=>⟨m,n,rfl,rfl,q⟩
theorem hd_Sub:∀(m n:Int) (H:Hp) (Q:VK),Q (.int (m - n)) H→rSub (.int m) (.int n) H Q:=fun m n H Q q=>⟨m,n,rfl,rfl,q⟩
end
section
variable {X:Cx} {W:WX} {k j n:Nat} {C:Addr} {x:Str} {F:FnV} {dvs:List V} {p pos:Pos} {e:Expr} {es:List Expr} {t:TA}
theorem m_cK {K:PySem.W.Frag} {mg:Str→Option Value} (c:CalZ X.prog X.w K mg X.base k x n F dvs) (hr:Room j X.A) (hk:k≤j) (tk:Takes X W) (hg:Gl X x) (ha:PA X (e::es) t)
  (hdb:(x == ("__debug__" :Str))=false:=by decide) (he:starEach (e::es) X.env=(false,eval e X.env)::starEach es X.env:=by rfl) (hpl:(backTo pos (starEach es X.env)).any (·.1)=false:=by rfl) (hK:X.K=K:=by rfl) (hM:X.mg=mg:=by rfl):
  PE X (.Call (.Name x p) (e::es) [] pos) (tCallSD (spF ⟨K,mg⟩ n F) dvs (WE W) t):=by
 subst hK
 subst hM
 exact m_cZ c hr hk tk hg ha hdb he hpl
theorem m_mkK {K:PySem.W.Frag} {mg:Str→Option Value} (c:MakZ X.prog X.w K mg X.base k x C n F dvs) (hr:Room j X.A) (hk:k+1≤j) (tk:Takes X W) (hg:Gl X x) (ha:PA X (e::es) t)
  (hdb:(x == ("__debug__" :Str))=false:=by decide) (he:starEach (e::es) X.env=(false,eval e X.env)::starEach es X.env:=by rfl) (hpl:(backTo pos (starEach es X.env)).any (·.1)=false:=by rfl) (hK:X.K=K:=by rfl) (hM:X.mg=mg:=by rfl):
  PE X (.Call (.Name x p) (e::es) [] pos) (uO C (spF ⟨K,mg⟩ n F) dvs (WE W) t):=by
 subst hK
 subst hM
 exact m_mkZ c hr hk tk hg ha hdb he hpl
end
section
variable {X:Cx}
theorem pe_or' {e:Expr} {t1 t2:TE} (h1:PE X e t1) (h2:PE X e t2):PE X e (fun σ H Q=>t1 σ H Q∨t2 σ H Q):=
 ⟨fun pins s σ H Q I h=>h.elim (h1.run pins s σ H Q I) (h2.run pins s σ H Q I)⟩
end
section
variable {G:Gc} {W:WX} {E:En} {σ σ' :L2.St} {τ τ' τ2:List V} {H:Hp} {s s' :SD} {θ θ' θ2:List Vl} {v u:V} {b:Vl} {x y:D} {p p' :Wr} {Q:VK} {m m' :Nat} {w w' :List (Option V)} {ŵ ŵ' :List (Option Vl)} {S S' :Sto} {i k:Nat} {is:List Nat} {od:Obj} {ks:List (Key×D)} {vs:List (Key×V)}
def En.cl (E:En) (p:Wr) (nx:Nat) (d:Addr) (o:HO):En:= {F:=fun b=>E.F b∨b=d,W:= {γ:=p.γ,n:=E.W.n,O:=fun b=>E.W.O b∨b=d,H:=upd E.W.H d o},S:= {nx:=nx,get:=fun j=>if p.γ j=d then none else E.S.get j}}
theorem uo {nx:Nat} {d:Addr} {o:HO} {j:Nat} {d0:D} (e:(E.cl p nx d o).S.get j=some d0):p.γ j≠d∧E.S.get j=some d0:=by
 have e:(if p.γ j=d then none else E.S.get j)=some d0:=e
 split at e
 ·cases e
 ·rename_i c; exact ⟨c,e⟩
theorem cl_put {nx:Nat} {d:Addr} {o:HO} {j:Nat} {d0:D} (c:p.γ j≠d) (e:E.S.get j=some d0):(E.cl p nx d o).S.get j=some d0:=by
 show (if p.γ j=d then none else E.S.get j)=some d0
 rw [if_neg c]; exact e
theorem eP {j:Nat} {d0:D} (e:(S.del i).get j=some d0):j≠i∧S.get j=some d0:=by
 have e:(if j=i then none else S.get j)=some d0:=e
 split at e
 ·cases e
 ·rename_i c; exact ⟨c,e⟩
theorem Sm.toCl (h:Sm G E m p w ŵ S) (q:S.get i=some (.dct ks)) (hd:p.H (p.γ i)=some (.dK vs)):
  Sm G (E.cl p S.nx (p.γ i) (.frz od (.dK vs))) m {p with H:=upd p.H (p.γ i) (.frz od (.dK vs))} w ŵ (S.del i):=by
 obtain ⟨o1,_⟩:=h.cel i _ q
 have l:=dD (p:=p) (o:= .frz od (.dK vs)) o1
 have ne:∀{b:Addr},b≠p.γ i→upd p.H (p.γ i) (.frz od (.dK vs)) b=p.H b:=fun c=>upd_ne c
 have gi:∀{j:Nat} {d0:D},(S.del i).get j=some d0→p.γ j≠p.γ i:=fun {j d0} e z=>(eP e).1 (h.inj j i d0 _ (eP e).2 q z)
 have wn:∀{b:Addr},b≠p.γ i→(E.cl p S.nx (p.γ i) (.frz od (.dK vs))).W.H b=E.W.H b:=fun c=>upd_ne c
 refine {h with nx:=Nat.le_refl _,ebd:=fun j d0 e=>Nat.lt_of_lt_of_le (h.ebd j d0 (uo e).2) h.nx,old:=fun _ _=>rfl,bd:=fun j d0 e=>h.bd j d0 (eP e).2,cel:=fun j d0 e=>⟨(h.cel j d0 (eP e).2).1,(h.cel j d0 (eP e).2).2.mono l (ne (gi e))⟩,inj:=fun j t d0 d1 e1 e2=>h.inj j t d0 d1 (eP e1).2 (eP e2).2,born:=fun j d0 e=>?_,frm:=fun b f=>?_,kp:=fun b o e n=>?_,sub:=fun b o e=>?_,grw:=fun b o e n z=>?_,tb:=fun t ht=>(h.tb t ht).of fun b u n e _=>⟨n,(ne fun z=>n (by rw [z]; exact o1)).trans e⟩,dom:=fun b e=>?_,ent:=fun j e e1=>?_,own:=fun j y b e1 e2=>?_}
 ·rcases h.born j d0 (eP e).2 with ⟨d1,b1⟩ | b1
  ·exact .inl ⟨d1,cl_put (gi e) b1⟩
  ·exact .inr ((wn (gi e)).trans b1)
 ·rcases f with f | rfl
  ·exact ⟨(h.frm b f).1,fun j d0 e=>(h.frm b f).2 j d0 (eP e).2⟩
  ·exact ⟨o1,fun j d0 e=>gi e⟩
 ·by_cases c:b=p.γ i
  ·subst c
   have e:upd E.W.H (p.γ i) (.frz od (.dK vs)) (p.γ i)=some o:=e
   rw [upd_same] at e
   cases e
   exact ⟨fun _=>upd_same, .inl upd_same⟩
  ·rw [wn c] at e
   show (_→upd _ _ _ _=_)∧Kept o (upd _ _ _ _)
   rw [ne c]
   obtain ⟨k1,k2⟩:=h.kp b o e fun j d0 g z=>by
    have hj:=h.old j (h.ebd j d0 g)
    rw [←hj] at z
    exact n j d0 (cl_put (fun y=>c (z.trans y)) g) z
   exact ⟨fun f=>k1 (f.resolve_right c),k2⟩
 ·by_cases c:b=p.γ i
  ·subst c; exact ⟨_,upd_same⟩
  ·rw [wn c] at e
   obtain ⟨o',e'⟩:=h.sub b o e
   exact ⟨o',by show upd _ _ _ _=_; rw [ne c]; exact e'⟩
 ·by_cases c:b=p.γ i
  ·exact n (.inr c)
  ·rw [wn c] at e
   exact h.grw b o e (fun y=>n (.inl y)) z
 ·by_cases c:b=p.γ i
  ·subst c; exact ⟨_,upd_same⟩
  ·obtain ⟨o',e'⟩:=h.dom b e
   exact ⟨o',by show upd _ _ _ _=_; rw [ne c]; exact e'⟩
 ·obtain ⟨u,e2,r⟩:=h.ent j e e1
  refine ⟨u,e2, ?_⟩
  cases e with
  | d z=>exact Rep.mono l r
  | own z=>
   obtain ⟨b,rfl,r⟩:=r
   exact ⟨b,rfl,r.mono l (ne fun hb=>(h.own j z b e1 e2).2.2.2 i _ q hb.symm)⟩
  | loc t=>exact r
 ·obtain ⟨a1,a2,a3,a4⟩:=h.own j y b e1 e2
  have c:b≠p.γ i:=fun z=>a4 i _ q z.symm
  exact ⟨a1,(wn c).trans a2,fun f=>f.elim a3 c,fun t d0 e=>a4 t d0 (eP e).2⟩
theorem Sm.ofCl (h:Sm G E m p w ŵ S) (q:S.get i=some (.dct ks)) (hd:p.H (p.γ i)=some (.dK vs)) (h' :Sm G (E.cl p S.nx (p.γ i) (.frz od (.dK vs))) m' p' w' ŵ' S'):
  p'.H (p.γ i)=some (.frz od (.dK vs))∧(RepK G p' ks vs→Sm G E m' {p' with H:=upd p'.H (p.γ i) (.dK vs)} w' ŵ' (S'.put i (.dct ks))):=by
 have hi:=h.bd i _ q
 have nx' :S.nx≤S'.nx:=h'.nx
 have gI:p'.γ i=p.γ i:=h'.old i hi
 obtain ⟨od1,od2⟩:=h'.frm (p.γ i) (.inr rfl)
 have f0:p'.H (p.γ i)=some (.frz od (.dK vs)):=(h'.kp (p.γ i) _ upd_same fun j d0 e z=>(uo e).1 z.symm).1 (.inr rfl)
 have l:=dD (p:=p') (o:= .dK vs) od1
 have ne:∀{b:Addr},b≠p.γ i→upd p'.H (p.γ i) (.dK vs) b=p'.H b:=fun c=>upd_ne c
 have wn:∀{b:Addr},b≠p.γ i→(E.cl p S.nx (p.γ i) (.frz od (.dK vs))).W.H b=E.W.H b:=fun c=>upd_ne c
 have pg:∀{j:Nat} {d0:D},(S'.put i (.dct ks)).get j=some d0→(j=i∧d0= .dct ks)∨(j≠i∧S'.get j=some d0):=fun {j d0} e=>by
  by_cases c:j=i
  ·subst c
   rw [Sto.put_same] at e; cases e; exact .inl ⟨rfl,rfl⟩
  ·rw [Sto.put_ne c] at e; exact .inr ⟨c,e⟩
 refine ⟨f0,fun r=> {h' with nx:=Nat.le_trans h.nx nx',ebd:=h.ebd,old:=fun j hj=>(h'.old j (Nat.lt_of_lt_of_le hj h.nx)).trans (h.old j hj),bd:=fun j d0 e=>?_,cel:=fun j d0 e=>?_,inj:=fun j t d0 d1 e1 e2 e3=>?_,born:=fun j d0 e=>?_,frm:=fun b f=>⟨(h'.frm b (.inl f)).1,fun j d0 e=>?_⟩,kp:=fun b o e n=>?_,sub:=fun b o e=>?_,grw:=fun b o e n z=>?_,tb:=fun t ht=>(h'.tb t ht).of fun b u n e _=>⟨n,(ne fun z=>n (by rw [z]; exact od1)).trans e⟩,dom:=fun b e=>?_,ent:=fun j e e1=>?_,own:=fun j y b e1 e2=>?_}⟩
 ·rcases pg e with ⟨rfl,_⟩ | ⟨_,e⟩
  ·exact Nat.lt_of_lt_of_le hi nx'
  ·exact h'.bd j d0 e
 ·rcases pg e with ⟨rfl,rfl⟩ | ⟨_,e⟩
  ·rw [gI]
   exact ⟨od1,vs,upd_same,r.mono l⟩
  ·exact ⟨(h'.cel j d0 e).1,(h'.cel j d0 e).2.mono l (ne (od2 j d0 e))⟩
 ·rcases pg e1 with ⟨c1,_⟩ | ⟨_,f1⟩
  ·rcases pg e2 with ⟨c2,_⟩ | ⟨_,f2⟩
   ·exact c1.trans c2.symm
   ·subst c1
    exact (od2 t d1 f2 (e3.symm.trans gI)).elim
  ·rcases pg e2 with ⟨c2,_⟩ | ⟨_,f2⟩
   ·subst c2
    exact (od2 j d0 f1 (e3.trans gI)).elim
   ·exact h'.inj j t d0 d1 f1 f2 e3
 ·rcases pg e with ⟨rfl,rfl⟩ | ⟨_,e⟩
  ·rcases h.born j _ q with b1 | b1
   ·exact .inl b1
   ·right
    show E.W.H (p'.γ j)=none
    rw [gI]; exact b1
  ·rcases h'.born j d0 e with ⟨d1,b1⟩ | b1
   ·exact .inl ⟨d1,(uo b1).2⟩
   ·right
    rw [wn (od2 j d0 e)] at b1
    exact b1
 ·rcases pg e with ⟨rfl,rfl⟩ | ⟨_,e⟩
  ·show p'.γ j≠b
   rw [gI]; exact (h.frm b f).2 j _ q
  ·exact (h'.frm b (.inl f)).2 j d0 e
 ·show (_→upd _ _ _ _=_)∧Kept o (upd _ _ _ _)
  by_cases c:b=p.γ i
  ·subst c
   rw [upd_same,←hd]
   exact h.kp _ o e n
  ·rw [ne c]
   obtain ⟨k1,k2⟩:=h'.kp b o ((wn c).trans e) fun j d0 g z=>by
    obtain ⟨g1,g2⟩:=uo g
    exact n j d0 g2 (z.trans (h.old j (h.ebd j d0 g2)))
   exact ⟨fun f=>k1 (.inl f),k2⟩
 ·by_cases c:b=p.γ i
  ·subst c; exact ⟨_,upd_same⟩
  ·obtain ⟨o',e'⟩:=h'.sub b o ((wn c).trans e)
   exact ⟨o',by show upd _ _ _ _=_; rw [ne c]; exact e'⟩
 ·by_cases c:b=p.γ i
  ·subst c
   exact h.grw _ o e n (h.cel i _ q).1
  ·exact h'.grw b o ((wn c).trans e) (fun y=>y.elim n c) z
 ·by_cases c:b=p.γ i
  ·subst c; exact ⟨_,upd_same⟩
  ·obtain ⟨o',e'⟩:=h'.dom b e
   exact ⟨o',by show upd _ _ _ _=_; rw [ne c]; exact e'⟩
 ·obtain ⟨u,e2,r⟩:=h'.ent j e e1
  refine ⟨u,e2, ?_⟩
  cases e with
  | d z=>exact Rep.mono l r
  | own z=>
   obtain ⟨b,rfl,r⟩:=r
   exact ⟨b,rfl,r.mono l (ne fun hb=>(h'.own j z b e1 e2).2.2.1 (.inr hb))⟩
  | loc t=>exact r
 ·obtain ⟨a1,a2,a3,a4⟩:=h'.own j y b e1 e2
  have c:b≠p.γ i:=fun z=>a3 (.inr z)
  refine ⟨a1,(wn c).symm.trans a2,fun f=>a3 (.inl f),fun t d0 e=>?_⟩
  rcases pg e with ⟨rfl,rfl⟩ | ⟨_,e⟩
  ·show p'.γ t≠b
   rw [gI]; exact fun z=>c z.symm
  ·exact a4 t d0 e
theorem Sm.pushs:∀{ds:List D} {us:List V} {w:List (Option V)} {ŵ:List (Option Vl)},Sm G E m p w ŵ S→Reps G p ds us→Sm G E m p (w++us.map some) (ŵ++(ds.map Vl.d).map some) S
 | [],us,w,ŵ,h,r=>by
  rw [show us= [] from r]
  simpa using h
 | d::ds,us,w,ŵ,h,r=>by
  obtain ⟨v,r',rfl,h1,h2⟩:=r
  have:=(h.push h1).pushs h2
  rw [List.append_assoc,List.append_assoc] at this
  exact this
noncomputable def B9 (k:Nat) (fz:Vl→SD→R Unit) (ft:SD→R Bool) (fe:SD→R Vl) (is:List Nat):SD→R Vl:=fun s=>match s.sl[k]? with
 | some (some (.d (.cell i)))=>match s.st.get i with
  | some (.dct ks)=>(lz (fun _=>True) fz ft fe is (Wk.keys.ds ks) [] ((⟨s.sl,s.st.del i⟩:SD).wipe is)).nx.bind fun acc s2=> .ok (.own (.lst acc)) ⟨s2.sl,s2.st.put i (.dct ks)⟩
  | _=> .bad
 | _=>zLc (oJ .keys (aa k)) fz ft fe is s
theorem RE.lcD {g:TG} {tt:TT} {te:TE} {fz:Vl→SD→R Unit} {ft:SD→R Bool} {fe:SD→R Vl} (hg:RG G WF is g fz) (hT:RT G WF tt ft) (he:RE G WF te fe):
  RE G W (fun σ H Q=>tLockE (tLc (iKeys (tVar k)) g tt te is) σ H Q∨tLc (iKeys (tLk (tVar k))) g tt te is σ H Q) (B9 k fz ft fe is):=by
 intro E σ τ H s θ Q hN hR hw
 unfold B9 at hw
 split at hw
 ·rename_i i e
  split at hw
  ·rename_i ks e2
   left
   have ht:=hR.tlen
   obtain ⟨p,rfl,hl,h⟩:=hR
   obtain ⟨o1,vs,hd,r⟩:=h.cel i _ e2
   refine ⟨p.γ i, .dK vs,hd,True.intro,fun od=>?_⟩
   have l:=dD (p:=p) (o:= .frz od (.dK vs)) o1
   have h1:=h.toCl (od:=od) e2 hd
   have h2:=h1.pushs (r.vals.mono l)
   have hR2:Rel G (E.cl p s.st.nx (p.γ i) (.frz od (.dK vs))) σ (τ++vs.map (·.2)) (upd p.H (p.γ i) (.frz od (.dK vs))) ⟨s.sl,s.st.del i⟩ (θ++(ks.map (·.2)).map .d):=by
    refine ⟨{p with H:=upd p.H (p.γ i) (.frz od (.dK vs))},rfl,hl, ?_⟩
    rw [List.map_append,List.map_append,←List.append_assoc,←List.append_assoc]
    exact h2
   have hN2:Nl (θ++(ks.map (·.2)).map Vl.d):=fun e he j=>by
    rcases List.mem_append.mp he with he | he
    ·exact hN e he j
    ·obtain ⟨x,_,rfl⟩:=List.mem_map.mp he
     exact fun z=>nomatch z
   have hi:RIat G W (E.cl p s.st.nx (p.γ i) (.frz od (.dK vs))) (iKeys (tVar k)) (fun s=>if s.sl[k]? =some (some (.d (.cell i))) then .ok ⟨[],fun _=>True,Wk.keys.ds ks⟩ s else .bad):=by
    intro σ τ H s1 θ Q hN hR hw
    have hw:Wp (if s1.sl[k]? =some (some (.d (.cell i))) then R.ok _ s1 else .bad) _ _:=hw
    split at hw
    ·rename_i e3
     have hR0:=hR
     obtain ⟨p1,rfl,hl1,h3⟩:=hR
     have f0:∀{H'} {σ' τ' s' θ'},Rel G (E.cl p s.st.nx (p.γ i) (.frz od (.dK vs))) σ' τ' H' s' θ'→H' (p.γ i)=some (.frz od (.dK vs)):=fun {H' σ' τ' s' θ'} hR=>by
      obtain ⟨p2,rfl,_,h4⟩:=hR
      exact (h4.kp (p.γ i) _ upd_same fun j d0 e z=>(uo e).1 z.symm).1 (.inr rfl)
     obtain ⟨v,e4,r4⟩:=h3.ent k (.d (.cell i)) (by rw [List.getElem?_append_left (ai e3)]; exact e3)
     rw [List.getElem?_append_left (by rw [hl1]; exact ai e3)] at e4
     have r4:i<p1.n∧v= .ref (p1.γ i):=r4
     have gI:p1.γ i=p.γ i:=h3.old i (h.bd i _ e2)
     obtain ⟨_,rfl⟩:=r4
     rw [gI] at e4
     refine ⟨_,e4,p.γ i,od,rfl, .inl ⟨vs,f0 hR0, ?_⟩⟩
     refine hw [] _ _ _ (fun _ _ _ _ _ h=>h) rfl (by simpa using hR0) fun j σ τ τ2 θ θ2 H s ht ht2 h5 _=>?_
     have hf:=f0 h5
     have kl:=r.len
     have dl:(Wk.keys.ds ks).length=ks.length:=by simp [Wk.ds]
     refine ⟨fun d e=>⟨⟨hf,by rw [kl,←dl]; exact ai e⟩,fun x H' y=>?_⟩,fun e=>⟨hf,by rw [kl,←dl]; exact List.getElem?_eq_none_iff.mp e⟩⟩
     obtain ⟨rfl,kk,z,e1,rfl⟩:=y
     have ek:(vs.map (·.1))[j]? =some kk:=by rw [List.getElem?_map,e1]; rfl
     rw [r.keys,List.getElem?_map] at ek
     obtain ⟨kd,e5,e6⟩:=Option.map_eq_some_iff.mp ek
     have e:(ks.map fun kv=>lX kv.1)[j]? =some d:=e
     rw [List.getElem?_map,e5] at e
     cases e
     have e7:(fun kv:Key×D=>lX kv.fst) kd=lX kk:=congrArg lX e6
     rw [e7]
     exact h5.push fun _=>jV
    ·exact hw.elim
   refine lc_at hi hg hT he σ _ _ ⟨s.sl,s.st.del i⟩ _ _ hN2 hR2 ?_
   unfold zLc
   rw [ae]
   have e' :(⟨s.sl,s.st.del i⟩:SD).sl[k]? =some (some (.d (.cell i))):=e
   show Wp (if _ then _ else _) _ _
   rw [if_pos e',D6]
   show Wp (if Nl [] then _ else _) _ _
   have n0:Nl []:=fun e he j=>by cases he
   rw [if_pos n0]
   rw [ae,BY] at hw ⊢
   refine hw.mono (fun acc s2 hw v H' h3=>?_) fun _ _ _ h=>h
   obtain ⟨p2,rfl,hl2,h4⟩:=h3
   obtain ⟨f0,back⟩:=h.ofCl e2 hd h4
   refine ⟨f0,hw v _ ?_⟩
   have e1:σ++((τ++vs.map (·.2))++ [v]).map some=((σ++τ.map some)++(vs.map (·.2)).map some)++ [some v]:=by simp
   have e3:s2.sl++((θ++(ks.map fun q:Key×D=>q.2).map Vl.d)++ [Vl.own (.lst acc)]).map some=((s2.sl++θ.map some)++((ks.map fun q:Key×D=>q.2).map Vl.d).map some)++ [some (Vl.own (.lst acc))]:=by simp
   rw [e1,e3] at h4 back
   have hA:(σ++τ.map some).length=(s2.sl++θ.map some).length:=by simp [hl2,ht]
   have hB:((vs.map (·.2)).map some).length=(((ks.map (·.2)).map Vl.d).map some).length:=by simp [r.len]
   have rr:RepK G p2 ks vs:=by
    refine .of r.keys (.of (by simp [r.len]) fun j d v' g1 g2=>?_)
    obtain ⟨u,e5,r5⟩:=h4.ent ((s2.sl++θ.map some).length+j) (.d d) (by
     rw [List.getElem?_append_left (by simp; have:=ai g1; simp at this; omega),List.getElem?_append_right (Nat.le_add_right _ _),Nat.add_sub_cancel_left]
     rw [List.getElem?_map,List.getElem?_map,g1]; rfl)
    rw [←hA,List.getElem?_append_left (by simp; have:=ai g2; simp at this; omega),List.getElem?_append_right (Nat.le_add_right _ _),Nat.add_sub_cancel_left,List.getElem?_map,g2] at e5
    cases e5
    exact r5
   exact .snoc ((back rr).mid hA hB (bI hl2)) hl2 rfl
  ·exact hw.elim
 ·right
  exact aak (RI.keys aaa) hg hT he E σ τ H s θ Q hN hR hw
noncomputable def zLcDE (fa:SD→R Vl) (fz:Vl→SD→R Unit) (ft:SD→R Bool) (fe:SD→R Vl) (is:List Nat):SD→R Vl:=fun s=>match fa s with
 | .ok (.d (.cell i)) _=>match s.st.get i with
  | some (.dct ks)=>if fa ⟨s.sl,s.st.del i⟩= .ok (.d (.cell i)) ⟨s.sl,s.st.del i⟩ then (lz (fun _=>True) fz ft fe is (Wk.keys.ds ks) [] ((⟨s.sl,s.st.del i⟩:SD).wipe is)).nx.bind fun acc s2=> .ok (.own (.lst acc)) ⟨s2.sl,s2.st.put i (.dct ks)⟩ else .bad
  | _=> .bad
 | _=>zLc (oJ .keys fa) fz ft fe is s
end
section
variable {x:D} {sl:List (Option Vl)} {S:Sto} {fz:Vl→SD→R Unit} {ft:SD→R Bool} {fe:SD→R Vl} {is:List Nat} {i k:Nat}
theorem put_del (h:S.get i=some x):(S.del i).put i x=S:=by
 unfold Sto.put Sto.del
 congr 1
 funext j
 show (if j=i then _ else if j=i then _ else _)=_
 by_cases c:j=i
 ·subst c; simp [h]
 ·simp [c]
theorem lcD_d (hk:sl[k]? =some (some (.d x))) (hx:∀i,x≠ .cell i):B9 k fz ft fe is ⟨sl,S⟩=zLc (oJ .keys (aa k)) fz ft fe is ⟨sl,S⟩:=by
 unfold B9
 show (match sl[k]? with | some (some (.d (.cell i)))=>_ | _=>_)=_
 rw [hk]
 cases x<;> first | rfl | exact (hx _ rfl).elim
end
def pP (c:Str) (fa:SD→R Vl):SD→R Fl:=fun s=>(fa s).bind fun _ s1=> .ex c [] s1
def fA (c f:Str) (fa:SD→R Vl):SD→R Fl:=fun s=>(fa s).bind fun a s1=>(s1.fix a).bind fun x s2=> .ex c [(f,x)] s2
def zTry (m:Str→Option Bool) (i:Nat) (fb fs:SD→R Fl):SD→R Fl:=fun s=>match fb s with
 | .ex c vs s1=>(match m c with
  | some true=>(match fs {s1 with sl:=s1.sl.set i (some (.d (.exc c vs)))} with
   | .ok fl s2=> .ok fl (s2.wipe [i])
   | _=> .bad)
  | some false=> .ex c vs s1
  | none=> .bad)
 | r=>r
def oXf (ok:Str→Bool) (f:Str) (a:Vl) (s:SD):R Vl:=match s.cont a with
 | some (.exc c fs)=>if ok c=true then (match dI fs f with
  | some x=> .ok (.d x) s
  | none=> .bad) else .bad
 | _=> .bad
noncomputable def oR (m:Str→Option Bool) (kd:Bool) (a:Vl) (s:SD):R Vl:=match s.cont a with
 | some (.exc c _)=>(match m c with
  | some b=> .ok (.d (.bl b)) s
  | none=> .bad)
 | some x=>(match x.knd with
  | some _=>if kd=true then .ok (.d (.bl false)) s else .bad
  | none=> .bad)
 | none=> .bad
def sv (G:Gc) (cv:Value) (m:Str→Option Bool):Prop:=∀c b C,m c=some b→G.mg c=some (.ref C)→PySem.W.exmOne G.K (.ref C) cv=some b
def XfOk (G:Gc) (f:Str) (ok:Str→Bool):Prop:=∀c C,ok c=true→G.mg c=some (.ref C)→L2.XfC G.K C∧PySem.W.findIn G.K (.ref C) f=some none
structure IsXOk (G:Gc) (cv:V) (u:Value) (m:Str→Option Bool) (kd:Bool):Prop where
 cls:ClsV cv u
 own:∀c b C,m c=some b→G.mg c=some (.ref C)→L2.ExcC G.K C∧PySem.W.kitOne G.K (.ref C) u=some b
 kd:kd=true→∀k∈ ["NoneType","bool","int","str","list","tuple","dict"],PySem.W.kitOne G.K (.type k) u=some false
def rIsXZ (K:PySem.W.Frag):List V→Hp→VK→Prop:=fun xs H Q=>rIsX K xs H Q∨rIsi K xs H Q
section
variable {G:Gc} {W:WX} {E:En} {σ σ' :L2.St} {τ:List V} {H:Hp} {s s' :SD} {θ:List Vl} {v:V} {a b:Vl} {x:D} {p:Wr} {Q:VK} {i:Nat}
theorem di {X:Cx} {K:PySem.W.Frag} (hK:X.K=K:=by rfl):CallR X (.builtin "isinstance") (rIsXZ K):=CallR.or (m_isX hK) (vy hK)
theorem Cont.exc {c:Str} {ds:List (Str×D)} (h:Cont G p (.exc c ds) v):Rep G p (.exc c ds) v:=h.sc rfl
theorem RS.raise0 {c:Str} {C:Addr} {ta:TE} {fa:SD→R Vl} (hC:G.mg c=some (.ref C)) (ha:RE G W ta fa):RS G W (fun _ σ H=>ta σ H fun _ H1=>W (.ref C) none σ H1) (pP c fa):=by
 intro E σ τ H s θ D hN hR hw
 unfold pP at hw
 rw [ae] at hw
 refine ha E σ τ H s θ _ hN hR (hw.mono (fun a s1 hw v H1 h1=>?_) fun _ _ _ h=>h)
 obtain ⟨p,rfl,hl,h⟩:=h1.pop
 exact hw _ _ σ _ ⟨p,rfl,hl,h,C,hC,rfl, .inl ⟨rfl,rfl⟩⟩
theorem yQ {H:Hp} {a dx:Addr} {o1 o2 o3 o4:HO} (ha:H a=none) (hne:dx≠a):upd (L2.del (upd (upd (upd H a o1) dx o2) a o3) a) dx o4=upd H dx o4:=by
 funext b
 by_cases h1:b=dx
 ·rw [h1,upd_same,upd_same]
 ·rw [upd_ne h1,upd_ne h1]
  by_cases h2:b=a
  ·rw [h2,L2.del_same,ha]
  ·rw [L2.del_ne h2,upd_ne h2,upd_ne h1,upd_ne h2]
theorem aan {c f:Str} {C:Addr} {ta:TE} {fa:SD→R Vl} (hC:G.mg c=some (.ref C)) (T:OexC G.K C) (no:PySem.W.findIn G.K (.ref C) f=some none) (ha:RE G W ta fa):RS G W (zb G.K C f W ta) (fA c f fa):=by
 intro E σ τ H s θ D hN hR hw
 refine RE.fix ha E σ τ H s θ _ hN hR ?_
 unfold fA at hw
 unfold aZ wC
 rw [ae] at hw ⊢
 refine hw.mono (fun a s1 hw=>?_) fun _ _ _ h=>h
 rw [ae] at hw ⊢
 refine hw.mono (fun x s2 hw=>?_) fun _ _ _ h=>h
 intro v H1 h1
 refine ⟨by show 1≤1000; omega,fun a ha1=>⟨a,C,v,rfl,upd_same,T,no,fun dx hdx hne=>⟨rfl,dx,[(f,v)],upd_same,(upd_ne hne).trans upd_same,(upd_ne hne).symm.trans hdx, ?_⟩⟩⟩
 have hd1:H1 dx=none:=(upd_ne hne).symm.trans hdx
 show W (.ref C) (some dx) σ _
 rw [yQ ha1 hne]
 obtain ⟨p,rfl,hl,h⟩:=h1.unsnoc
 obtain ⟨q,_,r⟩:=h1.last
 obtain ⟨w,e,r⟩:=h.ent _ (.d x) af
 rw [←aA h.len,af] at e
 cases e
 exact hw _ _ σ _ ⟨{p with H:=upd p.H dx (.xd [(f,v)])},rfl,hl,(h.alloc hd1).pop1 (bI hl),C,hC,rfl, .inr ⟨dx,[(f,v)],rfl,upd_same,(h.fresh hd1).2,v,[],rfl,Rep.mono (cE hd1) r,rfl⟩⟩
theorem RS.tryK {cv:Value} {m:Str→Option Bool} {tb:WX→TS} {ts:TS} {fb fs:SD→R Fl} (hm:sv G cv m) (hb:∀W',RS G W' (tb W') fb) (hs:RS G WF ts fs):RS G W (fun D σ H=>tb (wK G.K cv i ts W D) D σ H) (zTry m i fb fs):=by
 intro E σ τ H s θ D hN hR hw
 refine hb _ E σ τ H s θ D hN hR ?_
 unfold zTry at hw
 cases e:fb s with
 | ok fl s1=>rw [e] at hw; exact hw
 | bad=>rw [e] at hw; exact hw
 | ex c vs s1=>
  rw [e] at hw
  dsimp only at hw
  intro cls d σ' H' hx
  have hx0:=hx
  obtain ⟨p,rfl,hl,h,C,hC,rfl,xv⟩:=hx
  cases e1:m c with
  | none=>rw [e1] at hw; exact hw.elim
  | some b=>
   have hmb:=hm c b C e1 hC
   rw [e1] at hw
   cases b with
   | false=>exact ⟨false,hmb,(fun z=>nomatch z),fun _=>hw _ _ σ' _ hx0⟩
   | true=>
    refine ⟨true,hmb,fun _ a ha=>?_,fun z=>nomatch z⟩
    have q1:=h.alloc (o:=kxO (.ref C) d a) ha
    have rep:Rep G {p with H:=upd p.H a (kxO (.ref C) d a)} (.exc c vs) (.ref a):=by
     refine ⟨a,C,d,rfl,(h.fresh ha).2,hC,upd_same, ?_⟩
     rcases xv with ⟨e2,e3⟩ | ⟨da,fvs,e2,e3,e4,e5⟩
     ·exact .inl ⟨e2,e3⟩
     ·exact .inr ⟨da,fvs,e2,(upd_ne (ne_of_none e3 ha)).trans e3,e4,RepF.mono (cE ha) e5⟩
    have hR1:Rel G E (σ'.set i (some (.ref a))) τ (upd p.H a (kxO (.ref C) d a)) {s1 with sl:=s1.sl.set i (some (.d (.exc c vs)))} θ:=
     Rel.store (v:= .ref a) (a:= .d (.exc c vs)) (Rel.snoc (q1.push rep) hl rfl) hN fun j z=>nomatch z
    have out:∀{σ2:L2.St} {τ2:List V} {H2:Hp} {s2:SD} {θ2:List Vl},Nl θ2→Rel G E σ2 τ2 H2 s2 θ2→Rel G E (σ2.set i none) τ2 H2 (s2.wipe [i]) θ2:=fun hN2 h2=>(h2.wipe (is:= [i])).repl hN2 dM .set
    refine hs E _ τ _ _ θ _ hN hR1 ?_
    dsimp only at hw
    cases e2:fs {s1 with sl:=s1.sl.set i (some (.d (.exc c vs)))} with
    | bad=>rw [e2] at hw; exact hw.elim
    | ex c2 v2 s2=>rw [e2] at hw; exact hw.elim
    | ok fl s2=>
     rw [e2] at hw
     cases fl with
     | nx=>exact fun σ2 H2 h2=>hw _ H2 (out hN h2)
     | bk=>exact fun σ2 H2 h2=>hw _ H2 (out hN h2)
     | ct=>exact fun σ2 H2 h2=>hw _ H2 (out hN h2)
     | rt b=>exact ⟨hw.1,fun σ2 v2 H2 h2=>hw.2 (σ2.set i none) v2 H2 (out (hN.snoc hw.1) h2)⟩
theorem RE.xf {ok:Str→Bool} {f:Str} {ta:TE} {fa:SD→R Vl} (hx:XfOk G f ok) (ha:RE G W ta fa):RE G W (tXk G.K f ta) (z1 (oXf ok f) fa):=by
 refine RE.op1 (r:=fun x H Q=>∃(a C da:Addr) (fs:List (Str×V)) (v:V),x= .ref a∧H a=some (kxO (.ref C) (some da) a)∧L2.XfC G.K C∧PySem.W.findIn G.K (.ref C) f=some none∧H da=some (.xd fs)∧fs.lookup f=some v∧Q v H) ?_ ?_ ha
 ·intro E σ τ s θ p v a Q hl h hw
  obtain ⟨h0,ca,_⟩:=cN hl h
  unfold oXf at hw
  split at hw
  ·rename_i c ds e
   split at hw
   ·rename_i hok
    split at hw
    ·rename_i x e1
     obtain ⟨a',C,d,rfl,n,hC,hH,⟨rfl,_⟩ | ⟨da,fvs,rfl,e3,e4,e5⟩⟩:=(ca _ e).exc
     ·cases e1
     ·obtain ⟨T,no⟩:=hx c C hok hC
      obtain ⟨w,e6,r⟩:=(RepF.val e5).1 x e1
      exact ⟨a',C,da,fvs,w,rfl,hH,T,no,e3,e6,ba h0 hl hw r⟩
    ·exact hw.elim
   ·exact hw.elim
  ·exact hw.elim
 ·intro a s c fs s'
  unfold oXf
  split
  ·split
   ·split<;> (intro q; cases q)
   ·intro q; cases q
  ·intro q; cases q
theorem RE.isX {cv:V} {w:Value} {m:Str→Option Bool} {kd:Bool} {ta:TE} {fa:SD→R Vl} (hc:IsXOk G cv w m kd) (ha:RE G W ta fa):RE G W (tCB (rIsXZ G.K) (tCons ta (tCons (tC cv) tNil))) (z1 (oR m kd) fa):=by
 refine RE.op1 (r:=fun v H Q=>rIsXZ G.K [v,cv] H Q) ?_ ?_ ha
 ·intro E σ τ s θ p v a Q hl h hw
  obtain ⟨h0,ca,_⟩:=cN hl h
  unfold oR at hw
  split at hw
  ·rename_i c fs e
   split at hw
   ·rename_i b e1
    obtain ⟨a',C,d,rfl,n,hC,hH,xd⟩:=(ca _ e).exc
    obtain ⟨T,k⟩:=hc.own c b C e1 hC
    refine .inl ⟨a',C,d,cv,w,b,rfl,hH, ?_,T,fun _ r=>hc.cls.eq r,k,ba h0 hl hw rfl⟩
    rcases xd with ⟨_,e3⟩ | ⟨da,fvs,e2,e3,_,_⟩
    ·exact .inl e3
    ·exact .inr ⟨da,fvs,e2,e3⟩
   ·exact hw.elim
  ·rename_i x _ e
   split at hw
   ·rename_i k e1
    split at hw
    ·rename_i hk
     refine .inr ⟨_,_, .type k,w,false,rfl,hc.cls,AM (ca _ e) e1,hc.kd hk k ?_,ba h0 hl hw rfl⟩
     cases x<;> cases e1<;> simp
    ·exact hw.elim
   ·exact hw.elim
  ·exact hw.elim
 ·intro a s c fs s'
  unfold oR
  split
  ·split<;> (intro q; cases q)
  ·split
   ·split<;> (intro q; cases q)
   ·intro q; cases q
  ·intro q; cases q
end
structure XT (K:PySem.W.Frag) (C:Addr):Prop where
 hd:PySem.W.hasDictIn K C=true
 ty:PySem.W.typeIn K (.ref C)=some (.type "type")
 me:PySem.W.subIn K (.ref C) (.ref C)=some true
 b:PySem.W.subIn K (.ref C) (.type "BaseException")=some true
structure XCls (K:PySem.W.Frag) (C:Addr):Prop extends XT K C where
 ga:PySem.W.findIn K (.ref C) "__getattribute__" =some (some (.builtin "BaseException.__getattribute__"))
 gg:PySem.W.findIn K (.ref C) "__getattr__" =some none
 ca:PySem.W.findIn K (.ref C) "__class__" =some (some (.builtin "object.__class__"))
 sp:PySem.W.specialIn K (.builtin "object.__class__") "__get__" =some (some (.builtin "getset_descriptor.__get__"))
 tk:PySem.W.takesIn K (.builtin "object.__class__")=some true
 ob:PySem.W.mroIn K C (.type "object")=some true
structure X0Z (K:PySem.W.Frag) (C:Addr):Prop where
 q:PySem.W.excIn K C [.type "ValueError", .type "Exception", .type "BaseException", .type "object"] "ValueError.__new__" =true
 k:PySem.W.keepIn K (.ref C)=true
section
variable {K:PySem.W.Frag} {C D:Addr} {b:Bool}
theorem XCls.exc (h:XCls K C):L2.ExcC K C:=⟨h.ga,h.gg,h.b,h.hd,h.ca,h.sp,h.tk,h.ob⟩
theorem XCls.xf (h:XCls K C):L2.XfC K C:=⟨h.ga,h.gg,h.b,h.hd⟩
theorem XT.cls (h:XT K C):(PySem.W.clsIn K C).isSome=true:=by
 have q:=h.hd
 unfold PySem.W.hasDictIn at q
 cases e:PySem.W.clsIn K C with
 | none=>rw [e] at q; cases q
 | some _=>rfl
theorem XT.kit {t:Value} (h:XT K D) (e:PySem.W.subIn K t (.ref D)=some b):PySem.W.kitOne K t (.ref D)=some b:=by
 unfold PySem.W.kitOne
 by_cases c:(t == .ref D)=true
 ·rw [if_pos c]
  have c' :=beq_iff_eq.mp c
  subst c'
  exact h.me.symm.trans e
 ·rw [if_neg c]
  show (if ((PySem.W.clsIn K D).isSome&&PySem.W.typeIn K (.ref D) == some (.type "type"))=true then PySem.W.subIn K t (.ref D) else none)=some b
  rw [if_pos (by rw [h.cls,h.ty]; rfl)]
  exact e
theorem XT.exm (h:XT K D) (e:PySem.W.subIn K (.ref C) (.ref D)=some b):PySem.W.exmOne K (.ref C) (.ref D)=some b:=PySem.W.exm_ref h.b h.hd h.ty e
theorem XT.kd (h:XT K D):∀k∈ ["NoneType","bool","int","str","list","tuple","dict"],PySem.W.kitOne K (.type k) (.ref D)=some false:=by
 intro k hk
 refine h.kit ?_
 simp only [List.mem_cons,List.not_mem_nil,or_false] at hk
 rcases hk with rfl | rfl | rfl | rfl | rfl | rfl | rfl<;> rfl
theorem kitT {T:String} (hm:PySem.W.kitMeta T=true) (e:PySem.W.subIn K (.ref C) (.type T)=some b):PySem.W.kitOne K (.ref C) (.type T)=some b:=by
 unfold PySem.W.kitOne
 rw [if_neg (by intro z; have:=beq_iff_eq.mp z; cases this)]
 show (if PySem.W.kitMeta T=true then _ else none)=some b
 rw [if_pos hm]
 exact e
end
def XTab (G:Gc) (P:Addr→Bool→Prop):List (Str×Bool)→Prop
 | []=>True
 | (c,b)::r=>(∃C,G.mg c=some (.ref C)∧P C b)∧XTab G P r
def pick (l:List (Str×Bool)) (c:Str):Option Bool:=l.lookup c
def tm (l:List (Str×Bool)) (c:Str):Bool:=(l.lookup c).isSome
section
variable {G:Gc} {P:Addr→Bool→Prop} {c:Str} {C:Addr} {b:Bool}
theorem XTab.get:∀{l:List (Str×Bool)},XTab G P l→l.lookup c=some b→G.mg c=some (.ref C)→P C b
 | [],_,e,_=>by cases e
 | (c',b')::r,h,e,m=>by
  obtain ⟨⟨C',m',p⟩,t⟩:=h
  by_cases q:c=c'
  ·subst q
   rw [List.lookup_cons_self] at e
   cases e
   rw [m] at m'
   cases m'
   exact p
  ·have q' :(c == c')=false:=by simpa using q
   rw [List.lookup,q'] at e
   exact XTab.get t e m
theorem bO {D:Addr} {l:List (Str×Bool)} (h:XT G.K D) (t:XTab G (fun C b=>XCls G.K C∧PySem.W.subIn G.K (.ref C) (.ref D)=some b) l):IsXOk G (.ref D) (.ref D) (pick l) true:=
 ⟨.own D,fun c b C e m=>let ⟨x,s⟩:=t.get e m; ⟨x.exc,h.kit s⟩,fun _=>h.kd⟩
theorem isX_ty {T:String} {l:List (Str×Bool)} (hm:PySem.W.kitMeta T=true) (hk:(["NoneType","bool","int","str","list","tuple","dict"].all fun k=>kitB k T == some false)=true) (t:XTab G (fun C b=>XCls G.K C∧PySem.W.subIn G.K (.ref C) (.type T)=some b) l):IsXOk G (.ty T) (.type T) (pick l) true:=
 ⟨.ty T,fun c b C e m=>let ⟨x,s⟩:=t.get e m; ⟨x.exc,kitT hm s⟩,fun _ k hk' =>kit_ty (beq_iff_eq.mp (List.all_eq_true.mp hk k hk'))⟩
theorem yZ {D:Addr} {l:List (Str×Bool)} (h:XT G.K D) (t:XTab G (fun C b=>PySem.W.subIn G.K (.ref C) (.ref D)=some b) l):sv G (.ref D) (pick l):=fun c b C e m=>h.exm (t.get e m)
theorem xf_of {f:Str} {l:List (Str×Bool)} (t:XTab G (fun C _=>XCls G.K C∧PySem.W.findIn G.K (.ref C) f=some none) l):XfOk G f (tm l):=fun c C e m=>by
 unfold tm at e
 cases q:l.lookup c with
 | none=>rw [q] at e; cases e
 | some b=>obtain ⟨x,n⟩:=t.get q m; exact ⟨x.xf,n⟩
end
theorem Aa {X:Cx} {W:WX} {x:Str} {C:Addr} {e:Expr} {ta:TE} {p pos pos' :Pos} {K:PySem.W.Frag} {mg:Str→Option Value} (h:X0Z K C) (t:XCls K C) (hm:mg x=some (.ref C)) (hc:X.calm=true) (tk:Takes X W) (he:PE X e ta) (hg:Gl X x)
  (hK:X.K=K:=by rfl) (hM:X.mg=mg:=by rfl) (hs:starEach [e] X.env=(false,eval e X.env)::starEach [] X.env:=by rfl) (hdb:(x == ("__debug__" :Str))=false:=by decide):
  PS X (.Raise (some (.Call (.Name x p) [e] [] pos)) none pos') (fun _ σ H=>ta σ H fun _ H1=>W (.ref C) none σ H1):=by
 subst hK hM
 exact ps_raise hc tk (SkE.pmk_own1 PySem.F.excBase_ValueError h.q hm h.k (raises_own t.b t.ty) hg he hs hdb)
structure DxZ (K:PySem.W.Frag) (mg:Str→Option Value) (x:Str) (C:Addr) (qual:Str) (st:Stmt) (p1 f1:Str):Prop where
 T:OexC K C
 no:PySem.W.findIn K (.ref C) f1=some none
 gC:mg x=some (.ref C)
 ex:∃(fI:Addr) (fd:FuncData),PySem.W.findIn K (.ref C) "__init__" =some (some (.ref fI))∧PySem.W.typeIn K (.ref fI)=some (.type "function")∧L2.Fun K "__init__" qual st fI fd∧L2.Binds K fd ["self",p1] []
theorem DxZ.xi {P:Program} {w:World} {K:PySem.W.Frag} {mg:Str→Option Value} {base:Heap} {x qual p1 f1:Str} {C:Addr} {st:Stmt} {k:Nat} (D:DxZ K mg x C qual st p1 f1) (S:FnScope ["self",p1] ["self",p1] (L2.defScope st))
  (hbody:∀(fI:Addr) (cdv:Value) (A:Around) (outer:List Env) (s:Shared) (H:Hp) (E:XK),PSs (cxOf (L2.CX P w) P w K mg base ["self",p1] qual (L2.defScope st) fI cdv A outer s H E) (L2.defBody st) (tOst K f1 (tVar 0) (tVar 1))):
  XiZ P w K mg base (k+1) x C f1:=by
 obtain ⟨fI,fd,iC,tI,F,b⟩:=D.ex
 exact ⟨D.T,D.no,D.gC,fI,fd,_,iC,tI,xi_ok F S fun cdv A outer s H E _=>hbody fI cdv A outer s H E,b⟩
def tOfZ (G:Gc) (W:WX) (fz:SD→R Fl):TS:=fun D σ H=>∃(E:En) (τ:List V) (s:SD) (θ:List Vl),Nl θ∧Rel G E σ τ H s θ∧Wp (fz s) (FP G E τ θ D) (XP G W E τ θ)
theorem aau {G:Gc} {W:WX} {fz:SD→R Fl}:RS G W (tOfZ G W fz) fz:=fun E _ τ _ s θ _ hN hR hw=>⟨E,τ,s,θ,hN,hR,hw⟩
theorem RS.toZ {G:Gc} {W:WX} {fz:SD→R Fl} {t:TS} (h:RS G W t fz) {D:Ends} {σ:L2.St} {H:Hp} (q:tOfZ G W fz D σ H):t D σ H:=by
 obtain ⟨E,τ,s,θ,hN,hR,hw⟩:=q
 exact h E σ τ H s θ D hN hR hw
theorem ps_tryZ {X:Cx} {x n:Str} {c:Value} {i:Nat} {body suite:List Stmt} {b₀:Stmt} {np pos pos' :Pos} {Wout:WX} {K:PySem.W.Frag} {mg:Str→Option Value} {m:Str→Option Bool} {fb fs:SD→R Fl} (hm:sv ⟨K,mg⟩ c m)
  (hs:X.stack=X.env::X.outer) (hf:X.env.frame=some X.env.locals) (hN:X.N.Nodup) (hi:X.N[i]? =some n) (hl:X.env.kindOf n=some .local) (hc:Names X x c) (tk:Takes X Wout) (hx:X.ex= []) (hK:X.K=K)
  (hb:∀(W:WX) (pn:List (Addr×Obj)) (xe:Value→Shared→Prop),Takes (X.tr pn xe) W→PassesOwn (model X.prog X.w) X.A X.env xe→∃t,PSs (X.tr pn xe) body t∧RS ⟨K,mg⟩ W t fb)
  (hsu:∀(a:Addr) (pn:List (Addr×Obj)),∃t,PSs (X.suite a pn) (b₀::suite) t∧RS ⟨K,mg⟩ WF t fs):
  PS X (.Try body [.ExceptHandler (some (.Name x np)) (some n) (b₀::suite) pos'] [] [] pos) (tOfZ ⟨K,mg⟩ Wout (zTry m i fb fs)):=by
 subst hK
 have P:=vm (np:=np) (pos:=pos) (pos' :=pos') (tb:=fun W=>tOfZ ⟨X.K,mg⟩ W fb) (ts:=tOfZ ⟨X.K,mg⟩ WF fs) hs hf hN hi hl hc tk hx
  (fun W pn xe tk pa=>let ⟨_,p,r⟩:=hb W pn xe tk pa; ⟨fun pins s σ H D I h=>p.run pins s σ H D I (r.toZ h)⟩)
  (fun a pn=>let ⟨_,p,r⟩:=hsu a pn; ⟨fun pins s σ H D I h=>p.run pins s σ H D I (r.toZ h)⟩)
 exact ⟨fun pins s σ H D I h=>P.run pins s σ H D I ((RS.tryK hm (fun _=>aau) aau).toZ h)⟩
noncomputable def tF (a b:Vl) (s:SD):R Vl:=match a,b with
 | .d (.str x), .d (.str y)=>if (y.length == 0)=false∧x.length+2≤sizeLine then .ok (.own (.lst ((Txt.split x y).map .str))) s else .bad
 | _,_=> .bad
def nh (a b:Vl) (s:SD):R Vl:=match a,b with
 | .d (.str x), .d (.str y)=> .ok (.d (.bl (Txt.startswith x y))) s
 | _,_=> .bad
def zTryO (m:Str→Option Bool) (fb fs:SD→R Fl):SD→R Fl:=fun s=>match fb s with
 | .ex c vs s1=>(match m c with
  | some true=>(match fs s1 with
   | .ok fl s2=> .ok fl s2
   | _=> .bad)
  | some false=> .ex c vs s1
  | none=> .bad)
 | r=>r
section
variable {G:Gc} {W:WX} {E:En} {σ:L2.St} {τ:List V} {H:Hp} {s:SD} {θ:List Vl} {v u:V} {a b:Vl} {p:Wr} {Q:VK} {ta tb:TE} {fa fb:SD→R Vl}
theorem p_split:dw G (fun x y H Q=>∃a b,x= .str a∧ [y]= [.str b]∧(b.length == 0)=false∧a.length+2≤sizeLine∧rNewStrs (Txt.split a b) H Q) tF:=by
 intro E σ τ s θ p v u a b Q hl h hw
 unfold tF at hw
 split at hw
 ·obtain ⟨r1,r2⟩:=AL hl h
  obtain ⟨h0,_,_⟩:=eA hl h
  split at hw
  ·rename_i hz
   obtain rfl:v= .str _:=r1
   obtain rfl:u= .str _:=r2
   exact ⟨_,_,rfl,rfl,hz.1,hz.2,fun q hq=>du h0 hl hw hq zd⟩
  ·exact hw.elim
 ·exact hw.elim
theorem CS:dw G (fun x y H Q=>∃a b,x= .str a∧ [y]= [.str b]∧Q (.bl (Txt.startswith a b)) H) nh:=by
 intro E σ τ s θ p v u a b Q hl h hw
 unfold nh at hw
 split at hw
 ·obtain ⟨r1,r2⟩:=AL hl h
  obtain ⟨h0,_,_⟩:=eA hl h
  obtain rfl:v= .str _:=r1
  obtain rfl:u= .str _:=r2
  exact ⟨_,_,rfl,rfl,ba h0 hl hw rfl⟩
 ·exact hw.elim
theorem RE.split (ha:RE G W ta fa) (hb:RE G W tb fb):RE G W (tM1 (fun x xs H Q=>∃a b,x= .str a∧xs= [.str b]∧(b.length == 0)=false∧a.length+2≤sizeLine∧rNewStrs (Txt.split a b) H Q) ta tb) (zM1s tF fa fb):=
 RE.m1 p_split (by intros; unfold tF; (repeat' split)<;> (intro q; cases q)) ha hb
theorem RE.starts (ha:RE G W ta fa) (hb:RE G W tb fb):RE G W (tM1 (fun x xs H Q=>∃a b,x= .str a∧xs= [.str b]∧Q (.bl (Txt.startswith a b)) H) ta tb) (zM1s nh fa fb):=
 RE.m1 CS (by intros; unfold nh; (repeat' split)<;> (intro q; cases q)) ha hb
def rIns:V→List V→Hp→VK→Prop:=fun x vs H Q=>∃(l:Addr) (xs:List V) (i:Int) (y:V),x= .ref l∧vs= [.int i,y]∧H l=some (.lst xs)∧xs.length<sizeLine∧0≤i∧i<2 ^ 63∧Q .non (upd H l (.lst (xs.take i.toNat++ [y]++xs.drop i.toNat)))
noncomputable def fInsert (k:Int) (c z:D):Option (D×D):=match c with
 | .lst ds=>if ds.length<sizeLine∧0≤k∧k<2 ^ 63 then some (.lst (ds.take k.toNat++ [z]++ds.drop k.toNat), .non) else none
 | _=>none
noncomputable def zIns (fo fi fx:SD→R Vl):SD→R Vl:=fun s=>(fo s).bind fun a s1=>if isL s1 a=true then (fi s1).bind fun i s2=>match i with
 | .d (.int k)=>(fx s2).bind fun b s3=>oB2 (fInsert k) a b s3
 | _=> .bad
 else .bad
def fPopAt (c z:D):Option (D×D):=match c,z with
 | .lst ds, .int i=>if -(2 ^ 63)≤i∧i<2 ^ 63 then (match ixN ds.length i with
  | some k=>(match ds[k]? with
   | some t=>some (.lst (ds.eraseIdx k),t)
   | none=>none)
  | none=>none) else none
 | _,_=>none
def zUnp2 (f1 f2:Vl→SD→R Unit) (a:Vl) (s:SD):R Unit:=match s.cont a with
 | some (.tup [d1,d2])=>(f1 (.d d1) s).bind fun _ s1=>f2 (.d d2) s1
 | _=> .bad
theorem RG.two {g1 g2:TG} {f1 f2:Vl→SD→R Unit} (h1:RG G W [] g1 f1) (h2:RG G W [] g2 f2):RG G W [] (gTup G.K 2 (gCons g1 (gCons g2 gNil))) (zUnp2 f1 f2):=by
 intro E σ τ H s θ v a Q hN hR hw
 obtain ⟨p,rfl,hl,h⟩:=hR.unsnoc
 obtain ⟨h0,c,_⟩:=cN hl h
 unfold zUnp2 at hw
 split at hw
 ·rename_i d1 d2 e1
  obtain ⟨b,vs,rfl,hb,r⟩:=(c _ e1).tup
  obtain ⟨v1,r1,rfl,q1,r⟩:=r
  obtain ⟨v2,r2,rfl,q2,r⟩:=r
  obtain rfl:r2= []:=r
  refine ⟨b,[v1,v2],rfl, .of hb,rfl,v1,[v2],rfl, ?_⟩
  have R2:Rel G E σ (τ++ [v2]) p.H s (θ++ [.d d2]):= .snoc (h0.push q2) hl rfl
  have R1:Rel G E σ (τ++ [v2]++ [v1]) p.H s (θ++ [.d d2]++ [.d d1]):=by
   refine .snoc ?_ hl rfl
   rw [List.map_append,List.map_append,←List.append_assoc,←List.append_assoc]
   exact (h0.push q2).push q1
  rw [ae] at hw
  refine h1 E σ (τ++ [v2]) p.H s (θ++ [.d d2]) v1 (.d d1) _ hN.d R1 (hw.mono (fun _ s1 hw σ1 H1 h3 o1=>?_) fun _ _ _ h=>h.up)
  refine ⟨v2,[],rfl, ?_⟩
  exact h2 E σ1 τ H1 s1 θ v2 (.d d2) _ hN h3 (hw.mono (fun _ s2 hw σ2 H2 h4 o2=>⟨rfl,hw σ2 H2 h4 ⟨o2.1.trans o1.1,fun k hk=>(o2.2 k hk).trans (o1.2 k hk)⟩⟩) fun _ _ _ h=>h)
 ·exact hw.elim
end
def mnL:Int→List Int→Int
 | i,[]=>i
 | i,j::is=>mnL (if j<i then j else i) is
theorem mnL_le:∀(is:List Int) (i:Int),mnL i is≤i∧∀j∈is,mnL i is≤j
 | [],i=>⟨Int.le_refl _,fun _ h=>(by cases h)⟩
 | k::is,i=>by
  obtain ⟨h1,h2⟩:=mnL_le is (if k<i then k else i)
  have e:mnL i (k::is)=mnL (if k<i then k else i) is:=rfl
  have h3:(if k<i then k else i)≤i∧(if k<i then k else i)≤k:=by split<;> omega
  refine ⟨by rw [e]; omega,fun j hj=>?_⟩
  rw [e]
  rcases List.mem_cons.mp hj with rfl | hj
  ·omega
  ·exact h2 j hj
theorem mnL_mem:∀(is:List Int) (i:Int),mnL i is=i∨mnL i is∈is
 | [],i=> .inl rfl
 | k::is,i=>by
  have e:mnL i (k::is)=mnL (if k<i then k else i) is:=rfl
  rw [e]
  rcases mnL_mem is (if k<i then k else i) with h | h
  ·rw [h]
   split
   ·exact .inr List.mem_cons_self
   ·exact .inl rfl
  ·exact .inr (List.mem_cons_of_mem _ h)
def tG (a:Vl) (s:SD):R Vl:=match s.cont a with
 | some (.lst ds)=>match lP ds with
  | some (i::is)=> .ok (.d (.int (mnL i is))) s
  | _=> .bad
 | _=> .bad
noncomputable def bT (a b:Vl) (s:SD):R Vl:=match s.cont a,s.cont b with
 | some (.lst ds),some x=>match scs ds,x.sc with
  | some vs,some v=>match vs.findIdx? (fun z=>eqV z v) with
   | some j=> .ok (.d (.int (j:Nat))) s
   | none=> .bad
  | _,_=> .bad
 | _,_=> .bad
section
variable {G:Gc} {W:WX} {E:En} {σ:L2.St} {τ:List V} {H:Hp} {s:SD} {θ:List Vl} {v u:V} {a b:Vl} {p:Wr} {Q:VK} {ta tb:TE} {fa fb:SD→R Vl}
theorem p_minL:jC G (fun v H Q=>rMin G.K [v] H Q) tG:=by
 intro E σ τ s θ p v a Q hl h hw
 obtain ⟨h0,ca,_⟩:=cN hl h
 unfold tG at hw
 split at hw
 ·rename_i e
  split at hw
  ·rename_i i is e1
   obtain ⟨b,vs,rfl,hb,r⟩:=(ca _ e).lst
   obtain rfl:=oh r e1
   refine ⟨b,_,rfl, .of hb,by simp,fun m hm hle=>?_⟩
   have e2:m=mnL i is:=by
    have h1:=mnL_le is i
    have h2:=mnL_mem is i
    have h3:mnL i is≤m:=by
     rcases List.mem_cons.mp hm with rfl | hm
     ·exact h1.1
     ·exact h1.2 m hm
    have h4:m≤mnL i is:=hle _ (by
     rcases h2 with h2 | h2
     ·rw [h2]; exact List.mem_cons_self
     ·exact List.mem_cons_of_mem _ h2)
    omega
   subst e2
   exact ba h0 hl hw rfl
  ·exact hw.elim
 ·exact hw.elim
theorem q_minL:Op1 G (fun v H Q=>rMin G.K [v] H Q) tG:=⟨p_minL,by intros; unfold tG; (repeat' split)<;> (intro q; cases q)⟩
theorem p_index:dw G (fun x y H Q=>rIndex G.K x [y] H Q) bT:=by
 intro E σ τ s θ p v u a b Q hl h hw
 obtain ⟨h0,ca,cb⟩:=eA hl h
 unfold bT at hw
 split at hw
 ·rename_i ds x e1 e2
  split at hw
  ·rename_i vs w e3 e4
   split at hw
   ·rename_i j e5
    obtain ⟨b,us,rfl,hb,r⟩:=(ca _ e1).lst
    obtain rfl:=kB r e3
    have hv:=eC ((cb _ e2).sc (jJ e4)) e4
    subst hv
    obtain ⟨hj,h1,h2⟩:=List.findIdx?_eq_some_iff_getElem.mp e5
    exact ⟨b,us,u,j,us[j],rfl,rfl, .of hb,kD e4,iu e3,List.getElem?_eq_getElem hj,h1,fun m z' hm ez=>by
     obtain ⟨hm2,rfl⟩:=List.getElem?_eq_some_iff.mp ez
     simpa using h2 m hm,ba h0 hl hw rfl⟩
   ·exact hw.elim
  ·exact hw.elim
 ·exact hw.elim
theorem RE.index (ha:RE G W ta fa) (hb:RE G W tb fb):RE G W (tBM G.K "list" (rIndex G.K) ta (tCons tb tNil)) (zM2 isL bT fa fb):=
 RE.bm xq p_index (by intros; unfold bT; (repeat' split)<;> (intro q; cases q)) ha hb
def zUnpL (is:List Nat) (a:Vl) (s:SD):R Unit:=match s.cont a with
 | some (.lst ds)=>if ds.length=is.length then .ok () {s with sl:=cA is ds s.sl} else .bad
 | _=> .bad
end
theorem gX {X:Cx} {K:PySem.W.Frag} {o e:Expr} {apos cpos:Pos} {to te:TE} (ho:PE X o to) (he:PE X e te)
  (hbase:attributeBase o "index" X.env (eval o X.env)=eval o X.env:=by rfl)
  (hfew:((backTo cpos (starEach [e] X.env)).all (fun x=>!x.1)&&(backToKw cpos (keywordEach [] X.env)).all (fun x=>x.1.isSome)
   &&decide (([e]:List Expr).length+([]:List Keyword).length+(if ([]:List Keyword).isEmpty then 0 else 1)<30))=true:=by rfl)
  (hline:(apos.endLine == cpos.line)=true:=by rfl) (hs:starEach [e] X.env=(false,eval e X.env)::starEach [] X.env:=by rfl) (hplain:(backTo cpos (starEach [] X.env)).any (·.1)=false:=by rfl)
  (hK:X.K=K:=by rfl):PE X (.Call (.Attribute o "index" apos) [e] [] cpos) (tBM K "list" (rIndex K) to (tCons te tNil)):=by
 subst hK
 exact pe_bm PySem.F.plainAttrs_list PySem.F.slot_list_index PySem.F.type_list_index mt_index ho (pa_cons he pa_nil hs) hbase hfew hline hs hplain
def spXL (K:PySem.W.Frag) (f:Str):Sp:=fun vs H Q _=>∃(a C:Addr) (v:V),vs= [.ref a,v]∧OexC K C∧PySem.W.findIn K (.ref C) f=some none∧
 pC K [v] H fun u H1=>H1 a=some (exo a C none)∧∀dx,H1 dx=none→dx≠a→Q .non (upd (upd H1 dx (exd dx [(f,u)])) a (exo a C (some dx)))
section
variable {P:Program} {w:World} {K:PySem.W.Frag} {mg:Str→Option Value} {base:Heap}
theorem xi_okL {qual f1 p1:Str} {st:Stmt} {fI:Addr} {fd:FuncData} {k:Nat} (F:L2.Fun K "__init__" qual st fI fd) (S:FnScope ["self",p1] ["self",p1] (L2.defScope st))
  (hbody:∀(cdv:Value) (A:Around) (outer:List Env) (s:Shared) (H:Hp) (E:XK),Room k (A.deeper (envOfC qual (L2.defScope st) s.heap.objs.size fI cdv))→
   PSs (cxOf (L2.CX P w) P w K mg base ["self",p1] qual (L2.defScope st) fI cdv A outer s H E) (L2.defBody st) (tOst K f1 (tVar 0) (tCB (pC K) (tCons (tVar 1) tNil)))):FnOk P w K mg base (L2.CX P w) (k+1) fI fd ["self",p1] (spXL K f1):=
 F.okX S (fun _ _ _ _ h=>by obtain ⟨_,_,_,rfl,_⟩:=h; rfl) fun cdv A outer s H vs Q E hr h=>by
  obtain ⟨a,C,v,rfl,T,no,q⟩:=h
  refine ⟨_,hbody cdv A outer s H E hr,⟨v,rfl, ?_⟩⟩
  rcases q with q | q
  ·obtain ⟨p,ys,e,hs,q⟩:=q
   exact .inl ⟨p,ys,e,hs,fun l hl=>let ⟨h1,h2⟩:=q l hl; ⟨.ref a,rfl,a,C,rfl,T,no, .inl ⟨h1,h2⟩⟩⟩
  ·obtain ⟨p,ys,e,hs,q⟩:=q
   exact .inr ⟨p,ys,e,hs,fun l hl=>let ⟨h1,h2⟩:=q l hl; ⟨.ref a,rfl,a,C,rfl,T,no, .inl ⟨h1,h2⟩⟩⟩
structure XiL (P:Program) (w:World) (K:PySem.W.Frag) (mg:Str→Option Value) (base:Heap) (k:Nat) (x:Str) (C:Addr) (f:Str):Prop where
 T:OexC K C
 no:PySem.W.findIn K (.ref C) f=some none
 gC:mg x=some (.ref C)
 ex:∃(fI:Addr) (fd:FuncData) (ps:List Str),PySem.W.findIn K (.ref C) "__init__" =some (some (.ref fI))∧PySem.W.typeIn K (.ref fI)=some (.type "function")∧FnOk P w K mg base (L2.CX P w) k fI fd ps (spXL K f)∧Binds K fd ps []
theorem DxZ.xiL {x qual p1 f1:Str} {C:Addr} {st:Stmt} {k:Nat} (D:DxZ K mg x C qual st p1 f1) (S:FnScope ["self",p1] ["self",p1] (L2.defScope st))
  (hbody:∀(fI:Addr) (cdv:Value) (A:Around) (outer:List Env) (s:Shared) (H:Hp) (E:XK),PSs (cxOf (L2.CX P w) P w K mg base ["self",p1] qual (L2.defScope st) fI cdv A outer s H E) (L2.defBody st) (tOst K f1 (tVar 0) (tCB (pC K) (tCons (tVar 1) tNil)))):
  XiL P w K mg base (k+1) x C f1:=by
 obtain ⟨fI,fd,iC,tI,F,b⟩:=D.ex
 exact ⟨D.T,D.no,D.gC,fI,fd,_,iC,tI,xi_okL F S fun cdv A outer s H E _=>hbody fI cdv A outer s H E,b⟩
end
def za (K:PySem.W.Frag) (C:Addr) (f:Str) (W:WX) (te:TE):TS:=fun _ σ H=>tMkO C (spXL K f) [] (tCons te tNil) σ H fun cls d H' =>W cls d σ H'
theorem zZ {X:Cx} {x f:Str} {C:Addr} {e:Expr} {te:TE} {k k' :Nat} {p pos pos' :Pos} {W:WX} {P:Program} {w:World} {K:PySem.W.Frag} {mg:Str→Option Value} {base:Heap} (D:XiL P w K mg base k x C f) (hc:X.calm=true) (tk:Takes X W) (hr:Room k' X.A) (hk:k+1≤k') (he:PE X e te) (hg:Gl X x)
  (hP:X.prog=P:=by rfl) (hw:X.w=w:=by rfl) (hK:X.K=K:=by rfl) (hm:X.mg=mg:=by rfl) (hb:X.base=base:=by rfl)
  (hdb:(x == ("__debug__" :Str))=false:=by decide) (hst:starEach [e] X.env=(false,eval e X.env)::starEach [] X.env:=by rfl):
  PS X (.Raise (some (.Call (.Name x p) [e] [] pos)) none pos') (za K C f W te):=by
 subst hP hw hK hm hb
 obtain ⟨fI,fd,ps,iC,tI,F,bd⟩:=D.ex
 refine ps_raise hc tk (pmk_oex D.T iC tI F (hr.mono hk) bd .nil (fun _ _ _ _ _ _ _ z=>?_) hg D.gC (pa_cons he pa_nil (hs:=hst)) hdb hst (by rfl))
 obtain ⟨_,_,_,_,_,_,_,_,_,_,_,_,h⟩:=z
 exact h.elim
def mm (c f:Str) (fa:SD→R Vl):SD→R Fl:=fun s=>(fa s).bind fun a s1=>(s1.fix a).bind fun x s2=>match x with
 | .lst ds=> .ex c [(f, .lst ds)] s2
 | _=> .bad
section
variable {G:Gc} {W:WX} {E:En} {σ:L2.St} {τ:List V} {H:Hp} {s:SD} {θ:List Vl} {v u:V} {a b:Vl} {x y:D} {p:Wr} {Q:VK} {ta tb:TE} {fa fb:SD→R Vl}
theorem xH {H:Hp} {a l dx:Addr} {o1 o2 o3 o4 o5:HO} (ha:H a=none) (hne:dx≠a) (hl:l≠a):upd (L2.del (upd (upd (upd (upd H a o1) l o5) dx o2) a o3) a) dx o4=upd (upd H l o5) dx o4:=by
 funext b
 by_cases h1:b=dx
 ·rw [h1,upd_same,upd_same]
 ·rw [upd_ne h1,upd_ne h1]
  by_cases h2:b=a
  ·rw [h2,L2.del_same,upd_ne (Ne.symm hl),ha]
  ·rw [L2.del_ne h2,upd_ne h2,upd_ne h1]
   by_cases h3:b=l
   ·rw [h3,upd_same,upd_same]
   ·rw [upd_ne h3,upd_ne h2,upd_ne h3]
theorem RS.raiseL {c f:Str} {C:Addr} (hC:G.mg c=some (.ref C)) (T:OexC G.K C) (no:PySem.W.findIn G.K (.ref C) f=some none) (ha:RE G W ta fa):RS G W (za G.K C f W ta) (mm c f fa):=by
 intro E σ τ H s θ D hN hR hw
 refine RE.fix ha E σ τ H s θ _ hN hR ?_
 unfold mm at hw
 unfold aZ wC
 rw [ae] at hw ⊢
 refine hw.mono (fun a s1 hw=>?_) fun _ _ _ h=>h
 rw [ae] at hw ⊢
 refine hw.mono (fun x s2 hw=>?_) fun _ _ _ h=>h
 intro v H1 h1
 obtain ⟨p,rfl,hl,h⟩:=h1.unsnoc
 cases x with
 | lst ds=>
  obtain ⟨w,e,r⟩:=h.ent _ (.d (.lst ds)) af
  rw [←aA h.len,af] at e
  cases e
  obtain ⟨b,vs,rfl,⟨nb,hb⟩,rs⟩:=r
  refine ⟨by show 1≤1000; omega,fun a ha1=>⟨a,C, .ref b,rfl,T,no, .inl ⟨b,vs,rfl, .inl (.of ?_),fun l hl2=>?_⟩⟩⟩
  ·rw [upd_ne (fun q:b=a=>by rw [q,ha1] at hb; cases hb)]
   exact hb
  ·have hla:l≠a:=fun q=>by rw [q,upd_same] at hl2; cases hl2
   have hl1:p.H l=none:=(upd_ne hla).symm.trans hl2
   refine ⟨(upd_ne (Ne.symm hla)).trans upd_same,fun dx hdx hne=>⟨rfl,dx,[(f, .ref l)],upd_same,(upd_ne hne).trans upd_same, ?_, ?_⟩⟩
   ·have hdl:dx≠l:=fun q=>by rw [q,upd_same] at hdx; cases hdx
    exact (upd_ne hne).symm.trans ((upd_ne hdl).symm.trans hdx)
   ·show W (.ref C) (some dx) σ _
    rw [xH ha1 hne hla]
    have hdl:dx≠l:=fun q=>by rw [q,upd_same] at hdx; cases hdx
    have hd2:(upd p.H l (.lst vs)) dx=none:=by
     rw [upd_ne hdl]
     exact (upd_ne hne).symm.trans ((upd_ne hdl).symm.trans hdx)
    have q1:=h.alloc (o:= .lst vs) hl1
    have fr:=h.fresh hl1
    have fr2:=q1.fresh hd2
    have le:=(cE (p:=p) (o:= .lst vs) hl1).trans (cE (p:= {p with H:=upd p.H l (.lst vs)}) (o:= .xd [(f, .ref l)]) hd2)
    refine hw _ _ σ _ ⟨{p with H:=upd (upd p.H l (.lst vs)) dx (.xd [(f, .ref l)])},rfl,hl,(q1.alloc hd2).pop1 (bI hl),C,hC,rfl, .inr ⟨dx,[(f, .ref l)],rfl,upd_same,fr2.2, .ref l,[],rfl,⟨l,vs,rfl,⟨fr.2, ?_⟩,rs.mono le⟩,rfl⟩⟩
    show upd _ _ _ _=_
    rw [upd_ne (Ne.symm hdl)]
    exact upd_same
 | _=>exact hw.elim
def qD (K:PySem.W.Frag):V→List V→Hp→VK→Prop:=fun x xs H Q=>∃(a:Addr) (ys:List V) (y:V),x=V.ref a∧xs= [y]∧SqL K H a ys∧flatV y=true∧ys.all flatV=true∧Q (.int ((ys.countP fun z=>eqV z y:Nat):Int)) H
theorem pL {y:V}:∀{ys:List V} {its:List Value},Vals ys its→ys.all flatV=true→its.countP (eqU y)=ys.countP fun z=>eqV z y
 | _,_, .nil,_=>rfl
 | _,_, .cons h t,f=>by
  rw [List.all_cons,Bool.and_eq_true] at f
  rw [List.countP_cons,List.countP_cons,pL t f.2,eqU_of h f.1]
theorem Ax {X:Cx}:MtR X "list.count" (qD X.K):=by
 intro pins s σ H x xs v us Q I rx rxs h
 obtain ⟨a,ys,y,rfl,rfl,hs,fy,fys,q⟩:=h
 cases rx
 cases rxs with
 | cons ry rt=>
  rename_i uy ut
  cases rt
  obtain ⟨its,rv,⟨⟨cls,dd,data,sl⟩,n,ho,hc,hdn,hd⟩,hlen⟩:=I.list hs
  simp only at hc hd
  subst hc hd
  refine call_meets PySem.F.slot_list_count ⟨_,ho,rfl⟩ PySem.F.entry_list_count (PySem.F.args_list_count_2 _ _)
   (SeqAt.list_countAt a its.toArray n dd sl uy (eqU y)) ⟨ho,fun u' hu' =>mem_eqAt ry fy rv fys u' (by simpa using hu'), ?_⟩
  rw [show its.toArray.toList=its from rfl,pL rv fys]
  exact ⟨.int _,H,I.tok _,⟨_,rfl⟩,q⟩
theorem Dr {X:Cx} {K:PySem.W.Frag} {o e:Expr} {apos cpos:Pos} {to te:TE} (ho:PE X o to) (he:PE X e te)
  (hbase:attributeBase o "count" X.env (eval o X.env)=eval o X.env:=by rfl)
  (hfew:((backTo cpos (starEach [e] X.env)).all (fun x=>!x.1)&&(backToKw cpos (keywordEach [] X.env)).all (fun x=>x.1.isSome)
   &&decide (([e]:List Expr).length+([]:List Keyword).length+(if ([]:List Keyword).isEmpty then 0 else 1)<30))=true:=by rfl)
  (hline:(apos.endLine == cpos.line)=true:=by rfl) (hs:starEach [e] X.env=(false,eval e X.env)::starEach [] X.env:=by rfl) (hplain:(backTo cpos (starEach [] X.env)).any (·.1)=false:=by rfl)
  (hK:X.K=K:=by rfl):PE X (.Call (.Attribute o "count" apos) [e] [] cpos) (tBM K "list" (qD K) to (tCons te tNil)):=by
 subst hK
 exact pe_bm PySem.F.plainAttrs_list PySem.F.slot_list_count PySem.F.type_list_count Ax ho (pa_cons he pa_nil hs) hbase hfew hline hs hplain
noncomputable def jo (a b:Vl) (s:SD):R Vl:=match s.cont a,s.cont b with
 | some (.lst ds),some x=>match scs ds,x.sc with
  | some vs,some v=> .ok (.d (.int ((vs.countP fun z=>eqV z v:Nat):Int))) s
  | _,_=> .bad
 | _,_=> .bad
theorem CU:dw G (fun x y H Q=>qD G.K x [y] H Q) jo:=by
 intro E σ τ s θ p v u a b Q hl h hw
 obtain ⟨h0,ca,cb⟩:=eA hl h
 unfold jo at hw
 split at hw
 ·rename_i ds x e1 e2
  split at hw
  ·rename_i vs w e3 e4
   obtain ⟨b,us,rfl,hb,r⟩:=(ca _ e1).lst
   obtain rfl:=kB r e3
   have hv:=eC ((cb _ e2).sc (jJ e4)) e4
   subst hv
   exact ⟨b,us,u,rfl,rfl, .of hb,kD e4,iu e3,ba h0 hl hw rfl⟩
  ·exact hw.elim
 ·exact hw.elim
theorem RE.countV (ha:RE G W ta fa) (hb:RE G W tb fb):RE G W (tBM G.K "list" (qD G.K) ta (tCons tb tNil)) (zM2 isL jo fa fb):=
 RE.bm xq CU (by intros; unfold jo; (repeat' split)<;> (intro q; cases q)) ha hb
def zPV (k:Nat) (fv:SD→R Vl) (fp:SD→R (List (Key×D))):SD→R (List (Key×D)):=fun s=>match s.sl[k]? with
 | some (some (.d x))=>match x.key with
  | some kk=>zP kk fv fp s
  | none=> .bad
 | _=> .bad
end
def zRaiseC (c f:Str) (fa:SD→R Vl):SD→R Fl:=fun s=>(fa s).bind fun a s1=>(s1.fix a).bind fun x s2=>match x with
 | .lst ds=> .ex c [(f, .cell s2.st.nx)] {s2 with st:=s2.st.new (.lst ds)}
 | _=> .bad
section

end
end Z

namespace M
open PySem PySem.Spec PyProof.Rows L2
section

end
end M
namespace Z
open PySem PySem.Spec PyProof.Rows L2 M
open Classical
def tHeldL (C:Addr) (sp:Sp) (ta:TA):TE:=fun σ H Q=>tMkO C sp [] ta σ H fun cls d H' =>∀a,H' a=none→Q (.ref a) (upd H' a (M.kxO cls d a))
def zHeldL (c f:Str) (fa:SD→R Vl):SD→R Vl:=fun s=>(fa s).bind fun a s1=>(s1.fix a).bind fun x s2=>match s2.cont (.d x) with
 | some (.lst ds)=> .ok (.d (.exc c [(f, .lst ds)])) s2
 | _=> .bad
section

end
structure YT (K:PySem.W.Frag) (C:Addr):Prop where
 hd:PySem.W.hasDictIn K C=true
 ty:PySem.W.typeIn K (.ref C)=some (.type "type")
 me:PySem.W.subIn K (.ref C) (.ref C)=some true
section
variable {K:PySem.W.Frag} {D:Addr} {b:Bool}
theorem YT.kit {t:Value} (h:YT K D) (e:PySem.W.subIn K t (.ref D)=some b):PySem.W.kitOne K t (.ref D)=some b:=by
 have hc:(PySem.W.clsIn K D).isSome=true:=by
  have q:=h.hd
  unfold PySem.W.hasDictIn at q
  cases e:PySem.W.clsIn K D with
  | none=>rw [e] at q; cases q
  | some _=>rfl
 unfold PySem.W.kitOne
 by_cases c:(t == .ref D)=true
 ·rw [if_pos c]
  have c' :=beq_iff_eq.mp c
  subst c'
  exact h.me.symm.trans e
 ·rw [if_neg c]
  show (if ((PySem.W.clsIn K D).isSome&&PySem.W.typeIn K (.ref D) == some (.type "type"))=true then PySem.W.subIn K t (.ref D) else none)=some b
  rw [if_pos (by rw [hc,h.ty]; rfl)]
  exact e
theorem YT.kd (h:YT K D):∀k∈ ["NoneType","bool","int","str","list","tuple","dict"],PySem.W.kitOne K (.type k) (.ref D)=some false:=by
 intro k hk
 refine h.kit ?_
 simp only [List.mem_cons,List.not_mem_nil,or_false] at hk
 rcases hk with rfl | rfl | rfl | rfl | rfl | rfl | rfl<;> rfl
end
noncomputable def oIsU (mX mC:Str→Option Bool) (a:Vl) (s:SD):R Vl:=match s.cont a with
 | some (.exc c _)=>(match mX c with
  | some b=> .ok (.d (.bl b)) s
  | none=> .bad)
 | some (.obj c _)=>(match mC c with
  | some b=> .ok (.d (.bl b)) s
  | none=> .bad)
 | some x=>(match x.knd with
  | some _=> .ok (.d (.bl false)) s
  | none=> .bad)
 | none=> .bad
section

end
section
variable {X:Cx} {K:PySem.W.Frag}
def rLenU (K:PySem.W.Frag):List V→Hp→VK→Prop:=fun xs H Q=>CN K xs H Q∨∃(a:Addr) (n:Nat),xs= [.ref a]∧H a=some (uz n a)∧Q (.int (n:Int)) H
theorem cl_lenU (hK:X.K=K:=by rfl):CallR X (.builtin "len") (rLenU K):=CallR.or (bx hK) Dl
def zU (K:PySem.W.Frag):List V→Hp→VK→Prop:=fun xs H Q=>∃(a:Addr) (ps:List Addr) (kvs:List (Option Int×V)),xs= [.ref a]∧SqL K H a (ps.map V.ref)∧Paired (fun p kv=>SqT K H p [kOd kv.1,kv.2]) ps kvs∧(kvs.map (·.1)).Nodup∧
  ∀p,H p=none→Q (.ref p) (upd H p (uz kvs.length p))
theorem DS (hcalm:X.calm=true) (hK:X.K=K:=by rfl):CallR X (.type "dict") (zU K):=hK ▸ AE hcalm
def zQ (K:PySem.W.Frag):List V→Hp→VK→Prop:=fun xs H Q=>rIsi K xs H Q∨∃(a:Addr) (n:Nat),xs= [.ref a, .ty "dict"]∧H a=some (uz n a)∧Q (.bl true) H
theorem Dq:CallR X (.builtin "isinstance") (fun xs H Q=>∃(a:Addr) (n:Nat),xs= [.ref a, .ty "dict"]∧H a=some (uz n a)∧Q (.bl true) H):=by
 intro pins s σ H xs us Q I r h
 obtain ⟨a,n,rfl,ho,q⟩:=h
 obtain ⟨u1,u2,rfl,r1,r2⟩:=vals2 r
 cases (show u1=Value.ref a from r1)
 have e2:=(ClsV.ty "dict").eq r2
 subst e2
 obtain ⟨⟨_,kvs,h3,hd⟩,_⟩:=I.hok a _ ho
 obtain ⟨o,es,ep,h1,h2,_⟩:=hd X.prog X.w
 exact PySem.W.kia_one PySem.W.kitx_dict I.kIn ⟨o,h1,h2.1⟩ (kit_ty (by decide+kernel)) (fun z=>nomatch z) fun tk=>⟨.bl true,H,I.tok tk,rfl,q⟩
def rNeU (K:PySem.W.Frag):R2:=fun x y H Q=>rNeZ K x y H Q∨∃(a b p:Addr) (z:Str),x= .ref a∧y= .ref b∧SqT K H a [.str z, .ref p]∧SqT K H b [.str z, .ref p]∧Q (.bl false) H
theorem op_neTD (hu:X.A.units+64<cLine) (hK:X.K=K:=by rfl):OpR X (compareOp .NotEq) (fun x y H Q=>∃(a b p:Addr) (z:Str),x= .ref a∧y= .ref b∧SqT K H a [.str z, .ref p]∧SqT K H b [.str z, .ref p]∧Q (.bl false) H):=by
 subst hK
 intro pins s σ H x y v u Q I rx ry h
 obtain ⟨a,b,p,z,rfl,rfl,ha,hb,hQ⟩:=h
 obtain rfl:v=Value.ref a:=rx
 obtain rfl:u=Value.ref b:=ry
 obtain ⟨its,rv,pl,_⟩:=I.tuple ha
 obtain ⟨its',rv',pl',_⟩:=I.tuple hb
 obtain ⟨u1,u2,rfl,r1,r2⟩:=vals2 rv
 obtain ⟨w1,w2,rfl,q1,q2⟩:=vals2 rv'
 cases (show u2=Value.ref p from r2)
 cases (show w2=Value.ref p from q2)
 obtain ⟨t1,rfl⟩:∃t,u1= .str z t:=r1
 obtain ⟨t2,rfl⟩:∃t,w1= .str z t:=q1
 have n:=SeqAt.RcNeAt.tuples (A:=X.A) (e:=fun _=>true) pl pl' (by omega) (fun j h1 h2=>by
  match j with
  | 0=>
   have:=SeqAt.EqAt.str_str (A:=X.A.in1) (s:=s) z t1 z t2
   rw [beq_self_eq_true] at this
   exact this
  | 1=>exact SeqAt.EqAt.same _
  | j+2=>exact absurd h1 (by simp))
 exact n X.prog X.w _ _ ⟨.bl false,H,I,rfl,hQ⟩
theorem op_neU (hu:X.A.units+64<cLine) (hK:X.K=K:=by rfl):OpR X (compareOp .NotEq) (rNeU K):=OpR.or (op_neZ hu hK) (op_neTD hu hK)
theorem m_isiDu (hK:X.K=K:=by rfl):CallR X (.builtin "isinstance") (zQ K):=CallR.or (vy hK) Dq
end
section
variable {G:Gc} {W:WX} {E:En} {s s' :SD} {p:Wr} {a b:Vl} {x:D} {v:V}
theorem Cont.odd {n:Nat} (h:Cont G p (.odd n) v):∃b,v= .ref b∧p.H b=some (uz n b):=let ⟨b,e,_,h⟩:=h.sc rfl; ⟨b,e,h⟩
noncomputable def xS (a:Vl) (s:SD):R Vl:=match s.cont a with
 | some (.odd n)=> .ok (.d (.int (n:Int))) s
 | _=>jn a s
def xU (a:Vl) (s:SD):R Vl:=match s.cont a with
 | some (.odd _)=> .ok (.d (.bl true)) s
 | _=>xT .dict a s
noncomputable def Dc (s:SD) (f:R Vl):Option D→Option D→R Vl
 | some (.tup [.str z, .cell i]),some (.tup [.str z', .cell j])=>if z=z'∧i=j then .ok (.d (.bl false)) s else .bad
 | _,_=>f
noncomputable def An (a b:Vl) (s:SD):R Vl:=Dc s (oNe a b s) (s.cont a) (s.cont b)
theorem sd_rep {z:Str} {i:Nat} (h:Cont G p (.tup [.str z, .cell i]) v):∃b,v= .ref b∧p.H b=some (.tup [.str z, .ref (p.γ i)]):=by
 obtain ⟨b,vs,rfl,hb,v1,r1,rfl,e1,v2,r2,rfl,e2,rfl⟩:=h.tup
 obtain ⟨_,rfl⟩:=e2
 obtain rfl:v1= .str z:=e1
 exact ⟨b,rfl,hb⟩
theorem q_neU:Op2 G (rNeU G.K) An:=by
 refine ⟨fun E σ τ s θ p v u a b Q hl h hw=>?_, ?_⟩
 ·obtain ⟨h0,ca,cb⟩:=eA hl h
  unfold An Dc at hw
  split at hw
  ·rename_i e1 e2
   split at hw
   ·rename_i e3
    obtain ⟨rfl,rfl⟩:=e3
    obtain ⟨b,rfl,h1⟩:=sd_rep (ca _ e1)
    obtain ⟨b',rfl,h1'⟩:=sd_rep (cb _ e2)
    exact .inr ⟨b,b',_,_,rfl,rfl, .of h1, .of h1',ba h0 hl hw rfl⟩
   ·exact hw.elim
  ·exact .inl (q_ne.1 E σ τ s θ p v u a b Q hl h hw)
 ·intro a b s c fs s'
  unfold An Dc
  split
  ·split<;> (intro q; cases q)
  ·exact (q_ne (G:=G)).2 a b s c fs s'
def okey:D→Option (Option Int)
 | .int i=>some (some i)
 | .non=>some none
 | _=>none
theorem C0 {k:Option Int} (h:Rep G p x v) (e:okey x=some k):v=kOd k:=by
 cases x with
 | int i=>cases e; exact h
 | non=>cases e; exact h
 | _=>cases e
def lD:List D→Option (List (Option Int))
 | []=>some []
 | .tup [k,_]::ds=>match okey k,lD ds with
  | some k,some r=>some (k::r)
  | _,_=>none
 | _=>none
theorem pF:∀{ds:List D} {vs:List V} {ks:List (Option Int)},Reps G p ds vs→lD ds=some ks→∃(ps:List Addr) (kvs:List (Option Int×V)),vs=ps.map V.ref∧kvs.map (·.1)=ks∧Paired (fun q kv=>SqT G.K p.H q [kOd kv.1,kv.2]) ps kvs
 | [],vs,ks,h,e=>by
  cases e
  rw [show vs= [] from h]
  exact ⟨[],[],rfl,rfl, .nil⟩
 | d::ds,vs,ks,h,e=>by
  obtain ⟨v,r,rfl,h1,h2⟩:=h
  unfold lD at e
  split at e
  ·rename_i heq
   cases heq
  ·rename_i kd d' ds' heq
   cases heq
   split at e
   ·rename_i k r' e1 e2
    cases e
    obtain ⟨ps,kvs,rfl,h3,h4⟩:=pF h2 e2
    obtain ⟨a,vs,rfl,⟨_,hh⟩,rr⟩:=h1
    obtain ⟨v1,r1,rfl,q1,v2,r2,rfl,q2,rfl⟩:=rr
    obtain rfl:=C0 q1 e1
    exact ⟨a::ps,(k,v2)::kvs,rfl,by rw [List.map_cons,h3], .cons (.of hh) h4⟩
   ·cases e
  ·cases e
noncomputable def nj (a:Vl) (s:SD):R Vl:=match s.cont a with
 | some (.lst ds)=>match lD ds with
  | some ks=>if ks.Nodup then .ok (.d (.odd ks.length)) s else .bad
  | none=> .bad
 | _=> .bad
theorem p_dictU:jC G (fun v H Q=>zU G.K [v] H Q) nj:=by
 intro E σ τ s θ p v a Q hl h hw
 obtain ⟨h0,ca,_⟩:=cN hl h
 unfold nj at hw
 split at hw
 ·rename_i e
  split at hw
  ·rename_i e1
   split at hw
   ·rename_i nd
    obtain ⟨b,vs,rfl,hb,r⟩:=(ca _ e).lst
    obtain ⟨ps,kvs,rfl,r1,r2⟩:=pF r e1
    subst r1
    refine ⟨b,ps,kvs,rfl, .of hb,r2,nd,fun l hn=>?_⟩
    refine hw _ _ (.snoc ((h0.alloc hn).push (x:= .odd _) ⟨l,rfl,(h0.fresh hn).2, ?_⟩) hl rfl)
    rw [List.length_map]
    exact upd_same
   ·exact hw.elim
  ·exact hw.elim
 ·exact hw.elim
theorem q_dictU:Op1 G (fun v H Q=>zU G.K [v] H Q) nj:=⟨p_dictU,by intros; unfold nj; (repeat' split)<;> (intro q; cases q)⟩
theorem q_lenU:Op1 G (fun v H Q=>rLenU G.K [v] H Q) xS:=by
 refine ⟨fun E σ τ s θ p v a Q hl h hw=>?_, ?_⟩
 ·obtain ⟨h0,ca,_⟩:=cN hl h
  unfold xS at hw
  split at hw
  ·rename_i e
   obtain ⟨b,rfl,hb⟩:=(ca _ e).odd
   exact .inr ⟨b,_,rfl,hb,ba h0 hl hw rfl⟩
  ·exact .inl (q_len.1 E σ τ s θ p v a Q hl h hw)
 ·intro a s c fs s'
  unfold xS
  split
  ·intro q; cases q
  ·exact (q_len (G:=G)).2 a s c fs s'
theorem RE.isDu {ta:TE} {fa:SD→R Vl} (ha:RE G W ta fa):RE G W (tCB (zQ G.K) (tCons ta (tCons (tC (.ty "dict")) tNil))) (z1 xU fa):=by
 refine RE.op1 (r:=fun v H Q=>zQ G.K [v, .ty "dict"] H Q) ?_ ?_ ha
 ·intro E σ τ s θ p v a Q hl h hw
  obtain ⟨h0,ca,_⟩:=cN hl h
  unfold xU xT at hw
  split at hw
  ·rename_i e
   obtain ⟨b,rfl,hb⟩:=(ca _ e).odd
   exact .inr ⟨b,_,rfl,hb,ba h0 hl hw rfl⟩
  ·split at hw
   ·rename_i x e
    split at hw
    ·rename_i k e1
     exact .inl ⟨v, .ty "dict", .type k, .type "dict",isT .dict x,rfl, .ty _,AM (ca _ e) e1,kit_ty (knd_is .dict e1),ba h0 hl hw rfl⟩
    ·exact hw.elim
   ·exact hw.elim
 ·intro a s c fs s'
  unfold xU xT
  (repeat' split)<;> (intro q; cases q)
end
noncomputable def gU (a:Vl) (s:SD):R Vl:=match a with
 | .d (.cell i)=>match s.st.get i with
  | some (.dct ks)=> .ok (.own (.lst (ks.map fun kv=> .tup [lX kv.1,kv.2]))) s
  | _=> .bad
 | _=> .bad
section
variable {G:Gc} {W:WX} {E:En} {σ:L2.St} {τ:List V} {H:Hp} {s:SD} {θ:List Vl} {v u:V} {a b:Vl} {p:Wr} {Q:VK} {ta:TE} {fa:SD→R Vl}
theorem DL {ds:List D} {vs:List V} {l:Addr} {H' :Hp} (h:Sm G E s.sl.length p (σ++τ.map some) (s.sl++θ.map some) s.st) (hl:σ.length=s.sl.length) (hq:∀u H',Rel G E σ (τ++ [u]) H' s (θ++ [.own (.lst ds)])→Q u H')
  (hk:∀b o,p.H b=some o→H' b=some o) (hn:p.H l=none) (he:H' l=some (.lst vs)) (r:∀q:Wr,p.le q→q.O=(fun b=>p.O b∨b=l)→q.H=H'→Reps G q ds vs):Q (.ref l) H' :=by
 have hk0:∀b o,p.H b=some o→(fun b=>if b=l then none else H' b) b=some o:=fun b o e=>by
  have hb:b≠l:=fun q=>by rw [q,hn] at e; cases e
  show (if b=l then none else H' b)=_
  rw [if_neg hb]
  exact hk b o e
 have le0:p.le {p with H:=fun b=>if b=l then none else H' b}:=⟨fun _ _=>rfl,Nat.le_refl _,fun b o n e=>⟨.inl (hk0 b o e),n⟩⟩
 have h0:Sm G E s.sl.length {p with H:=fun b=>if b=l then none else H' b} (σ++τ.map some) (s.sl++θ.map some) s.st:=h.step le0 rfl rfl rfl hk0
 have n0:({p with H:=fun b=>if b=l then none else H' b}:Wr).H l=none:=if_pos rfl
 have eH:upd (fun b=>if b=l then none else H' b) l (.lst vs)=H' :=by
  funext b
  by_cases hb:b=l
  ·rw [hb,upd_same,he]
  ·rw [upd_ne hb,if_neg hb]
 have l1:=le0.trans (gZ (o:= .lst vs) n0)
 have r1:=r _ l1 rfl (by exact eH)
 have:=hq (.ref l) (upd (fun b=>if b=l then none else H' b) l (.lst vs)) (.snoc (h0.allocOwn (o:= .lst vs) n0 ⟨vs,upd_same,r1⟩) hl rfl)
 rw [eH] at this
 exact this
theorem pI {H' :Hp} {l:Addr} {q:Wr} (lq:p.le q) (hO:q.O=fun b=>p.O b∨b=l) (hH:q.H=H'):∀{ks:List (Key×D)} {vs:List (Key×V)} {ts:List Addr},RepK G p ks vs→Paired (fun (t:Addr) (q:Key×V)=>H' t=some (.tup [kV q.1,q.2])) ts vs→(∀t∈ts,¬p.O t)→l∉ts→
  Reps G q (ks.map fun kv=> .tup [lX kv.1,kv.2]) (ts.map V.ref)
 | [],vs,ts,h,pr,_,_=>by
  cases h
  cases pr
  rfl
 | (k,d)::ks,vs,ts,h,pr,hn,hl=>by
  obtain ⟨v,r,rfl,h1,h2⟩:=h
  cases pr with
  | @cons t _ ts _ e pr=>
   refine ⟨.ref t,ts.map V.ref,rfl,⟨t,[kV k,v],rfl,⟨?_,by rw [hH]; exact e⟩,⟨_,_,rfl,jV,⟨_,_,rfl,h1.mono lq,rfl⟩⟩⟩,pI lq hO hH h2 pr (fun t ht=>hn t (List.mem_cons_of_mem _ ht)) fun hm=>hl (List.mem_cons_of_mem _ hm)⟩
   rw [hO]
   rintro (q | q)
   ·exact hn t (List.mem_cons_self ..) q
   ·exact hl (q ▸ List.mem_cons_self ..)
theorem Ae:jC G (fun v H Q=>LiI.rItemsL v H Q) gU:=by
 intro E σ τ s θ p v a Q hl h hw
 obtain ⟨h0,ca,r⟩:=cN hl h
 unfold gU at hw
 split at hw
 ·rename_i i
  split at hw
  ·rename_i ks e
   obtain ⟨_,rfl⟩:=(show Rep G p (.cell i) v from r)
   obtain ⟨vs,hb,rk⟩:=(h0.cel i _ e).2
   refine ⟨p.γ i,vs,rfl,hb,fun H' l ts hk hn hts hlt he pr=>?_⟩
   exact DL h0 hl hw hk hn he fun q lq hO hH=>pI lq hO hH rk pr (fun t ht=>(h0.fresh (hts t ht)).2) hlt
  ·exact hw.elim
 ·exact hw.elim
theorem q_items:Op1 G (fun v H Q=>LiI.rItemsL v H Q) gU:=⟨Ae,by intros; unfold gU; (repeat' split)<;> (intro q; cases q)⟩
theorem aao (ha:RE G W ta fa):RE G W (LiI.tListItems ta) (z1 gU fa):=show RE G W (fun σ H Q=>ta σ H fun x H1=>LiI.rItemsL x H1 Q) _ from RE.op1 (r:=LiI.rItemsL) Ae (q_items (G:=G)).nx ha
end
end Z

namespace Z
open PySem PySem.Spec PyProof.Rows L2 M
section
variable {X:Cx} {N ps:List Str} {sc:Scope} {j:Nat} {a b e:Expr} {es:List Expr} {ta tb te:TE} {x:Str} {pos pos' p:Pos} {t:TA} {r:List V→Hp→VK→Prop}
theorem ixY (K:PySem.W.Frag) (hr:Room j X.A) (ha:PE X a ta) (hb:PE X b tb) (hs:PlainIx b:=by exact fun _ _=>rfl) (hK:X.K=K:=by rfl):PE X (.Subscript a b pos) (tOp (rIxZ K) ta tb):=pe_ix (ix_Z hr.units hK) ha hb hs
theorem eqY (K:PySem.W.Frag) (hr:Room j X.A) (hK:X.K=K:=by rfl):OpR X (compareOp .Eq) (rEqZ K):=op_eqZ hr.units hK
theorem neY (K:PySem.W.Frag) (hr:Room j X.A) (hK:X.K=K:=by rfl):OpR X (compareOp .NotEq) (rNeZ K):=op_neZ hr.units hK
theorem inY (K:PySem.W.Frag) (hr:Room j X.A) (hK:X.K=K:=by rfl):OpR X (compareOp .In) (rInZ K false):=op_inZ hr.units hK
theorem niY (K:PySem.W.Frag) (hr:Room j X.A) (hK:X.K=K:=by rfl):OpR X (compareOp .NotIn) (rInZ K true):=Af hr.units hK
theorem fdY (K:PySem.W.Frag) {f:Str} (he:PE X e te) (hb:attributeBase e f X.env (eval e X.env)=eval e X.env:=by rfl) (hK:X.K=K:=by rfl):PE X (.Attribute e f pos) (tFld K te f):=m_fldZ he hb hK
theorem cmY {op:CmpOp} {r:R2} (ho:OpR X (compareOp op) r) (ha:PE X a ta) (hb:PE X b tb) (hm:behindInMarks op b=false:=by first | exact nomark _ | rfl):PE X (.Compare a [op] [b] pos) (tOp r ta tb):=pe_cmpR ho ha hb hm
theorem ctY {op:CmpOp} {r:R2} (ho:OpR X (compareOp op) r) (ha:PE X a ta) (hb:PE X b tb) (hm:behindInMarks op b=false:=by first | exact nomark _ | rfl):PT X (.Compare a [op] [b] pos) (tTest (tOp r ta tb)):=pt_cmpR ho ha hb hm
theorem stY (i:Nat) (S:FnScope N ps sc) (he:PE X e te) (hN:X.N=N:=by rfl) (hi:X.N[i]? =some x:=by rfl) (hx:Loc X.env.scope x:=by first | exact Or.inl rfl | exact Or.inr rfl) (hs:swapsWith e (some (.Name x pos')) pos.line X.env=pure false:=by rfl)
  (hf:X.fn x=true∨X.env.scope.names.lookup x=some .local:=by first | exact .inl rfl | exact .inr rfl | assumption):PS X (.Assign [.Name x pos'] e pos) (tAsg te (gName i)):=ps_set (i:=i) (hN ▸ S.nd) hi hx he hs hf
theorem gnY (i:Nat) (S:FnScope N ps sc) (hN:X.N=N:=by rfl) (hi:X.N[i]? =some x:=by rfl) (hx:Loc X.env.scope x:=by first | exact Or.inl rfl | exact Or.inr rfl)
  (hf:X.fn x=true∨X.env.scope.names.lookup x=some .local:=by first | exact .inl rfl | exact .inr rfl | assumption):PG X (.Name x pos) (gName i):=pg_name (i:=i) (hN ▸ S.nd) hi hx hf
section
variable {W:WX} {k n:Nat} {C:Addr} {F:FnV} {dvs:List V} {K:PySem.W.Frag} {mg:Str→Option Value}
theorem clY (c:CalZ X.prog X.w K mg X.base k x n F dvs) (hr:Room j X.A) (tk:Takes X W) (ha:PA X (e::es) t) (hk:k≤j:=by decide) (hg:Gl X x:=by exact rfl)
  (hdb:(x == ("__debug__" :Str))=false:=by decide) (he:starEach (e::es) X.env=(false,eval e X.env)::starEach es X.env:=by rfl) (hpl:(backTo pos (starEach es X.env)).any (·.1)=false:=by rfl) (hK:X.K=K:=by rfl) (hM:X.mg=mg:=by rfl):
  PE X (.Call (.Name x p) (e::es) [] pos) (tCallSD (spF ⟨K,mg⟩ n F) dvs (WE W) t):=m_cK c hr hk tk hg ha hdb he hpl hK hM
theorem mkY (c:MakZ X.prog X.w K mg X.base k x C n F dvs) (hr:Room j X.A) (tk:Takes X W) (ha:PA X (e::es) t) (hk:k+1≤j:=by decide) (hg:Gl X x:=by exact rfl)
  (hdb:(x == ("__debug__" :Str))=false:=by decide) (he:starEach (e::es) X.env=(false,eval e X.env)::starEach es X.env:=by rfl) (hpl:(backTo pos (starEach es X.env)).any (·.1)=false:=by rfl) (hK:X.K=K:=by rfl) (hM:X.mg=mg:=by rfl):
  PE X (.Call (.Name x p) (e::es) [] pos) (uO C (spF ⟨K,mg⟩ n F) dvs (WE W) t):=m_mkK c hr hk tk hg ha hdb he hpl hK hM
end
theorem bnY {id:String} (hc:CallR X (.builtin id) r) (hm:X.mg x=none) (ha:PA X (e::es) t) (hg:Gl X x:=by exact rfl) (hv:bootBuiltins x=some (.builtin id):=by decide+kernel) (hn:x≠ "__name__" :=by decide) (hdb:(x == ("__debug__" :Str))=false:=by decide)
  (he:starEach (e::es) X.env=(false,eval e X.env)::starEach es X.env:=by rfl) (hpl:(backTo pos (starEach es X.env)).any (·.1)=false:=by rfl):PE X (.Call (.Name x p) (e::es) [] pos) (tCB r t):=pe_callB hc hg hm hv ha hn hdb he hpl
theorem tyY {T:String} (hc:CallR X (.type T) r) (hm:X.mg x=none) (ha:PA X (e::es) t) (hg:Gl X x:=by exact rfl) (hv:bootBuiltins x=some (.type T):=by decide+kernel) (hn:x≠ "__name__" :=by decide) (hdb:(x == ("__debug__" :Str))=false:=by decide)
  (he:starEach (e::es) X.env=(false,eval e X.env)::starEach es X.env:=by rfl) (hpl:(backTo pos (starEach es X.env)).any (·.1)=false:=by rfl):PE X (.Call (.Name x p) (e::es) [] pos) (tCB r t):=pe_callTy hc hg hm hv ha hn hdb he hpl
theorem btY (s:String) (hm:X.mg x=none) (hg:Gl X x:=by exact rfl) (hv:bootBuiltins x=some (.type s):=by decide+kernel) (hn:x≠ "__name__" :=by decide) (hd:(x == ("__debug__" :Str))=false:=by decide):PE X (.Name x pos) (tC (.ty s)):=pe_bltn (v:= .ty s) hg hm hv rfl hn hd
theorem glY {C:Addr} (hm:X.mg x=some (.ref C)) (hg:Gl X x:=by exact rfl) (hd:(x == ("__debug__" :Str))=false:=by decide):PE X (.Name x pos) (tC (.ref C)):=pe_glob (v:= .ref C) hg hm rfl hd
section
variable {elt tg iter:Expr} {ifs:List Expr} {scope:Scope} {spos py:Pos} {wi:TI} {g:TG} {tt:TT} {y:Str}
theorem lcY (own:List (Str×Nat)) (S:FnScope N ps sc) (hi:PI X tg iter wi)
  (hg:∀{s:Shared} {H:Hp} {C:Addr} {cl:List (Str×Addr)} {fp:List Addr},PG (X.blk s H scope (compEnvC scope cl C X.env) fp) tg g) (ht:∀{s:Shared} {H:Hp} {C:Addr} {cl:List (Str×Addr)} {fp:List Addr},PTs (X.blk s H scope (compEnvC scope cl C X.env) fp) ifs tt)
  (he:∀{s:Shared} {H:Hp} {C:Addr} {cl:List (Str×Addr)} {fp:List Addr},PE (X.blk s H scope (compEnvC scope cl C X.env) fp) elt te) (ok:blkC N sc scope own=true:=by decide+kernel) (hc:X.calm=true:=by rfl) (hN:X.N=N:=by rfl) (hsc:X.env.scope=sc:=by rfl)
  (hs:∀x,foldedSetIterable iter X.env x=pure x:=by intro _; rfl):PE X (.ListComp elt [⟨tg,iter,ifs,0⟩] scope pos) (tLc wi g tt te (own.map (·.2))):=
 pe_lc hc (hN ▸ S.nd) hi (by rw [hN,hsc]; exact blkOk_by ok) (fun _ _ _ _ _=>hg) (fun _ _ _ _ _=>ht) (fun _ _ _ _ _=>he) hs
theorem slY (i:Nat) (own:List (Str×Nat)) (S:FnScope N ps sc) (hi:PI X tg iter wi)
  (hg:∀{s:Shared} {H:Hp} {C:Addr} {cl:List (Str×Addr)} {fp:List Addr},PG (X.blk s H scope (compEnvC scope cl C X.env) fp) tg g) (ht:∀{s:Shared} {H:Hp} {C:Addr} {cl:List (Str×Addr)} {fp:List Addr},PTs (X.blk s H scope (compEnvC scope cl C X.env) fp) ifs tt)
  (he:∀{s:Shared} {H:Hp} {C:Addr} {cl:List (Str×Addr)} {fp:List Addr},PE (X.blk s H scope (compEnvC scope cl C X.env) fp) elt te) (ok:blkC N sc scope own=true:=by decide+kernel) (hc:X.calm=true:=by rfl) (hN:X.N=N:=by rfl) (hsc:X.env.scope=sc:=by rfl)
  (hy:X.N[i]? =some y:=by rfl) (hyl:X.env.scope.names.lookup y=some .local:=by rfl) (hk:X.env.scope.kind= .function:=by rfl) (hl:(py.line == pos.line)=true:=by rfl) (ha:(scope.names.any fun (n,k)=>n == y&&(k == .local || k == .cell))=false:=by decide+kernel)
  (hs:∀x,foldedSetIterable iter X.env x=pure x:=by intro _; rfl):PS X (.Assign [.Name y py] (.ListComp elt [⟨tg,iter,ifs,0⟩] scope pos) spos) (tAsg (tLc wi g tt te (own.map (·.2))) (gName i)):=
 ps_setLc hc (hN ▸ S.nd) hy hyl (sw_true hk hyl hl ha) hi (by rw [hN,hsc]; exact blkOk_by ok) (fun _ _ _ _ _=>hg) (fun _ _ _ _ _=>ht) (fun _ _ _ _ _=>he) hs
end
end
end Z

set_option maxHeartbeats 4000000
namespace T
open PySem PySem.Spec PyProof.Rows L2 M Z
open Classical
structure Txt (K:PySem.W.Frag) (mg:Str→Option Value) (Ca Cb Cc Cd Ce Cf Cg Ch Ci Cj Ck Cl Cm Cn Co Cp Cq Cr Cs Ct Cu:Addr):Prop where
 z_ValueError:mg "ValueError" =none
 z_all:mg "all" =none
 z_bool:mg "bool" =none
 z_dict:mg "dict" =none
 z_enumerate:mg "enumerate" =none
 z_int:mg "int" =none
 z_isinstance:mg "isinstance" =none
 z_len:mg "len" =none
 z_list:mg "list" =none
 z_min:mg "min" =none
 z_range:mg "range" =none
 z_sorted:mg "sorted" =none
 z_str:mg "str" =none
 g_LETTERS:∃u,mg "LETTERS" =some u∧RelV (.str "abcdefghijklmnopqrstuvwxyz") u
 g_MOST_LETTERS:∃u,mg "MOST_LETTERS" =some u∧RelV (.int 12) u
 g_MOST:∃u,mg "MOST" =some u∧RelV (.int 1000000000000000000000000000000000000000000000000000000000000) u
 g_MOST_PLACES:∃u,mg "MOST_PLACES" =some u∧RelV (.int 14) u
 g_MOST_TIES:∃u,mg "MOST_TIES" =some u∧RelV (.int 40) u
 m_FlowError:mg "FlowError" =some (.ref Ca)
 m_BadName:mg "BadName" =some (.ref Cb)
 m_Twice:mg "Twice" =some (.ref Cc)
 m_TooMany:mg "TooMany" =some (.ref Cd)
 m_NoPlace:mg "NoPlace" =some (.ref Ce)
 m_BadTie:mg "BadTie" =some (.ref Cf)
 m_BadRoom:mg "BadRoom" =some (.ref Cg)
 m_BadPrice:mg "BadPrice" =some (.ref Ch)
 m_NoTie:mg "NoTie" =some (.ref Ci)
 m_BadLine:mg "BadLine" =some (.ref Cj)
 m_BadFlow:mg "BadFlow" =some (.ref Ck)
 m_SamePlace:mg "SamePlace" =some (.ref Cl)
 m_NoFlow:mg "NoFlow" =some (.ref Cm)
 m_Endless:mg "Endless" =some (.ref Cn)
 m_Forever:mg "Forever" =some (.ref Co)
 m_BadQuestion:mg "BadQuestion" =some (.ref Cp)
 m_NoDeed:mg "NoDeed" =some (.ref Cq)
 m_Rest:mg "Rest" =some (.ref Cr)
 m_Raised:mg "Raised" =some (.ref Cs)
 m_Tie:mg "Tie" =some (.ref Ct)
 m_Net:mg "Net" =some (.ref Cu)
 c_Rest:Cls K Cr
 c_Raised:Cls K Cs
 c_Tie:Cls K Ct
 c_Net:Cls K Cu
 n_amount_Raised:NoAttr K Cs "amount"
 n_flow_Raised:NoAttr K Cs "flow"
 n_head_Tie:NoAttr K Ct "head"
 n_heads_Rest:NoAttr K Cr "heads"
 n_last_given_Net:NoAttr K Cu "last_given"
 n_least_Tie:NoAttr K Ct "least"
 n_many_Rest:NoAttr K Cr "many"
 n_most_Tie:NoAttr K Ct "most"
 n_names_Net:NoAttr K Cu "names"
 n_number_Tie:NoAttr K Ct "number"
 n_price_Tie:NoAttr K Ct "price"
 n_rooms_Rest:NoAttr K Cr "rooms"
 n_rows_Net:NoAttr K Cu "rows"
 n_side_Raised:NoAttr K Cs "side"
 n_starts_Rest:NoAttr K Cr "starts"
 n_tail_Tie:NoAttr K Ct "tail"
 xt_FlowError:XT K Ca
 xt_BadName:XT K Cb
 xt_Twice:XT K Cc
 xt_TooMany:XT K Cd
 xc_NoPlace:XCls K Ce
 xt_BadTie:XT K Cf
 xt_BadRoom:XT K Cg
 xt_BadPrice:XT K Ch
 xt_NoTie:XT K Ci
 xt_BadLine:XT K Cj
 xc_BadFlow:XCls K Ck
 xc_SamePlace:XCls K Cl
 xt_NoFlow:XT K Cm
 xc_Endless:XCls K Cn
 xt_Forever:XT K Co
 xt_BadQuestion:XT K Cp
 xt_NoDeed:XT K Cq
 x_SamePlace:X0Z K Cl
 s_NoPlace_FlowError:PySem.W.subIn K (.ref Ce) (.ref Ca)=some true
 s_BadFlow_FlowError:PySem.W.subIn K (.ref Ck) (.ref Ca)=some true
 s_SamePlace_FlowError:PySem.W.subIn K (.ref Cl) (.ref Ca)=some true
 s_Endless_FlowError:PySem.W.subIn K (.ref Cn) (.ref Ca)=some true
 s_NoPlace_BadName:PySem.W.subIn K (.ref Ce) (.ref Cb)=some false
 s_BadFlow_BadName:PySem.W.subIn K (.ref Ck) (.ref Cb)=some false
 s_SamePlace_BadName:PySem.W.subIn K (.ref Cl) (.ref Cb)=some false
 s_Endless_BadName:PySem.W.subIn K (.ref Cn) (.ref Cb)=some false
 s_NoPlace_Twice:PySem.W.subIn K (.ref Ce) (.ref Cc)=some false
 s_BadFlow_Twice:PySem.W.subIn K (.ref Ck) (.ref Cc)=some false
 s_SamePlace_Twice:PySem.W.subIn K (.ref Cl) (.ref Cc)=some false
 s_Endless_Twice:PySem.W.subIn K (.ref Cn) (.ref Cc)=some false
 s_NoPlace_TooMany:PySem.W.subIn K (.ref Ce) (.ref Cd)=some false
 s_BadFlow_TooMany:PySem.W.subIn K (.ref Ck) (.ref Cd)=some false
 s_SamePlace_TooMany:PySem.W.subIn K (.ref Cl) (.ref Cd)=some false
 s_Endless_TooMany:PySem.W.subIn K (.ref Cn) (.ref Cd)=some false
 s_NoPlace_NoPlace:PySem.W.subIn K (.ref Ce) (.ref Ce)=some true
 s_BadFlow_NoPlace:PySem.W.subIn K (.ref Ck) (.ref Ce)=some false
 s_SamePlace_NoPlace:PySem.W.subIn K (.ref Cl) (.ref Ce)=some false
 s_Endless_NoPlace:PySem.W.subIn K (.ref Cn) (.ref Ce)=some false
 s_NoPlace_BadTie:PySem.W.subIn K (.ref Ce) (.ref Cf)=some false
 s_BadFlow_BadTie:PySem.W.subIn K (.ref Ck) (.ref Cf)=some false
 s_SamePlace_BadTie:PySem.W.subIn K (.ref Cl) (.ref Cf)=some false
 s_Endless_BadTie:PySem.W.subIn K (.ref Cn) (.ref Cf)=some false
 s_NoPlace_BadRoom:PySem.W.subIn K (.ref Ce) (.ref Cg)=some false
 s_BadFlow_BadRoom:PySem.W.subIn K (.ref Ck) (.ref Cg)=some false
 s_SamePlace_BadRoom:PySem.W.subIn K (.ref Cl) (.ref Cg)=some false
 s_Endless_BadRoom:PySem.W.subIn K (.ref Cn) (.ref Cg)=some false
 s_NoPlace_BadPrice:PySem.W.subIn K (.ref Ce) (.ref Ch)=some false
 s_BadFlow_BadPrice:PySem.W.subIn K (.ref Ck) (.ref Ch)=some false
 s_SamePlace_BadPrice:PySem.W.subIn K (.ref Cl) (.ref Ch)=some false
 s_Endless_BadPrice:PySem.W.subIn K (.ref Cn) (.ref Ch)=some false
 s_NoPlace_NoTie:PySem.W.subIn K (.ref Ce) (.ref Ci)=some false
 s_BadFlow_NoTie:PySem.W.subIn K (.ref Ck) (.ref Ci)=some false
 s_SamePlace_NoTie:PySem.W.subIn K (.ref Cl) (.ref Ci)=some false
 s_Endless_NoTie:PySem.W.subIn K (.ref Cn) (.ref Ci)=some false
 s_NoPlace_BadLine:PySem.W.subIn K (.ref Ce) (.ref Cj)=some false
 s_BadFlow_BadLine:PySem.W.subIn K (.ref Ck) (.ref Cj)=some false
 s_SamePlace_BadLine:PySem.W.subIn K (.ref Cl) (.ref Cj)=some false
 s_Endless_BadLine:PySem.W.subIn K (.ref Cn) (.ref Cj)=some false
 s_NoPlace_BadFlow:PySem.W.subIn K (.ref Ce) (.ref Ck)=some false
 s_BadFlow_BadFlow:PySem.W.subIn K (.ref Ck) (.ref Ck)=some true
 s_SamePlace_BadFlow:PySem.W.subIn K (.ref Cl) (.ref Ck)=some false
 s_Endless_BadFlow:PySem.W.subIn K (.ref Cn) (.ref Ck)=some false
 s_NoPlace_SamePlace:PySem.W.subIn K (.ref Ce) (.ref Cl)=some false
 s_BadFlow_SamePlace:PySem.W.subIn K (.ref Ck) (.ref Cl)=some false
 s_SamePlace_SamePlace:PySem.W.subIn K (.ref Cl) (.ref Cl)=some true
 s_Endless_SamePlace:PySem.W.subIn K (.ref Cn) (.ref Cl)=some false
 s_NoPlace_NoFlow:PySem.W.subIn K (.ref Ce) (.ref Cm)=some false
 s_BadFlow_NoFlow:PySem.W.subIn K (.ref Ck) (.ref Cm)=some false
 s_SamePlace_NoFlow:PySem.W.subIn K (.ref Cl) (.ref Cm)=some false
 s_Endless_NoFlow:PySem.W.subIn K (.ref Cn) (.ref Cm)=some false
 s_NoPlace_Endless:PySem.W.subIn K (.ref Ce) (.ref Cn)=some false
 s_BadFlow_Endless:PySem.W.subIn K (.ref Ck) (.ref Cn)=some false
 s_SamePlace_Endless:PySem.W.subIn K (.ref Cl) (.ref Cn)=some false
 s_Endless_Endless:PySem.W.subIn K (.ref Cn) (.ref Cn)=some true
 s_NoPlace_Forever:PySem.W.subIn K (.ref Ce) (.ref Co)=some false
 s_BadFlow_Forever:PySem.W.subIn K (.ref Ck) (.ref Co)=some false
 s_SamePlace_Forever:PySem.W.subIn K (.ref Cl) (.ref Co)=some false
 s_Endless_Forever:PySem.W.subIn K (.ref Cn) (.ref Co)=some false
 s_NoPlace_BadQuestion:PySem.W.subIn K (.ref Ce) (.ref Cp)=some false
 s_BadFlow_BadQuestion:PySem.W.subIn K (.ref Ck) (.ref Cp)=some false
 s_SamePlace_BadQuestion:PySem.W.subIn K (.ref Cl) (.ref Cp)=some false
 s_Endless_BadQuestion:PySem.W.subIn K (.ref Cn) (.ref Cp)=some false
 s_NoPlace_NoDeed:PySem.W.subIn K (.ref Ce) (.ref Cq)=some false
 s_BadFlow_NoDeed:PySem.W.subIn K (.ref Ck) (.ref Cq)=some false
 s_SamePlace_NoDeed:PySem.W.subIn K (.ref Cl) (.ref Cq)=some false
 s_Endless_NoDeed:PySem.W.subIn K (.ref Cn) (.ref Cq)=some false
 s_NoPlace_ValueError:PySem.W.subIn K (.ref Ce) (.type "ValueError")=some true
 s_BadFlow_ValueError:PySem.W.subIn K (.ref Ck) (.type "ValueError")=some true
 s_SamePlace_ValueError:PySem.W.subIn K (.ref Cl) (.type "ValueError")=some true
 s_Endless_ValueError:PySem.W.subIn K (.ref Cn) (.type "ValueError")=some true
 xn_NoPlace_name:PySem.W.findIn K (.ref Ce) "name" =some none
 xn_BadFlow_number:PySem.W.findIn K (.ref Ck) "number" =some none
def tk_FlowError:List (Str×Bool):= [("NoPlace",true),("BadFlow",true),("SamePlace",true),("Endless",true)]
def isx_BadName:List (Str×Bool):= [("NoPlace",false),("BadFlow",false),("SamePlace",false),("Endless",false)]
def isx_Twice:List (Str×Bool):= [("NoPlace",false),("BadFlow",false),("SamePlace",false),("Endless",false)]
def isx_TooMany:List (Str×Bool):= [("NoPlace",false),("BadFlow",false),("SamePlace",false),("Endless",false)]
def isx_NoPlace:List (Str×Bool):= [("NoPlace",true),("BadFlow",false),("SamePlace",false),("Endless",false)]
def isx_BadTie:List (Str×Bool):= [("NoPlace",false),("BadFlow",false),("SamePlace",false),("Endless",false)]
def isx_BadRoom:List (Str×Bool):= [("NoPlace",false),("BadFlow",false),("SamePlace",false),("Endless",false)]
def isx_BadPrice:List (Str×Bool):= [("NoPlace",false),("BadFlow",false),("SamePlace",false),("Endless",false)]
def isx_NoTie:List (Str×Bool):= [("NoPlace",false),("BadFlow",false),("SamePlace",false),("Endless",false)]
def isx_BadLine:List (Str×Bool):= [("NoPlace",false),("BadFlow",false),("SamePlace",false),("Endless",false)]
def isx_BadFlow:List (Str×Bool):= [("NoPlace",false),("BadFlow",true),("SamePlace",false),("Endless",false)]
def isx_SamePlace:List (Str×Bool):= [("NoPlace",false),("BadFlow",false),("SamePlace",true),("Endless",false)]
def isx_NoFlow:List (Str×Bool):= [("NoPlace",false),("BadFlow",false),("SamePlace",false),("Endless",false)]
def isx_Endless:List (Str×Bool):= [("NoPlace",false),("BadFlow",false),("SamePlace",false),("Endless",true)]
def isx_Forever:List (Str×Bool):= [("NoPlace",false),("BadFlow",false),("SamePlace",false),("Endless",false)]
def isx_BadQuestion:List (Str×Bool):= [("NoPlace",false),("BadFlow",false),("SamePlace",false),("Endless",false)]
def isx_NoDeed:List (Str×Bool):= [("NoPlace",false),("BadFlow",false),("SamePlace",false),("Endless",false)]
def isx_ValueError:List (Str×Bool):= [("NoPlace",true),("BadFlow",true),("SamePlace",true),("Endless",true)]
def xf_name:List (Str×Bool):= [("NoPlace",true)]
def xf_number:List (Str×Bool):= [("BadFlow",true)]
section
variable {K:PySem.W.Frag} {mg:Str→Option Value} {Ca Cb Cc Cd Ce Cf Cg Ch Ci Cj Ck Cl Cm Cn Co Cp Cq Cr Cs Ct Cu:Addr}
theorem Txt.f_amount_Raised (T:Txt K mg Ca Cb Cc Cd Ce Cf Cg Ch Ci Cj Ck Cl Cm Cn Co Cp Cq Cr Cs Ct Cu):gm ⟨K,mg⟩ "amount" ["Raised"]:=uA T.m_Raised T.c_Raised T.n_amount_Raised
theorem Txt.f_flow_Raised (T:Txt K mg Ca Cb Cc Cd Ce Cf Cg Ch Ci Cj Ck Cl Cm Cn Co Cp Cq Cr Cs Ct Cu):gm ⟨K,mg⟩ "flow" ["Raised"]:=uA T.m_Raised T.c_Raised T.n_flow_Raised
theorem Txt.f_head_Tie (T:Txt K mg Ca Cb Cc Cd Ce Cf Cg Ch Ci Cj Ck Cl Cm Cn Co Cp Cq Cr Cs Ct Cu):gm ⟨K,mg⟩ "head" ["Tie"]:=uA T.m_Tie T.c_Tie T.n_head_Tie
theorem Txt.f_heads_Rest (T:Txt K mg Ca Cb Cc Cd Ce Cf Cg Ch Ci Cj Ck Cl Cm Cn Co Cp Cq Cr Cs Ct Cu):gm ⟨K,mg⟩ "heads" ["Rest"]:=uA T.m_Rest T.c_Rest T.n_heads_Rest
theorem Txt.f_last_given_Net (T:Txt K mg Ca Cb Cc Cd Ce Cf Cg Ch Ci Cj Ck Cl Cm Cn Co Cp Cq Cr Cs Ct Cu):gm ⟨K,mg⟩ "last_given" ["Net"]:=uA T.m_Net T.c_Net T.n_last_given_Net
theorem Txt.f_least_Tie (T:Txt K mg Ca Cb Cc Cd Ce Cf Cg Ch Ci Cj Ck Cl Cm Cn Co Cp Cq Cr Cs Ct Cu):gm ⟨K,mg⟩ "least" ["Tie"]:=uA T.m_Tie T.c_Tie T.n_least_Tie
theorem Txt.f_many_Rest (T:Txt K mg Ca Cb Cc Cd Ce Cf Cg Ch Ci Cj Ck Cl Cm Cn Co Cp Cq Cr Cs Ct Cu):gm ⟨K,mg⟩ "many" ["Rest"]:=uA T.m_Rest T.c_Rest T.n_many_Rest
theorem Txt.f_most_Tie (T:Txt K mg Ca Cb Cc Cd Ce Cf Cg Ch Ci Cj Ck Cl Cm Cn Co Cp Cq Cr Cs Ct Cu):gm ⟨K,mg⟩ "most" ["Tie"]:=uA T.m_Tie T.c_Tie T.n_most_Tie
theorem Txt.f_names_Net (T:Txt K mg Ca Cb Cc Cd Ce Cf Cg Ch Ci Cj Ck Cl Cm Cn Co Cp Cq Cr Cs Ct Cu):gm ⟨K,mg⟩ "names" ["Net"]:=uA T.m_Net T.c_Net T.n_names_Net
theorem Txt.f_number_Tie (T:Txt K mg Ca Cb Cc Cd Ce Cf Cg Ch Ci Cj Ck Cl Cm Cn Co Cp Cq Cr Cs Ct Cu):gm ⟨K,mg⟩ "number" ["Tie"]:=uA T.m_Tie T.c_Tie T.n_number_Tie
theorem Txt.f_price_Tie (T:Txt K mg Ca Cb Cc Cd Ce Cf Cg Ch Ci Cj Ck Cl Cm Cn Co Cp Cq Cr Cs Ct Cu):gm ⟨K,mg⟩ "price" ["Tie"]:=uA T.m_Tie T.c_Tie T.n_price_Tie
theorem Txt.f_rooms_Rest (T:Txt K mg Ca Cb Cc Cd Ce Cf Cg Ch Ci Cj Ck Cl Cm Cn Co Cp Cq Cr Cs Ct Cu):gm ⟨K,mg⟩ "rooms" ["Rest"]:=uA T.m_Rest T.c_Rest T.n_rooms_Rest
theorem Txt.f_rows_Net (T:Txt K mg Ca Cb Cc Cd Ce Cf Cg Ch Ci Cj Ck Cl Cm Cn Co Cp Cq Cr Cs Ct Cu):gm ⟨K,mg⟩ "rows" ["Net"]:=uA T.m_Net T.c_Net T.n_rows_Net
theorem Txt.f_side_Raised (T:Txt K mg Ca Cb Cc Cd Ce Cf Cg Ch Ci Cj Ck Cl Cm Cn Co Cp Cq Cr Cs Ct Cu):gm ⟨K,mg⟩ "side" ["Raised"]:=uA T.m_Raised T.c_Raised T.n_side_Raised
theorem Txt.f_starts_Rest (T:Txt K mg Ca Cb Cc Cd Ce Cf Cg Ch Ci Cj Ck Cl Cm Cn Co Cp Cq Cr Cs Ct Cu):gm ⟨K,mg⟩ "starts" ["Rest"]:=uA T.m_Rest T.c_Rest T.n_starts_Rest
theorem Txt.f_tail_Tie (T:Txt K mg Ca Cb Cc Cd Ce Cf Cg Ch Ci Cj Ck Cl Cm Cn Co Cp Cq Cr Cs Ct Cu):gm ⟨K,mg⟩ "tail" ["Tie"]:=uA T.m_Tie T.c_Tie T.n_tail_Tie
theorem Txt.tk_FlowError (T0:Txt K mg Ca Cb Cc Cd Ce Cf Cg Ch Ci Cj Ck Cl Cm Cn Co Cp Cq Cr Cs Ct Cu):sv ⟨K,mg⟩ (.ref Ca) (pick tk_FlowError):=yZ T0.xt_FlowError ⟨⟨_,T0.m_NoPlace,T0.s_NoPlace_FlowError⟩,⟨⟨_,T0.m_BadFlow,T0.s_BadFlow_FlowError⟩,⟨⟨_,T0.m_SamePlace,T0.s_SamePlace_FlowError⟩,⟨⟨_,T0.m_Endless,T0.s_Endless_FlowError⟩,trivial⟩⟩⟩⟩
theorem Txt.isx_BadName (T0:Txt K mg Ca Cb Cc Cd Ce Cf Cg Ch Ci Cj Ck Cl Cm Cn Co Cp Cq Cr Cs Ct Cu):IsXOk ⟨K,mg⟩ (.ref Cb) (.ref Cb) (pick isx_BadName) true:=bO T0.xt_BadName ⟨⟨_,T0.m_NoPlace,T0.xc_NoPlace,T0.s_NoPlace_BadName⟩,⟨⟨_,T0.m_BadFlow,T0.xc_BadFlow,T0.s_BadFlow_BadName⟩,⟨⟨_,T0.m_SamePlace,T0.xc_SamePlace,T0.s_SamePlace_BadName⟩,⟨⟨_,T0.m_Endless,T0.xc_Endless,T0.s_Endless_BadName⟩,trivial⟩⟩⟩⟩
theorem Txt.isx_Twice (T0:Txt K mg Ca Cb Cc Cd Ce Cf Cg Ch Ci Cj Ck Cl Cm Cn Co Cp Cq Cr Cs Ct Cu):IsXOk ⟨K,mg⟩ (.ref Cc) (.ref Cc) (pick isx_Twice) true:=bO T0.xt_Twice ⟨⟨_,T0.m_NoPlace,T0.xc_NoPlace,T0.s_NoPlace_Twice⟩,⟨⟨_,T0.m_BadFlow,T0.xc_BadFlow,T0.s_BadFlow_Twice⟩,⟨⟨_,T0.m_SamePlace,T0.xc_SamePlace,T0.s_SamePlace_Twice⟩,⟨⟨_,T0.m_Endless,T0.xc_Endless,T0.s_Endless_Twice⟩,trivial⟩⟩⟩⟩
theorem Txt.isx_TooMany (T0:Txt K mg Ca Cb Cc Cd Ce Cf Cg Ch Ci Cj Ck Cl Cm Cn Co Cp Cq Cr Cs Ct Cu):IsXOk ⟨K,mg⟩ (.ref Cd) (.ref Cd) (pick isx_TooMany) true:=bO T0.xt_TooMany ⟨⟨_,T0.m_NoPlace,T0.xc_NoPlace,T0.s_NoPlace_TooMany⟩,⟨⟨_,T0.m_BadFlow,T0.xc_BadFlow,T0.s_BadFlow_TooMany⟩,⟨⟨_,T0.m_SamePlace,T0.xc_SamePlace,T0.s_SamePlace_TooMany⟩,⟨⟨_,T0.m_Endless,T0.xc_Endless,T0.s_Endless_TooMany⟩,trivial⟩⟩⟩⟩
theorem Txt.isx_NoPlace (T0:Txt K mg Ca Cb Cc Cd Ce Cf Cg Ch Ci Cj Ck Cl Cm Cn Co Cp Cq Cr Cs Ct Cu):IsXOk ⟨K,mg⟩ (.ref Ce) (.ref Ce) (pick isx_NoPlace) true:=bO T0.xc_NoPlace.toXT ⟨⟨_,T0.m_NoPlace,T0.xc_NoPlace,T0.s_NoPlace_NoPlace⟩,⟨⟨_,T0.m_BadFlow,T0.xc_BadFlow,T0.s_BadFlow_NoPlace⟩,⟨⟨_,T0.m_SamePlace,T0.xc_SamePlace,T0.s_SamePlace_NoPlace⟩,⟨⟨_,T0.m_Endless,T0.xc_Endless,T0.s_Endless_NoPlace⟩,trivial⟩⟩⟩⟩
theorem Txt.isx_BadTie (T0:Txt K mg Ca Cb Cc Cd Ce Cf Cg Ch Ci Cj Ck Cl Cm Cn Co Cp Cq Cr Cs Ct Cu):IsXOk ⟨K,mg⟩ (.ref Cf) (.ref Cf) (pick isx_BadTie) true:=bO T0.xt_BadTie ⟨⟨_,T0.m_NoPlace,T0.xc_NoPlace,T0.s_NoPlace_BadTie⟩,⟨⟨_,T0.m_BadFlow,T0.xc_BadFlow,T0.s_BadFlow_BadTie⟩,⟨⟨_,T0.m_SamePlace,T0.xc_SamePlace,T0.s_SamePlace_BadTie⟩,⟨⟨_,T0.m_Endless,T0.xc_Endless,T0.s_Endless_BadTie⟩,trivial⟩⟩⟩⟩
theorem Txt.isx_BadRoom (T0:Txt K mg Ca Cb Cc Cd Ce Cf Cg Ch Ci Cj Ck Cl Cm Cn Co Cp Cq Cr Cs Ct Cu):IsXOk ⟨K,mg⟩ (.ref Cg) (.ref Cg) (pick isx_BadRoom) true:=bO T0.xt_BadRoom ⟨⟨_,T0.m_NoPlace,T0.xc_NoPlace,T0.s_NoPlace_BadRoom⟩,⟨⟨_,T0.m_BadFlow,T0.xc_BadFlow,T0.s_BadFlow_BadRoom⟩,⟨⟨_,T0.m_SamePlace,T0.xc_SamePlace,T0.s_SamePlace_BadRoom⟩,⟨⟨_,T0.m_Endless,T0.xc_Endless,T0.s_Endless_BadRoom⟩,trivial⟩⟩⟩⟩
theorem Txt.isx_BadPrice (T0:Txt K mg Ca Cb Cc Cd Ce Cf Cg Ch Ci Cj Ck Cl Cm Cn Co Cp Cq Cr Cs Ct Cu):IsXOk ⟨K,mg⟩ (.ref Ch) (.ref Ch) (pick isx_BadPrice) true:=bO T0.xt_BadPrice ⟨⟨_,T0.m_NoPlace,T0.xc_NoPlace,T0.s_NoPlace_BadPrice⟩,⟨⟨_,T0.m_BadFlow,T0.xc_BadFlow,T0.s_BadFlow_BadPrice⟩,⟨⟨_,T0.m_SamePlace,T0.xc_SamePlace,T0.s_SamePlace_BadPrice⟩,⟨⟨_,T0.m_Endless,T0.xc_Endless,T0.s_Endless_BadPrice⟩,trivial⟩⟩⟩⟩
theorem Txt.isx_NoTie (T0:Txt K mg Ca Cb Cc Cd Ce Cf Cg Ch Ci Cj Ck Cl Cm Cn Co Cp Cq Cr Cs Ct Cu):IsXOk ⟨K,mg⟩ (.ref Ci) (.ref Ci) (pick isx_NoTie) true:=bO T0.xt_NoTie ⟨⟨_,T0.m_NoPlace,T0.xc_NoPlace,T0.s_NoPlace_NoTie⟩,⟨⟨_,T0.m_BadFlow,T0.xc_BadFlow,T0.s_BadFlow_NoTie⟩,⟨⟨_,T0.m_SamePlace,T0.xc_SamePlace,T0.s_SamePlace_NoTie⟩,⟨⟨_,T0.m_Endless,T0.xc_Endless,T0.s_Endless_NoTie⟩,trivial⟩⟩⟩⟩
theorem Txt.isx_BadLine (T0:Txt K mg Ca Cb Cc Cd Ce Cf Cg Ch Ci Cj Ck Cl Cm Cn Co Cp Cq Cr Cs Ct Cu):IsXOk ⟨K,mg⟩ (.ref Cj) (.ref Cj) (pick isx_BadLine) true:=bO T0.xt_BadLine ⟨⟨_,T0.m_NoPlace,T0.xc_NoPlace,T0.s_NoPlace_BadLine⟩,⟨⟨_,T0.m_BadFlow,T0.xc_BadFlow,T0.s_BadFlow_BadLine⟩,⟨⟨_,T0.m_SamePlace,T0.xc_SamePlace,T0.s_SamePlace_BadLine⟩,⟨⟨_,T0.m_Endless,T0.xc_Endless,T0.s_Endless_BadLine⟩,trivial⟩⟩⟩⟩
theorem Txt.isx_BadFlow (T0:Txt K mg Ca Cb Cc Cd Ce Cf Cg Ch Ci Cj Ck Cl Cm Cn Co Cp Cq Cr Cs Ct Cu):IsXOk ⟨K,mg⟩ (.ref Ck) (.ref Ck) (pick isx_BadFlow) true:=bO T0.xc_BadFlow.toXT ⟨⟨_,T0.m_NoPlace,T0.xc_NoPlace,T0.s_NoPlace_BadFlow⟩,⟨⟨_,T0.m_BadFlow,T0.xc_BadFlow,T0.s_BadFlow_BadFlow⟩,⟨⟨_,T0.m_SamePlace,T0.xc_SamePlace,T0.s_SamePlace_BadFlow⟩,⟨⟨_,T0.m_Endless,T0.xc_Endless,T0.s_Endless_BadFlow⟩,trivial⟩⟩⟩⟩
theorem Txt.isx_SamePlace (T0:Txt K mg Ca Cb Cc Cd Ce Cf Cg Ch Ci Cj Ck Cl Cm Cn Co Cp Cq Cr Cs Ct Cu):IsXOk ⟨K,mg⟩ (.ref Cl) (.ref Cl) (pick isx_SamePlace) true:=bO T0.xc_SamePlace.toXT ⟨⟨_,T0.m_NoPlace,T0.xc_NoPlace,T0.s_NoPlace_SamePlace⟩,⟨⟨_,T0.m_BadFlow,T0.xc_BadFlow,T0.s_BadFlow_SamePlace⟩,⟨⟨_,T0.m_SamePlace,T0.xc_SamePlace,T0.s_SamePlace_SamePlace⟩,⟨⟨_,T0.m_Endless,T0.xc_Endless,T0.s_Endless_SamePlace⟩,trivial⟩⟩⟩⟩
theorem Txt.isx_NoFlow (T0:Txt K mg Ca Cb Cc Cd Ce Cf Cg Ch Ci Cj Ck Cl Cm Cn Co Cp Cq Cr Cs Ct Cu):IsXOk ⟨K,mg⟩ (.ref Cm) (.ref Cm) (pick isx_NoFlow) true:=bO T0.xt_NoFlow ⟨⟨_,T0.m_NoPlace,T0.xc_NoPlace,T0.s_NoPlace_NoFlow⟩,⟨⟨_,T0.m_BadFlow,T0.xc_BadFlow,T0.s_BadFlow_NoFlow⟩,⟨⟨_,T0.m_SamePlace,T0.xc_SamePlace,T0.s_SamePlace_NoFlow⟩,⟨⟨_,T0.m_Endless,T0.xc_Endless,T0.s_Endless_NoFlow⟩,trivial⟩⟩⟩⟩
theorem Txt.isx_Endless (T0:Txt K mg Ca Cb Cc Cd Ce Cf Cg Ch Ci Cj Ck Cl Cm Cn Co Cp Cq Cr Cs Ct Cu):IsXOk ⟨K,mg⟩ (.ref Cn) (.ref Cn) (pick isx_Endless) true:=bO T0.xc_Endless.toXT ⟨⟨_,T0.m_NoPlace,T0.xc_NoPlace,T0.s_NoPlace_Endless⟩,⟨⟨_,T0.m_BadFlow,T0.xc_BadFlow,T0.s_BadFlow_Endless⟩,⟨⟨_,T0.m_SamePlace,T0.xc_SamePlace,T0.s_SamePlace_Endless⟩,⟨⟨_,T0.m_Endless,T0.xc_Endless,T0.s_Endless_Endless⟩,trivial⟩⟩⟩⟩
theorem Txt.isx_Forever (T0:Txt K mg Ca Cb Cc Cd Ce Cf Cg Ch Ci Cj Ck Cl Cm Cn Co Cp Cq Cr Cs Ct Cu):IsXOk ⟨K,mg⟩ (.ref Co) (.ref Co) (pick isx_Forever) true:=bO T0.xt_Forever ⟨⟨_,T0.m_NoPlace,T0.xc_NoPlace,T0.s_NoPlace_Forever⟩,⟨⟨_,T0.m_BadFlow,T0.xc_BadFlow,T0.s_BadFlow_Forever⟩,⟨⟨_,T0.m_SamePlace,T0.xc_SamePlace,T0.s_SamePlace_Forever⟩,⟨⟨_,T0.m_Endless,T0.xc_Endless,T0.s_Endless_Forever⟩,trivial⟩⟩⟩⟩
theorem Txt.isx_BadQuestion (T0:Txt K mg Ca Cb Cc Cd Ce Cf Cg Ch Ci Cj Ck Cl Cm Cn Co Cp Cq Cr Cs Ct Cu):IsXOk ⟨K,mg⟩ (.ref Cp) (.ref Cp) (pick isx_BadQuestion) true:=bO T0.xt_BadQuestion ⟨⟨_,T0.m_NoPlace,T0.xc_NoPlace,T0.s_NoPlace_BadQuestion⟩,⟨⟨_,T0.m_BadFlow,T0.xc_BadFlow,T0.s_BadFlow_BadQuestion⟩,⟨⟨_,T0.m_SamePlace,T0.xc_SamePlace,T0.s_SamePlace_BadQuestion⟩,⟨⟨_,T0.m_Endless,T0.xc_Endless,T0.s_Endless_BadQuestion⟩,trivial⟩⟩⟩⟩
theorem Txt.isx_NoDeed (T0:Txt K mg Ca Cb Cc Cd Ce Cf Cg Ch Ci Cj Ck Cl Cm Cn Co Cp Cq Cr Cs Ct Cu):IsXOk ⟨K,mg⟩ (.ref Cq) (.ref Cq) (pick isx_NoDeed) true:=bO T0.xt_NoDeed ⟨⟨_,T0.m_NoPlace,T0.xc_NoPlace,T0.s_NoPlace_NoDeed⟩,⟨⟨_,T0.m_BadFlow,T0.xc_BadFlow,T0.s_BadFlow_NoDeed⟩,⟨⟨_,T0.m_SamePlace,T0.xc_SamePlace,T0.s_SamePlace_NoDeed⟩,⟨⟨_,T0.m_Endless,T0.xc_Endless,T0.s_Endless_NoDeed⟩,trivial⟩⟩⟩⟩
theorem Txt.isx_ValueError (T0:Txt K mg Ca Cb Cc Cd Ce Cf Cg Ch Ci Cj Ck Cl Cm Cn Co Cp Cq Cr Cs Ct Cu):IsXOk ⟨K,mg⟩ (.ty "ValueError") (.type "ValueError") (pick isx_ValueError) true:=isX_ty (by decide+kernel) (by decide+kernel) ⟨⟨_,T0.m_NoPlace,T0.xc_NoPlace,T0.s_NoPlace_ValueError⟩,⟨⟨_,T0.m_BadFlow,T0.xc_BadFlow,T0.s_BadFlow_ValueError⟩,⟨⟨_,T0.m_SamePlace,T0.xc_SamePlace,T0.s_SamePlace_ValueError⟩,⟨⟨_,T0.m_Endless,T0.xc_Endless,T0.s_Endless_ValueError⟩,trivial⟩⟩⟩⟩
theorem Txt.xf_name (T0:Txt K mg Ca Cb Cc Cd Ce Cf Cg Ch Ci Cj Ck Cl Cm Cn Co Cp Cq Cr Cs Ct Cu):XfOk ⟨K,mg⟩ "name" (tm xf_name):=xf_of ⟨⟨_,T0.m_NoPlace,T0.xc_NoPlace,T0.xn_NoPlace_name⟩,trivial⟩
theorem Txt.xf_number (T0:Txt K mg Ca Cb Cc Cd Ce Cf Cg Ch Ci Cj Ck Cl Cm Cn Co Cp Cq Cr Cs Ct Cu):XfOk ⟨K,mg⟩ "number" (tm xf_number):=xf_of ⟨⟨_,T0.m_BadFlow,T0.xc_BadFlow,T0.xn_BadFlow_number⟩,trivial⟩
end
structure DD (K:PySem.W.Frag) (mg:Str→Option Value) (Ca Cb Cc Cd Ce Cf Cg Ch Ci Cj Ck Cl Cm Cn Co Cp Cq Cr Cs Ct Cu:Addr):Prop where
 d_Lnumber:Df K mg "_law_number" mU ["_law_script","_law_k"]
 d_Lnames:Df K mg "_law_names" qt ["_law_number_here","_law_many"]
 d_Lgreat:Df K mg "_law_great" qu ["_law_script","_law_k"]
 d_Lroom:Df K mg "_law_room" vf ["_law_script","_law_k","_law_number_here"]
 d_Lrow:Df K mg "_law_row" zy ["_law_script","_law_k","_law_many"]
 d_Net_init:Dk K mg "Net" Cu "Net.__init__" kL ["self"]
 d_are_signs:Df K mg "are_signs" jh ["text","signs"]
 d_is_name:Df K mg "is_name" mQ ["thing"]
 d_Net_put_place:Dm K Cu "put_place" "Net.put_place" dR ["self","name"]
 d_NoPlace_init:DxZ K mg "NoPlace" Ce "NoPlace.__init__" aW "name" "name"
 d_Net_need_place:Dm K Cu "need_place" "Net.need_place" dq ["self","name"]
 d_is_whole:Df K mg "is_whole" kH ["thing"]
 d_is_among:Df K mg "is_among" kI ["thing","least","most"]
 d_need_room:Df K mg "need_room" je ["least","most"]
 d_need_price:Df K mg "need_price" gP ["price"]
 d_Tie_init:Dk K mg "Tie" Ct "Tie.__init__" kJ ["self","number","tail","head","least","most","price"]
 d_Net_put_numbered:Dm K Cu "put_numbered" "Net.put_numbered" cD ["self","number","tail","head","least","most","price"]
 d_Net_put_tie:Dmd K Cu "put_tie" "Net.put_tie" aH ["self","tail","head","least","most","price"] [.int 0, .non, .int 0]
 d_Lmade:Df K mg "_law_made" vg ["_law_names_here","_law_rows"]
 d_Net_places:Dm K Cu "places" "Net.places" gR ["self"]
 d_Net_ties:Dm K Cu "ties" "Net.ties" kK ["self"]
 d_number_text:Df K mg "number_text" fG ["number"]
 d_tie_line:Df K mg "tie_line" kG ["tie"]
 d_Net_given:Dm K Cu "given" "Net.given" jl ["self"]
 d_net_lines:Df K mg "net_lines" jd ["net"]
 d_Lis_endless:Df K mg "_law_is_endless" fM ["_law_rows","_law_source","_law_target"]
 d_Lbent:Df K mg "_law_bent" vh ["_law_rows","_law_flow","_law_number_here"]
 d_Luneven:Df K mg "_law_uneven" mT ["_law_rows","_law_flow","_law_source","_law_target"]
 d_need_ends:Df K mg "need_ends" jf ["net","source","target"]
 d_BadFlow_init:DxZ K mg "BadFlow" Ck "BadFlow.__init__" aY "number" "number"
 d_is_amount:Df K mg "is_amount" jg ["tie","amount"]
 d_need_flow:Df K mg "need_flow" dQ ["net","flow"]
 d_spare_sums:Df K mg "spare_sums" gO ["net","flow"]
 d_carried_by:Df K mg "carried_by" gQ ["net","flow","source","target"]
 d_Rest_init:Dk K mg "Rest" Cr "Rest.__init__" jk ["self","many"]
 d_room_left:Df K mg "room_left" jc ["tie","amount"]
 d_Rest_put_arc:Dmd K Cr "put_arc" "Rest.put_arc" aE ["self","tail","head","room","back"] [.int 0]
 d_rest_of:Df K mg "rest_of" mO ["net","flow"]
 d_Rest_lets:Dm K Cr "lets" "Rest.lets" jj ["self","half","is_endless"]
 d_Rest_walked:Dm K Cr "walked" "Rest.walked" fJ ["self","source","is_endless"]
 d_Rest_way_to:Dm K Cr "way_to" "Rest.way_to" fH ["self","came","target"]
 d_Rest_endless:Dm K Cr "endless" "Rest.endless" eM ["self","source","target"]
 d_Endless_init:DxZ K mg "Endless" Cn "Endless.__init__" aX "numbers" "numbers"
 d_Rest_change:Dm K Cr "change" "Rest.change" fK ["self","half","amount"]
 d_Rest_lift:Dm K Cr "lift" "Rest.lift" ji ["self","source","target"]
 d_Rest_back_of:Dm K Cr "back_of" "Rest.back_of" eO ["self","arc"]
 d_flow_of:Df K mg "flow_of" mS ["net","rest"]
 d_Rest_reached:Dm K Cr "reached" "Rest.reached" eL ["self","source"]
 d_Raised_init:Dk K mg "Raised" Cs "Raised.__init__" fL ["self","flow","amount","side"]
 d_raised:Df K mg "raised" qs ["net","flow","source","target"]
 d_Lalone:Df K mg "_law_alone" qx ["_law_e"]
 d_Ltold:Df K mg "_law_told" ve ["_law_net","_law_flow","_law_source","_law_target"]
 d_Lasked:Df K mg "_law_asked" qw ["_law_net","_law_names_here","_law_rows","_law_flow","_law_number_here"]
section
variable {P:Program} {w:World} {K:PySem.W.Frag} {mg:Str→Option Value} {base:Heap}
theorem jD {x:Str} {st:Stmt} {N ps:List Str} {k n:Nat} {fz:SD→R Fl} (D:M.Df K mg x st ps) (S:FnScope N ps (L2.defScope st))
  (hb:∀{f:Addr} {cdv:Value} {A:Around} {outer:List Env} {s:Shared} {H:Hp} {E:XK},Room k (A.deeper (envOfC x (L2.defScope st) s.heap.objs.size f cdv))→(A.deeper (envOfC x (L2.defScope st) s.heap.objs.size f cdv)).units+1<cLine→Takes (cxOf (L2.CX P w) P w K mg base N x (L2.defScope st) f cdv A outer s H E) (fun cls d _ H=>E cls d H)→
   ∃t,PSs (cxOf (L2.CX P w) P w K mg base N x (L2.defScope st) f cdv A outer s H E) (L2.defBody st) t∧RS ⟨K,mg⟩ (fun cls d _ H=>E cls d H) t fz) (hn:ps.length≤N.length:=by decide) (hn2:n=ps.length:=by rfl):CalZ P w K mg base (k+1) x n (zFn N.length fz) []:=
 calZ_of D S hn hn2 fun f cdv A outer s H E hr=>hb hr (hu_of hr) (takes_of (X:=cxOf (L2.CX P w) P w K mg base N x (L2.defScope st) f cdv A outer s H E) rfl rfl rfl rfl)
theorem xg {C:Addr} {m q:Str} {st:Stmt} {N ps:List Str} {k n:Nat} {fz:SD→R Fl} (D:M.Dm K C m q st ps) (S:FnScope N ps (L2.defScope st))
  (hb:∀{f:Addr} {cdv:Value} {A:Around} {outer:List Env} {s:Shared} {H:Hp} {E:XK},Room k (A.deeper (envOfC q (L2.defScope st) s.heap.objs.size f cdv))→(A.deeper (envOfC q (L2.defScope st) s.heap.objs.size f cdv)).units+1<cLine→Takes (cxOf (L2.CX P w) P w K mg base N q (L2.defScope st) f cdv A outer s H E) (fun cls d _ H=>E cls d H)→
   ∃t,PSs (cxOf (L2.CX P w) P w K mg base N q (L2.defScope st) f cdv A outer s H E) (L2.defBody st) t∧RS ⟨K,mg⟩ (fun cls d _ H=>E cls d H) t fz) (hn:ps.length≤N.length:=by decide) (hn2:n=ps.length:=by rfl):MetZ P w K mg base (k+1) C m n (zFn N.length fz) []:=
 metZ_of D S hn hn2 fun f cdv A outer s H E hr=>hb hr (hu_of hr) (takes_of (X:=cxOf (L2.CX P w) P w K mg base N q (L2.defScope st) f cdv A outer s H E) rfl rfl rfl rfl)
theorem makY {x q:Str} {C:Addr} {st:Stmt} {N ps:List Str} {k n:Nat} {fz:SD→R Fl} (D:M.Dk K mg x C q st ps) (S:FnScope N ps (L2.defScope st))
  (hb:∀{f:Addr} {cdv:Value} {A:Around} {outer:List Env} {s:Shared} {H:Hp} {E:XK},Room k (A.deeper (envOfC q (L2.defScope st) s.heap.objs.size f cdv))→(A.deeper (envOfC q (L2.defScope st) s.heap.objs.size f cdv)).units+1<cLine→Takes (cxOf (L2.CX P w) P w K mg base N q (L2.defScope st) f cdv A outer s H E) (fun cls d _ H=>E cls d H)→
   ∃t,PSs (cxOf (L2.CX P w) P w K mg base N q (L2.defScope st) f cdv A outer s H E) (L2.defBody st) t∧RS ⟨K,mg⟩ (fun cls d _ H=>E cls d H) t fz) (hn:ps.length≤N.length:=by decide) (hn2:n=ps.length:=by rfl):MakZ P w K mg base (k+1) x C n (zFn N.length fz) []:=
 makZ_of D S hn hn2 fun f cdv A outer s H E hr=>hb hr (hu_of hr) (takes_of (X:=cxOf (L2.CX P w) P w K mg base N q (L2.defScope st) f cdv A outer s H E) rfl rfl rfl rfl)
theorem metdY {C:Addr} {m q:Str} {st:Stmt} {N ps:List Str} {dvs:List V} {k n:Nat} {fz:SD→R Fl} (D:M.Dmd K C m q st ps dvs) (S:FnScope N ps (L2.defScope st))
  (hb:∀{f:Addr} {cdv:Value} {A:Around} {outer:List Env} {s:Shared} {H:Hp} {E:XK},Room k (A.deeper (envOfC q (L2.defScope st) s.heap.objs.size f cdv))→(A.deeper (envOfC q (L2.defScope st) s.heap.objs.size f cdv)).units+1<cLine→Takes (cxOf (L2.CX P w) P w K mg base N q (L2.defScope st) f cdv A outer s H E) (fun cls d _ H=>E cls d H)→
   ∃t,PSs (cxOf (L2.CX P w) P w K mg base N q (L2.defScope st) f cdv A outer s H E) (L2.defBody st) t∧RS ⟨K,mg⟩ (fun cls d _ H=>E cls d H) t fz) (hn:ps.length≤N.length:=by decide) (hn2:n=ps.length:=by rfl):∀(j:Nat) (hj:j≤dvs.length),MetZ P w K mg base (k+1) C m n (zFn N.length fz) (dvs.drop j):=
 Dh D S hn hn2 fun f cdv A outer s H E hr=>hb hr (hu_of hr) (takes_of (X:=cxOf (L2.CX P w) P w K mg base N q (L2.defScope st) f cdv A outer s H E) rfl rfl rfl rfl)
end
section
variable {P:Program} {w:World} {base:Heap} {K:PySem.W.Frag} {mg:Str→Option Value} {Ca Cb Cc Cd Ce Cf Cg Ch Ci Cj Ck Cl Cm Cn Co Cp Cq Cr Cs Ct Cu:Addr}
variable (T:Txt K mg Ca Cb Cc Cd Ce Cf Cg Ch Ci Cj Ck Cl Cm Cn Co Cp Cq Cr Cs Ct Cu) (D:DD K mg Ca Cb Cc Cd Ce Cf Cg Ch Ci Cj Ck Cl Cm Cn Co Cp Cq Cr Cs Ct Cu)
include T D
noncomputable def ig:SD→R Fl:=
 (aj (ax (zC (.int 1)) (zSt 2))
 (aj (bP (zB (z2 oGt (z1 jn (aa 0)) (zC (.int 0)))) (ax (z2 oIx (aa 0) (z2 dh (aa 1) (z1 jn (aa 0)))) (zSt 2)) az)
 (aj (ax (z2 cj (aa 1) (zC (.int 3))) (zSt 3))
 (bo (z2 dh (z2 oQ (z2 dh (z2 cj (z2 oQ (z2 dh (aa 2) (zC (.int 2147483629))) (zC (.int 48271))) (z2 oQ (z2 oQ (aa 3) (aa 3)) (zC (.int 69621)))) (zC (.int 2147483647))) (zC (.int 16807))) (zC (.int 2147483629)))))))
noncomputable def bc:FnV:=zFn N_Lnumber.length ig
theorem ka:CalZ P w K mg base 1 "_law_number" 2 bc []:=
 jD D.d_Lnumber iy fun hr hu tk=>⟨_,(pss_cons (stY 2 iy pe_int)
 (pss_cons (ps_if (ctY op_gt (bnY (bx (K:=K)) T.z_len (pa_cons (pv 0) pa_nil)) pe_int) (pss_one (stY 2 iy (ixY K hr (pv 0) (pe_op op_mod (pv 1) (bnY (bx (K:=K)) T.z_len (pa_cons (pv 0) pa_nil)))))) pss_nil)
 (pss_cons (stY 3 iy (pe_op (ay (K:=K)) (pv 1) pe_int))
 (pss_one (ps_ret (pe_op op_mod (pe_op dU (pe_op op_mod (pe_op (ay (K:=K)) (pe_op dU (pe_op op_mod (pv 2) pe_int) pe_int) (pe_op dU (pe_op dU (pv 3) (pv 3)) pe_int)) pe_int) pe_int) pe_int)))))),(RS.seq (aad aab RG.name)
 (RS.seq (aah (RT.val (aac q_gt (RE.c1 q_len aaa) aab)) (aad (aac bN aaa (aac bJ aaa (RE.c1 q_len aaa))) RG.name) RS.next)
 (RS.seq (aad (aac bG aaa aab) RG.name)
 (aaf (aac bJ (aac mW (aac bJ (aac bG (aac mW (aac bJ aaa aab) aab) (aac mW (aac mW aaa aaa) aab)) aab) aab) aab)))))⟩
noncomputable def kf:SD→R Fl:=
 (aj (ax (zC (.str "abcdefghijklmnopqrstuvwxyz")) (zSt 2))
 (aj (ax (z2 cj (zC (.int 3)) (z2 dh (aa 0) (zC (.int 5)))) (zSt 3))
 (aj (ax (zM1s qG (zC (.str "")) (zLc (pO (zA (zC (.int 12)) zA0)) (zSt 8) eU (z2 oIx (aa 2) (z2 dh (z2 cj (z2 fk (aa 0) (zC (.int 7))) (z2 oQ (aa 3) (aa 8))) (zC (.int 26)))) [8])) (zSt 4))
 (aj (bP (zB (z2 oEq (z2 dh (z2 fk (aa 0) (zC (.int 9))) (zC (.int 3))) (zC (.int 1)))) (bo (zLc (pO (zA (aa 1) zA0)) (zSt 9) eU (zSl (aa 4) zNo (zPt (z2 cj (aa 9) (zC (.int 1))))) [9])) az)
 (aj (ax (zSl (aa 4) zNo (zPt (z2 dh (aa 0) (zC (.int 8))))) (zSt 5))
 (aj (ax (z2 dh (z2 fk (aa 0) (zC (.int 200))) (z2 cj (z1 jn (aa 5)) (zC (.int 1)))) (zSt 6))
 (aj (ax (zLc (pO (zA (aa 1) zA0)) (zSt 9) eU (z2 oIx (aa 2) (z2 dh (z2 cj (z2 fk (aa 0) (zC (.int 2000))) (z2 oQ (zC (.int 5)) (aa 9))) (zC (.int 26)))) [9]) (zSt 7))
 (bo (zLc (gp (aZ (aa 7))) (zSt 10) eU (z2 cj (z2 cj (zSl (aa 5) zNo (zPt (aa 6))) (aa 10)) (zSl (aa 5) (zPt (aa 6)) zNo)) [10])))))))))
noncomputable def lR:FnV:=zFn N_Lnames.length kf
theorem DY:CalZ P w K mg base 1 "_law_names" 2 lR []:=
 jD D.d_Lnames aU fun hr hu tk=>⟨_,(pss_cons (stY 2 aU pe_str)
 (pss_cons (stY 3 aU (pe_op (ay (K:=K)) pe_int (pe_op op_mod (pv 0) pe_int)))
 (pss_cons (stY 4 aU (pe_join pe_str (lcY [("_law_j",8)] aU (pi_range1 rfl T.z_range (pa_cons pe_int pa_nil)) (gnY 8 aU) pts_nil (ixY K hr (pv 2) (pe_op op_mod (pe_op (ay (K:=K)) (pe_op op_fdivW (pv 0) pe_int) (pe_op dU (pv 3) (pv 8))) pe_int)))))
 (pss_cons (ps_if (ctY (eqY K hr) (pe_op op_mod (pe_op op_fdivW (pv 0) pe_int) pe_int) pe_int) (pss_one (ps_ret (lcY [("_law_k",9)] aU (pi_range1 rfl T.z_range (pa_cons (pv 1) pa_nil)) (gnY 9 aU) pts_nil (pe_slice (sl_Z (K:=K)) (pv 4) po_none (po_some (pe_op (ay (K:=K)) (pv 9) pe_int)))))) pss_nil)
 (pss_cons (stY 5 aU (pe_slice (sl_Z (K:=K)) (pv 4) po_none (po_some (pe_op op_mod (pv 0) pe_int))))
 (pss_cons (stY 6 aU (pe_op op_mod (pe_op op_fdivW (pv 0) pe_int) (pe_op (ay (K:=K)) (bnY (bx (K:=K)) T.z_len (pa_cons (pv 5) pa_nil)) pe_int)))
 (pss_cons (slY 7 [("_law_k",9)] aU (pi_range1 rfl T.z_range (pa_cons (pv 1) pa_nil)) (gnY 9 aU) pts_nil (ixY K hr (pv 2) (pe_op op_mod (pe_op (ay (K:=K)) (pe_op op_fdivW (pv 0) pe_int) (pe_op dU pe_int (pv 9))) pe_int)))
 (pss_one (ps_ret (lcY [("_law_sign",10)] aU (pi_list (pv 7)) (gnY 10 aU) pts_nil (pe_op (ay (K:=K)) (pe_op (ay (K:=K)) (pe_slice (sl_Z (K:=K)) (pv 5) po_none (po_some (pv 6))) (pv 10)) (pe_slice (sl_Z (K:=K)) (pv 5) (po_some (pv 6)) po_none)))))))))))),(RS.seq (aad aae RG.name)
 (RS.seq (aad (aac bG aab (aac bJ aaa aab)) RG.name)
 (RS.seq (aad (RE.join aae (aak (is:= [8]) (aar (RA.cons aab RA.nil)) RG.name aai (aac bN aaa (aac bJ (aac bG (aac dS aaa aab) (aac mW aaa aaa)) aab)))) RG.name)
 (RS.seq (aah (RT.val (aac oH (aac bJ (aac dS aaa aab) aab) aab)) (aaf (aak (is:= [9]) (aar (RA.cons aaa RA.nil)) RG.name aai (RE.sl aaa RO.no (RO.part (aac bG aaa aab))))) RS.next)
 (RS.seq (aad (RE.sl aaa RO.no (RO.part (aac bJ aaa aab))) RG.name)
 (RS.seq (aad (aac bJ (aac dS aaa aab) (aac bG (RE.c1 q_len aaa) aab)) RG.name)
 (RS.seq (aad (aak (is:= [9]) (aar (RA.cons aaa RA.nil)) RG.name aai (aac bN aaa (aac bJ (aac bG (aac dS aaa aab) (aac mW aab aaa)) aab))) RG.name)
 (aaf (aak (is:= [10]) (RI.lst (RE.fix aaa)) RG.name aai (aac bG (aac bG (RE.sl aaa RO.no (RO.part aaa)) aaa) (RE.sl aaa (RO.part aaa) RO.no)))))))))))⟩
noncomputable def kg:SD→R Fl:=
 (aj (ax (zC (.int 1)) (zSt 2))
 (aj (bP (zB (z2 oGt (z1 jn (aa 0)) (zC (.int 0)))) (ax (z2 oIx (aa 0) (z2 dh (aa 1) (z1 jn (aa 0)))) (zSt 2)) az)
 (bo (z2 dh (z2 oQ (z2 cj (z2 cj (z2 dh (aa 2) (z2 B5 (zC (.int 10)) (zC (.int 60)))) (zC (.int 1))) (z2 oQ (aa 1) (aa 1))) (z2 B5 (zC (.int 7)) (zC (.int 61)))) (z2 cj (z2 B5 (zC (.int 10)) (zC (.int 60))) (zC (.int 1)))))))
noncomputable def lS:FnV:=zFn N_Lgreat.length kg
theorem xC:CalZ P w K mg base 1 "_law_great" 2 lS []:=
 jD D.d_Lgreat mK fun hr hu tk=>⟨_,(pss_cons (stY 2 mK pe_int)
 (pss_cons (ps_if (ctY op_gt (bnY (bx (K:=K)) T.z_len (pa_cons (pv 0) pa_nil)) pe_int) (pss_one (stY 2 mK (ixY K hr (pv 0) (pe_op op_mod (pv 1) (bnY (bx (K:=K)) T.z_len (pa_cons (pv 0) pa_nil)))))) pss_nil)
 (pss_one (ps_ret (pe_op op_mod (pe_op dU (pe_op (ay (K:=K)) (pe_op (ay (K:=K)) (pe_op op_mod (pv 2) (pe_op ng pe_int pe_int)) pe_int) (pe_op dU (pv 1) (pv 1))) (pe_op ng pe_int pe_int)) (pe_op (ay (K:=K)) (pe_op ng pe_int pe_int) pe_int)))))),(RS.seq (aad aab RG.name)
 (RS.seq (aah (RT.val (aac q_gt (RE.c1 q_len aaa) aab)) (aad (aac bN aaa (aac bJ aaa (RE.c1 q_len aaa))) RG.name) RS.next)
 (aaf (aac bJ (aac mW (aac bG (aac bG (aac bJ aaa (aac zV aab aab)) aab) (aac mW aaa aaa)) (aac zV aab aab)) (aac bG (aac zV aab aab) aab)))))⟩
noncomputable def oz:SD→R Fl:=
 (aj (ax (z2 oIx (cM (zA (z2 dh (z2 fk (aa 2) (zC (.int 9))) (zC (.int 8))) (zA (z2 dh (z2 fk (aa 2) (zC (.int 9))) (zC (.int 3))) (zA (ar lS [] (zA (aa 0) (zA (aa 1) zA0))) (zA (z2 B5 (zC (.int 10)) (zC (.int 60))) (zA (zC (.int 0)) (zA (zC .non) zA0))))))) (z2 dh (aa 2) (zC (.int 6)))) (zSt 3))
 (aj (bP (zB (z2 oEq (z2 dh (z2 fk (aa 2) (zC (.int 100))) (zC (.int 9))) (zC (.int 1)))) (ax (z2 fk (ar lS [] (zA (aa 0) (zA (aa 1) zA0))) (z2 B5 (zC (.int 10)) (zC (.int 30)))) (zSt 3)) az)
 (bo (dj (zA (zC (.int 0)) (zA (aa 3) zA0))))))
noncomputable def uI:FnV:=zFn N_Lroom.length oz
theorem c_Lroom:CalZ P w K mg base 2 "_law_room" 3 uI []:=
 jD D.d_Lroom qr fun hr hu tk=>⟨_,(pss_cons (stY 3 qr (ixY K hr (pe_lst (pa_cons (pe_op op_mod (pe_op op_fdivW (pv 2) pe_int) pe_int) (pa_cons (pe_op op_mod (pe_op op_fdivW (pv 2) pe_int) pe_int) (pa_cons (clY (xC T D) hr tk (pa_cons (pv 0) (pa_cons (pv 1) pa_nil))) (pa_cons (pe_op ng pe_int pe_int) (pa_cons pe_int (pa_cons pe_non pa_nil))))))) (pe_op op_mod (pv 2) pe_int)))
 (pss_cons (ps_if (ctY (eqY K hr) (pe_op op_mod (pe_op op_fdivW (pv 2) pe_int) pe_int) pe_int) (pss_one (stY 3 qr (pe_op op_fdivW (clY (xC T D) hr tk (pa_cons (pv 0) (pa_cons (pv 1) pa_nil))) (pe_op ng pe_int pe_int)))) pss_nil)
 (pss_one (ps_ret (pe_tup (pa_cons pe_int (pa_cons (pv 3) pa_nil))))))),(RS.seq (aad (aac bN (RE.lst (RA.cons (aac bJ (aac dS aaa aab) aab) (RA.cons (aac bJ (aac dS aaa aab) aab) (RA.cons (RE.call .nil (RA.cons aaa (RA.cons aaa RA.nil)) (.cons (.cons Many.nil)) rfl) (RA.cons (aac zV aab aab) (RA.cons aab (RA.cons aag RA.nil)))))) (.cons (.cons (.cons (.cons (.cons (.cons Many.nil)))))) (by decide)) (aac bJ aaa aab)) RG.name)
 (RS.seq (aah (RT.val (aac oH (aac bJ (aac dS aaa aab) aab) aab)) (aad (aac dS (RE.call .nil (RA.cons aaa (RA.cons aaa RA.nil)) (.cons (.cons Many.nil)) rfl) (aac zV aab aab)) RG.name) RS.next)
 (aaf (RE.tup (RA.cons aab (RA.cons aaa RA.nil)) (.cons (.cons Many.nil)) (by decide)))))⟩
noncomputable def BV:SD→R Fl:=
 (aj (ax (ar bc [] (zA (aa 0) (zA (aa 1) zA0))) (zSt 3))
 (aj (ax (z2 dh (z2 fk (aa 3) (zC (.int 7))) (aa 2)) (zSt 4))
 (aj (ax (z2 dh (z2 cj (z2 cj (aa 4) (zC (.int 1))) (z2 dh (z2 fk (aa 3) (zC (.int 100))) (z2 tE (aa 2) (zC (.int 1))))) (aa 2)) (zSt 5))
 (aj (ax (ar uI [] (zA (aa 0) (zA (aa 1) (zA (z2 fk (aa 3) (zC (.int 1000))) zA0)))) (kj [6,7]))
 (bo (dk (Cv (zP (.inr "tail") (aa 4) (zP (.inr "head") (aa 5) (zP (.inr "least") (aa 6) (zP (.inr "most") (aa 7) (zP (.inr "price") (zC (.int 0)) zP0))))))))))))
noncomputable def sF:FnV:=zFn N_Lrow.length BV
theorem c_Lrow:CalZ P w K mg base 3 "_law_row" 3 sF []:=
 jD D.d_Lrow kF fun hr hu tk=>⟨_,(pss_cons (stY 3 kF (clY (ka T D) hr tk (pa_cons (pv 0) (pa_cons (pv 1) pa_nil))))
 (pss_cons (stY 4 kF (pe_op op_mod (pe_op op_fdivW (pv 3) pe_int) (pv 2)))
 (pss_cons (stY 5 kF (pe_op op_mod (pe_op (ay (K:=K)) (pe_op (ay (K:=K)) (pv 4) pe_int) (pe_op op_mod (pe_op op_fdivW (pv 3) pe_int) (pe_op op_sub (pv 2) pe_int))) (pv 2)))
 (pss_cons (ps_asg (clY (c_Lroom T D) hr tk (pa_cons (pv 0) (pa_cons (pv 1) (pa_cons (pe_op op_fdivW (pv 3) pe_int) pa_nil)))) (iS (K:=K) (n:=2) rfl (pgs_cons (gnY 6 kF) (pgs_cons (gnY 7 kF) pgs_nil))))
 (pss_one (ps_ret (pe_disp (pps_cons pe_str (pv 4) (pps_cons pe_str (pv 5) (pps_cons pe_str (pv 6) (pps_cons pe_str (pv 7) (pps_cons pe_str pe_int pps_nil))))) (by rfl) (by rfl) (fun z=>by cases z) (by decide)))))))),(RS.seq (aad (RE.call .nil (RA.cons aaa (RA.cons aaa RA.nil)) (.cons (.cons Many.nil)) rfl) RG.name)
 (RS.seq (aad (aac bJ (aac dS aaa aab) aaa) RG.name)
 (RS.seq (aad (aac bJ (aac bG (aac bG aaa aab) (aac bJ (aac dS aaa aab) (aac tf aaa aab))) aaa) RG.name)
 (RS.seq (aad (RE.call .nil (RA.cons aaa (RA.cons aaa (RA.cons (aac dS aaa aab) RA.nil))) (.cons (.cons (.cons Many.nil))) rfl) (RG.names (is:= [6,7]) rfl))
 (aaf (RE.cell (RE.disp (RP.cons (k:=(.inr "tail")) aaa (RP.cons (k:=(.inr "head")) aaa (RP.cons (k:=(.inr "least")) aaa (RP.cons (k:=(.inr "most")) aaa (RP.cons (k:=(.inr "price")) aab RP.nil))))))))))))⟩
noncomputable def ly:SD→R Fl:=
 (aj (cL ["Net"] "names" (aa 0) (dk (cM zA0)))
 (aj (cL ["Net"] "rows" (aa 0) (dk ku))
 (cL ["Net"] "last_given" (aa 0) (zC (.int 0)))))
noncomputable def dH:FnV:=zFn N_Net_init.length ly
theorem yo:MakZ P w K mg base 1 "Net" Cu 1 dH []:=
 makY D.d_Net_init vd fun hr hu tk=>⟨_,(pss_cons (ps_fld (pv 0) (pe_lst pa_nil) rfl)
 (pss_cons (ps_fld (pv 0) pe_dnewK rfl)
 (pss_one (ps_fld (pv 0) pe_int rfl)))),(RS.seq (RS.fld T.f_names_Net (RE.cell (RE.lst RA.nil Many.nil (by decide))) aaa)
 (RS.seq (RS.fld T.f_rows_Net (RE.cell aaq) aaa)
 (RS.fld T.f_last_given_Net aab aaa)))⟩
noncomputable def jy:SD→R Fl:=
 (bo (z1 C4 (zLc (zItS (aZ (aa 0))) (zSt 2) eU (z2 (oIn false) (aa 2) (aa 1)) [2])))
noncomputable def iW:FnV:=zFn N_are_signs.length jy
theorem wo:CalZ P w K mg base 1 "are_signs" 2 iW []:=
 jD D.d_are_signs gK fun hr hu tk=>⟨_,(pss_one (ps_ret (bnY (cr_all rfl) T.z_all (pa_cons (lcY [("sign",2)] gK (pi_str (pv 0)) (gnY 2 gK) pts_nil (cmY (inY K hr) (pv 2) (pv 1))) pa_nil)))),(aaf (RE.c1 q_all (aak (is:= [2]) (RI.str (RE.fix aaa)) RG.name aai (aac (q_in (neg:=false)) aaa aaa))))⟩
noncomputable def ox:SD→R Fl:=
 (bo (mn (z1 (xT .str) (aa 0)) (mn (sA oLe oLe (zC (.int 1)) (z1 jn (aa 0)) (zC (.int 12))) (ar iW [] (zA (aa 0) (zA (zC (.str "abcdefghijklmnopqrstuvwxyz")) zA0))))))
noncomputable def mz:FnV:=zFn N_is_name.length ox
theorem BQ:CalZ P w K mg base 2 "is_name" 1 mz []:=
 jD D.d_is_name xO fun hr hu tk=>⟨_,(pss_one (ps_ret (pe_and (bnY (vy (K:=K)) T.z_isinstance (pa_cons (pv 0) (pa_cons (btY "str" T.z_str) pa_nil))) (pe_and (pe_chain op_le op_le pe_int (bnY (bx (K:=K)) T.z_len (pa_cons (pv 0) pa_nil)) (tq rfl T.g_MOST_LETTERS)) (pe_one (clY (wo T D) hr tk (pa_cons (pv 0) (pa_cons (tq rfl T.g_LETTERS) pa_nil)))))))),(aaf (RE.andV (RE.isi (t:= .str) aaa) (RE.andV (RE.chain q_le q_le aab (RE.c1 q_len aaa) aab) (RE.call .nil (RA.cons aaa (RA.cons aae RA.nil)) (.cons (.cons Many.nil)) rfl))))⟩
noncomputable def dX:SD→R Fl:=
 (aj (bP (uB (zB (ar mz [] (zA (aa 1) zA0)))) jE az)
 (aj (bP (zB (z2 (oIn false) (aa 1) (z1 (bg ["Net"] "names") (aa 0)))) jE az)
 (aj (bP (zB (z2 oEq (z1 jn (z1 (bg ["Net"] "names") (aa 0))) (zC (.int 14)))) jE az)
 (aN (zM2 isL (oB2 bf) (z1 (bg ["Net"] "names") (aa 0)) (aZ (aa 1)))))))
noncomputable def cq:FnV:=zFn N_Net_put_place.length dX
theorem ot:MetZ P w K mg base 3 Cu "put_place" 2 cq []:=
 xg D.d_Net_put_place lM fun hr hu tk=>⟨_,(pss_cons (ps_if (pt_not (pt_val (clY (BQ T D) hr tk (pa_cons (pv 1) pa_nil)))) (pss_one ps_never) pss_nil)
 (pss_cons (ps_if (ctY (inY K hr) (pv 1) (fdY K (pv 0))) (pss_one ps_never) pss_nil)
 (pss_cons (ps_if (ctY (eqY K hr) (bnY (bx (K:=K)) T.z_len (pa_cons (fdY K (pv 0)) pa_nil)) (tq rfl T.g_MOST_PLACES)) (pss_one ps_never) pss_nil)
 (pss_one (ps_expr (pe_bm PySem.F.plainAttrs_list PySem.F.slot_list_append PySem.F.type_list_append mt_append (fdY K (pv 0)) (pa_cons (pv 1) pa_nil))))))),(RS.seq (aah (aam (RT.val (RE.call .nil (RA.cons aaa RA.nil) (.cons Many.nil) rfl))) RS.never RS.next)
 (RS.seq (aah (RT.val (aac (q_in (neg:=false)) aaa (RE.fld T.f_names_Net aaa))) RS.never RS.next)
 (RS.seq (aah (RT.val (aac oH (RE.c1 q_len (RE.fld T.f_names_Net aaa)) aab)) RS.never RS.next)
 (RS.drop (RE.append (RE.fld T.f_names_Net aaa) aaa)))))⟩
theorem pj:XiZ P w K mg base 1 "NoPlace" Ce "name" :=
 D.d_NoPlace_init.xi mJ fun fI cdv A outer s H E=>pss_one (ps_ost (pe_var rfl (Or.inl rfl)) (pe_var rfl (Or.inl rfl)))
noncomputable def bE:SD→R Fl:=
 (bP (zOr (uB (zB (z1 (xT .str) (aa 1)))) (zB (z2 (oIn true) (aa 1) (z1 (bg ["Net"] "names") (aa 0))))) (fA "NoPlace" "name" (aa 1)) az)
noncomputable def aG:FnV:=zFn N_Net_need_place.length bE
theorem bV:MetZ P w K mg base 3 Cu "need_place" 2 aG []:=
 xg D.d_Net_need_place kE fun hr hu tk=>⟨_,(pss_one (ps_if (PW.pt (pw_or (pt_not (pt_val (bnY (vy (K:=K)) T.z_isinstance (pa_cons (pv 1) (pa_cons (btY "str" T.z_str) pa_nil))))) (pw_or1 (ctY (niY K hr) (pv 1) (fdY K (pv 0)))))) (pss_one (gS (pj T D) rfl tk hr (by decide) (pv 1) rfl)) pss_nil)),(aah (RT.or (aam (RT.val (RE.isi (t:= .str) aaa))) (RT.val (aac (q_in (neg:=true)) aaa (RE.fld T.f_names_Net aaa)))) (aan D.d_NoPlace_init.gC D.d_NoPlace_init.T D.d_NoPlace_init.no aaa) RS.next)⟩
noncomputable def lg:SD→R Fl:=
 (bo (mn (z1 (xT .int) (aa 0)) (yt (z1 (xT .bool) (aa 0)))))
noncomputable def bF:FnV:=zFn N_is_whole.length lg
theorem iI:CalZ P w K mg base 1 "is_whole" 1 bF []:=
 jD D.d_is_whole uY fun hr hu tk=>⟨_,(pss_one (ps_ret (pe_and (bnY (vy (K:=K)) T.z_isinstance (pa_cons (pv 0) (pa_cons (btY "int" T.z_int) pa_nil))) (pe_one (pe_not (bnY (vy (K:=K)) T.z_isinstance (pa_cons (pv 0) (pa_cons (btY "bool" T.z_bool) pa_nil)))))))),(aaf (RE.andV (RE.isi (t:= .int) aaa) (aat (RE.isi (t:= .bool) aaa))))⟩
noncomputable def lj:SD→R Fl:=
 (bo (mn (ar bF [] (zA (aa 0) zA0)) (sA oLe oLe (aa 1) (aa 0) (aa 2))))
noncomputable def bX:FnV:=zFn N_is_among.length lj
theorem la:CalZ P w K mg base 2 "is_among" 3 bX []:=
 jD D.d_is_among uZ fun hr hu tk=>⟨_,(pss_one (ps_ret (pe_and (clY (iI T D) hr tk (pa_cons (pv 0) pa_nil)) (pe_one (pe_chain op_le op_le (pv 1) (pv 0) (pv 2)))))),(aaf (RE.andV (RE.call .nil (RA.cons aaa RA.nil) (.cons Many.nil) rfl) (RE.chain q_le q_le aaa aaa aaa)))⟩
noncomputable def jx:SD→R Fl:=
 (bP (zOr (uB (zB (ar bX [] (zA (aa 0) (zA (zC (.int 0)) (zA (zC (.int 1000000000000000000000000000000000000000000000000000000000000)) zA0)))))) (jF (zB (z2 (gu true) (aa 1) (zC .non))) (uB (zB (ar bX [] (zA (aa 1) (zA (aa 0) (zA (zC (.int 1000000000000000000000000000000000000000000000000000000000000)) zA0)))))))) jE az)
noncomputable def iV:FnV:=zFn N_need_room.length jx
theorem wj:CalZ P w K mg base 3 "need_room" 2 iV []:=
 jD D.d_need_room sP fun hr hu tk=>⟨_,(pss_one (ps_if (PW.pt (pw_or (pt_not (pt_val (clY (la T D) hr tk (pa_cons (pv 0) (pa_cons pe_int (pa_cons (tq rfl T.g_MOST) pa_nil)))))) (pw_or1 (PW.pt (pw_and (ctY dg (pv 1) pe_non) (pw_and1 (pt_not (pt_val (clY (la T D) hr tk (pa_cons (pv 1) (pa_cons (pv 0) (pa_cons (tq rfl T.g_MOST) pa_nil)))))))))))) (pss_one ps_never) pss_nil)),(aah (RT.or (aam (RT.val (RE.call .nil (RA.cons aaa (RA.cons aab (RA.cons aab RA.nil))) (.cons (.cons (.cons Many.nil))) rfl))) (aal (RT.val (aac (iK (neg:=true)) aaa aag)) (aam (RT.val (RE.call .nil (RA.cons aaa (RA.cons aaa (RA.cons aab RA.nil))) (.cons (.cons (.cons Many.nil))) rfl))))) RS.never RS.next)⟩
noncomputable def hZ:SD→R Fl:=
 (bP (uB (zB (ar bX [] (zA (aa 0) (zA (z2 tE (zC (.int 0)) (zC (.int 1000000000000000000000000000000000000000000000000000000000000))) (zA (zC (.int 1000000000000000000000000000000000000000000000000000000000000)) zA0)))))) jE az)
noncomputable def gG:FnV:=zFn N_need_price.length hZ
theorem uu:CalZ P w K mg base 3 "need_price" 1 gG []:=
 jD D.d_need_price qo fun hr hu tk=>⟨_,(pss_one (ps_if (pt_not (pt_val (clY (la T D) hr tk (pa_cons (pv 0) (pa_cons (pe_op op_sub pe_int (tq rfl T.g_MOST)) (pa_cons (tq rfl T.g_MOST) pa_nil)))))) (pss_one ps_never) pss_nil)),(aah (aam (RT.val (RE.call .nil (RA.cons aaa (RA.cons (aac tf aab aab) (RA.cons aab RA.nil))) (.cons (.cons (.cons Many.nil))) rfl))) RS.never RS.next)⟩
noncomputable def lu:SD→R Fl:=
 (aj (cL ["Tie"] "number" (aa 0) (aa 1))
 (aj (cL ["Tie"] "tail" (aa 0) (aa 2))
 (aj (cL ["Tie"] "head" (aa 0) (aa 3))
 (aj (cL ["Tie"] "least" (aa 0) (aa 4))
 (aj (cL ["Tie"] "most" (aa 0) (aa 5))
 (cL ["Tie"] "price" (aa 0) (aa 6)))))))
noncomputable def ip:FnV:=zFn N_Tie_init.length lu
theorem yn:MakZ P w K mg base 1 "Tie" Ct 7 ip []:=
 makY D.d_Tie_init vc fun hr hu tk=>⟨_,(pss_cons (ps_fld (pv 0) (pv 1) rfl)
 (pss_cons (ps_fld (pv 0) (pv 2) rfl)
 (pss_cons (ps_fld (pv 0) (pv 3) rfl)
 (pss_cons (ps_fld (pv 0) (pv 4) rfl)
 (pss_cons (ps_fld (pv 0) (pv 5) rfl)
 (pss_one (ps_fld (pv 0) (pv 6) rfl))))))),(RS.seq (RS.fld T.f_number_Tie aaa aaa)
 (RS.seq (RS.fld T.f_tail_Tie aaa aaa)
 (RS.seq (RS.fld T.f_head_Tie aaa aaa)
 (RS.seq (RS.fld T.f_least_Tie aaa aaa)
 (RS.seq (RS.fld T.f_most_Tie aaa aaa)
 (RS.fld T.f_price_Tie aaa aaa))))))⟩
noncomputable def cK:SD→R Fl:=
 (aj (aN (aD "Net" "need_place" aG [] (aa 0) (zA (aa 2) zA0)))
 (aj (aN (aD "Net" "need_place" aG [] (aa 0) (zA (aa 3) zA0)))
 (aj (bP (zB (z2 oEq (aa 2) (aa 3))) jE az)
 (aj (aN (ar iV [] (zA (aa 4) (zA (aa 5) zA0))))
 (aj (aN (ar gG [] (zA (aa 6) zA0)))
 (aj (bP (zB (z2 oEq (z1 jn (z1 (bg ["Net"] "rows") (aa 0))) (zC (.int 40)))) jE az)
 (aj (eV (z1 (bg ["Net"] "rows") (aa 0)) (aa 1) (zFrz (lL "Tie" ip [] (zA (aa 1) (zA (aa 2) (zA (aa 3) (zA (aa 4) (zA (aa 5) (zA (aa 6) zA0)))))))))
 (aj (cL ["Net"] "last_given" (aa 0) (aa 1))
 (bo (aa 1))))))))))
noncomputable def cw:FnV:=zFn N_Net_put_numbered.length cK
theorem jZ:MetZ P w K mg base 4 Cu "put_numbered" 7 cw []:=
 xg D.d_Net_put_numbered jb fun hr hu tk=>⟨_,(pss_cons (ps_expr (eo (bV T D) hr (by decide) tk (pv 0) (pa_cons (pv 2) pa_nil)))
 (pss_cons (ps_expr (eo (bV T D) hr (by decide) tk (pv 0) (pa_cons (pv 3) pa_nil)))
 (pss_cons (ps_if (ctY (eqY K hr) (pv 2) (pv 3)) (pss_one ps_never) pss_nil)
 (pss_cons (ps_expr (clY (wj T D) hr tk (pa_cons (pv 4) (pa_cons (pv 5) pa_nil))))
 (pss_cons (ps_expr (clY (uu T D) hr tk (pa_cons (pv 6) pa_nil)))
 (pss_cons (ps_if (ctY (eqY K hr) (bnY (bx (K:=K)) T.z_len (pa_cons (fdY K (pv 0)) pa_nil)) (tq rfl T.g_MOST_TIES)) (pss_one ps_never) pss_nil)
 (pss_cons (ps_dput hu (fdY K (pv 0)) (pv 1) (mkY (yn T D) hr tk (pa_cons (pv 1) (pa_cons (pv 2) (pa_cons (pv 3) (pa_cons (pv 4) (pa_cons (pv 5) (pa_cons (pv 6) pa_nil))))))) rfl)
 (pss_cons (ps_fld (pv 0) (pv 1) rfl)
 (pss_one (ps_ret (pv 1))))))))))),(RS.seq (RS.drop (RE.meth T.m_Net .nil aaa (RA.cons aaa RA.nil) (.cons Many.nil) rfl))
 (RS.seq (RS.drop (RE.meth T.m_Net .nil aaa (RA.cons aaa RA.nil) (.cons Many.nil) rfl))
 (RS.seq (aah (RT.val (aac oH aaa aaa)) RS.never RS.next)
 (RS.seq (RS.drop (RE.call .nil (RA.cons aaa (RA.cons aaa RA.nil)) (.cons (.cons Many.nil)) rfl))
 (RS.seq (RS.drop (RE.call .nil (RA.cons aaa RA.nil) (.cons Many.nil) rfl))
 (RS.seq (aah (RT.val (aac oH (RE.c1 q_len (RE.fld T.f_rows_Net aaa)) aab)) RS.never RS.next)
 (RS.seq (aap (RE.fld T.f_rows_Net aaa) aaa (RE.frz (RE.make T.m_Tie .nil (RA.cons aaa (RA.cons aaa (RA.cons aaa (RA.cons aaa (RA.cons aaa (RA.cons aaa RA.nil)))))) (.cons (.cons (.cons (.cons (.cons (.cons Many.nil)))))) rfl)))
 (RS.seq (RS.fld T.f_last_given_Net aaa aaa)
 (aaf aaa)))))))))⟩
noncomputable def gc:SD→R Fl:=
 (bo (aD "Net" "put_numbered" cw [] (aa 0) (zA (z2 cj (z1 (bg ["Net"] "last_given") (aa 0)) (zC (.int 1))) (zA (aa 1) (zA (aa 2) (zA (aa 3) (zA (aa 4) (zA (aa 5) zA0))))))))
noncomputable def aR:FnV:=zFn N_Net_put_tie.length gc
theorem jY:∀(j:Nat) (hj:j≤([.int 0, .non, .int 0]:List V).length),MetZ P w K mg base 5 Cu "put_tie" 6 aR (([.int 0, .non, .int 0]:List V).drop j):=
 metdY D.d_Net_put_tie oO fun hr hu tk=>⟨_,(pss_one (ps_ret (eo (jZ T D) hr (by decide) tk (pv 0) (pa_cons (pe_op (ay (K:=K)) (fdY K (pv 0)) pe_int) (pa_cons (pv 1) (pa_cons (pv 2) (pa_cons (pv 3) (pa_cons (pv 4) (pa_cons (pv 5) pa_nil))))))))),(aaf (RE.meth T.m_Net .nil aaa (RA.cons (aac bG (RE.fld T.f_last_given_Net aaa) aab) (RA.cons aaa (RA.cons aaa (RA.cons aaa (RA.cons aaa (RA.cons aaa RA.nil)))))) (.cons (.cons (.cons (.cons (.cons (.cons Many.nil)))))) rfl))⟩
noncomputable def oA:SD→R Fl:=
 (aj (ax (lL "Net" dH [] zA0) (zSt 2))
 (aj (eJ (gp (aZ (aa 0))) (zSt 3) (aN (aD "Net" "put_place" cq [] (aa 2) (zA (aa 3) zA0))))
 (aj (eJ (gp (aZ (aa 1))) (zSt 4) (bP (jF (zB (z2 oEq (z2 oIx (aa 4) (zC (.str "price"))) (zC (.int 0)))) (jF (zB (z2 oEq (z2 oIx (aa 4) (zC (.str "least"))) (zC (.int 0)))) (zB (z2 (gu false) (z2 oIx (aa 4) (zC (.str "most"))) (zC .non))))) (aN (aD "Net" "put_tie" aR [.int 0, .non, .int 0] (aa 2) (zA (z2 oIx (aa 0) (z2 oIx (aa 4) (zC (.str "tail")))) (zA (z2 oIx (aa 0) (z2 oIx (aa 4) (zC (.str "head")))) zA0)))) (aN (aD "Net" "put_tie" aR [] (aa 2) (zA (z2 oIx (aa 0) (z2 oIx (aa 4) (zC (.str "tail")))) (zA (z2 oIx (aa 0) (z2 oIx (aa 4) (zC (.str "head")))) (zA (z2 oIx (aa 4) (zC (.str "least"))) (zA (z2 oIx (aa 4) (zC (.str "most"))) (zA (z2 oIx (aa 4) (zC (.str "price"))) zA0)))))))))
 (bo (aa 2)))))
noncomputable def gH:FnV:=zFn N_Lmade.length oA
theorem c_Lmade:CalZ P w K mg base 6 "_law_made" 2 gH []:=
 jD D.d_Lmade lT fun hr hu tk=>⟨_,(pss_cons (stY 2 lT (m_mkZ0 (yo T D) hr (by decide) tk rfl))
 (pss_cons (ps_for (passes_of rfl) rfl (pi_list (pv 0)) (gnY 3 lT) (pss_one (ps_expr (eo (ot T D) hr (by decide) tk (pv 2) (pa_cons (pv 3) pa_nil)))))
 (pss_cons (ps_for (passes_of rfl) rfl (pi_list (pv 1)) (gnY 4 lT) (pss_one (ps_if (PW.pt (pw_and (ctY (eqY K hr) (ixY K hr (pv 4) pe_str) pe_int) (pw_and (ctY (eqY K hr) (ixY K hr (pv 4) pe_str) pe_int) (pw_and1 (ctY lE (ixY K hr (pv 4) pe_str) pe_non))))) (pss_one (ps_expr (eo ((jY T D) 0 (by decide)) hr (by decide) tk (pv 2) (pa_cons (ixY K hr (pv 0) (ixY K hr (pv 4) pe_str)) (pa_cons (ixY K hr (pv 0) (ixY K hr (pv 4) pe_str)) pa_nil))))) (pss_one (ps_expr (eo ((jY T D) 3 (by decide)) hr (by decide) tk (pv 2) (pa_cons (ixY K hr (pv 0) (ixY K hr (pv 4) pe_str)) (pa_cons (ixY K hr (pv 0) (ixY K hr (pv 4) pe_str)) (pa_cons (ixY K hr (pv 4) pe_str) (pa_cons (ixY K hr (pv 4) pe_str) (pa_cons (ixY K hr (pv 4) pe_str) pa_nil)))))))))))
 (pss_one (ps_ret (pv 2)))))),(RS.seq (aad (RE.make T.m_Net .nil RA.nil Many.nil rfl) RG.name)
 (RS.seq (RS.for' (RI.lst (RE.fix aaa)) RG.name (RS.drop (RE.meth T.m_Net .nil aaa (RA.cons aaa RA.nil) (.cons Many.nil) rfl)))
 (RS.seq (RS.for' (RI.lst (RE.fix aaa)) RG.name (aah (aal (RT.val (aac oH (aac bN aaa aae) aab)) (aal (RT.val (aac oH (aac bN aaa aae) aab)) (RT.val (aac (iK (neg:=false)) (aac bN aaa aae) aag)))) (RS.drop (RE.meth T.m_Net (.cons rfl (.cons rfl (.cons rfl .nil))) aaa (RA.cons (aac bN aaa (aac bN aaa aae)) (RA.cons (aac bN aaa (aac bN aaa aae)) RA.nil)) (.cons (.cons Many.nil)) rfl)) (RS.drop (RE.meth T.m_Net .nil aaa (RA.cons (aac bN aaa (aac bN aaa aae)) (RA.cons (aac bN aaa (aac bN aaa aae)) (RA.cons (aac bN aaa aae) (RA.cons (aac bN aaa aae) (RA.cons (aac bN aaa aae) RA.nil))))) (.cons (.cons (.cons (.cons (.cons Many.nil))))) rfl))))
 (aaf aaa))))⟩
noncomputable def ic:SD→R Fl:=
 (bo (z1 qF (z1 (bg ["Net"] "names") (aa 0))))
noncomputable def bh:FnV:=zFn N_Net_places.length ic
theorem eG:MetZ P w K mg base 1 Cu "places" 1 bh []:=
 xg D.d_Net_places qp fun hr hu tk=>⟨_,(pss_one (ps_ret (tyY (mb (K:=K) rfl) T.z_list (pa_cons (fdY K (pv 0)) pa_nil)))),(aaf (RE.c1 zW (RE.fld T.f_names_Net aaa)))⟩
noncomputable def lx:SD→R Fl:=
 (bo (zLc (gp (aZ (z1 jm (z1 qF (z1 (bg ["Net"] "rows") (aa 0)))))) (zSt 1) eU (z2 oIx (z1 (bg ["Net"] "rows") (aa 0)) (aa 1)) [1]))
noncomputable def bb:FnV:=zFn N_Net_ties.length lx
theorem dJ:MetZ P w K mg base 1 Cu "ties" 1 bb []:=
 xg D.d_Net_ties ja fun hr hu tk=>⟨_,(pss_one (ps_ret (lcY [("number",1)] ja (pi_list (bnY (yh (K:=K) rfl) T.z_sorted (pa_cons (tyY (mb (K:=K) rfl) T.z_list (pa_cons (fdY K (pv 0)) pa_nil)) pa_nil))) (gnY 1 ja) pts_nil (ixY K hr (fdY K (pv 0)) (pv 1))))),(aaf (aak (is:= [1]) (RI.lst (RE.fix (RE.c1 CP (RE.c1 zW (RE.fld T.f_rows_Net aaa))))) RG.name aai (aac bN (RE.fld T.f_rows_Net aaa) aaa)))⟩
noncomputable def fU:SD→R Fl:=
 (bo (z1 oStr (aa 0)))
noncomputable def bq:FnV:=zFn N_number_text.length fU
theorem cI:CalZ P w K mg base 1 "number_text" 1 bq []:=
 jD D.d_number_text oM fun hr hu tk=>⟨_,(pss_one (ps_ret (tyY yg T.z_str (pa_cons (pv 0) pa_nil)))),(aaf (RE.c1 q_str aaa))⟩
noncomputable def fu:SD→R Fl:=
 (aj (ax (zIf (zB (z2 (gu false) (z1 (bg ["Tie"] "most") (aa 0)) (zC .non))) (zC (.str "any")) (ar bq [] (zA (z1 (bg ["Tie"] "most") (aa 0)) zA0))) (zSt 1))
 (aj (ax (cM (zA (zC (.str "tie")) (zA (ar bq [] (zA (z1 (bg ["Tie"] "number") (aa 0)) zA0)) (zA (z1 (bg ["Tie"] "tail") (aa 0)) (zA (z1 (bg ["Tie"] "head") (aa 0)) (zA (ar bq [] (zA (z1 (bg ["Tie"] "least") (aa 0)) zA0)) (zA (aa 1) zA0))))))) (zSt 2))
 (bo (zM1s qG (zC (.str " ")) (z2 cj (aa 2) (cM (zA (ar bq [] (zA (z1 (bg ["Tie"] "price") (aa 0)) zA0)) zA0)))))))
noncomputable def ij:FnV:=zFn N_tie_line.length fu
theorem ym:CalZ P w K mg base 2 "tie_line" 1 ij []:=
 jD D.d_tie_line iZ fun hr hu tk=>⟨_,(pss_cons (stY 1 iZ (pe_ifExp (ctY lE (fdY K (pv 0)) pe_non) pe_str (clY (cI T D) hr tk (pa_cons (fdY K (pv 0)) pa_nil))))
 (pss_cons (stY 2 iZ (pe_lst (pa_cons pe_str (pa_cons (clY (cI T D) hr tk (pa_cons (fdY K (pv 0)) pa_nil)) (pa_cons (fdY K (pv 0)) (pa_cons (fdY K (pv 0)) (pa_cons (clY (cI T D) hr tk (pa_cons (fdY K (pv 0)) pa_nil)) (pa_cons (pv 1) pa_nil))))))))
 (pss_one (ps_ret (pe_join pe_str (pe_op (ay (K:=K)) (pv 2) (pe_lst (pa_cons (clY (cI T D) hr tk (pa_cons (fdY K (pv 0)) pa_nil)) pa_nil)))))))),(RS.seq (aad (RE.if' (RT.val (aac (iK (neg:=false)) (RE.fld T.f_most_Tie aaa) aag)) aae (RE.call .nil (RA.cons (RE.fld T.f_most_Tie aaa) RA.nil) (.cons Many.nil) rfl)) RG.name)
 (RS.seq (aad (RE.lst (RA.cons aae (RA.cons (RE.call .nil (RA.cons (RE.fld T.f_number_Tie aaa) RA.nil) (.cons Many.nil) rfl) (RA.cons (RE.fld T.f_tail_Tie aaa) (RA.cons (RE.fld T.f_head_Tie aaa) (RA.cons (RE.call .nil (RA.cons (RE.fld T.f_least_Tie aaa) RA.nil) (.cons Many.nil) rfl) (RA.cons aaa RA.nil)))))) (.cons (.cons (.cons (.cons (.cons (.cons Many.nil)))))) (by decide)) RG.name)
 (aaf (RE.join aae (aac bG aaa (RE.lst (RA.cons (RE.call .nil (RA.cons (RE.fld T.f_price_Tie aaa) RA.nil) (.cons Many.nil) rfl) RA.nil) (.cons Many.nil) (by decide)))))))⟩
noncomputable def jA:SD→R Fl:=
 (bo (z1 (bg ["Net"] "last_given") (aa 0)))
noncomputable def iX:FnV:=zFn N_Net_given.length jA
theorem wx:MetZ P w K mg base 1 Cu "given" 1 iX []:=
 xg D.d_Net_given sS fun hr hu tk=>⟨_,(pss_one (ps_ret (fdY K (pv 0)))),(aaf (RE.fld T.f_last_given_Net aaa))⟩
noncomputable def jw:SD→R Fl:=
 (aj (ax (zLc (gp (aZ (aD "Net" "places" bh [] (aa 0) zA0))) (zSt 2) eU (z2 cj (zC (.str "place ")) (aa 2)) [2]) (zSt 1))
 (aj (aN (zM2 isL (oB2 kW) (aa 1) (aZ (zLc (gp (aZ (aD "Net" "ties" bb [] (aa 0) zA0))) (zSt 3) eU (ar ij [] (zA (aa 3) zA0)) [3]))))
 (bo (z2 cj (aa 1) (cM (zA (z2 cj (zC (.str "given ")) (ar bq [] (zA (aD "Net" "given" iX [] (aa 0) zA0) zA0))) zA0))))))
noncomputable def aC:FnV:=zFn N_net_lines.length jw
theorem om:CalZ P w K mg base 3 "net_lines" 1 aC []:=
 jD D.d_net_lines de fun hr hu tk=>⟨_,(pss_cons (slY 1 [("name",2)] de (pi_list (gW (eG T D) hr (by decide) tk (pv 0))) (gnY 2 de) pts_nil (pe_op (ay (K:=K)) pe_str (pv 2)))
 (pss_cons (ps_expr (pe_bm PySem.F.plainAttrs_list PySem.F.slot_list_extend PySem.F.type_list_extend mt_extend (pv 1) (pa_cons (lcY [("tie",3)] de (pi_list (gW (dJ T D) hr (by decide) tk (pv 0))) (gnY 3 de) pts_nil (clY (ym T D) hr mF (pa_cons (pv 3) pa_nil))) pa_nil)))
 (pss_one (ps_ret (pe_op (ay (K:=K)) (pv 1) (pe_lst (pa_cons (pe_op (ay (K:=K)) pe_str (clY (cI T D) hr tk (pa_cons (gW (wx T D) hr (by decide) tk (pv 0)) pa_nil))) pa_nil))))))),(RS.seq (aad (aak (is:= [2]) (RI.lst (RE.fix (RE.meth T.m_Net .nil aaa RA.nil Many.nil rfl))) RG.name aai (aac bG aae aaa)) RG.name)
 (RS.seq (RS.drop (RE.extend aaa (aak (is:= [3]) (RI.lst (RE.fix (RE.meth T.m_Net .nil aaa RA.nil Many.nil rfl))) RG.name aai (RE.call .nil (RA.cons aaa RA.nil) (.cons Many.nil) rfl))))
 (aaf (aac bG aaa (RE.lst (RA.cons (aac bG aae (RE.call .nil (RA.cons (RE.meth T.m_Net .nil aaa RA.nil Many.nil rfl) RA.nil) (.cons Many.nil) rfl)) RA.nil) (.cons Many.nil) (by decide))))))⟩
noncomputable def gj:SD→R Fl:=
 (aj (ax (cM (zA (aa 1) zA0)) (zSt 3))
 (aj (eJ (pO (zA (zC (.int 6)) zA0)) (zSt 4) (eJ (gp (aZ (aa 0))) (zSt 5) (bP (jF (zB (z2 (gu false) (z2 oIx (aa 5) (zC (.str "most"))) (zC .non))) (jF (zB (z2 (oIn false) (z2 oIx (aa 5) (zC (.str "tail"))) (aa 3))) (zB (z2 (oIn true) (z2 oIx (aa 5) (zC (.str "head"))) (aa 3))))) (aN (zM2 isL (oB2 bf) (aa 3) (aZ (z2 oIx (aa 5) (zC (.str "head")))))) az)))
 (bo (z2 (oIn false) (aa 2) (aa 3)))))
noncomputable def dA:FnV:=zFn N_Lis_endless.length gj
theorem rY:CalZ P w K mg base 1 "_law_is_endless" 3 dA []:=
 jD D.d_Lis_endless cV fun hr hu tk=>⟨_,(pss_cons (stY 3 cV (pe_lst (pa_cons (pv 1) pa_nil)))
 (pss_cons (ps_for (passes_of rfl) rfl (pi_range1 rfl T.z_range (pa_cons pe_int pa_nil)) (gnY 4 cV) (pss_one (ps_for (passes_of rfl) rfl (pi_list (pv 0)) (gnY 5 cV) (pss_one (ps_if (PW.pt (pw_and (ctY lE (ixY K hr (pv 5) pe_str) pe_non) (pw_and (ctY (inY K hr) (ixY K hr (pv 5) pe_str) (pv 3)) (pw_and1 (ctY (niY K hr) (ixY K hr (pv 5) pe_str) (pv 3)))))) (pss_one (ps_expr (pe_bm PySem.F.plainAttrs_list PySem.F.slot_list_append PySem.F.type_list_append mt_append (pv 3) (pa_cons (ixY K hr (pv 5) pe_str) pa_nil)))) pss_nil)))))
 (pss_one (ps_ret (cmY (inY K hr) (pv 2) (pv 3)))))),(RS.seq (aad (RE.lst (RA.cons aaa RA.nil) (.cons Many.nil) (by decide)) RG.name)
 (RS.seq (RS.for' (aar (RA.cons aab RA.nil)) RG.name (RS.for' (RI.lst (RE.fix aaa)) RG.name (aah (aal (RT.val (aac (iK (neg:=false)) (aac bN aaa aae) aag)) (aal (RT.val (aac (q_in (neg:=false)) (aac bN aaa aae) aaa)) (RT.val (aac (q_in (neg:=true)) (aac bN aaa aae) aaa)))) (RS.drop (RE.append aaa (aac bN aaa aae))) RS.next)))
 (aaf (aac (q_in (neg:=false)) aaa aaa))))⟩
noncomputable def gk:SD→R Fl:=
 (aj (ax (z1 qF (aa 1)) (zSt 3))
 (aj (ax (cM (zA (zC .non) (zA (cM (zA (aa 1) zA0)) (zA (zC (.str "flow")) (zA (zC (.int 5)) (zA (z1 fN (z2 cj (z1 gU (aa 1)) (cM (zA (dj (zA (zC (.int 99)) (zA (zC (.int 0)) zA0))) zA0)))) (zA (z1 fN (z2 cj (z1 gU (aa 1)) (cM (zA (dj (zA (zC (.str "1")) (zA (zC (.int 0)) zA0))) zA0)))) zA0))))))) (zSt 4))
 (aj (ax (z2 cj (aa 4) (cM (zA (z1 nj (z2 cj (z1 gU (aa 1)) (cM (zA (dj (zA (zC .non) (zA (zC (.int 1)) zA0))) zA0)))) zA0))) (zSt 4))
 (aj (bP (zOr (zB (z2 oEq (aa 3) (cM zA0))) (zB (z2 oEq (z2 dh (aa 2) (zC (.int 3))) (zC (.int 0))))) (bo (dj (zA (z2 oIx (aa 4) (z2 dh (z2 fk (aa 2) (zC (.int 3))) (z1 jn (aa 4)))) (zA (zC (.int 0)) zA0)))) az)
 (aj (ax (z2 dh (z2 fk (aa 2) (zC (.int 3))) (z1 jn (aa 3))) (zSt 5))
 (aj (bP (zB (z2 oEq (z2 dh (aa 2) (zC (.int 3))) (zC (.int 1)))) (bo (dj (zA (z1 fN (zLc (gp (aZ (aa 3))) (zSt 9) (zB (z2 oNe (aa 9) (z2 oIx (aa 3) (aa 5)))) (dj (zA (aa 9) (zA (z2 oIx (aa 1) (aa 9)) zA0))) [9])) (zA (zC (.int 0)) zA0)))) az)
 (aj (ax (z2 oIx (z2 oIx (aa 0) (aa 5)) (zC (.str "most"))) (zSt 6))
 (aj (ax (cM (zA (zC (.bl true)) (zA (zC (.str "0")) (zA (zC .non) (zA (z1 oNeg (zC (.int 1))) (zA (cM (zA (zC (.int 0)) zA0)) (zA (dj (zA (zC (.int 0)) zA0)) zA0))))))) (zSt 7))
 (aj (bP (zB (z2 (gu true) (aa 6) (zC .non))) (aN (zM2 isL (oB2 bf) (aa 7) (aZ (z2 cj (aa 6) (zC (.int 1)))))) az)
 (aj (ax (z1 fN (aa 1)) (zSt 8))
 (aj (eV (aa 8) (z2 oIx (aa 3) (aa 5)) (z2 oIx (aa 7) (z2 dh (z2 fk (aa 2) (zC (.int 100))) (z1 jn (aa 7)))))
 (bo (dj (zA (aa 8) (zA (z2 oIx (aa 3) (aa 5)) zA0)))))))))))))))
noncomputable def qb:FnV:=zFn N_Lbent.length gk
theorem c_Lbent:CalZ P w K mg base 1 "_law_bent" 3 qb []:=
 jD D.d_Lbent cW fun hr hu tk=>⟨_,(pss_cons (stY 3 cW (tyY (mb (K:=K) rfl) T.z_list (pa_cons (pv 1) pa_nil)))
 (pss_cons (stY 4 cW (pe_lst (pa_cons pe_non (pa_cons (pe_lst (pa_cons (pv 1) pa_nil)) (pa_cons pe_str (pa_cons pe_int (pa_cons (tyY (iH (K:=K) rfl) T.z_dict (pa_cons (pe_op (ay (K:=K)) (LiI.pe_listItems rfl (pv 1) rfl T.z_list (by decide+kernel)) (pe_lst (pa_cons (pe_tup (pa_cons pe_int (pa_cons pe_int pa_nil))) pa_nil))) pa_nil)) (pa_cons (tyY (iH (K:=K) rfl) T.z_dict (pa_cons (pe_op (ay (K:=K)) (LiI.pe_listItems rfl (pv 1) rfl T.z_list (by decide+kernel)) (pe_lst (pa_cons (pe_tup (pa_cons pe_str (pa_cons pe_int pa_nil))) pa_nil))) pa_nil)) pa_nil))))))))
 (pss_cons (stY 4 cW (pe_op (ay (K:=K)) (pv 4) (pe_lst (pa_cons (tyY (DS (K:=K) rfl) T.z_dict (pa_cons (pe_op (ay (K:=K)) (LiI.pe_listItems rfl (pv 1) rfl T.z_list (by decide+kernel)) (pe_lst (pa_cons (pe_tup (pa_cons pe_non (pa_cons pe_int pa_nil))) pa_nil))) pa_nil)) pa_nil))))
 (pss_cons (ps_if (PW.pt (pw_or (ctY (eqY K hr) (pv 3) (pe_lst pa_nil)) (pw_or1 (ctY (eqY K hr) (pe_op op_mod (pv 2) pe_int) pe_int)))) (pss_one (ps_ret (pe_tup (pa_cons (ixY K hr (pv 4) (pe_op op_mod (pe_op op_fdivW (pv 2) pe_int) (bnY (bx (K:=K)) T.z_len (pa_cons (pv 4) pa_nil)))) (pa_cons pe_int pa_nil))))) pss_nil)
 (pss_cons (stY 5 cW (pe_op op_mod (pe_op op_fdivW (pv 2) pe_int) (bnY (bx (K:=K)) T.z_len (pa_cons (pv 3) pa_nil))))
 (pss_cons (ps_if (ctY (eqY K hr) (pe_op op_mod (pv 2) pe_int) pe_int) (pss_one (ps_ret (pe_tup (pa_cons (tyY (iH (K:=K) rfl) T.z_dict (pa_cons (lcY [("_law_key",9)] cW (pi_list (pv 3)) (gnY 9 cW) (pts_one (ctY (neY K hr) (pv 9) (ixY K hr (pv 3) (pv 5)))) (pe_tup (pa_cons (pv 9) (pa_cons (ixY K hr (pv 1) (pv 9)) pa_nil)))) pa_nil)) (pa_cons pe_int pa_nil))))) pss_nil)
 (pss_cons (stY 6 cW (ixY K hr (ixY K hr (pv 0) (pv 5)) pe_str))
 (pss_cons (stY 7 cW (pe_lst (pa_cons pe_bl (pa_cons pe_str (pa_cons pe_non (pa_cons (pe_un un_neg pe_int) (pa_cons (pe_lst (pa_cons pe_int pa_nil)) (pa_cons (pe_tup (pa_cons pe_int pa_nil)) pa_nil))))))))
 (pss_cons (ps_if (ctY dg (pv 6) pe_non) (pss_one (ps_expr (pe_bm PySem.F.plainAttrs_list PySem.F.slot_list_append PySem.F.type_list_append mt_append (pv 7) (pa_cons (pe_op (ay (K:=K)) (pv 6) pe_int) pa_nil)))) pss_nil)
 (pss_cons (stY 8 cW (tyY (iH (K:=K) rfl) T.z_dict (pa_cons (pv 1) pa_nil)))
 (pss_cons (ps_dput hu (pv 8) (ixY K hr (pv 3) (pv 5)) (ixY K hr (pv 7) (pe_op op_mod (pe_op op_fdivW (pv 2) pe_int) (bnY (bx (K:=K)) T.z_len (pa_cons (pv 7) pa_nil)))) rfl)
 (pss_one (ps_ret (pe_tup (pa_cons (pv 8) (pa_cons (ixY K hr (pv 3) (pv 5)) pa_nil)))))))))))))))),(RS.seq (aad (RE.c1 zW aaa) RG.name)
 (RS.seq (aad (RE.lst (RA.cons aag (RA.cons (RE.lst (RA.cons aaa RA.nil) (.cons Many.nil) (by decide)) (RA.cons aae (RA.cons aab (RA.cons (RE.c1 pD (aac bG (aao aaa) (RE.lst (RA.cons (RE.tup (RA.cons aab (RA.cons aab RA.nil)) (.cons (.cons Many.nil)) (by decide)) RA.nil) (.cons Many.nil) (by decide)))) (RA.cons (RE.c1 pD (aac bG (aao aaa) (RE.lst (RA.cons (RE.tup (RA.cons aae (RA.cons aab RA.nil)) (.cons (.cons Many.nil)) (by decide)) RA.nil) (.cons Many.nil) (by decide)))) RA.nil)))))) (.cons (.cons (.cons (.cons (.cons (.cons Many.nil)))))) (by decide)) RG.name)
 (RS.seq (aad (aac bG aaa (RE.lst (RA.cons (RE.c1 q_dictU (aac bG (aao aaa) (RE.lst (RA.cons (RE.tup (RA.cons aag (RA.cons aab RA.nil)) (.cons (.cons Many.nil)) (by decide)) RA.nil) (.cons Many.nil) (by decide)))) RA.nil) (.cons Many.nil) (by decide))) RG.name)
 (RS.seq (aah (RT.or (RT.val (aac oH aaa (RE.lst RA.nil Many.nil (by decide)))) (RT.val (aac oH (aac bJ aaa aab) aab))) (aaf (RE.tup (RA.cons (aac bN aaa (aac bJ (aac dS aaa aab) (RE.c1 q_len aaa))) (RA.cons aab RA.nil)) (.cons (.cons Many.nil)) (by decide))) RS.next)
 (RS.seq (aad (aac bJ (aac dS aaa aab) (RE.c1 q_len aaa)) RG.name)
 (RS.seq (aah (RT.val (aac oH (aac bJ aaa aab) aab)) (aaf (RE.tup (RA.cons (RE.c1 pD (aak (is:= [9]) (RI.lst (RE.fix aaa)) RG.name (RT.val (aac q_ne aaa (aac bN aaa aaa))) (RE.tup (RA.cons aaa (RA.cons (aac bN aaa aaa) RA.nil)) (.cons (.cons Many.nil)) (by decide)))) (RA.cons aab RA.nil)) (.cons (.cons Many.nil)) (by decide))) RS.next)
 (RS.seq (aad (aac bN (aac bN aaa aaa) aae) RG.name)
 (RS.seq (aad (RE.lst (RA.cons aaj (RA.cons aae (RA.cons aag (RA.cons (RE.neg aab) (RA.cons (RE.lst (RA.cons aab RA.nil) (.cons Many.nil) (by decide)) (RA.cons (RE.tup (RA.cons aab RA.nil) (.cons Many.nil) (by decide)) RA.nil)))))) (.cons (.cons (.cons (.cons (.cons (.cons Many.nil)))))) (by decide)) RG.name)
 (RS.seq (aah (RT.val (aac (iK (neg:=true)) aaa aag)) (RS.drop (RE.append aaa (aac bG aaa aab))) RS.next)
 (RS.seq (aad (RE.c1 pD aaa) RG.name)
 (RS.seq (aap aaa (aac bN aaa aaa) (aac bN aaa (aac bJ (aac dS aaa aab) (RE.c1 q_len aaa))))
 (aaf (RE.tup (RA.cons aaa (RA.cons (aac bN aaa aaa) RA.nil)) (.cons (.cons Many.nil)) (by decide))))))))))))))⟩
noncomputable def ie:SD→R Fl:=
 (aj (eJ (gp (aZ (aa 0))) (zSt 4) (aj (ax (zLc (B4 (aZ (dj (zA (z2 oIx (aa 4) (zC (.str "tail"))) (zA (z2 oIx (aa 4) (zC (.str "head"))) zA0))))) (zSt 7) (jF (zB (z2 oNe (aa 7) (aa 2))) (zB (z2 oNe (aa 7) (aa 3)))) (aa 7) [7]) (zSt 5))
 (bP (jF (zB (z2 oNe (aa 5) (cM zA0))) (zB (z2 oNe (z2 oIx (aa 4) (zC (.str "most"))) (zC (.int 0))))) (aj (ax (z1 fN (aa 1)) (zSt 6))
 (aj (eV (aa 6) (z2 oIx (aa 4) (zC (.str "number"))) (zC (.int 1)))
 (bo (aa 6)))) az)))
 (bo (zC .non)))
noncomputable def dO:FnV:=zFn N_Luneven.length ie
theorem uw:CalZ P w K mg base 1 "_law_uneven" 4 dO []:=
 jD D.d_Luneven eX fun hr hu tk=>⟨_,(pss_cons (ps_for (passes_of rfl) rfl (pi_list (pv 0)) (gnY 4 eX) (pss_cons (slY 5 [("_law_place",7)] eX (pi_tup (pe_tup (pa_cons (ixY K hr (pv 4) pe_str) (pa_cons (ixY K hr (pv 4) pe_str) pa_nil)))) (gnY 7 eX) (pts_one (PW.pt (pw_and (ctY (neY K hr) (pv 7) (pv 2)) (pw_and1 (ctY (neY K hr) (pv 7) (pv 3)))))) (pv 7))
 (pss_one (ps_if (PW.pt (pw_and (ctY (neY K hr) (pv 5) (pe_lst pa_nil)) (pw_and1 (ctY (neY K hr) (ixY K hr (pv 4) pe_str) pe_int)))) (pss_cons (stY 6 eX (tyY (iH (K:=K) rfl) T.z_dict (pa_cons (pv 1) pa_nil)))
 (pss_cons (ps_dput hu (pv 6) (ixY K hr (pv 4) pe_str) pe_int rfl)
 (pss_one (ps_ret (pv 6))))) pss_nil))))
 (pss_one (ps_ret pe_non))),(RS.seq (RS.for' (RI.lst (RE.fix aaa)) RG.name (RS.seq (aad (aak (is:= [7]) (RI.tup (RE.fix (RE.tup (RA.cons (aac bN aaa aae) (RA.cons (aac bN aaa aae) RA.nil)) (.cons (.cons Many.nil)) (by decide)))) RG.name (aal (RT.val (aac q_ne aaa aaa)) (RT.val (aac q_ne aaa aaa))) aaa) RG.name)
 (aah (aal (RT.val (aac q_ne aaa (RE.lst RA.nil Many.nil (by decide)))) (RT.val (aac q_ne (aac bN aaa aae) aab))) (RS.seq (aad (RE.c1 pD aaa) RG.name)
 (RS.seq (aap aaa (aac bN aaa aae) aab)
 (aaf aaa))) RS.next)))
 (aaf aag))⟩
noncomputable def bz:SD→R Fl:=
 (aj (aN (aD "Net" "need_place" aG [] (aa 0) (zA (aa 1) zA0)))
 (aj (aN (aD "Net" "need_place" aG [] (aa 0) (zA (aa 2) zA0)))
 (bP (zB (z2 oEq (aa 1) (aa 2))) (pP "SamePlace" (zC (.str "one place"))) az)))
noncomputable def br:FnV:=zFn N_need_ends.length bz
theorem oq:CalZ P w K mg base 4 "need_ends" 3 br []:=
 jD D.d_need_ends sQ fun hr hu tk=>⟨_,(pss_cons (ps_expr (eo (bV T D) hr (by decide) tk (pv 0) (pa_cons (pv 1) pa_nil)))
 (pss_cons (ps_expr (eo (bV T D) hr (by decide) tk (pv 0) (pa_cons (pv 2) pa_nil)))
 (pss_one (ps_if (ctY (eqY K hr) (pv 1) (pv 2)) (pss_one (Aa T.x_SamePlace T.xc_SamePlace T.m_SamePlace rfl tk pe_str rfl)) pss_nil)))),(RS.seq (RS.drop (RE.meth T.m_Net .nil aaa (RA.cons aaa RA.nil) (.cons Many.nil) rfl))
 (RS.seq (RS.drop (RE.meth T.m_Net .nil aaa (RA.cons aaa RA.nil) (.cons Many.nil) rfl))
 (aah (RT.val (aac oH aaa aaa)) (RS.raise0 T.m_SamePlace aae) RS.next)))⟩
theorem cZ:XiZ P w K mg base 1 "BadFlow" Ck "number" :=
 D.d_BadFlow_init.xi mN fun fI cdv A outer s H E=>pss_one (ps_ost (pe_var rfl (Or.inl rfl)) (pe_var rfl (Or.inl rfl)))
noncomputable def bA:SD→R Fl:=
 (bo (mn (ar bF [] (zA (aa 1) zA0)) (mn (z2 oLe (z1 (bg ["Tie"] "least") (aa 0)) (aa 1)) (zOrV (z2 (gu false) (z1 (bg ["Tie"] "most") (aa 0)) (zC .non)) (z2 oLe (aa 1) (z1 (bg ["Tie"] "most") (aa 0)))))))
noncomputable def bW:FnV:=zFn N_is_amount.length bA
theorem wm:CalZ P w K mg base 2 "is_amount" 2 bW []:=
 jD D.d_is_amount sR fun hr hu tk=>⟨_,(pss_one (ps_ret (pe_and (clY (iI T D) hr tk (pa_cons (pv 1) pa_nil)) (pe_and (cmY op_le (fdY K (pv 0)) (pv 1)) (pe_one (pe_or (cmY lE (fdY K (pv 0)) pe_non) (pe_one (cmY op_le (pv 1) (fdY K (pv 0)))))))))),(aaf (RE.andV (RE.call .nil (RA.cons aaa RA.nil) (.cons Many.nil) rfl) (RE.andV (aac q_le (RE.fld T.f_least_Tie aaa) aaa) (RE.orV (aac (iK (neg:=false)) (RE.fld T.f_most_Tie aaa) aag) (aac q_le aaa (RE.fld T.f_most_Tie aaa))))))⟩
noncomputable def aI:SD→R Fl:=
 (aj (ax (aD "Net" "ties" bb [] (aa 0) zA0) (zSt 2))
 (aj (bP (zOr (uB (zB (z1 xU (aa 1)))) (zOr (zB (z2 oNe (z1 xS (aa 1)) (z1 jn (aa 2)))) (uB (zB (z1 C4 (B9 1 (zSt 4) eU (ar bF [] (zA (aa 4) zA0)) [4])))))) (fA "BadFlow" "number" (zC (.int 0))) az)
 (aj (bP (uB (zB (z1 C4 (zLc (gp (aZ (aa 2))) (zSt 3) eU (z2 (oIn false) (z1 (bg ["Tie"] "number") (aa 3)) (aa 1)) [3])))) (fA "BadFlow" "number" (zC (.int 0))) az)
 (eJ (gp (aZ (aa 2))) (zSt 3) (bP (uB (zB (ar bW [] (zA (aa 3) (zA (z2 oIx (aa 1) (z1 (bg ["Tie"] "number") (aa 3))) zA0))))) (fA "BadFlow" "number" (z1 (bg ["Tie"] "number") (aa 3))) az)))))
noncomputable def aV:FnV:=zFn N_need_flow.length aI
theorem oo:CalZ P w K mg base 3 "need_flow" 2 aV []:=
 jD D.d_need_flow sc_need_flow fun hr hu tk=>⟨_,(pss_cons (stY 2 sc_need_flow (gW (dJ T D) hr (by decide) tk (pv 0)))
 (pss_cons (ps_if (PW.pt (pw_or (pt_not (pt_val (bnY (m_isiDu (K:=K)) T.z_isinstance (pa_cons (pv 1) (pa_cons (btY "dict" T.z_dict) pa_nil))))) (pw_or (ctY (neY K hr) (bnY (cl_lenU (K:=K)) T.z_len (pa_cons (pv 1) pa_nil)) (bnY (bx (K:=K)) T.z_len (pa_cons (pv 2) pa_nil))) (pw_or1 (pt_not (pt_val (bnY (cr_all rfl) T.z_all (pa_cons (pe_or' (pe_lock (pe_lc (own:= [("number",4)]) (g:=gName 4) (tt:=tYes) rfl sc_need_flow.nd (pi_keys (pv 1)) (blkOk_by (N:=N_need_flow) (sc:=defScope dQ) (own:= [("number",4)]) (by decide+kernel)) (fun _ _ _ _ _=>(gnY 4 sc_need_flow)) (fun _ _ _ _ _=>pts_nil) (fun _ _ _ _ _=>(clY (iI T D) hr mF (pa_cons (pv 4) pa_nil))))) (pe_lc (own:= [("number",4)]) (g:=gName 4) (tt:=tYes) rfl sc_need_flow.nd (pi_keys (pe_lk (pv 1))) (blkOk_by (N:=N_need_flow) (sc:=defScope dQ) (own:= [("number",4)]) (by decide+kernel)) (fun _ _ _ _ _=>(gnY 4 sc_need_flow)) (fun _ _ _ _ _=>pts_nil) (fun _ _ _ _ _=>(clY (iI T D) hr mF (pa_cons (pv 4) pa_nil))))) pa_nil)))))))) (pss_one (gS (cZ T D) rfl tk hr (by decide) pe_int rfl)) pss_nil)
 (pss_cons (ps_if (pt_not (pt_val (bnY (cr_all rfl) T.z_all (pa_cons (lcY [("tie",3)] sc_need_flow (pi_list (pv 2)) (gnY 3 sc_need_flow) pts_nil (cmY (inY K hr) (fdY K (pv 3)) (pv 1))) pa_nil)))) (pss_one (gS (cZ T D) rfl tk hr (by decide) pe_int rfl)) pss_nil)
 (pss_one (ps_for (passes_of rfl) rfl (pi_list (pv 2)) (gnY 3 sc_need_flow) (pss_one (ps_if (pt_not (pt_val (clY (wm T D) hr tk (pa_cons (pv 3) (pa_cons (ixY K hr (pv 1) (fdY K (pv 3))) pa_nil))))) (pss_one (gS (cZ T D) rfl tk hr (by decide) (fdY K (pv 3)) rfl)) pss_nil))))))),(RS.seq (aad (RE.meth T.m_Net .nil aaa RA.nil Many.nil rfl) RG.name)
 (RS.seq (aah (RT.or (aam (RT.val (RE.isDu aaa))) (RT.or (RT.val (aac q_ne (RE.c1 q_lenU aaa) (RE.c1 q_len aaa))) (aam (RT.val (RE.c1 q_all (RE.lcD (is:= [4]) RG.name aai (RE.call .nil (RA.cons aaa RA.nil) (.cons Many.nil) rfl))))))) (aan D.d_BadFlow_init.gC D.d_BadFlow_init.T D.d_BadFlow_init.no aab) RS.next)
 (RS.seq (aah (aam (RT.val (RE.c1 q_all (aak (is:= [3]) (RI.lst (RE.fix aaa)) RG.name aai (aac (q_in (neg:=false)) (RE.fld T.f_number_Tie aaa) aaa))))) (aan D.d_BadFlow_init.gC D.d_BadFlow_init.T D.d_BadFlow_init.no aab) RS.next)
 (RS.for' (RI.lst (RE.fix aaa)) RG.name (aah (aam (RT.val (RE.call .nil (RA.cons aaa (RA.cons (aac bN aaa (RE.fld T.f_number_Tie aaa)) RA.nil)) (.cons (.cons Many.nil)) rfl))) (aan D.d_BadFlow_init.gC D.d_BadFlow_init.T D.d_BadFlow_init.no (RE.fld T.f_number_Tie aaa)) RS.next)))))⟩
noncomputable def hY:SD→R Fl:=
 (aj (ax ku (zSt 2))
 (aj (eJ (gp (aZ (aD "Net" "places" bh [] (aa 0) zA0))) (zSt 3) (eV (aa 2) (aa 3) (zC (.int 0))))
 (aj (eJ (gp (aZ (aD "Net" "ties" bb [] (aa 0) zA0))) (zSt 4) (aj (oK gD oY (fun a b=>a - b) (aa 2) (z1 (bg ["Tie"] "tail") (aa 4)) (z2 oIx (aa 1) (z1 (bg ["Tie"] "number") (aa 4))))
 (oK gD oY (fun a b=>a+b) (aa 2) (z1 (bg ["Tie"] "head") (aa 4)) (z2 oIx (aa 1) (z1 (bg ["Tie"] "number") (aa 4))))))
 (bo (aa 2)))))
noncomputable def gF:FnV:=zFn N_spare_sums.length hY
theorem ur:CalZ P w K mg base 2 "spare_sums" 2 gF []:=
 jD D.d_spare_sums dB fun hr hu tk=>⟨_,(pss_cons (stY 2 dB pe_dnewK)
 (pss_cons (ps_for (passes_of rfl) rfl (pi_list (gW (eG T D) hr (by decide) tk (pv 0))) (gnY 3 dB) (pss_one (ps_dput hu (pv 2) (pv 3) pe_int rfl)))
 (pss_cons (ps_for (passes_of rfl) rfl (pi_list (gW (dJ T D) hr (by decide) tk (pv 0))) (gnY 4 dB) (pss_cons (ps_daug hu (pv 2) (fdY K (pv 4)) (ixY K hr (pv 1) (fdY K (pv 4))) in_sub (fun _ _ _=>rfl))
 (pss_one (ps_daug hu (pv 2) (fdY K (pv 4)) (ixY K hr (pv 1) (fdY K (pv 4))) in_add (fun _ _ _=>rfl)))))
 (pss_one (ps_ret (pv 2)))))),(RS.seq (aad aaq RG.name)
 (RS.seq (RS.for' (RI.lst (RE.fix (RE.meth T.m_Net .nil aaa RA.nil Many.nil rfl))) RG.name (aap aaa aaa aab))
 (RS.seq (RS.for' (RI.lst (RE.fix (RE.meth T.m_Net .nil aaa RA.nil Many.nil rfl))) RG.name (RS.seq (aas (f:=(fun a b=>a - b)) hd_Sub aaa (RE.fld T.f_tail_Tie aaa) (aac bN aaa (RE.fld T.f_number_Tie aaa)))
 (aas (f:=(fun a b=>a+b)) hd_Add aaa (RE.fld T.f_head_Tie aaa) (aac bN aaa (RE.fld T.f_number_Tie aaa)))))
 (aaf aaa))))⟩
noncomputable def ia:SD→R Fl:=
 (aj (aN (ar aV [] (zA (aa 0) (zA (aa 1) zA0))))
 (aj (aN (ar br [] (zA (aa 0) (zA (aa 2) (zA (aa 3) zA0)))))
 (aj (ax (ar gF [] (zA (aa 0) (zA (aa 1) zA0))) (zSt 4))
 (aj (eJ (oJ .items (aa 4)) (kj [5,6]) (bP (jF (zB (z2 oNe (aa 6) (zC (.int 0)))) (jF (zB (z2 oNe (aa 5) (aa 2))) (zB (z2 oNe (aa 5) (aa 3))))) (bo (zC .non)) az))
 (bo (z2 tE (zC (.int 0)) (z2 oIx (aa 4) (aa 2))))))))
noncomputable def bY:FnV:=zFn N_carried_by.length ia
theorem lK:CalZ P w K mg base 5 "carried_by" 4 bY []:=
 jD D.d_carried_by dC fun hr hu tk=>⟨_,(pss_cons (ps_expr (clY (oo T D) hr tk (pa_cons (pv 0) (pa_cons (pv 1) pa_nil))))
 (pss_cons (ps_expr (clY (oq T D) hr tk (pa_cons (pv 0) (pa_cons (pv 2) (pa_cons (pv 3) pa_nil)))))
 (pss_cons (stY 4 dC (clY (ur T D) hr tk (pa_cons (pv 0) (pa_cons (pv 1) pa_nil))))
 (pss_cons (ps_for (passes_of rfl) rfl (pi_items (pe_lk (pv 4))) (iS (K:=K) (n:=2) rfl (pgs_cons (gnY 5 dC) (pgs_cons (gnY 6 dC) pgs_nil))) (pss_one (ps_if (PW.pt (pw_and (ctY (neY K hr) (pv 6) pe_int) (pw_and (ctY (neY K hr) (pv 5) (pv 2)) (pw_and1 (ctY (neY K hr) (pv 5) (pv 3)))))) (pss_one (ps_ret pe_non)) pss_nil)))
 (pss_one (ps_ret (pe_op op_sub pe_int (ixY K hr (pv 4) (pv 2))))))))),(RS.seq (RS.drop (RE.call .nil (RA.cons aaa (RA.cons aaa RA.nil)) (.cons (.cons Many.nil)) rfl))
 (RS.seq (RS.drop (RE.call .nil (RA.cons aaa (RA.cons aaa (RA.cons aaa RA.nil))) (.cons (.cons (.cons Many.nil))) rfl))
 (RS.seq (aad (RE.call .nil (RA.cons aaa (RA.cons aaa RA.nil)) (.cons (.cons Many.nil)) rfl) RG.name)
 (RS.seq (RS.for' (RI.walk (wk:= .items) aaa) (RG.names (is:= [5,6]) rfl) (aah (aal (RT.val (aac q_ne aaa aab)) (aal (RT.val (aac q_ne aaa aaa)) (RT.val (aac q_ne aaa aaa)))) (aaf aag) RS.next))
 (aaf (aac tf aab (aac bN aaa aaa)))))))⟩
noncomputable def fY:SD→R Fl:=
 (aj (cL ["Rest"] "many" (aa 0) (aa 1))
 (aj (cL ["Rest"] "heads" (aa 0) (dk (cM zA0)))
 (aj (cL ["Rest"] "rooms" (aa 0) (dk (cM zA0)))
 (cL ["Rest"] "starts" (aa 0) (dk (zLc (pO (zA (aa 1) zA0)) (zSt 2) eU (dk (cM zA0)) [2]))))))
noncomputable def dN:FnV:=zFn N_Rest_init.length fY
theorem wu:MakZ P w K mg base 1 "Rest" Cr 2 dN []:=
 makY D.d_Rest_init gM fun hr hu tk=>⟨_,(pss_cons (ps_fld (pv 0) (pv 1) rfl)
 (pss_cons (ps_fld (pv 0) (pe_lst pa_nil) rfl)
 (pss_cons (ps_fld (pv 0) (pe_lst pa_nil) rfl)
 (pss_one (ps_fld (pv 0) (lcY [("point",2)] gM (pi_range1 rfl T.z_range (pa_cons (pv 1) pa_nil)) (gnY 2 gM) pts_nil (pe_lst pa_nil)) rfl))))),(RS.seq (RS.fld T.f_many_Rest aaa aaa)
 (RS.seq (RS.fld T.f_heads_Rest (RE.cell (RE.lst RA.nil Many.nil (by decide))) aaa)
 (RS.seq (RS.fld T.f_rooms_Rest (RE.cell (RE.lst RA.nil Many.nil (by decide))) aaa)
 (RS.fld T.f_starts_Rest (RE.cell (aak (is:= [2]) (aar (RA.cons aaa RA.nil)) RG.name aai (RE.cell (RE.lst RA.nil Many.nil (by decide))))) aaa))))⟩
noncomputable def jv:SD→R Fl:=
 (aj (bP (zB (z2 (gu false) (z1 (bg ["Tie"] "most") (aa 0)) (zC .non))) (bo (zC .non)) az)
 (bo (z2 tE (z1 (bg ["Tie"] "most") (aa 0)) (aa 1))))
noncomputable def fB:FnV:=zFn N_room_left.length jv
theorem wh:CalZ P w K mg base 1 "room_left" 2 fB []:=
 jD D.d_room_left sO fun hr hu tk=>⟨_,(pss_cons (ps_if (ctY lE (fdY K (pv 0)) pe_non) (pss_one (ps_ret pe_non)) pss_nil)
 (pss_one (ps_ret (pe_op op_sub (fdY K (pv 0)) (pv 1))))),(RS.seq (aah (RT.val (aac (iK (neg:=false)) (RE.fld T.f_most_Tie aaa) aag)) (aaf aag) RS.next)
 (aaf (aac tf (RE.fld T.f_most_Tie aaa) aaa)))⟩
noncomputable def eR:SD→R Fl:=
 (aj (eJ (B4 (aZ (dj (zA (dj (zA (aa 1) (zA (aa 2) (zA (aa 3) zA0)))) (zA (dj (zA (aa 2) (zA (aa 1) (zA (aa 4) zA0)))) zA0))))) (kj [5,6,7]) (aj (aN (zM2 isL (oB2 bf) (z2 oIx (z1 (bg ["Rest"] "starts") (aa 0)) (aa 5)) (aZ (z1 jn (z1 (bg ["Rest"] "heads") (aa 0))))))
 (aj (aN (zM2 isL (oB2 bf) (z1 (bg ["Rest"] "heads") (aa 0)) (aZ (aa 6))))
 (aN (zM2 isL (oB2 bf) (z1 (bg ["Rest"] "rooms") (aa 0)) (aZ (aa 7)))))))
 (bo (z2 tE (z2 fk (z1 jn (z1 (bg ["Rest"] "heads") (aa 0))) (zC (.int 2))) (zC (.int 1)))))
noncomputable def bQ:FnV:=zFn N_Rest_put_arc.length eR
theorem pd:∀(j:Nat) (hj:j≤([.int 0]:List V).length),MetZ P w K mg base 1 Cr "put_arc" 5 bQ (([.int 0]:List V).drop j):=
 metdY D.d_Rest_put_arc cB fun hr hu tk=>⟨_,(pss_cons (ps_for (passes_of rfl) rfl (pi_tup (pe_tup (pa_cons (pe_tup (pa_cons (pv 1) (pa_cons (pv 2) (pa_cons (pv 3) pa_nil)))) (pa_cons (pe_tup (pa_cons (pv 2) (pa_cons (pv 1) (pa_cons (pv 4) pa_nil)))) pa_nil)))) (iS (K:=K) (n:=3) rfl (pgs_cons (gnY 5 cB) (pgs_cons (gnY 6 cB) (pgs_cons (gnY 7 cB) pgs_nil)))) (pss_cons (ps_expr (pe_bm PySem.F.plainAttrs_list PySem.F.slot_list_append PySem.F.type_list_append mt_append (ixY K hr (fdY K (pv 0)) (pv 5)) (pa_cons (bnY (bx (K:=K)) T.z_len (pa_cons (fdY K (pv 0)) pa_nil)) pa_nil)))
 (pss_cons (ps_expr (pe_bm PySem.F.plainAttrs_list PySem.F.slot_list_append PySem.F.type_list_append mt_append (fdY K (pv 0)) (pa_cons (pv 6) pa_nil)))
 (pss_one (ps_expr (pe_bm PySem.F.plainAttrs_list PySem.F.slot_list_append PySem.F.type_list_append mt_append (fdY K (pv 0)) (pa_cons (pv 7) pa_nil)))))))
 (pss_one (ps_ret (pe_op op_sub (pe_op op_fdivW (bnY (bx (K:=K)) T.z_len (pa_cons (fdY K (pv 0)) pa_nil)) pe_int) pe_int)))),(RS.seq (RS.for' (RI.tup (RE.fix (RE.tup (RA.cons (RE.tup (RA.cons aaa (RA.cons aaa (RA.cons aaa RA.nil))) (.cons (.cons (.cons Many.nil))) (by decide)) (RA.cons (RE.tup (RA.cons aaa (RA.cons aaa (RA.cons aaa RA.nil))) (.cons (.cons (.cons Many.nil))) (by decide)) RA.nil)) (.cons (.cons Many.nil)) (by decide)))) (RG.names (is:= [5,6,7]) rfl) (RS.seq (RS.drop (RE.append (aac bN (RE.fld T.f_starts_Rest aaa) aaa) (RE.c1 q_len (RE.fld T.f_heads_Rest aaa))))
 (RS.seq (RS.drop (RE.append (RE.fld T.f_heads_Rest aaa) aaa))
 (RS.drop (RE.append (RE.fld T.f_rooms_Rest aaa) aaa)))))
 (aaf (aac tf (aac dS (RE.c1 q_len (RE.fld T.f_heads_Rest aaa)) aab) aab)))⟩
noncomputable def ke:SD→R Fl:=
 (aj (ax (aD "Net" "places" bh [] (aa 0) zA0) (zSt 2))
 (aj (ax (lL "Rest" dN [] (zA (z1 jn (aa 2)) zA0)) (zSt 3))
 (aj (eJ (gp (aZ (aD "Net" "ties" bb [] (aa 0) zA0))) (zSt 4) (aj (ax (z2 oIx (aa 1) (z1 (bg ["Tie"] "number") (aa 4))) (zSt 5))
 (aN (aD "Rest" "put_arc" bQ [] (aa 3) (zA (zM2 isL bT (aa 2) (z1 (bg ["Tie"] "tail") (aa 4))) (zA (zM2 isL bT (aa 2) (z1 (bg ["Tie"] "head") (aa 4))) (zA (ar fB [] (zA (aa 4) (zA (aa 5) zA0))) (zA (z2 tE (aa 5) (z1 (bg ["Tie"] "least") (aa 4))) zA0))))))))
 (bo (aa 3)))))
noncomputable def jH:FnV:=zFn N_rest_of.length ke
theorem BP:CalZ P w K mg base 3 "rest_of" 2 jH []:=
 jD D.d_rest_of eW fun hr hu tk=>⟨_,(pss_cons (stY 2 eW (gW (eG T D) hr (by decide) tk (pv 0)))
 (pss_cons (stY 3 eW (mkY (wu T D) hr tk (pa_cons (bnY (bx (K:=K)) T.z_len (pa_cons (pv 2) pa_nil)) pa_nil)))
 (pss_cons (ps_for (passes_of rfl) rfl (pi_list (gW (dJ T D) hr (by decide) tk (pv 0))) (gnY 4 eW) (pss_cons (stY 5 eW (ixY K hr (pv 1) (fdY K (pv 4))))
 (pss_one (ps_expr (eo ((pd T D) 1 (by decide)) hr (by decide) tk (pv 3) (pa_cons (gX (K:=K) (pv 2) (fdY K (pv 4))) (pa_cons (gX (K:=K) (pv 2) (fdY K (pv 4))) (pa_cons (clY (wh T D) hr tk (pa_cons (pv 4) (pa_cons (pv 5) pa_nil))) (pa_cons (pe_op op_sub (pv 5) (fdY K (pv 4))) pa_nil)))))))))
 (pss_one (ps_ret (pv 3)))))),(RS.seq (aad (RE.meth T.m_Net .nil aaa RA.nil Many.nil rfl) RG.name)
 (RS.seq (aad (RE.make T.m_Rest .nil (RA.cons (RE.c1 q_len aaa) RA.nil) (.cons Many.nil) rfl) RG.name)
 (RS.seq (RS.for' (RI.lst (RE.fix (RE.meth T.m_Net .nil aaa RA.nil Many.nil rfl))) RG.name (RS.seq (aad (aac bN aaa (RE.fld T.f_number_Tie aaa)) RG.name)
 (RS.drop (RE.meth T.m_Rest .nil aaa (RA.cons (RE.index aaa (RE.fld T.f_tail_Tie aaa)) (RA.cons (RE.index aaa (RE.fld T.f_head_Tie aaa)) (RA.cons (RE.call .nil (RA.cons aaa (RA.cons aaa RA.nil)) (.cons (.cons Many.nil)) rfl) (RA.cons (aac tf aaa (RE.fld T.f_least_Tie aaa)) RA.nil)))) (.cons (.cons (.cons (.cons Many.nil)))) rfl))))
 (aaf aaa))))⟩
noncomputable def jz:SD→R Fl:=
 (aj (ax (z2 oIx (z1 (bg ["Rest"] "rooms") (aa 0)) (aa 1)) (zSt 3))
 (bo (zOrV (z2 (gu false) (aa 3) (zC .non)) (mn (yt (aa 2)) (z2 oGt (aa 3) (zC (.int 0)))))))
noncomputable def fD:FnV:=zFn N_Rest_lets.length jz
theorem wt:MetZ P w K mg base 1 Cr "lets" 3 fD []:=
 xg D.d_Rest_lets lB fun hr hu tk=>⟨_,(pss_cons (stY 3 lB (ixY K hr (fdY K (pv 0)) (pv 1)))
 (pss_one (ps_ret (pe_or (cmY lE (pv 3) pe_non) (pe_one (pe_and (pe_not (pv 2)) (pe_one (cmY op_gt (pv 3) pe_int)))))))),(RS.seq (aad (aac bN (RE.fld T.f_rooms_Rest aaa) aaa) RG.name)
 (aaf (RE.orV (aac (iK (neg:=false)) aaa aag) (RE.andV (aat aaa) (aac q_gt aaa aab)))))⟩
noncomputable def fW:SD→R Fl:=
 (aj (ax (z2 oQ (cM (zA (zC .non) zA0)) (z1 (bg ["Rest"] "many") (aa 0))) (zSt 3))
 (aj (ax (z2 oQ (cM (zA (zC (.bl false)) zA0)) (z1 (bg ["Rest"] "many") (aa 0))) (zSt 4))
 (aj (ax (zC (.bl true)) (sy (aa 4) (aa 1)))
 (aj (ax (cM (zA (aa 1) zA0)) (zSt 5))
 (aj (ax (zC (.int 0)) (zSt 6))
 (aj (zWh (zB (z2 oLt (aa 6) (z1 jn (aa 5)))) (aj (eJ (gp (aZ (z2 oIx (z1 (bg ["Rest"] "starts") (aa 0)) (z2 oIx (aa 5) (aa 6))))) (zSt 7) (aj (ax (z2 oIx (z1 (bg ["Rest"] "heads") (aa 0)) (aa 7)) (zSt 8))
 (bP (jF (uB (zB (z2 oIx (aa 4) (aa 8)))) (zB (aD "Rest" "lets" fD [] (aa 0) (zA (aa 7) (zA (aa 2) zA0))))) (aj (ax (zC (.bl true)) (sy (aa 4) (aa 8)))
 (aj (ax (aa 7) (sy (aa 3) (aa 8)))
 (aN (zM2 isL (oB2 bf) (aa 5) (aZ (aa 8)))))) az)))
 (zAug 6 (fun a b=>a+b) (zC (.int 1)))))
 (bo (aa 3))))))))
noncomputable def aQ:FnV:=zFn N_Rest_walked.length fW
theorem dE:MetZ P w K mg base 2 Cr "walked" 3 aQ []:=
 xg D.d_Rest_walked sc_Rest_walked fun hr hu tk=>⟨_,(pss_cons (stY 3 sc_Rest_walked (pe_op dU (pe_lst (pa_cons pe_non pa_nil)) (fdY K (pv 0))))
 (pss_cons (stY 4 sc_Rest_walked (pe_op dU (pe_lst (pa_cons pe_bl pa_nil)) (fdY K (pv 0))))
 (pss_cons (ps_asg pe_bl (pg_sub (pv 4) (pv 1) set_list))
 (pss_cons (stY 5 sc_Rest_walked (pe_lst (pa_cons (pv 1) pa_nil)))
 (pss_cons (stY 6 sc_Rest_walked pe_int)
 (pss_cons (ps_while (passes_of rfl) (ctY op_lt (pv 6) (bnY (bx (K:=K)) T.z_len (pa_cons (pv 5) pa_nil))) (pss_cons (ps_for (passes_of rfl) rfl (pi_list (ixY K hr (fdY K (pv 0)) (ixY K hr (pv 5) (pv 6)))) (gnY 7 sc_Rest_walked) (pss_cons (stY 8 sc_Rest_walked (ixY K hr (fdY K (pv 0)) (pv 7)))
 (pss_one (ps_if (PW.pt (pw_and (pt_not (pt_val (ixY K hr (pv 4) (pv 8)))) (pw_and1 (pt_val (eo (wt T D) hr (by decide) tk (pv 0) (pa_cons (pv 7) (pa_cons (pv 2) pa_nil))))))) (pss_cons (ps_asg pe_bl (pg_sub (pv 4) (pv 8) set_list))
 (pss_cons (ps_asg (pv 7) (pg_sub (pv 3) (pv 8) set_list))
 (pss_one (ps_expr (pe_bm PySem.F.plainAttrs_list PySem.F.slot_list_append PySem.F.type_list_append mt_append (pv 5) (pa_cons (pv 8) pa_nil)))))) pss_nil))))
 (pss_one (ps_aug (i:=6) sc_Rest_walked.nd rfl (Or.inl rfl) pe_int ip_add))))
 (pss_one (ps_ret (pv 3))))))))),(RS.seq (aad (aac mW (RE.lst (RA.cons aag RA.nil) (.cons Many.nil) (by decide)) (RE.fld T.f_many_Rest aaa)) RG.name)
 (RS.seq (aad (aac mW (RE.lst (RA.cons aaj RA.nil) (.cons Many.nil) (by decide)) (RE.fld T.f_many_Rest aaa)) RG.name)
 (RS.seq (aad aaj (RG.sub aaa aaa))
 (RS.seq (aad (RE.lst (RA.cons aaa RA.nil) (.cons Many.nil) (by decide)) RG.name)
 (RS.seq (aad aab RG.name)
 (RS.seq (RS.while' (RT.val (aac q_lt aaa (RE.c1 q_len aaa))) (RS.seq (RS.for' (RI.lst (RE.fix (aac bN (RE.fld T.f_starts_Rest aaa) (aac bN aaa aaa)))) RG.name (RS.seq (aad (aac bN (RE.fld T.f_heads_Rest aaa) aaa) RG.name)
 (aah (aal (aam (RT.val (aac bN aaa aaa))) (RT.val (RE.meth T.m_Rest .nil aaa (RA.cons aaa (RA.cons aaa RA.nil)) (.cons (.cons Many.nil)) rfl))) (RS.seq (aad aaj (RG.sub aaa aaa))
 (RS.seq (aad aaa (RG.sub aaa aaa))
 (RS.drop (RE.append aaa aaa)))) RS.next)))
 (aav (f:=(fun a b=>a+b)) aab)))
 (aaf aaa)))))))⟩
noncomputable def fV:SD→R Fl:=
 (aj (ax (cM zA0) (zSt 3))
 (aj (ax (aa 2) (zSt 4))
 (aj (zWh (zB (z2 (gu true) (z2 oIx (aa 1) (aa 4)) (zC .non))) (aj (aN (zM2 isL (oB2 bf) (aa 3) (aZ (z2 oIx (aa 1) (aa 4)))))
 (ax (z2 oIx (z1 (bg ["Rest"] "heads") (aa 0)) (z2 oXor (z2 oIx (aa 1) (aa 4)) (zC (.int 1)))) (zSt 4))))
 (aj (aN (z1 (oB1 iD) (aa 3)))
 (bo (aa 3))))))
noncomputable def aP:FnV:=zFn N_Rest_way_to.length fV
theorem fT:MetZ P w K mg base 1 Cr "way_to" 3 aP []:=
 xg D.d_Rest_way_to cU fun hr hu tk=>⟨_,(pss_cons (stY 3 cU (pe_lst pa_nil))
 (pss_cons (stY 4 cU (pv 2))
 (pss_cons (ps_while (passes_of rfl) (ctY dg (ixY K hr (pv 1) (pv 4)) pe_non) (pss_cons (ps_expr (pe_bm PySem.F.plainAttrs_list PySem.F.slot_list_append PySem.F.type_list_append mt_append (pv 3) (pa_cons (ixY K hr (pv 1) (pv 4)) pa_nil)))
 (pss_one (stY 4 cU (ixY K hr (fdY K (pv 0)) (pe_op op_xor (ixY K hr (pv 1) (pv 4)) pe_int))))))
 (pss_cons (ps_expr (pe_bm0 PySem.F.plainAttrs_list PySem.F.slot_list_reverse PySem.F.type_list_reverse mt_reverse (pv 3)))
 (pss_one (ps_ret (pv 3))))))),(RS.seq (aad (RE.lst RA.nil Many.nil (by decide)) RG.name)
 (RS.seq (aad aaa RG.name)
 (RS.seq (RS.while' (RT.val (aac (iK (neg:=true)) (aac bN aaa aaa) aag)) (RS.seq (RS.drop (RE.append aaa (aac bN aaa aaa)))
 (aad (aac bN (RE.fld T.f_heads_Rest aaa) (aac q_xor (aac bN aaa aaa) aab)) RG.name)))
 (RS.seq (RS.drop (RE.reverse aaa))
 (aaf aaa)))))⟩
noncomputable def eS:SD→R Fl:=
 (aj (ax (aD "Rest" "way_to" aP [] (aa 0) (zA (aD "Rest" "walked" aQ [] (aa 0) (zA (aa 1) (zA (zC (.bl true)) zA0))) (zA (aa 2) zA0))) (zSt 3))
 (aj (bP (zB (z2 oEq (aa 3) (cM zA0))) (bo (zC .non)) az)
 (bo (zLc (gp (aZ (aa 3))) (zSt 4) eU (z2 fk (aa 4) (zC (.int 2))) [4]))))
noncomputable def cS:FnV:=zFn N_Rest_endless.length eS
theorem pe:MetZ P w K mg base 3 Cr "endless" 3 cS []:=
 xg D.d_Rest_endless cC fun hr hu tk=>⟨_,(pss_cons (stY 3 cC (eo (fT T D) hr (by decide) tk (pv 0) (pa_cons (eo (dE T D) hr (by decide) tk (pv 0) (pa_cons (pv 1) (pa_cons pe_bl pa_nil))) (pa_cons (pv 2) pa_nil))))
 (pss_cons (ps_if (ctY (eqY K hr) (pv 3) (pe_lst pa_nil)) (pss_one (ps_ret pe_non)) pss_nil)
 (pss_one (ps_ret (lcY [("half",4)] cC (pi_list (pv 3)) (gnY 4 cC) pts_nil (pe_op op_fdivW (pv 4) pe_int)))))),(RS.seq (aad (RE.meth T.m_Rest .nil aaa (RA.cons (RE.meth T.m_Rest .nil aaa (RA.cons aaa (RA.cons aaj RA.nil)) (.cons (.cons Many.nil)) rfl) (RA.cons aaa RA.nil)) (.cons (.cons Many.nil)) rfl) RG.name)
 (RS.seq (aah (RT.val (aac oH aaa (RE.lst RA.nil Many.nil (by decide)))) (aaf aag) RS.next)
 (aaf (aak (is:= [4]) (RI.lst (RE.fix aaa)) RG.name aai (aac dS aaa aab)))))⟩
theorem pk:XiL P w K mg base 1 "Endless" Cn "numbers" :=
 D.d_Endless_init.xiL mM fun fI cdv A outer s H E=>pss_one (ps_ost (pe_var rfl (Or.inl rfl)) (tyY (mb (K:=K) rfl) T.z_list (pa_cons (pe_var rfl (Or.inl rfl)) pa_nil)))
noncomputable def fZ:SD→R Fl:=
 (eJ (B4 (aZ (dj (zA (dj (zA (aa 1) (zA (z2 tE (zC (.int 0)) (aa 2)) zA0))) (zA (dj (zA (z2 oXor (aa 1) (zC (.int 1))) (zA (aa 2) zA0))) zA0))))) (kj [3,4]) (bP (zB (z2 (gu true) (z2 oIx (z1 (bg ["Rest"] "rooms") (aa 0)) (aa 3)) (zC .non))) (oK gL fR (fun a b=>a+b) (z1 (bg ["Rest"] "rooms") (aa 0)) (aa 3) (aa 4)) az))
noncomputable def dy:FnV:=zFn N_Rest_change.length fZ
theorem rW:MetZ P w K mg base 1 Cr "change" 3 dy []:=
 xg D.d_Rest_change eK fun hr hu tk=>⟨_,(pss_one (ps_for (passes_of rfl) rfl (pi_tup (pe_tup (pa_cons (pe_tup (pa_cons (pv 1) (pa_cons (pe_op op_sub pe_int (pv 2)) pa_nil))) (pa_cons (pe_tup (pa_cons (pe_op op_xor (pv 1) pe_int) (pa_cons (pv 2) pa_nil))) pa_nil)))) (iS (K:=K) (n:=2) rfl (pgs_cons (gnY 3 eK) (pgs_cons (gnY 4 eK) pgs_nil))) (pss_one (ps_if (ctY dg (ixY K hr (fdY K (pv 0)) (pv 3)) pe_non) (pss_one (ps_augS (fdY K (pv 0)) (pv 3) (AX (K:=K)) (pv 4) ip_add set_list)) pss_nil)))),(RS.for' (RI.tup (RE.fix (RE.tup (RA.cons (RE.tup (RA.cons aaa (RA.cons (aac tf aab aaa) RA.nil)) (.cons (.cons Many.nil)) (by decide)) (RA.cons (RE.tup (RA.cons (aac q_xor aaa aab) (RA.cons aaa RA.nil)) (.cons (.cons Many.nil)) (by decide)) RA.nil)) (.cons (.cons Many.nil)) (by decide)))) (RG.names (is:= [3,4]) rfl) (aah (RT.val (aac (iK (neg:=true)) (aac bN (RE.fld T.f_rooms_Rest aaa) aaa) aag)) (RS.laug (f:=(fun a b=>a+b)) (RE.fld T.f_rooms_Rest aaa) aaa aaa) RS.next))⟩
noncomputable def fX:SD→R Fl:=
 (aj (ax (zC (.int 0)) (zSt 3))
 (aj (ax (aD "Rest" "way_to" aP [] (aa 0) (zA (aD "Rest" "walked" aQ [] (aa 0) (zA (aa 1) (zA (zC (.bl false)) zA0))) (zA (aa 2) zA0))) (zSt 4))
 (aj (zWh (zB (z2 oNe (aa 4) (cM zA0))) (aj (ax (z1 tG (zLc (gp (aZ (aa 4))) (zSt 6) (zB (z2 (gu true) (z2 oIx (z1 (bg ["Rest"] "rooms") (aa 0)) (aa 6)) (zC .non))) (z2 oIx (z1 (bg ["Rest"] "rooms") (aa 0)) (aa 6)) [6])) (zSt 5))
 (aj (eJ (gp (aZ (aa 4))) (zSt 6) (aN (aD "Rest" "change" dy [] (aa 0) (zA (aa 6) (zA (aa 5) zA0)))))
 (aj (zAug 3 (fun a b=>a+b) (aa 5))
 (ax (aD "Rest" "way_to" aP [] (aa 0) (zA (aD "Rest" "walked" aQ [] (aa 0) (zA (aa 1) (zA (zC (.bl false)) zA0))) (zA (aa 2) zA0))) (zSt 4))))))
 (bo (aa 3)))))
noncomputable def fC:FnV:=zFn N_Rest_lift.length fX
theorem wq:MetZ P w K mg base 3 Cr "lift" 3 fC []:=
 xg D.d_Rest_lift sc_Rest_lift fun hr hu tk=>⟨_,(pss_cons (stY 3 sc_Rest_lift pe_int)
 (pss_cons (stY 4 sc_Rest_lift (eo (fT T D) hr (by decide) tk (pv 0) (pa_cons (eo (dE T D) hr (by decide) tk (pv 0) (pa_cons (pv 1) (pa_cons pe_bl pa_nil))) (pa_cons (pv 2) pa_nil))))
 (pss_cons (ps_while (passes_of rfl) (ctY (neY K hr) (pv 4) (pe_lst pa_nil)) (pss_cons (stY 5 sc_Rest_lift (bnY (cr_min rfl) T.z_min (pa_cons (lcY [("half",6)] sc_Rest_lift (pi_list (pv 4)) (gnY 6 sc_Rest_lift) (pts_one (ctY dg (ixY K hr (fdY K (pv 0)) (pv 6)) pe_non)) (ixY K hr (fdY K (pv 0)) (pv 6))) pa_nil)))
 (pss_cons (ps_for (passes_of rfl) rfl (pi_list (pv 4)) (gnY 6 sc_Rest_lift) (pss_one (ps_expr (eo (rW T D) hr (by decide) tk (pv 0) (pa_cons (pv 6) (pa_cons (pv 5) pa_nil))))))
 (pss_cons (ps_aug (i:=3) sc_Rest_lift.nd rfl (Or.inl rfl) (pv 5) ip_add)
 (pss_one (stY 4 sc_Rest_lift (eo (fT T D) hr (by decide) tk (pv 0) (pa_cons (eo (dE T D) hr (by decide) tk (pv 0) (pa_cons (pv 1) (pa_cons pe_bl pa_nil))) (pa_cons (pv 2) pa_nil)))))))))
 (pss_one (ps_ret (pv 3)))))),(RS.seq (aad aab RG.name)
 (RS.seq (aad (RE.meth T.m_Rest .nil aaa (RA.cons (RE.meth T.m_Rest .nil aaa (RA.cons aaa (RA.cons aaj RA.nil)) (.cons (.cons Many.nil)) rfl) (RA.cons aaa RA.nil)) (.cons (.cons Many.nil)) rfl) RG.name)
 (RS.seq (RS.while' (RT.val (aac q_ne aaa (RE.lst RA.nil Many.nil (by decide)))) (RS.seq (aad (RE.c1 q_minL (aak (is:= [6]) (RI.lst (RE.fix aaa)) RG.name (RT.val (aac (iK (neg:=true)) (aac bN (RE.fld T.f_rooms_Rest aaa) aaa) aag)) (aac bN (RE.fld T.f_rooms_Rest aaa) aaa))) RG.name)
 (RS.seq (RS.for' (RI.lst (RE.fix aaa)) RG.name (RS.drop (RE.meth T.m_Rest .nil aaa (RA.cons aaa (RA.cons aaa RA.nil)) (.cons (.cons Many.nil)) rfl)))
 (RS.seq (aav (f:=(fun a b=>a+b)) aaa)
 (aad (RE.meth T.m_Rest .nil aaa (RA.cons (RE.meth T.m_Rest .nil aaa (RA.cons aaa (RA.cons aaj RA.nil)) (.cons (.cons Many.nil)) rfl) (RA.cons aaa RA.nil)) (.cons (.cons Many.nil)) rfl) RG.name)))))
 (aaf aaa))))⟩
noncomputable def eT:SD→R Fl:=
 (bo (z2 oIx (z1 (bg ["Rest"] "rooms") (aa 0)) (z2 cj (z2 oQ (zC (.int 2)) (aa 1)) (zC (.int 1)))))
noncomputable def bR:FnV:=zFn N_Rest_back_of.length eT
theorem ph:MetZ P w K mg base 1 Cr "back_of" 2 bR []:=
 xg D.d_Rest_back_of mI fun hr hu tk=>⟨_,(pss_one (ps_ret (ixY K hr (fdY K (pv 0)) (pe_op (ay (K:=K)) (pe_op dU pe_int (pv 1)) pe_int)))),(aaf (aac bN (RE.fld T.f_rooms_Rest aaa) (aac bG (aac mW aab aaa) aab)))⟩
noncomputable def oy:SD→R Fl:=
 (aj (ax ku (zSt 2))
 (aj (eJ (kr (aZ (aD "Net" "ties" bb [] (aa 0) zA0))) (kj [3,4]) (eV (aa 2) (z1 (bg ["Tie"] "number") (aa 4)) (z2 cj (z1 (bg ["Tie"] "least") (aa 4)) (aD "Rest" "back_of" bR [] (aa 1) (zA (aa 3) zA0)))))
 (bo (aa 2))))
noncomputable def jI:FnV:=zFn N_flow_of.length oy
theorem BR:CalZ P w K mg base 2 "flow_of" 2 jI []:=
 jD D.d_flow_of iw fun hr hu tk=>⟨_,(pss_cons (stY 2 iw pe_dnewK)
 (pss_cons (ps_for (passes_of rfl) rfl (pi_enum rfl T.z_enumerate (pa_cons (gW (dJ T D) hr (by decide) tk (pv 0)) pa_nil)) (iS (K:=K) (n:=2) rfl (pgs_cons (gnY 3 iw) (pgs_cons (gnY 4 iw) pgs_nil))) (pss_one (ps_dput hu (pv 2) (fdY K (pv 4)) (pe_op (ay (K:=K)) (fdY K (pv 4)) (eo (ph T D) hr (by decide) tk (pv 1) (pa_cons (pv 3) pa_nil))) rfl)))
 (pss_one (ps_ret (pv 2))))),(RS.seq (aad aaq RG.name)
 (RS.seq (RS.for' (RI.enum (RE.fix (RE.meth T.m_Net .nil aaa RA.nil Many.nil rfl))) (RG.names (is:= [3,4]) rfl) (aap aaa (RE.fld T.f_number_Tie aaa) (aac bG (RE.fld T.f_least_Tie aaa) (RE.meth T.m_Rest .nil aaa (RA.cons aaa RA.nil) (.cons Many.nil) rfl))))
 (aaf aaa)))⟩
noncomputable def eQ:SD→R Fl:=
 (aj (ax (aD "Rest" "walked" aQ [] (aa 0) (zA (aa 1) (zA (zC (.bl false)) zA0))) (zSt 2))
 (bo (zLc (kr (aZ (aa 2))) (kj [3,4]) eU (zOrV (z2 oEq (aa 3) (aa 1)) (z2 (gu true) (aa 4) (zC .non))) [3,4])))
noncomputable def cR:FnV:=zFn N_Rest_reached.length eQ
theorem pb:MetZ P w K mg base 3 Cr "reached" 2 cR []:=
 xg D.d_Rest_reached bH fun hr hu tk=>⟨_,(pss_cons (stY 2 bH (eo (dE T D) hr (by decide) tk (pv 0) (pa_cons (pv 1) (pa_cons pe_bl pa_nil))))
 (pss_one (ps_ret (lcY [("point",3),("half",4)] bH (pi_enum rfl T.z_enumerate (pa_cons (pv 2) pa_nil)) (iS (K:=K) (n:=2) rfl (pgs_cons (gnY 3 bH) (pgs_cons (gnY 4 bH) pgs_nil))) pts_nil (pe_or (cmY (eqY K hr) (pv 3) (pv 1)) (pe_one (cmY dg (pv 4) pe_non))))))),(RS.seq (aad (RE.meth T.m_Rest .nil aaa (RA.cons aaa (RA.cons aaj RA.nil)) (.cons (.cons Many.nil)) rfl) RG.name)
 (aaf (aak (is:= [3,4]) (RI.enum (RE.fix aaa)) (RG.names (is:= [3,4]) rfl) aai (RE.orV (aac oH aaa aaa) (aac (iK (neg:=true)) aaa aag)))))⟩
noncomputable def gb:SD→R Fl:=
 (aj (cL ["Raised"] "flow" (aa 0) (aa 1))
 (aj (cL ["Raised"] "amount" (aa 0) (aa 2))
 (cL ["Raised"] "side" (aa 0) (aa 3))))
noncomputable def cm:FnV:=zFn N_Raised_init.length gb
theorem rX:MakZ P w K mg base 1 "Raised" Cs 4 cm []:=
 makY D.d_Raised_init oN fun hr hu tk=>⟨_,(pss_cons (ps_fld (pv 0) (pv 1) rfl)
 (pss_cons (ps_fld (pv 0) (pv 2) rfl)
 (pss_one (ps_fld (pv 0) (pv 3) rfl)))),(RS.seq (RS.fld T.f_flow_Raised aaa aaa)
 (RS.seq (RS.fld T.f_amount_Raised aaa aaa)
 (RS.fld T.f_side_Raised aaa aaa)))⟩
noncomputable def cJ:SD→R Fl:=
 (aj (aN (ar br [] (zA (aa 0) (zA (aa 2) (zA (aa 3) zA0)))))
 (aj (aN (ar aV [] (zA (aa 0) (zA (aa 1) zA0))))
 (aj (bP (zB (z2 (gu false) (ar bY [] (zA (aa 0) (zA (aa 1) (zA (aa 2) (zA (aa 3) zA0))))) (zC .non))) (fA "BadFlow" "number" (zC (.int 0))) az)
 (aj (ax (aD "Net" "places" bh [] (aa 0) zA0) (zSt 4))
 (aj (ax (ar jH [] (zA (aa 0) (zA (aa 1) zA0))) (zSt 5))
 (aj (ax (aD "Rest" "endless" cS [] (aa 5) (zA (zM2 isL bT (aa 4) (aa 2)) (zA (zM2 isL bT (aa 4) (aa 3)) zA0))) (zSt 6))
 (aj (bP (zB (z2 (gu true) (aa 6) (zC .non))) (aj (ax (zLc (gp (aZ (aD "Net" "ties" bb [] (aa 0) zA0))) (zSt 11) eU (z1 (bg ["Tie"] "number") (aa 11)) [11]) (zSt 7))
 (mm "Endless" "numbers" (zLc (gp (aZ (aa 6))) (zSt 12) eU (z2 oIx (aa 7) (aa 12)) [12]))) az)
 (aj (aN (aD "Rest" "lift" fC [] (aa 5) (zA (zM2 isL bT (aa 4) (aa 2)) (zA (zM2 isL bT (aa 4) (aa 3)) zA0))))
 (aj (ax (dk (ar jI [] (zA (aa 0) (zA (aa 5) zA0)))) (zSt 8))
 (aj (ax (aD "Rest" "reached" cR [] (aa 5) (zA (zM2 isL bT (aa 4) (aa 2)) zA0)) (zSt 9))
 (aj (ax (dk (zLc (kr (aZ (aa 4))) (kj [13,14]) (zB (z2 oIx (aa 9) (aa 13))) (aa 14) [13,14])) (zSt 10))
 (bo (zFrz (lL "Raised" cm [] (zA (aa 8) (zA (ar bY [] (zA (aa 0) (zA (aa 8) (zA (aa 2) (zA (aa 3) zA0))))) (zA (aa 10) zA0)))))))))))))))))
noncomputable def bp:FnV:=zFn N_raised.length cJ
theorem DX:CalZ P w K mg base 6 "raised" 4 bp []:=
 jD D.d_raised aT fun hr hu tk=>⟨_,(pss_cons (ps_expr (clY (oq T D) hr tk (pa_cons (pv 0) (pa_cons (pv 2) (pa_cons (pv 3) pa_nil)))))
 (pss_cons (ps_expr (clY (oo T D) hr tk (pa_cons (pv 0) (pa_cons (pv 1) pa_nil))))
 (pss_cons (ps_if (ctY lE (clY (lK T D) hr tk (pa_cons (pv 0) (pa_cons (pv 1) (pa_cons (pv 2) (pa_cons (pv 3) pa_nil))))) pe_non) (pss_one (gS (cZ T D) rfl tk hr (by decide) pe_int rfl)) pss_nil)
 (pss_cons (stY 4 aT (gW (eG T D) hr (by decide) tk (pv 0)))
 (pss_cons (stY 5 aT (clY (BP T D) hr tk (pa_cons (pv 0) (pa_cons (pv 1) pa_nil))))
 (pss_cons (stY 6 aT (eo (pe T D) hr (by decide) tk (pv 5) (pa_cons (gX (K:=K) (pv 4) (pv 2)) (pa_cons (gX (K:=K) (pv 4) (pv 3)) pa_nil))))
 (pss_cons (ps_if (ctY dg (pv 6) pe_non) (pss_cons (stY 7 aT (lcY [("tie",11)] aT (pi_list (gW (dJ T D) hr (by decide) tk (pv 0))) (gnY 11 aT) pts_nil (fdY K (pv 11))))
 (pss_one (zZ (pk T D) rfl tk hr (by decide) (lcY [("arc",12)] aT (pi_list (pv 6)) (gnY 12 aT) pts_nil (ixY K hr (pv 7) (pv 12))) rfl))) pss_nil)
 (pss_cons (ps_expr (eo (wq T D) hr (by decide) tk (pv 5) (pa_cons (gX (K:=K) (pv 4) (pv 2)) (pa_cons (gX (K:=K) (pv 4) (pv 3)) pa_nil))))
 (pss_cons (stY 8 aT (clY (BR T D) hr tk (pa_cons (pv 0) (pa_cons (pv 5) pa_nil))))
 (pss_cons (stY 9 aT (eo (pb T D) hr (by decide) tk (pv 5) (pa_cons (gX (K:=K) (pv 4) (pv 2)) pa_nil)))
 (pss_cons (slY 10 [("place",13),("name",14)] aT (pi_enum rfl T.z_enumerate (pa_cons (pv 4) pa_nil)) (iS (K:=K) (n:=2) rfl (pgs_cons (gnY 13 aT) (pgs_cons (gnY 14 aT) pgs_nil))) (pts_one (pt_val (ixY K hr (pv 9) (pv 13)))) (pv 14))
 (pss_one (ps_ret (mkY (rX T D) hr tk (pa_cons (pv 8) (pa_cons (clY (lK T D) hr tk (pa_cons (pv 0) (pa_cons (pv 8) (pa_cons (pv 2) (pa_cons (pv 3) pa_nil))))) (pa_cons (pv 10) pa_nil))))))))))))))))),(RS.seq (RS.drop (RE.call .nil (RA.cons aaa (RA.cons aaa (RA.cons aaa RA.nil))) (.cons (.cons (.cons Many.nil))) rfl))
 (RS.seq (RS.drop (RE.call .nil (RA.cons aaa (RA.cons aaa RA.nil)) (.cons (.cons Many.nil)) rfl))
 (RS.seq (aah (RT.val (aac (iK (neg:=false)) (RE.call .nil (RA.cons aaa (RA.cons aaa (RA.cons aaa (RA.cons aaa RA.nil)))) (.cons (.cons (.cons (.cons Many.nil)))) rfl) aag)) (aan D.d_BadFlow_init.gC D.d_BadFlow_init.T D.d_BadFlow_init.no aab) RS.next)
 (RS.seq (aad (RE.meth T.m_Net .nil aaa RA.nil Many.nil rfl) RG.name)
 (RS.seq (aad (RE.call .nil (RA.cons aaa (RA.cons aaa RA.nil)) (.cons (.cons Many.nil)) rfl) RG.name)
 (RS.seq (aad (RE.meth T.m_Rest .nil aaa (RA.cons (RE.index aaa aaa) (RA.cons (RE.index aaa aaa) RA.nil)) (.cons (.cons Many.nil)) rfl) RG.name)
 (RS.seq (aah (RT.val (aac (iK (neg:=true)) aaa aag)) (RS.seq (aad (aak (is:= [11]) (RI.lst (RE.fix (RE.meth T.m_Net .nil aaa RA.nil Many.nil rfl))) RG.name aai (RE.fld T.f_number_Tie aaa)) RG.name)
 (RS.raiseL D.d_Endless_init.gC D.d_Endless_init.T D.d_Endless_init.no (aak (is:= [12]) (RI.lst (RE.fix aaa)) RG.name aai (aac bN aaa aaa)))) RS.next)
 (RS.seq (RS.drop (RE.meth T.m_Rest .nil aaa (RA.cons (RE.index aaa aaa) (RA.cons (RE.index aaa aaa) RA.nil)) (.cons (.cons Many.nil)) rfl))
 (RS.seq (aad (RE.cell (RE.call .nil (RA.cons aaa (RA.cons aaa RA.nil)) (.cons (.cons Many.nil)) rfl)) RG.name)
 (RS.seq (aad (RE.meth T.m_Rest .nil aaa (RA.cons (RE.index aaa aaa) RA.nil) (.cons Many.nil) rfl) RG.name)
 (RS.seq (aad (RE.cell (aak (is:= [13,14]) (RI.enum (RE.fix aaa)) (RG.names (is:= [13,14]) rfl) (RT.val (aac bN aaa aaa)) aaa)) RG.name)
 (aaf (RE.frz (RE.make T.m_Raised .nil (RA.cons aaa (RA.cons (RE.call .nil (RA.cons aaa (RA.cons aaa (RA.cons aaa (RA.cons aaa RA.nil)))) (.cons (.cons (.cons (.cons Many.nil)))) rfl) (RA.cons aaa RA.nil))) (.cons (.cons (.cons Many.nil))) rfl))))))))))))))⟩
noncomputable def dG:SD→R Fl:=
 (aj (ax (cM (zA (z1 (oR (pick isx_BadName) true) (aa 0)) (zA (z1 (oR (pick isx_Twice) true) (aa 0)) (zA (z1 (oR (pick isx_TooMany) true) (aa 0)) (zA (z1 (oR (pick isx_NoPlace) true) (aa 0)) zA0))))) (zSt 1))
 (aj (ax (z2 cj (aa 1) (cM (zA (z1 (oR (pick isx_BadTie) true) (aa 0)) (zA (z1 (oR (pick isx_BadRoom) true) (aa 0)) (zA (z1 (oR (pick isx_BadPrice) true) (aa 0)) (zA (z1 (oR (pick isx_NoTie) true) (aa 0)) zA0)))))) (zSt 1))
 (aj (ax (z2 cj (aa 1) (cM (zA (z1 (oR (pick isx_BadLine) true) (aa 0)) (zA (z1 (oR (pick isx_BadFlow) true) (aa 0)) (zA (z1 (oR (pick isx_SamePlace) true) (aa 0)) (zA (z1 (oR (pick isx_NoFlow) true) (aa 0)) zA0)))))) (zSt 1))
 (aj (ax (z2 cj (aa 1) (cM (zA (z1 (oR (pick isx_Endless) true) (aa 0)) (zA (z1 (oR (pick isx_Forever) true) (aa 0)) (zA (z1 (oR (pick isx_BadQuestion) true) (aa 0)) (zA (z1 (oR (pick isx_NoDeed) true) (aa 0)) zA0)))))) (zSt 1))
 (aj (bP (zOr (zB (z2 oNe (zM2 isL jo (aa 1) (zC (.bl true))) (zC (.int 1)))) (uB (zB (z1 (oR (pick isx_ValueError) true) (aa 0))))) (bo (zC (.str "several"))) az)
 (aj (ax (cM (zA (zC (.str "name")) (zA (zC (.str "twice")) (zA (zC (.str "many")) (zA (zC (.str "place")) (zA (zC (.str "itself")) (zA (zC (.str "room")) (zA (zC (.str "price")) (zA (zC (.str "tie")) (zA (zC (.str "line")) (zA (zC (.str "flow")) (zA (zC (.str "same")) (zA (zC (.str "none")) zA0))))))))))))) (zSt 2))
 (bo (z2 oIx (z2 cj (aa 2) (cM (zA (zC (.str "endless")) (zA (zC (.str "forever")) (zA (zC (.str "question")) (zA (zC (.str "deed")) zA0)))))) (zM2 isL bT (aa 1) (zC (.bl true)))))))))))
noncomputable def fE:FnV:=zFn N_Lalone.length dG
theorem D2:CalZ P w K mg base 1 "_law_alone" 1 fE []:=
 jD D.d_Lalone eY fun hr hu tk=>⟨_,(pss_cons (stY 1 eY (pe_lst (pa_cons (bnY (di (K:=K)) T.z_isinstance (pa_cons (pv 0) (pa_cons (glY T.m_BadName) pa_nil))) (pa_cons (bnY (di (K:=K)) T.z_isinstance (pa_cons (pv 0) (pa_cons (glY T.m_Twice) pa_nil))) (pa_cons (bnY (di (K:=K)) T.z_isinstance (pa_cons (pv 0) (pa_cons (glY T.m_TooMany) pa_nil))) (pa_cons (bnY (di (K:=K)) T.z_isinstance (pa_cons (pv 0) (pa_cons (glY T.m_NoPlace) pa_nil))) pa_nil))))))
 (pss_cons (stY 1 eY (pe_op (ay (K:=K)) (pv 1) (pe_lst (pa_cons (bnY (di (K:=K)) T.z_isinstance (pa_cons (pv 0) (pa_cons (glY T.m_BadTie) pa_nil))) (pa_cons (bnY (di (K:=K)) T.z_isinstance (pa_cons (pv 0) (pa_cons (glY T.m_BadRoom) pa_nil))) (pa_cons (bnY (di (K:=K)) T.z_isinstance (pa_cons (pv 0) (pa_cons (glY T.m_BadPrice) pa_nil))) (pa_cons (bnY (di (K:=K)) T.z_isinstance (pa_cons (pv 0) (pa_cons (glY T.m_NoTie) pa_nil))) pa_nil)))))))
 (pss_cons (stY 1 eY (pe_op (ay (K:=K)) (pv 1) (pe_lst (pa_cons (bnY (di (K:=K)) T.z_isinstance (pa_cons (pv 0) (pa_cons (glY T.m_BadLine) pa_nil))) (pa_cons (bnY (di (K:=K)) T.z_isinstance (pa_cons (pv 0) (pa_cons (glY T.m_BadFlow) pa_nil))) (pa_cons (bnY (di (K:=K)) T.z_isinstance (pa_cons (pv 0) (pa_cons (glY T.m_SamePlace) pa_nil))) (pa_cons (bnY (di (K:=K)) T.z_isinstance (pa_cons (pv 0) (pa_cons (glY T.m_NoFlow) pa_nil))) pa_nil)))))))
 (pss_cons (stY 1 eY (pe_op (ay (K:=K)) (pv 1) (pe_lst (pa_cons (bnY (di (K:=K)) T.z_isinstance (pa_cons (pv 0) (pa_cons (glY T.m_Endless) pa_nil))) (pa_cons (bnY (di (K:=K)) T.z_isinstance (pa_cons (pv 0) (pa_cons (glY T.m_Forever) pa_nil))) (pa_cons (bnY (di (K:=K)) T.z_isinstance (pa_cons (pv 0) (pa_cons (glY T.m_BadQuestion) pa_nil))) (pa_cons (bnY (di (K:=K)) T.z_isinstance (pa_cons (pv 0) (pa_cons (glY T.m_NoDeed) pa_nil))) pa_nil)))))))
 (pss_cons (ps_if (PW.pt (pw_or (ctY (neY K hr) (Dr (K:=K) (pv 1) pe_bl) pe_int) (pw_or1 (pt_not (pt_val (bnY (di (K:=K)) T.z_isinstance (pa_cons (pv 0) (pa_cons (btY "ValueError" T.z_ValueError) pa_nil)))))))) (pss_one (ps_ret pe_str)) pss_nil)
 (pss_cons (stY 2 eY (pe_lst (pa_cons pe_str (pa_cons pe_str (pa_cons pe_str (pa_cons pe_str (pa_cons pe_str (pa_cons pe_str (pa_cons pe_str (pa_cons pe_str (pa_cons pe_str (pa_cons pe_str (pa_cons pe_str (pa_cons pe_str pa_nil))))))))))))))
 (pss_one (ps_ret (ixY K hr (pe_op (ay (K:=K)) (pv 2) (pe_lst (pa_cons pe_str (pa_cons pe_str (pa_cons pe_str (pa_cons pe_str pa_nil)))))) (gX (K:=K) (pv 1) pe_bl)))))))))),(RS.seq (aad (RE.lst (RA.cons (RE.isX T.isx_BadName aaa) (RA.cons (RE.isX T.isx_Twice aaa) (RA.cons (RE.isX T.isx_TooMany aaa) (RA.cons (RE.isX T.isx_NoPlace aaa) RA.nil)))) (.cons (.cons (.cons (.cons Many.nil)))) (by decide)) RG.name)
 (RS.seq (aad (aac bG aaa (RE.lst (RA.cons (RE.isX T.isx_BadTie aaa) (RA.cons (RE.isX T.isx_BadRoom aaa) (RA.cons (RE.isX T.isx_BadPrice aaa) (RA.cons (RE.isX T.isx_NoTie aaa) RA.nil)))) (.cons (.cons (.cons (.cons Many.nil)))) (by decide))) RG.name)
 (RS.seq (aad (aac bG aaa (RE.lst (RA.cons (RE.isX T.isx_BadLine aaa) (RA.cons (RE.isX T.isx_BadFlow aaa) (RA.cons (RE.isX T.isx_SamePlace aaa) (RA.cons (RE.isX T.isx_NoFlow aaa) RA.nil)))) (.cons (.cons (.cons (.cons Many.nil)))) (by decide))) RG.name)
 (RS.seq (aad (aac bG aaa (RE.lst (RA.cons (RE.isX T.isx_Endless aaa) (RA.cons (RE.isX T.isx_Forever aaa) (RA.cons (RE.isX T.isx_BadQuestion aaa) (RA.cons (RE.isX T.isx_NoDeed aaa) RA.nil)))) (.cons (.cons (.cons (.cons Many.nil)))) (by decide))) RG.name)
 (RS.seq (aah (RT.or (RT.val (aac q_ne (RE.countV aaa aaj) aab)) (aam (RT.val (RE.isX T.isx_ValueError aaa)))) (aaf aae) RS.next)
 (RS.seq (aad (RE.lst (RA.cons aae (RA.cons aae (RA.cons aae (RA.cons aae (RA.cons aae (RA.cons aae (RA.cons aae (RA.cons aae (RA.cons aae (RA.cons aae (RA.cons aae (RA.cons aae RA.nil)))))))))))) (.cons (.cons (.cons (.cons (.cons (.cons (.cons (.cons (.cons (.cons (.cons (.cons Many.nil)))))))))))) (by decide)) RG.name)
 (aaf (aac bN (aac bG aaa (RE.lst (RA.cons aae (RA.cons aae (RA.cons aae (RA.cons aae RA.nil)))) (.cons (.cons (.cons (.cons Many.nil)))) (by decide))) (RE.index aaa aaj)))))))))⟩
noncomputable def gh:SD→R Fl:=
 (aj (ax (zC .non) (zSt 4))
 (aj (ax (zC .non) (zSt 5))
 (aj (zTry (pick tk_FlowError) 6 (ax (ar bp [] (zA (aa 0) (zA (aa 1) (zA (aa 2) (zA (aa 3) zA0))))) (zSt 4)) (ax (aa 6) (zSt 5)))
 (aj (bP (zB (z2 (gu false) (aa 5) (zC .non))) (bo (dj (zA (zC (.str "good")) (zA (mn (z1 (xT .int) (z1 (bg ["Raised"] "amount") (aa 4))) (z2 oGe (z1 (bg ["Raised"] "amount") (aa 4)) (zC (.int 0)))) zA0)))) az)
 (aj (ax (ar fE [] (zA (aa 5) zA0)) (zSt 7))
 (aj (bP (zB (z2 oEq (aa 7) (zC (.str "place")))) (bo (dj (zA (aa 7) (zA (z1 (oXf (tm xf_name) "name") (aa 5)) zA0)))) az)
 (aj (bP (zB (z2 oEq (aa 7) (zC (.str "flow")))) (bo (dj (zA (aa 7) (zA (z1 (oXf (tm xf_number) "number") (aa 5)) zA0)))) az)
 (bo (dj (zA (aa 7) (zA (zC .non) zA0)))))))))))
noncomputable def cy:FnV:=zFn N_Ltold.length gh
theorem c_Ltold:CalZ P w K mg base 7 "_law_told" 4 cy []:=
 jD D.d_Ltold sc_Ltold fun hr hu tk=>⟨_,(pss_cons (stY 4 sc_Ltold pe_non)
 (pss_cons (stY 5 sc_Ltold pe_non)
 (pss_cons (ps_tryZ (i:=6) (fb:=(ax (ar bp [] (zA (aa 0) (zA (aa 1) (zA (aa 2) (zA (aa 3) zA0))))) (zSt 4))) (fs:=(ax (aa 6) (zSt 5))) T.tk_FlowError rfl rfl sc_Ltold.nd rfl rfl ⟨rfl,by decide, .inl T.m_FlowError⟩ tk rfl rfl (fun W pn xe tk pa=>⟨_,(pss_one (stY 4 sc_Ltold (clY (DX T D) hr tk (pa_cons (pv 0) (pa_cons (pv 1) (pa_cons (pv 2) (pa_cons (pv 3) pa_nil))))))),(aad (RE.call .nil (RA.cons aaa (RA.cons aaa (RA.cons aaa (RA.cons aaa RA.nil)))) (.cons (.cons (.cons (.cons Many.nil)))) rfl) RG.name)⟩) (fun a pn=>⟨_,(pss_one (stY 5 sc_Ltold (pv 6))),(aad aaa RG.name)⟩))
 (pss_cons (ps_if (ctY lE (pv 5) pe_non) (pss_one (ps_ret (pe_tup (pa_cons pe_str (pa_cons (pe_and (bnY (vy (K:=K)) T.z_isinstance (pa_cons (fdY K (pv 4)) (pa_cons (btY "int" T.z_int) pa_nil))) (pe_one (cmY op_ge (fdY K (pv 4)) pe_int))) pa_nil))))) pss_nil)
 (pss_cons (stY 7 sc_Ltold (clY (D2 T D) hr tk (pa_cons (pv 5) pa_nil)))
 (pss_cons (ps_if (ctY (eqY K hr) (pv 7) pe_str) (pss_one (ps_ret (pe_tup (pa_cons (pv 7) (pa_cons (pe_xk (K:=K) (pv 5)) pa_nil))))) pss_nil)
 (pss_cons (ps_if (ctY (eqY K hr) (pv 7) pe_str) (pss_one (ps_ret (pe_tup (pa_cons (pv 7) (pa_cons (pe_xk (K:=K) (pv 5)) pa_nil))))) pss_nil)
 (pss_one (ps_ret (pe_tup (pa_cons (pv 7) (pa_cons pe_non pa_nil)))))))))))),(RS.seq (aad aag RG.name)
 (RS.seq (aad aag RG.name)
 (RS.seq aau
 (RS.seq (aah (RT.val (aac (iK (neg:=false)) aaa aag)) (aaf (RE.tup (RA.cons aae (RA.cons (RE.andV (RE.isi (t:= .int) (RE.fld T.f_amount_Raised aaa)) (aac q_ge (RE.fld T.f_amount_Raised aaa) aab)) RA.nil)) (.cons (.cons Many.nil)) (by decide))) RS.next)
 (RS.seq (aad (RE.call .nil (RA.cons aaa RA.nil) (.cons Many.nil) rfl) RG.name)
 (RS.seq (aah (RT.val (aac oH aaa aae)) (aaf (RE.tup (RA.cons aaa (RA.cons (RE.xf T.xf_name aaa) RA.nil)) (.cons (.cons Many.nil)) (by decide))) RS.next)
 (RS.seq (aah (RT.val (aac oH aaa aae)) (aaf (RE.tup (RA.cons aaa (RA.cons (RE.xf T.xf_number aaa) RA.nil)) (.cons (.cons Many.nil)) (by decide))) RS.next)
 (aaf (RE.tup (RA.cons aaa (RA.cons aag RA.nil)) (.cons (.cons Many.nil)) (by decide))))))))))⟩
noncomputable def mc:SD→R Fl:=
 (aj (ax (z1 jn (aa 1)) (zSt 5))
 (aj (ax (z2 dh (aa 4) (aa 5)) (zSt 6))
 (aj (ax (z2 dh (z2 cj (z2 cj (aa 6) (zC (.int 1))) (z2 dh (z2 fk (aa 4) (zC (.int 10))) (z2 tE (aa 5) (zC (.int 1))))) (aa 5)) (zSt 7))
 (aj (ax (cM (zA (z2 oIx (aa 1) (aa 6)) (zA (z2 oIx (aa 1) (aa 7)) zA0))) (zSt 8))
 (aj (ax (zIf (zB (ar dA [] (zA (aa 2) (zA (aa 6) (zA (aa 7) zA0))))) (dj (zA (zC (.str "endless")) (zA (zC .non) zA0))) (dj (zA (zC (.str "good")) (zA (zC (.bl true)) zA0)))) (zSt 9))
 (aj (ax (aa 3) (zSt 10))
 (aj (bP (zB (z2 oEq (z2 dh (z2 fk (aa 4) (zC (.int 100))) (zC (.int 3))) (zC (.int 1)))) (aj (ax (ar qb [] (zA (aa 2) (zA (aa 3) (zA (z2 fk (aa 4) (zC (.int 300))) zA0)))) (kj [10,11]))
 (ax (dj (zA (zC (.str "flow")) (zA (aa 11) zA0))) (zSt 9))) az)
 (aj (bP (jF (zB (z2 oEq (z2 dh (z2 fk (aa 4) (zC (.int 100))) (zC (.int 3))) (zC (.int 2)))) (zB (z2 (gu true) (ar dO [] (zA (aa 2) (zA (aa 3) (zA (aa 6) (zA (aa 7) zA0))))) (zC .non)))) (aj (ax (ar dO [] (zA (aa 2) (zA (aa 3) (zA (aa 6) (zA (aa 7) zA0))))) (zSt 10))
 (ax (dj (zA (zC (.str "flow")) (zA (zC (.int 0)) zA0))) (zSt 9))) az)
 (aj (ax (cM (zA (zC (.str "")) (zA (zC (.str "zzzzzzzzzzzz")) (zA (zC .non) (zA (zC (.int 5)) (zA (cM zA0) (zA (dk ku) (zA (zC (.bl true)) (zA (cM (zA (zC (.str "a")) zA0)) zA0))))))))) (zSt 12))
 (aj (ax (z2 dh (z2 fk (aa 4) (zC (.int 1000))) (zC (.int 6))) (zSt 13))
 (aj (bP (zB (z2 oEq (aa 13) (zC (.int 3)))) (aj (ax (z2 oIx (aa 8) (zC (.int 0))) (sy (aa 8) (zC (.int 1))))
 (ax (dj (zA (zC (.str "same")) (zA (zC .non) zA0))) (zSt 9))) az)
 (aj (bP (zOr (zB (z2 oEq (aa 13) (zC (.int 2)))) (zB (z2 oEq (aa 13) (zC (.int 4))))) (aj (ax (z2 oIx (aa 12) (z2 dh (z2 fk (aa 4) (zC (.int 7))) (zC (.int 8)))) (sy (aa 8) (zC (.int 1))))
 (ax (dj (zA (zC (.str "place")) (zA (z2 oIx (aa 8) (zC (.int 1))) zA0))) (zSt 9))) az)
 (aj (bP (zOr (zB (z2 oEq (aa 13) (zC (.int 1)))) (zB (z2 oEq (aa 13) (zC (.int 4))))) (aj (ax (z2 oIx (aa 12) (z2 dh (z2 fk (aa 4) (zC (.int 11))) (zC (.int 8)))) (sy (aa 8) (zC (.int 0))))
 (ax (dj (zA (zC (.str "place")) (zA (z2 oIx (aa 8) (zC (.int 0))) zA0))) (zSt 9))) az)
 (bo (dj (zA (aa 9) (zA (ar cy [] (zA (aa 0) (zA (aa 10) (zA (z2 oIx (aa 8) (zC (.int 0))) (zA (z2 oIx (aa 8) (zC (.int 1))) zA0))))) zA0)))))))))))))))))
noncomputable def eB:FnV:=zFn N_Lasked.length mc
theorem DZ:CalZ P w K mg base 8 "_law_asked" 5 eB []:=
 jD D.d_Lasked aF fun hr hu tk=>⟨_,(pss_cons (stY 5 aF (bnY (bx (K:=K)) T.z_len (pa_cons (pv 1) pa_nil)))
 (pss_cons (stY 6 aF (pe_op op_mod (pv 4) (pv 5)))
 (pss_cons (stY 7 aF (pe_op op_mod (pe_op (ay (K:=K)) (pe_op (ay (K:=K)) (pv 6) pe_int) (pe_op op_mod (pe_op op_fdivW (pv 4) pe_int) (pe_op op_sub (pv 5) pe_int))) (pv 5)))
 (pss_cons (stY 8 aF (pe_lst (pa_cons (ixY K hr (pv 1) (pv 6)) (pa_cons (ixY K hr (pv 1) (pv 7)) pa_nil))))
 (pss_cons (stY 9 aF (pe_ifExp (pt_val (clY (rY T D) hr tk (pa_cons (pv 2) (pa_cons (pv 6) (pa_cons (pv 7) pa_nil))))) (pe_tup (pa_cons pe_str (pa_cons pe_non pa_nil))) (pe_tup (pa_cons pe_str (pa_cons pe_bl pa_nil)))))
 (pss_cons (stY 10 aF (pv 3))
 (pss_cons (ps_if (ctY (eqY K hr) (pe_op op_mod (pe_op op_fdivW (pv 4) pe_int) pe_int) pe_int) (pss_cons (ps_asg (clY (c_Lbent T D) hr tk (pa_cons (pv 2) (pa_cons (pv 3) (pa_cons (pe_op op_fdivW (pv 4) pe_int) pa_nil)))) (iS (K:=K) (n:=2) rfl (pgs_cons (gnY 10 aF) (pgs_cons (gnY 11 aF) pgs_nil))))
 (pss_one (stY 9 aF (pe_tup (pa_cons pe_str (pa_cons (pv 11) pa_nil)))))) pss_nil)
 (pss_cons (ps_if (PW.pt (pw_and (ctY (eqY K hr) (pe_op op_mod (pe_op op_fdivW (pv 4) pe_int) pe_int) pe_int) (pw_and1 (ctY dg (clY (uw T D) hr tk (pa_cons (pv 2) (pa_cons (pv 3) (pa_cons (pv 6) (pa_cons (pv 7) pa_nil))))) pe_non)))) (pss_cons (stY 10 aF (clY (uw T D) hr tk (pa_cons (pv 2) (pa_cons (pv 3) (pa_cons (pv 6) (pa_cons (pv 7) pa_nil))))))
 (pss_one (stY 9 aF (pe_tup (pa_cons pe_str (pa_cons pe_int pa_nil)))))) pss_nil)
 (pss_cons (stY 12 aF (pe_lst (pa_cons pe_str (pa_cons pe_str (pa_cons pe_non (pa_cons pe_int (pa_cons (pe_lst pa_nil) (pa_cons pe_dnewK (pa_cons pe_bl (pa_cons (pe_lst (pa_cons pe_str pa_nil)) pa_nil))))))))))
 (pss_cons (stY 13 aF (pe_op op_mod (pe_op op_fdivW (pv 4) pe_int) pe_int))
 (pss_cons (ps_if (ctY (eqY K hr) (pv 13) pe_int) (pss_cons (ps_asg (ixY K hr (pv 8) pe_int) (pg_sub (pv 8) pe_int set_list))
 (pss_one (stY 9 aF (pe_tup (pa_cons pe_str (pa_cons pe_non pa_nil)))))) pss_nil)
 (pss_cons (ps_if (PW.pt (pw_or (ctY (eqY K hr) (pv 13) pe_int) (pw_or1 (ctY (eqY K hr) (pv 13) pe_int)))) (pss_cons (ps_asg (ixY K hr (pv 12) (pe_op op_mod (pe_op op_fdivW (pv 4) pe_int) pe_int)) (pg_sub (pv 8) pe_int set_list))
 (pss_one (stY 9 aF (pe_tup (pa_cons pe_str (pa_cons (ixY K hr (pv 8) pe_int) pa_nil)))))) pss_nil)
 (pss_cons (ps_if (PW.pt (pw_or (ctY (eqY K hr) (pv 13) pe_int) (pw_or1 (ctY (eqY K hr) (pv 13) pe_int)))) (pss_cons (ps_asg (ixY K hr (pv 12) (pe_op op_mod (pe_op op_fdivW (pv 4) pe_int) pe_int)) (pg_sub (pv 8) pe_int set_list))
 (pss_one (stY 9 aF (pe_tup (pa_cons pe_str (pa_cons (ixY K hr (pv 8) pe_int) pa_nil)))))) pss_nil)
 (pss_one (ps_ret (pe_tup (pa_cons (pv 9) (pa_cons (clY (c_Ltold T D) hr tk (pa_cons (pv 0) (pa_cons (pv 10) (pa_cons (ixY K hr (pv 8) pe_int) (pa_cons (ixY K hr (pv 8) pe_int) pa_nil))))) pa_nil)))))))))))))))))),(RS.seq (aad (RE.c1 q_len aaa) RG.name)
 (RS.seq (aad (aac bJ aaa aaa) RG.name)
 (RS.seq (aad (aac bJ (aac bG (aac bG aaa aab) (aac bJ (aac dS aaa aab) (aac tf aaa aab))) aaa) RG.name)
 (RS.seq (aad (RE.lst (RA.cons (aac bN aaa aaa) (RA.cons (aac bN aaa aaa) RA.nil)) (.cons (.cons Many.nil)) (by decide)) RG.name)
 (RS.seq (aad (RE.if' (RT.val (RE.call .nil (RA.cons aaa (RA.cons aaa (RA.cons aaa RA.nil))) (.cons (.cons (.cons Many.nil))) rfl)) (RE.tup (RA.cons aae (RA.cons aag RA.nil)) (.cons (.cons Many.nil)) (by decide)) (RE.tup (RA.cons aae (RA.cons aaj RA.nil)) (.cons (.cons Many.nil)) (by decide))) RG.name)
 (RS.seq (aad aaa RG.name)
 (RS.seq (aah (RT.val (aac oH (aac bJ (aac dS aaa aab) aab) aab)) (RS.seq (aad (RE.call .nil (RA.cons aaa (RA.cons aaa (RA.cons (aac dS aaa aab) RA.nil))) (.cons (.cons (.cons Many.nil))) rfl) (RG.names (is:= [10,11]) rfl))
 (aad (RE.tup (RA.cons aae (RA.cons aaa RA.nil)) (.cons (.cons Many.nil)) (by decide)) RG.name)) RS.next)
 (RS.seq (aah (aal (RT.val (aac oH (aac bJ (aac dS aaa aab) aab) aab)) (RT.val (aac (iK (neg:=true)) (RE.call .nil (RA.cons aaa (RA.cons aaa (RA.cons aaa (RA.cons aaa RA.nil)))) (.cons (.cons (.cons (.cons Many.nil)))) rfl) aag))) (RS.seq (aad (RE.call .nil (RA.cons aaa (RA.cons aaa (RA.cons aaa (RA.cons aaa RA.nil)))) (.cons (.cons (.cons (.cons Many.nil)))) rfl) RG.name)
 (aad (RE.tup (RA.cons aae (RA.cons aab RA.nil)) (.cons (.cons Many.nil)) (by decide)) RG.name)) RS.next)
 (RS.seq (aad (RE.lst (RA.cons aae (RA.cons aae (RA.cons aag (RA.cons aab (RA.cons (RE.lst RA.nil Many.nil (by decide)) (RA.cons (RE.cell aaq) (RA.cons aaj (RA.cons (RE.lst (RA.cons aae RA.nil) (.cons Many.nil) (by decide)) RA.nil)))))))) (.cons (.cons (.cons (.cons (.cons (.cons (.cons (.cons Many.nil)))))))) (by decide)) RG.name)
 (RS.seq (aad (aac bJ (aac dS aaa aab) aab) RG.name)
 (RS.seq (aah (RT.val (aac oH aaa aab)) (RS.seq (aad (aac bN aaa aab) (RG.sub aaa aab))
 (aad (RE.tup (RA.cons aae (RA.cons aag RA.nil)) (.cons (.cons Many.nil)) (by decide)) RG.name)) RS.next)
 (RS.seq (aah (RT.or (RT.val (aac oH aaa aab)) (RT.val (aac oH aaa aab))) (RS.seq (aad (aac bN aaa (aac bJ (aac dS aaa aab) aab)) (RG.sub aaa aab))
 (aad (RE.tup (RA.cons aae (RA.cons (aac bN aaa aab) RA.nil)) (.cons (.cons Many.nil)) (by decide)) RG.name)) RS.next)
 (RS.seq (aah (RT.or (RT.val (aac oH aaa aab)) (RT.val (aac oH aaa aab))) (RS.seq (aad (aac bN aaa (aac bJ (aac dS aaa aab) aab)) (RG.sub aaa aab))
 (aad (RE.tup (RA.cons aae (RA.cons (aac bN aaa aab) RA.nil)) (.cons (.cons Many.nil)) (by decide)) RG.name)) RS.next)
 (aaf (RE.tup (RA.cons aaa (RA.cons (RE.call .nil (RA.cons aaa (RA.cons aaa (RA.cons (aac bN aaa aab) (RA.cons (aac bN aaa aab) RA.nil)))) (.cons (.cons (.cons (.cons Many.nil)))) rfl) RA.nil)) (.cons (.cons Many.nil)) (by decide))))))))))))))))⟩
noncomputable def b_law:SD→R Fl:=
 (aj (ax (z2 cj (zC (.int 2)) (z2 dh (ar bc [] (zA (aa 0) (zA (zC (.int 70)) zA0))) (zC (.int 5)))) (zSt 1))
 (aj (ax (ar lR [] (zA (ar bc [] (zA (aa 0) (zA (zC (.int 71)) zA0))) (zA (aa 1) zA0))) (zSt 2))
 (aj (ax (zLc (pO (zA (z2 oMin (z1 jn (aa 0)) (zC (.int 20))) zA0)) (zSt 5) eU (ar sF [] (zA (aa 0) (zA (aa 5) (zA (aa 1) zA0)))) [5]) (zSt 3))
 (aj (ax (dk ku) (zSt 4))
 (aj (eJ (kr (aZ (aa 3))) (kj [5,6]) (aj (eV (aa 6) (zC (.str "number")) (z2 cj (aa 5) (zC (.int 1))))
 (eV (aa 4) (z2 cj (aa 5) (zC (.int 1))) (zC (.int 0)))))
 (aj (ax (ar gH [] (zA (aa 2) (zA (aa 3) zA0))) (zSt 7))
 (aj (ax (ar aC [] (zA (aa 7) zA0)) (zSt 8))
 (aj (ax (z1 fN (aa 4)) (zSt 9))
 (aj (eJ (pO (zA (zC (.int 6)) zA0)) (zSt 5) (aj (ax (ar eB [] (zA (aa 7) (zA (aa 2) (zA (aa 3) (zA (aa 4) (zA (ar bc [] (zA (aa 0) (zA (z2 cj (zC (.int 72)) (aa 5)) zA0))) zA0)))))) (kj [10,11]))
 (bP (zOr (zB (z2 An (aa 11) (aa 10))) (zOr (zB (z2 oNe (aa 4) (aa 9))) (zB (z2 oNe (ar aC [] (zA (aa 7) zA0)) (aa 8))))) (bo (zC (.bl false))) az)))
 (bo (zC (.bl true))))))))))))
noncomputable def v_law:FnV:=zFn N_law.length b_law
theorem c_law {f:Addr} {fd:FuncData} (F:L2.Fun K "law" "law" jK f fd):FnOk P w K mg base L2.CX0 9 f fd ["_law_script"] (fun vs H Q E=>spF ⟨K,mg⟩ 1 v_law vs H Q (fun _ _ _=>False)):=
 fnZ0 F eD (by decide) fun cdv A outer s H E hr=>by
  have hu:=hu_of hr
  have tk:=(mF:Takes (cxOf L2.CX0 P w K mg base N_law "law" (L2.defScope jK) f cdv A outer s H E).nox WF)
  exact ⟨_,(pss_cons (stY 1 eD (pe_op (ay (K:=K)) pe_int (pe_op op_mod (clY (ka T D) hr tk (pa_cons (pv 0) (pa_cons pe_int pa_nil))) pe_int)))
 (pss_cons (stY 2 eD (clY (DY T D) hr tk (pa_cons (clY (ka T D) hr tk (pa_cons (pv 0) (pa_cons pe_int pa_nil))) (pa_cons (pv 1) pa_nil))))
 (pss_cons (slY 3 [("_law_k",5)] eD (pi_range1 rfl T.z_range (pa_cons (bnY (cl_min2 rfl) T.z_min (pa_cons (bnY (bx (K:=K)) T.z_len (pa_cons (pv 0) pa_nil)) (pa_cons pe_int pa_nil))) pa_nil)) (gnY 5 eD) pts_nil (clY (c_Lrow T D) hr mF (pa_cons (pv 0) (pa_cons (pv 5) (pa_cons (pv 1) pa_nil)))))
 (pss_cons (stY 4 eD pe_dnewK)
 (pss_cons (ps_for PassesOwn.never rfl (pi_enum rfl T.z_enumerate (pa_cons (pv 3) pa_nil)) (iS (K:=K) (n:=2) rfl (pgs_cons (gnY 5 eD) (pgs_cons (gnY 6 eD) pgs_nil))) (pss_cons (ps_dput hu (pv 6) pe_str (pe_op (ay (K:=K)) (pv 5) pe_int) rfl)
 (pss_one (ps_dput hu (pv 4) (pe_op (ay (K:=K)) (pv 5) pe_int) pe_int rfl))))
 (pss_cons (stY 7 eD (clY (c_Lmade T D) hr tk (pa_cons (pv 2) (pa_cons (pv 3) pa_nil))))
 (pss_cons (stY 8 eD (clY (om T D) hr tk (pa_cons (pv 7) pa_nil)))
 (pss_cons (stY 9 eD (tyY (iH (K:=K) rfl) T.z_dict (pa_cons (pv 4) pa_nil)))
 (pss_cons (ps_for PassesOwn.never rfl (pi_range1 rfl T.z_range (pa_cons pe_int pa_nil)) (gnY 5 eD) (pss_cons (ps_asg (clY (DZ T D) hr tk (pa_cons (pv 7) (pa_cons (pv 2) (pa_cons (pv 3) (pa_cons (pv 4) (pa_cons (clY (ka T D) hr tk (pa_cons (pv 0) (pa_cons (pe_op (ay (K:=K)) pe_int (pv 5)) pa_nil))) pa_nil)))))) (iS (K:=K) (n:=2) rfl (pgs_cons (gnY 10 eD) (pgs_cons (gnY 11 eD) pgs_nil))))
 (pss_one (ps_if (PW.pt (pw_or (ctY (op_neU (K:=K) hr.units) (pv 11) (pv 10)) (pw_or (ctY (neY K hr) (pv 4) (pv 9)) (pw_or1 (ctY (neY K hr) (clY (om T D) hr tk (pa_cons (pv 7) pa_nil)) (pv 8)))))) (pss_one (ps_ret pe_bl)) pss_nil))))
 (pss_one (ps_ret pe_bl))))))))))),(RS.seq (aad (aac bG aab (aac bJ (RE.call .nil (RA.cons aaa (RA.cons aab RA.nil)) (.cons (.cons Many.nil)) rfl) aab)) RG.name)
 (RS.seq (aad (RE.call .nil (RA.cons (RE.call .nil (RA.cons aaa (RA.cons aab RA.nil)) (.cons (.cons Many.nil)) rfl) (RA.cons aaa RA.nil)) (.cons (.cons Many.nil)) rfl) RG.name)
 (RS.seq (aad (aak (is:= [5]) (aar (RA.cons (RE.c2 q_min (RE.c1 q_len aaa) aab) RA.nil)) RG.name aai (RE.call .nil (RA.cons aaa (RA.cons aaa (RA.cons aaa RA.nil))) (.cons (.cons (.cons Many.nil))) rfl)) RG.name)
 (RS.seq (aad (RE.cell aaq) RG.name)
 (RS.seq (RS.for' (RI.enum (RE.fix aaa)) (RG.names (is:= [5,6]) rfl) (RS.seq (aap aaa aae (aac bG aaa aab))
 (aap aaa (aac bG aaa aab) aab)))
 (RS.seq (aad (RE.call .nil (RA.cons aaa (RA.cons aaa RA.nil)) (.cons (.cons Many.nil)) rfl) RG.name)
 (RS.seq (aad (RE.call .nil (RA.cons aaa RA.nil) (.cons Many.nil) rfl) RG.name)
 (RS.seq (aad (RE.c1 pD aaa) RG.name)
 (RS.seq (RS.for' (aar (RA.cons aab RA.nil)) RG.name (RS.seq (aad (RE.call .nil (RA.cons aaa (RA.cons aaa (RA.cons aaa (RA.cons aaa (RA.cons (RE.call .nil (RA.cons aaa (RA.cons (aac bG aab aaa) RA.nil)) (.cons (.cons Many.nil)) rfl) RA.nil))))) (.cons (.cons (.cons (.cons (.cons Many.nil))))) rfl) (RG.names (is:= [10,11]) rfl))
 (aah (RT.or (RT.val (aac q_neU aaa aaa)) (RT.or (RT.val (aac q_ne aaa aaa)) (RT.val (aac q_ne (RE.call .nil (RA.cons aaa RA.nil) (.cons Many.nil) rfl) aaa)))) (aaf aaj) RS.next)))
 (aaf aaj))))))))))⟩
end
end T

namespace Z
open PySem PySem.Spec PyProof.Rows L2 M
open Classical
section
variable {α β:Type} {a b:Vl} {x y:D} {s s' :SD} {S:Sto} {sl:List (Option Vl)} {f g:SD→R Fl} {fa fb fc:SD→R Vl} {fr:SD→R (List D)} {i j k:Nat}
theorem wy {a:α} {k:α→SD→R β}:R.bind (.ok a s) k=k a s:=Eq.trans rfl rfl
theorem se {k:α→SD→R β}:R.bind .bad k= .bad:=rfl
theorem rZ {c:Prop} [Decidable c] {m n:R α} {k:α→SD→R β}:R.bind (if c then m else n) k=if c then m.bind k else n.bind k:=by split<;> rfl
theorem iteW {c:Prop} [Decidable c] {P Q:Prop} (h:c) (p:P):if c then P else Q:=by rw [if_pos h]; exact p
def compK {γ:Type} (k:α→SD→R β) (l:β→SD→R γ):α→SD→R γ:=fun a s=>(k a s).bind l
theorem yC {γ:Type} {k:α→SD→R β} {l:β→SD→R γ} {a:α}:compK k l a s=(k a s).bind l:=rfl
theorem ou {γ:Type} {m:R α} {k:α→SD→R β} {l:β→SD→R γ}:R.bind (R.bind m k) l=R.bind m (compK k l):=by cases m<;> rfl
theorem BZ {c:Prop} [Decidable c] {m n:R α} {Q:α→SD→Prop} {E:XQ}:Wp (if c then m else n) Q E=if c then Wp m Q E else Wp n Q E:=by split<;> rfl
def seqK (g:SD→R Fl):Fl→SD→R Fl
 | .nx,s=>g s
 | .bk,s=> .ok .bk s
 | .ct,s=> .ok .ct s
 | .rt a,s=> .ok (.rt a) s
theorem e_seq:aj f g s=(f s).bind (seqK g):=by
 unfold aj
 congr
 funext fl s1
 cases fl<;> rfl
theorem uV:seqK g .nx s=g s:=Eq.trans rfl rfl
theorem uU:seqK g (.rt a) s= .ok (.rt a) s:=rfl
theorem uX:seqK g .bk s= .ok .bk s:=rfl
theorem uW:seqK g .ct s= .ok .ct s:=rfl
def nxK {α:Type}:α→SD→R Fl:=fun _ s=> .ok .nx s
theorem x_nx {α:Type} {a:α}:nxK a s= .ok .nx s:=rfl
def asgK (fz:Vl→SD→R Unit):Vl→SD→R Fl:=fun a s=>(fz a s).bind nxK
theorem x_asg {fz:Vl→SD→R Unit}:asgK fz a s=(fz a s).bind nxK:=rfl
theorem e_asg {fz:Vl→SD→R Unit}:ax fa fz s=(fa s).bind (asgK fz):=rfl
theorem Bn:zSt i (.d x) ⟨sl,S⟩= .ok () ⟨sl.set i (some (.d x)),S⟩:=rfl
theorem rG:zSt i (.own x) ⟨sl,S⟩= .ok () ⟨sl.set i (some (.own x)),S⟩:=rfl
def stK (i:Nat):D→SD→R Unit:=fun x s=> .ok () {s with sl:=s.sl.set i (some (.d x))}
theorem x_st:stK i x ⟨sl,S⟩= .ok () ⟨sl.set i (some (.d x)),S⟩:=rfl
theorem rH:zSt i (.loc k) s=(s.fix (.loc k)).bind (stK i):=rfl
theorem Br:az s= .ok .nx s:=rfl
theorem vZ:zBreak s= .ok .bk s:=rfl
theorem Bw:zCont s= .ok .ct s:=rfl
def ifK {α:Type} (f g:SD→R α):Bool→SD→R α:=fun b s=>if b=true then f s else g s
theorem x_if {α:Type} {f g:SD→R α} {b:Bool}:ifK f g b s=if b=true then f s else g s:=Eq.trans rfl rfl
theorem e_ifS {c:SD→R Bool}:bP c f g s=(c s).bind (ifK f g):=rfl
def rtK:Vl→SD→R Fl:=fun b s=> .ok (.rt b) s
theorem x_rt:rtK a s= .ok (.rt a) s:=rfl
def retK:Vl→SD→R Fl:=fun a s=>(s.told a).bind rtK
theorem x_ret:retK a s=(s.told a).bind rtK:=rfl
theorem e_ret:bo fa s=(fa s).bind retK:=rfl
theorem Bo:zRetN s= .ok (.rt (.d .non)) s:=rfl
theorem Bt:aN fa s=(fa s).bind nxK:=rfl
theorem vX:jE s= .bad:=rfl
theorem yS:s.told (.d x)= .ok (.d x) s:=rfl
theorem qd:s.told (.own x)= .ok (.own x) s:=rfl
def toldK (s:SD) (k:Nat):Option (Option Vl)→R Vl
 | some (some (.own x))=> .ok (.own x) {s with sl:=s.sl.set k none}
 | some (some (.d x))=> .ok (.d x) s
 | _=> .bad
theorem qe:s.told (.loc k)=toldK s k s.sl[k]? :=by
 unfold SD.told toldK
 rfl
theorem mA:toldK ⟨sl,S⟩ k (some (some (.own x)))= .ok (.own x) ⟨sl.set k none,S⟩:=rfl
theorem e_c:zC x s= .ok (.d x) s:=rfl
def varK (s:SD) (i:Nat):Option (Option Vl)→R Vl
 | some (some (.own _))=> .ok (.loc i) s
 | some (some (.d x))=> .ok (.d x) s
 | _=> .bad
theorem e_var:aa i s=varK s i s.sl[i]? :=by
 unfold aa varK
 rfl
theorem pZ:varK s i (some (some (.own x)))= .ok (.loc i) s:=rfl
theorem yP:varK s i (some (some (.d x)))= .ok (.d x) s:=rfl
theorem e_z1 {h:Vl→SD→R Vl}:z1 h fa s=(fa s).bind h:=rfl
def z2K (h:Vl→Vl→SD→R Vl) (fb:SD→R Vl):Vl→SD→R Vl:=fun a s=>(fb s).bind (h a)
theorem x_z2 {h:Vl→Vl→SD→R Vl}:z2K h fb a s=(fb s).bind (h a):=rfl
theorem e_z2 {h:Vl→Vl→SD→R Vl}:z2 h fa fb s=(fa s).bind (z2K h fb):=rfl
theorem fix_d:s.fix (.d x)= .ok x s:=rfl
theorem vR:s.fix (.own x)= .ok x s:=rfl
def fixK (s:SD) (k:Nat):Option (Option Vl)→R D
 | some (some (.own x))=> .ok x {s with sl:=s.sl.set k (some (.d x))}
 | some (some (.d x))=> .ok x s
 | _=> .bad
theorem vS:s.fix (.loc k)=fixK s k s.sl[k]? :=by
 unfold SD.fix fixK
 rfl
theorem rB:fixK ⟨sl,S⟩ k (some (some (.own x)))= .ok x ⟨sl.set k (some (.d x)),S⟩:=rfl
theorem Bh:fixK s k (some (some (.d x)))= .ok x s:=rfl
def dK' :D→SD→R Vl:=fun x s=> .ok (.d x) s
theorem x_d:dK' x s= .ok (.d x) s:=rfl
def viaK (h:SD→Vl→R D):Vl→SD→R Vl:=fun a s=>(h s a).bind dK'
theorem x_via {h:SD→Vl→R D}:viaK h a s=(h s a).bind dK' :=rfl
theorem e_via {h:SD→Vl→R D}:wC h fa s=(fa s).bind (viaK h):=rfl
theorem kZ:SD.celled ⟨sl,S⟩ (.own x)= .ok (.cell S.nx) ⟨sl,S.new x⟩:=rfl
theorem ju:SD.celled s (.d (.cell i))= .ok (.cell i) s:=rfl
theorem DH (h:S.get i=some x):SD.frz ⟨sl,S⟩ (.d (.cell i))= .ok x ⟨sl,S.del i⟩:=by
 unfold SD.frz
 simp only [h]
theorem e_a0:zA0 s= .ok [] s:=rfl
def consK (x:D):List D→SD→R (List D):=fun xs s=> .ok (x::xs) s
theorem yB {xs:List D}:consK x xs s= .ok (x::xs) s:=rfl
def fixK' (fr:SD→R (List D)):D→SD→R (List D):=fun x s=>(fr s).bind (consK x)
theorem x_fix:fixK' fr x s=(fr s).bind (consK x):=rfl
def aK (fr:SD→R (List D)):Vl→SD→R (List D):=fun a s=>(s.fix a).bind (fixK' fr)
theorem x_a:aK fr a s=(s.fix a).bind (fixK' fr):=rfl
theorem e_a:zA fa fr s=(fa s).bind (aK fr):=rfl
def tupK:List D→SD→R Vl:=fun xs s=> .ok (.d (.tup xs)) s
theorem x_tup {xs:List D}:tupK xs s= .ok (.d (.tup xs)) s:=rfl
def lstK:List D→SD→R Vl:=fun xs s=> .ok (.own (.lst xs)) s
theorem x_lst {xs:List D}:lstK xs s= .ok (.own (.lst xs)) s:=rfl
theorem e_tup:dj fr s=(fr s).bind tupK:=rfl
theorem e_lst:cM fr s=(fr s).bind lstK:=rfl
theorem Bu:ku s= .ok (.own (.dct [])) s:=rfl
theorem e_b:zB fa s=(fa s).bind oB:=rfl
theorem oB_bl {b:Bool}:oB (.d (.bl b)) s= .ok b s:=rfl
def okK {α:Type} (b:α):SD→R α:=fun s=> .ok b s
theorem x_ok {α:Type} {b:α}:okK b s= .ok b s:=rfl
def notK:Bool→SD→R Bool:=fun b s=> .ok (!b) s
theorem x_not {b:Bool}:notK b s= .ok (!b) s:=rfl
def notVK:Bool→SD→R Vl:=fun b s=> .ok (.d (.bl (!b))) s
theorem yz {b:Bool}:notVK b s= .ok (.d (.bl (!b))) s:=rfl
theorem e_and {c d:SD→R Bool}:jF c d s=(c s).bind (ifK d (okK false)):=rfl
theorem e_or {c d:SD→R Bool}:zOr c d s=(c s).bind (ifK (okK true) d):=rfl
theorem e_not {c:SD→R Bool}:uB c s=(c s).bind notK:=rfl
theorem BA:mn fa fb s=(zB fa s).bind (ifK fb (okK (.d (.bl false)))):=rfl
theorem e_orV:zOrV fa fb s=(zB fa s).bind (ifK (okK (.d (.bl true))) fb):=rfl
theorem Bq:yt fa s=(zB fa s).bind notVK:=rfl
theorem e_if {c:SD→R Bool}:zIf c fa fb s=(c s).bind (ifK fa fb):=rfl
def callK (F:FnV) (dds:List D):List D→SD→R Vl:=fun ds s=>goF F (ds++dds) s
theorem yD {F:FnV} {dds ds:List D}:callK F dds ds s=goF F (ds++dds) s:=rfl
theorem Bx {F:FnV} {dds:List D}:ar F dds fr s=(fr s).bind (callK F dds):=rfl
def AA (c m:Str) (F:FnV) (dds:List D) (fr:SD→R (List D)) (x:D) (s:SD):Option D→R Vl
 | some (.obj c' fs)=>if c' =c∧dI fs m=none then (fr s).bind fun ds s3=>goF F (x::(ds++dds)) s3 else .bad
 | _=> .bad
def selfK (F:FnV) (dds:List D) (x:D):List D→SD→R Vl:=fun ds s=>goF F (x::(ds++dds)) s
theorem yx {F:FnV} {dds ds:List D}:selfK F dds x ds s=goF F (x::(ds++dds)) s:=rfl
def xc (c m:Str) (F:FnV) (dds:List D) (fr:SD→R (List D)):D→SD→R Vl:=fun x s=>AA c m F dds fr x s (s.cont (.d x))
theorem uC {c m:Str} {F:FnV} {dds:List D}:xc c m F dds fr x s=AA c m F dds fr x s (s.cont (.d x)):=rfl
def Az (c m:Str) (F:FnV) (dds:List D) (fr:SD→R (List D)):Vl→SD→R Vl:=fun a s=>(s.fix a).bind (xc c m F dds fr)
theorem uD {c m:Str} {F:FnV} {dds:List D}:Az c m F dds fr a s=(s.fix a).bind (xc c m F dds fr):=rfl
theorem Bs {c m:Str} {F:FnV} {dds:List D} {fo:SD→R Vl}:aD c m F dds fo fr s=(fo s).bind (Az c m F dds fr):=by
 unfold aD Az xc AA
 rfl
theorem ak {c m:Str} {F:FnV} {dds:List D} {fs:List (Str×D)} (h:dI fs m=none):AA c m F dds fr x s (some (.obj c fs))=(fr s).bind (selfK F dds x):=by
 unfold AA
 simp only [h,and_self,if_true]
 rfl
def BI (f g:Vl→Vl→SD→R Vl) (fc:SD→R Vl) (a b:Vl) (s2:SD):R Vl:=match b with
 | .d z=>match D.sc z with
  | some _=>(f a b s2).bind fun r s3=>match r with
   | .d (.bl true)=>(fc s3).bind fun c s4=>g (.d z) c s4
   | .d (.bl false)=> .ok (.d (.bl false)) s3
   | _=> .bad
  | none=> .bad
 | _=> .bad
def wg (h l:Vl→Vl→SD→R Vl) (fc:SD→R Vl) (a:Vl):Vl→SD→R Vl:=fun b s=>BI h l fc a b s
theorem pR {h l:Vl→Vl→SD→R Vl}:wg h l fc a b s=BI h l fc a b s:=rfl
def BJ (h l:Vl→Vl→SD→R Vl) (fb fc:SD→R Vl):Vl→SD→R Vl:=fun a s=>(fb s).bind (wg h l fc a)
theorem pS {h l:Vl→Vl→SD→R Vl}:BJ h l fb fc a s=(fb s).bind (wg h l fc a):=rfl
theorem vY {h l:Vl→Vl→SD→R Vl}:sA h l fa fb fc s=(fa s).bind (BJ h l fb fc):=rfl
def chK (l:Vl→Vl→SD→R Vl) (fc:SD→R Vl) (b:Vl) (r:Vl) (s:SD):R Vl:=match r with
 | .d (.bl true)=>(fc s).bind fun c s4=>l b c s4
 | .d (.bl false)=> .ok (.d (.bl false)) s
 | _=> .bad
theorem BK {l:Vl→Vl→SD→R Vl} {t:Bool}:chK l fc b (.d (.bl t)) s=if t=true then (fc s).bind (l b) else .ok (.d (.bl false)) s:=by cases t<;> rfl
theorem kY {h l:Vl→Vl→SD→R Vl} {n:Int}:BI h l fc a (.d (.int n)) s=(h a (.d (.int n)) s).bind (chK l fc (.d (.int n))):=rfl
theorem e_no:zNo s= .ok none s:=rfl
def ptK:Vl→SD→R (Option Int)
 | .d (.int i),s=> .ok (some i) s
 | _,_=> .bad
theorem x_pt {n:Int}:ptK (.d (.int n)) s= .ok (some n) s:=rfl
theorem e_pt:zPt fa s=(fa s).bind ptK:=by
 unfold zPt
 congr
 funext a s1
 cases a with
 | d x=>cases x<;> rfl
 | own x=>rfl
 | loc k=>rfl
noncomputable def sl3K (a:Vl) (lo:Option Int):Option Int→SD→R Vl:=fun hi s=>oSl a lo hi s
theorem x_sl3 {lo hi:Option Int}:sl3K a lo hi s=oSl a lo hi s:=rfl
noncomputable def sl2K (fh:SD→R (Option Int)) (a:Vl):Option Int→SD→R Vl:=fun lo s=>(fh s).bind (sl3K a lo)
theorem x_sl2 {fh:SD→R (Option Int)} {lo:Option Int}:sl2K fh a lo s=(fh s).bind (sl3K a lo):=rfl
noncomputable def sl1K (fl fh:SD→R (Option Int)):Vl→SD→R Vl:=fun a s=>(fl s).bind (sl2K fh a)
theorem x_sl1 {fl fh:SD→R (Option Int)}:sl1K fl fh a s=(fl s).bind (sl2K fh a):=rfl
theorem e_sl {fl fh:SD→R (Option Int)}:zSl fa fl fh s=(fa s).bind (sl1K fl fh):=rfl
theorem rS {n:Int}:s.cont (.d (.int n))=some (.int n):=rfl
theorem lZ {z:Str}:s.cont (.d (.str z))=some (.str z):=rfl
theorem wc {t:Bool}:s.cont (.d (.bl t))=some (.bl t):=rfl
theorem rQ:s.cont (.d .non)=some .non:=rfl
theorem iG {l:List D}:s.cont (.d (.lst l))=some (.lst l):=rfl
theorem ma {l:List D}:s.cont (.d (.con l))=some (.con l):=rfl
theorem lY {l:List D}:s.cont (.d (.tup l))=some (.tup l):=rfl
theorem rV {l:List (Key×D)}:s.cont (.d (.dct l))=some (.dct l):=rfl
theorem rP {c:Str} {l:List (Str×D)}:s.cont (.d (.obj c l))=some (.obj c l):=rfl
theorem jX:s.cont (.d (.cell i))=s.st.get i:=rfl
theorem iF:s.cont (.own x)=some x:=rfl
def contK (S:Sto):Option (Option Vl)→Option D
 | some (some (.own x))=>some x
 | some (some (.d (.cell i)))=>S.get i
 | some (some (.d x))=>some x
 | _=>none
theorem rR:s.cont (.loc k)=contK s.st s.sl[k]? :=by
 show (match s.sl[k]? with | some (some (.own x))=>some x | some (some (.d (.cell i)))=>s.st.get i | some (some (.d x))=>some x | _=>none)=_
 unfold contK
 rfl
theorem oj:contK S (some (some (.own x)))=some x:=rfl
theorem w_sub {m n:Int}:tE (.d (.int m)) (.d (.int n)) s= .ok (.d (.int (m - n))) s:=rfl
theorem w_mod {m n:Int}:dh (.d (.int m)) (.d (.int n)) s=if 0<n then .ok (.d (.int (m%n))) s else .bad:=rfl
theorem w_div {m n:Int}:fk (.d (.int m)) (.d (.int n)) s=if CDivW m n then .ok (.d (.int (m / n))) s else .bad:=rfl
theorem w_pow {m n:Int}:B5 (.d (.int m)) (.d (.int n)) s=if sx m n then .ok (.d (.int (m ^ n.toNat))) s else .bad:=rfl
theorem w_cmp {h:Int→Int→Bool} {m n:Int}:C3 h (.d (.int m)) (.d (.int n)) s= .ok (.d (.bl (h m n))) s:=rfl
noncomputable def addK (s:SD):Option D→Option D→R Vl
 | some (.int i),some (.int j)=> .ok (.d (.int (i+j))) s
 | some (.str x),some (.str y)=>if x.length+y.length≤sizeLine then .ok (.d (.str (x++y))) s else .bad
 | some (.lst xs),some (.lst ys)=>if xs.length+ys.length≤sizeLine then .ok (.own (.lst (xs++ys))) s else .bad
 | some (.tup xs),some (.tup ys)=>if xs≠ []∧ys≠ []∧xs.length+ys.length≤sizeLine then .ok (.d (.tup (xs++ys))) s else .bad
 | _,_=> .bad
theorem w_add:cj a b s=addK s (s.cont a) (s.cont b):=by
 unfold cj addK
 rfl
theorem su {m n:Int}:addK s (some (.int m)) (some (.int n))= .ok (.d (.int (m+n))) s:=rfl
theorem so {m n:Str}:addK s (some (.str m)) (some (.str n))=if m.length+n.length≤sizeLine then .ok (.d (.str (m++n))) s else .bad:=rfl
theorem sq {m n:List D}:addK s (some (.lst m)) (some (.lst n))=if m.length+n.length≤sizeLine then .ok (.own (.lst (m++n))) s else .bad:=rfl
theorem sk {m n:List D}:addK s (some (.tup m)) (some (.tup n))=if m≠ []∧n≠ []∧m.length+n.length≤sizeLine then .ok (.d (.tup (m++n))) s else .bad:=rfl
noncomputable def mulK (s:SD):Option D→Option D→R Vl
 | some (.int i),some (.int j)=>if CMulX i j then .ok (.d (.int (i*j))) s else .bad
 | some (.lst xs),some (.int k)=>if -(2 ^ 63)≤k∧k<2 ^ 63∧xs.length*k.toNat≤sizeLine then .ok (.own (.lst (List.replicate k.toNat xs).flatten)) s else .bad
 | some (.str z),some (.int k)=>if PySem.MulOk z k then .ok (.d (.str (Txt.mul z k))) s else .bad
 | _,_=> .bad
theorem yK:oQ a b s=mulK s (s.cont a) (s.cont b):=by
 unfold oQ mulK
 rfl
theorem qM {i j:Int}:mulK s (some (.int i)) (some (.int j))=if CMulX i j then .ok (.d (.int (i*j))) s else .bad:=rfl
theorem qK {z:Str} {k:Int}:mulK s (some (.str z)) (some (.int k))=if PySem.MulOk z k then .ok (.d (.str (Txt.mul z k))) s else .bad:=rfl
theorem qL {xs:List D} {k:Int}:mulK s (some (.lst xs)) (some (.int k))=if -(2 ^ 63)≤k∧k<2 ^ 63∧xs.length*k.toNat≤sizeLine then .ok (.own (.lst (List.replicate k.toNat xs).flatten)) s else .bad:=rfl
theorem w_neg {n:Int}:oNeg (.d (.int n)) s= .ok (.d (.int (-n))) s:=rfl
theorem w_min {m n:Int}:oMin (.d (.int m)) (.d (.int n)) s= .ok (.d (.int (if n<m then n else m))) s:=rfl
def AO (t:Ty1) (s:SD):Option D→R Vl
 | some x=>match x.knd with
  | some _=> .ok (.d (.bl (isT t x))) s
  | none=> .bad
 | none=> .bad
theorem CA {t:Ty1}:xT t a s=AO t s (s.cont a):=by
 unfold xT AO
 rfl
theorem vG {t:Ty1} {n:Int}:AO t s (some (.int n))= .ok (.d (.bl (isT t (.int n)))) s:=rfl
theorem AN {t:Ty1} {n:Bool}:AO t s (some (.bl n))= .ok (.d (.bl (isT t (.bl n)))) s:=rfl
theorem vD {t:Ty1} {n:Str}:AO t s (some (.str n))= .ok (.d (.bl (isT t (.str n)))) s:=rfl
theorem vE {t:Ty1}:AO t s (some .non)= .ok (.d (.bl (isT t .non))) s:=rfl
theorem vF {t:Ty1} {n:List D}:AO t s (some (.lst n))= .ok (.d (.bl (isT t (.lst n)))) s:=rfl
theorem vI {t:Ty1} {n:List D}:AO t s (some (.con n))= .ok (.d (.bl (isT t (.con n)))) s:=rfl
theorem vC {t:Ty1} {n:List D}:AO t s (some (.tup n))= .ok (.d (.bl (isT t (.tup n)))) s:=rfl
theorem vH {t:Ty1} {n:List (Key×D)}:AO t s (some (.dct n))= .ok (.d (.bl (isT t (.dct n)))) s:=rfl
theorem gz {neg:Bool} {n:Int}:gu neg (.d (.int n)) (.d .non) s= .ok (.d (.bl neg)) s:=rfl
theorem mv {neg:Bool} {n:List D}:gu neg (.d (.tup n)) (.d .non) s= .ok (.d (.bl neg)) s:=rfl
theorem pW {neg:Bool}:gu neg (.d .non) (.d .non) s= .ok (.d (.bl (!neg))) s:=rfl
noncomputable def eqK (s:SD):Option D→Option D→R Vl
 | some x,some y=>match dEq x y with
  | some r=> .ok (.d (.bl r)) s
  | none=> .bad
 | _,_=> .bad
theorem w_eq:oEq a b s=eqK s (s.cont a) (s.cont b):=by
 unfold oEq eqK
 rfl
theorem Bj {r:Bool} (h:dEq x y=some r):eqK s (some x) (some y)= .ok (.d (.bl r)) s:=by
 unfold eqK
 simp only [h]
theorem hX {i j:Int}:dEq (.int i) (.int j)=some (decide (i=j)):=by
 show some (decide (V.int i=V.int j))=_
 congr 1
 apply decide_eq_decide.mpr
 exact ⟨fun h=>by cases h; rfl,fun h=>by rw [h]⟩
theorem BE {i j:Str}:dEq (.str i) (.str j)=some (decide (i=j)):=by
 show some (decide (V.str i=V.str j))=_
 congr 1
 apply decide_eq_decide.mpr
 exact ⟨fun h=>by cases h; rfl,fun h=>by rw [h]⟩
theorem vW {i j:Int}:eqK s (some (.int i)) (some (.int j))= .ok (.d (.bl (decide (i=j)))) s:=Bj hX
theorem rF {i j:Str}:eqK s (some (.str i)) (some (.str j))= .ok (.d (.bl (decide (i=j)))) s:=Bj BE
noncomputable def neK (s:SD):Option D→Option D→R Vl
 | some (.dct ks),some (.dct [])=> .ok (.d (.bl (!ks.isEmpty))) s
 | some x,some y=>match dEq x y with
  | some r=> .ok (.d (.bl (!r))) s
  | none=> .bad
 | _,_=> .bad
theorem w_ne:oNe a b s=neK s (s.cont a) (s.cont b):=by
 unfold oNe neK
 rfl
theorem vq {l:List D}:neK s (some (.lst l)) (some (.lst []))= .ok (.d (.bl (!l.isEmpty))) s:=by
 unfold neK dEq
 rfl
theorem vu {l:List (Key×D)}:neK s (some (.dct l)) (some (.dct []))= .ok (.d (.bl (!l.isEmpty))) s:=rfl
theorem dEq_dct {ks ls:List (Key×D)} (h:rM ks ls=true):dEq (.dct ks) (.dct ls)=some true:=by
 unfold dEq
 show (if rM ks ls=true then some true else none)=_
 rw [if_pos h]
theorem neK_dd {ks ls:List (Key×D)} (h:rM ks ls=true):neK s (some (.dct ks)) (some (.dct ls))= .ok (.d (.bl false)) s:=by
 cases ls with
 | nil=>
  have:=(nY h).1
  obtain rfl:ks= []:=List.eq_nil_of_length_eq_zero (by simpa using this)
  rfl
 | cons q r=>
  unfold neK
  simp only [dEq_dct h]
  rfl
theorem vV {l:List D}:eqK s (some (.lst l)) (some (.lst []))= .ok (.d (.bl l.isEmpty)) s:=by
 unfold eqK dEq
 rfl
noncomputable def inK (neg:Bool) (s:SD):Option D→Option D→R Vl
 | some x,some y=>match dIn x y with
  | some r=> .ok (.d (.bl (if neg then !r else r))) s
  | none=> .bad
 | _,_=> .bad
theorem w_in {neg:Bool}:oIn neg a b s=inK neg s (s.cont a) (s.cont b):=by
 unfold oIn inK
 rfl
theorem nN {neg r:Bool} (h:dIn x y=some r):inK neg s (some x) (some y)= .ok (.d (.bl (if neg then !r else r))) s:=by
 unfold inK
 simp only [h]
noncomputable def ixK (s:SD):Option D→Option D→R Vl
 | some x,some y=>match dIx x y with
  | some r=> .ok (.d r) s
  | none=> .bad
 | _,_=> .bad
theorem w_ix:oIx a b s=ixK s (s.cont a) (s.cont b):=by
 unfold oIx ixK
 rfl
theorem bj {r:D} (h:dIx x y=some r):ixK s (some x) (some y)= .ok (.d r) s:=by
 unfold ixK
 simp only [h]
def lenK (s:SD):Option D→R Vl
 | some (.lst xs)=> .ok (.d (.int xs.length)) s
 | some (.con xs)=> .ok (.d (.int xs.length)) s
 | some (.tup xs)=> .ok (.d (.int xs.length)) s
 | some (.str z)=>if z.length≤sizeLine then .ok (.d (.int z.length)) s else .bad
 | some (.dct ks)=> .ok (.d (.int ks.length)) s
 | _=> .bad
theorem Cz:jn a s=lenK s (s.cont a):=by
 unfold jn lenK
 rfl
theorem qQ {l:List D}:lenK s (some (.lst l))= .ok (.d (.int l.length)) s:=rfl
theorem qS {l:List D}:lenK s (some (.con l))= .ok (.d (.int l.length)) s:=rfl
theorem qR {l:List (Key×D)}:lenK s (some (.dct l))= .ok (.d (.int l.length)) s:=rfl
theorem qP {z:Str}:lenK s (some (.str z))=if z.length≤sizeLine then .ok (.d (.int z.length)) s else .bad:=rfl
def fldK (cls:List Str) (f:Str) (s:SD):Option D→R Vl
 | some (.obj c fs)=>if c∈cls then match dI fs f with
  | some x=> .ok (.d x) s
  | none=> .bad
  else .bad
 | _=> .bad
theorem w_fld {cls:List Str} {f:Str}:bg cls f a s=fldK cls f s (s.cont a):=by
 unfold bg fldK
 rfl
theorem au {c f:Str} {fs:List (Str×D)} (h:dI fs f=some x):fldK [c] f s (some (.obj c fs))= .ok (.d x) s:=by
 unfold fldK
 simp only [List.mem_singleton,if_true,h]
def dfK (f:D→R Vl):Option D→R Vl
 | some x=>f x
 | none=> .bad
theorem iE {α:Type} (f:α→Bool):∀l:List α,DO (l.map fun c=>D.bl (f c))=some (l.map f)
 | []=>rfl
 | a::l=>by rw [List.map_cons,DO,iE f l,List.map_cons]
theorem oi {α:Type} (f:α→Int):∀l:List α,lP (l.map fun c=>D.int (f c))=some (l.map f)
 | []=>rfl
 | a::l=>by rw [List.map_cons,lP,oi f l,List.map_cons]
theorem jU {α:Type} (f:α→Str):∀l:List α,wa (l.map fun c=>D.str (f c))=some (l.map f)
 | []=>rfl
 | a::l=>by rw [List.map_cons,wa,jU f l,List.map_cons]
theorem oG {ds:List D} {bs:List Bool} (h:DO ds=some bs):C4 (.own (.lst ds)) s= .ok (.d (.bl (bs.all id))) s:=by
 unfold C4
 simp only [iF,h]
noncomputable def xX (s:SD):Option D→R Vl
 | some (.lst xs)=> .ok (.own (.lst xs)) s
 | some (.con xs)=> .ok (.own (.lst xs)) s
 | some (.tup xs)=> .ok (.own (.lst xs)) s
 | some (.dct ks)=> .ok (.own (.lst (ks.map fun kv=>lX kv.1))) s
 | _=> .bad
theorem yL:qF a s=xX s (s.cont a):=by
 unfold qF xX
 rfl
theorem nu {l:List D}:xX s (some (.lst l))= .ok (.own (.lst l)) s:=rfl
theorem nv {l:List D}:xX s (some (.con l))= .ok (.own (.lst l)) s:=rfl
theorem jO {l:List (Key×D)}:xX s (some (.dct l))= .ok (.own (.lst (l.map fun kv=>lX kv.1))) s:=rfl
noncomputable def um (s:SD):Option D→R Vl
 | some (.dct ks)=> .ok (.own (.dct ks)) s
 | some (.lst ds)=>match kP ds with
  | some ks=> .ok (.own (.dct (bU ks))) s
  | none=> .bad
 | _=> .bad
theorem yO:fN a s=um s (s.cont a):=by
 unfold fN um
 rfl
theorem jW {l:List (Key×D)}:um s (some (.dct l))= .ok (.own (.dct l)) s:=rfl
theorem pX {t:Bool}:oInt (.d (.bl t)) s= .ok (.d (.int (if t=true then 1 else 0))) s:=by cases t<;> rfl
theorem my {n:Int}:oInt (.d (.int n)) s= .ok (.d (.int n)) s:=rfl
theorem qU {z:Str} {ds:List D} {ys:List Str} (h:wa ds=some ys) (hz:(ys.map (·.length)).sum+ys.length*z.length≤16777216):qG (.d (.str z)) (.own (.lst ds)) s= .ok (.d (.str (Txt.join z ys))) s:=by
 unfold qG
 simp only [iF,lZ,h,if_pos hz]
noncomputable def slK (s:SD) (lo hi:Option Int):Option D→R Vl
 | some (.lst ds)=> .ok (.own (.lst (B7 ds lo hi))) s
 | some (.con ds)=> .ok (.own (.lst (B7 ds lo hi))) s
 | some (.str z)=>if z.length≤sizeLine then .ok (.d (.str (cutS z lo hi))) s else .bad
 | some (.tup ds)=>if¬(HT.sIx ds.length 0 lo=0∧HT.sIx ds.length ds.length hi=ds.length) then .ok (.d (.tup (B7 ds lo hi))) s else .bad
 | _=> .bad
theorem w_sl {lo hi:Option Int}:oSl a lo hi s=slK s lo hi (s.cont a):=by
 unfold oSl slK
 rfl
theorem uR {lo hi:Option Int} {l:List D}:slK s lo hi (some (.lst l))= .ok (.own (.lst (B7 l lo hi))) s:=rfl
theorem uS {lo hi:Option Int} {l:List D}:slK s lo hi (some (.con l))= .ok (.own (.lst (B7 l lo hi))) s:=rfl
theorem uQ {lo hi:Option Int} {z:Str}:slK s lo hi (some (.str z))=if z.length≤sizeLine then .ok (.d (.str (cutS z lo hi))) s else .bad:=rfl
noncomputable def rg1K:List D→SD→R Src:=fun ds s1=>match ds with
 | [.int j]=>if -(2 ^ 62)≤j∧j<2 ^ 62 then .ok ⟨[],fun _=>True,upTo 0 j.toNat⟩ s1 else .bad
 | _=> .bad
theorem e_rg1:pO fr s=(fr s).bind rg1K:=by
 unfold pO
 rfl
theorem x_rg1 {n:Int}:rg1K [.int n] s=if -(2 ^ 62)≤n∧n<2 ^ 62 then .ok ⟨[],fun _=>True,upTo 0 n.toNat⟩ s else .bad:=rfl
def enK:Vl→SD→R Src:=fun a s1=>match s1.cont a with
 | some (.lst ds)=> .ok ⟨[a],fun s=>s.cont a=some (.lst ds),bS ds⟩ s1
 | _=> .bad
theorem e_en:kr fa s=(fa s).bind enK:=by
 unfold kr
 rfl
theorem pQ {ds:List D}:enK (.d (.lst ds)) s= .ok ⟨[.d (.lst ds)],fun _=>True,bS ds⟩ s:=by
 unfold enK
 simp only [iG]
def unpK (is:List Nat) (s:SD):Option D→R Unit
 | some (.tup ds)=>if ds.length=is.length then .ok () {s with sl:=cA is ds s.sl} else .bad
 | _=> .bad
theorem w_unp {is:List Nat}:kj is a s=unpK is s (s.cont a):=by
 unfold kj unpK
 rfl
theorem unp2 {i0 i1:Nat} {d0 d1:D}:unpK [i0,i1] ⟨sl,S⟩ (some (.tup [d0,d1]))= .ok () ⟨cA [i0,i1] [d0,d1] sl,S⟩:=rfl
theorem unp3 {i0 i1 i2:Nat} {d0 d1 d2:D}:unpK [i0,i1,i2] ⟨sl,S⟩ (some (.tup [d0,d1,d2]))= .ok () ⟨cA [i0,i1,i2] [d0,d1,d2] sl,S⟩:=rfl
theorem unp4 {i0 i1 i2 i3:Nat} {d0 d1 d2 d3:D}:unpK [i0,i1,i2,i3] ⟨sl,S⟩ (some (.tup [d0,d1,d2,d3]))= .ok () ⟨cA [i0,i1,i2,i3] [d0,d1,d2,d3] sl,S⟩:=rfl
theorem unp5 {i0 i1 i2 i3 i4:Nat} {d0 d1 d2 d3 d4:D}:unpK [i0,i1,i2,i3,i4] ⟨sl,S⟩ (some (.tup [d0,d1,d2,d3,d4]))= .ok () ⟨cA [i0,i1,i2,i3,i4] [d0,d1,d2,d3,d4] sl,S⟩:=rfl
theorem iY {d:D} {is:List Nat} {ds:List D} {l:List (Option Vl)}:cA (i::is) (d::ds) l=cA is ds (l.set i (some (.d d))):=rfl
theorem kz {l:List (Option Vl)}:cA [] [] l=l:=rfl
def m2K (h:Vl→Vl→SD→R Vl) (chk:SD→Vl→Bool) (fb:SD→R Vl):Vl→SD→R Vl:=fun a s=>if chk s a=true then (fb s).bind (h a) else .bad
theorem x_m2 {h:Vl→Vl→SD→R Vl} {chk:SD→Vl→Bool}:m2K h chk fb a s=if chk s a=true then (fb s).bind (h a) else .bad:=rfl
theorem e_m2 {h:Vl→Vl→SD→R Vl} {chk:SD→Vl→Bool}:zM2 chk h fa fb s=(fa s).bind (m2K h chk fb):=rfl
def m1sK (h:Vl→Vl→SD→R Vl) (fb:SD→R Vl):Vl→SD→R Vl:=fun a s=>if isS a=true then (fb s).bind (h a) else .bad
theorem x_m1s {h:Vl→Vl→SD→R Vl} {z:Str}:m1sK h fb (.d (.str z)) s=(fb s).bind (h (.d (.str z))):=rfl
theorem e_m1s {h:Vl→Vl→SD→R Vl}:zM1s h fa fb s=(fa s).bind (m1sK h fb):=rfl
def isLK:Option D→Bool
 | some (.lst _)=>true
 | _=>false
theorem x_isL:isL s a=isLK (s.cont a):=by
 unfold isL isLK
 rfl
theorem qY {l:List D}:isLK (some (.lst l))=true:=rfl
def isDK:Option D→Bool
 | some (.dct _)=>true
 | _=>false
theorem x_isD:isDc s a=isDK (s.cont a):=by
 unfold isDc isDK
 rfl
theorem rf {l:List (Key×D)}:isDK (some (.dct l))=true:=rfl
def rvK (r:D):Unit→SD→R Vl:=fun _ s=> .ok (.d r) s
theorem x_rv {r:D} {u:Unit}:rvK r u s= .ok (.d r) s:=rfl
def b2K (f:D→D→Option (D×D)) (a:Vl) (z:D) (s:SD):Option D→R Vl
 | some c=>match f c z with
  | some (y,r)=>(s.mod y a).bind (rvK r)
  | none=> .bad
 | none=> .bad
theorem w_b2 {f:D→D→Option (D×D)} {z:D}:oB2 f a (.d z) s=b2K f a z s (s.cont a):=by
 unfold oB2 b2K
 rfl
theorem oE {z:D} {ds:List D}:b2K bf a z s (some (.lst ds))=if ds.length<sizeLine then (s.mod (.lst (ds++ [z])) a).bind (rvK .non) else .bad:=by
 unfold b2K bf
 by_cases h:ds.length<sizeLine<;> simp only [h,if_true,if_false]
theorem oC {es ds:List D}:b2K kW a (.lst es) s (some (.lst ds))=if ds.length+es.length≤sizeLine then (s.mod (.lst (ds++es)) a).bind (rvK .non) else .bad:=by
 unfold b2K kW
 by_cases h:ds.length+es.length≤sizeLine<;> simp only [h,if_true,if_false]
def b1K (f:D→Option (D×D)) (a:Vl) (s:SD):Option D→R Vl
 | some c=>match f c with
  | some (y,r)=>(s.mod y a).bind (rvK r)
  | none=> .bad
 | none=> .bad
theorem w_b1 {f:D→Option (D×D)}:oB1 f a s=b1K f a s (s.cont a):=by
 unfold oB1 b1K
 rfl
theorem si {ds:List D}:b1K ug a s (some (.lst ds))=(s.mod (.lst []) a).bind (rvK .non):=rfl
theorem oF {ds:List (Key×D)}:b1K fDClear a s (some (.dct ds))=(s.mod (.dct []) a).bind (rvK .non):=rfl
theorem qN:SD.mod ⟨sl,S⟩ y (.d (.cell i))= .ok () ⟨sl,S.put i y⟩:=rfl
def modK (s:SD) (y:D) (k:Nat):Option (Option Vl)→R Unit
 | some (some (.own _))=> .ok () {s with sl:=s.sl.set k (some (.own y))}
 | some (some (.d (.cell i)))=> .ok () {s with st:=s.st.put i y}
 | _=> .bad
theorem vx:s.mod y (.loc k)=modK s y k s.sl[k]? :=by
 unfold SD.mod modK
 rfl
theorem qO:modK ⟨sl,S⟩ y k (some (some (.own x)))= .ok () ⟨sl.set k (some (.own y)),S⟩:=rfl
def sfK (cls:List Str) (f:Str) (x:D) (a:Vl) (s:SD):Option D→R Fl
 | some (.obj c fs)=>if c∈cls∧fs.length<1000 then (s.mod (.obj c (hU f x fs)) a).bind nxK else .bad
 | _=> .bad
def sf3 (cls:List Str) (f:Str) (x:D):Vl→SD→R Fl:=fun a s=>sfK cls f x a s (s.cont a)
theorem x_sf3 {cls:List Str} {f:Str}:sf3 cls f x a s=sfK cls f x a s (s.cont a):=rfl
def sf2 (cls:List Str) (f:Str) (fo:SD→R Vl):D→SD→R Fl:=fun x s=>(fo s).bind (sf3 cls f x)
theorem x_sf2 {cls:List Str} {f:Str}:sf2 cls f fa x s=(fa s).bind (sf3 cls f x):=rfl
def sf1 (cls:List Str) (f:Str) (fo:SD→R Vl):Vl→SD→R Fl:=fun v s=>(s.fix v).bind (sf2 cls f fo)
theorem x_sf1 {cls:List Str} {f:Str}:sf1 cls f fa a s=(s.fix a).bind (sf2 cls f fa):=rfl
theorem e_sf {cls:List Str} {f:Str} {fo fv:SD→R Vl}:cL cls f fo fv s=(fv s).bind (sf1 cls f fo):=by
 unfold cL sf1 sf2 sf3 sfK
 rfl
theorem iQ {c f:Str} {fs:List (Str×D)} (h:fs.length<1000):sfK [c] f x a s (some (.obj c fs))=(s.mod (.obj c (hU f x fs)) a).bind nxK:=by
 unfold sfK
 simp only [List.mem_singleton,h,and_self,if_true]
theorem sfn0 {c f:Str}:sfK [c] f x a s (some (.obj c []))=(s.mod (.obj c (hU f x [])) a).bind nxK:=iQ (by simp)
theorem sfn1 {c f:Str} {p0:Str×D}:sfK [c] f x a s (some (.obj c [p0]))=(s.mod (.obj c (hU f x [p0])) a).bind nxK:=iQ (by simp)
theorem sfn2 {c f:Str} {p0 p1:Str×D}:sfK [c] f x a s (some (.obj c [p0,p1]))=(s.mod (.obj c (hU f x [p0,p1])) a).bind nxK:=iQ (by simp)
theorem sfn3 {c f:Str} {p0 p1 p2:Str×D}:sfK [c] f x a s (some (.obj c [p0,p1,p2]))=(s.mod (.obj c (hU f x [p0,p1,p2])) a).bind nxK:=iQ (by simp)
theorem sfn4 {c f:Str} {p0 p1 p2 p3:Str×D}:sfK [c] f x a s (some (.obj c [p0,p1,p2,p3]))=(s.mod (.obj c (hU f x [p0,p1,p2,p3])) a).bind nxK:=iQ (by simp)
theorem sfn5 {c f:Str} {p0 p1 p2 p3 p4:Str×D}:sfK [c] f x a s (some (.obj c [p0,p1,p2,p3,p4]))=(s.mod (.obj c (hU f x [p0,p1,p2,p3,p4])) a).bind nxK:=iQ (by simp)
theorem sfn6 {c f:Str} {p0 p1 p2 p3 p4 p5:Str×D}:sfK [c] f x a s (some (.obj c [p0,p1,p2,p3,p4,p5]))=(s.mod (.obj c (hU f x [p0,p1,p2,p3,p4,p5])) a).bind nxK:=iQ (by simp)
theorem sfn7 {c f:Str} {p0 p1 p2 p3 p4 p5 p6:Str×D}:sfK [c] f x a s (some (.obj c [p0,p1,p2,p3,p4,p5,p6]))=(s.mod (.obj c (hU f x [p0,p1,p2,p3,p4,p5,p6])) a).bind nxK:=iQ (by simp)
theorem sfn8 {c f:Str} {p0 p1 p2 p3 p4 p5 p6 p7:Str×D}:sfK [c] f x a s (some (.obj c [p0,p1,p2,p3,p4,p5,p6,p7]))=(s.mod (.obj c (hU f x [p0,p1,p2,p3,p4,p5,p6,p7])) a).bind nxK:=iQ (by simp)
def mkR (i:Nat) (s:SD):R Vl→R Vl
 | .ok (.d .non) s' => .ok (.d (.cell i)) {s with st:=s'.st}
 | .ex c fs s' => .ex c fs {s with st:=s'.st}
 | _=> .bad
def mkK (c:Str) (F:FnV) (dds:List D):List D→SD→R Vl:=fun ds s1=>mkR s1.st.nx s1 (F (.cell s1.st.nx::(ds++dds)) (s1.st.new (.obj c [])))
theorem x_mk {c:Str} {F:FnV} {dds ds:List D}:mkK c F dds ds s=mkR s.st.nx s (F (.cell s.st.nx::(ds++dds)) (s.st.new (.obj c []))):=rfl
theorem e_mk {c:Str} {F:FnV} {dds:List D}:lL c F dds fr s=(fr s).bind (mkK c F dds):=by
 unfold lL mkK mkR
 rfl
theorem xb {F:FnV} {ds:List D} {S' S'' :Sto} (h:∀s:SD,goF F ds ⟨s.sl,S'⟩= .ok (.d .non) ⟨s.sl,S''⟩):mkR i ⟨sl,S⟩ (F ds S')= .ok (.d (.cell i)) ⟨sl,S''⟩:=by
 have h:=h ⟨sl,S⟩
 unfold goF at h
 cases e:F ds S' with
 | bad=>rw [show (⟨sl,S'⟩:SD).st=S' from rfl,e] at h; cases h
 | ex c fs s' =>rw [show (⟨sl,S'⟩:SD).st=S' from rfl,e] at h; cases h
 | ok a s' =>
  rw [show (⟨sl,S'⟩:SD).st=S' from rfl,e] at h
  simp only [R.ok.injEq,SD.mk.injEq,true_and] at h
  obtain ⟨rfl,rfl⟩:=h
  rfl
noncomputable def yr (f:D→D→Option D) (o:Vl) (z:D) (s:SD):Option D→R Unit
 | some c=>match f c z with
  | some y=>s.mod y o
  | none=> .bad
 | none=> .bad
theorem x_sto {f:D→D→Option D} {z:D}:stO f a (.d z) s=yr f a z s (s.cont a):=by
 unfold stO yr
 rfl
theorem fF {k:Key} {z:D} {ks:List (Key×D)} (h:z.key=some k) (hl:ks.length<sizeLine):yr (oY x) a z s (some (.dct ks))=s.mod (.dct (jt ks k x)) a:=by
 unfold yr oY
 simp only [h,hl,if_true]
noncomputable def dp4 (x:D) (o:Vl):Vl→SD→R Unit:=fun i s=>stO (oY x) o i s
theorem x_dp4:dp4 x a b s=stO (oY x) a b s:=rfl
noncomputable def dp3 (fi:SD→R Vl) (x:D):Vl→SD→R Unit:=fun o s=>(fi s).bind (dp4 x o)
theorem x_dp3:dp3 fa x a s=(fa s).bind (dp4 x a):=rfl
noncomputable def dp2 (fo fi:SD→R Vl):D→SD→R Fl:=fun x s=>((fo s).bind (dp3 fi x)).bind nxK
theorem x_dp2:dp2 fa fb x s=((fa s).bind (dp3 fb x)).bind nxK:=rfl
noncomputable def dp1 (fo fi:SD→R Vl):Vl→SD→R Fl:=fun v s=>(s.fix v).bind (dp2 fo fi)
theorem x_dp1:dp1 fa fb a s=(s.fix a).bind (dp2 fa fb):=rfl
theorem e_dp:eV fa fb fc s=(fc s).bind (dp1 fa fb):=by
 unfold eV dp1 dp2 dp3 dp4
 rfl
theorem yI {is:List Int} {ks:List D} (h:s.cont a=some (.lst ks)) (e:lP ks=some is):jm a s= .ok (.own (.lst ((srt is).map D.int))) s:=by
 unfold jm
 simp only [h,e]
def dispK:List (Key×D)→SD→R Vl:=fun ks s=>if ks.length≤15 then .ok (.own (.dct (bU ks))) s else .bad
theorem yA {ks:List (Key×D)}:dispK ks s=if ks.length≤15 then .ok (.own (.dct (bU ks))) s else .bad:=rfl
theorem Bv {fp:SD→R (List (Key×D))}:Cv fp s=(fp s).bind dispK:=rfl
def p3K (kk:Key) (x:D):List (Key×D)→SD→R (List (Key×D)):=fun ks s=> .ok ((kk,x)::ks) s
theorem x_p3 {kk:Key} {ks:List (Key×D)}:p3K kk x ks s= .ok ((kk,x)::ks) s:=rfl
def p2K (kk:Key) (fp:SD→R (List (Key×D))):D→SD→R (List (Key×D)):=fun x s=>(fp s).bind (p3K kk x)
theorem x_p2 {kk:Key} {fp:SD→R (List (Key×D))}:p2K kk fp x s=(fp s).bind (p3K kk x):=rfl
def p1K (kk:Key) (fp:SD→R (List (Key×D))):Vl→SD→R (List (Key×D)):=fun a s=>(s.fix a).bind (p2K kk fp)
theorem x_p1 {kk:Key} {fp:SD→R (List (Key×D))}:p1K kk fp a s=(s.fix a).bind (p2K kk fp):=rfl
theorem e_p {kk:Key} {fv:SD→R Vl} {fp:SD→R (List (Key×D))}:zP kk fv fp s=(fv s).bind (p1K kk fp):=rfl
theorem e_p0:zP0 s= .ok [] s:=rfl
def wkK (wk:Wk):Vl→SD→R Src:=fun a s1=>match a with
 | .d (.dct ks)=> .ok ⟨[.d (.dct ks)],fun _=>True,wk.ds ks⟩ s1
 | _=> .bad
theorem x_wk {wk:Wk} {ks:List (Key×D)}:wkK wk (.d (.dct ks)) s= .ok ⟨[.d (.dct ks)],fun _=>True,wk.ds ks⟩ s:=rfl
theorem Bl {wk:Wk}:oJ wk fa s=(aZ fa s).bind (wkK wk):=by
 unfold oJ wkK
 rfl
noncomputable def forK (fz:Vl→SD→R Unit) (fb:SD→R Fl):Src→SD→R Fl:=fun src s1=>if Nl src.hs then gw src.ok (fun d s=>(fz (.d d) s).bind fun _ s2=>fb s2) src.ds s1 else .bad
theorem e_for {fi:SD→R Src} {fz:Vl→SD→R Unit} {fb:SD→R Fl}:eJ fi fz fb s=(fi s).bind (forK fz fb):=rfl
def yR (fb:SD→R Fl):Unit→SD→R Fl:=fun _ s=>fb s
theorem yw {u:Unit}:yR f u s=f s:=Eq.trans rfl rfl
theorem loop_w {ok:SD→Prop} {body:D→SD→R Fl} {Q:Fl→SD→Prop} {E:XQ} {I:Nat→SD→Prop} (hok:∀i s,I i s→ok s):∀{ds:List D} {i:Nat} {s:SD},I i s→
  (∀j d s,ds[j]? =some d→I (i+j) s→Wp (body d s) (fun fl s' =>match fl with | .nx=>I (i+j+1) s' | .ct=>I (i+j+1) s' | .bk=>Q .nx s' | .rt a=>Q (.rt a) s') E)→
  (∀s,I (i+ds.length) s→Q .nx s)→Wp (gw ok body ds s) Q E
 | [],i,s,h,_,last=>by
  unfold gw
  rw [if_pos (hok _ _ h)]
  exact last s h
 | d::ds,i,s,h,step,last=>by
  unfold gw
  rw [if_pos (hok _ _ h),ae]
  have h1:=step 0 d s rfl h
  refine h1.mono (fun fl s' hh=>?_) fun _ _ _ h=>h
  have go:I (i+1) s'→Wp (gw ok body ds s') Q E:=fun hI=>loop_w hok hI (fun j d s e hj=>by
   have:=step (j+1) d s e (by rw [show i+(j+1)=i+1+j by omega]; exact hj)
   rw [show i+(j+1)+1=i+1+j+1 by omega] at this
   exact this) fun s hs=>last s (by rw [List.length_cons,show i+(ds.length+1)=i+1+ds.length by omega]; exact hs)
  cases fl with
  | nx=>exact go hh
  | ct=>exact go hh
  | bk=>exact hh
  | rt a=>exact hh
theorem iM {src:Src} {fz:Vl→SD→R Unit} {fb:SD→R Fl} {Q:Fl→SD→Prop} {E:XQ} (I:Nat→SD→Prop) (hN:Nl src.hs) (hok:∀i s,I i s→src.ok s) (h:I 0 s)
  (step:∀j d s,src.ds[j]? =some d→I j s→Wp ((fz (.d d) s).bind (yR fb)) (fun fl s' =>match fl with | .nx=>I (j+1) s' | .ct=>I (j+1) s' | .bk=>Q .nx s' | .rt a=>Q (.rt a) s') E)
  (last:∀s,I src.ds.length s→Q .nx s):Wp (forK fz fb src s) Q E:=by
 unfold forK
 rw [if_pos hN]
 exact loop_w (I:=I) (i:=0) hok h (fun j d s e hj=>by simp only [Nat.zero_add] at hj ⊢; exact step j d s e hj) fun s hs=>last s (by simpa using hs)
noncomputable def zip2K (a:Vl):Vl→SD→R Src:=fun b s2=>match s2.cont a,s2.cont b with
 | some (.lst xs),some (.lst ys)=> .ok ⟨[a,b],fun s=>s.cont a=some (.lst xs)∧s.cont b=some (.lst ys),B3 xs ys⟩ s2
 | _,_=> .bad
noncomputable def zip1K (fb:SD→R Vl):Vl→SD→R Src:=fun a s1=>(aZ fb s1).bind (zip2K a)
theorem yv:zip1K fb a s=(aZ fb s).bind (zip2K a):=rfl
theorem e_zip:zZip fa fb s=(aZ fa s).bind (zip1K fb):=by
 unfold zZip zip1K zip2K
 rfl
def _root_.Z.Sto.tick (S:Sto):Sto:= {nx:=S.nx+1,get:=fun j=>if j=S.nx then none else S.get j}
theorem mZ {S:Sto}:(S.put i x).put i y=S.put i y:=by
 unfold Sto.put
 congr 1
 funext j
 show (if j=i then _ else if j=i then _ else _)=_
 by_cases h:j=i<;> simp [h]
theorem qJ {S:Sto}:(S.new x).put S.nx y=S.new y:=by
 unfold Sto.put Sto.new
 congr 1
 funext j
 show (if j=S.nx then _ else if j=S.nx then _ else _)=_
 by_cases h:j=S.nx<;> simp [h]
theorem dr {S:Sto}:(S.new x).get S.nx=some x:=if_pos rfl
theorem iR {S:Sto} (h:i≠S.nx):(S.new x).get i=S.get i:=if_neg h
theorem new_del {S:Sto}:(S.new x).del S.nx=S.tick:=by
 unfold Sto.del Sto.new Sto.tick
 congr 1
 funext j
 show (if j=S.nx then _ else if j=S.nx then _ else _)=_
 by_cases h:j=S.nx<;> simp [h]
theorem gJ {S:Sto} (h:i≠S.nx):S.tick.get i=S.get i:=if_neg h
theorem vO {S:Sto}:SD.frz ⟨sl,S.new x⟩ (.d (.cell S.nx))= .ok x ⟨sl,S.tick⟩:=by
 rw [DH dr,new_del]
theorem put_nx {S:Sto}:(S.put i x).nx=S.nx:=rfl
abbrev XF:XQ:=fun _ _ _=>False
def jB (fz:Vl→SD→R Unit) (ft:SD→R Bool) (fe:SD→R Vl) (is:List Nat) (s0:SD) (p:D→Bool) (f:D→D) (d:D):Prop:=
 Wp (fz (.d d) s0) (fun _ s1=>Wp (ft s1) (fun b s2=>b=p d∧(b=true→Wp (fe s2) (fun a s3=>Wp (s3.fix a) (fun y s4=>y=f d∧s4.wipe is=s0) XF) XF)∧(b=false→s2.wipe is=s0)) XF) XF
theorem Wp.is {α:Type} {m:R α} {Q:α→SD→Prop} (h:Wp m Q XF):∃a s,m= .ok a s∧Q a s:=by
 cases m with
 | ok a s=>exact ⟨a,s,rfl,h⟩
 | ex c fs s=>exact h.elim
 | bad=>exact h.elim
theorem qT {ok:SD→Prop} {fz:Vl→SD→R Unit} {ft:SD→R Bool} {fe:SD→R Vl} {is:List Nat} {s0:SD} {p:D→Bool} {f:D→D} (h0:ok s0):∀{ds acc:List D},(∀d∈ds,jB fz ft fe is s0 p f d)→acc.length+ds.length≤sizeLine→
  lz ok fz ft fe is ds acc s0= .ok (acc++(ds.filter p).map f) s0
 | [],acc,_,_=>by
  unfold lz
  rw [if_pos h0]
  simp
 | d::ds,acc,h,hl=>by
  unfold lz
  rw [if_pos h0]
  have h1:=h d (List.mem_cons_self ..)
  unfold jB at h1
  obtain ⟨_,s1,e1,h1⟩:=h1.is
  obtain ⟨b,s2,e2,hb,h2,h3⟩:=h1.is
  rw [List.length_cons] at hl
  have ih:=fun acc hl=>qT (acc:=acc) h0 (fun d hd=>h d (List.mem_cons_of_mem _ hd)) hl
  rw [e1]
  show R.bind (R.nx (ft s1)) _=_
  rw [e2]
  cases b with
  | true=>
   obtain ⟨a,s3,e3,h4⟩:=(h2 rfl).is
   obtain ⟨y,s4,e4,hy,h5⟩:=h4.is
   show R.bind (R.nx (fe s2)) _=_
   rw [e3]
   show R.bind (s3.fix a) _=_
   rw [e4]
   show (if acc.length<sizeLine then lz ok fz ft fe is ds (acc++ [y]) (s4.wipe is) else .bad)=_
   rw [if_pos (by omega),h5,ih _ (by simp; omega),List.filter_cons_of_pos (by rw [←hb]),hy]
   simp
  | false=>
   show lz ok fz ft fe is ds acc (s2.wipe is)=_
   rw [h3 rfl,ih _ (by omega),List.filter_cons_of_neg (by rw [←hb]; decide)]
noncomputable def lcK (fz:Vl→SD→R Unit) (ft:SD→R Bool) (fe:SD→R Vl) (is:List Nat):Src→SD→R Vl:=fun src s1=>if Nl src.hs then (lz src.ok fz ft fe is src.ds [] (s1.wipe is)).nx.bind fun acc s2=> .ok (.own (.lst acc)) s2 else .bad
theorem e_lc {fi:SD→R Src} {fz:Vl→SD→R Unit} {ft:SD→R Bool} {is:List Nat}:zLc fi fz ft fa is s=(fi s).bind (lcK fz ft fa is):=rfl
theorem Nl.d1 {x:D}:Nl [.d x]:=fun e he j=>by rw [List.mem_singleton.mp he]; exact fun h=>nomatch h
theorem lc_pure {src:Src} {fz:Vl→SD→R Unit} {ft:SD→R Bool} {fe:SD→R Vl} {is:List Nat} {s1 s0:SD} (p:D→Bool) (f:D→D) (e0:s1.wipe is=s0) (hN:Nl src.hs) (h0:src.ok s0) (h:∀d∈src.ds,jB fz ft fe is s0 p f d) (hl:src.ds.length≤sizeLine):
  lcK fz ft fe is src s1= .ok (.own (.lst ((src.ds.filter p).map f))) s0:=by
 unfold lcK
 rw [if_pos hN,e0,qT h0 h (by simpa using hl)]
 rfl
theorem lG {src:Src} {fz:Vl→SD→R Unit} {fe:SD→R Vl} {is:List Nat} {s1 s0:SD} (f:D→D) (e0:s1.wipe is=s0) (hN:Nl src.hs) (h0:src.ok s0) (h:∀d∈src.ds,jB fz eU fe is s0 (fun _=>true) f d) (hl:src.ds.length≤sizeLine):
  lcK fz eU fe is src s1= .ok (.own (.lst (src.ds.map f))) s0:=by
 rw [lc_pure (fun _=>true) f e0 hN h0 h hl,List.filter_eq_self.mpr fun _ _=>rfl]
theorem Dw {S:Sto} {sl:List (Option Vl)} {fz:Vl→SD→R Unit} {ft:SD→R Bool} {fe:SD→R Vl} {is:List Nat} {ks:List (Key×D)} (p:D→Bool) (f:D→D) (hk:sl[k]? =some (some (.d (.cell i)))) (hS:S.get i=some (.dct ks)) (h:∀d∈Wk.keys.ds ks,jB fz ft fe is ⟨dZ sl is,S.del i⟩ p f d) (hl:ks.length≤sizeLine):
  B9 k fz ft fe is ⟨sl,S⟩= .ok (.own (.lst (((Wk.keys.ds ks).filter p).map f))) ⟨dZ sl is,S⟩:=by
 unfold B9
 show (match sl[k]? with | some (some (.d (.cell i)))=>_ | _=>_)=_
 rw [hk]
 show (match S.get i with | some (.dct ks)=>_ | _=>_)=_
 rw [hS]
 show ((lz (fun _=>True) fz ft fe is (Wk.keys.ds ks) [] ⟨dZ sl is,S.del i⟩).nx.bind _)=_
 rw [qT (ok:=fun _=>True) trivial h (by simpa [Wk.ds] using hl)]
 show R.ok (Vl.own (.lst _)) (⟨dZ sl is,(S.del i).put i (.dct ks)⟩:SD)=_
 rw [put_del hS]
 rfl
theorem e_yes:eU s= .ok true s:=rfl
def B6:Vl→SD→R Src:=fun a s1=>match s1.cont a with
 | some (.lst ds)=> .ok ⟨[a],fun s=>s.cont a=some (.lst ds),ds⟩ s1
 | some (.con ds)=> .ok ⟨[a],fun s=>s.cont a=some (.con ds),ds⟩ s1
 | _=> .bad
theorem e_itL:gp fa s=(fa s).bind B6:=by
 unfold gp
 rfl
theorem gx {ds:List D}:B6 (.d (.lst ds)) s= .ok ⟨[.d (.lst ds)],fun _=>True,ds⟩ s:=by
 unfold B6
 simp only [iG]
theorem mq {ds:List D}:B6 (.d (.con ds)) s= .ok ⟨[.d (.con ds)],fun _=>True,ds⟩ s:=by
 unfold B6
 simp only [ma]
theorem qV {ds:List D} (h:s.st.get i=some (.lst ds)):B6 (.d (.cell i)) s= .ok ⟨[.d (.cell i)],fun s=>s.st.get i=some (.lst ds),ds⟩ s:=by
 unfold B6
 simp only [jX,h]
def itSK:Vl→SD→R Src:=fun a s1=>match a with
 | .d (.str z)=> .ok ⟨[a],fun _=>True,signs z⟩ s1
 | _=> .bad
theorem e_itS:zItS fa s=(fa s).bind itSK:=by
 unfold zItS
 rfl
theorem x_itS {z:Str}:itSK (.d (.str z)) s= .ok ⟨[.d (.str z)],fun _=>True,signs z⟩ s:=rfl
theorem uE {is:List Nat}:SD.wipe ⟨sl,S⟩ is=⟨dZ sl is,S⟩:=rfl
theorem mj {l:List (Option Vl)}:dZ l []=l:=rfl
theorem ko {l:List (Option Vl)} {v:Nat} {vs:List Nat}:dZ l (v::vs)=(dZ l vs).set v none:=rfl
def flv:Fl→Option Vl
 | .nx=>some (.d .non)
 | .rt (.d x)=>some (.d x)
 | .rt (.own x)=>some (.own x)
 | _=>none
theorem yu {n:Nat} {b:SD→R Fl} {ds:List D} {fl:Fl} {s' :SD} {a:Vl} (h:b ⟨starts n ds,S⟩= .ok fl s') (e:flv fl=some a):zFn n b ds S= .ok a s' :=by
 unfold zFn
 rw [h]
 cases fl with
 | nx=>cases e; rfl
 | bk=>cases e
 | ct=>cases e
 | rt r=>cases r<;> cases e<;> rfl
theorem oV {n:Nat} {b:SD→R Fl} {ds:List D} {r:Vl} (h:Wp (b ⟨starts n ds,s.st⟩) (fun fl s' =>flv fl=some r∧s'.st=s.st) (fun _ _ _=>False)):goF (zFn n b) ds s= .ok r s:=by
 cases e:b ⟨starts n ds,s.st⟩ with
 | bad=>rw [e] at h; exact h.elim
 | ex c fs s' =>rw [e] at h; exact h.elim
 | ok fl s' =>
  rw [e] at h
  obtain ⟨h1,h2⟩:=h
  unfold goF
  rw [yu e h1]
  show R.ok r {s with st:=s'.st}=_
  rw [h2]
theorem dY {n:Nat} {b:SD→R Fl} {ds:List D} {r:Vl} {S' :Sto} (h:Wp (b ⟨starts n ds,S⟩) (fun fl s' =>flv fl=some r∧s'.st=S') (fun _ _ _=>False)):goF (zFn n b) ds ⟨sl,S⟩= .ok r ⟨sl,S'⟩:=by
 cases e:b ⟨starts n ds,S⟩ with
 | bad=>rw [e] at h; exact h.elim
 | ex c fs s' =>rw [e] at h; exact h.elim
 | ok fl s' =>
  rw [e] at h
  obtain ⟨h1,h2⟩:=h
  unfold goF
  show (match zFn n b ds S with | .ok a s' =>R.ok a {(⟨sl,S⟩:SD) with st:=s'.st} | .ex c fs s' => .ex c fs {(⟨sl,S⟩:SD) with st:=s'.st} | .bad=> .bad)=_
  rw [yu e h1]
  show R.ok r (⟨sl,s'.st⟩:SD)=_
  rw [h2]
end
section
variable {α:Type} {s:SD} {S:Sto} {sl:List (Option Vl)} {c f:Str} {fs:List (Str×D)} {a:Vl} {x:D} {fa:SD→R Vl} {k:α→SD→R β} {Q:α→SD→Prop} {E:XQ} {n:Nat} {b:SD→R Fl} {ds:List D}
def zK (c:Str) (_:Vl) (s:SD):R Fl:= .ex c [] s
def vj (c f:Str) (x:D) (s:SD):R Fl:= .ex c [(f,x)] s
def zJ (c f:Str) (a:Vl) (s:SD):R Fl:=(s.fix a).bind (vj c f)
theorem rL:pP c fa s=(fa s).bind (zK c):=rfl
theorem x_r0:zK c a s= .ex c [] s:=rfl
theorem rK:fA c f fa s=(fa s).bind (zJ c f):=rfl
theorem x_r1:zJ c f a s=(s.fix a).bind (vj c f):=rfl
theorem x_r2:vj c f x s= .ex c [(f,x)] s:=rfl
theorem wz:(R.ex c fs s:R α).bind k= .ex c fs s:=Eq.trans rfl rfl
theorem Wp_ex:Wp (.ex c fs s:R α) Q E=E c fs s:=rfl
theorem rT:s.cont (Vl.d (.exc c fs))=some (.exc c fs):=rfl
def xfK (ok:Str→Bool) (f:Str) (s:SD):Option D→R Vl
 | some (.exc c fs)=>if ok c=true then (match dI fs f with
  | some x=> .ok (.d x) s
  | none=> .bad) else .bad
 | _=> .bad
theorem w_xf {ok:Str→Bool}:oXf ok f a s=xfK ok f s (s.cont a):=rfl
theorem xfK_ok {ok:Str→Bool} (h:ok c=true) (h2:dI fs f=some x):xfK ok f s (some (.exc c fs))=R.ok (Vl.d x) s:=by
 show (if ok c=true then _ else _)=_
 rw [if_pos h,h2]
noncomputable def isXK (m:Str→Option Bool) (kd:Bool) (s:SD):Option D→R Vl
 | some (.exc c _)=>(match m c with
  | some b=> .ok (.d (.bl b)) s
  | none=> .bad)
 | some x=>(match x.knd with
  | some _=>if kd=true then .ok (.d (.bl false)) s else .bad
  | none=> .bad)
 | none=> .bad
theorem w_isX {m:Str→Option Bool} {kd:Bool}:oR m kd a s=isXK m kd s (s.cont a):=rfl
theorem Dx {m:Str→Option Bool} {kd r:Bool} (h:m c=some r):isXK m kd s (some (.exc c fs))=R.ok (Vl.d (.bl r)) s:=by
 show (match m c with | some b=>R.ok (Vl.d (.bl b)) s | none=>R.bad)=_
 rw [h]
theorem qW {m:Str→Option Bool}:isXK m true s (some .non)=R.ok (Vl.d (.bl false)) s:=rfl
theorem lN {S' :Sto} (h:Wp (b ⟨starts n ds,S⟩) (fun _ _=>False) (fun c' fs' s' =>c' =c∧fs' =fs∧s'.st=S')):goF (zFn n b) ds ⟨sl,S⟩= .ex c fs ⟨sl,S'⟩:=by
 unfold goF zFn
 cases e:b ⟨starts n ds,S⟩ with
 | bad=>rw [e] at h; exact h.elim
 | ok a s' =>rw [e] at h; exact h.elim
 | ex c' fs' s' =>
  rw [e] at h
  obtain ⟨rfl,rfl,rfl⟩:=h
  rfl
theorem CC {m:Str→Option Bool} {i:Nat} {fb fz:SD→R Fl} {Q:Fl→SD→Prop}
  (h:Wp (fb s) Q (fun c vs s1=>(m c=some true∧Wp (fz ⟨s1.sl.set i (some (.d (.exc c vs))),s1.st⟩) (fun fl s2=>Q fl (s2.wipe [i])) (fun _ _ _=>False))∨(m c=some false∧E c vs s1))):Wp (zTry m i fb fz s) Q E:=by
 unfold zTry
 cases e:fb s with
 | bad=>rw [e] at h; exact h
 | ok a s' =>rw [e] at h; exact h
 | ex c vs s1=>
  rw [e] at h
  rcases h with ⟨h1,h2⟩ | ⟨h1,h2⟩
  ·dsimp only
   rw [h1]
   dsimp only
   cases e2:fz ⟨s1.sl.set i (some (.d (.exc c vs))),s1.st⟩ with
   | bad=>rw [e2] at h2; exact h2.elim
   | ok fl s2=>rw [e2] at h2; exact h2
   | ex c' v' s2=>rw [e2] at h2; exact h2.elim
  ·dsimp only
   rw [h1]
   exact h2
noncomputable def rg2K:List D→SD→R Src:=fun ds s1=>match ds with
 | [.int i, .int j]=>if -(2 ^ 62)≤i∧i<2 ^ 62∧ -(2 ^ 62)≤j∧j<2 ^ 62 then .ok ⟨[],fun _=>True,upTo i (j - i).toNat⟩ s1 else .bad
 | _=> .bad
theorem e_rg2 {fr:SD→R (List D)}:zRg2 fr s=(fr s).bind rg2K:=by
 unfold zRg2
 rfl
theorem x_rg2 {i j:Int}:rg2K [.int i, .int j] s=if -(2 ^ 62)≤i∧i<2 ^ 62∧ -(2 ^ 62)≤j∧j<2 ^ 62 then .ok ⟨[],fun _=>True,upTo i (j - i).toNat⟩ s else .bad:=rfl
def tryK (m:Str→Option Bool) (i:Nat) (fz:SD→R Fl):R Fl→R Fl
 | .ex c vs s1=>(match m c with
  | some true=>(match fz {s1 with sl:=s1.sl.set i (some (.d (.exc c vs)))} with
   | .ok fl s2=> .ok fl (s2.wipe [i])
   | _=> .bad)
  | some false=> .ex c vs s1
  | none=> .bad)
 | r=>r
theorem uG {x y:Str}:tF (.d (.str x)) (.d (.str y)) s=if (y.length == 0)=false∧x.length+2≤sizeLine then .ok (.own (.lst ((Txt.split x y).map .str))) s else .bad:=rfl
theorem pV {x y:Str}:nh (.d (.str x)) (.d (.str y)) s= .ok (.d (.bl (Txt.startswith x y))) s:=rfl
theorem w_str {i:Int}:oStr (.d (.int i)) s=if i.natAbs.log2<1920 then .ok (.d (.str (toString i))) s else .bad:=rfl
def tryOK (m:Str→Option Bool) (fs:SD→R Fl):R Fl→R Fl
 | .ex c vs s1=>(match m c with
  | some true=>(match fs s1 with
   | .ok fl s2=> .ok fl s2
   | _=> .bad)
  | some false=> .ex c vs s1
  | none=> .bad)
 | r=>r
theorem Bm {m:Str→Option Bool} {fb fs:SD→R Fl}:zTryO m fb fs s=tryOK m fs (fb s):=by
 unfold zTryO tryOK
 rfl
theorem uJ {m:Str→Option Bool} {fs:SD→R Fl} {fl:Fl}:tryOK m fs (.ok fl s)= .ok fl s:=Eq.trans rfl rfl
end
section
variable {α:Type} {a b:Vl} {x y:D} {s:SD} {S:Sto} {sl:List (Option Vl)} {f g:SD→R Fl} {fa fb fc:SD→R Vl} {fr:SD→R (List D)} {i j k:Nat}
def parK (i j:Nat):List D→SD→R Fl:=fun ds s1=>match ds with
 | [x,y]=> .ok .nx {s1 with sl:=cA [i,j] [x,y] s1.sl}
 | _=> .bad
theorem e_par:zPar i j fr s=(fr s).bind (parK i j):=rfl
theorem x_par:parK i j [x,y] ⟨sl,S⟩= .ok .nx ⟨(sl.set i (some (.d x))).set j (some (.d y)),S⟩:=rfl
def par3K (i j k:Nat):List D→SD→R Fl:=fun ds s1=>match ds with
 | [x,y,z]=> .ok .nx {s1 with sl:=cA [i,j,k] [x,y,z] s1.sl}
 | _=> .bad
theorem Bp:zPar3 i j k fr s=(fr s).bind (par3K i j k):=rfl
theorem yy {z:D}:par3K i j k [x,y,z] ⟨sl,S⟩= .ok .nx ⟨((sl.set i (some (.d x))).set j (some (.d y))).set k (some (.d z)),S⟩:=rfl
def D3 (i:Nat) (h:Int→Int→Int) (m:Int):Vl→SD→R Fl:=fun b s1=>match b with
 | .d (.int n)=> .ok .nx {s1 with sl:=s1.sl.set i (some (.d (.int (h m n))))}
 | _=> .bad
def augK (i:Nat) (h:Int→Int→Int) (fe:SD→R Vl) (s:SD):Option (Option Vl)→R Fl
 | some (some (.d (.int m)))=>(fe s).bind (D3 i h m)
 | _=> .bad
theorem Bz {h:Int→Int→Int}:zAug i h fa s=augK i h fa s s.sl[i]? :=by
 unfold zAug augK D3
 rfl
theorem kh {h:Int→Int→Int} {m:Int}:augK i h fa s (some (some (.d (.int m))))=(fa s).bind (D3 i h m):=rfl
theorem sC {h:Int→Int→Int} {m n:Int}:D3 i h m (.d (.int n)) ⟨sl,S⟩= .ok .nx ⟨sl.set i (some (.d (.int (h m n)))),S⟩:=rfl
noncomputable def as6K (st:D→D→D→Option D) (f:Int→Int→Int) (m:Int) (o:Vl) (z:D):Vl→SD→R Unit:=fun b s3=>match b with
 | .d (.int n)=>stO (st (.int (f m n))) o (.d z) s3
 | _=> .bad
theorem x_as6 {st:D→D→D→Option D} {h:Int→Int→Int} {m n:Int} {z:D}:as6K st h m a z (.d (.int n)) s=stO (st (.int (h m n))) a (.d z) s:=rfl
noncomputable def as5K (st:D→D→D→Option D) (f:Int→Int→Int) (fe:SD→R Vl) (o:Vl) (z:D) (s:SD):Option Int→Option V→R Unit
 | some m,some _=>(fe s).bind (as6K st f m o z)
 | _,_=> .bad
theorem BW {st:D→D→D→Option D} {h:Int→Int→Int} {m:Int} {v:V} {z:D}:as5K st h fa a z s (some m) (some v)=(fa s).bind (as6K st h m a z):=rfl
noncomputable def as4K (g:D→D→Option Int) (st:D→D→D→Option D) (f:Int→Int→Int) (fe:SD→R Vl) (o:Vl) (i:Vl) (s:SD):Option D→R Unit:=fun c=>match i,c with
 | .d z,some c=>as5K st f fe o z s (g c z) (D.sc z)
 | _,_=> .bad
theorem BX {g:D→D→Option Int} {st:D→D→D→Option D} {h:Int→Int→Int} {z c:D}:as4K g st h fa a (.d z) s (some c)=as5K st h fa a z s (g c z) (D.sc z):=rfl
noncomputable def as2K (g:D→D→Option Int) (st:D→D→D→Option D) (f:Int→Int→Int) (fe:SD→R Vl) (o:Vl):Vl→SD→R Unit:=fun i s2=>as4K g st f fe o i s2 (s2.cont o)
theorem x_as2 {g:D→D→Option Int} {st:D→D→D→Option D} {h:Int→Int→Int}:as2K g st h fa a b s=as4K g st h fa a b s (s.cont a):=rfl
noncomputable def as1K (g:D→D→Option Int) (st:D→D→D→Option D) (f:Int→Int→Int) (fi fe:SD→R Vl):Vl→SD→R Unit:=fun o s1=>(fi s1).bind (as2K g st f fe o)
theorem x_as1 {g:D→D→Option Int} {st:D→D→D→Option D} {h:Int→Int→Int}:as1K g st h fa fb a s=(fa s).bind (as2K g st h fb a):=rfl
theorem By {g:D→D→Option Int} {st:D→D→D→Option D} {h:Int→Int→Int}:oK g st h fa fb fc s=((fa s).bind (as1K g st h fb fc)).bind nxK:=by
 unfold oK
 congr 2
theorem gD_at {k:Key} {z:D} {m:Int} {ks:List (Key×D)} (h:z.key=some k) (h2:fS ks k=some (.int m)):gD (.dct ks) z=some m:=by
 unfold gD
 simp only [h,h2]
theorem gL_at {n m:Int} {ds:List D} (h:atI ds n=some (.int m)):gL (.lst ds) (.int n)=some m:=by
 unfold gL
 simp only [h]
theorem zw {n:Int}:D.sc (.int n)=some (.int n):=rfl
theorem zv {n:Str}:D.sc (.str n)=some (.str n):=rfl
noncomputable def revK (s:SD):Option D→R Vl
 | some (.lst ds)=> .ok (.own (.lst ds.reverse)) s
 | _=> .bad
theorem yJ:oRevL a s=revK s (s.cont a):=by
 unfold oRevL revK
 rfl
theorem qz {ds:List D}:revK s (some (.lst ds))= .ok (.own (.lst ds.reverse)) s:=rfl
noncomputable def rvIK:Vl→SD→R Src:=fun a s1=>match s1.cont a with
 | some (.lst ds)=> .ok ⟨[a],fun s=>s.cont a=some (.lst ds),ds.reverse⟩ s1
 | _=> .bad
theorem e_rvI:zRev fa s=(fa s).bind rvIK:=rfl
theorem x_rvI {ds:List D}:rvIK (.d (.lst ds)) s= .ok ⟨[.d (.lst ds)],fun _=>True,ds.reverse⟩ s:=by
 unfold rvIK
 simp only [iG]
theorem kX {ds:List D} {ks:List (Key×D)} (h:kP ds=some ks):um s (some (.lst ds))= .ok (.own (.dct (bU ks))) s:=by
 unfold um
 simp only [h]
noncomputable def itTK:Vl→SD→R Src:=fun a s1=>match s1.cont a with
 | some (.tup ds)=> .ok ⟨[a],fun s=>s.cont a=some (.tup ds),ds⟩ s1
 | _=> .bad
theorem e_itT:B4 fa s=(fa s).bind itTK:=rfl
theorem x_itT {ds:List D}:itTK (.d (.tup ds)) s= .ok ⟨[.d (.tup ds)],fun _=>True,ds⟩ s:=by
 unfold itTK
 simp only [lY]
noncomputable def CH (s:SD):Option D→Option D→R Vl
 | some (.lst ds),some (.int i)=>if i=1 then .ok (.own (.lst ds)) s else if i= -1 then .ok (.own (.lst ds.reverse)) s else .bad
 | _,_=> .bad
theorem yH:oStep a b s=CH s (s.cont a) (s.cont b):=by
 unfold oStep CH
 rfl
theorem qj {ds:List D}:CH s (some (.lst ds)) (some (.int 1))= .ok (.own (.lst ds)) s:=rfl
theorem qk {ds:List D}:CH s (some (.lst ds)) (some (.int (-1)))= .ok (.own (.lst ds.reverse)) s:=rfl
theorem xl {α:Type} {ok:SD→Prop} {fz:Vl→SD→R Unit} {ft:SD→R Bool} {fe:SD→R Vl} {is:List Nat} {s0:SD} (g h:α→D) (p:α→Bool) (h0:ok s0):∀{l:List α} {acc:List D},(∀a∈l,jB fz ft fe is s0 (fun _=>p a) (fun _=>h a) (g a))→acc.length+l.length≤sizeLine→
  lz ok fz ft fe is (l.map g) acc s0= .ok (acc++(l.filter p).map h) s0
 | [],acc,_,_=>by
  unfold lz
  show (if ok s0 then _ else _)=_
  rw [if_pos h0]
  simp
 | a::l,acc,ht,hl=>by
  rw [List.map_cons]
  unfold lz
  rw [if_pos h0]
  have h1:=ht a (List.mem_cons_self ..)
  unfold jB at h1
  obtain ⟨_,s1,e1,h1⟩:=h1.is
  obtain ⟨b,s2,e2,hb,h2,h3⟩:=h1.is
  rw [List.length_cons] at hl
  have ih:=fun acc hl=>xl g h p h0 (acc:=acc) (fun b hb=>ht b (List.mem_cons_of_mem _ hb)) hl
  rw [e1]
  show R.bind (R.nx (ft s1)) _=_
  rw [e2]
  cases b with
  | true=>
   obtain ⟨v,s3,e3,h4⟩:=(h2 rfl).is
   obtain ⟨y,s4,e4,hy,h5⟩:=h4.is
   show R.bind (R.nx (fe s2)) _=_
   rw [e3]
   show R.bind (s3.fix v) _=_
   rw [e4]
   show (if acc.length<sizeLine then lz ok fz ft fe is (l.map g) (acc++ [y]) (s4.wipe is) else .bad)=_
   rw [if_pos (by omega),h5,ih _ (by simp; omega),List.filter_cons_of_pos hb.symm,hy]
   simp
  | false=>
   show lz ok fz ft fe is (l.map g) acc (s2.wipe is)=_
   rw [h3 rfl,ih _ (by omega),List.filter_cons_of_neg (fun c=>by rw [show p a=false from hb.symm] at c; cases c)]
theorem nB {α:Type} {src:Src} {fz:Vl→SD→R Unit} {ft:SD→R Bool} {fe:SD→R Vl} {is:List Nat} {s1 s0:SD} {l:List α} (g h:α→D) (p:α→Bool) (ed:src.ds=l.map g) (e0:s1.wipe is=s0) (hN:Nl src.hs) (h0:src.ok s0) (ht:∀a∈l,jB fz ft fe is s0 (fun _=>p a) (fun _=>h a) (g a)) (hl:l.length≤sizeLine):
  lcK fz ft fe is src s1= .ok (.own (.lst ((l.filter p).map h))) s0:=by
 unfold lcK
 rw [if_pos hN,e0,ed,xl g h p h0 ht (by simpa using hl)]
 rfl
theorem lH {α:Type} {src:Src} {fz:Vl→SD→R Unit} {fe:SD→R Vl} {is:List Nat} {s1 s0:SD} {l:List α} (g h:α→D) (ed:src.ds=l.map g) (e0:s1.wipe is=s0) (hN:Nl src.hs) (h0:src.ok s0) (ht:∀a∈l,jB fz eU fe is s0 (fun _=>true) (fun _=>h a) (g a)) (hl:l.length≤sizeLine):
  lcK fz eU fe is src s1= .ok (.own (.lst (l.map h))) s0:=by
 rw [nB g h (fun _=>true) ed e0 hN h0 ht hl,List.filter_eq_self.mpr fun _ _=>rfl]
theorem vt {i j:Int}:neK s (some (.int i)) (some (.int j))= .ok (.d (.bl (!decide (i=j)))) s:=by
 unfold neK
 simp only [hX]
theorem Bk {i j:Bool}:eqK s (some (.bl i)) (some (.bl j))= .ok (.d (.bl (decide (i=j)))) s:=Bj (by
 show some (decide (V.bl i=V.bl j))=_
 congr 1
 apply decide_eq_decide.mpr
 exact ⟨fun h=>by cases h; rfl,fun h=>by rw [h]⟩)
theorem vp {i j:Str}:neK s (some (.str i)) (some (.str j))= .ok (.d (.bl (!decide (i=j)))) s:=by
 unfold neK
 simp only [BE]
theorem w_max {n k:Int}:oMax (.d (.int n)) (.d (.int k)) s= .ok (.d (.int (if k > n then k else n))) s:=rfl
theorem pT {c:SD→R Bool} {f:SD→R Fl}:∀{n:Nat} {s:SD},kq c f n s≠ .bad→kq c f (n+1) s=kq c f n s
 | 0,s,h=>absurd rfl h
 | n+1,s,h=>by
  unfold kq
  unfold kq at h
  cases e:c s with
  | bad=>rfl
  | ex _ _ _=>rfl
  | ok b s1=>
   rw [e] at h
   show (if b=true then _ else _)=(if b=true then _ else _)
   have h:(if b=true then _ else _)≠R.bad:=h
   split
   ·rename_i hb
    rw [if_pos hb] at h
    cases e2:f s1 with
    | bad=>rfl
    | ex _ _ _=>rfl
    | ok fl s2=>
     rw [e2] at h
     cases fl with
     | nx=>exact pT h
     | ct=>exact pT h
     | bk=>rfl
     | rt a=>rfl
   ·rfl
theorem yF {c:SD→R Bool} {f:SD→R Fl} {n:Nat} {s:SD} (h:kq c f n s≠ .bad):∀k,kq c f (n+k) s=kq c f n s
 | 0=>rfl
 | k+1=>by
  have:=yF h k
  rw [←this] at h ⊢
  exact pT h
theorem wh_is {c:SD→R Bool} {f:SD→R Fl} {n:Nat} {s:SD} (h:kq c f n s≠ .bad):zWh c f s=kq c f n s:=by
 unfold zWh
 have hx:∃n,kq c f n s≠ .bad:=⟨n,h⟩
 rw [dif_pos hx]
 rcases Nat.le_total (choose hx) n with l | l
 ·obtain ⟨k,rfl⟩:=Nat.exists_eq_add_of_le l
  exact (yF (choose_spec hx) k).symm
 ·obtain ⟨k,e⟩:=Nat.exists_eq_add_of_le l
  rw [e]
  exact yF h k
theorem Wp.ne {α:Type} {m:R α} {Q:α→SD→Prop} {E:XQ} (h:Wp m Q E):m≠ .bad:=fun e=>by rw [e] at h; exact h
theorem whN_w {c:SD→R Bool} {f:SD→R Fl} {Q:Fl→SD→Prop} {E:XQ} {I:Nat→SD→Prop}
  (step:∀m s,I m s→Wp (c s) (fun b s1=>if b=true then Wp (f s1) (fun fl s2=>match fl with | .nx=>∃m' <m,I m' s2 | .ct=>∃m' <m,I m' s2 | .bk=>Q .nx s2 | .rt a=>Q (.rt a) s2) E else Q .nx s1) E):
  ∀(m:Nat) (s:SD),I m s→∃n,Wp (kq c f n s) Q E:=by
 intro m
 induction m using Nat.strongRecOn with
 | _ m ih=>
  intro s hI
  have h:=step m s hI
  cases e:c s with
  | bad=>rw [e] at h; exact h.elim
  | ex cc fs s1=>
   rw [e] at h
   refine ⟨1, ?_⟩
   unfold kq
   rw [e]
   exact h
  | ok b s1=>
   rw [e] at h
   have h:if b=true then _ else _:=h
   cases b with
   | false=>
    refine ⟨1, ?_⟩
    unfold kq
    rw [e]
    exact h
   | true=>
    rw [if_pos rfl] at h
    cases e2:f s1 with
    | bad=>rw [e2] at h; exact h.elim
    | ex cc fs s2=>
     rw [e2] at h
     refine ⟨1, ?_⟩
     unfold kq
     rw [e]
     show Wp (R.bind (f s1) _) Q E
     rw [e2]
     exact h
    | ok fl s2=>
     rw [e2] at h
     have go:(∃m' <m,I m' s2)→∃n,Wp (kq c f n s2) Q E:=fun ⟨m',l,hI'⟩=>ih m' l s2 hI'
     cases fl with
     | nx=>
      obtain ⟨n,hn⟩:=go h
      refine ⟨n+1, ?_⟩
      unfold kq
      rw [e]
      show Wp (R.bind (f s1) _) Q E
      rw [e2]
      exact hn
     | ct=>
      obtain ⟨n,hn⟩:=go h
      refine ⟨n+1, ?_⟩
      unfold kq
      rw [e]
      show Wp (R.bind (f s1) _) Q E
      rw [e2]
      exact hn
     | bk=>
      refine ⟨1, ?_⟩
      unfold kq
      rw [e]
      show Wp (R.bind (f s1) _) Q E
      rw [e2]
      exact h
     | rt a=>
      refine ⟨1, ?_⟩
      unfold kq
      rw [e]
      show Wp (R.bind (f s1) _) Q E
      rw [e2]
      exact h
theorem wh_w {c:SD→R Bool} {f:SD→R Fl} {Q:Fl→SD→Prop} {E:XQ} (I:Nat→SD→Prop) {m:Nat} (h:I m s)
  (step:∀m s,I m s→Wp (c s) (fun b s1=>if b=true then Wp (f s1) (fun fl s2=>match fl with | .nx=>∃m' <m,I m' s2 | .ct=>∃m' <m,I m' s2 | .bk=>Q .nx s2 | .rt a=>Q (.rt a) s2) E else Q .nx s1) E):Wp (zWh c f s) Q E:=by
 obtain ⟨n,hn⟩:=whN_w step m s h
 rw [wh_is hn.ne]
 exact hn
end
section
variable {s:SD} {sl:List (Option Vl)} {c f:Str} {a b:Vl} {x:D} {fa fv:SD→R Vl} {ds:List D} {fp:SD→R (List (Key×D))} {k:Nat} {i:Int} {z:Str}
def qA (c f:Str) (x:D) (s:SD):R Fl:=match x with
 | .lst ds=> .ex c [(f, .lst ds)] s
 | _=> .bad
def wR (c f:Str) (a:Vl) (s:SD):R Fl:=(s.fix a).bind (qA c f)
theorem rJ:mm c f fa s=(fa s).bind (wR c f):=rfl
theorem x_rL1:wR c f a s=(s.fix a).bind (qA c f):=rfl
theorem x_rL2:qA c f (.lst ds) s= .ex c [(f, .lst ds)] s:=rfl
noncomputable def pM (s:SD):Option D→Option D→R Vl
 | some (.lst ds),some x=>match scs ds,x.sc with
  | some vs,some v=> .ok (.d (.int ((vs.countP fun z=>eqV z v:Nat):Int))) s
  | _,_=> .bad
 | _,_=> .bad
theorem pY:jo a b s=pM s (s.cont a) (s.cont b):=by
 unfold jo pM
 rfl
def pvK (fv:SD→R Vl) (fp:SD→R (List (Key×D))) (s:SD):Option (Option Vl)→R (List (Key×D))
 | some (some (.d x))=>match x.key with
  | some kk=>zP kk fv fp s
  | none=> .bad
 | _=> .bad
theorem e_pV:zPV k fv fp s=pvK fv fp s s.sl[k]? :=by
 unfold zPV pvK
 rfl
theorem x_pVi:pvK fv fp s (some (some (.d (.int i))))=zP (.inl i) fv fp s:=rfl
theorem x_pVs:pvK fv fp s (some (some (.d (.str z))))=zP (.inr z) fv fp s:=rfl
noncomputable def isNK (neg:Bool) (s:SD):Option D→R Vl
 | some x=>if x.box=true then .ok (.d (.bl neg)) s else .bad
 | none=> .bad
theorem mw {neg:Bool}:gu neg (.loc k) (.d .non) s=isNK neg s (s.cont (.loc k)):=by
 unfold gu isNK
 rfl
theorem qX {neg:Bool}:isNK neg s (some (.lst ds))= .ok (.d (.bl neg)) s:=rfl
end
section
variable {s:SD} {a b:Vl} {x:D}
theorem rO {n:Nat}:s.cont (.d (.odd n))=some (.odd n):=rfl
def Dv (s:SD):Option D→R Vl
 | some (.odd n)=> .ok (.d (.int (n:Int))) s
 | o=>lenK s o
theorem yM:xS a s=Dv s (s.cont a):=by
 unfold xS Dv
 split
 ·rename_i e
  rw [e]
 ·rename_i h
  split
  ·rename_i e
   exact absurd e (h _)
  ·exact Cz
theorem nz {n:Nat}:Dv s (some (.odd n))= .ok (.d (.int (n:Int))) s:=rfl
theorem nA {l:List (Key×D)}:Dv s (some (.dct l))= .ok (.d (.int l.length)) s:=rfl
def qZ (s:SD):Option D→R Vl
 | some (.odd _)=> .ok (.d (.bl true)) s
 | o=>AO .dict s o
theorem yN:xU a s=qZ s (s.cont a):=by
 unfold xU qZ
 split
 ·rename_i e
  rw [e]
 ·rename_i h
  split
  ·rename_i e
   exact absurd e (h _)
  ·exact CA
theorem nH {n:Nat}:qZ s (some (.odd n))= .ok (.d (.bl true)) s:=rfl
theorem nL {l:List (Key×D)}:qZ s (some (.dct l))= .ok (.d (.bl true)) s:=rfl
theorem nI:qZ s (some .non)= .ok (.d (.bl false)) s:=rfl
theorem nK {n:Int}:qZ s (some (.int n))= .ok (.d (.bl false)) s:=rfl
theorem nG {n:Str}:qZ s (some (.str n))= .ok (.d (.bl false)) s:=rfl
theorem nJ {l:List D}:qZ s (some (.lst l))= .ok (.d (.bl false)) s:=rfl
theorem nM {l:List D}:qZ s (some (.con l))= .ok (.d (.bl false)) s:=rfl
theorem w_neU:An a b s=Dc s (neK s (s.cont a) (s.cont b)) (s.cont a) (s.cont b):=by
 unfold An
 rw [w_ne]
theorem jL {f:R Vl} {z:Str} {i:Nat}:Dc s f (some (.tup [.str z, .cell i])) (some (.tup [.str z, .cell i]))= .ok (.d (.bl false)) s:=by
 unfold Dc
 simp
theorem neUK_py {f:R Vl} {x y:D} (h:x.py≠none):Dc s f (some x) (some y)=f:=by
 unfold Dc
 split
 ·rename_i e _
  cases e
  exact absurd rfl h
 ·rfl
noncomputable def uk (s:SD):Option D→R Vl
 | some (.lst ds)=>match lD ds with
  | some ks=>if ks.Nodup then .ok (.d (.odd ks.length)) s else .bad
  | none=> .bad
 | _=> .bad
theorem uH:nj a s=uk s (s.cont a):=by
 unfold nj uk
 rfl
theorem BD {l:List D} {ks:List (Option Int)} (h:lD l=some ks) (nd:ks.Nodup):uk s (some (.lst l))= .ok (.d (.odd ks.length)) s:=by
 unfold uk
 simp only [h]
 rw [if_pos nd]
end
end Z

namespace Rs
open Z (mnL mnL_le mnL_mem)
def sm:Nat→(Nat→Int)→Int
 | 0,_=>0
 | n+1,f=>sm n f+f n
theorem aS:∀{n:Nat} {f g:Nat→Int},(∀k,k<n→f k=g k)→sm n f=sm n g
 | 0,_,_,_=>rfl
 | n+1,f,g,h=>by
  show sm n f+f n=sm n g+g n
  rw [aS fun k hk=>h k (Nat.lt_succ_of_lt hk),h n (Nat.lt_succ_self n)]
theorem wI:∀(n:Nat) (f g:Nat→Int),sm n (fun k=>f k+g k)=sm n f+sm n g
 | 0,_,_=>rfl
 | n+1,f,g=>by
  show sm n (fun k=>f k+g k)+(f n+g n)=(sm n f+f n)+(sm n g+g n)
  rw [wI n f g]; omega
theorem pA (n:Nat) (f g:Nat→Int):sm n (fun k=>f k - g k)=sm n f - sm n g:=by
 have h:=wI n (fun k=>f k - g k) g
 have e:sm n (fun k=>f k - g k+g k)=sm n f:=aS fun k _=>by omega
 omega
theorem ky:∀n:Nat,sm n (fun _=>0)=0
 | 0=>rfl
 | n+1=>by show sm n _+0=0; rw [ky n]; rfl
theorem zl {i:Nat} {x:Int}:∀{n:Nat},n≤i→sm n (fun k=>if k=i then x else 0)=0
 | 0,_=>rfl
 | n+1,h=>by
  show sm n _+(if n=i then x else 0)=0
  rw [zl (by omega),if_neg (by omega)]; rfl
theorem sL {i:Nat} {x:Int}:∀{n:Nat},i<n→sm n (fun k=>if k=i then x else 0)=x
 | 0,h=>absurd h (by omega)
 | n+1,h=>by
  show sm n _+(if n=i then x else 0)=x
  by_cases c:n=i
  ·rw [if_pos c,zl (by omega)]; omega
  ·rw [if_neg c,sL (by omega)]; omega
theorem sm_nn:∀{n:Nat} {f:Nat→Int},(∀k,k<n→0≤f k)→0≤sm n f
 | 0,_,_=>Int.le_refl 0
 | n+1,f,h=>by
  have h1:=sm_nn fun k hk=>h k (Nat.lt_succ_of_lt hk)
  have h2:=h n (Nat.lt_succ_self n)
  show 0≤sm n f+f n
  omega
theorem zo (x:Int):∀(n:Nat) (f:Nat→Int),sm n (fun k=>x*f k)=x*sm n f
 | 0,_=>by show (0:Int)=x*0; omega
 | n+1,f=>by
  show sm n (fun k=>x*f k)+x*f n=x*(sm n f+f n)
  rw [zo x n f,Int.mul_add]
abbrev As:=List (Nat×Nat)
def ta (as:As) (k:Nat):Nat:=(as.getD k (0,0)).1
def he (as:As) (k:Nat):Nat:=(as.getD k (0,0)).2
def hd (as:As) (h:Nat):Nat:=if h%2=0 then he as (h / 2) else ta as (h / 2)
def tl (as:As) (h:Nat):Nat:=if h%2=0 then ta as (h / 2) else he as (h / 2)
def tw (h:Nat):Nat:=if h%2=0 then h+1 else h - 1
theorem tw_div (h:Nat):tw h / 2=h / 2:=by unfold tw; split<;> omega
theorem tw_mod (h:Nat):tw h%2=1 - h%2:=by unfold tw; split<;> omega
theorem tw_ne (h:Nat):tw h≠h:=by unfold tw; split<;> omega
theorem CB {h n:Nat} (c:h<2*n):tw h<2*n:=by unfold tw; split<;> omega
theorem hd_tw (as:As) (h:Nat):hd as (tw h)=tl as h:=by
 unfold hd tl
 rw [tw_div,tw_mod]
 by_cases c:h%2=0
 ·rw [if_pos c,if_neg (by omega)]
 ·rw [if_neg c,if_pos (by omega)]
def jq (as:As):List Nat:=(List.range (2*as.length)).map (hd as)
def starts (as:As) (p:Nat):List Nat:=(List.range (2*as.length)).filter fun h=>decide (tl as h=p)
theorem mem_starts {as:As} {p h:Nat}:h∈starts as p↔h<2*as.length∧tl as h=p:=by
 unfold starts
 rw [List.mem_filter,List.mem_range,decide_eq_true_eq]
def rm (rs:List (Option Int)) (h:Nat):Option Int:=rs.getD h none
def iT (rs:List (Option Int)) (e:Bool) (h:Nat):Bool:=match rm rs h with
 | none=>true
 | some x=>!e&&decide (0<x)
def AsOk (as:As) (m:Nat):Prop:=∀a∈as,a.1<m∧a.2<m
theorem AsOk.at {as:As} {m k:Nat} (o:AsOk as m) (h:k<as.length):ta as k<m∧he as k<m:=by
 have e:as.getD k (0,0)=as[k]:=by rw [List.getD_eq_getElem?_getD,List.getElem?_eq_getElem h]; rfl
 unfold ta he
 rw [e]
 exact o _ (List.getElem_mem h)
theorem AsOk.hd {as:As} {m h:Nat} (o:AsOk as m) (c:h<2*as.length):Rs.hd as h<m:=by
 have:=o.at (k:=h / 2) (by omega)
 unfold Rs.hd
 split
 ·exact this.2
 ·exact this.1
theorem AsOk.tl {as:As} {m h:Nat} (o:AsOk as m) (c:h<2*as.length):Rs.tl as h<m:=by
 rw [←hd_tw]
 exact o.hd (CB c)
structure BS where
 row:List Nat
 came:Nat→Option Nat
def hst (as:As) (rs:List (Option Int)) (e:Bool) (b:BS) (h:Nat):BS:=
 if hd as h∉b.row∧iT rs e h=true then ⟨b.row++ [hd as h],fun p=>if p=hd as h then some h else b.came p⟩ else b
def pst (as:As) (rs:List (Option Int)) (e:Bool) (b:BS) (p:Nat):BS:=(starts as p).foldl (hst as rs e) b
def bfs (as:As) (rs:List (Option Int)) (e:Bool):Nat→Nat→BS→BS
 | 0,_,b=>b
 | n+1,i,b=>match b.row[i]? with
  | none=>b
  | some p=>bfs as rs e n (i+1) (pst as rs e b p)
def bL (as:As) (rs:List (Option Int)) (e:Bool) (m s:Nat):BS:=bfs as rs e m 0 ⟨[s],fun _=>none⟩
theorem BU {as:As} {rs:List (Option Int)} {e:Bool} {i:Nat} {b:BS} (h:b.row.length≤i):∀n,bfs as rs e n i b=b
 | 0=>rfl
 | n+1=>by
  unfold bfs
  rw [List.getElem?_eq_none h]
theorem xE {as:As} {rs:List (Option Int)} {e:Bool} {i n p:Nat} {b:BS} (h:b.row[i]? =some p):bfs as rs e (n+1) i b=bfs as rs e n (i+1) (pst as rs e b p):=by
 show (match b.row[i]? with | none=>b | some p=>bfs as rs e n (i+1) (pst as rs e b p))=_
 rw [h]
structure BOk (as:As) (rs:List (Option Int)) (e:Bool) (m s i:Nat) (b:BS):Prop where
 nd:b.row.Nodup
 lt:∀p∈b.row,p<m
 sr:s∈b.row
 cs:b.came s=none
 out:∀p,p∉b.row→b.came p=none
 inn:∀p∈b.row,p≠s→∃h,b.came p=some h∧h<2*as.length∧hd as h=p∧iT rs e h=true∧tl as h∈b.row∧b.row.idxOf (tl as h)<b.row.idxOf p
 il:i≤b.row.length
 clo:∀p∈b.row.take i,∀h,h<2*as.length→tl as h=p→iT rs e h=true→hd as h∈b.row
section
variable {as:As} {rs:List (Option Int)} {e:Bool} {m s t i p:Nat} {b:BS}
theorem BOk.init (hs:s<m):BOk as rs e m s 0 ⟨[s],fun _=>none⟩ where
 nd:=by simp
 lt:=fun p hp=>by rw [List.mem_singleton.mp hp]; exact hs
 sr:=List.mem_singleton.mpr rfl
 cs:=rfl
 out:=fun _ _=>rfl
 inn:=fun p hp hn=>absurd (List.mem_singleton.mp hp) hn
 il:=Nat.zero_le _
 clo:=fun p hp=>by simp at hp
theorem hst_ok (o:AsOk as m) (B:BOk as rs e m s i b) {h:Nat} (hh:h<2*as.length) (ht:tl as h∈b.row):
  BOk as rs e m s i (hst as rs e b h)∧b.row <+: (hst as rs e b h).row∧(iT rs e h=true→hd as h∈(hst as rs e b h).row):=by
 unfold hst
 by_cases c:hd as h∉b.row∧iT rs e h=true
 ·rw [if_pos c]
  refine ⟨⟨?_, ?_, ?_, ?_, ?_, ?_, ?_, ?_⟩,List.prefix_append _ _,fun _=>List.mem_append_right _ (List.mem_singleton.mpr rfl)⟩
  ·show (b.row++ [hd as h]).Nodup
   rw [List.nodup_append]
   refine ⟨B.nd,by simp,fun x hx y hy=>?_⟩
   rw [List.mem_singleton.mp hy]
   rintro rfl
   exact c.1 hx
  ·intro p hp
   rcases List.mem_append.mp hp with hp | hp
   ·exact B.lt p hp
   ·rw [List.mem_singleton.mp hp]; exact o.hd hh
  ·exact List.mem_append_left _ B.sr
  ·show (if s=hd as h then some h else b.came s)=none
   rw [if_neg fun q:s=hd as h=>c.1 (q ▸ B.sr)]
   exact B.cs
  ·intro p hp
   show (if p=hd as h then some h else b.came p)=none
   rw [if_neg fun q:p=hd as h=>hp (by rw [q]; exact List.mem_append_right _ (List.mem_singleton.mpr rfl))]
   exact B.out p fun q=>hp (List.mem_append_left _ q)
  ·intro p hp hn
   show∃h',(if p=hd as h then some h else b.came p)=some h'∧h' <2*as.length∧hd as h' =p∧iT rs e h' =true∧tl as h'∈b.row++ [hd as h]∧(b.row++ [hd as h]).idxOf (tl as h')<(b.row++ [hd as h]).idxOf p
   by_cases q:p=hd as h
   ·subst q
    refine ⟨h,if_pos rfl,hh,rfl,c.2,List.mem_append_left _ ht, ?_⟩
    rw [List.idxOf_append,if_pos ht,List.idxOf_append,if_neg c.1]
    have:=List.idxOf_lt_length_of_mem ht
    omega
   ·have hp:p∈b.row:=by
     rcases List.mem_append.mp hp with hp | hp
     ·exact hp
     ·exact absurd (List.mem_singleton.mp hp) q
    obtain ⟨h',e1,e2,e3,e4,e5,e6⟩:=B.inn p hp hn
    refine ⟨h',by rw [if_neg q]; exact e1,e2,e3,e4,List.mem_append_left _ e5, ?_⟩
    rw [List.idxOf_append,if_pos e5,List.idxOf_append,if_pos hp]
    exact e6
  ·show i≤(b.row++ [hd as h]).length
   rw [List.length_append]
   have:=B.il
   omega
  ·intro p hp h' e1 e2 e3
   have hp:p∈(b.row++ [hd as h]).take i:=hp
   rw [List.take_append_of_le_length B.il] at hp
   exact List.mem_append_left _ (B.clo p hp h' e1 e2 e3)
 ·rw [if_neg c]
  refine ⟨B,List.prefix_refl _,fun hl=>?_⟩
  exact Classical.byContradiction fun q=>c ⟨q,hl⟩
theorem vP (o:AsOk as m):∀{hs:List Nat} {b:BS},BOk as rs e m s i b→p∈b.row→(∀h∈hs,h<2*as.length∧tl as h=p)→
  BOk as rs e m s i (hs.foldl (hst as rs e) b)∧b.row <+: (hs.foldl (hst as rs e) b).row∧∀h∈hs,iT rs e h=true→hd as h∈(hs.foldl (hst as rs e) b).row
 | [],b,B,_,_=>⟨B,List.prefix_refl _,fun h hh=>(by cases hh)⟩
 | h::hs,b,B,hp,hh=>by
  have h0:=hh h (List.mem_cons_self ..)
  obtain ⟨B1,p1,l1⟩:=hst_ok o B h0.1 (h0.2.symm ▸ hp)
  obtain ⟨B2,p2,l2⟩:=vP o B1 (p1.subset hp) fun h' hh' =>hh h' (List.mem_cons_of_mem _ hh')
  refine ⟨B2,p1.trans p2,fun h' hh' hl=>?_⟩
  rcases List.mem_cons.mp hh' with rfl | hh'
  ·exact p2.subset (l1 hl)
  ·exact l2 h' hh' hl
theorem pst_ok (o:AsOk as m) (B:BOk as rs e m s i b) (hp:b.row[i]? =some p):BOk as rs e m s (i+1) (pst as rs e b p):=by
 obtain ⟨hi,hp⟩:=List.getElem?_eq_some_iff.mp hp
 have hm:p∈b.row:=by rw [←hp]; exact List.getElem_mem hi
 obtain ⟨B1,p1,l1⟩:=vP (hs:=starts as p) o B hm fun h hh=>mem_starts.mp hh
 refine {B1 with il:=?_,clo:=?_}
 ·exact Nat.le_trans hi p1.length_le
 ·intro q hq h e1 e2 e3
  obtain ⟨r,hr⟩:=p1
  have hq:q∈((starts as p).foldl (hst as rs e) b).row.take (i+1):=hq
  have hr2:=hr
  rw [←hr,List.take_append_of_le_length hi,List.take_succ_eq_append_getElem hi] at hq
  rcases List.mem_append.mp hq with hq | hq
  ·refine B1.clo q ?_ h e1 e2 e3
   rw [←hr2,List.take_append_of_le_length B.il]
   exact hq
  ·have hq:=List.mem_singleton.mp hq
   rw [hp] at hq
   exact l1 h (mem_starts.mpr ⟨e1,e2.trans hq⟩) e3
theorem BOk.le (B:BOk as rs e m s i b):b.row.length≤m:=by
 have h:=List.Nodup.length_le_of_subset B.nd (l₂:=List.range m) fun p hp=>List.mem_range.mpr (B.lt p hp)
 simpa using h
theorem bfs_ok (o:AsOk as m):∀(n i:Nat) (b:BS),BOk as rs e m s i b→m≤n+i→∃i',BOk as rs e m s i' (bfs as rs e n i b)∧(bfs as rs e n i b).row.length≤i'
 | 0,i,b,B,h=>⟨i,B,Nat.le_trans B.le (by omega)⟩
 | n+1,i,b,B,h=>by
  cases c:b.row[i]? with
  | none=>
   have:=List.getElem?_eq_none_iff.mp c
   rw [BU this]
   exact ⟨i,B,this⟩
  | some p=>
   rw [xE c]
   exact bfs_ok o n (i+1) _ (pst_ok o B c) (by omega)
structure Wk (as:As) (rs:List (Option Int)) (e:Bool) (m s:Nat) (b:BS):Prop where
 nd:b.row.Nodup
 lt:∀p∈b.row,p<m
 sr:s∈b.row
 cs:b.came s=none
 out:∀p,p∉b.row→b.came p=none
 inn:∀p∈b.row,p≠s→∃h,b.came p=some h∧h<2*as.length∧hd as h=p∧iT rs e h=true∧tl as h∈b.row∧b.row.idxOf (tl as h)<b.row.idxOf p
 clo:∀p∈b.row,∀h,h<2*as.length→tl as h=p→iT rs e h=true→hd as h∈b.row
theorem aO (o:AsOk as m) (hs:s<m):Wk as rs e m s (bL as rs e m s):=by
 obtain ⟨i,B,h⟩:=bfs_ok (rs:=rs) (e:=e) o m 0 _ (BOk.init hs) (by omega)
 exact ⟨B.nd,B.lt,B.sr,B.cs,B.out,B.inn,fun p hp=>B.clo p (by rw [List.take_of_length_le h]; exact hp)⟩
inductive Rch (as:As) (rs:List (Option Int)) (e:Bool) (s:Nat):Nat→Prop
 | base:Rch as rs e s s
 | step {h:Nat}:Rch as rs e s (tl as h)→h<2*as.length→iT rs e h=true→Rch as rs e s (hd as h)
theorem Wk.rch (W:Wk as rs e m s b):p∈b.row↔Rch as rs e s p:=by
 constructor
 ·have:∀n p,p∈b.row→b.row.idxOf p<n→Rch as rs e s p:=by
   intro n
   induction n with
   | zero=>intro p _ h; omega
   | succ n ih=>
    intro p hp hn
    by_cases c:p=s
    ·rw [c]; exact .base
    ·obtain ⟨h,e1,e2,e3,e4,e5,e6⟩:=W.inn p hp c
     rw [←e3]
     exact .step (ih _ e5 (by omega)) e2 e4
  exact fun hp=>this _ p hp (Nat.lt_succ_self _)
 ·intro h
  induction h with
  | base=>exact W.sr
  | step _ h1 h2 ih=>exact W.clo _ ih _ h1 rfl h2
def way (as:As) (came:Nat→Option Nat):Nat→Nat→List Nat
 | 0,_=> []
 | n+1,p=>match came p with
  | none=> []
  | some h=>way as came n (tl as h)++ [h]
inductive Path (as:As) (s:Nat):List Nat→Nat→Prop
 | nil:Path as s [] s
 | snoc {w:List Nat} {h:Nat}:Path as s w (tl as h)→Path as s (w++ [h]) (hd as h)
structure WayOk (as:As) (rs:List (Option Int)) (e:Bool) (s t:Nat) (w:List Nat):Prop where
 path:Path as s w t
 all:∀h∈w,h<2*as.length∧iT rs e h=true
 nd:(s::w.map (hd as)).Nodup
theorem way_ok (W:Wk as rs e m s b):∀{n p:Nat},p∈b.row→b.row.idxOf p<n→
  WayOk as rs e s p (way as b.came n p)∧∀q∈s::(way as b.came n p).map (hd as),q∈b.row∧b.row.idxOf q≤b.row.idxOf p
 | 0,p,_,h=>absurd h (by omega)
 | n+1,p,hp,hn=>by
  unfold way
  by_cases c:p=s
  ·subst c
   rw [W.cs]
   exact ⟨⟨.nil,fun _ h=>(by cases h),by simp⟩,fun q hq=>by rw [List.map_nil,List.mem_singleton] at hq; rw [hq]; exact ⟨hp,Nat.le_refl _⟩⟩
  ·obtain ⟨h,e1,e2,e3,e4,e5,e6⟩:=W.inn p hp c
   rw [e1]
   obtain ⟨O,l⟩:=way_ok W (n:=n) e5 (by omega)
   show WayOk as rs e s p (way as b.came n (tl as h)++ [h])∧∀q∈s::(way as b.came n (tl as h)++ [h]).map (hd as),q∈b.row∧b.row.idxOf q≤b.row.idxOf p
   have em:s::(way as b.came n (tl as h)++ [h]).map (hd as)=(s::(way as b.came n (tl as h)).map (hd as))++ [p]:=by
    rw [List.map_append,List.map_singleton,e3]; rfl
   rw [em]
   refine ⟨⟨?_, ?_, ?_⟩, ?_⟩
   ·have:=Path.snoc O.path
    rw [e3] at this
    exact this
   ·intro h' hh
    rcases List.mem_append.mp hh with hh | hh
    ·exact O.all h' hh
    ·rw [List.mem_singleton.mp hh]; exact ⟨e2,e4⟩
   ·rw [em,List.nodup_append]
    refine ⟨O.nd,by simp,fun x hx y hy=>?_⟩
    rw [List.mem_singleton.mp hy]
    rintro rfl
    have:=(l x hx).2
    omega
   ·intro q hq
    rcases List.mem_append.mp hq with hq | hq
    ·have:=l q hq
     exact ⟨this.1,by omega⟩
    ·rw [List.mem_singleton.mp hq]; exact ⟨hp,Nat.le_refl _⟩
def bM (as:As) (rs:List (Option Int)) (e:Bool) (m s t:Nat):List Nat:=way as (bL as rs e m s).came m t
theorem sE (o:AsOk as m) (hs:s<m) (h:t∉(bL as rs e m s).row):bM as rs e m s t= []:=by
 unfold bM
 cases m with
 | zero=>omega
 | succ n=>
  unfold way
  rw [(aO o hs).out t h]
theorem jG (o:AsOk as m) (hs:s<m) (h:t∈(bL as rs e m s).row):WayOk as rs e s t (bM as rs e m s t):=by
 have W:=aO (rs:=rs) (e:=e) o hs
 refine (way_ok W h ?_).1
 have h1:=List.idxOf_lt_length_of_mem h
 have h2:=List.Nodup.length_le_of_subset W.nd (l₂:=List.range m) fun p hp=>List.mem_range.mpr (W.lt p hp)
 rw [List.length_range] at h2
 omega
theorem WayOk.ne {w:List Nat} (W:WayOk as rs e s t w) (h:s≠t):w≠ []:=by
 intro q
 have P:=W.path
 rw [q] at P
 generalize e:([]:List Nat)=w' at P
 cases P with
 | nil=>exact h rfl
 | snoc _=>simp at e
theorem gy (o:AsOk as m) (hs:s<m) (h:s≠t):bM as rs e m s t= []↔t∉(bL as rs e m s).row:=
 ⟨fun q c=>(jG o hs c).ne h q,sE o hs⟩
theorem Path.sum {w:List Nat} (P:Path as s w t) (g:Nat→Int):(w.map fun h=>g (tl as h) - g (hd as h)).sum=g s - g t:=by
 induction P with
 | nil=>simp
 | snoc _ ih=>rw [List.map_append,List.sum_append,ih]; simp; omega
theorem Path.at {w:List Nat} (P:Path as s w t):∀{i h:Nat},w[i]? =some h→(s::w.map (hd as))[i]? =some (tl as h):=by
 have hl:∀{w:List Nat} {t:Nat},Path as s w t→(s::w.map (hd as))[w.length]? =some t:=by
  intro w t P
  cases P with
  | nil=>rfl
  | snoc P=>
   rename_i w h
   rw [List.map_append,←List.cons_append,List.getElem?_append_right (by simp)]
   simp
 induction P with
 | nil=>intro i h e; simp at e
 | snoc P ih=>
  rename_i w h
  intro i h' e
  rw [List.map_append,←List.cons_append]
  by_cases c:i<w.length
  ·rw [List.getElem?_append_left c] at e
   rw [List.getElem?_append_left (by simp; omega)]
   exact ih e
  ·rw [List.getElem?_append_right (by omega)] at e
   have hi:i=w.length:=by
    have:=(List.getElem?_eq_some_iff.mp e).1
    simp at this
    omega
   subst hi
   simp at e
   subst e
   rw [List.getElem?_append_left (by simp)]
   exact hl P
theorem Path.last {w:List Nat} (P:Path as s w t):(s::w.map (hd as))[w.length]? =some t:=by
 cases P with
 | nil=>rfl
 | snoc P=>
  rw [List.map_append,←List.cons_append,List.getElem?_append_right (by simp)]
  simp
end
theorem zE {rs:List (Option Int)} {i h:Nat} {x:Option Int} (hi:i<rs.length):rm (rs.set i x) h=if h=i then x else rm rs h:=by
 unfold rm
 rw [List.getD_eq_getElem?_getD,List.getD_eq_getElem?_getD]
 by_cases c:h=i
 ·subst c; rw [if_pos rfl,List.getElem?_set_self hi]; rfl
 ·rw [if_neg c,List.getElem?_set_ne (fun q=>c q.symm)]
def chg (rs:List (Option Int)) (h:Nat) (x:Int):List (Option Int):=
 let r1:=rs.set h ((rm rs h).map (· +(0 - x)))
 r1.set (tw h) ((rm r1 (tw h)).map (· +x))
theorem we (rs:List (Option Int)) (h:Nat) (x:Int):(chg rs h x).length=rs.length:=by
 unfold chg
 rw [List.length_set,List.length_set]
theorem rm_chg {rs:List (Option Int)} {n h i:Nat} {x:Int} (hl:rs.length=2*n) (hh:h<2*n):
  rm (chg rs h x) i=if i=tw h then (rm rs i).map (· +x) else if i=h then (rm rs i).map (· +(0 - x)) else rm rs i:=by
 unfold chg
 have h2:=CB hh
 have h3:=tw_ne h
 rw [zE (by rw [List.length_set]; omega),zE (by omega),zE (by omega),if_neg h3]
 by_cases c:i=tw h
 ·subst c; rw [if_pos rfl,if_pos rfl]
 ·rw [if_neg c,if_neg c]
  by_cases c2:i=h
  ·subst c2; rw [if_pos rfl]
  ·rw [if_neg c2,if_neg c2]
def push (rs:List (Option Int)) (w:List Nat) (x:Int):List (Option Int):=w.foldl (fun r h=>chg r h x) rs
structure Shift (n:Nat) (rs rs' :List (Option Int)) (f:Nat→Int):Prop where
 len:rs'.length=rs.length
 rm:∀h,h<2*n→Rs.rm rs' h=(Rs.rm rs h).map (· +(if h%2=0 then 0 - f (h / 2) else f (h / 2)))
def NN (rs:List (Option Int)):Prop:=∀h v,rm rs h=some v→0≤v
def dv (as:As) (f g:Nat→Int):Int:=sm as.length fun k=>f k*(g (ta as k) - g (he as k))
def one (h:Nat) (x:Int):Nat→Int:=fun k=>if k=h / 2 then (if h%2=0 then x else 0 - x) else 0
section
variable {as:As} {rs rs' rs2:List (Option Int)} {e:Bool} {m n s t i p h:Nat} {x a:Int} {f f' g:Nat→Int} {w:List Nat} {U:Nat→Bool}
theorem Shift.refl:Shift n rs rs (fun _=>0):=⟨rfl,fun h _=>by
 cases Rs.rm rs h with
 | none=>rfl
 | some v=>
  show some v=some (v+(if h%2=0 then 0 - 0 else 0))
  congr 1
  split<;> omega⟩
theorem Shift.trans (A:Shift n rs rs' f) (B:Shift n rs' rs2 f'):Shift n rs rs2 (fun k=>f k+f' k):=⟨B.len.trans A.len,fun h hh=>by
 rw [B.rm h hh,A.rm h hh,Option.map_map]
 congr 1
 funext v
 show v+_+_=v+_
 split<;> omega⟩
theorem Shift.none (A:Shift n rs rs' f) (hh:h<2*n):Rs.rm rs' h=Option.none↔Rs.rm rs h=Option.none:=by
 rw [A.rm h hh]
 cases Rs.rm rs h<;> simp
theorem BH (hl:rs.length=2*n) (hh:h<2*n):Shift n rs (chg rs h x) (one h x):=⟨we ..,fun i hi=>by
 rw [rm_chg hl hh]
 have e1:=tw_div h
 have e2:=tw_mod h
 have h3:=tw_ne h
 unfold one
 by_cases c:i=tw h
 ·subst c
  rw [if_pos rfl,if_pos e1,e2]
  congr 1; funext v
  by_cases c2:h%2=0
  ·rw [if_neg (by omega),if_pos c2]
  ·rw [if_pos (by omega),if_neg c2]; omega
 ·rw [if_neg c]
  by_cases c2:i=h
  ·subst c2
   rw [if_pos rfl,if_pos rfl]
   congr 1; funext v
   by_cases c3:i%2=0
   ·rw [if_pos c3,if_pos c3]
   ·rw [if_neg c3,if_neg c3]
  ·have c3:¬i / 2=h / 2:=fun q=>by
    unfold tw at c
    split at c<;> omega
   rw [if_neg c2,if_neg c3]
   cases rm rs i with
   | none=>rfl
   | some v=>
    show some v=some (v+(if i%2=0 then 0 - 0 else 0))
    congr 1
    split<;> omega⟩
theorem BB:dv as (fun k=>f k+f' k) g=dv as f g+dv as f' g:=by
 unfold dv
 rw [←wI]
 exact aS fun k _=>Int.add_mul ..
theorem nW:dv as (fun _=>0) g=0:=by
 unfold dv
 rw [aS (g:=fun _=>0) fun k _=>Int.zero_mul _,ky]
theorem dv_one (hh:h<2*as.length):dv as (one h x) g=x*(g (tl as h) - g (hd as h)):=by
 unfold dv
 rw [aS (g:=fun k=>if k=h / 2 then x*(g (tl as h) - g (hd as h)) else 0) fun k hk=>?_,sL (by omega)]
 unfold one tl hd
 by_cases c:k=h / 2
 ·subst c
  rw [if_pos rfl,if_pos rfl]
  by_cases c2:h%2=0
  ·rw [if_pos c2,if_pos c2,if_pos c2]
  ·rw [if_neg c2,if_neg c2,if_neg c2,Int.sub_mul,Int.zero_mul,Int.mul_sub,Int.mul_sub]
   omega
 ·rw [if_neg c,if_neg c,Int.zero_mul]
def flw:List Nat→Int→Nat→Int
 | [],_,_=>0
 | h::w,x,k=>one h x k+flw w x k
theorem iA:∀{w:List Nat} {rs:List (Option Int)},rs.length=2*n→(∀h∈w,h<2*n)→Shift n rs (push rs w x) (flw w x)
 | [],rs,_,_=>Shift.refl
 | h::w,rs,hl,hw=>by
  have h1:=BH (x:=x) hl (hw h (List.mem_cons_self ..))
  exact h1.trans (iA (w:=w) ((we ..).trans hl) fun h' hh=>hw h' (List.mem_cons_of_mem _ hh))
theorem dv_flw:∀{w:List Nat},(∀h∈w,h<2*as.length)→dv as (flw w x) g=x*(w.map fun h=>g (tl as h) - g (hd as h)).sum
 | [],_=>by
  rw [List.map_nil,List.sum_nil,Int.mul_zero]
  exact nW
 | h::w,hw=>by
  show dv as (fun k=>one h x k+flw w x k) g=_
  rw [BB,dv_one (hw h (List.mem_cons_self ..)),dv_flw fun h' hh=>hw h' (List.mem_cons_of_mem _ hh),List.map_cons,List.sum_cons,Int.mul_add]
theorem zY:∀{w:List Nat} {rs:List (Option Int)} {i:Nat} {v v' :Int},rs.length=2*n→0≤x→(∀h∈w,h<2*n)→rm rs i=some v→rm (push rs w x) i=some v'→v - x*(w.count i:Nat)≤v'
 | [],rs,i,v,v',_,_,_,e1,e2=>by
  have e2:rm rs i=some v' :=e2
  rw [e1] at e2
  cases e2
  rw [List.count_nil]
  show v - x*0≤v
  omega
 | h::w,rs,i,v,v',hl,hx,hw,e1,e2=>by
  have e2:rm (push (chg rs h x) w x) i=some v' :=e2
  have hh:=hw h (List.mem_cons_self ..)
  have ih:=fun u eu=>zY (w:=w) (rs:=chg rs h x) (i:=i) (v:=u) ((we ..).trans hl) hx (fun h' hh=>hw h' (List.mem_cons_of_mem _ hh)) eu e2
  have e3:=rm_chg (i:=i) (x:=x) hl hh
  rw [e1] at e3
  have h3:=tw_ne h
  rw [List.count_cons]
  by_cases c:i=tw h
  ·rw [if_pos c] at e3
   have h1:=ih _ e3
   rw [if_neg (by rw [beq_iff_eq]; exact fun q=>h3 (c.symm.trans q.symm))]
   have:v+x - x*(w.count i:Nat)≤v' :=h1
   show v - x*((w.count i+0:Nat):Int)≤v'
   rw [Nat.add_zero]
   omega
  ·rw [if_neg c] at e3
   by_cases c2:i=h
   ·rw [if_pos c2] at e3
    have h1:=ih _ e3
    rw [if_pos (by rw [beq_iff_eq]; exact c2.symm)]
    have h1:v+(0 - x) - x*(w.count i:Nat)≤v' :=h1
    have:x*((w.count i+1:Nat):Int)=x*(w.count i:Nat)+x:=by rw [Int.natCast_add,Int.mul_add]; show _+x*1=_; rw [Int.mul_one]
    rw [this]
    omega
   ·rw [if_neg c2] at e3
    have h1:=ih _ e3
    rw [if_neg (by rw [beq_iff_eq]; exact fun q=>c2 q.symm),Nat.add_zero]
    exact h1
def aM (rs:List (Option Int)) (w:List Nat):Int:=match w.filterMap (rm rs) with
 | []=>0
 | i::is=>mnL i is
theorem Aw {v:Int} (hh:h∈w) (e:rm rs h=some v):aM rs w≤v:=by
 have:v∈w.filterMap (rm rs):=List.mem_filterMap.mpr ⟨h,hh,e⟩
 unfold aM
 cases c:w.filterMap (rm rs) with
 | nil=>rw [c] at this; cases this
 | cons i is=>
  rw [c] at this
  have h1:=mnL_le is i
  rcases List.mem_cons.mp this with rfl | q
  ·exact h1.1
  ·exact h1.2 v q
theorem xW (hw:∃h∈w,rm rs h≠none):∃h∈w,rm rs h=some (aM rs w):=by
 obtain ⟨h,hh,e⟩:=hw
 obtain ⟨v,e⟩:=Option.ne_none_iff_exists'.mp e
 have:v∈w.filterMap (rm rs):=List.mem_filterMap.mpr ⟨h,hh,e⟩
 suffices hs:aM rs w∈w.filterMap (rm rs) by
  obtain ⟨h',h1,h2⟩:=List.mem_filterMap.mp hs
  exact ⟨h',h1,h2⟩
 unfold aM
 cases c:w.filterMap (rm rs) with
 | nil=>rw [c] at this; cases this
 | cons i is=>
  rcases mnL_mem is i with q | q
  ·show mnL i is∈i::is
   rw [q]; exact List.mem_cons_self ..
  ·exact List.mem_cons_of_mem _ q
theorem Dt {v:Int} (h1:iT rs false h=true) (h2:rm rs h=some v):0<v:=by
 unfold iT at h1
 rw [h2] at h1
 simpa using h1
theorem ny (h1:iT rs true h=true):rm rs h=none:=by
 unfold iT at h1
 cases c:rm rs h with
 | none=>rfl
 | some v=>rw [c] at h1; simp at h1
theorem fm (h1:rm rs h=none):iT rs e h=true:=by
 unfold iT
 rw [h1]
def ind (U:Nat→Bool) (p:Nat):Int:=if U p=true then 1 else 0
def cut (as:As) (U:Nat→Bool) (rs:List (Option Int)):Int:=sm as.length fun k=>
 if U (ta as k)=true then (if U (he as k)=true then 0 else (rm rs (2*k)).getD 0) else if U (he as k)=true then (rm rs (2*k+1)).getD 0 else 0
def Fin (as:As) (U:Nat→Bool) (rs:List (Option Int)):Prop:=∀h,h<2*as.length→U (tl as h)=true→U (hd as h)=false→rm rs h≠none
theorem tl_even {k:Nat}:tl as (2*k)=ta as k∧hd as (2*k)=he as k:=by
 unfold tl hd
 rw [if_pos (by omega),if_pos (by omega),show 2*k / 2=k by omega]
 exact ⟨rfl,rfl⟩
theorem tl_odd {k:Nat}:tl as (2*k+1)=he as k∧hd as (2*k+1)=ta as k:=by
 unfold tl hd
 rw [if_neg (by omega),if_neg (by omega),show (2*k+1) / 2=k by omega]
 exact ⟨rfl,rfl⟩
theorem Shift.even (A:Shift n rs rs' f) {k:Nat} (h:k<n):Rs.rm rs' (2*k)=(Rs.rm rs (2*k)).map (· +(0 - f k)):=by
 rw [A.rm _ (by omega),if_pos (by omega),show 2*k / 2=k by omega]
theorem Shift.odd (A:Shift n rs rs' f) {k:Nat} (h:k<n):Rs.rm rs' (2*k+1)=(Rs.rm rs (2*k+1)).map (· +f k):=by
 rw [A.rm _ (by omega),if_neg (by omega),show (2*k+1) / 2=k by omega]
theorem BF (A:Shift as.length rs rs' f) (F:Fin as U rs):cut as U rs' =cut as U rs - dv as f (ind U):=by
 unfold cut dv
 rw [←pA]
 refine aS fun k hk=>?_
 unfold ind
 have e1:=A.even hk
 have e2:=A.odd hk
 have f1:=F (2*k) (by omega)
 have f2:=F (2*k+1) (by omega)
 rw [tl_even.1,tl_even.2] at f1
 rw [tl_odd.1,tl_odd.2] at f2
 cases c1:U (ta as k) with
 | true=>
  simp only [if_true]
  cases c2:U (he as k) with
  | true=>simp
  | false=>
   have f1:=f1 c1 c2
   simp only [Bool.false_eq_true,if_false]
   rw [e1]
   cases c3:rm rs (2*k) with
   | none=>exact absurd c3 f1
   | some v=>show v+(0 - f k)=v - f k*1; omega
 | false=>
  simp only [Bool.false_eq_true,if_false]
  cases c2:U (he as k) with
  | true=>
   have f2:=f2 c2 c1
   rw [if_pos rfl,if_pos rfl,if_pos rfl,e2]
   cases c3:rm rs (2*k+1) with
   | none=>exact absurd c3 f2
   | some v=>show v+f k=v - f k*(0 - 1); omega
  | false=>simp
theorem AY (N:NN rs) (h:Nat):0≤(rm rs h).getD 0:=by
 cases c:rm rs h with
 | none=>exact Int.le_refl 0
 | some v=>exact N h v c
theorem cut_nn (N:NN rs):0≤cut as U rs:=sm_nn fun k _=>by
 have h1:=AY N (2*k)
 have h2:=AY N (2*k+1)
 (repeat' split)<;> omega
theorem Fin.shift (A:Shift as.length rs rs' f) (F:Fin as U rs):Fin as U rs' :=fun h hh h1 h2 q=>F h hh h1 h2 ((A.none hh).mp q)
theorem Fin.back (A:Shift as.length rs rs' f) (F:Fin as U rs'):Fin as U rs:=fun h hh h1 h2 q=>F h hh h1 h2 ((A.none hh).mpr q)
def Full (as:As) (U:Nat→Bool) (rs:List (Option Int)):Prop:=∀h,h<2*as.length→U (tl as h)=true→U (hd as h)=false→rm rs h=some 0
theorem Full.fin (F:Full as U rs):Fin as U rs:=fun h hh h1 h2 q=>by rw [F h hh h1 h2] at q; cases q
theorem Full.cut (F:Full as U rs):Rs.cut as U rs=0:=by
 unfold Rs.cut
 rw [aS (g:=fun _=>0) fun k hk=>?_,ky]
 have f1:=F (2*k) (by omega)
 have f2:=F (2*k+1) (by omega)
 rw [tl_even.1,tl_even.2] at f1
 rw [tl_odd.1,tl_odd.2] at f2
 cases c1:U (ta as k) with
 | true=>
  rw [if_pos rfl]
  cases c2:U (he as k) with
  | true=>rw [if_pos rfl]
  | false=>rw [if_neg (by decide),f1 c1 c2]; rfl
 | false=>
  rw [if_neg (by decide)]
  cases c2:U (he as k) with
  | true=>rw [if_pos rfl,f2 c2 c1]; rfl
  | false=>rw [if_neg (by decide)]
def qm (as:As) (rs:List (Option Int)) (e:Bool) (m s:Nat) (p:Nat):Bool:=decide (p∈(bL as rs e m s).row)
theorem CM (o:AsOk as m) (hs:s<m):Fin as (qm as rs true m s) rs:=fun h hh h1 h2 q=>by
 have W:=aO (rs:=rs) (e:=true) o hs
 have:=W.clo _ (of_decide_eq_true h1) h hh rfl (fm q)
 exact of_decide_eq_false h2 this
theorem zu (o:AsOk as m) (hs:s<m) (N:NN rs):Full as (qm as rs false m s) rs:=fun h hh h1 h2=>by
 have W:=aO (rs:=rs) (e:=false) o hs
 have h3:=W.clo _ (of_decide_eq_true h1) h hh rfl
 have h4:iT rs false h≠true:=fun q=>of_decide_eq_false h2 (h3 q)
 cases c:rm rs h with
 | none=>exact absurd (fm c) h4
 | some v=>
  have h5:=N h v c
  unfold iT at h4
  rw [c] at h4
  have:¬0<v:=fun q=>h4 (by simpa using q)
  congr 1
  omega
theorem sM (o:AsOk as m) (hs:s<m):qm as rs e m s s=true:=decide_eq_true (aO o hs).sr
inductive Lift (as:As) (m s t:Nat):List (Option Int)→List (Option Int)→Int→Prop
 | done {rs:List (Option Int)}:bM as rs false m s t= []→Lift as m s t rs rs 0
 | step {rs rs' :List (Option Int)} {a:Int}:bM as rs false m s t≠ []→Lift as m s t (push rs (bM as rs false m s t) (aM rs (bM as rs false m s t))) rs' a→Lift as m s t rs rs' (aM rs (bM as rs false m s t)+a)
theorem Lift.uniq {a' :Int} (A:Lift as m s t rs rs' a):Lift as m s t rs rs2 a'→rs' =rs2∧a=a' :=by
 induction A generalizing rs2 a' with
 | done h=>
  intro B
  cases B with
  | done _=>exact ⟨rfl,rfl⟩
  | step h2 _=>exact absurd h h2
 | step h _ ih=>
  intro B
  cases B with
  | done h2=>exact absurd h2 h
  | step _ B=>
   obtain ⟨h1,h2⟩:=ih B
   exact ⟨h1,by rw [h2]⟩
structure Good (as:As) (m s t:Nat) (rs:List (Option Int)):Prop where
 ok:AsOk as m
 len:rs.length=2*as.length
 nn:NN rs
 hs:s<m
 ht:t<m
 ne:s≠t
 fin:t∉(bL as rs true m s).row
structure Flown (as:As) (s t:Nat) (rs rs' :List (Option Int)) (f:Nat→Int) (a:Int):Prop where
 sh:Shift as.length rs rs' f
 nn:NN rs'
 dv:∀g,Rs.dv as f g=a*(g s - g t)
 a0:0≤a
theorem Flown.refl (N:NN rs):Flown as s t rs rs (fun _=>0) 0:=⟨.refl,N,fun g=>by rw [nW,Int.zero_mul],Int.le_refl 0⟩
theorem Flown.trans {b:Int} (A:Flown as s t rs rs' f a) (B:Flown as s t rs' rs2 f' b):Flown as s t rs rs2 (fun k=>f k+f' k) (a+b):=
 ⟨A.sh.trans B.sh,B.nn,fun g=>by rw [BB,A.dv,B.dv,Int.add_mul],by have:=A.a0; have:=B.a0; omega⟩
theorem wQ (sh:Shift as.length rs rs' f) (h:Rch as rs' true s p):Rch as rs true s p:=by
 induction h with
 | base=>exact .base
 | step _ h1 h2 ih=>exact .step ih h1 (fm ((sh.none h1).mp (ny h2)))
theorem Good.shift (G:Good as m s t rs) (A:Flown as s t rs rs' f a):Good as m s t rs' :=
 ⟨G.ok,A.sh.len.trans G.len,A.nn,G.hs,G.ht,G.ne,fun q=>G.fin ((aO G.ok G.hs).rch.mpr (wQ A.sh ((aO G.ok G.hs).rch.mp q)))⟩
theorem Flown.cut (A:Flown as s t rs rs' f a) (F:Fin as U rs) (h1:U s=true) (h2:U t=false):Rs.cut as U rs' =Rs.cut as U rs - a:=by
 rw [BF A.sh F,A.dv]
 unfold ind
 rw [h1,h2,if_pos rfl,if_neg (by decide)]
 show _=_ - a
 omega
theorem wV (P:Path as s w p) (h:∀h∈w,h<2*as.length∧rm rs h=none):Rch as rs true s p:=by
 induction P with
 | nil=>exact .base
 | snoc P ih=>
  rename_i w h'
  have h1:=h h' (List.mem_append_right _ (List.mem_singleton.mpr rfl))
  exact .step (ih fun h'' hh=>h h'' (List.mem_append_left _ hh)) h1.1 (fm h1.2)
theorem kN (G:Good as m s t rs) (W:WayOk as rs false s t w):Flown as s t rs (push rs w (aM rs w)) (flw w (aM rs w)) (aM rs w)∧0<aM rs w:=by
 have hw:∀h∈w,h<2*as.length:=fun h hh=>(W.all h hh).1
 have hf:∃h∈w,rm rs h≠none:=Classical.byContradiction fun q=>G.fin ((aO G.ok G.hs).rch.mpr (wV W.path fun h hh=>⟨hw h hh,Classical.byContradiction fun q2=>q ⟨h,hh,q2⟩⟩))
 obtain ⟨h0,hh0,e0⟩:=xW hf
 have hp:0<aM rs w:=Dt (W.all h0 hh0).2 e0
 have sh:=iA (x:=aM rs w) G.len hw
 refine ⟨⟨sh,fun i v e=>?_,fun g=>?_,Int.le_of_lt hp⟩,hp⟩
 ·by_cases c:i<2*as.length
  ·have e1:=sh.rm i c
   rw [e] at e1
   cases c2:rm rs i with
   | none=>rw [c2] at e1; cases e1
   | some u=>
    have h1:=zY G.len (Int.le_of_lt hp) hw c2 e
    have hn:w.Nodup:=by
     have:=(List.nodup_cons.mp W.nd).2
     exact List.Pairwise.of_map (hd as) (fun a b q r=>q (by rw [r])) this
    by_cases c3:i∈w
    ·have h2:=Aw c3 c2
     rw [List.Nodup.count hn,if_pos c3] at h1
     have h1:u - aM rs w*1≤v:=h1
     omega
    ·rw [List.count_eq_zero_of_not_mem c3] at h1
     have h1:u - aM rs w*0≤v:=h1
     have:=G.nn i u c2
     omega
  ·have:rm (push rs w (aM rs w)) i=none:=by
    unfold rm
    rw [List.getD_eq_getElem?_getD,List.getElem?_eq_none (by rw [sh.len,G.len]; omega)]; rfl
   rw [this] at e; cases e
 ·rw [dv_flw hw,W.path.sum]
theorem Lift.flown (L:Lift as m s t rs rs' a) (G:Good as m s t rs):∃f,Flown as s t rs rs' f a∧t∉(bL as rs' false m s).row:=by
 induction L with
 | done h=>exact ⟨_, .refl G.nn,(gy G.ok G.hs G.ne).mp h⟩
 | step h _ ih=>
  rename_i rs rs' a _
  have hm:t∈(bL as rs false m s).row:=Classical.byContradiction fun q=>h ((gy G.ok G.hs G.ne).mpr q)
  obtain ⟨A,_⟩:=kN G (jG G.ok G.hs hm)
  obtain ⟨f,B,q⟩:=ih (G.shift A)
  exact ⟨_,A.trans B,q⟩
noncomputable def todo (as:As) (m s:Nat) (rs:List (Option Int)):Nat:=(cut as (qm as rs true m s) rs).toNat
theorem zt (sh:Shift as.length rs rs' f) (o:AsOk as m) (hs:s<m):qm as rs' true m s=qm as rs true m s:=by
 funext p
 unfold qm
 refine decide_eq_decide.mpr ?_
 rw [(aO o hs).rch,(aO o hs).rch]
 refine ⟨wQ sh,fun h=>?_⟩
 induction h with
 | base=>exact .base
 | step _ h1 h2 ih=>exact .step ih h1 (fm ((sh.none h1).mpr (ny h2)))
theorem yT (G:Good as m s t rs) (A:Flown as s t rs rs' f a) (h:0<a):todo as m s rs' <todo as m s rs:=by
 unfold todo
 rw [zt A.sh G.ok G.hs]
 have h1:=A.cut (CM G.ok G.hs) (sM G.ok G.hs) (decide_eq_false G.fin)
 have h2:=cut_nn (as:=as) (U:=qm as rs true m s) A.nn
 omega
theorem pU (G:Good as m s t rs) (h:bM as rs false m s t≠ []):WayOk as rs false s t (bM as rs false m s t):=
 jG G.ok G.hs (Classical.byContradiction fun q=>h ((gy G.ok G.hs G.ne).mpr q))
end
end Rs

namespace Rs
def dl (p:Nat):Nat→Int:=fun q=>if q=p then 1 else 0
section
variable {as:As} {rs:List (Option Int)} {f f' g:Nat→Int} {n m k p:Nat}
theorem zp (F:Nat→Nat→Int) (n:Nat):∀m,sm m (fun p=>sm n fun k=>F p k)=sm n fun k=>sm m fun p=>F p k
 | 0=>by show (0:Int)=sm n fun _=>0; rw [ky]
 | m+1=>by
  show sm m (fun p=>sm n fun k=>F p k)+sm n (fun k=>F m k)=_
  rw [zp F n m,←wI]
  rfl
theorem lW (h:∀k,k<as.length→f k=f' k):dv as f g=dv as f' g:=aS fun k hk=>by rw [h k hk]
theorem dl_sum (g:Nat→Int) {q:Nat} (hq:q<m):sm m (fun p=>g p*dl p q)=g q:=by
 rw [aS (g:=fun p=>if p=q then g q else 0) fun p _=>?_,sL hq]
 unfold dl
 by_cases c:p=q
 ·subst c; rw [if_pos rfl,if_pos rfl,Int.mul_one]
 ·rw [if_neg c,if_neg fun e=>c e.symm,Int.mul_zero]
theorem dv_pts (o:AsOk as m):dv as f g=sm m fun p=>g p*dv as f (dl p):=by
 unfold dv
 rw [aS (n:=m) (g:=fun p=>sm as.length fun k=>f k*(g p*dl p (ta as k) - g p*dl p (he as k))) fun p _=>?_,zp]
 ·refine aS fun k hk=>?_
  rw [zo,pA,dl_sum g (o.at hk).1,dl_sum g (o.at hk).2]
 ·rw [←zo]
  refine aS fun k _=>?_
  rw [←Int.mul_assoc,Int.mul_comm (g p) (f k),Int.mul_assoc,Int.mul_sub]
theorem zF {rs2:List (Option Int)} {h:Nat} (c:h<rs.length):rm (rs++rs2) h=rm rs h:=by
 unfold rm
 rw [List.getD_eq_getElem?_getD,List.getD_eq_getElem?_getD,List.getElem?_append_left c]
theorem wM {rs2:List (Option Int)} {h:Nat}:rm (rs++rs2) (rs.length+h)=rm rs2 h:=by
 unfold rm
 rw [List.getD_eq_getElem?_getD,List.getD_eq_getElem?_getD,List.getElem?_append_right (by omega),show rs.length+h - rs.length=h by omega]
end
theorem AI {as:As} {m s t:Nat}:∀{rs:List (Option Int)},Good as m s t rs→∃rs' a,Lift as m s t rs rs' a:=by
 have:∀n rs,todo as m s rs<n→Good as m s t rs→∃rs' a,Lift as m s t rs rs' a:=by
  intro n
  induction n with
  | zero=>intro rs h; omega
  | succ n ih=>
   intro rs h G
   by_cases c:bM as rs false m s t= []
   ·exact ⟨_,_, .done c⟩
   ·obtain ⟨A,hp⟩:=kN G (pU G c)
    have hlt:=yT G A hp
    obtain ⟨rs',a,L⟩:=ih _ (by omega) (G.shift A)
    exact ⟨_,_, .step c L⟩
 exact fun {rs} G=>this _ rs (Nat.lt_succ_self _) G
structure Ro where
 t:Nat
 h:Nat
 l:Int
 u:Option Int
def roA (rows:List Ro):As:=rows.map fun r=>(r.t,r.h)
def roR (rows:List Ro):List (Option Int):=rows.flatMap fun r=> [r.u.map (· - r.l),some 0]
def ro0:Ro:=⟨0,0,0,none⟩
def lo (rows:List Ro) (k:Nat):Int:=(rows.getD k ro0).l
def up (rows:List Ro) (k:Nat):Option Int:=(rows.getD k ro0).u
structure RoOk (r:Ro) (m:Nat):Prop where
 t:r.t<m
 h:r.h<m
 n:r.t≠r.h
 b:∀x,r.u=some x→r.l≤x
def wan (rows:List Ro) (p:Nat):Int:=0 - dv (roA rows) (lo rows) (dl p)
section
variable {rows:List Ro} {rs' :List (Option Int)} {f g φ w:Nat→Int} {m k p j:Nat} {a x:Int}
theorem bw:(roA rows).length=rows.length:=by unfold roA; rw [List.length_map]
theorem sU (h:∀r∈rows,RoOk r m):AsOk (roA rows) m:=fun a ha=>by
 unfold roA at ha
 obtain ⟨r,hr,rfl⟩:=List.mem_map.mp ha
 exact ⟨(h r hr).t,(h r hr).h⟩
theorem eZ (hk:k<rows.length):rows.getD k ro0∈rows:=by
 rw [List.getD_eq_getElem?_getD,List.getElem?_eq_getElem hk]
 exact List.getElem_mem hk
theorem fg (hk:k<rows.length):ta (roA rows) k=(rows.getD k ro0).t∧he (roA rows) k=(rows.getD k ro0).h:=by
 unfold ta he roA
 rw [List.getD_eq_getElem?_getD,List.getElem?_map,List.getD_eq_getElem?_getD,List.getElem?_eq_getElem hk]
 exact ⟨rfl,rfl⟩
def exa (w:Nat→Int) (m p:Nat):As:=if 0<w p then [(m,p)] else if w p<0 then [(p,m+1)] else []
def exr (w:Nat→Int) (p:Nat):List (Option Int):=if 0<w p then [some (w p),some 0] else if w p<0 then [some (0 - w p),some 0] else []
def exA (w:Nat→Int) (m:Nat):Nat→As
 | 0=> []
 | j+1=>exA w m j++exa w m j
def exR (w:Nat→Int):Nat→List (Option Int)
 | 0=> []
 | j+1=>exR w j++exr w j
def capE (w:Nat→Int) (j k:Nat):Int:=(rm (exR w j) (2*k)).getD 0
def pos (w:Nat→Int) (j:Nat):Int:=sm j fun p=>if 0<w p then w p else 0
def neg (w:Nat→Int) (j:Nat):Int:=sm j fun p=>if w p<0 then w p else 0
def fullA (rows:List Ro) (m:Nat):As:=roA rows++exA (wan rows) m m
def fullR (rows:List Ro) (m:Nat):List (Option Int):=roR rows++exR (wan rows) m
def dueOf (rows:List Ro) (m:Nat):Int:=pos (wan rows) m
def capF (rows:List Ro) (m k:Nat):Int:=if k<rows.length then 0 else (rm (fullR rows m) (2*k)).getD 0
structure Circ (rows:List Ro) (m:Nat) (φ:Nat→Int):Prop where
 lo:∀k,k<rows.length→lo rows k≤φ k
 up:∀k,k<rows.length→∀x,up rows k=some x→φ k≤x
 ev:∀p,p<m→dv (roA rows) φ (dl p)=0
theorem Circ.all (C:Circ rows m φ) (o:AsOk (roA rows) m):dv (roA rows) φ g=0:=by
 rw [dv_pts o,aS (g:=fun _=>0) fun p hp=>by rw [C.ev p hp,Int.mul_zero],ky]
section
variable (o:∀r∈rows,RoOk r m) (A:Flown (fullA rows m) m (m+1) (fullR rows m) rs' f a)
include o A
end
end
end Rs

local macro_rules | `(tactic| walk_at "zs") => `(tactic| simp only [↓reduceIte, ↓Z.e_seq, ↓Z.e_asg, ↓Z.Bn, ↓Z.rG, ↓Z.rH, ↓Z.Br, ↓Z.vZ, ↓Z.Bw, ↓Z.e_ifS, ↓Z.e_ret, ↓Z.Bo, ↓Z.Bt, ↓Z.vX, ↓Z.e_c, ↓Z.e_var, ↓Z.e_z1, ↓Z.e_z2, ↓Z.e_via, ↓Z.e_a0, ↓Z.e_a, ↓Z.e_tup, ↓Z.e_lst, ↓Z.Bu, ↓Z.e_b, ↓Z.e_and, ↓Z.e_or, ↓Z.e_not, ↓Z.BA, ↓Z.e_orV, ↓Z.Bq, ↓Z.e_if, ↓Z.Bx, ↓Z.Bs, ↓Z.vY, ↓Z.e_no, ↓Z.e_pt, ↓Z.e_sl, Z.yC, Z.x_nx, Z.x_asg, Z.x_st, Z.x_if, Z.x_rt, Z.x_ret, Z.x_z2, Z.x_d, Z.x_via, Z.yB, Z.x_fix, Z.x_a, Z.x_tup, Z.x_lst, Z.x_ok, Z.x_not, Z.yz, Z.yD, Z.yx, Z.uC, Z.uD, Z.pR, Z.pS, Z.x_pt, Z.x_sl3, Z.x_sl2, Z.x_sl1, Z.wy, Z.se, Z.rZ, Z.ou, Z.uV, Z.uU, Z.uX, Z.uW, Z.yS, Z.qd, Z.qe, Z.mA, Z.pZ, Z.yP, Z.fix_d, Z.vR, Z.vS, Z.rB, Z.Bh, Z.kZ, Z.ju, Z.oB_bl, Z.BK, Z.kY, Z.oj, Z.rS, Z.lZ, Z.wc, Z.rQ, Z.iG, Z.ma, Z.lY, Z.rV, Z.rP, Z.jX, Z.iF, Z.rR, Z.w_add, Z.su, Z.so, Z.sq, Z.sk, Z.w_sub, Z.yK, Z.qM, Z.qL, Z.w_mod, Z.w_div, Z.w_pow, Z.w_cmp, Z.w_neg, Z.w_min, Z.CA, Z.pW, Z.w_eq, Z.w_in, Z.w_ix, Z.Cz, Z.qQ, Z.qS, Z.qR, Z.w_fld, Z.vG, Z.AN, Z.vD, Z.vE, Z.vF, Z.vI, Z.vC, Z.vH, Z.isT, Z.gz, Z.mv, Z.flv, ↓Z.e_lc, ↓Z.e_yes, ↓Z.e_itL, Z.gx, Z.mq, ↓Z.e_itS, Z.x_itS, Z.uE, Z.mj, Z.ko, Z.yO, Z.jW, Z.yL, Z.nu, Z.nv, Z.jO, Z.pX, Z.my, Z.w_sl, Z.uR, Z.uS, ↓Z.e_rg1, Z.x_rg1, ↓Z.e_for, Z.yw, ↓Z.e_zip, Z.yv, ↓Z.e_en, Z.pQ, Z.w_unp, Z.unp2, Z.unp3, Z.unp4, Z.unp5, Z.iY, Z.kz, ↓Z.e_m1s, Z.x_m1s, Z.uQ, Z.qP, ↓Z.e_m2, Z.x_m2, Z.x_isL, Z.qY, Z.x_isD, Z.rf, Z.x_rv, Z.w_b2, Z.oE, Z.oC, Z.w_b1, Z.si, Z.qN, Z.vx, Z.qO, ↓Z.e_sf, Z.x_sf1, Z.x_sf2, Z.x_sf3, ↓Z.e_mk, Z.x_mk, Z.x_sto, ↓Z.e_dp, Z.x_dp1, Z.x_dp2, Z.x_dp3, Z.x_dp4, Z.vW, Z.rF, Z.w_ne, Z.vq, Z.vu, Z.vV, Z.vO, Z.Sto.put_same, Z.mZ, Z.qJ, Z.dr, Z.sfn0, Z.sfn1, Z.sfn2, Z.sfn3, Z.sfn4, Z.sfn5, Z.sfn6, Z.sfn7, Z.sfn8, decide_false, decide_true, Z.B0, Z.D6, Z.BZ, List.set_cons_zero, List.set_cons_succ, List.getElem?_cons_zero, List.getElem?_cons_succ, List.cons_append, List.nil_append, List.append_nil, List.isEmpty_nil, List.isEmpty_cons, if_true, if_false, Bool.false_eq_true, true_implies, false_implies, implies_true, reduceCtorEq, Bool.not_true, Bool.not_false, eq_self, and_self, and_true, true_and, ↓Z.Bv, Z.yA, ↓Z.e_p, Z.x_p1, Z.x_p2, Z.x_p3, ↓Z.e_p0, ↓Z.Bl, Z.x_wk, ↓Z.e_par, Z.x_par, ↓Z.Bp, Z.yy, ↓Z.Bz, Z.kh, Z.sC, ↓Z.By, Z.x_as1, Z.x_as2, Z.BX, Z.BW, Z.x_as6, Z.zw, Z.zv, Z.yJ, Z.qz, ↓Z.e_rvI, Z.x_rvI, ↓Z.e_itT, Z.x_itT, Z.oF, Z.yH, Z.qj, Z.qk, Z.vt, Z.vp, Z.w_max, Z.Bk, ↓Z.rL, ↓Z.x_r0, ↓Z.rK, ↓Z.x_r1, ↓Z.x_r2, ↓Z.wz, Z.Wp_ex, ↓Z.rT, ↓Z.w_xf, ↓Z.w_isX, ↓Z.qW, ↓Z.e_rg2, Z.x_rg2, Z.uG, Z.pV, Z.w_str, ↓Z.Bm, Z.uJ, Z.qK, ↓Z.rJ, ↓Z.x_rL1, ↓Z.x_rL2, Z.pY, ↓Z.e_pV, Z.x_pVi, Z.x_pVs, Z.mw, Z.qX, Z.rO, Z.yM, Z.nz, Z.nA, Z.yN, Z.nH, Z.nL, Z.nI, Z.nK, Z.nG, Z.nJ, Z.nM, Z.uH, Z.w_neU, Z.jL, *])
set_option maxHeartbeats 4000000
namespace Rs
def foR (rows:List Ro) (φ:Nat→Int) (n:Nat):List (Option Int):=(List.range n).flatMap fun k=> [(up rows k).map (· - φ k),some (φ k - lo rows k)]
structure FlOk (rows:List Ro) (φ:Nat→Int):Prop where
 lo:∀k,k<rows.length→lo rows k≤φ k
 up:∀k,k<rows.length→∀x,up rows k=some x→φ k≤x
section
variable {rows:List Ro} {rs rs' :List (Option Int)} {f g φ:Nat→Int} {n m k p s t:Nat} {a x:Int} {U:Nat→Bool}
theorem rA:foR rows φ (n+1)=foR rows φ n++ [(up rows n).map (· - φ n),some (φ n - lo rows n)]:=by
 unfold foR
 rw [List.range_succ,List.flatMap_append]
 rfl
theorem nT:(foR rows φ n).length=2*n:=by
 induction n with
 | zero=>rfl
 | succ n ih=>rw [rA,List.length_append,ih]; show 2*n+2=_; omega
theorem lJ (hk:k<n):rm (foR rows φ n) (2*k)=(up rows k).map (· - φ k)∧rm (foR rows φ n) (2*k+1)=some (φ k - lo rows k):=by
 induction n with
 | zero=>omega
 | succ n ih=>
  rw [rA]
  by_cases c:k<n
  ·rw [zF (by rw [nT]; omega),zF (by rw [nT]; omega)]
   exact ih c
  ·obtain rfl:k=n:=by omega
   have e1:=wM (rs:=foR rows φ k) (rs2:= [(up rows k).map (· - φ k),some (φ k - lo rows k)]) (h:=0)
   have e2:=wM (rs:=foR rows φ k) (rs2:= [(up rows k).map (· - φ k),some (φ k - lo rows k)]) (h:=1)
   rw [nT] at e1 e2
   exact ⟨e1,e2⟩
theorem foR_nn (F:FlOk rows φ):NN (foR rows φ rows.length):=fun h v e=>by
 by_cases c:h<2*rows.length
 ·have hk:h / 2<rows.length:=by omega
  obtain ⟨e1,e2⟩:=lJ (φ:=φ) hk
  rcases Nat.mod_two_eq_zero_or_one h with ch | ch
  ·rw [show h=2*(h / 2) by omega,e1] at e
   cases cu:up rows (h / 2) with
   | none=>rw [cu] at e; cases e
   | some x=>
    rw [cu] at e
    cases e
    have:=F.up _ hk x cu
    show 0≤x - _
    omega
  ·rw [show h=2*(h / 2)+1 by omega,e2] at e
   cases e
   have:=F.lo _ hk
   omega
 ·unfold rm at e
  rw [List.getD_eq_getElem?_getD,List.getElem?_eq_none (by rw [nT]; omega)] at e
  cases e
theorem xw (o:∀r∈rows,RoOk r m) (F:FlOk rows φ) (hs:s<m) (ht:t<m) (hn:s≠t) (he:t∉(bL (roA rows) (foR rows φ rows.length) true m s).row):Good (roA rows) m s t (foR rows φ rows.length):=
 ⟨sU o,by rw [nT,bw],foR_nn F,hs,ht,hn,he⟩
section
variable (A:Flown (roA rows) s t (foR rows φ rows.length) rs' f a)
include A
theorem kb (hk:k<rows.length):rm rs' (2*k+1)=some (φ k+f k - lo rows k):=by
 rw [A.sh.odd (by rw [bw]; exact hk),(lJ hk).2]
 show some (φ k - lo rows k+f k)=_
 congr 1
 omega
theorem sT (hk:k<rows.length):rm rs' (2*k)=(up rows k).map (· - (φ k+f k)):=by
 rw [A.sh.even (by rw [bw]; exact hk),(lJ hk).1,Option.map_map]
 congr 1
 funext v
 show v - φ k+(0 - f k)=_
 omega
theorem flow_ok:FlOk rows fun k=>φ k+f k:=⟨fun k hk=>by
 have:=A.nn _ _ (kb A hk)
 omega,fun k hk x hx=>by
 have h:=sT A hk
 rw [hx] at h
 have:=A.nn _ _ h
 show φ k+f k≤x
 have:0≤x - (φ k+f k):=this
 omega⟩
theorem flow_dv:dv (roA rows) (fun k=>φ k+f k) g=dv (roA rows) φ g+a*(g s - g t):=by rw [BB,A.dv]
end
def outM (rows:List Ro) (U:Nat→Bool):Int:=sm rows.length fun k=>if U (rows.getD k ro0).t=true then (if U (rows.getD k ro0).h=true then 0 else (up rows k).getD 0) else 0
def inL (rows:List Ro) (U:Nat→Bool):Int:=sm rows.length fun k=>if U (rows.getD k ro0).h=true then (if U (rows.getD k ro0).t=true then 0 else lo rows k) else 0
theorem Bb (F:Full (roA rows) U (foR rows φ rows.length)):(∀k,k<rows.length→U (rows.getD k ro0).t=true→U (rows.getD k ro0).h=false→up rows k=some (φ k))∧dv (roA rows) φ (ind U)=outM rows U - inL rows U:=by
 have e1:∀k,k<rows.length→U (rows.getD k ro0).t=true→U (rows.getD k ro0).h=false→up rows k=some (φ k):=fun k hk h1 h2=>by
  have h:=F (2*k) (by rw [bw]; omega) (by rw [tl_even.1,(fg hk).1]; exact h1) (by rw [tl_even.2,(fg hk).2]; exact h2)
  rw [(lJ hk).1] at h
  cases cu:up rows k with
  | none=>rw [cu] at h; cases h
  | some x=>
   rw [cu] at h
   have h:some (x - φ k)=some 0:=h
   injection h with h
   congr 1
   omega
 have e2:∀k,k<rows.length→U (rows.getD k ro0).h=true→U (rows.getD k ro0).t=false→φ k=lo rows k:=fun k hk h1 h2=>by
  have h:=F (2*k+1) (by rw [bw]; omega) (by rw [tl_odd.1,(fg hk).2]; exact h1) (by rw [tl_odd.2,(fg hk).1]; exact h2)
  rw [(lJ hk).2] at h
  injection h with h
  omega
 refine ⟨e1, ?_⟩
 unfold dv outM inL
 rw [bw,←pA]
 refine aS fun k hk=>?_
 rw [(fg hk).1,(fg hk).2]
 have h1:=e1 k hk
 have h2:=e2 k hk
 unfold ind
 cases c1:U (rows.getD k ro0).t<;> cases c2:U (rows.getD k ro0).h
 ·simp
 ·rw [h2 c2 c1]; simp
 ·rw [h1 c1 c2]; simp
 ·simp
theorem dv_two (o:AsOk as m) (hs:s<m) (h:∀p,p<m→p≠s→p≠t→dv as φ (dl p)=0) (u1:U s=true) (u2:U t=false):dv as φ (ind U)=dv as φ (dl s):=by
 rw [dv_pts o,aS (g:=fun p=>if p=s then dv as φ (dl s) else 0) fun p hp=>?_,sL hs]
 by_cases c1:p=s
 ·subst c1
  rw [if_pos rfl]
  unfold ind
  rw [if_pos u1,Int.one_mul]
 ·rw [if_neg c1]
  by_cases c2:p=t
  ·subst c2
   unfold ind
   rw [u2]
   simp
  ·rw [h p hp c1 c2,Int.mul_zero]
end
end Rs

local macro_rules | `(tactic| simp! only [$ts,*]) => `(tactic| simp only [↓reduceIte, ↓Z.e_seq, ↓Z.e_asg, ↓Z.Bn, ↓Z.rG, ↓Z.rH, ↓Z.Br, ↓Z.vZ, ↓Z.Bw, ↓Z.e_ifS, ↓Z.e_ret, ↓Z.Bo, ↓Z.Bt, ↓Z.vX, ↓Z.e_c, ↓Z.e_var, ↓Z.e_z1, ↓Z.e_z2, ↓Z.e_via, ↓Z.e_a0, ↓Z.e_a, ↓Z.e_tup, ↓Z.e_lst, ↓Z.Bu, ↓Z.e_b, ↓Z.e_and, ↓Z.e_or, ↓Z.e_not, ↓Z.BA, ↓Z.e_orV, ↓Z.Bq, ↓Z.e_if, ↓Z.Bx, ↓Z.Bs, ↓Z.vY, ↓Z.e_no, ↓Z.e_pt, ↓Z.e_sl, Z.yC, Z.x_nx, Z.x_asg, Z.x_st, Z.x_if, Z.x_rt, Z.x_ret, Z.x_z2, Z.x_d, Z.x_via, Z.yB, Z.x_fix, Z.x_a, Z.x_tup, Z.x_lst, Z.x_ok, Z.x_not, Z.yz, Z.yD, Z.yx, Z.uC, Z.uD, Z.pR, Z.pS, Z.x_pt, Z.x_sl3, Z.x_sl2, Z.x_sl1, Z.wy, Z.se, Z.rZ, Z.ou, Z.uV, Z.uU, Z.uX, Z.uW, Z.yS, Z.qd, Z.qe, Z.mA, Z.pZ, Z.yP, Z.fix_d, Z.vR, Z.vS, Z.rB, Z.Bh, Z.kZ, Z.ju, Z.oB_bl, Z.BK, Z.kY, Z.oj, Z.rS, Z.lZ, Z.wc, Z.rQ, Z.iG, Z.ma, Z.lY, Z.rV, Z.rP, Z.jX, Z.iF, Z.rR, Z.w_add, Z.su, Z.so, Z.sq, Z.sk, Z.w_sub, Z.yK, Z.qM, Z.qL, Z.w_mod, Z.w_div, Z.w_pow, Z.w_cmp, Z.w_neg, Z.w_min, Z.CA, Z.pW, Z.w_eq, Z.w_in, Z.w_ix, Z.Cz, Z.qQ, Z.qS, Z.qR, Z.w_fld, Z.vG, Z.AN, Z.vD, Z.vE, Z.vF, Z.vI, Z.vC, Z.vH, Z.isT, Z.gz, Z.mv, Z.flv, ↓Z.e_lc, ↓Z.e_yes, ↓Z.e_itL, Z.gx, Z.mq, ↓Z.e_itS, Z.x_itS, Z.uE, Z.mj, Z.ko, Z.yO, Z.jW, Z.yL, Z.nu, Z.nv, Z.jO, Z.pX, Z.my, Z.w_sl, Z.uR, Z.uS, ↓Z.e_rg1, Z.x_rg1, ↓Z.e_for, Z.yw, ↓Z.e_zip, Z.yv, ↓Z.e_en, Z.pQ, Z.w_unp, Z.unp2, Z.unp3, Z.unp4, Z.unp5, Z.iY, Z.kz, ↓Z.e_m1s, Z.x_m1s, Z.uQ, Z.qP, ↓Z.e_m2, Z.x_m2, Z.x_isL, Z.qY, Z.x_isD, Z.rf, Z.x_rv, Z.w_b2, Z.oE, Z.oC, Z.w_b1, Z.si, Z.qN, Z.vx, Z.qO, ↓Z.e_sf, Z.x_sf1, Z.x_sf2, Z.x_sf3, ↓Z.e_mk, Z.x_mk, Z.x_sto, ↓Z.e_dp, Z.x_dp1, Z.x_dp2, Z.x_dp3, Z.x_dp4, Z.vW, Z.rF, Z.w_ne, Z.vq, Z.vu, Z.vV, Z.vO, Z.Sto.put_same, Z.mZ, Z.qJ, Z.dr, Z.sfn0, Z.sfn1, Z.sfn2, Z.sfn3, Z.sfn4, Z.sfn5, Z.sfn6, Z.sfn7, Z.sfn8, decide_false, decide_true, Z.B0, Z.D6, Z.BZ, List.set_cons_zero, List.set_cons_succ, List.getElem?_cons_zero, List.getElem?_cons_succ, List.cons_append, List.nil_append, List.append_nil, List.isEmpty_nil, List.isEmpty_cons, if_true, if_false, Bool.false_eq_true, true_implies, false_implies, implies_true, reduceCtorEq, Bool.not_true, Bool.not_false, eq_self, and_self, and_true, true_and, ↓Z.Bv, Z.yA, ↓Z.e_p, Z.x_p1, Z.x_p2, Z.x_p3, ↓Z.e_p0, ↓Z.Bl, Z.x_wk, ↓Z.e_par, Z.x_par, ↓Z.Bp, Z.yy, ↓Z.Bz, Z.kh, Z.sC, ↓Z.By, Z.x_as1, Z.x_as2, Z.BX, Z.BW, Z.x_as6, Z.zw, Z.zv, Z.yJ, Z.qz, ↓Z.e_rvI, Z.x_rvI, ↓Z.e_itT, Z.x_itT, Z.oF, Z.yH, Z.qj, Z.qk, Z.vt, Z.vp, Z.w_max, Z.Bk, ↓Z.rL, ↓Z.x_r0, ↓Z.rK, ↓Z.x_r1, ↓Z.x_r2, ↓Z.wz, Z.Wp_ex, ↓Z.rT, ↓Z.w_xf, ↓Z.w_isX, ↓Z.qW, ↓Z.e_rg2, Z.x_rg2, Z.uG, Z.pV, Z.w_str, ↓Z.Bm, Z.uJ, Z.qK, ↓Z.rJ, ↓Z.x_rL1, ↓Z.x_rL2, Z.pY, ↓Z.e_pV, Z.x_pVi, Z.x_pVs, Z.mw, Z.qX, Z.rO, Z.yM, Z.nz, Z.nA, Z.yN, Z.nH, Z.nL, Z.nI, Z.nK, Z.nG, Z.nJ, Z.nM, Z.uH, Z.w_neU, Z.jL, $ts,*])
set_option maxHeartbeats 4000000
namespace T
open PySem PySem.Spec PyProof.Rows L2 M Z
open Classical
open Rs (As tw hd tl rm iT BS hst pst bfs starts jq)
abbrev nD (k:Nat):D:= .int (k:Int)
abbrev bD (b:Bool):D:= .bl b
def oD:Option Nat→D
 | none=> .non
 | some k=> .int (k:Int)
def rD:Option Int→D
 | none=> .non
 | some x=> .int x
theorem xor1 (h:Nat):Builtin.bitXor (h:Int) 1=(tw h:Nat):=by
 have e:Builtin.bitXor (h:Int) 1=((h ||| 1:Nat):Int) - ((h &&& 1:Nat):Int):=by
  unfold Builtin.bitXor Builtin.bitOr Builtin.bitNot Builtin.bitAnd
  rw [decide_eq_false (p:=0≤ -(h:Int) - 1) (by omega),decide_eq_false (p:=(0:Int)≤ -1 - 1) (by omega),decide_eq_true (p:=0≤(h:Int)) (by omega),decide_eq_true (p:=(0:Int)≤1) (by omega)]
  show -(-((((-(-(h:Int) - 1) - 1).toNat ||| (-(-1 - 1) - 1:Int).toNat:Nat)):Int) - 1) - 1 - _=_
  rw [show -(-(h:Int) - 1) - 1=h by omega]
  show -(-(((h:Int).toNat ||| 1:Nat):Int) - 1) - 1 - (((h:Int).toNat &&& 1:Nat):Int)=_
  rw [Int.toNat_natCast]
  omega
 rw [e,Nat.and_one_is_mod]
 have h1:(h ||| 1) / 2=h / 2:=by rw [Nat.or_div_two]; simp
 have h2:(h ||| 1)%2=1:=by rw [Nat.or_mod_two_eq_one]; simp
 unfold tw
 split<;> omega
theorem w_xor {m n:Int} {s:SD}:oXor (.d (.int m)) (.d (.int n)) s= .ok (.d (.int (Builtin.bitXor m n))) s:=rfl
theorem atR {n h:Nat} {f:Nat→D} (c:h<n):atI ((List.range n).map f) (h:Int)=some (f h):=by
 rw [sj]
 unfold atI ixN
 rw [if_pos (by omega),if_pos (by rw [List.length_range]; omega)]
 show ((List.range n)[(h:Int).toNat]?).map f=_
 rw [Int.toNat_natCast,List.getElem?_range c]
 rfl
theorem atL {α:Type} {l:List α} {h:Nat} {a:α} {f:α→D} (c:l[h]? =some a):atI (l.map f) (h:Int)=some (f a):=by
 have hl:=(List.getElem?_eq_some_iff.mp c).1
 rw [sj]
 unfold atI ixN
 rw [if_pos (by omega),if_pos (by omega)]
 show (l[(h:Int).toNat]?).map f=_
 rw [Int.toNat_natCast,c]
 rfl
theorem atRm {rs:List (Option Int)} {h:Nat} (c:h<rs.length):atI (rs.map rD) (h:Int)=some (rD (rm rs h)):=by
 refine atL ?_
 unfold rm
 rw [List.getD_eq_getElem?_getD,List.getElem?_eq_getElem c]
 rfl
section
variable {a b:Vl} {s:SD} {x y:D} {n h:Nat} {f:Nat→D} {fo fi:SD→R Vl}
theorem ixR (c:h<n):ixK s (some (.lst ((List.range n).map f))) (some (.int (h:Int)))= .ok (.d (f h)) s:=bj (atR c)
theorem ixL {α:Type} {l:List α} {h:Nat} {a:α} {f:α→D} (c:l[h]? =some a):ixK s (some (.lst (l.map f))) (some (.int (h:Int)))= .ok (.d (f a)) s:=bj (atL c)
theorem ixRm {rs:List (Option Int)} (c:h<rs.length):ixK s (some (.lst (rs.map rD))) (some (.int (h:Int)))= .ok (.d (rD (rm rs h))) s:=bj (atRm c)
def sub3K (x:D) (o:Vl):Vl→SD→R Unit:=fun i s=>stO (fR x) o i s
def sub2K (fi:SD→R Vl) (x:D):Vl→SD→R Unit:=fun o s=>(fi s).bind (sub3K x o)
def sub1K (fo fi:SD→R Vl):D→SD→R Unit:=fun x s=>(fo s).bind (sub2K fi x)
theorem oZ:sy fo fi a s=(s.fix a).bind (sub1K fo fi):=rfl
theorem iP:sub1K fo fi x s=(fo s).bind (sub2K fi x):=rfl
theorem iO:sub2K fi x a s=(fi s).bind (sub3K x a):=rfl
theorem iN:sub3K x a b s=stO (fR x) a b s:=rfl
theorem qi {ds:List D} (c:h<ds.length):yr (fR x) a (.int (h:Int)) s (some (.lst ds))=s.mod (.lst (ds.set h x)) a:=by
 have e:fR x (.lst ds) (.int (h:Int))=some (.lst (ds.set h x)):=by
  show (match ixN ds.length (h:Int) with | some j=>some (D.lst (ds.set j x)) | none=>none)=_
  unfold ixN
  rw [if_pos (by omega),if_pos (by omega),Int.toNat_natCast]
 show (match fR x (.lst ds) (.int (h:Int)) with | some y=>s.mod y a | none=>R.bad)=_
 rw [e]
theorem setR {f:Nat→D} (h:Nat) (x:D):((List.range n).map f).set h x=(List.range n).map (fun q=>if q=h then x else f q):=by
 refine List.ext_getElem (by simp) fun i h1 h2=>?_
 rw [List.getElem_set]
 simp only [List.getElem_map,List.getElem_range]
 by_cases c:h=i
 ·subst c; rw [if_pos rfl]
 ·rw [if_neg c,if_neg fun q=>c q.symm]
theorem qh {f:Nat→D} (c:h<n):yr (fR x) a (.int (h:Int)) s (some (.lst ((List.range n).map f)))=s.mod (.lst ((List.range n).map (fun q=>if q=h then x else f q))) a:=by
 rw [qi (by simpa using c),setR]
theorem oU {r:Option Int} {neg:Bool}:gu neg (.d (rD r)) (.d .non) s= .ok (.d (.bl (if neg then !r.isNone else r.isNone))) s:=by
 cases r<;> cases neg<;> rfl
theorem isN_o {r:Option Nat} {neg:Bool}:gu neg (.d (oD r)) (.d .non) s= .ok (.d (.bl (if neg then !r.isNone else r.isNone))) s:=by
 cases r<;> cases neg<;> rfl
end
abbrev fj (r m:Nat):List (Str×D):= [("many", .int (m:Int)),("heads", .cell (r+1)),("rooms", .cell (r+2)),("starts", .cell (r+3+m))]
structure RestAt (S:Sto) (r m:Nat) (as:As) (rs:List (Option Int)):Prop where
 o:S.get r=some (.obj "Rest" (fj r m))
 h:S.get (r+1)=some (.lst ((jq as).map nD))
 k:S.get (r+2)=some (.lst (rs.map rD))
 s:S.get (r+3+m)=some (.lst ((List.range m).map fun p=> .cell (r+3+p)))
 p:∀p,p<m→S.get (r+3+p)=some (.lst ((starts as p).map nD))
 nx:r+4+m≤S.nx
 len:rs.length=2*as.length
 ok:Rs.AsOk as m
section
variable {a b:Vl} {s:SD} {S:Sto} {sl:List (Option Vl)} {x:D} {n h m r p q:Nat} {as:As} {rs:List (Option Int)} {e:Bool}
theorem rf_many:dI (fj r m) "many" =some (.int (m:Int)):=rfl
theorem iz:dI (fj r m) "heads" =some (.cell (r+1)):=rfl
theorem cX:dI (fj r m) "rooms" =some (.cell (r+2)):=rfl
theorem sV:dI (fj r m) "starts" =some (.cell (r+3+m)):=rfl
theorem vz:dI (fj r m) "lets" =none:=rfl
theorem gY:dI (fj r m) "walked" =none:=rfl
theorem jN:dI (fj r m) "way_to" =none:=rfl
theorem AF:dI (fj r m) "change" =none:=rfl
theorem headsL {h:Nat} (c:h<2*as.length):∀s:SD,ixK s (some (.lst ((jq as).map nD))) (some (.int (h:Int)))= .ok (.d (nD (hd as h))) s:=fun s=>by
 unfold jq
 rw [List.map_map]
 exact ixR c
theorem roomR (R:RestAt S r m as rs) (c:h<2*as.length):∀s:SD,ixK s (some (.lst (rs.map rD))) (some (.int (h:Int)))= .ok (.d (rD (rm rs h))) s:=fun s=>ixRm (by rw [R.len]; exact c)
theorem g_lets (R:RestAt S r m as rs) (c:h<2*as.length):goF fD [.cell r, .int (h:Int), .bl e] ⟨sl,S⟩= .ok (.d (.bl (iT rs e h))) ⟨sl,S⟩:=by
 refine dY ?_
 show Wp (jz ⟨[some (.d (.cell r)),some (.d (.int (h:Int))),some (.d (.bl e)),none],S⟩) _ _
 unfold jz
 have h1:=R.o
 have h2:=R.k
 have h3:=roomR R c
 unfold iT
 cases c2:rm rs h with
 | none=>
  rw [c2] at h3
  simp! only [au cX,h1,h2,h3,rD]
 | some v=>
  rw [c2] at h3
  simp! only [au cX,h1,h2,h3,rD]
  cases e<;> simp! only []<;> rfl
def lQ (m:Nat) (b:BS):List D:=(List.range m).map fun p=>oD (b.came p)
def sN (m:Nat) (b:BS):List D:=(List.range m).map fun p=>D.bl (decide (p∈b.row))
noncomputable def wkI:SD→R Fl:=(aj (ax (z2 oIx (z1 (bg ["Rest"] "heads") (aa 0)) (aa 7)) (zSt 8))
 (bP (jF (uB (zB (z2 oIx (aa 4) (aa 8)))) (zB (aD "Rest" "lets" fD [] (aa 0) (zA (aa 7) (zA (aa 2) zA0))))) (aj (ax (zC (.bl true)) (sy (aa 4) (aa 8)))
 (aj (ax (aa 7) (sy (aa 3) (aa 8)))
 (aN (zM2 isL (oB2 bf) (aa 5) (aZ (aa 8)))))) az))
noncomputable def wkB:SD→R Fl:=(aj (eJ (gp (aZ (z2 oIx (z1 (bg ["Rest"] "starts") (aa 0)) (z2 oIx (aa 5) (aa 6))))) (zSt 7) wkI)
 (zAug 6 (fun a b=>a+b) (zC (.int 1))))
theorem wk_eq:fW=(aj (ax (z2 oQ (cM (zA (zC .non) zA0)) (z1 (bg ["Rest"] "many") (aa 0))) (zSt 3))
 (aj (ax (z2 oQ (cM (zA (zC (.bl false)) zA0)) (z1 (bg ["Rest"] "many") (aa 0))) (zSt 4))
 (aj (ax (zC (.bl true)) (sy (aa 4) (aa 1)))
 (aj (ax (cM (zA (aa 1) zA0)) (zSt 5))
 (aj (ax (zC (.int 0)) (zSt 6))
 (aj (zWh (zB (z2 oLt (aa 6) (z1 jn (aa 5)))) wkB)
 (bo (aa 3)))))))):=rfl
abbrev wkS (r:Nat) (v1:Option Vl) (e:Bool) (m:Nat) (b:BS) (i:Int) (v7 v8:Option Vl) (S:Sto):SD:=
 ⟨[some (.d (.cell r)),v1,some (.d (.bl e)),some (.own (.lst (lQ m b))),some (.own (.lst (sN m b))),some (.own (.lst (b.row.map nD))),some (.d (.int i)),v7,v8],S⟩
theorem DV {b:BS} {k:Nat}:(List.range m).map (fun q=>if q=p then D.int (k:Int) else oD (b.came q))=lQ m ⟨b.row++ [p],fun q=>if q=p then some k else b.came q⟩:=by
 unfold lQ
 refine List.map_congr_left fun q _=>?_
 show _=oD (if q=p then some k else b.came q)
 split<;> rfl
theorem CL {b:BS} {f:Nat→Option Nat}:(List.range m).map (fun q=>if q=p then D.bl true else D.bl (decide (q∈b.row)))=sN m ⟨b.row++ [p],f⟩:=by
 unfold sN
 refine List.map_congr_left fun q _=>?_
 show _=D.bl (decide (q∈b.row++ [p]))
 by_cases c:q=p
 ·rw [if_pos c,decide_eq_true]
  rw [c]; exact List.mem_append_right _ (List.mem_singleton.mpr rfl)
 ·rw [if_neg c]
  congr 1
  refine decide_eq_decide.mpr ?_
  simp [c]
theorem wk_turn {v1 v8:Option Vl} {b:BS} {i:Int} (R:RestAt S r m as rs) (c:h<2*as.length) (hz:b.row.length<sizeLine):
  Wp (wkI (wkS r v1 e m b i (some (.d (.int (h:Int)))) v8 S)) (fun fl s' =>fl= .nx∧∃v7 v8,s' =wkS r v1 e m (hst as rs e b h) i v7 v8 S) XF:=by
 have h1:=R.o
 have h2:=R.h
 have h3:=headsL (as:=as) c
 have hm:=R.ok.hd c
 have h4:∀s:SD,ixK s (some (.lst (sN m b))) (some (.int ((hd as h:Nat):Int)))= .ok (.d (.bl (decide (hd as h∈b.row)))) s:=fun s=>ixR hm
 have h5:=fun sl:List (Option Vl)=>g_lets (sl:=sl) (e:=e) R c
 have h6:=fun (a:Vl) (s:SD) (g:Nat→Option Nat)=>(qh (x:= .bl true) (a:=a) (s:=s) (f:=fun p=>D.bl (decide (p∈b.row))) hm).trans (by rw [CL (f:=g)])
 have h7:=fun (a:Vl) (s:SD)=>(qh (x:= .int (h:Int)) (a:=a) (s:=s) (f:=fun p=>oD (b.came p)) hm).trans (by rw [DV (k:=h)])
 have h6:∀a s,yr (fR (.bl true)) a (.int ((hd as h:Nat):Int)) s (some (.lst (sN m b)))=s.mod (.lst (sN m ⟨b.row++ [hd as h],fun q=>if q=hd as h then some h else b.came q⟩)) a:=fun a s=>h6 a s _
 have h7:∀a s,yr (fR (.int (h:Int))) a (.int ((hd as h:Nat):Int)) s (some (.lst (lQ m b)))=s.mod (.lst (lQ m ⟨b.row++ [hd as h],fun q=>if q=hd as h then some h else b.came q⟩)) a:=h7
 have sz:((b.row.map nD).length<sizeLine)=True:=eq_true (by rw [List.length_map]; exact hz)
 unfold wkI
 by_cases c1:hd as h∈b.row
 ·have e0:hst as rs e b h=b:=by unfold hst; rw [if_neg fun q=>q.1 c1]
  rw [e0]
  simp! only [au iz,au cX,ak vz,h1,h2,h3,h4,h5,c1]
  exact ⟨_,_,rfl⟩
 ·cases c2:iT rs e h with
  | false=>
   have e0:hst as rs e b h=b:=by unfold hst; rw [if_neg fun q=>by rw [c2] at q; exact absurd q.2 (by decide)]
   rw [e0]
   simp! only [au iz,au cX,ak vz,h1,h2,h3,h4,h5,c1,c2]
   exact ⟨_,_,rfl⟩
  | true=>
   have e0:hst as rs e b h=⟨b.row++ [hd as h],fun q=>if q=hd as h then some h else b.came q⟩:=by unfold hst; rw [if_pos ⟨c1,c2⟩]
   rw [e0]
   simp! only [au iz,au cX,ak vz,h1,h2,h3,h4,h5,c1,c2,↓oZ,iP,iO,iN,h6,h7,sz]
   exact ⟨some (.d (.int (h:Int))),some (.d (nD (hd as h))),by unfold wkS; rw [List.map_append]; rfl⟩
theorem sG {α β:Type} {f:β→α→β} {l:List α} {b:β} {j:Nat} {a:α} (h:l[j]? =some a):(l.take (j+1)).foldl f b=f ((l.take j).foldl f b) a:=by
 rw [List.take_add_one,h,List.foldl_append]
 rfl
theorem wk_body {v1 v7 v8:Option Vl} {b:BS} {i src:Nat} (R:RestAt S r m as rs) (B:Rs.BOk as rs e m src i b) (hp:b.row[i]? =some p) (hz:m<sizeLine):
  Wp (wkB (wkS r v1 e m b (i:Int) v7 v8 S)) (fun fl s' =>fl= .nx∧∃v7 v8,s' =wkS r v1 e m (pst as rs e b p) ((i+1:Nat):Int) v7 v8 S) XF:=by
 have h1:=R.o
 have h2:=R.s
 have hm:p∈b.row:=List.mem_of_getElem? hp
 have hpm:=B.lt p hm
 have h3:∀s:SD,ixK s (some (.lst (b.row.map nD))) (some (.int (i:Int)))= .ok (.d (.int (p:Int))) s:=fun s=>ixL (f:=nD) hp
 have h4:∀s:SD,ixK s (some (.lst ((List.range m).map fun p=>D.cell (r+3+p)))) (some (.int (p:Int)))= .ok (.d (.cell (r+3+p))) s:=fun s=>ixR (f:=fun p=>D.cell (r+3+p)) hpm
 have h5:∀sl:List (Option Vl),B6 (.d (.cell (r+3+p))) ⟨sl,S⟩= .ok ⟨[.d (.cell (r+3+p))],fun s=>s.st.get (r+3+p)=some (.lst ((starts as p).map nD)),(starts as p).map nD⟩ ⟨sl,S⟩:=fun sl=>qV (s:=⟨sl,S⟩) (R.p p hpm)
 have all:∀h∈starts as p,h<2*as.length∧tl as h=p:=fun h hh=>Rs.mem_starts.mp hh
 unfold wkB
 simp! only [au sV,h1,h2,h3,h4,h5]
 rw [ae]
 refine iM (fun j s=>∃v7 v8,s=wkS r v1 e m (((starts as p).take j).foldl (hst as rs e) b) (i:Int) v7 v8 S) Nl.d1 (fun _ s ⟨_,_,e⟩=>by rw [e]; exact R.p p hpm) ⟨v7,v8,rfl⟩ (fun j x s ex hI=>?_) (fun s hI=>?_)
 ·obtain ⟨u7,u8,rfl⟩:=hI
  have ex:((starts as p).map nD)[j]? =some x:=ex
  rw [List.getElem?_map] at ex
  cases eh:(starts as p)[j]? with
  | none=>rw [eh] at ex; cases ex
  | some h=>
   rw [eh] at ex
   cases ex
   obtain ⟨B1,_,_⟩:=Rs.vP (hs:=(starts as p).take j) R.ok B hm fun h hh=>all h (List.mem_of_mem_take hh)
   have hh:=all h (List.mem_of_getElem? eh)
   simp! only []
   refine (wk_turn (v1:=v1) (v8:=u8) (e:=e) (i:=(i:Int)) R hh.1 (Nat.lt_of_le_of_lt B1.le hz)).mono (fun fl s' hh=>?_) fun _ _ _ h=>h.elim
   obtain ⟨rfl,w7,w8,rfl⟩:=hh
   exact ⟨w7,w8,by rw [sG eh]⟩
 ·obtain ⟨u7,u8,rfl⟩:=hI
  have el:((starts as p).take ((starts as p).map nD).length).foldl (hst as rs e) b=pst as rs e b p:=by
   rw [List.length_map,List.take_length]
   rfl
  show Wp (seqK _ Fl.nx (wkS r v1 e m (((starts as p).take ((starts as p).map nD).length).foldl (hst as rs e) b) (i:Int) u7 u8 S)) _ _
  rw [el]
  simp! only [↓Bz,kh,sC]
  exact ⟨u7,u8,rfl⟩
theorem rep1:(List.replicate ((m:Nat):Int).toNat [x]).flatten=(List.range m).map fun _=>x:=by
 rw [Int.toNat_natCast]
 induction m with
 | zero=>rfl
 | succ m ih=>rw [List.replicate_succ',List.flatten_append,ih,List.range_succ,List.map_append]; rfl
theorem lU {src:Nat} (R:RestAt S r m as rs) (hs:src<m) (hz:m<sizeLine):goF aQ [.cell r, .int (src:Int), .bl e] ⟨sl,S⟩= .ok (.own (.lst (lQ m (Rs.bL as rs e m src)))) ⟨sl,S⟩:=by
 refine dY ?_
 show Wp (fW ⟨[some (.d (.cell r)),some (.d (.int (src:Int))),some (.d (.bl e)),none,none,none,none,none,none],S⟩) _ _
 rw [wk_eq]
 have h1:=R.o
 have z0:∀x:D,(-(2 ^ 63)≤(m:Int)∧(m:Int)<2 ^ 63∧ [x].length*(m:Int).toNat≤sizeLine)=True:=fun x=>eq_true (by
  have hz:=hz
  rw [sizeLine_eq] at hz ⊢
  refine ⟨by omega,by omega, ?_⟩
  show 1*_≤_
  omega)
 have h2:∀a s,yr (fR (.bl true)) a (.int (src:Int)) s (some (.lst ((List.range m).map fun _=>D.bl false)))=s.mod (.lst (sN m ⟨[src],fun _=>none⟩)) a:=fun a s=>(qh (x:= .bl true) (a:=a) (s:=s) (f:=fun _=>D.bl false) hs).trans (by
  congr 2
  unfold sN
  refine List.map_congr_left fun q _=>?_
  by_cases c:q=src
  ·rw [if_pos c,decide_eq_true]; rw [c]; exact List.mem_singleton.mpr rfl
  ·rw [if_neg c,decide_eq_false]; exact fun q=>c (List.mem_singleton.mp q))
 simp! only [au rf_many,h1,z0,rep1,↓oZ,iP,iO,iN,h2]
 rw [ae]
 refine wh_w (m:=m) (fun k s=>∃b i v7 v8,s=wkS r (some (.d (.int (src:Int)))) e m b ((i:Nat):Int) v7 v8 S∧Rs.BOk as rs e m src i b∧Rs.bfs as rs e (m - i) i b=Rs.bL as rs e m src∧k=m - i) ⟨⟨[src],fun _=>none⟩,0,none,none,rfl,Rs.BOk.init hs,rfl,rfl⟩ ?_
 rintro k s ⟨b,i,v7,v8,rfl,B,eb,rfl⟩
 have hl:=B.le
 have hil:=B.il
 simp! only [ae,List.length_map]
 by_cases c:i<b.row.length
 ·have c2:decide ((i:Int)<(b.row.length:Int))=true:=decide_eq_true (by omega)
  simp only [c2,if_true]
  have hp:=List.getElem?_eq_getElem c
  refine (wk_body (v1:=some (.d (.int (src:Int)))) (v7:=v7) (v8:=v8) R B hp hz).mono (fun fl s' hh=>?_) fun _ _ _ h=>h.elim
  obtain ⟨rfl,u7,u8,rfl⟩:=hh
  refine ⟨m - (i+1),by omega,_,i+1,u7,u8,rfl,Rs.pst_ok R.ok B hp, ?_,rfl⟩
  rw [←eb,show m - i=(m - (i+1))+1 by omega,Rs.xE hp]
 ·have c2:decide ((i:Int)<(b.row.length:Int))=false:=decide_eq_false (by omega)
  simp only [c2,Bool.false_eq_true,if_false]
  rw [Rs.BU (by omega)] at eb
  subst eb
  simp! only []
theorem yp {ds:List D}:b1K iD a s (some (.lst ds))=(s.mod (.lst ds.reverse) a).bind (rvK .non):=rfl
abbrev wyS (r:Nat) (m:Nat) (b:BS) (v2:Option Vl) (w:List Nat) (q:Nat) (S:Sto):SD:=
 ⟨[some (.d (.cell r)),some (.d (.lst (lQ m b))),v2,some (.own (.lst (w.map nD))),some (.d (.int (q:Int)))],S⟩
theorem DC {src t:Nat} {b:BS} (R:RestAt S r m as rs) (W:Rs.Wk as rs e m src b) (ht:t<m) (hz:m<sizeLine):
  goF aP [.cell r, .lst (lQ m b), .int (t:Int)] ⟨sl,S⟩= .ok (.own (.lst ((Rs.way as b.came m t).map nD))) ⟨sl,S⟩:=by
 refine dY ?_
 show Wp (fV ⟨[some (.d (.cell r)),some (.d (.lst (lQ m b))),some (.d (.int (t:Int))),none,none],S⟩) _ _
 unfold fV
 have h1:=R.o
 have h2:=R.h
 have hc:∀{q:Nat},q<m→∀s:SD,ixK s (some (.lst (lQ m b))) (some (.int (q:Int)))= .ok (.d (oD (b.came q))) s:=fun hq s=>ixR (f:=fun p=>oD (b.came p)) hq
 simp! only []
 rw [ae]
 refine wh_w (m:=m) (fun k s=>∃(w:List Nat) (q:Nat),s=wyS r m b (some (.d (.int (t:Int)))) w q S∧q<m∧Rs.way as b.came m t=Rs.way as b.came k q++w.reverse∧w.length+k=m∧(q∈b.row→b.row.idxOf q<k)∧0<k) ⟨[],t,rfl,ht,by simp,by simp,fun h=>?_,by omega⟩ ?_
 ·have h1:=List.idxOf_lt_length_of_mem h
  have h2:=List.Nodup.length_le_of_subset W.nd (l₂:=List.range m) fun p hp=>List.mem_range.mpr (W.lt p hp)
  rw [List.length_range] at h2
  omega
 ·rintro k s ⟨w,q,rfl,hq,ew,hl,hi,hk⟩
  have h3:=hc hq
  obtain ⟨k,rfl⟩:∃k',k=k' +1:=⟨k - 1,by omega⟩
  cases c:b.came q with
  | none=>
   rw [c] at h3
   have e0:Rs.way as b.came (k+1) q= []:=by unfold Rs.way; rw [c]
   rw [e0,List.nil_append] at ew
   simp! only [ae,h3,isN_o,Option.isNone_none]
   simp! only [yp,ew,List.map_reverse]
  | some h=>
   rw [c] at h3
   have hm:q∈b.row:=Classical.byContradiction fun n=>by rw [W.out q n] at c; cases c
   have hn:q≠src:=fun n=>by rw [n,W.cs] at c; cases c
   obtain ⟨h',e1,e2,e3,e4,e5,e6⟩:=W.inn q hm hn
   rw [c] at e1
   cases e1
   have e0:Rs.way as b.came (k+1) q=Rs.way as b.came k (tl as h)++ [h]:=by
    show (match b.came q with | none=> [] | some h=>Rs.way as b.came k (tl as h)++ [h])=_
    rw [c]
   have h4:=headsL (as:=as) (Rs.CB e2)
   rw [Rs.hd_tw] at h4
   have h3:∀s:SD,ixK s (some (.lst (lQ m b))) (some (.int (q:Int)))= .ok (.d (.int (h:Int))) s:=h3
   have sz:((w.map nD).length<sizeLine)=True:=eq_true (by rw [List.length_map]; omega)
   have hi:=hi hm
   simp! only [ae,h3]
   simp! only [au iz,h1,h2,h3,h4,w_xor,xor1,sz]
   exact ⟨k,by omega,w++ [h],tl as h,by unfold wyS; rw [List.map_append]; rfl,R.ok.tl e2,by rw [ew,e0]; simp,by simp; omega,fun _=>by omega,by omega⟩
theorem rm_get (c:h<rs.length):rs[h]? =some (rm rs h):=by
 unfold rm
 rw [List.getD_eq_getElem?_getD,List.getElem?_eq_getElem c]
 rfl
theorem CK (c:h<rs.length):rs.set h (rm rs h)=rs:=by
 refine List.ext_getElem? fun i=>?_
 by_cases q:h=i
 ·subst q; rw [List.getElem?_set_self c,rm_get c]
 ·rw [List.getElem?_set_ne q]
theorem qE {i:Nat} (c:S.get i=some x):S.put i x=S:=by
 unfold Z.Sto.put
 have:(fun j=>if j=i then some x else S.get j)=S.get:=funext fun j=>by
  by_cases q:j=i
  ·rw [if_pos q,q,c]
  ·rw [if_neg q]
 rw [this]
theorem RestAt.rooms {rs' :List (Option Int)} (R:RestAt S r m as rs) (hl:rs'.length=rs.length):RestAt (S.put (r+2) (.lst (rs'.map rD))) r m as rs' where
 o:=by rw [Z.Sto.put_ne (by omega)]; exact R.o
 h:=by rw [Z.Sto.put_ne (by omega)]; exact R.h
 k:=Z.Sto.put_same
 s:=by rw [Z.Sto.put_ne (by omega)]; exact R.s
 p:=fun p hp=>by rw [Z.Sto.put_ne (by omega)]; exact R.p p hp
 nx:=R.nx
 len:=hl.trans R.len
 ok:=R.ok
def lpK (g:SD→R Fl):Fl→SD→R Fl
 | .nx,s=>g s
 | .ct,s=>g s
 | .bk,s=> .ok .nx s
 | .rt a,s=> .ok (.rt a) s
theorem x_lpn {g:SD→R Fl}:lpK g .nx s=g s:=Eq.trans rfl rfl
def lp2 (fz:Vl→SD→R Unit) (fb:SD→R Fl) (d:D):SD→R Fl:=fun s=>((fz (.d d) s).bind (yR fb)).bind (lpK fun s=> .ok .nx s)
theorem x_lp2 {fz:Vl→SD→R Unit} {fb:SD→R Fl} {d:D}:lp2 fz fb d s=((fz (.d d) s).bind (yR fb)).bind (lpK fun s=> .ok .nx s):=rfl
theorem Bc {fz:Vl→SD→R Unit} {fb:SD→R Fl} {d1 d2:D}:forK fz fb ⟨[.d x],fun _=>True,[d1,d2]⟩ s=((fz (.d d1) s).bind (yR fb)).bind (lpK (lp2 fz fb d2)):=by
 unfold forK
 rw [if_pos Nl.d1]
 unfold gw
 rw [if_pos trivial]
 congr 1
 funext fl s1
 have e:∀s,gw (fun _=>True) (fun d s=>(fz (.d d) s).bind fun _ s2=>fb s2) [d2] s=lp2 fz fb d2 s:=fun s=>by
  unfold gw lp2
  rw [if_pos trivial]
  congr 1
  funext fl s1
  cases fl<;> first | rfl | (show gw _ _ [] s1=_; unfold gw; rw [if_pos trivial]; rfl)
 cases fl<;> first | rfl | exact e s1
noncomputable def cgI:SD→R Fl:=(bP (zB (z2 (gu true) (z2 oIx (z1 (bg ["Rest"] "rooms") (aa 0)) (aa 3)) (zC .non))) (oK gL fR (fun a b=>a+b) (z1 (bg ["Rest"] "rooms") (aa 0)) (aa 3) (aa 4)) az)
theorem cg_eq:fZ=(eJ (B4 (aZ (dj (zA (dj (zA (aa 1) (zA (z2 tE (zC (.int 0)) (aa 2)) zA0))) (zA (dj (zA (z2 oXor (aa 1) (zC (.int 1))) (zA (aa 2) zA0))) zA0))))) (kj [3,4]) cgI):=rfl
theorem BL {v1 v2:Option Vl} {v:Int} (h1:S.get r=some (.obj "Rest" (fj r m))) (h2:S.get (r+2)=some (.lst (rs.map rD))) (c:h<rs.length):
  cgI ⟨[some (.d (.cell r)),v1,v2,some (.d (.int (h:Int))),some (.d (.int v))],S⟩= .ok .nx ⟨[some (.d (.cell r)),v1,v2,some (.d (.int (h:Int))),some (.d (.int v))],S.put (r+2) (.lst ((rs.set h ((rm rs h).map (· +v))).map rD))⟩:=by
 have h3:∀s:SD,ixK s (some (.lst (rs.map rD))) (some (.int (h:Int)))= .ok (.d (rD (rm rs h))) s:=fun s=>ixRm c
 unfold cgI
 cases c2:rm rs h with
 | none=>
  rw [c2] at h3
  simp! only [au cX,h1,h2,h3,oU,Option.isNone_none]
  rw [show (none:Option Int).map (· +v)=rm rs h from c2.symm,CK c,qE h2]
 | some u=>
  rw [c2] at h3
  have h4:gL (.lst (rs.map rD)) (.int (h:Int))=some u:=gL_at (by rw [atRm c,c2]; rfl)
  have h5:∀a s,yr (fR (.int (u+v))) a (.int (h:Int)) s (some (.lst (rs.map rD)))=s.mod (.lst ((rs.set h (some (u+v))).map rD)) a:=fun a s=>(qi (by simpa using c)).trans (by rw [List.map_set]; rfl)
  simp! only [au cX,h1,h2,h3,oU,Option.isNone_some,h4,h5]
  rfl
theorem DE {v:Int} (R:RestAt S r m as rs) (c:h<2*as.length):goF dy [.cell r, .int (h:Int), .int v] ⟨sl,S⟩= .ok (.d .non) ⟨sl,S.put (r+2) (.lst ((Rs.chg rs h v).map rD))⟩:=by
 refine dY ?_
 show Wp (fZ ⟨[some (.d (.cell r)),some (.d (.int (h:Int))),some (.d (.int v)),none,none],S⟩) _ _
 rw [cg_eq]
 have c2:h<rs.length:=by rw [R.len]; exact c
 have e1:=fun v1 v2=>BL (v1:=v1) (v2:=v2) (v:=0 - v) R.o R.k c2
 have R1:=R.rooms (rs' :=rs.set h ((rm rs h).map (· +(0 - v)))) (List.length_set ..)
 have e2:=fun v1 v2=>BL (v1:=v1) (v2:=v2) (v:=v) R1.o R1.k (h:=tw h) (by rw [List.length_set,R.len]; exact Rs.CB c)
 simp! only [w_xor,xor1,Bc,x_lpn,x_lp2,e1,e2]
 rfl
theorem A8 (R:RestAt S r m as rs) (c:h<as.length) (hz:as.length≤sizeLine):goF bR [.cell r, .int (h:Int)] ⟨sl,S⟩= .ok (.d (rD (rm rs (2*h+1)))) ⟨sl,S⟩:=by
 refine dY ?_
 show Wp (eT ⟨[some (.d (.cell r)),some (.d (.int (h:Int)))],S⟩) _ _
 unfold eT
 have h1:=R.o
 have h2:=R.k
 have h3:=roomR R (h:=2*h+1) (by omega)
 have e:(2:Int)*(h:Int)+1=((2*h+1:Nat):Int):=by omega
 have z:CMulX 2 (h:Int)=True:=eq_true (cQ (by omega) (by omega) (by omega) (by rw [sizeLine_eq] at hz; omega))
 simp! only [au cX,h1,h2,z,e,h3]
theorem vJ {src t:Nat} (R:RestAt S r m as rs) (hs:src<m) (ht:t<m) (hz:m<sizeLine):
  goF aP [.cell r, .lst (lQ m (Rs.bL as rs e m src)), .int (t:Int)] ⟨sl,S⟩= .ok (.own (.lst ((Rs.bM as rs e m src t).map nD))) ⟨sl,S⟩:=DC R (Rs.aO R.ok hs) ht hz
theorem Ay {w:List Nat} (hw:∃h∈w,rm rs h≠none):tG (.own (.lst ((w.filter fun h=>(rm rs h).isSome).map fun h=>rD (rm rs h)))) s= .ok (.d (.int (Rs.aM rs w))) s:=by
 have e:(w.filter fun h=>(rm rs h).isSome).map (fun h=>rD (rm rs h))=(w.filterMap (rm rs)).map D.int:=by
  clear hw
  induction w with
  | nil=>rfl
  | cons h w ih=>
   cases c:rm rs h with
   | none=>rw [List.filter_cons_of_neg (by rw [c]; decide),List.filterMap_cons_none c]; exact ih
   | some v=>rw [List.filter_cons_of_pos (by rw [c]; rfl),List.filterMap_cons_some c,List.map_cons,List.map_cons,ih,c]; rfl
 obtain ⟨h,hh,hn⟩:=hw
 obtain ⟨v,ev⟩:=Option.ne_none_iff_exists'.mp hn
 have hm:v∈w.filterMap (rm rs):=List.mem_filterMap.mpr ⟨h,hh,ev⟩
 unfold tG Rs.aM
 simp only [iF,e]
 cases c:w.filterMap (rm rs) with
 | nil=>rw [c] at hm; cases hm
 | cons i is=>
  have:lP ((i::is).map D.int)=some (i::is):=by rw [oi (fun i=>i),List.map_id']
  rw [this]
abbrev lfS (r:Nat) (v1 v2:Option Vl) (l:Int) (v4 v5 v6:Option Vl) (S:Sto):SD:=
 ⟨[some (.d (.cell r)),v1,v2,some (.d (.int l)),v4,v5,v6],S⟩
noncomputable def lfB:SD→R Fl:=(aj (ax (z1 tG (zLc (gp (aZ (aa 4))) (zSt 6) (zB (z2 (gu true) (z2 oIx (z1 (bg ["Rest"] "rooms") (aa 0)) (aa 6)) (zC .non))) (z2 oIx (z1 (bg ["Rest"] "rooms") (aa 0)) (aa 6)) [6])) (zSt 5))
 (aj (eJ (gp (aZ (aa 4))) (zSt 6) (aN (aD "Rest" "change" dy [] (aa 0) (zA (aa 6) (zA (aa 5) zA0)))))
 (aj (zAug 3 (fun a b=>a+b) (aa 5))
 (ax (aD "Rest" "way_to" aP [] (aa 0) (zA (aD "Rest" "walked" aQ [] (aa 0) (zA (aa 1) (zA (zC (.bl false)) zA0))) (zA (aa 2) zA0))) (zSt 4)))))
theorem lf_eq:fX=(aj (ax (zC (.int 0)) (zSt 3))
 (aj (ax (aD "Rest" "way_to" aP [] (aa 0) (zA (aD "Rest" "walked" aQ [] (aa 0) (zA (aa 1) (zA (zC (.bl false)) zA0))) (zA (aa 2) zA0))) (zSt 4))
 (aj (zWh (zB (z2 oNe (aa 4) (cM zA0))) lfB)
 (bo (aa 3))))):=rfl
theorem lf_turn {src t:Nat} {l:Int} {v5 v6:Option Vl} (R:RestAt S r m as rs) (G:Rs.Good as m src t rs) (hz:m<sizeLine) (hw:Rs.bM as rs false m src t≠ []):
  let w:=Rs.bM as rs false m src t; let rs' :=Rs.push rs w (Rs.aM rs w)
  Wp (lfB (lfS r (some (.d (.int (src:Int)))) (some (.d (.int (t:Int)))) l (some (.own (.lst (w.map nD)))) v5 v6 S)) (fun fl s' =>fl= .nx∧∃v5 v6,s' =lfS r (some (.d (.int (src:Int)))) (some (.d (.int (t:Int)))) (l+Rs.aM rs w) (some (.own (.lst ((Rs.bM as rs' false m src t).map nD)))) v5 v6 (S.put (r+2) (.lst (rs'.map rD)))) XF:=by
 intro w rs'
 have W:=Rs.pU G hw
 have hf:∃h∈w,rm rs h≠none:=Classical.byContradiction fun q=>G.fin ((Rs.aO G.ok G.hs).rch.mpr (Rs.wV W.path fun h hh=>⟨(W.all h hh).1,Classical.byContradiction fun q2=>q ⟨h,hh,q2⟩⟩))
 have hl:w.length≤sizeLine:=by
  have h1:=List.Nodup.length_le_of_subset W.nd (l₂:=List.range m) fun p hp=>List.mem_range.mpr (by
   rcases List.mem_cons.mp hp with rfl | hp
   ·exact G.hs
   ·obtain ⟨h,hh,rfl⟩:=List.mem_map.mp hp
    exact G.ok.hd (W.all h hh).1)
  rw [List.length_range,List.length_cons,List.length_map] at h1
  show (Rs.bM as rs false m src t).length≤sizeLine
  have h2:(Rs.bM as rs false m src t).length+1≤m:=h1
  omega
 have h1:=R.o
 have h2:=R.k
 have e1:=fun s=>Ay (s:=s) hf
 unfold lfB
 simp! only []
 rw [nB (l:=w) nD (fun h=>rD (rm rs h)) (fun h=>(rm rs h).isSome) rfl rfl Nl.d1 trivial (fun h hh=>?_) hl]
 ·simp! only [e1]
  rw [ae]
  refine iM (fun j s=>∃v6,s=lfS r (some (.d (.int (src:Int)))) (some (.d (.int (t:Int)))) l (some (.d (.lst (w.map nD)))) (some (.d (.int (Rs.aM rs w)))) v6 (S.put (r+2) (.lst ((Rs.push rs (w.take j) (Rs.aM rs w)).map rD)))) Nl.d1 (fun _ _ _=>trivial) ⟨_,by rw [List.take_zero]; show _=lfS _ _ _ _ _ _ _ (S.put (r+2) (.lst (rs.map rD))); rw [qE h2]⟩ (fun j x s ex hI=>?_) (fun s hI=>?_)
  ·obtain ⟨u6,rfl⟩:=hI
   have ex:(w.map nD)[j]? =some x:=ex
   rw [List.getElem?_map] at ex
   cases eh:w[j]? with
   | none=>rw [eh] at ex; cases ex
   | some h=>
    rw [eh] at ex
    cases ex
    have hh:=(W.all h (List.mem_of_getElem? eh)).1
    have hlen:(Rs.push rs (w.take j) (Rs.aM rs w)).length=rs.length:=(Rs.iA (n:=as.length) G.len fun h hh=>(W.all h (List.mem_of_mem_take hh)).1).len
    have R1:=R.rooms hlen
    have o1:=R1.o
    have e2:=fun sl:List (Option Vl)=>DE (sl:=sl) (v:=Rs.aM rs w) R1 hh
    simp! only [ak AF,o1,e2,mZ]
    exact ⟨some (.d (nD h)),by rw [show Rs.push rs (w.take (j+1)) (Rs.aM rs w)=Rs.chg (Rs.push rs (w.take j) (Rs.aM rs w)) h (Rs.aM rs w) from sG eh]⟩
  ·obtain ⟨u6,rfl⟩:=hI
   have el:Rs.push rs (w.take (w.map nD).length) (Rs.aM rs w)=rs' :=by
    rw [List.length_map,List.take_length]
   have R1:=R.rooms (rs' :=rs') (Rs.iA (n:=as.length) G.len fun h hh=>(W.all h hh).1).len
   have o1:=R1.o
   show Wp (seqK _ Fl.nx (lfS r (some (.d (.int (src:Int)))) (some (.d (.int (t:Int)))) l (some (.d (.lst (w.map nD)))) (some (.d (.int (Rs.aM rs w)))) u6 (S.put (r+2) (.lst ((Rs.push rs (w.take (w.map nD).length) (Rs.aM rs w)).map rD))))) _ _
   rw [el]
   have e2:=fun sl:List (Option Vl)=>lU (sl:=sl) (e:=false) R1 G.hs hz
   have e3:=fun sl:List (Option Vl)=>vJ (sl:=sl) (e:=false) R1 G.hs G.ht hz
   simp! only [↓Bz,kh,sC,ak gY,ak jN,o1,e2,e3]
   exact ⟨_,_,rfl⟩
 ·have hh:=(W.all h hh).1
  have h3:=roomR R hh
  unfold Z.jB
  simp! only [au cX,h1,h2,h3,oU]
  cases rm rs h<;> simp! only [rD,Option.isNone_none,Option.isNone_some,Option.isSome_none,Option.isSome_some]
theorem g_lift {src t:Nat} (R:RestAt S r m as rs) (G:Rs.Good as m src t rs) (hz:m<sizeLine):
  ∃rs' a,Rs.Lift as m src t rs rs' a∧∀sl,goF fC [.cell r, .int (src:Int), .int (t:Int)] ⟨sl,S⟩= .ok (.d (.int a)) ⟨sl,S.put (r+2) (.lst (rs'.map rD))⟩:=by
 have main:∃rs' a,Rs.Lift as m src t rs rs' a∧Wp (fX ⟨[some (.d (.cell r)),some (.d (.int (src:Int))),some (.d (.int (t:Int))),none,none,none,none],S⟩) (fun fl s' =>flv fl=some (.d (.int a))∧s'.st=S.put (r+2) (.lst (rs'.map rD))) XF:=by
  suffices h:Wp (fX ⟨[some (.d (.cell r)),some (.d (.int (src:Int))),some (.d (.int (t:Int))),none,none,none,none],S⟩) (fun fl s' =>∃rs' a,Rs.Lift as m src t rs rs' a∧flv fl=some (.d (.int a))∧s'.st=S.put (r+2) (.lst (rs'.map rD))) XF by
   obtain ⟨fl,s',e,rs',a,L,h⟩:=h.is
   exact ⟨rs',a,L,by rw [e]; exact h⟩
  have o1:=R.o
  have e2:=fun sl:List (Option Vl)=>lU (sl:=sl) (e:=false) R G.hs hz
  have e3:=fun sl:List (Option Vl)=>vJ (sl:=sl) (e:=false) R G.hs G.ht hz
  rw [lf_eq]
  simp! only [ak gY,ak jN,o1,e2,e3]
  rw [ae]
  refine wh_w (m:=Rs.todo as m src rs) (fun k s=>∃rs1 l v5 v6,s=lfS r (some (.d (.int (src:Int)))) (some (.d (.int (t:Int)))) l (some (.own (.lst ((Rs.bM as rs1 false m src t).map nD)))) v5 v6 (S.put (r+2) (.lst (rs1.map rD)))∧rs1.length=rs.length∧Rs.Good as m src t rs1∧(∀rs2 a,Rs.Lift as m src t rs1 rs2 a→Rs.Lift as m src t rs rs2 (l+a))∧k=Rs.todo as m src rs1) ⟨rs,0,none,none,by rw [qE R.k],rfl,G,fun rs2 a L=>by rw [Int.zero_add]; exact L,rfl⟩ ?_
  rintro k s ⟨rs1,l,v5,v6,rfl,hl,G1,fw,rfl⟩
  have R1:=R.rooms hl
  simp! only [ae]
  by_cases c:Rs.bM as rs1 false m src t= []
  ·have L:=fw rs1 0 (.done c)
   rw [Int.add_zero] at L
   simp! only [c,List.map_nil]
   exact ⟨rs1,l,L,rfl,rfl⟩
  ·have c2:((Rs.bM as rs1 false m src t).map nD).isEmpty=false:=by
    cases q:Rs.bM as rs1 false m src t with
    | nil=>exact absurd q c
    | cons _ _=>rfl
   simp! only [c2]
   obtain ⟨A,hp⟩:=Rs.kN G1 (Rs.pU G1 c)
   refine (lf_turn (v5:=v5) (v6:=v6) (l:=l) R1 G1 hz c).mono (fun fl s' hh=>?_) fun _ _ _ h=>h.elim
   obtain ⟨rfl,u5,u6,rfl⟩:=hh
   refine ⟨_,Rs.yT G1 A hp,_,_,u5,u6,by rw [mZ],A.sh.len.trans hl,G1.shift A,fun rs2 a L=>?_,rfl⟩
   have:=fw rs2 _ (.step c L)
   rw [←Int.add_assoc] at this
   exact this
 obtain ⟨rs',a,L,h⟩:=main
 exact ⟨rs',a,L,fun sl=>dY h⟩
end
end T

set_option maxHeartbeats 4000000
namespace Rs
theorem ta_app {as:As} {a:Nat×Nat} {k:Nat}:ta (as++ [a]) k=if k=as.length then a.1 else ta as k:=by
 unfold ta
 rw [List.getD_eq_getElem?_getD,List.getD_eq_getElem?_getD]
 by_cases c:k=as.length
 ·subst c; rw [if_pos rfl,List.getElem?_append_right (Nat.le_refl _),Nat.sub_self]; rfl
 ·rw [if_neg c]
  by_cases c2:k<as.length
  ·rw [List.getElem?_append_left c2]
  ·rw [List.getElem?_append_right (by omega),List.getElem?_eq_none (by simp; omega),List.getElem?_eq_none (l:=as) (by omega)]
theorem he_app {as:As} {a:Nat×Nat} {k:Nat}:he (as++ [a]) k=if k=as.length then a.2 else he as k:=by
 unfold he
 rw [List.getD_eq_getElem?_getD,List.getD_eq_getElem?_getD]
 by_cases c:k=as.length
 ·subst c; rw [if_pos rfl,List.getElem?_append_right (Nat.le_refl _),Nat.sub_self]; rfl
 ·rw [if_neg c]
  by_cases c2:k<as.length
  ·rw [List.getElem?_append_left c2]
  ·rw [List.getElem?_append_right (by omega),List.getElem?_eq_none (by simp; omega),List.getElem?_eq_none (l:=as) (by omega)]
theorem hd_app {as:As} {a:Nat×Nat} {h:Nat} (c:h<2*as.length):hd (as++ [a]) h=hd as h∧tl (as++ [a]) h=tl as h:=by
 have c2:¬h / 2=as.length:=by omega
 unfold hd tl
 rw [ta_app,he_app,if_neg c2,if_neg c2]
 exact ⟨rfl,rfl⟩
theorem hd_new {as:As} {a:Nat×Nat}:hd (as++ [a]) (2*as.length)=a.2∧hd (as++ [a]) (2*as.length+1)=a.1∧tl (as++ [a]) (2*as.length)=a.1∧tl (as++ [a]) (2*as.length+1)=a.2:=by
 rw [tl_even.1,tl_even.2,tl_odd.1,tl_odd.2,ta_app,he_app,if_pos rfl,if_pos rfl]
 exact ⟨rfl,rfl,rfl,rfl⟩
theorem sX (n:Nat):List.range (2*(n+1))=List.range (2*n)++ [2*n,2*n+1]:=by
 rw [show 2*(n+1)=2*n+1+1 by omega,List.range_succ,List.range_succ,List.append_assoc]
 rfl
theorem AV {as:As} {a:Nat×Nat}:jq (as++ [a])=jq as++ [a.2,a.1]:=by
 unfold jq
 rw [List.length_append,List.length_singleton,sX,List.map_append]
 congr 1
 ·exact List.map_congr_left fun h hh=>(hd_app (List.mem_range.mp hh)).1
 ·simp only [List.map_cons,List.map_nil]
  rw [hd_new.1,hd_new.2.1]
theorem xK {as:As} {a:Nat×Nat} {p:Nat}:starts (as++ [a]) p=starts as p++((if a.1=p then [2*as.length] else [])++if a.2=p then [2*as.length+1] else []):=by
 unfold starts
 rw [List.length_append,List.length_singleton,sX,List.filter_append]
 congr 1
 ·exact List.filter_congr fun h hh=>by rw [(hd_app (List.mem_range.mp hh)).2]
 ·simp only [List.filter_cons,List.filter_nil]
  rw [hd_new.2.2.1,hd_new.2.2.2]
  by_cases c1:a.1=p<;> by_cases c2:a.2=p<;> simp [c1,c2]
theorem AsOk.app {as:As} {a:Nat×Nat} {m:Nat} (o:AsOk as m) (h1:a.1<m) (h2:a.2<m):AsOk (as++ [a]) m:=fun b hb=>by
 rcases List.mem_append.mp hb with hb | hb
 ·exact o b hb
 ·rw [List.mem_singleton.mp hb]; exact ⟨h1,h2⟩
end Rs
namespace T
open PySem PySem.Spec PyProof.Rows L2 M Z
open Classical
open Rs (As tw hd tl rm iT BS hst pst bfs starts jq)
section
variable {a b:Vl} {s:SD} {S:Sto} {sl:List (Option Vl)} {x y:D} {n h m r p q t:Nat} {as:As} {rs:List (Option Int)} {e:Bool}
theorem qc:Z.upTo 0 m=(List.range m).map nD:=by
 unfold Z.upTo
 exact List.map_congr_left fun k _=>by rw [Int.zero_add]
theorem wJ:∀l:List Nat,scs (l.map nD)=some (l.map fun k:Nat=>V.int (k:Int))
 | []=>rfl
 | a::l=>by rw [List.map_cons,scs,wJ l]; rfl
theorem AU (k:Nat):∀l:List Nat,inV (.int (k:Int)) (l.map fun k:Nat=>V.int (k:Int))=decide (k∈l)
 | []=>rfl
 | y::r=>by
  have ih:=AU k r
  unfold inV at ih ⊢
  rw [List.map_cons,List.any_cons,ih]
  rw [Bool.eq_iff_iff]
  simp only [Bool.or_eq_true,decide_eq_true_eq,List.mem_cons]
  have e:eqV (V.int (y:Int)) (V.int (k:Int))=true↔k=y:=by
   show ((y:Int) == (k:Int))=true↔_
   rw [beq_iff_eq]
   omega
  rw [e]
theorem xr {neg:Bool} {L:List Nat} {k:Nat}:∀s:SD,inK neg s (some (.int (k:Int))) (some (.lst (L.map nD)))= .ok (.d (.bl (if neg then !decide (k∈L) else decide (k∈L)))) s:=fun s=>nN (by
 unfold dIn
 simp only [wJ,D.sc,AU])
theorem lC {f:Nat→D}:bS ((List.range n).map f)=(List.range n).map fun p:Nat=>D.tup [.int (p:Int),f p]:=by
 unfold bS
 refine List.ext_getElem (by simp) fun i h1 h2=>?_
 simp
theorem AZ {src:Nat} (R:RestAt S r m as rs) (hs:src<m) (hz:m<sizeLine):goF cR [.cell r, .int (src:Int)] ⟨sl,S⟩= .ok (.own (.lst ((List.range m).map fun p=>D.bl (Rs.qm as rs false m src p)))) ⟨sl,S⟩:=by
 refine dY ?_
 show Wp (eQ ⟨[some (.d (.cell r)),some (.d (.int (src:Int))),none,none,none],S⟩) _ _
 unfold eQ
 have o1:=R.o
 have e2:=fun sl:List (Option Vl)=>lU (sl:=sl) (e:=false) R hs hz
 simp! only [ak gY,o1,e2]
 rw [lH (l:=List.range m) (fun p:Nat=>D.tup [.int (p:Int),oD ((Rs.bL as rs false m src).came p)]) (fun p=>D.bl (Rs.qm as rs false m src p)) lC rfl Nl.d1 trivial (fun p hp=>?_) (by rw [List.length_range]; omega)]
 ·simp! only []
 ·have hp:=List.mem_range.mp hp
  have W:=Rs.aO (rs:=rs) (e:=false) R.ok hs
  unfold Z.jB
  simp! only [isN_o]
  have c3:decide ((p:Int)=(src:Int))=decide (p=src):=decide_eq_decide.mpr (by omega)
  have c4:Rs.qm as rs false m src p=(decide (p=src) || !((Rs.bL as rs false m src).came p).isNone):=by
   unfold Rs.qm
   by_cases c:p=src
   ·subst c; rw [decide_eq_true W.sr,decide_eq_true (rfl:p=p)]; rfl
   ·rw [decide_eq_false c,Bool.false_or]
    by_cases c2:p∈(Rs.bL as rs false m src).row
    ·obtain ⟨h,e,_⟩:=W.inn p c2 c
     rw [decide_eq_true c2,e]; rfl
    ·rw [decide_eq_false c2,W.out p c2]; rfl
  rw [c3,c4]
  cases decide (p=src)<;> simp! only []<;> rfl
def endD (as:As) (rs:List (Option Int)) (m s t:Nat):Vl:=if Rs.bM as rs true m s t= [] then .d .non else .own (.lst ((Rs.bM as rs true m s t).map fun h=> .int ((h / 2:Nat):Int)))
theorem yG {w:List Nat} {src:Nat} (o:Rs.AsOk as m) (hs:src<m) (W:Rs.WayOk as rs e src t w):w.length<m:=by
 have h1:=List.Nodup.length_le_of_subset W.nd (l₂:=List.range m) fun p hp=>List.mem_range.mpr (by
  rcases List.mem_cons.mp hp with rfl | hp
  ·exact hs
  ·obtain ⟨h,hh,rfl⟩:=List.mem_map.mp hp
   exact o.hd (W.all h hh).1)
 rw [List.length_range,List.length_cons,List.length_map] at h1
 omega
theorem ua {src:Nat} (R:RestAt S r m as rs) (hs:src<m) (ht:t<m) (hz:m<sizeLine):goF cS [.cell r, .int (src:Int), .int (t:Int)] ⟨sl,S⟩= .ok (endD as rs m src t) ⟨sl,S⟩:=by
 refine dY ?_
 show Wp (eS ⟨[some (.d (.cell r)),some (.d (.int (src:Int))),some (.d (.int (t:Int))),none,none],S⟩) _ _
 unfold eS endD
 have o1:=R.o
 have e2:=fun sl:List (Option Vl)=>lU (sl:=sl) (e:=true) R hs hz
 have e3:=fun sl:List (Option Vl)=>vJ (sl:=sl) (e:=true) R hs ht hz
 by_cases c:Rs.bM as rs true m src t= []
 ·rw [if_pos c]
  simp! only [ak gY,ak jN,o1,e2,e3,c,List.map_nil]
 ·rw [if_neg c]
  have c2:((Rs.bM as rs true m src t).map nD).isEmpty=false:=by
   cases q:Rs.bM as rs true m src t with
   | nil=>exact absurd q c
   | cons _ _=>rfl
  simp! only [ak gY,ak jN,o1,e2,e3,c2]
  have hm:t∈(Rs.bL as rs true m src).row:=Classical.byContradiction fun q=>c (Rs.sE R.ok hs q)
  have hl:=yG R.ok hs (Rs.jG R.ok hs hm)
  rw [lH (l:=Rs.bM as rs true m src t) nD (fun h=> .int ((h / 2:Nat):Int)) rfl rfl Nl.d1 trivial (fun h hh=>?_) (by omega)]
  ·simp! only []
  ·have z:∀i:Int,CDivW i 2=True:=fun i=>eq_true (aw (by decide) (by decide))
   unfold Z.jB
   simp! only [z]
   rfl
def gV (xs:List D) (S:Sto):Sto:=⟨S.nx+xs.length,fun j=>if j<S.nx then S.get j else match xs[j - S.nx]? with
 | some x=>some x
 | none=>S.get j⟩
theorem wZ {xs:List D} {j:Nat} (h:j<S.nx):(gV xs S).get j=S.get j:=if_pos h
theorem xa {xs:List D} {j:Nat} (h:xs[j]? =some x):(gV xs S).get (S.nx+j)=some x:=by
 show (if S.nx+j<S.nx then _ else match xs[S.nx+j - S.nx]? with | some x=>some x | none=>S.get (S.nx+j))=_
 rw [if_neg (by omega),show S.nx+j - S.nx=j by omega,h]
theorem xV {xs:List D}:gV xs (S.new x)=gV (x::xs) S:=by
 unfold gV
 have h1:(S.new x).nx=S.nx+1:=rfl
 rw [h1,List.length_cons,show S.nx+1+xs.length=S.nx+(xs.length+1) by omega]
 congr 1
 funext j
 show (if j<S.nx+1 then (if j=S.nx then some x else S.get j) else match xs[j - (S.nx+1)]? with | some x=>some x | none=>(if j=S.nx then some x else S.get j))=_
 by_cases c:j<S.nx
 ·rw [if_pos (by omega),if_neg (by omega),if_pos c]
 ·rw [if_neg c]
  by_cases c2:j=S.nx
  ·subst c2; rw [if_pos (by omega),if_pos rfl,Nat.sub_self]; rfl
  ·rw [if_neg (by omega),show j - S.nx=(j - (S.nx+1))+1 by omega,List.getElem?_cons_succ,if_neg c2]
theorem Av:gV [] S=S:=by
 unfold gV
 have:(fun j=>if j<S.nx then S.get j else match ([]:List D)[j - S.nx]? with | some x=>some x | none=>S.get j)=S.get:=funext fun j=>by
  split
  ·rfl
  ·simp
 rw [this]
 rfl
theorem xm {f:D→D} {fz:Vl→SD→R Unit} {fe:SD→R Vl} {is:List Nat}:∀{ds acc:List D} {S:Sto},(∀d∈ds,∀S:Sto,Wp (fz (.d d) ⟨sl,S⟩) (fun _ s1=>Wp (fe s1) (fun a s2=>a= .d (.cell S.nx)∧s2.st=S.new (f d)∧dZ s2.sl is=sl) XF) XF)→acc.length+ds.length≤sizeLine→
  lz (fun _=>True) fz eU fe is ds acc ⟨sl,S⟩= .ok (acc++(List.range ds.length).map fun p=> .cell (S.nx+p)) ⟨sl,gV (ds.map f) S⟩
 | [],acc,S,_,_=>by
  unfold lz
  rw [if_pos trivial,List.map_nil,Av]
  simp
 | d::ds,acc,S,h,hl=>by
  unfold lz
  rw [if_pos trivial]
  obtain ⟨_,s1,e1,h1⟩:=(h d (List.mem_cons_self ..) S).is
  obtain ⟨a,s2,e2,rfl,h2,h3⟩:=h1.is
  rw [List.length_cons] at hl
  rw [e1]
  show R.bind (R.nx (fe s1)) _=_
  rw [e2]
  show (if acc.length<sizeLine then lz _ fz eU fe is ds (acc++ [.cell S.nx]) ⟨dZ s2.sl is,s2.st⟩ else .bad)=_
  rw [if_pos (by omega),h3,h2,xm (fun d hd=>h d (List.mem_cons_of_mem _ hd)) (by simp; omega),List.map_cons,xV]
  congr 1
  rw [List.append_assoc,List.length_cons,List.range_succ_eq_map,List.map_cons,List.map_map]
  congr 1
  show D.cell S.nx::_=D.cell (S.nx+0)::_
  rw [Nat.add_zero]
  congr 1
  refine List.map_congr_left fun p _=>?_
  show D.cell (S.nx+1+p)=D.cell (S.nx+(p+1))
  congr 1
  omega
theorem xn {f:D→D} {fz:Vl→SD→R Unit} {fe:SD→R Vl} {is:List Nat} {sl0:List (Option Vl)} {ds:List D} {S:Sto} {hs:List Vl} (hN:Nl hs) (e0:dZ sl0 is=sl) (h:∀d∈ds,∀S:Sto,Wp (fz (.d d) ⟨sl,S⟩) (fun _ s1=>Wp (fe s1) (fun a s2=>a= .d (.cell S.nx)∧s2.st=S.new (f d)∧dZ s2.sl is=sl) XF) XF) (hl:ds.length≤sizeLine):
  lcK fz eU fe is ⟨hs,fun _=>True,ds⟩ ⟨sl0,S⟩= .ok (.own (.lst ((List.range ds.length).map fun p=> .cell (S.nx+p)))) ⟨sl,gV (ds.map f) S⟩:=by
 unfold lcK
 rw [if_pos hN]
 show R.bind (R.nx (lz (fun _=>True) fz eU fe is ds [] ⟨dZ sl0 is,S⟩)) _=_
 rw [e0,xm h (by simpa using hl)]
 rfl
structure Grow (S S' :Sto):Prop where
 old:∀j,j<S.nx→S'.get j=S.get j
 nx:S.nx≤S'.nx
theorem rest_f1 {x:D}:hU "many" x ([]:List (Str×D))=([("many",x)]:List (Str×D)):=Eq.trans rfl rfl
theorem rest_f2 {x y:D}:hU "heads" x ([("many",y)]:List (Str×D))=([("many",y),("heads",x)]:List (Str×D)):=Eq.trans rfl rfl
theorem rest_f3 {x y z:D}:hU "rooms" x ([("many",y),("heads",z)]:List (Str×D))=([("many",y),("heads",z),("rooms",x)]:List (Str×D)):=Eq.trans rfl rfl
theorem rest_f4 {x y z u:D}:hU "starts" x ([("many",y),("heads",z),("rooms",u)]:List (Str×D))=([("many",y),("heads",z),("rooms",u),("starts",x)]:List (Str×D)):=Eq.trans rfl rfl
theorem rg62 (hz:m<sizeLine):(-(2 ^ 62)≤(m:Int)∧(m:Int)<2 ^ 62)=True:=eq_true ⟨by omega,by rw [sizeLine_eq] at hz; omega⟩
noncomputable def inD:SD→R Fl:=(cL ["Rest"] "starts" (aa 0) (dk (zLc (pO (zA (aa 1) zA0)) (zSt 2) eU (dk (cM zA0)) [2])))
theorem in_eq {g:SD→R Fl} (hg:g=inD):fY=(aj (cL ["Rest"] "many" (aa 0) (aa 1))
 (aj (cL ["Rest"] "heads" (aa 0) (dk (cM zA0)))
 (aj (cL ["Rest"] "rooms" (aa 0) (dk (cM zA0)))
 g))):=by
 subst hg
 rfl
section
variable {r:Nat} {Q:Fl→SD→Prop} {v2:Option Vl} {g:SD→R Fl}
theorem in_a (h:Wp (g ⟨[some (.d (.cell r)),some (.d (.int (m:Int))),v2],S.put r (.obj "Rest" [("many", .int (m:Int))])⟩) Q XF) (h1:S.get r=some (.obj "Rest" [])):Wp (((aj (cL ["Rest"] "many" (aa 0) (aa 1))
 g)) ⟨[some (.d (.cell r)),some (.d (.int (m:Int))),v2],S⟩) Q XF:=by
 simp! only [h1,rest_f1]
 exact h
theorem in_b (h:Wp (g ⟨[some (.d (.cell r)),some (.d (.int (m:Int))),v2],(S.new (.lst [])).put r (.obj "Rest" [("many", .int (m:Int)),("heads", .cell S.nx)])⟩) Q XF) (h1:S.get r=some (.obj "Rest" [("many", .int (m:Int))])) (h2:r<S.nx):Wp (((aj (cL ["Rest"] "heads" (aa 0) (dk (cM zA0)))
 g)) ⟨[some (.d (.cell r)),some (.d (.int (m:Int))),v2],S⟩) Q XF:=by
 have h3:∀x,(S.new x).get r=some (.obj "Rest" [("many", .int (m:Int))]):=fun x=>(iR (by omega)).trans h1
 simp! only [h3,rest_f2]
 exact h
theorem in_c (hh:Wp (g ⟨[some (.d (.cell r)),some (.d (.int (m:Int))),v2],(S.new (.lst [])).put r (.obj "Rest" [("many", .int (m:Int)),("heads",x),("rooms", .cell S.nx)])⟩) Q XF) (h1:S.get r=some (.obj "Rest" [("many", .int (m:Int)),("heads",x)])) (h2:r<S.nx):Wp (((aj (cL ["Rest"] "rooms" (aa 0) (dk (cM zA0)))
 g)) ⟨[some (.d (.cell r)),some (.d (.int (m:Int))),v2],S⟩) Q XF:=by
 have h3:∀y,(S.new y).get r=some (.obj "Rest" [("many", .int (m:Int)),("heads",x)]):=fun y=>(iR (by omega)).trans h1
 simp! only [h3,rest_f3]
 exact hh
def cellsN (n m:Nat):List D:=(List.range m).map fun p=> .cell (n+p)
theorem in_d (hg:g=inD) (hz:m<sizeLine) (h:Q .nx ⟨[some (.d (.cell r)),some (.d (.int (m:Int))),none],((gV (List.replicate m (.lst [])) S).new (.lst (cellsN S.nx m))).put r (.obj "Rest" [("many", .int (m:Int)),("heads",x),("rooms",y),("starts", .cell (S.nx+m))])⟩) (h1:S.get r=some (.obj "Rest" [("many", .int (m:Int)),("heads",x),("rooms",y)])) (h2:r<S.nx):Wp (g ⟨[some (.d (.cell r)),some (.d (.int (m:Int))),v2],S⟩) Q XF:=by
 subst hg
 have z0:=rg62 hz
 have hm:((m:Nat):Int).toNat=m:=Int.toNat_natCast m
 have len:(Z.upTo 0 m).length=m:=by unfold Z.upTo; rw [List.length_map,List.length_range]
 have nx1:(gV (List.replicate m (.lst [])) S).nx=S.nx+m:=by show S.nx+(List.replicate m _).length=_; rw [List.length_replicate]
 have h3:∀z,((gV (List.replicate m (.lst [])) S).new z).get r=some (.obj "Rest" [("many", .int (m:Int)),("heads",x),("rooms",y)]):=fun z=>(iR (by omega)).trans ((wZ h2).trans h1)
 unfold inD
 simp! only [z0,hm]
 rw [xn (f:=fun _=> .lst []) (sl:= [some (.d (.cell r)),some (.d (.int (m:Int))),none]) (fun e he=>(by cases he)) rfl (fun d hd S=>?_) (by rw [len]; omega)]
 ·rw [len,show (Z.upTo 0 m).map (fun _=>(.lst []:D))=List.replicate m (.lst []) by rw [List.map_const',len]]
  simp! only [nx1,h3,rest_f4]
  exact h
 ·simp! only []
end
theorem zH {S0:Sto} (hz:m<sizeLine):∃S',(∀sl,goF dN [.cell S0.nx, .int (m:Int)] ⟨sl,S0.new (.obj "Rest" [])⟩= .ok (.d .non) ⟨sl,S'⟩)∧RestAt S' S0.nx m [] []∧Grow S0 S'∧S'.nx=S0.nx+4+m:=by
 suffices h:Wp (fY ⟨[some (.d (.cell S0.nx)),some (.d (.int (m:Int))),none],S0.new (.obj "Rest" [])⟩) (fun fl s' =>flv fl=some (.d .non)∧RestAt s'.st S0.nx m [] []∧Grow S0 s'.st∧s'.st.nx=S0.nx+4+m) XF by
  obtain ⟨fl,s',e,h1,h2,h3,h4⟩:=h.is
  exact ⟨s'.st,fun sl=>dY (by show Wp (fY ⟨[some (.d (.cell S0.nx)),some (.d (.int (m:Int))),none],S0.new (.obj "Rest" [])⟩) _ _; rw [e]; exact ⟨h1,rfl⟩),h2,h3,h4⟩
 obtain ⟨g,hg⟩:∃g,g=inD:=⟨_,rfl⟩
 rw [in_eq hg]
 refine in_a ?_ dr
 rw [qJ]
 refine in_b ?_ dr (by show _<_+1; omega)
 refine in_c ?_ Z.Sto.put_same (by show _<_+1+1; omega)
 have a1:∀(S:Sto) x,(S.new x).nx=S.nx+1:=fun _ _=>rfl
 have a2:∀(S:Sto) i x,(S.put i x).nx=S.nx:=fun _ _ _=>rfl
 have a3:∀(S:Sto) i x j,(S.put i x).get j=if j=i then some x else S.get j:=fun _ _ _ _=>rfl
 have a4:∀(S:Sto) x j,(S.new x).get j=if j=S.nx then some x else S.get j:=fun _ _ _=>rfl
 have b1:(S0.nx+1=S0.nx)=False:=eq_false (by omega)
 have b2:(S0.nx+1+1=S0.nx)=False:=eq_false (by omega)
 have b3:(S0.nx+1=S0.nx+1+1)=False:=eq_false (by omega)
 generalize hT:((((S0.new (D.obj "Rest" [("many", .int (m:Int))])).new (.lst [])).put S0.nx (.obj "Rest" [("many", .int (m:Int)),("heads", .cell (S0.new (D.obj "Rest" [("many", .int (m:Int))])).nx)])).new (.lst [])).put S0.nx (.obj "Rest" [("many", .int (m:Int)),("heads", .cell (S0.new (D.obj "Rest" [("many", .int (m:Int))])).nx),("rooms", .cell (((S0.new (D.obj "Rest" [("many", .int (m:Int))])).new (.lst [])).put S0.nx (.obj "Rest" [("many", .int (m:Int)),("heads", .cell (S0.new (D.obj "Rest" [("many", .int (m:Int))])).nx)])).nx)])=T
 have t0:T.get S0.nx=some (.obj "Rest" [("many", .int (m:Int)),("heads", .cell (S0.nx+1)),("rooms", .cell (S0.nx+1+1))]):=by rw [←hT,a3,if_pos rfl]; rfl
 have t1:T.get (S0.nx+1)=some (.lst []):=by rw [←hT]; simp only [a1,a2,a3,a4,b1,b3,if_false,if_true]
 have t2:T.get (S0.nx+2)=some (.lst []):=by rw [←hT]; rw [show S0.nx+2=S0.nx+1+1 from rfl]; simp only [a1,a2,a3,a4,b2,if_false,if_true]
 have t3:T.nx=S0.nx+3:=by rw [←hT]; rfl
 have t4:∀j,j<S0.nx→T.get j=S0.get j:=fun j hj=>by
  have b4:(j=S0.nx)=False:=eq_false (by omega)
  have b5:(j=S0.nx+1)=False:=eq_false (by omega)
  have b6:(j=S0.nx+1+1)=False:=eq_false (by omega)
  rw [←hT]; simp only [a1,a2,a3,a4,b4,b5,b6,if_false]
 clear hT a1 a2 a3 a4 b1 b2 b3
 refine in_d hg hz ?_ t0 (by omega)
 clear hg
 have nx1:(gV (List.replicate m (.lst [])) T).nx=S0.nx+3+m:=by show T.nx+(List.replicate m _).length=_; rw [List.length_replicate,t3]
 have lt:∀j,j<S0.nx+3→(gV (List.replicate m (.lst [])) T).get j=T.get j:=fun j hj=>wZ (by omega)
 have ge:∀p,p<m→(gV (List.replicate m (.lst [])) T).get (S0.nx+3+p)=some (.lst []):=fun p hp=>by
  rw [←t3]
  exact xa (by rw [List.getElem?_replicate,if_pos hp])
 generalize hN:gV (List.replicate m (.lst [])) T=N at nx1 lt ge ⊢
 have gt:∀j x y,j≠S0.nx→j≠S0.nx+3+m→((N.new x).put S0.nx y).get j=N.get j:=fun j x y h1 h2=>(Z.Sto.put_ne h1).trans (iR (by omega))
 refine ⟨rfl,⟨?_, ?_, ?_, ?_, ?_, ?_,rfl,fun a h=>(by cases h)⟩,⟨?_, ?_⟩, ?_⟩
 ·show ((N.new _).put S0.nx _).get S0.nx=_
  rw [Z.Sto.put_same,t3]
 ·exact (gt _ _ _ (by omega) (by omega)).trans ((lt _ (by omega)).trans t1)
 ·exact (gt _ _ _ (by omega) (by omega)).trans ((lt _ (by omega)).trans t2)
 ·show ((N.new _).put S0.nx _).get (S0.nx+3+m)=_
  rw [Z.Sto.put_ne (by omega),←nx1,dr,t3]
  rfl
 ·exact fun p hp=>(gt _ _ _ (by omega) (by omega)).trans (ge p hp)
 ·show S0.nx+4+m≤N.nx+1
  omega
 ·exact fun j hj=>(gt _ _ _ (by omega) (by omega)).trans ((lt _ (by omega)).trans (t4 j hj))
 ·show S0.nx≤N.nx+1
  omega
 ·show N.nx+1=_
  omega
noncomputable def paI:SD→R Fl:=(aj (aN (zM2 isL (oB2 bf) (z2 oIx (z1 (bg ["Rest"] "starts") (aa 0)) (aa 5)) (aZ (z1 jn (z1 (bg ["Rest"] "heads") (aa 0))))))
 (aj (aN (zM2 isL (oB2 bf) (z1 (bg ["Rest"] "heads") (aa 0)) (aZ (aa 6))))
 (aN (zM2 isL (oB2 bf) (z1 (bg ["Rest"] "rooms") (aa 0)) (aZ (aa 7))))))
theorem pa_eq:eR=(aj (eJ (B4 (aZ (dj (zA (dj (zA (aa 1) (zA (aa 2) (zA (aa 3) zA0)))) (zA (dj (zA (aa 2) (zA (aa 1) (zA (aa 4) zA0)))) zA0))))) (kj [5,6,7]) paI)
 (bo (z2 tE (z2 fk (z1 jn (z1 (bg ["Rest"] "heads") (aa 0))) (zC (.int 2))) (zC (.int 1))))):=rfl
abbrev paS (r:Nat) (v1 v2 v3 v4:Option Vl) (p q:Nat) (x:D) (S:Sto):SD:=
 ⟨[some (.d (.cell r)),v1,v2,v3,v4,some (.d (.int (p:Int))),some (.d (.int (q:Int))),some (.d x)],S⟩
theorem Ad {v1 v2 v3 v4:Option Vl} {l1 l2 l3:List D} (o:S.get r=some (.obj "Rest" (fj r m))) (h:S.get (r+1)=some (.lst l2)) (k:S.get (r+2)=some (.lst l3))
  (s:S.get (r+3+m)=some (.lst ((List.range m).map fun p=> .cell (r+3+p)))) (h1:S.get (r+3+p)=some (.lst l1)) (hp:p<m) (z1:l1.length<sizeLine) (z2:l2.length<sizeLine) (z3:l3.length<sizeLine):
  paI (paS r v1 v2 v3 v4 p q x S)= .ok .nx (paS r v1 v2 v3 v4 p q x (((S.put (r+3+p) (.lst (l1++ [.int (l2.length:Int)]))).put (r+1) (.lst (l2++ [.int (q:Int)]))).put (r+2) (.lst (l3++ [x])))):=by
 have h4:∀s:SD,ixK s (some (.lst ((List.range m).map fun p=>D.cell (r+3+p)))) (some (.int (p:Int)))= .ok (.d (.cell (r+3+p))) s:=fun s=>ixR (f:=fun p=>D.cell (r+3+p)) hp
 have y1:(l1.length<sizeLine)=True:=eq_true z1
 have y2:(l2.length<sizeLine)=True:=eq_true z2
 have y3:(l3.length<sizeLine)=True:=eq_true z3
 have e1:∀y,(S.put (r+3+p) y).get r=some (.obj "Rest" (fj r m)):=fun y=>(Z.Sto.put_ne (by omega)).trans o
 have e2:∀y,(S.put (r+3+p) y).get (r+1)=some (.lst l2):=fun y=>(Z.Sto.put_ne (by omega)).trans h
 have e3:∀y z,((S.put (r+3+p) y).put (r+1) z).get r=some (.obj "Rest" (fj r m)):=fun y z=>(Z.Sto.put_ne (by omega)).trans (e1 y)
 have e4:∀y z,((S.put (r+3+p) y).put (r+1) z).get (r+2)=some (.lst l3):=fun y z=>(Z.Sto.put_ne (by omega)).trans ((Z.Sto.put_ne (by omega)).trans k)
 unfold paI
 simp! only [au sV,au iz,au cX,o,h,k,s,h1,h4,y1,y2,y3,e1,e2,e3,e4]
theorem A5 {u b:Option Int} (R:RestAt S r m as rs) (ht:t<m) (hh:h<m) (hn:t≠h) (hz:2*as.length+2<sizeLine):
  ∃S',(∀sl,goF bQ [.cell r, .int (t:Int), .int (h:Int),rD u,rD b] ⟨sl,S⟩= .ok (.d (.int (as.length:Int))) ⟨sl,S'⟩)∧RestAt S' r m (as++ [(t,h)]) (rs++ [u,b])∧S'.nx=S.nx∧∀j,(j<r∨r+4+m≤j)→S'.get j=S.get j:=by
 have R0:=R
 obtain ⟨o,h1,k,s,p,nx,len,ok⟩:=R
 have lh:((jq as).map nD).length=2*as.length:=by unfold jq; rw [List.length_map,List.length_map,List.length_range]
 have lr:(rs.map rD).length=2*as.length:=by rw [List.length_map,len]
 have lst:∀q,((starts as q).map nD).length≤2*as.length:=fun q=>by
  rw [List.length_map]
  unfold Rs.starts
  exact Nat.le_trans (List.length_filter_le ..) (by rw [List.length_range]; exact Nat.le_refl _)
 have e1:=fun v1 v2 v3 v4=>Ad (v1:=v1) (v2:=v2) (v3:=v3) (v4:=v4) (q:=h) (x:=rD u) o h1 k s (p t ht) ht (by have:=lst t; omega) (by omega) (by omega)
 rw [lh] at e1
 generalize hS:((S.put (r+3+t) (.lst ((starts as t).map nD++ [.int ((2*as.length:Nat):Int)]))).put (r+1) (.lst ((jq as).map nD++ [.int (h:Int)]))).put (r+2) (.lst (rs.map rD++ [rD u]))=T at e1
 have tne:∀j,j≠r+3+t→j≠r+1→j≠r+2→T.get j=S.get j:=fun j c1 c2 c3=>by
  rw [←hS,Z.Sto.put_ne c3,Z.Sto.put_ne c2,Z.Sto.put_ne c1]
 have t1:T.get (r+3+t)=some (.lst ((starts as t).map nD++ [.int ((2*as.length:Nat):Int)])):=by
  rw [←hS,Z.Sto.put_ne (by omega),Z.Sto.put_ne (by omega),Z.Sto.put_same]
 have t2:T.get (r+1)=some (.lst ((jq as).map nD++ [.int (h:Int)])):=by
  rw [←hS,Z.Sto.put_ne (by omega),Z.Sto.put_same]
 have t3:T.get (r+2)=some (.lst (rs.map rD++ [rD u])):=by
  rw [←hS,Z.Sto.put_same]
 have tn:T.nx=S.nx:=by rw [←hS]; rfl
 have e2:=fun v1 v2 v3 v4=>Ad (v1:=v1) (v2:=v2) (v3:=v3) (v4:=v4) (q:=t) (x:=rD b) ((tne r (by omega) (by omega) (by omega)).trans o) t2 t3 ((tne _ (by omega) (by omega) (by omega)).trans s) ((tne (r+3+h) (by omega) (by omega) (by omega)).trans (p h hh)) hh (by have:=lst h; omega) (by rw [List.length_append,lh]; show _+1<_; omega) (by rw [List.length_append,lr]; show _+1<_; omega)
 rw [List.length_append,lh] at e2
 generalize hS2:((T.put (r+3+h) (.lst ((starts as h).map nD++ [.int ((2*as.length+ [D.int (h:Int)].length:Nat):Int)]))).put (r+1) (.lst ((jq as).map nD++ [.int (h:Int)]++ [.int (t:Int)]))).put (r+2) (.lst (rs.map rD++ [rD u]++ [rD b]))=T2 at e2
 have une:∀j,j≠r+3+h→j≠r+1→j≠r+2→T2.get j=T.get j:=fun j c1 c2 c3=>by
  rw [←hS2,Z.Sto.put_ne c3,Z.Sto.put_ne c2,Z.Sto.put_ne c1]
 have u1:T2.get (r+3+h)=some (.lst ((starts as h).map nD++ [.int ((2*as.length+ [D.int (h:Int)].length:Nat):Int)])):=by
  rw [←hS2,Z.Sto.put_ne (by omega),Z.Sto.put_ne (by omega),Z.Sto.put_same]
 have u2:T2.get (r+1)=some (.lst ((jq as).map nD++ [.int (h:Int)]++ [.int (t:Int)])):=by
  rw [←hS2,Z.Sto.put_ne (by omega),Z.Sto.put_same]
 have u3:T2.get (r+2)=some (.lst (rs.map rD++ [rD u]++ [rD b])):=by
  rw [←hS2,Z.Sto.put_same]
 have un:T2.nx=T.nx:=by rw [←hS2]; rfl
 refine ⟨T2,fun sl=>?_,⟨?_, ?_, ?_, ?_, ?_, ?_, ?_,ok.app ht hh⟩,un.trans tn,fun j hj=>(une j (by omega) (by omega) (by omega)).trans (tne j (by omega) (by omega) (by omega))⟩
 ·refine dY ?_
  show Wp (eR ⟨[some (.d (.cell r)),some (.d (.int (t:Int))),some (.d (.int (h:Int))),some (.d (rD u)),some (.d (rD b)),none,none,none],S⟩) _ _
  rw [pa_eq]
  have o2:T2.get r=some (.obj "Rest" (fj r m)):=(une r (by omega) (by omega) (by omega)).trans ((tne r (by omega) (by omega) (by omega)).trans o)
  have z:∀i:Int,CDivW i 2=True:=fun i=>eq_true (aw (by decide) (by decide))
  have l2:(((jq as).map nD++ [D.int (h:Int)]++ [D.int (t:Int)]).length:Int) / 2 - 1=(as.length:Int):=by
   rw [List.length_append,List.length_append,lh]
   show ((2*as.length+1+1:Nat):Int) / 2 - 1=_
   omega
  clear hS hS2 tne une t1 t2 t3 u1 u3
  simp! only [Bc,x_lpn,x_lp2,e1,e2,o2,u2,au iz,z,l2]
 ·exact (une r (by omega) (by omega) (by omega)).trans ((tne r (by omega) (by omega) (by omega)).trans o)
 ·rw [u2,Rs.AV,List.map_append,List.append_assoc]
  rfl
 ·rw [u3,List.map_append,List.append_assoc]
  rfl
 ·exact (une _ (by omega) (by omega) (by omega)).trans ((tne _ (by omega) (by omega) (by omega)).trans s)
 ·intro q hq
  rw [Rs.xK,List.map_append,List.map_append]
  by_cases c1:h=q
  ·subst c1
   rw [u1,if_neg hn,if_pos rfl]
   rfl
  ·rw [une _ (by omega) (by omega) (by omega),if_neg (show¬(t,h).2=q from c1)]
   by_cases c2:t=q
   ·subst c2
    rw [t1,if_pos rfl]
    rfl
   ·rw [tne _ (by omega) (by omega) (by omega),if_neg (show¬(t,h).1=q from c2),p q hq]
    simp
 ·rw [un,tn]; exact nx
 ·rw [List.length_append,List.length_append,len]; show _=2*(as.length+1); show _+2=_; omega
end
end T

set_option maxHeartbeats 4000000
namespace T
open PySem PySem.Spec PyProof.Rows L2 M Z
open Classical
local macro_rules | `(tactic| walk_at "zi") => `(tactic| repeat (refine Z.iteW (by first | decide | omega | (refine M.aw ?_ ?_ <;> omega) | (refine M.cQ ?_ ?_ ?_ ?_ <;> omega)) ?_))
section
variable {s:SD}
theorem sqBd {a b:Int} (h0:0≤a) (h1:a≤b):0≤a*a∧a*a≤b*b:=⟨Int.mul_nonneg h0 h0,Int.mul_le_mul h1 h1 h0 (by omega)⟩
theorem BO {ns:List Int} (k:Int) (h:ns≠ []):∃c:Int,∀s:SD,ixK s (some (.con (ns.map .int))) (some (.int (k%((ns.map D.int).length:Int))))= .ok (.d (.int c)) s:=by
 have h1:0<(ns.length:Int):=by
  cases ns with
  | nil=>exact absurd rfl h
  | cons a r=>simp
 have h2:=Int.emod_nonneg k (b:=(ns.length:Int)) (by omega)
 have h3:=Int.emod_lt_of_pos k h1
 rw [List.length_map]
 refine ⟨ns.getD (k%(ns.length:Int)).toNat 0,fun s=>bj ?_⟩
 show atI (ns.map D.int) _=_
 rw [sj,atI_in 0 h2 h3]
 rfl
theorem jS (ns:List Int) (k:Int) (h0:0≤k) (h1:k≤1000):∃n:Int,0≤n∧n<2147483629∧∀s:SD,goF bc [.con (ns.map .int), .int k] s= .ok (.d (.int n)) s:=by
 have h4:=sqBd (a:=k+3) (b:=1003) (by omega) (by omega)
 by_cases hn:ns= []
 ·subst hn
  refine ⟨((1:Int)%2147483629*48271+(k+3)*(k+3)*69621)%2147483647*16807%2147483629,by omega,by omega,fun s=>?_⟩
  refine oV ?_
  show Wp (ig ⟨[some (.d (.con [])),some (.d (.int k)),none,none],s.st⟩) _ _
  unfold ig
  have e1:decide ((([]:List D).length:Int) > 0)=false:=by decide
  simp! only [e1]
  walk_at "zi"
  trivial
 ·obtain ⟨c,ec⟩:=BO k hn
  refine ⟨(c%2147483629*48271+(k+3)*(k+3)*69621)%2147483647*16807%2147483629,by omega,by omega,fun s=>?_⟩
  refine oV ?_
  show Wp (ig ⟨[some (.d (.con (ns.map .int))),some (.d (.int k)),none,none],s.st⟩) _ _
  unfold ig
  have hp:((ns.map D.int).length:Int) > 0:=by
   rw [List.length_map]
   cases ns with
   | nil=>exact absurd rfl hn
   | cons a r=>simp
  have e1:decide (((ns.map D.int).length:Int) > 0)=true:=decide_eq_true hp
  have e2:(0<((ns.map D.int).length:Int))=True:=eq_true hp
  simp! only [e1,e2,ec]
  walk_at "zi"
  trivial
theorem cpw60:sx 10 60=True:=eq_true ⟨by decide,by decide⟩
theorem cpw61:sx 7 61=True:=eq_true ⟨by decide,by decide⟩
theorem powM:(10:Int) ^ (60:Int).toNat=1000000000000000000000000000000000000000000000000000000000000:=by decide+kernel
theorem pow7:(7:Int) ^ (61:Int).toNat=3556153025177363557255317383565515512407041673852007:=by decide+kernel
theorem DF (ns:List Int) (k:Int) (h0:0≤k) (h1:k≤1000):∃n:Int,0≤n∧n≤1000000000000000000000000000000000000000000000000000000000000∧∀s:SD,goF lS [.con (ns.map .int), .int k] s= .ok (.d (.int n)) s:=by
 have h4:=sqBd (a:=k) (b:=1000) (by omega) (by omega)
 by_cases hn:ns= []
 ·subst hn
  refine ⟨(1%1000000000000000000000000000000000000000000000000000000000000+1+k*k)*3556153025177363557255317383565515512407041673852007%(1000000000000000000000000000000000000000000000000000000000000+1),by omega,by omega,fun s=>?_⟩
  refine oV ?_
  show Wp (kg ⟨[some (.d (.con [])),some (.d (.int k)),none],s.st⟩) _ _
  unfold kg
  have e1:decide ((([]:List D).length:Int) > 0)=false:=by decide
  simp! only [e1,cpw60,cpw61,powM,pow7]
  walk_at "zi"
  trivial
 ·obtain ⟨c,ec⟩:=BO k hn
  refine ⟨(c%1000000000000000000000000000000000000000000000000000000000000+1+k*k)*3556153025177363557255317383565515512407041673852007%(1000000000000000000000000000000000000000000000000000000000000+1),by omega,by omega,fun s=>?_⟩
  refine oV ?_
  show Wp (kg ⟨[some (.d (.con (ns.map .int))),some (.d (.int k)),none],s.st⟩) _ _
  unfold kg
  have hp:((ns.map D.int).length:Int) > 0:=by
   rw [List.length_map]
   cases ns with
   | nil=>exact absurd rfl hn
   | cons a r=>simp
  have e1:decide (((ns.map D.int).length:Int) > 0)=true:=decide_eq_true hp
  have e2:(0<((ns.map D.int).length:Int))=True:=eq_true hp
  simp! only [e1,e2,ec,cpw60,cpw61,powM,pow7]
  walk_at "zi"
  trivial
end
section
variable {s:SD} {x z:D}
def AQ:D→Bool
 | .int _=>true
 | _=>false
theorem cP {n:String} (h:x.knd=some n):goF bF [x] s= .ok (.d (.bl (AQ x))) s:=by
 refine oV ?_
 show Wp (lg ⟨[some (.d x)],s.st⟩) _ _
 unfold lg
 cases x<;> first | (walk_at "zs" <;> rfl) | cases h
def isAm (lo hi:Int):D→Bool
 | .int i=>decide (lo≤i)&&decide (i≤hi)
 | _=>false
theorem kS {n:String} {lo hi:Int} (h:x.knd=some n):goF bX [x, .int lo, .int hi] s= .ok (.d (.bl (isAm lo hi x))) s:=by
 refine oV ?_
 show Wp (lj ⟨[some (.d x),some (.d (.int lo)),some (.d (.int hi))],s.st⟩) _ _
 unfold lj
 have h1:∀s:SD,goF bF [x] s= .ok (.d (.bl (AQ x))) s:=fun s=>cP h
 cases x<;> dsimp only [AQ] at h1<;> first | (walk_at "zs" <;> rfl) | cases h | skip
 all_goals walk_at "zs"
 split<;> rename_i c<;> simp only [isAm]<;> simp only [decide_eq_true_eq] at c<;> simp [c]
def ki (z b:Str):Bool:=z.cps.toList.all fun c=>decide (c∈b.cps.toList)
theorem vN {z b:Str} (hz:z.length≤1000000):goF iW [.str z, .str b] s= .ok (.d (.bl (ki z b))) s:=by
 refine oV ?_
 show Wp (jy ⟨[some (.d (.str z)),some (.d (.str b)),none],s.st⟩) _ _
 unfold jy
 walk_at "zs"
 rw [lG (fun d=>match dIn d (.str b) with | some r=> .bl r | none=> .non) rfl Nl.d1 trivial (fun d hd=>?_) (by show (Z.signs z).length≤_; unfold Z.signs; rw [List.length_map]; exact Nat.le_trans hz (by decide))]
 ·walk_at "zs"
  rw [oG (bs:=z.cps.toList.map fun c=>decide (c∈b.cps.toList)) (by
   show DO ((Z.signs z).map _)=_
   unfold Z.signs
   rw [List.map_map]
   exact iE _ _)]
  walk_at "zs"
  unfold ki
  rw [List.all_map]
  rfl
 ·obtain ⟨c,_,rfl⟩:=List.mem_map.mp hd
  unfold Z.jB
  walk_at "zs"
  rw [nN (r:=decide (c∈b.cps.toList)) rfl]
  walk_at "zs"
  rfl
def isNm:D→Bool
 | .str z=>decide (1≤z.length)&&decide (z.length≤12)&&ki z "abcdefghijklmnopqrstuvwxyz"
 | _=>false
theorem A6 {z:Str} (hz:z.length≤1000000):goF mz [.str z] s= .ok (.d (.bl (isNm (.str z)))) s:=by
 refine oV ?_
 show Wp (ox ⟨[some (.d (.str z))],s.st⟩) _ _
 unfold ox
 have h1:=fun (s:SD) b=>vN (s:=s) (b:=b) hz
 have h2:z.length≤sizeLine:=Nat.le_trans hz (by decide)
 walk_at "zs"
 have e1:decide (1≤(z.length:Int))=decide (1≤z.length):=by apply decide_eq_decide.mpr; omega
 have e2:decide ((z.length:Int)≤12)=decide (z.length≤12):=by apply decide_eq_decide.mpr; omega
 rw [e1,e2]
 simp only [isNm]
 cases decide (1≤z.length)<;> cases decide (z.length≤12)<;> simp
abbrev M60:Int:=1000000000000000000000000000000000000000000000000000000000000
def rmOk (l:Int):D→Bool
 | .non=>true
 | .int m=>decide (l≤m)&&decide (m≤M60)
 | _=>false
theorem vM {l:Int} (h0:0≤l) (h1:l≤M60) (h:rmOk l x=true):goF iV [.int l,x] s= .ok (.d .non) s:=by
 refine oV ?_
 show Wp (jx ⟨[some (.d (.int l)),some (.d x)],s.st⟩) _ _
 unfold jx
 have k1:∀(s:SD),goF bX [.int l, .int 0, .int M60] s= .ok (.d (.bl true)) s:=fun s=>by
  rw [kS (n:= "int") rfl]
  simp only [isAm,h0,h1,decide_true,Bool.and_self]
 cases x with
 | non=>walk_at "zs"
 | int m=>
  have k2:∀(s:SD),goF bX [.int m, .int l, .int M60] s= .ok (.d (.bl true)) s:=fun s=>by
   rw [kS (n:= "int") rfl]
   rw [show isAm l M60 (.int m)=true from h]
  walk_at "zs"
 | _=>cases h
theorem tZ {p:Int} (h0: -M60≤p) (h1:p≤M60):goF gG [.int p] s= .ok (.d .non) s:=by
 refine oV ?_
 show Wp (hZ ⟨[some (.d (.int p))],s.st⟩) _ _
 unfold hZ
 have k1:∀(s:SD),goF bX [.int p, .int (0 - M60), .int M60] s= .ok (.d (.bl true)) s:=fun s=>by
  rw [kS (n:= "int") rfl]
  simp only [isAm,show (0 - M60≤p) from by omega,h1,decide_true,Bool.and_self]
 walk_at "zs"
end
structure TD where
 tail:Str
 head:Str
 least:Int
 most:Option Int
 price:Int
structure ND where
 names:List Str
 ties:List (Int×TD)
 given:Int
def ef:Option Int→D
 | none=> .non
 | some m=> .int m
def wH (i:Int) (t:TD):List (Str×D):= [("number", .int i),("tail", .str t.tail),("head", .str t.head),("least", .int t.least),("most",ef t.most),("price", .int t.price)]
def bB (q:Int×TD):D:= .obj "Tie" (wH q.1 q.2)
def cO (f:Int×TD→D) (ts:List (Int×TD)):List (Key×D):=ts.map fun q=>(.inl q.1,f q)
def lF (l d:Nat) (g:Int):List (Str×D):= [("names", .cell l),("rows", .cell d),("last_given", .int g)]
structure NetAt (S:Sto) (n l d:Nat) (N:ND):Prop where
 n:S.get n=some (.obj "Net" (lF l d N.given))
 l:S.get l=some (.lst (N.names.map .str))
 d:S.get d=some (.dct (cO bB N.ties))
section
variable {l d:Nat} {g i:Int} {t:TD}
theorem qH:dI (lF l d g) "names" =some (.cell l):=rfl
theorem vo:dI (lF l d g) "rows" =some (.cell d):=rfl
theorem qI:dI (lF l d g) "last_given" =some (.int g):=rfl
theorem mD:dI (wH i t) "number" =some (.int i):=rfl
theorem uK:dI (wH i t) "tail" =some (.str t.tail):=rfl
theorem uM:dI (wH i t) "head" =some (.str t.head):=rfl
theorem qg:dI (wH i t) "least" =some (.int t.least):=rfl
theorem uL:dI (wH i t) "most" =some (ef t.most):=rfl
theorem qf:dI (wH i t) "price" =some (.int t.price):=rfl
theorem fO:dI (lF l d g) "need_place" =none:=rfl
theorem dV:dI (lF l d g) "put_numbered" =none:=rfl
theorem nr:dI (lF l d g) "tie_of" =none:=rfl
theorem mN_ties:dI (lF l d g) "ties" =none:=rfl
theorem AG:dI (lF l d g) "places" =none:=rfl
theorem Ds:dI (lF l d g) "given" =none:=rfl
end
local macro_rules | `(tactic| walk_at "zn") => `(tactic| simp! only [Z.au T.qH, Z.au T.vo, Z.au T.qI, Z.au T.mD, Z.au T.uK, Z.au T.uM, Z.au T.qg, Z.au T.uL, Z.au T.qf, Z.ak T.fO, Z.ak T.dV, Z.ak T.nr, *])
section
variable {s:SD} {S:Sto} {sl:List (Option Vl)} {x y z:D} {n l d:Nat} {N:ND} {g i:Int} {t:TD} {a b:D}
theorem jQ (h:NetAt S n l d N):goF bh [.cell n] ⟨sl,S⟩= .ok (.own (.lst (N.names.map .str))) ⟨sl,S⟩:=by
 refine dY ?_
 show Wp (ic ⟨[some (.d (.cell n))],S⟩) _ _
 unfold ic
 have h1:=h.n
 have h2:=h.l
 walk_at "zn"
theorem g_given (h:NetAt S n l d N):goF iX [.cell n] ⟨sl,S⟩= .ok (.d (.int N.given)) ⟨sl,S⟩:=by
 refine dY ?_
 show Wp (jA ⟨[some (.d (.cell n))],S⟩) _ _
 unfold jA
 have h1:=h.n
 walk_at "zn"
theorem qn:∀l:List Str,scs (l.map D.str)=some (l.map V.str)
 | []=>rfl
 | a::l=>by rw [List.map_cons,scs,qn l]; rfl
theorem AS (z:Str):∀l:List Str,inV (.str z) (l.map V.str)=decide (z∈l)
 | []=>rfl
 | y::r=>by
  have ih:=AS z r
  unfold inV at ih ⊢
  rw [List.map_cons,List.any_cons,ih]
  rw [Bool.eq_iff_iff]
  simp only [Bool.or_eq_true,decide_eq_true_eq,List.mem_cons]
  have e:eqV (V.str y) (V.str z)=true↔z=y:=by
   show (y == z)=true↔_
   rw [beq_iff_eq]
   exact eq_comm
  rw [e]
theorem rg {w:Str} {l:List Str}:dIn (.str w) (.lst (l.map .str))=some (decide (w∈l)):=by
 unfold dIn
 simp only [qn,D.sc]
 rw [AS]
theorem cg {w:Str} (h:NetAt S n l d N) (hw:w∈N.names):goF aG [.cell n, .str w] ⟨sl,S⟩= .ok (.d .non) ⟨sl,S⟩:=by
 refine dY ?_
 show Wp (bE ⟨[some (.d (.cell n)),some (.d (.str w))],S⟩) _ _
 unfold bE
 have h1:=h.n
 have h2:=h.l
 have h3:=fun s:SD=>nN (s:=s) (neg:=true) (rg (w:=w) (l:=N.names))
 rw [decide_eq_true hw] at h3
 walk_at "zn"
def xI (ts:List (Int×TD)) (i:Int):Option TD:=(ts.find? fun q=>decide (q.1=i)).map (·.2)
theorem ui {f:Int×TD→D}:∀ts:List (Int×TD),fS (cO f ts) (.inl i)=(xI ts i).map fun t=>f (i,t)
 | []=>rfl
 | q::ts=>by
  have ih:=ui (f:=f) ts
  unfold fS xI cO at*
  rw [List.map_cons,List.find?_cons,List.find?_cons]
  by_cases c:q.1=i
  ·simp only [c,decide_true,Option.map_some]
   rw [←c]
  ·rw [show decide ((Sum.inl q.1:Key)= .inl i)=false from decide_eq_false fun e=>c (Sum.inl.inj e),show decide (q.1=i)=false from decide_eq_false c]
   exact ih
def xG (rs:List (Int×TD)):Prop:=(rs.map (·.1)).Pairwise (· < ·)
theorem CI {is:List Int} (h:is.Pairwise (· < ·)):srt is=is:=
 (zf (ys:=is) (List.Perm.refl _) (h.imp fun h=>Int.le_of_lt h)).symm
theorem yf (l:List Int):lP (l.map D.int)=some l:=by
 have:=oi (fun i:Int=>i) l
 simpa using this
theorem mB:∀{ts:List (Int×TD)} (hr:xG ts) {q:Int×TD},q∈ts→xI ts q.1=some q.2
 | [],_,q,h=>by cases h
 | a::ts,hr,q,h=>by
  unfold xG at hr
  rw [List.map_cons,List.pairwise_cons] at hr
  unfold xI
  rw [List.find?_cons]
  rcases List.mem_cons.mp h with rfl | h
  ·simp
  ·have c:a.1≠q.1:=fun e=>by
    have:=hr.1 q.1 (List.mem_map.mpr ⟨q,h,rfl⟩)
    omega
   rw [show decide (a.1=q.1)=false from decide_eq_false c]
   exact mB hr.2 h
theorem iU (h:NetAt S n l d N) (hr:xG N.ties) (hl:N.ties.length≤40):goF bb [.cell n] ⟨sl,S⟩= .ok (.own (.lst (N.ties.map bB))) ⟨sl,S⟩:=by
 refine dY ?_
 show Wp (lx ⟨[some (.d (.cell n)),none],S⟩) _ _
 unfold lx
 have h1:=h.n
 have h2:=h.d
 have e1:lP ((cO bB N.ties).map fun kv=>lX kv.1)=some (N.ties.map (·.1)):=by
  have:((cO bB N.ties).map fun kv=>lX kv.1)=(N.ties.map (·.1)).map D.int:=by
   unfold cO
   rw [List.map_map,List.map_map]
   rfl
  rw [this]
  exact yf _
 have h3:=fun s:SD=>yI (s:=s) (a:= .own (.lst ((cO bB N.ties).map fun kv=>lX kv.1))) rfl e1
 rw [CI hr] at h3
 walk_at "zn"
 rw [lG (fun x=>match x with | .int i=>(match xI N.ties i with | some t=>bB (i,t) | none=> .non) | _=> .non) rfl Nl.d1 trivial (fun x hx=>?_) (by show (List.map D.int _).length≤_; rw [List.length_map,List.length_map]; exact Nat.le_trans hl (by decide))]
 ·walk_at "zn"
  rw [List.map_map,List.map_map]
  show some (Vl.own (.lst _))=_
  congr 3
  refine List.map_congr_left fun q hq=>?_
  show (match xI N.ties q.1 with | some t=>bB (q.1,t) | none=> .non)=bB q
  rw [mB hr hq]
 ·obtain ⟨i,hi,rfl⟩:=List.mem_map.mp hx
  obtain ⟨q,hq,rfl⟩:=List.mem_map.mp hi
  have ht:=mB hr hq
  have e:=ui (f:=bB) (i:=q.1) N.ties
  rw [ht] at e
  have h5:dIx (.dct (cO bB N.ties)) (.int q.1)=some (bB q):=e
  have h7:=fun s:SD=>bj (s:=s) h5
  unfold Z.jB
  walk_at "zn"
theorem vL {w:Str} (h:NetAt S n l d N) (hw:isNm (.str w)=true) (hz:w.length≤1000000) (hn:w∉N.names) (hl:N.names.length<14):
  goF cq [.cell n, .str w] ⟨sl,S⟩= .ok (.d .non) ⟨sl,S.put l (.lst ((N.names++ [w]).map .str))⟩:=by
 refine dY ?_
 show Wp (dX ⟨[some (.d (.cell n)),some (.d (.str w))],S⟩) _ _
 unfold dX
 have h1:=h.n
 have h2:=h.l
 have h3:=fun s:SD=>A6 (s:=s) hz
 have h4:=fun s:SD=>nN (s:=s) (neg:=false) (rg (w:=w) (l:=N.names))
 rw [decide_eq_false hn] at h4
 have h5:((((N.names.map D.str).length:Nat):Int)=14)=False:=by
  rw [List.length_map]
  exact eq_false (by omega)
 have h7:(N.names.map D.str).length<sizeLine:=by rw [List.length_map]; exact Nat.lt_trans hl (by decide)
 walk_at "zn"
 simp only [List.map_append,List.map_cons,List.map_nil]
def km (ts:List (Int×TD)) (i:Int) (t:TD):List (Int×TD):=if (ts.any fun q=>decide (q.1=i))=true then ts.map (fun q=>if q.1=i then (i,t) else q) else ts++ [(i,t)]
def dropT (ts:List (Int×TD)) (i:Int):List (Int×TD):=ts.filter fun q=>decide (q.1≠i)
theorem D4 {f:Int×TD→D} (ts:List (Int×TD)):((cO f ts).any fun kv=>decide (kv.1= .inl i))=ts.any fun q=>decide (q.1=i):=by
 unfold cO
 rw [List.any_map]
 congr 1
 funext q
 apply decide_eq_decide.mpr
 exact ⟨fun h=>Sum.inl.inj h,fun h=>by show (Sum.inl q.1:Key)=_; rw [h]⟩
theorem BC {f:Int×TD→D} (ts:List (Int×TD)):jt (cO f ts) (.inl i) (f (i,t))=cO f (km ts i t):=by
 unfold jt km
 rw [D4]
 split
 ·unfold cO
  rw [List.map_map,List.map_map]
  refine List.map_congr_left fun q _=>?_
  show (if (Sum.inl q.1:Key)= .inl i then _ else _)=_
  by_cases c:q.1=i
  ·simp [c]
  ·have c2:¬(Sum.inl q.1:Key)= .inl i:=fun e=>c (Sum.inl.inj e)
   simp [c,c2]
 ·unfold cO
  rw [List.map_append]
  rfl
theorem NetAt.ne (h:NetAt S n l d N):n≠l∧n≠d∧l≠d:=by
 have h1:=h.n
 have h2:=h.l
 have h3:=h.d
 refine ⟨fun e=>?_,fun e=>?_,fun e=>?_⟩
 ·rw [e,h2] at h1; cases h1
 ·rw [e,h3] at h1; cases h1
 ·rw [e,h3] at h2; cases h2
theorem pt1:hU "number" x []=([("number",x)]:List (Str×D)):=rfl
theorem pt2:hU "tail" x [("number",a)]=([("number",a),("tail",x)]:List (Str×D)):=rfl
variable {c e m:D}
theorem pt3:hU "head" x [("number",a),("tail",b)]=([("number",a),("tail",b),("head",x)]:List (Str×D)):=rfl
theorem pt4:hU "least" x [("number",a),("tail",b),("head",c)]=([("number",a),("tail",b),("head",c),("least",x)]:List (Str×D)):=rfl
theorem pt5:hU "most" x [("number",a),("tail",b),("head",c),("least",e)]=([("number",a),("tail",b),("head",c),("least",e),("most",x)]:List (Str×D)):=rfl
theorem pt6:hU "price" x [("number",a),("tail",b),("head",c),("least",e),("most",m)]=([("number",a),("tail",b),("head",c),("least",e),("most",m),("price",x)]:List (Str×D)):=rfl
theorem pn1:hU "names" x []=([("names",x)]:List (Str×D)):=rfl
theorem pn2:hU "rows" x [("names",a)]=([("names",a),("rows",x)]:List (Str×D)):=rfl
theorem pn3:hU "last_given" x [("names",a),("rows",b)]=([("names",a),("rows",b),("last_given",x)]:List (Str×D)):=rfl
theorem CJ {v:Vl}:sfK ["Net"] "last_given" (.int i) v s (some (.obj "Net" (lF l d g)))=(s.mod (.obj "Net" (lF l d i)) v).bind nxK:=iQ (by unfold lF; simp)
theorem g_Tie:goF ip [.cell S.nx, .int i, .str t.tail, .str t.head, .int t.least,ef t.most, .int t.price] ⟨sl,S.new (.obj "Tie" [])⟩= .ok (.d .non) ⟨sl,S.new (bB (i,t))⟩:=by
 refine dY ?_
 show Wp (lu ⟨[some (.d (.cell S.nx)),some (.d (.int i)),some (.d (.str t.tail)),some (.d (.str t.head)),some (.d (.int t.least)),some (.d (ef t.most)),some (.d (.int t.price))],S.new (.obj "Tie" [])⟩) _ _
 unfold lu
 simp! only [pt1,pt2,pt3,pt4,pt5,pt6]
 rfl
end
local macro_rules | `(tactic| walk_at "zm") => `(tactic| simp! only [Z.au T.qH, Z.au T.vo, Z.au T.qI, Z.au T.mD, Z.au T.uK, Z.au T.uM, Z.au T.qg, Z.au T.uL, Z.au T.qf, Z.ak T.fO, Z.ak T.dV, Z.ak T.nr, T.CJ, *])
section
variable {s:SD} {S:Sto} {sl:List (Option Vl)} {x y z:D} {n l d:Nat} {N:ND} {g i:Int} {t:TD} {a b:D}
structure TieOk (t:TD):Prop where
 l0:0≤t.least
 l1:t.least≤M60
 m:rmOk t.least (ef t.most)=true
 p0: -M60≤t.price
 p1:t.price≤M60
theorem oW (h:NetAt S n l d N) (hn:n<S.nx) (hd:d<S.nx) (hl:l<S.nx) (h1:t.tail∈N.names) (h2:t.head∈N.names) (h3:t.tail≠t.head) (ok:TieOk t) (h4:N.ties.length<40):
  goF cw [.cell n, .int i, .str t.tail, .str t.head, .int t.least,ef t.most, .int t.price] ⟨sl,S⟩= .ok (.d (.int i)) ⟨sl,(S.tick.put d (.dct (cO bB (km N.ties i t)))).put n (.obj "Net" (lF l d i))⟩:=by
 refine dY ?_
 show Wp (cK ⟨[some (.d (.cell n)),some (.d (.int i)),some (.d (.str t.tail)),some (.d (.str t.head)),some (.d (.int t.least)),some (.d (ef t.most)),some (.d (.int t.price))],S⟩) _ _
 unfold cK
 have q1:=h.n
 have q2:=h.l
 have q3:=h.d
 have k1:=fun sl=>cg (sl:=sl) h h1
 have k2:=fun sl=>cg (sl:=sl) h h2
 have k3:=fun s=>vM (s:=s) ok.l0 ok.l1 ok.m
 have k4:=fun s=>tZ (s:=s) ok.p0 ok.p1
 have e3:=decide_eq_false h3
 have e4:decide ((((cO bB N.ties).length:Nat):Int)=40)=false:=by
  refine decide_eq_false ?_
  unfold cO
  rw [List.length_map]
  omega
 have e5:S.tick.get n=_:=(gJ (Nat.ne_of_lt hn)).trans q1
 have e6:S.tick.get d=_:=(gJ (Nat.ne_of_lt hd)).trans q3
 have e7:=fun sl=>xb (sl:=sl) (S:=S) (i:=S.nx) (F:=ip) fun s=>g_Tie (sl:=s.sl) (S:=S) (i:=i) (t:=t)
 have e8:∀x:D,(S.tick.put d x).get n=some (.obj "Net" (lF l d N.given)):=fun x=>(Sto.put_ne h.ne.2.1).trans e5
 have e9:=fun s a=>fF (s:=s) (a:=a) (x:=bB (i,t)) (z:= .int i) (ks:=cO bB N.ties) rfl (by unfold cO; rw [List.length_map]; exact Nat.lt_trans h4 (by decide))
 simp only [BC] at e9
 walk_at "zm"
theorem A4 (h:NetAt S n l d N) (hn:n<S.nx) (hd:d<S.nx) (hl:l<S.nx) (h1:t.tail∈N.names) (h2:t.head∈N.names) (h3:t.tail≠t.head) (ok:TieOk t) (h4:N.ties.length<40):
  goF aR [.cell n, .str t.tail, .str t.head, .int t.least,ef t.most, .int t.price] ⟨sl,S⟩= .ok (.d (.int (N.given+1))) ⟨sl,(S.tick.put d (.dct (cO bB (km N.ties (N.given+1) t)))).put n (.obj "Net" (lF l d (N.given+1)))⟩:=by
 refine dY ?_
 show Wp (gc ⟨[some (.d (.cell n)),some (.d (.str t.tail)),some (.d (.str t.head)),some (.d (.int t.least)),some (.d (ef t.most)),some (.d (.int t.price))],S⟩) _ _
 unfold gc
 have q1:=h.n
 have k1:=fun sl=>oW (sl:=sl) (i:=N.given+1) h hn hd hl h1 h2 h3 ok h4
 walk_at "zm"
def C7 (S:Sto):Sto:= {nx:=S.nx+3,get:=fun j=>if j=S.nx then some (.obj "Net" (lF (S.nx+1) (S.nx+2) 0)) else if j=S.nx+1 then some (.lst []) else if j=S.nx+2 then some (.dct []) else S.get j}
theorem yd:goF dH [.cell S.nx] ⟨sl,S.new (.obj "Net" [])⟩= .ok (.d .non) ⟨sl,C7 S⟩:=by
 refine dY ?_
 show Wp (ly ⟨[some (.d (.cell S.nx))],S.new (.obj "Net" [])⟩) _ _
 unfold ly
 have e1:∀S x,(Sto.new S x).nx=S.nx+1:=fun _ _=>rfl
 have e2:∀a b,((S.new a).new b).get S.nx=some a:=fun a b=>by simp [Sto.new]
 have e3:∀a b c e,((((S.new a).new b).put S.nx c).new e).get S.nx=some c:=fun a b c e=>by rw [iR (by show S.nx≠S.nx+1+1; omega),Sto.put_same]
 simp! only [pn1,pn2,pn3,e1,e2,e3,put_nx]
 unfold C7 Sto.new Sto.put
 congr 1
 funext j
 by_cases c1:j=S.nx
 ·subst c1; simp [lF]
 ·by_cases c2:j=S.nx+1
  ·subst c2; simp
  ·by_cases c3:j=S.nx+2
   ·subst c3; simp
   ·simp [c1,c2,c3]
def netC (S:Sto) (N:ND):Sto:= {nx:=S.nx+5,get:=fun j=>if j=S.nx then some (.obj "Net" (lF (S.nx+3) (S.nx+4) N.given)) else if j=S.nx+1 then some (.lst []) else if j=S.nx+2 then some (.dct []) else if j=S.nx+3 then some (.lst (N.names.map .str)) else if j=S.nx+4 then some (.dct (cO bB N.ties)) else S.get j}
theorem pm1:hU "names" x (lF l d g)=([("names",x),("rows", .cell d),("last_given", .int g)]:List (Str×D)):=rfl
theorem pm2:hU "rows" x ([("names",a),("rows",b),("last_given",y)]:List (Str×D))=([("names",a),("rows",x),("last_given",y)]:List (Str×D)):=rfl
theorem pm3:hU "last_given" x ([("names",a),("rows",b),("last_given",y)]:List (Str×D))=([("names",a),("rows",b),("last_given",x)]:List (Str×D)):=rfl
end
local macro_rules | `(tactic| walk_at "zi") => `(tactic| repeat (refine Z.iteW (by first | decide | omega | (refine M.aw ?_ ?_ <;> omega) | (refine M.cQ ?_ ?_ ?_ ?_ <;> omega)) ?_))
section

theorem cp60:sx 10 60=True:=eq_true ⟨by decide,by decide⟩
theorem pow60:(10:Int) ^ (60:Int).toNat=M60:=by decide+kernel
def row6 (q:Int×TD):D:= .tup [.int q.1, .str q.2.tail, .str q.2.head, .int q.2.least,ef q.2.most, .int q.2.price]
end
end T

namespace T
open PySem PySem.Spec PyProof.Rows L2 M Z A
open Classical
open TL (tl)
local macro_rules | `(tactic| walk_at "zi") => `(tactic| repeat (refine Z.iteW (by first | decide | omega | (refine M.aw ?_ ?_ <;> omega) | (refine M.cQ ?_ ?_ ?_ ?_ <;> omega)) ?_))
def Al (z:Str):Prop:=∀c∈tl z,c∈tl "abcdefghijklmnopqrstuvwxyz"
theorem D5 {z:Str} (h:Al z):ki z "abcdefghijklmnopqrstuvwxyz" =true:=List.all_eq_true.mpr fun c hc=>decide_eq_true (h c hc)
theorem al_name {z:Str} (h:Al z) (h1:1≤z.length) (h2:z.length≤12):isNm (.str z)=true:=by
 show (decide (1≤z.length)&&decide (z.length≤12)&&ki z "abcdefghijklmnopqrstuvwxyz")=true
 rw [decide_eq_true h1,decide_eq_true h2,D5 h]
 rfl
theorem al_cat {x y:Str} (h:Al x) (h2:Al y):Al (x++y):=fun c hc=>by
 rw [lA] at hc
 rcases List.mem_append.mp hc with hc | hc
 ·exact h c hc
 ·exact h2 c hc
theorem xF {x:Str} (lo hi:Option Int) (h:Al x):Al (cutS x lo hi):=fun c hc=>by
 rw [yV] at hc
 exact h c (List.mem_of_mem_drop (List.mem_of_mem_take hc))
theorem al_one {i:Int} {c:Nat} (h:atI (tl "abcdefghijklmnopqrstuvwxyz") i=some c):Al ⟨#[c]⟩:=fun d hd=>by
 have e:d=c:=List.mem_singleton.mp hd
 subst e
 unfold atI at h
 cases q:ixN (tl "abcdefghijklmnopqrstuvwxyz").length i with
 | none=>rw [q] at h; cases h
 | some j=>rw [q] at h; exact List.mem_of_getElem? h
theorem al_join {ws:List Str} (h:∀x∈ws,Al x):Al (Txt.join "" ws):=fun c hc=>by
 rw [wF] at hc
 obtain ⟨l,hl,hc⟩:=List.mem_flatten.mp hc
 obtain ⟨x,hx,e⟩:=List.mem_map.mp hl
 exact h x hx c (by rw [e]; exact hc)
theorem tO {z:Str} {i:Int} (h:0≤i):(cutS z none (some i)).length=min i.toNat z.length:=by
 rw [gq,tl_to _ _ h,List.length_take,←gq]
theorem xk {z:Str} {i:Int} (h:0≤i):(cutS z (some i) none).length=z.length - i.toNat:=by
 rw [gq,tl_from _ _ h,List.length_drop,←gq]
theorem zc:∀(ws:List Str) (k:Nat),(∀x∈ws,x.length≤k)→(ws.map (·.length)).sum≤ws.length*k
 | [],_,_=>Nat.zero_le _
 | x::r,k,h=>by
  have h1:=h x List.mem_cons_self
  have h2:=zc r k fun y hy=>h y (List.mem_cons_of_mem _ hy)
  rw [List.map_cons,List.sum_cons,List.length_cons,Nat.succ_mul]
  omega
def ltr (i:Int):Str:=match atI (tl "abcdefghijklmnopqrstuvwxyz") i with
 | some c=>⟨#[c]⟩
 | none=> ""
theorem tM {i:Int} (h0:0≤i) (h1:i<26):dIx (.str "abcdefghijklmnopqrstuvwxyz") (.int i)=some (.str (ltr i))∧(ltr i).length=1∧Al (ltr i):=by
 have h2:i<((tl "abcdefghijklmnopqrstuvwxyz").length:Nat):=by rw [show (tl "abcdefghijklmnopqrstuvwxyz").length=26 by decide+kernel]; exact h1
 have h3:=atI_in (xs:=tl "abcdefghijklmnopqrstuvwxyz") 0 h0 h2
 have e:ltr i=⟨#[(tl "abcdefghijklmnopqrstuvwxyz").getD i.toNat 0]⟩:=by unfold ltr; rw [h3]
 refine ⟨?_,by rw [e]; rfl,by rw [e]; exact al_one h3⟩
 show (if (Str.ofString "abcdefghijklmnopqrstuvwxyz").length≤sizeLine then (atI (tl "abcdefghijklmnopqrstuvwxyz") i).map fun c=>D.str ⟨#[c]⟩ else none)=_
 rw [if_pos (by decide+kernel),h3,e]
 rfl
def firsts (ws:List Str):List Str:=(ws.zipIdx.filter fun q=>!decide (q.1∈ws.take q.2)).map (·.1)
def fp (ws:List Str):D→Bool
 | .tup [.int j, .str z]=>!decide (z∈ws.take j.toNat)
 | _=>false
def ff:D→D
 | .tup [_,z]=>z
 | _=> .non
section
variable {z:D}
theorem nl0:Nl []:=fun e he=>by cases he

def w2f (n at_:Int) (fr:Str) (j:Int):Str:=cutS fr none (some at_)++ltr ((n / 2000+5*j)%26)++cutS fr (some at_) none
theorem w2_ok {n at_:Int} {fr:Str} (hfa:Al fr) (a0:0≤at_) (a1:at_≤fr.length) (j:Int):(w2f n at_ fr j).length=fr.length+1∧Al (w2f n at_ fr j):=by
 obtain ⟨_,l1,l2⟩:=tM (i:=(n / 2000+5*j)%26) (Int.emod_nonneg _ (by decide)) (Int.emod_lt_of_pos _ (by decide))
 have hc1:=tO (z:=fr) a0
 have hc2:=xk (z:=fr) a0
 unfold w2f
 refine ⟨?_,al_cat (al_cat (xF _ _ hfa) l2) (xF _ _ hfa)⟩
 rw [A.vA,A.vA,hc1,hc2,l1]
 omega
abbrev ux (z:Str):Prop:=Al z∧1≤z.length∧z.length≤12∧z≠ "zzzyzzzyzzzy"
end
end T

namespace T
open PySem PySem.Spec PyProof.Rows L2 M Z A
open Classical
local macro_rules | `(tactic| walk_at "zi") => `(tactic| repeat (refine Z.iteW (by first | decide | omega | (refine M.aw ?_ ?_ <;> omega) | (refine M.cQ ?_ ?_ ?_ ?_ <;> omega)) ?_))
def row5 (q:Int×TD):D:= .tup [.str q.2.tail, .str q.2.head, .int q.2.least,ef q.2.most, .int q.2.price]
def modF (ml md:Nat) (g:Int):List (Key×D):= [(.inr "names", .cell ml),(.inr "ties", .cell md),(.inr "given", .int g)]
structure ModAt (S:Sto) (m ml md:Nat) (N:ND):Prop where
 m:S.get m=some (.dct (modF ml md N.given))
 l:S.get ml=some (.lst (N.names.map .str))
 d:S.get md=some (.dct (cO row5 N.ties))
structure Good (N:ND):Prop where
 nd:N.names.Nodup
 nm:∀z∈N.names,ux z
 nl:N.names.length≤14
 rise:xG N.ties
 tl:N.ties.length≤40
 ts:∀q∈N.ties,q.1≤N.given∧TieOk q.2
 tn:∀q∈N.ties,ux q.2.tail∧ux q.2.head
 pl:∀q∈N.ties,q.2.tail∈N.names∧q.2.head∈N.names∧q.2.tail≠q.2.head
 g0:0≤N.given∧∀q∈N.ties,1≤q.1
structure Six (S:Sto) (n l d m ml md:Nat):Prop where
 b1:n<S.nx
 b2:l<S.nx
 b3:d<S.nx
 b4:m<S.nx
 b5:ml<S.nx
 b6:md<S.nx
 a1:n≠m∧n≠ml∧n≠md
 a2:l≠m∧l≠ml∧l≠md
 a3:d≠m∧d≠ml∧d≠md
 a4:m≠ml∧m≠md∧ml≠md
 a5:n≠l∧n≠d∧l≠d
structure Did (S S' :Sto) (n l d m ml md:Nat) (N' :ND):Prop where
 nx:S.nx≤S'.nx
 fr:∀i,i<S.nx→i≠n→i≠l→i≠d→i≠m→i≠ml→i≠md→S'.get i=S.get i
 net:NetAt S' n l d N'
 mod:ModAt S' m ml md N'
 good:Good N'
 gv:∀g:Int,S.get n=some (.obj "Net" (lF l d g))→N'.given≤g+1
section
variable {S:Sto} {n l d m ml md:Nat} {N:ND} {g i:Int} {t:TD} {a b:D}
theorem wN {ts:List (Int×TD)} (hr:xG ts) (hg:∀q∈ts,q.1≤g):km ts (g+1) t=ts++ [(g+1,t)]∧xG (ts++ [(g+1,t)]):=by
 refine ⟨?_, ?_⟩
 ·unfold km
  rw [if_neg]
  intro e
  obtain ⟨q,hq,e⟩:=List.any_eq_true.mp e
  have:=hg q hq
  have:=of_decide_eq_true e
  omega
 ·unfold xG
  rw [List.map_append,List.pairwise_append]
  refine ⟨hr,by simp,fun a ha b hb=>?_⟩
  obtain ⟨q,hq,rfl⟩:=List.mem_map.mp ha
  rw [List.mem_singleton.mp (show b∈ [g+1] from hb)]
  have:=hg q hq
  omega
theorem Good.put (h:Good N) (ok:TieOk t) (h1:t.tail∈N.names) (h2:t.head∈N.names) (h3:t.tail≠t.head) (hl:N.ties.length<40):Good ⟨N.names,km N.ties (N.given+1) t,N.given+1⟩:=by
 obtain ⟨e1,e2⟩:=wN (g:=N.given) (t:=t) h.rise fun q hq=>(h.ts q hq).1
 refine ⟨h.nd,h.nm,h.nl, ?_, ?_,fun q hq=>?_,fun q hq=>?_,fun q hq=>?_,Int.le_trans h.g0.1 (by show N.given≤N.given+1; omega),fun q hq=>?_⟩
 ·show xG (km _ _ _); rw [e1]; exact e2
 ·show (km _ _ _).length≤40; rw [e1,List.length_append]; exact hl
 ·have hq:q∈km N.ties (N.given+1) t:=hq
  rw [e1] at hq
  rcases List.mem_append.mp hq with hq | hq
  ·obtain ⟨h1,h2⟩:=h.ts q hq
   exact ⟨by show q.1≤N.given+1; omega,h2⟩
  ·rw [List.mem_singleton.mp hq]
   exact ⟨Int.le_refl _,ok⟩
 ·have hq:q∈km N.ties (N.given+1) t:=hq
  rw [e1] at hq
  rcases List.mem_append.mp hq with hq | hq
  ·exact h.tn q hq
  ·rw [List.mem_singleton.mp hq]
   exact ⟨h.nm _ h1,h.nm _ h2⟩
 ·have hq:q∈km N.ties (N.given+1) t:=hq
  rw [e1] at hq
  rcases List.mem_append.mp hq with hq | hq
  ·exact h.pl q hq
  ·rw [List.mem_singleton.mp hq]
   exact ⟨h1,h2,h3⟩
 ·have hq:q∈km N.ties (N.given+1) t:=hq
  rw [e1] at hq
  have h0:=h.g0.1
  rcases List.mem_append.mp hq with hq | hq
  ·exact h.g0.2 q hq
  ·rw [List.mem_singleton.mp hq]
   show 1≤N.given+1
   omega
theorem zG {ts:List (Int×TD)} (hr:xG ts):xG (dropT ts i):=by
 unfold xG dropT at*
 exact hr.sublist (List.Sublist.map _ List.filter_sublist)
theorem kM {ts:List (Int×TD)} (hq:q∈ts):km ts q.1 t=ts.map fun p=>if p.1=q.1 then (q.1,t) else p:=by
 unfold km
 rw [if_pos]
 exact List.any_eq_true.mpr ⟨q,hq,decide_eq_true rfl⟩
theorem zX {ts:List (Int×TD)} (hq:q∈ts):(km ts q.1 t).map (·.1)=ts.map (·.1):=by
 rw [kM hq,List.map_map]
 refine List.map_congr_left fun p _=>?_
 show (if p.1=q.1 then (q.1,t) else p).1=p.1
 split
 ·rename_i e; exact e.symm
 ·rfl
theorem Good.set (h:Good N) (hq:q∈N.ties) (ok:TieOk t) (t1:t.tail=q.2.tail) (t2:t.head=q.2.head):Good ⟨N.names,km N.ties q.1 t,N.given⟩:=by
 refine ⟨h.nd,h.nm,h.nl, ?_, ?_,fun p hp=>?_,fun p hp=>?_,fun p hp=>?_,h.g0.1,fun p hp=>?_⟩
 ·show xG (km _ _ _)
  unfold xG
  rw [zX hq]
  exact h.rise
 ·show (km _ _ _).length≤40
  rw [kM hq,List.length_map]
  exact h.tl
 ·have hp:p∈km N.ties q.1 t:=hp
  rw [kM hq] at hp
  obtain ⟨p0,h0,rfl⟩:=List.mem_map.mp hp
  split
  ·exact ⟨(h.ts q hq).1,ok⟩
  ·exact h.ts p0 h0
 ·have hp:p∈km N.ties q.1 t:=hp
  rw [kM hq] at hp
  obtain ⟨p0,h0,rfl⟩:=List.mem_map.mp hp
  split
  ·show ux t.tail∧ux t.head
   rw [t1,t2]; exact h.tn q hq
  ·exact h.tn p0 h0
 ·have hp:p∈km N.ties q.1 t:=hp
  rw [kM hq] at hp
  obtain ⟨p0,h0,rfl⟩:=List.mem_map.mp hp
  split
  ·show t.tail∈N.names∧t.head∈N.names∧t.tail≠t.head
   rw [t1,t2]; exact h.pl q hq
  ·exact h.pl p0 h0
 ·have hp:p∈km N.ties q.1 t:=hp
  rw [kM hq] at hp
  obtain ⟨p0,h0,rfl⟩:=List.mem_map.mp hp
  split
  ·exact h.g0.2 q hq
  ·exact h.g0.2 p0 h0
theorem Good.drop (h:Good N):Good ⟨N.names,dropT N.ties i,N.given⟩:=
 ⟨h.nd,h.nm,h.nl,zG h.rise,Nat.le_trans (List.length_filter_le _ _) h.tl,fun p hp=>h.ts p (List.mem_filter.mp (show p∈List.filter _ _ from hp)).1,fun p hp=>h.tn p (List.mem_filter.mp (show p∈List.filter _ _ from hp)).1,fun p hp=>h.pl p (List.mem_filter.mp (show p∈List.filter _ _ from hp)).1,h.g0.1,fun p hp=>h.g0.2 p (List.mem_filter.mp (show p∈List.filter _ _ from hp)).1⟩
def putS (S:Sto) (n l d m ml md:Nat) (N:ND) (t:TD):Sto:=
 (((S.tick.put d (.dct (cO bB (km N.ties (N.given+1) t)))).put n (.obj "Net" (lF l d (N.given+1)))).put m (.dct (modF ml md (N.given+1)))).put md (.dct (cO row5 (km N.ties (N.given+1) t)))
end
section
variable {S S' S2:Sto} {x:D} {n l d m ml md:Nat} {N:ND} {g i:Int}
structure NW (S:Sto) (n l d m ml md:Nat) (N:ND):Prop where
 six:Six S n l d m ml md
 net:NetAt S n l d N
 mod:ModAt S m ml md N
 good:Good N
structure Ext (S S' :Sto):Prop where
 nx:S.nx≤S'.nx
 get:∀i,i<S.nx→S'.get i=S.get i
theorem Ext.refl:Ext S S:=⟨Nat.le_refl _,fun _ _=>rfl⟩
theorem Ext.trans (h:Ext S S') (g:Ext S' S2):Ext S S2:=⟨Nat.le_trans h.nx g.nx,fun i hi=>(g.get i (Nat.lt_of_lt_of_le hi h.nx)).trans (h.get i hi)⟩
theorem Ext.new:Ext S (S.new x):=⟨Nat.le_succ _,fun i hi=>iR (Nat.ne_of_lt hi)⟩
theorem Ext.tick:Ext S S.tick:=⟨Nat.le_succ _,fun i hi=>gJ (Nat.ne_of_lt hi)⟩
theorem Ext.put {j:Nat} (h:Ext S S') (hj:S.nx≤j):Ext S (S'.put j x):=⟨h.nx,fun i hi=>(Sto.put_ne (by omega)).trans (h.get i hi)⟩
theorem NW.ext (W:NW S n l d m ml md N) (h:Ext S S'):NW S' n l d m ml md N:=by
 obtain ⟨⟨b1,b2,b3,b4,b5,b6,a1,a2,a3,a4,a5⟩,⟨n1,n2,n3⟩,⟨m1,m2,m3⟩,hG⟩:=W
 have nx:=h.nx
 exact ⟨⟨by omega,by omega,by omega,by omega,by omega,by omega,a1,a2,a3,a4,a5⟩,⟨(h.get _ b1).trans n1,(h.get _ b2).trans n2,(h.get _ b3).trans n3⟩,⟨(h.get _ b4).trans m1,(h.get _ b5).trans m2,(h.get _ b6).trans m3⟩,hG⟩
def bltS (S:Sto):Sto:=(((C7 S).new (.lst [])).new (.dct [])).new (.dct (modF (S.nx+3) (S.nx+3+1) 0))
end
end T

local macro_rules | `(tactic| dsimp! only [$ts,*]) => `(tactic| simp only [↓reduceIte, ↓Z.e_seq, ↓Z.e_asg, ↓Z.Bn, ↓Z.rG, ↓Z.rH, ↓Z.Br, ↓Z.vZ, ↓Z.Bw, ↓Z.e_ifS, ↓Z.e_ret, ↓Z.Bo, ↓Z.Bt, ↓Z.vX, ↓Z.e_c, ↓Z.e_var, ↓Z.e_z1, ↓Z.e_z2, ↓Z.e_via, ↓Z.e_a0, ↓Z.e_a, ↓Z.e_tup, ↓Z.e_lst, ↓Z.Bu, ↓Z.e_b, ↓Z.e_and, ↓Z.e_or, ↓Z.e_not, ↓Z.BA, ↓Z.e_orV, ↓Z.Bq, ↓Z.e_if, ↓Z.Bx, ↓Z.Bs, ↓Z.vY, ↓Z.e_no, ↓Z.e_pt, ↓Z.e_sl, Z.yC, Z.x_nx, Z.x_asg, Z.x_st, Z.x_if, Z.x_rt, Z.x_ret, Z.x_z2, Z.x_d, Z.x_via, Z.yB, Z.x_fix, Z.x_a, Z.x_tup, Z.x_lst, Z.x_ok, Z.x_not, Z.yz, Z.yD, Z.yx, Z.uC, Z.uD, Z.pR, Z.pS, Z.x_pt, Z.x_sl3, Z.x_sl2, Z.x_sl1, Z.wy, Z.se, Z.rZ, Z.ou, Z.uV, Z.uU, Z.uX, Z.uW, Z.yS, Z.qd, Z.qe, Z.mA, Z.pZ, Z.yP, Z.fix_d, Z.vR, Z.vS, Z.rB, Z.Bh, Z.kZ, Z.ju, Z.oB_bl, Z.BK, Z.kY, Z.oj, Z.rS, Z.lZ, Z.wc, Z.rQ, Z.iG, Z.ma, Z.lY, Z.rV, Z.rP, Z.jX, Z.iF, Z.rR, Z.w_add, Z.su, Z.so, Z.sq, Z.sk, Z.w_sub, Z.yK, Z.qM, Z.qL, Z.w_mod, Z.w_div, Z.w_pow, Z.w_cmp, Z.w_neg, Z.w_min, Z.CA, Z.pW, Z.w_eq, Z.w_in, Z.w_ix, Z.Cz, Z.qQ, Z.qS, Z.qR, Z.w_fld, Z.vG, Z.AN, Z.vD, Z.vE, Z.vF, Z.vI, Z.vC, Z.vH, Z.isT, Z.gz, Z.mv, Z.flv, ↓Z.e_lc, ↓Z.e_yes, ↓Z.e_itL, Z.gx, Z.mq, ↓Z.e_itS, Z.x_itS, Z.uE, Z.mj, Z.ko, Z.yO, Z.jW, Z.yL, Z.nu, Z.nv, Z.jO, Z.pX, Z.my, Z.w_sl, Z.uR, Z.uS, ↓Z.e_rg1, Z.x_rg1, ↓Z.e_for, Z.yw, ↓Z.e_zip, Z.yv, ↓Z.e_en, Z.pQ, Z.w_unp, Z.unp2, Z.unp3, Z.unp4, Z.unp5, Z.iY, Z.kz, ↓Z.e_m1s, Z.x_m1s, Z.uQ, Z.qP, ↓Z.e_m2, Z.x_m2, Z.x_isL, Z.qY, Z.x_isD, Z.rf, Z.x_rv, Z.w_b2, Z.oE, Z.oC, Z.w_b1, Z.si, Z.qN, Z.vx, Z.qO, ↓Z.e_sf, Z.x_sf1, Z.x_sf2, Z.x_sf3, ↓Z.e_mk, Z.x_mk, Z.x_sto, ↓Z.e_dp, Z.x_dp1, Z.x_dp2, Z.x_dp3, Z.x_dp4, Z.vW, Z.rF, Z.w_ne, Z.vq, Z.vu, Z.vV, Z.vO, Z.Sto.put_same, Z.mZ, Z.qJ, Z.dr, Z.sfn0, Z.sfn1, Z.sfn2, Z.sfn3, Z.sfn4, Z.sfn5, Z.sfn6, Z.sfn7, Z.sfn8, decide_false, decide_true, Z.B0, Z.D6, Z.BZ, List.set_cons_zero, List.set_cons_succ, List.getElem?_cons_zero, List.getElem?_cons_succ, List.cons_append, List.nil_append, List.append_nil, List.isEmpty_nil, List.isEmpty_cons, if_true, if_false, Bool.false_eq_true, true_implies, false_implies, implies_true, reduceCtorEq, Bool.not_true, Bool.not_false, eq_self, and_self, and_true, true_and, ↓Z.Bv, Z.yA, ↓Z.e_p, Z.x_p1, Z.x_p2, Z.x_p3, ↓Z.e_p0, ↓Z.Bl, Z.x_wk, ↓Z.e_par, Z.x_par, ↓Z.Bp, Z.yy, ↓Z.Bz, Z.kh, Z.sC, ↓Z.By, Z.x_as1, Z.x_as2, Z.BX, Z.BW, Z.x_as6, Z.zw, Z.zv, Z.yJ, Z.qz, ↓Z.e_rvI, Z.x_rvI, ↓Z.e_itT, Z.x_itT, Z.oF, Z.yH, Z.qj, Z.qk, Z.vt, Z.vp, Z.w_max, Z.Bk, ↓Z.rL, ↓Z.x_r0, ↓Z.rK, ↓Z.x_r1, ↓Z.x_r2, ↓Z.wz, Z.Wp_ex, ↓Z.rT, ↓Z.w_xf, ↓Z.w_isX, ↓Z.qW, ↓Z.e_rg2, Z.x_rg2, Z.uG, Z.pV, Z.w_str, ↓Z.Bm, Z.uJ, Z.qK, ↓Z.rJ, ↓Z.x_rL1, ↓Z.x_rL2, Z.pY, ↓Z.e_pV, Z.x_pVi, Z.x_pVs, Z.mw, Z.qX, Z.rO, Z.yM, Z.nz, Z.nA, Z.yN, Z.nH, Z.nL, Z.nI, Z.nK, Z.nG, Z.nJ, Z.nM, Z.uH, Z.w_neU, Z.jL, Z.au T.qH, Z.au T.vo, Z.au T.qI, Z.au T.mD, Z.au T.uK, Z.au T.uM, Z.au T.qg, Z.au T.uL, Z.au T.qf, Z.ak T.fO, Z.ak T.dV, Z.ak T.nr, Z.ak T.mN_ties, Z.ak T.AG, Z.ak T.Ds, $ts,*])
namespace T
open PySem PySem.Spec PyProof.Rows L2 M Z A
open Classical
def ao (f:Int→Int) (is:List Int):List (Key×D):=is.map fun i=>(.inl i, .int (f i))
def eI (ts:List (Int×TD)) (f:Int→Int):Prop:=∀q∈ts,q.2.least≤f q.1∧∀mx,q.2.most=some mx→f q.1≤mx
def Hand (S:Sto) (x:D) (ks:List (Key×D)):Prop:=x= .dct ks∨∃j,x= .cell j∧S.get j=some (.dct ks)
section
variable {s:SD} {S S' :Sto} {sl:List (Option Vl)} {x y z:D} {n l d:Nat} {N:ND} {i c:Int} {a:D} {q:Int×TD} {f:Int→Int} {is:List Int} {ks:List (Key×D)}
theorem Hand.cont (h:Hand S x ks):SD.cont ⟨sl,S⟩ (.d x)=some (.dct ks):=by
 rcases h with rfl | ⟨j,rfl,e⟩
 ·rfl
 ·exact e
theorem Hand.ext (h:Hand S x ks) (e:∀j,x= .cell j→S'.get j=S.get j):Hand S' x ks:=by
 rcases h with rfl | ⟨j,rfl,e1⟩
 ·exact .inl rfl
 ·exact .inr ⟨j,rfl,(e j rfl).trans e1⟩
theorem DI:fS (ao f is) (.inl i)=if i∈is then some (.int (f i)) else none:=by
 induction is with
 | nil=>rfl
 | cons j is ih=>
  unfold ao fS at ih ⊢
  rw [List.map_cons]
  by_cases c:j=i
  ·subst c
   rw [List.find?_cons_of_pos (by simp)]
   simp
  ·rw [List.find?_cons_of_neg (by simp [c]),ih]
   simp [Ne.symm c]
theorem kT (h:i∈is):fS (ao f is) (.inl i)=some (.int (f i)):=by rw [DI,if_pos h]
theorem jT:Wk.keys.ds (ao f is)=is.map D.int:=by
 show (ao f is).map (fun kv=>lX kv.1)=_
 unfold ao
 rw [List.map_map]
 rfl
theorem cH:(ao f is).length=is.length:=by unfold ao; simp
theorem cY {s:SD}:s.cont (.d (bB q))=some (.obj "Tie" (wH q.1 q.2)):=rfl
theorem nQ {a:Int} (h0:q.2.least≤a) (h1:∀mx,q.2.most=some mx→a≤mx):goF bW [bB q, .int a] s= .ok (.d (.bl true)) s:=by
 refine oV ?_
 show Wp (bA ⟨[some (.d (bB q)),some (.d (.int a))],s.st⟩) _ _
 unfold bA
 have w1:=fun s:SD=>cP (s:=s) (x:= .int a) rfl
 have d0:=decide_eq_true h0
 obtain ⟨i,ta,he,le,mo,pr⟩:=q
 cases mo with
 | none=>
  dsimp! only [cY,ef,AQ,w1,d0]
 | some mx=>
  have d1:=decide_eq_true (h1 mx rfl)
  dsimp! only [cY,ef,AQ,w1,d0,d1]
theorem yq {v0 v2 v3:Option Vl} {j:D} (h:Hand S x (ao f is)) (hl:is.length≤1000):
  B9 1 (zSt 4) eU (ar bF [] (zA (aa 4) zA0)) [4] ⟨[v0,some (.d x),v2,v3,none],S⟩= .ok (.own (.lst (is.map fun _=> .bl true))) ⟨[v0,some (.d x),v2,v3,none],S⟩:=by
 have tn:∀(S:Sto) (d:D),d∈Wk.keys.ds (ao f is)→jB (zSt 4) eU (ar bF [] (zA (aa 4) zA0)) [4] ⟨[v0,some (.d x),v2,v3,none],S⟩ (fun _=>true) (fun _=> .bl true) d:=fun S d hd=>by
  rw [jT] at hd
  obtain ⟨i,_,rfl⟩:=List.mem_map.mp hd
  have w1:=fun s:SD=>cP (s:=s) (x:= .int i) rfl
  unfold Z.jB
  dsimp! only [AQ,w1]
 rcases h with rfl | ⟨j,rfl,e⟩
 ·rw [lcD_d (x:= .dct (ao f is)) rfl (by intro _ z; cases z)]
  dsimp! only []
  rw [lG (fun _=> .bl true) rfl Nl.d1 trivial (tn S) (by rw [jT,List.length_map]; exact Nat.le_trans hl (by decide))]
  rw [jT,List.map_map]
  rfl
 ·rw [Dw (fun _=>true) (fun _=> .bl true) rfl e (tn _) (by rw [cH]; exact Nat.le_trans hl (by decide)),List.filter_eq_self.mpr fun _ _=>rfl,jT,List.map_map]
  rfl
theorem mh {α:Type} (l:List α):(l.map fun _=>true).all id=true:=by simp
theorem fQ (h:NetAt S n l d N) (hG:Good N) (hx:Hand S x (ao f is)) (hp:is.Perm (N.ties.map (·.1))) (hf:eI N.ties f):goF aV [.cell n,x] ⟨sl,S⟩= .ok (.d .non) ⟨sl,S⟩:=by
 have hlen:is.length=N.ties.length:=by rw [hp.length_eq,List.length_map]
 have k1:=fun sl=>iU (sl:=sl) h hG.rise hG.tl
 have q1:=h.n
 have cx:=fun sl=>hx.cont (sl:=sl)
 have fl:=cH (f:=f) (is:=is)
 have tl:=hG.tl
 have l1:(ao f is).length=is.length:=cH
 have l2:(N.ties.map bB).length=N.ties.length:=List.length_map _
 have lc1:=fun (v0 v2 v3:Option Vl)=>yq (S:=S) (v0:=v0) (v2:=v2) (v3:=v3) (j:= .non) hx (by omega)
 have a1:=fun s:SD=>oG (s:=s) (ds:=is.map fun _=>D.bl true) (iE (fun _=>true) is)
 have t1:=mh is
 have a2:=fun s:SD=>oG (s:=s) (ds:=N.ties.map fun _=>D.bl true) (iE (fun _=>true) N.ties)
 have t2:=mh N.ties
 have e1:decide ((is.length:Int)=(N.ties.length:Int))=true:=decide_eq_true (by omega)
 have ee:∀s:SD,neK s (some (.int (is.length:Int))) (some (.int (N.ties.length:Int)))= .ok (.d (.bl false)) s:=fun s=>by
  have e2:= @hX (is.length:Int) (N.ties.length:Int)
  rw [e1] at e2
  unfold neK
  simp only [e2]
  rfl
 have lc2:∀v4:Option Vl,lcK (zSt 3) eU (z2 (oIn false) (z1 (bg ["Tie"] "number") (aa 3)) (aa 1)) [3] ⟨[.d (.lst (N.ties.map bB))],fun _=>True,N.ties.map bB⟩ ⟨[some (.d (.cell n)),some (.d x),some (.d (.lst (N.ties.map bB))),none,v4],S⟩= .ok (.own (.lst (N.ties.map fun _=> .bl true))) ⟨[some (.d (.cell n)),some (.d x),some (.d (.lst (N.ties.map bB))),none,v4],S⟩:=fun v4=>by
  rw [lG (fun _=> .bl true) rfl Nl.d1 trivial (fun d hd=>?_) (by rw [l2]; exact Nat.le_trans tl (by decide)),List.map_map]
  ·rfl
  ·obtain ⟨q,hq,rfl⟩:=List.mem_map.mp hd
   have mi:q.1∈is:=hp.mem_iff.mpr (List.mem_map.mpr ⟨q,hq,rfl⟩)
   have i1:∀s:SD,inK false s (some (.int q.1)) (some (.dct (ao f is)))= .ok (.d (.bl true)) s:=fun s=>nN (neg:=false) (r:=true) (by
    show some (fS (ao f is) (.inl q.1)).isSome=some true
    rw [kT mi]; rfl)
   unfold Z.jB
   dsimp! only [cY,cx,i1]
 refine dY ?_
 show Wp (aI ⟨[some (.d (.cell n)),some (.d x),none,none,none],S⟩) _ _
 unfold aI
 dsimp! only [k1,q1,cx,lc1,a1,t1,a2,t2,l1,l2,ee,lc2]
 refine iM (fun j s=>∃v3,s=⟨[some (.d (.cell n)),some (.d x),some (.d (.lst (N.ties.map bB))),v3,none],S⟩) Nl.d1 (fun _ _ _=>trivial) ⟨none,rfl⟩ (fun j y s e hI=>?_) (fun s hI=>?_)
 ·obtain ⟨v3,rfl⟩:=hI
  have e:(N.ties.map bB)[j]? =some y:=e
  rw [List.getElem?_map] at e
  obtain ⟨q,eq,rfl⟩:=Option.map_eq_some_iff.mp e
  have hq:=List.mem_of_getElem? eq
  have mi:q.1∈is:=hp.mem_iff.mpr (List.mem_map.mpr ⟨q,hq,rfl⟩)
  have i1:∀s:SD,ixK s (some (.dct (ao f is))) (some (.int q.1))= .ok (.d (.int (f q.1))) s:=fun s=>bj (kT mi)
  have am:=fun s:SD=>nQ (s:=s) (hf q hq).1 (hf q hq).2
  dsimp! only [cY,cx,i1,am]
  exact ⟨_,rfl⟩
 ·obtain ⟨v3,rfl⟩:=hI
  exact ⟨rfl,rfl⟩

theorem hV {a:Int} (h:i∉is):jt (ao f is) (.inl i) (.int a)=ao (fun j=>if j=i then a else f j) (is++ [i]):=by
 unfold jt
 rw [if_neg ?_]
 ·unfold ao
  rw [List.map_append]
  congr 1
  ·refine List.map_congr_left fun j hj=>?_
   show _=(Sum.inl j,D.int (if j=i then a else f j))
   rw [if_neg (fun (e:j=i)=>h (e ▸ hj))]
  ·simp
 ·rw [List.any_eq_true]
  rintro ⟨kv,h1,h2⟩
  unfold ao at h1
  obtain ⟨j,hj,rfl⟩:=List.mem_map.mp h1
  have:(Sum.inl j:Key)= .inl i:=of_decide_eq_true h2
  cases this
  exact h hj
theorem ue {a:Int} (h:i∈is):jt (ao f is) (.inl i) (.int a)=ao (fun j=>if j=i then a else f j) is:=by
 unfold jt
 rw [if_pos ?_]
 ·unfold ao
  rw [List.map_map]
  refine List.map_congr_left fun j hj=>?_
  show (if (Sum.inl j:Key)= .inl i then _ else _)=_
  by_cases c:j=i
  ·subst c; simp
  ·rw [if_neg (fun e=>c (Sum.inl.inj e))]
   show _=(Sum.inl j,D.int (if j=i then a else f j))
   rw [if_neg c]
 ·rw [List.any_eq_true]
  exact ⟨(.inl i, .int (f i)),List.mem_map.mpr ⟨i,h,rfl⟩,decide_eq_true rfl⟩
theorem nU {f' :Int→Int} (h:∀i∈is,f i=f' i):ao f is=ao f' is:=List.map_congr_left fun i hi=>by rw [h i hi]
end
section
variable {N:ND} {i c:Int} {f:Int→Int} {is is' :List Int}
theorem pK:∀(is pre:List Int),(pre++is).Nodup→(ao f is).foldl (fun acc kv=>jt acc kv.1 kv.2) (ao f pre)=ao f (pre++is)
 | [],pre,_=>by rw [List.append_nil]; rfl
 | i::is,pre,h=>by
  have ni:i∉pre:=fun hi=>by
   have:=(List.nodup_append.mp h).2.2 i hi i (List.mem_cons_self ..)
   exact this rfl
  have e:jt (ao f pre) (.inl i) (.int (f i))=ao f (pre++ [i]):=by
   rw [hV ni]
   refine nU fun j hj=>?_
   show (if j=i then f i else f j)=f j
   by_cases c:j=i
   ·rw [if_pos c,c]
   ·rw [if_neg c]
  show (ao f is).foldl (fun acc kv=>jt acc kv.1 kv.2) (jt (ao f pre) (.inl i) (.int (f i)))=_
  rw [e,pK is (pre++ [i]) (by rw [List.append_assoc]; exact h),List.append_assoc]
  rfl
theorem og (h:is.Nodup):bU (ao f is)=ao f is:=by
 have:=pK (f:=f) is [] (by simpa using h)
 rw [List.nil_append] at this
 exact this
theorem pE:∀is:List Int,kP (is.map fun i=> .tup [.int i, .int (f i)])=some (ao f is)
 | []=>rfl
 | i::is=>by
  rw [List.map_cons,kP,pE is]
  rfl
theorem ye (h:is.Perm is'):rM (ao f is) (ao f is')=true:=by
 unfold rM
 rw [Bool.and_eq_true]
 refine ⟨decide_eq_true (by rw [cH,cH,h.length_eq]),List.all_eq_true.mpr fun kv hkv=>?_⟩
 unfold ao at hkv
 obtain ⟨i,hi,rfl⟩:=List.mem_map.mp hkv
 rw [show fS (ao f is') (Sum.inl i,D.int (f i)).1=some (.int (f i)) from kT (h.mem_iff.mp hi)]
 exact decide_eq_true rfl
theorem Good.nums (h:Good N):(N.ties.map (·.1)).Pairwise (· < ·)∧(N.ties.map (·.1)).Nodup∧(N.ties.map (·.1)).length≤40:=by
 have hr:(N.ties.map (·.1)).Pairwise (· < ·):=h.rise
 exact ⟨hr,hr.imp fun hab=>Int.ne_of_lt hab,by rw [List.length_map]; exact h.tl⟩
end
def iJ (h:Str→Int) (zs:List Str):List (Key×D):=zs.map fun z=>(.inr z, .int (h z))
section
variable {s:SD} {S:Sto} {sl:List (Option Vl)} {x y:D} {n l d:Nat} {N:ND} {i c k:Int} {a:D} {q:Int×TD} {f:Int→Int} {is:List Int} {ks:List (Key×D)} {h h' :Str→Int} {z w:Str} {zs:List Str}
theorem str_val:fS (iJ h zs) (.inr z)=if z∈zs then some (.int (h z)) else none:=by
 induction zs with
 | nil=>rfl
 | cons j zs ih=>
  unfold iJ fS at ih ⊢
  rw [List.map_cons]
  by_cases c:j=z
  ·subst c
   rw [List.find?_cons_of_pos (by simp)]
   simp
  ·rw [List.find?_cons_of_neg (by simp [c]),ih]
   simp [Ne.symm c]
theorem str_at (e:z∈zs):fS (iJ h zs) (.inr z)=some (.int (h z)):=by rw [str_val,if_pos e]
theorem sJ:Wk.items.ds (iJ h zs)=zs.map fun z=>D.tup [.str z, .int (h z)]:=by
 show (iJ h zs).map (fun kv=>D.tup [lX kv.1,kv.2])=_
 unfold iJ
 rw [List.map_map]
 rfl
theorem ze:(iJ h zs).length=zs.length:=by unfold iJ; simp
theorem CF (e:∀z∈zs,h z=h' z):iJ h zs=iJ h' zs:=List.map_congr_left fun i hi=>by rw [e i hi]
theorem uP {a:Int} (e:z∉zs):jt (iJ h zs) (.inr z) (.int a)=iJ (fun w=>if w=z then a else h w) (zs++ [z]):=by
 unfold jt
 rw [if_neg ?_]
 ·unfold iJ
  rw [List.map_append]
  congr 1
  ·refine List.map_congr_left fun j hj=>?_
   show _=(Sum.inr j,D.int (if j=z then a else h j))
   rw [if_neg (fun (q:j=z)=>e (q ▸ hj))]
  ·simp
 ·rw [List.any_eq_true]
  rintro ⟨kv,h1,h2⟩
  unfold iJ at h1
  obtain ⟨j,hj,rfl⟩:=List.mem_map.mp h1
  have:(Sum.inr j:Key)= .inr z:=of_decide_eq_true h2
  cases this
  exact e hj
theorem mG {a:Int} (e:z∈zs):jt (iJ h zs) (.inr z) (.int a)=iJ (fun w=>if w=z then a else h w) zs:=by
 unfold jt
 rw [if_pos ?_]
 ·unfold iJ
  rw [List.map_map]
  refine List.map_congr_left fun j hj=>?_
  show (if (Sum.inr j:Key)= .inr z then _ else _)=_
  by_cases c:j=z
  ·subst c; simp
  ·rw [if_neg (fun q=>c (Sum.inr.inj q))]
   show _=(Sum.inr j,D.int (if j=z then a else h j))
   rw [if_neg c]
 ·rw [List.any_eq_true]
  exact ⟨(.inr z, .int (h z)),List.mem_map.mpr ⟨z,e,rfl⟩,decide_eq_true rfl⟩
def spU (f:Int→Int) (h:Str→Int) (q:Int×TD):Str→Int:=
 let h1:=fun w=>if w=q.2.tail then h q.2.tail - f q.1 else h w
 fun w=>if w=q.2.head then h1 q.2.head+f q.1 else h1 w
def sp (f:Int→Int) (ts:List (Int×TD)):Str→Int:=ts.foldl (spU f) fun _=>0
theorem zh {ts:List (Int×TD)} {j:Nat} (e:ts[j]? =some q):sp f (ts.take (j+1))=spU f (sp f (ts.take j)) q:=by
 unfold sp
 rw [List.take_succ,e,List.foldl_append]
 rfl
theorem gd_str (e:z∈zs):gD (.dct (iJ h zs)) (.str z)=some (h z):=gD_at (k:= .inr z) rfl (str_at e)
theorem tX (hN:NetAt S n l d N) (hG:Good N) (hx:Hand S x (ao f is)) (hp:is.Perm (N.ties.map (·.1))):goF gF [.cell n,x] ⟨sl,S⟩= .ok (.own (.dct (iJ (sp f N.ties) N.names))) ⟨sl,S⟩:=by
 have k1:=fun sl=>iU (sl:=sl) hN hG.rise hG.tl
 have k2:=fun sl=>jQ (sl:=sl) hN
 have q1:=hN.n
 have cx:=fun sl=>hx.cont (sl:=sl)
 have nl:=hG.nl
 refine dY ?_
 show Wp (hY ⟨[some (.d (.cell n)),some (.d x),none,none,none],S⟩) _ _
 unfold hY
 dsimp! only [k2,q1]
 rw [ae]
 refine iM (fun j s=>∃v3,s=⟨[some (.d (.cell n)),some (.d x),some (.own (.dct (iJ (fun _=>0) (N.names.take j)))),v3,none],S⟩) Nl.d1 (fun _ _ _=>trivial) ⟨none,rfl⟩ (fun j y s e hI=>?_) (fun s hI=>?_)
 ·obtain ⟨v3,rfl⟩:=hI
  have e:(N.names.map D.str)[j]? =some y:=e
  rw [List.getElem?_map] at e
  obtain ⟨z,ez,rfl⟩:=Option.map_eq_some_iff.mp e
  have ht:N.names.take (j+1)=N.names.take j++ [z]:=by rw [List.take_succ,ez]; rfl
  have ni:z∉N.names.take j:=fun hz=>by
   have nd:=hG.nd
   rw [←List.take_append_drop (j+1) N.names,ht] at nd
   have:=(List.nodup_append.mp (List.nodup_append.mp nd).1).2.2 z hz z (by simp)
   exact this rfl
  have dl:((iJ (fun _=>0) (N.names.take j)).length<sizeLine):=by rw [ze,List.length_take]; exact Nat.lt_of_le_of_lt (Nat.le_trans (Nat.min_le_right _ _) nl) (by decide)
  have sp:=fun (s:SD) (o:Vl)=>fF (a:=o) (x:= .int 0) (s:=s) (k:= .inr z) (z:= .str z) (ks:=iJ (fun _=>0) (N.names.take j)) rfl dl
  have pn:jt (iJ (fun _=>0) (N.names.take j)) (.inr z) (.int 0)=iJ (fun _=>0) (N.names.take (j+1)):=by
   rw [uP ni,ht]
   exact CF fun w _=>by simp
  dsimp! only [sp,pn]
  exact ⟨_,rfl⟩
 ·obtain ⟨v3,rfl⟩:=hI
  have tt:N.names.take (N.names.map D.str).length=N.names:=by rw [List.length_map,List.take_length]
  rw [show (⟨[Vl.d (.lst (N.names.map .str))],fun _=>True,N.names.map .str⟩:Src).ds=N.names.map .str from rfl,tt]
  dsimp! only [k1,q1]
  rw [ae]
  refine iM (fun j s=>∃v4,s=⟨[some (.d (.cell n)),some (.d x),some (.own (.dct (iJ (sp f (N.ties.take j)) N.names))),v3,v4],S⟩) Nl.d1 (fun _ _ _=>trivial) ⟨none,rfl⟩ (fun j y s e hI=>?_) (fun s hI=>?_)
  ·obtain ⟨v4,rfl⟩:=hI
   have e:(N.ties.map bB)[j]? =some y:=e
   rw [List.getElem?_map] at e
   obtain ⟨q,eq,rfl⟩:=Option.map_eq_some_iff.mp e
   have hq:=List.mem_of_getElem? eq
   have mi:q.1∈is:=hp.mem_iff.mpr (List.mem_map.mpr ⟨q,hq,rfl⟩)
   have i1:∀s:SD,ixK s (some (.dct (ao f is))) (some (.int q.1))= .ok (.d (.int (f q.1))) s:=fun s=>bj (kT mi)
   obtain ⟨p1,p2,p3⟩:=hG.pl q hq
   have sn:=zh (f:=f) eq
   generalize sp f (N.ties.take j)=h0 at*
   have dl:∀h:Str→Int,((iJ h N.names).length<sizeLine):=fun h=>by rw [ze]; exact Nat.lt_of_le_of_lt nl (by decide)
   have g1:=gd_str (h:=h0) p1
   have s1:=fun (a:Int) (s:SD) (o:Vl)=>fF (a:=o) (x:= .int a) (s:=s) (k:= .inr q.2.tail) (z:= .str q.2.tail) (ks:=iJ h0 N.names) rfl (dl _)
   have w1:=fun a=>mG (h:=h0) (a:=a) p1
   have g2:=fun h=>gd_str (h:=h) p2
   have s2:=fun (h:Str→Int) (a:Int) (s:SD) (o:Vl)=>fF (a:=o) (x:= .int a) (s:=s) (k:= .inr q.2.head) (z:= .str q.2.head) (ks:=iJ h N.names) rfl (dl _)
   have w2:=fun h a=>mG (h:=h) (a:=a) p2
   rw [sn]
   clear hG hN hp k1 k2 hx
   dsimp! only [cY,cx,i1,g1,s1,w1,g2,s2,w2]
   exact ⟨_,rfl⟩
  ·obtain ⟨v4,rfl⟩:=hI
   have tt:N.ties.take (N.ties.map bB).length=N.ties:=by rw [List.length_map,List.take_length]
   rw [show (⟨[Vl.d (.lst (N.ties.map bB))],fun _=>True,N.ties.map bB⟩:Src).ds=N.ties.map bB from rfl,tt]
   dsimp! only []
end
section
variable {s:SD} {S:Sto} {sl:List (Option Vl)} {x y:D} {n l d:Nat} {N:ND} {q:Int×TD} {f:Int→Int} {is:List Int} {h:Str→Int} {z w:Str} {zs:List Str} {s1 s2:Str}
def costI (f:Int→Int) (ts:List (Int×TD)):Int:=(ts.map fun q=>q.2.price*f q.1).sum
def FlowBd (ts:List (Int×TD)) (f:Int→Int):Prop:=∀q∈ts,0≤f q.1∧f q.1≤1000*M60
theorem eq_strF {s:SD} (e:s1≠s2):eqK s (some (.str s1)) (some (.str s2))= .ok (.d (.bl false)) s:=by rw [rF,decide_eq_false e]
theorem dW (hN:NetAt S n l d N) (h1:s1∈N.names) (h2:s2∈N.names) (h3:s1≠s2):goF br [.cell n, .str s1, .str s2] ⟨sl,S⟩= .ok (.d .non) ⟨sl,S⟩:=by
 have k1:=fun sl=>cg (sl:=sl) hN h1
 have k2:=fun sl=>cg (sl:=sl) hN h2
 have q1:=hN.n
 have e1:=fun s:SD=>eq_strF (s:=s) h3
 refine dY ?_
 show Wp (bz ⟨[some (.d (.cell n)),some (.d (.str s1)),some (.d (.str s2))],S⟩) _ _
 unfold bz
 have d0:=decide_eq_false h3
 dsimp! only [k1,k2,q1,d0]
noncomputable def DU (h:Str→Int) (s1 s2:Str) (zs:List Str):D:=if∀z∈zs,h z=0∨z=s1∨z=s2 then .int (0 - h s1) else .non
theorem eE (hN:NetAt S n l d N) (hG:Good N) (hx:Hand S x (ao f is)) (hp:is.Perm (N.ties.map (·.1))) (hf:eI N.ties f) (h1:s1∈N.names) (h2:s2∈N.names) (h3:s1≠s2):goF bY [.cell n,x, .str s1, .str s2] ⟨sl,S⟩= .ok (.d (DU (sp f N.ties) s1 s2 N.names)) ⟨sl,S⟩:=by
 have k1:=fun sl=>tX (sl:=sl) hN hG hx hp
 have k2:=fun sl=>fQ (sl:=sl) hN hG hx hp hf
 have k3:=fun sl=>dW (sl:=sl) hN h1 h2 h3
 generalize sp f N.ties=h at*
 refine dY ?_
 show Wp (ia ⟨[some (.d (.cell n)),some (.d x),some (.d (.str s1)),some (.d (.str s2)),none,none,none],S⟩) _ _
 unfold ia
 dsimp! only [k1,k2,k3]
 rw [ae]
 refine iM (fun j s=>(∀z∈N.names.take j,h z=0∨z=s1∨z=s2)∧∃v5 v6,s=⟨[some (.d (.cell n)),some (.d x),some (.d (.str s1)),some (.d (.str s2)),some (.d (.dct (iJ h N.names))),v5,v6],S⟩) Nl.d1 (fun _ _ _=>trivial) ⟨fun z hz=>by simp at hz,none,none,rfl⟩ (fun j y s e hI=>?_) (fun s hI=>?_)
 ·obtain ⟨hz,v5,v6,rfl⟩:=hI
  have e:(Wk.items.ds (iJ h N.names))[j]? =some y:=e
  rw [sJ,List.getElem?_map] at e
  obtain ⟨z,ez,rfl⟩:=Option.map_eq_some_iff.mp e
  have ht:N.names.take (j+1)=N.names.take j++ [z]:=by rw [List.take_succ,ez]; rfl
  have zm:=List.mem_of_getElem? ez
  have go:(h z=0∨z=s1∨z=s2)→∀z∈N.names.take (j+1),h z=0∨z=s1∨z=s2:=fun q w hw=>by
   rw [ht] at hw
   rcases List.mem_append.mp hw with hw | hw
   ·exact hz w hw
   ·rw [List.mem_singleton.mp hw]; exact q
  by_cases c1:h z=0
  ·have d1:=decide_eq_true c1
   dsimp! only [d1]
   exact ⟨go (.inl c1),_,_,rfl⟩
  ·have d1:=decide_eq_false c1
   by_cases c2:z=s1
   ·have d2:=decide_eq_true c2
    dsimp! only [d1,d2]
    exact ⟨go (.inr (.inl c2)),_,_,rfl⟩
   ·have d2:=decide_eq_false c2
    by_cases c3:z=s2
    ·have d3:=decide_eq_true c3
     dsimp! only [d1,d2,d3]
     exact ⟨go (.inr (.inr c3)),_,_,rfl⟩
    ·have d3:=decide_eq_false c3
     have cd:DU h s1 s2 N.names= .non:=if_neg fun q=>by
      rcases q z zm with q | q | q
      ·exact c1 q
      ·exact c2 q
      ·exact c3 q
     dsimp! only [d1,d2,d3,cd]
 ·obtain ⟨hz,v5,v6,rfl⟩:=hI
  have hl:(Wk.items.ds (iJ h N.names)).length=N.names.length:=by rw [sJ,List.length_map]
  have hz:∀z∈N.names.take (Wk.items.ds (iJ h N.names)).length,h z=0∨z=s1∨z=s2:=hz
  rw [hl,List.take_length] at hz
  have cd:DU h s1 s2 N.names= .int (0 - h s1):=if_pos hz
  have i1:∀s:SD,ixK s (some (.dct (iJ h N.names))) (some (.str s1))= .ok (.d (.int (h s1))) s:=fun s=>bj (str_at h1)
  dsimp! only [i1,cd]
end
open TL (tl numL)
theorem xM {n:Nat} (h:n<10 ^ 61):n.log2<1920:=by
 by_cases e:n=0
 ·subst e; decide
 ·refine (Nat.log2_lt e).mpr (Nat.lt_of_lt_of_le h ?_)
  exact Nat.le_of_ble_eq_true rfl
def numI (n:Int):List Nat:=if n<0 then 45::numL n.natAbs else numL n.natAbs
theorem tl_int (n:Int):tl (Str.ofString (toString n))=numI n:=by
 unfold numI
 cases n with
 | ofNat m=>
  rw [if_neg (by have:=Int.natCast_nonneg m; exact Int.not_lt.mpr this)]
  exact TL.tl_num m
 | negSucc m=>
  rw [if_pos (by omega)]
  have e:=TL.tl_num (m+1)
  show (Str.ofString _).cps.toList=_
  rw [signs_ofString]
  have e:(Str.ofString (toString ((m+1:Nat):Int))).cps.toList=numL (m+1):=TL.tl_num (m+1)
  rw [signs_ofString] at e
  show ("-" ++Nat.repr (m+1)).toList.map Char.toNat=_
  rw [String.toList_append,List.map_append]
  exact congrArg (fun l=>45::l) e
def nt (n:Int):Str:=Str.ofString (toString n)
theorem tl_nt (n:Int):tl (nt n)=numI n:=tl_int n
def numD (z:Str):D:=match numRd (tl z) with
 | some i=> .int i
 | none=> .non
theorem Au (n:Int):∀c∈numI n,c=45∨48≤c∧c≤57:=fun c hc=>by
 unfold numI at hc
 have h:=TL.numL_digits n.natAbs
 split at hc
 ·rcases List.mem_cons.mp hc with e | e
  ·exact .inl e
  ·exact .inr (h c e)
 ·exact .inr (h c hc)
theorem nt_len {n:Int} (h:n.natAbs<10 ^ 61):1≤(nt n).length∧(nt n).length≤62:=by
 have h1:=TL.numL_ne n.natAbs
 have h2:=TL.numL_len (by decide) h
 have h3:1≤(numL n.natAbs).length:=List.length_pos_iff.mpr h1
 rw [gq,tl_nt]
 unfold numI
 split
 ·rw [List.length_cons]; omega
 ·omega
section
variable {s:SD} {d:Nat} {i:Int}
theorem cG (h:i.natAbs<10 ^ 61):goF bq [.int i] s= .ok (.d (.str (nt i))) s:=by
 refine oV ?_
 show Wp (fU ⟨[some (.d (.int i))],s.st⟩) _ _
 unfold fU
 have h1:(i.natAbs.log2<1920)=True:=eq_true (xM h)
 simp! only [h1]
 rfl
end
def De:Option Int→Str
 | none=> "any"
 | some m=>nt m
def wG (q:Int×TD):List Str:= ["tie",nt q.1,q.2.tail,q.2.head,nt q.2.least,De q.2.most,nt q.2.price]
def yX (q:Int×TD):Str:=Txt.join " " (wG q)
def plL (z:Str):Str:= "place " ++z
def gvL (i:Int):Str:= "given " ++nt i
def C9 (N:ND):List Str:=N.names.map plL++N.ties.map yX++ [gvL N.given]
theorem mH {i:Int} (h1: -M60≤i) (h2:i≤M60):i.natAbs<10 ^ 61:=by
 have e:(10:Nat) ^ 61=10000000000000000000000000000000000000000000000000000000000000:=by decide
 have hM:M60=1000000000000000000000000000000000000000000000000000000000000:=rfl
 omega
structure Wd (w:Str):Prop where
 nb:32∉tl w
 ne:w≠ ""
 le:w.length≤62
theorem wd_nm {z:Str} (h:ux z):Wd z:=by
 refine ⟨fun h2=>?_,fun e=>?_,by have:=h.2.2.1; omega⟩
 ·have:=h.1 32 h2
  revert this
  decide+kernel
 ·have h1:=h.2.1
  rw [e] at h1
  exact absurd h1 (by decide+kernel)
theorem Cw {n:Int} (h:n.natAbs<10 ^ 61):Wd (nt n):=by
 obtain ⟨h1,h2⟩:=nt_len h
 refine ⟨fun h3=>?_,fun e=>?_,h2⟩
 ·rw [tl_nt] at h3
  have:=Au n 32 h3
  omega
 ·rw [e] at h1
  exact absurd h1 (by decide+kernel)
theorem wd_most {m:Option Int} (h:∀i,m=some i→i.natAbs<10 ^ 61):Wd (De m):=by
 cases m with
 | none=>exact ⟨by decide+kernel,by decide+kernel,by decide+kernel⟩
 | some i=>exact Cw (h i rfl)
structure Wr1 (q:Int×TD):Prop where
 n0:1≤q.1
 n1:q.1≤M60
 ok:TieOk q.2
 t:ux q.2.tail
 h:ux q.2.head
theorem Wr1.most {q:Int×TD} (h:Wr1 q):∀i,q.2.most=some i→i.natAbs<10 ^ 61:=fun i e=>by
 have:=h.ok.m
 rw [e] at this
 have h2:(decide (q.2.least≤i)&&decide (i≤M60))=true:=this
 rw [Bool.and_eq_true,decide_eq_true_eq,decide_eq_true_eq] at h2
 have h0:=h.ok.l0
 exact mH (Int.le_trans (by decide) (Int.le_trans h0 h2.1)) h2.2
theorem Wr1.nums {q:Int×TD} (h:Wr1 q):q.1.natAbs<10 ^ 61∧q.2.least.natAbs<10 ^ 61∧q.2.price.natAbs<10 ^ 61:=
 ⟨mH (Int.le_trans (by decide) h.n0) h.n1,mH (Int.le_trans (by decide) h.ok.l0) h.ok.l1,mH h.ok.p0 h.ok.p1⟩
theorem wd_tie:Wd "tie" :=⟨by decide+kernel,by decide+kernel,by decide+kernel⟩
theorem Wr1.wds {q:Int×TD} (h:Wr1 q):∀w∈wG q,Wd w:=fun w hw=>by
 obtain ⟨h1,h2,h3⟩:=h.nums
 unfold wG at hw
 simp only [List.mem_cons,List.not_mem_nil,or_false] at hw
 rcases hw with rfl | rfl | rfl | rfl | rfl | rfl | rfl
 ·exact wd_tie
 ·exact Cw h1
 ·exact wd_nm h.t
 ·exact wd_nm h.h
 ·exact Cw h2
 ·exact wd_most h.most
 ·exact Cw h3
theorem Du {q:Int×TD} (h:Wr1 q):((wG q).map (·.length)).sum+(wG q).length*(" " :Str).length≤1000:=by
 have h1:=zc (wG q) 62 fun w hw=>(h.wds w hw).le
 have h2:(wG q).length=7:=rfl
 have h3:(" " :Str).length=1:=by decide+kernel
 rw [h2] at h1 ⊢
 rw [h3]
 omega
section
variable {s:SD} {S:Sto} {sl:List (Option Vl)} {x z:D} {n l d:Nat} {N:ND} {i g:Int} {q:Int×TD} {v0 v1 v2 v3:Option Vl}
theorem yc (h:Wr1 q):goF ij [bB q] s= .ok (.d (.str (yX q))) s:=by
 have hl:=Du h
 have hm:=h.most
 obtain ⟨h1,h2,h3⟩:=h.nums
 obtain ⟨i,ta,he,le,mo,pr⟩:=q
 have k1:=fun s:SD=>cG (s:=s) h1
 have k2:=fun s:SD=>cG (s:=s) h2
 have k3:=fun s:SD=>cG (s:=s) h3
 have z6:∀a b c d e f g:D,([a,b,c,d,e,f].length+ [g].length≤sizeLine)=True:=fun _ _ _ _ _ _ _=>eq_true (by show 6+1≤sizeLine; decide)
 refine oV ?_
 cases mo with
 | none=>
  have j:=fun s:SD=>qU (s:=s) (z:= " ") (ds:=(wG (i,⟨ta,he,le,none,pr⟩)).map D.str) (ys:=wG (i,⟨ta,he,le,none,pr⟩)) (by simpa using jU (fun z:Str=>z) _) (Nat.le_trans hl (by decide))
  show Wp (fu ⟨[some (.d (.obj "Tie" (wH i ⟨ta,he,le,none,pr⟩))),none,none],s.st⟩) _ _
  unfold fu
  have md0:ef none= .non:=rfl
  simp only [wG,De,List.map_cons,List.map_nil] at j
  clear hl hm h1 h2 h3 h
  dsimp! only [md0,k1,k2,k3,z6,j]
  rfl
 | some m=>
  have k4:=fun s:SD=>cG (s:=s) (hm m rfl)
  have j:=fun s:SD=>qU (s:=s) (z:= " ") (ds:=(wG (i,⟨ta,he,le,some m,pr⟩)).map D.str) (ys:=wG (i,⟨ta,he,le,some m,pr⟩)) (by simpa using jU (fun z:Str=>z) _) (Nat.le_trans hl (by decide))
  show Wp (fu ⟨[some (.d (.obj "Tie" (wH i ⟨ta,he,le,some m,pr⟩))),none,none],s.st⟩) _ _
  unfold fu
  have md1:ef (some m)= .int m:=rfl
  simp only [wG,De,List.map_cons,List.map_nil] at j
  clear hl hm h1 h2 h3 h
  dsimp! only [md1,k1,k2,k3,k4,z6,j]
  rfl
structure WrN (N:ND):Prop where
 nm:∀z∈N.names,ux z
 nl:N.names.length≤14
 ts:∀q∈N.ties,Wr1 q
 tl:N.ties.length≤40
 rise:xG N.ties
 g0:0≤N.given
 g1:N.given≤M60
def plD:D→D
 | .str z=> .str (plL z)
 | x=>x
theorem Ab {ns:List Str} (hn:∀z∈ns,z.length≤12) (hl:ns.length≤14):lcK (zSt 2) eU (z2 cj (zC (.str "place ")) (aa 2)) [2] ⟨[.d (.lst (ns.map .str))],fun _=>True,ns.map .str⟩ ⟨[v0,v1,v2,v3],S⟩=
  .ok (.own (.lst ((ns.map plL).map .str))) ⟨[v0,v1,none,v3],S⟩:=by
 rw [lG plD rfl Nl.d1 trivial (fun x hx=>?_) (by show (ns.map D.str).length≤_; rw [List.length_map]; exact Nat.le_trans hl (by decide))]
 ·rw [List.map_map,List.map_map]
  rfl
 ·obtain ⟨z,hz,rfl⟩:=List.mem_map.mp hx
  have sz:(("place " :Str).length+z.length≤sizeLine)=True:=eq_true (by
   have:=hn z hz
   rw [show ("place " :Str).length=6 by decide+kernel]
   exact Nat.le_trans (show 6+z.length≤100 by omega) (by decide))
  unfold Z.jB
  simp! only [sz,plD,plL]
def tlD:D→D
 | .obj _ [(_, .int i),(_, .str ta),(_, .str he),(_, .int le),(_, .non),(_, .int pr)]=> .str (yX (i,⟨ta,he,le,none,pr⟩))
 | .obj _ [(_, .int i),(_, .str ta),(_, .str he),(_, .int le),(_, .int mo),(_, .int pr)]=> .str (yX (i,⟨ta,he,le,some mo,pr⟩))
 | x=>x
theorem yW (q:Int×TD):tlD (bB q)= .str (yX q):=by
 obtain ⟨i,ta,he,le,mo,pr⟩:=q
 cases mo<;> rfl
theorem yU {ts:List (Int×TD)} (ht:∀q∈ts,Wr1 q) (hl:ts.length≤40):lcK (zSt 3) eU (ar ij [] (zA (aa 3) zA0)) [3] ⟨[.d (.lst (ts.map bB))],fun _=>True,ts.map bB⟩ ⟨[v0,v1,v2,v3],S⟩=
  .ok (.own (.lst ((ts.map yX).map .str))) ⟨[v0,v1,v2,none],S⟩:=by
 rw [lG tlD rfl Nl.d1 trivial (fun x hx=>?_) (by show (ts.map bB).length≤_; rw [List.length_map]; exact Nat.le_trans hl (by decide))]
 ·show R.ok (Vl.own (.lst ((ts.map bB).map tlD))) _=_
  rw [List.map_map,List.map_map]
  rw [show (tlD ∘ bB)=(D.str ∘ yX) from funext yW]
  rfl
 ·obtain ⟨q,hq,rfl⟩:=List.mem_map.mp hx
  have e:=fun s:SD=>yc (s:=s) (ht q hq)
  have e2:=yW q
  unfold Z.jB
  simp! only [e,e2]
theorem nP (h:NetAt S n l d N) (hW:WrN N):goF aC [.cell n] ⟨sl,S⟩= .ok (.own (.lst ((C9 N).map .str))) ⟨sl,S⟩:=by
 refine dY ?_
 show Wp (jw ⟨[some (.d (.cell n)),none,none,none],S⟩) _ _
 have q1:=h.n
 have t1:=fun sl=>iU (sl:=sl) h hW.rise hW.tl
 have t2:=fun sl=>jQ (sl:=sl) h
 have t3:=fun sl=>g_given (sl:=sl) h
 have c1:=fun (v0 v1 v2 v3:Option Vl)=>Ab (S:=S) (v0:=v0) (v1:=v1) (v2:=v2) (v3:=v3) (fun z hz=>(hW.nm z hz).2.2.1) hW.nl
 have c2:=fun (v0 v1 v2 v3:Option Vl)=>yU (S:=S) (v0:=v0) (v1:=v1) (v2:=v2) (v3:=v3) hW.ts hW.tl
 have hg:N.given.natAbs<10 ^ 61:=mH (Int.le_trans (by decide) hW.g0) hW.g1
 have k1:=fun s:SD=>cG (s:=s) hg
 have z1:(((N.names.map plL).map D.str).length+((N.ties.map yX).map D.str).length≤sizeLine)=True:=eq_true (by
  have:=hW.nl
  have:=hW.tl
  rw [List.length_map,List.length_map,List.length_map,List.length_map]
  exact Nat.le_trans (show _≤100 by omega) (by decide))
 have z2:∀x:D,((((N.names.map plL).map D.str)++((N.ties.map yX).map D.str)).length+ [x].length≤sizeLine)=True:=fun x=>eq_true (by
  have:=hW.nl
  have:=hW.tl
  rw [List.length_append,List.length_map,List.length_map,List.length_map,List.length_map]
  refine Nat.le_trans (show _+1≤100 by omega) (by decide))
 have z3:(("given " :Str).length+(nt N.given).length≤sizeLine)=True:=eq_true (by
  have:=(nt_len hg).2
  rw [show ("given " :Str).length=6 by decide+kernel]
  exact Nat.le_trans (show 6+(nt N.given).length≤100 by omega) (by decide))
 have e:((N.names.map plL).map D.str)++((N.ties.map yX).map D.str)++ [.str (gvL N.given)]=(C9 N).map .str:=by
  unfold C9
  rw [List.map_append,List.map_append]
  rfl
 unfold jw
 clear h hW hg
 dsimp! only [q1,t1,t2,t3,c1,c2,k1,z1,z2,z3]
 exact congrArg (fun l=>some (Vl.own (.lst l))) e
end
end T

namespace T
open PySem PySem.Spec PyProof.Rows L2 M Z A
open Classical
mutual
theorem rE:∀d:PyData,PyData.canLay0 d=true→PyData.eqv d d=true
 | .none,_=>rfl
 | .bool b,_=>by simp [PyData.eqv]
 | .int i,_=>by simp [PyData.eqv]
 | .str s,_=>by simp [PyData.eqv]
 | .list xs,h=>by rw [PyData.eqv]; exact jr xs (by simpa [PyData.canLay0] using h)
 | .tuple xs,h=>by rw [PyData.eqv]; exact jr xs (by simpa [PyData.canLay0] using h)
 | .dict _,h=>by simp [PyData.canLay0] at h
theorem jr:∀ds:List PyData,PyData.canLayAll0 ds=true→PyData.eqvAll ds ds=true
 | [],_=>rfl
 | d::ds,h=>by
  have h' :PyData.canLay0 d=true∧PyData.canLayAll0 ds=true:=by simpa [PyData.canLayAll0] using h
  rw [PyData.eqvAll,rE d h'.1,jr ds h'.2]
  rfl
end
theorem dEq_lst {xs:List D} {ds:List PyData} (h:D.pys xs=some ds) (hs:SeqAt.shaped (.list ds)=true):dEq (.lst xs) (.lst xs)=some true:=by
 have hr:=rE (.list ds) (SeqAt.canLay_of_shaped hs)
 cases xs with
 | nil=>rfl
 | cons a r=>
  have h1:D.py (.lst (a::r))=some (.list ds):=by
   rw [D.py,h]
  unfold dEq
  simp only [D.sc,h1,hs,hr,and_self,if_true]
theorem dEq_tup {xs:List D} {ds:List PyData} (h:D.pys xs=some ds) (hs:SeqAt.shaped (.tuple ds)=true):dEq (.tup xs) (.tup xs)=some true:=by
 have hr:=rE (.tuple ds) (SeqAt.canLay_of_shaped hs)
 have h1:D.py (.tup xs)=some (.tuple ds):=by
  rw [D.py,h]
 unfold dEq
 simp only [D.sc,h1,hs,hr,and_self,if_true]
mutual
def toP:D→PyData
 | .non=> .none
 | .bl b=> .bool b
 | .int i=> .int i
 | .str s=> .str s
 | .lst ds=> .list (toPs ds)
 | .tup ds=> .tuple (toPs ds)
 | _=> .none
def toPs:List D→List PyData
 | []=> []
 | d::ds=>toP d::toPs ds
end
mutual
def lay:D→Bool
 | .non | .bl _ | .int _=>true
 | .str s=>PyData.strOk s
 | .lst ds=>AK ds
 | .tup ds=>AK ds
 | _=>false
def AK:List D→Bool
 | []=>true
 | d::ds=>lay d&&AK ds
end
mutual
def dep:D→Nat
 | .lst ds=>deps ds+1
 | .tup ds=>deps ds+1
 | _=>0
def deps:List D→Nat
 | []=>0
 | d::ds=>max (dep d) (deps ds)
end
mutual
theorem lay_py:∀{x:D},lay x=true→D.py x=some (toP x)∧(toP x).canLay0=true∧(toP x).depth=dep x
 | .non,_=>⟨rfl,rfl,rfl⟩
 | .bl _,_=>⟨rfl,rfl,rfl⟩
 | .int _,_=>⟨rfl,rfl,rfl⟩
 | .str s,h=>⟨rfl,by rw [toP,PyData.canLay0]; exact (by rw [lay] at h; exact h),rfl⟩
 | .lst ds,h=>by
  rw [lay] at h
  obtain ⟨h1,h2,h3⟩:=nC h
  rw [D.py,h1,toP,PyData.canLay0,PyData.depth,h3,dep]
  exact ⟨rfl,h2,rfl⟩
 | .tup ds,h=>by
  rw [lay] at h
  obtain ⟨h1,h2,h3⟩:=nC h
  rw [D.py,h1,toP,PyData.canLay0,PyData.depth,h3,dep]
  exact ⟨rfl,h2,rfl⟩
 | .con _,h=>by simp [lay] at h
 | .dct _,h=>by simp [lay] at h
 | .obj _ _,h=>by simp [lay] at h
 | .exc _ _,h=>by simp [lay] at h
 | .odd _,h=>by simp [lay] at h
 | .cell _,h=>by simp [lay] at h
theorem nC:∀{ds:List D},AK ds=true→D.pys ds=some (toPs ds)∧PyData.canLayAll0 (toPs ds)=true∧PyData.depthAll (toPs ds)=deps ds
 | [],_=>⟨rfl,rfl,rfl⟩
 | d::ds,h=>by
  rw [AK,Bool.and_eq_true] at h
  obtain ⟨h1,h2,h3⟩:=lay_py h.1
  obtain ⟨g1,g2,g3⟩:=nC h.2
  rw [D.pys,h1,g1,toPs,PyData.canLayAll0,PyData.depthAll,h2,g2,h3,g3,deps]
  exact ⟨rfl,rfl,rfl⟩
end
theorem xo {ds:List D} (h:∀d∈ds,lay d=true):AK ds=true:=by
 induction ds with
 | nil=>rfl
 | cons d ds ih=>rw [AK,h d (List.mem_cons_self ..),ih fun e he=>h e (List.mem_cons_of_mem _ he)]; rfl
theorem xA {k:Nat} {ds:List D} (h:∀d∈ds,dep d≤k):deps ds≤k:=by
 induction ds with
 | nil=>exact Nat.zero_le _
 | cons d ds ih=>
  rw [deps]
  exact Nat.max_le.mpr ⟨h d (List.mem_cons_self ..),ih fun e he=>h e (List.mem_cons_of_mem _ he)⟩
theorem eq_lst {ds:List D} (h:∀d∈ds,lay d=true) (h2:∀d∈ds,dep d≤60):dEq (.lst ds) (.lst ds)=some true:=by
 obtain ⟨h1,h3,h4⟩:=nC (xo h)
 refine dEq_lst h1 ?_
 unfold SeqAt.shaped
 rw [PyData.canLay0,PyData.depth,h3,h4]
 have:=xA h2
 exact decide_eq_true (by omega)
theorem eq_tup {ds:List D} (h:∀d∈ds,lay d=true) (h2:∀d∈ds,dep d≤60):dEq (.tup ds) (.tup ds)=some true:=by
 obtain ⟨h1,h3,h4⟩:=nC (xo h)
 refine dEq_tup h1 ?_
 unfold SeqAt.shaped
 rw [PyData.canLay0,PyData.depth,h3,h4]
 have:=xA h2
 exact decide_eq_true (by omega)
def numT (x:D):Prop:=∃es:List D,x= .tup es∧es.length≤6∧∀e∈es,e= .non∨∃i,e= .int i
open Rs (As tw hd tl rm iT Ro roA roR lo up wan ro0 RoOk)
theorem Dg (u:Option Int):ef u=rD u:=by cases u<;> rfl
structure MT where
 tail:Str
 head:Str
 l:Int
 u:Option Int
def moreD (x:MT):D:= .tup [.str x.tail, .str x.head, .int x.l,rD x.u]
def rowD (r:Ro):D:= .tup [.int (r.t:Int), .int (r.h:Int), .int r.l,rD r.u]
def oL (names:List Str) (q:Int×TD):Ro:=⟨names.idxOf q.2.tail,names.idxOf q.2.head,q.2.least,q.2.most⟩
def morRo (names:List Str) (x:MT):Ro:=⟨names.idxOf x.tail,names.idxOf x.head,x.l,x.u⟩
def ah (N:ND) (ms:List MT):List Ro:=N.ties.map (oL N.names)++ms.map (morRo N.names)
structure MtOk (N:ND) (x:MT):Prop where
 t:x.tail∈N.names
 h:x.head∈N.names
 n:x.tail≠x.head
 b:∀v,x.u=some v→x.l≤v
section
variable {a b:Vl} {s:SD} {x y:D} {n h m r p q l d:Nat} {N:ND} {ms:List MT} {rows:List Ro}
noncomputable def ixdK (s:SD):Option D→Option D→R Vl
 | some (.lst ds),some x=>match scs ds,x.sc with
  | some vs,some v=>match vs.findIdx? (fun z=>eqV z v) with
   | some j=> .ok (.d (.int (j:Nat))) s
   | none=> .bad
  | _,_=> .bad
 | _,_=> .bad
theorem gA:bT a b s=ixdK s (s.cont a) (s.cont b):=by
 unfold bT ixdK
 rfl
theorem xy (w:Str):∀l:List Str,w∈l→(l.map V.str).findIdx? (fun z=>eqV z (.str w))=some (l.idxOf w)
 | [],h=>by cases h
 | y::l,h=>by
  rw [List.map_cons,List.findIdx?_cons,List.idxOf_cons]
  have e:eqV (V.str y) (V.str w)=(y == w):=rfl
  rw [e]
  by_cases c:y=w
  ·have:(y == w)=true:=by rw [beq_iff_eq]; exact c
   rw [this]; rfl
  ·have c2:(y == w)=false:=by rw [beq_eq_false_iff_ne]; exact c
   rw [c2,xy w l (by rcases List.mem_cons.mp h with e | h; exact absurd e.symm c; exact h)]
   rfl
theorem hJ {l:List Str} {z:Str} (h:z∈l):∀s:SD,ixdK s (some (.lst (l.map .str))) (some (.str z))= .ok (.d (.int (l.idxOf z:Int))) s:=fun s=>by
 unfold ixdK
 simp only [qn,D.sc,xy z l h]
theorem cF {l:List Str} {z:Str} (h:z∈l):l.idxOf z<l.length:=List.idxOf_lt_length_of_mem h
theorem jP {l:List Str} {y z:Str} (h:y∈l) (h2:z∈l) (hn:y≠z):l.idxOf y≠l.idxOf z:=fun e=>hn (by
 have h3:=List.getElem_idxOf (cF h)
 have h4:=List.getElem_idxOf (cF h2)
 rw [←h3,←h4]
 congr 1)
theorem zD (hG:Good N) (hm:∀x∈ms,MtOk N x):∀r∈ah N ms,RoOk r N.names.length:=fun r hr=>by
 rcases List.mem_append.mp hr with hr | hr
 ·obtain ⟨q,hq,rfl⟩:=List.mem_map.mp hr
  obtain ⟨h1,h2,h3⟩:=hG.pl q hq
  have ok:=(hG.ts q hq).2
  refine ⟨cF h1,cF h2,jP h1 h2 h3,fun v e=>?_⟩
  have hm:=ok.m
  have e:q.2.most=some v:=e
  rw [e] at hm
  simp only [ef,rmOk,Bool.and_eq_true,decide_eq_true_eq] at hm
  exact hm.1
 ·obtain ⟨x,hx,rfl⟩:=List.mem_map.mp hr
  have ok:=hm x hx
  exact ⟨cF ok.t,cF ok.h,jP ok.t ok.h ok.n,ok.b⟩
theorem xP:(ah N ms).length=N.ties.length+ms.length:=by unfold ah; rw [List.length_append,List.length_map,List.length_map]
def intsR (m:Nat) (F:Nat→Int):List D:=(List.range m).map fun p=> .int (F p)
def wanJ (rows:List Ro) (j p:Nat):Int:=0 - Rs.sm j fun k=>lo rows k*(Rs.dl p (Rs.ta (roA rows) k) - Rs.dl p (Rs.he (roA rows) k))
end
section
variable {S:Sto} {n h q l d:Nat} {rs' :List (Option Int)} {N:ND} {rows:List Ro}
theorem NetAt.ext {S' :Sto} (h:NetAt S n l d N) (E:Ext S S') (hn:n<S.nx) (hl:l<S.nx) (hd:d<S.nx):NetAt S' n l d N:=⟨(E.get _ hn).trans h.n,(E.get _ hl).trans h.l,(E.get _ hd).trans h.d⟩
def amt (rows:List Ro) (rs' :List (Option Int)) (k:Nat):Int:=lo rows k+(rm rs' (2*k+1)).getD 0
def nums (N:ND):List Int:=N.ties.map (·.1)
def dF (N:ND) (F:Nat→Int) (i:Int):Int:=F ((nums N).idxOf i)
theorem Ap (hG:Good N):(nums N).Nodup:=List.Pairwise.imp (fun h=>Int.ne_of_lt h) hG.rise
theorem wX:(nums N).length=N.ties.length:=by unfold nums; rw [List.length_map]
theorem xD (hG:Good N) {F:Nat→Int} {k:Nat} {q:Int×TD} (e:N.ties[k]? =some q):dF N F q.1=F k:=by
 unfold dF
 have e2:(nums N)[k]? =some q.1:=by unfold nums; rw [List.getElem?_map,e]; rfl
 obtain ⟨hk,e3⟩:=List.getElem?_eq_some_iff.mp e2
 congr 1
 rw [←e3]
 exact List.Nodup.idxOf_getElem (Ap hG) k hk
theorem DJ {F:Int→Int} {is:List Int} {i:Int} (h:i∉is):jt (ao F is) (.inl i) (.int (F i))=ao F (is++ [i]):=by
 rw [hV h]
 refine nU fun j _=>?_
 show (if j=i then F i else F j)=F j
 by_cases c:j=i
 ·rw [if_pos c,c]
 ·rw [if_neg c]
end
end T

set_option maxHeartbeats 4000000
namespace T
open PySem PySem.Spec PyProof.Rows L2 M Z A
open Classical
open TL (tl)
local macro_rules | `(tactic| walk_at "zi") => `(tactic| repeat (refine Z.iteW (by first | decide | omega | (refine M.aw ?_ ?_ <;> omega) | (refine M.cQ ?_ ?_ ?_ ?_ <;> omega)) ?_))
section
variable {s:SD} {S:Sto} {x z:D} {v0 v1 v2 v3 v4 v5 v6 v7 v8 v9 v10:Option Vl} {n:Int} {m:Nat}
theorem ltr_inj {i j:Int} (i0:0≤i) (i1:i<26) (j0:0≤j) (j1:j<26) (h:tl (ltr i)=tl (ltr j)):i=j:=by
 have e:∀k:Nat,k<26→tl (ltr (k:Int))= [97+k]:=by decide+kernel
 have h1:=e i.toNat (by omega)
 have h2:=e j.toNat (by omega)
 rw [show ((i.toNat:Nat):Int)=i by omega] at h1
 rw [show ((j.toNat:Nat):Int)=j by omega] at h2
 rw [h1,h2] at h
 have:=List.head_eq_of_cons_eq h
 omega
theorem w2f_inj {at_:Int} {fr:Str} {i j:Int} (hi:0≤i) (hi2:i<12) (hj:0≤j) (hj2:j<12) (n0:0≤n) (h:w2f n at_ fr i=w2f n at_ fr j):i=j:=by
 have h1:=congrArg tl h
 unfold w2f at h1
 rw [lA,lA,lA,lA,List.append_assoc,List.append_assoc] at h1
 have h2:=List.append_cancel_left h1
 have h3:=List.append_cancel_right h2
 have:=ltr_inj (Int.emod_nonneg _ (by decide)) (Int.emod_lt_of_pos _ (by decide)) (Int.emod_nonneg _ (by decide)) (Int.emod_lt_of_pos _ (by decide)) h3
 omega
theorem nmc1 (n0:0≤n) (n1:n<2147483648) {st:Int} (hst:st=3+n%5):lcK (zSt 8) eU (z2 oIx (aa 2) (z2 dh (z2 cj (z2 fk (aa 0) (zC (.int 7))) (z2 oQ (aa 3) (aa 8))) (zC (.int 26)))) [8] ⟨[],fun _=>True,Z.upTo 0 (12:Int).toNat⟩
   ⟨[some (.d (.int n)),v1,some (.d (.str "abcdefghijklmnopqrstuvwxyz")),some (.d (.int st)),v4,v5,v6,v7,none,v9,v10],S⟩= .ok (.own (.lst (((List.range 12).map fun (i:Nat)=>ltr ((n / 7+st*(i:Int))%26)).map D.str))) ⟨[some (.d (.int n)),v1,some (.d (.str "abcdefghijklmnopqrstuvwxyz")),some (.d (.int st)),v4,v5,v6,v7,none,v9,v10],S⟩:=by
 rw [lH (l:=List.range 12) nD (fun i:Nat=>D.str (ltr ((n / 7+st*(i:Int))%26))) qc rfl nl0 trivial (fun x hx=>?_) (by rw [List.length_range,sizeLine_eq]; omega)]
 ·rw [List.map_map]; rfl
 ·obtain ⟨j,hj⟩:∃j:Int,j=(x:Int):=⟨_,rfl⟩
  have hx:=List.mem_range.mp hx
  have j0:0≤j:=by omega
  have j1:j<(12:Nat):=by omega
  rw [←hj]
  have nx:nD x= .int j:=by rw [hj]
  rw [nx]
  have hb:0≤st*j∧st*j≤7*12:=⟨Int.mul_nonneg (by omega) (by omega),Int.mul_le_mul (by omega) (by omega) (by omega) (by omega)⟩
  have e:=(tM (i:=(n / 7+st*j)%26) (Int.emod_nonneg _ (by decide)) (Int.emod_lt_of_pos _ (by decide))).1
  have e2:=fun s:SD=>bj (s:=s) e
  unfold Z.jB
  simp! only [e2]
  walk_at "zi"
  trivial
theorem nmc2 {bs:Str} (hb:bs.length=12) (hm:m≤12):lcK (zSt 9) eU (zSl (aa 4) zNo (zPt (z2 cj (aa 9) (zC (.int 1))))) [9] ⟨[],fun _=>True,Z.upTo 0 m⟩
   ⟨[v0,v1,v2,v3,some (.d (.str bs)),v5,v6,v7,v8,none,v10],S⟩= .ok (.own (.lst (((List.range m).map fun (i:Nat)=>cutS bs none (some ((i:Int)+1))).map D.str))) ⟨[v0,v1,v2,v3,some (.d (.str bs)),v5,v6,v7,v8,none,v10],S⟩:=by
 rw [lH (l:=List.range m) nD (fun i:Nat=>D.str (cutS bs none (some ((i:Int)+1)))) qc rfl nl0 trivial (fun x hx=>?_) (by rw [List.length_range,sizeLine_eq]; omega)]
 ·rw [List.map_map]; rfl
 ·obtain ⟨j,hj⟩:∃j:Int,j=(x:Int):=⟨_,rfl⟩
  have hx:=List.mem_range.mp hx
  have j0:0≤j:=by omega
  have j1:j<(m:Nat):=by omega
  rw [←hj]
  have nx:nD x= .int j:=by rw [hj]
  rw [nx]
  have z0:(bs.length≤sizeLine)=True:=eq_true (by rw [hb]; decide)
  unfold Z.jB
  simp! only [z0]
theorem nmc3 (n0:0≤n) (n1:n<2147483648) (hm:m≤12):lcK (zSt 9) eU (z2 oIx (aa 2) (z2 dh (z2 cj (z2 fk (aa 0) (zC (.int 2000))) (z2 oQ (zC (.int 5)) (aa 9))) (zC (.int 26)))) [9] ⟨[],fun _=>True,Z.upTo 0 m⟩
   ⟨[some (.d (.int n)),v1,some (.d (.str "abcdefghijklmnopqrstuvwxyz")),v3,v4,v5,v6,v7,v8,none,v10],S⟩= .ok (.own (.lst (((List.range m).map fun (i:Nat)=>ltr ((n / 2000+5*(i:Int))%26)).map D.str))) ⟨[some (.d (.int n)),v1,some (.d (.str "abcdefghijklmnopqrstuvwxyz")),v3,v4,v5,v6,v7,v8,none,v10],S⟩:=by
 rw [lH (l:=List.range m) nD (fun i:Nat=>D.str (ltr ((n / 2000+5*(i:Int))%26))) qc rfl nl0 trivial (fun x hx=>?_) (by rw [List.length_range,sizeLine_eq]; omega)]
 ·rw [List.map_map]; rfl
 ·obtain ⟨j,hj⟩:∃j:Int,j=(x:Int):=⟨_,rfl⟩
  have hx:=List.mem_range.mp hx
  have j0:0≤j:=by omega
  have j1:j<(m:Nat):=by omega
  rw [←hj]
  have nx:nD x= .int j:=by rw [hj]
  rw [nx]
  have e:=(tM (i:=(n / 2000+5*j)%26) (Int.emod_nonneg _ (by decide)) (Int.emod_lt_of_pos _ (by decide))).1
  have e2:=fun s:SD=>bj (s:=s) e
  unfold Z.jB
  simp! only [e2]
  walk_at "zi"
  trivial
theorem Ba (n0:0≤n) (n1:n<2147483648) (hm:m≤11):∃ns:List Str,ns.Nodup∧(∀z∈ns,ux z∧z.length≤11)∧ns.length=m∧∀s:SD,goF lR [.int n, .int (m:Int)] s= .ok (.own (.lst (ns.map .str))) s:=by
 obtain ⟨st,hst⟩:∃st,st=3+n%5:=⟨_,rfl⟩
 have w1:∀z∈((List.range 12).map fun (i:Nat)=>ltr ((n / 7+st*(i:Int))%26)),z.length=1∧Al z:=fun z hz=>by
  obtain ⟨i,_,rfl⟩:=List.mem_map.mp hz
  exact (tM (Int.emod_nonneg _ (by decide)) (Int.emod_lt_of_pos _ (by decide))).2
 have l1:((List.range 12).map fun (i:Nat)=>ltr ((n / 7+st*(i:Int))%26)).length=12:=by rw [List.length_map,List.length_range]
 have k1:=fun (v1 v4 v5 v6 v7 v9 v10:Option Vl) (S:Sto)=>nmc1 (v1:=v1) (v4:=v4) (v5:=v5) (v6:=v6) (v7:=v7) (v9:=v9) (v10:=v10) n0 n1 hst (S:=S)
 generalize ((List.range 12).map fun (i:Nat)=>ltr ((n / 7+st*(i:Int))%26))=ws1 at w1 k1 l1
 have hsum:=zc ws1 1 fun x hx=>by rw [(w1 x hx).1]; exact Nat.le_refl _
 have hbl:(Txt.join "" ws1).length=12:=by
  rw [AJ,List.map_congr_left (g:=fun _=>1) fun x hx=>(w1 x hx).1,List.map_const',List.sum_replicate_nat,l1]
 have hba:=al_join fun x hx=>(w1 x hx).2
 have k2:=fun s:SD=>qU (s:=s) (z:= "") (ds:=ws1.map D.str) (ys:=ws1) (by simpa using jU (fun z:Str=>z) ws1) (by rw [show (Str.ofString "").length=0 by decide+kernel]; omega)
 generalize Txt.join "" ws1=bs at hbl hba k2
 have hfa:=xF none (some (n%8)) hba
 have hfl:(cutS bs none (some (n%8))).length≤7:=by rw [tO (by omega)]; omega
 generalize efr:cutS bs none (some (n%8))=fr at hfa hfl
 have hat0:0≤n / 200%((fr.length:Int)+1):=Int.emod_nonneg _ (by omega)
 have hat1:n / 200%((fr.length:Int)+1)≤fr.length:=Int.le_of_lt_add_one (Int.emod_lt_of_pos _ (by omega))
 have hat2:(0<(fr.length:Int)+1)=True:=eq_true (by omega)
 generalize eat:n / 200%((fr.length:Int)+1)=at_ at hat0 hat1
 have z60:=fun k=>rg62 (m:=k)
 have zm:=rg62 (m:=m) (by rw [sizeLine_eq]; omega)
 have z12:(-(2 ^ 62)≤(12:Int)∧(12:Int)<2 ^ 62)=True:=eq_true (by decide)
 have b5:((0:Int)<5)=True:=by decide
 have b3:((0:Int)<3)=True:=by decide
 have b8:((0:Int)<8)=True:=by decide
 have y9:CDivW n 9=True:=eq_true (aw (by decide) (by decide))
 have y200:CDivW n 200=True:=eq_true (aw (by decide) (by decide))
 have sb:(bs.length≤sizeLine)=True:=eq_true (by rw [hbl]; decide)
 have sf:(fr.length≤sizeLine)=True:=eq_true (Nat.le_trans hfl (by decide))
 by_cases c1:n / 9%3=1
 ·refine ⟨(List.range m).map fun (i:Nat)=>cutS bs none (some ((i:Int)+1)), ?_,fun z hz=>?_,by rw [List.length_map,List.length_range],fun s=>?_⟩
  ·refine List.Pairwise.of_map (fun z:Str=>z.length) (S:=fun a b=>a≠b) (fun a b h e=>h (by rw [e])) ?_
   rw [List.map_map]
   have:(List.range m).map ((fun z:Str=>z.length) ∘ fun (i:Nat)=>cutS bs none (some ((i:Int)+1)))=(List.range m).map (· +1):=List.map_congr_left fun i hi=>by
    show (cutS bs none (some ((i:Int)+1))).length=i+1
    rw [tO (by omega),hbl]
    have:=List.mem_range.mp hi
    omega
   rw [this]
   exact List.Pairwise.map (· +1) (fun a b h=>by omega) List.nodup_range
  ·obtain ⟨i,hi,rfl⟩:=List.mem_map.mp hz
   have hi:=List.mem_range.mp hi
   have l:=tO (z:=bs) (i:=(i:Int)+1) (by omega)
   rw [hbl] at l
   exact ⟨⟨xF _ _ hba,by omega,by omega,fun e=>by
    rw [e] at l
    have:(Str.ofString "zzzyzzzyzzzy").length=12:=by decide+kernel
    omega⟩,by omega⟩
  ·refine oV ?_
   show Wp (kf ⟨[some (.d (.int n)),some (.d (.int (m:Int))),none,none,none,none,none,none,none,none,none],s.st⟩) _ _
   unfold kf
   have k3:=fun (v0 v1 v2 v3 v5 v6 v7 v8 v10:Option Vl) (S:Sto)=>nmc2 (v0:=v0) (v1:=v1) (v2:=v2) (v3:=v3) (v5:=v5) (v6:=v6) (v7:=v7) (v8:=v8) (v10:=v10) hbl (show m≤12 by omega) (S:=S)
   simp! only [b5,←hst,z12,k1,k2,b3,y9,c1,zm,Int.toNat_natCast,k3]
 ·refine ⟨(List.range m).map fun (i:Nat)=>w2f n at_ fr (i:Int), ?_,fun z hz=>?_,by rw [List.length_map,List.length_range],fun s=>?_⟩
  ·refine List.Pairwise.map _ (R:=fun i j:Nat=>i≠j∧i<12∧j<12) (fun i j h e=>h.1 (by have:=w2f_inj (by omega) (by omega) (by omega) (by omega) n0 e; omega)) ?_
   exact (List.nodup_range (n:=m)).imp_of_mem fun hi hj h=>⟨h,by have:=List.mem_range.mp hi; omega,by have:=List.mem_range.mp hj; omega⟩
  ·obtain ⟨i,_,rfl⟩:=List.mem_map.mp hz
   have:=w2_ok (n:=n) hfa hat0 hat1 i
   exact ⟨⟨this.2,by omega,by omega,fun e=>by
    have h:=this.1
    rw [e] at h
    have:(Str.ofString "zzzyzzzyzzzy").length=12:=by decide+kernel
    omega⟩,by omega⟩
  ·refine oV ?_
   show Wp (kf ⟨[some (.d (.int n)),some (.d (.int (m:Int))),none,none,none,none,none,none,none,none,none],s.st⟩) _ _
   unfold kf
   have k3:=fun (v1 v3 v4 v5 v6 v7 v8 v10:Option Vl) (S:Sto)=>nmc3 (v1:=v1) (v3:=v3) (v4:=v4) (v5:=v5) (v6:=v6) (v7:=v7) (v8:=v8) (v10:=v10) n0 n1 (show m≤12 by omega) (S:=S)
   simp! only [b5,←hst,z12,k1,k2,b3,y9,c1,zm,Int.toNat_natCast,k3,b8,sb,efr,y200,hat2,eat]
   rw [lH (l:=List.range m) (fun i:Nat=>D.str (ltr ((n / 2000+5*(i:Int))%26))) (fun i:Nat=>D.str (w2f n at_ fr (i:Int))) (by rw [List.map_map]; rfl) rfl Nl.d1 trivial (fun i hi=>?_) (by rw [List.length_range,sizeLine_eq]; omega)]
   ·simp! only [sf]
    rw [List.map_map]
    rfl
   ·obtain ⟨_,l1,_⟩:=(tM (i:=(n / 2000+5*(i:Int))%26) (Int.emod_nonneg _ (by decide)) (Int.emod_lt_of_pos _ (by decide)))
    have hc1:=tO (z:=fr) hat0
    have hc2:=xk (z:=fr) hat0
    have z1:((cutS fr none (some at_)).length+(ltr ((n / 2000+5*(i:Int))%26)).length≤sizeLine)=True:=eq_true (Nat.le_trans (show _≤100 by omega) (by decide))
    have z2:((cutS fr none (some at_)++ltr ((n / 2000+5*(i:Int))%26)).length+(cutS fr (some at_) none).length≤sizeLine)=True:=eq_true (Nat.le_trans (show _≤100 by rw [A.vA]; omega) (by decide))
    unfold Z.jB w2f
    simp! only [sf,z1,z2]
end
end T

set_option maxHeartbeats 4000000
namespace T
open PySem PySem.Spec PyProof.Rows L2 M Z A
open Classical
open Rs (As tw hd tl rm iT Ro roA roR lo up wan ro0 RoOk)
def HandL (S:Sto) (x:D) (l:List D):Prop:=x= .lst l∨∃c,x= .cell c∧S.get c=some (.lst l)
section
variable {s:SD} {S:Sto} {sl:List (Option Vl)} {x:D} {n h r p l d:Nat} {rows:List Ro} {ids:List Nat} {num:Nat→Int}
theorem HandL.cont {l:List D} (h:HandL S x l):SD.cont ⟨sl,S⟩ (.d x)=some (.lst l):=by
 rcases h with rfl | ⟨c,rfl,e⟩
 ·rfl
 ·exact e
theorem HandL.it {l:List D} (h:HandL S x l):∃ok:SD→Prop,(∀sl,B6 (.d x) ⟨sl,S⟩= .ok ⟨[.d x],ok,l⟩ ⟨sl,S⟩)∧∀sl,ok ⟨sl,S⟩:=by
 rcases h with rfl | ⟨c,rfl,e⟩
 ·exact ⟨fun _=>True,fun sl=>gx,fun _=>trivial⟩
 ·exact ⟨fun s=>s.st.get c=some (.lst l),fun sl=>qV (s:=⟨sl,S⟩) e,fun sl=>e⟩
structure RowA (ks:List (Key×D)) (i:Int) (r:Ro):Prop where
 n:fS ks (.inr "number")=some (.int i)
 t:fS ks (.inr "tail")=some (.int (r.t:Int))
 h:fS ks (.inr "head")=some (.int (r.h:Int))
structure RowB (ks:List (Key×D)) (i:Int) (r:Ro):Prop extends RowA ks i r where
 l:fS ks (.inr "least")=some (.int r.l)
 u:fS ks (.inr "most")=some (rD r.u)
def RowsB (S:Sto) (ids:List Nat) (num:Nat→Int) (rows:List Ro):Prop:=ids.length=rows.length∧∀k i,ids[k]? =some i→∃ks,S.get i=some (.dct ks)∧RowB ks (num k) (rows.getD k ro0)
theorem RowsB.ext {S' :Sto} (h:RowsB S ids num rows) (E:Ext S S') (hi:∀i∈ids,i<S.nx):RowsB S' ids num rows:=⟨h.1,fun k i e=>by
 obtain ⟨ks,h1,h2⟩:=h.2 k i e
 exact ⟨ks,(E.get i (hi i (List.mem_of_getElem? e))).trans h1,h2⟩⟩
theorem fq {ks:List (Key×D)} {z:Str} {v:D} (h:fS ks (.inr z)=some v):∀s:SD,ixK s (some (.dct ks)) (some (.str z))= .ok (.d v) s:=fun s=>bj h
theorem dix_n {ks:List (Key×D)} {i:Int} {v:D} (h:fS ks (.inl i)=some v):∀s:SD,ixK s (some (.dct ks)) (some (.int i))= .ok (.d v) s:=fun s=>bj h
def spJ (rows:List Ro) (v:Nat→Int) (j p:Nat):Int:=Rs.sm j fun k=>v k*(Rs.dl p (Rs.he (roA rows) k) - Rs.dl p (Rs.ta (roA rows) k))
theorem spJ_all {v:Nat→Int}:spJ rows v rows.length=fun p=>0 - Rs.dv (roA rows) v (Rs.dl p):=by
 funext p
 unfold spJ Rs.dv
 rw [Rs.bw,←Rs.ky rows.length,←Rs.pA]
 refine Rs.aS fun k _=>?_
 have h:v k*(Rs.dl p (Rs.he (roA rows) k) - Rs.dl p (Rs.ta (roA rows) k))+v k*(Rs.dl p (Rs.ta (roA rows) k) - Rs.dl p (Rs.he (roA rows) k))=v k*0:=by
  rw [←Int.mul_add]
  congr 1
  omega
 rw [Int.mul_zero] at h
 omega
end
def uN (names:List Str) (r:Ro):TD:=⟨names.getD r.t (Str.ofString ""),names.getD r.h (Str.ofString ""),r.l,r.u,0⟩
def aL (names:List Str) (rows:List Ro) (j:Nat):ND:=⟨names,(List.range j).map fun k=>(((k+1:Nat):Int),uN names (rows.getD k ro0)),(j:Int)⟩
structure RoIn (r:Ro) (m:Nat):Prop extends RoOk r m where
 l0:0≤r.l
 l1:r.l≤M60
 u1:∀x,r.u=some x→x≤M60
section
variable {b:Vl} {s:SD} {S S5:Sto} {sl:List (Option Vl)} {x:D} {n h p q l d:Nat} {N:ND} {rows:List Ro} {ids:List Nat} {is:List Int} {f:Int→Int} {num:Nat→Int} {names:List Str}
def numL (n:Nat):List Int:=(List.range n).map fun k=>((k+1:Nat):Int)
theorem numL_len (n:Nat):(numL n).length=n:=by unfold numL; rw [List.length_map,List.length_range]
theorem Aq (n:Nat):numL (n+1)=numL n++ [((n+1:Nat):Int)]:=by unfold numL; rw [List.range_succ,List.map_append]; rfl
theorem wY {n k:Nat} (hk:k<n):((k+1:Nat):Int)∈numL n:=List.mem_map.mpr ⟨k,List.mem_range.mpr hk,rfl⟩
theorem C5 {n k:Nat} (hk:k<n):(numL n).getD k 0=((k+1:Nat):Int):=by
 unfold numL
 rw [List.getD_eq_getElem?_getD,List.getElem?_map,List.getElem?_range hk]
 rfl
theorem Ar (n:Nat):(numL n).Nodup:=List.Pairwise.map _ (R:=fun i j:Nat=>i≠j) (fun i j h e=>h (by omega)) List.nodup_range
theorem tL (j:Nat):nums (aL names rows j)=numL j:=by
 unfold nums aL numL
 rw [List.map_map]
 rfl
theorem AB (j:Nat):(aL names rows j).ties.length=j:=by unfold aL; rw [List.length_map,List.length_range]
theorem rh {names:List Str} {k:Nat} (hk:k<names.length):names.getD k (Str.ofString "")∈names:=by
 rw [List.getD_eq_getElem?_getD,List.getElem?_eq_getElem hk]
 exact List.getElem_mem hk
theorem fP {names:List Str} (nd:names.Nodup) {k:Nat} (hk:k<names.length):names.idxOf (names.getD k (Str.ofString ""))=k:=by
 rw [List.getD_eq_getElem?_getD,List.getElem?_eq_getElem hk]
 exact List.Nodup.idxOf_getElem nd k hk
theorem kR {names:List Str} (nd:names.Nodup) {i j:Nat} (hi:i<names.length) (hj:j<names.length) (h:i≠j):names.getD i (Str.ofString "")≠names.getD j (Str.ofString ""):=fun e=>h (by rw [←fP nd hi,←fP nd hj,e])
theorem CD {ro:Ro} {i:Int} (nd:names.Nodup) (ok:RoOk ro names.length):oL names (i,uN names ro)=ro:=by
 unfold oL uN
 rw [fP nd ok.t,fP nd ok.h]
theorem mV (nd:names.Nodup) (hr:∀ro∈rows,RoOk ro names.length):ah (aL names rows rows.length) []=rows:=by
 unfold ah aL
 rw [List.map_nil,List.append_nil,List.map_map]
 refine List.ext_getElem (by simp) fun i h1 h2=>?_
 simp only [List.getElem_map,List.getElem_range]
 have e:rows.getD i ro0=rows[i]:=by rw [List.getD_eq_getElem?_getD,List.getElem?_eq_getElem h2]; rfl
 show oL names (_,uN names (rows.getD i ro0))=_
 rw [e]
 exact CD nd (hr _ (List.getElem_mem h2))
theorem td_ok {ro:Ro} (nd:names.Nodup) (ok:RoIn ro names.length):TieOk (uN names ro)∧(uN names ro).tail∈names∧(uN names ro).head∈names∧(uN names ro).tail≠(uN names ro).head:=by
 refine ⟨⟨ok.l0,ok.l1, ?_,by show -M60≤(0:Int); decide,by show (0:Int)≤M60; decide⟩,rh ok.t,rh ok.h,kR nd ok.t ok.h ok.n⟩
 show rmOk ro.l (ef ro.u)=true
 cases cu:ro.u with
 | none=>rfl
 | some x=>
  have h1:=ok.b x cu
  have h2:=ok.u1 x cu
  simp only [ef,rmOk,Bool.and_eq_true,decide_eq_true_eq]
  exact ⟨h1,h2⟩
theorem tK {j:Nat} (hG:Good (aL names rows j)):(aL names rows (j+1))=⟨names,km (aL names rows j).ties ((aL names rows j).given+1) (uN names (rows.getD j ro0)),(aL names rows j).given+1⟩:=by
 rw [(wN (g:=(aL names rows j).given) hG.rise fun q hq=>(hG.ts q hq).1).1]
 unfold aL
 rw [List.range_succ,List.map_append]
 rfl
theorem nq (nd:names.Nodup) (nm:∀z∈names,ux z) (nl:names.length≤14) (hr:∀ro∈rows,RoIn ro names.length) (hz:rows.length≤40):∀j,j≤rows.length→Good (aL names rows j)
 | 0,_=>⟨nd,nm,nl,List.Pairwise.nil,Nat.zero_le _,fun q hq=>(by cases hq),fun q hq=>(by cases hq),fun q hq=>(by cases hq),Int.le_refl _,fun q hq=>(by cases hq)⟩
 | j+1,hj=>by
  have hG:=nq nd nm nl hr hz j (by omega)
  rw [tK hG]
  obtain ⟨h1,h2,h3,h4⟩:=td_ok nd (hr _ (Rs.eZ (show j<rows.length by omega)))
  exact hG.put h1 h2 h3 h4 (by unfold aL; rw [List.length_map,List.length_range]; omega)
structure RowC (ks:List (Key×D)) (i:Int) (ro:Ro):Prop extends RowB ks i ro where
 p:fS ks (.inr "price")=some (.int 0)
theorem HandL.ext {S' :Sto} {l:List D} (h:HandL S x l) (E:Ext S S') (hx:∀c,x= .cell c→c<S.nx):HandL S' x l:=by
 rcases h with rfl | ⟨c,rfl,e⟩
 ·exact .inl rfl
 ·exact .inr ⟨c,rfl,(E.get c (hx c rfl)).trans e⟩
theorem HandL.it2 {l:List D} (h:HandL S x l):∃ok:SD→Prop,(∀sl,B6 (.d x) ⟨sl,S⟩= .ok ⟨[.d x],ok,l⟩ ⟨sl,S⟩)∧∀sl S',HandL S' x l→ok ⟨sl,S'⟩:=by
 rcases h with rfl | ⟨c,rfl,e⟩
 ·exact ⟨fun _=>True,fun sl=>gx,fun _ _ _=>trivial⟩
 ·refine ⟨fun s=>s.st.get c=some (.lst l),fun sl=>qV (s:=⟨sl,S⟩) e,fun sl S' h=>?_⟩
  rcases h with h | ⟨c',h,e'⟩
  ·cases h
  ·cases h; exact e'
noncomputable def mdT:SD→R Fl:=(bP (jF (zB (z2 oEq (z2 oIx (aa 4) (zC (.str "price"))) (zC (.int 0)))) (jF (zB (z2 oEq (z2 oIx (aa 4) (zC (.str "least"))) (zC (.int 0)))) (zB (z2 (gu false) (z2 oIx (aa 4) (zC (.str "most"))) (zC .non))))) (aN (aD "Net" "put_tie" aR [.int 0, .non, .int 0] (aa 2) (zA (z2 oIx (aa 0) (z2 oIx (aa 4) (zC (.str "tail")))) (zA (z2 oIx (aa 0) (z2 oIx (aa 4) (zC (.str "head")))) zA0)))) (aN (aD "Net" "put_tie" aR [] (aa 2) (zA (z2 oIx (aa 0) (z2 oIx (aa 4) (zC (.str "tail")))) (zA (z2 oIx (aa 0) (z2 oIx (aa 4) (zC (.str "head")))) (zA (z2 oIx (aa 4) (zC (.str "least"))) (zA (z2 oIx (aa 4) (zC (.str "most"))) (zA (z2 oIx (aa 4) (zC (.str "price"))) zA0))))))))
abbrev mdS (names:List Str) (x:D) (n:Nat) (v3 v4:Option Vl) (S:Sto):SD:=⟨[some (.d (.lst (names.map .str))),some (.d x),some (.d (.cell n)),v3,v4],S⟩
theorem md_turn {G:SD→R Fl} (hG:G=mdT) {i:Nat} {ks:List (Key×D)} {j:Int} {ro:Ro} {v3:Option Vl} (h:NetAt S n l d N) (hn:n<S.nx) (hl:l<S.nx) (hd:d<S.nx) (hi:S.get i=some (.dct ks)) (B:RowC ks j ro) (eN:N.names=names) (nd:names.Nodup) (ok:RoIn ro names.length) (h4:N.ties.length<40):
  G (mdS names x n v3 (some (.d (.cell i))) S)= .ok .nx (mdS names x n v3 (some (.d (.cell i))) ((S.tick.put d (.dct (cO bB (km N.ties (N.given+1) (uN names ro))))).put n (.obj "Net" (lF l d (N.given+1))))):=by
 obtain ⟨t1,t2,t3,t4⟩:=td_ok nd ok
 have e1:=fun sl=>A4 (sl:=sl) h hn hd hl (t:=uN names ro) (by rw [eN]; exact t2) (by rw [eN]; exact t3) t4 t1 h4
 have q1:=h.n
 have b1:=fq B.t
 have b2:=fq B.h
 have b3:=fq B.l
 have b4:=fq B.u
 have b5:=fq B.p
 have i1:∀s:SD,ixK s (some (.lst (names.map D.str))) (some (.int (ro.t:Int)))= .ok (.d (.str (names.getD ro.t (Str.ofString "")))) s:=fun s=>ixL (f:=D.str) (by rw [List.getD_eq_getElem?_getD,List.getElem?_eq_getElem ok.t]; rfl)
 have i2:∀s:SD,ixK s (some (.lst (names.map D.str))) (some (.int (ro.h:Int)))= .ok (.d (.str (names.getD ro.h (Str.ofString "")))) s:=fun s=>ixL (f:=D.str) (by rw [List.getD_eq_getElem?_getD,List.getElem?_eq_getElem ok.h]; rfl)
 have mP:dI (lF l d N.given) "put_tie" =none:=rfl
 subst hG
 unfold mdT
 have e5:∀sl,goF aR [.cell n, .str (names.getD ro.t (Str.ofString "")), .str (names.getD ro.h (Str.ofString "")), .int ro.l,rD ro.u, .int 0] ⟨sl,S⟩= .ok (.d (.int (N.given+1))) ⟨sl,(S.tick.put d (.dct (cO bB (km N.ties (N.given+1) (uN names ro))))).put n (.obj "Net" (lF l d (N.given+1)))⟩:=fun sl=>by
  have:=e1 sl
  rw [Dg] at this
  exact this
 have z0:decide ((0:Int)=0)=true:=decide_eq_true rfl
 by_cases c1:ro.l=0
 ·cases cu:ro.u with
  | none=>
   rw [cu] at b4 e5
   rw [c1] at b3 e5
   have e5:∀sl,goF aR [.cell n, .str (names.getD ro.t (Str.ofString "")), .str (names.getD ro.h (Str.ofString "")), .int 0, .non, .int 0] ⟨sl,S⟩=_:=e5
   dsimp! only [hi,q1,b1,b2,b3,b4,b5,z0,oU,Option.isNone_none,i1,i2,ak mP,e5]
  | some z=>
   rw [cu] at b4 e5
   rw [c1] at b3 e5
   dsimp! only [hi,q1,b1,b2,b3,b4,b5,z0,oU,Option.isNone_some,i1,i2,ak mP,e5]
 ·have z1:decide (ro.l=0)=false:=decide_eq_false c1
  dsimp! only [hi,q1,b1,b2,b3,b4,b5,z0,z1,i1,i2,ak mP,e5]
noncomputable def mdN:SD→R Fl:=(aN (aD "Net" "put_place" cq [] (aa 2) (zA (aa 3) zA0)))
theorem md_name {G:SD→R Fl} (hG:G=mdN) {w:Str} {v4:Option Vl} (h:NetAt S n l d N) (hw:ux w) (hn:w∉N.names) (hl:N.names.length<14):
  G (mdS names x n (some (.d (.str w))) v4 S)= .ok .nx (mdS names x n (some (.d (.str w))) v4 (S.put l (.lst ((N.names++ [w]).map .str)))):=by
 have e1:=fun sl=>vL (sl:=sl) h (al_name hw.1 hw.2.1 hw.2.2.1) (Nat.le_trans hw.2.2.1 (by decide)) hn hl
 have q1:=h.n
 have mP:dI (lF l d N.given) "put_place" =none:=rfl
 subst hG
 unfold mdN
 dsimp! only [q1,ak mP,e1]
theorem g_Lmade (HL:HandL S x (ids.map .cell)) (HR:ids.length=rows.length∧∀k i,ids[k]? =some i→i<S.nx∧∃ks,S.get i=some (.dct ks)∧RowC ks (num k) (rows.getD k ro0)) (hx:∀c,x= .cell c→c<S.nx) (nd:names.Nodup) (nm:∀z∈names,ux z) (nl:names.length≤14) (hr:∀ro∈rows,RoIn ro names.length) (hz:rows.length≤40):
  ∃S',NetAt S' S.nx (S.nx+1) (S.nx+2) (aL names rows rows.length)∧Ext S S'∧S.nx+3≤S'.nx∧∀sl,goF gH [.lst (names.map .str),x] ⟨sl,S⟩= .ok (.d (.cell S.nx)) ⟨sl,S'⟩:=by
 have e7:=fun sl=>xb (sl:=sl) (S:=S) (i:=S.nx) (F:=dH) fun s=>yd (sl:=s.sl) (S:=S)
 have x0:(C7 S).nx=S.nx+3:=rfl
 have E0:Ext S (C7 S):=⟨by rw [x0]; omega,fun i hi=>by
  unfold C7
  simp only [show i≠S.nx by omega,show i≠S.nx+1 by omega,show i≠S.nx+2 by omega,if_false]⟩
 have N0:NetAt (C7 S) S.nx (S.nx+1) (S.nx+2) ⟨names.take 0,[],0⟩:=by
  rw [List.take_zero]
  unfold C7
  exact ⟨by simp,by simp,by simp [cO]⟩
 obtain ⟨gN,hN⟩:∃G,G=mdN:=⟨_,rfl⟩
 obtain ⟨gT,hT⟩:∃G,G=mdT:=⟨_,rfl⟩
 have e0:oA=(aj (ax (lL "Net" dH [] zA0) (zSt 2))
 (aj (eJ (gp (aZ (aa 0))) (zSt 3) gN)
 (aj (eJ (gp (aZ (aa 1))) (zSt 4) gT)
 (bo (aa 2))))):=by rw [hN,hT]; rfl
 obtain ⟨g2,h2⟩:∃G,G=(aj (eJ (gp (aZ (aa 1))) (zSt 4) gT)
 (bo (aa 2))):=⟨_,rfl⟩
 have e0:oA=(aj (ax (lL "Net" dH [] zA0) (zSt 2))
 (aj (eJ (gp (aZ (aa 0))) (zSt 3) gN)
 g2)):=by rw [e0,h2]
 have main2:∀v3 S1,NetAt S1 S.nx (S.nx+1) (S.nx+2) ⟨names,[],0⟩→Ext S S1→S1.nx=S.nx+3→Wp (g2 (mdS names x S.nx v3 none S1)) (fun fl s' =>flv fl=some (.d (.cell S.nx))∧NetAt s'.st S.nx (S.nx+1) (S.nx+2) (aL names rows rows.length)∧Ext S s'.st∧S.nx+3≤s'.st.nx) XF:=by
  intro v3 S1 N1 E1 n1
  have tT:=fun {S5 i ks j ro N} h hn hl hd hi B eN ok h4=>md_turn hT (names:=names) (x:=x) (n:=S.nx) (l:=S.nx+1) (d:=S.nx+2) (S:=S5) (i:=i) (ks:=ks) (j:=j) (ro:=ro) (v3:=v3) (N:=N) h hn hl hd hi B eN nd ok h4
  have HL1:=HL.ext E1 hx
  obtain ⟨ok,ei,hok⟩:=HL1.it2
  subst h2
  clear hT hN e0
  simp! only [ei]
  rw [ae]
  refine iM (fun j s' =>j≤rows.length∧∃v4 S5,s' =mdS names x S.nx v3 v4 S5∧NetAt S5 S.nx (S.nx+1) (S.nx+2) (aL names rows j)∧Ext S S5∧S.nx+3≤S5.nx) Nl.d1 (fun _ s ⟨_,_,S5,e,_,E5,_⟩=>by rw [e]; exact hok _ _ (HL.ext E5 hx)) ⟨Nat.zero_le _,none,S1,rfl,N1,E1,by omega⟩ (fun j z s' ez hI=>?_) (fun s' hI=>?_)
  ·obtain ⟨_,u4,S5,rfl,N5,E5,n5⟩:=hI
   have ez:(ids.map D.cell)[j]? =some z:=ez
   rw [List.getElem?_map] at ez
   cases eh:ids[j]? with
   | none=>rw [eh] at ez; cases ez
   | some i=>
    rw [eh] at ez
    cases ez
    have hj:j<rows.length:=by rw [←HR.1]; exact (List.getElem?_eq_some_iff.mp eh).1
    obtain ⟨hi,ks,g1,g2⟩:=HR.2 j i eh
    have hG:=nq nd nm nl hr hz j (by omega)
    have e1:=tT N5 (by omega) (by omega) (by omega) ((E5.get i hi).trans g1) g2 rfl (hr _ (Rs.eZ hj)) (by unfold aL; rw [List.length_map,List.length_range]; omega)
    simp! only [e1]
    refine ⟨by omega,_,_,rfl, ?_,⟨Nat.le_trans E5.nx (Nat.le_succ _),fun q hq=>?_⟩,Nat.le_trans n5 (Nat.le_succ _)⟩
    ·rw [tK hG]
     refine ⟨Z.Sto.put_same, ?_, ?_⟩
     ·rw [Z.Sto.put_ne (by omega),Z.Sto.put_ne (by omega),gJ (by omega)]; exact N5.l
     ·rw [Z.Sto.put_ne (by omega),Z.Sto.put_same]
    ·rw [Z.Sto.put_ne (by omega),Z.Sto.put_ne (by omega),gJ (by omega)]; exact E5.get q hq
  ·have el:(ids.map D.cell).length=rows.length:=by rw [List.length_map,HR.1]
   have hI:(ids.map D.cell).length≤rows.length∧∃v4 S5,s' =mdS names x S.nx v3 v4 S5∧NetAt S5 S.nx (S.nx+1) (S.nx+2) (aL names rows (ids.map D.cell).length)∧Ext S S5∧S.nx+3≤S5.nx:=hI
   rw [el] at hI
   obtain ⟨_,u4,S5,rfl,N5,E5,n5⟩:=hI
   simp! only []
   exact ⟨N5,E5,n5⟩
 clear hT h2
 suffices hh:Wp (oA ⟨[some (.d (.lst (names.map .str))),some (.d x),none,none,none],S⟩) (fun fl s' =>flv fl=some (.d (.cell S.nx))∧NetAt s'.st S.nx (S.nx+1) (S.nx+2) (aL names rows rows.length)∧Ext S s'.st∧S.nx+3≤s'.st.nx) XF by
  obtain ⟨fl,s',e,h1,h2,h3,h4⟩:=hh.is
  exact ⟨s'.st,h2,h3,h4,fun sl=>dY (by show Wp (oA ⟨[some (.d (.lst (names.map .str))),some (.d x),none,none,none],S⟩) _ _; rw [e]; exact ⟨h1,rfl⟩)⟩
 have tN:=fun {S5 w v4 N} h hw hn hl=>md_name hN (names:=names) (x:=x) (n:=S.nx) (l:=S.nx+1) (d:=S.nx+2) (S:=S5) (w:=w) (v4:=v4) (N:=N) h hw hn hl
 rw [e0]
 clear e0 hN
 simp! only [e7]
 rw [ae]
 refine iM (fun j s' =>j≤names.length∧∃v3 S5,s' =mdS names x S.nx v3 none S5∧NetAt S5 S.nx (S.nx+1) (S.nx+2) ⟨names.take j,[],0⟩∧Ext S S5∧S5.nx=S.nx+3) Nl.d1 (fun _ _ _=>trivial) ⟨Nat.zero_le _,none,C7 S,rfl,N0,E0,rfl⟩ (fun j z s' ez hI=>?_) (fun s' hI=>?_)
 ·obtain ⟨_,u3,S5,rfl,N5,E5,n5⟩:=hI
  have ez:(names.map D.str)[j]? =some z:=ez
  rw [List.getElem?_map] at ez
  cases eh:names[j]? with
  | none=>rw [eh] at ez; cases ez
  | some w=>
   rw [eh] at ez
   cases ez
   have hj:=(List.getElem?_eq_some_iff.mp eh).1
   have ni:w∉names.take j:=fun hm=>by
    have nd2:=nd
    rw [←List.take_append_drop j names,List.nodup_append] at nd2
    obtain ⟨_,_,nd2⟩:=nd2
    exact nd2 _ hm _ (List.mem_of_getElem? (i:=0) (by rw [List.getElem?_drop]; exact eh)) rfl
   have e1:=tN (v4:=none) N5 (nm w (List.mem_of_getElem? eh)) ni (by show (names.take j).length<14; rw [List.length_take]; omega)
   have et:names.take j++ [w]=names.take (j+1):=by rw [List.take_add_one,eh]; rfl
   have e1:gN (mdS names x S.nx (some (.d (.str w))) none S5)= .ok .nx (mdS names x S.nx (some (.d (.str w))) none (S5.put (S.nx+1) (.lst ((names.take j++ [w]).map .str)))):=e1
   rw [et] at e1
   simp! only [e1]
   refine ⟨by omega,_,_,rfl,⟨?_,Z.Sto.put_same, ?_⟩,E5.put (by omega),n5⟩
   ·rw [Z.Sto.put_ne (by omega)]; exact N5.n
   ·rw [Z.Sto.put_ne (by omega)]; exact N5.d
 ·have hI:(names.map D.str).length≤names.length∧∃v3 S5,s' =mdS names x S.nx v3 none S5∧NetAt S5 S.nx (S.nx+1) (S.nx+2) ⟨names.take (names.map D.str).length,[],0⟩∧Ext S S5∧S5.nx=S.nx+3:=hI
  rw [List.length_map,List.take_length] at hI
  obtain ⟨_,u3,S5,rfl,N5,E5,n5⟩:=hI
  simp! only []
  exact main2 u3 S5 N5 E5 n5
end
end T

set_option maxHeartbeats 4000000
namespace T
open PySem PySem.Spec PyProof.Rows L2 M Z A
open Classical
open TL (tl)
section
variable {N:ND}
theorem CG {z:Str} (h:∀c∈tl z,c<1114112):PyData.strOk z=true:=by
 unfold PyData.strOk
 rw [Array.all_eq_true]
 intro i hi
 exact decide_eq_true (h _ (Array.mem_toList_iff.mpr (Array.getElem_mem hi)))
theorem tH {c:Nat} (y:List Nat):∀ls:List (List Nat),c∈TL.joinL y ls→c∈y∨∃l∈ls,c∈l
 | [],h=>by cases h
 | [a],h=> .inr ⟨a,List.mem_cons_self,h⟩
 | a::b::r,h=>by
  have h:c∈a++(y++TL.joinL y (b::r)):=h
  rcases List.mem_append.mp h with h | h
  ·exact .inr ⟨a,List.mem_cons_self,h⟩
  ·rcases List.mem_append.mp h with h | h
   ·exact .inl h
   ·rcases tH y (b::r) h with h | ⟨l,hl,h⟩
    ·exact .inl h
    ·exact .inr ⟨l,List.mem_cons_of_mem _ hl,h⟩
theorem lo_al {z:Str} (h:Al z):∀c∈tl z,c<1114112:=fun c hc=>by
 have hl:∀c∈tl "abcdefghijklmnopqrstuvwxyz",c<1114112:=by decide+kernel
 exact hl c (h c hc)
theorem AH (i:Int):∀c∈tl (nt i),c<1114112:=fun c hc=>by
 rw [tl_nt] at hc
 have:=Au i c hc
 omega
theorem lo_netL (hW:WrN N):∀z∈C9 N,∀c∈tl z,c<1114112:=fun z hz c hc=>by
 unfold C9 at hz
 rcases List.mem_append.mp hz with hz | hz
 ·rcases List.mem_append.mp hz with hz | hz
  ·obtain ⟨w,hw,rfl⟩:=List.mem_map.mp hz
   unfold plL at hc
   rw [lA] at hc
   rcases List.mem_append.mp hc with hc | hc
   ·exact (show∀c∈tl "place ",c<1114112 by decide+kernel) c hc
   ·exact lo_al (hW.nm w hw).1 c hc
  ·obtain ⟨q,hq,rfl⟩:=List.mem_map.mp hz
   unfold yX at hc
   rw [TL.join_eq,TL.tl_join] at hc
   have wr:=hW.ts q hq
   rcases tH _ _ hc with hc | ⟨l,hl,hc⟩
   ·exact (show∀c∈tl " ",c<1114112 by decide+kernel) c hc
   ·obtain ⟨w,hw,rfl⟩:=List.mem_map.mp hl
    unfold wG at hw
    simp only [List.mem_cons,List.not_mem_nil,or_false] at hw
    rcases hw with rfl | rfl | rfl | rfl | rfl | rfl | rfl
    ·exact (show∀c∈tl "tie",c<1114112 by decide+kernel) c hc
    ·exact AH _ c hc
    ·exact lo_al wr.t.1 c hc
    ·exact lo_al wr.h.1 c hc
    ·exact AH _ c hc
    ·generalize q.2.most=mo at hc
     cases mo with
     | none=>exact (show∀c∈tl "any",c<1114112 by decide+kernel) c hc
     | some i=>exact AH i c hc
    ·exact AH _ c hc
 ·rw [List.mem_singleton.mp hz] at hc
  unfold gvL at hc
  rw [lA] at hc
  rcases List.mem_append.mp hc with hc | hc
  ·exact (show∀c∈tl "given ",c<1114112 by decide+kernel) c hc
  ·exact AH _ c hc
theorem eq_netL (hW:WrN N):dEq (.lst ((C9 N).map .str)) (.lst ((C9 N).map .str))=some true:=by
 refine eq_lst (fun d hd=>?_) fun d hd=>?_
 ·obtain ⟨z,hz,rfl⟩:=List.mem_map.mp hd
  rw [lay]
  exact CG (lo_netL hW z hz)
 ·obtain ⟨z,_,rfl⟩:=List.mem_map.mp hd
  simp [dep]
end
end T

set_option maxHeartbeats 4000000
namespace T
open PySem PySem.Spec PyProof.Rows L2 M Z A
open Classical
open Rs (As tw hd tl rm iT Ro roA roR lo up wan ro0 RoOk foR)
section
variable {a b:Vl} {s:SD} {S S5:Sto} {sl:List (Option Vl)} {x y:D} {n h m r q l d:Nat} {as:As} {rs rs' :List (Option Int)} {N:ND} {f:Int→Int} {is:List Int}
def flK (N:ND) (f:Int→Int) (k:Nat):Int:=f ((nums N).getD k 0)
theorem nV {k:Nat} {q:Int×TD} (e:N.ties[k]? =some q):flK N f k=f q.1:=by
 unfold flK nums
 rw [List.getD_eq_getElem?_getD,List.getElem?_map,e]
 rfl
theorem vi {k:Nat} {q:Int×TD} (e:N.ties[k]? =some q):(ah N [])[k]? =some (oL N.names q):=by
 unfold ah
 rw [List.map_nil,List.append_nil,List.getElem?_map,e]
 rfl
theorem bC:(ah N []).length=N.ties.length:=by rw [xP]; rfl
theorem vK {q:Int×TD} {v:Int}:goF fB [bB q, .int v] s= .ok (.d (rD (q.2.most.map (· - v)))) s:=by
 have c1:∀s:SD,s.cont (.d (bB q))=some (.obj "Tie" (wH q.1 q.2)):=fun _=>rfl
 refine oV ?_
 show Wp (jv ⟨[some (.d (bB q)),some (.d (.int v))],s.st⟩) _ _
 unfold jv
 obtain ⟨i,t,hh,lw,mo,pr⟩:=q
 cases mo with
 | none=>dsimp! only [c1,ef,pW]; rfl
 | some u=>dsimp! only [c1,ef,gz]; rfl
noncomputable def roT:SD→R Fl:=(aj (ax (z2 oIx (aa 1) (z1 (bg ["Tie"] "number") (aa 4))) (zSt 5))
 (aN (aD "Rest" "put_arc" bQ [] (aa 3) (zA (zM2 isL bT (aa 2) (z1 (bg ["Tie"] "tail") (aa 4))) (zA (zM2 isL bT (aa 2) (z1 (bg ["Tie"] "head") (aa 4))) (zA (ar fB [] (zA (aa 4) (zA (aa 5) zA0))) (zA (z2 tE (aa 5) (z1 (bg ["Tie"] "least") (aa 4))) zA0)))))))
abbrev roS (n:Nat) (x:D) (names:List Str) (r:Nat) (v4 v5:Option Vl) (S:Sto):SD:=⟨[some (.d (.cell n)),some (.d x),some (.own (.lst (names.map .str))),some (.d (.cell r)),v4,v5],S⟩
theorem ro_turn {G:SD→R Fl} (hG:G=roT) {q:Int×TD} {v5:Option Vl} (R:RestAt S r N.names.length as rs) (h1:q.2.tail∈N.names) (h2:q.2.head∈N.names) (h3:q.2.tail≠q.2.head) (hx:Hand S x (ao f is)) (hi:q.1∈is) (hz:2*as.length+2<sizeLine):
  ∃S',G (roS n x N.names r (some (.d (bB q))) v5 S)= .ok .nx (roS n x N.names r (some (.d (bB q))) (some (.d (.int (f q.1)))) S')∧RestAt S' r N.names.length (as++ [((oL N.names q).t,(oL N.names q).h)]) (rs++ [q.2.most.map (· - f q.1),some (f q.1 - q.2.least)])∧S'.nx=S.nx∧∀j,(j<r∨r+4+N.names.length≤j)→S'.get j=S.get j:=by
 obtain ⟨S',e1,R',n',f'⟩:=A5 (u:=q.2.most.map (· - f q.1)) (b:=some (f q.1 - q.2.least)) R (cF h1) (cF h2) (jP h1 h2 h3) hz
 refine ⟨S', ?_,R',n',f'⟩
 have e1:∀sl,goF bQ [.cell r, .int (N.names.idxOf q.2.tail:Int), .int (N.names.idxOf q.2.head:Int),rD (q.2.most.map (· - f q.1)), .int (f q.1 - q.2.least)] ⟨sl,S⟩= .ok (.d (.int (as.length:Int))) ⟨sl,S'⟩:=e1
 have c1:∀s:SD,s.cont (.d (bB q))=some (.obj "Tie" (wH q.1 q.2)):=fun _=>rfl
 have i1:=hJ h1
 have i2:=hJ h2
 have cx:=fun sl=>hx.cont (sl:=sl)
 have i3:=dix_n (kT (f:=f) hi)
 have o1:=R.o
 have mRp:dI (fj r N.names.length) "put_arc" =none:=rfl
 have rl:=fun s:SD=>vK (s:=s) (q:=q) (v:=f q.1)
 subst hG
 unfold roT
 dsimp! only [c1,gA,i1,i2,cx,i3,o1,rl,ak mRp,e1]
theorem tY (h:NetAt S n l d N) (hG:Good N) (hx:Hand S x (ao f is)) (hxl:∀j,x= .cell j→j<S.nx) (hi:∀q∈N.ties,q.1∈is) (hn:n<S.nx) (hnl:l<S.nx) (hnd:d<S.nx):
  ∃S',RestAt S' S.nx N.names.length (roA (ah N [])) (foR (ah N []) (flK N f) (ah N []).length)∧Ext S S'∧S'.nx=S.nx+4+N.names.length∧∀sl,goF jH [.cell n,x] ⟨sl,S⟩= .ok (.d (.cell S.nx)) ⟨sl,S'⟩:=by
 have q1:=h.n
 have nl:=hG.nl
 have tl:=hG.tl
 have hs:(5000:Nat)<sizeLine:=by decide
 have k1:=fun sl=>jQ (sl:=sl) h
 have ln:(((N.names.map D.str).length:Nat):Int)=(N.names.length:Int):=by rw [List.length_map]
 obtain ⟨S1,ei,R1,G1,n1⟩:=zH (S0:=S) (m:=N.names.length) (by omega)
 have e3:=fun sl=>xb (sl:=sl) (S:=S) (i:=S.nx) (F:=dN) fun s=>ei s.sl
 suffices hh:Wp (ke ⟨[some (.d (.cell n)),some (.d x),none,none,none,none],S⟩) (fun fl s' =>flv fl=some (.d (.cell S.nx))∧RestAt s'.st S.nx N.names.length (roA (ah N [])) (foR (ah N []) (flK N f) (ah N []).length)∧Ext S s'.st∧s'.st.nx=S.nx+4+N.names.length) XF by
  obtain ⟨fl,s',e,h1,h2,h3,h4⟩:=hh.is
  exact ⟨s'.st,h2,h3,h4,fun sl=>dY (by show Wp (ke ⟨[some (.d (.cell n)),some (.d x),none,none,none,none],S⟩) _ _; rw [e]; exact ⟨h1,rfl⟩)⟩
 obtain ⟨gT,hT⟩:∃g,g=roT:=⟨_,rfl⟩
 have tn:=fun {q v5 S as rs} R h1 h2 h3 hx hi hz=>ro_turn hT (n:=n) (x:=x) (N:=N) (r:=S1.nx - 4 - N.names.length) (f:=f) (is:=is) (q:=q) (v5:=v5) (S:=S) (as:=as) (rs:=rs) R h1 h2 h3 hx hi hz
 rw [show S1.nx - 4 - N.names.length=S.nx by omega] at tn
 have e0:ke=(aj (ax (aD "Net" "places" bh [] (aa 0) zA0) (zSt 2))
 (aj (ax (lL "Rest" dN [] (zA (z1 jn (aa 2)) zA0)) (zSt 3))
 (aj (eJ (gp (aZ (aD "Net" "ties" bb [] (aa 0) zA0))) (zSt 4) gT)
 (bo (aa 3))))):=by rw [hT]; rfl
 rw [e0]
 clear e0 hT
 have E1:Ext S S1:=⟨G1.nx,G1.old⟩
 have N1:=h.ext E1 hn hnl hnd
 have q2:=N1.n
 have k2:=fun sl=>iU (sl:=sl) N1 hG.rise hG.tl
 dsimp! only [q1,k1,ln,e3,q2,k2]
 rw [ae]
 refine iM (fun j s' =>∃v4 v5 S5,s' =roS n x N.names S.nx v4 v5 S5∧RestAt S5 S.nx N.names.length (roA ((ah N []).take j)) (foR (ah N []) (flK N f) j)∧S5.nx=S1.nx∧∀i,i<S.nx→S5.get i=S.get i) Nl.d1 (fun _ _ _=>trivial) ⟨none,none,S1,rfl,R1,rfl,G1.old⟩ (fun j y s' ey hI=>?_) (fun s' hI=>?_)
 ·obtain ⟨u4,u5,S5,rfl,R5,n5,f5⟩:=hI
  have ey:(N.ties.map bB)[j]? =some y:=ey
  rw [List.getElem?_map] at ey
  cases eq:N.ties[j]? with
  | none=>rw [eq] at ey; cases ey
  | some q=>
   rw [eq] at ey
   cases ey
   have hj:=(List.getElem?_eq_some_iff.mp eq).1
   have hq:=List.mem_of_getElem? eq
   obtain ⟨p1,p2,p3⟩:=hG.pl q hq
   have er:=vi eq
   have lt:(roA ((ah N []).take j)).length=j:=by rw [Rs.bw,List.length_take,bC]; omega
   obtain ⟨S6,e6,R6,n6,f6⟩:=tn (v5:=u5) R5 p1 p2 p3 (hx.ext fun i e=>f5 i (hxl i e)) (hi q hq) (by rw [lt]; omega)
   have et:roA ((ah N []).take (j+1))=roA ((ah N []).take j)++ [((oL N.names q).t,(oL N.names q).h)]:=by rw [List.take_add_one,er]; unfold roA; rw [List.map_append]; rfl
   have eu:foR (ah N []) (flK N f) (j+1)=foR (ah N []) (flK N f) j++ [q.2.most.map (· - f q.1),some (f q.1 - q.2.least)]:=by
    rw [Rs.rA,nV eq]
    unfold Rs.up Rs.lo
    rw [List.getD_eq_getElem?_getD,er]
    rfl
   dsimp! only [e6]
   exact ⟨_,_,S6,rfl,by rw [et,eu]; exact R6,n6.trans n5,fun i hi2=>(f6 i (.inl hi2)).trans (f5 i hi2)⟩
 ·have hI:∃v4 v5 S5,s' =roS n x N.names S.nx v4 v5 S5∧RestAt S5 S.nx N.names.length (roA ((ah N []).take (N.ties.map bB).length)) (foR (ah N []) (flK N f) (N.ties.map bB).length)∧S5.nx=S1.nx∧∀i,i<S.nx→S5.get i=S.get i:=hI
  rw [List.length_map,←bC,List.take_length] at hI
  obtain ⟨u4,u5,S5,rfl,R5,n5,f5⟩:=hI
  dsimp! only []
  exact ⟨R5,⟨by have:=E1.nx; omega,f5⟩,by omega⟩
noncomputable def foT:SD→R Fl:=(eV (aa 2) (z1 (bg ["Tie"] "number") (aa 4)) (z2 cj (z1 (bg ["Tie"] "least") (aa 4)) (aD "Rest" "back_of" bR [] (aa 1) (zA (aa 3) zA0))))
abbrev foS (n r:Nat) (ks:List (Key×D)) (v3 v4:Option Vl) (S:Sto):SD:=⟨[some (.d (.cell n)),some (.d (.cell r)),some (.own (.dct ks)),v3,v4],S⟩
theorem fo_turn {G:SD→R Fl} (hG:G=foT) {q:Int×TD} {k:Nat} {v:Int} {F:Int→Int} {js:List Int} (R:RestAt S r m as rs) (hk:k<as.length) (hz:as.length≤sizeLine) (hb:rm rs (2*k+1)=some v) (hF:F q.1=q.2.least+v) (hn:q.1∉js) (hl:js.length≤1000):
  G (foS n r (ao F js) (some (.d (.int (k:Int)))) (some (.d (bB q))) S)= .ok .nx (foS n r (ao F (js++ [q.1])) (some (.d (.int (k:Int)))) (some (.d (bB q))) S):=by
 have c1:∀s:SD,s.cont (.d (bB q))=some (.obj "Tie" (wH q.1 q.2)):=fun _=>rfl
 have o1:=R.o
 have mRb:dI (fj r m) "back_of" =none:=rfl
 have e1:=fun sl=>A8 (sl:=sl) R hk hz
 rw [hb] at e1
 have e1:∀sl,goF bR [.cell r, .int (k:Int)] ⟨sl,S⟩= .ok (.d (.int v)) ⟨sl,S⟩:=e1
 have hs:(5000:Nat)<sizeLine:=by decide
 have ln:(ao F js).length<sizeLine:=by rw [cH]; omega
 have sp:=fun (a:Vl) (s:SD)=>fF (a:=a) (x:= .int (F q.1)) (s:=s) (k:= .inl q.1) (z:= .int q.1) (ks:=ao F js) rfl ln
 rw [DJ hn,hF] at sp
 subst hG
 unfold foT
 dsimp! only [c1,o1,ak mRb,e1,sp]
theorem A7 (h:NetAt S n l d N) (hG:Good N) (R:RestAt S r m as rs') (ha:as.length=N.ties.length) (hb:∀k,k<N.ties.length→rm rs' (2*k+1)≠none):
  goF jI [.cell n, .cell r] ⟨sl,S⟩= .ok (.own (.dct (ao (dF N (amt (ah N []) rs')) (nums N)))) ⟨sl,S⟩:=by
 have q1:=h.n
 have tl:=hG.tl
 have hs:(5000:Nat)<sizeLine:=by decide
 have k2:=fun sl=>iU (sl:=sl) h hG.rise hG.tl
 obtain ⟨gT,hT⟩:∃g,g=foT:=⟨_,rfl⟩
 have tn:=fun {q k v F js} hk hb hF hn hl=>fo_turn hT (n:=n) (r:=r) (S:=S) (m:=m) (as:=as) (rs:=rs') (q:=q) (k:=k) (v:=v) (F:=F) (js:=js) R hk (by omega) hb hF hn hl
 have e0:oy=(aj (ax ku (zSt 2))
 (aj (eJ (kr (aZ (aD "Net" "ties" bb [] (aa 0) zA0))) (kj [3,4]) gT)
 (bo (aa 2)))):=by rw [hT]; rfl
 refine dY ?_
 show Wp (oy ⟨[some (.d (.cell n)),some (.d (.cell r)),none,none,none],S⟩) _ _
 rw [e0]
 clear e0 hT
 dsimp! only [q1,k2]
 rw [ae]
 refine iM (fun j s' =>∃v3 v4,s' =foS n r (ao (dF N (amt (ah N []) rs')) ((nums N).take j)) v3 v4 S) Nl.d1 (fun _ _ _=>trivial) ⟨none,none,rfl⟩ (fun j x s' ex hI=>?_) (fun s' hI=>?_)
 ·obtain ⟨u3,u4,rfl⟩:=hI
  have ex:(bS (N.ties.map bB))[j]? =some x:=ex
  rw [iB,List.getElem?_map] at ex
  cases eq:N.ties[j]? with
  | none=>rw [eq] at ex; cases ex
  | some q=>
   rw [eq] at ex
   cases ex
   have hj:=(List.getElem?_eq_some_iff.mp eq).1
   have e2:(nums N)[j]? =some q.1:=by unfold nums; rw [List.getElem?_map,eq]; rfl
   have ni:q.1∉(nums N).take j:=fun hm=>by
    have nd:=Ap hG
    rw [←List.take_append_drop j (nums N),List.nodup_append] at nd
    obtain ⟨_,_,nd⟩:=nd
    exact nd _ hm _ (List.mem_of_getElem? (i:=0) (by rw [List.getElem?_drop]; exact e2)) rfl
   cases eb:rm rs' (2*j+1) with
   | none=>exact absurd eb (hb j hj)
   | some v=>
    have eF:dF N (amt (ah N []) rs') q.1=q.2.least+v:=by
     rw [xD hG eq]
     unfold amt Rs.lo
     rw [List.getD_eq_getElem?_getD,vi eq,eb]
     rfl
    have e6:=tn (by omega) eb eF ni (by rw [List.length_take,wX]; omega)
    have et:(nums N).take (j+1)=(nums N).take j++ [q.1]:=by rw [List.take_add_one,e2]; rfl
    dsimp! only [e6]
    exact ⟨_,_,by rw [et]⟩
 ·have hI:∃v3 v4,s' =foS n r (ao (dF N (amt (ah N []) rs')) ((nums N).take (bS (N.ties.map bB)).length)) v3 v4 S:=hI
  have el:(bS (N.ties.map bB)).length=(nums N).length:=by unfold bS; rw [List.length_map,List.length_zipIdx,List.length_map,wX]
  rw [el,List.take_length] at hI
  obtain ⟨u3,u4,rfl⟩:=hI
  dsimp! only []
end
section
variable {s:SD} {S:Sto} {sl:List (Option Vl)} {x y z:D} {h q l d:Nat} {N:ND} {f:Int→Int} {w:Str}
theorem tV {l:List Str} {y z:Str} (h:y∈l) (h2:z∈l):l.idxOf y=l.idxOf z↔y=z:=⟨fun e=>Classical.byContradiction fun q=>jP h h2 q e,fun e=>by rw [e]⟩
theorem zg (hG:Good N):∀(j:Nat) {w:Str},w∈N.names→j≤N.ties.length→sp f (N.ties.take j) w=spJ (ah N []) (flK N f) j (N.names.idxOf w)
 | 0,_,_,_=>by rw [List.take_zero]; rfl
 | j+1,w,hw,hj=>by
  have eq:N.ties[j]? =some N.ties[j]:=List.getElem?_eq_getElem (by omega)
  generalize N.ties[j]=q at eq
  obtain ⟨h1,h2,h3⟩:=hG.pl q (List.mem_of_getElem? eq)
  have ih:=fun {w:Str} (hw:w∈N.names)=>zg hG j (w:=w) hw (by omega)
  rw [zh eq]
  have hk:j<(ah N []).length:=by rw [bC]; omega
  have e:spJ (ah N []) (flK N f) (j+1) (N.names.idxOf w)=spJ (ah N []) (flK N f) j (N.names.idxOf w)+flK N f j*(Rs.dl (N.names.idxOf w) (Rs.he (roA (ah N [])) j) - Rs.dl (N.names.idxOf w) (Rs.ta (roA (ah N [])) j)):=rfl
  have er:(ah N []).getD j ro0=oL N.names q:=by rw [List.getD_eq_getElem?_getD,vi eq]; rfl
  rw [e,(Rs.fg hk).1,(Rs.fg hk).2,er,nV eq,←ih hw]
  unfold Rs.dl
  show (if w=q.2.head then (if q.2.head=q.2.tail then sp f (N.ties.take j) q.2.tail - f q.1 else sp f (N.ties.take j) q.2.head)+f q.1 else if w=q.2.tail then sp f (N.ties.take j) q.2.tail - f q.1 else sp f (N.ties.take j) w)=sp f (N.ties.take j) w+f q.1*((if N.names.idxOf q.2.head=N.names.idxOf w then 1 else 0) - (if N.names.idxOf q.2.tail=N.names.idxOf w then 1 else 0))
  by_cases c1:w=q.2.head
  ·subst c1
   rw [if_pos rfl,if_neg (fun e=>h3 e.symm),if_pos rfl,if_neg (fun e=>h3 ((tV h1 h2).mp e))]
   omega
  ·rw [if_neg c1,if_neg (fun e=>c1 ((tV h2 hw).mp e).symm)]
   by_cases c2:w=q.2.tail
   ·subst c2
    rw [if_pos rfl,if_pos rfl]
    omega
   ·rw [if_neg c2,if_neg (fun e=>c2 ((tV h1 hw).mp e).symm)]
    simp
theorem zj (hG:Good N) (hw:w∈N.names):sp f N.ties w=0 - Rs.dv (roA (ah N [])) (flK N f) (Rs.dl (N.names.idxOf w)):=by
 have h:=zg (f:=f) hG N.ties.length hw (Nat.le_refl _)
 rw [List.take_length,←bC,spJ_all] at h
 exact h
abbrev sY (x:D) (v:Int) (y:D):List (Str×D):= [("flow",x),("amount", .int v),("side",y)]
abbrev raisF (fl:List (Key×D)) (v:Int) (side:List D):List (Str×D):=sY (.dct fl) v (.lst side)
theorem rj {x y:D} {v:Int}:∀s:SD,goF cm [.cell S.nx,x, .int v,y] ⟨s.sl,S.new (.obj "Raised" [])⟩= .ok (.d .non) ⟨s.sl,S.new (.obj "Raised" (sY x v y))⟩:=fun s=>by
 refine dY ?_
 show Wp (gb ⟨[some (.d (.cell S.nx)),some (.d x),some (.d (.int v)),some (.d y)],S.new (.obj "Raised" [])⟩) _ _
 unfold gb
 have f1:∀x:D,hU (Str.ofString "flow") x []= [(Str.ofString "flow",x)]:=fun _=>rfl
 have f2:∀x y:D,hU (Str.ofString "amount") x [(Str.ofString "flow",y)]= [(Str.ofString "flow",y),(Str.ofString "amount",x)]:=fun _ _=>rfl
 have f3:∀x y z:D,hU (Str.ofString "side") x [(Str.ofString "flow",y),(Str.ofString "amount",z)]= [(Str.ofString "flow",y),(Str.ofString "amount",z),(Str.ofString "side",x)]:=fun _ _ _=>rfl
 dsimp! only [f1,f2,f3]
end
end T

set_option maxHeartbeats 4000000
namespace T
open PySem PySem.Spec PyProof.Rows L2 M Z A
open Classical
open Rs (As tw hd tl rm iT Ro roA roR lo up wan ro0 RoOk foR FlOk)
section
variable {x z:D} {h r q:Nat} {rs' :List (Option Int)} {N:ND} {rows:List Ro} {f:Int→Int} {s1 s2:Str}
theorem qy (hG:Good N):∀r∈ah N [],RoOk r N.names.length:=zD hG fun x hx=>by cases hx
theorem vQ (hf:eI N.ties f):FlOk (ah N []) (flK N f) where
 lo:=fun k hk=>by
  rw [bC] at hk
  have eq:N.ties[k]? =some N.ties[k]:=List.getElem?_eq_getElem hk
  unfold Rs.lo
  rw [nV eq,List.getD_eq_getElem?_getD,vi eq]
  exact (hf _ (List.getElem_mem hk)).1
 up:=fun k hk v hv=>by
  rw [bC] at hk
  have eq:N.ties[k]? =some N.ties[k]:=List.getElem?_eq_getElem hk
  unfold Rs.up at hv
  rw [List.getD_eq_getElem?_getD,vi eq] at hv
  rw [nV eq]
  exact (hf _ (List.getElem_mem hk)).2 v hv
theorem Bf (H:FlOk (ah N []) (flK N f)):eI N.ties f:=fun q hq=>by
 obtain ⟨k,hk,rfl⟩:=List.getElem_of_mem hq
 have eq:N.ties[k]? =some N.ties[k]:=List.getElem?_eq_getElem hk
 have h1:=H.lo k (by rw [bC]; exact hk)
 have h2:=H.up k (by rw [bC]; exact hk)
 unfold Rs.lo at h1
 unfold Rs.up at h2
 rw [nV eq,List.getD_eq_getElem?_getD,vi eq] at h1
 rw [nV eq,List.getD_eq_getElem?_getD,vi eq] at h2
 exact ⟨h1,fun v hv=>h2 v hv⟩
theorem flK_by (hG:Good N) {F:Nat→Int} {k:Nat} (hk:k<(ah N []).length):flK N (dF N F) k=F k:=by
 rw [bC] at hk
 have eq:N.ties[k]? =some N.ties[k]:=List.getElem?_eq_getElem hk
 rw [nV eq,xD hG eq]
theorem FlOk.cong {φ ψ:Nat→Int} (H:FlOk rows φ) (e:∀k,k<rows.length→ψ k=φ k):FlOk rows ψ:=⟨fun k hk=>by rw [e k hk]; exact H.lo k hk,fun k hk v hv=>by rw [e k hk]; exact H.up k hk v hv⟩
section
variable {g:Nat→Int} {v:Int}
theorem xu (hG:Good N) (h1:s1∈N.names) (h2:s2∈N.names) (hev:∀z∈N.names,sp f N.ties z=0∨z=s1∨z=s2) (A:Rs.Flown (roA (ah N [])) (N.names.idxOf s1) (N.names.idxOf s2) (foR (ah N []) (flK N f) (ah N []).length) rs' g v):
  eI N.ties (dF N (amt (ah N []) rs'))∧(∀z∈N.names,sp (dF N (amt (ah N []) rs')) N.ties z=0∨z=s1∨z=s2)∧(∀k,k<N.ties.length→rm rs' (2*k+1)≠none)∧∀k,k<(ah N []).length→flK N (dF N (amt (ah N []) rs')) k=flK N f k+g k:=by
 have e0:∀k,k<(ah N []).length→flK N (dF N (amt (ah N []) rs')) k=flK N f k+g k:=fun k hk=>by
  rw [flK_by hG hk]
  unfold amt
  rw [Rs.kb A hk]
  show Rs.lo (ah N []) k+(flK N f k+g k - Rs.lo (ah N []) k)=_
  omega
 refine ⟨Bf (FlOk.cong (Rs.flow_ok A) e0),fun z hz=>?_,fun k hk q=>?_,e0⟩
 ·by_cases c1:z=s1
  ·exact .inr (.inl c1)
  ·by_cases c2:z=s2
   ·exact .inr (.inr c2)
   ·refine .inl ?_
    have h:=(hev z hz).resolve_right (fun q=>q.elim c1 c2)
    rw [zj hG hz] at h ⊢
    rw [Rs.lW (f' :=fun k=>flK N f k+g k) fun k hk=>e0 k (by rw [Rs.bw] at hk; exact hk),Rs.flow_dv A]
    have d1:Rs.dl (N.names.idxOf z) (N.names.idxOf s1)=0:=if_neg fun e=>c1 ((tV h1 hz).mp e).symm
    have d2:Rs.dl (N.names.idxOf z) (N.names.idxOf s2)=0:=if_neg fun e=>c2 ((tV h2 hz).mp e).symm
    rw [d1,d2,Int.sub_self,Int.mul_zero,Int.add_zero]
    exact h
 ·rw [Rs.kb A (by rw [bC]; exact hk)] at q
  cases q
end
end
def xN (names:List Str) (U:Nat→Bool):List D:=((List.range names.length).filter U).map fun k=> .str (names.getD k (Str.ofString ""))
theorem vv (names:List Str):bS (names.map D.str)=(List.range names.length).map fun k:Nat=>D.tup [.int (k:Int), .str (names.getD k (Str.ofString ""))]:=by
 have:names.map D.str=(List.range names.length).map fun k=>D.str (names.getD k (Str.ofString "")):=by
  refine List.ext_getElem (by simp) fun i h1 h2=>?_
  simp only [List.getElem_map,List.getElem_range]
  rw [List.getD_eq_getElem?_getD,List.getElem?_eq_getElem (by simpa using h1)]
  rfl
 rw [this]
 exact lC
section
variable {s:SD} {S:Sto} {x:D} {n p l d:Nat} {f:Int→Int} {s1 s2:Str}
abbrev raS (n:Nat) (x:D) (s1 s2:Str) (v4 v5 v6 v7 v8 v9 v10:Option Vl) (S:Sto):SD:=⟨[some (.d (.cell n)),some (.d x),some (.d (.str s1)),some (.d (.str s2)),v4,v5,v6,v7,v8,v9,v10,none,none,none,none],S⟩
theorem side_lc {names:List Str} {U:Nat→Bool} {v5 v6 v7 v8:Option Vl} (hz:names.length≤1000):
  lcK (kj [13,14]) (zB (z2 oIx (aa 9) (aa 13))) (aa 14) [13,14] ⟨[.d (.lst (names.map .str))],fun _=>True,bS (names.map .str)⟩ (raS n x s1 s2 (some (.d (.lst (names.map .str)))) v5 v6 v7 v8 (some (.own (.lst ((List.range names.length).map fun p=>D.bl (U p))))) none S)=
   .ok (.own (.lst (xN names U))) (raS n x s1 s2 (some (.d (.lst (names.map .str)))) v5 v6 v7 v8 (some (.own (.lst ((List.range names.length).map fun p=>D.bl (U p))))) none S):=by
 rw [nB (l:=List.range names.length) (fun k:Nat=>D.tup [.int (k:Int), .str (names.getD k (Str.ofString ""))]) (fun k=>D.str (names.getD k (Str.ofString ""))) U (vv names) rfl Nl.d1 trivial (fun k hk=>?_) (by rw [List.length_range,sizeLine_eq]; omega)]
 ·rfl
 ·have hk:=List.mem_range.mp hk
  have i1:∀s:SD,ixK s (some (.lst ((List.range names.length).map fun p=>D.bl (U p)))) (some (.int (k:Int)))= .ok (.d (.bl (U k))) s:=fun s=>ixR (f:=fun p=>D.bl (U p)) hk
  unfold Z.jB
  dsimp! only [i1]
end
end T

set_option maxHeartbeats 4000000
namespace Rs
section
variable {rows:List Ro} {rs' :List (Option Int)} {f φ ψ:Nat→Int} {m k p s t:Nat} {a x:Int} {U V:Nat→Bool}
theorem flow_le (F:FlOk rows φ) (hu:∀k,k<rows.length→U (rows.getD k ro0).t=true→U (rows.getD k ro0).h=false→up rows k≠none):dv (roA rows) φ (ind U)≤outM rows U - inL rows U:=by
 suffices h:0≤outM rows U - inL rows U - dv (roA rows) φ (ind U) by omega
 unfold outM inL dv
 rw [bw,←pA,←pA]
 refine sm_nn fun k hk=>?_
 rw [(fg hk).1,(fg hk).2]
 have h1:=F.lo k hk
 have h2:=F.up k hk
 have h3:=hu k hk
 unfold ind
 cases c1:U (rows.getD k ro0).t<;> cases c2:U (rows.getD k ro0).h
 ·simp
 ·simp only [if_true,if_false,reduceCtorEq,Bool.false_eq_true]; omega
 ·cases cu:up rows k with
  | none=>exact absurd cu (h3 c1 c2)
  | some x=>
   have:=h2 x cu
   simp only [if_true,if_false,reduceCtorEq,Bool.false_eq_true,Option.getD_some]; omega
 ·simp
theorem full_of (A:Flown (roA rows) s t (foR rows φ rows.length) rs' f a) (F:Full (roA rows) U rs'):Full (roA rows) U (foR rows (fun k=>φ k+f k) rows.length):=fun h hh h1 h2=>by
 have e:=F h hh h1 h2
 rw [bw] at hh
 have hk:h / 2<rows.length:=by omega
 rcases Nat.mod_two_eq_zero_or_one h with c | c
 ·rw [show h=2*(h / 2) by omega] at e ⊢
  rw [(lJ hk).1]
  rw [sT A hk] at e
  exact e
 ·rw [show h=2*(h / 2)+1 by omega] at e ⊢
  rw [(lJ hk).2]
  rw [kb A hk] at e
  exact e
structure Raisd (rows:List Ro) (m s t:Nat) (φ:Nat→Int) (v:Int) (U:Nat→Bool):Prop where
 ok:FlOk rows φ
 ev:∀p,p<m→p≠s→p≠t→dv (roA rows) φ (dl p)=0
 us:U s=true
 ut:U t=false
 bd:∀k,k<rows.length→U (rows.getD k ro0).t=true→U (rows.getD k ro0).h=false→up rows k≠none
 v1:v=dv (roA rows) φ (dl s)
 v2:v=outM rows U - inL rows U
theorem Raisd.most {v:Int} (R:Raisd rows m s t φ v U) (o:∀r∈rows,RoOk r m) (hs:s<m) (F:FlOk rows ψ) (hev:∀p,p<m→p≠s→p≠t→dv (roA rows) ψ (dl p)=0):dv (roA rows) ψ (dl s)≤v:=by
 rw [←dv_two (sU o) hs hev R.us R.ut,R.v2]
 exact flow_le F R.bd
theorem Raisd.uniq {v v' :Int} (R:Raisd rows m s t φ v U) (R' :Raisd rows m s t ψ v' V) (o:∀r∈rows,RoOk r m) (hs:s<m):v=v' :=by
 have h1:=R.most o hs R'.ok R'.ev
 have h2:=R'.most o hs R.ok R.ev
 have:=R.v1
 have:=R'.v1
 omega
end
end Rs
namespace T
open PySem PySem.Spec PyProof.Rows L2 M Z A
open Classical
open Rs (As tw hd tl rm iT Ro roA roR lo up wan ro0 RoOk foR FlOk Raisd)
section
variable {z:D} {h p:Nat} {N:ND} {f:Int→Int} {s1 s2:Str}
theorem sp_zero (hG:Good N) (h1:s1∈N.names) (h2:s2∈N.names) (h:∀z∈N.names,sp f N.ties z=0∨z=s1∨z=s2):∀p,p<N.names.length→p≠N.names.idxOf s1→p≠N.names.idxOf s2→Rs.dv (roA (ah N [])) (flK N f) (Rs.dl p)=0:=fun p hp c1 c2=>by
 have hz:N.names[p]∈N.names:=List.getElem_mem hp
 have ei:N.names.idxOf N.names[p]=p:=List.Nodup.idxOf_getElem hG.nd p hp
 rcases h _ hz with h | h | h
 ·rw [zj hG hz,ei] at h
  omega
 ·rw [←h,ei] at c1; exact absurd rfl c1
 ·rw [←h,ei] at c2; exact absurd rfl c2
theorem zero_sp (hG:Good N) (h1:s1∈N.names) (h2:s2∈N.names) (h:∀p,p<N.names.length→p≠N.names.idxOf s1→p≠N.names.idxOf s2→Rs.dv (roA (ah N [])) (flK N f) (Rs.dl p)=0):∀z∈N.names,sp f N.ties z=0∨z=s1∨z=s2:=fun z hz=>by
 by_cases c1:z=s1
 ·exact .inr (.inl c1)
 ·by_cases c2:z=s2
  ·exact .inr (.inr c2)
  ·refine .inl ?_
   rw [zj hG hz,h _ (cF hz) (jP hz h1 c1) (jP hz h2 c2)]
   rfl
end
section
variable {s:SD} {S:Sto} {sl:List (Option Vl)} {x z:D} {n h m r p q l d:Nat} {as:As} {rs:List (Option Int)} {N:ND} {f:Int→Int} {is:List Int} {w s1 s2:Str}
theorem RestAt.ext {S' :Sto} (R:RestAt S r m as rs) (E:Ext S S'):RestAt S' r m as rs where
 o:=(E.get _ (by have:=R.nx; omega)).trans R.o
 h:=(E.get _ (by have:=R.nx; omega)).trans R.h
 k:=(E.get _ (by have:=R.nx; omega)).trans R.k
 s:=(E.get _ (by have:=R.nx; omega)).trans R.s
 p:=fun p hp=>(E.get _ (by have:=R.nx; omega)).trans (R.p p hp)
 nx:=Nat.le_trans R.nx E.nx
 len:=R.len
 ok:=R.ok
def wayN (N:ND) (f:Int→Int) (s t:Nat):List Int:=(Rs.bM (roA (ah N [])) (foR (ah N []) (flK N f) (ah N []).length) true N.names.length s t).map fun h=>(nums N).getD (h / 2) 0
theorem A0 (h:NetAt S n l d N) (hG:Good N) (hx:Hand S x (ao f is)) (hxl:∀j,x= .cell j→j<S.nx) (hp:is.Perm (N.ties.map (·.1))) (hf:eI N.ties f) (h1:s1∈N.names) (h2:s2∈N.names) (h3:s1≠s2) (hev:∀z∈N.names,sp f N.ties z=0∨z=s1∨z=s2)
  (hend:N.names.idxOf s2∈(Rs.bL (roA (ah N [])) (foR (ah N []) (flK N f) (ah N []).length) true N.names.length (N.names.idxOf s1)).row) (hn:n<S.nx) (hnl:l<S.nx) (hnd:d<S.nx):
  ∃S',Ext S S'∧∀sl,goF bp [.cell n,x, .str s1, .str s2] ⟨sl,S⟩= .ex "Endless" [("numbers", .lst ((wayN N f (N.names.idxOf s1) (N.names.idxOf s2)).map .int))] ⟨sl,S'⟩:=by
 have tl:=hG.tl
 have nl:=hG.nl
 have hs:(5000:Nat)<sizeLine:=by decide
 have ok:=qy hG
 have k1:=fun sl=>dW (sl:=sl) h h1 h2 h3
 have k2:=fun sl=>fQ (sl:=sl) h hG hx hp hf
 have k3:=fun sl=>eE (sl:=sl) h hG hx hp hf h1 h2 h3
 have ec:DU (sp f N.ties) s1 s2 N.names= .int (0 - sp f N.ties s1):=if_pos hev
 rw [ec] at k3
 have k4:=fun sl=>jQ (sl:=sl) h
 have q1:=h.n
 obtain ⟨S1,R1,E1,n1,k5⟩:=tY h hG hx hxl (fun q hq=>hp.mem_iff.mpr (List.mem_map_of_mem hq)) hn hnl hnd
 have N1:=h.ext E1 hn hnl hnd
 have q2:=N1.n
 have i1:=hJ h1
 have i2:=hJ h2
 have o1:=R1.o
 have aok:=Rs.sU ok
 have hs1:=cF h1
 have hne:=jP h1 h2 h3
 have k6:=fun sl=>ua (sl:=sl) R1 (cF h1) (cF h2) (by omega)
 have hw:Rs.bM (roA (ah N [])) (foR (ah N []) (flK N f) (ah N []).length) true N.names.length (N.names.idxOf s1) (N.names.idxOf s2)≠ []:=fun q=>(Rs.gy aok hs1 hne).mp q hend
 have W:=Rs.jG (rs:=foR (ah N []) (flK N f) (ah N []).length) (e:=true) aok hs1 hend
 have wl:=yG aok hs1 W
 have ee:endD (roA (ah N [])) (foR (ah N []) (flK N f) (ah N []).length) N.names.length (N.names.idxOf s1) (N.names.idxOf s2)= .own (.lst ((Rs.bM (roA (ah N [])) (foR (ah N []) (flK N f) (ah N []).length) true N.names.length (N.names.idxOf s1) (N.names.idxOf s2)).map fun h=> .int ((h / 2:Nat):Int))):=if_neg hw
 rw [ee] at k6
 have k7:=fun sl=>iU (sl:=sl) N1 hG.rise hG.tl
 have mE:dI (fj S.nx N.names.length) "endless" =none:=rfl
 have wn:wayN N f (N.names.idxOf s1) (N.names.idxOf s2)=(Rs.bM (roA (ah N [])) (foR (ah N []) (flK N f) (ah N []).length) true N.names.length (N.names.idxOf s1) (N.names.idxOf s2)).map fun h=>(nums N).getD (h / 2) 0:=rfl
 generalize Rs.bM (roA (ah N [])) (foR (ah N []) (flK N f) (ah N []).length) true N.names.length (N.names.idxOf s1) (N.names.idxOf s2)=w at*
 refine ⟨S1,E1,fun sl=>lN ?_⟩
 show Wp (cJ ⟨[some (.d (.cell n)),some (.d x),some (.d (.str s1)),some (.d (.str s2)),none,none,none,none,none,none,none,none,none,none,none],S⟩) _ _
 unfold cJ
 dsimp! only [k1,k2,k3,q1,k4,k5,gA,i1,i2,o1,ak mE,k6,q2,k7]
 rw [lH (l:=N.ties) bB (fun q=> .int q.1) rfl rfl Nl.d1 trivial (fun q hq=>?_) (by rw [sizeLine_eq]; omega)]
 ·dsimp! only []
  rw [lH (l:=w) (fun h:Nat=> .int ((h / 2:Nat):Int)) (fun h=> .int ((nums N).getD (h / 2) 0)) rfl rfl Nl.d1 trivial (fun h hh=>?_) (by rw [sizeLine_eq]; omega)]
  ·dsimp! only []
   rw [wn,List.map_map]
   rfl
  ·have hl:=(W.all h hh).1
   rw [Rs.bw,bC] at hl
   have i3:∀s:SD,ixK s (some (.lst (N.ties.map fun q=>D.int q.1))) (some (.int ((h / 2:Nat):Int)))= .ok (.d (.int ((nums N).getD (h / 2) 0))) s:=fun s=>by
    have e:N.ties[h / 2]? =some N.ties[h / 2]:=List.getElem?_eq_getElem (by omega)
    have e2:(nums N).getD (h / 2) 0=N.ties[h / 2].1:=by
     unfold nums
     rw [List.getD_eq_getElem?_getD,List.getElem?_map,e]
     rfl
    rw [e2]
    exact ixL (f:=fun q:Int×TD=>D.int q.1) e
   unfold Z.jB
   dsimp! only [i3]
 ·have c1:∀s:SD,s.cont (.d (bB q))=some (.obj "Tie" (wH q.1 q.2)):=fun _=>rfl
  unfold Z.jB
  dsimp! only [c1]
end
section
variable {a b:Vl} {S:Sto} {sl:List (Option Vl)} {x y z:D} {n h r p q l d:Nat} {rs' :List (Option Int)} {N:ND} {rows:List Ro} {f:Int→Int} {is:List Int} {s1 s2:Str}
noncomputable def ra3:SD→R Fl:=(aj (aN (aD "Rest" "lift" fC [] (aa 5) (zA (zM2 isL bT (aa 4) (aa 2)) (zA (zM2 isL bT (aa 4) (aa 3)) zA0))))
 (aj (ax (dk (ar jI [] (zA (aa 0) (zA (aa 5) zA0)))) (zSt 8))
 (aj (ax (aD "Rest" "reached" cR [] (aa 5) (zA (zM2 isL bT (aa 4) (aa 2)) zA0)) (zSt 9))
 (aj (ax (dk (zLc (kr (aZ (aa 4))) (kj [13,14]) (zB (z2 oIx (aa 9) (aa 13))) (aa 14) [13,14])) (zSt 10))
 (bo (zFrz (lL "Raised" cm [] (zA (aa 8) (zA (ar bY [] (zA (aa 0) (zA (aa 8) (zA (aa 2) (zA (aa 3) zA0))))) (zA (aa 10) zA0))))))))))
theorem ra_endC {G:SD→R Fl} (hG:G=ra3) {v6:Option Vl} {v:Int} {rows:List Ro} (er:rows=ah N []) (h:NetAt S n l d N) (hGd:Good N) (R:RestAt S r N.names.length (roA rows) (foR rows (flK N f) rows.length)) (Gd:Rs.Good (roA rows) N.names.length (N.names.idxOf s1) (N.names.idxOf s2) (foR rows (flK N f) rows.length))
  (L:Rs.Lift (roA rows) N.names.length (N.names.idxOf s1) (N.names.idxOf s2) (foR rows (flK N f) rows.length) rs' v) (h1:s1∈N.names) (h2:s2∈N.names) (h3:s1≠s2) (hev:∀z∈N.names,sp f N.ties z=0∨z=s1∨z=s2) (hn:n<r) (hl:l<r) (hd:d<r):
  Wp (G (raS n x s1 s2 (some (.own (.lst (N.names.map .str)))) (some (.d (.cell r))) v6 none none none none S)) (fun fl s' =>flv fl=some (.d (.obj "Raised" (sY (.cell S.nx) (0 - sp (dF N (amt rows rs')) N.ties s1) (.cell (S.nx+1)))))∧
   s'.st=(((S.put (r+2) (.lst (rs'.map rD))).new (.dct (ao (dF N (amt rows rs')) (nums N)))).new (.lst (xN N.names (Rs.qm (roA rows) rs' false N.names.length (N.names.idxOf s1))))).tick) XF:=by
 have tl:=hGd.tl
 have nl:=hGd.nl
 have hs:(5000:Nat)<sizeLine:=by decide
 have i1:=hJ h1
 have i2:=hJ h2
 have o1:=R.o
 have rnx:=R.nx
 obtain ⟨rs2,v2,L2,e2⟩:=g_lift R Gd (by omega)
 obtain ⟨hr,hv⟩:=L2.uniq L
 subst hr hv
 obtain ⟨g,A,_⟩:=L2.flown Gd
 subst er
 obtain ⟨f1,f2,f3,_⟩:=xu hGd h1 h2 hev A
 obtain ⟨S2,hS2⟩:∃S2,S2=S.put (r+2) (.lst (rs2.map rD)):=⟨_,rfl⟩
 have nx2:S2.nx=S.nx:=by rw [hS2]; rfl
 have R2:=R.rooms (rs' :=rs2) A.sh.len
 rw [←hS2] at R2 e2 ⊢
 have N2:NetAt S2 n l d N:=by rw [hS2]; exact ⟨(Z.Sto.put_ne (by omega)).trans h.n,(Z.Sto.put_ne (by omega)).trans h.l,(Z.Sto.put_ne (by omega)).trans h.d⟩
 have o2:=R2.o
 have q2:=N2.n
 have e3:=fun sl=>A7 (sl:=sl) N2 hGd R2 (by rw [Rs.bw,bC]) f3
 obtain ⟨S3,hS3⟩:∃S3,S3=S2.new (.dct (ao (dF N (amt (ah N []) rs2)) (nums N))):=⟨_,rfl⟩
 have E3:Ext S2 S3:=by rw [hS3]; exact .new
 have R3:=R2.ext E3
 have o3:=R3.o
 have e4:=fun sl=>AZ (sl:=sl) R3 (cF h1) (by omega)
 have lc:=fun (v5 v6 v7 v8:Option Vl)=>side_lc (n:=n) (x:=x) (s1:=s1) (s2:=s2) (S:=S3) (names:=N.names) (U:=Rs.qm (roA (ah N [])) rs2 false N.names.length (N.names.idxOf s1)) (v5:=v5) (v6:=v6) (v7:=v7) (v8:=v8) (by omega)
 obtain ⟨S4,hS4⟩:∃S4,S4=S3.new (.lst (xN N.names (Rs.qm (roA (ah N [])) rs2 false N.names.length (N.names.idxOf s1)))):=⟨_,rfl⟩
 have nx3:S3.nx=S2.nx+1:=by rw [hS3]; rfl
 have nx4:S4.nx=S3.nx+1:=by rw [hS4]; rfl
 have E4:Ext S3 S4:=by rw [hS4]; exact .new
 have E24:=E3.trans E4
 have N4:=N2.ext E24 (by omega) (by omega) (by omega)
 have q4:=N4.n
 have hc:S4.get S.nx=some (.dct (ao (dF N (amt (ah N []) rs2)) (nums N))):=by
  rw [E4.get _ (by omega),hS3,←nx2]
  exact dr
 have e5:=fun sl=>eE (sl:=sl) (x:= .cell S.nx) N4 hGd (.inr ⟨_,rfl,hc⟩) (List.Perm.refl _) f1 h1 h2 h3
 have ec:DU (sp (dF N (amt (ah N []) rs2)) N.ties) s1 s2 N.names= .int (0 - sp (dF N (amt (ah N []) rs2)) N.ties s1):=if_pos f2
 rw [ec] at e5
 have e6:=fun (sl:List (Option Vl)) (x:D) v (y:D)=>xb (sl:=sl) (S:=S4) (i:=S4.nx) (F:=cm) (rj (S:=S4) (x:=x) (v:=v) (y:=y))
 have mL:dI (fj r N.names.length) "lift" =none:=rfl
 have mR:dI (fj r N.names.length) "reached" =none:=rfl
 rw [←hS3,←hS4]
 subst hG
 unfold ra3
 clear A f1 f2 f3 L L2 Gd hS2 hev
 dsimp! only [gA,i1,i2,o1,o2,q2,o3,ak mL,ak mR,e2,e3,←hS3,nx2,e4,lc,←hS4,nx3,e5,e6]
theorem A3 (h:NetAt S n l d N) (hG:Good N) (hx:Hand S x (ao f is)) (hxl:∀j,x= .cell j→j<S.nx) (hp:is.Perm (N.ties.map (·.1))) (hf:eI N.ties f) (h1:s1∈N.names) (h2:s2∈N.names) (h3:s1≠s2) (hev:∀z∈N.names,sp f N.ties z=0∨z=s1∨z=s2)
  (hend:N.names.idxOf s2∉(Rs.bL (roA (ah N [])) (foR (ah N []) (flK N f) (ah N []).length) true N.names.length (N.names.idxOf s1)).row) (hn:n<S.nx) (hnl:l<S.nx) (hnd:d<S.nx):
  ∃rs' v S' i j,Rs.Good (roA (ah N [])) N.names.length (N.names.idxOf s1) (N.names.idxOf s2) (foR (ah N []) (flK N f) (ah N []).length)∧Rs.Lift (roA (ah N [])) N.names.length (N.names.idxOf s1) (N.names.idxOf s2) (foR (ah N []) (flK N f) (ah N []).length) rs' v∧Ext S S'∧
   (S.nx≤i∧i<S'.nx∧S'.get i=some (.dct (ao (dF N (amt (ah N []) rs')) (nums N))))∧(S.nx≤j∧j<S'.nx∧S'.get j=some (.lst (xN N.names (Rs.qm (roA (ah N [])) rs' false N.names.length (N.names.idxOf s1)))))∧
   ∀sl,goF bp [.cell n,x, .str s1, .str s2] ⟨sl,S⟩= .ok (.d (.obj "Raised" (sY (.cell i) (0 - sp (dF N (amt (ah N []) rs')) N.ties s1) (.cell j)))) ⟨sl,S'⟩:=by
 have tl:=hG.tl
 have nl:=hG.nl
 have hs:(5000:Nat)<sizeLine:=by decide
 have ok:=qy hG
 have k1:=fun sl=>dW (sl:=sl) h h1 h2 h3
 have k2:=fun sl=>fQ (sl:=sl) h hG hx hp hf
 have k3:=fun sl=>eE (sl:=sl) h hG hx hp hf h1 h2 h3
 have ec:DU (sp f N.ties) s1 s2 N.names= .int (0 - sp f N.ties s1):=if_pos hev
 rw [ec] at k3
 have k4:=fun sl=>jQ (sl:=sl) h
 have q1:=h.n
 obtain ⟨S1,R1,E1,n1,k5⟩:=tY h hG hx hxl (fun q hq=>hp.mem_iff.mpr (List.mem_map_of_mem hq)) hn hnl hnd
 have Gd:=Rs.xw ok (vQ hf) (cF h1) (cF h2) (jP h1 h2 h3) hend
 obtain ⟨rs',v,L⟩:=Rs.AI Gd
 have N1:=h.ext E1 hn hnl hnd
 have i1:=hJ h1
 have i2:=hJ h2
 have o1:=R1.o
 have k6:=fun sl=>ua (sl:=sl) R1 (cF h1) (cF h2) (by omega)
 have ee:endD (roA (ah N [])) (foR (ah N []) (flK N f) (ah N []).length) N.names.length (N.names.idxOf s1) (N.names.idxOf s2)= .d .non:=if_pos ((Rs.gy Gd.ok Gd.hs Gd.ne).mpr hend)
 rw [ee] at k6
 have mE:dI (fj S.nx N.names.length) "endless" =none:=rfl
 obtain ⟨g2,hg2⟩:∃g,g=ra3:=⟨_,rfl⟩
 have e0:cJ=(aj (aN (ar br [] (zA (aa 0) (zA (aa 2) (zA (aa 3) zA0)))))
 (aj (aN (ar aV [] (zA (aa 0) (zA (aa 1) zA0))))
 (aj (bP (zB (z2 (gu false) (ar bY [] (zA (aa 0) (zA (aa 1) (zA (aa 2) (zA (aa 3) zA0))))) (zC .non))) (fA "BadFlow" "number" (zC (.int 0))) az)
 (aj (ax (aD "Net" "places" bh [] (aa 0) zA0) (zSt 4))
 (aj (ax (ar jH [] (zA (aa 0) (zA (aa 1) zA0))) (zSt 5))
 (aj (ax (aD "Rest" "endless" cS [] (aa 5) (zA (zM2 isL bT (aa 4) (aa 2)) (zA (zM2 isL bT (aa 4) (aa 3)) zA0))) (zSt 6))
 (aj (bP (zB (z2 (gu true) (aa 6) (zC .non))) (aj (ax (zLc (gp (aZ (aD "Net" "ties" bb [] (aa 0) zA0))) (zSt 11) eU (z1 (bg ["Tie"] "number") (aa 11)) [11]) (zSt 7))
 (mm "Endless" "numbers" (zLc (gp (aZ (aa 6))) (zSt 12) eU (z2 oIx (aa 7) (aa 12)) [12]))) az)
 g2))))))):=by rw [hg2]; rfl
 have en:=fun v6=>ra_endC (x:=x) (v6:=v6) hg2 rfl N1 hG R1 Gd L h1 h2 h3 hev hn hnl hnd
 have nxP:(S1.put (S.nx+2) (.lst (rs'.map rD))).nx=S1.nx:=rfl
 refine ⟨rs',v,_,S1.nx,S1.nx+1,Gd,L,⟨?_,fun i hi=>?_⟩,⟨by omega, ?_, ?_⟩,⟨by omega, ?_, ?_⟩,fun sl=>dY (S' :=(((S1.put (S.nx+2) (.lst (rs'.map rD))).new (.dct (ao (dF N (amt (ah N []) rs')) (nums N)))).new (.lst (xN N.names (Rs.qm (roA (ah N [])) rs' false N.names.length (N.names.idxOf s1))))).tick) ?_⟩
 ·show S.nx≤S1.nx+1+1+1
  omega
 ·rw [gJ (by show i≠S1.nx+1+1; omega),iR (by show i≠S1.nx+1; omega),iR (by show i≠S1.nx; omega),Z.Sto.put_ne (by omega)]
  exact E1.get i hi
 ·show S1.nx<S1.nx+1+1+1
  omega
 ·rw [gJ (by show S1.nx≠S1.nx+1+1; omega),iR (by show S1.nx≠S1.nx+1; omega),←nxP]
  exact dr
 ·show S1.nx+1<S1.nx+1+1+1
  omega
 ·rw [gJ (by show S1.nx+1≠S1.nx+1+1; omega)]
  exact dr
 ·show Wp (cJ ⟨[some (.d (.cell n)),some (.d x),some (.d (.str s1)),some (.d (.str s2)),none,none,none,none,none,none,none,none,none,none,none],S⟩) _ _
  rw [e0]
  clear e0 hg2 L Gd
  dsimp! only [k1,k2,k3,q1,k4,k5,gA,i1,i2,o1,ak mE,k6]
  exact en _
theorem oP (hG:Good N) (hf:eI N.ties f) (h1:s1∈N.names) (h2:s2∈N.names) (h3:s1≠s2) (hev:∀z∈N.names,sp f N.ties z=0∨z=s1∨z=s2)
  (hend:N.names.idxOf s2∉(Rs.bL (roA (ah N [])) (foR (ah N []) (flK N f) (ah N []).length) true N.names.length (N.names.idxOf s1)).row):
  ∃(f' :Int→Int) (v:Int) (U:Nat→Bool),Raisd (ah N []) N.names.length (N.names.idxOf s1) (N.names.idxOf s2) (flK N f') v U∧eI N.ties f'∧(∀z∈N.names,sp f' N.ties z=0∨z=s1∨z=s2)∧
   ∀{S:Sto} {n l d:Nat} {x:D} {is:List Int},NetAt S n l d N→Hand S x (ao f is)→(∀j,x= .cell j→j<S.nx)→is.Perm (N.ties.map (·.1))→n<S.nx→l<S.nx→d<S.nx→∃S' i j,Ext S S'∧(S.nx≤i∧i<S'.nx∧S'.get i=some (.dct (ao f' (nums N))))∧(S.nx≤j∧j<S'.nx∧S'.get j=some (.lst (xN N.names U)))∧
    ∀sl,goF bp [.cell n,x, .str s1, .str s2] ⟨sl,S⟩= .ok (.d (.obj "Raised" (sY (.cell i) v (.cell j)))) ⟨sl,S'⟩:=by
 have ok:=qy hG
 have Gd:=Rs.xw ok (vQ hf) (cF h1) (cF h2) (jP h1 h2 h3) hend
 obtain ⟨rs',v,L⟩:=Rs.AI Gd
 obtain ⟨g,A,ht⟩:=L.flown Gd
 obtain ⟨f1,f2,_,f4⟩:=xu hG h1 h2 hev A
 have Fu:=Rs.Bb (Rs.full_of A (Rs.zu Gd.ok Gd.hs A.nn))
 have us:Rs.qm (roA (ah N [])) rs' false N.names.length (N.names.idxOf s1) (N.names.idxOf s1)=true:=Rs.sM Gd.ok Gd.hs
 have ut:Rs.qm (roA (ah N [])) rs' false N.names.length (N.names.idxOf s1) (N.names.idxOf s2)=false:=decide_eq_false ht
 have ev:=sp_zero hG h1 h2 f2
 have ev' :∀p,p<N.names.length→p≠N.names.idxOf s1→p≠N.names.idxOf s2→Rs.dv (roA (ah N [])) (fun k=>flK N f k+g k) (Rs.dl p)=0:=fun p hp a b=>by
  rw [Rs.lW (f' :=flK N (dF N (amt (ah N []) rs'))) fun k hk=>(f4 k (by rw [Rs.bw] at hk; exact hk)).symm]
  exact ev p hp a b
 have ed:Rs.dv (roA (ah N [])) (flK N (dF N (amt (ah N []) rs'))) (Rs.dl (N.names.idxOf s1))=Rs.dv (roA (ah N [])) (fun k=>flK N f k+g k) (Rs.dl (N.names.idxOf s1)):=Rs.lW fun k hk=>f4 k (by rw [Rs.bw] at hk; exact hk)
 have e1:0 - sp (dF N (amt (ah N []) rs')) N.ties s1=Rs.dv (roA (ah N [])) (flK N (dF N (amt (ah N []) rs'))) (Rs.dl (N.names.idxOf s1)):=by rw [zj hG h1]; omega
 refine ⟨_,_,_,⟨vQ f1,ev,us,ut,fun k hk a b q=>?_,e1, ?_⟩,f1,f2,fun {S n l d x is} h hx hxl hp hn hnl hnd=>?_⟩
 ·have:=Fu.1 k hk a b
  rw [q] at this
  cases this
 ·rw [e1,ed,←Rs.dv_two (Rs.sU ok) Gd.hs ev' us ut]
  exact Fu.2
 ·obtain ⟨rs2,v2,S',i,j,_,L2,E,g1,g2,e⟩:=A3 h hG hx hxl hp hf h1 h2 h3 hev hend hn hnl hnd
  obtain ⟨hr,hv⟩:=L2.uniq L
  subst hr hv
  exact ⟨S',i,j,E,g1,g2,e⟩
end
end T

set_option maxHeartbeats 4000000
namespace Rs
inductive EndR (rows:List Ro) (s:Nat):Nat→Prop
 | base:EndR rows s s
 | step {r:Ro}:r∈rows→r.u=none→EndR rows s r.t→EndR rows s r.h
def est (L:List Nat) (r:Ro):List Nat:=if r.u=none∧r.t∈L∧r.h∉L then L++ [r.h] else L
def lV (rows:List Ro) (L:List Nat):List Nat:=rows.foldl est L
def ecl (rows:List Ro) (s:Nat):Nat→List Nat
 | 0=> [s]
 | n+1=>lV rows (ecl rows s n)
section
variable {rows rs2:List Ro} {rs:List (Option Int)} {φ:Nat→Int} {m s t n k p:Nat} {L:List Nat} {r:Ro}
theorem xj {h:Nat} (hh:h<2*rows.length):iT (foR rows φ rows.length) true h=true↔h%2=0∧up rows (h / 2)=none:=by
 have hk:h / 2<rows.length:=by omega
 obtain ⟨e1,e2⟩:=lJ (φ:=φ) hk
 constructor
 ·intro hl
  have hl:=ny hl
  rcases Nat.mod_two_eq_zero_or_one h with c | c
  ·refine ⟨c, ?_⟩
   rw [show h=2*(h / 2) by omega,e1] at hl
   cases cu:up rows (h / 2) with
   | none=>rfl
   | some x=>rw [cu] at hl; cases hl
  ·rw [show h=2*(h / 2)+1 by omega,e2] at hl
   cases hl
 ·rintro ⟨c,cu⟩
  refine fm ?_
  rw [show h=2*(h / 2) by omega,e1,cu]
  rfl
theorem end_iff (o:∀r∈rows,RoOk r m) (hs:s<m):p∈(bL (roA rows) (foR rows φ rows.length) true m s).row↔EndR rows s p:=by
 rw [(aO (rs:=foR rows φ rows.length) (e:=true) (sU o) hs).rch]
 constructor
 ·intro h
  induction h with
  | base=>exact .base
  | @step h _ h1 h2 ih=>
   rw [bw] at h1
   obtain ⟨c,cu⟩:=(xj h1).mp h2
   have hk:h / 2<rows.length:=by omega
   obtain ⟨a1,a2⟩:=fg hk
   have e1:tl (roA rows) h=(rows.getD (h / 2) ro0).t:=by unfold tl; rw [if_pos c,a1]
   have e2:hd (roA rows) h=(rows.getD (h / 2) ro0).h:=by unfold hd; rw [if_pos c,a2]
   rw [e1] at ih
   rw [e2]
   exact .step (eZ hk) cu ih
 ·intro h
  induction h with
  | base=>exact .base
  | @step r hr hu _ ih=>
   obtain ⟨k,hk,rfl⟩:=List.getElem_of_mem hr
   obtain ⟨a1,a2⟩:=fg hk
   have er:rows.getD k ro0=rows[k]:=by rw [List.getD_eq_getElem?_getD,List.getElem?_eq_getElem hk]; rfl
   rw [er] at a1 a2
   have e1:tl (roA rows) (2*k)=rows[k].t:=by rw [tl_even.1,a1]
   have e2:hd (roA rows) (2*k)=rows[k].h:=by rw [tl_even.2,a2]
   rw [←e1] at ih
   rw [←e2]
   refine .step ih (by rw [bw]; omega) ((xj (by omega)).mpr ⟨by omega, ?_⟩)
   rw [show 2*k / 2=k by omega]
   unfold up
   rw [er]
   exact hu
theorem Bi:L.length≤(est L r).length:=by
 unfold est
 split
 ·rw [List.length_append]; omega
 ·exact Nat.le_refl _
theorem rC:∀(rows:List Ro) (L:List Nat),L.length≤(lV rows L).length
 | [],_=>Nat.le_refl _
 | r::rows,L=>Nat.le_trans (Bi (L:=L) (r:=r)) (rC rows (est L r))
theorem uh:∀{rows:List Ro} {L:List Nat},(lV rows L).length=L.length→lV rows L=L∧∀r∈rows,r.u=none→r.t∈L→r.h∈L
 | [],_,_=>⟨rfl,fun r hr=>by cases hr⟩
 | r::rows,L,h=>by
  have h:(lV rows (est L r)).length=L.length:=h
  have h1:=rC rows (est L r)
  have h2:=Bi (L:=L) (r:=r)
  have e:est L r=L:=by
   unfold est at h1 h2 h ⊢
   split
   ·rename_i c
    rw [if_pos c,List.length_append] at h1
    have:L.length+ [r.h].length≤L.length:=by rw [if_pos c] at h; omega
    exfalso
    simp only [List.length_singleton] at this
    omega
   ·rfl
  have h3:(lV rows L).length=L.length:=by rw [←h,e]
  obtain ⟨g1,g2⟩:=uh h3
  refine ⟨by show lV rows (est L r)=L; rw [e]; exact g1,fun q hq hu ht=>?_⟩
  rcases List.mem_cons.mp hq with rfl | hq
  ·refine Classical.byContradiction fun c=>?_
   unfold est at e
   rw [if_pos ⟨hu,ht,c⟩] at e
   have:=congrArg List.length e
   simp at this
  ·exact g2 q hq hu ht
structure ESeen (rows:List Ro) (m s:Nat) (L:List Nat):Prop where
 nd:L.Nodup
 lt:∀x∈L,x<m
 src:s∈L
 snd:∀x∈L,EndR rows s x
theorem ESeen.step (E:ESeen rows m s L) (hr:r∈rows) (o:RoOk r m):ESeen rows m s (est L r):=by
 unfold est
 split
 ·rename_i c
  refine ⟨?_,fun x hx=>?_,List.mem_append_left _ E.src,fun x hx=>?_⟩
  ·rw [List.nodup_append]
   refine ⟨E.nd,by simp,fun x hx y hy=>?_⟩
   rw [List.mem_singleton.mp hy]
   exact fun e=>c.2.2 (e ▸ hx)
  ·rcases List.mem_append.mp hx with hx | hx
   ·exact E.lt x hx
   ·rw [List.mem_singleton.mp hx]; exact o.h
  ·rcases List.mem_append.mp hx with hx | hx
   ·exact E.snd x hx
   ·rw [List.mem_singleton.mp hx]; exact .step hr c.1 (E.snd _ c.2.1)
 ·exact E
theorem ESeen.rnd (o:∀r∈rows,RoOk r m):∀{rs2:List Ro} {L:List Nat},(∀r∈rs2,r∈rows)→ESeen rows m s L→ESeen rows m s (lV rs2 L)
 | [],_,_,E=>E
 | r::rs2,L,h,E=>ESeen.rnd o (rs2:=rs2) (L:=est L r) (fun q hq=>h q (List.mem_cons_of_mem _ hq)) (E.step (h r List.mem_cons_self) (o r (h r List.mem_cons_self)))
theorem ESeen.cl (o:∀r∈rows,RoOk r m) (hs:s<m):∀n,ESeen rows m s (ecl rows s n)
 | 0=>⟨by simp [ecl],fun x hx=>by rw [List.mem_singleton.mp hx]; exact hs,by simp [ecl],fun x hx=>by rw [List.mem_singleton.mp hx]; exact .base⟩
 | n+1=>ESeen.rnd o (fun _ h=>h) (ESeen.cl o hs n)
theorem ESeen.len (E:ESeen rows m s L):L.length≤m:=by
 have h:=List.Nodup.length_le_of_subset E.nd (l₂:=List.range m) fun x hx=>List.mem_range.mpr (E.lt x hx)
 rwa [List.length_range] at h
theorem DM (n:Nat):n+1≤(ecl rows s n).length∨∀r∈rows,r.u=none→r.t∈ecl rows s n→r.h∈ecl rows s n:=by
 induction n with
 | zero=>exact .inl (by simp [ecl])
 | succ n ih=>
  have hl:=rC rows (ecl rows s n)
  rcases ih with ih | ih
  ·by_cases c:(lV rows (ecl rows s n)).length=(ecl rows s n).length
   ·obtain ⟨g1,g2⟩:=uh c
    refine .inr ?_
    show∀r∈rows,r.u=none→r.t∈lV rows (ecl rows s n)→r.h∈lV rows (ecl rows s n)
    rw [g1]
    exact g2
   ·refine .inl ?_
    show n+1+1≤(lV rows (ecl rows s n)).length
    omega
  ·refine .inr ?_
   show∀r∈rows,r.u=none→r.t∈lV rows (ecl rows s n)→r.h∈lV rows (ecl rows s n)
   have e:∀rs2:List Ro,(∀r∈rs2,r∈rows)→lV rs2 (ecl rows s n)=ecl rows s n:=by
    intro rs2
    induction rs2 with
    | nil=>intro _; rfl
    | cons r rs2 ih2=>
     intro h
     have h1:est (ecl rows s n) r=ecl rows s n:=if_neg fun c=>c.2.2 (ih r (h r List.mem_cons_self) c.1 c.2.1)
     show lV rs2 (est (ecl rows s n) r)=_
     rw [h1]
     exact ih2 fun q hq=>h q (List.mem_cons_of_mem _ hq)
   rw [e rows fun _ h=>h]
   exact ih
theorem ecl_all (o:∀r∈rows,RoOk r m) (hs:s<m) (hn:m≤n):t∈ecl rows s n↔EndR rows s t:=by
 have E:=ESeen.cl o hs n
 refine ⟨E.snd t,fun h=>?_⟩
 rcases DM (rows:=rows) (s:=s) n with c | c
 ·have:=E.len
  omega
 ·induction h with
  | base=>exact E.src
  | step hr hu _ ih=>exact c _ hr hu ih
end
end Rs
namespace T
open PySem PySem.Spec PyProof.Rows L2 M Z A
open Classical
open Rs (As tw hd tl rm iT Ro roA roR lo up wan ro0 RoOk foR EndR est lV ecl)
section
variable {S:Sto} {sl:List (Option Vl)} {x z:D} {n h m r q d s t:Nat} {rows:List Ro} {ids:List Nat} {num:Nat→Int} {v4 v5:Option Vl} {L:List Nat}
noncomputable def ieB:SD→R Fl:=(bP (jF (zB (z2 (gu false) (z2 oIx (aa 5) (zC (.str "most"))) (zC .non))) (jF (zB (z2 (oIn false) (z2 oIx (aa 5) (zC (.str "tail"))) (aa 3))) (zB (z2 (oIn true) (z2 oIx (aa 5) (zC (.str "head"))) (aa 3))))) (aN (zM2 isL (oB2 bf) (aa 3) (aZ (z2 oIx (aa 5) (zC (.str "head")))))) az)
abbrev ieS (x:D) (s t:Nat) (L:List Nat) (v4 v5:Option Vl) (S:Sto):SD:=⟨[some (.d x),some (.d (.int (s:Int))),some (.d (.int (t:Int))),some (.own (.lst (L.map nD))),v4,v5],S⟩
theorem ie_turn {G:SD→R Fl} (hG:G=ieB) {i:Nat} {ks:List (Key×D)} {j:Int} {ro:Ro} (hi:S.get i=some (.dct ks)) (B:RowB ks j ro) (hl:L.length≤1000):
  G (ieS x s t L v4 (some (.d (.cell i))) S)= .ok .nx (ieS x s t (est L ro) v4 (some (.d (.cell i))) S):=by
 have b1:=fq B.t
 have b2:=fq B.h
 have b4:=fq B.u
 have sz:((L.map nD).length<sizeLine)=True:=eq_true (by rw [List.length_map,sizeLine_eq]; omega)
 have em:(L.map nD)++ [D.int (ro.h:Int)]=(L++ [ro.h]).map nD:=by rw [List.map_append]; rfl
 subst hG
 unfold ieB est
 by_cases c1:ro.u=none
 ·have n1:ro.u.isNone=true:=by rw [c1]; rfl
  by_cases c2:ro.t∈L
  ·have d2:decide (ro.t∈L)=true:=decide_eq_true c2
   by_cases c3:ro.h∈L
   ·have d3:decide (ro.h∈L)=true:=decide_eq_true c3
    rw [if_neg fun q=>q.2.2 c3]
    simp! only [hi,b1,b2,b4,oU,n1,xr,d2,d3]
   ·have d3:decide (ro.h∈L)=false:=decide_eq_false c3
    rw [if_pos ⟨c1,c2,c3⟩]
    simp! only [hi,b1,b2,b4,oU,n1,xr,d2,d3,sz,em]
  ·have d2:decide (ro.t∈L)=false:=decide_eq_false c2
   rw [if_neg fun q=>c2 q.2.1]
   simp! only [hi,b1,b2,b4,oU,n1,xr,d2]
 ·have n1:ro.u.isNone=false:=by
   cases cu:ro.u with
   | none=>exact absurd cu c1
   | some _=>rfl
  rw [if_neg fun q=>c1 q.1]
  simp! only [hi,b1,b2,b4,oU,n1]
theorem ie_rnd {G:SD→R Fl} (hG:G=(eJ (gp (aZ (aa 0))) (zSt 5) (bP (jF (zB (z2 (gu false) (z2 oIx (aa 5) (zC (.str "most"))) (zC .non))) (jF (zB (z2 (oIn false) (z2 oIx (aa 5) (zC (.str "tail"))) (aa 3))) (zB (z2 (oIn true) (z2 oIx (aa 5) (zC (.str "head"))) (aa 3))))) (aN (zM2 isL (oB2 bf) (aa 3) (aZ (z2 oIx (aa 5) (zC (.str "head")))))) az))) (HL:HandL S x (ids.map .cell)) (HR:RowsB S ids num rows) (hr:∀r∈rows,RoOk r m) (hm:m≤500) (E:Rs.ESeen rows m s L):
  Wp (G (ieS x s t L v4 v5 S)) (fun fl s' =>fl= .nx∧∃v5,s' =ieS x s t (lV rows L) v4 v5 S) XF:=by
 obtain ⟨ok,ei,hok⟩:=HL.it
 obtain ⟨gB,hB⟩:∃G,G=ieB:=⟨_,rfl⟩
 have e0:G=(eJ (gp (aZ (aa 0))) (zSt 5) gB):=by rw [hG,hB]; rfl
 have tn:=fun {i ks j ro L} hi B hl=>ie_turn hB (x:=x) (s:=s) (t:=t) (v4:=v4) (S:=S) (i:=i) (ks:=ks) (j:=j) (ro:=ro) (L:=L) hi B hl
 rw [e0]
 clear e0 hG hB
 simp! only [ei]
 refine iM (fun j s' =>∃v5,s' =ieS x s t (lV (rows.take j) L) v4 v5 S) Nl.d1 (fun _ s ⟨_,e⟩=>by rw [e]; exact hok _) ⟨v5,rfl⟩ (fun j z s' ez hI=>?_) (fun s' hI=>?_)
 ·obtain ⟨u5,rfl⟩:=hI
  have ez:(ids.map D.cell)[j]? =some z:=ez
  rw [List.getElem?_map] at ez
  cases eh:ids[j]? with
  | none=>rw [eh] at ez; cases ez
  | some i=>
   rw [eh] at ez
   cases ez
   have hj:j<rows.length:=by rw [←HR.1]; exact (List.getElem?_eq_some_iff.mp eh).1
   obtain ⟨ks,g1,g2⟩:=HR.2 j i eh
   have er:rows.getD j ro0=rows[j]:=by rw [List.getD_eq_getElem?_getD,List.getElem?_eq_getElem hj]; rfl
   rw [er] at g2
   have E5:=Rs.ESeen.rnd hr (rs2:=rows.take j) (fun q hq=>List.mem_of_mem_take hq) E
   have e1:=tn (L:=lV (rows.take j) L) g1 g2 (by have:=E5.len; omega)
   have et:lV (rows.take (j+1)) L=est (lV (rows.take j) L) rows[j]:=by
    unfold lV
    rw [List.take_add_one,List.getElem?_eq_getElem hj,List.foldl_append]
    rfl
   simp! only [e1]
   exact ⟨_,by rw [et]⟩
 ·have hI:∃v5,s' =ieS x s t (lV (rows.take (ids.map D.cell).length) L) v4 v5 S:=hI
  rw [List.length_map,HR.1,List.take_length] at hI
  exact ⟨rfl,hI⟩
theorem rn (HL:HandL S x (ids.map .cell)) (HR:RowsB S ids num rows) (hr:∀r∈rows,RoOk r m) (hm:m≤6) (hs:s<m):
  goF dA [x, .int (s:Int), .int (t:Int)] ⟨sl,S⟩= .ok (.d (.bl (decide (EndR rows s t)))) ⟨sl,S⟩:=by
 obtain ⟨gB,hB⟩:∃G,G=(eJ (gp (aZ (aa 0))) (zSt 5) (bP (jF (zB (z2 (gu false) (z2 oIx (aa 5) (zC (.str "most"))) (zC .non))) (jF (zB (z2 (oIn false) (z2 oIx (aa 5) (zC (.str "tail"))) (aa 3))) (zB (z2 (oIn true) (z2 oIx (aa 5) (zC (.str "head"))) (aa 3))))) (aN (zM2 isL (oB2 bf) (aa 3) (aZ (z2 oIx (aa 5) (zC (.str "head")))))) az)):=⟨_,rfl⟩
 have e0:gj=(aj (ax (cM (zA (aa 1) zA0)) (zSt 3))
 (aj (eJ (pO (zA (zC (.int 6)) zA0)) (zSt 4) gB)
 (bo (z2 (oIn false) (aa 2) (aa 3))))):=by rw [hB]; rfl
 have tn:=fun {L v4 v5} E=>ie_rnd hB (x:=x) (s:=s) (t:=t) (v4:=v4) (v5:=v5) (S:=S) (L:=L) HL HR hr (by omega) E
 refine dY ?_
 show Wp (gj ⟨[some (.d x),some (.d (.int (s:Int))),some (.d (.int (t:Int))),none,none,none],S⟩) _ _
 rw [e0]
 clear e0 hB
 have zr:(-(2 ^ 62)≤(6:Int)∧(6:Int)<2 ^ 62)=True:=by decide
 have ta:∀n:Int,n=6→n.toNat=6:=fun n h=>by rw [h]; rfl
 have lp:(Z.upTo 0 6).length=6:=by rw [qc,List.length_map,List.length_range]
 have t6:(6:Int).toNat=6:=rfl
 simp! only [zr,t6]
 rw [ae]
 refine iM (fun j s' =>j≤6∧∃v4 v5,s' =ieS x s t (ecl rows s j) v4 v5 S) nl0 (fun _ _ _=>trivial) ⟨by omega,none,none,rfl⟩ (fun j z s' ez hI=>?_) (fun s' hI=>?_)
 ·obtain ⟨_,u4,u5,rfl⟩:=hI
  have ex:(Z.upTo 0 6)[j]? =some z:=ez
  rw [qc,List.getElem?_map] at ex
  have hj:j<6:=Classical.byContradiction fun q=>by
   rw [List.getElem?_eq_none (by rw [List.length_range]; omega)] at ex; cases ex
  rw [List.getElem?_range hj] at ex
  cases ex
  simp! only []
  refine (tn (v5:=u5) (Rs.ESeen.cl hr hs j)).mono (fun fl s' hh=>?_) fun _ _ _ h=>h.elim
  obtain ⟨rfl,w5,rfl⟩:=hh
  exact ⟨by omega,_,_,rfl⟩
 ·have hI:(Z.upTo 0 6).length≤6∧∃v4 v5,s' =ieS x s t (ecl rows s (Z.upTo 0 6).length) v4 v5 S:=hI
  rw [lp] at hI
  obtain ⟨_,u4,u5,rfl⟩:=hI
  have ed:decide (t∈ecl rows s 6)=decide (EndR rows s t):=decide_eq_decide.mpr (Rs.ecl_all hr hs hm)
  simp! only [xr,ed]
end
end T

set_option maxHeartbeats 4000000
namespace T
open PySem PySem.Spec PyProof.Rows L2 M Z A
open Classical
section
variable {S:Sto} {sl:List (Option Vl)} {fs:List (Str×D)}
theorem aq {m:Str→Option Bool} {c:Str} {fs:List (Str×D)} {r:Bool} (h:m c=some r):∀s:SD,isXK m true s (some (.exc c fs))= .ok (.d (.bl r)) s:=fun s=>Dx h
theorem oX:goF fE [.exc "NoPlace" fs] ⟨sl,S⟩= .ok (.d (.str "place")) ⟨sl,S⟩:=by
 refine dY ?_
 show Wp (dG ⟨[some (.d (.exc "NoPlace" fs)),none,none],S⟩) _ _
 unfold dG
 have h1:=aq (fs:=fs) (show pick isx_BadName "NoPlace" =some false from rfl)
 have h2:=aq (fs:=fs) (show pick isx_Twice "NoPlace" =some false from rfl)
 have h3:=aq (fs:=fs) (show pick isx_TooMany "NoPlace" =some false from rfl)
 have h4:=aq (fs:=fs) (show pick isx_NoPlace "NoPlace" =some true from rfl)
 have h5:=aq (fs:=fs) (show pick isx_BadTie "NoPlace" =some false from rfl)
 have h6:=aq (fs:=fs) (show pick isx_BadRoom "NoPlace" =some false from rfl)
 have h7:=aq (fs:=fs) (show pick isx_BadPrice "NoPlace" =some false from rfl)
 have h8:=aq (fs:=fs) (show pick isx_NoTie "NoPlace" =some false from rfl)
 have h9:=aq (fs:=fs) (show pick isx_BadLine "NoPlace" =some false from rfl)
 have h10:=aq (fs:=fs) (show pick isx_BadFlow "NoPlace" =some false from rfl)
 have h11:=aq (fs:=fs) (show pick isx_SamePlace "NoPlace" =some false from rfl)
 have h12:=aq (fs:=fs) (show pick isx_NoFlow "NoPlace" =some false from rfl)
 have h13:=aq (fs:=fs) (show pick isx_Endless "NoPlace" =some false from rfl)
 have h14:=aq (fs:=fs) (show pick isx_Forever "NoPlace" =some false from rfl)
 have h15:=aq (fs:=fs) (show pick isx_BadQuestion "NoPlace" =some false from rfl)
 have h16:=aq (fs:=fs) (show pick isx_NoDeed "NoPlace" =some false from rfl)
 have h17:=aq (fs:=fs) (show pick isx_ValueError "NoPlace" =some true from rfl)
 have s8:∀a b c d e f g h:D,([a,b,c,d].length+ [e,f,g,h].length≤sizeLine)=True:=fun _ _ _ _ _ _ _ _=>eq_true (by show 8≤sizeLine; decide)
 have s12:∀a b c d e f g h i j k l:D,([a,b,c,d,e,f,g,h].length+ [i,j,k,l].length≤sizeLine)=True:=fun _ _ _ _ _ _ _ _ _ _ _ _=>eq_true (by show 12≤sizeLine; decide)
 have s16:∀a b c d e f g h i j k l m n o p:D,([a,b,c,d,e,f,g,h,i,j,k,l].length+ [m,n,o,p].length≤sizeLine)=True:=fun _ _ _ _ _ _ _ _ _ _ _ _ _ _ _ _=>eq_true (by show 16≤sizeLine; decide)
 have c1:∀s:SD,pM s (some (.lst [.bl false, .bl false, .bl false, .bl true, .bl false, .bl false, .bl false, .bl false, .bl false, .bl false, .bl false, .bl false, .bl false, .bl false, .bl false, .bl false])) (some (.bl true))= .ok (.d (.int 1)) s:=fun _=>rfl
 have c2:∀s:SD,ixdK s (some (.lst [.bl false, .bl false, .bl false, .bl true, .bl false, .bl false, .bl false, .bl false, .bl false, .bl false, .bl false, .bl false, .bl false, .bl false, .bl false, .bl false])) (some (.bl true))= .ok (.d (.int 3)) s:=fun _=>rfl
 have c3:∀s:SD,ixK s (some (.lst [.str "name", .str "twice", .str "many", .str "place", .str "itself", .str "room", .str "price", .str "tie", .str "line", .str "flow", .str "same", .str "none", .str "endless", .str "forever", .str "question", .str "deed"])) (some (.int 3))= .ok (.d (.str "place")) s:=fun _=>bj rfl
 have d1:decide ((1:Int)=1)=true:=rfl
 simp! only [s8,s12,s16,c1,c2,c3,d1,h1,h2,h3,h4,h5,h6,h7,h8,h9,h10,h11,h12,h13,h14,h15,h16,h17,gA]
theorem rq:goF fE [.exc "BadFlow" fs] ⟨sl,S⟩= .ok (.d (.str "flow")) ⟨sl,S⟩:=by
 refine dY ?_
 show Wp (dG ⟨[some (.d (.exc "BadFlow" fs)),none,none],S⟩) _ _
 unfold dG
 have h1:=aq (fs:=fs) (show pick isx_BadName "BadFlow" =some false from rfl)
 have h2:=aq (fs:=fs) (show pick isx_Twice "BadFlow" =some false from rfl)
 have h3:=aq (fs:=fs) (show pick isx_TooMany "BadFlow" =some false from rfl)
 have h4:=aq (fs:=fs) (show pick isx_NoPlace "BadFlow" =some false from rfl)
 have h5:=aq (fs:=fs) (show pick isx_BadTie "BadFlow" =some false from rfl)
 have h6:=aq (fs:=fs) (show pick isx_BadRoom "BadFlow" =some false from rfl)
 have h7:=aq (fs:=fs) (show pick isx_BadPrice "BadFlow" =some false from rfl)
 have h8:=aq (fs:=fs) (show pick isx_NoTie "BadFlow" =some false from rfl)
 have h9:=aq (fs:=fs) (show pick isx_BadLine "BadFlow" =some false from rfl)
 have h10:=aq (fs:=fs) (show pick isx_BadFlow "BadFlow" =some true from rfl)
 have h11:=aq (fs:=fs) (show pick isx_SamePlace "BadFlow" =some false from rfl)
 have h12:=aq (fs:=fs) (show pick isx_NoFlow "BadFlow" =some false from rfl)
 have h13:=aq (fs:=fs) (show pick isx_Endless "BadFlow" =some false from rfl)
 have h14:=aq (fs:=fs) (show pick isx_Forever "BadFlow" =some false from rfl)
 have h15:=aq (fs:=fs) (show pick isx_BadQuestion "BadFlow" =some false from rfl)
 have h16:=aq (fs:=fs) (show pick isx_NoDeed "BadFlow" =some false from rfl)
 have h17:=aq (fs:=fs) (show pick isx_ValueError "BadFlow" =some true from rfl)
 have s8:∀a b c d e f g h:D,([a,b,c,d].length+ [e,f,g,h].length≤sizeLine)=True:=fun _ _ _ _ _ _ _ _=>eq_true (by show 8≤sizeLine; decide)
 have s12:∀a b c d e f g h i j k l:D,([a,b,c,d,e,f,g,h].length+ [i,j,k,l].length≤sizeLine)=True:=fun _ _ _ _ _ _ _ _ _ _ _ _=>eq_true (by show 12≤sizeLine; decide)
 have s16:∀a b c d e f g h i j k l m n o p:D,([a,b,c,d,e,f,g,h,i,j,k,l].length+ [m,n,o,p].length≤sizeLine)=True:=fun _ _ _ _ _ _ _ _ _ _ _ _ _ _ _ _=>eq_true (by show 16≤sizeLine; decide)
 have c1:∀s:SD,pM s (some (.lst [.bl false, .bl false, .bl false, .bl false, .bl false, .bl false, .bl false, .bl false, .bl false, .bl true, .bl false, .bl false, .bl false, .bl false, .bl false, .bl false])) (some (.bl true))= .ok (.d (.int 1)) s:=fun _=>rfl
 have c2:∀s:SD,ixdK s (some (.lst [.bl false, .bl false, .bl false, .bl false, .bl false, .bl false, .bl false, .bl false, .bl false, .bl true, .bl false, .bl false, .bl false, .bl false, .bl false, .bl false])) (some (.bl true))= .ok (.d (.int 9)) s:=fun _=>rfl
 have c3:∀s:SD,ixK s (some (.lst [.str "name", .str "twice", .str "many", .str "place", .str "itself", .str "room", .str "price", .str "tie", .str "line", .str "flow", .str "same", .str "none", .str "endless", .str "forever", .str "question", .str "deed"])) (some (.int 9))= .ok (.d (.str "flow")) s:=fun _=>bj rfl
 have d1:decide ((1:Int)=1)=true:=rfl
 simp! only [s8,s12,s16,c1,c2,c3,d1,h1,h2,h3,h4,h5,h6,h7,h8,h9,h10,h11,h12,h13,h14,h15,h16,h17,gA]
theorem rp:goF fE [.exc "SamePlace" fs] ⟨sl,S⟩= .ok (.d (.str "same")) ⟨sl,S⟩:=by
 refine dY ?_
 show Wp (dG ⟨[some (.d (.exc "SamePlace" fs)),none,none],S⟩) _ _
 unfold dG
 have h1:=aq (fs:=fs) (show pick isx_BadName "SamePlace" =some false from rfl)
 have h2:=aq (fs:=fs) (show pick isx_Twice "SamePlace" =some false from rfl)
 have h3:=aq (fs:=fs) (show pick isx_TooMany "SamePlace" =some false from rfl)
 have h4:=aq (fs:=fs) (show pick isx_NoPlace "SamePlace" =some false from rfl)
 have h5:=aq (fs:=fs) (show pick isx_BadTie "SamePlace" =some false from rfl)
 have h6:=aq (fs:=fs) (show pick isx_BadRoom "SamePlace" =some false from rfl)
 have h7:=aq (fs:=fs) (show pick isx_BadPrice "SamePlace" =some false from rfl)
 have h8:=aq (fs:=fs) (show pick isx_NoTie "SamePlace" =some false from rfl)
 have h9:=aq (fs:=fs) (show pick isx_BadLine "SamePlace" =some false from rfl)
 have h10:=aq (fs:=fs) (show pick isx_BadFlow "SamePlace" =some false from rfl)
 have h11:=aq (fs:=fs) (show pick isx_SamePlace "SamePlace" =some true from rfl)
 have h12:=aq (fs:=fs) (show pick isx_NoFlow "SamePlace" =some false from rfl)
 have h13:=aq (fs:=fs) (show pick isx_Endless "SamePlace" =some false from rfl)
 have h14:=aq (fs:=fs) (show pick isx_Forever "SamePlace" =some false from rfl)
 have h15:=aq (fs:=fs) (show pick isx_BadQuestion "SamePlace" =some false from rfl)
 have h16:=aq (fs:=fs) (show pick isx_NoDeed "SamePlace" =some false from rfl)
 have h17:=aq (fs:=fs) (show pick isx_ValueError "SamePlace" =some true from rfl)
 have s8:∀a b c d e f g h:D,([a,b,c,d].length+ [e,f,g,h].length≤sizeLine)=True:=fun _ _ _ _ _ _ _ _=>eq_true (by show 8≤sizeLine; decide)
 have s12:∀a b c d e f g h i j k l:D,([a,b,c,d,e,f,g,h].length+ [i,j,k,l].length≤sizeLine)=True:=fun _ _ _ _ _ _ _ _ _ _ _ _=>eq_true (by show 12≤sizeLine; decide)
 have s16:∀a b c d e f g h i j k l m n o p:D,([a,b,c,d,e,f,g,h,i,j,k,l].length+ [m,n,o,p].length≤sizeLine)=True:=fun _ _ _ _ _ _ _ _ _ _ _ _ _ _ _ _=>eq_true (by show 16≤sizeLine; decide)
 have c1:∀s:SD,pM s (some (.lst [.bl false, .bl false, .bl false, .bl false, .bl false, .bl false, .bl false, .bl false, .bl false, .bl false, .bl true, .bl false, .bl false, .bl false, .bl false, .bl false])) (some (.bl true))= .ok (.d (.int 1)) s:=fun _=>rfl
 have c2:∀s:SD,ixdK s (some (.lst [.bl false, .bl false, .bl false, .bl false, .bl false, .bl false, .bl false, .bl false, .bl false, .bl false, .bl true, .bl false, .bl false, .bl false, .bl false, .bl false])) (some (.bl true))= .ok (.d (.int 10)) s:=fun _=>rfl
 have c3:∀s:SD,ixK s (some (.lst [.str "name", .str "twice", .str "many", .str "place", .str "itself", .str "room", .str "price", .str "tie", .str "line", .str "flow", .str "same", .str "none", .str "endless", .str "forever", .str "question", .str "deed"])) (some (.int 10))= .ok (.d (.str "same")) s:=fun _=>bj rfl
 have d1:decide ((1:Int)=1)=true:=rfl
 simp! only [s8,s12,s16,c1,c2,c3,d1,h1,h2,h3,h4,h5,h6,h7,h8,h9,h10,h11,h12,h13,h14,h15,h16,h17,gA]
theorem lO:goF fE [.exc "Endless" fs] ⟨sl,S⟩= .ok (.d (.str "endless")) ⟨sl,S⟩:=by
 refine dY ?_
 show Wp (dG ⟨[some (.d (.exc "Endless" fs)),none,none],S⟩) _ _
 unfold dG
 have h1:=aq (fs:=fs) (show pick isx_BadName "Endless" =some false from rfl)
 have h2:=aq (fs:=fs) (show pick isx_Twice "Endless" =some false from rfl)
 have h3:=aq (fs:=fs) (show pick isx_TooMany "Endless" =some false from rfl)
 have h4:=aq (fs:=fs) (show pick isx_NoPlace "Endless" =some false from rfl)
 have h5:=aq (fs:=fs) (show pick isx_BadTie "Endless" =some false from rfl)
 have h6:=aq (fs:=fs) (show pick isx_BadRoom "Endless" =some false from rfl)
 have h7:=aq (fs:=fs) (show pick isx_BadPrice "Endless" =some false from rfl)
 have h8:=aq (fs:=fs) (show pick isx_NoTie "Endless" =some false from rfl)
 have h9:=aq (fs:=fs) (show pick isx_BadLine "Endless" =some false from rfl)
 have h10:=aq (fs:=fs) (show pick isx_BadFlow "Endless" =some false from rfl)
 have h11:=aq (fs:=fs) (show pick isx_SamePlace "Endless" =some false from rfl)
 have h12:=aq (fs:=fs) (show pick isx_NoFlow "Endless" =some false from rfl)
 have h13:=aq (fs:=fs) (show pick isx_Endless "Endless" =some true from rfl)
 have h14:=aq (fs:=fs) (show pick isx_Forever "Endless" =some false from rfl)
 have h15:=aq (fs:=fs) (show pick isx_BadQuestion "Endless" =some false from rfl)
 have h16:=aq (fs:=fs) (show pick isx_NoDeed "Endless" =some false from rfl)
 have h17:=aq (fs:=fs) (show pick isx_ValueError "Endless" =some true from rfl)
 have s8:∀a b c d e f g h:D,([a,b,c,d].length+ [e,f,g,h].length≤sizeLine)=True:=fun _ _ _ _ _ _ _ _=>eq_true (by show 8≤sizeLine; decide)
 have s12:∀a b c d e f g h i j k l:D,([a,b,c,d,e,f,g,h].length+ [i,j,k,l].length≤sizeLine)=True:=fun _ _ _ _ _ _ _ _ _ _ _ _=>eq_true (by show 12≤sizeLine; decide)
 have s16:∀a b c d e f g h i j k l m n o p:D,([a,b,c,d,e,f,g,h,i,j,k,l].length+ [m,n,o,p].length≤sizeLine)=True:=fun _ _ _ _ _ _ _ _ _ _ _ _ _ _ _ _=>eq_true (by show 16≤sizeLine; decide)
 have c1:∀s:SD,pM s (some (.lst [.bl false, .bl false, .bl false, .bl false, .bl false, .bl false, .bl false, .bl false, .bl false, .bl false, .bl false, .bl false, .bl true, .bl false, .bl false, .bl false])) (some (.bl true))= .ok (.d (.int 1)) s:=fun _=>rfl
 have c2:∀s:SD,ixdK s (some (.lst [.bl false, .bl false, .bl false, .bl false, .bl false, .bl false, .bl false, .bl false, .bl false, .bl false, .bl false, .bl false, .bl true, .bl false, .bl false, .bl false])) (some (.bl true))= .ok (.d (.int 12)) s:=fun _=>rfl
 have c3:∀s:SD,ixK s (some (.lst [.str "name", .str "twice", .str "many", .str "place", .str "itself", .str "room", .str "price", .str "tie", .str "line", .str "flow", .str "same", .str "none", .str "endless", .str "forever", .str "question", .str "deed"])) (some (.int 12))= .ok (.d (.str "endless")) s:=fun _=>bj rfl
 have d1:decide ((1:Int)=1)=true:=rfl
 simp! only [s8,s12,s16,c1,c2,c3,d1,h1,h2,h3,h4,h5,h6,h7,h8,h9,h10,h11,h12,h13,h14,h15,h16,h17,gA]
end
section
variable {s:SD} {S:Sto} {sl:List (Option Vl)} {x y z d0:D} {n l d j:Nat} {N:ND} {f:Int→Int} {is:List Int} {c:Str} {fs:List (Str×D)} {s1 s2 w:Str} {q:Int×TD} {ks:List (Key×D)} {kx:String} {k:Int}
def D7 (S:Sto) (N:ND) (x:D):Prop:=(∃kx,x.knd=some kx∧∀w,x= .str w→w∉N.names)∨∃i,x= .cell i∧S.get i=some (.dct [])
theorem Aj (hx:D7 S N x) (h:NetAt S n l d N):goF aG [.cell n,x] ⟨sl,S⟩= .ex "NoPlace" [("name",x)] ⟨sl,S⟩:=by
 have h1:=h.n
 have h2:=h.l
 refine lN ?_
 show Wp (bE ⟨[some (.d (.cell n)),some (.d x)],S⟩) _ _
 unfold bE
 rcases hx with ⟨kx,hx,hn⟩ | ⟨i,rfl,hi⟩
 ·cases x with
  | str w=>
   have h3:=fun s:SD=>nN (s:=s) (neg:=true) (rg (w:=w) (l:=N.names))
   rw [decide_eq_false (hn w rfl)] at h3
   dsimp! only [h1,h2,h3]
  | obj _ _=>cases hx
  | exc _ _=>cases hx
  | cell _=>cases hx
  | odd _=>cases hx
  | _=>dsimp! only [h1,h2]
 ·dsimp! only [h1,h2,hi]
theorem o_ends1 (hx:D7 S N x) (h:NetAt S n l d N):goF br [.cell n,x,y] ⟨sl,S⟩= .ex "NoPlace" [("name",x)] ⟨sl,S⟩:=by
 have k1:=fun sl=>Aj (sl:=sl) hx h
 have q1:=h.n
 refine lN ?_
 show Wp (bz ⟨[some (.d (.cell n)),some (.d x),some (.d y)],S⟩) _ _
 unfold bz
 dsimp! only [k1,q1]
theorem o_ends2 (h1:w∈N.names) (hx:D7 S N x) (h:NetAt S n l d N):goF br [.cell n, .str w,x] ⟨sl,S⟩= .ex "NoPlace" [("name",x)] ⟨sl,S⟩:=by
 have k1:=fun sl=>cg (sl:=sl) h h1
 have k2:=fun sl=>Aj (sl:=sl) hx h
 have q1:=h.n
 refine lN ?_
 show Wp (bz ⟨[some (.d (.cell n)),some (.d (.str w)),some (.d x)],S⟩) _ _
 unfold bz
 dsimp! only [k1,k2,q1]
theorem o_ends3 (h1:w∈N.names) (h:NetAt S n l d N):goF br [.cell n, .str w, .str w] ⟨sl,S⟩= .ex "SamePlace" [] ⟨sl,S⟩:=by
 have k1:=fun sl=>cg (sl:=sl) h h1
 have q1:=h.n
 have d0:decide (w=w)=true:=decide_eq_true rfl
 refine lN ?_
 show Wp (bz ⟨[some (.d (.cell n)),some (.d (.str w)),some (.d (.str w))],S⟩) _ _
 unfold bz
 dsimp! only [k1,q1,d0]
def noDct:D→Prop
 | .non=>True
 | .int _=>True
 | .str _=>True
 | .lst _=>True
 | _=>False
theorem f_kind (h:NetAt S n l d N) (hG:Good N) (hz:noDct z):goF aV [.cell n,z] ⟨sl,S⟩= .ex "BadFlow" [("number", .int 0)] ⟨sl,S⟩:=by
 have k1:=fun sl=>iU (sl:=sl) h hG.rise hG.tl
 have q1:=h.n
 refine lN ?_
 show Wp (aI ⟨[some (.d (.cell n)),some (.d z),none,none,none],S⟩) _ _
 unfold aI
 cases z with
 | non=>dsimp! only [k1,q1]
 | int _=>dsimp! only [k1,q1]
 | str _=>dsimp! only [k1,q1]
 | lst _=>dsimp! only [k1,q1]
 | _=>exact hz.elim
theorem ne_len {a b:Nat} (h:a≠b):∀s:SD,neK s (some (.int (a:Int))) (some (.int (b:Int)))= .ok (.d (.bl true)) s:=fun s=>by
 have e2:= @hX (a:Int) (b:Int)
 rw [decide_eq_false (by omega)] at e2
 unfold neK
 simp only [e2]
 rfl
theorem f_len (h:NetAt S n l d N) (hG:Good N) (hl:ks.length≠N.ties.length):goF aV [.cell n, .dct ks] ⟨sl,S⟩= .ex "BadFlow" [("number", .int 0)] ⟨sl,S⟩:=by
 have k1:=fun sl=>iU (sl:=sl) h hG.rise hG.tl
 have q1:=h.n
 have l2:(N.ties.map bB).length=N.ties.length:=List.length_map _
 have ee:=ne_len hl
 refine lN ?_
 show Wp (aI ⟨[some (.d (.cell n)),some (.d (.dct ks)),none,none,none],S⟩) _ _
 unfold aI
 dsimp! only [k1,q1,l2,ee]
theorem f_odd {m:Nat} (h:NetAt S n l d N) (hG:Good N) (hl:m≠N.ties.length):goF aV [.cell n, .odd m] ⟨sl,S⟩= .ex "BadFlow" [("number", .int 0)] ⟨sl,S⟩:=by
 have k1:=fun sl=>iU (sl:=sl) h hG.rise hG.tl
 have q1:=h.n
 have l2:(N.ties.map bB).length=N.ties.length:=List.length_map _
 have ee:=ne_len hl
 refine lN ?_
 show Wp (aI ⟨[some (.d (.cell n)),some (.d (.odd m)),none,none,none],S⟩) _ _
 unfold aI
 dsimp! only [k1,q1,l2,ee]
def dt (k:Int) (d0:D) (f:Int→Int) (is:List Int):List (Key×D):=is.map fun i=>(.inl i,if i=k then d0 else .int (f i))
theorem uf {i:Int} (h:i∈is):fS (dt k d0 f is) (.inl i)=some (if i=k then d0 else .int (f i)):=by
 induction is with
 | nil=>cases h
 | cons j is ih=>
  unfold dt fS at ih ⊢
  rw [List.map_cons]
  by_cases c:j=i
  ·subst c
   rw [List.find?_cons_of_pos (by simp)]
   rfl
  ·rw [List.find?_cons_of_neg (by simp [c])]
   exact ih (by rcases List.mem_cons.mp h with q | q; exact absurd q.symm c; exact q)
theorem kU:Wk.keys.ds (dt k d0 f is)=is.map D.int:=by
 show (dt k d0 f is).map (fun kv=>lX kv.1)=_
 unfold dt
 rw [List.map_map]
 rfl
theorem wA {v0 v2 v3:Option Vl} (hl:is.length≤1000):
  B9 1 (zSt 4) eU (ar bF [] (zA (aa 4) zA0)) [4] ⟨[v0,some (.d (.dct (dt k d0 f is))),v2,v3,none],S⟩= .ok (.own (.lst (is.map fun _=> .bl true))) ⟨[v0,some (.d (.dct (dt k d0 f is))),v2,v3,none],S⟩:=by
 have tn:∀(S:Sto) (d:D),d∈Wk.keys.ds (dt k d0 f is)→jB (zSt 4) eU (ar bF [] (zA (aa 4) zA0)) [4] ⟨[v0,some (.d (.dct (dt k d0 f is))),v2,v3,none],S⟩ (fun _=>true) (fun _=> .bl true) d:=fun S d hd=>by
  rw [kU] at hd
  obtain ⟨i,_,rfl⟩:=List.mem_map.mp hd
  have w1:=fun s:SD=>cP (s:=s) (x:= .int i) rfl
  unfold Z.jB
  dsimp! only [AQ,w1]
 rw [lcD_d (x:= .dct (dt k d0 f is)) rfl (by intro _ z; cases z)]
 dsimp! only []
 rw [lG (fun _=> .bl true) rfl Nl.d1 trivial (tn S) (by rw [kU,List.length_map]; exact Nat.le_trans hl (by decide))]
 rw [kU,List.map_map]
 rfl
theorem f_bad (h:NetAt S n l d N) (hG:Good N) (hp:is.Perm (N.ties.map (·.1))) (hf:eI N.ties f) (hq:q∈N.ties) (hb:∀s,goF bW [bB q,d0] s= .ok (.d (.bl false)) s):
  goF aV [.cell n, .dct (dt q.1 d0 f is)] ⟨sl,S⟩= .ex "BadFlow" [("number", .int q.1)] ⟨sl,S⟩:=by
 obtain ⟨j,hj,ej⟩:=List.getElem_of_mem hq
 have ej:N.ties[j]? =some q:=by rw [List.getElem?_eq_getElem hj,ej]
 have hlen:is.length=N.ties.length:=by rw [hp.length_eq,List.length_map]
 have k1:=fun sl=>iU (sl:=sl) h hG.rise hG.tl
 have q1:=h.n
 have tl:=hG.tl
 have l1:(dt q.1 d0 f is).length=is.length:=by unfold dt; rw [List.length_map]
 have l2:(N.ties.map bB).length=N.ties.length:=List.length_map _
 have lc1:=fun (v0 v2 v3:Option Vl)=>wA (S:=S) (k:=q.1) (d0:=d0) (f:=f) (is:=is) (v0:=v0) (v2:=v2) (v3:=v3) (by omega)
 have a1:=fun s:SD=>oG (s:=s) (ds:=is.map fun _=>D.bl true) (iE (fun _=>true) is)
 have t1:=mh is
 have a2:=fun s:SD=>oG (s:=s) (ds:=N.ties.map fun _=>D.bl true) (iE (fun _=>true) N.ties)
 have t2:=mh N.ties
 have e1:decide ((is.length:Int)=(N.ties.length:Int))=true:=decide_eq_true (by omega)
 have ee:∀s:SD,neK s (some (.int (is.length:Int))) (some (.int (N.ties.length:Int)))= .ok (.d (.bl false)) s:=fun s=>by
  have e2:= @hX (is.length:Int) (N.ties.length:Int)
  rw [e1] at e2
  unfold neK
  simp only [e2]
  rfl
 have lc2:∀v4:Option Vl,lcK (zSt 3) eU (z2 (oIn false) (z1 (bg ["Tie"] "number") (aa 3)) (aa 1)) [3] ⟨[.d (.lst (N.ties.map bB))],fun _=>True,N.ties.map bB⟩ ⟨[some (.d (.cell n)),some (.d (.dct (dt q.1 d0 f is))),some (.d (.lst (N.ties.map bB))),none,v4],S⟩= .ok (.own (.lst (N.ties.map fun _=> .bl true))) ⟨[some (.d (.cell n)),some (.d (.dct (dt q.1 d0 f is))),some (.d (.lst (N.ties.map bB))),none,v4],S⟩:=fun v4=>by
  rw [lG (fun _=> .bl true) rfl Nl.d1 trivial (fun d hd=>?_) (by rw [l2]; exact Nat.le_trans tl (by decide)),List.map_map]
  ·rfl
  ·obtain ⟨p,hp2,rfl⟩:=List.mem_map.mp hd
   have mi:p.1∈is:=hp.mem_iff.mpr (List.mem_map.mpr ⟨p,hp2,rfl⟩)
   have i1:∀s:SD,inK false s (some (.int p.1)) (some (.dct (dt q.1 d0 f is)))= .ok (.d (.bl true)) s:=fun s=>nN (neg:=false) (r:=true) (by
    show some (fS (dt q.1 d0 f is) (.inl p.1)).isSome=some true
    rw [uf mi]; rfl)
   unfold Z.jB
   dsimp! only [cY,i1]
 refine lN ?_
 show Wp (aI ⟨[some (.d (.cell n)),some (.d (.dct (dt q.1 d0 f is))),none,none,none],S⟩) _ _
 unfold aI
 dsimp! only [k1,q1,lc1,a1,t1,a2,t2,l1,l2,ee,lc2]
 refine iM (fun i s=>i≤j∧∃v3,s=⟨[some (.d (.cell n)),some (.d (.dct (dt q.1 d0 f is))),some (.d (.lst (N.ties.map bB))),v3,none],S⟩) Nl.d1 (fun _ _ _=>trivial) ⟨Nat.zero_le _,none,rfl⟩ (fun i y s e hI=>?_) (fun s hI=>?_)
 ·obtain ⟨hij,v3,rfl⟩:=hI
  have e:(N.ties.map bB)[i]? =some y:=e
  rw [List.getElem?_map] at e
  obtain ⟨p,ep,rfl⟩:=Option.map_eq_some_iff.mp e
  have mi:p.1∈is:=hp.mem_iff.mpr (List.mem_map.mpr ⟨p,List.mem_of_getElem? ep,rfl⟩)
  have i1:∀s:SD,ixK s (some (.dct (dt q.1 d0 f is))) (some (.int p.1))= .ok (.d (if p.1=q.1 then d0 else .int (f p.1))) s:=fun s=>bj (uf mi)
  by_cases c:i=j
  ·subst c
   rw [ej] at ep
   cases ep
   rw [if_pos rfl] at i1
   dsimp! only [cY,i1,hb]
  ·have ne:p.1≠q.1:=fun e2=>by
    have hi:=(List.getElem?_eq_some_iff.mp ep)
    obtain ⟨hi1,hi2⟩:=hi
    have hj2:N.ties[j]=q:=(List.getElem?_eq_some_iff.mp ej).2
    have:=List.pairwise_iff_getElem.mp hG.rise i j (by rw [List.length_map]; exact hi1) (by rw [List.length_map]; exact hj) (by omega)
    rw [List.getElem_map,List.getElem_map,hi2,hj2,e2] at this
    omega
   rw [if_neg ne] at i1
   have am:=fun s:SD=>nQ (s:=s) (hf p (List.mem_of_getElem? ep)).1 (hf p (List.mem_of_getElem? ep)).2
   dsimp! only [cY,i1,am]
   exact ⟨by omega,_,rfl⟩
 ·obtain ⟨hij,v3,rfl⟩:=hI
  have h2:(N.ties.map bB).length≤j:=hij
  rw [l2] at h2
  omega
theorem a_kind (hx:d0.knd=some kx) (hw:AQ d0=false):∀s,goF bW [bB q,d0] s= .ok (.d (.bl false)) s:=fun s=>by
 have w1:=fun s:SD=>cP (s:=s) hx
 rw [hw] at w1
 refine oV ?_
 show Wp (bA ⟨[some (.d (bB q)),some (.d d0)],s.st⟩) _ _
 unfold bA
 dsimp! only [w1]
theorem a_less {a:Int} (h0:a<q.2.least):∀s,goF bW [bB q, .int a] s= .ok (.d (.bl false)) s:=fun s=>by
 refine oV ?_
 show Wp (bA ⟨[some (.d (bB q)),some (.d (.int a))],s.st⟩) _ _
 unfold bA
 have w1:=fun s:SD=>cP (s:=s) (x:= .int a) rfl
 have d0:decide (q.2.least≤a)=false:=decide_eq_false (by omega)
 obtain ⟨i,ta,he,le,mo,pr⟩:=q
 dsimp! only [cY,AQ,w1,d0]
theorem a_more {a m:Int} (h0:q.2.least≤a) (hm:q.2.most=some m) (h1:m<a):∀s,goF bW [bB q, .int a] s= .ok (.d (.bl false)) s:=fun s=>by
 refine oV ?_
 show Wp (bA ⟨[some (.d (bB q)),some (.d (.int a))],s.st⟩) _ _
 unfold bA
 have w1:=fun s:SD=>cP (s:=s) (x:= .int a) rfl
 have d0:=decide_eq_true h0
 obtain ⟨i,ta,he,le,mo,pr⟩:=q
 cases hm
 have d1:decide (a≤m)=false:=decide_eq_false (by omega)
 dsimp! only [cY,ef,AQ,w1,d0,d1]
theorem zL (h:NetAt S n l d N) (e:∀sl,goF br [.cell n,x,y] ⟨sl,S⟩= .ex c fs ⟨sl,S⟩) {z:D}:goF bp [.cell n,z,x,y] ⟨sl,S⟩= .ex c fs ⟨sl,S⟩:=by
 have q1:=h.n
 refine lN ?_
 show Wp (cJ ⟨[some (.d (.cell n)),some (.d z),some (.d x),some (.d y),none,none,none,none,none,none,none,none,none,none,none],S⟩) _ _
 unfold cJ
 simp! only [q1,e]
theorem r_flow (h:NetAt S n l d N) (h1:s1∈N.names) (h2:s2∈N.names) (h3:s1≠s2) (e:∀sl,goF aV [.cell n,z] ⟨sl,S⟩= .ex c fs ⟨sl,S⟩):goF bp [.cell n,z, .str s1, .str s2] ⟨sl,S⟩= .ex c fs ⟨sl,S⟩:=by
 have k3:=fun sl=>dW (sl:=sl) h h1 h2 h3
 have q1:=h.n
 refine lN ?_
 show Wp (cJ ⟨[some (.d (.cell n)),some (.d z),some (.d (.str s1)),some (.d (.str s2)),none,none,none,none,none,none,none,none,none,none,none],S⟩) _ _
 unfold cJ
 simp! only [k3,q1,e]
theorem r_car (h:NetAt S n l d N) (hG:Good N) (hx:Hand S x (ao f is)) (hp:is.Perm (N.ties.map (·.1))) (hf:eI N.ties f) (h1:s1∈N.names) (h2:s2∈N.names) (h3:s1≠s2) (hc:DU (sp f N.ties) s1 s2 N.names= .non):
  goF bp [.cell n,x, .str s1, .str s2] ⟨sl,S⟩= .ex "BadFlow" [("number", .int 0)] ⟨sl,S⟩:=by
 have k3:=fun sl=>dW (sl:=sl) h h1 h2 h3
 have k2:=fun sl=>fQ (sl:=sl) h hG hx hp hf
 have k4:=fun sl=>eE (sl:=sl) h hG hx hp hf h1 h2 h3
 rw [hc] at k4
 have q1:=h.n
 refine lN ?_
 show Wp (cJ ⟨[some (.d (.cell n)),some (.d x),some (.d (.str s1)),some (.d (.str s2)),none,none,none,none,none,none,none,none,none,none,none],S⟩) _ _
 unfold cJ
 simp! only [k3,q1,k2,k4]
end
section
variable {S S' :Sto} {x1 x2 x3 x4 y X Y:D} {c w:Str} {fs:List (Str×D)} {v:Int}
theorem xQ:dI (sY X v Y) "amount" =some (.int v):=rfl
theorem yY {c:Str} {fs:List (Str×D)} {neg:Bool}:∀s:SD,gu neg (.d (.exc c fs)) (.d .non) s= .ok (.d (.bl neg)) s:=fun _=>rfl
theorem ud (e:∀sl,goF bp [x1,x2,x3,x4] ⟨sl,S⟩= .ok (.d (.obj "Raised" (sY X v Y))) ⟨sl,S'⟩) (hv:0≤v):∀sl,goF cy [x1,x2,x3,x4] ⟨sl,S⟩= .ok (.d (.tup [.str "good", .bl true])) ⟨sl,S'⟩:=fun sl=>by
 have am:∀s:SD,fldK ["Raised"] "amount" s (some (.obj "Raised" (sY X v Y)))= .ok (.d (.int v)) s:=fun s=>au xQ
 have d1:decide (v≥0)=true:=decide_eq_true hv
 refine dY ?_
 show Wp (gh ⟨[some (.d x1),some (.d x2),some (.d x3),some (.d x4),none,none,none,none],S⟩) _ _
 unfold gh
 simp! only []
 rw [ae]
 refine CC ?_
 simp! only [e,am,d1]
theorem ub (e:∀sl,goF bp [x1,x2,x3,x4] ⟨sl,S⟩= .ex c fs ⟨sl,S'⟩) (tk:pick tk_FlowError c=some true) (hw:∀sl S,goF fE [.exc c fs] ⟨sl,S⟩= .ok (.d (.str w)) ⟨sl,S⟩) (h1:w≠ "place") (h2:w≠ "flow"):∀sl,goF cy [x1,x2,x3,x4] ⟨sl,S⟩= .ok (.d (.tup [.str w, .non])) ⟨sl,S'⟩:=fun sl=>by
 have d1:decide (w=Str.ofString "place")=false:=decide_eq_false h1
 have d2:decide (w=Str.ofString "flow")=false:=decide_eq_false h2
 refine dY ?_
 show Wp (gh ⟨[some (.d x1),some (.d x2),some (.d x3),some (.d x4),none,none,none,none],S⟩) _ _
 unfold gh
 simp! only []
 rw [ae]
 refine CC ?_
 simp! only [e,yY,hw,d1,d2]
 exact .inl tk
theorem jR (e:∀sl,goF bp [x1,x2,x3,x4] ⟨sl,S⟩= .ex "NoPlace" [("name",y)] ⟨sl,S'⟩):∀sl,goF cy [x1,x2,x3,x4] ⟨sl,S⟩= .ok (.d (.tup [.str "place",y])) ⟨sl,S'⟩:=fun sl=>by
 have tk:pick tk_FlowError "NoPlace" =some true:=rfl
 have hw:=fun sl S=>oX (fs:= [("name",y)]) (sl:=sl) (S:=S)
 have d1:decide ((Str.ofString "place")=Str.ofString "place")=true:=decide_eq_true rfl
 have xf:∀s:SD,xfK (tm xf_name) "name" s (some (.exc "NoPlace" [("name",y)]))= .ok (.d y) s:=fun s=>xfK_ok rfl rfl
 refine dY ?_
 show Wp (gh ⟨[some (.d x1),some (.d x2),some (.d x3),some (.d x4),none,none,none,none],S⟩) _ _
 unfold gh
 simp! only []
 rw [ae]
 refine CC ?_
 simp! only [e,yY,hw,d1,w_xf,xf]
 exact .inl tk
theorem lI (e:∀sl,goF bp [x1,x2,x3,x4] ⟨sl,S⟩= .ex "BadFlow" [("number",y)] ⟨sl,S'⟩):∀sl,goF cy [x1,x2,x3,x4] ⟨sl,S⟩= .ok (.d (.tup [.str "flow",y])) ⟨sl,S'⟩:=fun sl=>by
 have tk:pick tk_FlowError "BadFlow" =some true:=rfl
 have hw:=fun sl S=>rq (fs:= [("number",y)]) (sl:=sl) (S:=S)
 have d1:decide ((Str.ofString "flow")=Str.ofString "place")=false:=by decide
 have d2:decide ((Str.ofString "flow")=Str.ofString "flow")=true:=decide_eq_true rfl
 have xf:∀s:SD,xfK (tm xf_number) "number" s (some (.exc "BadFlow" [("number",y)]))= .ok (.d y) s:=fun s=>xfK_ok rfl rfl
 refine dY ?_
 show Wp (gh ⟨[some (.d x1),some (.d x2),some (.d x3),some (.d x4),none,none,none,none],S⟩) _ _
 unfold gh
 simp! only []
 rw [ae]
 refine CC ?_
 simp! only [e,yY,hw,d1,d2,w_xf,xf]
 exact .inl tk
theorem uc (e:∀sl,goF bp [x1,x2,x3,x4] ⟨sl,S⟩= .ex "SamePlace" fs ⟨sl,S'⟩):∀sl,goF cy [x1,x2,x3,x4] ⟨sl,S⟩= .ok (.d (.tup [.str "same", .non])) ⟨sl,S'⟩:=
 ub e rfl (fun _ _=>rp) (by decide) (by decide)
theorem nS (e:∀sl,goF bp [x1,x2,x3,x4] ⟨sl,S⟩= .ex "Endless" fs ⟨sl,S'⟩):∀sl,goF cy [x1,x2,x3,x4] ⟨sl,S⟩= .ok (.d (.tup [.str "endless", .non])) ⟨sl,S'⟩:=
 ub e rfl (fun _ _=>lO) (by decide) (by decide)
end
open Rs (As tw hd tl rm iT Ro roA roR lo up wan ro0 RoOk foR EndR Raisd FlOk)
abbrev iL (k:Nat):Int:=((k+1:Nat):Int)
def r5 (ro:Ro):List (Key×D):= [(.inr "tail", .int (ro.t:Int)),(.inr "head", .int (ro.h:Int)),(.inr "least", .int ro.l),(.inr "most",rD ro.u),(.inr "price", .int 0)]
def r6 (k:Nat) (ro:Ro):List (Key×D):=r5 ro++ [(.inr "number", .int ((k+1:Nat):Int))]
section
variable {a b:Vl} {S:Sto} {sl:List (Option Vl)} {x:D} {m l d s k:Nat} {ro:Ro}
theorem r6_C:RowC (r6 k ro) ((k+1:Nat):Int) ro:=⟨⟨⟨rfl,rfl,rfl⟩,rfl,rfl⟩,rfl⟩
theorem pickR {a b c:Int} (ha:0≤a∧a≤M60) (hb:0≤b∧b≤M60) (hc:0≤c∧c≤M60) (j:Int):∃u:Option Int,(∀x,u=some x→0≤x∧x≤M60)∧dIx (.lst [.int a, .int b, .int c, .int M60, .int 0, .non]) (.int (j%6))=some (rD u):=by
 have hM:(0:Int)≤M60:=by decide
 rcases (show j%6=0∨j%6=1∨j%6=2∨j%6=3∨j%6=4∨j%6=5 by omega) with q | q | q | q | q | q<;> rw [q]
 ·exact ⟨some a,fun x h=>(by cases h; exact ha),rfl⟩
 ·exact ⟨some b,fun x h=>(by cases h; exact hb),rfl⟩
 ·exact ⟨some c,fun x h=>(by cases h; exact hc),rfl⟩
 ·exact ⟨some M60,fun x h=>(by cases h; exact ⟨hM,Int.le_refl _⟩),rfl⟩
 ·exact ⟨some 0,fun x h=>(by cases h; exact ⟨Int.le_refl _,hM⟩),rfl⟩
 ·exact ⟨none,fun x h=>(by cases h),rfl⟩
theorem cp30:sx 10 30=True:=eq_true ⟨by decide,by decide⟩
theorem pow30:(10:Int) ^ (30:Int).toNat=1000000000000000000000000000000:=by decide+kernel
theorem g_Lroom (ns:List Int) (k:Int) (h0:0≤k) (h1:k≤1000) (i:Int):∃u:Option Int,(∀x,u=some x→0≤x∧x≤M60)∧∀s:SD,goF uI [.con (ns.map .int), .int k, .int i] s= .ok (.d (.tup [.int 0,rD u])) s:=by
 have hM:M60=1000000000000000000000000000000000000000000000000000000000000:=rfl
 obtain ⟨g,g0,g1,eg⟩:=DF ns k h0 h1
 obtain ⟨u,hu,ev⟩:=pickR (a:=i / 9%8) (b:=i / 9%3) (c:=g) ⟨by omega,by omega⟩ ⟨by omega,by omega⟩ ⟨g0,by omega⟩ i
 have ev2:=fun s:SD=>bj (s:=s) ev
 have y9:CDivW i 9=True:=eq_true (aw (by decide) (by decide))
 have y100:CDivW i 100=True:=eq_true (aw (by decide) (by decide))
 have y30:CDivW g 1000000000000000000000000000000=True:=eq_true (aw (by decide) (by decide))
 have b1:((0:Int)<8)=True:=by decide
 have b2:((0:Int)<3)=True:=by decide
 have b3:((0:Int)<9)=True:=by decide
 have b4:((0:Int)<6)=True:=by decide
 by_cases c1:i / 100%9=1
 ·have d1:decide (i / 100%9=1)=true:=decide_eq_true c1
  refine ⟨some (g / 1000000000000000000000000000000),fun x h=>by cases h; omega,fun s=>oV ?_⟩
  show Wp (oz ⟨[some (.d (.con (ns.map .int))),some (.d (.int k)),some (.d (.int i)),none],s.st⟩) _ _
  unfold oz
  simp! only [eg,y9,y100,y30,b1,b2,b3,b4,cp60,pow60,cp30,pow30,ev2,d1]
  rfl
 ·have d1:decide (i / 100%9=1)=false:=decide_eq_false c1
  refine ⟨u,hu,fun s=>oV ?_⟩
  show Wp (oz ⟨[some (.d (.con (ns.map .int))),some (.d (.int k)),some (.d (.int i)),none],s.st⟩) _ _
  unfold oz
  simp! only [eg,y9,y100,y30,b1,b2,b3,b4,cp60,pow60,cp30,pow30,ev2,d1]
theorem g_Lrow (ns:List Int) {k:Nat} (hk:k≤100) (h2:2≤m):∃ro:Ro,RoIn ro m∧ro.l=0∧∀(sl:List (Option Vl)) (S:Sto),goF sF [.con (ns.map .int), .int (k:Int), .int (m:Int)] ⟨sl,S⟩= .ok (.d (.cell S.nx)) ⟨sl,S.new (.dct (r5 ro))⟩:=by
 obtain ⟨i,i0,i1,en⟩:=jS ns (k:Int) (by omega) (by omega)
 obtain ⟨i,rfl⟩:=Int.eq_ofNat_of_zero_le i0
 obtain ⟨u,hu,er⟩:=g_Lroom ns (k:Int) (by omega) (by omega) ((i:Int) / 1000)
 obtain ⟨a,ha⟩:∃a,a=i / 7%m:=⟨_,rfl⟩
 obtain ⟨b,hb⟩:∃b,b=(a+1+i / 100%(m - 1))%m:=⟨_,rfl⟩
 have a1:a<m:=by rw [ha]; exact Nat.mod_lt _ (by omega)
 have b1:b<m:=by rw [hb]; exact Nat.mod_lt _ (by omega)
 have ab:a≠b:=fun e=>by
  have hq:=Nat.mod_lt (i / 100) (show 0<m - 1 by omega)
  rw [hb] at e
  generalize i / 100%(m - 1)=u at e hq
  by_cases q:a+1+u<m
  ·rw [Nat.mod_eq_of_lt q] at e; omega
  ·rw [Nat.mod_eq_sub_mod (by omega),Nat.mod_eq_of_lt (by omega)] at e; omega
 have bm:(0<(m:Int))=True:=eq_true (by omega)
 have bm1:(0<((m - 1:Nat):Int))=True:=eq_true (by omega)
 have em:(m:Int) - 1=((m - 1:Nat):Int):=by omega
 have ea:(i:Int) / 7%(m:Int)=(a:Int):=by rw [ha]; rfl
 have eb:((a:Int)+1+(i:Int) / 100%((m - 1:Nat):Int))%(m:Int)=(b:Int):=by rw [hb]; rfl
 have y7:CDivW (i:Int) 7=True:=eq_true (aw (by decide) (by decide))
 have y100:CDivW (i:Int) 100=True:=eq_true (aw (by decide) (by decide))
 have y1:CDivW (i:Int) 1000=True:=eq_true (aw (by decide) (by decide))
 have dm:∀a b c d e:D,bU [(.inr "tail",a),(.inr "head",b),(.inr "least",c),(.inr "most",d),(.inr "price",e)]= [(.inr "tail",a),(.inr "head",b),(.inr "least",c),(.inr "most",d),(.inr "price",e)]:=fun _ _ _ _ _=>rfl
 have l5:∀a b c d e:Key×D,([a,b,c,d,e].length≤15)=True:=fun _ _ _ _ _=>eq_true (by show 5≤15; decide)
 refine ⟨⟨a,b,0,u⟩,⟨⟨a1,b1,ab,fun x h=>(hu x h).1⟩,Int.le_refl 0,by show (0:Int)≤M60; decide,fun x h=>(hu x h).2⟩,rfl,fun sl S=>dY ?_⟩
 show Wp (BV ⟨[some (.d (.con (ns.map .int))),some (.d (.int (k:Int))),some (.d (.int (m:Int))),none,none,none,none,none],S⟩) _ _
 unfold BV
 simp! only [en,er,y7,y100,y1,bm,bm1,em,ea,eb,dm,l5]
 rfl
end
end T

set_option maxHeartbeats 4000000
namespace T
open PySem PySem.Spec PyProof.Rows L2 M Z A
open Classical
open Rs (As Ro ro0 RoOk)
theorem DN {ks:List (Key×D)} {k:Key} {v:D} (h:∀q∈ks,q.1≠k):jt ks k v=ks++ [(k,v)]:=by
 unfold jt
 rw [if_neg fun c=>?_]
 obtain ⟨q,hq,e⟩:=List.any_eq_true.mp c
 exact h q hq (of_decide_eq_true e)
theorem oe {is:List Int} {f:Int→Int} {k:Key} {v:D} (nd:is.Nodup) (h:∀i∈is,(Sum.inl i:Key)≠k):(bU (ao f is++ [(k,v)])).length=is.length+1:=by
 have e:bU (ao f is++ [(k,v)])=jt (bU (ao f is)) k v:=by
  unfold bU
  rw [List.foldl_append]
  rfl
 rw [e,og nd,DN fun q hq=>?_,List.length_append,cH]
 ·rfl
 ·obtain ⟨i,hi,rfl⟩:=List.mem_map.mp hq
  exact h i hi
theorem kO {f:Int→Int} {k:Key} {z v:D} (hk:z.key=some k):∀is:List Int,kP (is.map (fun i=> .tup [.int i, .int (f i)])++ [.tup [z,v]])=some (ao f is++ [(k,v)])
 | []=>by
  show kP [.tup [z,v]]=some [(k,v)]
  unfold kP kP
  simp only [hk]
 | i::is=>by
  rw [List.map_cons,List.cons_append,kP,kO hk is]
  rfl
theorem nf {f:Int→Int}:∀is:List Int,lD (is.map (fun i=> .tup [.int i, .int (f i)])++ [.tup [.non, .int 1]])=some (is.map some++ [none])
 | []=>rfl
 | i::is=>by
  rw [List.map_cons,List.cons_append,lD,nf is]
  rfl
theorem some_nd {is:List Int} (h:is.Nodup):(is.map some++ [none]).Nodup:=by
 rw [List.nodup_append]
 refine ⟨List.Pairwise.map _ (fun a b (hab:a≠b) e=>hab (Option.some.inj e)) h,by simp,fun a ha b hb e=>?_⟩
 obtain ⟨i,_,rfl⟩:=List.mem_map.mp ha
 rw [List.mem_singleton.mp hb] at e
 cases e
def F0:Int→Int:=fun _=>0
def BadAm (ro:Ro) (d0:D):Prop:=(∃kx,d0.knd=some kx∧AQ d0=false)∨d0= .int (-1)∨∃m,ro.u=some m∧d0= .int (m+1)
inductive Bent (rows:List Ro):D→Int→Prop
 | kind {h:D}:noDct h→Bent rows h 0
 | len {ks:List (Key×D)}:ks.length≠rows.length→Bent rows (.dct ks) 0
 | odd {m:Nat}:m≠rows.length→Bent rows (.odd m) 0
 | am {k:Nat} {d0:D}:k<rows.length→BadAm (rows.getD k ro0) d0→Bent rows (.dct (dt (iL k) d0 F0 (numL rows.length))) (iL k)
section
variable {s:SD} {S:Sto} {sl:List (Option Vl)} {x y:D} {fc:Nat} {rows:List Ro} {ids:List Nat} {i:Int} {is:List Int} {f:Int→Int}
theorem xZ {i:Nat} {ks:List (Key×D)} (h:S.get i=some (.dct ks)):∀sl,gU (.d (.cell i)) ⟨sl,S⟩= .ok (.own (.lst (ks.map fun kv=> .tup [lX kv.1,kv.2]))) ⟨sl,S⟩:=fun sl=>by
 unfold gU
 simp only [h]
theorem xY {i:Nat} (h:S.get i=some (.dct (ao f is))):∀sl,gU (.d (.cell i)) ⟨sl,S⟩= .ok (.own (.lst (is.map fun i=> .tup [.int i, .int (f i)]))) ⟨sl,S⟩:=fun sl=>by
 rw [xZ h]
 unfold ao
 rw [List.map_map]
 rfl
theorem Be {k:Int} {d0:D} (h:k∈is):jt (ao f is) (.inl k) d0=dt k d0 f is:=by
 unfold jt
 rw [if_pos]
 ·unfold ao dt
  rw [List.map_map]
  refine List.map_congr_left fun j hj=>?_
  by_cases c:j=k
  ·subst c
   show (if (Sum.inl j:Key)= .inl j then _ else _)=_
   rw [if_pos rfl,if_pos rfl]
  ·show (if (Sum.inl j:Key)= .inl k then _ else _)=_
   rw [if_neg (fun e=>c (Sum.inl.inj e)),if_neg c]
 ·exact List.any_eq_true.mpr ⟨(.inl k, .int (f k)),List.mem_map.mpr ⟨k,h,rfl⟩,decide_eq_true rfl⟩
theorem pick7 {a b c d e g h:D} (j:Int):∃z,(z=a∨z=b∨z=c∨z=d∨z=e∨z=g∨z=h)∧dIx (.lst [a,b,c,d,e,g,h]) (.int (j%7))=some z:=by
 rcases (show j%7=0∨j%7=1∨j%7=2∨j%7=3∨j%7=4∨j%7=5∨j%7=6 by omega) with q | q | q | q | q | q | q<;> rw [q]
 ·exact ⟨a, .inl rfl,rfl⟩
 ·exact ⟨b, .inr (.inl rfl),rfl⟩
 ·exact ⟨c, .inr (.inr (.inl rfl)),rfl⟩
 ·exact ⟨d, .inr (.inr (.inr (.inl rfl))),rfl⟩
 ·exact ⟨e, .inr (.inr (.inr (.inr (.inl rfl)))),rfl⟩
 ·exact ⟨g, .inr (.inr (.inr (.inr (.inr (.inl rfl))))),rfl⟩
 ·exact ⟨h, .inr (.inr (.inr (.inr (.inr (.inr rfl))))),rfl⟩
theorem pick6 {a b c d e g:D} (j:Int):∃z,(z=a∨z=b∨z=c∨z=d∨z=e∨z=g)∧dIx (.lst [a,b,c,d,e,g]) (.int (j%6))=some z:=by
 rcases (show j%6=0∨j%6=1∨j%6=2∨j%6=3∨j%6=4∨j%6=5 by omega) with q | q | q | q | q | q<;> rw [q]
 ·exact ⟨a, .inl rfl,rfl⟩
 ·exact ⟨b, .inr (.inl rfl),rfl⟩
 ·exact ⟨c, .inr (.inr (.inl rfl)),rfl⟩
 ·exact ⟨d, .inr (.inr (.inr (.inl rfl))),rfl⟩
 ·exact ⟨e, .inr (.inr (.inr (.inr (.inl rfl)))),rfl⟩
 ·exact ⟨g, .inr (.inr (.inr (.inr (.inr rfl)))),rfl⟩
theorem but_len {k:Int} (nd:is.Nodup) (h:k∈is):(is.filter fun j=>decide (j≠k)).length≠is.length:=fun e=>by
 have hl:(is.filter fun j=>decide (j≠k)).length<is.length:=List.length_filter_lt_length_iff_exists.mpr ⟨k,h,by simp⟩
 omega
theorem g_Lbent (HL:HandL S x (ids.map .cell)) (HR:RowsB S ids iL rows) (cf:S.get fc=some (.dct (ao F0 (numL rows.length)))) (hz:rows.length≤20) (i:Int):
  ∃h num,Bent rows h num∧∀sl,goF qb [x, .cell fc, .int i] ⟨sl,S⟩= .ok (.d (.tup [h, .int num])) ⟨sl,S⟩:=by
 obtain ⟨R,hR⟩:∃R,R=rows.length:=⟨_,rfl⟩
 rw [←hR] at cf hz
 have nd:=Ar R
 have ll:=numL_len R
 have k0:((ao F0 (numL R)).map fun kv=>lX kv.1)=(numL R).map D.int:=by unfold ao; rw [List.map_map]; rfl
 have k1:∀s:SD,xX s (some (.dct (ao F0 (numL R))))= .ok (.own (.lst ((numL R).map .int))) s:=fun s=>by rw [jO,k0]
 have it:=xY cf
 have l1:∀z v:D,(((numL R).map fun i=>D.tup [.int i, .int (F0 i)]).length+ [D.tup [z,v]].length≤sizeLine)=True:=fun z v=>eq_true (by
  rw [List.length_map,ll,sizeLine_eq]
  show R+1≤_
  omega)
 have d1:∀s:SD,um s (some (.lst (((numL R).map fun i=>D.tup [.int i, .int (F0 i)])++ [.tup [.int 99, .int 0]])))= .ok (.own (.dct (bU (ao F0 (numL R)++ [(.inl 99, .int 0)])))) s:=fun s=>kX (kO rfl _)
 have d2:∀s:SD,um s (some (.lst (((numL R).map fun i=>D.tup [.int i, .int (F0 i)])++ [.tup [.str "1", .int 0]])))= .ok (.own (.dct (bU (ao F0 (numL R)++ [(.inr "1", .int 0)])))) s:=fun s=>kX (kO rfl _)
 have d3:∀s:SD,uk s (some (.lst (((numL R).map fun i=>D.tup [.int i, .int (F0 i)])++ [.tup [.non, .int 1]])))= .ok (.d (.odd (R+1))) s:=fun s=>by
  rw [BD (nf _) (some_nd nd),List.length_append,List.length_map,ll]
  rfl
 have m1:(bU (ao F0 (numL R)++ [(.inl 99, .int 0)])).length≠R:=by
  rw [oe nd,ll]
  ·omega
  ·intro j hj e
   have e:=Sum.inl.inj e
   obtain ⟨k,hk,rfl⟩:=List.mem_map.mp hj
   have hk:=List.mem_range.mp hk
   omega
 have m2:(bU (ao F0 (numL R)++ [(.inr "1", .int 0)])).length≠R:=by
  rw [oe nd,ll]
  ·omega
  ·intro j hj e
   cases e
 generalize bU (ao F0 (numL R)++ [(.inl 99, .int 0)])=A1 at d1 m1
 generalize bU (ao F0 (numL R)++ [(.inr "1", .int 0)])=A2 at d2 m2
 have s7:∀a b c d e g h:D,([a,b,c,d,e,g].length+ [h].length≤sizeLine)=True:=fun _ _ _ _ _ _ _=>eq_true (by show 7≤sizeLine; decide)
 have n3:((0:Int)<3)=True:=by decide
 have l7:∀a b c d e g h:D,((([a,b,c,d,e,g,h]:List D).length:Nat):Int)=7:=fun _ _ _ _ _ _ _=>rfl
 have n7' :((0:Int)<7)=True:=by decide
 have v3:∀j:Int,CDivW j 3=True:=fun j=>eq_true (aw (by decide) (by decide))
 have v100:∀j:Int,CDivW j 100=True:=fun j=>eq_true (aw (by decide) (by decide))
 have a7:∀a b c d e g h:D,[a,b,c,d,e,g]++ [h]= [a,b,c,d,e,g,h]:=fun _ _ _ _ _ _ _=>rfl
 have em:((numL R).map D.int).isEmpty=decide (R=0):=by
  by_cases c:R=0
  ·rw [decide_eq_true c]
   subst c
   rfl
  ·rw [decide_eq_false c]
   cases h:numL R with
   | nil=>rw [h] at ll; exact absurd ll.symm c
   | cons=>rfl
 have ez:∀s:SD,eqK s (some (.lst ((numL R).map .int))) (some (.lst []))= .ok (.d (.bl (decide (R=0)))) s:=fun s=>by
  have:dEq (.lst ((numL R).map D.int)) (.lst [])=some (decide (R=0)):=by
   rw [←em]
   rfl
  unfold eqK
  simp only [this]
 by_cases c0:R=0∨i%3=0
 ·obtain ⟨z,hz2,ez2⟩:=pick7 (a:= .non) (b:= .lst [.cell fc]) (c:= .str "flow") (d:= .int 5) (e:= .dct A1) (g:= .dct A2) (h:= .odd (R+1)) (i / 3)
  have ez3:=fun s:SD=>bj (s:=s) ez2
  refine ⟨z,0, ?_,fun sl=>dY ?_⟩
  ·rcases hz2 with rfl | rfl | rfl | rfl | rfl | rfl | rfl
   ·exact .kind trivial
   ·exact .kind trivial
   ·exact .kind trivial
   ·exact .kind trivial
   ·exact .len (by rw [←hR]; exact m1)
   ·exact .len (by rw [←hR]; exact m2)
   ·exact .odd (by omega)
  ·show Wp (gk ⟨[some (.d x),some (.d (.cell fc)),some (.d (.int i)),none,none,none,none,none,none,none],S⟩) _ _
   unfold gk
   by_cases c1:R=0
   ·have q1:decide (R=0)=true:=decide_eq_true c1
    simp! only [cf,k1,it,l1,d1,d2,d3,s7,ez,q1,v3,n3,a7,l7,n7',ez3]
   ·have q1:decide (R=0)=false:=decide_eq_false c1
    have q2:decide (i%3=0)=true:=decide_eq_true (by omega)
    simp! only [cf,k1,it,l1,d1,d2,d3,s7,ez,q1,q2,v3,n3,a7,l7,n7',ez3]
 ·have c1:R≠0:=fun e=>c0 (.inl e)
  have c2:i%3≠0:=fun e=>c0 (.inr e)
  have q1:decide (R=0)=false:=decide_eq_false c1
  have q2:decide (i%3=0)=false:=decide_eq_false c2
  have lk:((((numL R).map D.int).length:Nat):Int)=(R:Int):=by rw [List.length_map,ll]
  have nR:((0:Int)<(R:Int))=True:=eq_true (by omega)
  obtain ⟨k,hk,ek⟩:∃k:Nat,k<R∧(i / 3%(R:Int))=(k:Int):=by
   have h1:=Int.emod_nonneg (i / 3) (show (R:Int)≠0 by omega)
   have h2:=Int.emod_lt_of_pos (i / 3) (show (0:Int)<R by omega)
   exact ⟨(i / 3%(R:Int)).toNat,by omega,by omega⟩
  have mk:=wY hk
  have ik:∀s:SD,ixK s (some (.lst ((numL R).map .int))) (some (.int (k:Int)))= .ok (.d (.int (iL k))) s:=fun s=>by
   have e:(numL R)[k]? =some (iL k):=by unfold numL; rw [List.getElem?_map,List.getElem?_range hk]; rfl
   exact ixL (f:=D.int) e
  by_cases c3:i%3=1
  ·have q3:decide (i%3=1)=true:=decide_eq_true c3
   have pf:=pE (f:=F0) ((numL R).filter fun j=>decide (j≠iL k))
   have df:∀s:SD,um s (some (.lst (((numL R).filter fun j=>decide (j≠iL k)).map fun i=>D.tup [.int i, .int (F0 i)])))= .ok (.own (.dct (ao F0 ((numL R).filter fun j=>decide (j≠iL k))))) s:=fun s=>by
    rw [kX pf,og (nd.sublist List.filter_sublist)]
   refine ⟨.dct (ao F0 ((numL R).filter fun j=>decide (j≠iL k))),0, .len (by rw [cH,←hR,←ll]; exact fun e=>but_len (Ar R) mk (by rw [ll] at e ⊢; exact e)),fun sl=>dY ?_⟩
   show Wp (gk ⟨[some (.d x),some (.d (.cell fc)),some (.d (.int i)),none,none,none,none,none,none,none],S⟩) _ _
   unfold gk
   simp! only [cf,k1,it,l1,d1,d2,d3,s7,ez,q1,q2,q3,v3,n3,lk,nR,ek]
   rw [nB (l:=numL R) D.int (fun i=> .tup [.int i, .int (F0 i)]) (fun j=>decide (j≠iL k)) rfl rfl Nl.d1 trivial (fun j hj=>?_) (by rw [ll,sizeLine_eq]; omega)]
   ·simp! only [df]
   ·have p1:=fun s:SD=>bj (s:=s) (x:= .dct (ao F0 (numL R))) (y:= .int j) (kT (f:=F0) hj)
    have e1:∀s:SD,neK s (some (.int j)) (some (.int (iL k)))= .ok (.d (.bl (decide (j≠iL k)))) s:=fun s=>by
     have:= @hX j (iL k)
     unfold neK
     simp only [this]
     by_cases c:j=iL k<;> simp [c]
    unfold Z.jB
    simp! only [cf,ik,e1,p1]
  ·have q3:decide (i%3=1)=false:=decide_eq_false c3
   have hi:k<ids.length:=by rw [HR.1,←hR]; exact hk
   obtain ⟨ks,g1,g2⟩:=HR.2 k _ (List.getElem?_eq_getElem hi)
   have cx:=fun sl=>HL.cont (sl:=sl)
   have ir:∀s:SD,ixK s (some (.lst (ids.map .cell))) (some (.int (k:Int)))= .ok (.d (.cell ids[k])) s:=fun s=>ixL (f:=D.cell) (List.getElem?_eq_getElem hi)
   have mo:=fq g2.u
   have put:=fun (d0:D) (a:Vl) (s:SD)=>fF (a:=a) (x:=d0) (s:=s) (k:= .inl (iL k)) (z:= .int (iL k)) (ks:=ao F0 (numL R)) rfl (by rw [cH,ll,sizeLine_eq]; omega)
   have pB:∀d0:D,jt (ao F0 (numL R)) (.inl (iL k)) d0=dt (iL k) d0 F0 (numL R):=fun d0=>Be mk
   have l6:∀a b c d e g:D,((([a,b,c,d,e,g]:List D).length:Nat):Int)=6:=fun _ _ _ _ _ _=>rfl
   have n6:((0:Int)<6)=True:=by decide
   have z6:∀a b c d e g:D,([a,b,c,d,e,g].length<sizeLine)=True:=fun _ _ _ _ _ _=>eq_true (by show 6<sizeLine; decide)
   have hb:∀d0,BadAm (rows.getD k ro0) d0→Bent rows (.dct (dt (iL k) d0 F0 (numL R))) (iL k):=fun d0 h=>by
    have:=Bent.am (rows:=rows) (k:=k) (d0:=d0) (by omega) h
    rw [←hR] at this
    exact this
   cases cu:(rows.getD k ro0).u with
   | none=>
    rw [cu] at mo
    obtain ⟨z,hz2,ez2⟩:=pick6 (a:= .bl true) (b:= .str "0") (c:= .non) (d:= .int (-1)) (e:= .lst [.int 0]) (g:= .tup [.int 0]) (i / 100)
    have ez3:=fun s:SD=>bj (s:=s) ez2
    refine ⟨_,_,hb z ?_,fun sl=>dY ?_⟩
    ·rcases hz2 with rfl | rfl | rfl | rfl | rfl | rfl
     ·exact .inl ⟨_,rfl,rfl⟩
     ·exact .inl ⟨_,rfl,rfl⟩
     ·exact .inl ⟨_,rfl,rfl⟩
     ·exact .inr (.inl rfl)
     ·exact .inl ⟨_,rfl,rfl⟩
     ·exact .inl ⟨_,rfl,rfl⟩
    ·show Wp (gk ⟨[some (.d x),some (.d (.cell fc)),some (.d (.int i)),none,none,none,none,none,none,none],S⟩) _ _
     unfold gk
     simp! only [cf,k1,it,l1,d1,d2,d3,s7,ez,q1,q2,q3,v3,v100,n3,lk,nR,ek,cx,ir,g1,mo,oU,Option.isNone_none,ik,l6,n6,ez3,put,pB]
   | some u=>
    rw [cu] at mo
    obtain ⟨z,hz2,ez2⟩:=pick7 (a:= .bl true) (b:= .str "0") (c:= .non) (d:= .int (-1)) (e:= .lst [.int 0]) (g:= .tup [.int 0]) (h:= .int (u+1)) (i / 100)
    have ez3:=fun s:SD=>bj (s:=s) ez2
    refine ⟨_,_,hb z ?_,fun sl=>dY ?_⟩
    ·rcases hz2 with rfl | rfl | rfl | rfl | rfl | rfl | rfl
     ·exact .inl ⟨_,rfl,rfl⟩
     ·exact .inl ⟨_,rfl,rfl⟩
     ·exact .inl ⟨_,rfl,rfl⟩
     ·exact .inr (.inl rfl)
     ·exact .inl ⟨_,rfl,rfl⟩
     ·exact .inl ⟨_,rfl,rfl⟩
     ·exact .inr (.inr ⟨u,cu,rfl⟩)
    ·show Wp (gk ⟨[some (.d x),some (.d (.cell fc)),some (.d (.int i)),none,none,none,none,none,none,none],S⟩) _ _
     unfold gk
     have mo:∀s:SD,ixK s (some (.dct ks)) (some (.str "most"))= .ok (.d (.int u)) s:=mo
     simp! only [cf,k1,it,l1,d1,d2,d3,s7,ez,q1,q2,q3,v3,v100,n3,lk,nR,ek,cx,ir,g1,mo,gz,ik,z6,a7,l7,n7',ez3,put,pB]
end
def Else (ro:Ro) (s t:Nat):Prop:=((ro.t≠s∧ro.t≠t)∨(ro.h≠s∧ro.h≠t))∧ro.u≠some 0
def F1 (k:Nat):Int→Int:=fun i=>if i=iL k then 1 else 0
section
variable {sd:SD} {S:Sto} {sl:List (Option Vl)} {x:D} {fc s t a b:Nat} {rows:List Ro} {ids:List Nat} {v0 v1 v4 v5 v6 v7:Option Vl}
theorem ne_nat {p q:Nat}:∀sd:SD,neK sd (some (.int (p:Int))) (some (.int (q:Int)))= .ok (.d (.bl (!decide (p=q)))) sd:=fun sd=>by
 have:= @hX (p:Int) (q:Int)
 unfold neK
 simp only [this]
 have e:decide ((p:Int)=(q:Int))=decide (p=q):=by
  by_cases c:p=q
  ·rw [decide_eq_true c,decide_eq_true (by omega)]
  ·rw [decide_eq_false c,decide_eq_false (by omega)]
 rw [e]
theorem Dy:lcK (zSt 7) (jF (zB (z2 oNe (aa 7) (aa 2))) (zB (z2 oNe (aa 7) (aa 3)))) (aa 7) [7] ⟨[.d (.tup [.int (a:Int), .int (b:Int)])],fun _=>True,[.int (a:Int), .int (b:Int)]⟩ ⟨[v0,v1,some (.d (.int (s:Int))),some (.d (.int (t:Int))),v4,v5,v6,v7],S⟩=
  .ok (.own (.lst (([a,b].filter fun p=>decide (p≠s∧p≠t)).map nD))) ⟨[v0,v1,some (.d (.int (s:Int))),some (.d (.int (t:Int))),v4,v5,v6,none],S⟩:=by
 refine nB (l:= [a,b]) nD nD (fun p=>decide (p≠s∧p≠t)) rfl rfl Nl.d1 trivial (fun p hp=>?_) (by show (2:Nat)≤sizeLine; decide)
 have e1:=ne_nat (p:=p) (q:=s)
 have e2:=ne_nat (p:=p) (q:=t)
 unfold Z.jB
 by_cases c1:p=s
 ·have d1:decide (p=s)=true:=decide_eq_true c1
  have d3:decide (p≠s∧p≠t)=false:=decide_eq_false fun q=>q.1 c1
  simp! only [e1,d1,d3,Bool.not_true]
 ·have d1:decide (p=s)=false:=decide_eq_false c1
  by_cases c2:p=t
  ·have d2:decide (p=t)=true:=decide_eq_true c2
   have d3:decide (p≠s∧p≠t)=false:=decide_eq_false fun q=>q.2 c2
   simp! only [e1,e2,d1,d2,d3,Bool.not_true,Bool.not_false]
  ·have d2:decide (p=t)=false:=decide_eq_false c2
   have d3:decide (p≠s∧p≠t)=true:=decide_eq_true ⟨c1,c2⟩
   simp! only [e1,e2,d1,d2,d3,Bool.not_false]
theorem AR:(([a,b].filter fun p=>decide (p≠s∧p≠t)).map nD).isEmpty=!decide ((a≠s∧a≠t)∨(b≠s∧b≠t)):=by
 by_cases c1:a≠s∧a≠t
 ·rw [List.filter_cons_of_pos (p:=fun p=>decide (p≠s∧p≠t)) (decide_eq_true c1),decide_eq_true (.inl c1)]
  rfl
 ·rw [List.filter_cons_of_neg (p:=fun p=>decide (p≠s∧p≠t)) (by simpa using c1)]
  by_cases c2:b≠s∧b≠t
  ·rw [List.filter_cons_of_pos (p:=fun p=>decide (p≠s∧p≠t)) (decide_eq_true c2),decide_eq_true (.inr c2)]
   rfl
  ·rw [List.filter_cons_of_neg (p:=fun p=>decide (p≠s∧p≠t)) (by simpa using c2),decide_eq_false (fun q=>q.elim c1 c2)]
   rfl
theorem ne_nil {l:List D}:∀sd:SD,neK sd (some (.lst l)) (some (.lst []))= .ok (.d (.bl (!l.isEmpty))) sd:=fun sd=>by
 have:dEq (.lst l) (.lst [])=some l.isEmpty:=rfl
 unfold neK
 simp only [this]
theorem DP {u:Option Int}:∀sd:SD,sd.cont (.d (rD u))=some (rD u):=fun _=>by cases u<;> rfl
theorem ne_most {u:Option Int}:∀sd:SD,neK sd (some (rD u)) (some (.int 0))= .ok (.d (.bl (!decide (u=some 0)))) sd:=fun sd=>by
 cases u with
 | none=>rfl
 | some z=>
  have:= @hX z 0
  show neK sd (some (.int z)) _=_
  unfold neK
  simp only [this]
  have e:decide (z=0)=decide (some z=some (0:Int)):=by
   by_cases c:z=0
   ·rw [decide_eq_true c,decide_eq_true (congrArg some c)]
   ·rw [decide_eq_false c,decide_eq_false (fun q=>c (Option.some.inj q))]
  rw [e]
abbrev unS (x:D) (fc s t:Nat) (v4 v5 v6 v7:Option Vl) (S:Sto):SD:=⟨[some (.d x),some (.d (.cell fc)),some (.d (.int (s:Int))),some (.d (.int (t:Int))),v4,v5,v6,v7],S⟩
def unQ (s t:Nat) (S:Sto) (rows:List Ro):Fl→SD→Prop:=fun fl s' =>(((∀k,k<rows.length→¬Else (rows.getD k ro0) s t)∧flv fl=some (.d .non))∨∃k,k<rows.length∧Else (rows.getD k ro0) s t∧flv fl=some (.own (.dct (ao (F1 k) (numL rows.length)))))∧s'.st=S
noncomputable def unB:SD→R Fl:=(aj (ax (zLc (B4 (aZ (dj (zA (z2 oIx (aa 4) (zC (.str "tail"))) (zA (z2 oIx (aa 4) (zC (.str "head"))) zA0))))) (zSt 7) (jF (zB (z2 oNe (aa 7) (aa 2))) (zB (z2 oNe (aa 7) (aa 3)))) (aa 7) [7]) (zSt 5))
 (bP (jF (zB (z2 oNe (aa 5) (cM zA0))) (zB (z2 oNe (z2 oIx (aa 4) (zC (.str "most"))) (zC (.int 0))))) (aj (ax (z1 fN (aa 1)) (zSt 6))
 (aj (eV (aa 6) (z2 oIx (aa 4) (zC (.str "number"))) (zC (.int 1)))
 (bo (aa 6)))) az))
theorem unB_eq:unB=(aj (ax (zLc (B4 (aZ (dj (zA (z2 oIx (aa 4) (zC (.str "tail"))) (zA (z2 oIx (aa 4) (zC (.str "head"))) zA0))))) (zSt 7) (jF (zB (z2 oNe (aa 7) (aa 2))) (zB (z2 oNe (aa 7) (aa 3)))) (aa 7) [7]) (zSt 5))
 (bP (jF (zB (z2 oNe (aa 5) (cM zA0))) (zB (z2 oNe (z2 oIx (aa 4) (zC (.str "most"))) (zC (.int 0))))) (aj (ax (z1 fN (aa 1)) (zSt 6))
 (aj (eV (aa 6) (z2 oIx (aa 4) (zC (.str "number"))) (zC (.int 1)))
 (bo (aa 6)))) az)):=rfl
theorem un_w (HL:HandL S x (ids.map .cell)) (HR:RowsB S ids iL rows) (cf:S.get fc=some (.dct (ao F0 (numL rows.length)))) (hz:rows.length≤20):
  Wp (ie (unS x fc s t none none none none S)) (unQ s t S rows) XF:=by
 obtain ⟨ok,ei,hok⟩:=HL.it
 obtain ⟨gB,hB⟩:∃G,G=unB:=⟨_,rfl⟩
 have e0:ie=(aj (eJ (gp (aZ (aa 0))) (zSt 4) gB)
 (bo (zC .non))):=by rw [hB]; rfl
 rw [e0]
 clear e0
 simp! only [ei]
 rw [ae]
 refine iM (fun j s' =>j≤rows.length∧(∀k,k<j→¬Else (rows.getD k ro0) s t)∧∃v4 v5,s' =unS x fc s t v4 v5 none none S) Nl.d1 (fun _ s ⟨_,_,_,_,e⟩=>by rw [e]; exact hok _) ⟨Nat.zero_le _,fun k hk=>absurd hk (by omega),none,none,rfl⟩ (fun j z s' ez hI=>?_) (fun s' hI=>?_)
 ·obtain ⟨_,hno,v4,v5,rfl⟩:=hI
  have ez:(ids.map D.cell)[j]? =some z:=ez
  rw [List.getElem?_map] at ez
  cases eh:ids[j]? with
  | none=>rw [eh] at ez; cases ez
  | some i=>
   rw [eh] at ez
   cases ez
   have hj:j<rows.length:=by rw [←HR.1]; exact (List.getElem?_eq_some_iff.mp eh).1
   obtain ⟨ks,g1,g2⟩:=HR.2 j i eh
   have b1:=fq g2.t
   have b2:=fq g2.h
   have b3:=fq g2.u
   have b4:=fq g2.n
   have lc:=fun {v0 v1 v4 v5 v6 v7}=>Dy (s:=s) (t:=t) (a:=(rows.getD j ro0).t) (b:=(rows.getD j ro0).h) (v0:=v0) (v1:=v1) (v4:=v4) (v5:=v5) (v6:=v6) (v7:=v7) (S:=S)
   have en:=AR (s:=s) (t:=t) (a:=(rows.getD j ro0).t) (b:=(rows.getD j ro0).h)
   have nn:=fun l=>ne_nil (l:=l)
   have cr:=DP (u:=(rows.getD j ro0).u)
   have nm:=ne_most (u:=(rows.getD j ro0).u)
   have put:=fun (a:Vl) (s:SD)=>fF (a:=a) (x:= .int 1) (s:=s) (k:= .inl (iL j)) (z:= .int (iL j)) (ks:=ao F0 (numL rows.length)) rfl (by rw [cH,numL_len,sizeLine_eq]; omega)
   have pB:jt (ao F0 (numL rows.length)) (.inl (iL j)) (.int 1)=ao (F1 j) (numL rows.length):=by
    rw [ue (wY hj)]
    rfl
   rw [pB] at put
   rw [hB,unB_eq]
   by_cases c1:((rows.getD j ro0).t≠s∧(rows.getD j ro0).t≠t)∨((rows.getD j ro0).h≠s∧(rows.getD j ro0).h≠t)
   ·rw [decide_eq_true c1] at en
    by_cases c2:(rows.getD j ro0).u=some 0
    ·have d2:decide ((rows.getD j ro0).u=some 0)=true:=decide_eq_true c2
     simp! only [g1,b1,b2,b3,b4,lc,nn,en,nm,cr,d2,Bool.not_true,Bool.not_false]
     exact ⟨by omega,fun k hk=>by
      by_cases c:k=j
      ·subst c
       exact fun q=>q.2 c2
      ·exact hno k (by omega),_,_,rfl⟩
    ·have d2:decide ((rows.getD j ro0).u=some 0)=false:=decide_eq_false c2
     simp! only [g1,b1,b2,b3,b4,lc,nn,en,nm,cr,d2,Bool.not_true,Bool.not_false,cf,put]
     exact ⟨.inr ⟨j,hj,⟨c1,c2⟩,rfl⟩,rfl⟩
   ·rw [decide_eq_false c1] at en
    simp! only [g1,b1,b2,b3,b4,lc,nn,en,nm,Bool.not_true,Bool.not_false]
    exact ⟨by omega,fun k hk=>by
     by_cases c:k=j
     ·subst c
      exact fun q=>c1 q.1
     ·exact hno k (by omega),_,_,rfl⟩
 ·have hI:(ids.map D.cell).length≤rows.length∧(∀k,k<(ids.map D.cell).length→¬Else (rows.getD k ro0) s t)∧∃v4 v5,s' =unS x fc s t v4 v5 none none S:=hI
  rw [List.length_map,HR.1] at hI
  obtain ⟨_,hno,v4,v5,rfl⟩:=hI
  simp! only []
  exact ⟨.inl ⟨hno,rfl⟩,rfl⟩
theorem A9 (HL:HandL S x (ids.map .cell)) (HR:RowsB S ids iL rows) (cf:S.get fc=some (.dct (ao F0 (numL rows.length)))) (hz:rows.length≤20):
  (∀sl,goF dO [x, .cell fc, .int (s:Int), .int (t:Int)] ⟨sl,S⟩= .ok (.d .non) ⟨sl,S⟩)∨∃k,k<rows.length∧Else (rows.getD k ro0) s t∧∀sl,goF dO [x, .cell fc, .int (s:Int), .int (t:Int)] ⟨sl,S⟩= .ok (.own (.dct (ao (F1 k) (numL rows.length)))) ⟨sl,S⟩:=by
 obtain ⟨fl,s',e,h,hs⟩:=(un_w (s:=s) (t:=t) HL HR cf hz).is
 rcases h with ⟨_,h⟩ | ⟨k,hk,he,h⟩
 ·exact .inl fun sl=>dY (by show Wp (ie (unS x fc s t none none none none S)) _ _; rw [e]; exact ⟨h,hs⟩)
 ·exact .inr ⟨k,hk,he,fun sl=>dY (by show Wp (ie (unS x fc s t none none none none S)) _ _; rw [e]; exact ⟨h,hs⟩)⟩
end
end T

set_option maxHeartbeats 4000000
namespace T
open PySem PySem.Spec PyProof.Rows L2 M Z A
open Classical
open Rs (As Ro ro0 RoOk roA foR EndR FlOk)
structure W11 (S:Sto) (n l d:Nat) (names:List Str) (ids:List Nat) (rows:List Ro) (fc:Nat):Prop where
 net:NetAt S n l d (aL names rows rows.length)
 b1:n<S.nx
 b2:l<S.nx
 b3:d<S.nx
 rb:RowsB S ids iL rows
 ib:∀i∈ids,i<S.nx
 cf:S.get fc=some (.dct (ao F0 (numL rows.length)))
 fb:fc<S.nx
 nd:names.Nodup
 nm:∀z∈names,ux z∧z.length≤11
 m2:2≤names.length
 m6:names.length≤6
 ri:∀ro∈rows,RoIn ro names.length
 l0:∀ro∈rows,ro.l=0
 z:rows.length≤20
structure SelfNe (t:D):Prop where
 c:∀u:SD,u.cont (.d t)=some t
 e:∀(u:SD),Dc u (neK u (some t) (some t)) (some t) (some t)= .ok (.d (.bl false)) u
structure HOk (S:Sto) (n:Nat) (s1 s2:Str) (h due:D):Prop where
 run:∀S1,Ext S S1→∃S2,Ext S1 S2∧∀sl,goF cy [.cell n,h, .str s1, .str s2] ⟨sl,S1⟩= .ok (.d due) ⟨sl,S2⟩
 eq:SelfNe due
section
variable {S S' :Sto} {n l d fc s t k:Nat} {names:List Str} {ids:List Nat} {rows:List Ro} {h y:D} {num:Int} {w:Str} {f:Int→Int}
theorem W11.ext (W:W11 S n l d names ids rows fc) (E:Ext S S'):W11 S' n l d names ids rows fc:=⟨W.net.ext E W.b1 W.b2 W.b3,Nat.lt_of_lt_of_le W.b1 E.nx,Nat.lt_of_lt_of_le W.b2 E.nx,Nat.lt_of_lt_of_le W.b3 E.nx,W.rb.ext E W.ib,fun i hi=>Nat.lt_of_lt_of_le (W.ib i hi) E.nx,
 (E.get _ W.fb).trans W.cf,Nat.lt_of_lt_of_le W.fb E.nx,W.nd,W.nm,W.m2,W.m6,W.ri,W.l0,W.z⟩
theorem W11.good (W:W11 S n l d names ids rows fc):Good (aL names rows rows.length):=nq W.nd (fun z hz=>(W.nm z hz).1) (by have:=W.m6; omega) W.ri (by have:=W.z; omega) _ (Nat.le_refl _)
theorem zq {i:Nat}:SelfNe (.tup [.str w, .cell i]):=⟨fun _=>rfl,fun _=>jL⟩
theorem cT (hw:lay (.str w)=true) (hy:lay y=true) (h2:dep y≤50):SelfNe (.tup [.str w,y]):=by
 have h:AK [.str w,y]=true:=by
  unfold AK AK AK
  rw [hw,hy]
  rfl
 have ht:lay (.tup [.str w,y])=true:=by
  unfold lay
  exact h
 refine ⟨fun _=>rfl,fun u=>?_⟩
 have hp:=lay_py ht
 rw [neUK_py (by rw [hp.1]; exact fun e=>by cases e)]
 have e:dEq (.tup [.str w,y]) (.tup [.str w,y])=some true:=by
  refine eq_tup (fun z hz=>?_) fun z hz=>?_
  ·rcases List.mem_cons.mp hz with rfl | hz
   ·exact hw
   ·rw [List.mem_singleton.mp hz]
    exact hy
  ·rcases List.mem_cons.mp hz with rfl | hz
   ·exact Nat.le_trans (Nat.le_of_eq (by unfold dep; rfl)) (Nat.zero_le _)
   ·rw [List.mem_singleton.mp hz]
    omega
 unfold neK
 simp only [e]
 rfl
theorem kA (hw:lay (.str w)=true) (hy:y= .non∨(∃i,y= .int i)∨∃b,y= .bl b):SelfNe (.tup [.str w,y]):=by
 rcases hy with rfl | ⟨i,rfl⟩ | ⟨b,rfl⟩
 ·exact cT hw (by unfold lay; rfl) (by unfold dep; exact Nat.zero_le _)
 ·exact cT hw (by unfold lay; rfl) (by unfold dep; exact Nat.zero_le _)
 ·exact cT hw (by unfold lay; rfl) (by unfold dep; exact Nat.zero_le _)
theorem Di (hk:k<rows.length):((iL k,uN names (rows.getD k ro0)):Int×TD)∈(aL names rows rows.length).ties:=List.mem_map.mpr ⟨k,List.mem_range.mpr hk,rfl⟩
theorem jM:(numL rows.length).Perm ((aL names rows rows.length).ties.map (·.1)):=by
 have e:=tL (names:=names) (rows:=rows) rows.length
 unfold nums at e
 rw [e]
theorem AD (h:∀k,k<rows.length→(rows.getD k ro0).l≤f (iL k)∧∀u,(rows.getD k ro0).u=some u→f (iL k)≤u):eI (aL names rows rows.length).ties f:=fun q hq=>by
 obtain ⟨k,hk,rfl⟩:=List.mem_map.mp hq
 exact h k (List.mem_range.mp hk)
theorem xh (hk:k<rows.length):flK (aL names rows rows.length) f k=f (iL k):=by
 unfold flK
 rw [tL,C5 hk]
theorem F0_ok (W:W11 S n l d names ids rows fc):eI (aL names rows rows.length).ties F0:=AD fun k hk=>by
 have h:=W.ri _ (Rs.eZ hk)
 have h0:=W.l0 _ (Rs.eZ hk)
 exact ⟨by rw [h0]; exact Int.le_refl 0,fun u hu=>by have:=h.b u hu; rw [h0] at this; exact this⟩
theorem F1_ok (W:W11 S n l d names ids rows fc) (h0:(rows.getD k ro0).u≠some 0):eI (aL names rows rows.length).ties (F1 k):=AD fun j hj=>by
 have h:=W.ri _ (Rs.eZ hj)
 have hl:=W.l0 _ (Rs.eZ hj)
 unfold F1
 by_cases c:j=k
 ·subst c
  rw [if_pos rfl,hl]
  refine ⟨by decide,fun u hu=>?_⟩
  have:=h.b u hu
  rw [hl] at this
  have ne:u≠0:=fun e=>h0 (by rw [hu,e])
  omega
 ·rw [if_neg (fun e=>c (by have:((j+1:Nat):Int)=((k+1:Nat):Int):=e; omega)),hl]
  exact ⟨Int.le_refl 0,fun u hu=>by have:=h.b u hu; rw [hl] at this; exact this⟩
theorem oS (hs:s<names.length):names.getD s (Str.ofString "")∈names:=rh hs
theorem hO_bent (W:W11 S n l d names ids rows fc) (hs:s<names.length) (ht:t<names.length) (hst:s≠t) (B:Bent rows h num):HOk S n (names.getD s (Str.ofString "")) (names.getD t (Str.ofString "")) h (.tup [.str "flow", .int num]):=by
 refine ⟨fun S1 E=>⟨S1,Ext.refl, ?_⟩,kA (by decide+kernel) (.inr (.inl ⟨_,rfl⟩))⟩
 have W:=W.ext E
 have tl:(aL names rows rows.length).ties.length=rows.length:=AB _
 refine lI fun sl=>r_flow W.net (oS hs) (oS ht) (kR W.nd hs ht hst) fun sl=>?_
 cases B with
 | kind hk=>exact f_kind W.net W.good hk
 | len hl=>exact f_len W.net W.good (by rw [tl]; exact hl)
 | odd hl=>exact f_odd W.net W.good (by rw [tl]; exact hl)
 | @am k d0 hk hb=>
  refine f_bad (q:=(iL k,uN names (rows.getD k ro0))) W.net W.good jM (F0_ok W) (Di hk) ?_
  have h0:=W.l0 _ (Rs.eZ hk)
  have h1:=W.ri _ (Rs.eZ hk)
  rcases hb with ⟨kx,h2,h3⟩ | rfl | ⟨m,hm,rfl⟩
  ·exact a_kind h2 h3
  ·exact a_less (by show (-1:Int)<(rows.getD k ro0).l; rw [h0]; decide)
  ·have:=h1.b m hm
   exact a_more (m:=m) (by show (rows.getD k ro0).l≤m+1; omega) hm (by omega)
theorem hO_un (W:W11 S n l d names ids rows fc) (hs:s<names.length) (ht:t<names.length) (hst:s≠t) (hk:k<rows.length) (hE:Else (rows.getD k ro0) s t):
  HOk S n (names.getD s (Str.ofString "")) (names.getD t (Str.ofString "")) (.dct (ao (F1 k) (numL rows.length))) (.tup [.str "flow", .int 0]):=by
 refine ⟨fun S1 E=>⟨S1,Ext.refl, ?_⟩,kA (by decide+kernel) (.inr (.inl ⟨_,rfl⟩))⟩
 have W:=W.ext E
 have ro:=W.ri _ (Rs.eZ hk)
 have rw1:=mV (names:=names) (rows:=rows) W.nd fun r hr=>(W.ri r hr).toRoOk
 refine lI fun sl=>r_car W.net W.good (.inl rfl) jM (F1_ok W hE.2) (oS hs) (oS ht) (kR W.nd hs ht hst) ?_
 have key:∀p,p<names.length→p≠s→p≠t→((rows.getD k ro0).t=p∨(rows.getD k ro0).h=p)→DU (sp (F1 k) (aL names rows rows.length).ties) (names.getD s (Str.ofString "")) (names.getD t (Str.ofString "")) names= .non:=fun p hp c1 c2 hpe=>by
  unfold DU
  rw [if_neg fun q=>?_]
  rcases q _ (oS hp) with q | q | q
  ·have e:=zj (f:=F1 k) W.good (w:=names.getD p (Str.ofString "")) (oS hp)
   rw [q,rw1] at e
   have ei:(aL names rows rows.length).names.idxOf (names.getD p (Str.ofString ""))=p:=fP W.nd hp
   rw [ei] at e
   have e2:Rs.dv (roA rows) (flK (aL names rows rows.length) (F1 k)) (Rs.dl p)=Rs.dl p (rows.getD k ro0).t - Rs.dl p (rows.getD k ro0).h:=by
    have e3:Rs.dv (roA rows) (flK (aL names rows rows.length) (F1 k)) (Rs.dl p)=Rs.sm rows.length fun j=>if j=k then (Rs.dl p (rows.getD k ro0).t - Rs.dl p (rows.getD k ro0).h) else 0:=by
     unfold Rs.dv
     rw [Rs.bw]
     refine Rs.aS fun j hj=>?_
     rw [xh hj]
     obtain ⟨a1,a2⟩:=Rs.fg hj
     rw [a1,a2]
     unfold F1
     by_cases c:j=k
     ·subst c
      rw [if_pos rfl,if_pos rfl,Int.one_mul]
     ·rw [if_neg (fun e=>c (by have:((j+1:Nat):Int)=((k+1:Nat):Int):=e; omega)),if_neg c,Int.zero_mul]
    rw [e3,Rs.sL hk]
   rw [e2] at e
   have ne:=ro.n
   unfold Rs.dl at e
   rcases hpe with rfl | rfl
   ·rw [if_pos rfl,if_neg (Ne.symm ne)] at e
    omega
   ·rw [if_neg ne,if_pos rfl] at e
    omega
  ·exact kR W.nd hp hs c1 q
  ·exact kR W.nd hp ht c2 q
 rcases hE.1 with ⟨c1,c2⟩ | ⟨c1,c2⟩
 ·exact key _ ro.t c1 c2 (.inl rfl)
 ·exact key _ ro.h c1 c2 (.inr rfl)
noncomputable def dueF (rows:List Ro) (s t:Nat):D:=if EndR rows s t then .tup [.str "endless", .non] else .tup [.str "good", .bl true]
theorem hO_flow (W:W11 S n l d names ids rows fc) (hs:s<names.length) (ht:t<names.length) (hst:s≠t):HOk S n (names.getD s (Str.ofString "")) (names.getD t (Str.ofString "")) (.cell fc) (dueF rows s t):=by
 have rw1:=mV (names:=names) (rows:=rows) W.nd fun r hr=>(W.ri r hr).toRoOk
 have h1:=oS hs
 have h2:=oS ht
 have h3:=kR W.nd hs ht hst
 have i1:(aL names rows rows.length).names.idxOf (names.getD s (Str.ofString ""))=s:=fP W.nd hs
 have i2:(aL names rows rows.length).names.idxOf (names.getD t (Str.ofString ""))=t:=fP W.nd ht
 have nl:(aL names rows rows.length).names.length=names.length:=rfl
 have rk:∀r∈rows,RoOk r names.length:=fun r hr=>(W.ri r hr).toRoOk
 have dz:∀g,Rs.dv (roA rows) (flK (aL names rows rows.length) F0) g=0:=fun g=>by
  rw [Rs.lW (f' :=fun _=>0) fun k hk=>by rw [Rs.bw] at hk; rw [xh hk]; rfl]
  exact Rs.nW
 have hev:∀z∈(aL names rows rows.length).names,sp F0 (aL names rows rows.length).ties z=0∨z=names.getD s (Str.ofString "")∨z=names.getD t (Str.ofString ""):=
  zero_sp W.good h1 h2 fun p _ _ _=>by rw [rw1]; exact dz _
 have ew:t∈(Rs.bL (roA rows) (foR rows (flK (aL names rows rows.length) F0) rows.length) true names.length s).row↔EndR rows s t:=Rs.end_iff rk hs
 unfold dueF
 by_cases c:EndR rows s t
 ·rw [if_pos c]
  refine ⟨fun S1 E=>?_,kA (by decide+kernel) (.inl rfl)⟩
  have W:=W.ext E
  obtain ⟨S2,E2,e⟩:=A0 W.net W.good (x:= .cell fc) (f:=F0) (is:=numL rows.length) (.inr ⟨fc,rfl,W.cf⟩) (fun j e=>by cases e; exact W.fb) jM (F0_ok W) h1 h2 h3 hev (by rw [rw1,i1,i2,nl]; exact ew.mpr c) W.b1 W.b2 W.b3
  exact ⟨S2,E2,nS e⟩
 ·rw [if_neg c]
  refine ⟨fun S1 E=>?_,kA (by decide+kernel) (.inr (.inr ⟨_,rfl⟩))⟩
  have W:=W.ext E
  obtain ⟨f',v,U,R,_,_,go⟩:=oP W.good (F0_ok W) h1 h2 h3 hev (by rw [rw1,i1,i2,nl]; exact fun q=>c (ew.mp q))
  rw [rw1,i1,i2,nl] at R
  have v0:0≤v:=by
   have q:=R.most (ψ:=fun _=>0) rk hs ⟨fun k hk=>by
    have h0:=W.l0 _ (Rs.eZ hk)
    show (rows.getD k ro0).l≤0
    omega,fun k hk x hx=>by
    have h0:=W.l0 _ (Rs.eZ hk)
    have:=(W.ri _ (Rs.eZ hk)).b x hx
    omega⟩ fun p _ _ _=>Rs.nW
   rw [Rs.nW] at q
   exact q
  obtain ⟨S2,i,j,E2,_,_,e⟩:=go W.net (x:= .cell fc) (is:=numL rows.length) (.inr ⟨fc,rfl,W.cf⟩) (fun j e=>by cases e; exact W.fb) jM W.b1 W.b2 W.b3
  exact ⟨S2,E2,ud e v0⟩
end
abbrev asS (n:Nat) (names:List Str) (ids:List Nat) (fc:Nat) (i:Int) (v5 v6 v7 v8 v9 v10 v11 v12 v13:Option Vl) (S:Sto):SD:=⟨[some (.d (.cell n)),some (.d (.lst (names.map .str))),some (.d (.lst (ids.map .cell))),some (.d (.cell fc)),some (.d (.int i)),v5,v6,v7,v8,v9,v10,v11,v12,v13],S⟩
def asQ (S:Sto):Fl→SD→Prop:=fun fl s' =>(∃T,SelfNe T∧flv fl=some (.d (.tup [T,T])))∧Ext S s'.st
section
variable {S S' S1:Sto} {n l d fc s t k c0:Nat} {names:List Str} {ids:List Nat} {rows:List Ro} {h y due z:D} {num i:Int} {w:Str} {f:Int→Int} {v5 v6 v7 v11:Option Vl}
theorem pick8 (nm:∀z∈names,ux z∧z.length≤11) (hc:S1.get c0=some (.dct [])) (j:Int):∃z,dIx (.lst [.str "", .str "zzzzzzzzzzzz", .non, .int 5, .lst [], .cell c0, .bl true, .lst [.str "a"]]) (.int (j%8))=some z∧(∀N:ND,N.names=names→D7 S1 N z)∧SelfNe (.tup [.str "place",z]):=by
 have nE:Str.ofString "" ∉names:=fun h=>absurd (nm _ h).1.2.1 (by decide+kernel)
 have nZ:Str.ofString "zzzzzzzzzzzz" ∉names:=fun h=>absurd (nm _ h).2 (by decide+kernel)
 rcases (show j%8=0∨j%8=1∨j%8=2∨j%8=3∨j%8=4∨j%8=5∨j%8=6∨j%8=7 by omega) with q | q | q | q | q | q | q | q<;> rw [q]
 ·exact ⟨.str "",rfl,fun N e=> .inl ⟨_,rfl,fun w e2=>by cases e2; rw [e]; exact nE⟩,cT (by decide+kernel) (by decide+kernel) (by decide+kernel)⟩
 ·exact ⟨.str "zzzzzzzzzzzz",rfl,fun N e=> .inl ⟨_,rfl,fun w e2=>by cases e2; rw [e]; exact nZ⟩,cT (by decide+kernel) (by decide+kernel) (by decide+kernel)⟩
 ·exact ⟨.non,rfl,fun N e=> .inl ⟨_,rfl,fun w e2=>by cases e2⟩,cT (by decide+kernel) (by decide+kernel) (by decide+kernel)⟩
 ·exact ⟨.int 5,rfl,fun N e=> .inl ⟨_,rfl,fun w e2=>by cases e2⟩,cT (by decide+kernel) (by decide+kernel) (by decide+kernel)⟩
 ·exact ⟨.lst [],rfl,fun N e=> .inl ⟨_,rfl,fun w e2=>by cases e2⟩,cT (by decide+kernel) (by decide+kernel) (by decide+kernel)⟩
 ·exact ⟨.cell c0,rfl,fun N e=> .inr ⟨c0,rfl,hc⟩,zq⟩
 ·exact ⟨.bl true,rfl,fun N e=> .inl ⟨_,rfl,fun w e2=>by cases e2⟩,cT (by decide+kernel) (by decide+kernel) (by decide+kernel)⟩
 ·exact ⟨.lst [.str "a"],rfl,fun N e=> .inl ⟨_,rfl,fun w e2=>by cases e2⟩,cT (by decide+kernel) (by decide+kernel) (by decide+kernel)⟩
theorem set2a {A B x:D}:∀(a:Vl) (s:SD),yr (fR x) a (.int 0) s (some (.lst [A,B]))=s.mod (.lst [x,B]) a:=fun a s=>qi (h:=0) (by simp)
theorem set2b {A B x:D}:∀(a:Vl) (s:SD),yr (fR x) a (.int 1) s (some (.lst [A,B]))=s.mod (.lst [A,x]) a:=fun a s=>qi (h:=1) (by simp)
theorem ix2a {A B:D}:∀s:SD,ixK s (some (.lst [A,B])) (some (.int 0))= .ok (.d A) s:=fun s=>bj rfl
theorem ix2b {A B:D}:∀s:SD,ixK s (some (.lst [A,B])) (some (.int 1))= .ok (.d B) s:=fun s=>bj rfl
theorem as_z {G:SD→R Fl} (hG:G=(aj (ax (cM (zA (zC (.str "")) (zA (zC (.str "zzzzzzzzzzzz")) (zA (zC .non) (zA (zC (.int 5)) (zA (cM zA0) (zA (dk ku) (zA (zC (.bl true)) (zA (cM (zA (zC (.str "a")) zA0)) zA0))))))))) (zSt 12))
 (aj (ax (z2 dh (z2 fk (aa 4) (zC (.int 1000))) (zC (.int 6))) (zSt 13))
 (aj (bP (zB (z2 oEq (aa 13) (zC (.int 3)))) (aj (ax (z2 oIx (aa 8) (zC (.int 0))) (sy (aa 8) (zC (.int 1))))
 (ax (dj (zA (zC (.str "same")) (zA (zC .non) zA0))) (zSt 9))) az)
 (aj (bP (zOr (zB (z2 oEq (aa 13) (zC (.int 2)))) (zB (z2 oEq (aa 13) (zC (.int 4))))) (aj (ax (z2 oIx (aa 12) (z2 dh (z2 fk (aa 4) (zC (.int 7))) (zC (.int 8)))) (sy (aa 8) (zC (.int 1))))
 (ax (dj (zA (zC (.str "place")) (zA (z2 oIx (aa 8) (zC (.int 1))) zA0))) (zSt 9))) az)
 (aj (bP (zOr (zB (z2 oEq (aa 13) (zC (.int 1)))) (zB (z2 oEq (aa 13) (zC (.int 4))))) (aj (ax (z2 oIx (aa 12) (z2 dh (z2 fk (aa 4) (zC (.int 11))) (zC (.int 8)))) (sy (aa 8) (zC (.int 0))))
 (ax (dj (zA (zC (.str "place")) (zA (z2 oIx (aa 8) (zC (.int 0))) zA0))) (zSt 9))) az)
 (bo (dj (zA (aa 9) (zA (ar cy [] (zA (aa 0) (zA (aa 10) (zA (z2 oIx (aa 8) (zC (.int 0))) (zA (z2 oIx (aa 8) (zC (.int 1))) zA0))))) zA0)))))))))) (W:W11 S n l d names ids rows fc) (hs:s<names.length) (ht:t<names.length) (hst:s≠t) (HO:HOk S n (names.getD s (Str.ofString "")) (names.getD t (Str.ofString "")) h due) {v10:Vl} (hv:v10= .d h∨v10= .own h∧∃ks,h= .dct ks) (i:Int):
  Wp (G (asS n names ids fc i v5 v6 v7 (some (.own (.lst [.str (names.getD s (Str.ofString "")), .str (names.getD t (Str.ofString ""))]))) (some (.d due)) (some v10) v11 none none S)) (asQ S) XF:=by
 have E1:Ext S (S.new (.dct [])):= .new
 have W1:=W.ext E1
 have cn:(S.new (.dct [])).get S.nx=some (.dct []):=dr
 have h1:names.getD s (Str.ofString "")∈names:=oS hs
 have h2:names.getD t (Str.ofString "")∈names:=oS ht
 obtain ⟨S2,E2,tOk⟩:=HO.run _ E1
 have sd:=HO.eq
 obtain ⟨z1',e1,o1,f1⟩:=pick8 W.nm cn (i / 7)
 obtain ⟨z0',e0,o0,f0⟩:=pick8 W.nm cn (i / 11)
 have o1:=o1 (aL names rows rows.length) rfl
 have o0:=o0 (aL names rows rows.length) rfl
 have e1:=fun s:SD=>bj (s:=s) e1
 have e0:=fun s:SD=>bj (s:=s) e0
 generalize names.getD s (Str.ofString "")=s1 at*
 generalize names.getD t (Str.ofString "")=s2 at*
 have tS:∀sl,goF cy [.cell n,h, .str s1, .str s1] ⟨sl,S.new (.dct [])⟩= .ok (.d (.tup [.str "same", .non])) ⟨sl,S.new (.dct [])⟩:=uc fun sl=>zL W1.net fun sl=>o_ends3 h1 W1.net
 have t1:∀sl,goF cy [.cell n,h, .str s1,z1'] ⟨sl,S.new (.dct [])⟩= .ok (.d (.tup [.str "place",z1'])) ⟨sl,S.new (.dct [])⟩:=jR fun sl=>zL W1.net fun sl=>o_ends2 h1 o1 W1.net
 have t0:∀y sl,goF cy [.cell n,h,z0',y] ⟨sl,S.new (.dct [])⟩= .ok (.d (.tup [.str "place",z0'])) ⟨sl,S.new (.dct [])⟩:=fun y=>jR fun sl=>zL W1.net fun sl=>o_ends1 o0 W1.net
 have v7' :CDivW i 7=True:=eq_true (aw (by decide) (by decide))
 have v11' :CDivW i 11=True:=eq_true (aw (by decide) (by decide))
 have v1000:CDivW i 1000=True:=eq_true (aw (by decide) (by decide))
 have b6:((0:Int)<6)=True:=by decide
 have b8:((0:Int)<8)=True:=by decide
 have p0:=fun {A B x}=>set2a (A:=A) (B:=B) (x:=x)
 have p1:=fun {A B x}=>set2b (A:=A) (B:=B) (x:=x)
 have r0:=fun {A B}=>ix2a (A:=A) (B:=B)
 have r1:=fun {A B}=>ix2b (A:=A) (B:=B)
 subst hG
 rcases (show i / 1000%6=3∨i / 1000%6=2∨i / 1000%6=4∨i / 1000%6=1∨(i / 1000%6≠3∧i / 1000%6≠2∧i / 1000%6≠4∧i / 1000%6≠1) by omega) with q | q | q | q | q
 ·have q3:decide (i / 1000%6=3)=true:=decide_eq_true (by omega)
  have q2:decide (i / 1000%6=2)=false:=decide_eq_false (by omega)
  have q4:decide (i / 1000%6=4)=false:=decide_eq_false (by omega)
  have q1:decide (i / 1000%6=1)=false:=decide_eq_false (by omega)
  rcases hv with rfl | ⟨rfl,ks,rfl⟩
  ·simp! only [v1000,b6,b8,q1,q2,q3,q4,↓oZ,iP,iO,iN,p0,p1,r0,r1,tS]
   exact ⟨⟨_,kA (by decide+kernel) (.inl rfl),rfl⟩,E1⟩
  ·simp! only [v1000,b6,b8,q1,q2,q3,q4,↓oZ,iP,iO,iN,p0,p1,r0,r1,tS]
   exact ⟨⟨_,kA (by decide+kernel) (.inl rfl),rfl⟩,E1⟩
 ·have q3:decide (i / 1000%6=3)=false:=decide_eq_false (by omega)
  have q2:decide (i / 1000%6=2)=true:=decide_eq_true (by omega)
  have q4:decide (i / 1000%6=4)=false:=decide_eq_false (by omega)
  have q1:decide (i / 1000%6=1)=false:=decide_eq_false (by omega)
  rcases hv with rfl | ⟨rfl,ks,rfl⟩
  ·simp! only [v7',v1000,b6,b8,q1,q2,q3,q4,↓oZ,iP,iO,iN,p0,p1,r0,r1,e1,t1]
   exact ⟨⟨_,f1,rfl⟩,E1⟩
  ·simp! only [v7',v1000,b6,b8,q1,q2,q3,q4,↓oZ,iP,iO,iN,p0,p1,r0,r1,e1,t1]
   exact ⟨⟨_,f1,rfl⟩,E1⟩
 ·have q3:decide (i / 1000%6=3)=false:=decide_eq_false (by omega)
  have q2:decide (i / 1000%6=2)=false:=decide_eq_false (by omega)
  have q4:decide (i / 1000%6=4)=true:=decide_eq_true (by omega)
  have q1:decide (i / 1000%6=1)=false:=decide_eq_false (by omega)
  rcases hv with rfl | ⟨rfl,ks,rfl⟩
  ·simp! only [v7',v11',v1000,b6,b8,q1,q2,q3,q4,↓oZ,iP,iO,iN,p0,p1,r0,r1,e1,e0,t0]
   exact ⟨⟨_,f0,rfl⟩,E1⟩
  ·simp! only [v7',v11',v1000,b6,b8,q1,q2,q3,q4,↓oZ,iP,iO,iN,p0,p1,r0,r1,e1,e0,t0]
   exact ⟨⟨_,f0,rfl⟩,E1⟩
 ·have q3:decide (i / 1000%6=3)=false:=decide_eq_false (by omega)
  have q2:decide (i / 1000%6=2)=false:=decide_eq_false (by omega)
  have q4:decide (i / 1000%6=4)=false:=decide_eq_false (by omega)
  have q1:decide (i / 1000%6=1)=true:=decide_eq_true (by omega)
  rcases hv with rfl | ⟨rfl,ks,rfl⟩
  ·simp! only [v7',v11',v1000,b6,b8,q1,q2,q3,q4,↓oZ,iP,iO,iN,p0,p1,r0,r1,e0,t0]
   exact ⟨⟨_,f0,rfl⟩,E1⟩
  ·simp! only [v7',v11',v1000,b6,b8,q1,q2,q3,q4,↓oZ,iP,iO,iN,p0,p1,r0,r1,e0,t0]
   exact ⟨⟨_,f0,rfl⟩,E1⟩
 ·have q3:decide (i / 1000%6=3)=false:=decide_eq_false (by omega)
  have q2:decide (i / 1000%6=2)=false:=decide_eq_false (by omega)
  have q4:decide (i / 1000%6=4)=false:=decide_eq_false (by omega)
  have q1:decide (i / 1000%6=1)=false:=decide_eq_false (by omega)
  rcases hv with rfl | ⟨rfl,ks,rfl⟩
  ·simp! only [v1000,b6,b8,q1,q2,q3,q4,r0,r1,tOk]
   exact ⟨⟨_,sd,rfl⟩,E1.trans E2⟩
  ·simp! only [v1000,b6,b8,q1,q2,q3,q4,r0,r1,tOk]
   exact ⟨⟨_,sd,rfl⟩,E1.trans E2⟩
theorem as_w (W:W11 S n l d names ids rows fc) (i:Nat):Wp (mc (asS n names ids fc (i:Int) none none none none none none none none none S)) (asQ S) XF:=by
 have m2:=W.m2
 have m6:=W.m6
 obtain ⟨m,hm⟩:∃m,m=names.length:=⟨_,rfl⟩
 obtain ⟨s,hs'⟩:∃s,s=i%m:=⟨_,rfl⟩
 obtain ⟨t,ht'⟩:∃t,t=(s+1+i / 10%(m - 1))%m:=⟨_,rfl⟩
 have hs:s<m:=by rw [hs']; exact Nat.mod_lt _ (by omega)
 have ht:t<m:=by rw [ht']; exact Nat.mod_lt _ (by omega)
 have hst:s≠t:=fun e=>by
  have hq:=Nat.mod_lt (i / 10) (show 0<m - 1 by omega)
  rw [ht'] at e
  generalize i / 10%(m - 1)=u at e hq
  by_cases q:s+1+u<m
  ·rw [Nat.mod_eq_of_lt q] at e; omega
  ·rw [Nat.mod_eq_sub_mod (by omega),Nat.mod_eq_of_lt (by omega)] at e; omega
 have bm:(0<(m:Int))=True:=eq_true (by omega)
 have bm1:(0<((m - 1:Nat):Int))=True:=eq_true (by omega)
 have em:(m:Int) - 1=((m - 1:Nat):Int):=by omega
 have es:(i:Int)%(m:Int)=(s:Int):=by rw [hs']; rfl
 have et:((s:Int)+1+(i:Int) / 10%((m - 1:Nat):Int))%(m:Int)=(t:Int):=by rw [ht']; rfl
 have y10:CDivW (i:Int) 10=True:=eq_true (aw (by decide) (by decide))
 have y100:CDivW (i:Int) 100=True:=eq_true (aw (by decide) (by decide))
 have y300:CDivW (i:Int) 300=True:=eq_true (aw (by decide) (by decide))
 have b3:((0:Int)<3)=True:=by decide
 have ln:(((names.map D.str).length:Nat):Int)=(m:Int):=by rw [List.length_map,hm]
 have hs2:s<names.length:=by omega
 have ht2:t<names.length:=by omega
 have i1:∀u:SD,ixK u (some (.lst (names.map D.str))) (some (.int (s:Int)))= .ok (.d (.str (names.getD s (Str.ofString "")))) u:=fun u=>by
  have e:names[s]? =some (names.getD s (Str.ofString "")):=by rw [List.getD_eq_getElem?_getD,List.getElem?_eq_getElem hs2]; rfl
  exact ixL (f:=D.str) e
 have i2:∀u:SD,ixK u (some (.lst (names.map D.str))) (some (.int (t:Int)))= .ok (.d (.str (names.getD t (Str.ofString "")))) u:=fun u=>by
  have e:names[t]? =some (names.getD t (Str.ofString "")):=by rw [List.getD_eq_getElem?_getD,List.getElem?_eq_getElem ht2]; rfl
  exact ixL (f:=D.str) e
 have rk:∀r∈rows,RoOk r names.length:=fun r hr=>(W.ri r hr).toRoOk
 have HL:HandL S (.lst (ids.map .cell)) (ids.map .cell):= .inl rfl
 have k1:=fun sl=>rn (sl:=sl) (s:=s) (t:=t) HL W.rb rk (by omega) hs2
 have HF:=hO_flow W hs2 ht2 hst
 have un:∀(a b:D) (u:SD),unpK [10,11] u (some (.tup [a,b]))= .ok () {u with sl:=cA [10,11] [a,b] u.sl}:=fun _ _ _=>rfl
 obtain ⟨gB,hB⟩:∃G,G=(aj (ax (cM (zA (zC (.str "")) (zA (zC (.str "zzzzzzzzzzzz")) (zA (zC .non) (zA (zC (.int 5)) (zA (cM zA0) (zA (dk ku) (zA (zC (.bl true)) (zA (cM (zA (zC (.str "a")) zA0)) zA0))))))))) (zSt 12))
 (aj (ax (z2 dh (z2 fk (aa 4) (zC (.int 1000))) (zC (.int 6))) (zSt 13))
 (aj (bP (zB (z2 oEq (aa 13) (zC (.int 3)))) (aj (ax (z2 oIx (aa 8) (zC (.int 0))) (sy (aa 8) (zC (.int 1))))
 (ax (dj (zA (zC (.str "same")) (zA (zC .non) zA0))) (zSt 9))) az)
 (aj (bP (zOr (zB (z2 oEq (aa 13) (zC (.int 2)))) (zB (z2 oEq (aa 13) (zC (.int 4))))) (aj (ax (z2 oIx (aa 12) (z2 dh (z2 fk (aa 4) (zC (.int 7))) (zC (.int 8)))) (sy (aa 8) (zC (.int 1))))
 (ax (dj (zA (zC (.str "place")) (zA (z2 oIx (aa 8) (zC (.int 1))) zA0))) (zSt 9))) az)
 (aj (bP (zOr (zB (z2 oEq (aa 13) (zC (.int 1)))) (zB (z2 oEq (aa 13) (zC (.int 4))))) (aj (ax (z2 oIx (aa 12) (z2 dh (z2 fk (aa 4) (zC (.int 11))) (zC (.int 8)))) (sy (aa 8) (zC (.int 0))))
 (ax (dj (zA (zC (.str "place")) (zA (z2 oIx (aa 8) (zC (.int 0))) zA0))) (zSt 9))) az)
 (bo (dj (zA (aa 9) (zA (ar cy [] (zA (aa 0) (zA (aa 10) (zA (z2 oIx (aa 8) (zC (.int 0))) (zA (z2 oIx (aa 8) (zC (.int 1))) zA0))))) zA0))))))))):=⟨_,rfl⟩
 have e0:mc=(aj (ax (z1 jn (aa 1)) (zSt 5))
 (aj (ax (z2 dh (aa 4) (aa 5)) (zSt 6))
 (aj (ax (z2 dh (z2 cj (z2 cj (aa 6) (zC (.int 1))) (z2 dh (z2 fk (aa 4) (zC (.int 10))) (z2 tE (aa 5) (zC (.int 1))))) (aa 5)) (zSt 7))
 (aj (ax (cM (zA (z2 oIx (aa 1) (aa 6)) (zA (z2 oIx (aa 1) (aa 7)) zA0))) (zSt 8))
 (aj (ax (zIf (zB (ar dA [] (zA (aa 2) (zA (aa 6) (zA (aa 7) zA0))))) (dj (zA (zC (.str "endless")) (zA (zC .non) zA0))) (dj (zA (zC (.str "good")) (zA (zC (.bl true)) zA0)))) (zSt 9))
 (aj (ax (aa 3) (zSt 10))
 (aj (bP (zB (z2 oEq (z2 dh (z2 fk (aa 4) (zC (.int 100))) (zC (.int 3))) (zC (.int 1)))) (aj (ax (ar qb [] (zA (aa 2) (zA (aa 3) (zA (z2 fk (aa 4) (zC (.int 300))) zA0)))) (kj [10,11]))
 (ax (dj (zA (zC (.str "flow")) (zA (aa 11) zA0))) (zSt 9))) az)
 (aj (bP (jF (zB (z2 oEq (z2 dh (z2 fk (aa 4) (zC (.int 100))) (zC (.int 3))) (zC (.int 2)))) (zB (z2 (gu true) (ar dO [] (zA (aa 2) (zA (aa 3) (zA (aa 6) (zA (aa 7) zA0))))) (zC .non)))) (aj (ax (ar dO [] (zA (aa 2) (zA (aa 3) (zA (aa 6) (zA (aa 7) zA0))))) (zSt 10))
 (ax (dj (zA (zC (.str "flow")) (zA (zC (.int 0)) zA0))) (zSt 9))) az)
 gB)))))))):=by rw [hB]; rfl
 have fin:=fun {h due v5 v6 v7 v11 v10} HO hv=>as_z (h:=h) (due:=due) (v5:=v5) (v6:=v6) (v7:=v7) (v11:=v11) (v10:=v10) hB W hs2 ht2 hst HO hv (i:Int)
 rw [e0]
 clear e0 hB
 have dueE:∀u:SD,True:=fun _=>trivial
 rcases (show (i:Int) / 100%3=1∨(i:Int) / 100%3=2∨((i:Int) / 100%3≠1∧(i:Int) / 100%3≠2) by omega) with q | q | q
 ·have q1:decide ((i:Int) / 100%3=1)=true:=decide_eq_true (by omega)
  have q2:decide ((i:Int) / 100%3=2)=false:=decide_eq_false (by omega)
  obtain ⟨h,num,B,k2⟩:=g_Lbent HL W.rb W.cf W.z ((i:Int) / 300)
  have HB:=hO_bent W hs2 ht2 hst B
  have f2:=fun {v5 v6 v7 v11}=>fin (v5:=v5) (v6:=v6) (v7:=v7) (v11:=v11) (v10:= .d h) HB (.inl rfl)
  by_cases c:EndR rows s t
  ·have d1:decide (EndR rows s t)=true:=decide_eq_true c
   simp! only [ln,bm,bm1,em,es,et,y10,y100,y300,b3,i1,i2,k1,d1,q1,q2,k2,un]
   exact f2
  ·have d1:decide (EndR rows s t)=false:=decide_eq_false c
   simp! only [ln,bm,bm1,em,es,et,y10,y100,y300,b3,i1,i2,k1,d1,q1,q2,k2,un]
   exact f2
 ·have q1:decide ((i:Int) / 100%3=1)=false:=decide_eq_false (by omega)
  have q2:decide ((i:Int) / 100%3=2)=true:=decide_eq_true (by omega)
  rcases A9 (s:=s) (t:=t) HL W.rb W.cf W.z with k2 | ⟨k,hk,hE,k2⟩
  ·have f2:=fun {v5 v6 v7 v11}=>fin (v5:=v5) (v6:=v6) (v7:=v7) (v11:=v11) (v10:= .d (.cell fc)) HF (.inl rfl)
   unfold dueF at f2
   by_cases c:EndR rows s t
   ·have d1:decide (EndR rows s t)=true:=decide_eq_true c
    rw [if_pos c] at f2
    simp! only [ln,bm,bm1,em,es,et,y10,y100,y300,b3,i1,i2,k1,d1,q1,q2,k2]
    exact f2
   ·have d1:decide (EndR rows s t)=false:=decide_eq_false c
    rw [if_neg c] at f2
    simp! only [ln,bm,bm1,em,es,et,y10,y100,y300,b3,i1,i2,k1,d1,q1,q2,k2]
    exact f2
  ·have HU:=hO_un W hs2 ht2 hst hk hE
   have f2:=fun {v5 v6 v7 v11}=>fin (v5:=v5) (v6:=v6) (v7:=v7) (v11:=v11) (v10:= .own (.dct (ao (F1 k) (numL rows.length)))) HU (.inr ⟨rfl,_,rfl⟩)
   have isO:∀(ks:List (Key×D)) (u:SD),gu true (.own (.dct ks)) (.d .non) u= .ok (.d (.bl true)) u:=fun _ _=>rfl
   by_cases c:EndR rows s t
   ·have d1:decide (EndR rows s t)=true:=decide_eq_true c
    simp! only [ln,bm,bm1,em,es,et,y10,y100,y300,b3,i1,i2,k1,d1,q1,q2,k2,isO]
    exact f2
   ·have d1:decide (EndR rows s t)=false:=decide_eq_false c
    simp! only [ln,bm,bm1,em,es,et,y10,y100,y300,b3,i1,i2,k1,d1,q1,q2,k2,isO]
    exact f2
 ·have q1:decide ((i:Int) / 100%3=1)=false:=decide_eq_false q.1
  have q2:decide ((i:Int) / 100%3=2)=false:=decide_eq_false q.2
  have f2:=fun {v5 v6 v7 v11}=>fin (v5:=v5) (v6:=v6) (v7:=v7) (v11:=v11) (v10:= .d (.cell fc)) HF (.inl rfl)
  unfold dueF at f2
  by_cases c:EndR rows s t
  ·have d1:decide (EndR rows s t)=true:=decide_eq_true c
   rw [if_pos c] at f2
   simp! only [ln,bm,bm1,em,es,et,y10,y100,y300,b3,i1,i2,k1,d1,q1,q2]
   exact f2
  ·have d1:decide (EndR rows s t)=false:=decide_eq_false c
   rw [if_neg c] at f2
   simp! only [ln,bm,bm1,em,es,et,y10,y100,y300,b3,i1,i2,k1,d1,q1,q2]
   exact f2
theorem DG (W:W11 S n l d names ids rows fc) (i:Nat):∃T S',SelfNe T∧Ext S S'∧∀sl,goF eB [.cell n, .lst (names.map .str), .lst (ids.map .cell), .cell fc, .int (i:Int)] ⟨sl,S⟩= .ok (.d (.tup [T,T])) ⟨sl,S'⟩:=by
 obtain ⟨fl,s',e,⟨T,hT,h⟩,hE⟩:=(as_w W i).is
 exact ⟨T,s'.st,hT,hE,fun sl=>dY (by show Wp (mc (asS n names ids fc (i:Int) none none none none none none none none none S)) _ _; rw [e]; exact ⟨h,rfl⟩)⟩
end
abbrev lwS (ns:List Int) (v1:Option Vl) (names:List Str) (v3 v4 v5 v6 v7 v8 v9 v10 v11:Option Vl) (S:Sto):SD:=⟨[some (.d (.con (ns.map .int))),v1,some (.own (.lst (names.map .str))),v3,v4,v5,v6,v7,v8,v9,v10,v11],S⟩
section
variable {S S' S1:Sto} {n l d fc s k c0 m:Nat} {names:List Str} {ids:List Nat} {rows:List Ro} {h z:D} {num i:Int} {f:Int→Int} {v1 v5 v6 v10 v11:Option Vl}
theorem good_wr {N:ND} (h:Good N) (hg:N.given≤M60):WrN N:=
 ⟨h.nm,h.nl,fun q hq=>⟨h.g0.2 q hq,Int.le_trans (h.ts q hq).1 hg,(h.ts q hq).2,(h.tn q hq).1,(h.tn q hq).2⟩,h.tl,h.rise,h.g0.1,hg⟩
theorem W11.wr (W:W11 S n l d names ids rows fc):WrN (aL names rows rows.length):=good_wr W.good (by show ((rows.length:Nat):Int)≤M60; have:=W.z; have:M60=1000000000000000000000000000000000000000000000000000000000000:=rfl; omega)
noncomputable def lwB:SD→R Fl:=(aj (ax (ar eB [] (zA (aa 7) (zA (aa 2) (zA (aa 3) (zA (aa 4) (zA (ar bc [] (zA (aa 0) (zA (z2 cj (zC (.int 72)) (aa 5)) zA0))) zA0)))))) (kj [10,11]))
 (bP (zOr (zB (z2 An (aa 11) (aa 10))) (zOr (zB (z2 oNe (aa 4) (aa 9))) (zB (z2 oNe (ar aC [] (zA (aa 7) zA0)) (aa 8))))) (bo (zC (.bl false))) az))
theorem lw_turn {G:SD→R Fl} (hG:G=lwB) (ns:List Int) (W:W11 S n l d names ids rows fc) (hk:k≤100) {L:List D} {K:List (Key×D)} (hL:L=(C9 (aL names rows rows.length)).map .str) (hK:K=ao F0 (numL rows.length)):
  Wp (G ⟨[some (.d (.con (ns.map .int))),v1,some (.d (.lst (names.map .str))),some (.d (.lst (ids.map .cell))),some (.d (.cell fc)),some (.d (.int (k:Int))),v6,some (.d (.cell n)),some (.own (.lst L)),some (.own (.dct K)),v10,v11],S⟩)
   (fun fl s' =>fl= .nx∧∃v10 v11 S',s' =⟨[some (.d (.con (ns.map .int))),v1,some (.d (.lst (names.map .str))),some (.d (.lst (ids.map .cell))),some (.d (.cell fc)),some (.d (.int (k:Int))),v6,some (.d (.cell n)),some (.own (.lst L)),some (.own (.dct K)),v10,v11],S'⟩∧Ext S S') XF:=by
 obtain ⟨i,i0,_,en⟩:=jS ns (72+(k:Int)) (by omega) (by omega)
 obtain ⟨i,rfl⟩:=Int.eq_ofNat_of_zero_le i0
 obtain ⟨T,S2,hT,E2,e1⟩:=DG W i
 have W2:=W.ext E2
 have e2:=fun sl=>nP (sl:=sl) W2.net W2.wr
 rw [←hL] at e2
 have cf:=W2.cf
 have un:∀(a b:D) (u:SD),unpK [10,11] u (some (.tup [a,b]))= .ok () {u with sl:=cA [10,11] [a,b] u.sl}:=fun _ _ _=>rfl
 have c1:=hT.c
 have c2:=hT.e
 have dK:rM (ao F0 (numL rows.length)) K=true:=by rw [hK]; exact ye (List.Perm.refl _)
 have q1:=fun s:SD=>neK_dd (s:=s) dK
 have q2:∀s:SD,neK s (some (.lst L)) (some (.lst L))= .ok (.d (.bl false)) s:=fun s=>by
  have e:dEq (.lst L) (.lst L)=some true:=by rw [hL]; exact eq_netL W.wr
  unfold neK
  simp only [e]
  rfl
 subst hG
 unfold lwB
 simp! only [en,e1,un,c1,c2,cf,q1,e2,q2]
 exact ⟨_,_,_,rfl,E2⟩
theorem law_c {G:SD→R Fl} (hG:G=(aj (ax (ar gH [] (zA (aa 2) (zA (aa 3) zA0))) (zSt 7))
 (aj (ax (ar aC [] (zA (aa 7) zA0)) (zSt 8))
 (aj (ax (z1 fN (aa 4)) (zSt 9))
 (aj (eJ (pO (zA (zC (.int 6)) zA0)) (zSt 5) (aj (ax (ar eB [] (zA (aa 7) (zA (aa 2) (zA (aa 3) (zA (aa 4) (zA (ar bc [] (zA (aa 0) (zA (z2 cj (zC (.int 72)) (aa 5)) zA0))) zA0)))))) (kj [10,11]))
 (bP (zOr (zB (z2 An (aa 11) (aa 10))) (zOr (zB (z2 oNe (aa 4) (aa 9))) (zB (z2 oNe (ar aC [] (zA (aa 7) zA0)) (aa 8))))) (bo (zC (.bl false))) az)))
 (bo (zC (.bl true)))))))) (ns:List Int) (hl:ids.length=rows.length) (HR:∀k i,ids[k]? =some i→i<S.nx∧S.get i=some (.dct (r6 k (rows.getD k ro0)))) (cf:S.get fc=some (.dct (ao F0 (numL rows.length)))) (hfc:fc<S.nx) (nd:names.Nodup) (nm:∀z∈names,ux z∧z.length≤11)
  (m2:2≤names.length) (m6:names.length≤6) (ri:∀ro∈rows,RoIn ro names.length∧ro.l=0) (hz:rows.length≤20):
  Wp (G (lwS ns v1 names (some (.d (.lst (ids.map .cell)))) (some (.d (.cell fc))) v5 v6 none none none none none S)) (fun fl _=>fl= .rt (.d (.bl true))) XF:=by
 obtain ⟨S1,N1,E1,n1,e1⟩:=g_Lmade (x:= .lst (ids.map .cell)) (num:=iL) (.inl rfl) ⟨hl,fun k i e=>⟨(HR k i e).1,_,(HR k i e).2,r6_C⟩⟩ (fun c e=>by cases e) nd (fun z h=>(nm z h).1) (by omega) (fun r h=>(ri r h).1) (by omega)
 have W:W11 S1 S.nx (S.nx+1) (S.nx+2) names ids rows fc:=⟨N1,by omega,by omega,by omega,⟨hl,fun k i e=>⟨_,(E1.get i (HR k i e).1).trans (HR k i e).2,r6_C.toRowB⟩⟩,fun i hi=>by
  obtain ⟨k,hk,e⟩:=List.getElem_of_mem hi
  exact Nat.lt_of_lt_of_le (HR k i (by rw [List.getElem?_eq_getElem hk,e])).1 E1.nx,(E1.get fc hfc).trans cf,Nat.lt_of_lt_of_le hfc E1.nx,nd,nm,m2,m6,fun r h=>(ri r h).1,fun r h=>(ri r h).2,hz⟩
 obtain ⟨gB,hB⟩:∃G,G=lwB:=⟨_,rfl⟩
 have e0:G=(aj (ax (ar gH [] (zA (aa 2) (zA (aa 3) zA0))) (zSt 7))
 (aj (ax (ar aC [] (zA (aa 7) zA0)) (zSt 8))
 (aj (ax (z1 fN (aa 4)) (zSt 9))
 (aj (eJ (pO (zA (zC (.int 6)) zA0)) (zSt 5) gB)
 (bo (zC (.bl true))))))):=by rw [hG,hB]; rfl
 have tn:=fun {k S' v6 v10 v11 L K} W hk hL hK=>lw_turn (v1:=v1) (v6:=v6) (v10:=v10) (v11:=v11) (k:=k) (S:=S') (L:=L) (K:=K) hB ns (W:W11 S' S.nx (S.nx+1) (S.nx+2) names ids rows fc) hk hL hK
 have e2:=fun sl=>nP (sl:=sl) W.net W.wr
 have cf1:=W.cf
 obtain ⟨L,hL⟩:∃L:List D,L=(C9 (aL names rows rows.length)).map .str:=⟨_,rfl⟩
 rw [←hL] at e2
 obtain ⟨K,hK⟩:∃K,K=ao F0 (numL rows.length):=⟨_,rfl⟩
 rw [←hK] at cf1
 rw [e0]
 clear e0 hG hB
 simp! only [e1,e2,cf1,jW]
 rw [ae]
 refine iM (fun j s' =>∃v5 v10 v11 S5,s' =⟨[some (.d (.con (ns.map .int))),v1,some (.d (.lst (names.map .str))),some (.d (.lst (ids.map .cell))),some (.d (.cell fc)),v5,v6,some (.d (.cell S.nx)),some (.own (.lst L)),some (.own (.dct K)),v10,v11],S5⟩∧Ext S1 S5) nl0 (fun _ _ _=>trivial) ⟨_,_,_,_,rfl,Ext.refl⟩ (fun j x s' ex hI=>?_) (fun s' hI=>?_)
 ·obtain ⟨u5,u10,u11,S5,rfl,E5⟩:=hI
  have ex:(Z.upTo 0 6)[j]? =some x:=ex
  rw [qc,List.getElem?_map] at ex
  have hj:j<6:=Classical.byContradiction fun q=>by
   rw [List.getElem?_eq_none (by rw [List.length_range]; omega)] at ex; cases ex
  rw [List.getElem?_range hj] at ex
  cases ex
  obtain ⟨fl,s2,e4,rfl,u10',u11',S6,rfl,E6⟩:=(tn (k:=j) (v6:=v6) (v10:=u10) (v11:=u11) (W.ext E5) (by omega) hL hK).is
  simp! only [e4]
  exact ⟨_,_,_,_,rfl,E5.trans E6⟩
 ·obtain ⟨u5,u10,u11,S5,rfl,E5⟩:=hI
  simp! only []
noncomputable def lrB:SD→R Fl:=(aj (eV (aa 6) (zC (.str "number")) (z2 cj (aa 5) (zC (.int 1))))
 (eV (aa 4) (z2 cj (aa 5) (zC (.int 1))) (zC (.int 0))))
theorem law_b {G:SD→R Fl} (hG:G=(aj (ax (dk ku) (zSt 4))
 (aj (eJ (kr (aZ (aa 3))) (kj [5,6]) (aj (eV (aa 6) (zC (.str "number")) (z2 cj (aa 5) (zC (.int 1))))
 (eV (aa 4) (z2 cj (aa 5) (zC (.int 1))) (zC (.int 0)))))
 (aj (ax (ar gH [] (zA (aa 2) (zA (aa 3) zA0))) (zSt 7))
 (aj (ax (ar aC [] (zA (aa 7) zA0)) (zSt 8))
 (aj (ax (z1 fN (aa 4)) (zSt 9))
 (aj (eJ (pO (zA (zC (.int 6)) zA0)) (zSt 5) (aj (ax (ar eB [] (zA (aa 7) (zA (aa 2) (zA (aa 3) (zA (aa 4) (zA (ar bc [] (zA (aa 0) (zA (z2 cj (zC (.int 72)) (aa 5)) zA0))) zA0)))))) (kj [10,11]))
 (bP (zOr (zB (z2 An (aa 11) (aa 10))) (zOr (zB (z2 oNe (aa 4) (aa 9))) (zB (z2 oNe (ar aC [] (zA (aa 7) zA0)) (aa 8))))) (bo (zC (.bl false))) az)))
 (bo (zC (.bl true)))))))))) (ns:List Int) {K:Nat} {F:Nat→Ro} (hids:ids=(List.range K).map (c0+ ·)) (hk:K≤20) (at1:∀k,k<K→c0+k<S.nx∧S.get (c0+k)=some (.dct (r5 (F k)))) (hF:∀k,k<K→RoIn (F k) names.length∧(F k).l=0)
  (nd:names.Nodup) (nm:∀z∈names,ux z∧z.length≤11) (m2:2≤names.length) (m6:names.length≤6):
  Wp (G (lwS ns v1 names (some (.own (.lst (ids.map .cell)))) none v5 none none none none none none S)) (fun fl _=>fl= .rt (.d (.bl true))) XF:=by
 obtain ⟨rows,hrows⟩:∃rows:List Ro,rows=(List.range K).map F:=⟨_,rfl⟩
 have lr:rows.length=K:=by rw [hrows,List.length_map,List.length_range]
 have gr:∀k,k<K→rows.getD k ro0=F k:=fun k hk=>by rw [hrows,List.getD_eq_getElem?_getD,List.getElem?_map,List.getElem?_range hk]; rfl
 obtain ⟨gE,hE⟩:∃G,G=(aj (ax (ar gH [] (zA (aa 2) (zA (aa 3) zA0))) (zSt 7))
 (aj (ax (ar aC [] (zA (aa 7) zA0)) (zSt 8))
 (aj (ax (z1 fN (aa 4)) (zSt 9))
 (aj (eJ (pO (zA (zC (.int 6)) zA0)) (zSt 5) (aj (ax (ar eB [] (zA (aa 7) (zA (aa 2) (zA (aa 3) (zA (aa 4) (zA (ar bc [] (zA (aa 0) (zA (z2 cj (zC (.int 72)) (aa 5)) zA0))) zA0)))))) (kj [10,11]))
 (bP (zOr (zB (z2 An (aa 11) (aa 10))) (zOr (zB (z2 oNe (aa 4) (aa 9))) (zB (z2 oNe (ar aC [] (zA (aa 7) zA0)) (aa 8))))) (bo (zC (.bl false))) az)))
 (bo (zC (.bl true))))))):=⟨_,rfl⟩
 obtain ⟨gB,hB⟩:∃G,G=lrB:=⟨_,rfl⟩
 have e0:G=(aj (ax (dk ku) (zSt 4))
 (aj (eJ (kr (aZ (aa 3))) (kj [5,6]) gB)
 gE)):=by rw [hG,hE,hB]; rfl
 have il:ids.length=K:=by rw [hids,List.length_map,List.length_range]
 have fin:=fun {S5 v5 v6} HR cf hfc=>law_c (v1:=v1) (v5:=v5) (v6:=v6) (S:=S5) (ids:=ids) (rows:=rows) (fc:=S.nx) hE ns (by omega) HR cf hfc nd nm m2 m6 (fun r h=>by
  rw [hrows] at h
  obtain ⟨k,hk,rfl⟩:=List.mem_map.mp h
  exact hF k (List.mem_range.mp hk)) (by omega)
 rw [e0]
 clear e0 hG hE
 simp! only []
 rw [ae]
 refine iM (fun j s' =>j≤K∧∃v5 v6 S5,s' =lwS ns v1 names (some (.d (.lst (ids.map .cell)))) (some (.d (.cell S.nx))) v5 v6 none none none none none S5∧S5.nx=S.nx+1∧S5.get S.nx=some (.dct (ao F0 (numL j)))∧∀k,k<K→S5.get (c0+k)=some (.dct (if k<j then r6 k (F k) else r5 (F k)))) Nl.d1 (fun _ _ _=>trivial) ⟨Nat.zero_le _,_,_,_,rfl,rfl,dr,fun k hk=>?_⟩ (fun j x s' ex hI=>?_) (fun s' hI=>?_)
 ·rw [if_neg (by omega),iR (by have:=(at1 k hk).1; omega)]
  exact (at1 k hk).2
 ·obtain ⟨_,u5,u6,S5,rfl,nx5,cf5,at5⟩:=hI
  have ex:(bS (ids.map D.cell))[j]? =some x:=ex
  rw [iB,hids,List.getElem?_map,List.getElem?_map] at ex
  have hj:j<K:=Classical.byContradiction fun q=>by
   rw [List.getElem?_eq_none (by rw [List.length_range]; omega)] at ex; cases ex
  rw [List.getElem?_range hj] at ex
  have ex:some (D.tup [.int (j:Int), .cell (c0+j)])=some x:=ex
  cases ex
  have g1:=at5 j hj
  rw [if_neg (by omega)] at g1
  have lt1:=(at1 j hj).1
  have p1:=fun (a:Vl) (s:SD)=>fF (a:=a) (x:= .int ((j:Int)+1)) (s:=s) (k:= .inr "number") (z:= .str "number") (ks:=r5 (F j)) rfl (by show 5<sizeLine; decide)
  have e1:jt (r5 (F j)) (.inr "number") (.int ((j:Int)+1))=r6 j (F j):=rfl
  rw [e1] at p1
  have p2:=fun (a:Vl) (s:SD)=>fF (a:=a) (x:= .int 0) (s:=s) (k:= .inl ((j:Int)+1)) (z:= .int ((j:Int)+1)) (ks:=ao F0 (numL j)) rfl (by rw [cH,numL_len,sizeLine_eq]; omega)
  have e2:jt (ao F0 (numL j)) (.inl ((j:Int)+1)) (.int 0)=ao F0 (numL (j+1)):=by
   rw [hV fun hm=>?_,Aq]
   ·refine nU fun i _=>?_
    show (if i=(j:Int)+1 then (0:Int) else F0 i)=0
    split<;> rfl
   ·obtain ⟨q,hq,e⟩:=List.mem_map.mp hm
    have hq:=List.mem_range.mp hq
    omega
  rw [e2] at p2
  have g2:(S5.put (c0+j) (.dct (r6 j (F j)))).get S.nx=some (.dct (ao F0 (numL j))):=(Z.Sto.put_ne (by omega)).trans cf5
  rw [hB]
  unfold lrB
  simp! only [g1,p1,g2,p2]
  refine ⟨by omega,_,_,_,rfl,nx5,Z.Sto.put_same,fun k hk=>?_⟩
  have lt2:=(at1 k hk).1
  rw [Z.Sto.put_ne (by omega)]
  by_cases ck:k=j
  ·subst ck
   rw [if_pos (by omega)]
   exact Z.Sto.put_same
  ·rw [Z.Sto.put_ne (by omega),at5 k hk]
   by_cases c2:k<j
   ·rw [if_pos c2,if_pos (by omega)]
   ·rw [if_neg c2,if_neg (by omega)]
 ·have hI:(bS (ids.map D.cell)).length≤K∧∃v5 v6 S5,s' =lwS ns v1 names (some (.d (.lst (ids.map .cell)))) (some (.d (.cell S.nx))) v5 v6 none none none none none S5∧S5.nx=S.nx+1∧S5.get S.nx=some (.dct (ao F0 (numL (bS (ids.map D.cell)).length)))∧∀k,k<K→S5.get (c0+k)=some (.dct (if k<(bS (ids.map D.cell)).length then r6 k (F k) else r5 (F k))):=hI
  have el:(bS (ids.map D.cell)).length=K:=by unfold bS; rw [List.length_map,List.length_zipIdx,List.length_map,il]
  rw [el] at hI
  obtain ⟨_,u5,u6,S5,rfl,nx5,cf5,at5⟩:=hI
  simp! only []
  refine fin (fun k i e=>?_) (by rw [lr]; exact cf5) (by omega)
  have hk2:k<K:=by rw [←il]; exact (List.getElem?_eq_some_iff.mp e).1
  rw [hids,List.getElem?_map,List.getElem?_range hk2] at e
  have e:c0+k=i:=Option.some.inj e
  subst e
  refine ⟨by have:=(at1 k hk2).1; omega, ?_⟩
  rw [at5 k hk2,if_pos hk2,gr k hk2]
theorem g_law (ns:List Int) (S:Sto):Wp (b_law ⟨[some (.d (.con (ns.map .int))),none,none,none,none,none,none,none,none,none,none,none],S⟩) (fun fl _=>fl= .rt (.d (.bl true))) XF:=by
 obtain ⟨g3,h3⟩:∃G,G=(aj (ax (dk ku) (zSt 4))
 (aj (eJ (kr (aZ (aa 3))) (kj [5,6]) (aj (eV (aa 6) (zC (.str "number")) (z2 cj (aa 5) (zC (.int 1))))
 (eV (aa 4) (z2 cj (aa 5) (zC (.int 1))) (zC (.int 0)))))
 (aj (ax (ar gH [] (zA (aa 2) (zA (aa 3) zA0))) (zSt 7))
 (aj (ax (ar aC [] (zA (aa 7) zA0)) (zSt 8))
 (aj (ax (z1 fN (aa 4)) (zSt 9))
 (aj (eJ (pO (zA (zC (.int 6)) zA0)) (zSt 5) (aj (ax (ar eB [] (zA (aa 7) (zA (aa 2) (zA (aa 3) (zA (aa 4) (zA (ar bc [] (zA (aa 0) (zA (z2 cj (zC (.int 72)) (aa 5)) zA0))) zA0)))))) (kj [10,11]))
 (bP (zOr (zB (z2 An (aa 11) (aa 10))) (zOr (zB (z2 oNe (aa 4) (aa 9))) (zB (z2 oNe (ar aC [] (zA (aa 7) zA0)) (aa 8))))) (bo (zC (.bl false))) az)))
 (bo (zC (.bl true))))))))):=⟨_,rfl⟩
 have e0:b_law=(aj (ax (z2 cj (zC (.int 2)) (z2 dh (ar bc [] (zA (aa 0) (zA (zC (.int 70)) zA0))) (zC (.int 5)))) (zSt 1))
 (aj (ax (ar lR [] (zA (ar bc [] (zA (aa 0) (zA (zC (.int 71)) zA0))) (zA (aa 1) zA0))) (zSt 2))
 (aj (ax (zLc (pO (zA (z2 oMin (z1 jn (aa 0)) (zC (.int 20))) zA0)) (zSt 5) eU (ar sF [] (zA (aa 0) (zA (aa 5) (zA (aa 1) zA0)))) [5]) (zSt 3))
 g3))):=by rw [h3]; rfl
 obtain ⟨n,n0,n1,en1⟩:=jS ns 70 (by omega) (by omega)
 obtain ⟨n,rfl⟩:=Int.eq_ofNat_of_zero_le n0
 obtain ⟨n2,n20,n21,en2⟩:=jS ns 71 (by omega) (by omega)
 obtain ⟨m,hm⟩:∃m:Nat,m=2+n%5:=⟨_,rfl⟩
 have em:2+(n:Int)%5=(m:Int):=by rw [hm]; rfl
 obtain ⟨names,nd,nm,ln,e3⟩:=Ba (n:=n2) (m:=m) n20 (by omega) (by omega)
 have b5:((0:Int)<5)=True:=by decide
 have H:∀k:Nat,∃ro:Ro,k≤100→RoIn ro m∧ro.l=0∧∀(sl:List (Option Vl)) (S:Sto),goF sF [.con (ns.map .int), .int (k:Int), .int (m:Int)] ⟨sl,S⟩= .ok (.d (.cell S.nx)) ⟨sl,S.new (.dct (r5 ro))⟩:=fun k=>by
  by_cases hk:k≤100
  ·obtain ⟨ro,h⟩:=g_Lrow (m:=m) ns hk (by omega)
   exact ⟨ro,fun _=>h⟩
  ·exact ⟨ro0,fun h=>absurd h hk⟩
 obtain ⟨F,hF⟩:=Classical.axiomOfChoice H
 obtain ⟨K,hK,k1⟩:∃K:Nat,(if (20:Int)<(ns.length:Int) then 20 else (ns.length:Int))=(K:Int)∧K≤20:=by
  by_cases c:20<ns.length
  ·exact ⟨20,by rw [if_pos (by omega)]; rfl,by omega⟩
  ·exact ⟨ns.length,by rw [if_neg (by omega)],by omega⟩
 have len:(((ns.map D.int).length:Nat):Int)=(ns.length:Int):=by rw [List.length_map]
 have zr:=rg62 (m:=K) (by rw [sizeLine_eq]; omega)
 have lp:(Z.upTo 0 K).length=K:=by rw [qc,List.length_map,List.length_range]
 have lb:=fun {S1 c0} at1 hids=>law_b (S:=S1) (c0:=c0) (v1:=some (.d (.int (m:Int)))) (v5:=none) (ids:=(List.range K).map (c0+ ·)) h3 ns (K:=K) (F:=F) hids k1 at1 (fun k hk=>⟨by rw [ln]; exact (hF k (by omega)).1,(hF k (by omega)).2.1⟩) nd nm (by omega) (by omega)
 rw [e0]
 clear e0 h3
 simp! only [en1,en2,b5,em,e3,len,hK,zr,Int.toNat_natCast]
 rw [xn (f:=fun d=>match d with | .int k=> .dct (r5 (F k.toNat)) | _=> .non) (sl:= [some (.d (.con (ns.map .int))),some (.d (.int (m:Int))),some (.own (.lst (names.map .str))),none,none,none,none,none,none,none,none,none]) nl0 rfl (fun d hd S=>?_) (by rw [lp,sizeLine_eq]; omega)]
 ·rw [lp]
  have em2:((List.range K).map fun p=>D.cell (S.nx+p))=((List.range K).map (S.nx+ ·)).map D.cell:=by rw [List.map_map]; rfl
  rw [em2]
  obtain ⟨S1,hS1⟩:∃S1,S1=gV ((Z.upTo 0 K).map fun d=>match d with | .int k=>D.dct (r5 (F k.toNat)) | _=> .non) S:=⟨_,rfl⟩
  rw [←hS1]
  have nx1:S1.nx=S.nx+K:=by rw [hS1]; show S.nx+_=_; rw [List.length_map,lp]
  have at1:∀k,k<K→S.nx+k<S1.nx∧S1.get (S.nx+k)=some (.dct (r5 (F k))):=fun k hk=>⟨by omega,by
   rw [hS1]
   refine xa ?_
   rw [List.getElem?_map,qc,List.getElem?_map,List.getElem?_range hk]
   rfl⟩
  simp! only []
  exact lb at1 rfl
 ·rw [qc] at hd
  obtain ⟨k,hk,rfl⟩:=List.mem_map.mp hd
  have hk:=List.mem_range.mp hk
  have e1:=(hF k (by omega)).2.2
  simp! only [e1]
  rfl
end
end T

namespace T
open PySem PySem.Spec PyProof.Rows L2 M Z
open Classical
section
variable {K:PySem.W.Frag} {mg:Str→Option Value}
theorem sW {G:Gc} {p:Wr}:∀ns:List Int,Reps G p (ns.map D.int) (ns.map V.int)
 | []=>rfl
 | n::ns=>⟨.int n,ns.map V.int,rfl,rfl,sW ns⟩
theorem law_sp {vs:List V} {H:Hp} {Q:VK} {E:XK} (h:zi K vs H Q E):spF ⟨K,mg⟩ 1 v_law vs H Q (fun _ _ _=>False):=by
 obtain ⟨a,ns,rfl,hS,q⟩:=h
 refine ⟨rfl,⟨fun _=>False,⟨fun _=>a,0,fun _=>False,H⟩,⟨0,fun _=>none⟩⟩,0,⟨fun _=>a,0,fun _=>False,H⟩,[],[],⟨0,fun _=>none⟩,[.con (ns.map .int)],rfl, ?_, ?_, ?_⟩
 ·exact {len:=rfl,pn:=rfl,nx:=Nat.le_refl _,ebd:=fun i d e=>(by cases e),old:=fun _ _=>rfl,bd:=fun i d e=>(by cases e),cel:=fun i d e=>(by cases e),inj:=fun i j d e h=>(by cases h),born:=fun i d e=>(by cases e),frm:=fun a h=>h.elim,kp:=fun b o e _=>⟨fun f=>f.elim, .inl e⟩,sub:=fun b o e=>⟨o,e⟩,grw:=fun _ _ _ h=>h,dom:=fun a h=>h.elim,ent:=fun k e q=>(by simp at q),own:=fun k x a q=>(by simp at q),sep:=fun j k x y a q=>(by simp at q),tb:=fun t ht=>(by unfold lamT at ht; cases ht)}
 ·exact ⟨.ref a,[],rfl,⟨a,ns.map V.int,rfl,hS.imp (fun r=>⟨id,r⟩) id,sW ns⟩,rfl⟩
 ·obtain ⟨fl,s',e,rfl⟩:=(g_law ns ⟨0,fun _=>none⟩).is
  have e2:v_law [.con (ns.map .int)] ⟨0,fun _=>none⟩= .ok (.d (.bl true)) s' :=yu e rfl
  rw [e2]
  intro v p' h'
  obtain ⟨v',e3,r⟩:=h'.ent 0 (.d (.bl true)) rfl
  cases e3
  obtain rfl:v= .bl true:=r
  exact q _
end
end T

open PySem PySem.Spec PyProof.Rows
namespace T
open PySem PySem.Spec PyProof.Rows L2 M Z
open PySem.W (Frag findIn fnOf isFn keepIn makesIn mg_none_of mg_of)
section
variable {K:Frag} {mg:Str→Option Value} {f C:Addr} {q m x:Str} {st:Stmt} {ps:List Str}
theorem dfY (l:FnG K f q st) (g:mg q=some (.ref f)) (hb:∀{fd:FuncData},L2.Fun K q q st f fd→L2.Binds K fd ps []):Df K mg q st ps:=⟨⟨_,_,l.l.fn.choose_spec,g,hb l.l.fn.choose_spec⟩⟩
theorem dmY (l:FnM K C f m q st) (c:Cls K C) (hb:∀{fd:FuncData},L2.Fun K m q st f fd→L2.Binds K fd ps []):Dm K C m q st ps:=⟨⟨_,_,l.l.fn.choose_spec,c,⟨l.a,l.i,l.l.fn.choose_spec.kp⟩,hb l.l.fn.choose_spec⟩⟩
theorem dkY (l:FnAt K f "__init__" q st) (mk:makesIn K C=true) (a:findIn K (.ref C) "__init__" =some (some (.ref f))) (i:isFn K (.ref f)=true) (kc:keepIn K (.ref C)=true) (g:mg x=some (.ref C)) (hb:∀{fd:FuncData},L2.Fun K "__init__" q st f fd→L2.Binds K fd ps []):Dk K mg x C q st ps:=
 ⟨⟨_,_,l.fn.choose_spec,⟨mk,a,i,kc⟩,g,hb l.fn.choose_spec⟩⟩
end
local macro_rules | `(tactic| walk_at "b1") => `(tactic| exact fun F => F.binds fun _ _ _ _ _ _ us hl => match us, hl with | [_], _ => rfl)
local macro_rules | `(tactic| walk_at "b2") => `(tactic| exact fun F => F.binds fun _ _ _ _ _ _ us hl => match us, hl with | [_, _], _ => rfl)
local macro_rules | `(tactic| walk_at "b3") => `(tactic| exact fun F => F.binds fun _ _ _ _ _ _ us hl => match us, hl with | [_, _, _], _ => rfl)
local macro_rules | `(tactic| walk_at "b4") => `(tactic| exact fun F => F.binds fun _ _ _ _ _ _ us hl => match us, hl with | [_, _, _, _], _ => rfl)
local macro_rules | `(tactic| walk_at "b5") => `(tactic| exact fun F => F.binds fun _ _ _ _ _ _ us hl => match us, hl with | [_, _, _, _, _], _ => rfl)
local macro_rules | `(tactic| walk_at "b7") => `(tactic| exact fun F => F.binds fun _ _ _ _ _ _ us hl => match us, hl with | [_, _, _, _, _, _, _], _ => rfl)
set_option maxHeartbeats 0 in
theorem all_mk {l:PySem.W.OpenLaw} {w:World} {K:Frag} {h:Heap} {mg:Str→Option Value} {fa:Addr} (X:K.In h) (G:h.Ns mainGlobals mg) (hfa:mg "law" =some (.ref fa)) {Ca Cb Cc Cd Ce Cf Cg Ch Ci Cj Ck Cl Cm Cn Co Cp Cq Cr Cs Ct Cu:Addr} (q0:Q0 K Ca Cb Cc Cd Ce Cf Cg Ch Ci Cj Ck Cl Cm Cn Co Cp Cq Cr Cs Ct Cu) (q1:Q1 K Ca Cb Cc Cd Ce Cf Cg Ch Ci Cj Ck Cl Cm Cn Co Cp Cq Cr Cs Ct Cu) (q2:Q2 K Ca Cb Cc Cd Ce Cf Cg Ch Ci Cj Ck Cl Cm Cn Co Cp Cq Cr Cs Ct Cu) (q3:Q3 K Ca Cb Cc Cd Ce Cf Cg Ch Ci Cj Ck Cl Cm Cn Co Cp Cq Cr Cs Ct Cu) (q4:Q4 K Ca Cb Cc Cd Ce Cf Cg Ch Ci Cj Ck Cl Cm Cn Co Cp Cq Cr Cs Ct Cu) (q5:Q5 K Ca Cb Cc Cd Ce Cf Cg Ch Ci Cj Ck Cl Cm Cn Co Cp Cq Cr Cs Ct Cu) (q6:Q6 K Ca Cb Cc Cd Ce Cf Cg Ch Ci Cj Ck Cl Cm Cn Co Cp Cq Cr Cs Ct Cu) (q7:Q7 K Ca Cb Cc Cd Ce Cf Cg Ch Ci Cj Ck Cl Cm Cn Co Cp Cq Cr Cs Ct Cu) (q8:Q8 K Ca Cb Cc Cd Ce Cf Cg Ch Ci Cj Ck Cl Cm Cn Co Cp Cq Cr Cs Ct Cu) (q9:Q9 K Ca Cb Cc Cd Ce Cf Cg Ch Ci Cj Ck Cl Cm Cn Co Cp Cq Cr Cs Ct Cu) (q10:Q10 K Ca Cb Cc Cd Ce Cf Cg Ch Ci Cj Ck Cl Cm Cn Co Cp Cq Cr Cs Ct Cu):
  ∃fd:FuncData,(∀(s:Shared) (v:Value),BindsTo s fd ⟨[v],[]⟩ [("_law_script",v)])∧∀base:Heap,K.In base→base.Ns mainGlobals mg→FnOk l.prog w K mg base L2.CX0 9 fa fd ["_law_script"] (zi K):=by
 have e:=hfa.symm.trans (mg_of X G q10.a54)
 cases e
 have T:Txt K mg Ca Cb Cc Cd Ce Cf Cg Ch Ci Cj Ck Cl Cm Cn Co Cp Cq Cr Cs Ct Cu:=⟨mg_none_of X G q0.z_ValueError,mg_none_of X G q1.z_all,mg_none_of X G q1.z_bool,mg_none_of X G q1.z_dict,mg_none_of X G q1.z_enumerate,mg_none_of X G q1.z_int,mg_none_of X G q1.z_isinstance,mg_none_of X G q1.z_len,mg_none_of X G q1.z_list,mg_none_of X G q1.z_min,mg_none_of X G q1.z_range,mg_none_of X G q1.z_sorted,mg_none_of X G q1.z_str,⟨_,mg_of X G q1.g_LETTERS,⟨_,rfl⟩⟩,⟨_,mg_of X G q1.g_MOST_LETTERS,⟨_,rfl⟩⟩,⟨_,mg_of X G q1.g_MOST,⟨_,rfl⟩⟩,⟨_,mg_of X G q1.g_MOST_PLACES,⟨_,rfl⟩⟩,⟨_,mg_of X G q1.g_MOST_TIES,⟨_,rfl⟩⟩,mg_of X G q0.m_FlowError,mg_of X G q0.m_BadName,mg_of X G q0.m_Twice,mg_of X G q0.m_TooMany,mg_of X G q0.m_NoPlace,mg_of X G q0.m_BadTie,mg_of X G q0.m_BadRoom,mg_of X G q0.m_BadPrice,mg_of X G q0.m_NoTie,mg_of X G q0.m_BadLine,mg_of X G q0.m_BadFlow,mg_of X G q0.m_SamePlace,mg_of X G q0.m_NoFlow,mg_of X G q0.m_Endless,mg_of X G q0.m_Forever,mg_of X G q0.m_BadQuestion,mg_of X G q0.m_NoDeed,mg_of X G q0.m_Rest,mg_of X G q0.m_Raised,mg_of X G q0.m_Tie,mg_of X G q0.m_Net,⟨q0.pg_CRest,q0.hd_CRest,q0.po_CRest,q0.sa_CRest⟩,⟨q0.pg_CRaised,q0.hd_CRaised,q0.po_CRaised,q0.sa_CRaised⟩,⟨q0.pg_CTie,q0.hd_CTie,q0.po_CTie,q0.sa_CTie⟩,⟨q0.pg_CNet,q0.hd_CNet,q0.po_CNet,q0.sa_CNet⟩,q1.n_amount_Raised,q1.n_flow_Raised,q1.n_head_Tie,q1.n_heads_Rest,q1.n_last_given_Net,q1.n_least_Tie,q1.n_many_Rest,q1.n_most_Tie,q1.n_names_Net,q1.n_number_Tie,q1.n_price_Tie,q1.n_rooms_Rest,q1.n_rows_Net,q1.n_side_Raised,q1.n_starts_Rest,q1.n_tail_Tie,⟨q1.xhd_FlowError,q1.xty_FlowError,q1.xme_FlowError,q1.xb_FlowError⟩,⟨q1.xhd_BadName,q1.xty_BadName,q1.xme_BadName,q1.xb_BadName⟩,⟨q2.xhd_Twice,q2.xty_Twice,q2.xme_Twice,q2.xb_Twice⟩,⟨q2.xhd_TooMany,q2.xty_TooMany,q2.xme_TooMany,q2.xb_TooMany⟩,⟨⟨q2.xhd_NoPlace,q2.xty_NoPlace,q2.xme_NoPlace,q2.xb_NoPlace⟩,q2.xga_NoPlace,q2.xgg_NoPlace,q2.xca_NoPlace,q0.xsp,q0.xtk,q2.xob_NoPlace⟩,⟨q2.xhd_BadTie,q2.xty_BadTie,q2.xme_BadTie,q2.xb_BadTie⟩,⟨q2.xhd_BadRoom,q2.xty_BadRoom,q2.xme_BadRoom,q2.xb_BadRoom⟩,⟨q2.xhd_BadPrice,q2.xty_BadPrice,q2.xme_BadPrice,q2.xb_BadPrice⟩,⟨q2.xhd_NoTie,q2.xty_NoTie,q2.xme_NoTie,q2.xb_NoTie⟩,⟨q2.xhd_BadLine,q2.xty_BadLine,q2.xme_BadLine,q2.xb_BadLine⟩,⟨⟨q2.xhd_BadFlow,q2.xty_BadFlow,q2.xme_BadFlow,q2.xb_BadFlow⟩,q2.xga_BadFlow,q2.xgg_BadFlow,q2.xca_BadFlow,q0.xsp,q0.xtk,q2.xob_BadFlow⟩,⟨⟨q3.xhd_SamePlace,q3.xty_SamePlace,q3.xme_SamePlace,q3.xb_SamePlace⟩,q3.xga_SamePlace,q3.xgg_SamePlace,q3.xca_SamePlace,q0.xsp,q0.xtk,q3.xob_SamePlace⟩,⟨q3.xhd_NoFlow,q3.xty_NoFlow,q3.xme_NoFlow,q3.xb_NoFlow⟩,⟨⟨q3.xhd_Endless,q3.xty_Endless,q3.xme_Endless,q3.xb_Endless⟩,q3.xga_Endless,q3.xgg_Endless,q3.xca_Endless,q0.xsp,q0.xtk,q3.xob_Endless⟩,⟨q3.xhd_Forever,q3.xty_Forever,q3.xme_Forever,q3.xb_Forever⟩,⟨q3.xhd_BadQuestion,q3.xty_BadQuestion,q3.xme_BadQuestion,q3.xb_BadQuestion⟩,⟨q3.xhd_NoDeed,q3.xty_NoDeed,q3.xme_NoDeed,q3.xb_NoDeed⟩,⟨q3.xq_SamePlace,q3.xk_SamePlace⟩,q3.s_NoPlace_FlowError,q3.s_BadFlow_FlowError,q3.s_SamePlace_FlowError,q3.s_Endless_FlowError,q3.s_NoPlace_BadName,q3.s_BadFlow_BadName,q4.s_SamePlace_BadName,q4.s_Endless_BadName,q4.s_NoPlace_Twice,q4.s_BadFlow_Twice,q4.s_SamePlace_Twice,q4.s_Endless_Twice,q4.s_NoPlace_TooMany,q4.s_BadFlow_TooMany,q4.s_SamePlace_TooMany,q4.s_Endless_TooMany,q4.s_NoPlace_NoPlace,q4.s_BadFlow_NoPlace,q4.s_SamePlace_NoPlace,q4.s_Endless_NoPlace,q4.s_NoPlace_BadTie,q4.s_BadFlow_BadTie,q4.s_SamePlace_BadTie,q4.s_Endless_BadTie,q4.s_NoPlace_BadRoom,q4.s_BadFlow_BadRoom,q4.s_SamePlace_BadRoom,q4.s_Endless_BadRoom,q4.s_NoPlace_BadPrice,q4.s_BadFlow_BadPrice,q4.s_SamePlace_BadPrice,q4.s_Endless_BadPrice,q4.s_NoPlace_NoTie,q4.s_BadFlow_NoTie,q4.s_SamePlace_NoTie,q4.s_Endless_NoTie,q4.s_NoPlace_BadLine,q4.s_BadFlow_BadLine,q4.s_SamePlace_BadLine,q4.s_Endless_BadLine,q4.s_NoPlace_BadFlow,q4.s_BadFlow_BadFlow,q4.s_SamePlace_BadFlow,q4.s_Endless_BadFlow,q4.s_NoPlace_SamePlace,q4.s_BadFlow_SamePlace,q5.s_SamePlace_SamePlace,q5.s_Endless_SamePlace,q5.s_NoPlace_NoFlow,q5.s_BadFlow_NoFlow,q5.s_SamePlace_NoFlow,q5.s_Endless_NoFlow,q5.s_NoPlace_Endless,q5.s_BadFlow_Endless,q5.s_SamePlace_Endless,q5.s_Endless_Endless,q5.s_NoPlace_Forever,q5.s_BadFlow_Forever,q5.s_SamePlace_Forever,q5.s_Endless_Forever,q5.s_NoPlace_BadQuestion,q5.s_BadFlow_BadQuestion,q5.s_SamePlace_BadQuestion,q5.s_Endless_BadQuestion,q5.s_NoPlace_NoDeed,q5.s_BadFlow_NoDeed,q5.s_SamePlace_NoDeed,q5.s_Endless_NoDeed,q5.s_NoPlace_ValueError,q5.s_BadFlow_ValueError,q5.s_SamePlace_ValueError,q5.s_Endless_ValueError,q5.xn_NoPlace_name,q5.xn_BadFlow_number⟩
 have F1:=L2.fun_mk (st:=aW) q6.l1 q6.c1 q6.k1
 have D_NoPlace_init:DxZ K mg "NoPlace" Ce "NoPlace.__init__" aW "name" "name" :=⟨⟨⟨_,_,_,_,_,_,_,_,_,_,_,_,_,_,_,q6.xL1,rfl⟩,q6.xsa1,q2.xb_NoPlace,q2.xty_NoPlace,q6.xkC1⟩,q6.xno1,mg_of X G q0.m_NoPlace,_,_,q6.a1,q6.i1,F1,F1.binds fun _ _ _ _ _ _ us hl=>match us,hl with | [_,_],_=>rfl⟩
 have F2:=L2.fun_mk (st:=aY) q6.l2 q6.c2 q6.k2
 have D_BadFlow_init:DxZ K mg "BadFlow" Ck "BadFlow.__init__" aY "number" "number" :=⟨⟨⟨_,_,_,_,_,_,_,_,_,_,_,_,_,_,_,q6.xL2,rfl⟩,q6.xsa2,q2.xb_BadFlow,q2.xty_BadFlow,q6.xkC2⟩,q6.xno2,mg_of X G q0.m_BadFlow,_,_,q6.a2,q6.i2,F2,F2.binds fun _ _ _ _ _ _ us hl=>match us,hl with | [_,_],_=>rfl⟩
 have F3:=L2.fun_mk (st:=aX) q6.l3 q6.c3 q6.k3
 have D_Endless_init:DxZ K mg "Endless" Cn "Endless.__init__" aX "numbers" "numbers" :=⟨⟨⟨_,_,_,_,_,_,_,_,_,_,_,_,_,_,_,q6.xL3,rfl⟩,q6.xsa3,q3.xb_Endless,q3.xty_Endless,q6.xkC3⟩,q6.xno3,mg_of X G q0.m_Endless,_,_,q6.a3,q6.i3,F3,F3.binds fun _ _ _ _ _ _ us hl=>match us,hl with | [_,_],_=>rfl⟩
 have F15:L2.FunD K "put_arc" "Rest.put_arc" (defArgs aE) (defBody aE) (defScope aE) ([.int 0]:List V) [] q7.f15 _:=⟨⟨_,_,_,_,_,_,_,_,_,_,rfl,q7.l15,q7.c15, .inr ⟨by simp,q7.T15,_,_,_,rfl,q7.t15,rfl,(.cons ⟨_,rfl⟩ .nil)⟩, .inl rfl⟩,q7.k15⟩
 have D_Rest_put_arc:Dmd K Cr "put_arc" "Rest.put_arc" aE ["self","tail","head","room","back"] [.int 0]:=⟨_,_,F15,⟨q0.pg_CRest,q0.hd_CRest,q0.po_CRest,q0.sa_CRest⟩,⟨q7.a15,q7.i15,q7.k15⟩,fun j hj=>by
  match j,hj with
  | 0,_=>exact F15.binds1 4 0 (by simp) rfl fun _ _ _ _ _ _ _ us its h1 h2=>match us,its,h1,h2 with | [_,_,_,_],[_],_,_=>⟨_,rfl,rfl⟩
  | 1,_=>exact F15.binds1 5 1 (by simp) rfl fun _ _ _ _ _ _ _ us its h1 h2=>match us,its,h1,h2 with | [_,_,_,_,_],[_],_,_=>⟨_,rfl,rfl⟩
  | j+2,hj=>simp at hj⟩
 have F38:L2.FunD K "put_tie" "Net.put_tie" (defArgs aH) (defBody aH) (defScope aH) ([.int 0, .non, .int 0]:List V) [] q9.f38 _:=⟨⟨_,_,_,_,_,_,_,_,_,_,rfl,q9.l38,q9.c38, .inr ⟨by simp,q9.T38,_,_,_,rfl,q9.t38,rfl,(.cons ⟨_,rfl⟩ (.cons rfl (.cons ⟨_,rfl⟩ .nil)))⟩, .inl rfl⟩,q9.k38⟩
 have D_Net_put_tie:Dmd K Cu "put_tie" "Net.put_tie" aH ["self","tail","head","least","most","price"] [.int 0, .non, .int 0]:=⟨_,_,F38,⟨q0.pg_CNet,q0.hd_CNet,q0.po_CNet,q0.sa_CNet⟩,⟨q9.a38,q9.i38,q9.k38⟩,fun j hj=>by
  match j,hj with
  | 0,_=>exact F38.binds1 3 0 (by simp) rfl fun _ _ _ _ _ _ _ us its h1 h2=>match us,its,h1,h2 with | [_,_,_],[_,_,_],_,_=>⟨_,rfl,rfl⟩
  | 1,_=>exact F38.binds1 4 1 (by simp) rfl fun _ _ _ _ _ _ _ us its h1 h2=>match us,its,h1,h2 with | [_,_,_,_],[_,_,_],_,_=>⟨_,rfl,rfl⟩
  | 2,_=>exact F38.binds1 5 2 (by simp) rfl fun _ _ _ _ _ _ _ us its h1 h2=>match us,its,h1,h2 with | [_,_,_,_,_],[_,_,_],_,_=>⟨_,rfl,rfl⟩
  | 3,_=>exact F38.binds1 6 3 (by simp) rfl fun _ _ _ _ _ _ _ us its h1 h2=>match us,its,h1,h2 with | [_,_,_,_,_,_],[_,_,_],_,_=>⟨_,rfl,rfl⟩
  | j+4,hj=>simp at hj⟩
 refine ⟨fnOf "law" "law" (defArgs jK) (defBody jK) (defScope jK) .none q10.kV54 q10.dc54 q10.pm54 q10.an54 q10.cd54 q10.ct54,fun s v=> .of_eq rfl,fun base _ _=>?_⟩
 have D:DD K mg Ca Cb Cc Cd Ce Cf Cg Ch Ci Cj Ck Cl Cm Cn Co Cp Cq Cr Cs Ct Cu:=⟨dfY q9.l42 (mg_of X G q9.l42.a) (by walk_at "b2"),dfY q9.l43 (mg_of X G q9.l43.a) (by walk_at "b2"),dfY q9.l44 (mg_of X G q9.l44.a) (by walk_at "b2"),dfY q9.l45 (mg_of X G q9.l45.a) (by walk_at "b3"),dfY q9.l46 (mg_of X G q9.l46.a) (by walk_at "b3"),dkY q8.l32 q8.mk32 q8.a32 q8.i32 q8.kc32 (mg_of X G q0.m_Net) (by walk_at "b1"),dfY q6.l6 (mg_of X G q6.l6.a) (by walk_at "b2"),dfY q6.l7 (mg_of X G q6.l7.a) (by walk_at "b1"),dmY q8.l36 T.c_Net (by walk_at "b2"),D_NoPlace_init,dmY q9.l37 T.c_Net (by walk_at "b2"),dfY q6.l4 (mg_of X G q6.l4.a) (by walk_at "b1"),dfY q6.l5 (mg_of X G q6.l5.a) (by walk_at "b3"),dfY q8.l29 (mg_of X G q8.l29.a) (by walk_at "b2"),dfY q8.l30 (mg_of X G q8.l30.a) (by walk_at "b1"),dkY q8.l31 q8.mk31 q8.a31 q8.i31 q8.kc31 (mg_of X G q0.m_Tie) (by walk_at "b7"),dmY q9.l39 T.c_Net (by walk_at "b7"),D_Net_put_tie,dfY q9.l47 (mg_of X G q9.l47.a) (by walk_at "b2"),dmY q8.l33 T.c_Net (by walk_at "b1"),dmY q8.l34 T.c_Net (by walk_at "b1"),dfY q6.l8 (mg_of X G q6.l8.a) (by walk_at "b1"),dfY q9.l40 (mg_of X G q9.l40.a) (by walk_at "b1"),dmY q8.l35 T.c_Net (by walk_at "b1"),dfY q9.l41 (mg_of X G q9.l41.a) (by walk_at "b1"),dfY q10.l50 (mg_of X G q10.l50.a) (by walk_at "b3"),dfY q10.l51 (mg_of X G q10.l51.a) (by walk_at "b3"),dfY q10.l52 (mg_of X G q10.l52.a) (by walk_at "b4"),dfY q6.l11 (mg_of X G q6.l11.a) (by walk_at "b3"),D_BadFlow_init,dfY q6.l9 (mg_of X G q6.l9.a) (by walk_at "b2"),dfY q6.l10 (mg_of X G q6.l10.a) (by walk_at "b2"),dfY q6.l12 (mg_of X G q6.l12.a) (by walk_at "b2"),dfY q7.l13 (mg_of X G q7.l13.a) (by walk_at "b4"),dkY q7.l14 q7.mk14 q7.a14 q7.i14 q7.kc14 (mg_of X G q0.m_Rest) (by walk_at "b2"),dfY q8.l25 (mg_of X G q8.l25.a) (by walk_at "b2"),D_Rest_put_arc,dfY q8.l26 (mg_of X G q8.l26.a) (by walk_at "b2"),dmY q7.l17 T.c_Rest (by walk_at "b3"),dmY q7.l18 T.c_Rest (by walk_at "b3"),dmY q7.l19 T.c_Rest (by walk_at "b3"),dmY q7.l23 T.c_Rest (by walk_at "b3"),D_Endless_init,dmY q7.l20 T.c_Rest (by walk_at "b3"),dmY q7.l21 T.c_Rest (by walk_at "b3"),dmY q7.l16 T.c_Rest (by walk_at "b2"),dfY q8.l27 (mg_of X G q8.l27.a) (by walk_at "b2"),dmY q7.l22 T.c_Rest (by walk_at "b2"),dkY q7.l24 q7.mk24 q7.a24 q7.i24 q7.kc24 (mg_of X G q0.m_Raised) (by walk_at "b4"),dfY q8.l28 (mg_of X G q8.l28.a) (by walk_at "b4"),dfY q9.l48 (mg_of X G q9.l48.a) (by walk_at "b1"),dfY q10.l49 (mg_of X G q10.l49.a) (by walk_at "b4"),dfY q10.l53 (mg_of X G q10.l53.a) (by walk_at "b5")⟩
 exact (c_law T D (L2.fun_mk (st:=jK) q10.l54 q10.c54 q10.k54)).imp fun _ _ _ _ h=>law_sp h
end T
set_option maxHeartbeats 0 in
theorem PySem.Challenge.cw_flowhall_k11_raising_refused_holds : PySem.Challenge.rw_flowhall_k11_raising_refused.Holds := by
 refine T.fin ?_
 refine L2.walk_of (l:=PySem.Challenge.rw_flowhall_k11_raising_refused) (n:=63) (k:=9) (x:= "_law_script") (CX:=fun _=>L2.CX0) (sp:=fun w=>T.zi _) rfl (by decide) T.hdT9 ⟨rfl,by decide,by decide⟩ (fun w h Y=>PySem.W.kIn_of Y) (fun w mg fa h KX G hmg=>T.all_mk KX G hmg (T.q0 _) (T.q1 _) (T.q2 _) (T.q3 _) (T.q4 _) (T.q5 _) (T.q6 _) (T.q7 _) (T.q8 _) (T.q9 _) (T.q10 _)) (fun _ _ a ns _ _ hS=>⟨a,ns,rfl,hS,fun _=>rfl⟩) (fun _ _ _ _ _ z=>z)

