import PyProof.Rows.All
import Wide.All
import OpenK.AllK
import Wide.FinOn
import HandS.ForMost
import HandS.IsInst
import HandS.Codes
import HandS.WideBits
import HandS.TupAny
import HandS.SortInts
import HandS.StrMore
import HandS.Walk
import HandS.EndBits
import HandS.More
import HandS.Zip
import PyProof.StrBlock2
import HandS.Rev
import PyProof.JoinWalk
import HandS.CallSlots
import HandS.Defaults
import HandS.DictComp
import HandS.DictEq
import HandS.Style
import HandS.WordsExc
import HandS.Finally
import HandS.ExcInit
import HandS.ExcIs
import HandS.TryOnly
import KE.KExcIs
import HandS.ExcField
import HandS.RaiseMore
import KE.OsRunLaw
import PySem.Challenge.RW_flowhall_k23_whole_taken_apart_and_toget
set_option Elab.async false
set_option linter.all false
set_option maxRecDepth 100000
namespace HR
open PySem PySem.W PySem.Calls PyProof.Rows HeadRun
section
theorem rK {α β γ:Type} {o:Option α} {f:α→β×γ} {a:β×γ} (e1:o.map (fun s=>(f s).1)=some a.1) (e2:o.map (fun s=>(f s).2)=some a.2):o.map f=some a:=by
 cases o with
 | none=>cases e1
 | some x=>
  injection e1 with e1
  injection e2 with e2
  show some (f x)=some a
  rw [show f x=a from Prod.ext e1 e2]
theorem mapT3 {α β γ δ:Type} {o:Option α} {f:α→β} {g:α→γ} {h:α→δ} {a:β} {b:γ} {c:δ} (e1:o.map f=some a) (e2:o.map g=some b) (e3:o.map h=some c):o.map (fun s=>(f s,g s,h s))=some (a,b,c):=by
 cases o with
 | none=>cases e1
 | some x=>
  injection e1 with e1
  injection e2 with e2
  injection e3 with e3
  show some (f x,g x,h x)=some (a,b,c)
  rw [e1,e2,e3]
noncomputable abbrev pw:Program:=PySem.Challenge.pw_flowhall_k23_whole_taken_apart_and_toget
noncomputable def vw:Program:= {pw with main:= {pw.main with body:= [0,2,3,4,5,6,7,8,9,10,11,12,14,15,16,17,18,19,21,22,23,24,25,27,28,29,30,31,32,33,35,36,37,38,39,40,41,43,44,45,46,47,48,49,50,51,52,53,54,55,56,57,58,59,60,61,62].map fun i=>pw.main.body.getD i (.Pass ⟨0,0,0,0⟩)}}
noncomputable def lo:List PySem.Str:= [PySem.Str.ofString "MOST"]
noncomputable def lv:List (PySem.Str×WData):= [(PySem.Str.ofString "MOST",WData.int 1000000000000000000000000000000000000000000000000000000000000)]
noncomputable def gd:=openGood vw lo
noncomputable def sn (s:SharedT):=seenQ vw lo (importedModules pw.main.body) (fun s=>xlAt vw lv s&&recOk [] s) s.abs
noncomputable def run (w:World) (os:OsState):Option SharedT:=endF (stepQ (denQ tabQ) pw w) 9722 pw w os
noncomputable def rcO (st:Stmt):Option DefRec:=match st with
 | .FunctionDef name a body _ _ _ sc _ _ pos=>some {name:=name,params:=a,body:=body,scope:=sc,pos:=pos}
 | _=>none
noncomputable def recs:List DefRec:=vw.main.body.filterMap rcO
theorem st0:PySem.W.Fast.tw3399658132070893891 vw=recs:=by kernel_rfl
theorem st2:PyProof.Rows.recsOf vw=recs:=by kernel_rfl
noncomputable def mtO (st:Stmt):Option MethRec:=match st with
 | .FunctionDef name a body _ _ _ sc _ _ _=>some {name:=name,params:=a,body:=body,scope:=sc}
 | _=>none
def dfO (st:Stmt):Bool:=match st with
 | .FunctionDef _ a _ _ _ _ _ _ _ _=>a.defaults.isEmpty
 | _=>true
noncomputable def clO (st:Stmt):Option ClsRec:=match st with
 | .ClassDef name [] _ body _ _ _ _ _ statics pos=>if body.all dfO=true then some {name:=name,base:=none,body:=body,statics:=statics,line:=pos.line,meths:=body.filterMap mtO} else none
 | _=>none
noncomputable def plns:List ClsRec:=vw.main.body.filterMap clO
theorem st6:PySem.W.Fast.tw210736558901404530 vw (PySem.W.Fast.tw821141287760084731 vw lo)=plns:=by kernel_rfl
theorem st7:plainsOf vw (looseW vw lo)=plns:=by kernel_rfl
theorem b0:∀(w:World) (os:OsState),(run w os).map (fun s=>looksF pw (boot_heap w.params) s.abs)=some true:=by
 intro w os
 kernel_rfl
theorem b1:∀(w:World) (os:OsState),(run w os).map (fun s=>(sn s).1)=some (gd.1):=by
 intro w os
 dsimp only [sn,HeadRun.seenQ,PySem.W.Fast.tw4187177175401517315,PySem.W.Fast.tw5160383126252970620,PySem.W.Fast.tw479339242167458305,PyProof.Rows.expectedOf,gd,openGood]
 rw [st0,st2]
 kernel_rfl
theorem b4:∀(w:World) (os:OsState),(run w os).map (fun s=>(sn s).2.2.2.1)=some (gd.2.2.2.1):=by
 intro w os
 dsimp only [sn,HeadRun.seenQ,PySem.W.Fast.tw4187177175401517315,PySem.W.Fast.tw5160383126252970620,PySem.W.Fast.tw479339242167458305,PyProof.Rows.expectedOf,gd,openGood]
 rw [st0]
 kernel_rfl
theorem b3:∀(w:World) (os:OsState),(run w os).map (fun s=>(sn s).2.2.1)=some (gd.2.2.1):=by
 intro w os
 dsimp only [sn,HeadRun.seenQ,PySem.W.Fast.tw4187177175401517315,PySem.W.Fast.tw5160383126252970620,PySem.W.Fast.tw479339242167458305,PyProof.Rows.expectedOf,gd,openGood]
 rw [st0]
 kernel_rfl
theorem b6:∀(w:World) (os:OsState),(run w os).map (fun s=>(sn s).2.2.2.2.2.1)=some (gd.2.2.2.2.2.1):=by
 intro w os
 dsimp only [sn,HeadRun.seenQ,PySem.W.Fast.tw4187177175401517315,PySem.W.Fast.tw5160383126252970620,PySem.W.Fast.tw479339242167458305,PyProof.Rows.expectedOf,gd,openGood,PySem.W.Fast.tw2386780881361962483,plainGoodE]
 rw [st6,st7]
 kernel_rfl
theorem b9:∀(w:World) (os:OsState),(run w os).map (fun s=>(sn s).2.2.2.2.2.2.2.2)=some (gd.2.2.2.2.2.2.2.2):=by
 intro w os
 dsimp only [sn,HeadRun.seenQ,PySem.W.Fast.tw4187177175401517315,PySem.W.Fast.tw5160383126252970620,PySem.W.Fast.tw479339242167458305,PyProof.Rows.expectedOf,gd,openGood]
 kernel_rfl
theorem b8:∀(w:World) (os:OsState),(run w os).map (fun s=>(sn s).2.2.2.2.2.2.2.1)=some (gd.2.2.2.2.2.2.2.1):=by
 intro w os
 dsimp only [sn,HeadRun.seenQ,PySem.W.Fast.tw4187177175401517315,PySem.W.Fast.tw5160383126252970620,PySem.W.Fast.tw479339242167458305,PyProof.Rows.expectedOf,gd,openGood]
 kernel_rfl
theorem b7:∀(w:World) (os:OsState),(run w os).map (fun s=>(sn s).2.2.2.2.2.2.1)=some (gd.2.2.2.2.2.2.1):=by
 intro w os
 dsimp only [sn,HeadRun.seenQ,PySem.W.Fast.tw4187177175401517315,PySem.W.Fast.tw5160383126252970620,PySem.W.Fast.tw479339242167458305,PyProof.Rows.expectedOf,gd,openGood]
 kernel_rfl
theorem b5:∀(w:World) (os:OsState),(run w os).map (fun s=>(sn s).2.2.2.2.1)=some (gd.2.2.2.2.1):=by
 intro w os
 dsimp only [sn,HeadRun.seenQ,PySem.W.Fast.tw4187177175401517315,PySem.W.Fast.tw5160383126252970620,PySem.W.Fast.tw479339242167458305,PyProof.Rows.expectedOf,gd,openGood]
 kernel_rfl
theorem b2:∀(w:World) (os:OsState),(run w os).map (fun s=>(sn s).2.1)=some (gd.2.1):=by
 intro w os
 dsimp only [sn,HeadRun.seenQ,PySem.W.Fast.tw4187177175401517315,PySem.W.Fast.tw5160383126252970620,PySem.W.Fast.tw479339242167458305,PyProof.Rows.expectedOf,gd,openGood]
 kernel_rfl
theorem seen_all (w:World) (os:OsState):(run w os).map sn=some gd:=rK (b1 w os) (rK (b2 w os) (rK (b3 w os) (rK (b4 w os) (rK (b5 w os) (rK (b6 w os) (rK (b7 w os) (rK (b8 w os) (b9 w os))))))))
def v (s:String) (n:Nat):Value:= .str (PySem.Str.ofString s) n
def r (a:Nat):Value:= .ref a
def i (a:Int) (n:Nat):Value:= .int a n
def z:Value:= .none
def t:Value:= .bool true
def bu (s:String):Value:= .builtin s
def ty (s:String):Value:= .type s
noncomputable def e (P:Params) (s:String) (n:Nat) (x:Value):DictEntry:=⟨PyData.keyHash P (PySem.Str.ofString s),v s n,x⟩
def T (l:List Value) (n:Nat:=0):Obj:= {cls:= .type "tuple",data:= .seq l.toArray n}
def D (l:List DictEntry) (n:Nat:=0):Obj:= {cls:= .type "dict",data:= .dict l.toArray n}
def C (l:List Value):Obj:= {cls:= .type "code",data:= .fields l.toArray}
def G (l:List Value):Obj:= {cls:= .type "getset_descriptor",data:= .fields l.toArray}
def c (n q:String) (a b d l m f1 f2 f3 f4 r1 r2:Nat) (x:Value) (r3 r4 r5 m2:Nat) (k:Nat) (f:String:= "/claim/cut.py"):Obj:=C [v n a,v q b,v f d,i l 0,i m 0,i f1 0,i f2 0,i f3 0,r r1,t,i f4 0,r r2,x,r r3,r r4,r r5,i m2 0,i l 0,v f k]
noncomputable def tp (i:Nat):Stmt:=pw.main.body.getD i (.Pass ⟨0,0,0,0⟩)
noncomputable def F (S:Stmt) (n q:String) (dv kV dc pm:Value) (an:Option Addr) (cd ct:Value):Obj:= {cls:= .type "function",data:= .func {name:=PySem.Str.ofString n,qualname:=PySem.Str.ofString q,params:=L2.defArgs S,body:= .stmts (L2.defBody S),scope:=L2.defScope S,globals:=3,closure:= [],defaults:=dv,kwdefaults:=kV,doc:=dc,pyModule:=pm,annotations:=an,code:=cd,closureTuple:=ct}}
noncomputable def f (i:Nat) (n:String) (d:Value) (k:Nat):Obj:=F (tp i) n n z z z d none (r k) z
def d0:Value:=v "law_flowhall_k23_whole_taken_apart_and_toget" 789
def d1:Value:=v "flowhall.nets" 580
def d2:Value:=v "flowhall.errors" 194
def d3:Value:=v "flowhall.parts" 485
def d4:Value:=v "flowhall.flows" 436
def d5:Value:=v "flowhall.words" 401
noncomputable def ob (P:Params):Frag:=(nat_lit 2,{cls:=z,data:=Data.dict #[]})::
 (nat_lit 3,D [e P "__name__" 165 d0,e P "__doc__" 166 z,e P "__package__" 167 z,e P "__loader__" 168 (bu "__main__.__loader__#opaque"),e P "__spec__" 169 z,e P "__annotations__" 170 (r 6),e P "__builtins__" 171 (r 4),e P "__file__" 173 (v "/claim/cut.py" 172),e P "__cached__" 174 z,e P "_wall" 193 (r 21),e P "FlowError" 213 (r 31),e P "BadName" 229 (r 44),e P "Twice" 245 (r 56),e P "TooMany" 261 (r 68),e P "NoPlace" 286 (r 87),e P "BadTie" 302 (r 99),e P "BadRoom" 318 (r 111),e P "BadPrice" 334 (r 123),e P "NoTie" 359 (r 142),e P "BadFlow" 384 (r 161),e P "SamePlace" 400 (r 173),e P "LETTERS" 404 (v "abcdefghijklmnopqrstuvwxyz" 403),e P "MOST_LETTERS" 406 (i 12 405),e P "is_whole" 413 (r 182),e P "is_among" 422 (r 189),e P "are_signs" 428 (r 194),e P "is_name" 435 (r 201),e P "is_amount" 445 (r 208),e P "need_flow" 451 (r 213),e P "need_ends" 460 (r 220),e P "spare_sums" 471 (r 227),e P "carried_by" 484 (r 234),e P "Part" 519 (r 251),e P "outs_of" 529 (r 262),e P "tie_out" 539 (r 269),e P "first_tail" 548 (r 276),e P "walked" 561 (r 283),e P "taken_apart" 567 (r 288),e P "put_together" 579 (r 295),e P "MOST" 585 (i 1000000000000000000000000000000000000000000000000000000000000 584),e P "MOST_PLACES" 587 (i 14 586),e P "MOST_TIES" 589 (i 40 588),e P "need_room" 597 (r 302),e P "need_price" 604 (r 309),e P "Tie" 643 (r 326),e P "Net" 788 (r 437),e P "_law_draw" 800 (r 448),e P "_law_amount" 811 (r 455),e P "_law_pool" 817 (r 460),e P "_law_whole" 825 (r 467),e P "_law_put_tie" 843 (r 474),e P "_law_changed" 861 (r 481),e P "_law_deed" 867 (r 486),e P "_law_rows" 873 (r 491),e P "_law_built" 886 (r 498),e P "_law_road" 892 (r 503),e P "_law_freed" 898 (r 508),e P "_law_walk_good" 904 (r 513),e P "_law_parts_good" 910 (r 518),e P "_law_is_flow" 916 (r 523),e P "_law_roomed" 933 (r 530),e P "_law_more" 950 (r 537),e P "_law_less" 961 (r 544),e P "_law_kept" 967 (r 549),e P "_law_filled" 973 (r 554),e P "law" 996 (r 561)] 66)::
 (nat_lit 15,T [])::
 (nat_lit 17,T [v "k" 190])::
 (nat_lit 18,T [])::
 (nat_lit 20,c "_wall" "_wall" 187 188 189 1 1 0 0 3 181 15 16 z 17 18 19 191 192)::
 (nat_lit 21,f 0 "_wall" (v "__main__" 164) 20)::
 (nat_lit 22,T [ty "ValueError"])::
 (nat_lit 29,T [])::
 (nat_lit 30,D [e P "__module__" 203 d2,e P "__firstlineno__" 207 (i 5 206),e P "__static_attributes__" 208 (r 29),e P "__weakref__" 210 (r 32),e P "__doc__" 211 z] 3)::
 (nat_lit 31,{cls:=ty "type",data:=Data.cls {name:=Str.ofString "FlowError",bases:= [ty "ValueError"],mro:= [r 31,ty "ValueError",ty "Exception",ty "BaseException",ty "object"],ns:=30,qualname:=Str.ofString "FlowError",subclasses:= [r 44,r 56,r 68,r 87,r 99,r 111,r 123,r 142,r 161,r 173]},slots:= #[Option.some (r 22),Option.none,Option.some (v "FlowError" 196),Option.some (v "FlowError" 204),Option.some (bu "ValueError.__new__"),Option.some (t)]})::
 (nat_lit 32,G [v "__weakref__" 209,r 31,bu "ExceptionGroup.__weakref__",z])::
 (nat_lit 35,T [r 31])::
 (nat_lit 42,T [])::
 (nat_lit 43,D [e P "__module__" 221 d2,e P "__firstlineno__" 225 (i 7 224),e P "__static_attributes__" 226 (r 42),e P "__doc__" 227 z] 2)::
 (nat_lit 44,{cls:=ty "type",data:=Data.cls {name:=Str.ofString "BadName",bases:= [r 31],mro:= [r 44,r 31,ty "ValueError",ty "Exception",ty "BaseException",ty "object"],ns:=43,qualname:=Str.ofString "BadName" },slots:= #[Option.some (r 35),Option.none,Option.some (v "BadName" 214),Option.some (v "BadName" 222),Option.some (bu "ValueError.__new__"),Option.some (t)]})::
 (nat_lit 47,T [r 31])::
 (nat_lit 54,T [])::
 (nat_lit 55,D [e P "__module__" 237 d2,e P "__firstlineno__" 241 (i 9 240),e P "__static_attributes__" 242 (r 54),e P "__doc__" 243 z] 2)::
 (nat_lit 56,{cls:=ty "type",data:=Data.cls {name:=Str.ofString "Twice",bases:= [r 31],mro:= [r 56,r 31,ty "ValueError",ty "Exception",ty "BaseException",ty "object"],ns:=55,qualname:=Str.ofString "Twice" },slots:= #[Option.some (r 47),Option.none,Option.some (v "Twice" 230),Option.some (v "Twice" 238),Option.some (bu "ValueError.__new__"),Option.some (t)]})::
 (nat_lit 59,T [r 31])::
 (nat_lit 66,T [])::
 (nat_lit 67,D [e P "__module__" 253 d2,e P "__firstlineno__" 257 (i 11 256),e P "__static_attributes__" 258 (r 66),e P "__doc__" 259 z] 2)::
 (nat_lit 68,{cls:=ty "type",data:=Data.cls {name:=Str.ofString "TooMany",bases:= [r 31],mro:= [r 68,r 31,ty "ValueError",ty "Exception",ty "BaseException",ty "object"],ns:=67,qualname:=Str.ofString "TooMany" },slots:= #[Option.some (r 59),Option.none,Option.some (v "TooMany" 246),Option.some (v "TooMany" 254),Option.some (bu "ValueError.__new__"),Option.some (t)]})::
 (nat_lit 71,T [r 31])::
 (nat_lit 78,T [])::
 (nat_lit 80,T [v "self" 277,v "name" 278])::
 (nat_lit 81,T [])::
 (nat_lit 83,c "__init__" "NoPlace.__init__" 274 275 276 15 2 0 0 3 181 78 79 z 80 81 82 279 280)::
 (nat_lit 84,F (L2.inClass (tp 6) 0) "__init__" "NoPlace.__init__" z z z d2 none (r 83) z)::
 (nat_lit 85,T [v "name" 282])::
 (nat_lit 86,D [e P "__module__" 269 d2,e P "__firstlineno__" 273 (i 13 272),e P "__init__" 281 (r 84),e P "__static_attributes__" 283 (r 85),e P "__doc__" 284 z] 2)::
 (nat_lit 87,{cls:=ty "type",data:=Data.cls {name:=Str.ofString "NoPlace",bases:= [r 31],mro:= [r 87,r 31,ty "ValueError",ty "Exception",ty "BaseException",ty "object"],ns:=86,qualname:=Str.ofString "NoPlace" },slots:= #[Option.some (r 71),Option.none,Option.some (v "NoPlace" 262),Option.some (v "NoPlace" 270),Option.some (bu "ValueError.__new__"),Option.some (t)]})::
 (nat_lit 90,T [r 31])::
 (nat_lit 97,T [])::
 (nat_lit 98,D [e P "__module__" 294 d2,e P "__firstlineno__" 298 (i 17 297),e P "__static_attributes__" 299 (r 97),e P "__doc__" 300 z] 2)::
 (nat_lit 99,{cls:=ty "type",data:=Data.cls {name:=Str.ofString "BadTie",bases:= [r 31],mro:= [r 99,r 31,ty "ValueError",ty "Exception",ty "BaseException",ty "object"],ns:=98,qualname:=Str.ofString "BadTie" },slots:= #[Option.some (r 90),Option.none,Option.some (v "BadTie" 287),Option.some (v "BadTie" 295),Option.some (bu "ValueError.__new__"),Option.some (t)]})::
 (nat_lit 102,T [r 31])::
 (nat_lit 109,T [])::
 (nat_lit 110,D [e P "__module__" 310 d2,e P "__firstlineno__" 314 (i 19 313),e P "__static_attributes__" 315 (r 109),e P "__doc__" 316 z] 2)::
 (nat_lit 111,{cls:=ty "type",data:=Data.cls {name:=Str.ofString "BadRoom",bases:= [r 31],mro:= [r 111,r 31,ty "ValueError",ty "Exception",ty "BaseException",ty "object"],ns:=110,qualname:=Str.ofString "BadRoom" },slots:= #[Option.some (r 102),Option.none,Option.some (v "BadRoom" 303),Option.some (v "BadRoom" 311),Option.some (bu "ValueError.__new__"),Option.some (t)]})::
 (nat_lit 114,T [r 31])::
 (nat_lit 121,T [])::
 (nat_lit 122,D [e P "__module__" 326 d2,e P "__firstlineno__" 330 (i 21 329),e P "__static_attributes__" 331 (r 121),e P "__doc__" 332 z] 2)::
 (nat_lit 123,{cls:=ty "type",data:=Data.cls {name:=Str.ofString "BadPrice",bases:= [r 31],mro:= [r 123,r 31,ty "ValueError",ty "Exception",ty "BaseException",ty "object"],ns:=122,qualname:=Str.ofString "BadPrice" },slots:= #[Option.some (r 114),Option.none,Option.some (v "BadPrice" 319),Option.some (v "BadPrice" 327),Option.some (bu "ValueError.__new__"),Option.some (t)]})::
 (nat_lit 126,T [r 31])::
 (nat_lit 133,T [])::
 (nat_lit 135,T [v "self" 350,v "number" 351])::
 (nat_lit 136,T [])::
 (nat_lit 138,c "__init__" "NoTie.__init__" 347 348 349 25 2 0 0 3 181 133 134 z 135 136 137 352 353)::
 (nat_lit 139,F (L2.inClass (tp 10) 0) "__init__" "NoTie.__init__" z z z d2 none (r 138) z)::
 (nat_lit 140,T [v "number" 355])::
 (nat_lit 141,D [e P "__module__" 342 d2,e P "__firstlineno__" 346 (i 23 345),e P "__init__" 354 (r 139),e P "__static_attributes__" 356 (r 140),e P "__doc__" 357 z] 2)::
 (nat_lit 142,{cls:=ty "type",data:=Data.cls {name:=Str.ofString "NoTie",bases:= [r 31],mro:= [r 142,r 31,ty "ValueError",ty "Exception",ty "BaseException",ty "object"],ns:=141,qualname:=Str.ofString "NoTie" },slots:= #[Option.some (r 126),Option.none,Option.some (v "NoTie" 335),Option.some (v "NoTie" 343),Option.some (bu "ValueError.__new__"),Option.some (t)]})::
 (nat_lit 145,T [r 31])::
 (nat_lit 152,T [])::
 (nat_lit 154,T [v "self" 375,v "number" 376])::
 (nat_lit 155,T [])::
 (nat_lit 157,c "__init__" "BadFlow.__init__" 372 373 374 29 2 0 0 3 181 152 153 z 154 155 156 377 378)::
 (nat_lit 158,F (L2.inClass (tp 11) 0) "__init__" "BadFlow.__init__" z z z d2 none (r 157) z)::
 (nat_lit 159,T [v "number" 380])::
 (nat_lit 160,D [e P "__module__" 367 d2,e P "__firstlineno__" 371 (i 27 370),e P "__init__" 379 (r 158),e P "__static_attributes__" 381 (r 159),e P "__doc__" 382 z] 2)::
 (nat_lit 161,{cls:=ty "type",data:=Data.cls {name:=Str.ofString "BadFlow",bases:= [r 31],mro:= [r 161,r 31,ty "ValueError",ty "Exception",ty "BaseException",ty "object"],ns:=160,qualname:=Str.ofString "BadFlow" },slots:= #[Option.some (r 145),Option.none,Option.some (v "BadFlow" 360),Option.some (v "BadFlow" 368),Option.some (bu "ValueError.__new__"),Option.some (t)]})::
 (nat_lit 164,T [r 31])::
 (nat_lit 171,T [])::
 (nat_lit 172,D [e P "__module__" 392 d2,e P "__firstlineno__" 396 (i 31 395),e P "__static_attributes__" 397 (r 171),e P "__doc__" 398 z] 2)::
 (nat_lit 173,{cls:=ty "type",data:=Data.cls {name:=Str.ofString "SamePlace",bases:= [r 31],mro:= [r 173,r 31,ty "ValueError",ty "Exception",ty "BaseException",ty "object"],ns:=172,qualname:=Str.ofString "SamePlace" },slots:= #[Option.some (r 164),Option.none,Option.some (v "SamePlace" 385),Option.some (v "SamePlace" 393),Option.some (bu "ValueError.__new__"),Option.some (t)]})::
 (nat_lit 176,T [])::
 (nat_lit 178,T [v "thing" 410])::
 (nat_lit 179,T [])::
 (nat_lit 181,c "is_whole" "is_whole" 407 408 409 36 1 0 0 3 181 176 177 z 178 179 180 411 412)::
 (nat_lit 182,f 16 "is_whole" d5 181)::
 (nat_lit 183,T [])::
 (nat_lit 185,T [v "thing" 417,v "least" 418,v "most" 419])::
 (nat_lit 186,T [])::
 (nat_lit 188,c "is_among" "is_among" 414 415 416 38 3 0 0 3 181 183 184 z 185 186 187 420 421)::
 (nat_lit 189,f 17 "is_among" d5 188)::
 (nat_lit 190,T [])::
 (nat_lit 193,C [v "are_signs" 423,v "are_signs" 424,v "/claim/cut.py" 425,i 40 0,i 2 0,i 0 0,i 0 0,i 3 0,r 190,t,i 181 0,r 191,z,z,z,r 192,i 426 0,i 40 0,v "/claim/cut.py" 427])::
 (nat_lit 194,f 18 "are_signs" d5 193)::
 (nat_lit 195,T [])::
 (nat_lit 197,T [v "thing" 432])::
 (nat_lit 198,T [])::
 (nat_lit 200,c "is_name" "is_name" 429 430 431 42 1 0 0 3 181 195 196 z 197 198 199 433 434)::
 (nat_lit 201,f 19 "is_name" d5 200)::
 (nat_lit 202,T [])::
 (nat_lit 204,T [v "tie" 441,v "amount" 442])::
 (nat_lit 205,T [])::
 (nat_lit 207,c "is_amount" "is_amount" 438 439 440 45 2 0 0 3 181 202 203 z 204 205 206 443 444)::
 (nat_lit 208,f 21 "is_amount" d4 207)::
 (nat_lit 209,T [])::
 (nat_lit 212,C [v "need_flow" 446,v "need_flow" 447,v "/claim/cut.py" 448,i 47 0,i 2 0,i 0 0,i 0 0,i 3 0,r 209,t,i 181 0,r 210,z,z,z,r 211,i 449 0,i 47 0,v "/claim/cut.py" 450])::
 (nat_lit 213,f 22 "need_flow" d4 212)::
 (nat_lit 214,T [])::
 (nat_lit 216,T [v "net" 455,v "source" 456,v "target" 457])::
 (nat_lit 217,T [])::
 (nat_lit 219,c "need_ends" "need_ends" 452 453 454 56 3 0 0 3 181 214 215 z 216 217 218 458 459)::
 (nat_lit 220,f 23 "need_ends" d4 219)::
 (nat_lit 221,T [])::
 (nat_lit 223,T [v "net" 464,v "flow" 465,v "found" 466,v "name" 467,v "tie" 468])::
 (nat_lit 224,T [])::
 (nat_lit 226,c "spare_sums" "spare_sums" 461 462 463 61 2 0 0 3 181 221 222 z 223 224 225 469 470)::
 (nat_lit 227,f 24 "spare_sums" d4 226)::
 (nat_lit 228,T [])::
 (nat_lit 230,T [v "net" 475,v "flow" 476,v "source" 477,v "target" 478,v "found" 479,v "name" 480,v "amount" 481])::
 (nat_lit 231,T [])::
 (nat_lit 233,c "carried_by" "carried_by" 472 473 474 69 4 0 0 3 181 228 229 z 230 231 232 482 483)::
 (nat_lit 234,f 25 "carried_by" d4 233)::
 (nat_lit 242,T [])::
 (nat_lit 244,T [v "self" 502,v "is_ring" 503,v "numbers" 504,v "amount" 505])::
 (nat_lit 245,T [])::
 (nat_lit 247,c "__init__" "Part.__init__" 499 500 501 80 4 0 0 3 181 242 243 z 244 245 246 506 507)::
 (nat_lit 248,F (L2.inClass (tp 27) 0) "__init__" "Part.__init__" z z z d3 none (r 247) z)::
 (nat_lit 249,T [v "amount" 509,v "is_ring" 510,v "numbers" 511])::
 (nat_lit 250,D [e P "__module__" 494 d3,e P "__firstlineno__" 498 (i 78 497),e P "__init__" 508 (r 248),e P "__static_attributes__" 512 (r 249),e P "__dict__" 514 (r 252),e P "__weakref__" 516 (r 253),e P "__doc__" 517 z] 4)::
 (nat_lit 251,{cls:=ty "type",data:=Data.cls {name:=Str.ofString "Part",bases:= [ty "object"],mro:= [r 251,ty "object"],ns:=250,qualname:=Str.ofString "Part" },slots:= #[Option.none,Option.none,Option.some (v "Part" 487),Option.some (v "Part" 495),Option.some (bu "object.__new__"),Option.some (t)]})::
 (nat_lit 252,G [v "__dict__" 513,r 251,bu "function.__dict__",bu "function.__dict__#set"])::
 (nat_lit 253,G [v "__weakref__" 515,r 251,bu "ExceptionGroup.__weakref__",z])::
 (nat_lit 256,T [])::
 (nat_lit 258,T [v "net" 523,v "found" 524,v "name" 525,v "tie" 526])::
 (nat_lit 259,T [])::
 (nat_lit 261,c "outs_of" "outs_of" 520 521 522 84 1 0 0 3 181 256 257 z 258 259 260 527 528)::
 (nat_lit 262,f 28 "outs_of" d3 261)::
 (nat_lit 263,T [])::
 (nat_lit 265,T [v "outs" 533,v "amounts" 534,v "name" 535,v "tie" 536])::
 (nat_lit 266,T [])::
 (nat_lit 268,c "tie_out" "tie_out" 530 531 532 91 3 0 0 3 181 263 264 z 265 266 267 537 538)::
 (nat_lit 269,f 29 "tie_out" d3 268)::
 (nat_lit 270,T [])::
 (nat_lit 272,T [v "outs" 543,v "amounts" 544,v "name" 545])::
 (nat_lit 273,T [])::
 (nat_lit 275,c "first_tail" "first_tail" 540 541 542 96 2 0 0 3 181 270 271 z 272 273 274 546 547)::
 (nat_lit 276,f 30 "first_tail" d3 275)::
 (nat_lit 277,T [])::
 (nat_lit 279,T [v "outs" 552,v "amounts" 553,v "start" 554,v "target" 555,v "road" 556,v "spots" 557,v "tie" 558])::
 (nat_lit 280,T [])::
 (nat_lit 282,c "walked" "walked" 549 550 551 101 4 0 0 3 181 277 278 z 279 280 281 559 560)::
 (nat_lit 283,f 31 "walked" d3 282)::
 (nat_lit 284,T [])::
 (nat_lit 287,C [v "taken_apart" 562,v "taken_apart" 563,v "/claim/cut.py" 564,i 112 0,i 4 0,i 0 0,i 0 0,i 3 0,r 284,t,i 181 0,r 285,z,z,z,r 286,i 565 0,i 112 0,v "/claim/cut.py" 566])::
 (nat_lit 288,f 32 "taken_apart" d3 287)::
 (nat_lit 289,T [])::
 (nat_lit 291,T [v "net" 571,v "parts" 572,v "found" 573,v "tie" 574,v "part" 575,v "number" 576])::
 (nat_lit 292,T [])::
 (nat_lit 294,c "put_together" "put_together" 568 569 570 133 2 0 0 3 181 289 290 z 291 292 293 577 578)::
 (nat_lit 295,f 33 "put_together" d3 294)::
 (nat_lit 296,T [])::
 (nat_lit 298,T [v "least" 593,v "most" 594])::
 (nat_lit 299,T [])::
 (nat_lit 301,c "need_room" "need_room" 590 591 592 145 2 0 0 3 181 296 297 z 298 299 300 595 596)::
 (nat_lit 302,f 38 "need_room" d1 301)::
 (nat_lit 303,T [])::
 (nat_lit 305,T [v "price" 601])::
 (nat_lit 306,T [])::
 (nat_lit 308,c "need_price" "need_price" 598 599 600 148 1 0 0 3 181 303 304 z 305 306 307 602 603)::
 (nat_lit 309,f 39 "need_price" d1 308)::
 (nat_lit 317,T [])::
 (nat_lit 319,T [v "self" 620,v "number" 621,v "tail" 622,v "head" 623,v "least" 624,v "most" 625,v "price" 626])::
 (nat_lit 320,T [])::
 (nat_lit 322,c "__init__" "Tie.__init__" 617 618 619 153 7 0 0 3 181 317 318 z 319 320 321 627 628)::
 (nat_lit 323,F (L2.inClass (tp 40) 0) "__init__" "Tie.__init__" z z z d1 none (r 322) z)::
 (nat_lit 324,T [v "head" 630,v "least" 631,v "most" 632,v "number" 633,v "price" 634,v "tail" 635])::
 (nat_lit 325,D [e P "__module__" 612 d1,e P "__firstlineno__" 616 (i 151 615),e P "__init__" 629 (r 323),e P "__static_attributes__" 636 (r 324),e P "__dict__" 638 (r 327),e P "__weakref__" 640 (r 328),e P "__doc__" 641 z] 4)::
 (nat_lit 326,{cls:=ty "type",data:=Data.cls {name:=Str.ofString "Tie",bases:= [ty "object"],mro:= [r 326,ty "object"],ns:=325,qualname:=Str.ofString "Tie" },slots:= #[Option.none,Option.none,Option.some (v "Tie" 605),Option.some (v "Tie" 613),Option.some (bu "object.__new__"),Option.some (t)]})::
 (nat_lit 327,G [v "__dict__" 637,r 326,bu "function.__dict__",bu "function.__dict__#set"])::
 (nat_lit 328,G [v "__weakref__" 639,r 326,bu "ExceptionGroup.__weakref__",z])::
 (nat_lit 338,T [])::
 (nat_lit 340,T [v "self" 659])::
 (nat_lit 341,T [])::
 (nat_lit 343,c "__init__" "Net.__init__" 656 657 658 162 1 0 0 3 181 338 339 z 340 341 342 660 661)::
 (nat_lit 344,F (L2.inClass (tp 41) 0) "__init__" "Net.__init__" z z z d1 none (r 343) z)::
 (nat_lit 345,T [])::
 (nat_lit 347,T [v "self" 666])::
 (nat_lit 348,T [])::
 (nat_lit 350,c "places" "Net.places" 663 664 665 167 1 0 0 3 181 345 346 z 347 348 349 667 668)::
 (nat_lit 351,F (L2.inClass (tp 41) 1) "places" "Net.places" z z z d1 none (r 350) z)::
 (nat_lit 352,T [])::
 (nat_lit 355,C [v "ties" 670,v "Net.ties" 671,v "/claim/cut.py" 672,i 170 0,i 1 0,i 0 0,i 0 0,i 3 0,r 352,t,i 181 0,r 353,z,z,z,r 354,i 673 0,i 170 0,v "/claim/cut.py" 674])::
 (nat_lit 356,F (L2.inClass (tp 41) 2) "ties" "Net.ties" z z z d1 none (r 355) z)::
 (nat_lit 357,T [])::
 (nat_lit 359,T [v "self" 679])::
 (nat_lit 360,T [])::
 (nat_lit 362,c "given" "Net.given" 676 677 678 173 1 0 0 3 181 357 358 z 359 360 361 680 681)::
 (nat_lit 363,F (L2.inClass (tp 41) 3) "given" "Net.given" z z z d1 none (r 362) z)::
 (nat_lit 364,T [])::
 (nat_lit 366,T [v "self" 686,v "name" 687])::
 (nat_lit 367,T [])::
 (nat_lit 369,c "put_place" "Net.put_place" 683 684 685 176 2 0 0 3 181 364 365 z 366 367 368 688 689)::
 (nat_lit 370,F (L2.inClass (tp 41) 4) "put_place" "Net.put_place" z z z d1 none (r 369) z)::
 (nat_lit 371,T [])::
 (nat_lit 373,T [v "self" 694,v "name" 695])::
 (nat_lit 374,T [])::
 (nat_lit 376,c "need_place" "Net.need_place" 691 692 693 185 2 0 0 3 181 371 372 z 373 374 375 696 697)::
 (nat_lit 377,F (L2.inClass (tp 41) 5) "need_place" "Net.need_place" z z z d1 none (r 376) z)::
 (nat_lit 378,T [i 0 699,z,i 0 700])::
 (nat_lit 379,T [])::
 (nat_lit 381,T [v "self" 704,v "tail" 705,v "head" 706,v "least" 707,v "most" 708,v "price" 709])::
 (nat_lit 382,T [])::
 (nat_lit 384,c "put_tie" "Net.put_tie" 701 702 703 189 6 0 0 3 181 379 380 z 381 382 383 710 711)::
 (nat_lit 385,F (L2.inClass (tp 41) 6) "put_tie" "Net.put_tie" (r 378) z z d1 none (r 384) z)::
 (nat_lit 386,T [])::
 (nat_lit 388,T [v "self" 716,v "number" 717,v "tail" 718,v "head" 719,v "least" 720,v "most" 721,v "price" 722])::
 (nat_lit 389,T [])::
 (nat_lit 391,c "put_numbered" "Net.put_numbered" 713 714 715 192 7 0 0 3 181 386 387 z 388 389 390 723 724)::
 (nat_lit 392,F (L2.inClass (tp 41) 7) "put_numbered" "Net.put_numbered" z z z d1 none (r 391) z)::
 (nat_lit 393,T [])::
 (nat_lit 395,T [v "self" 729,v "number" 730])::
 (nat_lit 396,T [])::
 (nat_lit 398,c "tie_of" "Net.tie_of" 726 727 728 205 2 0 0 3 181 393 394 z 395 396 397 731 732)::
 (nat_lit 399,F (L2.inClass (tp 41) 8) "tie_of" "Net.tie_of" z z z d1 none (r 398) z)::
 (nat_lit 400,T [])::
 (nat_lit 402,T [v "self" 737,v "number" 738])::
 (nat_lit 403,T [])::
 (nat_lit 405,c "drop_tie" "Net.drop_tie" 734 735 736 210 2 0 0 3 181 400 401 z 402 403 404 739 740)::
 (nat_lit 406,F (L2.inClass (tp 41) 9) "drop_tie" "Net.drop_tie" z z z d1 none (r 405) z)::
 (nat_lit 407,T [])::
 (nat_lit 409,T [v "self" 745,v "number" 746,v "least" 747,v "most" 748,v "tie" 749])::
 (nat_lit 410,T [])::
 (nat_lit 412,c "set_room" "Net.set_room" 742 743 744 214 4 0 0 3 181 407 408 z 409 410 411 750 751)::
 (nat_lit 413,F (L2.inClass (tp 41) 10) "set_room" "Net.set_room" z z z d1 none (r 412) z)::
 (nat_lit 414,T [])::
 (nat_lit 416,T [v "self" 756,v "number" 757,v "price" 758,v "tie" 759])::
 (nat_lit 417,T [])::
 (nat_lit 419,c "set_price" "Net.set_price" 753 754 755 219 3 0 0 3 181 414 415 z 416 417 418 760 761)::
 (nat_lit 420,F (L2.inClass (tp 41) 11) "set_price" "Net.set_price" z z z d1 none (r 419) z)::
 (nat_lit 421,T [])::
 (nat_lit 423,T [v "self" 766])::
 (nat_lit 424,T [])::
 (nat_lit 426,c "copied" "Net.copied" 763 764 765 224 1 0 0 3 181 421 422 z 423 424 425 767 768)::
 (nat_lit 427,F (L2.inClass (tp 41) 12) "copied" "Net.copied" z z z d1 none (r 426) z)::
 (nat_lit 428,T [])::
 (nat_lit 430,T [v "self" 773,v "number" 774])::
 (nat_lit 431,T [])::
 (nat_lit 433,c "give" "Net.give" 770 771 772 227 2 0 0 3 181 428 429 z 430 431 432 775 776)::
 (nat_lit 434,F (L2.inClass (tp 41) 13) "give" "Net.give" z z z d1 none (r 433) z)::
 (nat_lit 435,T [v "last_given" 778,v "names" 779,v "rows" 780])::
 (nat_lit 436,D [e P "__module__" 651 d1,e P "__firstlineno__" 655 (i 160 654),e P "__init__" 662 (r 344),e P "places" 669 (r 351),e P "ties" 675 (r 356),e P "given" 682 (r 363),e P "put_place" 690 (r 370),e P "need_place" 698 (r 377),e P "put_tie" 712 (r 385),e P "put_numbered" 725 (r 392),e P "tie_of" 733 (r 399),e P "drop_tie" 741 (r 406),e P "set_room" 752 (r 413),e P "set_price" 762 (r 420),e P "copied" 769 (r 427),e P "give" 777 (r 434),e P "__static_attributes__" 781 (r 435),e P "__dict__" 783 (r 438),e P "__weakref__" 785 (r 439),e P "__doc__" 786 z] 4)::
 (nat_lit 437,{cls:=ty "type",data:=Data.cls {name:=Str.ofString "Net",bases:= [ty "object"],mro:= [r 437,ty "object"],ns:=436,qualname:=Str.ofString "Net" },slots:= #[Option.none,Option.none,Option.some (v "Net" 644),Option.some (v "Net" 652),Option.some (bu "object.__new__"),Option.some (t)]})::
 (nat_lit 438,G [v "__dict__" 782,r 437,bu "function.__dict__",bu "function.__dict__#set"])::
 (nat_lit 439,G [v "__weakref__" 784,r 437,bu "ExceptionGroup.__weakref__",z])::
 (nat_lit 442,T [])::
 (nat_lit 444,T [v "_law_cell" 794,v "_law_k" 795,v "_law_j" 796,v "_law_more_here" 797])::
 (nat_lit 445,T [])::
 (nat_lit 447,c "_law_draw" "_law_draw" 791 792 793 230 3 0 0 3 181 442 443 z 444 445 446 798 799)::
 (nat_lit 448,f 43 "_law_draw" d0 447)::
 (nat_lit 449,T [])::
 (nat_lit 451,T [v "_law_cell" 804,v "_law_k" 805,v "_law_j" 806,v "_law_n" 807,v "_law_some" 808])::
 (nat_lit 452,T [])::
 (nat_lit 454,c "_law_amount" "_law_amount" 801 802 803 233 3 0 0 3 181 449 450 z 451 452 453 809 810)::
 (nat_lit 455,f 44 "_law_amount" d0 454)::
 (nat_lit 456,T [])::
 (nat_lit 459,C [v "_law_pool" 812,v "_law_pool" 813,v "/claim/cut.py" 814,i 237 0,i 1 0,i 0 0,i 0 0,i 3 0,r 456,t,i 181 0,r 457,z,z,z,r 458,i 815 0,i 237 0,v "/claim/cut.py" 816])::
 (nat_lit 460,f 45 "_law_pool" d0 459)::
 (nat_lit 461,T [])::
 (nat_lit 463,T [v "_law_thing" 821,v "_law_due" 822])::
 (nat_lit 464,T [])::
 (nat_lit 466,c "_law_whole" "_law_whole" 818 819 820 247 2 0 0 3 181 461 462 z 463 464 465 823 824)::
 (nat_lit 467,f 46 "_law_whole" d0 466)::
 (nat_lit 468,T [])::
 (nat_lit 470,T [v "_law_net" 829,v "_law_model" 830,v "_law_cell" 831,v "_law_k" 832,v "_law_names" 833,v "_law_n" 834,v "_law_tail" 835,v "_law_head" 836,v "_law_least" 837,v "_law_most" 838,v "_law_price" 839,v "_law_found" 840])::
 (nat_lit 471,T [])::
 (nat_lit 473,c "_law_put_tie" "_law_put_tie" 826 827 828 249 4 0 0 3 181 468 469 z 470 471 472 841 842)::
 (nat_lit 474,f 47 "_law_put_tie" d0 473)::
 (nat_lit 475,T [])::
 (nat_lit 477,T [v "_law_net" 847,v "_law_model" 848,v "_law_cell" 849,v "_law_k" 850,v "_law_way" 851,v "_law_n" 852,v "_law_number" 853,v "_law_tail" 854,v "_law_head" 855,v "_law_least" 856,v "_law_most" 857,v "_law_price" 858])::
 (nat_lit 478,T [])::
 (nat_lit 480,c "_law_changed" "_law_changed" 844 845 846 268 5 0 0 3 181 475 476 z 477 478 479 859 860)::
 (nat_lit 481,f 48 "_law_changed" d0 480)::
 (nat_lit 482,T [])::
 (nat_lit 485,C [v "_law_deed" 862,v "_law_deed" 863,v "/claim/cut.py" 864,i 283 0,i 5 0,i 0 0,i 0 0,i 3 0,r 482,t,i 181 0,r 483,z,z,z,r 484,i 865 0,i 283 0,v "/claim/cut.py" 866])::
 (nat_lit 486,f 49 "_law_deed" d0 485)::
 (nat_lit 487,T [])::
 (nat_lit 490,C [v "_law_rows" 868,v "_law_rows" 869,v "/claim/cut.py" 870,i 297 0,i 1 0,i 0 0,i 0 0,i 3 0,r 487,t,i 181 0,r 488,z,z,z,r 489,i 871 0,i 297 0,v "/claim/cut.py" 872])::
 (nat_lit 491,f 50 "_law_rows" d0 490)::
 (nat_lit 492,T [])::
 (nat_lit 494,T [v "_law_cells" 877,v "_law_pool_here" 878,v "_law_net" 879,v "_law_model" 880,v "_law_good" 881,v "_law_k" 882,v "_law_cell" 883])::
 (nat_lit 495,T [])::
 (nat_lit 497,c "_law_built" "_law_built" 874 875 876 299 2 0 0 3 181 492 493 z 494 495 496 884 885)::
 (nat_lit 498,f 51 "_law_built" d0 497)::
 (nat_lit 499,T [])::
 (nat_lit 502,C [v "_law_road" 887,v "_law_road" 888,v "/claim/cut.py" 889,i 306 0,i 4 0,i 0 0,i 0 0,i 3 0,r 499,t,i 181 0,r 500,z,z,z,r 501,i 890 0,i 306 0,v "/claim/cut.py" 891])::
 (nat_lit 503,f 52 "_law_road" d0 502)::
 (nat_lit 504,T [])::
 (nat_lit 507,C [v "_law_freed" 893,v "_law_freed" 894,v "/claim/cut.py" 895,i 316 0,i 2 0,i 0 0,i 0 0,i 3 0,r 504,t,i 181 0,r 505,z,z,z,r 506,i 896 0,i 316 0,v "/claim/cut.py" 897])::
 (nat_lit 508,f 53 "_law_freed" d0 507)::
 (nat_lit 509,T [])::
 (nat_lit 512,C [v "_law_walk_good" 899,v "_law_walk_good" 900,v "/claim/cut.py" 901,i 322 0,i 4 0,i 0 0,i 0 0,i 3 0,r 509,t,i 181 0,r 510,z,z,z,r 511,i 902 0,i 322 0,v "/claim/cut.py" 903])::
 (nat_lit 513,f 54 "_law_walk_good" d0 512)::
 (nat_lit 514,T [])::
 (nat_lit 517,C [v "_law_parts_good" 905,v "_law_parts_good" 906,v "/claim/cut.py" 907,i 334 0,i 5 0,i 0 0,i 0 0,i 3 0,r 514,t,i 181 0,r 515,z,z,z,r 516,i 908 0,i 334 0,v "/claim/cut.py" 909])::
 (nat_lit 518,f 55 "_law_parts_good" d0 517)::
 (nat_lit 519,T [])::
 (nat_lit 522,C [v "_law_is_flow" 911,v "_law_is_flow" 912,v "/claim/cut.py" 913,i 352 0,i 2 0,i 0 0,i 0 0,i 3 0,r 519,t,i 181 0,r 520,z,z,z,r 521,i 914 0,i 352 0,v "/claim/cut.py" 915])::
 (nat_lit 523,f 56 "_law_is_flow" d0 522)::
 (nat_lit 524,T [])::
 (nat_lit 526,T [v "_law_net" 920,v "_law_model" 921,v "_law_flow" 922,v "_law_n" 923,v "_law_number" 924,v "_law_tail" 925,v "_law_head" 926,v "_law_least" 927,v "_law_most" 928,v "_law_price" 929,v "_law_more_here" 930])::
 (nat_lit 527,T [])::
 (nat_lit 529,c "_law_roomed" "_law_roomed" 917 918 919 356 4 0 0 3 181 524 525 z 526 527 528 931 932)::
 (nat_lit 530,f 57 "_law_roomed" d0 529)::
 (nat_lit 531,T [])::
 (nat_lit 533,T [v "_law_model" 937,v "_law_flow" 938,v "_law_ends" 939,v "_law_cell" 940,v "_law_k" 941,v "_law_n" 942,v "_law_start" 943,v "_law_road_here" 944,v "_law_spot" 945,v "_law_more_here" 946,v "_law_number" 947])::
 (nat_lit 534,T [])::
 (nat_lit 536,c "_law_more" "_law_more" 934 935 936 366 5 0 0 3 181 531 532 z 533 534 535 948 949)::
 (nat_lit 537,f 58 "_law_more" d0 536)::
 (nat_lit 538,T [])::
 (nat_lit 540,T [v "_law_flow" 954,v "_law_parts" 955,v "_law_n" 956,v "_law_part" 957,v "_law_number" 958])::
 (nat_lit 541,T [])::
 (nat_lit 543,c "_law_less" "_law_less" 951 952 953 376 3 0 0 3 181 538 539 z 540 541 542 959 960)::
 (nat_lit 544,f 59 "_law_less" d0 543)::
 (nat_lit 545,T [])::
 (nat_lit 548,C [v "_law_kept" 962,v "_law_kept" 963,v "/claim/cut.py" 964,i 383 0,i 1 0,i 0 0,i 0 0,i 3 0,r 545,t,i 181 0,r 546,z,z,z,r 547,i 965 0,i 383 0,v "/claim/cut.py" 966])::
 (nat_lit 549,f 60 "_law_kept" d0 548)::
 (nat_lit 550,T [])::
 (nat_lit 553,C [v "_law_filled" 968,v "_law_filled" 969,v "/claim/cut.py" 970,i 385 0,i 4 0,i 0 0,i 0 0,i 3 0,r 550,t,i 181 0,r 551,z,z,z,r 552,i 971 0,i 385 0,v "/claim/cut.py" 972])::
 (nat_lit 554,f 61 "_law_filled" d0 553)::
 (nat_lit 555,T [])::
 (nat_lit 557,T [v "_law_script" 977,v "_law_cells" 978,v "_law_pool_here" 979,v "_law_net" 980,v "_law_model" 981,v "_law_good" 982,v "_law_more_here" 983,v "_law_flow" 984,v "_law_n" 985,v "_law_names" 986,v "_law_ends" 987,v "_law_amount_here" 988,v "_law_parts" 989,v "_law_held" 990,v "_law_k" 991,v "_law_cell" 992,v "_law_rows_here" 993])::
 (nat_lit 558,T [])::
 (nat_lit 560,c "law" "law" 974 975 976 394 1 0 0 3 181 555 556 z 557 558 559 994 995)::
 (nat_lit 561,f 62 "law" d0 560):: []
def oa:List Addr:= [2,3,15,17,18,20,21,22,29,30,31,32,35,42,43,44,47,54,55,56,59,66,67,68,71,78,80,81,83,84,85,86,87,90,97,98,99,102,109,110,111,114,121,122,123,126,133,135,136,138,139,140,141,142,145,152,154,155,157,158,159,160,161,164,171,172,173,176,178,179,181,182,183,185,186,188,189,190,193,194,195,197,198,200,201,202,204,205,207,208,209,212,213,214,216,217,219,220,221,223,224,226,227,228,230,231,233,234,242,244,245,247,248,249,250,251,252,253,256,258,259,261,262,263,265,266,268,269,270,272,273,275,276,277,279,280,282,283,284,287,288,289,291,292,294,295,296,298,299,301,302,303,305,306,308,309,317,319,320,322,323,324,325,326,327,328,338,340,341,343,344,345,347,348,350,351,352,355,356,357,359,360,362,363,364,366,367,369,370,371,373,374,376,377,378,379,381,382,384,385,386,388,389,391,392,393,395,396,398,399,400,402,403,405,406,407,409,410,412,413,414,416,417,419,420,421,423,424,426,427,428,430,431,433,434,435,436,437,438,439,442,444,445,447,448,449,451,452,454,455,456,459,460,461,463,464,466,467,468,470,471,473,474,475,477,478,480,481,482,485,486,487,490,491,492,494,495,497,498,499,502,503,504,507,508,509,512,513,514,517,518,519,522,523,524,526,527,529,530,531,533,534,536,537,538,540,541,543,544,545,548,549,550,553,554,555,557,558,560,561]
theorem b10:∀(w:World) (os:OsState),(run w os).map (fun s=>oa.map (getT s))=some ((ob w.params).map fun x=>some x.2):=by
 intro w os
 kernel_rfl
end
end HR
namespace T
open PySem PySem.Spec PyProof.Rows L2
open PySem.W (Frag codeIn findIn fnOf hasDictIn isFn keepIn makesIn nsIn plainGet plainOver)
def top (i:Nat):Stmt:=PySem.Challenge.pw_flowhall_k23_whole_taken_apart_and_toget.main.body.getD i (.Pass ⟨0,0,0,0⟩)
abbrev tL:Stmt:=top 43
abbrev N_Ldraw:List Str:= ["_law_cell","_law_k","_law_j","_law_more_here"]
theorem vv:FnScope N_Ldraw ["_law_cell","_law_k","_law_j"] (L2.defScope tL):=⟨rfl,rfl,rfl,by decide+kernel,rfl,by decide+kernel,by decide+kernel⟩
abbrev tH:Stmt:=top 45
abbrev N_Lpool:List Str:= ["_law_cell","_law_letters","_law_n","_law_base","_law_frame","_law_at","_law_found","_law_j","_law_name"]
theorem aX:FnScope N_Lpool ["_law_cell"] (L2.defScope tH):=⟨rfl,rfl,rfl,by decide+kernel,rfl,by decide+kernel,by decide+kernel⟩
abbrev jR:Stmt:=inClass (top 41) 0
abbrev N_Net_init:List Str:= ["self"]
theorem tE:FnScope N_Net_init ["self"] (L2.defScope jR):=⟨rfl,rfl,rfl,by decide+kernel,rfl,by decide+kernel,by decide+kernel⟩
abbrev iA:Stmt:=top 18
abbrev N_are_signs:List Str:= ["text","signs","sign"]
theorem fY:FnScope N_are_signs ["text","signs"] (L2.defScope iA):=⟨rfl,rfl,rfl,by decide+kernel,rfl,by decide+kernel,by decide+kernel⟩
abbrev lK:Stmt:=top 19
abbrev N_is_name:List Str:= ["thing"]
theorem wx:FnScope N_is_name ["thing"] (L2.defScope lK):=⟨rfl,rfl,rfl,by decide+kernel,rfl,by decide+kernel,by decide+kernel⟩
abbrev dS:Stmt:=inClass (top 41) 4
abbrev N_Net_put_place:List Str:= ["self","name"]
theorem kJ:FnScope N_Net_put_place ["self","name"] (L2.defScope dS):=⟨rfl,rfl,rfl,by decide+kernel,rfl,by decide+kernel,by decide+kernel⟩
abbrev lN:Stmt:=top 44
abbrev N_Lamount:List Str:= ["_law_cell","_law_k","_law_j","_law_n","_law_some"]
theorem jM:FnScope N_Lamount ["_law_cell","_law_k","_law_j"] (L2.defScope lN):=⟨rfl,rfl,rfl,by decide+kernel,rfl,by decide+kernel,by decide+kernel⟩
abbrev dh:Stmt:=inClass (top 41) 5
abbrev N_Net_need_place:List Str:= ["self","name"]
theorem jL:FnScope N_Net_need_place ["self","name"] (L2.defScope dh):=⟨rfl,rfl,rfl,by decide+kernel,rfl,by decide+kernel,by decide+kernel⟩
abbrev jN:Stmt:=top 16
abbrev N_is_whole:List Str:= ["thing"]
theorem tx:FnScope N_is_whole ["thing"] (L2.defScope jN):=⟨rfl,rfl,rfl,by decide+kernel,rfl,by decide+kernel,by decide+kernel⟩
abbrev jO:Stmt:=top 17
abbrev N_is_among:List Str:= ["thing","least","most"]
theorem tA:FnScope N_is_among ["thing","least","most"] (L2.defScope jO):=⟨rfl,rfl,rfl,by decide+kernel,rfl,by decide+kernel,by decide+kernel⟩
abbrev ir:Stmt:=top 38
abbrev N_need_room:List Str:= ["least","most"]
theorem qU:FnScope N_need_room ["least","most"] (L2.defScope ir):=⟨rfl,rfl,rfl,by decide+kernel,rfl,by decide+kernel,by decide+kernel⟩
abbrev gh:Stmt:=top 39
abbrev N_need_price:List Str:= ["price"]
theorem oJ:FnScope N_need_price ["price"] (L2.defScope gh):=⟨rfl,rfl,rfl,by decide+kernel,rfl,by decide+kernel,by decide+kernel⟩
abbrev jP:Stmt:=inClass (top 40) 0
abbrev N_Tie_init:List Str:= ["self","number","tail","head","least","most","price"]
theorem tD:FnScope N_Tie_init ["self","number","tail","head","least","most","price"] (L2.defScope jP):=⟨rfl,rfl,rfl,by decide+kernel,rfl,by decide+kernel,by decide+kernel⟩
abbrev cw:Stmt:=inClass (top 41) 7
abbrev N_Net_put_numbered:List Str:= ["self","number","tail","head","least","most","price"]
theorem iq:FnScope N_Net_put_numbered ["self","number","tail","head","least","most","price"] (L2.defScope cw):=⟨rfl,rfl,rfl,by decide+kernel,rfl,by decide+kernel,by decide+kernel⟩
abbrev aP:Stmt:=inClass (top 41) 6
abbrev N_Net_put_tie:List Str:= ["self","tail","head","least","most","price"]
theorem mW:FnScope N_Net_put_tie ["self","tail","head","least","most","price"] (L2.defScope aP):=⟨rfl,rfl,rfl,by decide+kernel,rfl,by decide+kernel,by decide+kernel⟩
abbrev oQ:Stmt:=top 46
abbrev N_Lwhole:List Str:= ["_law_thing","_law_due"]
theorem ye:FnScope N_Lwhole ["_law_thing","_law_due"] (L2.defScope oQ):=⟨rfl,rfl,rfl,by decide+kernel,rfl,by decide+kernel,by decide+kernel⟩
abbrev jS:Stmt:=top 47
abbrev N_Lput_tie:List Str:= ["_law_net","_law_model","_law_cell","_law_k","_law_names","_law_n","_law_tail","_law_head","_law_least","_law_most","_law_price","_law_found"]
theorem aB:FnScope N_Lput_tie ["_law_net","_law_model","_law_cell","_law_k"] (L2.defScope jS):=⟨rfl,rfl,rfl,by decide+kernel,rfl,by decide+kernel,by decide+kernel⟩
abbrev gm:Stmt:=inClass (top 41) 8
abbrev N_Net_tie_of:List Str:= ["self","number"]
theorem oK:FnScope N_Net_tie_of ["self","number"] (L2.defScope gm):=⟨rfl,rfl,rfl,by decide+kernel,rfl,by decide+kernel,by decide+kernel⟩
abbrev eL:Stmt:=inClass (top 41) 9
abbrev N_Net_drop_tie:List Str:= ["self","number"]
theorem lH:FnScope N_Net_drop_tie ["self","number"] (L2.defScope eL):=⟨rfl,rfl,rfl,by decide+kernel,rfl,by decide+kernel,by decide+kernel⟩
abbrev eK:Stmt:=inClass (top 41) 10
abbrev N_Net_set_room:List Str:= ["self","number","least","most","tie"]
theorem fZ:FnScope N_Net_set_room ["self","number","least","most"] (L2.defScope eK):=⟨rfl,rfl,rfl,by decide+kernel,rfl,by decide+kernel,by decide+kernel⟩
abbrev dR:Stmt:=inClass (top 41) 11
abbrev N_Net_set_price:List Str:= ["self","number","price","tie"]
theorem fM:FnScope N_Net_set_price ["self","number","price"] (L2.defScope dR):=⟨rfl,rfl,rfl,by decide+kernel,rfl,by decide+kernel,by decide+kernel⟩
abbrev jT:Stmt:=top 48
abbrev N_Lchanged:List Str:= ["_law_net","_law_model","_law_cell","_law_k","_law_way","_law_n","_law_number","_law_tail","_law_head","_law_least","_law_most","_law_price"]
theorem aS:FnScope N_Lchanged ["_law_net","_law_model","_law_cell","_law_k","_law_way"] (L2.defScope jT):=⟨rfl,rfl,rfl,by decide+kernel,rfl,by decide+kernel,by decide+kernel⟩
abbrev tM:Stmt:=top 49
abbrev N_Ldeed:List Str:= ["_law_net","_law_model","_law_pool_here","_law_cell","_law_k","_law_way","_law_free","_law_name"]
theorem gT:FnScope N_Ldeed ["_law_net","_law_model","_law_pool_here","_law_cell","_law_k"] (L2.defScope tM):=⟨rfl,rfl,rfl,by decide+kernel,rfl,by decide+kernel,by decide+kernel⟩
abbrev oR:Stmt:=top 51
abbrev N_Lbuilt:List Str:= ["_law_cells","_law_pool_here","_law_net","_law_model","_law_good","_law_k","_law_cell"]
theorem dP:FnScope N_Lbuilt ["_law_cells","_law_pool_here"] (L2.defScope oR):=⟨rfl,rfl,rfl,by decide+kernel,rfl,by decide+kernel,by decide+kernel⟩
abbrev lM:Stmt:=top 61
abbrev N_Lfilled:List Str:= ["_law_net","_law_model","_law_pool_here","_law_n","_law_free","_law_name","_law_k"]
theorem eV:FnScope N_Lfilled ["_law_net","_law_model","_law_pool_here","_law_n"] (L2.defScope lM):=⟨rfl,rfl,rfl,by decide+kernel,rfl,by decide+kernel,by decide+kernel⟩
abbrev jb:Stmt:=top 53
abbrev N_Lfreed:List Str:= ["_law_net","_law_model","_law_number","_law_tail","_law_head","_law_least","_law_most","_law_price"]
theorem sc_Lfreed:FnScope N_Lfreed ["_law_net","_law_model"] (L2.defScope jb):=⟨rfl,rfl,rfl,by decide+kernel,rfl,by decide+kernel,by decide+kernel⟩
abbrev tJ:Stmt:=top 59
abbrev N_Lless:List Str:= ["_law_flow","_law_parts","_law_n","_law_part","_law_number"]
theorem oN:FnScope N_Lless ["_law_flow","_law_parts","_law_n"] (L2.defScope tJ):=⟨rfl,rfl,rfl,by decide+kernel,rfl,by decide+kernel,by decide+kernel⟩
abbrev tF:Stmt:=top 50
abbrev N_Lrows:List Str:= ["_law_model","_law_number"]
theorem oM:FnScope N_Lrows ["_law_model"] (L2.defScope tF):=⟨rfl,rfl,rfl,by decide+kernel,rfl,by decide+kernel,by decide+kernel⟩
abbrev tG:Stmt:=top 52
abbrev N_Lroad:List Str:= ["_law_model","_law_cell","_law_k","_law_start","_law_road_here","_law_j","_law_out","_law_row"]
theorem fy:FnScope N_Lroad ["_law_model","_law_cell","_law_k","_law_start"] (L2.defScope tG):=⟨rfl,rfl,rfl,by decide+kernel,rfl,by decide+kernel,by decide+kernel⟩
abbrev tI:Stmt:=top 58
abbrev N_Lmore:List Str:= ["_law_model","_law_flow","_law_ends","_law_cell","_law_k","_law_n","_law_start","_law_road_here","_law_spot","_law_more_here","_law_number"]
theorem fA:FnScope N_Lmore ["_law_model","_law_flow","_law_ends","_law_cell","_law_k"] (L2.defScope tI):=⟨rfl,rfl,rfl,by decide+kernel,rfl,by decide+kernel,by decide+kernel⟩
abbrev lL:Stmt:=top 57
abbrev N_Lroomed:List Str:= ["_law_net","_law_model","_law_flow","_law_n","_law_number","_law_tail","_law_head","_law_least","_law_most","_law_price","_law_more_here"]
theorem bo:FnScope N_Lroomed ["_law_net","_law_model","_law_flow","_law_n"] (L2.defScope lL):=⟨rfl,rfl,rfl,by decide+kernel,rfl,by decide+kernel,by decide+kernel⟩
abbrev iu:Stmt:=top 23
abbrev N_need_ends:List Str:= ["net","source","target"]
theorem qV:FnScope N_need_ends ["net","source","target"] (L2.defScope iu):=⟨rfl,rfl,rfl,by decide+kernel,rfl,by decide+kernel,by decide+kernel⟩
abbrev jQ:Stmt:=inClass (top 41) 2
abbrev N_Net_ties:List Str:= ["self","number"]
theorem ip:FnScope N_Net_ties ["self"] (L2.defScope jQ):=⟨rfl,rfl,rfl,by decide+kernel,rfl,by decide+kernel,by decide+kernel⟩
abbrev iw:Stmt:=top 21
abbrev N_is_amount:List Str:= ["tie","amount"]
theorem qW:FnScope N_is_amount ["tie","amount"] (L2.defScope iw):=⟨rfl,rfl,rfl,by decide+kernel,rfl,by decide+kernel,by decide+kernel⟩
abbrev dQ:Stmt:=top 22
abbrev N_need_flow:List Str:= ["net","flow","ties","tie","number"]
theorem sc_need_flow:FnScope N_need_flow ["net","flow"] (L2.defScope dQ):=⟨rfl,rfl,rfl,by decide+kernel,rfl,by decide+kernel,by decide+kernel⟩
abbrev gp:Stmt:=inClass (top 41) 1
abbrev N_Net_places:List Str:= ["self"]
theorem oL:FnScope N_Net_places ["self"] (L2.defScope gp):=⟨rfl,rfl,rfl,by decide+kernel,rfl,by decide+kernel,by decide+kernel⟩
abbrev gc:Stmt:=top 24
abbrev N_spare_sums:List Str:= ["net","flow","found","name","tie"]
theorem dt:FnScope N_spare_sums ["net","flow"] (L2.defScope gc):=⟨rfl,rfl,rfl,by decide+kernel,rfl,by decide+kernel,by decide+kernel⟩
abbrev gk:Stmt:=top 25
abbrev N_carried_by:List Str:= ["net","flow","source","target","found","name","amount"]
theorem du:FnScope N_carried_by ["net","flow","source","target"] (L2.defScope gk):=⟨rfl,rfl,rfl,by decide+kernel,rfl,by decide+kernel,by decide+kernel⟩
abbrev lJ:Stmt:=top 28
abbrev N_outs_of:List Str:= ["net","found","name","tie"]
theorem gS:FnScope N_outs_of ["net"] (L2.defScope lJ):=⟨rfl,rfl,rfl,by decide+kernel,rfl,by decide+kernel,by decide+kernel⟩
abbrev lI:Stmt:=top 29
abbrev N_tie_out:List Str:= ["outs","amounts","name","tie"]
theorem nv:FnScope N_tie_out ["outs","amounts","name"] (L2.defScope lI):=⟨rfl,rfl,rfl,by decide+kernel,rfl,by decide+kernel,by decide+kernel⟩
abbrev gj:Stmt:=top 30
abbrev N_first_tail:List Str:= ["outs","amounts","name"]
theorem iZ:FnScope N_first_tail ["outs","amounts"] (L2.defScope gj):=⟨rfl,rfl,rfl,by decide+kernel,rfl,by decide+kernel,by decide+kernel⟩
abbrev oP:Stmt:=top 31
abbrev N_walked:List Str:= ["outs","amounts","start","target","road","spots","tie"]
theorem iY:FnScope N_walked ["outs","amounts","start","target"] (L2.defScope oP):=⟨rfl,rfl,rfl,by decide+kernel,rfl,by decide+kernel,by decide+kernel⟩
abbrev iB:Stmt:=inClass (top 27) 0
abbrev N_Part_init:List Str:= ["self","is_ring","numbers","amount"]
theorem qX:FnScope N_Part_init ["self","is_ring","numbers","amount"] (L2.defScope iB):=⟨rfl,rfl,rfl,by decide+kernel,rfl,by decide+kernel,by decide+kernel⟩
abbrev fB:Stmt:=top 32
abbrev N_taken_apart:List Str:= ["net","flow","source","target","rest","outs","amounts","found","start","is_ring","road","amount","number"]
theorem sc_taken_apart:FnScope N_taken_apart ["net","flow","source","target"] (L2.defScope fB):=⟨rfl,rfl,rfl,by decide+kernel,rfl,by decide+kernel,by decide+kernel⟩
abbrev gq:Stmt:=top 54
abbrev N_Lwalk_good:List Str:= ["_law_model","_law_part","_law_source","_law_target","_law_rows_here","_law_spots","_law_row","_law_number"]
theorem cn:FnScope N_Lwalk_good ["_law_model","_law_part","_law_source","_law_target"] (L2.defScope gq):=⟨rfl,rfl,rfl,by decide+kernel,rfl,by decide+kernel,by decide+kernel⟩
abbrev bq:Stmt:=top 55
abbrev N_Lparts_good:List Str:= ["_law_model","_law_flow","_law_parts","_law_ends","_law_due","_law_sums","_law_amount_here","_law_part","_law_number","_law_n"]
theorem sc_Lparts_good:FnScope N_Lparts_good ["_law_model","_law_flow","_law_parts","_law_ends","_law_due"] (L2.defScope bq):=⟨rfl,rfl,rfl,by decide+kernel,rfl,by decide+kernel,by decide+kernel⟩
abbrev eJ:Stmt:=top 33
abbrev N_put_together:List Str:= ["net","parts","found","tie","part","number"]
theorem bD:FnScope N_put_together ["net","parts"] (L2.defScope eJ):=⟨rfl,rfl,rfl,by decide+kernel,rfl,by decide+kernel,by decide+kernel⟩
abbrev eW:Stmt:=top 56
abbrev N_Lis_flow:List Str:= ["_law_found","_law_flow","_law_number"]
theorem sc_Lis_flow:FnScope N_Lis_flow ["_law_found","_law_flow"] (L2.defScope eW):=⟨rfl,rfl,rfl,by decide+kernel,rfl,by decide+kernel,by decide+kernel⟩
abbrev tK:Stmt:=top 60
abbrev N_Lkept:List Str:= ["_law_parts","_law_part"]
theorem oO:FnScope N_Lkept ["_law_parts"] (L2.defScope tK):=⟨rfl,rfl,rfl,by decide+kernel,rfl,by decide+kernel,by decide+kernel⟩
abbrev ja:Stmt:=top 62
abbrev N_law:List Str:= ["_law_script","_law_cells","_law_pool_here","_law_net","_law_model","_law_good","_law_more_here","_law_flow","_law_n","_law_names","_law_ends","_law_amount_here","_law_parts","_law_held","_law_k","_law_cell","_law_rows_here"]
theorem bK:FnScope N_law ["_law_script"] (L2.defScope ja):=⟨rfl,rfl,rfl,by decide+kernel,rfl,by decide+kernel,by decide+kernel⟩
structure FnAt (K:Frag) (f:Addr) (n q:Str) (st:Stmt):Prop where
 ex:∃(oc:Value) (od:Option Addr) (sl:Array (Option Value)) (kV dc pm:Value) (an:Option Addr) (cd ct:Value),K.lookup f=some ⟨oc,od, .func (fnOf n q (L2.defArgs st) (L2.defBody st) (L2.defScope st) .none kV dc pm an cd ct),sl⟩∧codeIn K cd q=true∧keepIn K (.ref f)=true
theorem FnAt.fn {K:Frag} {f:Addr} {n q:Str} {st:Stmt} (h:FnAt K f n q st):∃fd,L2.Fun K n q st f fd:=by
 obtain ⟨_,_,_,_,_,_,_,_,_,l,c,k⟩:=h.ex
 exact ⟨_,L2.fun_mk l c k⟩
structure FnG (K:Frag) (f:Addr) (q:Str) (st:Stmt):Prop where
 a:nsIn K mainGlobals q=some (some (.ref f))
 l:FnAt K f q q st
structure FnM (K:Frag) (C f:Addr) (m q:Str) (st:Stmt):Prop where
 a:findIn K (.ref C) m=some (some (.ref f))
 i:isFn K (.ref f)=true
 l:FnAt K f m q st
def xV (K:Frag):L2.Sp:=fun vs H Q _=>∃(a:Addr) (ns:List Int),vs= [.ref a]∧L2.SqL K H a (ns.map L2.V.int)∧∀H',Q (.bl true) H'
section
open HR (ob)
local macro_rules | `(tactic| trivial) => `(tactic| first | k_is | exact ⟨⟨_, _, _, _, _, _, _, _, _, by k_is, by k_is, by k_is⟩⟩ | (constructor <;> trivial) | k_exc | rfl)
theorem kf0:PySem.Challenge.rw_flowhall_k23_whole_taken_apart_and_toget=PySem.Challenge.rw_flowhall_k23_whole_taken_apart_and_toget∧ob=ob:=by
 k_fill
 exact ⟨rfl,rfl⟩
set_option genSizeOf false in
set_option genInjectivity false in
structure Q0 (K:Frag) (Ca Cb Cc:Addr) where
 (t_g_LETTERS:Tok)
 (t_g_MOST_LETTERS:Tok)
 (t_g_MOST:Tok)
 (t_g_MOST_PLACES:Tok)
 (t_g_MOST_TIES:Tok)
 (m_Part:nsIn K mainGlobals "Part" =some (some (.ref Ca)))
 (m_Tie:nsIn K mainGlobals "Tie" =some (some (.ref Cb)))
 (m_Net:nsIn K mainGlobals "Net" =some (some (.ref Cc)))
 (pg_CPart:plainGet K Ca Str.empty=true)
 (hd_CPart:hasDictIn K Ca=true)
 (po_CPart:plainOver K Ca=true)
 (sa_CPart:findIn K (.ref Ca) "__setattr__" =some (some (.builtin "object.__setattr__")))
 (pg_CTie:plainGet K Cb Str.empty=true)
 (hd_CTie:hasDictIn K Cb=true)
 (po_CTie:plainOver K Cb=true)
 (sa_CTie:findIn K (.ref Cb) "__setattr__" =some (some (.builtin "object.__setattr__")))
 (pg_CNet:plainGet K Cc Str.empty=true)
 (hd_CNet:hasDictIn K Cc=true)
 (po_CNet:plainOver K Cc=true)
 (sa_CNet:findIn K (.ref Cc) "__setattr__" =some (some (.builtin "object.__setattr__")))
 (z_all:nsIn K mainGlobals "all" =some none)
 (z_bool:nsIn K mainGlobals "bool" =some none)
 (z_dict:nsIn K mainGlobals "dict" =some none)
 (z_enumerate:nsIn K mainGlobals "enumerate" =some none)
 (z_int:nsIn K mainGlobals "int" =some none)
 (z_isinstance:nsIn K mainGlobals "isinstance" =some none)
 (z_len:nsIn K mainGlobals "len" =some none)
 (z_list:nsIn K mainGlobals "list" =some none)
 (z_min:nsIn K mainGlobals "min" =some none)
 (z_range:nsIn K mainGlobals "range" =some none)
 (z_set:nsIn K mainGlobals "set" =some none)
 (z_sorted:nsIn K mainGlobals "sorted" =some none)
 (z_str:nsIn K mainGlobals "str" =some none)
 (z_sum:nsIn K mainGlobals "sum" =some none)
 (g_LETTERS:nsIn K mainGlobals "LETTERS" =some (some (.str "abcdefghijklmnopqrstuvwxyz" t_g_LETTERS)))
 (g_MOST_LETTERS:nsIn K mainGlobals "MOST_LETTERS" =some (some (.int 12 t_g_MOST_LETTERS)))
 (g_MOST:nsIn K mainGlobals "MOST" =some (some (.int 1000000000000000000000000000000000000000000000000000000000000 t_g_MOST)))
 (g_MOST_PLACES:nsIn K mainGlobals "MOST_PLACES" =some (some (.int 14 t_g_MOST_PLACES)))
 (g_MOST_TIES:nsIn K mainGlobals "MOST_TIES" =some (some (.int 40 t_g_MOST_TIES)))
 (n_amount_Part:findIn K (.ref Ca) "amount" =some none)
 (n_head_Tie:findIn K (.ref Cb) "head" =some none)
 (n_is_ring_Part:findIn K (.ref Ca) "is_ring" =some none)
 (n_last_given_Net:findIn K (.ref Cc) "last_given" =some none)
 (n_least_Tie:findIn K (.ref Cb) "least" =some none)
 (n_most_Tie:findIn K (.ref Cb) "most" =some none)
set_option maxHeartbeats 0 in
noncomputable def q0 (P:Params):Q0 (ob P) 251 326 437:=by
 have _:=kf0
 apply Q0.mk<;> trivial
set_option genSizeOf false in
set_option genInjectivity false in
structure Q1 (K:Frag) (Ca Cb Cc:Addr) where
 (n_names_Net:findIn K (.ref Cc) "names" =some none)
 (n_number_Tie:findIn K (.ref Cb) "number" =some none)
 (n_numbers_Part:findIn K (.ref Ca) "numbers" =some none)
 (n_price_Tie:findIn K (.ref Cb) "price" =some none)
 (n_rows_Net:findIn K (.ref Cc) "rows" =some none)
 (n_tail_Tie:findIn K (.ref Cb) "tail" =some none)
set_option maxHeartbeats 0 in
noncomputable def q1 (P:Params):Q1 (ob P) 251 326 437:=by
 apply Q1.mk<;> trivial
set_option genSizeOf false in
set_option genInjectivity false in
structure Q2 (K:Frag) (Ca Cb Cc:Addr) where
 (f1:Addr)
 (f2:Addr)
 (f3:Addr)
 (f4:Addr)
 (f5:Addr)
 (f6:Addr)
 (f7:Addr)
 (f8:Addr)
 (f9:Addr)
 (f10:Addr)
 (f11:Addr)
 (f12:Addr)
 (l1:FnG K f1 "is_whole" jN)
 (l2:FnG K f2 "is_among" jO)
 (l3:FnG K f3 "are_signs" iA)
 (l4:FnG K f4 "is_name" lK)
 (l5:FnG K f5 "is_amount" iw)
 (l6:FnG K f6 "need_flow" dQ)
 (l7:FnG K f7 "need_ends" iu)
 (l8:FnG K f8 "spare_sums" gc)
 (l9:FnG K f9 "carried_by" gk)
 (a10:findIn K (.ref Ca) "__init__" =some (some (.ref f10)))
 (i10:isFn K (.ref f10)=true)
 (l10:FnAt K f10 "__init__" "Part.__init__" iB)
 (mk10:makesIn K Ca=true)
 (kc10:keepIn K (.ref Ca)=true)
 (l11:FnG K f11 "outs_of" lJ)
 (l12:FnG K f12 "tie_out" lI)
set_option maxHeartbeats 0 in
noncomputable def q2 (P:Params):Q2 (ob P) 251 326 437:=by
 apply Q2.mk<;> trivial
set_option genSizeOf false in
set_option genInjectivity false in
structure Q3 (K:Frag) (Ca Cb Cc:Addr) where
 (f13:Addr)
 (f14:Addr)
 (f15:Addr)
 (f16:Addr)
 (f17:Addr)
 (f18:Addr)
 (f19:Addr)
 (f20:Addr)
 (f21:Addr)
 (f22:Addr)
 (f23:Addr)
 (f24:Addr)
 (l13:FnG K f13 "first_tail" gj)
 (l14:FnG K f14 "walked" oP)
 (l15:FnG K f15 "taken_apart" fB)
 (l16:FnG K f16 "put_together" eJ)
 (l17:FnG K f17 "need_room" ir)
 (l18:FnG K f18 "need_price" gh)
 (a19:findIn K (.ref Cb) "__init__" =some (some (.ref f19)))
 (i19:isFn K (.ref f19)=true)
 (l19:FnAt K f19 "__init__" "Tie.__init__" jP)
 (mk19:makesIn K Cb=true)
 (kc19:keepIn K (.ref Cb)=true)
 (a20:findIn K (.ref Cc) "__init__" =some (some (.ref f20)))
 (i20:isFn K (.ref f20)=true)
 (l20:FnAt K f20 "__init__" "Net.__init__" jR)
 (mk20:makesIn K Cc=true)
 (kc20:keepIn K (.ref Cc)=true)
 (l21:FnM K Cc f21 "places" "Net.places" gp)
 (l22:FnM K Cc f22 "ties" "Net.ties" jQ)
 (l23:FnM K Cc f23 "put_place" "Net.put_place" dS)
 (l24:FnM K Cc f24 "need_place" "Net.need_place" dh)
set_option maxHeartbeats 0 in
noncomputable def q3 (P:Params):Q3 (ob P) 251 326 437:=by
 apply Q3.mk<;> trivial
set_option genSizeOf false in
set_option genInjectivity false in
structure Q4 (K:Frag) (Ca Cb Cc:Addr) where
 (f25:Addr) (od25 an25:Option Addr) (sl25:Array (Option Value)) (oc25 kV25 dc25 pm25 cd25 ct25:Value)
 (T25:Addr) (ocT25:Value) (odT25:Option Addr) (nT25:Nat) (slT25:Array (Option Value)) (tk25_0 tk25_2:Tok)
 (f26:Addr)
 (f27:Addr)
 (f28:Addr)
 (f29:Addr)
 (f30:Addr)
 (f31:Addr)
 (f32:Addr)
 (f33:Addr)
 (f34:Addr)
 (f35:Addr)
 (f36:Addr)
 (a25:findIn K (.ref Cc) "put_tie" =some (some (.ref f25)))
 (i25:isFn K (.ref f25)=true)
 (l25:K.lookup f25=some ⟨oc25,od25, .func (fnOf "put_tie" "Net.put_tie" (defArgs aP) (defBody aP) (defScope aP) (.ref T25) kV25 dc25 pm25 an25 cd25 ct25),sl25⟩)
 (t25:K.lookup T25=some ⟨ocT25,odT25, .seq [.int 0 tk25_0, .none, .int 0 tk25_2].toArray nT25,slT25⟩)
 (c25:codeIn K cd25 "Net.put_tie" =true)
 (k25:keepIn K (.ref f25)=true)
 (l26:FnM K Cc f26 "put_numbered" "Net.put_numbered" cw)
 (l27:FnM K Cc f27 "tie_of" "Net.tie_of" gm)
 (l28:FnM K Cc f28 "drop_tie" "Net.drop_tie" eL)
 (l29:FnM K Cc f29 "set_room" "Net.set_room" eK)
 (l30:FnM K Cc f30 "set_price" "Net.set_price" dR)
 (l31:FnG K f31 "_law_draw" tL)
 (l32:FnG K f32 "_law_amount" lN)
 (l33:FnG K f33 "_law_pool" tH)
 (l34:FnG K f34 "_law_whole" oQ)
 (l35:FnG K f35 "_law_put_tie" jS)
 (l36:FnG K f36 "_law_changed" jT)
set_option maxHeartbeats 0 in
noncomputable def q4 (P:Params):Q4 (ob P) 251 326 437:=by
 apply Q4.mk<;> trivial
set_option genSizeOf false in
set_option genInjectivity false in
structure Q5 (K:Frag) (Ca Cb Cc:Addr) where
 (f37:Addr)
 (f38:Addr)
 (f39:Addr)
 (f40:Addr)
 (f41:Addr)
 (f42:Addr)
 (f43:Addr)
 (f44:Addr)
 (f45:Addr)
 (f46:Addr)
 (f47:Addr)
 (f48:Addr)
 (l37:FnG K f37 "_law_deed" tM)
 (l38:FnG K f38 "_law_rows" tF)
 (l39:FnG K f39 "_law_built" oR)
 (l40:FnG K f40 "_law_road" tG)
 (l41:FnG K f41 "_law_freed" jb)
 (l42:FnG K f42 "_law_walk_good" gq)
 (l43:FnG K f43 "_law_parts_good" bq)
 (l44:FnG K f44 "_law_is_flow" eW)
 (l45:FnG K f45 "_law_roomed" lL)
 (l46:FnG K f46 "_law_more" tI)
 (l47:FnG K f47 "_law_less" tJ)
 (l48:FnG K f48 "_law_kept" tK)
set_option maxHeartbeats 0 in
noncomputable def q5 (P:Params):Q5 (ob P) 251 326 437:=by
 apply Q5.mk<;> trivial
set_option genSizeOf false in
set_option genInjectivity false in
structure Q6 (K:Frag) (Ca Cb Cc:Addr) where
 (f49:Addr)
 (f50:Addr) (od50 an50:Option Addr) (sl50:Array (Option Value)) (oc50 kV50 dc50 pm50 cd50 ct50:Value)
 (l49:FnG K f49 "_law_filled" lM)
 (a50:nsIn K mainGlobals "law" =some (some (.ref f50)))
 (l50:K.lookup f50=some ⟨oc50,od50, .func (fnOf "law" "law" (defArgs ja) (defBody ja) (defScope ja) .none kV50 dc50 pm50 an50 cd50 ct50),sl50⟩)
 (c50:codeIn K cd50 "law" =true)
 (k50:keepIn K (.ref f50)=true)
set_option maxHeartbeats 0 in
noncomputable def q6 (P:Params):Q6 (ob P) 251 326 437:=by
 apply Q6.mk<;> trivial
end
section
open PySem.W
noncomputable abbrev lr:OpenRow:=PySem.Challenge.rw_flowhall_k23_whole_taken_apart_and_toget.row
def posS (s:Stmt):Pos:=match s with
 | .FunctionDef _ _ _ _ _ _ _ _ _ p=>p
 | _=>⟨0,0,0,0⟩
noncomputable def dl:DefRec:=⟨"law",L2.defArgs ja,L2.defBody ja,L2.defScope ja,posS ja⟩
theorem oe:∀P,HR.oa=(HR.ob P).map (·.1):=fun _=>by kernel_rfl
noncomputable abbrev hk:Hook:=kHook HR.ob HR.oa oe
theorem t1:defOf HR.vw lr.name=some (dl,[]):=by kernel_rfl
theorem t2:lr.prog.theDef lr.name=some (dl.params,dl.body,dl.scope):=by kernel_rfl
theorem t3:chainsOk HR.vw=true:=by decide+kernel
theorem t4:opensWell lr.prog=true:=by decide+kernel
theorem t5:(frees lr.toRowW&&lr.within.isEmpty)=true:=by decide+kernel
theorem t6:lr.prog.bare:=⟨rfl,rfl,rfl,rfl,rfl,by decide+kernel⟩
set_option maxHeartbeats 0 in
theorem t7:(PySem.Challenge.rw_flowhall_k23_whole_taken_apart_and_toget).row.toRowW.promised:=by w_on; w_witness2
theorem t8a:opening lr.prog=plainProg lr.prog.main.scope.names:=by kernel_rfl
theorem t8b:∀s,fenceModules? lr.prog s=some s:=fun s=>by kernel_rfl
set_option maxHeartbeats 0 in
theorem t8:LeftO lr.prog HR.vw HR.lo (fun s=>xlAt HR.vw HR.lv s&&recOk (RowW.records lr.toRowW) s) (Hook.obs hk) (Hook.val hk) 10422:=by
 refine HeadRun.left_oneK (M:=9722) t8a (by rfl) t8b (by rfl) ?_
 intro w os
 apply HR.mapT3
 ·exact Eq.trans (by kernel_rfl) (HR.b0 w os)
 ·exact Eq.trans (by kernel_rfl) (Eq.trans (HR.seen_all w os) (by kernel_rfl))
 ·exact Eq.trans (by kernel_rfl) (Eq.trans (HR.b10 w os) (by kernel_rfl))
theorem t9:dl.params.defaults= []:=by kernel_rfl
set_option maxHeartbeats 0 in
theorem fin (F:WalkO HR.vw HR.lo (XL HR.vw HR.lv) (Hook.says hk) lr.toRowW dl [] fun f vs=>PySem.call f vs):PySem.Challenge.rw_flowhall_k23_whole_taken_apart_and_toget.Holds:=by
 w_on; o_law
 exact holds_open t8 (Hook.of hk) (Hook.keeps hk) (fun s e=>xl_of s (Bool.and_eq_true_iff.mp e).1) XL.keeps t1 t2 (by rfl) (fun s e=>recFacts_of (Bool.and_eq_true_iff.mp e).2) (by rfl) (by assumption) (by rw [t3,t4,t5]; rfl) t6 t7 F
end
end T

namespace M
open PySem PySem.Spec PyProof.Rows L2

section
variable {P:Program} {w:World} {K:PySem.W.Frag} {mg:Str→Option Value} {base:Heap}
structure Df (K:PySem.W.Frag) (mg:Str→Option Value) (x:Str) (st:Stmt) (ps:List Str):Prop where
 ex:∃(f:Addr) (fd:FuncData),L2.Fun K x x st f fd∧mg x=some (.ref f)∧L2.Binds K fd ps []
structure Cal (P:Program) (w:World) (K:PySem.W.Frag) (mg:Str→Option Value) (base:Heap) (k:Nat) (x:Str) (sp:Sp):Prop where
 ex:∃(f:Addr) (fd:FuncData) (ps:List Str),FnOk P w K mg base L2.CX0 k f fd ps sp∧mg x=some (.ref f)∧PySem.W.keepIn K (.ref f)=true∧Binds K fd ps []
end
section
variable {X:Cx} {x:Str} {pos:Pos} {e:Expr}
theorem rA {v:V} (hg:Gl X x) (h:∃u,X.mg x=some u∧RelV v u) (hd:(x == ("__debug__" :Str))=false:=by decide):PE X (.Name x pos) (tC v):=by
 obtain ⟨u,e,r⟩:=h
 exact pe_glob hg e r hd
end

section
variable {X:Cx}
def wZ (i j:Int):Prop:=0≤j∧(Builtin.Int.intBits i:Int)*j≤2 ^ 27
theorem fC:OpR X (binaryOp .Pow) (rI wZ fun i j=> .int (i ^ j.toNat)):=opI fun _ _ _ _ _ _ _ hc q=>pow_int hc.1 hc.2 q
end
def NewL (xs:List V) (H:Hp) (Q:VK):Prop:=xs.length≤sizeLine∧∀p,H p=none→Q (.ref p) (upd H p (.lst xs))
def NewT (xs:List V) (H:Hp) (Q:VK):Prop:=xs.length≤sizeLine∧∀p,H p=none→Q (.ref p) (upd H p (.tup xs))
section
variable {K:PySem.W.Frag} {σ:L2.St} {H H' :Hp} {Q:VK} {te:TE} {v x:V} {t:TS} {i:Nat}
inductive Kd (K:PySem.W.Frag) (H:Hp):V→String→Prop where
 | non:Kd K H .non "NoneType"
 | bl (b:Bool):Kd K H (.bl b) "bool"
 | int (i:Int):Kd K H (.int i) "int"
 | str (x:Str):Kd K H (.str x) "str"
 | lst {a:Addr} {xs:List V} (e:H a=some (.lst xs)):Kd K H (.ref a) "list"
 | tup {a:Addr} {xs:List V} (e:H a=some (.tup xs)):Kd K H (.ref a) "tuple"
 | dK {a:Addr} {xs:List (Key×V)} (e:H a=some (.dK xs)):Kd K H (.ref a) "dict"
theorem Kd.mono {x:V} {k:String} (s:Same H H') (h:Kd K H x k):Kd K H' x k:=by
 cases h with
 | non=>exact .non
 | bl b=>exact .bl b
 | int i=>exact .int i
 | str x=>exact .str x
 | lst e=>exact .lst (s _ _ e)
 | tup e=>exact .tup (s _ _ e)
 | dK e=>exact .dK (s _ _ e)
theorem Kd.ty {x:V} {k:String} (h:Kd K H x k):TyX K H x (.type k):=by
 cases h with
 | non=>exact .base .non
 | bl b=>exact .base (.bl b)
 | int i=>exact .base (.int i)
 | str x=>exact .base (.str x)
 | lst e=>exact .base (.lst e)
 | tup e=>exact .base (.tup e)
 | dK e=>exact .base (.dK e)
theorem aM {i j:Int} (h1: -1000000000000000000000000000000000000000000000000000000000000000000000000000000000000≤i) (h2:i≤1000000000000000000000000000000000000000000000000000000000000000000000000000000000000) (h3: -1000000000000000000000000000000000000000000000000000000000000000000000000000000000000≤j) (h4:j≤1000000000000000000000000000000000000000000000000000000000000000000000000000000000000):CMulX i j:=
 mulx_ok (a:=300) (b:=300) (Nat.lt_of_le_of_lt (m:=1000000000000000000000000000000000000000000000000000000000000000000000000000000000000) (by omega) (by decide+kernel)) (Nat.lt_of_le_of_lt (m:=1000000000000000000000000000000000000000000000000000000000000000000000000000000000000) (by omega) (by decide+kernel)) (by decide)
theorem aq {i j:Int} (h1:0<j) (h2:j≤1000000000000000000000000000000000000000000000000000000000000000000000000000000000000):CDivW i j:=
 wide_div (b:=300) h1 (Nat.lt_of_le_of_lt (m:=1000000000000000000000000000000000000000000000000000000000000000000000000000000000000) (by omega) (by decide+kernel)) (by decide) (by decide)
def tCutE (te:TE):TE:=fun σ H Q=>∃P:VK,te σ H P∧∀v H',P v H'→Q v H'
def tCutT (t:TT):TT:=fun σ H Q=>∃P:Bool→Hp→Prop,t σ H P∧∀b H',P b H'→Q b H'
end
def LcJ (J:It) (H1:Hp) (g:TG) (tt:TT) (te:TE) (vs:List Nat) (σ:L2.St) (Qd:Addr→Hp→Prop):Prop:=∀D,H1 D=none→∃W:Nat→Nat→Hp→Prop,(∃m,W 0 m (upd H1 D (.lst [])))∧∀i m H,W i m H→
 (J.stop i H∧Qd D H)∨(J.go i H∧∃Nx:Hp→Prop,(∀H',Nx H'→∃m',m' <m∧W (i+1) m' H')∧∀x H',J.yld i H x H'→g x (wipe σ vs) H' fun σ2 H2=>wipe σ2 vs=wipe σ vs∧tt σ2 H2 fun b H3=>
  if b=true then te σ2 H3 fun y H4=>∃acc,H4 D=some (.lst acc)∧acc.length<sizeLine∧Nx (upd H4 D (.lst (acc++ [y]))) else Nx H3)
def ForJ (J:It) (σ:L2.St) (H1:Hp) (g:TG) (tb:TS) (D:Ends):Prop:=∃W:Nat→Nat→L2.St→Hp→Prop,(∃m,W 0 m σ H1)∧∀i m σ H,W i m σ H→
 (J.stop i H∧D.nx σ H)∨(J.go i H∧∃N:L2.St→Hp→Prop,(∀σ' H',N σ' H'→∃m',m' <m∧W (i+1) m' σ' H')∧∀x H',J.yld i H x H'→g x σ H' fun σ2 H2=>tb {D with nx:=N,ct:=N,bk:=D.nx} σ2 H2)
section
variable {H H' :Hp} {D:Ends} {u:TS} {n:Nat}
def SameBut (D:Addr) (H H' :Hp):Prop:=∀b o,b≠D→H b=some o→H' b=some o
theorem SameBut.upd {D:Addr} {H:Hp} {o:HO}:SameBut D H (upd H D o):=fun b u n e=>by
 rw [upd_ne n]
 exact e
theorem SameBut.trans {D:Addr} {H1 H2 H3:Hp} (a:SameBut D H1 H2) (b:SameBut D H2 H3):SameBut D H1 H3:=fun c o n e=>b c o n (a c o n e)
theorem Paired.snoc {α β:Type} {F:α→β→Prop} {l:List α} {ys:List β} {d:α} {y:β} (p:Paired F l ys) (f:F d y):Paired F (l++ [d]) (ys++ [y]):=by
 induction p with
 | nil=>exact .cons f .nil
 | cons r _ ih=>exact .cons r ih
end
def tR (K:PySem.W.Frag):List V→Hp→VK→Prop:=fun xs H Q=>∃p ys,xs= [.ref p]∧(SqL K H p ys∨SqT K H p ys)∧Q (.int ys.length) H
def yp:List V→Hp→VK→Prop:=fun xs H Q=>∃z:Str,xs= [.str z]∧z.length≤sizeLine∧Q (.int z.length) H
def rLenD:List V→Hp→VK→Prop:=fun xs H Q=>∃a,∃kvs:List (Key×V),xs= [V.ref a]∧H a=some (.dK kvs)∧Q (.int kvs.length) H
def rAbs:List V→Hp→VK→Prop:=fun xs H Q=>∃i:Int,xs= [.int i]∧Q (.int (if i<0 then -i else i)) H
def rMax2:List V→Hp→VK→Prop:=fun xs H Q=>∃i j:Int,xs= [.int i, .int j]∧Q (.int (if j > i then j else i)) H
def rMin2:List V→Hp→VK→Prop:=fun xs H Q=>∃i j:Int,xs= [.int i, .int j]∧Q (.int (if j<i then j else i)) H
def rInt1:List V→Hp→VK→Prop:=fun xs H Q=>(∃i,xs= [.int i]∧Q (.int i) H)∨∃k:Bool,xs= [.bl k]∧Q (.int (if k then 1 else 0)) H
def rStr1:List V→Hp→VK→Prop:=fun xs H Q=>∃i:Int,xs= [.int i]∧i.natAbs.log2<1920∧Q (.str (toString i)) H
def rIntS:List V→Hp→VK→Prop:=fun xs H Q=>∃a n,xs= [.str a]∧PySem.intText? a=some n∧a.length≤640∧Q (.int n) H
def yn (K:PySem.W.Frag):List V→Hp→VK→Prop:=fun xs H Q=>∃p ys,xs= [.ref p]∧(SqL K H p ys∨SqT K H p ys)∧∀l,H l=none→Q (.ref l) (upd H l (.lst ys))
def rDictD:List V→Hp→VK→Prop:=fun xs H Q=>∃(a:Addr) (kvs:List (Key×V)),xs= [.ref a]∧Rd H a (.dK kvs)∧∀p,H p=none→Q (.ref p) (upd H p (.dK kvs))
def yo:List V→Hp→VK→Prop:=fun xs H Q=>∃(a:Addr) (kvs:List (Key×V)),xs= [.ref a]∧Rd H a (.dK kvs)∧∀p,H p=none→Q (.ref p) (upd H p (.lst (kvs.map fun kv=>kV kv.1)))
def rf:List V→Hp→VK→Prop:=fun xs H Q=>∃(a:Addr) (kvs:List (Key×V)) (ks:List Int),xs= [.ref a]∧Rd H a (.dK kvs)∧kvs.map (·.1)=ks.map Sum.inl∧ks.length<64∧∀(ys:List Int) (p:Addr),ys.Perm ks→ys.Pairwise (· ≤ ·)→H p=none→Q (.ref p) (upd H p (.lst (ys.map V.int)))
def yq (neg:Bool):R2:=fun x y H Q=>∃i j:Str,x= .str i∧y= .str j∧Q (.bl (if neg then !(!(Builtin.Str.occurrences j i 0 j.length 1).isEmpty) else !(Builtin.Str.occurrences j i 0 j.length 1).isEmpty)) H
def rInSg (neg:Bool):R2:=fun x y H Q=>∃(c:Nat) (z:Str),x= .str ⟨#[c]⟩∧y= .str z∧Q (.bl (if neg then !decide (c∈z.cps.toList) else decide (c∈z.cps.toList))) H
def rIsN:R2:=fun x y H Q=>y= .non∧Q (.bl (decide (x= .non))) H
def rNotN:R2:=fun x y H Q=>y= .non∧Q (.bl (!decide (x= .non))) H
def rAddS:R2:=fun x y H Q=>∃i j:Str,x= .str i∧y= .str j∧i.length+j.length≤sizeLine∧Q (.str (i++j)) H
def rStarts:V→List V→Hp→VK→Prop:=fun x xs H Q=>∃a b,x= .str a∧xs= [.str b]∧Q (.bl (Txt.startswith a b)) H
section
variable {X:Cx}
theorem wR:CallR X (.builtin "len") (tR X.K):=call_len_seq
theorem wQ:CallR X (.builtin "len") yp:=call_len_str
theorem jY (hc:X.calm=true):CallR X (.builtin "min") rMin2:=call_min2 hc
theorem cl_int1:CallR X (.type "int") rInt1:=call_int1
theorem wU:CallR X (.type "int") rIntS:=call_int_str
theorem wO:CallR X (.type "list") (yn X.K):=call_list_of
theorem BD:CallR X (.type "dict") rDictD:=call_dictD
theorem BB (hc:X.calm=true):CallR X (.type "list") yo:=call_listD hc
theorem uW (hc:X.calm=true):CallR X (.builtin "sorted") rf:=call_sortedDI hc
theorem Ba:OpR X (compareOp .In) (yq false):=op_in_str
theorem tW:OpR X (compareOp .NotIn) (yq true):=op_notin_str
theorem yA:OpR X (compareOp .In) (rInSg false):=op_in_sign
theorem rE:OpR X (compareOp .NotIn) (rInSg true):=op_notIn_sign
theorem o_isN:OpR X (compareOp .Is) rIsN:=op_isN
theorem o_notN:OpR X (compareOp .IsNot) rNotN:=op_notN
theorem yB:OpR X (binaryOp .Add) rAddS:=op_add_str
end
section
variable {x:V} {xs:List V} {i j:Int}

theorem atI_map {α β:Type} (f:α→β) (xs:List α) (i:Int):atI (xs.map f) i=(atI xs i).map f:=by
 unfold atI
 rw [List.length_map]
 cases ixN xs.length i with
 | none=>rfl
 | some j=>
  show (xs.map f)[j]? =(xs[j]?).map f
  rw [List.getElem?_map]
theorem nQ {α:Type} {xs:List α} {i:Int} (d:α) (h0:0≤i) (h1:i<xs.length):atI xs i=some (xs.getD i.toNat d):=by
 unfold atI ixN
 rw [if_pos h0,if_pos h1]
 show xs[i.toNat]? =_
 have h2:i.toNat<xs.length:=by omega
 rw [List.getElem?_eq_getElem h2,List.getD_eq_getElem?_getD,List.getElem?_eq_getElem h2]
 rfl
theorem pick {α:Type} (xs:List α) (f:α→V) (i:Int) (h0:0≤i) (h1:i<xs.length):∃x,x∈xs∧atI (xs.map f) i=some (f x):=by
 have h2:i.toNat<xs.length:=by omega
 refine ⟨xs[i.toNat],List.getElem_mem h2, ?_⟩
 rw [atI_map]
 unfold atI ixN
 rw [if_pos h0,if_pos h1]
 show (xs[i.toNat]?).map f=_
 rw [List.getElem?_eq_getElem h2]
 rfl
end
def vE (K:PySem.W.Frag) (neg:Bool):R2:=fun x y H Q=>∃p q xs,x= .ref p∧y= .ref q∧SqL K H p xs∧SqL K H q []∧Q (.bl (if neg then !xs.isEmpty else xs.isEmpty)) H
section
variable {X:Cx}
theorem A9 (hu:X.A.units+64<cLine):OpR X (compareOp .Eq) (vE X.K false):=by
 intro pins s σ H x y v u Q I rx ry h
 obtain ⟨p,q,xs,rfl,rfl,h1,h2,k⟩:=h
 cases rx
 cases ry
 obtain ⟨its,r1,l1,_⟩:=I.list h1
 obtain ⟨its2,r2,l2,_⟩:=I.list h2
 cases r2
 have hu2:X.A.units<cLine:=by omega
 cases r1 with
 | nil=>exact SeqAt.RcAt.lists (e:=fun _=>true) l1.isList l2.isList rfl hu2 (fun j h _=>absurd h (by simp)) X.prog X.w X.xe _ ⟨.bl _,H,I,rfl,k⟩
 | cons a b=>exact SeqAt.RcAt.lists_lengths l1.isList l2.isList (by simp) hu2 X.prog X.w X.xe _ ⟨.bl _,H,I,rfl,k⟩
theorem A7 (hu:X.A.units+64<cLine):OpR X (compareOp .NotEq) (vE X.K true):=by
 intro pins s σ H x y v u Q I rx ry h
 obtain ⟨p,q,xs,rfl,rfl,h1,h2,k⟩:=h
 cases rx
 cases ry
 obtain ⟨its,r1,l1,_⟩:=I.list h1
 obtain ⟨its2,r2,l2,_⟩:=I.list h2
 cases r2
 have hu2:X.A.units<cLine:=by omega
 cases r1 with
 | nil=>exact SeqAt.RcNeAt.lists (e:=fun _=>true) l1.isList l2.isList rfl hu2 (fun j h _=>absurd h (by simp)) X.prog X.w X.xe _ ⟨.bl _,H,I,rfl,k⟩
 | cons a b=>exact SeqAt.RcNeAt.lists_lengths l1.isList l2.isList (by simp) hu2 X.prog X.w X.xe _ ⟨.bl _,H,I,rfl,k⟩
end
def rRepS:R2:=fun x y H Q=>∃(z:Str) (i:Int),x= .str z∧y= .int i∧0≤i∧i≤1∧z.length≤1000∧Q (.str (if i=0 then Str.empty else z)) H
def rSidx:V→List V→Hp→VK→Prop:=fun x xs H Q=>∃(a b:Str) (k:Nat),x= .str a∧xs= [.str b]∧Txt.index0 a b=some k∧Q (.int k) H
section

end
end M

namespace RT
open PySem PySem.Spec PyProof.Rows L2
section

end
end RT
namespace M
open PySem PySem.Spec PyProof.Rows L2
def tJoinRev (K:PySem.W.Frag) (to te:TE):TE:=fun σ H Q=>to σ H fun x H1=>(∃a,x= .str a)∧te σ H1 fun y H2=>∃(a:Str) (p:Addr) (ys:List Str),x= .str a∧y= .ref p∧SqL K H2 p (ys.map V.str)∧(ys.map (·.length)).sum+ys.length*a.length≤16777216∧Q (.str (Txt.join a ys.reverse)) H2
section

end
def rNeStrs (K:PySem.W.Frag):R2:=fun x y H Q=>∃p q,∃ws:List Str,x= .ref p∧y= .ref q∧SqL K H p (ws.map V.str)∧SqL K H q (ws.map V.str)∧Q (.bl false) H
section
variable {K:PySem.W.Frag} {mg:Str→Option Value}
structure Dm (K:PySem.W.Frag) (C:Addr) (m qual:Str) (st:Stmt) (ps:List Str):Prop where
 ex:∃(f:Addr) (fd:FuncData),L2.Fun K m qual st f fd∧Cls K C∧Meth K C m f∧L2.Binds K fd ps []
structure Dmd (K:PySem.W.Frag) (C:Addr) (m qual:Str) (st:Stmt) (ps:List Str) (dvs:List V):Prop where
 ex:∃(f:Addr) (fd:FuncData),L2.FunD K m qual (defArgs st) (defBody st) (defScope st) dvs [] f fd∧Cls K C∧Meth K C m f∧∀j,j≤dvs.length→∃ds,Vals (dvs.drop j) ds∧L2.Binds K fd ps ds
structure Dk (K:PySem.W.Frag) (mg:Str→Option Value) (x:Str) (C:Addr) (qual:Str) (st:Stmt) (ps:List Str):Prop where
 ex:∃(f:Addr) (fd:FuncData),L2.Fun K "__init__" qual st f fd∧Mk K C f∧mg x=some (.ref C)∧L2.Binds K fd ps []
end
section

end
section
variable {X:Cx} {pos:Pos}
theorem lY {K:PySem.W.Frag} (hK:X.K=K:=by rfl):CallR X (.builtin "isinstance") (rIsi K):=hK ▸ call_isi
theorem m_lenS {K:PySem.W.Frag} (hK:X.K=K:=by rfl):CallR X (.builtin "len") (tR K):=hK ▸ wR
theorem m_ixL {K:PySem.W.Frag} (hK:X.K=K:=by rfl):IxR X (rIxL K):=hK ▸ ix_list
theorem m_ixT {K:PySem.W.Frag} (hK:X.K=K:=by rfl):IxR X (rIxT K):=hK ▸ ix_tup
theorem m_slL {K:PySem.W.Frag} (hK:X.K=K:=by rfl):SlR X (rSlL K):=hK ▸ sl_list
theorem m_inS {K:PySem.W.Frag} (hK:X.K=K:=by rfl):OpR X (compareOp .In) (rIn K false):=hK ▸ op_in_seq
theorem Bk {K:PySem.W.Frag} (hK:X.K=K:=by rfl):OpR X (compareOp .NotIn) (rIn K true):=hK ▸ op_notIn_seq
theorem m_neD {K:PySem.W.Frag} (hu:X.A.units+64<cLine) (hK:X.K=K:=by rfl):OpR X (compareOp .NotEq) (rNeD K):=hK ▸ op_neD hu
theorem m_eqD {K:PySem.W.Frag} (hu:X.A.units+64<cLine) (hK:X.K=K:=by rfl):OpR X (compareOp .Eq) (rEqD K):=hK ▸ op_eqD hu
theorem fN {K:PySem.W.Frag} {n:Nat} {es:List Expr} {k:Nat} {t:TGs} (hc:X.calm=true) (h:PGs X es t) (hn:(assignEach es X.env).length=n:=by rfl) (hst:(assignEach es X.env).findIdx? (·.1)=none:=by rfl) (hK:X.K=K:=by rfl):PG X (.Tuple es k pos) (gTup K n t):=hK ▸ pg_tup hc h hn hst
end
section

end
def rNeDE:R2:=fun x y H Q=>∃a b,∃ks:List (Key×V),x= .ref a∧y= .ref b∧H a=some (.dK ks)∧H b=some (.dK [])∧Q (.bl (!ks.isEmpty)) H
section
variable {X:Cx}
theorem m_catA {K:PySem.W.Frag} (hK:X.K=K:=by rfl):OpR X (binaryOp .Add) (rCatA K):=hK ▸ op_catA
end
theorem t_catA {K:PySem.W.Frag} {H:Hp} {Q:VK} {a b:Addr} {xs ys:List V} (h1:SqT K H a xs) (h2:SqT K H b ys) (hx:xs≠ []) (hy:ys≠ []) (hl:xs.length+ys.length≤sizeLine) (q:∀p,H p=none→Q (.ref p) (upd H p (.tup (xs++ys)))):rCatA K (.ref a) (.ref b) H Q:=
 ⟨a,b,xs,ys,rfl,rfl,h1,h2,hl,fun e=>absurd e hx,fun _ e=>absurd e hy,fun _ _ p hp=>q p hp⟩
end M

namespace A
open PySem PySem.Spec PyProof.Rows L2 NumText
open TL (tl)
theorem fX (z:Str):z.length=(tl z).length:=TL.len_tl z
theorem nt (x y:Str):tl (x++y)=tl x++tl y:=TL.tl_append x y
theorem ug (x y:Str):(x++y).length=x.length+y.length:=by rw [fX,nt,List.length_append,fX,fX]
theorem xQ (z:Str) (lo hi:Option Int):tl (cutS z lo hi)=((tl z).drop (HT.sIx z.length 0 lo)).take (HT.sIx z.length z.length hi - HT.sIx z.length 0 lo):=rfl
theorem oS (n d:Nat) (i:Int) (h:0≤i):HT.sIx n d (some i)=min i.toNat n:=by
 show (if i<0 then _ else min i.toNat n)=_
 rw [if_neg (by omega)]
theorem tl_from (z:Str) (i:Int) (h:0≤i):tl (cutS z (some i) none)=(tl z).drop i.toNat:=by
 rw [xQ,oS _ _ _ h,HT.sIx_none,fX]
 by_cases c:i.toNat≤(tl z).length
 ·rw [Nat.min_eq_left c,List.take_of_length_le (by rw [List.length_drop]; omega)]
 ·rw [Nat.min_eq_right (by omega),List.drop_of_length_le (by omega),List.drop_of_length_le (by omega),List.take_nil]
theorem tl_to (z:Str) (i:Int) (h:0≤i):tl (cutS z none (some i))=(tl z).take i.toNat:=by
 rw [xQ,oS _ _ _ h,HT.sIx_none,fX]
 show ((tl z).drop 0).take (min i.toNat (tl z).length - 0)=_
 rw [List.drop_zero,Nat.sub_zero]
 by_cases c:i.toNat≤(tl z).length
 ·rw [Nat.min_eq_left c]
 ·rw [Nat.min_eq_right (by omega),List.take_of_length_le (by omega),List.take_of_length_le (by omega)]
theorem sub1 (x y:Str) (c:Nat) (hy:tl y= [c]):Txt.startswith x y=decide ((tl x).head? =some c):=by
 have hp:=TL.at_iff (x:=x) (y:=y) (by rw [hy]; simp) 0
 have e:Txt.startswith x y=true↔TL.pre (tl y) ((tl x).drop 0)=true:=by
  rw [←hp]
  unfold Txt.startswith
  simp only [Bool.and_eq_true,decide_eq_true_eq]
  exact Iff.rfl
 rw [hy,List.drop_zero] at e
 have e2:TL.pre [c] (tl x)=true↔(tl x).head? =some c:=by
  unfold TL.pre
  cases tl x with
  | nil=>simp
  | cons a r=>simp
 rw [Bool.eq_iff_iff,e,e2]
 simp
def isDig (c:Nat):Bool:=decide (48≤c)&&decide (c≤57)
def figs (l:List Nat):List Nat:=if l.head? =some 45 then l.drop 1 else l
def val (l:List Nat):Int:=(digitsVal l:Nat)
def good (l:List Nat):Bool:=decide (1≤(figs l).length)&&decide ((figs l).length≤61)&&(figs l).all isDig
def numRd (l:List Nat):Option Int:=
 if good l=true then
  if (figs l).head? =some 48∧l≠ [48] then none
  else some (if l.head? =some 45 then 0 - val (figs l) else val (figs l))
 else none
def numV:V→V
 | .str z=>(numRd (tl z)).elim .non .int
 | _=> .non
theorem rS:∀ls:List (List Nat),TL.joinL [] ls=ls.flatten
 | []=>rfl
 | [x]=>by
  show x= [x].flatten
  simp
 | x::y::r=>by
  show x++([]++TL.joinL [] (y::r))=_
  rw [rS (y::r),List.nil_append]
  simp only [List.flatten_cons]
theorem ot (ws:List Str):tl (Txt.join "" ws)=(ws.map tl).flatten:=by
 rw [TL.join_eq,TL.tl_join,show tl "" = [] by decide+kernel,rS]
theorem yR (ws:List Str):(Txt.join "" ws).length=(ws.map (·.length)).sum:=by
 rw [fX,ot,List.length_flatten,List.map_map]
 exact congrArg List.sum (List.map_congr_left fun x _=>(fX x).symm)
end A

namespace M
open PySem PySem.Spec PyProof.Rows L2
def kxO (cls:Value) (d:Option Addr) (a:Addr):HO:= .ext fun h=>∃(ob:Obj) (vs:Array Value),h.get? a=some ob∧Zc cls d ob∧ob.data= .fields vs
structure Away (X:Cx) (pins:List (Addr×Obj)) (a:Addr):Prop where
 old:X.s_0.heap.get? a=none
 loc:X.env.locals≠a
 cell:∀x c,X.env.cells.lookup x=some c→c≠a
 pin:∀p∈X.pn++pins,p.1≠a
section

end
def wK (K:PySem.W.Frag) (c:Value) (i:Nat) (ts:TS) (Wout:WX) (D:Ends):WX:=fun cls d σ H=>
 ∃b,PySem.W.exmOne K cls c=some b∧
  (b=true→∀a,H a=none→ts {rt:=D.rt,nx:=fun σ' =>D.nx (σ'.set i none),bk:=fun σ' =>D.bk (σ'.set i none),ct:=fun σ' =>D.ct (σ'.set i none)} (σ.set i (some (.ref a))) (upd H a (kxO cls d a)))∧
  (b=false→Wout cls d σ H)
structure Ground (X:Cx) (pins:List (Addr×Obj)) (B:Heap) (σ:L2.St) (H:Hp) (a:Addr) (cls:Value) (d:Option Addr) (s:Shared):Prop where
 inv:Inv X pins σ H s
 fly:HandSPX.FlyingZ B (X.env::X.outer) a (Zc cls d) s.heap
 no:H a=none
 way:Away X pins a
 stays:∀h2,HandSPX.FlyingZ B (X.env::X.outer) a (Zc cls d) h2→s.heap.UpToSlots h2→Inv X pins σ H {s with heap:=h2}
section
variable {X:Cx} {pins:List (Addr×Obj)} {σ:L2.St} {H:Hp} {s:Shared} {a:Addr} {cls:Value} {d:Option Addr}
theorem Ground.obj {B:Heap} (g:Ground X pins B σ H a cls d s):∃(ob:Obj) (vs:Array Value),s.heap.get? a=some ob∧Zc cls d ob∧ob.data= .fields vs:=by
 obtain ⟨ob,vs,e,z,h⟩:=g.fly.there
 exact ⟨ob,vs,e,z,h⟩
end
def XDict (H:Hp) (d:Option Addr):Prop:=d=none∨∃da fs,d=some da∧H da=some (.xd fs)
def rIsX (K:PySem.W.Frag):List V→Hp→VK→Prop:=fun xs H Q=>∃(a D:Addr) (d:Option Addr) (c:V) (cv:Value) (b:Bool),xs= [.ref a,c]∧H a=some (kxO (.ref D) d a)∧XDict H d∧L2.ExcC K D∧(∀u,RelV c u→u=cv)∧PySem.W.kitOne K (.ref D) cv=some b∧Q (.bl b) H
section
variable {σ:L2.St} {H:Hp} {a C:Addr}
def tXk (K:PySem.W.Frag) (f:Str) (te:TE):TE:=fun σ H Q=>te σ H fun x H1=>∃(a C da:Addr) (fs:List (Str×V)) (v:V),x= .ref a∧H1 a=some (kxO (.ref C) (some da) a)∧L2.XfC K C∧PySem.W.findIn K (.ref C) f=some none∧H1 da=some (.xd fs)∧fs.lookup f=some v∧Q v H1
end
def spXI (K:PySem.W.Frag) (f:Str):Sp:=fun vs H Q _=>∃(a C:Addr) (v:V),vs= [.ref a,v]∧H a=some (exo a C none)∧OexC K C∧PySem.W.findIn K (.ref C) f=some none∧∀dx,H dx=none→dx≠a→Q .non (upd (upd H dx (exd dx [(f,v)])) a (exo a C (some dx)))
section
variable {P:Program} {w:World} {K:PySem.W.Frag} {mg:Str→Option Value} {base:Heap}
structure XiZ (P:Program) (w:World) (K:PySem.W.Frag) (mg:Str→Option Value) (base:Heap) (k:Nat) (x:Str) (C:Addr) (f:Str):Prop where
 T:OexC K C
 no:PySem.W.findIn K (.ref C) f=some none
 gC:mg x=some (.ref C)
 ex:∃(fI:Addr) (fd:FuncData) (ps:List Str),PySem.W.findIn K (.ref C) "__init__" =some (some (.ref fI))∧PySem.W.typeIn K (.ref fI)=some (.type "function")∧FnOk P w K mg base (L2.CX P w) k fI fd ps (spXI K f)∧Binds K fd ps []
end
section
variable {f:Str} {C:Addr} {te:TE} {W:WX}
def tRaiseI (K:PySem.W.Frag) (C:Addr) (f:Str) (W:WX) (te:TE):TS:=fun _ σ H=>tMkO C (spXI K f) [] (tCons te tNil) σ H fun cls d H' =>W cls d σ H'
end
end M

namespace Z
open PySem PySem.Spec PyProof.Rows L2

inductive D where
 | non | bl (b:Bool) | int (i:Int) | str (s:Str)
 | lst (xs:List D) | con (xs:List D) | tup (xs:List D) | dct (kvs:List (Key×D)) | obj (c:Str) (fs:List (Str×D)) | exc (c:Str) (fs:List (Str×D)) | cell (i:Nat)
inductive Vl where
 | d (x:D) | own (x:D) | loc (k:Nat)
structure Sto where
 nx:Nat
 get:Nat→Option D
structure SD where
 sl:List (Option Vl)
 st:Sto
inductive R (α:Type) where
 | ok (a:α) (s:SD) | ex (c:Str) (fs:List (Str×D)) (s:SD) | bad
def R.bind {α β:Type} (m:R α) (k:α→SD→R β):R β:=match m with
 | .ok a s=>k a s
 | .ex c fs s=> .ex c fs s
 | .bad=> .bad
abbrev XQ:=Str→List (Str×D)→SD→Prop
def Wp {α:Type} (m:R α) (Q:α→SD→Prop) (E:XQ):Prop:=match m with
 | .ok a s=>Q a s
 | .ex c fs s=>E c fs s
 | .bad=>False
theorem ab {α β:Type} {m:R α} {k:α→SD→R β} {Q:β→SD→Prop} {E:XQ}:Wp (m.bind k) Q E=Wp m (fun a s=>Wp (k a s) Q E) E:=by
 cases m<;> rfl
theorem wY {α:Type} {a:α} {s:SD} {Q:α→SD→Prop} {E:XQ}:Wp (.ok a s) Q E=Q a s:=rfl
theorem An {α:Type} {Q:α→SD→Prop} {E:XQ}:Wp (.bad:R α) Q E=False:=rfl
theorem Wp.mono {α:Type} {m:R α} {Q Q' :α→SD→Prop} {E E' :XQ} (h:Wp m Q E) (hq:∀a s,Q a s→Q' a s) (he:∀c fs s,E c fs s→E' c fs s):Wp m Q' E' :=by
 cases m with
 | ok a s=>exact hq _ _ h
 | ex c fs s=>exact he _ _ _ h
 | bad=>exact h

structure Gc where
 K:PySem.W.Frag
 mg:Str→Option Value
structure Wr where
 γ:Nat→Addr
 n:Nat
 O:Addr→Prop
 H:Hp
def Kept (o:HO) (x:Option HO):Prop:=x=some o∨∃kvs od,o= .dK kvs∧x=some (.frz od o)
def RdF (p:Wr) (a:Addr) (u:HO):Prop:=¬p.O a∧Rd p.H a u
def KL (K:PySem.W.Frag) (a:Addr) (xs:List V):Prop:=∃(o:Obj) (its:Array Value) (n:Nat),K.lookup a=some o∧o.cls= .type "list" ∧o.dict=none∧o.data= .seq its n∧its.size≤sizeLine∧Vals xs its.toList
mutual
def Rep (G:Gc) (p:Wr):D→V→Prop
 | .non,v=>v= .non
 | .bl b,v=>v= .bl b
 | .int i,v=>v= .int i
 | .str s,v=>v= .str s
 | .lst ds,v=>∃a vs,v= .ref a∧(¬p.O a∧p.H a=some (.lst vs))∧Reps G p ds vs
 | .con ds,v=>∃a vs,v= .ref a∧(RdF p a (.lst vs)∨KL G.K a vs)∧Reps G p ds vs
 | .tup ds,v=>∃a vs,v= .ref a∧(¬p.O a∧p.H a=some (.tup vs))∧Reps G p ds vs
 | .dct ds,v=>∃a vs,v= .ref a∧RdF p a (.dK vs)∧RepK G p ds vs
 | .obj c ds,v=>∃a C dx vs,v= .ref a∧¬p.O a∧G.mg c=some (.ref C)∧p.H a=some (.ins C dx vs)∧RepF G p ds vs
 | .exc c ds,v=>∃a C d,v= .ref a∧¬p.O a∧G.mg c=some (.ref C)∧p.H a=some (M.kxO (.ref C) d a)∧((ds= []∧d=none)∨∃da fvs,d=some da∧p.H da=some (.xd fvs)∧¬p.O da∧RepF G p ds fvs)
 | .cell i,v=>i<p.n∧v= .ref (p.γ i)
def Reps (G:Gc) (p:Wr):List D→List V→Prop
 | [],vs=>vs= []
 | d::ds,vs=>∃v r,vs=v::r∧Rep G p d v∧Reps G p ds r
def RepK (G:Gc) (p:Wr):List (Key×D)→List (Key×V)→Prop
 | [],vs=>vs= []
 | (k,d)::ds,vs=>∃v r,vs=(k,v)::r∧Rep G p d v∧RepK G p ds r
def RepF (G:Gc) (p:Wr):List (Str×D)→List (Str×V)→Prop
 | [],vs=>vs= []
 | (k,d)::ds,vs=>∃v r,vs=(k,v)::r∧Rep G p d v∧RepF G p ds r
end
structure Wr.le (p q:Wr):Prop where
 γ:∀i,i<p.n→q.γ i=p.γ i
 n:p.n≤q.n
 H:∀b o,¬p.O b→p.H b=some o→Kept o (q.H b)∧¬q.O b
theorem Wr.le.refl (p:Wr):p.le p:=⟨fun _ _=>rfl,Nat.le_refl _,fun _ _ h e=>⟨.inl e,h⟩⟩
theorem Kept.trans {o:HO} {y:Option HO} {x:HO} (a:Kept o (some x)) (b:Kept x y):Kept o y:=by
 rcases a with a | ⟨kvs,od,rfl,a⟩
 ·cases a; exact b
 ·cases a
  rcases b with b | ⟨_,_,b,_⟩
  ·exact .inr ⟨kvs,od,rfl,b⟩
  ·cases b
theorem Wr.le.trans {p q r:Wr} (a:p.le q) (b:q.le r):p.le r:=⟨fun i h=>(b.γ i (Nat.lt_of_lt_of_le h a.n)).trans (a.γ i h),Nat.le_trans a.n b.n,fun c o h e=>by
 obtain ⟨k,h1⟩:=a.H c o h e
 have:∃x,q.H c=some x:=by rcases k with k | ⟨_,_,_,k⟩<;> exact ⟨_,k⟩
 obtain ⟨x,ex⟩:=this
 obtain ⟨k2,h2⟩:=b.H c x h1 ex
 rw [ex] at k
 exact ⟨k.trans k2,h2⟩⟩
theorem Wr.le.x {p q:Wr} (l:p.le q) {a:Addr} {o:HO} (n:¬p.O a) (h:p.H a=some o) (hd:∀kvs,o≠ .dK kvs):¬q.O a∧q.H a=some o:=by
 obtain ⟨k,n'⟩:=l.H _ _ n h
 rcases k with k | ⟨kvs,_,k,_⟩
 ·exact ⟨n',k⟩
 ·exact (hd kvs k).elim
theorem Wr.le.rd {p q:Wr} (l:p.le q) {a:Addr} {u:HO} (h:RdF p a u):RdF q a u:=by
 obtain ⟨n,h | ⟨o,h⟩⟩:=h
 ·obtain ⟨k,n'⟩:=l.H _ _ n h
  rcases k with k | ⟨_,od,_,k⟩
  ·exact ⟨n', .inl k⟩
  ·exact ⟨n', .inr ⟨od,k⟩⟩
 ·obtain ⟨n',k⟩:=l.x n h (fun _ z=>nomatch z)
  exact ⟨n', .inr ⟨o,k⟩⟩
structure Wr.tr (p q:Wr):Prop where
 γ:∀i,i<p.n→q.γ i=p.γ i
 n:p.n≤q.n
 L:∀b vs,¬p.O b→p.H b=some (.lst vs)→¬q.O b∧q.H b=some (.lst vs)
 T:∀b vs,¬p.O b→p.H b=some (.tup vs)→¬q.O b∧q.H b=some (.tup vs)
 I:∀b C dx vs,¬p.O b→p.H b=some (.ins C dx vs)→¬q.O b∧q.H b=some (.ins C dx vs)
 X:∀b c d,¬p.O b→p.H b=some (M.kxO c d b)→¬q.O b∧q.H b=some (M.kxO c d b)
 Y:∀b vs,¬p.O b→p.H b=some (.xd vs)→¬q.O b∧q.H b=some (.xd vs)
 C:∀b vs,RdF p b (.lst vs)→RdF q b (.lst vs)
 K:∀b vs,RdF p b (.dK vs)→RdF q b (.dK vs)
theorem kx_dK {c:Value} {d:Option Addr} {a:Addr} {kvs:List (Key×V)} (z:M.kxO c d a= .dK kvs):False:=by
 unfold M.kxO at z
 cases z
theorem Wr.le.tr {p q:Wr} (l:p.le q):p.tr q:=⟨l.γ,l.n,fun b _ n h=>l.x n h (fun _ z=>nomatch z),fun b _ n h=>l.x n h (fun _ z=>nomatch z),fun b _ _ _ n h=>l.x n h (fun _ z=>nomatch z),fun b _ _ n h=>l.x n h (fun _ z=>kx_dK z),fun b _ n h=>l.x n h (fun _ z=>nomatch z),fun _ _ h=>l.rd h,fun _ _ h=>l.rd h⟩
mutual
theorem Rep.go {G:Gc} {p q:Wr} (l:p.tr q):∀{d:D} {v:V},Rep G p d v→Rep G q d v
 | .non,_,h=>h
 | .bl _,_,h=>h
 | .int _,_,h=>h
 | .str _,_,h=>h
 | .lst _,_,h=>let ⟨a,vs,e,r,t⟩:=h; ⟨a,vs,e,l.L _ _ r.1 r.2,Reps.go l t⟩
 | .con _,_,h=>let ⟨a,vs,e,r,t⟩:=h; ⟨a,vs,e,r.imp (l.C _ _) id,Reps.go l t⟩
 | .tup _,_,h=>let ⟨a,vs,e,r,t⟩:=h; ⟨a,vs,e,l.T _ _ r.1 r.2,Reps.go l t⟩
 | .dct _,_,h=>let ⟨a,vs,e,r,t⟩:=h; ⟨a,vs,e,l.K _ _ r,RepK.go l t⟩
 | .obj _ _,_,h=>let ⟨a,C,dx,vs,e,n,m,r,t⟩:=h; ⟨a,C,dx,vs,e,(l.I _ _ _ _ n r).1,m,(l.I _ _ _ _ n r).2,RepF.go l t⟩
 | .exc _ _,_,h=>let ⟨a,C,d,e,n,m,r,t⟩:=h; ⟨a,C,d,e,(l.X _ _ _ n r).1,m,(l.X _ _ _ n r).2,t.imp id fun ⟨da,fvs,e1,e2,e3,e4⟩=>⟨da,fvs,e1,(l.Y _ _ e3 e2).2,(l.Y _ _ e3 e2).1,RepF.go l e4⟩⟩
 | .cell i,_,h=>⟨Nat.lt_of_lt_of_le h.1 l.n,by rw [l.γ i h.1]; exact h.2⟩
theorem Reps.go {G:Gc} {p q:Wr} (l:p.tr q):∀{d:List D} {v:List V},Reps G p d v→Reps G q d v
 | [],_,h=>h
 | _::_,_,h=>let ⟨v,r,e,h1,h2⟩:=h; ⟨v,r,e,Rep.go l h1,Reps.go l h2⟩
theorem RepK.go {G:Gc} {p q:Wr} (l:p.tr q):∀{d:List (Key×D)} {v:List (Key×V)},RepK G p d v→RepK G q d v
 | [],_,h=>h
 | (_,_)::_,_,h=>let ⟨v,r,e,h1,h2⟩:=h; ⟨v,r,e,Rep.go l h1,RepK.go l h2⟩
theorem RepF.go {G:Gc} {p q:Wr} (l:p.tr q):∀{d:List (Str×D)} {v:List (Str×V)},RepF G p d v→RepF G q d v
 | [],_,h=>h
 | (_,_)::_,_,h=>let ⟨v,r,e,h1,h2⟩:=h; ⟨v,r,e,Rep.go l h1,RepF.go l h2⟩
end
theorem Rep.mono {G:Gc} {p q:Wr} (l:p.le q) {d:D} {v:V} (h:Rep G p d v):Rep G q d v:=h.go l.tr
theorem Reps.mono {G:Gc} {p q:Wr} (l:p.le q) {d:List D} {v:List V} (h:Reps G p d v):Reps G q d v:=h.go l.tr
theorem RepK.mono {G:Gc} {p q:Wr} (l:p.le q) {d:List (Key×D)} {v:List (Key×V)} (h:RepK G p d v):RepK G q d v:=h.go l.tr
theorem RepF.mono {G:Gc} {p q:Wr} (l:p.le q) {d:List (Str×D)} {v:List (Str×V)} (h:RepF G p d v):RepF G q d v:=h.go l.tr
section
variable {G:Gc} {p:Wr}
theorem Reps.len:∀{ds:List D} {vs:List V},Reps G p ds vs→vs.length=ds.length
 | [],_,h=>by rw [show _= [] from h]; rfl
 | _::_,_,h=>by obtain ⟨v,r,rfl,_,h2⟩:=h; simp [Reps.len h2]
theorem Reps.get:∀{ds:List D} {vs:List V} {i:Nat} {d:D},Reps G p ds vs→ds[i]? =some d→∃v,vs[i]? =some v∧Rep G p d v
 | [],_,_,_,_,e=>by simp at e
 | _::_,_,0,_,h,e=>by
  obtain ⟨v,r,rfl,h1,_⟩:=h
  simp only [List.getElem?_cons_zero,Option.some.injEq] at e
  subst e
  exact ⟨v,rfl,h1⟩
 | _::_,_,i+1,_,h,e=>by
  obtain ⟨v,r,rfl,_,h2⟩:=h
  obtain ⟨u,e2,h3⟩:=Reps.get (i:=i) h2 (by simpa using e)
  exact ⟨u,by simpa using e2,h3⟩
theorem Reps.of:∀{ds:List D} {vs:List V},vs.length=ds.length→(∀(i:Nat) (d:D) (v:V),ds[i]? =some d→vs[i]? =some v→Rep G p d v)→Reps G p ds vs
 | [],vs,l,_=>List.eq_nil_of_length_eq_zero l
 | d::ds,[],l,_=>by simp at l
 | d::ds,v::vs,l,h=>⟨v,vs,rfl,h 0 d v rfl rfl,Reps.of (by simpa using l) fun i d v e1 e2=>h (i+1) d v (by simpa using e1) (by simpa using e2)⟩
theorem Reps.at {ds:List D} {vs:List V} (h:Reps G p ds vs) {i:Nat} {d:D} {v:V} (e1:ds[i]? =some d) (e2:vs[i]? =some v):Rep G p d v:=by
 obtain ⟨u,e3,r⟩:=h.get e1
 rw [e2] at e3; cases e3; exact r
theorem Reps.none {ds:List D} {vs:List V} {i:Nat} (h:Reps G p ds vs) (e:ds[i]? =none):vs[i]? =none:=by
 rw [List.getElem?_eq_none_iff] at e ⊢
 rw [h.len]; exact e
theorem Reps.append {ds es:List D} {vs us:List V} (h:Reps G p ds vs) (g:Reps G p es us):Reps G p (ds++es) (vs++us):=by
 refine .of (by simp [h.len,g.len]) fun i d v e1 e2=>?_
 by_cases c:i<ds.length
 ·rw [List.getElem?_append_left c] at e1
  rw [List.getElem?_append_left (by rw [h.len]; exact c)] at e2
  exact h.at e1 e2
 ·rw [List.getElem?_append_right (by omega)] at e1
  rw [List.getElem?_append_right (by rw [h.len]; omega),h.len] at e2
  exact g.at e1 e2
theorem Reps.one {d:D} {v:V} (h:Rep G p d v):Reps G p [d] [v]:=⟨v,[],rfl,h,rfl⟩
theorem Reps.set {ds:List D} {vs:List V} (h:Reps G p ds vs) {d:D} {v:V} (g:Rep G p d v) (i:Nat):Reps G p (ds.set i d) (vs.set i v):=by
 refine .of (by simp [h.len]) fun j e u e1 e2=>?_
 by_cases c:i=j
 ·subst c
  have hl:i<ds.length:=by
   have:=List.getElem?_eq_some_iff.mp e1
   obtain ⟨a,_⟩:=this
   simpa using a
  rw [List.getElem?_set_self hl] at e1
  rw [List.getElem?_set_self (by rw [h.len]; exact hl)] at e2
  cases e1; cases e2; exact g
 ·rw [List.getElem?_set_ne c] at e1 e2
  exact h.at e1 e2
theorem Reps.take {ds:List D} {vs:List V} (h:Reps G p ds vs) (n:Nat):Reps G p (ds.take n) (vs.take n):=by
 refine .of (by simp [h.len]) fun i d v e1 e2=>?_
 rw [List.getElem?_take] at e1 e2
 split at e1
 ·rename_i c; rw [if_pos c] at e2; exact h.at e1 e2
 ·cases e1
theorem Reps.drop {ds:List D} {vs:List V} (h:Reps G p ds vs) (n:Nat):Reps G p (ds.drop n) (vs.drop n):=by
 refine .of (by simp [h.len]) fun i d v e1 e2=>?_
 rw [List.getElem?_drop] at e1 e2
 exact h.at e1 e2
theorem Reps.reverse {ds:List D} {vs:List V} (h:Reps G p ds vs):Reps G p ds.reverse vs.reverse:=by
 refine .of (by simp [h.len]) fun i d v e1 e2=>?_
 have c:i<ds.length:=by
  obtain ⟨a,_⟩:=List.getElem?_eq_some_iff.mp e1
  simpa using a
 rw [List.getElem?_reverse c] at e1
 rw [List.getElem?_reverse (by rw [h.len]; exact c),h.len] at e2
 exact h.at e1 e2
theorem RepK.keys:∀{ds:List (Key×D)} {vs:List (Key×V)},RepK G p ds vs→vs.map (·.1)=ds.map (·.1)
 | [],_,h=>by rw [show _= [] from h]; rfl
 | (k,_)::_,_,h=>by obtain ⟨v,r,rfl,_,h2⟩:=h; simp [RepK.keys h2]
theorem RepK.vals:∀{ds:List (Key×D)} {vs:List (Key×V)},RepK G p ds vs→Reps G p (ds.map (·.2)) (vs.map (·.2))
 | [],_,h=>by rw [show _= [] from h]; exact rfl
 | (k,_)::_,_,h=>by obtain ⟨v,r,rfl,h1,h2⟩:=h; exact ⟨v,r.map (·.2),rfl,h1,RepK.vals h2⟩
theorem RepK.of:∀{ds:List (Key×D)} {vs:List (Key×V)},vs.map (·.1)=ds.map (·.1)→Reps G p (ds.map (·.2)) (vs.map (·.2))→RepK G p ds vs
 | [],vs,e,_=>by cases vs with
  | nil=>rfl
  | cons a r=>simp at e
 | (k,d)::ds,[],e,_=>by simp at e
 | (k,d)::ds,(k',v)::vs,e,h=>by
  simp only [List.map_cons,List.cons.injEq] at e
  obtain ⟨rfl,e⟩:=e
  obtain ⟨u,r,e2,h1,h2⟩:=h
  simp only [List.map_cons,List.cons.injEq] at e2
  obtain ⟨rfl,rfl⟩:=e2
  exact ⟨v,vs,rfl,h1,RepK.of e h2⟩
theorem RepK.len {ds:List (Key×D)} {vs:List (Key×V)} (h:RepK G p ds vs):vs.length=ds.length:=by
 have:=congrArg List.length h.keys
 simpa using this
end
def eN (kvs:List (Key×D)) (k:Key):Option D:=(kvs.find? fun kv=>decide (kv.1=k)).map (·.2)
def kL (kvs:List (Key×D)) (k:Key) (v:D):List (Key×D):=
 if (kvs.any fun kv=>decide (kv.1=k))=true then kvs.map (fun kv=>if kv.1=k then (kv.1,v) else kv) else kvs++ [(k,v)]
def wN (kvs:List (Key×D)) (k:Key):List (Key×D):=kvs.filter fun kv=>decide (kv.1≠k)
def fO (fs:List (Str×D)) (f:Str):Option D:=(fs.find? fun kv=>decide (kv.1=f)).map (·.2)
def jz (f:Str) (v:D):List (Str×D)→List (Str×D)
 | []=> [(f,v)]
 | (g,x)::r=>if g=f then (g,v)::r else (g,x)::jz f v r
section
variable {G:Gc} {p:Wr}
theorem RepK.val {k:Key}:∀{ds:List (Key×D)} {vs:List (Key×V)},RepK G p ds vs→(∀d,eN ds k=some d→∃v,valV vs k=some v∧Rep G p d v)∧(eN ds k=none→valV vs k=none)
 | [],_,h=>by
  rw [show _= [] from h]
  exact ⟨fun d e=>(nomatch e),fun _=>rfl⟩
 | (k',d')::ds,_,h=>by
  obtain ⟨v,r,rfl,h1,h2⟩:=h
  by_cases c:k' =k
  ·have e:eN ((k',d')::ds) k=some d' :=by unfold eN; rw [List.find?_cons_of_pos (by simp [c])]; rfl
   rw [e]
   refine ⟨fun d q=>?_,fun q=>(nomatch q)⟩
   cases q
   exact ⟨v,valV_pos c,h1⟩
  ·have e:eN ((k',d')::ds) k=eN ds k:=by unfold eN; rw [List.find?_cons_of_neg (by simp [c])]
   rw [e,valV_neg c]
   exact RepK.val h2
theorem RepK.any {k:Key}:∀{ds:List (Key×D)} {vs:List (Key×V)},RepK G p ds vs→(vs.any fun kv=>decide (kv.1=k))=ds.any fun kv=>decide (kv.1=k)
 | [],_,h=>by rw [show _= [] from h]; rfl
 | (k',d')::ds,_,h=>by
  obtain ⟨v,r,rfl,h1,h2⟩:=h
  rw [List.any_cons,List.any_cons,RepK.any h2]
theorem RepK.map {k:Key} {d:D} {v:V} (g:Rep G p d v):∀{ds:List (Key×D)} {vs:List (Key×V)},RepK G p ds vs→RepK G p (ds.map fun kv=>if kv.1=k then (kv.1,d) else kv) (vs.map fun kv=>if kv.1=k then (kv.1,v) else kv)
 | [],_,h=>by rw [show _= [] from h]; exact rfl
 | (k',d')::ds,_,h=>by
  obtain ⟨u,r,rfl,h1,h2⟩:=h
  have ih:=RepK.map (k:=k) g h2
  rw [List.map_cons,List.map_cons]
  by_cases c:k' =k
  ·rw [if_pos c,if_pos c]; exact ⟨v,_,rfl,g,ih⟩
  ·rw [if_neg c,if_neg c]; exact ⟨u,_,rfl,h1,ih⟩
theorem RepK.snoc {k:Key} {d:D} {v:V} (g:Rep G p d v):∀{ds:List (Key×D)} {vs:List (Key×V)},RepK G p ds vs→RepK G p (ds++ [(k,d)]) (vs++ [(k,v)])
 | [],_,h=>by rw [show _= [] from h]; exact ⟨v,[],rfl,g,rfl⟩
 | (k',d')::ds,_,h=>by
  obtain ⟨u,r,rfl,h1,h2⟩:=h
  exact ⟨u,_,rfl,h1,RepK.snoc g h2⟩
theorem RepK.put {k:Key} {d:D} {v:V} {ds:List (Key×D)} {vs:List (Key×V)} (h:RepK G p ds vs) (g:Rep G p d v):RepK G p (kL ds k d) (putK vs k v):=by
 unfold kL putK
 rw [h.any]
 split
 ·exact RepK.map g h
 ·exact RepK.snoc g h
theorem RepK.drop {k:Key}:∀{ds:List (Key×D)} {vs:List (Key×V)},RepK G p ds vs→RepK G p (wN ds k) (dropK vs k)
 | [],_,h=>by rw [show _= [] from h]; exact rfl
 | (k',d')::ds,_,h=>by
  obtain ⟨u,r,rfl,h1,h2⟩:=h
  have ih:=RepK.drop (k:=k) h2
  unfold wN dropK at ih ⊢
  by_cases c:k' =k
  ·rw [List.filter_cons_of_neg (by simp [c]),List.filter_cons_of_neg (by simp [c])]; exact ih
  ·rw [List.filter_cons_of_pos (by simp [c]),List.filter_cons_of_pos (by simp [c])]; exact ⟨u,_,rfl,h1,ih⟩
theorem RepF.val {k:Str}:∀{ds:List (Str×D)} {vs:List (Str×V)},RepF G p ds vs→(∀d,fO ds k=some d→∃v,vs.lookup k=some v∧Rep G p d v)∧(fO ds k=none→vs.lookup k=none)
 | [],_,h=>by
  rw [show _= [] from h]
  exact ⟨fun d e=>(nomatch e),fun _=>rfl⟩
 | (k',d')::ds,_,h=>by
  obtain ⟨v,r,rfl,h1,h2⟩:=h
  by_cases c:k' =k
  ·have e:fO ((k',d')::ds) k=some d' :=by unfold fO; rw [List.find?_cons_of_pos (by simp [c])]; rfl
   rw [e]
   refine ⟨fun d q=>?_,fun q=>(nomatch q)⟩
   cases q
   exact ⟨v,by simp [List.lookup,c],h1⟩
  ·have e:fO ((k',d')::ds) k=fO ds k:=by unfold fO; rw [List.find?_cons_of_neg (by simp [c])]
   have e2:List.lookup k ((k',v)::r)=List.lookup k r:=by
    have:(k == k')=false:=by simpa using fun q=>c q.symm
    simp [List.lookup,this]
   rw [e,e2]
   exact RepF.val h2
theorem RepF.put {f:Str} {d:D} {v:V} (g:Rep G p d v):∀{ds:List (Str×D)} {vs:List (Str×V)},RepF G p ds vs→RepF G p (jz f d ds) (putF f v vs)
 | [],_,h=>by rw [show _= [] from h]; exact ⟨v,[],rfl,g,rfl⟩
 | (k',d')::ds,_,h=>by
  obtain ⟨u,r,rfl,h1,h2⟩:=h
  unfold jz putF
  by_cases c:k' =f
  ·rw [if_pos c,if_pos c]; exact ⟨v,r,rfl,g,h2⟩
  ·rw [if_neg c,if_neg c]; exact ⟨u,_,rfl,h1,RepF.put g h2⟩
theorem RepF.len:∀{ds:List (Str×D)} {vs:List (Str×V)},RepF G p ds vs→vs.length=ds.length
 | [],_,h=>by rw [show _= [] from h]; rfl
 | (k',d')::ds,_,h=>by obtain ⟨u,r,rfl,h1,h2⟩:=h; simp [RepF.len h2]
end
def Ho (G:Gc) (p:Wr):D→Addr→Prop
 | .lst ds,a=>∃vs,p.H a=some (.lst vs)∧Reps G p ds vs
 | .dct ds,a=>∃vs,p.H a=some (.dK vs)∧RepK G p ds vs
 | .obj c ds,a=>∃C dx vs,G.mg c=some (.ref C)∧p.H a=some (.ins C dx vs)∧RepF G p ds vs
 | _,_=>False
def Hc (G:Gc) (p:Wr):D→Addr→Prop
 | .lst ds,a=>∃vs,p.H a=some (.lst vs)∧Reps G p ds vs
 | .con ds,a=>∃vs,SqL G.K p.H a vs∧Reps G p ds vs
 | .tup ds,a=>∃vs,p.H a=some (.tup vs)∧Reps G p ds vs
 | .dct ds,a=>∃vs,Rd p.H a (.dK vs)∧RepK G p ds vs
 | .obj c ds,a=>∃C dx vs,G.mg c=some (.ref C)∧p.H a=some (.ins C dx vs)∧RepF G p ds vs
 | _,_=>False
section
variable {G:Gc} {p q:Wr} {a:Addr}
theorem Ho.c:∀{x:D},Ho G p x a→Hc G p x a
 | .lst _,h=>h
 | .dct _,h=>let ⟨vs,e,r⟩:=h; ⟨vs, .inl e,r⟩
 | .obj _ _,h=>h
 | .non,h=>h | .bl _,h=>h | .int _,h=>h | .str _,h=>h | .con _,h=>h.elim | .tup _,h=>h.elim | .exc _ _,h=>h.elim | .cell _,h=>h
theorem Ho.rep (n:¬p.O a):∀{x:D},Ho G p x a→Rep G p x (.ref a)
 | .lst _,h=>let ⟨vs,e,r⟩:=h; ⟨a,vs,rfl,⟨n,e⟩,r⟩
 | .dct _,h=>let ⟨vs,e,r⟩:=h; ⟨a,vs,rfl,⟨n, .inl e⟩,r⟩
 | .obj _ _,h=>let ⟨C,dx,vs,m,e,r⟩:=h; ⟨a,C,dx,vs,rfl,n,m,e,r⟩
 | .non,h=>h.elim | .bl _,h=>h.elim | .int _,h=>h.elim | .str _,h=>h.elim | .con _,h=>h.elim | .tup _,h=>h.elim | .exc _ _,h=>h.elim | .cell _,h=>h.elim
theorem Ho.mono (l:p.le q) (e:q.H a=p.H a):∀{x:D},Ho G p x a→Ho G q x a
 | .lst _,h=>let ⟨vs,e1,r⟩:=h; ⟨vs,e.trans e1,r.mono l⟩
 | .dct _,h=>let ⟨vs,e1,r⟩:=h; ⟨vs,e.trans e1,r.mono l⟩
 | .obj _ _,h=>let ⟨C,dx,vs,m,e1,r⟩:=h; ⟨C,dx,vs,m,e.trans e1,r.mono l⟩
 | .non,h=>h.elim | .bl _,h=>h.elim | .int _,h=>h.elim | .str _,h=>h.elim | .con _,h=>h.elim | .tup _,h=>h.elim | .exc _ _,h=>h.elim | .cell _,h=>h.elim
theorem Ho.some:∀{x:D},Ho G p x a→∃o,p.H a=some o
 | .lst _,h=>let ⟨vs,e1,r⟩:=h; ⟨_,e1⟩
 | .dct _,h=>let ⟨vs,e1,r⟩:=h; ⟨_,e1⟩
 | .obj _ _,h=>let ⟨C,dx,vs,m,e1,r⟩:=h; ⟨_,e1⟩
 | .non,h=>h.elim | .bl _,h=>h.elim | .int _,h=>h.elim | .str _,h=>h.elim | .con _,h=>h.elim | .tup _,h=>h.elim | .exc _ _,h=>h.elim | .cell _,h=>h.elim
def D.box:D→Bool
 | .lst _ | .con _ | .tup _ | .dct _ | .obj _ _=>true
 | _=>false
theorem Rep.c {v:V}:∀{x:D},x.box=true→Rep G p x v→∃a,v= .ref a∧Hc G p x a
 | .lst _,_,h=>let ⟨a,vs,e,r,t⟩:=h; ⟨a,e,vs,r.2,t⟩
 | .con _,_,h=>let ⟨a,vs,e,r,t⟩:=h; ⟨a,e,vs,r.imp (fun r=>r.2) id,t⟩
 | .tup _,_,h=>let ⟨a,vs,e,r,t⟩:=h; ⟨a,e,vs,r.2,t⟩
 | .dct _,_,h=>let ⟨a,vs,e,r,t⟩:=h; ⟨a,e,vs,r.2,t⟩
 | .obj _ _,_,h=>let ⟨a,C,dx,vs,e,_,m,r,t⟩:=h; ⟨a,e,C,dx,vs,m,r,t⟩
 | .non,b,_=>nomatch b
 | .bl _,b,_=>nomatch b
 | .int _,b,_=>nomatch b
 | .str _,b,_=>nomatch b
 | .exc _ _,b,_=>nomatch b
 | .cell _,b,_=>nomatch b
end
structure En where
 F:Addr→Prop
 W:Wr
 S:Sto
def Rv (G:Gc) (p:Wr) (m:Nat) (w:List (Option V)) (k:Nat):Vl→V→Prop
 | .d x,v=>Rep G p x v
 | .own x,v=>∃a,v= .ref a∧Ho G p x a
 | .loc j,v=>m≤k∧j<m∧w[j]? =some (some v)
structure Sm (G:Gc) (E:En) (m:Nat) (p:Wr) (w:List (Option V)) (ŵ:List (Option Vl)) (S:Sto):Prop where
 len:w.length=ŵ.length
 pn:p.n=S.nx
 nx:E.S.nx≤S.nx
 ebd:∀(i:Nat) (d:D),E.S.get i=some d→i<E.S.nx
 old:∀i,i<E.S.nx→p.γ i=E.W.γ i
 bd:∀(i:Nat) (d:D),S.get i=some d→i<S.nx
 cel:∀(i:Nat) (d:D),S.get i=some d→p.O (p.γ i)∧Ho G p d (p.γ i)
 inj:∀(i j:Nat) (d e:D),S.get i=some d→S.get j=some e→p.γ i=p.γ j→i=j
 born:∀(i:Nat) (d:D),S.get i=some d→(∃d0,E.S.get i=some d0)∨E.W.H (p.γ i)=none
 frm:∀a,E.F a→p.O a∧∀i d,S.get i=some d→p.γ i≠a
 kp:∀b o,E.W.H b=some o→(∀i d,E.S.get i=some d→b≠E.W.γ i)→(E.F b→p.H b=some o)∧Kept o (p.H b)
 sub:∀b o,E.W.H b=some o→∃o',p.H b=some o'
 grw:∀b o,E.W.H b=some o→¬E.W.O b→¬p.O b
 dom:∀a,p.O a→∃o,p.H a=some o
 ent:∀(k:Nat) (e:Vl),ŵ[k]? =some (some e)→∃v,w[k]? =some (some v)∧Rv G p m w k e v
 own:∀(k:Nat) (x:D) (a:Addr),ŵ[k]? =some (some (.own x))→w[k]? =some (some (.ref a))→p.O a∧E.W.H a=none∧¬E.F a∧∀i d,S.get i=some d→p.γ i≠a
 sep:∀(j k:Nat) (x y:D) (a:Addr),ŵ[j]? =some (some (.own x))→ŵ[k]? =some (some (.own y))→w[j]? =some (some (.ref a))→w[k]? =some (some (.ref a))→j=k
section
variable {G:Gc} {E:En} {m:Nat} {p:Wr} {w:List (Option V)} {ŵ:List (Option Vl)} {S:Sto} {x:D} {v:V} {a:Addr} {o:HO} {k:Nat}
theorem aE {α:Type} {l:List α} {x y:α} {k:Nat} (h:(l++ [x])[k]? =some y):l[k]? =some y∨(k=l.length∧x=y):=by
 by_cases c:k<l.length
 ·rw [List.getElem?_append_left c] at h; exact .inl h
 ·by_cases c2:k=l.length
  ·subst c2
   simp only [List.getElem?_append_right (Nat.le_refl _),Nat.sub_self,List.getElem?_cons_zero,Option.some.injEq] at h
   exact .inr ⟨rfl,h⟩
  ·rw [List.getElem?_eq_none (by simp; omega)] at h; cases h
theorem aU {α:Type} {l:List α} {x y:α} {k:Nat} (h:l[k]? =some y):(l++ [x])[k]? =some y:=by
 obtain ⟨a,_⟩:=List.getElem?_eq_some_iff.mp h
 rw [List.getElem?_append_left a]; exact h
theorem af {α:Type} {l:List α} {x:α}:(l++ [x])[l.length]? =some x:=by simp
theorem ae {α:Type} {l:List α} {y:α} {k:Nat} (h:l[k]? =some y):k<l.length:=(List.getElem?_eq_some_iff.mp h).1
theorem Rv.mono {q:Wr} {e:Vl} (l:p.le q) (hh:∀x a,(∃v,v=V.ref a)→Ho G p x a→e=Vl.own x→q.H a=p.H a) {w' :List (Option V)} (hw:∀j v,j<m→w[j]? =some (some v)→w'[j]? =some (some v)):Rv G p m w k e v→Rv G q m w' k e v:=by
 cases e with
 | d x=>exact fun h=>Rep.mono l h
 | own x=>exact fun ⟨a,e,h⟩=>⟨a,e,Ho.mono l (hh x a ⟨_,rfl⟩ h rfl) h⟩
 | loc j=>exact fun ⟨h1,h2,h3⟩=>⟨h1,h2,hw _ _ h2 h3⟩
theorem Sm.push (h:Sm G E m p w ŵ S) (r:Rep G p x v):Sm G E m p (w++ [some v]) (ŵ++ [some (.d x)]) S:=by
 refine {h with len:=by simp [h.len],ent:=fun k e q=>?_,own:=fun k y a q1 q2=>?_,sep:=fun j k y z a q1 q2 q3 q4=>?_}
 ·rcases aE q with q | ⟨rfl,qq⟩
  ·obtain ⟨u,e1,r1⟩:=h.ent k e q
   exact ⟨u,aU e1,r1.mono (.refl p) (fun _ _ _ _ _=>rfl) fun j v _ e=>aU e⟩
  ·obtain rfl:=Option.some.inj qq
   exact ⟨v,by rw [←h.len]; exact af,r⟩
 ·rcases aE q1 with q | ⟨rfl,qq⟩
  ·have:k<w.length:=by rw [h.len]; exact ae q
   rw [List.getElem?_append_left this] at q2
   exact h.own k y a q q2
  ·cases qq
 ·rcases aE q1 with q1 | ⟨rfl,qq⟩
  ·rcases aE q2 with q2 | ⟨rfl,qq⟩
   ·rw [List.getElem?_append_left (by rw [h.len]; exact ae q1)] at q3
    rw [List.getElem?_append_left (by rw [h.len]; exact ae q2)] at q4
    exact h.sep j k y z a q1 q2 q3 q4
   ·cases qq
  ·cases qq
theorem Sm.pushLoc {j:Nat} {e:Vl} (h:Sm G E m p w ŵ S) (hm:m≤w.length) (hj:j<m) (q:ŵ[j]? =some (some e)) (hv:w[j]? =some (some v)):Sm G E m p (w++ [some v]) (ŵ++ [some (.loc j)]) S:=by
 refine {h with len:=by simp [h.len],ent:=fun k e q=>?_,own:=fun k y a q1 q2=>?_,sep:=fun j k y z a q1 q2 q3 q4=>?_}
 ·rcases aE q with q | ⟨rfl,qq⟩
  ·obtain ⟨u,e1,r1⟩:=h.ent k e q
   exact ⟨u,aU e1,r1.mono (.refl p) (fun _ _ _ _ _=>rfl) fun j v _ e=>aU e⟩
  ·obtain rfl:=Option.some.inj qq
   exact ⟨v,by rw [←h.len]; exact af,by rw [←h.len]; exact hm,hj,aU hv⟩
 ·rcases aE q1 with q | ⟨rfl,qq⟩
  ·have:k<w.length:=by rw [h.len]; exact ae q
   rw [List.getElem?_append_left this] at q2
   exact h.own k y a q q2
  ·cases qq
 ·rcases aE q1 with q1 | ⟨rfl,qq⟩
  ·rcases aE q2 with q2 | ⟨rfl,qq⟩
   ·rw [List.getElem?_append_left (by rw [h.len]; exact ae q1)] at q3
    rw [List.getElem?_append_left (by rw [h.len]; exact ae q2)] at q4
    exact h.sep j k y z a q1 q2 q3 q4
   ·cases qq
  ·cases qq
theorem Sm.pop {w' :List (Option V)} {ŵ' :List (Option Vl)} (h:Sm G E m p (w++w') (ŵ++ŵ') S) (hl:w.length=ŵ.length) (hm:m≤w.length):Sm G E m p w ŵ S:=by
 have up:∀{k:Nat} {e:Vl},ŵ[k]? =some (some e)→(ŵ++ŵ')[k]? =some (some e):=fun q=>by rw [List.getElem?_append_left (ae q)]; exact q
 have dn:∀{k:Nat} {v:Option V},k<w.length→(w++w')[k]? =some v→w[k]? =some v:=fun l q=>by rw [List.getElem?_append_left l] at q; exact q
 have uq:∀{k:Nat} {v:Option V},w[k]? =some v→(w++w')[k]? =some v:=fun q=>by rw [List.getElem?_append_left (ae q)]; exact q
 refine {h with len:=hl,ent:=fun k e q=>?_,own:=fun k y a q1 q2=>h.own k y a (up q1) (uq q2),sep:=fun j k y z a q1 q2 q3 q4=>h.sep j k y z a (up q1) (up q2) (uq q3) (uq q4)}
 obtain ⟨u,e1,r1⟩:=h.ent k e (up q)
 exact ⟨u,dn (by rw [hl]; exact ae q) e1,r1.mono (.refl p) (fun _ _ _ _ _=>rfl) fun j v l e=>dn (by omega) e⟩
theorem Sm.step {q:Wr} (h:Sm G E m p w ŵ S) (l:p.le q) (hγ:q.γ=p.γ) (hn:q.n=p.n) (hO:q.O=p.O) (hH:∀b o,p.H b=some o→q.H b=some o):Sm G E m q w ŵ S:=by
 have hq:∀{x a},Ho G p x a→q.H a=p.H a:=fun {x a} ho=>by
  obtain ⟨o,e⟩:=ho.some
  rw [e]; exact hH _ _ e
 refine {h with pn:=by rw [hn]; exact h.pn,old:=by rw [hγ]; exact h.old,cel:=fun i d e=>?_,inj:=by rw [hγ]; exact h.inj,born:=by rw [hγ]; exact h.born,frm:=by rw [hγ,hO]; exact h.frm,kp:=fun b o e n=>⟨fun f=>hH _ _ ((h.kp b o e n).1 f),(h.kp b o e n).2.imp (hH _ _) fun ⟨kvs,od,e1,e2⟩=>⟨kvs,od,e1,hH _ _ e2⟩⟩,sub:=fun b o e=>?_,grw:=by rw [hO]; exact h.grw,dom:=fun a e=>?_,ent:=fun k e e1=>?_,own:=by rw [hγ,hO]; exact h.own}
 ·rw [hγ,hO]
  have:=h.cel i d e
  exact ⟨this.1,this.2.mono l (hq this.2)⟩
 ·obtain ⟨o',e'⟩:=h.sub b o e
  exact ⟨o',hH _ _ e'⟩
 ·rw [hO] at e
  obtain ⟨o,e'⟩:=h.dom a e
  exact ⟨o,hH _ _ e'⟩
 ·obtain ⟨u,e2,r⟩:=h.ent k e e1
  exact ⟨u,e2,r.mono l (fun _ _ _ ho _=>hq ho) fun _ _ _ e=>e⟩
theorem eF (hn:p.H a=none):p.le {p with H:=upd p.H a o}:=⟨fun _ _=>rfl,Nat.le_refl _,fun b u h e=>⟨.inl (by show upd _ _ _ _=_; rw [upd_ne (ne_of_none e hn)]; exact e),h⟩⟩
theorem Sm.alloc (h:Sm G E m p w ŵ S) (hn:p.H a=none):Sm G E m {p with H:=upd p.H a o} w ŵ S:=
 h.step (eF hn) rfl rfl rfl fun b u e=>by show upd _ _ _ _=_; rw [upd_ne (ne_of_none e hn)]; exact e
theorem Sm.fresh (h:Sm G E m p w ŵ S) (hn:p.H a=none):E.W.H a=none∧¬p.O a:=by
 refine ⟨?_,fun q=>?_⟩
 ·cases e:E.W.H a with
  | none=>rfl
  | some o=>obtain ⟨o',e'⟩:=h.sub a o e; rw [hn] at e'; cases e'
 ·obtain ⟨o,e⟩:=h.dom a q
  rw [hn] at e; cases e
theorem jh (hn:p.H a=none):p.le {p with H:=upd p.H a o,O:=fun b=>p.O b∨b=a}:=⟨fun _ _=>rfl,Nat.le_refl _,fun b u h e=>⟨.inl (by show upd _ _ _ _=_; rw [upd_ne (ne_of_none e hn)]; exact e),fun q=>q.elim h (ne_of_none e hn)⟩⟩
theorem Sm.grow (h:Sm G E m p w ŵ S) (hn:p.H a=none):Sm G E m {p with H:=upd p.H a o,O:=fun b=>p.O b∨b=a} w ŵ S:=by
 have l:=jh (p:=p) (o:=o) hn
 obtain ⟨f1,f2⟩:=h.fresh hn
 have hH:∀b u,p.H b=some u→upd p.H a o b=some u:=fun b u e=>by rw [upd_ne (ne_of_none e hn)]; exact e
 have hq:∀{x b},Ho G p x b→upd p.H a o b=p.H b:=fun {x b} ho=>by
  obtain ⟨o,e⟩:=ho.some
  rw [e]; exact hH _ _ e
 refine {h with cel:=fun i d e=>⟨.inl (h.cel i d e).1,(h.cel i d e).2.mono l (hq (h.cel i d e).2)⟩,frm:=fun b e=>⟨.inl (h.frm b e).1,(h.frm b e).2⟩,kp:=fun b u e n=>⟨fun f=>hH _ _ ((h.kp b u e n).1 f),(h.kp b u e n).2.imp (hH _ _) fun ⟨kvs,od,e1,e2⟩=>⟨kvs,od,e1,hH _ _ e2⟩⟩,sub:=fun b u e=>?_,grw:=fun b u e n q=>?_,dom:=fun b q=>?_,ent:=fun k e e1=>?_,own:=fun k x b q1 q2=>⟨.inl (h.own k x b q1 q2).1,(h.own k x b q1 q2).2⟩}
 ·obtain ⟨o',e'⟩:=h.sub b u e
  exact ⟨o',hH _ _ e'⟩
 ·rcases q with q | rfl
  ·exact h.grw b u e n q
  ·rw [f1] at e; cases e
 ·rcases q with q | rfl
  ·obtain ⟨o',e'⟩:=h.dom b q
   exact ⟨o',hH _ _ e'⟩
  ·exact ⟨o,upd_same⟩
 ·obtain ⟨u,e2,r⟩:=h.ent k e e1
  exact ⟨u,e2,r.mono l (fun _ _ _ ho _=>hq ho) fun _ _ _ e=>e⟩
theorem Sm.allocOwn (h:Sm G E m p w ŵ S) (hn:p.H a=none) (hx:Ho G {p with H:=upd p.H a o,O:=fun b=>p.O b∨b=a} x a):
  Sm G E m {p with H:=upd p.H a o,O:=fun b=>p.O b∨b=a} (w++ [some (.ref a)]) (ŵ++ [some (.own x)]) S:=by
 obtain ⟨f1,f2⟩:=h.fresh hn
 have h1:Sm G E m {p with H:=upd p.H a o,O:=fun b=>p.O b∨b=a} w ŵ S:=h.grow hn
 ·have nog:∀i d,S.get i=some d→p.γ i≠a:=fun i d e q=>f2 (by rw [←q]; exact (h.cel i d e).1)
  have noF:¬E.F a:=fun q=>f2 (h.frm a q).1
  have noW:∀(k:Nat) (y:D),ŵ[k]? =some (some (.own y))→w[k]? ≠some (some (.ref a)):=fun k y e1 e2=>f2 (h.own k y a e1 e2).1
  refine {h1 with len:=by simp [h.len],ent:=fun k e q=>?_,own:=fun k y b q1 q2=>?_,sep:=fun j k y z b q1 q2 q3 q4=>?_}
  ·rcases aE q with q | ⟨rfl,qq⟩
   ·obtain ⟨u,e1,r1⟩:=h1.ent k e q
    exact ⟨u,aU e1,r1.mono (.refl _) (fun _ _ _ _ _=>rfl) fun j v _ e=>aU e⟩
   ·obtain rfl:=Option.some.inj qq
    exact ⟨.ref a,by rw [←h.len]; exact af,a,rfl,hx⟩
  ·rcases aE q1 with q | ⟨rfl,qq⟩
   ·rw [List.getElem?_append_left (by rw [h.len]; exact ae q)] at q2
    exact h1.own k y b q q2
   ·rw [←h.len,af] at q2
    cases q2
    exact ⟨.inr rfl,f1,noF,nog⟩
  ·rcases aE q1 with q1 | ⟨rfl,qq⟩
   ·rw [List.getElem?_append_left (by rw [h.len]; exact ae q1)] at q3
    rcases aE q2 with q2 | ⟨rfl,qq⟩
    ·rw [List.getElem?_append_left (by rw [h.len]; exact ae q2)] at q4
     exact h.sep j k y z b q1 q2 q3 q4
    ·rw [←h.len,af] at q4
     cases q4
     exact (noW j y q1 q3).elim
   ·rw [←h.len,af] at q3
    cases q3
    rcases aE q2 with q2 | ⟨rfl,qq⟩
    ·rw [List.getElem?_append_left (by rw [h.len]; exact ae q2)] at q4
     exact (noW k z q2 q4).elim
    ·rfl
end
section
variable {G:Gc} {E:En} {m:Nat} {p:Wr} {w:List (Option V)} {ŵ:List (Option Vl)} {S:Sto} {x y:D} {v:V} {a:Addr} {o:HO} {k:Nat}
theorem dO {α:Type} {l:List α} {x y:α} {k j:Nat} (h:(l.set k x)[j]? =some y):(k=j∧x=y)∨(k≠j∧l[j]? =some y):=by
 by_cases c:k=j
 ·subst c
  have hl:k<l.length:=by have:=ae h; simpa using this
  rw [List.getElem?_set_self hl] at h
  exact .inl ⟨rfl,Option.some.inj h⟩
 ·rw [List.getElem?_set_ne c] at h
  exact .inr ⟨c,h⟩
theorem tf {α:Type} {l:List α} {x:α} {k:Nat} (h:k<l.length):(l.set k x)[k]? =some x:=List.getElem?_set_self h
theorem rO:p.le {p with O:=fun b=>p.O b∧b≠a}:=⟨fun _ _=>rfl,Nat.le_refl _,fun _ _ h e=>⟨.inl e,fun q=>h q.1⟩⟩
theorem Sm.settle (h:Sm G E m p w ŵ S) (q:ŵ[k]? =some (some (.own x))) (qa:w[k]? =some (some (.ref a))):Sm G E m {p with O:=fun b=>p.O b∧b≠a} w (ŵ.set k (some (.d x))) S:=by
 have l:=rO (p:=p) (a:=a)
 obtain ⟨o1,o2,o3,o4⟩:=h.own k x a q qa
 have hk:=ae q
 have nk:∀{j y},(ŵ.set k (some (.d x)))[j]? =some (some (Vl.own y))→k≠j∧ŵ[j]? =some (some (.own y)):=fun {j y} e=>by
  rcases dO e with ⟨rfl,ee⟩ | e
  ·cases ee
  ·exact e
 have na:∀{j y b},ŵ[j]? =some (some (Vl.own y))→w[j]? =some (some (V.ref b))→k≠j→b≠a:=fun {j y b} e1 e2 c e=>c (h.sep k j x y a q e1 qa (by rw [←e]; exact e2))
 refine {h with len:=by simp [h.len],cel:=fun i d e=>⟨⟨(h.cel i d e).1,o4 i d e⟩,(h.cel i d e).2.mono l rfl⟩,frm:=fun b e=>⟨⟨(h.frm b e).1,fun z=>o3 (z ▸ e)⟩,(h.frm b e).2⟩,grw:=fun b u e n z=>h.grw b u e n z.1,dom:=fun b z=>h.dom b z.1,ent:=fun j e e1=>?_,own:=fun j y b e1 e2=>?_,sep:=fun i j y z b e1 e2 e3 e4=>?_}
 ·rcases dO e1 with ⟨rfl,ee⟩ | ⟨c,e1⟩
  ·cases ee
   obtain ⟨u,e2,b,rfl,r⟩:=h.ent k _ q
   rw [qa] at e2
   cases e2
   exact ⟨_,qa,Ho.rep (show¬(p.O a∧a≠a) from fun z=>z.2 rfl) (r.mono l rfl)⟩
  ·obtain ⟨u,e2,r⟩:=h.ent j e e1
   exact ⟨u,e2,r.mono l (fun _ _ _ _ _=>rfl) fun _ _ _ e=>e⟩
 ·obtain ⟨c,e1⟩:=nk e1
  have:=h.own j y b e1 e2
  exact ⟨⟨this.1,na e1 e2 c⟩,this.2⟩
 ·exact h.sep i j y z b (nk e1).2 (nk e2).2 e3 e4
theorem Sm.store {e:Vl} (h:Sm G E m p (w++ [some v]) (ŵ++ [some e]) S) (hk:k<m) (hm:m≤w.length) (hl:w.length=ŵ.length) (he:∀j,e≠ .loc j) (hn:∀(i j:Nat),ŵ[i]? =some (some (.loc j))→j≠k):Sm G E m p (w.set k (some v)) (ŵ.set k (some e)) S:=by
 have last:(ŵ++ [some e])[ŵ.length]? =some (some e):=af
 have lastv:(w++ [some v])[ŵ.length]? =some (some v):=by rw [←hl]; exact af
 have kw:k<w.length:=by omega
 -- where an entry comes from
 have go:∀{j:Nat} {e' :Vl},(ŵ.set k (some e))[j]? =some (some e')→∃i,(ŵ++ [some e])[i]? =some (some e')∧(∀u,(w.set k (some v))[j]? =some u↔(w++ [some v])[i]? =some u)∧((j=k∧i=ŵ.length∧e' =e)∨(j≠k∧i=j∧j<ŵ.length)):=fun {j e'} q=>by
  rcases dO q with ⟨rfl,qq⟩ | ⟨c,q⟩
  ·cases qq
   refine ⟨_,last,fun u=>?_, .inl ⟨rfl,rfl,rfl⟩⟩
   rw [tf kw,←hl,af]
  ·have hj:=ae q
   refine ⟨j,aU q,fun u=>?_, .inr ⟨fun z=>c z.symm,rfl,hj⟩⟩
   rw [List.getElem?_set_ne c,List.getElem?_append_left (by omega)]
 refine {h with len:=by simp [hl],ent:=fun j e' q=>?_,own:=fun j y b q1 q2=>?_,sep:=fun i j y z b q1 q2 q3 q4=>?_}
 ·obtain ⟨i,q1,q2,c⟩:=go q
  obtain ⟨u,e1,r⟩:=h.ent i e' q1
  refine ⟨u,(q2 _).mpr e1, ?_⟩
  rcases c with ⟨rfl,rfl,rfl⟩ | ⟨c,rfl,c2⟩
  ·cases e' with
   | d x=>exact r
   | own x=>exact r
   | loc j=>exact (he j rfl).elim
  ·cases e' with
   | d x=>exact r
   | own x=>exact r
   | loc t=>
    obtain ⟨r1,r2,r3⟩:=r
    have q0:ŵ[i]? =some (some (.loc t)):=by rw [List.getElem?_append_left c2] at q1; exact q1
    refine ⟨r1,r2, ?_⟩
    rw [List.getElem?_append_left (by omega)] at r3
    rw [List.getElem?_set_ne (hn i t q0).symm]
    exact r3
 ·obtain ⟨i,e1,e2,_⟩:=go q1
  exact h.own i y b e1 ((e2 _).mp q2)
 ·obtain ⟨i',e1,e2,c1⟩:=go q1
  obtain ⟨j',e3,e4,c2⟩:=go q2
  have:=h.sep i' j' y z b e1 e3 ((e2 _).mp q3) ((e4 _).mp q4)
  omega
theorem cG (ha:p.O a):p.le {p with H:=upd p.H a o}:=⟨fun _ _=>rfl,Nat.le_refl _,fun b u h e=>⟨.inl (by
  have c:b≠a:=fun z=>h (by rw [z]; exact ha)
  show upd _ _ _ _=_
  rw [upd_ne c]; exact e),h⟩⟩
theorem Sm.write (h:Sm G E m p w ŵ S) (q:ŵ[k]? =some (some (.own x))) (qa:w[k]? =some (some (.ref a))) (hy:Ho G {p with H:=upd p.H a o} y a):Sm G E m {p with H:=upd p.H a o} w (ŵ.set k (some (.own y))) S:=by
 obtain ⟨o1,o2,o3,o4⟩:=h.own k x a q qa
 have l:=cG (p:=p) (o:=o) o1
 have hk:=ae q
 have go:∀{j:Nat} {e' :Vl},(ŵ.set k (some (.own y)))[j]? =some (some e')→(k=j∧e' = .own y)∨(k≠j∧ŵ[j]? =some (some e')):=fun {j e'} q=>by
  rcases dO q with ⟨rfl,qq⟩ | q
  ·exact .inl ⟨rfl,(Option.some.inj qq).symm⟩
  ·exact .inr q
 have ow:∀{j:Nat} {z:D},(ŵ.set k (some (.own y)))[j]? =some (some (.own z))→∃z',ŵ[j]? =some (some (.own z')):=fun {j z} e=>by
  rcases go e with ⟨rfl,_⟩ | ⟨_,e⟩
  ·exact ⟨x,q⟩
  ·exact ⟨z,e⟩
 have ne:∀{b:Addr},b≠a→upd p.H a o b=p.H b:=fun c=>upd_ne c
 refine {h with len:=by simp [h.len],cel:=fun i d e=>⟨(h.cel i d e).1,(h.cel i d e).2.mono l (ne (o4 i d e))⟩,kp:=fun b u e n=>?_,sub:=fun b u e=>?_,dom:=fun b e=>?_,ent:=fun j e e1=>?_,own:=fun j z b e1 e2=>?_,sep:=fun i j z z' b e1 e2 e3 e4=>?_}
 ·show (_→upd _ _ _ _=_)∧Kept u (upd _ _ _ _)
  rw [ne (fun z=>by rw [z,o2] at e; cases e)]
  exact h.kp b u e n
 ·by_cases c:b=a
  ·subst c; exact ⟨o,upd_same⟩
  ·obtain ⟨u',e'⟩:=h.sub b u e
   exact ⟨u',by show upd _ _ _ _=_; rw [ne c]; exact e'⟩
 ·by_cases c:b=a
  ·subst c; exact ⟨o,upd_same⟩
  ·obtain ⟨u',e'⟩:=h.dom b e
   exact ⟨u',by show upd _ _ _ _=_; rw [ne c]; exact e'⟩
 ·rcases go e1 with ⟨rfl,rfl⟩ | ⟨c,e1⟩
  ·exact ⟨_,qa,a,rfl,hy⟩
  ·obtain ⟨u,e2,r⟩:=h.ent j e e1
   refine ⟨u,e2, ?_⟩
   cases e with
   | d z=>exact Rep.mono l r
   | own z=>
    obtain ⟨b,rfl,r⟩:=r
    exact ⟨b,rfl,r.mono l (ne fun hb=>c (h.sep k j x z a q e1 qa (by rw [←hb]; exact e2)))⟩
   | loc t=>exact r
 ·obtain ⟨z',e1⟩:=ow e1
  exact h.own j z' b e1 e2
 ·obtain ⟨z1,e1⟩:=ow e1
  obtain ⟨z2,e2⟩:=ow e2
  exact h.sep i j z1 z2 b e1 e2 e3 e4
def Sto.put (S:Sto) (i:Nat) (x:D):Sto:= {S with get:=fun j=>if j=i then some x else S.get j}
def Sto.del (S:Sto) (i:Nat):Sto:= {S with get:=fun j=>if j=i then none else S.get j}
def Sto.new (S:Sto) (x:D):Sto:= {S with nx:=S.nx+1,get:=fun j=>if j=S.nx then some x else S.get j}
theorem Sto.put_same {S:Sto} {i:Nat} {x:D}:(S.put i x).get i=some x:=if_pos rfl
theorem Sto.put_ne {S:Sto} {i j:Nat} {x:D} (h:j≠i):(S.put i x).get j=S.get j:=if_neg h
theorem Sto.put_dom {S:Sto} {i j:Nat} {x y z:D} (h:(S.put i x).get j=some y) (q:S.get i=some z):∃y',S.get j=some y' :=by
 by_cases c:j=i
 ·subst c; exact ⟨z,q⟩
 ·rw [Sto.put_ne c] at h; exact ⟨y,h⟩
theorem Sm.writeCell {i:Nat} (h:Sm G E m p w ŵ S) (q:S.get i=some x) (hy:Ho G {p with H:=upd p.H (p.γ i) o} y (p.γ i)):Sm G E m {p with H:=upd p.H (p.γ i) o} w ŵ (S.put i y):=by
 obtain ⟨o1,o2⟩:=h.cel i x q
 have l:=cG (p:=p) (o:=o) o1
 have ne:∀{b:Addr},b≠p.γ i→upd p.H (p.γ i) o b=p.H b:=fun c=>upd_ne c
 refine {h with bd:=fun j d e=>?_,cel:=fun j d e=>?_,inj:=fun j t d d' e1 e2 e3=>?_,born:=fun j d e=>?_,frm:=fun b e=>⟨(h.frm b e).1,fun j d e' =>?_⟩,kp:=fun b u e n=>?_,sub:=fun b u e=>?_,dom:=fun b e=>?_,ent:=fun j e e1=>?_,own:=fun j z b e1 e2=>?_}
 ·obtain ⟨d',e⟩:=Sto.put_dom e q
  exact h.bd j d' e
 ·by_cases c:j=i
  ·subst c
   rw [Sto.put_same] at e; cases e
   exact ⟨o1,hy⟩
  ·rw [Sto.put_ne c] at e
   exact ⟨(h.cel j d e).1,(h.cel j d e).2.mono l (ne fun z=>c (h.inj j i d x e q z))⟩
 ·obtain ⟨d1,e1⟩:=Sto.put_dom e1 q
  obtain ⟨d2,e2⟩:=Sto.put_dom e2 q
  exact h.inj j t d1 d2 e1 e2 e3
 ·obtain ⟨d1,e⟩:=Sto.put_dom e q
  exact h.born j d1 e
 ·obtain ⟨d1,e'⟩:=Sto.put_dom e' q
  exact (h.frm b e).2 j d1 e'
 ·show (_→upd _ _ _ _=_)∧Kept u (upd _ _ _ _)
  rw [ne fun z=>?_]
  ·exact h.kp b u e n
  ·rcases h.born i x q with ⟨d0,b0⟩ | b0
   ·exact n i d0 b0 (by rw [z]; exact h.old i (h.ebd i d0 b0))
   ·rw [z,b0] at e; cases e
 ·by_cases c:b=p.γ i
  ·subst c; exact ⟨o,upd_same⟩
  ·obtain ⟨u',e'⟩:=h.sub b u e
   exact ⟨u',by show upd _ _ _ _=_; rw [ne c]; exact e'⟩
 ·by_cases c:b=p.γ i
  ·subst c; exact ⟨o,upd_same⟩
  ·obtain ⟨u',e'⟩:=h.dom b e
   exact ⟨u',by show upd _ _ _ _=_; rw [ne c]; exact e'⟩
 ·obtain ⟨u,e2,r⟩:=h.ent j e e1
  refine ⟨u,e2, ?_⟩
  cases e with
  | d z=>exact Rep.mono l r
  | own z=>
   obtain ⟨b,rfl,r⟩:=r
   exact ⟨b,rfl,r.mono l (ne fun hb=>(h.own j z b e1 e2).2.2.2 i x q hb.symm)⟩
  | loc t=>exact r
 ·have:=h.own j z b e1 e2
  refine ⟨this.1,this.2.1,this.2.2.1,fun t d e=>?_⟩
  obtain ⟨d1,e⟩:=Sto.put_dom e q
  exact this.2.2.2 t d1 e
theorem Sm.celled (h:Sm G E m p w ŵ S) (q:ŵ[k]? =some (some (.own x))) (qa:w[k]? =some (some (.ref a))):
  Sm G E m {p with γ:=fun i=>if i=S.nx then a else p.γ i,n:=S.nx+1} w (ŵ.set k (some (.d (.cell S.nx)))) (S.new x):=by
 obtain ⟨o1,o2,o3,o4⟩:=h.own k x a q qa
 have l:p.le {p with γ:=fun i=>if i=S.nx then a else p.γ i,n:=S.nx+1}:=⟨fun i hi=>if_neg (by rw [h.pn] at hi; omega),by rw [h.pn]; exact Nat.le_succ _,fun b u n e=>⟨.inl e,n⟩⟩
 have gs:(fun i=>if i=S.nx then a else p.γ i) S.nx=a:=if_pos rfl
 have gn:∀{i d},S.get i=some d→(if i=S.nx then a else p.γ i)=p.γ i:=fun {i d} e=>if_neg (Nat.ne_of_lt (h.bd i d e))
 have dm:∀{i d},(S.new x).get i=some d→(i=S.nx∧d=x)∨(i≠S.nx∧S.get i=some d):=fun {i d} e=>by
  by_cases c:i=S.nx
  ·subst c
   have e:(if S.nx=S.nx then some x else S.get S.nx)=some d:=e
   rw [if_pos rfl] at e; cases e; exact .inl ⟨rfl,rfl⟩
  ·have e:(if i=S.nx then some x else S.get i)=some d:=e
   rw [if_neg c] at e; exact .inr ⟨c,e⟩
 obtain ⟨u,e2,a',e3,r0⟩:=h.ent k _ q
 rw [qa] at e2
 cases e2
 cases e3
 have nk:∀{j y},(ŵ.set k (some (.d (.cell S.nx))))[j]? =some (some (Vl.own y))→k≠j∧ŵ[j]? =some (some (.own y)):=fun {j y} e=>by
  rcases dO e with ⟨rfl,ee⟩ | e
  ·cases ee
  ·exact e
 refine {h with len:=by simp [h.len],pn:=rfl,nx:=Nat.le_succ_of_le h.nx,old:=fun i hi=>?_,bd:=fun i d e=>?_,cel:=fun i d e=>?_,inj:=fun i j d d' e1 e2 e3=>?_,born:=fun i d e=>?_,frm:=fun b e=>⟨(h.frm b e).1,fun i d e' =>?_⟩,ent:=fun j e e1=>?_,own:=fun j z b e1 e2=>?_,sep:=fun i j y z b e1 e2 e3 e4=>h.sep i j y z b (nk e1).2 (nk e2).2 e3 e4}
 ·show (if i=S.nx then a else p.γ i)=_
  rw [if_neg (by have:=h.nx; omega)]
  exact h.old i hi
 ·rcases dm e with ⟨rfl,_⟩ | ⟨_,e⟩
  ·exact Nat.lt_succ_self _
  ·exact Nat.lt_succ_of_lt (h.bd i d e)
 ·rcases dm e with ⟨rfl,rfl⟩ | ⟨_,e⟩
  ·show p.O (if S.nx=S.nx then a else _)∧Ho _ _ _ (if S.nx=S.nx then a else _)
   rw [if_pos rfl]
   exact ⟨o1,r0.mono l rfl⟩
  ·show p.O (if i=S.nx then a else _)∧Ho _ _ _ (if i=S.nx then a else _)
   rw [gn e]
   exact ⟨(h.cel i d e).1,(h.cel i d e).2.mono l rfl⟩
 ·have e3:(if i=S.nx then a else p.γ i)=(if j=S.nx then a else p.γ j):=e3
  rcases dm e1 with ⟨i1,d1⟩ | ⟨c1,e1⟩
  ·subst i1
   rcases dm e2 with ⟨i2,d2⟩ | ⟨c2,e2⟩
   ·exact i2.symm
   ·rw [if_pos rfl,gn e2] at e3
    exact (o4 _ _ e2 e3.symm).elim
  ·rcases dm e2 with ⟨i2,d2⟩ | ⟨c2,e2⟩
   ·subst i2
    rw [if_pos rfl,gn e1] at e3
    exact (o4 i d e1 e3).elim
   ·rw [gn e1,gn e2] at e3
    exact h.inj i j d d' e1 e2 e3
 ·rcases dm e with ⟨rfl,rfl⟩ | ⟨_,e⟩
  ·right
   show E.W.H (if S.nx=S.nx then a else _)=none
   rw [if_pos rfl]; exact o2
  ·show _∨E.W.H (if i=S.nx then a else _)=none
   rw [gn e]; exact h.born i d e
 ·rcases dm e' with ⟨rfl,rfl⟩ | ⟨_,e'⟩
  ·show (if S.nx=S.nx then a else _)≠b
   rw [if_pos rfl]; exact fun z=>o3 (z ▸ e)
  ·show (if i=S.nx then a else _)≠b
   rw [gn e']; exact (h.frm b e).2 i d e'
 ·rcases dO e1 with ⟨rfl,ee⟩ | ⟨c,e1⟩
  ·cases ee
   refine ⟨_,qa,Nat.lt_succ_self _, ?_⟩
   show V.ref a=V.ref (if S.nx=S.nx then a else _)
   rw [if_pos rfl]
  ·obtain ⟨u,e2,r⟩:=h.ent j e e1
   exact ⟨u,e2,r.mono l (fun _ _ _ _ _=>rfl) fun _ _ _ e=>e⟩
 ·obtain ⟨c,e1⟩:=nk e1
  have:=h.own j z b e1 e2
  refine ⟨this.1,this.2.1,this.2.2.1,fun i d e=>?_⟩
  rcases dm e with ⟨rfl,rfl⟩ | ⟨_,e⟩
  ·show (if S.nx=S.nx then a else _)≠b
   rw [if_pos rfl]
   exact fun hb=>c (h.sep k j _ z a q e1 qa (by rw [hb]; exact e2))
  ·show (if i=S.nx then a else _)≠b
   rw [gn e]; exact this.2.2.2 i d e
theorem Sm.freeze {i:Nat} (h:Sm G E m p w ŵ S) (hc:S.get i=some x) (q:ŵ[k]? =some (some (.d (.cell i)))):Sm G E m {p with O:=fun b=>p.O b∧b≠p.γ i} w (ŵ.set k (some (.d x))) (S.del i):=by
 have l:=rO (p:=p) (a:=p.γ i)
 have dm:∀{j d},(S.del i).get j=some d→j≠i∧S.get j=some d:=fun {j d} e=>by
  by_cases c:j=i
  ·subst c
   have e:(if j=j then none else S.get j)=some d:=e
   rw [if_pos rfl] at e; cases e
  ·have e:(if j=i then none else S.get j)=some d:=e
   rw [if_neg c] at e; exact ⟨c,e⟩
 have nk:∀{j y},(ŵ.set k (some (.d x)))[j]? =some (some (Vl.own y))→k≠j∧ŵ[j]? =some (some (.own y)):=fun {j y} e=>by
  rcases dO e with ⟨rfl,ee⟩ | e
  ·cases ee
  ·exact e
 refine {h with len:=by simp [h.len],bd:=fun j d e=>h.bd j d (dm e).2,cel:=fun j d e=>?_,inj:=fun j t d d' e1 e2 e3=>h.inj j t d d' (dm e1).2 (dm e2).2 e3,born:=fun j d e=>h.born j d (dm e).2,frm:=fun b e=>⟨⟨(h.frm b e).1,fun z=>(h.frm b e).2 i x hc z.symm⟩,fun j d e' =>(h.frm b e).2 j d (dm e').2⟩,grw:=fun b u e n z=>h.grw b u e n z.1,dom:=fun b z=>h.dom b z.1,ent:=fun j e e1=>?_,own:=fun j y b e1 e2=>?_,sep:=fun i j y z b e1 e2 e3 e4=>h.sep i j y z b (nk e1).2 (nk e2).2 e3 e4}
 ·obtain ⟨c,e⟩:=dm e
  exact ⟨⟨(h.cel j d e).1,fun z=>c (h.inj j i d x e hc z)⟩,(h.cel j d e).2.mono l rfl⟩
 ·rcases dO e1 with ⟨rfl,ee⟩ | ⟨c,e1⟩
  ·cases ee
   obtain ⟨u,e2,r1,rfl⟩:=h.ent k _ q
   exact ⟨_,e2,Ho.rep (show¬(p.O (p.γ i)∧p.γ i≠p.γ i) from fun z=>z.2 rfl) ((h.cel i x hc).2.mono l rfl)⟩
  ·obtain ⟨u,e2,r⟩:=h.ent j e e1
   exact ⟨u,e2,r.mono l (fun _ _ _ _ _=>rfl) fun _ _ _ e=>e⟩
 ·obtain ⟨c,e1⟩:=nk e1
  have:=h.own j y b e1 e2
  exact ⟨⟨this.1,fun z=>this.2.2.2 i x hc z.symm⟩,this.2.1,this.2.2.1,fun t d e=>this.2.2.2 t d (dm e).2⟩
end
section
variable {G:Gc} {E:En} {m m' :Nat} {p p' :Wr} {w w' :List (Option V)} {ŵ ŵ' :List (Option Vl)} {S S' :Sto} {x y:D} {v:V} {a:Addr} {o:HO} {k:Nat} {e:Vl}
def En.of (E:En) (p:Wr) (S:Sto) (w:List (Option V)) (ŵ:List (Option Vl)):En where
 F:=fun a=>E.F a∨∃(k:Nat) (x:D),ŵ[k]? =some (some (.own x))∧w[k]? =some (some (.ref a))
 W:=p
 S:=S
def starts (n:Nat) (ds:List D):List (Option Vl):=ds.map (fun d=>some (.d d))++List.replicate (n - ds.length) none
theorem Sm.enter {N:List Str} {ds:List D} {vs:List V} (h:Sm G E m p w ŵ S) (r:Reps G p ds vs):Sm G (E.of p S w ŵ) m' p (L2.start N vs) (starts N.length ds) S:=by
 have hd:∀{k:Nat} {e:Vl},(starts N.length ds)[k]? =some (some e)→∃d,ds[k]? =some d∧e= .d d:=fun {k e} q=>by
  unfold starts at q
  by_cases c:k<ds.length
  ·rw [List.getElem?_append_left (by simpa using c),List.getElem?_map] at q
   obtain ⟨d,h1,h2⟩:=Option.map_eq_some_iff.mp q
   exact ⟨d,h1,(Option.some.inj h2).symm⟩
  ·rw [List.getElem?_append_right (by simpa using c)] at q
   have:=List.mem_of_getElem? q
   rw [List.mem_replicate] at this
   cases this.2
 refine {len:=?_,pn:=h.pn,nx:=Nat.le_refl _,ebd:=h.bd,old:=fun _ _=>rfl,bd:=h.bd,cel:=h.cel,inj:=h.inj,born:=fun i d e=> .inl ⟨d,e⟩,frm:=fun b q=>?_,kp:=fun _ _ e _=>⟨fun _=>e, .inl e⟩,sub:=fun _ o e=>⟨o,e⟩,grw:=fun _ _ _ n=>n,dom:=h.dom,ent:=fun k e q=>?_,own:=fun k x a q=>?_,sep:=fun j k x y a q=>?_}
 ·unfold L2.start starts
  simp [r.len]
 ·rcases q with q | ⟨k,x,q1,q2⟩
  ·exact h.frm b q
  ·exact ⟨(h.own k x b q1 q2).1,(h.own k x b q1 q2).2.2.2⟩
 ·obtain ⟨d,e1,rfl⟩:=hd q
  obtain ⟨v,e2,r2⟩:=r.get e1
  refine ⟨v, ?_,r2⟩
  unfold L2.start
  rw [List.getElem?_append_left (by simpa using ae e2),List.getElem?_map,e2]
  rfl
 ·obtain ⟨d,_,q⟩:=hd q; cases q
 ·obtain ⟨d,_,q⟩:=hd q; cases q
theorem Sm.after_le (h:Sm G E m p w ŵ S) (h' :Sm G (E.of p S w ŵ) m' p' w' ŵ' S'):p.le p' :=by
 refine ⟨fun i hi=>h'.old i (by rw [h.pn] at hi; exact hi),by rw [h.pn,h'.pn]; exact h'.nx,fun b o n e=>⟨(h'.kp b o e fun i d q z=>n ?_).2,h'.grw b o e n⟩⟩
 rw [z]
 exact (h.cel i d q).1
theorem Sm.after (h:Sm G E m p w ŵ S) (h' :Sm G (E.of p S w ŵ) m' p' w' ŵ' S'):Sm G E m p' w ŵ S' :=by
 have l:=h.after_le h'
 have own' :∀(k:Nat) (x:D) (a:Addr),ŵ[k]? =some (some (.own x))→w[k]? =some (some (.ref a))→p'.H a=p.H a:=fun k x a q1 q2=>by
  obtain ⟨o1,o2,o3,o4⟩:=h.own k x a q1 q2
  obtain ⟨o,e⟩:=h.dom a o1
  rw [e]
  exact (h'.kp a o e fun i d q z=>o4 i d q z.symm).1 (.inr ⟨k,x,q1,q2⟩)
 refine {len:=h.len,pn:=h'.pn,nx:=Nat.le_trans h.nx h'.nx,ebd:=h.ebd,old:=fun i hi=>?_,bd:=h'.bd,cel:=h'.cel,inj:=h'.inj,born:=fun i d e=>?_,frm:=fun b q=>h'.frm b (.inl q),kp:=fun b o e n=>?_,sub:=fun b o e=>?_,grw:=fun b o e n=>?_,dom:=h'.dom,ent:=fun k e q=>?_,own:=fun k x b q1 q2=>?_,sep:=h.sep}
 ·rw [h'.old i (Nat.lt_of_lt_of_le hi h.nx)]
  exact h.old i hi
 ·rcases h'.born i d e with ⟨d0,b0⟩ | b0
  ·rcases h.born i d0 b0 with b1 | b1
   ·exact .inl b1
   ·right
    rw [h'.old i (h.bd i d0 b0)]
    exact b1
  ·right
   cases q:E.W.H (p'.γ i) with
   | none=>rfl
   | some o=>
    obtain ⟨o',e'⟩:=h.sub _ o q
    have b0:p.H (p'.γ i)=none:=b0
    rw [b0] at e'; cases e'
 ·have nc:∀(i:Nat) (d:D),S.get i=some d→b≠p.γ i:=fun i d q z=>by
   rcases h.born i d q with ⟨d0,b0⟩ | b0
   ·exact n i d0 b0 (by rw [z]; exact h.old i (h.ebd i d0 b0))
   ·rw [←z,e] at b0; cases b0
  obtain ⟨k1,k2⟩:=h.kp b o e n
  refine ⟨fun f=>(h'.kp b o (k1 f) nc).1 (.inl f), ?_⟩
  have:∃x,p.H b=some x:=by rcases k2 with k | ⟨_,_,_,k⟩<;> exact ⟨_,k⟩
  obtain ⟨x,ex⟩:=this
  rw [ex] at k2
  exact k2.trans (h'.kp b x ex nc).2
 ·obtain ⟨o',e'⟩:=h.sub b o e
  exact h'.sub b o' e'
 ·obtain ⟨o',e'⟩:=h.sub b o e
  exact h'.grw b o' e' (h.grw b o e n)
 ·obtain ⟨u,e2,r⟩:=h.ent k e q
  refine ⟨u,e2, ?_⟩
  cases e with
  | d z=>exact Rep.mono l r
  | own z=>
   obtain ⟨b,rfl,r⟩:=r
   exact ⟨b,rfl,r.mono l (own' k z b q e2)⟩
  | loc t=>exact r
 ·have o:=h.own k x b q1 q2
  have f:=h'.frm b (.inr ⟨k,x,q1,q2⟩)
  exact ⟨f.1,o.2.1,o.2.2.1,f.2⟩
theorem Sm.pushOwn (h:Sm G E m p w ŵ S) (r:Ho G p x a) (o1:p.O a) (o2:E.W.H a=none) (o3:¬E.F a) (o4:∀i d,S.get i=some d→p.γ i≠a) (o5:∀(k:Nat) (y:D),ŵ[k]? =some (some (.own y))→w[k]? ≠some (some (.ref a))):
  Sm G E m p (w++ [some (.ref a)]) (ŵ++ [some (.own x)]) S:=by
 refine {h with len:=by simp [h.len],ent:=fun k e q=>?_,own:=fun k y b q1 q2=>?_,sep:=fun j k y z b q1 q2 q3 q4=>?_}
 ·rcases aE q with q | ⟨rfl,qq⟩
  ·obtain ⟨u,e1,r1⟩:=h.ent k e q
   exact ⟨u,aU e1,r1.mono (.refl _) (fun _ _ _ _ _=>rfl) fun j v _ e=>aU e⟩
  ·obtain rfl:=Option.some.inj qq
   exact ⟨.ref a,by rw [←h.len]; exact af,a,rfl,r⟩
 ·rcases aE q1 with q | ⟨rfl,qq⟩
  ·rw [List.getElem?_append_left (by rw [h.len]; exact ae q)] at q2
   exact h.own k y b q q2
  ·rw [←h.len,af] at q2
   cases q2
   exact ⟨o1,o2,o3,o4⟩
 ·rcases aE q1 with q1 | ⟨rfl,qq⟩
  ·rw [List.getElem?_append_left (by rw [h.len]; exact ae q1)] at q3
   rcases aE q2 with q2 | ⟨rfl,qq⟩
   ·rw [List.getElem?_append_left (by rw [h.len]; exact ae q2)] at q4
    exact h.sep j k y z b q1 q2 q3 q4
   ·rw [←h.len,af] at q4
    cases q4
    exact (o5 j y q1 q3).elim
  ·rw [←h.len,af] at q3
   cases q3
   rcases aE q2 with q2 | ⟨rfl,qq⟩
   ·rw [List.getElem?_append_left (by rw [h.len]; exact ae q2)] at q4
    exact (o5 k z q2 q4).elim
   ·rfl
theorem Sm.lock {d:Addr} {kvs:List (Key×V)} {od:Obj} (h:Sm G E m p w ŵ S) (hd:p.H d=some (.dK kvs)) (hn:¬p.O d):Sm G E m {p with H:=upd p.H d (.frz od (.dK kvs))} w ŵ S:=by
 have l:p.le {p with H:=upd p.H d (.frz od (.dK kvs))}:=⟨fun _ _=>rfl,Nat.le_refl _,fun b o n e=>⟨by
  by_cases c:b=d
  ·subst c
   rw [hd] at e; cases e
   exact .inr ⟨kvs,od,rfl,upd_same⟩
  ·exact .inl (by show upd _ _ _ _=_; rw [upd_ne c]; exact e),n⟩⟩
 have nO:∀{b:Addr},p.O b→upd p.H d (.frz od (.dK kvs)) b=p.H b:=fun {b} q=>upd_ne fun c=>hn (c ▸ q)
 refine {h with cel:=fun i d e=>⟨(h.cel i d e).1,(h.cel i d e).2.mono l (nO (h.cel i d e).1)⟩,kp:=fun b o e n=>?_,sub:=fun b o e=>?_,dom:=fun b q=>?_,ent:=fun k e q=>?_}
 ·obtain ⟨k1,k2⟩:=h.kp b o e n
  by_cases c:b=d
  ·subst c
   refine ⟨fun f=>(hn (h.frm b f).1).elim, ?_⟩
   rw [hd] at k2
   exact k2.trans (.inr ⟨kvs,od,rfl,upd_same⟩)
  ·show (_→upd _ _ _ _=_)∧Kept o (upd _ _ _ _)
   rw [upd_ne c]
   exact ⟨k1,k2⟩
 ·by_cases c:b=d
  ·subst c; exact ⟨_,upd_same⟩
  ·obtain ⟨o',e'⟩:=h.sub b o e
   exact ⟨o',by show upd _ _ _ _=_; rw [upd_ne c]; exact e'⟩
 ·obtain ⟨o',e'⟩:=h.dom b q
  exact ⟨o',by show upd _ _ _ _=_; rw [nO q]; exact e'⟩
 ·obtain ⟨u,e1,r⟩:=h.ent k e q
  refine ⟨u,e1, ?_⟩
  cases e with
  | d z=>exact Rep.mono l r
  | own z=>
   obtain ⟨b,rfl,r⟩:=r
   exact ⟨b,rfl,r.mono l (nO (h.own k z b q e1).1)⟩
  | loc t=>exact r
theorem Sm.leave (h:Sm G E m p w ŵ S) (h' :Sm G (E.of p S w ŵ) m' p' w' ŵ' S') (hk:ŵ'[k]? =some (some e)) (hv:w'[k]? =some (some v)) (he:∀j,e≠ .loc j):Sm G E m p' (w++ [some v]) (ŵ++ [some e]) S' :=by
 have h1:=h.after h'
 obtain ⟨u,e2,r⟩:=h'.ent k e hk
 rw [hv] at e2; cases e2
 cases e with
 | d x=>exact h1.push r
 | own x=>
  obtain ⟨a,rfl,r⟩:=r
  obtain ⟨o1,o2,o3,o4⟩:=h'.own k x a hk hv
  refine h1.pushOwn r o1 ?_ (fun z=>o3 (.inl z)) o4 fun j y q1 q2=>o3 (.inr ⟨j,y,q1,q2⟩)
  cases q:E.W.H a with
  | none=>rfl
  | some o=>
   obtain ⟨o',e'⟩:=h.sub _ o q
   have o2:p.H a=none:=o2
   rw [o2] at e'; cases e'
 | loc j=>exact (he j rfl).elim
end
def Rel (G:Gc) (E:En) (σ:L2.St) (τ:List V) (H:Hp) (s:SD) (θ:List Vl):Prop:=∃p:Wr,p.H=H∧σ.length=s.sl.length∧Sm G E s.sl.length p (σ++τ.map some) (s.sl++θ.map some) s.st
def ExV (G:Gc) (p:Wr) (c:Str) (fs:List (Str×D)) (cls:Value) (d:Option Addr):Prop:=
 ∃C,G.mg c=some (.ref C)∧cls= .ref C∧((fs= []∧d=none)∨∃da fvs,d=some da∧p.H da=some (.xd fvs)∧¬p.O da∧RepF G p fs fvs)
def RelX (G:Gc) (E:En) (σ:L2.St) (τ:List V) (H:Hp) (s:SD) (θ:List Vl) (c:Str) (fs:List (Str×D)) (cls:Value) (d:Option Addr):Prop:=
 ∃p:Wr,p.H=H∧σ.length=s.sl.length∧Sm G E s.sl.length p (σ++τ.map some) (s.sl++θ.map some) s.st∧ExV G p c fs cls d
def XP (G:Gc) (W:WX) (E:En) (τ:List V) (θ:List Vl):XQ:=fun c fs s' =>∀cls d σ' H',RelX G E σ' τ H' s' θ c fs cls d→W cls d σ' H'
def Nl (θ:List Vl):Prop:=∀e∈θ,∀j,e≠ .loc j
theorem Nl.snoc {θ:List Vl} {a:Vl} (h:Nl θ) (ha:∀j,a≠ .loc j):Nl (θ++ [a]):=fun e he=>by
 rcases List.mem_append.mp he with he | he
 ·exact h e he
 ·rw [List.mem_singleton.mp he]; exact ha
theorem Nl.d {θ:List Vl} {x:D} (h:Nl θ):Nl (θ++ [.d x]):=h.snoc fun _ q=>nomatch q
def RE (G:Gc) (W:WX) (t:TE) (fe:SD→R Vl):Prop:=∀(E:En) (σ:L2.St) (τ:List V) (H:Hp) (s:SD) (θ:List Vl) (Q:VK),Nl θ→Rel G E σ τ H s θ→
 Wp (fe s) (fun a s' =>∀v H',Rel G E σ (τ++ [v]) H' s' (θ++ [a])→Q v H') (XP G W E τ θ)→t σ H Q
def RT (G:Gc) (W:WX) (t:TT) (fe:SD→R Bool):Prop:=∀(E:En) (σ:L2.St) (τ:List V) (H:Hp) (s:SD) (θ:List Vl) (Q:Bool→Hp→Prop),Nl θ→Rel G E σ τ H s θ→
 Wp (fe s) (fun b s' =>∀H',Rel G E σ τ H' s' θ→Q b H') (XP G W E τ θ)→t σ H Q
def RA (G:Gc) (W:WX) (t:TA) (fe:SD→R (List D)):Prop:=∀(E:En) (σ:L2.St) (τ:List V) (H:Hp) (s:SD) (θ:List Vl) (Q:List V→Hp→Prop),Nl θ→Rel G E σ τ H s θ→
 Wp (fe s) (fun ds s' =>∀vs H',Rel G E σ (τ++vs) H' s' (θ++ds.map .d)→Q vs H') (XP G W E τ θ)→t σ H Q
inductive Fl where
 | nx | bk | ct | rt (a:Vl)
def FP (G:Gc) (E:En) (τ:List V) (θ:List Vl) (D:Ends):Fl→SD→Prop
 | .nx,s' =>∀σ' H',Rel G E σ' τ H' s' θ→D.nx σ' H'
 | .bk,s' =>∀σ' H',Rel G E σ' τ H' s' θ→D.bk σ' H'
 | .ct,s' =>∀σ' H',Rel G E σ' τ H' s' θ→D.ct σ' H'
 | .rt a,s' =>(∀j,a≠ .loc j)∧∀σ' v H',Rel G E σ' (τ++ [v]) H' s' (θ++ [a])→D.rt v H'
def RS (G:Gc) (W:WX) (t:TS) (fz:SD→R Fl):Prop:=∀(E:En) (σ:L2.St) (τ:List V) (H:Hp) (s:SD) (θ:List Vl) (D:Ends),Nl θ→Rel G E σ τ H s θ→
 Wp (fz s) (FP G E τ θ D) (XP G W E τ θ)→t D σ H
section
variable {G:Gc} {W:WX} {E:En} {σ:L2.St} {τ:List V} {H:Hp} {s:SD} {θ:List Vl} {v:V} {a:Vl} {x:D} {p:Wr}
theorem Rel.snoc (h:Sm G E s.sl.length p ((σ++τ.map some)++ [some v]) ((s.sl++θ.map some)++ [some a]) s.st) (hl:σ.length=s.sl.length) (hH:p.H=H):Rel G E σ (τ++ [v]) H s (θ++ [a]):=by
 refine ⟨p,hH,hl, ?_⟩
 rw [List.map_append,List.map_append,←List.append_assoc,←List.append_assoc]
 exact h
theorem Rel.unsnoc (h:Rel G E σ (τ++ [v]) H s (θ++ [a])):∃p:Wr,p.H=H∧σ.length=s.sl.length∧Sm G E s.sl.length p ((σ++τ.map some)++ [some v]) ((s.sl++θ.map some)++ [some a]) s.st:=by
 obtain ⟨p,e,hl,h⟩:=h
 rw [List.map_append,List.map_append,←List.append_assoc,←List.append_assoc] at h
 exact ⟨p,e,hl,h⟩
theorem aD {α β:Type} {l:List α} {l' :List β} {a:α} {b:β} (h:(l++ [a]).length=(l' ++ [b]).length):l.length=l'.length:=by simpa using h
theorem Sm.pop1 {m:Nat} {w:List (Option V)} {ŵ:List (Option Vl)} {S:Sto} {u:Option V} {e:Option Vl} (h:Sm G E m p (w++ [u]) (ŵ++ [e]) S) (hm:m≤w.length):Sm G E m p w ŵ S:=h.pop (aD h.len) hm
theorem bE {l:List (Option V)} (hl:σ.length=s.sl.length):s.sl.length≤(σ++l).length:=by simp; omega
theorem Rel.pop (h:Rel G E σ (τ++ [v]) H s (θ++ [a])):Rel G E σ τ H s θ:=by
 obtain ⟨p,e,hl,h⟩:=h.unsnoc
 exact ⟨p,e,hl,h.pop1 (bE hl)⟩
theorem RelX.pop {c:Str} {fs:List (Str×D)} {cls:Value} {d:Option Addr} (h:RelX G E σ (τ++ [v]) H s (θ++ [a]) c fs cls d):RelX G E σ τ H s θ c fs cls d:=by
 obtain ⟨p,e,hl,h,x⟩:=h
 rw [List.map_append,List.map_append,←List.append_assoc,←List.append_assoc] at h
 exact ⟨p,e,hl,h.pop1 (bE hl),x⟩
theorem XP.up {c:Str} {fs:List (Str×D)} (h:XP G W E τ θ c fs s):XP G W E (τ++ [v]) (θ++ [a]) c fs s:=fun cls d σ' H' r=>h cls d σ' H' r.pop
theorem Rel.len (h:Rel G E σ τ H s θ):(σ++τ.map some).length=(s.sl++θ.map some).length:=let ⟨_,_,_,h⟩:=h; h.len
theorem Rel.tlen (h:Rel G E σ τ H s θ):τ.length=θ.length:=by
 obtain ⟨_,_,hl,h⟩:=h
 have:=h.len
 simp at this
 omega
theorem Rel.last (h:Rel G E σ (τ++ [v]) H s (θ++ [.d x])):∃p:Wr,p.H=H∧Rep G p x v:=by
 obtain ⟨p,e,hl,h⟩:=h.unsnoc
 have l:=aD h.len
 obtain ⟨u,e1,r⟩:=h.ent _ _ (af (l:=s.sl++θ.map some))
 rw [←l,af] at e1
 cases e1
 exact ⟨p,e,r⟩
theorem Rel.push (h:Rel G E σ τ H s θ) (r:∀p:Wr,Rep G p x v):Rel G E σ (τ++ [v]) H s (θ++ [.d x]):=by
 obtain ⟨p,e,hl,h⟩:=h
 exact .snoc (h.push (r p)) hl e
end
end Z

namespace Z
open PySem PySem.Spec PyProof.Rows L2 M
open Classical
def SD.cont (s:SD):Vl→Option D
 | .d (.cell i)=>s.st.get i
 | .d x=>some x
 | .own x=>some x
 | .loc k=>match s.sl[k]? with
  | some (some (.own x))=>some x
  | some (some (.d (.cell i)))=>s.st.get i
  | some (some (.d x))=>some x
  | _=>none
def Cont (G:Gc) (p:Wr) (x:D) (v:V):Prop:=(x.box=true∧∃b,v= .ref b∧Hc G p x b)∨(x.box=false∧Rep G p x v)
section
variable {G:Gc} {W:WX} {E:En} {σ:L2.St} {τ:List V} {H:Hp} {s:SD} {θ:List Vl} {v u:V} {a b:Vl} {x y:D} {p:Wr} {Q:VK} {m:Nat} {w:List (Option V)} {S:Sto} {k:Nat}
theorem Ho.box {a:Addr}:∀{x:D},Ho G p x a→x.box=true
 | .lst _,_=>rfl
 | .dct _,_=>rfl
 | .obj _ _,_=>rfl
 | .non,h=>h.elim | .bl _,h=>h.elim | .int _,h=>h.elim | .str _,h=>h.elim | .con _,h=>h.elim | .tup _,h=>h.elim | .exc _ _,h=>h.elim | .cell _,h=>h.elim
theorem Ho.cont {a:Addr} (h:Ho G p x a):Cont G p x (.ref a):= .inl ⟨h.box,a,rfl,h.c⟩
theorem Rep.cont (h:Rep G p x v):Cont G p x v:=by
 cases e:x.box with
 | true=>exact .inl ⟨e,h.c e⟩
 | false=>exact .inr ⟨e,h⟩
theorem Sm.cont_d (h:Sm G E m p w ŵ S) (r:Rep G p y v) (c:(match y with | .cell i=>S.get i | y=>some y)=some x):Cont G p x v:=by
 cases y with
 | cell i=>
  obtain ⟨_,rfl⟩:=r
  exact (h.cel i x c).2.cont
 | _=>cases c; exact r.cont
theorem Sm.cont {l:List (Option Vl)} (h:Sm G E m p w (s.sl++l) s.st) (hm:m=s.sl.length) (q:(s.sl++l)[k]? =some (some a)) (qv:w[k]? =some (some v)) (c:s.cont a=some x):Cont G p x v:=by
 obtain ⟨u,e1,r⟩:=h.ent k a q
 rw [qv] at e1; cases e1
 cases a with
 | d y=>exact h.cont_d r (by cases y<;> exact c)
 | own y=>
  cases c
  obtain ⟨b,rfl,r⟩:=r
  exact r.cont
 | loc j=>
  obtain ⟨_,hj,r⟩:=r
  unfold SD.cont at c
  dsimp only at c
  have hs:∀{e:Option Vl},s.sl[j]? =some e→(s.sl++l)[j]? =some e:=fun q=>by rw [List.getElem?_append_left (ae q)]; exact q
  cases q1:s.sl[j]? with
  | none=>rw [q1] at c; cases c
  | some o=>
   cases o with
   | none=>rw [q1] at c; cases c
   | some z=>
    obtain ⟨u,e2,r2⟩:=h.ent j z (hs q1)
    rw [r] at e2; cases e2
    rw [q1] at c
    cases z with
    | d y=>exact h.cont_d r2 (by cases y<;> exact c)
    | own y=>
     cases c
     obtain ⟨b,rfl,r2⟩:=r2
     exact r2.cont
    | loc i=>cases c
theorem Cont.lst {ds:List D} (h:Cont G p (.lst ds) v):∃b vs,v= .ref b∧p.H b=some (.lst vs)∧Reps G p ds vs:=by
 rcases h with ⟨_,b,e,vs,h,r⟩ | ⟨q,_⟩
 ·exact ⟨b,vs,e,h,r⟩
 ·cases q
theorem Cont.con {ds:List D} (h:Cont G p (.con ds) v):∃b vs,v= .ref b∧SqL G.K p.H b vs∧Reps G p ds vs:=by
 rcases h with ⟨_,b,e,vs,h,r⟩ | ⟨q,_⟩
 ·exact ⟨b,vs,e,h,r⟩
 ·cases q
theorem Cont.tup {ds:List D} (h:Cont G p (.tup ds) v):∃b vs,v= .ref b∧p.H b=some (.tup vs)∧Reps G p ds vs:=by
 rcases h with ⟨_,b,e,vs,h,r⟩ | ⟨q,_⟩
 ·exact ⟨b,vs,e,h,r⟩
 ·cases q
theorem Cont.dct {ds:List (Key×D)} (h:Cont G p (.dct ds) v):∃b vs,v= .ref b∧Rd p.H b (.dK vs)∧RepK G p ds vs:=by
 rcases h with ⟨_,b,e,vs,h,r⟩ | ⟨q,_⟩
 ·exact ⟨b,vs,e,h,r⟩
 ·cases q
theorem Cont.obj {c:Str} {ds:List (Str×D)} (h:Cont G p (.obj c ds) v):∃b C dx vs,v= .ref b∧G.mg c=some (.ref C)∧p.H b=some (.ins C dx vs)∧RepF G p ds vs:=by
 rcases h with ⟨_,b,e,C,dx,vs,m,h,r⟩ | ⟨q,_⟩
 ·exact ⟨b,C,dx,vs,e,m,h,r⟩
 ·cases q
theorem Cont.sc (h:Cont G p x v) (hx:x.box=false):Rep G p x v:=by
 rcases h with ⟨q,_⟩ | ⟨_,h⟩
 ·rw [hx] at q; cases q
 ·exact h
theorem Cont.int {i:Int} (h:Cont G p (.int i) v):v= .int i:=h.sc rfl
theorem Cont.str {i:Str} (h:Cont G p (.str i) v):v= .str i:=h.sc rfl
theorem Cont.bl {i:Bool} (h:Cont G p (.bl i) v):v= .bl i:=h.sc rfl
def jy (G:Gc) (r:V→Hp→VK→Prop) (f:Vl→SD→R Vl):Prop:=∀(E:En) (σ:L2.St) (τ:List V) (s:SD) (θ:List Vl) (p:Wr) (v:V) (a:Vl) (Q:VK),σ.length=s.sl.length→
 Sm G E s.sl.length p ((σ++τ.map some)++ [some v]) ((s.sl++θ.map some)++ [some a]) s.st→Wp (f a s) (fun b s' =>∀u H',Rel G E σ (τ++ [u]) H' s' (θ++ [b])→Q u H') (fun _ _ _=>False)→r v p.H Q
def dq (G:Gc) (r:R2) (f:Vl→Vl→SD→R Vl):Prop:=∀(E:En) (σ:L2.St) (τ:List V) (s:SD) (θ:List Vl) (p:Wr) (v u:V) (a b:Vl) (Q:VK),σ.length=s.sl.length→
 Sm G E s.sl.length p (((σ++τ.map some)++ [some v])++ [some u]) (((s.sl++θ.map some)++ [some a])++ [some b]) s.st→Wp (f a b s) (fun b s' =>∀u H',Rel G E σ (τ++ [u]) H' s' (θ++ [b])→Q u H') (fun _ _ _=>False)→r v u p.H Q
def z1 (f:Vl→SD→R Vl) (fa:SD→R Vl):SD→R Vl:=fun s=>(fa s).bind f
def z2 (f:Vl→Vl→SD→R Vl) (fa fb:SD→R Vl):SD→R Vl:=fun s=>(fa s).bind fun a s1=>(fb s1).bind fun b s2=>f a b s2
theorem RE.op1 {r:V→Hp→VK→Prop} {f:Vl→SD→R Vl} {ta:TE} {fa:SD→R Vl} (hp:jy G r f) (nx:∀a s c fs s',f a s≠ .ex c fs s') (ha:RE G W ta fa):RE G W (fun σ H Q=>ta σ H fun x H1=>r x H1 Q) (z1 f fa):=by
 intro E σ τ H s θ Q hN hR hw
 unfold z1 at hw
 rw [ab] at hw
 refine ha E σ τ H s θ _ hN hR (hw.mono (fun a s1 hw v H1 h1=>?_) fun _ _ _ h=>h)
 obtain ⟨p,rfl,hl,h⟩:=h1.unsnoc
 refine hp E σ τ s1 θ p v a Q hl h ?_
 cases e:f a s1 with
 | ok b s2=>rw [e] at hw; exact hw
 | ex c fs s2=>exact (nx _ _ _ _ _ e).elim
 | bad=>rw [e] at hw; exact hw
theorem Sm.pushLoc' {j:Nat} (h:Sm G E m p w ŵ S) (hm:m≤w.length) (hj:j<m) (hv:w[j]? =some (some v)):Sm G E m p (w++ [some v]) (ŵ++ [some (.loc j)]) S:=by
 refine {h with len:=by simp [h.len],ent:=fun k e q=>?_,own:=fun k y a q1 q2=>?_,sep:=fun j k y z a q1 q2 q3 q4=>?_}
 ·rcases aE q with q | ⟨rfl,qq⟩
  ·obtain ⟨u,e1,r1⟩:=h.ent k e q
   exact ⟨u,aU e1,r1.mono (.refl p) (fun _ _ _ _ _=>rfl) fun j v _ e=>aU e⟩
  ·obtain rfl:=Option.some.inj qq
   exact ⟨v,by rw [←h.len]; exact af,by rw [←h.len]; exact hm,hj,aU hv⟩
 ·rcases aE q1 with q | ⟨rfl,qq⟩
  ·have:k<w.length:=by rw [h.len]; exact ae q
   rw [List.getElem?_append_left this] at q2
   exact h.own k y a q q2
  ·cases qq
 ·rcases aE q1 with q1 | ⟨rfl,qq⟩
  ·rcases aE q2 with q2 | ⟨rfl,qq⟩
   ·rw [List.getElem?_append_left (by rw [h.len]; exact ae q1)] at q3
    rw [List.getElem?_append_left (by rw [h.len]; exact ae q2)] at q4
    exact h.sep j k y z a q1 q2 q3 q4
   ·cases qq
  ·cases qq
theorem Rel.unloc {k:Nat} (h:Rel G E σ (τ++ [v]) H s (θ++ [.loc k])):k<s.sl.length∧σ[k]? =some (some v):=by
 obtain ⟨p,e,hl,h⟩:=h.unsnoc
 obtain ⟨u,e1,r1,r2,r3⟩:=h.ent _ _ (af (l:=s.sl++θ.map some))
 rw [←aD h.len,af] at e1; cases e1
 refine ⟨r2, ?_⟩
 rw [List.append_assoc,List.getElem?_append_left (by omega)] at r3
 exact r3
theorem Rel.reloc {k:Nat} (h:Rel G E σ τ H s θ) (hk:σ[k]? =some (some v)):Rel G E σ (τ++ [v]) H s (θ++ [.loc k]):=by
 obtain ⟨p,e,hl,h⟩:=h
 have:=ae hk
 exact .snoc (h.pushLoc' (bE hl) (by omega) (by rw [List.getElem?_append_left this]; exact hk)) hl e
theorem Sm.pick (h:Sm G E m p w ŵ S) {w' :List (Option V)} {ŵ' :List (Option Vl)} (f:Nat→Nat) (hl:w'.length=ŵ'.length) (hf:∀(k:Nat) (e:Vl),ŵ'[k]? =some (some e)→ŵ[f k]? =some (some e)∧w'[k]? =w[f k]? ∧(m≤f k→m≤k)) (hi:∀(j k:Nat) (y z:D),ŵ'[j]? =some (some (.own y))→ŵ'[k]? =some (some (.own z))→f j=f k→j=k)
  (hm:∀(k:Nat),k<m→w'[k]? =w[k]?):Sm G E m p w' ŵ' S:=by
 refine {h with len:=hl,ent:=fun k e q=>?_,own:=fun k y a q1 q2=>?_,sep:=fun j k y z a q1 q2 q3 q4=>?_}
 ·obtain ⟨q1,q2,q3⟩:=hf k e q
  obtain ⟨v,e1,r⟩:=h.ent _ _ q1
  refine ⟨v,q2.trans e1, ?_⟩
  cases e with
  | d x=>exact r
  | own x=>exact r
  | loc j=>exact ⟨q3 r.1,r.2.1,(hm j r.2.1).trans r.2.2⟩
 ·obtain ⟨q3,q4,_⟩:=hf k _ q1
  exact h.own _ y a q3 (q4.symm.trans q2)
 ·obtain ⟨r1,r2,_⟩:=hf j _ q1
  obtain ⟨r3,r4,_⟩:=hf k _ q2
  exact hi j k y z q1 q2 (h.sep _ _ y z a r1 r3 (r2.symm.trans q3) (r4.symm.trans q4))
theorem Rel.swap (h:Rel G E σ (τ++ [u]++ [v]) H s (θ++ [b]++ [a])) (ht:τ.length=θ.length):Rel G E σ (τ++ [v]++ [u]) H s (θ++ [a]++ [b]):=by
 obtain ⟨p,e,hl,h⟩:=h
 refine ⟨p,e,hl, ?_⟩
 have e1:∀(x y:V),σ++(τ++ [x]++ [y]).map some=(σ++τ.map some)++ [some x,some y]:=fun x y=>by simp
 have e2:∀(x y:Vl),s.sl++(θ++ [x]++ [y]).map some=(s.sl++θ.map some)++ [some x,some y]:=fun x y=>by simp
 rw [e1,e2] at h ⊢
 have l:(σ++τ.map some).length=(s.sl++θ.map some).length:=by simp [hl,ht]
 generalize (σ++τ.map some)=A at*
 have hm:s.sl.length≤(s.sl++θ.map some).length:=by simp
 generalize (s.sl++θ.map some)=B at*
 have fl:∀{α:Type} {A:List α} {x y z w:α} {k:Nat},k<A.length→(A++ [x,y])[k]? =(A++ [z,w])[k]? :=fun {α A x y z w k} hk=>by rw [List.getElem?_append_left hk,List.getElem?_append_left hk]
 have f0:∀{α:Type} {A:List α} {x y:α},(A++ [x,y])[A.length]? =some x:=fun {α A x y}=>by rw [List.getElem?_append_right (Nat.le_refl _)]; simp
 have f1:∀{α:Type} {A:List α} {x y:α},(A++ [x,y])[A.length+1]? =some y:=fun {α A x y}=>by rw [List.getElem?_append_right (Nat.le_succ _)]; simp
 refine h.pick (fun k=>if k=B.length then B.length+1 else if k=B.length+1 then B.length else k) (by simp [l]) (fun k e q=>?_) (fun j k y z h1 h2 e=>?_) fun k hk=>fl (by omega)
 ·by_cases c:k<B.length
  ·rw [if_neg (by omega),if_neg (by omega)]
   exact ⟨(fl c).trans q,fl (by omega),id⟩
  ·by_cases c2:k=B.length
   ·subst c2
    rw [if_pos rfl]
    rw [f0] at q
    exact ⟨f1.trans q,by rw [←l,f0,f1],fun _=>hm⟩
   ·have:k=B.length+1:=by have:=ae q; simp at this; omega
    subst this
    rw [if_neg (by omega),if_pos rfl]
    rw [f1] at q
    exact ⟨f0.trans q,by rw [←l,f0,f1],fun _=>by omega⟩
 ·split at e<;> split at e<;> (try split at e)<;> (try split at e)<;> omega
theorem RE.two {ta tb:TE} {fa fb:SD→R Vl} {α:Type} {f:Vl→Vl→SD→R α} {P:α→SD→Prop} {Q:V→V→Hp→Prop} (ha:RE G W ta fa) (hb:RE G W tb fb) (hN:Nl θ) (hR:Rel G E σ τ H s θ)
  (hw:Wp ((fa s).bind fun a s1=>(fb s1).bind fun b s2=>f a b s2) P (XP G W E τ θ))
  (k:∀(a b:Vl) (s2:SD) (v u:V) (H2:Hp),Rel G E σ (τ++ [v]++ [u]) H2 s2 (θ++ [a]++ [b])→Wp (f a b s2) P (XP G W E τ θ)→Q v u H2):ta σ H fun x H1=>tb σ H1 fun y H2=>Q x y H2:=by
 rw [ab] at hw
 refine ha E σ τ H s θ _ hN hR (hw.mono (fun a s1 hw v H1 h1=>?_) fun _ _ _ h=>h)
 rw [ab] at hw
 by_cases c:∃j,a= .loc j
 ·obtain ⟨j,rfl⟩:=c
  obtain ⟨c1,c2⟩:=h1.unloc
  refine hb E σ τ H1 s1 θ _ hN h1.pop (hw.mono (fun b s2 hw u H2 h2=>k _ _ _ _ _ _ ?_ hw) fun _ _ _ h=>h)
  exact (h2.reloc c2).swap hR.tlen
 ·exact hb E σ _ H1 s1 _ _ (hN.snoc fun j q=>c ⟨j,q⟩) h1 (hw.mono (fun b s2 hw u H2 h2=>k _ _ _ _ _ _ h2 hw) fun _ _ _ h=>h.up)
theorem RE.op2 {r:R2} {f:Vl→Vl→SD→R Vl} {ta tb:TE} {fa fb:SD→R Vl} (hp:dq G r f) (nx:∀a b s c fs s',f a b s≠ .ex c fs s') (ha:RE G W ta fa) (hb:RE G W tb fb):RE G W (tOp r ta tb) (z2 f fa fb):=by
 intro E σ τ H s θ Q hN hR hw
 refine RE.two ha hb hN hR hw fun a b s2 v u H2 h2 hw=>?_
 obtain ⟨p,rfl,hl,h⟩:=h2.unsnoc
 rw [List.map_append,List.map_append,←List.append_assoc,←List.append_assoc] at h
 refine hp E σ τ s2 θ p v u a b Q hl h ?_
 cases e:f a b s2 with
 | ok b s2=>rw [e] at hw; exact hw
 | ex c fs s2=>exact (nx _ _ _ _ _ _ e).elim
 | bad=>rw [e] at hw; exact hw
theorem bf (h:Sm G E s.sl.length p (σ++τ.map some) (s.sl++θ.map some) s.st) (hl:σ.length=s.sl.length) (hq:∀u H',Rel G E σ (τ++ [u]) H' s (θ++ [.d x])→Q u H') (r:Rep G p x v):Q v p.H:=
 hq v _ (.snoc (h.push r) hl rfl)
theorem dj {ds:List D} {vs:List V} {a:Addr} (h:Sm G E s.sl.length p (σ++τ.map some) (s.sl++θ.map some) s.st) (hl:σ.length=s.sl.length) (hq:∀u H',Rel G E σ (τ++ [u]) H' s (θ++ [.own (.lst ds)])→Q u H') (hn:p.H a=none) (r:Reps G p ds vs):Q (.ref a) (upd p.H a (.lst vs)):=
 hq _ _ (.snoc (h.allocOwn hn ⟨vs,upd_same,r.mono (jh hn)⟩) hl rfl)
theorem uI {ds:List (Key×D)} {vs:List (Key×V)} {a:Addr} (h:Sm G E s.sl.length p (σ++τ.map some) (s.sl++θ.map some) s.st) (hl:σ.length=s.sl.length) (hq:∀u H',Rel G E σ (τ++ [u]) H' s (θ++ [.own (.dct ds)])→Q u H') (hn:p.H a=none) (r:RepK G p ds vs):Q (.ref a) (upd p.H a (.dK vs)):=
 hq _ _ (.snoc (h.allocOwn hn ⟨vs,upd_same,r.mono (jh hn)⟩) hl rfl)
theorem uH {ds:List D} {vs:List V} {a:Addr} (h:Sm G E s.sl.length p (σ++τ.map some) (s.sl++θ.map some) s.st) (hl:σ.length=s.sl.length) (hq:∀u H',Rel G E σ (τ++ [u]) H' s (θ++ [.d (.tup ds)])→Q u H') (hn:p.H a=none) (r:Reps G p ds vs):Q (.ref a) (upd p.H a (.tup vs)):=
 hq _ _ (.snoc ((h.alloc hn).push (x:= .tup ds) ⟨a,vs,rfl,⟨(h.fresh hn).2,upd_same⟩,r.mono (eF hn)⟩) hl rfl)
theorem cT (hl:σ.length=s.sl.length) (h:Sm G E s.sl.length p ((σ++τ.map some)++ [some v]) ((s.sl++θ.map some)++ [some a]) s.st):Sm G E s.sl.length p (σ++τ.map some) (s.sl++θ.map some) s.st∧(∀x,s.cont a=some x→Cont G p x v)∧Rv G p s.sl.length ((σ++τ.map some)++ [some v]) (s.sl++θ.map some).length a v:=by
 have l:=aD h.len
 refine ⟨h.pop1 (bE hl),fun x c=>?_, ?_⟩
 ·rw [List.append_assoc (as:=s.sl)] at h
  exact h.cont rfl (k:=(s.sl++θ.map some).length) (by rw [←List.append_assoc]; exact af) (by rw [←l]; exact af) c
 ·obtain ⟨u,e1,r⟩:=h.ent _ _ af
  rw [←l,af] at e1; cases e1
  exact r
theorem eZ (hl:σ.length=s.sl.length) (h:Sm G E s.sl.length p (((σ++τ.map some)++ [some v])++ [some u]) (((s.sl++θ.map some)++ [some a])++ [some b]) s.st):
  Sm G E s.sl.length p (σ++τ.map some) (s.sl++θ.map some) s.st∧(∀x,s.cont a=some x→Cont G p x v)∧(∀x,s.cont b=some x→Cont G p x u):=by
 have h1:=h.pop1 (by simp; omega)
 obtain ⟨h2,c1,_⟩:=cT hl h1
 refine ⟨h2,c1,fun x c=>?_⟩
 have l:=aD h.len
 rw [List.append_assoc (as:=s.sl),List.append_assoc (as:=s.sl)] at h
 exact h.cont rfl (k:=((s.sl++θ.map some)++ [some a]).length) (by rw [←List.append_assoc (as:=s.sl),←List.append_assoc (as:=s.sl)]; exact af) (by rw [←l]; exact af) c
def zC (x:D):SD→R Vl:=fun s=> .ok (.d x) s
def aa (i:Nat):SD→R Vl:=fun s=>match s.sl[i]? with
 | some (some (.own _))=> .ok (.loc i) s
 | some (some (.d x))=> .ok (.d x) s
 | _=> .bad
theorem RE.c (hx:∀p:Wr,Rep G p x v):RE G W (tC v) (zC x):=fun _ _ _ _ _ _ _ _ hR hw=>hw _ _ (hR.push hx)
theorem aaa {i:Nat}:RE G W (tVar i) (aa i):=by
 intro E σ τ H s θ Q hN hR hw
 obtain ⟨p,rfl,hl,h⟩:=hR
 unfold aa at hw
 have hs:∀{e:Option Vl},s.sl[i]? =some e→(s.sl++θ.map some)[i]? =some e:=fun q=>by rw [List.getElem?_append_left (ae q)]; exact q
 have go:∀{e:Vl},s.sl[i]? =some (some e)→∃v,σ[i]? =some (some v)∧(σ++τ.map some)[i]? =some (some v)∧Rv G p s.sl.length (σ++τ.map some) i e v:=fun {e} q=>by
  obtain ⟨v,e1,r⟩:=h.ent i e (hs q)
  refine ⟨v, ?_,e1,r⟩
  rw [List.getElem?_append_left (by rw [hl]; exact ae q)] at e1
  exact e1
 cases q:s.sl[i]? with
 | none=>rw [q] at hw; exact hw.elim
 | some o=>
  rw [q] at hw
  cases o with
  | none=>exact hw.elim
  | some e=>
   obtain ⟨v,e1,e2,r⟩:=go q
   cases e with
   | d x=>exact ⟨v,e1,hw v _ (.snoc (h.push r) hl rfl)⟩
   | own x=>exact ⟨v,e1,hw v _ (.snoc (h.pushLoc (by simp; omega) (ae q) (hs q) e2) hl rfl)⟩
   | loc j=>exact hw.elim
end
def SD.fix (s:SD):Vl→R D
 | .d x=> .ok x s
 | .own x=> .ok x s
 | .loc k=>match s.sl[k]? with
  | some (some (.own x))=> .ok x {s with sl:=s.sl.set k (some (.d x))}
  | some (some (.d x))=> .ok x s
  | _=> .bad
def SD.celled (s:SD):Vl→R D
 | .d (.cell i)=> .ok (.cell i) s
 | .own x=> .ok (.cell s.st.nx) {s with st:=s.st.new x}
 | .loc k=>match s.sl[k]? with
  | some (some (.own x))=> .ok (.cell s.st.nx) ⟨s.sl.set k (some (.d (.cell s.st.nx))),s.st.new x⟩
  | some (some (.d (.cell i)))=> .ok (.cell i) s
  | _=> .bad
 | _=> .bad
def SD.frz (s:SD):Vl→R D
 | .d (.cell i)=>match s.st.get i with
  | some x=> .ok x {s with st:=s.st.del i}
  | none=> .bad
 | _=> .bad
def xa (g:SD→Vl→R D) (fa:SD→R Vl):SD→R Vl:=fun s=>(fa s).bind fun a s1=>(g s1 a).bind fun x s2=> .ok (.d x) s2
abbrev aR:=xa SD.fix
abbrev ie:=xa SD.celled
abbrev Ay:=xa SD.frz
section
variable {G:Gc} {W:WX} {E:En} {σ:L2.St} {τ:List V} {H:Hp} {s s' :SD} {θ:List Vl} {v u:V} {a b:Vl} {x y:D} {p:Wr} {Q:VK} {m:Nat} {w:List (Option V)} {S:Sto} {k:Nat} {l:List (Option Vl)}
theorem gR {α:Type} {l:List α} {x y:α}:(l++ [x]).set l.length y=l++ [y]:=by
 rw [List.set_append_right _ _ (Nat.le_refl _)]
 simp
theorem cm {α:Type} {l r:List α} {x:α} {k:Nat} (h:k<l.length):(l++r).set k x=l.set k x++r:=List.set_append_left _ _ h
theorem Sm.slot {e:Vl} (h:Sm G E m p w (s.sl++l) S) (q:s.sl[k]? =some (some e)):(s.sl++l)[k]? =some (some e)∧∃v,w[k]? =some (some v)∧Rv G p m w k e v:=by
 have hs:(s.sl++l)[k]? =some (some e):=by rw [List.getElem?_append_left (ae q)]; exact q
 exact ⟨hs,h.ent k e hs⟩
def Fits (G:Gc) (g:SD→Vl→R D):Prop:=∀(E:En) (s:SD) (a:Vl) (x:D) (s' :SD) (p:Wr) (w:List (Option V)) (l:List (Option Vl)) (v:V),g s a= .ok x s'→
 Sm G E s.sl.length p (w++ [some v]) ((s.sl++l)++ [some a]) s.st→s.sl.length≤w.length→
 ∃p' :Wr,p'.H=p.H∧s'.sl.length=s.sl.length∧Sm G E s'.sl.length p' (w++ [some v]) ((s'.sl++l)++ [some (.d x)]) s'.st
theorem zj:Fits G SD.fix:=by
 intro E s a x s' p w l v c h hm
 have ll:=aD h.len
 cases a with
 | d y=>
  cases c
  exact ⟨p,rfl,rfl,h⟩
 | own y=>
  cases c
  obtain ⟨u,e1,a,rfl,r⟩:=h.ent _ _ af
  have q:=h.settle (k:=(s.sl++l).length) (x:=x) (a:=a) af e1
  rw [gR] at q
  exact ⟨_,(by rfl),(by rfl),q⟩
 | loc k=>
  unfold SD.fix at c
  dsimp only at c
  obtain ⟨u,e1,r0,r1,r2⟩:=h.ent _ _ (af (l:=s.sl++l))
  rw [←ll,af] at e1
  cases e1
  cases q1:s.sl[k]? with
  | none=>rw [q1] at c; cases c
  | some o=>
   cases o with
   | none=>rw [q1] at c; cases c
   | some z=>
    rw [q1] at c
    rw [List.append_assoc] at h
    obtain ⟨hs,u,e2,r⟩:=h.slot q1
    rw [r2] at e2; cases e2
    cases z with
    | d y=>
     cases c
     rw [←List.append_assoc] at h
     exact ⟨p,rfl,rfl,(h.pop1 hm).push r⟩
    | own y=>
     cases c
     obtain ⟨a,rfl,r⟩:=r
     have q:=h.settle hs r2
     rw [cm (ae q1),←List.append_assoc] at q
     obtain ⟨u,e3,r3⟩:=q.ent k (.d _) (by rw [List.append_assoc,List.getElem?_append_left (by simpa using ae q1)]; exact tf (ae q1))
     rw [r2] at e3
     cases e3
     have q' :=(q.pop1 hm).push r3
     refine ⟨{p with O:=fun b=>p.O b∧b≠a},rfl,List.length_set, ?_⟩
     show Sm G E (s.sl.set _ _).length _ _ _ _
     rw [List.length_set]
     exact q'
    | loc j=>cases c
theorem zX:Fits G SD.celled:=by
 intro E s a x s' p w l v c h hm
 have ll:=aD h.len
 cases a with
 | d y=>
  cases y with
  | cell i=>cases c; exact ⟨p,rfl,rfl,h⟩
  | _=>cases c
 | own y=>
  cases c
  obtain ⟨u,e1,a,rfl,r⟩:=h.ent _ _ af
  have q:=h.celled (k:=(s.sl++l).length) (x:=y) (a:=a) af e1
  rw [gR] at q
  exact ⟨_,(by rfl),(by rfl),q⟩
 | loc k=>
  unfold SD.celled at c
  dsimp only at c
  obtain ⟨u,e1,r0,r1,r2⟩:=h.ent _ _ (af (l:=s.sl++l))
  rw [←ll,af] at e1
  cases e1
  cases q1:s.sl[k]? with
  | none=>rw [q1] at c; cases c
  | some o=>
   cases o with
   | none=>rw [q1] at c; cases c
   | some z=>
    rw [q1] at c
    rw [List.append_assoc] at h
    obtain ⟨hs,u,e2,r⟩:=h.slot q1
    rw [r2] at e2; cases e2
    cases z with
    | d y=>
     cases y with
     | cell i=>
      cases c
      rw [←List.append_assoc] at h
      exact ⟨p,rfl,rfl,(h.pop1 hm).push r⟩
     | _=>cases c
    | own y=>
     cases c
     obtain ⟨a,rfl,r⟩:=r
     have q:=h.celled hs r2
     rw [cm (ae q1),←List.append_assoc] at q
     obtain ⟨u,e3,r3⟩:=q.ent k (.d (.cell s.st.nx)) (by rw [List.append_assoc,List.getElem?_append_left (by simpa using ae q1)]; exact tf (ae q1))
     rw [r2] at e3
     cases e3
     have q' :=(q.pop1 hm).push r3
     refine ⟨{p with γ:=fun i=>if i=s.st.nx then a else p.γ i,n:=s.st.nx+1},rfl,List.length_set, ?_⟩
     show Sm G E (s.sl.set _ _).length _ _ _ _
     rw [List.length_set]
     exact q'
    | loc j=>cases c
theorem frz_ok:Fits G SD.frz:=by
 intro E s a x s' p w l v c h hm
 cases a with
 | d y=>
  cases y with
  | cell i=>
   unfold SD.frz at c
   dsimp only at c
   cases q1:s.st.get i with
   | none=>rw [q1] at c; cases c
   | some z=>
    rw [q1] at c
    cases c
    have q:=h.freeze (k:=(s.sl++l).length) q1 af
    rw [gR] at q
    exact ⟨_,(by rfl),(by rfl),q⟩
  | _=>cases c
 | own y=>cases c
 | loc k=>cases c
theorem RE.via {g:SD→Vl→R D} {ta:TE} {fa:SD→R Vl} (hg:Fits G g) (nx:∀s a c fs s',g s a≠ .ex c fs s') (ha:RE G W ta fa):RE G W ta (xa g fa):=by
 intro E σ τ H s θ Q hN hR hw
 unfold xa at hw
 rw [ab] at hw
 refine ha E σ τ H s θ _ hN hR (hw.mono (fun a s1 hw v H1 h1=>?_) fun _ _ _ h=>h)
 rw [ab] at hw
 obtain ⟨p,rfl,hl,h⟩:=h1.unsnoc
 cases e:g s1 a with
 | bad=>rw [e] at hw; exact hw.elim
 | ex c fs s2=>exact (nx _ _ _ _ _ e).elim
 | ok x s2=>
  rw [e] at hw
  obtain ⟨p',hp,hs,h'⟩:=hg E s1 a x s2 p _ _ v e h (bE hl)
  exact hw v _ (hp ▸ .snoc h' (hl.trans hs.symm) rfl)
theorem vV:∀(s:SD) (a:Vl) c fs s',s.fix a≠ .ex c fs s' :=by
 intro s a c fs s'
 cases a with
 | d x=>intro q; cases q
 | own x=>intro q; cases q
 | loc k=>
  unfold SD.fix
  dsimp only
  split<;> intro q<;> cases q
theorem zY:∀(s:SD) (a:Vl) c fs s',s.celled a≠ .ex c fs s' :=by
 intro s a c fs s'
 cases a with
 | d x=>cases x<;> intro q<;> cases q
 | own x=>intro q; cases q
 | loc k=>
  unfold SD.celled
  dsimp only
  split<;> intro q<;> cases q
theorem frz_nx:∀(s:SD) (a:Vl) c fs s',s.frz a≠ .ex c fs s' :=by
 intro s a c fs s'
 unfold SD.frz
 split
 ·split<;> intro q<;> cases q
 ·intro q; cases q
theorem RE.fix {ta:TE} {fa:SD→R Vl} (ha:RE G W ta fa):RE G W ta (aR fa):=RE.via zj vV ha
theorem RE.cell {ta:TE} {fa:SD→R Vl} (ha:RE G W ta fa):RE G W ta (ie fa):=RE.via zX zY ha
theorem RE.frz {ta:TE} {fa:SD→R Vl} (ha:RE G W ta fa):RE G W ta (Ay fa):=RE.via frz_ok frz_nx ha
def zA0:SD→R (List D):=fun s=> .ok [] s
def zA (fa:SD→R Vl) (fr:SD→R (List D)):SD→R (List D):=fun s=>(fa s).bind fun a s1=>(s1.fix a).bind fun x s2=>(fr s2).bind fun xs s3=> .ok (x::xs) s3
theorem RA.nil:RA G W tNil zA0:=by
 intro E σ τ H s θ Q hN hR hw
 exact hw [] H (by simpa using hR)
theorem RA.cons {ta:TE} {t:TA} {fa:SD→R Vl} {fr:SD→R (List D)} (ha:RE G W ta fa) (hr:RA G W t fr):RA G W (tCons ta t) (zA fa fr):=by
 intro E σ τ H s θ Q hN hR hw
 refine RE.fix ha E σ τ H s θ _ hN hR ?_
 unfold zA at hw
 rw [ab] at hw
 unfold aR xa
 rw [ab]
 refine hw.mono (fun a s1 hw=>?_) fun _ _ _ h=>h
 rw [ab] at hw ⊢
 refine hw.mono (fun x s2 hw=>?_) fun _ _ _ h=>h
 rw [ab] at hw
 intro v H1 h1
 refine hr E σ _ H1 s2 _ _ hN.d h1 (hw.mono (fun xs s3 hw vs H2 h2=>?_) fun _ _ _ h=>h.up)
 exact hw (v::vs) H2 (by simpa using h2)
theorem Rel.args {vs:List V} {ds:List D} (ht:τ.length=θ.length) (h:Rel G E σ (τ++vs) H s (θ++ds.map .d)):∃p:Wr,p.H=H∧σ.length=s.sl.length∧Sm G E s.sl.length p (σ++τ.map some) (s.sl++θ.map some) s.st∧Reps G p ds vs:=by
 obtain ⟨p,e,hl,h⟩:=h
 rw [List.map_append,List.map_append,←List.append_assoc,←List.append_assoc] at h
 have l:(σ++τ.map some).length=(s.sl++θ.map some).length:=by simp [hl,ht]
 refine ⟨p,e,hl,h.pop l (bE hl), ?_⟩
 have len:=h.len
 refine .of (by simp at len; omega) fun i d v e1 e2=>?_
 obtain ⟨u,e3,r⟩:=h.ent ((s.sl++θ.map some).length+i) (.d d) (by rw [List.getElem?_append_right (by omega)]; simp [e1])
 rw [←l,List.getElem?_append_right (by omega)] at e3
 simp [e2] at e3
 subst e3
 exact r
def fR (fr:SD→R (List D)):SD→R Vl:=fun s=>(fr s).bind fun xs s1=> .ok (.d (.tup xs)) s1
def fS (fr:SD→R (List D)):SD→R Vl:=fun s=>(fr s).bind fun xs s1=> .ok (.own (.lst xs)) s1
def Many (fr:SD→R (List D)) (n:Nat):Prop:=∀s xs s',fr s= .ok xs s'→xs.length=n
theorem Many.nil:Many zA0 0:=fun s xs s' e=>by cases e; rfl
theorem Many.cons {fa:SD→R Vl} {fr:SD→R (List D)} {n:Nat} (h:Many fr n):Many (zA fa fr) (n+1):=fun s xs s' e=>by
 unfold zA at e
 cases q1:fa s with
 | bad=>rw [q1] at e; cases e
 | ex c fs s1=>rw [q1] at e; cases e
 | ok a s1=>
  rw [q1] at e
  have e:((s1.fix a).bind fun x s2=>(fr s2).bind fun xs s3=> .ok (x::xs) s3)= .ok xs s' :=e
  cases q2:s1.fix a with
  | bad=>rw [q2] at e; cases e
  | ex c fs s1=>rw [q2] at e; cases e
  | ok x s2=>
   rw [q2] at e
   have e:((fr s2).bind fun xs s3=> .ok (x::xs) s3)= .ok xs s' :=e
   cases q3:fr s2 with
   | bad=>rw [q3] at e; cases e
   | ex c fs s1=>rw [q3] at e; cases e
   | ok ys s3=>
    rw [q3] at e
    cases e
    simp [h _ _ _ q3]
theorem Wp.eq {α:Type} {m:R α} {Q:α→SD→Prop} {E:XQ} (h:Wp m Q E):Wp m (fun a s=>m= .ok a s∧Q a s) E:=by
 cases m with
 | ok a s=>exact ⟨rfl,h⟩
 | ex c fs s=>exact h
 | bad=>exact h
theorem RE.tup {t:TA} {fr:SD→R (List D)} {n:Nat} (hr:RA G W t fr) (hm:Many fr n) (hn:n≤sizeLine):RE G W (tTup t) (fR fr):=by
 intro E σ τ H s θ Q hN hR hw
 unfold fR at hw
 rw [ab] at hw
 refine hr E σ τ H s θ _ hN hR (hw.eq.mono (fun xs s1 ⟨e,hw⟩ vs H1 h1=>?_) fun _ _ _ h=>h)
 obtain ⟨p,rfl,hl,h,r⟩:=h1.args hR.tlen
 exact ⟨by rw [r.len,hm _ _ _ e]; exact hn,fun a hn=>uH h hl hw hn r⟩
theorem RE.lst {t:TA} {fr:SD→R (List D)} {n:Nat} (hr:RA G W t fr) (hm:Many fr n) (hn:n≤sizeLine):RE G W (tLst t) (fS fr):=by
 intro E σ τ H s θ Q hN hR hw
 unfold fS at hw
 rw [ab] at hw
 refine hr E σ τ H s θ _ hN hR (hw.eq.mono (fun xs s1 ⟨e,hw⟩ vs H1 h1=>?_) fun _ _ _ h=>h)
 obtain ⟨p,rfl,hl,h,r⟩:=h1.args hR.tlen
 exact ⟨by rw [r.len,hm _ _ _ e]; exact hn,fun a hn=>dj h hl hw hn r⟩
def mU:SD→R Vl:=fun s=> .ok (.own (.dct [])) s
theorem aan:RE G W tDNewK mU:=by
 intro E σ τ H s θ Q hN hR hw
 obtain ⟨p,rfl,hl,h⟩:=hR
 exact fun a hn=>uI h hl hw hn rfl
def oB:Vl→SD→R Bool
 | .d (.bl b),s=> .ok b s
 | _,_=> .bad
def zB (fa:SD→R Vl):SD→R Bool:=fun s=>(fa s).bind oB
theorem RT.val {ta:TE} {fa:SD→R Vl} (ha:RE G W ta fa):RT G W (fun σ H Q=>ta σ H fun x H' =>∃k,x= .bl k∧Q k H') (zB fa):=by
 intro E σ τ H s θ Q hN hR hw
 unfold zB at hw
 rw [ab] at hw
 refine ha E σ τ H s θ _ hN hR (hw.mono (fun a s1 hw v H1 h1=>?_) fun _ _ _ h=>h)
 cases a with
 | d x=>
  cases x with
  | bl b=>
   obtain ⟨p,_,r⟩:=h1.last
   exact ⟨b,r,hw _ h1.pop⟩
  | _=>exact hw.elim
 | own x=>exact hw.elim
 | loc k=>exact hw.elim
noncomputable def oT (a:Vl) (s:SD):R Bool:=match s.cont a with
 | some .non=> .ok false s
 | some (.bl b)=> .ok b s
 | some (.int i)=> .ok (i != 0) s
 | some (.str z)=>if z.length≤sizeLine then .ok ((z.length:Int) != 0) s else .bad
 | some (.lst xs)=> .ok (!xs.isEmpty) s
 | some (.con xs)=> .ok (!xs.isEmpty) s
 | some (.tup xs)=> .ok (!xs.isEmpty) s
 | _=> .bad
noncomputable def zT (fa:SD→R Vl):SD→R Bool:=fun s=>(fa s).bind oT
theorem Reps.empty {ds:List D} {vs:List V} (h:Reps G p ds vs):vs.isEmpty=ds.isEmpty:=by
 cases ds with
 | nil=>rw [show vs= [] from h]; rfl
 | cons d r=>obtain ⟨v,r,rfl,_⟩:=h; rfl
def mV (f g:SD→R Bool):SD→R Bool:=fun s=>(f s).bind fun b s1=>if b=true then g s1 else .ok false s1
def zOr (f g:SD→R Bool):SD→R Bool:=fun s=>(f s).bind fun b s1=>if b=true then .ok true s1 else g s1
def cK (f:SD→R Bool):SD→R Bool:=fun s=>(f s).bind fun b s1=> .ok (!b) s1
theorem aam {t u:TT} {f g:SD→R Bool} (ha:RT G W t f) (hb:RT G W u g):RT G W (tAnd t u) (mV f g):=by
 intro E σ τ H s θ Q hN hR hw
 unfold mV at hw
 rw [ab] at hw
 refine ha E σ τ H s θ _ hN hR (hw.mono (fun b s1 hw H1 h1=>?_) fun _ _ _ h=>h)
 split
 ·rename_i c; rw [if_pos c] at hw; exact hb E σ τ H1 s1 θ _ hN h1 hw
 ·rename_i c; rw [if_neg c] at hw; exact hw _ h1
theorem RT.or {t u:TT} {f g:SD→R Bool} (ha:RT G W t f) (hb:RT G W u g):RT G W (tOr t u) (zOr f g):=by
 intro E σ τ H s θ Q hN hR hw
 unfold zOr at hw
 rw [ab] at hw
 refine ha E σ τ H s θ _ hN hR (hw.mono (fun b s1 hw H1 h1=>?_) fun _ _ _ h=>h)
 split
 ·rename_i c; rw [if_pos c] at hw; exact hw _ h1
 ·rename_i c; rw [if_neg c] at hw; exact hb E σ τ H1 s1 θ _ hN h1 hw
theorem aag {t:TT} {f:SD→R Bool} (ha:RT G W t f):RT G W (tNot t) (cK f):=by
 intro E σ τ H s θ Q hN hR hw
 unfold cK at hw
 rw [ab] at hw
 exact ha E σ τ H s θ _ hN hR (hw.mono (fun b s1 hw H1 h1=>hw _ h1) fun _ _ _ h=>h)
def fV (fa fb:SD→R Vl):SD→R Vl:=fun s=>(zB fa s).bind fun b s1=>if b=true then fb s1 else .ok (.d (.bl false)) s1
def zOrV (fa fb:SD→R Vl):SD→R Vl:=fun s=>(zB fa s).bind fun b s1=>if b=true then .ok (.d (.bl true)) s1 else fb s1
def qL (fa:SD→R Vl):SD→R Vl:=fun s=>(zB fa s).bind fun b s1=> .ok (.d (.bl (!b))) s1
def zIf (c:SD→R Bool) (fa fb:SD→R Vl):SD→R Vl:=fun s=>(c s).bind fun b s1=>if b=true then fa s1 else fb s1
theorem RE.andV {ta tb:TE} {fa fb:SD→R Vl} (ha:RE G W ta fa) (hb:RE G W tb fb):RE G W (tAndV ta tb) (fV fa fb):=by
 intro E σ τ H s θ Q hN hR hw
 unfold fV at hw
 rw [ab] at hw
 refine RT.val ha E σ τ H s θ _ hN hR (hw.mono (fun b s1 hw H1 h1=>?_) fun _ _ _ h=>h)
 split
 ·rename_i c; rw [if_pos c] at hw; exact hb E σ τ H1 s1 θ _ hN h1 hw
 ·rename_i c; rw [if_neg c] at hw; exact hw _ _ (h1.push fun _=>rfl)
theorem RE.orV {ta tb:TE} {fa fb:SD→R Vl} (ha:RE G W ta fa) (hb:RE G W tb fb):RE G W (tOrV ta tb) (zOrV fa fb):=by
 intro E σ τ H s θ Q hN hR hw
 unfold zOrV at hw
 rw [ab] at hw
 refine RT.val ha E σ τ H s θ _ hN hR (hw.mono (fun b s1 hw H1 h1=>?_) fun _ _ _ h=>h)
 split
 ·rename_i c; rw [if_pos c] at hw; exact hw _ _ (h1.push fun _=>rfl)
 ·rename_i c; rw [if_neg c] at hw; exact hb E σ τ H1 s1 θ _ hN h1 hw
theorem aap {ta:TE} {fa:SD→R Vl} (ha:RE G W ta fa):RE G W (tNotV ta) (qL fa):=by
 intro E σ τ H s θ Q hN hR hw
 unfold qL at hw
 rw [ab] at hw
 exact RT.val ha E σ τ H s θ _ hN hR (hw.mono (fun b s1 hw H1 h1=>hw _ _ (h1.push fun _=>rfl)) fun _ _ _ h=>h)
theorem RE.if' {c:TT} {ta tb:TE} {fc:SD→R Bool} {fa fb:SD→R Vl} (hc:RT G W c fc) (ha:RE G W ta fa) (hb:RE G W tb fb):RE G W (tIf c ta tb) (zIf fc fa fb):=by
 intro E σ τ H s θ Q hN hR hw
 unfold zIf at hw
 rw [ab] at hw
 refine hc E σ τ H s θ _ hN hR (hw.mono (fun b s1 hw H1 h1=>?_) fun _ _ _ h=>h)
 split
 ·rename_i c; rw [if_pos c] at hw; exact ha E σ τ H1 s1 θ _ hN h1 hw
 ·rename_i c; rw [if_neg c] at hw; exact hb E σ τ H1 s1 θ _ hN h1 hw
end
section
variable {X:Cx}
theorem OpR.or {f:Value→Value→Sem Value} {r r' :R2} (h:OpR X f r) (h' :OpR X f r'):OpR X f (fun x y H Q=>r x y H Q∨r' x y H Q):=by
 intro pins s σ H x y v u Q I rx ry q
 rcases q with q | q
 ·exact h pins s σ H x y v u Q I rx ry q
 ·exact h' pins s σ H x y v u Q I rx ry q
theorem CallR.or {f:Value} {r r' :List V→Hp→VK→Prop} (h:CallR X f r) (h' :CallR X f r'):CallR X f (fun xs H Q=>r xs H Q∨r' xs H Q):=by
 intro pins s σ H xs us Q I rv q
 rcases q with q | q
 ·exact h pins s σ H xs us Q I rv q
 ·exact h' pins s σ H xs us Q I rv q
def rDIn (neg:Bool):R2:=fun y x H Q=>∃a o,x= .ref a∧DGet H a y o∧Q (.bl (if neg then !o.isSome else o.isSome)) H
theorem op_inD (hu:X.A.units+1<cLine):OpR X (compareOp .In) (rDIn false):=by
 intro pins s σ H y x u v Q I ry rx q
 obtain ⟨a,o,rfl,g,q⟩:=q
 obtain rfl:v=Value.ref a:=rx
 exact d_in hu I g ry fun s3 I3=>⟨.bl o.isSome,H,I3,rfl,q⟩
theorem yz (hu:X.A.units+1<cLine):OpR X (compareOp .NotIn) (rDIn true):=by
 intro pins s σ H y x u v Q I ry rx q
 obtain ⟨a,o,rfl,g,q⟩:=q
 obtain rfl:v=Value.ref a:=rx
 exact d_notIn hu I g ry fun s3 I3=>⟨.bl (!o.isSome),H,I3,rfl,q⟩
def rIxD:R2:=fun x y H Q=>∃a v,x= .ref a∧DGet H a y (some v)∧Q v H
theorem ix_dict (hu:X.A.units+1<cLine):IxR X rIxD:=by
 intro value slice pins s σ H x y v u Q I rx ry h hs
 obtain ⟨a,z,rfl,g,q⟩:=h
 obtain rfl:v=Value.ref a:=rx
 have hT:=dict_typeIs I g
 unfold subscriptTail
 refine wpAny_bind ?_
 rw [getitemInPython_of_ne hT.not_modules]
 refine wpAny_bind (wpAny_specialOf hT PySem.F.slot_dict_getitem.lookup ?_)
 have fin:wpAny (model X.prog X.w) X.A (subscripted slice false (.ref a) u) (fun r s₃=>wpAny (model X.prog X.w) X.A (letTemporaryGo value (.ref a) r >>= fun _=>pure r) (EP X pins σ Q) X.xe s₃) X.xe s:=by
  rw [hs]
  exact wpAny_operating (d_getItem hu I g ry fun w' s3 I3 r3=>wpAny_bind (wpAny_letTemporaryGo (wpAny_pure ⟨z,H,I3,r3,q⟩)))
 first
  | exact wpAny_pure (wpAny_bind fin)
  | exact wpAny_bind (wpAny_pure (wpAny_bind fin))
  | exact wpAny_bind fin
def rLenDR:List V→Hp→VK→Prop:=fun xs H Q=>∃a,∃kvs:List (Key×V),xs= [V.ref a]∧Rd H a (.dK kvs)∧Q (.int kvs.length) H
theorem BC:CallR X (.builtin "len") rLenDR:=by
 intro pins s σ H xs us Q I rv q
 obtain ⟨a,kvs,rfl,e,q⟩:=q
 cases rv with
 | cons r rr=>
  cases rr
  obtain rfl:_=Value.ref a:=r
  exact d_len I e fun t s' I' =>⟨.int kvs.length,H,I',⟨t,rfl⟩,q⟩
def rNeDR (neg:Bool):R2:=fun x y H Q=>∃a b,∃ks:List (Key×V),x= .ref a∧y= .ref b∧Rd H a (.dK ks)∧Rd H b (.dK [])∧Q (.bl (if neg then !ks.isEmpty else ks.isEmpty)) H
theorem op_neDR (hu:X.A.units<cLine):OpR X (compareOp .NotEq) (rNeDR true):=by
 intro pins s σ H x y v u Q I rx ry h
 obtain ⟨a,b,ks,rfl,rfl,ea,eb,q⟩:=h
 obtain rfl:v=Value.ref a:=rx
 obtain rfl:u=Value.ref b:=ry
 obtain ⟨_,ya,va,ra,da⟩:=dk_rd I.hok ea
 obtain ⟨_,yb,vb,rb,db⟩:=dk_rd I.hok eb
 have hb:vb.length=0:=by rw [←rb.length]; rfl
 have ha:va.length=ks.length:=ra.length.symm
 refine PySem.W.keq_ne (knd:=mixKind X.prog X.w) (r:=true) ya yb da db hu (fun hl=>?_) (fin_bl I q ?_)
 ·have h0:ks= []:=List.eq_nil_of_length_eq_zero (by omega)
  subst h0
  exact hits_all rb ra (fun p hp=>nomatch hp)
 ·rw [ha,hb]
  cases ks with
  | nil=>rfl
  | cons a r=>simp
def AR (neg:Bool):R2:=fun x y H Q=>∃a b,∃ks ls:List (Key×V),x= .ref a∧y= .ref b∧Rd H a (.dK ks)∧Rd H b (.dK ls)∧ks.length=ls.length∧(∀p∈ks,valV ls p.1=some p.2∧flatB p.2=true)∧Q (.bl (!neg)) H
theorem op_eqDD (hu:X.A.units<cLine):OpR X (compareOp .Eq) (AR false):=by
 intro pins s σ H x y v u Q I rx ry h
 obtain ⟨a,b,ks,ls,rfl,rfl,ea,eb,hl,hp,q⟩:=h
 obtain rfl:v=Value.ref a:=rx
 obtain rfl:u=Value.ref b:=ry
 obtain ⟨_,ya,va,ra,da⟩:=dk_rd I.hok ea
 obtain ⟨_,yb,vb,rb,db⟩:=dk_rd I.hok eb
 have h2:va.length=vb.length:=ra.length.symm.trans (hl.trans rb.length)
 exact PySem.W.keq_eq (knd:=mixKind X.prog X.w) (r:=true) ya yb da db hu (fun _=>hits_all rb ra hp) (fin_bl I q (by simp [h2]))
theorem op_neDD (hu:X.A.units<cLine):OpR X (compareOp .NotEq) (AR true):=by
 intro pins s σ H x y v u Q I rx ry h
 obtain ⟨a,b,ks,ls,rfl,rfl,ea,eb,hl,hp,q⟩:=h
 obtain rfl:v=Value.ref a:=rx
 obtain rfl:u=Value.ref b:=ry
 obtain ⟨_,ya,va,ra,da⟩:=dk_rd I.hok ea
 obtain ⟨_,yb,vb,rb,db⟩:=dk_rd I.hok eb
 have h2:va.length=vb.length:=ra.length.symm.trans (hl.trans rb.length)
 exact PySem.W.keq_ne (knd:=mixKind X.prog X.w) (r:=true) ya yb da db hu (fun _=>hits_all rb ra hp) (fin_bl I q (by simp [h2]))
def rAddZ (K:PySem.W.Frag):R2:=fun x y H Q=>rI0 (fun i j=> .int (i+j)) x y H Q∨rAddS x y H Q∨rCat x y H Q∨rCatA K x y H Q
theorem ay {K:PySem.W.Frag} (hK:X.K=K:=by rfl):OpR X (binaryOp .Add) (rAddZ K):=OpR.or op_add (OpR.or yB (OpR.or op_cat (m_catA hK)))
def rManyS:R2:=fun x y H Q=>∃(z:Str) (i:Int),x= .str z∧y= .int i∧PySem.MulOk z i∧Q (.str (Txt.mul z i)) H
theorem A8:OpR X (binaryOp .Mult) rManyS:=by
 intro pins s σ H x y v u Q I rx ry h
 obtain ⟨z,i,rfl,rfl,hok,q⟩:=h
 obtain ⟨t,rfl⟩:=rx
 obtain ⟨t',rfl⟩:=ry
 exact PySem.SB.mul hok fun t2 k=>⟨.str (Txt.mul z i),H,I.tok _,⟨_,rfl⟩,q⟩
def rMulZ:R2:=fun x y H Q=>rI CMulX (fun i j=> .int (i*j)) x y H Q∨rRep x y H Q∨rManyS x y H Q
theorem cR:OpR X (binaryOp .Mult) rMulZ:=OpR.or op_mulX (OpR.or op_rep A8)
def rInZ (K:PySem.W.Frag) (neg:Bool):R2:=fun x y H Q=>rIn K neg x y H Q∨rInSg neg x y H Q∨yq neg x y H Q∨rDIn neg x y H Q
theorem op_inZ {K:PySem.W.Frag} (hu:X.A.units+64<cLine) (hK:X.K=K:=by rfl):OpR X (compareOp .In) (rInZ K false):=OpR.or (m_inS hK) (OpR.or yA (OpR.or Ba (op_inD (by omega))))
theorem yy {K:PySem.W.Frag} (hu:X.A.units+64<cLine) (hK:X.K=K:=by rfl):OpR X (compareOp .NotIn) (rInZ K true):=OpR.or (Bk hK) (OpR.or rE (OpR.or tW (yz (by omega))))
def oX (K:PySem.W.Frag) (r:Bool):R2:=fun x y H Q=>∃p z xs,x= .ref p∧y= .str z∧SqT K H p xs∧Q (.bl r) H
theorem op_eqTS {K:PySem.W.Frag} (hu:X.A.units<cLine) (hK:X.K=K:=by rfl):OpR X (compareOp .Eq) (oX K false):=by
 subst hK
 intro pins s σ H x y v u Q I rx ry h
 obtain ⟨p,z,xs,rfl,rfl,h1,k⟩:=h
 cases rx
 obtain ⟨t,rfl⟩:=ry
 obtain ⟨its,_,l1,_⟩:=I.tuple h1
 exact SeqAt.RcAt.tuple_str z t l1 hu X.prog X.w X.xe _ ⟨.bl _,H,I,rfl,k⟩
theorem op_neTS {K:PySem.W.Frag} (hu:X.A.units<cLine) (hK:X.K=K:=by rfl):OpR X (compareOp .NotEq) (oX K true):=by
 subst hK
 intro pins s σ H x y v u Q I rx ry h
 obtain ⟨p,z,xs,rfl,rfl,h1,k⟩:=h
 cases rx
 obtain ⟨t,rfl⟩:=ry
 obtain ⟨its,_,l1,_⟩:=I.tuple h1
 exact SeqAt.RcNeAt.tuple_str z t l1 hu X.prog X.w X.xe _ ⟨.bl _,H,I,rfl,k⟩
def rEqZ (K:PySem.W.Frag):R2:=fun x y H Q=>rEq x y H Q∨vE K false x y H Q∨rEqD K x y H Q∨AR false x y H Q∨oX K false x y H Q
theorem op_eqZ {K:PySem.W.Frag} (hu:X.A.units+64<cLine) (hK:X.K=K:=by rfl):OpR X (compareOp .Eq) (rEqZ K):=OpR.or op_eq (OpR.or (hK ▸ A9 hu) (OpR.or (m_eqD hu hK) (OpR.or (op_eqDD (by omega)) (op_eqTS (by omega) hK))))
def rNeZ (K:PySem.W.Frag):R2:=fun x y H Q=>rNe x y H Q∨vE K true x y H Q∨rNeD K x y H Q∨rNeDR true x y H Q∨AR true x y H Q∨oX K true x y H Q
theorem op_neZ {K:PySem.W.Frag} (hu:X.A.units+64<cLine) (hK:X.K=K:=by rfl):OpR X (compareOp .NotEq) (rNeZ K):=OpR.or op_ne (OpR.or (hK ▸ A7 hu) (OpR.or (m_neD hu hK) (OpR.or (op_neDR (by omega)) (OpR.or (op_neDD (by omega)) (op_neTS (by omega) hK)))))
def AQ (K:PySem.W.Frag):R2:=fun x y H Q=>rIxL K x y H Q∨rIxT K x y H Q∨rIxS x y H Q∨rIxD x y H Q
theorem ix_Z {K:PySem.W.Frag} (hu:X.A.units+64<cLine) (hK:X.K=K:=by rfl):IxR X (AQ K):=IxR.or (m_ixL hK) (IxR.or (m_ixT hK) (IxR.or ix_str (ix_dict (by omega))))
def rLenZ (K:PySem.W.Frag):List V→Hp→VK→Prop:=fun xs H Q=>tR K xs H Q∨yp xs H Q∨rLenDR xs H Q
theorem aG {K:PySem.W.Frag} (hK:X.K=K:=by rfl):CallR X (.builtin "len") (rLenZ K):=CallR.or (m_lenS hK) (CallR.or wQ BC)
end
def D.sc:D→Option V
 | .non=>some .non
 | .bl b=>some (.bl b)
 | .int i=>some (.int i)
 | .str s=>some (.str s)
 | _=>none
def scs:List D→Option (List V)
 | []=>some []
 | d::ds=>match d.sc,scs ds with
  | some v,some vs=>some (v::vs)
  | _,_=>none
def D.key:D→Option Key
 | .int i=>some (.inl i)
 | .str s=>some (.inr s)
 | _=>none
mutual
def D.py:D→Option PyData
 | .non=>some .none
 | .bl b=>some (.bool b)
 | .int i=>some (.int i)
 | .str s=>some (.str s)
 | .lst ds=>match D.pys ds with
  | some xs=>some (.list xs)
  | none=>none
 | .tup ds=>match D.pys ds with
  | some xs=>some (.tuple xs)
  | none=>none
 | _=>none
def D.pys:List D→Option (List PyData)
 | []=>some []
 | d::ds=>match D.py d,D.pys ds with
  | some x,some xs=>some (x::xs)
  | _,_=>none
end
noncomputable def bX (a b:Vl) (s:SD):R Vl:=match s.cont a,s.cont b with
 | some (.int i),some (.int j)=> .ok (.d (.int (i+j))) s
 | some (.str x),some (.str y)=>if x.length+y.length≤sizeLine then .ok (.d (.str (x++y))) s else .bad
 | some (.lst xs),some (.lst ys)=>if xs.length+ys.length≤sizeLine then .ok (.own (.lst (xs++ys))) s else .bad
 | some (.tup xs),some (.tup ys)=>if xs≠ []∧ys≠ []∧xs.length+ys.length≤sizeLine then .ok (.d (.tup (xs++ys))) s else .bad
 | _,_=> .bad
def mZ (a b:Vl) (s:SD):R Vl:=match s.cont a,s.cont b with
 | some (.int i),some (.int j)=> .ok (.d (.int (i - j))) s
 | _,_=> .bad
noncomputable def mT (a b:Vl) (s:SD):R Vl:=match s.cont a,s.cont b with
 | some (.int i),some (.int j)=>if CMulX i j then .ok (.d (.int (i*j))) s else .bad
 | some (.lst xs),some (.int k)=>if -(2 ^ 63)≤k∧k<2 ^ 63∧xs.length*k.toNat≤sizeLine then .ok (.own (.lst (List.replicate k.toNat xs).flatten)) s else .bad
 | some (.str z),some (.int k)=>if PySem.MulOk z k then .ok (.d (.str (Txt.mul z k))) s else .bad
 | _,_=> .bad
noncomputable def bN (a b:Vl) (s:SD):R Vl:=match s.cont a,s.cont b with
 | some (.int i),some (.int j)=>if 0<j then .ok (.d (.int (i%j))) s else .bad
 | _,_=> .bad
noncomputable def iF (a b:Vl) (s:SD):R Vl:=match s.cont a,s.cont b with
 | some (.int i),some (.int j)=>if CDivW i j then .ok (.d (.int (i / j))) s else .bad
 | _,_=> .bad
noncomputable def qK (a b:Vl) (s:SD):R Vl:=match s.cont a,s.cont b with
 | some (.int i),some (.int j)=>if wZ i j then .ok (.d (.int (i ^ j.toNat))) s else .bad
 | _,_=> .bad
def oXor (a b:Vl) (s:SD):R Vl:=match s.cont a,s.cont b with
 | some (.int i),some (.int j)=> .ok (.d (.int (Builtin.bitXor i j))) s
 | _,_=> .bad
def Bc (f:Int→Int→Bool) (a b:Vl) (s:SD):R Vl:=match s.cont a,s.cont b with
 | some (.int i),some (.int j)=> .ok (.d (.bl (f i j))) s
 | _,_=> .bad
abbrev oLt:=Bc fun i j=>decide (i<j)
abbrev oLe:=Bc fun i j=>decide (i≤j)
abbrev oGt:=Bc fun i j=>decide (i > j)
abbrev oGe:=Bc fun i j=>decide (i≥j)
noncomputable def sk (ks ls:List (Key×D)):Bool:=decide (ks.length=ls.length)&&ks.all fun q=>match q.2.sc,(eN ls q.1).bind D.sc with
 | some v,some u=>decide (v=u)
 | _,_=>false
noncomputable def dEq (x y:D):Option Bool:=match x.sc,y.sc with
 | some v,some u=>if scal v u=true then some (decide (v=u)) else none
 | _,_=>match x,y with
  | .lst xs, .lst []=>some xs.isEmpty
  | .con xs, .lst []=>some xs.isEmpty
  | .dct ks, .dct ls=>if sk ks ls=true then some true else none
  | .tup _, .str _=>some false
  | x,y=>match x.py,y.py with
   | some d,some e=>if SeqAt.shaped d=true∧SeqAt.shaped e=true then some (PyData.eqv d e) else none
   | _,_=>none
noncomputable def oEq (a b:Vl) (s:SD):R Vl:=match s.cont a,s.cont b with
 | some x,some y=>match dEq x y with
  | some r=> .ok (.d (.bl r)) s
  | none=> .bad
 | _,_=> .bad
noncomputable def oNe (a b:Vl) (s:SD):R Vl:=match s.cont a,s.cont b with
 | some (.dct ks),some (.dct [])=> .ok (.d (.bl (!ks.isEmpty))) s
 | some x,some y=>match dEq x y with
  | some r=> .ok (.d (.bl (!r))) s
  | none=> .bad
 | _,_=> .bad
def kK (neg:Bool) (a b:Vl) (s:SD):R Vl:=match b with
 | .d .non=>match a with
  | .d .non=> .ok (.d (.bl (!neg))) s
  | .d _=> .ok (.d (.bl neg)) s
  | a=>match s.cont a with
   | some x=>if x.box=true then .ok (.d (.bl neg)) s else .bad
   | none=> .bad
 | _=> .bad
noncomputable def dIn (x y:D):Option Bool:=match y with
 | .lst ys=>match x.sc,scs ys with
  | some v,some vs=>some (inV v vs)
  | _,_=>none
 | .con ys=>match x.sc,scs ys with
  | some v,some vs=>some (inV v vs)
  | _,_=>none
 | .tup ys=>match x.sc,scs ys with
  | some v,some vs=>some (inV v vs)
  | _,_=>none
 | .str z=>match x with
  | .str w=>match w.cps.toList with
   | [c]=>some (decide (c∈z.cps.toList))
   | _=>some (!(Builtin.Str.occurrences z w 0 z.length 1).isEmpty)
  | _=>none
 | .dct ks=>match x.key with
  | some k=>some (eN ks k).isSome
  | none=>none
 | _=>none
noncomputable def oIn (neg:Bool) (a b:Vl) (s:SD):R Vl:=match s.cont a,s.cont b with
 | some x,some y=>match dIn x y with
  | some r=> .ok (.d (.bl (if neg then !r else r))) s
  | none=> .bad
 | _,_=> .bad
noncomputable def dIx (x y:D):Option D:=match x,y with
 | .lst xs, .int i=>atI xs i
 | .con xs, .int i=>atI xs i
 | .tup xs, .int i=>atI xs i
 | .str z, .int i=>if z.length≤sizeLine then (atI z.cps.toList i).map fun c=> .str ⟨#[c]⟩ else none
 | .dct ks,y=>match y.key with
  | some k=>eN ks k
  | none=>none
 | _,_=>none
noncomputable def oIx (a b:Vl) (s:SD):R Vl:=match s.cont a,s.cont b with
 | some x,some y=>match dIx x y with
  | some r=> .ok (.d r) s
  | none=> .bad
 | _,_=> .bad
noncomputable def cS (a:Vl) (s:SD):R Vl:=match s.cont a with
 | some (.lst xs)=> .ok (.d (.int xs.length)) s
 | some (.con xs)=> .ok (.d (.int xs.length)) s
 | some (.tup xs)=> .ok (.d (.int xs.length)) s
 | some (.str z)=>if z.length≤sizeLine then .ok (.d (.int z.length)) s else .bad
 | some (.dct ks)=> .ok (.d (.int ks.length)) s
 | _=> .bad
section
variable {G:Gc} {p:Wr} {v u:V} {x:D} {H:Hp}
theorem eU (h:Rep G p x v) (e:x.sc=some u):v=u:=by
 cases x with
 | non=>cases e; exact h
 | bl b=>cases e; exact h
 | int i=>cases e; exact h
 | str z=>cases e; exact h
 | _=>cases e
theorem ko (e:x.sc=some u):x.box=false:=by cases x<;> first | rfl | cases e
theorem lG (e:x.sc=some u):flatV u=true:=by cases x<;> cases e<;> rfl
theorem lF:∀{ds:List D} {vs us:List V},Reps G p ds vs→scs ds=some us→vs=us
 | [],vs,us,h,e=>by cases e; exact h
 | d::ds,vs,us,h,e=>by
  obtain ⟨v,r,rfl,h1,h2⟩:=h
  unfold scs at e
  split at e
  ·rename_i u ws e1 e2
   cases e
   rw [eU h1 e1,lF h2 e2]
  ·cases e
theorem iX:∀{ds:List D} {us:List V},scs ds=some us→us.all flatV=true
 | [],us,e=>by cases e; rfl
 | d::ds,us,e=>by
  unfold scs at e
  split at e
  ·rename_i u ws e1 e2
   cases e
   rw [List.all_cons,lG e1,iX e2]
   rfl
  ·cases e
theorem gx {k:Key} (h:Rep G p x v) (e:x.key=some k):v=kV k:=by
 cases x with
 | int i=>cases e; exact h
 | str z=>cases e; exact h
 | _=>cases e
theorem ui {k:Key} (e:x.key=some k):x.box=false:=by cases x<;> first | rfl | cases e
mutual
theorem rn:∀{x:D} {v:V} {d:PyData},Rep G p x v→x.py=some d→Dp G.K p.H v d
 | .non,v,d,h,e=>by cases e; rw [show v= .non from h]; exact .non
 | .bl b,v,d,h,e=>by cases e; rw [show v= .bl b from h]; exact .bl b
 | .int b,v,d,h,e=>by cases e; rw [show v= .int b from h]; exact .int b
 | .str b,v,d,h,e=>by cases e; rw [show v= .str b from h]; exact .str b
 | .lst ds,v,d,h,e=>by
  obtain ⟨a,vs,rfl,⟨_,hh⟩,r⟩:=h
  unfold D.py at e
  split at e
  ·rename_i xs e1
   cases e
   exact .lst (.of hh) (lQ r e1)
  ·cases e
 | .tup ds,v,d,h,e=>by
  obtain ⟨a,vs,rfl,⟨_,hh⟩,r⟩:=h
  unfold D.py at e
  split at e
  ·rename_i xs e1
   cases e
   exact .tup (.of hh) (lQ r e1)
  ·cases e
 | .con _,_,_,_,e=>by cases e
 | .dct _,_,_,_,e=>by cases e
 | .obj _ _,_,_,_,e=>by cases e
 | .exc _ _,_,_,_,e=>by cases e
 | .cell _,_,_,_,e=>by cases e
theorem lQ:∀{ds:List D} {vs:List V} {xs:List PyData},Reps G p ds vs→D.pys ds=some xs→DpAll G.K p.H vs xs
 | [],vs,xs,h,e=>by cases e; rw [show vs= [] from h]; exact .nil
 | d::ds,vs,xs,h,e=>by
  obtain ⟨v,r,rfl,h1,h2⟩:=h
  unfold D.pys at e
  split at e
  ·rename_i u ws e1 e2
   cases e
   exact .cons (rn h1 e1) (lQ h2 e2)
  ·cases e
end
theorem gA {d:PyData} (h:Cont G p x v) (e:x.py=some d):Dp G.K p.H v d:=by
 cases x with
 | lst ds=>
  obtain ⟨b,vs,rfl,hb,r⟩:=h.lst
  unfold D.py at e
  split at e
  ·rename_i xs e1
   cases e
   exact .lst (.of hb) (lQ r e1)
  ·cases e
 | tup ds=>
  obtain ⟨b,vs,rfl,hb,r⟩:=h.tup
  unfold D.py at e
  split at e
  ·rename_i xs e1
   cases e
   exact .tup (.of hb) (lQ r e1)
  ·cases e
 | non=>exact rn (h.sc rfl) e
 | bl b=>exact rn (h.sc rfl) e
 | int b=>exact rn (h.sc rfl) e
 | str b=>exact rn (h.sc rfl) e
 | con ds=>cases e
 | dct ds=>cases e
 | obj c ds=>cases e
 | exc c fs=>cases e
 | cell i=>cases e
theorem Bw {v:V} (e:x.sc=some v):flatB v=true:=by cases x<;> cases e<;> rfl
theorem mz:∀{ks ls:List (Key×D)} {vs us:List (Key×V)},RepK G p ks vs→RepK G p ls us→(ks.all fun q=>match q.2.sc,(eN ls q.1).bind D.sc with | some v,some u=>decide (v=u) | _,_=>false)=true→
  ∀q∈vs,valV us q.1=some q.2∧flatB q.2=true
 | [],_,vs,_,h,_,_,q,hq=>by rw [show vs= [] from h] at hq; cases hq
 | (k,d)::ks,ls,vs,us,h,h',e,q,hq=>by
  obtain ⟨v,r,rfl,h1,h2⟩:=h
  rw [List.all_cons,Bool.and_eq_true] at e
  rcases List.mem_cons.mp hq with rfl | hq
  ·have e1:=e.1
   split at e1
   ·rename_i v1 u1 s1 s2
    have e1:=of_decide_eq_true e1
    subst e1
    obtain ⟨d',g1,g2⟩:=Option.bind_eq_some_iff.mp s2
    obtain ⟨v',g3,g4⟩:=(h'.val (k:=k)).1 d' g1
    have a1:=eU h1 s1
    have a2:=eU g4 g2
    subst a1 a2
    exact ⟨g3,Bw s1⟩
   ·cases e1
  ·exact mz h2 h' e.2 q hq
theorem mA {ks ls:List (Key×D)} (h:sk ks ls=true):ks.length=ls.length∧(ks.all fun q=>match q.2.sc,(eN ls q.1).bind D.sc with | some v,some u=>decide (v=u) | _,_=>false)=true:=by
 unfold sk at h
 rw [Bool.and_eq_true] at h
 exact ⟨of_decide_eq_true h.1,h.2⟩
theorem dEq_eq {r:Bool} (hx:Cont G p x v) (hy:Cont G p y u) (e:dEq x y=some r) (q:Q (.bl r) p.H):rEqZ G.K v u p.H Q:=by
 unfold dEq at e
 split at e
 ·rename_i v' u' e1 e2
  split at e
  ·rename_i hs
   cases e
   have h1:=eU (hx.sc (ko e1)) e1
   have h2:=eU (hy.sc (ko e2)) e2
   subst h1 h2
   exact .inl ⟨hs,q⟩
  ·cases e
 ·split at e
  ·cases e
   obtain ⟨b,vs,rfl,hb,r⟩:=hx.lst
   obtain ⟨b',vs',rfl,hb',r'⟩:=hy.lst
   obtain rfl:vs' = []:=r'
   exact .inr (.inl ⟨b,b',vs,rfl,rfl, .of hb, .of hb',by rw [r.empty]; exact q⟩)
  ·cases e
   obtain ⟨b,vs,rfl,hb,r⟩:=hx.con
   obtain ⟨b',vs',rfl,hb',r'⟩:=hy.lst
   obtain rfl:vs' = []:=r'
   exact .inr (.inl ⟨b,b',vs,rfl,rfl,hb, .of hb',by rw [r.empty]; exact q⟩)
  ·split at e
   ·rename_i hs
    cases e
    obtain ⟨b,vs,rfl,hb,r⟩:=hx.dct
    obtain ⟨b',vs',rfl,hb',r'⟩:=hy.dct
    obtain ⟨l1,l2⟩:=mA hs
    exact .inr (.inr (.inr (.inl ⟨b,b',vs,vs',rfl,rfl,hb,hb',by rw [r.len,r'.len]; exact l1,mz r r' l2,q⟩)))
   ·cases e
  ·cases e
   obtain ⟨b,vs,rfl,hb,r⟩:=hx.tup
   obtain rfl:=hy.str
   exact .inr (.inr (.inr (.inr ⟨b,_,vs,rfl,rfl, .of hb,q⟩)))
  ·split at e
   ·rename_i d e' e1 e2
    split at e
    ·rename_i hs
     cases e
     exact .inr (.inr (.inl ⟨d,e',gA hx e1,gA hy e2,hs.1,hs.2,q⟩))
    ·cases e
   ·cases e
theorem dEq_ne {r:Bool} (hx:Cont G p x v) (hy:Cont G p y u) (e:dEq x y=some r) (q:Q (.bl (!r)) p.H):rNeZ G.K v u p.H Q:=by
 unfold dEq at e
 split at e
 ·rename_i v' u' e1 e2
  split at e
  ·rename_i hs
   cases e
   have h1:=eU (hx.sc (ko e1)) e1
   have h2:=eU (hy.sc (ko e2)) e2
   subst h1 h2
   exact .inl ⟨hs,q⟩
  ·cases e
 ·split at e
  ·cases e
   obtain ⟨b,vs,rfl,hb,r⟩:=hx.lst
   obtain ⟨b',vs',rfl,hb',r'⟩:=hy.lst
   obtain rfl:vs' = []:=r'
   exact .inr (.inl ⟨b,b',vs,rfl,rfl, .of hb, .of hb',by rw [r.empty]; exact q⟩)
  ·cases e
   obtain ⟨b,vs,rfl,hb,r⟩:=hx.con
   obtain ⟨b',vs',rfl,hb',r'⟩:=hy.lst
   obtain rfl:vs' = []:=r'
   exact .inr (.inl ⟨b,b',vs,rfl,rfl,hb, .of hb',by rw [r.empty]; exact q⟩)
  ·split at e
   ·rename_i hs
    cases e
    obtain ⟨b,vs,rfl,hb,r⟩:=hx.dct
    obtain ⟨b',vs',rfl,hb',r'⟩:=hy.dct
    obtain ⟨l1,l2⟩:=mA hs
    exact .inr (.inr (.inr (.inr (.inl ⟨b,b',vs,vs',rfl,rfl,hb,hb',by rw [r.len,r'.len]; exact l1,mz r r' l2,q⟩))))
   ·cases e
  ·cases e
   obtain ⟨b,vs,rfl,hb,r⟩:=hx.tup
   obtain rfl:=hy.str
   exact .inr (.inr (.inr (.inr (.inr ⟨b,_,vs,rfl,rfl, .of hb,q⟩))))
  ·split at e
   ·rename_i d e' e1 e2
    split at e
    ·rename_i hs
     cases e
     exact .inr (.inr (.inl ⟨d,e',gA hx e1,gA hy e2,hs.1,hs.2,q⟩))
    ·cases e
   ·cases e
theorem dIn_in {r neg:Bool} (hx:Cont G p x v) (hy:Cont G p y u) (e:dIn x y=some r) (q:Q (.bl (if neg then !r else r)) p.H):rInZ G.K neg v u p.H Q:=by
 unfold dIn at e
 split at e
 ·split at e
  ·rename_i v' vs' e1 e2
   cases e
   obtain ⟨b,vs,rfl,hb,r⟩:=hy.lst
   have h1:=eU (hx.sc (ko e1)) e1
   have h2:=lF r e2
   subst h1 h2
   exact .inl ⟨b,_,rfl, .inl (.of hb),lG e1,iX e2,q⟩
  ·cases e
 ·split at e
  ·rename_i v' vs' e1 e2
   cases e
   obtain ⟨b,vs,rfl,hb,r⟩:=hy.con
   have h1:=eU (hx.sc (ko e1)) e1
   have h2:=lF r e2
   subst h1 h2
   exact .inl ⟨b,_,rfl, .inl hb,lG e1,iX e2,q⟩
  ·cases e
 ·split at e
  ·rename_i v' vs' e1 e2
   cases e
   obtain ⟨b,vs,rfl,hb,r⟩:=hy.tup
   have h1:=eU (hx.sc (ko e1)) e1
   have h2:=lF r e2
   subst h1 h2
   exact .inl ⟨b,_,rfl, .inr (.of hb),lG e1,iX e2,q⟩
  ·cases e
 ·obtain rfl:=hy.str
  split at e
  ·obtain rfl:=hx.str
   split at e
   ·rename_i w _ c hc
    cases e
    have hw:w=⟨#[c]⟩:=by
     cases w with
     | mk cps=>
      congr 1
      exact Array.toList_inj.mp hc
    subst hw
    exact .inr (.inl ⟨c,_,rfl,rfl,q⟩)
   ·cases e
    exact .inr (.inr (.inl ⟨_,_,rfl,rfl,by cases neg<;> exact q⟩))
  ·cases e
 ·rename_i ks
  split at e
  ·rename_i k e1
   cases e
   obtain ⟨b,vs,rfl,hb,r⟩:=hy.dct
   have h1:=gx (hx.sc (ui e1)) e1
   subst h1
   have e3:(valV vs k).isSome=(eN ks k).isSome:=by
    cases q:eN ks k with
    | none=>rw [r.val.2 q]; rfl
    | some d=>obtain ⟨v,e,_⟩:=r.val.1 d q; rw [e]; rfl
   exact .inr (.inr (.inr ⟨b,valV vs k,rfl, .inl ⟨vs,k,hb,rfl,rfl⟩,by rw [e3]; exact q⟩))
  ·cases e
 ·cases e
theorem qB {ds:List D} {vs:List V} {i:Int} {d:D} (r:Reps G p ds vs) (e:atI ds i=some d):∃v,atI vs i=some v∧Rep G p d v:=by
 unfold atI at e ⊢
 rw [r.len]
 cases q:ixN ds.length i with
 | none=>rw [q] at e; cases e
 | some j=>
  rw [q] at e
  exact r.get (i:=j) e
theorem dIx_ix {d:D} (hx:Cont G p x v) (hy:Cont G p y u) (e:dIx x y=some d):∃z,Rep G p d z∧(∀Q:VK,Q z p.H→AQ G.K v u p.H Q):=by
 unfold dIx at e
 split at e
 ·obtain ⟨b,vs,rfl,hb,r⟩:=hx.lst
  obtain rfl:=hy.int
  obtain ⟨z,e1,rz⟩:=qB r e
  exact ⟨z,rz,fun Q q=> .inl ⟨b,vs,_,z,rfl,rfl, .of hb,e1,q⟩⟩
 ·obtain ⟨b,vs,rfl,hb,r⟩:=hx.con
  obtain rfl:=hy.int
  obtain ⟨z,e1,rz⟩:=qB r e
  exact ⟨z,rz,fun Q q=> .inl ⟨b,vs,_,z,rfl,rfl,hb,e1,q⟩⟩
 ·obtain ⟨b,vs,rfl,hb,r⟩:=hx.tup
  obtain rfl:=hy.int
  obtain ⟨z,e1,rz⟩:=qB r e
  exact ⟨z,rz,fun Q q=> .inr (.inl ⟨b,vs,_,z,rfl,rfl, .of hb,e1,q⟩)⟩
 ·obtain rfl:=hx.str
  obtain rfl:=hy.int
  split at e
  ·rename_i hz
   obtain ⟨c,e1,rfl⟩:=Option.map_eq_some_iff.mp e
   exact ⟨.str ⟨#[c]⟩,rfl,fun Q q=> .inr (.inr (.inl ⟨_,_,c,rfl,rfl,hz,e1,q⟩))⟩
  ·cases e
 ·obtain ⟨b,vs,rfl,hb,r⟩:=hx.dct
  split at e
  ·rename_i k e1
   have h1:=gx (hy.sc (ui e1)) e1
   subst h1
   obtain ⟨z,e2,rz⟩:=r.val.1 d e
   exact ⟨z,rz,fun Q q=> .inr (.inr (.inr ⟨b,z,rfl, .inl ⟨vs,k,hb,rfl,e2.symm⟩,q⟩))⟩
  ·cases e
 ·cases e
end
section
variable {G:Gc}
theorem p_add:dq G (rAddZ G.K) bX:=by
 intro E σ τ s θ p v u a b Q hl h hw
 obtain ⟨h0,ca,cb⟩:=eZ hl h
 unfold bX at hw
 split at hw
 ·rename_i e1 e2
  obtain rfl:=(ca _ e1).int
  obtain rfl:=(cb _ e2).int
  exact .inl ⟨_,_,rfl,rfl,bf h0 hl hw rfl⟩
 ·rename_i e1 e2
  obtain rfl:=(ca _ e1).str
  obtain rfl:=(cb _ e2).str
  split at hw
  ·rename_i hz
   exact .inr (.inl ⟨_,_,rfl,rfl,hz,bf h0 hl hw rfl⟩)
  ·exact hw.elim
 ·rename_i e1 e2
  obtain ⟨a1,vs,rfl,ha,r⟩:=(ca _ e1).lst
  obtain ⟨a2,us,rfl,hb,r'⟩:=(cb _ e2).lst
  split at hw
  ·rename_i hz
   exact .inr (.inr (.inl ⟨a1,a2,vs,us,rfl,rfl,ha,hb,by rw [r.len,r'.len]; exact hz,fun q hq=>dj h0 hl hw hq (r.append r')⟩))
  ·exact hw.elim
 ·rename_i e1 e2
  obtain ⟨a1,vs,rfl,ha,r⟩:=(ca _ e1).tup
  obtain ⟨a2,us,rfl,hb,r'⟩:=(cb _ e2).tup
  split at hw
  ·rename_i hz
   refine .inr (.inr (.inr (t_catA (.of ha) (.of hb) (fun z=>hz.1 ?_) (fun z=>hz.2.1 ?_) (by rw [r.len,r'.len]; exact hz.2.2) fun q hq=>uH h0 hl hw hq (r.append r'))))
   ·exact List.eq_nil_of_length_eq_zero (by rw [←r.len,z]; rfl)
   ·exact List.eq_nil_of_length_eq_zero (by rw [←r'.len,z]; rfl)
  ·exact hw.elim
 ·exact hw.elim
theorem p_sub:dq G (rI0 fun i j=> .int (i - j)) mZ:=by
 intro E σ τ s θ p v u a b Q hl h hw
 obtain ⟨h0,ca,cb⟩:=eZ hl h
 unfold mZ at hw
 split at hw
 ·rename_i e1 e2
  obtain rfl:=(ca _ e1).int
  obtain rfl:=(cb _ e2).int
  exact ⟨_,_,rfl,rfl,bf h0 hl hw rfl⟩
 ·exact hw.elim
theorem vA {p:Wr} {ds:List D} {vs:List V} (r:Reps G p ds vs):∀n:Nat,Reps G p (List.replicate n ds).flatten (List.replicate n vs).flatten
 | 0=>rfl
 | n+1=>by
  rw [List.replicate_succ,List.replicate_succ,List.flatten_cons,List.flatten_cons]
  exact r.append (vA r n)
theorem p_mul:dq G rMulZ mT:=by
 intro E σ τ s θ p v u a b Q hl h hw
 obtain ⟨h0,ca,cb⟩:=eZ hl h
 unfold mT at hw
 split at hw
 ·rename_i e1 e2
  obtain rfl:=(ca _ e1).int
  obtain rfl:=(cb _ e2).int
  split at hw
  ·rename_i hz
   exact .inl ⟨_,_,rfl,rfl,hz,bf h0 hl hw rfl⟩
  ·exact hw.elim
 ·rename_i e1 e2
  obtain ⟨a1,vs,rfl,ha,r⟩:=(ca _ e1).lst
  obtain rfl:=(cb _ e2).int
  split at hw
  ·rename_i hz
   refine .inr (.inl ⟨a1,_,vs,rfl,rfl,ha,hz.1,hz.2.1,by rw [r.len]; exact hz.2.2,fun q hq=>dj h0 hl hw hq ?_⟩)
   exact vA r _
  ·exact hw.elim
 ·rename_i e1 e2
  obtain rfl:=(ca _ e1).str
  obtain rfl:=(cb _ e2).int
  split at hw
  ·rename_i hz
   exact .inr (.inr ⟨_,_,rfl,rfl,hz,bf h0 hl hw rfl⟩)
  ·exact hw.elim
 ·exact hw.elim
theorem p_mod:dq G (rI (fun _ j=>0<j) fun i j=> .int (i%j)) bN:=by
 intro E σ τ s θ p v u a b Q hl h hw
 obtain ⟨h0,ca,cb⟩:=eZ hl h
 unfold bN at hw
 split at hw
 ·rename_i e1 e2
  obtain rfl:=(ca _ e1).int
  obtain rfl:=(cb _ e2).int
  split at hw
  ·rename_i hz
   exact ⟨_,_,rfl,rfl,hz,bf h0 hl hw rfl⟩
  ·exact hw.elim
 ·exact hw.elim
theorem p_div:dq G (rI CDivW fun i j=> .int (i / j)) iF:=by
 intro E σ τ s θ p v u a b Q hl h hw
 obtain ⟨h0,ca,cb⟩:=eZ hl h
 unfold iF at hw
 split at hw
 ·rename_i e1 e2
  obtain rfl:=(ca _ e1).int
  obtain rfl:=(cb _ e2).int
  split at hw
  ·rename_i hz
   exact ⟨_,_,rfl,rfl,hz,bf h0 hl hw rfl⟩
  ·exact hw.elim
 ·exact hw.elim
theorem p_pow:dq G (rI wZ fun i j=> .int (i ^ j.toNat)) qK:=by
 intro E σ τ s θ p v u a b Q hl h hw
 obtain ⟨h0,ca,cb⟩:=eZ hl h
 unfold qK at hw
 split at hw
 ·rename_i e1 e2
  obtain rfl:=(ca _ e1).int
  obtain rfl:=(cb _ e2).int
  split at hw
  ·rename_i hz
   exact ⟨_,_,rfl,rfl,hz,bf h0 hl hw rfl⟩
  ·exact hw.elim
 ·exact hw.elim
theorem p_cmp {f:Int→Int→Bool}:dq G (rI0 fun i j=> .bl (f i j)) (Bc f):=by
 intro E σ τ s θ p v u a b Q hl h hw
 obtain ⟨h0,ca,cb⟩:=eZ hl h
 unfold Bc at hw
 split at hw
 ·rename_i e1 e2
  obtain rfl:=(ca _ e1).int
  obtain rfl:=(cb _ e2).int
  exact ⟨_,_,rfl,rfl,bf h0 hl hw rfl⟩
 ·exact hw.elim
theorem p_eq:dq G (rEqZ G.K) oEq:=by
 intro E σ τ s θ p v u a b Q hl h hw
 obtain ⟨h0,ca,cb⟩:=eZ hl h
 unfold oEq at hw
 split at hw
 ·rename_i e1 e2
  split at hw
  ·rename_i e3
   exact dEq_eq (ca _ e1) (cb _ e2) e3 (bf h0 hl hw rfl)
  ·exact hw.elim
 ·exact hw.elim
theorem p_ne:dq G (rNeZ G.K) oNe:=by
 intro E σ τ s θ p v u a b Q hl h hw
 obtain ⟨h0,ca,cb⟩:=eZ hl h
 unfold oNe at hw
 split at hw
 ·rename_i ks e1 e2
  obtain ⟨a1,vs,rfl,ha,r⟩:=(ca _ e1).dct
  obtain ⟨a2,us,rfl,hb,r'⟩:=(cb _ e2).dct
  obtain rfl:us= []:=r'
  have e3:vs.isEmpty=ks.isEmpty:=by
   have:=r.len
   cases vs with
   | nil=>cases ks with
    | nil=>rfl
    | cons _ _=>simp at this
   | cons _ _=>cases ks with
    | nil=>simp at this
    | cons _ _=>rfl
  exact .inr (.inr (.inr (.inl ⟨a1,a2,vs,rfl,rfl,ha,hb,by rw [e3]; exact bf h0 hl hw rfl⟩)))
 ·rename_i e1 e2
  split at hw
  ·rename_i e3
   exact dEq_ne (ca _ e1) (cb _ e2) e3 (bf h0 hl hw rfl)
  ·exact hw.elim
 ·exact hw.elim
theorem p_in {neg:Bool}:dq G (rInZ G.K neg) (oIn neg):=by
 intro E σ τ s θ p v u a b Q hl h hw
 obtain ⟨h0,ca,cb⟩:=eZ hl h
 unfold oIn at hw
 split at hw
 ·rename_i e1 e2
  split at hw
  ·rename_i e3
   exact dIn_in (ca _ e1) (cb _ e2) e3 (bf h0 hl hw rfl)
  ·exact hw.elim
 ·exact hw.elim
theorem p_ix:dq G (AQ G.K) oIx:=by
 intro E σ τ s θ p v u a b Q hl h hw
 obtain ⟨h0,ca,cb⟩:=eZ hl h
 unfold oIx at hw
 split at hw
 ·rename_i e1 e2
  split at hw
  ·rename_i e3
   obtain ⟨z,r,k⟩:=dIx_ix (ca _ e1) (cb _ e2) e3
   exact k Q (bf h0 hl hw r)
  ·exact hw.elim
 ·exact hw.elim
theorem non_iff {x:D} {p:Wr} {v:V} (h:Rep G p x v):v= .non↔x= .non:=by
 cases x with
 | non=>exact ⟨fun _=>rfl,fun _=>h⟩
 | bl _=>obtain rfl:=h; exact ⟨fun z=>(nomatch z),fun z=>(nomatch z)⟩
 | int _=>obtain rfl:=h; exact ⟨fun z=>(nomatch z),fun z=>(nomatch z)⟩
 | str _=>obtain rfl:=h; exact ⟨fun z=>(nomatch z),fun z=>(nomatch z)⟩
 | cell _=>obtain ⟨_,rfl⟩:=h; exact ⟨fun z=>(nomatch z),fun z=>(nomatch z)⟩
 | lst _=>obtain ⟨_,_,rfl,_⟩:=h; exact ⟨fun z=>(nomatch z),fun z=>(nomatch z)⟩
 | con _=>obtain ⟨_,_,rfl,_⟩:=h; exact ⟨fun z=>(nomatch z),fun z=>(nomatch z)⟩
 | tup _=>obtain ⟨_,_,rfl,_⟩:=h; exact ⟨fun z=>(nomatch z),fun z=>(nomatch z)⟩
 | dct _=>obtain ⟨_,_,rfl,_⟩:=h; exact ⟨fun z=>(nomatch z),fun z=>(nomatch z)⟩
 | exc _ _=>obtain ⟨_,_,_,rfl,_⟩:=h; exact ⟨fun z=>(nomatch z),fun z=>(nomatch z)⟩
 | obj _ _=>obtain ⟨_,_,_,_,rfl,_⟩:=h; exact ⟨fun z=>(nomatch z),fun z=>(nomatch z)⟩
def rIsZ (neg:Bool):R2:=fun x y H Q=>y= .non∧Q (.bl (if neg then !decide (x= .non) else decide (x= .non))) H
theorem nz {X:Cx}:OpR X (compareOp .Is) (rIsZ false):=o_isN
theorem lW {X:Cx}:OpR X (compareOp .IsNot) (rIsZ true):=o_notN
theorem p_isN {neg:Bool}:dq G (rIsZ neg) (kK neg):=by
 intro E σ τ s θ p v u a b Q hl h hw
 have h1:=h.pop1 (by simp; omega)
 obtain ⟨h0,c,r⟩:=cT hl h1
 unfold kK at hw
 split at hw
 ·obtain ⟨u',e1,r'⟩:=h.ent _ _ af
  have ll:=aD h.len
  rw [←ll,af] at e1
  cases e1
  obtain rfl:u= .non:=r'
  refine ⟨rfl, ?_⟩
  split at hw
  ·have e:v= .non:=r
   rw [decide_eq_true e]
   cases neg<;> exact bf h0 hl hw rfl
  ·rename_i x hx
   have e:¬v= .non:=fun z=>hx ((non_iff (show Rep G p x v from r)).mp z)
   rw [decide_eq_false e]
   cases neg<;> exact bf h0 hl hw rfl
  ·split at hw
   ·rename_i x e1
    split at hw
    ·rename_i hb
     rcases c x e1 with ⟨_,b,rfl,_⟩ | ⟨q,_⟩
     ·cases neg<;> exact bf h0 hl hw rfl
     ·rw [hb] at q; cases q
    ·exact hw.elim
   ·exact hw.elim
 ·exact hw.elim
end
section
variable {G:Gc} {W:WX} {E:En} {σ σ' :L2.St} {τ τ' :List V} {H:Hp} {s s' :SD} {θ θ' :List Vl} {v u:V} {a b:Vl} {x y:D} {p:Wr} {Q:VK} {m:Nat} {w:List (Option V)} {ŵ:List (Option Vl)} {S:Sto} {k:Nat}
theorem Sm.mid {A B C:List (Option V)} {A' B' C' :List (Option Vl)} (h:Sm G E m p ((A++B)++C) ((A' ++B')++C') S) (hA:A.length=A'.length) (hB:B.length=B'.length) (hm:m≤A.length):Sm G E m p (A++C) (A' ++C') S:=by
 have hC:C.length=C'.length:=by have:=h.len; simp at this; omega
 have fl:∀{α:Type} {A B C:List α} {k:Nat},k<A.length→((A++B)++C)[k]? =(A++C)[k]? :=fun {α A B C k} hk=>by rw [List.append_assoc,List.getElem?_append_left hk,List.getElem?_append_left hk]
 have fr:∀{α:Type} {A B C:List α} {k:Nat},¬k<A.length→((A++B)++C)[k+B.length]? =(A++C)[k]? :=fun {α A B C k} hk=>by
  rw [List.getElem?_append_right (by simp; omega),List.getElem?_append_right (by omega)]
  congr 1
  simp
  omega
 refine h.pick (fun k=>if k<A.length then k else k+B.length) (by simp [hA,hC]) (fun k e q=>?_) (fun j k y z _ _ e=>?_) fun k hk=>?_
 ·by_cases c:k<A.length
  ·rw [if_pos c]
   exact ⟨(fl (by omega)).trans q,(fl c).symm,id⟩
  ·rw [if_neg c]
   refine ⟨?_,(fr c).symm,fun _=>by omega⟩
   rw [hB]
   exact (fr (by omega)).trans q
 ·split at e<;> split at e<;> omega
 ·exact (fl (by omega)).symm
theorem Rel.dropMid (h:Rel G E σ ((τ++τ')++ [v]) H s ((θ++θ')++ [a])) (ht:τ.length=θ.length):Rel G E σ (τ++ [v]) H s (θ++ [a]):=by
 obtain ⟨p,e,hl,h⟩:=h
 have e1:σ++((τ++τ')++ [v]).map some=((σ++τ.map some)++τ'.map some)++ [some v]:=by simp
 have e2:s.sl++((θ++θ')++ [a]).map some=((s.sl++θ.map some)++θ'.map some)++ [some a]:=by simp
 rw [e1,e2] at h
 have len:=h.len
 simp at len
 exact .snoc (h.mid (by simp [hl,ht]) (by simp; omega) (bE hl)) hl e
theorem Rel.dropEnd (h:Rel G E σ (τ++τ') H s (θ++θ')) (ht:τ.length=θ.length):Rel G E σ τ H s θ:=by
 obtain ⟨p,e,hl,h⟩:=h
 rw [List.map_append,List.map_append,←List.append_assoc,←List.append_assoc] at h
 exact ⟨p,e,hl,h.pop (by simp [hl,ht]) (bE hl)⟩
theorem RelX.dropEnd {c:Str} {fs:List (Str×D)} {cls:Value} {d:Option Addr} (h:RelX G E σ (τ++τ') H s (θ++θ') c fs cls d) (ht:τ.length=θ.length):RelX G E σ τ H s θ c fs cls d:=by
 obtain ⟨p,e,hl,h,r⟩:=h
 rw [List.map_append,List.map_append,←List.append_assoc,←List.append_assoc] at h
 exact ⟨p,e,hl,h.pop (by simp [hl,ht]) (bE hl),r⟩
theorem XP.upEnd {c:Str} {fs:List (Str×D)} (h:XP G W E τ θ c fs s) (ht:τ.length=θ.length):XP G W E (τ++τ') (θ++θ') c fs s:=fun cls d σ' H' r=>h cls d σ' H' (r.dropEnd ht)
theorem Be (h:Sm G E s.sl.length p w (s.sl++θ.map some) S) (hn:Nl θ) {i j:Nat} (q:(s.sl++θ.map some)[i]? =some (some (.loc j))):False:=by
 by_cases c:i<s.sl.length
 ·obtain ⟨_,_,r⟩:=h.ent i _ q
  exact absurd r.1 (by omega)
 ·rw [List.getElem?_append_right (by omega),List.getElem?_map] at q
  obtain ⟨e,h1,h2⟩:=Option.map_eq_some_iff.mp q
  cases h2
  exact hn _ (List.mem_of_getElem? h1) j rfl
def Only (is:List Nat) (σ σ' :L2.St):Prop:=σ'.length=σ.length∧∀k:Nat,k∉is→σ'[k]? =σ[k]?
def RG (G:Gc) (W:WX) (is:List Nat) (g:TG) (fz:Vl→SD→R Unit):Prop:=∀(E:En) (σ:L2.St) (τ:List V) (H:Hp) (s:SD) (θ:List Vl) (v:V) (a:Vl) (Q:L2.St→Hp→Prop),Nl θ→Rel G E σ (τ++ [v]) H s (θ++ [a])→
 Wp (fz a s) (fun _ s' =>∀σ' H',Rel G E σ' τ H' s' θ→Only is σ σ'→Q σ' H') (XP G W E τ θ)→g v σ H Q
def zSt (i:Nat) (a:Vl) (s:SD):R Unit:=match a with
 | .d x=> .ok () {s with sl:=s.sl.set i (some (.d x))}
 | .own x=> .ok () {s with sl:=s.sl.set i (some (.own x))}
 | .loc k=>(s.fix (.loc k)).bind fun x s2=> .ok () {s2 with sl:=s2.sl.set i (some (.d x))}
theorem Rel.store {i:Nat} (h:Rel G E σ (τ++ [v]) H s (θ++ [a])) (hn:Nl θ) (ha:∀j,a≠ .loc j):Rel G E (σ.set i (some v)) τ H {s with sl:=s.sl.set i (some a)} θ:=by
 have hpop:=h.pop
 obtain ⟨p,e,hl,h⟩:=h.unsnoc
 by_cases c:i<s.sl.length
 ·have h0:=h.pop1 (bE hl)
  have q:=h.store (k:=i) c (bE hl) (aD h.len) ha fun i' j' z=>(Be h0 hn z).elim
  rw [cm (by rw [hl]; exact c),cm c] at q
  refine ⟨p,e,by simp [hl], ?_⟩
  show Sm G E (s.sl.set i (some a)).length _ _ _ _
  rw [List.length_set]
  exact q
 ·rw [List.set_eq_of_length_le (by omega),List.set_eq_of_length_le (by omega)]
  exact hpop
theorem Only.set {i:Nat} {u:Option V}:Only [i] σ (σ.set i u):=⟨by simp,fun k hk=>List.getElem?_set_ne (fun z=>hk (by simp [z]))⟩
theorem RG.name {i:Nat}:RG G W [i] (gName i) (zSt i):=by
 intro E σ τ H s θ v a Q hn hR hw
 cases a with
 | d x=>exact hw _ _ (hR.store hn fun j q=>nomatch q) .set
 | own x=>exact hw _ _ (hR.store hn fun j q=>nomatch q) .set
 | loc k=>
  unfold zSt at hw
  dsimp only at hw
  rw [ab] at hw
  obtain ⟨p,rfl,hl,h⟩:=hR.unsnoc
  cases e:s.fix (.loc k) with
  | bad=>rw [e] at hw; exact hw.elim
  | ex c fs s2=>exact (vV _ _ _ _ _ e).elim
  | ok x s2=>
   rw [e] at hw
   obtain ⟨p',hp,hs,h'⟩:=zj E s _ x s2 p _ _ v e h (bE hl)
   have hR2:Rel G E σ (τ++ [v]) p.H s2 (θ++ [.d x]):=hp ▸ .snoc h' (hl.trans hs.symm) rfl
   exact hw _ _ (hR2.store hn fun j q=>nomatch q) .set
def cM:List Nat→List D→List (Option Vl)→List (Option Vl)
 | i::is,d::ds,l=>cM is ds (l.set i (some (.d d)))
 | _,_,l=>l
def vT:List Nat→TGs
 | []=>gNil
 | i::is=>gCons (gName i) (vT is)
theorem rD {i:Nat} {is:List Nat} {u:Option V} (o:Only is (σ.set i u) σ'):Only (i::is) σ σ' :=⟨o.1.trans (by simp),fun k hk=>by
 simp only [List.mem_cons,not_or] at hk
 rw [o.2 k hk.2,List.getElem?_set_ne (fun z=>hk.1 z.symm)]⟩
theorem Bh {is:List Nat}:∀{ds:List D} {vs:List V} {σ:L2.St} {s:SD} {Q:L2.St→Hp→Prop},ds.length=is.length→Nl θ→σ.length=s.sl.length→Sm G E s.sl.length p (σ++τ.map some) (s.sl++θ.map some) s.st→Reps G p ds vs→
  (∀σ',Rel G E σ' τ p.H {s with sl:=cM is ds s.sl} θ→Only is σ σ'→Q σ' p.H)→vT is vs σ p.H Q:=by
 induction is with
 | nil=>
  intro ds vs σ s Q hd hn hl h r q
  obtain rfl:ds= []:=List.eq_nil_of_length_eq_zero hd
  obtain rfl:vs= []:=r
  exact ⟨rfl,q σ ⟨p,rfl,hl,h⟩ ⟨rfl,fun _ _=>rfl⟩⟩
 | cons i is ih=>
  intro ds vs σ s Q hd hn hl h r q
  cases ds with
  | nil=>cases hd
  | cons d ds=>
   obtain ⟨v,vr,rfl,r1,r2⟩:=r
   refine ⟨v,vr,rfl, ?_⟩
   show vT is vr (σ.set i (some v)) p.H Q
   have h1:=h.push r1
   by_cases c:i<s.sl.length
   ·have q1:=h1.store (k:=i) c (bE hl) h.len (fun j z=>nomatch z) fun i' j' z=>(Be h hn z).elim
    rw [cm (by rw [hl]; exact c),cm c] at q1
    refine ih (s:= {s with sl:=s.sl.set i (some (.d d))}) (by simpa using hd) hn (by simp [hl]) ?_ r2 fun σ' h' o=>q σ' h' (rD o)
    show Sm G E (s.sl.set i _).length _ _ _ _
    rw [List.length_set]
    exact q1
   ·have e1:σ.set i (some v)=σ:=List.set_eq_of_length_le (by omega)
    have e2:s.sl.set i (some (.d d))=s.sl:=List.set_eq_of_length_le (by omega)
    rw [e1]
    refine ih (s:=s) (by simpa using hd) hn hl h r2 fun σ' h' o=>q σ' ?_ (rD (by rw [e1]; exact o))
    unfold cM
    rw [e2]
    exact h'
def jD (is:List Nat) (a:Vl) (s:SD):R Unit:=match s.cont a with
 | some (.tup ds)=>if ds.length=is.length then .ok () {s with sl:=cM is ds s.sl} else .bad
 | _=> .bad
theorem RG.names {is:List Nat} {n:Nat} (hn:n=is.length):RG G W is (gTup G.K n (vT is)) (jD is):=by
 intro E σ τ H s θ v a Q hN hR hw
 obtain ⟨p,rfl,hl,h⟩:=hR.unsnoc
 obtain ⟨h0,c,_⟩:=cT hl h
 unfold jD at hw
 split at hw
 ·rename_i ds e1
  split at hw
  ·rename_i e2
   obtain ⟨b,vs,rfl,hb,r⟩:=(c _ e1).tup
   exact ⟨b,vs,rfl, .of hb,by rw [r.len,e2,hn],Bh e2 hN hl h0 r fun σ' h' o=>hw σ' _ h' o⟩
  ·exact hw.elim
 ·exact hw.elim
def aw (fa:SD→R Vl) (fz:Vl→SD→R Unit):SD→R Fl:=fun s=>(fa s).bind fun a s1=>(fz a s1).bind fun _ s2=> .ok .nx s2
theorem aad {is:List Nat} {te:TE} {g:TG} {fa:SD→R Vl} {fz:Vl→SD→R Unit} (ha:RE G W te fa) (hg:RG G W is g fz):RS G W (tAsg te g) (aw fa fz):=by
 intro E σ τ H s θ D hN hR hw
 unfold aw at hw
 rw [ab] at hw
 refine ha E σ τ H s θ _ hN hR (hw.mono (fun a s1 hw v H1 h1=>?_) fun _ _ _ h=>h)
 rw [ab] at hw
 exact hg E σ τ H1 s1 θ v a _ hN h1 (hw.mono (fun _ s2 hw σ' H' h' _=>hw σ' H' h') fun _ _ _ h=>h)
def ai (f g:SD→R Fl):SD→R Fl:=fun s=>(f s).bind fun fl s1=>match fl with
 | .nx=>g s1
 | .bk=> .ok .bk s1
 | .ct=> .ok .ct s1
 | .rt a=> .ok (.rt a) s1
theorem RS.seq {t u:TS} {f g:SD→R Fl} (ha:RS G W t f) (hb:RS G W u g):RS G W (tSeq t u) (ai f g):=by
 intro E σ τ H s θ D hN hR hw
 unfold ai at hw
 rw [ab] at hw
 refine ha E σ τ H s θ _ hN hR (hw.mono (fun fl s1 hw=>?_) fun _ _ _ h=>h)
 cases fl with
 | nx=>exact fun σ' H' h' =>hb E σ' τ H' s1 θ D hN h' hw
 | bk=>exact hw
 | ct=>exact hw
 | rt a=>exact hw
def au:SD→R Fl:=fun s=> .ok .nx s
def zBreak:SD→R Fl:=fun s=> .ok .bk s
def zCont:SD→R Fl:=fun s=> .ok .ct s
theorem RS.next:RS G W tNext au:=fun _ _ _ _ _ _ _ _ hR hw=>hw _ _ hR
theorem RS.brk:RS G W tBreak zBreak:=fun _ _ _ _ _ _ _ _ hR hw=>hw _ _ hR
theorem RS.cont:RS G W tCont zCont:=fun _ _ _ _ _ _ _ _ hR hw=>hw _ _ hR
def bb (c:SD→R Bool) (f g:SD→R Fl):SD→R Fl:=fun s=>(c s).bind fun b s1=>if b=true then f s1 else g s1
theorem aaf {c:TT} {t u:TS} {fc:SD→R Bool} {f g:SD→R Fl} (hc:RT G W c fc) (ha:RS G W t f) (hb:RS G W u g):RS G W (tIfS c t u) (bb fc f g):=by
 intro E σ τ H s θ D hN hR hw
 unfold bb at hw
 rw [ab] at hw
 refine hc E σ τ H s θ _ hN hR (hw.mono (fun b s1 hw H1 h1=>?_) fun _ _ _ h=>h)
 split
 ·rename_i c; rw [if_pos c] at hw; exact ha E σ τ H1 s1 θ D hN h1 hw
 ·rename_i c; rw [if_neg c] at hw; exact hb E σ τ H1 s1 θ D hN h1 hw
def SD.told (s:SD):Vl→R Vl
 | .d x=> .ok (.d x) s
 | .own x=> .ok (.own x) s
 | .loc k=>match s.sl[k]? with
  | some (some (.own x))=> .ok (.own x) {s with sl:=s.sl.set k none}
  | some (some (.d x))=> .ok (.d x) s
  | _=> .bad
def aN (fa:SD→R Vl):SD→R Fl:=fun s=>(fa s).bind fun a s1=>(s1.told a).bind fun b s2=> .ok (.rt b) s2
theorem Sm.move {i:Nat} (h:Sm G E m p (w++ [some v]) (ŵ++ [some (.loc i)]) S) (q:ŵ[i]? =some (some (.own x))) (hl:w.length=ŵ.length) (hm:m≤w.length) (hn:∀(k j:Nat),ŵ[k]? =some (some (.loc j))→False):
  Sm G E m p (w++ [some v]) (ŵ.set i none++ [some (.own x)]) S:=by
 obtain ⟨u,e1,r1,r2,r3⟩:=h.ent _ _ (af (l:=ŵ))
 rw [←hl,af] at e1; cases e1
 have hi:=ae q
 rw [List.getElem?_append_left (by omega)] at r3
 have q' :(ŵ++ [some (Vl.loc i)])[i]? =some (some (.own x)):=aU q
 have r3' :(w++ [some v])[i]? =some (some v):=aU r3
 refine h.pick (fun k=>if k=ŵ.length then i else k) (by simp [hl]) (fun k e q1=>?_) (fun j k y z h1 h2 e=>?_) fun k hk=>rfl
 ·rcases aE q1 with q1 | ⟨rfl,qq⟩
  ·rcases dO q1 with ⟨rfl,qq⟩ | ⟨c,q1⟩
   ·cases qq
   ·rw [if_neg (by have:=ae q1; omega)]
    exact ⟨aU q1,rfl,id⟩
  ·obtain rfl:=Option.some.inj qq
   simp only [List.length_set,if_true]
   exact ⟨q',by rw [←hl,af,r3'],fun z=>by omega⟩
 ·have ni:∀{j:Nat} {y:D},(ŵ.set i none++ [some (Vl.own x)])[j]? =some (some (.own y))→j≠i:=fun {j y} q1=>by
   rcases aE q1 with q1 | ⟨rfl,qq⟩
   ·rcases dO q1 with ⟨rfl,qq⟩ | ⟨c,q1⟩
    ·cases qq
    ·exact fun z=>c z.symm
   ·simp; omega
  have:=ni h1
  have:=ni h2
  split at e<;> split at e<;> omega
theorem told_ok {E:En} {s:SD} {a b:Vl} {s' :SD} {θ:List Vl} (c:s.told a= .ok b s') (hn:Nl θ) (hR:Rel G E σ (τ++ [v]) H s (θ++ [a])):Rel G E σ (τ++ [v]) H s' (θ++ [b])∧∀j,b≠ .loc j:=by
 cases a with
 | d x=>cases c; exact ⟨hR,fun j q=>nomatch q⟩
 | own x=>cases c; exact ⟨hR,fun j q=>nomatch q⟩
 | loc k=>
  unfold SD.told at c
  dsimp only at c
  obtain ⟨p,e,hl,h⟩:=hR.unsnoc
  have h0:=h.pop1 (bE hl)
  cases q1:s.sl[k]? with
  | none=>rw [q1] at c; cases c
  | some o=>
   cases o with
   | none=>rw [q1] at c; cases c
   | some z=>
    rw [q1] at c
    have hs:(s.sl++θ.map some)[k]? =some (some z):=by rw [List.getElem?_append_left (ae q1)]; exact q1
    cases z with
    | d y=>
     cases c
     obtain ⟨u,e1,r1,r2,r3⟩:=h.ent _ _ (af (l:=s.sl++θ.map some))
     rw [←aD h.len,af] at e1; cases e1
     rw [List.getElem?_append_left (by simp; omega)] at r3
     obtain ⟨u,e2,r⟩:=h0.ent k _ hs
     rw [r3] at e2; cases e2
     exact ⟨.snoc (h0.push r) hl e,fun j q=>nomatch q⟩
    | own y=>
     cases c
     have q:=h.move hs (aD h.len) (bE hl) fun k' j' z=>Be h0 hn z
     rw [cm (ae q1)] at q
     refine ⟨.snoc (s:= {s with sl:=s.sl.set k none}) ?_ (by simp [hl]) e,fun j q=>nomatch q⟩
     show Sm G E (s.sl.set k none).length _ _ _ _
     rw [List.length_set]
     exact q
    | loc j=>cases c
theorem told_nx:∀(s:SD) (a:Vl) c fs s',s.told a≠ .ex c fs s' :=by
 intro s a c fs s'
 cases a with
 | d x=>intro q; cases q
 | own x=>intro q; cases q
 | loc k=>
  unfold SD.told
  dsimp only
  split<;> intro q<;> cases q
theorem RS.ret {te:TE} {fa:SD→R Vl} (ha:RE G W te fa):RS G W (tRet te) (aN fa):=by
 intro E σ τ H s θ D hN hR hw
 unfold aN at hw
 rw [ab] at hw
 refine ha E σ τ H s θ _ hN hR (hw.mono (fun a s1 hw v H1 h1=>?_) fun _ _ _ h=>h)
 rw [ab] at hw
 cases e:s1.told a with
 | bad=>rw [e] at hw; exact hw.elim
 | ex c fs s2=>exact (told_nx _ _ _ _ _ e).elim
 | ok b s2=>
  rw [e] at hw
  obtain ⟨h2,_⟩:=told_ok e hN h1
  exact hw.2 _ _ _ h2
def zRetN:SD→R Fl:=fun s=> .ok (.rt (.d .non)) s
def aH (fa:SD→R Vl):SD→R Fl:=fun s=>(fa s).bind fun _ s1=> .ok .nx s1
theorem RS.drop {te:TE} {fa:SD→R Vl} (ha:RE G W te fa):RS G W (tDrop te) (aH fa):=by
 intro E σ τ H s θ D hN hR hw
 unfold aH at hw
 rw [ab] at hw
 exact ha E σ τ H s θ _ hN hR (hw.mono (fun a s1 hw v H1 h1=>hw _ _ h1.pop) fun _ _ _ h=>h)
def zPar (i j:Nat) (fr:SD→R (List D)):SD→R Fl:=fun s=>(fr s).bind fun ds s1=>match ds with
 | [x,y]=> .ok .nx {s1 with sl:=cM [i,j] [x,y] s1.sl}
 | _=> .bad
end
structure Src where
 hs:List Vl
 ok:SD→Prop
 ds:List D
def Walk (G:Gc) (E:En) (J:It) (src:Src) (vs:List V):Prop:=∀(i:Nat) (σ:L2.St) (τ τ2:List V) (θ θ2:List Vl) (H:Hp) (s:SD),τ.length=θ.length→τ2.length=θ2.length→Rel G E σ (τ++vs++τ2) H s (θ++src.hs++θ2)→src.ok s→
 (∀d,src.ds[i]? =some d→J.go i H∧∀x H',J.yld i H x H'→Rel G E σ (τ++vs++τ2++ [x]) H' s (θ++src.hs++θ2++ [.d d]))∧(src.ds[i]? =none→J.stop i H)
def EnLe (G:Gc) (E E' :En):Prop:=∀(m:Nat) (p:Wr) (w:List (Option V)) (ŵ:List (Option Vl)) (S:Sto),Sm G E' m p w ŵ S→Sm G E m p w ŵ S
def RI (G:Gc) (W:WX) (wi:TI) (fi:SD→R Src):Prop:=∀(E:En) (σ:L2.St) (τ:List V) (H:Hp) (s:SD) (θ:List Vl) (Q:It→Hp→Prop),Nl θ→Rel G E σ τ H s θ→
 Wp (fi s) (fun src s' =>∀vs H' J E',EnLe G E E'→vs.length=src.hs.length→Rel G E' σ (τ++vs) H' s' (θ++src.hs)→Walk G E' J src vs→Q J H') (XP G W E τ θ)→wi σ H Q
section
variable {G:Gc} {W:WX} {E:En} {σ σ' :L2.St} {τ τ2:List V} {H:Hp} {s:SD} {θ θ2:List Vl} {v:V} {a b:Vl} {x y:D} {p:Wr} {Q:VK} {m:Nat} {k:Nat}
theorem Rel.at1 (h:Rel G E σ (τ++ [v]++τ2) H s (θ++ [a]++θ2)) (ht:τ.length=θ.length):∃p:Wr,p.H=H∧σ.length=s.sl.length∧Sm G E s.sl.length p (σ++(τ++ [v]++τ2).map some) (s.sl++(θ++ [a]++θ2).map some) s.st∧∀x,s.cont a=some x→Cont G p x v:=by
 obtain ⟨p,e,hl,h⟩:=h
 refine ⟨p,e,hl,h,fun x c=>?_⟩
 have e1:σ++(τ++ [v]++τ2).map some=(σ++τ.map some)++some v::τ2.map some:=by simp
 have e2:s.sl++(θ++ [a]++θ2).map some=(s.sl++θ.map some)++some a::θ2.map some:=by simp
 have hA:(σ++τ.map some).length=(s.sl++θ.map some).length:=by simp [hl,ht]
 refine h.cont rfl (k:=(s.sl++θ.map some).length) ?_ ?_ c
 ·rw [e2,List.getElem?_append_right (Nat.le_refl _)]; simp
 ·rw [e1,←hA,List.getElem?_append_right (Nat.le_refl _)]; simp
noncomputable def cZ (fa:SD→R Vl):SD→R Src:=fun s=>(fa s).bind fun a s1=>match s1.cont a with
 | some (.lst ds)=> .ok ⟨[a],fun s=>s.cont a=some (.lst ds),ds⟩ s1
 | some (.con ds)=> .ok ⟨[a],fun s=>s.cont a=some (.con ds),ds⟩ s1
 | _=> .bad
theorem RI.lst {te:TE} {fa:SD→R Vl} (ha:RE G W te fa):RI G W (iList G.K te) (cZ fa):=by
 intro E σ τ H s θ Q hN hR hw
 unfold cZ at hw
 rw [ab] at hw
 refine ha E σ τ H s θ _ hN hR (hw.mono (fun a s1 hw v H1 h1=>?_) fun _ _ _ h=>h)
 have h0:=h1
 obtain ⟨p,rfl,hl,h⟩:=h1.unsnoc
 obtain ⟨h2,c,_⟩:=cT hl h
 split at hw
 ·rename_i ds e
  obtain ⟨b,vs,rfl,hb,r⟩:=(c _ e).lst
  refine ⟨b,rfl,⟨vs, .of hb⟩,hw [.ref b] _ _ E (fun _ _ _ _ _ h=>h) rfl h0 fun i σ τ τ2 θ θ2 H s ht ht2 h ok=>?_⟩
  obtain ⟨p',rfl,hl',hS,c'⟩:=h.at1 ht
  obtain ⟨b',vs',e',hb',r'⟩:=(c' _ ok).lst
  cases e'
  refine ⟨fun d e=>?_,fun e=>⟨vs', .of hb',List.getElem?_eq_none_iff.mp (r'.none e)⟩⟩
  obtain ⟨v,e1,r1⟩:=r'.get e
  refine ⟨⟨vs',v, .of hb',e1⟩,fun x H' y=>?_⟩
  obtain ⟨rfl,y⟩:=y
  have:=y vs' (.of hb')
  rw [e1] at this; cases this
  exact .snoc (hS.push r1) hl' rfl
 ·rename_i ds e
  obtain ⟨b,vs,rfl,hb,r⟩:=(c _ e).con
  refine ⟨b,rfl,⟨vs,hb⟩,hw [.ref b] _ _ E (fun _ _ _ _ _ h=>h) rfl h0 fun i σ τ τ2 θ θ2 H s ht ht2 h ok=>?_⟩
  obtain ⟨p',rfl,hl',hS,c'⟩:=h.at1 ht
  obtain ⟨b',vs',e',hb',r'⟩:=(c' _ ok).con
  cases e'
  refine ⟨fun d e=>?_,fun e=>⟨vs',hb',List.getElem?_eq_none_iff.mp (r'.none e)⟩⟩
  obtain ⟨v,e1,r1⟩:=r'.get e
  refine ⟨⟨vs',v,hb',e1⟩,fun x H' y=>?_⟩
  obtain ⟨rfl,y⟩:=y
  have:=y vs' (hb')
  rw [e1] at this; cases this
  exact .snoc (hS.push r1) hl' rfl
 ·exact hw.elim
noncomputable def zItT (fa:SD→R Vl):SD→R Src:=fun s=>(fa s).bind fun a s1=>match s1.cont a with
 | some (.tup ds)=> .ok ⟨[a],fun s=>s.cont a=some (.tup ds),ds⟩ s1
 | _=> .bad
theorem RI.tup {te:TE} {fa:SD→R Vl} (ha:RE G W te fa):RI G W (iTup G.K te) (zItT fa):=by
 intro E σ τ H s θ Q hN hR hw
 unfold zItT at hw
 rw [ab] at hw
 refine ha E σ τ H s θ _ hN hR (hw.mono (fun a s1 hw v H1 h1=>?_) fun _ _ _ h=>h)
 have h0:=h1
 obtain ⟨p,rfl,hl,h⟩:=h1.unsnoc
 obtain ⟨h2,c,_⟩:=cT hl h
 split at hw
 ·rename_i ds e
  obtain ⟨b,vs,rfl,hb,r⟩:=(c _ e).tup
  refine ⟨b,rfl,⟨vs, .of hb⟩,hw [.ref b] _ _ E (fun _ _ _ _ _ h=>h) rfl h0 fun i σ τ τ2 θ θ2 H s ht ht2 h ok=>?_⟩
  obtain ⟨p',rfl,hl',hS,c'⟩:=h.at1 ht
  obtain ⟨b',vs',e',hb',r'⟩:=(c' _ ok).tup
  cases e'
  refine ⟨fun d e=>?_,fun e=>⟨vs', .of hb',List.getElem?_eq_none_iff.mp (r'.none e)⟩⟩
  obtain ⟨v,e1,r1⟩:=r'.get e
  refine ⟨⟨vs',v, .of hb',e1⟩,fun x H' y=>?_⟩
  obtain ⟨rfl,y⟩:=y
  have:=y vs' (.of hb')
  rw [e1] at this; cases this
  exact .snoc (hS.push r1) hl' rfl
 ·exact hw.elim
def signs (z:Str):List D:=z.cps.toList.map fun c=> .str ⟨#[c]⟩
def zItS (fa:SD→R Vl):SD→R Src:=fun s=>(fa s).bind fun a s1=>match a with
 | .d (.str z)=> .ok ⟨[a],fun _=>True,signs z⟩ s1
 | _=> .bad
theorem RI.str {te:TE} {fa:SD→R Vl} (ha:RE G W te fa):RI G W (iStr te) (zItS fa):=by
 intro E σ τ H s θ Q hN hR hw
 unfold zItS at hw
 rw [ab] at hw
 refine ha E σ τ H s θ _ hN hR (hw.mono (fun a s1 hw v H1 h1=>?_) fun _ _ _ h=>h)
 split at hw
 ·rename_i z
  obtain ⟨p,rfl,r⟩:=h1.last
  obtain rfl:v= .str z:=r
  refine ⟨z,rfl,hw [.str z] _ _ E (fun _ _ _ _ _ h=>h) rfl h1 fun i σ τ τ2 θ θ2 H s ht ht2 h ok=>?_⟩
  have sz:(signs z).length=z.cps.size:=by simp [signs]
  refine ⟨fun d e=>?_,fun e=>?_⟩
  ·have hi:i<z.cps.size:=by rw [←sz]; exact ae e
   refine ⟨hi,fun x H' y=>?_⟩
   obtain ⟨rfl,c,e1,rfl⟩:=y
   unfold signs at e
   rw [List.getElem?_map,Array.getElem?_toList,e1] at e
   cases e
   exact h.push fun _=>rfl
  ·show z.cps.size≤i
   rw [←sz]
   exact List.getElem?_eq_none_iff.mp e
 ·exact hw.elim
def upTo (lo:Int) (n:Nat):List D:=(List.range n).map fun i=> .int (lo+(i:Nat))
theorem vo {lo:Int} {n i:Nat}:(upTo lo n)[i]? =if i<n then some (.int (lo+i)) else none:=by
 unfold upTo
 rw [List.getElem?_map]
 by_cases c:i<n
 ·rw [List.getElem?_range c,if_pos c]; rfl
 ·rw [List.getElem?_eq_none (by simpa using c),if_neg c]; rfl
theorem AA {lo:Int} {n:Nat}:Walk G E (Itr lo n) ⟨[],fun _=>True,upTo lo n⟩ []:=by
 intro i σ τ τ2 θ θ2 H s ht ht2 h ok
 refine ⟨fun d e=>?_,fun e=>?_⟩
 ·rw [vo] at e
  split at e
  ·rename_i c
   cases e
   refine ⟨c,fun x H' y=>?_⟩
   obtain ⟨rfl,rfl⟩:=y
   exact h.push fun _=>rfl
  ·cases e
 ·rw [vo] at e
  split at e
  ·cases e
  ·rename_i c; exact Nat.le_of_not_lt c
def oI:D→Option Int
 | .int i=>some i
 | _=>none
noncomputable def Ap (fr:SD→R (List D)):SD→R Src:=fun s=>(fr s).bind fun ds s1=>match ds with
 | [.int j]=>if -(2 ^ 62)≤j∧j<2 ^ 62 then .ok ⟨[],fun _=>True,upTo 0 j.toNat⟩ s1 else .bad
 | _=> .bad
noncomputable def zRg2 (fr:SD→R (List D)):SD→R Src:=fun s=>(fr s).bind fun ds s1=>match ds with
 | [.int i, .int j]=>if -(2 ^ 62)≤i∧i<2 ^ 62∧ -(2 ^ 62)≤j∧j<2 ^ 62 then .ok ⟨[],fun _=>True,upTo i (j - i).toNat⟩ s1 else .bad
 | _=> .bad
theorem Reps.ints1 {i:Int} {vs:List V} (r:Reps G p [.int i] vs):vs= [.int i]:=by
 obtain ⟨v,r1,rfl,h1,rfl⟩:=r
 rw [show v= .int i from h1]
theorem aaq {t:TA} {fr:SD→R (List D)} (ha:RA G W t fr):RI G W (iRng1 t) (Ap fr):=by
 intro E σ τ H s θ Q hN hR hw
 unfold Ap at hw
 rw [ab] at hw
 refine ha E σ τ H s θ _ hN hR (hw.mono (fun ds s1 hw vs H1 h1=>?_) fun _ _ _ h=>h)
 obtain ⟨p,rfl,hl,h,r⟩:=h1.args hR.tlen
 split at hw
 ·rename_i j
  split at hw
  ·rename_i c
   exact ⟨j,r.ints1,c.1,c.2,hw [] _ _ E (fun _ _ _ _ _ h=>h) rfl (by simpa using (show Rel G E σ τ p.H s1 θ from ⟨p,rfl,hl,h⟩)) AA⟩
  ·exact hw.elim
 ·exact hw.elim
def bO (ds:List D):List D:=ds.zipIdx.map fun q=> .tup [.int (q.2:Nat),q.1]
theorem gU {ds:List D} {i:Nat}:(bO ds)[i]? =ds[i]?.map fun d=> .tup [.int (i:Nat),d]:=by
 unfold bO
 rw [List.getElem?_map,List.getElem?_zipIdx]
 cases ds[i]? <;> simp
noncomputable def nS (fa:SD→R Vl):SD→R Src:=fun s=>(fa s).bind fun a s1=>match s1.cont a with
 | some (.lst ds)=> .ok ⟨[a],fun s=>s.cont a=some (.lst ds),bO ds⟩ s1
 | _=> .bad
theorem RI.enum {te:TE} {fa:SD→R Vl} (ha:RE G W te fa):RI G W (iEnum G.K (tCons te tNil)) (nS fa):=by
 intro E σ τ H s θ Q hN hR hw
 unfold nS at hw
 rw [ab] at hw
 refine ha E σ τ H s θ _ hN hR (hw.mono (fun a s1 hw v H1 h1=>?_) fun _ _ _ h=>h)
 have h0:=h1
 obtain ⟨p,rfl,hl,h⟩:=h1.unsnoc
 obtain ⟨h2,c,_⟩:=cT hl h
 split at hw
 ·rename_i ds e
  obtain ⟨b,vs,rfl,hb,r⟩:=(c _ e).lst
  refine ⟨b,vs,rfl, .of hb,hw [.ref b] _ _ E (fun _ _ _ _ _ h=>h) rfl h0 fun i σ τ τ2 θ θ2 H s ht ht2 h ok=>?_⟩
  obtain ⟨p',rfl,hl',hS,c'⟩:=h.at1 ht
  obtain ⟨b',vs',e',hb',r'⟩:=(c' _ ok).lst
  cases e'
  refine ⟨fun d e=>?_,fun e=>?_⟩
  ·have e:(bO ds)[i]? =some d:=e
   rw [gU] at e
   obtain ⟨d,ee,rfl⟩:=Option.map_eq_some_iff.mp e
   obtain ⟨v,e1,r1⟩:=r'.get ee
   refine ⟨⟨vs',v, .of hb',e1⟩,fun x H' y=>?_⟩
   obtain ⟨T,z,rfl,hT,rfl,y⟩:=y
   have:=y vs' (.of hb')
   rw [e1] at this; cases this
   exact .snoc ((hS.alloc hT).push (x:= .tup [.int (i:Nat),d]) ⟨T,_,rfl,⟨(hS.fresh hT).2,upd_same⟩,_,_,rfl,rfl,_,_,rfl,r1.mono (eF hT),rfl⟩) hl' rfl
  ·have e:(bO ds)[i]? =none:=e
   rw [gU,Option.map_eq_none_iff] at e
   exact ⟨vs', .of hb',List.getElem?_eq_none_iff.mp (r'.none e)⟩
 ·exact hw.elim
noncomputable def zRev (fa:SD→R Vl):SD→R Src:=fun s=>(fa s).bind fun a s1=>match s1.cont a with
 | some (.lst ds)=> .ok ⟨[a],fun s=>s.cont a=some (.lst ds),ds.reverse⟩ s1
 | _=> .bad
theorem EnLe.rel {E' :En} (l:EnLe G E E') (h:Rel G E' σ τ H s θ):Rel G E σ τ H s θ:=let ⟨p,e,hl,h⟩:=h; ⟨p,e,hl,l _ _ _ _ _ h⟩
theorem EnLe.xp {E' :En} (l:EnLe G E E') {c:Str} {fs:List (Str×D)} (h:XP G W E τ θ c fs s):XP G W E' τ θ c fs s:=fun cls d σ' H' ⟨p,e,hl,h1,x⟩=>h cls d σ' H' ⟨p,e,hl,l _ _ _ _ _ h1,x⟩
noncomputable def kH (ok:SD→Prop) (body:D→SD→R Fl):List D→SD→R Fl
 | [],s=>if ok s then .ok .nx s else .bad
 | d::ds,s=>if ok s then (body d s).bind fun fl s1=>match fl with
   | .nx=>kH ok body ds s1
   | .ct=>kH ok body ds s1
   | .bk=> .ok .nx s1
   | .rt a=> .ok (.rt a) s1
  else .bad
noncomputable def eo (fi:SD→R Src) (fz:Vl→SD→R Unit) (fb:SD→R Fl):SD→R Fl:=fun s=>(fi s).bind fun src s1=>if Nl src.hs then kH src.ok (fun d s=>(fz (.d d) s).bind fun _ s2=>fb s2) src.ds s1 else .bad
theorem Nl.app {l l' :List Vl} (h:Nl l) (h' :Nl l'):Nl (l++l'):=fun e he=>(List.mem_append.mp he).elim (h e) (h' e)
theorem RS.for' {is:List Nat} {wi:TI} {g:TG} {tb:TS} {fi:SD→R Src} {fz:Vl→SD→R Unit} {fb:SD→R Fl} (hi:RI G W wi fi) (hg:RG G W is g fz) (hb:RS G W tb fb):RS G W (tFor wi g tb) (eo fi fz fb):=by
 intro E σ τ H s θ D hN hR hw
 unfold eo at hw
 rw [ab] at hw
 refine hi E σ τ H s θ _ hN hR (hw.mono (fun src s1 hw vs H1 J E' el hv h1 wk=>?_) fun _ _ _ h=>h)
 split at hw
 ·rename_i hNs
  have ht:=hR.tlen
  have hN1:Nl (θ++src.hs):=hN.app hNs
  refine ⟨fun i m σ H=>m=src.ds.length - i∧i≤src.ds.length∧∃s,Rel G E' σ (τ++vs) H s (θ++src.hs)∧Wp (kH src.ok (fun d s=>(fz (.d d) s).bind fun _ s2=>fb s2) (src.ds.drop i) s) (FP G E τ θ D) (XP G W E τ θ),⟨src.ds.length,by simp,Nat.zero_le _,s1,h1,by simpa using hw⟩, ?_⟩
  rintro i m σ2 H2 ⟨rfl,hi2,s2,h2,hw2⟩
  have h2' :Rel G E' σ2 (τ++vs++ []) H2 s2 (θ++src.hs++ []):=by simpa using h2
  by_cases c:i<src.ds.length
  ·have ed:src.ds[i]? =some src.ds[i]:=List.getElem?_eq_getElem c
   rw [List.drop_eq_getElem_cons c] at hw2
   unfold kH at hw2
   split at hw2
   ·rename_i ok
    obtain ⟨go,yl⟩:=(wk i σ2 τ [] θ [] H2 s2 ht rfl h2' ok).1 _ ed
    refine .inr ⟨go,fun σ' H' =>∃s,Rel G E' σ' (τ++vs) H' s (θ++src.hs)∧Wp (kH src.ok (fun d s=>(fz (.d d) s).bind fun _ s2=>fb s2) (src.ds.drop (i+1)) s) (FP G E τ θ D) (XP G W E τ θ),fun σ' H' ⟨s,q1,q2⟩=>⟨_,by omega,rfl,by omega,s,q1,q2⟩,fun x H' y=>?_⟩
    have hx:Rel G E' σ2 (τ++vs++ [x]) H' s2 (θ++src.hs++ [.d src.ds[i]]):=by simpa using yl x H' y
    rw [ab,ab] at hw2
    refine hg E' σ2 (τ++vs) H' s2 (θ++src.hs) x _ _ hN1 hx (hw2.mono (fun _ s3 hw3 σ3 H3 h3 _=>?_) fun _ _ _ h=>el.xp (h.upEnd ht))
    refine hb E' σ3 (τ++vs) H3 s3 (θ++src.hs) _ hN1 h3 (hw3.mono (fun fl s4 hw4=>?_) fun _ _ _ h=>el.xp (h.upEnd ht))
    cases fl with
    | nx=>exact fun σ' H' h' =>⟨s4,h',hw4⟩
    | ct=>exact fun σ' H' h' =>⟨s4,h',hw4⟩
    | bk=>exact fun σ' H' h' =>hw4 σ' H' ((el.rel h').dropEnd ht)
    | rt a=>exact ⟨hw4.1,fun σ' v H' h' =>hw4.2 σ' v H' ((el.rel h').dropMid ht)⟩
   ·exact hw2.elim
  ·have e:src.ds[i]? =none:=List.getElem?_eq_none (by omega)
   rw [List.drop_eq_nil_of_le (by omega)] at hw2
   unfold kH at hw2
   split at hw2
   ·rename_i ok
    exact .inl ⟨(wk i σ2 τ [] θ [] H2 s2 ht rfl h2' ok).2 e,hw2 _ _ ((el.rel h2).dropEnd ht)⟩
   ·exact hw2.elim
 ·exact hw.elim
def jC (c:SD→R Bool) (f:SD→R Fl):Nat→SD→R Fl
 | 0,_=> .bad
 | n+1,s=>(c s).bind fun b s1=>if b=true then (f s1).bind fun fl s2=>match fl with
   | .nx=>jC c f n s2
   | .ct=>jC c f n s2
   | .bk=> .ok .nx s2
   | .rt a=> .ok (.rt a) s2
  else .ok .nx s1
noncomputable def zWh (c:SD→R Bool) (f:SD→R Fl):SD→R Fl:=fun s=>if h:∃n,jC c f n s≠ .bad then jC c f (choose h) s else .bad
theorem RS.while' {c:TT} {tb:TS} {fc:SD→R Bool} {fb:SD→R Fl} (hc:RT G W c fc) (hb:RS G W tb fb):RS G W (tWhile c tb) (zWh fc fb):=by
 intro E σ τ H s θ D hN hR hw
 unfold zWh at hw
 split at hw
 ·rename_i hn
  refine ⟨fun m σ H=>∃s,Rel G E σ τ H s θ∧Wp (jC fc fb m s) (FP G E τ θ D) (XP G W E τ θ),⟨_,s,hR,hw⟩, ?_⟩
  rintro m σ2 H2 ⟨s2,h2,hw2⟩
  cases m with
  | zero=>exact hw2.elim
  | succ m=>
   unfold jC at hw2
   rw [ab] at hw2
   refine hc E σ2 τ H2 s2 θ _ hN h2 (hw2.mono (fun b s3 hw3 H3 h3=>?_) fun _ _ _ h=>h)
   split
   ·rename_i cb
    rw [if_pos cb,ab] at hw3
    refine ⟨fun σ' H' =>∃s,Rel G E σ' τ H' s θ∧Wp (jC fc fb m s) (FP G E τ θ D) (XP G W E τ θ),fun σ' H' q=>⟨m,Nat.lt_succ_self m,q⟩, ?_⟩
    refine hb E σ2 τ H3 s3 θ _ hN h3 (hw3.mono (fun fl s4 hw4=>?_) fun _ _ _ h=>h)
    cases fl with
    | nx=>exact fun σ' H' h' =>⟨s4,h',hw4⟩
    | ct=>exact fun σ' H' h' =>⟨s4,h',hw4⟩
    | bk=>exact hw4
    | rt a=>exact hw4
   ·rename_i cb
    rw [if_neg cb] at hw3
    exact hw3 _ _ h3
 ·exact hw.elim
end
def df (l:List (Option Vl)):List Nat→List (Option Vl)
 | []=>l
 | v::vs=>(df l vs).set v none
def SD.wipe (s:SD) (is:List Nat):SD:= {s with sl:=df s.sl is}
def R.nx {α:Type} (m:R α):R α:=match m with
 | .ok a s=> .ok a s
 | _=> .bad
theorem vk {α:Type} {m:R α} {Q:α→SD→Prop} {E:XQ}:Wp m.nx Q E=Wp m Q (fun _ _ _=>False):=by
 cases m<;> rfl
abbrev WF:WX:=fun _ _ _ _=>False
noncomputable def kM (ok:SD→Prop) (fz:Vl→SD→R Unit) (ft:SD→R Bool) (fe:SD→R Vl) (is:List Nat):List D→List D→SD→R (List D)
 | [],acc,s=>if ok s then .ok acc s else .bad
 | d::ds,acc,s=>if ok s then (fz (.d d) s).nx.bind fun _ s1=>(ft s1).nx.bind fun b s2=>if b=true then (fe s2).nx.bind fun a s3=>(s3.fix a).bind fun y s4=>
   if acc.length<sizeLine then kM ok fz ft fe is ds (acc++ [y]) (s4.wipe is) else .bad
   else kM ok fz ft fe is ds acc (s2.wipe is)
  else .bad
noncomputable def zLc (fi:SD→R Src) (fz:Vl→SD→R Unit) (ft:SD→R Bool) (fe:SD→R Vl) (is:List Nat):SD→R Vl:=fun s=>(fi s).bind fun src s1=>if Nl src.hs then (kM src.ok fz ft fe is src.ds [] (s1.wipe is)).nx.bind fun acc s2=> .ok (.own (.lst acc)) s2 else .bad
def fm:SD→R Bool:=fun s=> .ok true s
section
variable {G:Gc} {W:WX} {E:En} {σ σ' σ2:L2.St} {τ:List V} {H:Hp} {s s' :SD} {θ:List Vl} {v u:V} {a b:Vl} {x y:D} {p:Wr} {Q:VK} {m:Nat} {w w' :List (Option V)} {ŵ ŵ' :List (Option Vl)} {S:Sto} {k:Nat} {is:List Nat}
theorem zwipe_len {l:List (Option Vl)}:∀{is:List Nat},(df l is).length=l.length
 | []=>rfl
 | v::vs=>by unfold df; rw [List.length_set,zwipe_len]
theorem jA {l:List (Option Vl)} {i:Nat} {x:Vl}:∀{vs:List Nat},(df l vs)[i]? =some (some x)→l[i]? =some (some x)∧i∉vs
 | [],h=>⟨h,by simp⟩
 | v::vs,h=>by
  unfold df at h
  rcases dO h with ⟨rfl,q⟩ | ⟨c,q⟩
  ·cases q
  ·obtain ⟨h1,h2⟩:=jA q
   exact ⟨h1,by simp only [List.mem_cons,not_or]; exact ⟨fun e=>c e.symm,h2⟩⟩
theorem lb {i:Nat}:∀{vs:List Nat} {σ:L2.St},i∉vs→(wipe σ vs)[i]? =σ[i]?
 | [],_,_=>rfl
 | v::vs,σ,h=>by
  simp only [List.mem_cons,not_or] at h
  unfold wipe
  rw [List.getElem?_set_ne (fun e=>h.1 e.symm),lb h.2]
theorem sJ {i:Nat}:∀{vs:List Nat} {σ:L2.St},i∈vs→i<σ.length→(wipe σ vs)[i]? =some none
 | v::vs,σ,h,hl=>by
  unfold wipe
  by_cases c:v=i
  ·subst c
   rw [List.getElem?_set_self (by rw [wipe_length]; exact hl)]
  ·rw [List.getElem?_set_ne c,sJ ((List.mem_cons.mp h).resolve_left fun e=>c e.symm) hl]
theorem qN (o:Only is σ σ'):wipe σ' is=wipe σ is:=by
 apply List.ext_getElem?
 intro i
 by_cases c:i∈is
 ·by_cases l:i<σ.length
  ·rw [sJ c (by rw [o.1]; exact l),sJ c l]
  ·rw [List.getElem?_eq_none (by rw [wipe_length,o.1]; omega),List.getElem?_eq_none (by rw [wipe_length]; omega)]
 ·rw [lb c,lb c,o.2 i c]
theorem xB:wipe (wipe σ is) is=wipe σ is:=qN ⟨wipe_length _ _,fun _ h=>lb h⟩
theorem Sm.repl (h:Sm G E m p w ŵ S) (hl:w'.length=w.length) (hw:∀(k:Nat) (e:Vl),ŵ[k]? =some (some e)→w'[k]? =w[k]?) (hn:∀(k j:Nat),ŵ[k]? =some (some (.loc j))→False):Sm G E m p w' ŵ S:=by
 refine {h with len:=hl.trans h.len,ent:=fun k e q=>?_,own:=fun k y a q1 q2=>h.own k y a q1 ((hw _ _ q1).symm.trans q2),sep:=fun j k y z a q1 q2 q3 q4=>h.sep j k y z a q1 q2 ((hw _ _ q1).symm.trans q3) ((hw _ _ q2).symm.trans q4)}
 obtain ⟨v,e1,r⟩:=h.ent k e q
 refine ⟨v,(hw _ _ q).trans e1, ?_⟩
 cases e with
 | d x=>exact r
 | own x=>exact r
 | loc j=>exact (hn k j q).elim
theorem Sm.less (h:Sm G E m p w ŵ S) (hl:ŵ'.length=ŵ.length) (hw:∀(k:Nat) (e:Vl),ŵ'[k]? =some (some e)→ŵ[k]? =some (some e)):Sm G E m p w ŵ' S:=
 {h with len:=h.len.trans hl.symm,ent:=fun k e q=>h.ent k e (hw k e q),own:=fun k y a q1 q2=>h.own k y a (hw _ _ q1) q2,sep:=fun j k y z a q1 q2 q3 q4=>h.sep j k y z a (hw _ _ q1) (hw _ _ q2) q3 q4}
def BL (s:SD) (is:List Nat):Prop:=∀i∈is,∀e,s.sl[i]? ≠some (some e)
theorem dH:BL (s.wipe is) is:=fun i hi e q=>(jA q).2 hi
theorem Rel.wipe (h:Rel G E σ τ H s θ):Rel G E σ τ H (s.wipe is) θ:=by
 obtain ⟨p,e,hl,h⟩:=h
 refine ⟨p,e,hl.trans zwipe_len.symm, ?_⟩
 show Sm G E (df s.sl is).length p _ _ _
 rw [zwipe_len]
 refine h.less (by show (df s.sl is++_).length=_; simp [zwipe_len]) fun k e q=>?_
 have q:(df s.sl is++θ.map some)[k]? =some (some e):=q
 by_cases c:k<s.sl.length
 ·rw [List.getElem?_append_left (by rw [zwipe_len]; exact c)] at q
  rw [List.getElem?_append_left c]
  exact (jA q).1
 ·rw [List.getElem?_append_right (by rw [zwipe_len]; omega),zwipe_len] at q
  rw [List.getElem?_append_right (by omega)]
  exact q
theorem Rel.repl (h:Rel G E σ τ H s θ) (hn:Nl θ) (hb:BL s is) (o:Only is σ σ'):Rel G E σ' τ H s θ:=by
 obtain ⟨p,e,hl,h⟩:=h
 refine ⟨p,e,o.1.trans hl,h.repl (by simp [o.1]) (fun k e q=>?_) fun k j q=>Be h hn q⟩
 by_cases c:k<s.sl.length
 ·have ni:k∉is:=fun hi=>by
   rw [List.getElem?_append_left c] at q
   exact hb k hi e q
  rw [List.getElem?_append_left (by rw [o.1,hl]; exact c),List.getElem?_append_left (by rw [hl]; exact c),o.2 k ni]
 ·rw [List.getElem?_append_right (by rw [o.1,hl]; omega),List.getElem?_append_right (by rw [hl]; omega),o.1]
theorem only_wipe:Only is σ (wipe σ is):=⟨wipe_length _ _,fun _ h=>lb h⟩
theorem Only.symm (o:Only is σ σ'):Only is σ' σ:=⟨o.1.symm,fun k h=>(o.2 k h).symm⟩
theorem Only.trans (o:Only is σ σ') (o' :Only is σ' σ2):Only is σ σ2:=⟨o'.1.trans o.1,fun k h=>(o'.2 k h).trans (o.2 k h)⟩
theorem Rel.grow {D0:Addr} {acc:List D} (h:Rel G E σ (τ++ [.ref D0]++ [v]) H s (θ++ [.own (.lst acc)]++ [.d x])) (ht:τ.length=θ.length):
  ∃vs,H D0=some (.lst vs)∧vs.length=acc.length∧Rel G E σ (τ++ [.ref D0]) (upd H D0 (.lst (vs++ [v]))) s (θ++ [.own (.lst (acc++ [x]))]):=by
 obtain ⟨p,rfl,hl,h⟩:=h.unsnoc
 rw [List.map_append,List.map_append,←List.append_assoc,←List.append_assoc,show List.map some [V.ref D0]= [some (.ref D0)] from rfl,show List.map some [Vl.own (.lst acc)]= [some (.own (.lst acc))] from rfl] at h
 have l:(σ++τ.map some).length=(s.sl++θ.map some).length:=by simp [hl,ht]
 obtain ⟨u,e1,r⟩:=h.ent _ _ (af (l:=(s.sl++θ.map some)++ [some (.own (.lst acc))]))
 rw [←aD h.len] at e1
 rw [af] at e1
 cases e1
 have q1:(((s.sl++θ.map some)++ [some (Vl.own (.lst acc))])++ [some (.d x)])[(s.sl++θ.map some).length]? =some (some (.own (.lst acc))):=aU af
 have q2:(((σ++τ.map some)++ [some (V.ref D0)])++ [some v])[(s.sl++θ.map some).length]? =some (some (.ref D0)):=aU (by rw [←l]; exact af)
 obtain ⟨u,e2,D1,e3,vs,e4,r4⟩:=h.ent _ _ q1
 rw [q2] at e2
 cases e2
 cases e3
 refine ⟨vs,e4,r4.len, ?_⟩
 have o1:=(h.own _ _ _ q1 q2).1
 have l' :=cG (p:=p) (o:= .lst (vs++ [v])) o1
 have h2:=h.write (y:= .lst (acc++ [x])) (o:= .lst (vs++ [v])) q1 q2 ⟨_,upd_same,(r4.mono l').append (Reps.one (Rep.mono l' r))⟩
 rw [show (((s.sl++θ.map some)++ [some (Vl.own (.lst acc))])++ [some (Vl.d x)]).set (s.sl++θ.map some).length (some (.own (.lst (acc++ [x]))))=((s.sl++θ.map some)++ [some (.own (.lst (acc++ [x])))])++ [some (.d x)] from by
  rw [cm (by simp)]
  congr 1
  exact gR] at h2
 exact .snoc (h2.pop1 (by simp; omega)) hl rfl
def RIat (G:Gc) (W:WX) (E:En) (wi:TI) (fi:SD→R Src):Prop:=∀(σ:L2.St) (τ:List V) (H:Hp) (s:SD) (θ:List Vl) (Q:It→Hp→Prop),Nl θ→Rel G E σ τ H s θ→
 Wp (fi s) (fun src s' =>∀vs H' J E',EnLe G E E'→vs.length=src.hs.length→Rel G E' σ (τ++vs) H' s' (θ++src.hs)→Walk G E' J src vs→Q J H') (XP G W E τ θ)→wi σ H Q
def REat (G:Gc) (W:WX) (E:En) (t:TE) (fe:SD→R Vl):Prop:=∀(σ:L2.St) (τ:List V) (H:Hp) (s:SD) (θ:List Vl) (Q:VK),Nl θ→Rel G E σ τ H s θ→
 Wp (fe s) (fun a s' =>∀v H',Rel G E σ (τ++ [v]) H' s' (θ++ [a])→Q v H') (XP G W E τ θ)→t σ H Q
def RTs (G:Gc) (E:En) (is:List Nat) (σ:L2.St) (tt:TT) (ft:SD→R Bool):Prop:=∀(E' :En),EnLe G E E'→∀(σ3:L2.St),Only is σ3 σ→∀(τ:List V) (H:Hp) (s:SD) (θ:List Vl) (Q:Bool→Hp→Prop),Nl θ→Rel G E' σ3 τ H s θ→
 Wp (ft s) (fun b s' =>∀H',Rel G E' σ3 τ H' s' θ→Q b H') (XP G WF E' τ θ)→tt σ3 H Q
theorem lc_atE {wi:TI} {g:TG} {tt:TT} {te:TE} {fi:SD→R Src} {fz:Vl→SD→R Unit} {ft:SD→R Bool} {fe:SD→R Vl} (hi:RIat G W E wi fi) (hg:RG G WF is g fz) (he:RE G WF te fe) (σ:L2.St) (hT:RTs G E is σ tt ft) (τ:List V) (H:Hp) (s:SD) (θ:List Vl) (Q:VK) (hN:Nl θ) (hR:Rel G E σ τ H s θ)
  (hw:Wp (zLc fi fz ft fe is s) (fun a s' =>∀v H',Rel G E σ (τ++ [v]) H' s' (θ++ [a])→Q v H') (XP G W E τ θ)):tLc wi g tt te is σ H Q:=by
 unfold zLc at hw
 rw [ab] at hw
 refine hi σ τ H s θ _ hN hR (hw.mono (fun src s1 hw vs H1 J E' el hv h1 wk=>?_) fun _ _ _ h=>h)
 split at hw
 ·rename_i hNs
  have ht:=hR.tlen
  have ht1:(τ++vs).length=(θ++src.hs).length:=by simp [ht,hv]
  have hN1:Nl (θ++src.hs):=hN.app hNs
  intro D0 hD
  have h2:Rel G E' σ ((τ++vs)++ [.ref D0]) (upd H1 D0 (.lst [])) (s1.wipe is) ((θ++src.hs)++ [.own (.lst [])]):=by
   obtain ⟨p,rfl,hl,h⟩:=h1.wipe (is:=is)
   exact .snoc (h.allocOwn hD ⟨[],upd_same,rfl⟩) hl rfl
  let P:List D→SD→Prop:=fun acc s2=>∀u H',Rel G E σ (τ++ [u]) H' s2 (θ++ [.own (.lst acc)])→Q u H'
  refine ⟨fun i m H=>m=src.ds.length - i∧i≤src.ds.length∧∃s acc,Rel G E' σ ((τ++vs)++ [.ref D0]) H s ((θ++src.hs)++ [.own (.lst acc)])∧BL s is∧Wp (kM src.ok fz ft fe is (src.ds.drop i) acc s) P (fun _ _ _=>False),⟨src.ds.length,by simp,Nat.zero_le _,s1.wipe is,[],h2,dH, ?_⟩, ?_⟩
  ·rw [ab,vk] at hw
   rw [List.drop_zero]
   exact hw
  ·rintro i m H2 ⟨rfl,hi2,s2,acc,h2,hb2,hw2⟩
   have hNo:Nl ((θ++src.hs)++ [.own (.lst acc)]):=hN1.snoc fun _ q=>nomatch q
   have h3:=h2.repl (σ' :=wipe σ is) hNo hb2 only_wipe
   by_cases c:i<src.ds.length
   ·have ed:src.ds[i]? =some src.ds[i]:=List.getElem?_eq_getElem c
    rw [List.drop_eq_getElem_cons c] at hw2
    unfold kM at hw2
    split at hw2
    ·rename_i ok
     obtain ⟨go,yl⟩:=(wk i (wipe σ is) τ [.ref D0] θ [.own (.lst acc)] H2 s2 ht rfl h3 ok).1 _ ed
     refine .inr ⟨go,fun H' =>∃s acc,Rel G E' σ ((τ++vs)++ [.ref D0]) H' s ((θ++src.hs)++ [.own (.lst acc)])∧BL s is∧Wp (kM src.ok fz ft fe is (src.ds.drop (i+1)) acc s) P (fun _ _ _=>False),fun H' ⟨s,acc,q1,q2,q3⟩=>⟨_,by omega,rfl,by omega,s,acc,q1,q2,q3⟩,fun x H' y=>?_⟩
     have hx:=yl x H' y
     rw [ab,vk] at hw2
     refine hg E' (wipe σ is) _ H' s2 _ x _ _ hNo hx (hw2.mono (fun _ s3 hw3 σ3 H3 h3 o3=>?_) fun _ _ _ h=>h.elim)
     have ow:Only is σ3 σ:=o3.symm.trans only_wipe.symm
     refine ⟨(qN o3).trans xB, ?_⟩
     rw [ab,vk] at hw3
     refine hT E' el σ3 ow _ H3 s3 _ _ hNo h3 (hw3.mono (fun b s4 hw4 H4 h4=>?_) fun _ _ _ h=>h.elim)
     split
     ·rename_i cb
      rw [if_pos cb,ab,vk] at hw4
      refine RE.fix he E' σ3 _ H4 s4 _ _ hNo h4 ?_
      unfold aR xa
      rw [ab]
      refine hw4.mono (fun a s5 hw5=>?_) fun _ _ _ h=>h.elim
      rw [ab] at hw5 ⊢
      cases e5:s5.fix a with
      | bad=>rw [e5] at hw5; exact hw5.elim
      | ex _ _ _=>exact (vV _ _ _ _ _ e5).elim
      | ok y s6=>
       rw [e5] at hw5
       intro v H5 h5
       have hw5:Wp (if acc.length<sizeLine then _ else _) _ _:=hw5
       split at hw5
       ·rename_i hz
        obtain ⟨av,e6,hl6,h6⟩:=h5.grow ht1
        refine ⟨av,e6,by rw [hl6]; exact hz,s6.wipe is,acc++ [y], ?_,dH,hw5⟩
        exact (h6.wipe (is:=is)).repl (hN1.snoc fun _ q=>nomatch q) dH ow
       ·exact hw5.elim
     ·rename_i cb
      rw [if_neg cb] at hw4
      exact ⟨s4.wipe is,acc,(h4.wipe (is:=is)).repl hNo dH ow,dH,hw4⟩
    ·exact hw2.elim
   ·have e:src.ds[i]? =none:=List.getElem?_eq_none (by omega)
    rw [List.drop_eq_nil_of_le (by omega)] at hw2
    unfold kM at hw2
    split at hw2
    ·rename_i ok
     exact .inl ⟨(wk i (wipe σ is) τ [.ref D0] θ [.own (.lst acc)] H2 s2 ht rfl h3 ok).2 e,hw2 _ _ ((el.rel h2).dropMid ht)⟩
    ·exact hw2.elim
 ·exact hw.elim
theorem lc_at {wi:TI} {g:TG} {tt:TT} {te:TE} {fi:SD→R Src} {fz:Vl→SD→R Unit} {ft:SD→R Bool} {fe:SD→R Vl} (hi:RIat G W E wi fi) (hg:RG G WF is g fz) (hT:RT G WF tt ft) (he:RE G WF te fe):REat G W E (tLc wi g tt te is) (zLc fi fz ft fe is):=fun σ τ H s θ Q hN hR hw=>lc_atE hi hg he σ (fun E' _ σ3 _=>hT E' σ3) τ H s θ Q hN hR hw
theorem aal {wi:TI} {g:TG} {tt:TT} {te:TE} {fi:SD→R Src} {fz:Vl→SD→R Unit} {ft:SD→R Bool} {fe:SD→R Vl} (hi:RI G W wi fi) (hg:RG G WF is g fz) (hT:RT G WF tt ft) (he:RE G WF te fe):RE G W (tLc wi g tt te is) (zLc fi fz ft fe is):=fun E=>lc_at (hi E) hg hT he
theorem aak:RT G W tYes fm:=fun _ _ _ _ _ _ _ _ hR hw=>hw _ hR
end
def SD.mod (s:SD) (y:D):Vl→R Unit
 | .d (.cell i)=> .ok () {s with st:=s.st.put i y}
 | .loc k=>match s.sl[k]? with
  | some (some (.own _))=> .ok () {s with sl:=s.sl.set k (some (.own y))}
  | some (some (.d (.cell i)))=> .ok () {s with st:=s.st.put i y}
  | _=> .bad
 | _=> .bad
section
variable {G:Gc} {W:WX} {E:En} {σ:L2.St} {τ:List V} {H:Hp} {s s' :SD} {θ:List Vl} {v u:V} {a b:Vl} {x y:D} {p:Wr} {Q:VK} {m:Nat} {w:List (Option V)} {k:Nat} {l:List (Option Vl)}
theorem mod_ok {c:D} (h:Sm G E s.sl.length p w (s.sl++l) s.st) (q:(s.sl++l)[k]? =some (some a)) (qv:w[k]? =some (some v)) (hc:s.cont a=some c) (hm:s.mod y a= .ok () s'):
  ∃b,v= .ref b∧p.O b∧Ho G p c b∧s'.sl.length=s.sl.length∧∀ho,Ho G {p with H:=upd p.H b ho} y b→Sm G E s'.sl.length {p with H:=upd p.H b ho} w (s'.sl++l) s'.st:=by
 obtain ⟨u,e1,r⟩:=h.ent k a q
 rw [qv] at e1; cases e1
 have cell:∀{i:Nat} {c:D},s.st.get i=some c→s' = {s with st:=s.st.put i y}→v= .ref (p.γ i)→∃b,v= .ref b∧p.O b∧Ho G p c b∧s'.sl.length=s.sl.length∧∀ho,Ho G {p with H:=upd p.H b ho} y b→Sm G E s'.sl.length {p with H:=upd p.H b ho} w (s'.sl++l) s'.st:=fun {i c} hc e ev=>by
  subst e ev
  obtain ⟨o1,o2⟩:=h.cel i c hc
  exact ⟨_,rfl,o1,o2,rfl,fun ho hy=>h.writeCell hc hy⟩
 cases a with
 | d z=>
  cases z with
  | cell i=>
   cases hm
   exact cell hc rfl r.2
  | _=>cases hm
 | own z=>cases hm
 | loc j=>
  obtain ⟨r1,r2,r3⟩:=r
  unfold SD.mod at hm
  unfold SD.cont at hc
  dsimp only at hm hc
  cases q1:s.sl[j]? with
  | none=>rw [q1] at hm; cases hm
  | some o=>
   cases o with
   | none=>rw [q1] at hm; cases hm
   | some z=>
    rw [q1] at hm hc
    obtain ⟨hs,u,e2,r⟩:=h.slot q1
    rw [r3] at e2; cases e2
    cases z with
    | d z=>
     cases z with
     | cell i=>
      cases hm
      exact cell hc rfl r.2
     | _=>cases hm
    | own z=>
     cases hm
     cases hc
     obtain ⟨b,rfl,r⟩:=r
     have o1:=(h.own j _ b hs r3).1
     refine ⟨b,rfl,o1,r,by simp,fun ho hy=>?_⟩
     have q2:=h.write hs r3 hy
     rw [cm (ae q1)] at q2
     show Sm G E (s.sl.set j _).length _ _ _ _
     rw [List.length_set]
     exact q2
    | loc i=>cases hm
theorem nA:∀(s:SD) (y:D) (a:Vl) c fs s',s.mod y a≠ .ex c fs s' :=by
 intro s y a c fs s'
 cases a with
 | d x=>cases x<;> intro q<;> cases q
 | own x=>intro q; cases q
 | loc k=>
  unfold SD.mod
  dsimp only
  split<;> intro q<;> cases q
theorem mod1 {c:D} (hl:σ.length=s.sl.length) (h:Sm G E s.sl.length p ((σ++τ.map some)++ [some v]) ((s.sl++θ.map some)++ [some a]) s.st) (hc:s.cont a=some c) (hm:s.mod y a= .ok () s'):
  ∃b,v= .ref b∧Ho G p c b∧∀ho,(p.le {p with H:=upd p.H b ho}→Ho G {p with H:=upd p.H b ho} y b)→p.le {p with H:=upd p.H b ho}∧σ.length=s'.sl.length∧Sm G E s'.sl.length {p with H:=upd p.H b ho} (σ++τ.map some) (s'.sl++θ.map some) s'.st:=by
 have ll:=aD h.len
 rw [List.append_assoc (as:=s.sl)] at h
 obtain ⟨b,e,o1,ho,hs,go⟩:=mod_ok (k:=(s.sl++θ.map some).length) (v:=v) h (by rw [←List.append_assoc]; exact af) (by rw [←ll]; exact af) hc hm
 refine ⟨b,e,ho,fun ho' hy=>⟨cG o1,hl.trans hs.symm, ?_⟩⟩
 have q:=go ho' (hy (cG o1))
 rw [←List.append_assoc] at q
 exact q.pop1 (by rw [hs]; exact bE hl)
def oB2 (f:D→D→Option (D×D)) (a b:Vl) (s:SD):R Vl:=match b with
 | .d z=>match s.cont a with
  | some c=>match f c z with
   | some (y,r)=>(s.mod y a).bind fun _ s' => .ok (.d r) s'
   | none=> .bad
  | none=> .bad
 | _=> .bad
def oB1 (f:D→Option (D×D)) (a:Vl) (s:SD):R Vl:=match s.cont a with
 | some c=>match f c with
  | some (y,r)=>(s.mod y a).bind fun _ s' => .ok (.d r) s'
  | none=> .bad
 | none=> .bad
def Chg2 (G:Gc) (r:V→V→Hp→VK→Prop) (f:D→D→Option (D×D)):Prop:=∀(p:Wr) (c z y t:D) (b:Addr) (u:V) (Q:VK),f c z=some (y,t)→Ho G p c b→Rep G p z u→
 ∃ho w,Rep G p t w∧(p.le {p with H:=upd p.H b ho}→Ho G {p with H:=upd p.H b ho} y b)∧(Q w (upd p.H b ho)→r (.ref b) u p.H Q)
def Chg1 (G:Gc) (r:V→Hp→VK→Prop) (f:D→Option (D×D)):Prop:=∀(p:Wr) (c y t:D) (b:Addr) (Q:VK),f c=some (y,t)→Ho G p c b→
 ∃ho w,Rep G p t w∧(p.le {p with H:=upd p.H b ho}→Ho G {p with H:=upd p.H b ho} y b)∧(Q w (upd p.H b ho)→r (.ref b) p.H Q)
theorem p_chg2 {r:V→V→Hp→VK→Prop} {f:D→D→Option (D×D)} (hf:Chg2 G r f):dq G r (oB2 f):=by
 intro E σ τ s θ p v u a b Q hl h hw
 unfold oB2 at hw
 split at hw
 ·rename_i z
  split at hw
  ·rename_i c e1
   split at hw
   ·rename_i y t e2
    rw [ab] at hw
    cases e3:s.mod y a with
    | bad=>rw [e3] at hw; exact hw.elim
    | ex _ _ _=>exact (nA _ _ _ _ _ _ e3).elim
    | ok _ s' =>
     rw [e3] at hw
     obtain ⟨u',e4,r4⟩:=h.ent _ _ af
     rw [←aD h.len,af] at e4
     cases e4
     obtain ⟨b,rfl,ho,go⟩:=mod1 hl (h.pop1 (by simp; omega)) e1 e3
     obtain ⟨o',w,r5,hy,k⟩:=hf p c _ y t b u Q e2 ho r4
     obtain ⟨le,hl',hS⟩:=go o' hy
     exact k (hw w _ (.snoc (hS.push (r5.mono le)) hl' rfl))
   ·exact hw.elim
  ·exact hw.elim
 ·exact hw.elim
theorem p_chg1 {r:V→Hp→VK→Prop} {f:D→Option (D×D)} (hf:Chg1 G r f):jy G r (oB1 f):=by
 intro E σ τ s θ p v a Q hl h hw
 unfold oB1 at hw
 split at hw
 ·rename_i c e1
  split at hw
  ·rename_i y t e2
   rw [ab] at hw
   cases e3:s.mod y a with
   | bad=>rw [e3] at hw; exact hw.elim
   | ex _ _ _=>exact (nA _ _ _ _ _ _ e3).elim
   | ok _ s' =>
    rw [e3] at hw
    obtain ⟨b,rfl,ho,go⟩:=mod1 hl h e1 e3
    obtain ⟨o',w,r5,hy,k⟩:=hf p c y t b Q e2 ho
    obtain ⟨le,hl',hS⟩:=go o' hy
    exact k (hw w _ (.snoc (hS.push (r5.mono le)) hl' rfl))
  ·exact hw.elim
 ·exact hw.elim
noncomputable def aL (c z:D):Option (D×D):=match c with
 | .lst ds=>if ds.length<sizeLine then some (.lst (ds++ [z]), .non) else none
 | _=>none
theorem Br:Chg2 G (fun x y H Q=>rAppend x [y] H Q) aL:=by
 intro p c z y t b u Q e ho r
 unfold aL at e
 split at e
 ·split at e
  ·rename_i ds hz
   cases e
   obtain ⟨vs,e1,r1⟩:=ho
   exact ⟨.lst (vs++ [u]), .non,rfl,fun le=>⟨_,upd_same,(r1.mono le).append (Reps.one (Rep.mono le r))⟩,fun q=>⟨b,vs,u,rfl,rfl,e1,by rw [r1.len]; exact hz,q⟩⟩
  ·cases e
 ·cases e
noncomputable def zo (c z:D):Option (D×D):=match c,z with
 | .lst ds, .lst es=>if ds.length+es.length≤sizeLine then some (.lst (ds++es), .non) else none
 | _,_=>none
def fPop (c:D):Option (D×D):=match c with
 | .lst ds=>match ds[ds.length - 1]? with
  | some t=>some (.lst ds.dropLast,t)
  | none=>none
 | _=>none
theorem h_pop:Chg1 G (fun x H Q=>rPop x [] H Q) fPop:=by
 intro p c y t b Q e ho
 unfold fPop at e
 split at e
 ·rename_i ds
  split at e
  ·rename_i e0
   cases e
   obtain ⟨vs,e1,r1⟩:=ho
   obtain ⟨w,e2,r2⟩:=r1.get e0
   have e3:vs.dropLast=vs.take (ds.length - 1):=by rw [List.dropLast_eq_take,r1.len]
   have r3:Reps G p ds.dropLast vs.dropLast:=by rw [e3,List.dropLast_eq_take]; exact r1.take _
   exact ⟨.lst vs.dropLast,w,r2,fun le=>⟨_,upd_same,r3.mono le⟩,fun q=>⟨b,vs,w,rfl,rfl,e1,by rw [r1.len]; exact e2,q⟩⟩
  ·cases e
 ·cases e
def kS (c:D):Option (D×D):=match c with
 | .lst ds=>some (.lst ds.reverse, .non)
 | _=>none
theorem yZ:Chg1 G (fun x H Q=>rReverse x [] H Q) kS:=by
 intro p c y t b Q e ho
 unfold kS at e
 split at e
 ·cases e
  obtain ⟨vs,e1,r1⟩:=ho
  exact ⟨.lst vs.reverse, .non,rfl,fun le=>⟨_,upd_same,r1.reverse.mono le⟩,fun q=>⟨b,vs,rfl,rfl,e1,q⟩⟩
 ·cases e
def sf (c:D):Option (D×D):=match c with
 | .lst ds=>some (.lst [], .non)
 | _=>none
theorem h_clear:Chg1 G (fun x H Q=>rClear x [] H Q) sf:=by
 intro p c y t b Q e ho
 unfold sf at e
 split at e
 ·cases e
  obtain ⟨vs,e1,r1⟩:=ho
  exact ⟨.lst [], .non,rfl,fun le=>⟨_,upd_same,rfl⟩,fun q=>⟨b,vs,rfl,rfl,e1,q⟩⟩
 ·cases e
theorem oB2_nx {f:D→D→Option (D×D)}:∀(a b:Vl) (s:SD) c fs s',oB2 f a b s≠ .ex c fs s' :=by
 intro a b s c fs s'
 unfold oB2
 split
 ·split
  ·split
   ·rename_i y r _
    cases e:s.mod y a with
    | bad=>intro q; cases q
    | ok _ _=>intro q; cases q
    | ex _ _ _=>exact (nA _ _ _ _ _ _ e).elim
   ·intro q; cases q
  ·intro q; cases q
 ·intro q; cases q
theorem yE {f:D→Option (D×D)}:∀(a:Vl) (s:SD) c fs s',oB1 f a s≠ .ex c fs s' :=by
 intro a s c fs s'
 unfold oB1
 split
 ·split
  ·rename_i y r _
   cases e:s.mod y a with
   | bad=>intro q; cases q
   | ok _ _=>intro q; cases q
   | ex _ _ _=>exact (nA _ _ _ _ _ _ e).elim
  ·intro q; cases q
 ·intro q; cases q
def isL (s:SD) (a:Vl):Bool:=match s.cont a with
 | some (.lst _)=>true
 | _=>false
def zM2 (chk:SD→Vl→Bool) (f:Vl→Vl→SD→R Vl) (fa fb:SD→R Vl):SD→R Vl:=fun s=>(fa s).bind fun a s1=>if chk s1 a=true then (fb s1).bind fun b s2=>f a b s2 else .bad
def zM1 (f:Vl→SD→R Vl) (fa:SD→R Vl):SD→R Vl:=z1 f fa
theorem RE.next {tb:TE} {fb:SD→R Vl} {α:Type} {f:Vl→SD→R α} {P:α→SD→Prop} {Q:V→Hp→Prop} (hb:RE G W tb fb) (hN:Nl θ) (hR:Rel G E σ (τ++ [v]) H s (θ++ [a])) (hw:Wp ((fb s).bind fun b s2=>f b s2) P (XP G W E τ θ))
  (k:∀(b:Vl) (s2:SD) (u:V) (H2:Hp),Rel G E σ (τ++ [v]++ [u]) H2 s2 (θ++ [a]++ [b])→Wp (f b s2) P (XP G W E τ θ)→Q u H2):tb σ H Q:=by
 rw [ab] at hw
 by_cases c:∃j,a= .loc j
 ·obtain ⟨j,rfl⟩:=c
  obtain ⟨c1,c2⟩:=hR.unloc
  refine hb E σ τ H s θ _ hN hR.pop (hw.mono (fun b s2 hw u H2 h2=>k _ _ _ _ ?_ hw) fun _ _ _ h=>h)
  exact (h2.reloc c2).swap hR.pop.tlen
 ·exact hb E σ _ H s _ _ (hN.snoc fun j q=>c ⟨j,q⟩) hR (hw.mono (fun b s2 hw u H2 h2=>k _ _ _ _ h2 hw) fun _ _ _ h=>h.up)
theorem RE.bm {T:String} {chk:SD→Vl→Bool} {r:V→List V→Hp→VK→Prop} {f:Vl→Vl→SD→R Vl} {ta tb:TE} {fa fb:SD→R Vl} (hk:∀(p:Wr) (s:SD) (a:Vl) (v:V),chk s a=true→(∀x,s.cont a=some x→Cont G p x v)→tyV G.K T v p.H) (hp:dq G (fun x y H Q=>r x [y] H Q) f)
  (nx:∀a b s c fs s',f a b s≠ .ex c fs s') (ha:RE G W ta fa) (hb:RE G W tb fb):RE G W (tBM G.K T r ta (tCons tb tNil)) (zM2 chk f fa fb):=by
 intro E σ τ H s θ Q hN hR hw
 unfold zM2 at hw
 rw [ab] at hw
 refine ha E σ τ H s θ _ hN hR (hw.mono (fun a s1 hw v H1 h1=>?_) fun _ _ _ h=>h)
 split at hw
 ·rename_i c
  have h0:=h1
  obtain ⟨p,rfl,hl,h⟩:=h1.unsnoc
  refine ⟨hk p s1 a v c (cT hl h).2.1, ?_⟩
  refine RE.next (Q:=fun u H2=>r v [u] H2 Q) hb hN h0 hw fun b s2 u H2 h2 hw=>?_
  obtain ⟨p,rfl,hl,h⟩:=h2.unsnoc
  rw [List.map_append,List.map_append,←List.append_assoc,←List.append_assoc] at h
  refine hp E σ τ s2 θ p v u a b Q hl h ?_
  cases e:f a b s2 with
  | ok b s2=>rw [e] at hw; exact hw
  | ex c fs s2=>exact (nx _ _ _ _ _ _ e).elim
  | bad=>rw [e] at hw; exact hw
 ·exact hw.elim
theorem RE.bm0 {T:String} {r:V→List V→Hp→VK→Prop} {f:Vl→SD→R Vl} {ta:TE} {fa:SD→R Vl} (hp:jy G (fun x H Q=>tyV G.K T x H∧r x [] H Q) f) (nx:∀a s c fs s',f a s≠ .ex c fs s') (ha:RE G W ta fa):RE G W (tBM0 G.K T r ta) (z1 f fa):=RE.op1 (r:=fun x H Q=>tyV G.K T x H∧r x [] H Q) hp nx ha
theorem isL_ty:∀(p:Wr) (s:SD) (a:Vl) (v:V),isL s a=true→(∀x,s.cont a=some x→Cont G p x v)→tyV G.K "list" v p.H:=by
 intro p s a v h c
 unfold isL at h
 split at h
 ·rename_i e
  obtain ⟨b,vs,rfl,hb,_⟩:=(c _ e).lst
  exact .inl ⟨rfl,vs, .of hb⟩
 ·cases h
theorem p_lm0 {r:V→List V→Hp→VK→Prop} {f:D→Option (D×D)} (hf:Chg1 G (fun x H Q=>r x [] H Q) f) (hl:∀c y,f c=some y→∃ds,c= .lst ds):jy G (fun x H Q=>tyV G.K "list" x H∧r x [] H Q) (oB1 f):=p_chg1 fun p c y t b Q e ho=>by
 obtain ⟨ho',w,r1,hy,k⟩:=hf p c y t b Q e ho
 refine ⟨ho',w,r1,hy,fun q=>⟨?_,k q⟩⟩
 obtain ⟨ds,rfl⟩:=hl c _ e
 obtain ⟨vs,e1,_⟩:=ho
 exact .inl ⟨rfl,vs, .of e1⟩
def fDClear (c:D):Option (D×D):=match c with
 | .dct ds=>some (.dct [], .non)
 | _=>none
def iR (G:Gc) (f:Str) (cls:List Str):Prop:=∀c∈cls,∀C,G.mg c=some (.ref C)→Cls G.K C∧NoAttr G.K C f
noncomputable def ba (cls:List Str) (f:Str) (a:Vl) (s:SD):R Vl:=match s.cont a with
 | some (.obj c fs)=>if c∈cls then match fO fs f with
  | some x=> .ok (.d x) s
  | none=> .bad
  else .bad
 | _=> .bad
theorem RE.fld {cls:List Str} {f:Str} {ta:TE} {fa:SD→R Vl} (hf:iR G f cls) (ha:RE G W ta fa):RE G W (tFld G.K ta f) (z1 (ba cls f) fa):=by
 refine RE.op1 (r:=fun x H1 Q=>∃a C dx fs v,x= .ref a∧H1 a=some (.ins C dx fs)∧Cls G.K C∧NoAttr G.K C f∧fs.lookup f=some v∧Q v H1) ?_ ?_ ha
 ·intro E σ τ s θ p v a Q hl h hw
  obtain ⟨h0,ca,_⟩:=cT hl h
  unfold ba at hw
  split at hw
  ·rename_i c fs e
   obtain ⟨b,C,dx,vs,rfl,hm,hb,r⟩:=(ca _ e).obj
   split at hw
   ·rename_i hc
    split at hw
    ·rename_i x e1
     obtain ⟨v,e2,r2⟩:=r.val.1 x e1
     obtain ⟨c1,c2⟩:=hf c hc C hm
     exact ⟨b,C,dx,vs,v,rfl,hb,c1,c2,e2,bf h0 hl hw r2⟩
    ·exact hw.elim
   ·exact hw.elim
  ·exact hw.elim
 ·intro a s c fs s'
  unfold ba
  split
  ·split
   ·split<;> (intro q; cases q)
   ·intro q; cases q
  ·intro q; cases q
noncomputable def fU (cls:List Str) (f:Str) (fo fv:SD→R Vl):SD→R Fl:=fun s=>(fv s).bind fun v s0=>(s0.fix v).bind fun x s1=>(fo s1).bind fun a s2=>match s2.cont a with
 | some (.obj c fs)=>if c∈cls∧fs.length<1000 then (s2.mod (.obj c (jz f x fs)) a).bind fun _ s3=> .ok .nx s3 else .bad
 | _=> .bad
theorem RS.fld {cls:List Str} {f:Str} {ta tv:TE} {fo fv:SD→R Vl} (hf:iR G f cls) (hv:RE G W tv fv) (ho:RE G W ta fo):RS G W (sFld G.K ta tv f) (fU cls f fo fv):=by
 intro E σ τ H s θ D hN hR hw
 unfold fU at hw
 refine RE.fix hv E σ τ H s θ _ hN hR ?_
 unfold aR xa
 rw [ab] at hw ⊢
 refine hw.mono (fun v0 s0 hw=>?_) fun _ _ _ h=>h
 rw [ab] at hw ⊢
 refine hw.mono (fun x s1 hw=>?_) fun _ _ _ h=>h
 intro y H1 h1
 rw [ab] at hw
 refine ho E σ _ H1 s1 _ _ hN.d h1 (hw.mono (fun a s2 hw v H2 h2=>?_) fun _ _ _ h=>h.up)
 obtain ⟨p,rfl,hl,h⟩:=h2.unsnoc
 obtain ⟨h3,ca,_⟩:=cT hl h
 split at hw
 ·rename_i c fs e
  split at hw
  ·rename_i hc
   rw [ab] at hw
   cases e3:s2.mod (.obj c (jz f x fs)) a with
   | bad=>rw [e3] at hw; exact hw.elim
   | ex _ _ _=>exact (nA _ _ _ _ _ _ e3).elim
   | ok _ s' =>
    rw [e3] at hw
    obtain ⟨b,rfl,hO,go⟩:=mod1 hl h e e3
    obtain ⟨C,dx,vs,m,e4,r⟩:=hO
    obtain ⟨c1,c2⟩:=hf c hc.1 C m
    rw [List.map_append,List.map_append,←List.append_assoc,←List.append_assoc] at h3
    obtain ⟨u',e5,ry⟩:=h3.ent _ _ af
    rw [←aD h3.len,show List.map some [y]= [some y] from rfl,af] at e5
    cases e5
    obtain ⟨le,hl',hS⟩:=go (.ins C dx (putF f y vs)) fun le=>⟨C,dx,_,m,upd_same,RepF.put (Rep.mono le ry) (r.mono le)⟩
    refine ⟨b,C,dx,vs,rfl,e4,c1,c2,by rw [r.len]; exact hc.2,hw σ _ (Rel.pop (v:=y) (a:= .d x) ⟨_,rfl,hl',hS⟩)⟩
  ·exact hw.elim
 ·exact hw.elim
end
section
variable {X:Cx} {CX:CXT} {k:Nat} {f C:Addr} {fd:FuncData} {ps:List Str} {sp:Sp} {dvs:List V} {ds:List Value} {E:L2.St→XK} {x m:Str} {pos apos:Pos} {e o:Expr} {es:List Expr} {ta:TE} {t:TA}
def qQ (C:Addr) (m:Str) (sp:Sp) (dvs:List V) (E:L2.St→XK) (ta:TE) (t:TA):TE:=fun σ H Q=>ta σ H fun x H1=>∃a dx fs,x= .ref a∧H1 a=some (.ins C dx fs)∧fs.lookup m=none∧
 t σ H1 fun vs H2=>sp (x::(vs++dvs)) H2 Q (E σ)
theorem yx {pl:Sem Bool} (he:PE X o ta) (c:Cls X.K C) (hm:Meth X.K C m f) (F:FnOk X.prog X.w X.K X.mg X.base CX k f fd ps sp) (hr:Room k X.A) (hb:Binds X.K fd ps ds) (hd:Vals dvs ds) (hx:∀σ,PassesAt CX X σ (E σ)) (ha:PA X (e::es) t)
  (hst:starEach (e::es) X.env=(false,eval e X.env)::starEach es X.env:=by rfl) (hpl:(backTo pos (starEach es X.env)).any (·.1)=false:=by rfl)
  (ht:eval (.Call (.Attribute o m apos) (e::es) [] pos) X.env=(do
   let ov←eval o X.env
   standAt apos.atName
   let (f,first)←holding [ov] (getMethod ov m pl)
   callWith pos f first (backTo pos (starEach (e::es) X.env)) (backToKw pos (keywordEach [] X.env))):=by rfl):
  PE X (.Call (.Attribute o m apos) (e::es) [] pos) (qQ C m sp dvs E ta t):=by
 refine ⟨fun pins s σ H Q I h=>?_⟩
 refine PySem.W.methodCall_KW (pl:=pl) (thn (he.run pins s σ H _ I h) fun u s1 ⟨x,H1,I1,rx,a,dx,fs,ex,ea,l,q⟩=>?_) ht
 subst ex
 obtain rfl:u=Value.ref a:=rx
 refine getmeth_ok I1 ea c hm l ?_
 refine PySem.W.callWith_K (first:= [.ref a]) (h₀:=X.base) I.ok.mod.kin hm.kp (thn (ha.run pos pins s1 σ H1 _ I1 q) fun us s2 ⟨vs,H2,I2,r,q2⟩=>⟨I2.kIn, ?_⟩) hst hpl
 exact run_fnSD (us:= .ref a::us) (vs:= .ref a::vs) F hr hb hd (hx σ) I2 (.cons rfl r) q2
theorem wz {pl:Sem Bool} (he:PE X o ta) (c:Cls X.K C) (hm:Meth X.K C m f) (F:FnOk X.prog X.w X.K X.mg X.base CX k f fd ps sp) (hr:Room k X.A) (hb:Binds X.K fd ps ds) (hd:Vals dvs ds) (hx:∀σ,PassesAt CX X σ (E σ))
  (ht:eval (.Call (.Attribute o m apos) [] [] pos) X.env=(do
   let ov←eval o X.env
   standAt apos.atName
   let (f,first)←holding [ov] (getMethod ov m pl)
   callWith pos f first (backTo pos (starEach [] X.env)) (backToKw pos (keywordEach [] X.env))):=by rfl):
  PE X (.Call (.Attribute o m apos) [] [] pos) (qQ C m sp dvs E ta tNil):=by
 refine ⟨fun pins s σ H Q I h=>?_⟩
 refine PySem.W.methodCall_KW (pl:=pl) (thn (he.run pins s σ H _ I h) fun u s1 ⟨x,H1,I1,rx,a,dx,fs,ex,ea,l,q⟩=>?_) ht
 subst ex
 obtain rfl:u=Value.ref a:=rx
 refine getmeth_ok I1 ea c hm l ?_
 exact PySem.W.callWith_K0 (first:= [.ref a]) I1.kIn hm.kp (run_fnSD (us:= [.ref a]) (vs:= [.ref a]) F hr hb hd (hx σ) I1 (.cons rfl .nil) q)
def tMakeS (C:Addr) (sp:Sp) (dvs:List V) (E:L2.St→XK) (t:TA):TE:=fun σ H Q=>t σ H fun vs H1=>∀x dx,H1 x=none→H1 dx=none→dx≠x→
 sp (.ref x::(vs++dvs)) (upd (upd H1 dx (.own x)) x (.ins C dx [])) (fun v H2=>v= .non∧H2 dx=some (.own x)∧Q (.ref x) H2) (fun cls d H2=>H2 dx=some (.own x)∧E σ cls d H2)
end
def zFn (n:Nat) (body:SD→R Fl) (ds:List D) (S:Sto):R Vl:=match body ⟨starts n ds,S⟩ with
 | .ok .nx s=> .ok (.d .non) s
 | .ok (.rt (.d x)) s=> .ok (.d x) s
 | .ok (.rt (.own x)) s=> .ok (.own x) s
 | .ok _ _=> .bad
 | .ex c fs s=> .ex c fs s
 | .bad=> .bad
abbrev FnV:=List D→Sto→R Vl
def goF (F:FnV) (ds:List D) (s:SD):R Vl:=match F ds s.st with
 | .ok a s' => .ok a {s with st:=s'.st}
 | .ex c fs s' => .ex c fs {s with st:=s'.st}
 | .bad=> .bad
def spF (G:Gc) (n:Nat) (F:FnV):Sp:=fun vs H Q X=>vs.length=n∧∃(E:En) (m:Nat) (p:Wr) (w:List (Option V)) (ŵ:List (Option Vl)) (S:Sto) (ds:List D),p.H=H∧Sm G E m p w ŵ S∧Reps G p ds vs∧
 Wp (F ds S) (fun a s' =>∀v (p' :Wr),Sm G E m p' (w++ [some v]) (ŵ++ [some a]) s'.st→Q v p'.H) (fun c fs s' =>∀cls d (p' :Wr),Sm G E m p' w ŵ s'.st→ExV G p' c fs cls d→X cls d p'.H)
section
variable {P:Program} {w:World} {K:PySem.W.Frag} {mg:Str→Option Value} {base:Heap}
theorem oF {G:Gc} {t:TS} {fz:SD→R Fl} {N:List Str} {n:Nat} {vs:List V} {H:Hp} {Q:VK} {X:XK} (hb:RS G (fun cls d _ H=>X cls d H) t fz) (hs:spF G n (zFn N.length fz) vs H Q X) (hn:n≤N.length):t {nx:=fun _ H' =>Q .non H',rt:=Q} (L2.start N vs) H:=by
 obtain ⟨hl,E,m,p,w,ŵ,S,ds,rfl,h,r,hw⟩:=hs
 have hd:ds.length=n:=by rw [←r.len]; exact hl
 have h0:=h.enter (N:=N) (m' :=N.length) r
 have ls:(starts N.length ds).length=N.length:=by unfold starts; simp; omega
 have hR:Rel G (E.of p S w ŵ) (L2.start N vs) [] p.H ⟨starts N.length ds,S⟩ []:=by
  refine ⟨p,rfl, ?_, ?_⟩
  ·show _=(starts N.length ds).length
   rw [ls]
   unfold L2.start
   simp [hl]
   omega
  ·show Sm G _ (starts N.length ds).length p _ _ _
   rw [ls]
   simpa using h0
 refine hb _ _ [] p.H _ [] _ (fun e h=>absurd h List.not_mem_nil) hR ?_
 unfold zFn at hw
 have push:∀{σ' :L2.St} {v:V} {H' :Hp} {s' :SD} {a:Vl},(∀j,a≠ .loc j)→Rel G (E.of p S w ŵ) σ' ([]++ [v]) H' s' ([]++ [a])→∃p' :Wr,p'.H=H'∧Sm G E m p' (w++ [some v]) (ŵ++ [some a]) s'.st:=fun {σ' v H' s' a} ha hR=>by
  obtain ⟨p',rfl,hl',h'⟩:=hR.unsnoc
  have ll:=aD h'.len
  exact ⟨p',rfl,h.leave h' (k:=(s'.sl++([]:List Vl).map some).length) af (by rw [←ll]; exact af) ha⟩
 cases e:fz ⟨starts N.length ds,S⟩ with
 | bad=>rw [e] at hw; exact hw.elim
 | ex c fs s' =>
  rw [e] at hw
  intro cls d σ' H' hx
  obtain ⟨p',rfl,hl',h',x⟩:=hx
  exact hw cls d p' (h.after h') x
 | ok fl s' =>
  rw [e] at hw
  cases fl with
  | nx=>
   intro σ' H' hR'
   obtain ⟨p',rfl,h'⟩:=push (a:= .d .non) (fun j q=>nomatch q) (hR'.push (x:= .non) (v:= .non) fun _=>rfl)
   exact hw _ _ h'
  | bk=>exact hw.elim
  | ct=>exact hw.elim
  | rt a=>
   cases a with
   | loc j=>exact hw.elim
   | d x=>
    refine ⟨(fun j q=>nomatch q),fun σ' v H' hR' =>?_⟩
    obtain ⟨p',rfl,h'⟩:=push (a:= .d x) (fun j q=>nomatch q) hR'
    exact hw _ _ h'
   | own x=>
    refine ⟨(fun j q=>nomatch q),fun σ' v H' hR' =>?_⟩
    obtain ⟨p',rfl,h'⟩:=push (a:= .own x) (fun j q=>nomatch q) hR'
    exact hw _ _ h'
theorem xW {G:Gc} {n:Nat} {F:FnV}:∀vs H Q E,spF G n F vs H Q E→vs.length=n:=fun _ _ _ _ h=>h.1
theorem fnZ {x qual:Str} {st:Stmt} {f:Addr} {fd:FuncData} {N ps:List Str} {k:Nat} {fz:SD→R Fl} (F:L2.Fun K x qual st f fd) (S:FnScope N ps (L2.defScope st)) (hn:ps.length≤N.length)
  (hbody:∀(cdv:Value) (A:Around) (outer:List Env) (s:Shared) (H:Hp) (E:XK),Room k (A.deeper (envOfC qual (L2.defScope st) s.heap.objs.size f cdv))→
   ∃t,PSs (cxOf (L2.CX P w) P w K mg base N qual (L2.defScope st) f cdv A outer s H E) (L2.defBody st) t∧RS ⟨K,mg⟩ (fun cls d _ H=>E cls d H) t fz):FnOk P w K mg base (L2.CX P w) (k+1) f fd ps (spF ⟨K,mg⟩ ps.length (zFn N.length fz)):=
 F.okX S xW fun cdv A outer s H vs Q E hr h=>by
  obtain ⟨t,h1,h2⟩:=hbody cdv A outer s H E hr
  exact ⟨t,h1,oF h2 h hn⟩
theorem fnZ0 {x qual:Str} {st:Stmt} {f:Addr} {fd:FuncData} {N ps:List Str} {k:Nat} {fz:SD→R Fl} (F:L2.Fun K x qual st f fd) (S:FnScope N ps (L2.defScope st)) (hn:ps.length≤N.length)
  (hbody:∀(cdv:Value) (A:Around) (outer:List Env) (s:Shared) (H:Hp) (E:XK),Room k (A.deeper (envOfC qual (L2.defScope st) s.heap.objs.size f cdv))→
   ∃t,PSs (cxOf L2.CX0 P w K mg base N qual (L2.defScope st) f cdv A outer s H E).nox (L2.defBody st) t∧RS ⟨K,mg⟩ WF t fz):FnOk P w K mg base L2.CX0 (k+1) f fd ps (fun vs H Q E=>spF ⟨K,mg⟩ ps.length (zFn N.length fz) vs H Q (fun _ _ _=>False)):=
 F.ok S (fun _ _ _ _ h=>h.1) fun cdv A outer s H vs Q E hr h=>by
  obtain ⟨t,h1,h2⟩:=hbody cdv A outer s H E hr
  exact ⟨t,h1,oF (X:=fun _ _ _=>False) h2 h hn⟩
end
inductive DvOk:List V→List D→Prop where
 | nil:DvOk [] []
 | cons {v:V} {d:D} {vs:List V} {ds:List D} (h:d.sc=some v) (t:DvOk vs ds):DvOk (v::vs) (d::ds)
section
variable {G:Gc} {W:WX} {E:En} {σ:L2.St} {τ:List V} {H:Hp} {s s' :SD} {θ:List Vl} {v:V} {a b:Vl} {x:D} {p:Wr}
theorem yj (e:x.sc=some v):Rep G p x v:=by
 cases x<;> cases e<;> rfl
theorem DvOk.reps {vs:List V} {ds:List D} (h:DvOk vs ds):Reps G p ds vs:=by
 induction h with
 | nil=>rfl
 | cons h _ ih=>exact ⟨_,_,rfl,yj h,ih⟩
def ag (F:FnV) (dds:List D) (fr:SD→R (List D)):SD→R Vl:=fun s=>(fr s).bind fun ds s1=>goF F (ds++dds) s1
theorem goF_sp {F:FnV} {n:Nat} {ds:List D} {vs:List V} {Q:VK} (h:Sm G E s.sl.length p (σ++τ.map some) (s.sl++θ.map some) s.st) (hl:σ.length=s.sl.length) (r:Reps G p ds vs) (hn:vs.length=n)
  (hw:Wp (goF F ds s) (fun a s' =>∀v H',Rel G E σ (τ++ [v]) H' s' (θ++ [a])→Q v H') (XP G W E τ θ)):spF G n F vs p.H Q (WE W σ):=by
 refine ⟨hn,E,_,p,_,_,s.st,ds,rfl,h,r, ?_⟩
 unfold goF at hw
 cases e:F ds s.st with
 | bad=>rw [e] at hw; exact hw.elim
 | ok a s' =>
  rw [e] at hw
  intro v p' h'
  exact hw v _ (.snoc h' hl rfl)
 | ex c fs s' =>
  rw [e] at hw
  intro cls d p' h' x
  exact hw cls d σ _ ⟨p',rfl,hl,h',x⟩
theorem RE.call {F:FnV} {n:Nat} {dvs:List V} {dds:List D} {t:TA} {fr:SD→R (List D)} {k:Nat} (hd:DvOk dvs dds) (hr:RA G W t fr) (hm:Many fr k) (hn:k+dvs.length=n):RE G W (tCallSD (spF G n F) dvs (WE W) t) (ag F dds fr):=by
 intro E σ τ H s θ Q hN hR hw
 unfold ag at hw
 rw [ab] at hw
 refine hr E σ τ H s θ _ hN hR (hw.eq.mono (fun ds s1 ⟨e,hw⟩ vs H1 h1=>?_) fun _ _ _ h=>h)
 obtain ⟨p,rfl,hl,h,r⟩:=h1.args hR.tlen
 exact goF_sp h hl (r.append hd.reps) (by rw [List.length_append,r.len,hm _ _ _ e]; exact hn) hw
noncomputable def bL (c m:Str) (F:FnV) (dds:List D) (fo:SD→R Vl) (fr:SD→R (List D)):SD→R Vl:=fun s=>(fo s).bind fun a s1=>(s1.fix a).bind fun x s2=>match s2.cont (.d x) with
 | some (.obj c' fs)=>if c' =c∧fO fs m=none then (fr s2).bind fun ds s3=>goF F (x::(ds++dds)) s3 else .bad
 | _=> .bad
theorem RE.meth {c m:Str} {C:Addr} {F:FnV} {n:Nat} {dvs:List V} {dds:List D} {to:TE} {fo:SD→R Vl} {t:TA} {fr:SD→R (List D)} {k:Nat} (hC:G.mg c=some (.ref C)) (hd:DvOk dvs dds) (ho:RE G W to fo) (hr:RA G W t fr) (hm:Many fr k) (hn:k+dvs.length+1=n):
  RE G W (qQ C m (spF G n F) dvs (WE W) to t) (bL c m F dds fo fr):=by
 intro E σ τ H s θ Q hN hR hw
 unfold bL at hw
 refine RE.fix ho E σ τ H s θ _ hN hR ?_
 unfold aR xa
 rw [ab] at hw ⊢
 refine hw.mono (fun a s1 hw=>?_) fun _ _ _ h=>h
 rw [ab] at hw ⊢
 refine hw.mono (fun x s2 hw=>?_) fun _ _ _ h=>h
 intro v H1 h1
 have h0:=h1
 obtain ⟨p,rfl,hl,h⟩:=h1.unsnoc
 obtain ⟨h3,ca,_⟩:=cT hl h
 split at hw
 ·rename_i c' fs e
  split at hw
  ·rename_i hc
   obtain ⟨b,C',dx,vs,rfl,hm',hb,r⟩:=(ca _ e).obj
   rw [hc.1,hC] at hm'
   cases hm'
   refine ⟨b,dx,vs,rfl,hb,r.val.2 hc.2, ?_⟩
   rw [ab] at hw
   refine hr E σ _ p.H s2 _ _ hN.d h0 (hw.eq.mono (fun ds s3 ⟨e,hw⟩ vs H2 h2=>?_) fun _ _ _ h=>h.up)
   have h2' :Rel G E σ (τ++(.ref b::vs)) H2 s3 (θ++(x::ds).map .d):=by simpa using h2
   obtain ⟨p2,rfl,hl2,h4,r2⟩:=h2'.args hR.tlen
   have r3:Reps G p2 (x::(ds++dds)) (.ref b::(vs++dvs)):=by
    obtain ⟨v1,r1,e1,q1,q2⟩:=r2
    cases e1
    exact ⟨_,_,rfl,q1,q2.append hd.reps⟩
   obtain ⟨v1,r1,e1,q1,q2⟩:=r2
   cases e1
   exact goF_sp h4 hl2 r3 (by rw [List.length_cons,List.length_append,q2.len,hm _ _ _ e]; exact hn) hw
  ·exact hw.elim
 ·exact hw.elim
end
section
variable {X:Cx} {CX:CXT} {k:Nat} {f C:Addr} {fd:FuncData} {ps:List Str} {sp:Sp} {dvs:List V} {ds:List Value} {E:L2.St→XK} {x:Str} {p pos:Pos} {e:Expr} {es:List Expr} {t:TA}
def sS (C:Addr) (sp:Sp) (dvs:List V) (E:L2.St→XK) (t:TA):TE:=fun σ H Q=>t σ H fun vs H1=>∀x dx,H1 x=none→H1 dx=none→dx≠x→
 sp (.ref x::(vs++dvs)) (upd (upd H1 dx (.own x)) x (.ins C dx [])) (fun v H2=>v= .non∧Q (.ref x) H2) (E σ)
theorem vx {pins:List (Addr×Obj)} {σ:L2.St} {H:Hp} {s:Shared} {Q:VK} {us:List Value} {vs:List V} (M:Mk X.K C f) (F:FnOk X.prog X.w X.K X.mg X.base CX k f fd ps sp) (hr:Room (k+1) X.A) (hb:Binds X.K fd ps ds) (hd:Vals dvs ds)
  (hx:PassesAt CX X σ (E σ)) (I:Inv X pins σ H s) (r:Vals vs us)
  (h:∀x dx,H x=none→H dx=none→dx≠x→sp (.ref x::(vs++dvs)) (upd (upd H dx (.own x)) x (.ins C dx [])) (fun v H2=>v= .non∧Q (.ref x) H2) (E σ)):
  wpAny (model X.prog X.w) X.A (call (.ref C) us) (EP X pins σ Q) X.xe s:=by
 have hq:=h (s.heap.objs.size+1) s.heap.objs.size (I.hok.fresh (Nat.le_succ _)) (I.hok.fresh (Nat.le_refl _)) (Nat.ne_of_lt (Nat.lt_succ_self _))
 have I2:=Inv.made (C:=C) I
 have r2:Vals (V.ref (s.heap.objs.size+1)::(vs++dvs)) (Value.ref (s.heap.objs.size+1)::(us++ds)):= .cons rfl (r.append hd)
 have hl:(Value.ref (s.heap.objs.size+1)::us++ds).length=ps.length:=by
  have e:=r2.length
  rw [F.len _ _ _ _ hq] at e
  exact e.symm
 refine wpAny_call (make_map (f:=f) I.kIn M.makes M.init (beq_iff_eq.mp M.fn) (codeAny_mono (F.run _ X.stack _ _ ⟨Value.ref (s.heap.objs.size+1)::us,[]⟩ (Value.ref (s.heap.objs.size+1)::(us++ds)) _ _ (E σ) (hr.make C us [])
  (I2.env0.make C us []) (hb _ (Value.ref (s.heap.objs.size+1)::us) I2.kIn hl) r2 hq) fun r s' hq' =>?_))
 cases r with
 | error e=>exact hx pins _ _ e s' I2 hq'
 | ok fl=>
  cases fl with
  | ret u=>
   obtain ⟨v,H',I3,rv,ev,q3⟩:=I2.after hq'
   subst ev
   exact ⟨rv,⟨V.ref (s.heap.objs.size+1),H',I3,rfl,q3⟩⟩
  | next=>exact False.elim hq'
  | brk=>exact False.elim hq'
  | cont=>exact False.elim hq'
theorem pe_makS (M:Mk X.K C f) (F:FnOk X.prog X.w X.K X.mg X.base CX k f fd ps sp) (hr:Room (k+1) X.A) (hg:Gl X x) (hm:X.mg x=some (.ref C)) (hb:Binds X.K fd ps ds) (hd:Vals dvs ds) (hx:∀σ,PassesAt CX X σ (E σ))
  (ha:PA X (e::es) t) (hdb:(x == ("__debug__" :Str))=false:=by decide) (he:starEach (e::es) X.env=(false,eval e X.env)::starEach es X.env:=by rfl) (hpl:(backTo pos (starEach es X.env)).any (·.1)=false:=by rfl):
  PE X (.Call (.Name x p) (e::es) [] pos) (sS C sp dvs E t):=by
 refine ⟨fun pins s σ H Q I h=>?_⟩
 refine wpAny_Call_Name_kw (ld_glob I hg hm ?_ hdb)
 refine PySem.W.callWith_K (h₀:=X.base) I.ok.mod.kin M.kp (thn (ha.run pos pins s σ H _ I h) fun us s1 ⟨vs,H1,I1,r,q⟩=>⟨I1.kIn, ?_⟩) he hpl
 exact vx M F hr hb hd (hx σ) I1 r q
theorem A2 (M:Mk X.K C f) (F:FnOk X.prog X.w X.K X.mg X.base CX k f fd ps sp) (hr:Room (k+1) X.A) (hg:Gl X x) (hm:X.mg x=some (.ref C)) (hb:Binds X.K fd ps ds) (hd:Vals dvs ds) (hx:∀σ,PassesAt CX X σ (E σ))
  (hdb:(x == ("__debug__" :Str))=false:=by decide):PE X (.Call (.Name x p) [] [] pos) (sS C sp dvs E tNil):=by
 refine ⟨fun pins s σ H Q I h=>?_⟩
 refine wpAny_Call_Name_kw (ld_glob I hg hm ?_ hdb)
 exact PySem.W.callWith_K0 I.kIn M.kp (vx (us:= []) M F hr hb hd (hx σ) I .nil h)
end
def jE (c:Str) (F:FnV) (dds:List D) (fr:SD→R (List D)):SD→R Vl:=fun s=>(fr s).bind fun ds s1=>match F (.cell s1.st.nx::(ds++dds)) (s1.st.new (.obj c [])) with
 | .ok (.d .non) s' => .ok (.d (.cell s1.st.nx)) {s1 with st:=s'.st}
 | .ex c fs s' => .ex c fs {s1 with st:=s'.st}
 | _=> .bad
section
variable {G:Gc} {W:WX} {E:En} {σ:L2.St} {τ:List V} {H:Hp} {s s' :SD} {θ:List Vl} {v u:V} {a b:Vl} {x y:D} {p:Wr} {Q:VK}
theorem RE.make {c:Str} {C:Addr} {F:FnV} {n:Nat} {dvs:List V} {dds:List D} {t:TA} {fr:SD→R (List D)} {k:Nat} (hC:G.mg c=some (.ref C)) (hd:DvOk dvs dds) (hr:RA G W t fr) (hm:Many fr k) (hn:k+dvs.length+1=n):
  RE G W (sS C (spF G n F) dvs (WE W) t) (jE c F dds fr):=by
 intro E σ τ H s θ Q hN hR hw
 unfold jE at hw
 rw [ab] at hw
 refine hr E σ τ H s θ _ hN hR (hw.eq.mono (fun ds s1 ⟨e,hw⟩ vs H1 h1=>?_) fun _ _ _ h=>h)
 obtain ⟨p,rfl,hl,h,r⟩:=h1.args hR.tlen
 intro x dx hx hdx hne
 have q1:=h.alloc (o:= .own x) hdx
 have hx' :({p with H:=upd p.H dx (.own x)}:Wr).H x=none:=by show upd _ _ _ _=_; rw [upd_ne (Ne.symm hne)]; exact hx
 have q2:=q1.allocOwn (o:= .ins C dx []) (x:= .obj c []) hx' ⟨C,dx,[],hC,upd_same,rfl⟩
 have ll:(σ++τ.map some).length=(s1.sl++θ.map some).length:=h.len
 have q3:=q2.celled (k:=(s1.sl++θ.map some).length) (a:=x) af (by rw [←ll]; exact af)
 rw [gR] at q3
 have le1:=(eF (p:=p) (o:= .own x) hdx).trans (jh (o:= .ins C dx []) hx')
 have le2:∀{q:Wr},q.n=s1.st.nx→q.le {q with γ:=fun i=>if i=s1.st.nx then x else q.γ i,n:=s1.st.nx+1}:=fun {q} hq=>⟨fun i hi=>if_neg (by rw [hq] at hi; omega),by rw [hq]; exact Nat.le_succ _,fun b u n e=>⟨.inl e,n⟩⟩
 have le:=le1.trans (le2 q2.pn)
 obtain ⟨v0,e0,r0⟩:=q3.ent _ (.d (.cell s1.st.nx)) af
 rw [←ll,af] at e0
 cases e0
 refine ⟨by rw [List.length_cons,List.length_append,r.len,hm _ _ _ e]; exact hn,E,_,_,_,_,_, .cell s1.st.nx::(ds++dds),rfl,q3,⟨_,_,rfl,r0,(r.mono le).append hd.reps⟩, ?_⟩
 cases e1:F (.cell s1.st.nx::(ds++dds)) (s1.st.new (.obj c [])) with
 | bad=>rw [e1] at hw; exact hw.elim
 | ex c fs s' =>
  rw [e1] at hw
  intro cls d p' h' x
  exact hw cls d σ _ ⟨p',rfl,hl,h'.pop1 (bE hl),x⟩
 | ok a s' =>
  rw [e1] at hw
  cases a with
  | own y=>exact hw.elim
  | loc j=>exact hw.elim
  | d y=>
   cases y with
   | non=>
    intro v p' h'
    have l2:=aD h'.len
    obtain ⟨v1,e2,r1⟩:=h'.ent _ _ af
    rw [←l2,af] at e2
    cases e2
    have e3:v= .non:=r1
    exact ⟨e3,hw (.ref x) _ (.snoc (h'.pop1 (by simp; omega)) hl rfl)⟩
   | _=>exact hw.elim
theorem RE.cb1 {r:List V→Hp→VK→Prop} {f:Vl→SD→R Vl} {ta:TE} {fa:SD→R Vl} (hp:jy G (fun v H Q=>r [v] H Q) f) (nx:∀a s c fs s',f a s≠ .ex c fs s') (ha:RE G W ta fa):RE G W (tCB r (tCons ta tNil)) (z1 f fa):=
 RE.op1 (r:=fun v H Q=>r [v] H Q) hp nx ha
theorem RE.cb2 {r:List V→Hp→VK→Prop} {f:Vl→Vl→SD→R Vl} {ta tb:TE} {fa fb:SD→R Vl} (hp:dq G (fun v u H Q=>r [v,u] H Q) f) (nx:∀a b s c fs s',f a b s≠ .ex c fs s') (ha:RE G W ta fa) (hb:RE G W tb fb):RE G W (tCB r (tCons ta (tCons tb tNil))) (z2 f fa fb):=
 RE.op2 (r:=fun v u H Q=>r [v,u] H Q) hp nx ha hb
theorem p_len:jy G (fun v H Q=>rLenZ G.K [v] H Q) cS:=by
 intro E σ τ s θ p v a Q hl h hw
 obtain ⟨h0,ca,_⟩:=cT hl h
 unfold cS at hw
 split at hw
 ·rename_i e
  obtain ⟨b,vs,rfl,hb,r⟩:=(ca _ e).lst
  exact .inl ⟨b,vs,rfl, .inl (.of hb),by rw [r.len]; exact bf h0 hl hw rfl⟩
 ·rename_i e
  obtain ⟨b,vs,rfl,hb,r⟩:=(ca _ e).con
  exact .inl ⟨b,vs,rfl, .inl hb,by rw [r.len]; exact bf h0 hl hw rfl⟩
 ·rename_i e
  obtain ⟨b,vs,rfl,hb,r⟩:=(ca _ e).tup
  exact .inl ⟨b,vs,rfl, .inr (.of hb),by rw [r.len]; exact bf h0 hl hw rfl⟩
 ·rename_i e
  obtain rfl:=(ca _ e).str
  split at hw
  ·rename_i hz
   exact .inr (.inl ⟨_,rfl,hz,bf h0 hl hw rfl⟩)
  ·exact hw.elim
 ·rename_i e
  obtain ⟨b,vs,rfl,hb,r⟩:=(ca _ e).dct
  exact .inr (.inr ⟨b,vs,rfl,hb,by rw [r.len]; exact bf h0 hl hw rfl⟩)
 ·exact hw.elim
def jl:Key→D
 | .inl i=> .int i
 | .inr z=> .str z
theorem gX {k:Key}:Rep G p (jl k) (kV k):=by cases k<;> rfl
theorem rQ:∀{ks:List (Key×D)} {vs:List (Key×V)},RepK G p ks vs→Reps G p (ks.map fun kv=>jl kv.1) (vs.map fun kv=>kV kv.1)
 | [],_,h=>by rw [show _= [] from h]; exact rfl
 | (k,d)::ks,_,h=>by
  obtain ⟨v,r,rfl,h1,h2⟩:=h
  exact ⟨_,_,rfl,gX,rQ h2⟩
noncomputable def iD (a:Vl) (s:SD):R Vl:=match s.cont a with
 | some (.lst xs)=> .ok (.own (.lst xs)) s
 | some (.con xs)=> .ok (.own (.lst xs)) s
 | some (.tup xs)=> .ok (.own (.lst xs)) s
 | some (.dct ks)=> .ok (.own (.lst (ks.map fun kv=>jl kv.1))) s
 | _=> .bad
def vD (K:PySem.W.Frag):List V→Hp→VK→Prop:=fun xs H Q=>yn K xs H Q∨yo xs H Q
theorem jq {X:Cx} {K:PySem.W.Frag} (hc:X.calm=true) (hK:X.K=K:=by rfl):CallR X (.type "list") (vD K):=CallR.or (hK ▸ wO) (BB hc)
theorem p_list:jy G (fun v H Q=>vD G.K [v] H Q) iD:=by
 intro E σ τ s θ p v a Q hl h hw
 obtain ⟨h0,ca,_⟩:=cT hl h
 unfold iD at hw
 split at hw
 ·rename_i e
  obtain ⟨b,vs,rfl,hb,r⟩:=(ca _ e).lst
  exact .inl ⟨b,vs,rfl, .inl (.of hb),fun l hn=>dj h0 hl hw hn r⟩
 ·rename_i e
  obtain ⟨b,vs,rfl,hb,r⟩:=(ca _ e).con
  exact .inl ⟨b,vs,rfl, .inl hb,fun l hn=>dj h0 hl hw hn r⟩
 ·rename_i e
  obtain ⟨b,vs,rfl,hb,r⟩:=(ca _ e).tup
  exact .inl ⟨b,vs,rfl, .inr (.of hb),fun l hn=>dj h0 hl hw hn r⟩
 ·rename_i e
  obtain ⟨b,vs,rfl,hb,r⟩:=(ca _ e).dct
  exact .inr ⟨b,vs,rfl,hb,fun l hn=>dj h0 hl hw hn (rQ r)⟩
 ·exact hw.elim
def fP (ks:List (Key×D)):List (Key×D):=ks.foldl (fun acc kv=>kL acc kv.1 kv.2) []
def rC:List D→Option (List (Key×D))
 | []=>some []
 | .tup [k,d]::ds=>match k.key,rC ds with
  | some k,some r=>some ((k,d)::r)
  | _,_=>none
 | _=>none
theorem RepK.merge:∀{ks:List (Key×D)} {vs:List (Key×V)} {acc:List (Key×D)} {av:List (Key×V)},RepK G p ks vs→RepK G p acc av→RepK G p (ks.foldl (fun acc kv=>kL acc kv.1 kv.2) acc) (mergeK av vs)
 | [],_,_,_,h,h2=>by rw [show _= [] from h]; exact h2
 | (k,d)::ks,_,_,_,h,h2=>by
  obtain ⟨v,r,rfl,h1,h3⟩:=h
  have q:=RepK.merge h3 (h2.put (k:=k) h1)
  exact q
theorem rB:∀{ds:List D} {vs:List V} {ks:List (Key×D)},Reps G p ds vs→rC ds=some ks→∃(ps:List Addr) (kvs:List (Key×V)),vs=ps.map V.ref∧RepK G p ks kvs∧Paired (fun q kv=>SqT G.K p.H q [kV kv.1,kv.2]) ps kvs
 | [],vs,ks,h,e=>by
  cases e
  rw [show vs= [] from h]
  exact ⟨[],[],rfl,rfl, .nil⟩
 | d::ds,vs,ks,h,e=>by
  obtain ⟨v,r,rfl,h1,h2⟩:=h
  unfold rC at e
  split at e
  ·rename_i heq
   cases heq
  ·rename_i kd d' ds' heq
   cases heq
   split at e
   ·rename_i k r' e1 e2
    cases e
    obtain ⟨ps,kvs,rfl,h3,h4⟩:=rB h2 e2
    obtain ⟨a,vs,rfl,⟨_,hh⟩,rr⟩:=h1
    obtain ⟨v1,r1,rfl,q1,v2,r2,rfl,q2,rfl⟩:=rr
    obtain rfl:=gx q1 e1
    exact ⟨a::ps,(k,v2)::kvs,rfl,⟨v2,kvs,rfl,q2,h3⟩, .cons (.of hh) h4⟩
   ·cases e
  ·cases e
noncomputable def eY (a:Vl) (s:SD):R Vl:=match s.cont a with
 | some (.dct ks)=> .ok (.own (.dct ks)) s
 | some (.lst ds)=>match rC ds with
  | some ks=> .ok (.own (.dct (fP ks))) s
  | none=> .bad
 | _=> .bad
def yr (K:PySem.W.Frag):List V→Hp→VK→Prop:=fun xs H Q=>rDictD xs H Q∨∃(a:Addr) (ps:List Addr) (kvs:List (Key×V)),xs= [.ref a]∧SqL K H a (ps.map V.ref)∧Paired (fun p kv=>SqT K H p [kV kv.1,kv.2]) ps kvs∧
  ∀p,H p=none→Q (.ref p) (upd H p (.dK (mergeK [] kvs)))
theorem jr {X:Cx} {K:PySem.W.Frag} (hc:X.calm=true) (hK:X.K=K:=by rfl):CallR X (.type "dict") (yr K):=CallR.or BD (hK ▸ call_dictP hc)
theorem p_dict:jy G (fun v H Q=>yr G.K [v] H Q) eY:=by
 intro E σ τ s θ p v a Q hl h hw
 obtain ⟨h0,ca,_⟩:=cT hl h
 unfold eY at hw
 split at hw
 ·rename_i e
  obtain ⟨b,vs,rfl,hb,r⟩:=(ca _ e).dct
  exact .inl ⟨b,vs,rfl,hb,fun l hn=>uI h0 hl hw hn r⟩
 ·rename_i e
  split at hw
  ·rename_i e1
   obtain ⟨b,vs,rfl,hb,r⟩:=(ca _ e).lst
   obtain ⟨ps,kvs,rfl,r1,r2⟩:=rB r e1
   exact .inr ⟨b,ps,kvs,rfl, .of hb,r2,fun l hn=>uI h0 hl hw hn (r1.merge rfl)⟩
  ·exact hw.elim
 ·exact hw.elim
def jn:List D→Option (List Int)
 | []=>some []
 | .int i::ds=>match jn ds with
  | some is=>some (i::is)
  | none=>none
 | _=>none
theorem jm:∀{ds:List D} {vs:List V} {is:List Int},Reps G p ds vs→jn ds=some is→vs=is.map V.int
 | [],vs,is,h,e=>by cases e; exact h
 | d::ds,vs,is,h,e=>by
  obtain ⟨v,r,rfl,h1,h2⟩:=h
  unfold jn at e
  split at e
  ·rename_i heq; cases heq
  ·rename_i heq
   cases heq
   split at e
   ·rename_i e1
    cases e
    rw [List.map_cons,jm h2 e1,show v= .int _ from h1]
   ·cases e
  ·cases e
theorem rT {is:List Int}:Reps G p (is.map D.int) (is.map V.int):=by
 induction is with
 | nil=>rfl
 | cons i is ih=>exact ⟨_,_,rfl,rfl,ih⟩
def pQ:List (Key×D)→Option (List Int)
 | []=>some []
 | (.inl i,_)::ks=>match pQ ks with
  | some is=>some (i::is)
  | none=>none
 | _=>none
theorem nC:∀{ks:List (Key×D)} {is:List Int},pQ ks=some is→ks.map (·.1)=is.map Sum.inl
 | [],is,e=>by cases e; rfl
 | k::ks,is,e=>by
  unfold pQ at e
  split at e
  ·rename_i heq; cases heq
  ·rename_i heq
   cases heq
   split at e
   ·rename_i e1
    cases e
    rw [List.map_cons,List.map_cons,nC e1]
   ·cases e
  ·cases e
def srt (ns:List Int):List Int:=ns.mergeSort fun a b=>decide (a≤b)
theorem srt_perm {ns:List Int}:(srt ns).Perm ns:=List.mergeSort_perm ns _
theorem srt_up {ns:List Int}:(srt ns).Pairwise (· ≤ ·):=(List.pairwise_mergeSort (le:=fun a b:Int=>decide (a≤b)) (fun a b c h1 h2=>by simp at*; omega) (fun a b=>by simp; omega) ns).imp fun h=>by simpa using h
theorem xU {ns ys:List Int} (hp:ys.Perm ns) (hs:ys.Pairwise (· ≤ ·)):ys=srt ns:=
 List.Perm.eq_of_pairwise (le:=(· ≤ ·)) (fun a b _ _ h1 h2=>Int.le_antisymm h1 h2) hs srt_up (hp.trans srt_perm.symm)
noncomputable def bt (a:Vl) (s:SD):R Vl:=match s.cont a with
 | some (.lst ds)=>match jn ds with
  | some is=> .ok (.own (.lst ((srt is).map D.int))) s
  | none=> .bad
 | some (.dct ks)=>match pQ ks with
  | some is=>if is.length<64 then .ok (.own (.lst ((srt is).map D.int))) s else .bad
  | none=> .bad
 | _=> .bad
def oY (K:PySem.W.Frag):List V→Hp→VK→Prop:=fun xs H Q=>rSortedI K xs H Q∨rf xs H Q
theorem fj {X:Cx} {K:PySem.W.Frag} (hc:X.calm=true) (hK:X.K=K:=by rfl):CallR X (.builtin "sorted") (oY K):=CallR.or (hK ▸ cr_sortedI) (uW hc)
theorem A6:jy G (fun v H Q=>oY G.K [v] H Q) bt:=by
 intro E σ τ s θ p v a Q hl h hw
 obtain ⟨h0,ca,_⟩:=cT hl h
 unfold bt at hw
 split at hw
 ·rename_i e
  split at hw
  ·rename_i e1
   obtain ⟨b,vs,rfl,hb,r⟩:=(ca _ e).lst
   obtain rfl:=jm r e1
   refine .inl ⟨b,_,rfl, .of hb,fun ns' l hp hs hn=>?_⟩
   rw [xU hp hs]
   exact dj h0 hl hw hn rT
  ·exact hw.elim
 ·rename_i e
  split at hw
  ·rename_i is e1
   split at hw
   ·rename_i hz
    obtain ⟨b,vs,rfl,hb,r⟩:=(ca _ e).dct
    refine .inr ⟨b,vs,is,rfl,hb,r.keys.trans (nC e1),hz,fun ns' l hp hs hn=>?_⟩
    rw [xU hp hs]
    exact dj h0 hl hw hn rT
   ·exact hw.elim
  ·exact hw.elim
 ·exact hw.elim
noncomputable def wA (a:Vl) (s:SD):R Vl:=match s.cont a with
 | some (.lst ds)=>match jn ds with
  | some is=> .ok (.d (.int is.sum)) s
  | none=> .bad
 | _=> .bad
theorem p_sum:jy G (fun v H Q=>rSum G.K [v] H Q) wA:=by
 intro E σ τ s θ p v a Q hl h hw
 obtain ⟨h0,ca,_⟩:=cT hl h
 unfold wA at hw
 split at hw
 ·rename_i e
  split at hw
  ·rename_i e1
   obtain ⟨b,vs,rfl,hb,r⟩:=(ca _ e).lst
   obtain rfl:=jm r e1
   exact ⟨b,_,rfl, .of hb,bf h0 hl hw rfl⟩
  ·exact hw.elim
 ·exact hw.elim
def BA:List D→Option (List Bool)
 | []=>some []
 | .bl i::ds=>match BA ds with
  | some is=>some (i::is)
  | none=>none
 | _=>none
theorem wc:∀{ds:List D} {vs:List V} {is:List Bool},Reps G p ds vs→BA ds=some is→vs=is.map V.bl
 | [],vs,is,h,e=>by cases e; exact h
 | d::ds,vs,is,h,e=>by
  obtain ⟨v,r,rfl,h1,h2⟩:=h
  unfold BA at e
  split at e
  ·rename_i heq; cases heq
  ·rename_i heq
   cases heq
   split at e
   ·rename_i e1
    cases e
    rw [List.map_cons,wc h2 e1,show v= .bl _ from h1]
   ·cases e
  ·cases e
noncomputable def yF (a:Vl) (s:SD):R Vl:=match s.cont a with
 | some (.lst ds)=>match BA ds with
  | some bs=> .ok (.d (.bl (bs.all id))) s
  | none=> .bad
 | _=> .bad
noncomputable def oAny (a:Vl) (s:SD):R Vl:=match s.cont a with
 | some (.lst ds)=>match BA ds with
  | some bs=> .ok (.d (.bl (bs.any id))) s
  | none=> .bad
 | _=> .bad
theorem p_all:jy G (fun v H Q=>rAll G.K [v] H Q) yF:=by
 intro E σ τ s θ p v a Q hl h hw
 obtain ⟨h0,ca,_⟩:=cT hl h
 unfold yF at hw
 split at hw
 ·rename_i e
  split at hw
  ·rename_i e1
   obtain ⟨b,vs,rfl,hb,r⟩:=(ca _ e).lst
   obtain rfl:=wc r e1
   exact ⟨b,_,rfl, .of hb,bf h0 hl hw rfl⟩
  ·exact hw.elim
 ·exact hw.elim
def oAbs (a:Vl) (s:SD):R Vl:=match a with
 | .d (.int i)=> .ok (.d (.int (if i<0 then -i else i))) s
 | _=> .bad
def Av (a:Vl) (s:SD):R Vl:=match a with
 | .d (.int i)=> .ok (.d (.int i)) s
 | .d (.bl b)=> .ok (.d (.int (if b then 1 else 0))) s
 | .d (.str z)=>match PySem.intText? z with
  | some n=>if z.length≤640 then .ok (.d (.int n)) s else .bad
  | none=> .bad
 | _=> .bad
def rIntZ:List V→Hp→VK→Prop:=fun xs H Q=>rInt1 xs H Q∨rIntS xs H Q
theorem uX {X:Cx}:CallR X (.type "int") rIntZ:=CallR.or cl_int1 wU
theorem p_int:jy G (fun v H Q=>rIntZ [v] H Q) Av:=by
 intro E σ τ s θ p v a Q hl h hw
 obtain ⟨h0,_,r⟩:=cT hl h
 unfold Av at hw
 split at hw
 ·obtain rfl:v= .int _:=r
  exact .inl (.inl ⟨_,rfl,bf h0 hl hw rfl⟩)
 ·obtain rfl:v= .bl _:=r
  exact .inl (.inr ⟨_,rfl,bf h0 hl hw rfl⟩)
 ·obtain rfl:v= .str _:=r
  split at hw
  ·rename_i e
   split at hw
   ·rename_i hz
    exact .inr ⟨_,_,rfl,e,hz,bf h0 hl hw rfl⟩
   ·exact hw.elim
  ·exact hw.elim
 ·exact hw.elim
def oStr (a:Vl) (s:SD):R Vl:=match a with
 | .d (.int i)=>if i.natAbs.log2<1920 then .ok (.d (.str (toString i))) s else .bad
 | _=> .bad
def rG (a b:Vl) (s:SD):R Vl:=match a,b with
 | .d (.int i), .d (.int j)=> .ok (.d (.int (if j<i then j else i))) s
 | _,_=> .bad
def oMax (a b:Vl) (s:SD):R Vl:=match a,b with
 | .d (.int i), .d (.int j)=> .ok (.d (.int (if j > i then j else i))) s
 | _,_=> .bad
theorem yT (hl:σ.length=s.sl.length) (h:Sm G E s.sl.length p (((σ++τ.map some)++ [some v])++ [some u]) (((s.sl++θ.map some)++ [some (.d x)])++ [some (.d y)]) s.st):Rep G p x v∧Rep G p y u:=by
 have l:=aD h.len
 obtain ⟨u',e1,r⟩:=h.ent _ _ af
 rw [←l,af] at e1; cases e1
 have h1:=h.pop1 (by simp; omega)
 obtain ⟨u',e1,r'⟩:=h1.ent _ _ af
 rw [←aD h1.len,af] at e1; cases e1
 exact ⟨r',r⟩
theorem p_min:dq G (fun v u H Q=>rMin2 [v,u] H Q) rG:=by
 intro E σ τ s θ p v u a b Q hl h hw
 unfold rG at hw
 split at hw
 ·obtain ⟨r1,r2⟩:=yT hl h
  obtain ⟨h0,_,_⟩:=eZ hl h
  obtain rfl:v= .int _:=r1
  obtain rfl:u= .int _:=r2
  exact ⟨_,_,rfl,bf h0 hl hw rfl⟩
 ·exact hw.elim
end
section
variable {G:Gc} {W:WX} {E:En} {σ σ' :L2.St} {τ:List V} {H:Hp} {s s' :SD} {θ:List Vl} {v u:V} {a b:Vl} {x y:D} {p:Wr} {Q:VK} {m:Nat} {w:List (Option V)} {k:Nat}
def stO (f:D→D→Option D) (o i:Vl) (s:SD):R Unit:=match i with
 | .d z=>match s.cont o with
  | some c=>match f c z with
   | some y=>s.mod y o
   | none=> .bad
  | none=> .bad
 | _=> .bad
def StOk (G:Gc) (r:V→V→V→Hp→(Hp→Prop)→Prop) (f:D→D→D→Option D):Prop:=∀(p:Wr) (c z x y:D) (b:Addr) (i v:V) (Q:Hp→Prop),f x c z=some y→Ho G p c b→Rep G p z i→Rep G p x v→
 ∃ho,(p.le {p with H:=upd p.H b ho}→Ho G {p with H:=upd p.H b ho} y b)∧(Q (upd p.H b ho)→r (.ref b) i v p.H Q)
theorem st_go {r:V→V→V→Hp→(Hp→Prop)→Prop} {f:D→D→D→Option D} (hr:StOk G r f) {v o i:V} {a b:Vl} {x:D} {P:Unit→SD→Prop} {Ex:XQ} {R0:Hp→Prop} (h:Rel G E σ (τ++ [v]++ [o]++ [i]) H s (θ++ [.d x]++ [a]++ [b]))
  (hw:Wp (stO (f x) a b s) P Ex) (k:∀s' H',Rel G E σ τ H' s' θ→P () s'→R0 H'):r o i v H R0:=by
 obtain ⟨p,rfl,hl,h⟩:=h.unsnoc
 unfold stO at hw
 split at hw
 ·rename_i z
  obtain ⟨u',e4,r4⟩:=h.ent _ _ af
  rw [←aD h.len,af] at e4
  cases e4
  have h1:=h.pop1 (bE hl)
  rw [show σ++(τ++ [v]++ [o]).map some=(σ++(τ++ [v]).map some)++ [some o] from by simp,show s.sl++(θ++ [Vl.d x]++ [a]).map some=(s.sl++(θ++ [Vl.d x]).map some)++ [some a] from by simp] at h1
  split at hw
  ·rename_i c e1
   split at hw
   ·rename_i y e2
    cases e3:s.mod y a with
    | bad=>rw [e3] at hw; exact hw.elim
    | ex _ _ _=>exact (nA _ _ _ _ _ _ e3).elim
    | ok _ s' =>
     rw [e3] at hw
     obtain ⟨b,rfl,ho,go⟩:=mod1 hl h1 e1 e3
     have h2:=h1.pop1 (bE hl)
     rw [show σ++(τ++ [v]).map some=(σ++τ.map some)++ [some v] from by simp,show s.sl++(θ++ [Vl.d x]).map some=(s.sl++θ.map some)++ [some (.d x)] from by simp] at h2
     obtain ⟨u',e5,r5⟩:=h2.ent _ _ af
     rw [←aD h2.len,af] at e5
     cases e5
     obtain ⟨o',hy,k2⟩:=hr p c _ x y b i v R0 e2 ho r4 r5
     obtain ⟨le,hl',hS⟩:=go o' hy
     exact k2 (k s' _ (Rel.pop (v:=v) (a:= .d x) ⟨_,rfl,hl',hS⟩) hw)
   ·exact hw.elim
  ·exact hw.elim
 ·exact hw.elim
noncomputable def bP (x c z:D):Option D:=match c,z.key with
 | .dct ks,some k=>if ks.length<sizeLine then some (.dct (kL ks k x)) else none
 | _,_=>none
def rDput:V→V→V→Hp→(Hp→Prop)→Prop:=fun o i v H Q=>∃a H4,o= .ref a∧DPut H a i v H4∧Q H4
theorem h_dput:StOk G rDput bP:=by
 intro p c z x y b i v Q e ho ri rv
 unfold bP at e
 split at e
 ·split at e
  ·rename_i ks k e1 hz
   cases e
   obtain ⟨vs,e2,r⟩:=ho
   have h1:=gx ri e1
   subst h1
   exact ⟨_,fun le=>⟨_,upd_same,(r.mono le).put (Rep.mono le rv)⟩,fun q=>⟨b,_,rfl,DPut.k e2 (by rw [r.len]; exact hz),q⟩⟩
  ·cases e
 ·cases e
noncomputable def dg (fo fi fv:SD→R Vl):SD→R Fl:=fun s=>(fv s).bind fun v s0=>(s0.fix v).bind fun x s1=>((fo s1).bind fun o s2=>(fi s2).bind fun i s3=>stO (bP x) o i s3).bind fun _ s4=> .ok .nx s4
theorem aaj {td ty tv:TE} {fo fi fv:SD→R Vl} (ho:RE G W td fo) (hi:RE G W ty fi) (hv:RE G W tv fv):RS G W (sDPut td ty tv) (dg fo fi fv):=by
 intro E σ τ H s θ D hN hR hw
 unfold dg at hw
 refine RE.fix hv E σ τ H s θ _ hN hR ?_
 unfold aR xa
 rw [ab] at hw ⊢
 refine hw.mono (fun v0 s0 hw=>?_) fun _ _ _ h=>h
 rw [ab] at hw ⊢
 refine hw.mono (fun x s1 hw=>?_) fun _ _ _ h=>h
 intro v H1 h1
 rw [ab] at hw
 refine RE.two (Q:=fun o i H3=>∃a H4,o= .ref a∧DPut H3 a i v H4∧D.nx σ H4) ho hi hN.d h1 (hw.mono (fun _ _ h=>h) fun _ _ _ h=>h.up) fun a b s2 o i H2 h2 hw=>?_
 exact st_go h_dput h2 hw fun s' H' h' hw=>hw σ H' h'
def By (x c z:D):Option D:=match c,z with
 | .lst ds, .int k=>match ixN ds.length k with
  | some j=>some (.lst (ds.set j x))
  | none=>none
 | _,_=>none
theorem h_setL:StOk G rSetL By:=by
 intro p c z x y b i v Q e ho ri rv
 unfold By at e
 split at e
 ·split at e
  ·rename_i ds k _ j e1
   cases e
   obtain ⟨vs,e2,r⟩:=ho
   have h1:i= .int k:=ri
   subst h1
   exact ⟨_,fun le=>⟨_,upd_same,(r.mono le).set (Rep.mono le rv) j⟩,fun q=>⟨b,vs,k,j,rfl,rfl,e2,by rw [r.len]; exact e1,q⟩⟩
  ·cases e
 ·cases e
def zSub (fo fi:SD→R Vl) (a:Vl) (s:SD):R Unit:=(s.fix a).bind fun x s1=>(fo s1).bind fun o s2=>(fi s2).bind fun i s3=>stO (By x) o i s3
theorem RG.sub {to ti:TE} {fo fi:SD→R Vl} (ho:RE G W to fo) (hi:RE G W ti fi):RG G W [] (gSub to ti rSetL) (zSub fo fi):=by
 intro E σ τ H s θ v a Q hN hR hw
 unfold zSub at hw
 rw [ab] at hw
 obtain ⟨p,rfl,hl,h⟩:=hR.unsnoc
 cases e:s.fix a with
 | bad=>rw [e] at hw; exact hw.elim
 | ex c fs s2=>exact (vV _ _ _ _ _ e).elim
 | ok x s2=>
  rw [e] at hw
  obtain ⟨p',hp,hs,h'⟩:=zj E s _ x s2 p _ _ v e h (bE hl)
  have hR2:Rel G E σ (τ++ [v]) p.H s2 (θ++ [.d x]):=hp ▸ .snoc h' (hl.trans hs.symm) rfl
  refine RE.two (Q:=fun o i H2=>rSetL o i v H2 fun H3=>Q σ H3) ho hi hN.d hR2 (Wp.mono (show Wp ((fo s2).bind fun o s2=>(fi s2).bind fun i s3=>stO (By x) o i s3) _ _ from hw) (fun _ _ h=>h) fun _ _ _ h=>h.up) fun a b s2 o i H2 h2 hw=>?_
  exact st_go h_setL h2 hw fun s' H' h' hw=>hw σ H' h' ⟨rfl,fun _ _=>rfl⟩
def zAug (i:Nat) (f:Int→Int→Int) (fe:SD→R Vl):SD→R Fl:=fun s=>match s.sl[i]? with
 | some (some (.d (.int m)))=>(fe s).bind fun b s1=>match b with
  | .d (.int n)=> .ok .nx {s1 with sl:=s1.sl.set i (some (.d (.int (f m n))))}
  | _=> .bad
 | _=> .bad
theorem RS.aug {i:Nat} {te:TE} {f:Int→Int→Int} {fe:SD→R Vl} (he:RE G W te fe):RS G W (tAug i te (ipI f)) (zAug i f fe):=by
 intro E σ τ H s θ D hN hR hw
 unfold zAug at hw
 split at hw
 ·rename_i m e
  obtain ⟨p,rfl,hl,h⟩:=hR
  obtain ⟨hs,u,e1,r⟩:=h.slot e
  obtain rfl:u= .int m:=r
  rw [List.getElem?_append_left (by rw [hl]; exact ae e)] at e1
  rw [ab] at hw
  refine ⟨.int m,e1,he E σ τ p.H s θ _ hN ⟨p,rfl,hl,h⟩ (hw.mono (fun b s1 hw y H1 h1=>?_) fun _ _ _ h=>h)⟩
  split at hw
  ·rename_i n
   obtain ⟨p1,rfl,r1⟩:=h1.last
   obtain rfl:y= .int n:=r1
   refine ⟨m,n,rfl,rfl,hw _ _ ?_⟩
   exact (h1.pop.push (x:= .int (f m n)) (v:= .int (f m n)) fun _=>rfl).store hN fun j q=>nomatch q
  ·exact hw.elim
 ·exact hw.elim
noncomputable def gD (c z:D):Option Int:=match c,z.key with
 | .dct ks,some k=>match eN ks k with
  | some (.int m)=>some m
  | _=>none
 | _,_=>none
def gL (c z:D):Option Int:=match c,z with
 | .lst ds, .int k=>match atI ds k with
  | some (.int m)=>some m
  | _=>none
 | _,_=>none
noncomputable def jF (g:D→D→Option Int) (st:D→D→D→Option D) (f:Int→Int→Int) (fo fi fe:SD→R Vl):SD→R Fl:=fun s=>((fo s).bind fun o s1=>(fi s1).bind fun i s2=>match i,s2.cont o with
 | .d z,some c=>match g c z,D.sc z with
  | some m,some _=>(fe s2).bind fun b s3=>match b with
   | .d (.int n)=>stO (st (.int (f m n))) o (.d z) s3
   | _=> .bad
  | _,_=> .bad
 | _,_=> .bad).bind fun _ s4=> .ok .nx s4
theorem aug_go {st:D→D→D→Option D} {f:Int→Int→Int} {r:V→V→V→Hp→(Hp→Prop)→Prop} {fe:SD→R Vl} {te:TE} {D0:Ends} {Q:V→Hp→Prop} {o i:V} {a:Vl} {z:D} {m:Int} {iv:V} (hr:StOk G r st) (he:RE G W te fe) (hN:Nl θ) (h:Rel G E σ (τ++ [o]++ [i]) H s (θ++ [a]++ [.d z])) (hz:z.sc=some iv)
  (hw:Wp ((fe s).bind fun b s3=>match b with
   | .d (.int n)=>stO (st (.int (f m n))) a (.d z) s3
   | _=> .bad) (fun _ s4=>∀σ' H',Rel G E σ' τ H' s4 θ→D0.nx σ' H') (XP G W E τ θ))
  (k:∀n H4,r o i (.int (f m n)) H4 (fun H6=>D0.nx σ H6)→Q (.int n) H4):te σ H Q:=by
 have hi:i=iv:=by
  obtain ⟨p,_,r⟩:=h.last
  exact eU r hz
 subst hi
 refine RE.next (v:=o) (a:=a) he hN h.pop hw fun b s2 y H2 h2 hw=>?_
 split at hw
 ·rename_i n
  obtain ⟨p1,_,r1⟩:=h2.last
  obtain rfl:y= .int n:=r1
  refine k n H2 ?_
  have h3:=h2.pop
  have h5:=(h3.push (x:= .int (f m n)) (v:= .int (f m n)) fun _=>rfl).swap (by have:=h3.tlen; simpa using this)
  exact st_go hr (h5.push (x:=z) (v:=i) fun _=>yj hz) hw fun s' H' h' hw=>hw σ H' h'
 ·exact hw.elim
theorem sc_cont {z:D} {iv:V} (e:z.sc=some iv):s.cont (.d z)=some z:=by cases z<;> first | rfl | cases e
theorem aao {td ty tv:TE} {fo fi fv:SD→R Vl} {rd:V→V→Hp→VK→Prop} {f:Int→Int→Int} (hd:∀(m n:Int) (H:Hp) (Q:VK),Q (.int (f m n)) H→rd (.int m) (.int n) H Q) (ho:RE G W td fo) (hi:RE G W ty fi) (hv:RE G W tv fv):RS G W (sDAug td ty tv rd) (jF gD bP f fo fi fv):=by
 intro E σ τ H s θ D hN hR hw
 unfold jF at hw
 rw [ab] at hw
 refine RE.two (Q:=fun x y H2=>∃a v,x= .ref a∧DGet H2 a y (some v)∧tv σ H2 fun y2 H3=>rd v y2 H3 fun z H4=>∃H5,DPut H4 a y z H5∧D.nx σ H5) ho hi hN hR hw fun a b s2 o i H2 h2 hw=>?_
 split at hw
 ·rename_i z c e1
  split at hw
  ·rename_i m iv e2 e3
   have h2' :=h2
   obtain ⟨p,rfl,hl,h⟩:=h2.unsnoc
   rw [List.map_append,List.map_append,←List.append_assoc,←List.append_assoc] at h
   obtain ⟨h0,ca,cb⟩:=eZ hl h
   unfold gD at e2
   split at e2
   ·rename_i ks k e4
    split at e2
    ·rename_i m' e5
     cases e2
     obtain ⟨b,vs,rfl,hb,r⟩:=(ca _ e1).dct
     obtain ⟨w,e6,rw⟩:=r.val.1 _ e5
     obtain rfl:w= .int m:=rw
     have h6:=gx ((cb _ (sc_cont e3)).sc (ui e4)) e4
     subst h6
     exact ⟨b, .int m,rfl, .inl ⟨vs,k,hb,rfl,e6.symm⟩,aug_go (D0:=D) (r:=rDput) h_dput hv hN h2' e3 hw fun n H4 ⟨a',H5,e7,q1,q2⟩=>by
      cases e7
      exact hd m n H4 _ ⟨H5,q1,q2⟩⟩
    ·cases e2
   ·cases e2
  ·exact hw.elim
 ·exact hw.elim
end
section
variable {X:Cx}
def rSlZ (K:PySem.W.Frag):V→Option Int→Option Int→Hp→VK→Prop:=fun x lo hi H Q=>rSlL K x lo hi H Q∨rSlS x lo hi H Q∨rSlT K x lo hi H Q
theorem xb {K:PySem.W.Frag} (hK:X.K=K:=by rfl):SlR X (rSlZ K):=SlR.or (m_slL hK) (SlR.or sl_str (hK ▸ sl_tup))
def tLk (t:TE):TE:=fun σ H Q=>t σ H fun x H1=>∃d u,x= .ref d∧((H1 d=some u∧Mut (some u)∧∀od,Q x (upd H1 d (.frz od u)))∨∃od,H1 d=some (.frz od u)∧Q x H1)
theorem tV {e:Expr} {t:TE} (h:PE X e t):PE X e (tLk t):=by
 refine ⟨fun pins s σ H Q I hw=>?_⟩
 refine thn (h.run pins s σ H _ I hw) fun v s1 ⟨x,H1,I1,r,d,u,e,q⟩=>?_
 rcases q with ⟨hd,mu,q⟩ | ⟨od,hd,q⟩
 ·obtain ⟨od,I2⟩:=I1.lock hd mu
  exact ⟨x,_,I2,r,q od⟩
 ·exact ⟨x,H1,I1,r,q⟩
end
section
variable {G:Gc} {W:WX} {E:En} {σ:L2.St} {τ τ2:List V} {H:Hp} {s s' :SD} {θ θ2:List Vl} {v u:V} {a b:Vl} {x y:D} {p:Wr} {Q:VK} {m:Nat} {w w' :List (Option V)} {ŵ ŵ' :List (Option Vl)} {S:Sto} {k:Nat}
def RO (G:Gc) (W:WX) (t:TO) (fe:SD→R (Option Int)):Prop:=∀(E:En) (σ:L2.St) (τ:List V) (H:Hp) (s:SD) (θ:List Vl) (Q:Option Int→Hp→Prop),Nl θ→Rel G E σ τ H s θ→
 Wp (fe s) (fun b s' =>∀H',Rel G E σ τ H' s' θ→Q b H') (XP G W E τ θ)→t σ H Q
def zNo:SD→R (Option Int):=fun s=> .ok none s
def zPt (fa:SD→R Vl):SD→R (Option Int):=fun s=>(fa s).bind fun a s1=>match a with
 | .d (.int i)=> .ok (some i) s1
 | _=> .bad
theorem RO.no:RO G W tNoPart zNo:=fun _ _ _ _ _ _ _ _ hR hw=>hw _ hR
theorem RO.part {te:TE} {fa:SD→R Vl} (ha:RE G W te fa):RO G W (tPart te) (zPt fa):=by
 intro E σ τ H s θ Q hN hR hw
 unfold zPt at hw
 rw [ab] at hw
 refine ha E σ τ H s θ _ hN hR (hw.mono (fun a s1 hw v H1 h1=>?_) fun _ _ _ h=>h)
 split at hw
 ·rename_i i
  obtain ⟨p,_,r⟩:=h1.last
  exact ⟨i,r,hw _ h1.pop⟩
 ·exact hw.elim
def cutD (ds:List D) (lo hi:Option Int):List D:=(ds.drop (HT.sIx ds.length 0 lo)).take (HT.sIx ds.length ds.length hi - HT.sIx ds.length 0 lo)
theorem uS {ds:List D} {vs:List V} {lo hi:Option Int} (r:Reps G p ds vs):Reps G p (cutD ds lo hi) (cutV vs lo hi):=by
 unfold cutD cutV
 rw [r.len]
 exact (r.drop _).take _
noncomputable def oSl (a:Vl) (lo hi:Option Int) (s:SD):R Vl:=match s.cont a with
 | some (.lst ds)=> .ok (.own (.lst (cutD ds lo hi))) s
 | some (.con ds)=> .ok (.own (.lst (cutD ds lo hi))) s
 | some (.str z)=>if z.length≤sizeLine then .ok (.d (.str (cutS z lo hi))) s else .bad
 | some (.tup ds)=>if¬(HT.sIx ds.length 0 lo=0∧HT.sIx ds.length ds.length hi=ds.length) then .ok (.d (.tup (cutD ds lo hi))) s else .bad
 | _=> .bad
noncomputable def zSl (fa:SD→R Vl) (fl fh:SD→R (Option Int)):SD→R Vl:=fun s=>(fa s).bind fun a s1=>(fl s1).bind fun lo s2=>(fh s2).bind fun hi s3=>oSl a lo hi s3
theorem RE.sl {te:TE} {tl th:TO} {fa:SD→R Vl} {fl fh:SD→R (Option Int)} (ha:RE G W te fa) (hl:RO G W tl fl) (hh:RO G W th fh):RE G W (tSl (rSlZ G.K) te tl th) (zSl fa fl fh):=by
 intro E σ τ H s θ Q hN hR hw
 unfold zSl at hw
 rw [ab] at hw
 refine ha E σ τ H s θ _ hN hR (hw.mono (fun a s1 hw v H1 h1=>?_) fun _ _ _ h=>h)
 rw [ab] at hw
 have fin:∀{lo hi:Option Int} {s3:SD} {H3:Hp},Rel G E σ (τ++ [v]) H3 s3 (θ++ [a])→Wp (oSl a lo hi s3) (fun a s' =>∀v H',Rel G E σ (τ++ [v]) H' s' (θ++ [a])→Q v H') (XP G W E τ θ)→rSlZ G.K v lo hi H3 Q:=fun {lo hi s3 H3} h3 hw=>by
  obtain ⟨p,rfl,hl,h⟩:=h3.unsnoc
  obtain ⟨h0,ca,_⟩:=cT hl h
  unfold oSl at hw
  split at hw
  ·rename_i e
   obtain ⟨b,vs,rfl,hb,r⟩:=(ca _ e).lst
   exact .inl ⟨b,vs,rfl, .of hb,fun l hn=>dj h0 hl hw hn (uS r)⟩
  ·rename_i e
   obtain ⟨b,vs,rfl,hb,r⟩:=(ca _ e).con
   exact .inl ⟨b,vs,rfl,hb,fun l hn=>dj h0 hl hw hn (uS r)⟩
  ·rename_i e
   obtain rfl:=(ca _ e).str
   split at hw
   ·rename_i hz
    exact .inr (.inl ⟨_,rfl,hz,bf h0 hl hw rfl⟩)
   ·exact hw.elim
  ·rename_i e
   obtain ⟨b,vs,rfl,hb,r⟩:=(ca _ e).tup
   split at hw
   ·rename_i hz
    exact .inr (.inr ⟨b,vs,rfl, .of hb,by rw [r.len]; exact hz,fun l hn=>uH h0 hl hw hn (uS r)⟩)
   ·exact hw.elim
  ·exact hw.elim
 by_cases c:∃j,a= .loc j
 ·obtain ⟨j,rfl⟩:=c
  obtain ⟨c1,c2⟩:=h1.unloc
  refine hl E σ τ H1 s1 θ _ hN h1.pop (hw.mono (fun lo s2 hw H2 h2=>?_) fun _ _ _ h=>h)
  rw [ab] at hw
  exact hh E σ τ H2 s2 θ _ hN h2 (hw.mono (fun hi s3 hw H3 h3=>fin (h3.reloc c2) hw) fun _ _ _ h=>h)
 ·refine hl E σ _ H1 s1 _ _ (hN.snoc fun j q=>c ⟨j,q⟩) h1 (hw.mono (fun lo s2 hw H2 h2=>?_) fun _ _ _ h=>h.up)
  rw [ab] at hw
  exact hh E σ _ H2 s2 _ _ (hN.snoc fun j q=>c ⟨j,q⟩) h2 (hw.mono (fun hi s3 hw H3 h3=>fin h3 hw) fun _ _ _ h=>h.up)
noncomputable def oRevL (a:Vl) (s:SD):R Vl:=match s.cont a with
 | some (.lst ds)=> .ok (.own (.lst ds.reverse)) s
 | _=> .bad
def rStep (K:PySem.W.Frag):R2:=fun x y H Q=>∃i,y= .int i∧∃a xs,x= .ref a∧(i=1∨i= -1)∧SqL K H a xs∧∀p,H p=none→Q (.ref p) (upd H p (.lst (if i=1 then xs else xs.reverse)))
noncomputable def oStep (a b:Vl) (s:SD):R Vl:=match s.cont a,s.cont b with
 | some (.lst ds),some (.int i)=>if i=1 then .ok (.own (.lst ds)) s else if i= -1 then .ok (.own (.lst ds.reverse)) s else .bad
 | _,_=> .bad
def RP (G:Gc) (W:WX) (trs:List (TE×TE)) (fp:SD→R (List (Key×D))):Prop:=∀(E:En) (σ:L2.St) (τ:List V) (H:Hp) (s:SD) (θ:List Vl) (Q:List (V×V)→Hp→Prop),Nl θ→Rel G E σ τ H s θ→
 Wp (fp s) (fun ks s' =>∀(vs:List V) H',Rel G E σ (τ++vs) H' s' (θ++ks.map fun kv=> .d kv.2)→vs.length=ks.length→Q ((ks.map fun kv=>kV kv.1).zip vs) H') (XP G W E τ θ)→tPairs trs σ H Q
def zP0:SD→R (List (Key×D)):=fun s=> .ok [] s
def zP (k:Key) (fv:SD→R Vl) (fp:SD→R (List (Key×D))):SD→R (List (Key×D)):=fun s=>(fv s).bind fun a s1=>(s1.fix a).bind fun x s2=>(fp s2).bind fun ks s3=> .ok ((k,x)::ks) s3
theorem RP.nil:RP G W [] zP0:=fun _ _ τ H _ θ Q _ hR hw=>hw [] H (by simpa using hR) rfl
theorem RP.cons {k:Key} {tv:TE} {fv:SD→R Vl} {trs:List (TE×TE)} {fp:SD→R (List (Key×D))} (hv:RE G W tv fv) (hp:RP G W trs fp):RP G W ((tC (kV k),tv)::trs) (zP k fv fp):=by
 intro E σ τ H s θ Q hN hR hw
 unfold zP at hw
 refine RE.fix hv E σ τ H s θ _ hN hR ?_
 unfold aR xa
 rw [ab] at hw ⊢
 refine hw.mono (fun v0 s0 hw=>?_) fun _ _ _ h=>h
 rw [ab] at hw ⊢
 refine hw.mono (fun x s1 hw=>?_) fun _ _ _ h=>h
 intro v H1 h1
 rw [ab] at hw
 refine hp E σ _ H1 s1 _ _ hN.d h1 (hw.mono (fun ks s3 hw vs H2 h2 hl=>?_) fun _ _ _ h=>h.up)
 exact hw (v::vs) H2 (by simpa using h2) (by simp [hl])
def Az (fp:SD→R (List (Key×D))):SD→R Vl:=fun s=>(fp s).bind fun ks s1=>if ks.length≤15 then .ok (.own (.dct (fP ks))) s1 else .bad
theorem RepK.zip:∀{ks:List (Key×D)} {vs:List V},Reps G p (ks.map (·.2)) vs→RepK G p ks ((ks.map (·.1)).zip vs)
 | [],vs,h=>by rw [show vs= [] from h]; exact rfl
 | (k,d)::ks,vs,h=>by
  obtain ⟨v,r,rfl,h1,h2⟩:=h
  exact ⟨v,_,rfl,h1,RepK.zip h2⟩
theorem vl:∀(ks:List (Key×D)) (vs:List V),(ks.map fun kv=>kV kv.1).zip vs=((ks.map (·.1)).zip vs).map fun kv=>(kV kv.1,kv.2)
 | [],_=>rfl
 | _::_,[]=>rfl
 | k::ks,v::vs=>by
  rw [List.map_cons,List.map_cons,List.zip_cons_cons,List.zip_cons_cons,List.map_cons,vl ks vs]
theorem RE.disp {trs:List (TE×TE)} {fp:SD→R (List (Key×D))} (hp:RP G W trs fp):RE G W (tDisp trs) (Az fp):=by
 intro E σ τ H s θ Q hN hR hw D0 hD
 unfold Az at hw
 rw [ab] at hw
 have ht:=hR.tlen
 have h1:Rel G E σ (τ++ [.ref D0]) (upd H D0 (.dK [])) s (θ++ [.own (.dct [])]):=by
  obtain ⟨p,rfl,hl,h⟩:=hR
  exact .snoc (h.allocOwn hD ⟨[],upd_same,rfl⟩) hl rfl
 refine hp E σ _ _ s _ _ (hN.snoc (a:= .own (.dct [])) fun j q=>nomatch q) h1 (hw.mono (fun ks s1 hw vs H2 h2 hl2=>?_) fun _ _ _ h=>h.up)
 split at hw
 ·rename_i hz
  have h2' :Rel G E σ ((τ++ [.ref D0])++vs) H2 s1 ((θ++ [.own (.dct [])])++(ks.map (·.2)).map .d):=by rw [List.map_map]; exact h2
  obtain ⟨p,rfl,hl,h,r⟩:=h2'.args (by simp [ht])
  rw [List.map_append,List.map_append,←List.append_assoc,←List.append_assoc] at h
  have ll:=aD h.len
  have q1:((s1.sl++θ.map some)++List.map some [Vl.own (.dct [])])[(s1.sl++θ.map some).length]? =some (some (.own (.dct []))):=af
  have q2:((σ++τ.map some)++List.map some [V.ref D0])[(s1.sl++θ.map some).length]? =some (some (.ref D0)):=by rw [←ll]; exact af
  obtain ⟨u,e2,D1,e3,vs0,e4,r4⟩:=h.ent _ _ q1
  rw [q2] at e2
  cases e2
  cases e3
  obtain rfl:vs0= []:=r4
  have o1:=(h.own _ _ _ q1 q2).1
  have l' :=cG (p:=p) (o:= .dK (mergeK [] ((ks.map (·.1)).zip vs))) o1
  have h3:=h.write (y:= .dct (fP ks)) (o:= .dK (mergeK [] ((ks.map (·.1)).zip vs))) q1 q2 ⟨_,upd_same,RepK.merge (RepK.zip (r.mono l')) rfl⟩
  rw [show ((s1.sl++θ.map some)++List.map some [Vl.own (.dct [])]).set (s1.sl++θ.map some).length (some (.own (.dct (fP ks))))=(s1.sl++θ.map some)++ [some (.own (.dct (fP ks)))] from gR] at h3
  refine ⟨e4,(ks.map (·.1)).zip vs, ?_, ?_,hw _ _ (.snoc h3 hl rfl)⟩
  ·exact vl ks vs
  ·simp; omega
 ·exact hw.elim
def En.lk (E:En) (d:Addr) (o:HO):En:= {E with W:= {E.W with H:=upd E.W.H d o},S:= {E.S with get:=fun i=>if E.W.γ i=d then none else E.S.get i}}
theorem Sm.toLk {d:Addr} {od:Obj} {kvs:List (Key×V)} (h:Sm G E m p w ŵ S) (hd:p.H d=some (.frz od (.dK kvs))) (hn:¬p.O d):Sm G (E.lk d (.frz od (.dK kvs))) m p w ŵ S∧EnLe G E (E.lk d (.frz od (.dK kvs))):=by
 have sg:∀{i:Nat} {d0:D},(E.lk d (.frz od (.dK kvs))).S.get i=some d0→E.S.get i=some d0∧E.W.γ i≠d:=fun {i d0} e=>by
  have e:(if E.W.γ i=d then none else E.S.get i)=some d0:=e
  split at e
  ·cases e
  ·rename_i c; exact ⟨e,c⟩
 have gs:∀{i:Nat} {d0:D},E.S.get i=some d0→E.W.γ i≠d→(E.lk d (.frz od (.dK kvs))).S.get i=some d0:=fun {i d0} e c=>by
  show (if E.W.γ i=d then none else E.S.get i)=some d0
  rw [if_neg c]; exact e
 have hH:∀{b:Addr},b≠d→(E.lk d (.frz od (.dK kvs))).W.H b=E.W.H b:=fun c=>upd_ne c
 have hdd:(E.lk d (.frz od (.dK kvs))).W.H d=some (.frz od (.dK kvs)):=upd_same
 constructor
 ·refine {h with nx:=h.nx,ebd:=fun i d0 e=>h.ebd i d0 (sg e).1,old:=h.old,born:=fun i d0 e=>?_,frm:=h.frm,kp:=fun b o e n=>?_,sub:=fun b o e=>?_,grw:=fun b o e n=>?_,own:=fun k x b q1 q2=>?_}
  ·have hO:p.γ i≠d:=fun z=>hn (z ▸ (h.cel i d0 e).1)
   rcases h.born i d0 e with ⟨d1,b1⟩ | b1
   ·left
    exact ⟨d1,gs b1 (by rw [←h.old i (h.ebd i d1 b1)]; exact hO)⟩
   ·right
    rw [hH hO]; exact b1
  ·by_cases c:b=d
   ·subst c
    rw [hdd] at e
    cases e
    exact ⟨fun f=>hd, .inl hd⟩
   ·rw [hH c] at e
    exact h.kp b o e fun i d0 q z=>n i d0 (gs q (by rw [←z]; exact c)) z
  ·by_cases c:b=d
   ·subst c; exact ⟨_,hd⟩
   ·rw [hH c] at e; exact h.sub b o e
  ·by_cases c:b=d
   ·subst c; exact hn
   ·rw [hH c] at e; exact h.grw b o e n
  ·have q:=h.own k x b q1 q2
   refine ⟨q.1, ?_,q.2.2.1,q.2.2.2⟩
   rw [hH fun z=>hn (z ▸ q.1)]
   exact q.2.1
 ·intro m' p' w' ŵ' S' h'
  have f0:p'.H d=some (.frz od (.dK kvs)):=by
   rcases (h'.kp d _ hdd fun i d0 q z=>(sg q).2 z.symm).2 with k | ⟨_,_,k,_⟩
   ·exact k
   ·cases k
  refine {h' with nx:=h'.nx,ebd:=h.ebd,old:=h'.old,born:=fun i d0 e=>?_,frm:=h'.frm,kp:=fun b o e n=>?_,sub:=fun b o e=>?_,grw:=fun b o e n=>?_,own:=fun k x b q1 q2=>?_}
  ·rcases h'.born i d0 e with ⟨d1,b1⟩ | b1
   ·exact .inl ⟨d1,(sg b1).1⟩
   ·have c:p'.γ i≠d:=fun z=>by rw [z,hdd] at b1; cases b1
    right
    rw [hH c] at b1; exact b1
  ·by_cases c:b=d
   ·subst c
    obtain ⟨k1,k2⟩:=h.kp b o e n
    refine ⟨fun f=>by rw [f0,←hd]; exact k1 f,by rw [f0,←hd]; exact k2⟩
   ·exact h'.kp b o (by rw [hH c]; exact e) fun i d0 q z=>n i d0 (sg q).1 z
  ·by_cases c:b=d
   ·subst c; exact ⟨_,f0⟩
   ·exact h'.sub b o (by rw [hH c]; exact e)
  ·by_cases c:b=d
   ·subst c; exact h'.grw b _ hdd n
   ·exact h'.grw b o (by rw [hH c]; exact e) n
  ·have q:=h'.own k x b q1 q2
   refine ⟨q.1, ?_,q.2.2.1,q.2.2.2⟩
   by_cases c:b=d
   ·subst c
    have:=q.2.1
    rw [hdd] at this; cases this
   ·rw [←hH c]; exact q.2.1
theorem En.lk_at {d:Addr} {od:Obj} {kvs:List (Key×V)} (h:Sm G (E.lk d (.frz od (.dK kvs))) m p w ŵ S):p.H d=some (.frz od (.dK kvs)):=by
 have hdd:(E.lk d (.frz od (.dK kvs))).W.H d=some (.frz od (.dK kvs)):=upd_same
 have k0:=(h.kp d _ hdd fun i d0 q z=>by
  have q:(if E.W.γ i=d then none else E.S.get i)=some d0:=q
  have z:d=E.W.γ i:=z
  rw [if_pos z.symm] at q; cases q).2
 rcases k0 with k | ⟨_,_,k,_⟩
 ·exact k
 ·cases k
inductive Wk where
 | keys | vals | items
def Wk.it:Wk→Addr→Obj→List (Key×V)→It
 | .keys=>Itk
 | .vals=>Itd
 | .items=>Iti
def Wk.ds:Wk→List (Key×D)→List D
 | .keys,ks=>ks.map fun kv=>jl kv.1
 | .vals,ks=>ks.map (·.2)
 | .items,ks=>ks.map fun kv=> .tup [jl kv.1,kv.2]
def iWk (wk:Wk) (td:TE):TI:=fun σ H R=>tLk td σ H fun x H1=>∃d o kvs,x= .ref d∧H1 d=some (.frz o (.dK kvs))∧R (wk.it d o kvs) H1
def ic (wk:Wk) (fa:SD→R Vl):SD→R Src:=fun s=>(aR fa s).bind fun a s1=>match a with
 | .d (.dct ks)=> .ok ⟨[.d (.dct ks)],fun _=>True,wk.ds ks⟩ s1
 | _=> .bad
theorem RepK.at {ks:List (Key×D)} {vs:List (Key×V)} {i:Nat} (r:RepK G p ks vs) {k:Key} {z:V} (e:vs[i]? =some (k,z)):∃d,ks[i]? =some (k,d)∧Rep G p d z:=by
 have hl:i<ks.length:=by rw [←r.len]; exact ae e
 have e1:(vs.map (·.1))[i]? =some k:=by rw [List.getElem?_map,e]; rfl
 rw [r.keys,List.getElem?_map,List.getElem?_eq_getElem hl] at e1
 have e2:(vs.map (·.2))[i]? =some z:=by rw [List.getElem?_map,e]; rfl
 have e3:(ks.map (·.2))[i]? =some ks[i].2:=by rw [List.getElem?_map,List.getElem?_eq_getElem hl]; rfl
 refine ⟨ks[i].2, ?_,r.vals.at e3 e2⟩
 rw [List.getElem?_eq_getElem hl]
 congr 1
 exact Prod.ext (Option.some.inj e1) rfl
theorem RI.walkG {wk:Wk} {I:V→Hp→(It→Hp→Prop)→Prop} (hI:∀d o kvs H1 R,H1 d=some (.frz o (.dK kvs))→R (wk.it d o kvs) H1→I (.ref d) H1 R) {td:TE} {fa:SD→R Vl} (ha:RE G W td fa):RI G W (fun σ H R=>tLk td σ H fun x H1=>I x H1 R) (ic wk fa):=by
 intro E σ τ H s θ Q hN hR hw
 unfold ic at hw
 rw [ab] at hw
 refine RE.fix ha E σ τ H s θ _ hN hR (hw.mono (fun a s1 hw v H1 h1=>?_) fun _ _ _ h=>h)
 split at hw
 ·rename_i ks
  have h1' :=h1
  obtain ⟨p,rfl,hl,h⟩:=h1.unsnoc
  obtain ⟨h0,_,a,vs,rfl,⟨hn,hd⟩,r⟩:=cT hl h
  have fin:∀{od:Obj} {p' :Wr},p.le p'→p'.H a=some (.frz od (.dK vs))→¬p'.O a→Sm G E s1.sl.length p' ((σ++τ.map some)++ [some (.ref a)]) ((s1.sl++θ.map some)++ [some (.d (.dct ks))]) s1.st→Q (wk.it a od vs) p'.H:=fun {od p'} le hd hn h=>by
   obtain ⟨h2,el⟩:=h.toLk hd hn
   refine hw [.ref a] _ _ _ el rfl (.snoc h2 hl rfl) fun i σ τ τ2 θ θ2 H s ht ht2 h ok=>?_
   obtain ⟨p2,rfl,hl2,hS,ca⟩:=h.at1 ht
   have hf:=En.lk_at hS
   have r2:RepK G p2 ks vs:=by
    obtain ⟨b,vs',e,hb,r'⟩:=(ca _ rfl).dct
    cases e
    rcases hb with hb | ⟨_,hb⟩
    ·rw [hf] at hb; cases hb
    ·rw [hf] at hb; cases hb; exact r'
   have len:=r2.len
   have dl:(wk.ds ks).length=ks.length:=by cases wk<;> simp [Wk.ds]
   refine ⟨fun d e=>?_,fun e=>?_⟩
   ·have hi:i<vs.length:=by rw [len,←dl]; exact ae e
    have hi' :i<ks.length:=by omega
    cases wk with
    | keys=>
     refine ⟨⟨hf,hi⟩,fun x H' y=>?_⟩
     obtain ⟨rfl,k,z,e1,rfl⟩:=y
     obtain ⟨d',e2,_⟩:=r2.at e1
     have e:(ks.map fun kv=>jl kv.1)[i]? =some d:=e
     rw [List.getElem?_map,e2] at e
     cases e
     exact .snoc (hS.push gX) hl2 rfl
    | vals=>
     refine ⟨⟨hf,hi⟩,fun x H' y=>?_⟩
     obtain ⟨rfl,k,e1⟩:=y
     obtain ⟨d',e2,r3⟩:=r2.at e1
     have e:(ks.map (·.2))[i]? =some d:=e
     rw [List.getElem?_map,e2] at e
     cases e
     exact .snoc (hS.push r3) hl2 rfl
    | items=>
     refine ⟨⟨hf,hi⟩,fun x H' y=>?_⟩
     obtain ⟨T,k,z,e1,rfl,hT,rfl⟩:=y
     obtain ⟨d',e2,r3⟩:=r2.at e1
     have e:(ks.map fun kv=>D.tup [jl kv.1,kv.2])[i]? =some d:=e
     rw [List.getElem?_map,e2] at e
     cases e
     exact .snoc ((hS.alloc hT).push (x:= .tup [jl k,d']) ⟨T,_,rfl,⟨(hS.fresh hT).2,upd_same⟩,_,_,rfl,gX,_,_,rfl,r3.mono (eF hT),rfl⟩) hl2 rfl
   ·have hi:vs.length≤i:=by rw [len,←dl]; exact List.getElem?_eq_none_iff.mp e
    cases wk with
    | keys=>exact ⟨hf,hi⟩
    | vals=>exact ⟨hf,hi⟩
    | items=>exact ⟨hf,hi⟩
  rcases hd with hd | ⟨od,hd⟩
  ·refine ⟨a, .dK vs,rfl, .inl ⟨hd,True.intro,fun od=>hI _ _ _ _ _ upd_same ?_⟩⟩
   have q:=h.lock (od:=od) hd hn
   exact fin (p' := {p with H:=upd p.H a (.frz od (.dK vs))}) ⟨fun _ _=>rfl,Nat.le_refl _,fun b o n e=>⟨by
    by_cases c:b=a
    ·subst c
     rw [hd] at e; cases e
     exact .inr ⟨vs,od,rfl,upd_same⟩
    ·exact .inl (by show upd _ _ _ _=_; rw [upd_ne c]; exact e),n⟩⟩ upd_same hn q
  ·exact ⟨a, .dK vs,rfl, .inr ⟨od,hd,hI _ _ _ _ _ hd (fin (.refl p) hd hn h)⟩⟩
 ·exact hw.elim
theorem RI.walk {wk:Wk} {td:TE} {fa:SD→R Vl} (ha:RE G W td fa):RI G W (iWk wk td) (ic wk fa):=RI.walkG (fun d o kvs H1 R h1 h2=>⟨d,o,kvs,rfl,h1,h2⟩) ha
theorem RI.keys {td:TE} {fa:SD→R Vl} (ha:RE G W td fa):RI G W (iKeys (tLk td)) (ic .keys fa):=RI.walkG (wk:= .keys) (fun d o kvs H1 R h1 h2=>⟨d,o,rfl, .inl ⟨kvs,h1,h2⟩⟩) ha
end
inductive Ty1 where
 | int | bool | str | list | tuple | dict
def Ty1.nm:Ty1→String
 | .int=> "int" | .bool=> "bool" | .str=> "str" | .list=> "list" | .tuple=> "tuple" | .dict=> "dict"
def D.knd:D→Option String
 | .non=>some "NoneType" | .bl _=>some "bool" | .int _=>some "int" | .str _=>some "str" | .lst _=>some "list" | .con _=>some "list" | .tup _=>some "tuple" | .dct _=>some "dict"
 | _=>none
def isT:Ty1→D→Bool
 | .int, .int _=>true
 | .int, .bl _=>true
 | .bool, .bl _=>true
 | .str, .str _=>true
 | .list, .lst _=>true
 | .list, .con _=>true
 | .tuple, .tup _=>true
 | .dict, .dct _=>true
 | _,_=>false
theorem kit_tab:∀t:Ty1,kitB "NoneType" t.nm=some false∧kitB "bool" t.nm=some (match t with | .int=>true | .bool=>true | _=>false)∧kitB "int" t.nm=some (match t with | .int=>true | _=>false)∧kitB "str" t.nm=some (match t with | .str=>true | _=>false)∧
  kitB "list" t.nm=some (match t with | .list=>true | _=>false)∧kitB "tuple" t.nm=some (match t with | .tuple=>true | _=>false)∧kitB "dict" t.nm=some (match t with | .dict=>true | _=>false):=by
 intro t
 cases t<;> decide+kernel
section
variable {G:Gc} {W:WX} {E:En} {σ:L2.St} {τ τ2:List V} {H:Hp} {s s' :SD} {θ θ2:List Vl} {v u:V} {a b:Vl} {x y:D} {p:Wr} {Q:VK} {w:List (Option V)} {k:Nat} {is:List Nat}
theorem knd_ty {k:String} (h:Cont G p x v) (e:x.knd=some k):TyX G.K p.H v (.type k):=by
 cases x with
 | non=>cases e; obtain rfl:v= .non:=h.sc rfl; exact .base .non
 | bl b=>cases e; obtain rfl:=h.bl; exact .base (.bl b)
 | int i=>cases e; obtain rfl:=h.int; exact .base (.int i)
 | str z=>cases e; obtain rfl:=h.str; exact .base (.str z)
 | lst ds=>cases e; obtain ⟨b,vs,rfl,hb,r⟩:=h.lst; exact .base (.lst hb)
 | con ds=>cases e; obtain ⟨b,vs,rfl,(hb | ⟨o,hb⟩) | ⟨o,its,n,lk,cl,_⟩,r⟩:=h.con; exact .base (.lst hb); exact .base (.frz hb); exact .kList lk cl
 | tup ds=>cases e; obtain ⟨b,vs,rfl,hb,r⟩:=h.tup; exact .base (.tup hb)
 | dct ds=>cases e; obtain ⟨b,vs,rfl,hb | ⟨o,hb⟩,r⟩:=h.dct; exact .base (.dK hb); exact .fDict hb
 | obj c fs=>cases e
 | exc c fs=>cases e
 | cell i=>cases e
theorem knd_is {k:String} (t:Ty1) (e:x.knd=some k):kitB k t.nm=some (isT t x):=by
 obtain ⟨h1,h2,h3,h4,h5,h6,h7⟩:=kit_tab t
 cases x<;> cases e<;> cases t<;> first | exact h1 | exact h2 | exact h3 | exact h4 | exact h5 | exact h6 | exact h7
def pf (t:Ty1) (a:Vl) (s:SD):R Vl:=match s.cont a with
 | some x=>match x.knd with
  | some _=> .ok (.d (.bl (isT t x))) s
  | none=> .bad
 | none=> .bad
theorem RE.isi {t:Ty1} {ta:TE} {fa:SD→R Vl} (ha:RE G W ta fa):RE G W (tCB (rIsi G.K) (tCons ta (tCons (tC (.ty t.nm)) tNil))) (z1 (pf t) fa):=by
 refine RE.op1 (r:=fun v H Q=>rIsi G.K [v, .ty t.nm] H Q) ?_ ?_ ha
 ·intro E σ τ s θ p v a Q hl h hw
  obtain ⟨h0,ca,_⟩:=cT hl h
  unfold pf at hw
  split at hw
  ·rename_i x e
   split at hw
   ·rename_i k e1
    exact ⟨v, .ty t.nm, .type k, .type t.nm,isT t x,rfl, .ty _,knd_ty (ca _ e) e1,kit_ty (knd_is t e1),bf h0 hl hw rfl⟩
   ·exact hw.elim
  ·exact hw.elim
 ·intro a s c fs s'
  unfold pf
  split
  ·split<;> (intro q; cases q)
  ·intro q; cases q
structure IsOk (G:Gc) (C:Addr) (f:Str→Option Bool) (kd:Bool):Prop where
 own:∀c b C',f c=some b→G.mg c=some (.ref C')→C8.InsC G.K C'∧PySem.W.kitOne G.K (.ref C') (.ref C)=some b
 kd:kd=true→∀k∈ ["NoneType","bool","int","str","list","tuple","dict"],PySem.W.kitOne G.K (.type k) (.ref C)=some false
noncomputable def oIsC (f:Str→Option Bool) (kd:Bool) (a:Vl) (s:SD):R Vl:=match s.cont a with
 | some (.obj c _)=>match f c with
  | some b=> .ok (.d (.bl b)) s
  | none=> .bad
 | some x=>match x.knd with
  | some _=>if kd=true then .ok (.d (.bl false)) s else .bad
  | none=> .bad
 | none=> .bad
def yX (s:SD) (a:Vl):Bool:=match s.cont a with
 | some (.dct _)=>true
 | _=>false
theorem yW (h:yX s a=true) (c:∀x,s.cont a=some x→Cont G p x v):∃b,v= .ref b∧IsD p.H b:=by
 unfold yX at h
 split at h
 ·rename_i e
  obtain ⟨b,vs,rfl,hb,_⟩:=(c _ e).dct
  exact ⟨b,rfl, .inl ⟨vs,hb⟩⟩
 ·cases h
def se (c z:D):Option (D×D):=match c,z.key with
 | .dct ks,some k=>match eN ks k with
  | some t=>some (.dct (wN ks k),t)
  | none=>none
 | _,_=>none
theorem RE.dpop {td ty:TE} {fo fi:SD→R Vl} (ho:RE G W td fo) (hi:RE G W ty fi):RE G W (tDPop1 td ty) (zM2 yX (oB2 se) fo fi):=by
 intro E σ τ H s θ Q hN hR hw
 unfold zM2 at hw
 rw [ab] at hw
 refine ho E σ τ H s θ _ hN hR (hw.mono (fun a s1 hw v H1 h1=>?_) fun _ _ _ h=>h)
 split at hw
 ·rename_i c
  have h0:=h1
  obtain ⟨p,rfl,hl,h⟩:=h1.unsnoc
  obtain ⟨b,rfl,hD⟩:=yW c (cT hl h).2.1
  refine ⟨b,rfl,hD, ?_⟩
  refine RE.next (Q:=fun y H2=>∃kvs k v,H2 b=some (.dK kvs)∧y=kV k∧valV kvs k=some v∧Q v (upd H2 b (.dK (dropK kvs k)))) hi hN h0 hw fun i s2 u H2 h2 hw=>?_
  obtain ⟨p,rfl,hl,h⟩:=h2.unsnoc
  rw [List.map_append,List.map_append,←List.append_assoc,←List.append_assoc] at h
  have pr:dq G (fun x y H Q=>∀b,x= .ref b→∃kvs k v,H b=some (.dK kvs)∧y=kV k∧valV kvs k=some v∧Q v (upd H b (.dK (dropK kvs k)))) (oB2 se):=p_chg2 fun p c z y t b u Q e ho r=>by
   unfold se at e
   split at e
   ·rename_i ks k e1
    split at e
    ·rename_i t' e2
     cases e
     obtain ⟨vs,e3,r3⟩:=ho
     obtain ⟨w,e4,r4⟩:=r3.val.1 _ e2
     have e5:=gx r e1
     exact ⟨_,w,r4,fun le=>⟨_,upd_same,r3.drop.mono le⟩,fun q b' e6=>by cases e6; exact ⟨vs,k,w,e3,e5,e4,q⟩⟩
    ·cases e
   ·cases e
  refine pr E σ τ s2 θ p _ u a i Q hl h ?_ b rfl
  cases e:oB2 se a i s2 with
  | ok b s2=>rw [e] at hw; exact hw
  | ex c fs s2=>exact (oB2_nx _ _ _ _ _ _ e).elim
  | bad=>rw [e] at hw; exact hw
 ·exact hw.elim
noncomputable def zGet2 (fo fi fx:SD→R Vl):SD→R Vl:=fun s=>(fo s).bind fun a s1=>if yX s1 a=true then (fi s1).bind fun i s2=>match i with
 | .d z=>match D.sc z with
  | some _=>(fx s2).bind fun b s3=>match b,s3.cont a,z.key with
   | .d x,some (.dct ks),some k=> .ok (.d ((eN ks k).getD x)) s3
   | _,_,_=> .bad
  | none=> .bad
 | _=> .bad
 else .bad
def uO:List D→Option (List Str)
 | []=>some []
 | .str z::ds=>match uO ds with
  | some zs=>some (z::zs)
  | none=>none
 | _=>none
theorem si:∀{ds:List D} {vs:List V} {is:List Str},Reps G p ds vs→uO ds=some is→vs=is.map V.str
 | [],vs,is,h,e=>by cases e; exact h
 | d::ds,vs,is,h,e=>by
  obtain ⟨v,r,rfl,h1,h2⟩:=h
  unfold uO at e
  split at e
  ·rename_i heq; cases heq
  ·rename_i heq
   cases heq
   split at e
   ·rename_i e1
    cases e
    rw [List.map_cons,si h2 e1,show v= .str _ from h1]
   ·cases e
  ·cases e
theorem xS {is:List Str}:Reps G p (is.map D.str) (is.map V.str):=by
 induction is with
 | nil=>rfl
 | cons i is ih=>exact ⟨_,_,rfl,rfl,ih⟩
def isS (a:Vl):Bool:=match a with
 | .d (.str _)=>true
 | _=>false
def zM1s (f:Vl→Vl→SD→R Vl) (fa fb:SD→R Vl):SD→R Vl:=fun s=>(fa s).bind fun a s1=>if isS a=true then (fb s1).bind fun b s2=>f a b s2 else .bad
theorem RE.m1 {r:V→List V→Hp→VK→Prop} {f:Vl→Vl→SD→R Vl} {ta tb:TE} {fa fb:SD→R Vl} (hp:dq G (fun x y H Q=>r x [y] H Q) f) (nx:∀a b s c fs s',f a b s≠ .ex c fs s') (ha:RE G W ta fa) (hb:RE G W tb fb):RE G W (tM1 r ta tb) (zM1s f fa fb):=by
 intro E σ τ H s θ Q hN hR hw
 unfold zM1s at hw
 rw [ab] at hw
 refine ha E σ τ H s θ _ hN hR (hw.mono (fun a s1 hw v H1 h1=>?_) fun _ _ _ h=>h)
 split at hw
 ·rename_i c
  have hv:∃z,v= .str z:=by
   unfold isS at c
   split at c
   ·rename_i z
    obtain ⟨p,_,r⟩:=h1.last
    exact ⟨z,r⟩
   ·cases c
  refine ⟨hv, ?_⟩
  refine RE.next (Q:=fun u H2=>r v [u] H2 Q) hb hN h1 hw fun b s2 u H2 h2 hw=>?_
  obtain ⟨p,rfl,hl,h⟩:=h2.unsnoc
  rw [List.map_append,List.map_append,←List.append_assoc,←List.append_assoc] at h
  refine hp E σ τ s2 θ p v u a b Q hl h ?_
  cases e:f a b s2 with
  | ok b s2=>rw [e] at hw; exact hw
  | ex c fs s2=>exact (nx _ _ _ _ _ _ e).elim
  | bad=>rw [e] at hw; exact hw
 ·exact hw.elim
noncomputable def rH (a b:Vl) (s:SD):R Vl:=match s.cont a,s.cont b with
 | some (.str z),some (.lst ds)=>match uO ds with
  | some ys=>if (ys.map (·.length)).sum+ys.length*z.length≤16777216 then .ok (.d (.str (Txt.join z ys))) s else .bad
  | none=> .bad
 | _,_=> .bad
theorem p_join:dq G (fun x y H Q=>∃a p,∃ys:List Str,x= .str a∧ [y]= [.ref p]∧(SqL G.K H p (ys.map V.str)∨SqT G.K H p (ys.map V.str))∧(ys.map (·.length)).sum+ys.length*a.length≤16777216∧Q (.str (Txt.join a ys)) H) rH:=by
 intro E σ τ s θ p v u a b Q hl h hw
 obtain ⟨h0,ca,cb⟩:=eZ hl h
 unfold rH at hw
 split at hw
 ·rename_i e1 e2
  split at hw
  ·rename_i ys e3
   split at hw
   ·rename_i hz
    obtain rfl:=(ca _ e1).str
    obtain ⟨b,vs,rfl,hb,r⟩:=(cb _ e2).lst
    obtain rfl:=si r e3
    exact ⟨_,b,ys,rfl,rfl, .inl (.of hb),hz,bf h0 hl hw rfl⟩
   ·exact hw.elim
  ·exact hw.elim
 ·exact hw.elim
theorem Bb:∀(a b:Vl) (s:SD) c fs s',rH a b s≠ .ex c fs s' :=by
 intro a b s c fs s'
 unfold rH
 split
 ·split
  ·split<;> (intro q; cases q)
  ·intro q; cases q
 ·intro q; cases q
def Ao:List D→List D→List D
 | x::xs,y::ys=> .tup [x,y]::Ao xs ys
 | _,_=> []
theorem nR:∀{xs ys:List D} {i:Nat},(Ao xs ys)[i]? =match xs[i]?,ys[i]? with
  | some x,some y=>some (.tup [x,y])
  | _,_=>none
 | [],ys,i=>by simp [Ao]
 | x::xs,[],i=>by simp [Ao]
 | x::xs,y::ys,0=>rfl
 | x::xs,y::ys,i+1=>by
  simp only [Ao,List.getElem?_cons_succ]
  exact nR
noncomputable def zZip (fa fb:SD→R Vl):SD→R Src:=fun s=>(aR fa s).bind fun a s1=>(aR fb s1).bind fun b s2=>match s2.cont a,s2.cont b with
 | some (.lst xs),some (.lst ys)=> .ok ⟨[a,b],fun s=>s.cont a=some (.lst xs)∧s.cont b=some (.lst ys),Ao xs ys⟩ s2
 | _,_=> .bad
theorem RI.zip {ta tb:TE} {fa fb:SD→R Vl} (ha:RE G W ta fa) (hb:RE G W tb fb):RI G W (iZip G.K (tCons ta (tCons tb tNil))) (zZip fa fb):=by
 intro E σ τ H s θ Q hN hR hw
 unfold zZip at hw
 refine RE.two (f:=fun a b s2=>match s2.cont a,s2.cont b with
  | some (.lst xs),some (.lst ys)=> .ok (⟨[a,b],fun s=>s.cont a=some (.lst xs)∧s.cont b=some (.lst ys),Ao xs ys⟩:Src) s2
  | _,_=> .bad) (Q:=fun x y H2=>∃a b xs ys,[x,y]= [.ref a, .ref b]∧SqL G.K H2 a xs∧SqL G.K H2 b ys∧Q (Itz G.K a b) H2) (RE.fix ha) (RE.fix hb) hN hR hw fun a b s2 v u H2 h2 hw=>?_
 have h3:=h2
 obtain ⟨p,rfl,hl,h⟩:=h2.unsnoc
 rw [List.map_append,List.map_append,←List.append_assoc,←List.append_assoc] at h
 obtain ⟨h0,ca,cb⟩:=eZ hl h
 split at hw
 ·rename_i xs ys e1 e2
  obtain ⟨a1,vs,rfl,ha1,r1⟩:=(ca _ e1).lst
  obtain ⟨b1,us,rfl,hb1,r2⟩:=(cb _ e2).lst
  refine ⟨a1,b1,vs,us,rfl, .of ha1, .of hb1,hw [.ref a1, .ref b1] _ _ E (fun _ _ _ _ _ h=>h) rfl (by simpa using h3) fun i σ τ τ2 θ θ2 H s ht ht2 h ok=>?_⟩
  have e3:τ++ [V.ref a1, .ref b1]++τ2=τ++ [V.ref a1]++([V.ref b1]++τ2):=by simp
  have e4:θ++ [a,b]++θ2=θ++ [a]++([b]++θ2):=by simp
  have e5:τ++ [V.ref a1, .ref b1]++τ2=(τ++ [.ref a1])++ [.ref b1]++τ2:=by simp
  have e6:θ++ [a,b]++θ2=(θ++ [a])++ [b]++θ2:=by simp
  have hA:=h
  obtain ⟨p',rfl,hl',hS⟩:=h
  have c1:∀x,s.cont a=some x→Cont G p' x (.ref a1):=fun x c=>by
   have q1:σ++(τ++ [V.ref a1, .ref b1]++τ2).map some=(σ++τ.map some)++some (.ref a1)::some (.ref b1)::τ2.map some:=by simp
   have q2:s.sl++(θ++ [a,b]++θ2).map some=(s.sl++θ.map some)++some a::some b::θ2.map some:=by simp
   have hL:(σ++τ.map some).length=(s.sl++θ.map some).length:=by simp [hl',ht]
   refine hS.cont rfl (k:=(s.sl++θ.map some).length) ?_ ?_ c
   ·rw [q2,List.getElem?_append_right (Nat.le_refl _)]; simp
   ·rw [q1,←hL,List.getElem?_append_right (Nat.le_refl _)]; simp
  have c2:∀x,s.cont b=some x→Cont G p' x (.ref b1):=fun x c=>by
   have q1:σ++(τ++ [V.ref a1, .ref b1]++τ2).map some=(σ++(τ++ [V.ref a1]).map some)++some (.ref b1)::τ2.map some:=by simp
   have q2:s.sl++(θ++ [a,b]++θ2).map some=(s.sl++(θ++ [a]).map some)++some b::θ2.map some:=by simp
   have hL:(σ++(τ++ [V.ref a1]).map some).length=(s.sl++(θ++ [a]).map some).length:=by simp [hl',ht]
   refine hS.cont rfl (k:=(s.sl++(θ++ [a]).map some).length) ?_ ?_ c
   ·rw [q2,List.getElem?_append_right (Nat.le_refl _)]; simp
   ·rw [q1,←hL,List.getElem?_append_right (Nat.le_refl _)]; simp
  obtain ⟨_,vs',e7,ha2,r3⟩:=(c1 _ ok.1).lst
  cases e7
  obtain ⟨_,us',e8,hb2,r4⟩:=(c2 _ ok.2).lst
  cases e8
  refine ⟨fun d e=>?_,fun e=>?_⟩
  ·have e:(Ao xs ys)[i]? =some d:=e
   rw [nR] at e
   split at e
   ·rename_i x y ex ey
    cases e
    obtain ⟨v1,f1,g1⟩:=r3.get ex
    obtain ⟨v2,f2,g2⟩:=r4.get ey
    refine ⟨⟨vs',us',v1,v2, .of ha2, .of hb2,f1,f2⟩,fun q H' yl=>?_⟩
    obtain ⟨T,z1,z2,rfl,hT,rfl,y1,y2⟩:=yl
    have e9:=y1 vs' (.of ha2)
    rw [f1] at e9; cases e9
    have e10:=y2 us' (.of hb2)
    rw [f2] at e10; cases e10
    exact .snoc ((hS.alloc hT).push (x:= .tup [x,y]) ⟨T,_,rfl,⟨(hS.fresh hT).2,upd_same⟩,_,_,rfl,g1.mono (eF hT),_,_,rfl,g2.mono (eF hT),rfl⟩) hl' rfl
   ·cases e
  ·have e:(Ao xs ys)[i]? =none:=e
   rw [nR] at e
   refine ⟨vs',us', .of ha2, .of hb2, ?_⟩
   cases ex:xs[i]? with
   | none=>exact .inl (List.getElem?_eq_none_iff.mp (r3.none ex))
   | some x=>
    cases ey:ys[i]? with
    | none=>exact .inr (List.getElem?_eq_none_iff.mp (r4.none ey))
    | some y=>rw [ex,ey] at e; cases e
 ·exact hw.elim
def zPar3 (i j l:Nat) (fr:SD→R (List D)):SD→R Fl:=fun s=>(fr s).bind fun ds s1=>match ds with
 | [x,y,z]=> .ok .nx {s1 with sl:=cM [i,j,l] [x,y,z] s1.sl}
 | _=> .bad
end
structure Op2 (G:Gc) (r:R2) (f:Vl→Vl→SD→R Vl):Prop where
 p:dq G r f
 nx:∀a b s c fs s',f a b s≠ .ex c fs s'
structure Op1 (G:Gc) (r:V→Hp→VK→Prop) (f:Vl→SD→R Vl):Prop where
 p:jy G r f
 nx:∀a s c fs s',f a s≠ .ex c fs s'
section
variable {G:Gc} {W:WX}
theorem bz:Op2 G (rAddZ G.K) bX:=⟨p_add,by intros; unfold bX; (repeat' split)<;> (intro q; cases q)⟩
theorem mY:Op2 G (rI0 fun i j=> .int (i - j)) mZ:=⟨p_sub,by intros; unfold mZ; (repeat' split)<;> (intro q; cases q)⟩
theorem jU:Op2 G rMulZ mT:=⟨p_mul,by intros; unfold mT; (repeat' split)<;> (intro q; cases q)⟩
theorem bc:Op2 G (rI (fun _ j=>0<j) fun i j=> .int (i%j)) bN:=⟨p_mod,by intros; unfold bN; (repeat' split)<;> (intro q; cases q)⟩
theorem eX:Op2 G (rI CDivW fun i j=> .int (i / j)) iF:=⟨p_div,by intros; unfold iF; (repeat' split)<;> (intro q; cases q)⟩
theorem oZ:Op2 G (rI wZ fun i j=> .int (i ^ j.toNat)) qK:=⟨p_pow,by intros; unfold qK; (repeat' split)<;> (intro q; cases q)⟩
theorem yG {f:Int→Int→Bool}:∀a b s c fs s',Bc f a b s≠ .ex c fs s' :=by intros; unfold Bc; (repeat' split)<;> (intro q; cases q)
theorem q_lt:Op2 G (rI0 fun i j=> .bl (decide (i<j))) oLt:=⟨p_cmp,yG⟩
theorem q_le:Op2 G (rI0 fun i j=> .bl (decide (i≤j))) oLe:=⟨p_cmp,yG⟩
theorem AU:Op2 G (rI0 fun i j=> .bl (decide (i > j))) oGt:=⟨p_cmp,yG⟩
theorem je:Op2 G (rEqZ G.K) oEq:=⟨p_eq,by intros; unfold oEq; (repeat' split)<;> (intro q; cases q)⟩
theorem xg:Op2 G (rNeZ G.K) oNe:=⟨p_ne,by intros; unfold oNe; (repeat' split)<;> (intro q; cases q)⟩
theorem AS {neg:Bool}:Op2 G (rInZ G.K neg) (oIn neg):=⟨p_in,by intros; unfold oIn; (repeat' split)<;> (intro q; cases q)⟩
theorem aO:Op2 G (AQ G.K) oIx:=⟨p_ix,by intros; unfold oIx; (repeat' split)<;> (intro q; cases q)⟩
theorem pb {neg:Bool}:Op2 G (rIsZ neg) (kK neg):=⟨p_isN,by intros; unfold kK; (repeat' split)<;> (intro q; cases q)⟩
theorem bY:Op1 G (fun v H Q=>rLenZ G.K [v] H Q) cS:=⟨p_len,by intros; unfold cS; (repeat' split)<;> (intro q; cases q)⟩
theorem rh:Op1 G (fun v H Q=>vD G.K [v] H Q) iD:=⟨p_list,by intros; unfold iD; (repeat' split)<;> (intro q; cases q)⟩
theorem rj:Op1 G (fun v H Q=>yr G.K [v] H Q) eY:=⟨p_dict,by intros; unfold eY; (repeat' split)<;> (intro q; cases q)⟩
theorem jd:Op1 G (fun v H Q=>oY G.K [v] H Q) bt:=⟨A6,by intros; unfold bt; (repeat' split)<;> (intro q; cases q)⟩
theorem q_sum:Op1 G (fun v H Q=>rSum G.K [v] H Q) wA:=⟨p_sum,by intros; unfold wA; (repeat' split)<;> (intro q; cases q)⟩
theorem AV:Op1 G (fun v H Q=>rAll G.K [v] H Q) yF:=⟨p_all,by intros; unfold yF; (repeat' split)<;> (intro q; cases q)⟩
theorem q_int:Op1 G (fun v H Q=>rIntZ [v] H Q) Av:=⟨p_int,by intros; unfold Av; (repeat' split)<;> (intro q; cases q)⟩
theorem wy:Op2 G (fun v u H Q=>rMin2 [v,u] H Q) rG:=⟨p_min,by intros; unfold rG; (repeat' split)<;> (intro q; cases q)⟩
theorem aac {r:R2} {f:Vl→Vl→SD→R Vl} {ta tb:TE} {fa fb:SD→R Vl} (h:Op2 G r f) (ha:RE G W ta fa) (hb:RE G W tb fb):RE G W (tOp r ta tb) (z2 f fa fb):=RE.op2 h.p h.nx ha hb
theorem RE.c1 {r:List V→Hp→VK→Prop} {f:Vl→SD→R Vl} {ta:TE} {fa:SD→R Vl} (h:Op1 G (fun v H Q=>r [v] H Q) f) (ha:RE G W ta fa):RE G W (tCB r (tCons ta tNil)) (z1 f fa):=RE.cb1 h.p h.nx ha
theorem RE.c2 {r:List V→Hp→VK→Prop} {f:Vl→Vl→SD→R Vl} {ta tb:TE} {fa fb:SD→R Vl} (h:Op2 G (fun v u H Q=>r [v,u] H Q) f) (ha:RE G W ta fa) (hb:RE G W tb fb):RE G W (tCB r (tCons ta (tCons tb tNil))) (z2 f fa fb):=RE.cb2 h.p h.nx ha hb
def neg1 (f:Vl→SD→R Vl):SD→Vl→R Vl:=fun s a=>f a s
theorem RE.append {ta tb:TE} {fa fb:SD→R Vl} (ha:RE G W ta fa) (hb:RE G W tb fb):RE G W (tBM G.K "list" rAppend ta (tCons tb tNil)) (zM2 isL (oB2 aL) fa (aR fb)):=RE.bm isL_ty (p_chg2 Br) oB2_nx ha (RE.fix hb)
theorem RE.pop {ta:TE} {fa:SD→R Vl} (ha:RE G W ta fa):RE G W (tBM0 G.K "list" rPop ta) (z1 (oB1 fPop) fa):=RE.bm0 (p_lm0 h_pop fun c y h=>by unfold fPop at h; split at h; exact ⟨_,rfl⟩; cases h) yE ha
theorem RE.reverse {ta:TE} {fa:SD→R Vl} (ha:RE G W ta fa):RE G W (tBM0 G.K "list" rReverse ta) (z1 (oB1 kS) fa):=RE.bm0 (p_lm0 yZ fun c y h=>by unfold kS at h; split at h; exact ⟨_,rfl⟩; cases h) yE ha
theorem RE.clear {ta:TE} {fa:SD→R Vl} (ha:RE G W ta fa):RE G W (tBM0 G.K "list" rClear ta) (z1 (oB1 sf) fa):=RE.bm0 (p_lm0 h_clear fun c y h=>by unfold sf at h; split at h; exact ⟨_,rfl⟩; cases h) yE ha
theorem RE.join {ta tb:TE} {fa fb:SD→R Vl} (ha:RE G W ta fa) (hb:RE G W tb fb):RE G W (tM1 (fun x xs H Q=>∃a p,∃ys:List Str,x= .str a∧xs= [.ref p]∧(SqL G.K H p (ys.map V.str)∨SqT G.K H p (ys.map V.str))∧(ys.map (·.length)).sum+ys.length*a.length≤16777216∧Q (.str (Txt.join a ys)) H) ta tb) (zM1s rH fa fb):=
 RE.m1 p_join Bb ha hb
theorem aab {i:Int}:RE G W (tC (.int i)) (zC (.int i)):=RE.c fun _=>rfl
theorem aae {i:Str}:RE G W (tC (.str i)) (zC (.str i)):=RE.c fun _=>rfl
theorem aai {i:Bool}:RE G W (tC (.bl i)) (zC (.bl i)):=RE.c fun _=>rfl
theorem aah:RE G W (tC .non) (zC .non):=RE.c fun _=>rfl
def qM (f g:Vl→Vl→SD→R Vl) (fa fb fc:SD→R Vl):SD→R Vl:=fun s=>(fa s).bind fun a s1=>(fb s1).bind fun b s2=>match b with
 | .d z=>match D.sc z with
  | some _=>(f a b s2).bind fun r s3=>match r with
   | .d (.bl true)=>(fc s3).bind fun c s4=>g (.d z) c s4
   | .d (.bl false)=> .ok (.d (.bl false)) s3
   | _=> .bad
  | none=> .bad
 | _=> .bad
theorem RE.chain {r r' :R2} {f g:Vl→Vl→SD→R Vl} {ta tb tc:TE} {fa fb fc:SD→R Vl} (hf:Op2 G r f) (hg:Op2 G r' g) (ha:RE G W ta fa) (hb:RE G W tb fb) (hc:RE G W tc fc):RE G W (tChain r r' ta tb tc) (qM f g fa fb fc):=by
 intro E σ τ H s θ Q hN hR hw
 unfold qM at hw
 refine RE.two (f:=fun a b s2=>match b with
  | .d z=>match D.sc z with
   | some _=>(f a b s2).bind fun r s3=>match r with
    | .d (.bl true)=>(fc s3).bind fun c s4=>g (.d z) c s4
    | .d (.bl false)=> .ok (.d (.bl false)) s3
    | _=> .bad
   | none=> .bad
  | _=> .bad) (Q:=fun x y H2=>r x y H2 fun z H3=>∃k,z= .bl k∧(if k=true then tc σ H3 fun w' H4=>r' y w' H4 Q else Q (.bl false) H3)) ha hb hN hR hw fun a b s2 v u H2 h2 hw=>?_
 split at hw
 ·rename_i z
  split at hw
  ·rename_i uv e1
   have hu:u=uv:=by
    obtain ⟨p,_,rr⟩:=h2.last
    exact eU rr e1
   subst hu
   obtain ⟨p,rfl,hl,h⟩:=h2.unsnoc
   rw [List.map_append,List.map_append,←List.append_assoc,←List.append_assoc] at h
   refine hf.p E σ τ s2 θ p v u a _ _ hl h ?_
   rw [ab] at hw
   cases e:f a (.d z) s2 with
   | bad=>rw [e] at hw; exact hw.elim
   | ex _ _ _=>exact (hf.nx _ _ _ _ _ _ e).elim
   | ok rv s3=>
    rw [e] at hw
    intro q H3 h3
    have hw:Wp (match rv with
     | .d (.bl true)=>(fc s3).bind fun c s4=>g (.d z) c s4
     | .d (.bl false)=> .ok (.d (.bl false)) s3
     | _=> .bad) (fun a s=>_) (fun c fs s=>_):=hw
    split at hw
    ·obtain ⟨p3,_,r3⟩:=h3.last
     obtain rfl:q= .bl true:=r3
     refine ⟨true,rfl, ?_⟩
     rw [if_pos rfl]
     have h4:=h3.pop.push (x:=z) (v:=u) fun _=>yj e1
     rw [ab] at hw
     refine hc E σ _ H3 s3 _ _ hN.d h4 (hw.mono (fun c s4 hw w' H4 h5=>?_) fun _ _ _ h=>h.up)
     obtain ⟨p,rfl,hl,h⟩:=h5.unsnoc
     rw [List.map_append,List.map_append,←List.append_assoc,←List.append_assoc] at h
     refine hg.p E σ τ s4 θ p u w' _ c Q hl h ?_
     cases e:g (.d z) c s4 with
     | ok b s2=>rw [e] at hw; exact hw
     | ex c fs s2=>exact (hg.nx _ _ _ _ _ _ e).elim
     | bad=>rw [e] at hw; exact hw
    ·obtain ⟨p3,_,r3⟩:=h3.last
     obtain rfl:q= .bl false:=r3
     refine ⟨false,rfl, ?_⟩
     rw [if_neg (by decide)]
     exact hw _ _ h3
    ·exact hw.elim
  ·exact hw.elim
 ·exact hw.elim
def cY:SD→R Fl:=fun _=> .bad
theorem RS.never:RS G W tNever cY:=fun _ _ _ _ _ _ _ _ _ hw=>hw.elim
def zPass:SD→R Fl:=au
theorem xi {f c:Str} {C:Addr} (hm:G.mg c=some (.ref C)) (hc:Cls G.K C) (hn:NoAttr G.K C f):iR G f [c]:=by
 intro c' h C' hm'
 obtain rfl:=List.mem_singleton.mp h
 rw [hm] at hm'; cases hm'
 exact ⟨hc,hn⟩
end
section
variable (P:Program) (w:World) (K:PySem.W.Frag) (mg:Str→Option Value) (base:Heap)
structure CalZ (k:Nat) (x:Str) (n:Nat) (F:FnV) (dvs:List V):Prop where
 ex:∃(f:Addr) (fd:FuncData) (ps:List Str) (ds:List Value),FnOk P w K mg base (L2.CX P w) k f fd ps (spF ⟨K,mg⟩ n F)∧mg x=some (.ref f)∧PySem.W.keepIn K (.ref f)=true∧Binds K fd ps ds∧Vals dvs ds
structure MetZ (k:Nat) (C:Addr) (m:Str) (n:Nat) (F:FnV) (dvs:List V):Prop where
 ex:∃(f:Addr) (fd:FuncData) (ps:List Str) (ds:List Value),Cls K C∧Meth K C m f∧FnOk P w K mg base (L2.CX P w) k f fd ps (spF ⟨K,mg⟩ n F)∧Binds K fd ps ds∧Vals dvs ds
structure MakZ (k:Nat) (x:Str) (C:Addr) (n:Nat) (F:FnV) (dvs:List V):Prop where
 ex:∃(f:Addr) (fd:FuncData) (ps:List Str) (ds:List Value),Mk K C f∧FnOk P w K mg base (L2.CX P w) k f fd ps (spF ⟨K,mg⟩ n F)∧mg x=some (.ref C)∧Binds K fd ps ds∧Vals dvs ds
end
section
variable {P:Program} {w:World} {K:PySem.W.Frag} {mg:Str→Option Value} {base:Heap}
structure DfZ (K:PySem.W.Frag) (mg:Str→Option Value) (x:Str) (st:Stmt) (ps:List Str) (dvs:List V):Prop where
 ex:∃(f:Addr) (fd:FuncData),L2.FunD K x x (defArgs st) (defBody st) (defScope st) dvs [] f fd∧mg x=some (.ref f)∧PySem.W.keepIn K (.ref f)=true∧∀j,j≤dvs.length→∃ds,Vals (dvs.drop j) ds∧L2.Binds K fd ps ds
theorem calZ_of {x:Str} {st:Stmt} {N ps:List Str} {k n:Nat} {fz:SD→R Fl} (D:M.Df K mg x st ps) (S:FnScope N ps (L2.defScope st)) (hn:ps.length≤N.length) (hn2:n=ps.length)
  (hbody:∀(f:Addr) (cdv:Value) (A:Around) (outer:List Env) (s:Shared) (H:Hp) (E:XK),Room k (A.deeper (envOfC x (L2.defScope st) s.heap.objs.size f cdv))→
   ∃t,PSs (cxOf (L2.CX P w) P w K mg base N x (L2.defScope st) f cdv A outer s H E) (L2.defBody st) t∧RS ⟨K,mg⟩ (fun cls d _ H=>E cls d H) t fz):CalZ P w K mg base (k+1) x n (zFn N.length fz) []:=by
 obtain ⟨f,fd,F,hm,hb⟩:=D.ex
 subst hn2
 exact ⟨f,fd,ps,[],fnZ F S hn (fun cdv A outer s H E hr=>hbody f cdv A outer s H E hr),hm,F.kp,hb, .nil⟩
theorem metZ_of {C:Addr} {m qual:Str} {st:Stmt} {N ps:List Str} {k n:Nat} {fz:SD→R Fl} (D:M.Dm K C m qual st ps) (S:FnScope N ps (L2.defScope st)) (hn:ps.length≤N.length) (hn2:n=ps.length)
  (hbody:∀(f:Addr) (cdv:Value) (A:Around) (outer:List Env) (s:Shared) (H:Hp) (E:XK),Room k (A.deeper (envOfC qual (L2.defScope st) s.heap.objs.size f cdv))→
   ∃t,PSs (cxOf (L2.CX P w) P w K mg base N qual (L2.defScope st) f cdv A outer s H E) (L2.defBody st) t∧RS ⟨K,mg⟩ (fun cls d _ H=>E cls d H) t fz):MetZ P w K mg base (k+1) C m n (zFn N.length fz) []:=by
 obtain ⟨f,fd,F,c,me,b⟩:=D.ex
 subst hn2
 exact ⟨f,fd,ps,[],c,me,fnZ F S hn (fun cdv A outer s H E hr=>hbody f cdv A outer s H E hr),b, .nil⟩
theorem makZ_of {x qual:Str} {C:Addr} {st:Stmt} {N ps:List Str} {k n:Nat} {fz:SD→R Fl} (D:M.Dk K mg x C qual st ps) (S:FnScope N ps (L2.defScope st)) (hn:ps.length≤N.length) (hn2:n=ps.length)
  (hbody:∀(f:Addr) (cdv:Value) (A:Around) (outer:List Env) (s:Shared) (H:Hp) (E:XK),Room k (A.deeper (envOfC qual (L2.defScope st) s.heap.objs.size f cdv))→
   ∃t,PSs (cxOf (L2.CX P w) P w K mg base N qual (L2.defScope st) f cdv A outer s H E) (L2.defBody st) t∧RS ⟨K,mg⟩ (fun cls d _ H=>E cls d H) t fz):MakZ P w K mg base (k+1) x C n (zFn N.length fz) []:=by
 obtain ⟨f,fd,F,M,hm,b⟩:=D.ex
 subst hn2
 exact ⟨f,fd,ps,[],M,fnZ F S hn (fun cdv A outer s H E hr=>hbody f cdv A outer s H E hr),hm,b, .nil⟩
theorem Bi {C:Addr} {m qual:Str} {st:Stmt} {N ps:List Str} {dvs:List V} {k n:Nat} {fz:SD→R Fl} (D:M.Dmd K C m qual st ps dvs) (S:FnScope N ps (L2.defScope st)) (hn:ps.length≤N.length) (hn2:n=ps.length)
  (hbody:∀(f:Addr) (cdv:Value) (A:Around) (outer:List Env) (s:Shared) (H:Hp) (E:XK),Room k (A.deeper (envOfC qual (L2.defScope st) s.heap.objs.size f cdv))→
   ∃t,PSs (cxOf (L2.CX P w) P w K mg base N qual (L2.defScope st) f cdv A outer s H E) (L2.defBody st) t∧RS ⟨K,mg⟩ (fun cls d _ H=>E cls d H) t fz) (j:Nat) (hj:j≤dvs.length):MetZ P w K mg base (k+1) C m n (zFn N.length fz) (dvs.drop j):=by
 obtain ⟨f,fd,F,c,me,b⟩:=D.ex
 subst hn2
 obtain ⟨ds,hd,hb⟩:=b j hj
 refine ⟨f,fd,ps,ds,c,me, ?_,hb,hd⟩
 exact F.ok S xW fun cdv A outer s H vs Q E hr h=>by
  obtain ⟨t,h1,h2⟩:=hbody f cdv A outer s H E hr
  exact ⟨t,h1,oF h2 h hn⟩
end
section
variable {X:Cx} {W:WX} {k j n:Nat} {C:Addr} {x m:Str} {F:FnV} {dvs:List V} {p pos apos:Pos} {e o:Expr} {es:List Expr} {ta:TE} {t:TA}
theorem m_cZ (c:CalZ X.prog X.w X.K X.mg X.base k x n F dvs) (hr:Room j X.A) (hk:k≤j) (tk:Takes X W) (hg:Gl X x) (ha:PA X (e::es) t)
  (hdb:(x == ("__debug__" :Str))=false:=by decide) (he:starEach (e::es) X.env=(false,eval e X.env)::starEach es X.env:=by rfl) (hpl:(backTo pos (starEach es X.env)).any (·.1)=false:=by rfl):
  PE X (.Call (.Name x p) (e::es) [] pos) (tCallSD (spF ⟨X.K,X.mg⟩ n F) dvs (WE W) t):=by
 obtain ⟨f,fd,ps,ds,h,hm,kp,b,d⟩:=c.ex
 exact pe_callSD h (hr.mono hk) hg hm kp b d (fun σ=>passAt tk σ) ha hdb he hpl
theorem m_mkZ (c:MakZ X.prog X.w X.K X.mg X.base k x C n F dvs) (hr:Room j X.A) (hk:k+1≤j) (tk:Takes X W) (hg:Gl X x) (ha:PA X (e::es) t)
  (hdb:(x == ("__debug__" :Str))=false:=by decide) (he:starEach (e::es) X.env=(false,eval e X.env)::starEach es X.env:=by rfl) (hpl:(backTo pos (starEach es X.env)).any (·.1)=false:=by rfl):
  PE X (.Call (.Name x p) (e::es) [] pos) (sS C (spF ⟨X.K,X.mg⟩ n F) dvs (WE W) t):=by
 obtain ⟨f,fd,ps,ds,M,h,hm,b,d⟩:=c.ex
 exact pe_makS M h (hr.mono hk) hg hm b d (fun σ=>passAt tk σ) ha hdb he hpl
theorem m_mkZ0 (c:MakZ X.prog X.w X.K X.mg X.base k x C n F dvs) (hr:Room j X.A) (hk:k+1≤j) (tk:Takes X W) (hg:Gl X x)
  (hdb:(x == ("__debug__" :Str))=false:=by decide):PE X (.Call (.Name x p) [] [] pos) (sS C (spF ⟨X.K,X.mg⟩ n F) dvs (WE W) tNil):=by
 obtain ⟨f,fd,ps,ds,M,h,hm,b,d⟩:=c.ex
 exact A2 M h (hr.mono hk) hg hm b d (fun σ=>passAt tk σ) hdb
theorem fQ {pl:Sem Bool} (c:MetZ X.prog X.w X.K X.mg X.base k C m n F dvs) (hr:Room j X.A) (hk:k≤j) (tk:Takes X W) (he:PE X o ta) (ha:PA X (e::es) t)
  (hst:starEach (e::es) X.env=(false,eval e X.env)::starEach es X.env:=by rfl) (hpl:(backTo pos (starEach es X.env)).any (·.1)=false:=by rfl)
  (ht:eval (.Call (.Attribute o m apos) (e::es) [] pos) X.env=(do
   let ov←eval o X.env
   standAt apos.atName
   let (f,first)←holding [ov] (getMethod ov m pl)
   callWith pos f first (backTo pos (starEach (e::es) X.env)) (backToKw pos (keywordEach [] X.env))):=by rfl):
  PE X (.Call (.Attribute o m apos) (e::es) [] pos) (qQ C m (spF ⟨X.K,X.mg⟩ n F) dvs (WE W) ta t):=by
 obtain ⟨f,fd,ps,ds,cl,me,h,b,d⟩:=c.ex
 exact yx (pl:=pl) he cl me h (hr.mono hk) b d (fun σ=>passAt tk σ) ha hst hpl ht
theorem nB {pl:Sem Bool} (c:MetZ X.prog X.w X.K X.mg X.base k C m n F dvs) (hr:Room j X.A) (hk:k≤j) (tk:Takes X W) (he:PE X o ta)
  (ht:eval (.Call (.Attribute o m apos) [] [] pos) X.env=(do
   let ov←eval o X.env
   standAt apos.atName
   let (f,first)←holding [ov] (getMethod ov m pl)
   callWith pos f first (backTo pos (starEach [] X.env)) (backToKw pos (keywordEach [] X.env))):=by rfl):
  PE X (.Call (.Attribute o m apos) [] [] pos) (qQ C m (spF ⟨X.K,X.mg⟩ n F) dvs (WE W) ta tNil):=by
 obtain ⟨f,fd,ps,ds,cl,me,h,b,d⟩:=c.ex
 exact wz (pl:=pl) he cl me h (hr.mono hk) b d (fun σ=>passAt tk σ) ht
theorem jI:Takes X WF:=fun _ _ ⟨_,_,_,_,_,_,_,_,_,_,_,_,_,_,_,_,w⟩=>w.elim
theorem m_fldZ {K:PySem.W.Frag} {f:Str} {ta:TE} (he:PE X e ta) (hb:attributeBase e f X.env (eval e X.env)=eval e X.env:=by rfl) (hK:X.K=K:=by rfl):PE X (.Attribute e f pos) (tFld K ta f):=hK ▸ pe_fld he hb
end
section
variable {G:Gc} {W:WX}
def yC (a:Vl) (s:SD):R Vl:=match s.cont a with
 | some (.int i)=> .ok (.d (.int (-i))) s
 | _=> .bad
theorem RE.neg {ta:TE} {fa:SD→R Vl} (ha:RE G W ta fa):RE G W (tUn (rU fun i=> .int (-i)) ta) (z1 yC fa):=by
 refine RE.op1 (r:=rU fun i=> .int (-i)) ?_ ?_ ha
 ·intro E σ τ s θ p v a Q hl h hw
  obtain ⟨h0,ca,_⟩:=cT hl h
  unfold yC at hw
  split at hw
  ·rename_i i e
   obtain rfl:=(ca _ e).int
   exact ⟨i,rfl,bf h0 hl hw rfl⟩
  ·exact hw.elim
 ·intro a s c fs s'
  unfold yC
  split<;> (intro q; cases q)
theorem hd_Add:∀(m n:Int) (H:Hp) (Q:VK),Q (.int (m+n)) H→rAdd (.int m) (.int n) H Q:=fun m n H Q q=>⟨m,n,rfl,rfl,q⟩
theorem hd_Sub:∀(m n:Int) (H:Hp) (Q:VK),Q (.int (m - n)) H→rSub (.int m) (.int n) H Q:=fun m n H Q q=>⟨m,n,rfl,rfl,q⟩
end
section
variable {X:Cx} {W:WX} {k j n:Nat} {C:Addr} {x:Str} {F:FnV} {dvs:List V} {p pos:Pos} {e:Expr} {es:List Expr} {t:TA}
theorem m_cK {K:PySem.W.Frag} {mg:Str→Option Value} (c:CalZ X.prog X.w K mg X.base k x n F dvs) (hr:Room j X.A) (hk:k≤j) (tk:Takes X W) (hg:Gl X x) (ha:PA X (e::es) t)
  (hdb:(x == ("__debug__" :Str))=false:=by decide) (he:starEach (e::es) X.env=(false,eval e X.env)::starEach es X.env:=by rfl) (hpl:(backTo pos (starEach es X.env)).any (·.1)=false:=by rfl) (hK:X.K=K:=by rfl) (hM:X.mg=mg:=by rfl):
  PE X (.Call (.Name x p) (e::es) [] pos) (tCallSD (spF ⟨K,mg⟩ n F) dvs (WE W) t):=by
 subst hK
 subst hM
 exact m_cZ c hr hk tk hg ha hdb he hpl
theorem m_mkK {K:PySem.W.Frag} {mg:Str→Option Value} (c:MakZ X.prog X.w K mg X.base k x C n F dvs) (hr:Room j X.A) (hk:k+1≤j) (tk:Takes X W) (hg:Gl X x) (ha:PA X (e::es) t)
  (hdb:(x == ("__debug__" :Str))=false:=by decide) (he:starEach (e::es) X.env=(false,eval e X.env)::starEach es X.env:=by rfl) (hpl:(backTo pos (starEach es X.env)).any (·.1)=false:=by rfl) (hK:X.K=K:=by rfl) (hM:X.mg=mg:=by rfl):
  PE X (.Call (.Name x p) (e::es) [] pos) (sS C (spF ⟨K,mg⟩ n F) dvs (WE W) t):=by
 subst hK
 subst hM
 exact m_mkZ c hr hk tk hg ha hdb he hpl
end
section
variable {X:Cx}
theorem ru {e:Expr} {t1 t2:TE} (h1:PE X e t1) (h2:PE X e t2):PE X e (fun σ H Q=>t1 σ H Q∨t2 σ H Q):=
 ⟨fun pins s σ H Q I h=>h.elim (h1.run pins s σ H Q I) (h2.run pins s σ H Q I)⟩
end
section
variable {G:Gc} {W:WX} {E:En} {σ σ' :L2.St} {τ τ' τ2:List V} {H:Hp} {s s' :SD} {θ θ' θ2:List Vl} {v u:V} {b:Vl} {x y:D} {p p' :Wr} {Q:VK} {m m' :Nat} {w w' :List (Option V)} {ŵ ŵ' :List (Option Vl)} {S S' :Sto} {i k:Nat} {is:List Nat} {od:Obj} {ks:List (Key×D)} {vs:List (Key×V)}
def En.cl (E:En) (p:Wr) (nx:Nat) (d:Addr) (o:HO):En:= {F:=fun b=>E.F b∨b=d,W:= {γ:=p.γ,n:=E.W.n,O:=fun b=>E.W.O b∨b=d,H:=upd E.W.H d o},S:= {nx:=nx,get:=fun j=>if p.γ j=d then none else E.S.get j}}
theorem kB {nx:Nat} {d:Addr} {o:HO} {j:Nat} {d0:D} (e:(E.cl p nx d o).S.get j=some d0):p.γ j≠d∧E.S.get j=some d0:=by
 have e:(if p.γ j=d then none else E.S.get j)=some d0:=e
 split at e
 ·cases e
 ·rename_i c; exact ⟨c,e⟩
theorem cl_put {nx:Nat} {d:Addr} {o:HO} {j:Nat} {d0:D} (c:p.γ j≠d) (e:E.S.get j=some d0):(E.cl p nx d o).S.get j=some d0:=by
 show (if p.γ j=d then none else E.S.get j)=some d0
 rw [if_neg c]; exact e
theorem eO {j:Nat} {d0:D} (e:(S.del i).get j=some d0):j≠i∧S.get j=some d0:=by
 have e:(if j=i then none else S.get j)=some d0:=e
 split at e
 ·cases e
 ·rename_i c; exact ⟨c,e⟩
theorem Sm.toCl (h:Sm G E m p w ŵ S) (q:S.get i=some (.dct ks)) (hd:p.H (p.γ i)=some (.dK vs)):
  Sm G (E.cl p S.nx (p.γ i) (.frz od (.dK vs))) m {p with H:=upd p.H (p.γ i) (.frz od (.dK vs))} w ŵ (S.del i):=by
 obtain ⟨o1,_⟩:=h.cel i _ q
 have l:=cG (p:=p) (o:= .frz od (.dK vs)) o1
 have ne:∀{b:Addr},b≠p.γ i→upd p.H (p.γ i) (.frz od (.dK vs)) b=p.H b:=fun c=>upd_ne c
 have gi:∀{j:Nat} {d0:D},(S.del i).get j=some d0→p.γ j≠p.γ i:=fun {j d0} e z=>(eO e).1 (h.inj j i d0 _ (eO e).2 q z)
 have wn:∀{b:Addr},b≠p.γ i→(E.cl p S.nx (p.γ i) (.frz od (.dK vs))).W.H b=E.W.H b:=fun c=>upd_ne c
 refine {h with nx:=Nat.le_refl _,ebd:=fun j d0 e=>Nat.lt_of_lt_of_le (h.ebd j d0 (kB e).2) h.nx,old:=fun _ _=>rfl,bd:=fun j d0 e=>h.bd j d0 (eO e).2,cel:=fun j d0 e=>⟨(h.cel j d0 (eO e).2).1,(h.cel j d0 (eO e).2).2.mono l (ne (gi e))⟩,inj:=fun j t d0 d1 e1 e2=>h.inj j t d0 d1 (eO e1).2 (eO e2).2,born:=fun j d0 e=>?_,frm:=fun b f=>?_,kp:=fun b o e n=>?_,sub:=fun b o e=>?_,grw:=fun b o e n z=>?_,dom:=fun b e=>?_,ent:=fun j e e1=>?_,own:=fun j y b e1 e2=>?_}
 ·rcases h.born j d0 (eO e).2 with ⟨d1,b1⟩ | b1
  ·exact .inl ⟨d1,cl_put (gi e) b1⟩
  ·exact .inr ((wn (gi e)).trans b1)
 ·rcases f with f | rfl
  ·exact ⟨(h.frm b f).1,fun j d0 e=>(h.frm b f).2 j d0 (eO e).2⟩
  ·exact ⟨o1,fun j d0 e=>gi e⟩
 ·by_cases c:b=p.γ i
  ·subst c
   have e:upd E.W.H (p.γ i) (.frz od (.dK vs)) (p.γ i)=some o:=e
   rw [upd_same] at e
   cases e
   exact ⟨fun _=>upd_same, .inl upd_same⟩
  ·rw [wn c] at e
   show (_→upd _ _ _ _=_)∧Kept o (upd _ _ _ _)
   rw [ne c]
   obtain ⟨k1,k2⟩:=h.kp b o e fun j d0 g z=>by
    have hj:=h.old j (h.ebd j d0 g)
    rw [←hj] at z
    exact n j d0 (cl_put (fun y=>c (z.trans y)) g) z
   exact ⟨fun f=>k1 (f.resolve_right c),k2⟩
 ·by_cases c:b=p.γ i
  ·subst c; exact ⟨_,upd_same⟩
  ·rw [wn c] at e
   obtain ⟨o',e'⟩:=h.sub b o e
   exact ⟨o',by show upd _ _ _ _=_; rw [ne c]; exact e'⟩
 ·by_cases c:b=p.γ i
  ·exact n (.inr c)
  ·rw [wn c] at e
   exact h.grw b o e (fun y=>n (.inl y)) z
 ·by_cases c:b=p.γ i
  ·subst c; exact ⟨_,upd_same⟩
  ·obtain ⟨o',e'⟩:=h.dom b e
   exact ⟨o',by show upd _ _ _ _=_; rw [ne c]; exact e'⟩
 ·obtain ⟨u,e2,r⟩:=h.ent j e e1
  refine ⟨u,e2, ?_⟩
  cases e with
  | d z=>exact Rep.mono l r
  | own z=>
   obtain ⟨b,rfl,r⟩:=r
   exact ⟨b,rfl,r.mono l (ne fun hb=>(h.own j z b e1 e2).2.2.2 i _ q hb.symm)⟩
  | loc t=>exact r
 ·obtain ⟨a1,a2,a3,a4⟩:=h.own j y b e1 e2
  have c:b≠p.γ i:=fun z=>a4 i _ q z.symm
  exact ⟨a1,(wn c).trans a2,fun f=>f.elim a3 c,fun t d0 e=>a4 t d0 (eO e).2⟩
theorem Sm.ofCl (h:Sm G E m p w ŵ S) (q:S.get i=some (.dct ks)) (hd:p.H (p.γ i)=some (.dK vs)) (h' :Sm G (E.cl p S.nx (p.γ i) (.frz od (.dK vs))) m' p' w' ŵ' S'):
  p'.H (p.γ i)=some (.frz od (.dK vs))∧(RepK G p' ks vs→Sm G E m' {p' with H:=upd p'.H (p.γ i) (.dK vs)} w' ŵ' (S'.put i (.dct ks))):=by
 have hi:=h.bd i _ q
 have nx' :S.nx≤S'.nx:=h'.nx
 have gI:p'.γ i=p.γ i:=h'.old i hi
 obtain ⟨od1,od2⟩:=h'.frm (p.γ i) (.inr rfl)
 have f0:p'.H (p.γ i)=some (.frz od (.dK vs)):=(h'.kp (p.γ i) _ upd_same fun j d0 e z=>(kB e).1 z.symm).1 (.inr rfl)
 have l:=cG (p:=p') (o:= .dK vs) od1
 have ne:∀{b:Addr},b≠p.γ i→upd p'.H (p.γ i) (.dK vs) b=p'.H b:=fun c=>upd_ne c
 have wn:∀{b:Addr},b≠p.γ i→(E.cl p S.nx (p.γ i) (.frz od (.dK vs))).W.H b=E.W.H b:=fun c=>upd_ne c
 have pg:∀{j:Nat} {d0:D},(S'.put i (.dct ks)).get j=some d0→(j=i∧d0= .dct ks)∨(j≠i∧S'.get j=some d0):=fun {j d0} e=>by
  by_cases c:j=i
  ·subst c
   rw [Sto.put_same] at e; cases e; exact .inl ⟨rfl,rfl⟩
  ·rw [Sto.put_ne c] at e; exact .inr ⟨c,e⟩
 refine ⟨f0,fun r=> {h' with nx:=Nat.le_trans h.nx nx',ebd:=h.ebd,old:=fun j hj=>(h'.old j (Nat.lt_of_lt_of_le hj h.nx)).trans (h.old j hj),bd:=fun j d0 e=>?_,cel:=fun j d0 e=>?_,inj:=fun j t d0 d1 e1 e2 e3=>?_,born:=fun j d0 e=>?_,frm:=fun b f=>⟨(h'.frm b (.inl f)).1,fun j d0 e=>?_⟩,kp:=fun b o e n=>?_,sub:=fun b o e=>?_,grw:=fun b o e n z=>?_,dom:=fun b e=>?_,ent:=fun j e e1=>?_,own:=fun j y b e1 e2=>?_}⟩
 ·rcases pg e with ⟨rfl,_⟩ | ⟨_,e⟩
  ·exact Nat.lt_of_lt_of_le hi nx'
  ·exact h'.bd j d0 e
 ·rcases pg e with ⟨rfl,rfl⟩ | ⟨_,e⟩
  ·rw [gI]
   exact ⟨od1,vs,upd_same,r.mono l⟩
  ·exact ⟨(h'.cel j d0 e).1,(h'.cel j d0 e).2.mono l (ne (od2 j d0 e))⟩
 ·rcases pg e1 with ⟨c1,_⟩ | ⟨_,f1⟩
  ·rcases pg e2 with ⟨c2,_⟩ | ⟨_,f2⟩
   ·exact c1.trans c2.symm
   ·subst c1
    exact (od2 t d1 f2 (e3.symm.trans gI)).elim
  ·rcases pg e2 with ⟨c2,_⟩ | ⟨_,f2⟩
   ·subst c2
    exact (od2 j d0 f1 (e3.trans gI)).elim
   ·exact h'.inj j t d0 d1 f1 f2 e3
 ·rcases pg e with ⟨rfl,rfl⟩ | ⟨_,e⟩
  ·rcases h.born j _ q with b1 | b1
   ·exact .inl b1
   ·right
    show E.W.H (p'.γ j)=none
    rw [gI]; exact b1
  ·rcases h'.born j d0 e with ⟨d1,b1⟩ | b1
   ·exact .inl ⟨d1,(kB b1).2⟩
   ·right
    rw [wn (od2 j d0 e)] at b1
    exact b1
 ·rcases pg e with ⟨rfl,rfl⟩ | ⟨_,e⟩
  ·show p'.γ j≠b
   rw [gI]; exact (h.frm b f).2 j _ q
  ·exact (h'.frm b (.inl f)).2 j d0 e
 ·show (_→upd _ _ _ _=_)∧Kept o (upd _ _ _ _)
  by_cases c:b=p.γ i
  ·subst c
   rw [upd_same,←hd]
   exact h.kp _ o e n
  ·rw [ne c]
   obtain ⟨k1,k2⟩:=h'.kp b o ((wn c).trans e) fun j d0 g z=>by
    obtain ⟨g1,g2⟩:=kB g
    exact n j d0 g2 (z.trans (h.old j (h.ebd j d0 g2)))
   exact ⟨fun f=>k1 (.inl f),k2⟩
 ·by_cases c:b=p.γ i
  ·subst c; exact ⟨_,upd_same⟩
  ·obtain ⟨o',e'⟩:=h'.sub b o ((wn c).trans e)
   exact ⟨o',by show upd _ _ _ _=_; rw [ne c]; exact e'⟩
 ·by_cases c:b=p.γ i
  ·subst c
   exact h.grw _ o e n (h.cel i _ q).1
  ·exact h'.grw b o ((wn c).trans e) (fun y=>y.elim n c) z
 ·by_cases c:b=p.γ i
  ·subst c; exact ⟨_,upd_same⟩
  ·obtain ⟨o',e'⟩:=h'.dom b e
   exact ⟨o',by show upd _ _ _ _=_; rw [ne c]; exact e'⟩
 ·obtain ⟨u,e2,r⟩:=h'.ent j e e1
  refine ⟨u,e2, ?_⟩
  cases e with
  | d z=>exact Rep.mono l r
  | own z=>
   obtain ⟨b,rfl,r⟩:=r
   exact ⟨b,rfl,r.mono l (ne fun hb=>(h'.own j z b e1 e2).2.2.1 (.inr hb))⟩
  | loc t=>exact r
 ·obtain ⟨a1,a2,a3,a4⟩:=h'.own j y b e1 e2
  have c:b≠p.γ i:=fun z=>a3 (.inr z)
  refine ⟨a1,(wn c).symm.trans a2,fun f=>a3 (.inl f),fun t d0 e=>?_⟩
  rcases pg e with ⟨rfl,rfl⟩ | ⟨_,e⟩
  ·show p'.γ t≠b
   rw [gI]; exact fun z=>c z.symm
  ·exact a4 t d0 e
theorem Sm.pushs:∀{ds:List D} {us:List V} {w:List (Option V)} {ŵ:List (Option Vl)},Sm G E m p w ŵ S→Reps G p ds us→Sm G E m p (w++us.map some) (ŵ++(ds.map Vl.d).map some) S
 | [],us,w,ŵ,h,r=>by
  rw [show us= [] from r]
  simpa using h
 | d::ds,us,w,ŵ,h,r=>by
  obtain ⟨v,r',rfl,h1,h2⟩:=r
  have:=(h.push h1).pushs h2
  rw [List.append_assoc,List.append_assoc] at this
  exact this
noncomputable def xl (k:Nat) (fz:Vl→SD→R Unit) (ft:SD→R Bool) (fe:SD→R Vl) (is:List Nat):SD→R Vl:=fun s=>match s.sl[k]? with
 | some (some (.d (.cell i)))=>match s.st.get i with
  | some (.dct ks)=>(kM (fun _=>True) fz ft fe is (Wk.keys.ds ks) [] ((⟨s.sl,s.st.del i⟩:SD).wipe is)).nx.bind fun acc s2=> .ok (.own (.lst acc)) ⟨s2.sl,s2.st.put i (.dct ks)⟩
  | _=> .bad
 | _=>zLc (ic .keys (aa k)) fz ft fe is s
theorem RE.lcD {g:TG} {tt:TT} {te:TE} {fz:Vl→SD→R Unit} {ft:SD→R Bool} {fe:SD→R Vl} (hg:RG G WF is g fz) (hT:RT G WF tt ft) (he:RE G WF te fe):
  RE G W (fun σ H Q=>tLockE (tLc (iKeys (tVar k)) g tt te is) σ H Q∨tLc (iKeys (tLk (tVar k))) g tt te is σ H Q) (xl k fz ft fe is):=by
 intro E σ τ H s θ Q hN hR hw
 unfold xl at hw
 split at hw
 ·rename_i i e
  split at hw
  ·rename_i ks e2
   left
   have ht:=hR.tlen
   obtain ⟨p,rfl,hl,h⟩:=hR
   obtain ⟨o1,vs,hd,r⟩:=h.cel i _ e2
   refine ⟨p.γ i, .dK vs,hd,True.intro,fun od=>?_⟩
   have l:=cG (p:=p) (o:= .frz od (.dK vs)) o1
   have h1:=h.toCl (od:=od) e2 hd
   have h2:=h1.pushs (r.vals.mono l)
   have hR2:Rel G (E.cl p s.st.nx (p.γ i) (.frz od (.dK vs))) σ (τ++vs.map (·.2)) (upd p.H (p.γ i) (.frz od (.dK vs))) ⟨s.sl,s.st.del i⟩ (θ++(ks.map (·.2)).map .d):=by
    refine ⟨{p with H:=upd p.H (p.γ i) (.frz od (.dK vs))},rfl,hl, ?_⟩
    rw [List.map_append,List.map_append,←List.append_assoc,←List.append_assoc]
    exact h2
   have hN2:Nl (θ++(ks.map (·.2)).map Vl.d):=fun e he j=>by
    rcases List.mem_append.mp he with he | he
    ·exact hN e he j
    ·obtain ⟨x,_,rfl⟩:=List.mem_map.mp he
     exact fun z=>nomatch z
   have hi:RIat G W (E.cl p s.st.nx (p.γ i) (.frz od (.dK vs))) (iKeys (tVar k)) (fun s=>if s.sl[k]? =some (some (.d (.cell i))) then .ok ⟨[],fun _=>True,Wk.keys.ds ks⟩ s else .bad):=by
    intro σ τ H s1 θ Q hN hR hw
    have hw:Wp (if s1.sl[k]? =some (some (.d (.cell i))) then R.ok _ s1 else .bad) _ _:=hw
    split at hw
    ·rename_i e3
     have hR0:=hR
     obtain ⟨p1,rfl,hl1,h3⟩:=hR
     have f0:∀{H'} {σ' τ' s' θ'},Rel G (E.cl p s.st.nx (p.γ i) (.frz od (.dK vs))) σ' τ' H' s' θ'→H' (p.γ i)=some (.frz od (.dK vs)):=fun {H' σ' τ' s' θ'} hR=>by
      obtain ⟨p2,rfl,_,h4⟩:=hR
      exact (h4.kp (p.γ i) _ upd_same fun j d0 e z=>(kB e).1 z.symm).1 (.inr rfl)
     obtain ⟨v,e4,r4⟩:=h3.ent k (.d (.cell i)) (by rw [List.getElem?_append_left (ae e3)]; exact e3)
     rw [List.getElem?_append_left (by rw [hl1]; exact ae e3)] at e4
     have r4:i<p1.n∧v= .ref (p1.γ i):=r4
     have gI:p1.γ i=p.γ i:=h3.old i (h.bd i _ e2)
     obtain ⟨_,rfl⟩:=r4
     rw [gI] at e4
     refine ⟨_,e4,p.γ i,od,rfl, .inl ⟨vs,f0 hR0, ?_⟩⟩
     refine hw [] _ _ _ (fun _ _ _ _ _ h=>h) rfl (by simpa using hR0) fun j σ τ τ2 θ θ2 H s ht ht2 h5 _=>?_
     have hf:=f0 h5
     have kl:=r.len
     have dl:(Wk.keys.ds ks).length=ks.length:=by simp [Wk.ds]
     refine ⟨fun d e=>⟨⟨hf,by rw [kl,←dl]; exact ae e⟩,fun x H' y=>?_⟩,fun e=>⟨hf,by rw [kl,←dl]; exact List.getElem?_eq_none_iff.mp e⟩⟩
     obtain ⟨rfl,kk,z,e1,rfl⟩:=y
     have ek:(vs.map (·.1))[j]? =some kk:=by rw [List.getElem?_map,e1]; rfl
     rw [r.keys,List.getElem?_map] at ek
     obtain ⟨kd,e5,e6⟩:=Option.map_eq_some_iff.mp ek
     have e:(ks.map fun kv=>jl kv.1)[j]? =some d:=e
     rw [List.getElem?_map,e5] at e
     cases e
     have e7:(fun kv:Key×D=>jl kv.fst) kd=jl kk:=congrArg jl e6
     rw [e7]
     exact h5.push fun _=>gX
    ·exact hw.elim
   refine lc_at hi hg hT he σ _ _ ⟨s.sl,s.st.del i⟩ _ _ hN2 hR2 ?_
   unfold zLc
   rw [ab]
   have e' :(⟨s.sl,s.st.del i⟩:SD).sl[k]? =some (some (.d (.cell i))):=e
   show Wp (if _ then _ else _) _ _
   rw [if_pos e',wY]
   show Wp (if Nl [] then _ else _) _ _
   have n0:Nl []:=fun e he j=>by cases he
   rw [if_pos n0]
   rw [ab,vk] at hw ⊢
   refine hw.mono (fun acc s2 hw v H' h3=>?_) fun _ _ _ h=>h
   obtain ⟨p2,rfl,hl2,h4⟩:=h3
   obtain ⟨f0,back⟩:=h.ofCl e2 hd h4
   refine ⟨f0,hw v _ ?_⟩
   have e1:σ++((τ++vs.map (·.2))++ [v]).map some=((σ++τ.map some)++(vs.map (·.2)).map some)++ [some v]:=by simp
   have e3:s2.sl++((θ++(ks.map fun q:Key×D=>q.2).map Vl.d)++ [Vl.own (.lst acc)]).map some=((s2.sl++θ.map some)++((ks.map fun q:Key×D=>q.2).map Vl.d).map some)++ [some (Vl.own (.lst acc))]:=by simp
   rw [e1,e3] at h4 back
   have hA:(σ++τ.map some).length=(s2.sl++θ.map some).length:=by simp [hl2,ht]
   have hB:((vs.map (·.2)).map some).length=(((ks.map (·.2)).map Vl.d).map some).length:=by simp [r.len]
   have rr:RepK G p2 ks vs:=by
    refine .of r.keys (.of (by simp [r.len]) fun j d v' g1 g2=>?_)
    obtain ⟨u,e5,r5⟩:=h4.ent ((s2.sl++θ.map some).length+j) (.d d) (by
     rw [List.getElem?_append_left (by simp; have:=ae g1; simp at this; omega),List.getElem?_append_right (Nat.le_add_right _ _),Nat.add_sub_cancel_left]
     rw [List.getElem?_map,List.getElem?_map,g1]; rfl)
    rw [←hA,List.getElem?_append_left (by simp; have:=ae g2; simp at this; omega),List.getElem?_append_right (Nat.le_add_right _ _),Nat.add_sub_cancel_left,List.getElem?_map,g2] at e5
    cases e5
    exact r5
   exact .snoc ((back rr).mid hA hB (bE hl2)) hl2 rfl
  ·exact hw.elim
 ·right
  exact aal (RI.keys aaa) hg hT he E σ τ H s θ Q hN hR hw
noncomputable def sF (fa:SD→R Vl) (fz:Vl→SD→R Unit) (ft:SD→R Bool) (fe:SD→R Vl) (is:List Nat):SD→R Vl:=fun s=>match fa s with
 | .ok (.d (.cell i)) _=>match s.st.get i with
  | some (.dct ks)=>if fa ⟨s.sl,s.st.del i⟩= .ok (.d (.cell i)) ⟨s.sl,s.st.del i⟩ then (kM (fun _=>True) fz ft fe is (Wk.keys.ds ks) [] ((⟨s.sl,s.st.del i⟩:SD).wipe is)).nx.bind fun acc s2=> .ok (.own (.lst acc)) ⟨s2.sl,s2.st.put i (.dct ks)⟩ else .bad
  | _=> .bad
 | _=>zLc (ic .keys fa) fz ft fe is s
theorem RE.lcDE {td:TE} {fa:SD→R Vl} {g:TG} {tt:TT} {te:TE} {fz:Vl→SD→R Unit} {ft:SD→R Bool} {fe:SD→R Vl} (ha:RE G W td fa) (hg:RG G WF is g fz) (hT:RT G WF tt ft) (he:RE G WF te fe):
  RE G W (fun σ H Q=>tLockE (tLc (iKeys td) g tt te is) σ H Q∨tLc (iKeys (tLk td)) g tt te is σ H Q) (sF fa fz ft fe is):=by
 intro E σ τ H s θ Q hN hR hw
 unfold sF at hw
 split at hw
 ·rename_i i s00 e
  split at hw
  ·rename_i ks e2
   split at hw
   case isFalse=>exact hw.elim
   rename_i e
   left
   have ht:=hR.tlen
   obtain ⟨p,rfl,hl,h⟩:=hR
   obtain ⟨o1,vs,hd,r⟩:=h.cel i _ e2
   refine ⟨p.γ i, .dK vs,hd,True.intro,fun od=>?_⟩
   have l:=cG (p:=p) (o:= .frz od (.dK vs)) o1
   have h1:=h.toCl (od:=od) e2 hd
   have h2:=h1.pushs (r.vals.mono l)
   have hR2:Rel G (E.cl p s.st.nx (p.γ i) (.frz od (.dK vs))) σ (τ++vs.map (·.2)) (upd p.H (p.γ i) (.frz od (.dK vs))) ⟨s.sl,s.st.del i⟩ (θ++(ks.map (·.2)).map .d):=by
    refine ⟨{p with H:=upd p.H (p.γ i) (.frz od (.dK vs))},rfl,hl, ?_⟩
    rw [List.map_append,List.map_append,←List.append_assoc,←List.append_assoc]
    exact h2
   have hN2:Nl (θ++(ks.map (·.2)).map Vl.d):=fun e he j=>by
    rcases List.mem_append.mp he with he | he
    ·exact hN e he j
    ·obtain ⟨x,_,rfl⟩:=List.mem_map.mp he
     exact fun z=>nomatch z
   have hi:RIat G W (E.cl p s.st.nx (p.γ i) (.frz od (.dK vs))) (iKeys td) (fun s=>if fa s= .ok (.d (.cell i)) s then .ok ⟨[],fun _=>True,Wk.keys.ds ks⟩ s else .bad):=by
    intro σ τ H s1 θ Q hN hR hw
    have hw:Wp (if fa s1= .ok (.d (.cell i)) s1 then R.ok _ s1 else .bad) _ _:=hw
    split at hw
    ·rename_i e3
     have f0:∀{H'} {σ' τ' s' θ'},Rel G (E.cl p s.st.nx (p.γ i) (.frz od (.dK vs))) σ' τ' H' s' θ'→H' (p.γ i)=some (.frz od (.dK vs)):=fun {H' σ' τ' s' θ'} hR=>by
      obtain ⟨p2,rfl,_,h4⟩:=hR
      exact (h4.kp (p.γ i) _ upd_same fun j d0 e z=>(kB e).1 z.symm).1 (.inr rfl)
     refine ha _ σ τ H s1 θ _ hN hR ?_
     rw [e3]
     intro v H1 hR1
     have hR0:=hR1.pop
     obtain ⟨p1,rfl,hl1,h3⟩:=hR1.unsnoc
     have ll:=aD h3.len
     obtain ⟨v',e4,r4⟩:=h3.ent _ (.d (.cell i)) af
     rw [←ll,af] at e4
     cases e4
     have r4:i<p1.n∧v= .ref (p1.γ i):=r4
     have gI:p1.γ i=p.γ i:=h3.old i (h.bd i _ e2)
     obtain ⟨_,rfl⟩:=r4
     rw [gI]
     refine ⟨p.γ i,od,rfl, .inl ⟨vs,f0 hR0, ?_⟩⟩
     refine hw [] _ _ _ (fun _ _ _ _ _ h=>h) rfl (by simpa using hR0) fun j σ τ τ2 θ θ2 H s ht ht2 h5 _=>?_
     have hf:=f0 h5
     have kl:=r.len
     have dl:(Wk.keys.ds ks).length=ks.length:=by simp [Wk.ds]
     refine ⟨fun d e=>⟨⟨hf,by rw [kl,←dl]; exact ae e⟩,fun x H' y=>?_⟩,fun e=>⟨hf,by rw [kl,←dl]; exact List.getElem?_eq_none_iff.mp e⟩⟩
     obtain ⟨rfl,kk,z,e1,rfl⟩:=y
     have ek:(vs.map (·.1))[j]? =some kk:=by rw [List.getElem?_map,e1]; rfl
     rw [r.keys,List.getElem?_map] at ek
     obtain ⟨kd,e5,e6⟩:=Option.map_eq_some_iff.mp ek
     have e:(ks.map fun kv=>jl kv.1)[j]? =some d:=e
     rw [List.getElem?_map,e5] at e
     cases e
     have e7:(fun kv:Key×D=>jl kv.fst) kd=jl kk:=congrArg jl e6
     rw [e7]
     exact h5.push fun _=>gX
    ·exact hw.elim
   refine lc_at hi hg hT he σ _ _ ⟨s.sl,s.st.del i⟩ _ _ hN2 hR2 ?_
   unfold zLc
   rw [ab]
   have e' :=e
   show Wp (if _ then _ else _) _ _
   rw [if_pos e',wY]
   show Wp (if Nl [] then _ else _) _ _
   have n0:Nl []:=fun e he j=>by cases he
   rw [if_pos n0]
   rw [ab,vk] at hw ⊢
   refine hw.mono (fun acc s2 hw v H' h3=>?_) fun _ _ _ h=>h
   obtain ⟨p2,rfl,hl2,h4⟩:=h3
   obtain ⟨f0,back⟩:=h.ofCl e2 hd h4
   refine ⟨f0,hw v _ ?_⟩
   have e1:σ++((τ++vs.map (·.2))++ [v]).map some=((σ++τ.map some)++(vs.map (·.2)).map some)++ [some v]:=by simp
   have e3:s2.sl++((θ++(ks.map fun q:Key×D=>q.2).map Vl.d)++ [Vl.own (.lst acc)]).map some=((s2.sl++θ.map some)++((ks.map fun q:Key×D=>q.2).map Vl.d).map some)++ [some (Vl.own (.lst acc))]:=by simp
   rw [e1,e3] at h4 back
   have hA:(σ++τ.map some).length=(s2.sl++θ.map some).length:=by simp [hl2,ht]
   have hB:((vs.map (·.2)).map some).length=(((ks.map (·.2)).map Vl.d).map some).length:=by simp [r.len]
   have rr:RepK G p2 ks vs:=by
    refine .of r.keys (.of (by simp [r.len]) fun j d v' g1 g2=>?_)
    obtain ⟨u,e5,r5⟩:=h4.ent ((s2.sl++θ.map some).length+j) (.d d) (by
     rw [List.getElem?_append_left (by simp; have:=ae g1; simp at this; omega),List.getElem?_append_right (Nat.le_add_right _ _),Nat.add_sub_cancel_left]
     rw [List.getElem?_map,List.getElem?_map,g1]; rfl)
    rw [←hA,List.getElem?_append_left (by simp; have:=ae g2; simp at this; omega),List.getElem?_append_right (Nat.le_add_right _ _),Nat.add_sub_cancel_left,List.getElem?_map,g2] at e5
    cases e5
    exact r5
   exact .snoc ((back rr).mid hA hB (bE hl2)) hl2 rfl
  ·exact hw.elim
 ·right
  exact aal (RI.keys ha) hg hT he E σ τ H s θ Q hN hR hw
end
section
variable {x:D} {sl:List (Option Vl)} {S:Sto} {fz:Vl→SD→R Unit} {ft:SD→R Bool} {fe:SD→R Vl} {is:List Nat} {i k:Nat}
theorem tT (h:S.get i=some x):(S.del i).put i x=S:=by
 unfold Sto.put Sto.del
 congr 1
 funext j
 show (if j=i then _ else if j=i then _ else _)=_
 by_cases c:j=i
 ·subst c; simp [h]
 ·simp [c]
theorem lcD_d (hk:sl[k]? =some (some (.d x))) (hx:∀i,x≠ .cell i):xl k fz ft fe is ⟨sl,S⟩=zLc (ic .keys (aa k)) fz ft fe is ⟨sl,S⟩:=by
 unfold xl
 show (match sl[k]? with | some (some (.d (.cell i)))=>_ | _=>_)=_
 rw [hk]
 cases x<;> first | rfl | exact (hx _ rfl).elim
end
def zRaise0 (c:Str) (fa:SD→R Vl):SD→R Fl:=fun s=>(fa s).bind fun _ s1=> .ex c [] s1
def zRaise1 (c f:Str) (fa:SD→R Vl):SD→R Fl:=fun s=>(fa s).bind fun a s1=>(s1.fix a).bind fun x s2=> .ex c [(f,x)] s2
def zTry (m:Str→Option Bool) (i:Nat) (fb fs:SD→R Fl):SD→R Fl:=fun s=>match fb s with
 | .ex c vs s1=>(match m c with
  | some true=>(match fs {s1 with sl:=s1.sl.set i (some (.d (.exc c vs)))} with
   | .ok fl s2=> .ok fl (s2.wipe [i])
   | _=> .bad)
  | some false=> .ex c vs s1
  | none=> .bad)
 | r=>r
def oXf (ok:Str→Bool) (f:Str) (a:Vl) (s:SD):R Vl:=match s.cont a with
 | some (.exc c fs)=>if ok c=true then (match fO fs f with
  | some x=> .ok (.d x) s
  | none=> .bad) else .bad
 | _=> .bad
noncomputable def oIsX (m:Str→Option Bool) (kd:Bool) (a:Vl) (s:SD):R Vl:=match s.cont a with
 | some (.exc c _)=>(match m c with
  | some b=> .ok (.d (.bl b)) s
  | none=> .bad)
 | some x=>(match x.knd with
  | some _=>if kd=true then .ok (.d (.bl false)) s else .bad
  | none=> .bad)
 | none=> .bad
def TakesOk (G:Gc) (cv:Value) (m:Str→Option Bool):Prop:=∀c b C,m c=some b→G.mg c=some (.ref C)→PySem.W.exmOne G.K (.ref C) cv=some b
def XfOk (G:Gc) (f:Str) (ok:Str→Bool):Prop:=∀c C,ok c=true→G.mg c=some (.ref C)→L2.XfC G.K C∧PySem.W.findIn G.K (.ref C) f=some none
structure IsXOk (G:Gc) (cv:V) (u:Value) (m:Str→Option Bool) (kd:Bool):Prop where
 cls:ClsV cv u
 own:∀c b C,m c=some b→G.mg c=some (.ref C)→L2.ExcC G.K C∧PySem.W.kitOne G.K (.ref C) u=some b
 kd:kd=true→∀k∈ ["NoneType","bool","int","str","list","tuple","dict"],PySem.W.kitOne G.K (.type k) u=some false
def rIsXZ (K:PySem.W.Frag):List V→Hp→VK→Prop:=fun xs H Q=>rIsX K xs H Q∨rIsi K xs H Q
section
variable {G:Gc} {W:WX} {E:En} {σ σ' :L2.St} {τ:List V} {H:Hp} {s s' :SD} {θ:List Vl} {v:V} {a b:Vl} {x:D} {p:Wr} {Q:VK} {i:Nat}
theorem Cont.exc {c:Str} {ds:List (Str×D)} (h:Cont G p (.exc c ds) v):Rep G p (.exc c ds) v:=h.sc rfl
theorem RS.tryK {cv:Value} {m:Str→Option Bool} {tb:WX→TS} {ts:TS} {fb fs:SD→R Fl} (hm:TakesOk G cv m) (hb:∀W',RS G W' (tb W') fb) (hs:RS G WF ts fs):RS G W (fun D σ H=>tb (wK G.K cv i ts W D) D σ H) (zTry m i fb fs):=by
 intro E σ τ H s θ D hN hR hw
 refine hb _ E σ τ H s θ D hN hR ?_
 unfold zTry at hw
 cases e:fb s with
 | ok fl s1=>rw [e] at hw; exact hw
 | bad=>rw [e] at hw; exact hw
 | ex c vs s1=>
  rw [e] at hw
  dsimp only at hw
  intro cls d σ' H' hx
  have hx0:=hx
  obtain ⟨p,rfl,hl,h,C,hC,rfl,xv⟩:=hx
  cases e1:m c with
  | none=>rw [e1] at hw; exact hw.elim
  | some b=>
   have hmb:=hm c b C e1 hC
   rw [e1] at hw
   cases b with
   | false=>exact ⟨false,hmb,(fun z=>nomatch z),fun _=>hw _ _ σ' _ hx0⟩
   | true=>
    refine ⟨true,hmb,fun _ a ha=>?_,fun z=>nomatch z⟩
    have q1:=h.alloc (o:=kxO (.ref C) d a) ha
    have rep:Rep G {p with H:=upd p.H a (kxO (.ref C) d a)} (.exc c vs) (.ref a):=by
     refine ⟨a,C,d,rfl,(h.fresh ha).2,hC,upd_same, ?_⟩
     rcases xv with ⟨e2,e3⟩ | ⟨da,fvs,e2,e3,e4,e5⟩
     ·exact .inl ⟨e2,e3⟩
     ·exact .inr ⟨da,fvs,e2,(upd_ne (ne_of_none e3 ha)).trans e3,e4,RepF.mono (eF ha) e5⟩
    have hR1:Rel G E (σ'.set i (some (.ref a))) τ (upd p.H a (kxO (.ref C) d a)) {s1 with sl:=s1.sl.set i (some (.d (.exc c vs)))} θ:=
     Rel.store (v:= .ref a) (a:= .d (.exc c vs)) (Rel.snoc (q1.push rep) hl rfl) hN fun j z=>nomatch z
    have out:∀{σ2:L2.St} {τ2:List V} {H2:Hp} {s2:SD} {θ2:List Vl},Nl θ2→Rel G E σ2 τ2 H2 s2 θ2→Rel G E (σ2.set i none) τ2 H2 (s2.wipe [i]) θ2:=fun hN2 h2=>(h2.wipe (is:= [i])).repl hN2 dH .set
    refine hs E _ τ _ _ θ _ hN hR1 ?_
    dsimp only at hw
    cases e2:fs {s1 with sl:=s1.sl.set i (some (.d (.exc c vs)))} with
    | bad=>rw [e2] at hw; exact hw.elim
    | ex c2 v2 s2=>rw [e2] at hw; exact hw.elim
    | ok fl s2=>
     rw [e2] at hw
     cases fl with
     | nx=>exact fun σ2 H2 h2=>hw _ H2 (out hN h2)
     | bk=>exact fun σ2 H2 h2=>hw _ H2 (out hN h2)
     | ct=>exact fun σ2 H2 h2=>hw _ H2 (out hN h2)
     | rt b=>exact ⟨hw.1,fun σ2 v2 H2 h2=>hw.2 (σ2.set i none) v2 H2 (out (hN.snoc hw.1) h2)⟩
theorem RE.xf {ok:Str→Bool} {f:Str} {ta:TE} {fa:SD→R Vl} (hx:XfOk G f ok) (ha:RE G W ta fa):RE G W (tXk G.K f ta) (z1 (oXf ok f) fa):=by
 refine RE.op1 (r:=fun x H Q=>∃(a C da:Addr) (fs:List (Str×V)) (v:V),x= .ref a∧H a=some (kxO (.ref C) (some da) a)∧L2.XfC G.K C∧PySem.W.findIn G.K (.ref C) f=some none∧H da=some (.xd fs)∧fs.lookup f=some v∧Q v H) ?_ ?_ ha
 ·intro E σ τ s θ p v a Q hl h hw
  obtain ⟨h0,ca,_⟩:=cT hl h
  unfold oXf at hw
  split at hw
  ·rename_i c ds e
   split at hw
   ·rename_i hok
    split at hw
    ·rename_i x e1
     obtain ⟨a',C,d,rfl,n,hC,hH,⟨rfl,_⟩ | ⟨da,fvs,rfl,e3,e4,e5⟩⟩:=(ca _ e).exc
     ·cases e1
     ·obtain ⟨T,no⟩:=hx c C hok hC
      obtain ⟨w,e6,r⟩:=(RepF.val e5).1 x e1
      exact ⟨a',C,da,fvs,w,rfl,hH,T,no,e3,e6,bf h0 hl hw r⟩
    ·exact hw.elim
   ·exact hw.elim
  ·exact hw.elim
 ·intro a s c fs s'
  unfold oXf
  split
  ·split
   ·split<;> (intro q; cases q)
   ·intro q; cases q
  ·intro q; cases q
end
structure XT (K:PySem.W.Frag) (C:Addr):Prop where
 hd:PySem.W.hasDictIn K C=true
 ty:PySem.W.typeIn K (.ref C)=some (.type "type")
 me:PySem.W.subIn K (.ref C) (.ref C)=some true
 b:PySem.W.subIn K (.ref C) (.type "BaseException")=some true
structure XCls (K:PySem.W.Frag) (C:Addr):Prop extends XT K C where
 ga:PySem.W.findIn K (.ref C) "__getattribute__" =some (some (.builtin "BaseException.__getattribute__"))
 gg:PySem.W.findIn K (.ref C) "__getattr__" =some none
 ca:PySem.W.findIn K (.ref C) "__class__" =some (some (.builtin "object.__class__"))
 sp:PySem.W.specialIn K (.builtin "object.__class__") "__get__" =some (some (.builtin "getset_descriptor.__get__"))
 tk:PySem.W.takesIn K (.builtin "object.__class__")=some true
 ob:PySem.W.mroIn K C (.type "object")=some true
structure X0Z (K:PySem.W.Frag) (C:Addr):Prop where
 q:PySem.W.excIn K C [.type "ValueError", .type "Exception", .type "BaseException", .type "object"] "ValueError.__new__" =true
 k:PySem.W.keepIn K (.ref C)=true
section
variable {K:PySem.W.Frag} {C D:Addr} {b:Bool}
theorem XCls.exc (h:XCls K C):L2.ExcC K C:=⟨h.ga,h.gg,h.b,h.hd,h.ca,h.sp,h.tk,h.ob⟩
theorem XCls.xf (h:XCls K C):L2.XfC K C:=⟨h.ga,h.gg,h.b,h.hd⟩
theorem XT.cls (h:XT K C):(PySem.W.clsIn K C).isSome=true:=by
 have q:=h.hd
 unfold PySem.W.hasDictIn at q
 cases e:PySem.W.clsIn K C with
 | none=>rw [e] at q; cases q
 | some _=>rfl
theorem XT.kit {t:Value} (h:XT K D) (e:PySem.W.subIn K t (.ref D)=some b):PySem.W.kitOne K t (.ref D)=some b:=by
 unfold PySem.W.kitOne
 by_cases c:(t == .ref D)=true
 ·rw [if_pos c]
  have c' :=beq_iff_eq.mp c
  subst c'
  exact h.me.symm.trans e
 ·rw [if_neg c]
  show (if ((PySem.W.clsIn K D).isSome&&PySem.W.typeIn K (.ref D) == some (.type "type"))=true then PySem.W.subIn K t (.ref D) else none)=some b
  rw [if_pos (by rw [h.cls,h.ty]; rfl)]
  exact e
theorem XT.kd (h:XT K D):∀k∈ ["NoneType","bool","int","str","list","tuple","dict"],PySem.W.kitOne K (.type k) (.ref D)=some false:=by
 intro k hk
 refine h.kit ?_
 simp only [List.mem_cons,List.not_mem_nil,or_false] at hk
 rcases hk with rfl | rfl | rfl | rfl | rfl | rfl | rfl<;> rfl
end
def XTab (G:Gc) (P:Addr→Bool→Prop):List (Str×Bool)→Prop
 | []=>True
 | (c,b)::r=>(∃C,G.mg c=some (.ref C)∧P C b)∧XTab G P r
def pick (l:List (Str×Bool)) (c:Str):Option Bool:=l.lookup c
def picks (l:List (Str×Bool)) (c:Str):Bool:=(l.lookup c).isSome
section
variable {G:Gc} {P:Addr→Bool→Prop} {c:Str} {C:Addr} {b:Bool}
theorem XTab.get:∀{l:List (Str×Bool)},XTab G P l→l.lookup c=some b→G.mg c=some (.ref C)→P C b
 | [],_,e,_=>by cases e
 | (c',b')::r,h,e,m=>by
  obtain ⟨⟨C',m',p⟩,t⟩:=h
  by_cases q:c=c'
  ·subst q
   rw [List.lookup_cons_self] at e
   cases e
   rw [m] at m'
   cases m'
   exact p
  ·have q' :(c == c')=false:=by simpa using q
   rw [List.lookup,q'] at e
   exact XTab.get t e m
end
structure DxZ (K:PySem.W.Frag) (mg:Str→Option Value) (x:Str) (C:Addr) (qual:Str) (st:Stmt) (p1 f1:Str):Prop where
 T:OexC K C
 no:PySem.W.findIn K (.ref C) f1=some none
 gC:mg x=some (.ref C)
 ex:∃(fI:Addr) (fd:FuncData),PySem.W.findIn K (.ref C) "__init__" =some (some (.ref fI))∧PySem.W.typeIn K (.ref fI)=some (.type "function")∧L2.Fun K "__init__" qual st fI fd∧L2.Binds K fd ["self",p1] []
def tOfZ (G:Gc) (W:WX) (fz:SD→R Fl):TS:=fun D σ H=>∃(E:En) (τ:List V) (s:SD) (θ:List Vl),Nl θ∧Rel G E σ τ H s θ∧Wp (fz s) (FP G E τ θ D) (XP G W E τ θ)
noncomputable def rF (a b:Vl) (s:SD):R Vl:=match a,b with
 | .d (.str x), .d (.str y)=>if (y.length == 0)=false∧x.length+2≤sizeLine then .ok (.own (.lst ((Txt.split x y).map .str))) s else .bad
 | _,_=> .bad
def lX (a b:Vl) (s:SD):R Vl:=match a,b with
 | .d (.str x), .d (.str y)=> .ok (.d (.bl (Txt.startswith x y))) s
 | _,_=> .bad
def zTryO (m:Str→Option Bool) (fb fs:SD→R Fl):SD→R Fl:=fun s=>match fb s with
 | .ex c vs s1=>(match m c with
  | some true=>(match fs s1 with
   | .ok fl s2=> .ok fl s2
   | _=> .bad)
  | some false=> .ex c vs s1
  | none=> .bad)
 | r=>r
section
variable {G:Gc} {W:WX} {E:En} {σ:L2.St} {τ:List V} {H:Hp} {s:SD} {θ:List Vl} {v u:V} {a b:Vl} {p:Wr} {Q:VK} {ta tb:TE} {fa fb:SD→R Vl}
theorem p_split:dq G (fun x y H Q=>∃a b,x= .str a∧ [y]= [.str b]∧(b.length == 0)=false∧a.length+2≤sizeLine∧rNewStrs (Txt.split a b) H Q) rF:=by
 intro E σ τ s θ p v u a b Q hl h hw
 unfold rF at hw
 split at hw
 ·obtain ⟨r1,r2⟩:=yT hl h
  obtain ⟨h0,_,_⟩:=eZ hl h
  split at hw
  ·rename_i hz
   obtain rfl:v= .str _:=r1
   obtain rfl:u= .str _:=r2
   exact ⟨_,_,rfl,rfl,hz.1,hz.2,fun q hq=>dj h0 hl hw hq xS⟩
  ·exact hw.elim
 ·exact hw.elim
theorem A5:dq G (fun x y H Q=>∃a b,x= .str a∧ [y]= [.str b]∧Q (.bl (Txt.startswith a b)) H) lX:=by
 intro E σ τ s θ p v u a b Q hl h hw
 unfold lX at hw
 split at hw
 ·obtain ⟨r1,r2⟩:=yT hl h
  obtain ⟨h0,_,_⟩:=eZ hl h
  obtain rfl:v= .str _:=r1
  obtain rfl:u= .str _:=r2
  exact ⟨_,_,rfl,rfl,bf h0 hl hw rfl⟩
 ·exact hw.elim
theorem RE.split (ha:RE G W ta fa) (hb:RE G W tb fb):RE G W (tM1 (fun x xs H Q=>∃a b,x= .str a∧xs= [.str b]∧(b.length == 0)=false∧a.length+2≤sizeLine∧rNewStrs (Txt.split a b) H Q) ta tb) (zM1s rF fa fb):=
 RE.m1 p_split (by intros; unfold rF; (repeat' split)<;> (intro q; cases q)) ha hb
theorem RE.starts (ha:RE G W ta fa) (hb:RE G W tb fb):RE G W (tM1 (fun x xs H Q=>∃a b,x= .str a∧xs= [.str b]∧Q (.bl (Txt.startswith a b)) H) ta tb) (zM1s lX fa fb):=
 RE.m1 A5 (by intros; unfold lX; (repeat' split)<;> (intro q; cases q)) ha hb
def rIns:V→List V→Hp→VK→Prop:=fun x vs H Q=>∃(l:Addr) (xs:List V) (i:Int) (y:V),x= .ref l∧vs= [.int i,y]∧H l=some (.lst xs)∧xs.length<sizeLine∧0≤i∧i<2 ^ 63∧Q .non (upd H l (.lst (xs.take i.toNat++ [y]++xs.drop i.toNat)))
noncomputable def fInsert (k:Int) (c z:D):Option (D×D):=match c with
 | .lst ds=>if ds.length<sizeLine∧0≤k∧k<2 ^ 63 then some (.lst (ds.take k.toNat++ [z]++ds.drop k.toNat), .non) else none
 | _=>none
noncomputable def zIns (fo fi fx:SD→R Vl):SD→R Vl:=fun s=>(fo s).bind fun a s1=>if isL s1 a=true then (fi s1).bind fun i s2=>match i with
 | .d (.int k)=>(fx s2).bind fun b s3=>oB2 (fInsert k) a b s3
 | _=> .bad
 else .bad
def fPopAt (c z:D):Option (D×D):=match c,z with
 | .lst ds, .int i=>if -(2 ^ 63)≤i∧i<2 ^ 63 then (match ixN ds.length i with
  | some k=>(match ds[k]? with
   | some t=>some (.lst (ds.eraseIdx k),t)
   | none=>none)
  | none=>none) else none
 | _,_=>none
def zUnp2 (f1 f2:Vl→SD→R Unit) (a:Vl) (s:SD):R Unit:=match s.cont a with
 | some (.tup [d1,d2])=>(f1 (.d d1) s).bind fun _ s1=>f2 (.d d2) s1
 | _=> .bad
theorem RG.two {g1 g2:TG} {f1 f2:Vl→SD→R Unit} (h1:RG G W [] g1 f1) (h2:RG G W [] g2 f2):RG G W [] (gTup G.K 2 (gCons g1 (gCons g2 gNil))) (zUnp2 f1 f2):=by
 intro E σ τ H s θ v a Q hN hR hw
 obtain ⟨p,rfl,hl,h⟩:=hR.unsnoc
 obtain ⟨h0,c,_⟩:=cT hl h
 unfold zUnp2 at hw
 split at hw
 ·rename_i d1 d2 e1
  obtain ⟨b,vs,rfl,hb,r⟩:=(c _ e1).tup
  obtain ⟨v1,r1,rfl,q1,r⟩:=r
  obtain ⟨v2,r2,rfl,q2,r⟩:=r
  obtain rfl:r2= []:=r
  refine ⟨b,[v1,v2],rfl, .of hb,rfl,v1,[v2],rfl, ?_⟩
  have R2:Rel G E σ (τ++ [v2]) p.H s (θ++ [.d d2]):= .snoc (h0.push q2) hl rfl
  have R1:Rel G E σ (τ++ [v2]++ [v1]) p.H s (θ++ [.d d2]++ [.d d1]):=by
   refine .snoc ?_ hl rfl
   rw [List.map_append,List.map_append,←List.append_assoc,←List.append_assoc]
   exact (h0.push q2).push q1
  rw [ab] at hw
  refine h1 E σ (τ++ [v2]) p.H s (θ++ [.d d2]) v1 (.d d1) _ hN.d R1 (hw.mono (fun _ s1 hw σ1 H1 h3 o1=>?_) fun _ _ _ h=>h.up)
  refine ⟨v2,[],rfl, ?_⟩
  exact h2 E σ1 τ H1 s1 θ v2 (.d d2) _ hN h3 (hw.mono (fun _ s2 hw σ2 H2 h4 o2=>⟨rfl,hw σ2 H2 h4 ⟨o2.1.trans o1.1,fun k hk=>(o2.2 k hk).trans (o1.2 k hk)⟩⟩) fun _ _ _ h=>h)
 ·exact hw.elim
end
def mnL:Int→List Int→Int
 | i,[]=>i
 | i,j::is=>mnL (if j<i then j else i) is
theorem mnL_le:∀(is:List Int) (i:Int),mnL i is≤i∧∀j∈is,mnL i is≤j
 | [],i=>⟨Int.le_refl _,fun _ h=>(by cases h)⟩
 | k::is,i=>by
  obtain ⟨h1,h2⟩:=mnL_le is (if k<i then k else i)
  have e:mnL i (k::is)=mnL (if k<i then k else i) is:=rfl
  have h3:(if k<i then k else i)≤i∧(if k<i then k else i)≤k:=by split<;> omega
  refine ⟨by rw [e]; omega,fun j hj=>?_⟩
  rw [e]
  rcases List.mem_cons.mp hj with rfl | hj
  ·omega
  ·exact h2 j hj
theorem mnL_mem:∀(is:List Int) (i:Int),mnL i is=i∨mnL i is∈is
 | [],i=> .inl rfl
 | k::is,i=>by
  have e:mnL i (k::is)=mnL (if k<i then k else i) is:=rfl
  rw [e]
  rcases mnL_mem is (if k<i then k else i) with h | h
  ·rw [h]
   split
   ·exact .inr List.mem_cons_self
   ·exact .inl rfl
  ·exact .inr (List.mem_cons_of_mem _ h)
def ng (a:Vl) (s:SD):R Vl:=match s.cont a with
 | some (.lst ds)=>match jn ds with
  | some (i::is)=> .ok (.d (.int (mnL i is))) s
  | _=> .bad
 | _=> .bad
noncomputable def kq (a b:Vl) (s:SD):R Vl:=match s.cont a,s.cont b with
 | some (.lst ds),some x=>match scs ds,x.sc with
  | some vs,some v=>match vs.findIdx? (fun z=>eqV z v) with
   | some j=> .ok (.d (.int (j:Nat))) s
   | none=> .bad
  | _,_=> .bad
 | _,_=> .bad
section
variable {G:Gc} {W:WX} {E:En} {σ:L2.St} {τ:List V} {H:Hp} {s:SD} {θ:List Vl} {v u:V} {a b:Vl} {p:Wr} {Q:VK} {ta tb:TE} {fa fb:SD→R Vl}
theorem p_minL:jy G (fun v H Q=>rMin G.K [v] H Q) ng:=by
 intro E σ τ s θ p v a Q hl h hw
 obtain ⟨h0,ca,_⟩:=cT hl h
 unfold ng at hw
 split at hw
 ·rename_i e
  split at hw
  ·rename_i i is e1
   obtain ⟨b,vs,rfl,hb,r⟩:=(ca _ e).lst
   obtain rfl:=jm r e1
   refine ⟨b,_,rfl, .of hb,by simp,fun m hm hle=>?_⟩
   have e2:m=mnL i is:=by
    have h1:=mnL_le is i
    have h2:=mnL_mem is i
    have h3:mnL i is≤m:=by
     rcases List.mem_cons.mp hm with rfl | hm
     ·exact h1.1
     ·exact h1.2 m hm
    have h4:m≤mnL i is:=hle _ (by
     rcases h2 with h2 | h2
     ·rw [h2]; exact List.mem_cons_self
     ·exact List.mem_cons_of_mem _ h2)
    omega
   subst e2
   exact bf h0 hl hw rfl
  ·exact hw.elim
 ·exact hw.elim
theorem q_minL:Op1 G (fun v H Q=>rMin G.K [v] H Q) ng:=⟨p_minL,by intros; unfold ng; (repeat' split)<;> (intro q; cases q)⟩
theorem p_index:dq G (fun x y H Q=>rIndex G.K x [y] H Q) kq:=by
 intro E σ τ s θ p v u a b Q hl h hw
 obtain ⟨h0,ca,cb⟩:=eZ hl h
 unfold kq at hw
 split at hw
 ·rename_i ds x e1 e2
  split at hw
  ·rename_i vs w e3 e4
   split at hw
   ·rename_i j e5
    obtain ⟨b,us,rfl,hb,r⟩:=(ca _ e1).lst
    obtain rfl:=lF r e3
    have hv:=eU ((cb _ e2).sc (ko e4)) e4
    subst hv
    obtain ⟨hj,h1,h2⟩:=List.findIdx?_eq_some_iff_getElem.mp e5
    exact ⟨b,us,u,j,us[j],rfl,rfl, .of hb,lG e4,iX e3,List.getElem?_eq_getElem hj,h1,fun m z' hm ez=>by
     obtain ⟨hm2,rfl⟩:=List.getElem?_eq_some_iff.mp ez
     simpa using h2 m hm,bf h0 hl hw rfl⟩
   ·exact hw.elim
  ·exact hw.elim
 ·exact hw.elim
theorem RE.index (ha:RE G W ta fa) (hb:RE G W tb fb):RE G W (tBM G.K "list" (rIndex G.K) ta (tCons tb tNil)) (zM2 isL kq fa fb):=
 RE.bm isL_ty p_index (by intros; unfold kq; (repeat' split)<;> (intro q; cases q)) ha hb
def zUnpL (is:List Nat) (a:Vl) (s:SD):R Unit:=match s.cont a with
 | some (.lst ds)=>if ds.length=is.length then .ok () {s with sl:=cM is ds s.sl} else .bad
 | _=> .bad
end
theorem m_index {X:Cx} {K:PySem.W.Frag} {o e:Expr} {apos cpos:Pos} {to te:TE} (ho:PE X o to) (he:PE X e te)
  (hbase:attributeBase o "index" X.env (eval o X.env)=eval o X.env:=by rfl)
  (hfew:((backTo cpos (starEach [e] X.env)).all (fun x=>!x.1)&&(backToKw cpos (keywordEach [] X.env)).all (fun x=>x.1.isSome)
   &&decide (([e]:List Expr).length+([]:List Keyword).length+(if ([]:List Keyword).isEmpty then 0 else 1)<30))=true:=by rfl)
  (hline:(apos.endLine == cpos.line)=true:=by rfl) (hs:starEach [e] X.env=(false,eval e X.env)::starEach [] X.env:=by rfl) (hplain:(backTo cpos (starEach [] X.env)).any (·.1)=false:=by rfl)
  (hK:X.K=K:=by rfl):PE X (.Call (.Attribute o "index" apos) [e] [] cpos) (tBM K "list" (rIndex K) to (tCons te tNil)):=by
 subst hK
 exact pe_bm PySem.F.plainAttrs_list PySem.F.slot_list_index PySem.F.type_list_index mt_index ho (pa_cons he pa_nil hs) hbase hfew hline hs hplain
def spXL (K:PySem.W.Frag) (f:Str):Sp:=fun vs H Q _=>∃(a C:Addr) (v:V),vs= [.ref a,v]∧OexC K C∧PySem.W.findIn K (.ref C) f=some none∧
 vD K [v] H fun u H1=>H1 a=some (exo a C none)∧∀dx,H1 dx=none→dx≠a→Q .non (upd (upd H1 dx (exd dx [(f,u)])) a (exo a C (some dx)))
section
variable {P:Program} {w:World} {K:PySem.W.Frag} {mg:Str→Option Value} {base:Heap}
structure XiL (P:Program) (w:World) (K:PySem.W.Frag) (mg:Str→Option Value) (base:Heap) (k:Nat) (x:Str) (C:Addr) (f:Str):Prop where
 T:OexC K C
 no:PySem.W.findIn K (.ref C) f=some none
 gC:mg x=some (.ref C)
 ex:∃(fI:Addr) (fd:FuncData) (ps:List Str),PySem.W.findIn K (.ref C) "__init__" =some (some (.ref fI))∧PySem.W.typeIn K (.ref fI)=some (.type "function")∧FnOk P w K mg base (L2.CX P w) k fI fd ps (spXL K f)∧Binds K fd ps []
end
def tRaiseL (K:PySem.W.Frag) (C:Addr) (f:Str) (W:WX) (te:TE):TS:=fun _ σ H=>tMkO C (spXL K f) [] (tCons te tNil) σ H fun cls d H' =>W cls d σ H'
def zRaiseL (c f:Str) (fa:SD→R Vl):SD→R Fl:=fun s=>(fa s).bind fun a s1=>(s1.fix a).bind fun x s2=>match x with
 | .lst ds=> .ex c [(f, .lst ds)] s2
 | _=> .bad
section
variable {W:WX} {H:Hp} {s:SD} {v:V} {a b:Vl} {x y:D} {Q:VK}
def rCountV (K:PySem.W.Frag):V→List V→Hp→VK→Prop:=fun x xs H Q=>∃(a:Addr) (ys:List V) (y:V),x=V.ref a∧xs= [y]∧SqL K H a ys∧flatV y=true∧ys.all flatV=true∧Q (.int ((ys.countP fun z=>eqV z y:Nat):Int)) H
noncomputable def yD (a b:Vl) (s:SD):R Vl:=match s.cont a,s.cont b with
 | some (.lst ds),some x=>match scs ds,x.sc with
  | some vs,some v=> .ok (.d (.int ((vs.countP fun z=>eqV z v:Nat):Int))) s
  | _,_=> .bad
 | _,_=> .bad
def zPV (k:Nat) (fv:SD→R Vl) (fp:SD→R (List (Key×D))):SD→R (List (Key×D)):=fun s=>match s.sl[k]? with
 | some (some (.d x))=>match x.key with
  | some kk=>zP kk fv fp s
  | none=> .bad
 | _=> .bad
end
def zRaiseC (c f:Str) (fa:SD→R Vl):SD→R Fl:=fun s=>(fa s).bind fun a s1=>(s1.fix a).bind fun x s2=>match x with
 | .lst ds=> .ex c [(f, .cell s2.st.nx)] {s2 with st:=s2.st.new (.lst ds)}
 | _=> .bad
section

end
end Z

namespace M
open PySem PySem.Spec PyProof.Rows L2
section

end
end M
namespace Z
open PySem PySem.Spec PyProof.Rows L2 M
open Classical
def tHeldL (C:Addr) (sp:Sp) (ta:TA):TE:=fun σ H Q=>tMkO C sp [] ta σ H fun cls d H' =>∀a,H' a=none→Q (.ref a) (upd H' a (M.kxO cls d a))
def zHeldL (c f:Str) (fa:SD→R Vl):SD→R Vl:=fun s=>(fa s).bind fun a s1=>(s1.fix a).bind fun x s2=>match s2.cont (.d x) with
 | some (.lst ds)=> .ok (.d (.exc c [(f, .lst ds)])) s2
 | _=> .bad
section

end
structure YT (K:PySem.W.Frag) (C:Addr):Prop where
 hd:PySem.W.hasDictIn K C=true
 ty:PySem.W.typeIn K (.ref C)=some (.type "type")
 me:PySem.W.subIn K (.ref C) (.ref C)=some true
section
variable {K:PySem.W.Frag} {D:Addr} {b:Bool}
theorem YT.kit {t:Value} (h:YT K D) (e:PySem.W.subIn K t (.ref D)=some b):PySem.W.kitOne K t (.ref D)=some b:=by
 have hc:(PySem.W.clsIn K D).isSome=true:=by
  have q:=h.hd
  unfold PySem.W.hasDictIn at q
  cases e:PySem.W.clsIn K D with
  | none=>rw [e] at q; cases q
  | some _=>rfl
 unfold PySem.W.kitOne
 by_cases c:(t == .ref D)=true
 ·rw [if_pos c]
  have c' :=beq_iff_eq.mp c
  subst c'
  exact h.me.symm.trans e
 ·rw [if_neg c]
  show (if ((PySem.W.clsIn K D).isSome&&PySem.W.typeIn K (.ref D) == some (.type "type"))=true then PySem.W.subIn K t (.ref D) else none)=some b
  rw [if_pos (by rw [hc,h.ty]; rfl)]
  exact e
theorem YT.kd (h:YT K D):∀k∈ ["NoneType","bool","int","str","list","tuple","dict"],PySem.W.kitOne K (.type k) (.ref D)=some false:=by
 intro k hk
 refine h.kit ?_
 simp only [List.mem_cons,List.not_mem_nil,or_false] at hk
 rcases hk with rfl | rfl | rfl | rfl | rfl | rfl | rfl<;> rfl
end
noncomputable def oIsU (mX mC:Str→Option Bool) (a:Vl) (s:SD):R Vl:=match s.cont a with
 | some (.exc c _)=>(match mX c with
  | some b=> .ok (.d (.bl b)) s
  | none=> .bad)
 | some (.obj c _)=>(match mC c with
  | some b=> .ok (.d (.bl b)) s
  | none=> .bad)
 | some x=>(match x.knd with
  | some _=> .ok (.d (.bl false)) s
  | none=> .bad)
 | none=> .bad
section

end
end Z

namespace M
open PySem PySem.Spec PyProof.Rows L2
open Classical
noncomputable def nM (ks:List Key):Nat→Nat
 | 0=>0
 | i+1=>nM ks i+(if ks.getD i (.inl 0)∈ks.take i then 0 else 1)
theorem uV (ks:List Key):∀i,nM ks i≤i
 | 0=>Nat.le_refl _
 | i+1=>by
  have:=uV ks i
  unfold nM
  split<;> omega
theorem uU {ks:List Key} (nd:ks.Nodup):∀i,i≤ks.length→nM ks i=i
 | 0,_=>rfl
 | i+1,h=>by
  have ih:=uU nd i (by omega)
  have e:ks[i]? =some ks[i]:=List.getElem?_eq_getElem h
  have no:ks.getD i (.inl 0)∉ks.take i:=fun hm=>by
   have nd2:=nd
   rw [←List.take_append_drop i ks,List.nodup_append] at nd2
   refine nd2.2.2 _ hm _ (List.mem_of_getElem? (i:=0) ?_) rfl
   rw [List.getElem?_drop,List.getD_eq_getElem?_getD]
   rw [Nat.add_zero,e]
   rfl
  unfold nM
  rw [if_neg no,ih]
section
variable {prog:Program} {w:World} {A:Around} {R:Result→Shared→Prop} {I:Addr} {fp wr:List Addr} {G:Array GenState→Array GenState→Prop} {n:Nat} {P:Nat→Value→Prop} {St:Nat→Shared→Prop}
theorem AI {k:Key} {u:Value} (r:RelV (kV k) u):u.scannable=true:=by
 rcases k with i | z<;> (obtain ⟨t,rfl⟩:=r; rfl)
theorem wu {h:Heap} {a:Addr} {T T' :Key→Bool} {c c' :Nat} (g:h.SetOf (mixKind prog w) a T c) (e:∀k,T k=T' k) (ec:c=c'):h.SetOf (mixKind prog w) a T' c' :=by
 obtain rfl:T=T' :=funext e
 exact ec ▸ g
abbrev SetK (prog:Program) (w:World) (h:Heap) (S:Addr) (ks:List Key) (i:Nat):Prop:=h.SetOf (mixKind prog w) S (fun k=>decide (k∈ks.take i)) (nM ks i)
theorem SetK.on {h h' :Heap} {S:Addr} {ks:List Key} {i:Nat} (g:SetK prog w h S ks i) (k:∀o,h.get? S=some o→h'.get? S=some o):SetK prog w h' S ks i:=by
 obtain ⟨o,es,ep,t,ho,r⟩:=g
 exact ⟨o,es,ep,t,k o ho,r⟩
theorem loopK (W:WalksS prog w A.in1 I fp wr G n P St) (S:Addr) (out:S∉fp) (ks:List Key) (len:ks.length=n) (few:n+1<scanBound) (val:∀j x,P j x→RelV (kV (ks.getD j (.inl 0))) x):
  ∀m j s,n - j=m→j≤n→St j s→SetK prog w s.heap S ks j→(∀s',Moved (S::wr) G s s'→SetK prog w s'.heap S ks n→R (.ok (.ret .none)) s')→codeAny (model prog w) A (.builtin "set.update.loop" ⟨[.ref S, .ref I],[]⟩) R s:=by
 have outw:S∉wr:=fun q=>out (W.sub _ q)
 intro m
 induction m with
 | zero=>
  intro j s e hj st g done
  obtain rfl:j=n:=by omega
  refine codeAny_builtin F.entry_set_update_loop (by
   rw [Around.under_plainId F.plain_set_update_loop _]
   show wpAny _ A.in1 (pyNext (.ref I) >>= _) _ _ s
   refine wpAny_bind (W.done s _ _ st fun s' mv=>?_)
   show wpAny _ A.in1 (ret Value.none) _ _ s'
   exact wpAny_pure (done s' (mv.mono fun b=>List.mem_cons_of_mem _) (g.on (mv.heap S · outw))))
 | succ m ih=>
  intro j s e hj st g done
  have lt:j<n:=by omega
  refine codeAny_builtin F.entry_set_update_loop ?_
  rw [Around.under_plainId F.plain_set_update_loop _]
  show wpAny _ A.in1 (pyNext (.ref I) >>= _) _ _ s
  refine wpAny_bind (W.item j s _ _ lt st fun v s' hP st' mv=>?_)
  have rv:=val j v hP
  have g' :=g.on (mv.heap S · outw)
  show wpAny _ A.in1 (holding [v] (setAdd S v) >>= _) _ _ s'
  refine wpAny_bind (wpAny_holding ?_)
  unfold setAdd
  refine wpAny_holding (wpAny_bind ((mixKind prog w).pyHash (k:=ks.getD j (.inl 0)) (kV_is rv) ?_))
  have cb:=uV ks j
  refine wpAny_setAddHashed_of (knd:=mixKind prog w) (s:= {s' with toks:=s'.toks+1}) (kV_is rv) (AI rv) g' (Nat.lt_of_le_of_lt (Nat.succ_le_succ (Nat.le_trans cb hj)) few) fun h' but g2=>?_
  have g3:SetK prog w h' S ks (j+1):=by
   have ej:ks[j]? =some (ks.getD j (.inl 0)):=by
    rw [List.getD_eq_getElem?_getD,List.getElem?_eq_getElem (by omega)]
    rfl
   refine wu g2 (fun k=>?_) ?_
   ·rw [List.take_add_one,ej]
    show (decide (k∈ks.take j) || decide (k=ks.getD j (.inl 0)))=decide (k∈ks.take j++ [ks.getD j (.inl 0)])
    rw [←Bool.decide_or]
    exact decide_eq_decide.mpr (by rw [List.mem_append,List.mem_singleton])
   ·show (if decide (ks.getD j (.inl 0)∈ks.take j)=true then nM ks j else nM ks j+1)=nM ks j+(if ks.getD j (.inl 0)∈ks.take j then 0 else 1)
    by_cases q:ks.getD j (.inl 0)∈ks.take j
    ·rw [if_pos q,if_pos (decide_eq_true q),Nat.add_zero]
    ·rw [if_neg q,if_neg (by rw [decide_eq_false q]; exact Bool.false_ne_true)]
  refine wpAny_pure ⟨plainId_quiet F.plain_set_update_loop _,ih (j+1) _ (by omega) lt (W.frame _ s' _ _ st' (Nat.le_succ _) fun b hb o q=>?_) g3 fun s2 mv2 gn=>?_⟩
  ·exact (but.2 b fun z=>out (z ▸ hb)).trans q
  ·exact done s2 (Moved.trans W.gtrans ((mv.mono fun b=>List.mem_cons_of_mem _).then_heap (Nat.le_succ _) fun b o hb q=>(but.2 b fun z=>hb (z ▸ List.mem_cons_self)).trans q) mv2) gn
end
section
variable {prog:Program} {w:World} {A:Around} {E:Value→Shared→Prop} {s:Shared}
theorem yU:∀{us:List Value} {ks:List Key},Vals (ks.map kV) us→∀(j:Nat) (x:Value),us[j]? =some x→RelV (kV (ks.getD j (.inl 0))) x
 | _,[], .nil,j,x,e=>by simp at e
 | _,k::ks, .cons r t,0,x,e=>by
  simp only [List.getElem?_cons_zero,Option.some.injEq] at e
  exact e ▸ r
 | _,k::ks, .cons r t,j+1,x,e=>by
  simp only [List.getElem?_cons_succ] at e
  exact yU t j x e
set_option maxHeartbeats 3200000 in
theorem qn {l:Addr} {its:Array Value} {ks:List Key} {Q:Value→Shared→Prop} (calm:A.handled=none) (there:s.heap.IsList l its) (rel:Vals (ks.map kV) its.toList) (few:its.size+1<scanBound)
  (h:∀(h' :Heap) (tk:Nat),SetK prog w h' s.heap.objs.size ks its.size→(∀b o,b<s.heap.objs.size→s.heap.get? b=some o→h'.get? b=some o)→Q (.ref s.heap.objs.size) {s with heap:=h',toks:=tk}):
  wpAny (model prog w) A (call (.type "set") [.ref l]) Q E s:=by
 obtain ⟨c,tl,mro⟩:=PySem.F.called_set.mro
 have made:=PySem.F.called_set.made
 have sub:=PySem.F.called_set.sub
 refine wpAny_call (codeAny_of_tree ?_)
 show wpAny _ _ (callAny (.type "set") _) _ _ _
 refine wpAny_pure ⟨Code.quiet_builtin _ (by decide+kernel),codeAny_builtin PySem.F.entry_type_call (by
  rw [Around.under_plain (weight_type_call_type "set" [.ref l] []) rfl]
  have t1:=PySem.F.called_set.notType
  have t2:=PySem.F.called_set.canCreate
  have t3:=PySem.F.typeCall_set_1 (.ref l)
  repeat (any_goals (first | assumption | wp_step))
  refine codeAny_mono (code_set_new_1 (.ref l) (E:=E) (Q₁:=fun obj s1=>∃led:Bool,obj= .ref s.heap.objs.size∧s1= {s with heap:=s.heap.push {cls:= .type "set",dict:=none,data:= .set #[] 0 (.fresh 0 0 led)}}) fun led=>⟨led,rfl,rfl⟩) fun r s1 made1=>?_
  cases r with
  | error e=>exact made1
  | ok fl=>
   cases fl with
   | ret obj=>
    obtain ⟨led,rfl,rfl⟩:=made1
    have new:=Heap.get?_push_size s.heap (o:= {cls:= .type "set",dict:=none,data:= .set #[] 0 (.fresh 0 0 led)}) rfl
    have isT:Shared.TypeIs {s with heap:=s.heap.push {cls:= .type "set",dict:=none,data:= .set #[] 0 (.fresh 0 0 led)}} (.ref s.heap.objs.size) "set" :=⟨_,new,rfl⟩
    have look:=PySem.F.called_set.init.lookup
    have bind:=PySem.F.called_set.init.bind (.ref s.heap.objs.size)
    repeat (any_goals (first | assumption | wp_step))
    refine codeAny_mono (codeAny_call_builtin (R:=wants (fun r s2=>r= .none∧∃h' tk,s2= {s with heap:=h',toks:=tk}∧SetK prog w h' s.heap.objs.size ks its.size∧(∀b o,b<s.heap.objs.size→s.heap.get? b=some o→h'.get? b=some o)) E) PySem.F.called_set.init.plain PySem.F.entry_set_init (check_set_init_1 isT ?_)) fun r2 s2 got=>?_
    ·obtain ⟨ol,hol,hc,nl,hd⟩:=there
     obtain ⟨ocls,odict,odata,oslots⟩:=ol
     simp only at hc hd
     subst hc
     subst hd
     have hol' :(s.heap.push {cls:= .type "set",dict:=none,data:= .set #[] 0 (.fresh 0 0 led)}).get? l=some {cls:= .type "list",dict:=odict,data:= .seq its nl,slots:=oslots}:=Heap.get?_push_of_some _ hol
     have sub1:=PySem.F.sub_list_set
     have sub2:=PySem.F.sub_list_frozenset
     have nod:(Value.type "list" == Value.type "dict")=false:=by decide
     have isl:(s.heap.push {cls:= .type "set",dict:=none,data:= .set #[] 0 (.fresh 0 0 led)}).IsList l its:=⟨_,hol',rfl,nl,rfl⟩
     unfold Builtin.«set.__init__» noKeywords Builtin.Frozenset.updateFrom
     generalize hPI:pyIter=PI
     wp_walk
     subst hPI
     refine wpAny_pyIter_list isl ?_
     refine wpAny_bind (wpAny_runValue ?_)
     have lS:l<s.heap.objs.size:=Heap.lt_size hol
     have calm3:A.in1.in1.in1.handled=none:=by simp [calm]
     have ne1:l≠(s.heap.push {cls:= .type "set",dict:=none,data:= .set #[] 0 (.fresh 0 0 led)}).objs.size:=by
      rw [Heap.size_push]
      exact Nat.ne_of_lt (Nat.lt_succ_of_lt lS)
     have out:s.heap.objs.size∉ [(s.heap.push {cls:= .type "set",dict:=none,data:= .set #[] 0 (.fresh 0 0 led)}).objs.size,l]:=by
      rw [Heap.size_push]
      intro q
      rcases List.mem_cons.mp q with q | q
      ·exact Nat.ne_of_lt (Nat.lt_succ_self _) q
      ·exact Nat.ne_of_gt lS (List.mem_singleton.mp q)
     have sz:ks.length=its.size:=by
      have:=rel.length
      rw [List.length_map,Array.length_toList] at this
      exact this
     refine loopK ((Walks.list calm3 _ l ne1 its).toS) s.heap.objs.size out ks sz few (fun j x e=>yU rel j x (by rw [Array.getElem?_toList]; exact e)) (its.size - 0) 0 _ (by omega) (Nat.zero_le _) ⟨⟨_,Heap.get?_push_size _ rfl,rfl,rfl⟩,isl.push _⟩ ?start ?done
     case start=>
      have g0:((s.heap.push {cls:= .type "set",dict:=none,data:= .set #[] 0 (.fresh 0 0 led)}).push {cls:= .type "list_iterator",data:= .fields #[.ref l, .int 0 0]}).get? s.heap.objs.size=some {cls:= .type "set",dict:=none,data:= .set #[] 0 (.fresh 0 0 led)}:=Heap.get?_push_of_some _ new
      exact ⟨_, #[],0,_,g0,⟨rfl,rfl,rfl⟩,rfl,fun e he=>by simp at he,fun k=>by simp,by decide,by rfl,rfl⟩
     case done=>
      intro s' mv got
      obtain ⟨h',g',d',tk',os'⟩:=s'
      obtain rfl:g' =s.gens:=mv.gens
      obtain rfl:d' =s.drawn:=mv.drawn
      obtain rfl:os' =s.os:=mv.os
      show wpAny _ _ _ _ _ _
      refine wpAny_pure ?_
      show wpAny _ _ (ret Value.none) _ _ _
      refine wpAny_pure ⟨rfl,h',tk',rfl,got,fun b o hb e=>?_⟩
      refine mv.heap b o ?_ (Heap.get?_push_of_some _ (Heap.get?_push_of_some _ e))
      rw [Heap.size_push]
      intro q
      rcases List.mem_cons.mp q with q | q
      ·exact Nat.ne_of_lt hb q
      ·exact Nat.ne_of_lt (Nat.lt_succ_of_lt hb) (List.mem_singleton.mp q)
    ·cases r2 with
     | error e=>exact got
     | ok fl2=>
      cases fl2 with
      | ret r=>
       obtain ⟨rfl,h',tk,rfl,g1,g2⟩:=got
       repeat (any_goals (first | assumption | wp_step))
       exact h _ _ g1 g2
      | _=>exact got.elim
   | _=>exact made1.elim)⟩
end
def vp (K:PySem.W.Frag) (ta:TE):TE:=fun σ H Q=>ta σ H fun x H1=>∃(l:Addr) (ks:List Key),x= .ref l∧SqL K H1 l (ks.map kV)∧ks.length≤4000∧Q (.int (nM ks ks.length:Nat)) H1
theorem ny {X:Cx} {K:PySem.W.Frag} {a:Expr} {ta:TE} {p p2 q pos:Pos} (g1:Gl X "len") (m1:X.mg "len" =none) (g2:Gl X "set") (m2:X.mg "set" =none) (ha:PE X a ta) (calm:X.calm=true:=by rfl) (hK:X.K=K:=by rfl)
  (na:starEach [a] X.env=(false,eval a X.env)::starEach [] X.env:=by rfl):PE X (.Call (.Name "len" p) [.Call (.Name "set" p2) [a] [] q] [] pos) (vp K ta):=by
 subst hK
 refine ⟨fun pins s σ H Q I h=>Call_ (ld_blt I g1 m1 boot_len (callWith_builtin1 (args_cons (Call_ (ld_blt I g2 m2 boot_set (callWith_type1 (args_cons (thn (ha.run pins s σ H _ I h) fun v s1 hv=>args_nil ?_) na) na rfl))) rfl) rfl rfl))⟩
 obtain ⟨x,H1,I1,r1,l,ks,rfl,hq,few,q1⟩:=hv
 cases r1
 obtain ⟨its,r,there,_⟩:=I1.list hq
 have sz:its.toArray.size=ks.length:=by rw [List.size_toArray,←r.length,List.length_map]
 refine qn (I1.ok.hd calm) there.isList (by simpa using r) (by rw [sz]; unfold scanBound; omega) fun h' tk got keep=>args_nil ?_
 rw [sz] at got
 obtain ⟨o,es,ep,t,ho,hex,hd,_,_,_,hf,hn⟩:=got
 have le:=uV ks ks.length
 have I2:Inv X pins σ H1 {s1 with heap:=h',toks:=tk}:=I1.kept fun b o e=>keep b o (Heap.lt_size e) e
 exact call_len_set ho hex hd hf (by rw [hn]; omega) ⟨.int (nM ks ks.length:Nat),H1,I2.tok _,⟨_,by rw [hn]⟩,q1⟩
end M
namespace Z
open PySem PySem.Spec PyProof.Rows L2 M
open Classical
def nh:List D→Option (List Key)
 | []=>some []
 | x::r=>match x.key,nh r with
  | some k,some ks=>some (k::ks)
  | _,_=>none
noncomputable def iE (a:Vl) (s:SD):R Vl:=match s.cont a with
 | some (.lst ds)=>match nh ds with
  | some ks=>if ks.length≤4000 then .ok (.d (.int (nM ks ks.length:Nat))) s else .bad
  | none=> .bad
 | _=> .bad
section
variable {G:Gc} {W:WX} {E:En} {s s' :SD} {p:Wr} {ta:TE} {fa:SD→R Vl}
theorem rR:∀{ds:List D} {us:List V} {ks:List Key},Reps G p ds us→nh ds=some ks→us=ks.map kV
 | [],us,ks,h,e=>by
  cases e
  exact h
 | x::r,us,ks,h,e=>by
  obtain ⟨v,vs,rfl,h1,h2⟩:=h
  unfold nh at e
  split at e
  ·rename_i k ks' e1 e2
   cases e
   rw [gx h1 e1,rR h2 e2]
   rfl
  ·cases e
theorem RE.lenSet (ha:RE G W ta fa):RE G W (vp G.K ta) (z1 iE fa):=by
 refine RE.op1 (r:=fun x H1 Q=>∃(l:Addr) (ks:List Key),x= .ref l∧SqL G.K H1 l (ks.map kV)∧ks.length≤4000∧Q (.int (nM ks ks.length:Nat)) H1) ?_ ?_ ha
 ·intro E σ τ s θ p v a Q hl h hw
  obtain ⟨h0,ca,_⟩:=cT hl h
  unfold iE at hw
  split at hw
  ·rename_i ds e
   split at hw
   ·rename_i ks e1
    split at hw
    ·rename_i few
     obtain ⟨b,us,rfl,hb,r⟩:=(ca _ e).lst
     obtain rfl:=rR r e1
     exact ⟨b,ks,rfl, .of hb,few,bf h0 hl hw rfl⟩
    ·exact hw.elim
   ·exact hw.elim
  ·exact hw.elim
 ·intro a s c fs s'
  unfold iE
  (repeat' split)<;> (intro q; cases q)
theorem mh:∀zs:List Str,nh (zs.map .str)=some (zs.map .inr)
 | []=>rfl
 | z::zs=>by
  rw [List.map_cons,nh,mh zs]
  rfl
end
def rInD (K:PySem.W.Frag) (neg:Bool):R2:=fun x y H Q=>∃(d:PyData) (xs:List PyData),Dp K H x d∧SeqAt.shaped d=true∧((Dp K H y (.list xs)∧SeqAt.shaped (.list xs)=true)∨(Dp K H y (.tuple xs)∧SeqAt.shaped (.tuple xs)=true))∧Q (.bl (if neg then !(xs.any fun y=>PyData.eqv y d) else xs.any fun y=>PyData.eqv y d)) H
section
variable {X:Cx} {j:Nat}
theorem op_inDa (K:PySem.W.Frag) (hr:Room j X.A) (hK:X.K=K:=by rfl):OpR X (compareOp .In) (rInD K false):=by
 subst hK
 intro pins s σ H x y v u Q I rx ry h
 obtain ⟨d,xs,hd,sd,hy,q⟩:=h
 have hu:X.A.units+65<cLine:=by have:=hr.un; omega
 obtain ⟨as,r1⟩:=Dp.reads I d x v hd rx
 rcases hy with ⟨hy,sy⟩ | ⟨hy,sy⟩
 ·obtain ⟨bs,r2⟩:=Dp.reads I _ y u hy ry
  exact PySem.SeqAt.in_list_reads r2 r1 (SeqAt.canLay_of_shaped sy) (SeqAt.canLay_of_shaped sd) (PyProof.Rows.room_in_shaped sd hu) ⟨.bl _,H,I,rfl,q⟩
 ·obtain ⟨bs,r2⟩:=Dp.reads I _ y u hy ry
  exact PySem.SeqAt.in_tuple_reads r2 r1 (SeqAt.canLay_of_shaped sy) (SeqAt.canLay_of_shaped sd) (PyProof.Rows.room_in_shaped sd hu) ⟨.bl _,H,I,rfl,q⟩
end
noncomputable def inDK (neg:Bool) (s:SD):Option D→Option D→R Vl
 | some x,some y=>(match x.py,y.py with
  | some d,some (.list xs)=>if SeqAt.shaped d=true∧SeqAt.shaped (.list xs)=true then .ok (.d (.bl (if neg then !(xs.any fun y=>PyData.eqv y d) else xs.any fun y=>PyData.eqv y d))) s else .bad
  | some d,some (.tuple xs)=>if SeqAt.shaped d=true∧SeqAt.shaped (.tuple xs)=true then .ok (.d (.bl (if neg then !(xs.any fun y=>PyData.eqv y d) else xs.any fun y=>PyData.eqv y d))) s else .bad
  | _,_=> .bad)
 | _,_=> .bad
noncomputable def oInD (neg:Bool) (a b:Vl) (s:SD):R Vl:=inDK neg s (s.cont a) (s.cont b)
section
variable {G:Gc} {E:En} {s:SD} {p:Wr} {a b:Vl} {neg:Bool}
theorem w_inD:oInD neg a b s=inDK neg s (s.cont a) (s.cont b):=Eq.trans rfl rfl
theorem inDK_ok {x y:D} {d:PyData} {xs:List PyData} {r:Bool} (h1:x.py=some d) (h2:y.py=some (.list xs)) (s1:SeqAt.shaped d=true) (s2:SeqAt.shaped (.list xs)=true) (h:(xs.any fun y=>PyData.eqv y d)=r):inDK neg s (some x) (some y)= .ok (.d (.bl (if neg then !r else r))) s:=by
 unfold inDK
 simp only [h1,h2,s1,s2,h,and_self,if_true]
theorem p_inDa:dq G (rInD G.K neg) (oInD neg):=by
 intro E σ τ s θ p v u a b Q hl h hw
 obtain ⟨h0,ca,cb⟩:=eZ hl h
 unfold oInD inDK at hw
 split at hw
 ·rename_i e1 e2
  split at hw
  ·rename_i f1 f2
   split at hw
   ·rename_i hs
    exact ⟨_,_,gA (ca _ e1) f1,hs.1, .inl ⟨gA (cb _ e2) f2,hs.2⟩,bf h0 hl hw rfl⟩
   ·exact hw.elim
  ·rename_i f1 f2
   split at hw
   ·rename_i hs
    exact ⟨_,_,gA (ca _ e1) f1,hs.1, .inr ⟨gA (cb _ e2) f2,hs.2⟩,bf h0 hl hw rfl⟩
   ·exact hw.elim
  ·exact hw.elim
 ·exact hw.elim
theorem q_inDa:Op2 G (rInD G.K neg) (oInD neg):=⟨p_inDa,by intros; unfold oInD inDK; (repeat' split)<;> (intro q; cases q)⟩
end
section
variable {G:Gc} {W:WX} {E:En} {σ σ' :L2.St} {τ τ' τ2:List V} {H:Hp} {s s' :SD} {θ θ' θ2:List Vl} {v u:V} {a b:Vl} {x y:D} {p:Wr} {Q:VK} {m:Nat} {w:List (Option V)} {i k:Nat} {is:List Nat} {od:Obj} {ks:List (Key×D)} {vs:List (Key×V)}
noncomputable def xk (k:Nat) (fz:Vl→SD→R Unit) (ft:List (Key×D)→SD→R Bool) (f0:SD→R Bool) (fe:SD→R Vl) (is:List Nat):SD→R Vl:=fun s=>match s.sl[k]? with
 | some (some (.d (.cell i)))=>match s.st.get i with
  | some (.dct ks)=>(kM (fun _=>True) fz (ft ks) fe is (Wk.keys.ds ks) [] ((⟨s.sl,s.st.del i⟩:SD).wipe is)).nx.bind fun acc s2=> .ok (.own (.lst acc)) ⟨s2.sl,s2.st.put i (.dct ks)⟩
  | _=> .bad
 | _=>zLc (ic .keys (aa k)) fz f0 fe is s
def Lkd (k:Nat) (vs:List (Key×V)) (a0:Addr) (σ:L2.St) (H:Hp) (P:Prop):Prop:=σ[k]? =some (some (.ref a0))→Rd H a0 (.dK vs)→P
def RTl (G:Gc) (k:Nat) (tt:TT) (ft:List (Key×D)→SD→R Bool):Prop:=∀(ks:List (Key×D)) (vs:List (Key×V)),(∀n v,eN ks n=some (.int v)→valV vs n=some (.int v))→∀(a0:Addr) (E:En) (σ:L2.St) (τ:List V) (H:Hp) (s:SD) (θ:List Vl) (Q:Bool→Hp→Prop),Nl θ→Rel G E σ τ H s θ→
 Wp (ft ks s) (fun b s' =>∀H',Rel G E σ τ H' s' θ→Q b H') (XP G WF E τ θ)→Lkd k vs a0 σ H (tt σ H Q)
theorem RE.lcR {g:TG} {tt:TT} {te:TE} {fz:Vl→SD→R Unit} {ft:List (Key×D)→SD→R Bool} {f0:SD→R Bool} {fe:SD→R Vl} (hk:k∉is) (hg:RG G WF is g fz) (hT:RTl G k tt ft) (h0:RT G WF tt f0) (he:RE G WF te fe):
  RE G W (fun σ H Q=>tLockE (tLc (iKeys (tVar k)) g tt te is) σ H Q∨tLc (iKeys (tLk (tVar k))) g tt te is σ H Q) (xk k fz ft f0 fe is):=by
 intro E σ τ H s θ Q hN hR hw
 unfold xk at hw
 split at hw
 ·rename_i i e
  split at hw
  ·rename_i ks e2
   left
   have ht:=hR.tlen
   obtain ⟨p,rfl,hl,h⟩:=hR
   obtain ⟨o1,vs,hd,r⟩:=h.cel i _ e2
   refine ⟨p.γ i, .dK vs,hd,True.intro,fun od=>?_⟩
   have l:=cG (p:=p) (o:= .frz od (.dK vs)) o1
   have h1:=h.toCl (od:=od) e2 hd
   have h2:=h1.pushs (r.vals.mono l)
   have hR2:Rel G (E.cl p s.st.nx (p.γ i) (.frz od (.dK vs))) σ (τ++vs.map (·.2)) (upd p.H (p.γ i) (.frz od (.dK vs))) ⟨s.sl,s.st.del i⟩ (θ++(ks.map (·.2)).map .d):=by
    refine ⟨{p with H:=upd p.H (p.γ i) (.frz od (.dK vs))},rfl,hl, ?_⟩
    rw [List.map_append,List.map_append,←List.append_assoc,←List.append_assoc]
    exact h2
   have hN2:Nl (θ++(ks.map (·.2)).map Vl.d):=fun e he j=>by
    rcases List.mem_append.mp he with he | he
    ·exact hN e he j
    ·obtain ⟨x,_,rfl⟩:=List.mem_map.mp he
     exact fun z=>nomatch z
   have hi:RIat G W (E.cl p s.st.nx (p.γ i) (.frz od (.dK vs))) (iKeys (tVar k)) (fun s=>if s.sl[k]? =some (some (.d (.cell i))) then .ok ⟨[],fun _=>True,Wk.keys.ds ks⟩ s else .bad):=by
    intro σ τ H s1 θ Q hN hR hw
    have hw:Wp (if s1.sl[k]? =some (some (.d (.cell i))) then R.ok _ s1 else .bad) _ _:=hw
    split at hw
    ·rename_i e3
     have hR0:=hR
     obtain ⟨p1,rfl,hl1,h3⟩:=hR
     have f0:∀{H'} {σ' τ' s' θ'},Rel G (E.cl p s.st.nx (p.γ i) (.frz od (.dK vs))) σ' τ' H' s' θ'→H' (p.γ i)=some (.frz od (.dK vs)):=fun {H' σ' τ' s' θ'} hR=>by
      obtain ⟨p2,rfl,_,h4⟩:=hR
      exact (h4.kp (p.γ i) _ upd_same fun j d0 e z=>(kB e).1 z.symm).1 (.inr rfl)
     obtain ⟨v,e4,r4⟩:=h3.ent k (.d (.cell i)) (by rw [List.getElem?_append_left (ae e3)]; exact e3)
     rw [List.getElem?_append_left (by rw [hl1]; exact ae e3)] at e4
     have r4:i<p1.n∧v= .ref (p1.γ i):=r4
     have gI:p1.γ i=p.γ i:=h3.old i (h.bd i _ e2)
     obtain ⟨_,rfl⟩:=r4
     rw [gI] at e4
     refine ⟨_,e4,p.γ i,od,rfl, .inl ⟨vs,f0 hR0, ?_⟩⟩
     refine hw [] _ _ _ (fun _ _ _ _ _ h=>h) rfl (by simpa using hR0) fun j σ τ τ2 θ θ2 H s ht ht2 h5 _=>?_
     have hf:=f0 h5
     have kl:=r.len
     have dl:(Wk.keys.ds ks).length=ks.length:=by simp [Wk.ds]
     refine ⟨fun d e=>⟨⟨hf,by rw [kl,←dl]; exact ae e⟩,fun x H' y=>?_⟩,fun e=>⟨hf,by rw [kl,←dl]; exact List.getElem?_eq_none_iff.mp e⟩⟩
     obtain ⟨rfl,kk,z,e1,rfl⟩:=y
     have ek:(vs.map (·.1))[j]? =some kk:=by rw [List.getElem?_map,e1]; rfl
     rw [r.keys,List.getElem?_map] at ek
     obtain ⟨kd,e5,e6⟩:=Option.map_eq_some_iff.mp ek
     have e:(ks.map fun kv=>jl kv.1)[j]? =some d:=e
     rw [List.getElem?_map,e5] at e
     cases e
     have e7:(fun kv:Key×D=>jl kv.fst) kd=jl kk:=congrArg jl e6
     rw [e7]
     exact h5.push fun _=>gX
    ·exact hw.elim
   have g4:σ[k]? =some (some (.ref (p.γ i))):=by
    obtain ⟨v,e4,r4⟩:=h.ent k (.d (.cell i)) (by rw [List.getElem?_append_left (ae e)]; exact e)
    rw [List.getElem?_append_left (by rw [hl]; exact ae e)] at e4
    obtain ⟨_,rfl⟩:=(show i<p.n∧v= .ref (p.γ i) from r4)
    exact e4
   have kv:∀n v,eN ks n=some (.int v)→valV vs n=some (.int v):=fun n v e=>by
    obtain ⟨w,e1,r1⟩:=r.val.1 _ e
    rw [show w= .int v from r1] at e1
    exact e1
   have hTs:RTs G (E.cl p s.st.nx (p.γ i) (.frz od (.dK vs))) is σ tt (ft ks):=fun E' el σ3 ow τ H s' θ Q hN hR hw=>by
    refine hT ks vs kv (p.γ i) E' σ3 τ H s' θ Q hN hR hw ?_ ?_
    ·rw [←ow.2 k hk]; exact g4
    ·obtain ⟨p3,rfl,_,h3⟩:=hR
     exact .inr ⟨od,((el _ _ _ _ _ h3).kp (p.γ i) _ upd_same fun j d0 e z=>(kB e).1 z.symm).1 (.inr rfl)⟩
   refine lc_atE hi hg he σ hTs _ _ ⟨s.sl,s.st.del i⟩ _ _ hN2 hR2 ?_
   unfold zLc
   rw [ab]
   have e' :(⟨s.sl,s.st.del i⟩:SD).sl[k]? =some (some (.d (.cell i))):=e
   show Wp (if _ then _ else _) _ _
   rw [if_pos e',wY]
   show Wp (if Nl [] then _ else _) _ _
   have n0:Nl []:=fun e he j=>by cases he
   rw [if_pos n0]
   rw [ab,vk] at hw ⊢
   refine hw.mono (fun acc s2 hw v H' h3=>?_) fun _ _ _ h=>h
   obtain ⟨p2,rfl,hl2,h4⟩:=h3
   obtain ⟨f0,back⟩:=h.ofCl e2 hd h4
   refine ⟨f0,hw v _ ?_⟩
   have e1:σ++((τ++vs.map (·.2))++ [v]).map some=((σ++τ.map some)++(vs.map (·.2)).map some)++ [some v]:=by simp
   have e3:s2.sl++((θ++(ks.map fun q:Key×D=>q.2).map Vl.d)++ [Vl.own (.lst acc)]).map some=((s2.sl++θ.map some)++((ks.map fun q:Key×D=>q.2).map Vl.d).map some)++ [some (Vl.own (.lst acc))]:=by simp
   rw [e1,e3] at h4 back
   have hA:(σ++τ.map some).length=(s2.sl++θ.map some).length:=by simp [hl2,ht]
   have hB:((vs.map (·.2)).map some).length=(((ks.map (·.2)).map Vl.d).map some).length:=by simp [r.len]
   have rr:RepK G p2 ks vs:=by
    refine .of r.keys (.of (by simp [r.len]) fun j d v' g1 g2=>?_)
    obtain ⟨u,e5,r5⟩:=h4.ent ((s2.sl++θ.map some).length+j) (.d d) (by
     rw [List.getElem?_append_left (by simp; have:=ae g1; simp at this; omega),List.getElem?_append_right (Nat.le_add_right _ _),Nat.add_sub_cancel_left]
     rw [List.getElem?_map,List.getElem?_map,g1]; rfl)
    rw [←hA,List.getElem?_append_left (by simp; have:=ae g2; simp at this; omega),List.getElem?_append_right (Nat.le_add_right _ _),Nat.add_sub_cancel_left,List.getElem?_map,g2] at e5
    cases e5
    exact r5
   exact .snoc ((back rr).mid hA hB (bE hl2)) hl2 rfl
  ·exact hw.elim
 ·right
  exact aal (RI.keys aaa) hg h0 he E σ τ H s θ Q hN hR hw
noncomputable def wo (j:Nat) (F:(SD→R Vl)→SD→R Bool) (ks:List (Key×D)):SD→R Bool:=fun s=>match s.sl[j]? with
 | some (some (.d (.int m)))=>(match eN ks (.inl m) with
  | some (.int a)=>F (zC (.int a)) s
  | _=> .bad)
 | _=> .bad
theorem RTl.sub {j:Nat} {sh:TE→TT} {F:(SD→R Vl)→SD→R Bool} (hs:∀(t1 t2:TE) (σ:L2.St) (H:Hp) (Q:Bool→Hp→Prop),(∀Q',t1 σ H Q'→t2 σ H Q')→sh t1 σ H Q→sh t2 σ H Q) (hf:∀a:Int,RT G WF (sh (tC (.int a))) (F (zC (.int a)))):
  RTl G k (sh (tOp (AQ G.K) (tVar k) (tVar j))) (wo j F):=by
 intro ks vs kv a0 E σ τ H s θ Q hN hR hw e0 hd
 unfold wo at hw
 split at hw
 ·rename_i m e1
  split at hw
  ·rename_i a e2
   refine hs _ _ σ H Q (fun Q' q=>?_) (hf a E σ τ H s θ Q hN hR hw)
   obtain ⟨p,rfl,hl,h⟩:=hR
   obtain ⟨v,e4,r4⟩:=h.ent j (.d (.int m)) (by rw [List.getElem?_append_left (ae e1)]; exact e1)
   rw [List.getElem?_append_left (by rw [hl]; exact ae e1)] at e4
   obtain rfl:v= .int m:=r4
   exact ⟨_,e0,_,e4, .inr (.inr (.inr ⟨_,_,rfl, .inl ⟨vs, .inl m,hd,rfl,(kv _ _ e2).symm⟩,q⟩))⟩
  ·exact hw.elim
 ·exact hw.elim
theorem RTl.cmp {j:Nat} {r:R2} {f:Vl→Vl→SD→R Vl} {tc:TE} {fc:SD→R Vl} (h:Op2 G r f) (hc:RE G WF tc fc):RTl G k (fun σ H Q=>tOp r (tOp (AQ G.K) (tVar k) (tVar j)) tc σ H fun x H' =>∃k,x= .bl k∧Q k H') (wo j fun a=>zB (z2 f a fc)):=
 RTl.sub (sh:=fun t σ H Q=>tOp r t tc σ H fun x H' =>∃k,x= .bl k∧Q k H') (fun t1 t2 σ H Q hm q=>hm _ q) fun a=>RT.val (aac h (aab) hc)
def PureE (t:TE):Prop:=∀(σ:L2.St) (H:Hp) (Q1 Q2:VK),(∀x,Q1 x H→Q2 x H)→t σ H Q1→t σ H Q2
theorem pure_ix {K:PySem.W.Frag} {i j:Nat}:PureE (tOp (AQ K) (tVar i) (tVar j)):=by
 intro σ H Q1 Q2 hq ⟨v,e1,u,e2,h⟩
 refine ⟨v,e1,u,e2, ?_⟩
 rcases h with ⟨p,xs,i,w,a1,a2,a3,a4,q⟩ | ⟨p,xs,i,w,a1,a2,a3,a4,q⟩ | ⟨z,i,c,a1,a2,a3,a4,q⟩ | ⟨a,w,a1,a2,q⟩
 ·exact .inl ⟨p,xs,i,w,a1,a2,a3,a4,hq _ q⟩
 ·exact .inr (.inl ⟨p,xs,i,w,a1,a2,a3,a4,hq _ q⟩)
 ·exact .inr (.inr (.inl ⟨z,i,c,a1,a2,a3,a4,hq _ q⟩))
 ·exact .inr (.inr (.inr ⟨a,w,a1,a2,hq _ q⟩))
theorem RTl.notCall {j:Nat} {F:FnV} {n:Nat} {ta:TE} {fa:SD→R Vl} (ha:RE G WF ta fa) (hp:PureE ta) (hn:2=n):RTl G k (tNot fun σ H Q=>tCallSD (spF G n F) [] (WE WF) (tCons ta (tCons (tOp (AQ G.K) (tVar k) (tVar j)) tNil)) σ H fun x H' =>∃k,x= .bl k∧Q k H') (wo j fun a=>cK (zB (ag F [] (zA fa (zA a zA0))))):=
 RTl.sub (sh:=fun t=>tNot fun σ H Q=>tCallSD (spF G n F) [] (WE WF) (tCons ta (tCons t tNil)) σ H fun x H' =>∃k,x= .bl k∧Q k H') (fun t1 t2 σ H Q hm q=>hp σ H _ _ (fun x q=>hm _ q) q) fun a=>aag (RT.val (RE.call .nil (RA.cons ha (RA.cons aab RA.nil)) (.cons (.cons Many.nil)) hn))
end
section
variable {G:Gc} {W:WX} {s:SD} {a:Vl} {x:D} {ks:List (Key×D)} {k:Key}
noncomputable def wB (a b:Vl) (s:SD):R Vl:=match b,s.cont a with
 | .d z,some (.dct ks)=>match z.key with
  | some k=> .ok (.d ((eN ks k).getD .non)) s
  | none=> .bad
 | _,_=> .bad
theorem RE.dget1 {td ty:TE} {fo fi:SD→R Vl} (ho:RE G W td fo) (hi:RE G W ty fi):RE G W (tDGet1 td ty) (zM2 yX wB fo fi):=by
 intro E σ τ H s θ Q hN hR hw
 unfold zM2 at hw
 rw [ab] at hw
 refine ho E σ τ H s θ _ hN hR (hw.mono (fun a s1 hw v H1 h1=>?_) fun _ _ _ h=>h)
 split at hw
 ·rename_i c
  have h0:=h1
  obtain ⟨p,rfl,hl,h⟩:=h1.unsnoc
  obtain ⟨b,rfl,hD⟩:=yW c (cT hl h).2.1
  refine ⟨b,rfl,hD, ?_⟩
  refine RE.next (Q:=fun y H2=>∃o,DGet H2 b y o∧Q (o.getD .non) H2) hi hN h0 hw fun i s2 u H2 h2 hw=>?_
  unfold wB at hw
  split at hw
  ·rename_i z ks e5
   split at hw
   ·rename_i k e4
    obtain ⟨p,rfl,hl,h⟩:=h2.unsnoc
    rw [List.map_append,List.map_append,←List.append_assoc,←List.append_assoc] at h
    obtain ⟨hS,ca,cb⟩:=eZ hl h
    obtain ⟨u',e6,r6⟩:=h.ent _ _ af
    rw [←aD h.len,af] at e6
    cases e6
    obtain ⟨b',vs,e7,hb,r⟩:=(ca _ e5).dct
    cases e7
    have e8:u=kV k:=gx r6 e4
    refine ⟨valV vs k, .inl ⟨vs,k,hb,e8,rfl⟩, ?_⟩
    cases e9:eN ks k with
    | none=>
     rw [e9] at hw
     rw [r.val.2 e9]
     exact bf hS hl hw rfl
    | some d=>
     rw [e9] at hw
     obtain ⟨w,e10,r10⟩:=r.val.1 d e9
     rw [e10]
     exact bf hS hl hw r10
   ·exact hw.elim
  ·exact hw.elim
 ·exact hw.elim
noncomputable def get1K (s:SD) (z:D):Option D→R Vl
 | some (.dct ks)=>match z.key with
  | some k=> .ok (.d ((eN ks k).getD .non)) s
  | none=> .bad
 | _=> .bad
theorem w_get1 {z:D}:wB a (.d z) s=get1K s z (s.cont a):=by
 unfold wB get1K
 generalize s.cont a=c
 cases c with
 | none=>rfl
 | some x=>cases x<;> rfl
theorem za {i:Int}:get1K s (.int i) (some (.dct ks))= .ok (.d ((eN ks (.inl i)).getD .non)) s:=rfl
end
end Z

namespace Z
open PySem PySem.Spec PyProof.Rows L2 M
section
variable {X:Cx} {N ps:List Str} {sc:Scope} {j:Nat} {a b e:Expr} {es:List Expr} {ta tb te:TE} {x:Str} {pos pos' p:Pos} {t:TA} {r:List V→Hp→VK→Prop}
theorem ixY (K:PySem.W.Frag) (hr:Room j X.A) (ha:PE X a ta) (hb:PE X b tb) (hs:PlainIx b:=by exact fun _ _=>rfl) (hK:X.K=K:=by rfl):PE X (.Subscript a b pos) (tOp (AQ K) ta tb):=pe_ix (ix_Z hr.units hK) ha hb hs
theorem eqY (K:PySem.W.Frag) (hr:Room j X.A) (hK:X.K=K:=by rfl):OpR X (compareOp .Eq) (rEqZ K):=op_eqZ hr.units hK
theorem neY (K:PySem.W.Frag) (hr:Room j X.A) (hK:X.K=K:=by rfl):OpR X (compareOp .NotEq) (rNeZ K):=op_neZ hr.units hK
theorem inY (K:PySem.W.Frag) (hr:Room j X.A) (hK:X.K=K:=by rfl):OpR X (compareOp .In) (rInZ K false):=op_inZ hr.units hK
theorem niY (K:PySem.W.Frag) (hr:Room j X.A) (hK:X.K=K:=by rfl):OpR X (compareOp .NotIn) (rInZ K true):=yy hr.units hK
theorem fdY (K:PySem.W.Frag) {f:Str} (he:PE X e te) (hb:attributeBase e f X.env (eval e X.env)=eval e X.env:=by rfl) (hK:X.K=K:=by rfl):PE X (.Attribute e f pos) (tFld K te f):=m_fldZ he hb hK
theorem cmY {op:CmpOp} {r:R2} (ho:OpR X (compareOp op) r) (ha:PE X a ta) (hb:PE X b tb) (hm:behindInMarks op b=false:=by first | exact nomark _ | rfl):PE X (.Compare a [op] [b] pos) (tOp r ta tb):=pe_cmpR ho ha hb hm
theorem ctY {op:CmpOp} {r:R2} (ho:OpR X (compareOp op) r) (ha:PE X a ta) (hb:PE X b tb) (hm:behindInMarks op b=false:=by first | exact nomark _ | rfl):PT X (.Compare a [op] [b] pos) (tTest (tOp r ta tb)):=pt_cmpR ho ha hb hm
theorem stY (i:Nat) (S:FnScope N ps sc) (he:PE X e te) (hN:X.N=N:=by rfl) (hi:X.N[i]? =some x:=by rfl) (hx:Loc X.env.scope x:=by first | exact Or.inl rfl | exact Or.inr rfl) (hs:swapsWith e (some (.Name x pos')) pos.line X.env=pure false:=by rfl)
  (hf:X.fn x=true∨X.env.scope.names.lookup x=some .local:=by first | exact .inl rfl | exact .inr rfl | assumption):PS X (.Assign [.Name x pos'] e pos) (tAsg te (gName i)):=ps_set (i:=i) (hN ▸ S.nd) hi hx he hs hf
theorem gnY (i:Nat) (S:FnScope N ps sc) (hN:X.N=N:=by rfl) (hi:X.N[i]? =some x:=by rfl) (hx:Loc X.env.scope x:=by first | exact Or.inl rfl | exact Or.inr rfl)
  (hf:X.fn x=true∨X.env.scope.names.lookup x=some .local:=by first | exact .inl rfl | exact .inr rfl | assumption):PG X (.Name x pos) (gName i):=pg_name (i:=i) (hN ▸ S.nd) hi hx hf
section
variable {W:WX} {k n:Nat} {C:Addr} {F:FnV} {dvs:List V} {K:PySem.W.Frag} {mg:Str→Option Value}
theorem clY (c:CalZ X.prog X.w K mg X.base k x n F dvs) (hr:Room j X.A) (tk:Takes X W) (ha:PA X (e::es) t) (hk:k≤j:=by decide) (hg:Gl X x:=by exact rfl)
  (hdb:(x == ("__debug__" :Str))=false:=by decide) (he:starEach (e::es) X.env=(false,eval e X.env)::starEach es X.env:=by rfl) (hpl:(backTo pos (starEach es X.env)).any (·.1)=false:=by rfl) (hK:X.K=K:=by rfl) (hM:X.mg=mg:=by rfl):
  PE X (.Call (.Name x p) (e::es) [] pos) (tCallSD (spF ⟨K,mg⟩ n F) dvs (WE W) t):=m_cK c hr hk tk hg ha hdb he hpl hK hM
theorem mkY (c:MakZ X.prog X.w K mg X.base k x C n F dvs) (hr:Room j X.A) (tk:Takes X W) (ha:PA X (e::es) t) (hk:k+1≤j:=by decide) (hg:Gl X x:=by exact rfl)
  (hdb:(x == ("__debug__" :Str))=false:=by decide) (he:starEach (e::es) X.env=(false,eval e X.env)::starEach es X.env:=by rfl) (hpl:(backTo pos (starEach es X.env)).any (·.1)=false:=by rfl) (hK:X.K=K:=by rfl) (hM:X.mg=mg:=by rfl):
  PE X (.Call (.Name x p) (e::es) [] pos) (sS C (spF ⟨K,mg⟩ n F) dvs (WE W) t):=m_mkK c hr hk tk hg ha hdb he hpl hK hM
end
theorem bnY {id:String} (hc:CallR X (.builtin id) r) (hm:X.mg x=none) (ha:PA X (e::es) t) (hg:Gl X x:=by exact rfl) (hv:bootBuiltins x=some (.builtin id):=by decide+kernel) (hn:x≠ "__name__" :=by decide) (hdb:(x == ("__debug__" :Str))=false:=by decide)
  (he:starEach (e::es) X.env=(false,eval e X.env)::starEach es X.env:=by rfl) (hpl:(backTo pos (starEach es X.env)).any (·.1)=false:=by rfl):PE X (.Call (.Name x p) (e::es) [] pos) (tCB r t):=pe_callB hc hg hm hv ha hn hdb he hpl
theorem tyY {T:String} (hc:CallR X (.type T) r) (hm:X.mg x=none) (ha:PA X (e::es) t) (hg:Gl X x:=by exact rfl) (hv:bootBuiltins x=some (.type T):=by decide+kernel) (hn:x≠ "__name__" :=by decide) (hdb:(x == ("__debug__" :Str))=false:=by decide)
  (he:starEach (e::es) X.env=(false,eval e X.env)::starEach es X.env:=by rfl) (hpl:(backTo pos (starEach es X.env)).any (·.1)=false:=by rfl):PE X (.Call (.Name x p) (e::es) [] pos) (tCB r t):=pe_callTy hc hg hm hv ha hn hdb he hpl
theorem btY (s:String) (hm:X.mg x=none) (hg:Gl X x:=by exact rfl) (hv:bootBuiltins x=some (.type s):=by decide+kernel) (hn:x≠ "__name__" :=by decide) (hd:(x == ("__debug__" :Str))=false:=by decide):PE X (.Name x pos) (tC (.ty s)):=pe_bltn (v:= .ty s) hg hm hv rfl hn hd
section
variable {elt tg iter:Expr} {ifs:List Expr} {scope:Scope} {spos py:Pos} {wi:TI} {g:TG} {tt:TT} {y:Str}
theorem lcY (own:List (Str×Nat)) (S:FnScope N ps sc) (hi:PI X tg iter wi)
  (hg:∀{s:Shared} {H:Hp} {C:Addr} {cl:List (Str×Addr)} {fp:List Addr},PG (X.blk s H scope (compEnvC scope cl C X.env) fp) tg g) (ht:∀{s:Shared} {H:Hp} {C:Addr} {cl:List (Str×Addr)} {fp:List Addr},PTs (X.blk s H scope (compEnvC scope cl C X.env) fp) ifs tt)
  (he:∀{s:Shared} {H:Hp} {C:Addr} {cl:List (Str×Addr)} {fp:List Addr},PE (X.blk s H scope (compEnvC scope cl C X.env) fp) elt te) (ok:blkC N sc scope own=true:=by decide+kernel) (hc:X.calm=true:=by rfl) (hN:X.N=N:=by rfl) (hsc:X.env.scope=sc:=by rfl)
  (hs:∀x,foldedSetIterable iter X.env x=pure x:=by intro _; rfl):PE X (.ListComp elt [⟨tg,iter,ifs,0⟩] scope pos) (tLc wi g tt te (own.map (·.2))):=
 pe_lc hc (hN ▸ S.nd) hi (by rw [hN,hsc]; exact blkOk_by ok) (fun _ _ _ _ _=>hg) (fun _ _ _ _ _=>ht) (fun _ _ _ _ _=>he) hs
theorem slY (i:Nat) (own:List (Str×Nat)) (S:FnScope N ps sc) (hi:PI X tg iter wi)
  (hg:∀{s:Shared} {H:Hp} {C:Addr} {cl:List (Str×Addr)} {fp:List Addr},PG (X.blk s H scope (compEnvC scope cl C X.env) fp) tg g) (ht:∀{s:Shared} {H:Hp} {C:Addr} {cl:List (Str×Addr)} {fp:List Addr},PTs (X.blk s H scope (compEnvC scope cl C X.env) fp) ifs tt)
  (he:∀{s:Shared} {H:Hp} {C:Addr} {cl:List (Str×Addr)} {fp:List Addr},PE (X.blk s H scope (compEnvC scope cl C X.env) fp) elt te) (ok:blkC N sc scope own=true:=by decide+kernel) (hc:X.calm=true:=by rfl) (hN:X.N=N:=by rfl) (hsc:X.env.scope=sc:=by rfl)
  (hy:X.N[i]? =some y:=by rfl) (hyl:X.env.scope.names.lookup y=some .local:=by rfl) (hk:X.env.scope.kind= .function:=by rfl) (hl:(py.line == pos.line)=true:=by rfl) (ha:(scope.names.any fun (n,k)=>n == y&&(k == .local || k == .cell))=false:=by decide+kernel)
  (hs:∀x,foldedSetIterable iter X.env x=pure x:=by intro _; rfl):PS X (.Assign [.Name y py] (.ListComp elt [⟨tg,iter,ifs,0⟩] scope pos) spos) (tAsg (tLc wi g tt te (own.map (·.2))) (gName i)):=
 ps_setLc hc (hN ▸ S.nd) hy hyl (sw_true hk hyl hl ha) hi (by rw [hN,hsc]; exact blkOk_by ok) (fun _ _ _ _ _=>hg) (fun _ _ _ _ _=>ht) (fun _ _ _ _ _=>he) hs
end
end
end Z

set_option maxHeartbeats 4000000
namespace T
open PySem PySem.Spec PyProof.Rows L2 M Z
open Classical
structure Txt (K:PySem.W.Frag) (mg:Str→Option Value) (Ca Cb Cc:Addr):Prop where
 z_all:mg "all" =none
 z_bool:mg "bool" =none
 z_dict:mg "dict" =none
 z_enumerate:mg "enumerate" =none
 z_int:mg "int" =none
 z_isinstance:mg "isinstance" =none
 z_len:mg "len" =none
 z_list:mg "list" =none
 z_min:mg "min" =none
 z_range:mg "range" =none
 z_set:mg "set" =none
 z_sorted:mg "sorted" =none
 z_str:mg "str" =none
 z_sum:mg "sum" =none
 g_LETTERS:∃u,mg "LETTERS" =some u∧RelV (.str "abcdefghijklmnopqrstuvwxyz") u
 g_MOST_LETTERS:∃u,mg "MOST_LETTERS" =some u∧RelV (.int 12) u
 g_MOST:∃u,mg "MOST" =some u∧RelV (.int 1000000000000000000000000000000000000000000000000000000000000) u
 g_MOST_PLACES:∃u,mg "MOST_PLACES" =some u∧RelV (.int 14) u
 g_MOST_TIES:∃u,mg "MOST_TIES" =some u∧RelV (.int 40) u
 m_Part:mg "Part" =some (.ref Ca)
 m_Tie:mg "Tie" =some (.ref Cb)
 m_Net:mg "Net" =some (.ref Cc)
 c_Part:Cls K Ca
 c_Tie:Cls K Cb
 c_Net:Cls K Cc
 n_amount_Part:NoAttr K Ca "amount"
 n_head_Tie:NoAttr K Cb "head"
 n_is_ring_Part:NoAttr K Ca "is_ring"
 n_last_given_Net:NoAttr K Cc "last_given"
 n_least_Tie:NoAttr K Cb "least"
 n_most_Tie:NoAttr K Cb "most"
 n_names_Net:NoAttr K Cc "names"
 n_number_Tie:NoAttr K Cb "number"
 n_numbers_Part:NoAttr K Ca "numbers"
 n_price_Tie:NoAttr K Cb "price"
 n_rows_Net:NoAttr K Cc "rows"
 n_tail_Tie:NoAttr K Cb "tail"
section
variable {K:PySem.W.Frag} {mg:Str→Option Value} {Ca Cb Cc:Addr}
theorem Txt.f_amount_Part (T:Txt K mg Ca Cb Cc):iR ⟨K,mg⟩ "amount" ["Part"]:=xi T.m_Part T.c_Part T.n_amount_Part
theorem Txt.f_head_Tie (T:Txt K mg Ca Cb Cc):iR ⟨K,mg⟩ "head" ["Tie"]:=xi T.m_Tie T.c_Tie T.n_head_Tie
theorem Txt.f_is_ring_Part (T:Txt K mg Ca Cb Cc):iR ⟨K,mg⟩ "is_ring" ["Part"]:=xi T.m_Part T.c_Part T.n_is_ring_Part
theorem Txt.f_last_given_Net (T:Txt K mg Ca Cb Cc):iR ⟨K,mg⟩ "last_given" ["Net"]:=xi T.m_Net T.c_Net T.n_last_given_Net
theorem Txt.f_least_Tie (T:Txt K mg Ca Cb Cc):iR ⟨K,mg⟩ "least" ["Tie"]:=xi T.m_Tie T.c_Tie T.n_least_Tie
theorem Txt.f_most_Tie (T:Txt K mg Ca Cb Cc):iR ⟨K,mg⟩ "most" ["Tie"]:=xi T.m_Tie T.c_Tie T.n_most_Tie
theorem Txt.f_names_Net (T:Txt K mg Ca Cb Cc):iR ⟨K,mg⟩ "names" ["Net"]:=xi T.m_Net T.c_Net T.n_names_Net
theorem Txt.f_number_Tie (T:Txt K mg Ca Cb Cc):iR ⟨K,mg⟩ "number" ["Tie"]:=xi T.m_Tie T.c_Tie T.n_number_Tie
theorem Txt.f_numbers_Part (T:Txt K mg Ca Cb Cc):iR ⟨K,mg⟩ "numbers" ["Part"]:=xi T.m_Part T.c_Part T.n_numbers_Part
theorem Txt.f_price_Tie (T:Txt K mg Ca Cb Cc):iR ⟨K,mg⟩ "price" ["Tie"]:=xi T.m_Tie T.c_Tie T.n_price_Tie
theorem Txt.f_rows_Net (T:Txt K mg Ca Cb Cc):iR ⟨K,mg⟩ "rows" ["Net"]:=xi T.m_Net T.c_Net T.n_rows_Net
theorem Txt.f_tail_Tie (T:Txt K mg Ca Cb Cc):iR ⟨K,mg⟩ "tail" ["Tie"]:=xi T.m_Tie T.c_Tie T.n_tail_Tie
end
structure DD (K:PySem.W.Frag) (mg:Str→Option Value) (Ca Cb Cc:Addr):Prop where
 d_Ldraw:Df K mg "_law_draw" tL ["_law_cell","_law_k","_law_j"]
 d_Lpool:Df K mg "_law_pool" tH ["_law_cell"]
 d_Net_init:Dk K mg "Net" Cc "Net.__init__" jR ["self"]
 d_are_signs:Df K mg "are_signs" iA ["text","signs"]
 d_is_name:Df K mg "is_name" lK ["thing"]
 d_Net_put_place:Dm K Cc "put_place" "Net.put_place" dS ["self","name"]
 d_Lamount:Df K mg "_law_amount" lN ["_law_cell","_law_k","_law_j"]
 d_Net_need_place:Dm K Cc "need_place" "Net.need_place" dh ["self","name"]
 d_is_whole:Df K mg "is_whole" jN ["thing"]
 d_is_among:Df K mg "is_among" jO ["thing","least","most"]
 d_need_room:Df K mg "need_room" ir ["least","most"]
 d_need_price:Df K mg "need_price" gh ["price"]
 d_Tie_init:Dk K mg "Tie" Cb "Tie.__init__" jP ["self","number","tail","head","least","most","price"]
 d_Net_put_numbered:Dm K Cc "put_numbered" "Net.put_numbered" cw ["self","number","tail","head","least","most","price"]
 d_Net_put_tie:Dmd K Cc "put_tie" "Net.put_tie" aP ["self","tail","head","least","most","price"] [.int 0, .non, .int 0]
 d_Lwhole:Df K mg "_law_whole" oQ ["_law_thing","_law_due"]
 d_Lput_tie:Df K mg "_law_put_tie" jS ["_law_net","_law_model","_law_cell","_law_k"]
 d_Net_tie_of:Dm K Cc "tie_of" "Net.tie_of" gm ["self","number"]
 d_Net_drop_tie:Dm K Cc "drop_tie" "Net.drop_tie" eL ["self","number"]
 d_Net_set_room:Dm K Cc "set_room" "Net.set_room" eK ["self","number","least","most"]
 d_Net_set_price:Dm K Cc "set_price" "Net.set_price" dR ["self","number","price"]
 d_Lchanged:Df K mg "_law_changed" jT ["_law_net","_law_model","_law_cell","_law_k","_law_way"]
 d_Ldeed:Df K mg "_law_deed" tM ["_law_net","_law_model","_law_pool_here","_law_cell","_law_k"]
 d_Lbuilt:Df K mg "_law_built" oR ["_law_cells","_law_pool_here"]
 d_Lfilled:Df K mg "_law_filled" lM ["_law_net","_law_model","_law_pool_here","_law_n"]
 d_Lfreed:Df K mg "_law_freed" jb ["_law_net","_law_model"]
 d_Lless:Df K mg "_law_less" tJ ["_law_flow","_law_parts","_law_n"]
 d_Lrows:Df K mg "_law_rows" tF ["_law_model"]
 d_Lroad:Df K mg "_law_road" tG ["_law_model","_law_cell","_law_k","_law_start"]
 d_Lmore:Df K mg "_law_more" tI ["_law_model","_law_flow","_law_ends","_law_cell","_law_k"]
 d_Lroomed:Df K mg "_law_roomed" lL ["_law_net","_law_model","_law_flow","_law_n"]
 d_need_ends:Df K mg "need_ends" iu ["net","source","target"]
 d_Net_ties:Dm K Cc "ties" "Net.ties" jQ ["self"]
 d_is_amount:Df K mg "is_amount" iw ["tie","amount"]
 d_need_flow:Df K mg "need_flow" dQ ["net","flow"]
 d_Net_places:Dm K Cc "places" "Net.places" gp ["self"]
 d_spare_sums:Df K mg "spare_sums" gc ["net","flow"]
 d_carried_by:Df K mg "carried_by" gk ["net","flow","source","target"]
 d_outs_of:Df K mg "outs_of" lJ ["net"]
 d_tie_out:Df K mg "tie_out" lI ["outs","amounts","name"]
 d_first_tail:Df K mg "first_tail" gj ["outs","amounts"]
 d_walked:Df K mg "walked" oP ["outs","amounts","start","target"]
 d_Part_init:Dk K mg "Part" Ca "Part.__init__" iB ["self","is_ring","numbers","amount"]
 d_taken_apart:Df K mg "taken_apart" fB ["net","flow","source","target"]
 d_Lwalk_good:Df K mg "_law_walk_good" gq ["_law_model","_law_part","_law_source","_law_target"]
 d_Lparts_good:Df K mg "_law_parts_good" bq ["_law_model","_law_flow","_law_parts","_law_ends","_law_due"]
 d_put_together:Df K mg "put_together" eJ ["net","parts"]
 d_Lis_flow:Df K mg "_law_is_flow" eW ["_law_found","_law_flow"]
 d_Lkept:Df K mg "_law_kept" tK ["_law_parts"]
section
variable {P:Program} {w:World} {K:PySem.W.Frag} {mg:Str→Option Value} {base:Heap}
theorem fT {x:Str} {st:Stmt} {N ps:List Str} {k n:Nat} {fz:SD→R Fl} (D:M.Df K mg x st ps) (S:FnScope N ps (L2.defScope st))
  (hb:∀{f:Addr} {cdv:Value} {A:Around} {outer:List Env} {s:Shared} {H:Hp} {E:XK},Room k (A.deeper (envOfC x (L2.defScope st) s.heap.objs.size f cdv))→(A.deeper (envOfC x (L2.defScope st) s.heap.objs.size f cdv)).units+1<cLine→Takes (cxOf (L2.CX P w) P w K mg base N x (L2.defScope st) f cdv A outer s H E) (fun cls d _ H=>E cls d H)→
   ∃t,PSs (cxOf (L2.CX P w) P w K mg base N x (L2.defScope st) f cdv A outer s H E) (L2.defBody st) t∧RS ⟨K,mg⟩ (fun cls d _ H=>E cls d H) t fz) (hn:ps.length≤N.length:=by decide) (hn2:n=ps.length:=by rfl):CalZ P w K mg base (k+1) x n (zFn N.length fz) []:=
 calZ_of D S hn hn2 fun f cdv A outer s H E hr=>hb hr (hu_of hr) (takes_of (X:=cxOf (L2.CX P w) P w K mg base N x (L2.defScope st) f cdv A outer s H E) rfl rfl rfl rfl)
theorem Bj {C:Addr} {m q:Str} {st:Stmt} {N ps:List Str} {k n:Nat} {fz:SD→R Fl} (D:M.Dm K C m q st ps) (S:FnScope N ps (L2.defScope st))
  (hb:∀{f:Addr} {cdv:Value} {A:Around} {outer:List Env} {s:Shared} {H:Hp} {E:XK},Room k (A.deeper (envOfC q (L2.defScope st) s.heap.objs.size f cdv))→(A.deeper (envOfC q (L2.defScope st) s.heap.objs.size f cdv)).units+1<cLine→Takes (cxOf (L2.CX P w) P w K mg base N q (L2.defScope st) f cdv A outer s H E) (fun cls d _ H=>E cls d H)→
   ∃t,PSs (cxOf (L2.CX P w) P w K mg base N q (L2.defScope st) f cdv A outer s H E) (L2.defBody st) t∧RS ⟨K,mg⟩ (fun cls d _ H=>E cls d H) t fz) (hn:ps.length≤N.length:=by decide) (hn2:n=ps.length:=by rfl):MetZ P w K mg base (k+1) C m n (zFn N.length fz) []:=
 metZ_of D S hn hn2 fun f cdv A outer s H E hr=>hb hr (hu_of hr) (takes_of (X:=cxOf (L2.CX P w) P w K mg base N q (L2.defScope st) f cdv A outer s H E) rfl rfl rfl rfl)
theorem makY {x q:Str} {C:Addr} {st:Stmt} {N ps:List Str} {k n:Nat} {fz:SD→R Fl} (D:M.Dk K mg x C q st ps) (S:FnScope N ps (L2.defScope st))
  (hb:∀{f:Addr} {cdv:Value} {A:Around} {outer:List Env} {s:Shared} {H:Hp} {E:XK},Room k (A.deeper (envOfC q (L2.defScope st) s.heap.objs.size f cdv))→(A.deeper (envOfC q (L2.defScope st) s.heap.objs.size f cdv)).units+1<cLine→Takes (cxOf (L2.CX P w) P w K mg base N q (L2.defScope st) f cdv A outer s H E) (fun cls d _ H=>E cls d H)→
   ∃t,PSs (cxOf (L2.CX P w) P w K mg base N q (L2.defScope st) f cdv A outer s H E) (L2.defBody st) t∧RS ⟨K,mg⟩ (fun cls d _ H=>E cls d H) t fz) (hn:ps.length≤N.length:=by decide) (hn2:n=ps.length:=by rfl):MakZ P w K mg base (k+1) x C n (zFn N.length fz) []:=
 makZ_of D S hn hn2 fun f cdv A outer s H E hr=>hb hr (hu_of hr) (takes_of (X:=cxOf (L2.CX P w) P w K mg base N q (L2.defScope st) f cdv A outer s H E) rfl rfl rfl rfl)
theorem metdY {C:Addr} {m q:Str} {st:Stmt} {N ps:List Str} {dvs:List V} {k n:Nat} {fz:SD→R Fl} (D:M.Dmd K C m q st ps dvs) (S:FnScope N ps (L2.defScope st))
  (hb:∀{f:Addr} {cdv:Value} {A:Around} {outer:List Env} {s:Shared} {H:Hp} {E:XK},Room k (A.deeper (envOfC q (L2.defScope st) s.heap.objs.size f cdv))→(A.deeper (envOfC q (L2.defScope st) s.heap.objs.size f cdv)).units+1<cLine→Takes (cxOf (L2.CX P w) P w K mg base N q (L2.defScope st) f cdv A outer s H E) (fun cls d _ H=>E cls d H)→
   ∃t,PSs (cxOf (L2.CX P w) P w K mg base N q (L2.defScope st) f cdv A outer s H E) (L2.defBody st) t∧RS ⟨K,mg⟩ (fun cls d _ H=>E cls d H) t fz) (hn:ps.length≤N.length:=by decide) (hn2:n=ps.length:=by rfl):∀(j:Nat) (hj:j≤dvs.length),MetZ P w K mg base (k+1) C m n (zFn N.length fz) (dvs.drop j):=
 Bi D S hn hn2 fun f cdv A outer s H E hr=>hb hr (hu_of hr) (takes_of (X:=cxOf (L2.CX P w) P w K mg base N q (L2.defScope st) f cdv A outer s H E) rfl rfl rfl rfl)
end
section
variable {P:Program} {w:World} {base:Heap} {K:PySem.W.Frag} {mg:Str→Option Value} {Ca Cb Cc:Addr}
variable (T:Txt K mg Ca Cb Cc) (D:DD K mg Ca Cb Cc)
include T D
noncomputable def vi:SD→R Fl:=
 (ai (aw (z2 bX (z2 mT (z2 mT (z2 bX (aa 1) (zC (.int 3))) (z2 bX (aa 1) (zC (.int 3)))) (zC (.int 40692))) (z2 mT (z2 mT (z2 bX (aa 2) (zC (.int 7))) (z2 bX (aa 2) (zC (.int 7)))) (zC (.int 69621)))) (zSt 3))
 (aN (z2 iF (z2 bN (z2 mT (z2 bN (z2 bX (z2 mT (z2 bN (aa 0) (zC (.int 2147483629))) (zC (.int 48271))) (aa 3)) (zC (.int 2147483647))) (zC (.int 16807))) (zC (.int 2147483629))) (zC (.int 3)))))
noncomputable def aF:FnV:=zFn N_Ldraw.length vi
theorem bU:CalZ P w K mg base 1 "_law_draw" 3 aF []:=
 fT D.d_Ldraw vv fun hr hu tk=>⟨_,(pss_cons (stY 3 vv (pe_op (ay (K:=K)) (pe_op cR (pe_op cR (pe_op (ay (K:=K)) (pv 1) pe_int) (pe_op (ay (K:=K)) (pv 1) pe_int)) pe_int) (pe_op cR (pe_op cR (pe_op (ay (K:=K)) (pv 2) pe_int) (pe_op (ay (K:=K)) (pv 2) pe_int)) pe_int)))
 (pss_one (ps_ret (pe_op op_fdivW (pe_op op_mod (pe_op cR (pe_op op_mod (pe_op (ay (K:=K)) (pe_op cR (pe_op op_mod (pv 0) pe_int) pe_int) (pv 3)) pe_int) pe_int) pe_int) pe_int)))),(RS.seq (aad (aac bz (aac jU (aac jU (aac bz aaa aab) (aac bz aaa aab)) aab) (aac jU (aac jU (aac bz aaa aab) (aac bz aaa aab)) aab)) RG.name)
 (RS.ret (aac eX (aac bc (aac jU (aac bc (aac bz (aac jU (aac bc aaa aab) aab) aaa) aab) aab) aab) aab)))⟩
noncomputable def mN:SD→R Fl:=
 (ai (aw (zC (.str "abcdefghijklmnopqrstuvwxyz")) (zSt 1))
 (ai (aw (ag aF [] (zA (aa 0) (zA (zC (.int 70)) (zA (zC (.int 1)) zA0)))) (zSt 2))
 (ai (aw (zM1s rH (zC (.str "")) (zLc (Ap (zA (zC (.int 12)) zA0)) (zSt 7) fm (z2 oIx (aa 1) (z2 bN (z2 bX (z2 iF (aa 2) (zC (.int 7))) (z2 mT (z2 bX (zC (.int 3)) (z2 bN (aa 2) (zC (.int 5)))) (aa 7))) (zC (.int 26)))) [7])) (zSt 3))
 (ai (aw (zSl (aa 3) zNo (zPt (z2 bN (aa 2) (zC (.int 8))))) (zSt 4))
 (ai (aw (z2 bN (z2 iF (aa 2) (zC (.int 200))) (z2 bX (z1 cS (aa 4)) (zC (.int 1)))) (zSt 5))
 (ai (aw (zLc (Ap (zA (zC (.int 18)) zA0)) (zSt 7) fm (z2 bX (z2 bX (zSl (aa 4) zNo (zPt (aa 5))) (z2 oIx (aa 1) (z2 bN (z2 bX (z2 iF (aa 2) (zC (.int 2000))) (z2 mT (zC (.int 5)) (aa 7))) (zC (.int 26))))) (zSl (aa 4) (zPt (aa 5)) zNo)) [7]) (zSt 6))
 (ai (bb (zB (z2 oEq (z2 bN (z2 iF (aa 2) (zC (.int 9))) (zC (.int 3))) (zC (.int 1)))) (aw (z2 bX (zLc (Ap (zA (zC (.int 12)) zA0)) (zSt 7) fm (zSl (aa 3) zNo (zPt (z2 bX (aa 7) (zC (.int 1))))) [7]) (aa 6)) (zSt 6)) au)
 (aN (zSl (zLc (nS (aR (aa 6))) (jD [7,8]) (zB (z2 (oIn true) (aa 8) (zSl (aa 6) zNo (zPt (aa 7))))) (aa 8) [7,8]) zNo (zPt (zC (.int 18))))))))))))
noncomputable def oj:FnV:=zFn N_Lpool.length mN
theorem c_Lpool:CalZ P w K mg base 2 "_law_pool" 1 oj []:=
 fT D.d_Lpool aX fun hr hu tk=>⟨_,(pss_cons (stY 1 aX pe_str)
 (pss_cons (stY 2 aX (clY (bU T D) hr tk (pa_cons (pv 0) (pa_cons pe_int (pa_cons pe_int pa_nil)))))
 (pss_cons (stY 3 aX (pe_join pe_str (lcY [("_law_j",7)] aX (pi_range1 rfl T.z_range (pa_cons pe_int pa_nil)) (gnY 7 aX) pts_nil (ixY K hr (pv 1) (pe_op op_mod (pe_op (ay (K:=K)) (pe_op op_fdivW (pv 2) pe_int) (pe_op cR (pe_op (ay (K:=K)) pe_int (pe_op op_mod (pv 2) pe_int)) (pv 7))) pe_int)))))
 (pss_cons (stY 4 aX (pe_slice (xb (K:=K)) (pv 3) po_none (po_some (pe_op op_mod (pv 2) pe_int))))
 (pss_cons (stY 5 aX (pe_op op_mod (pe_op op_fdivW (pv 2) pe_int) (pe_op (ay (K:=K)) (bnY (aG (K:=K)) T.z_len (pa_cons (pv 4) pa_nil)) pe_int)))
 (pss_cons (stY 6 aX (lcY [("_law_j",7)] aX (pi_range1 rfl T.z_range (pa_cons pe_int pa_nil)) (gnY 7 aX) pts_nil (pe_op (ay (K:=K)) (pe_op (ay (K:=K)) (pe_slice (xb (K:=K)) (pv 4) po_none (po_some (pv 5))) (ixY K hr (pv 1) (pe_op op_mod (pe_op (ay (K:=K)) (pe_op op_fdivW (pv 2) pe_int) (pe_op cR pe_int (pv 7))) pe_int))) (pe_slice (xb (K:=K)) (pv 4) (po_some (pv 5)) po_none))))
 (pss_cons (ps_if (ctY (eqY K hr) (pe_op op_mod (pe_op op_fdivW (pv 2) pe_int) pe_int) pe_int) (pss_one (stY 6 aX (pe_op (ay (K:=K)) (lcY [("_law_j",7)] aX (pi_range1 rfl T.z_range (pa_cons pe_int pa_nil)) (gnY 7 aX) pts_nil (pe_slice (xb (K:=K)) (pv 3) po_none (po_some (pe_op (ay (K:=K)) (pv 7) pe_int)))) (pv 6)))) pss_nil)
 (pss_one (ps_ret (pe_slice (xb (K:=K)) (lcY [("_law_j",7),("_law_name",8)] aX (pi_enum rfl T.z_enumerate (pa_cons (pv 6) pa_nil)) (fN (K:=K) (n:=2) rfl (pgs_cons (gnY 7 aX) (pgs_cons (gnY 8 aX) pgs_nil))) (pts_one (ctY (niY K hr) (pv 8) (pe_slice (xb (K:=K)) (pv 6) po_none (po_some (pv 7))))) (pv 8)) po_none (po_some pe_int))))))))))),(RS.seq (aad aae RG.name)
 (RS.seq (aad (RE.call .nil (RA.cons aaa (RA.cons aab (RA.cons aab RA.nil))) (.cons (.cons (.cons Many.nil))) rfl) RG.name)
 (RS.seq (aad (RE.join aae (aal (is:= [7]) (aaq (RA.cons aab RA.nil)) RG.name aak (aac aO aaa (aac bc (aac bz (aac eX aaa aab) (aac jU (aac bz aab (aac bc aaa aab)) aaa)) aab)))) RG.name)
 (RS.seq (aad (RE.sl aaa RO.no (RO.part (aac bc aaa aab))) RG.name)
 (RS.seq (aad (aac bc (aac eX aaa aab) (aac bz (RE.c1 bY aaa) aab)) RG.name)
 (RS.seq (aad (aal (is:= [7]) (aaq (RA.cons aab RA.nil)) RG.name aak (aac bz (aac bz (RE.sl aaa RO.no (RO.part aaa)) (aac aO aaa (aac bc (aac bz (aac eX aaa aab) (aac jU aab aaa)) aab))) (RE.sl aaa (RO.part aaa) RO.no))) RG.name)
 (RS.seq (aaf (RT.val (aac je (aac bc (aac eX aaa aab) aab) aab)) (aad (aac bz (aal (is:= [7]) (aaq (RA.cons aab RA.nil)) RG.name aak (RE.sl aaa RO.no (RO.part (aac bz aaa aab)))) aaa) RG.name) RS.next)
 (RS.ret (RE.sl (aal (is:= [7,8]) (RI.enum (RE.fix aaa)) (RG.names (is:= [7,8]) rfl) (RT.val (aac (AS (neg:=true)) aaa (RE.sl aaa RO.no (RO.part aaa)))) aaa) RO.no (RO.part aab))))))))))⟩
noncomputable def kj:SD→R Fl:=
 (ai (fU ["Net"] "names" (aa 0) (ie (fS zA0)))
 (ai (fU ["Net"] "rows" (aa 0) (ie mU))
 (fU ["Net"] "last_given" (aa 0) (zC (.int 0)))))
noncomputable def gP:FnV:=zFn N_Net_init.length kj
theorem wV:MakZ P w K mg base 1 "Net" Cc 1 gP []:=
 makY D.d_Net_init tE fun hr hu tk=>⟨_,(pss_cons (ps_fld (pv 0) (pe_lst pa_nil) rfl)
 (pss_cons (ps_fld (pv 0) pe_dnewK rfl)
 (pss_one (ps_fld (pv 0) pe_int rfl)))),(RS.seq (RS.fld T.f_names_Net (RE.cell (RE.lst RA.nil Many.nil (by decide))) aaa)
 (RS.seq (RS.fld T.f_rows_Net (RE.cell aan) aaa)
 (RS.fld T.f_last_given_Net aab aaa)))⟩
noncomputable def iP:SD→R Fl:=
 (aN (z1 yF (zLc (zItS (aR (aa 0))) (zSt 2) fm (z2 (oIn false) (aa 2) (aa 1)) [2])))
noncomputable def ij:FnV:=zFn N_are_signs.length iP
theorem vc:CalZ P w K mg base 1 "are_signs" 2 ij []:=
 fT D.d_are_signs fY fun hr hu tk=>⟨_,(pss_one (ps_ret (bnY (cr_all rfl) T.z_all (pa_cons (lcY [("sign",2)] fY (pi_str (pv 0)) (gnY 2 fY) pts_nil (cmY (inY K hr) (pv 2) (pv 1))) pa_nil)))),(RS.ret (RE.c1 AV (aal (is:= [2]) (RI.str (RE.fix aaa)) RG.name aak (aac (AS (neg:=false)) aaa aaa))))⟩
noncomputable def mM:SD→R Fl:=
 (aN (fV (z1 (pf .str) (aa 0)) (fV (qM oLe oLe (zC (.int 1)) (z1 cS (aa 0)) (zC (.int 12))) (ag ij [] (zA (aa 0) (zA (zC (.str "abcdefghijklmnopqrstuvwxyz")) zA0))))))
noncomputable def lu:FnV:=zFn N_is_name.length mM
theorem Aa:CalZ P w K mg base 2 "is_name" 1 lu []:=
 fT D.d_is_name wx fun hr hu tk=>⟨_,(pss_one (ps_ret (pe_and (bnY (lY (K:=K)) T.z_isinstance (pa_cons (pv 0) (pa_cons (btY "str" T.z_str) pa_nil))) (pe_and (pe_chain op_le op_le pe_int (bnY (aG (K:=K)) T.z_len (pa_cons (pv 0) pa_nil)) (rA rfl T.g_MOST_LETTERS)) (pe_one (clY (vc T D) hr tk (pa_cons (pv 0) (pa_cons (rA rfl T.g_LETTERS) pa_nil)))))))),(RS.ret (RE.andV (RE.isi (t:= .str) aaa) (RE.andV (RE.chain q_le q_le aab (RE.c1 bY aaa) aab) (RE.call .nil (RA.cons aaa (RA.cons aae RA.nil)) (.cons (.cons Many.nil)) rfl))))⟩
noncomputable def dZ:SD→R Fl:=
 (ai (bb (cK (zB (ag lu [] (zA (aa 1) zA0)))) cY au)
 (ai (bb (zB (z2 (oIn false) (aa 1) (z1 (ba ["Net"] "names") (aa 0)))) cY au)
 (ai (bb (zB (z2 oEq (z1 cS (z1 (ba ["Net"] "names") (aa 0))) (zC (.int 14)))) cY au)
 (aH (zM2 isL (oB2 aL) (z1 (ba ["Net"] "names") (aa 0)) (aR (aa 1)))))))
noncomputable def bg:FnV:=zFn N_Net_put_place.length dZ
theorem gE:MetZ P w K mg base 3 Cc "put_place" 2 bg []:=
 Bj D.d_Net_put_place kJ fun hr hu tk=>⟨_,(pss_cons (ps_if (pt_not (pt_val (clY (Aa T D) hr tk (pa_cons (pv 1) pa_nil)))) (pss_one ps_never) pss_nil)
 (pss_cons (ps_if (ctY (inY K hr) (pv 1) (fdY K (pv 0))) (pss_one ps_never) pss_nil)
 (pss_cons (ps_if (ctY (eqY K hr) (bnY (aG (K:=K)) T.z_len (pa_cons (fdY K (pv 0)) pa_nil)) (rA rfl T.g_MOST_PLACES)) (pss_one ps_never) pss_nil)
 (pss_one (ps_expr (pe_bm PySem.F.plainAttrs_list PySem.F.slot_list_append PySem.F.type_list_append mt_append (fdY K (pv 0)) (pa_cons (pv 1) pa_nil))))))),(RS.seq (aaf (aag (RT.val (RE.call .nil (RA.cons aaa RA.nil) (.cons Many.nil) rfl))) RS.never RS.next)
 (RS.seq (aaf (RT.val (aac (AS (neg:=false)) aaa (RE.fld T.f_names_Net aaa))) RS.never RS.next)
 (RS.seq (aaf (RT.val (aac je (RE.c1 bY (RE.fld T.f_names_Net aaa)) aab)) RS.never RS.next)
 (RS.drop (RE.append (RE.fld T.f_names_Net aaa) aaa)))))⟩
noncomputable def mO:SD→R Fl:=
 (ai (aw (ag aF [] (zA (aa 0) (zA (aa 1) (zA (aa 2) zA0)))) (zSt 3))
 (ai (aw (fS (zA (z2 bN (z2 iF (aa 3) (zC (.int 4))) (zC (.int 4))) (zA (z2 bN (z2 iF (aa 3) (zC (.int 4))) (zC (.int 1000))) (zA (z2 bN (z2 bX (aa 0) (aa 3)) (z2 bX (z2 qK (zC (.int 10)) (zC (.int 60))) (zC (.int 1)))) (zA (z2 mZ (z2 qK (zC (.int 10)) (zC (.int 60))) (z2 bN (z2 iF (aa 3) (zC (.int 4))) (zC (.int 3)))) zA0))))) (zSt 4))
 (aN (z2 oIx (aa 4) (z2 bN (aa 3) (zC (.int 4)))))))
noncomputable def cj:FnV:=zFn N_Lamount.length mO
theorem dX:CalZ P w K mg base 2 "_law_amount" 3 cj []:=
 fT D.d_Lamount jM fun hr hu tk=>⟨_,(pss_cons (stY 3 jM (clY (bU T D) hr tk (pa_cons (pv 0) (pa_cons (pv 1) (pa_cons (pv 2) pa_nil)))))
 (pss_cons (stY 4 jM (pe_lst (pa_cons (pe_op op_mod (pe_op op_fdivW (pv 3) pe_int) pe_int) (pa_cons (pe_op op_mod (pe_op op_fdivW (pv 3) pe_int) pe_int) (pa_cons (pe_op op_mod (pe_op (ay (K:=K)) (pv 0) (pv 3)) (pe_op (ay (K:=K)) (pe_op fC pe_int pe_int) pe_int)) (pa_cons (pe_op op_sub (pe_op fC pe_int pe_int) (pe_op op_mod (pe_op op_fdivW (pv 3) pe_int) pe_int)) pa_nil))))))
 (pss_one (ps_ret (ixY K hr (pv 4) (pe_op op_mod (pv 3) pe_int)))))),(RS.seq (aad (RE.call .nil (RA.cons aaa (RA.cons aaa (RA.cons aaa RA.nil))) (.cons (.cons (.cons Many.nil))) rfl) RG.name)
 (RS.seq (aad (RE.lst (RA.cons (aac bc (aac eX aaa aab) aab) (RA.cons (aac bc (aac eX aaa aab) aab) (RA.cons (aac bc (aac bz aaa aaa) (aac bz (aac oZ aab aab) aab)) (RA.cons (aac mY (aac oZ aab aab) (aac bc (aac eX aaa aab) aab)) RA.nil)))) (.cons (.cons (.cons (.cons Many.nil)))) (by decide)) RG.name)
 (RS.ret (aac aO aaa (aac bc aaa aab)))))⟩
noncomputable def dk:SD→R Fl:=
 (bb (zOr (cK (zB (z1 (pf .str) (aa 1)))) (zB (z2 (oIn true) (aa 1) (z1 (ba ["Net"] "names") (aa 0))))) cY au)
noncomputable def aV:FnV:=zFn N_Net_need_place.length dk
theorem bS:MetZ P w K mg base 1 Cc "need_place" 2 aV []:=
 Bj D.d_Net_need_place jL fun hr hu tk=>⟨_,(pss_one (ps_if (PW.pt (pw_or (pt_not (pt_val (bnY (lY (K:=K)) T.z_isinstance (pa_cons (pv 1) (pa_cons (btY "str" T.z_str) pa_nil))))) (pw_or1 (ctY (niY K hr) (pv 1) (fdY K (pv 0)))))) (pss_one ps_never) pss_nil)),(aaf (RT.or (aag (RT.val (RE.isi (t:= .str) aaa))) (RT.val (aac (AS (neg:=true)) aaa (RE.fld T.f_names_Net aaa)))) RS.never RS.next)⟩
noncomputable def kf:SD→R Fl:=
 (aN (fV (z1 (pf .int) (aa 0)) (qL (z1 (pf .bool) (aa 0)))))
noncomputable def bH:FnV:=zFn N_is_whole.length kf
theorem fk:CalZ P w K mg base 1 "is_whole" 1 bH []:=
 fT D.d_is_whole tx fun hr hu tk=>⟨_,(pss_one (ps_ret (pe_and (bnY (lY (K:=K)) T.z_isinstance (pa_cons (pv 0) (pa_cons (btY "int" T.z_int) pa_nil))) (pe_one (pe_not (bnY (lY (K:=K)) T.z_isinstance (pa_cons (pv 0) (pa_cons (btY "bool" T.z_bool) pa_nil)))))))),(RS.ret (RE.andV (RE.isi (t:= .int) aaa) (aap (RE.isi (t:= .bool) aaa))))⟩
noncomputable def kg:SD→R Fl:=
 (aN (fV (ag bH [] (zA (aa 0) zA0)) (qM oLe oLe (aa 1) (aa 0) (aa 2))))
noncomputable def bV:FnV:=zFn N_is_among.length kg
theorem kb:CalZ P w K mg base 2 "is_among" 3 bV []:=
 fT D.d_is_among tA fun hr hu tk=>⟨_,(pss_one (ps_ret (pe_and (clY (fk T D) hr tk (pa_cons (pv 0) pa_nil)) (pe_one (pe_chain op_le op_le (pv 1) (pv 0) (pv 2)))))),(RS.ret (RE.andV (RE.call .nil (RA.cons aaa RA.nil) (.cons Many.nil) rfl) (RE.chain q_le q_le aaa aaa aaa)))⟩
noncomputable def iL:SD→R Fl:=
 (bb (zOr (cK (zB (ag bV [] (zA (aa 0) (zA (zC (.int 0)) (zA (zC (.int 1000000000000000000000000000000000000000000000000000000000000)) zA0)))))) (mV (zB (z2 (kK true) (aa 1) (zC .non))) (cK (zB (ag bV [] (zA (aa 1) (zA (aa 0) (zA (zC (.int 1000000000000000000000000000000000000000000000000000000000000)) zA0)))))))) cY au)
noncomputable def fq:FnV:=zFn N_need_room.length iL
theorem mF:CalZ P w K mg base 3 "need_room" 2 fq []:=
 fT D.d_need_room qU fun hr hu tk=>⟨_,(pss_one (ps_if (PW.pt (pw_or (pt_not (pt_val (clY (kb T D) hr tk (pa_cons (pv 0) (pa_cons pe_int (pa_cons (rA rfl T.g_MOST) pa_nil)))))) (pw_or1 (PW.pt (pw_and (ctY lW (pv 1) pe_non) (pw_and1 (pt_not (pt_val (clY (kb T D) hr tk (pa_cons (pv 1) (pa_cons (pv 0) (pa_cons (rA rfl T.g_MOST) pa_nil)))))))))))) (pss_one ps_never) pss_nil)),(aaf (RT.or (aag (RT.val (RE.call .nil (RA.cons aaa (RA.cons aab (RA.cons aab RA.nil))) (.cons (.cons (.cons Many.nil))) rfl))) (aam (RT.val (aac (pb (neg:=true)) aaa aah)) (aag (RT.val (RE.call .nil (RA.cons aaa (RA.cons aaa (RA.cons aab RA.nil))) (.cons (.cons (.cons Many.nil))) rfl))))) RS.never RS.next)⟩
noncomputable def gG:SD→R Fl:=
 (bb (cK (zB (ag bV [] (zA (aa 0) (zA (z2 mZ (zC (.int 0)) (zC (.int 1000000000000000000000000000000000000000000000000000000000000))) (zA (zC (.int 1000000000000000000000000000000000000000000000000000000000000)) zA0)))))) cY au)
noncomputable def eB:FnV:=zFn N_need_price.length gG
theorem kD:CalZ P w K mg base 3 "need_price" 1 eB []:=
 fT D.d_need_price oJ fun hr hu tk=>⟨_,(pss_one (ps_if (pt_not (pt_val (clY (kb T D) hr tk (pa_cons (pv 0) (pa_cons (pe_op op_sub pe_int (rA rfl T.g_MOST)) (pa_cons (rA rfl T.g_MOST) pa_nil)))))) (pss_one ps_never) pss_nil)),(aaf (aag (RT.val (RE.call .nil (RA.cons aaa (RA.cons (aac mY aab aab) (RA.cons aab RA.nil))) (.cons (.cons (.cons Many.nil))) rfl))) RS.never RS.next)⟩
noncomputable def kh:SD→R Fl:=
 (ai (fU ["Tie"] "number" (aa 0) (aa 1))
 (ai (fU ["Tie"] "tail" (aa 0) (aa 2))
 (ai (fU ["Tie"] "head" (aa 0) (aa 3))
 (ai (fU ["Tie"] "least" (aa 0) (aa 4))
 (ai (fU ["Tie"] "most" (aa 0) (aa 5))
 (fU ["Tie"] "price" (aa 0) (aa 6)))))))
noncomputable def bW:FnV:=zFn N_Tie_init.length kh
theorem ke:MakZ P w K mg base 1 "Tie" Cb 7 bW []:=
 makY D.d_Tie_init tD fun hr hu tk=>⟨_,(pss_cons (ps_fld (pv 0) (pv 1) rfl)
 (pss_cons (ps_fld (pv 0) (pv 2) rfl)
 (pss_cons (ps_fld (pv 0) (pv 3) rfl)
 (pss_cons (ps_fld (pv 0) (pv 4) rfl)
 (pss_cons (ps_fld (pv 0) (pv 5) rfl)
 (pss_one (ps_fld (pv 0) (pv 6) rfl))))))),(RS.seq (RS.fld T.f_number_Tie aaa aaa)
 (RS.seq (RS.fld T.f_tail_Tie aaa aaa)
 (RS.seq (RS.fld T.f_head_Tie aaa aaa)
 (RS.seq (RS.fld T.f_least_Tie aaa aaa)
 (RS.seq (RS.fld T.f_most_Tie aaa aaa)
 (RS.fld T.f_price_Tie aaa aaa))))))⟩
noncomputable def cJ:SD→R Fl:=
 (ai (aH (bL "Net" "need_place" aV [] (aa 0) (zA (aa 2) zA0)))
 (ai (aH (bL "Net" "need_place" aV [] (aa 0) (zA (aa 3) zA0)))
 (ai (bb (zB (z2 oEq (aa 2) (aa 3))) cY au)
 (ai (aH (ag fq [] (zA (aa 4) (zA (aa 5) zA0))))
 (ai (aH (ag eB [] (zA (aa 6) zA0)))
 (ai (bb (zB (z2 oEq (z1 cS (z1 (ba ["Net"] "rows") (aa 0))) (zC (.int 40)))) cY au)
 (ai (dg (z1 (ba ["Net"] "rows") (aa 0)) (aa 1) (Ay (jE "Tie" bW [] (zA (aa 1) (zA (aa 2) (zA (aa 3) (zA (aa 4) (zA (aa 5) (zA (aa 6) zA0)))))))))
 (ai (fU ["Net"] "last_given" (aa 0) (aa 1))
 (aN (aa 1))))))))))
noncomputable def cf:FnV:=zFn N_Net_put_numbered.length cJ
theorem js:MetZ P w K mg base 4 Cc "put_numbered" 7 cf []:=
 Bj D.d_Net_put_numbered iq fun hr hu tk=>⟨_,(pss_cons (ps_expr (fQ (bS T D) hr (by decide) tk (pv 0) (pa_cons (pv 2) pa_nil)))
 (pss_cons (ps_expr (fQ (bS T D) hr (by decide) tk (pv 0) (pa_cons (pv 3) pa_nil)))
 (pss_cons (ps_if (ctY (eqY K hr) (pv 2) (pv 3)) (pss_one ps_never) pss_nil)
 (pss_cons (ps_expr (clY (mF T D) hr tk (pa_cons (pv 4) (pa_cons (pv 5) pa_nil))))
 (pss_cons (ps_expr (clY (kD T D) hr tk (pa_cons (pv 6) pa_nil)))
 (pss_cons (ps_if (ctY (eqY K hr) (bnY (aG (K:=K)) T.z_len (pa_cons (fdY K (pv 0)) pa_nil)) (rA rfl T.g_MOST_TIES)) (pss_one ps_never) pss_nil)
 (pss_cons (ps_dput hu (fdY K (pv 0)) (pv 1) (mkY (ke T D) hr tk (pa_cons (pv 1) (pa_cons (pv 2) (pa_cons (pv 3) (pa_cons (pv 4) (pa_cons (pv 5) (pa_cons (pv 6) pa_nil))))))) rfl)
 (pss_cons (ps_fld (pv 0) (pv 1) rfl)
 (pss_one (ps_ret (pv 1))))))))))),(RS.seq (RS.drop (RE.meth T.m_Net .nil aaa (RA.cons aaa RA.nil) (.cons Many.nil) rfl))
 (RS.seq (RS.drop (RE.meth T.m_Net .nil aaa (RA.cons aaa RA.nil) (.cons Many.nil) rfl))
 (RS.seq (aaf (RT.val (aac je aaa aaa)) RS.never RS.next)
 (RS.seq (RS.drop (RE.call .nil (RA.cons aaa (RA.cons aaa RA.nil)) (.cons (.cons Many.nil)) rfl))
 (RS.seq (RS.drop (RE.call .nil (RA.cons aaa RA.nil) (.cons Many.nil) rfl))
 (RS.seq (aaf (RT.val (aac je (RE.c1 bY (RE.fld T.f_rows_Net aaa)) aab)) RS.never RS.next)
 (RS.seq (aaj (RE.fld T.f_rows_Net aaa) aaa (RE.frz (RE.make T.m_Tie .nil (RA.cons aaa (RA.cons aaa (RA.cons aaa (RA.cons aaa (RA.cons aaa (RA.cons aaa RA.nil)))))) (.cons (.cons (.cons (.cons (.cons (.cons Many.nil)))))) rfl)))
 (RS.seq (RS.fld T.f_last_given_Net aaa aaa)
 (RS.ret aaa)))))))))⟩
noncomputable def fJ:SD→R Fl:=
 (aN (bL "Net" "put_numbered" cf [] (aa 0) (zA (z2 bX (z1 (ba ["Net"] "last_given") (aa 0)) (zC (.int 1))) (zA (aa 1) (zA (aa 2) (zA (aa 3) (zA (aa 4) (zA (aa 5) zA0))))))))
noncomputable def bZ:FnV:=zFn N_Net_put_tie.length fJ
theorem fG:∀(j:Nat) (hj:j≤([.int 0, .non, .int 0]:List V).length),MetZ P w K mg base 5 Cc "put_tie" 6 bZ (([.int 0, .non, .int 0]:List V).drop j):=
 metdY D.d_Net_put_tie mW fun hr hu tk=>⟨_,(pss_one (ps_ret (fQ (js T D) hr (by decide) tk (pv 0) (pa_cons (pe_op (ay (K:=K)) (fdY K (pv 0)) pe_int) (pa_cons (pv 1) (pa_cons (pv 2) (pa_cons (pv 3) (pa_cons (pv 4) (pa_cons (pv 5) pa_nil))))))))),(RS.ret (RE.meth T.m_Net .nil aaa (RA.cons (aac bz (RE.fld T.f_last_given_Net aaa) aab) (RA.cons aaa (RA.cons aaa (RA.cons aaa (RA.cons aaa (RA.cons aaa RA.nil)))))) (.cons (.cons (.cons (.cons (.cons (.cons Many.nil)))))) rfl))⟩
noncomputable def ju:SD→R Fl:=
 (aN (fV (z1 (pf .int) (aa 0)) (fV (qL (z1 (pf .bool) (aa 0))) (z2 oEq (aa 0) (aa 1)))))
noncomputable def aT:FnV:=zFn N_Lwhole.length ju
theorem hU:CalZ P w K mg base 1 "_law_whole" 2 aT []:=
 fT D.d_Lwhole ye fun hr hu tk=>⟨_,(pss_one (ps_ret (pe_and (bnY (lY (K:=K)) T.z_isinstance (pa_cons (pv 0) (pa_cons (btY "int" T.z_int) pa_nil))) (pe_and (pe_not (bnY (lY (K:=K)) T.z_isinstance (pa_cons (pv 0) (pa_cons (btY "bool" T.z_bool) pa_nil)))) (pe_one (cmY (eqY K hr) (pv 0) (pv 1))))))),(RS.ret (RE.andV (RE.isi (t:= .int) aaa) (RE.andV (aap (RE.isi (t:= .bool) aaa)) (aac je aaa aaa))))⟩
noncomputable def aQ:SD→R Fl:=
 (ai (aw (z2 oIx (aa 1) (zC (.str "names"))) (zSt 4))
 (ai (aw (ag aF [] (zA (aa 2) (zA (aa 3) (zA (zC (.int 2)) zA0)))) (zSt 5))
 (ai (aw (z2 oIx (aa 4) (z2 bN (aa 5) (z1 cS (aa 4)))) (zSt 6))
 (ai (aw (z2 oIx (aa 4) (z2 bN (z2 bX (z2 bX (aa 5) (zC (.int 1))) (z2 bN (z2 iF (aa 5) (zC (.int 14))) (z2 mZ (z1 cS (aa 4)) (zC (.int 1))))) (z1 cS (aa 4)))) (zSt 7))
 (ai (aw (z2 oIx (fS (zA (zC (.int 0)) (zA (zC (.int 0)) (zA (ag cj [] (zA (aa 2) (zA (aa 3) (zA (zC (.int 3)) zA0)))) zA0)))) (z2 bN (z2 iF (aa 5) (zC (.int 200))) (zC (.int 3)))) (zSt 8))
 (ai (aw (z2 oIx (fS (zA (zC .non) (zA (z2 qK (zC (.int 10)) (zC (.int 60))) (zA (z2 rG (z2 qK (zC (.int 10)) (zC (.int 60))) (z2 bX (aa 8) (ag cj [] (zA (aa 2) (zA (aa 3) (zA (zC (.int 4)) zA0)))))) zA0)))) (z2 bN (z2 iF (aa 5) (zC (.int 600))) (zC (.int 3)))) (zSt 9))
 (ai (aw (z2 mT (ag cj [] (zA (aa 2) (zA (aa 3) (zA (zC (.int 5)) zA0)))) (z2 oIx (fS (zA (zC (.int 1)) (zA (z1 yC (zC (.int 1))) zA0))) (z2 bN (z2 iF (aa 5) (zC (.int 1800))) (zC (.int 2))))) (zSt 10))
 (ai (bb (zB (z2 oEq (z2 bN (z2 iF (aa 5) (zC (.int 3600))) (zC (.int 4))) (zC (.int 0)))) (ai (aw (fR (zA (zC (.int 0)) (zA (zC .non) (zA (zC (.int 0)) zA0)))) (jD [8,9,10]))
 (aw (bL "Net" "put_tie" bZ [.int 0, .non, .int 0] (aa 0) (zA (aa 6) (zA (aa 7) zA0))) (zSt 11))) (bb (zB (z2 oEq (z2 bN (z2 iF (aa 5) (zC (.int 3600))) (zC (.int 4))) (zC (.int 1)))) (ai (aw (zC (.int 0)) (zSt 10))
 (aw (bL "Net" "put_tie" bZ [.int 0] (aa 0) (zA (aa 6) (zA (aa 7) (zA (aa 8) (zA (aa 9) zA0))))) (zSt 11))) (aw (bL "Net" "put_tie" bZ [] (aa 0) (zA (aa 6) (zA (aa 7) (zA (aa 8) (zA (aa 9) (zA (aa 10) zA0)))))) (zSt 11))))
 (ai (dg (aa 1) (zC (.str "given")) (z2 bX (z2 oIx (aa 1) (zC (.str "given"))) (zC (.int 1))))
 (ai (dg (z2 oIx (aa 1) (zC (.str "ties"))) (z2 oIx (aa 1) (zC (.str "given"))) (fR (zA (aa 6) (zA (aa 7) (zA (aa 8) (zA (aa 9) (zA (aa 10) zA0)))))))
 (aN (ag aT [] (zA (aa 11) (zA (z2 oIx (aa 1) (zC (.str "given"))) zA0))))))))))))))
noncomputable def bh:FnV:=zFn N_Lput_tie.length aQ
theorem nN:CalZ P w K mg base 6 "_law_put_tie" 4 bh []:=
 fT D.d_Lput_tie aB fun hr hu tk=>⟨_,(pss_cons (stY 4 aB (ixY K hr (pv 1) pe_str))
 (pss_cons (stY 5 aB (clY (bU T D) hr tk (pa_cons (pv 2) (pa_cons (pv 3) (pa_cons pe_int pa_nil)))))
 (pss_cons (stY 6 aB (ixY K hr (pv 4) (pe_op op_mod (pv 5) (bnY (aG (K:=K)) T.z_len (pa_cons (pv 4) pa_nil)))))
 (pss_cons (stY 7 aB (ixY K hr (pv 4) (pe_op op_mod (pe_op (ay (K:=K)) (pe_op (ay (K:=K)) (pv 5) pe_int) (pe_op op_mod (pe_op op_fdivW (pv 5) pe_int) (pe_op op_sub (bnY (aG (K:=K)) T.z_len (pa_cons (pv 4) pa_nil)) pe_int))) (bnY (aG (K:=K)) T.z_len (pa_cons (pv 4) pa_nil)))))
 (pss_cons (stY 8 aB (ixY K hr (pe_lst (pa_cons pe_int (pa_cons pe_int (pa_cons (clY (dX T D) hr tk (pa_cons (pv 2) (pa_cons (pv 3) (pa_cons pe_int pa_nil)))) pa_nil)))) (pe_op op_mod (pe_op op_fdivW (pv 5) pe_int) pe_int)))
 (pss_cons (stY 9 aB (ixY K hr (pe_lst (pa_cons pe_non (pa_cons (pe_op fC pe_int pe_int) (pa_cons (bnY (jY rfl) T.z_min (pa_cons (pe_op fC pe_int pe_int) (pa_cons (pe_op (ay (K:=K)) (pv 8) (clY (dX T D) hr tk (pa_cons (pv 2) (pa_cons (pv 3) (pa_cons pe_int pa_nil))))) pa_nil))) pa_nil)))) (pe_op op_mod (pe_op op_fdivW (pv 5) pe_int) pe_int)))
 (pss_cons (stY 10 aB (pe_op cR (clY (dX T D) hr tk (pa_cons (pv 2) (pa_cons (pv 3) (pa_cons pe_int pa_nil)))) (ixY K hr (pe_lst (pa_cons pe_int (pa_cons (pe_un un_neg pe_int) pa_nil))) (pe_op op_mod (pe_op op_fdivW (pv 5) pe_int) pe_int))))
 (pss_cons (ps_if (ctY (eqY K hr) (pe_op op_mod (pe_op op_fdivW (pv 5) pe_int) pe_int) pe_int) (pss_cons (ps_asg (pe_tup (pa_cons pe_int (pa_cons pe_non (pa_cons pe_int pa_nil)))) (fN (K:=K) (n:=3) rfl (pgs_cons (gnY 8 aB) (pgs_cons (gnY 9 aB) (pgs_cons (gnY 10 aB) pgs_nil)))))
 (pss_one (stY 11 aB (fQ ((fG T D) 0 (by decide)) hr (by decide) tk (pv 0) (pa_cons (pv 6) (pa_cons (pv 7) pa_nil)))))) (pss_one (ps_if (ctY (eqY K hr) (pe_op op_mod (pe_op op_fdivW (pv 5) pe_int) pe_int) pe_int) (pss_cons (stY 10 aB pe_int)
 (pss_one (stY 11 aB (fQ ((fG T D) 2 (by decide)) hr (by decide) tk (pv 0) (pa_cons (pv 6) (pa_cons (pv 7) (pa_cons (pv 8) (pa_cons (pv 9) pa_nil)))))))) (pss_one (stY 11 aB (fQ ((fG T D) 3 (by decide)) hr (by decide) tk (pv 0) (pa_cons (pv 6) (pa_cons (pv 7) (pa_cons (pv 8) (pa_cons (pv 9) (pa_cons (pv 10) pa_nil)))))))))))
 (pss_cons (ps_dput hu (pv 1) pe_str (pe_op (ay (K:=K)) (ixY K hr (pv 1) pe_str) pe_int) rfl)
 (pss_cons (ps_dput hu (ixY K hr (pv 1) pe_str) (ixY K hr (pv 1) pe_str) (pe_tup (pa_cons (pv 6) (pa_cons (pv 7) (pa_cons (pv 8) (pa_cons (pv 9) (pa_cons (pv 10) pa_nil)))))) rfl)
 (pss_one (ps_ret (clY (hU T D) hr tk (pa_cons (pv 11) (pa_cons (ixY K hr (pv 1) pe_str) pa_nil))))))))))))))),(RS.seq (aad (aac aO aaa aae) RG.name)
 (RS.seq (aad (RE.call .nil (RA.cons aaa (RA.cons aaa (RA.cons aab RA.nil))) (.cons (.cons (.cons Many.nil))) rfl) RG.name)
 (RS.seq (aad (aac aO aaa (aac bc aaa (RE.c1 bY aaa))) RG.name)
 (RS.seq (aad (aac aO aaa (aac bc (aac bz (aac bz aaa aab) (aac bc (aac eX aaa aab) (aac mY (RE.c1 bY aaa) aab))) (RE.c1 bY aaa))) RG.name)
 (RS.seq (aad (aac aO (RE.lst (RA.cons aab (RA.cons aab (RA.cons (RE.call .nil (RA.cons aaa (RA.cons aaa (RA.cons aab RA.nil))) (.cons (.cons (.cons Many.nil))) rfl) RA.nil))) (.cons (.cons (.cons Many.nil))) (by decide)) (aac bc (aac eX aaa aab) aab)) RG.name)
 (RS.seq (aad (aac aO (RE.lst (RA.cons aah (RA.cons (aac oZ aab aab) (RA.cons (RE.c2 wy (aac oZ aab aab) (aac bz aaa (RE.call .nil (RA.cons aaa (RA.cons aaa (RA.cons aab RA.nil))) (.cons (.cons (.cons Many.nil))) rfl))) RA.nil))) (.cons (.cons (.cons Many.nil))) (by decide)) (aac bc (aac eX aaa aab) aab)) RG.name)
 (RS.seq (aad (aac jU (RE.call .nil (RA.cons aaa (RA.cons aaa (RA.cons aab RA.nil))) (.cons (.cons (.cons Many.nil))) rfl) (aac aO (RE.lst (RA.cons aab (RA.cons (RE.neg aab) RA.nil)) (.cons (.cons Many.nil)) (by decide)) (aac bc (aac eX aaa aab) aab))) RG.name)
 (RS.seq (aaf (RT.val (aac je (aac bc (aac eX aaa aab) aab) aab)) (RS.seq (aad (RE.tup (RA.cons aab (RA.cons aah (RA.cons aab RA.nil))) (.cons (.cons (.cons Many.nil))) (by decide)) (RG.names (is:= [8,9,10]) rfl))
 (aad (RE.meth T.m_Net (.cons rfl (.cons rfl (.cons rfl .nil))) aaa (RA.cons aaa (RA.cons aaa RA.nil)) (.cons (.cons Many.nil)) rfl) RG.name)) (aaf (RT.val (aac je (aac bc (aac eX aaa aab) aab) aab)) (RS.seq (aad aab RG.name)
 (aad (RE.meth T.m_Net (.cons rfl .nil) aaa (RA.cons aaa (RA.cons aaa (RA.cons aaa (RA.cons aaa RA.nil)))) (.cons (.cons (.cons (.cons Many.nil)))) rfl) RG.name)) (aad (RE.meth T.m_Net .nil aaa (RA.cons aaa (RA.cons aaa (RA.cons aaa (RA.cons aaa (RA.cons aaa RA.nil))))) (.cons (.cons (.cons (.cons (.cons Many.nil))))) rfl) RG.name)))
 (RS.seq (aaj aaa aae (aac bz (aac aO aaa aae) aab))
 (RS.seq (aaj (aac aO aaa aae) (aac aO aaa aae) (RE.tup (RA.cons aaa (RA.cons aaa (RA.cons aaa (RA.cons aaa (RA.cons aaa RA.nil))))) (.cons (.cons (.cons (.cons (.cons Many.nil))))) (by decide)))
 (RS.ret (RE.call .nil (RA.cons aaa (RA.cons (aac aO aaa aae) RA.nil)) (.cons (.cons Many.nil)) rfl))))))))))))⟩
noncomputable def gK:SD→R Fl:=
 (ai (bb (zOr (cK (zB (ag bH [] (zA (aa 1) zA0)))) (zB (z2 (oIn true) (aa 1) (z1 (ba ["Net"] "rows") (aa 0))))) cY au)
 (aN (z2 oIx (z1 (ba ["Net"] "rows") (aa 0)) (aa 1))))
noncomputable def de:FnV:=zFn N_Net_tie_of.length gK
theorem gB:MetZ P w K mg base 2 Cc "tie_of" 2 de []:=
 Bj D.d_Net_tie_of oK fun hr hu tk=>⟨_,(pss_cons (ps_if (PW.pt (pw_or (pt_not (pt_val (clY (fk T D) hr tk (pa_cons (pv 1) pa_nil)))) (pw_or1 (ctY (niY K hr) (pv 1) (fdY K (pv 0)))))) (pss_one ps_never) pss_nil)
 (pss_one (ps_ret (ixY K hr (fdY K (pv 0)) (pv 1))))),(RS.seq (aaf (RT.or (aag (RT.val (RE.call .nil (RA.cons aaa RA.nil) (.cons Many.nil) rfl))) (RT.val (aac (AS (neg:=true)) aaa (RE.fld T.f_rows_Net aaa)))) RS.never RS.next)
 (RS.ret (aac aO (RE.fld T.f_rows_Net aaa) aaa)))⟩
noncomputable def eS:SD→R Fl:=
 (ai (aH (bL "Net" "tie_of" de [] (aa 0) (zA (aa 1) zA0)))
 (aH (zM2 yX (oB2 se) (z1 (ba ["Net"] "rows") (aa 0)) (aa 1))))
noncomputable def eI:FnV:=zFn N_Net_drop_tie.length eS
theorem nq:MetZ P w K mg base 3 Cc "drop_tie" 2 eI []:=
 Bj D.d_Net_drop_tie lH fun hr hu tk=>⟨_,(pss_cons (ps_expr (fQ (gB T D) hr (by decide) tk (pv 0) (pa_cons (pv 1) pa_nil)))
 (pss_one (ps_expr (pe_dpop1 (fdY K (pv 0)) (pv 1) ⟨rfl,rfl,rfl,rfl⟩)))),(RS.seq (RS.drop (RE.meth T.m_Net .nil aaa (RA.cons aaa RA.nil) (.cons Many.nil) rfl))
 (RS.drop (RE.dpop (RE.fld T.f_rows_Net aaa) aaa)))⟩
noncomputable def eR:SD→R Fl:=
 (ai (aw (bL "Net" "tie_of" de [] (aa 0) (zA (aa 1) zA0)) (zSt 4))
 (ai (aH (ag fq [] (zA (aa 2) (zA (aa 3) zA0))))
 (dg (z1 (ba ["Net"] "rows") (aa 0)) (aa 1) (Ay (jE "Tie" bW [] (zA (aa 1) (zA (z1 (ba ["Tie"] "tail") (aa 4)) (zA (z1 (ba ["Tie"] "head") (aa 4)) (zA (aa 2) (zA (aa 3) (zA (z1 (ba ["Tie"] "price") (aa 4)) zA0)))))))))))
noncomputable def ax:FnV:=zFn N_Net_set_room.length eR
theorem eP:MetZ P w K mg base 4 Cc "set_room" 4 ax []:=
 Bj D.d_Net_set_room fZ fun hr hu tk=>⟨_,(pss_cons (stY 4 fZ (fQ (gB T D) hr (by decide) tk (pv 0) (pa_cons (pv 1) pa_nil)))
 (pss_cons (ps_expr (clY (mF T D) hr tk (pa_cons (pv 2) (pa_cons (pv 3) pa_nil))))
 (pss_one (ps_dput hu (fdY K (pv 0)) (pv 1) (mkY (ke T D) hr tk (pa_cons (pv 1) (pa_cons (fdY K (pv 4)) (pa_cons (fdY K (pv 4)) (pa_cons (pv 2) (pa_cons (pv 3) (pa_cons (fdY K (pv 4)) pa_nil))))))) rfl)))),(RS.seq (aad (RE.meth T.m_Net .nil aaa (RA.cons aaa RA.nil) (.cons Many.nil) rfl) RG.name)
 (RS.seq (RS.drop (RE.call .nil (RA.cons aaa (RA.cons aaa RA.nil)) (.cons (.cons Many.nil)) rfl))
 (aaj (RE.fld T.f_rows_Net aaa) aaa (RE.frz (RE.make T.m_Tie .nil (RA.cons aaa (RA.cons (RE.fld T.f_tail_Tie aaa) (RA.cons (RE.fld T.f_head_Tie aaa) (RA.cons aaa (RA.cons aaa (RA.cons (RE.fld T.f_price_Tie aaa) RA.nil)))))) (.cons (.cons (.cons (.cons (.cons (.cons Many.nil)))))) rfl)))))⟩
noncomputable def dY:SD→R Fl:=
 (ai (aw (bL "Net" "tie_of" de [] (aa 0) (zA (aa 1) zA0)) (zSt 3))
 (ai (aH (ag eB [] (zA (aa 2) zA0)))
 (dg (z1 (ba ["Net"] "rows") (aa 0)) (aa 1) (Ay (jE "Tie" bW [] (zA (aa 1) (zA (z1 (ba ["Tie"] "tail") (aa 3)) (zA (z1 (ba ["Tie"] "head") (aa 3)) (zA (z1 (ba ["Tie"] "least") (aa 3)) (zA (z1 (ba ["Tie"] "most") (aa 3)) (zA (aa 2) zA0)))))))))))
noncomputable def dN:FnV:=zFn N_Net_set_price.length dY
theorem mI:MetZ P w K mg base 4 Cc "set_price" 3 dN []:=
 Bj D.d_Net_set_price fM fun hr hu tk=>⟨_,(pss_cons (stY 3 fM (fQ (gB T D) hr (by decide) tk (pv 0) (pa_cons (pv 1) pa_nil)))
 (pss_cons (ps_expr (clY (kD T D) hr tk (pa_cons (pv 2) pa_nil)))
 (pss_one (ps_dput hu (fdY K (pv 0)) (pv 1) (mkY (ke T D) hr tk (pa_cons (pv 1) (pa_cons (fdY K (pv 3)) (pa_cons (fdY K (pv 3)) (pa_cons (fdY K (pv 3)) (pa_cons (fdY K (pv 3)) (pa_cons (pv 2) pa_nil))))))) rfl)))),(RS.seq (aad (RE.meth T.m_Net .nil aaa (RA.cons aaa RA.nil) (.cons Many.nil) rfl) RG.name)
 (RS.seq (RS.drop (RE.call .nil (RA.cons aaa RA.nil) (.cons Many.nil) rfl))
 (aaj (RE.fld T.f_rows_Net aaa) aaa (RE.frz (RE.make T.m_Tie .nil (RA.cons aaa (RA.cons (RE.fld T.f_tail_Tie aaa) (RA.cons (RE.fld T.f_head_Tie aaa) (RA.cons (RE.fld T.f_least_Tie aaa) (RA.cons (RE.fld T.f_most_Tie aaa) (RA.cons aaa RA.nil)))))) (.cons (.cons (.cons (.cons (.cons (.cons Many.nil)))))) rfl)))))⟩
noncomputable def cV:SD→R Fl:=
 (ai (aw (ag aF [] (zA (aa 2) (zA (aa 3) (zA (zC (.int 6)) zA0)))) (zSt 5))
 (ai (aw (z2 oIx (z1 bt (z2 oIx (aa 1) (zC (.str "ties")))) (z2 bN (aa 5) (z1 cS (z2 oIx (aa 1) (zC (.str "ties")))))) (zSt 6))
 (ai (aw (z2 oIx (z2 oIx (aa 1) (zC (.str "ties"))) (aa 6)) (jD [7,8,9,10,11]))
 (ai (bb (zB (z2 oEq (aa 4) (zC (.int 0)))) (ai (aH (zM2 yX (oB2 se) (z2 oIx (aa 1) (zC (.str "ties"))) (aa 6)))
 (aN (z2 (kK false) (bL "Net" "drop_tie" eI [] (aa 0) (zA (aa 6) zA0)) (zC .non)))) au)
 (ai (bb (zB (z2 oEq (aa 4) (zC (.int 1)))) (ai (aw (ag cj [] (zA (aa 2) (zA (aa 3) (zA (zC (.int 7)) zA0)))) (zSt 9))
 (ai (aw (z2 oIx (fS (zA (zC .non) (zA (aa 9) (zA (z2 rG (z2 qK (zC (.int 10)) (zC (.int 60))) (z2 bX (aa 9) (ag cj [] (zA (aa 2) (zA (aa 3) (zA (zC (.int 8)) zA0)))))) zA0)))) (z2 bN (z2 iF (aa 5) (zC (.int 40))) (zC (.int 3)))) (zSt 10))
 (ai (dg (z2 oIx (aa 1) (zC (.str "ties"))) (aa 6) (fR (zA (aa 7) (zA (aa 8) (zA (aa 9) (zA (aa 10) (zA (aa 11) zA0)))))))
 (aN (z2 (kK false) (bL "Net" "set_room" ax [] (aa 0) (zA (aa 6) (zA (aa 9) (zA (aa 10) zA0)))) (zC .non)))))) au)
 (ai (aw (z2 mT (ag cj [] (zA (aa 2) (zA (aa 3) (zA (zC (.int 9)) zA0)))) (z2 oIx (fS (zA (zC (.int 1)) (zA (z1 yC (zC (.int 1))) zA0))) (z2 bN (z2 iF (aa 5) (zC (.int 120))) (zC (.int 2))))) (zSt 11))
 (ai (dg (z2 oIx (aa 1) (zC (.str "ties"))) (aa 6) (fR (zA (aa 7) (zA (aa 8) (zA (aa 9) (zA (aa 10) (zA (aa 11) zA0)))))))
 (aN (z2 (kK false) (bL "Net" "set_price" dN [] (aa 0) (zA (aa 6) (zA (aa 11) zA0))) (zC .non))))))))))
noncomputable def gQ:FnV:=zFn N_Lchanged.length cV
theorem wW:CalZ P w K mg base 5 "_law_changed" 5 gQ []:=
 fT D.d_Lchanged aS fun hr hu tk=>⟨_,(pss_cons (stY 5 aS (clY (bU T D) hr tk (pa_cons (pv 2) (pa_cons (pv 3) (pa_cons pe_int pa_nil)))))
 (pss_cons (stY 6 aS (ixY K hr (bnY (fj (K:=K) rfl) T.z_sorted (pa_cons (ixY K hr (pv 1) pe_str) pa_nil)) (pe_op op_mod (pv 5) (bnY (aG (K:=K)) T.z_len (pa_cons (ixY K hr (pv 1) pe_str) pa_nil)))))
 (pss_cons (ps_asg (ixY K hr (ixY K hr (pv 1) pe_str) (pv 6)) (fN (K:=K) (n:=5) rfl (pgs_cons (gnY 7 aS) (pgs_cons (gnY 8 aS) (pgs_cons (gnY 9 aS) (pgs_cons (gnY 10 aS) (pgs_cons (gnY 11 aS) pgs_nil)))))))
 (pss_cons (ps_if (ctY (eqY K hr) (pv 4) pe_int) (pss_cons (ps_expr (pe_dpop1 (ixY K hr (pv 1) pe_str) (pv 6) ⟨rfl,rfl,rfl,rfl⟩))
 (pss_one (ps_ret (cmY nz (fQ (nq T D) hr (by decide) tk (pv 0) (pa_cons (pv 6) pa_nil)) pe_non)))) pss_nil)
 (pss_cons (ps_if (ctY (eqY K hr) (pv 4) pe_int) (pss_cons (stY 9 aS (clY (dX T D) hr tk (pa_cons (pv 2) (pa_cons (pv 3) (pa_cons pe_int pa_nil)))))
 (pss_cons (stY 10 aS (ixY K hr (pe_lst (pa_cons pe_non (pa_cons (pv 9) (pa_cons (bnY (jY rfl) T.z_min (pa_cons (pe_op fC pe_int pe_int) (pa_cons (pe_op (ay (K:=K)) (pv 9) (clY (dX T D) hr tk (pa_cons (pv 2) (pa_cons (pv 3) (pa_cons pe_int pa_nil))))) pa_nil))) pa_nil)))) (pe_op op_mod (pe_op op_fdivW (pv 5) pe_int) pe_int)))
 (pss_cons (ps_dput hu (ixY K hr (pv 1) pe_str) (pv 6) (pe_tup (pa_cons (pv 7) (pa_cons (pv 8) (pa_cons (pv 9) (pa_cons (pv 10) (pa_cons (pv 11) pa_nil)))))) rfl)
 (pss_one (ps_ret (cmY nz (fQ (eP T D) hr (by decide) tk (pv 0) (pa_cons (pv 6) (pa_cons (pv 9) (pa_cons (pv 10) pa_nil)))) pe_non)))))) pss_nil)
 (pss_cons (stY 11 aS (pe_op cR (clY (dX T D) hr tk (pa_cons (pv 2) (pa_cons (pv 3) (pa_cons pe_int pa_nil)))) (ixY K hr (pe_lst (pa_cons pe_int (pa_cons (pe_un un_neg pe_int) pa_nil))) (pe_op op_mod (pe_op op_fdivW (pv 5) pe_int) pe_int))))
 (pss_cons (ps_dput hu (ixY K hr (pv 1) pe_str) (pv 6) (pe_tup (pa_cons (pv 7) (pa_cons (pv 8) (pa_cons (pv 9) (pa_cons (pv 10) (pa_cons (pv 11) pa_nil)))))) rfl)
 (pss_one (ps_ret (cmY nz (fQ (mI T D) hr (by decide) tk (pv 0) (pa_cons (pv 6) (pa_cons (pv 11) pa_nil))) pe_non)))))))))),(RS.seq (aad (RE.call .nil (RA.cons aaa (RA.cons aaa (RA.cons aab RA.nil))) (.cons (.cons (.cons Many.nil))) rfl) RG.name)
 (RS.seq (aad (aac aO (RE.c1 jd (aac aO aaa aae)) (aac bc aaa (RE.c1 bY (aac aO aaa aae)))) RG.name)
 (RS.seq (aad (aac aO (aac aO aaa aae) aaa) (RG.names (is:= [7,8,9,10,11]) rfl))
 (RS.seq (aaf (RT.val (aac je aaa aab)) (RS.seq (RS.drop (RE.dpop (aac aO aaa aae) aaa))
 (RS.ret (aac (pb (neg:=false)) (RE.meth T.m_Net .nil aaa (RA.cons aaa RA.nil) (.cons Many.nil) rfl) aah))) RS.next)
 (RS.seq (aaf (RT.val (aac je aaa aab)) (RS.seq (aad (RE.call .nil (RA.cons aaa (RA.cons aaa (RA.cons aab RA.nil))) (.cons (.cons (.cons Many.nil))) rfl) RG.name)
 (RS.seq (aad (aac aO (RE.lst (RA.cons aah (RA.cons aaa (RA.cons (RE.c2 wy (aac oZ aab aab) (aac bz aaa (RE.call .nil (RA.cons aaa (RA.cons aaa (RA.cons aab RA.nil))) (.cons (.cons (.cons Many.nil))) rfl))) RA.nil))) (.cons (.cons (.cons Many.nil))) (by decide)) (aac bc (aac eX aaa aab) aab)) RG.name)
 (RS.seq (aaj (aac aO aaa aae) aaa (RE.tup (RA.cons aaa (RA.cons aaa (RA.cons aaa (RA.cons aaa (RA.cons aaa RA.nil))))) (.cons (.cons (.cons (.cons (.cons Many.nil))))) (by decide)))
 (RS.ret (aac (pb (neg:=false)) (RE.meth T.m_Net .nil aaa (RA.cons aaa (RA.cons aaa (RA.cons aaa RA.nil))) (.cons (.cons (.cons Many.nil))) rfl) aah))))) RS.next)
 (RS.seq (aad (aac jU (RE.call .nil (RA.cons aaa (RA.cons aaa (RA.cons aab RA.nil))) (.cons (.cons (.cons Many.nil))) rfl) (aac aO (RE.lst (RA.cons aab (RA.cons (RE.neg aab) RA.nil)) (.cons (.cons Many.nil)) (by decide)) (aac bc (aac eX aaa aab) aab))) RG.name)
 (RS.seq (aaj (aac aO aaa aae) aaa (RE.tup (RA.cons aaa (RA.cons aaa (RA.cons aaa (RA.cons aaa (RA.cons aaa RA.nil))))) (.cons (.cons (.cons (.cons (.cons Many.nil))))) (by decide)))
 (RS.ret (aac (pb (neg:=false)) (RE.meth T.m_Net .nil aaa (RA.cons aaa (RA.cons aaa RA.nil)) (.cons (.cons Many.nil)) rfl) aah)))))))))⟩
noncomputable def vj:SD→R Fl:=
 (ai (aw (z2 bN (ag aF [] (zA (aa 3) (zA (aa 4) (zA (zC (.int 0)) zA0)))) (zC (.int 10))) (zSt 5))
 (ai (bb (mV (zB (z2 oEq (z1 cS (z2 oIx (aa 2) (zC (.int 0)))) (zC (.int 5)))) (zB (z2 oGt (z1 cS (z2 oIx (aa 1) (zC (.str "names")))) (zC (.int 2))))) (aw (zC (.int 5)) (zSt 5)) au)
 (ai (aw (zLc (cZ (aR (aa 2))) (zSt 7) (zB (z2 (oIn true) (aa 7) (z2 oIx (aa 1) (zC (.str "names"))))) (aa 7) [7]) (zSt 6))
 (ai (bb (mV (zOr (zB (z2 oLt (aa 5) (zC (.int 3)))) (zB (z2 oLt (z1 cS (z2 oIx (aa 1) (zC (.str "names")))) (zC (.int 2))))) (mV (zB (z2 oNe (aa 6) (fS zA0))) (zB (z2 oLt (z1 cS (z2 oIx (aa 1) (zC (.str "names")))) (zC (.int 14)))))) (ai (aw (z2 oIx (aa 6) (z2 bN (ag aF [] (zA (aa 3) (zA (aa 4) (zA (zC (.int 1)) zA0)))) (z1 cS (aa 6)))) (zSt 7))
 (ai (aH (zM2 isL (oB2 aL) (z2 oIx (aa 1) (zC (.str "names"))) (aR (aa 7))))
 (aN (z2 (kK false) (bL "Net" "put_place" bg [] (aa 0) (zA (aa 7) zA0)) (zC .non))))) au)
 (ai (bb (mV (zB (z2 oLt (aa 5) (zC (.int 7)))) (mV (zB (z2 oGt (z1 cS (z2 oIx (aa 1) (zC (.str "names")))) (zC (.int 1)))) (zB (z2 oLt (z1 cS (z2 oIx (aa 1) (zC (.str "ties")))) (zC (.int 40)))))) (aN (ag bh [] (zA (aa 0) (zA (aa 1) (zA (aa 3) (zA (aa 4) zA0)))))) au)
 (ai (bb (zB (z2 oNe (z2 oIx (aa 1) (zC (.str "ties"))) mU)) (aN (ag gQ [] (zA (aa 0) (zA (aa 1) (zA (aa 3) (zA (aa 4) (zA (z2 bN (aa 5) (zC (.int 3))) zA0))))))) au)
 (aN (zC (.bl true)))))))))
noncomputable def om:FnV:=zFn N_Ldeed.length vj
theorem c_Ldeed:CalZ P w K mg base 7 "_law_deed" 5 om []:=
 fT D.d_Ldeed gT fun hr hu tk=>⟨_,(pss_cons (stY 5 gT (pe_op op_mod (clY (bU T D) hr tk (pa_cons (pv 3) (pa_cons (pv 4) (pa_cons pe_int pa_nil)))) pe_int))
 (pss_cons (ps_if (PW.pt (pw_and (ctY (eqY K hr) (bnY (aG (K:=K)) T.z_len (pa_cons (ixY K hr (pv 2) pe_int) pa_nil)) pe_int) (pw_and1 (ctY op_gt (bnY (aG (K:=K)) T.z_len (pa_cons (ixY K hr (pv 1) pe_str) pa_nil)) pe_int)))) (pss_one (stY 5 gT pe_int)) pss_nil)
 (pss_cons (slY 6 [("_law_name",7)] gT (pi_list (pv 2)) (gnY 7 gT) (pts_one (ctY (niY K hr) (pv 7) (ixY K hr (pv 1) pe_str))) (pv 7))
 (pss_cons (ps_if (PW.pt (pw_and (PW.pt (pw_or (ctY op_lt (pv 5) pe_int) (pw_or1 (ctY op_lt (bnY (aG (K:=K)) T.z_len (pa_cons (ixY K hr (pv 1) pe_str) pa_nil)) pe_int)))) (pw_and (ctY (neY K hr) (pv 6) (pe_lst pa_nil)) (pw_and1 (ctY op_lt (bnY (aG (K:=K)) T.z_len (pa_cons (ixY K hr (pv 1) pe_str) pa_nil)) pe_int))))) (pss_cons (stY 7 gT (ixY K hr (pv 6) (pe_op op_mod (clY (bU T D) hr tk (pa_cons (pv 3) (pa_cons (pv 4) (pa_cons pe_int pa_nil)))) (bnY (aG (K:=K)) T.z_len (pa_cons (pv 6) pa_nil)))))
 (pss_cons (ps_expr (pe_bm PySem.F.plainAttrs_list PySem.F.slot_list_append PySem.F.type_list_append mt_append (ixY K hr (pv 1) pe_str) (pa_cons (pv 7) pa_nil)))
 (pss_one (ps_ret (cmY nz (fQ (gE T D) hr (by decide) tk (pv 0) (pa_cons (pv 7) pa_nil)) pe_non))))) pss_nil)
 (pss_cons (ps_if (PW.pt (pw_and (ctY op_lt (pv 5) pe_int) (pw_and (ctY op_gt (bnY (aG (K:=K)) T.z_len (pa_cons (ixY K hr (pv 1) pe_str) pa_nil)) pe_int) (pw_and1 (ctY op_lt (bnY (aG (K:=K)) T.z_len (pa_cons (ixY K hr (pv 1) pe_str) pa_nil)) pe_int))))) (pss_one (ps_ret (clY (nN T D) hr tk (pa_cons (pv 0) (pa_cons (pv 1) (pa_cons (pv 3) (pa_cons (pv 4) pa_nil))))))) pss_nil)
 (pss_cons (ps_if (ctY (neY K hr) (ixY K hr (pv 1) pe_str) pe_dnewK) (pss_one (ps_ret (clY (wW T D) hr tk (pa_cons (pv 0) (pa_cons (pv 1) (pa_cons (pv 3) (pa_cons (pv 4) (pa_cons (pe_op op_mod (pv 5) pe_int) pa_nil)))))))) pss_nil)
 (pss_one (ps_ret pe_bl)))))))),(RS.seq (aad (aac bc (RE.call .nil (RA.cons aaa (RA.cons aaa (RA.cons aab RA.nil))) (.cons (.cons (.cons Many.nil))) rfl) aab) RG.name)
 (RS.seq (aaf (aam (RT.val (aac je (RE.c1 bY (aac aO aaa aab)) aab)) (RT.val (aac AU (RE.c1 bY (aac aO aaa aae)) aab))) (aad aab RG.name) RS.next)
 (RS.seq (aad (aal (is:= [7]) (RI.lst (RE.fix aaa)) RG.name (RT.val (aac (AS (neg:=true)) aaa (aac aO aaa aae))) aaa) RG.name)
 (RS.seq (aaf (aam (RT.or (RT.val (aac q_lt aaa aab)) (RT.val (aac q_lt (RE.c1 bY (aac aO aaa aae)) aab))) (aam (RT.val (aac xg aaa (RE.lst RA.nil Many.nil (by decide)))) (RT.val (aac q_lt (RE.c1 bY (aac aO aaa aae)) aab)))) (RS.seq (aad (aac aO aaa (aac bc (RE.call .nil (RA.cons aaa (RA.cons aaa (RA.cons aab RA.nil))) (.cons (.cons (.cons Many.nil))) rfl) (RE.c1 bY aaa))) RG.name)
 (RS.seq (RS.drop (RE.append (aac aO aaa aae) aaa))
 (RS.ret (aac (pb (neg:=false)) (RE.meth T.m_Net .nil aaa (RA.cons aaa RA.nil) (.cons Many.nil) rfl) aah)))) RS.next)
 (RS.seq (aaf (aam (RT.val (aac q_lt aaa aab)) (aam (RT.val (aac AU (RE.c1 bY (aac aO aaa aae)) aab)) (RT.val (aac q_lt (RE.c1 bY (aac aO aaa aae)) aab)))) (RS.ret (RE.call .nil (RA.cons aaa (RA.cons aaa (RA.cons aaa (RA.cons aaa RA.nil)))) (.cons (.cons (.cons (.cons Many.nil)))) rfl)) RS.next)
 (RS.seq (aaf (RT.val (aac xg (aac aO aaa aae) aan)) (RS.ret (RE.call .nil (RA.cons aaa (RA.cons aaa (RA.cons aaa (RA.cons aaa (RA.cons (aac bc aaa aab) RA.nil))))) (.cons (.cons (.cons (.cons (.cons Many.nil))))) rfl)) RS.next)
 (RS.ret aai)))))))⟩
noncomputable def kY:SD→R Fl:=
 (ai (aw (jE "Net" gP [] zA0) (zSt 2))
 (ai (aw (ie (Az (zP (.inr "names") (ie (fS zA0)) (zP (.inr "ties") (ie mU) (zP (.inr "given") (zC (.int 0)) zP0))))) (zSt 3))
 (ai (aw (zC (.bl true)) (zSt 4))
 (ai (eo (nS (aR (aa 0))) (jD [5,6]) (aw (fV (ag om [] (zA (aa 2) (zA (aa 3) (zA (aa 1) (zA (aa 6) (zA (aa 5) zA0)))))) (aa 4)) (zSt 4)))
 (aN (fR (zA (aa 2) (zA (aa 3) (zA (aa 4) zA0)))))))))
noncomputable def kO:FnV:=zFn N_Lbuilt.length kY
theorem BF:CalZ P w K mg base 8 "_law_built" 2 kO []:=
 fT D.d_Lbuilt dP fun hr hu tk=>⟨_,(pss_cons (stY 2 dP (m_mkZ0 (wV T D) hr (by decide) tk rfl))
 (pss_cons (stY 3 dP (pe_disp (pps_cons pe_str (pe_lst pa_nil) (pps_cons pe_str pe_dnewK (pps_cons pe_str pe_int pps_nil))) (by rfl) (by rfl) (fun z=>by cases z) (by decide)))
 (pss_cons (stY 4 dP pe_bl)
 (pss_cons (ps_for (passes_of rfl) rfl (pi_enum rfl T.z_enumerate (pa_cons (pv 0) pa_nil)) (fN (K:=K) (n:=2) rfl (pgs_cons (gnY 5 dP) (pgs_cons (gnY 6 dP) pgs_nil))) (pss_one (stY 4 dP (pe_and (clY (c_Ldeed T D) hr tk (pa_cons (pv 2) (pa_cons (pv 3) (pa_cons (pv 1) (pa_cons (pv 6) (pa_cons (pv 5) pa_nil)))))) (pe_one (pv 4))))))
 (pss_one (ps_ret (pe_tup (pa_cons (pv 2) (pa_cons (pv 3) (pa_cons (pv 4) pa_nil)))))))))),(RS.seq (aad (RE.make T.m_Net .nil RA.nil Many.nil rfl) RG.name)
 (RS.seq (aad (RE.cell (RE.disp (RP.cons (k:=(.inr "names")) (RE.cell (RE.lst RA.nil Many.nil (by decide))) (RP.cons (k:=(.inr "ties")) (RE.cell aan) (RP.cons (k:=(.inr "given")) aab RP.nil))))) RG.name)
 (RS.seq (aad aai RG.name)
 (RS.seq (RS.for' (RI.enum (RE.fix aaa)) (RG.names (is:= [5,6]) rfl) (aad (RE.andV (RE.call .nil (RA.cons aaa (RA.cons aaa (RA.cons aaa (RA.cons aaa (RA.cons aaa RA.nil))))) (.cons (.cons (.cons (.cons (.cons Many.nil))))) rfl) aaa) RG.name))
 (RS.ret (RE.tup (RA.cons aaa (RA.cons aaa (RA.cons aaa RA.nil))) (.cons (.cons (.cons Many.nil))) (by decide)))))))⟩
noncomputable def jw:SD→R Fl:=
 (ai (aw (zLc (cZ (aR (aa 2))) (zSt 5) (zB (z2 (oIn true) (aa 5) (z2 oIx (aa 1) (zC (.str "names"))))) (aa 5) [5]) (zSt 4))
 (ai (eo (cZ (aR (zSl (aa 4) zNo (zPt (z2 mZ (zC (.int 14)) (z1 cS (z2 oIx (aa 1) (zC (.str "names"))))))))) (zSt 5) (ai (aH (bL "Net" "put_place" bg [] (aa 0) (zA (aa 5) zA0)))
 (aH (zM2 isL (oB2 aL) (z2 oIx (aa 1) (zC (.str "names"))) (aR (aa 5))))))
 (ai (eo (Ap (zA (z2 mZ (zC (.int 40)) (z1 cS (z2 oIx (aa 1) (zC (.str "ties"))))) zA0)) (zSt 6) (bb (cK (zB (ag bh [] (zA (aa 0) (zA (aa 1) (zA (z2 bX (aa 3) (aa 6)) (zA (aa 6) zA0))))))) (aN (zC (.bl false))) au))
 (aN (zC (.bl true))))))
noncomputable def iV:FnV:=zFn N_Lfilled.length jw
theorem Ad:CalZ P w K mg base 7 "_law_filled" 4 iV []:=
 fT D.d_Lfilled eV fun hr hu tk=>⟨_,(pss_cons (slY 4 [("_law_name",5)] eV (pi_list (pv 2)) (gnY 5 eV) (pts_one (ctY (niY K hr) (pv 5) (ixY K hr (pv 1) pe_str))) (pv 5))
 (pss_cons (ps_for (passes_of rfl) rfl (pi_list (pe_slice (xb (K:=K)) (pv 4) po_none (po_some (pe_op op_sub pe_int (bnY (aG (K:=K)) T.z_len (pa_cons (ixY K hr (pv 1) pe_str) pa_nil)))))) (gnY 5 eV) (pss_cons (ps_expr (fQ (gE T D) hr (by decide) tk (pv 0) (pa_cons (pv 5) pa_nil)))
 (pss_one (ps_expr (pe_bm PySem.F.plainAttrs_list PySem.F.slot_list_append PySem.F.type_list_append mt_append (ixY K hr (pv 1) pe_str) (pa_cons (pv 5) pa_nil))))))
 (pss_cons (ps_for (passes_of rfl) rfl (pi_range1 rfl T.z_range (pa_cons (pe_op op_sub pe_int (bnY (aG (K:=K)) T.z_len (pa_cons (ixY K hr (pv 1) pe_str) pa_nil))) pa_nil)) (gnY 6 eV) (pss_one (ps_if (pt_not (pt_val (clY (nN T D) hr tk (pa_cons (pv 0) (pa_cons (pv 1) (pa_cons (pe_op (ay (K:=K)) (pv 3) (pv 6)) (pa_cons (pv 6) pa_nil))))))) (pss_one (ps_ret pe_bl)) pss_nil)))
 (pss_one (ps_ret pe_bl))))),(RS.seq (aad (aal (is:= [5]) (RI.lst (RE.fix aaa)) RG.name (RT.val (aac (AS (neg:=true)) aaa (aac aO aaa aae))) aaa) RG.name)
 (RS.seq (RS.for' (RI.lst (RE.fix (RE.sl aaa RO.no (RO.part (aac mY aab (RE.c1 bY (aac aO aaa aae))))))) RG.name (RS.seq (RS.drop (RE.meth T.m_Net .nil aaa (RA.cons aaa RA.nil) (.cons Many.nil) rfl))
 (RS.drop (RE.append (aac aO aaa aae) aaa))))
 (RS.seq (RS.for' (aaq (RA.cons (aac mY aab (RE.c1 bY (aac aO aaa aae))) RA.nil)) RG.name (aaf (aag (RT.val (RE.call .nil (RA.cons aaa (RA.cons aaa (RA.cons (aac bz aaa aaa) (RA.cons aaa RA.nil)))) (.cons (.cons (.cons (.cons Many.nil)))) rfl))) (RS.ret aai) RS.next))
 (RS.ret aai))))⟩
noncomputable def kX:SD→R Fl:=
 (ai (eo (cZ (aR (z1 bt (z2 oIx (aa 1) (zC (.str "ties")))))) (zSt 2) (ai (aw (z2 oIx (z2 oIx (aa 1) (zC (.str "ties"))) (aa 2)) (jD [3,4,5,6,7]))
 (ai (dg (z2 oIx (aa 1) (zC (.str "ties"))) (aa 2) (fR (zA (aa 3) (zA (aa 4) (zA (zC (.int 0)) (zA (zC .non) (zA (aa 7) zA0)))))))
 (aH (bL "Net" "set_room" ax [] (aa 0) (zA (aa 2) (zA (zC (.int 0)) (zA (zC .non) zA0))))))))
 (aN (z1 eY (sF (z2 oIx (aa 1) (zC (.str "ties"))) (zSt 2) fm (fR (zA (aa 2) (zA (zC (.int 0)) zA0))) [2]))))
noncomputable def eE:FnV:=zFn N_Lfreed.length kX
theorem wg:CalZ P w K mg base 5 "_law_freed" 2 eE []:=
 fT D.d_Lfreed sc_Lfreed fun hr hu tk=>⟨_,(pss_cons (ps_for (passes_of rfl) rfl (pi_list (bnY (fj (K:=K) rfl) T.z_sorted (pa_cons (ixY K hr (pv 1) pe_str) pa_nil))) (gnY 2 sc_Lfreed) (pss_cons (ps_asg (ixY K hr (ixY K hr (pv 1) pe_str) (pv 2)) (fN (K:=K) (n:=5) rfl (pgs_cons (gnY 3 sc_Lfreed) (pgs_cons (gnY 4 sc_Lfreed) (pgs_cons (gnY 5 sc_Lfreed) (pgs_cons (gnY 6 sc_Lfreed) (pgs_cons (gnY 7 sc_Lfreed) pgs_nil)))))))
 (pss_cons (ps_dput hu (ixY K hr (pv 1) pe_str) (pv 2) (pe_tup (pa_cons (pv 3) (pa_cons (pv 4) (pa_cons pe_int (pa_cons pe_non (pa_cons (pv 7) pa_nil)))))) rfl)
 (pss_one (ps_expr (fQ (eP T D) hr (by decide) tk (pv 0) (pa_cons (pv 2) (pa_cons pe_int (pa_cons pe_non pa_nil)))))))))
 (pss_one (ps_ret (tyY (jr (K:=K) rfl) T.z_dict (pa_cons (ru (pe_lock (pe_lc (own:= [("_law_number",2)]) (g:=gName 2) (tt:=tYes) rfl sc_Lfreed.nd (pi_keys (ixY K hr (pv 1) pe_str)) (blkOk_by (N:=N_Lfreed) (sc:=defScope jb) (own:= [("_law_number",2)]) (by decide+kernel)) (fun _ _ _ _ _=>(gnY 2 sc_Lfreed)) (fun _ _ _ _ _=>pts_nil) (fun _ _ _ _ _=>(pe_tup (pa_cons (pv 2) (pa_cons pe_int pa_nil)))))) (pe_lc (own:= [("_law_number",2)]) (g:=gName 2) (tt:=tYes) rfl sc_Lfreed.nd (pi_keys (tV (ixY K hr (pv 1) pe_str))) (blkOk_by (N:=N_Lfreed) (sc:=defScope jb) (own:= [("_law_number",2)]) (by decide+kernel)) (fun _ _ _ _ _=>(gnY 2 sc_Lfreed)) (fun _ _ _ _ _=>pts_nil) (fun _ _ _ _ _=>(pe_tup (pa_cons (pv 2) (pa_cons pe_int pa_nil)))))) pa_nil))))),(RS.seq (RS.for' (RI.lst (RE.fix (RE.c1 jd (aac aO aaa aae)))) RG.name (RS.seq (aad (aac aO (aac aO aaa aae) aaa) (RG.names (is:= [3,4,5,6,7]) rfl))
 (RS.seq (aaj (aac aO aaa aae) aaa (RE.tup (RA.cons aaa (RA.cons aaa (RA.cons aab (RA.cons aah (RA.cons aaa RA.nil))))) (.cons (.cons (.cons (.cons (.cons Many.nil))))) (by decide)))
 (RS.drop (RE.meth T.m_Net .nil aaa (RA.cons aaa (RA.cons aab (RA.cons aah RA.nil))) (.cons (.cons (.cons Many.nil))) rfl)))))
 (RS.ret (RE.c1 rj (RE.lcDE (is:= [2]) (aac aO aaa aae) RG.name aak (RE.tup (RA.cons aaa (RA.cons aab RA.nil)) (.cons (.cons Many.nil)) (by decide))))))⟩
noncomputable def qy:SD→R Fl:=
 (ai (bb (zB (z2 oEq (aa 1) (fS zA0))) (aN (zC (.int 0))) au)
 (ai (aw (z2 oIx (aa 1) (z2 bN (aa 2) (z1 cS (aa 1)))) (zSt 3))
 (ai (eo (cZ (aR (z1 (ba ["Part"] "numbers") (aa 3)))) (zSt 4) (dg (aa 0) (aa 4) (z2 mZ (z2 oIx (aa 0) (aa 4)) (z1 (ba ["Part"] "amount") (aa 3)))))
 (aN (z2 mT (z1 (ba ["Part"] "amount") (aa 3)) (z1 Av (qL (z1 (ba ["Part"] "is_ring") (aa 3)))))))))
noncomputable def ly:FnV:=zFn N_Lless.length qy
theorem c_Lless:CalZ P w K mg base 1 "_law_less" 3 ly []:=
 fT D.d_Lless oN fun hr hu tk=>⟨_,(pss_cons (ps_if (ctY (eqY K hr) (pv 1) (pe_lst pa_nil)) (pss_one (ps_ret pe_int)) pss_nil)
 (pss_cons (stY 3 oN (ixY K hr (pv 1) (pe_op op_mod (pv 2) (bnY (aG (K:=K)) T.z_len (pa_cons (pv 1) pa_nil)))))
 (pss_cons (ps_for (passes_of rfl) rfl (pi_list (fdY K (pv 3))) (gnY 4 oN) (pss_one (ps_dput hu (pv 0) (pv 4) (pe_op op_sub (ixY K hr (pv 0) (pv 4)) (fdY K (pv 3))) rfl)))
 (pss_one (ps_ret (pe_op cR (fdY K (pv 3)) (tyY uX T.z_int (pa_cons (pe_not (fdY K (pv 3))) pa_nil)))))))),(RS.seq (aaf (RT.val (aac je aaa (RE.lst RA.nil Many.nil (by decide)))) (RS.ret aab) RS.next)
 (RS.seq (aad (aac aO aaa (aac bc aaa (RE.c1 bY aaa))) RG.name)
 (RS.seq (RS.for' (RI.lst (RE.fix (RE.fld T.f_numbers_Part aaa))) RG.name (aaj aaa aaa (aac mY (aac aO aaa aaa) (RE.fld T.f_amount_Part aaa))))
 (RS.ret (aac jU (RE.fld T.f_amount_Part aaa) (RE.c1 q_int (aap (RE.fld T.f_is_ring_Part aaa))))))))⟩
noncomputable def vg:SD→R Fl:=
 (aN (zLc (cZ (aR (z1 bt (z2 oIx (aa 0) (zC (.str "ties")))))) (zSt 1) fm (z2 bX (fR (zA (aa 1) zA0)) (z2 oIx (z2 oIx (aa 0) (zC (.str "ties"))) (aa 1))) [1]))
noncomputable def sM:FnV:=zFn N_Lrows.length vg
theorem c_Lrows:CalZ P w K mg base 1 "_law_rows" 1 sM []:=
 fT D.d_Lrows oM fun hr hu tk=>⟨_,(pss_one (ps_ret (lcY [("_law_number",1)] oM (pi_list (bnY (fj (K:=K) rfl) T.z_sorted (pa_cons (ixY K hr (pv 0) pe_str) pa_nil))) (gnY 1 oM) pts_nil (pe_op (ay (K:=K)) (pe_tup (pa_cons (pv 1) pa_nil)) (ixY K hr (ixY K hr (pv 0) pe_str) (pv 1)))))),(RS.ret (aal (is:= [1]) (RI.lst (RE.fix (RE.c1 jd (aac aO aaa aae)))) RG.name aak (aac bz (RE.tup (RA.cons aaa RA.nil) (.cons Many.nil) (by decide)) (aac aO (aac aO aaa aae) aaa))))⟩
noncomputable def qw:SD→R Fl:=
 (ai (aw (fS zA0) (zSt 4))
 (ai (eo (Ap (zA (zC (.int 6)) zA0)) (zSt 5) (ai (aw (zLc (cZ (aR (ag sM [] (zA (aa 0) zA0)))) (zSt 7) (zB (z2 oEq (z2 oIx (aa 7) (zC (.int 1))) (aa 3))) (aa 7) [7]) (zSt 6))
 (ai (bb (zOr (zB (z2 oEq (aa 6) (fS zA0))) (zB (z2 oEq (z2 bN (ag aF [] (zA (aa 1) (zA (aa 2) (zA (z2 bX (zC (.int 70)) (aa 5)) zA0)))) (zC (.int 7))) (zC (.int 0))))) (aN (fR (zA (aa 4) (zA (aa 3) zA0)))) au)
 (ai (aw (z2 oIx (aa 6) (z2 bN (ag aF [] (zA (aa 1) (zA (aa 2) (zA (z2 bX (zC (.int 80)) (aa 5)) zA0)))) (z1 cS (aa 6)))) (zSt 7))
 (ai (aH (zM2 isL (oB2 aL) (aa 4) (aR (z2 oIx (aa 7) (zC (.int 0))))))
 (aw (z2 oIx (aa 7) (zC (.int 2))) (zSt 3)))))))
 (aN (fR (zA (aa 4) (zA (aa 3) zA0))))))
noncomputable def sN:FnV:=zFn N_Lroad.length qw
theorem c_Lroad:CalZ P w K mg base 2 "_law_road" 4 sN []:=
 fT D.d_Lroad fy fun hr hu tk=>⟨_,(pss_cons (stY 4 fy (pe_lst pa_nil))
 (pss_cons (ps_for (passes_of rfl) rfl (pi_range1 rfl T.z_range (pa_cons pe_int pa_nil)) (gnY 5 fy) (pss_cons (slY 6 [("_law_row",7)] fy (pi_list (clY (c_Lrows T D) hr tk (pa_cons (pv 0) pa_nil))) (gnY 7 fy) (pts_one (ctY (eqY K hr) (ixY K hr (pv 7) pe_int) (pv 3))) (pv 7))
 (pss_cons (ps_if (PW.pt (pw_or (ctY (eqY K hr) (pv 6) (pe_lst pa_nil)) (pw_or1 (ctY (eqY K hr) (pe_op op_mod (clY (bU T D) hr tk (pa_cons (pv 1) (pa_cons (pv 2) (pa_cons (pe_op (ay (K:=K)) pe_int (pv 5)) pa_nil)))) pe_int) pe_int)))) (pss_one (ps_ret (pe_tup (pa_cons (pv 4) (pa_cons (pv 3) pa_nil))))) pss_nil)
 (pss_cons (stY 7 fy (ixY K hr (pv 6) (pe_op op_mod (clY (bU T D) hr tk (pa_cons (pv 1) (pa_cons (pv 2) (pa_cons (pe_op (ay (K:=K)) pe_int (pv 5)) pa_nil)))) (bnY (aG (K:=K)) T.z_len (pa_cons (pv 6) pa_nil)))))
 (pss_cons (ps_expr (pe_bm PySem.F.plainAttrs_list PySem.F.slot_list_append PySem.F.type_list_append mt_append (pv 4) (pa_cons (ixY K hr (pv 7) pe_int) pa_nil)))
 (pss_one (stY 3 fy (ixY K hr (pv 7) pe_int))))))))
 (pss_one (ps_ret (pe_tup (pa_cons (pv 4) (pa_cons (pv 3) pa_nil))))))),(RS.seq (aad (RE.lst RA.nil Many.nil (by decide)) RG.name)
 (RS.seq (RS.for' (aaq (RA.cons aab RA.nil)) RG.name (RS.seq (aad (aal (is:= [7]) (RI.lst (RE.fix (RE.call .nil (RA.cons aaa RA.nil) (.cons Many.nil) rfl))) RG.name (RT.val (aac je (aac aO aaa aab) aaa)) aaa) RG.name)
 (RS.seq (aaf (RT.or (RT.val (aac je aaa (RE.lst RA.nil Many.nil (by decide)))) (RT.val (aac je (aac bc (RE.call .nil (RA.cons aaa (RA.cons aaa (RA.cons (aac bz aab aaa) RA.nil))) (.cons (.cons (.cons Many.nil))) rfl) aab) aab))) (RS.ret (RE.tup (RA.cons aaa (RA.cons aaa RA.nil)) (.cons (.cons Many.nil)) (by decide))) RS.next)
 (RS.seq (aad (aac aO aaa (aac bc (RE.call .nil (RA.cons aaa (RA.cons aaa (RA.cons (aac bz aab aaa) RA.nil))) (.cons (.cons (.cons Many.nil))) rfl) (RE.c1 bY aaa))) RG.name)
 (RS.seq (RS.drop (RE.append aaa (aac aO aaa aab)))
 (aad (aac aO aaa aab) RG.name))))))
 (RS.ret (RE.tup (RA.cons aaa (RA.cons aaa RA.nil)) (.cons (.cons Many.nil)) (by decide)))))⟩
noncomputable def qx:SD→R Fl:=
 (ai (aw (ag aF [] (zA (aa 3) (zA (aa 4) (zA (zC (.int 65)) zA0)))) (zSt 5))
 (ai (aw (z2 oIx (fS (zA (z2 oIx (aa 2) (zC (.int 0))) (zA (z2 oIx (z2 oIx (aa 0) (zC (.str "names"))) (z2 bN (aa 5) (z1 cS (z2 oIx (aa 0) (zC (.str "names")))))) zA0))) (z2 bN (z2 iF (aa 5) (zC (.int 14))) (zC (.int 2)))) (zSt 6))
 (ai (aw (ag sN [] (zA (aa 0) (zA (aa 3) (zA (aa 4) (zA (aa 6) zA0))))) (jD [7,8]))
 (ai (bb (zOr (zB (z2 oEq (aa 7) (fS zA0))) (mV (zB (z2 oNe (aa 8) (aa 6))) (zB (z2 oNe (fR (zA (aa 6) (zA (aa 8) zA0))) (aa 2))))) (aN (zC (.int 0))) au)
 (ai (aw (z2 bX (zC (.int 1)) (ag cj [] (zA (aa 3) (zA (aa 4) (zA (zC (.int 90)) zA0))))) (zSt 9))
 (ai (eo (cZ (aR (aa 7))) (zSt 10) (dg (aa 1) (aa 10) (z2 bX (z2 oIx (aa 1) (aa 10)) (aa 9))))
 (aN (z2 mT (aa 9) (z1 Av (z2 oNe (aa 8) (aa 6)))))))))))
noncomputable def lx:FnV:=zFn N_Lmore.length qx
theorem c_Lmore:CalZ P w K mg base 3 "_law_more" 5 lx []:=
 fT D.d_Lmore fA fun hr hu tk=>⟨_,(pss_cons (stY 5 fA (clY (bU T D) hr tk (pa_cons (pv 3) (pa_cons (pv 4) (pa_cons pe_int pa_nil)))))
 (pss_cons (stY 6 fA (ixY K hr (pe_lst (pa_cons (ixY K hr (pv 2) pe_int) (pa_cons (ixY K hr (ixY K hr (pv 0) pe_str) (pe_op op_mod (pv 5) (bnY (aG (K:=K)) T.z_len (pa_cons (ixY K hr (pv 0) pe_str) pa_nil)))) pa_nil))) (pe_op op_mod (pe_op op_fdivW (pv 5) pe_int) pe_int)))
 (pss_cons (ps_asg (clY (c_Lroad T D) hr tk (pa_cons (pv 0) (pa_cons (pv 3) (pa_cons (pv 4) (pa_cons (pv 6) pa_nil))))) (fN (K:=K) (n:=2) rfl (pgs_cons (gnY 7 fA) (pgs_cons (gnY 8 fA) pgs_nil))))
 (pss_cons (ps_if (PW.pt (pw_or (ctY (eqY K hr) (pv 7) (pe_lst pa_nil)) (pw_or1 (PW.pt (pw_and (ctY (neY K hr) (pv 8) (pv 6)) (pw_and1 (ctY (neY K hr) (pe_tup (pa_cons (pv 6) (pa_cons (pv 8) pa_nil))) (pv 2)))))))) (pss_one (ps_ret pe_int)) pss_nil)
 (pss_cons (stY 9 fA (pe_op (ay (K:=K)) pe_int (clY (dX T D) hr tk (pa_cons (pv 3) (pa_cons (pv 4) (pa_cons pe_int pa_nil))))))
 (pss_cons (ps_for (passes_of rfl) rfl (pi_list (pv 7)) (gnY 10 fA) (pss_one (ps_dput hu (pv 1) (pv 10) (pe_op (ay (K:=K)) (ixY K hr (pv 1) (pv 10)) (pv 9)) rfl)))
 (pss_one (ps_ret (pe_op cR (pv 9) (tyY uX T.z_int (pa_cons (cmY (neY K hr) (pv 8) (pv 6)) pa_nil))))))))))),(RS.seq (aad (RE.call .nil (RA.cons aaa (RA.cons aaa (RA.cons aab RA.nil))) (.cons (.cons (.cons Many.nil))) rfl) RG.name)
 (RS.seq (aad (aac aO (RE.lst (RA.cons (aac aO aaa aab) (RA.cons (aac aO (aac aO aaa aae) (aac bc aaa (RE.c1 bY (aac aO aaa aae)))) RA.nil)) (.cons (.cons Many.nil)) (by decide)) (aac bc (aac eX aaa aab) aab)) RG.name)
 (RS.seq (aad (RE.call .nil (RA.cons aaa (RA.cons aaa (RA.cons aaa (RA.cons aaa RA.nil)))) (.cons (.cons (.cons (.cons Many.nil)))) rfl) (RG.names (is:= [7,8]) rfl))
 (RS.seq (aaf (RT.or (RT.val (aac je aaa (RE.lst RA.nil Many.nil (by decide)))) (aam (RT.val (aac xg aaa aaa)) (RT.val (aac xg (RE.tup (RA.cons aaa (RA.cons aaa RA.nil)) (.cons (.cons Many.nil)) (by decide)) aaa)))) (RS.ret aab) RS.next)
 (RS.seq (aad (aac bz aab (RE.call .nil (RA.cons aaa (RA.cons aaa (RA.cons aab RA.nil))) (.cons (.cons (.cons Many.nil))) rfl)) RG.name)
 (RS.seq (RS.for' (RI.lst (RE.fix aaa)) RG.name (aaj aaa aaa (aac bz (aac aO aaa aaa) aaa)))
 (RS.ret (aac jU aaa (RE.c1 q_int (aac xg aaa aaa))))))))))⟩
noncomputable def jv:SD→R Fl:=
 (eo (cZ (aR (z1 bt (aa 2)))) (zSt 4) (ai (aw (z2 oIx (z2 oIx (aa 1) (zC (.str "ties"))) (aa 4)) (jD [5,6,7,8,9]))
 (ai (aw (ag aF [] (zA (z2 bX (aa 3) (aa 4)) (zA (zC (.int 3)) (zA (zC (.int 130)) zA0)))) (zSt 10))
 (ai (aw (z2 oIx (fS (zA (zC (.int 0)) (zA (z2 bN (aa 10) (z2 bX (z2 rG (z2 oIx (aa 2) (aa 4)) (z2 qK (zC (.int 10)) (zC (.int 60)))) (zC (.int 1)))) (zA (z2 rG (z2 oIx (aa 2) (aa 4)) (z2 qK (zC (.int 10)) (zC (.int 60)))) zA0)))) (z2 bN (aa 10) (zC (.int 3)))) (zSt 7))
 (ai (aw (zC .non) (zSt 8))
 (ai (bb (mV (zB (z2 oEq (z2 bN (z2 iF (aa 10) (zC (.int 3))) (zC (.int 2))) (zC (.int 1)))) (zB (z2 oLe (z2 oIx (aa 2) (aa 4)) (z2 qK (zC (.int 10)) (zC (.int 60)))))) (aw (z2 rG (z2 qK (zC (.int 10)) (zC (.int 60))) (z2 bX (z2 oIx (aa 2) (aa 4)) (z2 bN (z2 iF (aa 10) (zC (.int 6))) (zC (.int 4))))) (zSt 8)) au)
 (ai (dg (z2 oIx (aa 1) (zC (.str "ties"))) (aa 4) (fR (zA (aa 5) (zA (aa 6) (zA (aa 7) (zA (aa 8) (zA (aa 9) zA0)))))))
 (aH (bL "Net" "set_room" ax [] (aa 0) (zA (aa 4) (zA (aa 7) (zA (aa 8) zA0))))))))))))
noncomputable def eT:FnV:=zFn N_Lroomed.length jv
theorem Ab:CalZ P w K mg base 5 "_law_roomed" 4 eT []:=
 fT D.d_Lroomed bo fun hr hu tk=>⟨_,(pss_one (ps_for (passes_of rfl) rfl (pi_list (bnY (fj (K:=K) rfl) T.z_sorted (pa_cons (pv 2) pa_nil))) (gnY 4 bo) (pss_cons (ps_asg (ixY K hr (ixY K hr (pv 1) pe_str) (pv 4)) (fN (K:=K) (n:=5) rfl (pgs_cons (gnY 5 bo) (pgs_cons (gnY 6 bo) (pgs_cons (gnY 7 bo) (pgs_cons (gnY 8 bo) (pgs_cons (gnY 9 bo) pgs_nil)))))))
 (pss_cons (stY 10 bo (clY (bU T D) hr tk (pa_cons (pe_op (ay (K:=K)) (pv 3) (pv 4)) (pa_cons pe_int (pa_cons pe_int pa_nil)))))
 (pss_cons (stY 7 bo (ixY K hr (pe_lst (pa_cons pe_int (pa_cons (pe_op op_mod (pv 10) (pe_op (ay (K:=K)) (bnY (jY rfl) T.z_min (pa_cons (ixY K hr (pv 2) (pv 4)) (pa_cons (pe_op fC pe_int pe_int) pa_nil))) pe_int)) (pa_cons (bnY (jY rfl) T.z_min (pa_cons (ixY K hr (pv 2) (pv 4)) (pa_cons (pe_op fC pe_int pe_int) pa_nil))) pa_nil)))) (pe_op op_mod (pv 10) pe_int)))
 (pss_cons (stY 8 bo pe_non)
 (pss_cons (ps_if (PW.pt (pw_and (ctY (eqY K hr) (pe_op op_mod (pe_op op_fdivW (pv 10) pe_int) pe_int) pe_int) (pw_and1 (ctY op_le (ixY K hr (pv 2) (pv 4)) (pe_op fC pe_int pe_int))))) (pss_one (stY 8 bo (bnY (jY rfl) T.z_min (pa_cons (pe_op fC pe_int pe_int) (pa_cons (pe_op (ay (K:=K)) (ixY K hr (pv 2) (pv 4)) (pe_op op_mod (pe_op op_fdivW (pv 10) pe_int) pe_int)) pa_nil))))) pss_nil)
 (pss_cons (ps_dput hu (ixY K hr (pv 1) pe_str) (pv 4) (pe_tup (pa_cons (pv 5) (pa_cons (pv 6) (pa_cons (pv 7) (pa_cons (pv 8) (pa_cons (pv 9) pa_nil)))))) rfl)
 (pss_one (ps_expr (fQ (eP T D) hr (by decide) tk (pv 0) (pa_cons (pv 4) (pa_cons (pv 7) (pa_cons (pv 8) pa_nil)))))))))))))),(RS.for' (RI.lst (RE.fix (RE.c1 jd aaa))) RG.name (RS.seq (aad (aac aO (aac aO aaa aae) aaa) (RG.names (is:= [5,6,7,8,9]) rfl))
 (RS.seq (aad (RE.call .nil (RA.cons (aac bz aaa aaa) (RA.cons aab (RA.cons aab RA.nil))) (.cons (.cons (.cons Many.nil))) rfl) RG.name)
 (RS.seq (aad (aac aO (RE.lst (RA.cons aab (RA.cons (aac bc aaa (aac bz (RE.c2 wy (aac aO aaa aaa) (aac oZ aab aab)) aab)) (RA.cons (RE.c2 wy (aac aO aaa aaa) (aac oZ aab aab)) RA.nil))) (.cons (.cons (.cons Many.nil))) (by decide)) (aac bc aaa aab)) RG.name)
 (RS.seq (aad aah RG.name)
 (RS.seq (aaf (aam (RT.val (aac je (aac bc (aac eX aaa aab) aab) aab)) (RT.val (aac q_le (aac aO aaa aaa) (aac oZ aab aab)))) (aad (RE.c2 wy (aac oZ aab aab) (aac bz (aac aO aaa aaa) (aac bc (aac eX aaa aab) aab))) RG.name) RS.next)
 (RS.seq (aaj (aac aO aaa aae) aaa (RE.tup (RA.cons aaa (RA.cons aaa (RA.cons aaa (RA.cons aaa (RA.cons aaa RA.nil))))) (.cons (.cons (.cons (.cons (.cons Many.nil))))) (by decide)))
 (RS.drop (RE.meth T.m_Net .nil aaa (RA.cons aaa (RA.cons aaa (RA.cons aaa RA.nil))) (.cons (.cons (.cons Many.nil))) rfl)))))))))⟩
noncomputable def iN:SD→R Fl:=
 (ai (aH (bL "Net" "need_place" aV [] (aa 0) (zA (aa 1) zA0)))
 (ai (aH (bL "Net" "need_place" aV [] (aa 0) (zA (aa 2) zA0)))
 (bb (zB (z2 oEq (aa 1) (aa 2))) cY au)))
noncomputable def dM:FnV:=zFn N_need_ends.length iN
theorem mH:CalZ P w K mg base 2 "need_ends" 3 dM []:=
 fT D.d_need_ends qV fun hr hu tk=>⟨_,(pss_cons (ps_expr (fQ (bS T D) hr (by decide) tk (pv 0) (pa_cons (pv 1) pa_nil)))
 (pss_cons (ps_expr (fQ (bS T D) hr (by decide) tk (pv 0) (pa_cons (pv 2) pa_nil)))
 (pss_one (ps_if (ctY (eqY K hr) (pv 1) (pv 2)) (pss_one ps_never) pss_nil)))),(RS.seq (RS.drop (RE.meth T.m_Net .nil aaa (RA.cons aaa RA.nil) (.cons Many.nil) rfl))
 (RS.seq (RS.drop (RE.meth T.m_Net .nil aaa (RA.cons aaa RA.nil) (.cons Many.nil) rfl))
 (aaf (RT.val (aac je aaa aaa)) RS.never RS.next)))⟩
noncomputable def ki:SD→R Fl:=
 (aN (zLc (cZ (aR (z1 bt (z1 iD (z1 (ba ["Net"] "rows") (aa 0)))))) (zSt 1) fm (z2 oIx (z1 (ba ["Net"] "rows") (aa 0)) (aa 1)) [1]))
noncomputable def cP:FnV:=zFn N_Net_ties.length ki
theorem hQ:MetZ P w K mg base 1 Cc "ties" 1 cP []:=
 Bj D.d_Net_ties ip fun hr hu tk=>⟨_,(pss_one (ps_ret (lcY [("number",1)] ip (pi_list (bnY (fj (K:=K) rfl) T.z_sorted (pa_cons (tyY (jq (K:=K) rfl) T.z_list (pa_cons (fdY K (pv 0)) pa_nil)) pa_nil))) (gnY 1 ip) pts_nil (ixY K hr (fdY K (pv 0)) (pv 1))))),(RS.ret (aal (is:= [1]) (RI.lst (RE.fix (RE.c1 jd (RE.c1 rh (RE.fld T.f_rows_Net aaa))))) RG.name aak (aac aO (RE.fld T.f_rows_Net aaa) aaa)))⟩
noncomputable def iO:SD→R Fl:=
 (aN (fV (ag bH [] (zA (aa 1) zA0)) (fV (z2 oLe (z1 (ba ["Tie"] "least") (aa 0)) (aa 1)) (zOrV (z2 (kK false) (z1 (ba ["Tie"] "most") (aa 0)) (zC .non)) (z2 oLe (aa 1) (z1 (ba ["Tie"] "most") (aa 0)))))))
noncomputable def ig:FnV:=zFn N_is_amount.length iO
theorem uZ:CalZ P w K mg base 2 "is_amount" 2 ig []:=
 fT D.d_is_amount qW fun hr hu tk=>⟨_,(pss_one (ps_ret (pe_and (clY (fk T D) hr tk (pa_cons (pv 1) pa_nil)) (pe_and (cmY op_le (fdY K (pv 0)) (pv 1)) (pe_one (pe_or (cmY nz (fdY K (pv 0)) pe_non) (pe_one (cmY op_le (pv 1) (fdY K (pv 0)))))))))),(RS.ret (RE.andV (RE.call .nil (RA.cons aaa RA.nil) (.cons Many.nil) rfl) (RE.andV (aac q_le (RE.fld T.f_least_Tie aaa) aaa) (RE.orV (aac (pb (neg:=false)) (RE.fld T.f_most_Tie aaa) aah) (aac q_le aaa (RE.fld T.f_most_Tie aaa))))))⟩
noncomputable def iM:SD→R Fl:=
 (ai (aw (bL "Net" "ties" cP [] (aa 0) zA0) (zSt 2))
 (ai (bb (zOr (cK (zB (z1 (pf .dict) (aa 1)))) (zOr (zB (z2 oNe (z1 cS (aa 1)) (z1 cS (aa 2)))) (cK (zB (z1 yF (xl 1 (zSt 4) fm (ag bH [] (zA (aa 4) zA0)) [4])))))) cY au)
 (ai (bb (cK (zB (z1 yF (zLc (cZ (aR (aa 2))) (zSt 3) fm (z2 (oIn false) (z1 (ba ["Tie"] "number") (aa 3)) (aa 1)) [3])))) cY au)
 (eo (cZ (aR (aa 2))) (zSt 3) (bb (cK (zB (ag ig [] (zA (aa 3) (zA (z2 oIx (aa 1) (z1 (ba ["Tie"] "number") (aa 3))) zA0))))) cY au)))))
noncomputable def dJ:FnV:=zFn N_need_flow.length iM
theorem mG:CalZ P w K mg base 3 "need_flow" 2 dJ []:=
 fT D.d_need_flow sc_need_flow fun hr hu tk=>⟨_,(pss_cons (stY 2 sc_need_flow (nB (hQ T D) hr (by decide) tk (pv 0)))
 (pss_cons (ps_if (PW.pt (pw_or (pt_not (pt_val (bnY (lY (K:=K)) T.z_isinstance (pa_cons (pv 1) (pa_cons (btY "dict" T.z_dict) pa_nil))))) (pw_or (ctY (neY K hr) (bnY (aG (K:=K)) T.z_len (pa_cons (pv 1) pa_nil)) (bnY (aG (K:=K)) T.z_len (pa_cons (pv 2) pa_nil))) (pw_or1 (pt_not (pt_val (bnY (cr_all rfl) T.z_all (pa_cons (ru (pe_lock (pe_lc (own:= [("number",4)]) (g:=gName 4) (tt:=tYes) rfl sc_need_flow.nd (pi_keys (pv 1)) (blkOk_by (N:=N_need_flow) (sc:=defScope dQ) (own:= [("number",4)]) (by decide+kernel)) (fun _ _ _ _ _=>(gnY 4 sc_need_flow)) (fun _ _ _ _ _=>pts_nil) (fun _ _ _ _ _=>(clY (fk T D) hr jI (pa_cons (pv 4) pa_nil))))) (pe_lc (own:= [("number",4)]) (g:=gName 4) (tt:=tYes) rfl sc_need_flow.nd (pi_keys (tV (pv 1))) (blkOk_by (N:=N_need_flow) (sc:=defScope dQ) (own:= [("number",4)]) (by decide+kernel)) (fun _ _ _ _ _=>(gnY 4 sc_need_flow)) (fun _ _ _ _ _=>pts_nil) (fun _ _ _ _ _=>(clY (fk T D) hr jI (pa_cons (pv 4) pa_nil))))) pa_nil)))))))) (pss_one ps_never) pss_nil)
 (pss_cons (ps_if (pt_not (pt_val (bnY (cr_all rfl) T.z_all (pa_cons (lcY [("tie",3)] sc_need_flow (pi_list (pv 2)) (gnY 3 sc_need_flow) pts_nil (cmY (inY K hr) (fdY K (pv 3)) (pv 1))) pa_nil)))) (pss_one ps_never) pss_nil)
 (pss_one (ps_for (passes_of rfl) rfl (pi_list (pv 2)) (gnY 3 sc_need_flow) (pss_one (ps_if (pt_not (pt_val (clY (uZ T D) hr tk (pa_cons (pv 3) (pa_cons (ixY K hr (pv 1) (fdY K (pv 3))) pa_nil))))) (pss_one ps_never) pss_nil))))))),(RS.seq (aad (RE.meth T.m_Net .nil aaa RA.nil Many.nil rfl) RG.name)
 (RS.seq (aaf (RT.or (aag (RT.val (RE.isi (t:= .dict) aaa))) (RT.or (RT.val (aac xg (RE.c1 bY aaa) (RE.c1 bY aaa))) (aag (RT.val (RE.c1 AV (RE.lcD (is:= [4]) RG.name aak (RE.call .nil (RA.cons aaa RA.nil) (.cons Many.nil) rfl))))))) RS.never RS.next)
 (RS.seq (aaf (aag (RT.val (RE.c1 AV (aal (is:= [3]) (RI.lst (RE.fix aaa)) RG.name aak (aac (AS (neg:=false)) (RE.fld T.f_number_Tie aaa) aaa))))) RS.never RS.next)
 (RS.for' (RI.lst (RE.fix aaa)) RG.name (aaf (aag (RT.val (RE.call .nil (RA.cons aaa (RA.cons (aac aO aaa (RE.fld T.f_number_Tie aaa)) RA.nil)) (.cons (.cons Many.nil)) rfl))) RS.never RS.next)))))⟩
noncomputable def gM:SD→R Fl:=
 (aN (z1 iD (z1 (ba ["Net"] "names") (aa 0))))
noncomputable def eC:FnV:=zFn N_Net_places.length gM
theorem kG:MetZ P w K mg base 1 Cc "places" 1 eC []:=
 Bj D.d_Net_places oL fun hr hu tk=>⟨_,(pss_one (ps_ret (tyY (jq (K:=K) rfl) T.z_list (pa_cons (fdY K (pv 0)) pa_nil)))),(RS.ret (RE.c1 rh (RE.fld T.f_names_Net aaa)))⟩
noncomputable def gF:SD→R Fl:=
 (ai (aw mU (zSt 2))
 (ai (eo (cZ (aR (bL "Net" "places" eC [] (aa 0) zA0))) (zSt 3) (dg (aa 2) (aa 3) (zC (.int 0))))
 (ai (eo (cZ (aR (bL "Net" "ties" cP [] (aa 0) zA0))) (zSt 4) (ai (jF gD bP (fun a b=>a - b) (aa 2) (z1 (ba ["Tie"] "tail") (aa 4)) (z2 oIx (aa 1) (z1 (ba ["Tie"] "number") (aa 4))))
 (jF gD bP (fun a b=>a+b) (aa 2) (z1 (ba ["Tie"] "head") (aa 4)) (z2 oIx (aa 1) (z1 (ba ["Tie"] "number") (aa 4))))))
 (aN (aa 2)))))
noncomputable def fW:FnV:=zFn N_spare_sums.length gF
theorem sv:CalZ P w K mg base 2 "spare_sums" 2 fW []:=
 fT D.d_spare_sums dt fun hr hu tk=>⟨_,(pss_cons (stY 2 dt pe_dnewK)
 (pss_cons (ps_for (passes_of rfl) rfl (pi_list (nB (kG T D) hr (by decide) tk (pv 0))) (gnY 3 dt) (pss_one (ps_dput hu (pv 2) (pv 3) pe_int rfl)))
 (pss_cons (ps_for (passes_of rfl) rfl (pi_list (nB (hQ T D) hr (by decide) tk (pv 0))) (gnY 4 dt) (pss_cons (ps_daug hu (pv 2) (fdY K (pv 4)) (ixY K hr (pv 1) (fdY K (pv 4))) in_sub (fun _ _ _=>rfl))
 (pss_one (ps_daug hu (pv 2) (fdY K (pv 4)) (ixY K hr (pv 1) (fdY K (pv 4))) in_add (fun _ _ _=>rfl)))))
 (pss_one (ps_ret (pv 2)))))),(RS.seq (aad aan RG.name)
 (RS.seq (RS.for' (RI.lst (RE.fix (RE.meth T.m_Net .nil aaa RA.nil Many.nil rfl))) RG.name (aaj aaa aaa aab))
 (RS.seq (RS.for' (RI.lst (RE.fix (RE.meth T.m_Net .nil aaa RA.nil Many.nil rfl))) RG.name (RS.seq (aao (f:=(fun a b=>a - b)) hd_Sub aaa (RE.fld T.f_tail_Tie aaa) (aac aO aaa (RE.fld T.f_number_Tie aaa)))
 (aao (f:=(fun a b=>a+b)) hd_Add aaa (RE.fld T.f_head_Tie aaa) (aac aO aaa (RE.fld T.f_number_Tie aaa)))))
 (RS.ret aaa))))⟩
noncomputable def gJ:SD→R Fl:=
 (ai (aH (ag dJ [] (zA (aa 0) (zA (aa 1) zA0))))
 (ai (aH (ag dM [] (zA (aa 0) (zA (aa 2) (zA (aa 3) zA0)))))
 (ai (aw (ag fW [] (zA (aa 0) (zA (aa 1) zA0))) (zSt 4))
 (ai (eo (ic .items (aa 4)) (jD [5,6]) (bb (mV (zB (z2 oNe (aa 6) (zC (.int 0)))) (mV (zB (z2 oNe (aa 5) (aa 2))) (zB (z2 oNe (aa 5) (aa 3))))) (aN (zC .non)) au))
 (aN (z2 mZ (zC (.int 0)) (z2 oIx (aa 4) (aa 2))))))))
noncomputable def bp:FnV:=zFn N_carried_by.length gJ
theorem kF:CalZ P w K mg base 4 "carried_by" 4 bp []:=
 fT D.d_carried_by du fun hr hu tk=>⟨_,(pss_cons (ps_expr (clY (mG T D) hr tk (pa_cons (pv 0) (pa_cons (pv 1) pa_nil))))
 (pss_cons (ps_expr (clY (mH T D) hr tk (pa_cons (pv 0) (pa_cons (pv 2) (pa_cons (pv 3) pa_nil)))))
 (pss_cons (stY 4 du (clY (sv T D) hr tk (pa_cons (pv 0) (pa_cons (pv 1) pa_nil))))
 (pss_cons (ps_for (passes_of rfl) rfl (pi_items (tV (pv 4))) (fN (K:=K) (n:=2) rfl (pgs_cons (gnY 5 du) (pgs_cons (gnY 6 du) pgs_nil))) (pss_one (ps_if (PW.pt (pw_and (ctY (neY K hr) (pv 6) pe_int) (pw_and (ctY (neY K hr) (pv 5) (pv 2)) (pw_and1 (ctY (neY K hr) (pv 5) (pv 3)))))) (pss_one (ps_ret pe_non)) pss_nil)))
 (pss_one (ps_ret (pe_op op_sub pe_int (ixY K hr (pv 4) (pv 2))))))))),(RS.seq (RS.drop (RE.call .nil (RA.cons aaa (RA.cons aaa RA.nil)) (.cons (.cons Many.nil)) rfl))
 (RS.seq (RS.drop (RE.call .nil (RA.cons aaa (RA.cons aaa (RA.cons aaa RA.nil))) (.cons (.cons (.cons Many.nil))) rfl))
 (RS.seq (aad (RE.call .nil (RA.cons aaa (RA.cons aaa RA.nil)) (.cons (.cons Many.nil)) rfl) RG.name)
 (RS.seq (RS.for' (RI.walk (wk:= .items) aaa) (RG.names (is:= [5,6]) rfl) (aaf (aam (RT.val (aac xg aaa aab)) (aam (RT.val (aac xg aaa aaa)) (RT.val (aac xg aaa aaa)))) (RS.ret aah) RS.next))
 (RS.ret (aac mY aab (aac aO aaa aaa)))))))⟩
noncomputable def jt:SD→R Fl:=
 (ai (aw mU (zSt 1))
 (ai (eo (cZ (aR (bL "Net" "places" eC [] (aa 0) zA0))) (zSt 2) (dg (aa 1) (aa 2) (ie (fS zA0))))
 (ai (eo (cZ (aR (bL "Net" "ties" cP [] (aa 0) zA0))) (zSt 3) (aH (zM2 isL (oB2 aL) (z2 oIx (aa 1) (z1 (ba ["Tie"] "tail") (aa 3))) (aR (aa 3)))))
 (aN (aa 1)))))
noncomputable def iU:FnV:=zFn N_outs_of.length jt
theorem zZ:CalZ P w K mg base 2 "outs_of" 1 iU []:=
 fT D.d_outs_of gS fun hr hu tk=>⟨_,(pss_cons (stY 1 gS pe_dnewK)
 (pss_cons (ps_for (passes_of rfl) rfl (pi_list (nB (kG T D) hr (by decide) tk (pv 0))) (gnY 2 gS) (pss_one (ps_dput hu (pv 1) (pv 2) (pe_lst pa_nil) rfl)))
 (pss_cons (ps_for (passes_of rfl) rfl (pi_list (nB (hQ T D) hr (by decide) tk (pv 0))) (gnY 3 gS) (pss_one (ps_expr (pe_bm PySem.F.plainAttrs_list PySem.F.slot_list_append PySem.F.type_list_append mt_append (ixY K hr (pv 1) (fdY K (pv 3))) (pa_cons (pv 3) pa_nil)))))
 (pss_one (ps_ret (pv 1)))))),(RS.seq (aad aan RG.name)
 (RS.seq (RS.for' (RI.lst (RE.fix (RE.meth T.m_Net .nil aaa RA.nil Many.nil rfl))) RG.name (aaj aaa aaa (RE.cell (RE.lst RA.nil Many.nil (by decide)))))
 (RS.seq (RS.for' (RI.lst (RE.fix (RE.meth T.m_Net .nil aaa RA.nil Many.nil rfl))) RG.name (RS.drop (RE.append (aac aO aaa (RE.fld T.f_tail_Tie aaa)) aaa)))
 (RS.ret aaa))))⟩
noncomputable def mL:SD→R Fl:=
 (ai (eo (cZ (aR (z2 oIx (aa 0) (aa 2)))) (zSt 3) (bb (zB (z2 oGt (z2 oIx (aa 1) (z1 (ba ["Tie"] "number") (aa 3))) (zC (.int 0)))) (aN (aa 3)) au))
 (aN (zC .non)))
noncomputable def dI:FnV:=zFn N_tie_out.length mL
theorem sq:CalZ P w K mg base 1 "tie_out" 3 dI []:=
 fT D.d_tie_out nv fun hr hu tk=>⟨_,(pss_cons (ps_for (passes_of rfl) rfl (pi_list (ixY K hr (pv 0) (pv 2))) (gnY 3 nv) (pss_one (ps_if (ctY op_gt (ixY K hr (pv 1) (fdY K (pv 3))) pe_int) (pss_one (ps_ret (pv 3))) pss_nil)))
 (pss_one (ps_ret pe_non))),(RS.seq (RS.for' (RI.lst (RE.fix (aac aO aaa aaa))) RG.name (aaf (RT.val (aac AU (aac aO aaa (RE.fld T.f_number_Tie aaa)) aab)) (RS.ret aaa) RS.next))
 (RS.ret aah))⟩
noncomputable def gH:SD→R Fl:=
 (ai (eo (ic .keys (aa 0)) (zSt 2) (bb (zB (z2 (kK true) (ag dI [] (zA (aa 0) (zA (aa 1) (zA (aa 2) zA0)))) (zC .non))) (aN (aa 2)) au))
 (aN (zC .non)))
noncomputable def aW:FnV:=zFn N_first_tail.length gH
theorem kE:CalZ P w K mg base 2 "first_tail" 2 aW []:=
 fT D.d_first_tail iZ fun hr hu tk=>⟨_,(pss_cons (ps_for (passes_of rfl) rfl (pi_keys (tV (pv 0))) (gnY 2 iZ) (pss_one (ps_if (ctY lW (clY (sq T D) hr tk (pa_cons (pv 0) (pa_cons (pv 1) (pa_cons (pv 2) pa_nil)))) pe_non) (pss_one (ps_ret (pv 2))) pss_nil)))
 (pss_one (ps_ret pe_non))),(RS.seq (RS.for' (RI.keys aaa) RG.name (aaf (RT.val (aac (pb (neg:=true)) (RE.call .nil (RA.cons aaa (RA.cons aaa (RA.cons aaa RA.nil))) (.cons (.cons (.cons Many.nil))) rfl) aah)) (RS.ret aaa) RS.next))
 (RS.ret aah))⟩
noncomputable def qu:SD→R Fl:=
 (ai (aw (fS zA0) (zSt 4))
 (ai (aw (fS (zA (aa 2) zA0)) (zSt 5))
 (zWh (zB (zC (.bl true))) (ai (aw (ag dI [] (zA (aa 0) (zA (aa 1) (zA (z2 oIx (aa 5) (z1 yC (zC (.int 1)))) zA0)))) (zSt 6))
 (ai (aH (zM2 isL (oB2 aL) (aa 4) (aR (z1 (ba ["Tie"] "number") (aa 6)))))
 (ai (bb (zB (z2 (oIn false) (z1 (ba ["Tie"] "head") (aa 6)) (aa 5))) (aN (fR (zA (zC (.bl true)) (zA (zSl (aa 4) (zPt (zM2 isL kq (aa 5) (z1 (ba ["Tie"] "head") (aa 6)))) zNo) zA0)))) au)
 (ai (bb (zB (z2 oEq (z1 (ba ["Tie"] "head") (aa 6)) (aa 3))) (aN (fR (zA (zC (.bl false)) (zA (aa 4) zA0)))) au)
 (aH (zM2 isL (oB2 aL) (aa 5) (aR (z1 (ba ["Tie"] "head") (aa 6))))))))))))
noncomputable def eA:FnV:=zFn N_walked.length qu
theorem BE:CalZ P w K mg base 2 "walked" 4 eA []:=
 fT D.d_walked iY fun hr hu tk=>⟨_,(pss_cons (stY 4 iY (pe_lst pa_nil))
 (pss_cons (stY 5 iY (pe_lst (pa_cons (pv 2) pa_nil)))
 (pss_one (ps_while (passes_of rfl) (pt_val pe_bl) (pss_cons (stY 6 iY (clY (sq T D) hr tk (pa_cons (pv 0) (pa_cons (pv 1) (pa_cons (ixY K hr (pv 5) (pe_un un_neg pe_int)) pa_nil)))))
 (pss_cons (ps_expr (pe_bm PySem.F.plainAttrs_list PySem.F.slot_list_append PySem.F.type_list_append mt_append (pv 4) (pa_cons (fdY K (pv 6)) pa_nil)))
 (pss_cons (ps_if (ctY (inY K hr) (fdY K (pv 6)) (pv 5)) (pss_one (ps_ret (pe_tup (pa_cons pe_bl (pa_cons (pe_slice (xb (K:=K)) (pv 4) (po_some (m_index (K:=K) (pv 5) (fdY K (pv 6)))) po_none) pa_nil))))) pss_nil)
 (pss_cons (ps_if (ctY (eqY K hr) (fdY K (pv 6)) (pv 3)) (pss_one (ps_ret (pe_tup (pa_cons pe_bl (pa_cons (pv 4) pa_nil))))) pss_nil)
 (pss_one (ps_expr (pe_bm PySem.F.plainAttrs_list PySem.F.slot_list_append PySem.F.type_list_append mt_append (pv 5) (pa_cons (fdY K (pv 6)) pa_nil)))))))))))),(RS.seq (aad (RE.lst RA.nil Many.nil (by decide)) RG.name)
 (RS.seq (aad (RE.lst (RA.cons aaa RA.nil) (.cons Many.nil) (by decide)) RG.name)
 (RS.while' (RT.val aai) (RS.seq (aad (RE.call .nil (RA.cons aaa (RA.cons aaa (RA.cons (aac aO aaa (RE.neg aab)) RA.nil))) (.cons (.cons (.cons Many.nil))) rfl) RG.name)
 (RS.seq (RS.drop (RE.append aaa (RE.fld T.f_number_Tie aaa)))
 (RS.seq (aaf (RT.val (aac (AS (neg:=false)) (RE.fld T.f_head_Tie aaa) aaa)) (RS.ret (RE.tup (RA.cons aai (RA.cons (RE.sl aaa (RO.part (RE.index aaa (RE.fld T.f_head_Tie aaa))) RO.no) RA.nil)) (.cons (.cons Many.nil)) (by decide))) RS.next)
 (RS.seq (aaf (RT.val (aac je (RE.fld T.f_head_Tie aaa) aaa)) (RS.ret (RE.tup (RA.cons aai (RA.cons aaa RA.nil)) (.cons (.cons Many.nil)) (by decide))) RS.next)
 (RS.drop (RE.append aaa (RE.fld T.f_head_Tie aaa))))))))))⟩
noncomputable def iQ:SD→R Fl:=
 (ai (fU ["Part"] "is_ring" (aa 0) (aa 1))
 (ai (fU ["Part"] "numbers" (aa 0) (z1 iD (aa 2)))
 (fU ["Part"] "amount" (aa 0) (aa 3))))
noncomputable def bA:FnV:=zFn N_Part_init.length iQ
theorem vd:MakZ P w K mg base 1 "Part" Ca 4 bA []:=
 makY D.d_Part_init qX fun hr hu tk=>⟨_,(pss_cons (ps_fld (pv 0) (pv 1) rfl)
 (pss_cons (ps_fld (pv 0) (tyY (jq (K:=K) rfl) T.z_list (pa_cons (pv 2) pa_nil)) rfl)
 (pss_one (ps_fld (pv 0) (pv 3) rfl)))),(RS.seq (RS.fld T.f_is_ring_Part aaa aaa)
 (RS.seq (RS.fld T.f_numbers_Part (RE.c1 rh aaa) aaa)
 (RS.fld T.f_amount_Part aaa aaa)))⟩
noncomputable def dE:SD→R Fl:=
 (ai (aH (ag dM [] (zA (aa 0) (zA (aa 2) (zA (aa 3) zA0)))))
 (ai (aH (ag dJ [] (zA (aa 0) (zA (aa 1) zA0))))
 (ai (aw (ag bp [] (zA (aa 0) (zA (aa 1) (zA (aa 2) (zA (aa 3) zA0))))) (zSt 4))
 (ai (bb (zOr (zB (z2 (kK false) (aa 4) (zC .non))) (zB (z2 oLt (aa 4) (zC (.int 0))))) cY au)
 (ai (aw (ag iU [] (zA (aa 0) zA0)) (zSt 5))
 (ai (aw (ie (z1 eY (aa 1))) (zSt 6))
 (ai (aw (fS zA0) (zSt 7))
 (ai (aw (zIf (zB (z2 oGt (aa 4) (zC (.int 0)))) (aa 2) (ag aW [] (zA (aa 5) (zA (aa 6) zA0)))) (zSt 8))
 (ai (zWh (zB (z2 (kK true) (aa 8) (zC .non))) (ai (aw (ag eA [] (zA (aa 5) (zA (aa 6) (zA (aa 8) (zA (zIf (zB (z2 oGt (aa 4) (zC (.int 0)))) (aa 3) (zC .non)) zA0))))) (jD [9,10]))
 (ai (aw (z1 ng (zLc (cZ (aR (aa 10))) (zSt 12) fm (z2 oIx (aa 6) (aa 12)) [12])) (zSt 11))
 (ai (bb (cK (zB (aa 9))) (ai (aw (z2 rG (aa 11) (aa 4)) (zSt 11))
 (zAug 4 (fun a b=>a - b) (aa 11))) au)
 (ai (eo (cZ (aR (aa 10))) (zSt 12) (jF gD bP (fun a b=>a - b) (aa 6) (aa 12) (aa 11)))
 (ai (aH (zM2 isL (oB2 aL) (aa 7) (aR (Ay (jE "Part" bA [] (zA (aa 9) (zA (aa 10) (zA (aa 11) zA0))))))))
 (aw (zIf (zB (z2 oGt (aa 4) (zC (.int 0)))) (aa 2) (ag aW [] (zA (aa 5) (zA (aa 6) zA0)))) (zSt 8))))))))
 (aN (aa 7)))))))))))
noncomputable def bG:FnV:=zFn N_taken_apart.length dE
theorem qo:CalZ P w K mg base 5 "taken_apart" 4 bG []:=
 fT D.d_taken_apart sc_taken_apart fun hr hu tk=>⟨_,(pss_cons (ps_expr (clY (mH T D) hr tk (pa_cons (pv 0) (pa_cons (pv 2) (pa_cons (pv 3) pa_nil)))))
 (pss_cons (ps_expr (clY (mG T D) hr tk (pa_cons (pv 0) (pa_cons (pv 1) pa_nil))))
 (pss_cons (stY 4 sc_taken_apart (clY (kF T D) hr tk (pa_cons (pv 0) (pa_cons (pv 1) (pa_cons (pv 2) (pa_cons (pv 3) pa_nil))))))
 (pss_cons (ps_if (PW.pt (pw_or (ctY nz (pv 4) pe_non) (pw_or1 (ctY op_lt (pv 4) pe_int)))) (pss_one ps_never) pss_nil)
 (pss_cons (stY 5 sc_taken_apart (clY (zZ T D) hr tk (pa_cons (pv 0) pa_nil)))
 (pss_cons (stY 6 sc_taken_apart (tyY (jr (K:=K) rfl) T.z_dict (pa_cons (pv 1) pa_nil)))
 (pss_cons (stY 7 sc_taken_apart (pe_lst pa_nil))
 (pss_cons (stY 8 sc_taken_apart (pe_ifExp (ctY op_gt (pv 4) pe_int) (pv 2) (clY (kE T D) hr tk (pa_cons (pv 5) (pa_cons (pv 6) pa_nil)))))
 (pss_cons (ps_while (passes_of rfl) (ctY lW (pv 8) pe_non) (pss_cons (ps_asg (clY (BE T D) hr tk (pa_cons (pv 5) (pa_cons (pv 6) (pa_cons (pv 8) (pa_cons (pe_ifExp (ctY op_gt (pv 4) pe_int) (pv 3) pe_non) pa_nil))))) (fN (K:=K) (n:=2) rfl (pgs_cons (gnY 9 sc_taken_apart) (pgs_cons (gnY 10 sc_taken_apart) pgs_nil))))
 (pss_cons (stY 11 sc_taken_apart (bnY (cr_min rfl) T.z_min (pa_cons (lcY [("number",12)] sc_taken_apart (pi_list (pv 10)) (gnY 12 sc_taken_apart) pts_nil (ixY K hr (pv 6) (pv 12))) pa_nil)))
 (pss_cons (ps_if (pt_not (pt_val (pv 9))) (pss_cons (stY 11 sc_taken_apart (bnY (jY rfl) T.z_min (pa_cons (pv 11) (pa_cons (pv 4) pa_nil))))
 (pss_one (ps_aug (i:=4) sc_taken_apart.nd rfl (Or.inl rfl) (pv 11) ip_sub))) pss_nil)
 (pss_cons (ps_for (passes_of rfl) rfl (pi_list (pv 10)) (gnY 12 sc_taken_apart) (pss_one (ps_daug hu (pv 6) (pv 12) (pv 11) in_sub (fun _ _ _=>rfl))))
 (pss_cons (ps_expr (pe_bm PySem.F.plainAttrs_list PySem.F.slot_list_append PySem.F.type_list_append mt_append (pv 7) (pa_cons (mkY (vd T D) hr tk (pa_cons (pv 9) (pa_cons (pv 10) (pa_cons (pv 11) pa_nil)))) pa_nil)))
 (pss_one (stY 8 sc_taken_apart (pe_ifExp (ctY op_gt (pv 4) pe_int) (pv 2) (clY (kE T D) hr tk (pa_cons (pv 5) (pa_cons (pv 6) pa_nil))))))))))))
 (pss_one (ps_ret (pv 7)))))))))))),(RS.seq (RS.drop (RE.call .nil (RA.cons aaa (RA.cons aaa (RA.cons aaa RA.nil))) (.cons (.cons (.cons Many.nil))) rfl))
 (RS.seq (RS.drop (RE.call .nil (RA.cons aaa (RA.cons aaa RA.nil)) (.cons (.cons Many.nil)) rfl))
 (RS.seq (aad (RE.call .nil (RA.cons aaa (RA.cons aaa (RA.cons aaa (RA.cons aaa RA.nil)))) (.cons (.cons (.cons (.cons Many.nil)))) rfl) RG.name)
 (RS.seq (aaf (RT.or (RT.val (aac (pb (neg:=false)) aaa aah)) (RT.val (aac q_lt aaa aab))) RS.never RS.next)
 (RS.seq (aad (RE.call .nil (RA.cons aaa RA.nil) (.cons Many.nil) rfl) RG.name)
 (RS.seq (aad (RE.cell (RE.c1 rj aaa)) RG.name)
 (RS.seq (aad (RE.lst RA.nil Many.nil (by decide)) RG.name)
 (RS.seq (aad (RE.if' (RT.val (aac AU aaa aab)) aaa (RE.call .nil (RA.cons aaa (RA.cons aaa RA.nil)) (.cons (.cons Many.nil)) rfl)) RG.name)
 (RS.seq (RS.while' (RT.val (aac (pb (neg:=true)) aaa aah)) (RS.seq (aad (RE.call .nil (RA.cons aaa (RA.cons aaa (RA.cons aaa (RA.cons (RE.if' (RT.val (aac AU aaa aab)) aaa aah) RA.nil)))) (.cons (.cons (.cons (.cons Many.nil)))) rfl) (RG.names (is:= [9,10]) rfl))
 (RS.seq (aad (RE.c1 q_minL (aal (is:= [12]) (RI.lst (RE.fix aaa)) RG.name aak (aac aO aaa aaa))) RG.name)
 (RS.seq (aaf (aag (RT.val aaa)) (RS.seq (aad (RE.c2 wy aaa aaa) RG.name)
 (RS.aug (f:=(fun a b=>a - b)) aaa)) RS.next)
 (RS.seq (RS.for' (RI.lst (RE.fix aaa)) RG.name (aao (f:=(fun a b=>a - b)) hd_Sub aaa aaa aaa))
 (RS.seq (RS.drop (RE.append aaa (RE.frz (RE.make T.m_Part .nil (RA.cons aaa (RA.cons aaa (RA.cons aaa RA.nil))) (.cons (.cons (.cons Many.nil))) rfl))))
 (aad (RE.if' (RT.val (aac AU aaa aab)) aaa (RE.call .nil (RA.cons aaa (RA.cons aaa RA.nil)) (.cons (.cons Many.nil)) rfl)) RG.name)))))))
 (RS.ret aaa))))))))))⟩
noncomputable def gN:SD→R Fl:=
 (ai (aw (zLc (cZ (aR (z1 (ba ["Part"] "numbers") (aa 1)))) (zSt 7) fm (zM2 yX wB (z2 oIx (aa 0) (zC (.str "ties"))) (aa 7)) [7]) (zSt 4))
 (ai (bb (zOr (zB (z2 oEq (aa 4) (fS zA0))) (zB (z2 (oInD false) (zC .non) (aa 4)))) (aN (zC (.bl false))) au)
 (ai (aw (fS (zA (z2 oIx (z2 oIx (aa 4) (zC (.int 0))) (zC (.int 0))) zA0)) (zSt 5))
 (ai (eo (cZ (aR (aa 4))) (zSt 6) (ai (bb (zB (z2 oNe (z2 oIx (aa 6) (zC (.int 0))) (z2 oIx (aa 5) (z1 yC (zC (.int 1)))))) (aN (zC (.bl false))) au)
 (aH (zM2 isL (oB2 aL) (aa 5) (aR (z2 oIx (aa 6) (zC (.int 1))))))))
 (ai (bb (zB (z1 (ba ["Part"] "is_ring") (aa 1))) (aN (fV (z2 oEq (z2 oIx (aa 5) (zC (.int 0))) (z2 oIx (aa 5) (z1 yC (zC (.int 1))))) (z2 oEq (z1 iE (aa 5)) (z2 mZ (z1 cS (aa 5)) (zC (.int 1)))))) au)
 (aN (fV (z2 oEq (z2 oIx (aa 5) (zC (.int 0))) (aa 2)) (fV (z2 oEq (z2 oIx (aa 5) (z1 yC (zC (.int 1)))) (aa 3)) (z2 oEq (z1 iE (aa 5)) (z1 cS (aa 5)))))))))))
noncomputable def eD:FnV:=zFn N_Lwalk_good.length gN
theorem sx:CalZ P w K mg base 1 "_law_walk_good" 4 eD []:=
 fT D.d_Lwalk_good cn fun hr hu tk=>⟨_,(pss_cons (slY 4 [("_law_number",7)] cn (pi_list (fdY K (pv 1))) (gnY 7 cn) pts_nil (pe_dget1 hu (ixY K hr (pv 0) pe_str) (pv 7) ⟨rfl,rfl,rfl,rfl⟩))
 (pss_cons (ps_if (PW.pt (pw_or (ctY (eqY K hr) (pv 4) (pe_lst pa_nil)) (pw_or1 (ctY (op_inDa K hr) pe_non (pv 4))))) (pss_one (ps_ret pe_bl)) pss_nil)
 (pss_cons (stY 5 cn (pe_lst (pa_cons (ixY K hr (ixY K hr (pv 4) pe_int) pe_int) pa_nil)))
 (pss_cons (ps_for (passes_of rfl) rfl (pi_list (pv 4)) (gnY 6 cn) (pss_cons (ps_if (ctY (neY K hr) (ixY K hr (pv 6) pe_int) (ixY K hr (pv 5) (pe_un un_neg pe_int))) (pss_one (ps_ret pe_bl)) pss_nil)
 (pss_one (ps_expr (pe_bm PySem.F.plainAttrs_list PySem.F.slot_list_append PySem.F.type_list_append mt_append (pv 5) (pa_cons (ixY K hr (pv 6) pe_int) pa_nil))))))
 (pss_cons (ps_if (pt_val (fdY K (pv 1))) (pss_one (ps_ret (pe_and (cmY (eqY K hr) (ixY K hr (pv 5) pe_int) (ixY K hr (pv 5) (pe_un un_neg pe_int))) (pe_one (cmY (eqY K hr) (M.ny (K:=K) rfl T.z_len rfl T.z_set (pv 5)) (pe_op op_sub (bnY (aG (K:=K)) T.z_len (pa_cons (pv 5) pa_nil)) pe_int)))))) pss_nil)
 (pss_one (ps_ret (pe_and (cmY (eqY K hr) (ixY K hr (pv 5) pe_int) (pv 2)) (pe_and (cmY (eqY K hr) (ixY K hr (pv 5) (pe_un un_neg pe_int)) (pv 3)) (pe_one (cmY (eqY K hr) (M.ny (K:=K) rfl T.z_len rfl T.z_set (pv 5)) (bnY (aG (K:=K)) T.z_len (pa_cons (pv 5) pa_nil))))))))))))),(RS.seq (aad (aal (is:= [7]) (RI.lst (RE.fix (RE.fld T.f_numbers_Part aaa))) RG.name aak (RE.dget1 (aac aO aaa aae) aaa)) RG.name)
 (RS.seq (aaf (RT.or (RT.val (aac je aaa (RE.lst RA.nil Many.nil (by decide)))) (RT.val (aac (q_inDa (neg:=false)) aah aaa))) (RS.ret aai) RS.next)
 (RS.seq (aad (RE.lst (RA.cons (aac aO (aac aO aaa aab) aab) RA.nil) (.cons Many.nil) (by decide)) RG.name)
 (RS.seq (RS.for' (RI.lst (RE.fix aaa)) RG.name (RS.seq (aaf (RT.val (aac xg (aac aO aaa aab) (aac aO aaa (RE.neg aab)))) (RS.ret aai) RS.next)
 (RS.drop (RE.append aaa (aac aO aaa aab)))))
 (RS.seq (aaf (RT.val (RE.fld T.f_is_ring_Part aaa)) (RS.ret (RE.andV (aac je (aac aO aaa aab) (aac aO aaa (RE.neg aab))) (aac je (RE.lenSet aaa) (aac mY (RE.c1 bY aaa) aab)))) RS.next)
 (RS.ret (RE.andV (aac je (aac aO aaa aab) aaa) (RE.andV (aac je (aac aO aaa (RE.neg aab)) aaa) (aac je (RE.lenSet aaa) (RE.c1 bY aaa))))))))))⟩
noncomputable def fK:SD→R Fl:=
 (ai (bb (zOr (cK (zB (z1 (pf .list) (aa 2)))) (zB (z2 oGt (z1 cS (aa 2)) (z1 cS (xk 1 (zSt 8) (wo 8 fun a=>zB (z2 oGt a (zC (.int 0)))) (zB (z2 oGt (z2 oIx (aa 1) (aa 8)) (zC (.int 0)))) (aa 8) [8]))))) (aN (zC (.bl false))) au)
 (ai (aw (z1 eY (xl 1 (zSt 8) fm (fR (zA (aa 8) (zA (zC (.int 0)) zA0))) [8])) (zSt 5))
 (ai (aw (zC (.int 0)) (zSt 6))
 (ai (eo (cZ (aR (aa 2))) (zSt 7) (ai (bb (zOr (cK (zB (z1 (pf .bool) (z1 (ba ["Part"] "is_ring") (aa 7))))) (cK (zB (z1 (pf .list) (z1 (ba ["Part"] "numbers") (aa 7)))))) (aN (zC (.bl false))) au)
 (ai (bb (zOr (cK (zB (ag aT [] (zA (z1 (ba ["Part"] "amount") (aa 7)) (zA (z1 (ba ["Part"] "amount") (aa 7)) zA0))))) (zB (z2 oLt (z1 (ba ["Part"] "amount") (aa 7)) (zC (.int 1))))) (aN (zC (.bl false))) au)
 (ai (bb (cK (zB (z1 yF (zLc (cZ (aR (z1 (ba ["Part"] "numbers") (aa 7)))) (zSt 9) fm (ag aT [] (zA (aa 9) (zA (aa 9) zA0))) [9])))) (aN (zC (.bl false))) au)
 (ai (bb (cK (zB (ag eD [] (zA (aa 0) (zA (aa 7) (zA (z2 oIx (aa 3) (zC (.int 0))) (zA (z2 oIx (aa 3) (zC (.int 1))) zA0))))))) (aN (zC (.bl false))) au)
 (ai (eo (cZ (aR (z1 (ba ["Part"] "numbers") (aa 7)))) (zSt 8) (dg (aa 5) (aa 8) (z2 bX (z2 oIx (aa 5) (aa 8)) (z1 (ba ["Part"] "amount") (aa 7)))))
 (aw (z2 bX (aa 6) (z2 mT (z1 (ba ["Part"] "amount") (aa 7)) (z1 Av (qL (z1 (ba ["Part"] "is_ring") (aa 7)))))) (zSt 6))))))))
 (aN (fV (z2 oEq (aa 5) (aa 1)) (z2 oEq (aa 6) (aa 4))))))))
noncomputable def bI:FnV:=zFn N_Lparts_good.length fK
theorem qp:CalZ P w K mg base 2 "_law_parts_good" 5 bI []:=
 fT D.d_Lparts_good sc_Lparts_good fun hr hu tk=>⟨_,(pss_cons (ps_if (PW.pt (pw_or (pt_not (pt_val (bnY (lY (K:=K)) T.z_isinstance (pa_cons (pv 2) (pa_cons (btY "list" T.z_list) pa_nil))))) (pw_or1 (ctY op_gt (bnY (aG (K:=K)) T.z_len (pa_cons (pv 2) pa_nil)) (bnY (aG (K:=K)) T.z_len (pa_cons (ru (pe_lock (pe_lc (own:= [("_law_number",8)]) (g:=gName 8) rfl sc_Lparts_good.nd (pi_keys (pv 1)) (blkOk_by (N:=N_Lparts_good) (sc:=defScope bq) (own:= [("_law_number",8)]) (by decide+kernel)) (fun _ _ _ _ _=>(gnY 8 sc_Lparts_good)) (fun _ _ _ _ _=>(pts_one (ctY op_gt (ixY K hr (pv 1) (pv 8)) pe_int))) (fun _ _ _ _ _=>(pv 8)))) (pe_lc (own:= [("_law_number",8)]) (g:=gName 8) rfl sc_Lparts_good.nd (pi_keys (tV (pv 1))) (blkOk_by (N:=N_Lparts_good) (sc:=defScope bq) (own:= [("_law_number",8)]) (by decide+kernel)) (fun _ _ _ _ _=>(gnY 8 sc_Lparts_good)) (fun _ _ _ _ _=>(pts_one (ctY op_gt (ixY K hr (pv 1) (pv 8)) pe_int))) (fun _ _ _ _ _=>(pv 8)))) pa_nil)))))) (pss_one (ps_ret pe_bl)) pss_nil)
 (pss_cons (stY 5 sc_Lparts_good (tyY (jr (K:=K) rfl) T.z_dict (pa_cons (ru (pe_lock (pe_lc (own:= [("_law_number",8)]) (g:=gName 8) (tt:=tYes) rfl sc_Lparts_good.nd (pi_keys (pv 1)) (blkOk_by (N:=N_Lparts_good) (sc:=defScope bq) (own:= [("_law_number",8)]) (by decide+kernel)) (fun _ _ _ _ _=>(gnY 8 sc_Lparts_good)) (fun _ _ _ _ _=>pts_nil) (fun _ _ _ _ _=>(pe_tup (pa_cons (pv 8) (pa_cons pe_int pa_nil)))))) (pe_lc (own:= [("_law_number",8)]) (g:=gName 8) (tt:=tYes) rfl sc_Lparts_good.nd (pi_keys (tV (pv 1))) (blkOk_by (N:=N_Lparts_good) (sc:=defScope bq) (own:= [("_law_number",8)]) (by decide+kernel)) (fun _ _ _ _ _=>(gnY 8 sc_Lparts_good)) (fun _ _ _ _ _=>pts_nil) (fun _ _ _ _ _=>(pe_tup (pa_cons (pv 8) (pa_cons pe_int pa_nil)))))) pa_nil)))
 (pss_cons (stY 6 sc_Lparts_good pe_int)
 (pss_cons (ps_for (passes_of rfl) rfl (pi_list (pv 2)) (gnY 7 sc_Lparts_good) (pss_cons (ps_if (PW.pt (pw_or (pt_not (pt_val (bnY (lY (K:=K)) T.z_isinstance (pa_cons (fdY K (pv 7)) (pa_cons (btY "bool" T.z_bool) pa_nil))))) (pw_or1 (pt_not (pt_val (bnY (lY (K:=K)) T.z_isinstance (pa_cons (fdY K (pv 7)) (pa_cons (btY "list" T.z_list) pa_nil)))))))) (pss_one (ps_ret pe_bl)) pss_nil)
 (pss_cons (ps_if (PW.pt (pw_or (pt_not (pt_val (clY (hU T D) hr tk (pa_cons (fdY K (pv 7)) (pa_cons (fdY K (pv 7)) pa_nil))))) (pw_or1 (ctY op_lt (fdY K (pv 7)) pe_int)))) (pss_one (ps_ret pe_bl)) pss_nil)
 (pss_cons (ps_if (pt_not (pt_val (bnY (cr_all rfl) T.z_all (pa_cons (lcY [("_law_n",9)] sc_Lparts_good (pi_list (fdY K (pv 7))) (gnY 9 sc_Lparts_good) pts_nil (clY (hU T D) hr jI (pa_cons (pv 9) (pa_cons (pv 9) pa_nil)))) pa_nil)))) (pss_one (ps_ret pe_bl)) pss_nil)
 (pss_cons (ps_if (pt_not (pt_val (clY (sx T D) hr tk (pa_cons (pv 0) (pa_cons (pv 7) (pa_cons (ixY K hr (pv 3) pe_int) (pa_cons (ixY K hr (pv 3) pe_int) pa_nil))))))) (pss_one (ps_ret pe_bl)) pss_nil)
 (pss_cons (ps_for (passes_of rfl) rfl (pi_list (fdY K (pv 7))) (gnY 8 sc_Lparts_good) (pss_one (ps_dput hu (pv 5) (pv 8) (pe_op (ay (K:=K)) (ixY K hr (pv 5) (pv 8)) (fdY K (pv 7))) rfl)))
 (pss_one (stY 6 sc_Lparts_good (pe_op (ay (K:=K)) (pv 6) (pe_op cR (fdY K (pv 7)) (tyY uX T.z_int (pa_cons (pe_not (fdY K (pv 7))) pa_nil))))))))))))
 (pss_one (ps_ret (pe_and (cmY (eqY K hr) (pv 5) (pv 1)) (pe_one (cmY (eqY K hr) (pv 6) (pv 4)))))))))),(RS.seq (aaf (RT.or (aag (RT.val (RE.isi (t:= .list) aaa))) (RT.val (aac AU (RE.c1 bY aaa) (RE.c1 bY (RE.lcR (k:=1) (is:= [8]) (by decide) RG.name (RTl.cmp (j:=8) AU aab) (RT.val (aac AU (aac aO aaa aaa) aab)) aaa))))) (RS.ret aai) RS.next)
 (RS.seq (aad (RE.c1 rj (RE.lcD (is:= [8]) RG.name aak (RE.tup (RA.cons aaa (RA.cons aab RA.nil)) (.cons (.cons Many.nil)) (by decide)))) RG.name)
 (RS.seq (aad aab RG.name)
 (RS.seq (RS.for' (RI.lst (RE.fix aaa)) RG.name (RS.seq (aaf (RT.or (aag (RT.val (RE.isi (t:= .bool) (RE.fld T.f_is_ring_Part aaa)))) (aag (RT.val (RE.isi (t:= .list) (RE.fld T.f_numbers_Part aaa))))) (RS.ret aai) RS.next)
 (RS.seq (aaf (RT.or (aag (RT.val (RE.call .nil (RA.cons (RE.fld T.f_amount_Part aaa) (RA.cons (RE.fld T.f_amount_Part aaa) RA.nil)) (.cons (.cons Many.nil)) rfl))) (RT.val (aac q_lt (RE.fld T.f_amount_Part aaa) aab))) (RS.ret aai) RS.next)
 (RS.seq (aaf (aag (RT.val (RE.c1 AV (aal (is:= [9]) (RI.lst (RE.fix (RE.fld T.f_numbers_Part aaa))) RG.name aak (RE.call .nil (RA.cons aaa (RA.cons aaa RA.nil)) (.cons (.cons Many.nil)) rfl))))) (RS.ret aai) RS.next)
 (RS.seq (aaf (aag (RT.val (RE.call .nil (RA.cons aaa (RA.cons aaa (RA.cons (aac aO aaa aab) (RA.cons (aac aO aaa aab) RA.nil)))) (.cons (.cons (.cons (.cons Many.nil)))) rfl))) (RS.ret aai) RS.next)
 (RS.seq (RS.for' (RI.lst (RE.fix (RE.fld T.f_numbers_Part aaa))) RG.name (aaj aaa aaa (aac bz (aac aO aaa aaa) (RE.fld T.f_amount_Part aaa))))
 (aad (aac bz aaa (aac jU (RE.fld T.f_amount_Part aaa) (RE.c1 q_int (aap (RE.fld T.f_is_ring_Part aaa))))) RG.name)))))))
 (RS.ret (RE.andV (aac je aaa aaa) (aac je aaa aaa)))))))⟩
noncomputable def eQ:SD→R Fl:=
 (ai (aw mU (zSt 2))
 (ai (eo (cZ (aR (bL "Net" "ties" cP [] (aa 0) zA0))) (zSt 3) (dg (aa 2) (z1 (ba ["Tie"] "number") (aa 3)) (zC (.int 0))))
 (ai (eo (cZ (aR (aa 1))) (zSt 4) (eo (cZ (aR (z1 (ba ["Part"] "numbers") (aa 4)))) (zSt 5) (jF gD bP (fun a b=>a+b) (aa 2) (aa 5) (z1 (ba ["Part"] "amount") (aa 4)))))
 (aN (aa 2)))))
noncomputable def aI:FnV:=zFn N_put_together.length eQ
theorem ib:CalZ P w K mg base 2 "put_together" 2 aI []:=
 fT D.d_put_together bD fun hr hu tk=>⟨_,(pss_cons (stY 2 bD pe_dnewK)
 (pss_cons (ps_for (passes_of rfl) rfl (pi_list (nB (hQ T D) hr (by decide) tk (pv 0))) (gnY 3 bD) (pss_one (ps_dput hu (pv 2) (fdY K (pv 3)) pe_int rfl)))
 (pss_cons (ps_for (passes_of rfl) rfl (pi_list (pv 1)) (gnY 4 bD) (pss_one (ps_for (passes_of rfl) rfl (pi_list (fdY K (pv 4))) (gnY 5 bD) (pss_one (ps_daug hu (pv 2) (pv 5) (fdY K (pv 4)) in_add (fun _ _ _=>rfl))))))
 (pss_one (ps_ret (pv 2)))))),(RS.seq (aad aan RG.name)
 (RS.seq (RS.for' (RI.lst (RE.fix (RE.meth T.m_Net .nil aaa RA.nil Many.nil rfl))) RG.name (aaj aaa (RE.fld T.f_number_Tie aaa) aab))
 (RS.seq (RS.for' (RI.lst (RE.fix aaa)) RG.name (RS.for' (RI.lst (RE.fix (RE.fld T.f_numbers_Part aaa))) RG.name (aao (f:=(fun a b=>a+b)) hd_Add aaa aaa (RE.fld T.f_amount_Part aaa))))
 (RS.ret aaa))))⟩
noncomputable def km:SD→R Fl:=
 (ai (bb (zOr (cK (zB (z1 (pf .dict) (aa 0)))) (zB (z2 oNe (aa 0) (aa 1)))) (aN (zC (.bl false))) au)
 (aN (z2 oEq (xk 1 (zSt 2) (wo 2 fun a=>cK (zB (ag aT [] (zA (z2 oIx (aa 0) (aa 2)) (zA a zA0))))) (cK (zB (ag aT [] (zA (z2 oIx (aa 0) (aa 2)) (zA (z2 oIx (aa 1) (aa 2)) zA0))))) (aa 2) [2]) (fS zA0))))
noncomputable def bJ:FnV:=zFn N_Lis_flow.length km
theorem nP:CalZ P w K mg base 2 "_law_is_flow" 2 bJ []:=
 fT D.d_Lis_flow sc_Lis_flow fun hr hu tk=>⟨_,(pss_cons (ps_if (PW.pt (pw_or (pt_not (pt_val (bnY (lY (K:=K)) T.z_isinstance (pa_cons (pv 0) (pa_cons (btY "dict" T.z_dict) pa_nil))))) (pw_or1 (ctY (neY K hr) (pv 0) (pv 1))))) (pss_one (ps_ret pe_bl)) pss_nil)
 (pss_one (ps_ret (cmY (eqY K hr) (ru (pe_lock (pe_lc (own:= [("_law_number",2)]) (g:=gName 2) rfl sc_Lis_flow.nd (pi_keys (pv 1)) (blkOk_by (N:=N_Lis_flow) (sc:=defScope eW) (own:= [("_law_number",2)]) (by decide+kernel)) (fun _ _ _ _ _=>(gnY 2 sc_Lis_flow)) (fun _ _ _ _ _=>(pts_one (pt_not (pt_val (clY (hU T D) hr jI (pa_cons (ixY K hr (pv 0) (pv 2)) (pa_cons (ixY K hr (pv 1) (pv 2)) pa_nil))))))) (fun _ _ _ _ _=>(pv 2)))) (pe_lc (own:= [("_law_number",2)]) (g:=gName 2) rfl sc_Lis_flow.nd (pi_keys (tV (pv 1))) (blkOk_by (N:=N_Lis_flow) (sc:=defScope eW) (own:= [("_law_number",2)]) (by decide+kernel)) (fun _ _ _ _ _=>(gnY 2 sc_Lis_flow)) (fun _ _ _ _ _=>(pts_one (pt_not (pt_val (clY (hU T D) hr jI (pa_cons (ixY K hr (pv 0) (pv 2)) (pa_cons (ixY K hr (pv 1) (pv 2)) pa_nil))))))) (fun _ _ _ _ _=>(pv 2)))) (pe_lst pa_nil))))),(RS.seq (aaf (RT.or (aag (RT.val (RE.isi (t:= .dict) aaa))) (RT.val (aac xg aaa aaa))) (RS.ret aai) RS.next)
 (RS.ret (aac je (RE.lcR (k:=1) (is:= [2]) (by decide) RG.name (RTl.notCall (j:=2) (F:=aT) (aac aO aaa aaa) pure_ix rfl) (aag (RT.val (RE.call .nil (RA.cons (aac aO aaa aaa) (RA.cons (aac aO aaa aaa) RA.nil)) (.cons (.cons Many.nil)) rfl))) aaa) (RE.lst RA.nil Many.nil (by decide)))))⟩
noncomputable def vh:SD→R Fl:=
 (aN (zLc (cZ (aR (aa 0))) (zSt 1) fm (fR (zA (z1 (ba ["Part"] "is_ring") (aa 1)) (zA (z1 iD (z1 (ba ["Part"] "numbers") (aa 1))) (zA (z1 (ba ["Part"] "amount") (aa 1)) zA0)))) [1]))
noncomputable def fw:FnV:=zFn N_Lkept.length vh
theorem Ac:CalZ P w K mg base 1 "_law_kept" 1 fw []:=
 fT D.d_Lkept oO fun hr hu tk=>⟨_,(pss_one (ps_ret (lcY [("_law_part",1)] oO (pi_list (pv 0)) (gnY 1 oO) pts_nil (pe_tup (pa_cons (fdY K (pv 1)) (pa_cons (tyY (jq (K:=K) rfl) T.z_list (pa_cons (fdY K (pv 1)) pa_nil)) (pa_cons (fdY K (pv 1)) pa_nil))))))),(RS.ret (aal (is:= [1]) (RI.lst (RE.fix aaa)) RG.name aak (RE.tup (RA.cons (RE.fld T.f_is_ring_Part aaa) (RA.cons (RE.c1 rh (RE.fld T.f_numbers_Part aaa)) (RA.cons (RE.fld T.f_amount_Part aaa) RA.nil))) (.cons (.cons (.cons Many.nil))) (by decide))))⟩
noncomputable def b_law:SD→R Fl:=
 (ai (aw (aR (zSl (aa 0) zNo (zPt (zC (.int 63))))) (zSt 1))
 (ai (aw (aR (ag oj [] (zA (z1 wA (zSl (aa 1) zNo (zPt (zC (.int 3))))) zA0))) (zSt 2))
 (ai (aw (ag kO [] (zA (aa 1) (zA (aa 2) zA0))) (jD [3,4,5]))
 (ai (aw (ag aF [] (zA (z1 wA (zSl (aa 1) zNo (zPt (zC (.int 2))))) (zA (zC (.int 3)) (zA (zC (.int 96)) zA0)))) (zSt 6))
 (ai (bb (mV (zB (z2 oEq (z2 bN (aa 6) (zC (.int 4))) (zC (.int 1)))) (cK (zB (ag iV [] (zA (aa 3) (zA (aa 4) (zA (aa 2) (zA (aa 6) zA0)))))))) (aN (zC (.bl false))) au)
 (ai (bb (zOr (cK (zB (aa 5))) (zB (z2 oLt (z1 cS (z2 oIx (aa 4) (zC (.str "names")))) (zC (.int 2))))) (aN (aa 5)) au)
 (ai (aw (ie (ag eE [] (zA (aa 3) (zA (aa 4) zA0)))) (zSt 7))
 (ai (aw (ag aF [] (zA (z1 wA (zSl (aa 1) zNo (zPt (zC (.int 4))))) (zA (zC (.int 6)) (zA (zC (.int 95)) zA0)))) (zSt 8))
 (ai (aw (z2 oIx (aa 4) (zC (.str "names"))) (zSt 9))
 (ai (aw (fR (zA (z2 oIx (aa 9) (z2 bN (aa 8) (z1 cS (aa 9)))) (zA (z2 oIx (aa 9) (z2 bN (z2 bX (z2 bX (aa 8) (zC (.int 1))) (z2 bN (z2 iF (aa 8) (zC (.int 14))) (z2 mZ (z1 cS (aa 9)) (zC (.int 1))))) (z1 cS (aa 9)))) zA0))) (zSt 10))
 (ai (aw (zC (.int 0)) (zSt 11))
 (ai (aw (fS zA0) (zSt 12))
 (ai (aw (fS zA0) (zSt 13))
 (ai (eo (nS (aR (aa 1))) (jD [14,15]) (ai (bb (zB (z2 oEq (z2 bN (ag aF [] (zA (aa 15) (zA (aa 14) (zA (zC (.int 66)) zA0)))) (zC (.int 5))) (zC (.int 1)))) (aw (z2 mZ (aa 11) (ag ly [] (zA (aa 7) (zA (aa 12) (zA (ag aF [] (zA (aa 15) (zA (aa 14) (zA (zC (.int 67)) zA0)))) zA0))))) (zSt 11)) (aw (z2 bX (aa 11) (ag lx [] (zA (aa 4) (zA (aa 7) (zA (aa 10) (zA (aa 15) (zA (aa 14) zA0))))))) (zSt 11)))
 (ai (aH (ag eT [] (zA (aa 3) (zA (aa 4) (zA (aa 7) (zA (ag aF [] (zA (aa 15) (zA (aa 14) (zA (zC (.int 68)) zA0)))) zA0))))))
 (ai (aw (ag bG [] (zA (aa 3) (zA (z1 eY (aa 7)) (zA (z2 oIx (aa 10) (zC (.int 0))) (zA (z2 oIx (aa 10) (zC (.int 1))) zA0))))) (zSt 12))
 (ai (bb (cK (zB (ag bI [] (zA (aa 4) (zA (aa 7) (zA (aa 12) (zA (aa 10) (zA (aa 11) zA0)))))))) (aN (zC (.bl false))) au)
 (ai (bb (cK (zB (ag aT [] (zA (ag bp [] (zA (aa 3) (zA (aa 7) (zA (z2 oIx (aa 10) (zC (.int 0))) (zA (z2 oIx (aa 10) (zC (.int 1))) zA0))))) (zA (aa 11) zA0))))) (aN (zC (.bl false))) au)
 (ai (bb (cK (zB (ag bJ [] (zA (ag aI [] (zA (aa 3) (zA (z1 iD (aa 12)) zA0))) (zA (aa 7) zA0))))) (aN (zC (.bl false))) au)
 (aH (zM2 isL (oB2 aL) (aa 13) (aR (fR (zA (aa 12) (zA (ag fw [] (zA (aa 12) zA0)) (zA (z1 eY (aa 7)) zA0))))))))))))))
 (ai (aH (ie (ag eE [] (zA (aa 3) (zA (aa 4) zA0)))))
 (ai (eo (cZ (aR (aa 13))) (jD [12,16,7]) (bb (zOr (zB (z2 oNe (ag fw [] (zA (aa 12) zA0)) (aa 16))) (cK (zB (ag bJ [] (zA (ag aI [] (zA (aa 3) (zA (aa 12) zA0))) (zA (aa 7) zA0)))))) (aN (zC (.bl false))) au))
 (aN (zC (.bl true)))))))))))))))))))
noncomputable def v_law:FnV:=zFn N_law.length b_law
theorem c_law {f:Addr} {fd:FuncData} (F:L2.Fun K "law" "law" ja f fd):FnOk P w K mg base L2.CX0 9 f fd ["_law_script"] (fun vs H Q E=>spF ⟨K,mg⟩ 1 v_law vs H Q (fun _ _ _=>False)):=
 fnZ0 F bK (by decide) fun cdv A outer s H E hr=>by
  have hu:=hu_of hr
  have tk:=(jI:Takes (cxOf L2.CX0 P w K mg base N_law "law" (L2.defScope ja) f cdv A outer s H E).nox WF)
  exact ⟨_,(pss_cons (stY 1 bK (pe_slice (xb (K:=K)) (pv 0) po_none (po_some pe_int)))
 (pss_cons (stY 2 bK (clY (c_Lpool T D) hr tk (pa_cons (bnY (cr_sum rfl) T.z_sum (pa_cons (pe_slice (xb (K:=K)) (pv 1) po_none (po_some pe_int)) pa_nil)) pa_nil)))
 (pss_cons (ps_asg (clY (BF T D) hr tk (pa_cons (pv 1) (pa_cons (pv 2) pa_nil))) (fN (K:=K) (n:=3) rfl (pgs_cons (gnY 3 bK) (pgs_cons (gnY 4 bK) (pgs_cons (gnY 5 bK) pgs_nil)))))
 (pss_cons (stY 6 bK (clY (bU T D) hr tk (pa_cons (bnY (cr_sum rfl) T.z_sum (pa_cons (pe_slice (xb (K:=K)) (pv 1) po_none (po_some pe_int)) pa_nil)) (pa_cons pe_int (pa_cons pe_int pa_nil)))))
 (pss_cons (ps_if (PW.pt (pw_and (ctY (eqY K hr) (pe_op op_mod (pv 6) pe_int) pe_int) (pw_and1 (pt_not (pt_val (clY (Ad T D) hr tk (pa_cons (pv 3) (pa_cons (pv 4) (pa_cons (pv 2) (pa_cons (pv 6) pa_nil)))))))))) (pss_one (ps_ret pe_bl)) pss_nil)
 (pss_cons (ps_if (PW.pt (pw_or (pt_not (pt_val (pv 5))) (pw_or1 (ctY op_lt (bnY (aG (K:=K)) T.z_len (pa_cons (ixY K hr (pv 4) pe_str) pa_nil)) pe_int)))) (pss_one (ps_ret (pv 5))) pss_nil)
 (pss_cons (stY 7 bK (clY (wg T D) hr tk (pa_cons (pv 3) (pa_cons (pv 4) pa_nil))))
 (pss_cons (stY 8 bK (clY (bU T D) hr tk (pa_cons (bnY (cr_sum rfl) T.z_sum (pa_cons (pe_slice (xb (K:=K)) (pv 1) po_none (po_some pe_int)) pa_nil)) (pa_cons pe_int (pa_cons pe_int pa_nil)))))
 (pss_cons (stY 9 bK (ixY K hr (pv 4) pe_str))
 (pss_cons (stY 10 bK (pe_tup (pa_cons (ixY K hr (pv 9) (pe_op op_mod (pv 8) (bnY (aG (K:=K)) T.z_len (pa_cons (pv 9) pa_nil)))) (pa_cons (ixY K hr (pv 9) (pe_op op_mod (pe_op (ay (K:=K)) (pe_op (ay (K:=K)) (pv 8) pe_int) (pe_op op_mod (pe_op op_fdivW (pv 8) pe_int) (pe_op op_sub (bnY (aG (K:=K)) T.z_len (pa_cons (pv 9) pa_nil)) pe_int))) (bnY (aG (K:=K)) T.z_len (pa_cons (pv 9) pa_nil)))) pa_nil))))
 (pss_cons (stY 11 bK pe_int)
 (pss_cons (stY 12 bK (pe_lst pa_nil))
 (pss_cons (stY 13 bK (pe_lst pa_nil))
 (pss_cons (ps_for PassesOwn.never rfl (pi_enum rfl T.z_enumerate (pa_cons (pv 1) pa_nil)) (fN (K:=K) (n:=2) rfl (pgs_cons (gnY 14 bK) (pgs_cons (gnY 15 bK) pgs_nil))) (pss_cons (ps_if (ctY (eqY K hr) (pe_op op_mod (clY (bU T D) hr tk (pa_cons (pv 15) (pa_cons (pv 14) (pa_cons pe_int pa_nil)))) pe_int) pe_int) (pss_one (stY 11 bK (pe_op op_sub (pv 11) (clY (c_Lless T D) hr tk (pa_cons (pv 7) (pa_cons (pv 12) (pa_cons (clY (bU T D) hr tk (pa_cons (pv 15) (pa_cons (pv 14) (pa_cons pe_int pa_nil)))) pa_nil))))))) (pss_one (stY 11 bK (pe_op (ay (K:=K)) (pv 11) (clY (c_Lmore T D) hr tk (pa_cons (pv 4) (pa_cons (pv 7) (pa_cons (pv 10) (pa_cons (pv 15) (pa_cons (pv 14) pa_nil))))))))))
 (pss_cons (ps_expr (clY (Ab T D) hr tk (pa_cons (pv 3) (pa_cons (pv 4) (pa_cons (pv 7) (pa_cons (clY (bU T D) hr tk (pa_cons (pv 15) (pa_cons (pv 14) (pa_cons pe_int pa_nil)))) pa_nil))))))
 (pss_cons (stY 12 bK (clY (qo T D) hr tk (pa_cons (pv 3) (pa_cons (tyY (jr (K:=K) rfl) T.z_dict (pa_cons (pv 7) pa_nil)) (pa_cons (ixY K hr (pv 10) pe_int) (pa_cons (ixY K hr (pv 10) pe_int) pa_nil))))))
 (pss_cons (ps_if (pt_not (pt_val (clY (qp T D) hr tk (pa_cons (pv 4) (pa_cons (pv 7) (pa_cons (pv 12) (pa_cons (pv 10) (pa_cons (pv 11) pa_nil)))))))) (pss_one (ps_ret pe_bl)) pss_nil)
 (pss_cons (ps_if (pt_not (pt_val (clY (hU T D) hr tk (pa_cons (clY (kF T D) hr tk (pa_cons (pv 3) (pa_cons (pv 7) (pa_cons (ixY K hr (pv 10) pe_int) (pa_cons (ixY K hr (pv 10) pe_int) pa_nil))))) (pa_cons (pv 11) pa_nil))))) (pss_one (ps_ret pe_bl)) pss_nil)
 (pss_cons (ps_if (pt_not (pt_val (clY (nP T D) hr tk (pa_cons (clY (ib T D) hr tk (pa_cons (pv 3) (pa_cons (tyY (jq (K:=K) rfl) T.z_list (pa_cons (pv 12) pa_nil)) pa_nil))) (pa_cons (pv 7) pa_nil))))) (pss_one (ps_ret pe_bl)) pss_nil)
 (pss_one (ps_expr (pe_bm PySem.F.plainAttrs_list PySem.F.slot_list_append PySem.F.type_list_append mt_append (pv 13) (pa_cons (pe_tup (pa_cons (pv 12) (pa_cons (clY (Ac T D) hr tk (pa_cons (pv 12) pa_nil)) (pa_cons (tyY (jr (K:=K) rfl) T.z_dict (pa_cons (pv 7) pa_nil)) pa_nil)))) pa_nil)))))))))))
 (pss_cons (ps_expr (clY (wg T D) hr tk (pa_cons (pv 3) (pa_cons (pv 4) pa_nil))))
 (pss_cons (ps_for PassesOwn.never rfl (pi_list (pv 13)) (fN (K:=K) (n:=3) rfl (pgs_cons (gnY 12 bK) (pgs_cons (gnY 16 bK) (pgs_cons (gnY 7 bK) pgs_nil)))) (pss_one (ps_if (PW.pt (pw_or (ctY (neY K hr) (clY (Ac T D) hr tk (pa_cons (pv 12) pa_nil)) (pv 16)) (pw_or1 (pt_not (pt_val (clY (nP T D) hr tk (pa_cons (clY (ib T D) hr tk (pa_cons (pv 3) (pa_cons (pv 12) pa_nil))) (pa_cons (pv 7) pa_nil)))))))) (pss_one (ps_ret pe_bl)) pss_nil)))
 (pss_one (ps_ret pe_bl)))))))))))))))))),(RS.seq (aad (RE.fix (RE.sl aaa RO.no (RO.part aab))) RG.name)
 (RS.seq (aad (RE.fix (RE.call .nil (RA.cons (RE.c1 q_sum (RE.sl aaa RO.no (RO.part aab))) RA.nil) (.cons Many.nil) rfl)) RG.name)
 (RS.seq (aad (RE.call .nil (RA.cons aaa (RA.cons aaa RA.nil)) (.cons (.cons Many.nil)) rfl) (RG.names (is:= [3,4,5]) rfl))
 (RS.seq (aad (RE.call .nil (RA.cons (RE.c1 q_sum (RE.sl aaa RO.no (RO.part aab))) (RA.cons aab (RA.cons aab RA.nil))) (.cons (.cons (.cons Many.nil))) rfl) RG.name)
 (RS.seq (aaf (aam (RT.val (aac je (aac bc aaa aab) aab)) (aag (RT.val (RE.call .nil (RA.cons aaa (RA.cons aaa (RA.cons aaa (RA.cons aaa RA.nil)))) (.cons (.cons (.cons (.cons Many.nil)))) rfl)))) (RS.ret aai) RS.next)
 (RS.seq (aaf (RT.or (aag (RT.val aaa)) (RT.val (aac q_lt (RE.c1 bY (aac aO aaa aae)) aab))) (RS.ret aaa) RS.next)
 (RS.seq (aad (RE.cell (RE.call .nil (RA.cons aaa (RA.cons aaa RA.nil)) (.cons (.cons Many.nil)) rfl)) RG.name)
 (RS.seq (aad (RE.call .nil (RA.cons (RE.c1 q_sum (RE.sl aaa RO.no (RO.part aab))) (RA.cons aab (RA.cons aab RA.nil))) (.cons (.cons (.cons Many.nil))) rfl) RG.name)
 (RS.seq (aad (aac aO aaa aae) RG.name)
 (RS.seq (aad (RE.tup (RA.cons (aac aO aaa (aac bc aaa (RE.c1 bY aaa))) (RA.cons (aac aO aaa (aac bc (aac bz (aac bz aaa aab) (aac bc (aac eX aaa aab) (aac mY (RE.c1 bY aaa) aab))) (RE.c1 bY aaa))) RA.nil)) (.cons (.cons Many.nil)) (by decide)) RG.name)
 (RS.seq (aad aab RG.name)
 (RS.seq (aad (RE.lst RA.nil Many.nil (by decide)) RG.name)
 (RS.seq (aad (RE.lst RA.nil Many.nil (by decide)) RG.name)
 (RS.seq (RS.for' (RI.enum (RE.fix aaa)) (RG.names (is:= [14,15]) rfl) (RS.seq (aaf (RT.val (aac je (aac bc (RE.call .nil (RA.cons aaa (RA.cons aaa (RA.cons aab RA.nil))) (.cons (.cons (.cons Many.nil))) rfl) aab) aab)) (aad (aac mY aaa (RE.call .nil (RA.cons aaa (RA.cons aaa (RA.cons (RE.call .nil (RA.cons aaa (RA.cons aaa (RA.cons aab RA.nil))) (.cons (.cons (.cons Many.nil))) rfl) RA.nil))) (.cons (.cons (.cons Many.nil))) rfl)) RG.name) (aad (aac bz aaa (RE.call .nil (RA.cons aaa (RA.cons aaa (RA.cons aaa (RA.cons aaa (RA.cons aaa RA.nil))))) (.cons (.cons (.cons (.cons (.cons Many.nil))))) rfl)) RG.name))
 (RS.seq (RS.drop (RE.call .nil (RA.cons aaa (RA.cons aaa (RA.cons aaa (RA.cons (RE.call .nil (RA.cons aaa (RA.cons aaa (RA.cons aab RA.nil))) (.cons (.cons (.cons Many.nil))) rfl) RA.nil)))) (.cons (.cons (.cons (.cons Many.nil)))) rfl))
 (RS.seq (aad (RE.call .nil (RA.cons aaa (RA.cons (RE.c1 rj aaa) (RA.cons (aac aO aaa aab) (RA.cons (aac aO aaa aab) RA.nil)))) (.cons (.cons (.cons (.cons Many.nil)))) rfl) RG.name)
 (RS.seq (aaf (aag (RT.val (RE.call .nil (RA.cons aaa (RA.cons aaa (RA.cons aaa (RA.cons aaa (RA.cons aaa RA.nil))))) (.cons (.cons (.cons (.cons (.cons Many.nil))))) rfl))) (RS.ret aai) RS.next)
 (RS.seq (aaf (aag (RT.val (RE.call .nil (RA.cons (RE.call .nil (RA.cons aaa (RA.cons aaa (RA.cons (aac aO aaa aab) (RA.cons (aac aO aaa aab) RA.nil)))) (.cons (.cons (.cons (.cons Many.nil)))) rfl) (RA.cons aaa RA.nil)) (.cons (.cons Many.nil)) rfl))) (RS.ret aai) RS.next)
 (RS.seq (aaf (aag (RT.val (RE.call .nil (RA.cons (RE.call .nil (RA.cons aaa (RA.cons (RE.c1 rh aaa) RA.nil)) (.cons (.cons Many.nil)) rfl) (RA.cons aaa RA.nil)) (.cons (.cons Many.nil)) rfl))) (RS.ret aai) RS.next)
 (RS.drop (RE.append aaa (RE.tup (RA.cons aaa (RA.cons (RE.call .nil (RA.cons aaa RA.nil) (.cons Many.nil) rfl) (RA.cons (RE.c1 rj aaa) RA.nil))) (.cons (.cons (.cons Many.nil))) (by decide)))))))))))
 (RS.seq (RS.drop (RE.cell (RE.call .nil (RA.cons aaa (RA.cons aaa RA.nil)) (.cons (.cons Many.nil)) rfl)))
 (RS.seq (RS.for' (RI.lst (RE.fix aaa)) (RG.names (is:= [12,16,7]) rfl) (aaf (RT.or (RT.val (aac xg (RE.call .nil (RA.cons aaa RA.nil) (.cons Many.nil) rfl) aaa)) (aag (RT.val (RE.call .nil (RA.cons (RE.call .nil (RA.cons aaa (RA.cons aaa RA.nil)) (.cons (.cons Many.nil)) rfl) (RA.cons aaa RA.nil)) (.cons (.cons Many.nil)) rfl)))) (RS.ret aai) RS.next))
 (RS.ret aai)))))))))))))))))⟩
end
end T

namespace Z
open PySem PySem.Spec PyProof.Rows L2 M
open Classical
section
variable {α β:Type} {a b:Vl} {x y:D} {s s' :SD} {S:Sto} {sl:List (Option Vl)} {f g:SD→R Fl} {fa fb fc:SD→R Vl} {fr:SD→R (List D)} {i j k:Nat}
theorem ve {a:α} {k:α→SD→R β}:R.bind (.ok a s) k=k a s:=Eq.trans rfl rfl
theorem qs {k:α→SD→R β}:R.bind .bad k= .bad:=rfl
theorem qr {c:Prop} [Decidable c] {m n:R α} {k:α→SD→R β}:R.bind (if c then m else n) k=if c then m.bind k else n.bind k:=by split<;> rfl
theorem iteW {c:Prop} [Decidable c] {P Q:Prop} (h:c) (p:P):if c then P else Q:=by rw [if_pos h]; exact p
def compK {γ:Type} (k:α→SD→R β) (l:β→SD→R γ):α→SD→R γ:=fun a s=>(k a s).bind l
theorem xx {γ:Type} {k:α→SD→R β} {l:β→SD→R γ} {a:α}:compK k l a s=(k a s).bind l:=rfl
theorem mJ {γ:Type} {m:R α} {k:α→SD→R β} {l:β→SD→R γ}:R.bind (R.bind m k) l=R.bind m (compK k l):=by cases m<;> rfl
theorem Am {c:Prop} [Decidable c] {m n:R α} {Q:α→SD→Prop} {E:XQ}:Wp (if c then m else n) Q E=if c then Wp m Q E else Wp n Q E:=by split<;> rfl
def seqK (g:SD→R Fl):Fl→SD→R Fl
 | .nx,s=>g s
 | .bk,s=> .ok .bk s
 | .ct,s=> .ok .ct s
 | .rt a,s=> .ok (.rt a) s
theorem e_seq:ai f g s=(f s).bind (seqK g):=by
 unfold ai
 congr
 funext fl s1
 cases fl<;> rfl
theorem tm:seqK g .nx s=g s:=Eq.trans rfl rfl
theorem tj:seqK g (.rt a) s= .ok (.rt a) s:=rfl
theorem tu:seqK g .bk s= .ok .bk s:=rfl
theorem tq:seqK g .ct s= .ok .ct s:=rfl
def nxK {α:Type}:α→SD→R Fl:=fun _ s=> .ok .nx s
theorem x_nx {α:Type} {a:α}:nxK a s= .ok .nx s:=rfl
def asgK (fz:Vl→SD→R Unit):Vl→SD→R Fl:=fun a s=>(fz a s).bind nxK
theorem x_asg {fz:Vl→SD→R Unit}:asgK fz a s=(fz a s).bind nxK:=rfl
theorem e_asg {fz:Vl→SD→R Unit}:aw fa fz s=(fa s).bind (asgK fz):=rfl
theorem zu:zSt i (.d x) ⟨sl,S⟩= .ok () ⟨sl.set i (some (.d x)),S⟩:=rfl
theorem pY:zSt i (.own x) ⟨sl,S⟩= .ok () ⟨sl.set i (some (.own x)),S⟩:=rfl
def stK (i:Nat):D→SD→R Unit:=fun x s=> .ok () {s with sl:=s.sl.set i (some (.d x))}
theorem x_st:stK i x ⟨sl,S⟩= .ok () ⟨sl.set i (some (.d x)),S⟩:=rfl
theorem pZ:zSt i (.loc k) s=(s.fix (.loc k)).bind (stK i):=rfl
theorem zy:au s= .ok .nx s:=rfl
theorem uN:zBreak s= .ok .bk s:=rfl
theorem zG:zCont s= .ok .ct s:=rfl
def ifK {α:Type} (f g:SD→R α):Bool→SD→R α:=fun b s=>if b=true then f s else g s
theorem x_if {α:Type} {f g:SD→R α} {b:Bool}:ifK f g b s=if b=true then f s else g s:=Eq.trans rfl rfl
theorem e_ifS {c:SD→R Bool}:bb c f g s=(c s).bind (ifK f g):=rfl
def rtK:Vl→SD→R Fl:=fun b s=> .ok (.rt b) s
theorem x_rt:rtK a s= .ok (.rt a) s:=rfl
def retK:Vl→SD→R Fl:=fun a s=>(s.told a).bind rtK
theorem x_ret:retK a s=(s.told a).bind rtK:=rfl
theorem e_ret:aN fa s=(fa s).bind retK:=rfl
theorem zv:zRetN s= .ok (.rt (.d .non)) s:=rfl
theorem zD:aH fa s=(fa s).bind nxK:=rfl
theorem uK:cY s= .bad:=rfl
theorem xP:s.told (.d x)= .ok (.d x) s:=rfl
theorem oo:s.told (.own x)= .ok (.own x) s:=rfl
def toldK (s:SD) (k:Nat):Option (Option Vl)→R Vl
 | some (some (.own x))=> .ok (.own x) {s with sl:=s.sl.set k none}
 | some (some (.d x))=> .ok (.d x) s
 | _=> .bad
theorem oq:s.told (.loc k)=toldK s k s.sl[k]? :=by
 unfold SD.told toldK
 rfl
theorem lz:toldK ⟨sl,S⟩ k (some (some (.own x)))= .ok (.own x) ⟨sl.set k none,S⟩:=rfl
theorem e_c:zC x s= .ok (.d x) s:=rfl
def varK (s:SD) (i:Nat):Option (Option Vl)→R Vl
 | some (some (.own _))=> .ok (.loc i) s
 | some (some (.d x))=> .ok (.d x) s
 | _=> .bad
theorem e_var:aa i s=varK s i s.sl[i]? :=by
 unfold aa varK
 rfl
theorem oi:varK s i (some (some (.own x)))= .ok (.loc i) s:=rfl
theorem xM:varK s i (some (some (.d x)))= .ok (.d x) s:=rfl
theorem e_z1 {h:Vl→SD→R Vl}:z1 h fa s=(fa s).bind h:=rfl
def z2K (h:Vl→Vl→SD→R Vl) (fb:SD→R Vl):Vl→SD→R Vl:=fun a s=>(fb s).bind (h a)
theorem x_z2 {h:Vl→Vl→SD→R Vl}:z2K h fb a s=(fb s).bind (h a):=rfl
theorem e_z2 {h:Vl→Vl→SD→R Vl}:z2 h fa fb s=(fa s).bind (z2K h fb):=rfl
theorem fix_d:s.fix (.d x)= .ok x s:=rfl
theorem uD:s.fix (.own x)= .ok x s:=rfl
def fixK (s:SD) (k:Nat):Option (Option Vl)→R D
 | some (some (.own x))=> .ok x {s with sl:=s.sl.set k (some (.d x))}
 | some (some (.d x))=> .ok x s
 | _=> .bad
theorem uE:s.fix (.loc k)=fixK s k s.sl[k]? :=by
 unfold SD.fix fixK
 rfl
theorem pX:fixK ⟨sl,S⟩ k (some (some (.own x)))= .ok x ⟨sl.set k (some (.d x)),S⟩:=rfl
theorem zk:fixK s k (some (some (.d x)))= .ok x s:=rfl
def dK' :D→SD→R Vl:=fun x s=> .ok (.d x) s
theorem x_d:dK' x s= .ok (.d x) s:=rfl
def viaK (h:SD→Vl→R D):Vl→SD→R Vl:=fun a s=>(h s a).bind dK'
theorem x_via {h:SD→Vl→R D}:viaK h a s=(h s a).bind dK' :=rfl
theorem e_via {h:SD→Vl→R D}:xa h fa s=(fa s).bind (viaK h):=rfl
theorem ka:SD.celled ⟨sl,S⟩ (.own x)= .ok (.cell S.nx) ⟨sl,S.new x⟩:=rfl
theorem iK:SD.celled s (.d (.cell i))= .ok (.cell i) s:=rfl
theorem Bt (h:S.get i=some x):SD.frz ⟨sl,S⟩ (.d (.cell i))= .ok x ⟨sl,S.del i⟩:=by
 unfold SD.frz
 simp only [h]
theorem e_a0:zA0 s= .ok [] s:=rfl
def consK (x:D):List D→SD→R (List D):=fun xs s=> .ok (x::xs) s
theorem xw {xs:List D}:consK x xs s= .ok (x::xs) s:=rfl
def fixK' (fr:SD→R (List D)):D→SD→R (List D):=fun x s=>(fr s).bind (consK x)
theorem x_fix:fixK' fr x s=(fr s).bind (consK x):=rfl
def aK (fr:SD→R (List D)):Vl→SD→R (List D):=fun a s=>(s.fix a).bind (fixK' fr)
theorem x_a:aK fr a s=(s.fix a).bind (fixK' fr):=rfl
theorem e_a:zA fa fr s=(fa s).bind (aK fr):=rfl
def tupK:List D→SD→R Vl:=fun xs s=> .ok (.d (.tup xs)) s
theorem x_tup {xs:List D}:tupK xs s= .ok (.d (.tup xs)) s:=rfl
def lstK:List D→SD→R Vl:=fun xs s=> .ok (.own (.lst xs)) s
theorem x_lst {xs:List D}:lstK xs s= .ok (.own (.lst xs)) s:=rfl
theorem e_tup:fR fr s=(fr s).bind tupK:=rfl
theorem e_lst:fS fr s=(fr s).bind lstK:=rfl
theorem zE:mU s= .ok (.own (.dct [])) s:=rfl
theorem e_b:zB fa s=(fa s).bind oB:=rfl
theorem oB_bl {b:Bool}:oB (.d (.bl b)) s= .ok b s:=rfl
def okK {α:Type} (b:α):SD→R α:=fun s=> .ok b s
theorem x_ok {α:Type} {b:α}:okK b s= .ok b s:=rfl
def notK:Bool→SD→R Bool:=fun b s=> .ok (!b) s
theorem x_not {b:Bool}:notK b s= .ok (!b) s:=rfl
def notVK:Bool→SD→R Vl:=fun b s=> .ok (.d (.bl (!b))) s
theorem xt {b:Bool}:notVK b s= .ok (.d (.bl (!b))) s:=rfl
theorem e_and {c d:SD→R Bool}:mV c d s=(c s).bind (ifK d (okK false)):=rfl
theorem e_or {c d:SD→R Bool}:zOr c d s=(c s).bind (ifK (okK true) d):=rfl
theorem e_not {c:SD→R Bool}:cK c s=(c s).bind notK:=rfl
theorem zJ:fV fa fb s=(zB fa s).bind (ifK fb (okK (.d (.bl false)))):=rfl
theorem e_orV:zOrV fa fb s=(zB fa s).bind (ifK (okK (.d (.bl true))) fb):=rfl
theorem zx:qL fa s=(zB fa s).bind notVK:=rfl
theorem e_if {c:SD→R Bool}:zIf c fa fb s=(c s).bind (ifK fa fb):=rfl
def callK (F:FnV) (dds:List D):List D→SD→R Vl:=fun ds s=>goF F (ds++dds) s
theorem xy {F:FnV} {dds ds:List D}:callK F dds ds s=goF F (ds++dds) s:=rfl
theorem zH {F:FnV} {dds:List D}:ag F dds fr s=(fr s).bind (callK F dds):=rfl
def yN (c m:Str) (F:FnV) (dds:List D) (fr:SD→R (List D)) (x:D) (s:SD):Option D→R Vl
 | some (.obj c' fs)=>if c' =c∧fO fs m=none then (fr s).bind fun ds s3=>goF F (x::(ds++dds)) s3 else .bad
 | _=> .bad
def selfK (F:FnV) (dds:List D) (x:D):List D→SD→R Vl:=fun ds s=>goF F (x::(ds++dds)) s
theorem xq {F:FnV} {dds ds:List D}:selfK F dds x ds s=goF F (x::(ds++dds)) s:=rfl
def vG (c m:Str) (F:FnV) (dds:List D) (fr:SD→R (List D)):D→SD→R Vl:=fun x s=>yN c m F dds fr x s (s.cont (.d x))
theorem sG {c m:Str} {F:FnV} {dds:List D}:vG c m F dds fr x s=yN c m F dds fr x s (s.cont (.d x)):=rfl
def yM (c m:Str) (F:FnV) (dds:List D) (fr:SD→R (List D)):Vl→SD→R Vl:=fun a s=>(s.fix a).bind (vG c m F dds fr)
theorem sH {c m:Str} {F:FnV} {dds:List D}:yM c m F dds fr a s=(s.fix a).bind (vG c m F dds fr):=rfl
theorem zz {c m:Str} {F:FnV} {dds:List D} {fo:SD→R Vl}:bL c m F dds fo fr s=(fo s).bind (yM c m F dds fr):=by
 unfold bL yM vG yN
 rfl
theorem ar {c m:Str} {F:FnV} {dds:List D} {fs:List (Str×D)} (h:fO fs m=none):yN c m F dds fr x s (some (.obj c fs))=(fr s).bind (selfK F dds x):=by
 unfold yN
 simp only [h,and_self,if_true]
 rfl
def zU (f g:Vl→Vl→SD→R Vl) (fc:SD→R Vl) (a b:Vl) (s2:SD):R Vl:=match b with
 | .d z=>match D.sc z with
  | some _=>(f a b s2).bind fun r s3=>match r with
   | .d (.bl true)=>(fc s3).bind fun c s4=>g (.d z) c s4
   | .d (.bl false)=> .ok (.d (.bl false)) s3
   | _=> .bad
  | none=> .bad
 | _=> .bad
def uY (h l:Vl→Vl→SD→R Vl) (fc:SD→R Vl) (a:Vl):Vl→SD→R Vl:=fun b s=>zU h l fc a b s
theorem nU {h l:Vl→Vl→SD→R Vl}:uY h l fc a b s=zU h l fc a b s:=rfl
def zV (h l:Vl→Vl→SD→R Vl) (fb fc:SD→R Vl):Vl→SD→R Vl:=fun a s=>(fb s).bind (uY h l fc a)
theorem nV {h l:Vl→Vl→SD→R Vl}:zV h l fb fc a s=(fb s).bind (uY h l fc a):=rfl
theorem uM {h l:Vl→Vl→SD→R Vl}:qM h l fa fb fc s=(fa s).bind (zV h l fb fc):=rfl
def chK (l:Vl→Vl→SD→R Vl) (fc:SD→R Vl) (b:Vl) (r:Vl) (s:SD):R Vl:=match r with
 | .d (.bl true)=>(fc s).bind fun c s4=>l b c s4
 | .d (.bl false)=> .ok (.d (.bl false)) s
 | _=> .bad
theorem zW {l:Vl→Vl→SD→R Vl} {t:Bool}:chK l fc b (.d (.bl t)) s=if t=true then (fc s).bind (l b) else .ok (.d (.bl false)) s:=by cases t<;> rfl
theorem jZ {h l:Vl→Vl→SD→R Vl} {n:Int}:zU h l fc a (.d (.int n)) s=(h a (.d (.int n)) s).bind (chK l fc (.d (.int n))):=rfl
theorem e_no:zNo s= .ok none s:=rfl
def ptK:Vl→SD→R (Option Int)
 | .d (.int i),s=> .ok (some i) s
 | _,_=> .bad
theorem x_pt {n:Int}:ptK (.d (.int n)) s= .ok (some n) s:=rfl
theorem e_pt:zPt fa s=(fa s).bind ptK:=by
 unfold zPt
 congr
 funext a s1
 cases a with
 | d x=>cases x<;> rfl
 | own x=>rfl
 | loc k=>rfl
noncomputable def sl3K (a:Vl) (lo:Option Int):Option Int→SD→R Vl:=fun hi s=>oSl a lo hi s
theorem x_sl3 {lo hi:Option Int}:sl3K a lo hi s=oSl a lo hi s:=rfl
noncomputable def sl2K (fh:SD→R (Option Int)) (a:Vl):Option Int→SD→R Vl:=fun lo s=>(fh s).bind (sl3K a lo)
theorem x_sl2 {fh:SD→R (Option Int)} {lo:Option Int}:sl2K fh a lo s=(fh s).bind (sl3K a lo):=rfl
noncomputable def sl1K (fl fh:SD→R (Option Int)):Vl→SD→R Vl:=fun a s=>(fl s).bind (sl2K fh a)
theorem x_sl1 {fl fh:SD→R (Option Int)}:sl1K fl fh a s=(fl s).bind (sl2K fh a):=rfl
theorem e_sl {fl fh:SD→R (Option Int)}:zSl fa fl fh s=(fa s).bind (sl1K fl fh):=rfl
theorem qj {n:Int}:s.cont (.d (.int n))=some (.int n):=rfl
theorem kU {z:Str}:s.cont (.d (.str z))=some (.str z):=rfl
theorem uT {t:Bool}:s.cont (.d (.bl t))=some (.bl t):=rfl
theorem qg:s.cont (.d .non)=some .non:=rfl
theorem hJ {l:List D}:s.cont (.d (.lst l))=some (.lst l):=rfl
theorem kW {l:List D}:s.cont (.d (.con l))=some (.con l):=rfl
theorem kT {l:List D}:s.cont (.d (.tup l))=some (.tup l):=rfl
theorem qm {l:List (Key×D)}:s.cont (.d (.dct l))=some (.dct l):=rfl
theorem qf {c:Str} {l:List (Str×D)}:s.cont (.d (.obj c l))=some (.obj c l):=rfl
theorem cI:s.cont (.d (.cell i))=s.st.get i:=rfl
theorem gZ:s.cont (.own x)=some x:=rfl
def contK (S:Sto):Option (Option Vl)→Option D
 | some (some (.own x))=>some x
 | some (some (.d (.cell i)))=>S.get i
 | some (some (.d x))=>some x
 | _=>none
theorem qh:s.cont (.loc k)=contK s.st s.sl[k]? :=by
 show (match s.sl[k]? with | some (some (.own x))=>some x | some (some (.d (.cell i)))=>s.st.get i | some (some (.d x))=>some x | _=>none)=_
 unfold contK
 rfl
theorem mE:contK S (some (some (.own x)))=some x:=rfl
theorem w_sub {m n:Int}:mZ (.d (.int m)) (.d (.int n)) s= .ok (.d (.int (m - n))) s:=rfl
theorem w_mod {m n:Int}:bN (.d (.int m)) (.d (.int n)) s=if 0<n then .ok (.d (.int (m%n))) s else .bad:=rfl
theorem w_div {m n:Int}:iF (.d (.int m)) (.d (.int n)) s=if CDivW m n then .ok (.d (.int (m / n))) s else .bad:=rfl
theorem w_pow {m n:Int}:qK (.d (.int m)) (.d (.int n)) s=if wZ m n then .ok (.d (.int (m ^ n.toNat))) s else .bad:=rfl
theorem w_cmp {h:Int→Int→Bool} {m n:Int}:Bc h (.d (.int m)) (.d (.int n)) s= .ok (.d (.bl (h m n))) s:=rfl
noncomputable def addK (s:SD):Option D→Option D→R Vl
 | some (.int i),some (.int j)=> .ok (.d (.int (i+j))) s
 | some (.str x),some (.str y)=>if x.length+y.length≤sizeLine then .ok (.d (.str (x++y))) s else .bad
 | some (.lst xs),some (.lst ys)=>if xs.length+ys.length≤sizeLine then .ok (.own (.lst (xs++ys))) s else .bad
 | some (.tup xs),some (.tup ys)=>if xs≠ []∧ys≠ []∧xs.length+ys.length≤sizeLine then .ok (.d (.tup (xs++ys))) s else .bad
 | _,_=> .bad
theorem w_add:bX a b s=addK s (s.cont a) (s.cont b):=by
 unfold bX addK
 rfl
theorem qH {m n:Int}:addK s (some (.int m)) (some (.int n))= .ok (.d (.int (m+n))) s:=rfl
theorem qF {m n:Str}:addK s (some (.str m)) (some (.str n))=if m.length+n.length≤sizeLine then .ok (.d (.str (m++n))) s else .bad:=rfl
theorem qG {m n:List D}:addK s (some (.lst m)) (some (.lst n))=if m.length+n.length≤sizeLine then .ok (.own (.lst (m++n))) s else .bad:=rfl
theorem qE {m n:List D}:addK s (some (.tup m)) (some (.tup n))=if m≠ []∧n≠ []∧m.length+n.length≤sizeLine then .ok (.d (.tup (m++n))) s else .bad:=rfl
noncomputable def mulK (s:SD):Option D→Option D→R Vl
 | some (.int i),some (.int j)=>if CMulX i j then .ok (.d (.int (i*j))) s else .bad
 | some (.lst xs),some (.int k)=>if -(2 ^ 63)≤k∧k<2 ^ 63∧xs.length*k.toNat≤sizeLine then .ok (.own (.lst (List.replicate k.toNat xs).flatten)) s else .bad
 | some (.str z),some (.int k)=>if PySem.MulOk z k then .ok (.d (.str (Txt.mul z k))) s else .bad
 | _,_=> .bad
theorem xH:mT a b s=mulK s (s.cont a) (s.cont b):=by
 unfold mT mulK
 rfl
theorem pA {i j:Int}:mulK s (some (.int i)) (some (.int j))=if CMulX i j then .ok (.d (.int (i*j))) s else .bad:=rfl
theorem pq {z:Str} {k:Int}:mulK s (some (.str z)) (some (.int k))=if PySem.MulOk z k then .ok (.d (.str (Txt.mul z k))) s else .bad:=rfl
theorem pz {xs:List D} {k:Int}:mulK s (some (.lst xs)) (some (.int k))=if -(2 ^ 63)≤k∧k<2 ^ 63∧xs.length*k.toNat≤sizeLine then .ok (.own (.lst (List.replicate k.toNat xs).flatten)) s else .bad:=rfl
theorem w_neg {n:Int}:yC (.d (.int n)) s= .ok (.d (.int (-n))) s:=rfl
theorem w_min {m n:Int}:rG (.d (.int m)) (.d (.int n)) s= .ok (.d (.int (if n<m then n else m))) s:=rfl
def Ax (t:Ty1) (s:SD):Option D→R Vl
 | some x=>match x.knd with
  | some _=> .ok (.d (.bl (isT t x))) s
  | none=> .bad
 | none=> .bad
theorem w_isi {t:Ty1}:pf t a s=Ax t s (s.cont a):=by
 unfold pf Ax
 rfl
theorem ur {t:Ty1} {n:Int}:Ax t s (some (.int n))= .ok (.d (.bl (isT t (.int n)))) s:=rfl
theorem yV {t:Ty1} {n:Bool}:Ax t s (some (.bl n))= .ok (.d (.bl (isT t (.bl n)))) s:=rfl
theorem uk {t:Ty1} {n:Str}:Ax t s (some (.str n))= .ok (.d (.bl (isT t (.str n)))) s:=rfl
theorem um {t:Ty1}:Ax t s (some .non)= .ok (.d (.bl (isT t .non))) s:=rfl
theorem uo {t:Ty1} {n:List D}:Ax t s (some (.lst n))= .ok (.d (.bl (isT t (.lst n)))) s:=rfl
theorem uw {t:Ty1} {n:List D}:Ax t s (some (.con n))= .ok (.d (.bl (isT t (.con n)))) s:=rfl
theorem uj {t:Ty1} {n:List D}:Ax t s (some (.tup n))= .ok (.d (.bl (isT t (.tup n)))) s:=rfl
theorem uu {t:Ty1} {n:List (Key×D)}:Ax t s (some (.dct n))= .ok (.d (.bl (isT t (.dct n)))) s:=rfl
theorem lj {neg:Bool} {n:Int}:kK neg (.d (.int n)) (.d .non) s= .ok (.d (.bl neg)) s:=rfl
theorem lg {neg:Bool} {n:List D}:kK neg (.d (.tup n)) (.d .non) s= .ok (.d (.bl neg)) s:=rfl
theorem nZ {neg:Bool}:kK neg (.d .non) (.d .non) s= .ok (.d (.bl (!neg))) s:=rfl
theorem xJ {neg:Bool} (h:x≠ .non):kK neg (.d x) (.d .non) s= .ok (.d (.bl neg)) s:=by
 cases x<;> first | rfl | exact absurd rfl h
noncomputable def eqK (s:SD):Option D→Option D→R Vl
 | some x,some y=>match dEq x y with
  | some r=> .ok (.d (.bl r)) s
  | none=> .bad
 | _,_=> .bad
theorem w_eq:oEq a b s=eqK s (s.cont a) (s.cont b):=by
 unfold oEq eqK
 rfl
theorem vY {r:Bool} (h:dEq x y=some r):eqK s (some x) (some y)= .ok (.d (.bl r)) s:=by
 unfold eqK
 simp only [h]
theorem uR {i j:Int}:dEq (.int i) (.int j)=some (decide (i=j)):=by
 show some (decide (V.int i=V.int j))=_
 congr 1
 apply decide_eq_decide.mpr
 exact ⟨fun h=>by cases h; rfl,fun h=>by rw [h]⟩
theorem zM {i j:Str}:dEq (.str i) (.str j)=some (decide (i=j)):=by
 show some (decide (V.str i=V.str j))=_
 congr 1
 apply decide_eq_decide.mpr
 exact ⟨fun h=>by cases h; rfl,fun h=>by rw [h]⟩
theorem uJ {i j:Int}:eqK s (some (.int i)) (some (.int j))= .ok (.d (.bl (decide (i=j)))) s:=vY uR
theorem my {i j:Str}:eqK s (some (.str i)) (some (.str j))= .ok (.d (.bl (decide (i=j)))) s:=vY zM
noncomputable def neK (s:SD):Option D→Option D→R Vl
 | some (.dct ks),some (.dct [])=> .ok (.d (.bl (!ks.isEmpty))) s
 | some x,some y=>match dEq x y with
  | some r=> .ok (.d (.bl (!r))) s
  | none=> .bad
 | _,_=> .bad
theorem w_ne:oNe a b s=neK s (s.cont a) (s.cont b):=by
 unfold oNe neK
 rfl
theorem ua {l:List D}:neK s (some (.lst l)) (some (.lst []))= .ok (.d (.bl (!l.isEmpty))) s:=by
 unfold neK dEq
 rfl
theorem uc {l:List (Key×D)}:neK s (some (.dct l)) (some (.dct []))= .ok (.d (.bl (!l.isEmpty))) s:=rfl
theorem zN {ks ls:List (Key×D)} (h:sk ks ls=true):dEq (.dct ks) (.dct ls)=some true:=by
 unfold dEq
 show (if sk ks ls=true then some true else none)=_
 rw [if_pos h]
theorem neK_dd {ks ls:List (Key×D)} (h:sk ks ls=true):neK s (some (.dct ks)) (some (.dct ls))= .ok (.d (.bl false)) s:=by
 cases ls with
 | nil=>
  have:=(mA h).1
  obtain rfl:ks= []:=List.eq_nil_of_length_eq_zero (by simpa using this)
  rfl
 | cons q r=>
  unfold neK
  simp only [zN h]
  rfl
theorem cU {l:List D}:eqK s (some (.lst l)) (some (.lst []))= .ok (.d (.bl l.isEmpty)) s:=by
 unfold eqK dEq
 rfl
theorem yK {l l' :List D} {r:Bool} (h:dEq (.tup l) (.tup l')=some r):neK s (some (.tup l)) (some (.tup l'))= .ok (.d (.bl (!r))) s:=by
 unfold neK
 simp only [h]
noncomputable def inK (neg:Bool) (s:SD):Option D→Option D→R Vl
 | some x,some y=>match dIn x y with
  | some r=> .ok (.d (.bl (if neg then !r else r))) s
  | none=> .bad
 | _,_=> .bad
theorem w_in {neg:Bool}:oIn neg a b s=inK neg s (s.cont a) (s.cont b):=by
 unfold oIn inK
 rfl
theorem hZ {neg r:Bool} (h:dIn x y=some r):inK neg s (some x) (some y)= .ok (.d (.bl (if neg then !r else r))) s:=by
 unfold inK
 simp only [h]
noncomputable def ixK (s:SD):Option D→Option D→R Vl
 | some x,some y=>match dIx x y with
  | some r=> .ok (.d r) s
  | none=> .bad
 | _,_=> .bad
theorem w_ix:oIx a b s=ixK s (s.cont a) (s.cont b):=by
 unfold oIx ixK
 rfl
theorem ao {r:D} (h:dIx x y=some r):ixK s (some x) (some y)= .ok (.d r) s:=by
 unfold ixK
 simp only [h]
def lenK (s:SD):Option D→R Vl
 | some (.lst xs)=> .ok (.d (.int xs.length)) s
 | some (.con xs)=> .ok (.d (.int xs.length)) s
 | some (.tup xs)=> .ok (.d (.int xs.length)) s
 | some (.str z)=>if z.length≤sizeLine then .ok (.d (.int z.length)) s else .bad
 | some (.dct ks)=> .ok (.d (.int ks.length)) s
 | _=> .bad
theorem w_len:cS a s=lenK s (s.cont a):=by
 unfold cS lenK
 rfl
theorem pE {l:List D}:lenK s (some (.lst l))= .ok (.d (.int l.length)) s:=rfl
theorem pG {l:List D}:lenK s (some (.con l))= .ok (.d (.int l.length)) s:=rfl
theorem pF {l:List (Key×D)}:lenK s (some (.dct l))= .ok (.d (.int l.length)) s:=rfl
theorem pD {z:Str}:lenK s (some (.str z))=if z.length≤sizeLine then .ok (.d (.int z.length)) s else .bad:=rfl
def fldK (cls:List Str) (f:Str) (s:SD):Option D→R Vl
 | some (.obj c fs)=>if c∈cls then match fO fs f with
  | some x=> .ok (.d x) s
  | none=> .bad
  else .bad
 | _=> .bad
theorem w_fld {cls:List Str} {f:Str}:ba cls f a s=fldK cls f s (s.cont a):=by
 unfold ba fldK
 rfl
theorem ak {c f:Str} {fs:List (Str×D)} (h:fO fs f=some x):fldK [c] f s (some (.obj c fs))= .ok (.d x) s:=by
 unfold fldK
 simp only [List.mem_singleton,if_true,h]
def dfK (f:D→R Vl):Option D→R Vl
 | some x=>f x
 | none=> .bad
theorem jo {α:Type} (f:α→Bool):∀l:List α,BA (l.map fun c=>D.bl (f c))=some (l.map f)
 | []=>rfl
 | a::l=>by rw [List.map_cons,BA,jo f l,List.map_cons]
theorem mB {α:Type} (f:α→Int):∀l:List α,jn (l.map fun c=>D.int (f c))=some (l.map f)
 | []=>rfl
 | a::l=>by rw [List.map_cons,jn,mB f l,List.map_cons]
theorem sj {α:Type} (f:α→Str):∀l:List α,uO (l.map fun c=>D.str (f c))=some (l.map f)
 | []=>rfl
 | a::l=>by rw [List.map_cons,uO,sj f l,List.map_cons]
theorem qD {ds:List D} {bs:List Bool} (h:BA ds=some bs):yF (.own (.lst ds)) s= .ok (.d (.bl (bs.all id))) s:=by
 unfold yF
 simp only [gZ,h]
theorem sT {ds:List D} {bs:List Int} (h:jn ds=some bs):wA (.own (.lst ds)) s= .ok (.d (.int bs.sum)) s:=by
 unfold wA
 simp only [gZ,h]
noncomputable def yP (s:SD):Option D→R Vl
 | some (.lst xs)=> .ok (.own (.lst xs)) s
 | some (.con xs)=> .ok (.own (.lst xs)) s
 | some (.tup xs)=> .ok (.own (.lst xs)) s
 | some (.dct ks)=> .ok (.own (.lst (ks.map fun kv=>jl kv.1))) s
 | _=> .bad
theorem xI:iD a s=yP s (s.cont a):=by
 unfold iD yP
 rfl
theorem mb {l:List D}:yP s (some (.lst l))= .ok (.own (.lst l)) s:=rfl
theorem mf {l:List D}:yP s (some (.con l))= .ok (.own (.lst l)) s:=rfl
theorem mc {l:List (Key×D)}:yP s (some (.dct l))= .ok (.own (.lst (l.map fun kv=>jl kv.1))) s:=rfl
noncomputable def zK (s:SD):Option D→R Vl
 | some (.dct ks)=> .ok (.own (.dct ks)) s
 | some (.lst ds)=>match rC ds with
  | some ks=> .ok (.own (.dct (fP ks))) s
  | none=> .bad
 | _=> .bad
theorem xK:eY a s=zK s (s.cont a):=by
 unfold eY zK
 rfl
theorem mD {l:List (Key×D)}:zK s (some (.dct l))= .ok (.own (.dct l)) s:=rfl
theorem og {t:Bool}:Av (.d (.bl t)) s= .ok (.d (.int (if t=true then 1 else 0))) s:=by cases t<;> rfl
theorem lq {n:Int}:Av (.d (.int n)) s= .ok (.d (.int n)) s:=rfl
theorem Bq {z:Str} {ds:List D} {ys:List Str} (h:uO ds=some ys) (hz:(ys.map (·.length)).sum+ys.length*z.length≤16777216):rH (.d (.str z)) (.own (.lst ds)) s= .ok (.d (.str (Txt.join z ys))) s:=by
 unfold rH
 simp only [gZ,kU,h,if_pos hz]
noncomputable def slK (s:SD) (lo hi:Option Int):Option D→R Vl
 | some (.lst ds)=> .ok (.own (.lst (cutD ds lo hi))) s
 | some (.con ds)=> .ok (.own (.lst (cutD ds lo hi))) s
 | some (.str z)=>if z.length≤sizeLine then .ok (.d (.str (cutS z lo hi))) s else .bad
 | some (.tup ds)=>if¬(HT.sIx ds.length 0 lo=0∧HT.sIx ds.length ds.length hi=ds.length) then .ok (.d (.tup (cutD ds lo hi))) s else .bad
 | _=> .bad
theorem w_sl {lo hi:Option Int}:oSl a lo hi s=slK s lo hi (s.cont a):=by
 unfold oSl slK
 rfl
theorem sY {lo hi:Option Int} {l:List D}:slK s lo hi (some (.lst l))= .ok (.own (.lst (cutD l lo hi))) s:=rfl
theorem sZ {lo hi:Option Int} {l:List D}:slK s lo hi (some (.con l))= .ok (.own (.lst (cutD l lo hi))) s:=rfl
theorem sX {lo hi:Option Int} {z:Str}:slK s lo hi (some (.str z))=if z.length≤sizeLine then .ok (.d (.str (cutS z lo hi))) s else .bad:=rfl
noncomputable def rg1K:List D→SD→R Src:=fun ds s1=>match ds with
 | [.int j]=>if -(2 ^ 62)≤j∧j<2 ^ 62 then .ok ⟨[],fun _=>True,upTo 0 j.toNat⟩ s1 else .bad
 | _=> .bad
theorem e_rg1:Ap fr s=(fr s).bind rg1K:=by
 unfold Ap
 rfl
theorem x_rg1 {n:Int}:rg1K [.int n] s=if -(2 ^ 62)≤n∧n<2 ^ 62 then .ok ⟨[],fun _=>True,upTo 0 n.toNat⟩ s else .bad:=rfl
def enK:Vl→SD→R Src:=fun a s1=>match s1.cont a with
 | some (.lst ds)=> .ok ⟨[a],fun s=>s.cont a=some (.lst ds),bO ds⟩ s1
 | _=> .bad
theorem e_en:nS fa s=(fa s).bind enK:=by
 unfold nS
 rfl
theorem nT {ds:List D}:enK (.d (.lst ds)) s= .ok ⟨[.d (.lst ds)],fun _=>True,bO ds⟩ s:=by
 unfold enK
 simp only [hJ]
def unpK (is:List Nat) (s:SD):Option D→R Unit
 | some (.tup ds)=>if ds.length=is.length then .ok () {s with sl:=cM is ds s.sl} else .bad
 | _=> .bad
theorem w_unp {is:List Nat}:jD is a s=unpK is s (s.cont a):=by
 unfold jD unpK
 rfl
theorem unp2 {i0 i1:Nat} {d0 d1:D}:unpK [i0,i1] ⟨sl,S⟩ (some (.tup [d0,d1]))= .ok () ⟨cM [i0,i1] [d0,d1] sl,S⟩:=rfl
theorem unp3 {i0 i1 i2:Nat} {d0 d1 d2:D}:unpK [i0,i1,i2] ⟨sl,S⟩ (some (.tup [d0,d1,d2]))= .ok () ⟨cM [i0,i1,i2] [d0,d1,d2] sl,S⟩:=rfl
theorem unp4 {i0 i1 i2 i3:Nat} {d0 d1 d2 d3:D}:unpK [i0,i1,i2,i3] ⟨sl,S⟩ (some (.tup [d0,d1,d2,d3]))= .ok () ⟨cM [i0,i1,i2,i3] [d0,d1,d2,d3] sl,S⟩:=rfl
theorem unp5 {i0 i1 i2 i3 i4:Nat} {d0 d1 d2 d3 d4:D}:unpK [i0,i1,i2,i3,i4] ⟨sl,S⟩ (some (.tup [d0,d1,d2,d3,d4]))= .ok () ⟨cM [i0,i1,i2,i3,i4] [d0,d1,d2,d3,d4] sl,S⟩:=rfl
theorem ik {d:D} {is:List Nat} {ds:List D} {l:List (Option Vl)}:cM (i::is) (d::ds) l=cM is ds (l.set i (some (.d d))):=rfl
theorem jK {l:List (Option Vl)}:cM [] [] l=l:=rfl
def m2K (h:Vl→Vl→SD→R Vl) (chk:SD→Vl→Bool) (fb:SD→R Vl):Vl→SD→R Vl:=fun a s=>if chk s a=true then (fb s).bind (h a) else .bad
theorem x_m2 {h:Vl→Vl→SD→R Vl} {chk:SD→Vl→Bool}:m2K h chk fb a s=if chk s a=true then (fb s).bind (h a) else .bad:=rfl
theorem e_m2 {h:Vl→Vl→SD→R Vl} {chk:SD→Vl→Bool}:zM2 chk h fa fb s=(fa s).bind (m2K h chk fb):=rfl
def m1sK (h:Vl→Vl→SD→R Vl) (fb:SD→R Vl):Vl→SD→R Vl:=fun a s=>if isS a=true then (fb s).bind (h a) else .bad
theorem x_m1s {h:Vl→Vl→SD→R Vl} {z:Str}:m1sK h fb (.d (.str z)) s=(fb s).bind (h (.d (.str z))):=rfl
theorem e_m1s {h:Vl→Vl→SD→R Vl}:zM1s h fa fb s=(fa s).bind (m1sK h fb):=rfl
def isLK:Option D→Bool
 | some (.lst _)=>true
 | _=>false
theorem x_isL:isL s a=isLK (s.cont a):=by
 unfold isL isLK
 rfl
theorem pO {l:List D}:isLK (some (.lst l))=true:=rfl
def isDK:Option D→Bool
 | some (.dct _)=>true
 | _=>false
theorem x_isD:yX s a=isDK (s.cont a):=by
 unfold yX isDK
 rfl
theorem pP {l:List (Key×D)}:isDK (some (.dct l))=true:=rfl
def rvK (r:D):Unit→SD→R Vl:=fun _ s=> .ok (.d r) s
theorem x_rv {r:D} {u:Unit}:rvK r u s= .ok (.d r) s:=rfl
def b2K (f:D→D→Option (D×D)) (a:Vl) (z:D) (s:SD):Option D→R Vl
 | some c=>match f c z with
  | some (y,r)=>(s.mod y a).bind (rvK r)
  | none=> .bad
 | none=> .bad
theorem w_b2 {f:D→D→Option (D×D)} {z:D}:oB2 f a (.d z) s=b2K f a z s (s.cont a):=by
 unfold oB2 b2K
 rfl
theorem mQ {z:D} {ds:List D}:b2K aL a z s (some (.lst ds))=if ds.length<sizeLine then (s.mod (.lst (ds++ [z])) a).bind (rvK .non) else .bad:=by
 unfold b2K aL
 by_cases h:ds.length<sizeLine<;> simp only [h,if_true,if_false]
theorem mP {es ds:List D}:b2K zo a (.lst es) s (some (.lst ds))=if ds.length+es.length≤sizeLine then (s.mod (.lst (ds++es)) a).bind (rvK .non) else .bad:=by
 unfold b2K zo
 by_cases h:ds.length+es.length≤sizeLine<;> simp only [h,if_true,if_false]
def b1K (f:D→Option (D×D)) (a:Vl) (s:SD):Option D→R Vl
 | some c=>match f c with
  | some (y,r)=>(s.mod y a).bind (rvK r)
  | none=> .bad
 | none=> .bad
theorem w_b1 {f:D→Option (D×D)}:oB1 f a s=b1K f a s (s.cont a):=by
 unfold oB1 b1K
 rfl
theorem qz {ds:List D}:b1K sf a s (some (.lst ds))=(s.mod (.lst []) a).bind (rvK .non):=rfl
theorem mR {ds:List (Key×D)}:b1K fDClear a s (some (.dct ds))=(s.mod (.dct []) a).bind (rvK .non):=rfl
theorem pB:SD.mod ⟨sl,S⟩ y (.d (.cell i))= .ok () ⟨sl,S.put i y⟩:=rfl
def modK (s:SD) (y:D) (k:Nat):Option (Option Vl)→R Unit
 | some (some (.own _))=> .ok () {s with sl:=s.sl.set k (some (.own y))}
 | some (some (.d (.cell i)))=> .ok () {s with st:=s.st.put i y}
 | _=> .bad
theorem ud:s.mod y (.loc k)=modK s y k s.sl[k]? :=by
 unfold SD.mod modK
 rfl
theorem pC:modK ⟨sl,S⟩ y k (some (some (.own x)))= .ok () ⟨sl.set k (some (.own y)),S⟩:=rfl
def sfK (cls:List Str) (f:Str) (x:D) (a:Vl) (s:SD):Option D→R Fl
 | some (.obj c fs)=>if c∈cls∧fs.length<1000 then (s.mod (.obj c (jz f x fs)) a).bind nxK else .bad
 | _=> .bad
def sf3 (cls:List Str) (f:Str) (x:D):Vl→SD→R Fl:=fun a s=>sfK cls f x a s (s.cont a)
theorem x_sf3 {cls:List Str} {f:Str}:sf3 cls f x a s=sfK cls f x a s (s.cont a):=rfl
def sf2 (cls:List Str) (f:Str) (fo:SD→R Vl):D→SD→R Fl:=fun x s=>(fo s).bind (sf3 cls f x)
theorem x_sf2 {cls:List Str} {f:Str}:sf2 cls f fa x s=(fa s).bind (sf3 cls f x):=rfl
def sf1 (cls:List Str) (f:Str) (fo:SD→R Vl):Vl→SD→R Fl:=fun v s=>(s.fix v).bind (sf2 cls f fo)
theorem x_sf1 {cls:List Str} {f:Str}:sf1 cls f fa a s=(s.fix a).bind (sf2 cls f fa):=rfl
theorem e_sf {cls:List Str} {f:Str} {fo fv:SD→R Vl}:fU cls f fo fv s=(fv s).bind (sf1 cls f fo):=by
 unfold fU sf1 sf2 sf3 sfK
 rfl
theorem hY {c f:Str} {fs:List (Str×D)} (h:fs.length<1000):sfK [c] f x a s (some (.obj c fs))=(s.mod (.obj c (jz f x fs)) a).bind nxK:=by
 unfold sfK
 simp only [List.mem_singleton,h,and_self,if_true]
theorem sfn0 {c f:Str}:sfK [c] f x a s (some (.obj c []))=(s.mod (.obj c (jz f x [])) a).bind nxK:=hY (by simp)
theorem sfn1 {c f:Str} {p0:Str×D}:sfK [c] f x a s (some (.obj c [p0]))=(s.mod (.obj c (jz f x [p0])) a).bind nxK:=hY (by simp)
theorem sfn2 {c f:Str} {p0 p1:Str×D}:sfK [c] f x a s (some (.obj c [p0,p1]))=(s.mod (.obj c (jz f x [p0,p1])) a).bind nxK:=hY (by simp)
theorem sfn3 {c f:Str} {p0 p1 p2:Str×D}:sfK [c] f x a s (some (.obj c [p0,p1,p2]))=(s.mod (.obj c (jz f x [p0,p1,p2])) a).bind nxK:=hY (by simp)
theorem sfn4 {c f:Str} {p0 p1 p2 p3:Str×D}:sfK [c] f x a s (some (.obj c [p0,p1,p2,p3]))=(s.mod (.obj c (jz f x [p0,p1,p2,p3])) a).bind nxK:=hY (by simp)
theorem sfn5 {c f:Str} {p0 p1 p2 p3 p4:Str×D}:sfK [c] f x a s (some (.obj c [p0,p1,p2,p3,p4]))=(s.mod (.obj c (jz f x [p0,p1,p2,p3,p4])) a).bind nxK:=hY (by simp)
theorem sfn6 {c f:Str} {p0 p1 p2 p3 p4 p5:Str×D}:sfK [c] f x a s (some (.obj c [p0,p1,p2,p3,p4,p5]))=(s.mod (.obj c (jz f x [p0,p1,p2,p3,p4,p5])) a).bind nxK:=hY (by simp)
theorem sfn7 {c f:Str} {p0 p1 p2 p3 p4 p5 p6:Str×D}:sfK [c] f x a s (some (.obj c [p0,p1,p2,p3,p4,p5,p6]))=(s.mod (.obj c (jz f x [p0,p1,p2,p3,p4,p5,p6])) a).bind nxK:=hY (by simp)
theorem sfn8 {c f:Str} {p0 p1 p2 p3 p4 p5 p6 p7:Str×D}:sfK [c] f x a s (some (.obj c [p0,p1,p2,p3,p4,p5,p6,p7]))=(s.mod (.obj c (jz f x [p0,p1,p2,p3,p4,p5,p6,p7])) a).bind nxK:=hY (by simp)
def mkR (i:Nat) (s:SD):R Vl→R Vl
 | .ok (.d .non) s' => .ok (.d (.cell i)) {s with st:=s'.st}
 | .ex c fs s' => .ex c fs {s with st:=s'.st}
 | _=> .bad
def mkK (c:Str) (F:FnV) (dds:List D):List D→SD→R Vl:=fun ds s1=>mkR s1.st.nx s1 (F (.cell s1.st.nx::(ds++dds)) (s1.st.new (.obj c [])))
theorem x_mk {c:Str} {F:FnV} {dds ds:List D}:mkK c F dds ds s=mkR s.st.nx s (F (.cell s.st.nx::(ds++dds)) (s.st.new (.obj c []))):=rfl
theorem e_mk {c:Str} {F:FnV} {dds:List D}:jE c F dds fr s=(fr s).bind (mkK c F dds):=by
 unfold jE mkK mkR
 rfl
theorem rJ {F:FnV} {ds:List D} {S' S'' :Sto} (h:∀s:SD,goF F ds ⟨s.sl,S'⟩= .ok (.d .non) ⟨s.sl,S''⟩):mkR i ⟨sl,S⟩ (F ds S')= .ok (.d (.cell i)) ⟨sl,S''⟩:=by
 have h:=h ⟨sl,S⟩
 unfold goF at h
 cases e:F ds S' with
 | bad=>rw [show (⟨sl,S'⟩:SD).st=S' from rfl,e] at h; cases h
 | ex c fs s' =>rw [show (⟨sl,S'⟩:SD).st=S' from rfl,e] at h; cases h
 | ok a s' =>
  rw [show (⟨sl,S'⟩:SD).st=S' from rfl,e] at h
  simp only [R.ok.injEq,SD.mk.injEq,true_and] at h
  obtain ⟨rfl,rfl⟩:=h
  rfl
noncomputable def oE (f:D→D→Option D) (o:Vl) (z:D) (s:SD):Option D→R Unit
 | some c=>match f c z with
  | some y=>s.mod y o
  | none=> .bad
 | none=> .bad
theorem x_sto {f:D→D→Option D} {z:D}:stO f a (.d z) s=oE f a z s (s.cont a):=by
 unfold stO oE
 rfl
theorem bT {k:Key} {z:D} {ks:List (Key×D)} (h:z.key=some k) (hl:ks.length<sizeLine):oE (bP x) a z s (some (.dct ks))=s.mod (.dct (kL ks k x)) a:=by
 unfold oE bP
 simp only [h,hl,if_true]
noncomputable def dp4 (x:D) (o:Vl):Vl→SD→R Unit:=fun i s=>stO (bP x) o i s
theorem x_dp4:dp4 x a b s=stO (bP x) a b s:=rfl
noncomputable def dp3 (fi:SD→R Vl) (x:D):Vl→SD→R Unit:=fun o s=>(fi s).bind (dp4 x o)
theorem x_dp3:dp3 fa x a s=(fa s).bind (dp4 x a):=rfl
noncomputable def dp2 (fo fi:SD→R Vl):D→SD→R Fl:=fun x s=>((fo s).bind (dp3 fi x)).bind nxK
theorem x_dp2:dp2 fa fb x s=((fa s).bind (dp3 fb x)).bind nxK:=rfl
noncomputable def dp1 (fo fi:SD→R Vl):Vl→SD→R Fl:=fun v s=>(s.fix v).bind (dp2 fo fi)
theorem x_dp1:dp1 fa fb a s=(s.fix a).bind (dp2 fa fb):=rfl
theorem e_dp:dg fa fb fc s=(fc s).bind (dp1 fa fb):=by
 unfold dg dp1 dp2 dp3 dp4
 rfl
theorem Ag {k:Key} {z t:D} {ks:List (Key×D)} (h:z.key=some k) (h2:eN ks k=some t):b2K se a z s (some (.dct ks))=(s.mod (.dct (wN ks k)) a).bind (rvK t):=by
 unfold b2K se
 simp only [h,h2]
theorem kN {is:List Int} {ks:List (Key×D)} (h:s.cont a=some (.dct ks)) (e:pQ ks=some is) (hl:is.length<64):bt a s= .ok (.own (.lst ((srt is).map D.int))) s:=by
 unfold bt
 simp only [h,e,hl,if_true]
theorem xF {is:List Int} {ks:List D} (h:s.cont a=some (.lst ks)) (e:jn ks=some is):bt a s= .ok (.own (.lst ((srt is).map D.int))) s:=by
 unfold bt
 simp only [h,e]
def dispK:List (Key×D)→SD→R Vl:=fun ks s=>if ks.length≤15 then .ok (.own (.dct (fP ks))) s else .bad
theorem xu {ks:List (Key×D)}:dispK ks s=if ks.length≤15 then .ok (.own (.dct (fP ks))) s else .bad:=rfl
theorem zF {fp:SD→R (List (Key×D))}:Az fp s=(fp s).bind dispK:=rfl
def p3K (kk:Key) (x:D):List (Key×D)→SD→R (List (Key×D)):=fun ks s=> .ok ((kk,x)::ks) s
theorem x_p3 {kk:Key} {ks:List (Key×D)}:p3K kk x ks s= .ok ((kk,x)::ks) s:=rfl
def p2K (kk:Key) (fp:SD→R (List (Key×D))):D→SD→R (List (Key×D)):=fun x s=>(fp s).bind (p3K kk x)
theorem x_p2 {kk:Key} {fp:SD→R (List (Key×D))}:p2K kk fp x s=(fp s).bind (p3K kk x):=rfl
def p1K (kk:Key) (fp:SD→R (List (Key×D))):Vl→SD→R (List (Key×D)):=fun a s=>(s.fix a).bind (p2K kk fp)
theorem x_p1 {kk:Key} {fp:SD→R (List (Key×D))}:p1K kk fp a s=(s.fix a).bind (p2K kk fp):=rfl
theorem e_p {kk:Key} {fv:SD→R Vl} {fp:SD→R (List (Key×D))}:zP kk fv fp s=(fv s).bind (p1K kk fp):=rfl
theorem e_p0:zP0 s= .ok [] s:=rfl
theorem nX {wk:Wk} {ks:List (Key×D)} (h:aR fa s= .ok (.d (.dct ks)) s'):ic wk fa s= .ok ⟨[.d (.dct ks)],fun _=>True,wk.ds ks⟩ s' :=by
 unfold ic
 rw [h]
 rfl
def wkK (wk:Wk):Vl→SD→R Src:=fun a s1=>match a with
 | .d (.dct ks)=> .ok ⟨[.d (.dct ks)],fun _=>True,wk.ds ks⟩ s1
 | _=> .bad
theorem x_wk {wk:Wk} {ks:List (Key×D)}:wkK wk (.d (.dct ks)) s= .ok ⟨[.d (.dct ks)],fun _=>True,wk.ds ks⟩ s:=rfl
theorem zq {wk:Wk}:ic wk fa s=(aR fa s).bind (wkK wk):=by
 unfold ic wkK
 rfl
noncomputable def forK (fz:Vl→SD→R Unit) (fb:SD→R Fl):Src→SD→R Fl:=fun src s1=>if Nl src.hs then kH src.ok (fun d s=>(fz (.d d) s).bind fun _ s2=>fb s2) src.ds s1 else .bad
theorem e_for {fi:SD→R Src} {fz:Vl→SD→R Unit} {fb:SD→R Fl}:eo fi fz fb s=(fi s).bind (forK fz fb):=rfl
def turnK (fb:SD→R Fl):Unit→SD→R Fl:=fun _ s=>fb s
theorem xo {u:Unit}:turnK f u s=f s:=Eq.trans rfl rfl
theorem loop_w {ok:SD→Prop} {body:D→SD→R Fl} {Q:Fl→SD→Prop} {E:XQ} {I:Nat→SD→Prop} (hok:∀i s,I i s→ok s):∀{ds:List D} {i:Nat} {s:SD},I i s→
  (∀j d s,ds[j]? =some d→I (i+j) s→Wp (body d s) (fun fl s' =>match fl with | .nx=>I (i+j+1) s' | .ct=>I (i+j+1) s' | .bk=>Q .nx s' | .rt a=>Q (.rt a) s') E)→
  (∀s,I (i+ds.length) s→Q .nx s)→Wp (kH ok body ds s) Q E
 | [],i,s,h,_,last=>by
  unfold kH
  rw [if_pos (hok _ _ h)]
  exact last s h
 | d::ds,i,s,h,step,last=>by
  unfold kH
  rw [if_pos (hok _ _ h),ab]
  have h1:=step 0 d s rfl h
  refine h1.mono (fun fl s' hh=>?_) fun _ _ _ h=>h
  have go:I (i+1) s'→Wp (kH ok body ds s') Q E:=fun hI=>loop_w hok hI (fun j d s e hj=>by
   have:=step (j+1) d s e (by rw [show i+(j+1)=i+1+j by omega]; exact hj)
   rw [show i+(j+1)+1=i+1+j+1 by omega] at this
   exact this) fun s hs=>last s (by rw [List.length_cons,show i+(ds.length+1)=i+1+ds.length by omega]; exact hs)
  cases fl with
  | nx=>exact go hh
  | ct=>exact go hh
  | bk=>exact hh
  | rt a=>exact hh
theorem di {src:Src} {fz:Vl→SD→R Unit} {fb:SD→R Fl} {Q:Fl→SD→Prop} {E:XQ} (I:Nat→SD→Prop) (hN:Nl src.hs) (hok:∀i s,I i s→src.ok s) (h:I 0 s)
  (step:∀j d s,src.ds[j]? =some d→I j s→Wp ((fz (.d d) s).bind (turnK fb)) (fun fl s' =>match fl with | .nx=>I (j+1) s' | .ct=>I (j+1) s' | .bk=>Q .nx s' | .rt a=>Q (.rt a) s') E)
  (last:∀s,I src.ds.length s→Q .nx s):Wp (forK fz fb src s) Q E:=by
 unfold forK
 rw [if_pos hN]
 exact loop_w (I:=I) (i:=0) hok h (fun j d s e hj=>by simp only [Nat.zero_add] at hj ⊢; exact step j d s e hj) fun s hs=>last s (by simpa using hs)
noncomputable def zip2K (a:Vl):Vl→SD→R Src:=fun b s2=>match s2.cont a,s2.cont b with
 | some (.lst xs),some (.lst ys)=> .ok ⟨[a,b],fun s=>s.cont a=some (.lst xs)∧s.cont b=some (.lst ys),Ao xs ys⟩ s2
 | _,_=> .bad
noncomputable def zip1K (fb:SD→R Vl):Vl→SD→R Src:=fun a s1=>(aR fb s1).bind (zip2K a)
theorem xn:zip1K fb a s=(aR fb s).bind (zip2K a):=rfl
theorem e_zip:zZip fa fb s=(aR fa s).bind (zip1K fb):=by
 unfold zZip zip1K zip2K
 rfl
def _root_.Z.Sto.tick (S:Sto):Sto:= {nx:=S.nx+1,get:=fun j=>if j=S.nx then none else S.get j}
theorem tS {S:Sto}:(S.put i x).put i y=S.put i y:=by
 unfold Sto.put
 congr 1
 funext j
 show (if j=i then _ else if j=i then _ else _)=_
 by_cases h:j=i<;> simp [h]
theorem tY {S:Sto}:(S.new x).put S.nx y=S.new y:=by
 unfold Sto.put Sto.new
 congr 1
 funext j
 show (if j=S.nx then _ else if j=S.nx then _ else _)=_
 by_cases h:j=S.nx<;> simp [h]
theorem gw {S:Sto}:(S.new x).get S.nx=some x:=if_pos rfl
theorem yJ {S:Sto} (h:i≠S.nx):(S.new x).get i=S.get i:=if_neg h
theorem new_del {S:Sto}:(S.new x).del S.nx=S.tick:=by
 unfold Sto.del Sto.new Sto.tick
 congr 1
 funext j
 show (if j=S.nx then _ else if j=S.nx then _ else _)=_
 by_cases h:j=S.nx<;> simp [h]
theorem bB {S:Sto} (h:i≠S.nx):S.tick.get i=S.get i:=if_neg h
theorem uC {S:Sto}:SD.frz ⟨sl,S.new x⟩ (.d (.cell S.nx))= .ok x ⟨sl,S.tick⟩:=by
 rw [Bt gw,new_del]
theorem put_nx {S:Sto}:(S.put i x).nx=S.nx:=rfl
theorem new_nx {S:Sto}:(S.new x).nx=S.nx+1:=rfl
abbrev XF:XQ:=fun _ _ _=>False
def gO (fz:Vl→SD→R Unit) (ft:SD→R Bool) (fe:SD→R Vl) (is:List Nat) (s0:SD) (p:D→Bool) (f:D→D) (d:D):Prop:=
 Wp (fz (.d d) s0) (fun _ s1=>Wp (ft s1) (fun b s2=>b=p d∧(b=true→Wp (fe s2) (fun a s3=>Wp (s3.fix a) (fun y s4=>y=f d∧s4.wipe is=s0) XF) XF)∧(b=false→s2.wipe is=s0)) XF) XF
theorem Wp.is {α:Type} {m:R α} {Q:α→SD→Prop} (h:Wp m Q XF):∃a s,m= .ok a s∧Q a s:=by
 cases m with
 | ok a s=>exact ⟨a,s,rfl,h⟩
 | ex c fs s=>exact h.elim
 | bad=>exact h.elim
theorem pJ {ok:SD→Prop} {fz:Vl→SD→R Unit} {ft:SD→R Bool} {fe:SD→R Vl} {is:List Nat} {s0:SD} {p:D→Bool} {f:D→D} (h0:ok s0):∀{ds acc:List D},(∀d∈ds,gO fz ft fe is s0 p f d)→acc.length+ds.length≤sizeLine→
  kM ok fz ft fe is ds acc s0= .ok (acc++(ds.filter p).map f) s0
 | [],acc,_,_=>by
  unfold kM
  rw [if_pos h0]
  simp
 | d::ds,acc,h,hl=>by
  unfold kM
  rw [if_pos h0]
  have h1:=h d (List.mem_cons_self ..)
  unfold gO at h1
  obtain ⟨_,s1,e1,h1⟩:=h1.is
  obtain ⟨b,s2,e2,hb,h2,h3⟩:=h1.is
  rw [List.length_cons] at hl
  have ih:=fun acc hl=>pJ (acc:=acc) h0 (fun d hd=>h d (List.mem_cons_of_mem _ hd)) hl
  rw [e1]
  show R.bind (R.nx (ft s1)) _=_
  rw [e2]
  cases b with
  | true=>
   obtain ⟨a,s3,e3,h4⟩:=(h2 rfl).is
   obtain ⟨y,s4,e4,hy,h5⟩:=h4.is
   show R.bind (R.nx (fe s2)) _=_
   rw [e3]
   show R.bind (s3.fix a) _=_
   rw [e4]
   show (if acc.length<sizeLine then kM ok fz ft fe is ds (acc++ [y]) (s4.wipe is) else .bad)=_
   rw [if_pos (by omega),h5,ih _ (by simp; omega),List.filter_cons_of_pos (by rw [←hb]),hy]
   simp
  | false=>
   show kM ok fz ft fe is ds acc (s2.wipe is)=_
   rw [h3 rfl,ih _ (by omega),List.filter_cons_of_neg (by rw [←hb]; decide)]
noncomputable def lcK (fz:Vl→SD→R Unit) (ft:SD→R Bool) (fe:SD→R Vl) (is:List Nat):Src→SD→R Vl:=fun src s1=>if Nl src.hs then (kM src.ok fz ft fe is src.ds [] (s1.wipe is)).nx.bind fun acc s2=> .ok (.own (.lst acc)) s2 else .bad
theorem e_lc {fi:SD→R Src} {fz:Vl→SD→R Unit} {ft:SD→R Bool} {is:List Nat}:zLc fi fz ft fa is s=(fi s).bind (lcK fz ft fa is):=rfl
theorem Nl.d1 {x:D}:Nl [.d x]:=fun e he j=>by rw [List.mem_singleton.mp he]; exact fun h=>nomatch h
theorem pH {src:Src} {fz:Vl→SD→R Unit} {ft:SD→R Bool} {fe:SD→R Vl} {is:List Nat} {s1 s0:SD} (p:D→Bool) (f:D→D) (e0:s1.wipe is=s0) (hN:Nl src.hs) (h0:src.ok s0) (h:∀d∈src.ds,gO fz ft fe is s0 p f d) (hl:src.ds.length≤sizeLine):
  lcK fz ft fe is src s1= .ok (.own (.lst ((src.ds.filter p).map f))) s0:=by
 unfold lcK
 rw [if_pos hN,e0,pJ h0 h (by simpa using hl)]
 rfl
theorem ji {src:Src} {fz:Vl→SD→R Unit} {fe:SD→R Vl} {is:List Nat} {s1 s0:SD} (f:D→D) (e0:s1.wipe is=s0) (hN:Nl src.hs) (h0:src.ok s0) (h:∀d∈src.ds,gO fz fm fe is s0 (fun _=>true) f d) (hl:src.ds.length≤sizeLine):
  lcK fz fm fe is src s1= .ok (.own (.lst (src.ds.map f))) s0:=by
 rw [pH (fun _=>true) f e0 hN h0 h hl,List.filter_eq_self.mpr fun _ _=>rfl]
theorem vM {S:Sto} {sl:List (Option Vl)} {fz:Vl→SD→R Unit} {ft:SD→R Bool} {fe:SD→R Vl} {is:List Nat} {ks:List (Key×D)} (p:D→Bool) (f:D→D) (hk:sl[k]? =some (some (.d (.cell i)))) (hS:S.get i=some (.dct ks)) (h:∀d∈Wk.keys.ds ks,gO fz ft fe is ⟨df sl is,S.del i⟩ p f d) (hl:ks.length≤sizeLine):
  xl k fz ft fe is ⟨sl,S⟩= .ok (.own (.lst (((Wk.keys.ds ks).filter p).map f))) ⟨df sl is,S⟩:=by
 unfold xl
 show (match sl[k]? with | some (some (.d (.cell i)))=>_ | _=>_)=_
 rw [hk]
 show (match S.get i with | some (.dct ks)=>_ | _=>_)=_
 rw [hS]
 show ((kM (fun _=>True) fz ft fe is (Wk.keys.ds ks) [] ⟨df sl is,S.del i⟩).nx.bind _)=_
 rw [pJ (ok:=fun _=>True) trivial h (by simpa [Wk.ds] using hl)]
 show R.ok (Vl.own (.lst _)) (⟨df sl is,(S.del i).put i (.dct ks)⟩:SD)=_
 rw [tT hS]
 rfl
theorem e_yes:fm s= .ok true s:=rfl
def itLK:Vl→SD→R Src:=fun a s1=>match s1.cont a with
 | some (.lst ds)=> .ok ⟨[a],fun s=>s.cont a=some (.lst ds),ds⟩ s1
 | some (.con ds)=> .ok ⟨[a],fun s=>s.cont a=some (.con ds),ds⟩ s1
 | _=> .bad
theorem e_itL:cZ fa s=(fa s).bind itLK:=by
 unfold cZ
 rfl
theorem iS {ds:List D}:itLK (.d (.lst ds)) s= .ok ⟨[.d (.lst ds)],fun _=>True,ds⟩ s:=by
 unfold itLK
 simp only [hJ]
theorem la {ds:List D}:itLK (.d (.con ds)) s= .ok ⟨[.d (.con ds)],fun _=>True,ds⟩ s:=by
 unfold itLK
 simp only [kW]
theorem vP {ds:List D} (h:s.st.get i=some (.lst ds)):itLK (.d (.cell i)) s= .ok ⟨[.d (.cell i)],fun s=>s.st.get i=some (.lst ds),ds⟩ s:=by
 unfold itLK
 simp only [cI,h]
def itSK:Vl→SD→R Src:=fun a s1=>match a with
 | .d (.str z)=> .ok ⟨[a],fun _=>True,signs z⟩ s1
 | _=> .bad
theorem e_itS:zItS fa s=(fa s).bind itSK:=by
 unfold zItS
 rfl
theorem x_itS {z:Str}:itSK (.d (.str z)) s= .ok ⟨[.d (.str z)],fun _=>True,signs z⟩ s:=rfl
theorem sI {is:List Nat}:SD.wipe ⟨sl,S⟩ is=⟨df sl is,S⟩:=rfl
theorem kZ {l:List (Option Vl)}:df l []=l:=rfl
theorem jB {l:List (Option Vl)} {v:Nat} {vs:List Nat}:df l (v::vs)=(df l vs).set v none:=rfl
def flv:Fl→Option Vl
 | .nx=>some (.d .non)
 | .rt (.d x)=>some (.d x)
 | .rt (.own x)=>some (.own x)
 | _=>none
theorem xm {n:Nat} {b:SD→R Fl} {ds:List D} {fl:Fl} {s' :SD} {a:Vl} (h:b ⟨starts n ds,S⟩= .ok fl s') (e:flv fl=some a):zFn n b ds S= .ok a s' :=by
 unfold zFn
 rw [h]
 cases fl with
 | nx=>cases e; rfl
 | bk=>cases e
 | ct=>cases e
 | rt r=>cases r<;> cases e<;> rfl
theorem wF {n:Nat} {b:SD→R Fl} {ds:List D} {r:Vl} (h:Wp (b ⟨starts n ds,s.st⟩) (fun fl s' =>flv fl=some r∧s'.st=s.st) (fun _ _ _=>False)):goF (zFn n b) ds s= .ok r s:=by
 cases e:b ⟨starts n ds,s.st⟩ with
 | bad=>rw [e] at h; exact h.elim
 | ex c fs s' =>rw [e] at h; exact h.elim
 | ok fl s' =>
  rw [e] at h
  obtain ⟨h1,h2⟩:=h
  unfold goF
  rw [xm e h1]
  show R.ok r {s with st:=s'.st}=_
  rw [h2]
theorem ew {n:Nat} {b:SD→R Fl} {ds:List D} {r:Vl} {S' :Sto} (h:Wp (b ⟨starts n ds,S⟩) (fun fl s' =>flv fl=some r∧s'.st=S') (fun _ _ _=>False)):goF (zFn n b) ds ⟨sl,S⟩= .ok r ⟨sl,S'⟩:=by
 cases e:b ⟨starts n ds,S⟩ with
 | bad=>rw [e] at h; exact h.elim
 | ex c fs s' =>rw [e] at h; exact h.elim
 | ok fl s' =>
  rw [e] at h
  obtain ⟨h1,h2⟩:=h
  unfold goF
  show (match zFn n b ds S with | .ok a s' =>R.ok a {(⟨sl,S⟩:SD) with st:=s'.st} | .ex c fs s' => .ex c fs {(⟨sl,S⟩:SD) with st:=s'.st} | .bad=> .bad)=_
  rw [xm e h1]
  show R.ok r (⟨sl,s'.st⟩:SD)=_
  rw [h2]
end
section
variable {α:Type} {s:SD} {sl:List (Option Vl)} {c f:Str} {fs:List (Str×D)} {a:Vl} {x:D} {fa:SD→R Vl} {k:α→SD→R β} {Q:α→SD→Prop} {E:XQ} {b:SD→R Fl} {ds:List D}
def ym (c:Str) (_:Vl) (s:SD):R Fl:= .ex c [] s
def tQ (c f:Str) (x:D) (s:SD):R Fl:= .ex c [(f,x)] s
def yk (c f:Str) (a:Vl) (s:SD):R Fl:=(s.fix a).bind (tQ c f)
theorem qe:zRaise0 c fa s=(fa s).bind (ym c):=rfl
theorem x_r0:ym c a s= .ex c [] s:=rfl
theorem qd:zRaise1 c f fa s=(fa s).bind (yk c f):=rfl
theorem x_r1:yk c f a s=(s.fix a).bind (tQ c f):=rfl
theorem x_r2:tQ c f x s= .ex c [(f,x)] s:=rfl
theorem vf:(R.ex c fs s:R α).bind k= .ex c fs s:=Eq.trans rfl rfl
theorem Wp_ex:Wp (.ex c fs s:R α) Q E=E c fs s:=rfl
theorem qk:s.cont (Vl.d (.exc c fs))=some (.exc c fs):=rfl
def xfK (ok:Str→Bool) (f:Str) (s:SD):Option D→R Vl
 | some (.exc c fs)=>if ok c=true then (match fO fs f with
  | some x=> .ok (.d x) s
  | none=> .bad) else .bad
 | _=> .bad
theorem w_xf {ok:Str→Bool}:oXf ok f a s=xfK ok f s (s.cont a):=rfl
noncomputable def isXK (m:Str→Option Bool) (kd:Bool) (s:SD):Option D→R Vl
 | some (.exc c _)=>(match m c with
  | some b=> .ok (.d (.bl b)) s
  | none=> .bad)
 | some x=>(match x.knd with
  | some _=>if kd=true then .ok (.d (.bl false)) s else .bad
  | none=> .bad)
 | none=> .bad
theorem w_isX {m:Str→Option Bool} {kd:Bool}:oIsX m kd a s=isXK m kd s (s.cont a):=rfl
theorem pM {m:Str→Option Bool}:isXK m true s (some .non)=R.ok (Vl.d (.bl false)) s:=rfl
noncomputable def rg2K:List D→SD→R Src:=fun ds s1=>match ds with
 | [.int i, .int j]=>if -(2 ^ 62)≤i∧i<2 ^ 62∧ -(2 ^ 62)≤j∧j<2 ^ 62 then .ok ⟨[],fun _=>True,upTo i (j - i).toNat⟩ s1 else .bad
 | _=> .bad
theorem e_rg2 {fr:SD→R (List D)}:zRg2 fr s=(fr s).bind rg2K:=by
 unfold zRg2
 rfl
theorem x_rg2 {i j:Int}:rg2K [.int i, .int j] s=if -(2 ^ 62)≤i∧i<2 ^ 62∧ -(2 ^ 62)≤j∧j<2 ^ 62 then .ok ⟨[],fun _=>True,upTo i (j - i).toNat⟩ s else .bad:=rfl
def tryK (m:Str→Option Bool) (i:Nat) (fz:SD→R Fl):R Fl→R Fl
 | .ex c vs s1=>(match m c with
  | some true=>(match fz {s1 with sl:=s1.sl.set i (some (.d (.exc c vs)))} with
   | .ok fl s2=> .ok fl (s2.wipe [i])
   | _=> .bad)
  | some false=> .ex c vs s1
  | none=> .bad)
 | r=>r
theorem sL {x y:Str}:rF (.d (.str x)) (.d (.str y)) s=if (y.length == 0)=false∧x.length+2≤sizeLine then .ok (.own (.lst ((Txt.split x y).map .str))) s else .bad:=rfl
theorem nY {x y:Str}:lX (.d (.str x)) (.d (.str y)) s= .ok (.d (.bl (Txt.startswith x y))) s:=rfl
theorem w_str {i:Int}:oStr (.d (.int i)) s=if i.natAbs.log2<1920 then .ok (.d (.str (toString i))) s else .bad:=rfl
def tryOK (m:Str→Option Bool) (fs:SD→R Fl):R Fl→R Fl
 | .ex c vs s1=>(match m c with
  | some true=>(match fs s1 with
   | .ok fl s2=> .ok fl s2
   | _=> .bad)
  | some false=> .ex c vs s1
  | none=> .bad)
 | r=>r
theorem zt {m:Str→Option Bool} {fb fs:SD→R Fl}:zTryO m fb fs s=tryOK m fs (fb s):=by
 unfold zTryO tryOK
 rfl
theorem sO {m:Str→Option Bool} {fs:SD→R Fl} {fl:Fl}:tryOK m fs (.ok fl s)= .ok fl s:=Eq.trans rfl rfl
end
section
variable {α:Type} {a b:Vl} {x y:D} {s s' :SD} {S:Sto} {sl:List (Option Vl)} {f g:SD→R Fl} {fa fb fc:SD→R Vl} {fr:SD→R (List D)} {i j k:Nat}
def parK (i j:Nat):List D→SD→R Fl:=fun ds s1=>match ds with
 | [x,y]=> .ok .nx {s1 with sl:=cM [i,j] [x,y] s1.sl}
 | _=> .bad
theorem e_par:zPar i j fr s=(fr s).bind (parK i j):=rfl
theorem x_par:parK i j [x,y] ⟨sl,S⟩= .ok .nx ⟨(sl.set i (some (.d x))).set j (some (.d y)),S⟩:=rfl
def par3K (i j k:Nat):List D→SD→R Fl:=fun ds s1=>match ds with
 | [x,y,z]=> .ok .nx {s1 with sl:=cM [i,j,k] [x,y,z] s1.sl}
 | _=> .bad
theorem zw:zPar3 i j k fr s=(fr s).bind (par3K i j k):=rfl
theorem xr {z:D}:par3K i j k [x,y,z] ⟨sl,S⟩= .ok .nx ⟨((sl.set i (some (.d x))).set j (some (.d y))).set k (some (.d z)),S⟩:=rfl
def BI (i:Nat) (h:Int→Int→Int) (m:Int):Vl→SD→R Fl:=fun b s1=>match b with
 | .d (.int n)=> .ok .nx {s1 with sl:=s1.sl.set i (some (.d (.int (h m n))))}
 | _=> .bad
def augK (i:Nat) (h:Int→Int→Int) (fe:SD→R Vl) (s:SD):Option (Option Vl)→R Fl
 | some (some (.d (.int m)))=>(fe s).bind (BI i h m)
 | _=> .bad
theorem e_aug {h:Int→Int→Int}:zAug i h fa s=augK i h fa s s.sl[i]? :=by
 unfold zAug augK BI
 rfl
theorem qA {h:Int→Int→Int} {m:Int}:augK i h fa s (some (some (.d (.int m))))=(fa s).bind (BI i h m):=rfl
theorem xA {h:Int→Int→Int} {m n:Int}:BI i h m (.d (.int n)) ⟨sl,S⟩= .ok .nx ⟨sl.set i (some (.d (.int (h m n)))),S⟩:=rfl
noncomputable def as6K (st:D→D→D→Option D) (f:Int→Int→Int) (m:Int) (o:Vl) (z:D):Vl→SD→R Unit:=fun b s3=>match b with
 | .d (.int n)=>stO (st (.int (f m n))) o (.d z) s3
 | _=> .bad
theorem x_as6 {st:D→D→D→Option D} {h:Int→Int→Int} {m n:Int} {z:D}:as6K st h m a z (.d (.int n)) s=stO (st (.int (h m n))) a (.d z) s:=rfl
noncomputable def as5K (st:D→D→D→Option D) (f:Int→Int→Int) (fe:SD→R Vl) (o:Vl) (z:D) (s:SD):Option Int→Option V→R Unit
 | some m,some _=>(fe s).bind (as6K st f m o z)
 | _,_=> .bad
theorem Ah {st:D→D→D→Option D} {h:Int→Int→Int} {m:Int} {v:V} {z:D}:as5K st h fa a z s (some m) (some v)=(fa s).bind (as6K st h m a z):=rfl
noncomputable def as4K (g:D→D→Option Int) (st:D→D→D→Option D) (f:Int→Int→Int) (fe:SD→R Vl) (o:Vl) (i:Vl) (s:SD):Option D→R Unit:=fun c=>match i,c with
 | .d z,some c=>as5K st f fe o z s (g c z) (D.sc z)
 | _,_=> .bad
theorem Ai {g:D→D→Option Int} {st:D→D→D→Option D} {h:Int→Int→Int} {z c:D}:as4K g st h fa a (.d z) s (some c)=as5K st h fa a z s (g c z) (D.sc z):=rfl
noncomputable def as2K (g:D→D→Option Int) (st:D→D→D→Option D) (f:Int→Int→Int) (fe:SD→R Vl) (o:Vl):Vl→SD→R Unit:=fun i s2=>as4K g st f fe o i s2 (s2.cont o)
theorem x_as2 {g:D→D→Option Int} {st:D→D→D→Option D} {h:Int→Int→Int}:as2K g st h fa a b s=as4K g st h fa a b s (s.cont a):=rfl
noncomputable def as1K (g:D→D→Option Int) (st:D→D→D→Option D) (f:Int→Int→Int) (fi fe:SD→R Vl):Vl→SD→R Unit:=fun o s1=>(fi s1).bind (as2K g st f fe o)
theorem x_as1 {g:D→D→Option Int} {st:D→D→D→Option D} {h:Int→Int→Int}:as1K g st h fa fb a s=(fa s).bind (as2K g st h fb a):=rfl
theorem zI {g:D→D→Option Int} {st:D→D→D→Option D} {h:Int→Int→Int}:jF g st h fa fb fc s=((fa s).bind (as1K g st h fb fc)).bind nxK:=by
 unfold jF
 congr 2
theorem gD_at {k:Key} {z:D} {m:Int} {ks:List (Key×D)} (h:z.key=some k) (h2:eN ks k=some (.int m)):gD (.dct ks) z=some m:=by
 unfold gD
 simp only [h,h2]
theorem yd {n:Int}:D.sc (.int n)=some (.int n):=rfl
theorem yc {n:Str}:D.sc (.str n)=some (.str n):=rfl
noncomputable def revK (s:SD):Option D→R Vl
 | some (.lst ds)=> .ok (.own (.lst ds.reverse)) s
 | _=> .bad
theorem xG:oRevL a s=revK s (s.cont a):=by
 unfold oRevL revK
 rfl
theorem oU {ds:List D}:revK s (some (.lst ds))= .ok (.own (.lst ds.reverse)) s:=rfl
noncomputable def rvIK:Vl→SD→R Src:=fun a s1=>match s1.cont a with
 | some (.lst ds)=> .ok ⟨[a],fun s=>s.cont a=some (.lst ds),ds.reverse⟩ s1
 | _=> .bad
theorem e_rvI:zRev fa s=(fa s).bind rvIK:=rfl
theorem x_rvI {ds:List D}:rvIK (.d (.lst ds)) s= .ok ⟨[.d (.lst ds)],fun _=>True,ds.reverse⟩ s:=by
 unfold rvIK
 simp only [hJ]
theorem nJ {ds:List D} {ks:List (Key×D)} (h:rC ds=some ks):zK s (some (.lst ds))= .ok (.own (.dct (fP ks))) s:=by
 unfold zK
 simp only [h]
noncomputable def itTK:Vl→SD→R Src:=fun a s1=>match s1.cont a with
 | some (.tup ds)=> .ok ⟨[a],fun s=>s.cont a=some (.tup ds),ds⟩ s1
 | _=> .bad
theorem e_itT:zItT fa s=(fa s).bind itTK:=rfl
theorem x_itT {ds:List D}:itTK (.d (.tup ds)) s= .ok ⟨[.d (.tup ds)],fun _=>True,ds⟩ s:=by
 unfold itTK
 simp only [kT]
noncomputable def AG (s:SD):Option D→Option D→R Vl
 | some (.lst ds),some (.int i)=>if i=1 then .ok (.own (.lst ds)) s else if i= -1 then .ok (.own (.lst ds.reverse)) s else .bad
 | _,_=> .bad
theorem xE:oStep a b s=AG s (s.cont a) (s.cont b):=by
 unfold oStep AG
 rfl
theorem oA {ds:List D}:AG s (some (.lst ds)) (some (.int 1))= .ok (.own (.lst ds)) s:=rfl
theorem oD {ds:List D}:AG s (some (.lst ds)) (some (.int (-1)))= .ok (.own (.lst ds.reverse)) s:=rfl
theorem kR {α:Type} {ok:SD→Prop} {fz:Vl→SD→R Unit} {ft:SD→R Bool} {fe:SD→R Vl} {is:List Nat} {s0:SD} (g h:α→D) (p:α→Bool) (h0:ok s0):∀{l:List α} {acc:List D},(∀a∈l,gO fz ft fe is s0 (fun _=>p a) (fun _=>h a) (g a))→acc.length+l.length≤sizeLine→
  kM ok fz ft fe is (l.map g) acc s0= .ok (acc++(l.filter p).map h) s0
 | [],acc,_,_=>by
  unfold kM
  show (if ok s0 then _ else _)=_
  rw [if_pos h0]
  simp
 | a::l,acc,ht,hl=>by
  rw [List.map_cons]
  unfold kM
  rw [if_pos h0]
  have h1:=ht a (List.mem_cons_self ..)
  unfold gO at h1
  obtain ⟨_,s1,e1,h1⟩:=h1.is
  obtain ⟨b,s2,e2,hb,h2,h3⟩:=h1.is
  rw [List.length_cons] at hl
  have ih:=fun acc hl=>kR g h p h0 (acc:=acc) (fun b hb=>ht b (List.mem_cons_of_mem _ hb)) hl
  rw [e1]
  show R.bind (R.nx (ft s1)) _=_
  rw [e2]
  cases b with
  | true=>
   obtain ⟨v,s3,e3,h4⟩:=(h2 rfl).is
   obtain ⟨y,s4,e4,hy,h5⟩:=h4.is
   show R.bind (R.nx (fe s2)) _=_
   rw [e3]
   show R.bind (s3.fix v) _=_
   rw [e4]
   show (if acc.length<sizeLine then kM ok fz ft fe is (l.map g) (acc++ [y]) (s4.wipe is) else .bad)=_
   rw [if_pos (by omega),h5,ih _ (by simp; omega),List.filter_cons_of_pos hb.symm,hy]
   simp
  | false=>
   show kM ok fz ft fe is (l.map g) acc (s2.wipe is)=_
   rw [h3 rfl,ih _ (by omega),List.filter_cons_of_neg (fun c=>by rw [show p a=false from hb.symm] at c; cases c)]
theorem pI {α:Type} {src:Src} {fz:Vl→SD→R Unit} {ft:SD→R Bool} {fe:SD→R Vl} {is:List Nat} {s1 s0:SD} {l:List α} (g h:α→D) (p:α→Bool) (ed:src.ds=l.map g) (e0:s1.wipe is=s0) (hN:Nl src.hs) (h0:src.ok s0) (ht:∀a∈l,gO fz ft fe is s0 (fun _=>p a) (fun _=>h a) (g a)) (hl:l.length≤sizeLine):
  lcK fz ft fe is src s1= .ok (.own (.lst ((l.filter p).map h))) s0:=by
 unfold lcK
 rw [if_pos hN,e0,ed,kR g h p h0 ht (by simpa using hl)]
 rfl
theorem vK {α:Type} {src:Src} {fz:Vl→SD→R Unit} {fe:SD→R Vl} {is:List Nat} {s1 s0:SD} {l:List α} (g h:α→D) (ed:src.ds=l.map g) (e0:s1.wipe is=s0) (hN:Nl src.hs) (h0:src.ok s0) (ht:∀a∈l,gO fz fm fe is s0 (fun _=>true) (fun _=>h a) (g a)) (hl:l.length≤sizeLine):
  lcK fz fm fe is src s1= .ok (.own (.lst (l.map h))) s0:=by
 rw [pI g h (fun _=>true) ed e0 hN h0 ht hl,List.filter_eq_self.mpr fun _ _=>rfl]
theorem yS {α:Type} {l:List α} (g h:α→D) (p:α→Bool) {fz:Vl→SD→R Unit} {ft:SD→R Bool} {fe:SD→R Vl} {is:List Nat} {ks:List (Key×D)} (h1:fa ⟨sl,S⟩= .ok (.d (.cell i)) s') (hS:S.get i=some (.dct ks)) (h2:fa ⟨sl,S.del i⟩= .ok (.d (.cell i)) ⟨sl,S.del i⟩) (ed:Wk.keys.ds ks=l.map g)
  (ht:∀a∈l,gO fz ft fe is ⟨df sl is,S.del i⟩ (fun _=>p a) (fun _=>h a) (g a)) (hl:l.length≤sizeLine):
  sF fa fz ft fe is ⟨sl,S⟩= .ok (.own (.lst ((l.filter p).map h))) ⟨df sl is,S⟩:=by
 unfold sF
 rw [h1]
 show (match S.get i with | some (.dct ks)=>_ | _=>_)=_
 rw [hS]
 show (if fa ⟨sl,S.del i⟩= .ok (.d (.cell i)) ⟨sl,S.del i⟩ then _ else _)=_
 rw [if_pos h2]
 show ((kM (fun _=>True) fz ft fe is (Wk.keys.ds ks) [] ⟨df sl is,S.del i⟩).nx.bind _)=_
 rw [ed,kR (ok:=fun _=>True) g h p trivial ht (by simpa using hl)]
 show R.ok (Vl.own (.lst _)) (⟨df sl is,(S.del i).put i (.dct ks)⟩:SD)=_
 rw [tT hS]
 rfl
theorem ub {i j:Int}:neK s (some (.int i)) (some (.int j))= .ok (.d (.bl (!decide (i=j)))) s:=by
 unfold neK
 simp only [uR]
theorem zp {i j:Bool}:eqK s (some (.bl i)) (some (.bl j))= .ok (.d (.bl (decide (i=j)))) s:=vY (by
 show some (decide (V.bl i=V.bl j))=_
 congr 1
 apply decide_eq_decide.mpr
 exact ⟨fun h=>by cases h; rfl,fun h=>by rw [h]⟩)
theorem tZ {i j:Str}:neK s (some (.str i)) (some (.str j))= .ok (.d (.bl (!decide (i=j)))) s:=by
 unfold neK
 simp only [zM]
theorem w_max {n k:Int}:oMax (.d (.int n)) (.d (.int k)) s= .ok (.d (.int (if k > n then k else n))) s:=rfl
theorem nW {c:SD→R Bool} {f:SD→R Fl}:∀{n:Nat} {s:SD},jC c f n s≠ .bad→jC c f (n+1) s=jC c f n s
 | 0,s,h=>absurd rfl h
 | n+1,s,h=>by
  unfold jC
  unfold jC at h
  cases e:c s with
  | bad=>rfl
  | ex _ _ _=>rfl
  | ok b s1=>
   rw [e] at h
   show (if b=true then _ else _)=(if b=true then _ else _)
   have h:(if b=true then _ else _)≠R.bad:=h
   split
   ·rename_i hb
    rw [if_pos hb] at h
    cases e2:f s1 with
    | bad=>rfl
    | ex _ _ _=>rfl
    | ok fl s2=>
     rw [e2] at h
     cases fl with
     | nx=>exact nW h
     | ct=>exact nW h
     | bk=>rfl
     | rt a=>rfl
   ·rfl
theorem xC {c:SD→R Bool} {f:SD→R Fl} {n:Nat} {s:SD} (h:jC c f n s≠ .bad):∀k,jC c f (n+k) s=jC c f n s
 | 0=>rfl
 | k+1=>by
  have:=xC h k
  rw [←this] at h ⊢
  exact nW h
theorem wh_is {c:SD→R Bool} {f:SD→R Fl} {n:Nat} {s:SD} (h:jC c f n s≠ .bad):zWh c f s=jC c f n s:=by
 unfold zWh
 have hx:∃n,jC c f n s≠ .bad:=⟨n,h⟩
 rw [dif_pos hx]
 rcases Nat.le_total (choose hx) n with l | l
 ·obtain ⟨k,rfl⟩:=Nat.exists_eq_add_of_le l
  exact (xC (choose_spec hx) k).symm
 ·obtain ⟨k,e⟩:=Nat.exists_eq_add_of_le l
  rw [e]
  exact xC h k
theorem Wp.ne {α:Type} {m:R α} {Q:α→SD→Prop} {E:XQ} (h:Wp m Q E):m≠ .bad:=fun e=>by rw [e] at h; exact h
theorem whN_w {c:SD→R Bool} {f:SD→R Fl} {Q:Fl→SD→Prop} {E:XQ} {I:Nat→SD→Prop}
  (step:∀m s,I m s→Wp (c s) (fun b s1=>if b=true then Wp (f s1) (fun fl s2=>match fl with | .nx=>∃m' <m,I m' s2 | .ct=>∃m' <m,I m' s2 | .bk=>Q .nx s2 | .rt a=>Q (.rt a) s2) E else Q .nx s1) E):
  ∀(m:Nat) (s:SD),I m s→∃n,Wp (jC c f n s) Q E:=by
 intro m
 induction m using Nat.strongRecOn with
 | _ m ih=>
  intro s hI
  have h:=step m s hI
  cases e:c s with
  | bad=>rw [e] at h; exact h.elim
  | ex cc fs s1=>
   rw [e] at h
   refine ⟨1, ?_⟩
   unfold jC
   rw [e]
   exact h
  | ok b s1=>
   rw [e] at h
   have h:if b=true then _ else _:=h
   cases b with
   | false=>
    refine ⟨1, ?_⟩
    unfold jC
    rw [e]
    exact h
   | true=>
    rw [if_pos rfl] at h
    cases e2:f s1 with
    | bad=>rw [e2] at h; exact h.elim
    | ex cc fs s2=>
     rw [e2] at h
     refine ⟨1, ?_⟩
     unfold jC
     rw [e]
     show Wp (R.bind (f s1) _) Q E
     rw [e2]
     exact h
    | ok fl s2=>
     rw [e2] at h
     have go:(∃m' <m,I m' s2)→∃n,Wp (jC c f n s2) Q E:=fun ⟨m',l,hI'⟩=>ih m' l s2 hI'
     cases fl with
     | nx=>
      obtain ⟨n,hn⟩:=go h
      refine ⟨n+1, ?_⟩
      unfold jC
      rw [e]
      show Wp (R.bind (f s1) _) Q E
      rw [e2]
      exact hn
     | ct=>
      obtain ⟨n,hn⟩:=go h
      refine ⟨n+1, ?_⟩
      unfold jC
      rw [e]
      show Wp (R.bind (f s1) _) Q E
      rw [e2]
      exact hn
     | bk=>
      refine ⟨1, ?_⟩
      unfold jC
      rw [e]
      show Wp (R.bind (f s1) _) Q E
      rw [e2]
      exact h
     | rt a=>
      refine ⟨1, ?_⟩
      unfold jC
      rw [e]
      show Wp (R.bind (f s1) _) Q E
      rw [e2]
      exact h
theorem wh_w {c:SD→R Bool} {f:SD→R Fl} {Q:Fl→SD→Prop} {E:XQ} (I:Nat→SD→Prop) {m:Nat} (h:I m s)
  (step:∀m s,I m s→Wp (c s) (fun b s1=>if b=true then Wp (f s1) (fun fl s2=>match fl with | .nx=>∃m' <m,I m' s2 | .ct=>∃m' <m,I m' s2 | .bk=>Q .nx s2 | .rt a=>Q (.rt a) s2) E else Q .nx s1) E):Wp (zWh c f s) Q E:=by
 obtain ⟨n,hn⟩:=whN_w step m s h
 rw [wh_is hn.ne]
 exact hn
end
section
variable {s:SD} {sl:List (Option Vl)} {c f:Str} {a b:Vl} {x:D} {fa fv:SD→R Vl} {ds:List D} {fp:SD→R (List (Key×D))} {k:Nat} {i:Int} {z:Str}
def oV (c f:Str) (x:D) (s:SD):R Fl:=match x with
 | .lst ds=> .ex c [(f, .lst ds)] s
 | _=> .bad
def vB (c f:Str) (a:Vl) (s:SD):R Fl:=(s.fix a).bind (oV c f)
theorem qb:zRaiseL c f fa s=(fa s).bind (vB c f):=rfl
theorem x_rL1:vB c f a s=(s.fix a).bind (oV c f):=rfl
theorem x_rL2:oV c f (.lst ds) s= .ex c [(f, .lst ds)] s:=rfl
noncomputable def countK (s:SD):Option D→Option D→R Vl
 | some (.lst ds),some x=>match scs ds,x.sc with
  | some vs,some v=> .ok (.d (.int ((vs.countP fun z=>eqV z v:Nat):Int))) s
  | _,_=> .bad
 | _,_=> .bad
theorem oh:yD a b s=countK s (s.cont a) (s.cont b):=by
 unfold yD countK
 rfl
def pvK (fv:SD→R Vl) (fp:SD→R (List (Key×D))) (s:SD):Option (Option Vl)→R (List (Key×D))
 | some (some (.d x))=>match x.key with
  | some kk=>zP kk fv fp s
  | none=> .bad
 | _=> .bad
theorem e_pV:zPV k fv fp s=pvK fv fp s s.sl[k]? :=by
 unfold zPV pvK
 rfl
theorem x_pVi:pvK fv fp s (some (some (.d (.int i))))=zP (.inl i) fv fp s:=rfl
theorem x_pVs:pvK fv fp s (some (some (.d (.str z))))=zP (.inr z) fv fp s:=rfl
noncomputable def isNK (neg:Bool) (s:SD):Option D→R Vl
 | some x=>if x.box=true then .ok (.d (.bl neg)) s else .bad
 | none=> .bad
theorem lh {neg:Bool}:kK neg (.loc k) (.d .non) s=isNK neg s (s.cont (.loc k)):=by
 unfold kK isNK
 rfl
theorem pN {neg:Bool}:isNK neg s (some (.lst ds))= .ok (.d (.bl neg)) s:=rfl
end
section
variable {s:SD} {S:Sto} {sl:List (Option Vl)} {c f:Str} {a b:Vl} {x:D} {fa:SD→R Vl} {ds:List D}
def oW (c f:Str) (x:D) (s:SD):R Fl:=match x with
 | .lst ds=> .ex c [(f, .cell s.st.nx)] {s with st:=s.st.new (.lst ds)}
 | _=> .bad
def vC (c f:Str) (a:Vl) (s:SD):R Fl:=(s.fix a).bind (oW c f)
theorem qc:zRaiseC c f fa s=(fa s).bind (vC c f):=rfl
theorem x_rC1:vC c f a s=(s.fix a).bind (oW c f):=rfl
theorem x_rC2:oW c f (.lst ds) ⟨sl,S⟩= .ex c [(f, .cell S.nx)] ⟨sl,S.new (.lst ds)⟩:=rfl
def pR (c f:Str) (s:SD):Option D→R Vl
 | some (.lst ds)=> .ok (.d (.exc c [(f, .lst ds)])) s
 | _=> .bad
def pS (c f:Str) (x:D) (s:SD):R Vl:=pR c f s (s.cont (.d x))
def ux (c f:Str) (a:Vl) (s:SD):R Vl:=(s.fix a).bind (pS c f)
theorem uL:zHeldL c f fa s=(fa s).bind (ux c f):=by
 unfold zHeldL ux pS pR
 rfl
theorem x_hL1:ux c f a s=(s.fix a).bind (pS c f):=rfl
theorem x_hL2:pS c f x s=pR c f s (s.cont (.d x)):=rfl
theorem x_hL3:pR c f s (some (.lst ds))= .ok (.d (.exc c [(f, .lst ds)])) s:=rfl
noncomputable def isUK (mX mC:Str→Option Bool) (s:SD):Option D→R Vl
 | some (.exc c _)=>(match mX c with
  | some b=> .ok (.d (.bl b)) s
  | none=> .bad)
 | some (.obj c _)=>(match mC c with
  | some b=> .ok (.d (.bl b)) s
  | none=> .bad)
 | some x=>(match x.knd with
  | some _=> .ok (.d (.bl false)) s
  | none=> .bad)
 | none=> .bad
theorem w_isU {mX mC:Str→Option Bool}:oIsU mX mC a s=isUK mX mC s (s.cont a):=by
 unfold oIsU isUK
 rfl
noncomputable def iH (s:SD):Option D→R Vl
 | some (.lst ds)=>match nh ds with
  | some ks=>if ks.length≤4000 then .ok (.d (.int (M.nM ks ks.length:Nat))) s else .bad
  | none=> .bad
 | _=> .bad
theorem iT:iE a s=iH s (s.cont a):=by
 unfold iE iH
 rfl
theorem wD {ks:List Key} (h:nh ds=some ks) (nd:ks.Nodup) (few:ks.length≤4000):iH s (some (.lst ds))= .ok (.d (.int (ds.length:Nat))) s:=by
 have hl:∀{ds:List D} {ks:List Key},nh ds=some ks→ks.length=ds.length:=by
  intro ds
  induction ds with
  | nil=>intro ks h; cases h; rfl
  | cons x r ih=>
   intro ks h
   unfold nh at h
   split at h
   ·rename_i k ks' e1 e2
    cases h
    rw [List.length_cons,List.length_cons,ih e2]
   ·cases h
 unfold iH
 dsimp only
 rw [h]
 dsimp only
 rw [if_pos few,M.uU nd _ (Nat.le_refl _),hl h]
end
section
variable {s:SD} {S:Sto} {sl:List (Option Vl)} {x:D} {i k j:Nat} {is:List Nat} {ks:List (Key×D)} {F:(SD→R Vl)→SD→R Bool} {m a:Int}
theorem vL {α:Type} {l:List α} (g h:α→D) (p:α→Bool) {fz:Vl→SD→R Unit} {ft:List (Key×D)→SD→R Bool} {f0:SD→R Bool} {fe:SD→R Vl} (hk:sl[k]? =some (some (.d (.cell i)))) (hS:S.get i=some (.dct ks)) (ed:Wk.keys.ds ks=l.map g)
  (ht:∀a∈l,gO fz (ft ks) fe is ⟨df sl is,S.del i⟩ (fun _=>p a) (fun _=>h a) (g a)) (hl:l.length≤sizeLine):
  xk k fz ft f0 fe is ⟨sl,S⟩= .ok (.own (.lst ((l.filter p).map h))) ⟨df sl is,S⟩:=by
 unfold xk
 show (match sl[k]? with | some (some (.d (.cell i)))=>_ | _=>_)=_
 rw [hk]
 show (match S.get i with | some (.dct ks)=>_ | _=>_)=_
 rw [hS]
 show ((kM (fun _=>True) fz (ft ks) fe is (Wk.keys.ds ks) [] ⟨df sl is,S.del i⟩).nx.bind _)=_
 rw [ed,kR (ok:=fun _=>True) g h p trivial ht (by simpa using hl)]
 show R.ok (Vl.own (.lst _)) (⟨df sl is,(S.del i).put i (.dct ks)⟩:SD)=_
 rw [tT hS]
 rfl
theorem lcR_d {fz:Vl→SD→R Unit} {ft:List (Key×D)→SD→R Bool} {f0:SD→R Bool} {fe:SD→R Vl} (hk:sl[k]? =some (some (.d x))) (hx:∀i,x≠ .cell i):xk k fz ft f0 fe is ⟨sl,S⟩=zLc (ic .keys (aa k)) fz f0 fe is ⟨sl,S⟩:=by
 unfold xk
 show (match sl[k]? with | some (some (.d (.cell i)))=>_ | _=>_)=_
 rw [hk]
 cases x<;> first | rfl | exact (hx _ rfl).elim
theorem lkT_ok (h1:s.sl[j]? =some (some (.d (.int m)))) (h2:eN ks (.inl m)=some (.int a)):wo j F ks s=F (zC (.int a)) s:=by
 unfold wo
 rw [h1]
 dsimp only
 rw [h2]
end
end Z

namespace Rs
open Z (mnL mnL_le mnL_mem)
def sm:Nat→(Nat→Int)→Int
 | 0,_=>0
 | n+1,f=>sm n f+f n
theorem ck:∀{n:Nat} {f g:Nat→Int},(∀k,k<n→f k=g k)→sm n f=sm n g
 | 0,_,_,_=>rfl
 | n+1,f,g,h=>by
  show sm n f+f n=sm n g+g n
  rw [ck fun k hk=>h k (Nat.lt_succ_of_lt hk),h n (Nat.lt_succ_self n)]
theorem vt:∀(n:Nat) (f g:Nat→Int),sm n (fun k=>f k+g k)=sm n f+sm n g
 | 0,_,_=>rfl
 | n+1,f,g=>by
  show sm n (fun k=>f k+g k)+(f n+g n)=(sm n f+f n)+(sm n g+g n)
  rw [vt n f g]; omega
theorem sm_sub (n:Nat) (f g:Nat→Int):sm n (fun k=>f k - g k)=sm n f - sm n g:=by
 have h:=vt n (fun k=>f k - g k) g
 have e:sm n (fun k=>f k - g k+g k)=sm n f:=ck fun k _=>by omega
 omega
theorem lE:∀n:Nat,sm n (fun _=>0)=0
 | 0=>rfl
 | n+1=>by show sm n _+0=0; rw [lE n]; rfl
theorem xX {i:Nat} {x:Int}:∀{n:Nat},n≤i→sm n (fun k=>if k=i then x else 0)=0
 | 0,_=>rfl
 | n+1,h=>by
  show sm n _+(if n=i then x else 0)=0
  rw [xX (by omega),if_neg (by omega)]; rfl
theorem sm_one {i:Nat} {x:Int}:∀{n:Nat},i<n→sm n (fun k=>if k=i then x else 0)=x
 | 0,h=>absurd h (by omega)
 | n+1,h=>by
  show sm n _+(if n=i then x else 0)=x
  by_cases c:n=i
  ·rw [if_pos c,xX (by omega)]; omega
  ·rw [if_neg c,sm_one (by omega)]; omega
theorem xY (x:Int):∀(n:Nat) (f:Nat→Int),sm n (fun k=>x*f k)=x*sm n f
 | 0,_=>by show (0:Int)=x*0; omega
 | n+1,f=>by
  show sm n (fun k=>x*f k)+x*f n=x*(sm n f+f n)
  rw [xY x n f,Int.mul_add]
abbrev As:=List (Nat×Nat)
def ta (as:As) (k:Nat):Nat:=(as.getD k (0,0)).1
def he (as:As) (k:Nat):Nat:=(as.getD k (0,0)).2
def hd (as:As) (h:Nat):Nat:=if h%2=0 then he as (h / 2) else ta as (h / 2)
def tl (as:As) (h:Nat):Nat:=if h%2=0 then ta as (h / 2) else he as (h / 2)
def tw (h:Nat):Nat:=if h%2=0 then h+1 else h - 1
theorem tw_div (h:Nat):tw h / 2=h / 2:=by unfold tw; split<;> omega
theorem tw_mod (h:Nat):tw h%2=1 - h%2:=by unfold tw; split<;> omega
theorem tw_lt {h n:Nat} (c:h<2*n):tw h<2*n:=by unfold tw; split<;> omega
theorem hd_tw (as:As) (h:Nat):hd as (tw h)=tl as h:=by
 unfold hd tl
 rw [tw_div,tw_mod]
 by_cases c:h%2=0
 ·rw [if_pos c,if_neg (by omega)]
 ·rw [if_neg c,if_pos (by omega)]
def heads (as:As):List Nat:=(List.range (2*as.length)).map (hd as)
def starts (as:As) (p:Nat):List Nat:=(List.range (2*as.length)).filter fun h=>decide (tl as h=p)
theorem mem_starts {as:As} {p h:Nat}:h∈starts as p↔h<2*as.length∧tl as h=p:=by
 unfold starts
 rw [List.mem_filter,List.mem_range,decide_eq_true_eq]
def rm (rs:List (Option Int)) (h:Nat):Option Int:=rs.getD h none
def uf (rs:List (Option Int)) (e:Bool) (h:Nat):Bool:=match rm rs h with
 | none=>true
 | some x=>!e&&decide (0<x)
def AsOk (as:As) (m:Nat):Prop:=∀a∈as,a.1<m∧a.2<m
theorem AsOk.at {as:As} {m k:Nat} (o:AsOk as m) (h:k<as.length):ta as k<m∧he as k<m:=by
 have e:as.getD k (0,0)=as[k]:=by rw [List.getD_eq_getElem?_getD,List.getElem?_eq_getElem h]; rfl
 unfold ta he
 rw [e]
 exact o _ (List.getElem_mem h)
theorem AsOk.hd {as:As} {m h:Nat} (o:AsOk as m) (c:h<2*as.length):Rs.hd as h<m:=by
 have:=o.at (k:=h / 2) (by omega)
 unfold Rs.hd
 split
 ·exact this.2
 ·exact this.1
theorem AsOk.tl {as:As} {m h:Nat} (o:AsOk as m) (c:h<2*as.length):Rs.tl as h<m:=by
 rw [←hd_tw]
 exact o.hd (tw_lt c)
structure BS where
 row:List Nat
 came:Nat→Option Nat
def hst (as:As) (rs:List (Option Int)) (e:Bool) (b:BS) (h:Nat):BS:=
 if hd as h∉b.row∧uf rs e h=true then ⟨b.row++ [hd as h],fun p=>if p=hd as h then some h else b.came p⟩ else b
def pst (as:As) (rs:List (Option Int)) (e:Bool) (b:BS) (p:Nat):BS:=(starts as p).foldl (hst as rs e) b
def bfs (as:As) (rs:List (Option Int)) (e:Bool):Nat→Nat→BS→BS
 | 0,_,b=>b
 | n+1,i,b=>match b.row[i]? with
  | none=>b
  | some p=>bfs as rs e n (i+1) (pst as rs e b p)
def vm (as:As) (rs:List (Option Int)) (e:Bool) (m s:Nat):BS:=bfs as rs e m 0 ⟨[s],fun _=>none⟩
theorem bfs_end {as:As} {rs:List (Option Int)} {e:Bool} {i:Nat} {b:BS} (h:b.row.length≤i):∀n,bfs as rs e n i b=b
 | 0=>rfl
 | n+1=>by
  unfold bfs
  rw [List.getElem?_eq_none h]
theorem BG {as:As} {rs:List (Option Int)} {e:Bool} {i n p:Nat} {b:BS} (h:b.row[i]? =some p):bfs as rs e (n+1) i b=bfs as rs e n (i+1) (pst as rs e b p):=by
 show (match b.row[i]? with | none=>b | some p=>bfs as rs e n (i+1) (pst as rs e b p))=_
 rw [h]
structure BOk (as:As) (rs:List (Option Int)) (e:Bool) (m s i:Nat) (b:BS):Prop where
 nd:b.row.Nodup
 lt:∀p∈b.row,p<m
 sr:s∈b.row
 cs:b.came s=none
 out:∀p,p∉b.row→b.came p=none
 inn:∀p∈b.row,p≠s→∃h,b.came p=some h∧h<2*as.length∧hd as h=p∧uf rs e h=true∧tl as h∈b.row∧b.row.idxOf (tl as h)<b.row.idxOf p
 il:i≤b.row.length
 clo:∀p∈b.row.take i,∀h,h<2*as.length→tl as h=p→uf rs e h=true→hd as h∈b.row
section
variable {as:As} {rs:List (Option Int)} {e:Bool} {m s t i p:Nat} {b:BS}
theorem BOk.init (hs:s<m):BOk as rs e m s 0 ⟨[s],fun _=>none⟩ where
 nd:=by simp
 lt:=fun p hp=>by rw [List.mem_singleton.mp hp]; exact hs
 sr:=List.mem_singleton.mpr rfl
 cs:=rfl
 out:=fun _ _=>rfl
 inn:=fun p hp hn=>absurd (List.mem_singleton.mp hp) hn
 il:=Nat.zero_le _
 clo:=fun p hp=>by simp at hp
theorem hst_ok (o:AsOk as m) (B:BOk as rs e m s i b) {h:Nat} (hh:h<2*as.length) (ht:tl as h∈b.row):
  BOk as rs e m s i (hst as rs e b h)∧b.row <+: (hst as rs e b h).row∧(uf rs e h=true→hd as h∈(hst as rs e b h).row):=by
 unfold hst
 by_cases c:hd as h∉b.row∧uf rs e h=true
 ·rw [if_pos c]
  refine ⟨⟨?_, ?_, ?_, ?_, ?_, ?_, ?_, ?_⟩,List.prefix_append _ _,fun _=>List.mem_append_right _ (List.mem_singleton.mpr rfl)⟩
  ·show (b.row++ [hd as h]).Nodup
   rw [List.nodup_append]
   refine ⟨B.nd,by simp,fun x hx y hy=>?_⟩
   rw [List.mem_singleton.mp hy]
   rintro rfl
   exact c.1 hx
  ·intro p hp
   rcases List.mem_append.mp hp with hp | hp
   ·exact B.lt p hp
   ·rw [List.mem_singleton.mp hp]; exact o.hd hh
  ·exact List.mem_append_left _ B.sr
  ·show (if s=hd as h then some h else b.came s)=none
   rw [if_neg fun q:s=hd as h=>c.1 (q ▸ B.sr)]
   exact B.cs
  ·intro p hp
   show (if p=hd as h then some h else b.came p)=none
   rw [if_neg fun q:p=hd as h=>hp (by rw [q]; exact List.mem_append_right _ (List.mem_singleton.mpr rfl))]
   exact B.out p fun q=>hp (List.mem_append_left _ q)
  ·intro p hp hn
   show∃h',(if p=hd as h then some h else b.came p)=some h'∧h' <2*as.length∧hd as h' =p∧uf rs e h' =true∧tl as h'∈b.row++ [hd as h]∧(b.row++ [hd as h]).idxOf (tl as h')<(b.row++ [hd as h]).idxOf p
   by_cases q:p=hd as h
   ·subst q
    refine ⟨h,if_pos rfl,hh,rfl,c.2,List.mem_append_left _ ht, ?_⟩
    rw [List.idxOf_append,if_pos ht,List.idxOf_append,if_neg c.1]
    have:=List.idxOf_lt_length_of_mem ht
    omega
   ·have hp:p∈b.row:=by
     rcases List.mem_append.mp hp with hp | hp
     ·exact hp
     ·exact absurd (List.mem_singleton.mp hp) q
    obtain ⟨h',e1,e2,e3,e4,e5,e6⟩:=B.inn p hp hn
    refine ⟨h',by rw [if_neg q]; exact e1,e2,e3,e4,List.mem_append_left _ e5, ?_⟩
    rw [List.idxOf_append,if_pos e5,List.idxOf_append,if_pos hp]
    exact e6
  ·show i≤(b.row++ [hd as h]).length
   rw [List.length_append]
   have:=B.il
   omega
  ·intro p hp h' e1 e2 e3
   have hp:p∈(b.row++ [hd as h]).take i:=hp
   rw [List.take_append_of_le_length B.il] at hp
   exact List.mem_append_left _ (B.clo p hp h' e1 e2 e3)
 ·rw [if_neg c]
  refine ⟨B,List.prefix_refl _,fun hl=>?_⟩
  exact Classical.byContradiction fun q=>c ⟨q,hl⟩
theorem zi (o:AsOk as m):∀{hs:List Nat} {b:BS},BOk as rs e m s i b→p∈b.row→(∀h∈hs,h<2*as.length∧tl as h=p)→
  BOk as rs e m s i (hs.foldl (hst as rs e) b)∧b.row <+: (hs.foldl (hst as rs e) b).row∧∀h∈hs,uf rs e h=true→hd as h∈(hs.foldl (hst as rs e) b).row
 | [],b,B,_,_=>⟨B,List.prefix_refl _,fun h hh=>(by cases hh)⟩
 | h::hs,b,B,hp,hh=>by
  have h0:=hh h (List.mem_cons_self ..)
  obtain ⟨B1,p1,l1⟩:=hst_ok o B h0.1 (h0.2.symm ▸ hp)
  obtain ⟨B2,p2,l2⟩:=zi o B1 (p1.subset hp) fun h' hh' =>hh h' (List.mem_cons_of_mem _ hh')
  refine ⟨B2,p1.trans p2,fun h' hh' hl=>?_⟩
  rcases List.mem_cons.mp hh' with rfl | hh'
  ·exact p2.subset (l1 hl)
  ·exact l2 h' hh' hl
theorem pst_ok (o:AsOk as m) (B:BOk as rs e m s i b) (hp:b.row[i]? =some p):BOk as rs e m s (i+1) (pst as rs e b p):=by
 obtain ⟨hi,hp⟩:=List.getElem?_eq_some_iff.mp hp
 have hm:p∈b.row:=by rw [←hp]; exact List.getElem_mem hi
 obtain ⟨B1,p1,l1⟩:=zi (hs:=starts as p) o B hm fun h hh=>mem_starts.mp hh
 refine {B1 with il:=?_,clo:=?_}
 ·exact Nat.le_trans hi p1.length_le
 ·intro q hq h e1 e2 e3
  obtain ⟨r,hr⟩:=p1
  have hq:q∈((starts as p).foldl (hst as rs e) b).row.take (i+1):=hq
  have hr2:=hr
  rw [←hr,List.take_append_of_le_length hi,List.take_succ_eq_append_getElem hi] at hq
  rcases List.mem_append.mp hq with hq | hq
  ·refine B1.clo q ?_ h e1 e2 e3
   rw [←hr2,List.take_append_of_le_length B.il]
   exact hq
  ·have hq:=List.mem_singleton.mp hq
   rw [hp] at hq
   exact l1 h (mem_starts.mpr ⟨e1,e2.trans hq⟩) e3
theorem BOk.le (B:BOk as rs e m s i b):b.row.length≤m:=by
 have h:=List.Nodup.length_le_of_subset B.nd (l₂:=List.range m) fun p hp=>List.mem_range.mpr (B.lt p hp)
 simpa using h
theorem bfs_ok (o:AsOk as m):∀(n i:Nat) (b:BS),BOk as rs e m s i b→m≤n+i→∃i',BOk as rs e m s i' (bfs as rs e n i b)∧(bfs as rs e n i b).row.length≤i'
 | 0,i,b,B,h=>⟨i,B,Nat.le_trans B.le (by omega)⟩
 | n+1,i,b,B,h=>by
  cases c:b.row[i]? with
  | none=>
   have:=List.getElem?_eq_none_iff.mp c
   rw [bfs_end this]
   exact ⟨i,B,this⟩
  | some p=>
   rw [BG c]
   exact bfs_ok o n (i+1) _ (pst_ok o B c) (by omega)
structure Wk (as:As) (rs:List (Option Int)) (e:Bool) (m s:Nat) (b:BS):Prop where
 nd:b.row.Nodup
 lt:∀p∈b.row,p<m
 sr:s∈b.row
 cs:b.came s=none
 out:∀p,p∉b.row→b.came p=none
 inn:∀p∈b.row,p≠s→∃h,b.came p=some h∧h<2*as.length∧hd as h=p∧uf rs e h=true∧tl as h∈b.row∧b.row.idxOf (tl as h)<b.row.idxOf p
 clo:∀p∈b.row,∀h,h<2*as.length→tl as h=p→uf rs e h=true→hd as h∈b.row
theorem qP (o:AsOk as m) (hs:s<m):Wk as rs e m s (vm as rs e m s):=by
 obtain ⟨i,B,h⟩:=bfs_ok (rs:=rs) (e:=e) o m 0 _ (BOk.init hs) (by omega)
 exact ⟨B.nd,B.lt,B.sr,B.cs,B.out,B.inn,fun p hp=>B.clo p (by rw [List.take_of_length_le h]; exact hp)⟩
inductive Rch (as:As) (rs:List (Option Int)) (e:Bool) (s:Nat):Nat→Prop
 | base:Rch as rs e s s
 | step {h:Nat}:Rch as rs e s (tl as h)→h<2*as.length→uf rs e h=true→Rch as rs e s (hd as h)
theorem Wk.rch (W:Wk as rs e m s b):p∈b.row↔Rch as rs e s p:=by
 constructor
 ·have:∀n p,p∈b.row→b.row.idxOf p<n→Rch as rs e s p:=by
   intro n
   induction n with
   | zero=>intro p _ h; omega
   | succ n ih=>
    intro p hp hn
    by_cases c:p=s
    ·rw [c]; exact .base
    ·obtain ⟨h,e1,e2,e3,e4,e5,e6⟩:=W.inn p hp c
     rw [←e3]
     exact .step (ih _ e5 (by omega)) e2 e4
  exact fun hp=>this _ p hp (Nat.lt_succ_self _)
 ·intro h
  induction h with
  | base=>exact W.sr
  | step _ h1 h2 ih=>exact W.clo _ ih _ h1 rfl h2
def way (as:As) (came:Nat→Option Nat):Nat→Nat→List Nat
 | 0,_=> []
 | n+1,p=>match came p with
  | none=> []
  | some h=>way as came n (tl as h)++ [h]
inductive Path (as:As) (s:Nat):List Nat→Nat→Prop
 | nil:Path as s [] s
 | snoc {w:List Nat} {h:Nat}:Path as s w (tl as h)→Path as s (w++ [h]) (hd as h)
structure WayOk (as:As) (rs:List (Option Int)) (e:Bool) (s t:Nat) (w:List Nat):Prop where
 path:Path as s w t
 all:∀h∈w,h<2*as.length∧uf rs e h=true
 nd:(s::w.map (hd as)).Nodup
def xD (as:As) (rs:List (Option Int)) (e:Bool) (m s t:Nat):List Nat:=way as (vm as rs e m s).came m t
theorem WayOk.ne {w:List Nat} (W:WayOk as rs e s t w) (h:s≠t):w≠ []:=by
 intro q
 have P:=W.path
 rw [q] at P
 generalize e:([]:List Nat)=w' at P
 cases P with
 | nil=>exact h rfl
 | snoc _=>simp at e
theorem Path.sum {w:List Nat} (P:Path as s w t) (g:Nat→Int):(w.map fun h=>g (tl as h) - g (hd as h)).sum=g s - g t:=by
 induction P with
 | nil=>simp
 | snoc _ ih=>rw [List.map_append,List.sum_append,ih]; simp; omega
theorem Path.at {w:List Nat} (P:Path as s w t):∀{i h:Nat},w[i]? =some h→(s::w.map (hd as))[i]? =some (tl as h):=by
 have hl:∀{w:List Nat} {t:Nat},Path as s w t→(s::w.map (hd as))[w.length]? =some t:=by
  intro w t P
  cases P with
  | nil=>rfl
  | snoc P=>
   rename_i w h
   rw [List.map_append,←List.cons_append,List.getElem?_append_right (by simp)]
   simp
 induction P with
 | nil=>intro i h e; simp at e
 | snoc P ih=>
  rename_i w h
  intro i h' e
  rw [List.map_append,←List.cons_append]
  by_cases c:i<w.length
  ·rw [List.getElem?_append_left c] at e
   rw [List.getElem?_append_left (by simp; omega)]
   exact ih e
  ·rw [List.getElem?_append_right (by omega)] at e
   have hi:i=w.length:=by
    have:=(List.getElem?_eq_some_iff.mp e).1
    simp at this
    omega
   subst hi
   simp at e
   subst e
   rw [List.getElem?_append_left (by simp)]
   exact hl P
theorem Path.last {w:List Nat} (P:Path as s w t):(s::w.map (hd as))[w.length]? =some t:=by
 cases P with
 | nil=>rfl
 | snoc P=>
  rw [List.map_append,←List.cons_append,List.getElem?_append_right (by simp)]
  simp
end
def chg (rs:List (Option Int)) (h:Nat) (x:Int):List (Option Int):=
 let r1:=rs.set h ((rm rs h).map (· +(0 - x)))
 r1.set (tw h) ((rm r1 (tw h)).map (· +x))
def push (rs:List (Option Int)) (w:List Nat) (x:Int):List (Option Int):=w.foldl (fun r h=>chg r h x) rs
structure Shift (n:Nat) (rs rs' :List (Option Int)) (f:Nat→Int):Prop where
 len:rs'.length=rs.length
 rm:∀h,h<2*n→Rs.rm rs' h=(Rs.rm rs h).map (· +(if h%2=0 then 0 - f (h / 2) else f (h / 2)))
def NN (rs:List (Option Int)):Prop:=∀h v,rm rs h=some v→0≤v
def dv (as:As) (f g:Nat→Int):Int:=sm as.length fun k=>f k*(g (ta as k) - g (he as k))
def one (h:Nat) (x:Int):Nat→Int:=fun k=>if k=h / 2 then (if h%2=0 then x else 0 - x) else 0
section
variable {as:As} {rs rs' rs2:List (Option Int)} {e:Bool} {m n s t i p h:Nat} {x a:Int} {f f' g:Nat→Int} {w:List Nat} {U:Nat→Bool}
theorem Shift.refl:Shift n rs rs (fun _=>0):=⟨rfl,fun h _=>by
 cases Rs.rm rs h with
 | none=>rfl
 | some v=>
  show some v=some (v+(if h%2=0 then 0 - 0 else 0))
  congr 1
  split<;> omega⟩
theorem Shift.trans (A:Shift n rs rs' f) (B:Shift n rs' rs2 f'):Shift n rs rs2 (fun k=>f k+f' k):=⟨B.len.trans A.len,fun h hh=>by
 rw [B.rm h hh,A.rm h hh,Option.map_map]
 congr 1
 funext v
 show v+_+_=v+_
 split<;> omega⟩
theorem Shift.none (A:Shift n rs rs' f) (hh:h<2*n):Rs.rm rs' h=Option.none↔Rs.rm rs h=Option.none:=by
 rw [A.rm h hh]
 cases Rs.rm rs h<;> simp
theorem dv_add:dv as (fun k=>f k+f' k) g=dv as f g+dv as f' g:=by
 unfold dv
 rw [←vt]
 exact ck fun k _=>Int.add_mul ..
theorem dv_zero:dv as (fun _=>0) g=0:=by
 unfold dv
 rw [ck (g:=fun _=>0) fun k _=>Int.zero_mul _,lE]
def flw:List Nat→Int→Nat→Int
 | [],_,_=>0
 | h::w,x,k=>one h x k+flw w x k
def narrow (rs:List (Option Int)) (w:List Nat):Int:=match w.filterMap (rm rs) with
 | []=>0
 | i::is=>mnL i is
theorem yQ (h1:uf rs true h=true):rm rs h=none:=by
 unfold uf at h1
 cases c:rm rs h with
 | none=>rfl
 | some v=>rw [c] at h1; simp at h1
theorem yH (h1:rm rs h=none):uf rs e h=true:=by
 unfold uf
 rw [h1]
def ind (U:Nat→Bool) (p:Nat):Int:=if U p=true then 1 else 0
def cut (as:As) (U:Nat→Bool) (rs:List (Option Int)):Int:=sm as.length fun k=>
 if U (ta as k)=true then (if U (he as k)=true then 0 else (rm rs (2*k)).getD 0) else if U (he as k)=true then (rm rs (2*k+1)).getD 0 else 0
def Fin (as:As) (U:Nat→Bool) (rs:List (Option Int)):Prop:=∀h,h<2*as.length→U (tl as h)=true→U (hd as h)=false→rm rs h≠none
theorem tl_even {k:Nat}:tl as (2*k)=ta as k∧hd as (2*k)=he as k:=by
 unfold tl hd
 rw [if_pos (by omega),if_pos (by omega),show 2*k / 2=k by omega]
 exact ⟨rfl,rfl⟩
theorem tl_odd {k:Nat}:tl as (2*k+1)=he as k∧hd as (2*k+1)=ta as k:=by
 unfold tl hd
 rw [if_neg (by omega),if_neg (by omega),show (2*k+1) / 2=k by omega]
 exact ⟨rfl,rfl⟩
theorem Shift.even (A:Shift n rs rs' f) {k:Nat} (h:k<n):Rs.rm rs' (2*k)=(Rs.rm rs (2*k)).map (· +(0 - f k)):=by
 rw [A.rm _ (by omega),if_pos (by omega),show 2*k / 2=k by omega]
theorem Shift.odd (A:Shift n rs rs' f) {k:Nat} (h:k<n):Rs.rm rs' (2*k+1)=(Rs.rm rs (2*k+1)).map (· +f k):=by
 rw [A.rm _ (by omega),if_neg (by omega),show (2*k+1) / 2=k by omega]
theorem zO (A:Shift as.length rs rs' f) (F:Fin as U rs):cut as U rs' =cut as U rs - dv as f (ind U):=by
 unfold cut dv
 rw [←sm_sub]
 refine ck fun k hk=>?_
 unfold ind
 have e1:=A.even hk
 have e2:=A.odd hk
 have f1:=F (2*k) (by omega)
 have f2:=F (2*k+1) (by omega)
 rw [tl_even.1,tl_even.2] at f1
 rw [tl_odd.1,tl_odd.2] at f2
 cases c1:U (ta as k) with
 | true=>
  simp only [if_true]
  cases c2:U (he as k) with
  | true=>simp
  | false=>
   have f1:=f1 c1 c2
   simp only [Bool.false_eq_true,if_false]
   rw [e1]
   cases c3:rm rs (2*k) with
   | none=>exact absurd c3 f1
   | some v=>show v+(0 - f k)=v - f k*1; omega
 | false=>
  simp only [Bool.false_eq_true,if_false]
  cases c2:U (he as k) with
  | true=>
   have f2:=f2 c2 c1
   rw [if_pos rfl,if_pos rfl,if_pos rfl,e2]
   cases c3:rm rs (2*k+1) with
   | none=>exact absurd c3 f2
   | some v=>show v+f k=v - f k*(0 - 1); omega
  | false=>simp
theorem Fin.shift (A:Shift as.length rs rs' f) (F:Fin as U rs):Fin as U rs' :=fun h hh h1 h2 q=>F h hh h1 h2 ((A.none hh).mp q)
theorem Fin.back (A:Shift as.length rs rs' f) (F:Fin as U rs'):Fin as U rs:=fun h hh h1 h2 q=>F h hh h1 h2 ((A.none hh).mpr q)
def Full (as:As) (U:Nat→Bool) (rs:List (Option Int)):Prop:=∀h,h<2*as.length→U (tl as h)=true→U (hd as h)=false→rm rs h=some 0
theorem Full.fin (F:Full as U rs):Fin as U rs:=fun h hh h1 h2 q=>by rw [F h hh h1 h2] at q; cases q
theorem Full.cut (F:Full as U rs):Rs.cut as U rs=0:=by
 unfold Rs.cut
 rw [ck (g:=fun _=>0) fun k hk=>?_,lE]
 have f1:=F (2*k) (by omega)
 have f2:=F (2*k+1) (by omega)
 rw [tl_even.1,tl_even.2] at f1
 rw [tl_odd.1,tl_odd.2] at f2
 cases c1:U (ta as k) with
 | true=>
  rw [if_pos rfl]
  cases c2:U (he as k) with
  | true=>rw [if_pos rfl]
  | false=>rw [if_neg (by decide),f1 c1 c2]; rfl
 | false=>
  rw [if_neg (by decide)]
  cases c2:U (he as k) with
  | true=>rw [if_pos rfl,f2 c2 c1]; rfl
  | false=>rw [if_neg (by decide)]
def seen (as:As) (rs:List (Option Int)) (e:Bool) (m s:Nat) (p:Nat):Bool:=decide (p∈(vm as rs e m s).row)
inductive Lift (as:As) (m s t:Nat):List (Option Int)→List (Option Int)→Int→Prop
 | done {rs:List (Option Int)}:xD as rs false m s t= []→Lift as m s t rs rs 0
 | step {rs rs' :List (Option Int)} {a:Int}:xD as rs false m s t≠ []→Lift as m s t (push rs (xD as rs false m s t) (narrow rs (xD as rs false m s t))) rs' a→Lift as m s t rs rs' (narrow rs (xD as rs false m s t)+a)
structure Good (as:As) (m s t:Nat) (rs:List (Option Int)):Prop where
 ok:AsOk as m
 len:rs.length=2*as.length
 nn:NN rs
 hs:s<m
 ht:t<m
 ne:s≠t
 fin:t∉(vm as rs true m s).row
structure Flown (as:As) (s t:Nat) (rs rs' :List (Option Int)) (f:Nat→Int) (a:Int):Prop where
 sh:Shift as.length rs rs' f
 nn:NN rs'
 dv:∀g,Rs.dv as f g=a*(g s - g t)
 a0:0≤a
theorem Flown.refl (N:NN rs):Flown as s t rs rs (fun _=>0) 0:=⟨.refl,N,fun g=>by rw [dv_zero,Int.zero_mul],Int.le_refl 0⟩
theorem Flown.trans {b:Int} (A:Flown as s t rs rs' f a) (B:Flown as s t rs' rs2 f' b):Flown as s t rs rs2 (fun k=>f k+f' k) (a+b):=
 ⟨A.sh.trans B.sh,B.nn,fun g=>by rw [dv_add,A.dv,B.dv,Int.add_mul],by have:=A.a0; have:=B.a0; omega⟩
theorem AO (sh:Shift as.length rs rs' f) (h:Rch as rs' true s p):Rch as rs true s p:=by
 induction h with
 | base=>exact .base
 | step _ h1 h2 ih=>exact .step ih h1 (yH ((sh.none h1).mp (yQ h2)))
theorem Good.shift (G:Good as m s t rs) (A:Flown as s t rs rs' f a):Good as m s t rs' :=
 ⟨G.ok,A.sh.len.trans G.len,A.nn,G.hs,G.ht,G.ne,fun q=>G.fin ((qP G.ok G.hs).rch.mpr (AO A.sh ((qP G.ok G.hs).rch.mp q)))⟩
theorem Flown.cut (A:Flown as s t rs rs' f a) (F:Fin as U rs) (h1:U s=true) (h2:U t=false):Rs.cut as U rs' =Rs.cut as U rs - a:=by
 rw [zO A.sh F,A.dv]
 unfold ind
 rw [h1,h2,if_pos rfl,if_neg (by decide)]
 show _=_ - a
 omega
noncomputable def todo (as:As) (m s:Nat) (rs:List (Option Int)):Nat:=(cut as (seen as rs true m s) rs).toNat
end
end Rs

namespace Rs
def dl (p:Nat):Nat→Int:=fun q=>if q=p then 1 else 0
section
variable {as:As} {f g:Nat→Int} {n m k p:Nat}
theorem xZ (F:Nat→Nat→Int) (n:Nat):∀m,sm m (fun p=>sm n fun k=>F p k)=sm n fun k=>sm m fun p=>F p k
 | 0=>by show (0:Int)=sm n fun _=>0; rw [lE]
 | m+1=>by
  show sm m (fun p=>sm n fun k=>F p k)+sm n (fun k=>F m k)=_
  rw [xZ F n m,←vt]
  rfl
theorem dl_sum (g:Nat→Int) {q:Nat} (hq:q<m):sm m (fun p=>g p*dl p q)=g q:=by
 rw [ck (g:=fun p=>if p=q then g q else 0) fun p _=>?_,sm_one hq]
 unfold dl
 by_cases c:p=q
 ·subst c; rw [if_pos rfl,if_pos rfl,Int.mul_one]
 ·rw [if_neg c,if_neg fun e=>c e.symm,Int.mul_zero]
theorem dv_pts (o:AsOk as m):dv as f g=sm m fun p=>g p*dv as f (dl p):=by
 unfold dv
 rw [ck (n:=m) (g:=fun p=>sm as.length fun k=>f k*(g p*dl p (ta as k) - g p*dl p (he as k))) fun p _=>?_,xZ]
 ·refine ck fun k hk=>?_
  rw [xY,sm_sub,dl_sum g (o.at hk).1,dl_sum g (o.at hk).2]
 ·rw [←xY]
  refine ck fun k _=>?_
  rw [←Int.mul_assoc,Int.mul_comm (g p) (f k),Int.mul_assoc,Int.mul_sub]
end
structure Ro where
 t:Nat
 h:Nat
 l:Int
 u:Option Int
def roA (rows:List Ro):As:=rows.map fun r=>(r.t,r.h)
def roR (rows:List Ro):List (Option Int):=rows.flatMap fun r=> [r.u.map (· - r.l),some 0]
def ro0:Ro:=⟨0,0,0,none⟩
def lo (rows:List Ro) (k:Nat):Int:=(rows.getD k ro0).l
def up (rows:List Ro) (k:Nat):Option Int:=(rows.getD k ro0).u
structure RoOk (r:Ro) (m:Nat):Prop where
 t:r.t<m
 h:r.h<m
 n:r.t≠r.h
 b:∀x,r.u=some x→r.l≤x
def wan (rows:List Ro) (p:Nat):Int:=0 - dv (roA rows) (lo rows) (dl p)
section
variable {rows:List Ro} {rs' :List (Option Int)} {f g φ w:Nat→Int} {m k p j:Nat} {a x:Int}
def exa (w:Nat→Int) (m p:Nat):As:=if 0<w p then [(m,p)] else if w p<0 then [(p,m+1)] else []
def exr (w:Nat→Int) (p:Nat):List (Option Int):=if 0<w p then [some (w p),some 0] else if w p<0 then [some (0 - w p),some 0] else []
def exA (w:Nat→Int) (m:Nat):Nat→As
 | 0=> []
 | j+1=>exA w m j++exa w m j
def exR (w:Nat→Int):Nat→List (Option Int)
 | 0=> []
 | j+1=>exR w j++exr w j
def capE (w:Nat→Int) (j k:Nat):Int:=(rm (exR w j) (2*k)).getD 0
def pos (w:Nat→Int) (j:Nat):Int:=sm j fun p=>if 0<w p then w p else 0
def neg (w:Nat→Int) (j:Nat):Int:=sm j fun p=>if w p<0 then w p else 0
def fullA (rows:List Ro) (m:Nat):As:=roA rows++exA (wan rows) m m
def fullR (rows:List Ro) (m:Nat):List (Option Int):=roR rows++exR (wan rows) m
def dueOf (rows:List Ro) (m:Nat):Int:=pos (wan rows) m
def capF (rows:List Ro) (m k:Nat):Int:=if k<rows.length then 0 else (rm (fullR rows m) (2*k)).getD 0
structure Circ (rows:List Ro) (m:Nat) (φ:Nat→Int):Prop where
 lo:∀k,k<rows.length→lo rows k≤φ k
 up:∀k,k<rows.length→∀x,up rows k=some x→φ k≤x
 ev:∀p,p<m→dv (roA rows) φ (dl p)=0
theorem Circ.all (C:Circ rows m φ) (o:AsOk (roA rows) m):dv (roA rows) φ g=0:=by
 rw [dv_pts o,ck (g:=fun _=>0) fun p hp=>by rw [C.ev p hp,Int.mul_zero],lE]
section
variable (o:∀r∈rows,RoOk r m) (A:Flown (fullA rows m) m (m+1) (fullR rows m) rs' f a)
include o A
end
end
end Rs

local macro_rules | `(tactic| walk_at "zs") => `(tactic| simp only [↓reduceIte, ↓Z.e_seq, ↓Z.e_asg, ↓Z.zu, ↓Z.pY, ↓Z.pZ, ↓Z.zy, ↓Z.uN, ↓Z.zG, ↓Z.e_ifS, ↓Z.e_ret, ↓Z.zv, ↓Z.zD, ↓Z.uK, ↓Z.e_c, ↓Z.e_var, ↓Z.e_z1, ↓Z.e_z2, ↓Z.e_via, ↓Z.e_a0, ↓Z.e_a, ↓Z.e_tup, ↓Z.e_lst, ↓Z.zE, ↓Z.e_b, ↓Z.e_and, ↓Z.e_or, ↓Z.e_not, ↓Z.zJ, ↓Z.e_orV, ↓Z.zx, ↓Z.e_if, ↓Z.zH, ↓Z.zz, ↓Z.uM, ↓Z.e_no, ↓Z.e_pt, ↓Z.e_sl, Z.xx, Z.x_nx, Z.x_asg, Z.x_st, Z.x_if, Z.x_rt, Z.x_ret, Z.x_z2, Z.x_d, Z.x_via, Z.xw, Z.x_fix, Z.x_a, Z.x_tup, Z.x_lst, Z.x_ok, Z.x_not, Z.xt, Z.xy, Z.xq, Z.sG, Z.sH, Z.nU, Z.nV, Z.x_pt, Z.x_sl3, Z.x_sl2, Z.x_sl1, Z.ve, Z.qs, Z.qr, Z.mJ, Z.tm, Z.tj, Z.tu, Z.tq, Z.xP, Z.oo, Z.oq, Z.lz, Z.oi, Z.xM, Z.fix_d, Z.uD, Z.uE, Z.pX, Z.zk, Z.ka, Z.iK, Z.oB_bl, Z.zW, Z.jZ, Z.mE, Z.qj, Z.kU, Z.uT, Z.qg, Z.hJ, Z.kW, Z.kT, Z.qm, Z.qf, Z.cI, Z.gZ, Z.qh, Z.w_add, Z.qH, Z.qF, Z.qG, Z.qE, Z.w_sub, Z.xH, Z.pA, Z.pz, Z.w_mod, Z.w_div, Z.w_pow, Z.w_cmp, Z.w_neg, Z.w_min, Z.w_isi, Z.nZ, Z.w_eq, Z.w_in, Z.w_ix, Z.w_len, Z.pE, Z.pG, Z.pF, Z.w_fld, Z.ur, Z.yV, Z.uk, Z.um, Z.uo, Z.uw, Z.uj, Z.uu, Z.isT, Z.lj, Z.lg, Z.flv, ↓Z.e_lc, ↓Z.e_yes, ↓Z.e_itL, Z.iS, Z.la, ↓Z.e_itS, Z.x_itS, Z.sI, Z.kZ, Z.jB, Z.xK, Z.mD, Z.xI, Z.mb, Z.mf, Z.mc, Z.og, Z.lq, Z.w_sl, Z.sY, Z.sZ, ↓Z.e_rg1, Z.x_rg1, ↓Z.e_for, Z.xo, ↓Z.e_zip, Z.xn, ↓Z.e_en, Z.nT, Z.w_unp, Z.unp2, Z.unp3, Z.unp4, Z.unp5, Z.ik, Z.jK, ↓Z.e_m1s, Z.x_m1s, Z.sX, Z.pD, ↓Z.e_m2, Z.x_m2, Z.x_isL, Z.pO, Z.x_isD, Z.pP, Z.x_rv, Z.w_b2, Z.mQ, Z.mP, Z.w_b1, Z.qz, Z.pB, Z.ud, Z.pC, ↓Z.e_sf, Z.x_sf1, Z.x_sf2, Z.x_sf3, ↓Z.e_mk, Z.x_mk, Z.x_sto, ↓Z.e_dp, Z.x_dp1, Z.x_dp2, Z.x_dp3, Z.x_dp4, Z.uJ, Z.my, Z.w_ne, Z.ua, Z.uc, Z.cU, Z.uC, Z.Sto.put_same, Z.tS, Z.tY, Z.gw, Z.sfn0, Z.sfn1, Z.sfn2, Z.sfn3, Z.sfn4, Z.sfn5, Z.sfn6, Z.sfn7, Z.sfn8, decide_false, decide_true, Z.An, Z.wY, Z.Am, List.set_cons_zero, List.set_cons_succ, List.getElem?_cons_zero, List.getElem?_cons_succ, List.cons_append, List.nil_append, List.append_nil, List.isEmpty_nil, List.isEmpty_cons, if_true, if_false, Bool.false_eq_true, true_implies, false_implies, implies_true, reduceCtorEq, Bool.not_true, Bool.not_false, eq_self, and_self, and_true, true_and, ↓Z.zF, Z.xu, ↓Z.e_p, Z.x_p1, Z.x_p2, Z.x_p3, ↓Z.e_p0, ↓Z.zq, Z.x_wk, ↓Z.e_par, Z.x_par, ↓Z.zw, Z.xr, ↓Z.e_aug, Z.qA, Z.xA, ↓Z.zI, Z.x_as1, Z.x_as2, Z.Ai, Z.Ah, Z.x_as6, Z.yd, Z.yc, Z.xG, Z.oU, ↓Z.e_rvI, Z.x_rvI, ↓Z.e_itT, Z.x_itT, Z.mR, Z.xE, Z.oA, Z.oD, Z.ub, Z.tZ, Z.w_max, Z.zp, ↓Z.qe, ↓Z.x_r0, ↓Z.qd, ↓Z.x_r1, ↓Z.x_r2, ↓Z.vf, Z.Wp_ex, ↓Z.qk, ↓Z.w_xf, ↓Z.w_isX, ↓Z.pM, ↓Z.e_rg2, Z.x_rg2, Z.sL, Z.nY, Z.w_str, ↓Z.zt, Z.sO, Z.pq, ↓Z.qb, ↓Z.x_rL1, ↓Z.x_rL2, Z.oh, ↓Z.e_pV, Z.x_pVi, Z.x_pVs, Z.lh, Z.pN, ↓Z.qc, ↓Z.x_rC1, ↓Z.x_rC2, ↓Z.uL, Z.x_hL1, Z.x_hL2, Z.x_hL3, Z.w_isU, Z.iT, *])
namespace T
open PySem PySem.Spec PyProof.Rows L2 M Z
open Classical
section
variable {s:SD} {x z:D}
def isWh:D→Bool
 | .int _=>true
 | _=>false
theorem gW {n:String} (h:x.knd=some n):goF bH [x] s= .ok (.d (.bl (isWh x))) s:=by
 refine wF ?_
 show Wp (kf ⟨[some (.d x)],s.st⟩) _ _
 unfold kf
 cases x<;> first | (walk_at "zs" <;> rfl) | cases h
def isAm (lo hi:Int):D→Bool
 | .int i=>decide (lo≤i)&&decide (i≤hi)
 | _=>false
theorem jX {n:String} {lo hi:Int} (h:x.knd=some n):goF bV [x, .int lo, .int hi] s= .ok (.d (.bl (isAm lo hi x))) s:=by
 refine wF ?_
 show Wp (kg ⟨[some (.d x),some (.d (.int lo)),some (.d (.int hi))],s.st⟩) _ _
 unfold kg
 have h1:∀s:SD,goF bH [x] s= .ok (.d (.bl (isWh x))) s:=fun s=>gW h
 cases x<;> dsimp only [isWh] at h1<;> first | (walk_at "zs" <;> rfl) | cases h | skip
 all_goals walk_at "zs"
 split<;> rename_i c<;> simp only [isAm]<;> simp only [decide_eq_true_eq] at c<;> simp [c]
def jx (z b:Str):Bool:=z.cps.toList.all fun c=>decide (c∈b.cps.toList)
theorem uA {z b:Str} (hz:z.length≤1000000):goF ij [.str z, .str b] s= .ok (.d (.bl (jx z b))) s:=by
 refine wF ?_
 show Wp (iP ⟨[some (.d (.str z)),some (.d (.str b)),none],s.st⟩) _ _
 unfold iP
 walk_at "zs"
 rw [ji (fun d=>match dIn d (.str b) with | some r=> .bl r | none=> .non) rfl Nl.d1 trivial (fun d hd=>?_) (by show (Z.signs z).length≤_; unfold Z.signs; rw [List.length_map]; exact Nat.le_trans hz (by decide))]
 ·walk_at "zs"
  rw [qD (bs:=z.cps.toList.map fun c=>decide (c∈b.cps.toList)) (by
   show BA ((Z.signs z).map _)=_
   unfold Z.signs
   rw [List.map_map]
   exact jo _ _)]
  walk_at "zs"
  unfold jx
  rw [List.all_map]
  rfl
 ·obtain ⟨c,_,rfl⟩:=List.mem_map.mp hd
  unfold Z.gO
  walk_at "zs"
  rw [hZ (r:=decide (c∈b.cps.toList)) rfl]
  walk_at "zs"
  rfl
def isNm:D→Bool
 | .str z=>decide (1≤z.length)&&decide (z.length≤12)&&jx z "abcdefghijklmnopqrstuvwxyz"
 | _=>false
theorem zd {z:Str} (hz:z.length≤1000000):goF lu [.str z] s= .ok (.d (.bl (isNm (.str z)))) s:=by
 refine wF ?_
 show Wp (mM ⟨[some (.d (.str z))],s.st⟩) _ _
 unfold mM
 have h1:=fun (s:SD) b=>uA (s:=s) (b:=b) hz
 have h2:z.length≤sizeLine:=Nat.le_trans hz (by decide)
 walk_at "zs"
 have e1:decide (1≤(z.length:Int))=decide (1≤z.length):=by apply decide_eq_decide.mpr; omega
 have e2:decide ((z.length:Int)≤12)=decide (z.length≤12):=by apply decide_eq_decide.mpr; omega
 rw [e1,e2]
 simp only [isNm]
 cases decide (1≤z.length)<;> cases decide (z.length≤12)<;> simp
abbrev M60:Int:=1000000000000000000000000000000000000000000000000000000000000
def yh (l:Int):D→Bool
 | .non=>true
 | .int m=>decide (l≤m)&&decide (m≤M60)
 | _=>false
theorem mq {l:Int} (h0:0≤l) (h1:l≤M60) (h:yh l x=true):goF fq [.int l,x] s= .ok (.d .non) s:=by
 refine wF ?_
 show Wp (iL ⟨[some (.d (.int l)),some (.d x)],s.st⟩) _ _
 unfold iL
 have k1:∀(s:SD),goF bV [.int l, .int 0, .int M60] s= .ok (.d (.bl true)) s:=fun s=>by
  rw [jX (n:= "int") rfl]
  simp only [isAm,h0,h1,decide_true,Bool.and_self]
 cases x with
 | non=>walk_at "zs"
 | int m=>
  have k2:∀(s:SD),goF bV [.int m, .int l, .int M60] s= .ok (.d (.bl true)) s:=fun s=>by
   rw [jX (n:= "int") rfl]
   rw [show isAm l M60 (.int m)=true from h]
  walk_at "zs"
 | _=>cases h
theorem ku {p:Int} (h0: -M60≤p) (h1:p≤M60):goF eB [.int p] s= .ok (.d .non) s:=by
 refine wF ?_
 show Wp (gG ⟨[some (.d (.int p))],s.st⟩) _ _
 unfold gG
 have k1:∀(s:SD),goF bV [.int p, .int (0 - M60), .int M60] s= .ok (.d (.bl true)) s:=fun s=>by
  rw [jX (n:= "int") rfl]
  simp only [isAm,show (0 - M60≤p) from by omega,h1,decide_true,Bool.and_self]
 walk_at "zs"
end
end T

local macro_rules | `(tactic| simp! only [$ts,*]) => `(tactic| simp only [↓reduceIte, ↓Z.e_seq, ↓Z.e_asg, ↓Z.zu, ↓Z.pY, ↓Z.pZ, ↓Z.zy, ↓Z.uN, ↓Z.zG, ↓Z.e_ifS, ↓Z.e_ret, ↓Z.zv, ↓Z.zD, ↓Z.uK, ↓Z.e_c, ↓Z.e_var, ↓Z.e_z1, ↓Z.e_z2, ↓Z.e_via, ↓Z.e_a0, ↓Z.e_a, ↓Z.e_tup, ↓Z.e_lst, ↓Z.zE, ↓Z.e_b, ↓Z.e_and, ↓Z.e_or, ↓Z.e_not, ↓Z.zJ, ↓Z.e_orV, ↓Z.zx, ↓Z.e_if, ↓Z.zH, ↓Z.zz, ↓Z.uM, ↓Z.e_no, ↓Z.e_pt, ↓Z.e_sl, Z.xx, Z.x_nx, Z.x_asg, Z.x_st, Z.x_if, Z.x_rt, Z.x_ret, Z.x_z2, Z.x_d, Z.x_via, Z.xw, Z.x_fix, Z.x_a, Z.x_tup, Z.x_lst, Z.x_ok, Z.x_not, Z.xt, Z.xy, Z.xq, Z.sG, Z.sH, Z.nU, Z.nV, Z.x_pt, Z.x_sl3, Z.x_sl2, Z.x_sl1, Z.ve, Z.qs, Z.qr, Z.mJ, Z.tm, Z.tj, Z.tu, Z.tq, Z.xP, Z.oo, Z.oq, Z.lz, Z.oi, Z.xM, Z.fix_d, Z.uD, Z.uE, Z.pX, Z.zk, Z.ka, Z.iK, Z.oB_bl, Z.zW, Z.jZ, Z.mE, Z.qj, Z.kU, Z.uT, Z.qg, Z.hJ, Z.kW, Z.kT, Z.qm, Z.qf, Z.cI, Z.gZ, Z.qh, Z.w_add, Z.qH, Z.qF, Z.qG, Z.qE, Z.w_sub, Z.xH, Z.pA, Z.pz, Z.w_mod, Z.w_div, Z.w_pow, Z.w_cmp, Z.w_neg, Z.w_min, Z.w_isi, Z.nZ, Z.w_eq, Z.w_in, Z.w_ix, Z.w_len, Z.pE, Z.pG, Z.pF, Z.w_fld, Z.ur, Z.yV, Z.uk, Z.um, Z.uo, Z.uw, Z.uj, Z.uu, Z.isT, Z.lj, Z.lg, Z.flv, ↓Z.e_lc, ↓Z.e_yes, ↓Z.e_itL, Z.iS, Z.la, ↓Z.e_itS, Z.x_itS, Z.sI, Z.kZ, Z.jB, Z.xK, Z.mD, Z.xI, Z.mb, Z.mf, Z.mc, Z.og, Z.lq, Z.w_sl, Z.sY, Z.sZ, ↓Z.e_rg1, Z.x_rg1, ↓Z.e_for, Z.xo, ↓Z.e_zip, Z.xn, ↓Z.e_en, Z.nT, Z.w_unp, Z.unp2, Z.unp3, Z.unp4, Z.unp5, Z.ik, Z.jK, ↓Z.e_m1s, Z.x_m1s, Z.sX, Z.pD, ↓Z.e_m2, Z.x_m2, Z.x_isL, Z.pO, Z.x_isD, Z.pP, Z.x_rv, Z.w_b2, Z.mQ, Z.mP, Z.w_b1, Z.qz, Z.pB, Z.ud, Z.pC, ↓Z.e_sf, Z.x_sf1, Z.x_sf2, Z.x_sf3, ↓Z.e_mk, Z.x_mk, Z.x_sto, ↓Z.e_dp, Z.x_dp1, Z.x_dp2, Z.x_dp3, Z.x_dp4, Z.uJ, Z.my, Z.w_ne, Z.ua, Z.uc, Z.cU, Z.uC, Z.Sto.put_same, Z.tS, Z.tY, Z.gw, Z.sfn0, Z.sfn1, Z.sfn2, Z.sfn3, Z.sfn4, Z.sfn5, Z.sfn6, Z.sfn7, Z.sfn8, decide_false, decide_true, Z.An, Z.wY, Z.Am, List.set_cons_zero, List.set_cons_succ, List.getElem?_cons_zero, List.getElem?_cons_succ, List.cons_append, List.nil_append, List.append_nil, List.isEmpty_nil, List.isEmpty_cons, if_true, if_false, Bool.false_eq_true, true_implies, false_implies, implies_true, reduceCtorEq, Bool.not_true, Bool.not_false, eq_self, and_self, and_true, true_and, ↓Z.zF, Z.xu, ↓Z.e_p, Z.x_p1, Z.x_p2, Z.x_p3, ↓Z.e_p0, ↓Z.zq, Z.x_wk, ↓Z.e_par, Z.x_par, ↓Z.zw, Z.xr, ↓Z.e_aug, Z.qA, Z.xA, ↓Z.zI, Z.x_as1, Z.x_as2, Z.Ai, Z.Ah, Z.x_as6, Z.yd, Z.yc, Z.xG, Z.oU, ↓Z.e_rvI, Z.x_rvI, ↓Z.e_itT, Z.x_itT, Z.mR, Z.xE, Z.oA, Z.oD, Z.ub, Z.tZ, Z.w_max, Z.zp, ↓Z.qe, ↓Z.x_r0, ↓Z.qd, ↓Z.x_r1, ↓Z.x_r2, ↓Z.vf, Z.Wp_ex, ↓Z.qk, ↓Z.w_xf, ↓Z.w_isX, ↓Z.pM, ↓Z.e_rg2, Z.x_rg2, Z.sL, Z.nY, Z.w_str, ↓Z.zt, Z.sO, Z.pq, ↓Z.qb, ↓Z.x_rL1, ↓Z.x_rL2, Z.oh, ↓Z.e_pV, Z.x_pVi, Z.x_pVs, Z.lh, Z.pN, ↓Z.qc, ↓Z.x_rC1, ↓Z.x_rC2, ↓Z.uL, Z.x_hL1, Z.x_hL2, Z.x_hL3, Z.w_isU, Z.iT, $ts,*])
namespace T
open PySem PySem.Spec PyProof.Rows L2 M Z
open Classical
structure TD where
 tail:Str
 head:Str
 least:Int
 most:Option Int
 price:Int
structure ND where
 names:List Str
 ties:List (Int×TD)
 given:Int
def aY:Option Int→D
 | none=> .non
 | some m=> .int m
def Aq (i:Int) (t:TD):List (Str×D):= [("number", .int i),("tail", .str t.tail),("head", .str t.head),("least", .int t.least),("most",aY t.most),("price", .int t.price)]
def bx (q:Int×TD):D:= .obj "Tie" (Aq q.1 q.2)
def aj (f:Int×TD→D) (ts:List (Int×TD)):List (Key×D):=ts.map fun q=>(.inl q.1,f q)
def iG (l d:Nat) (g:Int):List (Str×D):= [("names", .cell l),("rows", .cell d),("last_given", .int g)]
structure NetAt (S:Sto) (n l d:Nat) (N:ND):Prop where
 n:S.get n=some (.obj "Net" (iG l d N.given))
 l:S.get l=some (.lst (N.names.map .str))
 d:S.get d=some (.dct (aj bx N.ties))
section
variable {l d:Nat} {g i:Int} {t:TD}
theorem pj:fO (iG l d g) "names" =some (.cell l):=rfl
theorem tX:fO (iG l d g) "rows" =some (.cell d):=rfl
theorem pk:fO (iG l d g) "last_given" =some (.int g):=rfl
theorem lB:fO (Aq i t) "number" =some (.int i):=rfl
theorem sP:fO (Aq i t) "tail" =some (.str t.tail):=rfl
theorem sR:fO (Aq i t) "head" =some (.str t.head):=rfl
theorem oy:fO (Aq i t) "least" =some (.int t.least):=rfl
theorem sQ:fO (Aq i t) "most" =some (aY t.most):=rfl
theorem ox:fO (Aq i t) "price" =some (.int t.price):=rfl
theorem fE:fO (iG l d g) "need_place" =none:=rfl
theorem dV:fO (iG l d g) "put_numbered" =none:=rfl
theorem lZ:fO (iG l d g) "tie_of" =none:=rfl
theorem mN_ties:fO (iG l d g) "ties" =none:=rfl
theorem yO:fO (iG l d g) "places" =none:=rfl
theorem Bl:fO (iG l d g) "given" =none:=rfl
end
local macro_rules | `(tactic| walk_at "zn") => `(tactic| simp! only [Z.ak T.pj, Z.ak T.tX, Z.ak T.pk, Z.ak T.lB, Z.ak T.sP, Z.ak T.sR, Z.ak T.oy, Z.ak T.sQ, Z.ak T.ox, Z.ar T.fE, Z.ar T.dV, Z.ar T.lZ, *])
section
variable {s:SD} {S:Sto} {sl:List (Option Vl)} {x y z:D} {n l d:Nat} {N:ND} {g i:Int} {t:TD} {a b:D}
theorem vR (h:NetAt S n l d N):goF eC [.cell n] ⟨sl,S⟩= .ok (.own (.lst (N.names.map .str))) ⟨sl,S⟩:=by
 refine ew ?_
 show Wp (gM ⟨[some (.d (.cell n))],S⟩) _ _
 unfold gM
 have h1:=h.n
 have h2:=h.l
 walk_at "zn"
theorem oH:∀l:List Str,scs (l.map D.str)=some (l.map V.str)
 | []=>rfl
 | a::l=>by rw [List.map_cons,scs,oH l]; rfl
theorem yY (z:Str):∀l:List Str,inV (.str z) (l.map V.str)=decide (z∈l)
 | []=>rfl
 | y::r=>by
  have ih:=yY z r
  unfold inV at ih ⊢
  rw [List.map_cons,List.any_cons,ih]
  rw [Bool.eq_iff_iff]
  simp only [Bool.or_eq_true,decide_eq_true_eq,List.mem_cons]
  have e:eqV (V.str y) (V.str z)=true↔z=y:=by
   show (y == z)=true↔_
   rw [beq_iff_eq]
   exact eq_comm
  rw [e]
theorem fF {w:Str} {l:List Str}:dIn (.str w) (.lst (l.map .str))=some (decide (w∈l)):=by
 unfold dIn
 simp only [oH,D.sc]
 rw [yY]
theorem eG {w:Str} (h:NetAt S n l d N) (hw:w∈N.names):goF aV [.cell n, .str w] ⟨sl,S⟩= .ok (.d .non) ⟨sl,S⟩:=by
 refine ew ?_
 show Wp (dk ⟨[some (.d (.cell n)),some (.d (.str w))],S⟩) _ _
 unfold dk
 have h1:=h.n
 have h2:=h.l
 have h3:=fun s:SD=>hZ (s:=s) (neg:=true) (fF (w:=w) (l:=N.names))
 rw [decide_eq_true hw] at h3
 walk_at "zn"
def kI (ts:List (Int×TD)) (i:Int):Option TD:=(ts.find? fun q=>decide (q.1=i)).map (·.2)
theorem fg {f:Int×TD→D}:∀ts:List (Int×TD),eN (aj f ts) (.inl i)=(kI ts i).map fun t=>f (i,t)
 | []=>rfl
 | q::ts=>by
  have ih:=fg (f:=f) ts
  unfold eN kI aj at*
  rw [List.map_cons,List.find?_cons,List.find?_cons]
  by_cases c:q.1=i
  ·simp only [c,decide_true,Option.map_some]
   rw [←c]
  ·rw [show decide ((Sum.inl q.1:Key)= .inl i)=false from decide_eq_false fun e=>c (Sum.inl.inj e),show decide (q.1=i)=false from decide_eq_false c]
   exact ih
theorem pT (h:NetAt S n l d N) (ht:kI N.ties i=some t):goF de [.cell n, .int i] ⟨sl,S⟩= .ok (.d (bx (i,t))) ⟨sl,S⟩:=by
 refine ew ?_
 show Wp (gK ⟨[some (.d (.cell n)),some (.d (.int i))],S⟩) _ _
 unfold gK
 have h1:=h.n
 have h2:=h.d
 have h3:=fun s:SD=>gW (s:=s) (x:= .int i) rfl
 have e:=fg (f:=bx) (i:=i) N.ties
 rw [ht] at e
 have h4:dIn (.int i) (.dct (aj bx N.ties))=some true:=by
  show some (eN (aj bx N.ties) (.inl i)).isSome=_
  rw [e]; rfl
 have h5:dIx (.dct (aj bx N.ties)) (.int i)=some (bx (i,t)):=e
 have h6:=fun s:SD=>hZ (s:=s) (neg:=true) h4
 have h7:=fun s:SD=>ao (s:=s) h5
 dsimp only [isWh] at h3
 walk_at "zn"
def qI (rs:List (Int×TD)):Prop:=(rs.map (·.1)).Pairwise (· < ·)
theorem iW {is:List Int} (h:is.Pairwise (· < ·)):srt is=is:=
 (xU (ys:=is) (List.Perm.refl _) (h.imp fun h=>Int.le_of_lt h)).symm
theorem gV {f:Int×TD→D}:∀ts:List (Int×TD),pQ (aj f ts)=some (ts.map (·.1))
 | []=>rfl
 | q::ts=>by
  have ih:=gV (f:=f) ts
  unfold aj at*
  rw [List.map_cons,pQ,ih,List.map_cons]
theorem gY (l:List Int):jn (l.map D.int)=some l:=by
 have:=mB (fun i:Int=>i) l
 simpa using this
theorem bj:∀{ts:List (Int×TD)} (hr:qI ts) {q:Int×TD},q∈ts→kI ts q.1=some q.2
 | [],_,q,h=>by cases h
 | a::ts,hr,q,h=>by
  unfold qI at hr
  rw [List.map_cons,List.pairwise_cons] at hr
  unfold kI
  rw [List.find?_cons]
  rcases List.mem_cons.mp h with rfl | h
  ·simp
  ·have c:a.1≠q.1:=fun e=>by
    have:=hr.1 q.1 (List.mem_map.mpr ⟨q,h,rfl⟩)
    omega
   rw [show decide (a.1=q.1)=false from decide_eq_false c]
   exact bj hr.2 h
theorem vQ (h:NetAt S n l d N) (hr:qI N.ties) (hl:N.ties.length≤40):goF cP [.cell n] ⟨sl,S⟩= .ok (.own (.lst (N.ties.map bx))) ⟨sl,S⟩:=by
 refine ew ?_
 show Wp (ki ⟨[some (.d (.cell n)),none],S⟩) _ _
 unfold ki
 have h1:=h.n
 have h2:=h.d
 have e1:jn ((aj bx N.ties).map fun kv=>jl kv.1)=some (N.ties.map (·.1)):=by
  have:((aj bx N.ties).map fun kv=>jl kv.1)=(N.ties.map (·.1)).map D.int:=by
   unfold aj
   rw [List.map_map,List.map_map]
   rfl
  rw [this]
  exact gY _
 have h3:=fun s:SD=>xF (s:=s) (a:= .own (.lst ((aj bx N.ties).map fun kv=>jl kv.1))) rfl e1
 rw [iW hr] at h3
 walk_at "zn"
 rw [ji (fun x=>match x with | .int i=>(match kI N.ties i with | some t=>bx (i,t) | none=> .non) | _=> .non) rfl Nl.d1 trivial (fun x hx=>?_) (by show (List.map D.int _).length≤_; rw [List.length_map,List.length_map]; exact Nat.le_trans hl (by decide))]
 ·walk_at "zn"
  rw [List.map_map,List.map_map]
  show some (Vl.own (.lst _))=_
  congr 3
  refine List.map_congr_left fun q hq=>?_
  show (match kI N.ties q.1 with | some t=>bx (q.1,t) | none=> .non)=bx q
  rw [bj hr hq]
 ·obtain ⟨i,hi,rfl⟩:=List.mem_map.mp hx
  obtain ⟨q,hq,rfl⟩:=List.mem_map.mp hi
  have ht:=bj hr hq
  have e:=fg (f:=bx) (i:=q.1) N.ties
  rw [ht] at e
  have h5:dIx (.dct (aj bx N.ties)) (.int q.1)=some (bx q):=e
  have h7:=fun s:SD=>ao (s:=s) h5
  unfold Z.gO
  walk_at "zn"
theorem mm {w:Str} (h:NetAt S n l d N) (hw:isNm (.str w)=true) (hz:w.length≤1000000) (hn:w∉N.names) (hl:N.names.length<14):
  goF bg [.cell n, .str w] ⟨sl,S⟩= .ok (.d .non) ⟨sl,S.put l (.lst ((N.names++ [w]).map .str))⟩:=by
 refine ew ?_
 show Wp (dZ ⟨[some (.d (.cell n)),some (.d (.str w))],S⟩) _ _
 unfold dZ
 have h1:=h.n
 have h2:=h.l
 have h3:=fun s:SD=>zd (s:=s) hz
 have h4:=fun s:SD=>hZ (s:=s) (neg:=false) (fF (w:=w) (l:=N.names))
 rw [decide_eq_false hn] at h4
 have h5:((((N.names.map D.str).length:Nat):Int)=14)=False:=by
  rw [List.length_map]
  exact eq_false (by omega)
 have h7:(N.names.map D.str).length<sizeLine:=by rw [List.length_map]; exact Nat.lt_trans hl (by decide)
 walk_at "zn"
 simp only [List.map_append,List.map_cons,List.map_nil]
def cN (ts:List (Int×TD)) (i:Int) (t:TD):List (Int×TD):=if (ts.any fun q=>decide (q.1=i))=true then ts.map (fun q=>if q.1=i then (i,t) else q) else ts++ [(i,t)]
def wM (ts:List (Int×TD)) (i:Int):List (Int×TD):=ts.filter fun q=>decide (q.1≠i)
theorem BJ {f:Int×TD→D} (ts:List (Int×TD)):((aj f ts).any fun kv=>decide (kv.1= .inl i))=ts.any fun q=>decide (q.1=i):=by
 unfold aj
 rw [List.any_map]
 congr 1
 funext q
 apply decide_eq_decide.mpr
 exact ⟨fun h=>Sum.inl.inj h,fun h=>by show (Sum.inl q.1:Key)=_; rw [h]⟩
theorem jk {f:Int×TD→D} (ts:List (Int×TD)):kL (aj f ts) (.inl i) (f (i,t))=aj f (cN ts i t):=by
 unfold kL cN
 rw [BJ]
 split
 ·unfold aj
  rw [List.map_map,List.map_map]
  refine List.map_congr_left fun q _=>?_
  show (if (Sum.inl q.1:Key)= .inl i then _ else _)=_
  by_cases c:q.1=i
  ·simp [c]
  ·have c2:¬(Sum.inl q.1:Key)= .inl i:=fun e=>c (Sum.inl.inj e)
   simp [c,c2]
 ·unfold aj
  rw [List.map_append]
  rfl
theorem nL {f:Int×TD→D} (ts:List (Int×TD)):wN (aj f ts) (.inl i)=aj f (wM ts i):=by
 unfold wN wM aj
 rw [List.filter_map]
 congr 1
 refine List.filter_congr fun q _=>?_
 apply decide_eq_decide.mpr
 exact not_congr ⟨fun h=>Sum.inl.inj h,fun h=>by show (Sum.inl q.1:Key)=_; rw [h]⟩
theorem NetAt.ne (h:NetAt S n l d N):n≠l∧n≠d∧l≠d:=by
 have h1:=h.n
 have h2:=h.l
 have h3:=h.d
 refine ⟨fun e=>?_,fun e=>?_,fun e=>?_⟩
 ·rw [e,h2] at h1; cases h1
 ·rw [e,h3] at h1; cases h1
 ·rw [e,h3] at h2; cases h2
theorem pt1:jz "number" x []=([("number",x)]:List (Str×D)):=rfl
theorem pt2:jz "tail" x [("number",a)]=([("number",a),("tail",x)]:List (Str×D)):=rfl
variable {c e m:D}
theorem pt3:jz "head" x [("number",a),("tail",b)]=([("number",a),("tail",b),("head",x)]:List (Str×D)):=rfl
theorem pt4:jz "least" x [("number",a),("tail",b),("head",c)]=([("number",a),("tail",b),("head",c),("least",x)]:List (Str×D)):=rfl
theorem pt5:jz "most" x [("number",a),("tail",b),("head",c),("least",e)]=([("number",a),("tail",b),("head",c),("least",e),("most",x)]:List (Str×D)):=rfl
theorem pt6:jz "price" x [("number",a),("tail",b),("head",c),("least",e),("most",m)]=([("number",a),("tail",b),("head",c),("least",e),("most",m),("price",x)]:List (Str×D)):=rfl
theorem pn1:jz "names" x []=([("names",x)]:List (Str×D)):=rfl
theorem pn2:jz "rows" x [("names",a)]=([("names",a),("rows",x)]:List (Str×D)):=rfl
theorem pn3:jz "last_given" x [("names",a),("rows",b)]=([("names",a),("rows",b),("last_given",x)]:List (Str×D)):=rfl
theorem AH {v:Vl}:sfK ["Net"] "last_given" (.int i) v s (some (.obj "Net" (iG l d g)))=(s.mod (.obj "Net" (iG l d i)) v).bind nxK:=hY (by unfold iG; simp)
theorem g_Tie:goF bW [.cell S.nx, .int i, .str t.tail, .str t.head, .int t.least,aY t.most, .int t.price] ⟨sl,S.new (.obj "Tie" [])⟩= .ok (.d .non) ⟨sl,S.new (bx (i,t))⟩:=by
 refine ew ?_
 show Wp (kh ⟨[some (.d (.cell S.nx)),some (.d (.int i)),some (.d (.str t.tail)),some (.d (.str t.head)),some (.d (.int t.least)),some (.d (aY t.most)),some (.d (.int t.price))],S.new (.obj "Tie" [])⟩) _ _
 unfold kh
 simp! only [pt1,pt2,pt3,pt4,pt5,pt6]
 rfl
end
local macro_rules | `(tactic| walk_at "zm") => `(tactic| simp! only [Z.ak T.pj, Z.ak T.tX, Z.ak T.pk, Z.ak T.lB, Z.ak T.sP, Z.ak T.sR, Z.ak T.oy, Z.ak T.sQ, Z.ak T.ox, Z.ar T.fE, Z.ar T.dV, Z.ar T.lZ, T.AH, *])
section
variable {s:SD} {S:Sto} {sl:List (Option Vl)} {x z:D} {n l d:Nat} {N:ND} {i:Int} {t:TD} {a b:D}
structure TieOk (t:TD):Prop where
 l0:0≤t.least
 l1:t.least≤M60
 m:yh t.least (aY t.most)=true
 p0: -M60≤t.price
 p1:t.price≤M60
theorem nj (h:NetAt S n l d N) (hn:n<S.nx) (hd:d<S.nx) (hl:l<S.nx) (h1:t.tail∈N.names) (h2:t.head∈N.names) (h3:t.tail≠t.head) (ok:TieOk t) (h4:N.ties.length<40):
  goF cf [.cell n, .int i, .str t.tail, .str t.head, .int t.least,aY t.most, .int t.price] ⟨sl,S⟩= .ok (.d (.int i)) ⟨sl,(S.tick.put d (.dct (aj bx (cN N.ties i t)))).put n (.obj "Net" (iG l d i))⟩:=by
 refine ew ?_
 show Wp (cJ ⟨[some (.d (.cell n)),some (.d (.int i)),some (.d (.str t.tail)),some (.d (.str t.head)),some (.d (.int t.least)),some (.d (aY t.most)),some (.d (.int t.price))],S⟩) _ _
 unfold cJ
 have q1:=h.n
 have q2:=h.l
 have q3:=h.d
 have k1:=fun sl=>eG (sl:=sl) h h1
 have k2:=fun sl=>eG (sl:=sl) h h2
 have k3:=fun s=>mq (s:=s) ok.l0 ok.l1 ok.m
 have k4:=fun s=>ku (s:=s) ok.p0 ok.p1
 have e3:=decide_eq_false h3
 have e4:decide ((((aj bx N.ties).length:Nat):Int)=40)=false:=by
  refine decide_eq_false ?_
  unfold aj
  rw [List.length_map]
  omega
 have e5:S.tick.get n=_:=(bB (Nat.ne_of_lt hn)).trans q1
 have e6:S.tick.get d=_:=(bB (Nat.ne_of_lt hd)).trans q3
 have e7:=fun sl=>rJ (sl:=sl) (S:=S) (i:=S.nx) (F:=bW) fun s=>g_Tie (sl:=s.sl) (S:=S) (i:=i) (t:=t)
 have e8:∀x:D,(S.tick.put d x).get n=some (.obj "Net" (iG l d N.given)):=fun x=>(Sto.put_ne h.ne.2.1).trans e5
 have e9:=fun s a=>bT (s:=s) (a:=a) (x:=bx (i,t)) (z:= .int i) (ks:=aj bx N.ties) rfl (by unfold aj; rw [List.length_map]; exact Nat.lt_trans h4 (by decide))
 simp only [jk] at e9
 walk_at "zm"
theorem rX (h:NetAt S n l d N) (hn:n<S.nx) (hd:d<S.nx) (hl:l<S.nx) (h1:t.tail∈N.names) (h2:t.head∈N.names) (h3:t.tail≠t.head) (ok:TieOk t) (h4:N.ties.length<40):
  goF bZ [.cell n, .str t.tail, .str t.head, .int t.least,aY t.most, .int t.price] ⟨sl,S⟩= .ok (.d (.int (N.given+1))) ⟨sl,(S.tick.put d (.dct (aj bx (cN N.ties (N.given+1) t)))).put n (.obj "Net" (iG l d (N.given+1)))⟩:=by
 refine ew ?_
 show Wp (fJ ⟨[some (.d (.cell n)),some (.d (.str t.tail)),some (.d (.str t.head)),some (.d (.int t.least)),some (.d (aY t.most)),some (.d (.int t.price))],S⟩) _ _
 unfold fJ
 have q1:=h.n
 have k1:=fun sl=>nj (sl:=sl) (i:=N.given+1) h hn hd hl h1 h2 h3 ok h4
 walk_at "zm"
theorem wG (h:NetAt S n l d N) (ht:kI N.ties i=some t):goF eI [.cell n, .int i] ⟨sl,S⟩= .ok (.d .non) ⟨sl,S.put d (.dct (aj bx (wM N.ties i)))⟩:=by
 refine ew ?_
 show Wp (eS ⟨[some (.d (.cell n)),some (.d (.int i))],S⟩) _ _
 unfold eS
 have q1:=h.n
 have q3:=h.d
 have k1:=fun sl=>pT (sl:=sl) h ht
 have e:=fg (f:=bx) (i:=i) N.ties
 rw [ht] at e
 have e1:=fun s a=>Ag (s:=s) (a:=a) (z:= .int i) rfl e
 simp only [nL] at e1
 walk_at "zm"
theorem nE {le:Int} {mo:Option Int} (h:NetAt S n l d N) (hn:n<S.nx) (hd:d<S.nx) (ht:kI N.ties i=some t) (ok:TieOk {t with least:=le,most:=mo}) (h4:N.ties.length≤40):
  goF ax [.cell n, .int i, .int le,aY mo] ⟨sl,S⟩= .ok (.d .non) ⟨sl,S.tick.put d (.dct (aj bx (cN N.ties i {t with least:=le,most:=mo})))⟩:=by
 refine ew ?_
 show Wp (eR ⟨[some (.d (.cell n)),some (.d (.int i)),some (.d (.int le)),some (.d (aY mo)),none],S⟩) _ _
 unfold eR
 have q1:=h.n
 have q3:=h.d
 have k1:=fun sl=>pT (sl:=sl) h ht
 have k3:=fun s=>mq (s:=s) ok.l0 ok.l1 ok.m
 have e5:S.tick.get n=_:=(bB (Nat.ne_of_lt hn)).trans q1
 have e6:S.tick.get d=_:=(bB (Nat.ne_of_lt hd)).trans q3
 have e7:=fun sl=>rJ (sl:=sl) (S:=S) (i:=S.nx) (F:=bW) fun s=>g_Tie (sl:=s.sl) (S:=S) (i:=i) (t:= {t with least:=le,most:=mo})
 have e9:=fun s a=>bT (s:=s) (a:=a) (x:=bx (i,{t with least:=le,most:=mo})) (z:= .int i) (ks:=aj bx N.ties) rfl (by unfold aj; rw [List.length_map]; exact Nat.lt_of_le_of_lt h4 (by decide))
 simp only [jk] at e9
 dsimp only at e7 k3
 have e10:bx (i,t)= .obj "Tie" (Aq i t):=rfl
 rw [e10] at k1
 walk_at "zm"
theorem uy {pr:Int} (h:NetAt S n l d N) (hn:n<S.nx) (hd:d<S.nx) (ht:kI N.ties i=some t) (p0: -M60≤pr) (p1:pr≤M60) (h4:N.ties.length≤40):
  goF dN [.cell n, .int i, .int pr] ⟨sl,S⟩= .ok (.d .non) ⟨sl,S.tick.put d (.dct (aj bx (cN N.ties i {t with price:=pr})))⟩:=by
 refine ew ?_
 show Wp (dY ⟨[some (.d (.cell n)),some (.d (.int i)),some (.d (.int pr)),none],S⟩) _ _
 unfold dY
 have q1:=h.n
 have q3:=h.d
 have k1:=fun sl=>pT (sl:=sl) h ht
 have k3:=fun s=>ku (s:=s) p0 p1
 have e5:S.tick.get n=_:=(bB (Nat.ne_of_lt hn)).trans q1
 have e6:S.tick.get d=_:=(bB (Nat.ne_of_lt hd)).trans q3
 have e7:=fun sl=>rJ (sl:=sl) (S:=S) (i:=S.nx) (F:=bW) fun s=>g_Tie (sl:=s.sl) (S:=S) (i:=i) (t:= {t with price:=pr})
 have e9:=fun s a=>bT (s:=s) (a:=a) (x:=bx (i,{t with price:=pr})) (z:= .int i) (ks:=aj bx N.ties) rfl (by unfold aj; rw [List.length_map]; exact Nat.lt_of_le_of_lt h4 (by decide))
 simp only [jk] at e9
 dsimp only at e7
 have e10:bx (i,t)= .obj "Tie" (Aq i t):=rfl
 rw [e10] at k1
 walk_at "zm"
def Bg (S:Sto):Sto:= {nx:=S.nx+3,get:=fun j=>if j=S.nx then some (.obj "Net" (iG (S.nx+1) (S.nx+2) 0)) else if j=S.nx+1 then some (.lst []) else if j=S.nx+2 then some (.dct []) else S.get j}
theorem wH:goF gP [.cell S.nx] ⟨sl,S.new (.obj "Net" [])⟩= .ok (.d .non) ⟨sl,Bg S⟩:=by
 refine ew ?_
 show Wp (kj ⟨[some (.d (.cell S.nx))],S.new (.obj "Net" [])⟩) _ _
 unfold kj
 have e1:∀S x,(Sto.new S x).nx=S.nx+1:=fun _ _=>rfl
 have e2:∀a b,((S.new a).new b).get S.nx=some a:=fun a b=>by simp [Sto.new]
 have e3:∀a b c e,((((S.new a).new b).put S.nx c).new e).get S.nx=some c:=fun a b c e=>by rw [yJ (by show S.nx≠S.nx+1+1; omega),Sto.put_same]
 simp! only [pn1,pn2,pn3,e1,e2,e3,put_nx]
 unfold Bg Sto.new Sto.put
 congr 1
 funext j
 by_cases c1:j=S.nx
 ·subst c1; simp [iG]
 ·by_cases c2:j=S.nx+1
  ·subst c2; simp
  ·by_cases c3:j=S.nx+2
   ·subst c3; simp
   ·simp [c1,c2,c3]
def netC (S:Sto) (N:ND):Sto:= {nx:=S.nx+5,get:=fun j=>if j=S.nx then some (.obj "Net" (iG (S.nx+3) (S.nx+4) N.given)) else if j=S.nx+1 then some (.lst []) else if j=S.nx+2 then some (.dct []) else if j=S.nx+3 then some (.lst (N.names.map .str)) else if j=S.nx+4 then some (.dct (aj bx N.ties)) else S.get j}
end
local macro_rules | `(tactic| walk_at "zi") => `(tactic| repeat (refine Z.iteW (by first | decide | omega | (refine M.aq ?_ ?_ <;> omega) | (refine M.aM ?_ ?_ ?_ ?_ <;> omega)) ?_))
section
variable {s:SD} {n d:Nat} {i:Int} {a b:D}
theorem sq_bd {a b:Int} (h0:0≤a) (h1:a≤b):0≤a*a∧a*a≤b*b:=⟨Int.mul_nonneg h0 h0,Int.mul_le_mul h1 h1 h0 (by omega)⟩
theorem dr (c k j:Int) (h0:0≤k) (h1:k≤1000) (h2:0≤j) (h3:j≤1000):∃n:Int,0≤n∧n<2147483648∧∀s:SD,goF aF [.int c, .int k, .int j] s= .ok (.d (.int n)) s:=by
 have h4:=sq_bd (a:=k+3) (b:=1003) (by omega) (by omega)
 have h5:=sq_bd (a:=j+7) (b:=1007) (by omega) (by omega)
 refine ⟨(c%2147483629*48271+((k+3)*(k+3)*40692+(j+7)*(j+7)*69621))%2147483647*16807%2147483629 / 3,by omega,by omega,fun s=>?_⟩
 refine wF ?_
 show Wp (vi ⟨[some (.d (.int c)),some (.d (.int k)),some (.d (.int j)),none],s.st⟩) _ _
 unfold vi
 walk_at "zs"
 walk_at "zi"
 trivial
theorem xh:M60=1000000000000000000000000000000000000000000000000000000000000:=rfl
theorem zR:wZ 10 60=True:=eq_true ⟨by decide,by decide⟩
theorem lR:(10:Int) ^ (60:Int).toNat=M60:=by decide+kernel
theorem cX (c k j:Int) (h0:0≤k) (h1:k≤1000) (h2:0≤j) (h3:j≤1000):∃n:Int,0≤n∧n≤M60∧∀s:SD,goF cj [.int c, .int k, .int j] s= .ok (.d (.int n)) s:=by
 obtain ⟨n,n0,n1,e1⟩:=dr c k j h0 h1 h2 h3
 have hM:=xh
 have hc0:0≤(c+n)%(M60+1):=Int.emod_nonneg _ (by decide)
 have hc1:(c+n)%(M60+1)<M60+1:=Int.emod_lt_of_pos _ (by decide)
 have hk:∀d:Int,0≤d→d<4→∃m:Int,(0≤m∧m≤M60)∧dIx (.lst [.int (n / 4%4), .int (n / 4%1000), .int ((c+n)%(M60+1)), .int (M60 - n / 4%3)]) (.int d)=some (.int m):=by
  intro d d0 d1
  rcases (show d=0∨d=1∨d=2∨d=3 by omega) with e | e | e | e<;> subst e
  ·exact ⟨_,⟨by omega,by omega⟩,rfl⟩
  ·exact ⟨_,⟨by omega,by omega⟩,rfl⟩
  ·exact ⟨_,⟨by omega,by omega⟩,rfl⟩
  ·exact ⟨_,⟨by omega,by omega⟩,rfl⟩
 obtain ⟨m,hm,em⟩:=hk (n%4) (by omega) (by omega)
 refine ⟨m,hm.1,hm.2,fun s=>wF ?_⟩
 show Wp (mO ⟨[some (.d (.int c)),some (.d (.int k)),some (.d (.int j)),none,none],s.st⟩) _ _
 unfold mO
 have e2:=fun s:SD=>ao (s:=s) em
 have e3:=lR
 have e4:=zR
 walk_at "zs"
 walk_at "zi"
 trivial
theorem zb (i:Int):goF aT [.int i, .int i] s= .ok (.d (.bl true)) s:=by
 refine wF ?_
 show Wp (ju ⟨[some (.d (.int i)),some (.d (.int i))],s.st⟩) _ _
 unfold ju
 walk_at "zs"
def mS (q:Int×TD):D:= .tup [.int q.1, .str q.2.tail, .str q.2.head, .int q.2.least,aY q.2.most, .int q.2.price]
end
end T

namespace T
open PySem PySem.Spec PyProof.Rows L2 M Z A
open Classical
open TL (tl)
local macro_rules | `(tactic| walk_at "zi") => `(tactic| repeat (refine Z.iteW (by first | decide | omega | (refine M.aq ?_ ?_ <;> omega) | (refine M.aM ?_ ?_ ?_ ?_ <;> omega)) ?_))
def Al (z:Str):Prop:=∀c∈tl z,c∈tl "abcdefghijklmnopqrstuvwxyz"
theorem BK {z:Str} (h:Al z):jx z "abcdefghijklmnopqrstuvwxyz" =true:=List.all_eq_true.mpr fun c hc=>decide_eq_true (h c hc)
theorem Aj {z:Str} (h:Al z) (h1:1≤z.length) (h2:z.length≤12):isNm (.str z)=true:=by
 show (decide (1≤z.length)&&decide (z.length≤12)&&jx z "abcdefghijklmnopqrstuvwxyz")=true
 rw [decide_eq_true h1,decide_eq_true h2,BK h]
 rfl
theorem al_cat {x y:Str} (h:Al x) (h2:Al y):Al (x++y):=fun c hc=>by
 rw [nt] at hc
 rcases List.mem_append.mp hc with hc | hc
 ·exact h c hc
 ·exact h2 c hc
theorem wm {x:Str} (lo hi:Option Int) (h:Al x):Al (cutS x lo hi):=fun c hc=>by
 rw [xQ] at hc
 exact h c (List.mem_of_mem_drop (List.mem_of_mem_take hc))
theorem al_one {i:Int} {c:Nat} (h:atI (tl "abcdefghijklmnopqrstuvwxyz") i=some c):Al ⟨#[c]⟩:=fun d hd=>by
 have e:d=c:=List.mem_singleton.mp hd
 subst e
 unfold atI at h
 cases q:ixN (tl "abcdefghijklmnopqrstuvwxyz").length i with
 | none=>rw [q] at h; cases h
 | some j=>rw [q] at h; exact List.mem_of_getElem? h
theorem al_join {ws:List Str} (h:∀x∈ws,Al x):Al (Txt.join "" ws):=fun c hc=>by
 rw [ot] at hc
 obtain ⟨l,hl,hc⟩:=List.mem_flatten.mp hc
 obtain ⟨x,hx,e⟩:=List.mem_map.mp hl
 exact h x hx c (by rw [e]; exact hc)
theorem rM {z:Str} {i:Int} (h:0≤i):(cutS z none (some i)).length=min i.toNat z.length:=by
 rw [fX,tl_to _ _ h,List.length_take,←fX]
theorem vI {z:Str} {i:Int} (h:0≤i):(cutS z (some i) none).length=z.length - i.toNat:=by
 rw [fX,tl_from _ _ h,List.length_drop,←fX]
theorem sum_le:∀(ws:List Str) (k:Nat),(∀x∈ws,x.length≤k)→(ws.map (·.length)).sum≤ws.length*k
 | [],_,_=>Nat.zero_le _
 | x::r,k,h=>by
  have h1:=h x List.mem_cons_self
  have h2:=sum_le r k fun y hy=>h y (List.mem_cons_of_mem _ hy)
  rw [List.map_cons,List.sum_cons,List.length_cons,Nat.succ_mul]
  omega
theorem zQ (xs:List D) {i:Int} (h:0≤i):Z.cutD xs (some i) none=xs.drop i.toNat:=by
 unfold Z.cutD
 rw [oS _ _ _ h]
 show (xs.drop (min i.toNat xs.length)).take (xs.length - min i.toNat xs.length)=_
 by_cases c:i.toNat≤xs.length
 ·rw [Nat.min_eq_left c,List.take_of_length_le (by simp)]
 ·rw [Nat.min_eq_right (by omega),List.drop_length,List.drop_eq_nil_of_le (by omega),List.take_nil]
theorem gz (xs:List D) {i:Int} (h:0≤i):Z.cutD xs none (some i)=xs.take i.toNat:=by
 unfold Z.cutD
 rw [oS _ _ _ h]
 show (xs.drop 0).take (min i.toNat xs.length - 0)=_
 rw [List.drop_zero,Nat.sub_zero]
 by_cases c:i.toNat≤xs.length
 ·rw [Nat.min_eq_left c]
 ·rw [Nat.min_eq_right (by omega),List.take_of_length_le (Nat.le_refl _),List.take_of_length_le (by omega)]
def ltr (i:Int):Str:=match atI (tl "abcdefghijklmnopqrstuvwxyz") i with
 | some c=>⟨#[c]⟩
 | none=> ""
theorem vH {i:Int} (h0:0≤i) (h1:i<26):dIx (.str "abcdefghijklmnopqrstuvwxyz") (.int i)=some (.str (ltr i))∧(ltr i).length=1∧Al (ltr i):=by
 have h2:i<((tl "abcdefghijklmnopqrstuvwxyz").length:Nat):=by rw [show (tl "abcdefghijklmnopqrstuvwxyz").length=26 by decide+kernel]; exact h1
 have h3:=nQ (xs:=tl "abcdefghijklmnopqrstuvwxyz") 0 h0 h2
 have e:ltr i=⟨#[(tl "abcdefghijklmnopqrstuvwxyz").getD i.toNat 0]⟩:=by unfold ltr; rw [h3]
 refine ⟨?_,by rw [e]; rfl,by rw [e]; exact al_one h3⟩
 show (if (Str.ofString "abcdefghijklmnopqrstuvwxyz").length≤sizeLine then (atI (tl "abcdefghijklmnopqrstuvwxyz") i).map fun c=>D.str ⟨#[c]⟩ else none)=_
 rw [if_pos (by decide+kernel),h3,e]
 rfl
theorem xO (g:Int→Str) (m:Nat):(Z.upTo 0 m).map (fun x=>match x with | .int j=>D.str (g j) | _=> .non)=((List.range m).map fun (i:Nat)=>g (i:Int)).map D.str:=by
 unfold Z.upTo
 rw [List.map_map,List.map_map]
 refine List.map_congr_left fun i _=>?_
 show D.str (g (0+(i:Int)))=D.str (g i)
 rw [Int.zero_add]
theorem vn (m:Nat):(Z.upTo 0 m).length=m:=by unfold Z.upTo; simp
theorem xN {m:Nat} {x:D} (h:x∈Z.upTo 0 m):∃j:Int,0≤j∧j<m∧x= .int j:=by
 unfold Z.upTo at h
 obtain ⟨i,hi,rfl⟩:=List.mem_map.mp h
 have:=List.mem_range.mp hi
 exact ⟨0+(i:Int),by omega,by omega,rfl⟩
def dW (ws:List Str):List Str:=(ws.zipIdx.filter fun q=>!decide (q.1∈ws.take q.2)).map (·.1)
theorem wL {ws:List Str}:∀z∈dW ws,z∈ws:=fun z hz=>by
 unfold dW at hz
 obtain ⟨q,hq,rfl⟩:=List.mem_map.mp hz
 have:=(List.mem_filter.mp hq).1
 exact List.fst_mem_of_mem_zipIdx this
def fp (ws:List Str):D→Bool
 | .tup [.int j, .str z]=>!decide (z∈ws.take j.toNat)
 | _=>false
def ff:D→D
 | .tup [_,z]=>z
 | _=> .non
theorem iC (ws:List Str):bO (ws.map D.str)=ws.zipIdx.map fun q=> .tup [.int (q.2:Nat), .str q.1]:=by
 unfold bO
 rw [List.zipIdx_map,List.map_map]
 rfl
theorem zl (ws:List Str):((bO (ws.map D.str)).filter (fp ws)).map ff=(dW ws).map D.str:=by
 rw [iC,List.filter_map,List.map_map]
 unfold dW
 rw [List.map_map]
 rfl
section
variable {s:SD} {S:Sto} {sl:List (Option Vl)} {x z:D}
theorem nl0:Nl []:=fun e he=>by cases he
variable {v0 v1 v2 v3 v4 v5 v6 v7 v8:Option Vl}
theorem comp1 {n:Int} (n0:0≤n) (n1:n<2147483648) {S:Sto}:lcK (zSt 7) fm (z2 oIx (aa 1) (z2 bN (z2 bX (z2 iF (aa 2) (zC (.int 7))) (z2 mT (z2 bX (zC (.int 3)) (z2 bN (aa 2) (zC (.int 5)))) (aa 7))) (zC (.int 26)))) [7] ⟨[],fun _=>True,Z.upTo 0 (12:Int).toNat⟩
   ⟨[v0,some (.d (.str "abcdefghijklmnopqrstuvwxyz")),some (.d (.int n)),v3,v4,v5,v6,v7,v8],S⟩= .ok (.own (.lst (((List.range 12).map fun (i:Nat)=>ltr ((n / 7+(3+n%5)*(i:Int))%26)).map D.str))) ⟨[v0,some (.d (.str "abcdefghijklmnopqrstuvwxyz")),some (.d (.int n)),v3,v4,v5,v6,none,v8],S⟩:=by
 rw [ji (fun x=>match x with | .int j=>D.str (ltr ((n / 7+(3+n%5)*j)%26)) | _=> .non) rfl nl0 trivial (fun x hx=>?_) (by show (Z.upTo 0 12).length≤_; rw [vn]; decide)]
 ·show R.ok (Vl.own (.lst ((Z.upTo 0 12).map _))) _=_
  rw [xO (fun j=>ltr ((n / 7+(3+n%5)*j)%26)) 12]
  rfl
 ·obtain ⟨j,j0,j1,rfl⟩:=xN hx
  have j1:j<12:=j1
  have hb:0≤(3+n%5)*j∧(3+n%5)*j≤7*12:=⟨Int.mul_nonneg (by omega) (by omega),Int.mul_le_mul (by omega) (by omega) (by omega) (by omega)⟩
  have e:=(vH (i:=(n / 7+(3+n%5)*j)%26) (Int.emod_nonneg _ (by decide)) (Int.emod_lt_of_pos _ (by decide))).1
  have e2:=fun s:SD=>ao (s:=s) e
  unfold Z.gO
  walk_at "zs"
  walk_at "zi"
  trivial
def w2f (n at_:Int) (fr:Str) (j:Int):Str:=cutS fr none (some at_)++ltr ((n / 2000+5*j)%26)++cutS fr (some at_) none
theorem comp2 {n at_:Int} {fr:Str} (n0:0≤n) (n1:n<2147483648) (hfl:fr.length≤7) (a0:0≤at_) (a1:at_≤fr.length) {S:Sto}:lcK (zSt 7) fm (z2 bX (z2 bX (zSl (aa 4) zNo (zPt (aa 5))) (z2 oIx (aa 1) (z2 bN (z2 bX (z2 iF (aa 2) (zC (.int 2000))) (z2 mT (zC (.int 5)) (aa 7))) (zC (.int 26))))) (zSl (aa 4) (zPt (aa 5)) zNo)) [7] ⟨[],fun _=>True,Z.upTo 0 (18:Int).toNat⟩
   ⟨[v0,some (.d (.str "abcdefghijklmnopqrstuvwxyz")),some (.d (.int n)),v3,some (.d (.str fr)),some (.d (.int at_)),v6,v7,v8],S⟩= .ok (.own (.lst (((List.range 18).map fun (i:Nat)=>w2f n at_ fr (i:Int)).map D.str))) ⟨[v0,some (.d (.str "abcdefghijklmnopqrstuvwxyz")),some (.d (.int n)),v3,some (.d (.str fr)),some (.d (.int at_)),v6,none,v8],S⟩:=by
 rw [ji (fun x=>match x with | .int j=>D.str (w2f n at_ fr j) | _=> .non) rfl nl0 trivial (fun x hx=>?_) (by show (Z.upTo 0 18).length≤_; rw [vn]; decide)]
 ·show R.ok (Vl.own (.lst ((Z.upTo 0 18).map _))) _=_
  rw [xO (fun j=>w2f n at_ fr j) 18]
  rfl
 ·obtain ⟨j,j0,j1,rfl⟩:=xN hx
  have j1:j<18:=j1
  obtain ⟨e,l1,_⟩:=(vH (i:=(n / 2000+5*j)%26) (Int.emod_nonneg _ (by decide)) (Int.emod_lt_of_pos _ (by decide)))
  have e2:=fun s:SD=>ao (s:=s) e
  have hc1:=rM (z:=fr) a0
  have hc2:=vI (z:=fr) a0
  have z0:(fr.length≤sizeLine)=True:=eq_true (Nat.le_trans hfl (by decide))
  have z1:((cutS fr none (some at_)).length+(ltr ((n / 2000+5*j)%26)).length≤sizeLine)=True:=eq_true (Nat.le_trans (show _≤100 by omega) (by decide))
  have z2:((cutS fr none (some at_)++ltr ((n / 2000+5*j)%26)).length+(cutS fr (some at_) none).length≤sizeLine)=True:=eq_true (Nat.le_trans (show _≤100 by rw [A.ug]; omega) (by decide))
  clear hc1 hc2 l1
  unfold Z.gO w2f
  walk_at "zs"
  walk_at "zi"
  trivial
theorem comp3 {bs:Str} (hb:bs.length=12) {S:Sto}:lcK (zSt 7) fm (zSl (aa 3) zNo (zPt (z2 bX (aa 7) (zC (.int 1))))) [7] ⟨[],fun _=>True,Z.upTo 0 (12:Int).toNat⟩
   ⟨[v0,v1,v2,some (.d (.str bs)),v4,v5,v6,v7,v8],S⟩= .ok (.own (.lst (((List.range 12).map fun (i:Nat)=>cutS bs none (some ((i:Int)+1))).map D.str))) ⟨[v0,v1,v2,some (.d (.str bs)),v4,v5,v6,none,v8],S⟩:=by
 rw [ji (fun x=>match x with | .int j=>D.str (cutS bs none (some (j+1))) | _=> .non) rfl nl0 trivial (fun x hx=>?_) (by show (Z.upTo 0 12).length≤_; rw [vn]; decide)]
 ·show R.ok (Vl.own (.lst ((Z.upTo 0 12).map _))) _=_
  rw [xO (fun j=>cutS bs none (some (j+1))) 12]
  rfl
 ·obtain ⟨j,j0,j1,rfl⟩:=xN hx
  have z0:(bs.length≤sizeLine)=True:=eq_true (by rw [hb]; decide)
  clear hb
  unfold Z.gO
  walk_at "zs"
theorem comp4 {ws:List Str} (hl:ws.length≤30) {S:Sto}:lcK (jD [7,8]) (zB (z2 (oIn true) (aa 8) (zSl (aa 6) zNo (zPt (aa 7))))) (aa 8) [7,8] ⟨[.d (.lst (ws.map D.str))],fun _=>True,bO (ws.map D.str)⟩
   ⟨[v0,v1,v2,v3,v4,v5,some (.d (.lst (ws.map D.str))),v7,v8],S⟩= .ok (.own (.lst ((dW ws).map D.str))) ⟨[v0,v1,v2,v3,v4,v5,some (.d (.lst (ws.map D.str))),none,none],S⟩:=by
 rw [pH (fp ws) ff rfl Nl.d1 trivial (fun x hx=>?_) (by rw [iC]; show (List.map _ _).length≤_; rw [List.length_map,List.length_zipIdx]; exact Nat.le_trans hl (by decide))]
 ·show R.ok (Vl.own (.lst (((bO (ws.map D.str)).filter (fp ws)).map ff))) _=_
  rw [zl]
  rfl
 ·have hx:x∈bO (ws.map D.str):=hx
  rw [iC] at hx
  obtain ⟨⟨z,j⟩,hq,rfl⟩:=List.mem_map.mp hx
  have e1:Z.cutD (ws.map D.str) none (some ((j:Nat):Int))=(ws.take j).map D.str:=by
   rw [gz _ (by omega),Int.toNat_natCast,List.map_take]
  have e2:∀s:SD,unpK [7,8] s (some (.tup [.int (j:Nat), .str z]))= .ok () {s with sl:=cM [7,8] [.int (j:Nat), .str z] s.sl}:=fun s=>rfl
  have e3:=fun s:SD=>hZ (s:=s) (neg:=true) (fF (w:=z) (l:=ws.take j))
  have e4:fp ws (.tup [.int (j:Nat), .str z])=!decide (z∈ws.take j):=rfl
  unfold Z.gO
  simp! only [e1,e2,e3,e4]
  exact fun _=>rfl
theorem w2_ok {n at_:Int} {fr:Str} (hfa:Al fr) (a0:0≤at_) (a1:at_≤fr.length) (j:Int):(w2f n at_ fr j).length=fr.length+1∧Al (w2f n at_ fr j):=by
 obtain ⟨_,l1,l2⟩:=vH (i:=(n / 2000+5*j)%26) (Int.emod_nonneg _ (by decide)) (Int.emod_lt_of_pos _ (by decide))
 have hc1:=rM (z:=fr) a0
 have hc2:=vI (z:=fr) a0
 unfold w2f
 refine ⟨?_,al_cat (al_cat (wm _ _ hfa) l2) (wm _ _ hfa)⟩
 rw [A.ug,A.ug,hc1,hc2,l1]
 omega
abbrev qJ (z:Str):Prop:=Al z∧1≤z.length∧z.length≤12∧z≠ "zzzyzzzyzzzy"
theorem ltr_z {i:Int} (h0:0≤i) (h1:i<26) (h:tl (ltr i)= [122]):i=25:=by
 have h2:i<((tl "abcdefghijklmnopqrstuvwxyz").length:Nat):=by rw [show (tl "abcdefghijklmnopqrstuvwxyz").length=26 by decide+kernel]; exact h1
 have h3:=nQ (xs:=tl "abcdefghijklmnopqrstuvwxyz") 0 h0 h2
 have e:ltr i=⟨#[(tl "abcdefghijklmnopqrstuvwxyz").getD i.toNat 0]⟩:=by unfold ltr; rw [h3]
 rw [e] at h
 have h4:(tl "abcdefghijklmnopqrstuvwxyz").getD i.toNat 0=122:=List.head_eq_of_cons_eq h
 have h5:∀k<26,(tl "abcdefghijklmnopqrstuvwxyz").getD k 0=122→k=25:=by decide+kernel
 have:=h5 i.toNat (by omega) h4
 omega
theorem zz12 {n:Int} (n0:0≤n):(tl (Txt.join "" ((List.range 12).map fun (i:Nat)=>ltr ((n / 7+(3+n%5)*(i:Int))%26)))).take 2≠ [122,122]:=fun h=>by
 obtain ⟨a0,a1⟩:=show 0≤n / 7%26∧n / 7%26<26 from ⟨Int.emod_nonneg _ (by decide),Int.emod_lt_of_pos _ (by decide)⟩
 obtain ⟨b0,b1⟩:=show 0≤(n / 7+(3+n%5))%26∧(n / 7+(3+n%5))%26<26 from ⟨Int.emod_nonneg _ (by decide),Int.emod_lt_of_pos _ (by decide)⟩
 have e:(List.range 12).map (fun (i:Nat)=>ltr ((n / 7+(3+n%5)*(i:Int))%26))=ltr (n / 7%26)::ltr ((n / 7+(3+n%5))%26)::(List.range 10).map (fun (i:Nat)=>ltr ((n / 7+(3+n%5)*((i+2:Nat):Int))%26)):=by
  rw [show List.range 12=0::1::(List.range 10).map (· +2) from by decide,List.map_cons,List.map_cons,List.map_map]
  simp
 rw [e,ot,List.map_cons,List.map_cons,List.flatten_cons,List.flatten_cons] at h
 have l1:∀i:Int,0≤i→i<26→∃c,tl (ltr i)= [c]:=fun i h0 h1=>by
  have h2:i<((tl "abcdefghijklmnopqrstuvwxyz").length:Nat):=by rw [show (tl "abcdefghijklmnopqrstuvwxyz").length=26 by decide+kernel]; exact h1
  have h3:=nQ (xs:=tl "abcdefghijklmnopqrstuvwxyz") 0 h0 h2
  exact ⟨_,by unfold ltr; rw [h3]⟩
 obtain ⟨c1,e1⟩:=l1 _ a0 a1
 obtain ⟨c2,e2⟩:=l1 _ b0 b1
 rw [e1,e2] at h
 have h: [c1,c2]= [122,122]:=h
 injection h with h1 h2
 injection h2 with h2
 have:=ltr_z a0 a1 (by rw [e1,h1])
 have:=ltr_z b0 b1 (by rw [e2,h2])
 omega
theorem zz_cut {bs:Str} {i:Nat} (hb:bs.length=12) (hi:i<12) (h:(tl bs).take 2≠ [122,122]):cutS bs none (some ((i:Int)+1))≠ "zzzyzzzyzzzy" :=fun e=>by
 have e1:tl (cutS bs none (some ((i:Int)+1)))=tl "zzzyzzzyzzzy" :=by rw [e]
 rw [tl_to _ _ (by omega)] at e1
 have l1:((tl bs).take ((i:Int)+1).toNat).length=12:=by rw [e1]; decide+kernel
 rw [List.length_take] at l1
 refine h ?_
 have e2:((tl bs).take ((i:Int)+1).toNat).take 2=(tl "zzzyzzzyzzzy").take 2:=by rw [e1]
 rw [List.take_take,Nat.min_eq_left (by omega)] at e2
 rw [e2]
 decide+kernel
end
end T

namespace T
open PySem PySem.Spec PyProof.Rows L2 M Z A
open Classical
local macro_rules | `(tactic| walk_at "zi") => `(tactic| repeat (refine Z.iteW (by first | decide | omega | (refine M.aq ?_ ?_ <;> omega) | (refine M.aM ?_ ?_ ?_ ?_ <;> omega)) ?_))
def br (q:Int×TD):D:= .tup [.str q.2.tail, .str q.2.head, .int q.2.least,aY q.2.most, .int q.2.price]
def vF (ml md:Nat) (g:Int):List (Key×D):= [(.inr "names", .cell ml),(.inr "ties", .cell md),(.inr "given", .int g)]
structure ModAt (S:Sto) (m ml md:Nat) (N:ND):Prop where
 m:S.get m=some (.dct (vF ml md N.given))
 l:S.get ml=some (.lst (N.names.map .str))
 d:S.get md=some (.dct (aj br N.ties))
structure Good (N:ND):Prop where
 nd:N.names.Nodup
 nm:∀z∈N.names,qJ z
 nl:N.names.length≤14
 rise:qI N.ties
 tl:N.ties.length≤40
 ts:∀q∈N.ties,q.1≤N.given∧TieOk q.2
 tn:∀q∈N.ties,qJ q.2.tail∧qJ q.2.head
 pl:∀q∈N.ties,q.2.tail∈N.names∧q.2.head∈N.names∧q.2.tail≠q.2.head
 g0:0≤N.given∧∀q∈N.ties,1≤q.1
theorem fD {ns:List Str} {i:Int} (h0:0≤i) (h1:i<ns.length):∃z,z∈ns∧dIx (.lst (ns.map .str)) (.int i)=some (.str z)∧ns[i.toNat]? =some z:=by
 have h2:i.toNat<ns.length:=by omega
 refine ⟨ns[i.toNat],List.getElem_mem h2, ?_,List.getElem?_eq_getElem h2⟩
 show atI (ns.map D.str) i=_
 rw [nQ (D.str "") h0 (by rw [List.length_map]; exact h1),List.getD_eq_getElem?_getD,List.getElem?_map,List.getElem?_eq_getElem h2]
 rfl
theorem ph {ns:List Str} (h:ns.Nodup) {i j:Nat} {x y:Str} (hi:ns[i]? =some x) (hj:ns[j]? =some y) (hne:i≠j):x≠y:=fun e=>by
 subst e
 obtain ⟨a,ha⟩:=List.getElem?_eq_some_iff.mp hi
 obtain ⟨b,hb⟩:=List.getElem?_eq_some_iff.mp hj
 rcases Nat.lt_or_gt_of_ne hne with hlt | hlt
 ·exact List.pairwise_iff_getElem.mp h i j a b hlt (ha.trans hb.symm)
 ·exact List.pairwise_iff_getElem.mp h j i b a hlt (hb.trans ha.symm)
theorem oG {m a L:Int} (h0:0≤a) (h1:a<L - 1):(m+1+a)%L≠m%L:=fun e=>by
 have h:=Int.emod_eq_emod_iff_emod_sub_eq_zero.mp e
 rw [show m+1+a - m=1+a by omega,Int.emod_eq_of_lt (by omega) (by omega)] at h
 omega
structure Six (S:Sto) (n l d m ml md:Nat):Prop where
 b1:n<S.nx
 b2:l<S.nx
 b3:d<S.nx
 b4:m<S.nx
 b5:ml<S.nx
 b6:md<S.nx
 a1:n≠m∧n≠ml∧n≠md
 a2:l≠m∧l≠ml∧l≠md
 a3:d≠m∧d≠ml∧d≠md
 a4:m≠ml∧m≠md∧ml≠md
 a5:n≠l∧n≠d∧l≠d
theorem NetAt.given_eq {S:Sto} {n l d:Nat} {N:ND} {g:Int} (h:NetAt S n l d N) (e:S.get n=some (.obj "Net" (iG l d g))):g=N.given:=
 congrArg (fun o:Option D=>match o with | some (.obj _ [_,_,(_, .int g)])=>g | _=>0) (e.symm.trans h.n)
structure Did (S S' :Sto) (n l d m ml md:Nat) (N' :ND):Prop where
 nx:S.nx≤S'.nx
 fr:∀i,i<S.nx→i≠n→i≠l→i≠d→i≠m→i≠ml→i≠md→S'.get i=S.get i
 net:NetAt S' n l d N'
 mod:ModAt S' m ml md N'
 good:Good N'
 gv:∀g:Int,S.get n=some (.obj "Net" (iG l d g))→N'.given≤g+1
section
variable {s:SD} {S:Sto} {sl:List (Option Vl)} {x y z:D} {n l d m ml md:Nat} {N:ND} {g i c k:Int} {t:TD} {a b:D}
theorem az {s:SD}:ixK s (some (.dct (vF ml md g))) (some (.str "names"))= .ok (.d (.cell ml)) s:=rfl
theorem aJ {s:SD}:ixK s (some (.dct (vF ml md g))) (some (.str "ties"))= .ok (.d (.cell md)) s:=rfl
theorem dy {s:SD}:ixK s (some (.dct (vF ml md g))) (some (.str "given"))= .ok (.d (.int g)) s:=rfl
theorem dz {s:SD} {a:Vl}:oE (bP (.int i)) a (.str "given") s (some (.dct (vF ml md g)))=s.mod (.dct (vF ml md i)) a:=by
 rw [bT (k:= .inr "given") rfl (by show 3<sizeLine; decide)]
 rfl
theorem pick3 {a:Int} (h0:0≤a) (h1:a≤M60) (j:Int):∃v:Int,0≤v∧v≤M60∧dIx (.lst [.int 0, .int 0, .int a]) (.int (j%3))=some (.int v):=by
 have hM:=xh
 rcases (show j%3=0∨j%3=1∨j%3=2 by omega) with e | e | e<;> rw [e]
 ·exact ⟨0,by omega,by omega,rfl⟩
 ·exact ⟨0,by omega,by omega,rfl⟩
 ·exact ⟨a,h0,h1,rfl⟩
theorem pickM {le a:Int} (l1:le≤M60) (a0:0≤a) (j:Int):∃mo:Option Int,yh le (aY mo)=true∧dIx (.lst [.non, .int M60, .int (if le+a<M60 then le+a else M60)]) (.int (j%3))=some (aY mo):=by
 rcases (show j%3=0∨j%3=1∨j%3=2 by omega) with e | e | e<;> rw [e]
 ·exact ⟨none,rfl,rfl⟩
 ·exact ⟨some M60,by simp [yh,aY,l1],rfl⟩
 ·refine ⟨some (if le+a<M60 then le+a else M60), ?_,rfl⟩
  simp only [yh,aY,Bool.and_eq_true,decide_eq_true_eq]
  split<;> omega
theorem pickS {p:Int} (p0:0≤p) (p1:p≤M60) (j:Int):∃v:Int,(v=1∨v= -1)∧dIx (.lst [.int 1, .int (-1)]) (.int (j%2))=some (.int v):=by
 rcases (show j%2=0∨j%2=1 by omega) with e | e<;> rw [e]
 ·exact ⟨1, .inl rfl,rfl⟩
 ·exact ⟨-1, .inr rfl,rfl⟩
theorem AM {ts:List (Int×TD)} (hr:qI ts) (hg:∀q∈ts,q.1≤g):cN ts (g+1) t=ts++ [(g+1,t)]∧qI (ts++ [(g+1,t)]):=by
 refine ⟨?_, ?_⟩
 ·unfold cN
  rw [if_neg]
  intro e
  obtain ⟨q,hq,e⟩:=List.any_eq_true.mp e
  have:=hg q hq
  have:=of_decide_eq_true e
  omega
 ·unfold qI
  rw [List.map_append,List.pairwise_append]
  refine ⟨hr,by simp,fun a ha b hb=>?_⟩
  obtain ⟨q,hq,rfl⟩:=List.mem_map.mp ha
  rw [List.mem_singleton.mp (show b∈ [g+1] from hb)]
  have:=hg q hq
  omega
theorem Good.put (h:Good N) (ok:TieOk t) (h1:t.tail∈N.names) (h2:t.head∈N.names) (h3:t.tail≠t.head) (hl:N.ties.length<40):Good ⟨N.names,cN N.ties (N.given+1) t,N.given+1⟩:=by
 obtain ⟨e1,e2⟩:=AM (g:=N.given) (t:=t) h.rise fun q hq=>(h.ts q hq).1
 refine ⟨h.nd,h.nm,h.nl, ?_, ?_,fun q hq=>?_,fun q hq=>?_,fun q hq=>?_,Int.le_trans h.g0.1 (by show N.given≤N.given+1; omega),fun q hq=>?_⟩
 ·show qI (cN _ _ _); rw [e1]; exact e2
 ·show (cN _ _ _).length≤40; rw [e1,List.length_append]; exact hl
 ·have hq:q∈cN N.ties (N.given+1) t:=hq
  rw [e1] at hq
  rcases List.mem_append.mp hq with hq | hq
  ·obtain ⟨h1,h2⟩:=h.ts q hq
   exact ⟨by show q.1≤N.given+1; omega,h2⟩
  ·rw [List.mem_singleton.mp hq]
   exact ⟨Int.le_refl _,ok⟩
 ·have hq:q∈cN N.ties (N.given+1) t:=hq
  rw [e1] at hq
  rcases List.mem_append.mp hq with hq | hq
  ·exact h.tn q hq
  ·rw [List.mem_singleton.mp hq]
   exact ⟨h.nm _ h1,h.nm _ h2⟩
 ·have hq:q∈cN N.ties (N.given+1) t:=hq
  rw [e1] at hq
  rcases List.mem_append.mp hq with hq | hq
  ·exact h.pl q hq
  ·rw [List.mem_singleton.mp hq]
   exact ⟨h1,h2,h3⟩
 ·have hq:q∈cN N.ties (N.given+1) t:=hq
  rw [e1] at hq
  have h0:=h.g0.1
  rcases List.mem_append.mp hq with hq | hq
  ·exact h.g0.2 q hq
  ·rw [List.mem_singleton.mp hq]
   show 1≤N.given+1
   omega
theorem yi {ts:List (Int×TD)} (hr:qI ts):qI (wM ts i):=by
 unfold qI wM at*
 exact hr.sublist (List.Sublist.map _ List.filter_sublist)
theorem gr {ts:List (Int×TD)} (hq:q∈ts):cN ts q.1 t=ts.map fun p=>if p.1=q.1 then (q.1,t) else p:=by
 unfold cN
 rw [if_pos]
 exact List.any_eq_true.mpr ⟨q,hq,decide_eq_true rfl⟩
theorem yu {ts:List (Int×TD)} (hq:q∈ts):(cN ts q.1 t).map (·.1)=ts.map (·.1):=by
 rw [gr hq,List.map_map]
 refine List.map_congr_left fun p _=>?_
 show (if p.1=q.1 then (q.1,t) else p).1=p.1
 split
 ·rename_i e; exact e.symm
 ·rfl
theorem Good.set (h:Good N) (hq:q∈N.ties) (ok:TieOk t) (t1:t.tail=q.2.tail) (t2:t.head=q.2.head):Good ⟨N.names,cN N.ties q.1 t,N.given⟩:=by
 refine ⟨h.nd,h.nm,h.nl, ?_, ?_,fun p hp=>?_,fun p hp=>?_,fun p hp=>?_,h.g0.1,fun p hp=>?_⟩
 ·show qI (cN _ _ _)
  unfold qI
  rw [yu hq]
  exact h.rise
 ·show (cN _ _ _).length≤40
  rw [gr hq,List.length_map]
  exact h.tl
 ·have hp:p∈cN N.ties q.1 t:=hp
  rw [gr hq] at hp
  obtain ⟨p0,h0,rfl⟩:=List.mem_map.mp hp
  split
  ·exact ⟨(h.ts q hq).1,ok⟩
  ·exact h.ts p0 h0
 ·have hp:p∈cN N.ties q.1 t:=hp
  rw [gr hq] at hp
  obtain ⟨p0,h0,rfl⟩:=List.mem_map.mp hp
  split
  ·show qJ t.tail∧qJ t.head
   rw [t1,t2]; exact h.tn q hq
  ·exact h.tn p0 h0
 ·have hp:p∈cN N.ties q.1 t:=hp
  rw [gr hq] at hp
  obtain ⟨p0,h0,rfl⟩:=List.mem_map.mp hp
  split
  ·show t.tail∈N.names∧t.head∈N.names∧t.tail≠t.head
   rw [t1,t2]; exact h.pl q hq
  ·exact h.pl p0 h0
 ·have hp:p∈cN N.ties q.1 t:=hp
  rw [gr hq] at hp
  obtain ⟨p0,h0,rfl⟩:=List.mem_map.mp hp
  split
  ·exact h.g0.2 q hq
  ·exact h.g0.2 p0 h0
theorem Good.drop (h:Good N):Good ⟨N.names,wM N.ties i,N.given⟩:=
 ⟨h.nd,h.nm,h.nl,yi h.rise,Nat.le_trans (List.length_filter_le _ _) h.tl,fun p hp=>h.ts p (List.mem_filter.mp (show p∈List.filter _ _ from hp)).1,fun p hp=>h.tn p (List.mem_filter.mp (show p∈List.filter _ _ from hp)).1,fun p hp=>h.pl p (List.mem_filter.mp (show p∈List.filter _ _ from hp)).1,h.g0.1,fun p hp=>h.g0.2 p (List.mem_filter.mp (show p∈List.filter _ _ from hp)).1⟩
def Ar (S:Sto) (n l d m ml md:Nat) (N:ND) (t:TD):Sto:=
 (((S.tick.put d (.dct (aj bx (cN N.ties (N.given+1) t)))).put n (.obj "Net" (iG l d (N.given+1)))).put m (.dct (vF ml md (N.given+1)))).put md (.dct (aj br (cN N.ties (N.given+1) t)))
theorem yt (h6:Six S n l d m ml md) (hN:NetAt S n l d N) (hM:ModAt S m ml md N) (hG:Good N) (ok:TieOk t) (t1:t.tail∈N.names) (t2:t.head∈N.names) (t3:t.tail≠t.head) (hl:N.ties.length<40):Did S (Ar S n l d m ml md N t) n l d m ml md ⟨N.names,cN N.ties (N.given+1) t,N.given+1⟩:=by
 obtain ⟨b1,b2,b3,b4,b5,b6,⟨a1,a2,a3⟩,⟨a4,a5,a6⟩,⟨a7,a8,a9⟩,⟨a10,a11,a12⟩,⟨a13,a14,a15⟩⟩:=h6
 refine ⟨Nat.le_succ _,fun i hi c1 c2 c3 c4 c5 c6=>?_,⟨?_, ?_, ?_⟩,⟨?_, ?_, ?_⟩,hG.put ok t1 t2 t3 hl,fun g e=>by rw [hN.given_eq e]; exact Int.le_refl _⟩
 ·unfold Ar
  rw [Sto.put_ne c6,Sto.put_ne c4,Sto.put_ne c1,Sto.put_ne c3,bB (by omega)]
 ·unfold Ar
  rw [Sto.put_ne a3,Sto.put_ne a1,Sto.put_same]
 ·unfold Ar
  rw [Sto.put_ne a6,Sto.put_ne a4,Sto.put_ne (Ne.symm a13),Sto.put_ne a15,bB (by omega)]
  exact hN.l
 ·unfold Ar
  rw [Sto.put_ne a9,Sto.put_ne a7,Sto.put_ne (Ne.symm a14),Sto.put_same]
 ·unfold Ar
  rw [Sto.put_ne a11,Sto.put_same]
 ·unfold Ar
  rw [Sto.put_ne a12,Sto.put_ne (Ne.symm a10),Sto.put_ne (Ne.symm a2),Sto.put_ne (Ne.symm a8),bB (by omega)]
  exact hM.l
 ·unfold Ar
  rw [Sto.put_same]
theorem hX {s:SD} {a:Vl} {ts:List (Int×TD)} (hl:ts.length≤40):oE (bP (br (i,t))) a (.int i) s (some (.dct (aj br ts)))=s.mod (.dct (aj br (cN ts i t))) a:=by
 rw [bT (k:= .inl i) rfl (by unfold aj; rw [List.length_map]; exact Nat.lt_of_le_of_lt hl (by decide)),jk]
theorem dG:fO (iG l d g) "put_tie" =none:=rfl
theorem wI (h6:Six S n l d m ml md) (hN:NetAt S n l d N) (hM:ModAt S m ml md N) (hG:Good N) (h2:2≤N.names.length) (hl:N.ties.length<40) (k0:0≤k) (k1:k≤1000):
  ∃S' N',Did S S' n l d m ml md N'∧∀sl,goF bh [.cell n, .cell m, .int c, .int k] ⟨sl,S⟩= .ok (.d (.bl true)) ⟨sl,S'⟩:=by
 have hM0:=xh
 obtain ⟨j,j0,j1,e1⟩:=dr c k 2 k0 k1 (by decide) (by decide)
 obtain ⟨p3,p30,p31,e3⟩:=cX c k 3 k0 k1 (by decide) (by decide)
 obtain ⟨p4,p40,p41,e4⟩:=cX c k 4 k0 k1 (by decide) (by decide)
 obtain ⟨p5,p50,p51,e5⟩:=cX c k 5 k0 k1 (by decide) (by decide)
 have hL:((N.names.length:Nat):Int)≠0:=by omega
 have hL1:((N.names.length:Nat):Int) - 1≠0:=by omega
 obtain ⟨tail,ht,et,et2⟩:=fD (ns:=N.names) (i:=j%(N.names.length:Int)) (Int.emod_nonneg _ (by omega)) (Int.emod_lt_of_pos _ (by omega))
 obtain ⟨head,hh,eh,eh2⟩:=fD (ns:=N.names) (i:=(j+1+j / 14%((N.names.length:Int) - 1))%(N.names.length:Int)) (Int.emod_nonneg _ (by omega)) (Int.emod_lt_of_pos _ (by omega))
 have hne:tail≠head:=ph hG.nd et2 eh2 fun e=>by
  have q1:=Int.emod_nonneg j hL
  have q2:=Int.emod_nonneg (j+1+j / 14%((N.names.length:Int) - 1)) hL
  exact oG (m:=j) (L:=N.names.length) (Int.emod_nonneg (j / 14) hL1) (Int.emod_lt_of_pos (j / 14) (by omega)) (by omega)
 obtain ⟨le,le0,le1,ele⟩:=pick3 p30 p31 (j / 200)
 obtain ⟨mo,hmo,emo⟩:=pickM le1 p40 (j / 600)
 obtain ⟨v,hv,ev⟩:=pickS p50 p51 (j / 1800)
 have q1:=hM.m
 have q2:=hM.l
 have q3:=hM.d
 have q4:=hN.n
 have r1:=fun s:SD=>ao (s:=s) et
 have r2:=fun s:SD=>ao (s:=s) eh
 have r3:=fun s:SD=>ao (s:=s) ele
 have r4:=fun s:SD=>ao (s:=s) emo
 have r5:=fun s:SD=>ao (s:=s) ev
 have fin:∀t:TD,t.tail=tail→t.head=head→TieOk t→(∀sl,goF bh [.cell n, .cell m, .int c, .int k] ⟨sl,S⟩= .ok (.d (.bl true)) ⟨sl,Ar S n l d m ml md N t⟩)→
   ∃S' N',Did S S' n l d m ml md N'∧∀sl,goF bh [.cell n, .cell m, .int c, .int k] ⟨sl,S⟩= .ok (.d (.bl true)) ⟨sl,S'⟩:=fun t e1 e2 ok h=>⟨_,_,yt h6 hN hM hG ok (e1 ▸ ht) (e2 ▸ hh) (by rw [e1,e2]; exact hne) hl,h⟩
 have put:=fun (t:TD) (h1:t.tail=tail) (h2:t.head=head) (ok:TieOk t) sl=>rX (sl:=sl) hN h6.b1 h6.b3 h6.b2 (h1 ▸ ht) (h2 ▸ hh) (by rw [h1,h2]; exact hne) ok hl
 obtain ⟨b1,b2,b3,b4,b5,b6,⟨a1,a2,a3⟩,⟨a4,a5,a6⟩,⟨a7,a8,a9⟩,⟨a10,a11,a12⟩,⟨a13,a14,a15⟩⟩:=h6
 have f1:∀x y,((S.tick.put d x).put n y).get m=some (.dct (vF ml md N.given)):=fun x y=>by rw [Sto.put_ne (Ne.symm a1),Sto.put_ne (Ne.symm a7),bB (by omega),q1]
 have f2:∀x y z,(((S.tick.put d x).put n y).put m z).get md=some (.dct (aj br N.ties)):=fun x y z=>by rw [Sto.put_ne (Ne.symm a11),Sto.put_ne (Ne.symm a3),Sto.put_ne (Ne.symm a9),bB (by omega),q3]
 have f3:∀x y z w,((((S.tick.put d x).put n y).put m z).put md w).get m=some z:=fun x y z w=>by rw [Sto.put_ne a11,Sto.put_same]
 have z1:(0<(N.names.length:Int))=True:=eq_true (by omega)
 have z2:(0<(N.names.length:Int) - 1)=True:=eq_true (by omega)
 have z3:∀i:Int,CDivW i 14=True:=fun i=>eq_true (M.aq (by decide) (by decide))
 have z4:∀i:Int,CDivW i 200=True:=fun i=>eq_true (M.aq (by decide) (by decide))
 have z5:∀i:Int,CDivW i 600=True:=fun i=>eq_true (M.aq (by decide) (by decide))
 have z6:∀i:Int,CDivW i 1800=True:=fun i=>eq_true (M.aq (by decide) (by decide))
 have z7:∀i:Int,CDivW i 3600=True:=fun i=>eq_true (M.aq (by decide) (by decide))
 have z8:((0:Int)<3)=True:=by simp
 have z9:((0:Int)<2)=True:=by simp
 have z10:((0:Int)<4)=True:=by simp
 have z11:CMulX p5 v=True:=eq_true (by rcases hv with rfl | rfl<;> exact M.aM (by omega) (by omega) (by omega) (by omega))
 have hg:=fun (s:SD) i=>zb (s:=s) i
 by_cases c1:j / 3600%4=0
 ·refine fin ⟨tail,head,0,none,0⟩ rfl rfl (⟨Int.le_refl _,by show (0:Int)≤M60; decide,rfl,by show -M60≤(0:Int); decide,by show (0:Int)≤M60; decide⟩:TieOk ⟨tail,head,0,none,0⟩) fun sl=>ew ?_
  have pt:=put ⟨tail,head,0,none,0⟩ rfl rfl (⟨Int.le_refl _,by show (0:Int)≤M60; decide,rfl,by show -M60≤(0:Int); decide,by show (0:Int)≤M60; decide⟩:TieOk ⟨tail,head,0,none,0⟩)
  have d1:=decide_eq_true c1
  have sp:∀s a,oE (bP (.tup [.str tail, .str head, .int 0, .non, .int 0])) a (.int (N.given+1)) s (some (.dct (aj br N.ties)))=s.mod (.dct (aj br (cN N.ties (N.given+1) ⟨tail,head,0,none,0⟩))) a:=fun s a=>hX (t:=⟨tail,head,0,none,0⟩) (by omega)
  simp only [aY] at pt
  show Wp (aQ ⟨[some (.d (.cell n)),some (.d (.cell m)),some (.d (.int c)),some (.d (.int k)),none,none,none,none,none,none,none,none],S⟩) _ _
  unfold aQ
  clear put fin hv hmo ht hh hne et et2 eh eh2 ele emo ev hM hN hG a1 a2 a3 a4 a5 a6 a7 a8 a9 a10 a11 a12 a13 a14 a15 b1 b2 b3 b4 b5 b6 c1 le0 le1 p30 p31 p40 p41 p50 p51 j0 j1 hL hL1 h2 hl k0 k1 hM0
  simp! only [az,aJ,dy,dz,List.length_map,zR,lR,Z.ar T.dG, *]
  rfl
 have d1:=decide_eq_false c1
 by_cases c2:j / 3600%4=1
 ·have ok:TieOk ⟨tail,head,le,mo,0⟩:=⟨le0,le1,hmo,by show -M60≤(0:Int); decide,by show (0:Int)≤M60; decide⟩
  refine fin ⟨tail,head,le,mo,0⟩ rfl rfl ok fun sl=>ew ?_
  have pt:=put ⟨tail,head,le,mo,0⟩ rfl rfl ok
  have d2:=decide_eq_true c2
  have sp:∀s a,oE (bP (.tup [.str tail, .str head, .int le,aY mo, .int 0])) a (.int (N.given+1)) s (some (.dct (aj br N.ties)))=s.mod (.dct (aj br (cN N.ties (N.given+1) ⟨tail,head,le,mo,0⟩))) a:=fun s a=>hX (t:=⟨tail,head,le,mo,0⟩) (by omega)
  dsimp only at pt
  show Wp (aQ ⟨[some (.d (.cell n)),some (.d (.cell m)),some (.d (.int c)),some (.d (.int k)),none,none,none,none,none,none,none,none],S⟩) _ _
  unfold aQ
  clear put fin hv hmo ht hh hne et et2 eh eh2 ele emo ev hM hN hG a1 a2 a3 a4 a5 a6 a7 a8 a9 a10 a11 a12 a13 a14 a15 b1 b2 b3 b4 b5 b6 c1 c2 le0 le1 p30 p31 p40 p41 p50 p51 j0 j1 hL hL1 h2 hl k0 k1 hM0 ok
  simp! only [az,aJ,dy,dz,List.length_map,zR,lR,Z.ar T.dG, *]
  rfl
 have d2:=decide_eq_false c2
 have ok:TieOk ⟨tail,head,le,mo,p5*v⟩:=⟨le0,le1,hmo,by show -M60≤p5*v; rcases hv with rfl | rfl<;> omega,by show p5*v≤M60; rcases hv with rfl | rfl<;> omega⟩
 refine fin ⟨tail,head,le,mo,p5*v⟩ rfl rfl ok fun sl=>ew ?_
 have pt:=put ⟨tail,head,le,mo,p5*v⟩ rfl rfl ok
 have sp:∀s a,oE (bP (.tup [.str tail, .str head, .int le,aY mo, .int (p5*v)])) a (.int (N.given+1)) s (some (.dct (aj br N.ties)))=s.mod (.dct (aj br (cN N.ties (N.given+1) ⟨tail,head,le,mo,p5*v⟩))) a:=fun s a=>hX (t:=⟨tail,head,le,mo,p5*v⟩) (by omega)
 dsimp only at pt
 show Wp (aQ ⟨[some (.d (.cell n)),some (.d (.cell m)),some (.d (.int c)),some (.d (.int k)),none,none,none,none,none,none,none,none],S⟩) _ _
 unfold aQ
 clear put fin hv hmo ht hh hne et et2 eh eh2 ele emo ev hM hN hG a1 a2 a3 a4 a5 a6 a7 a8 a9 a10 a11 a12 a13 a14 a15 b1 b2 b3 b4 b5 b6 c1 c2 le0 le1 p30 p31 p40 p41 p50 p51 j0 j1 hL hL1 h2 hl k0 k1 hM0 ok
 simp! only [az,aJ,dy,dz,List.length_map,zR,lR,Z.ar T.dG, *]
 rfl
end
section
variable {s:SD} {S:Sto} {sl:List (Option Vl)} {x z:D} {n l d m ml md:Nat} {N:ND} {g i c k:Int} {t:TD} {a:D} {q:Int×TD}
theorem NetAt.put {j:Nat} (h:NetAt S n l d N) (h1:n≠j) (h2:l≠j) (h3:d≠j):NetAt (S.put j x) n l d N:=⟨(Sto.put_ne h1).trans h.n,(Sto.put_ne h2).trans h.l,(Sto.put_ne h3).trans h.d⟩
theorem num_at {ts:List (Int×TD)} {j:Int} (h:ts≠ []):∃q,q∈ts∧dIx (.lst ((ts.map (·.1)).map .int)) (.int (j%(ts.length:Int)))=some (.int q.1):=by
 have h0:0<ts.length:=List.length_pos_iff.mpr h
 have e0:=Int.emod_nonneg j (show (ts.length:Int)≠0 by omega)
 have e1:=Int.emod_lt_of_pos j (show 0<(ts.length:Int) by omega)
 have h2:(j%(ts.length:Int)).toNat<ts.length:=by omega
 refine ⟨ts[(j%(ts.length:Int)).toNat],List.getElem_mem h2, ?_⟩
 show atI _ _=_
 rw [nQ (D.int 0) e0 (by rw [List.length_map,List.length_map]; exact e1),List.getD_eq_getElem?_getD,List.getElem?_map,List.getElem?_map,List.getElem?_eq_getElem h2]
 rfl
theorem vy {f:Int×TD→D} {ts:List (Int×TD)} (hr:qI ts) (hq:q∈ts):eN (aj f ts) (.inl q.1)=some (f q):=by
 rw [fg,bj hr hq]
 rfl
def chS (S S1:Sto) (d md:Nat) (ts:List (Int×TD)):Sto:=S1.put d (.dct (aj bx ts))
theorem we {S1:Sto} {ts:List (Int×TD)} (h6:Six S n l d m ml md) (hN:NetAt S n l d N) (hM:ModAt S m ml md N) (h1:S1=S.put md (.dct (aj br ts))∨S1=(S.put md (.dct (aj br ts))).tick) (hG:Good ⟨N.names,ts,N.given⟩):
  Did S (S1.put d (.dct (aj bx ts))) n l d m ml md ⟨N.names,ts,N.given⟩:=by
 obtain ⟨b1,b2,b3,b4,b5,b6,⟨a1,a2,a3⟩,⟨a4,a5,a6⟩,⟨a7,a8,a9⟩,⟨a10,a11,a12⟩,⟨a13,a14,a15⟩⟩:=h6
 have gt:∀i,i<S.nx→S1.get i=(S.put md (.dct (aj br ts))).get i:=fun i hi=>by
  rcases h1 with rfl | rfl
  ·rfl
  ·exact bB (by rw [put_nx]; omega)
 refine ⟨?_,fun i hi c1 c2 c3 c4 c5 c6=>?_,⟨?_, ?_, ?_⟩,⟨?_, ?_, ?_⟩,hG,fun g e=>by rw [hN.given_eq e]; show N.given≤N.given+1; omega⟩
 ·rcases h1 with rfl | rfl
  ·exact Nat.le_refl _
  ·exact Nat.le_succ _
 ·rw [Sto.put_ne c3,gt i hi,Sto.put_ne c6]
 ·rw [Sto.put_ne a14,gt n b1,Sto.put_ne a3]; exact hN.n
 ·rw [Sto.put_ne a15,gt l b2,Sto.put_ne a6]; exact hN.l
 ·exact Sto.put_same
 ·rw [Sto.put_ne (Ne.symm a7),gt m b4,Sto.put_ne a11]; exact hM.m
 ·rw [Sto.put_ne (Ne.symm a8),gt ml b5,Sto.put_ne a12]; exact hM.l
 ·rw [Sto.put_ne (Ne.symm a9),gt md b6,Sto.put_same]
theorem ue:fO (iG l d g) "drop_tie" =none:=rfl
theorem dU:fO (iG l d g) "set_room" =none:=rfl
theorem rL:fO (iG l d g) "set_price" =none:=rfl
theorem pickL {le a:Int} (l1:le≤M60) (a0:0≤a) (j:Int):∃mo:Option Int,yh le (aY mo)=true∧dIx (.lst [.non, .int le, .int (if le+a<M60 then le+a else M60)]) (.int (j%3))=some (aY mo):=by
 rcases (show j%3=0∨j%3=1∨j%3=2 by omega) with e | e | e<;> rw [e]
 ·exact ⟨none,rfl,rfl⟩
 ·exact ⟨some le,by simp [yh,aY,l1],rfl⟩
 ·refine ⟨some (if le+a<M60 then le+a else M60), ?_,rfl⟩
  simp only [yh,aY,Bool.and_eq_true,decide_eq_true_eq]
  split<;> omega
theorem mj {s:SD}:kK false (.d .non) (.d .non) s= .ok (.d (.bl true)) s:=rfl
theorem wJ {w:Int} (h6:Six S n l d m ml md) (hN:NetAt S n l d N) (hM:ModAt S m ml md N) (hG:Good N) (h0:N.ties≠ []) (k0:0≤k) (k1:k≤1000):
  ∃S' N',Did S S' n l d m ml md N'∧∀sl,goF gQ [.cell n, .cell m, .int c, .int k, .int w] ⟨sl,S⟩= .ok (.d (.bl true)) ⟨sl,S'⟩:=by
 have hM0:=xh
 obtain ⟨j,j0,j1,e1⟩:=dr c k 6 k0 k1 (by decide) (by decide)
 obtain ⟨p7,p70,p71,e7⟩:=cX c k 7 k0 k1 (by decide) (by decide)
 obtain ⟨p8,p80,p81,e8⟩:=cX c k 8 k0 k1 (by decide) (by decide)
 obtain ⟨p9,p90,p91,e9⟩:=cX c k 9 k0 k1 (by decide) (by decide)
 obtain ⟨q,hq,eq⟩:=num_at (j:=j) h0
 have hl:0<N.ties.length:=List.length_pos_iff.mpr h0
 have q1:=hM.m
 have q3:=hM.d
 have q4:=hN.n
 have s0:=fun s h=>kN (s:=s) (a:= .d (.cell md)) (ks:=aj br N.ties) h (gV N.ties) (by rw [List.length_map]; exact Nat.lt_of_le_of_lt hG.tl (by decide))
 rw [iW hG.rise] at s0
 have s1:∀sl,bt (.d (.cell md)) ⟨sl,S⟩= .ok (.own (.lst ((N.ties.map (·.1)).map D.int))) ⟨sl,S⟩:=fun sl=>s0 ⟨sl,S⟩ q3
 have r1:=fun s:SD=>ao (s:=s) eq
 have ln:((aj br N.ties).length:Int)=N.ties.length:=by unfold aj; rw [List.length_map]
 have rw5:=vy (f:=br) hG.rise hq
 have r2:∀s:SD,ixK s (some (.dct (aj br N.ties))) (some (.int q.1))= .ok (.d (.tup [.str q.2.tail, .str q.2.head, .int q.2.least,aY q.2.most, .int q.2.price])) s:=fun s=>ao rw5
 have okq:=(hG.ts q hq).2
 have ht:=bj hG.rise hq
 have z1:(0<(N.ties.length:Int))=True:=eq_true (by omega)
 have z3:∀i:Int,CDivW i 40=True:=fun i=>eq_true (M.aq (by decide) (by decide))
 have z4:∀i:Int,CDivW i 120=True:=fun i=>eq_true (M.aq (by decide) (by decide))
 have z8:((0:Int)<3)=True:=by simp
 have z9:((0:Int)<2)=True:=by simp
 have s6:=h6
 obtain ⟨b1,b2,b3,b4,b5,b6,⟨a1,a2,a3⟩,⟨a4,a5,a6⟩,⟨a7,a8,a9⟩,⟨a10,a11,a12⟩,⟨a13,a14,a15⟩⟩:=h6
 have f1:∀x,(S.put md x).get n=some (.obj "Net" (iG l d N.given)):=fun x=>(Sto.put_ne a3).trans q4
 have f2:∀x,(S.put md x).get m=some (.dct (vF ml md N.given)):=fun x=>(Sto.put_ne a11).trans q1
 by_cases c1:w=0
 ·refine ⟨_,_,we s6 hN hM (.inl rfl) (hG.drop (i:=q.1)),fun sl=>ew ?_⟩
  have pt:=fun sl x=>wG (sl:=sl) (i:=q.1) (hN.put (j:=md) (x:=x) a3 a6 a9) ht
  have d1:=decide_eq_true c1
  have dp:=fun s a=>Ag (s:=s) (a:=a) (z:= .int q.1) (k:= .inl q.1) rfl rw5
  simp only [nL] at dp
  show Wp (cV ⟨[some (.d (.cell n)),some (.d (.cell m)),some (.d (.int c)),some (.d (.int k)),some (.d (.int w)),none,none,none,none,none,none,none],S⟩) _ _
  unfold cV
  clear s0 eq rw5 okq ht a1 a2 a3 a4 a5 a6 a7 a8 a9 a10 a11 a12 a13 a14 a15 b1 b2 b3 b4 b5 b6 c1 p70 p71 p80 p81 p90 p91 j0 j1 hM0 hl h0 hN hM hG hq s6 k0 k1
  simp! only [az,aJ,dy,dz,ln,mj,Z.ar T.ue, *]
 have d1:=decide_eq_false c1
 by_cases c2:w=1
 ·obtain ⟨mo,hmo,emo⟩:=pickL p71 p80 (j / 40)
  have ok:TieOk {q.2 with least:=p7,most:=mo}:=⟨p70,p71,hmo,okq.p0,okq.p1⟩
  refine ⟨_,_,we s6 hN hM (.inr rfl) (hG.set hq ok rfl rfl),fun sl=>ew ?_⟩
  have pt:=fun sl x=>nE (sl:=sl) (i:=q.1) (hN.put (j:=md) (x:=x) a3 a6 a9) b1 b3 ht ok hG.tl
  have d2:=decide_eq_true c2
  have r3:=fun s:SD=>ao (s:=s) emo
  have sp:∀s a,oE (bP (.tup [.str q.2.tail, .str q.2.head, .int p7,aY mo, .int q.2.price])) a (.int q.1) s (some (.dct (aj br N.ties)))=s.mod (.dct (aj br (cN N.ties q.1 {q.2 with least:=p7,most:=mo}))) a:=fun s a=>hX (t:= {q.2 with least:=p7,most:=mo}) hG.tl
  show Wp (cV ⟨[some (.d (.cell n)),some (.d (.cell m)),some (.d (.int c)),some (.d (.int k)),some (.d (.int w)),none,none,none,none,none,none,none],S⟩) _ _
  unfold cV
  clear s0 eq rw5 okq ht a1 a2 a3 a4 a5 a6 a7 a8 a9 a10 a11 a12 a13 a14 a15 b1 b2 b3 b4 b5 b6 c1 c2 p70 p71 p80 p81 p90 p91 j0 j1 hM0 hl h0 hN hM hG hq s6 k0 k1 hmo emo ok
  simp! only [az,aJ,dy,dz,ln,mj,zR,lR,Z.ar T.dU, *]
 have d2:=decide_eq_false c2
 obtain ⟨v,hv,ev⟩:=pickS p90 p91 (j / 120)
 have z11:CMulX p9 v=True:=eq_true (by rcases hv with rfl | rfl<;> exact M.aM (by omega) (by omega) (by omega) (by omega))
 have o1: -M60≤p9*v:=by rcases hv with rfl | rfl<;> omega
 have o2:p9*v≤M60:=by rcases hv with rfl | rfl<;> omega
 have ok:TieOk {q.2 with price:=p9*v}:=⟨okq.l0,okq.l1,okq.m,o1,o2⟩
 refine ⟨_,_,we s6 hN hM (.inr rfl) (hG.set hq ok rfl rfl),fun sl=>ew ?_⟩
 have pt:=fun sl x=>uy (sl:=sl) (i:=q.1) (hN.put (j:=md) (x:=x) a3 a6 a9) b1 b3 ht o1 o2 hG.tl
 have r3:=fun s:SD=>ao (s:=s) ev
 have sp:∀s a,oE (bP (.tup [.str q.2.tail, .str q.2.head, .int q.2.least,aY q.2.most, .int (p9*v)])) a (.int q.1) s (some (.dct (aj br N.ties)))=s.mod (.dct (aj br (cN N.ties q.1 {q.2 with price:=p9*v}))) a:=fun s a=>hX (t:= {q.2 with price:=p9*v}) hG.tl
 show Wp (cV ⟨[some (.d (.cell n)),some (.d (.cell m)),some (.d (.int c)),some (.d (.int k)),some (.d (.int w)),none,none,none,none,none,none,none],S⟩) _ _
 unfold cV
 clear s0 eq rw5 okq ht a1 a2 a3 a4 a5 a6 a7 a8 a9 a10 a11 a12 a13 a14 a15 b1 b2 b3 b4 b5 b6 c1 c2 p70 p71 p80 p81 p90 p91 j0 j1 hM0 hl h0 hN hM hG hq s6 k0 k1 hv ev ok o1 o2
 simp! only [az,aJ,dy,dz,ln,mj,Z.ar T.rL, *]
structure MdlAt (S:Sto) (x:D) (N:ND):Prop where
 names:∃a,(∀s:SD,s.st=S→ixK s (s.cont (.d x)) (some (.str "names"))= .ok (.d a) s)∧(∀s:SD,s.st=S→s.cont (.d a)=some (.lst (N.names.map .str)))
 ties:∃a,(∀s:SD,s.st=S→ixK s (s.cont (.d x)) (some (.str "ties"))= .ok (.d a) s)∧(∀s:SD,s.st=S→s.cont (.d a)=some (.dct (aj br N.ties)))
 given:∀s:SD,s.st=S→ixK s (s.cont (.d x)) (some (.str "given"))= .ok (.d (.int N.given)) s
theorem ModAt.mdl (h:ModAt S m ml md N):MdlAt S (.cell m) N:=by
 refine ⟨⟨.cell ml,fun s e=>?_,fun s e=>?_⟩,⟨.cell md,fun s e=>?_,fun s e=>?_⟩,fun s e=>?_⟩
 ·rw [cI,e,h.m]; rfl
 ·rw [cI,e,h.l]
 ·rw [cI,e,h.m]; rfl
 ·rw [cI,e,h.d]
 ·rw [cI,e,h.m]; rfl
def frzM (N:ND):D:= .dct [(.inr "names", .lst (N.names.map .str)),(.inr "ties", .dct (aj br N.ties)),(.inr "given", .int N.given)]
theorem g_Lrows (h:MdlAt S x N) (hr:qI N.ties) (hl:N.ties.length≤40):goF sM [x] ⟨sl,S⟩= .ok (.own (.lst (N.ties.map mS))) ⟨sl,S⟩:=by
 obtain ⟨a,h1,h2⟩:=h.ties
 have s0:=fun s h=>kN (s:=s) (a:= .d a) (ks:=aj br N.ties) h (gV N.ties) (by rw [List.length_map]; exact Nat.lt_of_le_of_lt hl (by decide))
 rw [iW hr] at s0
 have s1:∀sl,bt (.d a) ⟨sl,S⟩= .ok (.own (.lst ((N.ties.map (·.1)).map D.int))) ⟨sl,S⟩:=fun sl=>s0 ⟨sl,S⟩ (h2 _ rfl)
 have h1' :∀sl,ixK ⟨sl,S⟩ (SD.cont ⟨sl,S⟩ (.d x)) (some (.str "ties"))= .ok (.d a) ⟨sl,S⟩:=fun sl=>h1 _ rfl
 have h2' :∀sl,SD.cont ⟨sl,S⟩ (.d a)=some (.dct (aj br N.ties)):=fun sl=>h2 _ rfl
 refine ew ?_
 show Wp (vg ⟨[some (.d x),none],S⟩) _ _
 unfold vg
 clear s0 h1 h2 h
 walk_at "zs"
 rw [ji (fun x=>match x with | .int i=>(match kI N.ties i with | some t=>mS (i,t) | none=> .non) | _=> .non) rfl Nl.d1 trivial (fun x hx=>?_) (by show (List.map D.int _).length≤_; rw [List.length_map,List.length_map]; exact Nat.le_trans hl (by decide))]
 ·walk_at "zs"
  rw [List.map_map,List.map_map]
  show some (Vl.own (.lst _))=_
  congr 3
  refine List.map_congr_left fun q hq=>?_
  show (match kI N.ties q.1 with | some t=>mS (q.1,t) | none=> .non)=mS q
  rw [bj hr hq]
 ·obtain ⟨i,hi,rfl⟩:=List.mem_map.mp hx
  obtain ⟨q,hq,rfl⟩:=List.mem_map.mp hi
  have e:=vy (f:=br) hr hq
  have r2:∀s:SD,ixK s (some (.dct (aj br N.ties))) (some (.int q.1))= .ok (.d (.tup [.str q.2.tail, .str q.2.head, .int q.2.least,aY q.2.most, .int q.2.price])) s:=fun s=>ao e
  have ht:=bj hr hq
  have z0:([D.int q.1]≠ []∧ [D.str q.2.tail,D.str q.2.head,D.int q.2.least,aY q.2.most,D.int q.2.price]≠ []∧ [D.int q.1].length+ [D.str q.2.tail,D.str q.2.head,D.int q.2.least,aY q.2.most,D.int q.2.price].length≤sizeLine)=True:=eq_true ⟨by simp,by simp,by show 6≤sizeLine; decide⟩
  unfold Z.gO
  simp! only [*]
  rfl
end
mutual
theorem vX:∀d:PyData,PyData.canLay0 d=true→PyData.eqv d d=true
 | .none,_=>rfl
 | .bool b,_=>by simp [PyData.eqv]
 | .int i,_=>by simp [PyData.eqv]
 | .str s,_=>by simp [PyData.eqv]
 | .list xs,h=>by rw [PyData.eqv]; exact iI xs (by simpa [PyData.canLay0] using h)
 | .tuple xs,h=>by rw [PyData.eqv]; exact iI xs (by simpa [PyData.canLay0] using h)
 | .dict _,h=>by simp [PyData.canLay0] at h
theorem iI:∀ds:List PyData,PyData.canLayAll0 ds=true→PyData.eqvAll ds ds=true
 | [],_=>rfl
 | d::ds,h=>by
  have h' :PyData.canLay0 d=true∧PyData.canLayAll0 ds=true:=by simpa [PyData.canLayAll0] using h
  rw [PyData.eqvAll,vX d h'.1,iI ds h'.2]
  rfl
end
theorem dEq_lst {xs:List D} {ds:List PyData} (h:D.pys xs=some ds) (hs:SeqAt.shaped (.list ds)=true):dEq (.lst xs) (.lst xs)=some true:=by
 have hr:=vX (.list ds) (SeqAt.canLay_of_shaped hs)
 cases xs with
 | nil=>rfl
 | cons a r=>
  have h1:D.py (.lst (a::r))=some (.list ds):=by
   rw [D.py,h]
  unfold dEq
  simp only [D.sc,h1,hs,hr,and_self,if_true]
section
variable {z:D} {m:Nat} {N:ND} {i c:Int} {q:Int×TD}
theorem kQ {z:Str} (h:Al z):PyData.strOk z=true:=by
 have hl:∀c∈TL.tl "abcdefghijklmnopqrstuvwxyz",c<1114112:=by decide+kernel
 unfold PyData.strOk
 rw [Array.all_eq_true]
 intro i hi
 exact decide_eq_true (hl _ (h _ (Array.mem_toList_iff.mpr (Array.getElem_mem hi))))
def yL:Option Int→PyData
 | none=> .none
 | some m=> .int m
def rowP (q:Int×TD):List PyData:= [.int q.1, .str q.2.tail, .str q.2.head, .int q.2.least,yL q.2.most, .int q.2.price]
theorem py_most (m:Option Int):D.py (aY m)=some (yL m):=by cases m<;> rfl
theorem Bp (m:Option Int):PyData.canLay0 (yL m)=true∧PyData.depth (yL m)=0:=by cases m<;> exact ⟨rfl,rfl⟩
theorem Good.al (h:Good N):(∀z∈N.names,Al z)∧∀q∈N.ties,Al q.2.tail∧Al q.2.head:=⟨fun z hz=>(h.nm z hz).1,fun q hq=>⟨(h.tn q hq).1.1,(h.tn q hq).2.1⟩⟩
end
mutual
def toP:D→PyData
 | .non=> .none
 | .bl b=> .bool b
 | .int i=> .int i
 | .str s=> .str s
 | .lst ds=> .list (toPs ds)
 | .tup ds=> .tuple (toPs ds)
 | _=> .none
def toPs:List D→List PyData
 | []=> []
 | d::ds=>toP d::toPs ds
end
mutual
def lay:D→Bool
 | .non | .bl _ | .int _=>true
 | .str s=>PyData.strOk s
 | .lst ds=>Bn ds
 | .tup ds=>Bn ds
 | _=>false
def Bn:List D→Bool
 | []=>true
 | d::ds=>lay d&&Bn ds
end
mutual
def dep:D→Nat
 | .lst ds=>Bz ds+1
 | .tup ds=>Bz ds+1
 | _=>0
def Bz:List D→Nat
 | []=>0
 | d::ds=>max (dep d) (Bz ds)
end
mutual
theorem lay_py:∀{x:D},lay x=true→D.py x=some (toP x)∧(toP x).canLay0=true∧(toP x).depth=dep x
 | .non,_=>⟨rfl,rfl,rfl⟩
 | .bl _,_=>⟨rfl,rfl,rfl⟩
 | .int _,_=>⟨rfl,rfl,rfl⟩
 | .str s,h=>⟨rfl,by rw [toP,PyData.canLay0]; exact (by rw [lay] at h; exact h),rfl⟩
 | .lst ds,h=>by
  rw [lay] at h
  obtain ⟨h1,h2,h3⟩:=pK h
  rw [D.py,h1,toP,PyData.canLay0,PyData.depth,h3,dep]
  exact ⟨rfl,h2,rfl⟩
 | .tup ds,h=>by
  rw [lay] at h
  obtain ⟨h1,h2,h3⟩:=pK h
  rw [D.py,h1,toP,PyData.canLay0,PyData.depth,h3,dep]
  exact ⟨rfl,h2,rfl⟩
 | .con _,h=>by simp [lay] at h
 | .dct _,h=>by simp [lay] at h
 | .obj _ _,h=>by simp [lay] at h
 | .exc _ _,h=>by simp [lay] at h
 | .cell _,h=>by simp [lay] at h
theorem pK:∀{ds:List D},Bn ds=true→D.pys ds=some (toPs ds)∧PyData.canLayAll0 (toPs ds)=true∧PyData.depthAll (toPs ds)=Bz ds
 | [],_=>⟨rfl,rfl,rfl⟩
 | d::ds,h=>by
  rw [Bn,Bool.and_eq_true] at h
  obtain ⟨h1,h2,h3⟩:=lay_py h.1
  obtain ⟨g1,g2,g3⟩:=pK h.2
  rw [D.pys,h1,g1,toPs,PyData.canLayAll0,PyData.depthAll,h2,g2,h3,g3,Bz]
  exact ⟨rfl,rfl,rfl⟩
end
theorem vN {ds:List D} (h:∀d∈ds,lay d=true):Bn ds=true:=by
 induction ds with
 | nil=>rfl
 | cons d ds ih=>rw [Bn,h d (List.mem_cons_self ..),ih fun e he=>h e (List.mem_cons_of_mem _ he)]; rfl
theorem vZ {k:Nat} {ds:List D} (h:∀d∈ds,dep d≤k):Bz ds≤k:=by
 induction ds with
 | nil=>exact Nat.zero_le _
 | cons d ds ih=>
  rw [Bz]
  exact Nat.max_le.mpr ⟨h d (List.mem_cons_self ..),ih fun e he=>h e (List.mem_cons_of_mem _ he)⟩
theorem eq_lst {ds:List D} (h:∀d∈ds,lay d=true) (h2:∀d∈ds,dep d≤60):dEq (.lst ds) (.lst ds)=some true:=by
 obtain ⟨h1,h3,h4⟩:=pK (vN h)
 refine dEq_lst h1 ?_
 unfold SeqAt.shaped
 rw [PyData.canLay0,PyData.depth,h3,h4]
 have:=vZ h2
 exact decide_eq_true (by omega)
def numT (x:D):Prop:=∃es:List D,x= .tup es∧es.length≤6∧∀e∈es,e= .non∨∃i,e= .int i
section
noncomputable def wb:SD→R Fl:=
 (ai (bb (zB (z2 oNe (z2 oIx (aa 1) (zC (.str "ties"))) mU)) (aN (ag gQ [] (zA (aa 0) (zA (aa 1) (zA (aa 3) (zA (aa 4) (zA (z2 bN (aa 5) (zC (.int 3))) zA0))))))) au)
 (aN (zC (.bl true))))
noncomputable def nK:SD→R Fl:=
 (ai (bb (mV (zB (z2 oLt (aa 5) (zC (.int 7)))) (mV (zB (z2 oGt (z1 cS (z2 oIx (aa 1) (zC (.str "names")))) (zC (.int 1)))) (zB (z2 oLt (z1 cS (z2 oIx (aa 1) (zC (.str "ties")))) (zC (.int 40)))))) (aN (ag bh [] (zA (aa 0) (zA (aa 1) (zA (aa 3) (zA (aa 4) zA0)))))) au)
 wb)
noncomputable def uQ:SD→R Fl:=
 (ai (aw (zLc (cZ (aR (aa 2))) (zSt 7) (zB (z2 (oIn true) (aa 7) (z2 oIx (aa 1) (zC (.str "names"))))) (aa 7) [7]) (zSt 6))
 (ai (bb (mV (zOr (zB (z2 oLt (aa 5) (zC (.int 3)))) (zB (z2 oLt (z1 cS (z2 oIx (aa 1) (zC (.str "names")))) (zC (.int 2))))) (mV (zB (z2 oNe (aa 6) (fS zA0))) (zB (z2 oLt (z1 cS (z2 oIx (aa 1) (zC (.str "names")))) (zC (.int 14)))))) (ai (aw (z2 oIx (aa 6) (z2 bN (ag aF [] (zA (aa 3) (zA (aa 4) (zA (zC (.int 1)) zA0)))) (z1 cS (aa 6)))) (zSt 7))
 (ai (aH (zM2 isL (oB2 aL) (z2 oIx (aa 1) (zC (.str "names"))) (aR (aa 7))))
 (aN (z2 (kK false) (bL "Net" "put_place" bg [] (aa 0) (zA (aa 7) zA0)) (zC .non))))) au)
 nK))
theorem uP:vj=ai (aw (z2 bN (ag aF [] (zA (aa 3) (zA (aa 4) (zA (zC (.int 0)) zA0)))) (zC (.int 10))) (zSt 5)) (ai (bb (mV (zB (z2 oEq (z1 cS (z2 oIx (aa 2) (zC (.int 0)))) (zC (.int 5)))) (zB (z2 oGt (z1 cS (z2 oIx (aa 1) (zC (.str "names")))) (zC (.int 2))))) (aw (zC (.int 5)) (zSt 5)) au) uQ):=rfl
variable {s:SD} {S:Sto} {sl:List (Option Vl)} {x y z:D} {n l d m ml md:Nat} {N:ND} {g i c k w:Int} {a b:D} {q:Int×TD} {ps:List Str}
def Bu (ns:List Str):D→Bool
 | .str z=>!decide (z∈ns)
 | _=>false
theorem free_lc {v0 v3 v4 v5 v6 v7:Option Vl} (hM:ModAt S m ml md N) (hp:ps.length≤18):lcK (zSt 7) (zB (z2 (oIn true) (aa 7) (z2 oIx (aa 1) (zC (.str "names"))))) (aa 7) [7] ⟨[.d (.lst (ps.map .str))],fun _=>True,ps.map .str⟩ ⟨[v0,some (.d (.cell m)),some (.d (.lst (ps.map .str))),v3,v4,v5,v6,v7],S⟩=
  .ok (.own (.lst ((ps.filter fun z=>!decide (z∈N.names)).map .str))) ⟨[v0,some (.d (.cell m)),some (.d (.lst (ps.map .str))),v3,v4,v5,v6,none],S⟩:=by
 rw [pH (Bu N.names) id rfl Nl.d1 trivial (fun x hx=>?_) (by show (ps.map D.str).length≤_; rw [List.length_map]; exact Nat.le_trans hp (by decide))]
 ·rw [List.map_id,List.filter_map]
  rfl
 ·obtain ⟨z,_,rfl⟩:=List.mem_map.mp hx
  have e3:=fun s:SD=>hZ (s:=s) (neg:=true) (fF (w:=z) (l:=N.names))
  have q1:=hM.m
  have q2:=hM.l
  unfold Z.gO
  simp! only [az,Bu,e3, *]
  exact fun _=>rfl
theorem Good.place {z:Str} (h:Good N) (hz:qJ z) (hn:z∉N.names) (hl:N.names.length<14):Good ⟨N.names++ [z],N.ties,N.given⟩:=by
 refine ⟨?_,fun y hy=>?_, ?_,h.rise,h.tl,h.ts,h.tn,fun q hq=>⟨List.mem_append_left _ (h.pl q hq).1,List.mem_append_left _ (h.pl q hq).2.1,(h.pl q hq).2.2⟩,h.g0⟩
 ·show (N.names++ [z]).Nodup
  rw [List.nodup_append]
  exact ⟨h.nd,by simp,fun a ha b hb e=>by rw [List.mem_singleton.mp hb] at e; exact hn (e ▸ ha)⟩
 ·rcases List.mem_append.mp (show y∈N.names++ [z] from hy) with hy | hy
  ·exact h.nm y hy
  ·rw [List.mem_singleton.mp hy]; exact hz
 ·show (N.names++ [z]).length≤14
  rw [List.length_append]; exact hl
theorem rq {z:Str} (h6:Six S n l d m ml md) (hN:NetAt S n l d N) (hM:ModAt S m ml md N) (hG:Good ⟨N.names++ [z],N.ties,N.given⟩):
  Did S ((S.put ml (.lst ((N.names++ [z]).map .str))).put l (.lst ((N.names++ [z]).map .str))) n l d m ml md ⟨N.names++ [z],N.ties,N.given⟩:=by
 obtain ⟨b1,b2,b3,b4,b5,b6,⟨a1,a2,a3⟩,⟨a4,a5,a6⟩,⟨a7,a8,a9⟩,⟨a10,a11,a12⟩,⟨a13,a14,a15⟩⟩:=h6
 refine ⟨Nat.le_refl _,fun i hi c1 c2 c3 c4 c5 c6=>?_,⟨?_, ?_, ?_⟩,⟨?_, ?_, ?_⟩,hG,fun g e=>by rw [hN.given_eq e]; show N.given≤N.given+1; omega⟩
 ·rw [Sto.put_ne c2,Sto.put_ne c5]
 ·rw [Sto.put_ne a13,Sto.put_ne a2]; exact hN.n
 ·exact Sto.put_same
 ·rw [Sto.put_ne (Ne.symm a15),Sto.put_ne a8]; exact hN.d
 ·rw [Sto.put_ne (Ne.symm a4),Sto.put_ne a10]; exact hM.m
 ·rw [Sto.put_ne (Ne.symm a5),Sto.put_same]
 ·rw [Sto.put_ne (Ne.symm a6),Sto.put_ne (Ne.symm a12)]; exact hM.d
theorem AJ (hN:NetAt S n l d N) (hM:ModAt S m ml md N) (hG:Good N):Did S S n l d m ml md N:=⟨Nat.le_refl _,fun _ _ _ _ _ _ _ _=>rfl,hN,hM,hG,fun g e=>by rw [hN.given_eq e]; omega⟩
theorem mN_put_place:fO (iG l d g) "put_place" =none:=rfl
theorem deed3 {v2 v6 v7:Option Vl} (h6:Six S n l d m ml md) (hN:NetAt S n l d N) (hM:ModAt S m ml md N) (hG:Good N) (k0:0≤k) (k1:k≤1000):
  ∃S' N',Did S S' n l d m ml md N'∧Wp (wb ⟨[some (.d (.cell n)),some (.d (.cell m)),v2,some (.d (.int c)),some (.d (.int k)),some (.d (.int w)),v6,v7],S⟩) (fun fl s' =>flv fl=some (.d (.bl true))∧s'.st=S') XF:=by
 have q1:=hM.m
 have q3:=hM.d
 have ln:(aj br N.ties).isEmpty=N.ties.isEmpty:=by unfold aj; cases N.ties<;> rfl
 have z8:((0:Int)<3)=True:=by simp
 by_cases c1:N.ties= []
 ·refine ⟨_,_,AJ hN hM hG, ?_⟩
  have e:N.ties.isEmpty=true:=by rw [c1]; rfl
  unfold wb
  clear c1 hN hM hG h6
  simp! only [az,aJ,ln,e,q1,q3]
 ·obtain ⟨S',N',h1,h2⟩:=wJ (c:=c) (w:=w%3) h6 hN hM hG c1 k0 k1
  refine ⟨S',N',h1, ?_⟩
  have e:N.ties.isEmpty=false:=by cases h:N.ties with | nil=>exact absurd h c1 | cons a r=>rfl
  unfold wb
  clear c1 hN hM hG h6
  simp! only [az,aJ,ln,e,q1,q3,z8,h2]
theorem deed2 {v2 v6 v7:Option Vl} (h6:Six S n l d m ml md) (hN:NetAt S n l d N) (hM:ModAt S m ml md N) (hG:Good N) (k0:0≤k) (k1:k≤1000):
  ∃S' N',Did S S' n l d m ml md N'∧Wp (nK ⟨[some (.d (.cell n)),some (.d (.cell m)),v2,some (.d (.int c)),some (.d (.int k)),some (.d (.int w)),v6,v7],S⟩) (fun fl s' =>flv fl=some (.d (.bl true))∧s'.st=S') XF:=by
 have q1:=hM.m
 have q2:=hM.l
 have q3:=hM.d
 have ln:((aj br N.ties).length:Int)=N.ties.length:=by unfold aj; rw [List.length_map]
 by_cases cA:w<7∧(1:Int)<N.names.length∧(N.ties.length:Int)<40
 ·obtain ⟨S',N',h1,h2⟩:=wI (c:=c) h6 hN hM hG (by omega) (by omega) k0 k1
  refine ⟨S',N',h1, ?_⟩
  have d1:=decide_eq_true cA.1
  have d2:decide ((N.names.length:Int) > 1)=true:=decide_eq_true cA.2.1
  have d3:=decide_eq_true cA.2.2
  unfold nK
  simp! only [az,aJ,ln,List.length_map,d1,d2,d3,q1,q2,q3,h2]
 ·obtain ⟨S',N',h1,h2⟩:=deed3 (c:=c) (w:=w) (v2:=v2) (v6:=v6) (v7:=v7) h6 hN hM hG k0 k1
  refine ⟨S',N',h1, ?_⟩
  by_cases d1:w<7
  ·have d1' :=decide_eq_true d1
   by_cases d2:(N.names.length:Int) > 1
   ·have d2' :=decide_eq_true d2
    have d3' :decide ((N.ties.length:Int)<40)=false:=decide_eq_false fun d3=>cA ⟨d1,d2,d3⟩
    unfold nK
    simp! only [az,aJ,ln,List.length_map,d1',d2',d3',q1,q2,q3]
    exact h2
   ·have d2' :=decide_eq_false d2
    unfold nK
    simp! only [az,aJ,ln,List.length_map,d1',d2',q1,q2,q3]
    exact h2
  ·have d1' :=decide_eq_false d1
   unfold nK
   simp! only [az,aJ,ln,List.length_map,d1',q1,q2,q3]
   exact h2
theorem zL (h6:Six S n l d m ml md) (hN:NetAt S n l d N) (hM:ModAt S m ml md N) (hG:Good N) (hp:ps.length≤18) (hps:∀z∈ps,qJ z) (k0:0≤k) (k1:k≤1000):
  ∃S' N',Did S S' n l d m ml md N'∧Wp (uQ ⟨[some (.d (.cell n)),some (.d (.cell m)),some (.d (.lst (ps.map .str))),some (.d (.int c)),some (.d (.int k)),some (.d (.int w)),none,none],S⟩) (fun fl s' =>flv fl=some (.d (.bl true))∧s'.st=S') XF:=by
 obtain ⟨j,j0,j1,e1⟩:=dr c k 1 k0 k1 (by decide) (by decide)
 have q1:=hM.m
 have q2:=hM.l
 have q3:=hM.d
 have q4:=hN.n
 have fl:=fun (v0 v3 v4 v5 v6 v7:Option Vl)=>free_lc (v0:=v0) (v3:=v3) (v4:=v4) (v5:=v5) (v6:=v6) (v7:=v7) hM hp
 generalize ef:(ps.filter fun z=>!decide (z∈N.names))=fs at fl
 have hf:∀z∈fs,qJ z∧z∉N.names:=fun z hz=>by
  rw [←ef] at hz
  obtain ⟨h1,h2⟩:=List.mem_filter.mp hz
  exact ⟨hps z h1,by simpa using h2⟩
 have fe:(fs.map D.str).isEmpty=fs.isEmpty:=by cases fs<;> rfl
 have s6:=h6
 obtain ⟨b1,b2,b3,b4,b5,b6,⟨a1,a2,a3⟩,⟨a4,a5,a6⟩,⟨a7,a8,a9⟩,⟨a10,a11,a12⟩,⟨a13,a14,a15⟩⟩:=h6
 by_cases cA:(w<3∨(N.names.length:Int)<2)∧fs≠ []∧(N.names.length:Int)<14
 ·obtain ⟨cC,cE,cF⟩:=cA
  have h0:0<fs.length:=List.length_pos_iff.mpr cE
  obtain ⟨z,hz,ez,_⟩:=fD (ns:=fs) (i:=j%(fs.length:Int)) (Int.emod_nonneg _ (by omega)) (Int.emod_lt_of_pos _ (by omega))
  obtain ⟨z1,z2⟩:=hf z hz
  have e:fs.isEmpty=false:=by cases h:fs with | nil=>exact absurd h cE | cons a r=>rfl
  have r1:=fun s:SD=>ao (s:=s) ez
  have p0:(0<(fs.length:Int))=True:=eq_true (by omega)
  have g1:(N.names.length<sizeLine)=True:=eq_true (Nat.lt_of_lt_of_le (show N.names.length<100 by omega) (by decide))
  refine ⟨_,_,rq (z:=z) s6 hN hM (hG.place z1 z2 (by omega)), ?_⟩
  have pt:=fun sl x=>mm (sl:=sl) (w:=z) (hN.put (j:=ml) (x:=x) a2 a5 a8) (Aj z1.1 z1.2.1 z1.2.2.1) (by have:=z1.2.2.1; omega) z2 (by omega)
  have f1:∀x,(S.put ml x).get n=some (.obj "Net" (iG l d N.given)):=fun x=>(Sto.put_ne a2).trans q4
  have dF:=decide_eq_true cF
  have ma:∀z:Str,(N.names++ [z]).map D.str=N.names.map D.str++ [.str z]:=fun z=>by rw [List.map_append]; rfl
  rw [ma] at pt ⊢
  by_cases c3:w<3
  ·have dC:=decide_eq_true c3
   unfold uQ
   clear cC cE cF hf ef s6 hN hM hG a1 a2 a3 a4 a5 a6 a7 a8 a9 a10 a11 a12 a13 a14 a15 b1 b2 b3 b4 b5 b6 hz ez z1 z2 h0 c3 j0 j1 hp hps k0 k1
   simp! only [az,aJ,mj,Z.ar T.mN_put_place,List.length_map, *]
  ·have dC:=decide_eq_false c3
   have dD:=decide_eq_true (cC.resolve_left c3)
   unfold uQ
   clear cC cE cF hf ef s6 hN hM hG a1 a2 a3 a4 a5 a6 a7 a8 a9 a10 a11 a12 a13 a14 a15 b1 b2 b3 b4 b5 b6 hz ez z1 z2 h0 c3 j0 j1 hp hps k0 k1
   simp! only [az,aJ,mj,Z.ar T.mN_put_place,List.length_map, *]
 ·obtain ⟨S',N',h1,h2⟩:=deed2 (c:=c) (w:=w) (v2:=some (.d (.lst (ps.map .str)))) (v6:=some (.own (.lst (fs.map .str)))) (v7:=none) s6 hN hM hG k0 k1
  refine ⟨S',N',h1, ?_⟩
  have fin:∀(C D:Bool),decide (w<3)=C→decide ((N.names.length:Int)<2)=D→∀E F:Bool,fs.isEmpty=E→decide ((N.names.length:Int)<14)=F→((C || D)&&(!E&&F))=false→
    Wp (uQ ⟨[some (.d (.cell n)),some (.d (.cell m)),some (.d (.lst (ps.map .str))),some (.d (.int c)),some (.d (.int k)),some (.d (.int w)),none,none],S⟩) (fun fl s' =>flv fl=some (.d (.bl true))∧s'.st=S') XF:=by
   intro C D hC hD E F hE hF hh
   clear cA hf ef s6 hN hM hG a1 a2 a3 a4 a5 a6 a7 a8 a9 a10 a11 a12 a13 a14 a15 b1 b2 b3 b4 b5 b6 j0 j1 hp hps k0 k1 h1
   unfold uQ
   cases C<;> cases D<;> cases E<;> cases F<;> first | exact absurd hh (by decide) | (simp! only [az,aJ,List.length_map, *]; first | exact h2 | skip)
  refine fin _ _ rfl rfl _ _ rfl rfl ?_
  cases hC:decide (w<3)<;> cases hD:decide ((N.names.length:Int)<2)<;> cases hE:fs.isEmpty<;> cases hF:decide ((N.names.length:Int)<14)<;> try rfl
  all_goals (refine (cA ⟨?_,⟨fun e=>(by rw [e] at hE; cases hE),of_decide_eq_true hF⟩⟩).elim; first | exact .inl (of_decide_eq_true hC) | exact .inr (of_decide_eq_true hD))
theorem g_Ldeed (h6:Six S n l d m ml md) (hN:NetAt S n l d N) (hM:ModAt S m ml md N) (hG:Good N) (h0:ps≠ []) (hp:ps.length≤18) (hps:∀z∈ps,qJ z) (k0:0≤k) (k1:k≤1000):
  ∃S' N',Did S S' n l d m ml md N'∧∀sl,goF om [.cell n, .cell m, .lst (ps.map .str), .int c, .int k] ⟨sl,S⟩= .ok (.d (.bl true)) ⟨sl,S'⟩:=by
 obtain ⟨j,j0,j1,e1⟩:=dr c k 0 k0 k1 (by decide) (by decide)
 obtain ⟨z,hz,ez,_⟩:=fD (ns:=ps) (i:=0) (by decide) (by have:=List.length_pos_iff.mpr h0; omega)
 have r1:=fun s:SD=>ao (s:=s) ez
 have z1:(z.length≤sizeLine)=True:=eq_true (Nat.le_trans (hps z hz).2.2.1 (by decide))
 have q1:=hM.m
 have q2:=hM.l
 have z8:((0:Int)<10)=True:=by simp
 have go:∀w:Int,(∀(S' :Sto),Wp (uQ ⟨[some (.d (.cell n)),some (.d (.cell m)),some (.d (.lst (ps.map .str))),some (.d (.int c)),some (.d (.int k)),some (.d (.int w)),none,none],S⟩) (fun fl s' =>flv fl=some (.d (.bl true))∧s'.st=S') XF→
   Wp (vj ⟨[some (.d (.cell n)),some (.d (.cell m)),some (.d (.lst (ps.map .str))),some (.d (.int c)),some (.d (.int k)),none,none,none],S⟩) (fun fl s' =>flv fl=some (.d (.bl true))∧s'.st=S') XF)→
   ∃S' N',Did S S' n l d m ml md N'∧∀sl,goF om [.cell n, .cell m, .lst (ps.map .str), .int c, .int k] ⟨sl,S⟩= .ok (.d (.bl true)) ⟨sl,S'⟩:=fun w h=>by
  obtain ⟨S',N',h1,h2⟩:=zL (c:=c) (w:=w) h6 hN hM hG hp hps k0 k1
  exact ⟨S',N',h1,fun sl=>ew (h S' h2)⟩
 by_cases c1:(z.length:Int)=5
 ·have d1:=decide_eq_true c1
  by_cases c2:(N.names.length:Int) > 2
  ·have d2:=decide_eq_true c2
   refine go 5 fun S' h=>?_
   rw [uP]
   simp! only [az,List.length_map,e1,r1,z1,z8,q1,q2,d1,d2]
   exact h
  ·have d2:=decide_eq_false c2
   refine go (j%10) fun S' h=>?_
   rw [uP]
   simp! only [az,List.length_map,e1,r1,z1,z8,q1,q2,d1,d2]
   exact h
 ·have d1:=decide_eq_false c1
  refine go (j%10) fun S' h=>?_
  rw [uP]
  simp! only [az,List.length_map,e1,r1,z1,z8,q1,q2,d1]
  exact h
end
section
variable {s:SD} {S S' S2:Sto} {sl:List (Option Vl)} {x z:D} {n l d m ml md:Nat} {N N' :ND} {g i c k:Int} {a b:D} {q:Int×TD} {ps:List Str}
structure NW (S:Sto) (n l d m ml md:Nat) (N:ND):Prop where
 six:Six S n l d m ml md
 net:NetAt S n l d N
 mod:ModAt S m ml md N
 good:Good N
theorem NW.did (W:NW S n l d m ml md N) (D:Did S S' n l d m ml md N'):NW S' n l d m ml md N' :=by
 obtain ⟨⟨b1,b2,b3,b4,b5,b6,a1,a2,a3,a4,a5⟩,_,_,_⟩:=W
 have nx:=D.nx
 exact ⟨⟨by omega,by omega,by omega,by omega,by omega,by omega,a1,a2,a3,a4,a5⟩,D.net,D.mod,D.good⟩
structure Ext (S S' :Sto):Prop where
 nx:S.nx≤S'.nx
 get:∀i,i<S.nx→S'.get i=S.get i
theorem Ext.refl:Ext S S:=⟨Nat.le_refl _,fun _ _=>rfl⟩
theorem Ext.trans (h:Ext S S') (g:Ext S' S2):Ext S S2:=⟨Nat.le_trans h.nx g.nx,fun i hi=>(g.get i (Nat.lt_of_lt_of_le hi h.nx)).trans (h.get i hi)⟩
theorem Ext.new:Ext S (S.new x):=⟨Nat.le_succ _,fun i hi=>yJ (Nat.ne_of_lt hi)⟩
theorem Ext.tick:Ext S S.tick:=⟨Nat.le_succ _,fun i hi=>bB (Nat.ne_of_lt hi)⟩
theorem Ext.put {j:Nat} (h:Ext S S') (hj:S.nx≤j):Ext S (S'.put j x):=⟨h.nx,fun i hi=>(Sto.put_ne (by omega)).trans (h.get i hi)⟩
theorem NW.ext (W:NW S n l d m ml md N) (h:Ext S S'):NW S' n l d m ml md N:=by
 obtain ⟨⟨b1,b2,b3,b4,b5,b6,a1,a2,a3,a4,a5⟩,⟨n1,n2,n3⟩,⟨m1,m2,m3⟩,hG⟩:=W
 have nx:=h.nx
 exact ⟨⟨by omega,by omega,by omega,by omega,by omega,by omega,a1,a2,a3,a4,a5⟩,⟨(h.get _ b1).trans n1,(h.get _ b2).trans n2,(h.get _ b3).trans n3⟩,⟨(h.get _ b4).trans m1,(h.get _ b5).trans m2,(h.get _ b6).trans m3⟩,hG⟩
theorem Bf:(Bg S).nx=S.nx+3:=rfl
theorem good0' :Good ⟨[],[],0⟩:=⟨List.nodup_nil,fun z hz=>(by cases hz),Nat.zero_le _,List.Pairwise.nil,Nat.zero_le _,fun q hq=>(by cases hq),fun q hq=>(by cases hq),fun q hq=>(by cases hq),Int.le_refl _,fun q hq=>(by cases hq)⟩
def bltS (S:Sto):Sto:=(((Bg S).new (.lst [])).new (.dct [])).new (.dct (vF (S.nx+3) (S.nx+3+1) 0))
theorem fH (i:Nat):(bltS S).get i=if i=S.nx+3+1+1 then some (.dct (vF (S.nx+3) (S.nx+3+1) 0)) else if i=S.nx+3+1 then some (.dct []) else if i=S.nx+3 then some (.lst []) else (Bg S).get i:=rfl
theorem blt_ext:Ext S (bltS S):=⟨by show S.nx≤S.nx+6; omega,fun i hi=>by
 rw [fH,if_neg (by omega),if_neg (by omega),if_neg (by omega)]
 unfold Bg
 simp [show i≠S.nx by omega,show i≠S.nx+1 by omega,show i≠S.nx+2 by omega]⟩
theorem blt_nw:NW (bltS S) S.nx (S.nx+1) (S.nx+2) (S.nx+3+1+1) (S.nx+3) (S.nx+3+1) ⟨[],[],0⟩:=by
 have nx:(bltS S).nx=S.nx+6:=rfl
 refine ⟨⟨by omega,by omega,by omega,by omega,by omega,by omega,⟨by omega,by omega,by omega⟩,⟨by omega,by omega,by omega⟩,⟨by omega,by omega,by omega⟩,⟨by omega,by omega,by omega⟩,⟨by omega,by omega,by omega⟩⟩,⟨?_, ?_, ?_⟩,⟨?_, ?_, ?_⟩,good0'⟩
 ·rw [fH,if_neg (by omega),if_neg (by omega),if_neg (by omega)]; unfold Bg; simp
 ·rw [fH,if_neg (by omega),if_neg (by omega),if_neg (by omega)]; unfold Bg; simp
 ·rw [fH,if_neg (by omega),if_neg (by omega),if_neg (by omega)]; unfold Bg; simp [aj]
 ·rw [fH,if_pos rfl]
 ·rw [fH,if_neg (by omega),if_neg (by omega),if_pos rfl]; rfl
 ·rw [fH,if_neg (by omega),if_pos rfl]; rfl
theorem zh {cs:List Int} (hn:cs.length≤63) (h0:ps≠ []) (hp:ps.length≤18) (hps:∀z∈ps,qJ z):
  ∃N S',NW S' S.nx (S.nx+1) (S.nx+2) (S.nx+3+1+1) (S.nx+3) (S.nx+3+1) N∧Ext S S'∧N.given≤63∧∀sl,goF kO [.lst (cs.map .int), .lst (ps.map .str)] ⟨sl,S⟩= .ok (.d (.tup [.cell S.nx, .cell (S.nx+3+1+1), .bl true])) ⟨sl,S'⟩:=by
 have e7:=fun sl=>rJ (sl:=sl) (S:=S) (i:=S.nx) (F:=gP) fun s=>wH (sl:=s.sl) (S:=S)
 have dm:∀a b c:D,fP [(.inr "names",a),(.inr "ties",b),(.inr "given",c)]= [(.inr "names",a),(.inr "ties",b),(.inr "given",c)]:=fun _ _ _=>rfl
 have l3:∀a b c:Key×D,([a,b,c].length≤15)=True:=fun _ _ _=>eq_true (by show 3≤15; decide)
 have key:Wp (kY ⟨[some (.d (.lst (cs.map .int))),some (.d (.lst (ps.map .str))),none,none,none,none,none],S⟩) (fun fl s' =>flv fl=some (.d (.tup [.cell S.nx, .cell (S.nx+3+1+1), .bl true]))∧∃N,NW s'.st S.nx (S.nx+1) (S.nx+2) (S.nx+3+1+1) (S.nx+3) (S.nx+3+1) N∧Ext S s'.st∧N.given≤63) XF:=by
  unfold kY
  simp! only [new_nx,Bf,e7,dm,l3]
  rw [ab]
  refine di (fun j s=>∃v5 v6 N S2,s=⟨[some (.d (.lst (cs.map .int))),some (.d (.lst (ps.map .str))),some (.d (.cell S.nx)),some (.d (.cell (S.nx+3+1+1))),some (.d (.bl true)),v5,v6],S2⟩∧NW S2 S.nx (S.nx+1) (S.nx+2) (S.nx+3+1+1) (S.nx+3) (S.nx+3+1) N∧Ext S S2∧N.given≤(j:Int)) Nl.d1 (fun _ _ _=>trivial) ⟨none,none,_,bltS S,rfl,blt_nw,blt_ext,Int.le_refl _⟩ (fun j x s e hI=>?_) (fun s hI=>?_)
  ·obtain ⟨v5,v6,N1,S1,rfl,W1,E1,g1⟩:=hI
   have e:(bO (cs.map D.int))[j]? =some x:=e
   rw [gU,List.getElem?_map] at e
   cases en:cs[j]? with
   | none=>rw [en] at e; cases e
   | some c=>
    rw [en] at e
    cases e
    have hj:j<cs.length:=(List.getElem?_eq_some_iff.mp en).1
    obtain ⟨S2,N2,D,ed⟩:=g_Ldeed (c:=c) (k:=(j:Nat)) W1.six W1.net W1.mod W1.good h0 hp hps (by omega) (by omega)
    simp! only [ed]
    have g2:=D.gv N1.given W1.net.n
    refine ⟨_,_,N2,S2,rfl,W1.did D, ?_,by omega⟩
    refine ⟨Nat.le_trans E1.nx D.nx,fun i hi=>?_⟩
    have:=E1.nx
    rw [D.fr i (by omega) (by omega) (by omega) (by omega) (by omega) (by omega) (by omega)]
    exact E1.get i hi
  ·obtain ⟨v5,v6,N1,S1,rfl,W1,E1,g1⟩:=hI
   simp! only []
   have g1:N1.given≤((bO (cs.map D.int)).length:Int):=g1
   have pl:(bO (cs.map D.int)).length=cs.length:=by
    unfold bO
    rw [List.length_map,List.length_zipIdx,List.length_map]
   exact ⟨N1,W1,E1,by omega⟩
 obtain ⟨fl,s',e,h1,N,W,E,gb⟩:=key.is
 refine ⟨N,s'.st,W,E,gb,fun sl=>ew ?_⟩
 show Wp (kY ⟨[some (.d (.lst (cs.map .int))),some (.d (.lst (ps.map .str))),none,none,none,none,none],S⟩) _ _
 rw [e]
 exact ⟨h1,rfl⟩
end
end T

local macro_rules | `(tactic| dsimp! only [$ts,*]) => `(tactic| simp only [↓reduceIte, ↓Z.e_seq, ↓Z.e_asg, ↓Z.zu, ↓Z.pY, ↓Z.pZ, ↓Z.zy, ↓Z.uN, ↓Z.zG, ↓Z.e_ifS, ↓Z.e_ret, ↓Z.zv, ↓Z.zD, ↓Z.uK, ↓Z.e_c, ↓Z.e_var, ↓Z.e_z1, ↓Z.e_z2, ↓Z.e_via, ↓Z.e_a0, ↓Z.e_a, ↓Z.e_tup, ↓Z.e_lst, ↓Z.zE, ↓Z.e_b, ↓Z.e_and, ↓Z.e_or, ↓Z.e_not, ↓Z.zJ, ↓Z.e_orV, ↓Z.zx, ↓Z.e_if, ↓Z.zH, ↓Z.zz, ↓Z.uM, ↓Z.e_no, ↓Z.e_pt, ↓Z.e_sl, Z.xx, Z.x_nx, Z.x_asg, Z.x_st, Z.x_if, Z.x_rt, Z.x_ret, Z.x_z2, Z.x_d, Z.x_via, Z.xw, Z.x_fix, Z.x_a, Z.x_tup, Z.x_lst, Z.x_ok, Z.x_not, Z.xt, Z.xy, Z.xq, Z.sG, Z.sH, Z.nU, Z.nV, Z.x_pt, Z.x_sl3, Z.x_sl2, Z.x_sl1, Z.ve, Z.qs, Z.qr, Z.mJ, Z.tm, Z.tj, Z.tu, Z.tq, Z.xP, Z.oo, Z.oq, Z.lz, Z.oi, Z.xM, Z.fix_d, Z.uD, Z.uE, Z.pX, Z.zk, Z.ka, Z.iK, Z.oB_bl, Z.zW, Z.jZ, Z.mE, Z.qj, Z.kU, Z.uT, Z.qg, Z.hJ, Z.kW, Z.kT, Z.qm, Z.qf, Z.cI, Z.gZ, Z.qh, Z.w_add, Z.qH, Z.qF, Z.qG, Z.qE, Z.w_sub, Z.xH, Z.pA, Z.pz, Z.w_mod, Z.w_div, Z.w_pow, Z.w_cmp, Z.w_neg, Z.w_min, Z.w_isi, Z.nZ, Z.w_eq, Z.w_in, Z.w_ix, Z.w_len, Z.pE, Z.pG, Z.pF, Z.w_fld, Z.ur, Z.yV, Z.uk, Z.um, Z.uo, Z.uw, Z.uj, Z.uu, Z.isT, Z.lj, Z.lg, Z.flv, ↓Z.e_lc, ↓Z.e_yes, ↓Z.e_itL, Z.iS, Z.la, ↓Z.e_itS, Z.x_itS, Z.sI, Z.kZ, Z.jB, Z.xK, Z.mD, Z.xI, Z.mb, Z.mf, Z.mc, Z.og, Z.lq, Z.w_sl, Z.sY, Z.sZ, ↓Z.e_rg1, Z.x_rg1, ↓Z.e_for, Z.xo, ↓Z.e_zip, Z.xn, ↓Z.e_en, Z.nT, Z.w_unp, Z.unp2, Z.unp3, Z.unp4, Z.unp5, Z.ik, Z.jK, ↓Z.e_m1s, Z.x_m1s, Z.sX, Z.pD, ↓Z.e_m2, Z.x_m2, Z.x_isL, Z.pO, Z.x_isD, Z.pP, Z.x_rv, Z.w_b2, Z.mQ, Z.mP, Z.w_b1, Z.qz, Z.pB, Z.ud, Z.pC, ↓Z.e_sf, Z.x_sf1, Z.x_sf2, Z.x_sf3, ↓Z.e_mk, Z.x_mk, Z.x_sto, ↓Z.e_dp, Z.x_dp1, Z.x_dp2, Z.x_dp3, Z.x_dp4, Z.uJ, Z.my, Z.w_ne, Z.ua, Z.uc, Z.cU, Z.uC, Z.Sto.put_same, Z.tS, Z.tY, Z.gw, Z.sfn0, Z.sfn1, Z.sfn2, Z.sfn3, Z.sfn4, Z.sfn5, Z.sfn6, Z.sfn7, Z.sfn8, decide_false, decide_true, Z.An, Z.wY, Z.Am, List.set_cons_zero, List.set_cons_succ, List.getElem?_cons_zero, List.getElem?_cons_succ, List.cons_append, List.nil_append, List.append_nil, List.isEmpty_nil, List.isEmpty_cons, if_true, if_false, Bool.false_eq_true, true_implies, false_implies, implies_true, reduceCtorEq, Bool.not_true, Bool.not_false, eq_self, and_self, and_true, true_and, ↓Z.zF, Z.xu, ↓Z.e_p, Z.x_p1, Z.x_p2, Z.x_p3, ↓Z.e_p0, ↓Z.zq, Z.x_wk, ↓Z.e_par, Z.x_par, ↓Z.zw, Z.xr, ↓Z.e_aug, Z.qA, Z.xA, ↓Z.zI, Z.x_as1, Z.x_as2, Z.Ai, Z.Ah, Z.x_as6, Z.yd, Z.yc, Z.xG, Z.oU, ↓Z.e_rvI, Z.x_rvI, ↓Z.e_itT, Z.x_itT, Z.mR, Z.xE, Z.oA, Z.oD, Z.ub, Z.tZ, Z.w_max, Z.zp, ↓Z.qe, ↓Z.x_r0, ↓Z.qd, ↓Z.x_r1, ↓Z.x_r2, ↓Z.vf, Z.Wp_ex, ↓Z.qk, ↓Z.w_xf, ↓Z.w_isX, ↓Z.pM, ↓Z.e_rg2, Z.x_rg2, Z.sL, Z.nY, Z.w_str, ↓Z.zt, Z.sO, Z.pq, ↓Z.qb, ↓Z.x_rL1, ↓Z.x_rL2, Z.oh, ↓Z.e_pV, Z.x_pVi, Z.x_pVs, Z.lh, Z.pN, ↓Z.qc, ↓Z.x_rC1, ↓Z.x_rC2, ↓Z.uL, Z.x_hL1, Z.x_hL2, Z.x_hL3, Z.w_isU, Z.iT, Z.ak T.pj, Z.ak T.tX, Z.ak T.pk, Z.ak T.lB, Z.ak T.sP, Z.ak T.sR, Z.ak T.oy, Z.ak T.sQ, Z.ak T.ox, Z.ar T.fE, Z.ar T.dV, Z.ar T.lZ, Z.ar T.mN_ties, Z.ar T.yO, Z.ar T.Bl, $ts,*])
namespace T
open PySem PySem.Spec PyProof.Rows L2 M Z A
open Classical
def ah (f:Int→Int) (is:List Int):List (Key×D):=is.map fun i=>(.inl i, .int (f i))
def sE (ts:List (Int×TD)) (f:Int→Int):Prop:=∀q∈ts,q.2.least≤f q.1∧∀mx,q.2.most=some mx→f q.1≤mx
def Hand (S:Sto) (x:D) (ks:List (Key×D)):Prop:=x= .dct ks∨∃j,x= .cell j∧S.get j=some (.dct ks)
section
variable {s:SD} {S S' :Sto} {sl:List (Option Vl)} {x y z:D} {n l d:Nat} {N:ND} {i c:Int} {a:D} {q:Int×TD} {f:Int→Int} {is:List Int} {ks:List (Key×D)}
theorem Hand.cont (h:Hand S x ks):SD.cont ⟨sl,S⟩ (.d x)=some (.dct ks):=by
 rcases h with rfl | ⟨j,rfl,e⟩
 ·rfl
 ·exact e
theorem Hand.ext (h:Hand S x ks) (e:∀j,x= .cell j→S'.get j=S.get j):Hand S' x ks:=by
 rcases h with rfl | ⟨j,rfl,e1⟩
 ·exact .inl rfl
 ·exact .inr ⟨j,rfl,(e j rfl).trans e1⟩
theorem Bv:eN (ah f is) (.inl i)=if i∈is then some (.int (f i)) else none:=by
 induction is with
 | nil=>rfl
 | cons j is ih=>
  unfold ah eN at ih ⊢
  rw [List.map_cons]
  by_cases c:j=i
  ·subst c
   rw [List.find?_cons_of_pos (by simp)]
   simp
  ·rw [List.find?_cons_of_neg (by simp [c]),ih]
   simp [Ne.symm c]
theorem bF (h:i∈is):eN (ah f is) (.inl i)=some (.int (f i)):=by rw [Bv,if_pos h]
theorem bw:Wk.keys.ds (ah f is)=is.map D.int:=by
 show (ah f is).map (fun kv=>jl kv.1)=_
 unfold ah
 rw [List.map_map]
 rfl
theorem bR:(ah f is).length=is.length:=by unfold ah; simp
theorem cH {s:SD}:s.cont (.d (bx q))=some (.obj "Tie" (Aq q.1 q.2)):=rfl
theorem uz {a:Int} (h0:q.2.least≤a) (h1:∀mx,q.2.most=some mx→a≤mx):goF ig [bx q, .int a] s= .ok (.d (.bl true)) s:=by
 refine wF ?_
 show Wp (iO ⟨[some (.d (bx q)),some (.d (.int a))],s.st⟩) _ _
 unfold iO
 have w1:=fun s:SD=>gW (s:=s) (x:= .int a) rfl
 have d0:=decide_eq_true h0
 obtain ⟨i,ta,he,le,mo,pr⟩:=q
 cases mo with
 | none=>
  dsimp! only [cH,aY,isWh,w1,d0]
 | some mx=>
  have d1:=decide_eq_true (h1 mx rfl)
  dsimp! only [cH,aY,isWh,w1,d0,d1]
theorem wX {v0 v2 v3:Option Vl} {j:D} (h:Hand S x (ah f is)) (hl:is.length≤1000):
  xl 1 (zSt 4) fm (ag bH [] (zA (aa 4) zA0)) [4] ⟨[v0,some (.d x),v2,v3,none],S⟩= .ok (.own (.lst (is.map fun _=> .bl true))) ⟨[v0,some (.d x),v2,v3,none],S⟩:=by
 have tn:∀(S:Sto) (d:D),d∈Wk.keys.ds (ah f is)→gO (zSt 4) fm (ag bH [] (zA (aa 4) zA0)) [4] ⟨[v0,some (.d x),v2,v3,none],S⟩ (fun _=>true) (fun _=> .bl true) d:=fun S d hd=>by
  rw [bw] at hd
  obtain ⟨i,_,rfl⟩:=List.mem_map.mp hd
  have w1:=fun s:SD=>gW (s:=s) (x:= .int i) rfl
  unfold Z.gO
  dsimp! only [isWh,w1]
 rcases h with rfl | ⟨j,rfl,e⟩
 ·rw [lcD_d (x:= .dct (ah f is)) rfl (by intro _ z; cases z)]
  dsimp! only []
  rw [ji (fun _=> .bl true) rfl Nl.d1 trivial (tn S) (by rw [bw,List.length_map]; exact Nat.le_trans hl (by decide))]
  rw [bw,List.map_map]
  rfl
 ·rw [vM (fun _=>true) (fun _=> .bl true) rfl e (tn _) (by rw [bR]; exact Nat.le_trans hl (by decide)),List.filter_eq_self.mpr fun _ _=>rfl,bw,List.map_map]
  rfl
theorem qC {α:Type} (l:List α):(l.map fun _=>true).all id=true:=by simp
theorem mr (h:NetAt S n l d N) (hG:Good N) (hx:Hand S x (ah f is)) (hp:is.Perm (N.ties.map (·.1))) (hf:sE N.ties f):goF dJ [.cell n,x] ⟨sl,S⟩= .ok (.d .non) ⟨sl,S⟩:=by
 have hlen:is.length=N.ties.length:=by rw [hp.length_eq,List.length_map]
 have k1:=fun sl=>vQ (sl:=sl) h hG.rise hG.tl
 have q1:=h.n
 have cx:=fun sl=>hx.cont (sl:=sl)
 have fl:=bR (f:=f) (is:=is)
 have tl:=hG.tl
 have l1:(ah f is).length=is.length:=bR
 have l2:(N.ties.map bx).length=N.ties.length:=List.length_map _
 have lc1:=fun (v0 v2 v3:Option Vl)=>wX (S:=S) (v0:=v0) (v2:=v2) (v3:=v3) (j:= .non) hx (by omega)
 have a1:=fun s:SD=>qD (s:=s) (ds:=is.map fun _=>D.bl true) (jo (fun _=>true) is)
 have t1:=qC is
 have a2:=fun s:SD=>qD (s:=s) (ds:=N.ties.map fun _=>D.bl true) (jo (fun _=>true) N.ties)
 have t2:=qC N.ties
 have e1:decide ((is.length:Int)=(N.ties.length:Int))=true:=decide_eq_true (by omega)
 have ee:∀s:SD,neK s (some (.int (is.length:Int))) (some (.int (N.ties.length:Int)))= .ok (.d (.bl false)) s:=fun s=>by
  have e2:= @uR (is.length:Int) (N.ties.length:Int)
  rw [e1] at e2
  unfold neK
  simp only [e2]
  rfl
 have lc2:∀v4:Option Vl,lcK (zSt 3) fm (z2 (oIn false) (z1 (ba ["Tie"] "number") (aa 3)) (aa 1)) [3] ⟨[.d (.lst (N.ties.map bx))],fun _=>True,N.ties.map bx⟩ ⟨[some (.d (.cell n)),some (.d x),some (.d (.lst (N.ties.map bx))),none,v4],S⟩= .ok (.own (.lst (N.ties.map fun _=> .bl true))) ⟨[some (.d (.cell n)),some (.d x),some (.d (.lst (N.ties.map bx))),none,v4],S⟩:=fun v4=>by
  rw [ji (fun _=> .bl true) rfl Nl.d1 trivial (fun d hd=>?_) (by rw [l2]; exact Nat.le_trans tl (by decide)),List.map_map]
  ·rfl
  ·obtain ⟨q,hq,rfl⟩:=List.mem_map.mp hd
   have mi:q.1∈is:=hp.mem_iff.mpr (List.mem_map.mpr ⟨q,hq,rfl⟩)
   have i1:∀s:SD,inK false s (some (.int q.1)) (some (.dct (ah f is)))= .ok (.d (.bl true)) s:=fun s=>hZ (neg:=false) (r:=true) (by
    show some (eN (ah f is) (.inl q.1)).isSome=some true
    rw [bF mi]; rfl)
   unfold Z.gO
   dsimp! only [cH,cx,i1]
 refine ew ?_
 show Wp (iM ⟨[some (.d (.cell n)),some (.d x),none,none,none],S⟩) _ _
 unfold iM
 dsimp! only [k1,q1,cx,lc1,a1,t1,a2,t2,l1,l2,ee,lc2]
 refine di (fun j s=>∃v3,s=⟨[some (.d (.cell n)),some (.d x),some (.d (.lst (N.ties.map bx))),v3,none],S⟩) Nl.d1 (fun _ _ _=>trivial) ⟨none,rfl⟩ (fun j y s e hI=>?_) (fun s hI=>?_)
 ·obtain ⟨v3,rfl⟩:=hI
  have e:(N.ties.map bx)[j]? =some y:=e
  rw [List.getElem?_map] at e
  obtain ⟨q,eq,rfl⟩:=Option.map_eq_some_iff.mp e
  have hq:=List.mem_of_getElem? eq
  have mi:q.1∈is:=hp.mem_iff.mpr (List.mem_map.mpr ⟨q,hq,rfl⟩)
  have i1:∀s:SD,ixK s (some (.dct (ah f is))) (some (.int q.1))= .ok (.d (.int (f q.1))) s:=fun s=>ao (bF mi)
  have am:=fun s:SD=>uz (s:=s) (hf q hq).1 (hf q hq).2
  dsimp! only [cH,cx,i1,am]
  exact ⟨_,rfl⟩
 ·obtain ⟨v3,rfl⟩:=hI
  exact ⟨rfl,rfl⟩

theorem kA {a:Int} (h:i∉is):kL (ah f is) (.inl i) (.int a)=ah (fun j=>if j=i then a else f j) (is++ [i]):=by
 unfold kL
 rw [if_neg ?_]
 ·unfold ah
  rw [List.map_append]
  congr 1
  ·refine List.map_congr_left fun j hj=>?_
   show _=(Sum.inl j,D.int (if j=i then a else f j))
   rw [if_neg (fun (e:j=i)=>h (e ▸ hj))]
  ·simp
 ·rw [List.any_eq_true]
  rintro ⟨kv,h1,h2⟩
  unfold ah at h1
  obtain ⟨j,hj,rfl⟩:=List.mem_map.mp h1
  have:(Sum.inl j:Key)= .inl i:=of_decide_eq_true h2
  cases this
  exact h hj
theorem kz {a:Int} (h:i∈is):kL (ah f is) (.inl i) (.int a)=ah (fun j=>if j=i then a else f j) is:=by
 unfold kL
 rw [if_pos ?_]
 ·unfold ah
  rw [List.map_map]
  refine List.map_congr_left fun j hj=>?_
  show (if (Sum.inl j:Key)= .inl i then _ else _)=_
  by_cases c:j=i
  ·subst c; simp
  ·rw [if_neg (fun e=>c (Sum.inl.inj e))]
   show _=(Sum.inl j,D.int (if j=i then a else f j))
   rw [if_neg c]
 ·rw [List.any_eq_true]
  exact ⟨(.inl i, .int (f i)),List.mem_map.mpr ⟨i,h,rfl⟩,decide_eq_true rfl⟩
theorem gy {f' :Int→Int} (h:∀i∈is,f i=f' i):ah f is=ah f' is:=List.map_congr_left fun i hi=>by rw [h i hi]
theorem tO {s:SD} (q:Int×TD):(ixK s (some (mS q)) (some (.int 0))= .ok (.d (.int q.1)) s)∧(ixK s (some (mS q)) (some (.int 1))= .ok (.d (.str q.2.tail)) s)∧(ixK s (some (mS q)) (some (.int 2))= .ok (.d (.str q.2.head)) s)∧(ixK s (some (mS q)) (some (.int 3))= .ok (.d (.int q.2.least)) s)∧(ixK s (some (mS q)) (some (.int 4))= .ok (.d (aY q.2.most)) s)∧(ixK s (some (mS q)) (some (.int 5))= .ok (.d (.int q.2.price)) s):=⟨ao rfl,ao rfl,ao rfl,ao rfl,ao rfl,ao rfl⟩
theorem wd {s:SD}:s.cont (.d (mS q))=some (mS q):=rfl
end
section
variable {N:ND} {i c:Int} {f:Int→Int} {is is' :List Int}
theorem nG:∀(is pre:List Int),(pre++is).Nodup→(ah f is).foldl (fun acc kv=>kL acc kv.1 kv.2) (ah f pre)=ah f (pre++is)
 | [],pre,_=>by rw [List.append_nil]; rfl
 | i::is,pre,h=>by
  have ni:i∉pre:=fun hi=>by
   have:=(List.nodup_append.mp h).2.2 i hi i (List.mem_cons_self ..)
   exact this rfl
  have e:kL (ah f pre) (.inl i) (.int (f i))=ah f (pre++ [i]):=by
   rw [kA ni]
   refine gy fun j hj=>?_
   show (if j=i then f i else f j)=f j
   by_cases c:j=i
   ·rw [if_pos c,c]
   ·rw [if_neg c]
  show (ah f is).foldl (fun acc kv=>kL acc kv.1 kv.2) (kL (ah f pre) (.inl i) (.int (f i)))=_
  rw [e,nG is (pre++ [i]) (by rw [List.append_assoc]; exact h),List.append_assoc]
  rfl
theorem iJ (h:is.Nodup):fP (ah f is)=ah f is:=by
 have:=nG (f:=f) is [] (by simpa using h)
 rw [List.nil_append] at this
 exact this
theorem jW:∀is:List Int,rC (is.map fun i=> .tup [.int i, .int (f i)])=some (ah f is)
 | []=>rfl
 | i::is=>by
  rw [List.map_cons,rC,jW is]
  rfl
theorem nI (h:is.Perm is'):sk (ah f is) (ah f is')=true:=by
 unfold sk
 rw [Bool.and_eq_true]
 refine ⟨decide_eq_true (by rw [bR,bR,h.length_eq]),List.all_eq_true.mpr fun kv hkv=>?_⟩
 unfold ah at hkv
 obtain ⟨i,hi,rfl⟩:=List.mem_map.mp hkv
 rw [show eN (ah f is') (Sum.inl i,D.int (f i)).1=some (.int (f i)) from bF (h.mem_iff.mp hi)]
 exact decide_eq_true rfl
theorem nD:∀is:List Int,pQ (ah f is)=some is
 | []=>rfl
 | i::is=>by
  have:=nD is
  unfold ah at this ⊢
  rw [List.map_cons,pQ,this]
theorem Good.nums (h:Good N):(N.ties.map (·.1)).Pairwise (· < ·)∧(N.ties.map (·.1)).Nodup∧(N.ties.map (·.1)).length≤40:=by
 have hr:(N.ties.map (·.1)).Pairwise (· < ·):=h.rise
 exact ⟨hr,hr.imp fun hab=>Int.ne_of_lt hab,by rw [List.length_map]; exact h.tl⟩
end
def hV (h:Str→Int) (zs:List Str):List (Key×D):=zs.map fun z=>(.inr z, .int (h z))
section
variable {s:SD} {S:Sto} {sl:List (Option Vl)} {x y:D} {n l d:Nat} {N:ND} {i c k:Int} {a:D} {q:Int×TD} {f:Int→Int} {is:List Int} {ks:List (Key×D)} {h h' :Str→Int} {z w:Str} {zs:List Str}
theorem str_val:eN (hV h zs) (.inr z)=if z∈zs then some (.int (h z)) else none:=by
 induction zs with
 | nil=>rfl
 | cons j zs ih=>
  unfold hV eN at ih ⊢
  rw [List.map_cons]
  by_cases c:j=z
  ·subst c
   rw [List.find?_cons_of_pos (by simp)]
   simp
  ·rw [List.find?_cons_of_neg (by simp [c]),ih]
   simp [Ne.symm c]
theorem str_at (e:z∈zs):eN (hV h zs) (.inr z)=some (.int (h z)):=by rw [str_val,if_pos e]
theorem qT:Wk.items.ds (hV h zs)=zs.map fun z=>D.tup [.str z, .int (h z)]:=by
 show (hV h zs).map (fun kv=>D.tup [jl kv.1,kv.2])=_
 unfold hV
 rw [List.map_map]
 rfl
theorem xT:(hV h zs).length=zs.length:=by unfold hV; simp
theorem AF (e:∀z∈zs,h z=h' z):hV h zs=hV h' zs:=List.map_congr_left fun i hi=>by rw [e i hi]
theorem sV {a:Int} (e:z∉zs):kL (hV h zs) (.inr z) (.int a)=hV (fun w=>if w=z then a else h w) (zs++ [z]):=by
 unfold kL
 rw [if_neg ?_]
 ·unfold hV
  rw [List.map_append]
  congr 1
  ·refine List.map_congr_left fun j hj=>?_
   show _=(Sum.inr j,D.int (if j=z then a else h j))
   rw [if_neg (fun (q:j=z)=>e (q ▸ hj))]
  ·simp
 ·rw [List.any_eq_true]
  rintro ⟨kv,h1,h2⟩
  unfold hV at h1
  obtain ⟨j,hj,rfl⟩:=List.mem_map.mp h1
  have:(Sum.inr j:Key)= .inr z:=of_decide_eq_true h2
  cases this
  exact e hj
theorem lD {a:Int} (e:z∈zs):kL (hV h zs) (.inr z) (.int a)=hV (fun w=>if w=z then a else h w) zs:=by
 unfold kL
 rw [if_pos ?_]
 ·unfold hV
  rw [List.map_map]
  refine List.map_congr_left fun j hj=>?_
  show (if (Sum.inr j:Key)= .inr z then _ else _)=_
  by_cases c:j=z
  ·subst c; simp
  ·rw [if_neg (fun q=>c (Sum.inr.inj q))]
   show _=(Sum.inr j,D.int (if j=z then a else h j))
   rw [if_neg c]
 ·rw [List.any_eq_true]
  exact ⟨(.inr z, .int (h z)),List.mem_map.mpr ⟨z,e,rfl⟩,decide_eq_true rfl⟩
def spU (f:Int→Int) (h:Str→Int) (q:Int×TD):Str→Int:=
 let h1:=fun w=>if w=q.2.tail then h q.2.tail - f q.1 else h w
 fun w=>if w=q.2.head then h1 q.2.head+f q.1 else h1 w
def sp (f:Int→Int) (ts:List (Int×TD)):Str→Int:=ts.foldl (spU f) fun _=>0
theorem sp_snoc {ts:List (Int×TD)} {j:Nat} (e:ts[j]? =some q):sp f (ts.take (j+1))=spU f (sp f (ts.take j)) q:=by
 unfold sp
 rw [List.take_succ,e,List.foldl_append]
 rfl
theorem gd_str (e:z∈zs):gD (.dct (hV h zs)) (.str z)=some (h z):=gD_at (k:= .inr z) rfl (str_at e)
theorem rW (hN:NetAt S n l d N) (hG:Good N) (hx:Hand S x (ah f is)) (hp:is.Perm (N.ties.map (·.1))):goF fW [.cell n,x] ⟨sl,S⟩= .ok (.own (.dct (hV (sp f N.ties) N.names))) ⟨sl,S⟩:=by
 have k1:=fun sl=>vQ (sl:=sl) hN hG.rise hG.tl
 have k2:=fun sl=>vR (sl:=sl) hN
 have q1:=hN.n
 have cx:=fun sl=>hx.cont (sl:=sl)
 have nl:=hG.nl
 refine ew ?_
 show Wp (gF ⟨[some (.d (.cell n)),some (.d x),none,none,none],S⟩) _ _
 unfold gF
 dsimp! only [k2,q1]
 rw [ab]
 refine di (fun j s=>∃v3,s=⟨[some (.d (.cell n)),some (.d x),some (.own (.dct (hV (fun _=>0) (N.names.take j)))),v3,none],S⟩) Nl.d1 (fun _ _ _=>trivial) ⟨none,rfl⟩ (fun j y s e hI=>?_) (fun s hI=>?_)
 ·obtain ⟨v3,rfl⟩:=hI
  have e:(N.names.map D.str)[j]? =some y:=e
  rw [List.getElem?_map] at e
  obtain ⟨z,ez,rfl⟩:=Option.map_eq_some_iff.mp e
  have ht:N.names.take (j+1)=N.names.take j++ [z]:=by rw [List.take_succ,ez]; rfl
  have ni:z∉N.names.take j:=fun hz=>by
   have nd:=hG.nd
   rw [←List.take_append_drop (j+1) N.names,ht] at nd
   have:=(List.nodup_append.mp (List.nodup_append.mp nd).1).2.2 z hz z (by simp)
   exact this rfl
  have dl:((hV (fun _=>0) (N.names.take j)).length<sizeLine):=by rw [xT,List.length_take]; exact Nat.lt_of_le_of_lt (Nat.le_trans (Nat.min_le_right _ _) nl) (by decide)
  have sp:=fun (s:SD) (o:Vl)=>bT (a:=o) (x:= .int 0) (s:=s) (k:= .inr z) (z:= .str z) (ks:=hV (fun _=>0) (N.names.take j)) rfl dl
  have pn:kL (hV (fun _=>0) (N.names.take j)) (.inr z) (.int 0)=hV (fun _=>0) (N.names.take (j+1)):=by
   rw [sV ni,ht]
   exact AF fun w _=>by simp
  dsimp! only [sp,pn]
  exact ⟨_,rfl⟩
 ·obtain ⟨v3,rfl⟩:=hI
  have tt:N.names.take (N.names.map D.str).length=N.names:=by rw [List.length_map,List.take_length]
  rw [show (⟨[Vl.d (.lst (N.names.map .str))],fun _=>True,N.names.map .str⟩:Src).ds=N.names.map .str from rfl,tt]
  dsimp! only [k1,q1]
  rw [ab]
  refine di (fun j s=>∃v4,s=⟨[some (.d (.cell n)),some (.d x),some (.own (.dct (hV (sp f (N.ties.take j)) N.names))),v3,v4],S⟩) Nl.d1 (fun _ _ _=>trivial) ⟨none,rfl⟩ (fun j y s e hI=>?_) (fun s hI=>?_)
  ·obtain ⟨v4,rfl⟩:=hI
   have e:(N.ties.map bx)[j]? =some y:=e
   rw [List.getElem?_map] at e
   obtain ⟨q,eq,rfl⟩:=Option.map_eq_some_iff.mp e
   have hq:=List.mem_of_getElem? eq
   have mi:q.1∈is:=hp.mem_iff.mpr (List.mem_map.mpr ⟨q,hq,rfl⟩)
   have i1:∀s:SD,ixK s (some (.dct (ah f is))) (some (.int q.1))= .ok (.d (.int (f q.1))) s:=fun s=>ao (bF mi)
   obtain ⟨p1,p2,p3⟩:=hG.pl q hq
   have sn:=sp_snoc (f:=f) eq
   generalize sp f (N.ties.take j)=h0 at*
   have dl:∀h:Str→Int,((hV h N.names).length<sizeLine):=fun h=>by rw [xT]; exact Nat.lt_of_le_of_lt nl (by decide)
   have g1:=gd_str (h:=h0) p1
   have s1:=fun (a:Int) (s:SD) (o:Vl)=>bT (a:=o) (x:= .int a) (s:=s) (k:= .inr q.2.tail) (z:= .str q.2.tail) (ks:=hV h0 N.names) rfl (dl _)
   have w1:=fun a=>lD (h:=h0) (a:=a) p1
   have g2:=fun h=>gd_str (h:=h) p2
   have s2:=fun (h:Str→Int) (a:Int) (s:SD) (o:Vl)=>bT (a:=o) (x:= .int a) (s:=s) (k:= .inr q.2.head) (z:= .str q.2.head) (ks:=hV h N.names) rfl (dl _)
   have w2:=fun h a=>lD (h:=h) (a:=a) p2
   rw [sn]
   clear hG hN hp k1 k2 hx
   dsimp! only [cH,cx,i1,g1,s1,w1,g2,s2,w2]
   exact ⟨_,rfl⟩
  ·obtain ⟨v4,rfl⟩:=hI
   have tt:N.ties.take (N.ties.map bx).length=N.ties:=by rw [List.length_map,List.take_length]
   rw [show (⟨[Vl.d (.lst (N.ties.map bx))],fun _=>True,N.ties.map bx⟩:Src).ds=N.ties.map bx from rfl,tt]
   dsimp! only []
end
section
variable {s:SD} {S:Sto} {sl:List (Option Vl)} {x y:D} {n l d:Nat} {N:ND} {q:Int×TD} {f:Int→Int} {is:List Int} {h:Str→Int} {z w:Str} {zs:List Str} {s1 s2:Str}
def costI (f:Int→Int) (ts:List (Int×TD)):Int:=(ts.map fun q=>q.2.price*f q.1).sum
def FlowBd (ts:List (Int×TD)) (f:Int→Int):Prop:=∀q∈ts,0≤f q.1∧f q.1≤1000*M60
theorem eq_strF {s:SD} (e:s1≠s2):eqK s (some (.str s1)) (some (.str s2))= .ok (.d (.bl false)) s:=by rw [my,decide_eq_false e]
theorem mw (hN:NetAt S n l d N) (h1:s1∈N.names) (h2:s2∈N.names) (h3:s1≠s2):goF dM [.cell n, .str s1, .str s2] ⟨sl,S⟩= .ok (.d .non) ⟨sl,S⟩:=by
 have k1:=fun sl=>eG (sl:=sl) hN h1
 have k2:=fun sl=>eG (sl:=sl) hN h2
 have q1:=hN.n
 have e1:=fun s:SD=>eq_strF (s:=s) h3
 refine ew ?_
 show Wp (iN ⟨[some (.d (.cell n)),some (.d (.str s1)),some (.d (.str s2))],S⟩) _ _
 unfold iN
 have d0:=decide_eq_false h3
 dsimp! only [k1,k2,q1,d0]
noncomputable def carD (h:Str→Int) (s1 s2:Str) (zs:List Str):D:=if∀z∈zs,h z=0∨z=s1∨z=s2 then .int (0 - h s1) else .non
theorem ky (hN:NetAt S n l d N) (hG:Good N) (hx:Hand S x (ah f is)) (hp:is.Perm (N.ties.map (·.1))) (hf:sE N.ties f) (h1:s1∈N.names) (h2:s2∈N.names) (h3:s1≠s2):goF bp [.cell n,x, .str s1, .str s2] ⟨sl,S⟩= .ok (.d (carD (sp f N.ties) s1 s2 N.names)) ⟨sl,S⟩:=by
 have k1:=fun sl=>rW (sl:=sl) hN hG hx hp
 have k2:=fun sl=>mr (sl:=sl) hN hG hx hp hf
 have k3:=fun sl=>mw (sl:=sl) hN h1 h2 h3
 generalize sp f N.ties=h at*
 refine ew ?_
 show Wp (gJ ⟨[some (.d (.cell n)),some (.d x),some (.d (.str s1)),some (.d (.str s2)),none,none,none],S⟩) _ _
 unfold gJ
 dsimp! only [k1,k2,k3]
 rw [ab]
 refine di (fun j s=>(∀z∈N.names.take j,h z=0∨z=s1∨z=s2)∧∃v5 v6,s=⟨[some (.d (.cell n)),some (.d x),some (.d (.str s1)),some (.d (.str s2)),some (.d (.dct (hV h N.names))),v5,v6],S⟩) Nl.d1 (fun _ _ _=>trivial) ⟨fun z hz=>by simp at hz,none,none,rfl⟩ (fun j y s e hI=>?_) (fun s hI=>?_)
 ·obtain ⟨hz,v5,v6,rfl⟩:=hI
  have e:(Wk.items.ds (hV h N.names))[j]? =some y:=e
  rw [qT,List.getElem?_map] at e
  obtain ⟨z,ez,rfl⟩:=Option.map_eq_some_iff.mp e
  have ht:N.names.take (j+1)=N.names.take j++ [z]:=by rw [List.take_succ,ez]; rfl
  have zm:=List.mem_of_getElem? ez
  have go:(h z=0∨z=s1∨z=s2)→∀z∈N.names.take (j+1),h z=0∨z=s1∨z=s2:=fun q w hw=>by
   rw [ht] at hw
   rcases List.mem_append.mp hw with hw | hw
   ·exact hz w hw
   ·rw [List.mem_singleton.mp hw]; exact q
  by_cases c1:h z=0
  ·have d1:=decide_eq_true c1
   dsimp! only [d1]
   exact ⟨go (.inl c1),_,_,rfl⟩
  ·have d1:=decide_eq_false c1
   by_cases c2:z=s1
   ·have d2:=decide_eq_true c2
    dsimp! only [d1,d2]
    exact ⟨go (.inr (.inl c2)),_,_,rfl⟩
   ·have d2:=decide_eq_false c2
    by_cases c3:z=s2
    ·have d3:=decide_eq_true c3
     dsimp! only [d1,d2,d3]
     exact ⟨go (.inr (.inr c3)),_,_,rfl⟩
    ·have d3:=decide_eq_false c3
     have cd:carD h s1 s2 N.names= .non:=if_neg fun q=>by
      rcases q z zm with q | q | q
      ·exact c1 q
      ·exact c2 q
      ·exact c3 q
     dsimp! only [d1,d2,d3,cd]
 ·obtain ⟨hz,v5,v6,rfl⟩:=hI
  have hl:(Wk.items.ds (hV h N.names)).length=N.names.length:=by rw [qT,List.length_map]
  have hz:∀z∈N.names.take (Wk.items.ds (hV h N.names)).length,h z=0∨z=s1∨z=s2:=hz
  rw [hl,List.take_length] at hz
  have cd:carD h s1 s2 N.names= .int (0 - h s1):=if_pos hz
  have i1:∀s:SD,ixK s (some (.dct (hV h N.names))) (some (.str s1))= .ok (.d (.int (h s1))) s:=fun s=>ao (str_at h1)
  dsimp! only [i1,cd]
end
end T

set_option maxHeartbeats 4000000
namespace T
open PySem PySem.Spec PyProof.Rows L2 M Z
open Classical
abbrev Tq:=Int×TD
noncomputable def jH (ts:List Tq) (f:Int→Int) (x:Str):Option Tq:=(ts.filter fun q=>decide (q.2.tail=x)).find? fun q=>decide (0<f q.1)
noncomputable def eH (ts:List Tq) (f:Int→Int) (names:List Str):Option Str:=names.find? fun z=>(jH ts f z).isSome
noncomputable def jG (ts:List Tq) (f:Int→Int) (tg:Option Str):Nat→List Tq→List Str→Str→Bool×List Tq
 | 0,road,_,_=>(true,road)
 | n+1,road,pre,y=>match jH ts f y with
  | none=>(true,road)
  | some q=>if q.2.head∈pre++ [y] then (true,(road++ [q]).drop ((pre++ [y]).idxOf q.2.head)) else if tg=some q.2.head then (false,road++ [q]) else jG ts f tg n (road++ [q]) (pre++ [y]) q.2.head
def Path:Str→List Tq→Str→Prop
 | x,[],y=>x=y
 | x,q::rs,y=>q.2.tail=x∧Path q.2.head rs y
def kP (f:Int→Int) (a:Int) (q:Tq):Int→Int:=fun i=>if i=q.1 then f q.1 - a else f i
def bC (f:Int→Int) (a:Int) (rs:List Tq):Int→Int:=rs.foldl (fun f q=>kP f a q) f
structure PartD where
 ring:Bool
 road:List Tq
 am:Int
def aA (f:Int→Int):List Tq→Int
 | []=>0
 | q::rs=>mnL (f q.1) (rs.map fun q=>f q.1)
noncomputable def cO (ts:List Tq) (names:List Str) (s t:Str):Nat→(Int→Int)→Int→List PartD
 | 0,_,_=> []
 | n+1,f,rest=>match (if 0<rest then some s else eH ts f names) with
  | none=> []
  | some x=>
   let r:=jG ts f (if 0<rest then some t else none) names.length [] [] x
   let a:=if r.1=true then aA f r.2 else if rest<aA f r.2 then rest else aA f r.2
   ⟨r.1,r.2,a⟩::cO ts names s t n (bC f a r.2) (if r.1=true then rest else rest - a)
section
variable {ts rs road:List Tq} {f g:Int→Int} {x y z t:Str} {q p:Tq} {a:Int} {names pre:List Str} {tg:Option Str} {n:Nat}
theorem jf:∀{rs:List Tq} {x:Str},Path x rs y→q.2.tail=y→Path x (rs++ [q]) q.2.head
 | [],_,h,e=>⟨e.trans (Eq.symm h),rfl⟩
 | _::_,_,⟨h1,h2⟩,e=>⟨h1,jf h2 e⟩
theorem lU:∀{rs:List Tq} {x:Str} (i:Nat) (hi:i<rs.length),Path x rs y→Path rs[i].2.tail (rs.drop i) y
 | q::rs,x,0,_,h=>⟨rfl,h.2⟩
 | q::rs,x,i+1,hi,h=>lU i (by simpa using hi) h.2
noncomputable def b1 (f:Int→Int) (x:Str) (q:Tq):Int:=(if q.2.head=x then f q.1 else 0) - (if q.2.tail=x then f q.1 else 0)
noncomputable def bal (f:Int→Int) (ts:List Tq) (x:Str):Int:=(ts.map (b1 f x)).sum
noncomputable def c1 (a:Int) (x:Str) (q:Tq):Int:=(if q.2.head=x then a else 0) - (if q.2.tail=x then a else 0)
theorem sA:∀{ts:List Tq},(∀q∈ts,f q.1=g q.1)→bal f ts x=bal g ts x
 | [],_=>rfl
 | q::ts,h=>by
  unfold bal
  rw [List.map_cons,List.map_cons,List.sum_cons,List.sum_cons]
  have e1:=sA fun q hq=>h q (List.mem_cons_of_mem _ hq)
  unfold bal at e1
  rw [e1]
  unfold b1
  rw [h q List.mem_cons_self]
theorem Ae:∀{ts:List Tq},(ts.map (·.1)).Nodup→q∈ts→bal (kP f a q) ts x=bal f ts x - c1 a x q
 | p::ts,nd,hq=>by
  rw [List.map_cons,List.nodup_cons] at nd
  unfold bal
  rw [List.map_cons,List.map_cons,List.sum_cons,List.sum_cons]
  rcases List.mem_cons.mp hq with rfl | hq
  ·have e1:bal (kP f a q) ts x=bal f ts x:=sA fun p hp=>by
    unfold kP
    rw [if_neg (fun e=>nd.1 (List.mem_map.mpr ⟨p,hp,e⟩))]
   unfold bal at e1
   rw [e1]
   unfold b1 c1 kP
   rw [if_pos rfl]
   split<;> split<;> omega
  ·have e1:=Ae nd.2 hq
   unfold bal at e1
   rw [e1]
   have e2:b1 (kP f a q) x p=b1 f x p:=by
    have ne:¬p.1=q.1:=fun e=>nd.1 (List.mem_map.mpr ⟨q,hq,e.symm⟩)
    unfold b1 kP
    simp only [if_neg ne]
   rw [e2]
   omega
theorem mK:∀{rs:List Tq} {f:Int→Int},(ts.map (·.1)).Nodup→(∀q∈rs,q∈ts)→bal (bC f a rs) ts x=bal f ts x - (rs.map (c1 a x)).sum
 | [],f,_,_=>by unfold bC; simp
 | q::rs,f,nd,h=>by
  have e1:=mK (f:=kP f a q) nd fun p hp=>h p (List.mem_cons_of_mem _ hp)
  rw [Ae nd (h q List.mem_cons_self)] at e1
  rw [List.map_cons,List.sum_cons]
  unfold bC at e1 ⊢
  rw [List.foldl_cons,e1]
  omega
theorem dw:∀{rs:List Tq} {x:Str},Path x rs y→(rs.map (c1 a z)).sum=(if y=z then a else 0) - (if x=z then a else 0)
 | [],x,h=>by cases h; simp
 | q::rs,x,h=>by
  rw [List.map_cons,List.sum_cons,dw h.2]
  unfold c1
  rw [h.1]
  omega
theorem jJ:∀{rs:List Tq} {f:Int→Int} {i:Int},i∉rs.map (·.1)→bC f a rs i=f i
 | [],_,_,_=>rfl
 | q::rs,f,i,h=>by
  rw [List.map_cons,List.mem_cons,not_or] at h
  show bC (kP f a q) a rs i=_
  rw [jJ h.2]
  unfold kP
  rw [if_neg h.1]
theorem kn:∀{rs:List Tq} {f:Int→Int} {i:Int},(rs.map (·.1)).Nodup→i∈rs.map (·.1)→bC f a rs i=f i - a
 | q::rs,f,i,nd,h=>by
  rw [List.map_cons,List.nodup_cons] at nd
  rw [List.map_cons,List.mem_cons] at h
  show bC (kP f a q) a rs i=_
  by_cases c:i=q.1
  ·rw [jJ (c ▸ nd.1)]
   unfold kP
   rw [if_pos c,c]
  ·rw [kn nd.2 (h.resolve_left c)]
   unfold kP
   rw [if_neg c]
theorem xR:∀{l:List Int},(∀v∈l,0≤v)→0≤l.sum
 | [],_=>Int.le_refl _
 | v::l,h=>by
  rw [List.sum_cons]
  have:=xR fun w hw=>h w (List.mem_cons_of_mem _ hw)
  have:=h v List.mem_cons_self
  omega
theorem lC:∀{l:List Int} {v:Int},(∀v∈l,0≤v)→v∈l→v≤l.sum
 | w::l,v,h,hv=>by
  rw [List.sum_cons]
  have h1:=xR fun w hw=>h w (List.mem_cons_of_mem _ hw)
  have h2:=h w List.mem_cons_self
  rcases List.mem_cons.mp hv with rfl | hv
  ·omega
  ·have:=lC (fun w hw=>h w (List.mem_cons_of_mem _ hw)) hv
   omega
theorem lA (hq:q∈ts) (e:q.2.tail=x) (h:0<f q.1):(jH ts f x).isSome=true:=by
 unfold jH
 rw [List.find?_isSome]
 exact ⟨q,List.mem_filter.mpr ⟨hq,decide_eq_true e⟩,decide_eq_true h⟩
theorem ou (h:jH ts f x=some q):q∈ts∧q.2.tail=x∧0<f q.1:=by
 unfold jH at h
 have h1:=List.mem_of_find?_eq_some h
 have h2:=List.find?_some h
 obtain ⟨h3,h4⟩:=List.mem_filter.mp h1
 exact ⟨h3,of_decide_eq_true h4,of_decide_eq_true h2⟩
theorem b1_nn (h:q.2.tail=x→f q.1≤0) (h0:0≤f q.1):0≤b1 f x q:=by
 unfold b1
 by_cases c:q.2.tail=x
 ·have:=h c
  rw [if_pos c]
  split<;> omega
 ·rw [if_neg c]
  split<;> omega
theorem out_of (nn:∀q∈ts,0≤f q.1) (h:bal f ts x<0):(jH ts f x).isSome=true:=by
 by_cases c:(jH ts f x).isSome=true
 ·exact c
 ·exfalso
  have:0≤bal f ts x:=xR fun v hv=>by
   obtain ⟨q,hq,rfl⟩:=List.mem_map.mp hv
   exact b1_nn (fun e=>by
    by_cases c2:0<f q.1
    ·exact (c (lA hq e c2)).elim
    ·omega) (nn q hq)
  omega
theorem out_in (nn:∀q∈ts,0≤f q.1) (hq:q∈ts) (hp:0<f q.1) (hn:q.2.tail≠q.2.head) (h:bal f ts q.2.head≤0):(jH ts f q.2.head).isSome=true:=by
 by_cases c:(jH ts f q.2.head).isSome=true
 ·exact c
 ·exfalso
  have h1:b1 f q.2.head q≤bal f ts q.2.head:=lC (fun v hv=>by
   obtain ⟨p,hp,rfl⟩:=List.mem_map.mp hv
   exact b1_nn (fun e=>by
    by_cases c2:0<f p.1
    ·exact (c (lA hp e c2)).elim
    ·omega) (nn p hp)) (List.mem_map.mpr ⟨q,hq,rfl⟩)
  unfold b1 at h1
  rw [if_pos rfl,if_neg hn] at h1
  omega
structure RoadOk (ts:List Tq) (f:Int→Int) (tg:Option Str) (x0:Str) (r:Bool×List Tq):Prop where
 ne:r.2≠ []
 mem:∀q∈r.2,q∈ts∧0<f q.1
 nd:(r.2.map (·.2.tail)).Nodup
 ring:r.1=true→∃x,Path x r.2 x
 way:r.1=false→∃t,tg=some t∧Path x0 r.2 t∧t∉r.2.map (·.2.tail)
structure WI (ts:List Tq) (f:Int→Int) (tg:Option Str) (names:List Str) (x0:Str) (n:Nat) (road:List Tq) (pre:List Str) (y:Str):Prop where
 p:Path x0 road y
 t:road.map (·.2.tail)=pre
 nd:(pre++ [y]).Nodup
 m:∀q∈road,q∈ts∧0<f q.1
 g:∀t,tg=some t→t∉pre++ [y]
 o:(jH ts f y).isSome=true
 z:∀z∈pre++ [y],z∈names
 l:names.length<n+pre.length+1
theorem WI.no {x0:Str} (h:WI ts f tg names x0 0 road pre y):False:=by
 have:=List.Nodup.length_le_of_subset h.nd (l₂:=names) fun z hz=>h.z z hz
 have hl:=h.l
 rw [List.length_append] at this
 simp only [List.length_cons,List.length_nil] at this
 omega
theorem WI.next {x0:Str} (h:WI ts f tg names x0 (n+1) road pre y) (hh:∀q∈ts,q.2.head∈names) (ho:∀q∈ts,0<f q.1→tg≠some q.2.head→(jH ts f q.2.head).isSome=true) (e:jH ts f y=some q) (c:q.2.head∉pre++ [y]) (c2:tg≠some q.2.head):
  WI ts f tg names x0 n (road++ [q]) (pre++ [y]) q.2.head:=by
 obtain ⟨q1,q2,q3⟩:=ou e
 refine ⟨jf h.p q2,by rw [List.map_append,h.t]; simp [q2], ?_,fun p hp=>?_,fun t e2 h2=>?_,ho q q1 q3 c2,fun z h2=>?_,by have:=h.l; rw [List.length_append]; simp only [List.length_cons,List.length_nil]; omega⟩
 ·rw [List.nodup_append]
  exact ⟨h.nd,by simp,fun a ha b hb e4=>c (by rw [←List.mem_singleton.mp hb,←e4]; exact ha)⟩
 ·rcases List.mem_append.mp hp with hp | hp
  ·exact h.m p hp
  ·rw [List.mem_singleton.mp hp]; exact ⟨q1,q3⟩
 ·rcases List.mem_append.mp h2 with h2 | h2
  ·exact h.g t e2 h2
  ·rw [List.mem_singleton.mp h2] at e2
   exact c2 e2
 ·rcases List.mem_append.mp h2 with h2 | h2
  ·exact h.z z h2
  ·rw [List.mem_singleton.mp h2]; exact hh q q1
theorem nX {x0:Str} (hh:∀q∈ts,q.2.head∈names) (ho:∀q∈ts,0<f q.1→tg≠some q.2.head→(jH ts f q.2.head).isSome=true):
  ∀(n:Nat) (road:List Tq) (pre:List Str) (y:Str),WI ts f tg names x0 n road pre y→RoadOk ts f tg x0 (jG ts f tg n road pre y)
 | 0,road,pre,y,h=>h.no.elim
 | n+1,road,pre,y,h=>by
  obtain ⟨q,e⟩:=Option.isSome_iff_exists.mp h.o
  obtain ⟨q1,q2,q3⟩:=ou e
  have hp2:=jf h.p q2
  have ht2:(road++ [q]).map (·.2.tail)=pre++ [y]:=by rw [List.map_append,h.t]; simp [q2]
  have hm2:∀p∈road++ [q],p∈ts∧0<f p.1:=fun p hp=>by
   rcases List.mem_append.mp hp with hp | hp
   ·exact h.m p hp
   ·rw [List.mem_singleton.mp hp]; exact ⟨q1,q3⟩
  have hl2:(road++ [q]).length=(pre++ [y]).length:=by rw [←ht2,List.length_map]
  unfold jG
  rw [e]
  dsimp only
  split
  ·rename_i c
   have hi:(pre++ [y]).idxOf q.2.head<(pre++ [y]).length:=List.idxOf_lt_length_of_mem c
   have hi2:(pre++ [y]).idxOf q.2.head<(road++ [q]).length:=by rw [hl2]; exact hi
   have e3:(road++ [q])[(pre++ [y]).idxOf q.2.head].2.tail=q.2.head:=by
    have h1:=List.getElem_idxOf hi
    have h2:((road++ [q]).map (·.2.tail))[(pre++ [y]).idxOf q.2.head]'(by rw [List.length_map]; exact hi2)=q.2.head:=by
     simp only [ht2]
     exact h1
    rw [List.getElem_map] at h2
    exact h2
   have hd:=lU _ hi2 hp2
   rw [e3] at hd
   refine ⟨?_,fun p hp=>hm2 p (List.mem_of_mem_drop hp), ?_,fun _=>⟨_,hd⟩,(fun h=>nomatch h)⟩
   ·intro h0
    have:=congrArg List.length h0
    rw [List.length_drop] at this
    simp only [List.length_nil] at this
    omega
   ·show ((List.drop _ (road++ [q])).map _).Nodup
    rw [List.map_drop,ht2]
    exact h.nd.sublist (List.drop_sublist _ _)
  ·rename_i c
   split
   ·rename_i c2
    refine ⟨by simp,hm2,by rw [ht2]; exact h.nd,(fun h=>nomatch h),fun _=>⟨_,c2,hp2, ?_⟩⟩
    rw [ht2]
    exact h.g _ c2
   ·rename_i c2
    exact nX hh ho n (road++ [q]) (pre++ [y]) q.2.head (h.next hh ho e c c2)
end
structure InvF (ts:List Tq) (s t:Str) (f:Int→Int) (rest:Int):Prop where
 nn:∀q∈ts,0≤f q.1
 r0:0≤rest
 b:∀x,bal f ts x=(if x=t then rest else 0) - (if x=s then rest else 0)
structure PartOk (ts:List Tq) (s t:Str) (p:PartD):Prop where
 ne:p.road≠ []
 mem:∀q∈p.road,q∈ts
 nd:(p.road.map (·.2.tail)).Nodup
 a1:1≤p.am
 rg:p.ring=true→∃x,Path x p.road x
 way:p.ring=false→Path s p.road t∧t∉p.road.map (·.2.tail)
noncomputable def eM (f:Int→Int) (ts:List Tq):Nat:=ts.countP fun q=>decide (0<f q.1)
noncomputable def cQ (i:Int) (p:PartD):Int:=if i∈p.road.map (·.1) then p.am else 0
def qO (p:PartD):Int:=if p.ring=true then 0 else p.am
section
variable {ts rs:List Tq} {f g:Int→Int} {x z s t:Str} {q p:Tq} {a rest:Int} {names:List Str} {n:Nat}
theorem yw (h:∀q∈ts,0<g q.1→0<f q.1):eM g ts≤eM f ts:=List.countP_mono_left fun q hq e=>decide_eq_true (h q hq (of_decide_eq_true e))
theorem yv:∀{ts:List Tq},(∀q∈ts,0<g q.1→0<f q.1)→q∈ts→0<f q.1→¬0<g q.1→eM g ts<eM f ts
 | p::ts,h,hq,h1,h2=>by
  have hle:=yw (f:=f) (g:=g) fun q hq=>h q (List.mem_cons_of_mem _ hq)
  unfold eM at hle ⊢
  rw [List.countP_cons,List.countP_cons]
  rcases List.mem_cons.mp hq with rfl | hq
  ·rw [if_neg (by simpa using h2),if_pos (by simpa using h1)]
   omega
  ·have:=yv (fun q hq=>h q (List.mem_cons_of_mem _ hq)) hq h1 h2
   unfold eM at this
   have h3:=h p List.mem_cons_self
   by_cases c:0<g p.1
   ·rw [if_pos (by simpa using c),if_pos (by simpa using h3 c)]; omega
   ·rw [if_neg (by simpa using c)]; omega
theorem AZ (h:¬∃q∈ts,0<f q.1):eM f ts=0:=List.countP_eq_zero.mpr fun q hq e=>h ⟨q,hq,of_decide_eq_true e⟩
theorem A1 (h:eM f ts=0) (hq:q∈ts):¬0<f q.1:=fun e=>List.countP_eq_zero.mp h q hq (decide_eq_true e)
theorem jc (hr:qI ts) (hm:∀q∈rs,q∈ts) (nd:(rs.map (·.2.tail)).Nodup):(rs.map (·.1)).Nodup:=by
 refine List.pairwise_map.mpr (List.Pairwise.imp_of_mem (fun {a b} ha hb h e=>h ?_) (List.pairwise_map.mp nd))
 have h1:=bj hr (hm a ha)
 have h2:=bj hr (hm b hb)
 rw [e] at h1
 rw [Option.some.inj (h1.symm.trans h2)]
theorem AL (hm:∀q∈rs,q∈ts∧0<f q.1) (nd:(rs.map (·.2.tail)).Nodup):rs.length≤eM f ts:=by
 unfold eM
 rw [List.countP_eq_length_filter]
 have nd2:rs.Nodup:=(List.pairwise_map.mp nd).imp fun h e=>h (by rw [e])
 exact List.Nodup.length_le_of_subset nd2 fun q hq=>List.mem_filter.mpr ⟨(hm q hq).1,decide_eq_true (hm q hq).2⟩
theorem vJ:∀{rs:List Tq},q∈rs→aA f rs≤f q.1
 | p::rs,h=>by
  have h1:=mnL_le (rs.map fun q=>f q.1) (f p.1)
  rcases List.mem_cons.mp h with rfl | h
  ·exact h1.1
  ·exact h1.2 _ (List.mem_map.mpr ⟨q,h,rfl⟩)
theorem rN:∀{rs:List Tq},rs≠ []→∃q∈rs,aA f rs=f q.1
 | p::rs,_=>by
  rcases mnL_mem (rs.map fun q=>f q.1) (f p.1) with h | h
  ·exact ⟨p,List.mem_cons_self,h⟩
  ·obtain ⟨q,hq,e⟩:=List.mem_map.mp h
   exact ⟨q,List.mem_cons_of_mem _ hq,e.symm⟩
theorem cW {v:Int}:(if x=z then v else 0)=(if z=x then v else 0):=by
 by_cases c:z=x
 ·rw [if_pos c,if_pos c.symm]
 ·rw [if_neg c,if_neg (fun e=>c e.symm)]
theorem AN (hn:∀q∈rs,q.2.tail≠q.2.head) (ne:rs≠ []) (h:Path x rs x):2≤rs.length:=by
 match rs,ne,h with
 | [q],_,h=>
  have h2:q.2.head=x:=h.2
  exact (hn q List.mem_cons_self (h.1.trans h2.symm)).elim
 | _::_::_,_,_=>exact Nat.le_add_left _ _
theorem vq (I:InvF ts s t f rest) (hst:s≠t) (hs:s∈names) (e:(if 0<rest then some s else eH ts f names)=some x):(jH ts f x).isSome=true∧x∈names∧(0<rest→x=s):=by
 by_cases c:0<rest
 ·rw [if_pos c] at e
  cases e
  refine ⟨out_of I.nn ?_,hs,fun _=>rfl⟩
  have:=I.b x
  rw [if_pos rfl] at this
  rw [if_neg hst] at this
  omega
 ·rw [if_neg c] at e
  exact ⟨List.find?_some (p:=fun z=>(jH ts f z).isSome) e,List.mem_of_find?_eq_some e,fun h=>(c h).elim⟩
theorem wt (I:InvF ts s t f rest) (hp:∀q∈ts,q.2.tail∈names) (e:(if 0<rest then some s else eH ts f names)=none):rest=0∧eM f ts=0:=by
 by_cases c:0<rest
 ·rw [if_pos c] at e; cases e
 ·rw [if_neg c] at e
  refine ⟨by have:=I.r0; omega,AZ fun ⟨q,hq,h⟩=>?_⟩
  have h1:=List.find?_eq_none.mp e q.2.tail (hp q hq)
  exact h1 (lA hq rfl h)
theorem nr (I:InvF ts s t f rest) (hn:∀q∈ts,q.2.tail≠q.2.head) (hst:s≠t) (h1:(jH ts f x).isSome=true) (h2:x∈names) (h3:0<rest→x=s):
  WI ts f (if 0<rest then some t else none) names x names.length [] [] x∧∀q∈ts,0<f q.1→(if 0<rest then some t else none)≠some q.2.head→(jH ts f q.2.head).isSome=true:=by
 refine ⟨⟨rfl,rfl,by simp,fun q hq=>(by cases hq),fun t' e2 h4=>?_,h1,fun z hz=>by rw [List.mem_singleton.mp hz]; exact h2,by simp⟩,fun q hq hp ht=>out_in I.nn hq hp (hn q hq) ?_⟩
 ·by_cases c:0<rest
  ·rw [if_pos c] at e2
   cases e2
   have:=List.mem_singleton.mp h4
   rw [h3 c] at this
   exact hst this.symm
  ·rw [if_neg c] at e2; cases e2
 ·rw [I.b]
  by_cases c:0<rest
  ·rw [if_pos c] at ht
   rw [if_neg (fun e=>ht (by rw [e]))]
   split<;> omega
  ·have:=I.r0
   split<;> split<;> omega
theorem nu (h:eM f ts=0) (nn:∀q∈ts,0≤f q.1):∀q∈ts,f q.1=0:=fun q hq=>by
 have h1:=A1 h hq
 have h2:=nn q hq
 omega
theorem wj (hr:qI ts) (hh:∀q∈ts,q.2.tail∈names∧q.2.head∈names∧q.2.tail≠q.2.head) (hs:s∈names) (hst:s≠t):∀(n:Nat) (f:Int→Int) (rest:Int),InvF ts s t f rest→eM f ts+(if 0<rest then 1 else 0)≤n→
  (∀p∈cO ts names s t n f rest,PartOk ts s t p)∧(∀q∈ts,f q.1=((cO ts names s t n f rest).map (cQ q.1)).sum)∧rest=((cO ts names s t n f rest).map qO).sum∧(cO ts names s t n f rest).length≤eM f ts∧
   (rest=0→1≤eM f ts→(cO ts names s t n f rest).length+1≤eM f ts)
 | 0,f,rest,I,h=>by
  have h0:eM f ts=0:=by omega
  have h1:rest=0:=by
   have:=I.r0
   by_cases c:0<rest
   ·rw [if_pos c] at h; omega
   ·omega
  unfold cO
  refine ⟨fun p hp=>(by cases hp),fun q hq=>?_,h1,Nat.zero_le _,fun _ h=>by omega⟩
  rw [nu h0 I.nn q hq]
  rfl
 | n+1,f,rest,I,h=>by
  unfold cO
  cases e:(if 0<rest then some s else eH ts f names) with
  | none=>
   obtain ⟨h1,h0⟩:=wt I (fun q hq=>(hh q hq).1) e
   dsimp only
   refine ⟨fun p hp=>(by cases hp),fun q hq=>?_,h1,Nat.zero_le _,fun _ h=>by omega⟩
   rw [nu h0 I.nn q hq]
   rfl
  | some x=>
   obtain ⟨h1,h2,h3⟩:=vq I hst hs e
   obtain ⟨W,ho⟩:=nr (names:=names) I (fun q hq=>(hh q hq).2.2) hst h1 h2 h3
   have R:RoadOk ts f (if 0<rest then some t else none) x (jG ts f (if 0<rest then some t else none) names.length [] [] x):=nX (fun q hq=>(hh q hq).2.1) ho _ [] [] x W
   dsimp only
   generalize jG ts f (if 0<rest then some t else none) names.length [] [] x=r at R
   obtain ⟨rg,rd⟩:=r
   have ne:rd≠ []:=R.ne
   have mem:∀q∈rd,q∈ts∧0<f q.1:=R.mem
   have nd:(rd.map (·.2.tail)).Nodup:=R.nd
   have nf:=jc hr (fun q hq=>(mem q hq).1) nd
   obtain ⟨ql,hql,el⟩:=rN (f:=f) ne
   have l1:1≤aA f rd:=by rw [el]; exact (mem ql hql).2
   have tn:(ts.map (·.1)).Nodup:=List.Pairwise.imp (fun h e=>by omega) hr
   have r0:=I.r0
   -- the facts of one turn,whatever is taken
   have turn:∀(a rest' :Int) (rg' :Bool),1≤a→a≤aA f rd→0≤rest'→(rest'≤rest)→(∀z,(if z=t then rest else 0) - (if z=s then rest else 0) - (rd.map (c1 a z)).sum=(if z=t then rest' else 0) - (if z=s then rest' else 0))→PartOk ts s t ⟨rg',rd,a⟩→rest=qO ⟨rg',rd,a⟩+rest'→(a=aA f rd∨(0<rest∧rest' =0))→(rg' =true→2≤rd.length)→(rest=0→rg' =true)→
     (∀p∈(⟨rg',rd,a⟩:PartD)::cO ts names s t n (bC f a rd) rest',PartOk ts s t p)∧(∀q∈ts,f q.1=(((⟨rg',rd,a⟩:PartD)::cO ts names s t n (bC f a rd) rest').map (cQ q.1)).sum)∧rest=(((⟨rg',rd,a⟩:PartD)::cO ts names s t n (bC f a rd) rest').map qO).sum∧((⟨rg',rd,a⟩:PartD)::cO ts names s t n (bC f a rd) rest').length≤eM f ts∧
      (rest=0→1≤eM f ts→((⟨rg',rd,a⟩:PartD)::cO ts names s t n (bC f a rd) rest').length+1≤eM f ts):=by
    intro a rest' rg' a1 al r1 r2 hb ok hrest hcase hr2 hr3
    have hle:∀q∈ts,bC f a rd q.1≤f q.1∧0≤bC f a rd q.1∧f q.1=cQ q.1 ⟨rg',rd,a⟩+bC f a rd q.1:=fun q hq=>by
     by_cases c:q.1∈rd.map (·.1)
     ·obtain ⟨p,hp,e⟩:=List.mem_map.mp c
      have:=vJ (f:=f) hp
      rw [e] at this
      have hsh:cQ q.1 ⟨rg',rd,a⟩=a:=if_pos c
      rw [hsh,kn nf c]
      omega
     ·have:=I.nn q hq
      have hsh:cQ q.1 ⟨rg',rd,a⟩=0:=if_neg c
      rw [hsh,jJ c]
      omega
    have I' :InvF ts s t (bC f a rd) rest' :=⟨fun q hq=>(hle q hq).2.1,r1,fun z=>by rw [mK tn (fun q hq=>(mem q hq).1),I.b,hb]⟩
    have pl:eM (bC f a rd) ts≤eM f ts:=yw fun q hq h=>by have:=(hle q hq).1; omega
    have p1:rd.length≤eM f ts:=AL mem nd
    have zero:a=aA f rd→eM (bC f a rd) ts<eM f ts:=fun ea=>by
     refine yv (fun q hq h=>by have:=(hle q hq).1; omega) (mem ql hql).1 (mem ql hql).2 ?_
     rw [kn nf (List.mem_map.mpr ⟨ql,hql,rfl⟩)]
     omega
    have lr:1≤rd.length:=List.length_pos_iff.mpr ne
    have hn:eM (bC f a rd) ts+(if 0<rest' then 1 else 0)≤n:=by
     rcases hcase with c | ⟨c1,c2⟩
     ·have:=zero c
      by_cases c3:0<rest'
      ·rw [if_pos c3]
       rw [if_pos (by omega)] at h
       omega
      ·rw [if_neg c3]; omega
     ·rw [if_neg (by omega)]
      rw [if_pos c1] at h
      omega
    obtain ⟨g1,g2,g3,g4,g5⟩:=wj hr hh hs hst n (bC f a rd) rest' I' hn
    refine ⟨fun p hp=>?_,fun q hq=>?_, ?_, ?_,fun hz _=>?_⟩
    ·rcases List.mem_cons.mp hp with rfl | hp
     ·exact ok
     ·exact g1 p hp
    ·rw [List.map_cons,List.sum_cons,←g2 q hq]
     exact (hle q hq).2.2
    ·rw [List.map_cons,List.sum_cons,←g3]
     exact hrest
    ·rw [List.length_cons]
     by_cases ca:a=aA f rd
     ·have:=zero ca
      omega
     ·obtain ⟨c1,c2⟩:=hcase.resolve_left ca
      have p2:1≤eM (bC f a rd) ts:=by
       have:0<eM (bC f a rd) ts:=List.countP_pos_iff.mpr ⟨ql,(mem ql hql).1,decide_eq_true (by
        rw [kn nf (List.mem_map.mpr ⟨ql,hql,rfl⟩),←el]
        omega)⟩
       exact this
      have:=g5 c2 p2
      omega
    ·rw [List.length_cons]
     have ca:a=aA f rd:=hcase.resolve_right fun c=>by omega
     have h5:=zero ca
     have h6:rest' =0:=by omega
     have h7:=hr2 (hr3 hz)
     by_cases c8:1≤eM (bC f a rd) ts
     ·have:=g5 h6 c8
      omega
     ·omega
   cases rg with
   | true=>
    obtain ⟨x1,hx1⟩:=R.ring rfl
    have hx1:Path x1 rd x1:=hx1
    simp only [if_true]
    refine turn (aA f rd) rest true l1 (Int.le_refl _) r0 (Int.le_refl _) (fun z=>?_) ⟨ne,fun q hq=>(mem q hq).1,nd,l1,fun _=>⟨x1,hx1⟩,(fun h=>nomatch h)⟩ (by unfold qO; simp) (.inl rfl) (fun _=>AN (fun q hq=>(hh q (mem q hq).1).2.2) ne hx1) (fun _=>rfl)
    rw [dw hx1]
    omega
   | false=>
    obtain ⟨t',ht,hp,hnt⟩:=R.way rfl
    have c:0<rest:=by
     by_cases c:0<rest
     ·exact c
     ·rw [if_neg c] at ht; cases ht
    rw [if_pos c] at ht
    cases ht
    have hp:Path x rd t:=hp
    rw [h3 c] at hp
    simp only [Bool.false_eq_true,if_false]
    by_cases c2:rest<aA f rd
    ·rw [if_pos c2]
     refine turn rest (rest - rest) false (by omega) (by omega) (by omega) (by omega) (fun z=>?_) ⟨ne,fun q hq=>(mem q hq).1,nd,by show 1≤rest; omega,(fun h=>nomatch h),fun _=>⟨hp,hnt⟩⟩ (by unfold qO; simp) (.inr ⟨c,by omega⟩) (fun h=>nomatch h) (fun h=>by omega)
     rw [dw hp]
     rw [cW (x:=t),cW (x:=s)]
     split<;> split<;> omega
    ·rw [if_neg c2]
     refine turn (aA f rd) (rest - aA f rd) false l1 (Int.le_refl _) (by omega) (by omega) (fun z=>?_) ⟨ne,fun q hq=>(mem q hq).1,nd,l1,(fun h=>nomatch h),fun _=>⟨hp,hnt⟩⟩ (by unfold qO; simp; omega) (.inl rfl) (fun h=>nomatch h) (fun h=>by omega)
     rw [dw hp]
     rw [cW (x:=t),cW (x:=s)]
     split<;> split<;> omega
theorem step_ok {x0:Str} {rg:Bool} {rd:List Tq} {am rest' :Int} (hr:qI ts) (hst:s≠t) (I:InvF ts s t f rest) (R:RoadOk ts f (if 0<rest then some t else none) x0 (rg,rd)) (h3:0<rest→x0=s)
  (ea:am=(if rg=true then aA f rd else if rest<aA f rd then rest else aA f rd)) (er:rest' =(if rg=true then rest else rest - am)):
  InvF ts s t (bC f am rd) rest'∧eM (bC f am rd) ts+(if 0<rest' then 1 else 0)<eM f ts+(if 0<rest then 1 else 0):=by
 have ne:rd≠ []:=R.ne
 have mem:∀q∈rd,q∈ts∧0<f q.1:=R.mem
 have nf:=jc hr (fun q hq=>(mem q hq).1) R.nd
 obtain ⟨ql,hql,el⟩:=rN (f:=f) ne
 have l1:1≤aA f rd:=by rw [el]; exact (mem ql hql).2
 have tn:(ts.map (·.1)).Nodup:=List.Pairwise.imp (fun h e=>by omega) hr
 have r0:=I.r0
 have key:1≤am∧am≤aA f rd∧0≤rest'∧rest'≤rest∧(am=aA f rd∨(0<rest∧rest' =0))∧∀z,(if z=t then rest else 0) - (if z=s then rest else 0) - (rd.map (c1 am z)).sum=(if z=t then rest' else 0) - (if z=s then rest' else 0):=by
  cases rg with
  | true=>
   obtain ⟨x1,hx1⟩:=R.ring rfl
   rw [if_pos rfl] at ea er
   refine ⟨by omega,by omega,by omega,by omega, .inl ea,fun z=>?_⟩
   rw [dw (show Path x1 rd x1 from hx1),er]
   omega
  | false=>
   obtain ⟨t',ht,hp,hnt⟩:=R.way rfl
   have c:0<rest:=by
    by_cases c:0<rest
    ·exact c
    ·rw [if_neg c] at ht; cases ht
   rw [if_pos c] at ht
   cases ht
   have hp:Path x0 rd t:=hp
   rw [h3 c] at hp
   rw [if_neg (by simp)] at ea er
   have e2:∀z,(if z=t then rest else 0) - (if z=s then rest else 0) - (rd.map (c1 am z)).sum=(if z=t then rest' else 0) - (if z=s then rest' else 0):=fun z=>by
    rw [dw hp,cW (x:=t),cW (x:=s),er]
    split<;> split<;> omega
   by_cases c2:rest<aA f rd
   ·rw [if_pos c2] at ea
    exact ⟨by omega,by omega,by omega,by omega, .inr ⟨c,by omega⟩,e2⟩
   ·rw [if_neg c2] at ea
    exact ⟨by omega,by omega,by omega,by omega, .inl ea,e2⟩
 obtain ⟨a1,al,r1,r2,hcase,hb⟩:=key
 have hle:∀q∈ts,bC f am rd q.1≤f q.1∧0≤bC f am rd q.1:=fun q hq=>by
  by_cases c:q.1∈rd.map (·.1)
  ·obtain ⟨p,hp,e⟩:=List.mem_map.mp c
   have:=vJ (f:=f) hp
   rw [e] at this
   rw [kn nf c]
   omega
  ·have:=I.nn q hq
   rw [jJ c]
   omega
 have pl:eM (bC f am rd) ts≤eM f ts:=yw fun q hq h=>by have:=(hle q hq).1; omega
 refine ⟨⟨fun q hq=>(hle q hq).2,r1,fun z=>by rw [mK tn (fun q hq=>(mem q hq).1),I.b,hb]⟩, ?_⟩
 rcases hcase with c | ⟨c1,c2⟩
 ·have:eM (bC f am rd) ts<eM f ts:=yv (fun q hq h=>by have:=(hle q hq).1; omega) (mem ql hql).1 (mem ql hql).2 (by
   rw [kn nf (List.mem_map.mpr ⟨ql,hql,rfl⟩)]
   omega)
  by_cases c3:0<rest'
  ·rw [if_pos c3,if_pos (by omega)]; omega
  ·rw [if_neg c3]; omega
 ·rw [if_neg (by omega),if_pos c1]; omega
theorem A0 (h:(jH ts f x).isSome=true):1≤eM f ts:=by
 obtain ⟨q,e⟩:=Option.isSome_iff_exists.mp h
 obtain ⟨h1,_,h2⟩:=ou e
 exact List.countP_pos_iff.mpr ⟨q,h1,decide_eq_true h2⟩
theorem tU:eM f ts≤ts.length:=List.countP_le_length
end
end T

set_option maxHeartbeats 4000000
namespace T
open PySem PySem.Spec PyProof.Rows L2 M Z A
open Classical
section
variable {s:SD} {S S' S1:Sto} {sl:List (Option Vl)} {x y:D} {n l d b j a:Nat} {N:ND} {is:List Int} {names:List Str} {ts:List Tq} {z w:Str} {q:Tq} {h:Str→D} {zs:List Str}
noncomputable def ixdK (s:SD):Option D→Option D→R Vl
 | some (.lst ds),some x=>match scs ds,x.sc with
  | some vs,some v=>match vs.findIdx? (fun z=>eqV z v) with
   | some j=> .ok (.d (.int (j:Nat))) s
   | none=> .bad
  | _,_=> .bad
 | _,_=> .bad
theorem w_index {a b:Vl}:kq a b s=ixdK s (s.cont a) (s.cont b):=by
 unfold kq ixdK
 rfl
theorem vW (w:Str):∀l:List Str,w∈l→(l.map V.str).findIdx? (fun z=>eqV z (.str w))=some (l.idxOf w)
 | [],h=>by cases h
 | y::l,h=>by
  rw [List.map_cons,List.findIdx?_cons,List.idxOf_cons]
  have e:eqV (V.str y) (V.str w)=(y == w):=rfl
  rw [e]
  by_cases c:y=w
  ·have:(y == w)=true:=by rw [beq_iff_eq]; exact c
   rw [this]; rfl
  ·have c2:(y == w)=false:=by rw [beq_eq_false_iff_ne]; exact c
   rw [c2,vW w l (by rcases List.mem_cons.mp h with e | h; exact absurd e.symm c; exact h)]
   rfl
theorem idx_str {l:List Str} {z:Str} (h:z∈l):∀s:SD,ixdK s (some (.lst (l.map .str))) (some (.str z))= .ok (.d (.int (l.idxOf z:Int))) s:=fun s=>by
 unfold ixdK
 simp only [oH,D.sc,vW z l h]
theorem idx_lt {l:List Str} {z:Str} (h:z∈l):l.idxOf z<l.length:=List.idxOf_lt_length_of_mem h
theorem idx_ne {l:List Str} {y z:Str} (h:y∈l) (h2:z∈l) (hn:y≠z):l.idxOf y≠l.idxOf z:=fun e=>hn (by
 have h3:=List.getElem_idxOf (idx_lt h)
 have h4:=List.getElem_idxOf (idx_lt h2)
 rw [←h3,←h4]
 congr 1)
def sD (h:Str→D) (zs:List Str):List (Key×D):=zs.map fun z=>(.inr z,h z)
theorem sD_at:∀{zs:List Str},z∈zs→eN (sD h zs) (.inr z)=some (h z)
 | w::zs,e=>by
  unfold sD eN
  rw [List.map_cons]
  by_cases c:w=z
  ·subst c
   rw [List.find?_cons_of_pos (by simp)]
   rfl
  ·rw [List.find?_cons_of_neg (by simp [c])]
   have:=sD_at (zs:=zs) ((List.mem_cons.mp e).resolve_left fun e=>c e.symm)
   unfold sD eN at this
   exact this
theorem sD_app (e:z∉zs):kL (sD h zs) (.inr z) (h z)=sD h (zs++ [z]):=by
 unfold kL
 rw [if_neg ?_]
 ·unfold sD
  rw [List.map_append]
  rfl
 ·rw [List.any_eq_true]
  rintro ⟨kv,h1,h2⟩
  unfold sD at h1
  obtain ⟨w,hw,rfl⟩:=List.mem_map.mp h1
  have:(Sum.inr w:Key)= .inr z:=of_decide_eq_true h2
  cases this
  exact e hw
theorem yf:Wk.keys.ds (sD h zs)=zs.map D.str:=by
 show (sD h zs).map (fun kv=>jl kv.1)=_
 unfold sD
 rw [List.map_map]
 rfl
theorem sD_len:(sD h zs).length=zs.length:=by unfold sD; simp
theorem AD {names:List Str} (nd:names.Nodup) (e:names[j]? =some z):names.take (j+1)=names.take j++ [z]∧z∉names.take j∧names.idxOf z=j:=by
 obtain ⟨hj,ez⟩:=List.getElem?_eq_some_iff.mp e
 have ht:names.take (j+1)=names.take j++ [z]:=by rw [List.take_succ,e]; rfl
 refine ⟨ht,fun hz=>?_,by rw [←ez]; exact List.Nodup.idxOf_getElem nd j hj⟩
 have nd2:=nd
 rw [←List.take_append_drop (j+1) names,ht] at nd2
 exact (List.nodup_append.mp (List.nodup_append.mp nd2).1).2.2 z hz z (by simp) rfl
def oC (b:Nat) (names:List Str) (z:Str):D:= .cell (b+names.idxOf z)
def Au (ts:List Tq) (z:Str):List Tq:=ts.filter fun q=>decide (q.2.tail=z)
structure OutsAt (S:Sto) (b:Nat) (names:List Str) (ts:List Tq):Prop where
 at_:∀z∈names,S.get (b+names.idxOf z)=some (.lst ((Au ts z).map bx))
 nx:b+names.length≤S.nx
theorem OutsAt.ext (O:OutsAt S b names ts) (E:Ext S S'):OutsAt S' b names ts:=⟨fun z hz=>(E.get _ (by
 have:=List.idxOf_lt_length_of_mem hz
 have:=O.nx
 omega)).trans (O.at_ z hz),Nat.le_trans O.nx E.nx⟩
theorem NetAt.extN (h:NetAt S n l d N) (E:Ext S S') (h1:n<S.nx) (h2:l<S.nx) (h3:d<S.nx):NetAt S' n l d N:=⟨(E.get _ h1).trans h.n,(E.get _ h2).trans h.l,(E.get _ h3).trans h.d⟩
abbrev otS (n:Nat) (K:List (Key×D)) (v2 v3:Option Vl) (S:Sto):SD:=⟨[some (.d (.cell n)),some (.own (.dct K)),v2,v3],S⟩
theorem zc (hN:NetAt S n l d N) (hG:Good N) (h1:n<S.nx) (h2:l<S.nx) (h3:d<S.nx):
  ∃S',Ext S S'∧S'.nx=S.nx+N.names.length∧OutsAt S' S.nx N.names N.ties∧∀sl,goF iU [.cell n] ⟨sl,S⟩= .ok (.own (.dct (sD (oC S.nx N.names) N.names))) ⟨sl,S'⟩:=by
 have q1:=hN.n
 have k2:=fun sl=>vR (sl:=sl) hN
 have nl:=hG.nl
 have key:Wp (jt ⟨[some (.d (.cell n)),none,none,none],S⟩) (fun fl s' =>flv fl=some (.own (.dct (sD (oC S.nx N.names) N.names)))∧Ext S s'.st∧s'.st.nx=S.nx+N.names.length∧OutsAt s'.st S.nx N.names N.ties) XF:=by
  unfold jt
  dsimp! only [k2,q1]
  rw [ab]
  refine di (fun j s=>∃v2 S1,s=otS n (sD (oC S.nx N.names) (N.names.take j)) v2 none S1∧S1.nx=S.nx+j∧j≤N.names.length∧Ext S S1∧∀i,i<j→S1.get (S.nx+i)=some (.lst [])) Nl.d1 (fun _ _ _=>trivial) ⟨none,S,rfl,rfl,Nat.zero_le _,Ext.refl,fun i hi=>by omega⟩ (fun j y s e hI=>?_) (fun s hI=>?_)
  ·obtain ⟨v2,S1,rfl,n1,n2,E1,c1⟩:=hI
   have e:(N.names.map D.str)[j]? =some y:=e
   rw [List.getElem?_map] at e
   obtain ⟨z,ez,rfl⟩:=Option.map_eq_some_iff.mp e
   obtain ⟨ht,ni,ix⟩:=AD hG.nd ez
   have hj:j<N.names.length:=(List.getElem?_eq_some_iff.mp ez).1
   have ap:=sD_app (h:=oC S.nx N.names) ni
   have ec:D.cell S1.nx=oC S.nx N.names z:=by unfold oC; rw [ix,n1]
   have sz:((sD (oC S.nx N.names) (N.names.take j)).length<sizeLine)=True:=eq_true (by rw [sD_len,List.length_take,sizeLine_eq]; omega)
   have sp:=fun (s:SD) (o:Vl) (v:D)=>bT (a:=o) (x:=v) (s:=s) (k:= .inr z) (z:= .str z) (ks:=sD (oC S.nx N.names) (N.names.take j)) rfl (of_eq_true sz)
   dsimp! only [sp]
   rw [ec,ap,←ht]
   refine ⟨_,_,rfl,by show S1.nx+1=_; omega,by omega,E1.trans Ext.new,fun i hi=>?_⟩
   by_cases c:i=j
   ·rw [c,←n1]; exact gw
   ·rw [yJ (by omega)]; exact c1 i (by omega)
  ·obtain ⟨v2,S1,rfl,n1,n2,E1,c1⟩:=hI
   have n1:S1.nx=S.nx+N.names.length:=by rw [n1]; show S.nx+(N.names.map D.str).length=_; rw [List.length_map]
   have c1:∀i,i<N.names.length→S1.get (S.nx+i)=some (.lst []):=fun i hi=>c1 i (by show i<(N.names.map D.str).length; rw [List.length_map]; exact hi)
   have hN1:=hN.extN E1 h1 h2 h3
   have k1:=fun sl=>vQ (sl:=sl) hN1 hG.rise hG.tl
   have q1:=hN1.n
   have tk:N.names.take (List.length (N.names.map D.str))=N.names:=by rw [List.length_map,List.take_length]
   have tk2:otS n (sD (oC S.nx N.names) (N.names.take (Src.ds ⟨[.own (.lst (N.names.map D.str))],fun _=>True,N.names.map D.str⟩).length)) v2 none S1=otS n (sD (oC S.nx N.names) N.names) v2 none S1:=by rw [tk]
   dsimp! only [tk,k1,q1]
   rw [ab]
   refine di (fun j s=>∃v3 S2,s=otS n (sD (oC S.nx N.names) N.names) v2 v3 S2∧S2.nx=S.nx+N.names.length∧Ext S S2∧∀z∈N.names,S2.get (S.nx+N.names.idxOf z)=some (.lst ((Au (N.ties.take j) z).map bx))) Nl.d1 (fun _ _ _=>trivial) ⟨none,S1,rfl,n1,E1,fun z hz=>?_⟩ (fun j y s e hI=>?_) (fun s hI=>?_)
   ·rw [c1 _ (List.idxOf_lt_length_of_mem hz)]
    rfl
   ·obtain ⟨v3,S2,rfl,m1,E2,c2⟩:=hI
    have e:(N.ties.map bx)[j]? =some y:=e
    rw [List.getElem?_map] at e
    obtain ⟨q,eq,rfl⟩:=Option.map_eq_some_iff.mp e
    obtain ⟨p1,p2,p3⟩:=hG.pl q (List.mem_of_getElem? eq)
    have ht:N.ties.take (j+1)=N.ties.take j++ [q]:=by rw [List.take_succ,eq]; rfl
    have cq:=c2 _ p1
    have i1:∀s:SD,ixK s (some (.dct (sD (oC S.nx N.names) N.names))) (some (.str q.2.tail))= .ok (.d (.cell (S.nx+N.names.idxOf q.2.tail))) s:=fun s=>ao (sD_at p1)
    have sz:(((Au (N.ties.take j) q.2.tail).map bx).length<sizeLine)=True:=eq_true (by
     rw [List.length_map,sizeLine_eq]
     have h1:=List.length_filter_le (fun q' :Tq=>decide (q'.2.tail=q.2.tail)) (N.ties.take j)
     have h2:=hG.tl
     rw [List.length_take] at h1
     unfold Au
     omega)
    dsimp! only [cH,i1,cq,sz]
    refine ⟨_,_,rfl,m1,E2.put (by omega),fun z hz=>?_⟩
    rw [ht]
    unfold Au
    rw [List.filter_append]
    by_cases c:q.2.tail=z
    ·subst c
     rw [Sto.put_same,List.filter_cons_of_pos (by simp)]
     simp [Au]
    ·rw [Sto.put_ne (fun e=>idx_ne hz p1 (fun e=>c e.symm) (by omega)),c2 z hz,List.filter_cons_of_neg (by simpa using c)]
     simp [Au]
   ·obtain ⟨v3,S2,rfl,m1,E2,c2⟩:=hI
    dsimp! only []
    refine ⟨E2,m1,fun z hz=>?_,by show S.nx+N.names.length≤S2.nx; omega⟩
    have:=c2 z hz
    rw [show N.ties.take (List.length (N.ties.map bx))=N.ties by rw [List.length_map,List.take_length]] at this
    exact this
 obtain ⟨fl,s',e,hh,E,nx,O⟩:=key.is
 refine ⟨s'.st,E,nx,O,fun sl=>ew ?_⟩
 show Wp (jt ⟨[some (.d (.cell n)),none,none,none],S⟩) _ _
 rw [e]
 exact ⟨hh,rfl⟩
end
section
variable {s:SD} {S:Sto} {sl:List (Option Vl)} {y:D} {l d b j a:Nat} {f:Int→Int} {is:List Int} {names:List Str} {ts:List Tq} {z w:Str} {q:Tq}
def tieR:Option Tq→D
 | none=> .non
 | some q=>bx q
def oz:Option Str→D
 | none=> .non
 | some z=> .str z
theorem rZ {α:Type} {p:α→Bool} {l:List α} (h:∀(i:Nat) (v:α),l[i]? =some v→p v=false):l.find? p=none:=List.find?_eq_none.mpr fun v hv=>by
 obtain ⟨i,hi,rfl⟩:=List.getElem_of_mem hv
 rw [h i _ (List.getElem?_eq_getElem hi)]
 simp
theorem uG {α:Type} {p:α→Bool}:∀{l:List α} {j:Nat} {v:α},l[j]? =some v→p v=true→(∀(i:Nat) (w:α),i<j→l[i]? =some w→p w=false)→l.find? p=some v
 | u::l,0,v,e,h,_=>by
  cases e
  rw [List.find?_cons_of_pos h]
 | u::l,j+1,v,e,h,h2=>by
  rw [List.find?_cons_of_neg (by rw [h2 0 u (Nat.succ_pos _) rfl]; simp)]
  exact uG (j:=j) e h fun i w hi e=>h2 (i+1) w (by omega) e
theorem rV (O:OutsAt S b names ts) (hz:z∈names) (ha:S.get a=some (.dct (ah f is))) (hi:∀q∈ts,q.1∈is):goF dI [.dct (sD (oC b names) names), .cell a, .str z] ⟨sl,S⟩= .ok (.d (tieR (jH ts f z))) ⟨sl,S⟩:=by
 have cz:=O.at_ z hz
 have i1:∀s:SD,ixK s (some (.dct (sD (oC b names) names))) (some (.str z))= .ok (.d (.cell (b+names.idxOf z))) s:=fun s=>ao (sD_at hz)
 have it:=fun sl:List (Option Vl)=>vP (s:=⟨sl,S⟩) cz
 refine ew ?_
 show Wp (mL ⟨[some (.d (.dct (sD (oC b names) names))),some (.d (.cell a)),some (.d (.str z)),none],S⟩) _ _
 unfold mL
 dsimp! only [i1,cz,it]
 rw [ab]
 refine di (fun j s=>∃v3,s=⟨[some (.d (.dct (sD (oC b names) names))),some (.d (.cell a)),some (.d (.str z)),v3],S⟩∧∀i w,i<j→(Au ts z)[i]? =some w→decide (0<f w.1)=false) Nl.d1 (fun _ _ hI=>?_) ⟨none,rfl,fun i w hi=>by omega⟩ (fun j y s e hI=>?_) (fun s hI=>?_)
 ·obtain ⟨v3,rfl,_⟩:=hI
  exact cz
 ·obtain ⟨v3,rfl,h⟩:=hI
  have e:((Au ts z).map bx)[j]? =some y:=e
  rw [List.getElem?_map] at e
  obtain ⟨q,eq,rfl⟩:=Option.map_eq_some_iff.mp e
  have mi:=hi q (List.mem_filter.mp (List.mem_of_getElem? eq)).1
  have i2:∀s:SD,ixK s (some (.dct (ah f is))) (some (.int q.1))= .ok (.d (.int (f q.1))) s:=fun s=>ao (bF mi)
  dsimp! only [cH,ha,i2]
  by_cases c:0<f q.1
  ·have d0:=decide_eq_true c
   dsimp! only [d0]
   have:jH ts f z=some q:=uG eq d0 h
   rw [this]
   first | exact rfl | exact ⟨rfl,rfl⟩
  ·have d0:=decide_eq_false c
   dsimp! only [d0]
   refine ⟨_,rfl,fun i w hi e=>?_⟩
   by_cases ci:i=j
   ·rw [ci,eq] at e; cases e; exact d0
   ·exact h i w (by omega) e
 ·obtain ⟨v3,rfl,h⟩:=hI
  dsimp! only []
  have:jH ts f z=none:=rZ fun i v e=>h i v (by
   show i<((Au ts z).map bx).length
   rw [List.length_map]
   exact (List.getElem?_eq_some_iff.mp e).1) e
  rw [this]
  first | exact rfl | exact ⟨rfl,rfl⟩
theorem isN_tie {neg:Bool} {s:SD}:kK neg (.d (bx q)) (.d .non) s= .ok (.d (.bl neg)) s:=xJ (fun h=>nomatch h)
theorem AB:∀o:Option Tq,(∃q,o=some q∧tieR o=bx q)∨o=none
 | none=> .inr rfl
 | some q=> .inl ⟨q,rfl,rfl⟩
theorem kx (O:OutsAt S b names ts) (ha:S.get a=some (.dct (ah f is))) (hi:∀q∈ts,q.1∈is) (nl:names.length≤1000):goF aW [.dct (sD (oC b names) names), .cell a] ⟨sl,S⟩= .ok (.d (oz (eH ts f names))) ⟨sl,S⟩:=by
 refine ew ?_
 show Wp (gH ⟨[some (.d (.dct (sD (oC b names) names))),some (.d (.cell a)),none],S⟩) _ _
 unfold gH
 dsimp! only []
 rw [ab]
 refine di (fun j s=>∃v2,s=⟨[some (.d (.dct (sD (oC b names) names))),some (.d (.cell a)),v2],S⟩∧∀i w,i<j→names[i]? =some w→(jH ts f w).isSome=false) Nl.d1 (fun _ _ hI=>?_) ⟨none,rfl,fun i w hi=>by omega⟩ (fun j y s e hI=>?_) (fun s hI=>?_)
 ·obtain ⟨v3,rfl,_⟩:=hI
  trivial
 ·obtain ⟨v2,rfl,h⟩:=hI
  have e:(Wk.keys.ds (sD (oC b names) names))[j]? =some y:=e
  rw [yf,List.getElem?_map] at e
  obtain ⟨z,ez,rfl⟩:=Option.map_eq_some_iff.mp e
  have k:=fun sl=>rV (sl:=sl) O (List.mem_of_getElem? ez) ha hi
  rcases AB (jH ts f z) with ⟨q,e1,e2⟩ | e1
  ·rw [e2] at k
   dsimp! only [k,isN_tie]
   have:eH ts f names=some z:=uG ez (by rw [e1]; rfl) h
   rw [this]
   first | exact rfl | exact ⟨rfl,rfl⟩
  ·rw [e1] at k
   have k:∀sl,goF dI [.dct (sD (oC b names) names), .cell a, .str z] ⟨sl,S⟩= .ok (.d .non) ⟨sl,S⟩:=k
   dsimp! only [k]
   refine ⟨_,rfl,fun i w hi e=>?_⟩
   by_cases ci:i=j
   ·rw [ci,ez] at e; cases e; rw [e1]; rfl
   ·exact h i w (by omega) e
 ·obtain ⟨v2,rfl,h⟩:=hI
  dsimp! only []
  have:eH ts f names=none:=rZ fun i v e=>h i v (by
   show i<(Wk.keys.ds (sD (oC b names) names)).length
   rw [yf,List.length_map]
   exact (List.getElem?_eq_some_iff.mp e).1) e
  rw [this]
  first | exact rfl | exact ⟨rfl,rfl⟩
end
section
variable {s:SD} {S:Sto} {sl:List (Option Vl)} {y:D} {n d b a:Nat} {f:Int→Int} {is:List Int} {names pre:List Str} {ts road:List Tq} {z x0 y0:Str} {q:Tq} {tg:Option Str}
abbrev bQ (rs:List Tq):List D:=rs.map fun q=> .int q.1
theorem pL {pre:List Str} {y:Str}:dIx (.lst ((pre++ [y]).map .str)) (.int (-1))=some (.str y):=by
 show atI ((pre++ [y]).map D.str) (-1)=_
 rw [List.map_append,List.map_cons,List.map_nil]
 exact atI_last _ _
theorem eq_tg {s:SD} (tg:Option Str):eqK s (some (.str z)) (some (oz tg))= .ok (.d (.bl (decide (tg=some z)))) s:=by
 cases tg with
 | none=>rfl
 | some t=>
  show eqK s (some (.str z)) (some (.str t))=_
  rw [my]
  by_cases c:z=t
  ·subst c
   rw [decide_eq_true rfl,decide_eq_true rfl]
  ·rw [decide_eq_false c,decide_eq_false (fun e=>c (Option.some.inj e).symm)]
theorem cn_tg {s:SD} (tg:Option Str):s.cont (.d (oz tg))=some (oz tg):=by cases tg<;> rfl
noncomputable def wkB:SD→R Fl:=(ai (aw (ag dI [] (zA (aa 0) (zA (aa 1) (zA (z2 oIx (aa 5) (z1 yC (zC (.int 1)))) zA0)))) (zSt 6))
 (ai (aH (zM2 isL (oB2 aL) (aa 4) (aR (z1 (ba ["Tie"] "number") (aa 6)))))
 (ai (bb (zB (z2 (oIn false) (z1 (ba ["Tie"] "head") (aa 6)) (aa 5))) (aN (fR (zA (zC (.bl true)) (zA (zSl (aa 4) (zPt (zM2 isL kq (aa 5) (z1 (ba ["Tie"] "head") (aa 6)))) zNo) zA0)))) au)
 (ai (bb (zB (z2 oEq (z1 (ba ["Tie"] "head") (aa 6)) (aa 3))) (aN (fR (zA (zC (.bl false)) (zA (aa 4) zA0)))) au)
 (aH (zM2 isL (oB2 aL) (aa 5) (aR (z1 (ba ["Tie"] "head") (aa 6)))))))))
theorem wk_turn {G:SD→R Fl} (hG:G=wkB) {v6:Option Vl} {Q:Fl→SD→Prop} (O:OutsAt S b names ts) (ha:S.get a=some (.dct (ah f is))) (hi:∀q∈ts,q.1∈is) (nl:names.length≤1000) (W:WI ts f tg names x0 (n+1) road pre y0) (e:jH ts f y0=some q)
  (h1:q.2.head∈pre++ [y0]→∀v4 v5 v6,Q (.rt (.d (.tup [.bl true, .lst (bQ ((road++ [q]).drop ((pre++ [y0]).idxOf q.2.head)))]))) ⟨[some (.d (.dct (sD (oC b names) names))),some (.d (.cell a)),some (.d (.str x0)),some (.d (oz tg)),v4,v5,v6],S⟩)
  (h2:q.2.head∉pre++ [y0]→tg=some q.2.head→∀v4 v5 v6,Q (.rt (.d (.tup [.bl false, .lst (bQ (road++ [q]))]))) ⟨[some (.d (.dct (sD (oC b names) names))),some (.d (.cell a)),some (.d (.str x0)),some (.d (oz tg)),v4,v5,v6],S⟩)
  (h3:q.2.head∉pre++ [y0]→tg≠some q.2.head→∀v6,Q .nx ⟨[some (.d (.dct (sD (oC b names) names))),some (.d (.cell a)),some (.d (.str x0)),some (.d (oz tg)),some (.own (.lst (bQ (road++ [q])))),some (.own (.lst ((pre++ [y0]++ [q.2.head]).map .str))),v6],S⟩):
  Wp (G ⟨[some (.d (.dct (sD (oC b names) names))),some (.d (.cell a)),some (.d (.str x0)),some (.d (oz tg)),some (.own (.lst (bQ road))),some (.own (.lst ((pre++ [y0]).map .str))),v6],S⟩) Q XF:=by
 subst hG
 have hz:y0∈names:=W.z y0 (by simp)
 have k:=fun sl=>rV (sl:=sl) O hz ha hi
 rw [e] at k
 have k:∀sl,goF dI [.dct (sD (oC b names) names), .cell a, .str y0] ⟨sl,S⟩= .ok (.d (bx q)) ⟨sl,S⟩:=k
 have i5:∀s:SD,ixK s (some (.lst ((pre++ [y0]).map .str))) (some (.int (-1)))= .ok (.d (.str y0)) s:=fun s=>ao pL
 have pl:(pre++ [y0]).length≤names.length:=List.Nodup.length_le_of_subset W.nd fun z h=>W.z z h
 have rl:road.length=pre.length:=by rw [←W.t,List.length_map]
 have pl2:(pre++ [y0]).length=pre.length+1:=by rw [List.length_append]; rfl
 have s1:((bQ road).length<sizeLine)=True:=eq_true (by rw [List.length_map,sizeLine_eq]; omega)
 have s2:((((pre++ [y0]).map D.str)).length<sizeLine)=True:=eq_true (by rw [List.length_map,sizeLine_eq]; omega)
 have ap:bQ road++ [.int q.1]=bQ (road++ [q]):=by show road.map _++_=(road++ [q]).map _; rw [List.map_append]; rfl
 have ap2:(pre++ [y0]).map D.str++ [.str q.2.head]=(pre++ [y0]++ [q.2.head]).map D.str:=by rw [List.map_append (l₁:=pre++ [y0])]; rfl
 have eg:=fun s:SD=>eq_tg (s:=s) (z:=q.2.head) tg
 have cg:=fun s:SD=>cn_tg (s:=s) tg
 unfold wkB
 by_cases c:q.2.head∈pre++ [y0]
 ·have i1:∀s:SD,inK false s (some (.str q.2.head)) (some (.lst ((pre++ [y0]).map .str)))= .ok (.d (.bl true)) s:=fun s=>hZ (neg:=false) (r:=true) (by rw [fF,decide_eq_true c])
  have ix:=idx_str c
  have ct:cutD (bQ (road++ [q])) (some ((pre++ [y0]).idxOf q.2.head:Int)) none=bQ ((road++ [q]).drop ((pre++ [y0]).idxOf q.2.head)):=by rw [zQ _ (by omega),Int.toNat_natCast]; show List.drop _ ((road++ [q]).map _)=(List.drop _ (road++ [q])).map _; rw [List.map_drop]
  dsimp! only [k,i5,cH,s1,ap,i1,w_index,ix,ct]
  exact h1 c _ _ _
 ·have i1:∀s:SD,inK false s (some (.str q.2.head)) (some (.lst ((pre++ [y0]).map .str)))= .ok (.d (.bl false)) s:=fun s=>hZ (neg:=false) (r:=false) (by rw [fF,decide_eq_false c])
  by_cases c2:tg=some q.2.head
  ·have d2:=decide_eq_true c2
   dsimp! only [k,i5,cH,s1,ap,i1,cg,eg,d2]
   exact h2 c c2 _ _ _
  ·have d2:=decide_eq_false c2
   dsimp! only [k,i5,cH,s1,ap,i1,cg,eg,d2,s2,ap2]
   exact h3 c c2 _
theorem Bs (O:OutsAt S b names ts) (ha:S.get a=some (.dct (ah f is))) (hi:∀q∈ts,q.1∈is) (nl:names.length≤1000) (hh:∀q∈ts,q.2.head∈names) (W:WI ts f tg names x0 names.length [] [] x0)
  (ho:∀q∈ts,0<f q.1→tg≠some q.2.head→(jH ts f q.2.head).isSome=true):
  goF eA [.dct (sD (oC b names) names), .cell a, .str x0,oz tg] ⟨sl,S⟩= .ok (.d (.tup [.bl (jG ts f tg names.length [] [] x0).1, .lst (bQ (jG ts f tg names.length [] [] x0).2)])) ⟨sl,S⟩:=by
 refine ew ?_
 show Wp (qu ⟨[some (.d (.dct (sD (oC b names) names))),some (.d (.cell a)),some (.d (.str x0)),some (.d (oz tg)),none,none,none],S⟩) _ _
 rw [show qu=(ai (aw (fS zA0) (zSt 4))
 (ai (aw (fS (zA (aa 2) zA0)) (zSt 5))
 (zWh (zB (zC (.bl true))) wkB))) from rfl]
 dsimp! only []
 refine wh_w (m:=names.length) (fun m s=>∃road pre y v6,s=⟨[some (.d (.dct (sD (oC b names) names))),some (.d (.cell a)),some (.d (.str x0)),some (.d (oz tg)),some (.own (.lst (bQ road))),some (.own (.lst ((pre++ [y]).map .str))),v6],S⟩∧WI ts f tg names x0 m road pre y∧jG ts f tg names.length [] [] x0=jG ts f tg m road pre y) ⟨[],[],x0,none,rfl,W,rfl⟩ (fun m s hI=>?_)
 obtain ⟨road,pre,y,v6,rfl,W1,e1⟩:=hI
 dsimp! only []
 cases m with
 | zero=>exact W1.no.elim
 | succ m=>
  obtain ⟨q,e⟩:=Option.isSome_iff_exists.mp W1.o
  rw [jG,e] at e1
  dsimp only at e1
  refine wk_turn rfl O ha hi nl W1 e (fun c v4 v5 v6=>?_) (fun c c2 v4 v5 v6=>?_) (fun c c2 v6=>?_)
  ·rw [if_pos c] at e1
   rw [e1]
   exact ⟨rfl,rfl⟩
  ·rw [if_neg c,if_pos c2] at e1
   rw [e1]
   exact ⟨rfl,rfl⟩
  ·rw [if_neg c,if_neg c2] at e1
   exact ⟨m,Nat.lt_succ_self _,_,_,_,_,rfl,W1.next hh ho e c c2,e1⟩
end
section
variable {sd:SD} {S S' S1:Sto} {sl:List (Option Vl)} {x y:D} {n d b j a:Nat} {f:Int→Int} {is:List Int} {names:List Str} {ts road rd:List Tq} {z x0 s t:Str} {q:Tq} {am rest:Int} {rg:Bool} {p:PartD}
theorem spU_b1 {h:Str→Int}:spU f h q z=h z+b1 f z q:=by
 unfold spU b1
 dsimp only
 by_cases c1:z=q.2.head
 ·subst c1
  rw [if_pos rfl,if_pos rfl]
  by_cases c2:q.2.head=q.2.tail
  ·rw [if_pos c2,if_pos c2.symm,c2]; omega
  ·rw [if_neg c2,if_neg (fun e=>c2 e.symm)]; omega
 ·rw [if_neg c1,if_neg (show¬q.2.head=z from fun e=>c1 e.symm)]
  by_cases c2:z=q.2.tail
  ·subst c2; rw [if_pos rfl,if_pos rfl]; omega
  ·rw [if_neg c2,if_neg (show¬q.2.tail=z from fun e=>c2 e.symm)]; omega
theorem Af:∀(ts:List Tq) (h:Str→Int),ts.foldl (spU f) h z=h z+bal f ts z
 | [],h=>by unfold bal; simp
 | q::ts,h=>by
  rw [List.foldl_cons,Af ts,spU_b1]
  unfold bal
  rw [List.map_cons,List.sum_cons]
  omega
theorem sp_bal:sp f ts z=bal f ts z:=by
 unfold sp
 rw [Af]
 omega
theorem InvF.car (I:InvF ts s t f rest) (hst:s≠t):carD (sp f ts) s t names= .int rest:=by
 unfold carD
 rw [if_pos ?_]
 ·rw [sp_bal,I.b,if_pos rfl,if_neg hst]
  congr 1
  omega
 ·intro z _
  rw [sp_bal,I.b]
  by_cases c1:z=s
  ·exact .inr (.inl c1)
  ·by_cases c2:z=t
   ·exact .inr (.inr c2)
   ·rw [if_neg c1,if_neg c2]; exact .inl rfl
def aC (p:PartD):D:= .obj "Part" [("is_ring", .bl p.ring),("numbers", .lst (bQ p.road)),("amount", .int p.am)]
theorem g_Part:goF bA [.cell S.nx, .bl rg, .lst (bQ rd), .int am] ⟨sl,S.new (.obj "Part" [])⟩= .ok (.d .non) ⟨sl,S.new (aC ⟨rg,rd,am⟩)⟩:=by
 have t1:∀x:D,jz "is_ring" x []=([("is_ring",x)]:List (Str×D)):=fun _=>rfl
 have t2:∀x y:D,jz "numbers" x [("is_ring",y)]=([("is_ring",y),("numbers",x)]:List (Str×D)):=fun _ _=>rfl
 have t3:∀x y z:D,jz "amount" x [("is_ring",y),("numbers",z)]=([("is_ring",y),("numbers",z),("amount",x)]:List (Str×D)):=fun _ _ _=>rfl
 refine ew ?_
 show Wp (iQ ⟨[some (.d (.cell S.nx)),some (.d (.bl rg)),some (.d (.lst (bQ rd))),some (.d (.int am))],S.new (.obj "Part" [])⟩) _ _
 unfold iQ
 simp! only [t1,t2,t3]
 rfl
abbrev taS (n:Nat) (x:D) (s t:Str) (rest:Int) (v5:Option Vl) (a:Nat) (done:List PartD) (v8 v9 v10 v11 v12:Option Vl) (S:Sto):SD:=
 ⟨[some (.d (.cell n)),some (.d x),some (.d (.str s)),some (.d (.str t)),some (.d (.int rest)),v5,some (.d (.cell a)),some (.own (.lst (done.map aC))),v8,v9,v10,v11,v12],S⟩
def lV (b:Nat) (names:List Str) (v5:Option Vl):Prop:=v5=some (.own (.dct (sD (oC b names) names)))∨v5=some (.d (.dct (sD (oC b names) names)))
theorem vU (h:q.1∈is):kL (ah f is) (.inl q.1) (.int (f q.1 - am))=ah (kP f am q) is:=kz h
noncomputable def taN:SD→R Fl:=(aw (zIf (zB (z2 oGt (aa 4) (zC (.int 0)))) (aa 2) (ag aW [] (zA (aa 5) (zA (aa 6) zA0)))) (zSt 8))
noncomputable def taT:SD→R Fl:=(ai (eo (cZ (aR (aa 10))) (zSt 12) (jF gD bP (fun a b=>a - b) (aa 6) (aa 12) (aa 11)))
 (ai (aH (zM2 isL (oB2 aL) (aa 7) (aR (Ay (jE "Part" bA [] (zA (aa 9) (zA (aa 10) (zA (aa 11) zA0))))))))
 (aw (zIf (zB (z2 oGt (aa 4) (zC (.int 0)))) (aa 2) (ag aW [] (zA (aa 5) (zA (aa 6) zA0)))) (zSt 8))))
theorem ta_next {G:SD→R Fl} (hG:G=taN) {done:List PartD} {v5 v8 v9 v10 v11 v12:Option Vl} {Q:Fl→SD→Prop} (hv:lV b names v5) (O:OutsAt S b names ts) (ha:S.get a=some (.dct (ah f is))) (hi:∀q∈ts,q.1∈is) (nl:names.length≤1000)
  (h:∀v5,lV b names v5→Q .nx (taS n x s t rest v5 a done (some (.d (oz (if 0<rest then some s else eH ts f names)))) v9 v10 v11 v12 S)):Wp (G (taS n x s t rest v5 a done v8 v9 v10 v11 v12 S)) Q XF:=by
 subst hG
 have k:=fun sl=>kx (sl:=sl) O ha hi nl
 unfold taN
 by_cases c:0<rest
 ·have d1:=decide_eq_true c
  rw [if_pos c] at h
  dsimp! only [d1]
  exact h _ hv
 ·have d1:=decide_eq_false c
  rw [if_neg c] at h
  rcases hv with rfl | rfl
  ·dsimp! only [d1,k]
   exact h _ (.inr rfl)
  ·dsimp! only [d1,k]
   exact h _ (.inr rfl)
structure But (S S' :Sto) (a:Nat):Prop where
 nx:S.nx≤S'.nx
 get:∀i,i<S.nx→i≠a→S'.get i=S.get i
theorem But.refl:But S S a:=⟨Nat.le_refl _,fun _ _ _=>rfl⟩
theorem But.trans {S2:Sto} (h:But S S1 a) (g:But S1 S2 a):But S S2 a:=⟨Nat.le_trans h.nx g.nx,fun i h1 h2=>(g.get i (Nat.lt_of_lt_of_le h1 h.nx) h2).trans (h.get i h1 h2)⟩
theorem But.put (h:But S S1 a):But S (S1.put a x) a:=⟨h.nx,fun i h1 h2=>(Sto.put_ne (fun e=>h2 e)).trans (h.get i h1 h2)⟩
theorem But.tick (h:But S S1 a):But S S1.tick a:=⟨Nat.le_succ_of_le h.nx,fun i h1 h2=>(bB (by have:=h.nx; omega)).trans (h.get i h1 h2)⟩
theorem OutsAt.but (O:OutsAt S b names ts) (E:But S S' a) (ha:b+names.length≤a):OutsAt S' b names ts:=⟨fun z hz=>(E.get _ (by
 have:=List.idxOf_lt_length_of_mem hz
 have:=O.nx
 omega) (by
 have:=List.idxOf_lt_length_of_mem hz
 omega)).trans (O.at_ z hz),Nat.le_trans O.nx E.nx⟩
theorem ta_tail {G:SD→R Fl} (hG:G=taT) {done:List PartD} {v5 v8 v12:Option Vl} {Q:Fl→SD→Prop} (hv:lV b names v5) (O:OutsAt S b names ts) (hb:b+names.length≤a) (hax:a<S.nx) (ha:S.get a=some (.dct (ah f is))) (hi:∀q∈ts,q.1∈is) (nl:names.length≤1000) (il:is.length≤1000)
  (hr:∀q∈rd,q∈ts) (dl:done.length≤1000)
  (h:∀v5 v12 S2,lV b names v5→But S S2 a→S2.get a=some (.dct (ah (bC f am rd) is))→Q .nx (taS n x s t rest v5 a (done++([⟨rg,rd,am⟩]:List PartD)) (some (.d (oz (if 0<rest then some s else eH ts (bC f am rd) names)))) (some (.d (.bl rg))) (some (.d (.lst (bQ rd)))) (some (.d (.int am))) v12 S2)):
  Wp (G (taS n x s t rest v5 a done v8 (some (.d (.bl rg))) (some (.d (.lst (bQ rd)))) (some (.d (.int am))) v12 S)) Q XF:=by
 subst hG
 rw [show taT=(ai (eo (cZ (aR (aa 10))) (zSt 12) (jF gD bP (fun a b=>a - b) (aa 6) (aa 12) (aa 11)))
 (ai (aH (zM2 isL (oB2 aL) (aa 7) (aR (Ay (jE "Part" bA [] (zA (aa 9) (zA (aa 10) (zA (aa 11) zA0))))))))
 taN)) from rfl]
 simp! only []
 rw [ab]
 refine di (fun j s' =>∃v12 S1,s' =taS n x s t rest v5 a done v8 (some (.d (.bl rg))) (some (.d (.lst (bQ rd)))) (some (.d (.int am))) v12 S1∧But S S1 a∧S1.get a=some (.dct (ah (bC f am (rd.take j)) is))) Nl.d1 (fun _ _ _=>trivial) ⟨v12,S,rfl,But.refl,ha⟩ (fun j y s' e hI=>?_) (fun s' hI=>?_)
 ·obtain ⟨v12,S1,rfl,B1,c1⟩:=hI
  have e:(bQ rd)[j]? =some y:=e
  rw [List.getElem?_map] at e
  obtain ⟨q,eq,rfl⟩:=Option.map_eq_some_iff.mp e
  have mi:=hi q (hr q (List.mem_of_getElem? eq))
  have ht:rd.take (j+1)=rd.take j++ [q]:=by rw [List.take_succ,eq]; rfl
  have gd:=fun f:Int→Int=>gD_at (k:= .inl q.1) (z:= .int q.1) (ks:=ah f is) rfl (bF mi)
  have sp:=fun (f:Int→Int) (s:SD) (o:Vl)=>bT (a:=o) (x:= .int (f q.1 - am)) (s:=s) (k:= .inl q.1) (z:= .int q.1) (ks:=ah f is) rfl (by rw [bR,sizeLine_eq]; omega)
  have fu:=fun f:Int→Int=>vU (f:=f) (am:=am) mi
  dsimp! only [c1,gd,sp,fu]
  refine ⟨_,_,rfl,B1.put, ?_⟩
  rw [Sto.put_same,ht]
  unfold bC
  rw [List.foldl_append]
  rfl
 ·obtain ⟨v12,S1,rfl,B1,c1⟩:=hI
  have c1:S1.get a=some (.dct (ah (bC f am rd) is)):=by
   rw [show rd.take (List.length (bQ rd))=rd by rw [List.length_map,List.take_length]] at c1
   exact c1
  have mk:=fun sl=>rJ (sl:=sl) (S:=S1) (i:=S1.nx) (F:=bA) fun s=>g_Part (sl:=s.sl) (S:=S1) (rg:=rg) (rd:=rd) (am:=am)
  have sz:((done.map aC).length<sizeLine)=True:=eq_true (by rw [List.length_map,sizeLine_eq]; omega)
  have ap:done.map aC++ [aC ⟨rg,rd,am⟩]=(done++([⟨rg,rd,am⟩]:List PartD)).map aC:=by rw [List.map_append]; rfl
  simp! only [mk,sz,ap]
  have hax1:a<S1.nx:=Nat.lt_of_lt_of_le hax B1.nx
  have c2:S1.tick.get a=some (.dct (ah (bC f am rd) is)):=(bB (Nat.ne_of_lt hax1)).trans c1
  exact ta_next rfl hv ((O.but B1 hb).but (But.refl.tick) hb) c2 hi nl fun v5 hv=>h v5 _ _ hv B1.tick c2
theorem Bm (ne:rd≠ []):ng (.own (.lst (rd.map fun q=> .int (f q.1)))) sd= .ok (.d (.int (aA f rd))) sd:=by
 unfold ng
 have e:jn (rd.map fun q=>D.int (f q.1))=some (rd.map fun q=>f q.1):=mB (fun q:Tq=>f q.1) rd
 show (match jn (rd.map fun q=>D.int (f q.1)) with | some (i::is)=>R.ok (Vl.d (D.int (mnL i is))) sd | _=>R.bad)=_
 rw [e]
 cases rd with
 | nil=>exact (ne rfl).elim
 | cons q rd=>rfl
noncomputable def taB:SD→R Fl:=(ai (aw (ag eA [] (zA (aa 5) (zA (aa 6) (zA (aa 8) (zA (zIf (zB (z2 oGt (aa 4) (zC (.int 0)))) (aa 3) (zC .non)) zA0))))) (jD [9,10]))
 (ai (aw (z1 ng (zLc (cZ (aR (aa 10))) (zSt 12) fm (z2 oIx (aa 6) (aa 12)) [12])) (zSt 11))
 (ai (bb (cK (zB (aa 9))) (ai (aw (z2 rG (aa 11) (aa 4)) (zSt 11))
 (zAug 4 (fun a b=>a - b) (aa 11))) au)
 (ai (eo (cZ (aR (aa 10))) (zSt 12) (jF gD bP (fun a b=>a - b) (aa 6) (aa 12) (aa 11)))
 (ai (aH (zM2 isL (oB2 aL) (aa 7) (aR (Ay (jE "Part" bA [] (zA (aa 9) (zA (aa 10) (zA (aa 11) zA0))))))))
 (aw (zIf (zB (z2 oGt (aa 4) (zC (.int 0)))) (aa 2) (ag aW [] (zA (aa 5) (zA (aa 6) zA0)))) (zSt 8)))))))
theorem ta_turn {G:SD→R Fl} (hG:G=taB) {done:List PartD} {v5 v9 v10 v11 v12:Option Vl} {Q:Fl→SD→Prop} (hv:lV b names v5) (O:OutsAt S b names ts) (hb:b+names.length≤a) (hax:a<S.nx) (ha:S.get a=some (.dct (ah f is))) (hi:∀q∈ts,q.1∈is) (nl:names.length≤1000) (il:is.length≤1000)
  (dl:done.length≤1000) (hh:∀q∈ts,q.2.head∈names) (W:WI ts f (if 0<rest then some t else none) names x0 names.length [] [] x0) (ho:∀q∈ts,0<f q.1→(if 0<rest then some t else none)≠some q.2.head→(jH ts f q.2.head).isSome=true) (e:jG ts f (if 0<rest then some t else none) names.length [] [] x0=(rg,rd)) (ne:rd≠ []) (mem:∀q∈rd,q∈ts) (nd:(rd.map (·.2.tail)).Nodup) (tn:∀q∈rd,q.2.tail∈names)
  (h:∀v5 v9 v10 v11 v12 S2 am rest',am=(if rg=true then aA f rd else if rest<aA f rd then rest else aA f rd)→rest' =(if rg=true then rest else rest - am)→lV b names v5→But S S2 a→S2.get a=some (.dct (ah (bC f am rd) is))→Q .nx (taS n x s t rest' v5 a (done++([⟨rg,rd,am⟩]:List PartD)) (some (.d (oz (if 0<rest' then some s else eH ts (bC f am rd) names)))) v9 v10 v11 v12 S2)):
  Wp (G (taS n x s t rest v5 a done (some (.d (.str x0))) v9 v10 v11 v12 S)) Q XF:=by
 subst hG
 have k:=fun sl=>Bs (sl:=sl) O ha hi nl hh W ho
 rw [e] at k
 have rl:rd.length≤names.length:=by
  have:=List.Nodup.length_le_of_subset nd (l₂:=names) fun z hz=>by
   obtain ⟨q,hq,rfl⟩:=List.mem_map.mp hz
   exact tn q hq
  rw [List.length_map] at this
  exact this
 have i6:∀(s:SD) (q:Tq),q∈rd→ixK s (some (.dct (ah f is))) (some (.int q.1))= .ok (.d (.int (f q.1))) s:=fun s q hq=>ao (bF (hi q (mem q hq)))
 have lc:∀v5 v8 v9 v11 v12,lcK (zSt 12) fm (z2 oIx (aa 6) (aa 12)) [12] ⟨[.d (.lst (bQ rd))],fun _=>True,bQ rd⟩ (taS n x s t rest v5 a done v8 v9 (some (.d (.lst (bQ rd)))) v11 v12 S)= .ok (.own (.lst (rd.map fun q=> .int (f q.1)))) (taS n x s t rest v5 a done v8 v9 (some (.d (.lst (bQ rd)))) v11 none S):=fun v5 v8 v9 v11 v12=>by
  refine vK (fun q:Tq=>D.int q.1) (fun q=> .int (f q.1)) rfl rfl Nl.d1 trivial (fun q hq=>?_) (Nat.le_trans rl (Nat.le_trans nl (by decide)))
  have i6:=fun s=>i6 s q hq
  unfold Z.gO
  simp! only [ha,i6]
 have mn:=fun sd:SD=>Bm (sd:=sd) (f:=f) ne
 have tl:=fun (am rest' :Int) (v5 v8 v12:Option Vl) (hv:lV b names v5) (ea:am=(if rg=true then aA f rd else if rest<aA f rd then rest else aA f rd)) (er:rest' =(if rg=true then rest else rest - am))=>ta_tail (n:=n) (x:=x) (s:=s) (t:=t) (rest:=rest') (rg:=rg) (am:=am) (v8:=v8) (v12:=v12) (Q:=Q) rfl hv O hb hax ha hi nl il mem dl fun v5 v12 S2 hv B c=>h v5 _ _ _ v12 S2 am rest' ea er hv B c
 rw [show taB=(ai (aw (ag eA [] (zA (aa 5) (zA (aa 6) (zA (aa 8) (zA (zIf (zB (z2 oGt (aa 4) (zC (.int 0)))) (aa 3) (zC .non)) zA0))))) (jD [9,10]))
 (ai (aw (z1 ng (zLc (cZ (aR (aa 10))) (zSt 12) fm (z2 oIx (aa 6) (aa 12)) [12])) (zSt 11))
 (ai (bb (cK (zB (aa 9))) (ai (aw (z2 rG (aa 11) (aa 4)) (zSt 11))
 (zAug 4 (fun a b=>a - b) (aa 11))) au)
 taT))) from rfl]
 have fz:∀v5:Option Vl,lV b names v5→(rg=true→Wp (taT (taS n x s t rest (some (.d (.dct (sD (oC b names) names)))) a done (some (.d (.str x0))) (some (.d (.bl rg))) (some (.d (.lst (bQ rd)))) (some (.d (.int (aA f rd)))) none S)) Q XF):=fun v5 hv c=>tl (aA f rd) rest _ _ _ (.inr rfl) (by rw [if_pos c]) (by rw [if_pos c])
 by_cases c:0<rest
 ·have d1:=decide_eq_true c
  rw [if_pos c] at k
  have k:∀sl,goF eA [.dct (sD (oC b names) names), .cell a, .str x0, .str t] ⟨sl,S⟩= .ok (.d (.tup [.bl rg, .lst (bQ rd)])) ⟨sl,S⟩:=k
  cases rg with
  | true=>
   rcases hv with rfl | rfl<;> simp! only [d1,k,lc,mn]<;> exact tl (aA f rd) rest _ _ _ (.inr rfl) rfl rfl
  | false=>
   have z2:(if (false=true) then aA f rd else if rest<aA f rd then rest else aA f rd)=if rest<aA f rd then rest else aA f rd:=rfl
   rcases hv with rfl | rfl<;> simp! only [d1,k,lc,mn]<;> exact tl (if rest<aA f rd then rest else aA f rd) _ _ _ _ (.inr rfl) rfl rfl
 ·have d1:=decide_eq_false c
  rw [if_neg c] at k
  have k:∀sl,goF eA [.dct (sD (oC b names) names), .cell a, .str x0, .non] ⟨sl,S⟩= .ok (.d (.tup [.bl rg, .lst (bQ rd)])) ⟨sl,S⟩:=k
  cases rg with
  | true=>
   rcases hv with rfl | rfl<;> simp! only [d1,k,lc,mn]<;> exact tl (aA f rd) rest _ _ _ (.inr rfl) rfl rfl
  | false=>
   rcases hv with rfl | rfl<;> simp! only [d1,k,lc,mn]<;> exact tl (if rest<aA f rd then rest else aA f rd) _ _ _ _ (.inr rfl) rfl rfl
end
section
variable {S S' S1:Sto} {sl:List (Option Vl)} {x:D} {n l d b j a:Nat} {N:ND} {f:Int→Int} {is:List Int} {names:List Str} {ts rd:List Tq} {z x0 s t:Str} {q:Tq} {am rest:Int} {rg:Bool}
theorem but_ext (E:Ext S S1) (B:But S1 S' a) (ha:S.nx≤a):Ext S S' :=⟨Nat.le_trans E.nx B.nx,fun i hi=>(B.get i (Nat.lt_of_lt_of_le hi E.nx) (by omega)).trans (E.get i hi)⟩
theorem sW (o:Option Str):(∃z,o=some z∧oz o= .str z)∨(o=none∧oz o= .non):=by
 cases o with
 | none=>exact .inr ⟨rfl,rfl⟩
 | some z=>exact .inl ⟨z,rfl,rfl⟩
noncomputable def jV (N:ND) (s t:Str) (f:Int→Int) (rest:Int):List PartD:=cO N.ties N.names s t (N.ties.length+1) f rest
noncomputable def ta8:SD→R Fl:=(ai (zWh (zB (z2 (kK true) (aa 8) (zC .non))) (ai (aw (ag eA [] (zA (aa 5) (zA (aa 6) (zA (aa 8) (zA (zIf (zB (z2 oGt (aa 4) (zC (.int 0)))) (aa 3) (zC .non)) zA0))))) (jD [9,10]))
 (ai (aw (z1 ng (zLc (cZ (aR (aa 10))) (zSt 12) fm (z2 oIx (aa 6) (aa 12)) [12])) (zSt 11))
 (ai (bb (cK (zB (aa 9))) (ai (aw (z2 rG (aa 11) (aa 4)) (zSt 11))
 (zAug 4 (fun a b=>a - b) (aa 11))) au)
 (ai (eo (cZ (aR (aa 10))) (zSt 12) (jF gD bP (fun a b=>a - b) (aa 6) (aa 12) (aa 11)))
 (ai (aH (zM2 isL (oB2 aL) (aa 7) (aR (Ay (jE "Part" bA [] (zA (aa 9) (zA (aa 10) (zA (aa 11) zA0))))))))
 (aw (zIf (zB (z2 oGt (aa 4) (zC (.int 0)))) (aa 2) (ag aW [] (zA (aa 5) (zA (aa 6) zA0)))) (zSt 8))))))))
 (aN (aa 7)))
theorem AE {G:SD→R Fl} (hG:G=ta8) {S0:Sto} {v5 v9 v10 v11 v12:Option Vl} (hG2:Good N) (hs:s∈N.names) (hst:s≠t) (hv:lV b N.names v5) (O:OutsAt S b N.names N.ties) (E:Ext S0 S) (hb0:S0.nx≤b) (hb:b+N.names.length≤a) (hax:a<S.nx) (ha:S.get a=some (.dct (ah f is))) (hp:is.Perm (N.ties.map (·.1))) (I:InvF N.ties s t f rest):
  Wp (G (taS n x s t rest v5 a [] (some (.d (oz (if 0<rest then some s else eH N.ties f N.names)))) v9 v10 v11 v12 S)) (fun fl s' =>flv fl=some (.own (.lst ((jV N s t f rest).map aC)))∧Ext S0 s'.st) XF:=by
 have tl:=hG2.tl
 have nl:=hG2.nl
 have pl:=hG2.pl
 have hi:∀q∈N.ties,q.1∈is:=fun q hq=>hp.mem_iff.mpr (List.mem_map.mpr ⟨q,hq,rfl⟩)
 have il:is.length≤1000:=by rw [hp.length_eq,List.length_map]; omega
 subst hG
 rw [show ta8=(ai (zWh (zB (z2 (kK true) (aa 8) (zC .non))) taB)
 (aN (aa 7))) from rfl]
 simp! only []
 rw [ab]
 refine wh_w (m:=N.ties.length+1) (fun m s' =>∃f' rest' done v5 v9 v10 v11 v12 S1,s' =taS n x s t rest' v5 a done (some (.d (oz (if 0<rest' then some s else eH N.ties f' N.names)))) v9 v10 v11 v12 S1∧lV b N.names v5∧OutsAt S1 b N.names N.ties∧Ext S0 S1∧a<S1.nx∧S1.get a=some (.dct (ah f' is))∧InvF N.ties s t f' rest'∧eM f' N.ties+(if 0<rest' then 1 else 0)≤m∧jV N s t f rest=done++cO N.ties N.names s t m f' rest'∧done.length+m≤N.ties.length+1) ⟨f,rest,[],v5,v9,v10,v11,v12,S,rfl,hv,O,E,hax,ha,I, ?_,rfl,by simp⟩ (fun m s' hI=>?_)
 ·have:=tU (f:=f) (ts:=N.ties)
  split<;> omega
 ·obtain ⟨f',rest',done,v5,v9,v10,v11,v12,S1,rfl,hv1,O1,E1,hax1,ha1,I1,hm,ep,dl⟩:=hI
  rcases sW (if 0<rest' then some s else eH N.ties f' N.names) with ⟨x0,e1,e2⟩ | ⟨e1,e2⟩
  ·rw [e2]
   have nn:D.str x0≠ .non:=fun h=>nomatch h
   have ni:=fun s:SD=>xJ (s:=s) (neg:=true) nn
   simp! only [ni]
   obtain ⟨h1,h2,h3⟩:=vq I1 hst hs e1
   obtain ⟨W,ho⟩:=nr (names:=N.names) I1 (fun q hq=>(pl q hq).2.2) hst h1 h2 h3
   have R:=nX (fun q hq=>(pl q hq).2.1) ho _ [] [] x0 W
   have p1:=A0 h1
   obtain ⟨m,rfl⟩:∃k,m=k+1:=⟨m - 1,by omega⟩
   rw [cO,e1] at ep
   dsimp only at ep
   cases er:jG N.ties f' (if 0<rest' then some t else none) N.names.length [] [] x0 with
   | mk rg rd=>
    rw [er] at R ep
    refine ta_turn rfl hv1 O1 hb hax1 ha1 hi (by omega) il (by omega) (fun q hq=>(pl q hq).2.1) W ho er R.ne (fun q hq=>(R.mem q hq).1) R.nd (fun q hq=>(pl q (R.mem q hq).1).1) (fun v5 v9 v10 v11 v12 S2 am rest2 ea e3 hv2 B2 c2=>?_)
    obtain ⟨I2,lt⟩:=step_ok hG2.rise hst I1 R h3 ea e3
    refine ⟨m,Nat.lt_succ_self _,bC f' am rd,rest2,done++ [⟨rg,rd,am⟩],v5,v9,v10,v11,v12,S2,rfl,hv2,O1.but B2 hb,but_ext E1 B2 (by omega),Nat.lt_of_lt_of_le hax1 B2.nx,c2,I2,by omega, ?_,by rw [List.length_append]; simp only [List.length_cons,List.length_nil]; omega⟩
    rw [ep,List.append_assoc,e3,ea]
    rfl
  ·rw [e2]
   have ni:=fun s:SD=>nZ (s:=s) (neg:=true)
   simp! only [ni]
   have e3:cO N.ties N.names s t m f' rest' = []:=by
    cases m with
    | zero=>rfl
    | succ m=>rw [cO,e1]
   rw [e3,List.append_nil] at ep
   rw [ep]
   exact ⟨rfl,E1⟩
theorem pU (hN:NetAt S n l d N) (hn:n<S.nx) (hl:l<S.nx) (hd:d<S.nx) (hG:Good N) (hx:Hand S x (ah f is)) (hxj:∀j,x= .cell j→j<S.nx) (hp:is.Perm (N.ties.map (·.1))) (hf:sE N.ties f) (hs:s∈N.names) (ht:t∈N.names) (hst:s≠t) (I:InvF N.ties s t f rest):
  ∃S',Ext S S'∧∀sl,goF bG [.cell n,x, .str s, .str t] ⟨sl,S⟩= .ok (.own (.lst ((jV N s t f rest).map aC))) ⟨sl,S'⟩:=by
 have k1:=fun sl=>mw (sl:=sl) hN hs ht hst
 have k2:=fun sl=>mr (sl:=sl) hN hG hx hp hf
 have k3:=fun sl=>ky (sl:=sl) hN hG hx hp hf hs ht hst
 rw [I.car hst] at k3
 obtain ⟨S1,E1,n1,O1,k4⟩:=zc hN hG hn hl hd
 have hx1:Hand S1 x (ah f is):=hx.ext fun j e=>E1.get j (hxj j e)
 have cx:=fun sl=>hx1.cont (sl:=sl)
 have dm:fP (ah f is)=ah f is:=iJ (hp.nodup_iff.mpr (List.Pairwise.imp (fun h e=>by omega) hG.rise))
 have r0:=I.r0
 have d0:decide (rest<0)=false:=decide_eq_false (by omega)
 have E2:Ext S (S1.new (.dct (ah f is))):=E1.trans Ext.new
 have O2:OutsAt (S1.new (.dct (ah f is))) S.nx N.names N.ties:=O1.ext Ext.new
 have hi:∀q∈N.ties,q.1∈is:=fun q hq=>hp.mem_iff.mpr (List.mem_map.mpr ⟨q,hq,rfl⟩)
 have nl:=hG.nl
 have k5:=fun sl=>kx (sl:=sl) O2 (a:=S1.nx) (f:=f) (is:=is) gw hi (by omega)
 have key:Wp (dE ⟨[some (.d (.cell n)),some (.d x),some (.d (.str s)),some (.d (.str t)),none,none,none,none,none,none,none,none,none],S⟩) (fun fl s' =>flv fl=some (.own (.lst ((jV N s t f rest).map aC)))∧Ext S s'.st) XF:=by
  rw [show dE=(ai (aH (ag dM [] (zA (aa 0) (zA (aa 2) (zA (aa 3) zA0)))))
 (ai (aH (ag dJ [] (zA (aa 0) (zA (aa 1) zA0))))
 (ai (aw (ag bp [] (zA (aa 0) (zA (aa 1) (zA (aa 2) (zA (aa 3) zA0))))) (zSt 4))
 (ai (bb (zOr (zB (z2 (kK false) (aa 4) (zC .non))) (zB (z2 oLt (aa 4) (zC (.int 0))))) cY au)
 (ai (aw (ag iU [] (zA (aa 0) zA0)) (zSt 5))
 (ai (aw (ie (z1 eY (aa 1))) (zSt 6))
 (ai (aw (fS zA0) (zSt 7))
 (ai (aw (zIf (zB (z2 oGt (aa 4) (zC (.int 0)))) (aa 2) (ag aW [] (zA (aa 5) (zA (aa 6) zA0)))) (zSt 8))
 ta8)))))))) from rfl]
  have fin:=fun (v5:Option Vl) (hv:lV S.nx N.names v5) (v8:D) (e8:v8=oz (if 0<rest then some s else eH N.ties f N.names))=>AE (n:=n) (x:=x) (S:=S1.new (.dct (ah f is))) (a:=S1.nx) (b:=S.nx) (v9:=none) (v10:=none) (v11:=none) (v12:=none) rfl hG hs hst hv O2 E2 (Nat.le_refl _) (by omega) (Nat.lt_succ_self _) gw hp I
  by_cases c:0<rest
  ·have d1:=decide_eq_true c
   rw [if_pos c] at fin
   simp! only [k1,k2,k3,d0,k4,cx,dm,d1]
   exact fin _ (.inl rfl) _ rfl
  ·have d1:=decide_eq_false c
   rw [if_neg c] at fin
   simp! only [k1,k2,k3,d0,k4,cx,dm,d1,k5]
   exact fin _ (.inr rfl) _ rfl
 obtain ⟨fl,s',e,hh,E⟩:=key.is
 refine ⟨s'.st,E,fun sl=>ew ?_⟩
 show Wp (dE ⟨[some (.d (.cell n)),some (.d x),some (.d (.str s)),some (.d (.str t)),none,none,none,none,none,none,none,none,none],S⟩) _ _
 rw [e]
 exact ⟨hh,rfl⟩
end
section
variable {S:Sto} {sl:List (Option Vl)} {x y:D} {n l d b j a:Nat} {N:ND} {f:Int→Int} {is:List Int} {road rd:List Tq} {z s:Str} {q:Tq} {am:Int} {rg:Bool} {p:PartD} {ps:List PartD}
def LstAt (S:Sto) (x:D) (l:List D):Prop:=x= .lst l∨∃c,x= .cell c∧S.get c=some (.lst l)
theorem LstAt.cont {l:List D} (h:LstAt S x l):SD.cont ⟨sl,S⟩ (.d x)=some (.lst l):=by
 rcases h with rfl | ⟨c,rfl,e⟩
 ·rfl
 ·exact e
theorem LstAt.it {l:List D} (h:LstAt S x l):∃ok:SD→Prop,(∀sl,itLK (.d x) ⟨sl,S⟩= .ok ⟨[.d x],ok,l⟩ ⟨sl,S⟩)∧∀sl,ok ⟨sl,S⟩:=by
 rcases h with rfl | ⟨c,rfl,e⟩
 ·exact ⟨fun _=>True,fun sl=>iS,fun _=>trivial⟩
 ·exact ⟨fun s=>s.st.get c=some (.lst l),fun sl=>vP (s:=⟨sl,S⟩) e,fun _=>e⟩
noncomputable def sU (ps:List PartD) (i:Int):Int:=(ps.map (cQ i)).sum
theorem gu:fO [("is_ring", .bl rg),("numbers",x),("amount",y)] "is_ring" =some (.bl rg):=rfl
theorem lT:fO [("is_ring",x),("numbers", .lst (bQ rd)),("amount",y)] "numbers" =some (.lst (bQ rd)):=rfl
theorem pd:fO [("is_ring",x),("numbers",y),("amount", .int am)] "amount" =some (.int am):=rfl
theorem aZ {s:SD}:s.cont (.d (aC p))=some (.obj "Part" [("is_ring", .bl p.ring),("numbers", .lst (bQ p.road)),("amount", .int p.am)]):=rfl
theorem pW (h:q.1∈is):kL (ah f is) (.inl q.1) (.int (f q.1+am))=ah (kP f (-am) q) is:=by
 rw [show f q.1+am=f q.1 - (-am) by omega]
 exact kz h
theorem qS (nd:(p.road.map (·.1)).Nodup) (i:Int):bC f (-p.am) p.road i=f i+cQ i p:=by
 unfold cQ
 by_cases c:i∈p.road.map (·.1)
 ·rw [if_pos c,kn nd c]; omega
 ·rw [if_neg c,jJ c]; omega
noncomputable def ptB:SD→R Fl:=(eo (cZ (aR (z1 (ba ["Part"] "numbers") (aa 4)))) (zSt 5) (jF gD bP (fun a b=>a+b) (aa 2) (aa 5) (z1 (ba ["Part"] "amount") (aa 4))))
theorem pt_turn {G:SD→R Fl} (hG:G=ptB) {v3 v5:Option Vl} (hi:∀q∈p.road,q.1∈is) (il:is.length≤1000) (nd:(p.road.map (·.1)).Nodup):
  Wp (G ⟨[some (.d (.cell n)),some (.d x),some (.own (.dct (ah f is))),v3,some (.d (aC p)),v5],S⟩) (fun fl s' =>fl= .nx∧∃v5,s' =⟨[some (.d (.cell n)),some (.d x),some (.own (.dct (ah (fun i=>f i+cQ i p) is))),v3,some (.d (aC p)),v5],S⟩) XF:=by
 subst hG
 unfold ptB
 dsimp! only [aZ,ak lT]
 refine di (fun j s' =>∃v5,s' =(⟨[some (.d (.cell n)),some (.d x),some (.own (.dct (ah (bC f (-p.am) (p.road.take j)) is))),v3,some (.d (aC p)),v5],S⟩:SD)) Nl.d1 (fun _ _ _=>trivial) ⟨v5,rfl⟩ (fun j y s' e hI=>?_) (fun s' hI=>?_)
 ·obtain ⟨v5,rfl⟩:=hI
  have e:(bQ p.road)[j]? =some y:=e
  rw [List.getElem?_map] at e
  obtain ⟨q,eq,rfl⟩:=Option.map_eq_some_iff.mp e
  have mi:=hi q (List.mem_of_getElem? eq)
  have ht:p.road.take (j+1)=p.road.take j++ [q]:=by rw [List.take_succ,eq]; rfl
  have gd:=fun f:Int→Int=>gD_at (k:= .inl q.1) (z:= .int q.1) (ks:=ah f is) rfl (bF mi)
  have sp:=fun (f:Int→Int) (s:SD) (o:Vl)=>bT (a:=o) (x:= .int (f q.1+p.am)) (s:=s) (k:= .inl q.1) (z:= .int q.1) (ks:=ah f is) rfl (by rw [bR,sizeLine_eq]; omega)
  have fu:=fun f:Int→Int=>pW (f:=f) (am:=p.am) mi
  dsimp! only [aZ,ak pd,gd,sp,fu]
  have e2:bC f (-p.am) (p.road.take (j+1))=kP (bC f (-p.am) (p.road.take j)) (-p.am) q:=by
   rw [ht]
   unfold bC
   rw [List.foldl_append]
   rfl
  rw [e2]
  exact ⟨_,rfl⟩
 ·obtain ⟨v5,rfl⟩:=hI
  rw [show p.road.take (Src.ds ⟨[.d (.lst (bQ p.road))],fun _=>True,bQ p.road⟩).length=p.road by show p.road.take (bQ p.road).length=_; rw [List.length_map,List.take_length]]
  refine ⟨rfl,v5, ?_⟩
  rw [gy (f:=bC f (-p.am) p.road) (f' :=fun i=>f i+cQ i p) fun i _=>qS nd i]
theorem qR:sU (ps++ [p])=fun i=>sU ps i+cQ i p:=by
 funext i
 unfold sU
 rw [List.map_append,List.sum_append]
 simp
theorem ia (hN:NetAt S n l d N) (hG:Good N) (hx:LstAt S x (ps.map aC)) (hi:∀p∈ps,∀q∈p.road,q∈N.ties) (nd:∀p∈ps,(p.road.map (·.1)).Nodup):goF aI [.cell n,x] ⟨sl,S⟩= .ok (.own (.dct (ah (sU ps) (N.ties.map (·.1))))) ⟨sl,S⟩:=by
 have q1:=hN.n
 have tl:=hG.tl
 have k1:=fun sl=>vQ (sl:=sl) hN hG.rise hG.tl
 obtain ⟨ok,it,hok⟩:=hx.it
 have cx:=fun sl=>hx.cont (sl:=sl)
 refine ew ?_
 show Wp (eQ ⟨[some (.d (.cell n)),some (.d x),none,none,none,none],S⟩) _ _
 rw [show eQ=(ai (aw mU (zSt 2))
 (ai (eo (cZ (aR (bL "Net" "ties" cP [] (aa 0) zA0))) (zSt 3) (dg (aa 2) (z1 (ba ["Tie"] "number") (aa 3)) (zC (.int 0))))
 (ai (eo (cZ (aR (aa 1))) (zSt 4) ptB)
 (aN (aa 2))))) from rfl]
 dsimp! only [k1,q1]
 rw [ab]
 refine di (fun j s' =>∃v3,s' =(⟨[some (.d (.cell n)),some (.d x),some (.own (.dct (ah (fun _=>0) ((N.ties.take j).map (·.1))))),v3,none,none],S⟩:SD)) Nl.d1 (fun _ _ _=>trivial) ⟨none,rfl⟩ (fun j y s' e hI=>?_) (fun s' hI=>?_)
 ·obtain ⟨v3,rfl⟩:=hI
  have e:(N.ties.map bx)[j]? =some y:=e
  rw [List.getElem?_map] at e
  obtain ⟨q,eq,rfl⟩:=Option.map_eq_some_iff.mp e
  have ht:N.ties.take (j+1)=N.ties.take j++ [q]:=by rw [List.take_succ,eq]; rfl
  have ni:q.1∉(N.ties.take j).map (·.1):=fun h=>by
   obtain ⟨r,hr,e⟩:=List.mem_map.mp h
   have hp:=hG.rise
   unfold qI at hp
   rw [←List.take_append_drop (j+1) N.ties,ht,List.map_append,List.map_append] at hp
   have:=List.pairwise_append.mp hp
   have h2:=(List.pairwise_append.mp this.1).2.2 r.1 (List.mem_map.mpr ⟨r,hr,rfl⟩) q.1 (by simp)
   omega
  have sp:=fun (s:SD) (o:Vl)=>bT (a:=o) (x:= .int 0) (s:=s) (k:= .inl q.1) (z:= .int q.1) (ks:=ah (fun _=>0) ((N.ties.take j).map (·.1))) rfl (by rw [bR,List.length_map,List.length_take,sizeLine_eq]; omega)
  have fu:=kA (f:=fun _=>0) (a:=0) ni
  have fc:ah (fun j=>if j=q.1 then 0 else 0) ((N.ties.take j).map (·.1)++ [q.1])=ah (fun _=>0) ((N.ties.take (j+1)).map (·.1)):=by
   rw [ht,List.map_append]
   exact gy fun i _=>by split<;> rfl
  dsimp! only [cH,sp,fu,fc]
  exact ⟨_,rfl⟩
 ·obtain ⟨v3,rfl⟩:=hI
  rw [show N.ties.take (Src.ds ⟨[.own (.lst (N.ties.map bx))],fun _=>True,N.ties.map bx⟩).length=N.ties by show N.ties.take (N.ties.map bx).length=_; rw [List.length_map,List.take_length]]
  dsimp! only [cx,it]
  rw [ab]
  refine di (fun j s' =>∃v4 v5,s' =(⟨[some (.d (.cell n)),some (.d x),some (.own (.dct (ah (sU (ps.take j)) (N.ties.map (·.1))))),v3,v4,v5],S⟩:SD)) Nl.d1 (fun j s' hI=>?_) ⟨none,none,rfl⟩ (fun j y s' e hI=>?_) (fun s' hI=>?_)
  ·obtain ⟨v4,v5,rfl⟩:=hI
   exact hok _
  ·obtain ⟨v4,v5,rfl⟩:=hI
   have e:(ps.map aC)[j]? =some y:=e
   rw [List.getElem?_map] at e
   obtain ⟨p,ep,rfl⟩:=Option.map_eq_some_iff.mp e
   have hp:=List.mem_of_getElem? ep
   have ht:ps.take (j+1)=ps.take j++ [p]:=by rw [List.take_succ,ep]; rfl
   dsimp! only []
   refine (pt_turn (n:=n) (x:=x) (v3:=v3) (v5:=v5) rfl (fun q hq=>List.mem_map.mpr ⟨q,hi p hp q hq,rfl⟩) (by rw [List.length_map]; omega) (nd p hp)).mono (fun fl s' hh=>?_) fun _ _ _ h=>h
   obtain ⟨rfl,v5,rfl⟩:=hh
   rw [ht,qR]
   exact ⟨_,_,rfl⟩
  ·obtain ⟨v4,v5,rfl⟩:=hI
   have e:ps.take (ps.map aC).length=ps:=by rw [List.length_map,List.take_length]
   dsimp! only [e]
end
section
variable {S S' :Sto} {sl:List (Option Vl)} {x y:D} {l d a:Nat} {f g:Int→Int} {is is' :List Int} {road:List Tq} {z s:Str} {am:Int} {p:PartD} {ps:List PartD}
theorem jj (i:Int):∀s:SD,goF aT [.int i, .int i] s= .ok (.d (.bl true)) s:=fun s=>by
 refine wF ?_
 show Wp (ju ⟨[some (.d (.int i)),some (.d (.int i))],s.st⟩) _ _
 unfold ju
 simp! only []
theorem wh_lc {p1:Option Vl} (h:Hand S y (ah f is)) (hl:is.length≤1000) (e:∀i∈is,g i=f i) (hs:∀i∈is,i∈is'):
  xk 1 (zSt 2) (wo 2 fun a=>cK (zB (ag aT [] (zA (z2 oIx (aa 0) (aa 2)) (zA a zA0))))) (cK (zB (ag aT [] (zA (z2 oIx (aa 0) (aa 2)) (zA (z2 oIx (aa 1) (aa 2)) zA0))))) (aa 2) [2] ⟨[some (.d (.dct (ah g is'))),some (.d y),none],S⟩
   = .ok (.own (.lst [])) ⟨[some (.d (.dct (ah g is'))),some (.d y),none],S⟩:=by
 have i0:∀(s:SD) (i:Int),i∈is→ixK s (some (.dct (ah g is'))) (some (.int i))= .ok (.d (.int (f i))) s:=fun s i hi=>by rw [←e i hi]; exact ao (bF (hs i hi))
 rcases h with rfl | ⟨c,rfl,ec⟩
 ·rw [lcR_d (x:= .dct (ah f is)) rfl (by intro _ z; cases z)]
  simp! only []
  rw [pI (l:=is) D.int D.int (fun _=>false) bw rfl Nl.d1 trivial (fun i hi=>?_) (Nat.le_trans hl (by decide))]
  ·rw [List.filter_eq_nil_iff.mpr fun _ _=>by simp]
   rfl
  ·have i0:=fun s=>i0 s i hi
   have i1:∀s:SD,ixK s (some (.dct (ah f is))) (some (.int i))= .ok (.d (.int (f i))) s:=fun s=>ao (bF hi)
   have wh:=jj (f i)
   unfold Z.gO
   simp! only [i0,i1,wh]
 ·rw [vL (i:=c) (l:=is) D.int D.int (fun _=>false) rfl ec bw (fun i hi=>?_) (Nat.le_trans hl (by decide))]
  ·rw [List.filter_eq_nil_iff.mpr fun _ _=>by simp]
   rfl
  ·have i0:=fun s=>i0 s i hi
   have lk:∀{S' :Sto} {F:(SD→R Vl)→SD→R Bool},wo 2 F (ah f is) ⟨[some (.d (.dct (ah g is'))),some (.d (.cell c)),some (.d (.int i))],S'⟩=F (zC (.int (f i))) ⟨[some (.d (.dct (ah g is'))),some (.d (.cell c)),some (.d (.int i))],S'⟩:=fun {S' F}=>lkT_ok rfl (bF hi)
   have wh:=jj (f i)
   unfold Z.gO
   simp! only [i0,lk,wh]
theorem nF (hy:Hand S y (ah f is)) (hl:is.length≤1000) (e:∀i∈is,g i=f i) (hp:is'.Perm is):goF bJ [.dct (ah g is'),y] ⟨sl,S⟩= .ok (.d (.bl true)) ⟨sl,S⟩:=by
 have cy:=fun sl=>hy.cont (sl:=sl)
 have ec:ah g is' =ah f is' :=gy fun i hi=>e i (hp.mem_iff.mp hi)
 have ne:∀s:SD,neK s (some (.dct (ah g is'))) (some (.dct (ah f is)))= .ok (.d (.bl false)) s:=fun s=>by rw [ec]; exact neK_dd (nI hp)
 have lc:=wh_lc (S:=S) (p1:=none) hy hl e (fun i hi=>hp.mem_iff.mpr hi)
 refine ew ?_
 show Wp (km ⟨[some (.d (.dct (ah g is'))),some (.d y),none],S⟩) _ _
 unfold km
 simp! only [cy,ne,lc]
def hW (p:PartD):D:= .tup [.bl p.ring, .lst (bQ p.road), .int p.am]
theorem zf (hl:ps.length≤1000):goF fw [.lst (ps.map aC)] ⟨sl,S⟩= .ok (.own (.lst (ps.map hW))) ⟨sl,S⟩:=by
 have lc:∀v1,lcK (zSt 1) fm (fR (zA (z1 (ba ["Part"] "is_ring") (aa 1)) (zA (z1 iD (z1 (ba ["Part"] "numbers") (aa 1))) (zA (z1 (ba ["Part"] "amount") (aa 1)) zA0)))) [1] ⟨[.d (.lst (ps.map aC))],fun _=>True,ps.map aC⟩ ⟨[some (.d (.lst (ps.map aC))),v1],S⟩= .ok (.own (.lst (ps.map hW))) ⟨[some (.d (.lst (ps.map aC))),none],S⟩:=fun v1=>by
  refine vK aC hW rfl rfl Nl.d1 trivial (fun p hp=>?_) (Nat.le_trans hl (by decide))
  unfold Z.gO
  simp! only [aZ,ak lT,ak pd,ak gu]
  rfl
 refine ew ?_
 show Wp (vh ⟨[some (.d (.lst (ps.map aC))),none],S⟩) _ _
 unfold vh
 simp! only [lc]
end
def lO (q:Tq):List PyData:= [.str q.2.tail, .str q.2.head, .int q.2.least,yL q.2.most, .int q.2.price]
section
variable {S:Sto} {sl:List (Option Vl)} {x y:D} {d b j a:Nat} {N:ND} {names:List Str} {ts rd rs:List Tq} {z x0 y0 s t:Str} {q:Tq} {zs:List Str} {am:Int} {rg:Bool} {p:PartD}
theorem AW (q:Tq):D.pys [.str q.2.tail, .str q.2.head, .int q.2.least,aY q.2.most, .int q.2.price]=some (lO q):=by
 simp only [D.pys,D.py,py_most,lO]
theorem rk:∀ts:List Tq,D.pys (ts.map br)=some (ts.map fun q=> .tuple (lO q))
 | []=>rfl
 | q::ts=>by
  rw [List.map_cons,D.pys,rk ts]
  show (match D.py (.tup _),_ with | some a,some b=>some (a::b) | _,_=>none)=_
  unfold D.py
  rw [AW q]
  rfl
theorem Bo (q:Tq) (h1:Al q.2.tail) (h2:Al q.2.head):PyData.canLayAll0 (lO q)=true∧PyData.depthAll (lO q)=0:=by
 unfold lO
 simp only [PyData.canLayAll0,PyData.canLay0,PyData.depthAll,PyData.depth,kQ h1,kQ h2,Bp,Bool.and_self,Nat.max_self,and_self]
theorem rP:∀ts:List Tq,(∀q∈ts,Al q.2.tail∧Al q.2.head)→PyData.canLayAll0 (ts.map fun q=> .tuple (lO q))=true∧PyData.depthAll (ts.map fun q=> .tuple (lO q))≤1
 | [],_=>⟨rfl,Nat.zero_le _⟩
 | q::ts,h=>by
  obtain ⟨h1,h2⟩:=h q (List.mem_cons_self ..)
  obtain ⟨e1,e2⟩:=Bo q h1 h2
  obtain ⟨i1,i2⟩:=rP ts fun p hp=>h p (List.mem_cons_of_mem _ hp)
  rw [List.map_cons,PyData.canLayAll0,PyData.depthAll,PyData.canLay0,PyData.depth,e1,e2,i1]
  exact ⟨rfl,by omega⟩
theorem yI (h:∀q∈ts,Al q.2.tail∧Al q.2.head):∀s:SD,inDK false s (some .non) (some (.lst (ts.map br)))= .ok (.d (.bl false)) s:=fun s=>by
 have e2:D.py (.lst (ts.map br))=some (.list (ts.map fun q=> .tuple (lO q))):=by
  unfold D.py
  rw [rk]
 have sh:SeqAt.shaped (.list (ts.map fun q=> .tuple (lO q)))=true:=by
  obtain ⟨e1,e2⟩:=rP ts h
  unfold SeqAt.shaped
  rw [PyData.canLay0,PyData.depth,e1]
  exact decide_eq_true (by omega)
 exact inDK_ok (neg:=false) (r:=false) (d:= .none) rfl e2 (by rfl) sh (by
  rw [List.any_map]
  exact List.any_eq_false.mpr fun q _=>by
   show¬PyData.eqv (.tuple (lO q)) .none=true
   intro h
   cases h)
def posF (y:Str):List Tq→Str
 | []=>y
 | q::_=>q.2.tail
theorem pe:∀{rs:List Tq} {x:Str},Path x rs y0→x=posF y0 rs
 | [],_,h=>h
 | _::_,_,h=>h.1.symm
theorem A3 {j:Nat} (hp:Path x0 rs y0) (e:rs[j]? =some q):q.2.head=posF y0 (rs.drop (j+1))∧posF y0 (rs.drop j)=q.2.tail:=by
 obtain ⟨hj,rfl⟩:=List.getElem?_eq_some_iff.mp e
 have h1:=lU j hj hp
 rw [List.drop_eq_getElem_cons hj] at h1 ⊢
 exact ⟨pe h1.2,rfl⟩
theorem zS {ks:List Key} {k:Key}:∀i,i≤ks.length→M.nM (ks++ [k]) i=M.nM ks i
 | 0,_=>rfl
 | i+1,h=>by
  unfold M.nM
  rw [zS i (by omega),List.take_append_of_le_length (by omega),List.getD_eq_getElem?_getD,List.getD_eq_getElem?_getD,List.getElem?_append_left (by omega)]
theorem uh (nd:zs.Nodup) (hz:z∈zs) (few:zs.length≤1000):∀s:SD,iH s (some (.lst ((zs++ [z]).map .str)))= .ok (.d (.int (zs.length:Nat))) s:=fun s=>by
 unfold iH
 dsimp only
 rw [mh]
 dsimp only
 rw [if_pos (by rw [List.length_map,List.length_append]; show zs.length+1≤4000; omega)]
 have nk:(zs.map (Sum.inr:Str→Key)).Nodup:=List.Pairwise.map _ (fun a b h e=>h (Sum.inr.inj e)) nd
 have e:M.nM ((zs++ [z]).map (Sum.inr:Str→Key)) ((zs++ [z]).map (Sum.inr:Str→Key)).length=zs.length:=by
  rw [List.map_append,List.length_append,List.length_map]
  show M.nM (zs.map Sum.inr++ [Sum.inr z]) (zs.length+1)=_
  unfold M.nM
  rw [zS _ (by rw [List.length_map]; exact Nat.le_refl _),M.uU nk _ (by rw [List.length_map]; exact Nat.le_refl _),if_pos ?_]
  ·rfl
  ·rw [List.getD_eq_getElem?_getD,List.getElem?_append_right (by rw [List.length_map]; exact Nat.le_refl _),List.length_map,Nat.sub_self]
   show Sum.inr z∈List.take _ _
   rw [List.take_append_of_le_length (by rw [List.length_map]; exact Nat.le_refl _),List.take_of_length_le (by rw [List.length_map]; exact Nat.le_refl _)]
   exact List.mem_map.mpr ⟨z,hz,rfl⟩
 rw [e]
theorem wC (nd:zs.Nodup) (few:zs.length≤1000):∀s:SD,iH s (some (.lst (zs.map .str)))= .ok (.d (.int (zs.length:Nat))) s:=fun s=>by
 have nk:(zs.map (Sum.inr:Str→Key)).Nodup:=List.Pairwise.map _ (fun a b h e=>h (Sum.inr.inj e)) nd
 have:=wD (s:=s) (mh zs) nk (by rw [List.length_map]; omega)
 rw [List.length_map] at this
 exact this
theorem tP {s:SD} (q:Tq):(ixK s (some (br q)) (some (.int 0))= .ok (.d (.str q.2.tail)) s)∧(ixK s (some (br q)) (some (.int 1))= .ok (.d (.str q.2.head)) s):=⟨ao rfl,ao rfl⟩
theorem so {s:SD}:s.cont (.d (br q))=some (br q):=rfl
abbrev wgS (x:D) (p:PartD) (s t:Str) (rd:List Tq) (sp:List Str) (v6 v7:Option Vl) (S:Sto):SD:=⟨[some (.d x),some (.d (aC p)),some (.d (.str s)),some (.d (.str t)),some (.d (.lst (rd.map br))),some (.own (.lst (sp.map .str))),v6,v7],S⟩
def fL (y0:Str) (rd:List Tq) (j:Nat):List Str:=(rd.take j).map (·.2.tail)++ [posF y0 (rd.drop j)]
theorem rY (hM:MdlAt S x N) (hG:Good N) (ok:PartOk N.ties s t p):goF eD [x,aC p, .str s, .str t] ⟨sl,S⟩= .ok (.d (.bl true)) ⟨sl,S⟩:=by
 obtain ⟨a,h1,h2⟩:=hM.ties
 have h1' :∀sl,ixK ⟨sl,S⟩ (SD.cont ⟨sl,S⟩ (.d x)) (some (.str "ties"))= .ok (.d a) ⟨sl,S⟩:=fun sl=>h1 _ rfl
 have h2' :∀sl,SD.cont ⟨sl,S⟩ (.d a)=some (.dct (aj br N.ties)):=fun sl=>h2 _ rfl
 obtain ⟨rg,rd,am⟩:=p
 have ne:rd≠ []:=ok.ne
 have mem:∀q∈rd,q∈N.ties:=ok.mem
 have nd:(rd.map (·.2.tail)).Nodup:=ok.nd
 have rl:rd.length≤N.names.length:=by
  have:=List.Nodup.length_le_of_subset nd (l₂:=N.names) fun z hz=>by
   obtain ⟨q,hq,rfl⟩:=List.mem_map.mp hz
   exact (hG.pl q (mem q hq)).1
  rw [List.length_map] at this
  exact this
 have nl:=hG.nl
 obtain ⟨x0,y0,hp,hend⟩:∃x0 y0,Path x0 rd y0∧(if rg=true then x0=y0 else x0=s∧y0=t∧t∉rd.map (·.2.tail)):=by
  cases rg with
  | true=>obtain ⟨x1,h⟩:=ok.rg rfl; exact ⟨x1,x1,h,by rw [if_pos rfl]⟩
  | false=>obtain ⟨h3,h4⟩:=ok.way rfl; exact ⟨s,t,h3,by rw [if_neg (by simp)]; exact ⟨rfl,rfl,h4⟩⟩
 have lc:∀v4,lcK (zSt 7) fm (zM2 yX wB (z2 oIx (aa 0) (zC (.str "ties"))) (aa 7)) [7] ⟨[.d (.lst (bQ rd))],fun _=>True,bQ rd⟩ ⟨[some (.d x),some (.d (aC ⟨rg,rd,am⟩)),some (.d (.str s)),some (.d (.str t)),v4,none,none,none],S⟩= .ok (.own (.lst (rd.map br))) ⟨[some (.d x),some (.d (aC ⟨rg,rd,am⟩)),some (.d (.str s)),some (.d (.str t)),v4,none,none,none],S⟩:=fun v4=>by
  refine vK (fun q:Tq=>D.int q.1) br rfl rfl Nl.d1 trivial (fun q hq=>?_) (by rw [sizeLine_eq]; omega)
  have dv:eN (aj br N.ties) (.inl q.1)=some (br q):=by
   rw [fg,bj hG.rise (mem q hq)]
   rfl
  unfold Z.gO
  simp! only [h1',h2',w_get1,za,dv,Option.getD_some]
 have nn:=yI (ts:=rd) fun q hq=>hG.al.2 q (mem q hq)
 obtain ⟨q0,rd',e0⟩:∃q0 rd',rd=q0::rd' :=by
  cases rd with
  | nil=>exact (ne rfl).elim
  | cons q r=>exact ⟨q,r,rfl⟩
 have x0e:x0=q0.2.tail:=by
  have:=pe hp
  rw [e0] at this
  exact this
 have em:(rd.map br).isEmpty=false:=by rw [e0]; rfl
 have i0:∀s:SD,ixK s (some (.lst (rd.map br))) (some (.int 0))= .ok (.d (br q0)) s:=fun s=>ao (by rw [e0]; exact atI_nat (xs:=List.map br (q0::rd')) (j:=0) rfl)
 have r0:=fun s:SD=>(tP (s:=s) q0).1
 have c0:=fun s:SD=>so (s:=s) (q:=q0)
 refine ew ?_
 show Wp (gN ⟨[some (.d x),some (.d (aC ⟨rg,rd,am⟩)),some (.d (.str s)),some (.d (.str t)),none,none,none,none],S⟩) _ _
 unfold gN
 simp! only [aZ,ak lT,lc,cU,em,w_inD,nn,i0,r0,c0]
 rw [ab]
 have sl0:fL y0 rd 0= [q0.2.tail]:=by
  unfold fL
  rw [List.take_zero,List.drop_zero,←pe hp,x0e]
  rfl
 refine di (fun j s' =>∃v6 v7,s' =wgS x ⟨rg,rd,am⟩ s t rd (fL y0 rd j) v6 v7 S) Nl.d1 (fun _ _ _=>trivial) ⟨none,none,by rw [sl0]; rfl⟩ (fun j y s' e hI=>?_) (fun s' hI=>?_)
 ·obtain ⟨v6,v7,rfl⟩:=hI
  have e:(rd.map br)[j]? =some y:=e
  rw [List.getElem?_map] at e
  obtain ⟨q,eq,rfl⟩:=Option.map_eq_some_iff.mp e
  obtain ⟨n1,n2⟩:=A3 hp eq
  have hj:j<rd.length:=(List.getElem?_eq_some_iff.mp eq).1
  have e1:fL y0 rd j=(rd.take j).map (·.2.tail)++ [q.2.tail]:=by unfold fL; rw [n2]
  have e2:(fL y0 rd j).map D.str++ [.str q.2.head]=(fL y0 rd (j+1)).map D.str:=by
   rw [e1]
   unfold fL
   rw [←n1,List.take_succ,eq]
   simp
  have il:∀s:SD,ixK s (some (.lst ((fL y0 rd j).map .str))) (some (.int (-1)))= .ok (.d (.str q.2.tail)) s:=fun s=>ao (by rw [e1]; exact pL)
  have r5:=fun s:SD=>(tP (s:=s) q).1
  have r6:=fun s:SD=>(tP (s:=s) q).2
  have c5:=fun s:SD=>so (s:=s) (q:=q)
  have sz:(((fL y0 rd j).map D.str).length<sizeLine)=True:=eq_true (by rw [List.length_map,e1,List.length_append,List.length_map,List.length_take,sizeLine_eq]; simp only [List.length_cons,List.length_nil]; omega)
  simp! only [c5,r5,r6,il,sz,e2,decide_true]
  exact ⟨_,_,rfl⟩
 ·obtain ⟨v6,v7,rfl⟩:=hI
  rw [show (Src.ds ⟨[.d (.lst (rd.map br))],fun _=>True,rd.map br⟩).length=rd.length by show (rd.map br).length=_; rw [List.length_map]]
  have es:fL y0 rd rd.length=rd.map (·.2.tail)++ [y0]:=by
   unfold fL
   rw [List.take_length,List.drop_length]
   rfl
  rw [es]
  have il:∀s:SD,ixK s (some (.lst ((rd.map (·.2.tail)++ [y0]).map .str))) (some (.int (-1)))= .ok (.d (.str y0)) s:=fun s=>ao pL
  have if' :∀s:SD,ixK s (some (.lst ((rd.map (·.2.tail)++ [y0]).map .str))) (some (.int 0))= .ok (.d (.str x0)) s:=fun s=>ao (by
   rw [e0,x0e]
   exact atI_nat (xs:=List.map D.str (List.map (fun q:Tq=>q.2.tail) (q0::rd')++ [y0])) (j:=0) rfl)
  have ll:((rd.map (·.2.tail)++ [y0]).map D.str).length=rd.length+1:=by rw [List.length_map,List.length_append,List.length_map]; rfl
  cases rg with
  | true=>
   rw [if_pos rfl] at hend
   have ls:=uh nd (z:=y0) (by rw [←hend,x0e,e0]; exact List.mem_cons_self) (by rw [List.length_map]; omega)
   rw [List.length_map] at ls
   have d1:=decide_eq_true hend
   have d2:decide ((rd.length:Int)=((rd.length+1:Nat):Int) - 1)=true:=decide_eq_true (by omega)
   simp! only [aZ,ak gu,il,if',iT,ls,ll,d1,d2]
  | false=>
   rw [if_neg (by simp)] at hend
   obtain ⟨h3,h4,h5⟩:=hend
   have ls:=wC (zs:=rd.map (·.2.tail)++ [y0]) (by
    rw [List.nodup_append]
    exact ⟨nd,by simp,fun a ha b hb e=>h5 (by rw [←h4,←List.mem_singleton.mp hb,←e]; exact ha)⟩) (by rw [List.length_append,List.length_map]; simp only [List.length_cons,List.length_nil]; omega)
   rw [show (rd.map (·.2.tail)++ [y0]).length=rd.length+1 by rw [List.length_append,List.length_map]; rfl] at ls
   have d1:=decide_eq_true h3
   have d2:=decide_eq_true h4
   simp! only [aZ,ak gu,il,if',iT,ls,ll,d1,d2,decide_true]
end
section
variable {S S' :Sto} {sl:List (Option Vl)} {x y:D} {l d j a:Nat} {N:ND} {f:Int→Int} {is:List Int} {names:List Str} {ts road rd:List Tq} {z s t:Str} {q:Tq} {am rest due:Int} {rg:Bool} {p:PartD} {ps:List PartD}
structure PartsOk (N:ND) (s t:Str) (f:Int→Int) (rest:Int) (ps:List PartD):Prop where
 ok:∀p∈ps,PartOk N.ties s t p
 sum:∀q∈N.ties,f q.1=sU ps q.1
 way:rest=(ps.map qO).sum
 len:ps.length≤eM f N.ties
theorem A4 (hG:Good N) (hs:s∈N.names) (hst:s≠t) (I:InvF N.ties s t f rest):PartsOk N s t f rest (jV N s t f rest):=by
 have pl:=tU (f:=f) (ts:=N.ties)
 obtain ⟨h1,h2,h3,h4,_⟩:=wj hG.rise hG.pl hs hst (N.ties.length+1) f rest I (by split<;> omega)
 exact ⟨h1,h2,h3,h4⟩
theorem pos_is (hp:is.Perm (ts.map (·.1))):(is.filter fun i=>decide (0<f i)).length=eM f ts:=by
 have h1:=(hp.filter fun i=>decide (0<f i)).length_eq
 rw [h1,List.filter_map,List.length_map]
 unfold eM
 rw [List.countP_eq_length_filter]
 rfl
theorem am_le (nn:∀q∈ts,0≤f q.1) (h:∀q∈ts,f q.1=sU ps q.1) (hp:p∈ps) (ok:∀p∈ps,PartOk ts s t p):∃q∈ts,p.am≤f q.1:=by
 have o:=ok p hp
 obtain ⟨q,hq⟩:=List.exists_mem_of_ne_nil _ o.ne
 have hm:=o.mem q hq
 refine ⟨q,hm, ?_⟩
 rw [h q hm]
 have:=lC (l:=ps.map (cQ q.1)) (v:=cQ q.1 p) (fun v hv=>by
  obtain ⟨r,hr,rfl⟩:=List.mem_map.mp hv
  have:=(ok r hr).a1
  unfold cQ
  split<;> omega) (List.mem_map.mpr ⟨p,hp,rfl⟩)
 rw [show cQ q.1 p=p.am from if_pos (List.mem_map.mpr ⟨q,hq,rfl⟩)] at this
 exact this
theorem pg_lc {v2 v3 v4 v5 v6 v7 v9:Option Vl} (h:Hand S y (ah f is)) (hl:is.length≤1000):
  xk 1 (zSt 8) (wo 8 fun a=>zB (z2 oGt a (zC (.int 0)))) (zB (z2 oGt (z2 oIx (aa 1) (aa 8)) (zC (.int 0)))) (aa 8) [8] ⟨[some (.d x),some (.d y),v2,v3,v4,v5,v6,v7,none,v9],S⟩
   = .ok (.own (.lst ((is.filter fun i=>decide (0<f i)).map .int))) ⟨[some (.d x),some (.d y),v2,v3,v4,v5,v6,v7,none,v9],S⟩:=by
 have gt:∀i:Int,decide (f i > 0)=decide (0<f i):=fun i=>rfl
 rcases h with rfl | ⟨c,rfl,ec⟩
 ·rw [lcR_d (x:= .dct (ah f is)) rfl (by intro _ z; cases z)]
  simp! only []
  rw [pI (l:=is) D.int D.int (fun i=>decide (0<f i)) bw rfl Nl.d1 trivial (fun i hi=>?_) (Nat.le_trans hl (by decide))]
  ·rfl
  ·have i1:∀s:SD,ixK s (some (.dct (ah f is))) (some (.int i))= .ok (.d (.int (f i))) s:=fun s=>ao (bF hi)
   unfold Z.gO
   simp! only [i1,gt]
 ·rw [vL (i:=c) (l:=is) D.int D.int (fun i=>decide (0<f i)) rfl ec bw (fun i hi=>?_) (Nat.le_trans hl (by decide))]
  ·rfl
  ·have lk:∀{S' :Sto} {F:(SD→R Vl)→SD→R Bool},wo 8 F (ah f is) ⟨[some (.d x),some (.d (.cell c)),v2,v3,v4,v5,v6,v7,some (.d (.int i)),v9],S'⟩=F (zC (.int (f i))) ⟨[some (.d x),some (.d (.cell c)),v2,v3,v4,v5,v6,v7,some (.d (.int i)),v9],S'⟩:=fun {S' F}=>lkT_ok rfl (bF hi)
   unfold Z.gO
   simp! only [lk,gt]
theorem pz_lc {v2 v3 v4 v5 v6 v7 v9:Option Vl} (h:Hand S y (ah f is)) (hl:is.length≤1000):
  xl 1 (zSt 8) fm (fR (zA (aa 8) (zA (zC (.int 0)) zA0))) [8] ⟨[some (.d x),some (.d y),v2,v3,v4,v5,v6,v7,none,v9],S⟩
   = .ok (.own (.lst (is.map fun i=> .tup [.int i, .int 0]))) ⟨[some (.d x),some (.d y),v2,v3,v4,v5,v6,v7,none,v9],S⟩:=by
 have tn:∀(S:Sto) (d:D),d∈Wk.keys.ds (ah f is)→gO (zSt 8) fm (fR (zA (aa 8) (zA (zC (.int 0)) zA0))) [8] ⟨[some (.d x),some (.d y),v2,v3,v4,v5,v6,v7,none,v9],S⟩ (fun _=>true) (fun d=> .tup [d, .int 0]) d:=fun S d hd=>by
  rw [bw] at hd
  obtain ⟨i,_,rfl⟩:=List.mem_map.mp hd
  unfold Z.gO
  simp! only []
 rcases h with rfl | ⟨j,rfl,e⟩
 ·rw [lcD_d (x:= .dct (ah f is)) rfl (by intro _ z; cases z)]
  simp! only []
  rw [ji (fun d=> .tup [d, .int 0]) rfl Nl.d1 trivial (tn S) (by rw [bw,List.length_map]; exact Nat.le_trans hl (by decide))]
  rw [bw,List.map_map]
  rfl
 ·rw [vM (fun _=>true) (fun d=> .tup [d, .int 0]) rfl e (tn _) (by rw [bR]; exact Nat.le_trans hl (by decide)),List.filter_eq_self.mpr fun _ _=>rfl,bw,List.map_map]
  rfl
abbrev pgS (x y:D) (ps:List PartD) (s t:Str) (due:Int) (h:Int→Int) (is:List Int) (am:Int) (v7 v8 v9:Option Vl) (S:Sto):SD:=
 ⟨[some (.d x),some (.d y),some (.d (.lst (ps.map aC))),some (.d (.tup [.str s, .str t])),some (.d (.int due)),some (.own (.dct (ah h is))),some (.d (.int am)),v7,v8,v9],S⟩
noncomputable def pgB:SD→R Fl:=(ai (bb (zOr (cK (zB (z1 (pf .bool) (z1 (ba ["Part"] "is_ring") (aa 7))))) (cK (zB (z1 (pf .list) (z1 (ba ["Part"] "numbers") (aa 7)))))) (aN (zC (.bl false))) au)
 (ai (bb (zOr (cK (zB (ag aT [] (zA (z1 (ba ["Part"] "amount") (aa 7)) (zA (z1 (ba ["Part"] "amount") (aa 7)) zA0))))) (zB (z2 oLt (z1 (ba ["Part"] "amount") (aa 7)) (zC (.int 1))))) (aN (zC (.bl false))) au)
 (ai (bb (cK (zB (z1 yF (zLc (cZ (aR (z1 (ba ["Part"] "numbers") (aa 7)))) (zSt 9) fm (ag aT [] (zA (aa 9) (zA (aa 9) zA0))) [9])))) (aN (zC (.bl false))) au)
 (ai (bb (cK (zB (ag eD [] (zA (aa 0) (zA (aa 7) (zA (z2 oIx (aa 3) (zC (.int 0))) (zA (z2 oIx (aa 3) (zC (.int 1))) zA0))))))) (aN (zC (.bl false))) au)
 (ai (eo (cZ (aR (z1 (ba ["Part"] "numbers") (aa 7)))) (zSt 8) (dg (aa 5) (aa 8) (z2 bX (z2 oIx (aa 5) (aa 8)) (z1 (ba ["Part"] "amount") (aa 7)))))
 (aw (z2 bX (aa 6) (z2 mT (z1 (ba ["Part"] "amount") (aa 7)) (z1 Av (qL (z1 (ba ["Part"] "is_ring") (aa 7)))))) (zSt 6)))))))
theorem pg_turn {G:SD→R Fl} (hG:G=pgB) {h:Int→Int} {am:Int} {v8 v9:Option Vl} (hM:MdlAt S x N) (hGd:Good N) (ok:PartOk N.ties s t p) (hi:∀q∈N.ties,q.1∈is) (il:is.length≤1000) (hb:p.am≤1000*M60):
  Wp (G (pgS x y ps s t due h is am (some (.d (aC p))) v8 v9 S)) (fun fl s' =>fl= .nx∧∃v8 v9,s' =pgS x y ps s t due (fun i=>h i+cQ i p) is (am+qO p) (some (.d (aC p))) v8 v9 S) XF:=by
 have k1:=fun sl=>rY (sl:=sl) hM hGd ok
 have nf:=jc hGd.rise ok.mem ok.nd
 have a1:=ok.a1
 have wa:=jj p.am
 have d1:decide (p.am<1)=false:=decide_eq_false (by omega)
 have rl:p.road.length≤N.names.length:=by
  have:=List.Nodup.length_le_of_subset ok.nd (l₂:=N.names) fun z hz=>by
   obtain ⟨q,hq,rfl⟩:=List.mem_map.mp hz
   exact (hGd.pl q (ok.mem q hq)).1
  rw [List.length_map] at this
  exact this
 have nl:=hGd.nl
 have h60:=xh
 have m1:CMulX p.am 1=True:=eq_true (aM (by omega) (by omega) (by omega) (by omega))
 have m0:CMulX p.am 0=True:=eq_true (aM (by omega) (by omega) (by omega) (by omega))
 have lc:∀v8 v9,lcK (zSt 9) fm (ag aT [] (zA (aa 9) (zA (aa 9) zA0))) [9] ⟨[.d (.lst (bQ p.road))],fun _=>True,bQ p.road⟩ (pgS x y ps s t due h is am (some (.d (aC p))) v8 v9 S)= .ok (.own (.lst (p.road.map fun _=> .bl true))) (pgS x y ps s t due h is am (some (.d (aC p))) v8 none S):=fun v8 v9=>by
  refine vK (fun q:Tq=>D.int q.1) (fun _=> .bl true) rfl rfl Nl.d1 trivial (fun q hq=>?_) (by rw [sizeLine_eq]; omega)
  have wq:=jj q.1
  unfold Z.gO
  simp! only [wq]
 have al:=fun s:SD=>qD (s:=s) (ds:=p.road.map fun _=>D.bl true) (jo (fun _=>true) p.road)
 have t1:=qC p.road
 have e0:∀u:SD,ixK u (some (.tup [.str s, .str t])) (some (.int 0))= .ok (.d (.str s)) u:=fun u=>ao rfl
 have e1:∀u:SD,ixK u (some (.tup [.str s, .str t])) (some (.int 1))= .ok (.d (.str t)) u:=fun u=>ao rfl
 subst hG
 unfold pgB
 simp! only [aZ,ak gu,ak lT,ak pd,wa,d1,lc,al,t1,k1,e0,e1]
 rw [ab]
 refine di (fun j s' =>∃v8,s' =pgS x y ps s t due (bC h (-p.am) (p.road.take j)) is am (some (.d (aC p))) v8 none S) Nl.d1 (fun _ _ _=>trivial) ⟨v8,rfl⟩ (fun j y' s' e hI=>?_) (fun s' hI=>?_)
 ·obtain ⟨v8,rfl⟩:=hI
  have e:(bQ p.road)[j]? =some y' :=e
  rw [List.getElem?_map] at e
  obtain ⟨q,eq,rfl⟩:=Option.map_eq_some_iff.mp e
  have mi:=hi q (ok.mem q (List.mem_of_getElem? eq))
  have ht:p.road.take (j+1)=p.road.take j++ [q]:=by rw [List.take_succ,eq]; rfl
  have e2:bC h (-p.am) (p.road.take (j+1))=kP (bC h (-p.am) (p.road.take j)) (-p.am) q:=by
   rw [ht]
   unfold bC
   rw [List.foldl_append]
   rfl
  have i5:∀(f:Int→Int) (s:SD),ixK s (some (.dct (ah f is))) (some (.int q.1))= .ok (.d (.int (f q.1))) s:=fun f s=>ao (bF mi)
  have sp:=fun (f:Int→Int) (s:SD) (o:Vl)=>bT (a:=o) (x:= .int (f q.1+p.am)) (s:=s) (k:= .inl q.1) (z:= .int q.1) (ks:=ah f is) rfl (by rw [bR,sizeLine_eq]; omega)
  have fu:=fun f:Int→Int=>pW (f:=f) (am:=p.am) mi
  simp! only [aZ,ak pd,i5,sp,fu]
  rw [e2]
  exact ⟨_,rfl⟩
 ·obtain ⟨v8,rfl⟩:=hI
  rw [show (Src.ds ⟨[.d (.lst (bQ p.road))],fun _=>True,bQ p.road⟩).length=p.road.length by show (bQ p.road).length=_; rw [List.length_map]]
  rw [List.take_length,show bC h (-p.am) p.road=fun i=>h i+cQ i p from funext fun i=>qS nf i]
  obtain ⟨rg,rd,pa⟩:=p
  cases rg with
  | true=>
   simp! only [aZ,ak pd,ak gu,m0,m1,Int.mul_zero,Int.mul_one]
   exact ⟨_,_,rfl⟩
  | false=>
   simp! only [aZ,ak pd,ak gu,m0,m1,Int.mul_zero,Int.mul_one]
   exact ⟨_,_,rfl⟩
theorem pV (hM:MdlAt S x N) (hG:Good N) (hy:Hand S y (ah f is)) (hp:is.Perm (N.ties.map (·.1))) (P:PartsOk N s t f rest ps) (nn:∀q∈N.ties,0≤f q.1) (hb:∀q∈N.ties,f q.1≤1000*M60):
  goF bI [x,y, .lst (ps.map aC), .tup [.str s, .str t], .int rest] ⟨sl,S⟩= .ok (.d (.bl true)) ⟨sl,S⟩:=by
 have tl:=hG.tl
 have il:is.length≤1000:=by rw [hp.length_eq,List.length_map]; omega
 have pl:=P.len
 have pl2:=tU (f:=f) (ts:=N.ties)
 have lc1:=fun {v2 v3 v4 v5 v6 v7 v9}=>pg_lc (x:=x) (v2:=v2) (v3:=v3) (v4:=v4) (v5:=v5) (v6:=v6) (v7:=v7) (v9:=v9) hy il
 have lc2:=fun {v2 v3 v4 v5 v6 v7 v9}=>pz_lc (x:=x) (v2:=v2) (v3:=v3) (v4:=v4) (v5:=v5) (v6:=v6) (v7:=v7) (v9:=v9) hy il
 have l1:((ps.map aC).length:Int)=(ps.length:Int):=by rw [List.length_map]
 have l2:(((is.filter fun i=>decide (0<f i)).map D.int).length:Int)=(eM f N.ties:Int):=by rw [List.length_map,pos_is hp]
 have d1:decide ((ps.length:Int) > (eM f N.ties:Int))=false:=decide_eq_false (by omega)
 have nd:is.Nodup:=hp.nodup_iff.mpr (List.Pairwise.imp (fun h e=>by omega) hG.rise)
 have dp:=fun s:SD=>nJ (s:=s) (jW (f:=fun _=>0) is)
 rw [iJ nd] at dp
 have hi:∀q∈N.ties,q.1∈is:=fun q hq=>hp.mem_iff.mpr (List.mem_map.mpr ⟨q,hq,rfl⟩)
 have cy:=fun sl=>hy.cont (sl:=sl)
 refine ew ?_
 show Wp (fK ⟨[some (.d x),some (.d y),some (.d (.lst (ps.map aC))),some (.d (.tup [.str s, .str t])),some (.d (.int rest)),none,none,none,none,none],S⟩) _ _
 rw [show fK=(ai (bb (zOr (cK (zB (z1 (pf .list) (aa 2)))) (zB (z2 oGt (z1 cS (aa 2)) (z1 cS (xk 1 (zSt 8) (wo 8 fun a=>zB (z2 oGt a (zC (.int 0)))) (zB (z2 oGt (z2 oIx (aa 1) (aa 8)) (zC (.int 0)))) (aa 8) [8]))))) (aN (zC (.bl false))) au)
 (ai (aw (z1 eY (xl 1 (zSt 8) fm (fR (zA (aa 8) (zA (zC (.int 0)) zA0))) [8])) (zSt 5))
 (ai (aw (zC (.int 0)) (zSt 6))
 (ai (eo (cZ (aR (aa 2))) (zSt 7) pgB)
 (aN (fV (z2 oEq (aa 5) (aa 1)) (z2 oEq (aa 6) (aa 4)))))))) from rfl]
 simp! only [lc1,lc2,l1,l2,d1,dp]
 rw [ab]
 refine di (fun j s' =>∃v7 v8 v9,s' =pgS x y ps s t rest (sU (ps.take j)) is (((ps.take j).map qO).sum) v7 v8 v9 S) Nl.d1 (fun _ _ _=>trivial) ⟨none,none,none,rfl⟩ (fun j y' s' e hI=>?_) (fun s' hI=>?_)
 ·obtain ⟨v7,v8,v9,rfl⟩:=hI
  have e:(ps.map aC)[j]? =some y' :=e
  rw [List.getElem?_map] at e
  obtain ⟨p,ep,rfl⟩:=Option.map_eq_some_iff.mp e
  have hp2:=List.mem_of_getElem? ep
  have ht:ps.take (j+1)=ps.take j++ [p]:=by rw [List.take_succ,ep]; rfl
  obtain ⟨q,hq,hle⟩:=am_le nn P.sum hp2 P.ok
  have hbq:=hb q hq
  simp! only []
  refine (pg_turn (v8:=v8) (v9:=v9) rfl hM hG (P.ok p hp2) hi il (by omega)).mono (fun fl s' hh=>?_) fun _ _ _ h=>h
  obtain ⟨rfl,v8,v9,rfl⟩:=hh
  rw [ht,qR,List.map_append,List.sum_append,List.map_cons,List.map_nil,List.sum_cons,List.sum_nil,Int.add_zero]
  exact ⟨_,_,_,rfl⟩
 ·obtain ⟨v7,v8,v9,rfl⟩:=hI
  rw [show (Src.ds ⟨[.d (.lst (ps.map aC))],fun _=>True,ps.map aC⟩).length=ps.length by show (ps.map aC).length=_; rw [List.length_map],List.take_length,←P.way]
  have ef:ah (sU ps) is=ah f is:=gy fun i hi=>by
   obtain ⟨q,hq,rfl⟩:=List.mem_map.mp (hp.mem_iff.mp hi)
   exact (P.sum q hq).symm
  have eq:∀s:SD,eqK s (some (.dct (ah (sU ps) is))) (some (.dct (ah f is)))= .ok (.d (.bl true)) s:=fun s=>by
   rw [ef]
   exact vY (zN (nI (f:=f) (List.Perm.refl is)))
  simp! only [cy,eq,decide_true]
end
section
variable {S:Sto} {sl:List (Option Vl)} {x y:D} {d j:Nat} {N:ND} {is:List Int} {rd rs:List Tq} {z z0 s:Str} {q:Tq} {c k:Int}
theorem up_at {m j:Nat} {y:D} (e:(Z.upTo 0 m)[j]? =some y):y= .int (j:Int):=by
 unfold Z.upTo at e
 rw [List.getElem?_map] at e
 obtain ⟨i,e1,rfl⟩:=Option.map_eq_some_iff.mp e
 rw [List.getElem?_range (by
  have:=(List.getElem?_eq_some_iff.mp e1).1
  simpa using this)] at e1
 cases e1
 simp
theorem jg:∀{rs:List Tq} {x y:Str},Path x rs y→rs≠ []→∃q∈rs,q.2.head=y
 | [q],_,_,h,_=>⟨q,List.mem_cons_self,h.2⟩
 | _::q2::rs,_,_,h,_=>by
  obtain ⟨q,hq,e⟩:=jg h.2 (by simp)
  exact ⟨q,List.mem_cons_of_mem _ hq,e⟩
abbrev rdS (x:D) (c k:Int) (z:Str) (rd:List Tq) (v5 v6 v7:Option Vl) (S:Sto):SD:=⟨[some (.d x),some (.d (.int c)),some (.d (.int k)),some (.d (.str z)),some (.own (.lst (bQ rd))),v5,v6,v7],S⟩
theorem g_Lroad (hM:MdlAt S x N) (hG:Good N) (k0:0≤k) (k1:k≤900):∃rd z,Path z0 rd z∧(∀q∈rd,q∈N.ties)∧rd.length≤6∧∀sl,goF sN [x, .int c, .int k, .str z0] ⟨sl,S⟩= .ok (.d (.tup [.lst (bQ rd), .str z])) ⟨sl,S⟩:=by
 have kr:=fun sl=>g_Lrows (sl:=sl) hM hG.rise hG.tl
 have tl:=hG.tl
 have z6:((-(2 ^ 62):Int)≤6∧(6:Int)<2 ^ 62)=True:=eq_true (by decide)
 have key:Wp (qw ⟨[some (.d x),some (.d (.int c)),some (.d (.int k)),some (.d (.str z0)),none,none,none,none],S⟩) (fun fl s' =>∃rd z,(flv fl=some (.d (.tup [.lst (bQ rd), .str z]))∧s'.st=S)∧Path z0 rd z∧(∀q∈rd,q∈N.ties)∧rd.length≤6) XF:=by
  unfold qw
  simp! only [z6]
  rw [ab]
  refine di (fun j s' =>j≤6∧∃rd z v5 v6 v7,s' =rdS x c k z rd v5 v6 v7 S∧Path z0 rd z∧(∀q∈rd,q∈N.ties)∧rd.length≤j) nl0 (fun _ _ _=>trivial) ⟨Nat.zero_le _,[],z0,none,none,none,rfl,rfl,fun q hq=>(by cases hq),Nat.le_refl _⟩ (fun j y s' e hI=>?_) (fun s' hI=>?_)
  ·obtain ⟨j6,rd,z,v5,v6,v7,rfl,hp,hm,hl⟩:=hI
   have hj:j<6:=by
    have:=(List.getElem?_eq_some_iff.mp e).1
    simpa [Z.upTo] using this
   obtain rfl:=up_at e
   obtain ⟨n1,n10,n11,e1⟩:=dr c k (70+(j:Int)) (by omega) (by omega) (by omega) (by omega)
   obtain ⟨n2,n20,n21,e2⟩:=dr c k (80+(j:Int)) (by omega) (by omega) (by omega) (by omega)
   have lc:∀v6 v7,lcK (zSt 7) (zB (z2 oEq (z2 oIx (aa 7) (zC (.int 1))) (aa 3))) (aa 7) [7] ⟨[.d (.lst (N.ties.map mS))],fun _=>True,N.ties.map mS⟩ (rdS x c k z rd (some (.d (.int (j:Int)))) v6 v7 S)= .ok (.own (.lst ((N.ties.filter fun q=>decide (q.2.tail=z)).map mS))) (rdS x c k z rd (some (.d (.int (j:Int)))) v6 none S):=fun v6 v7=>by
    refine pI mS mS (fun q=>decide (q.2.tail=z)) rfl rfl Nl.d1 trivial (fun q hq=>?_) (by rw [sizeLine_eq]; omega)
    have r1:=fun s:SD=>(tO (s:=s) q).2.1
    have cr:=fun s:SD=>wd (s:=s) (q:=q)
    unfold Z.gO
    simp! only [cr,r1]
   obtain ⟨L,hL⟩:∃L,L=N.ties.filter fun q=>decide (q.2.tail=z):=⟨_,rfl⟩
   rw [←hL] at lc
   have b7:((0:Int)<7)=True:=by decide
   by_cases cE:L= []
   ·have em:(L.map mS).isEmpty=true:=by rw [cE]; rfl
    simp! only [kr,lc,cU,em]
    exact ⟨rd,z,by first | exact ⟨rfl,rfl⟩ | rfl,hp,hm,by omega⟩
   ·have em:(L.map mS).isEmpty=false:=by
     cases L with
     | nil=>exact (cE rfl).elim
     | cons=>rfl
    by_cases c7:n1%7=0
    ·have d7:=decide_eq_true c7
     simp! only [kr,lc,cU,em,e1,b7,d7]
     exact ⟨rd,z,by first | exact ⟨rfl,rfl⟩ | rfl,hp,hm,by omega⟩
    ·have d7:=decide_eq_false c7
     have l0:0<L.length:=List.length_pos_iff.mpr cE
     have ll:((L.map mS).length:Int)=(L.length:Int):=by rw [List.length_map]
     have bl:((0:Int)<(L.length:Int))=True:=eq_true (by omega)
     obtain ⟨q,hq,eq⟩:∃q,q∈L∧dIx (.lst (L.map mS)) (.int (n2%(L.length:Int)))=some (mS q):=by
      have h1:=Int.emod_nonneg n2 (show (L.length:Int)≠0 by omega)
      have h2:=Int.emod_lt_of_pos n2 (show 0<(L.length:Int) by omega)
      obtain ⟨u,hu⟩:∃u:Nat,n2%(L.length:Int)=(u:Int):=⟨(n2%(L.length:Int)).toNat,by omega⟩
      rw [hu] at h2 ⊢
      have h3:u<L.length:=by omega
      exact ⟨L[u],List.getElem_mem h3,atI_nat (by rw [List.getElem?_map,List.getElem?_eq_getElem h3]; rfl)⟩
     have ix:=fun s:SD=>ao (s:=s) eq
     rw [hL] at hq
     obtain ⟨hq1,hq2⟩:=List.mem_filter.mp hq
     have r0:=fun s:SD=>(tO (s:=s) q).1
     have r2:=fun s:SD=>(tO (s:=s) q).2.2.1
     have cr:=fun s:SD=>wd (s:=s) (q:=q)
     have sz:((bQ rd).length<sizeLine)=True:=eq_true (by rw [List.length_map,sizeLine_eq]; omega)
     have ap:bQ rd++ [.int q.1]=bQ (rd++ [q]):=by show rd.map _++_=(rd++ [q]).map _; rw [List.map_append]; rfl
     simp! only [kr,lc,cU,em,e1,b7,d7,e2,ll,bl,ix,cr,r0,r2,sz,ap]
     exact ⟨by omega,_,_,_,_,_,rfl,jf hp (of_decide_eq_true hq2),fun r hr=>by
      rcases List.mem_append.mp hr with hr | hr
      ·exact hm r hr
      ·rw [List.mem_singleton.mp hr]; exact hq1,by rw [List.length_append]; simp only [List.length_cons,List.length_nil]; omega⟩
  ·obtain ⟨j6,rd,z,v5,v6,v7,rfl,hp,hm,hl⟩:=hI
   simp! only []
   exact ⟨rd,z,by first | exact ⟨rfl,rfl⟩ | rfl,hp,hm,Nat.le_trans hl j6⟩
 obtain ⟨fl,s',e,rd,z,hh,h1,h2,h3⟩:=key.is
 refine ⟨rd,z,h1,h2,h3,fun sl=>ew ?_⟩
 show Wp (qw ⟨[some (.d x),some (.d (.int c)),some (.d (.int k)),some (.d (.str z0)),none,none,none,none],S⟩) _ _
 rw [e]
 exact hh
end
section
variable {S S' S1:Sto} {sl:List (Option Vl)} {x y:D} {n l d m ml md j a:Nat} {N N' N2:ND} {f g:Int→Int} {is:List Int} {names:List Str} {ts:List Tq} {z s t:Str} {q:Tq} {c le:Int} {p:PartD} {mo:Option Int}
structure Shp (N N' :ND):Prop where
 names:N'.names=N.names
 given:N'.given=N.given
 ties:N'.ties.map (fun q=>(q.1,q.2.tail,q.2.head))=N.ties.map fun q=>(q.1,q.2.tail,q.2.head)
theorem Shp.refl:Shp N N:=⟨rfl,rfl,rfl⟩
theorem Shp.trans (h:Shp N N') (g:Shp N' N2):Shp N N2:=⟨g.names.trans h.names,g.given.trans h.given,g.ties.trans h.ties⟩
theorem Shp.nums (h:Shp N N'):N'.ties.map (·.1)=N.ties.map (·.1):=by
 have:=congrArg (List.map fun q:Int×Str×Str=>q.1) h.ties
 rw [List.map_map,List.map_map] at this
 exact this
theorem Shp.len (h:Shp N N'):N'.ties.length=N.ties.length:=by
 have:=congrArg List.length h.ties
 rw [List.length_map,List.length_map] at this
 exact this
theorem Shp.bal (h:Shp N N') (f:Int→Int) (z:Str):T.bal f N'.ties z=T.bal f N.ties z:=by
 have:=congrArg (List.map fun q:Int×Str×Str=>(if q.2.2=z then f q.1 else 0) - (if q.2.1=z then f q.1 else 0)) h.ties
 rw [List.map_map,List.map_map] at this
 unfold T.bal
 exact congrArg List.sum this
theorem Shp.mem (h:Shp N N') (hq:q∈N.ties):∃q'∈N'.ties,q'.1=q.1∧q'.2.tail=q.2.tail∧q'.2.head=q.2.head:=by
 have h1:(q.1,q.2.tail,q.2.head)∈N'.ties.map (fun q=>(q.1,q.2.tail,q.2.head)):=by rw [h.ties]; exact List.mem_map.mpr ⟨q,hq,rfl⟩
 obtain ⟨q',h2,e⟩:=List.mem_map.mp h1
 have e1:=Prod.mk.inj e
 have e2:=Prod.mk.inj e1.2
 exact ⟨q',h2,e1.1,e2.1,e2.2⟩
def cD (q:Tq) (le:Int) (mo:Option Int):TD:= {q.2 with least:=le,most:=mo}
def lP (N:ND) (q:Tq) (le:Int) (mo:Option Int):ND:=⟨N.names,cN N.ties q.1 (cD q le mo),N.given⟩
theorem vu (hG:Good N) (hq:q∈N.ties):Shp N (lP N q le mo):=by
 refine ⟨rfl,rfl, ?_⟩
 show (cN N.ties q.1 _).map _=_
 rw [gr hq,List.map_map]
 refine List.map_congr_left fun p hp=>?_
 show (fun q:Tq=>(q.1,q.2.tail,q.2.head)) (if p.1=q.1 then (q.1,cD q le mo) else p)=_
 by_cases c:p.1=q.1
 ·rw [if_pos c]
  have h1:=bj hG.rise hp
  have h2:=bj hG.rise hq
  rw [c] at h1
  have e:p.2=q.2:=Option.some.inj (h1.symm.trans h2)
  obtain ⟨pi,pt⟩:=p
  obtain ⟨qi,qt⟩:=q
  cases c
  cases e
  rfl
 ·rw [if_neg c]
theorem AK (hG:Good N) (e:N.ties[j]? =some q):(lP N q le mo).ties[j]? =some (q.1,cD q le mo)∧∀i p,i<j→N.ties[i]? =some p→(lP N q le mo).ties[i]? =some p:=by
 have hq:=List.mem_of_getElem? e
 have e1:(lP N q le mo).ties=N.ties.map fun p=>if p.1=q.1 then (q.1,cD q le mo) else p:=gr hq
 rw [e1]
 refine ⟨by rw [List.getElem?_map,e]; show some (if q.1=q.1 then _ else _)=_; rw [if_pos rfl],fun i p hi ep=>?_⟩
 rw [List.getElem?_map,ep]
 show some (if p.1=q.1 then _ else _)=_
 rw [if_neg]
 intro c
 have hp:=List.pairwise_map.mp hG.rise
 obtain ⟨h1,e2⟩:=List.getElem?_eq_some_iff.mp ep
 obtain ⟨h2,e3⟩:=List.getElem?_eq_some_iff.mp e
 have:=List.pairwise_iff_getElem.mp hp i j h1 h2 hi
 rw [e2,e3] at this
 omega
theorem vz (W:NW S n l d m ml md N) (hq:q∈N.ties) (ok:TieOk (cD q le mo)):Did S (((S.put md (.dct (aj br (cN N.ties q.1 (cD q le mo))))).tick).put d (.dct (aj bx (cN N.ties q.1 (cD q le mo))))) n l d m ml md (lP N q le mo):=
 we W.six W.net W.mod (.inr rfl) (W.good.set hq ok rfl rfl)
theorem qY (W:NW S n l d m ml md N) (hq:q∈N.ties) (ok:TieOk (cD q le mo)) (x:D):∀sl,goF ax [.cell n, .int q.1, .int le,aY mo] ⟨sl,S.put md x⟩= .ok (.d .non) ⟨sl,((S.put md x).tick).put d (.dct (aj bx (cN N.ties q.1 (cD q le mo))))⟩:=fun sl=>by
 obtain ⟨a1,a2,a3⟩:=W.six.a1
 obtain ⟨a4,a5,a6⟩:=W.six.a2
 obtain ⟨a7,a8,a9⟩:=W.six.a3
 exact nE (i:=q.1) (W.net.put (j:=md) (x:=x) a3 a6 a9) W.six.b1 W.six.b3 (bj W.good.rise hq) ok W.good.tl
noncomputable def frB:SD→R Fl:=(ai (aw (z2 oIx (z2 oIx (aa 1) (zC (.str "ties"))) (aa 2)) (jD [3,4,5,6,7]))
 (ai (dg (z2 oIx (aa 1) (zC (.str "ties"))) (aa 2) (fR (zA (aa 3) (zA (aa 4) (zA (zC (.int 0)) (zA (zC .non) (zA (aa 7) zA0)))))))
 (aH (bL "Net" "set_room" ax [] (aa 0) (zA (aa 2) (zA (zC (.int 0)) (zA (zC .non) zA0)))))))
theorem fr_turn {G:SD→R Fl} (hG:G=frB) {v3 v4 v5 v6 v7:Option Vl} (W:NW S n l d m ml md N) (hq:q∈N.ties):
  ∃S',NW S' n l d m ml md (lP N q 0 none)∧Did S S' n l d m ml md (lP N q 0 none)∧Wp (G ⟨[some (.d (.cell n)),some (.d (.cell m)),some (.d (.int q.1)),v3,v4,v5,v6,v7],S⟩) (fun fl s' =>fl= .nx∧∃v3 v4 v5 v6 v7,s' =(⟨[some (.d (.cell n)),some (.d (.cell m)),some (.d (.int q.1)),v3,v4,v5,v6,v7],S'⟩:SD)) XF:=by
 have okq:=(W.good.ts q hq).2
 have ok:TieOk (cD q 0 none):=⟨Int.le_refl _,by show (0:Int)≤M60; decide,rfl,okq.p0,okq.p1⟩
 have D:=vz W hq ok
 refine ⟨_,W.did D,D, ?_⟩
 have q1:=W.mod.m
 have q3:=W.mod.d
 have q4:=W.net.n
 obtain ⟨a1,a2,a3⟩:=W.six.a1
 obtain ⟨a10,a11,a12⟩:=W.six.a4
 have f1:∀x,(S.put md x).get n=some (.obj "Net" (iG l d N.given)):=fun x=>(Sto.put_ne a3).trans q4
 have rw5:=vy (f:=br) W.good.rise hq
 have r2:∀s:SD,ixK s (some (.dct (aj br N.ties))) (some (.int q.1))= .ok (.d (.tup [.str q.2.tail, .str q.2.head, .int q.2.least,aY q.2.most, .int q.2.price])) s:=fun s=>ao rw5
 have pt:=qY W hq ok
 have pt:∀x sl,goF ax [.cell n, .int q.1, .int 0, .non] ⟨sl,S.put md x⟩= .ok (.d .non) ⟨sl,((S.put md x).tick).put d (.dct (aj bx (cN N.ties q.1 (cD q 0 none))))⟩:=fun x=>pt x
 have sp:∀s a,oE (bP (.tup [.str q.2.tail, .str q.2.head, .int 0, .non, .int q.2.price])) a (.int q.1) s (some (.dct (aj br N.ties)))=s.mod (.dct (aj br (cN N.ties q.1 (cD q 0 none)))) a:=fun s a=>hX (t:=cD q 0 none) W.good.tl
 subst hG
 unfold frB
 simp! only [aJ,q1,q3,q4,f1,r2,pt,sp,Z.ar T.dU]
 exact ⟨_,_,_,_,_,rfl⟩
structure Frm (S S' :Sto) (n l d m ml md:Nat):Prop where
 nx:S.nx≤S'.nx
 fr:∀i,i<S.nx→i≠n→i≠l→i≠d→i≠m→i≠ml→i≠md→S'.get i=S.get i
theorem Frm.refl:Frm S S n l d m ml md:=⟨Nat.le_refl _,fun _ _ _ _ _ _ _ _=>rfl⟩
theorem Did.frm (D:Did S S' n l d m ml md N'):Frm S S' n l d m ml md:=⟨D.nx,D.fr⟩
theorem Frm.trans {S2:Sto} (h:Frm S S1 n l d m ml md) (g:Frm S1 S2 n l d m ml md):Frm S S2 n l d m ml md:=⟨Nat.le_trans h.nx g.nx,fun i h1 c1 c2 c3 c4 c5 c6=>(g.fr i (Nat.lt_of_lt_of_le h1 h.nx) c1 c2 c3 c4 c5 c6).trans (h.fr i h1 c1 c2 c3 c4 c5 c6)⟩
theorem xj {v3 v4 v5 v6 v7:Option Vl} {v2:Option Vl} (W:NW S n l d m ml md N):
  sF (z2 oIx (aa 1) (zC (.str "ties"))) (zSt 2) fm (fR (zA (aa 2) (zA (zC (.int 0)) zA0))) [2] ⟨[some (.d (.cell n)),some (.d (.cell m)),v2,v3,v4,v5,v6,v7],S⟩= .ok (.own (.lst ((N.ties.map (·.1)).map fun i=> .tup [.int i, .int 0]))) ⟨[some (.d (.cell n)),some (.d (.cell m)),none,v3,v4,v5,v6,v7],S⟩:=by
 have q1:=W.mod.m
 have q3:=W.mod.d
 have h1:z2 oIx (aa 1) (zC (.str "ties")) (⟨[some (.d (.cell n)),some (.d (.cell m)),v2,v3,v4,v5,v6,v7],S⟩:SD)= .ok (.d (.cell md)) ⟨[some (.d (.cell n)),some (.d (.cell m)),v2,v3,v4,v5,v6,v7],S⟩:=by
  simp! only [q1,aJ]
 have q2:(S.del md).get m=some (.dct (vF ml md N.given)):=by
  show (if m=md then none else S.get m)=_
  rw [if_neg W.six.a4.2.1,q1]
 have h2:z2 oIx (aa 1) (zC (.str "ties")) (⟨[some (.d (.cell n)),some (.d (.cell m)),v2,v3,v4,v5,v6,v7],S.del md⟩:SD)= .ok (.d (.cell md)) ⟨[some (.d (.cell n)),some (.d (.cell m)),v2,v3,v4,v5,v6,v7],S.del md⟩:=by
  simp! only [q2,aJ]
 have ed:Wk.keys.ds (aj br N.ties)=(N.ties.map (·.1)).map D.int:=by
  show (aj br N.ties).map (fun kv=>jl kv.1)=_
  unfold aj
  rw [List.map_map,List.map_map]
  rfl
 have tl:=W.good.tl
 rw [yS (i:=md) (l:=N.ties.map (·.1)) D.int (fun i=> .tup [.int i, .int 0]) (fun _=>true) h1 q3 h2 ed (fun i _=>?_) (by rw [List.length_map,sizeLine_eq]; omega),List.filter_eq_self.mpr fun _ _=>rfl]
 ·rfl
 ·unfold Z.gO
  simp! only []
theorem vS (W:NW S n l d m ml md N):∃S' N',NW S' n l d m ml md N'∧Shp N N'∧Frm S S' n l d m ml md∧∀sl,goF eE [.cell n, .cell m] ⟨sl,S⟩= .ok (.own (.dct (ah (fun _=>0) (N.ties.map (·.1))))) ⟨sl,S'⟩:=by
 have q1:=W.mod.m
 have q3:=W.mod.d
 have tl:=W.good.tl
 have s0:=fun s h=>kN (s:=s) (a:= .d (.cell md)) (ks:=aj br N.ties) h (gV N.ties) (by rw [List.length_map]; omega)
 rw [iW W.good.rise] at s0
 have s1:∀sl,bt (.d (.cell md)) ⟨sl,S⟩= .ok (.own (.lst ((N.ties.map (·.1)).map D.int))) ⟨sl,S⟩:=fun sl=>s0 ⟨sl,S⟩ q3
 have dp:=fun s:SD=>nJ (s:=s) (jW (f:=fun _=>0) (N.ties.map (·.1)))
 rw [iJ W.good.nums.2.1] at dp
 have key:Wp (kX ⟨[some (.d (.cell n)),some (.d (.cell m)),none,none,none,none,none,none],S⟩) (fun fl s' =>flv fl=some (.own (.dct (ah (fun _=>0) (N.ties.map (·.1)))))∧∃N',NW s'.st n l d m ml md N'∧Shp N N'∧Frm S s'.st n l d m ml md) XF:=by
  rw [show kX=(ai (eo (cZ (aR (z1 bt (z2 oIx (aa 1) (zC (.str "ties")))))) (zSt 2) frB)
 (aN (z1 eY (sF (z2 oIx (aa 1) (zC (.str "ties"))) (zSt 2) fm (fR (zA (aa 2) (zA (zC (.int 0)) zA0))) [2])))) from rfl]
  simp! only [q1,aJ,s1]
  rw [ab]
  refine di (fun j s' =>∃v2 v3 v4 v5 v6 v7 S1 N1,s' =(⟨[some (.d (.cell n)),some (.d (.cell m)),v2,v3,v4,v5,v6,v7],S1⟩:SD)∧NW S1 n l d m ml md N1∧Shp N N1∧Frm S S1 n l d m ml md) Nl.d1 (fun _ _ _=>trivial) ⟨none,none,none,none,none,none,S,N,rfl,W,Shp.refl,Frm.refl⟩ (fun j y s' e hI=>?_) (fun s' hI=>?_)
  ·obtain ⟨v2,v3,v4,v5,v6,v7,S1,N1,rfl,W1,H1,F1⟩:=hI
   have e:((N.ties.map (·.1)).map D.int)[j]? =some y:=e
   rw [←H1.nums,List.getElem?_map,List.getElem?_map] at e
   obtain ⟨i,ei,rfl⟩:=Option.map_eq_some_iff.mp e
   obtain ⟨q,eq,rfl⟩:=Option.map_eq_some_iff.mp ei
   have hq:=List.mem_of_getElem? eq
   obtain ⟨S2,W2,D2,h2⟩:=fr_turn (v3:=v3) (v4:=v4) (v5:=v5) (v6:=v6) (v7:=v7) rfl W1 hq
   simp! only []
   refine h2.mono (fun fl s' hh=>?_) fun _ _ _ h=>h
   obtain ⟨rfl,v3,v4,v5,v6,v7,rfl⟩:=hh
   exact ⟨_,_,_,_,_,_,S2,_,rfl,W2,H1.trans (vu W1.good hq),F1.trans D2.frm⟩
  ·obtain ⟨v2,v3,v4,v5,v6,v7,S1,N1,rfl,W1,H1,F1⟩:=hI
   have lc:=fun {v3 v4 v5 v6 v7 v2}=>xj (v3:=v3) (v4:=v4) (v5:=v5) (v6:=v6) (v7:=v7) (v2:=v2) W1
   rw [H1.nums] at lc
   simp! only [lc,dp]
   exact ⟨N1,W1,H1,F1⟩
 obtain ⟨fl,s',e,hh,N',W',H',F'⟩:=key.is
 refine ⟨s'.st,N',W',H',F',fun sl=>ew ?_⟩
 show Wp (kX ⟨[some (.d (.cell n)),some (.d (.cell m)),none,none,none,none,none,none],S⟩) _ _
 rw [e]
 exact ⟨hh,rfl⟩
end
section
variable {S S' S1:Sto} {sl:List (Option Vl)} {x y:D} {n l d m ml md b j a:Nat} {N N' :ND} {f:Int→Int} {is:List Int} {ts:List Tq} {s t:Str} {q:Tq} {c le nn:Int} {p:PartD} {mo:Option Int}
theorem pick3b {a b c lo hi:Int} (ha:lo≤a∧a≤hi) (hb:lo≤b∧b≤hi) (hc:lo≤c∧c≤hi) (j:Int):∃v:Int,lo≤v∧v≤hi∧dIx (.lst [.int a, .int b, .int c]) (.int (j%3))=some (.int v):=by
 rcases (show j%3=0∨j%3=1∨j%3=2 by omega) with e | e | e<;> rw [e]
 ·exact ⟨a,ha.1,ha.2,rfl⟩
 ·exact ⟨b,hb.1,hb.2,rfl⟩
 ·exact ⟨c,hc.1,hc.2,rfl⟩
def sC (f:Int→Int) (q:Tq):Prop:=q.2.least≤f q.1∧∀mx,q.2.most=some mx→f q.1≤mx
noncomputable def roB:SD→R Fl:=(ai (aw (z2 oIx (z2 oIx (aa 1) (zC (.str "ties"))) (aa 4)) (jD [5,6,7,8,9]))
 (ai (aw (ag aF [] (zA (z2 bX (aa 3) (aa 4)) (zA (zC (.int 3)) (zA (zC (.int 130)) zA0)))) (zSt 10))
 (ai (aw (z2 oIx (fS (zA (zC (.int 0)) (zA (z2 bN (aa 10) (z2 bX (z2 rG (z2 oIx (aa 2) (aa 4)) (z2 qK (zC (.int 10)) (zC (.int 60)))) (zC (.int 1)))) (zA (z2 rG (z2 oIx (aa 2) (aa 4)) (z2 qK (zC (.int 10)) (zC (.int 60)))) zA0)))) (z2 bN (aa 10) (zC (.int 3)))) (zSt 7))
 (ai (aw (zC .non) (zSt 8))
 (ai (bb (mV (zB (z2 oEq (z2 bN (z2 iF (aa 10) (zC (.int 3))) (zC (.int 2))) (zC (.int 1)))) (zB (z2 oLe (z2 oIx (aa 2) (aa 4)) (z2 qK (zC (.int 10)) (zC (.int 60)))))) (aw (z2 rG (z2 qK (zC (.int 10)) (zC (.int 60))) (z2 bX (z2 oIx (aa 2) (aa 4)) (z2 bN (z2 iF (aa 10) (zC (.int 6))) (zC (.int 4))))) (zSt 8)) au)
 (ai (dg (z2 oIx (aa 1) (zC (.str "ties"))) (aa 4) (fR (zA (aa 5) (zA (aa 6) (zA (aa 7) (zA (aa 8) (zA (aa 9) zA0)))))))
 (aH (bL "Net" "set_room" ax [] (aa 0) (zA (aa 4) (zA (aa 7) (zA (aa 8) zA0)))))))))))
abbrev roS (n m:Nat) (y:D) (nn:Int) (i:Int) (v5 v6 v7 v8 v9 v10:Option Vl) (S:Sto):SD:=⟨[some (.d (.cell n)),some (.d (.cell m)),some (.d y),some (.d (.int nn)),some (.d (.int i)),v5,v6,v7,v8,v9,v10],S⟩
theorem ro_turn {G:SD→R Fl} (hG:G=roB) {v5 v6 v7 v8 v9 v10:Option Vl} (W:NW S n l d m ml md N) (hq:q∈N.ties) (hy:Hand S y (ah f is)) (hi:q.1∈is) (f0:0≤f q.1):
  ∃S' le mo,NW S' n l d m ml md (lP N q le mo)∧Did S S' n l d m ml md (lP N q le mo)∧sC f (q.1,cD q le mo)∧Wp (G (roS n m y nn q.1 v5 v6 v7 v8 v9 v10 S)) (fun fl s' =>fl= .nx∧∃v5 v6 v7 v8 v9 v10,s' =roS n m y nn q.1 v5 v6 v7 v8 v9 v10 S') XF:=by
 have h60:=xh
 obtain ⟨u,u0,u1,eu⟩:=dr (nn+q.1) 3 130 (by decide) (by decide) (by decide) (by decide)
 obtain ⟨M,hM⟩:∃M,M=if M60<f q.1 then M60 else f q.1:=⟨_,rfl⟩
 have hM0:0≤M∧M≤M60∧M≤f q.1:=by rw [hM]; split<;> omega
 have r0:=Int.emod_nonneg u (show M+1≠0 by omega)
 have r1:=Int.emod_lt_of_pos u (show 0<M+1 by omega)
 obtain ⟨v,v0,v1,ev⟩:=pick3b (a:=0) (b:=u%(M+1)) (c:=M) (lo:=0) (hi:=M) ⟨by omega,by omega⟩ ⟨r0,by omega⟩ ⟨by omega,by omega⟩ u
 have px:=fun s:SD=>ao (s:=s) ev
 have okq:=(W.good.ts q hq).2
 have q1:=W.mod.m
 have q3:=W.mod.d
 have q4:=W.net.n
 have cy:=fun sl=>hy.cont (sl:=sl)
 obtain ⟨a1,a2,a3⟩:=W.six.a1
 obtain ⟨a10,a11,a12⟩:=W.six.a4
 have f1:∀x,(S.put md x).get n=some (.obj "Net" (iG l d N.given)):=fun x=>(Sto.put_ne a3).trans q4
 have rw5:=vy (f:=br) W.good.rise hq
 have r2:∀s:SD,ixK s (some (.dct (aj br N.ties))) (some (.int q.1))= .ok (.d (.tup [.str q.2.tail, .str q.2.head, .int q.2.least,aY q.2.most, .int q.2.price])) s:=fun s=>ao rw5
 have iy:∀s:SD,ixK s (some (.dct (ah f is))) (some (.int q.1))= .ok (.d (.int (f q.1))) s:=fun s=>ao (bF hi)
 have bM:(0<M+1)=True:=eq_true (by omega)
 have b3:((0:Int)<3)=True:=by decide
 have b2:((0:Int)<2)=True:=by decide
 have b4:((0:Int)<4)=True:=by decide
 have z3:CDivW u 3=True:=eq_true (aq (by omega) (by omega))
 have z6:CDivW u 6=True:=eq_true (aq (by omega) (by omega))
 have fin:∀(mo:Option Int),yh v (aY mo)=true→sC f (q.1,cD q v mo)→(∀S',(∀x sl,goF ax [.cell n, .int q.1, .int v,aY mo] ⟨sl,S.put md x⟩= .ok (.d .non) ⟨sl,((S.put md x).tick).put d (.dct (aj bx (cN N.ties q.1 (cD q v mo))))⟩)→
   (∀s a,oE (bP (.tup [.str q.2.tail, .str q.2.head, .int v,aY mo, .int q.2.price])) a (.int q.1) s (some (.dct (aj br N.ties)))=s.mod (.dct (aj br (cN N.ties q.1 (cD q v mo)))) a)→S' =((S.put md (.dct (aj br (cN N.ties q.1 (cD q v mo))))).tick).put d (.dct (aj bx (cN N.ties q.1 (cD q v mo))))→
    Wp (G (roS n m y nn q.1 v5 v6 v7 v8 v9 v10 S)) (fun fl s' =>fl= .nx∧∃v5 v6 v7 v8 v9 v10,s' =roS n m y nn q.1 v5 v6 v7 v8 v9 v10 S') XF)→
   ∃S' le mo,NW S' n l d m ml md (lP N q le mo)∧Did S S' n l d m ml md (lP N q le mo)∧sC f (q.1,cD q le mo)∧Wp (G (roS n m y nn q.1 v5 v6 v7 v8 v9 v10 S)) (fun fl s' =>fl= .nx∧∃v5 v6 v7 v8 v9 v10,s' =roS n m y nn q.1 v5 v6 v7 v8 v9 v10 S') XF:=fun mo hmo ro h=>by
  have ok:TieOk (cD q v mo):=⟨v0,by show v≤M60; omega,hmo,okq.p0,okq.p1⟩
  have D:=vz W hq ok
  exact ⟨_,v,mo,W.did D,D,ro,h _ (fun x=>qY W hq ok x) (fun s a=>hX (t:=cD q v mo) W.good.tl) rfl⟩
 have non:sC f (q.1,cD q v none):=⟨by show v≤f q.1; omega,fun mx h=>by cases h⟩
 by_cases cA:u / 3%2=1
 ·have dA:=decide_eq_true cA
  by_cases cB:f q.1≤M60
  ·have dB:=decide_eq_true cB
   obtain ⟨Tm,hT⟩:∃Tm,Tm=if f q.1+u / 6%4<M60 then f q.1+u / 6%4 else M60:=⟨_,rfl⟩
   have hT0:f q.1≤Tm∧Tm≤M60:=by rw [hT]; split<;> omega
   refine fin (some Tm) ?_ ⟨by show v≤f q.1; omega,fun mx h=>by cases h; show f q.1≤Tm; omega⟩ (fun S' pt sp e=>?_)
   ·show yh v (.int Tm)=true
    simp only [yh,Bool.and_eq_true,decide_eq_true_eq]
    omega
   ·have pt:∀x sl,goF ax [.cell n, .int q.1, .int v, .int Tm] ⟨sl,S.put md x⟩= .ok (.d .non) ⟨sl,((S.put md x).tick).put d (.dct (aj bx (cN N.ties q.1 (cD q v (some Tm)))))⟩:=pt
    have sp:∀s a,oE (bP (.tup [.str q.2.tail, .str q.2.head, .int v, .int Tm, .int q.2.price])) a (.int q.1) s (some (.dct (aj br N.ties)))=s.mod (.dct (aj br (cN N.ties q.1 (cD q v (some Tm))))) a:=sp
    subst hG
    unfold roB
    simp! only [aJ,q1,q3,q4,f1,r2,eu,cy,iy,zR,lR,←hM,bM,b3,b2,b4,px,z3,z6,dA,dB,←hT,pt,sp,Z.ar T.dU]
    rw [e]
    exact ⟨_,_,_,_,_,_,rfl⟩
  ·have dB:=decide_eq_false cB
   refine fin none rfl non (fun S' pt sp e=>?_)
   have pt:∀x sl,goF ax [.cell n, .int q.1, .int v, .non] ⟨sl,S.put md x⟩= .ok (.d .non) ⟨sl,((S.put md x).tick).put d (.dct (aj bx (cN N.ties q.1 (cD q v none))))⟩:=pt
   have sp:∀s a,oE (bP (.tup [.str q.2.tail, .str q.2.head, .int v, .non, .int q.2.price])) a (.int q.1) s (some (.dct (aj br N.ties)))=s.mod (.dct (aj br (cN N.ties q.1 (cD q v none)))) a:=sp
   subst hG
   unfold roB
   simp! only [aJ,q1,q3,q4,f1,r2,eu,cy,iy,zR,lR,←hM,bM,b3,b2,b4,px,z3,z6,dA,dB,pt,sp,Z.ar T.dU]
   rw [e]
   exact ⟨_,_,_,_,_,_,rfl⟩
 ·have dA:=decide_eq_false cA
  refine fin none rfl non (fun S' pt sp e=>?_)
  have pt:∀x sl,goF ax [.cell n, .int q.1, .int v, .non] ⟨sl,S.put md x⟩= .ok (.d .non) ⟨sl,((S.put md x).tick).put d (.dct (aj bx (cN N.ties q.1 (cD q v none))))⟩:=pt
  have sp:∀s a,oE (bP (.tup [.str q.2.tail, .str q.2.head, .int v, .non, .int q.2.price])) a (.int q.1) s (some (.dct (aj br N.ties)))=s.mod (.dct (aj br (cN N.ties q.1 (cD q v none)))) a:=sp
  subst hG
  unfold roB
  simp! only [aJ,q1,q3,q4,f1,r2,eu,cy,iy,zR,lR,←hM,bM,b3,b2,b4,px,z3,z6,dA,pt,sp,Z.ar T.dU]
  rw [e]
  exact ⟨_,_,_,_,_,_,rfl⟩
theorem ze (W:NW S n l d m ml md N) (hy:∀S',Frm S S' n l d m ml md→Hand S' y (ah f (N.ties.map (·.1)))) (f0:∀q∈N.ties,0≤f q.1):∃S' N',NW S' n l d m ml md N'∧Shp N N'∧Frm S S' n l d m ml md∧sE N'.ties f∧∀sl,goF eT [.cell n, .cell m,y, .int nn] ⟨sl,S⟩= .ok (.d .non) ⟨sl,S'⟩:=by
 have tl:=W.good.tl
 have cy:=fun sl=>(hy S Frm.refl).cont (sl:=sl)
 have s0:=fun s h=>kN (s:=s) (a:= .d y) (ks:=ah f (N.ties.map (·.1))) h (nD _) (by rw [List.length_map]; omega)
 rw [iW W.good.rise] at s0
 have s1:∀sl,bt (.d y) ⟨sl,S⟩= .ok (.own (.lst ((N.ties.map (·.1)).map D.int))) ⟨sl,S⟩:=fun sl=>s0 ⟨sl,S⟩ (cy sl)
 have key:Wp (jv ⟨[some (.d (.cell n)),some (.d (.cell m)),some (.d y),some (.d (.int nn)),none,none,none,none,none,none,none],S⟩) (fun fl s' =>flv fl=some (.d .non)∧∃N',NW s'.st n l d m ml md N'∧Shp N N'∧Frm S s'.st n l d m ml md∧sE N'.ties f) XF:=by
  rw [show jv=(eo (cZ (aR (z1 bt (aa 2)))) (zSt 4) roB) from rfl]
  simp! only [s1]
  refine di (fun j s' =>∃v4 v5 v6 v7 v8 v9 v10 S1 N1,s' =(⟨[some (.d (.cell n)),some (.d (.cell m)),some (.d y),some (.d (.int nn)),v4,v5,v6,v7,v8,v9,v10],S1⟩:SD)∧NW S1 n l d m ml md N1∧Shp N N1∧Frm S S1 n l d m ml md∧∀i q,i<j→N1.ties[i]? =some q→sC f q) Nl.d1 (fun _ _ _=>trivial) ⟨none,none,none,none,none,none,none,S,N,rfl,W,Shp.refl,Frm.refl,fun i q h=>by omega⟩ (fun j y' s' e hI=>?_) (fun s' hI=>?_)
  ·obtain ⟨v4,v5,v6,v7,v8,v9,v10,S1,N1,rfl,W1,H1,F1,R1⟩:=hI
   have e:((N.ties.map (·.1)).map D.int)[j]? =some y' :=e
   rw [←H1.nums,List.getElem?_map,List.getElem?_map] at e
   obtain ⟨i,ei,rfl⟩:=Option.map_eq_some_iff.mp e
   obtain ⟨q,eq,rfl⟩:=Option.map_eq_some_iff.mp ei
   have hq:=List.mem_of_getElem? eq
   have hn:q.1∈N.ties.map (·.1):=by rw [←H1.nums]; exact List.mem_map.mpr ⟨q,hq,rfl⟩
   have f1:0≤f q.1:=by
    obtain ⟨r,hr,e⟩:=List.mem_map.mp hn
    rw [←e]; exact f0 r hr
   obtain ⟨S2,le,mo,W2,D2,r2,h2⟩:=ro_turn (nn:=nn) (v5:=v5) (v6:=v6) (v7:=v7) (v8:=v8) (v9:=v9) (v10:=v10) rfl W1 hq (hy S1 F1) hn f1
   simp! only []
   refine h2.mono (fun fl s' hh=>?_) fun _ _ _ h=>h
   obtain ⟨rfl,v5,v6,v7,v8,v9,v10,rfl⟩:=hh
   refine ⟨_,_,_,_,_,_,_,S2,_,rfl,W2,H1.trans (vu W1.good hq),F1.trans D2.frm,fun i p hi ep=>?_⟩
   obtain ⟨g1,g2⟩:=AK (le:=le) (mo:=mo) W1.good eq
   by_cases c:i=j
   ·rw [c,g1] at ep; cases ep; exact r2
   ·have hj:j<N1.ties.length:=(List.getElem?_eq_some_iff.mp eq).1
    have hi2:i<N1.ties.length:=by omega
    have e3:=g2 i _ (by omega) (List.getElem?_eq_getElem hi2)
    rw [e3] at ep
    cases ep
    exact R1 i _ (by omega) (List.getElem?_eq_getElem hi2)
  ·obtain ⟨v4,v5,v6,v7,v8,v9,v10,S1,N1,rfl,W1,H1,F1,R1⟩:=hI
   refine ⟨rfl,N1,W1,H1,F1,fun q hq=>?_⟩
   obtain ⟨i,hi,rfl⟩:=List.getElem_of_mem hq
   exact R1 i _ (by
    show i<((N.ties.map (·.1)).map D.int).length
    rw [List.length_map,List.length_map,←H1.len]
    exact hi) (List.getElem?_eq_getElem hi)
 obtain ⟨fl,s',e,hh,N',W',H',F',R'⟩:=key.is
 refine ⟨s'.st,N',W',H',F',R',fun sl=>ew ?_⟩
 show Wp (jv ⟨[some (.d (.cell n)),some (.d (.cell m)),some (.d y),some (.d (.int nn)),none,none,none,none,none,none,none],S⟩) _ _
 rw [e]
 exact ⟨hh,rfl⟩
end
section
variable {S S' S1:Sto} {sl:List (Option Vl)} {x:D} {l d b j a:Nat} {N:ND} {f:Int→Int} {is:List Int} {names:List Str} {road rd rs:List Tq} {z w z0 s t u:Str} {q:Tq} {am rest k le nn cl:Int} {rg:Bool} {p:PartD} {ps:List PartD} {c:Nat}
theorem yK {xs ys:List D} {r:Bool} (h:dEq (.tup xs) (.tup ys)=some r):∀s:SD,neK s (some (.tup xs)) (some (.tup ys))= .ok (.d (.bl (!r))) s:=fun s=>by
 unfold neK
 simp only [h]
theorem sh_two (h1:Al z) (h2:Al w):SeqAt.shaped (.tuple [.str z, .str w])=true:=by
 unfold SeqAt.shaped
 simp only [PyData.canLay0,PyData.canLayAll0,PyData.depth,PyData.depthAll,kQ h1,kQ h2,Bool.and_self,Nat.max_self]
 decide
theorem eq_two (h1:Al z) (h2:Al w) (h3:Al s) (h4:Al t):dEq (.tup [.str z, .str w]) (.tup [.str s, .str t])=some (decide (z=s∧w=t)):=by
 have e1:D.py (.tup [.str z, .str w])=some (.tuple [.str z, .str w]):=rfl
 have e2:D.py (.tup [.str s, .str t])=some (.tuple [.str s, .str t]):=rfl
 have s1:=sh_two h1 h2
 have s2:=sh_two h3 h4
 have e3:PyData.eqv (.tuple [.str z, .str w]) (.tuple [.str s, .str t])=decide (z=s∧w=t):=by
  simp only [PyData.eqv,PyData.eqvAll,Bool.and_true]
  by_cases c1:z=s
  ·by_cases c2:w=t
   ·simp [c1,c2]
   ·simp [c1,c2]
  ·simp [c1]
 unfold dEq
 simp only [D.sc,e1,e2,s1,s2,e3,and_self,if_true]
theorem sub_bd:∀{rs:List Tq} {f:Int→Int} {a:Int} (i:Int),0≤a→f i≤bC f (-a) rs i∧bC f (-a) rs i≤f i+(rs.length:Int)*a
 | [],f,a,i,h=>by
  show f i≤f i∧f i≤f i+((0:Nat):Int)*a
  simp
 | q::rs,f,a,i,h=>by
  obtain ⟨h1,h2⟩:=sub_bd (rs:=rs) (f:=kP f (-a) q) i h
  have e:f i≤kP f (-a) q i∧kP f (-a) q i≤f i+a:=by
   unfold kP
   split
   ·rename_i e; subst e; omega
   ·omega
  have e2:((q::rs).length:Int)*a=(rs.length:Int)*a+a:=by
   rw [List.length_cons]
   show ((rs.length:Int)+1)*a=_
   rw [Int.add_mul]
   omega
  have e3:bC f (-a) (q::rs) i=bC (kP f (-a) q) (-a) rs i:=rfl
  rw [e2,e3]
  omega
noncomputable def moF:SD→R Fl:=(dg (aa 1) (aa 10) (z2 bX (z2 oIx (aa 1) (aa 10)) (aa 9)))
theorem Ak {v0 v2 v3 v4 v5 v6 v7 v8 v10:Option Vl} {fb:SD→R Fl} (hb:fb=(dg (aa 1) (aa 10) (z2 bX (z2 oIx (aa 1) (aa 10)) (aa 9)))) {Q:Fl→SD→Prop} (ec:S.get c=some (.dct (ah f is))) (hi:∀q∈rd,q.1∈is) (il:is.length≤1000) (rl:rd.length≤1000)
  (h:∀v10 S',But S S' c→S'.get c=some (.dct (ah (bC f (-am) rd) is))→S'.nx=S.nx→Q .nx ⟨[v0,some (.d (.cell c)),v2,v3,v4,v5,v6,v7,v8,some (.d (.int am)),v10],S'⟩):
  Wp (forK (zSt 10) fb ⟨[.d (.lst (bQ rd))],fun _=>True,bQ rd⟩ ⟨[v0,some (.d (.cell c)),v2,v3,v4,v5,v6,v7,v8,some (.d (.int am)),v10],S⟩) Q XF:=by
 subst hb
 refine di (fun j s' =>∃v10 S1,s' =(⟨[v0,some (.d (.cell c)),v2,v3,v4,v5,v6,v7,v8,some (.d (.int am)),v10],S1⟩:SD)∧But S S1 c∧S1.get c=some (.dct (ah (bC f (-am) (rd.take j)) is))∧S1.nx=S.nx) Nl.d1 (fun _ _ _=>trivial) ⟨v10,S,rfl,But.refl,ec,rfl⟩ (fun j y' s' e hI=>?_) (fun s' hI=>?_)
 ·obtain ⟨v10,S1,rfl,B1,c1,n1⟩:=hI
  have e:(bQ rd)[j]? =some y' :=e
  rw [List.getElem?_map] at e
  obtain ⟨q,eq,rfl⟩:=Option.map_eq_some_iff.mp e
  have mi:=hi q (List.mem_of_getElem? eq)
  have ht:rd.take (j+1)=rd.take j++ [q]:=by rw [List.take_succ,eq]; rfl
  have e2:bC f (-am) (rd.take (j+1))=kP (bC f (-am) (rd.take j)) (-am) q:=by
   rw [ht]
   unfold bC
   rw [List.foldl_append]
   rfl
  have i5:∀(f:Int→Int) (s:SD),ixK s (some (.dct (ah f is))) (some (.int q.1))= .ok (.d (.int (f q.1))) s:=fun f s=>ao (bF mi)
  have sp:=fun (f:Int→Int) (s:SD) (o:Vl)=>bT (a:=o) (x:= .int (f q.1+am)) (s:=s) (k:= .inl q.1) (z:= .int q.1) (ks:=ah f is) rfl (by rw [bR,sizeLine_eq]; omega)
  have fu:=fun f:Int→Int=>pW (f:=f) (am:=am) mi
  simp! only [c1,i5,sp,fu]
  refine ⟨_,_,rfl,B1.put, ?_,n1⟩
  rw [Sto.put_same,e2]
 ·obtain ⟨v10,S1,rfl,B1,c1,n1⟩:=hI
  rw [show (Src.ds ⟨[.d (.lst (bQ rd))],fun _=>True,bQ rd⟩).length=rd.length by show (bQ rd).length=_; rw [List.length_map],List.take_length] at c1
  exact h v10 S1 B1 c1 n1
structure MoreOk (N:ND) (s t:Str) (f f' :Int→Int) (v:Int):Prop where
 v0:0≤v
 up:∀i,f i≤f' i∧f' i≤f i+6*(M60+1)
 b:∀z,bal f' N.ties z=bal f N.ties z+((if z=t then v else 0) - (if z=s then v else 0))
theorem g_Lmore (hM:MdlAt S x N) (hG:Good N) (hc:∀S',But S S' c→MdlAt S' x N) (ec:S.get c=some (.dct (ah f (N.ties.map (·.1))))) (hs:s∈N.names) (ht:t∈N.names) (hst:s≠t) (k0:0≤k) (k1:k≤900):
  ∃S' f' v,But S S' c∧S'.nx=S.nx∧S'.get c=some (.dct (ah f' (N.ties.map (·.1))))∧MoreOk N s t f f' v∧∀sl,goF lx [x, .cell c, .tup [.str s, .str t], .int cl, .int k] ⟨sl,S⟩= .ok (.d (.int v)) ⟨sl,S'⟩:=by
 have h60:=xh
 obtain ⟨n1,n10,n11,e1⟩:=dr cl k 65 k0 (by omega) (by decide) (by decide)
 obtain ⟨am,am0,am1,e2⟩:=cX cl k 90 k0 (by omega) (by decide) (by decide)
 obtain ⟨a,m1,m2⟩:=hM.names
 have m1' :∀sl,ixK ⟨sl,S⟩ (SD.cont ⟨sl,S⟩ (.d x)) (some (.str "names"))= .ok (.d a) ⟨sl,S⟩:=fun sl=>m1 _ rfl
 have m2' :∀sl,SD.cont ⟨sl,S⟩ (.d a)=some (.lst (N.names.map .str)):=fun sl=>m2 _ rfl
 have l0:0<N.names.length:=List.length_pos_iff.mpr (fun e=>by rw [e] at hs; cases hs)
 have hl:((N.names.map D.str).length:Int)=(N.names.length:Int):=by rw [List.length_map]
 have bl:(0<(N.names.length:Int))=True:=eq_true (by omega)
 have b2:((0:Int)<2)=True:=by decide
 have z14:CDivW n1 14=True:=eq_true (aq (by omega) (by omega))
 obtain ⟨z1,hz1,ez1,_⟩:=fD (ns:=N.names) (i:=n1%(N.names.length:Int)) (Int.emod_nonneg _ (by omega)) (Int.emod_lt_of_pos _ (by omega))
 have iz:=fun s:SD=>ao (s:=s) ez1
 obtain ⟨z0,hz0,ez0⟩:∃z0,z0∈N.names∧dIx (.lst [.str s, .str z1]) (.int (n1 / 14%2))=some (.str z0):=by
  rcases (show n1 / 14%2=0∨n1 / 14%2=1 by omega) with e | e<;> rw [e]
  ·exact ⟨s,hs,rfl⟩
  ·exact ⟨z1,hz1,rfl⟩
 have is0:=fun s:SD=>ao (s:=s) ez0
 obtain ⟨rd,zr,hp,mem,rl,er⟩:=g_Lroad (S:=S) (z0:=z0) (c:=cl) (k:=k) hM hG k0 k1
 have t0:∀u:SD,ixK u (some (.tup [.str s, .str t])) (some (.int 0))= .ok (.d (.str s)) u:=fun u=>ao rfl
 have mi:∀q∈rd,q.1∈N.ties.map (·.1):=fun q hq=>List.mem_map.mpr ⟨q,mem q hq,rfl⟩
 have il:(N.ties.map (·.1)).length≤1000:=by have:=hG.tl; rw [List.length_map]; omega
 have al:=hG.al.1
 have hzr:rd≠ []→zr∈N.names:=fun ne=>by
  obtain ⟨q,hq,e⟩:=jg hp ne
  rw [←e]
  exact (hG.pl q (mem q hq)).2.1
 have tn:(N.ties.map (·.1)).Nodup:=hG.nums.2.1
 have m1c:CMulX (1+am) 1=True:=eq_true (aM (by omega) (by omega) (by omega) (by omega))
 have m0c:CMulX (1+am) 0=True:=eq_true (aM (by omega) (by omega) (by omega) (by omega))
 have up:∀i,f i≤bC f (-(1+am)) rd i∧bC f (-(1+am)) rd i≤f i+6*(M60+1):=fun i=>by
  obtain ⟨h1,h2⟩:=sub_bd (rs:=rd) (f:=f) (a:=1+am) i (by omega)
  refine ⟨h1,Int.le_trans h2 ?_⟩
  have:(rd.length:Int)*(1+am)≤6*(M60+1):=Int.mul_le_mul (by omega) (by omega) (by omega) (by omega)
  omega
 have bs:∀z,bal (bC f (-(1+am)) rd) N.ties z=bal f N.ties z+((if zr=z then 1+am else 0) - (if z0=z then 1+am else 0)):=fun z=>by
  rw [mK tn mem,dw hp]
  split<;> split<;> omega
 have key:Wp (qx ⟨[some (.d x),some (.d (.cell c)),some (.d (.tup [.str s, .str t])),some (.d (.int cl)),some (.d (.int k)),none,none,none,none,none,none],S⟩) (fun fl s' =>∃f' v,flv fl=some (.d (.int v))∧But S s'.st c∧s'.st.nx=S.nx∧s'.st.get c=some (.dct (ah f' (N.ties.map (·.1))))∧MoreOk N s t f f' v) XF:=by
  unfold qx
  by_cases cE:rd= []
  ·have em:(bQ rd).isEmpty=true:=by rw [cE]; rfl
   simp! only [e1,m1',m2',hl,bl,iz,t0,b2,z14,is0,er,cU,em]
   exact ⟨f,0,rfl,But.refl,ec,⟨Int.le_refl _,fun i=>by omega,fun z=>by simp⟩⟩
  ·have em:(bQ rd).isEmpty=false:=by
    cases rd with
    | nil=>exact (cE rfl).elim
    | cons=>rfl
   by_cases c1:zr=z0
   ·have d1:=decide_eq_true c1
    simp! only [e1,m1',m2',hl,bl,iz,t0,b2,z14,is0,er,cU,em,d1,e2]
    rw [ab]
    refine Ak rfl ec mi il (by omega) (fun v10 S' B c2 nx=>?_)
    simp! only [d1,m0c,m1c]
    refine ⟨bC f (-(1+am)) rd,0,by simp,B,nx,c2,⟨Int.le_refl _,up,fun z=>?_⟩⟩
    rw [bs,c1]
    simp
   ·have d1:=decide_eq_false c1
    have e3:=yK (eq_two (al z0 hz0) (al zr (hzr cE)) (al s hs) (al t ht))
    by_cases c2:z0=s∧zr=t
    ·have d2:=decide_eq_true c2
     rw [d2] at e3
     simp! only [e1,m1',m2',hl,bl,iz,t0,b2,z14,is0,er,cU,em,d1,e2,e3]
     rw [ab]
     refine Ak rfl ec mi il (by omega) (fun v10 S' B c3 nx=>?_)
     simp! only [d1,m0c,m1c]
     refine ⟨bC f (-(1+am)) rd,1+am,by simp,B,nx,c3,⟨by omega,up,fun z=>?_⟩⟩
     rw [bs,c2.1,c2.2,cW (x:=t),cW (x:=s)]
    ·have d2:=decide_eq_false c2
     rw [d2] at e3
     simp! only [e1,m1',m2',hl,bl,iz,t0,b2,z14,is0,er,cU,em,d1,e2,e3]
     exact ⟨f,0,rfl,But.refl,ec,⟨Int.le_refl _,fun i=>by omega,fun z=>by simp⟩⟩
 obtain ⟨fl,s',e,f',v,hh,B,nx,cc,ok⟩:=key.is
 refine ⟨s'.st,f',v,B,nx,cc,ok,fun sl=>ew ?_⟩
 show Wp (qx ⟨[some (.d x),some (.d (.cell c)),some (.d (.tup [.str s, .str t])),some (.d (.int cl)),some (.d (.int k)),none,none,none,none,none,none],S⟩) _ _
 rw [e]
 exact ⟨hh,rfl⟩
theorem g_Lless (ec:S.get c=some (.dct (ah f (N.ties.map (·.1))))) (hG:Good N) (hst:s≠t) (I:InvF N.ties s t f rest) (P:PartsOk N s t f rest ps∨ps= []) (n0:0≤nn) (hb:∀q∈N.ties,f q.1≤1000*M60):
  ∃S' f' v,But S S' c∧S'.nx=S.nx∧S'.get c=some (.dct (ah f' (N.ties.map (·.1))))∧InvF N.ties s t f' (rest - v)∧(∀q∈N.ties,f' q.1≤f q.1)∧∀sl,goF ly [.cell c, .lst (ps.map aC), .int nn] ⟨sl,S⟩= .ok (.d (.int v)) ⟨sl,S'⟩:=by
 have h60:=xh
 have tn:(N.ties.map (·.1)).Nodup:=hG.nums.2.1
 have il:(N.ties.map (·.1)).length≤1000:=by have:=hG.tl; rw [List.length_map]; omega
 have key:Wp (qy ⟨[some (.d (.cell c)),some (.d (.lst (ps.map aC))),some (.d (.int nn)),none,none],S⟩) (fun fl s' =>∃f' v,flv fl=some (.d (.int v))∧But S s'.st c∧s'.st.nx=S.nx∧s'.st.get c=some (.dct (ah f' (N.ties.map (·.1))))∧InvF N.ties s t f' (rest - v)∧∀q∈N.ties,f' q.1≤f q.1) XF:=by
  unfold qy
  by_cases cE:ps= []
  ·have em:(ps.map aC).isEmpty=true:=by rw [cE]; rfl
   simp! only [cU,em]
   exact ⟨f,0,rfl,But.refl,ec,by rw [Int.sub_zero]; exact I,fun q _=>Int.le_refl _⟩
  ·have P:=P.resolve_right cE
   have em:(ps.map aC).isEmpty=false:=by
    cases ps with
    | nil=>exact (cE rfl).elim
    | cons=>rfl
   have l0:0<ps.length:=List.length_pos_iff.mpr cE
   have hl:((ps.map aC).length:Int)=(ps.length:Int):=by rw [List.length_map]
   have bl:(0<(ps.length:Int))=True:=eq_true (by omega)
   obtain ⟨p,hp,ep⟩:∃p,p∈ps∧dIx (.lst (ps.map aC)) (.int (nn%(ps.length:Int)))=some (aC p):=by
    have h1:=Int.emod_nonneg nn (show (ps.length:Int)≠0 by omega)
    have h2:=Int.emod_lt_of_pos nn (show 0<(ps.length:Int) by omega)
    obtain ⟨u,hu⟩:∃u:Nat,nn%(ps.length:Int)=(u:Int):=⟨(nn%(ps.length:Int)).toNat,by omega⟩
    rw [hu] at h2 ⊢
    have h3:u<ps.length:=by omega
    exact ⟨ps[u],List.getElem_mem h3,atI_nat (by rw [List.getElem?_map,List.getElem?_eq_getElem h3]; rfl)⟩
   have ix:=fun s:SD=>ao (s:=s) ep
   have ok:=P.ok p hp
   obtain ⟨q0,hq0,hle0⟩:=am_le I.nn P.sum hp P.ok
   have hb0:=hb q0 hq0
   have a1:=ok.a1
   have nf:=jc hG.rise ok.mem ok.nd
   have m1c:CMulX p.am 1=True:=eq_true (aM (by omega) (by omega) (by omega) (by omega))
   have m0c:CMulX p.am 0=True:=eq_true (aM (by omega) (by omega) (by omega) (by omega))
   have sh:∀q∈N.ties,cQ q.1 p≤f q.1∧0≤cQ q.1 p:=fun q hq=>by
    rw [P.sum q hq]
    refine ⟨lC (l:=ps.map (cQ q.1)) (fun v hv=>?_) (List.mem_map.mpr ⟨p,hp,rfl⟩), ?_⟩
    ·obtain ⟨r,hr,rfl⟩:=List.mem_map.mp hv
     have:=(P.ok r hr).a1
     unfold cQ
     split<;> omega
    ·unfold cQ
     split<;> omega
   have sb:∀q∈N.ties,bC f p.am p.road q.1=f q.1 - cQ q.1 p:=fun q hq=>by
    unfold cQ
    by_cases c:q.1∈p.road.map (·.1)
    ·rw [if_pos c,kn nf c]
    ·rw [if_neg c,jJ c]; omega
   have wl:qO p≤rest∧0≤qO p:=by
    rw [P.way]
    refine ⟨lC (l:=ps.map qO) (fun v hv=>?_) (List.mem_map.mpr ⟨p,hp,rfl⟩), ?_⟩
    ·obtain ⟨r,hr,rfl⟩:=List.mem_map.mp hv
     have:=(P.ok r hr).a1
     unfold qO
     split<;> omega
    ·unfold qO
     split<;> omega
   have I2:InvF N.ties s t (bC f p.am p.road) (rest - qO p):=by
    refine ⟨fun q hq=>by rw [sb q hq]; have:=sh q hq; omega,by omega,fun z=>?_⟩
    rw [mK tn ok.mem,I.b]
    obtain ⟨rg,rd,pa⟩:=p
    cases rg with
    | true=>
     obtain ⟨x1,h1⟩:=ok.rg rfl
     rw [dw (show Path x1 rd x1 from h1),show qO ⟨true,rd,pa⟩=0 from rfl,Int.sub_zero]
     omega
    | false=>
     obtain ⟨h1,_⟩:=ok.way rfl
     rw [dw (show Path s rd t from h1),cW (x:=t),cW (x:=s),show qO ⟨false,rd,pa⟩=pa from rfl]
     dsimp only
     split<;> split<;> omega
   simp! only [cU,em,hl,bl,ix,aZ,ak lT]
   rw [ab]
   refine di (fun j s' =>∃v4 S1,s' =(⟨[some (.d (.cell c)),some (.d (.lst (ps.map aC))),some (.d (.int nn)),some (.d (aC p)),v4],S1⟩:SD)∧But S S1 c∧S1.get c=some (.dct (ah (bC f p.am (p.road.take j)) (N.ties.map (·.1))))∧S1.nx=S.nx) Nl.d1 (fun _ _ _=>trivial) ⟨none,S,rfl,But.refl,ec,rfl⟩ (fun j y' s' e hI=>?_) (fun s' hI=>?_)
   ·obtain ⟨v4,S1,rfl,B1,c1,nx1⟩:=hI
    have e:(bQ p.road)[j]? =some y' :=e
    rw [List.getElem?_map] at e
    obtain ⟨q,eq,rfl⟩:=Option.map_eq_some_iff.mp e
    have mi:q.1∈N.ties.map (·.1):=List.mem_map.mpr ⟨q,ok.mem q (List.mem_of_getElem? eq),rfl⟩
    have ht:p.road.take (j+1)=p.road.take j++ [q]:=by rw [List.take_succ,eq]; rfl
    have e2:bC f p.am (p.road.take (j+1))=kP (bC f p.am (p.road.take j)) p.am q:=by
     rw [ht]
     unfold bC
     rw [List.foldl_append]
     rfl
    have i5:∀(f:Int→Int) (s:SD),ixK s (some (.dct (ah f (N.ties.map (·.1))))) (some (.int q.1))= .ok (.d (.int (f q.1))) s:=fun f s=>ao (bF mi)
    have sp:=fun (f:Int→Int) (s:SD) (o:Vl)=>bT (a:=o) (x:= .int (f q.1 - p.am)) (s:=s) (k:= .inl q.1) (z:= .int q.1) (ks:=ah f (N.ties.map (·.1))) rfl (by rw [bR,sizeLine_eq]; omega)
    have fu:=fun f:Int→Int=>vU (f:=f) (am:=p.am) mi
    simp! only [c1,aZ,ak pd,i5,sp,fu]
    refine ⟨_,_,rfl,B1.put, ?_,nx1⟩
    rw [Sto.put_same,e2]
   ·obtain ⟨v4,S1,rfl,B1,c1,nx1⟩:=hI
    rw [show (Src.ds ⟨[.d (.lst (bQ p.road))],fun _=>True,bQ p.road⟩).length=p.road.length by show (bQ p.road).length=_; rw [List.length_map],List.take_length] at c1
    have le:∀q∈N.ties,bC f p.am p.road q.1≤f q.1:=fun q hq=>by rw [sb q hq]; have:=sh q hq; omega
    obtain ⟨rg,rd,pa⟩:=p
    cases rg with
    | true=>
     simp! only [aZ,ak pd,ak gu,m0c,m1c,Int.mul_zero,Int.mul_one]
     exact ⟨_,0,rfl,B1,nx1,c1,I2,le⟩
    | false=>
     simp! only [aZ,ak pd,ak gu,m0c,m1c,Int.mul_zero,Int.mul_one]
     exact ⟨_,pa,rfl,B1,nx1,c1,I2,le⟩
 obtain ⟨fl,s',e,f',v,hh,B,nx,cc,I',le⟩:=key.is
 refine ⟨s'.st,f',v,B,nx,cc,I',le,fun sl=>ew ?_⟩
 show Wp (qy ⟨[some (.d (.cell c)),some (.d (.lst (ps.map aC))),some (.d (.int nn)),none,none],S⟩) _ _
 rw [e]
 exact ⟨hh,rfl⟩
end
open TL (tl)
section
theorem firsts_nodup {ws:List Str}:(dW ws).Nodup:=by
 unfold dW
 have key:∀(pre ws:List Str),(∀z∈((ws.zipIdx pre.length).filter fun q=>!decide (q.1∈(pre++ws).take q.2)).map (·.1),z∉pre)∧(((ws.zipIdx pre.length).filter fun q=>!decide (q.1∈(pre++ws).take q.2)).map (·.1)).Nodup:=by
  intro pre ws
  induction ws generalizing pre with
  | nil=>exact ⟨fun z hz=>by simp at hz,by simp⟩
  | cons a r ih=>
   have h1:=ih (pre++ [a])
   rw [List.append_assoc,List.length_append] at h1
   have h1:(∀z∈((r.zipIdx (pre.length+1)).filter fun q=>!decide (q.1∈(pre++a::r).take q.2)).map (·.1),z∉pre++ [a])∧(((r.zipIdx (pre.length+1)).filter fun q=>!decide (q.1∈(pre++a::r).take q.2)).map (·.1)).Nodup:=h1
   rw [List.zipIdx_cons]
   have e:(pre++a::r).take pre.length=pre:=by simp
   by_cases c:a∈pre
   ·rw [List.filter_cons_of_neg (by show¬(!decide (a∈(pre++a::r).take pre.length))=true; rw [e,decide_eq_true c]; simp)]
    exact ⟨fun z hz hp=>h1.1 z hz (List.mem_append.mpr (.inl hp)),h1.2⟩
   ·rw [List.filter_cons_of_pos (by show (!decide (a∈(pre++a::r).take pre.length))=true; rw [e,decide_eq_false c]; rfl),List.map_cons]
    refine ⟨fun z hz hp=>?_,List.nodup_cons.mpr ⟨fun h=>h1.1 a h (List.mem_append.mpr (.inr List.mem_cons_self)),h1.2⟩⟩
    rcases List.mem_cons.mp hz with rfl | hz
    ·exact c hp
    ·exact h1.1 z hz (List.mem_append.mpr (.inl hp))
 exact (key [] ws).2
theorem uF {z:Str} {ws:List Str}:∀{l r:List Str},ws=l++z::r→∃l r,ws=l++z::r∧z∉l:=by
 intro l
 induction h:l.length using Nat.strongRecOn generalizing l with
 | _ n ih=>
  intro r e
  by_cases c:z∈l
  ·obtain ⟨l1,l2,e2⟩:=List.append_of_mem c
   exact ih l1.length (by rw [←h,e2,List.length_append,List.length_cons]; omega) rfl (r:=l2++z::r) (by rw [e,e2,List.append_assoc]; rfl)
  ·exact ⟨l,r,e,c⟩
theorem nH {ws:List Str} (z:Str) (hz:z∈ws):z∈dW ws:=by
 unfold dW
 obtain ⟨l0,r0,e0⟩:=List.append_of_mem hz
 obtain ⟨l,r,e,hn⟩:=uF e0
 refine List.mem_map.mpr ⟨(z,l.length),List.mem_filter.mpr ⟨?_, ?_⟩,rfl⟩
 ·rw [e,List.zipIdx_append,List.zipIdx_cons]
  exact List.mem_append.mpr (.inr (by rw [Nat.zero_add]; exact List.mem_cons_self))
 ·show (!decide (z∈ws.take l.length))=true
  rw [e,List.take_left,decide_eq_false hn]
  rfl
theorem two_le {l:List Str} {a b:Str} (ha:a∈l) (hb:b∈l) (h:a≠b):2≤l.length:=by
 match l,ha,hb with
 | [x],ha,hb=>exact (h ((List.mem_singleton.mp ha).trans (List.mem_singleton.mp hb).symm)).elim
 | _::_::_,_,_=>simp
theorem w2_ne {n at_:Int} {fr:Str}:w2f n at_ fr 0≠w2f n at_ fr 1:=fun e=>by
 have h:=congrArg tl e
 unfold w2f at h
 rw [nt,nt,nt,nt] at h
 have h:=List.append_cancel_left (List.append_cancel_right h)
 have l1:∀i:Int,0≤i→i<26→tl (ltr i)= [(tl "abcdefghijklmnopqrstuvwxyz").getD i.toNat 0]:=fun i h0 h1=>by
  have h2:i<((tl "abcdefghijklmnopqrstuvwxyz").length:Nat):=by rw [show (tl "abcdefghijklmnopqrstuvwxyz").length=26 by decide+kernel]; exact h1
  have h3:=nQ (xs:=tl "abcdefghijklmnopqrstuvwxyz") 0 h0 h2
  unfold ltr
  rw [h3]
 have a0:=Int.emod_nonneg (n / 2000+5*0) (show (26:Int)≠0 by decide)
 have a1:=Int.emod_lt_of_pos (n / 2000+5*0) (show (0:Int)<26 by decide)
 have b0:=Int.emod_nonneg (n / 2000+5*1) (show (26:Int)≠0 by decide)
 have b1:=Int.emod_lt_of_pos (n / 2000+5*1) (show (0:Int)<26 by decide)
 rw [l1 _ a0 a1,l1 _ b0 b1] at h
 have h:=List.head_eq_of_cons_eq h
 have h5:∀k<26,∀j<26,(tl "abcdefghijklmnopqrstuvwxyz").getD k 0=(tl "abcdefghijklmnopqrstuvwxyz").getD j 0→k=j:=by decide+kernel
 have:=h5 _ (by omega) _ (by omega) h
 omega
theorem g_pool2 (c:Int):∃ns:List Str,ns≠ []∧(∀z∈ns,qJ z)∧ns.length≤18∧(ns.Nodup∧2≤ns.length)∧∀s:SD,goF oj [.int c] s= .ok (.own (.lst (ns.map .str))) s:=by
 obtain ⟨n,n0,n1,e1⟩:=dr c 70 1 (by decide) (by decide) (by decide) (by decide)
 have w1:∀z∈((List.range 12).map fun (i:Nat)=>ltr ((n / 7+(3+n%5)*(i:Int))%26)),z.length=1∧Al z:=fun z hz=>by
  obtain ⟨i,_,rfl⟩:=List.mem_map.mp hz
  exact (vH (Int.emod_nonneg _ (by decide)) (Int.emod_lt_of_pos _ (by decide))).2
 have l1:((List.range 12).map fun (i:Nat)=>ltr ((n / 7+(3+n%5)*(i:Int))%26)).length=12:=by rw [List.length_map,List.length_range]
 have hzz:=zz12 n0
 have k1:=fun (v0 v3 v4 v5 v6 v7 v8:Option Vl) (S:Sto)=>comp1 (v0:=v0) (v3:=v3) (v4:=v4) (v5:=v5) (v6:=v6) (v7:=v7) (v8:=v8) n0 n1 (S:=S)
 generalize ((List.range 12).map fun (i:Nat)=>ltr ((n / 7+(3+n%5)*(i:Int))%26))=ws1 at w1 k1 l1 hzz
 have hsum:=sum_le ws1 1 fun x hx=>by rw [(w1 x hx).1]; exact Nat.le_refl _
 have hbl:(Txt.join "" ws1).length=12:=by
  rw [yR,List.map_congr_left (g:=fun _=>1) fun x hx=>(w1 x hx).1,List.map_const',List.sum_replicate_nat,l1]
 have hba:=al_join fun x hx=>(w1 x hx).2
 have k2:=fun s:SD=>Bq (s:=s) (z:= "") (ds:=ws1.map D.str) (ys:=ws1) (by simpa using sj (fun z:Str=>z) ws1) (by rw [show (Str.ofString "").length=0 by decide+kernel]; omega)
 generalize Txt.join "" ws1=bs at hbl hba k2 hzz
 have hfa:=wm none (some (n%8)) hba
 have hfl:(cutS bs none (some (n%8))).length≤7:=by rw [rM (by omega)]; omega
 generalize efr:cutS bs none (some (n%8))=fr at hfa hfl
 have hat0:0≤n / 200%((fr.length:Int)+1):=Int.emod_nonneg _ (by omega)
 have hat1:n / 200%((fr.length:Int)+1)≤fr.length:=Int.le_of_lt_add_one (Int.emod_lt_of_pos _ (by omega))
 have hat2:(0<(fr.length:Int)+1)=True:=eq_true (by omega)
 generalize eat:n / 200%((fr.length:Int)+1)=at_ at hat0 hat1
 have w2:∀z∈((List.range 18).map fun (i:Nat)=>w2f n at_ fr (i:Int)),qJ z:=fun z hz=>by
  obtain ⟨i,_,rfl⟩:=List.mem_map.mp hz
  have:=w2_ok (n:=n) hfa hat0 hat1 i
  exact ⟨this.2,by omega,by omega,fun e=>by
   have h:=this.1
   rw [e,show (Str.ofString "zzzyzzzyzzzy").length=12 by decide+kernel] at h
   omega⟩
 have l2:((List.range 18).map fun (i:Nat)=>w2f n at_ fr (i:Int)).length=18:=by rw [List.length_map,List.length_range]
 have k3:=fun (v0 v3 v6 v7 v8:Option Vl) (S:Sto)=>comp2 (v0:=v0) (v3:=v3) (v6:=v6) (v7:=v7) (v8:=v8) n0 n1 hfl hat0 hat1 (S:=S)
 have d2:∃a b,a∈((List.range 18).map fun (i:Nat)=>w2f n at_ fr (i:Int))∧b∈((List.range 18).map fun (i:Nat)=>w2f n at_ fr (i:Int))∧a≠b:=
  ⟨w2f n at_ fr 0,w2f n at_ fr 1,List.mem_map.mpr ⟨0,by decide,rfl⟩,List.mem_map.mpr ⟨1,by decide,rfl⟩,w2_ne⟩
 generalize ((List.range 18).map fun (i:Nat)=>w2f n at_ fr (i:Int))=ws2 at w2 l2 k3 d2
 have w3:∀z∈((List.range 12).map fun (i:Nat)=>cutS bs none (some ((i:Int)+1))),qJ z:=fun z hz=>by
  obtain ⟨i,hi,rfl⟩:=List.mem_map.mp hz
  have:=List.mem_range.mp hi
  refine ⟨wm _ _ hba, ?_, ?_,zz_cut hbl this hzz⟩
  ·rw [rM (by omega),hbl]; omega
  ·rw [rM (by omega),hbl]; omega
 have l3:((List.range 12).map fun (i:Nat)=>cutS bs none (some ((i:Int)+1))).length=12:=by rw [List.length_map,List.length_range]
 have k4:=fun (v0 v1 v2 v4 v5 v6 v7 v8:Option Vl) (S:Sto)=>comp3 (v0:=v0) (v1:=v1) (v2:=v2) (v4:=v4) (v5:=v5) (v6:=v6) (v7:=v7) (v8:=v8) hbl (S:=S)
 generalize ((List.range 12).map fun (i:Nat)=>cutS bs none (some ((i:Int)+1)))=ws3 at w3 l3 k4
 obtain ⟨da,db,hda,hdb,dne⟩:=d2
 have fin:∀ws:List Str,(∀z∈ws,qJ z)→(∀z∈ws2,z∈ws)→(dW ws).take 18≠ []∧(∀z∈(dW ws).take 18,qJ z)∧((dW ws).take 18).length≤18∧(((dW ws).take 18).Nodup∧2≤((dW ws).take 18).length):=fun ws h1 h2=>by
  have h3:=two_le (nH da (h2 da hda)) (nH db (h2 db hdb)) dne
  have h4:2≤((dW ws).take 18).length:=by rw [List.length_take]; omega
  refine ⟨fun e=>?_,fun z hz=>h1 z (wL z (List.mem_of_mem_take hz)),by rw [List.length_take]; omega,firsts_nodup.sublist (List.take_sublist _ _),h4⟩
  rw [e] at h4
  exact absurd h4 (by decide)
 have z0:(bs.length≤sizeLine)=True:=eq_true (by rw [hbl]; decide)
 have z1:(fr.length≤sizeLine)=True:=eq_true (Nat.le_trans hfl (by decide))
 have z2:((ws3.map D.str).length+(ws2.map D.str).length≤sizeLine)=True:=eq_true (by rw [List.length_map,List.length_map,l3,l2]; decide)
 have z3:∀j:Int,CDivW j 7=True:=fun j=>eq_true (M.aq (by decide) (by decide))
 have z4:∀j:Int,CDivW j 200=True:=fun j=>eq_true (M.aq (by decide) (by decide))
 have z5:∀j:Int,CDivW j 9=True:=fun j=>eq_true (M.aq (by decide) (by decide))
 have z6:((0:Int)<8)=True:=by simp
 have z7:((0:Int)<3)=True:=by simp
 have z8:(-(2 ^ 62)≤(12:Int)∧(12:Int)<2 ^ 62)=True:=eq_true (by decide)
 have z9:(-(2 ^ 62)≤(18:Int)∧(18:Int)<2 ^ 62)=True:=eq_true (by decide)
 by_cases c9:n / 9%3=1
 ·obtain ⟨f1,f2,f3,f4⟩:=fin (ws3++ws2) (fun z hz=>(List.mem_append.mp hz).elim (w3 z) (w2 z)) (fun z hz=>List.mem_append.mpr (.inr hz))
  refine ⟨_,f1,f2,f3,f4,fun s=>?_⟩
  have k5:=fun (v0 v1 v2 v3 v4 v5 v7 v8:Option Vl) (S:Sto)=>comp4 (v0:=v0) (v1:=v1) (v2:=v2) (v3:=v3) (v4:=v4) (v5:=v5) (v7:=v7) (v8:=v8) (ws:=ws3++ws2) (by rw [List.length_append]; omega) (S:=S)
  rw [List.map_append] at k5
  refine wF ?_
  show Wp (mN ⟨[some (.d (.int c)),none,none,none,none,none,none,none,none],s.st⟩) _ _
  unfold mN
  have z10:decide (n / 9%3=1)=true:=decide_eq_true c9
  clear hda hdb dne hzz hsum hbl w1 w2 w3 l1 l2 l3 fin f1 f2 f3 f4 hba hfa hfl hat0 hat1 n0 n1 c9
  simp! only [*]
  rw [gz _ (by decide),List.map_take]
  rfl
 ·obtain ⟨f1,f2,f3,f4⟩:=fin ws2 w2 (fun z hz=>hz)
  refine ⟨_,f1,f2,f3,f4,fun s=>?_⟩
  have k5:=fun (v0 v1 v2 v3 v4 v5 v7 v8:Option Vl) (S:Sto)=>comp4 (v0:=v0) (v1:=v1) (v2:=v2) (v3:=v3) (v4:=v4) (v5:=v5) (v7:=v7) (v8:=v8) (ws:=ws2) (by omega) (S:=S)
  refine wF ?_
  show Wp (mN ⟨[some (.d (.int c)),none,none,none,none,none,none,none,none],s.st⟩) _ _
  unfold mN
  have z10:decide (n / 9%3=1)=false:=decide_eq_false c9
  clear hda hdb dne hzz hsum hbl w1 w2 w3 l1 l2 l3 fin f1 f2 f3 f4 hba hfa hfl hat0 hat1 n0 n1 c9
  simp! only [*]
  rw [gz _ (by decide),List.map_take]
  rfl
end
end T

set_option maxHeartbeats 4000000
namespace T
open PySem PySem.Spec PyProof.Rows L2 M Z A
open Classical
section
variable {s:SD} {S S' :Sto} {sl:List (Option Vl)} {x y z:D} {n l d m ml md:Nat} {N:ND} {i c k:Int} {t:TD} {a:D} {ps fs:List Str}
theorem AY {ts:List (Int×TD)}:(cN ts i t).length≤ts.length+1:=by
 unfold cN
 split
 ·rw [List.length_map]; omega
 ·rw [List.length_append]; exact Nat.le_refl _
theorem AX {i j:Nat} (h:i≠j):(S.put i x).put j y=(S.put j y).put i x:=by
 show (⟨_,_⟩:Sto)=⟨_,_⟩
 congr 1
 funext q
 show (if q=j then _ else if q=i then _ else _)=(if q=i then _ else if q=j then _ else _)
 by_cases c1:q=j
 ·rw [if_pos c1,if_neg (fun e=>h (e.symm.trans c1)),if_pos c1]
 ·rw [if_neg c1,if_neg c1]
theorem uB (h6:Six S n l d m ml md) (hN:NetAt S n l d N) (hM:ModAt S m ml md N) (hG:Good N) (h2:2≤N.names.length) (hl:N.ties.length<40) (k0:0≤k) (k1:k≤1000):
  ∃S' N',Did S S' n l d m ml md N'∧(N'.names=N.names∧N'.ties.length≤N.ties.length+1)∧∀sl,goF bh [.cell n, .cell m, .int c, .int k] ⟨sl,S⟩= .ok (.d (.bl true)) ⟨sl,S'⟩:=by
 have hM0:=xh
 obtain ⟨j,j0,j1,e1⟩:=dr c k 2 k0 k1 (by decide) (by decide)
 obtain ⟨p3,p30,p31,e3⟩:=cX c k 3 k0 k1 (by decide) (by decide)
 obtain ⟨p4,p40,p41,e4⟩:=cX c k 4 k0 k1 (by decide) (by decide)
 obtain ⟨p5,p50,p51,e5⟩:=cX c k 5 k0 k1 (by decide) (by decide)
 have hL:((N.names.length:Nat):Int)≠0:=by omega
 have hL1:((N.names.length:Nat):Int) - 1≠0:=by omega
 obtain ⟨tail,ht,et,et2⟩:=fD (ns:=N.names) (i:=j%(N.names.length:Int)) (Int.emod_nonneg _ (by omega)) (Int.emod_lt_of_pos _ (by omega))
 obtain ⟨head,hh,eh,eh2⟩:=fD (ns:=N.names) (i:=(j+1+j / 14%((N.names.length:Int) - 1))%(N.names.length:Int)) (Int.emod_nonneg _ (by omega)) (Int.emod_lt_of_pos _ (by omega))
 have hne:tail≠head:=ph hG.nd et2 eh2 fun e=>by
  have q1:=Int.emod_nonneg j hL
  have q2:=Int.emod_nonneg (j+1+j / 14%((N.names.length:Int) - 1)) hL
  exact oG (m:=j) (L:=N.names.length) (Int.emod_nonneg (j / 14) hL1) (Int.emod_lt_of_pos (j / 14) (by omega)) (by omega)
 obtain ⟨le,le0,le1,ele⟩:=pick3 p30 p31 (j / 200)
 obtain ⟨mo,hmo,emo⟩:=pickM le1 p40 (j / 600)
 obtain ⟨v,hv,ev⟩:=pickS p50 p51 (j / 1800)
 have q1:=hM.m
 have q2:=hM.l
 have q3:=hM.d
 have q4:=hN.n
 have r1:=fun s:SD=>ao (s:=s) et
 have r2:=fun s:SD=>ao (s:=s) eh
 have r3:=fun s:SD=>ao (s:=s) ele
 have r4:=fun s:SD=>ao (s:=s) emo
 have r5:=fun s:SD=>ao (s:=s) ev
 have fin:∀t:TD,t.tail=tail→t.head=head→TieOk t→(∀sl,goF bh [.cell n, .cell m, .int c, .int k] ⟨sl,S⟩= .ok (.d (.bl true)) ⟨sl,Ar S n l d m ml md N t⟩)→
   ∃S' N',Did S S' n l d m ml md N'∧(N'.names=N.names∧N'.ties.length≤N.ties.length+1)∧∀sl,goF bh [.cell n, .cell m, .int c, .int k] ⟨sl,S⟩= .ok (.d (.bl true)) ⟨sl,S'⟩:=fun t e1 e2 ok h=>⟨_,_,yt h6 hN hM hG ok (e1 ▸ ht) (e2 ▸ hh) (by rw [e1,e2]; exact hne) hl,⟨rfl,AY⟩,h⟩
 have put:=fun (t:TD) (h1:t.tail=tail) (h2:t.head=head) (ok:TieOk t) sl=>rX (sl:=sl) hN h6.b1 h6.b3 h6.b2 (h1 ▸ ht) (h2 ▸ hh) (by rw [h1,h2]; exact hne) ok hl
 obtain ⟨b1,b2,b3,b4,b5,b6,⟨a1,a2,a3⟩,⟨a4,a5,a6⟩,⟨a7,a8,a9⟩,⟨a10,a11,a12⟩,⟨a13,a14,a15⟩⟩:=h6
 have f1:∀x y,((S.tick.put d x).put n y).get m=some (.dct (vF ml md N.given)):=fun x y=>by rw [Sto.put_ne (Ne.symm a1),Sto.put_ne (Ne.symm a7),bB (by omega),q1]
 have f2:∀x y z,(((S.tick.put d x).put n y).put m z).get md=some (.dct (aj br N.ties)):=fun x y z=>by rw [Sto.put_ne (Ne.symm a11),Sto.put_ne (Ne.symm a3),Sto.put_ne (Ne.symm a9),bB (by omega),q3]
 have f3:∀x y z w,((((S.tick.put d x).put n y).put m z).put md w).get m=some z:=fun x y z w=>by rw [Sto.put_ne a11,Sto.put_same]
 have z1:(0<(N.names.length:Int))=True:=eq_true (by omega)
 have z2:(0<(N.names.length:Int) - 1)=True:=eq_true (by omega)
 have z3:∀i:Int,CDivW i 14=True:=fun i=>eq_true (M.aq (by decide) (by decide))
 have z4:∀i:Int,CDivW i 200=True:=fun i=>eq_true (M.aq (by decide) (by decide))
 have z5:∀i:Int,CDivW i 600=True:=fun i=>eq_true (M.aq (by decide) (by decide))
 have z6:∀i:Int,CDivW i 1800=True:=fun i=>eq_true (M.aq (by decide) (by decide))
 have z7:∀i:Int,CDivW i 3600=True:=fun i=>eq_true (M.aq (by decide) (by decide))
 have z8:((0:Int)<3)=True:=by simp
 have z9:((0:Int)<2)=True:=by simp
 have z10:((0:Int)<4)=True:=by simp
 have z11:CMulX p5 v=True:=eq_true (by rcases hv with rfl | rfl<;> exact M.aM (by omega) (by omega) (by omega) (by omega))
 have hg:=fun (s:SD) i=>zb (s:=s) i
 by_cases c1:j / 3600%4=0
 ·refine fin ⟨tail,head,0,none,0⟩ rfl rfl (⟨Int.le_refl _,by show (0:Int)≤M60; decide,rfl,by show -M60≤(0:Int); decide,by show (0:Int)≤M60; decide⟩:TieOk ⟨tail,head,0,none,0⟩) fun sl=>ew ?_
  have pt:=put ⟨tail,head,0,none,0⟩ rfl rfl (⟨Int.le_refl _,by show (0:Int)≤M60; decide,rfl,by show -M60≤(0:Int); decide,by show (0:Int)≤M60; decide⟩:TieOk ⟨tail,head,0,none,0⟩)
  have d1:=decide_eq_true c1
  have sp:∀s a,oE (bP (.tup [.str tail, .str head, .int 0, .non, .int 0])) a (.int (N.given+1)) s (some (.dct (aj br N.ties)))=s.mod (.dct (aj br (cN N.ties (N.given+1) ⟨tail,head,0,none,0⟩))) a:=fun s a=>hX (t:=⟨tail,head,0,none,0⟩) (by omega)
  simp only [aY] at pt
  show Wp (aQ ⟨[some (.d (.cell n)),some (.d (.cell m)),some (.d (.int c)),some (.d (.int k)),none,none,none,none,none,none,none,none],S⟩) _ _
  unfold aQ
  clear put fin hv hmo ht hh hne et et2 eh eh2 ele emo ev hM hN hG a1 a2 a3 a4 a5 a6 a7 a8 a9 a10 a11 a12 a13 a14 a15 b1 b2 b3 b4 b5 b6 c1 le0 le1 p30 p31 p40 p41 p50 p51 j0 j1 hL hL1 h2 hl k0 k1 hM0
  simp! only [az,aJ,dy,dz,List.length_map,zR,lR,Z.ar T.dG, *]
  rfl
 have d1:=decide_eq_false c1
 by_cases c2:j / 3600%4=1
 ·have ok:TieOk ⟨tail,head,le,mo,0⟩:=⟨le0,le1,hmo,by show -M60≤(0:Int); decide,by show (0:Int)≤M60; decide⟩
  refine fin ⟨tail,head,le,mo,0⟩ rfl rfl ok fun sl=>ew ?_
  have pt:=put ⟨tail,head,le,mo,0⟩ rfl rfl ok
  have d2:=decide_eq_true c2
  have sp:∀s a,oE (bP (.tup [.str tail, .str head, .int le,aY mo, .int 0])) a (.int (N.given+1)) s (some (.dct (aj br N.ties)))=s.mod (.dct (aj br (cN N.ties (N.given+1) ⟨tail,head,le,mo,0⟩))) a:=fun s a=>hX (t:=⟨tail,head,le,mo,0⟩) (by omega)
  dsimp only at pt
  show Wp (aQ ⟨[some (.d (.cell n)),some (.d (.cell m)),some (.d (.int c)),some (.d (.int k)),none,none,none,none,none,none,none,none],S⟩) _ _
  unfold aQ
  clear put fin hv hmo ht hh hne et et2 eh eh2 ele emo ev hM hN hG a1 a2 a3 a4 a5 a6 a7 a8 a9 a10 a11 a12 a13 a14 a15 b1 b2 b3 b4 b5 b6 c1 c2 le0 le1 p30 p31 p40 p41 p50 p51 j0 j1 hL hL1 h2 hl k0 k1 hM0 ok
  simp! only [az,aJ,dy,dz,List.length_map,zR,lR,Z.ar T.dG, *]
  rfl
 have d2:=decide_eq_false c2
 have ok:TieOk ⟨tail,head,le,mo,p5*v⟩:=⟨le0,le1,hmo,by show -M60≤p5*v; rcases hv with rfl | rfl<;> omega,by show p5*v≤M60; rcases hv with rfl | rfl<;> omega⟩
 refine fin ⟨tail,head,le,mo,p5*v⟩ rfl rfl ok fun sl=>ew ?_
 have pt:=put ⟨tail,head,le,mo,p5*v⟩ rfl rfl ok
 have sp:∀s a,oE (bP (.tup [.str tail, .str head, .int le,aY mo, .int (p5*v)])) a (.int (N.given+1)) s (some (.dct (aj br N.ties)))=s.mod (.dct (aj br (cN N.ties (N.given+1) ⟨tail,head,le,mo,p5*v⟩))) a:=fun s a=>hX (t:=⟨tail,head,le,mo,p5*v⟩) (by omega)
 dsimp only at pt
 show Wp (aQ ⟨[some (.d (.cell n)),some (.d (.cell m)),some (.d (.int c)),some (.d (.int k)),none,none,none,none,none,none,none,none],S⟩) _ _
 unfold aQ
 clear put fin hv hmo ht hh hne et et2 eh eh2 ele emo ev hM hN hG a1 a2 a3 a4 a5 a6 a7 a8 a9 a10 a11 a12 a13 a14 a15 b1 b2 b3 b4 b5 b6 c1 c2 le0 le1 p30 p31 p40 p41 p50 p51 j0 j1 hL hL1 h2 hl k0 k1 hM0 ok
 simp! only [az,aJ,dy,dz,List.length_map,zR,lR,Z.ar T.dG, *]
 rfl

theorem fill_lc {v0 v3 v4 v5 v6:Option Vl} (hM:ModAt S m ml md N) (hp:ps.length≤18):lcK (zSt 5) (zB (z2 (oIn true) (aa 5) (z2 oIx (aa 1) (zC (.str "names"))))) (aa 5) [5] ⟨[.d (.lst (ps.map .str))],fun _=>True,ps.map .str⟩ ⟨[v0,some (.d (.cell m)),some (.d (.lst (ps.map .str))),v3,v4,v5,v6],S⟩=
  .ok (.own (.lst ((ps.filter fun z=>!decide (z∈N.names)).map .str))) ⟨[v0,some (.d (.cell m)),some (.d (.lst (ps.map .str))),v3,v4,none,v6],S⟩:=by
 rw [pH (Bu N.names) id rfl Nl.d1 trivial (fun x hx=>?_) (by show (ps.map D.str).length≤_; rw [List.length_map]; exact Nat.le_trans hp (by decide))]
 ·rw [List.map_id,List.filter_map]
  rfl
 ·obtain ⟨z,_,rfl⟩:=List.mem_map.mp hx
  have e3:=fun s:SD=>hZ (s:=s) (neg:=true) (fF (w:=z) (l:=N.names))
  have q1:=hM.m
  have q2:=hM.l
  unfold Z.gO
  simp! only [az,Bu,e3, *]
  exact fun _=>rfl
abbrev fiS (n m:Nat) (ps:List Str) (c:Int) (fs:List Str) (v5 v6:Option Vl) (S:Sto):SD:=⟨[some (.d (.cell n)),some (.d (.cell m)),some (.d (.lst (ps.map .str))),some (.d (.int c)),some (.own (.lst (fs.map .str))),v5,v6],S⟩
noncomputable def fiB1:SD→R Fl:=(ai (aH (bL "Net" "put_place" bg [] (aa 0) (zA (aa 5) zA0)))
 (aH (zM2 isL (oB2 aL) (z2 oIx (aa 1) (zC (.str "names"))) (aR (aa 5)))))
noncomputable def fiB2:SD→R Fl:=(bb (cK (zB (ag bh [] (zA (aa 0) (zA (aa 1) (zA (z2 bX (aa 3) (aa 6)) (zA (aa 6) zA0))))))) (aN (zC (.bl false))) au)
theorem Bx {G:SD→R Fl} (hG:G=fiB1) {w:Str} {v6:Option Vl} (W:NW S n l d m ml md N) (hz:qJ w) (hn:w∉N.names) (hl:N.names.length<14):
  ∃S',NW S' n l d m ml md ⟨N.names++ [w],N.ties,N.given⟩∧Frm S S' n l d m ml md∧Wp (G (fiS n m ps c fs (some (.d (.str w))) v6 S)) (fun fl s' =>fl= .nx∧s' =fiS n m ps c fs (some (.d (.str w))) v6 S') XF:=by
 have dd:=rq (z:=w) W.six W.net W.mod (W.good.place hz hn hl)
 refine ⟨_,W.did dd,dd.frm, ?_⟩
 rw [AX W.six.a2.2.1.symm]
 have pt:=fun sl=>mm (sl:=sl) (w:=w) W.net (Aj hz.1 hz.2.1 hz.2.2.1) (by have:=hz.2.2.1; omega) hn hl
 have q1:∀x,(S.put l x).get m=some (.dct (vF ml md N.given)):=fun x=>(Sto.put_ne W.six.a2.1.symm).trans W.mod.m
 have q2:∀x,(S.put l x).get ml=some (.lst (N.names.map .str)):=fun x=>(Sto.put_ne W.six.a2.2.1.symm).trans W.mod.l
 have q4:=W.net.n
 have g1:(N.names.length<sizeLine)=True:=eq_true (Nat.lt_of_lt_of_le (show N.names.length<100 by omega) (by decide))
 have ma:(N.names++ [w]).map D.str=N.names.map D.str++ [.str w]:=by rw [List.map_append]; rfl
 rw [ma] at pt ⊢
 subst hG
 unfold fiB1
 simp! only [q4,pt,q1,q2,az,Z.ar T.mN_put_place,List.length_map,g1]
theorem zg (W:NW S n l d m ml md N) (hps:∀z∈ps,qJ z) (hp:ps.length≤18) (nd:ps.Nodup) (h2:2≤ps.length):∃S' N',NW S' n l d m ml md N'∧Frm S S' n l d m ml md∧∀sl,goF iV [.cell n, .cell m, .lst (ps.map .str), .int c] ⟨sl,S⟩= .ok (.d (.bl true)) ⟨sl,S'⟩:=by
 have q1:=W.mod.m
 have q2:=W.mod.l
 have nl:=W.good.nl
 have tl:=W.good.tl
 have lc:=fun (v0 v3 v4 v5 v6:Option Vl)=>fill_lc (v0:=v0) (v3:=v3) (v4:=v4) (v5:=v5) (v6:=v6) W.mod hp
 have nf:(ps.filter fun z=>!decide (z∈N.names)).Nodup:=nd.sublist List.filter_sublist
 have hf:∀z∈(ps.filter fun z=>!decide (z∈N.names)),qJ z∧z∉N.names:=fun z hz=>by
  obtain ⟨h1,h2⟩:=List.mem_filter.mp hz
  exact ⟨hps z h1,by simpa using h2⟩
 have h3:ps.length≤(ps.filter fun z=>!decide (z∈N.names)).length+N.names.length:=by
  rw [←List.length_append]
  refine nd.length_le_of_subset fun z hz=>?_
  by_cases c:z∈N.names
  ·exact List.mem_append.mpr (.inr c)
  ·exact List.mem_append.mpr (.inl (List.mem_filter.mpr ⟨hz,by rw [decide_eq_false c]; rfl⟩))
 generalize (ps.filter fun z=>!decide (z∈N.names))=fs at lc nf hf h3
 have ln:((N.names.map D.str).length:Int)=(N.names.length:Int):=by rw [List.length_map]
 obtain ⟨kk,hk⟩:∃kk,kk=14 - N.names.length:=⟨_,rfl⟩
 have cu:Z.cutD (fs.map D.str) none (some (14 - (N.names.length:Int)))=(fs.take kk).map .str:=by
  rw [gz _ (by omega),List.map_take,hk]
  congr 1
  omega
 have nf2:(fs.take kk).Nodup:=nf.sublist (List.take_sublist _ _)
 have hf2:∀z∈fs.take kk,qJ z∧z∉N.names:=fun z hz=>hf z (List.mem_of_mem_take hz)
 have lf:(fs.take kk).length≤kk:=List.length_take_le _ _
 have h4:2≤N.names.length+(fs.take kk).length:=by rw [List.length_take]; omega
 have key:Wp (jw ⟨[some (.d (.cell n)),some (.d (.cell m)),some (.d (.lst (ps.map .str))),some (.d (.int c)),none,none,none],S⟩) (fun fl s' =>flv fl=some (.d (.bl true))∧∃N',NW s'.st n l d m ml md N'∧Frm S s'.st n l d m ml md) XF:=by
  rw [show jw=(ai (aw (zLc (cZ (aR (aa 2))) (zSt 5) (zB (z2 (oIn true) (aa 5) (z2 oIx (aa 1) (zC (.str "names"))))) (aa 5) [5]) (zSt 4))
 (ai (eo (cZ (aR (zSl (aa 4) zNo (zPt (z2 mZ (zC (.int 14)) (z1 cS (z2 oIx (aa 1) (zC (.str "names"))))))))) (zSt 5) fiB1)
 (ai (eo (Ap (zA (z2 mZ (zC (.int 40)) (z1 cS (z2 oIx (aa 1) (zC (.str "ties"))))) zA0)) (zSt 6) fiB2)
 (aN (zC (.bl true)))))) from rfl]
  simp! only [lc,q1,q2,az,ln,cu]
  rw [ab]
  refine di (fun j s' =>∃v5 S1,s' =fiS n m ps c fs v5 none S1∧NW S1 n l d m ml md ⟨N.names++(fs.take kk).take j,N.ties,N.given⟩∧Frm S S1 n l d m ml md) Nl.d1 (fun _ _ _=>trivial) ⟨none,S,rfl,by rw [List.take_zero,List.append_nil]; exact W,Frm.refl⟩ (fun j y s' e hI=>?_) (fun s' hI=>?_)
  ·obtain ⟨v5,S1,rfl,W1,F1⟩:=hI
   have e:((fs.take kk).map D.str)[j]? =some y:=e
   rw [List.getElem?_map] at e
   obtain ⟨z,ez,rfl⟩:=Option.map_eq_some_iff.mp e
   have hz:=List.mem_of_getElem? ez
   have hj:j<(fs.take kk).length:=(List.getElem?_eq_some_iff.mp ez).1
   have ht:(fs.take kk).take (j+1)=(fs.take kk).take j++ [z]:=by rw [List.take_succ,ez]; rfl
   have hd:z∉(fs.take kk).take j:=fun hm=>by
    have h5:((fs.take kk).take (j+1)).Nodup:=nf2.sublist (List.take_sublist _ _)
    rw [ht,List.nodup_append] at h5
    exact h5.2.2 z hm z (List.mem_singleton.mpr rfl) rfl
   have hl:(N.names++(fs.take kk).take j).length<14:=by rw [List.length_append,List.length_take]; omega
   obtain ⟨S2,W2,F2,h6⟩:=Bx (c:=c) (ps:=ps) (fs:=fs) (v6:=none) rfl W1 (hf2 z hz).1 (fun hm=>(List.mem_append.mp hm).elim (hf2 z hz).2 hd) hl
   simp! only []
   refine h6.mono (fun fl s' hh=>?_) fun _ _ _ h=>h
   obtain ⟨rfl,rfl⟩:=hh
   refine ⟨_,S2,rfl, ?_,F1.trans F2⟩
   rw [ht,←List.append_assoc]
   exact W2
  ·obtain ⟨v5,S1,rfl,W1,F1⟩:=hI
   rw [show (Src.ds ⟨[.d (.lst ((fs.take kk).map .str))],fun _=>True,(fs.take kk).map .str⟩).length=(fs.take kk).length by show ((fs.take kk).map D.str).length=_; rw [List.length_map],List.take_length] at W1
   have q1:=W1.mod.m
   have q3:=W1.mod.d
   have lt:((aj br N.ties).length:Int)=N.ties.length:=by unfold aj; rw [List.length_map]
   have z8:(-(2 ^ 62)≤40 - (N.ties.length:Int)∧40 - (N.ties.length:Int)<2 ^ 62)=True:=eq_true (by omega)
   simp! only [q1,q3,aJ,lt,z8]
   rw [ab]
   refine di (fun j s' =>∃v6 S2 N2,s' =fiS n m ps c fs v5 v6 S2∧NW S2 n l d m ml md N2∧Frm S S2 n l d m ml md∧2≤N2.names.length∧N2.ties.length≤N.ties.length+j) nl0 (fun _ _ _=>trivial) ⟨none,S1,_,rfl,W1,F1,by rw [List.length_append]; exact h4,Nat.le_refl _⟩ (fun j y s' e hI=>?_) (fun s' hI=>?_)
   ·obtain ⟨v6,S2,N2,rfl,W2,F2,n2,t2⟩:=hI
    have e:(Z.upTo 0 (40 - (N.ties.length:Int)).toNat)[j]? =some y:=e
    have hj:j<(40 - (N.ties.length:Int)).toNat:=by
     have:=(List.getElem?_eq_some_iff.mp e).1
     rw [vn] at this
     exact this
    have ey:y= .int (j:Nat):=by
     unfold Z.upTo at e
     rw [List.getElem?_map,List.getElem?_range hj] at e
     have e:=Option.some.inj e
     rw [←e]
     show D.int (0+(j:Int))=_
     rw [Int.zero_add]
    subst ey
    obtain ⟨S3,N3,D3,⟨e1,e2⟩,h7⟩:=uB (c:=c+(j:Nat)) (k:=(j:Nat)) W2.six W2.net W2.mod W2.good n2 (by omega) (by omega) (by omega)
    unfold fiB2
    simp! only [h7]
    exact ⟨_,S3,N3,rfl,W2.did D3,F2.trans D3.frm,by rw [e1]; exact n2,by omega⟩
   ·obtain ⟨v6,S2,N2,rfl,W2,F2,n2,t2⟩:=hI
    simp! only []
    exact ⟨N2,W2,F2⟩
 obtain ⟨fl,s',e,hh,N',W',F'⟩:=key.is
 refine ⟨s'.st,N',W',F',fun sl=>ew ?_⟩
 show Wp (jw ⟨[some (.d (.cell n)),some (.d (.cell m)),some (.d (.lst (ps.map .str))),some (.d (.int c)),none,none,none],S⟩) _ _
 rw [e]
 exact ⟨hh,rfl⟩
end
section
variable {S S' :Sto} {x:D} {n l d m ml md c:Nat} {N N' :ND} {f:Int→Int} {s t:Str} {q:Tq} {rest am B:Int} {p:PartD} {ps:List PartD}
structure Aw (c n l d m ml md:Nat):Prop where
 n:c≠n
 l:c≠l
 d:c≠d
 m:c≠m
 ml:c≠ml
 md:c≠md
theorem NW.but (W:NW S n l d m ml md N) (h:But S S' c) (A:Aw c n l d m ml md):NW S' n l d m ml md N:=by
 obtain ⟨⟨b1,b2,b3,b4,b5,b6,a1,a2,a3,a4,a5⟩,⟨n1,n2,n3⟩,⟨m1,m2,m3⟩,hG⟩:=W
 have nx:=h.nx
 exact ⟨⟨by omega,by omega,by omega,by omega,by omega,by omega,a1,a2,a3,a4,a5⟩,⟨(h.get _ b1 A.n.symm).trans n1,(h.get _ b2 A.l.symm).trans n2,(h.get _ b3 A.d.symm).trans n3⟩,⟨(h.get _ b4 A.m.symm).trans m1,(h.get _ b5 A.ml.symm).trans m2,(h.get _ b6 A.md.symm).trans m3⟩,hG⟩
theorem Frm.get (F:Frm S S' n l d m ml md) (A:Aw c n l d m ml md) (h:c<S.nx):S'.get c=S.get c:=F.fr c h A.n A.l A.d A.m A.ml A.md
theorem InvF.shp (I:InvF N.ties s t f rest) (H:Shp N N'):InvF N'.ties s t f rest:=by
 refine ⟨fun q hq=>?_,I.r0,fun z=>by rw [H.bal]; exact I.b z⟩
 have h1:q.1∈N.ties.map (·.1):=by rw [←H.nums]; exact List.mem_map.mpr ⟨q,hq,rfl⟩
 obtain ⟨p,hp,e⟩:=List.mem_map.mp h1
 rw [←e]
 exact I.nn p hp
theorem all_shp {P:Int→Prop} (h:∀q∈N.ties,P q.1) (H:Shp N N'):∀q∈N'.ties,P q.1:=fun q hq=>by
 have h1:q.1∈N.ties.map (·.1):=by rw [←H.nums]; exact List.mem_map.mpr ⟨q,hq,rfl⟩
 obtain ⟨p,hp,e⟩:=List.mem_map.mp h1
 rw [←e]
 exact h p hp
theorem vO (p:PartD):lay (hW p)=true∧dep (hW p)≤60:=by
 have h1:Bn (bQ p.road)=true:=vN fun d hd=>by obtain ⟨q,_,rfl⟩:=List.mem_map.mp hd; rfl
 have h2:Bz (bQ p.road)≤0:=vZ fun d hd=>by obtain ⟨q,_,rfl⟩:=List.mem_map.mp hd; exact Nat.zero_le _
 unfold hW
 refine ⟨?_, ?_⟩
 ·simp only [lay,Bn,h1,Bool.and_self]
 ·simp only [dep,Bz]
  omega
theorem ne_kept (ps:List PartD):∀u:SD,neK u (some (.lst (ps.map hW))) (some (.lst (ps.map hW)))= .ok (.d (.bl false)) u:=fun u=>by
 have h:=eq_lst (ds:=ps.map hW) (fun d hd=>by obtain ⟨p,_,rfl⟩:=List.mem_map.mp hd; exact (vO p).1) (fun d hd=>by obtain ⟨p,_,rfl⟩:=List.mem_map.mp hd; exact (vO p).2)
 unfold neK
 simp only [h]
 rfl
noncomputable def rl (N' :ND) (q:Tq):Tq:=if h:∃p,p∈N'.ties∧p.1=q.1 then h.choose else q
theorem rl_fst (N' :ND) (q:Tq):(rl N' q).1=q.1:=by
 unfold rl
 split
 ·rename_i h; exact h.choose_spec.2
 ·rfl
theorem rl_mem (H:Shp N N') (hq:q∈N.ties):rl N' q∈N'.ties:=by
 obtain ⟨p,hp,e,_⟩:=H.mem hq
 have h:∃p,p∈N'.ties∧p.1=q.1:=⟨p,hp,e⟩
 unfold rl
 rw [dif_pos h]
 exact h.choose_spec.1
noncomputable def rp (N' :ND) (p:PartD):PartD:=⟨p.ring,p.road.map (rl N'),p.am⟩
theorem tN (N' :ND) (p:PartD):(rp N' p).road.map (·.1)=p.road.map (·.1):=by
 show (p.road.map (rl N')).map (·.1)=_
 rw [List.map_map]
 exact List.map_congr_left fun q _=>rl_fst N' q
theorem yg (N' :ND) (p:PartD):bQ (rp N' p).road=bQ p.road:=by
 have h:=congrArg (List.map D.int) (tN N' p)
 rw [List.map_map,List.map_map] at h
 exact h
theorem rp_part (N' :ND) (p:PartD):aC (rp N' p)=aC p:=by
 unfold aC
 rw [yg]
 rfl
theorem rp_kept (N' :ND) (p:PartD):hW (rp N' p)=hW p:=by
 unfold hW
 rw [yg]
 rfl
theorem rp_sum (N' :ND) (ps:List PartD) (i:Int):sU (ps.map (rp N')) i=sU ps i:=by
 unfold sU
 rw [List.map_map]
 congr 1
 refine List.map_congr_left fun p _=>?_
 show cQ i (rp N' p)=cQ i p
 unfold cQ
 rw [tN]
 rfl
def HeldOk (N:ND) (x:D):Prop:=∃(ps:List PartD) (f:Int→Int),x= .tup [.lst (ps.map aC), .lst (ps.map hW), .dct (ah f (N.ties.map (·.1)))]∧ps.length≤1000∧(∀p∈ps,∀q∈p.road,q∈N.ties)∧(∀p∈ps,(p.road.map (·.1)).Nodup)∧∀i∈N.ties.map (·.1),sU ps i=f i
theorem HeldOk.shp (h:HeldOk N x) (H:Shp N N'):HeldOk N' x:=by
 obtain ⟨ps,f,rfl,h1,h2,h3,h4⟩:=h
 refine ⟨ps.map (rp N'),f, ?_,by rw [List.length_map]; exact h1,fun p hp q hq=>?_,fun p hp=>?_,fun i hi=>?_⟩
 ·rw [List.map_map,List.map_map,H.nums,show (aC ∘ rp N')=aC from funext fun p=>rp_part N' p,show (hW ∘ rp N')=hW from funext fun p=>rp_kept N' p]
 ·obtain ⟨p0,hp0,rfl⟩:=List.mem_map.mp hp
  obtain ⟨q0,hq0,rfl⟩:=List.mem_map.mp hq
  exact rl_mem H (h2 p0 hp0 q0 hq0)
 ·obtain ⟨p0,hp0,rfl⟩:=List.mem_map.mp hp
  rw [tN]
  exact h3 p0 hp0
 ·rw [rp_sum]
  rw [H.nums] at hi
  exact h4 i hi
structure InvL (S:Sto) (n l d m ml md c:Nat) (N:ND) (s t:Str) (f:Int→Int) (rest B:Int):Prop where
 w:NW S n l d m ml md N
 cl:c<S.nx
 c:S.get c=some (.dct (ah f (N.ties.map (·.1))))
 i:InvF N.ties s t f rest
 b:∀q∈N.ties,f q.1≤B
end
section
variable {S S' S1:Sto} {sl:List (Option Vl)} {x y:D} {n l d m ml md c:Nat} {N N2:ND} {f g:Int→Int} {s t:Str} {q:Tq} {rest am B mo nn xc:Int} {p:PartD} {ps:List PartD} {cs:List Int} {ws:List Str} {hs:List D} {v0 v12 v14 v15:Option Vl} {j:Nat} {Q:Fl→SD→Prop}
def lstV (l:List D) (v:Option Vl):Prop:=v=some (.own (.lst l))∨v=some (.d (.lst l))
abbrev lwS (v0:Option Vl) (cs:List Int) (ws:List Str) (n m:Nat) (mo:Int) (c:Nat) (nn:Int) (ml:Nat) (s t:Str) (am:Int) (v12:Option Vl) (hs:List D) (v14 v15:Option Vl) (S:Sto):SD:=
 ⟨[v0,some (.d (.lst (cs.map .int))),some (.d (.lst (ws.map .str))),some (.d (.cell n)),some (.d (.cell m)),some (.d (.bl true)),some (.d (.int mo)),some (.d (.cell c)),some (.d (.int nn)),some (.d (.cell ml)),some (.d (.tup [.str s, .str t])),some (.d (.int am)),v12,some (.own (.lst hs)),v14,v15,none],S⟩
theorem lw_a {G g:SD→R Fl} (hG:G=(ai (bb (zB (z2 oEq (z2 bN (ag aF [] (zA (aa 15) (zA (aa 14) (zA (zC (.int 66)) zA0)))) (zC (.int 5))) (zC (.int 1)))) (aw (z2 mZ (aa 11) (ag ly [] (zA (aa 7) (zA (aa 12) (zA (ag aF [] (zA (aa 15) (zA (aa 14) (zA (zC (.int 67)) zA0)))) zA0))))) (zSt 11)) (aw (z2 bX (aa 11) (ag lx [] (zA (aa 4) (zA (aa 7) (zA (aa 10) (zA (aa 15) (zA (aa 14) zA0))))))) (zSt 11)))
 g)) (I:InvL S n l d m ml md c N s t f rest B) (A:Aw c n l d m ml md) (hs1:s∈N.names) (ht1:t∈N.names) (hst:s≠t) (P:PartsOk N s t f rest ps∨ps= []) (hv:lstV (ps.map aC) v12) (hB:B≤500*M60) (hj:j<63)
  (h:∀S1 f1 rest1 v12,InvL S1 n l d m ml md c N s t f1 rest1 (B+6*(M60+1))→Wp (g (lwS v0 cs ws n m mo c nn ml s t rest1 v12 hs (some (.d (.int (j:Nat)))) (some (.d (.int xc))) S1)) Q XF):
  Wp (G (lwS v0 cs ws n m mo c nn ml s t rest v12 hs (some (.d (.int (j:Nat)))) (some (.d (.int xc))) S)) Q XF:=by
 have h60:=xh
 obtain ⟨u,u0,u1,e1⟩:=dr xc (j:Nat) 66 (by omega) (by omega) (by decide) (by decide)
 obtain ⟨w,w0,w1,e2⟩:=dr xc (j:Nat) 67 (by omega) (by omega) (by decide) (by decide)
 have z5:((0:Int)<5)=True:=by simp
 subst hG
 by_cases c1:u%5=1
 ·have d1:=decide_eq_true c1
  obtain ⟨S1,f1,v,B1,nx,c2,I1,le,e3⟩:=g_Lless (nn:=w) I.c I.w.good hst I.i P w0 (fun q hq=>Int.le_trans (I.b q hq) (by omega))
  have I2:InvL S1 n l d m ml md c N s t f1 (rest - v) (B+6*(M60+1)):=⟨I.w.but B1 A,by rw [nx]; exact I.cl,c2,I1,fun q hq=>by have h1:=I.b q hq; have h2:=le q hq; omega⟩
  rcases hv with rfl | rfl
  ·simp! only [e1,z5,d1,e2,e3]
   exact h _ _ _ _ I2
  ·simp! only [e1,z5,d1,e2,e3]
   exact h _ _ _ _ I2
 ·have d1:=decide_eq_false c1
  obtain ⟨S1,f1,v,B1,nx,c2,M1,e3⟩:=g_Lmore (cl:=xc) (k:=(j:Nat)) I.w.mod.mdl I.w.good (fun S' h=>(I.w.but h A).mod.mdl) I.c hs1 ht1 hst (by omega) (by omega)
  have I2:InvL S1 n l d m ml md c N s t f1 (rest+v) (B+6*(M60+1)):=⟨I.w.but B1 A,by rw [nx]; exact I.cl,c2,⟨fun q hq=>by have h1:=I.i.nn q hq; have h2:=M1.up q.1; omega,by have h1:=I.i.r0; have h2:=M1.v0; omega,fun z=>by
   rw [M1.b,I.i.b]
   split<;> split<;> omega⟩,fun q hq=>by have h1:=I.b q hq; have h2:=M1.up q.1; omega⟩
  simp! only [e1,z5,d1,e3]
  exact h _ _ _ _ I2
theorem lw_r {G:SD→R Fl} (hG:G=(ai (aH (ag eT [] (zA (aa 3) (zA (aa 4) (zA (aa 7) (zA (ag aF [] (zA (aa 15) (zA (aa 14) (zA (zC (.int 68)) zA0)))) zA0))))))
 (ai (aw (ag bG [] (zA (aa 3) (zA (z1 eY (aa 7)) (zA (z2 oIx (aa 10) (zC (.int 0))) (zA (z2 oIx (aa 10) (zC (.int 1))) zA0))))) (zSt 12))
 (ai (bb (cK (zB (ag bI [] (zA (aa 4) (zA (aa 7) (zA (aa 12) (zA (aa 10) (zA (aa 11) zA0)))))))) (aN (zC (.bl false))) au)
 (ai (bb (cK (zB (ag aT [] (zA (ag bp [] (zA (aa 3) (zA (aa 7) (zA (z2 oIx (aa 10) (zC (.int 0))) (zA (z2 oIx (aa 10) (zC (.int 1))) zA0))))) (zA (aa 11) zA0))))) (aN (zC (.bl false))) au)
 (ai (bb (cK (zB (ag bJ [] (zA (ag aI [] (zA (aa 3) (zA (z1 iD (aa 12)) zA0))) (zA (aa 7) zA0))))) (aN (zC (.bl false))) au)
 (aH (zM2 isL (oB2 aL) (aa 13) (aR (fR (zA (aa 12) (zA (ag fw [] (zA (aa 12) zA0)) (zA (z1 eY (aa 7)) zA0))))))))))))) (I:InvL S n l d m ml md c N s t f rest B) (A:Aw c n l d m ml md) (hs1:s∈N.names) (ht1:t∈N.names) (hst:s≠t) (hB:B≤1000*M60) (hj:j<63) (hl:hs.length≤100)
  (h:∀S1 N1 ps v12 h1,InvL S1 n l d m ml md c N1 s t f rest B→Shp N N1→PartsOk N1 s t f rest ps→lstV (ps.map aC) v12→HeldOk N1 h1→Q .nx (lwS v0 cs ws n m mo c nn ml s t rest v12 (hs++ [h1]) (some (.d (.int (j:Nat)))) (some (.d (.int xc))) S1)):
  Wp (G (lwS v0 cs ws n m mo c nn ml s t rest v12 hs (some (.d (.int (j:Nat)))) (some (.d (.int xc))) S)) Q XF:=by
 have h60:=xh
 obtain ⟨u,u0,u1,e1⟩:=dr xc (j:Nat) 68 (by omega) (by omega) (by decide) (by decide)
 obtain ⟨S2,N2,W2,H2,F2,ok2,e2⟩:=ze (nn:=u) (y:= .cell c) I.w (fun S' F=> .inr ⟨c,rfl,(F.get A I.cl).trans I.c⟩) I.i.nn
 have c2:=(F2.get A I.cl).trans I.c
 rw [←H2.nums] at c2
 have cl2:=Nat.lt_of_lt_of_le I.cl F2.nx
 have I2:=I.i.shp H2
 have s2:s∈N2.names:=by rw [H2.names]; exact hs1
 have t2:t∈N2.names:=by rw [H2.names]; exact ht1
 obtain ⟨S3,E3,e3⟩:=pU (x:= .dct (ah f (N2.ties.map (·.1)))) W2.net W2.six.b1 W2.six.b2 W2.six.b3 W2.good (.inl rfl) (fun j e=>by cases e) (List.Perm.refl _) ok2 s2 t2 hst I2
 have W3:=W2.ext E3
 have c3:=(E3.get c cl2).trans c2
 have hy:Hand S3 (.cell c) (ah f (N2.ties.map (·.1))):= .inr ⟨c,rfl,c3⟩
 have PO:=A4 W2.good s2 hst I2
 have b3:=all_shp (P:=fun i=>f i≤B) I.b H2
 generalize jV N2 s t f rest=ps at e3 PO
 have lp:ps.length≤40:=Nat.le_trans PO.len (Nat.le_trans List.countP_le_length W3.good.tl)
 have e4:=fun sl=>pV (sl:=sl) W3.mod.mdl W3.good hy (List.Perm.refl _) PO I2.nn (fun q hq=>Int.le_trans (b3 q hq) hB)
 have e5:=fun sl=>ky (sl:=sl) W3.net W3.good hy (List.Perm.refl _) ok2 s2 t2 hst
 rw [I2.car hst] at e5
 have e6:=jj rest
 have mem:∀p∈ps,∀q∈p.road,q∈N2.ties:=fun p hp=>(PO.ok p hp).mem
 have nd:∀p∈ps,(p.road.map (·.1)).Nodup:=fun p hp=>jc W3.good.rise (PO.ok p hp).mem (PO.ok p hp).nd
 have e7:=fun sl=>ia (sl:=sl) (x:= .lst (ps.map aC)) W3.net W3.good (.inl rfl) mem nd
 have sm:∀i∈N2.ties.map (·.1),sU ps i=f i:=fun i hi=>by
  obtain ⟨q,hq,rfl⟩:=List.mem_map.mp hi
  exact (PO.sum q hq).symm
 have e8:=fun sl=>nF (sl:=sl) hy (by have:=W3.good.tl; rw [List.length_map]; omega) sm (List.Perm.refl _)
 have e9:=fun sl S=>zf (sl:=sl) (S:=S) (ps:=ps) (by omega)
 have t0:∀u:SD,ixK u (some (.tup [.str s, .str t])) (some (.int 0))= .ok (.d (.str s)) u:=fun u=>ao rfl
 have t1:∀u:SD,ixK u (some (.tup [.str s, .str t])) (some (.int 1))= .ok (.d (.str t)) u:=fun u=>ao rfl
 have hz:(hs.length<sizeLine)=True:=eq_true (Nat.lt_of_le_of_lt hl (by decide))
 have I3:InvL S3 n l d m ml md c N2 s t f rest B:=⟨W3,Nat.lt_of_lt_of_le cl2 E3.nx,c3,I2,b3⟩
 have HO:HeldOk N2 (.tup [.lst (ps.map aC), .lst (ps.map hW), .dct (ah f (N2.ties.map (·.1)))]):=⟨ps,f,rfl,by omega,mem,nd,sm⟩
 have fin:=fun v12 hv=>h S3 N2 ps v12 _ I3 H2 PO hv HO
 clear h I I2 I3 HO PO sm nd mem lp b3 W3 W2 ok2 F2 E3 hy
 subst hG
 simp! only [e1,e2,c2,e3,t0,t1,e4,e5,e6,e7,e8,e9,c3,hz]
 exact fin _ (.inr rfl)
end
section
variable {S S1:Sto} {sl:List (Option Vl)} {x y:D} {n l d m ml md c:Nat} {N N2:ND} {f g:Int→Int} {s t:Str} {q:Tq} {rest am mo nn xc:Int} {ps:List PartD} {cs:List Int} {ws:List Str} {hs:List D} {v0 v7 v12 v14 v15 v16:Option Vl} {j:Nat}
abbrev lzS (v0:Option Vl) (cs:List Int) (ws:List Str) (n m:Nat) (mo:Int) (v7:Option Vl) (nn:Int) (ml:Nat) (s t:Str) (am:Int) (v12:Option Vl) (hs:List D) (v14 v15 v16:Option Vl) (S:Sto):SD:=
 ⟨[v0,some (.d (.lst (cs.map .int))),some (.d (.lst (ws.map .str))),some (.d (.cell n)),some (.d (.cell m)),some (.d (.bl true)),some (.d (.int mo)),v7,some (.d (.int nn)),some (.d (.cell ml)),some (.d (.tup [.str s, .str t])),some (.d (.int am)),v12,some (.d (.lst hs)),v14,v15,v16],S⟩
theorem law_z {G:SD→R Fl} (hG:G=(ai (aH (ie (ag eE [] (zA (aa 3) (zA (aa 4) zA0)))))
 (ai (eo (cZ (aR (aa 13))) (jD [12,16,7]) (bb (zOr (zB (z2 oNe (ag fw [] (zA (aa 12) zA0)) (aa 16))) (cK (zB (ag bJ [] (zA (ag aI [] (zA (aa 3) (zA (aa 12) zA0))) (zA (aa 7) zA0)))))) (aN (zC (.bl false))) au))
 (aN (zC (.bl true)))))) (W:NW S n l d m ml md N) (hh:∀h∈hs,HeldOk N h) (hl:hs.length≤100):
  Wp (G (lwS v0 cs ws n m mo c nn ml s t am v12 hs v14 v15 S)) (fun fl _=>fl= .rt (.d (.bl true))) XF:=by
 obtain ⟨S1,N1,W1,H1,F1,e1⟩:=vS W
 have W2:=W1.ext (Ext.new (x:= .dct (ah (fun _=>0) (N.ties.map (·.1)))))
 generalize hS2:S1.new (.dct (ah (fun _=>0) (N.ties.map (·.1))))=S2 at W2
 subst hG
 simp! only [e1,hS2]
 rw [ab]
 refine di (fun j s' =>∃v7 v12 v16,s' =lzS v0 cs ws n m mo v7 nn ml s t am v12 hs v14 v15 v16 S2) Nl.d1 (fun _ _ _=>trivial) ⟨_,_,_,rfl⟩ (fun j y s' e hI=>?_) (fun s' hI=>?_)
 ·obtain ⟨v7,v12,v16,rfl⟩:=hI
  have e:hs[j]? =some y:=e
  obtain ⟨ps,f,rfl,lp,mem,nd,sm⟩:=(hh y (List.mem_of_getElem? e)).shp H1
  have e7:=fun sl=>ia (sl:=sl) (x:= .lst (ps.map aC)) W2.net W2.good (.inl rfl) mem nd
  have e8:=fun sl=>nF (sl:=sl) (S:=S2) (y:= .dct (ah f (N1.ties.map (·.1)))) (.inl rfl) (by have:=W2.good.tl; rw [List.length_map]; omega) sm (List.Perm.refl _)
  have e9:=fun sl S=>zf (sl:=sl) (S:=S) (ps:=ps) lp
  have ne:=ne_kept ps
  simp! only [e7,e8,e9,ne]
  exact ⟨_,_,_,rfl⟩
 ·obtain ⟨v7,v12,v16,rfl⟩:=hI
  simp! only []
theorem BH (ts:List Tq) (z:Str):bal (fun _=>0) ts z=0:=by
 unfold bal
 induction ts with
 | nil=>rfl
 | cons q r ih=>rw [List.map_cons,List.sum_cons,ih]; unfold b1; split<;> split<;> rfl
noncomputable def lwT:SD→R Fl:=(ai (bb (zB (z2 oEq (z2 bN (ag aF [] (zA (aa 15) (zA (aa 14) (zA (zC (.int 66)) zA0)))) (zC (.int 5))) (zC (.int 1)))) (aw (z2 mZ (aa 11) (ag ly [] (zA (aa 7) (zA (aa 12) (zA (ag aF [] (zA (aa 15) (zA (aa 14) (zA (zC (.int 67)) zA0)))) zA0))))) (zSt 11)) (aw (z2 bX (aa 11) (ag lx [] (zA (aa 4) (zA (aa 7) (zA (aa 10) (zA (aa 15) (zA (aa 14) zA0))))))) (zSt 11)))
 (ai (aH (ag eT [] (zA (aa 3) (zA (aa 4) (zA (aa 7) (zA (ag aF [] (zA (aa 15) (zA (aa 14) (zA (zC (.int 68)) zA0)))) zA0))))))
 (ai (aw (ag bG [] (zA (aa 3) (zA (z1 eY (aa 7)) (zA (z2 oIx (aa 10) (zC (.int 0))) (zA (z2 oIx (aa 10) (zC (.int 1))) zA0))))) (zSt 12))
 (ai (bb (cK (zB (ag bI [] (zA (aa 4) (zA (aa 7) (zA (aa 12) (zA (aa 10) (zA (aa 11) zA0)))))))) (aN (zC (.bl false))) au)
 (ai (bb (cK (zB (ag aT [] (zA (ag bp [] (zA (aa 3) (zA (aa 7) (zA (z2 oIx (aa 10) (zC (.int 0))) (zA (z2 oIx (aa 10) (zC (.int 1))) zA0))))) (zA (aa 11) zA0))))) (aN (zC (.bl false))) au)
 (ai (bb (cK (zB (ag bJ [] (zA (ag aI [] (zA (aa 3) (zA (z1 iD (aa 12)) zA0))) (zA (aa 7) zA0))))) (aN (zC (.bl false))) au)
 (aH (zM2 isL (oB2 aL) (aa 13) (aR (fR (zA (aa 12) (zA (ag fw [] (zA (aa 12) zA0)) (zA (z1 eY (aa 7)) zA0)))))))))))))
noncomputable def lwR:SD→R Fl:=(ai (aH (ag eT [] (zA (aa 3) (zA (aa 4) (zA (aa 7) (zA (ag aF [] (zA (aa 15) (zA (aa 14) (zA (zC (.int 68)) zA0)))) zA0))))))
 (ai (aw (ag bG [] (zA (aa 3) (zA (z1 eY (aa 7)) (zA (z2 oIx (aa 10) (zC (.int 0))) (zA (z2 oIx (aa 10) (zC (.int 1))) zA0))))) (zSt 12))
 (ai (bb (cK (zB (ag bI [] (zA (aa 4) (zA (aa 7) (zA (aa 12) (zA (aa 10) (zA (aa 11) zA0)))))))) (aN (zC (.bl false))) au)
 (ai (bb (cK (zB (ag aT [] (zA (ag bp [] (zA (aa 3) (zA (aa 7) (zA (z2 oIx (aa 10) (zC (.int 0))) (zA (z2 oIx (aa 10) (zC (.int 1))) zA0))))) (zA (aa 11) zA0))))) (aN (zC (.bl false))) au)
 (ai (bb (cK (zB (ag bJ [] (zA (ag aI [] (zA (aa 3) (zA (z1 iD (aa 12)) zA0))) (zA (aa 7) zA0))))) (aN (zC (.bl false))) au)
 (aH (zM2 isL (oB2 aL) (aa 13) (aR (fR (zA (aa 12) (zA (ag fw [] (zA (aa 12) zA0)) (zA (z1 eY (aa 7)) zA0))))))))))))
noncomputable def lwZ:SD→R Fl:=(ai (aH (ie (ag eE [] (zA (aa 3) (zA (aa 4) zA0)))))
 (ai (eo (cZ (aR (aa 13))) (jD [12,16,7]) (bb (zOr (zB (z2 oNe (ag fw [] (zA (aa 12) zA0)) (aa 16))) (cK (zB (ag bJ [] (zA (ag aI [] (zA (aa 3) (zA (aa 12) zA0))) (zA (aa 7) zA0)))))) (aN (zC (.bl false))) au))
 (aN (zC (.bl true)))))
theorem law_m {G:SD→R Fl} (hG:G=(ai (bb (zOr (cK (zB (aa 5))) (zB (z2 oLt (z1 cS (z2 oIx (aa 4) (zC (.str "names")))) (zC (.int 2))))) (aN (aa 5)) au)
 (ai (aw (ie (ag eE [] (zA (aa 3) (zA (aa 4) zA0)))) (zSt 7))
 (ai (aw (ag aF [] (zA (z1 wA (zSl (aa 1) zNo (zPt (zC (.int 4))))) (zA (zC (.int 6)) (zA (zC (.int 95)) zA0)))) (zSt 8))
 (ai (aw (z2 oIx (aa 4) (zC (.str "names"))) (zSt 9))
 (ai (aw (fR (zA (z2 oIx (aa 9) (z2 bN (aa 8) (z1 cS (aa 9)))) (zA (z2 oIx (aa 9) (z2 bN (z2 bX (z2 bX (aa 8) (zC (.int 1))) (z2 bN (z2 iF (aa 8) (zC (.int 14))) (z2 mZ (z1 cS (aa 9)) (zC (.int 1))))) (z1 cS (aa 9)))) zA0))) (zSt 10))
 (ai (aw (zC (.int 0)) (zSt 11))
 (ai (aw (fS zA0) (zSt 12))
 (ai (aw (fS zA0) (zSt 13))
 (ai (eo (nS (aR (aa 1))) (jD [14,15]) lwT)
 lwZ)))))))))) (W:NW S n l d m ml md N) (hc:cs.length≤63):
  Wp (G ⟨[v0,some (.d (.lst (cs.map .int))),some (.d (.lst (ws.map .str))),some (.d (.cell n)),some (.d (.cell m)),some (.d (.bl true)),some (.d (.int mo)),none,none,none,none,none,none,none,none,none,none],S⟩) (fun fl _=>fl= .rt (.d (.bl true))) XF:=by
 have h60:=xh
 have q1:=W.mod.m
 have q2:=W.mod.l
 have ln:∀l:List Str,((l.map D.str).length:Int)=(l.length:Int):=fun l=>by rw [List.length_map]
 subst hG
 by_cases cL:(N.names.length:Int)<2
 ·have dL:=decide_eq_true cL
  simp! only [q1,q2,az,ln,dL]
 have dL:=decide_eq_false cL
 obtain ⟨S1,N1,W1,H1,F1,e1⟩:=vS W
 have W2:=W1.ext (Ext.new (x:= .dct (ah (fun _=>0) (N.ties.map (·.1)))))
 have c2:(S1.new (.dct (ah (fun _=>0) (N.ties.map (·.1))))).get S1.nx=some (.dct (ah (fun _=>0) (N.ties.map (·.1)))):=gw
 have cl2:S1.nx<(S1.new (.dct (ah (fun _=>0) (N.ties.map (·.1))))).nx:=Nat.lt_succ_self _
 generalize hS2:S1.new (.dct (ah (fun _=>0) (N.ties.map (·.1))))=S2 at W2 c2 cl2
 have c2:=c2
 rw [←H1.nums] at c2
 have A:Aw S1.nx n l d m ml md:=by
  have h6:=W1.six
  have:=h6.b1; have:=h6.b2; have:=h6.b3; have:=h6.b4; have:=h6.b5; have:=h6.b6
  exact ⟨by omega,by omega,by omega,by omega,by omega,by omega⟩
 have su:=fun s:SD=>sT (s:=s) (ds:=(cs.take 4).map D.int) (gY _)
 have ct:Z.cutD (cs.map D.int) none (some 4)=(cs.take 4).map D.int:=by rw [gz _ (by decide),←List.map_take]; rfl
 obtain ⟨nn,n0,n1,e2⟩:=dr ((cs.take 4).sum) 6 95 (by decide) (by decide) (by decide) (by decide)
 have p1:=W2.mod.m
 have p2:=W2.mod.l
 have h2:2≤N1.names.length:=by rw [H1.names]; omega
 have hL:((N1.names.length:Nat):Int)≠0:=by omega
 have hL1:((N1.names.length:Nat):Int) - 1≠0:=by omega
 obtain ⟨s,hs1,es,es2⟩:=fD (ns:=N1.names) (i:=nn%(N1.names.length:Int)) (Int.emod_nonneg _ (by omega)) (Int.emod_lt_of_pos _ (by omega))
 obtain ⟨t,ht1,et,et2⟩:=fD (ns:=N1.names) (i:=(nn+1+nn / 14%((N1.names.length:Int) - 1))%(N1.names.length:Int)) (Int.emod_nonneg _ (by omega)) (Int.emod_lt_of_pos _ (by omega))
 have hst:s≠t:=ph W1.good.nd es2 et2 fun e=>by
  have q1:=Int.emod_nonneg nn hL
  have q2:=Int.emod_nonneg (nn+1+nn / 14%((N1.names.length:Int) - 1)) hL
  exact oG (m:=nn) (L:=N1.names.length) (Int.emod_nonneg (nn / 14) hL1) (Int.emod_lt_of_pos (nn / 14) (by omega)) (by omega)
 have r1:=fun s:SD=>ao (s:=s) es
 have r2:=fun s:SD=>ao (s:=s) et
 have z1:(0<(N1.names.length:Int))=True:=eq_true (by omega)
 have z2:(0<(N1.names.length:Int) - 1)=True:=eq_true (by omega)
 have z3:∀i:Int,CDivW i 14=True:=fun i=>eq_true (M.aq (by decide) (by decide))
 have I0:InvL S2 n l d m ml md S1.nx N1 s t (fun _=>0) 0 0:=⟨W2,cl2,c2,⟨fun _ _=>Int.le_refl _,Int.le_refl _,fun z=>by rw [BH]; split<;> split<;> rfl⟩,fun _ _=>Int.le_refl _⟩
 simp! only [q1,q2,az,ln,dL,e1,hS2,su,ct,e2,p1,p2,r1,r2,z1,z2,z3]
 rw [ab]
 refine di (fun j s' =>∃v12 v14 v15 S3 N3 f rest ps hs,s' =lwS v0 cs ws n m mo S1.nx nn ml s t rest v12 hs v14 v15 S3∧InvL S3 n l d m ml md S1.nx N3 s t f rest ((j:Int)*(6*(M60+1)))∧Shp N1 N3∧(PartsOk N3 s t f rest ps∨ps= [])∧lstV (ps.map aC) v12∧hs.length=j∧∀h∈hs,HeldOk N3 h) Nl.d1 (fun _ _ _=>trivial) ⟨_,_,_,S2,N1,_,0,[],[],rfl,by simpa using I0,Shp.refl, .inr rfl, .inl rfl,rfl,fun h hh=>by cases hh⟩ (fun j y s' e hI=>?_) (fun s' hI=>?_)
 ·obtain ⟨v12,v14,v15,S3,N3,f,rest,ps,hs,rfl,I3,H3,P3,hv3,hl3,hh3⟩:=hI
  have e:(bO (cs.map D.int))[j]? =some y:=e
  rw [gU,List.getElem?_map] at e
  cases en:cs[j]? with
  | none=>rw [en] at e; cases e
  | some xc=>
   rw [en] at e
   cases e
   have hj:j<cs.length:=(List.getElem?_eq_some_iff.mp en).1
   have hjk:(j:Int)*(6*(M60+1))≤62*(6*(M60+1)):=Int.mul_le_mul_of_nonneg_right (by omega) (by omega)
   simp! only []
   refine lw_a (g:=lwR) rfl I3 A (by rw [H3.names]; exact hs1) (by rw [H3.names]; exact ht1) hst P3 hv3 (by omega) (by omega) (fun S4 f4 rest4 v12 I4=>?_)
   refine lw_r rfl I4 A (by rw [H3.names]; exact hs1) (by rw [H3.names]; exact ht1) hst (by omega) (by omega) (by omega) (fun S5 N5 ps5 v12 h1 I5 H5 PO hv HO=>?_)
   refine ⟨v12,_,_,S5,N5,f4,rest4,ps5,hs++ [h1],rfl, ?_,H3.trans H5, .inl PO,hv,by rw [List.length_append,hl3]; rfl,fun h hh=>?_⟩
   ·rw [show (((j+1:Nat):Int)*(6*(M60+1)))=(j:Int)*(6*(M60+1))+6*(M60+1) by rw [Int.natCast_add,Int.add_mul]; simp]
    exact I5
   ·rcases List.mem_append.mp hh with hh | hh
    ·exact (hh3 h hh).shp H5
    ·rw [List.mem_singleton.mp hh]; exact HO
 ·obtain ⟨v12,v14,v15,S3,N3,f,rest,ps,hs,rfl,I3,H3,P3,hv3,hl3,hh3⟩:=hI
  have hl4:hs.length≤100:=by
   rw [hl3]
   show (bO (cs.map D.int)).length≤100
   have:(bO (cs.map D.int)).length=cs.length:=by
    unfold bO
    rw [List.length_map,List.length_zipIdx,List.length_map]
   omega
  simp! only []
  exact law_z rfl I3.w hh3 hl4
noncomputable def lwM:SD→R Fl:=(ai (bb (zOr (cK (zB (aa 5))) (zB (z2 oLt (z1 cS (z2 oIx (aa 4) (zC (.str "names")))) (zC (.int 2))))) (aN (aa 5)) au)
 (ai (aw (ie (ag eE [] (zA (aa 3) (zA (aa 4) zA0)))) (zSt 7))
 (ai (aw (ag aF [] (zA (z1 wA (zSl (aa 1) zNo (zPt (zC (.int 4))))) (zA (zC (.int 6)) (zA (zC (.int 95)) zA0)))) (zSt 8))
 (ai (aw (z2 oIx (aa 4) (zC (.str "names"))) (zSt 9))
 (ai (aw (fR (zA (z2 oIx (aa 9) (z2 bN (aa 8) (z1 cS (aa 9)))) (zA (z2 oIx (aa 9) (z2 bN (z2 bX (z2 bX (aa 8) (zC (.int 1))) (z2 bN (z2 iF (aa 8) (zC (.int 14))) (z2 mZ (z1 cS (aa 9)) (zC (.int 1))))) (z1 cS (aa 9)))) zA0))) (zSt 10))
 (ai (aw (zC (.int 0)) (zSt 11))
 (ai (aw (fS zA0) (zSt 12))
 (ai (aw (fS zA0) (zSt 13))
 (ai (eo (nS (aR (aa 1))) (jD [14,15]) lwT)
 lwZ)))))))))
theorem g_law (ns:List Int) (S:Sto):Wp (b_law ⟨[some (.d (.con (ns.map .int))),none,none,none,none,none,none,none,none,none,none,none,none,none,none,none,none],S⟩) (fun fl _=>fl= .rt (.d (.bl true))) XF:=by
 obtain ⟨ws,h0,hps,hl,⟨nd,l2⟩,ep⟩:=g_pool2 (((ns.take 63).take 3).sum)
 have hn:(ns.take 63).length≤63:=by rw [List.length_take]; omega
 have c1:Z.cutD (ns.map D.int) none (some 63)=(ns.take 63).map D.int:=by rw [gz _ (by decide),←List.map_take]; rfl
 have c2:Z.cutD ((ns.take 63).map D.int) none (some 3)=((ns.take 63).take 3).map D.int:=by rw [gz _ (by decide),←List.map_take]; rfl
 have c3:Z.cutD ((ns.take 63).map D.int) none (some 2)=((ns.take 63).take 2).map D.int:=by rw [gz _ (by decide),←List.map_take]; rfl
 have su:=fun s:SD=>sT (s:=s) (ds:=((ns.take 63).take 3).map D.int) (gY _)
 have su2:=fun s:SD=>sT (s:=s) (ds:=((ns.take 63).take 2).map D.int) (gY _)
 obtain ⟨mo,m0,m1,e1⟩:=dr (((ns.take 63).take 2).sum) 3 96 (by decide) (by decide) (by decide) (by decide)
 obtain ⟨N,S1,W,E,_,eb⟩:=zh (S:=S) (cs:=ns.take 63) hn h0 hl hps
 have z4:((0:Int)<4)=True:=by simp
 rw [show b_law=(ai (aw (aR (zSl (aa 0) zNo (zPt (zC (.int 63))))) (zSt 1))
 (ai (aw (aR (ag oj [] (zA (z1 wA (zSl (aa 1) zNo (zPt (zC (.int 3))))) zA0))) (zSt 2))
 (ai (aw (ag kO [] (zA (aa 1) (zA (aa 2) zA0))) (jD [3,4,5]))
 (ai (aw (ag aF [] (zA (z1 wA (zSl (aa 1) zNo (zPt (zC (.int 2))))) (zA (zC (.int 3)) (zA (zC (.int 96)) zA0)))) (zSt 6))
 (ai (bb (mV (zB (z2 oEq (z2 bN (aa 6) (zC (.int 4))) (zC (.int 1)))) (cK (zB (ag iV [] (zA (aa 3) (zA (aa 4) (zA (aa 2) (zA (aa 6) zA0)))))))) (aN (zC (.bl false))) au)
 lwM))))) from rfl]
 by_cases c4:mo%4=1
 ·have d4:=decide_eq_true c4
  obtain ⟨S2,N2,W2,F2,ef⟩:=zg (c:=mo) W hps hl nd l2
  have fin:=fun v0=>law_m (mo:=mo) (v0:=v0) (ws:=ws) (G:=lwM) rfl W2 hn
  simp! only [c1,c2,c3,su,su2,ep,eb,e1,z4,d4,ef]
  exact fin _
 ·have d4:=decide_eq_false c4
  have fin:=fun v0=>law_m (mo:=mo) (v0:=v0) (ws:=ws) (G:=lwM) rfl W hn
  simp! only [c1,c2,c3,su,su2,ep,eb,e1,z4,d4]
  exact fin _
end
end T

namespace T
open PySem PySem.Spec PyProof.Rows L2 M Z
open Classical
section
variable {K:PySem.W.Frag} {mg:Str→Option Value}
theorem qZ {G:Gc} {p:Wr}:∀ns:List Int,Reps G p (ns.map D.int) (ns.map V.int)
 | []=>rfl
 | n::ns=>⟨.int n,ns.map V.int,rfl,rfl,qZ ns⟩
theorem law_sp {vs:List V} {H:Hp} {Q:VK} {E:XK} (h:xV K vs H Q E):spF ⟨K,mg⟩ 1 v_law vs H Q (fun _ _ _=>False):=by
 obtain ⟨a,ns,rfl,hS,q⟩:=h
 refine ⟨rfl,⟨fun _=>False,⟨fun _=>a,0,fun _=>False,H⟩,⟨0,fun _=>none⟩⟩,0,⟨fun _=>a,0,fun _=>False,H⟩,[],[],⟨0,fun _=>none⟩,[.con (ns.map .int)],rfl, ?_, ?_, ?_⟩
 ·exact {len:=rfl,pn:=rfl,nx:=Nat.le_refl _,ebd:=fun i d e=>(by cases e),old:=fun _ _=>rfl,bd:=fun i d e=>(by cases e),cel:=fun i d e=>(by cases e),inj:=fun i j d e h=>(by cases h),born:=fun i d e=>(by cases e),frm:=fun a h=>h.elim,kp:=fun b o e _=>⟨fun f=>f.elim, .inl e⟩,sub:=fun b o e=>⟨o,e⟩,grw:=fun _ _ _ h=>h,dom:=fun a h=>h.elim,ent:=fun k e q=>(by simp at q),own:=fun k x a q=>(by simp at q),sep:=fun j k x y a q=>(by simp at q)}
 ·exact ⟨.ref a,[],rfl,⟨a,ns.map V.int,rfl,hS.imp (fun r=>⟨id,r⟩) id,qZ ns⟩,rfl⟩
 ·obtain ⟨fl,s',e,rfl⟩:=(g_law ns ⟨0,fun _=>none⟩).is
  have e2:v_law [.con (ns.map .int)] ⟨0,fun _=>none⟩= .ok (.d (.bl true)) s' :=xm e rfl
  rw [e2]
  intro v p' h'
  obtain ⟨v',e3,r⟩:=h'.ent 0 (.d (.bl true)) rfl
  cases e3
  obtain rfl:v= .bl true:=r
  exact q _
end
end T

open PySem PySem.Spec PyProof.Rows
namespace T
open PySem PySem.Spec PyProof.Rows L2 M Z
open PySem.W (Frag findIn fnOf isFn keepIn makesIn mg_none_of mg_of)
section
variable {K:Frag} {mg:Str→Option Value} {f C:Addr} {q m x:Str} {st:Stmt} {ps:List Str}
theorem dfY (l:FnG K f q st) (g:mg q=some (.ref f)) (hb:∀{fd:FuncData},L2.Fun K q q st f fd→L2.Binds K fd ps []):Df K mg q st ps:=⟨⟨_,_,l.l.fn.choose_spec,g,hb l.l.fn.choose_spec⟩⟩
theorem dmY (l:FnM K C f m q st) (c:Cls K C) (hb:∀{fd:FuncData},L2.Fun K m q st f fd→L2.Binds K fd ps []):Dm K C m q st ps:=⟨⟨_,_,l.l.fn.choose_spec,c,⟨l.a,l.i,l.l.fn.choose_spec.kp⟩,hb l.l.fn.choose_spec⟩⟩
theorem dkY (l:FnAt K f "__init__" q st) (mk:makesIn K C=true) (a:findIn K (.ref C) "__init__" =some (some (.ref f))) (i:isFn K (.ref f)=true) (kc:keepIn K (.ref C)=true) (g:mg x=some (.ref C)) (hb:∀{fd:FuncData},L2.Fun K "__init__" q st f fd→L2.Binds K fd ps []):Dk K mg x C q st ps:=
 ⟨⟨_,_,l.fn.choose_spec,⟨mk,a,i,kc⟩,g,hb l.fn.choose_spec⟩⟩
end
local macro_rules | `(tactic| walk_at "b1") => `(tactic| exact fun F => F.binds fun _ _ _ _ _ _ us hl => match us, hl with | [_], _ => rfl)
local macro_rules | `(tactic| walk_at "b2") => `(tactic| exact fun F => F.binds fun _ _ _ _ _ _ us hl => match us, hl with | [_, _], _ => rfl)
local macro_rules | `(tactic| walk_at "b3") => `(tactic| exact fun F => F.binds fun _ _ _ _ _ _ us hl => match us, hl with | [_, _, _], _ => rfl)
local macro_rules | `(tactic| walk_at "b4") => `(tactic| exact fun F => F.binds fun _ _ _ _ _ _ us hl => match us, hl with | [_, _, _, _], _ => rfl)
local macro_rules | `(tactic| walk_at "b5") => `(tactic| exact fun F => F.binds fun _ _ _ _ _ _ us hl => match us, hl with | [_, _, _, _, _], _ => rfl)
local macro_rules | `(tactic| walk_at "b7") => `(tactic| exact fun F => F.binds fun _ _ _ _ _ _ us hl => match us, hl with | [_, _, _, _, _, _, _], _ => rfl)
set_option maxHeartbeats 0 in
theorem all_mk {l:PySem.W.OpenLaw} {w:World} {K:Frag} {h:Heap} {mg:Str→Option Value} {fa:Addr} (X:K.In h) (G:h.Ns mainGlobals mg) (hfa:mg "law" =some (.ref fa)) {Ca Cb Cc:Addr} (q0:Q0 K Ca Cb Cc) (q1:Q1 K Ca Cb Cc) (q2:Q2 K Ca Cb Cc) (q3:Q3 K Ca Cb Cc) (q4:Q4 K Ca Cb Cc) (q5:Q5 K Ca Cb Cc) (q6:Q6 K Ca Cb Cc):
  ∃fd:FuncData,(∀(s:Shared) (v:Value),BindsTo s fd ⟨[v],[]⟩ [("_law_script",v)])∧∀base:Heap,K.In base→base.Ns mainGlobals mg→FnOk l.prog w K mg base L2.CX0 9 fa fd ["_law_script"] (xV K):=by
 have e:=hfa.symm.trans (mg_of X G q6.a50)
 cases e
 have T:Txt K mg Ca Cb Cc:=⟨mg_none_of X G q0.z_all,mg_none_of X G q0.z_bool,mg_none_of X G q0.z_dict,mg_none_of X G q0.z_enumerate,mg_none_of X G q0.z_int,mg_none_of X G q0.z_isinstance,mg_none_of X G q0.z_len,mg_none_of X G q0.z_list,mg_none_of X G q0.z_min,mg_none_of X G q0.z_range,mg_none_of X G q0.z_set,mg_none_of X G q0.z_sorted,mg_none_of X G q0.z_str,mg_none_of X G q0.z_sum,⟨_,mg_of X G q0.g_LETTERS,⟨_,rfl⟩⟩,⟨_,mg_of X G q0.g_MOST_LETTERS,⟨_,rfl⟩⟩,⟨_,mg_of X G q0.g_MOST,⟨_,rfl⟩⟩,⟨_,mg_of X G q0.g_MOST_PLACES,⟨_,rfl⟩⟩,⟨_,mg_of X G q0.g_MOST_TIES,⟨_,rfl⟩⟩,mg_of X G q0.m_Part,mg_of X G q0.m_Tie,mg_of X G q0.m_Net,⟨q0.pg_CPart,q0.hd_CPart,q0.po_CPart,q0.sa_CPart⟩,⟨q0.pg_CTie,q0.hd_CTie,q0.po_CTie,q0.sa_CTie⟩,⟨q0.pg_CNet,q0.hd_CNet,q0.po_CNet,q0.sa_CNet⟩,q0.n_amount_Part,q0.n_head_Tie,q0.n_is_ring_Part,q0.n_last_given_Net,q0.n_least_Tie,q0.n_most_Tie,q1.n_names_Net,q1.n_number_Tie,q1.n_numbers_Part,q1.n_price_Tie,q1.n_rows_Net,q1.n_tail_Tie⟩
 have F25:L2.FunD K "put_tie" "Net.put_tie" (defArgs aP) (defBody aP) (defScope aP) ([.int 0, .non, .int 0]:List V) [] q4.f25 _:=⟨⟨_,_,_,_,_,_,_,_,_,_,rfl,q4.l25,q4.c25, .inr ⟨by simp,q4.T25,_,_,_,rfl,q4.t25,rfl,(.cons ⟨_,rfl⟩ (.cons rfl (.cons ⟨_,rfl⟩ .nil)))⟩, .inl rfl⟩,q4.k25⟩
 have D_Net_put_tie:Dmd K Cc "put_tie" "Net.put_tie" aP ["self","tail","head","least","most","price"] [.int 0, .non, .int 0]:=⟨_,_,F25,⟨q0.pg_CNet,q0.hd_CNet,q0.po_CNet,q0.sa_CNet⟩,⟨q4.a25,q4.i25,q4.k25⟩,fun j hj=>by
  match j,hj with
  | 0,_=>exact F25.binds1 3 0 (by simp) rfl fun _ _ _ _ _ _ _ us its h1 h2=>match us,its,h1,h2 with | [_,_,_],[_,_,_],_,_=>⟨_,rfl,rfl⟩
  | 1,_=>exact F25.binds1 4 1 (by simp) rfl fun _ _ _ _ _ _ _ us its h1 h2=>match us,its,h1,h2 with | [_,_,_,_],[_,_,_],_,_=>⟨_,rfl,rfl⟩
  | 2,_=>exact F25.binds1 5 2 (by simp) rfl fun _ _ _ _ _ _ _ us its h1 h2=>match us,its,h1,h2 with | [_,_,_,_,_],[_,_,_],_,_=>⟨_,rfl,rfl⟩
  | 3,_=>exact F25.binds1 6 3 (by simp) rfl fun _ _ _ _ _ _ _ us its h1 h2=>match us,its,h1,h2 with | [_,_,_,_,_,_],[_,_,_],_,_=>⟨_,rfl,rfl⟩
  | j+4,hj=>simp at hj⟩
 refine ⟨fnOf "law" "law" (defArgs ja) (defBody ja) (defScope ja) .none q6.kV50 q6.dc50 q6.pm50 q6.an50 q6.cd50 q6.ct50,fun s v=> .of_eq rfl,fun base _ _=>?_⟩
 have D:DD K mg Ca Cb Cc:=⟨dfY q4.l31 (mg_of X G q4.l31.a) (by walk_at "b3"),dfY q4.l33 (mg_of X G q4.l33.a) (by walk_at "b1"),dkY q3.l20 q3.mk20 q3.a20 q3.i20 q3.kc20 (mg_of X G q0.m_Net) (by walk_at "b1"),dfY q2.l3 (mg_of X G q2.l3.a) (by walk_at "b2"),dfY q2.l4 (mg_of X G q2.l4.a) (by walk_at "b1"),dmY q3.l23 T.c_Net (by walk_at "b2"),dfY q4.l32 (mg_of X G q4.l32.a) (by walk_at "b3"),dmY q3.l24 T.c_Net (by walk_at "b2"),dfY q2.l1 (mg_of X G q2.l1.a) (by walk_at "b1"),dfY q2.l2 (mg_of X G q2.l2.a) (by walk_at "b3"),dfY q3.l17 (mg_of X G q3.l17.a) (by walk_at "b2"),dfY q3.l18 (mg_of X G q3.l18.a) (by walk_at "b1"),dkY q3.l19 q3.mk19 q3.a19 q3.i19 q3.kc19 (mg_of X G q0.m_Tie) (by walk_at "b7"),dmY q4.l26 T.c_Net (by walk_at "b7"),D_Net_put_tie,dfY q4.l34 (mg_of X G q4.l34.a) (by walk_at "b2"),dfY q4.l35 (mg_of X G q4.l35.a) (by walk_at "b4"),dmY q4.l27 T.c_Net (by walk_at "b2"),dmY q4.l28 T.c_Net (by walk_at "b2"),dmY q4.l29 T.c_Net (by walk_at "b4"),dmY q4.l30 T.c_Net (by walk_at "b3"),dfY q4.l36 (mg_of X G q4.l36.a) (by walk_at "b5"),dfY q5.l37 (mg_of X G q5.l37.a) (by walk_at "b5"),dfY q5.l39 (mg_of X G q5.l39.a) (by walk_at "b2"),dfY q6.l49 (mg_of X G q6.l49.a) (by walk_at "b4"),dfY q5.l41 (mg_of X G q5.l41.a) (by walk_at "b2"),dfY q5.l47 (mg_of X G q5.l47.a) (by walk_at "b3"),dfY q5.l38 (mg_of X G q5.l38.a) (by walk_at "b1"),dfY q5.l40 (mg_of X G q5.l40.a) (by walk_at "b4"),dfY q5.l46 (mg_of X G q5.l46.a) (by walk_at "b5"),dfY q5.l45 (mg_of X G q5.l45.a) (by walk_at "b4"),dfY q2.l7 (mg_of X G q2.l7.a) (by walk_at "b3"),dmY q3.l22 T.c_Net (by walk_at "b1"),dfY q2.l5 (mg_of X G q2.l5.a) (by walk_at "b2"),dfY q2.l6 (mg_of X G q2.l6.a) (by walk_at "b2"),dmY q3.l21 T.c_Net (by walk_at "b1"),dfY q2.l8 (mg_of X G q2.l8.a) (by walk_at "b2"),dfY q2.l9 (mg_of X G q2.l9.a) (by walk_at "b4"),dfY q2.l11 (mg_of X G q2.l11.a) (by walk_at "b1"),dfY q2.l12 (mg_of X G q2.l12.a) (by walk_at "b3"),dfY q3.l13 (mg_of X G q3.l13.a) (by walk_at "b2"),dfY q3.l14 (mg_of X G q3.l14.a) (by walk_at "b4"),dkY q2.l10 q2.mk10 q2.a10 q2.i10 q2.kc10 (mg_of X G q0.m_Part) (by walk_at "b4"),dfY q3.l15 (mg_of X G q3.l15.a) (by walk_at "b4"),dfY q5.l42 (mg_of X G q5.l42.a) (by walk_at "b4"),dfY q5.l43 (mg_of X G q5.l43.a) (by walk_at "b5"),dfY q3.l16 (mg_of X G q3.l16.a) (by walk_at "b2"),dfY q5.l44 (mg_of X G q5.l44.a) (by walk_at "b2"),dfY q5.l48 (mg_of X G q5.l48.a) (by walk_at "b1")⟩
 exact (c_law T D (L2.fun_mk (st:=ja) q6.l50 q6.c50 q6.k50)).imp fun _ _ _ _ h=>law_sp h
end T
set_option maxHeartbeats 0 in
theorem PySem.Challenge.cw_flowhall_k23_whole_taken_apart_and_toget_holds : PySem.Challenge.rw_flowhall_k23_whole_taken_apart_and_toget.Holds := by
 refine T.fin ?_
 refine L2.walk_of (l:=PySem.Challenge.rw_flowhall_k23_whole_taken_apart_and_toget) (n:=63) (k:=9) (x:= "_law_script") (CX:=fun _=>L2.CX0) (sp:=fun w=>T.xV _) rfl (by decide) T.t9 ⟨rfl,by decide,by decide⟩ (fun w h Y=>PySem.W.kIn_of Y) (fun w mg fa h KX G hmg=>T.all_mk KX G hmg (T.q0 _) (T.q1 _) (T.q2 _) (T.q3 _) (T.q4 _) (T.q5 _) (T.q6 _)) (fun _ _ a ns _ _ hS=>⟨a,ns,rfl,hS,fun _=>rfl⟩) (fun _ _ _ _ _ z=>z)

