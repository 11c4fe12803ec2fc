import PyProof.Rows.All
import Wide.All
import OpenK.AllK
import Wide.FinOn
import HandS.ForMost
import HandS.IsInst
import HandS.Codes
import HandS.WideBits
import HandS.TupAny
import HandS.SortInts
import HandS.StrMore
import HandS.Walk
import HandS.EndBits
import HandS.More
import HandS.Zip
import PyProof.StrBlock2
import HandS.Rev
import PyProof.JoinWalk
import HandS.CallSlots
import HandS.Defaults
import HandS.DictComp
import HandS.DictEq
import HandS.Style
import HandS.WordsExc
import HandS.Finally
import HandS.ExcInit
import HandS.ExcIs
import HandS.TryOnly
import KE.KExcIs
import HandS.ExcField
import HandS.RaiseMore
import KE.OsRunLaw
import KE.DataFind
import PySem.Challenge.RW_flowhall_k27_ways_apart
set_option Elab.async false
set_option linter.all false
set_option maxRecDepth 100000
namespace HR
open PySem PySem.W PySem.Calls PyProof.Rows HeadRun
section
theorem rh {α β γ:Type} {o:Option α} {f:α→β×γ} {a:β×γ} (e1:o.map (fun s=>(f s).1)=some a.1) (e2:o.map (fun s=>(f s).2)=some a.2):o.map f=some a:=by
 cases o with
 | none=>cases e1
 | some x=>
  injection e1 with e1
  injection e2 with e2
  show some (f x)=some a
  rw [show f x=a from Prod.ext e1 e2]
theorem mapT3 {α β γ δ:Type} {o:Option α} {f:α→β} {g:α→γ} {h:α→δ} {a:β} {b:γ} {c:δ} (e1:o.map f=some a) (e2:o.map g=some b) (e3:o.map h=some c):o.map (fun s=>(f s,g s,h s))=some (a,b,c):=by
 cases o with
 | none=>cases e1
 | some x=>
  injection e1 with e1
  injection e2 with e2
  injection e3 with e3
  show some (f x,g x,h x)=some (a,b,c)
  rw [e1,e2,e3]
noncomputable abbrev pw:Program:=PySem.Challenge.pw_flowhall_k27_ways_apart
noncomputable def vw:Program:= {pw with main:= {pw.main with body:= [0,2,3,4,5,6,7,8,9,10,11,12,14,15,16,17,18,19,21,23,24,25,26,27,28,29,31,33,34,35,36,37,38,40,41,42,43,44,45,46,47,48,49,50,51,52,53,54].map fun i=>pw.main.body.getD i (.Pass ⟨0,0,0,0⟩)}}
noncomputable def lo:List PySem.Str:= [PySem.Str.ofString "MOST"]
noncomputable def lv:List (PySem.Str×WData):= [(PySem.Str.ofString "MOST",WData.int 1000000000000000000000000000000000000000000000000000000000000)]
noncomputable def gd:=openGood vw lo
noncomputable def sn (s:SharedT):=seenQ vw lo (importedModules pw.main.body) (fun s=>xlAt vw lv s&&recOk [] s) s.abs
noncomputable def run (w:World) (os:OsState):Option SharedT:=endF (stepQ (denQ tabQ) pw w) 11596 pw w os
noncomputable def rcO (st:Stmt):Option DefRec:=match st with
 | .FunctionDef name a body _ _ _ sc _ _ pos=>some {name:=name,params:=a,body:=body,scope:=sc,pos:=pos}
 | _=>none
noncomputable def recs:List DefRec:=vw.main.body.filterMap rcO
theorem st0:PySem.W.Fast.tw3399658132070893891 vw=recs:=by kernel_rfl
theorem st2:PyProof.Rows.recsOf vw=recs:=by kernel_rfl
noncomputable def mtO (st:Stmt):Option MethRec:=match st with
 | .FunctionDef name a body _ _ _ sc _ _ _=>some {name:=name,params:=a,body:=body,scope:=sc}
 | _=>none
def dfO (st:Stmt):Bool:=match st with
 | .FunctionDef _ a _ _ _ _ _ _ _ _=>a.defaults.isEmpty
 | _=>true
noncomputable def clO (st:Stmt):Option ClsRec:=match st with
 | .ClassDef name [] _ body _ _ _ _ _ statics pos=>if body.all dfO=true then some {name:=name,base:=none,body:=body,statics:=statics,line:=pos.line,meths:=body.filterMap mtO} else none
 | _=>none
noncomputable def plns:List ClsRec:=vw.main.body.filterMap clO
theorem st6:PySem.W.Fast.tw210736558901404530 vw (PySem.W.Fast.tw821141287760084731 vw lo)=plns:=by kernel_rfl
theorem st7:plainsOf vw (looseW vw lo)=plns:=by kernel_rfl
theorem b0:∀(w:World) (os:OsState),(run w os).map (fun s=>looksF pw (boot_heap w.params) s.abs)=some true:=by
 intro w os
 kernel_rfl
theorem b1:∀(w:World) (os:OsState),(run w os).map (fun s=>(sn s).1)=some (gd.1):=by
 intro w os
 dsimp only [sn,HeadRun.seenQ,PySem.W.Fast.tw4187177175401517315,PySem.W.Fast.tw5160383126252970620,PySem.W.Fast.tw479339242167458305,PyProof.Rows.expectedOf,gd,openGood]
 rw [st0,st2]
 kernel_rfl
theorem b4:∀(w:World) (os:OsState),(run w os).map (fun s=>(sn s).2.2.2.1)=some (gd.2.2.2.1):=by
 intro w os
 dsimp only [sn,HeadRun.seenQ,PySem.W.Fast.tw4187177175401517315,PySem.W.Fast.tw5160383126252970620,PySem.W.Fast.tw479339242167458305,PyProof.Rows.expectedOf,gd,openGood]
 rw [st0]
 kernel_rfl
theorem b3:∀(w:World) (os:OsState),(run w os).map (fun s=>(sn s).2.2.1)=some (gd.2.2.1):=by
 intro w os
 dsimp only [sn,HeadRun.seenQ,PySem.W.Fast.tw4187177175401517315,PySem.W.Fast.tw5160383126252970620,PySem.W.Fast.tw479339242167458305,PyProof.Rows.expectedOf,gd,openGood]
 rw [st0]
 kernel_rfl
theorem b6:∀(w:World) (os:OsState),(run w os).map (fun s=>(sn s).2.2.2.2.2.1)=some (gd.2.2.2.2.2.1):=by
 intro w os
 dsimp only [sn,HeadRun.seenQ,PySem.W.Fast.tw4187177175401517315,PySem.W.Fast.tw5160383126252970620,PySem.W.Fast.tw479339242167458305,PyProof.Rows.expectedOf,gd,openGood,PySem.W.Fast.tw2386780881361962483,plainGoodE]
 rw [st6,st7]
 kernel_rfl
theorem b9:∀(w:World) (os:OsState),(run w os).map (fun s=>(sn s).2.2.2.2.2.2.2.2)=some (gd.2.2.2.2.2.2.2.2):=by
 intro w os
 dsimp only [sn,HeadRun.seenQ,PySem.W.Fast.tw4187177175401517315,PySem.W.Fast.tw5160383126252970620,PySem.W.Fast.tw479339242167458305,PyProof.Rows.expectedOf,gd,openGood]
 kernel_rfl
theorem b8:∀(w:World) (os:OsState),(run w os).map (fun s=>(sn s).2.2.2.2.2.2.2.1)=some (gd.2.2.2.2.2.2.2.1):=by
 intro w os
 dsimp only [sn,HeadRun.seenQ,PySem.W.Fast.tw4187177175401517315,PySem.W.Fast.tw5160383126252970620,PySem.W.Fast.tw479339242167458305,PyProof.Rows.expectedOf,gd,openGood]
 kernel_rfl
theorem b7:∀(w:World) (os:OsState),(run w os).map (fun s=>(sn s).2.2.2.2.2.2.1)=some (gd.2.2.2.2.2.2.1):=by
 intro w os
 dsimp only [sn,HeadRun.seenQ,PySem.W.Fast.tw4187177175401517315,PySem.W.Fast.tw5160383126252970620,PySem.W.Fast.tw479339242167458305,PyProof.Rows.expectedOf,gd,openGood]
 kernel_rfl
theorem b5:∀(w:World) (os:OsState),(run w os).map (fun s=>(sn s).2.2.2.2.1)=some (gd.2.2.2.2.1):=by
 intro w os
 dsimp only [sn,HeadRun.seenQ,PySem.W.Fast.tw4187177175401517315,PySem.W.Fast.tw5160383126252970620,PySem.W.Fast.tw479339242167458305,PyProof.Rows.expectedOf,gd,openGood]
 kernel_rfl
theorem b2:∀(w:World) (os:OsState),(run w os).map (fun s=>(sn s).2.1)=some (gd.2.1):=by
 intro w os
 dsimp only [sn,HeadRun.seenQ,PySem.W.Fast.tw4187177175401517315,PySem.W.Fast.tw5160383126252970620,PySem.W.Fast.tw479339242167458305,PyProof.Rows.expectedOf,gd,openGood]
 kernel_rfl
theorem seen_all (w:World) (os:OsState):(run w os).map sn=some gd:=rh (b1 w os) (rh (b2 w os) (rh (b3 w os) (rh (b4 w os) (rh (b5 w os) (rh (b6 w os) (rh (b7 w os) (rh (b8 w os) (b9 w os))))))))
def v (s:String) (n:Nat):Value:= .str (PySem.Str.ofString s) n
def r (a:Nat):Value:= .ref a
def i (a:Int) (n:Nat):Value:= .int a n
def z:Value:= .none
def t:Value:= .bool true
def bu (s:String):Value:= .builtin s
def ty (s:String):Value:= .type s
noncomputable def e (P:Params) (s:String) (n:Nat) (x:Value):DictEntry:=⟨PyData.keyHash P (PySem.Str.ofString s),v s n,x⟩
def T (l:List Value) (n:Nat:=0):Obj:= {cls:= .type "tuple",data:= .seq l.toArray n}
def D (l:List DictEntry) (n:Nat:=0):Obj:= {cls:= .type "dict",data:= .dict l.toArray n}
def C (l:List Value):Obj:= {cls:= .type "code",data:= .fields l.toArray}
def G (l:List Value):Obj:= {cls:= .type "getset_descriptor",data:= .fields l.toArray}
def c (n q:String) (a b d l m f1 f2 f3 f4 r1 r2:Nat) (x:Value) (r3 r4 r5 m2:Nat) (k:Nat) (f:String):Obj:=C [v n a,v q b,v f d,i l 0,i m 0,i f1 0,i f2 0,i f3 0,r r1,t,i f4 0,r r2,x,r r3,r r4,r r5,i m2 0,i l 0,v f k]
noncomputable def tp (i:Nat):Stmt:=pw.main.body.getD i (.Pass ⟨0,0,0,0⟩)
noncomputable def F (S:Stmt) (n q:String) (dv kV dc pm:Value) (an:Option Addr) (cd ct:Value):Obj:= {cls:= .type "function",data:= .func {name:=PySem.Str.ofString n,qualname:=PySem.Str.ofString q,params:=L2.defArgs S,body:= .stmts (L2.defBody S),scope:=L2.defScope S,globals:=3,closure:= [],defaults:=dv,kwdefaults:=kV,doc:=dc,pyModule:=pm,annotations:=an,code:=cd,closureTuple:=ct}}
noncomputable def ob (P:Params):Frag:=(nat_lit 2,{cls:=z,data:=Data.dict #[]})::
 (nat_lit 3,D [e P "__name__" 165 (v "law_flowhall_k27_ways_apart" 934),e P "__doc__" 166 z,e P "__package__" 167 z,e P "__loader__" 168 (bu "__main__.__loader__#opaque"),e P "__spec__" 169 z,e P "__annotations__" 170 (r 6),e P "__builtins__" 171 (r 4),e P "__file__" 173 (v "/claim/cut.py" 172),e P "__cached__" 174 z,e P "_wall" 193 (r 21),e P "FlowError" 213 (r 31),e P "BadName" 229 (r 44),e P "Twice" 245 (r 56),e P "TooMany" 261 (r 68),e P "NoPlace" 286 (r 87),e P "BadTie" 302 (r 99),e P "BadRoom" 318 (r 111),e P "BadPrice" 334 (r 123),e P "NoTie" 359 (r 142),e P "SamePlace" 375 (r 154),e P "BadQuestion" 400 (r 173),e P "LETTERS" 404 (v "abcdefghijklmnopqrstuvwxyz" 403),e P "MOST_LETTERS" 406 (i 12 405),e P "is_whole" 413 (r 182),e P "is_among" 422 (r 189),e P "are_signs" 428 (r 194),e P "is_name" 435 (r 201),e P "need_ends" 446 (r 208),e P "MOST" 452 (i 1000000000000000000000000000000000000000000000000000000000000 451),e P "MOST_PLACES" 454 (i 14 453),e P "MOST_TIES" 456 (i 40 455),e P "need_room" 464 (r 215),e P "need_price" 471 (r 222),e P "Tie" 510 (r 239),e P "Net" 654 (r 350),e P "Rest" 785 (r 436),e P "Apart" 818 (r 457),e P "Question" 845 (r 478),e P "shortened" 859 (r 489),e P "ways_in" 865 (r 494),e P "TiesApart" 901 (r 516),e P "PlacesApart" 933 (r 538),e P "_law_number" 945 (r 547),e P "_law_names" 951 (r 552),e P "_law_great" 960 (r 559),e P "_law_room" 970 (r 566),e P "_law_row" 984 (r 573),e P "_law_come_to" 998 (r 580),e P "_law_way_right" 1004 (r 585),e P "_law_ties_right" 1010 (r 590),e P "_law_places_right" 1016 (r 595),e P "_law_right" 1028 (r 602),e P "_law_told" 1034 (r 607),e P "_law_put_question" 1047 (r 614),e P "_law_asked" 1053 (r 619),e P "_law_changed" 1070 (r 626),e P "law" 1085 (r 633)] 57)::
 (nat_lit 15,T [])::
 (nat_lit 17,T [v "k" 190])::
 (nat_lit 18,T [])::
 (nat_lit 20,c "_wall" "_wall" 187 188 189 1 1 0 0 3 181 15 16 z 17 18 19 191 192 "/claim/cut.py")::
 (nat_lit 21,F (tp 0) "_wall" "_wall" z z z (v "__main__" 164) none (r 20) z)::
 (nat_lit 22,T [ty "ValueError"])::
 (nat_lit 29,T [])::
 (nat_lit 30,D [e P "__module__" 203 (v "flowhall.errors" 194),e P "__firstlineno__" 207 (i 5 206),e P "__static_attributes__" 208 (r 29),e P "__weakref__" 210 (r 32),e P "__doc__" 211 z] 3)::
 (nat_lit 31,{cls:=ty "type",data:=Data.cls {name:=Str.ofString "FlowError",bases:= [ty "ValueError"],mro:= [r 31,ty "ValueError",ty "Exception",ty "BaseException",ty "object"],ns:=30,qualname:=Str.ofString "FlowError",subclasses:= [r 44,r 56,r 68,r 87,r 99,r 111,r 123,r 142,r 154,r 173]},slots:= #[Option.some (r 22),Option.none,Option.some (v "FlowError" 196),Option.some (v "FlowError" 204),Option.some (bu "ValueError.__new__"),Option.some (t)]})::
 (nat_lit 32,G [v "__weakref__" 209,r 31,bu "ExceptionGroup.__weakref__",z])::
 (nat_lit 35,T [r 31])::
 (nat_lit 42,T [])::
 (nat_lit 43,D [e P "__module__" 221 (v "flowhall.errors" 194),e P "__firstlineno__" 225 (i 7 224),e P "__static_attributes__" 226 (r 42),e P "__doc__" 227 z] 2)::
 (nat_lit 44,{cls:=ty "type",data:=Data.cls {name:=Str.ofString "BadName",bases:= [r 31],mro:= [r 44,r 31,ty "ValueError",ty "Exception",ty "BaseException",ty "object"],ns:=43,qualname:=Str.ofString "BadName" },slots:= #[Option.some (r 35),Option.none,Option.some (v "BadName" 214),Option.some (v "BadName" 222),Option.some (bu "ValueError.__new__"),Option.some (t)]})::
 (nat_lit 47,T [r 31])::
 (nat_lit 54,T [])::
 (nat_lit 55,D [e P "__module__" 237 (v "flowhall.errors" 194),e P "__firstlineno__" 241 (i 9 240),e P "__static_attributes__" 242 (r 54),e P "__doc__" 243 z] 2)::
 (nat_lit 56,{cls:=ty "type",data:=Data.cls {name:=Str.ofString "Twice",bases:= [r 31],mro:= [r 56,r 31,ty "ValueError",ty "Exception",ty "BaseException",ty "object"],ns:=55,qualname:=Str.ofString "Twice" },slots:= #[Option.some (r 47),Option.none,Option.some (v "Twice" 230),Option.some (v "Twice" 238),Option.some (bu "ValueError.__new__"),Option.some (t)]})::
 (nat_lit 59,T [r 31])::
 (nat_lit 66,T [])::
 (nat_lit 67,D [e P "__module__" 253 (v "flowhall.errors" 194),e P "__firstlineno__" 257 (i 11 256),e P "__static_attributes__" 258 (r 66),e P "__doc__" 259 z] 2)::
 (nat_lit 68,{cls:=ty "type",data:=Data.cls {name:=Str.ofString "TooMany",bases:= [r 31],mro:= [r 68,r 31,ty "ValueError",ty "Exception",ty "BaseException",ty "object"],ns:=67,qualname:=Str.ofString "TooMany" },slots:= #[Option.some (r 59),Option.none,Option.some (v "TooMany" 246),Option.some (v "TooMany" 254),Option.some (bu "ValueError.__new__"),Option.some (t)]})::
 (nat_lit 71,T [r 31])::
 (nat_lit 78,T [])::
 (nat_lit 80,T [v "self" 277,v "name" 278])::
 (nat_lit 81,T [])::
 (nat_lit 83,c "__init__" "NoPlace.__init__" 274 275 276 15 2 0 0 3 181 78 79 z 80 81 82 279 280 "/claim/cut.py")::
 (nat_lit 84,F (L2.inClass (tp 6) 0) "__init__" "NoPlace.__init__" z z z (v "flowhall.errors" 194) none (r 83) z)::
 (nat_lit 85,T [v "name" 282])::
 (nat_lit 86,D [e P "__module__" 269 (v "flowhall.errors" 194),e P "__firstlineno__" 273 (i 13 272),e P "__init__" 281 (r 84),e P "__static_attributes__" 283 (r 85),e P "__doc__" 284 z] 2)::
 (nat_lit 87,{cls:=ty "type",data:=Data.cls {name:=Str.ofString "NoPlace",bases:= [r 31],mro:= [r 87,r 31,ty "ValueError",ty "Exception",ty "BaseException",ty "object"],ns:=86,qualname:=Str.ofString "NoPlace" },slots:= #[Option.some (r 71),Option.none,Option.some (v "NoPlace" 262),Option.some (v "NoPlace" 270),Option.some (bu "ValueError.__new__"),Option.some (t)]})::
 (nat_lit 90,T [r 31])::
 (nat_lit 97,T [])::
 (nat_lit 98,D [e P "__module__" 294 (v "flowhall.errors" 194),e P "__firstlineno__" 298 (i 17 297),e P "__static_attributes__" 299 (r 97),e P "__doc__" 300 z] 2)::
 (nat_lit 99,{cls:=ty "type",data:=Data.cls {name:=Str.ofString "BadTie",bases:= [r 31],mro:= [r 99,r 31,ty "ValueError",ty "Exception",ty "BaseException",ty "object"],ns:=98,qualname:=Str.ofString "BadTie" },slots:= #[Option.some (r 90),Option.none,Option.some (v "BadTie" 287),Option.some (v "BadTie" 295),Option.some (bu "ValueError.__new__"),Option.some (t)]})::
 (nat_lit 102,T [r 31])::
 (nat_lit 109,T [])::
 (nat_lit 110,D [e P "__module__" 310 (v "flowhall.errors" 194),e P "__firstlineno__" 314 (i 19 313),e P "__static_attributes__" 315 (r 109),e P "__doc__" 316 z] 2)::
 (nat_lit 111,{cls:=ty "type",data:=Data.cls {name:=Str.ofString "BadRoom",bases:= [r 31],mro:= [r 111,r 31,ty "ValueError",ty "Exception",ty "BaseException",ty "object"],ns:=110,qualname:=Str.ofString "BadRoom" },slots:= #[Option.some (r 102),Option.none,Option.some (v "BadRoom" 303),Option.some (v "BadRoom" 311),Option.some (bu "ValueError.__new__"),Option.some (t)]})::
 (nat_lit 114,T [r 31])::
 (nat_lit 121,T [])::
 (nat_lit 122,D [e P "__module__" 326 (v "flowhall.errors" 194),e P "__firstlineno__" 330 (i 21 329),e P "__static_attributes__" 331 (r 121),e P "__doc__" 332 z] 2)::
 (nat_lit 123,{cls:=ty "type",data:=Data.cls {name:=Str.ofString "BadPrice",bases:= [r 31],mro:= [r 123,r 31,ty "ValueError",ty "Exception",ty "BaseException",ty "object"],ns:=122,qualname:=Str.ofString "BadPrice" },slots:= #[Option.some (r 114),Option.none,Option.some (v "BadPrice" 319),Option.some (v "BadPrice" 327),Option.some (bu "ValueError.__new__"),Option.some (t)]})::
 (nat_lit 126,T [r 31])::
 (nat_lit 133,T [])::
 (nat_lit 135,T [v "self" 350,v "number" 351])::
 (nat_lit 136,T [])::
 (nat_lit 138,c "__init__" "NoTie.__init__" 347 348 349 25 2 0 0 3 181 133 134 z 135 136 137 352 353 "/claim/cut.py")::
 (nat_lit 139,F (L2.inClass (tp 10) 0) "__init__" "NoTie.__init__" z z z (v "flowhall.errors" 194) none (r 138) z)::
 (nat_lit 140,T [v "number" 355])::
 (nat_lit 141,D [e P "__module__" 342 (v "flowhall.errors" 194),e P "__firstlineno__" 346 (i 23 345),e P "__init__" 354 (r 139),e P "__static_attributes__" 356 (r 140),e P "__doc__" 357 z] 2)::
 (nat_lit 142,{cls:=ty "type",data:=Data.cls {name:=Str.ofString "NoTie",bases:= [r 31],mro:= [r 142,r 31,ty "ValueError",ty "Exception",ty "BaseException",ty "object"],ns:=141,qualname:=Str.ofString "NoTie" },slots:= #[Option.some (r 126),Option.none,Option.some (v "NoTie" 335),Option.some (v "NoTie" 343),Option.some (bu "ValueError.__new__"),Option.some (t)]})::
 (nat_lit 145,T [r 31])::
 (nat_lit 152,T [])::
 (nat_lit 153,D [e P "__module__" 367 (v "flowhall.errors" 194),e P "__firstlineno__" 371 (i 27 370),e P "__static_attributes__" 372 (r 152),e P "__doc__" 373 z] 2)::
 (nat_lit 154,{cls:=ty "type",data:=Data.cls {name:=Str.ofString "SamePlace",bases:= [r 31],mro:= [r 154,r 31,ty "ValueError",ty "Exception",ty "BaseException",ty "object"],ns:=153,qualname:=Str.ofString "SamePlace" },slots:= #[Option.some (r 145),Option.none,Option.some (v "SamePlace" 360),Option.some (v "SamePlace" 368),Option.some (bu "ValueError.__new__"),Option.some (t)]})::
 (nat_lit 157,T [r 31])::
 (nat_lit 164,T [])::
 (nat_lit 166,T [v "self" 391,v "why" 392])::
 (nat_lit 167,T [])::
 (nat_lit 169,c "__init__" "BadQuestion.__init__" 388 389 390 31 2 0 0 3 181 164 165 z 166 167 168 393 394 "/claim/cut.py")::
 (nat_lit 170,F (L2.inClass (tp 12) 0) "__init__" "BadQuestion.__init__" z z z (v "flowhall.errors" 194) none (r 169) z)::
 (nat_lit 171,T [v "why" 396])::
 (nat_lit 172,D [e P "__module__" 383 (v "flowhall.errors" 194),e P "__firstlineno__" 387 (i 29 386),e P "__init__" 395 (r 170),e P "__static_attributes__" 397 (r 171),e P "__doc__" 398 z] 2)::
 (nat_lit 173,{cls:=ty "type",data:=Data.cls {name:=Str.ofString "BadQuestion",bases:= [r 31],mro:= [r 173,r 31,ty "ValueError",ty "Exception",ty "BaseException",ty "object"],ns:=172,qualname:=Str.ofString "BadQuestion" },slots:= #[Option.some (r 157),Option.none,Option.some (v "BadQuestion" 376),Option.some (v "BadQuestion" 384),Option.some (bu "ValueError.__new__"),Option.some (t)]})::
 (nat_lit 176,T [])::
 (nat_lit 178,T [v "thing" 410])::
 (nat_lit 179,T [])::
 (nat_lit 181,c "is_whole" "is_whole" 407 408 409 36 1 0 0 3 181 176 177 z 178 179 180 411 412 "/claim/cut.py")::
 (nat_lit 182,F (tp 16) "is_whole" "is_whole" z z z (v "flowhall.words" 401) none (r 181) z)::
 (nat_lit 183,T [])::
 (nat_lit 185,T [v "thing" 417,v "least" 418,v "most" 419])::
 (nat_lit 186,T [])::
 (nat_lit 188,c "is_among" "is_among" 414 415 416 38 3 0 0 3 181 183 184 z 185 186 187 420 421 "/claim/cut.py")::
 (nat_lit 189,F (tp 17) "is_among" "is_among" z z z (v "flowhall.words" 401) none (r 188) z)::
 (nat_lit 190,T [])::
 (nat_lit 193,C [v "are_signs" 423,v "are_signs" 424,v "/claim/cut.py" 425,i 40 0,i 2 0,i 0 0,i 0 0,i 3 0,r 190,t,i 181 0,r 191,z,z,z,r 192,i 426 0,i 40 0,v "/claim/cut.py" 427])::
 (nat_lit 194,F (tp 18) "are_signs" "are_signs" z z z (v "flowhall.words" 401) none (r 193) z)::
 (nat_lit 195,T [])::
 (nat_lit 197,T [v "thing" 432])::
 (nat_lit 198,T [])::
 (nat_lit 200,c "is_name" "is_name" 429 430 431 42 1 0 0 3 181 195 196 z 197 198 199 433 434 "/claim/cut.py")::
 (nat_lit 201,F (tp 19) "is_name" "is_name" z z z (v "flowhall.words" 401) none (r 200) z)::
 (nat_lit 202,T [])::
 (nat_lit 204,T [v "net" 441,v "source" 442,v "target" 443])::
 (nat_lit 205,T [])::
 (nat_lit 207,c "need_ends" "need_ends" 438 439 440 45 3 0 0 3 181 202 203 z 204 205 206 444 445 "/claim/cut.py")::
 (nat_lit 208,F (tp 21) "need_ends" "need_ends" z z z (v "flowhall.flows" 436) none (r 207) z)::
 (nat_lit 209,T [])::
 (nat_lit 211,T [v "least" 460,v "most" 461])::
 (nat_lit 212,T [])::
 (nat_lit 214,c "need_room" "need_room" 457 458 459 54 2 0 0 3 181 209 210 z 211 212 213 462 463 "/claim/cut.py")::
 (nat_lit 215,F (tp 26) "need_room" "need_room" z z z (v "flowhall.nets" 447) none (r 214) z)::
 (nat_lit 216,T [])::
 (nat_lit 218,T [v "price" 468])::
 (nat_lit 219,T [])::
 (nat_lit 221,c "need_price" "need_price" 465 466 467 57 1 0 0 3 181 216 217 z 218 219 220 469 470 "/claim/cut.py")::
 (nat_lit 222,F (tp 27) "need_price" "need_price" z z z (v "flowhall.nets" 447) none (r 221) z)::
 (nat_lit 230,T [])::
 (nat_lit 232,T [v "self" 487,v "number" 488,v "tail" 489,v "head" 490,v "least" 491,v "most" 492,v "price" 493])::
 (nat_lit 233,T [])::
 (nat_lit 235,c "__init__" "Tie.__init__" 484 485 486 62 7 0 0 3 181 230 231 z 232 233 234 494 495 "/claim/cut.py")::
 (nat_lit 236,F (L2.inClass (tp 28) 0) "__init__" "Tie.__init__" z z z (v "flowhall.nets" 447) none (r 235) z)::
 (nat_lit 237,T [v "head" 497,v "least" 498,v "most" 499,v "number" 500,v "price" 501,v "tail" 502])::
 (nat_lit 238,D [e P "__module__" 479 (v "flowhall.nets" 447),e P "__firstlineno__" 483 (i 60 482),e P "__init__" 496 (r 236),e P "__static_attributes__" 503 (r 237),e P "__dict__" 505 (r 240),e P "__weakref__" 507 (r 241),e P "__doc__" 508 z] 4)::
 (nat_lit 239,{cls:=ty "type",data:=Data.cls {name:=Str.ofString "Tie",bases:= [ty "object"],mro:= [r 239,ty "object"],ns:=238,qualname:=Str.ofString "Tie" },slots:= #[Option.none,Option.none,Option.some (v "Tie" 472),Option.some (v "Tie" 480),Option.some (bu "object.__new__"),Option.some (t)]})::
 (nat_lit 240,G [v "__dict__" 504,r 239,bu "function.__dict__",bu "function.__dict__#set"])::
 (nat_lit 241,G [v "__weakref__" 506,r 239,bu "ExceptionGroup.__weakref__",z])::
 (nat_lit 251,T [])::
 (nat_lit 253,T [v "self" 526])::
 (nat_lit 254,T [])::
 (nat_lit 256,c "__init__" "Net.__init__" 523 524 525 71 1 0 0 3 181 251 252 z 253 254 255 527 528 "/claim/cut.py")::
 (nat_lit 257,F (L2.inClass (tp 29) 0) "__init__" "Net.__init__" z z z (v "flowhall.nets" 447) none (r 256) z)::
 (nat_lit 258,T [])::
 (nat_lit 260,T [v "self" 533])::
 (nat_lit 261,T [])::
 (nat_lit 263,c "places" "Net.places" 530 531 532 76 1 0 0 3 181 258 259 z 260 261 262 534 535 "/claim/cut.py")::
 (nat_lit 264,F (L2.inClass (tp 29) 1) "places" "Net.places" z z z (v "flowhall.nets" 447) none (r 263) z)::
 (nat_lit 265,T [])::
 (nat_lit 268,C [v "ties" 537,v "Net.ties" 538,v "/claim/cut.py" 539,i 79 0,i 1 0,i 0 0,i 0 0,i 3 0,r 265,t,i 181 0,r 266,z,z,z,r 267,i 540 0,i 79 0,v "/claim/cut.py" 541])::
 (nat_lit 269,F (L2.inClass (tp 29) 2) "ties" "Net.ties" z z z (v "flowhall.nets" 447) none (r 268) z)::
 (nat_lit 270,T [])::
 (nat_lit 272,T [v "self" 546])::
 (nat_lit 273,T [])::
 (nat_lit 275,c "given" "Net.given" 543 544 545 82 1 0 0 3 181 270 271 z 272 273 274 547 548 "/claim/cut.py")::
 (nat_lit 276,F (L2.inClass (tp 29) 3) "given" "Net.given" z z z (v "flowhall.nets" 447) none (r 275) z)::
 (nat_lit 277,T [])::
 (nat_lit 279,T [v "self" 553,v "name" 554])::
 (nat_lit 280,T [])::
 (nat_lit 282,c "put_place" "Net.put_place" 550 551 552 85 2 0 0 3 181 277 278 z 279 280 281 555 556 "/claim/cut.py")::
 (nat_lit 283,F (L2.inClass (tp 29) 4) "put_place" "Net.put_place" z z z (v "flowhall.nets" 447) none (r 282) z)::
 (nat_lit 284,T [])::
 (nat_lit 286,T [v "self" 561,v "name" 562])::
 (nat_lit 287,T [])::
 (nat_lit 289,c "need_place" "Net.need_place" 558 559 560 94 2 0 0 3 181 284 285 z 286 287 288 563 564 "/claim/cut.py")::
 (nat_lit 290,F (L2.inClass (tp 29) 5) "need_place" "Net.need_place" z z z (v "flowhall.nets" 447) none (r 289) z)::
 (nat_lit 291,T [i 0 566,z,i 0 567])::
 (nat_lit 292,T [])::
 (nat_lit 294,T [v "self" 571,v "tail" 572,v "head" 573,v "least" 574,v "most" 575,v "price" 576])::
 (nat_lit 295,T [])::
 (nat_lit 297,c "put_tie" "Net.put_tie" 568 569 570 98 6 0 0 3 181 292 293 z 294 295 296 577 578 "/claim/cut.py")::
 (nat_lit 298,F (L2.inClass (tp 29) 6) "put_tie" "Net.put_tie" (r 291) z z (v "flowhall.nets" 447) none (r 297) z)::
 (nat_lit 299,T [])::
 (nat_lit 301,T [v "self" 583,v "number" 584,v "tail" 585,v "head" 586,v "least" 587,v "most" 588,v "price" 589])::
 (nat_lit 302,T [])::
 (nat_lit 304,c "put_numbered" "Net.put_numbered" 580 581 582 101 7 0 0 3 181 299 300 z 301 302 303 590 591 "/claim/cut.py")::
 (nat_lit 305,F (L2.inClass (tp 29) 7) "put_numbered" "Net.put_numbered" z z z (v "flowhall.nets" 447) none (r 304) z)::
 (nat_lit 306,T [])::
 (nat_lit 308,T [v "self" 596,v "number" 597])::
 (nat_lit 309,T [])::
 (nat_lit 311,c "tie_of" "Net.tie_of" 593 594 595 114 2 0 0 3 181 306 307 z 308 309 310 598 599 "/claim/cut.py")::
 (nat_lit 312,F (L2.inClass (tp 29) 8) "tie_of" "Net.tie_of" z z z (v "flowhall.nets" 447) none (r 311) z)::
 (nat_lit 313,T [])::
 (nat_lit 315,T [v "self" 604,v "number" 605])::
 (nat_lit 316,T [])::
 (nat_lit 318,c "drop_tie" "Net.drop_tie" 601 602 603 119 2 0 0 3 181 313 314 z 315 316 317 606 607 "/claim/cut.py")::
 (nat_lit 319,F (L2.inClass (tp 29) 9) "drop_tie" "Net.drop_tie" z z z (v "flowhall.nets" 447) none (r 318) z)::
 (nat_lit 320,T [])::
 (nat_lit 322,T [v "self" 612,v "number" 613,v "least" 614,v "most" 615])::
 (nat_lit 323,T [])::
 (nat_lit 325,c "set_room" "Net.set_room" 609 610 611 123 4 0 0 3 181 320 321 z 322 323 324 616 617 "/claim/cut.py")::
 (nat_lit 326,F (L2.inClass (tp 29) 10) "set_room" "Net.set_room" z z z (v "flowhall.nets" 447) none (r 325) z)::
 (nat_lit 327,T [])::
 (nat_lit 329,T [v "self" 622,v "number" 623,v "price" 624])::
 (nat_lit 330,T [])::
 (nat_lit 332,c "set_price" "Net.set_price" 619 620 621 126 3 0 0 3 181 327 328 z 329 330 331 625 626 "/claim/cut.py")::
 (nat_lit 333,F (L2.inClass (tp 29) 11) "set_price" "Net.set_price" z z z (v "flowhall.nets" 447) none (r 332) z)::
 (nat_lit 334,T [])::
 (nat_lit 336,T [v "self" 631,v "other" 632])::
 (nat_lit 337,T [])::
 (nat_lit 339,c "copied" "Net.copied" 628 629 630 129 1 0 0 3 181 334 335 z 336 337 338 633 634 "/claim/cut.py")::
 (nat_lit 340,F (L2.inClass (tp 29) 12) "copied" "Net.copied" z z z (v "flowhall.nets" 447) none (r 339) z)::
 (nat_lit 341,T [])::
 (nat_lit 343,T [v "self" 639,v "number" 640])::
 (nat_lit 344,T [])::
 (nat_lit 346,c "give" "Net.give" 636 637 638 136 2 0 0 3 181 341 342 z 343 344 345 641 642 "/claim/cut.py")::
 (nat_lit 347,F (L2.inClass (tp 29) 13) "give" "Net.give" z z z (v "flowhall.nets" 447) none (r 346) z)::
 (nat_lit 348,T [v "last_given" 644,v "names" 645,v "rows" 646])::
 (nat_lit 349,D [e P "__module__" 518 (v "flowhall.nets" 447),e P "__firstlineno__" 522 (i 69 521),e P "__init__" 529 (r 257),e P "places" 536 (r 264),e P "ties" 542 (r 269),e P "given" 549 (r 276),e P "put_place" 557 (r 283),e P "need_place" 565 (r 290),e P "put_tie" 579 (r 298),e P "put_numbered" 592 (r 305),e P "tie_of" 600 (r 312),e P "drop_tie" 608 (r 319),e P "set_room" 618 (r 326),e P "set_price" 627 (r 333),e P "copied" 635 (r 340),e P "give" 643 (r 347),e P "__static_attributes__" 647 (r 348),e P "__dict__" 649 (r 351),e P "__weakref__" 651 (r 352),e P "__doc__" 652 z] 4)::
 (nat_lit 350,{cls:=ty "type",data:=Data.cls {name:=Str.ofString "Net",bases:= [ty "object"],mro:= [r 350,ty "object"],ns:=349,qualname:=Str.ofString "Net" },slots:= #[Option.none,Option.none,Option.some (v "Net" 511),Option.some (v "Net" 519),Option.some (bu "object.__new__"),Option.some (t)]})::
 (nat_lit 351,G [v "__dict__" 648,r 350,bu "function.__dict__",bu "function.__dict__#set"])::
 (nat_lit 352,G [v "__weakref__" 650,r 350,bu "ExceptionGroup.__weakref__",z])::
 (nat_lit 362,T [])::
 (nat_lit 365,C [v "__init__" 669,v "Rest.__init__" 670,v "/claim/cut.py" 671,i 141 0,i 2 0,i 0 0,i 0 0,i 3 0,r 362,t,i 181 0,r 363,z,z,z,r 364,i 672 0,i 141 0,v "/claim/cut.py" 673])::
 (nat_lit 366,F (L2.inClass (tp 31) 0) "__init__" "Rest.__init__" z z z (v "flowhall.rests" 655) none (r 365) z)::
 (nat_lit 367,T [i 0 675])::
 (nat_lit 368,T [])::
 (nat_lit 370,T [v "self" 679,v "tail" 680,v "head" 681,v "room" 682,v "back" 683,v "begin" 684,v "end" 685,v "own" 686])::
 (nat_lit 371,T [])::
 (nat_lit 373,c "put_arc" "Rest.put_arc" 676 677 678 147 5 0 0 3 181 368 369 z 370 371 372 687 688 "/claim/cut.py")::
 (nat_lit 374,F (L2.inClass (tp 31) 1) "put_arc" "Rest.put_arc" (r 367) z z (v "flowhall.rests" 655) none (r 373) z)::
 (nat_lit 375,T [])::
 (nat_lit 377,T [v "self" 693,v "arc" 694])::
 (nat_lit 378,T [])::
 (nat_lit 380,c "room_of" "Rest.room_of" 690 691 692 154 2 0 0 3 181 375 376 z 377 378 379 695 696 "/claim/cut.py")::
 (nat_lit 381,F (L2.inClass (tp 31) 2) "room_of" "Rest.room_of" z z z (v "flowhall.rests" 655) none (r 380) z)::
 (nat_lit 382,T [])::
 (nat_lit 384,T [v "self" 701,v "arc" 702])::
 (nat_lit 385,T [])::
 (nat_lit 387,c "back_of" "Rest.back_of" 698 699 700 157 2 0 0 3 181 382 383 z 384 385 386 703 704 "/claim/cut.py")::
 (nat_lit 388,F (L2.inClass (tp 31) 3) "back_of" "Rest.back_of" z z z (v "flowhall.rests" 655) none (r 387) z)::
 (nat_lit 389,T [])::
 (nat_lit 391,T [v "self" 709,v "half" 710,v "is_endless" 711,v "room" 712])::
 (nat_lit 392,T [])::
 (nat_lit 394,c "lets" "Rest.lets" 706 707 708 160 3 0 0 3 181 389 390 z 391 392 393 713 714 "/claim/cut.py")::
 (nat_lit 395,F (L2.inClass (tp 31) 4) "lets" "Rest.lets" z z z (v "flowhall.rests" 655) none (r 394) z)::
 (nat_lit 396,T [])::
 (nat_lit 398,T [v "self" 719,v "source" 720,v "is_endless" 721,v "came" 722,v "seen" 723,v "row" 724,v "at" 725,v "half" 726,v "head" 727])::
 (nat_lit 399,T [])::
 (nat_lit 401,c "walked" "Rest.walked" 716 717 718 164 3 0 0 3 181 396 397 z 398 399 400 728 729 "/claim/cut.py")::
 (nat_lit 402,F (L2.inClass (tp 31) 5) "walked" "Rest.walked" z z z (v "flowhall.rests" 655) none (r 401) z)::
 (nat_lit 403,T [])::
 (nat_lit 405,T [v "self" 734,v "came" 735,v "target" 736,v "way" 737,v "point" 738])::
 (nat_lit 406,T [])::
 (nat_lit 408,c "way_to" "Rest.way_to" 731 732 733 180 3 0 0 3 181 403 404 z 405 406 407 739 740 "/claim/cut.py")::
 (nat_lit 409,F (L2.inClass (tp 31) 6) "way_to" "Rest.way_to" z z z (v "flowhall.rests" 655) none (r 408) z)::
 (nat_lit 410,T [])::
 (nat_lit 412,T [v "self" 745,v "half" 746,v "amount" 747,v "one" 748,v "own" 749])::
 (nat_lit 413,T [])::
 (nat_lit 415,c "change" "Rest.change" 742 743 744 189 3 0 0 3 181 410 411 z 412 413 414 750 751 "/claim/cut.py")::
 (nat_lit 416,F (L2.inClass (tp 31) 7) "change" "Rest.change" z z z (v "flowhall.rests" 655) none (r 415) z)::
 (nat_lit 417,T [])::
 (nat_lit 420,C [v "lift" 753,v "Rest.lift" 754,v "/claim/cut.py" 755,i 194 0,i 3 0,i 0 0,i 0 0,i 3 0,r 417,t,i 181 0,r 418,z,z,z,r 419,i 756 0,i 194 0,v "/claim/cut.py" 757])::
 (nat_lit 421,F (L2.inClass (tp 31) 8) "lift" "Rest.lift" z z z (v "flowhall.rests" 655) none (r 420) z)::
 (nat_lit 422,T [])::
 (nat_lit 425,C [v "reached" 759,v "Rest.reached" 760,v "/claim/cut.py" 761,i 205 0,i 2 0,i 0 0,i 0 0,i 3 0,r 422,t,i 181 0,r 423,z,z,z,r 424,i 762 0,i 205 0,v "/claim/cut.py" 763])::
 (nat_lit 426,F (L2.inClass (tp 31) 9) "reached" "Rest.reached" z z z (v "flowhall.rests" 655) none (r 425) z)::
 (nat_lit 427,T [])::
 (nat_lit 429,T [v "self" 768,v "source" 769,v "target" 770])::
 (nat_lit 430,T [])::
 (nat_lit 432,c "endless" "Rest.endless" 765 766 767 209 3 0 0 3 181 427 428 z 429 430 431 771 772 "/claim/cut.py")::
 (nat_lit 433,F (L2.inClass (tp 31) 10) "endless" "Rest.endless" z z z (v "flowhall.rests" 655) none (r 432) z)::
 (nat_lit 434,T [v "heads" 774,v "many" 775,v "rooms" 776,v "starts" 777])::
 (nat_lit 435,D [e P "__module__" 664 (v "flowhall.rests" 655),e P "__firstlineno__" 668 (i 139 667),e P "__init__" 674 (r 366),e P "put_arc" 689 (r 374),e P "room_of" 697 (r 381),e P "back_of" 705 (r 388),e P "lets" 715 (r 395),e P "walked" 730 (r 402),e P "way_to" 741 (r 409),e P "change" 752 (r 416),e P "lift" 758 (r 421),e P "reached" 764 (r 426),e P "endless" 773 (r 433),e P "__static_attributes__" 778 (r 434),e P "__dict__" 780 (r 437),e P "__weakref__" 782 (r 438),e P "__doc__" 783 z] 4)::
 (nat_lit 436,{cls:=ty "type",data:=Data.cls {name:=Str.ofString "Rest",bases:= [ty "object"],mro:= [r 436,ty "object"],ns:=435,qualname:=Str.ofString "Rest" },slots:= #[Option.none,Option.none,Option.some (v "Rest" 657),Option.some (v "Rest" 665),Option.some (bu "object.__new__"),Option.some (t)]})::
 (nat_lit 437,G [v "__dict__" 779,r 436,bu "function.__dict__",bu "function.__dict__#set"])::
 (nat_lit 438,G [v "__weakref__" 781,r 436,bu "ExceptionGroup.__weakref__",z])::
 (nat_lit 448,T [])::
 (nat_lit 450,T [v "self" 803,v "ways" 804,v "wall" 805])::
 (nat_lit 451,T [])::
 (nat_lit 453,c "__init__" "Apart.__init__" 800 801 802 214 3 0 0 3 181 448 449 z 450 451 452 806 807 "/claim/cut.py")::
 (nat_lit 454,F (L2.inClass (tp 33) 0) "__init__" "Apart.__init__" z z z (v "flowhall.questions" 786) none (r 453) z)::
 (nat_lit 455,T [v "wall" 809,v "ways" 810])::
 (nat_lit 456,D [e P "__module__" 795 (v "flowhall.questions" 786),e P "__firstlineno__" 799 (i 212 798),e P "__init__" 808 (r 454),e P "__static_attributes__" 811 (r 455),e P "__dict__" 813 (r 458),e P "__weakref__" 815 (r 459),e P "__doc__" 816 z] 4)::
 (nat_lit 457,{cls:=ty "type",data:=Data.cls {name:=Str.ofString "Apart",bases:= [ty "object"],mro:= [r 457,ty "object"],ns:=456,qualname:=Str.ofString "Apart" },slots:= #[Option.none,Option.none,Option.some (v "Apart" 788),Option.some (v "Apart" 796),Option.some (bu "object.__new__"),Option.some (t)]})::
 (nat_lit 458,G [v "__dict__" 812,r 457,bu "function.__dict__",bu "function.__dict__#set"])::
 (nat_lit 459,G [v "__weakref__" 814,r 457,bu "ExceptionGroup.__weakref__",z])::
 (nat_lit 469,T [])::
 (nat_lit 471,T [v "self" 834])::
 (nat_lit 472,T [])::
 (nat_lit 474,c "answer" "Question.answer" 831 832 833 219 1 0 0 3 181 469 470 z 471 472 473 835 836 "/claim/cut.py")::
 (nat_lit 475,F (L2.inClass (tp 34) 0) "answer" "Question.answer" z z z (v "flowhall.questions" 786) none (r 474) z)::
 (nat_lit 476,T [])::
 (nat_lit 477,D [e P "__module__" 826 (v "flowhall.questions" 786),e P "__firstlineno__" 830 (i 217 829),e P "answer" 837 (r 475),e P "__static_attributes__" 838 (r 476),e P "__dict__" 840 (r 479),e P "__weakref__" 842 (r 480),e P "__doc__" 843 z] 4)::
 (nat_lit 478,{cls:=ty "type",data:=Data.cls {name:=Str.ofString "Question",bases:= [ty "object"],mro:= [r 478,ty "object"],ns:=477,qualname:=Str.ofString "Question",subclasses:= [r 516]},slots:= #[Option.none,Option.none,Option.some (v "Question" 819),Option.some (v "Question" 827),Option.some (bu "object.__new__"),Option.some (t)]})::
 (nat_lit 479,G [v "__dict__" 839,r 478,bu "function.__dict__",bu "function.__dict__#set"])::
 (nat_lit 480,G [v "__weakref__" 841,r 478,bu "ExceptionGroup.__weakref__",z])::
 (nat_lit 483,T [])::
 (nat_lit 485,T [v "way" 849,v "heads" 850,v "start" 851,v "found" 852,v "met" 853,v "arc" 854,v "head" 855,v "at" 856])::
 (nat_lit 486,T [])::
 (nat_lit 488,c "shortened" "shortened" 846 847 848 221 3 0 0 3 181 483 484 z 485 486 487 857 858 "/claim/cut.py")::
 (nat_lit 489,F (tp 35) "shortened" "shortened" z z z (v "flowhall.questions" 786) none (r 488) z)::
 (nat_lit 490,T [])::
 (nat_lit 493,C [v "ways_in" 860,v "ways_in" 861,v "/claim/cut.py" 862,i 234 0,i 5 0,i 0 0,i 0 0,i 3 0,r 490,t,i 181 0,r 491,z,z,z,r 492,i 863 0,i 234 0,v "/claim/cut.py" 864])::
 (nat_lit 494,F (tp 36) "ways_in" "ways_in" z z z (v "flowhall.questions" 786) none (r 493) z)::
 (nat_lit 495,T [r 478])::
 (nat_lit 502,T [])::
 (nat_lit 504,T [v "self" 881,v "net" 882,v "source" 883,v "target" 884])::
 (nat_lit 505,T [])::
 (nat_lit 507,c "__init__" "TiesApart.__init__" 878 879 880 249 4 0 0 3 181 502 503 z 504 505 506 885 886 "/claim/cut.py")::
 (nat_lit 508,F (L2.inClass (tp 37) 0) "__init__" "TiesApart.__init__" z z z (v "flowhall.questions" 786) none (r 507) z)::
 (nat_lit 509,T [])::
 (nat_lit 512,C [v "answer" 888,v "TiesApart.answer" 889,v "/claim/cut.py" 890,i 256 0,i 1 0,i 0 0,i 0 0,i 3 0,r 509,t,i 181 0,r 510,z,z,z,r 511,i 891 0,i 256 0,v "/claim/cut.py" 892])::
 (nat_lit 513,F (L2.inClass (tp 37) 1) "answer" "TiesApart.answer" z z z (v "flowhall.questions" 786) none (r 512) z)::
 (nat_lit 514,T [v "names" 894,v "rows" 895,v "source" 896,v "target" 897])::
 (nat_lit 515,D [e P "__module__" 873 (v "flowhall.questions" 786),e P "__firstlineno__" 877 (i 247 876),e P "__init__" 887 (r 508),e P "answer" 893 (r 513),e P "__static_attributes__" 898 (r 514),e P "__doc__" 899 z] 2)::
 (nat_lit 516,{cls:=ty "type",data:=Data.cls {name:=Str.ofString "TiesApart",bases:= [r 478],mro:= [r 516,r 478,ty "object"],ns:=515,qualname:=Str.ofString "TiesApart",subclasses:= [r 538]},slots:= #[Option.some (r 495),Option.none,Option.some (v "TiesApart" 866),Option.some (v "TiesApart" 874),Option.some (bu "object.__new__"),Option.some (t)]})::
 (nat_lit 519,T [r 516])::
 (nat_lit 526,T [])::
 (nat_lit 529,C [v "__init__" 914,v "PlacesApart.__init__" 915,v "/claim/cut.py" 916,i 273 0,i 4 0,i 0 0,i 0 0,i 3 0,r 526,t,i 181 0,r 527,z,z,z,r 528,i 917 0,i 273 0,v "/claim/cut.py" 918])::
 (nat_lit 530,F (L2.inClass (tp 38) 0) "__init__" "PlacesApart.__init__" z z z (v "flowhall.questions" 786) none (r 529) z)::
 (nat_lit 531,T [])::
 (nat_lit 534,C [v "answer" 920,v "PlacesApart.answer" 921,v "/claim/cut.py" 922,i 282 0,i 1 0,i 0 0,i 0 0,i 3 0,r 531,t,i 181 0,r 532,z,z,z,r 533,i 923 0,i 282 0,v "/claim/cut.py" 924])::
 (nat_lit 535,F (L2.inClass (tp 38) 1) "answer" "PlacesApart.answer" z z z (v "flowhall.questions" 786) none (r 534) z)::
 (nat_lit 536,T [v "names" 926,v "rows" 927,v "source" 928,v "target" 929])::
 (nat_lit 537,D [e P "__module__" 909 (v "flowhall.questions" 786),e P "__firstlineno__" 913 (i 271 912),e P "__init__" 919 (r 530),e P "answer" 925 (r 535),e P "__static_attributes__" 930 (r 536),e P "__doc__" 931 z] 2)::
 (nat_lit 538,{cls:=ty "type",data:=Data.cls {name:=Str.ofString "PlacesApart",bases:= [r 516],mro:= [r 538,r 516,r 478,ty "object"],ns:=537,qualname:=Str.ofString "PlacesApart" },slots:= #[Option.some (r 519),Option.none,Option.some (v "PlacesApart" 902),Option.some (v "PlacesApart" 910),Option.some (bu "object.__new__"),Option.some (t)]})::
 (nat_lit 541,T [])::
 (nat_lit 543,T [v "_law_script" 939,v "_law_k" 940,v "_law_cell" 941,v "_law_more" 942])::
 (nat_lit 544,T [])::
 (nat_lit 546,c "_law_number" "_law_number" 936 937 938 298 2 0 0 3 181 541 542 z 543 544 545 943 944 "/claim/cut.py")::
 (nat_lit 547,F (tp 40) "_law_number" "_law_number" z z z (v "law_flowhall_k27_ways_apart" 934) none (r 546) z)::
 (nat_lit 548,T [])::
 (nat_lit 551,C [v "_law_names" 946,v "_law_names" 947,v "/claim/cut.py" 948,i 304 0,i 2 0,i 0 0,i 0 0,i 3 0,r 548,t,i 181 0,r 549,z,z,z,r 550,i 949 0,i 304 0,v "/claim/cut.py" 950])::
 (nat_lit 552,F (tp 41) "_law_names" "_law_names" z z z (v "law_flowhall_k27_ways_apart" 934) none (r 551) z)::
 (nat_lit 553,T [])::
 (nat_lit 555,T [v "_law_script" 955,v "_law_k" 956,v "_law_cell" 957])::
 (nat_lit 556,T [])::
 (nat_lit 558,c "_law_great" "_law_great" 952 953 954 314 2 0 0 3 181 553 554 z 555 556 557 958 959 "/claim/cut.py")::
 (nat_lit 559,F (tp 42) "_law_great" "_law_great" z z z (v "law_flowhall_k27_ways_apart" 934) none (r 558) z)::
 (nat_lit 560,T [])::
 (nat_lit 562,T [v "_law_script" 964,v "_law_k" 965,v "_law_number_here" 966,v "_law_most" 967])::
 (nat_lit 563,T [])::
 (nat_lit 565,c "_law_room" "_law_room" 961 962 963 319 3 0 0 3 181 560 561 z 562 563 564 968 969 "/claim/cut.py")::
 (nat_lit 566,F (tp 43) "_law_room" "_law_room" z z z (v "law_flowhall_k27_ways_apart" 934) none (r 565) z)::
 (nat_lit 567,T [])::
 (nat_lit 569,T [v "_law_script" 974,v "_law_k" 975,v "_law_many" 976,v "_law_number_here" 977,v "_law_tail" 978,v "_law_head" 979,v "_law_least" 980,v "_law_most" 981])::
 (nat_lit 570,T [])::
 (nat_lit 572,c "_law_row" "_law_row" 971 972 973 324 3 0 0 3 181 567 568 z 569 570 571 982 983 "/claim/cut.py")::
 (nat_lit 573,F (tp 44) "_law_row" "_law_row" z z z (v "law_flowhall_k27_ways_apart" 934) none (r 572) z)::
 (nat_lit 574,T [])::
 (nat_lit 576,T [v "_law_rows" 988,v "_law_source" 989,v "_law_shut" 990,v "_law_found" 991,v "_law_at" 992,v "_law_number_here" 993,v "_law_tail" 994,v "_law_head" 995])::
 (nat_lit 577,T [])::
 (nat_lit 579,c "_law_come_to" "_law_come_to" 985 986 987 330 3 0 0 3 181 574 575 z 576 577 578 996 997 "/claim/cut.py")::
 (nat_lit 580,F (tp 45) "_law_come_to" "_law_come_to" z z z (v "law_flowhall_k27_ways_apart" 934) none (r 579) z)::
 (nat_lit 581,T [])::
 (nat_lit 584,C [v "_law_way_right" 999,v "_law_way_right" 1000,v "/claim/cut.py" 1001,i 339 0,i 4 0,i 0 0,i 0 0,i 3 0,r 581,t,i 181 0,r 582,z,z,z,r 583,i 1002 0,i 339 0,v "/claim/cut.py" 1003])::
 (nat_lit 585,F (tp 46) "_law_way_right" "_law_way_right" z z z (v "law_flowhall_k27_ways_apart" 934) none (r 584) z)::
 (nat_lit 586,T [])::
 (nat_lit 589,C [v "_law_ties_right" 1005,v "_law_ties_right" 1006,v "/claim/cut.py" 1007,i 349 0,i 4 0,i 0 0,i 0 0,i 3 0,r 586,t,i 181 0,r 587,z,z,z,r 588,i 1008 0,i 349 0,v "/claim/cut.py" 1009])::
 (nat_lit 590,F (tp 47) "_law_ties_right" "_law_ties_right" z z z (v "law_flowhall_k27_ways_apart" 934) none (r 589) z)::
 (nat_lit 591,T [])::
 (nat_lit 594,C [v "_law_places_right" 1011,v "_law_places_right" 1012,v "/claim/cut.py" 1013,i 362 0,i 5 0,i 0 0,i 0 0,i 3 0,r 591,t,i 181 0,r 592,z,z,z,r 593,i 1014 0,i 362 0,v "/claim/cut.py" 1015])::
 (nat_lit 595,F (tp 48) "_law_places_right" "_law_places_right" z z z (v "law_flowhall_k27_ways_apart" 934) none (r 594) z)::
 (nat_lit 596,T [])::
 (nat_lit 598,T [v "_law_found" 1020,v "_law_way" 1021,v "_law_rows" 1022,v "_law_names_here" 1023,v "_law_source" 1024,v "_law_target" 1025])::
 (nat_lit 599,T [])::
 (nat_lit 601,c "_law_right" "_law_right" 1017 1018 1019 375 6 0 0 3 181 596 597 z 598 599 600 1026 1027 "/claim/cut.py")::
 (nat_lit 602,F (tp 49) "_law_right" "_law_right" z z z (v "law_flowhall_k27_ways_apart" 934) none (r 601) z)::
 (nat_lit 603,T [])::
 (nat_lit 606,C [v "_law_told" 1029,v "_law_told" 1030,v "/claim/cut.py" 1031,i 383 0,i 1 0,i 0 0,i 0 0,i 3 0,r 603,t,i 181 0,r 604,z,z,z,r 605,i 1032 0,i 383 0,v "/claim/cut.py" 1033])::
 (nat_lit 607,F (tp 50) "_law_told" "_law_told" z z z (v "law_flowhall_k27_ways_apart" 934) none (r 606) z)::
 (nat_lit 608,T [])::
 (nat_lit 610,T [v "_law_net" 1038,v "_law_way" 1039,v "_law_source" 1040,v "_law_target" 1041,v "_law_found" 1042,v "_law_wrong" 1043,v "error" 1044])::
 (nat_lit 611,T [])::
 (nat_lit 613,c "_law_put_question" "_law_put_question" 1035 1036 1037 385 4 0 0 3 181 608 609 z 610 611 612 1045 1046 "/claim/cut.py")::
 (nat_lit 614,F (tp 51) "_law_put_question" "_law_put_question" z z z (v "law_flowhall_k27_ways_apart" 934) none (r 613) z)::
 (nat_lit 615,T [])::
 (nat_lit 618,C [v "_law_asked" 1048,v "_law_asked" 1049,v "/claim/cut.py" 1050,i 395 0,i 4 0,i 0 0,i 0 0,i 3 0,r 615,t,i 181 0,r 616,z,z,z,r 617,i 1051 0,i 395 0,v "/claim/cut.py" 1052])::
 (nat_lit 619,F (tp 52) "_law_asked" "_law_asked" z z z (v "law_flowhall_k27_ways_apart" 934) none (r 618) z)::
 (nat_lit 620,T [])::
 (nat_lit 622,T [v "_law_net" 1057,v "_law_rows" 1058,v "_law_names_here" 1059,v "_law_script" 1060,v "_law_k" 1061,v "_law_number_here" 1062,v "_law_at" 1063,v "_law_told_here" 1064,v "_law_tail" 1065,v "_law_head" 1066,v "_law_price" 1067])::
 (nat_lit 623,T [])::
 (nat_lit 625,c "_law_changed" "_law_changed" 1054 1055 1056 416 5 0 0 3 181 620 621 z 622 623 624 1068 1069 "/claim/cut.py")::
 (nat_lit 626,F (tp 53) "_law_changed" "_law_changed" z z z (v "law_flowhall_k27_ways_apart" 934) none (r 625) z)::
 (nat_lit 627,T [])::
 (nat_lit 629,T [v "_law_script" 1074,v "_law_number_here" 1075,v "_law_names_here" 1076,v "_law_net" 1077,v "_law_name" 1078,v "_law_rows" 1079,v "_law_asked_here" 1080,v "_law_k" 1081,v "_law_more" 1082])::
 (nat_lit 630,T [])::
 (nat_lit 632,c "law" "law" 1071 1072 1073 427 1 0 0 3 181 627 628 z 629 630 631 1083 1084 "/claim/cut.py")::
 (nat_lit 633,F (tp 54) "law" "law" z z z (v "law_flowhall_k27_ways_apart" 934) none (r 632) z):: []
def oa:List Addr:= [2,3,15,17,18,20,21,22,29,30,31,32,35,42,43,44,47,54,55,56,59,66,67,68,71,78,80,81,83,84,85,86,87,90,97,98,99,102,109,110,111,114,121,122,123,126,133,135,136,138,139,140,141,142,145,152,153,154,157,164,166,167,169,170,171,172,173,176,178,179,181,182,183,185,186,188,189,190,193,194,195,197,198,200,201,202,204,205,207,208,209,211,212,214,215,216,218,219,221,222,230,232,233,235,236,237,238,239,240,241,251,253,254,256,257,258,260,261,263,264,265,268,269,270,272,273,275,276,277,279,280,282,283,284,286,287,289,290,291,292,294,295,297,298,299,301,302,304,305,306,308,309,311,312,313,315,316,318,319,320,322,323,325,326,327,329,330,332,333,334,336,337,339,340,341,343,344,346,347,348,349,350,351,352,362,365,366,367,368,370,371,373,374,375,377,378,380,381,382,384,385,387,388,389,391,392,394,395,396,398,399,401,402,403,405,406,408,409,410,412,413,415,416,417,420,421,422,425,426,427,429,430,432,433,434,435,436,437,438,448,450,451,453,454,455,456,457,458,459,469,471,472,474,475,476,477,478,479,480,483,485,486,488,489,490,493,494,495,502,504,505,507,508,509,512,513,514,515,516,519,526,529,530,531,534,535,536,537,538,541,543,544,546,547,548,551,552,553,555,556,558,559,560,562,563,565,566,567,569,570,572,573,574,576,577,579,580,581,584,585,586,589,590,591,594,595,596,598,599,601,602,603,606,607,608,610,611,613,614,615,618,619,620,622,623,625,626,627,629,630,632,633]
theorem b10:∀(w:World) (os:OsState),(run w os).map (fun s=>oa.map (getT s))=some ((ob w.params).map fun x=>some x.2):=by
 intro w os
 kernel_rfl
end
end HR
namespace T
open PySem PySem.Spec PyProof.Rows L2
open PySem.W (Frag codeIn findIn fnOf hasDictIn isFn keepIn makesIn mroIn nsIn plainGet plainOver specialIn subIn takesIn typeIn)
def top (i:Nat):Stmt:=PySem.Challenge.pw_flowhall_k27_ways_apart.main.body.getD i (.Pass ⟨0,0,0,0⟩)
abbrev lX:Stmt:=top 40
abbrev N_Lnumber:List Str:= ["_law_script","_law_k","_law_cell","_law_more"]
theorem gP:FnScope N_Lnumber ["_law_script","_law_k"] (L2.defScope lX):=⟨rfl,rfl,rfl,by decide+kernel,rfl,by decide+kernel,by decide+kernel⟩
abbrev oH:Stmt:=top 41
abbrev N_Lnames:List Str:= ["_law_number_here","_law_many","_law_letters","_law_step","_law_base","_law_border","_law_at","_law_signs","_law_j","_law_k","_law_sign"]
theorem bq:FnScope N_Lnames ["_law_number_here","_law_many"] (L2.defScope oH):=⟨rfl,rfl,rfl,by decide+kernel,rfl,by decide+kernel,by decide+kernel⟩
abbrev jS:Stmt:=inClass (top 29) 0
abbrev N_Net_init:List Str:= ["self"]
theorem sZ:FnScope N_Net_init ["self"] (L2.defScope jS):=⟨rfl,rfl,rfl,by decide+kernel,rfl,by decide+kernel,by decide+kernel⟩
abbrev iD:Stmt:=top 18
abbrev N_are_signs:List Str:= ["text","signs","sign"]
theorem fZ:FnScope N_are_signs ["text","signs"] (L2.defScope iD):=⟨rfl,rfl,rfl,by decide+kernel,rfl,by decide+kernel,by decide+kernel⟩
abbrev lW:Stmt:=top 19
abbrev N_is_name:List Str:= ["thing"]
theorem wx:FnScope N_is_name ["thing"] (L2.defScope lW):=⟨rfl,rfl,rfl,by decide+kernel,rfl,by decide+kernel,by decide+kernel⟩
abbrev dW:Stmt:=inClass (top 29) 4
abbrev N_Net_put_place:List Str:= ["self","name"]
theorem kM:FnScope N_Net_put_place ["self","name"] (L2.defScope dW):=⟨rfl,rfl,rfl,by decide+kernel,rfl,by decide+kernel,by decide+kernel⟩
abbrev jO:Stmt:=top 16
abbrev N_is_whole:List Str:= ["thing"]
theorem sW:FnScope N_is_whole ["thing"] (L2.defScope jO):=⟨rfl,rfl,rfl,by decide+kernel,rfl,by decide+kernel,by decide+kernel⟩
abbrev gh:Stmt:=inClass (top 29) 8
abbrev N_Net_tie_of:List Str:= ["self","number"]
theorem oz:FnScope N_Net_tie_of ["self","number"] (L2.defScope gh):=⟨rfl,rfl,rfl,by decide+kernel,rfl,by decide+kernel,by decide+kernel⟩
abbrev eI:Stmt:=inClass (top 29) 9
abbrev N_Net_drop_tie:List Str:= ["self","number"]
theorem lT:FnScope N_Net_drop_tie ["self","number"] (L2.defScope eI):=⟨rfl,rfl,rfl,by decide+kernel,rfl,by decide+kernel,by decide+kernel⟩
abbrev oJ:Stmt:=top 42
abbrev N_Lgreat:List Str:= ["_law_script","_law_k","_law_cell"]
theorem lU:FnScope N_Lgreat ["_law_script","_law_k"] (L2.defScope oJ):=⟨rfl,rfl,rfl,by decide+kernel,rfl,by decide+kernel,by decide+kernel⟩
abbrev tj:Stmt:=top 43
abbrev N_Lroom:List Str:= ["_law_script","_law_k","_law_number_here","_law_most"]
theorem oE:FnScope N_Lroom ["_law_script","_law_k","_law_number_here"] (L2.defScope tj):=⟨rfl,rfl,rfl,by decide+kernel,rfl,by decide+kernel,by decide+kernel⟩
abbrev yf:Stmt:=top 44
abbrev N_Lrow:List Str:= ["_law_script","_law_k","_law_many","_law_number_here","_law_tail","_law_head","_law_least","_law_most"]
theorem jN:FnScope N_Lrow ["_law_script","_law_k","_law_many"] (L2.defScope yf):=⟨rfl,rfl,rfl,by decide+kernel,rfl,by decide+kernel,by decide+kernel⟩
abbrev dw:Stmt:=inClass (top 29) 5
abbrev N_Net_need_place:List Str:= ["self","name"]
theorem jM:FnScope N_Net_need_place ["self","name"] (L2.defScope dw):=⟨rfl,rfl,rfl,by decide+kernel,rfl,by decide+kernel,by decide+kernel⟩
abbrev jP:Stmt:=top 17
abbrev N_is_among:List Str:= ["thing","least","most"]
theorem sX:FnScope N_is_among ["thing","least","most"] (L2.defScope jP):=⟨rfl,rfl,rfl,by decide+kernel,rfl,by decide+kernel,by decide+kernel⟩
abbrev iA:Stmt:=top 26
abbrev N_need_room:List Str:= ["least","most"]
theorem qG:FnScope N_need_room ["least","most"] (L2.defScope iA):=⟨rfl,rfl,rfl,by decide+kernel,rfl,by decide+kernel,by decide+kernel⟩
abbrev gc:Stmt:=top 27
abbrev N_need_price:List Str:= ["price"]
theorem oy:FnScope N_need_price ["price"] (L2.defScope gc):=⟨rfl,rfl,rfl,by decide+kernel,rfl,by decide+kernel,by decide+kernel⟩
abbrev jQ:Stmt:=inClass (top 28) 0
abbrev N_Tie_init:List Str:= ["self","number","tail","head","least","most","price"]
theorem sY:FnScope N_Tie_init ["self","number","tail","head","least","most","price"] (L2.defScope jQ):=⟨rfl,rfl,rfl,by decide+kernel,rfl,by decide+kernel,by decide+kernel⟩
abbrev cK:Stmt:=inClass (top 29) 7
abbrev N_Net_put_numbered:List Str:= ["self","number","tail","head","least","most","price"]
theorem iw:FnScope N_Net_put_numbered ["self","number","tail","head","least","most","price"] (L2.defScope cK):=⟨rfl,rfl,rfl,by decide+kernel,rfl,by decide+kernel,by decide+kernel⟩
abbrev aY:Stmt:=inClass (top 29) 6
abbrev N_Net_put_tie:List Str:= ["self","tail","head","least","most","price"]
theorem mW:FnScope N_Net_put_tie ["self","tail","head","least","most","price"] (L2.defScope aY):=⟨rfl,rfl,rfl,by decide+kernel,rfl,by decide+kernel,by decide+kernel⟩
abbrev jU:Stmt:=top 53
abbrev N_Lchanged:List Str:= ["_law_net","_law_rows","_law_names_here","_law_script","_law_k","_law_number_here","_law_at","_law_told_here","_law_tail","_law_head","_law_price"]
theorem sc_Lchanged:FnScope N_Lchanged ["_law_net","_law_rows","_law_names_here","_law_script","_law_k"] (L2.defScope jU):=⟨rfl,rfl,rfl,by decide+kernel,rfl,by decide+kernel,by decide+kernel⟩
abbrev gj:Stmt:=inClass (top 29) 12
abbrev N_Net_copied:List Str:= ["self","other"]
theorem iZ:FnScope N_Net_copied ["self"] (L2.defScope gj):=⟨rfl,rfl,rfl,by decide+kernel,rfl,by decide+kernel,by decide+kernel⟩
abbrev iB:Stmt:=top 21
abbrev N_need_ends:List Str:= ["net","source","target"]
theorem qH:FnScope N_need_ends ["net","source","target"] (L2.defScope iB):=⟨rfl,rfl,rfl,by decide+kernel,rfl,by decide+kernel,by decide+kernel⟩
abbrev gi:Stmt:=inClass (top 29) 1
abbrev N_Net_places:List Str:= ["self"]
theorem oA:FnScope N_Net_places ["self"] (L2.defScope gi):=⟨rfl,rfl,rfl,by decide+kernel,rfl,by decide+kernel,by decide+kernel⟩
abbrev jR:Stmt:=inClass (top 29) 2
abbrev N_Net_ties:List Str:= ["self","number"]
theorem iu:FnScope N_Net_ties ["self"] (L2.defScope jR):=⟨rfl,rfl,rfl,by decide+kernel,rfl,by decide+kernel,by decide+kernel⟩
abbrev du:Stmt:=inClass (top 37) 0
abbrev N_TiesApart_init:List Str:= ["self","net","source","target"]
theorem jL:FnScope N_TiesApart_init ["self","net","source","target"] (L2.defScope du):=⟨rfl,rfl,rfl,by decide+kernel,rfl,by decide+kernel,by decide+kernel⟩
abbrev aQ:Stmt:=inClass (top 12) 0
abbrev jF:List Str:= ["self","why"]
theorem iy:FnScope jF ["self","why"] (L2.defScope aQ):=⟨rfl,rfl,rfl,by decide+kernel,rfl,by decide+kernel,by decide+kernel⟩
abbrev cJ:Stmt:=inClass (top 38) 0
abbrev N_PlacesApart_init:List Str:= ["self","net","source","target","tie"]
theorem cm:FnScope N_PlacesApart_init ["self","net","source","target"] (L2.defScope cJ):=⟨rfl,rfl,rfl,by decide+kernel,rfl,by decide+kernel,by decide+kernel⟩
abbrev dX:Stmt:=top 51
abbrev N_Lput_question:List Str:= ["_law_net","_law_way","_law_source","_law_target","_law_found","_law_wrong","error"]
theorem sc_Lput_question:FnScope N_Lput_question ["_law_net","_law_way","_law_source","_law_target"] (L2.defScope dX):=⟨rfl,rfl,rfl,by decide+kernel,rfl,by decide+kernel,by decide+kernel⟩
abbrev iG:Stmt:=inClass (top 31) 0
abbrev N_Rest_init:List Str:= ["self","many","point"]
theorem gb:FnScope N_Rest_init ["self","many"] (L2.defScope iG):=⟨rfl,rfl,rfl,by decide+kernel,rfl,by decide+kernel,by decide+kernel⟩
abbrev aR:Stmt:=inClass (top 31) 1
abbrev N_Rest_put_arc:List Str:= ["self","tail","head","room","back","begin","end","own"]
theorem cH:FnScope N_Rest_put_arc ["self","tail","head","room","back"] (L2.defScope aR):=⟨rfl,rfl,rfl,by decide+kernel,rfl,by decide+kernel,by decide+kernel⟩
abbrev iF:Stmt:=inClass (top 31) 4
abbrev N_Rest_lets:List Str:= ["self","half","is_endless","room"]
theorem kz:FnScope N_Rest_lets ["self","half","is_endless"] (L2.defScope iF):=⟨rfl,rfl,rfl,by decide+kernel,rfl,by decide+kernel,by decide+kernel⟩
abbrev eZ:Stmt:=inClass (top 31) 5
abbrev N_Rest_walked:List Str:= ["self","source","is_endless","came","seen","row","at","half","head"]
theorem sc_Rest_walked:FnScope N_Rest_walked ["self","source","is_endless"] (L2.defScope eZ):=⟨rfl,rfl,rfl,by decide+kernel,rfl,by decide+kernel,by decide+kernel⟩
abbrev eY:Stmt:=inClass (top 31) 6
abbrev N_Rest_way_to:List Str:= ["self","came","target","way","point"]
theorem cY:FnScope N_Rest_way_to ["self","came","target"] (L2.defScope eY):=⟨rfl,rfl,rfl,by decide+kernel,rfl,by decide+kernel,by decide+kernel⟩
abbrev fg:Stmt:=inClass (top 31) 7
abbrev N_Rest_change:List Str:= ["self","half","amount","one","own"]
theorem eF:FnScope N_Rest_change ["self","half","amount"] (L2.defScope fg):=⟨rfl,rfl,rfl,by decide+kernel,rfl,by decide+kernel,by decide+kernel⟩
abbrev iE:Stmt:=inClass (top 31) 8
abbrev N_Rest_lift:List Str:= ["self","source","target","lifted","way","narrow","half"]
theorem sc_Rest_lift:FnScope N_Rest_lift ["self","source","target"] (L2.defScope iE):=⟨rfl,rfl,rfl,by decide+kernel,rfl,by decide+kernel,by decide+kernel⟩
abbrev eH:Stmt:=inClass (top 31) 3
abbrev N_Rest_back_of:List Str:= ["self","arc"]
theorem lR:FnScope N_Rest_back_of ["self","arc"] (L2.defScope eH):=⟨rfl,rfl,rfl,by decide+kernel,rfl,by decide+kernel,by decide+kernel⟩
abbrev iz:Stmt:=top 35
abbrev N_shortened:List Str:= ["way","heads","start","found","met","arc","head","at"]
theorem bC:FnScope N_shortened ["way","heads","start"] (L2.defScope iz):=⟨rfl,rfl,rfl,by decide+kernel,rfl,by decide+kernel,by decide+kernel⟩
abbrev lV:Stmt:=top 36
abbrev N_ways_in:List Str:= ["used","tails","heads","start","goal","left","found","point","way","arc","one"]
theorem bz:FnScope N_ways_in ["used","tails","heads","start","goal"] (L2.defScope lV):=⟨rfl,rfl,rfl,by decide+kernel,rfl,by decide+kernel,by decide+kernel⟩
abbrev eG:Stmt:=inClass (top 31) 9
abbrev N_Rest_reached:List Str:= ["self","source","came","point","half"]
theorem bT:FnScope N_Rest_reached ["self","source"] (L2.defScope eG):=⟨rfl,rfl,rfl,by decide+kernel,rfl,by decide+kernel,by decide+kernel⟩
abbrev gm:Stmt:=inClass (top 33) 0
abbrev N_Apart_init:List Str:= ["self","ways","wall"]
theorem oF:FnScope N_Apart_init ["self","ways","wall"] (L2.defScope gm):=⟨rfl,rfl,rfl,by decide+kernel,rfl,by decide+kernel,by decide+kernel⟩
abbrev cI:Stmt:=inClass (top 37) 1
abbrev N_TiesApart_answer:List Str:= ["self","rest","tails","heads","arcs","start","goal","used","ways","come_to","wall","place","tie","tail","head","arc","way"]
theorem sc_TiesApart_answer:FnScope N_TiesApart_answer ["self"] (L2.defScope cI):=⟨rfl,rfl,rfl,by decide+kernel,rfl,by decide+kernel,by decide+kernel⟩
abbrev bW:Stmt:=inClass (top 38) 1
abbrev N_PlacesApart_answer:List Str:= ["self","many","rest","start","goal","place","tails","heads","arcs","used","ways","come_to","wall","tie","tail","head","arc","name","way"]
theorem sc_PlacesApart_answer:FnScope N_PlacesApart_answer ["self"] (L2.defScope bW):=⟨rfl,rfl,rfl,by decide+kernel,rfl,by decide+kernel,by decide+kernel⟩
abbrev gk:Stmt:=top 46
abbrev N_Lway_right:List Str:= ["_law_way","_law_rows","_law_source","_law_target","_law_places","_law_number_here","_law_here","_law_row_here"]
theorem bG:FnScope N_Lway_right ["_law_way","_law_rows","_law_source","_law_target"] (L2.defScope gk):=⟨rfl,rfl,rfl,by decide+kernel,rfl,by decide+kernel,by decide+kernel⟩
abbrev jT:Stmt:=top 45
abbrev N_Lcome_to:List Str:= ["_law_rows","_law_source","_law_shut","_law_found","_law_at","_law_number_here","_law_tail","_law_head"]
theorem cn:FnScope N_Lcome_to ["_law_rows","_law_source","_law_shut"] (L2.defScope jT):=⟨rfl,rfl,rfl,by decide+kernel,rfl,by decide+kernel,by decide+kernel⟩
abbrev fj:Stmt:=top 47
abbrev N_Lties_right:List Str:= ["_law_found","_law_rows","_law_source","_law_target","_law_used","_law_way","_law_numbers","_law_left","_law_row_here","_law_one"]
theorem aO:FnScope N_Lties_right ["_law_found","_law_rows","_law_source","_law_target"] (L2.defScope fj):=⟨rfl,rfl,rfl,by decide+kernel,rfl,by decide+kernel,by decide+kernel⟩
abbrev dY:Stmt:=top 48
abbrev N_Lplaces_right:List Str:= ["_law_found","_law_rows","_law_names_here","_law_source","_law_target","_law_used","_law_way","_law_places","_law_shut_here","_law_name"]
theorem aX:FnScope N_Lplaces_right ["_law_found","_law_rows","_law_names_here","_law_source","_law_target"] (L2.defScope dY):=⟨rfl,rfl,rfl,by decide+kernel,rfl,by decide+kernel,by decide+kernel⟩
abbrev oG:Stmt:=top 49
abbrev N_Lright:List Str:= ["_law_found","_law_way","_law_rows","_law_names_here","_law_source","_law_target"]
theorem ye:FnScope N_Lright ["_law_found","_law_way","_law_rows","_law_names_here","_law_source","_law_target"] (L2.defScope oG):=⟨rfl,rfl,rfl,by decide+kernel,rfl,by decide+kernel,by decide+kernel⟩
abbrev tf:Stmt:=top 50
abbrev N_Ltold:List Str:= ["_law_found","_law_way"]
theorem oC:FnScope N_Ltold ["_law_found"] (L2.defScope tf):=⟨rfl,rfl,rfl,by decide+kernel,rfl,by decide+kernel,by decide+kernel⟩
abbrev oK:Stmt:=top 52
abbrev N_Lasked:List Str:= ["_law_net","_law_rows","_law_names_here","_law_number_here","_law_way","_law_source","_law_target","_law_handed","_law_question","_law_found","_law_kept","_law_told_here","_law_row_here","_law_name"]
theorem br:FnScope N_Lasked ["_law_net","_law_rows","_law_names_here","_law_number_here"] (L2.defScope oK):=⟨rfl,rfl,rfl,by decide+kernel,rfl,by decide+kernel,by decide+kernel⟩
abbrev ja:Stmt:=top 54
abbrev N_law:List Str:= ["_law_script","_law_number_here","_law_names_here","_law_net","_law_name","_law_rows","_law_asked_here","_law_k","_law_more"]
theorem fY:FnScope N_law ["_law_script"] (L2.defScope ja):=⟨rfl,rfl,rfl,by decide+kernel,rfl,by decide+kernel,by decide+kernel⟩
structure FnAt (K:Frag) (f:Addr) (n q:Str) (st:Stmt):Prop where
 ex:∃(oc:Value) (od:Option Addr) (sl:Array (Option Value)) (kV dc pm:Value) (an:Option Addr) (cd ct:Value),K.lookup f=some ⟨oc,od, .func (fnOf n q (L2.defArgs st) (L2.defBody st) (L2.defScope st) .none kV dc pm an cd ct),sl⟩∧codeIn K cd q=true∧keepIn K (.ref f)=true
theorem FnAt.fn {K:Frag} {f:Addr} {n q:Str} {st:Stmt} (h:FnAt K f n q st):∃fd,L2.Fun K n q st f fd:=by
 obtain ⟨_,_,_,_,_,_,_,_,_,l,c,k⟩:=h.ex
 exact ⟨_,L2.fun_mk l c k⟩
structure FnG (K:Frag) (f:Addr) (q:Str) (st:Stmt):Prop where
 a:nsIn K mainGlobals q=some (some (.ref f))
 l:FnAt K f q q st
structure FnM (K:Frag) (C f:Addr) (m q:Str) (st:Stmt):Prop where
 a:findIn K (.ref C) m=some (some (.ref f))
 i:isFn K (.ref f)=true
 l:FnAt K f m q st
def xR (K:Frag):L2.Sp:=fun vs H Q _=>∃(a:Addr) (ns:List Int),vs= [.ref a]∧L2.SqL K H a (ns.map L2.V.int)∧ns.length≤63∧∀H',Q (.bl true) H'
section
open HR (ob)
local macro_rules | `(tactic| trivial) => `(tactic| first | k_is | exact ⟨⟨_, _, _, _, _, _, _, _, _, by k_is, by k_is, by k_is⟩⟩ | (constructor <;> trivial) | k_exc | rfl)
theorem kf0:PySem.Challenge.rw_flowhall_k27_ways_apart=PySem.Challenge.rw_flowhall_k27_ways_apart∧ob=ob:=by
 k_fill
 exact ⟨rfl,rfl⟩
set_option genSizeOf false in
set_option genInjectivity false in
structure Q0 (K:Frag) (Ca Cb Cc Cd Ce Cf Cg Ch Ci:Addr) where
 (m_FlowError:nsIn K mainGlobals "FlowError" =some (some (.ref Ca)))
 (m_BadQuestion:nsIn K mainGlobals "BadQuestion" =some (some (.ref Cb)))
 (m_Tie:nsIn K mainGlobals "Tie" =some (some (.ref Cc)))
 (m_Net:nsIn K mainGlobals "Net" =some (some (.ref Cd)))
 (m_Rest:nsIn K mainGlobals "Rest" =some (some (.ref Ce)))
 (m_Apart:nsIn K mainGlobals "Apart" =some (some (.ref Cf)))
 (m_Question:nsIn K mainGlobals "Question" =some (some (.ref Cg)))
 (m_TiesApart:nsIn K mainGlobals "TiesApart" =some (some (.ref Ch)))
 (m_PlacesApart:nsIn K mainGlobals "PlacesApart" =some (some (.ref Ci)))
 (xsp:specialIn K (.builtin "object.__class__") "__get__" =some (some (.builtin "getset_descriptor.__get__")))
 (xtk:takesIn K (.builtin "object.__class__")=some true)
 (pg_CTie:plainGet K Cc Str.empty=true)
 (hd_CTie:hasDictIn K Cc=true)
 (po_CTie:plainOver K Cc=true)
 (sa_CTie:findIn K (.ref Cc) "__setattr__" =some (some (.builtin "object.__setattr__")))
 (pg_CNet:plainGet K Cd Str.empty=true)
 (hd_CNet:hasDictIn K Cd=true)
 (po_CNet:plainOver K Cd=true)
 (sa_CNet:findIn K (.ref Cd) "__setattr__" =some (some (.builtin "object.__setattr__")))
 (pg_CRest:plainGet K Ce Str.empty=true)
 (hd_CRest:hasDictIn K Ce=true)
 (po_CRest:plainOver K Ce=true)
 (sa_CRest:findIn K (.ref Ce) "__setattr__" =some (some (.builtin "object.__setattr__")))
 (pg_CApart:plainGet K Cf Str.empty=true)
 (hd_CApart:hasDictIn K Cf=true)
 (po_CApart:plainOver K Cf=true)
 (sa_CApart:findIn K (.ref Cf) "__setattr__" =some (some (.builtin "object.__setattr__")))
 (pg_CQuestion:plainGet K Cg Str.empty=true)
 (hd_CQuestion:hasDictIn K Cg=true)
 (po_CQuestion:plainOver K Cg=true)
 (sa_CQuestion:findIn K (.ref Cg) "__setattr__" =some (some (.builtin "object.__setattr__")))
 (pg_CTiesApart:plainGet K Ch Str.empty=true)
 (hd_CTiesApart:hasDictIn K Ch=true)
 (po_CTiesApart:plainOver K Ch=true)
 (sa_CTiesApart:findIn K (.ref Ch) "__setattr__" =some (some (.builtin "object.__setattr__")))
 (pg_CPlacesApart:plainGet K Ci Str.empty=true)
 (hd_CPlacesApart:hasDictIn K Ci=true)
 (po_CPlacesApart:plainOver K Ci=true)
 (sa_CPlacesApart:findIn K (.ref Ci) "__setattr__" =some (some (.builtin "object.__setattr__")))
 (z_all:nsIn K mainGlobals "all" =some none)
set_option maxHeartbeats 0 in
noncomputable def q0 (P:Params):Q0 (ob P) 31 173 239 350 436 457 478 516 538:=by
 have _:=kf0
 apply Q0.mk<;> trivial
set_option genSizeOf false in
set_option genInjectivity false in
structure Q1 (K:Frag) (Ca Cb Cc Cd Ce Cf Cg Ch Ci:Addr) where
 (t_g_LETTERS:Tok)
 (t_g_MOST_LETTERS:Tok)
 (t_g_MOST:Tok)
 (t_g_MOST_PLACES:Tok)
 (t_g_MOST_TIES:Tok)
 (z_bool:nsIn K mainGlobals "bool" =some none)
 (z_dict:nsIn K mainGlobals "dict" =some none)
 (z_enumerate:nsIn K mainGlobals "enumerate" =some none)
 (z_int:nsIn K mainGlobals "int" =some none)
 (z_isinstance:nsIn K mainGlobals "isinstance" =some none)
 (z_len:nsIn K mainGlobals "len" =some none)
 (z_list:nsIn K mainGlobals "list" =some none)
 (z_min:nsIn K mainGlobals "min" =some none)
 (z_range:nsIn K mainGlobals "range" =some none)
 (z_set:nsIn K mainGlobals "set" =some none)
 (z_sorted:nsIn K mainGlobals "sorted" =some none)
 (z_str:nsIn K mainGlobals "str" =some none)
 (z_zip:nsIn K mainGlobals "zip" =some none)
 (g_LETTERS:nsIn K mainGlobals "LETTERS" =some (some (.str "abcdefghijklmnopqrstuvwxyz" t_g_LETTERS)))
 (g_MOST_LETTERS:nsIn K mainGlobals "MOST_LETTERS" =some (some (.int 12 t_g_MOST_LETTERS)))
 (g_MOST:nsIn K mainGlobals "MOST" =some (some (.int 1000000000000000000000000000000000000000000000000000000000000 t_g_MOST)))
 (g_MOST_PLACES:nsIn K mainGlobals "MOST_PLACES" =some (some (.int 14 t_g_MOST_PLACES)))
 (g_MOST_TIES:nsIn K mainGlobals "MOST_TIES" =some (some (.int 40 t_g_MOST_TIES)))
 (n_head_Tie:findIn K (.ref Cc) "head" =some none)
 (n_heads_Rest:findIn K (.ref Ce) "heads" =some none)
 (n_last_given_Net:findIn K (.ref Cd) "last_given" =some none)
 (n_least_Tie:findIn K (.ref Cc) "least" =some none)
 (n_many_Rest:findIn K (.ref Ce) "many" =some none)
 (n_most_Tie:findIn K (.ref Cc) "most" =some none)
 (n_names_Net:findIn K (.ref Cd) "names" =some none)
 (n_names_PlacesApart:findIn K (.ref Ci) "names" =some none)
 (n_names_TiesApart:findIn K (.ref Ch) "names" =some none)
 (n_number_Tie:findIn K (.ref Cc) "number" =some none)
 (n_price_Tie:findIn K (.ref Cc) "price" =some none)
 (n_rooms_Rest:findIn K (.ref Ce) "rooms" =some none)
 (n_rows_Net:findIn K (.ref Cd) "rows" =some none)
 (n_rows_PlacesApart:findIn K (.ref Ci) "rows" =some none)
 (n_rows_TiesApart:findIn K (.ref Ch) "rows" =some none)
 (n_source_PlacesApart:findIn K (.ref Ci) "source" =some none)
 (n_source_TiesApart:findIn K (.ref Ch) "source" =some none)
 (n_starts_Rest:findIn K (.ref Ce) "starts" =some none)
 (n_tail_Tie:findIn K (.ref Cc) "tail" =some none)
 (n_target_PlacesApart:findIn K (.ref Ci) "target" =some none)
 (n_target_TiesApart:findIn K (.ref Ch) "target" =some none)
 (n_wall_Apart:findIn K (.ref Cf) "wall" =some none)
set_option maxHeartbeats 0 in
noncomputable def q1 (P:Params):Q1 (ob P) 31 173 239 350 436 457 478 516 538:=by
 apply Q1.mk<;> trivial
set_option genSizeOf false in
set_option genInjectivity false in
structure Q2 (K:Frag) (Ca Cb Cc Cd Ce Cf Cg Ch Ci:Addr) where
 (n_ways_Apart:findIn K (.ref Cf) "ways" =some none)
 (in_Apart1:findIn K (.ref Cf) "__class__" =some (some (.builtin "object.__class__")))
 (in_Apart2:specialIn K (.builtin "object.__class__") "__get__" =some (some (.builtin "getset_descriptor.__get__")))
 (in_Apart3:takesIn K (.builtin "object.__class__")=some true)
 (in_Apart4:mroIn K Cf (.type "object")=some true)
 (in_TiesApart1:findIn K (.ref Ch) "__class__" =some (some (.builtin "object.__class__")))
 (in_TiesApart2:specialIn K (.builtin "object.__class__") "__get__" =some (some (.builtin "getset_descriptor.__get__")))
 (in_TiesApart3:takesIn K (.builtin "object.__class__")=some true)
 (in_TiesApart4:mroIn K Ch (.type "object")=some true)
 (in_PlacesApart1:findIn K (.ref Ci) "__class__" =some (some (.builtin "object.__class__")))
 (in_PlacesApart2:specialIn K (.builtin "object.__class__") "__get__" =some (some (.builtin "getset_descriptor.__get__")))
 (in_PlacesApart3:takesIn K (.builtin "object.__class__")=some true)
 (in_PlacesApart4:mroIn K Ci (.type "object")=some true)
 (in_Question1:findIn K (.ref Cg) "__class__" =some (some (.builtin "object.__class__")))
 (in_Question2:specialIn K (.builtin "object.__class__") "__get__" =some (some (.builtin "getset_descriptor.__get__")))
 (in_Question3:takesIn K (.builtin "object.__class__")=some true)
 (in_Question4:mroIn K Cg (.type "object")=some true)
 (xty_Question:typeIn K (.ref Cg)=some (.type "type"))
 (xme_Question:subIn K (.ref Cg) (.ref Cg)=some true)
 (so_TiesApart_Question:subIn K (.ref Ch) (.ref Cg)=some true)
 (so_PlacesApart_Question:subIn K (.ref Ci) (.ref Cg)=some true)
 (xhd_FlowError:hasDictIn K Ca=true)
 (xty_FlowError:typeIn K (.ref Ca)=some (.type "type"))
 (xme_FlowError:subIn K (.ref Ca) (.ref Ca)=some true)
 (xb_FlowError:subIn K (.ref Ca) (.type "BaseException")=some true)
 (xhd_BadQuestion:hasDictIn K Cb=true)
 (xty_BadQuestion:typeIn K (.ref Cb)=some (.type "type"))
 (xme_BadQuestion:subIn K (.ref Cb) (.ref Cb)=some true)
 (xb_BadQuestion:subIn K (.ref Cb) (.type "BaseException")=some true)
 (xga_BadQuestion:findIn K (.ref Cb) "__getattribute__" =some (some (.builtin "BaseException.__getattribute__")))
 (xgg_BadQuestion:findIn K (.ref Cb) "__getattr__" =some none)
 (xca_BadQuestion:findIn K (.ref Cb) "__class__" =some (some (.builtin "object.__class__")))
 (xob_BadQuestion:mroIn K Cb (.type "object")=some true)
 (s_BadQuestion_FlowError:subIn K (.ref Cb) (.ref Ca)=some true)
 (s_BadQuestion_BadQuestion:subIn K (.ref Cb) (.ref Cb)=some true)
 (xn_BadQuestion_why:findIn K (.ref Cb) "why" =some none)
set_option maxHeartbeats 0 in
noncomputable def q2 (P:Params):Q2 (ob P) 31 173 239 350 436 457 478 516 538:=by
 apply Q2.mk<;> trivial
set_option genSizeOf false in
set_option genInjectivity false in
structure Q3 (K:Frag) (Ca Cb Cc Cd Ce Cf Cg Ch Ci:Addr) where
 (f1:Addr) (od1 an1:Option Addr) (sl1:Array (Option Value)) (oc1 kV1 dc1 pm1 cd1 ct1:Value)
 (nmx1 qx1:Str) (Nx1:Addr) (bsx1 subx1:List Value) (snx1:List Str) (abx1:Bool) (colx1:Option Bool) (ddx1:Option Addr) (m0x1 m1x1 m2x1 m3x1 m5x1:Option Value)
 (f2:Addr)
 (f3:Addr)
 (f4:Addr)
 (f5:Addr)
 (f6:Addr)
 (f7:Addr)
 (f8:Addr)
 (f9:Addr)
 (f10:Addr)
 (f11:Addr)
 (f12:Addr)
 (a1:findIn K (.ref Cb) "__init__" =some (some (.ref f1)))
 (i1:typeIn K (.ref f1)=some (.type "function"))
 (l1:K.lookup f1=some ⟨oc1,od1, .func (fnOf "__init__" "BadQuestion.__init__" (defArgs aQ) (defBody aQ) (defScope aQ) .none kV1 dc1 pm1 an1 cd1 ct1),sl1⟩)
 (c1:codeIn K cd1 "BadQuestion.__init__" =true)
 (k1:keepIn K (.ref f1)=true)
 (xL1:K.lookup Cb=some (excClassObj nmx1 qx1 Cb Nx1 bsx1 [.ref Ca, .type "ValueError", .type "Exception", .type "BaseException", .type "object"] true snx1 subx1 abx1 colx1 ddx1 m0x1 m1x1 m2x1 m3x1 m5x1 "ValueError.__new__"))
 (xsa1:findIn K (.ref Cb) "__setattr__" =some (some (.builtin "object.__setattr__")))
 (xno1:findIn K (.ref Cb) "why" =some none)
 (xkC1:keepIn K (.ref Cb)=true)
 (l2:FnG K f2 "is_whole" jO)
 (l3:FnG K f3 "is_among" jP)
 (l4:FnG K f4 "are_signs" iD)
 (l5:FnG K f5 "is_name" lW)
 (l6:FnG K f6 "need_ends" iB)
 (l7:FnG K f7 "need_room" iA)
 (l8:FnG K f8 "need_price" gc)
 (a9:findIn K (.ref Cc) "__init__" =some (some (.ref f9)))
 (i9:isFn K (.ref f9)=true)
 (l9:FnAt K f9 "__init__" "Tie.__init__" jQ)
 (mk9:makesIn K Cc=true)
 (kc9:keepIn K (.ref Cc)=true)
 (a10:findIn K (.ref Cd) "__init__" =some (some (.ref f10)))
 (i10:isFn K (.ref f10)=true)
 (l10:FnAt K f10 "__init__" "Net.__init__" jS)
 (mk10:makesIn K Cd=true)
 (kc10:keepIn K (.ref Cd)=true)
 (l11:FnM K Cd f11 "places" "Net.places" gi)
 (l12:FnM K Cd f12 "ties" "Net.ties" jR)
set_option maxHeartbeats 0 in
noncomputable def q3 (P:Params):Q3 (ob P) 31 173 239 350 436 457 478 516 538:=by
 apply Q3.mk<;> trivial
set_option genSizeOf false in
set_option genInjectivity false in
structure Q4 (K:Frag) (Ca Cb Cc Cd Ce Cf Cg Ch Ci:Addr) where
 (f13:Addr)
 (f14:Addr)
 (f15:Addr) (od15 an15:Option Addr) (sl15:Array (Option Value)) (oc15 kV15 dc15 pm15 cd15 ct15:Value)
 (T15:Addr) (ocT15:Value) (odT15:Option Addr) (nT15:Nat) (slT15:Array (Option Value)) (tk15_0 tk15_2:Tok)
 (f16:Addr)
 (f17:Addr)
 (f18:Addr)
 (f19:Addr)
 (f20:Addr)
 (f21:Addr) (od21 an21:Option Addr) (sl21:Array (Option Value)) (oc21 kV21 dc21 pm21 cd21 ct21:Value)
 (T21:Addr) (ocT21:Value) (odT21:Option Addr) (nT21:Nat) (slT21:Array (Option Value)) (tk21_0:Tok)
 (f22:Addr)
 (f23:Addr)
 (f24:Addr)
 (l13:FnM K Cd f13 "put_place" "Net.put_place" dW)
 (l14:FnM K Cd f14 "need_place" "Net.need_place" dw)
 (a15:findIn K (.ref Cd) "put_tie" =some (some (.ref f15)))
 (i15:isFn K (.ref f15)=true)
 (l15:K.lookup f15=some ⟨oc15,od15, .func (fnOf "put_tie" "Net.put_tie" (defArgs aY) (defBody aY) (defScope aY) (.ref T15) kV15 dc15 pm15 an15 cd15 ct15),sl15⟩)
 (t15:K.lookup T15=some ⟨ocT15,odT15, .seq [.int 0 tk15_0, .none, .int 0 tk15_2].toArray nT15,slT15⟩)
 (c15:codeIn K cd15 "Net.put_tie" =true)
 (k15:keepIn K (.ref f15)=true)
 (l16:FnM K Cd f16 "put_numbered" "Net.put_numbered" cK)
 (l17:FnM K Cd f17 "tie_of" "Net.tie_of" gh)
 (l18:FnM K Cd f18 "drop_tie" "Net.drop_tie" eI)
 (l19:FnM K Cd f19 "copied" "Net.copied" gj)
 (a20:findIn K (.ref Ce) "__init__" =some (some (.ref f20)))
 (i20:isFn K (.ref f20)=true)
 (l20:FnAt K f20 "__init__" "Rest.__init__" iG)
 (mk20:makesIn K Ce=true)
 (kc20:keepIn K (.ref Ce)=true)
 (a21:findIn K (.ref Ce) "put_arc" =some (some (.ref f21)))
 (i21:isFn K (.ref f21)=true)
 (l21:K.lookup f21=some ⟨oc21,od21, .func (fnOf "put_arc" "Rest.put_arc" (defArgs aR) (defBody aR) (defScope aR) (.ref T21) kV21 dc21 pm21 an21 cd21 ct21),sl21⟩)
 (t21:K.lookup T21=some ⟨ocT21,odT21, .seq [.int 0 tk21_0].toArray nT21,slT21⟩)
 (c21:codeIn K cd21 "Rest.put_arc" =true)
 (k21:keepIn K (.ref f21)=true)
 (l22:FnM K Ce f22 "back_of" "Rest.back_of" eH)
 (l23:FnM K Ce f23 "lets" "Rest.lets" iF)
 (l24:FnM K Ce f24 "walked" "Rest.walked" eZ)
set_option maxHeartbeats 0 in
noncomputable def q4 (P:Params):Q4 (ob P) 31 173 239 350 436 457 478 516 538:=by
 apply Q4.mk<;> trivial
set_option genSizeOf false in
set_option genInjectivity false in
structure Q5 (K:Frag) (Ca Cb Cc Cd Ce Cf Cg Ch Ci:Addr) where
 (f25:Addr)
 (f26:Addr)
 (f27:Addr)
 (f28:Addr)
 (f29:Addr)
 (f30:Addr)
 (f31:Addr)
 (f32:Addr)
 (f33:Addr)
 (f34:Addr)
 (f35:Addr)
 (f36:Addr)
 (l25:FnM K Ce f25 "way_to" "Rest.way_to" eY)
 (l26:FnM K Ce f26 "change" "Rest.change" fg)
 (l27:FnM K Ce f27 "lift" "Rest.lift" iE)
 (l28:FnM K Ce f28 "reached" "Rest.reached" eG)
 (a29:findIn K (.ref Cf) "__init__" =some (some (.ref f29)))
 (i29:isFn K (.ref f29)=true)
 (l29:FnAt K f29 "__init__" "Apart.__init__" gm)
 (mk29:makesIn K Cf=true)
 (kc29:keepIn K (.ref Cf)=true)
 (l30:FnG K f30 "shortened" iz)
 (l31:FnG K f31 "ways_in" lV)
 (a32:findIn K (.ref Ch) "__init__" =some (some (.ref f32)))
 (i32:isFn K (.ref f32)=true)
 (l32:FnAt K f32 "__init__" "TiesApart.__init__" du)
 (mk32:makesIn K Ch=true)
 (kc32:keepIn K (.ref Ch)=true)
 (l33:FnM K Ch f33 "answer" "TiesApart.answer" cI)
 (a34:findIn K (.ref Ci) "__init__" =some (some (.ref f34)))
 (i34:isFn K (.ref f34)=true)
 (l34:FnAt K f34 "__init__" "PlacesApart.__init__" cJ)
 (mk34:makesIn K Ci=true)
 (kc34:keepIn K (.ref Ci)=true)
 (l35:FnM K Ci f35 "answer" "PlacesApart.answer" bW)
 (l36:FnG K f36 "_law_number" lX)
set_option maxHeartbeats 0 in
noncomputable def q5 (P:Params):Q5 (ob P) 31 173 239 350 436 457 478 516 538:=by
 apply Q5.mk<;> trivial
set_option genSizeOf false in
set_option genInjectivity false in
structure Q6 (K:Frag) (Ca Cb Cc Cd Ce Cf Cg Ch Ci:Addr) where
 (f37:Addr)
 (f38:Addr)
 (f39:Addr)
 (f40:Addr)
 (f41:Addr)
 (f42:Addr)
 (f43:Addr)
 (f44:Addr)
 (f45:Addr)
 (f46:Addr)
 (f47:Addr)
 (f48:Addr)
 (l37:FnG K f37 "_law_names" oH)
 (l38:FnG K f38 "_law_great" oJ)
 (l39:FnG K f39 "_law_room" tj)
 (l40:FnG K f40 "_law_row" yf)
 (l41:FnG K f41 "_law_come_to" jT)
 (l42:FnG K f42 "_law_way_right" gk)
 (l43:FnG K f43 "_law_ties_right" fj)
 (l44:FnG K f44 "_law_places_right" dY)
 (l45:FnG K f45 "_law_right" oG)
 (l46:FnG K f46 "_law_told" tf)
 (l47:FnG K f47 "_law_put_question" dX)
 (l48:FnG K f48 "_law_asked" oK)
set_option maxHeartbeats 0 in
noncomputable def q6 (P:Params):Q6 (ob P) 31 173 239 350 436 457 478 516 538:=by
 apply Q6.mk<;> trivial
set_option genSizeOf false in
set_option genInjectivity false in
structure Q7 (K:Frag) (Ca Cb Cc Cd Ce Cf Cg Ch Ci:Addr) where
 (f49:Addr)
 (f50:Addr) (od50 an50:Option Addr) (sl50:Array (Option Value)) (oc50 kV50 dc50 pm50 cd50 ct50:Value)
 (l49:FnG K f49 "_law_changed" jU)
 (a50:nsIn K mainGlobals "law" =some (some (.ref f50)))
 (l50:K.lookup f50=some ⟨oc50,od50, .func (fnOf "law" "law" (defArgs ja) (defBody ja) (defScope ja) .none kV50 dc50 pm50 an50 cd50 ct50),sl50⟩)
 (c50:codeIn K cd50 "law" =true)
 (k50:keepIn K (.ref f50)=true)
set_option maxHeartbeats 0 in
noncomputable def q7 (P:Params):Q7 (ob P) 31 173 239 350 436 457 478 516 538:=by
 apply Q7.mk<;> trivial
end
section
open PySem.W
noncomputable abbrev hdRow:OpenRow:=PySem.Challenge.rw_flowhall_k27_ways_apart.row
def hdPos (s:Stmt):Pos:=match s with
 | .FunctionDef _ _ _ _ _ _ _ _ _ p=>p
 | _=>⟨0,0,0,0⟩
noncomputable def hdDef:DefRec:=⟨"law",L2.defArgs ja,L2.defBody ja,L2.defScope ja,hdPos ja⟩
theorem hdOe:∀P,HR.oa=(HR.ob P).map (·.1):=fun _=>by kernel_rfl
noncomputable abbrev rJ:Hook:=kHook HR.ob HR.oa hdOe
theorem hdT1:defOf HR.vw hdRow.name=some (hdDef,[]):=by kernel_rfl
theorem hdT2:hdRow.prog.theDef hdRow.name=some (hdDef.params,hdDef.body,hdDef.scope):=by kernel_rfl
theorem hdT3:chainsOk HR.vw=true:=by decide+kernel
theorem hdT4:opensWell hdRow.prog=true:=by decide+kernel
theorem hdT5:(frees hdRow.toRowW&&hdRow.within.isEmpty)=true:=by decide+kernel
theorem hdT6:hdRow.prog.bare:=⟨rfl,rfl,rfl,rfl,rfl,by decide+kernel⟩
set_option maxHeartbeats 0 in
theorem hdT7:(PySem.Challenge.rw_flowhall_k27_ways_apart).row.toRowW.promised:=by w_on; w_witness2
theorem hdT8a:opening hdRow.prog=plainProg hdRow.prog.main.scope.names:=by kernel_rfl
theorem hdT8b:∀s,fenceModules? hdRow.prog s=some s:=fun s=>by kernel_rfl
set_option maxHeartbeats 0 in
theorem hdT8:LeftO hdRow.prog HR.vw HR.lo (fun s=>xlAt HR.vw HR.lv s&&recOk (RowW.records hdRow.toRowW) s) (Hook.obs rJ) (Hook.val rJ) 12296:=by
 refine HeadRun.left_oneK (M:=11596) hdT8a (by rfl) hdT8b (by rfl) ?_
 intro w os
 apply HR.mapT3
 ·exact Eq.trans (by kernel_rfl) (HR.b0 w os)
 ·exact Eq.trans (by kernel_rfl) (Eq.trans (HR.seen_all w os) (by kernel_rfl))
 ·exact Eq.trans (by kernel_rfl) (Eq.trans (HR.b10 w os) (by kernel_rfl))
theorem hdT9:hdDef.params.defaults= []:=by kernel_rfl
set_option maxHeartbeats 0 in
theorem fin (F:WalkO HR.vw HR.lo (XL HR.vw HR.lv) (Hook.says rJ) hdRow.toRowW hdDef [] fun f vs=>PySem.call f vs):PySem.Challenge.rw_flowhall_k27_ways_apart.Holds:=by
 w_on; o_law
 exact holds_open hdT8 (Hook.of rJ) (Hook.keeps rJ) (fun s e=>xl_of s (Bool.and_eq_true_iff.mp e).1) XL.keeps hdT1 hdT2 (by rfl) (fun s e=>recFacts_of (Bool.and_eq_true_iff.mp e).2) (by rfl) (by assumption) (by rw [hdT3,hdT4,hdT5]; rfl) hdT6 hdT7 F
end
end T

namespace M
open PySem PySem.Spec PyProof.Rows L2

section
variable {P:Program} {w:World} {K:PySem.W.Frag} {mg:Str→Option Value} {base:Heap}
structure Df (K:PySem.W.Frag) (mg:Str→Option Value) (x:Str) (st:Stmt) (ps:List Str):Prop where
 ex:∃(f:Addr) (fd:FuncData),L2.Fun K x x st f fd∧mg x=some (.ref f)∧L2.Binds K fd ps []
structure Cal (P:Program) (w:World) (K:PySem.W.Frag) (mg:Str→Option Value) (base:Heap) (k:Nat) (x:Str) (sp:Sp):Prop where
 ex:∃(f:Addr) (fd:FuncData) (ps:List Str),FnOk P w K mg base L2.CX0 k f fd ps sp∧mg x=some (.ref f)∧PySem.W.keepIn K (.ref f)=true∧Binds K fd ps []
end
section
variable {X:Cx} {x:Str} {pos:Pos} {e:Expr}
theorem qQ {v:V} (hg:Gl X x) (h:∃u,X.mg x=some u∧RelV v u) (hd:(x == ("__debug__" :Str))=false:=by decide):PE X (.Name x pos) (tC v):=by
 obtain ⟨u,e,r⟩:=h
 exact pe_glob hg e r hd
end

section
variable {X:Cx}
def qt (i j:Int):Prop:=0≤j∧(Builtin.Int.intBits i:Int)*j≤2 ^ 27
theorem ma:OpR X (binaryOp .Pow) (rI qt fun i j=> .int (i ^ j.toNat)):=opI fun _ _ _ _ _ _ _ hc q=>pow_int hc.1 hc.2 q
end
def NewL (xs:List V) (H:Hp) (Q:VK):Prop:=xs.length≤sizeLine∧∀p,H p=none→Q (.ref p) (upd H p (.lst xs))
def NewT (xs:List V) (H:Hp) (Q:VK):Prop:=xs.length≤sizeLine∧∀p,H p=none→Q (.ref p) (upd H p (.tup xs))
section
variable {K:PySem.W.Frag} {σ:L2.St} {H H' :Hp} {Q:VK} {te:TE} {v x:V} {t:TS} {i:Nat}
inductive Kd (K:PySem.W.Frag) (H:Hp):V→String→Prop where
 | non:Kd K H .non "NoneType"
 | bl (b:Bool):Kd K H (.bl b) "bool"
 | int (i:Int):Kd K H (.int i) "int"
 | str (x:Str):Kd K H (.str x) "str"
 | lst {a:Addr} {xs:List V} (e:H a=some (.lst xs)):Kd K H (.ref a) "list"
 | tup {a:Addr} {xs:List V} (e:H a=some (.tup xs)):Kd K H (.ref a) "tuple"
 | dK {a:Addr} {xs:List (Key×V)} (e:H a=some (.dK xs)):Kd K H (.ref a) "dict"
theorem Kd.mono {x:V} {k:String} (s:Same H H') (h:Kd K H x k):Kd K H' x k:=by
 cases h with
 | non=>exact .non
 | bl b=>exact .bl b
 | int i=>exact .int i
 | str x=>exact .str x
 | lst e=>exact .lst (s _ _ e)
 | tup e=>exact .tup (s _ _ e)
 | dK e=>exact .dK (s _ _ e)
theorem Kd.ty {x:V} {k:String} (h:Kd K H x k):TyX K H x (.type k):=by
 cases h with
 | non=>exact .base .non
 | bl b=>exact .base (.bl b)
 | int i=>exact .base (.int i)
 | str x=>exact .base (.str x)
 | lst e=>exact .base (.lst e)
 | tup e=>exact .base (.tup e)
 | dK e=>exact .base (.dK e)
theorem bU {i j:Int} (h1: -1000000000000000000000000000000000000000000000000000000000000000000000000000000000000≤i) (h2:i≤1000000000000000000000000000000000000000000000000000000000000000000000000000000000000) (h3: -1000000000000000000000000000000000000000000000000000000000000000000000000000000000000≤j) (h4:j≤1000000000000000000000000000000000000000000000000000000000000000000000000000000000000):CMulX i j:=
 mulx_ok (a:=300) (b:=300) (Nat.lt_of_le_of_lt (m:=1000000000000000000000000000000000000000000000000000000000000000000000000000000000000) (by omega) (by decide+kernel)) (Nat.lt_of_le_of_lt (m:=1000000000000000000000000000000000000000000000000000000000000000000000000000000000000) (by omega) (by decide+kernel)) (by decide)
theorem aF {i j:Int} (h1:0<j) (h2:j≤1000000000000000000000000000000000000000000000000000000000000000000000000000000000000):CDivW i j:=
 wide_div (b:=300) h1 (Nat.lt_of_le_of_lt (m:=1000000000000000000000000000000000000000000000000000000000000000000000000000000000000) (by omega) (by decide+kernel)) (by decide) (by decide)
def tCutE (te:TE):TE:=fun σ H Q=>∃P:VK,te σ H P∧∀v H',P v H'→Q v H'
def tCutT (t:TT):TT:=fun σ H Q=>∃P:Bool→Hp→Prop,t σ H P∧∀b H',P b H'→Q b H'
end
def LcJ (J:It) (H1:Hp) (g:TG) (tt:TT) (te:TE) (vs:List Nat) (σ:L2.St) (Qd:Addr→Hp→Prop):Prop:=∀D,H1 D=none→∃W:Nat→Nat→Hp→Prop,(∃m,W 0 m (upd H1 D (.lst [])))∧∀i m H,W i m H→
 (J.stop i H∧Qd D H)∨(J.go i H∧∃Nx:Hp→Prop,(∀H',Nx H'→∃m',m' <m∧W (i+1) m' H')∧∀x H',J.yld i H x H'→g x (wipe σ vs) H' fun σ2 H2=>wipe σ2 vs=wipe σ vs∧tt σ2 H2 fun b H3=>
  if b=true then te σ2 H3 fun y H4=>∃acc,H4 D=some (.lst acc)∧acc.length<sizeLine∧Nx (upd H4 D (.lst (acc++ [y]))) else Nx H3)
def ForJ (J:It) (σ:L2.St) (H1:Hp) (g:TG) (tb:TS) (D:Ends):Prop:=∃W:Nat→Nat→L2.St→Hp→Prop,(∃m,W 0 m σ H1)∧∀i m σ H,W i m σ H→
 (J.stop i H∧D.nx σ H)∨(J.go i H∧∃N:L2.St→Hp→Prop,(∀σ' H',N σ' H'→∃m',m' <m∧W (i+1) m' σ' H')∧∀x H',J.yld i H x H'→g x σ H' fun σ2 H2=>tb {D with nx:=N,ct:=N,bk:=D.nx} σ2 H2)
section
variable {H H' :Hp} {D:Ends} {u:TS} {n:Nat}
def SameBut (D:Addr) (H H' :Hp):Prop:=∀b o,b≠D→H b=some o→H' b=some o
theorem SameBut.upd {D:Addr} {H:Hp} {o:HO}:SameBut D H (upd H D o):=fun b u n e=>by
 rw [upd_ne n]
 exact e
theorem SameBut.trans {D:Addr} {H1 H2 H3:Hp} (a:SameBut D H1 H2) (b:SameBut D H2 H3):SameBut D H1 H3:=fun c o n e=>b c o n (a c o n e)
theorem Paired.snoc {α β:Type} {F:α→β→Prop} {l:List α} {ys:List β} {d:α} {y:β} (p:Paired F l ys) (f:F d y):Paired F (l++ [d]) (ys++ [y]):=by
 induction p with
 | nil=>exact .cons f .nil
 | cons r _ ih=>exact .cons r ih
end
def tx (K:PySem.W.Frag):List V→Hp→VK→Prop:=fun xs H Q=>∃p ys,xs= [.ref p]∧(SqL K H p ys∨SqT K H p ys)∧Q (.int ys.length) H
def yo:List V→Hp→VK→Prop:=fun xs H Q=>∃z:Str,xs= [.str z]∧z.length≤sizeLine∧Q (.int z.length) H
def rLenD:List V→Hp→VK→Prop:=fun xs H Q=>∃a,∃kvs:List (Key×V),xs= [V.ref a]∧H a=some (.dK kvs)∧Q (.int kvs.length) H
def rAbs:List V→Hp→VK→Prop:=fun xs H Q=>∃i:Int,xs= [.int i]∧Q (.int (if i<0 then -i else i)) H
def rMax2:List V→Hp→VK→Prop:=fun xs H Q=>∃i j:Int,xs= [.int i, .int j]∧Q (.int (if j > i then j else i)) H
def rMin2:List V→Hp→VK→Prop:=fun xs H Q=>∃i j:Int,xs= [.int i, .int j]∧Q (.int (if j<i then j else i)) H
def rInt1:List V→Hp→VK→Prop:=fun xs H Q=>(∃i,xs= [.int i]∧Q (.int i) H)∨∃k:Bool,xs= [.bl k]∧Q (.int (if k then 1 else 0)) H
def rStr1:List V→Hp→VK→Prop:=fun xs H Q=>∃i:Int,xs= [.int i]∧i.natAbs.log2<1920∧Q (.str (toString i)) H
def rIntS:List V→Hp→VK→Prop:=fun xs H Q=>∃a n,xs= [.str a]∧PySem.intText? a=some n∧a.length≤640∧Q (.int n) H
def ym (K:PySem.W.Frag):List V→Hp→VK→Prop:=fun xs H Q=>∃p ys,xs= [.ref p]∧(SqL K H p ys∨SqT K H p ys)∧∀l,H l=none→Q (.ref l) (upd H l (.lst ys))
def rDictD:List V→Hp→VK→Prop:=fun xs H Q=>∃(a:Addr) (kvs:List (Key×V)),xs= [.ref a]∧Rd H a (.dK kvs)∧∀p,H p=none→Q (.ref p) (upd H p (.dK kvs))
def yn:List V→Hp→VK→Prop:=fun xs H Q=>∃(a:Addr) (kvs:List (Key×V)),xs= [.ref a]∧Rd H a (.dK kvs)∧∀p,H p=none→Q (.ref p) (upd H p (.lst (kvs.map fun kv=>kV kv.1)))
def qM:List V→Hp→VK→Prop:=fun xs H Q=>∃(a:Addr) (kvs:List (Key×V)) (ks:List Int),xs= [.ref a]∧Rd H a (.dK kvs)∧kvs.map (·.1)=ks.map Sum.inl∧ks.length<64∧∀(ys:List Int) (p:Addr),ys.Perm ks→ys.Pairwise (· ≤ ·)→H p=none→Q (.ref p) (upd H p (.lst (ys.map V.int)))
def yp (neg:Bool):R2:=fun x y H Q=>∃i j:Str,x= .str i∧y= .str j∧Q (.bl (if neg then !(!(Builtin.Str.occurrences j i 0 j.length 1).isEmpty) else !(Builtin.Str.occurrences j i 0 j.length 1).isEmpty)) H
def rInSg (neg:Bool):R2:=fun x y H Q=>∃(c:Nat) (z:Str),x= .str ⟨#[c]⟩∧y= .str z∧Q (.bl (if neg then !decide (c∈z.cps.toList) else decide (c∈z.cps.toList))) H
def rIsN:R2:=fun x y H Q=>y= .non∧Q (.bl (decide (x= .non))) H
def rNotN:R2:=fun x y H Q=>y= .non∧Q (.bl (!decide (x= .non))) H
def rAddS:R2:=fun x y H Q=>∃i j:Str,x= .str i∧y= .str j∧i.length+j.length≤sizeLine∧Q (.str (i++j)) H
def rStarts:V→List V→Hp→VK→Prop:=fun x xs H Q=>∃a b,x= .str a∧xs= [.str b]∧Q (.bl (Txt.startswith a b)) H
section
variable {X:Cx}
theorem wM:CallR X (.builtin "len") (tx X.K):=call_len_seq
theorem wL:CallR X (.builtin "len") yo:=call_len_str
theorem wJ:CallR X (.type "list") (ym X.K):=call_list_of
theorem BG:CallR X (.type "dict") rDictD:=call_dictD
theorem BD (hc:X.calm=true):CallR X (.type "list") yn:=call_listD hc
theorem uI (hc:X.calm=true):CallR X (.builtin "sorted") qM:=call_sortedDI hc
theorem A9:OpR X (compareOp .In) (yp false):=op_in_str
theorem tE:OpR X (compareOp .NotIn) (yp true):=op_notin_str
theorem yF:OpR X (compareOp .In) (rInSg false):=op_in_sign
theorem qU:OpR X (compareOp .NotIn) (rInSg true):=op_notIn_sign
theorem o_isN:OpR X (compareOp .Is) rIsN:=op_isN
theorem o_notN:OpR X (compareOp .IsNot) rNotN:=op_notN
theorem yG:OpR X (binaryOp .Add) rAddS:=op_add_str
end
section
variable {x:V} {xs:List V} {i j:Int}

theorem qj {α β:Type} (f:α→β) (xs:List α) (i:Int):atI (xs.map f) i=(atI xs i).map f:=by
 unfold atI
 rw [List.length_map]
 cases ixN xs.length i with
 | none=>rfl
 | some j=>
  show (xs.map f)[j]? =(xs[j]?).map f
  rw [List.getElem?_map]
theorem atI_in {α:Type} {xs:List α} {i:Int} (d:α) (h0:0≤i) (h1:i<xs.length):atI xs i=some (xs.getD i.toNat d):=by
 unfold atI ixN
 rw [if_pos h0,if_pos h1]
 show xs[i.toNat]? =_
 have h2:i.toNat<xs.length:=by omega
 rw [List.getElem?_eq_getElem h2,List.getD_eq_getElem?_getD,List.getElem?_eq_getElem h2]
 rfl
theorem pick {α:Type} (xs:List α) (f:α→V) (i:Int) (h0:0≤i) (h1:i<xs.length):∃x,x∈xs∧atI (xs.map f) i=some (f x):=by
 have h2:i.toNat<xs.length:=by omega
 refine ⟨xs[i.toNat],List.getElem_mem h2, ?_⟩
 rw [qj]
 unfold atI ixN
 rw [if_pos h0,if_pos h1]
 show (xs[i.toNat]?).map f=_
 rw [List.getElem?_eq_getElem h2]
 rfl
end
def vo (K:PySem.W.Frag) (neg:Bool):R2:=fun x y H Q=>∃p q xs,x= .ref p∧y= .ref q∧SqL K H p xs∧SqL K H q []∧Q (.bl (if neg then !xs.isEmpty else xs.isEmpty)) H
section
variable {X:Cx}
theorem A8 (hu:X.A.units+64<cLine):OpR X (compareOp .Eq) (vo X.K false):=by
 intro pins s σ H x y v u Q I rx ry h
 obtain ⟨p,q,xs,rfl,rfl,h1,h2,k⟩:=h
 cases rx
 cases ry
 obtain ⟨its,r1,l1,_⟩:=I.list h1
 obtain ⟨its2,r2,l2,_⟩:=I.list h2
 cases r2
 have hu2:X.A.units<cLine:=by omega
 cases r1 with
 | nil=>exact SeqAt.RcAt.lists (e:=fun _=>true) l1.isList l2.isList rfl hu2 (fun j h _=>absurd h (by simp)) X.prog X.w X.xe _ ⟨.bl _,H,I,rfl,k⟩
 | cons a b=>exact SeqAt.RcAt.lists_lengths l1.isList l2.isList (by simp) hu2 X.prog X.w X.xe _ ⟨.bl _,H,I,rfl,k⟩
theorem A6 (hu:X.A.units+64<cLine):OpR X (compareOp .NotEq) (vo X.K true):=by
 intro pins s σ H x y v u Q I rx ry h
 obtain ⟨p,q,xs,rfl,rfl,h1,h2,k⟩:=h
 cases rx
 cases ry
 obtain ⟨its,r1,l1,_⟩:=I.list h1
 obtain ⟨its2,r2,l2,_⟩:=I.list h2
 cases r2
 have hu2:X.A.units<cLine:=by omega
 cases r1 with
 | nil=>exact SeqAt.RcNeAt.lists (e:=fun _=>true) l1.isList l2.isList rfl hu2 (fun j h _=>absurd h (by simp)) X.prog X.w X.xe _ ⟨.bl _,H,I,rfl,k⟩
 | cons a b=>exact SeqAt.RcNeAt.lists_lengths l1.isList l2.isList (by simp) hu2 X.prog X.w X.xe _ ⟨.bl _,H,I,rfl,k⟩
end
def rRepS:R2:=fun x y H Q=>∃(z:Str) (i:Int),x= .str z∧y= .int i∧0≤i∧i≤1∧z.length≤1000∧Q (.str (if i=0 then Str.empty else z)) H
def rSidx:V→List V→Hp→VK→Prop:=fun x xs H Q=>∃(a b:Str) (k:Nat),x= .str a∧xs= [.str b]∧Txt.index0 a b=some k∧Q (.int k) H
section

end
end M

namespace RT
open PySem PySem.Spec PyProof.Rows L2
section

end
end RT
namespace M
open PySem PySem.Spec PyProof.Rows L2
def tJoinRev (K:PySem.W.Frag) (to te:TE):TE:=fun σ H Q=>to σ H fun x H1=>(∃a,x= .str a)∧te σ H1 fun y H2=>∃(a:Str) (p:Addr) (ys:List Str),x= .str a∧y= .ref p∧SqL K H2 p (ys.map V.str)∧(ys.map (·.length)).sum+ys.length*a.length≤16777216∧Q (.str (Txt.join a ys.reverse)) H2
section

end
def rNeStrs (K:PySem.W.Frag):R2:=fun x y H Q=>∃p q,∃ws:List Str,x= .ref p∧y= .ref q∧SqL K H p (ws.map V.str)∧SqL K H q (ws.map V.str)∧Q (.bl false) H
section
variable {K:PySem.W.Frag} {mg:Str→Option Value}
structure Dm (K:PySem.W.Frag) (C:Addr) (m qual:Str) (st:Stmt) (ps:List Str):Prop where
 ex:∃(f:Addr) (fd:FuncData),L2.Fun K m qual st f fd∧Cls K C∧Meth K C m f∧L2.Binds K fd ps []
structure Dmd (K:PySem.W.Frag) (C:Addr) (m qual:Str) (st:Stmt) (ps:List Str) (dvs:List V):Prop where
 ex:∃(f:Addr) (fd:FuncData),L2.FunD K m qual (defArgs st) (defBody st) (defScope st) dvs [] f fd∧Cls K C∧Meth K C m f∧∀j,j≤dvs.length→∃ds,Vals (dvs.drop j) ds∧L2.Binds K fd ps ds
structure Dk (K:PySem.W.Frag) (mg:Str→Option Value) (x:Str) (C:Addr) (qual:Str) (st:Stmt) (ps:List Str):Prop where
 ex:∃(f:Addr) (fd:FuncData),L2.Fun K "__init__" qual st f fd∧Mk K C f∧mg x=some (.ref C)∧L2.Binds K fd ps []
end
section

end
section
variable {X:Cx} {pos:Pos}
theorem kN {K:PySem.W.Frag} (hK:X.K=K:=by rfl):CallR X (.builtin "isinstance") (rIsi K):=hK ▸ call_isi
theorem m_lenS {K:PySem.W.Frag} (hK:X.K=K:=by rfl):CallR X (.builtin "len") (tx K):=hK ▸ wM
theorem m_ixL {K:PySem.W.Frag} (hK:X.K=K:=by rfl):IxR X (rIxL K):=hK ▸ ix_list
theorem m_ixT {K:PySem.W.Frag} (hK:X.K=K:=by rfl):IxR X (rIxT K):=hK ▸ ix_tup
theorem m_slL {K:PySem.W.Frag} (hK:X.K=K:=by rfl):SlR X (rSlL K):=hK ▸ sl_list
theorem m_inS {K:PySem.W.Frag} (hK:X.K=K:=by rfl):OpR X (compareOp .In) (rIn K false):=hK ▸ op_in_seq
theorem Bg {K:PySem.W.Frag} (hK:X.K=K:=by rfl):OpR X (compareOp .NotIn) (rIn K true):=hK ▸ op_notIn_seq
theorem m_neD {K:PySem.W.Frag} (hu:X.A.units+64<cLine) (hK:X.K=K:=by rfl):OpR X (compareOp .NotEq) (rNeD K):=hK ▸ op_neD hu
theorem m_eqD {K:PySem.W.Frag} (hu:X.A.units+64<cLine) (hK:X.K=K:=by rfl):OpR X (compareOp .Eq) (rEqD K):=hK ▸ op_eqD hu
theorem gx {K:PySem.W.Frag} {n:Nat} {es:List Expr} {k:Nat} {t:TGs} (hc:X.calm=true) (h:PGs X es t) (hn:(assignEach es X.env).length=n:=by rfl) (hst:(assignEach es X.env).findIdx? (·.1)=none:=by rfl) (hK:X.K=K:=by rfl):PG X (.Tuple es k pos) (gTup K n t):=hK ▸ pg_tup hc h hn hst
end
section

end
def rNeDE:R2:=fun x y H Q=>∃a b,∃ks:List (Key×V),x= .ref a∧y= .ref b∧H a=some (.dK ks)∧H b=some (.dK [])∧Q (.bl (!ks.isEmpty)) H
section
variable {X:Cx}
theorem m_catA {K:PySem.W.Frag} (hK:X.K=K:=by rfl):OpR X (binaryOp .Add) (rCatA K):=hK ▸ op_catA
end
theorem t_catA {K:PySem.W.Frag} {H:Hp} {Q:VK} {a b:Addr} {xs ys:List V} (h1:SqT K H a xs) (h2:SqT K H b ys) (hx:xs≠ []) (hy:ys≠ []) (hl:xs.length+ys.length≤sizeLine) (q:∀p,H p=none→Q (.ref p) (upd H p (.tup (xs++ys)))):rCatA K (.ref a) (.ref b) H Q:=
 ⟨a,b,xs,ys,rfl,rfl,h1,h2,hl,fun e=>absurd e hx,fun _ e=>absurd e hy,fun _ _ p hp=>q p hp⟩
end M

namespace A
open PySem PySem.Spec PyProof.Rows L2 NumText
open TL (tl)
theorem fU (z:Str):z.length=(tl z).length:=TL.len_tl z
theorem ng (x y:Str):tl (x++y)=tl x++tl y:=TL.tl_append x y
theorem tN (x y:Str):(x++y).length=x.length+y.length:=by rw [fU,ng,List.length_append,fU,fU]
theorem xI (z:Str) (lo hi:Option Int):tl (cutS z lo hi)=((tl z).drop (HT.sIx z.length 0 lo)).take (HT.sIx z.length z.length hi - HT.sIx z.length 0 lo):=rfl
theorem oL (n d:Nat) (i:Int) (h:0≤i):HT.sIx n d (some i)=min i.toNat n:=by
 show (if i<0 then _ else min i.toNat n)=_
 rw [if_neg (by omega)]
theorem tl_from (z:Str) (i:Int) (h:0≤i):tl (cutS z (some i) none)=(tl z).drop i.toNat:=by
 rw [xI,oL _ _ _ h,HT.sIx_none,fU]
 by_cases c:i.toNat≤(tl z).length
 ·rw [Nat.min_eq_left c,List.take_of_length_le (by rw [List.length_drop]; omega)]
 ·rw [Nat.min_eq_right (by omega),List.drop_of_length_le (by omega),List.drop_of_length_le (by omega),List.take_nil]
theorem tl_to (z:Str) (i:Int) (h:0≤i):tl (cutS z none (some i))=(tl z).take i.toNat:=by
 rw [xI,oL _ _ _ h,HT.sIx_none,fU]
 show ((tl z).drop 0).take (min i.toNat (tl z).length - 0)=_
 rw [List.drop_zero,Nat.sub_zero]
 by_cases c:i.toNat≤(tl z).length
 ·rw [Nat.min_eq_left c]
 ·rw [Nat.min_eq_right (by omega),List.take_of_length_le (by omega),List.take_of_length_le (by omega)]
theorem sub1 (x y:Str) (c:Nat) (hy:tl y= [c]):Txt.startswith x y=decide ((tl x).head? =some c):=by
 have hp:=TL.at_iff (x:=x) (y:=y) (by rw [hy]; simp) 0
 have e:Txt.startswith x y=true↔TL.pre (tl y) ((tl x).drop 0)=true:=by
  rw [←hp]
  unfold Txt.startswith
  simp only [Bool.and_eq_true,decide_eq_true_eq]
  exact Iff.rfl
 rw [hy,List.drop_zero] at e
 have e2:TL.pre [c] (tl x)=true↔(tl x).head? =some c:=by
  unfold TL.pre
  cases tl x with
  | nil=>simp
  | cons a r=>simp
 rw [Bool.eq_iff_iff,e,e2]
 simp
def isDig (c:Nat):Bool:=decide (48≤c)&&decide (c≤57)
def figs (l:List Nat):List Nat:=if l.head? =some 45 then l.drop 1 else l
def val (l:List Nat):Int:=(digitsVal l:Nat)
def good (l:List Nat):Bool:=decide (1≤(figs l).length)&&decide ((figs l).length≤61)&&(figs l).all isDig
def numRd (l:List Nat):Option Int:=
 if good l=true then
  if (figs l).head? =some 48∧l≠ [48] then none
  else some (if l.head? =some 45 then 0 - val (figs l) else val (figs l))
 else none
def numV:V→V
 | .str z=>(numRd (tl z)).elim .non .int
 | _=> .non
theorem rG:∀ls:List (List Nat),TL.joinL [] ls=ls.flatten
 | []=>rfl
 | [x]=>by
  show x= [x].flatten
  simp
 | x::y::r=>by
  show x++([]++TL.joinL [] (y::r))=_
  rw [rG (y::r),List.nil_append]
  simp only [List.flatten_cons]
theorem uX (ws:List Str):tl (Txt.join "" ws)=(ws.map tl).flatten:=by
 rw [TL.join_eq,TL.tl_join,show tl "" = [] by decide+kernel,rG]
theorem yU (ws:List Str):(Txt.join "" ws).length=(ws.map (·.length)).sum:=by
 rw [fU,uX,List.length_flatten,List.map_map]
 exact congrArg List.sum (List.map_congr_left fun x _=>(fU x).symm)
end A

namespace M
open PySem PySem.Spec PyProof.Rows L2
def kxO (cls:Value) (d:Option Addr) (a:Addr):HO:= .ext fun h=>∃(ob:Obj) (vs:Array Value),h.get? a=some ob∧Zc cls d ob∧ob.data= .fields vs
structure Away (X:Cx) (pins:List (Addr×Obj)) (a:Addr):Prop where
 old:X.s_0.heap.get? a=none
 loc:X.env.locals≠a
 cell:∀x c,X.env.cells.lookup x=some c→c≠a
 pin:∀p∈X.pn++pins,p.1≠a
section
variable {X:Cx} {pins:List (Addr×Obj)} {σ:L2.St} {H:Hp} {s:Shared} {a:Addr} {cls:Value} {d:Option Addr}
theorem Away.track {ob:Obj} {vs:Array Value} (w:Away X pins a) (I:Inv X pins σ H s) (e:s.heap.get? a=some ob) (z:Zc cls d ob) (hd:ob.data= .fields vs) (n:H a=none):Inv X pins σ (upd H a (kxO cls d a)) s:=by
 have old:∀{b o},X.s_0.heap.get? b=some o→upd H a (kxO cls d a) b=H b:=fun {b o} q=>upd_ne fun c=>by rw [c,w.old] at q; cases q
 have had:∀{b o},H b=some o→upd H a (kxO cls d a) b=some o:=fun {b o} q=>(upd_ne fun c=>by rw [c,n] at q; cases q).trans q
 refine {I with base:=?base,free:=?free,freeC:=?cells,pin:=?pin,hok:=?hok}
 case base=>exact {I.base with
  free:=fun b o q h hx=>(old q).trans (I.base.free b o q h hx)
  tups:=fun b xs q=>had (I.base.tups b xs q)
  frzs:=fun b o u q=>had (I.base.frzs b o u q)
  tbls:=fun b ps q=>(I.base.tbls b ps q).imp fun _ r=>had r}
 case free=>exact (upd_ne w.loc).trans I.free
 case cells=>exact fun x c q=>(upd_ne (w.cell x c q)).trans (I.freeC x c q)
 case pin=>exact fun p q=>⟨(I.pin p q).1,(upd_ne (w.pin p q)).trans (I.pin p q).2.1,(I.pin p q).2.2⟩
 case hok=>
  intro b o q
  by_cases c:b=a
  ·subst c
   rw [upd_same] at q
   cases q
   exact ⟨⟨ob,vs,e,z,hd⟩,⟨ob,e⟩,fun _ _ ⟨o,v,r,r'⟩ k=>⟨o,v,k o r,r'⟩⟩
  ·rw [upd_ne c] at q
   exact (I.hok b o q).stay (fun _ _ _ r=>r) (fun _ r=>had r) fun _ _ r=>had r
end
def wK (K:PySem.W.Frag) (c:Value) (i:Nat) (ts:TS) (Wout:WX) (D:Ends):WX:=fun cls d σ H=>
 ∃b,PySem.W.exmOne K cls c=some b∧
  (b=true→∀a,H a=none→ts {rt:=D.rt,nx:=fun σ' =>D.nx (σ'.set i none),bk:=fun σ' =>D.bk (σ'.set i none),ct:=fun σ' =>D.ct (σ'.set i none)} (σ.set i (some (.ref a))) (upd H a (kxO cls d a)))∧
  (b=false→Wout cls d σ H)
structure Ground (X:Cx) (pins:List (Addr×Obj)) (B:Heap) (σ:L2.St) (H:Hp) (a:Addr) (cls:Value) (d:Option Addr) (s:Shared):Prop where
 inv:Inv X pins σ H s
 fly:HandSPX.FlyingZ B (X.env::X.outer) a (Zc cls d) s.heap
 no:H a=none
 way:Away X pins a
 stays:∀h2,HandSPX.FlyingZ B (X.env::X.outer) a (Zc cls d) h2→s.heap.UpToSlots h2→Inv X pins σ H {s with heap:=h2}
section
variable {X:Cx} {pins:List (Addr×Obj)} {σ:L2.St} {H:Hp} {s:Shared} {a:Addr} {cls c:Value} {d:Option Addr} {x n:Str} {i:Nat} {body suite:List Stmt} {b₀:Stmt} {np pos pos' :Pos} {tb:WX→TS} {ts:TS} {Wout:WX}
theorem Inv.inSuite (I:Inv X pins σ H s) (a:Addr):Inv (X.suite a (X.pn++pins)) [] σ H s:=
 {ok:=I.ok.suite a _,os:=I.os,bare:=I.bare,base:=I.base,loc:=I.loc,cell:=I.cell,free:=I.free,freeC:=I.freeC,hok:=I.hok,len:=I.len,pin:=fun p q=>I.pin p (by rw [List.append_nil] at q; exact q)}
theorem Inv.offSuite {a:Addr} (I:Inv (X.suite a (X.pn++pins)) [] σ H s) (ok:X.Ok):Inv X pins σ H s:=
 {ok:=ok,os:=I.os,bare:=I.bare,base:=I.base,loc:=I.loc,cell:=I.cell,free:=I.free,freeC:=I.freeC,hok:=I.hok,len:=I.len,pin:=fun p q=>I.pin p (List.mem_append_left _ q)}
theorem wq {f:Flow} {D:Ends} (ok:X.Ok) (hN:X.N.Nodup) (hi:X.N[i]? =some n) (hl:X.env.kindOf n=some .local)
  (h:SP (X.suite a (X.pn++pins)) [] {rt:=D.rt,nx:=fun σ' =>D.nx (σ'.set i none),bk:=fun σ' =>D.bk (σ'.set i none),ct:=fun σ' =>D.ct (σ'.set i none)} f s):
  wpAny (model X.prog X.w) X.A (do bindName X.env n .none; unbindBehindTheSuite X.env n pos') (fun _ s' =>SP X pins D f s') X.xe s:=by
 have go:∀{σ1:L2.St} {H1:Hp} {Q:Shared→Prop},Inv (X.suite a (X.pn++pins)) [] σ1 H1 s→(∀s',Inv X pins (σ1.set i none) H1 s'→Q s')→wpAny (model X.prog X.w) X.A (do bindName X.env n .none; unbindBehindTheSuite X.env n pos') (fun _ s' =>Q s') X.xe s:=
  fun J q=>gone_ok (Inv.offSuite J ok) hN hi hl q
 cases f with
 | ret u=>obtain ⟨v,σ1,H1,J,r,q⟩:=h; exact go J fun s' J' =>⟨v,_,_,J',r,q⟩
 | next=>obtain ⟨σ1,H1,J,q⟩:=h; exact go J fun s' J' =>⟨_,_,J',q⟩
 | brk=>obtain ⟨σ1,H1,J,q⟩:=h; exact go J fun s' J' =>⟨_,_,J',q⟩
 | cont=>obtain ⟨σ1,H1,J,q⟩:=h; exact go J fun s' J' =>⟨_,_,J',q⟩
theorem Ground.obj {B:Heap} (g:Ground X pins B σ H a cls d s):∃(ob:Obj) (vs:Array Value),s.heap.get? a=some ob∧Zc cls d ob∧ob.data= .fields vs:=by
 obtain ⟨ob,vs,e,z,h⟩:=g.fly.there
 exact ⟨ob,vs,e,z,h⟩
theorem zZ {B:Heap} {D:Ends} (ok:X.Ok) (hs:X.stack=X.env::X.outer) (hf:X.env.frame=some X.env.locals) (hN:X.N.Nodup) (hi:X.N[i]? =some n) (hl:X.env.kindOf n=some .local) (hc:Names X x c)
  (hsu:PSs (X.suite a (X.pn++pins)) (b₀::suite) ts) (g:Ground X pins B σ H a cls d s) (hw:wK X.K c i ts Wout D cls d σ H)
  (out:Wout cls d σ H→∀h2,HandSPX.HeldZ B (X.env::X.outer) a (Zc cls d) X.env.locals h2→s.heap.UpToSlots h2→X.xe (.ref a) {s with heap:=h2}):
  wpAny (model X.prog X.w) X.A (handleBy (.ref a) X.env [.ExceptHandler (some (.Name x np)) (some n) (b₀::suite) pos']) (SP X pins D) X.xe s:=by
 obtain ⟨b,hm,yes,no⟩:=hw
 obtain ⟨ob,vs,e,z,hd⟩:=g.obj
 have ty:PySem.W.Looks (model X.prog X.w) s.heap (typeOf (.ref a)) cls:=fun _ _ _ _ k q=>wpAny_typeOf_ref (k _ _ e) (by rw [z.1]; exact q)
 have matches' :=PySem.W.exm_one (M:=model X.prog X.w) g.inv.kIn ty hm
 have name:∀{Q:Value→Shared→Prop} {E:Value→Shared→Prop},Q c s→wpAny (model X.prog X.w) (X.A.mark (some (.ref a))) (eval (.Name x np) X.env) Q E s:=fun {Q E} q=>by
  have J:=Inv.inSuite g.inv a
  obtain ⟨gl,db,m | ⟨m,bt,nn⟩⟩:=hc
  ·exact ld_glob (X:=X.suite a (X.pn++pins)) J gl m q db
  ·exact ld_blt (X:=X.suite a (X.pn++pins)) J gl m bt q nn db
 refine wpAny_handleBy_cons (codeAny_handlers_test (name (matches'.here ?_))) (by intro q; cases q)
 cases b with
 | false=>
  show wpAny _ X.A (handleBy (.ref a) X.env []) _ _ _
  refine wpAny_handleBy_nil ?_
  obtain ⟨_,_,_,ob',vs',T,oT,ts',e',_,hd',h1,_⟩:=id g.fly
  unfold PySem.passOn
  refine wpAny_bind (wpAny_field e' hd' h1 ?_)
  rw [if_neg (show¬((Value.ref T == Value.none)=true) from by simp)]
  have up:wpAny (model X.prog X.w) X.A (setFlight (.ref a) X.env.frame) (fun _ s4=>wpAny (model X.prog X.w) X.A (throw (.ref a):Sem Flow) (SP X pins D) X.xe s4) X.xe s:=by
   rw [hf]
   exact HandSPX.setFlight_upZ g.fly fun h4 held grew=>wpAny_throw (out (no rfl) h4 held grew)
  first
   | exact wpAny_bind (wpAny_pure (wpAny_bind up))
   | exact wpAny_bind up
 | true=>
  refine codeAny_handlers_suite_as (HandSPX.lands_againZ g.fly fun h4 fly4 grew=>?_)
  have J:=g.stays h4 fly4 grew
  obtain ⟨ob4,vs4,e4,z4,hd4⟩:=fly4.there
  have J2:=Inv.inSuite (g.way.track J e4 z4 hd4 g.no) a
  refine store_ok (X:=X.suite a (X.pn++pins)) (v:= .ref a) J2 hN hi (.inl hl) rfl (fun s5 J5=>?_) (.inr hl)
  exact wpAny_mono (hsu.run [] s5 _ _ _ J5 (yes rfl a g.no)) (fun f s6 sp=>wq ok hN hi hl sp) fun _ _ z=>False.elim z
theorem tA (hs:X.stack=X.env::X.outer) (hf:X.env.frame=some X.env.locals) (hN:X.N.Nodup) (hi:X.N[i]? =some n) (hl:X.env.kindOf n=some .local) (hc:Names X x c) (tk:Takes X Wout) (hx:X.ex= [])
  (hb:∀(W:WX) (pn:List (Addr×Obj)) (xe:Value→Shared→Prop),Takes (X.tr pn xe) W→PassesOwn (model X.prog X.w) X.A X.env xe→PSs (X.tr pn xe) body (tb W))
  (hsu:∀(a:Addr) (pn:List (Addr×Obj)),PSs (X.suite a pn) (b₀::suite) ts):
  PS X (.Try body [.ExceptHandler (some (.Name x np)) (some n) (b₀::suite) pos'] [] [] pos) (fun D σ H=>tb (wK X.K c i ts Wout D) D σ H):=by
 refine ⟨fun pins s σ H D I h=>wpAny_Try_except ?_⟩
 have ok:=I.ok
 have fr:X.A.frames=some (X.env::X.outer):=by rw [←hs]; exact ok.frames
 let caught:Value→Shared→Prop:=fun e s1=>wpAny (model X.prog X.w) X.A (noteFrame e X.env) (fun _ s2=>wpAny (model X.prog X.w) X.A (setFlight e none) (fun _ s3=>
  wpAny (model X.prog X.w) X.A (handleBy e X.env [.ExceptHandler (some (.Name x np)) (some n) (b₀::suite) pos']) (SP X pins D) X.xe s3) X.xe s2) X.xe s1
 have tkB:Takes (X.tr (X.pn++pins) caught) (wK X.K c i ts Wout D):=by
  rintro u s' ⟨a,B,sI,pins',σ',H',cls,d,rfl,J',nb,up,sky,na,os,ag,hw⟩
  have J:Inv X pins σ' H' sI:=J'.ofTry ok
  have sky' :Sky B (X.env::X.outer) a (Zc cls d) X.env.locals s'.heap:=by rw [←hs]; exact sky
  show wpAny (model X.prog X.w) X.A (noteFrame (.ref a) X.env) _ _ _
  refine Sky.land Zc.steady fr hf sky' fun h3 fly3 up3=>?_
  have stay:∀h4,HandSPX.FlyingZ B (X.env::X.outer) a (Zc cls d) h4→h3.UpToSlots h4→Inv X pins σ' H' {s' with heap:=h4}:=fun h4 f4 u4=>J.landed nb f4.1 ((up.trans up3).trans u4) os ag
  have J3:Inv X pins σ' H' {s' with heap:=h3}:=stay h3 fly3 (Heap.UpToSlots.refl _)
  obtain ⟨ob,vs,e,z,hd⟩:=fly3.there
  have noFrame:a∉frs (X.env::X.outer):=fun q=>by
   obtain ⟨_,o,e',r⟩:=fly3.2.2.1.mem q
   rw [e] at e'
   cases e'
   exact r _ hd
  have gone:sI.heap.get? a=none:=by
   cases q:sI.heap.get? a with
   | none=>rfl
   | some o=>
    have r:=nb a o q (by show a∉frs X.stack; rw [hs]; exact noFrame)
    rw [fly3.2.1] at r
    cases r
  have way:Away X pins a:=by
   refine ⟨?_,fun q=>noFrame (List.mem_filterMap.mpr ⟨X.env,List.mem_cons_self,by rw [hf,q]⟩),fun y c' q r=>?_,fun p q r=>?_⟩
   ·cases q:X.s_0.heap.get? a with
    | none=>rfl
    | some o=>
     obtain ⟨o',r⟩:=J.base.there a o q (by rw [hx]; exact fun z=>nomatch z)
     rw [gone] at r
     cases r
   ·subst r
    obtain ⟨v,o,r,_⟩:=J.cell y _ q
    rw [gone] at r
    cases r
   ·have r' :=(J.pin p q).1
    rw [r,gone] at r'
    cases r'
  exact zZ ok hs hf hN hi hl hc (hsu a (X.pn++pins)) ⟨J3,fly3,na,way,stay⟩ hw fun w h4 held u4=>
   tk _ _ ⟨a,B,sI,pins,σ',H',cls,d,rfl,J,nb,(up.trans up3).trans u4, .inr (.inr (by rw [hs]; exact held)),na,os,ag,w⟩
 refine wpAny_mono ((hb _ _ caught tkB PassesOwn.looking).run [] s σ H D (I.toTry _) h) (fun f s1 sp=>?_) fun _ _ q=>q
 cases f with
 | ret u=>obtain ⟨v,σ1,H1,J,r,q⟩:=sp; exact ⟨v,σ1,H1,J.ofTry ok,r,q⟩
 | next=>obtain ⟨σ1,H1,J,q⟩:=sp; exact wpAny_execs_nil ⟨σ1,H1,J.ofTry ok,q⟩
 | brk=>obtain ⟨σ1,H1,J,q⟩:=sp; exact ⟨σ1,H1,J.ofTry ok,q⟩
 | cont=>obtain ⟨σ1,H1,J,q⟩:=sp; exact ⟨σ1,H1,J.ofTry ok,q⟩
end
def XDict (H:Hp) (d:Option Addr):Prop:=d=none∨∃da fs,d=some da∧H da=some (.xd fs)
def rIsX (K:PySem.W.Frag):List V→Hp→VK→Prop:=fun xs H Q=>∃(a D:Addr) (d:Option Addr) (c:V) (cv:Value) (b:Bool),xs= [.ref a,c]∧H a=some (kxO (.ref D) d a)∧XDict H d∧L2.ExcC K D∧(∀u,RelV c u→u=cv)∧PySem.W.kitOne K (.ref D) cv=some b∧Q (.bl b) H
section
variable {X:Cx} {pins:List (Addr×Obj)} {σ:L2.St} {H:Hp} {s:Shared} {a C:Addr} {d:Option Addr}
theorem kx_obj {cls:Value} (I:Inv X pins σ H s) (h:H a=some (kxO cls d a)):∃(ob:Obj) (vs:Array Value),s.heap.get? a=some ob∧Zc cls d ob∧ob.data= .fields vs:=by
 have z:ObjOk X.prog X.w H s.heap a (.ext fun h=>∃(ob:Obj) (vs:Array Value),h.get? a=some ob∧Zc cls d ob∧ob.data= .fields vs):=I.hok a _ h
 exact z.1
theorem kx_inst (I:Inv X pins σ H s) (h:H a=some (kxO (.ref C) d a)) (hd:XDict H d):∃(ob:Obj) (od:Option Obj),PySem.W.InstAt s.heap a ob C od:=by
 obtain ⟨ob,vs,e,⟨z1,z2⟩,hf⟩:=kx_obj I h
 have no:PySem.W.notCls ob=true:=by unfold PySem.W.notCls; rw [hf]
 rcases hd with rfl | ⟨da,fs,rfl,hx⟩
 ·exact ⟨ob,none,e,z1,no,by rw [z2]; exact True.intro⟩
 ·obtain ⟨m,hns,_⟩:=(show ObjOk X.prog X.w H s.heap da (.xd fs) from I.hok da _ hx)
  obtain ⟨od,ho,_⟩:=lookIn_ns hns
  exact ⟨ob,some od,e,z1,no,by rw [z2]; exact ho⟩
theorem BI:CallR X (.builtin "isinstance") (rIsX X.K):=by
 intro pins s σ H xs us Q I r h
 obtain ⟨a,D,d,c,cv,b,rfl,ha,hd,T,hc,e,q⟩:=h
 match us,r with
 | [_,w], .cons rfl (.cons rw' .nil)=>
  obtain rfl:=hc _ rw'
  obtain ⟨ob,od,J⟩:=kx_inst I ha hd
  exact PySem.W.kia_one (PySem.W.kitx_exc (by have:=T.hd; unfold PySem.W.hasDictIn at this; cases q:PySem.W.clsIn X.K D with | none=>rw [q] at this; cases this | some _=>rfl) T.hg T.hk T.hs T.ha T.hn T.ht T.hm) I.kIn J e (fun z=>nomatch z) fun tk=>⟨.bl b,H,I.kept (t' :=tk) fun _ _ z=>z,rfl,q⟩
theorem m_isX {K:PySem.W.Frag} (hK:X.K=K:=by rfl):CallR X (.builtin "isinstance") (rIsX K):=hK ▸ BI
def tXk (K:PySem.W.Frag) (f:Str) (te:TE):TE:=fun σ H Q=>te σ H fun x H1=>∃(a C da:Addr) (fs:List (Str×V)) (v:V),x= .ref a∧H1 a=some (kxO (.ref C) (some da) a)∧L2.XfC K C∧PySem.W.findIn K (.ref C) f=some none∧H1 da=some (.xd fs)∧fs.lookup f=some v∧Q v H1
theorem pe_xk {e:Expr} {te:TE} {f:Str} {pos:Pos} {K:PySem.W.Frag} (he:PE X e te) (hK:X.K=K:=by rfl) (hb:attributeBase e f X.env (eval e X.env)=eval e X.env:=by rfl):PE X (.Attribute e f pos) (tXk K f te):=by
 subst hK
 refine ⟨fun pins s σ H Q I h=>attr_of hb (thn (he.run pins s σ H _ I h) fun u s1 hh=>?_)⟩
 obtain ⟨x,H1,J,rx,a,C,da,fs,v,rfl,ha,T,no,hx,l,q⟩:=hh
 obtain rfl:u=Value.ref a:=rx
 obtain ⟨ob,vs,e1,⟨z1,z2⟩,hf⟩:=kx_obj J ha
 obtain ⟨m,hns,rel⟩:=(show ObjOk X.prog X.w H1 s1.heap da (.xd fs) from J.hok da _ hx)
 obtain ⟨od,ho,hl⟩:=lookIn_ns hns
 obtain ⟨w,hw,rw'⟩:=RelO.some_of (v:=v) (o:=m f) (by rw [←l]; exact rel f)
 have inst:PySem.W.InstAt s1.heap a ob C (some od):=⟨e1,z1,by unfold PySem.W.notCls; rw [hf],by rw [z2]; exact ho⟩
 exact HandSPX.exc_get J.kIn inst T.ga T.gg T.exC (PySem.W.findObj_own T.hdC no rfl (by rw [hl,hw])) (handed_of rw') ⟨v,H1,J.tok _,rw',q⟩
end
def spXI (K:PySem.W.Frag) (f:Str):Sp:=fun vs H Q _=>∃(a C:Addr) (v:V),vs= [.ref a,v]∧H a=some (exo a C none)∧OexC K C∧PySem.W.findIn K (.ref C) f=some none∧∀dx,H dx=none→dx≠a→Q .non (upd (upd H dx (exd dx [(f,v)])) a (exo a C (some dx)))
section
variable {P:Program} {w:World} {K:PySem.W.Frag} {mg:Str→Option Value} {base:Heap}
theorem xi_ok {qual f1 p1:Str} {st:Stmt} {fI:Addr} {fd:FuncData} {k:Nat} (F:L2.Fun K "__init__" qual st fI fd) (S:FnScope ["self",p1] ["self",p1] (L2.defScope st))
  (hbody:∀(cdv:Value) (A:Around) (outer:List Env) (s:Shared) (H:Hp) (E:XK),Room k (A.deeper (envOfC qual (L2.defScope st) s.heap.objs.size fI cdv))→
   PSs (cxOf (L2.CX P w) P w K mg base ["self",p1] qual (L2.defScope st) fI cdv A outer s H E) (L2.defBody st) (tOst K f1 (tVar 0) (tVar 1))):FnOk P w K mg base (L2.CX P w) (k+1) fI fd ["self",p1] (spXI K f1):=
 F.okX S (fun _ _ _ _ h=>by obtain ⟨_,_,_,rfl,_⟩:=h; rfl) fun cdv A outer s H vs Q E hr h=>by
  obtain ⟨a,C,v,rfl,ha,T,no,q⟩:=h
  exact ⟨_,hbody cdv A outer s H E hr,⟨v,rfl, .ref a,rfl,a,C,rfl,T,no, .inl ⟨ha,fun dx hdx hne=>q dx hdx hne⟩⟩⟩
structure XiZ (P:Program) (w:World) (K:PySem.W.Frag) (mg:Str→Option Value) (base:Heap) (k:Nat) (x:Str) (C:Addr) (f:Str):Prop where
 T:OexC K C
 no:PySem.W.findIn K (.ref C) f=some none
 gC:mg x=some (.ref C)
 ex:∃(fI:Addr) (fd:FuncData) (ps:List Str),PySem.W.findIn K (.ref C) "__init__" =some (some (.ref fI))∧PySem.W.typeIn K (.ref fI)=some (.type "function")∧FnOk P w K mg base (L2.CX P w) k fI fd ps (spXI K f)∧Binds K fd ps []
end
section
variable {X:Cx} {x f:Str} {C:Addr} {e:Expr} {te:TE} {k:Nat} {p pos pos' :Pos} {W:WX}
def xN (K:PySem.W.Frag) (C:Addr) (f:Str) (W:WX) (te:TE):TS:=fun _ σ H=>tMkO C (spXI K f) [] (tCons te tNil) σ H fun cls d H' =>W cls d σ H'
theorem yw {P:Program} {w:World} {K:PySem.W.Frag} {mg:Str→Option Value} {base:Heap} (D:XiZ P w K mg base k x C f) (hc:X.calm=true) (tk:Takes X W) (hr:Room k' X.A) (hk:k+1≤k') (he:PE X e te) (hg:Gl X x)
  (hP:X.prog=P:=by rfl) (hw:X.w=w:=by rfl) (hK:X.K=K:=by rfl) (hm:X.mg=mg:=by rfl) (hb:X.base=base:=by rfl)
  (hdb:(x == ("__debug__" :Str))=false:=by decide) (hst:starEach [e] X.env=(false,eval e X.env)::starEach [] X.env:=by rfl):
  PS X (.Raise (some (.Call (.Name x p) [e] [] pos)) none pos') (xN K C f W te):=by
 subst hP hw hK hm hb
 obtain ⟨fI,fd,ps,iC,tI,F,bd⟩:=D.ex
 refine ps_raise hc tk (pmk_oex D.T iC tI F (hr.mono hk) bd .nil (fun _ _ _ _ _ _ _ z=>?_) hg D.gC (pa_cons he pa_nil (hs:=hst)) hdb hst (by rfl))
 obtain ⟨_,_,_,_,_,_,_,_,_,_,_,_,h⟩:=z
 exact h.elim
end
end M

namespace Z
open PySem PySem.Spec PyProof.Rows L2

inductive D where
 | non | bl (b:Bool) | int (i:Int) | str (s:Str)
 | lst (xs:List D) | con (xs:List D) | tup (xs:List D) | dct (kvs:List (Key×D)) | obj (c:Str) (fs:List (Str×D)) | exc (c:Str) (fs:List (Str×D)) | cell (i:Nat)
inductive Vl where
 | d (x:D) | own (x:D) | loc (k:Nat)
structure Sto where
 nx:Nat
 get:Nat→Option D
structure SD where
 sl:List (Option Vl)
 st:Sto
inductive R (α:Type) where
 | ok (a:α) (s:SD) | ex (c:Str) (fs:List (Str×D)) (s:SD) | bad
def R.bind {α β:Type} (m:R α) (k:α→SD→R β):R β:=match m with
 | .ok a s=>k a s
 | .ex c fs s=> .ex c fs s
 | .bad=> .bad
abbrev XQ:=Str→List (Str×D)→SD→Prop
def Wp {α:Type} (m:R α) (Q:α→SD→Prop) (E:XQ):Prop:=match m with
 | .ok a s=>Q a s
 | .ex c fs s=>E c fs s
 | .bad=>False
theorem ae {α β:Type} {m:R α} {k:α→SD→R β} {Q:β→SD→Prop} {E:XQ}:Wp (m.bind k) Q E=Wp m (fun a s=>Wp (k a s) Q E) E:=by
 cases m<;> rfl
theorem Wp_ok {α:Type} {a:α} {s:SD} {Q:α→SD→Prop} {E:XQ}:Wp (.ok a s) Q E=Q a s:=rfl
theorem Ax {α:Type} {Q:α→SD→Prop} {E:XQ}:Wp (.bad:R α) Q E=False:=rfl
theorem Wp.mono {α:Type} {m:R α} {Q Q' :α→SD→Prop} {E E' :XQ} (h:Wp m Q E) (hq:∀a s,Q a s→Q' a s) (he:∀c fs s,E c fs s→E' c fs s):Wp m Q' E' :=by
 cases m with
 | ok a s=>exact hq _ _ h
 | ex c fs s=>exact he _ _ _ h
 | bad=>exact h

structure Gc where
 K:PySem.W.Frag
 mg:Str→Option Value
structure Wr where
 γ:Nat→Addr
 n:Nat
 O:Addr→Prop
 H:Hp
def Kept (o:HO) (x:Option HO):Prop:=x=some o∨∃kvs od,o= .dK kvs∧x=some (.frz od o)
def RdF (p:Wr) (a:Addr) (u:HO):Prop:=¬p.O a∧Rd p.H a u
def KL (K:PySem.W.Frag) (a:Addr) (xs:List V):Prop:=∃(o:Obj) (its:Array Value) (n:Nat),K.lookup a=some o∧o.cls= .type "list" ∧o.dict=none∧o.data= .seq its n∧its.size≤sizeLine∧Vals xs its.toList
mutual
def Rep (G:Gc) (p:Wr):D→V→Prop
 | .non,v=>v= .non
 | .bl b,v=>v= .bl b
 | .int i,v=>v= .int i
 | .str s,v=>v= .str s
 | .lst ds,v=>∃a vs,v= .ref a∧(¬p.O a∧p.H a=some (.lst vs))∧Reps G p ds vs
 | .con ds,v=>∃a vs,v= .ref a∧(RdF p a (.lst vs)∨KL G.K a vs)∧Reps G p ds vs
 | .tup ds,v=>∃a vs,v= .ref a∧(¬p.O a∧p.H a=some (.tup vs))∧Reps G p ds vs
 | .dct ds,v=>∃a vs,v= .ref a∧RdF p a (.dK vs)∧RepK G p ds vs
 | .obj c ds,v=>∃a C dx vs,v= .ref a∧¬p.O a∧G.mg c=some (.ref C)∧p.H a=some (.ins C dx vs)∧RepF G p ds vs
 | .exc c ds,v=>∃a C d,v= .ref a∧¬p.O a∧G.mg c=some (.ref C)∧p.H a=some (M.kxO (.ref C) d a)∧((ds= []∧d=none)∨∃da fvs,d=some da∧p.H da=some (.xd fvs)∧¬p.O da∧RepF G p ds fvs)
 | .cell i,v=>i<p.n∧v= .ref (p.γ i)
def Reps (G:Gc) (p:Wr):List D→List V→Prop
 | [],vs=>vs= []
 | d::ds,vs=>∃v r,vs=v::r∧Rep G p d v∧Reps G p ds r
def RepK (G:Gc) (p:Wr):List (Key×D)→List (Key×V)→Prop
 | [],vs=>vs= []
 | (k,d)::ds,vs=>∃v r,vs=(k,v)::r∧Rep G p d v∧RepK G p ds r
def RepF (G:Gc) (p:Wr):List (Str×D)→List (Str×V)→Prop
 | [],vs=>vs= []
 | (k,d)::ds,vs=>∃v r,vs=(k,v)::r∧Rep G p d v∧RepF G p ds r
end
structure Wr.le (p q:Wr):Prop where
 γ:∀i,i<p.n→q.γ i=p.γ i
 n:p.n≤q.n
 H:∀b o,¬p.O b→p.H b=some o→Kept o (q.H b)∧¬q.O b
theorem Wr.le.refl (p:Wr):p.le p:=⟨fun _ _=>rfl,Nat.le_refl _,fun _ _ h e=>⟨.inl e,h⟩⟩
theorem Kept.trans {o:HO} {y:Option HO} {x:HO} (a:Kept o (some x)) (b:Kept x y):Kept o y:=by
 rcases a with a | ⟨kvs,od,rfl,a⟩
 ·cases a; exact b
 ·cases a
  rcases b with b | ⟨_,_,b,_⟩
  ·exact .inr ⟨kvs,od,rfl,b⟩
  ·cases b
theorem Wr.le.trans {p q r:Wr} (a:p.le q) (b:q.le r):p.le r:=⟨fun i h=>(b.γ i (Nat.lt_of_lt_of_le h a.n)).trans (a.γ i h),Nat.le_trans a.n b.n,fun c o h e=>by
 obtain ⟨k,h1⟩:=a.H c o h e
 have:∃x,q.H c=some x:=by rcases k with k | ⟨_,_,_,k⟩<;> exact ⟨_,k⟩
 obtain ⟨x,ex⟩:=this
 obtain ⟨k2,h2⟩:=b.H c x h1 ex
 rw [ex] at k
 exact ⟨k.trans k2,h2⟩⟩
theorem Wr.le.x {p q:Wr} (l:p.le q) {a:Addr} {o:HO} (n:¬p.O a) (h:p.H a=some o) (hd:∀kvs,o≠ .dK kvs):¬q.O a∧q.H a=some o:=by
 obtain ⟨k,n'⟩:=l.H _ _ n h
 rcases k with k | ⟨kvs,_,k,_⟩
 ·exact ⟨n',k⟩
 ·exact (hd kvs k).elim
theorem Wr.le.rd {p q:Wr} (l:p.le q) {a:Addr} {u:HO} (h:RdF p a u):RdF q a u:=by
 obtain ⟨n,h | ⟨o,h⟩⟩:=h
 ·obtain ⟨k,n'⟩:=l.H _ _ n h
  rcases k with k | ⟨_,od,_,k⟩
  ·exact ⟨n', .inl k⟩
  ·exact ⟨n', .inr ⟨od,k⟩⟩
 ·obtain ⟨n',k⟩:=l.x n h (fun _ z=>nomatch z)
  exact ⟨n', .inr ⟨o,k⟩⟩
structure Wr.tr (p q:Wr):Prop where
 γ:∀i,i<p.n→q.γ i=p.γ i
 n:p.n≤q.n
 L:∀b vs,¬p.O b→p.H b=some (.lst vs)→¬q.O b∧q.H b=some (.lst vs)
 T:∀b vs,¬p.O b→p.H b=some (.tup vs)→¬q.O b∧q.H b=some (.tup vs)
 I:∀b C dx vs,¬p.O b→p.H b=some (.ins C dx vs)→¬q.O b∧q.H b=some (.ins C dx vs)
 X:∀b c d,¬p.O b→p.H b=some (M.kxO c d b)→¬q.O b∧q.H b=some (M.kxO c d b)
 Y:∀b vs,¬p.O b→p.H b=some (.xd vs)→¬q.O b∧q.H b=some (.xd vs)
 C:∀b vs,RdF p b (.lst vs)→RdF q b (.lst vs)
 K:∀b vs,RdF p b (.dK vs)→RdF q b (.dK vs)
theorem kx_dK {c:Value} {d:Option Addr} {a:Addr} {kvs:List (Key×V)} (z:M.kxO c d a= .dK kvs):False:=by
 unfold M.kxO at z
 cases z
theorem Wr.le.tr {p q:Wr} (l:p.le q):p.tr q:=⟨l.γ,l.n,fun b _ n h=>l.x n h (fun _ z=>nomatch z),fun b _ n h=>l.x n h (fun _ z=>nomatch z),fun b _ _ _ n h=>l.x n h (fun _ z=>nomatch z),fun b _ _ n h=>l.x n h (fun _ z=>kx_dK z),fun b _ n h=>l.x n h (fun _ z=>nomatch z),fun _ _ h=>l.rd h,fun _ _ h=>l.rd h⟩
mutual
theorem Rep.go {G:Gc} {p q:Wr} (l:p.tr q):∀{d:D} {v:V},Rep G p d v→Rep G q d v
 | .non,_,h=>h
 | .bl _,_,h=>h
 | .int _,_,h=>h
 | .str _,_,h=>h
 | .lst _,_,h=>let ⟨a,vs,e,r,t⟩:=h; ⟨a,vs,e,l.L _ _ r.1 r.2,Reps.go l t⟩
 | .con _,_,h=>let ⟨a,vs,e,r,t⟩:=h; ⟨a,vs,e,r.imp (l.C _ _) id,Reps.go l t⟩
 | .tup _,_,h=>let ⟨a,vs,e,r,t⟩:=h; ⟨a,vs,e,l.T _ _ r.1 r.2,Reps.go l t⟩
 | .dct _,_,h=>let ⟨a,vs,e,r,t⟩:=h; ⟨a,vs,e,l.K _ _ r,RepK.go l t⟩
 | .obj _ _,_,h=>let ⟨a,C,dx,vs,e,n,m,r,t⟩:=h; ⟨a,C,dx,vs,e,(l.I _ _ _ _ n r).1,m,(l.I _ _ _ _ n r).2,RepF.go l t⟩
 | .exc _ _,_,h=>let ⟨a,C,d,e,n,m,r,t⟩:=h; ⟨a,C,d,e,(l.X _ _ _ n r).1,m,(l.X _ _ _ n r).2,t.imp id fun ⟨da,fvs,e1,e2,e3,e4⟩=>⟨da,fvs,e1,(l.Y _ _ e3 e2).2,(l.Y _ _ e3 e2).1,RepF.go l e4⟩⟩
 | .cell i,_,h=>⟨Nat.lt_of_lt_of_le h.1 l.n,by rw [l.γ i h.1]; exact h.2⟩
theorem Reps.go {G:Gc} {p q:Wr} (l:p.tr q):∀{d:List D} {v:List V},Reps G p d v→Reps G q d v
 | [],_,h=>h
 | _::_,_,h=>let ⟨v,r,e,h1,h2⟩:=h; ⟨v,r,e,Rep.go l h1,Reps.go l h2⟩
theorem RepK.go {G:Gc} {p q:Wr} (l:p.tr q):∀{d:List (Key×D)} {v:List (Key×V)},RepK G p d v→RepK G q d v
 | [],_,h=>h
 | (_,_)::_,_,h=>let ⟨v,r,e,h1,h2⟩:=h; ⟨v,r,e,Rep.go l h1,RepK.go l h2⟩
theorem RepF.go {G:Gc} {p q:Wr} (l:p.tr q):∀{d:List (Str×D)} {v:List (Str×V)},RepF G p d v→RepF G q d v
 | [],_,h=>h
 | (_,_)::_,_,h=>let ⟨v,r,e,h1,h2⟩:=h; ⟨v,r,e,Rep.go l h1,RepF.go l h2⟩
end
theorem Rep.mono {G:Gc} {p q:Wr} (l:p.le q) {d:D} {v:V} (h:Rep G p d v):Rep G q d v:=h.go l.tr
theorem Reps.mono {G:Gc} {p q:Wr} (l:p.le q) {d:List D} {v:List V} (h:Reps G p d v):Reps G q d v:=h.go l.tr
theorem RepK.mono {G:Gc} {p q:Wr} (l:p.le q) {d:List (Key×D)} {v:List (Key×V)} (h:RepK G p d v):RepK G q d v:=h.go l.tr
theorem RepF.mono {G:Gc} {p q:Wr} (l:p.le q) {d:List (Str×D)} {v:List (Str×V)} (h:RepF G p d v):RepF G q d v:=h.go l.tr
section
variable {G:Gc} {p:Wr}
theorem Reps.len:∀{ds:List D} {vs:List V},Reps G p ds vs→vs.length=ds.length
 | [],_,h=>by rw [show _= [] from h]; rfl
 | _::_,_,h=>by obtain ⟨v,r,rfl,_,h2⟩:=h; simp [Reps.len h2]
theorem Reps.get:∀{ds:List D} {vs:List V} {i:Nat} {d:D},Reps G p ds vs→ds[i]? =some d→∃v,vs[i]? =some v∧Rep G p d v
 | [],_,_,_,_,e=>by simp at e
 | _::_,_,0,_,h,e=>by
  obtain ⟨v,r,rfl,h1,_⟩:=h
  simp only [List.getElem?_cons_zero,Option.some.injEq] at e
  subst e
  exact ⟨v,rfl,h1⟩
 | _::_,_,i+1,_,h,e=>by
  obtain ⟨v,r,rfl,_,h2⟩:=h
  obtain ⟨u,e2,h3⟩:=Reps.get (i:=i) h2 (by simpa using e)
  exact ⟨u,by simpa using e2,h3⟩
theorem Reps.of:∀{ds:List D} {vs:List V},vs.length=ds.length→(∀(i:Nat) (d:D) (v:V),ds[i]? =some d→vs[i]? =some v→Rep G p d v)→Reps G p ds vs
 | [],vs,l,_=>List.eq_nil_of_length_eq_zero l
 | d::ds,[],l,_=>by simp at l
 | d::ds,v::vs,l,h=>⟨v,vs,rfl,h 0 d v rfl rfl,Reps.of (by simpa using l) fun i d v e1 e2=>h (i+1) d v (by simpa using e1) (by simpa using e2)⟩
theorem Reps.at {ds:List D} {vs:List V} (h:Reps G p ds vs) {i:Nat} {d:D} {v:V} (e1:ds[i]? =some d) (e2:vs[i]? =some v):Rep G p d v:=by
 obtain ⟨u,e3,r⟩:=h.get e1
 rw [e2] at e3; cases e3; exact r
theorem Reps.none {ds:List D} {vs:List V} {i:Nat} (h:Reps G p ds vs) (e:ds[i]? =none):vs[i]? =none:=by
 rw [List.getElem?_eq_none_iff] at e ⊢
 rw [h.len]; exact e
theorem Reps.append {ds es:List D} {vs us:List V} (h:Reps G p ds vs) (g:Reps G p es us):Reps G p (ds++es) (vs++us):=by
 refine .of (by simp [h.len,g.len]) fun i d v e1 e2=>?_
 by_cases c:i<ds.length
 ·rw [List.getElem?_append_left c] at e1
  rw [List.getElem?_append_left (by rw [h.len]; exact c)] at e2
  exact h.at e1 e2
 ·rw [List.getElem?_append_right (by omega)] at e1
  rw [List.getElem?_append_right (by rw [h.len]; omega),h.len] at e2
  exact g.at e1 e2
theorem Reps.one {d:D} {v:V} (h:Rep G p d v):Reps G p [d] [v]:=⟨v,[],rfl,h,rfl⟩
theorem Reps.set {ds:List D} {vs:List V} (h:Reps G p ds vs) {d:D} {v:V} (g:Rep G p d v) (i:Nat):Reps G p (ds.set i d) (vs.set i v):=by
 refine .of (by simp [h.len]) fun j e u e1 e2=>?_
 by_cases c:i=j
 ·subst c
  have hl:i<ds.length:=by
   have:=List.getElem?_eq_some_iff.mp e1
   obtain ⟨a,_⟩:=this
   simpa using a
  rw [List.getElem?_set_self hl] at e1
  rw [List.getElem?_set_self (by rw [h.len]; exact hl)] at e2
  cases e1; cases e2; exact g
 ·rw [List.getElem?_set_ne c] at e1 e2
  exact h.at e1 e2
theorem Reps.take {ds:List D} {vs:List V} (h:Reps G p ds vs) (n:Nat):Reps G p (ds.take n) (vs.take n):=by
 refine .of (by simp [h.len]) fun i d v e1 e2=>?_
 rw [List.getElem?_take] at e1 e2
 split at e1
 ·rename_i c; rw [if_pos c] at e2; exact h.at e1 e2
 ·cases e1
theorem Reps.drop {ds:List D} {vs:List V} (h:Reps G p ds vs) (n:Nat):Reps G p (ds.drop n) (vs.drop n):=by
 refine .of (by simp [h.len]) fun i d v e1 e2=>?_
 rw [List.getElem?_drop] at e1 e2
 exact h.at e1 e2
theorem Reps.reverse {ds:List D} {vs:List V} (h:Reps G p ds vs):Reps G p ds.reverse vs.reverse:=by
 refine .of (by simp [h.len]) fun i d v e1 e2=>?_
 have c:i<ds.length:=by
  obtain ⟨a,_⟩:=List.getElem?_eq_some_iff.mp e1
  simpa using a
 rw [List.getElem?_reverse c] at e1
 rw [List.getElem?_reverse (by rw [h.len]; exact c),h.len] at e2
 exact h.at e1 e2
theorem RepK.keys:∀{ds:List (Key×D)} {vs:List (Key×V)},RepK G p ds vs→vs.map (·.1)=ds.map (·.1)
 | [],_,h=>by rw [show _= [] from h]; rfl
 | (k,_)::_,_,h=>by obtain ⟨v,r,rfl,_,h2⟩:=h; simp [RepK.keys h2]
theorem RepK.vals:∀{ds:List (Key×D)} {vs:List (Key×V)},RepK G p ds vs→Reps G p (ds.map (·.2)) (vs.map (·.2))
 | [],_,h=>by rw [show _= [] from h]; exact rfl
 | (k,_)::_,_,h=>by obtain ⟨v,r,rfl,h1,h2⟩:=h; exact ⟨v,r.map (·.2),rfl,h1,RepK.vals h2⟩
theorem RepK.of:∀{ds:List (Key×D)} {vs:List (Key×V)},vs.map (·.1)=ds.map (·.1)→Reps G p (ds.map (·.2)) (vs.map (·.2))→RepK G p ds vs
 | [],vs,e,_=>by cases vs with
  | nil=>rfl
  | cons a r=>simp at e
 | (k,d)::ds,[],e,_=>by simp at e
 | (k,d)::ds,(k',v)::vs,e,h=>by
  simp only [List.map_cons,List.cons.injEq] at e
  obtain ⟨rfl,e⟩:=e
  obtain ⟨u,r,e2,h1,h2⟩:=h
  simp only [List.map_cons,List.cons.injEq] at e2
  obtain ⟨rfl,rfl⟩:=e2
  exact ⟨v,vs,rfl,h1,RepK.of e h2⟩
theorem RepK.len {ds:List (Key×D)} {vs:List (Key×V)} (h:RepK G p ds vs):vs.length=ds.length:=by
 have:=congrArg List.length h.keys
 simpa using this
end
def mZ (kvs:List (Key×D)) (k:Key):Option D:=(kvs.find? fun kv=>decide (kv.1=k)).map (·.2)
def dput (kvs:List (Key×D)) (k:Key) (v:D):List (Key×D):=
 if (kvs.any fun kv=>decide (kv.1=k))=true then kvs.map (fun kv=>if kv.1=k then (kv.1,v) else kv) else kvs++ [(k,v)]
def wH (kvs:List (Key×D)) (k:Key):List (Key×D):=kvs.filter fun kv=>decide (kv.1≠k)
def bO (fs:List (Str×D)) (f:Str):Option D:=(fs.find? fun kv=>decide (kv.1=f)).map (·.2)
def fP (f:Str) (v:D):List (Str×D)→List (Str×D)
 | []=> [(f,v)]
 | (g,x)::r=>if g=f then (g,v)::r else (g,x)::fP f v r
section
variable {G:Gc} {p:Wr}
theorem RepK.val {k:Key}:∀{ds:List (Key×D)} {vs:List (Key×V)},RepK G p ds vs→(∀d,mZ ds k=some d→∃v,valV vs k=some v∧Rep G p d v)∧(mZ ds k=none→valV vs k=none)
 | [],_,h=>by
  rw [show _= [] from h]
  exact ⟨fun d e=>(nomatch e),fun _=>rfl⟩
 | (k',d')::ds,_,h=>by
  obtain ⟨v,r,rfl,h1,h2⟩:=h
  by_cases c:k' =k
  ·have e:mZ ((k',d')::ds) k=some d' :=by unfold mZ; rw [List.find?_cons_of_pos (by simp [c])]; rfl
   rw [e]
   refine ⟨fun d q=>?_,fun q=>(nomatch q)⟩
   cases q
   exact ⟨v,valV_pos c,h1⟩
  ·have e:mZ ((k',d')::ds) k=mZ ds k:=by unfold mZ; rw [List.find?_cons_of_neg (by simp [c])]
   rw [e,valV_neg c]
   exact RepK.val h2
theorem RepK.any {k:Key}:∀{ds:List (Key×D)} {vs:List (Key×V)},RepK G p ds vs→(vs.any fun kv=>decide (kv.1=k))=ds.any fun kv=>decide (kv.1=k)
 | [],_,h=>by rw [show _= [] from h]; rfl
 | (k',d')::ds,_,h=>by
  obtain ⟨v,r,rfl,h1,h2⟩:=h
  rw [List.any_cons,List.any_cons,RepK.any h2]
theorem RepK.map {k:Key} {d:D} {v:V} (g:Rep G p d v):∀{ds:List (Key×D)} {vs:List (Key×V)},RepK G p ds vs→RepK G p (ds.map fun kv=>if kv.1=k then (kv.1,d) else kv) (vs.map fun kv=>if kv.1=k then (kv.1,v) else kv)
 | [],_,h=>by rw [show _= [] from h]; exact rfl
 | (k',d')::ds,_,h=>by
  obtain ⟨u,r,rfl,h1,h2⟩:=h
  have ih:=RepK.map (k:=k) g h2
  rw [List.map_cons,List.map_cons]
  by_cases c:k' =k
  ·rw [if_pos c,if_pos c]; exact ⟨v,_,rfl,g,ih⟩
  ·rw [if_neg c,if_neg c]; exact ⟨u,_,rfl,h1,ih⟩
theorem RepK.snoc {k:Key} {d:D} {v:V} (g:Rep G p d v):∀{ds:List (Key×D)} {vs:List (Key×V)},RepK G p ds vs→RepK G p (ds++ [(k,d)]) (vs++ [(k,v)])
 | [],_,h=>by rw [show _= [] from h]; exact ⟨v,[],rfl,g,rfl⟩
 | (k',d')::ds,_,h=>by
  obtain ⟨u,r,rfl,h1,h2⟩:=h
  exact ⟨u,_,rfl,h1,RepK.snoc g h2⟩
theorem RepK.put {k:Key} {d:D} {v:V} {ds:List (Key×D)} {vs:List (Key×V)} (h:RepK G p ds vs) (g:Rep G p d v):RepK G p (dput ds k d) (putK vs k v):=by
 unfold dput putK
 rw [h.any]
 split
 ·exact RepK.map g h
 ·exact RepK.snoc g h
theorem RepK.drop {k:Key}:∀{ds:List (Key×D)} {vs:List (Key×V)},RepK G p ds vs→RepK G p (wH ds k) (dropK vs k)
 | [],_,h=>by rw [show _= [] from h]; exact rfl
 | (k',d')::ds,_,h=>by
  obtain ⟨u,r,rfl,h1,h2⟩:=h
  have ih:=RepK.drop (k:=k) h2
  unfold wH dropK at ih ⊢
  by_cases c:k' =k
  ·rw [List.filter_cons_of_neg (by simp [c]),List.filter_cons_of_neg (by simp [c])]; exact ih
  ·rw [List.filter_cons_of_pos (by simp [c]),List.filter_cons_of_pos (by simp [c])]; exact ⟨u,_,rfl,h1,ih⟩
theorem RepF.val {k:Str}:∀{ds:List (Str×D)} {vs:List (Str×V)},RepF G p ds vs→(∀d,bO ds k=some d→∃v,vs.lookup k=some v∧Rep G p d v)∧(bO ds k=none→vs.lookup k=none)
 | [],_,h=>by
  rw [show _= [] from h]
  exact ⟨fun d e=>(nomatch e),fun _=>rfl⟩
 | (k',d')::ds,_,h=>by
  obtain ⟨v,r,rfl,h1,h2⟩:=h
  by_cases c:k' =k
  ·have e:bO ((k',d')::ds) k=some d' :=by unfold bO; rw [List.find?_cons_of_pos (by simp [c])]; rfl
   rw [e]
   refine ⟨fun d q=>?_,fun q=>(nomatch q)⟩
   cases q
   exact ⟨v,by simp [List.lookup,c],h1⟩
  ·have e:bO ((k',d')::ds) k=bO ds k:=by unfold bO; rw [List.find?_cons_of_neg (by simp [c])]
   have e2:List.lookup k ((k',v)::r)=List.lookup k r:=by
    have:(k == k')=false:=by simpa using fun q=>c q.symm
    simp [List.lookup,this]
   rw [e,e2]
   exact RepF.val h2
theorem RepF.put {f:Str} {d:D} {v:V} (g:Rep G p d v):∀{ds:List (Str×D)} {vs:List (Str×V)},RepF G p ds vs→RepF G p (fP f d ds) (putF f v vs)
 | [],_,h=>by rw [show _= [] from h]; exact ⟨v,[],rfl,g,rfl⟩
 | (k',d')::ds,_,h=>by
  obtain ⟨u,r,rfl,h1,h2⟩:=h
  unfold fP putF
  by_cases c:k' =f
  ·rw [if_pos c,if_pos c]; exact ⟨v,r,rfl,g,h2⟩
  ·rw [if_neg c,if_neg c]; exact ⟨u,_,rfl,h1,RepF.put g h2⟩
theorem RepF.len:∀{ds:List (Str×D)} {vs:List (Str×V)},RepF G p ds vs→vs.length=ds.length
 | [],_,h=>by rw [show _= [] from h]; rfl
 | (k',d')::ds,_,h=>by obtain ⟨u,r,rfl,h1,h2⟩:=h; simp [RepF.len h2]
end
def Ho (G:Gc) (p:Wr):D→Addr→Prop
 | .lst ds,a=>∃vs,p.H a=some (.lst vs)∧Reps G p ds vs
 | .dct ds,a=>∃vs,p.H a=some (.dK vs)∧RepK G p ds vs
 | .obj c ds,a=>∃C dx vs,G.mg c=some (.ref C)∧p.H a=some (.ins C dx vs)∧RepF G p ds vs
 | _,_=>False
def Hc (G:Gc) (p:Wr):D→Addr→Prop
 | .lst ds,a=>∃vs,p.H a=some (.lst vs)∧Reps G p ds vs
 | .con ds,a=>∃vs,SqL G.K p.H a vs∧Reps G p ds vs
 | .tup ds,a=>∃vs,p.H a=some (.tup vs)∧Reps G p ds vs
 | .dct ds,a=>∃vs,Rd p.H a (.dK vs)∧RepK G p ds vs
 | .obj c ds,a=>∃C dx vs,G.mg c=some (.ref C)∧p.H a=some (.ins C dx vs)∧RepF G p ds vs
 | _,_=>False
section
variable {G:Gc} {p q:Wr} {a:Addr}
theorem Ho.c:∀{x:D},Ho G p x a→Hc G p x a
 | .lst _,h=>h
 | .dct _,h=>let ⟨vs,e,r⟩:=h; ⟨vs, .inl e,r⟩
 | .obj _ _,h=>h
 | .non,h=>h | .bl _,h=>h | .int _,h=>h | .str _,h=>h | .con _,h=>h.elim | .tup _,h=>h.elim | .exc _ _,h=>h.elim | .cell _,h=>h
theorem Ho.rep (n:¬p.O a):∀{x:D},Ho G p x a→Rep G p x (.ref a)
 | .lst _,h=>let ⟨vs,e,r⟩:=h; ⟨a,vs,rfl,⟨n,e⟩,r⟩
 | .dct _,h=>let ⟨vs,e,r⟩:=h; ⟨a,vs,rfl,⟨n, .inl e⟩,r⟩
 | .obj _ _,h=>let ⟨C,dx,vs,m,e,r⟩:=h; ⟨a,C,dx,vs,rfl,n,m,e,r⟩
 | .non,h=>h.elim | .bl _,h=>h.elim | .int _,h=>h.elim | .str _,h=>h.elim | .con _,h=>h.elim | .tup _,h=>h.elim | .exc _ _,h=>h.elim | .cell _,h=>h.elim
theorem Ho.mono (l:p.le q) (e:q.H a=p.H a):∀{x:D},Ho G p x a→Ho G q x a
 | .lst _,h=>let ⟨vs,e1,r⟩:=h; ⟨vs,e.trans e1,r.mono l⟩
 | .dct _,h=>let ⟨vs,e1,r⟩:=h; ⟨vs,e.trans e1,r.mono l⟩
 | .obj _ _,h=>let ⟨C,dx,vs,m,e1,r⟩:=h; ⟨C,dx,vs,m,e.trans e1,r.mono l⟩
 | .non,h=>h.elim | .bl _,h=>h.elim | .int _,h=>h.elim | .str _,h=>h.elim | .con _,h=>h.elim | .tup _,h=>h.elim | .exc _ _,h=>h.elim | .cell _,h=>h.elim
theorem Ho.some:∀{x:D},Ho G p x a→∃o,p.H a=some o
 | .lst _,h=>let ⟨vs,e1,r⟩:=h; ⟨_,e1⟩
 | .dct _,h=>let ⟨vs,e1,r⟩:=h; ⟨_,e1⟩
 | .obj _ _,h=>let ⟨C,dx,vs,m,e1,r⟩:=h; ⟨_,e1⟩
 | .non,h=>h.elim | .bl _,h=>h.elim | .int _,h=>h.elim | .str _,h=>h.elim | .con _,h=>h.elim | .tup _,h=>h.elim | .exc _ _,h=>h.elim | .cell _,h=>h.elim
def D.box:D→Bool
 | .lst _ | .con _ | .tup _ | .dct _ | .obj _ _=>true
 | _=>false
theorem Rep.c {v:V}:∀{x:D},x.box=true→Rep G p x v→∃a,v= .ref a∧Hc G p x a
 | .lst _,_,h=>let ⟨a,vs,e,r,t⟩:=h; ⟨a,e,vs,r.2,t⟩
 | .con _,_,h=>let ⟨a,vs,e,r,t⟩:=h; ⟨a,e,vs,r.imp (fun r=>r.2) id,t⟩
 | .tup _,_,h=>let ⟨a,vs,e,r,t⟩:=h; ⟨a,e,vs,r.2,t⟩
 | .dct _,_,h=>let ⟨a,vs,e,r,t⟩:=h; ⟨a,e,vs,r.2,t⟩
 | .obj _ _,_,h=>let ⟨a,C,dx,vs,e,_,m,r,t⟩:=h; ⟨a,e,C,dx,vs,m,r,t⟩
 | .non,b,_=>nomatch b
 | .bl _,b,_=>nomatch b
 | .int _,b,_=>nomatch b
 | .str _,b,_=>nomatch b
 | .exc _ _,b,_=>nomatch b
 | .cell _,b,_=>nomatch b
end
structure En where
 F:Addr→Prop
 W:Wr
 S:Sto
def Rv (G:Gc) (p:Wr) (m:Nat) (w:List (Option V)) (k:Nat):Vl→V→Prop
 | .d x,v=>Rep G p x v
 | .own x,v=>∃a,v= .ref a∧Ho G p x a
 | .loc j,v=>m≤k∧j<m∧w[j]? =some (some v)
structure Sm (G:Gc) (E:En) (m:Nat) (p:Wr) (w:List (Option V)) (ŵ:List (Option Vl)) (S:Sto):Prop where
 len:w.length=ŵ.length
 pn:p.n=S.nx
 nx:E.S.nx≤S.nx
 ebd:∀(i:Nat) (d:D),E.S.get i=some d→i<E.S.nx
 old:∀i,i<E.S.nx→p.γ i=E.W.γ i
 bd:∀(i:Nat) (d:D),S.get i=some d→i<S.nx
 cel:∀(i:Nat) (d:D),S.get i=some d→p.O (p.γ i)∧Ho G p d (p.γ i)
 inj:∀(i j:Nat) (d e:D),S.get i=some d→S.get j=some e→p.γ i=p.γ j→i=j
 born:∀(i:Nat) (d:D),S.get i=some d→(∃d0,E.S.get i=some d0)∨E.W.H (p.γ i)=none
 frm:∀a,E.F a→p.O a∧∀i d,S.get i=some d→p.γ i≠a
 kp:∀b o,E.W.H b=some o→(∀i d,E.S.get i=some d→b≠E.W.γ i)→(E.F b→p.H b=some o)∧Kept o (p.H b)
 sub:∀b o,E.W.H b=some o→∃o',p.H b=some o'
 grw:∀b o,E.W.H b=some o→¬E.W.O b→¬p.O b
 dom:∀a,p.O a→∃o,p.H a=some o
 ent:∀(k:Nat) (e:Vl),ŵ[k]? =some (some e)→∃v,w[k]? =some (some v)∧Rv G p m w k e v
 own:∀(k:Nat) (x:D) (a:Addr),ŵ[k]? =some (some (.own x))→w[k]? =some (some (.ref a))→p.O a∧E.W.H a=none∧¬E.F a∧∀i d,S.get i=some d→p.γ i≠a
 sep:∀(j k:Nat) (x y:D) (a:Addr),ŵ[j]? =some (some (.own x))→ŵ[k]? =some (some (.own y))→w[j]? =some (some (.ref a))→w[k]? =some (some (.ref a))→j=k
section
variable {G:Gc} {E:En} {m:Nat} {p:Wr} {w:List (Option V)} {ŵ:List (Option Vl)} {S:Sto} {x:D} {v:V} {a:Addr} {o:HO} {k:Nat}
theorem aM {α:Type} {l:List α} {x y:α} {k:Nat} (h:(l++ [x])[k]? =some y):l[k]? =some y∨(k=l.length∧x=y):=by
 by_cases c:k<l.length
 ·rw [List.getElem?_append_left c] at h; exact .inl h
 ·by_cases c2:k=l.length
  ·subst c2
   simp only [List.getElem?_append_right (Nat.le_refl _),Nat.sub_self,List.getElem?_cons_zero,Option.some.injEq] at h
   exact .inr ⟨rfl,h⟩
  ·rw [List.getElem?_eq_none (by simp; omega)] at h; cases h
theorem bh {α:Type} {l:List α} {x y:α} {k:Nat} (h:l[k]? =some y):(l++ [x])[k]? =some y:=by
 obtain ⟨a,_⟩:=List.getElem?_eq_some_iff.mp h
 rw [List.getElem?_append_left a]; exact h
theorem ai {α:Type} {l:List α} {x:α}:(l++ [x])[l.length]? =some x:=by simp
theorem aq {α:Type} {l:List α} {y:α} {k:Nat} (h:l[k]? =some y):k<l.length:=(List.getElem?_eq_some_iff.mp h).1
theorem Rv.mono {q:Wr} {e:Vl} (l:p.le q) (hh:∀x a,(∃v,v=V.ref a)→Ho G p x a→e=Vl.own x→q.H a=p.H a) {w' :List (Option V)} (hw:∀j v,j<m→w[j]? =some (some v)→w'[j]? =some (some v)):Rv G p m w k e v→Rv G q m w' k e v:=by
 cases e with
 | d x=>exact fun h=>Rep.mono l h
 | own x=>exact fun ⟨a,e,h⟩=>⟨a,e,Ho.mono l (hh x a ⟨_,rfl⟩ h rfl) h⟩
 | loc j=>exact fun ⟨h1,h2,h3⟩=>⟨h1,h2,hw _ _ h2 h3⟩
theorem Sm.push (h:Sm G E m p w ŵ S) (r:Rep G p x v):Sm G E m p (w++ [some v]) (ŵ++ [some (.d x)]) S:=by
 refine {h with len:=by simp [h.len],ent:=fun k e q=>?_,own:=fun k y a q1 q2=>?_,sep:=fun j k y z a q1 q2 q3 q4=>?_}
 ·rcases aM q with q | ⟨rfl,qq⟩
  ·obtain ⟨u,e1,r1⟩:=h.ent k e q
   exact ⟨u,bh e1,r1.mono (.refl p) (fun _ _ _ _ _=>rfl) fun j v _ e=>bh e⟩
  ·obtain rfl:=Option.some.inj qq
   exact ⟨v,by rw [←h.len]; exact ai,r⟩
 ·rcases aM q1 with q | ⟨rfl,qq⟩
  ·have:k<w.length:=by rw [h.len]; exact aq q
   rw [List.getElem?_append_left this] at q2
   exact h.own k y a q q2
  ·cases qq
 ·rcases aM q1 with q1 | ⟨rfl,qq⟩
  ·rcases aM q2 with q2 | ⟨rfl,qq⟩
   ·rw [List.getElem?_append_left (by rw [h.len]; exact aq q1)] at q3
    rw [List.getElem?_append_left (by rw [h.len]; exact aq q2)] at q4
    exact h.sep j k y z a q1 q2 q3 q4
   ·cases qq
  ·cases qq
theorem Sm.pushLoc {j:Nat} {e:Vl} (h:Sm G E m p w ŵ S) (hm:m≤w.length) (hj:j<m) (q:ŵ[j]? =some (some e)) (hv:w[j]? =some (some v)):Sm G E m p (w++ [some v]) (ŵ++ [some (.loc j)]) S:=by
 refine {h with len:=by simp [h.len],ent:=fun k e q=>?_,own:=fun k y a q1 q2=>?_,sep:=fun j k y z a q1 q2 q3 q4=>?_}
 ·rcases aM q with q | ⟨rfl,qq⟩
  ·obtain ⟨u,e1,r1⟩:=h.ent k e q
   exact ⟨u,bh e1,r1.mono (.refl p) (fun _ _ _ _ _=>rfl) fun j v _ e=>bh e⟩
  ·obtain rfl:=Option.some.inj qq
   exact ⟨v,by rw [←h.len]; exact ai,by rw [←h.len]; exact hm,hj,bh hv⟩
 ·rcases aM q1 with q | ⟨rfl,qq⟩
  ·have:k<w.length:=by rw [h.len]; exact aq q
   rw [List.getElem?_append_left this] at q2
   exact h.own k y a q q2
  ·cases qq
 ·rcases aM q1 with q1 | ⟨rfl,qq⟩
  ·rcases aM q2 with q2 | ⟨rfl,qq⟩
   ·rw [List.getElem?_append_left (by rw [h.len]; exact aq q1)] at q3
    rw [List.getElem?_append_left (by rw [h.len]; exact aq q2)] at q4
    exact h.sep j k y z a q1 q2 q3 q4
   ·cases qq
  ·cases qq
theorem Sm.pop {w' :List (Option V)} {ŵ' :List (Option Vl)} (h:Sm G E m p (w++w') (ŵ++ŵ') S) (hl:w.length=ŵ.length) (hm:m≤w.length):Sm G E m p w ŵ S:=by
 have up:∀{k:Nat} {e:Vl},ŵ[k]? =some (some e)→(ŵ++ŵ')[k]? =some (some e):=fun q=>by rw [List.getElem?_append_left (aq q)]; exact q
 have dn:∀{k:Nat} {v:Option V},k<w.length→(w++w')[k]? =some v→w[k]? =some v:=fun l q=>by rw [List.getElem?_append_left l] at q; exact q
 have uq:∀{k:Nat} {v:Option V},w[k]? =some v→(w++w')[k]? =some v:=fun q=>by rw [List.getElem?_append_left (aq q)]; exact q
 refine {h with len:=hl,ent:=fun k e q=>?_,own:=fun k y a q1 q2=>h.own k y a (up q1) (uq q2),sep:=fun j k y z a q1 q2 q3 q4=>h.sep j k y z a (up q1) (up q2) (uq q3) (uq q4)}
 obtain ⟨u,e1,r1⟩:=h.ent k e (up q)
 exact ⟨u,dn (by rw [hl]; exact aq q) e1,r1.mono (.refl p) (fun _ _ _ _ _=>rfl) fun j v l e=>dn (by omega) e⟩
theorem Sm.step {q:Wr} (h:Sm G E m p w ŵ S) (l:p.le q) (hγ:q.γ=p.γ) (hn:q.n=p.n) (hO:q.O=p.O) (hH:∀b o,p.H b=some o→q.H b=some o):Sm G E m q w ŵ S:=by
 have hq:∀{x a},Ho G p x a→q.H a=p.H a:=fun {x a} ho=>by
  obtain ⟨o,e⟩:=ho.some
  rw [e]; exact hH _ _ e
 refine {h with pn:=by rw [hn]; exact h.pn,old:=by rw [hγ]; exact h.old,cel:=fun i d e=>?_,inj:=by rw [hγ]; exact h.inj,born:=by rw [hγ]; exact h.born,frm:=by rw [hγ,hO]; exact h.frm,kp:=fun b o e n=>⟨fun f=>hH _ _ ((h.kp b o e n).1 f),(h.kp b o e n).2.imp (hH _ _) fun ⟨kvs,od,e1,e2⟩=>⟨kvs,od,e1,hH _ _ e2⟩⟩,sub:=fun b o e=>?_,grw:=by rw [hO]; exact h.grw,dom:=fun a e=>?_,ent:=fun k e e1=>?_,own:=by rw [hγ,hO]; exact h.own}
 ·rw [hγ,hO]
  have:=h.cel i d e
  exact ⟨this.1,this.2.mono l (hq this.2)⟩
 ·obtain ⟨o',e'⟩:=h.sub b o e
  exact ⟨o',hH _ _ e'⟩
 ·rw [hO] at e
  obtain ⟨o,e'⟩:=h.dom a e
  exact ⟨o,hH _ _ e'⟩
 ·obtain ⟨u,e2,r⟩:=h.ent k e e1
  exact ⟨u,e2,r.mono l (fun _ _ _ ho _=>hq ho) fun _ _ _ e=>e⟩
theorem dP (hn:p.H a=none):p.le {p with H:=upd p.H a o}:=⟨fun _ _=>rfl,Nat.le_refl _,fun b u h e=>⟨.inl (by show upd _ _ _ _=_; rw [upd_ne (ne_of_none e hn)]; exact e),h⟩⟩
theorem Sm.alloc (h:Sm G E m p w ŵ S) (hn:p.H a=none):Sm G E m {p with H:=upd p.H a o} w ŵ S:=
 h.step (dP hn) rfl rfl rfl fun b u e=>by show upd _ _ _ _=_; rw [upd_ne (ne_of_none e hn)]; exact e
theorem Sm.fresh (h:Sm G E m p w ŵ S) (hn:p.H a=none):E.W.H a=none∧¬p.O a:=by
 refine ⟨?_,fun q=>?_⟩
 ·cases e:E.W.H a with
  | none=>rfl
  | some o=>obtain ⟨o',e'⟩:=h.sub a o e; rw [hn] at e'; cases e'
 ·obtain ⟨o,e⟩:=h.dom a q
  rw [hn] at e; cases e
theorem jh (hn:p.H a=none):p.le {p with H:=upd p.H a o,O:=fun b=>p.O b∨b=a}:=⟨fun _ _=>rfl,Nat.le_refl _,fun b u h e=>⟨.inl (by show upd _ _ _ _=_; rw [upd_ne (ne_of_none e hn)]; exact e),fun q=>q.elim h (ne_of_none e hn)⟩⟩
theorem Sm.grow (h:Sm G E m p w ŵ S) (hn:p.H a=none):Sm G E m {p with H:=upd p.H a o,O:=fun b=>p.O b∨b=a} w ŵ S:=by
 have l:=jh (p:=p) (o:=o) hn
 obtain ⟨f1,f2⟩:=h.fresh hn
 have hH:∀b u,p.H b=some u→upd p.H a o b=some u:=fun b u e=>by rw [upd_ne (ne_of_none e hn)]; exact e
 have hq:∀{x b},Ho G p x b→upd p.H a o b=p.H b:=fun {x b} ho=>by
  obtain ⟨o,e⟩:=ho.some
  rw [e]; exact hH _ _ e
 refine {h with cel:=fun i d e=>⟨.inl (h.cel i d e).1,(h.cel i d e).2.mono l (hq (h.cel i d e).2)⟩,frm:=fun b e=>⟨.inl (h.frm b e).1,(h.frm b e).2⟩,kp:=fun b u e n=>⟨fun f=>hH _ _ ((h.kp b u e n).1 f),(h.kp b u e n).2.imp (hH _ _) fun ⟨kvs,od,e1,e2⟩=>⟨kvs,od,e1,hH _ _ e2⟩⟩,sub:=fun b u e=>?_,grw:=fun b u e n q=>?_,dom:=fun b q=>?_,ent:=fun k e e1=>?_,own:=fun k x b q1 q2=>⟨.inl (h.own k x b q1 q2).1,(h.own k x b q1 q2).2⟩}
 ·obtain ⟨o',e'⟩:=h.sub b u e
  exact ⟨o',hH _ _ e'⟩
 ·rcases q with q | rfl
  ·exact h.grw b u e n q
  ·rw [f1] at e; cases e
 ·rcases q with q | rfl
  ·obtain ⟨o',e'⟩:=h.dom b q
   exact ⟨o',hH _ _ e'⟩
  ·exact ⟨o,upd_same⟩
 ·obtain ⟨u,e2,r⟩:=h.ent k e e1
  exact ⟨u,e2,r.mono l (fun _ _ _ ho _=>hq ho) fun _ _ _ e=>e⟩
theorem Sm.allocOwn (h:Sm G E m p w ŵ S) (hn:p.H a=none) (hx:Ho G {p with H:=upd p.H a o,O:=fun b=>p.O b∨b=a} x a):
  Sm G E m {p with H:=upd p.H a o,O:=fun b=>p.O b∨b=a} (w++ [some (.ref a)]) (ŵ++ [some (.own x)]) S:=by
 obtain ⟨f1,f2⟩:=h.fresh hn
 have h1:Sm G E m {p with H:=upd p.H a o,O:=fun b=>p.O b∨b=a} w ŵ S:=h.grow hn
 ·have nog:∀i d,S.get i=some d→p.γ i≠a:=fun i d e q=>f2 (by rw [←q]; exact (h.cel i d e).1)
  have noF:¬E.F a:=fun q=>f2 (h.frm a q).1
  have noW:∀(k:Nat) (y:D),ŵ[k]? =some (some (.own y))→w[k]? ≠some (some (.ref a)):=fun k y e1 e2=>f2 (h.own k y a e1 e2).1
  refine {h1 with len:=by simp [h.len],ent:=fun k e q=>?_,own:=fun k y b q1 q2=>?_,sep:=fun j k y z b q1 q2 q3 q4=>?_}
  ·rcases aM q with q | ⟨rfl,qq⟩
   ·obtain ⟨u,e1,r1⟩:=h1.ent k e q
    exact ⟨u,bh e1,r1.mono (.refl _) (fun _ _ _ _ _=>rfl) fun j v _ e=>bh e⟩
   ·obtain rfl:=Option.some.inj qq
    exact ⟨.ref a,by rw [←h.len]; exact ai,a,rfl,hx⟩
  ·rcases aM q1 with q | ⟨rfl,qq⟩
   ·rw [List.getElem?_append_left (by rw [h.len]; exact aq q)] at q2
    exact h1.own k y b q q2
   ·rw [←h.len,ai] at q2
    cases q2
    exact ⟨.inr rfl,f1,noF,nog⟩
  ·rcases aM q1 with q1 | ⟨rfl,qq⟩
   ·rw [List.getElem?_append_left (by rw [h.len]; exact aq q1)] at q3
    rcases aM q2 with q2 | ⟨rfl,qq⟩
    ·rw [List.getElem?_append_left (by rw [h.len]; exact aq q2)] at q4
     exact h.sep j k y z b q1 q2 q3 q4
    ·rw [←h.len,ai] at q4
     cases q4
     exact (noW j y q1 q3).elim
   ·rw [←h.len,ai] at q3
    cases q3
    rcases aM q2 with q2 | ⟨rfl,qq⟩
    ·rw [List.getElem?_append_left (by rw [h.len]; exact aq q2)] at q4
     exact (noW k z q2 q4).elim
    ·rfl
end
section
variable {G:Gc} {E:En} {m:Nat} {p:Wr} {w:List (Option V)} {ŵ:List (Option Vl)} {S:Sto} {x y:D} {v:V} {a:Addr} {o:HO} {k:Nat}
theorem dV {α:Type} {l:List α} {x y:α} {k j:Nat} (h:(l.set k x)[j]? =some y):(k=j∧x=y)∨(k≠j∧l[j]? =some y):=by
 by_cases c:k=j
 ·subst c
  have hl:k<l.length:=by have:=aq h; simpa using this
  rw [List.getElem?_set_self hl] at h
  exact .inl ⟨rfl,Option.some.inj h⟩
 ·rw [List.getElem?_set_ne c] at h
  exact .inr ⟨c,h⟩
theorem sR {α:Type} {l:List α} {x:α} {k:Nat} (h:k<l.length):(l.set k x)[k]? =some x:=List.getElem?_set_self h
theorem rq:p.le {p with O:=fun b=>p.O b∧b≠a}:=⟨fun _ _=>rfl,Nat.le_refl _,fun _ _ h e=>⟨.inl e,fun q=>h q.1⟩⟩
theorem Sm.settle (h:Sm G E m p w ŵ S) (q:ŵ[k]? =some (some (.own x))) (qa:w[k]? =some (some (.ref a))):Sm G E m {p with O:=fun b=>p.O b∧b≠a} w (ŵ.set k (some (.d x))) S:=by
 have l:=rq (p:=p) (a:=a)
 obtain ⟨o1,o2,o3,o4⟩:=h.own k x a q qa
 have hk:=aq q
 have nk:∀{j y},(ŵ.set k (some (.d x)))[j]? =some (some (Vl.own y))→k≠j∧ŵ[j]? =some (some (.own y)):=fun {j y} e=>by
  rcases dV e with ⟨rfl,ee⟩ | e
  ·cases ee
  ·exact e
 have na:∀{j y b},ŵ[j]? =some (some (Vl.own y))→w[j]? =some (some (V.ref b))→k≠j→b≠a:=fun {j y b} e1 e2 c e=>c (h.sep k j x y a q e1 qa (by rw [←e]; exact e2))
 refine {h with len:=by simp [h.len],cel:=fun i d e=>⟨⟨(h.cel i d e).1,o4 i d e⟩,(h.cel i d e).2.mono l rfl⟩,frm:=fun b e=>⟨⟨(h.frm b e).1,fun z=>o3 (z ▸ e)⟩,(h.frm b e).2⟩,grw:=fun b u e n z=>h.grw b u e n z.1,dom:=fun b z=>h.dom b z.1,ent:=fun j e e1=>?_,own:=fun j y b e1 e2=>?_,sep:=fun i j y z b e1 e2 e3 e4=>?_}
 ·rcases dV e1 with ⟨rfl,ee⟩ | ⟨c,e1⟩
  ·cases ee
   obtain ⟨u,e2,b,rfl,r⟩:=h.ent k _ q
   rw [qa] at e2
   cases e2
   exact ⟨_,qa,Ho.rep (show¬(p.O a∧a≠a) from fun z=>z.2 rfl) (r.mono l rfl)⟩
  ·obtain ⟨u,e2,r⟩:=h.ent j e e1
   exact ⟨u,e2,r.mono l (fun _ _ _ _ _=>rfl) fun _ _ _ e=>e⟩
 ·obtain ⟨c,e1⟩:=nk e1
  have:=h.own j y b e1 e2
  exact ⟨⟨this.1,na e1 e2 c⟩,this.2⟩
 ·exact h.sep i j y z b (nk e1).2 (nk e2).2 e3 e4
theorem Sm.store {e:Vl} (h:Sm G E m p (w++ [some v]) (ŵ++ [some e]) S) (hk:k<m) (hm:m≤w.length) (hl:w.length=ŵ.length) (he:∀j,e≠ .loc j) (hn:∀(i j:Nat),ŵ[i]? =some (some (.loc j))→j≠k):Sm G E m p (w.set k (some v)) (ŵ.set k (some e)) S:=by
 have last:(ŵ++ [some e])[ŵ.length]? =some (some e):=ai
 have lastv:(w++ [some v])[ŵ.length]? =some (some v):=by rw [←hl]; exact ai
 have kw:k<w.length:=by omega
 -- where an entry comes from
 have go:∀{j:Nat} {e' :Vl},(ŵ.set k (some e))[j]? =some (some e')→∃i,(ŵ++ [some e])[i]? =some (some e')∧(∀u,(w.set k (some v))[j]? =some u↔(w++ [some v])[i]? =some u)∧((j=k∧i=ŵ.length∧e' =e)∨(j≠k∧i=j∧j<ŵ.length)):=fun {j e'} q=>by
  rcases dV q with ⟨rfl,qq⟩ | ⟨c,q⟩
  ·cases qq
   refine ⟨_,last,fun u=>?_, .inl ⟨rfl,rfl,rfl⟩⟩
   rw [sR kw,←hl,ai]
  ·have hj:=aq q
   refine ⟨j,bh q,fun u=>?_, .inr ⟨fun z=>c z.symm,rfl,hj⟩⟩
   rw [List.getElem?_set_ne c,List.getElem?_append_left (by omega)]
 refine {h with len:=by simp [hl],ent:=fun j e' q=>?_,own:=fun j y b q1 q2=>?_,sep:=fun i j y z b q1 q2 q3 q4=>?_}
 ·obtain ⟨i,q1,q2,c⟩:=go q
  obtain ⟨u,e1,r⟩:=h.ent i e' q1
  refine ⟨u,(q2 _).mpr e1, ?_⟩
  rcases c with ⟨rfl,rfl,rfl⟩ | ⟨c,rfl,c2⟩
  ·cases e' with
   | d x=>exact r
   | own x=>exact r
   | loc j=>exact (he j rfl).elim
  ·cases e' with
   | d x=>exact r
   | own x=>exact r
   | loc t=>
    obtain ⟨r1,r2,r3⟩:=r
    have q0:ŵ[i]? =some (some (.loc t)):=by rw [List.getElem?_append_left c2] at q1; exact q1
    refine ⟨r1,r2, ?_⟩
    rw [List.getElem?_append_left (by omega)] at r3
    rw [List.getElem?_set_ne (hn i t q0).symm]
    exact r3
 ·obtain ⟨i,e1,e2,_⟩:=go q1
  exact h.own i y b e1 ((e2 _).mp q2)
 ·obtain ⟨i',e1,e2,c1⟩:=go q1
  obtain ⟨j',e3,e4,c2⟩:=go q2
  have:=h.sep i' j' y z b e1 e3 ((e2 _).mp q3) ((e4 _).mp q4)
  omega
theorem gV (ha:p.O a):p.le {p with H:=upd p.H a o}:=⟨fun _ _=>rfl,Nat.le_refl _,fun b u h e=>⟨.inl (by
  have c:b≠a:=fun z=>h (by rw [z]; exact ha)
  show upd _ _ _ _=_
  rw [upd_ne c]; exact e),h⟩⟩
theorem Sm.write (h:Sm G E m p w ŵ S) (q:ŵ[k]? =some (some (.own x))) (qa:w[k]? =some (some (.ref a))) (hy:Ho G {p with H:=upd p.H a o} y a):Sm G E m {p with H:=upd p.H a o} w (ŵ.set k (some (.own y))) S:=by
 obtain ⟨o1,o2,o3,o4⟩:=h.own k x a q qa
 have l:=gV (p:=p) (o:=o) o1
 have hk:=aq q
 have go:∀{j:Nat} {e' :Vl},(ŵ.set k (some (.own y)))[j]? =some (some e')→(k=j∧e' = .own y)∨(k≠j∧ŵ[j]? =some (some e')):=fun {j e'} q=>by
  rcases dV q with ⟨rfl,qq⟩ | q
  ·exact .inl ⟨rfl,(Option.some.inj qq).symm⟩
  ·exact .inr q
 have ow:∀{j:Nat} {z:D},(ŵ.set k (some (.own y)))[j]? =some (some (.own z))→∃z',ŵ[j]? =some (some (.own z')):=fun {j z} e=>by
  rcases go e with ⟨rfl,_⟩ | ⟨_,e⟩
  ·exact ⟨x,q⟩
  ·exact ⟨z,e⟩
 have ne:∀{b:Addr},b≠a→upd p.H a o b=p.H b:=fun c=>upd_ne c
 refine {h with len:=by simp [h.len],cel:=fun i d e=>⟨(h.cel i d e).1,(h.cel i d e).2.mono l (ne (o4 i d e))⟩,kp:=fun b u e n=>?_,sub:=fun b u e=>?_,dom:=fun b e=>?_,ent:=fun j e e1=>?_,own:=fun j z b e1 e2=>?_,sep:=fun i j z z' b e1 e2 e3 e4=>?_}
 ·show (_→upd _ _ _ _=_)∧Kept u (upd _ _ _ _)
  rw [ne (fun z=>by rw [z,o2] at e; cases e)]
  exact h.kp b u e n
 ·by_cases c:b=a
  ·subst c; exact ⟨o,upd_same⟩
  ·obtain ⟨u',e'⟩:=h.sub b u e
   exact ⟨u',by show upd _ _ _ _=_; rw [ne c]; exact e'⟩
 ·by_cases c:b=a
  ·subst c; exact ⟨o,upd_same⟩
  ·obtain ⟨u',e'⟩:=h.dom b e
   exact ⟨u',by show upd _ _ _ _=_; rw [ne c]; exact e'⟩
 ·rcases go e1 with ⟨rfl,rfl⟩ | ⟨c,e1⟩
  ·exact ⟨_,qa,a,rfl,hy⟩
  ·obtain ⟨u,e2,r⟩:=h.ent j e e1
   refine ⟨u,e2, ?_⟩
   cases e with
   | d z=>exact Rep.mono l r
   | own z=>
    obtain ⟨b,rfl,r⟩:=r
    exact ⟨b,rfl,r.mono l (ne fun hb=>c (h.sep k j x z a q e1 qa (by rw [←hb]; exact e2)))⟩
   | loc t=>exact r
 ·obtain ⟨z',e1⟩:=ow e1
  exact h.own j z' b e1 e2
 ·obtain ⟨z1,e1⟩:=ow e1
  obtain ⟨z2,e2⟩:=ow e2
  exact h.sep i j z1 z2 b e1 e2 e3 e4
def Sto.put (S:Sto) (i:Nat) (x:D):Sto:= {S with get:=fun j=>if j=i then some x else S.get j}
def Sto.del (S:Sto) (i:Nat):Sto:= {S with get:=fun j=>if j=i then none else S.get j}
def Sto.new (S:Sto) (x:D):Sto:= {S with nx:=S.nx+1,get:=fun j=>if j=S.nx then some x else S.get j}
theorem Sto.put_same {S:Sto} {i:Nat} {x:D}:(S.put i x).get i=some x:=if_pos rfl
theorem Sto.put_ne {S:Sto} {i j:Nat} {x:D} (h:j≠i):(S.put i x).get j=S.get j:=if_neg h
theorem Sto.put_dom {S:Sto} {i j:Nat} {x y z:D} (h:(S.put i x).get j=some y) (q:S.get i=some z):∃y',S.get j=some y' :=by
 by_cases c:j=i
 ·subst c; exact ⟨z,q⟩
 ·rw [Sto.put_ne c] at h; exact ⟨y,h⟩
theorem Sm.writeCell {i:Nat} (h:Sm G E m p w ŵ S) (q:S.get i=some x) (hy:Ho G {p with H:=upd p.H (p.γ i) o} y (p.γ i)):Sm G E m {p with H:=upd p.H (p.γ i) o} w ŵ (S.put i y):=by
 obtain ⟨o1,o2⟩:=h.cel i x q
 have l:=gV (p:=p) (o:=o) o1
 have ne:∀{b:Addr},b≠p.γ i→upd p.H (p.γ i) o b=p.H b:=fun c=>upd_ne c
 refine {h with bd:=fun j d e=>?_,cel:=fun j d e=>?_,inj:=fun j t d d' e1 e2 e3=>?_,born:=fun j d e=>?_,frm:=fun b e=>⟨(h.frm b e).1,fun j d e' =>?_⟩,kp:=fun b u e n=>?_,sub:=fun b u e=>?_,dom:=fun b e=>?_,ent:=fun j e e1=>?_,own:=fun j z b e1 e2=>?_}
 ·obtain ⟨d',e⟩:=Sto.put_dom e q
  exact h.bd j d' e
 ·by_cases c:j=i
  ·subst c
   rw [Sto.put_same] at e; cases e
   exact ⟨o1,hy⟩
  ·rw [Sto.put_ne c] at e
   exact ⟨(h.cel j d e).1,(h.cel j d e).2.mono l (ne fun z=>c (h.inj j i d x e q z))⟩
 ·obtain ⟨d1,e1⟩:=Sto.put_dom e1 q
  obtain ⟨d2,e2⟩:=Sto.put_dom e2 q
  exact h.inj j t d1 d2 e1 e2 e3
 ·obtain ⟨d1,e⟩:=Sto.put_dom e q
  exact h.born j d1 e
 ·obtain ⟨d1,e'⟩:=Sto.put_dom e' q
  exact (h.frm b e).2 j d1 e'
 ·show (_→upd _ _ _ _=_)∧Kept u (upd _ _ _ _)
  rw [ne fun z=>?_]
  ·exact h.kp b u e n
  ·rcases h.born i x q with ⟨d0,b0⟩ | b0
   ·exact n i d0 b0 (by rw [z]; exact h.old i (h.ebd i d0 b0))
   ·rw [z,b0] at e; cases e
 ·by_cases c:b=p.γ i
  ·subst c; exact ⟨o,upd_same⟩
  ·obtain ⟨u',e'⟩:=h.sub b u e
   exact ⟨u',by show upd _ _ _ _=_; rw [ne c]; exact e'⟩
 ·by_cases c:b=p.γ i
  ·subst c; exact ⟨o,upd_same⟩
  ·obtain ⟨u',e'⟩:=h.dom b e
   exact ⟨u',by show upd _ _ _ _=_; rw [ne c]; exact e'⟩
 ·obtain ⟨u,e2,r⟩:=h.ent j e e1
  refine ⟨u,e2, ?_⟩
  cases e with
  | d z=>exact Rep.mono l r
  | own z=>
   obtain ⟨b,rfl,r⟩:=r
   exact ⟨b,rfl,r.mono l (ne fun hb=>(h.own j z b e1 e2).2.2.2 i x q hb.symm)⟩
  | loc t=>exact r
 ·have:=h.own j z b e1 e2
  refine ⟨this.1,this.2.1,this.2.2.1,fun t d e=>?_⟩
  obtain ⟨d1,e⟩:=Sto.put_dom e q
  exact this.2.2.2 t d1 e
theorem Sm.celled (h:Sm G E m p w ŵ S) (q:ŵ[k]? =some (some (.own x))) (qa:w[k]? =some (some (.ref a))):
  Sm G E m {p with γ:=fun i=>if i=S.nx then a else p.γ i,n:=S.nx+1} w (ŵ.set k (some (.d (.cell S.nx)))) (S.new x):=by
 obtain ⟨o1,o2,o3,o4⟩:=h.own k x a q qa
 have l:p.le {p with γ:=fun i=>if i=S.nx then a else p.γ i,n:=S.nx+1}:=⟨fun i hi=>if_neg (by rw [h.pn] at hi; omega),by rw [h.pn]; exact Nat.le_succ _,fun b u n e=>⟨.inl e,n⟩⟩
 have gs:(fun i=>if i=S.nx then a else p.γ i) S.nx=a:=if_pos rfl
 have gn:∀{i d},S.get i=some d→(if i=S.nx then a else p.γ i)=p.γ i:=fun {i d} e=>if_neg (Nat.ne_of_lt (h.bd i d e))
 have dm:∀{i d},(S.new x).get i=some d→(i=S.nx∧d=x)∨(i≠S.nx∧S.get i=some d):=fun {i d} e=>by
  by_cases c:i=S.nx
  ·subst c
   have e:(if S.nx=S.nx then some x else S.get S.nx)=some d:=e
   rw [if_pos rfl] at e; cases e; exact .inl ⟨rfl,rfl⟩
  ·have e:(if i=S.nx then some x else S.get i)=some d:=e
   rw [if_neg c] at e; exact .inr ⟨c,e⟩
 obtain ⟨u,e2,a',e3,r0⟩:=h.ent k _ q
 rw [qa] at e2
 cases e2
 cases e3
 have nk:∀{j y},(ŵ.set k (some (.d (.cell S.nx))))[j]? =some (some (Vl.own y))→k≠j∧ŵ[j]? =some (some (.own y)):=fun {j y} e=>by
  rcases dV e with ⟨rfl,ee⟩ | e
  ·cases ee
  ·exact e
 refine {h with len:=by simp [h.len],pn:=rfl,nx:=Nat.le_succ_of_le h.nx,old:=fun i hi=>?_,bd:=fun i d e=>?_,cel:=fun i d e=>?_,inj:=fun i j d d' e1 e2 e3=>?_,born:=fun i d e=>?_,frm:=fun b e=>⟨(h.frm b e).1,fun i d e' =>?_⟩,ent:=fun j e e1=>?_,own:=fun j z b e1 e2=>?_,sep:=fun i j y z b e1 e2 e3 e4=>h.sep i j y z b (nk e1).2 (nk e2).2 e3 e4}
 ·show (if i=S.nx then a else p.γ i)=_
  rw [if_neg (by have:=h.nx; omega)]
  exact h.old i hi
 ·rcases dm e with ⟨rfl,_⟩ | ⟨_,e⟩
  ·exact Nat.lt_succ_self _
  ·exact Nat.lt_succ_of_lt (h.bd i d e)
 ·rcases dm e with ⟨rfl,rfl⟩ | ⟨_,e⟩
  ·show p.O (if S.nx=S.nx then a else _)∧Ho _ _ _ (if S.nx=S.nx then a else _)
   rw [if_pos rfl]
   exact ⟨o1,r0.mono l rfl⟩
  ·show p.O (if i=S.nx then a else _)∧Ho _ _ _ (if i=S.nx then a else _)
   rw [gn e]
   exact ⟨(h.cel i d e).1,(h.cel i d e).2.mono l rfl⟩
 ·have e3:(if i=S.nx then a else p.γ i)=(if j=S.nx then a else p.γ j):=e3
  rcases dm e1 with ⟨i1,d1⟩ | ⟨c1,e1⟩
  ·subst i1
   rcases dm e2 with ⟨i2,d2⟩ | ⟨c2,e2⟩
   ·exact i2.symm
   ·rw [if_pos rfl,gn e2] at e3
    exact (o4 _ _ e2 e3.symm).elim
  ·rcases dm e2 with ⟨i2,d2⟩ | ⟨c2,e2⟩
   ·subst i2
    rw [if_pos rfl,gn e1] at e3
    exact (o4 i d e1 e3).elim
   ·rw [gn e1,gn e2] at e3
    exact h.inj i j d d' e1 e2 e3
 ·rcases dm e with ⟨rfl,rfl⟩ | ⟨_,e⟩
  ·right
   show E.W.H (if S.nx=S.nx then a else _)=none
   rw [if_pos rfl]; exact o2
  ·show _∨E.W.H (if i=S.nx then a else _)=none
   rw [gn e]; exact h.born i d e
 ·rcases dm e' with ⟨rfl,rfl⟩ | ⟨_,e'⟩
  ·show (if S.nx=S.nx then a else _)≠b
   rw [if_pos rfl]; exact fun z=>o3 (z ▸ e)
  ·show (if i=S.nx then a else _)≠b
   rw [gn e']; exact (h.frm b e).2 i d e'
 ·rcases dV e1 with ⟨rfl,ee⟩ | ⟨c,e1⟩
  ·cases ee
   refine ⟨_,qa,Nat.lt_succ_self _, ?_⟩
   show V.ref a=V.ref (if S.nx=S.nx then a else _)
   rw [if_pos rfl]
  ·obtain ⟨u,e2,r⟩:=h.ent j e e1
   exact ⟨u,e2,r.mono l (fun _ _ _ _ _=>rfl) fun _ _ _ e=>e⟩
 ·obtain ⟨c,e1⟩:=nk e1
  have:=h.own j z b e1 e2
  refine ⟨this.1,this.2.1,this.2.2.1,fun i d e=>?_⟩
  rcases dm e with ⟨rfl,rfl⟩ | ⟨_,e⟩
  ·show (if S.nx=S.nx then a else _)≠b
   rw [if_pos rfl]
   exact fun hb=>c (h.sep k j _ z a q e1 qa (by rw [hb]; exact e2))
  ·show (if i=S.nx then a else _)≠b
   rw [gn e]; exact this.2.2.2 i d e
theorem Sm.freeze {i:Nat} (h:Sm G E m p w ŵ S) (hc:S.get i=some x) (q:ŵ[k]? =some (some (.d (.cell i)))):Sm G E m {p with O:=fun b=>p.O b∧b≠p.γ i} w (ŵ.set k (some (.d x))) (S.del i):=by
 have l:=rq (p:=p) (a:=p.γ i)
 have dm:∀{j d},(S.del i).get j=some d→j≠i∧S.get j=some d:=fun {j d} e=>by
  by_cases c:j=i
  ·subst c
   have e:(if j=j then none else S.get j)=some d:=e
   rw [if_pos rfl] at e; cases e
  ·have e:(if j=i then none else S.get j)=some d:=e
   rw [if_neg c] at e; exact ⟨c,e⟩
 have nk:∀{j y},(ŵ.set k (some (.d x)))[j]? =some (some (Vl.own y))→k≠j∧ŵ[j]? =some (some (.own y)):=fun {j y} e=>by
  rcases dV e with ⟨rfl,ee⟩ | e
  ·cases ee
  ·exact e
 refine {h with len:=by simp [h.len],bd:=fun j d e=>h.bd j d (dm e).2,cel:=fun j d e=>?_,inj:=fun j t d d' e1 e2 e3=>h.inj j t d d' (dm e1).2 (dm e2).2 e3,born:=fun j d e=>h.born j d (dm e).2,frm:=fun b e=>⟨⟨(h.frm b e).1,fun z=>(h.frm b e).2 i x hc z.symm⟩,fun j d e' =>(h.frm b e).2 j d (dm e').2⟩,grw:=fun b u e n z=>h.grw b u e n z.1,dom:=fun b z=>h.dom b z.1,ent:=fun j e e1=>?_,own:=fun j y b e1 e2=>?_,sep:=fun i j y z b e1 e2 e3 e4=>h.sep i j y z b (nk e1).2 (nk e2).2 e3 e4}
 ·obtain ⟨c,e⟩:=dm e
  exact ⟨⟨(h.cel j d e).1,fun z=>c (h.inj j i d x e hc z)⟩,(h.cel j d e).2.mono l rfl⟩
 ·rcases dV e1 with ⟨rfl,ee⟩ | ⟨c,e1⟩
  ·cases ee
   obtain ⟨u,e2,r1,rfl⟩:=h.ent k _ q
   exact ⟨_,e2,Ho.rep (show¬(p.O (p.γ i)∧p.γ i≠p.γ i) from fun z=>z.2 rfl) ((h.cel i x hc).2.mono l rfl)⟩
  ·obtain ⟨u,e2,r⟩:=h.ent j e e1
   exact ⟨u,e2,r.mono l (fun _ _ _ _ _=>rfl) fun _ _ _ e=>e⟩
 ·obtain ⟨c,e1⟩:=nk e1
  have:=h.own j y b e1 e2
  exact ⟨⟨this.1,fun z=>this.2.2.2 i x hc z.symm⟩,this.2.1,this.2.2.1,fun t d e=>this.2.2.2 t d (dm e).2⟩
end
section
variable {G:Gc} {E:En} {m m' :Nat} {p p' :Wr} {w w' :List (Option V)} {ŵ ŵ' :List (Option Vl)} {S S' :Sto} {x y:D} {v:V} {a:Addr} {o:HO} {k:Nat} {e:Vl}
def En.of (E:En) (p:Wr) (S:Sto) (w:List (Option V)) (ŵ:List (Option Vl)):En where
 F:=fun a=>E.F a∨∃(k:Nat) (x:D),ŵ[k]? =some (some (.own x))∧w[k]? =some (some (.ref a))
 W:=p
 S:=S
def starts (n:Nat) (ds:List D):List (Option Vl):=ds.map (fun d=>some (.d d))++List.replicate (n - ds.length) none
theorem Sm.enter {N:List Str} {ds:List D} {vs:List V} (h:Sm G E m p w ŵ S) (r:Reps G p ds vs):Sm G (E.of p S w ŵ) m' p (L2.start N vs) (starts N.length ds) S:=by
 have hd:∀{k:Nat} {e:Vl},(starts N.length ds)[k]? =some (some e)→∃d,ds[k]? =some d∧e= .d d:=fun {k e} q=>by
  unfold starts at q
  by_cases c:k<ds.length
  ·rw [List.getElem?_append_left (by simpa using c),List.getElem?_map] at q
   obtain ⟨d,h1,h2⟩:=Option.map_eq_some_iff.mp q
   exact ⟨d,h1,(Option.some.inj h2).symm⟩
  ·rw [List.getElem?_append_right (by simpa using c)] at q
   have:=List.mem_of_getElem? q
   rw [List.mem_replicate] at this
   cases this.2
 refine {len:=?_,pn:=h.pn,nx:=Nat.le_refl _,ebd:=h.bd,old:=fun _ _=>rfl,bd:=h.bd,cel:=h.cel,inj:=h.inj,born:=fun i d e=> .inl ⟨d,e⟩,frm:=fun b q=>?_,kp:=fun _ _ e _=>⟨fun _=>e, .inl e⟩,sub:=fun _ o e=>⟨o,e⟩,grw:=fun _ _ _ n=>n,dom:=h.dom,ent:=fun k e q=>?_,own:=fun k x a q=>?_,sep:=fun j k x y a q=>?_}
 ·unfold L2.start starts
  simp [r.len]
 ·rcases q with q | ⟨k,x,q1,q2⟩
  ·exact h.frm b q
  ·exact ⟨(h.own k x b q1 q2).1,(h.own k x b q1 q2).2.2.2⟩
 ·obtain ⟨d,e1,rfl⟩:=hd q
  obtain ⟨v,e2,r2⟩:=r.get e1
  refine ⟨v, ?_,r2⟩
  unfold L2.start
  rw [List.getElem?_append_left (by simpa using aq e2),List.getElem?_map,e2]
  rfl
 ·obtain ⟨d,_,q⟩:=hd q; cases q
 ·obtain ⟨d,_,q⟩:=hd q; cases q
theorem Sm.after_le (h:Sm G E m p w ŵ S) (h' :Sm G (E.of p S w ŵ) m' p' w' ŵ' S'):p.le p' :=by
 refine ⟨fun i hi=>h'.old i (by rw [h.pn] at hi; exact hi),by rw [h.pn,h'.pn]; exact h'.nx,fun b o n e=>⟨(h'.kp b o e fun i d q z=>n ?_).2,h'.grw b o e n⟩⟩
 rw [z]
 exact (h.cel i d q).1
theorem Sm.after (h:Sm G E m p w ŵ S) (h' :Sm G (E.of p S w ŵ) m' p' w' ŵ' S'):Sm G E m p' w ŵ S' :=by
 have l:=h.after_le h'
 have own' :∀(k:Nat) (x:D) (a:Addr),ŵ[k]? =some (some (.own x))→w[k]? =some (some (.ref a))→p'.H a=p.H a:=fun k x a q1 q2=>by
  obtain ⟨o1,o2,o3,o4⟩:=h.own k x a q1 q2
  obtain ⟨o,e⟩:=h.dom a o1
  rw [e]
  exact (h'.kp a o e fun i d q z=>o4 i d q z.symm).1 (.inr ⟨k,x,q1,q2⟩)
 refine {len:=h.len,pn:=h'.pn,nx:=Nat.le_trans h.nx h'.nx,ebd:=h.ebd,old:=fun i hi=>?_,bd:=h'.bd,cel:=h'.cel,inj:=h'.inj,born:=fun i d e=>?_,frm:=fun b q=>h'.frm b (.inl q),kp:=fun b o e n=>?_,sub:=fun b o e=>?_,grw:=fun b o e n=>?_,dom:=h'.dom,ent:=fun k e q=>?_,own:=fun k x b q1 q2=>?_,sep:=h.sep}
 ·rw [h'.old i (Nat.lt_of_lt_of_le hi h.nx)]
  exact h.old i hi
 ·rcases h'.born i d e with ⟨d0,b0⟩ | b0
  ·rcases h.born i d0 b0 with b1 | b1
   ·exact .inl b1
   ·right
    rw [h'.old i (h.bd i d0 b0)]
    exact b1
  ·right
   cases q:E.W.H (p'.γ i) with
   | none=>rfl
   | some o=>
    obtain ⟨o',e'⟩:=h.sub _ o q
    have b0:p.H (p'.γ i)=none:=b0
    rw [b0] at e'; cases e'
 ·have nc:∀(i:Nat) (d:D),S.get i=some d→b≠p.γ i:=fun i d q z=>by
   rcases h.born i d q with ⟨d0,b0⟩ | b0
   ·exact n i d0 b0 (by rw [z]; exact h.old i (h.ebd i d0 b0))
   ·rw [←z,e] at b0; cases b0
  obtain ⟨k1,k2⟩:=h.kp b o e n
  refine ⟨fun f=>(h'.kp b o (k1 f) nc).1 (.inl f), ?_⟩
  have:∃x,p.H b=some x:=by rcases k2 with k | ⟨_,_,_,k⟩<;> exact ⟨_,k⟩
  obtain ⟨x,ex⟩:=this
  rw [ex] at k2
  exact k2.trans (h'.kp b x ex nc).2
 ·obtain ⟨o',e'⟩:=h.sub b o e
  exact h'.sub b o' e'
 ·obtain ⟨o',e'⟩:=h.sub b o e
  exact h'.grw b o' e' (h.grw b o e n)
 ·obtain ⟨u,e2,r⟩:=h.ent k e q
  refine ⟨u,e2, ?_⟩
  cases e with
  | d z=>exact Rep.mono l r
  | own z=>
   obtain ⟨b,rfl,r⟩:=r
   exact ⟨b,rfl,r.mono l (own' k z b q e2)⟩
  | loc t=>exact r
 ·have o:=h.own k x b q1 q2
  have f:=h'.frm b (.inr ⟨k,x,q1,q2⟩)
  exact ⟨f.1,o.2.1,o.2.2.1,f.2⟩
theorem Sm.pushOwn (h:Sm G E m p w ŵ S) (r:Ho G p x a) (o1:p.O a) (o2:E.W.H a=none) (o3:¬E.F a) (o4:∀i d,S.get i=some d→p.γ i≠a) (o5:∀(k:Nat) (y:D),ŵ[k]? =some (some (.own y))→w[k]? ≠some (some (.ref a))):
  Sm G E m p (w++ [some (.ref a)]) (ŵ++ [some (.own x)]) S:=by
 refine {h with len:=by simp [h.len],ent:=fun k e q=>?_,own:=fun k y b q1 q2=>?_,sep:=fun j k y z b q1 q2 q3 q4=>?_}
 ·rcases aM q with q | ⟨rfl,qq⟩
  ·obtain ⟨u,e1,r1⟩:=h.ent k e q
   exact ⟨u,bh e1,r1.mono (.refl _) (fun _ _ _ _ _=>rfl) fun j v _ e=>bh e⟩
  ·obtain rfl:=Option.some.inj qq
   exact ⟨.ref a,by rw [←h.len]; exact ai,a,rfl,r⟩
 ·rcases aM q1 with q | ⟨rfl,qq⟩
  ·rw [List.getElem?_append_left (by rw [h.len]; exact aq q)] at q2
   exact h.own k y b q q2
  ·rw [←h.len,ai] at q2
   cases q2
   exact ⟨o1,o2,o3,o4⟩
 ·rcases aM q1 with q1 | ⟨rfl,qq⟩
  ·rw [List.getElem?_append_left (by rw [h.len]; exact aq q1)] at q3
   rcases aM q2 with q2 | ⟨rfl,qq⟩
   ·rw [List.getElem?_append_left (by rw [h.len]; exact aq q2)] at q4
    exact h.sep j k y z b q1 q2 q3 q4
   ·rw [←h.len,ai] at q4
    cases q4
    exact (o5 j y q1 q3).elim
  ·rw [←h.len,ai] at q3
   cases q3
   rcases aM q2 with q2 | ⟨rfl,qq⟩
   ·rw [List.getElem?_append_left (by rw [h.len]; exact aq q2)] at q4
    exact (o5 k z q2 q4).elim
   ·rfl
theorem Sm.lock {d:Addr} {kvs:List (Key×V)} {od:Obj} (h:Sm G E m p w ŵ S) (hd:p.H d=some (.dK kvs)) (hn:¬p.O d):Sm G E m {p with H:=upd p.H d (.frz od (.dK kvs))} w ŵ S:=by
 have l:p.le {p with H:=upd p.H d (.frz od (.dK kvs))}:=⟨fun _ _=>rfl,Nat.le_refl _,fun b o n e=>⟨by
  by_cases c:b=d
  ·subst c
   rw [hd] at e; cases e
   exact .inr ⟨kvs,od,rfl,upd_same⟩
  ·exact .inl (by show upd _ _ _ _=_; rw [upd_ne c]; exact e),n⟩⟩
 have nO:∀{b:Addr},p.O b→upd p.H d (.frz od (.dK kvs)) b=p.H b:=fun {b} q=>upd_ne fun c=>hn (c ▸ q)
 refine {h with cel:=fun i d e=>⟨(h.cel i d e).1,(h.cel i d e).2.mono l (nO (h.cel i d e).1)⟩,kp:=fun b o e n=>?_,sub:=fun b o e=>?_,dom:=fun b q=>?_,ent:=fun k e q=>?_}
 ·obtain ⟨k1,k2⟩:=h.kp b o e n
  by_cases c:b=d
  ·subst c
   refine ⟨fun f=>(hn (h.frm b f).1).elim, ?_⟩
   rw [hd] at k2
   exact k2.trans (.inr ⟨kvs,od,rfl,upd_same⟩)
  ·show (_→upd _ _ _ _=_)∧Kept o (upd _ _ _ _)
   rw [upd_ne c]
   exact ⟨k1,k2⟩
 ·by_cases c:b=d
  ·subst c; exact ⟨_,upd_same⟩
  ·obtain ⟨o',e'⟩:=h.sub b o e
   exact ⟨o',by show upd _ _ _ _=_; rw [upd_ne c]; exact e'⟩
 ·obtain ⟨o',e'⟩:=h.dom b q
  exact ⟨o',by show upd _ _ _ _=_; rw [nO q]; exact e'⟩
 ·obtain ⟨u,e1,r⟩:=h.ent k e q
  refine ⟨u,e1, ?_⟩
  cases e with
  | d z=>exact Rep.mono l r
  | own z=>
   obtain ⟨b,rfl,r⟩:=r
   exact ⟨b,rfl,r.mono l (nO (h.own k z b q e1).1)⟩
  | loc t=>exact r
theorem Sm.leave (h:Sm G E m p w ŵ S) (h' :Sm G (E.of p S w ŵ) m' p' w' ŵ' S') (hk:ŵ'[k]? =some (some e)) (hv:w'[k]? =some (some v)) (he:∀j,e≠ .loc j):Sm G E m p' (w++ [some v]) (ŵ++ [some e]) S' :=by
 have h1:=h.after h'
 obtain ⟨u,e2,r⟩:=h'.ent k e hk
 rw [hv] at e2; cases e2
 cases e with
 | d x=>exact h1.push r
 | own x=>
  obtain ⟨a,rfl,r⟩:=r
  obtain ⟨o1,o2,o3,o4⟩:=h'.own k x a hk hv
  refine h1.pushOwn r o1 ?_ (fun z=>o3 (.inl z)) o4 fun j y q1 q2=>o3 (.inr ⟨j,y,q1,q2⟩)
  cases q:E.W.H a with
  | none=>rfl
  | some o=>
   obtain ⟨o',e'⟩:=h.sub _ o q
   have o2:p.H a=none:=o2
   rw [o2] at e'; cases e'
 | loc j=>exact (he j rfl).elim
end
def Rel (G:Gc) (E:En) (σ:L2.St) (τ:List V) (H:Hp) (s:SD) (θ:List Vl):Prop:=∃p:Wr,p.H=H∧σ.length=s.sl.length∧Sm G E s.sl.length p (σ++τ.map some) (s.sl++θ.map some) s.st
def ExV (G:Gc) (p:Wr) (c:Str) (fs:List (Str×D)) (cls:Value) (d:Option Addr):Prop:=
 ∃C,G.mg c=some (.ref C)∧cls= .ref C∧((fs= []∧d=none)∨∃da fvs,d=some da∧p.H da=some (.xd fvs)∧¬p.O da∧RepF G p fs fvs)
def RelX (G:Gc) (E:En) (σ:L2.St) (τ:List V) (H:Hp) (s:SD) (θ:List Vl) (c:Str) (fs:List (Str×D)) (cls:Value) (d:Option Addr):Prop:=
 ∃p:Wr,p.H=H∧σ.length=s.sl.length∧Sm G E s.sl.length p (σ++τ.map some) (s.sl++θ.map some) s.st∧ExV G p c fs cls d
def XP (G:Gc) (W:WX) (E:En) (τ:List V) (θ:List Vl):XQ:=fun c fs s' =>∀cls d σ' H',RelX G E σ' τ H' s' θ c fs cls d→W cls d σ' H'
def Nl (θ:List Vl):Prop:=∀e∈θ,∀j,e≠ .loc j
theorem Nl.snoc {θ:List Vl} {a:Vl} (h:Nl θ) (ha:∀j,a≠ .loc j):Nl (θ++ [a]):=fun e he=>by
 rcases List.mem_append.mp he with he | he
 ·exact h e he
 ·rw [List.mem_singleton.mp he]; exact ha
theorem Nl.d {θ:List Vl} {x:D} (h:Nl θ):Nl (θ++ [.d x]):=h.snoc fun _ q=>nomatch q
def RE (G:Gc) (W:WX) (t:TE) (fe:SD→R Vl):Prop:=∀(E:En) (σ:L2.St) (τ:List V) (H:Hp) (s:SD) (θ:List Vl) (Q:VK),Nl θ→Rel G E σ τ H s θ→
 Wp (fe s) (fun a s' =>∀v H',Rel G E σ (τ++ [v]) H' s' (θ++ [a])→Q v H') (XP G W E τ θ)→t σ H Q
def RT (G:Gc) (W:WX) (t:TT) (fe:SD→R Bool):Prop:=∀(E:En) (σ:L2.St) (τ:List V) (H:Hp) (s:SD) (θ:List Vl) (Q:Bool→Hp→Prop),Nl θ→Rel G E σ τ H s θ→
 Wp (fe s) (fun b s' =>∀H',Rel G E σ τ H' s' θ→Q b H') (XP G W E τ θ)→t σ H Q
def RA (G:Gc) (W:WX) (t:TA) (fe:SD→R (List D)):Prop:=∀(E:En) (σ:L2.St) (τ:List V) (H:Hp) (s:SD) (θ:List Vl) (Q:List V→Hp→Prop),Nl θ→Rel G E σ τ H s θ→
 Wp (fe s) (fun ds s' =>∀vs H',Rel G E σ (τ++vs) H' s' (θ++ds.map .d)→Q vs H') (XP G W E τ θ)→t σ H Q
inductive Fl where
 | nx | bk | ct | rt (a:Vl)
def FP (G:Gc) (E:En) (τ:List V) (θ:List Vl) (D:Ends):Fl→SD→Prop
 | .nx,s' =>∀σ' H',Rel G E σ' τ H' s' θ→D.nx σ' H'
 | .bk,s' =>∀σ' H',Rel G E σ' τ H' s' θ→D.bk σ' H'
 | .ct,s' =>∀σ' H',Rel G E σ' τ H' s' θ→D.ct σ' H'
 | .rt a,s' =>(∀j,a≠ .loc j)∧∀σ' v H',Rel G E σ' (τ++ [v]) H' s' (θ++ [a])→D.rt v H'
def RS (G:Gc) (W:WX) (t:TS) (fz:SD→R Fl):Prop:=∀(E:En) (σ:L2.St) (τ:List V) (H:Hp) (s:SD) (θ:List Vl) (D:Ends),Nl θ→Rel G E σ τ H s θ→
 Wp (fz s) (FP G E τ θ D) (XP G W E τ θ)→t D σ H
section
variable {G:Gc} {W:WX} {E:En} {σ:L2.St} {τ:List V} {H:Hp} {s:SD} {θ:List Vl} {v:V} {a:Vl} {x:D} {p:Wr}
theorem Rel.snoc (h:Sm G E s.sl.length p ((σ++τ.map some)++ [some v]) ((s.sl++θ.map some)++ [some a]) s.st) (hl:σ.length=s.sl.length) (hH:p.H=H):Rel G E σ (τ++ [v]) H s (θ++ [a]):=by
 refine ⟨p,hH,hl, ?_⟩
 rw [List.map_append,List.map_append,←List.append_assoc,←List.append_assoc]
 exact h
theorem Rel.unsnoc (h:Rel G E σ (τ++ [v]) H s (θ++ [a])):∃p:Wr,p.H=H∧σ.length=s.sl.length∧Sm G E s.sl.length p ((σ++τ.map some)++ [some v]) ((s.sl++θ.map some)++ [some a]) s.st:=by
 obtain ⟨p,e,hl,h⟩:=h
 rw [List.map_append,List.map_append,←List.append_assoc,←List.append_assoc] at h
 exact ⟨p,e,hl,h⟩
theorem aP {α β:Type} {l:List α} {l' :List β} {a:α} {b:β} (h:(l++ [a]).length=(l' ++ [b]).length):l.length=l'.length:=by simpa using h
theorem Sm.pop1 {m:Nat} {w:List (Option V)} {ŵ:List (Option Vl)} {S:Sto} {u:Option V} {e:Option Vl} (h:Sm G E m p (w++ [u]) (ŵ++ [e]) S) (hm:m≤w.length):Sm G E m p w ŵ S:=h.pop (aP h.len) hm
theorem bZ {l:List (Option V)} (hl:σ.length=s.sl.length):s.sl.length≤(σ++l).length:=by simp; omega
theorem Rel.pop (h:Rel G E σ (τ++ [v]) H s (θ++ [a])):Rel G E σ τ H s θ:=by
 obtain ⟨p,e,hl,h⟩:=h.unsnoc
 exact ⟨p,e,hl,h.pop1 (bZ hl)⟩
theorem RelX.pop {c:Str} {fs:List (Str×D)} {cls:Value} {d:Option Addr} (h:RelX G E σ (τ++ [v]) H s (θ++ [a]) c fs cls d):RelX G E σ τ H s θ c fs cls d:=by
 obtain ⟨p,e,hl,h,x⟩:=h
 rw [List.map_append,List.map_append,←List.append_assoc,←List.append_assoc] at h
 exact ⟨p,e,hl,h.pop1 (bZ hl),x⟩
theorem XP.up {c:Str} {fs:List (Str×D)} (h:XP G W E τ θ c fs s):XP G W E (τ++ [v]) (θ++ [a]) c fs s:=fun cls d σ' H' r=>h cls d σ' H' r.pop
theorem Rel.len (h:Rel G E σ τ H s θ):(σ++τ.map some).length=(s.sl++θ.map some).length:=let ⟨_,_,_,h⟩:=h; h.len
theorem Rel.tlen (h:Rel G E σ τ H s θ):τ.length=θ.length:=by
 obtain ⟨_,_,hl,h⟩:=h
 have:=h.len
 simp at this
 omega
theorem Rel.last (h:Rel G E σ (τ++ [v]) H s (θ++ [.d x])):∃p:Wr,p.H=H∧Rep G p x v:=by
 obtain ⟨p,e,hl,h⟩:=h.unsnoc
 have l:=aP h.len
 obtain ⟨u,e1,r⟩:=h.ent _ _ (ai (l:=s.sl++θ.map some))
 rw [←l,ai] at e1
 cases e1
 exact ⟨p,e,r⟩
theorem Rel.push (h:Rel G E σ τ H s θ) (r:∀p:Wr,Rep G p x v):Rel G E σ (τ++ [v]) H s (θ++ [.d x]):=by
 obtain ⟨p,e,hl,h⟩:=h
 exact .snoc (h.push (r p)) hl e
end
end Z

namespace Z
open PySem PySem.Spec PyProof.Rows L2 M
open Classical
def SD.cont (s:SD):Vl→Option D
 | .d (.cell i)=>s.st.get i
 | .d x=>some x
 | .own x=>some x
 | .loc k=>match s.sl[k]? with
  | some (some (.own x))=>some x
  | some (some (.d (.cell i)))=>s.st.get i
  | some (some (.d x))=>some x
  | _=>none
def Cont (G:Gc) (p:Wr) (x:D) (v:V):Prop:=(x.box=true∧∃b,v= .ref b∧Hc G p x b)∨(x.box=false∧Rep G p x v)
section
variable {G:Gc} {W:WX} {E:En} {σ:L2.St} {τ:List V} {H:Hp} {s:SD} {θ:List Vl} {v u:V} {a b:Vl} {x y:D} {p:Wr} {Q:VK} {m:Nat} {w:List (Option V)} {S:Sto} {k:Nat}
theorem Ho.box {a:Addr}:∀{x:D},Ho G p x a→x.box=true
 | .lst _,_=>rfl
 | .dct _,_=>rfl
 | .obj _ _,_=>rfl
 | .non,h=>h.elim | .bl _,h=>h.elim | .int _,h=>h.elim | .str _,h=>h.elim | .con _,h=>h.elim | .tup _,h=>h.elim | .exc _ _,h=>h.elim | .cell _,h=>h.elim
theorem Ho.cont {a:Addr} (h:Ho G p x a):Cont G p x (.ref a):= .inl ⟨h.box,a,rfl,h.c⟩
theorem Rep.cont (h:Rep G p x v):Cont G p x v:=by
 cases e:x.box with
 | true=>exact .inl ⟨e,h.c e⟩
 | false=>exact .inr ⟨e,h⟩
theorem Sm.cont_d (h:Sm G E m p w ŵ S) (r:Rep G p y v) (c:(match y with | .cell i=>S.get i | y=>some y)=some x):Cont G p x v:=by
 cases y with
 | cell i=>
  obtain ⟨_,rfl⟩:=r
  exact (h.cel i x c).2.cont
 | _=>cases c; exact r.cont
theorem Sm.cont {l:List (Option Vl)} (h:Sm G E m p w (s.sl++l) s.st) (hm:m=s.sl.length) (q:(s.sl++l)[k]? =some (some a)) (qv:w[k]? =some (some v)) (c:s.cont a=some x):Cont G p x v:=by
 obtain ⟨u,e1,r⟩:=h.ent k a q
 rw [qv] at e1; cases e1
 cases a with
 | d y=>exact h.cont_d r (by cases y<;> exact c)
 | own y=>
  cases c
  obtain ⟨b,rfl,r⟩:=r
  exact r.cont
 | loc j=>
  obtain ⟨_,hj,r⟩:=r
  unfold SD.cont at c
  dsimp only at c
  have hs:∀{e:Option Vl},s.sl[j]? =some e→(s.sl++l)[j]? =some e:=fun q=>by rw [List.getElem?_append_left (aq q)]; exact q
  cases q1:s.sl[j]? with
  | none=>rw [q1] at c; cases c
  | some o=>
   cases o with
   | none=>rw [q1] at c; cases c
   | some z=>
    obtain ⟨u,e2,r2⟩:=h.ent j z (hs q1)
    rw [r] at e2; cases e2
    rw [q1] at c
    cases z with
    | d y=>exact h.cont_d r2 (by cases y<;> exact c)
    | own y=>
     cases c
     obtain ⟨b,rfl,r2⟩:=r2
     exact r2.cont
    | loc i=>cases c
theorem Cont.lst {ds:List D} (h:Cont G p (.lst ds) v):∃b vs,v= .ref b∧p.H b=some (.lst vs)∧Reps G p ds vs:=by
 rcases h with ⟨_,b,e,vs,h,r⟩ | ⟨q,_⟩
 ·exact ⟨b,vs,e,h,r⟩
 ·cases q
theorem Cont.con {ds:List D} (h:Cont G p (.con ds) v):∃b vs,v= .ref b∧SqL G.K p.H b vs∧Reps G p ds vs:=by
 rcases h with ⟨_,b,e,vs,h,r⟩ | ⟨q,_⟩
 ·exact ⟨b,vs,e,h,r⟩
 ·cases q
theorem Cont.tup {ds:List D} (h:Cont G p (.tup ds) v):∃b vs,v= .ref b∧p.H b=some (.tup vs)∧Reps G p ds vs:=by
 rcases h with ⟨_,b,e,vs,h,r⟩ | ⟨q,_⟩
 ·exact ⟨b,vs,e,h,r⟩
 ·cases q
theorem Cont.dct {ds:List (Key×D)} (h:Cont G p (.dct ds) v):∃b vs,v= .ref b∧Rd p.H b (.dK vs)∧RepK G p ds vs:=by
 rcases h with ⟨_,b,e,vs,h,r⟩ | ⟨q,_⟩
 ·exact ⟨b,vs,e,h,r⟩
 ·cases q
theorem Cont.obj {c:Str} {ds:List (Str×D)} (h:Cont G p (.obj c ds) v):∃b C dx vs,v= .ref b∧G.mg c=some (.ref C)∧p.H b=some (.ins C dx vs)∧RepF G p ds vs:=by
 rcases h with ⟨_,b,e,C,dx,vs,m,h,r⟩ | ⟨q,_⟩
 ·exact ⟨b,C,dx,vs,e,m,h,r⟩
 ·cases q
theorem Cont.sc (h:Cont G p x v) (hx:x.box=false):Rep G p x v:=by
 rcases h with ⟨q,_⟩ | ⟨_,h⟩
 ·rw [hx] at q; cases q
 ·exact h
theorem Cont.int {i:Int} (h:Cont G p (.int i) v):v= .int i:=h.sc rfl
theorem Cont.str {i:Str} (h:Cont G p (.str i) v):v= .str i:=h.sc rfl
theorem Cont.bl {i:Bool} (h:Cont G p (.bl i) v):v= .bl i:=h.sc rfl
def kT (G:Gc) (r:V→Hp→VK→Prop) (f:Vl→SD→R Vl):Prop:=∀(E:En) (σ:L2.St) (τ:List V) (s:SD) (θ:List Vl) (p:Wr) (v:V) (a:Vl) (Q:VK),σ.length=s.sl.length→
 Sm G E s.sl.length p ((σ++τ.map some)++ [some v]) ((s.sl++θ.map some)++ [some a]) s.st→Wp (f a s) (fun b s' =>∀u H',Rel G E σ (τ++ [u]) H' s' (θ++ [b])→Q u H') (fun _ _ _=>False)→r v p.H Q
def cX (G:Gc) (r:R2) (f:Vl→Vl→SD→R Vl):Prop:=∀(E:En) (σ:L2.St) (τ:List V) (s:SD) (θ:List Vl) (p:Wr) (v u:V) (a b:Vl) (Q:VK),σ.length=s.sl.length→
 Sm G E s.sl.length p (((σ++τ.map some)++ [some v])++ [some u]) (((s.sl++θ.map some)++ [some a])++ [some b]) s.st→Wp (f a b s) (fun b s' =>∀u H',Rel G E σ (τ++ [u]) H' s' (θ++ [b])→Q u H') (fun _ _ _=>False)→r v u p.H Q
def z1 (f:Vl→SD→R Vl) (fa:SD→R Vl):SD→R Vl:=fun s=>(fa s).bind f
def z2 (f:Vl→Vl→SD→R Vl) (fa fb:SD→R Vl):SD→R Vl:=fun s=>(fa s).bind fun a s1=>(fb s1).bind fun b s2=>f a b s2
theorem RE.op1 {r:V→Hp→VK→Prop} {f:Vl→SD→R Vl} {ta:TE} {fa:SD→R Vl} (hp:kT G r f) (nx:∀a s c fs s',f a s≠ .ex c fs s') (ha:RE G W ta fa):RE G W (fun σ H Q=>ta σ H fun x H1=>r x H1 Q) (z1 f fa):=by
 intro E σ τ H s θ Q hN hR hw
 unfold z1 at hw
 rw [ae] at hw
 refine ha E σ τ H s θ _ hN hR (hw.mono (fun a s1 hw v H1 h1=>?_) fun _ _ _ h=>h)
 obtain ⟨p,rfl,hl,h⟩:=h1.unsnoc
 refine hp E σ τ s1 θ p v a Q hl h ?_
 cases e:f a s1 with
 | ok b s2=>rw [e] at hw; exact hw
 | ex c fs s2=>exact (nx _ _ _ _ _ e).elim
 | bad=>rw [e] at hw; exact hw
theorem Sm.pushLoc' {j:Nat} (h:Sm G E m p w ŵ S) (hm:m≤w.length) (hj:j<m) (hv:w[j]? =some (some v)):Sm G E m p (w++ [some v]) (ŵ++ [some (.loc j)]) S:=by
 refine {h with len:=by simp [h.len],ent:=fun k e q=>?_,own:=fun k y a q1 q2=>?_,sep:=fun j k y z a q1 q2 q3 q4=>?_}
 ·rcases aM q with q | ⟨rfl,qq⟩
  ·obtain ⟨u,e1,r1⟩:=h.ent k e q
   exact ⟨u,bh e1,r1.mono (.refl p) (fun _ _ _ _ _=>rfl) fun j v _ e=>bh e⟩
  ·obtain rfl:=Option.some.inj qq
   exact ⟨v,by rw [←h.len]; exact ai,by rw [←h.len]; exact hm,hj,bh hv⟩
 ·rcases aM q1 with q | ⟨rfl,qq⟩
  ·have:k<w.length:=by rw [h.len]; exact aq q
   rw [List.getElem?_append_left this] at q2
   exact h.own k y a q q2
  ·cases qq
 ·rcases aM q1 with q1 | ⟨rfl,qq⟩
  ·rcases aM q2 with q2 | ⟨rfl,qq⟩
   ·rw [List.getElem?_append_left (by rw [h.len]; exact aq q1)] at q3
    rw [List.getElem?_append_left (by rw [h.len]; exact aq q2)] at q4
    exact h.sep j k y z a q1 q2 q3 q4
   ·cases qq
  ·cases qq
theorem Rel.unloc {k:Nat} (h:Rel G E σ (τ++ [v]) H s (θ++ [.loc k])):k<s.sl.length∧σ[k]? =some (some v):=by
 obtain ⟨p,e,hl,h⟩:=h.unsnoc
 obtain ⟨u,e1,r1,r2,r3⟩:=h.ent _ _ (ai (l:=s.sl++θ.map some))
 rw [←aP h.len,ai] at e1; cases e1
 refine ⟨r2, ?_⟩
 rw [List.append_assoc,List.getElem?_append_left (by omega)] at r3
 exact r3
theorem Rel.reloc {k:Nat} (h:Rel G E σ τ H s θ) (hk:σ[k]? =some (some v)):Rel G E σ (τ++ [v]) H s (θ++ [.loc k]):=by
 obtain ⟨p,e,hl,h⟩:=h
 have:=aq hk
 exact .snoc (h.pushLoc' (bZ hl) (by omega) (by rw [List.getElem?_append_left this]; exact hk)) hl e
theorem Sm.pick (h:Sm G E m p w ŵ S) {w' :List (Option V)} {ŵ' :List (Option Vl)} (f:Nat→Nat) (hl:w'.length=ŵ'.length) (hf:∀(k:Nat) (e:Vl),ŵ'[k]? =some (some e)→ŵ[f k]? =some (some e)∧w'[k]? =w[f k]? ∧(m≤f k→m≤k)) (hi:∀(j k:Nat) (y z:D),ŵ'[j]? =some (some (.own y))→ŵ'[k]? =some (some (.own z))→f j=f k→j=k)
  (hm:∀(k:Nat),k<m→w'[k]? =w[k]?):Sm G E m p w' ŵ' S:=by
 refine {h with len:=hl,ent:=fun k e q=>?_,own:=fun k y a q1 q2=>?_,sep:=fun j k y z a q1 q2 q3 q4=>?_}
 ·obtain ⟨q1,q2,q3⟩:=hf k e q
  obtain ⟨v,e1,r⟩:=h.ent _ _ q1
  refine ⟨v,q2.trans e1, ?_⟩
  cases e with
  | d x=>exact r
  | own x=>exact r
  | loc j=>exact ⟨q3 r.1,r.2.1,(hm j r.2.1).trans r.2.2⟩
 ·obtain ⟨q3,q4,_⟩:=hf k _ q1
  exact h.own _ y a q3 (q4.symm.trans q2)
 ·obtain ⟨r1,r2,_⟩:=hf j _ q1
  obtain ⟨r3,r4,_⟩:=hf k _ q2
  exact hi j k y z q1 q2 (h.sep _ _ y z a r1 r3 (r2.symm.trans q3) (r4.symm.trans q4))
theorem Rel.swap (h:Rel G E σ (τ++ [u]++ [v]) H s (θ++ [b]++ [a])) (ht:τ.length=θ.length):Rel G E σ (τ++ [v]++ [u]) H s (θ++ [a]++ [b]):=by
 obtain ⟨p,e,hl,h⟩:=h
 refine ⟨p,e,hl, ?_⟩
 have e1:∀(x y:V),σ++(τ++ [x]++ [y]).map some=(σ++τ.map some)++ [some x,some y]:=fun x y=>by simp
 have e2:∀(x y:Vl),s.sl++(θ++ [x]++ [y]).map some=(s.sl++θ.map some)++ [some x,some y]:=fun x y=>by simp
 rw [e1,e2] at h ⊢
 have l:(σ++τ.map some).length=(s.sl++θ.map some).length:=by simp [hl,ht]
 generalize (σ++τ.map some)=A at*
 have hm:s.sl.length≤(s.sl++θ.map some).length:=by simp
 generalize (s.sl++θ.map some)=B at*
 have fl:∀{α:Type} {A:List α} {x y z w:α} {k:Nat},k<A.length→(A++ [x,y])[k]? =(A++ [z,w])[k]? :=fun {α A x y z w k} hk=>by rw [List.getElem?_append_left hk,List.getElem?_append_left hk]
 have f0:∀{α:Type} {A:List α} {x y:α},(A++ [x,y])[A.length]? =some x:=fun {α A x y}=>by rw [List.getElem?_append_right (Nat.le_refl _)]; simp
 have f1:∀{α:Type} {A:List α} {x y:α},(A++ [x,y])[A.length+1]? =some y:=fun {α A x y}=>by rw [List.getElem?_append_right (Nat.le_succ _)]; simp
 refine h.pick (fun k=>if k=B.length then B.length+1 else if k=B.length+1 then B.length else k) (by simp [l]) (fun k e q=>?_) (fun j k y z h1 h2 e=>?_) fun k hk=>fl (by omega)
 ·by_cases c:k<B.length
  ·rw [if_neg (by omega),if_neg (by omega)]
   exact ⟨(fl c).trans q,fl (by omega),id⟩
  ·by_cases c2:k=B.length
   ·subst c2
    rw [if_pos rfl]
    rw [f0] at q
    exact ⟨f1.trans q,by rw [←l,f0,f1],fun _=>hm⟩
   ·have:k=B.length+1:=by have:=aq q; simp at this; omega
    subst this
    rw [if_neg (by omega),if_pos rfl]
    rw [f1] at q
    exact ⟨f0.trans q,by rw [←l,f0,f1],fun _=>by omega⟩
 ·split at e<;> split at e<;> (try split at e)<;> (try split at e)<;> omega
theorem RE.two {ta tb:TE} {fa fb:SD→R Vl} {α:Type} {f:Vl→Vl→SD→R α} {P:α→SD→Prop} {Q:V→V→Hp→Prop} (ha:RE G W ta fa) (hb:RE G W tb fb) (hN:Nl θ) (hR:Rel G E σ τ H s θ)
  (hw:Wp ((fa s).bind fun a s1=>(fb s1).bind fun b s2=>f a b s2) P (XP G W E τ θ))
  (k:∀(a b:Vl) (s2:SD) (v u:V) (H2:Hp),Rel G E σ (τ++ [v]++ [u]) H2 s2 (θ++ [a]++ [b])→Wp (f a b s2) P (XP G W E τ θ)→Q v u H2):ta σ H fun x H1=>tb σ H1 fun y H2=>Q x y H2:=by
 rw [ae] at hw
 refine ha E σ τ H s θ _ hN hR (hw.mono (fun a s1 hw v H1 h1=>?_) fun _ _ _ h=>h)
 rw [ae] at hw
 by_cases c:∃j,a= .loc j
 ·obtain ⟨j,rfl⟩:=c
  obtain ⟨c1,c2⟩:=h1.unloc
  refine hb E σ τ H1 s1 θ _ hN h1.pop (hw.mono (fun b s2 hw u H2 h2=>k _ _ _ _ _ _ ?_ hw) fun _ _ _ h=>h)
  exact (h2.reloc c2).swap hR.tlen
 ·exact hb E σ _ H1 s1 _ _ (hN.snoc fun j q=>c ⟨j,q⟩) h1 (hw.mono (fun b s2 hw u H2 h2=>k _ _ _ _ _ _ h2 hw) fun _ _ _ h=>h.up)
theorem RE.op2 {r:R2} {f:Vl→Vl→SD→R Vl} {ta tb:TE} {fa fb:SD→R Vl} (hp:cX G r f) (nx:∀a b s c fs s',f a b s≠ .ex c fs s') (ha:RE G W ta fa) (hb:RE G W tb fb):RE G W (tOp r ta tb) (z2 f fa fb):=by
 intro E σ τ H s θ Q hN hR hw
 refine RE.two ha hb hN hR hw fun a b s2 v u H2 h2 hw=>?_
 obtain ⟨p,rfl,hl,h⟩:=h2.unsnoc
 rw [List.map_append,List.map_append,←List.append_assoc,←List.append_assoc] at h
 refine hp E σ τ s2 θ p v u a b Q hl h ?_
 cases e:f a b s2 with
 | ok b s2=>rw [e] at hw; exact hw
 | ex c fs s2=>exact (nx _ _ _ _ _ _ e).elim
 | bad=>rw [e] at hw; exact hw
theorem bA (h:Sm G E s.sl.length p (σ++τ.map some) (s.sl++θ.map some) s.st) (hl:σ.length=s.sl.length) (hq:∀u H',Rel G E σ (τ++ [u]) H' s (θ++ [.d x])→Q u H') (r:Rep G p x v):Q v p.H:=
 hq v _ (.snoc (h.push r) hl rfl)
theorem dC {ds:List D} {vs:List V} {a:Addr} (h:Sm G E s.sl.length p (σ++τ.map some) (s.sl++θ.map some) s.st) (hl:σ.length=s.sl.length) (hq:∀u H',Rel G E σ (τ++ [u]) H' s (θ++ [.own (.lst ds)])→Q u H') (hn:p.H a=none) (r:Reps G p ds vs):Q (.ref a) (upd p.H a (.lst vs)):=
 hq _ _ (.snoc (h.allocOwn hn ⟨vs,upd_same,r.mono (jh hn)⟩) hl rfl)
theorem uk {ds:List (Key×D)} {vs:List (Key×V)} {a:Addr} (h:Sm G E s.sl.length p (σ++τ.map some) (s.sl++θ.map some) s.st) (hl:σ.length=s.sl.length) (hq:∀u H',Rel G E σ (τ++ [u]) H' s (θ++ [.own (.dct ds)])→Q u H') (hn:p.H a=none) (r:RepK G p ds vs):Q (.ref a) (upd p.H a (.dK vs)):=
 hq _ _ (.snoc (h.allocOwn hn ⟨vs,upd_same,r.mono (jh hn)⟩) hl rfl)
theorem ui {ds:List D} {vs:List V} {a:Addr} (h:Sm G E s.sl.length p (σ++τ.map some) (s.sl++θ.map some) s.st) (hl:σ.length=s.sl.length) (hq:∀u H',Rel G E σ (τ++ [u]) H' s (θ++ [.d (.tup ds)])→Q u H') (hn:p.H a=none) (r:Reps G p ds vs):Q (.ref a) (upd p.H a (.tup vs)):=
 hq _ _ (.snoc ((h.alloc hn).push (x:= .tup ds) ⟨a,vs,rfl,⟨(h.fresh hn).2,upd_same⟩,r.mono (dP hn)⟩) hl rfl)
theorem dq (hl:σ.length=s.sl.length) (h:Sm G E s.sl.length p ((σ++τ.map some)++ [some v]) ((s.sl++θ.map some)++ [some a]) s.st):Sm G E s.sl.length p (σ++τ.map some) (s.sl++θ.map some) s.st∧(∀x,s.cont a=some x→Cont G p x v)∧Rv G p s.sl.length ((σ++τ.map some)++ [some v]) (s.sl++θ.map some).length a v:=by
 have l:=aP h.len
 refine ⟨h.pop1 (bZ hl),fun x c=>?_, ?_⟩
 ·rw [List.append_assoc (as:=s.sl)] at h
  exact h.cont rfl (k:=(s.sl++θ.map some).length) (by rw [←List.append_assoc]; exact ai) (by rw [←l]; exact ai) c
 ·obtain ⟨u,e1,r⟩:=h.ent _ _ ai
  rw [←l,ai] at e1; cases e1
  exact r
theorem eJ (hl:σ.length=s.sl.length) (h:Sm G E s.sl.length p (((σ++τ.map some)++ [some v])++ [some u]) (((s.sl++θ.map some)++ [some a])++ [some b]) s.st):
  Sm G E s.sl.length p (σ++τ.map some) (s.sl++θ.map some) s.st∧(∀x,s.cont a=some x→Cont G p x v)∧(∀x,s.cont b=some x→Cont G p x u):=by
 have h1:=h.pop1 (by simp; omega)
 obtain ⟨h2,c1,_⟩:=dq hl h1
 refine ⟨h2,c1,fun x c=>?_⟩
 have l:=aP h.len
 rw [List.append_assoc (as:=s.sl),List.append_assoc (as:=s.sl)] at h
 exact h.cont rfl (k:=((s.sl++θ.map some)++ [some a]).length) (by rw [←List.append_assoc (as:=s.sl),←List.append_assoc (as:=s.sl)]; exact ai) (by rw [←l]; exact ai) c
def zC (x:D):SD→R Vl:=fun s=> .ok (.d x) s
def aa (i:Nat):SD→R Vl:=fun s=>match s.sl[i]? with
 | some (some (.own _))=> .ok (.loc i) s
 | some (some (.d x))=> .ok (.d x) s
 | _=> .bad
theorem RE.c (hx:∀p:Wr,Rep G p x v):RE G W (tC v) (zC x):=fun _ _ _ _ _ _ _ _ hR hw=>hw _ _ (hR.push hx)
theorem aaa {i:Nat}:RE G W (tVar i) (aa i):=by
 intro E σ τ H s θ Q hN hR hw
 obtain ⟨p,rfl,hl,h⟩:=hR
 unfold aa at hw
 have hs:∀{e:Option Vl},s.sl[i]? =some e→(s.sl++θ.map some)[i]? =some e:=fun q=>by rw [List.getElem?_append_left (aq q)]; exact q
 have go:∀{e:Vl},s.sl[i]? =some (some e)→∃v,σ[i]? =some (some v)∧(σ++τ.map some)[i]? =some (some v)∧Rv G p s.sl.length (σ++τ.map some) i e v:=fun {e} q=>by
  obtain ⟨v,e1,r⟩:=h.ent i e (hs q)
  refine ⟨v, ?_,e1,r⟩
  rw [List.getElem?_append_left (by rw [hl]; exact aq q)] at e1
  exact e1
 cases q:s.sl[i]? with
 | none=>rw [q] at hw; exact hw.elim
 | some o=>
  rw [q] at hw
  cases o with
  | none=>exact hw.elim
  | some e=>
   obtain ⟨v,e1,e2,r⟩:=go q
   cases e with
   | d x=>exact ⟨v,e1,hw v _ (.snoc (h.push r) hl rfl)⟩
   | own x=>exact ⟨v,e1,hw v _ (.snoc (h.pushLoc (by simp; omega) (aq q) (hs q) e2) hl rfl)⟩
   | loc j=>exact hw.elim
end
def SD.fix (s:SD):Vl→R D
 | .d x=> .ok x s
 | .own x=> .ok x s
 | .loc k=>match s.sl[k]? with
  | some (some (.own x))=> .ok x {s with sl:=s.sl.set k (some (.d x))}
  | some (some (.d x))=> .ok x s
  | _=> .bad
def SD.celled (s:SD):Vl→R D
 | .d (.cell i)=> .ok (.cell i) s
 | .own x=> .ok (.cell s.st.nx) {s with st:=s.st.new x}
 | .loc k=>match s.sl[k]? with
  | some (some (.own x))=> .ok (.cell s.st.nx) ⟨s.sl.set k (some (.d (.cell s.st.nx))),s.st.new x⟩
  | some (some (.d (.cell i)))=> .ok (.cell i) s
  | _=> .bad
 | _=> .bad
def SD.frz (s:SD):Vl→R D
 | .d (.cell i)=>match s.st.get i with
  | some x=> .ok x {s with st:=s.st.del i}
  | none=> .bad
 | _=> .bad
def wh (g:SD→Vl→R D) (fa:SD→R Vl):SD→R Vl:=fun s=>(fa s).bind fun a s1=>(g s1 a).bind fun x s2=> .ok (.d x) s2
abbrev aG:=wh SD.fix
abbrev bx:=wh SD.celled
abbrev zFrz:=wh SD.frz
section
variable {G:Gc} {W:WX} {E:En} {σ:L2.St} {τ:List V} {H:Hp} {s s' :SD} {θ:List Vl} {v u:V} {a b:Vl} {x y:D} {p:Wr} {Q:VK} {m:Nat} {w:List (Option V)} {S:Sto} {k:Nat} {l:List (Option Vl)}
theorem gO {α:Type} {l:List α} {x y:α}:(l++ [x]).set l.length y=l++ [y]:=by
 rw [List.set_append_right _ _ (Nat.le_refl _)]
 simp
theorem cG {α:Type} {l r:List α} {x:α} {k:Nat} (h:k<l.length):(l++r).set k x=l.set k x++r:=List.set_append_left _ _ h
theorem Sm.slot {e:Vl} (h:Sm G E m p w (s.sl++l) S) (q:s.sl[k]? =some (some e)):(s.sl++l)[k]? =some (some e)∧∃v,w[k]? =some (some v)∧Rv G p m w k e v:=by
 have hs:(s.sl++l)[k]? =some (some e):=by rw [List.getElem?_append_left (aq q)]; exact q
 exact ⟨hs,h.ent k e hs⟩
def Fits (G:Gc) (g:SD→Vl→R D):Prop:=∀(E:En) (s:SD) (a:Vl) (x:D) (s' :SD) (p:Wr) (w:List (Option V)) (l:List (Option Vl)) (v:V),g s a= .ok x s'→
 Sm G E s.sl.length p (w++ [some v]) ((s.sl++l)++ [some a]) s.st→s.sl.length≤w.length→
 ∃p' :Wr,p'.H=p.H∧s'.sl.length=s.sl.length∧Sm G E s'.sl.length p' (w++ [some v]) ((s'.sl++l)++ [some (.d x)]) s'.st
theorem zt:Fits G SD.fix:=by
 intro E s a x s' p w l v c h hm
 have ll:=aP h.len
 cases a with
 | d y=>
  cases c
  exact ⟨p,rfl,rfl,h⟩
 | own y=>
  cases c
  obtain ⟨u,e1,a,rfl,r⟩:=h.ent _ _ ai
  have q:=h.settle (k:=(s.sl++l).length) (x:=x) (a:=a) ai e1
  rw [gO] at q
  exact ⟨_,(by rfl),(by rfl),q⟩
 | loc k=>
  unfold SD.fix at c
  dsimp only at c
  obtain ⟨u,e1,r0,r1,r2⟩:=h.ent _ _ (ai (l:=s.sl++l))
  rw [←ll,ai] at e1
  cases e1
  cases q1:s.sl[k]? with
  | none=>rw [q1] at c; cases c
  | some o=>
   cases o with
   | none=>rw [q1] at c; cases c
   | some z=>
    rw [q1] at c
    rw [List.append_assoc] at h
    obtain ⟨hs,u,e2,r⟩:=h.slot q1
    rw [r2] at e2; cases e2
    cases z with
    | d y=>
     cases c
     rw [←List.append_assoc] at h
     exact ⟨p,rfl,rfl,(h.pop1 hm).push r⟩
    | own y=>
     cases c
     obtain ⟨a,rfl,r⟩:=r
     have q:=h.settle hs r2
     rw [cG (aq q1),←List.append_assoc] at q
     obtain ⟨u,e3,r3⟩:=q.ent k (.d _) (by rw [List.append_assoc,List.getElem?_append_left (by simpa using aq q1)]; exact sR (aq q1))
     rw [r2] at e3
     cases e3
     have q' :=(q.pop1 hm).push r3
     refine ⟨{p with O:=fun b=>p.O b∧b≠a},rfl,List.length_set, ?_⟩
     show Sm G E (s.sl.set _ _).length _ _ _ _
     rw [List.length_set]
     exact q'
    | loc j=>cases c
theorem Ah:Fits G SD.celled:=by
 intro E s a x s' p w l v c h hm
 have ll:=aP h.len
 cases a with
 | d y=>
  cases y with
  | cell i=>cases c; exact ⟨p,rfl,rfl,h⟩
  | _=>cases c
 | own y=>
  cases c
  obtain ⟨u,e1,a,rfl,r⟩:=h.ent _ _ ai
  have q:=h.celled (k:=(s.sl++l).length) (x:=y) (a:=a) ai e1
  rw [gO] at q
  exact ⟨_,(by rfl),(by rfl),q⟩
 | loc k=>
  unfold SD.celled at c
  dsimp only at c
  obtain ⟨u,e1,r0,r1,r2⟩:=h.ent _ _ (ai (l:=s.sl++l))
  rw [←ll,ai] at e1
  cases e1
  cases q1:s.sl[k]? with
  | none=>rw [q1] at c; cases c
  | some o=>
   cases o with
   | none=>rw [q1] at c; cases c
   | some z=>
    rw [q1] at c
    rw [List.append_assoc] at h
    obtain ⟨hs,u,e2,r⟩:=h.slot q1
    rw [r2] at e2; cases e2
    cases z with
    | d y=>
     cases y with
     | cell i=>
      cases c
      rw [←List.append_assoc] at h
      exact ⟨p,rfl,rfl,(h.pop1 hm).push r⟩
     | _=>cases c
    | own y=>
     cases c
     obtain ⟨a,rfl,r⟩:=r
     have q:=h.celled hs r2
     rw [cG (aq q1),←List.append_assoc] at q
     obtain ⟨u,e3,r3⟩:=q.ent k (.d (.cell s.st.nx)) (by rw [List.append_assoc,List.getElem?_append_left (by simpa using aq q1)]; exact sR (aq q1))
     rw [r2] at e3
     cases e3
     have q' :=(q.pop1 hm).push r3
     refine ⟨{p with γ:=fun i=>if i=s.st.nx then a else p.γ i,n:=s.st.nx+1},rfl,List.length_set, ?_⟩
     show Sm G E (s.sl.set _ _).length _ _ _ _
     rw [List.length_set]
     exact q'
    | loc j=>cases c
theorem frz_ok:Fits G SD.frz:=by
 intro E s a x s' p w l v c h hm
 cases a with
 | d y=>
  cases y with
  | cell i=>
   unfold SD.frz at c
   dsimp only at c
   cases q1:s.st.get i with
   | none=>rw [q1] at c; cases c
   | some z=>
    rw [q1] at c
    cases c
    have q:=h.freeze (k:=(s.sl++l).length) q1 ai
    rw [gO] at q
    exact ⟨_,(by rfl),(by rfl),q⟩
  | _=>cases c
 | own y=>cases c
 | loc k=>cases c
theorem RE.via {g:SD→Vl→R D} {ta:TE} {fa:SD→R Vl} (hg:Fits G g) (nx:∀s a c fs s',g s a≠ .ex c fs s') (ha:RE G W ta fa):RE G W ta (wh g fa):=by
 intro E σ τ H s θ Q hN hR hw
 unfold wh at hw
 rw [ae] at hw
 refine ha E σ τ H s θ _ hN hR (hw.mono (fun a s1 hw v H1 h1=>?_) fun _ _ _ h=>h)
 rw [ae] at hw
 obtain ⟨p,rfl,hl,h⟩:=h1.unsnoc
 cases e:g s1 a with
 | bad=>rw [e] at hw; exact hw.elim
 | ex c fs s2=>exact (nx _ _ _ _ _ e).elim
 | ok x s2=>
  rw [e] at hw
  obtain ⟨p',hp,hs,h'⟩:=hg E s1 a x s2 p _ _ v e h (bZ hl)
  exact hw v _ (hp ▸ .snoc h' (hl.trans hs.symm) rfl)
theorem vS:∀(s:SD) (a:Vl) c fs s',s.fix a≠ .ex c fs s' :=by
 intro s a c fs s'
 cases a with
 | d x=>intro q; cases q
 | own x=>intro q; cases q
 | loc k=>
  unfold SD.fix
  dsimp only
  split<;> intro q<;> cases q
theorem Ai:∀(s:SD) (a:Vl) c fs s',s.celled a≠ .ex c fs s' :=by
 intro s a c fs s'
 cases a with
 | d x=>cases x<;> intro q<;> cases q
 | own x=>intro q; cases q
 | loc k=>
  unfold SD.celled
  dsimp only
  split<;> intro q<;> cases q
theorem frz_nx:∀(s:SD) (a:Vl) c fs s',s.frz a≠ .ex c fs s' :=by
 intro s a c fs s'
 unfold SD.frz
 split
 ·split<;> intro q<;> cases q
 ·intro q; cases q
theorem RE.fix {ta:TE} {fa:SD→R Vl} (ha:RE G W ta fa):RE G W ta (aG fa):=RE.via zt vS ha
theorem RE.cell {ta:TE} {fa:SD→R Vl} (ha:RE G W ta fa):RE G W ta (bx fa):=RE.via Ah Ai ha
theorem RE.frz {ta:TE} {fa:SD→R Vl} (ha:RE G W ta fa):RE G W ta (zFrz fa):=RE.via frz_ok frz_nx ha
def zA0:SD→R (List D):=fun s=> .ok [] s
def zA (fa:SD→R Vl) (fr:SD→R (List D)):SD→R (List D):=fun s=>(fa s).bind fun a s1=>(s1.fix a).bind fun x s2=>(fr s2).bind fun xs s3=> .ok (x::xs) s3
theorem RA.nil:RA G W tNil zA0:=by
 intro E σ τ H s θ Q hN hR hw
 exact hw [] H (by simpa using hR)
theorem RA.cons {ta:TE} {t:TA} {fa:SD→R Vl} {fr:SD→R (List D)} (ha:RE G W ta fa) (hr:RA G W t fr):RA G W (tCons ta t) (zA fa fr):=by
 intro E σ τ H s θ Q hN hR hw
 refine RE.fix ha E σ τ H s θ _ hN hR ?_
 unfold zA at hw
 rw [ae] at hw
 unfold aG wh
 rw [ae]
 refine hw.mono (fun a s1 hw=>?_) fun _ _ _ h=>h
 rw [ae] at hw ⊢
 refine hw.mono (fun x s2 hw=>?_) fun _ _ _ h=>h
 rw [ae] at hw
 intro v H1 h1
 refine hr E σ _ H1 s2 _ _ hN.d h1 (hw.mono (fun xs s3 hw vs H2 h2=>?_) fun _ _ _ h=>h.up)
 exact hw (v::vs) H2 (by simpa using h2)
theorem Rel.args {vs:List V} {ds:List D} (ht:τ.length=θ.length) (h:Rel G E σ (τ++vs) H s (θ++ds.map .d)):∃p:Wr,p.H=H∧σ.length=s.sl.length∧Sm G E s.sl.length p (σ++τ.map some) (s.sl++θ.map some) s.st∧Reps G p ds vs:=by
 obtain ⟨p,e,hl,h⟩:=h
 rw [List.map_append,List.map_append,←List.append_assoc,←List.append_assoc] at h
 have l:(σ++τ.map some).length=(s.sl++θ.map some).length:=by simp [hl,ht]
 refine ⟨p,e,hl,h.pop l (bZ hl), ?_⟩
 have len:=h.len
 refine .of (by simp at len; omega) fun i d v e1 e2=>?_
 obtain ⟨u,e3,r⟩:=h.ent ((s.sl++θ.map some).length+i) (.d d) (by rw [List.getElem?_append_right (by omega)]; simp [e1])
 rw [←l,List.getElem?_append_right (by omega)] at e3
 simp [e2] at e3
 subst e3
 exact r
def hX (fr:SD→R (List D)):SD→R Vl:=fun s=>(fr s).bind fun xs s1=> .ok (.d (.tup xs)) s1
def bV (fr:SD→R (List D)):SD→R Vl:=fun s=>(fr s).bind fun xs s1=> .ok (.own (.lst xs)) s1
def Many (fr:SD→R (List D)) (n:Nat):Prop:=∀s xs s',fr s= .ok xs s'→xs.length=n
theorem Many.nil:Many zA0 0:=fun s xs s' e=>by cases e; rfl
theorem Many.cons {fa:SD→R Vl} {fr:SD→R (List D)} {n:Nat} (h:Many fr n):Many (zA fa fr) (n+1):=fun s xs s' e=>by
 unfold zA at e
 cases q1:fa s with
 | bad=>rw [q1] at e; cases e
 | ex c fs s1=>rw [q1] at e; cases e
 | ok a s1=>
  rw [q1] at e
  have e:((s1.fix a).bind fun x s2=>(fr s2).bind fun xs s3=> .ok (x::xs) s3)= .ok xs s' :=e
  cases q2:s1.fix a with
  | bad=>rw [q2] at e; cases e
  | ex c fs s1=>rw [q2] at e; cases e
  | ok x s2=>
   rw [q2] at e
   have e:((fr s2).bind fun xs s3=> .ok (x::xs) s3)= .ok xs s' :=e
   cases q3:fr s2 with
   | bad=>rw [q3] at e; cases e
   | ex c fs s1=>rw [q3] at e; cases e
   | ok ys s3=>
    rw [q3] at e
    cases e
    simp [h _ _ _ q3]
theorem Wp.eq {α:Type} {m:R α} {Q:α→SD→Prop} {E:XQ} (h:Wp m Q E):Wp m (fun a s=>m= .ok a s∧Q a s) E:=by
 cases m with
 | ok a s=>exact ⟨rfl,h⟩
 | ex c fs s=>exact h
 | bad=>exact h
theorem RE.tup {t:TA} {fr:SD→R (List D)} {n:Nat} (hr:RA G W t fr) (hm:Many fr n) (hn:n≤sizeLine):RE G W (tTup t) (hX fr):=by
 intro E σ τ H s θ Q hN hR hw
 unfold hX at hw
 rw [ae] at hw
 refine hr E σ τ H s θ _ hN hR (hw.eq.mono (fun xs s1 ⟨e,hw⟩ vs H1 h1=>?_) fun _ _ _ h=>h)
 obtain ⟨p,rfl,hl,h,r⟩:=h1.args hR.tlen
 exact ⟨by rw [r.len,hm _ _ _ e]; exact hn,fun a hn=>ui h hl hw hn r⟩
theorem RE.lst {t:TA} {fr:SD→R (List D)} {n:Nat} (hr:RA G W t fr) (hm:Many fr n) (hn:n≤sizeLine):RE G W (tLst t) (bV fr):=by
 intro E σ τ H s θ Q hN hR hw
 unfold bV at hw
 rw [ae] at hw
 refine hr E σ τ H s θ _ hN hR (hw.eq.mono (fun xs s1 ⟨e,hw⟩ vs H1 h1=>?_) fun _ _ _ h=>h)
 obtain ⟨p,rfl,hl,h,r⟩:=h1.args hR.tlen
 exact ⟨by rw [r.len,hm _ _ _ e]; exact hn,fun a hn=>dC h hl hw hn r⟩
def zDnew:SD→R Vl:=fun s=> .ok (.own (.dct [])) s
theorem RE.dnew:RE G W tDNewK zDnew:=by
 intro E σ τ H s θ Q hN hR hw
 obtain ⟨p,rfl,hl,h⟩:=hR
 exact fun a hn=>uk h hl hw hn rfl
def oB:Vl→SD→R Bool
 | .d (.bl b),s=> .ok b s
 | _,_=> .bad
def zB (fa:SD→R Vl):SD→R Bool:=fun s=>(fa s).bind oB
theorem RT.val {ta:TE} {fa:SD→R Vl} (ha:RE G W ta fa):RT G W (fun σ H Q=>ta σ H fun x H' =>∃k,x= .bl k∧Q k H') (zB fa):=by
 intro E σ τ H s θ Q hN hR hw
 unfold zB at hw
 rw [ae] at hw
 refine ha E σ τ H s θ _ hN hR (hw.mono (fun a s1 hw v H1 h1=>?_) fun _ _ _ h=>h)
 cases a with
 | d x=>
  cases x with
  | bl b=>
   obtain ⟨p,_,r⟩:=h1.last
   exact ⟨b,r,hw _ h1.pop⟩
  | _=>exact hw.elim
 | own x=>exact hw.elim
 | loc k=>exact hw.elim
noncomputable def oT (a:Vl) (s:SD):R Bool:=match s.cont a with
 | some .non=> .ok false s
 | some (.bl b)=> .ok b s
 | some (.int i)=> .ok (i != 0) s
 | some (.str z)=>if z.length≤sizeLine then .ok ((z.length:Int) != 0) s else .bad
 | some (.lst xs)=> .ok (!xs.isEmpty) s
 | some (.con xs)=> .ok (!xs.isEmpty) s
 | some (.tup xs)=> .ok (!xs.isEmpty) s
 | _=> .bad
noncomputable def zT (fa:SD→R Vl):SD→R Bool:=fun s=>(fa s).bind oT
theorem Reps.empty {ds:List D} {vs:List V} (h:Reps G p ds vs):vs.isEmpty=ds.isEmpty:=by
 cases ds with
 | nil=>rw [show vs= [] from h]; rfl
 | cons d r=>obtain ⟨v,r,rfl,_⟩:=h; rfl
def iU (f g:SD→R Bool):SD→R Bool:=fun s=>(f s).bind fun b s1=>if b=true then g s1 else .ok false s1
def zOr (f g:SD→R Bool):SD→R Bool:=fun s=>(f s).bind fun b s1=>if b=true then .ok true s1 else g s1
def fN (f:SD→R Bool):SD→R Bool:=fun s=>(f s).bind fun b s1=> .ok (!b) s1
theorem aal {t u:TT} {f g:SD→R Bool} (ha:RT G W t f) (hb:RT G W u g):RT G W (tAnd t u) (iU f g):=by
 intro E σ τ H s θ Q hN hR hw
 unfold iU at hw
 rw [ae] at hw
 refine ha E σ τ H s θ _ hN hR (hw.mono (fun b s1 hw H1 h1=>?_) fun _ _ _ h=>h)
 split
 ·rename_i c; rw [if_pos c] at hw; exact hb E σ τ H1 s1 θ _ hN h1 hw
 ·rename_i c; rw [if_neg c] at hw; exact hw _ h1
theorem RT.or {t u:TT} {f g:SD→R Bool} (ha:RT G W t f) (hb:RT G W u g):RT G W (tOr t u) (zOr f g):=by
 intro E σ τ H s θ Q hN hR hw
 unfold zOr at hw
 rw [ae] at hw
 refine ha E σ τ H s θ _ hN hR (hw.mono (fun b s1 hw H1 h1=>?_) fun _ _ _ h=>h)
 split
 ·rename_i c; rw [if_pos c] at hw; exact hw _ h1
 ·rename_i c; rw [if_neg c] at hw; exact hb E σ τ H1 s1 θ _ hN h1 hw
theorem aaj {t:TT} {f:SD→R Bool} (ha:RT G W t f):RT G W (tNot t) (fN f):=by
 intro E σ τ H s θ Q hN hR hw
 unfold fN at hw
 rw [ae] at hw
 exact ha E σ τ H s θ _ hN hR (hw.mono (fun b s1 hw H1 h1=>hw _ h1) fun _ _ _ h=>h)
def hV (fa fb:SD→R Vl):SD→R Vl:=fun s=>(zB fa s).bind fun b s1=>if b=true then fb s1 else .ok (.d (.bl false)) s1
def zOrV (fa fb:SD→R Vl):SD→R Vl:=fun s=>(zB fa s).bind fun b s1=>if b=true then .ok (.d (.bl true)) s1 else fb s1
def wY (fa:SD→R Vl):SD→R Vl:=fun s=>(zB fa s).bind fun b s1=> .ok (.d (.bl (!b))) s1
def zIf (c:SD→R Bool) (fa fb:SD→R Vl):SD→R Vl:=fun s=>(c s).bind fun b s1=>if b=true then fa s1 else fb s1
theorem RE.andV {ta tb:TE} {fa fb:SD→R Vl} (ha:RE G W ta fa) (hb:RE G W tb fb):RE G W (tAndV ta tb) (hV fa fb):=by
 intro E σ τ H s θ Q hN hR hw
 unfold hV at hw
 rw [ae] at hw
 refine RT.val ha E σ τ H s θ _ hN hR (hw.mono (fun b s1 hw H1 h1=>?_) fun _ _ _ h=>h)
 split
 ·rename_i c; rw [if_pos c] at hw; exact hb E σ τ H1 s1 θ _ hN h1 hw
 ·rename_i c; rw [if_neg c] at hw; exact hw _ _ (h1.push fun _=>rfl)
theorem RE.orV {ta tb:TE} {fa fb:SD→R Vl} (ha:RE G W ta fa) (hb:RE G W tb fb):RE G W (tOrV ta tb) (zOrV fa fb):=by
 intro E σ τ H s θ Q hN hR hw
 unfold zOrV at hw
 rw [ae] at hw
 refine RT.val ha E σ τ H s θ _ hN hR (hw.mono (fun b s1 hw H1 h1=>?_) fun _ _ _ h=>h)
 split
 ·rename_i c; rw [if_pos c] at hw; exact hw _ _ (h1.push fun _=>rfl)
 ·rename_i c; rw [if_neg c] at hw; exact hb E σ τ H1 s1 θ _ hN h1 hw
theorem aao {ta:TE} {fa:SD→R Vl} (ha:RE G W ta fa):RE G W (tNotV ta) (wY fa):=by
 intro E σ τ H s θ Q hN hR hw
 unfold wY at hw
 rw [ae] at hw
 exact RT.val ha E σ τ H s θ _ hN hR (hw.mono (fun b s1 hw H1 h1=>hw _ _ (h1.push fun _=>rfl)) fun _ _ _ h=>h)
theorem RE.if' {c:TT} {ta tb:TE} {fc:SD→R Bool} {fa fb:SD→R Vl} (hc:RT G W c fc) (ha:RE G W ta fa) (hb:RE G W tb fb):RE G W (tIf c ta tb) (zIf fc fa fb):=by
 intro E σ τ H s θ Q hN hR hw
 unfold zIf at hw
 rw [ae] at hw
 refine hc E σ τ H s θ _ hN hR (hw.mono (fun b s1 hw H1 h1=>?_) fun _ _ _ h=>h)
 split
 ·rename_i c; rw [if_pos c] at hw; exact ha E σ τ H1 s1 θ _ hN h1 hw
 ·rename_i c; rw [if_neg c] at hw; exact hb E σ τ H1 s1 θ _ hN h1 hw
end
section
variable {X:Cx}
theorem OpR.or {f:Value→Value→Sem Value} {r r' :R2} (h:OpR X f r) (h' :OpR X f r'):OpR X f (fun x y H Q=>r x y H Q∨r' x y H Q):=by
 intro pins s σ H x y v u Q I rx ry q
 rcases q with q | q
 ·exact h pins s σ H x y v u Q I rx ry q
 ·exact h' pins s σ H x y v u Q I rx ry q
theorem CallR.or {f:Value} {r r' :List V→Hp→VK→Prop} (h:CallR X f r) (h' :CallR X f r'):CallR X f (fun xs H Q=>r xs H Q∨r' xs H Q):=by
 intro pins s σ H xs us Q I rv q
 rcases q with q | q
 ·exact h pins s σ H xs us Q I rv q
 ·exact h' pins s σ H xs us Q I rv q
def rDIn (neg:Bool):R2:=fun y x H Q=>∃a o,x= .ref a∧DGet H a y o∧Q (.bl (if neg then !o.isSome else o.isSome)) H
theorem op_inD (hu:X.A.units+1<cLine):OpR X (compareOp .In) (rDIn false):=by
 intro pins s σ H y x u v Q I ry rx q
 obtain ⟨a,o,rfl,g,q⟩:=q
 obtain rfl:v=Value.ref a:=rx
 exact d_in hu I g ry fun s3 I3=>⟨.bl o.isSome,H,I3,rfl,q⟩
theorem yD (hu:X.A.units+1<cLine):OpR X (compareOp .NotIn) (rDIn true):=by
 intro pins s σ H y x u v Q I ry rx q
 obtain ⟨a,o,rfl,g,q⟩:=q
 obtain rfl:v=Value.ref a:=rx
 exact d_notIn hu I g ry fun s3 I3=>⟨.bl (!o.isSome),H,I3,rfl,q⟩
def rIxD:R2:=fun x y H Q=>∃a v,x= .ref a∧DGet H a y (some v)∧Q v H
theorem ix_dict (hu:X.A.units+1<cLine):IxR X rIxD:=by
 intro value slice pins s σ H x y v u Q I rx ry h hs
 obtain ⟨a,z,rfl,g,q⟩:=h
 obtain rfl:v=Value.ref a:=rx
 have hT:=dict_typeIs I g
 unfold subscriptTail
 refine wpAny_bind ?_
 rw [getitemInPython_of_ne hT.not_modules]
 refine wpAny_bind (wpAny_specialOf hT PySem.F.slot_dict_getitem.lookup ?_)
 have fin:wpAny (model X.prog X.w) X.A (subscripted slice false (.ref a) u) (fun r s₃=>wpAny (model X.prog X.w) X.A (letTemporaryGo value (.ref a) r >>= fun _=>pure r) (EP X pins σ Q) X.xe s₃) X.xe s:=by
  rw [hs]
  exact wpAny_operating (d_getItem hu I g ry fun w' s3 I3 r3=>wpAny_bind (wpAny_letTemporaryGo (wpAny_pure ⟨z,H,I3,r3,q⟩)))
 first
  | exact wpAny_pure (wpAny_bind fin)
  | exact wpAny_bind (wpAny_pure (wpAny_bind fin))
  | exact wpAny_bind fin
def rLenDR:List V→Hp→VK→Prop:=fun xs H Q=>∃a,∃kvs:List (Key×V),xs= [V.ref a]∧Rd H a (.dK kvs)∧Q (.int kvs.length) H
theorem BE:CallR X (.builtin "len") rLenDR:=by
 intro pins s σ H xs us Q I rv q
 obtain ⟨a,kvs,rfl,e,q⟩:=q
 cases rv with
 | cons r rr=>
  cases rr
  obtain rfl:_=Value.ref a:=r
  exact d_len I e fun t s' I' =>⟨.int kvs.length,H,I',⟨t,rfl⟩,q⟩
def rNeDR (neg:Bool):R2:=fun x y H Q=>∃a b,∃ks:List (Key×V),x= .ref a∧y= .ref b∧Rd H a (.dK ks)∧Rd H b (.dK [])∧Q (.bl (if neg then !ks.isEmpty else ks.isEmpty)) H
theorem op_neDR (hu:X.A.units<cLine):OpR X (compareOp .NotEq) (rNeDR true):=by
 intro pins s σ H x y v u Q I rx ry h
 obtain ⟨a,b,ks,rfl,rfl,ea,eb,q⟩:=h
 obtain rfl:v=Value.ref a:=rx
 obtain rfl:u=Value.ref b:=ry
 obtain ⟨_,ya,va,ra,da⟩:=dk_rd I.hok ea
 obtain ⟨_,yb,vb,rb,db⟩:=dk_rd I.hok eb
 have hb:vb.length=0:=by rw [←rb.length]; rfl
 have ha:va.length=ks.length:=ra.length.symm
 refine PySem.W.keq_ne (knd:=mixKind X.prog X.w) (r:=true) ya yb da db hu (fun hl=>?_) (fin_bl I q ?_)
 ·have h0:ks= []:=List.eq_nil_of_length_eq_zero (by omega)
  subst h0
  exact hits_all rb ra (fun p hp=>nomatch hp)
 ·rw [ha,hb]
  cases ks with
  | nil=>rfl
  | cons a r=>simp
def AZ (neg:Bool):R2:=fun x y H Q=>∃a b,∃ks ls:List (Key×V),x= .ref a∧y= .ref b∧Rd H a (.dK ks)∧Rd H b (.dK ls)∧ks.length=ls.length∧(∀p∈ks,valV ls p.1=some p.2∧flatB p.2=true)∧Q (.bl (!neg)) H
theorem op_eqDD (hu:X.A.units<cLine):OpR X (compareOp .Eq) (AZ false):=by
 intro pins s σ H x y v u Q I rx ry h
 obtain ⟨a,b,ks,ls,rfl,rfl,ea,eb,hl,hp,q⟩:=h
 obtain rfl:v=Value.ref a:=rx
 obtain rfl:u=Value.ref b:=ry
 obtain ⟨_,ya,va,ra,da⟩:=dk_rd I.hok ea
 obtain ⟨_,yb,vb,rb,db⟩:=dk_rd I.hok eb
 have h2:va.length=vb.length:=ra.length.symm.trans (hl.trans rb.length)
 exact PySem.W.keq_eq (knd:=mixKind X.prog X.w) (r:=true) ya yb da db hu (fun _=>hits_all rb ra hp) (fin_bl I q (by simp [h2]))
theorem op_neDD (hu:X.A.units<cLine):OpR X (compareOp .NotEq) (AZ true):=by
 intro pins s σ H x y v u Q I rx ry h
 obtain ⟨a,b,ks,ls,rfl,rfl,ea,eb,hl,hp,q⟩:=h
 obtain rfl:v=Value.ref a:=rx
 obtain rfl:u=Value.ref b:=ry
 obtain ⟨_,ya,va,ra,da⟩:=dk_rd I.hok ea
 obtain ⟨_,yb,vb,rb,db⟩:=dk_rd I.hok eb
 have h2:va.length=vb.length:=ra.length.symm.trans (hl.trans rb.length)
 exact PySem.W.keq_ne (knd:=mixKind X.prog X.w) (r:=true) ya yb da db hu (fun _=>hits_all rb ra hp) (fin_bl I q (by simp [h2]))
def rAddZ (K:PySem.W.Frag):R2:=fun x y H Q=>rI0 (fun i j=> .int (i+j)) x y H Q∨rAddS x y H Q∨rCat x y H Q∨rCatA K x y H Q
theorem aS {K:PySem.W.Frag} (hK:X.K=K:=by rfl):OpR X (binaryOp .Add) (rAddZ K):=OpR.or op_add (OpR.or yG (OpR.or op_cat (m_catA hK)))
def rManyS:R2:=fun x y H Q=>∃(z:Str) (i:Int),x= .str z∧y= .int i∧PySem.MulOk z i∧Q (.str (Txt.mul z i)) H
theorem A7:OpR X (binaryOp .Mult) rManyS:=by
 intro pins s σ H x y v u Q I rx ry h
 obtain ⟨z,i,rfl,rfl,hok,q⟩:=h
 obtain ⟨t,rfl⟩:=rx
 obtain ⟨t',rfl⟩:=ry
 exact PySem.SB.mul hok fun t2 k=>⟨.str (Txt.mul z i),H,I.tok _,⟨_,rfl⟩,q⟩
def rMulZ:R2:=fun x y H Q=>rI CMulX (fun i j=> .int (i*j)) x y H Q∨rRep x y H Q∨rManyS x y H Q
theorem cV:OpR X (binaryOp .Mult) rMulZ:=OpR.or op_mulX (OpR.or op_rep A7)
def rInZ (K:PySem.W.Frag) (neg:Bool):R2:=fun x y H Q=>rIn K neg x y H Q∨rInSg neg x y H Q∨yp neg x y H Q∨rDIn neg x y H Q
theorem op_inZ {K:PySem.W.Frag} (hu:X.A.units+64<cLine) (hK:X.K=K:=by rfl):OpR X (compareOp .In) (rInZ K false):=OpR.or (m_inS hK) (OpR.or yF (OpR.or A9 (op_inD (by omega))))
theorem yC {K:PySem.W.Frag} (hu:X.A.units+64<cLine) (hK:X.K=K:=by rfl):OpR X (compareOp .NotIn) (rInZ K true):=OpR.or (Bg hK) (OpR.or qU (OpR.or tE (yD (by omega))))
def oQ (K:PySem.W.Frag) (r:Bool):R2:=fun x y H Q=>∃p z xs,x= .ref p∧y= .str z∧SqT K H p xs∧Q (.bl r) H
theorem op_eqTS {K:PySem.W.Frag} (hu:X.A.units<cLine) (hK:X.K=K:=by rfl):OpR X (compareOp .Eq) (oQ K false):=by
 subst hK
 intro pins s σ H x y v u Q I rx ry h
 obtain ⟨p,z,xs,rfl,rfl,h1,k⟩:=h
 cases rx
 obtain ⟨t,rfl⟩:=ry
 obtain ⟨its,_,l1,_⟩:=I.tuple h1
 exact SeqAt.RcAt.tuple_str z t l1 hu X.prog X.w X.xe _ ⟨.bl _,H,I,rfl,k⟩
theorem op_neTS {K:PySem.W.Frag} (hu:X.A.units<cLine) (hK:X.K=K:=by rfl):OpR X (compareOp .NotEq) (oQ K true):=by
 subst hK
 intro pins s σ H x y v u Q I rx ry h
 obtain ⟨p,z,xs,rfl,rfl,h1,k⟩:=h
 cases rx
 obtain ⟨t,rfl⟩:=ry
 obtain ⟨its,_,l1,_⟩:=I.tuple h1
 exact SeqAt.RcNeAt.tuple_str z t l1 hu X.prog X.w X.xe _ ⟨.bl _,H,I,rfl,k⟩
def rEqZ (K:PySem.W.Frag):R2:=fun x y H Q=>rEq x y H Q∨vo K false x y H Q∨rEqD K x y H Q∨AZ false x y H Q∨oQ K false x y H Q
theorem op_eqZ {K:PySem.W.Frag} (hu:X.A.units+64<cLine) (hK:X.K=K:=by rfl):OpR X (compareOp .Eq) (rEqZ K):=OpR.or op_eq (OpR.or (hK ▸ A8 hu) (OpR.or (m_eqD hu hK) (OpR.or (op_eqDD (by omega)) (op_eqTS (by omega) hK))))
def rNeZ (K:PySem.W.Frag):R2:=fun x y H Q=>rNe x y H Q∨vo K true x y H Q∨rNeD K x y H Q∨rNeDR true x y H Q∨AZ true x y H Q∨oQ K true x y H Q
theorem op_neZ {K:PySem.W.Frag} (hu:X.A.units+64<cLine) (hK:X.K=K:=by rfl):OpR X (compareOp .NotEq) (rNeZ K):=OpR.or op_ne (OpR.or (hK ▸ A6 hu) (OpR.or (m_neD hu hK) (OpR.or (op_neDR (by omega)) (OpR.or (op_neDD (by omega)) (op_neTS (by omega) hK)))))
def rIxZ (K:PySem.W.Frag):R2:=fun x y H Q=>rIxL K x y H Q∨rIxT K x y H Q∨rIxS x y H Q∨rIxD x y H Q
theorem ix_Z {K:PySem.W.Frag} (hu:X.A.units+64<cLine) (hK:X.K=K:=by rfl):IxR X (rIxZ K):=IxR.or (m_ixL hK) (IxR.or (m_ixT hK) (IxR.or ix_str (ix_dict (by omega))))
def rLenZ (K:PySem.W.Frag):List V→Hp→VK→Prop:=fun xs H Q=>tx K xs H Q∨yo xs H Q∨rLenDR xs H Q
theorem aT {K:PySem.W.Frag} (hK:X.K=K:=by rfl):CallR X (.builtin "len") (rLenZ K):=CallR.or (m_lenS hK) (CallR.or wL BE)
end
def D.sc:D→Option V
 | .non=>some .non
 | .bl b=>some (.bl b)
 | .int i=>some (.int i)
 | .str s=>some (.str s)
 | _=>none
def scs:List D→Option (List V)
 | []=>some []
 | d::ds=>match d.sc,scs ds with
  | some v,some vs=>some (v::vs)
  | _,_=>none
def D.key:D→Option Key
 | .int i=>some (.inl i)
 | .str s=>some (.inr s)
 | _=>none
mutual
def D.py:D→Option PyData
 | .non=>some .none
 | .bl b=>some (.bool b)
 | .int i=>some (.int i)
 | .str s=>some (.str s)
 | .lst ds=>match D.pys ds with
  | some xs=>some (.list xs)
  | none=>none
 | .tup ds=>match D.pys ds with
  | some xs=>some (.tuple xs)
  | none=>none
 | _=>none
def D.pys:List D→Option (List PyData)
 | []=>some []
 | d::ds=>match D.py d,D.pys ds with
  | some x,some xs=>some (x::xs)
  | _,_=>none
end
noncomputable def cA (a b:Vl) (s:SD):R Vl:=match s.cont a,s.cont b with
 | some (.int i),some (.int j)=> .ok (.d (.int (i+j))) s
 | some (.str x),some (.str y)=>if x.length+y.length≤sizeLine then .ok (.d (.str (x++y))) s else .bad
 | some (.lst xs),some (.lst ys)=>if xs.length+ys.length≤sizeLine then .ok (.own (.lst (xs++ys))) s else .bad
 | some (.tup xs),some (.tup ys)=>if xs≠ []∧ys≠ []∧xs.length+ys.length≤sizeLine then .ok (.d (.tup (xs++ys))) s else .bad
 | _,_=> .bad
def sq (a b:Vl) (s:SD):R Vl:=match s.cont a,s.cont b with
 | some (.int i),some (.int j)=> .ok (.d (.int (i - j))) s
 | _,_=> .bad
noncomputable def kA (a b:Vl) (s:SD):R Vl:=match s.cont a,s.cont b with
 | some (.int i),some (.int j)=>if CMulX i j then .ok (.d (.int (i*j))) s else .bad
 | some (.lst xs),some (.int k)=>if -(2 ^ 63)≤k∧k<2 ^ 63∧xs.length*k.toNat≤sizeLine then .ok (.own (.lst (List.replicate k.toNat xs).flatten)) s else .bad
 | some (.str z),some (.int k)=>if PySem.MulOk z k then .ok (.d (.str (Txt.mul z k))) s else .bad
 | _,_=> .bad
noncomputable def cM (a b:Vl) (s:SD):R Vl:=match s.cont a,s.cont b with
 | some (.int i),some (.int j)=>if 0<j then .ok (.d (.int (i%j))) s else .bad
 | _,_=> .bad
noncomputable def dy (a b:Vl) (s:SD):R Vl:=match s.cont a,s.cont b with
 | some (.int i),some (.int j)=>if CDivW i j then .ok (.d (.int (i / j))) s else .bad
 | _,_=> .bad
noncomputable def AB (a b:Vl) (s:SD):R Vl:=match s.cont a,s.cont b with
 | some (.int i),some (.int j)=>if qt i j then .ok (.d (.int (i ^ j.toNat))) s else .bad
 | _,_=> .bad
def oXor (a b:Vl) (s:SD):R Vl:=match s.cont a,s.cont b with
 | some (.int i),some (.int j)=> .ok (.d (.int (Builtin.bitXor i j))) s
 | _,_=> .bad
def Bb (f:Int→Int→Bool) (a b:Vl) (s:SD):R Vl:=match s.cont a,s.cont b with
 | some (.int i),some (.int j)=> .ok (.d (.bl (f i j))) s
 | _,_=> .bad
abbrev oLt:=Bb fun i j=>decide (i<j)
abbrev oLe:=Bb fun i j=>decide (i≤j)
abbrev oGt:=Bb fun i j=>decide (i > j)
abbrev oGe:=Bb fun i j=>decide (i≥j)
noncomputable def dSame (ks ls:List (Key×D)):Bool:=decide (ks.length=ls.length)&&ks.all fun q=>match q.2.sc,(mZ ls q.1).bind D.sc with
 | some v,some u=>decide (v=u)
 | _,_=>false
noncomputable def dEq (x y:D):Option Bool:=match x.sc,y.sc with
 | some v,some u=>if scal v u=true then some (decide (v=u)) else none
 | _,_=>match x,y with
  | .lst xs, .lst []=>some xs.isEmpty
  | .con xs, .lst []=>some xs.isEmpty
  | .dct ks, .dct ls=>if dSame ks ls=true then some true else none
  | .tup _, .str _=>some false
  | x,y=>match x.py,y.py with
   | some d,some e=>if SeqAt.shaped d=true∧SeqAt.shaped e=true then some (PyData.eqv d e) else none
   | _,_=>none
noncomputable def oEq (a b:Vl) (s:SD):R Vl:=match s.cont a,s.cont b with
 | some x,some y=>match dEq x y with
  | some r=> .ok (.d (.bl r)) s
  | none=> .bad
 | _,_=> .bad
noncomputable def oNe (a b:Vl) (s:SD):R Vl:=match s.cont a,s.cont b with
 | some (.dct ks),some (.dct [])=> .ok (.d (.bl (!ks.isEmpty))) s
 | some x,some y=>match dEq x y with
  | some r=> .ok (.d (.bl (!r))) s
  | none=> .bad
 | _,_=> .bad
def kB (neg:Bool) (a b:Vl) (s:SD):R Vl:=match b with
 | .d .non=>match a with
  | .d .non=> .ok (.d (.bl (!neg))) s
  | .d _=> .ok (.d (.bl neg)) s
  | a=>match s.cont a with
   | some x=>if x.box=true then .ok (.d (.bl neg)) s else .bad
   | none=> .bad
 | _=> .bad
noncomputable def dIn (x y:D):Option Bool:=match y with
 | .lst ys=>match x.sc,scs ys with
  | some v,some vs=>some (inV v vs)
  | _,_=>none
 | .con ys=>match x.sc,scs ys with
  | some v,some vs=>some (inV v vs)
  | _,_=>none
 | .tup ys=>match x.sc,scs ys with
  | some v,some vs=>some (inV v vs)
  | _,_=>none
 | .str z=>match x with
  | .str w=>match w.cps.toList with
   | [c]=>some (decide (c∈z.cps.toList))
   | _=>some (!(Builtin.Str.occurrences z w 0 z.length 1).isEmpty)
  | _=>none
 | .dct ks=>match x.key with
  | some k=>some (mZ ks k).isSome
  | none=>none
 | _=>none
noncomputable def oIn (neg:Bool) (a b:Vl) (s:SD):R Vl:=match s.cont a,s.cont b with
 | some x,some y=>match dIn x y with
  | some r=> .ok (.d (.bl (if neg then !r else r))) s
  | none=> .bad
 | _,_=> .bad
noncomputable def dIx (x y:D):Option D:=match x,y with
 | .lst xs, .int i=>atI xs i
 | .con xs, .int i=>atI xs i
 | .tup xs, .int i=>atI xs i
 | .str z, .int i=>if z.length≤sizeLine then (atI z.cps.toList i).map fun c=> .str ⟨#[c]⟩ else none
 | .dct ks,y=>match y.key with
  | some k=>mZ ks k
  | none=>none
 | _,_=>none
noncomputable def oIx (a b:Vl) (s:SD):R Vl:=match s.cont a,s.cont b with
 | some x,some y=>match dIx x y with
  | some r=> .ok (.d r) s
  | none=> .bad
 | _,_=> .bad
noncomputable def de (a:Vl) (s:SD):R Vl:=match s.cont a with
 | some (.lst xs)=> .ok (.d (.int xs.length)) s
 | some (.con xs)=> .ok (.d (.int xs.length)) s
 | some (.tup xs)=> .ok (.d (.int xs.length)) s
 | some (.str z)=>if z.length≤sizeLine then .ok (.d (.int z.length)) s else .bad
 | some (.dct ks)=> .ok (.d (.int ks.length)) s
 | _=> .bad
section
variable {G:Gc} {p:Wr} {v u:V} {x:D} {H:Hp}
theorem eU (h:Rep G p x v) (e:x.sc=some u):v=u:=by
 cases x with
 | non=>cases e; exact h
 | bl b=>cases e; exact h
 | int i=>cases e; exact h
 | str z=>cases e; exact h
 | _=>cases e
theorem ky (e:x.sc=some u):x.box=false:=by cases x<;> first | rfl | cases e
theorem lQ (e:x.sc=some u):flatV u=true:=by cases x<;> cases e<;> rfl
theorem lP:∀{ds:List D} {vs us:List V},Reps G p ds vs→scs ds=some us→vs=us
 | [],vs,us,h,e=>by cases e; exact h
 | d::ds,vs,us,h,e=>by
  obtain ⟨v,r,rfl,h1,h2⟩:=h
  unfold scs at e
  split at e
  ·rename_i u ws e1 e2
   cases e
   rw [eU h1 e1,lP h2 e2]
  ·cases e
theorem iY:∀{ds:List D} {us:List V},scs ds=some us→us.all flatV=true
 | [],us,e=>by cases e; rfl
 | d::ds,us,e=>by
  unfold scs at e
  split at e
  ·rename_i u ws e1 e2
   cases e
   rw [List.all_cons,lQ e1,iY e2]
   rfl
  ·cases e
theorem kh {k:Key} (h:Rep G p x v) (e:x.key=some k):v=kV k:=by
 cases x with
 | int i=>cases e; exact h
 | str z=>cases e; exact h
 | _=>cases e
theorem yX {k:Key} (e:x.key=some k):x.box=false:=by cases x<;> first | rfl | cases e
mutual
theorem nr:∀{x:D} {v:V} {d:PyData},Rep G p x v→x.py=some d→Dp G.K p.H v d
 | .non,v,d,h,e=>by cases e; rw [show v= .non from h]; exact .non
 | .bl b,v,d,h,e=>by cases e; rw [show v= .bl b from h]; exact .bl b
 | .int b,v,d,h,e=>by cases e; rw [show v= .int b from h]; exact .int b
 | .str b,v,d,h,e=>by cases e; rw [show v= .str b from h]; exact .str b
 | .lst ds,v,d,h,e=>by
  obtain ⟨a,vs,rfl,⟨_,hh⟩,r⟩:=h
  unfold D.py at e
  split at e
  ·rename_i xs e1
   cases e
   exact .lst (.of hh) (jY r e1)
  ·cases e
 | .tup ds,v,d,h,e=>by
  obtain ⟨a,vs,rfl,⟨_,hh⟩,r⟩:=h
  unfold D.py at e
  split at e
  ·rename_i xs e1
   cases e
   exact .tup (.of hh) (jY r e1)
  ·cases e
 | .con _,_,_,_,e=>by cases e
 | .dct _,_,_,_,e=>by cases e
 | .obj _ _,_,_,_,e=>by cases e
 | .exc _ _,_,_,_,e=>by cases e
 | .cell _,_,_,_,e=>by cases e
theorem jY:∀{ds:List D} {vs:List V} {xs:List PyData},Reps G p ds vs→D.pys ds=some xs→DpAll G.K p.H vs xs
 | [],vs,xs,h,e=>by cases e; rw [show vs= [] from h]; exact .nil
 | d::ds,vs,xs,h,e=>by
  obtain ⟨v,r,rfl,h1,h2⟩:=h
  unfold D.pys at e
  split at e
  ·rename_i u ws e1 e2
   cases e
   exact .cons (nr h1 e1) (jY h2 e2)
  ·cases e
end
theorem gB {d:PyData} (h:Cont G p x v) (e:x.py=some d):Dp G.K p.H v d:=by
 cases x with
 | lst ds=>
  obtain ⟨b,vs,rfl,hb,r⟩:=h.lst
  unfold D.py at e
  split at e
  ·rename_i xs e1
   cases e
   exact .lst (.of hb) (jY r e1)
  ·cases e
 | tup ds=>
  obtain ⟨b,vs,rfl,hb,r⟩:=h.tup
  unfold D.py at e
  split at e
  ·rename_i xs e1
   cases e
   exact .tup (.of hb) (jY r e1)
  ·cases e
 | non=>exact nr (h.sc rfl) e
 | bl b=>exact nr (h.sc rfl) e
 | int b=>exact nr (h.sc rfl) e
 | str b=>exact nr (h.sc rfl) e
 | con ds=>cases e
 | dct ds=>cases e
 | obj c ds=>cases e
 | exc c fs=>cases e
 | cell i=>cases e
theorem Bx {v:V} (e:x.sc=some v):flatB v=true:=by cases x<;> cases e<;> rfl
theorem mB:∀{ks ls:List (Key×D)} {vs us:List (Key×V)},RepK G p ks vs→RepK G p ls us→(ks.all fun q=>match q.2.sc,(mZ ls q.1).bind D.sc with | some v,some u=>decide (v=u) | _,_=>false)=true→
  ∀q∈vs,valV us q.1=some q.2∧flatB q.2=true
 | [],_,vs,_,h,_,_,q,hq=>by rw [show vs= [] from h] at hq; cases hq
 | (k,d)::ks,ls,vs,us,h,h',e,q,hq=>by
  obtain ⟨v,r,rfl,h1,h2⟩:=h
  rw [List.all_cons,Bool.and_eq_true] at e
  rcases List.mem_cons.mp hq with rfl | hq
  ·have e1:=e.1
   split at e1
   ·rename_i v1 u1 s1 s2
    have e1:=of_decide_eq_true e1
    subst e1
    obtain ⟨d',g1,g2⟩:=Option.bind_eq_some_iff.mp s2
    obtain ⟨v',g3,g4⟩:=(h'.val (k:=k)).1 d' g1
    have a1:=eU h1 s1
    have a2:=eU g4 g2
    subst a1 a2
    exact ⟨g3,Bx s1⟩
   ·cases e1
  ·exact mB h2 h' e.2 q hq
theorem rV {ks ls:List (Key×D)} (h:dSame ks ls=true):ks.length=ls.length∧(ks.all fun q=>match q.2.sc,(mZ ls q.1).bind D.sc with | some v,some u=>decide (v=u) | _,_=>false)=true:=by
 unfold dSame at h
 rw [Bool.and_eq_true] at h
 exact ⟨of_decide_eq_true h.1,h.2⟩
theorem dEq_eq {r:Bool} (hx:Cont G p x v) (hy:Cont G p y u) (e:dEq x y=some r) (q:Q (.bl r) p.H):rEqZ G.K v u p.H Q:=by
 unfold dEq at e
 split at e
 ·rename_i v' u' e1 e2
  split at e
  ·rename_i hs
   cases e
   have h1:=eU (hx.sc (ky e1)) e1
   have h2:=eU (hy.sc (ky e2)) e2
   subst h1 h2
   exact .inl ⟨hs,q⟩
  ·cases e
 ·split at e
  ·cases e
   obtain ⟨b,vs,rfl,hb,r⟩:=hx.lst
   obtain ⟨b',vs',rfl,hb',r'⟩:=hy.lst
   obtain rfl:vs' = []:=r'
   exact .inr (.inl ⟨b,b',vs,rfl,rfl, .of hb, .of hb',by rw [r.empty]; exact q⟩)
  ·cases e
   obtain ⟨b,vs,rfl,hb,r⟩:=hx.con
   obtain ⟨b',vs',rfl,hb',r'⟩:=hy.lst
   obtain rfl:vs' = []:=r'
   exact .inr (.inl ⟨b,b',vs,rfl,rfl,hb, .of hb',by rw [r.empty]; exact q⟩)
  ·split at e
   ·rename_i hs
    cases e
    obtain ⟨b,vs,rfl,hb,r⟩:=hx.dct
    obtain ⟨b',vs',rfl,hb',r'⟩:=hy.dct
    obtain ⟨l1,l2⟩:=rV hs
    exact .inr (.inr (.inr (.inl ⟨b,b',vs,vs',rfl,rfl,hb,hb',by rw [r.len,r'.len]; exact l1,mB r r' l2,q⟩)))
   ·cases e
  ·cases e
   obtain ⟨b,vs,rfl,hb,r⟩:=hx.tup
   obtain rfl:=hy.str
   exact .inr (.inr (.inr (.inr ⟨b,_,vs,rfl,rfl, .of hb,q⟩)))
  ·split at e
   ·rename_i d e' e1 e2
    split at e
    ·rename_i hs
     cases e
     exact .inr (.inr (.inl ⟨d,e',gB hx e1,gB hy e2,hs.1,hs.2,q⟩))
    ·cases e
   ·cases e
theorem dEq_ne {r:Bool} (hx:Cont G p x v) (hy:Cont G p y u) (e:dEq x y=some r) (q:Q (.bl (!r)) p.H):rNeZ G.K v u p.H Q:=by
 unfold dEq at e
 split at e
 ·rename_i v' u' e1 e2
  split at e
  ·rename_i hs
   cases e
   have h1:=eU (hx.sc (ky e1)) e1
   have h2:=eU (hy.sc (ky e2)) e2
   subst h1 h2
   exact .inl ⟨hs,q⟩
  ·cases e
 ·split at e
  ·cases e
   obtain ⟨b,vs,rfl,hb,r⟩:=hx.lst
   obtain ⟨b',vs',rfl,hb',r'⟩:=hy.lst
   obtain rfl:vs' = []:=r'
   exact .inr (.inl ⟨b,b',vs,rfl,rfl, .of hb, .of hb',by rw [r.empty]; exact q⟩)
  ·cases e
   obtain ⟨b,vs,rfl,hb,r⟩:=hx.con
   obtain ⟨b',vs',rfl,hb',r'⟩:=hy.lst
   obtain rfl:vs' = []:=r'
   exact .inr (.inl ⟨b,b',vs,rfl,rfl,hb, .of hb',by rw [r.empty]; exact q⟩)
  ·split at e
   ·rename_i hs
    cases e
    obtain ⟨b,vs,rfl,hb,r⟩:=hx.dct
    obtain ⟨b',vs',rfl,hb',r'⟩:=hy.dct
    obtain ⟨l1,l2⟩:=rV hs
    exact .inr (.inr (.inr (.inr (.inl ⟨b,b',vs,vs',rfl,rfl,hb,hb',by rw [r.len,r'.len]; exact l1,mB r r' l2,q⟩))))
   ·cases e
  ·cases e
   obtain ⟨b,vs,rfl,hb,r⟩:=hx.tup
   obtain rfl:=hy.str
   exact .inr (.inr (.inr (.inr (.inr ⟨b,_,vs,rfl,rfl, .of hb,q⟩))))
  ·split at e
   ·rename_i d e' e1 e2
    split at e
    ·rename_i hs
     cases e
     exact .inr (.inr (.inl ⟨d,e',gB hx e1,gB hy e2,hs.1,hs.2,q⟩))
    ·cases e
   ·cases e
theorem dIn_in {r neg:Bool} (hx:Cont G p x v) (hy:Cont G p y u) (e:dIn x y=some r) (q:Q (.bl (if neg then !r else r)) p.H):rInZ G.K neg v u p.H Q:=by
 unfold dIn at e
 split at e
 ·split at e
  ·rename_i v' vs' e1 e2
   cases e
   obtain ⟨b,vs,rfl,hb,r⟩:=hy.lst
   have h1:=eU (hx.sc (ky e1)) e1
   have h2:=lP r e2
   subst h1 h2
   exact .inl ⟨b,_,rfl, .inl (.of hb),lQ e1,iY e2,q⟩
  ·cases e
 ·split at e
  ·rename_i v' vs' e1 e2
   cases e
   obtain ⟨b,vs,rfl,hb,r⟩:=hy.con
   have h1:=eU (hx.sc (ky e1)) e1
   have h2:=lP r e2
   subst h1 h2
   exact .inl ⟨b,_,rfl, .inl hb,lQ e1,iY e2,q⟩
  ·cases e
 ·split at e
  ·rename_i v' vs' e1 e2
   cases e
   obtain ⟨b,vs,rfl,hb,r⟩:=hy.tup
   have h1:=eU (hx.sc (ky e1)) e1
   have h2:=lP r e2
   subst h1 h2
   exact .inl ⟨b,_,rfl, .inr (.of hb),lQ e1,iY e2,q⟩
  ·cases e
 ·obtain rfl:=hy.str
  split at e
  ·obtain rfl:=hx.str
   split at e
   ·rename_i w _ c hc
    cases e
    have hw:w=⟨#[c]⟩:=by
     cases w with
     | mk cps=>
      congr 1
      exact Array.toList_inj.mp hc
    subst hw
    exact .inr (.inl ⟨c,_,rfl,rfl,q⟩)
   ·cases e
    exact .inr (.inr (.inl ⟨_,_,rfl,rfl,by cases neg<;> exact q⟩))
  ·cases e
 ·rename_i ks
  split at e
  ·rename_i k e1
   cases e
   obtain ⟨b,vs,rfl,hb,r⟩:=hy.dct
   have h1:=kh (hx.sc (yX e1)) e1
   subst h1
   have e3:(valV vs k).isSome=(mZ ks k).isSome:=by
    cases q:mZ ks k with
    | none=>rw [r.val.2 q]; rfl
    | some d=>obtain ⟨v,e,_⟩:=r.val.1 d q; rw [e]; rfl
   exact .inr (.inr (.inr ⟨b,valV vs k,rfl, .inl ⟨vs,k,hb,rfl,rfl⟩,by rw [e3]; exact q⟩))
  ·cases e
 ·cases e
theorem ly {ds:List D} {vs:List V} {i:Int} {d:D} (r:Reps G p ds vs) (e:atI ds i=some d):∃v,atI vs i=some v∧Rep G p d v:=by
 unfold atI at e ⊢
 rw [r.len]
 cases q:ixN ds.length i with
 | none=>rw [q] at e; cases e
 | some j=>
  rw [q] at e
  exact r.get (i:=j) e
theorem dIx_ix {d:D} (hx:Cont G p x v) (hy:Cont G p y u) (e:dIx x y=some d):∃z,Rep G p d z∧(∀Q:VK,Q z p.H→rIxZ G.K v u p.H Q):=by
 unfold dIx at e
 split at e
 ·obtain ⟨b,vs,rfl,hb,r⟩:=hx.lst
  obtain rfl:=hy.int
  obtain ⟨z,e1,rz⟩:=ly r e
  exact ⟨z,rz,fun Q q=> .inl ⟨b,vs,_,z,rfl,rfl, .of hb,e1,q⟩⟩
 ·obtain ⟨b,vs,rfl,hb,r⟩:=hx.con
  obtain rfl:=hy.int
  obtain ⟨z,e1,rz⟩:=ly r e
  exact ⟨z,rz,fun Q q=> .inl ⟨b,vs,_,z,rfl,rfl,hb,e1,q⟩⟩
 ·obtain ⟨b,vs,rfl,hb,r⟩:=hx.tup
  obtain rfl:=hy.int
  obtain ⟨z,e1,rz⟩:=ly r e
  exact ⟨z,rz,fun Q q=> .inr (.inl ⟨b,vs,_,z,rfl,rfl, .of hb,e1,q⟩)⟩
 ·obtain rfl:=hx.str
  obtain rfl:=hy.int
  split at e
  ·rename_i hz
   obtain ⟨c,e1,rfl⟩:=Option.map_eq_some_iff.mp e
   exact ⟨.str ⟨#[c]⟩,rfl,fun Q q=> .inr (.inr (.inl ⟨_,_,c,rfl,rfl,hz,e1,q⟩))⟩
  ·cases e
 ·obtain ⟨b,vs,rfl,hb,r⟩:=hx.dct
  split at e
  ·rename_i k e1
   have h1:=kh (hy.sc (yX e1)) e1
   subst h1
   obtain ⟨z,e2,rz⟩:=r.val.1 d e
   exact ⟨z,rz,fun Q q=> .inr (.inr (.inr ⟨b,z,rfl, .inl ⟨vs,k,hb,rfl,e2.symm⟩,q⟩))⟩
  ·cases e
 ·cases e
end
section
variable {G:Gc}
theorem p_add:cX G (rAddZ G.K) cA:=by
 intro E σ τ s θ p v u a b Q hl h hw
 obtain ⟨h0,ca,cb⟩:=eJ hl h
 unfold cA at hw
 split at hw
 ·rename_i e1 e2
  obtain rfl:=(ca _ e1).int
  obtain rfl:=(cb _ e2).int
  exact .inl ⟨_,_,rfl,rfl,bA h0 hl hw rfl⟩
 ·rename_i e1 e2
  obtain rfl:=(ca _ e1).str
  obtain rfl:=(cb _ e2).str
  split at hw
  ·rename_i hz
   exact .inr (.inl ⟨_,_,rfl,rfl,hz,bA h0 hl hw rfl⟩)
  ·exact hw.elim
 ·rename_i e1 e2
  obtain ⟨a1,vs,rfl,ha,r⟩:=(ca _ e1).lst
  obtain ⟨a2,us,rfl,hb,r'⟩:=(cb _ e2).lst
  split at hw
  ·rename_i hz
   exact .inr (.inr (.inl ⟨a1,a2,vs,us,rfl,rfl,ha,hb,by rw [r.len,r'.len]; exact hz,fun q hq=>dC h0 hl hw hq (r.append r')⟩))
  ·exact hw.elim
 ·rename_i e1 e2
  obtain ⟨a1,vs,rfl,ha,r⟩:=(ca _ e1).tup
  obtain ⟨a2,us,rfl,hb,r'⟩:=(cb _ e2).tup
  split at hw
  ·rename_i hz
   refine .inr (.inr (.inr (t_catA (.of ha) (.of hb) (fun z=>hz.1 ?_) (fun z=>hz.2.1 ?_) (by rw [r.len,r'.len]; exact hz.2.2) fun q hq=>ui h0 hl hw hq (r.append r'))))
   ·exact List.eq_nil_of_length_eq_zero (by rw [←r.len,z]; rfl)
   ·exact List.eq_nil_of_length_eq_zero (by rw [←r'.len,z]; rfl)
  ·exact hw.elim
 ·exact hw.elim
theorem p_sub:cX G (rI0 fun i j=> .int (i - j)) sq:=by
 intro E σ τ s θ p v u a b Q hl h hw
 obtain ⟨h0,ca,cb⟩:=eJ hl h
 unfold sq at hw
 split at hw
 ·rename_i e1 e2
  obtain rfl:=(ca _ e1).int
  obtain rfl:=(cb _ e2).int
  exact ⟨_,_,rfl,rfl,bA h0 hl hw rfl⟩
 ·exact hw.elim
theorem vi {p:Wr} {ds:List D} {vs:List V} (r:Reps G p ds vs):∀n:Nat,Reps G p (List.replicate n ds).flatten (List.replicate n vs).flatten
 | 0=>rfl
 | n+1=>by
  rw [List.replicate_succ,List.replicate_succ,List.flatten_cons,List.flatten_cons]
  exact r.append (vi r n)
theorem p_mul:cX G rMulZ kA:=by
 intro E σ τ s θ p v u a b Q hl h hw
 obtain ⟨h0,ca,cb⟩:=eJ hl h
 unfold kA at hw
 split at hw
 ·rename_i e1 e2
  obtain rfl:=(ca _ e1).int
  obtain rfl:=(cb _ e2).int
  split at hw
  ·rename_i hz
   exact .inl ⟨_,_,rfl,rfl,hz,bA h0 hl hw rfl⟩
  ·exact hw.elim
 ·rename_i e1 e2
  obtain ⟨a1,vs,rfl,ha,r⟩:=(ca _ e1).lst
  obtain rfl:=(cb _ e2).int
  split at hw
  ·rename_i hz
   refine .inr (.inl ⟨a1,_,vs,rfl,rfl,ha,hz.1,hz.2.1,by rw [r.len]; exact hz.2.2,fun q hq=>dC h0 hl hw hq ?_⟩)
   exact vi r _
  ·exact hw.elim
 ·rename_i e1 e2
  obtain rfl:=(ca _ e1).str
  obtain rfl:=(cb _ e2).int
  split at hw
  ·rename_i hz
   exact .inr (.inr ⟨_,_,rfl,rfl,hz,bA h0 hl hw rfl⟩)
  ·exact hw.elim
 ·exact hw.elim
theorem p_mod:cX G (rI (fun _ j=>0<j) fun i j=> .int (i%j)) cM:=by
 intro E σ τ s θ p v u a b Q hl h hw
 obtain ⟨h0,ca,cb⟩:=eJ hl h
 unfold cM at hw
 split at hw
 ·rename_i e1 e2
  obtain rfl:=(ca _ e1).int
  obtain rfl:=(cb _ e2).int
  split at hw
  ·rename_i hz
   exact ⟨_,_,rfl,rfl,hz,bA h0 hl hw rfl⟩
  ·exact hw.elim
 ·exact hw.elim
theorem p_div:cX G (rI CDivW fun i j=> .int (i / j)) dy:=by
 intro E σ τ s θ p v u a b Q hl h hw
 obtain ⟨h0,ca,cb⟩:=eJ hl h
 unfold dy at hw
 split at hw
 ·rename_i e1 e2
  obtain rfl:=(ca _ e1).int
  obtain rfl:=(cb _ e2).int
  split at hw
  ·rename_i hz
   exact ⟨_,_,rfl,rfl,hz,bA h0 hl hw rfl⟩
  ·exact hw.elim
 ·exact hw.elim
theorem p_pow:cX G (rI qt fun i j=> .int (i ^ j.toNat)) AB:=by
 intro E σ τ s θ p v u a b Q hl h hw
 obtain ⟨h0,ca,cb⟩:=eJ hl h
 unfold AB at hw
 split at hw
 ·rename_i e1 e2
  obtain rfl:=(ca _ e1).int
  obtain rfl:=(cb _ e2).int
  split at hw
  ·rename_i hz
   exact ⟨_,_,rfl,rfl,hz,bA h0 hl hw rfl⟩
  ·exact hw.elim
 ·exact hw.elim
theorem p_xor:cX G (rI0 fun i j=> .int (Builtin.bitXor i j)) oXor:=by
 intro E σ τ s θ p v u a b Q hl h hw
 obtain ⟨h0,ca,cb⟩:=eJ hl h
 unfold oXor at hw
 split at hw
 ·rename_i e1 e2
  obtain rfl:=(ca _ e1).int
  obtain rfl:=(cb _ e2).int
  exact ⟨_,_,rfl,rfl,bA h0 hl hw rfl⟩
 ·exact hw.elim
theorem p_cmp {f:Int→Int→Bool}:cX G (rI0 fun i j=> .bl (f i j)) (Bb f):=by
 intro E σ τ s θ p v u a b Q hl h hw
 obtain ⟨h0,ca,cb⟩:=eJ hl h
 unfold Bb at hw
 split at hw
 ·rename_i e1 e2
  obtain rfl:=(ca _ e1).int
  obtain rfl:=(cb _ e2).int
  exact ⟨_,_,rfl,rfl,bA h0 hl hw rfl⟩
 ·exact hw.elim
theorem p_eq:cX G (rEqZ G.K) oEq:=by
 intro E σ τ s θ p v u a b Q hl h hw
 obtain ⟨h0,ca,cb⟩:=eJ hl h
 unfold oEq at hw
 split at hw
 ·rename_i e1 e2
  split at hw
  ·rename_i e3
   exact dEq_eq (ca _ e1) (cb _ e2) e3 (bA h0 hl hw rfl)
  ·exact hw.elim
 ·exact hw.elim
theorem p_ne:cX G (rNeZ G.K) oNe:=by
 intro E σ τ s θ p v u a b Q hl h hw
 obtain ⟨h0,ca,cb⟩:=eJ hl h
 unfold oNe at hw
 split at hw
 ·rename_i ks e1 e2
  obtain ⟨a1,vs,rfl,ha,r⟩:=(ca _ e1).dct
  obtain ⟨a2,us,rfl,hb,r'⟩:=(cb _ e2).dct
  obtain rfl:us= []:=r'
  have e3:vs.isEmpty=ks.isEmpty:=by
   have:=r.len
   cases vs with
   | nil=>cases ks with
    | nil=>rfl
    | cons _ _=>simp at this
   | cons _ _=>cases ks with
    | nil=>simp at this
    | cons _ _=>rfl
  exact .inr (.inr (.inr (.inl ⟨a1,a2,vs,rfl,rfl,ha,hb,by rw [e3]; exact bA h0 hl hw rfl⟩)))
 ·rename_i e1 e2
  split at hw
  ·rename_i e3
   exact dEq_ne (ca _ e1) (cb _ e2) e3 (bA h0 hl hw rfl)
  ·exact hw.elim
 ·exact hw.elim
theorem p_in {neg:Bool}:cX G (rInZ G.K neg) (oIn neg):=by
 intro E σ τ s θ p v u a b Q hl h hw
 obtain ⟨h0,ca,cb⟩:=eJ hl h
 unfold oIn at hw
 split at hw
 ·rename_i e1 e2
  split at hw
  ·rename_i e3
   exact dIn_in (ca _ e1) (cb _ e2) e3 (bA h0 hl hw rfl)
  ·exact hw.elim
 ·exact hw.elim
theorem p_ix:cX G (rIxZ G.K) oIx:=by
 intro E σ τ s θ p v u a b Q hl h hw
 obtain ⟨h0,ca,cb⟩:=eJ hl h
 unfold oIx at hw
 split at hw
 ·rename_i e1 e2
  split at hw
  ·rename_i e3
   obtain ⟨z,r,k⟩:=dIx_ix (ca _ e1) (cb _ e2) e3
   exact k Q (bA h0 hl hw r)
  ·exact hw.elim
 ·exact hw.elim
theorem non_iff {x:D} {p:Wr} {v:V} (h:Rep G p x v):v= .non↔x= .non:=by
 cases x with
 | non=>exact ⟨fun _=>rfl,fun _=>h⟩
 | bl _=>obtain rfl:=h; exact ⟨fun z=>(nomatch z),fun z=>(nomatch z)⟩
 | int _=>obtain rfl:=h; exact ⟨fun z=>(nomatch z),fun z=>(nomatch z)⟩
 | str _=>obtain rfl:=h; exact ⟨fun z=>(nomatch z),fun z=>(nomatch z)⟩
 | cell _=>obtain ⟨_,rfl⟩:=h; exact ⟨fun z=>(nomatch z),fun z=>(nomatch z)⟩
 | lst _=>obtain ⟨_,_,rfl,_⟩:=h; exact ⟨fun z=>(nomatch z),fun z=>(nomatch z)⟩
 | con _=>obtain ⟨_,_,rfl,_⟩:=h; exact ⟨fun z=>(nomatch z),fun z=>(nomatch z)⟩
 | tup _=>obtain ⟨_,_,rfl,_⟩:=h; exact ⟨fun z=>(nomatch z),fun z=>(nomatch z)⟩
 | dct _=>obtain ⟨_,_,rfl,_⟩:=h; exact ⟨fun z=>(nomatch z),fun z=>(nomatch z)⟩
 | exc _ _=>obtain ⟨_,_,_,rfl,_⟩:=h; exact ⟨fun z=>(nomatch z),fun z=>(nomatch z)⟩
 | obj _ _=>obtain ⟨_,_,_,_,rfl,_⟩:=h; exact ⟨fun z=>(nomatch z),fun z=>(nomatch z)⟩
def rIsZ (neg:Bool):R2:=fun x y H Q=>y= .non∧Q (.bl (if neg then !decide (x= .non) else decide (x= .non))) H
theorem vu {X:Cx}:OpR X (compareOp .Is) (rIsZ false):=o_isN
theorem gr {X:Cx}:OpR X (compareOp .IsNot) (rIsZ true):=o_notN
theorem p_isN {neg:Bool}:cX G (rIsZ neg) (kB neg):=by
 intro E σ τ s θ p v u a b Q hl h hw
 have h1:=h.pop1 (by simp; omega)
 obtain ⟨h0,c,r⟩:=dq hl h1
 unfold kB at hw
 split at hw
 ·obtain ⟨u',e1,r'⟩:=h.ent _ _ ai
  have ll:=aP h.len
  rw [←ll,ai] at e1
  cases e1
  obtain rfl:u= .non:=r'
  refine ⟨rfl, ?_⟩
  split at hw
  ·have e:v= .non:=r
   rw [decide_eq_true e]
   cases neg<;> exact bA h0 hl hw rfl
  ·rename_i x hx
   have e:¬v= .non:=fun z=>hx ((non_iff (show Rep G p x v from r)).mp z)
   rw [decide_eq_false e]
   cases neg<;> exact bA h0 hl hw rfl
  ·split at hw
   ·rename_i x e1
    split at hw
    ·rename_i hb
     rcases c x e1 with ⟨_,b,rfl,_⟩ | ⟨q,_⟩
     ·cases neg<;> exact bA h0 hl hw rfl
     ·rw [hb] at q; cases q
    ·exact hw.elim
   ·exact hw.elim
 ·exact hw.elim
end
section
variable {G:Gc} {W:WX} {E:En} {σ σ' :L2.St} {τ τ' :List V} {H:Hp} {s s' :SD} {θ θ' :List Vl} {v u:V} {a b:Vl} {x y:D} {p:Wr} {Q:VK} {m:Nat} {w:List (Option V)} {ŵ:List (Option Vl)} {S:Sto} {k:Nat}
theorem Sm.mid {A B C:List (Option V)} {A' B' C' :List (Option Vl)} (h:Sm G E m p ((A++B)++C) ((A' ++B')++C') S) (hA:A.length=A'.length) (hB:B.length=B'.length) (hm:m≤A.length):Sm G E m p (A++C) (A' ++C') S:=by
 have hC:C.length=C'.length:=by have:=h.len; simp at this; omega
 have fl:∀{α:Type} {A B C:List α} {k:Nat},k<A.length→((A++B)++C)[k]? =(A++C)[k]? :=fun {α A B C k} hk=>by rw [List.append_assoc,List.getElem?_append_left hk,List.getElem?_append_left hk]
 have fr:∀{α:Type} {A B C:List α} {k:Nat},¬k<A.length→((A++B)++C)[k+B.length]? =(A++C)[k]? :=fun {α A B C k} hk=>by
  rw [List.getElem?_append_right (by simp; omega),List.getElem?_append_right (by omega)]
  congr 1
  simp
  omega
 refine h.pick (fun k=>if k<A.length then k else k+B.length) (by simp [hA,hC]) (fun k e q=>?_) (fun j k y z _ _ e=>?_) fun k hk=>?_
 ·by_cases c:k<A.length
  ·rw [if_pos c]
   exact ⟨(fl (by omega)).trans q,(fl c).symm,id⟩
  ·rw [if_neg c]
   refine ⟨?_,(fr c).symm,fun _=>by omega⟩
   rw [hB]
   exact (fr (by omega)).trans q
 ·split at e<;> split at e<;> omega
 ·exact (fl (by omega)).symm
theorem Rel.dropMid (h:Rel G E σ ((τ++τ')++ [v]) H s ((θ++θ')++ [a])) (ht:τ.length=θ.length):Rel G E σ (τ++ [v]) H s (θ++ [a]):=by
 obtain ⟨p,e,hl,h⟩:=h
 have e1:σ++((τ++τ')++ [v]).map some=((σ++τ.map some)++τ'.map some)++ [some v]:=by simp
 have e2:s.sl++((θ++θ')++ [a]).map some=((s.sl++θ.map some)++θ'.map some)++ [some a]:=by simp
 rw [e1,e2] at h
 have len:=h.len
 simp at len
 exact .snoc (h.mid (by simp [hl,ht]) (by simp; omega) (bZ hl)) hl e
theorem Rel.dropEnd (h:Rel G E σ (τ++τ') H s (θ++θ')) (ht:τ.length=θ.length):Rel G E σ τ H s θ:=by
 obtain ⟨p,e,hl,h⟩:=h
 rw [List.map_append,List.map_append,←List.append_assoc,←List.append_assoc] at h
 exact ⟨p,e,hl,h.pop (by simp [hl,ht]) (bZ hl)⟩
theorem RelX.dropEnd {c:Str} {fs:List (Str×D)} {cls:Value} {d:Option Addr} (h:RelX G E σ (τ++τ') H s (θ++θ') c fs cls d) (ht:τ.length=θ.length):RelX G E σ τ H s θ c fs cls d:=by
 obtain ⟨p,e,hl,h,r⟩:=h
 rw [List.map_append,List.map_append,←List.append_assoc,←List.append_assoc] at h
 exact ⟨p,e,hl,h.pop (by simp [hl,ht]) (bZ hl),r⟩
theorem XP.upEnd {c:Str} {fs:List (Str×D)} (h:XP G W E τ θ c fs s) (ht:τ.length=θ.length):XP G W E (τ++τ') (θ++θ') c fs s:=fun cls d σ' H' r=>h cls d σ' H' (r.dropEnd ht)
theorem Be (h:Sm G E s.sl.length p w (s.sl++θ.map some) S) (hn:Nl θ) {i j:Nat} (q:(s.sl++θ.map some)[i]? =some (some (.loc j))):False:=by
 by_cases c:i<s.sl.length
 ·obtain ⟨_,_,r⟩:=h.ent i _ q
  exact absurd r.1 (by omega)
 ·rw [List.getElem?_append_right (by omega),List.getElem?_map] at q
  obtain ⟨e,h1,h2⟩:=Option.map_eq_some_iff.mp q
  cases h2
  exact hn _ (List.mem_of_getElem? h1) j rfl
def Only (is:List Nat) (σ σ' :L2.St):Prop:=σ'.length=σ.length∧∀k:Nat,k∉is→σ'[k]? =σ[k]?
def RG (G:Gc) (W:WX) (is:List Nat) (g:TG) (fz:Vl→SD→R Unit):Prop:=∀(E:En) (σ:L2.St) (τ:List V) (H:Hp) (s:SD) (θ:List Vl) (v:V) (a:Vl) (Q:L2.St→Hp→Prop),Nl θ→Rel G E σ (τ++ [v]) H s (θ++ [a])→
 Wp (fz a s) (fun _ s' =>∀σ' H',Rel G E σ' τ H' s' θ→Only is σ σ'→Q σ' H') (XP G W E τ θ)→g v σ H Q
def zSt (i:Nat) (a:Vl) (s:SD):R Unit:=match a with
 | .d x=> .ok () {s with sl:=s.sl.set i (some (.d x))}
 | .own x=> .ok () {s with sl:=s.sl.set i (some (.own x))}
 | .loc k=>(s.fix (.loc k)).bind fun x s2=> .ok () {s2 with sl:=s2.sl.set i (some (.d x))}
theorem Rel.store {i:Nat} (h:Rel G E σ (τ++ [v]) H s (θ++ [a])) (hn:Nl θ) (ha:∀j,a≠ .loc j):Rel G E (σ.set i (some v)) τ H {s with sl:=s.sl.set i (some a)} θ:=by
 have hpop:=h.pop
 obtain ⟨p,e,hl,h⟩:=h.unsnoc
 by_cases c:i<s.sl.length
 ·have h0:=h.pop1 (bZ hl)
  have q:=h.store (k:=i) c (bZ hl) (aP h.len) ha fun i' j' z=>(Be h0 hn z).elim
  rw [cG (by rw [hl]; exact c),cG c] at q
  refine ⟨p,e,by simp [hl], ?_⟩
  show Sm G E (s.sl.set i (some a)).length _ _ _ _
  rw [List.length_set]
  exact q
 ·rw [List.set_eq_of_length_le (by omega),List.set_eq_of_length_le (by omega)]
  exact hpop
theorem Only.set {i:Nat} {u:Option V}:Only [i] σ (σ.set i u):=⟨by simp,fun k hk=>List.getElem?_set_ne (fun z=>hk (by simp [z]))⟩
theorem RG.name {i:Nat}:RG G W [i] (gName i) (zSt i):=by
 intro E σ τ H s θ v a Q hn hR hw
 cases a with
 | d x=>exact hw _ _ (hR.store hn fun j q=>nomatch q) .set
 | own x=>exact hw _ _ (hR.store hn fun j q=>nomatch q) .set
 | loc k=>
  unfold zSt at hw
  dsimp only at hw
  rw [ae] at hw
  obtain ⟨p,rfl,hl,h⟩:=hR.unsnoc
  cases e:s.fix (.loc k) with
  | bad=>rw [e] at hw; exact hw.elim
  | ex c fs s2=>exact (vS _ _ _ _ _ e).elim
  | ok x s2=>
   rw [e] at hw
   obtain ⟨p',hp,hs,h'⟩:=zt E s _ x s2 p _ _ v e h (bZ hl)
   have hR2:Rel G E σ (τ++ [v]) p.H s2 (θ++ [.d x]):=hp ▸ .snoc h' (hl.trans hs.symm) rfl
   exact hw _ _ (hR2.store hn fun j q=>nomatch q) .set
def dg:List Nat→List D→List (Option Vl)→List (Option Vl)
 | i::is,d::ds,l=>dg is ds (l.set i (some (.d d)))
 | _,_,l=>l
def vP:List Nat→TGs
 | []=>gNil
 | i::is=>gCons (gName i) (vP is)
theorem qT {i:Nat} {is:List Nat} {u:Option V} (o:Only is (σ.set i u) σ'):Only (i::is) σ σ' :=⟨o.1.trans (by simp),fun k hk=>by
 simp only [List.mem_cons,not_or] at hk
 rw [o.2 k hk.2,List.getElem?_set_ne (fun z=>hk.1 z.symm)]⟩
theorem vB {is:List Nat}:∀{ds:List D} {vs:List V} {σ:L2.St} {s:SD} {Q:L2.St→Hp→Prop},ds.length=is.length→Nl θ→σ.length=s.sl.length→Sm G E s.sl.length p (σ++τ.map some) (s.sl++θ.map some) s.st→Reps G p ds vs→
  (∀σ',Rel G E σ' τ p.H {s with sl:=dg is ds s.sl} θ→Only is σ σ'→Q σ' p.H)→vP is vs σ p.H Q:=by
 induction is with
 | nil=>
  intro ds vs σ s Q hd hn hl h r q
  obtain rfl:ds= []:=List.eq_nil_of_length_eq_zero hd
  obtain rfl:vs= []:=r
  exact ⟨rfl,q σ ⟨p,rfl,hl,h⟩ ⟨rfl,fun _ _=>rfl⟩⟩
 | cons i is ih=>
  intro ds vs σ s Q hd hn hl h r q
  cases ds with
  | nil=>cases hd
  | cons d ds=>
   obtain ⟨v,vr,rfl,r1,r2⟩:=r
   refine ⟨v,vr,rfl, ?_⟩
   show vP is vr (σ.set i (some v)) p.H Q
   have h1:=h.push r1
   by_cases c:i<s.sl.length
   ·have q1:=h1.store (k:=i) c (bZ hl) h.len (fun j z=>nomatch z) fun i' j' z=>(Be h hn z).elim
    rw [cG (by rw [hl]; exact c),cG c] at q1
    refine ih (s:= {s with sl:=s.sl.set i (some (.d d))}) (by simpa using hd) hn (by simp [hl]) ?_ r2 fun σ' h' o=>q σ' h' (qT o)
    show Sm G E (s.sl.set i _).length _ _ _ _
    rw [List.length_set]
    exact q1
   ·have e1:σ.set i (some v)=σ:=List.set_eq_of_length_le (by omega)
    have e2:s.sl.set i (some (.d d))=s.sl:=List.set_eq_of_length_le (by omega)
    rw [e1]
    refine ih (s:=s) (by simpa using hd) hn hl h r2 fun σ' h' o=>q σ' ?_ (qT (by rw [e1]; exact o))
    unfold dg
    rw [e2]
    exact h'
def ig (is:List Nat) (a:Vl) (s:SD):R Unit:=match s.cont a with
 | some (.tup ds)=>if ds.length=is.length then .ok () {s with sl:=dg is ds s.sl} else .bad
 | _=> .bad
theorem RG.names {is:List Nat} {n:Nat} (hn:n=is.length):RG G W is (gTup G.K n (vP is)) (ig is):=by
 intro E σ τ H s θ v a Q hN hR hw
 obtain ⟨p,rfl,hl,h⟩:=hR.unsnoc
 obtain ⟨h0,c,_⟩:=dq hl h
 unfold ig at hw
 split at hw
 ·rename_i ds e1
  split at hw
  ·rename_i e2
   obtain ⟨b,vs,rfl,hb,r⟩:=(c _ e1).tup
   exact ⟨b,vs,rfl, .of hb,by rw [r.len,e2,hn],vB e2 hN hl h0 r fun σ' h' o=>hw σ' _ h' o⟩
  ·exact hw.elim
 ·exact hw.elim
def aA (fa:SD→R Vl) (fz:Vl→SD→R Unit):SD→R Fl:=fun s=>(fa s).bind fun a s1=>(fz a s1).bind fun _ s2=> .ok .nx s2
theorem aad {is:List Nat} {te:TE} {g:TG} {fa:SD→R Vl} {fz:Vl→SD→R Unit} (ha:RE G W te fa) (hg:RG G W is g fz):RS G W (tAsg te g) (aA fa fz):=by
 intro E σ τ H s θ D hN hR hw
 unfold aA at hw
 rw [ae] at hw
 refine ha E σ τ H s θ _ hN hR (hw.mono (fun a s1 hw v H1 h1=>?_) fun _ _ _ h=>h)
 rw [ae] at hw
 exact hg E σ τ H1 s1 θ v a _ hN h1 (hw.mono (fun _ s2 hw σ' H' h' _=>hw σ' H' h') fun _ _ _ h=>h)
def af (f g:SD→R Fl):SD→R Fl:=fun s=>(f s).bind fun fl s1=>match fl with
 | .nx=>g s1
 | .bk=> .ok .bk s1
 | .ct=> .ok .ct s1
 | .rt a=> .ok (.rt a) s1
theorem RS.seq {t u:TS} {f g:SD→R Fl} (ha:RS G W t f) (hb:RS G W u g):RS G W (tSeq t u) (af f g):=by
 intro E σ τ H s θ D hN hR hw
 unfold af at hw
 rw [ae] at hw
 refine ha E σ τ H s θ _ hN hR (hw.mono (fun fl s1 hw=>?_) fun _ _ _ h=>h)
 cases fl with
 | nx=>exact fun σ' H' h' =>hb E σ' τ H' s1 θ D hN h' hw
 | bk=>exact hw
 | ct=>exact hw
 | rt a=>exact hw
def aI:SD→R Fl:=fun s=> .ok .nx s
def zBreak:SD→R Fl:=fun s=> .ok .bk s
def zCont:SD→R Fl:=fun s=> .ok .ct s
theorem RS.next:RS G W tNext aI:=fun _ _ _ _ _ _ _ _ hR hw=>hw _ _ hR
theorem RS.brk:RS G W tBreak zBreak:=fun _ _ _ _ _ _ _ _ hR hw=>hw _ _ hR
theorem RS.cont:RS G W tCont zCont:=fun _ _ _ _ _ _ _ _ hR hw=>hw _ _ hR
def bJ (c:SD→R Bool) (f g:SD→R Fl):SD→R Fl:=fun s=>(c s).bind fun b s1=>if b=true then f s1 else g s1
theorem aae {c:TT} {t u:TS} {fc:SD→R Bool} {f g:SD→R Fl} (hc:RT G W c fc) (ha:RS G W t f) (hb:RS G W u g):RS G W (tIfS c t u) (bJ fc f g):=by
 intro E σ τ H s θ D hN hR hw
 unfold bJ at hw
 rw [ae] at hw
 refine hc E σ τ H s θ _ hN hR (hw.mono (fun b s1 hw H1 h1=>?_) fun _ _ _ h=>h)
 split
 ·rename_i c; rw [if_pos c] at hw; exact ha E σ τ H1 s1 θ D hN h1 hw
 ·rename_i c; rw [if_neg c] at hw; exact hb E σ τ H1 s1 θ D hN h1 hw
def SD.told (s:SD):Vl→R Vl
 | .d x=> .ok (.d x) s
 | .own x=> .ok (.own x) s
 | .loc k=>match s.sl[k]? with
  | some (some (.own x))=> .ok (.own x) {s with sl:=s.sl.set k none}
  | some (some (.d x))=> .ok (.d x) s
  | _=> .bad
def aW (fa:SD→R Vl):SD→R Fl:=fun s=>(fa s).bind fun a s1=>(s1.told a).bind fun b s2=> .ok (.rt b) s2
theorem Sm.move {i:Nat} (h:Sm G E m p (w++ [some v]) (ŵ++ [some (.loc i)]) S) (q:ŵ[i]? =some (some (.own x))) (hl:w.length=ŵ.length) (hm:m≤w.length) (hn:∀(k j:Nat),ŵ[k]? =some (some (.loc j))→False):
  Sm G E m p (w++ [some v]) (ŵ.set i none++ [some (.own x)]) S:=by
 obtain ⟨u,e1,r1,r2,r3⟩:=h.ent _ _ (ai (l:=ŵ))
 rw [←hl,ai] at e1; cases e1
 have hi:=aq q
 rw [List.getElem?_append_left (by omega)] at r3
 have q' :(ŵ++ [some (Vl.loc i)])[i]? =some (some (.own x)):=bh q
 have r3' :(w++ [some v])[i]? =some (some v):=bh r3
 refine h.pick (fun k=>if k=ŵ.length then i else k) (by simp [hl]) (fun k e q1=>?_) (fun j k y z h1 h2 e=>?_) fun k hk=>rfl
 ·rcases aM q1 with q1 | ⟨rfl,qq⟩
  ·rcases dV q1 with ⟨rfl,qq⟩ | ⟨c,q1⟩
   ·cases qq
   ·rw [if_neg (by have:=aq q1; omega)]
    exact ⟨bh q1,rfl,id⟩
  ·obtain rfl:=Option.some.inj qq
   simp only [List.length_set,if_true]
   exact ⟨q',by rw [←hl,ai,r3'],fun z=>by omega⟩
 ·have ni:∀{j:Nat} {y:D},(ŵ.set i none++ [some (Vl.own x)])[j]? =some (some (.own y))→j≠i:=fun {j y} q1=>by
   rcases aM q1 with q1 | ⟨rfl,qq⟩
   ·rcases dV q1 with ⟨rfl,qq⟩ | ⟨c,q1⟩
    ·cases qq
    ·exact fun z=>c z.symm
   ·simp; omega
  have:=ni h1
  have:=ni h2
  split at e<;> split at e<;> omega
theorem told_ok {E:En} {s:SD} {a b:Vl} {s' :SD} {θ:List Vl} (c:s.told a= .ok b s') (hn:Nl θ) (hR:Rel G E σ (τ++ [v]) H s (θ++ [a])):Rel G E σ (τ++ [v]) H s' (θ++ [b])∧∀j,b≠ .loc j:=by
 cases a with
 | d x=>cases c; exact ⟨hR,fun j q=>nomatch q⟩
 | own x=>cases c; exact ⟨hR,fun j q=>nomatch q⟩
 | loc k=>
  unfold SD.told at c
  dsimp only at c
  obtain ⟨p,e,hl,h⟩:=hR.unsnoc
  have h0:=h.pop1 (bZ hl)
  cases q1:s.sl[k]? with
  | none=>rw [q1] at c; cases c
  | some o=>
   cases o with
   | none=>rw [q1] at c; cases c
   | some z=>
    rw [q1] at c
    have hs:(s.sl++θ.map some)[k]? =some (some z):=by rw [List.getElem?_append_left (aq q1)]; exact q1
    cases z with
    | d y=>
     cases c
     obtain ⟨u,e1,r1,r2,r3⟩:=h.ent _ _ (ai (l:=s.sl++θ.map some))
     rw [←aP h.len,ai] at e1; cases e1
     rw [List.getElem?_append_left (by simp; omega)] at r3
     obtain ⟨u,e2,r⟩:=h0.ent k _ hs
     rw [r3] at e2; cases e2
     exact ⟨.snoc (h0.push r) hl e,fun j q=>nomatch q⟩
    | own y=>
     cases c
     have q:=h.move hs (aP h.len) (bZ hl) fun k' j' z=>Be h0 hn z
     rw [cG (aq q1)] at q
     refine ⟨.snoc (s:= {s with sl:=s.sl.set k none}) ?_ (by simp [hl]) e,fun j q=>nomatch q⟩
     show Sm G E (s.sl.set k none).length _ _ _ _
     rw [List.length_set]
     exact q
    | loc j=>cases c
theorem told_nx:∀(s:SD) (a:Vl) c fs s',s.told a≠ .ex c fs s' :=by
 intro s a c fs s'
 cases a with
 | d x=>intro q; cases q
 | own x=>intro q; cases q
 | loc k=>
  unfold SD.told
  dsimp only
  split<;> intro q<;> cases q
theorem RS.ret {te:TE} {fa:SD→R Vl} (ha:RE G W te fa):RS G W (tRet te) (aW fa):=by
 intro E σ τ H s θ D hN hR hw
 unfold aW at hw
 rw [ae] at hw
 refine ha E σ τ H s θ _ hN hR (hw.mono (fun a s1 hw v H1 h1=>?_) fun _ _ _ h=>h)
 rw [ae] at hw
 cases e:s1.told a with
 | bad=>rw [e] at hw; exact hw.elim
 | ex c fs s2=>exact (told_nx _ _ _ _ _ e).elim
 | ok b s2=>
  rw [e] at hw
  obtain ⟨h2,_⟩:=told_ok e hN h1
  exact hw.2 _ _ _ h2
def AG:SD→R Fl:=fun s=> .ok (.rt (.d .non)) s
theorem RS.retN:RS G W tRetN AG:=fun _ _ _ _ _ _ _ _ hR hw=>hw.2 _ _ _ (hR.push fun _=>rfl)
def az (fa:SD→R Vl):SD→R Fl:=fun s=>(fa s).bind fun _ s1=> .ok .nx s1
theorem RS.drop {te:TE} {fa:SD→R Vl} (ha:RE G W te fa):RS G W (tDrop te) (az fa):=by
 intro E σ τ H s θ D hN hR hw
 unfold az at hw
 rw [ae] at hw
 exact ha E σ τ H s θ _ hN hR (hw.mono (fun a s1 hw v H1 h1=>hw _ _ h1.pop) fun _ _ _ h=>h)
def wX (i j:Nat) (fr:SD→R (List D)):SD→R Fl:=fun s=>(fr s).bind fun ds s1=>match ds with
 | [x,y]=> .ok .nx {s1 with sl:=dg [i,j] [x,y] s1.sl}
 | _=> .bad
theorem aap {i j:Nat} {t:TA} {fr:SD→R (List D)} (ha:RA G W t fr):RS G W (tPar i j t) (wX i j fr):=by
 intro E σ τ H s θ D hN hR hw
 unfold wX at hw
 rw [ae] at hw
 refine ha E σ τ H s θ _ hN hR (hw.mono (fun ds s1 hw vs H1 h1=>?_) fun _ _ _ h=>h)
 split at hw
 ·obtain ⟨p,rfl,hl,h,r⟩:=h1.args hR.tlen
  have:=vB (is:= [i,j]) (Q:=fun σ' H' =>D.nx σ' H') rfl hN hl h r fun σ' h' _=>hw σ' _ h'
  obtain ⟨v,r1,rfl,w,r2,rfl,rfl,q⟩:=this
  exact ⟨v,w,rfl,q⟩
 ·exact hw.elim
end
structure Src where
 hs:List Vl
 ok:SD→Prop
 ds:List D
def Walk (G:Gc) (E:En) (J:It) (src:Src) (vs:List V):Prop:=∀(i:Nat) (σ:L2.St) (τ τ2:List V) (θ θ2:List Vl) (H:Hp) (s:SD),τ.length=θ.length→τ2.length=θ2.length→Rel G E σ (τ++vs++τ2) H s (θ++src.hs++θ2)→src.ok s→
 (∀d,src.ds[i]? =some d→J.go i H∧∀x H',J.yld i H x H'→Rel G E σ (τ++vs++τ2++ [x]) H' s (θ++src.hs++θ2++ [.d d]))∧(src.ds[i]? =none→J.stop i H)
def EnLe (G:Gc) (E E' :En):Prop:=∀(m:Nat) (p:Wr) (w:List (Option V)) (ŵ:List (Option Vl)) (S:Sto),Sm G E' m p w ŵ S→Sm G E m p w ŵ S
def RI (G:Gc) (W:WX) (wi:TI) (fi:SD→R Src):Prop:=∀(E:En) (σ:L2.St) (τ:List V) (H:Hp) (s:SD) (θ:List Vl) (Q:It→Hp→Prop),Nl θ→Rel G E σ τ H s θ→
 Wp (fi s) (fun src s' =>∀vs H' J E',EnLe G E E'→vs.length=src.hs.length→Rel G E' σ (τ++vs) H' s' (θ++src.hs)→Walk G E' J src vs→Q J H') (XP G W E τ θ)→wi σ H Q
section
variable {G:Gc} {W:WX} {E:En} {σ σ' :L2.St} {τ τ2:List V} {H:Hp} {s:SD} {θ θ2:List Vl} {v:V} {a b:Vl} {x y:D} {p:Wr} {Q:VK} {m:Nat} {k:Nat}
theorem Rel.at1 (h:Rel G E σ (τ++ [v]++τ2) H s (θ++ [a]++θ2)) (ht:τ.length=θ.length):∃p:Wr,p.H=H∧σ.length=s.sl.length∧Sm G E s.sl.length p (σ++(τ++ [v]++τ2).map some) (s.sl++(θ++ [a]++θ2).map some) s.st∧∀x,s.cont a=some x→Cont G p x v:=by
 obtain ⟨p,e,hl,h⟩:=h
 refine ⟨p,e,hl,h,fun x c=>?_⟩
 have e1:σ++(τ++ [v]++τ2).map some=(σ++τ.map some)++some v::τ2.map some:=by simp
 have e2:s.sl++(θ++ [a]++θ2).map some=(s.sl++θ.map some)++some a::θ2.map some:=by simp
 have hA:(σ++τ.map some).length=(s.sl++θ.map some).length:=by simp [hl,ht]
 refine h.cont rfl (k:=(s.sl++θ.map some).length) ?_ ?_ c
 ·rw [e2,List.getElem?_append_right (Nat.le_refl _)]; simp
 ·rw [e1,←hA,List.getElem?_append_right (Nat.le_refl _)]; simp
noncomputable def aU (fa:SD→R Vl):SD→R Src:=fun s=>(fa s).bind fun a s1=>match s1.cont a with
 | some (.lst ds)=> .ok ⟨[a],fun s=>s.cont a=some (.lst ds),ds⟩ s1
 | some (.con ds)=> .ok ⟨[a],fun s=>s.cont a=some (.con ds),ds⟩ s1
 | _=> .bad
theorem RI.lst {te:TE} {fa:SD→R Vl} (ha:RE G W te fa):RI G W (iList G.K te) (aU fa):=by
 intro E σ τ H s θ Q hN hR hw
 unfold aU at hw
 rw [ae] at hw
 refine ha E σ τ H s θ _ hN hR (hw.mono (fun a s1 hw v H1 h1=>?_) fun _ _ _ h=>h)
 have h0:=h1
 obtain ⟨p,rfl,hl,h⟩:=h1.unsnoc
 obtain ⟨h2,c,_⟩:=dq hl h
 split at hw
 ·rename_i ds e
  obtain ⟨b,vs,rfl,hb,r⟩:=(c _ e).lst
  refine ⟨b,rfl,⟨vs, .of hb⟩,hw [.ref b] _ _ E (fun _ _ _ _ _ h=>h) rfl h0 fun i σ τ τ2 θ θ2 H s ht ht2 h ok=>?_⟩
  obtain ⟨p',rfl,hl',hS,c'⟩:=h.at1 ht
  obtain ⟨b',vs',e',hb',r'⟩:=(c' _ ok).lst
  cases e'
  refine ⟨fun d e=>?_,fun e=>⟨vs', .of hb',List.getElem?_eq_none_iff.mp (r'.none e)⟩⟩
  obtain ⟨v,e1,r1⟩:=r'.get e
  refine ⟨⟨vs',v, .of hb',e1⟩,fun x H' y=>?_⟩
  obtain ⟨rfl,y⟩:=y
  have:=y vs' (.of hb')
  rw [e1] at this; cases this
  exact .snoc (hS.push r1) hl' rfl
 ·rename_i ds e
  obtain ⟨b,vs,rfl,hb,r⟩:=(c _ e).con
  refine ⟨b,rfl,⟨vs,hb⟩,hw [.ref b] _ _ E (fun _ _ _ _ _ h=>h) rfl h0 fun i σ τ τ2 θ θ2 H s ht ht2 h ok=>?_⟩
  obtain ⟨p',rfl,hl',hS,c'⟩:=h.at1 ht
  obtain ⟨b',vs',e',hb',r'⟩:=(c' _ ok).con
  cases e'
  refine ⟨fun d e=>?_,fun e=>⟨vs',hb',List.getElem?_eq_none_iff.mp (r'.none e)⟩⟩
  obtain ⟨v,e1,r1⟩:=r'.get e
  refine ⟨⟨vs',v,hb',e1⟩,fun x H' y=>?_⟩
  obtain ⟨rfl,y⟩:=y
  have:=y vs' (hb')
  rw [e1] at this; cases this
  exact .snoc (hS.push r1) hl' rfl
 ·exact hw.elim
noncomputable def zItT (fa:SD→R Vl):SD→R Src:=fun s=>(fa s).bind fun a s1=>match s1.cont a with
 | some (.tup ds)=> .ok ⟨[a],fun s=>s.cont a=some (.tup ds),ds⟩ s1
 | _=> .bad
theorem RI.tup {te:TE} {fa:SD→R Vl} (ha:RE G W te fa):RI G W (iTup G.K te) (zItT fa):=by
 intro E σ τ H s θ Q hN hR hw
 unfold zItT at hw
 rw [ae] at hw
 refine ha E σ τ H s θ _ hN hR (hw.mono (fun a s1 hw v H1 h1=>?_) fun _ _ _ h=>h)
 have h0:=h1
 obtain ⟨p,rfl,hl,h⟩:=h1.unsnoc
 obtain ⟨h2,c,_⟩:=dq hl h
 split at hw
 ·rename_i ds e
  obtain ⟨b,vs,rfl,hb,r⟩:=(c _ e).tup
  refine ⟨b,rfl,⟨vs, .of hb⟩,hw [.ref b] _ _ E (fun _ _ _ _ _ h=>h) rfl h0 fun i σ τ τ2 θ θ2 H s ht ht2 h ok=>?_⟩
  obtain ⟨p',rfl,hl',hS,c'⟩:=h.at1 ht
  obtain ⟨b',vs',e',hb',r'⟩:=(c' _ ok).tup
  cases e'
  refine ⟨fun d e=>?_,fun e=>⟨vs', .of hb',List.getElem?_eq_none_iff.mp (r'.none e)⟩⟩
  obtain ⟨v,e1,r1⟩:=r'.get e
  refine ⟨⟨vs',v, .of hb',e1⟩,fun x H' y=>?_⟩
  obtain ⟨rfl,y⟩:=y
  have:=y vs' (.of hb')
  rw [e1] at this; cases this
  exact .snoc (hS.push r1) hl' rfl
 ·exact hw.elim
def signs (z:Str):List D:=z.cps.toList.map fun c=> .str ⟨#[c]⟩
def zItS (fa:SD→R Vl):SD→R Src:=fun s=>(fa s).bind fun a s1=>match a with
 | .d (.str z)=> .ok ⟨[a],fun _=>True,signs z⟩ s1
 | _=> .bad
theorem RI.str {te:TE} {fa:SD→R Vl} (ha:RE G W te fa):RI G W (iStr te) (zItS fa):=by
 intro E σ τ H s θ Q hN hR hw
 unfold zItS at hw
 rw [ae] at hw
 refine ha E σ τ H s θ _ hN hR (hw.mono (fun a s1 hw v H1 h1=>?_) fun _ _ _ h=>h)
 split at hw
 ·rename_i z
  obtain ⟨p,rfl,r⟩:=h1.last
  obtain rfl:v= .str z:=r
  refine ⟨z,rfl,hw [.str z] _ _ E (fun _ _ _ _ _ h=>h) rfl h1 fun i σ τ τ2 θ θ2 H s ht ht2 h ok=>?_⟩
  have sz:(signs z).length=z.cps.size:=by simp [signs]
  refine ⟨fun d e=>?_,fun e=>?_⟩
  ·have hi:i<z.cps.size:=by rw [←sz]; exact aq e
   refine ⟨hi,fun x H' y=>?_⟩
   obtain ⟨rfl,c,e1,rfl⟩:=y
   unfold signs at e
   rw [List.getElem?_map,Array.getElem?_toList,e1] at e
   cases e
   exact h.push fun _=>rfl
  ·show z.cps.size≤i
   rw [←sz]
   exact List.getElem?_eq_none_iff.mp e
 ·exact hw.elim
def upTo (lo:Int) (n:Nat):List D:=(List.range n).map fun i=> .int (lo+(i:Nat))
theorem uV {lo:Int} {n i:Nat}:(upTo lo n)[i]? =if i<n then some (.int (lo+i)) else none:=by
 unfold upTo
 rw [List.getElem?_map]
 by_cases c:i<n
 ·rw [List.getElem?_range c,if_pos c]; rfl
 ·rw [List.getElem?_eq_none (by simpa using c),if_neg c]; rfl
theorem AI {lo:Int} {n:Nat}:Walk G E (Itr lo n) ⟨[],fun _=>True,upTo lo n⟩ []:=by
 intro i σ τ τ2 θ θ2 H s ht ht2 h ok
 refine ⟨fun d e=>?_,fun e=>?_⟩
 ·rw [uV] at e
  split at e
  ·rename_i c
   cases e
   refine ⟨c,fun x H' y=>?_⟩
   obtain ⟨rfl,rfl⟩:=y
   exact h.push fun _=>rfl
  ·cases e
 ·rw [uV] at e
  split at e
  ·cases e
  ·rename_i c; exact Nat.le_of_not_lt c
def oI:D→Option Int
 | .int i=>some i
 | _=>none
noncomputable def sk (fr:SD→R (List D)):SD→R Src:=fun s=>(fr s).bind fun ds s1=>match ds with
 | [.int j]=>if -(2 ^ 62)≤j∧j<2 ^ 62 then .ok ⟨[],fun _=>True,upTo 0 j.toNat⟩ s1 else .bad
 | _=> .bad
noncomputable def zRg2 (fr:SD→R (List D)):SD→R Src:=fun s=>(fr s).bind fun ds s1=>match ds with
 | [.int i, .int j]=>if -(2 ^ 62)≤i∧i<2 ^ 62∧ -(2 ^ 62)≤j∧j<2 ^ 62 then .ok ⟨[],fun _=>True,upTo i (j - i).toNat⟩ s1 else .bad
 | _=> .bad
theorem Reps.ints1 {i:Int} {vs:List V} (r:Reps G p [.int i] vs):vs= [.int i]:=by
 obtain ⟨v,r1,rfl,h1,rfl⟩:=r
 rw [show v= .int i from h1]
theorem aam {t:TA} {fr:SD→R (List D)} (ha:RA G W t fr):RI G W (iRng1 t) (sk fr):=by
 intro E σ τ H s θ Q hN hR hw
 unfold sk at hw
 rw [ae] at hw
 refine ha E σ τ H s θ _ hN hR (hw.mono (fun ds s1 hw vs H1 h1=>?_) fun _ _ _ h=>h)
 obtain ⟨p,rfl,hl,h,r⟩:=h1.args hR.tlen
 split at hw
 ·rename_i j
  split at hw
  ·rename_i c
   exact ⟨j,r.ints1,c.1,c.2,hw [] _ _ E (fun _ _ _ _ _ h=>h) rfl (by simpa using (show Rel G E σ τ p.H s1 θ from ⟨p,rfl,hl,h⟩)) AI⟩
  ·exact hw.elim
 ·exact hw.elim
def dF (ds:List D):List D:=ds.zipIdx.map fun q=> .tup [.int (q.2:Nat),q.1]
theorem gS {ds:List D} {i:Nat}:(dF ds)[i]? =ds[i]?.map fun d=> .tup [.int (i:Nat),d]:=by
 unfold dF
 rw [List.getElem?_map,List.getElem?_zipIdx]
 cases ds[i]? <;> simp
noncomputable def fR (fa:SD→R Vl):SD→R Src:=fun s=>(fa s).bind fun a s1=>match s1.cont a with
 | some (.lst ds)=> .ok ⟨[a],fun s=>s.cont a=some (.lst ds),dF ds⟩ s1
 | _=> .bad
theorem RI.enum {te:TE} {fa:SD→R Vl} (ha:RE G W te fa):RI G W (iEnum G.K (tCons te tNil)) (fR fa):=by
 intro E σ τ H s θ Q hN hR hw
 unfold fR at hw
 rw [ae] at hw
 refine ha E σ τ H s θ _ hN hR (hw.mono (fun a s1 hw v H1 h1=>?_) fun _ _ _ h=>h)
 have h0:=h1
 obtain ⟨p,rfl,hl,h⟩:=h1.unsnoc
 obtain ⟨h2,c,_⟩:=dq hl h
 split at hw
 ·rename_i ds e
  obtain ⟨b,vs,rfl,hb,r⟩:=(c _ e).lst
  refine ⟨b,vs,rfl, .of hb,hw [.ref b] _ _ E (fun _ _ _ _ _ h=>h) rfl h0 fun i σ τ τ2 θ θ2 H s ht ht2 h ok=>?_⟩
  obtain ⟨p',rfl,hl',hS,c'⟩:=h.at1 ht
  obtain ⟨b',vs',e',hb',r'⟩:=(c' _ ok).lst
  cases e'
  refine ⟨fun d e=>?_,fun e=>?_⟩
  ·have e:(dF ds)[i]? =some d:=e
   rw [gS] at e
   obtain ⟨d,ee,rfl⟩:=Option.map_eq_some_iff.mp e
   obtain ⟨v,e1,r1⟩:=r'.get ee
   refine ⟨⟨vs',v, .of hb',e1⟩,fun x H' y=>?_⟩
   obtain ⟨T,z,rfl,hT,rfl,y⟩:=y
   have:=y vs' (.of hb')
   rw [e1] at this; cases this
   exact .snoc ((hS.alloc hT).push (x:= .tup [.int (i:Nat),d]) ⟨T,_,rfl,⟨(hS.fresh hT).2,upd_same⟩,_,_,rfl,rfl,_,_,rfl,r1.mono (dP hT),rfl⟩) hl' rfl
  ·have e:(dF ds)[i]? =none:=e
   rw [gS,Option.map_eq_none_iff] at e
   exact ⟨vs', .of hb',List.getElem?_eq_none_iff.mp (r'.none e)⟩
 ·exact hw.elim
noncomputable def zRev (fa:SD→R Vl):SD→R Src:=fun s=>(fa s).bind fun a s1=>match s1.cont a with
 | some (.lst ds)=> .ok ⟨[a],fun s=>s.cont a=some (.lst ds),ds.reverse⟩ s1
 | _=> .bad
theorem EnLe.rel {E' :En} (l:EnLe G E E') (h:Rel G E' σ τ H s θ):Rel G E σ τ H s θ:=let ⟨p,e,hl,h⟩:=h; ⟨p,e,hl,l _ _ _ _ _ h⟩
theorem EnLe.xp {E' :En} (l:EnLe G E E') {c:Str} {fs:List (Str×D)} (h:XP G W E τ θ c fs s):XP G W E' τ θ c fs s:=fun cls d σ' H' ⟨p,e,hl,h1,x⟩=>h cls d σ' H' ⟨p,e,hl,l _ _ _ _ _ h1,x⟩
noncomputable def fQ (ok:SD→Prop) (body:D→SD→R Fl):List D→SD→R Fl
 | [],s=>if ok s then .ok .nx s else .bad
 | d::ds,s=>if ok s then (body d s).bind fun fl s1=>match fl with
   | .nx=>fQ ok body ds s1
   | .ct=>fQ ok body ds s1
   | .bk=> .ok .nx s1
   | .rt a=> .ok (.rt a) s1
  else .bad
noncomputable def cC (fi:SD→R Src) (fz:Vl→SD→R Unit) (fb:SD→R Fl):SD→R Fl:=fun s=>(fi s).bind fun src s1=>if Nl src.hs then fQ src.ok (fun d s=>(fz (.d d) s).bind fun _ s2=>fb s2) src.ds s1 else .bad
theorem Nl.app {l l' :List Vl} (h:Nl l) (h' :Nl l'):Nl (l++l'):=fun e he=>(List.mem_append.mp he).elim (h e) (h' e)
theorem RS.for' {is:List Nat} {wi:TI} {g:TG} {tb:TS} {fi:SD→R Src} {fz:Vl→SD→R Unit} {fb:SD→R Fl} (hi:RI G W wi fi) (hg:RG G W is g fz) (hb:RS G W tb fb):RS G W (tFor wi g tb) (cC fi fz fb):=by
 intro E σ τ H s θ D hN hR hw
 unfold cC at hw
 rw [ae] at hw
 refine hi E σ τ H s θ _ hN hR (hw.mono (fun src s1 hw vs H1 J E' el hv h1 wk=>?_) fun _ _ _ h=>h)
 split at hw
 ·rename_i hNs
  have ht:=hR.tlen
  have hN1:Nl (θ++src.hs):=hN.app hNs
  refine ⟨fun i m σ H=>m=src.ds.length - i∧i≤src.ds.length∧∃s,Rel G E' σ (τ++vs) H s (θ++src.hs)∧Wp (fQ src.ok (fun d s=>(fz (.d d) s).bind fun _ s2=>fb s2) (src.ds.drop i) s) (FP G E τ θ D) (XP G W E τ θ),⟨src.ds.length,by simp,Nat.zero_le _,s1,h1,by simpa using hw⟩, ?_⟩
  rintro i m σ2 H2 ⟨rfl,hi2,s2,h2,hw2⟩
  have h2' :Rel G E' σ2 (τ++vs++ []) H2 s2 (θ++src.hs++ []):=by simpa using h2
  by_cases c:i<src.ds.length
  ·have ed:src.ds[i]? =some src.ds[i]:=List.getElem?_eq_getElem c
   rw [List.drop_eq_getElem_cons c] at hw2
   unfold fQ at hw2
   split at hw2
   ·rename_i ok
    obtain ⟨go,yl⟩:=(wk i σ2 τ [] θ [] H2 s2 ht rfl h2' ok).1 _ ed
    refine .inr ⟨go,fun σ' H' =>∃s,Rel G E' σ' (τ++vs) H' s (θ++src.hs)∧Wp (fQ src.ok (fun d s=>(fz (.d d) s).bind fun _ s2=>fb s2) (src.ds.drop (i+1)) s) (FP G E τ θ D) (XP G W E τ θ),fun σ' H' ⟨s,q1,q2⟩=>⟨_,by omega,rfl,by omega,s,q1,q2⟩,fun x H' y=>?_⟩
    have hx:Rel G E' σ2 (τ++vs++ [x]) H' s2 (θ++src.hs++ [.d src.ds[i]]):=by simpa using yl x H' y
    rw [ae,ae] at hw2
    refine hg E' σ2 (τ++vs) H' s2 (θ++src.hs) x _ _ hN1 hx (hw2.mono (fun _ s3 hw3 σ3 H3 h3 _=>?_) fun _ _ _ h=>el.xp (h.upEnd ht))
    refine hb E' σ3 (τ++vs) H3 s3 (θ++src.hs) _ hN1 h3 (hw3.mono (fun fl s4 hw4=>?_) fun _ _ _ h=>el.xp (h.upEnd ht))
    cases fl with
    | nx=>exact fun σ' H' h' =>⟨s4,h',hw4⟩
    | ct=>exact fun σ' H' h' =>⟨s4,h',hw4⟩
    | bk=>exact fun σ' H' h' =>hw4 σ' H' ((el.rel h').dropEnd ht)
    | rt a=>exact ⟨hw4.1,fun σ' v H' h' =>hw4.2 σ' v H' ((el.rel h').dropMid ht)⟩
   ·exact hw2.elim
  ·have e:src.ds[i]? =none:=List.getElem?_eq_none (by omega)
   rw [List.drop_eq_nil_of_le (by omega)] at hw2
   unfold fQ at hw2
   split at hw2
   ·rename_i ok
    exact .inl ⟨(wk i σ2 τ [] θ [] H2 s2 ht rfl h2' ok).2 e,hw2 _ _ ((el.rel h2).dropEnd ht)⟩
   ·exact hw2.elim
 ·exact hw.elim
def jI (c:SD→R Bool) (f:SD→R Fl):Nat→SD→R Fl
 | 0,_=> .bad
 | n+1,s=>(c s).bind fun b s1=>if b=true then (f s1).bind fun fl s2=>match fl with
   | .nx=>jI c f n s2
   | .ct=>jI c f n s2
   | .bk=> .ok .nx s2
   | .rt a=> .ok (.rt a) s2
  else .ok .nx s1
noncomputable def zWh (c:SD→R Bool) (f:SD→R Fl):SD→R Fl:=fun s=>if h:∃n,jI c f n s≠ .bad then jI c f (choose h) s else .bad
theorem RS.while' {c:TT} {tb:TS} {fc:SD→R Bool} {fb:SD→R Fl} (hc:RT G W c fc) (hb:RS G W tb fb):RS G W (tWhile c tb) (zWh fc fb):=by
 intro E σ τ H s θ D hN hR hw
 unfold zWh at hw
 split at hw
 ·rename_i hn
  refine ⟨fun m σ H=>∃s,Rel G E σ τ H s θ∧Wp (jI fc fb m s) (FP G E τ θ D) (XP G W E τ θ),⟨_,s,hR,hw⟩, ?_⟩
  rintro m σ2 H2 ⟨s2,h2,hw2⟩
  cases m with
  | zero=>exact hw2.elim
  | succ m=>
   unfold jI at hw2
   rw [ae] at hw2
   refine hc E σ2 τ H2 s2 θ _ hN h2 (hw2.mono (fun b s3 hw3 H3 h3=>?_) fun _ _ _ h=>h)
   split
   ·rename_i cb
    rw [if_pos cb,ae] at hw3
    refine ⟨fun σ' H' =>∃s,Rel G E σ' τ H' s θ∧Wp (jI fc fb m s) (FP G E τ θ D) (XP G W E τ θ),fun σ' H' q=>⟨m,Nat.lt_succ_self m,q⟩, ?_⟩
    refine hb E σ2 τ H3 s3 θ _ hN h3 (hw3.mono (fun fl s4 hw4=>?_) fun _ _ _ h=>h)
    cases fl with
    | nx=>exact fun σ' H' h' =>⟨s4,h',hw4⟩
    | ct=>exact fun σ' H' h' =>⟨s4,h',hw4⟩
    | bk=>exact hw4
    | rt a=>exact hw4
   ·rename_i cb
    rw [if_neg cb] at hw3
    exact hw3 _ _ h3
 ·exact hw.elim
end
def eQ (l:List (Option Vl)):List Nat→List (Option Vl)
 | []=>l
 | v::vs=>(eQ l vs).set v none
def SD.wipe (s:SD) (is:List Nat):SD:= {s with sl:=eQ s.sl is}
def R.nx {α:Type} (m:R α):R α:=match m with
 | .ok a s=> .ok a s
 | _=> .bad
theorem BQ {α:Type} {m:R α} {Q:α→SD→Prop} {E:XQ}:Wp m.nx Q E=Wp m Q (fun _ _ _=>False):=by
 cases m<;> rfl
abbrev WF:WX:=fun _ _ _ _=>False
noncomputable def iT (ok:SD→Prop) (fz:Vl→SD→R Unit) (ft:SD→R Bool) (fe:SD→R Vl) (is:List Nat):List D→List D→SD→R (List D)
 | [],acc,s=>if ok s then .ok acc s else .bad
 | d::ds,acc,s=>if ok s then (fz (.d d) s).nx.bind fun _ s1=>(ft s1).nx.bind fun b s2=>if b=true then (fe s2).nx.bind fun a s3=>(s3.fix a).bind fun y s4=>
   if acc.length<sizeLine then iT ok fz ft fe is ds (acc++ [y]) (s4.wipe is) else .bad
   else iT ok fz ft fe is ds acc (s2.wipe is)
  else .bad
noncomputable def zLc (fi:SD→R Src) (fz:Vl→SD→R Unit) (ft:SD→R Bool) (fe:SD→R Vl) (is:List Nat):SD→R Vl:=fun s=>(fi s).bind fun src s1=>if Nl src.hs then (iT src.ok fz ft fe is src.ds [] (s1.wipe is)).nx.bind fun acc s2=> .ok (.own (.lst acc)) s2 else .bad
def bP:SD→R Bool:=fun s=> .ok true s
section
variable {G:Gc} {W:WX} {E:En} {σ σ' σ2:L2.St} {τ:List V} {H:Hp} {s s' :SD} {θ:List Vl} {v u:V} {a b:Vl} {x y:D} {p:Wr} {Q:VK} {m:Nat} {w w' :List (Option V)} {ŵ ŵ' :List (Option Vl)} {S:Sto} {k:Nat} {is:List Nat}
theorem zwipe_len {l:List (Option Vl)}:∀{is:List Nat},(eQ l is).length=l.length
 | []=>rfl
 | v::vs=>by unfold eQ; rw [List.length_set,zwipe_len]
theorem jG {l:List (Option Vl)} {i:Nat} {x:Vl}:∀{vs:List Nat},(eQ l vs)[i]? =some (some x)→l[i]? =some (some x)∧i∉vs
 | [],h=>⟨h,by simp⟩
 | v::vs,h=>by
  unfold eQ at h
  rcases dV h with ⟨rfl,q⟩ | ⟨c,q⟩
  ·cases q
  ·obtain ⟨h1,h2⟩:=jG q
   exact ⟨h1,by simp only [List.mem_cons,not_or]; exact ⟨fun e=>c e.symm,h2⟩⟩
theorem lC {i:Nat}:∀{vs:List Nat} {σ:L2.St},i∉vs→(wipe σ vs)[i]? =σ[i]?
 | [],_,_=>rfl
 | v::vs,σ,h=>by
  simp only [List.mem_cons,not_or] at h
  unfold wipe
  rw [List.getElem?_set_ne (fun e=>h.1 e.symm),lC h.2]
theorem sC {i:Nat}:∀{vs:List Nat} {σ:L2.St},i∈vs→i<σ.length→(wipe σ vs)[i]? =some none
 | v::vs,σ,h,hl=>by
  unfold wipe
  by_cases c:v=i
  ·subst c
   rw [List.getElem?_set_self (by rw [wipe_length]; exact hl)]
  ·rw [List.getElem?_set_ne c,sC ((List.mem_cons.mp h).resolve_left fun e=>c e.symm) hl]
theorem qy (o:Only is σ σ'):wipe σ' is=wipe σ is:=by
 apply List.ext_getElem?
 intro i
 by_cases c:i∈is
 ·by_cases l:i<σ.length
  ·rw [sC c (by rw [o.1]; exact l),sC c l]
  ·rw [List.getElem?_eq_none (by rw [wipe_length,o.1]; omega),List.getElem?_eq_none (by rw [wipe_length]; omega)]
 ·rw [lC c,lC c,o.2 i c]
theorem xo:wipe (wipe σ is) is=wipe σ is:=qy ⟨wipe_length _ _,fun _ h=>lC h⟩
theorem Sm.repl (h:Sm G E m p w ŵ S) (hl:w'.length=w.length) (hw:∀(k:Nat) (e:Vl),ŵ[k]? =some (some e)→w'[k]? =w[k]?) (hn:∀(k j:Nat),ŵ[k]? =some (some (.loc j))→False):Sm G E m p w' ŵ S:=by
 refine {h with len:=hl.trans h.len,ent:=fun k e q=>?_,own:=fun k y a q1 q2=>h.own k y a q1 ((hw _ _ q1).symm.trans q2),sep:=fun j k y z a q1 q2 q3 q4=>h.sep j k y z a q1 q2 ((hw _ _ q1).symm.trans q3) ((hw _ _ q2).symm.trans q4)}
 obtain ⟨v,e1,r⟩:=h.ent k e q
 refine ⟨v,(hw _ _ q).trans e1, ?_⟩
 cases e with
 | d x=>exact r
 | own x=>exact r
 | loc j=>exact (hn k j q).elim
theorem Sm.less (h:Sm G E m p w ŵ S) (hl:ŵ'.length=ŵ.length) (hw:∀(k:Nat) (e:Vl),ŵ'[k]? =some (some e)→ŵ[k]? =some (some e)):Sm G E m p w ŵ' S:=
 {h with len:=h.len.trans hl.symm,ent:=fun k e q=>h.ent k e (hw k e q),own:=fun k y a q1 q2=>h.own k y a (hw _ _ q1) q2,sep:=fun j k y z a q1 q2 q3 q4=>h.sep j k y z a (hw _ _ q1) (hw _ _ q2) q3 q4}
def BR (s:SD) (is:List Nat):Prop:=∀i∈is,∀e,s.sl[i]? ≠some (some e)
theorem dS:BR (s.wipe is) is:=fun i hi e q=>(jG q).2 hi
theorem Rel.wipe (h:Rel G E σ τ H s θ):Rel G E σ τ H (s.wipe is) θ:=by
 obtain ⟨p,e,hl,h⟩:=h
 refine ⟨p,e,hl.trans zwipe_len.symm, ?_⟩
 show Sm G E (eQ s.sl is).length p _ _ _
 rw [zwipe_len]
 refine h.less (by show (eQ s.sl is++_).length=_; simp [zwipe_len]) fun k e q=>?_
 have q:(eQ s.sl is++θ.map some)[k]? =some (some e):=q
 by_cases c:k<s.sl.length
 ·rw [List.getElem?_append_left (by rw [zwipe_len]; exact c)] at q
  rw [List.getElem?_append_left c]
  exact (jG q).1
 ·rw [List.getElem?_append_right (by rw [zwipe_len]; omega),zwipe_len] at q
  rw [List.getElem?_append_right (by omega)]
  exact q
theorem Rel.repl (h:Rel G E σ τ H s θ) (hn:Nl θ) (hb:BR s is) (o:Only is σ σ'):Rel G E σ' τ H s θ:=by
 obtain ⟨p,e,hl,h⟩:=h
 refine ⟨p,e,o.1.trans hl,h.repl (by simp [o.1]) (fun k e q=>?_) fun k j q=>Be h hn q⟩
 by_cases c:k<s.sl.length
 ·have ni:k∉is:=fun hi=>by
   rw [List.getElem?_append_left c] at q
   exact hb k hi e q
  rw [List.getElem?_append_left (by rw [o.1,hl]; exact c),List.getElem?_append_left (by rw [hl]; exact c),o.2 k ni]
 ·rw [List.getElem?_append_right (by rw [o.1,hl]; omega),List.getElem?_append_right (by rw [hl]; omega),o.1]
theorem only_wipe:Only is σ (wipe σ is):=⟨wipe_length _ _,fun _ h=>lC h⟩
theorem Only.symm (o:Only is σ σ'):Only is σ' σ:=⟨o.1.symm,fun k h=>(o.2 k h).symm⟩
theorem Only.trans (o:Only is σ σ') (o' :Only is σ' σ2):Only is σ σ2:=⟨o'.1.trans o.1,fun k h=>(o'.2 k h).trans (o.2 k h)⟩
theorem Rel.grow {D0:Addr} {acc:List D} (h:Rel G E σ (τ++ [.ref D0]++ [v]) H s (θ++ [.own (.lst acc)]++ [.d x])) (ht:τ.length=θ.length):
  ∃vs,H D0=some (.lst vs)∧vs.length=acc.length∧Rel G E σ (τ++ [.ref D0]) (upd H D0 (.lst (vs++ [v]))) s (θ++ [.own (.lst (acc++ [x]))]):=by
 obtain ⟨p,rfl,hl,h⟩:=h.unsnoc
 rw [List.map_append,List.map_append,←List.append_assoc,←List.append_assoc,show List.map some [V.ref D0]= [some (.ref D0)] from rfl,show List.map some [Vl.own (.lst acc)]= [some (.own (.lst acc))] from rfl] at h
 have l:(σ++τ.map some).length=(s.sl++θ.map some).length:=by simp [hl,ht]
 obtain ⟨u,e1,r⟩:=h.ent _ _ (ai (l:=(s.sl++θ.map some)++ [some (.own (.lst acc))]))
 rw [←aP h.len] at e1
 rw [ai] at e1
 cases e1
 have q1:(((s.sl++θ.map some)++ [some (Vl.own (.lst acc))])++ [some (.d x)])[(s.sl++θ.map some).length]? =some (some (.own (.lst acc))):=bh ai
 have q2:(((σ++τ.map some)++ [some (V.ref D0)])++ [some v])[(s.sl++θ.map some).length]? =some (some (.ref D0)):=bh (by rw [←l]; exact ai)
 obtain ⟨u,e2,D1,e3,vs,e4,r4⟩:=h.ent _ _ q1
 rw [q2] at e2
 cases e2
 cases e3
 refine ⟨vs,e4,r4.len, ?_⟩
 have o1:=(h.own _ _ _ q1 q2).1
 have l' :=gV (p:=p) (o:= .lst (vs++ [v])) o1
 have h2:=h.write (y:= .lst (acc++ [x])) (o:= .lst (vs++ [v])) q1 q2 ⟨_,upd_same,(r4.mono l').append (Reps.one (Rep.mono l' r))⟩
 rw [show (((s.sl++θ.map some)++ [some (Vl.own (.lst acc))])++ [some (Vl.d x)]).set (s.sl++θ.map some).length (some (.own (.lst (acc++ [x]))))=((s.sl++θ.map some)++ [some (.own (.lst (acc++ [x])))])++ [some (.d x)] from by
  rw [cG (by simp)]
  congr 1
  exact gO] at h2
 exact .snoc (h2.pop1 (by simp; omega)) hl rfl
def RIat (G:Gc) (W:WX) (E:En) (wi:TI) (fi:SD→R Src):Prop:=∀(σ:L2.St) (τ:List V) (H:Hp) (s:SD) (θ:List Vl) (Q:It→Hp→Prop),Nl θ→Rel G E σ τ H s θ→
 Wp (fi s) (fun src s' =>∀vs H' J E',EnLe G E E'→vs.length=src.hs.length→Rel G E' σ (τ++vs) H' s' (θ++src.hs)→Walk G E' J src vs→Q J H') (XP G W E τ θ)→wi σ H Q
def REat (G:Gc) (W:WX) (E:En) (t:TE) (fe:SD→R Vl):Prop:=∀(σ:L2.St) (τ:List V) (H:Hp) (s:SD) (θ:List Vl) (Q:VK),Nl θ→Rel G E σ τ H s θ→
 Wp (fe s) (fun a s' =>∀v H',Rel G E σ (τ++ [v]) H' s' (θ++ [a])→Q v H') (XP G W E τ θ)→t σ H Q
def RTs (G:Gc) (E:En) (is:List Nat) (σ:L2.St) (tt:TT) (ft:SD→R Bool):Prop:=∀(E' :En),EnLe G E E'→∀(σ3:L2.St),Only is σ3 σ→∀(τ:List V) (H:Hp) (s:SD) (θ:List Vl) (Q:Bool→Hp→Prop),Nl θ→Rel G E' σ3 τ H s θ→
 Wp (ft s) (fun b s' =>∀H',Rel G E' σ3 τ H' s' θ→Q b H') (XP G WF E' τ θ)→tt σ3 H Q
theorem lc_atE {wi:TI} {g:TG} {tt:TT} {te:TE} {fi:SD→R Src} {fz:Vl→SD→R Unit} {ft:SD→R Bool} {fe:SD→R Vl} (hi:RIat G W E wi fi) (hg:RG G WF is g fz) (he:RE G WF te fe) (σ:L2.St) (hT:RTs G E is σ tt ft) (τ:List V) (H:Hp) (s:SD) (θ:List Vl) (Q:VK) (hN:Nl θ) (hR:Rel G E σ τ H s θ)
  (hw:Wp (zLc fi fz ft fe is s) (fun a s' =>∀v H',Rel G E σ (τ++ [v]) H' s' (θ++ [a])→Q v H') (XP G W E τ θ)):tLc wi g tt te is σ H Q:=by
 unfold zLc at hw
 rw [ae] at hw
 refine hi σ τ H s θ _ hN hR (hw.mono (fun src s1 hw vs H1 J E' el hv h1 wk=>?_) fun _ _ _ h=>h)
 split at hw
 ·rename_i hNs
  have ht:=hR.tlen
  have ht1:(τ++vs).length=(θ++src.hs).length:=by simp [ht,hv]
  have hN1:Nl (θ++src.hs):=hN.app hNs
  intro D0 hD
  have h2:Rel G E' σ ((τ++vs)++ [.ref D0]) (upd H1 D0 (.lst [])) (s1.wipe is) ((θ++src.hs)++ [.own (.lst [])]):=by
   obtain ⟨p,rfl,hl,h⟩:=h1.wipe (is:=is)
   exact .snoc (h.allocOwn hD ⟨[],upd_same,rfl⟩) hl rfl
  let P:List D→SD→Prop:=fun acc s2=>∀u H',Rel G E σ (τ++ [u]) H' s2 (θ++ [.own (.lst acc)])→Q u H'
  refine ⟨fun i m H=>m=src.ds.length - i∧i≤src.ds.length∧∃s acc,Rel G E' σ ((τ++vs)++ [.ref D0]) H s ((θ++src.hs)++ [.own (.lst acc)])∧BR s is∧Wp (iT src.ok fz ft fe is (src.ds.drop i) acc s) P (fun _ _ _=>False),⟨src.ds.length,by simp,Nat.zero_le _,s1.wipe is,[],h2,dS, ?_⟩, ?_⟩
  ·rw [ae,BQ] at hw
   rw [List.drop_zero]
   exact hw
  ·rintro i m H2 ⟨rfl,hi2,s2,acc,h2,hb2,hw2⟩
   have hNo:Nl ((θ++src.hs)++ [.own (.lst acc)]):=hN1.snoc fun _ q=>nomatch q
   have h3:=h2.repl (σ' :=wipe σ is) hNo hb2 only_wipe
   by_cases c:i<src.ds.length
   ·have ed:src.ds[i]? =some src.ds[i]:=List.getElem?_eq_getElem c
    rw [List.drop_eq_getElem_cons c] at hw2
    unfold iT at hw2
    split at hw2
    ·rename_i ok
     obtain ⟨go,yl⟩:=(wk i (wipe σ is) τ [.ref D0] θ [.own (.lst acc)] H2 s2 ht rfl h3 ok).1 _ ed
     refine .inr ⟨go,fun H' =>∃s acc,Rel G E' σ ((τ++vs)++ [.ref D0]) H' s ((θ++src.hs)++ [.own (.lst acc)])∧BR s is∧Wp (iT src.ok fz ft fe is (src.ds.drop (i+1)) acc s) P (fun _ _ _=>False),fun H' ⟨s,acc,q1,q2,q3⟩=>⟨_,by omega,rfl,by omega,s,acc,q1,q2,q3⟩,fun x H' y=>?_⟩
     have hx:=yl x H' y
     rw [ae,BQ] at hw2
     refine hg E' (wipe σ is) _ H' s2 _ x _ _ hNo hx (hw2.mono (fun _ s3 hw3 σ3 H3 h3 o3=>?_) fun _ _ _ h=>h.elim)
     have ow:Only is σ3 σ:=o3.symm.trans only_wipe.symm
     refine ⟨(qy o3).trans xo, ?_⟩
     rw [ae,BQ] at hw3
     refine hT E' el σ3 ow _ H3 s3 _ _ hNo h3 (hw3.mono (fun b s4 hw4 H4 h4=>?_) fun _ _ _ h=>h.elim)
     split
     ·rename_i cb
      rw [if_pos cb,ae,BQ] at hw4
      refine RE.fix he E' σ3 _ H4 s4 _ _ hNo h4 ?_
      unfold aG wh
      rw [ae]
      refine hw4.mono (fun a s5 hw5=>?_) fun _ _ _ h=>h.elim
      rw [ae] at hw5 ⊢
      cases e5:s5.fix a with
      | bad=>rw [e5] at hw5; exact hw5.elim
      | ex _ _ _=>exact (vS _ _ _ _ _ e5).elim
      | ok y s6=>
       rw [e5] at hw5
       intro v H5 h5
       have hw5:Wp (if acc.length<sizeLine then _ else _) _ _:=hw5
       split at hw5
       ·rename_i hz
        obtain ⟨av,e6,hl6,h6⟩:=h5.grow ht1
        refine ⟨av,e6,by rw [hl6]; exact hz,s6.wipe is,acc++ [y], ?_,dS,hw5⟩
        exact (h6.wipe (is:=is)).repl (hN1.snoc fun _ q=>nomatch q) dS ow
       ·exact hw5.elim
     ·rename_i cb
      rw [if_neg cb] at hw4
      exact ⟨s4.wipe is,acc,(h4.wipe (is:=is)).repl hNo dS ow,dS,hw4⟩
    ·exact hw2.elim
   ·have e:src.ds[i]? =none:=List.getElem?_eq_none (by omega)
    rw [List.drop_eq_nil_of_le (by omega)] at hw2
    unfold iT at hw2
    split at hw2
    ·rename_i ok
     exact .inl ⟨(wk i (wipe σ is) τ [.ref D0] θ [.own (.lst acc)] H2 s2 ht rfl h3 ok).2 e,hw2 _ _ ((el.rel h2).dropMid ht)⟩
    ·exact hw2.elim
 ·exact hw.elim
theorem lc_at {wi:TI} {g:TG} {tt:TT} {te:TE} {fi:SD→R Src} {fz:Vl→SD→R Unit} {ft:SD→R Bool} {fe:SD→R Vl} (hi:RIat G W E wi fi) (hg:RG G WF is g fz) (hT:RT G WF tt ft) (he:RE G WF te fe):REat G W E (tLc wi g tt te is) (zLc fi fz ft fe is):=fun σ τ H s θ Q hN hR hw=>lc_atE hi hg he σ (fun E' _ σ3 _=>hT E' σ3) τ H s θ Q hN hR hw
theorem aah {wi:TI} {g:TG} {tt:TT} {te:TE} {fi:SD→R Src} {fz:Vl→SD→R Unit} {ft:SD→R Bool} {fe:SD→R Vl} (hi:RI G W wi fi) (hg:RG G WF is g fz) (hT:RT G WF tt ft) (he:RE G WF te fe):RE G W (tLc wi g tt te is) (zLc fi fz ft fe is):=fun E=>lc_at (hi E) hg hT he
theorem aag:RT G W tYes bP:=fun _ _ _ _ _ _ _ _ hR hw=>hw _ hR
end
def SD.mod (s:SD) (y:D):Vl→R Unit
 | .d (.cell i)=> .ok () {s with st:=s.st.put i y}
 | .loc k=>match s.sl[k]? with
  | some (some (.own _))=> .ok () {s with sl:=s.sl.set k (some (.own y))}
  | some (some (.d (.cell i)))=> .ok () {s with st:=s.st.put i y}
  | _=> .bad
 | _=> .bad
section
variable {G:Gc} {W:WX} {E:En} {σ:L2.St} {τ:List V} {H:Hp} {s s' :SD} {θ:List Vl} {v u:V} {a b:Vl} {x y:D} {p:Wr} {Q:VK} {m:Nat} {w:List (Option V)} {k:Nat} {l:List (Option Vl)}
theorem mod_ok {c:D} (h:Sm G E s.sl.length p w (s.sl++l) s.st) (q:(s.sl++l)[k]? =some (some a)) (qv:w[k]? =some (some v)) (hc:s.cont a=some c) (hm:s.mod y a= .ok () s'):
  ∃b,v= .ref b∧p.O b∧Ho G p c b∧s'.sl.length=s.sl.length∧∀ho,Ho G {p with H:=upd p.H b ho} y b→Sm G E s'.sl.length {p with H:=upd p.H b ho} w (s'.sl++l) s'.st:=by
 obtain ⟨u,e1,r⟩:=h.ent k a q
 rw [qv] at e1; cases e1
 have cell:∀{i:Nat} {c:D},s.st.get i=some c→s' = {s with st:=s.st.put i y}→v= .ref (p.γ i)→∃b,v= .ref b∧p.O b∧Ho G p c b∧s'.sl.length=s.sl.length∧∀ho,Ho G {p with H:=upd p.H b ho} y b→Sm G E s'.sl.length {p with H:=upd p.H b ho} w (s'.sl++l) s'.st:=fun {i c} hc e ev=>by
  subst e ev
  obtain ⟨o1,o2⟩:=h.cel i c hc
  exact ⟨_,rfl,o1,o2,rfl,fun ho hy=>h.writeCell hc hy⟩
 cases a with
 | d z=>
  cases z with
  | cell i=>
   cases hm
   exact cell hc rfl r.2
  | _=>cases hm
 | own z=>cases hm
 | loc j=>
  obtain ⟨r1,r2,r3⟩:=r
  unfold SD.mod at hm
  unfold SD.cont at hc
  dsimp only at hm hc
  cases q1:s.sl[j]? with
  | none=>rw [q1] at hm; cases hm
  | some o=>
   cases o with
   | none=>rw [q1] at hm; cases hm
   | some z=>
    rw [q1] at hm hc
    obtain ⟨hs,u,e2,r⟩:=h.slot q1
    rw [r3] at e2; cases e2
    cases z with
    | d z=>
     cases z with
     | cell i=>
      cases hm
      exact cell hc rfl r.2
     | _=>cases hm
    | own z=>
     cases hm
     cases hc
     obtain ⟨b,rfl,r⟩:=r
     have o1:=(h.own j _ b hs r3).1
     refine ⟨b,rfl,o1,r,by simp,fun ho hy=>?_⟩
     have q2:=h.write hs r3 hy
     rw [cG (aq q1)] at q2
     show Sm G E (s.sl.set j _).length _ _ _ _
     rw [List.length_set]
     exact q2
    | loc i=>cases hm
theorem kD:∀(s:SD) (y:D) (a:Vl) c fs s',s.mod y a≠ .ex c fs s' :=by
 intro s y a c fs s'
 cases a with
 | d x=>cases x<;> intro q<;> cases q
 | own x=>intro q; cases q
 | loc k=>
  unfold SD.mod
  dsimp only
  split<;> intro q<;> cases q
theorem mod1 {c:D} (hl:σ.length=s.sl.length) (h:Sm G E s.sl.length p ((σ++τ.map some)++ [some v]) ((s.sl++θ.map some)++ [some a]) s.st) (hc:s.cont a=some c) (hm:s.mod y a= .ok () s'):
  ∃b,v= .ref b∧Ho G p c b∧∀ho,(p.le {p with H:=upd p.H b ho}→Ho G {p with H:=upd p.H b ho} y b)→p.le {p with H:=upd p.H b ho}∧σ.length=s'.sl.length∧Sm G E s'.sl.length {p with H:=upd p.H b ho} (σ++τ.map some) (s'.sl++θ.map some) s'.st:=by
 have ll:=aP h.len
 rw [List.append_assoc (as:=s.sl)] at h
 obtain ⟨b,e,o1,ho,hs,go⟩:=mod_ok (k:=(s.sl++θ.map some).length) (v:=v) h (by rw [←List.append_assoc]; exact ai) (by rw [←ll]; exact ai) hc hm
 refine ⟨b,e,ho,fun ho' hy=>⟨gV o1,hl.trans hs.symm, ?_⟩⟩
 have q:=go ho' (hy (gV o1))
 rw [←List.append_assoc] at q
 exact q.pop1 (by rw [hs]; exact bZ hl)
def oB2 (f:D→D→Option (D×D)) (a b:Vl) (s:SD):R Vl:=match b with
 | .d z=>match s.cont a with
  | some c=>match f c z with
   | some (y,r)=>(s.mod y a).bind fun _ s' => .ok (.d r) s'
   | none=> .bad
  | none=> .bad
 | _=> .bad
def oB1 (f:D→Option (D×D)) (a:Vl) (s:SD):R Vl:=match s.cont a with
 | some c=>match f c with
  | some (y,r)=>(s.mod y a).bind fun _ s' => .ok (.d r) s'
  | none=> .bad
 | none=> .bad
def Chg2 (G:Gc) (r:V→V→Hp→VK→Prop) (f:D→D→Option (D×D)):Prop:=∀(p:Wr) (c z y t:D) (b:Addr) (u:V) (Q:VK),f c z=some (y,t)→Ho G p c b→Rep G p z u→
 ∃ho w,Rep G p t w∧(p.le {p with H:=upd p.H b ho}→Ho G {p with H:=upd p.H b ho} y b)∧(Q w (upd p.H b ho)→r (.ref b) u p.H Q)
def Chg1 (G:Gc) (r:V→Hp→VK→Prop) (f:D→Option (D×D)):Prop:=∀(p:Wr) (c y t:D) (b:Addr) (Q:VK),f c=some (y,t)→Ho G p c b→
 ∃ho w,Rep G p t w∧(p.le {p with H:=upd p.H b ho}→Ho G {p with H:=upd p.H b ho} y b)∧(Q w (upd p.H b ho)→r (.ref b) p.H Q)
theorem qS {r:V→V→Hp→VK→Prop} {f:D→D→Option (D×D)} (hf:Chg2 G r f):cX G r (oB2 f):=by
 intro E σ τ s θ p v u a b Q hl h hw
 unfold oB2 at hw
 split at hw
 ·rename_i z
  split at hw
  ·rename_i c e1
   split at hw
   ·rename_i y t e2
    rw [ae] at hw
    cases e3:s.mod y a with
    | bad=>rw [e3] at hw; exact hw.elim
    | ex _ _ _=>exact (kD _ _ _ _ _ _ e3).elim
    | ok _ s' =>
     rw [e3] at hw
     obtain ⟨u',e4,r4⟩:=h.ent _ _ ai
     rw [←aP h.len,ai] at e4
     cases e4
     obtain ⟨b,rfl,ho,go⟩:=mod1 hl (h.pop1 (by simp; omega)) e1 e3
     obtain ⟨o',w,r5,hy,k⟩:=hf p c _ y t b u Q e2 ho r4
     obtain ⟨le,hl',hS⟩:=go o' hy
     exact k (hw w _ (.snoc (hS.push (r5.mono le)) hl' rfl))
   ·exact hw.elim
  ·exact hw.elim
 ·exact hw.elim
theorem p_chg1 {r:V→Hp→VK→Prop} {f:D→Option (D×D)} (hf:Chg1 G r f):kT G r (oB1 f):=by
 intro E σ τ s θ p v a Q hl h hw
 unfold oB1 at hw
 split at hw
 ·rename_i c e1
  split at hw
  ·rename_i y t e2
   rw [ae] at hw
   cases e3:s.mod y a with
   | bad=>rw [e3] at hw; exact hw.elim
   | ex _ _ _=>exact (kD _ _ _ _ _ _ e3).elim
   | ok _ s' =>
    rw [e3] at hw
    obtain ⟨b,rfl,ho,go⟩:=mod1 hl h e1 e3
    obtain ⟨o',w,r5,hy,k⟩:=hf p c y t b Q e2 ho
    obtain ⟨le,hl',hS⟩:=go o' hy
    exact k (hw w _ (.snoc (hS.push (r5.mono le)) hl' rfl))
  ·exact hw.elim
 ·exact hw.elim
noncomputable def aE (c z:D):Option (D×D):=match c with
 | .lst ds=>if ds.length<sizeLine then some (.lst (ds++ [z]), .non) else none
 | _=>none
theorem Bq:Chg2 G (fun x y H Q=>rAppend x [y] H Q) aE:=by
 intro p c z y t b u Q e ho r
 unfold aE at e
 split at e
 ·split at e
  ·rename_i ds hz
   cases e
   obtain ⟨vs,e1,r1⟩:=ho
   exact ⟨.lst (vs++ [u]), .non,rfl,fun le=>⟨_,upd_same,(r1.mono le).append (Reps.one (Rep.mono le r))⟩,fun q=>⟨b,vs,u,rfl,rfl,e1,by rw [r1.len]; exact hz,q⟩⟩
  ·cases e
 ·cases e
noncomputable def iJ (c z:D):Option (D×D):=match c,z with
 | .lst ds, .lst es=>if ds.length+es.length≤sizeLine then some (.lst (ds++es), .non) else none
 | _,_=>none
theorem Bp:Chg2 G (fun x y H Q=>rExtend x [y] H Q) iJ:=by
 intro p c z y t b u Q e ho r
 unfold iJ at e
 split at e
 ·split at e
  ·rename_i ds es hz
   cases e
   obtain ⟨vs,e1,r1⟩:=ho
   obtain ⟨b',us,rfl,⟨_,e2⟩,r2⟩:=r
   exact ⟨.lst (vs++us), .non,rfl,fun le=>⟨_,upd_same,(r1.mono le).append (r2.mono le)⟩,fun q=>⟨b,b',vs,us,rfl,rfl,e1,e2,by rw [r1.len,r2.len]; exact hz,q⟩⟩
  ·cases e
 ·cases e
def fPop (c:D):Option (D×D):=match c with
 | .lst ds=>match ds[ds.length - 1]? with
  | some t=>some (.lst ds.dropLast,t)
  | none=>none
 | _=>none
theorem h_pop:Chg1 G (fun x H Q=>rPop x [] H Q) fPop:=by
 intro p c y t b Q e ho
 unfold fPop at e
 split at e
 ·rename_i ds
  split at e
  ·rename_i e0
   cases e
   obtain ⟨vs,e1,r1⟩:=ho
   obtain ⟨w,e2,r2⟩:=r1.get e0
   have e3:vs.dropLast=vs.take (ds.length - 1):=by rw [List.dropLast_eq_take,r1.len]
   have r3:Reps G p ds.dropLast vs.dropLast:=by rw [e3,List.dropLast_eq_take]; exact r1.take _
   exact ⟨.lst vs.dropLast,w,r2,fun le=>⟨_,upd_same,r3.mono le⟩,fun q=>⟨b,vs,w,rfl,rfl,e1,by rw [r1.len]; exact e2,q⟩⟩
  ·cases e
 ·cases e
def gW (c:D):Option (D×D):=match c with
 | .lst ds=>some (.lst ds.reverse, .non)
 | _=>none
theorem ze:Chg1 G (fun x H Q=>rReverse x [] H Q) gW:=by
 intro p c y t b Q e ho
 unfold gW at e
 split at e
 ·cases e
  obtain ⟨vs,e1,r1⟩:=ho
  exact ⟨.lst vs.reverse, .non,rfl,fun le=>⟨_,upd_same,r1.reverse.mono le⟩,fun q=>⟨b,vs,rfl,rfl,e1,q⟩⟩
 ·cases e
def rQ (c:D):Option (D×D):=match c with
 | .lst ds=>some (.lst [], .non)
 | _=>none
theorem h_clear:Chg1 G (fun x H Q=>rClear x [] H Q) rQ:=by
 intro p c y t b Q e ho
 unfold rQ at e
 split at e
 ·cases e
  obtain ⟨vs,e1,r1⟩:=ho
  exact ⟨.lst [], .non,rfl,fun le=>⟨_,upd_same,rfl⟩,fun q=>⟨b,vs,rfl,rfl,e1,q⟩⟩
 ·cases e
theorem qZ {f:D→D→Option (D×D)}:∀(a b:Vl) (s:SD) c fs s',oB2 f a b s≠ .ex c fs s' :=by
 intro a b s c fs s'
 unfold oB2
 split
 ·split
  ·split
   ·rename_i y r _
    cases e:s.mod y a with
    | bad=>intro q; cases q
    | ok _ _=>intro q; cases q
    | ex _ _ _=>exact (kD _ _ _ _ _ _ e).elim
   ·intro q; cases q
  ·intro q; cases q
 ·intro q; cases q
theorem yJ {f:D→Option (D×D)}:∀(a:Vl) (s:SD) c fs s',oB1 f a s≠ .ex c fs s' :=by
 intro a s c fs s'
 unfold oB1
 split
 ·split
  ·rename_i y r _
   cases e:s.mod y a with
   | bad=>intro q; cases q
   | ok _ _=>intro q; cases q
   | ex _ _ _=>exact (kD _ _ _ _ _ _ e).elim
  ·intro q; cases q
 ·intro q; cases q
def isL (s:SD) (a:Vl):Bool:=match s.cont a with
 | some (.lst _)=>true
 | _=>false
def zM2 (chk:SD→Vl→Bool) (f:Vl→Vl→SD→R Vl) (fa fb:SD→R Vl):SD→R Vl:=fun s=>(fa s).bind fun a s1=>if chk s1 a=true then (fb s1).bind fun b s2=>f a b s2 else .bad
def zM1 (f:Vl→SD→R Vl) (fa:SD→R Vl):SD→R Vl:=z1 f fa
theorem RE.next {tb:TE} {fb:SD→R Vl} {α:Type} {f:Vl→SD→R α} {P:α→SD→Prop} {Q:V→Hp→Prop} (hb:RE G W tb fb) (hN:Nl θ) (hR:Rel G E σ (τ++ [v]) H s (θ++ [a])) (hw:Wp ((fb s).bind fun b s2=>f b s2) P (XP G W E τ θ))
  (k:∀(b:Vl) (s2:SD) (u:V) (H2:Hp),Rel G E σ (τ++ [v]++ [u]) H2 s2 (θ++ [a]++ [b])→Wp (f b s2) P (XP G W E τ θ)→Q u H2):tb σ H Q:=by
 rw [ae] at hw
 by_cases c:∃j,a= .loc j
 ·obtain ⟨j,rfl⟩:=c
  obtain ⟨c1,c2⟩:=hR.unloc
  refine hb E σ τ H s θ _ hN hR.pop (hw.mono (fun b s2 hw u H2 h2=>k _ _ _ _ ?_ hw) fun _ _ _ h=>h)
  exact (h2.reloc c2).swap hR.pop.tlen
 ·exact hb E σ _ H s _ _ (hN.snoc fun j q=>c ⟨j,q⟩) hR (hw.mono (fun b s2 hw u H2 h2=>k _ _ _ _ h2 hw) fun _ _ _ h=>h.up)
theorem RE.bm {T:String} {chk:SD→Vl→Bool} {r:V→List V→Hp→VK→Prop} {f:Vl→Vl→SD→R Vl} {ta tb:TE} {fa fb:SD→R Vl} (hk:∀(p:Wr) (s:SD) (a:Vl) (v:V),chk s a=true→(∀x,s.cont a=some x→Cont G p x v)→tyV G.K T v p.H) (hp:cX G (fun x y H Q=>r x [y] H Q) f)
  (nx:∀a b s c fs s',f a b s≠ .ex c fs s') (ha:RE G W ta fa) (hb:RE G W tb fb):RE G W (tBM G.K T r ta (tCons tb tNil)) (zM2 chk f fa fb):=by
 intro E σ τ H s θ Q hN hR hw
 unfold zM2 at hw
 rw [ae] at hw
 refine ha E σ τ H s θ _ hN hR (hw.mono (fun a s1 hw v H1 h1=>?_) fun _ _ _ h=>h)
 split at hw
 ·rename_i c
  have h0:=h1
  obtain ⟨p,rfl,hl,h⟩:=h1.unsnoc
  refine ⟨hk p s1 a v c (dq hl h).2.1, ?_⟩
  refine RE.next (Q:=fun u H2=>r v [u] H2 Q) hb hN h0 hw fun b s2 u H2 h2 hw=>?_
  obtain ⟨p,rfl,hl,h⟩:=h2.unsnoc
  rw [List.map_append,List.map_append,←List.append_assoc,←List.append_assoc] at h
  refine hp E σ τ s2 θ p v u a b Q hl h ?_
  cases e:f a b s2 with
  | ok b s2=>rw [e] at hw; exact hw
  | ex c fs s2=>exact (nx _ _ _ _ _ _ e).elim
  | bad=>rw [e] at hw; exact hw
 ·exact hw.elim
theorem RE.bm0 {T:String} {r:V→List V→Hp→VK→Prop} {f:Vl→SD→R Vl} {ta:TE} {fa:SD→R Vl} (hp:kT G (fun x H Q=>tyV G.K T x H∧r x [] H Q) f) (nx:∀a s c fs s',f a s≠ .ex c fs s') (ha:RE G W ta fa):RE G W (tBM0 G.K T r ta) (z1 f fa):=RE.op1 (r:=fun x H Q=>tyV G.K T x H∧r x [] H Q) hp nx ha
theorem nA:∀(p:Wr) (s:SD) (a:Vl) (v:V),isL s a=true→(∀x,s.cont a=some x→Cont G p x v)→tyV G.K "list" v p.H:=by
 intro p s a v h c
 unfold isL at h
 split at h
 ·rename_i e
  obtain ⟨b,vs,rfl,hb,_⟩:=(c _ e).lst
  exact .inl ⟨rfl,vs, .of hb⟩
 ·cases h
theorem p_lm0 {r:V→List V→Hp→VK→Prop} {f:D→Option (D×D)} (hf:Chg1 G (fun x H Q=>r x [] H Q) f) (hl:∀c y,f c=some y→∃ds,c= .lst ds):kT G (fun x H Q=>tyV G.K "list" x H∧r x [] H Q) (oB1 f):=p_chg1 fun p c y t b Q e ho=>by
 obtain ⟨ho',w,r1,hy,k⟩:=hf p c y t b Q e ho
 refine ⟨ho',w,r1,hy,fun q=>⟨?_,k q⟩⟩
 obtain ⟨ds,rfl⟩:=hl c _ e
 obtain ⟨vs,e1,_⟩:=ho
 exact .inl ⟨rfl,vs, .of e1⟩
def fDClear (c:D):Option (D×D):=match c with
 | .dct ds=>some (.dct [], .non)
 | _=>none
def dt (G:Gc) (f:Str) (cls:List Str):Prop:=∀c∈cls,∀C,G.mg c=some (.ref C)→Cls G.K C∧NoAttr G.K C f
noncomputable def aB (cls:List Str) (f:Str) (a:Vl) (s:SD):R Vl:=match s.cont a with
 | some (.obj c fs)=>if c∈cls then match bO fs f with
  | some x=> .ok (.d x) s
  | none=> .bad
  else .bad
 | _=> .bad
theorem RE.fld {cls:List Str} {f:Str} {ta:TE} {fa:SD→R Vl} (hf:dt G f cls) (ha:RE G W ta fa):RE G W (tFld G.K ta f) (z1 (aB cls f) fa):=by
 refine RE.op1 (r:=fun x H1 Q=>∃a C dx fs v,x= .ref a∧H1 a=some (.ins C dx fs)∧Cls G.K C∧NoAttr G.K C f∧fs.lookup f=some v∧Q v H1) ?_ ?_ ha
 ·intro E σ τ s θ p v a Q hl h hw
  obtain ⟨h0,ca,_⟩:=dq hl h
  unfold aB at hw
  split at hw
  ·rename_i c fs e
   obtain ⟨b,C,dx,vs,rfl,hm,hb,r⟩:=(ca _ e).obj
   split at hw
   ·rename_i hc
    split at hw
    ·rename_i x e1
     obtain ⟨v,e2,r2⟩:=r.val.1 x e1
     obtain ⟨c1,c2⟩:=hf c hc C hm
     exact ⟨b,C,dx,vs,v,rfl,hb,c1,c2,e2,bA h0 hl hw r2⟩
    ·exact hw.elim
   ·exact hw.elim
  ·exact hw.elim
 ·intro a s c fs s'
  unfold aB
  split
  ·split
   ·split<;> (intro q; cases q)
   ·intro q; cases q
  ·intro q; cases q
noncomputable def bj (cls:List Str) (f:Str) (fo fv:SD→R Vl):SD→R Fl:=fun s=>(fv s).bind fun v s0=>(s0.fix v).bind fun x s1=>(fo s1).bind fun a s2=>match s2.cont a with
 | some (.obj c fs)=>if c∈cls∧fs.length<1000 then (s2.mod (.obj c (fP f x fs)) a).bind fun _ s3=> .ok .nx s3 else .bad
 | _=> .bad
theorem RS.fld {cls:List Str} {f:Str} {ta tv:TE} {fo fv:SD→R Vl} (hf:dt G f cls) (hv:RE G W tv fv) (ho:RE G W ta fo):RS G W (sFld G.K ta tv f) (bj cls f fo fv):=by
 intro E σ τ H s θ D hN hR hw
 unfold bj at hw
 refine RE.fix hv E σ τ H s θ _ hN hR ?_
 unfold aG wh
 rw [ae] at hw ⊢
 refine hw.mono (fun v0 s0 hw=>?_) fun _ _ _ h=>h
 rw [ae] at hw ⊢
 refine hw.mono (fun x s1 hw=>?_) fun _ _ _ h=>h
 intro y H1 h1
 rw [ae] at hw
 refine ho E σ _ H1 s1 _ _ hN.d h1 (hw.mono (fun a s2 hw v H2 h2=>?_) fun _ _ _ h=>h.up)
 obtain ⟨p,rfl,hl,h⟩:=h2.unsnoc
 obtain ⟨h3,ca,_⟩:=dq hl h
 split at hw
 ·rename_i c fs e
  split at hw
  ·rename_i hc
   rw [ae] at hw
   cases e3:s2.mod (.obj c (fP f x fs)) a with
   | bad=>rw [e3] at hw; exact hw.elim
   | ex _ _ _=>exact (kD _ _ _ _ _ _ e3).elim
   | ok _ s' =>
    rw [e3] at hw
    obtain ⟨b,rfl,hO,go⟩:=mod1 hl h e e3
    obtain ⟨C,dx,vs,m,e4,r⟩:=hO
    obtain ⟨c1,c2⟩:=hf c hc.1 C m
    rw [List.map_append,List.map_append,←List.append_assoc,←List.append_assoc] at h3
    obtain ⟨u',e5,ry⟩:=h3.ent _ _ ai
    rw [←aP h3.len,show List.map some [y]= [some y] from rfl,ai] at e5
    cases e5
    obtain ⟨le,hl',hS⟩:=go (.ins C dx (putF f y vs)) fun le=>⟨C,dx,_,m,upd_same,RepF.put (Rep.mono le ry) (r.mono le)⟩
    refine ⟨b,C,dx,vs,rfl,e4,c1,c2,by rw [r.len]; exact hc.2,hw σ _ (Rel.pop (v:=y) (a:= .d x) ⟨_,rfl,hl',hS⟩)⟩
  ·exact hw.elim
 ·exact hw.elim
end
section
variable {X:Cx} {CX:CXT} {k:Nat} {f C:Addr} {fd:FuncData} {ps:List Str} {sp:Sp} {dvs:List V} {ds:List Value} {E:L2.St→XK} {x m:Str} {pos apos:Pos} {e o:Expr} {es:List Expr} {ta:TE} {t:TA}
def nh (C:Addr) (m:Str) (sp:Sp) (dvs:List V) (E:L2.St→XK) (ta:TE) (t:TA):TE:=fun σ H Q=>ta σ H fun x H1=>∃a dx fs,x= .ref a∧H1 a=some (.ins C dx fs)∧fs.lookup m=none∧
 t σ H1 fun vs H2=>sp (x::(vs++dvs)) H2 Q (E σ)
theorem yz {pl:Sem Bool} (he:PE X o ta) (c:Cls X.K C) (hm:Meth X.K C m f) (F:FnOk X.prog X.w X.K X.mg X.base CX k f fd ps sp) (hr:Room k X.A) (hb:Binds X.K fd ps ds) (hd:Vals dvs ds) (hx:∀σ,PassesAt CX X σ (E σ)) (ha:PA X (e::es) t)
  (hst:starEach (e::es) X.env=(false,eval e X.env)::starEach es X.env:=by rfl) (hpl:(backTo pos (starEach es X.env)).any (·.1)=false:=by rfl)
  (ht:eval (.Call (.Attribute o m apos) (e::es) [] pos) X.env=(do
   let ov←eval o X.env
   standAt apos.atName
   let (f,first)←holding [ov] (getMethod ov m pl)
   callWith pos f first (backTo pos (starEach (e::es) X.env)) (backToKw pos (keywordEach [] X.env))):=by rfl):
  PE X (.Call (.Attribute o m apos) (e::es) [] pos) (nh C m sp dvs E ta t):=by
 refine ⟨fun pins s σ H Q I h=>?_⟩
 refine PySem.W.methodCall_KW (pl:=pl) (thn (he.run pins s σ H _ I h) fun u s1 ⟨x,H1,I1,rx,a,dx,fs,ex,ea,l,q⟩=>?_) ht
 subst ex
 obtain rfl:u=Value.ref a:=rx
 refine getmeth_ok I1 ea c hm l ?_
 refine PySem.W.callWith_K (first:= [.ref a]) (h₀:=X.base) I.ok.mod.kin hm.kp (thn (ha.run pos pins s1 σ H1 _ I1 q) fun us s2 ⟨vs,H2,I2,r,q2⟩=>⟨I2.kIn, ?_⟩) hst hpl
 exact run_fnSD (us:= .ref a::us) (vs:= .ref a::vs) F hr hb hd (hx σ) I2 (.cons rfl r) q2
theorem wz {pl:Sem Bool} (he:PE X o ta) (c:Cls X.K C) (hm:Meth X.K C m f) (F:FnOk X.prog X.w X.K X.mg X.base CX k f fd ps sp) (hr:Room k X.A) (hb:Binds X.K fd ps ds) (hd:Vals dvs ds) (hx:∀σ,PassesAt CX X σ (E σ))
  (ht:eval (.Call (.Attribute o m apos) [] [] pos) X.env=(do
   let ov←eval o X.env
   standAt apos.atName
   let (f,first)←holding [ov] (getMethod ov m pl)
   callWith pos f first (backTo pos (starEach [] X.env)) (backToKw pos (keywordEach [] X.env))):=by rfl):
  PE X (.Call (.Attribute o m apos) [] [] pos) (nh C m sp dvs E ta tNil):=by
 refine ⟨fun pins s σ H Q I h=>?_⟩
 refine PySem.W.methodCall_KW (pl:=pl) (thn (he.run pins s σ H _ I h) fun u s1 ⟨x,H1,I1,rx,a,dx,fs,ex,ea,l,q⟩=>?_) ht
 subst ex
 obtain rfl:u=Value.ref a:=rx
 refine getmeth_ok I1 ea c hm l ?_
 exact PySem.W.callWith_K0 (first:= [.ref a]) I1.kIn hm.kp (run_fnSD (us:= [.ref a]) (vs:= [.ref a]) F hr hb hd (hx σ) I1 (.cons rfl .nil) q)
def tMakeS (C:Addr) (sp:Sp) (dvs:List V) (E:L2.St→XK) (t:TA):TE:=fun σ H Q=>t σ H fun vs H1=>∀x dx,H1 x=none→H1 dx=none→dx≠x→
 sp (.ref x::(vs++dvs)) (upd (upd H1 dx (.own x)) x (.ins C dx [])) (fun v H2=>v= .non∧H2 dx=some (.own x)∧Q (.ref x) H2) (fun cls d H2=>H2 dx=some (.own x)∧E σ cls d H2)
end
def zFn (n:Nat) (body:SD→R Fl) (ds:List D) (S:Sto):R Vl:=match body ⟨starts n ds,S⟩ with
 | .ok .nx s=> .ok (.d .non) s
 | .ok (.rt (.d x)) s=> .ok (.d x) s
 | .ok (.rt (.own x)) s=> .ok (.own x) s
 | .ok _ _=> .bad
 | .ex c fs s=> .ex c fs s
 | .bad=> .bad
abbrev FnV:=List D→Sto→R Vl
def goF (F:FnV) (ds:List D) (s:SD):R Vl:=match F ds s.st with
 | .ok a s' => .ok a {s with st:=s'.st}
 | .ex c fs s' => .ex c fs {s with st:=s'.st}
 | .bad=> .bad
def spF (G:Gc) (n:Nat) (F:FnV):Sp:=fun vs H Q X=>vs.length=n∧∃(E:En) (m:Nat) (p:Wr) (w:List (Option V)) (ŵ:List (Option Vl)) (S:Sto) (ds:List D),p.H=H∧Sm G E m p w ŵ S∧Reps G p ds vs∧
 Wp (F ds S) (fun a s' =>∀v (p' :Wr),Sm G E m p' (w++ [some v]) (ŵ++ [some a]) s'.st→Q v p'.H) (fun c fs s' =>∀cls d (p' :Wr),Sm G E m p' w ŵ s'.st→ExV G p' c fs cls d→X cls d p'.H)
section
variable {P:Program} {w:World} {K:PySem.W.Frag} {mg:Str→Option Value} {base:Heap}
theorem oq {G:Gc} {t:TS} {fz:SD→R Fl} {N:List Str} {n:Nat} {vs:List V} {H:Hp} {Q:VK} {X:XK} (hb:RS G (fun cls d _ H=>X cls d H) t fz) (hs:spF G n (zFn N.length fz) vs H Q X) (hn:n≤N.length):t {nx:=fun _ H' =>Q .non H',rt:=Q} (L2.start N vs) H:=by
 obtain ⟨hl,E,m,p,w,ŵ,S,ds,rfl,h,r,hw⟩:=hs
 have hd:ds.length=n:=by rw [←r.len]; exact hl
 have h0:=h.enter (N:=N) (m' :=N.length) r
 have ls:(starts N.length ds).length=N.length:=by unfold starts; simp; omega
 have hR:Rel G (E.of p S w ŵ) (L2.start N vs) [] p.H ⟨starts N.length ds,S⟩ []:=by
  refine ⟨p,rfl, ?_, ?_⟩
  ·show _=(starts N.length ds).length
   rw [ls]
   unfold L2.start
   simp [hl]
   omega
  ·show Sm G _ (starts N.length ds).length p _ _ _
   rw [ls]
   simpa using h0
 refine hb _ _ [] p.H _ [] _ (fun e h=>absurd h List.not_mem_nil) hR ?_
 unfold zFn at hw
 have push:∀{σ' :L2.St} {v:V} {H' :Hp} {s' :SD} {a:Vl},(∀j,a≠ .loc j)→Rel G (E.of p S w ŵ) σ' ([]++ [v]) H' s' ([]++ [a])→∃p' :Wr,p'.H=H'∧Sm G E m p' (w++ [some v]) (ŵ++ [some a]) s'.st:=fun {σ' v H' s' a} ha hR=>by
  obtain ⟨p',rfl,hl',h'⟩:=hR.unsnoc
  have ll:=aP h'.len
  exact ⟨p',rfl,h.leave h' (k:=(s'.sl++([]:List Vl).map some).length) ai (by rw [←ll]; exact ai) ha⟩
 cases e:fz ⟨starts N.length ds,S⟩ with
 | bad=>rw [e] at hw; exact hw.elim
 | ex c fs s' =>
  rw [e] at hw
  intro cls d σ' H' hx
  obtain ⟨p',rfl,hl',h',x⟩:=hx
  exact hw cls d p' (h.after h') x
 | ok fl s' =>
  rw [e] at hw
  cases fl with
  | nx=>
   intro σ' H' hR'
   obtain ⟨p',rfl,h'⟩:=push (a:= .d .non) (fun j q=>nomatch q) (hR'.push (x:= .non) (v:= .non) fun _=>rfl)
   exact hw _ _ h'
  | bk=>exact hw.elim
  | ct=>exact hw.elim
  | rt a=>
   cases a with
   | loc j=>exact hw.elim
   | d x=>
    refine ⟨(fun j q=>nomatch q),fun σ' v H' hR' =>?_⟩
    obtain ⟨p',rfl,h'⟩:=push (a:= .d x) (fun j q=>nomatch q) hR'
    exact hw _ _ h'
   | own x=>
    refine ⟨(fun j q=>nomatch q),fun σ' v H' hR' =>?_⟩
    obtain ⟨p',rfl,h'⟩:=push (a:= .own x) (fun j q=>nomatch q) hR'
    exact hw _ _ h'
theorem xS {G:Gc} {n:Nat} {F:FnV}:∀vs H Q E,spF G n F vs H Q E→vs.length=n:=fun _ _ _ _ h=>h.1
theorem fnZ {x qual:Str} {st:Stmt} {f:Addr} {fd:FuncData} {N ps:List Str} {k:Nat} {fz:SD→R Fl} (F:L2.Fun K x qual st f fd) (S:FnScope N ps (L2.defScope st)) (hn:ps.length≤N.length)
  (hbody:∀(cdv:Value) (A:Around) (outer:List Env) (s:Shared) (H:Hp) (E:XK),Room k (A.deeper (envOfC qual (L2.defScope st) s.heap.objs.size f cdv))→
   ∃t,PSs (cxOf (L2.CX P w) P w K mg base N qual (L2.defScope st) f cdv A outer s H E) (L2.defBody st) t∧RS ⟨K,mg⟩ (fun cls d _ H=>E cls d H) t fz):FnOk P w K mg base (L2.CX P w) (k+1) f fd ps (spF ⟨K,mg⟩ ps.length (zFn N.length fz)):=
 F.okX S xS fun cdv A outer s H vs Q E hr h=>by
  obtain ⟨t,h1,h2⟩:=hbody cdv A outer s H E hr
  exact ⟨t,h1,oq h2 h hn⟩
theorem fnZ0 {x qual:Str} {st:Stmt} {f:Addr} {fd:FuncData} {N ps:List Str} {k:Nat} {fz:SD→R Fl} (F:L2.Fun K x qual st f fd) (S:FnScope N ps (L2.defScope st)) (hn:ps.length≤N.length)
  (hbody:∀(cdv:Value) (A:Around) (outer:List Env) (s:Shared) (H:Hp) (E:XK),Room k (A.deeper (envOfC qual (L2.defScope st) s.heap.objs.size f cdv))→
   ∃t,PSs (cxOf L2.CX0 P w K mg base N qual (L2.defScope st) f cdv A outer s H E).nox (L2.defBody st) t∧RS ⟨K,mg⟩ WF t fz):FnOk P w K mg base L2.CX0 (k+1) f fd ps (fun vs H Q E=>spF ⟨K,mg⟩ ps.length (zFn N.length fz) vs H Q (fun _ _ _=>False)):=
 F.ok S (fun _ _ _ _ h=>h.1) fun cdv A outer s H vs Q E hr h=>by
  obtain ⟨t,h1,h2⟩:=hbody cdv A outer s H E hr
  exact ⟨t,h1,oq (X:=fun _ _ _=>False) h2 h hn⟩
end
inductive DvOk:List V→List D→Prop where
 | nil:DvOk [] []
 | cons {v:V} {d:D} {vs:List V} {ds:List D} (h:d.sc=some v) (t:DvOk vs ds):DvOk (v::vs) (d::ds)
section
variable {G:Gc} {W:WX} {E:En} {σ:L2.St} {τ:List V} {H:Hp} {s s' :SD} {θ:List Vl} {v:V} {a b:Vl} {x:D} {p:Wr}
theorem yi (e:x.sc=some v):Rep G p x v:=by
 cases x<;> cases e<;> rfl
theorem DvOk.reps {vs:List V} {ds:List D} (h:DvOk vs ds):Reps G p ds vs:=by
 induction h with
 | nil=>rfl
 | cons h _ ih=>exact ⟨_,_,rfl,yi h,ih⟩
def aD (F:FnV) (dds:List D) (fr:SD→R (List D)):SD→R Vl:=fun s=>(fr s).bind fun ds s1=>goF F (ds++dds) s1
theorem goF_sp {F:FnV} {n:Nat} {ds:List D} {vs:List V} {Q:VK} (h:Sm G E s.sl.length p (σ++τ.map some) (s.sl++θ.map some) s.st) (hl:σ.length=s.sl.length) (r:Reps G p ds vs) (hn:vs.length=n)
  (hw:Wp (goF F ds s) (fun a s' =>∀v H',Rel G E σ (τ++ [v]) H' s' (θ++ [a])→Q v H') (XP G W E τ θ)):spF G n F vs p.H Q (WE W σ):=by
 refine ⟨hn,E,_,p,_,_,s.st,ds,rfl,h,r, ?_⟩
 unfold goF at hw
 cases e:F ds s.st with
 | bad=>rw [e] at hw; exact hw.elim
 | ok a s' =>
  rw [e] at hw
  intro v p' h'
  exact hw v _ (.snoc h' hl rfl)
 | ex c fs s' =>
  rw [e] at hw
  intro cls d p' h' x
  exact hw cls d σ _ ⟨p',rfl,hl,h',x⟩
theorem RE.call {F:FnV} {n:Nat} {dvs:List V} {dds:List D} {t:TA} {fr:SD→R (List D)} {k:Nat} (hd:DvOk dvs dds) (hr:RA G W t fr) (hm:Many fr k) (hn:k+dvs.length=n):RE G W (tCallSD (spF G n F) dvs (WE W) t) (aD F dds fr):=by
 intro E σ τ H s θ Q hN hR hw
 unfold aD at hw
 rw [ae] at hw
 refine hr E σ τ H s θ _ hN hR (hw.eq.mono (fun ds s1 ⟨e,hw⟩ vs H1 h1=>?_) fun _ _ _ h=>h)
 obtain ⟨p,rfl,hl,h,r⟩:=h1.args hR.tlen
 exact goF_sp h hl (r.append hd.reps) (by rw [List.length_append,r.len,hm _ _ _ e]; exact hn) hw
noncomputable def ar (c m:Str) (F:FnV) (dds:List D) (fo:SD→R Vl) (fr:SD→R (List D)):SD→R Vl:=fun s=>(fo s).bind fun a s1=>(s1.fix a).bind fun x s2=>match s2.cont (.d x) with
 | some (.obj c' fs)=>if c' =c∧bO fs m=none then (fr s2).bind fun ds s3=>goF F (x::(ds++dds)) s3 else .bad
 | _=> .bad
theorem RE.meth {c m:Str} {C:Addr} {F:FnV} {n:Nat} {dvs:List V} {dds:List D} {to:TE} {fo:SD→R Vl} {t:TA} {fr:SD→R (List D)} {k:Nat} (hC:G.mg c=some (.ref C)) (hd:DvOk dvs dds) (ho:RE G W to fo) (hr:RA G W t fr) (hm:Many fr k) (hn:k+dvs.length+1=n):
  RE G W (nh C m (spF G n F) dvs (WE W) to t) (ar c m F dds fo fr):=by
 intro E σ τ H s θ Q hN hR hw
 unfold ar at hw
 refine RE.fix ho E σ τ H s θ _ hN hR ?_
 unfold aG wh
 rw [ae] at hw ⊢
 refine hw.mono (fun a s1 hw=>?_) fun _ _ _ h=>h
 rw [ae] at hw ⊢
 refine hw.mono (fun x s2 hw=>?_) fun _ _ _ h=>h
 intro v H1 h1
 have h0:=h1
 obtain ⟨p,rfl,hl,h⟩:=h1.unsnoc
 obtain ⟨h3,ca,_⟩:=dq hl h
 split at hw
 ·rename_i c' fs e
  split at hw
  ·rename_i hc
   obtain ⟨b,C',dx,vs,rfl,hm',hb,r⟩:=(ca _ e).obj
   rw [hc.1,hC] at hm'
   cases hm'
   refine ⟨b,dx,vs,rfl,hb,r.val.2 hc.2, ?_⟩
   rw [ae] at hw
   refine hr E σ _ p.H s2 _ _ hN.d h0 (hw.eq.mono (fun ds s3 ⟨e,hw⟩ vs H2 h2=>?_) fun _ _ _ h=>h.up)
   have h2' :Rel G E σ (τ++(.ref b::vs)) H2 s3 (θ++(x::ds).map .d):=by simpa using h2
   obtain ⟨p2,rfl,hl2,h4,r2⟩:=h2'.args hR.tlen
   have r3:Reps G p2 (x::(ds++dds)) (.ref b::(vs++dvs)):=by
    obtain ⟨v1,r1,e1,q1,q2⟩:=r2
    cases e1
    exact ⟨_,_,rfl,q1,q2.append hd.reps⟩
   obtain ⟨v1,r1,e1,q1,q2⟩:=r2
   cases e1
   exact goF_sp h4 hl2 r3 (by rw [List.length_cons,List.length_append,q2.len,hm _ _ _ e]; exact hn) hw
  ·exact hw.elim
 ·exact hw.elim
end
section
variable {X:Cx} {CX:CXT} {k:Nat} {f C:Addr} {fd:FuncData} {ps:List Str} {sp:Sp} {dvs:List V} {ds:List Value} {E:L2.St→XK} {x:Str} {p pos:Pos} {e:Expr} {es:List Expr} {t:TA}
def sN (C:Addr) (sp:Sp) (dvs:List V) (E:L2.St→XK) (t:TA):TE:=fun σ H Q=>t σ H fun vs H1=>∀x dx,H1 x=none→H1 dx=none→dx≠x→
 sp (.ref x::(vs++dvs)) (upd (upd H1 dx (.own x)) x (.ins C dx [])) (fun v H2=>v= .non∧Q (.ref x) H2) (E σ)
theorem vg {pins:List (Addr×Obj)} {σ:L2.St} {H:Hp} {s:Shared} {Q:VK} {us:List Value} {vs:List V} (M:Mk X.K C f) (F:FnOk X.prog X.w X.K X.mg X.base CX k f fd ps sp) (hr:Room (k+1) X.A) (hb:Binds X.K fd ps ds) (hd:Vals dvs ds)
  (hx:PassesAt CX X σ (E σ)) (I:Inv X pins σ H s) (r:Vals vs us)
  (h:∀x dx,H x=none→H dx=none→dx≠x→sp (.ref x::(vs++dvs)) (upd (upd H dx (.own x)) x (.ins C dx [])) (fun v H2=>v= .non∧Q (.ref x) H2) (E σ)):
  wpAny (model X.prog X.w) X.A (call (.ref C) us) (EP X pins σ Q) X.xe s:=by
 have hq:=h (s.heap.objs.size+1) s.heap.objs.size (I.hok.fresh (Nat.le_succ _)) (I.hok.fresh (Nat.le_refl _)) (Nat.ne_of_lt (Nat.lt_succ_self _))
 have I2:=Inv.made (C:=C) I
 have r2:Vals (V.ref (s.heap.objs.size+1)::(vs++dvs)) (Value.ref (s.heap.objs.size+1)::(us++ds)):= .cons rfl (r.append hd)
 have hl:(Value.ref (s.heap.objs.size+1)::us++ds).length=ps.length:=by
  have e:=r2.length
  rw [F.len _ _ _ _ hq] at e
  exact e.symm
 refine wpAny_call (make_map (f:=f) I.kIn M.makes M.init (beq_iff_eq.mp M.fn) (codeAny_mono (F.run _ X.stack _ _ ⟨Value.ref (s.heap.objs.size+1)::us,[]⟩ (Value.ref (s.heap.objs.size+1)::(us++ds)) _ _ (E σ) (hr.make C us [])
  (I2.env0.make C us []) (hb _ (Value.ref (s.heap.objs.size+1)::us) I2.kIn hl) r2 hq) fun r s' hq' =>?_))
 cases r with
 | error e=>exact hx pins _ _ e s' I2 hq'
 | ok fl=>
  cases fl with
  | ret u=>
   obtain ⟨v,H',I3,rv,ev,q3⟩:=I2.after hq'
   subst ev
   exact ⟨rv,⟨V.ref (s.heap.objs.size+1),H',I3,rfl,q3⟩⟩
  | next=>exact False.elim hq'
  | brk=>exact False.elim hq'
  | cont=>exact False.elim hq'
theorem pe_makS (M:Mk X.K C f) (F:FnOk X.prog X.w X.K X.mg X.base CX k f fd ps sp) (hr:Room (k+1) X.A) (hg:Gl X x) (hm:X.mg x=some (.ref C)) (hb:Binds X.K fd ps ds) (hd:Vals dvs ds) (hx:∀σ,PassesAt CX X σ (E σ))
  (ha:PA X (e::es) t) (hdb:(x == ("__debug__" :Str))=false:=by decide) (he:starEach (e::es) X.env=(false,eval e X.env)::starEach es X.env:=by rfl) (hpl:(backTo pos (starEach es X.env)).any (·.1)=false:=by rfl):
  PE X (.Call (.Name x p) (e::es) [] pos) (sN C sp dvs E t):=by
 refine ⟨fun pins s σ H Q I h=>?_⟩
 refine wpAny_Call_Name_kw (ld_glob I hg hm ?_ hdb)
 refine PySem.W.callWith_K (h₀:=X.base) I.ok.mod.kin M.kp (thn (ha.run pos pins s σ H _ I h) fun us s1 ⟨vs,H1,I1,r,q⟩=>⟨I1.kIn, ?_⟩) he hpl
 exact vg M F hr hb hd (hx σ) I1 r q
theorem A3 (M:Mk X.K C f) (F:FnOk X.prog X.w X.K X.mg X.base CX k f fd ps sp) (hr:Room (k+1) X.A) (hg:Gl X x) (hm:X.mg x=some (.ref C)) (hb:Binds X.K fd ps ds) (hd:Vals dvs ds) (hx:∀σ,PassesAt CX X σ (E σ))
  (hdb:(x == ("__debug__" :Str))=false:=by decide):PE X (.Call (.Name x p) [] [] pos) (sN C sp dvs E tNil):=by
 refine ⟨fun pins s σ H Q I h=>?_⟩
 refine wpAny_Call_Name_kw (ld_glob I hg hm ?_ hdb)
 exact PySem.W.callWith_K0 I.kIn M.kp (vg (us:= []) M F hr hb hd (hx σ) I .nil h)
end
def dH (c:Str) (F:FnV) (dds:List D) (fr:SD→R (List D)):SD→R Vl:=fun s=>(fr s).bind fun ds s1=>match F (.cell s1.st.nx::(ds++dds)) (s1.st.new (.obj c [])) with
 | .ok (.d .non) s' => .ok (.d (.cell s1.st.nx)) {s1 with st:=s'.st}
 | .ex c fs s' => .ex c fs {s1 with st:=s'.st}
 | _=> .bad
section
variable {G:Gc} {W:WX} {E:En} {σ:L2.St} {τ:List V} {H:Hp} {s s' :SD} {θ:List Vl} {v u:V} {a b:Vl} {x y:D} {p:Wr} {Q:VK}
theorem RE.make {c:Str} {C:Addr} {F:FnV} {n:Nat} {dvs:List V} {dds:List D} {t:TA} {fr:SD→R (List D)} {k:Nat} (hC:G.mg c=some (.ref C)) (hd:DvOk dvs dds) (hr:RA G W t fr) (hm:Many fr k) (hn:k+dvs.length+1=n):
  RE G W (sN C (spF G n F) dvs (WE W) t) (dH c F dds fr):=by
 intro E σ τ H s θ Q hN hR hw
 unfold dH at hw
 rw [ae] at hw
 refine hr E σ τ H s θ _ hN hR (hw.eq.mono (fun ds s1 ⟨e,hw⟩ vs H1 h1=>?_) fun _ _ _ h=>h)
 obtain ⟨p,rfl,hl,h,r⟩:=h1.args hR.tlen
 intro x dx hx hdx hne
 have q1:=h.alloc (o:= .own x) hdx
 have hx' :({p with H:=upd p.H dx (.own x)}:Wr).H x=none:=by show upd _ _ _ _=_; rw [upd_ne (Ne.symm hne)]; exact hx
 have q2:=q1.allocOwn (o:= .ins C dx []) (x:= .obj c []) hx' ⟨C,dx,[],hC,upd_same,rfl⟩
 have ll:(σ++τ.map some).length=(s1.sl++θ.map some).length:=h.len
 have q3:=q2.celled (k:=(s1.sl++θ.map some).length) (a:=x) ai (by rw [←ll]; exact ai)
 rw [gO] at q3
 have le1:=(dP (p:=p) (o:= .own x) hdx).trans (jh (o:= .ins C dx []) hx')
 have le2:∀{q:Wr},q.n=s1.st.nx→q.le {q with γ:=fun i=>if i=s1.st.nx then x else q.γ i,n:=s1.st.nx+1}:=fun {q} hq=>⟨fun i hi=>if_neg (by rw [hq] at hi; omega),by rw [hq]; exact Nat.le_succ _,fun b u n e=>⟨.inl e,n⟩⟩
 have le:=le1.trans (le2 q2.pn)
 obtain ⟨v0,e0,r0⟩:=q3.ent _ (.d (.cell s1.st.nx)) ai
 rw [←ll,ai] at e0
 cases e0
 refine ⟨by rw [List.length_cons,List.length_append,r.len,hm _ _ _ e]; exact hn,E,_,_,_,_,_, .cell s1.st.nx::(ds++dds),rfl,q3,⟨_,_,rfl,r0,(r.mono le).append hd.reps⟩, ?_⟩
 cases e1:F (.cell s1.st.nx::(ds++dds)) (s1.st.new (.obj c [])) with
 | bad=>rw [e1] at hw; exact hw.elim
 | ex c fs s' =>
  rw [e1] at hw
  intro cls d p' h' x
  exact hw cls d σ _ ⟨p',rfl,hl,h'.pop1 (bZ hl),x⟩
 | ok a s' =>
  rw [e1] at hw
  cases a with
  | own y=>exact hw.elim
  | loc j=>exact hw.elim
  | d y=>
   cases y with
   | non=>
    intro v p' h'
    have l2:=aP h'.len
    obtain ⟨v1,e2,r1⟩:=h'.ent _ _ ai
    rw [←l2,ai] at e2
    cases e2
    have e3:v= .non:=r1
    exact ⟨e3,hw (.ref x) _ (.snoc (h'.pop1 (by simp; omega)) hl rfl)⟩
   | _=>exact hw.elim
theorem RE.cb1 {r:List V→Hp→VK→Prop} {f:Vl→SD→R Vl} {ta:TE} {fa:SD→R Vl} (hp:kT G (fun v H Q=>r [v] H Q) f) (nx:∀a s c fs s',f a s≠ .ex c fs s') (ha:RE G W ta fa):RE G W (tCB r (tCons ta tNil)) (z1 f fa):=
 RE.op1 (r:=fun v H Q=>r [v] H Q) hp nx ha
theorem RE.cb2 {r:List V→Hp→VK→Prop} {f:Vl→Vl→SD→R Vl} {ta tb:TE} {fa fb:SD→R Vl} (hp:cX G (fun v u H Q=>r [v,u] H Q) f) (nx:∀a b s c fs s',f a b s≠ .ex c fs s') (ha:RE G W ta fa) (hb:RE G W tb fb):RE G W (tCB r (tCons ta (tCons tb tNil))) (z2 f fa fb):=
 RE.op2 (r:=fun v u H Q=>r [v,u] H Q) hp nx ha hb
theorem p_len:kT G (fun v H Q=>rLenZ G.K [v] H Q) de:=by
 intro E σ τ s θ p v a Q hl h hw
 obtain ⟨h0,ca,_⟩:=dq hl h
 unfold de at hw
 split at hw
 ·rename_i e
  obtain ⟨b,vs,rfl,hb,r⟩:=(ca _ e).lst
  exact .inl ⟨b,vs,rfl, .inl (.of hb),by rw [r.len]; exact bA h0 hl hw rfl⟩
 ·rename_i e
  obtain ⟨b,vs,rfl,hb,r⟩:=(ca _ e).con
  exact .inl ⟨b,vs,rfl, .inl hb,by rw [r.len]; exact bA h0 hl hw rfl⟩
 ·rename_i e
  obtain ⟨b,vs,rfl,hb,r⟩:=(ca _ e).tup
  exact .inl ⟨b,vs,rfl, .inr (.of hb),by rw [r.len]; exact bA h0 hl hw rfl⟩
 ·rename_i e
  obtain rfl:=(ca _ e).str
  split at hw
  ·rename_i hz
   exact .inr (.inl ⟨_,rfl,hz,bA h0 hl hw rfl⟩)
  ·exact hw.elim
 ·rename_i e
  obtain ⟨b,vs,rfl,hb,r⟩:=(ca _ e).dct
  exact .inr (.inr ⟨b,vs,rfl,hb,by rw [r.len]; exact bA h0 hl hw rfl⟩)
 ·exact hw.elim
def wD:Key→D
 | .inl i=> .int i
 | .inr z=> .str z
theorem pS {k:Key}:Rep G p (wD k) (kV k):=by cases k<;> rfl
theorem rB:∀{ks:List (Key×D)} {vs:List (Key×V)},RepK G p ks vs→Reps G p (ks.map fun kv=>wD kv.1) (vs.map fun kv=>kV kv.1)
 | [],_,h=>by rw [show _= [] from h]; exact rfl
 | (k,d)::ks,_,h=>by
  obtain ⟨v,r,rfl,h1,h2⟩:=h
  exact ⟨_,_,rfl,pS,rB h2⟩
noncomputable def kb (a:Vl) (s:SD):R Vl:=match s.cont a with
 | some (.lst xs)=> .ok (.own (.lst xs)) s
 | some (.con xs)=> .ok (.own (.lst xs)) s
 | some (.tup xs)=> .ok (.own (.lst xs)) s
 | some (.dct ks)=> .ok (.own (.lst (ks.map fun kv=>wD kv.1))) s
 | _=> .bad
def vn (K:PySem.W.Frag):List V→Hp→VK→Prop:=fun xs H Q=>ym K xs H Q∨yn xs H Q
theorem gZ {X:Cx} {K:PySem.W.Frag} (hc:X.calm=true) (hK:X.K=K:=by rfl):CallR X (.type "list") (vn K):=CallR.or (hK ▸ wJ) (BD hc)
theorem p_list:kT G (fun v H Q=>vn G.K [v] H Q) kb:=by
 intro E σ τ s θ p v a Q hl h hw
 obtain ⟨h0,ca,_⟩:=dq hl h
 unfold kb at hw
 split at hw
 ·rename_i e
  obtain ⟨b,vs,rfl,hb,r⟩:=(ca _ e).lst
  exact .inl ⟨b,vs,rfl, .inl (.of hb),fun l hn=>dC h0 hl hw hn r⟩
 ·rename_i e
  obtain ⟨b,vs,rfl,hb,r⟩:=(ca _ e).con
  exact .inl ⟨b,vs,rfl, .inl hb,fun l hn=>dC h0 hl hw hn r⟩
 ·rename_i e
  obtain ⟨b,vs,rfl,hb,r⟩:=(ca _ e).tup
  exact .inl ⟨b,vs,rfl, .inr (.of hb),fun l hn=>dC h0 hl hw hn r⟩
 ·rename_i e
  obtain ⟨b,vs,rfl,hb,r⟩:=(ca _ e).dct
  exact .inr ⟨b,vs,rfl,hb,fun l hn=>dC h0 hl hw hn (rB r)⟩
 ·exact hw.elim
def jq (ks:List (Key×D)):List (Key×D):=ks.foldl (fun acc kv=>dput acc kv.1 kv.2) []
def yA:List D→Option (List (Key×D))
 | []=>some []
 | .tup [k,d]::ds=>match k.key,yA ds with
  | some k,some r=>some ((k,d)::r)
  | _,_=>none
 | _=>none
theorem RepK.merge:∀{ks:List (Key×D)} {vs:List (Key×V)} {acc:List (Key×D)} {av:List (Key×V)},RepK G p ks vs→RepK G p acc av→RepK G p (ks.foldl (fun acc kv=>dput acc kv.1 kv.2) acc) (mergeK av vs)
 | [],_,_,_,h,h2=>by rw [show _= [] from h]; exact h2
 | (k,d)::ks,_,_,_,h,h2=>by
  obtain ⟨v,r,rfl,h1,h3⟩:=h
  have q:=RepK.merge h3 (h2.put (k:=k) h1)
  exact q
theorem qR:∀{ds:List D} {vs:List V} {ks:List (Key×D)},Reps G p ds vs→yA ds=some ks→∃(ps:List Addr) (kvs:List (Key×V)),vs=ps.map V.ref∧RepK G p ks kvs∧Paired (fun q kv=>SqT G.K p.H q [kV kv.1,kv.2]) ps kvs
 | [],vs,ks,h,e=>by
  cases e
  rw [show vs= [] from h]
  exact ⟨[],[],rfl,rfl, .nil⟩
 | d::ds,vs,ks,h,e=>by
  obtain ⟨v,r,rfl,h1,h2⟩:=h
  unfold yA at e
  split at e
  ·rename_i heq
   cases heq
  ·rename_i kd d' ds' heq
   cases heq
   split at e
   ·rename_i k r' e1 e2
    cases e
    obtain ⟨ps,kvs,rfl,h3,h4⟩:=qR h2 e2
    obtain ⟨a,vs,rfl,⟨_,hh⟩,rr⟩:=h1
    obtain ⟨v1,r1,rfl,q1,v2,r2,rfl,q2,rfl⟩:=rr
    obtain rfl:=kh q1 e1
    exact ⟨a::ps,(k,v2)::kvs,rfl,⟨v2,kvs,rfl,q2,h3⟩, .cons (.of hh) h4⟩
   ·cases e
  ·cases e
noncomputable def tF (a:Vl) (s:SD):R Vl:=match s.cont a with
 | some (.dct ks)=> .ok (.own (.dct ks)) s
 | some (.lst ds)=>match yA ds with
  | some ks=> .ok (.own (.dct (jq ks))) s
  | none=> .bad
 | _=> .bad
def yq (K:PySem.W.Frag):List V→Hp→VK→Prop:=fun xs H Q=>rDictD xs H Q∨∃(a:Addr) (ps:List Addr) (kvs:List (Key×V)),xs= [.ref a]∧SqL K H a (ps.map V.ref)∧Paired (fun p kv=>SqT K H p [kV kv.1,kv.2]) ps kvs∧
  ∀p,H p=none→Q (.ref p) (upd H p (.dK (mergeK [] kvs)))
theorem BF {X:Cx} {K:PySem.W.Frag} (hc:X.calm=true) (hK:X.K=K:=by rfl):CallR X (.type "dict") (yq K):=CallR.or BG (hK ▸ call_dictP hc)
theorem p_dict:kT G (fun v H Q=>yq G.K [v] H Q) tF:=by
 intro E σ τ s θ p v a Q hl h hw
 obtain ⟨h0,ca,_⟩:=dq hl h
 unfold tF at hw
 split at hw
 ·rename_i e
  obtain ⟨b,vs,rfl,hb,r⟩:=(ca _ e).dct
  exact .inl ⟨b,vs,rfl,hb,fun l hn=>uk h0 hl hw hn r⟩
 ·rename_i e
  split at hw
  ·rename_i e1
   obtain ⟨b,vs,rfl,hb,r⟩:=(ca _ e).lst
   obtain ⟨ps,kvs,rfl,r1,r2⟩:=qR r e1
   exact .inr ⟨b,ps,kvs,rfl, .of hb,r2,fun l hn=>uk h0 hl hw hn (r1.merge rfl)⟩
  ·exact hw.elim
 ·exact hw.elim
def kQ:List D→Option (List Int)
 | []=>some []
 | .int i::ds=>match kQ ds with
  | some is=>some (i::is)
  | none=>none
 | _=>none
theorem mD:∀{ds:List D} {vs:List V} {is:List Int},Reps G p ds vs→kQ ds=some is→vs=is.map V.int
 | [],vs,is,h,e=>by cases e; exact h
 | d::ds,vs,is,h,e=>by
  obtain ⟨v,r,rfl,h1,h2⟩:=h
  unfold kQ at e
  split at e
  ·rename_i heq; cases heq
  ·rename_i heq
   cases heq
   split at e
   ·rename_i e1
    cases e
    rw [List.map_cons,mD h2 e1,show v= .int _ from h1]
   ·cases e
  ·cases e
theorem rH {is:List Int}:Reps G p (is.map D.int) (is.map V.int):=by
 induction is with
 | nil=>rfl
 | cons i is ih=>exact ⟨_,_,rfl,rfl,ih⟩
def Bo:List (Key×D)→Option (List Int)
 | []=>some []
 | (.inl i,_)::ks=>match Bo ks with
  | some is=>some (i::is)
  | none=>none
 | _=>none
theorem nC:∀{ks:List (Key×D)} {is:List Int},Bo ks=some is→ks.map (·.1)=is.map Sum.inl
 | [],is,e=>by cases e; rfl
 | k::ks,is,e=>by
  unfold Bo at e
  split at e
  ·rename_i heq; cases heq
  ·rename_i heq
   cases heq
   split at e
   ·rename_i e1
    cases e
    rw [List.map_cons,List.map_cons,nC e1]
   ·cases e
  ·cases e
def srt (ns:List Int):List Int:=ns.mergeSort fun a b=>decide (a≤b)
theorem srt_perm {ns:List Int}:(srt ns).Perm ns:=List.mergeSort_perm ns _
theorem srt_up {ns:List Int}:(srt ns).Pairwise (· ≤ ·):=(List.pairwise_mergeSort (le:=fun a b:Int=>decide (a≤b)) (fun a b c h1 h2=>by simp at*; omega) (fun a b=>by simp; omega) ns).imp fun h=>by simpa using h
theorem xQ {ns ys:List Int} (hp:ys.Perm ns) (hs:ys.Pairwise (· ≤ ·)):ys=srt ns:=
 List.Perm.eq_of_pairwise (le:=(· ≤ ·)) (fun a b _ _ h1 h2=>Int.le_antisymm h1 h2) hs srt_up (hp.trans srt_perm.symm)
noncomputable def iH (a:Vl) (s:SD):R Vl:=match s.cont a with
 | some (.lst ds)=>match kQ ds with
  | some is=> .ok (.own (.lst ((srt is).map D.int))) s
  | none=> .bad
 | some (.dct ks)=>match Bo ks with
  | some is=>if is.length<64 then .ok (.own (.lst ((srt is).map D.int))) s else .bad
  | none=> .bad
 | _=> .bad
def oR (K:PySem.W.Frag):List V→Hp→VK→Prop:=fun xs H Q=>rSortedI K xs H Q∨qM xs H Q
theorem wI {X:Cx} {K:PySem.W.Frag} (hc:X.calm=true) (hK:X.K=K:=by rfl):CallR X (.builtin "sorted") (oR K):=CallR.or (hK ▸ cr_sortedI) (uI hc)
theorem A5:kT G (fun v H Q=>oR G.K [v] H Q) iH:=by
 intro E σ τ s θ p v a Q hl h hw
 obtain ⟨h0,ca,_⟩:=dq hl h
 unfold iH at hw
 split at hw
 ·rename_i e
  split at hw
  ·rename_i e1
   obtain ⟨b,vs,rfl,hb,r⟩:=(ca _ e).lst
   obtain rfl:=mD r e1
   refine .inl ⟨b,_,rfl, .of hb,fun ns' l hp hs hn=>?_⟩
   rw [xQ hp hs]
   exact dC h0 hl hw hn rH
  ·exact hw.elim
 ·rename_i e
  split at hw
  ·rename_i is e1
   split at hw
   ·rename_i hz
    obtain ⟨b,vs,rfl,hb,r⟩:=(ca _ e).dct
    refine .inr ⟨b,vs,is,rfl,hb,r.keys.trans (nC e1),hz,fun ns' l hp hs hn=>?_⟩
    rw [xQ hp hs]
    exact dC h0 hl hw hn rH
   ·exact hw.elim
  ·exact hw.elim
 ·exact hw.elim
noncomputable def oSum (a:Vl) (s:SD):R Vl:=match s.cont a with
 | some (.lst ds)=>match kQ ds with
  | some is=> .ok (.d (.int is.sum)) s
  | none=> .bad
 | _=> .bad
def BB:List D→Option (List Bool)
 | []=>some []
 | .bl i::ds=>match BB ds with
  | some is=>some (i::is)
  | none=>none
 | _=>none
theorem vZ:∀{ds:List D} {vs:List V} {is:List Bool},Reps G p ds vs→BB ds=some is→vs=is.map V.bl
 | [],vs,is,h,e=>by cases e; exact h
 | d::ds,vs,is,h,e=>by
  obtain ⟨v,r,rfl,h1,h2⟩:=h
  unfold BB at e
  split at e
  ·rename_i heq; cases heq
  ·rename_i heq
   cases heq
   split at e
   ·rename_i e1
    cases e
    rw [List.map_cons,vZ h2 e1,show v= .bl _ from h1]
   ·cases e
  ·cases e
noncomputable def oAll (a:Vl) (s:SD):R Vl:=match s.cont a with
 | some (.lst ds)=>match BB ds with
  | some bs=> .ok (.d (.bl (bs.all id))) s
  | none=> .bad
 | _=> .bad
noncomputable def oAny (a:Vl) (s:SD):R Vl:=match s.cont a with
 | some (.lst ds)=>match BB ds with
  | some bs=> .ok (.d (.bl (bs.any id))) s
  | none=> .bad
 | _=> .bad
theorem p_all:kT G (fun v H Q=>rAll G.K [v] H Q) oAll:=by
 intro E σ τ s θ p v a Q hl h hw
 obtain ⟨h0,ca,_⟩:=dq hl h
 unfold oAll at hw
 split at hw
 ·rename_i e
  split at hw
  ·rename_i e1
   obtain ⟨b,vs,rfl,hb,r⟩:=(ca _ e).lst
   obtain rfl:=vZ r e1
   exact ⟨b,_,rfl, .of hb,bA h0 hl hw rfl⟩
  ·exact hw.elim
 ·exact hw.elim
def oAbs (a:Vl) (s:SD):R Vl:=match a with
 | .d (.int i)=> .ok (.d (.int (if i<0 then -i else i))) s
 | _=> .bad
def oInt (a:Vl) (s:SD):R Vl:=match a with
 | .d (.int i)=> .ok (.d (.int i)) s
 | .d (.bl b)=> .ok (.d (.int (if b then 1 else 0))) s
 | .d (.str z)=>match PySem.intText? z with
  | some n=>if z.length≤640 then .ok (.d (.int n)) s else .bad
  | none=> .bad
 | _=> .bad
def rIntZ:List V→Hp→VK→Prop:=fun xs H Q=>rInt1 xs H Q∨rIntS xs H Q
def oStr (a:Vl) (s:SD):R Vl:=match a with
 | .d (.int i)=>if i.natAbs.log2<1920 then .ok (.d (.str (toString i))) s else .bad
 | _=> .bad
def oMin (a b:Vl) (s:SD):R Vl:=match a,b with
 | .d (.int i), .d (.int j)=> .ok (.d (.int (if j<i then j else i))) s
 | _,_=> .bad
def oMax (a b:Vl) (s:SD):R Vl:=match a,b with
 | .d (.int i), .d (.int j)=> .ok (.d (.int (if j > i then j else i))) s
 | _,_=> .bad
theorem last2v (hl:σ.length=s.sl.length) (h:Sm G E s.sl.length p (((σ++τ.map some)++ [some v])++ [some u]) (((s.sl++θ.map some)++ [some (.d x)])++ [some (.d y)]) s.st):Rep G p x v∧Rep G p y u:=by
 have l:=aP h.len
 obtain ⟨u',e1,r⟩:=h.ent _ _ ai
 rw [←l,ai] at e1; cases e1
 have h1:=h.pop1 (by simp; omega)
 obtain ⟨u',e1,r'⟩:=h1.ent _ _ ai
 rw [←aP h1.len,ai] at e1; cases e1
 exact ⟨r',r⟩
end
section
variable {G:Gc} {W:WX} {E:En} {σ σ' :L2.St} {τ:List V} {H:Hp} {s s' :SD} {θ:List Vl} {v u:V} {a b:Vl} {x y:D} {p:Wr} {Q:VK} {m:Nat} {w:List (Option V)} {k:Nat}
def stO (f:D→D→Option D) (o i:Vl) (s:SD):R Unit:=match i with
 | .d z=>match s.cont o with
  | some c=>match f c z with
   | some y=>s.mod y o
   | none=> .bad
  | none=> .bad
 | _=> .bad
def StOk (G:Gc) (r:V→V→V→Hp→(Hp→Prop)→Prop) (f:D→D→D→Option D):Prop:=∀(p:Wr) (c z x y:D) (b:Addr) (i v:V) (Q:Hp→Prop),f x c z=some y→Ho G p c b→Rep G p z i→Rep G p x v→
 ∃ho,(p.le {p with H:=upd p.H b ho}→Ho G {p with H:=upd p.H b ho} y b)∧(Q (upd p.H b ho)→r (.ref b) i v p.H Q)
theorem st_go {r:V→V→V→Hp→(Hp→Prop)→Prop} {f:D→D→D→Option D} (hr:StOk G r f) {v o i:V} {a b:Vl} {x:D} {P:Unit→SD→Prop} {Ex:XQ} {R0:Hp→Prop} (h:Rel G E σ (τ++ [v]++ [o]++ [i]) H s (θ++ [.d x]++ [a]++ [b]))
  (hw:Wp (stO (f x) a b s) P Ex) (k:∀s' H',Rel G E σ τ H' s' θ→P () s'→R0 H'):r o i v H R0:=by
 obtain ⟨p,rfl,hl,h⟩:=h.unsnoc
 unfold stO at hw
 split at hw
 ·rename_i z
  obtain ⟨u',e4,r4⟩:=h.ent _ _ ai
  rw [←aP h.len,ai] at e4
  cases e4
  have h1:=h.pop1 (bZ hl)
  rw [show σ++(τ++ [v]++ [o]).map some=(σ++(τ++ [v]).map some)++ [some o] from by simp,show s.sl++(θ++ [Vl.d x]++ [a]).map some=(s.sl++(θ++ [Vl.d x]).map some)++ [some a] from by simp] at h1
  split at hw
  ·rename_i c e1
   split at hw
   ·rename_i y e2
    cases e3:s.mod y a with
    | bad=>rw [e3] at hw; exact hw.elim
    | ex _ _ _=>exact (kD _ _ _ _ _ _ e3).elim
    | ok _ s' =>
     rw [e3] at hw
     obtain ⟨b,rfl,ho,go⟩:=mod1 hl h1 e1 e3
     have h2:=h1.pop1 (bZ hl)
     rw [show σ++(τ++ [v]).map some=(σ++τ.map some)++ [some v] from by simp,show s.sl++(θ++ [Vl.d x]).map some=(s.sl++θ.map some)++ [some (.d x)] from by simp] at h2
     obtain ⟨u',e5,r5⟩:=h2.ent _ _ ai
     rw [←aP h2.len,ai] at e5
     cases e5
     obtain ⟨o',hy,k2⟩:=hr p c _ x y b i v R0 e2 ho r4 r5
     obtain ⟨le,hl',hS⟩:=go o' hy
     exact k2 (k s' _ (Rel.pop (v:=v) (a:= .d x) ⟨_,rfl,hl',hS⟩) hw)
   ·exact hw.elim
  ·exact hw.elim
 ·exact hw.elim
noncomputable def uo (x c z:D):Option D:=match c,z.key with
 | .dct ks,some k=>if ks.length<sizeLine then some (.dct (dput ks k x)) else none
 | _,_=>none
def rDput:V→V→V→Hp→(Hp→Prop)→Prop:=fun o i v H Q=>∃a H4,o= .ref a∧DPut H a i v H4∧Q H4
theorem h_dput:StOk G rDput uo:=by
 intro p c z x y b i v Q e ho ri rv
 unfold uo at e
 split at e
 ·split at e
  ·rename_i ks k e1 hz
   cases e
   obtain ⟨vs,e2,r⟩:=ho
   have h1:=kh ri e1
   subst h1
   exact ⟨_,fun le=>⟨_,upd_same,(r.mono le).put (Rep.mono le rv)⟩,fun q=>⟨b,_,rfl,DPut.k e2 (by rw [r.len]; exact hz),q⟩⟩
  ·cases e
 ·cases e
noncomputable def xa (fo fi fv:SD→R Vl):SD→R Fl:=fun s=>(fv s).bind fun v s0=>(s0.fix v).bind fun x s1=>((fo s1).bind fun o s2=>(fi s2).bind fun i s3=>stO (uo x) o i s3).bind fun _ s4=> .ok .nx s4
theorem RS.dput {td ty tv:TE} {fo fi fv:SD→R Vl} (ho:RE G W td fo) (hi:RE G W ty fi) (hv:RE G W tv fv):RS G W (sDPut td ty tv) (xa fo fi fv):=by
 intro E σ τ H s θ D hN hR hw
 unfold xa at hw
 refine RE.fix hv E σ τ H s θ _ hN hR ?_
 unfold aG wh
 rw [ae] at hw ⊢
 refine hw.mono (fun v0 s0 hw=>?_) fun _ _ _ h=>h
 rw [ae] at hw ⊢
 refine hw.mono (fun x s1 hw=>?_) fun _ _ _ h=>h
 intro v H1 h1
 rw [ae] at hw
 refine RE.two (Q:=fun o i H3=>∃a H4,o= .ref a∧DPut H3 a i v H4∧D.nx σ H4) ho hi hN.d h1 (hw.mono (fun _ _ h=>h) fun _ _ _ h=>h.up) fun a b s2 o i H2 h2 hw=>?_
 exact st_go h_dput h2 hw fun s' H' h' hw=>hw σ H' h'
def gA (x c z:D):Option D:=match c,z with
 | .lst ds, .int k=>match ixN ds.length k with
  | some j=>some (.lst (ds.set j x))
  | none=>none
 | _,_=>none
theorem h_setL:StOk G rSetL gA:=by
 intro p c z x y b i v Q e ho ri rv
 unfold gA at e
 split at e
 ·split at e
  ·rename_i ds k _ j e1
   cases e
   obtain ⟨vs,e2,r⟩:=ho
   have h1:i= .int k:=ri
   subst h1
   exact ⟨_,fun le=>⟨_,upd_same,(r.mono le).set (Rep.mono le rv) j⟩,fun q=>⟨b,vs,k,j,rfl,rfl,e2,by rw [r.len]; exact e1,q⟩⟩
  ·cases e
 ·cases e
def AF (fo fi:SD→R Vl) (a:Vl) (s:SD):R Unit:=(s.fix a).bind fun x s1=>(fo s1).bind fun o s2=>(fi s2).bind fun i s3=>stO (gA x) o i s3
theorem RG.sub {to ti:TE} {fo fi:SD→R Vl} (ho:RE G W to fo) (hi:RE G W ti fi):RG G W [] (gSub to ti rSetL) (AF fo fi):=by
 intro E σ τ H s θ v a Q hN hR hw
 unfold AF at hw
 rw [ae] at hw
 obtain ⟨p,rfl,hl,h⟩:=hR.unsnoc
 cases e:s.fix a with
 | bad=>rw [e] at hw; exact hw.elim
 | ex c fs s2=>exact (vS _ _ _ _ _ e).elim
 | ok x s2=>
  rw [e] at hw
  obtain ⟨p',hp,hs,h'⟩:=zt E s _ x s2 p _ _ v e h (bZ hl)
  have hR2:Rel G E σ (τ++ [v]) p.H s2 (θ++ [.d x]):=hp ▸ .snoc h' (hl.trans hs.symm) rfl
  refine RE.two (Q:=fun o i H2=>rSetL o i v H2 fun H3=>Q σ H3) ho hi hN.d hR2 (Wp.mono (show Wp ((fo s2).bind fun o s2=>(fi s2).bind fun i s3=>stO (gA x) o i s3) _ _ from hw) (fun _ _ h=>h) fun _ _ _ h=>h.up) fun a b s2 o i H2 h2 hw=>?_
  exact st_go h_setL h2 hw fun s' H' h' hw=>hw σ H' h' ⟨rfl,fun _ _=>rfl⟩
def zAug (i:Nat) (f:Int→Int→Int) (fe:SD→R Vl):SD→R Fl:=fun s=>match s.sl[i]? with
 | some (some (.d (.int m)))=>(fe s).bind fun b s1=>match b with
  | .d (.int n)=> .ok .nx {s1 with sl:=s1.sl.set i (some (.d (.int (f m n))))}
  | _=> .bad
 | _=> .bad
theorem aaq {i:Nat} {te:TE} {f:Int→Int→Int} {fe:SD→R Vl} (he:RE G W te fe):RS G W (tAug i te (ipI f)) (zAug i f fe):=by
 intro E σ τ H s θ D hN hR hw
 unfold zAug at hw
 split at hw
 ·rename_i m e
  obtain ⟨p,rfl,hl,h⟩:=hR
  obtain ⟨hs,u,e1,r⟩:=h.slot e
  obtain rfl:u= .int m:=r
  rw [List.getElem?_append_left (by rw [hl]; exact aq e)] at e1
  rw [ae] at hw
  refine ⟨.int m,e1,he E σ τ p.H s θ _ hN ⟨p,rfl,hl,h⟩ (hw.mono (fun b s1 hw y H1 h1=>?_) fun _ _ _ h=>h)⟩
  split at hw
  ·rename_i n
   obtain ⟨p1,rfl,r1⟩:=h1.last
   obtain rfl:y= .int n:=r1
   refine ⟨m,n,rfl,rfl,hw _ _ ?_⟩
   exact (h1.pop.push (x:= .int (f m n)) (v:= .int (f m n)) fun _=>rfl).store hN fun j q=>nomatch q
  ·exact hw.elim
 ·exact hw.elim
theorem zf {X:Cx} {K:PySem.W.Frag} (hK:X.K=K:=by rfl):PGet X (rIxL K):=by
 subst hK
 intro pins s σ H x y v u Q I rx ry h
 obtain ⟨p,xs,i,z,rfl,rfl,hq,he,q⟩:=h
 cases rx
 obtain ⟨t,rfl⟩:=ry
 obtain ⟨its,r,pl,hz⟩:=I.list hq
 obtain ⟨j,h1,h2,h3,h4,h5⟩:=atI_get he
 obtain ⟨w,ew,rw'⟩:=r.get h2
 have hl:=r.length
 have hn:=line63
 have fin:EP X pins σ Q w s:=⟨z,H,I,rw',q⟩
 by_cases h0:0≤i
 ·have hj:i.toNat=j:=by
   rw [seqIndex_of h0 h5] at h1
   exact Option.some.inj h1
  exact wpAny_getItem_list pl.isList h0 (by omega) (by rw [hj]; simpa using ew) fin
 ·have hj:(i+(its.toArray.size:Int)).toNat=j:=by
   rw [seqIndex_neg (by omega) h4] at h1
   rw [List.size_toArray,←hl]
   exact Option.some.inj h1
  exact wpAny_getItem_list_neg pl.isList (by omega) (by rw [List.size_toArray]<;> omega) (by omega) (by rw [hj]; simpa using ew) fin
noncomputable def gD (c z:D):Option Int:=match c,z.key with
 | .dct ks,some k=>match mZ ks k with
  | some (.int m)=>some m
  | _=>none
 | _,_=>none
def gL (c z:D):Option Int:=match c,z with
 | .lst ds, .int k=>match atI ds k with
  | some (.int m)=>some m
  | _=>none
 | _,_=>none
noncomputable def wj (g:D→D→Option Int) (st:D→D→D→Option D) (f:Int→Int→Int) (fo fi fe:SD→R Vl):SD→R Fl:=fun s=>((fo s).bind fun o s1=>(fi s1).bind fun i s2=>match i,s2.cont o with
 | .d z,some c=>match g c z,D.sc z with
  | some m,some _=>(fe s2).bind fun b s3=>match b with
   | .d (.int n)=>stO (st (.int (f m n))) o (.d z) s3
   | _=> .bad
  | _,_=> .bad
 | _,_=> .bad).bind fun _ s4=> .ok .nx s4
theorem aug_go {st:D→D→D→Option D} {f:Int→Int→Int} {r:V→V→V→Hp→(Hp→Prop)→Prop} {fe:SD→R Vl} {te:TE} {D0:Ends} {Q:V→Hp→Prop} {o i:V} {a:Vl} {z:D} {m:Int} {iv:V} (hr:StOk G r st) (he:RE G W te fe) (hN:Nl θ) (h:Rel G E σ (τ++ [o]++ [i]) H s (θ++ [a]++ [.d z])) (hz:z.sc=some iv)
  (hw:Wp ((fe s).bind fun b s3=>match b with
   | .d (.int n)=>stO (st (.int (f m n))) a (.d z) s3
   | _=> .bad) (fun _ s4=>∀σ' H',Rel G E σ' τ H' s4 θ→D0.nx σ' H') (XP G W E τ θ))
  (k:∀n H4,r o i (.int (f m n)) H4 (fun H6=>D0.nx σ H6)→Q (.int n) H4):te σ H Q:=by
 have hi:i=iv:=by
  obtain ⟨p,_,r⟩:=h.last
  exact eU r hz
 subst hi
 refine RE.next (v:=o) (a:=a) he hN h.pop hw fun b s2 y H2 h2 hw=>?_
 split at hw
 ·rename_i n
  obtain ⟨p1,_,r1⟩:=h2.last
  obtain rfl:y= .int n:=r1
  refine k n H2 ?_
  have h3:=h2.pop
  have h5:=(h3.push (x:= .int (f m n)) (v:= .int (f m n)) fun _=>rfl).swap (by have:=h3.tlen; simpa using this)
  exact st_go hr (h5.push (x:=z) (v:=i) fun _=>yi hz) hw fun s' H' h' hw=>hw σ H' h'
 ·exact hw.elim
theorem sc_cont {z:D} {iv:V} (e:z.sc=some iv):s.cont (.d z)=some z:=by cases z<;> first | rfl | cases e
theorem RS.laug {td ty tv:TE} {fo fi fv:SD→R Vl} {f:Int→Int→Int} (ho:RE G W td fo) (hi:RE G W ty fi) (hv:RE G W tv fv):RS G W (tAugS td ty tv (rIxL G.K) (ipI f) rSetL) (wj gL gA f fo fi fv):=by
 intro E σ τ H s θ D hN hR hw
 unfold wj at hw
 rw [ae] at hw
 refine RE.two (Q:=fun o i H2=>rIxL G.K o i H2 fun x H3=>tv σ H3 fun y H4=>ipI f x y H4 fun z H5=>rSetL o i z H5 fun H6=>D.nx σ H6) ho hi hN hR hw fun a b s2 o i H2 h2 hw=>?_
 split at hw
 ·rename_i z c e1
  split at hw
  ·rename_i m iv e2 e3
   have h2' :=h2
   obtain ⟨p,rfl,hl,h⟩:=h2.unsnoc
   rw [List.map_append,List.map_append,←List.append_assoc,←List.append_assoc] at h
   obtain ⟨h0,ca,cb⟩:=eJ hl h
   unfold gL at e2
   split at e2
   ·rename_i ds k
    split at e2
    ·rename_i m' e5
     cases e2
     obtain ⟨b,vs,rfl,hb,r⟩:=(ca _ e1).lst
     obtain ⟨w,e6,rw⟩:=ly r e5
     obtain rfl:w= .int m:=rw
     obtain rfl:=(cb _ (sc_cont e3)).int
     exact ⟨b,vs,k, .int m,rfl,rfl, .of hb,e6,aug_go (D0:=D) (r:=rSetL) h_setL hv hN h2' e3 hw fun n H4 q=>⟨m,n,rfl,rfl,q⟩⟩
    ·cases e2
   ·cases e2
  ·exact hw.elim
 ·exact hw.elim
end
section
variable {X:Cx}
def rSlZ (K:PySem.W.Frag):V→Option Int→Option Int→Hp→VK→Prop:=fun x lo hi H Q=>rSlL K x lo hi H Q∨rSlS x lo hi H Q∨rSlT K x lo hi H Q
theorem AQ {K:PySem.W.Frag} (hK:X.K=K:=by rfl):SlR X (rSlZ K):=SlR.or (m_slL hK) (SlR.or sl_str (hK ▸ sl_tup))
def tLk (t:TE):TE:=fun σ H Q=>t σ H fun x H1=>∃d u,x= .ref d∧((H1 d=some u∧Mut (some u)∧∀od,Q x (upd H1 d (.frz od u)))∨∃od,H1 d=some (.frz od u)∧Q x H1)
end
section
variable {G:Gc} {W:WX} {E:En} {σ:L2.St} {τ τ2:List V} {H:Hp} {s s' :SD} {θ θ2:List Vl} {v u:V} {a b:Vl} {x y:D} {p:Wr} {Q:VK} {m:Nat} {w w' :List (Option V)} {ŵ ŵ' :List (Option Vl)} {S:Sto} {k:Nat}
def RO (G:Gc) (W:WX) (t:TO) (fe:SD→R (Option Int)):Prop:=∀(E:En) (σ:L2.St) (τ:List V) (H:Hp) (s:SD) (θ:List Vl) (Q:Option Int→Hp→Prop),Nl θ→Rel G E σ τ H s θ→
 Wp (fe s) (fun b s' =>∀H',Rel G E σ τ H' s' θ→Q b H') (XP G W E τ θ)→t σ H Q
def zNo:SD→R (Option Int):=fun s=> .ok none s
def zPt (fa:SD→R Vl):SD→R (Option Int):=fun s=>(fa s).bind fun a s1=>match a with
 | .d (.int i)=> .ok (some i) s1
 | _=> .bad
theorem RO.no:RO G W tNoPart zNo:=fun _ _ _ _ _ _ _ _ hR hw=>hw _ hR
theorem RO.part {te:TE} {fa:SD→R Vl} (ha:RE G W te fa):RO G W (tPart te) (zPt fa):=by
 intro E σ τ H s θ Q hN hR hw
 unfold zPt at hw
 rw [ae] at hw
 refine ha E σ τ H s θ _ hN hR (hw.mono (fun a s1 hw v H1 h1=>?_) fun _ _ _ h=>h)
 split at hw
 ·rename_i i
  obtain ⟨p,_,r⟩:=h1.last
  exact ⟨i,r,hw _ h1.pop⟩
 ·exact hw.elim
def cutD (ds:List D) (lo hi:Option Int):List D:=(ds.drop (HT.sIx ds.length 0 lo)).take (HT.sIx ds.length ds.length hi - HT.sIx ds.length 0 lo)
theorem uF {ds:List D} {vs:List V} {lo hi:Option Int} (r:Reps G p ds vs):Reps G p (cutD ds lo hi) (cutV vs lo hi):=by
 unfold cutD cutV
 rw [r.len]
 exact (r.drop _).take _
noncomputable def oSl (a:Vl) (lo hi:Option Int) (s:SD):R Vl:=match s.cont a with
 | some (.lst ds)=> .ok (.own (.lst (cutD ds lo hi))) s
 | some (.con ds)=> .ok (.own (.lst (cutD ds lo hi))) s
 | some (.str z)=>if z.length≤sizeLine then .ok (.d (.str (cutS z lo hi))) s else .bad
 | some (.tup ds)=>if¬(HT.sIx ds.length 0 lo=0∧HT.sIx ds.length ds.length hi=ds.length) then .ok (.d (.tup (cutD ds lo hi))) s else .bad
 | _=> .bad
noncomputable def zSl (fa:SD→R Vl) (fl fh:SD→R (Option Int)):SD→R Vl:=fun s=>(fa s).bind fun a s1=>(fl s1).bind fun lo s2=>(fh s2).bind fun hi s3=>oSl a lo hi s3
theorem RE.sl {te:TE} {tl th:TO} {fa:SD→R Vl} {fl fh:SD→R (Option Int)} (ha:RE G W te fa) (hl:RO G W tl fl) (hh:RO G W th fh):RE G W (tSl (rSlZ G.K) te tl th) (zSl fa fl fh):=by
 intro E σ τ H s θ Q hN hR hw
 unfold zSl at hw
 rw [ae] at hw
 refine ha E σ τ H s θ _ hN hR (hw.mono (fun a s1 hw v H1 h1=>?_) fun _ _ _ h=>h)
 rw [ae] at hw
 have fin:∀{lo hi:Option Int} {s3:SD} {H3:Hp},Rel G E σ (τ++ [v]) H3 s3 (θ++ [a])→Wp (oSl a lo hi s3) (fun a s' =>∀v H',Rel G E σ (τ++ [v]) H' s' (θ++ [a])→Q v H') (XP G W E τ θ)→rSlZ G.K v lo hi H3 Q:=fun {lo hi s3 H3} h3 hw=>by
  obtain ⟨p,rfl,hl,h⟩:=h3.unsnoc
  obtain ⟨h0,ca,_⟩:=dq hl h
  unfold oSl at hw
  split at hw
  ·rename_i e
   obtain ⟨b,vs,rfl,hb,r⟩:=(ca _ e).lst
   exact .inl ⟨b,vs,rfl, .of hb,fun l hn=>dC h0 hl hw hn (uF r)⟩
  ·rename_i e
   obtain ⟨b,vs,rfl,hb,r⟩:=(ca _ e).con
   exact .inl ⟨b,vs,rfl,hb,fun l hn=>dC h0 hl hw hn (uF r)⟩
  ·rename_i e
   obtain rfl:=(ca _ e).str
   split at hw
   ·rename_i hz
    exact .inr (.inl ⟨_,rfl,hz,bA h0 hl hw rfl⟩)
   ·exact hw.elim
  ·rename_i e
   obtain ⟨b,vs,rfl,hb,r⟩:=(ca _ e).tup
   split at hw
   ·rename_i hz
    exact .inr (.inr ⟨b,vs,rfl, .of hb,by rw [r.len]; exact hz,fun l hn=>ui h0 hl hw hn (uF r)⟩)
   ·exact hw.elim
  ·exact hw.elim
 by_cases c:∃j,a= .loc j
 ·obtain ⟨j,rfl⟩:=c
  obtain ⟨c1,c2⟩:=h1.unloc
  refine hl E σ τ H1 s1 θ _ hN h1.pop (hw.mono (fun lo s2 hw H2 h2=>?_) fun _ _ _ h=>h)
  rw [ae] at hw
  exact hh E σ τ H2 s2 θ _ hN h2 (hw.mono (fun hi s3 hw H3 h3=>fin (h3.reloc c2) hw) fun _ _ _ h=>h)
 ·refine hl E σ _ H1 s1 _ _ (hN.snoc fun j q=>c ⟨j,q⟩) h1 (hw.mono (fun lo s2 hw H2 h2=>?_) fun _ _ _ h=>h.up)
  rw [ae] at hw
  exact hh E σ _ H2 s2 _ _ (hN.snoc fun j q=>c ⟨j,q⟩) h2 (hw.mono (fun hi s3 hw H3 h3=>fin h3 hw) fun _ _ _ h=>h.up)
noncomputable def oRevL (a:Vl) (s:SD):R Vl:=match s.cont a with
 | some (.lst ds)=> .ok (.own (.lst ds.reverse)) s
 | _=> .bad
def rStep (K:PySem.W.Frag):R2:=fun x y H Q=>∃i,y= .int i∧∃a xs,x= .ref a∧(i=1∨i= -1)∧SqL K H a xs∧∀p,H p=none→Q (.ref p) (upd H p (.lst (if i=1 then xs else xs.reverse)))
noncomputable def oStep (a b:Vl) (s:SD):R Vl:=match s.cont a,s.cont b with
 | some (.lst ds),some (.int i)=>if i=1 then .ok (.own (.lst ds)) s else if i= -1 then .ok (.own (.lst ds.reverse)) s else .bad
 | _,_=> .bad
def RP (G:Gc) (W:WX) (trs:List (TE×TE)) (fp:SD→R (List (Key×D))):Prop:=∀(E:En) (σ:L2.St) (τ:List V) (H:Hp) (s:SD) (θ:List Vl) (Q:List (V×V)→Hp→Prop),Nl θ→Rel G E σ τ H s θ→
 Wp (fp s) (fun ks s' =>∀(vs:List V) H',Rel G E σ (τ++vs) H' s' (θ++ks.map fun kv=> .d kv.2)→vs.length=ks.length→Q ((ks.map fun kv=>kV kv.1).zip vs) H') (XP G W E τ θ)→tPairs trs σ H Q
def zP0:SD→R (List (Key×D)):=fun s=> .ok [] s
def zP (k:Key) (fv:SD→R Vl) (fp:SD→R (List (Key×D))):SD→R (List (Key×D)):=fun s=>(fv s).bind fun a s1=>(s1.fix a).bind fun x s2=>(fp s2).bind fun ks s3=> .ok ((k,x)::ks) s3
theorem RP.nil:RP G W [] zP0:=fun _ _ τ H _ θ Q _ hR hw=>hw [] H (by simpa using hR) rfl
theorem RP.cons {k:Key} {tv:TE} {fv:SD→R Vl} {trs:List (TE×TE)} {fp:SD→R (List (Key×D))} (hv:RE G W tv fv) (hp:RP G W trs fp):RP G W ((tC (kV k),tv)::trs) (zP k fv fp):=by
 intro E σ τ H s θ Q hN hR hw
 unfold zP at hw
 refine RE.fix hv E σ τ H s θ _ hN hR ?_
 unfold aG wh
 rw [ae] at hw ⊢
 refine hw.mono (fun v0 s0 hw=>?_) fun _ _ _ h=>h
 rw [ae] at hw ⊢
 refine hw.mono (fun x s1 hw=>?_) fun _ _ _ h=>h
 intro v H1 h1
 rw [ae] at hw
 refine hp E σ _ H1 s1 _ _ hN.d h1 (hw.mono (fun ks s3 hw vs H2 h2 hl=>?_) fun _ _ _ h=>h.up)
 exact hw (v::vs) H2 (by simpa using h2) (by simp [hl])
def AH (fp:SD→R (List (Key×D))):SD→R Vl:=fun s=>(fp s).bind fun ks s1=>if ks.length≤15 then .ok (.own (.dct (jq ks))) s1 else .bad
theorem RepK.zip:∀{ks:List (Key×D)} {vs:List V},Reps G p (ks.map (·.2)) vs→RepK G p ks ((ks.map (·.1)).zip vs)
 | [],vs,h=>by rw [show vs= [] from h]; exact rfl
 | (k,d)::ks,vs,h=>by
  obtain ⟨v,r,rfl,h1,h2⟩:=h
  exact ⟨v,_,rfl,h1,RepK.zip h2⟩
theorem uS:∀(ks:List (Key×D)) (vs:List V),(ks.map fun kv=>kV kv.1).zip vs=((ks.map (·.1)).zip vs).map fun kv=>(kV kv.1,kv.2)
 | [],_=>rfl
 | _::_,[]=>rfl
 | k::ks,v::vs=>by
  rw [List.map_cons,List.map_cons,List.zip_cons_cons,List.zip_cons_cons,List.map_cons,uS ks vs]
theorem RE.disp {trs:List (TE×TE)} {fp:SD→R (List (Key×D))} (hp:RP G W trs fp):RE G W (tDisp trs) (AH fp):=by
 intro E σ τ H s θ Q hN hR hw D0 hD
 unfold AH at hw
 rw [ae] at hw
 have ht:=hR.tlen
 have h1:Rel G E σ (τ++ [.ref D0]) (upd H D0 (.dK [])) s (θ++ [.own (.dct [])]):=by
  obtain ⟨p,rfl,hl,h⟩:=hR
  exact .snoc (h.allocOwn hD ⟨[],upd_same,rfl⟩) hl rfl
 refine hp E σ _ _ s _ _ (hN.snoc (a:= .own (.dct [])) fun j q=>nomatch q) h1 (hw.mono (fun ks s1 hw vs H2 h2 hl2=>?_) fun _ _ _ h=>h.up)
 split at hw
 ·rename_i hz
  have h2' :Rel G E σ ((τ++ [.ref D0])++vs) H2 s1 ((θ++ [.own (.dct [])])++(ks.map (·.2)).map .d):=by rw [List.map_map]; exact h2
  obtain ⟨p,rfl,hl,h,r⟩:=h2'.args (by simp [ht])
  rw [List.map_append,List.map_append,←List.append_assoc,←List.append_assoc] at h
  have ll:=aP h.len
  have q1:((s1.sl++θ.map some)++List.map some [Vl.own (.dct [])])[(s1.sl++θ.map some).length]? =some (some (.own (.dct []))):=ai
  have q2:((σ++τ.map some)++List.map some [V.ref D0])[(s1.sl++θ.map some).length]? =some (some (.ref D0)):=by rw [←ll]; exact ai
  obtain ⟨u,e2,D1,e3,vs0,e4,r4⟩:=h.ent _ _ q1
  rw [q2] at e2
  cases e2
  cases e3
  obtain rfl:vs0= []:=r4
  have o1:=(h.own _ _ _ q1 q2).1
  have l' :=gV (p:=p) (o:= .dK (mergeK [] ((ks.map (·.1)).zip vs))) o1
  have h3:=h.write (y:= .dct (jq ks)) (o:= .dK (mergeK [] ((ks.map (·.1)).zip vs))) q1 q2 ⟨_,upd_same,RepK.merge (RepK.zip (r.mono l')) rfl⟩
  rw [show ((s1.sl++θ.map some)++List.map some [Vl.own (.dct [])]).set (s1.sl++θ.map some).length (some (.own (.dct (jq ks))))=(s1.sl++θ.map some)++ [some (.own (.dct (jq ks)))] from gO] at h3
  refine ⟨e4,(ks.map (·.1)).zip vs, ?_, ?_,hw _ _ (.snoc h3 hl rfl)⟩
  ·exact uS ks vs
  ·simp; omega
 ·exact hw.elim
def En.lk (E:En) (d:Addr) (o:HO):En:= {E with W:= {E.W with H:=upd E.W.H d o},S:= {E.S with get:=fun i=>if E.W.γ i=d then none else E.S.get i}}
theorem Sm.toLk {d:Addr} {od:Obj} {kvs:List (Key×V)} (h:Sm G E m p w ŵ S) (hd:p.H d=some (.frz od (.dK kvs))) (hn:¬p.O d):Sm G (E.lk d (.frz od (.dK kvs))) m p w ŵ S∧EnLe G E (E.lk d (.frz od (.dK kvs))):=by
 have sg:∀{i:Nat} {d0:D},(E.lk d (.frz od (.dK kvs))).S.get i=some d0→E.S.get i=some d0∧E.W.γ i≠d:=fun {i d0} e=>by
  have e:(if E.W.γ i=d then none else E.S.get i)=some d0:=e
  split at e
  ·cases e
  ·rename_i c; exact ⟨e,c⟩
 have gs:∀{i:Nat} {d0:D},E.S.get i=some d0→E.W.γ i≠d→(E.lk d (.frz od (.dK kvs))).S.get i=some d0:=fun {i d0} e c=>by
  show (if E.W.γ i=d then none else E.S.get i)=some d0
  rw [if_neg c]; exact e
 have hH:∀{b:Addr},b≠d→(E.lk d (.frz od (.dK kvs))).W.H b=E.W.H b:=fun c=>upd_ne c
 have hdd:(E.lk d (.frz od (.dK kvs))).W.H d=some (.frz od (.dK kvs)):=upd_same
 constructor
 ·refine {h with nx:=h.nx,ebd:=fun i d0 e=>h.ebd i d0 (sg e).1,old:=h.old,born:=fun i d0 e=>?_,frm:=h.frm,kp:=fun b o e n=>?_,sub:=fun b o e=>?_,grw:=fun b o e n=>?_,own:=fun k x b q1 q2=>?_}
  ·have hO:p.γ i≠d:=fun z=>hn (z ▸ (h.cel i d0 e).1)
   rcases h.born i d0 e with ⟨d1,b1⟩ | b1
   ·left
    exact ⟨d1,gs b1 (by rw [←h.old i (h.ebd i d1 b1)]; exact hO)⟩
   ·right
    rw [hH hO]; exact b1
  ·by_cases c:b=d
   ·subst c
    rw [hdd] at e
    cases e
    exact ⟨fun f=>hd, .inl hd⟩
   ·rw [hH c] at e
    exact h.kp b o e fun i d0 q z=>n i d0 (gs q (by rw [←z]; exact c)) z
  ·by_cases c:b=d
   ·subst c; exact ⟨_,hd⟩
   ·rw [hH c] at e; exact h.sub b o e
  ·by_cases c:b=d
   ·subst c; exact hn
   ·rw [hH c] at e; exact h.grw b o e n
  ·have q:=h.own k x b q1 q2
   refine ⟨q.1, ?_,q.2.2.1,q.2.2.2⟩
   rw [hH fun z=>hn (z ▸ q.1)]
   exact q.2.1
 ·intro m' p' w' ŵ' S' h'
  have f0:p'.H d=some (.frz od (.dK kvs)):=by
   rcases (h'.kp d _ hdd fun i d0 q z=>(sg q).2 z.symm).2 with k | ⟨_,_,k,_⟩
   ·exact k
   ·cases k
  refine {h' with nx:=h'.nx,ebd:=h.ebd,old:=h'.old,born:=fun i d0 e=>?_,frm:=h'.frm,kp:=fun b o e n=>?_,sub:=fun b o e=>?_,grw:=fun b o e n=>?_,own:=fun k x b q1 q2=>?_}
  ·rcases h'.born i d0 e with ⟨d1,b1⟩ | b1
   ·exact .inl ⟨d1,(sg b1).1⟩
   ·have c:p'.γ i≠d:=fun z=>by rw [z,hdd] at b1; cases b1
    right
    rw [hH c] at b1; exact b1
  ·by_cases c:b=d
   ·subst c
    obtain ⟨k1,k2⟩:=h.kp b o e n
    refine ⟨fun f=>by rw [f0,←hd]; exact k1 f,by rw [f0,←hd]; exact k2⟩
   ·exact h'.kp b o (by rw [hH c]; exact e) fun i d0 q z=>n i d0 (sg q).1 z
  ·by_cases c:b=d
   ·subst c; exact ⟨_,f0⟩
   ·exact h'.sub b o (by rw [hH c]; exact e)
  ·by_cases c:b=d
   ·subst c; exact h'.grw b _ hdd n
   ·exact h'.grw b o (by rw [hH c]; exact e) n
  ·have q:=h'.own k x b q1 q2
   refine ⟨q.1, ?_,q.2.2.1,q.2.2.2⟩
   by_cases c:b=d
   ·subst c
    have:=q.2.1
    rw [hdd] at this; cases this
   ·rw [←hH c]; exact q.2.1
theorem En.lk_at {d:Addr} {od:Obj} {kvs:List (Key×V)} (h:Sm G (E.lk d (.frz od (.dK kvs))) m p w ŵ S):p.H d=some (.frz od (.dK kvs)):=by
 have hdd:(E.lk d (.frz od (.dK kvs))).W.H d=some (.frz od (.dK kvs)):=upd_same
 have k0:=(h.kp d _ hdd fun i d0 q z=>by
  have q:(if E.W.γ i=d then none else E.S.get i)=some d0:=q
  have z:d=E.W.γ i:=z
  rw [if_pos z.symm] at q; cases q).2
 rcases k0 with k | ⟨_,_,k,_⟩
 ·exact k
 ·cases k
inductive Wk where
 | keys | vals | items
def Wk.it:Wk→Addr→Obj→List (Key×V)→It
 | .keys=>Itk
 | .vals=>Itd
 | .items=>Iti
def Wk.ds:Wk→List (Key×D)→List D
 | .keys,ks=>ks.map fun kv=>wD kv.1
 | .vals,ks=>ks.map (·.2)
 | .items,ks=>ks.map fun kv=> .tup [wD kv.1,kv.2]
def iWk (wk:Wk) (td:TE):TI:=fun σ H R=>tLk td σ H fun x H1=>∃d o kvs,x= .ref d∧H1 d=some (.frz o (.dK kvs))∧R (wk.it d o kvs) H1
def su (wk:Wk) (fa:SD→R Vl):SD→R Src:=fun s=>(aG fa s).bind fun a s1=>match a with
 | .d (.dct ks)=> .ok ⟨[.d (.dct ks)],fun _=>True,wk.ds ks⟩ s1
 | _=> .bad
theorem RepK.at {ks:List (Key×D)} {vs:List (Key×V)} {i:Nat} (r:RepK G p ks vs) {k:Key} {z:V} (e:vs[i]? =some (k,z)):∃d,ks[i]? =some (k,d)∧Rep G p d z:=by
 have hl:i<ks.length:=by rw [←r.len]; exact aq e
 have e1:(vs.map (·.1))[i]? =some k:=by rw [List.getElem?_map,e]; rfl
 rw [r.keys,List.getElem?_map,List.getElem?_eq_getElem hl] at e1
 have e2:(vs.map (·.2))[i]? =some z:=by rw [List.getElem?_map,e]; rfl
 have e3:(ks.map (·.2))[i]? =some ks[i].2:=by rw [List.getElem?_map,List.getElem?_eq_getElem hl]; rfl
 refine ⟨ks[i].2, ?_,r.vals.at e3 e2⟩
 rw [List.getElem?_eq_getElem hl]
 congr 1
 exact Prod.ext (Option.some.inj e1) rfl
theorem RI.walkG {wk:Wk} {I:V→Hp→(It→Hp→Prop)→Prop} (hI:∀d o kvs H1 R,H1 d=some (.frz o (.dK kvs))→R (wk.it d o kvs) H1→I (.ref d) H1 R) {td:TE} {fa:SD→R Vl} (ha:RE G W td fa):RI G W (fun σ H R=>tLk td σ H fun x H1=>I x H1 R) (su wk fa):=by
 intro E σ τ H s θ Q hN hR hw
 unfold su at hw
 rw [ae] at hw
 refine RE.fix ha E σ τ H s θ _ hN hR (hw.mono (fun a s1 hw v H1 h1=>?_) fun _ _ _ h=>h)
 split at hw
 ·rename_i ks
  have h1' :=h1
  obtain ⟨p,rfl,hl,h⟩:=h1.unsnoc
  obtain ⟨h0,_,a,vs,rfl,⟨hn,hd⟩,r⟩:=dq hl h
  have fin:∀{od:Obj} {p' :Wr},p.le p'→p'.H a=some (.frz od (.dK vs))→¬p'.O a→Sm G E s1.sl.length p' ((σ++τ.map some)++ [some (.ref a)]) ((s1.sl++θ.map some)++ [some (.d (.dct ks))]) s1.st→Q (wk.it a od vs) p'.H:=fun {od p'} le hd hn h=>by
   obtain ⟨h2,el⟩:=h.toLk hd hn
   refine hw [.ref a] _ _ _ el rfl (.snoc h2 hl rfl) fun i σ τ τ2 θ θ2 H s ht ht2 h ok=>?_
   obtain ⟨p2,rfl,hl2,hS,ca⟩:=h.at1 ht
   have hf:=En.lk_at hS
   have r2:RepK G p2 ks vs:=by
    obtain ⟨b,vs',e,hb,r'⟩:=(ca _ rfl).dct
    cases e
    rcases hb with hb | ⟨_,hb⟩
    ·rw [hf] at hb; cases hb
    ·rw [hf] at hb; cases hb; exact r'
   have len:=r2.len
   have dl:(wk.ds ks).length=ks.length:=by cases wk<;> simp [Wk.ds]
   refine ⟨fun d e=>?_,fun e=>?_⟩
   ·have hi:i<vs.length:=by rw [len,←dl]; exact aq e
    have hi' :i<ks.length:=by omega
    cases wk with
    | keys=>
     refine ⟨⟨hf,hi⟩,fun x H' y=>?_⟩
     obtain ⟨rfl,k,z,e1,rfl⟩:=y
     obtain ⟨d',e2,_⟩:=r2.at e1
     have e:(ks.map fun kv=>wD kv.1)[i]? =some d:=e
     rw [List.getElem?_map,e2] at e
     cases e
     exact .snoc (hS.push pS) hl2 rfl
    | vals=>
     refine ⟨⟨hf,hi⟩,fun x H' y=>?_⟩
     obtain ⟨rfl,k,e1⟩:=y
     obtain ⟨d',e2,r3⟩:=r2.at e1
     have e:(ks.map (·.2))[i]? =some d:=e
     rw [List.getElem?_map,e2] at e
     cases e
     exact .snoc (hS.push r3) hl2 rfl
    | items=>
     refine ⟨⟨hf,hi⟩,fun x H' y=>?_⟩
     obtain ⟨T,k,z,e1,rfl,hT,rfl⟩:=y
     obtain ⟨d',e2,r3⟩:=r2.at e1
     have e:(ks.map fun kv=>D.tup [wD kv.1,kv.2])[i]? =some d:=e
     rw [List.getElem?_map,e2] at e
     cases e
     exact .snoc ((hS.alloc hT).push (x:= .tup [wD k,d']) ⟨T,_,rfl,⟨(hS.fresh hT).2,upd_same⟩,_,_,rfl,pS,_,_,rfl,r3.mono (dP hT),rfl⟩) hl2 rfl
   ·have hi:vs.length≤i:=by rw [len,←dl]; exact List.getElem?_eq_none_iff.mp e
    cases wk with
    | keys=>exact ⟨hf,hi⟩
    | vals=>exact ⟨hf,hi⟩
    | items=>exact ⟨hf,hi⟩
  rcases hd with hd | ⟨od,hd⟩
  ·refine ⟨a, .dK vs,rfl, .inl ⟨hd,True.intro,fun od=>hI _ _ _ _ _ upd_same ?_⟩⟩
   have q:=h.lock (od:=od) hd hn
   exact fin (p' := {p with H:=upd p.H a (.frz od (.dK vs))}) ⟨fun _ _=>rfl,Nat.le_refl _,fun b o n e=>⟨by
    by_cases c:b=a
    ·subst c
     rw [hd] at e; cases e
     exact .inr ⟨vs,od,rfl,upd_same⟩
    ·exact .inl (by show upd _ _ _ _=_; rw [upd_ne c]; exact e),n⟩⟩ upd_same hn q
  ·exact ⟨a, .dK vs,rfl, .inr ⟨od,hd,hI _ _ _ _ _ hd (fin (.refl p) hd hn h)⟩⟩
 ·exact hw.elim
theorem RI.keys {td:TE} {fa:SD→R Vl} (ha:RE G W td fa):RI G W (iKeys (tLk td)) (su .keys fa):=RI.walkG (wk:= .keys) (fun d o kvs H1 R h1 h2=>⟨d,o,rfl, .inl ⟨kvs,h1,h2⟩⟩) ha
end
inductive Ty1 where
 | int | bool | str | list | tuple | dict
def Ty1.nm:Ty1→String
 | .int=> "int" | .bool=> "bool" | .str=> "str" | .list=> "list" | .tuple=> "tuple" | .dict=> "dict"
def D.knd:D→Option String
 | .non=>some "NoneType" | .bl _=>some "bool" | .int _=>some "int" | .str _=>some "str" | .lst _=>some "list" | .con _=>some "list" | .tup _=>some "tuple" | .dct _=>some "dict"
 | _=>none
def isT:Ty1→D→Bool
 | .int, .int _=>true
 | .int, .bl _=>true
 | .bool, .bl _=>true
 | .str, .str _=>true
 | .list, .lst _=>true
 | .list, .con _=>true
 | .tuple, .tup _=>true
 | .dict, .dct _=>true
 | _,_=>false
theorem kit_tab:∀t:Ty1,kitB "NoneType" t.nm=some false∧kitB "bool" t.nm=some (match t with | .int=>true | .bool=>true | _=>false)∧kitB "int" t.nm=some (match t with | .int=>true | _=>false)∧kitB "str" t.nm=some (match t with | .str=>true | _=>false)∧
  kitB "list" t.nm=some (match t with | .list=>true | _=>false)∧kitB "tuple" t.nm=some (match t with | .tuple=>true | _=>false)∧kitB "dict" t.nm=some (match t with | .dict=>true | _=>false):=by
 intro t
 cases t<;> decide+kernel
section
variable {G:Gc} {W:WX} {E:En} {σ:L2.St} {τ τ2:List V} {H:Hp} {s s' :SD} {θ θ2:List Vl} {v u:V} {a b:Vl} {x y:D} {p:Wr} {Q:VK} {w:List (Option V)} {k:Nat} {is:List Nat}
theorem yV {k:String} (h:Cont G p x v) (e:x.knd=some k):TyX G.K p.H v (.type k):=by
 cases x with
 | non=>cases e; obtain rfl:v= .non:=h.sc rfl; exact .base .non
 | bl b=>cases e; obtain rfl:=h.bl; exact .base (.bl b)
 | int i=>cases e; obtain rfl:=h.int; exact .base (.int i)
 | str z=>cases e; obtain rfl:=h.str; exact .base (.str z)
 | lst ds=>cases e; obtain ⟨b,vs,rfl,hb,r⟩:=h.lst; exact .base (.lst hb)
 | con ds=>cases e; obtain ⟨b,vs,rfl,(hb | ⟨o,hb⟩) | ⟨o,its,n,lk,cl,_⟩,r⟩:=h.con; exact .base (.lst hb); exact .base (.frz hb); exact .kList lk cl
 | tup ds=>cases e; obtain ⟨b,vs,rfl,hb,r⟩:=h.tup; exact .base (.tup hb)
 | dct ds=>cases e; obtain ⟨b,vs,rfl,hb | ⟨o,hb⟩,r⟩:=h.dct; exact .base (.dK hb); exact .fDict hb
 | obj c fs=>cases e
 | exc c fs=>cases e
 | cell i=>cases e
theorem knd_is {k:String} (t:Ty1) (e:x.knd=some k):kitB k t.nm=some (isT t x):=by
 obtain ⟨h1,h2,h3,h4,h5,h6,h7⟩:=kit_tab t
 cases x<;> cases e<;> cases t<;> first | exact h1 | exact h2 | exact h3 | exact h4 | exact h5 | exact h6 | exact h7
def qY (t:Ty1) (a:Vl) (s:SD):R Vl:=match s.cont a with
 | some x=>match x.knd with
  | some _=> .ok (.d (.bl (isT t x))) s
  | none=> .bad
 | none=> .bad
theorem RE.isi {t:Ty1} {ta:TE} {fa:SD→R Vl} (ha:RE G W ta fa):RE G W (tCB (rIsi G.K) (tCons ta (tCons (tC (.ty t.nm)) tNil))) (z1 (qY t) fa):=by
 refine RE.op1 (r:=fun v H Q=>rIsi G.K [v, .ty t.nm] H Q) ?_ ?_ ha
 ·intro E σ τ s θ p v a Q hl h hw
  obtain ⟨h0,ca,_⟩:=dq hl h
  unfold qY at hw
  split at hw
  ·rename_i x e
   split at hw
   ·rename_i k e1
    exact ⟨v, .ty t.nm, .type k, .type t.nm,isT t x,rfl, .ty _,yV (ca _ e) e1,kit_ty (knd_is t e1),bA h0 hl hw rfl⟩
   ·exact hw.elim
  ·exact hw.elim
 ·intro a s c fs s'
  unfold qY
  split
  ·split<;> (intro q; cases q)
  ·intro q; cases q
structure IsOk (G:Gc) (C:Addr) (f:Str→Option Bool) (kd:Bool):Prop where
 own:∀c b C',f c=some b→G.mg c=some (.ref C')→C8.InsC G.K C'∧PySem.W.kitOne G.K (.ref C') (.ref C)=some b
 kd:kd=true→∀k∈ ["NoneType","bool","int","str","list","tuple","dict"],PySem.W.kitOne G.K (.type k) (.ref C)=some false
noncomputable def vx (f:Str→Option Bool) (kd:Bool) (a:Vl) (s:SD):R Vl:=match s.cont a with
 | some (.obj c _)=>match f c with
  | some b=> .ok (.d (.bl b)) s
  | none=> .bad
 | some x=>match x.knd with
  | some _=>if kd=true then .ok (.d (.bl false)) s else .bad
  | none=> .bad
 | none=> .bad
theorem RE.isC {C:Addr} {f:Str→Option Bool} {kd:Bool} {ta:TE} {fa:SD→R Vl} (hc:IsOk G C f kd) (ha:RE G W ta fa):RE G W (tCB (rIsi G.K) (tCons ta (tCons (tC (.ref C)) tNil))) (z1 (vx f kd) fa):=by
 refine RE.op1 (r:=fun v H Q=>rIsi G.K [v, .ref C] H Q) ?_ ?_ ha
 ·intro E σ τ s θ p v a Q hl h hw
  obtain ⟨h0,ca,_⟩:=dq hl h
  unfold vx at hw
  split at hw
  ·rename_i c fs e
   split at hw
   ·rename_i b e1
    obtain ⟨a',C',dx,vs,rfl,hm,hb,r⟩:=(ca _ e).obj
    obtain ⟨i,k⟩:=hc.own c b C' e1 hm
    exact ⟨_,_, .ref C', .ref C,b,rfl, .own C, .base (.ins hb i.cl i.ha i.hn i.htk i.hm),k,bA h0 hl hw rfl⟩
   ·exact hw.elim
  ·rename_i x _ e
   split at hw
   ·rename_i k e1
    split at hw
    ·rename_i hk
     refine ⟨_,_, .type k, .ref C,false,rfl, .own C,yV (ca _ e) e1,hc.kd hk k ?_,bA h0 hl hw rfl⟩
     cases x<;> cases e1<;> simp
    ·exact hw.elim
   ·exact hw.elim
  ·exact hw.elim
 ·intro a s c fs s'
  unfold vx
  split
  ·split<;> (intro q; cases q)
  ·split
   ·split<;> (intro q; cases q)
   ·intro q; cases q
  ·intro q; cases q
def isDc (s:SD) (a:Vl):Bool:=match s.cont a with
 | some (.dct _)=>true
 | _=>false
theorem isDc_ok (h:isDc s a=true) (c:∀x,s.cont a=some x→Cont G p x v):∃b,v= .ref b∧IsD p.H b:=by
 unfold isDc at h
 split at h
 ·rename_i e
  obtain ⟨b,vs,rfl,hb,_⟩:=(c _ e).dct
  exact ⟨b,rfl, .inl ⟨vs,hb⟩⟩
 ·cases h
def ur (c z:D):Option (D×D):=match c,z.key with
 | .dct ks,some k=>match mZ ks k with
  | some t=>some (.dct (wH ks k),t)
  | none=>none
 | _,_=>none
theorem RE.dpop {td ty:TE} {fo fi:SD→R Vl} (ho:RE G W td fo) (hi:RE G W ty fi):RE G W (tDPop1 td ty) (zM2 isDc (oB2 ur) fo fi):=by
 intro E σ τ H s θ Q hN hR hw
 unfold zM2 at hw
 rw [ae] at hw
 refine ho E σ τ H s θ _ hN hR (hw.mono (fun a s1 hw v H1 h1=>?_) fun _ _ _ h=>h)
 split at hw
 ·rename_i c
  have h0:=h1
  obtain ⟨p,rfl,hl,h⟩:=h1.unsnoc
  obtain ⟨b,rfl,hD⟩:=isDc_ok c (dq hl h).2.1
  refine ⟨b,rfl,hD, ?_⟩
  refine RE.next (Q:=fun y H2=>∃kvs k v,H2 b=some (.dK kvs)∧y=kV k∧valV kvs k=some v∧Q v (upd H2 b (.dK (dropK kvs k)))) hi hN h0 hw fun i s2 u H2 h2 hw=>?_
  obtain ⟨p,rfl,hl,h⟩:=h2.unsnoc
  rw [List.map_append,List.map_append,←List.append_assoc,←List.append_assoc] at h
  have pr:cX G (fun x y H Q=>∀b,x= .ref b→∃kvs k v,H b=some (.dK kvs)∧y=kV k∧valV kvs k=some v∧Q v (upd H b (.dK (dropK kvs k)))) (oB2 ur):=qS fun p c z y t b u Q e ho r=>by
   unfold ur at e
   split at e
   ·rename_i ks k e1
    split at e
    ·rename_i t' e2
     cases e
     obtain ⟨vs,e3,r3⟩:=ho
     obtain ⟨w,e4,r4⟩:=r3.val.1 _ e2
     have e5:=kh r e1
     exact ⟨_,w,r4,fun le=>⟨_,upd_same,r3.drop.mono le⟩,fun q b' e6=>by cases e6; exact ⟨vs,k,w,e3,e5,e4,q⟩⟩
    ·cases e
   ·cases e
  refine pr E σ τ s2 θ p _ u a i Q hl h ?_ b rfl
  cases e:oB2 ur a i s2 with
  | ok b s2=>rw [e] at hw; exact hw
  | ex c fs s2=>exact (qZ _ _ _ _ _ _ e).elim
  | bad=>rw [e] at hw; exact hw
 ·exact hw.elim
noncomputable def zGet2 (fo fi fx:SD→R Vl):SD→R Vl:=fun s=>(fo s).bind fun a s1=>if isDc s1 a=true then (fi s1).bind fun i s2=>match i with
 | .d z=>match D.sc z with
  | some _=>(fx s2).bind fun b s3=>match b,s3.cont a,z.key with
   | .d x,some (.dct ks),some k=> .ok (.d ((mZ ks k).getD x)) s3
   | _,_,_=> .bad
  | none=> .bad
 | _=> .bad
 else .bad
def uC:List D→Option (List Str)
 | []=>some []
 | .str z::ds=>match uC ds with
  | some zs=>some (z::zs)
  | none=>none
 | _=>none
theorem rS:∀{ds:List D} {vs:List V} {is:List Str},Reps G p ds vs→uC ds=some is→vs=is.map V.str
 | [],vs,is,h,e=>by cases e; exact h
 | d::ds,vs,is,h,e=>by
  obtain ⟨v,r,rfl,h1,h2⟩:=h
  unfold uC at e
  split at e
  ·rename_i heq; cases heq
  ·rename_i heq
   cases heq
   split at e
   ·rename_i e1
    cases e
    rw [List.map_cons,rS h2 e1,show v= .str _ from h1]
   ·cases e
  ·cases e
theorem xO {is:List Str}:Reps G p (is.map D.str) (is.map V.str):=by
 induction is with
 | nil=>rfl
 | cons i is ih=>exact ⟨_,_,rfl,rfl,ih⟩
def isS (a:Vl):Bool:=match a with
 | .d (.str _)=>true
 | _=>false
def zM1s (f:Vl→Vl→SD→R Vl) (fa fb:SD→R Vl):SD→R Vl:=fun s=>(fa s).bind fun a s1=>if isS a=true then (fb s1).bind fun b s2=>f a b s2 else .bad
theorem RE.m1 {r:V→List V→Hp→VK→Prop} {f:Vl→Vl→SD→R Vl} {ta tb:TE} {fa fb:SD→R Vl} (hp:cX G (fun x y H Q=>r x [y] H Q) f) (nx:∀a b s c fs s',f a b s≠ .ex c fs s') (ha:RE G W ta fa) (hb:RE G W tb fb):RE G W (tM1 r ta tb) (zM1s f fa fb):=by
 intro E σ τ H s θ Q hN hR hw
 unfold zM1s at hw
 rw [ae] at hw
 refine ha E σ τ H s θ _ hN hR (hw.mono (fun a s1 hw v H1 h1=>?_) fun _ _ _ h=>h)
 split at hw
 ·rename_i c
  have hv:∃z,v= .str z:=by
   unfold isS at c
   split at c
   ·rename_i z
    obtain ⟨p,_,r⟩:=h1.last
    exact ⟨z,r⟩
   ·cases c
  refine ⟨hv, ?_⟩
  refine RE.next (Q:=fun u H2=>r v [u] H2 Q) hb hN h1 hw fun b s2 u H2 h2 hw=>?_
  obtain ⟨p,rfl,hl,h⟩:=h2.unsnoc
  rw [List.map_append,List.map_append,←List.append_assoc,←List.append_assoc] at h
  refine hp E σ τ s2 θ p v u a b Q hl h ?_
  cases e:f a b s2 with
  | ok b s2=>rw [e] at hw; exact hw
  | ex c fs s2=>exact (nx _ _ _ _ _ _ e).elim
  | bad=>rw [e] at hw; exact hw
 ·exact hw.elim
noncomputable def qX (a b:Vl) (s:SD):R Vl:=match s.cont a,s.cont b with
 | some (.str z),some (.lst ds)=>match uC ds with
  | some ys=>if (ys.map (·.length)).sum+ys.length*z.length≤16777216 then .ok (.d (.str (Txt.join z ys))) s else .bad
  | none=> .bad
 | _,_=> .bad
theorem p_join:cX G (fun x y H Q=>∃a p,∃ys:List Str,x= .str a∧ [y]= [.ref p]∧(SqL G.K H p (ys.map V.str)∨SqT G.K H p (ys.map V.str))∧(ys.map (·.length)).sum+ys.length*a.length≤16777216∧Q (.str (Txt.join a ys)) H) qX:=by
 intro E σ τ s θ p v u a b Q hl h hw
 obtain ⟨h0,ca,cb⟩:=eJ hl h
 unfold qX at hw
 split at hw
 ·rename_i e1 e2
  split at hw
  ·rename_i ys e3
   split at hw
   ·rename_i hz
    obtain rfl:=(ca _ e1).str
    obtain ⟨b,vs,rfl,hb,r⟩:=(cb _ e2).lst
    obtain rfl:=rS r e3
    exact ⟨_,b,ys,rfl,rfl, .inl (.of hb),hz,bA h0 hl hw rfl⟩
   ·exact hw.elim
  ·exact hw.elim
 ·exact hw.elim
theorem Ba:∀(a b:Vl) (s:SD) c fs s',qX a b s≠ .ex c fs s' :=by
 intro a b s c fs s'
 unfold qX
 split
 ·split
  ·split<;> (intro q; cases q)
  ·intro q; cases q
 ·intro q; cases q
def sj:List D→List D→List D
 | x::xs,y::ys=> .tup [x,y]::sj xs ys
 | _,_=> []
theorem kU:∀{xs ys:List D} {i:Nat},(sj xs ys)[i]? =match xs[i]?,ys[i]? with
  | some x,some y=>some (.tup [x,y])
  | _,_=>none
 | [],ys,i=>by simp [sj]
 | x::xs,[],i=>by simp [sj]
 | x::xs,y::ys,0=>rfl
 | x::xs,y::ys,i+1=>by
  simp only [sj,List.getElem?_cons_succ]
  exact kU
noncomputable def Ay (fa fb:SD→R Vl):SD→R Src:=fun s=>(aG fa s).bind fun a s1=>(aG fb s1).bind fun b s2=>match s2.cont a,s2.cont b with
 | some (.lst xs),some (.lst ys)=> .ok ⟨[a,b],fun s=>s.cont a=some (.lst xs)∧s.cont b=some (.lst ys),sj xs ys⟩ s2
 | _,_=> .bad
theorem RI.zip {ta tb:TE} {fa fb:SD→R Vl} (ha:RE G W ta fa) (hb:RE G W tb fb):RI G W (iZip G.K (tCons ta (tCons tb tNil))) (Ay fa fb):=by
 intro E σ τ H s θ Q hN hR hw
 unfold Ay at hw
 refine RE.two (f:=fun a b s2=>match s2.cont a,s2.cont b with
  | some (.lst xs),some (.lst ys)=> .ok (⟨[a,b],fun s=>s.cont a=some (.lst xs)∧s.cont b=some (.lst ys),sj xs ys⟩:Src) s2
  | _,_=> .bad) (Q:=fun x y H2=>∃a b xs ys,[x,y]= [.ref a, .ref b]∧SqL G.K H2 a xs∧SqL G.K H2 b ys∧Q (Itz G.K a b) H2) (RE.fix ha) (RE.fix hb) hN hR hw fun a b s2 v u H2 h2 hw=>?_
 have h3:=h2
 obtain ⟨p,rfl,hl,h⟩:=h2.unsnoc
 rw [List.map_append,List.map_append,←List.append_assoc,←List.append_assoc] at h
 obtain ⟨h0,ca,cb⟩:=eJ hl h
 split at hw
 ·rename_i xs ys e1 e2
  obtain ⟨a1,vs,rfl,ha1,r1⟩:=(ca _ e1).lst
  obtain ⟨b1,us,rfl,hb1,r2⟩:=(cb _ e2).lst
  refine ⟨a1,b1,vs,us,rfl, .of ha1, .of hb1,hw [.ref a1, .ref b1] _ _ E (fun _ _ _ _ _ h=>h) rfl (by simpa using h3) fun i σ τ τ2 θ θ2 H s ht ht2 h ok=>?_⟩
  have e3:τ++ [V.ref a1, .ref b1]++τ2=τ++ [V.ref a1]++([V.ref b1]++τ2):=by simp
  have e4:θ++ [a,b]++θ2=θ++ [a]++([b]++θ2):=by simp
  have e5:τ++ [V.ref a1, .ref b1]++τ2=(τ++ [.ref a1])++ [.ref b1]++τ2:=by simp
  have e6:θ++ [a,b]++θ2=(θ++ [a])++ [b]++θ2:=by simp
  have hA:=h
  obtain ⟨p',rfl,hl',hS⟩:=h
  have c1:∀x,s.cont a=some x→Cont G p' x (.ref a1):=fun x c=>by
   have q1:σ++(τ++ [V.ref a1, .ref b1]++τ2).map some=(σ++τ.map some)++some (.ref a1)::some (.ref b1)::τ2.map some:=by simp
   have q2:s.sl++(θ++ [a,b]++θ2).map some=(s.sl++θ.map some)++some a::some b::θ2.map some:=by simp
   have hL:(σ++τ.map some).length=(s.sl++θ.map some).length:=by simp [hl',ht]
   refine hS.cont rfl (k:=(s.sl++θ.map some).length) ?_ ?_ c
   ·rw [q2,List.getElem?_append_right (Nat.le_refl _)]; simp
   ·rw [q1,←hL,List.getElem?_append_right (Nat.le_refl _)]; simp
  have c2:∀x,s.cont b=some x→Cont G p' x (.ref b1):=fun x c=>by
   have q1:σ++(τ++ [V.ref a1, .ref b1]++τ2).map some=(σ++(τ++ [V.ref a1]).map some)++some (.ref b1)::τ2.map some:=by simp
   have q2:s.sl++(θ++ [a,b]++θ2).map some=(s.sl++(θ++ [a]).map some)++some b::θ2.map some:=by simp
   have hL:(σ++(τ++ [V.ref a1]).map some).length=(s.sl++(θ++ [a]).map some).length:=by simp [hl',ht]
   refine hS.cont rfl (k:=(s.sl++(θ++ [a]).map some).length) ?_ ?_ c
   ·rw [q2,List.getElem?_append_right (Nat.le_refl _)]; simp
   ·rw [q1,←hL,List.getElem?_append_right (Nat.le_refl _)]; simp
  obtain ⟨_,vs',e7,ha2,r3⟩:=(c1 _ ok.1).lst
  cases e7
  obtain ⟨_,us',e8,hb2,r4⟩:=(c2 _ ok.2).lst
  cases e8
  refine ⟨fun d e=>?_,fun e=>?_⟩
  ·have e:(sj xs ys)[i]? =some d:=e
   rw [kU] at e
   split at e
   ·rename_i x y ex ey
    cases e
    obtain ⟨v1,f1,g1⟩:=r3.get ex
    obtain ⟨v2,f2,g2⟩:=r4.get ey
    refine ⟨⟨vs',us',v1,v2, .of ha2, .of hb2,f1,f2⟩,fun q H' yl=>?_⟩
    obtain ⟨T,z1,z2,rfl,hT,rfl,y1,y2⟩:=yl
    have e9:=y1 vs' (.of ha2)
    rw [f1] at e9; cases e9
    have e10:=y2 us' (.of hb2)
    rw [f2] at e10; cases e10
    exact .snoc ((hS.alloc hT).push (x:= .tup [x,y]) ⟨T,_,rfl,⟨(hS.fresh hT).2,upd_same⟩,_,_,rfl,g1.mono (dP hT),_,_,rfl,g2.mono (dP hT),rfl⟩) hl' rfl
   ·cases e
  ·have e:(sj xs ys)[i]? =none:=e
   rw [kU] at e
   refine ⟨vs',us', .of ha2, .of hb2, ?_⟩
   cases ex:xs[i]? with
   | none=>exact .inl (List.getElem?_eq_none_iff.mp (r3.none ex))
   | some x=>
    cases ey:ys[i]? with
    | none=>exact .inr (List.getElem?_eq_none_iff.mp (r4.none ey))
    | some y=>rw [ex,ey] at e; cases e
 ·exact hw.elim
def zPar3 (i j l:Nat) (fr:SD→R (List D)):SD→R Fl:=fun s=>(fr s).bind fun ds s1=>match ds with
 | [x,y,z]=> .ok .nx {s1 with sl:=dg [i,j,l] [x,y,z] s1.sl}
 | _=> .bad
end
structure Op2 (G:Gc) (r:R2) (f:Vl→Vl→SD→R Vl):Prop where
 p:cX G r f
 nx:∀a b s c fs s',f a b s≠ .ex c fs s'
structure Op1 (G:Gc) (r:V→Hp→VK→Prop) (f:Vl→SD→R Vl):Prop where
 p:kT G r f
 nx:∀a s c fs s',f a s≠ .ex c fs s'
section
variable {G:Gc} {W:WX}
theorem di:Op2 G (rAddZ G.K) cA:=⟨p_add,by intros; unfold cA; (repeat' split)<;> (intro q; cases q)⟩
theorem wy:Op2 G (rI0 fun i j=> .int (i - j)) sq:=⟨p_sub,by intros; unfold sq; (repeat' split)<;> (intro q; cases q)⟩
theorem jX:Op2 G rMulZ kA:=⟨p_mul,by intros; unfold kA; (repeat' split)<;> (intro q; cases q)⟩
theorem cL:Op2 G (rI (fun _ j=>0<j) fun i j=> .int (i%j)) cM:=⟨p_mod,by intros; unfold cM; (repeat' split)<;> (intro q; cases q)⟩
theorem eV:Op2 G (rI CDivW fun i j=> .int (i / j)) dy:=⟨p_div,by intros; unfold dy; (repeat' split)<;> (intro q; cases q)⟩
theorem yr:Op2 G (rI qt fun i j=> .int (i ^ j.toNat)) AB:=⟨p_pow,by intros; unfold AB; (repeat' split)<;> (intro q; cases q)⟩
theorem q_xor:Op2 G (rI0 fun i j=> .int (Builtin.bitXor i j)) oXor:=⟨p_xor,by intros; unfold oXor; (repeat' split)<;> (intro q; cases q)⟩
theorem yK {f:Int→Int→Bool}:∀a b s c fs s',Bb f a b s≠ .ex c fs s' :=by intros; unfold Bb; (repeat' split)<;> (intro q; cases q)
theorem q_lt:Op2 G (rI0 fun i j=> .bl (decide (i<j))) oLt:=⟨p_cmp,yK⟩
theorem q_le:Op2 G (rI0 fun i j=> .bl (decide (i≤j))) oLe:=⟨p_cmp,yK⟩
theorem q_gt:Op2 G (rI0 fun i j=> .bl (decide (i > j))) oGt:=⟨p_cmp,yK⟩
theorem mU:Op2 G (rEqZ G.K) oEq:=⟨p_eq,by intros; unfold oEq; (repeat' split)<;> (intro q; cases q)⟩
theorem yt:Op2 G (rNeZ G.K) oNe:=⟨p_ne,by intros; unfold oNe; (repeat' split)<;> (intro q; cases q)⟩
theorem qu {neg:Bool}:Op2 G (rInZ G.K neg) (oIn neg):=⟨p_in,by intros; unfold oIn; (repeat' split)<;> (intro q; cases q)⟩
theorem cU:Op2 G (rIxZ G.K) oIx:=⟨p_ix,by intros; unfold oIx; (repeat' split)<;> (intro q; cases q)⟩
theorem oS {neg:Bool}:Op2 G (rIsZ neg) (kB neg):=⟨p_isN,by intros; unfold kB; (repeat' split)<;> (intro q; cases q)⟩
theorem dh:Op1 G (fun v H Q=>rLenZ G.K [v] H Q) de:=⟨p_len,by intros; unfold de; (repeat' split)<;> (intro q; cases q)⟩
theorem nq:Op1 G (fun v H Q=>vn G.K [v] H Q) kb:=⟨p_list,by intros; unfold kb; (repeat' split)<;> (intro q; cases q)⟩
theorem q_dict:Op1 G (fun v H Q=>yq G.K [v] H Q) tF:=⟨p_dict,by intros; unfold tF; (repeat' split)<;> (intro q; cases q)⟩
theorem A1:Op1 G (fun v H Q=>oR G.K [v] H Q) iH:=⟨A5,by intros; unfold iH; (repeat' split)<;> (intro q; cases q)⟩
theorem q_all:Op1 G (fun v H Q=>rAll G.K [v] H Q) oAll:=⟨p_all,by intros; unfold oAll; (repeat' split)<;> (intro q; cases q)⟩
theorem aac {r:R2} {f:Vl→Vl→SD→R Vl} {ta tb:TE} {fa fb:SD→R Vl} (h:Op2 G r f) (ha:RE G W ta fa) (hb:RE G W tb fb):RE G W (tOp r ta tb) (z2 f fa fb):=RE.op2 h.p h.nx ha hb
theorem RE.c1 {r:List V→Hp→VK→Prop} {f:Vl→SD→R Vl} {ta:TE} {fa:SD→R Vl} (h:Op1 G (fun v H Q=>r [v] H Q) f) (ha:RE G W ta fa):RE G W (tCB r (tCons ta tNil)) (z1 f fa):=RE.cb1 h.p h.nx ha
theorem RE.c2 {r:List V→Hp→VK→Prop} {f:Vl→Vl→SD→R Vl} {ta tb:TE} {fa fb:SD→R Vl} (h:Op2 G (fun v u H Q=>r [v,u] H Q) f) (ha:RE G W ta fa) (hb:RE G W tb fb):RE G W (tCB r (tCons ta (tCons tb tNil))) (z2 f fa fb):=RE.cb2 h.p h.nx ha hb
def neg1 (f:Vl→SD→R Vl):SD→Vl→R Vl:=fun s a=>f a s
theorem RE.append {ta tb:TE} {fa fb:SD→R Vl} (ha:RE G W ta fa) (hb:RE G W tb fb):RE G W (tBM G.K "list" rAppend ta (tCons tb tNil)) (zM2 isL (oB2 aE) fa (aG fb)):=RE.bm nA (qS Bq) qZ ha (RE.fix hb)
theorem RE.extend {ta tb:TE} {fa fb:SD→R Vl} (ha:RE G W ta fa) (hb:RE G W tb fb):RE G W (tBM G.K "list" rExtend ta (tCons tb tNil)) (zM2 isL (oB2 iJ) fa (aG fb)):=RE.bm nA (qS Bp) qZ ha (RE.fix hb)
theorem RE.pop {ta:TE} {fa:SD→R Vl} (ha:RE G W ta fa):RE G W (tBM0 G.K "list" rPop ta) (z1 (oB1 fPop) fa):=RE.bm0 (p_lm0 h_pop fun c y h=>by unfold fPop at h; split at h; exact ⟨_,rfl⟩; cases h) yJ ha
theorem RE.reverse {ta:TE} {fa:SD→R Vl} (ha:RE G W ta fa):RE G W (tBM0 G.K "list" rReverse ta) (z1 (oB1 gW) fa):=RE.bm0 (p_lm0 ze fun c y h=>by unfold gW at h; split at h; exact ⟨_,rfl⟩; cases h) yJ ha
theorem RE.clear {ta:TE} {fa:SD→R Vl} (ha:RE G W ta fa):RE G W (tBM0 G.K "list" rClear ta) (z1 (oB1 rQ) fa):=RE.bm0 (p_lm0 h_clear fun c y h=>by unfold rQ at h; split at h; exact ⟨_,rfl⟩; cases h) yJ ha
theorem RE.join {ta tb:TE} {fa fb:SD→R Vl} (ha:RE G W ta fa) (hb:RE G W tb fb):RE G W (tM1 (fun x xs H Q=>∃a p,∃ys:List Str,x= .str a∧xs= [.ref p]∧(SqL G.K H p (ys.map V.str)∨SqT G.K H p (ys.map V.str))∧(ys.map (·.length)).sum+ys.length*a.length≤16777216∧Q (.str (Txt.join a ys)) H) ta tb) (zM1s qX fa fb):=
 RE.m1 p_join Ba ha hb
theorem aab {i:Int}:RE G W (tC (.int i)) (zC (.int i)):=RE.c fun _=>rfl
theorem aak {i:Str}:RE G W (tC (.str i)) (zC (.str i)):=RE.c fun _=>rfl
theorem aai {i:Bool}:RE G W (tC (.bl i)) (zC (.bl i)):=RE.c fun _=>rfl
theorem aaf:RE G W (tC .non) (zC .non):=RE.c fun _=>rfl
def qw (f g:Vl→Vl→SD→R Vl) (fa fb fc:SD→R Vl):SD→R Vl:=fun s=>(fa s).bind fun a s1=>(fb s1).bind fun b s2=>match b with
 | .d z=>match D.sc z with
  | some _=>(f a b s2).bind fun r s3=>match r with
   | .d (.bl true)=>(fc s3).bind fun c s4=>g (.d z) c s4
   | .d (.bl false)=> .ok (.d (.bl false)) s3
   | _=> .bad
  | none=> .bad
 | _=> .bad
theorem RE.chain {r r' :R2} {f g:Vl→Vl→SD→R Vl} {ta tb tc:TE} {fa fb fc:SD→R Vl} (hf:Op2 G r f) (hg:Op2 G r' g) (ha:RE G W ta fa) (hb:RE G W tb fb) (hc:RE G W tc fc):RE G W (tChain r r' ta tb tc) (qw f g fa fb fc):=by
 intro E σ τ H s θ Q hN hR hw
 unfold qw at hw
 refine RE.two (f:=fun a b s2=>match b with
  | .d z=>match D.sc z with
   | some _=>(f a b s2).bind fun r s3=>match r with
    | .d (.bl true)=>(fc s3).bind fun c s4=>g (.d z) c s4
    | .d (.bl false)=> .ok (.d (.bl false)) s3
    | _=> .bad
   | none=> .bad
  | _=> .bad) (Q:=fun x y H2=>r x y H2 fun z H3=>∃k,z= .bl k∧(if k=true then tc σ H3 fun w' H4=>r' y w' H4 Q else Q (.bl false) H3)) ha hb hN hR hw fun a b s2 v u H2 h2 hw=>?_
 split at hw
 ·rename_i z
  split at hw
  ·rename_i uv e1
   have hu:u=uv:=by
    obtain ⟨p,_,rr⟩:=h2.last
    exact eU rr e1
   subst hu
   obtain ⟨p,rfl,hl,h⟩:=h2.unsnoc
   rw [List.map_append,List.map_append,←List.append_assoc,←List.append_assoc] at h
   refine hf.p E σ τ s2 θ p v u a _ _ hl h ?_
   rw [ae] at hw
   cases e:f a (.d z) s2 with
   | bad=>rw [e] at hw; exact hw.elim
   | ex _ _ _=>exact (hf.nx _ _ _ _ _ _ e).elim
   | ok rv s3=>
    rw [e] at hw
    intro q H3 h3
    have hw:Wp (match rv with
     | .d (.bl true)=>(fc s3).bind fun c s4=>g (.d z) c s4
     | .d (.bl false)=> .ok (.d (.bl false)) s3
     | _=> .bad) (fun a s=>_) (fun c fs s=>_):=hw
    split at hw
    ·obtain ⟨p3,_,r3⟩:=h3.last
     obtain rfl:q= .bl true:=r3
     refine ⟨true,rfl, ?_⟩
     rw [if_pos rfl]
     have h4:=h3.pop.push (x:=z) (v:=u) fun _=>yi e1
     rw [ae] at hw
     refine hc E σ _ H3 s3 _ _ hN.d h4 (hw.mono (fun c s4 hw w' H4 h5=>?_) fun _ _ _ h=>h.up)
     obtain ⟨p,rfl,hl,h⟩:=h5.unsnoc
     rw [List.map_append,List.map_append,←List.append_assoc,←List.append_assoc] at h
     refine hg.p E σ τ s4 θ p u w' _ c Q hl h ?_
     cases e:g (.d z) c s4 with
     | ok b s2=>rw [e] at hw; exact hw
     | ex c fs s2=>exact (hg.nx _ _ _ _ _ _ e).elim
     | bad=>rw [e] at hw; exact hw
    ·obtain ⟨p3,_,r3⟩:=h3.last
     obtain rfl:q= .bl false:=r3
     refine ⟨false,rfl, ?_⟩
     rw [if_neg (by decide)]
     exact hw _ _ h3
    ·exact hw.elim
  ·exact hw.elim
 ·exact hw.elim
def fJ:SD→R Fl:=fun _=> .bad
theorem RS.never:RS G W tNever fJ:=fun _ _ _ _ _ _ _ _ _ hw=>hw.elim
def zPass:SD→R Fl:=aI
theorem my {f c:Str} {C:Addr} (hm:G.mg c=some (.ref C)) (hc:Cls G.K C) (hn:NoAttr G.K C f):dt G f [c]:=by
 intro c' h C' hm'
 obtain rfl:=List.mem_singleton.mp h
 rw [hm] at hm'; cases hm'
 exact ⟨hc,hn⟩
end
section
variable (P:Program) (w:World) (K:PySem.W.Frag) (mg:Str→Option Value) (base:Heap)
structure CalZ (k:Nat) (x:Str) (n:Nat) (F:FnV) (dvs:List V):Prop where
 ex:∃(f:Addr) (fd:FuncData) (ps:List Str) (ds:List Value),FnOk P w K mg base (L2.CX P w) k f fd ps (spF ⟨K,mg⟩ n F)∧mg x=some (.ref f)∧PySem.W.keepIn K (.ref f)=true∧Binds K fd ps ds∧Vals dvs ds
structure MetZ (k:Nat) (C:Addr) (m:Str) (n:Nat) (F:FnV) (dvs:List V):Prop where
 ex:∃(f:Addr) (fd:FuncData) (ps:List Str) (ds:List Value),Cls K C∧Meth K C m f∧FnOk P w K mg base (L2.CX P w) k f fd ps (spF ⟨K,mg⟩ n F)∧Binds K fd ps ds∧Vals dvs ds
structure MakZ (k:Nat) (x:Str) (C:Addr) (n:Nat) (F:FnV) (dvs:List V):Prop where
 ex:∃(f:Addr) (fd:FuncData) (ps:List Str) (ds:List Value),Mk K C f∧FnOk P w K mg base (L2.CX P w) k f fd ps (spF ⟨K,mg⟩ n F)∧mg x=some (.ref C)∧Binds K fd ps ds∧Vals dvs ds
end
section
variable {P:Program} {w:World} {K:PySem.W.Frag} {mg:Str→Option Value} {base:Heap}
structure DfZ (K:PySem.W.Frag) (mg:Str→Option Value) (x:Str) (st:Stmt) (ps:List Str) (dvs:List V):Prop where
 ex:∃(f:Addr) (fd:FuncData),L2.FunD K x x (defArgs st) (defBody st) (defScope st) dvs [] f fd∧mg x=some (.ref f)∧PySem.W.keepIn K (.ref f)=true∧∀j,j≤dvs.length→∃ds,Vals (dvs.drop j) ds∧L2.Binds K fd ps ds
theorem calZ_of {x:Str} {st:Stmt} {N ps:List Str} {k n:Nat} {fz:SD→R Fl} (D:M.Df K mg x st ps) (S:FnScope N ps (L2.defScope st)) (hn:ps.length≤N.length) (hn2:n=ps.length)
  (hbody:∀(f:Addr) (cdv:Value) (A:Around) (outer:List Env) (s:Shared) (H:Hp) (E:XK),Room k (A.deeper (envOfC x (L2.defScope st) s.heap.objs.size f cdv))→
   ∃t,PSs (cxOf (L2.CX P w) P w K mg base N x (L2.defScope st) f cdv A outer s H E) (L2.defBody st) t∧RS ⟨K,mg⟩ (fun cls d _ H=>E cls d H) t fz):CalZ P w K mg base (k+1) x n (zFn N.length fz) []:=by
 obtain ⟨f,fd,F,hm,hb⟩:=D.ex
 subst hn2
 exact ⟨f,fd,ps,[],fnZ F S hn (fun cdv A outer s H E hr=>hbody f cdv A outer s H E hr),hm,F.kp,hb, .nil⟩
theorem metZ_of {C:Addr} {m qual:Str} {st:Stmt} {N ps:List Str} {k n:Nat} {fz:SD→R Fl} (D:M.Dm K C m qual st ps) (S:FnScope N ps (L2.defScope st)) (hn:ps.length≤N.length) (hn2:n=ps.length)
  (hbody:∀(f:Addr) (cdv:Value) (A:Around) (outer:List Env) (s:Shared) (H:Hp) (E:XK),Room k (A.deeper (envOfC qual (L2.defScope st) s.heap.objs.size f cdv))→
   ∃t,PSs (cxOf (L2.CX P w) P w K mg base N qual (L2.defScope st) f cdv A outer s H E) (L2.defBody st) t∧RS ⟨K,mg⟩ (fun cls d _ H=>E cls d H) t fz):MetZ P w K mg base (k+1) C m n (zFn N.length fz) []:=by
 obtain ⟨f,fd,F,c,me,b⟩:=D.ex
 subst hn2
 exact ⟨f,fd,ps,[],c,me,fnZ F S hn (fun cdv A outer s H E hr=>hbody f cdv A outer s H E hr),b, .nil⟩
theorem makZ_of {x qual:Str} {C:Addr} {st:Stmt} {N ps:List Str} {k n:Nat} {fz:SD→R Fl} (D:M.Dk K mg x C qual st ps) (S:FnScope N ps (L2.defScope st)) (hn:ps.length≤N.length) (hn2:n=ps.length)
  (hbody:∀(f:Addr) (cdv:Value) (A:Around) (outer:List Env) (s:Shared) (H:Hp) (E:XK),Room k (A.deeper (envOfC qual (L2.defScope st) s.heap.objs.size f cdv))→
   ∃t,PSs (cxOf (L2.CX P w) P w K mg base N qual (L2.defScope st) f cdv A outer s H E) (L2.defBody st) t∧RS ⟨K,mg⟩ (fun cls d _ H=>E cls d H) t fz):MakZ P w K mg base (k+1) x C n (zFn N.length fz) []:=by
 obtain ⟨f,fd,F,M,hm,b⟩:=D.ex
 subst hn2
 exact ⟨f,fd,ps,[],M,fnZ F S hn (fun cdv A outer s H E hr=>hbody f cdv A outer s H E hr),hm,b, .nil⟩
theorem Bf {C:Addr} {m qual:Str} {st:Stmt} {N ps:List Str} {dvs:List V} {k n:Nat} {fz:SD→R Fl} (D:M.Dmd K C m qual st ps dvs) (S:FnScope N ps (L2.defScope st)) (hn:ps.length≤N.length) (hn2:n=ps.length)
  (hbody:∀(f:Addr) (cdv:Value) (A:Around) (outer:List Env) (s:Shared) (H:Hp) (E:XK),Room k (A.deeper (envOfC qual (L2.defScope st) s.heap.objs.size f cdv))→
   ∃t,PSs (cxOf (L2.CX P w) P w K mg base N qual (L2.defScope st) f cdv A outer s H E) (L2.defBody st) t∧RS ⟨K,mg⟩ (fun cls d _ H=>E cls d H) t fz) (j:Nat) (hj:j≤dvs.length):MetZ P w K mg base (k+1) C m n (zFn N.length fz) (dvs.drop j):=by
 obtain ⟨f,fd,F,c,me,b⟩:=D.ex
 subst hn2
 obtain ⟨ds,hd,hb⟩:=b j hj
 refine ⟨f,fd,ps,ds,c,me, ?_,hb,hd⟩
 exact F.ok S xS fun cdv A outer s H vs Q E hr h=>by
  obtain ⟨t,h1,h2⟩:=hbody f cdv A outer s H E hr
  exact ⟨t,h1,oq h2 h hn⟩
end
section
variable {X:Cx} {W:WX} {k j n:Nat} {C:Addr} {x m:Str} {F:FnV} {dvs:List V} {p pos apos:Pos} {e o:Expr} {es:List Expr} {ta:TE} {t:TA}
theorem m_cZ (c:CalZ X.prog X.w X.K X.mg X.base k x n F dvs) (hr:Room j X.A) (hk:k≤j) (tk:Takes X W) (hg:Gl X x) (ha:PA X (e::es) t)
  (hdb:(x == ("__debug__" :Str))=false:=by decide) (he:starEach (e::es) X.env=(false,eval e X.env)::starEach es X.env:=by rfl) (hpl:(backTo pos (starEach es X.env)).any (·.1)=false:=by rfl):
  PE X (.Call (.Name x p) (e::es) [] pos) (tCallSD (spF ⟨X.K,X.mg⟩ n F) dvs (WE W) t):=by
 obtain ⟨f,fd,ps,ds,h,hm,kp,b,d⟩:=c.ex
 exact pe_callSD h (hr.mono hk) hg hm kp b d (fun σ=>passAt tk σ) ha hdb he hpl
theorem m_mkZ (c:MakZ X.prog X.w X.K X.mg X.base k x C n F dvs) (hr:Room j X.A) (hk:k+1≤j) (tk:Takes X W) (hg:Gl X x) (ha:PA X (e::es) t)
  (hdb:(x == ("__debug__" :Str))=false:=by decide) (he:starEach (e::es) X.env=(false,eval e X.env)::starEach es X.env:=by rfl) (hpl:(backTo pos (starEach es X.env)).any (·.1)=false:=by rfl):
  PE X (.Call (.Name x p) (e::es) [] pos) (sN C (spF ⟨X.K,X.mg⟩ n F) dvs (WE W) t):=by
 obtain ⟨f,fd,ps,ds,M,h,hm,b,d⟩:=c.ex
 exact pe_makS M h (hr.mono hk) hg hm b d (fun σ=>passAt tk σ) ha hdb he hpl
theorem m_mkZ0 (c:MakZ X.prog X.w X.K X.mg X.base k x C n F dvs) (hr:Room j X.A) (hk:k+1≤j) (tk:Takes X W) (hg:Gl X x)
  (hdb:(x == ("__debug__" :Str))=false:=by decide):PE X (.Call (.Name x p) [] [] pos) (sN C (spF ⟨X.K,X.mg⟩ n F) dvs (WE W) tNil):=by
 obtain ⟨f,fd,ps,ds,M,h,hm,b,d⟩:=c.ex
 exact A3 M h (hr.mono hk) hg hm b d (fun σ=>passAt tk σ) hdb
theorem dA {pl:Sem Bool} (c:MetZ X.prog X.w X.K X.mg X.base k C m n F dvs) (hr:Room j X.A) (hk:k≤j) (tk:Takes X W) (he:PE X o ta) (ha:PA X (e::es) t)
  (hst:starEach (e::es) X.env=(false,eval e X.env)::starEach es X.env:=by rfl) (hpl:(backTo pos (starEach es X.env)).any (·.1)=false:=by rfl)
  (ht:eval (.Call (.Attribute o m apos) (e::es) [] pos) X.env=(do
   let ov←eval o X.env
   standAt apos.atName
   let (f,first)←holding [ov] (getMethod ov m pl)
   callWith pos f first (backTo pos (starEach (e::es) X.env)) (backToKw pos (keywordEach [] X.env))):=by rfl):
  PE X (.Call (.Attribute o m apos) (e::es) [] pos) (nh C m (spF ⟨X.K,X.mg⟩ n F) dvs (WE W) ta t):=by
 obtain ⟨f,fd,ps,ds,cl,me,h,b,d⟩:=c.ex
 exact yz (pl:=pl) he cl me h (hr.mono hk) b d (fun σ=>passAt tk σ) ha hst hpl ht
theorem jf {pl:Sem Bool} (c:MetZ X.prog X.w X.K X.mg X.base k C m n F dvs) (hr:Room j X.A) (hk:k≤j) (tk:Takes X W) (he:PE X o ta)
  (ht:eval (.Call (.Attribute o m apos) [] [] pos) X.env=(do
   let ov←eval o X.env
   standAt apos.atName
   let (f,first)←holding [ov] (getMethod ov m pl)
   callWith pos f first (backTo pos (starEach [] X.env)) (backToKw pos (keywordEach [] X.env))):=by rfl):
  PE X (.Call (.Attribute o m apos) [] [] pos) (nh C m (spF ⟨X.K,X.mg⟩ n F) dvs (WE W) ta tNil):=by
 obtain ⟨f,fd,ps,ds,cl,me,h,b,d⟩:=c.ex
 exact wz (pl:=pl) he cl me h (hr.mono hk) b d (fun σ=>passAt tk σ) ht
theorem lK:Takes X WF:=fun _ _ ⟨_,_,_,_,_,_,_,_,_,_,_,_,_,_,_,_,w⟩=>w.elim
theorem m_fldZ {K:PySem.W.Frag} {f:Str} {ta:TE} (he:PE X e ta) (hb:attributeBase e f X.env (eval e X.env)=eval e X.env:=by rfl) (hK:X.K=K:=by rfl):PE X (.Attribute e f pos) (tFld K ta f):=hK ▸ pe_fld he hb
end
section
variable {G:Gc} {W:WX}
def AD (a:Vl) (s:SD):R Vl:=match s.cont a with
 | some (.int i)=> .ok (.d (.int (-i))) s
 | _=> .bad
theorem RE.neg {ta:TE} {fa:SD→R Vl} (ha:RE G W ta fa):RE G W (tUn (rU fun i=> .int (-i)) ta) (z1 AD fa):=by
 refine RE.op1 (r:=rU fun i=> .int (-i)) ?_ ?_ ha
 ·intro E σ τ s θ p v a Q hl h hw
  obtain ⟨h0,ca,_⟩:=dq hl h
  unfold AD at hw
  split at hw
  ·rename_i i e
   obtain rfl:=(ca _ e).int
   exact ⟨i,rfl,bA h0 hl hw rfl⟩
  ·exact hw.elim
 ·intro a s c fs s'
  unfold AD
  split<;> (intro q; cases q)
end
section
variable {X:Cx} {W:WX} {k j n:Nat} {C:Addr} {x m:Str} {F:FnV} {dvs:List V} {p pos apos:Pos} {e o:Expr} {es:List Expr} {ta:TE} {t:TA}
theorem m_cK {K:PySem.W.Frag} {mg:Str→Option Value} (c:CalZ X.prog X.w K mg X.base k x n F dvs) (hr:Room j X.A) (hk:k≤j) (tk:Takes X W) (hg:Gl X x) (ha:PA X (e::es) t)
  (hdb:(x == ("__debug__" :Str))=false:=by decide) (he:starEach (e::es) X.env=(false,eval e X.env)::starEach es X.env:=by rfl) (hpl:(backTo pos (starEach es X.env)).any (·.1)=false:=by rfl) (hK:X.K=K:=by rfl) (hM:X.mg=mg:=by rfl):
  PE X (.Call (.Name x p) (e::es) [] pos) (tCallSD (spF ⟨K,mg⟩ n F) dvs (WE W) t):=by
 subst hK
 subst hM
 exact m_cZ c hr hk tk hg ha hdb he hpl
theorem m_mkK {K:PySem.W.Frag} {mg:Str→Option Value} (c:MakZ X.prog X.w K mg X.base k x C n F dvs) (hr:Room j X.A) (hk:k+1≤j) (tk:Takes X W) (hg:Gl X x) (ha:PA X (e::es) t)
  (hdb:(x == ("__debug__" :Str))=false:=by decide) (he:starEach (e::es) X.env=(false,eval e X.env)::starEach es X.env:=by rfl) (hpl:(backTo pos (starEach es X.env)).any (·.1)=false:=by rfl) (hK:X.K=K:=by rfl) (hM:X.mg=mg:=by rfl):
  PE X (.Call (.Name x p) (e::es) [] pos) (sN C (spF ⟨K,mg⟩ n F) dvs (WE W) t):=by
 subst hK
 subst hM
 exact m_mkZ c hr hk tk hg ha hdb he hpl
theorem Bh {K:PySem.W.Frag} {mg:Str→Option Value} {pl:Sem Bool} (c:MetZ X.prog X.w K mg X.base k C m n F dvs) (hr:Room j X.A) (hk:k≤j) (tk:Takes X W) (he:PE X o ta) (ha:PA X (e::es) t)
  (hst:starEach (e::es) X.env=(false,eval e X.env)::starEach es X.env:=by rfl) (hpl:(backTo pos (starEach es X.env)).any (·.1)=false:=by rfl)
  (ht:eval (.Call (.Attribute o m apos) (e::es) [] pos) X.env=(do
   let ov←eval o X.env
   standAt apos.atName
   let (f,first)←holding [ov] (getMethod ov m pl)
   callWith pos f first (backTo pos (starEach (e::es) X.env)) (backToKw pos (keywordEach [] X.env))):=by rfl) (hK:X.K=K:=by rfl) (hM:X.mg=mg:=by rfl):
  PE X (.Call (.Attribute o m apos) (e::es) [] pos) (nh C m (spF ⟨K,mg⟩ n F) dvs (WE W) ta t):=by
 subst hK
 subst hM
 exact dA c hr hk tk he ha hst hpl ht
end
theorem kit_self {K:PySem.W.Frag} {a:Addr}:PySem.W.kitOne K (.ref a) (.ref a)=some true:=by
 unfold PySem.W.kitOne
 rw [if_pos]
 exact beq_self_eq_true _
section

end
section
variable {W:WX} {E:En} {H:Hp} {s:SD} {b:Vl} {p:Wr} {S:Sto} {i k:Nat} {is:List Nat} {ks:List (Key×D)}
def En.cl (E:En) (p:Wr) (nx:Nat) (d:Addr) (o:HO):En:= {F:=fun b=>E.F b∨b=d,W:= {γ:=p.γ,n:=E.W.n,O:=fun b=>E.W.O b∨b=d,H:=upd E.W.H d o},S:= {nx:=nx,get:=fun j=>if p.γ j=d then none else E.S.get j}}
noncomputable def zLcD (k:Nat) (fz:Vl→SD→R Unit) (ft:SD→R Bool) (fe:SD→R Vl) (is:List Nat):SD→R Vl:=fun s=>match s.sl[k]? with
 | some (some (.d (.cell i)))=>match s.st.get i with
  | some (.dct ks)=>(iT (fun _=>True) fz ft fe is (Wk.keys.ds ks) [] ((⟨s.sl,s.st.del i⟩:SD).wipe is)).nx.bind fun acc s2=> .ok (.own (.lst acc)) ⟨s2.sl,s2.st.put i (.dct ks)⟩
  | _=> .bad
 | _=>zLc (su .keys (aa k)) fz ft fe is s
noncomputable def zLcDE (fa:SD→R Vl) (fz:Vl→SD→R Unit) (ft:SD→R Bool) (fe:SD→R Vl) (is:List Nat):SD→R Vl:=fun s=>match fa s with
 | .ok (.d (.cell i)) _=>match s.st.get i with
  | some (.dct ks)=>if fa ⟨s.sl,s.st.del i⟩= .ok (.d (.cell i)) ⟨s.sl,s.st.del i⟩ then (iT (fun _=>True) fz ft fe is (Wk.keys.ds ks) [] ((⟨s.sl,s.st.del i⟩:SD).wipe is)).nx.bind fun acc s2=> .ok (.own (.lst acc)) ⟨s2.sl,s2.st.put i (.dct ks)⟩ else .bad
  | _=> .bad
 | _=>zLc (su .keys fa) fz ft fe is s
end
section

end
def zRaise0 (c:Str) (fa:SD→R Vl):SD→R Fl:=fun s=>(fa s).bind fun _ s1=> .ex c [] s1
def lA (c f:Str) (fa:SD→R Vl):SD→R Fl:=fun s=>(fa s).bind fun a s1=>(s1.fix a).bind fun x s2=> .ex c [(f,x)] s2
def zTry (m:Str→Option Bool) (i:Nat) (fb fs:SD→R Fl):SD→R Fl:=fun s=>match fb s with
 | .ex c vs s1=>(match m c with
  | some true=>(match fs {s1 with sl:=s1.sl.set i (some (.d (.exc c vs)))} with
   | .ok fl s2=> .ok fl (s2.wipe [i])
   | _=> .bad)
  | some false=> .ex c vs s1
  | none=> .bad)
 | r=>r
def oXf (ok:Str→Bool) (f:Str) (a:Vl) (s:SD):R Vl:=match s.cont a with
 | some (.exc c fs)=>if ok c=true then (match bO fs f with
  | some x=> .ok (.d x) s
  | none=> .bad) else .bad
 | _=> .bad
noncomputable def oIsX (m:Str→Option Bool) (kd:Bool) (a:Vl) (s:SD):R Vl:=match s.cont a with
 | some (.exc c _)=>(match m c with
  | some b=> .ok (.d (.bl b)) s
  | none=> .bad)
 | some x=>(match x.knd with
  | some _=>if kd=true then .ok (.d (.bl false)) s else .bad
  | none=> .bad)
 | none=> .bad
def qs (G:Gc) (cv:Value) (m:Str→Option Bool):Prop:=∀c b C,m c=some b→G.mg c=some (.ref C)→PySem.W.exmOne G.K (.ref C) cv=some b
def XfOk (G:Gc) (f:Str) (ok:Str→Bool):Prop:=∀c C,ok c=true→G.mg c=some (.ref C)→L2.XfC G.K C∧PySem.W.findIn G.K (.ref C) f=some none
structure IsXOk (G:Gc) (cv:V) (u:Value) (m:Str→Option Bool) (kd:Bool):Prop where
 cls:ClsV cv u
 own:∀c b C,m c=some b→G.mg c=some (.ref C)→L2.ExcC G.K C∧PySem.W.kitOne G.K (.ref C) u=some b
 kd:kd=true→∀k∈ ["NoneType","bool","int","str","list","tuple","dict"],PySem.W.kitOne G.K (.type k) u=some false
def rIsXZ (K:PySem.W.Frag):List V→Hp→VK→Prop:=fun xs H Q=>rIsX K xs H Q∨rIsi K xs H Q
section
variable {G:Gc} {W:WX} {E:En} {σ σ' :L2.St} {τ:List V} {H:Hp} {s s' :SD} {θ:List Vl} {v:V} {a b:Vl} {x:D} {p:Wr} {Q:VK} {i:Nat}
theorem m_isXZ {X:Cx} {K:PySem.W.Frag} (hK:X.K=K:=by rfl):CallR X (.builtin "isinstance") (rIsXZ K):=CallR.or (m_isX hK) (kN hK)
theorem Cont.exc {c:Str} {ds:List (Str×D)} (h:Cont G p (.exc c ds) v):Rep G p (.exc c ds) v:=h.sc rfl
theorem xF {H:Hp} {a dx:Addr} {o1 o2 o3 o4:HO} (ha:H a=none) (hne:dx≠a):upd (L2.del (upd (upd (upd H a o1) dx o2) a o3) a) dx o4=upd H dx o4:=by
 funext b
 by_cases h1:b=dx
 ·rw [h1,upd_same,upd_same]
 ·rw [upd_ne h1,upd_ne h1]
  by_cases h2:b=a
  ·rw [h2,L2.del_same,ha]
  ·rw [L2.del_ne h2,upd_ne h2,upd_ne h1,upd_ne h2]
theorem RS.raise1 {c f:Str} {C:Addr} {ta:TE} {fa:SD→R Vl} (hC:G.mg c=some (.ref C)) (T:OexC G.K C) (no:PySem.W.findIn G.K (.ref C) f=some none) (ha:RE G W ta fa):RS G W (xN G.K C f W ta) (lA c f fa):=by
 intro E σ τ H s θ D hN hR hw
 refine RE.fix ha E σ τ H s θ _ hN hR ?_
 unfold lA at hw
 unfold aG wh
 rw [ae] at hw ⊢
 refine hw.mono (fun a s1 hw=>?_) fun _ _ _ h=>h
 rw [ae] at hw ⊢
 refine hw.mono (fun x s2 hw=>?_) fun _ _ _ h=>h
 intro v H1 h1
 refine ⟨by show 1≤1000; omega,fun a ha1=>⟨a,C,v,rfl,upd_same,T,no,fun dx hdx hne=>⟨rfl,dx,[(f,v)],upd_same,(upd_ne hne).trans upd_same,(upd_ne hne).symm.trans hdx, ?_⟩⟩⟩
 have hd1:H1 dx=none:=(upd_ne hne).symm.trans hdx
 show W (.ref C) (some dx) σ _
 rw [xF ha1 hne]
 obtain ⟨p,rfl,hl,h⟩:=h1.unsnoc
 obtain ⟨q,_,r⟩:=h1.last
 obtain ⟨w,e,r⟩:=h.ent _ (.d x) ai
 rw [←aP h.len,ai] at e
 cases e
 exact hw _ _ σ _ ⟨{p with H:=upd p.H dx (.xd [(f,v)])},rfl,hl,(h.alloc hd1).pop1 (bZ hl),C,hC,rfl, .inr ⟨dx,[(f,v)],rfl,upd_same,(h.fresh hd1).2,v,[],rfl,Rep.mono (dP hd1) r,rfl⟩⟩
theorem RS.tryK {cv:Value} {m:Str→Option Bool} {tb:WX→TS} {ts:TS} {fb fs:SD→R Fl} (hm:qs G cv m) (hb:∀W',RS G W' (tb W') fb) (hs:RS G WF ts fs):RS G W (fun D σ H=>tb (wK G.K cv i ts W D) D σ H) (zTry m i fb fs):=by
 intro E σ τ H s θ D hN hR hw
 refine hb _ E σ τ H s θ D hN hR ?_
 unfold zTry at hw
 cases e:fb s with
 | ok fl s1=>rw [e] at hw; exact hw
 | bad=>rw [e] at hw; exact hw
 | ex c vs s1=>
  rw [e] at hw
  dsimp only at hw
  intro cls d σ' H' hx
  have hx0:=hx
  obtain ⟨p,rfl,hl,h,C,hC,rfl,xv⟩:=hx
  cases e1:m c with
  | none=>rw [e1] at hw; exact hw.elim
  | some b=>
   have hmb:=hm c b C e1 hC
   rw [e1] at hw
   cases b with
   | false=>exact ⟨false,hmb,(fun z=>nomatch z),fun _=>hw _ _ σ' _ hx0⟩
   | true=>
    refine ⟨true,hmb,fun _ a ha=>?_,fun z=>nomatch z⟩
    have q1:=h.alloc (o:=kxO (.ref C) d a) ha
    have rep:Rep G {p with H:=upd p.H a (kxO (.ref C) d a)} (.exc c vs) (.ref a):=by
     refine ⟨a,C,d,rfl,(h.fresh ha).2,hC,upd_same, ?_⟩
     rcases xv with ⟨e2,e3⟩ | ⟨da,fvs,e2,e3,e4,e5⟩
     ·exact .inl ⟨e2,e3⟩
     ·exact .inr ⟨da,fvs,e2,(upd_ne (ne_of_none e3 ha)).trans e3,e4,RepF.mono (dP ha) e5⟩
    have hR1:Rel G E (σ'.set i (some (.ref a))) τ (upd p.H a (kxO (.ref C) d a)) {s1 with sl:=s1.sl.set i (some (.d (.exc c vs)))} θ:=
     Rel.store (v:= .ref a) (a:= .d (.exc c vs)) (Rel.snoc (q1.push rep) hl rfl) hN fun j z=>nomatch z
    have out:∀{σ2:L2.St} {τ2:List V} {H2:Hp} {s2:SD} {θ2:List Vl},Nl θ2→Rel G E σ2 τ2 H2 s2 θ2→Rel G E (σ2.set i none) τ2 H2 (s2.wipe [i]) θ2:=fun hN2 h2=>(h2.wipe (is:= [i])).repl hN2 dS .set
    refine hs E _ τ _ _ θ _ hN hR1 ?_
    dsimp only at hw
    cases e2:fs {s1 with sl:=s1.sl.set i (some (.d (.exc c vs)))} with
    | bad=>rw [e2] at hw; exact hw.elim
    | ex c2 v2 s2=>rw [e2] at hw; exact hw.elim
    | ok fl s2=>
     rw [e2] at hw
     cases fl with
     | nx=>exact fun σ2 H2 h2=>hw _ H2 (out hN h2)
     | bk=>exact fun σ2 H2 h2=>hw _ H2 (out hN h2)
     | ct=>exact fun σ2 H2 h2=>hw _ H2 (out hN h2)
     | rt b=>exact ⟨hw.1,fun σ2 v2 H2 h2=>hw.2 (σ2.set i none) v2 H2 (out (hN.snoc hw.1) h2)⟩
theorem RE.xf {ok:Str→Bool} {f:Str} {ta:TE} {fa:SD→R Vl} (hx:XfOk G f ok) (ha:RE G W ta fa):RE G W (tXk G.K f ta) (z1 (oXf ok f) fa):=by
 refine RE.op1 (r:=fun x H Q=>∃(a C da:Addr) (fs:List (Str×V)) (v:V),x= .ref a∧H a=some (kxO (.ref C) (some da) a)∧L2.XfC G.K C∧PySem.W.findIn G.K (.ref C) f=some none∧H da=some (.xd fs)∧fs.lookup f=some v∧Q v H) ?_ ?_ ha
 ·intro E σ τ s θ p v a Q hl h hw
  obtain ⟨h0,ca,_⟩:=dq hl h
  unfold oXf at hw
  split at hw
  ·rename_i c ds e
   split at hw
   ·rename_i hok
    split at hw
    ·rename_i x e1
     obtain ⟨a',C,d,rfl,n,hC,hH,⟨rfl,_⟩ | ⟨da,fvs,rfl,e3,e4,e5⟩⟩:=(ca _ e).exc
     ·cases e1
     ·obtain ⟨T,no⟩:=hx c C hok hC
      obtain ⟨w,e6,r⟩:=(RepF.val e5).1 x e1
      exact ⟨a',C,da,fvs,w,rfl,hH,T,no,e3,e6,bA h0 hl hw r⟩
    ·exact hw.elim
   ·exact hw.elim
  ·exact hw.elim
 ·intro a s c fs s'
  unfold oXf
  split
  ·split
   ·split<;> (intro q; cases q)
   ·intro q; cases q
  ·intro q; cases q
theorem RE.isX {cv:V} {w:Value} {m:Str→Option Bool} {kd:Bool} {ta:TE} {fa:SD→R Vl} (hc:IsXOk G cv w m kd) (ha:RE G W ta fa):RE G W (tCB (rIsXZ G.K) (tCons ta (tCons (tC cv) tNil))) (z1 (oIsX m kd) fa):=by
 refine RE.op1 (r:=fun v H Q=>rIsXZ G.K [v,cv] H Q) ?_ ?_ ha
 ·intro E σ τ s θ p v a Q hl h hw
  obtain ⟨h0,ca,_⟩:=dq hl h
  unfold oIsX at hw
  split at hw
  ·rename_i c fs e
   split at hw
   ·rename_i b e1
    obtain ⟨a',C,d,rfl,n,hC,hH,xd⟩:=(ca _ e).exc
    obtain ⟨T,k⟩:=hc.own c b C e1 hC
    refine .inl ⟨a',C,d,cv,w,b,rfl,hH, ?_,T,fun _ r=>hc.cls.eq r,k,bA h0 hl hw rfl⟩
    rcases xd with ⟨_,e3⟩ | ⟨da,fvs,e2,e3,_,_⟩
    ·exact .inl e3
    ·exact .inr ⟨da,fvs,e2,e3⟩
   ·exact hw.elim
  ·rename_i x _ e
   split at hw
   ·rename_i k e1
    split at hw
    ·rename_i hk
     refine .inr ⟨_,_, .type k,w,false,rfl,hc.cls,yV (ca _ e) e1,hc.kd hk k ?_,bA h0 hl hw rfl⟩
     cases x<;> cases e1<;> simp
    ·exact hw.elim
   ·exact hw.elim
  ·exact hw.elim
 ·intro a s c fs s'
  unfold oIsX
  split
  ·split<;> (intro q; cases q)
  ·split
   ·split<;> (intro q; cases q)
   ·intro q; cases q
  ·intro q; cases q
end
structure XT (K:PySem.W.Frag) (C:Addr):Prop where
 hd:PySem.W.hasDictIn K C=true
 ty:PySem.W.typeIn K (.ref C)=some (.type "type")
 me:PySem.W.subIn K (.ref C) (.ref C)=some true
 b:PySem.W.subIn K (.ref C) (.type "BaseException")=some true
structure XCls (K:PySem.W.Frag) (C:Addr):Prop extends XT K C where
 ga:PySem.W.findIn K (.ref C) "__getattribute__" =some (some (.builtin "BaseException.__getattribute__"))
 gg:PySem.W.findIn K (.ref C) "__getattr__" =some none
 ca:PySem.W.findIn K (.ref C) "__class__" =some (some (.builtin "object.__class__"))
 sp:PySem.W.specialIn K (.builtin "object.__class__") "__get__" =some (some (.builtin "getset_descriptor.__get__"))
 tk:PySem.W.takesIn K (.builtin "object.__class__")=some true
 ob:PySem.W.mroIn K C (.type "object")=some true
structure X0Z (K:PySem.W.Frag) (C:Addr):Prop where
 q:PySem.W.excIn K C [.type "ValueError", .type "Exception", .type "BaseException", .type "object"] "ValueError.__new__" =true
 k:PySem.W.keepIn K (.ref C)=true
section
variable {K:PySem.W.Frag} {C D:Addr} {b:Bool}
theorem XCls.exc (h:XCls K C):L2.ExcC K C:=⟨h.ga,h.gg,h.b,h.hd,h.ca,h.sp,h.tk,h.ob⟩
theorem XCls.xf (h:XCls K C):L2.XfC K C:=⟨h.ga,h.gg,h.b,h.hd⟩
theorem XT.cls (h:XT K C):(PySem.W.clsIn K C).isSome=true:=by
 have q:=h.hd
 unfold PySem.W.hasDictIn at q
 cases e:PySem.W.clsIn K C with
 | none=>rw [e] at q; cases q
 | some _=>rfl
theorem XT.kit {t:Value} (h:XT K D) (e:PySem.W.subIn K t (.ref D)=some b):PySem.W.kitOne K t (.ref D)=some b:=by
 unfold PySem.W.kitOne
 by_cases c:(t == .ref D)=true
 ·rw [if_pos c]
  have c' :=beq_iff_eq.mp c
  subst c'
  exact h.me.symm.trans e
 ·rw [if_neg c]
  show (if ((PySem.W.clsIn K D).isSome&&PySem.W.typeIn K (.ref D) == some (.type "type"))=true then PySem.W.subIn K t (.ref D) else none)=some b
  rw [if_pos (by rw [h.cls,h.ty]; rfl)]
  exact e
theorem XT.exm (h:XT K D) (e:PySem.W.subIn K (.ref C) (.ref D)=some b):PySem.W.exmOne K (.ref C) (.ref D)=some b:=PySem.W.exm_ref h.b h.hd h.ty e
theorem XT.kd (h:XT K D):∀k∈ ["NoneType","bool","int","str","list","tuple","dict"],PySem.W.kitOne K (.type k) (.ref D)=some false:=by
 intro k hk
 refine h.kit ?_
 simp only [List.mem_cons,List.not_mem_nil,or_false] at hk
 rcases hk with rfl | rfl | rfl | rfl | rfl | rfl | rfl<;> rfl
end
def XTab (G:Gc) (P:Addr→Bool→Prop):List (Str×Bool)→Prop
 | []=>True
 | (c,b)::r=>(∃C,G.mg c=some (.ref C)∧P C b)∧XTab G P r
def pick (l:List (Str×Bool)) (c:Str):Option Bool:=l.lookup c
def yy (l:List (Str×Bool)) (c:Str):Bool:=(l.lookup c).isSome
section
variable {G:Gc} {P:Addr→Bool→Prop} {c:Str} {C:Addr} {b:Bool}
theorem XTab.get:∀{l:List (Str×Bool)},XTab G P l→l.lookup c=some b→G.mg c=some (.ref C)→P C b
 | [],_,e,_=>by cases e
 | (c',b')::r,h,e,m=>by
  obtain ⟨⟨C',m',p⟩,t⟩:=h
  by_cases q:c=c'
  ·subst q
   rw [List.lookup_cons_self] at e
   cases e
   rw [m] at m'
   cases m'
   exact p
  ·have q' :(c == c')=false:=by simpa using q
   rw [List.lookup,q'] at e
   exact XTab.get t e m
theorem isX_ref {D:Addr} {l:List (Str×Bool)} (h:XT G.K D) (t:XTab G (fun C b=>XCls G.K C∧PySem.W.subIn G.K (.ref C) (.ref D)=some b) l):IsXOk G (.ref D) (.ref D) (pick l) true:=
 ⟨.own D,fun c b C e m=>let ⟨x,s⟩:=t.get e m; ⟨x.exc,h.kit s⟩,fun _=>h.kd⟩
theorem xM {D:Addr} {l:List (Str×Bool)} (h:XT G.K D) (t:XTab G (fun C b=>PySem.W.subIn G.K (.ref C) (.ref D)=some b) l):qs G (.ref D) (pick l):=fun c b C e m=>h.exm (t.get e m)
theorem xf_of {f:Str} {l:List (Str×Bool)} (t:XTab G (fun C _=>XCls G.K C∧PySem.W.findIn G.K (.ref C) f=some none) l):XfOk G f (yy l):=fun c C e m=>by
 unfold yy at e
 cases q:l.lookup c with
 | none=>rw [q] at e; cases e
 | some b=>obtain ⟨x,n⟩:=t.get q m; exact ⟨x.xf,n⟩
end
structure DxZ (K:PySem.W.Frag) (mg:Str→Option Value) (x:Str) (C:Addr) (qual:Str) (st:Stmt) (p1 f1:Str):Prop where
 T:OexC K C
 no:PySem.W.findIn K (.ref C) f1=some none
 gC:mg x=some (.ref C)
 ex:∃(fI:Addr) (fd:FuncData),PySem.W.findIn K (.ref C) "__init__" =some (some (.ref fI))∧PySem.W.typeIn K (.ref fI)=some (.type "function")∧L2.Fun K "__init__" qual st fI fd∧L2.Binds K fd ["self",p1] []
theorem DxZ.xi {P:Program} {w:World} {K:PySem.W.Frag} {mg:Str→Option Value} {base:Heap} {x qual p1 f1:Str} {C:Addr} {st:Stmt} {k:Nat} (D:DxZ K mg x C qual st p1 f1) (S:FnScope ["self",p1] ["self",p1] (L2.defScope st))
  (hbody:∀(fI:Addr) (cdv:Value) (A:Around) (outer:List Env) (s:Shared) (H:Hp) (E:XK),PSs (cxOf (L2.CX P w) P w K mg base ["self",p1] qual (L2.defScope st) fI cdv A outer s H E) (L2.defBody st) (tOst K f1 (tVar 0) (tVar 1))):
  XiZ P w K mg base (k+1) x C f1:=by
 obtain ⟨fI,fd,iC,tI,F,b⟩:=D.ex
 exact ⟨D.T,D.no,D.gC,fI,fd,_,iC,tI,xi_ok F S fun cdv A outer s H E _=>hbody fI cdv A outer s H E,b⟩
def tOfZ (G:Gc) (W:WX) (fz:SD→R Fl):TS:=fun D σ H=>∃(E:En) (τ:List V) (s:SD) (θ:List Vl),Nl θ∧Rel G E σ τ H s θ∧Wp (fz s) (FP G E τ θ D) (XP G W E τ θ)
theorem aan {G:Gc} {W:WX} {fz:SD→R Fl}:RS G W (tOfZ G W fz) fz:=fun E _ τ _ s θ _ hN hR hw=>⟨E,τ,s,θ,hN,hR,hw⟩
theorem RS.toZ {G:Gc} {W:WX} {fz:SD→R Fl} {t:TS} (h:RS G W t fz) {D:Ends} {σ:L2.St} {H:Hp} (q:tOfZ G W fz D σ H):t D σ H:=by
 obtain ⟨E,τ,s,θ,hN,hR,hw⟩:=q
 exact h E σ τ H s θ D hN hR hw
theorem ps_tryZ {X:Cx} {x n:Str} {c:Value} {i:Nat} {body suite:List Stmt} {b₀:Stmt} {np pos pos' :Pos} {Wout:WX} {K:PySem.W.Frag} {mg:Str→Option Value} {m:Str→Option Bool} {fb fs:SD→R Fl} (hm:qs ⟨K,mg⟩ c m)
  (hs:X.stack=X.env::X.outer) (hf:X.env.frame=some X.env.locals) (hN:X.N.Nodup) (hi:X.N[i]? =some n) (hl:X.env.kindOf n=some .local) (hc:Names X x c) (tk:Takes X Wout) (hx:X.ex= []) (hK:X.K=K)
  (hb:∀(W:WX) (pn:List (Addr×Obj)) (xe:Value→Shared→Prop),Takes (X.tr pn xe) W→PassesOwn (model X.prog X.w) X.A X.env xe→∃t,PSs (X.tr pn xe) body t∧RS ⟨K,mg⟩ W t fb)
  (hsu:∀(a:Addr) (pn:List (Addr×Obj)),∃t,PSs (X.suite a pn) (b₀::suite) t∧RS ⟨K,mg⟩ WF t fs):
  PS X (.Try body [.ExceptHandler (some (.Name x np)) (some n) (b₀::suite) pos'] [] [] pos) (tOfZ ⟨K,mg⟩ Wout (zTry m i fb fs)):=by
 subst hK
 have P:=tA (np:=np) (pos:=pos) (pos' :=pos') (tb:=fun W=>tOfZ ⟨X.K,mg⟩ W fb) (ts:=tOfZ ⟨X.K,mg⟩ WF fs) hs hf hN hi hl hc tk hx
  (fun W pn xe tk pa=>let ⟨_,p,r⟩:=hb W pn xe tk pa; ⟨fun pins s σ H D I h=>p.run pins s σ H D I (r.toZ h)⟩)
  (fun a pn=>let ⟨_,p,r⟩:=hsu a pn; ⟨fun pins s σ H D I h=>p.run pins s σ H D I (r.toZ h)⟩)
 exact ⟨fun pins s σ H D I h=>P.run pins s σ H D I ((RS.tryK hm (fun _=>aan) aan).toZ h)⟩
noncomputable def qV (a b:Vl) (s:SD):R Vl:=match a,b with
 | .d (.str x), .d (.str y)=>if (y.length == 0)=false∧x.length+2≤sizeLine then .ok (.own (.lst ((Txt.split x y).map .str))) s else .bad
 | _,_=> .bad
def mb (a b:Vl) (s:SD):R Vl:=match a,b with
 | .d (.str x), .d (.str y)=> .ok (.d (.bl (Txt.startswith x y))) s
 | _,_=> .bad
def zTryO (m:Str→Option Bool) (fb fs:SD→R Fl):SD→R Fl:=fun s=>match fb s with
 | .ex c vs s1=>(match m c with
  | some true=>(match fs s1 with
   | .ok fl s2=> .ok fl s2
   | _=> .bad)
  | some false=> .ex c vs s1
  | none=> .bad)
 | r=>r
section
variable {G:Gc} {W:WX} {E:En} {σ:L2.St} {τ:List V} {H:Hp} {s:SD} {θ:List Vl} {v u:V} {a b:Vl} {p:Wr} {Q:VK} {ta tb:TE} {fa fb:SD→R Vl}
theorem p_split:cX G (fun x y H Q=>∃a b,x= .str a∧ [y]= [.str b]∧(b.length == 0)=false∧a.length+2≤sizeLine∧rNewStrs (Txt.split a b) H Q) qV:=by
 intro E σ τ s θ p v u a b Q hl h hw
 unfold qV at hw
 split at hw
 ·obtain ⟨r1,r2⟩:=last2v hl h
  obtain ⟨h0,_,_⟩:=eJ hl h
  split at hw
  ·rename_i hz
   obtain rfl:v= .str _:=r1
   obtain rfl:u= .str _:=r2
   exact ⟨_,_,rfl,rfl,hz.1,hz.2,fun q hq=>dC h0 hl hw hq xO⟩
  ·exact hw.elim
 ·exact hw.elim
theorem A4:cX G (fun x y H Q=>∃a b,x= .str a∧ [y]= [.str b]∧Q (.bl (Txt.startswith a b)) H) mb:=by
 intro E σ τ s θ p v u a b Q hl h hw
 unfold mb at hw
 split at hw
 ·obtain ⟨r1,r2⟩:=last2v hl h
  obtain ⟨h0,_,_⟩:=eJ hl h
  obtain rfl:v= .str _:=r1
  obtain rfl:u= .str _:=r2
  exact ⟨_,_,rfl,rfl,bA h0 hl hw rfl⟩
 ·exact hw.elim
theorem RE.split (ha:RE G W ta fa) (hb:RE G W tb fb):RE G W (tM1 (fun x xs H Q=>∃a b,x= .str a∧xs= [.str b]∧(b.length == 0)=false∧a.length+2≤sizeLine∧rNewStrs (Txt.split a b) H Q) ta tb) (zM1s qV fa fb):=
 RE.m1 p_split (by intros; unfold qV; (repeat' split)<;> (intro q; cases q)) ha hb
theorem RE.starts (ha:RE G W ta fa) (hb:RE G W tb fb):RE G W (tM1 (fun x xs H Q=>∃a b,x= .str a∧xs= [.str b]∧Q (.bl (Txt.startswith a b)) H) ta tb) (zM1s mb fa fb):=
 RE.m1 A4 (by intros; unfold mb; (repeat' split)<;> (intro q; cases q)) ha hb
def rIns:V→List V→Hp→VK→Prop:=fun x vs H Q=>∃(l:Addr) (xs:List V) (i:Int) (y:V),x= .ref l∧vs= [.int i,y]∧H l=some (.lst xs)∧xs.length<sizeLine∧0≤i∧i<2 ^ 63∧Q .non (upd H l (.lst (xs.take i.toNat++ [y]++xs.drop i.toNat)))
noncomputable def fInsert (k:Int) (c z:D):Option (D×D):=match c with
 | .lst ds=>if ds.length<sizeLine∧0≤k∧k<2 ^ 63 then some (.lst (ds.take k.toNat++ [z]++ds.drop k.toNat), .non) else none
 | _=>none
noncomputable def zIns (fo fi fx:SD→R Vl):SD→R Vl:=fun s=>(fo s).bind fun a s1=>if isL s1 a=true then (fi s1).bind fun i s2=>match i with
 | .d (.int k)=>(fx s2).bind fun b s3=>oB2 (fInsert k) a b s3
 | _=> .bad
 else .bad
def kH (c z:D):Option (D×D):=match c,z with
 | .lst ds, .int i=>if -(2 ^ 63)≤i∧i<2 ^ 63 then (match ixN ds.length i with
  | some k=>(match ds[k]? with
   | some t=>some (.lst (ds.eraseIdx k),t)
   | none=>none)
  | none=>none) else none
 | _,_=>none
theorem Reps.erase {ds:List D} {vs:List V} (h:Reps G p ds vs) (n:Nat):Reps G p (ds.eraseIdx n) (vs.eraseIdx n):=by
 rw [List.eraseIdx_eq_take_drop_succ,List.eraseIdx_eq_take_drop_succ]
 exact (h.take n).append (h.drop (n+1))
theorem h_popAt:Chg2 G (fun x y H Q=>rPopAt x [y] H Q) kH:=by
 intro p c z y t b u Q e ho r
 unfold kH at e
 split at e
 ·split at e
  ·rename_i ds i hz
   split at e
   ·rename_i k e1
    split at e
    ·rename_i d e2
     cases e
     obtain ⟨vs,e3,r3⟩:=ho
     obtain ⟨w,e4,r4⟩:=r3.get e2
     obtain rfl:u= .int i:=r
     exact ⟨.lst (vs.eraseIdx k),w,r4,fun le=>⟨_,upd_same,(r3.erase k).mono le⟩,fun q=>⟨b,vs,i,k,w,rfl,rfl,e3,hz.1,hz.2,by rw [r3.len]; exact (ixN_seq e1).1,e4,q⟩⟩
    ·cases e
   ·cases e
  ·cases e
 ·cases e
theorem RE.popAt {ta tb:TE} {fa fb:SD→R Vl} (ha:RE G W ta fa) (hb:RE G W tb fb):RE G W (tBM G.K "list" rPopAt ta (tCons tb tNil)) (zM2 isL (oB2 kH) fa fb):=RE.bm nA (qS h_popAt) qZ ha hb
def zUnp2 (f1 f2:Vl→SD→R Unit) (a:Vl) (s:SD):R Unit:=match s.cont a with
 | some (.tup [d1,d2])=>(f1 (.d d1) s).bind fun _ s1=>f2 (.d d2) s1
 | _=> .bad
theorem RG.two {g1 g2:TG} {f1 f2:Vl→SD→R Unit} (h1:RG G W [] g1 f1) (h2:RG G W [] g2 f2):RG G W [] (gTup G.K 2 (gCons g1 (gCons g2 gNil))) (zUnp2 f1 f2):=by
 intro E σ τ H s θ v a Q hN hR hw
 obtain ⟨p,rfl,hl,h⟩:=hR.unsnoc
 obtain ⟨h0,c,_⟩:=dq hl h
 unfold zUnp2 at hw
 split at hw
 ·rename_i d1 d2 e1
  obtain ⟨b,vs,rfl,hb,r⟩:=(c _ e1).tup
  obtain ⟨v1,r1,rfl,q1,r⟩:=r
  obtain ⟨v2,r2,rfl,q2,r⟩:=r
  obtain rfl:r2= []:=r
  refine ⟨b,[v1,v2],rfl, .of hb,rfl,v1,[v2],rfl, ?_⟩
  have R2:Rel G E σ (τ++ [v2]) p.H s (θ++ [.d d2]):= .snoc (h0.push q2) hl rfl
  have R1:Rel G E σ (τ++ [v2]++ [v1]) p.H s (θ++ [.d d2]++ [.d d1]):=by
   refine .snoc ?_ hl rfl
   rw [List.map_append,List.map_append,←List.append_assoc,←List.append_assoc]
   exact (h0.push q2).push q1
  rw [ae] at hw
  refine h1 E σ (τ++ [v2]) p.H s (θ++ [.d d2]) v1 (.d d1) _ hN.d R1 (hw.mono (fun _ s1 hw σ1 H1 h3 o1=>?_) fun _ _ _ h=>h.up)
  refine ⟨v2,[],rfl, ?_⟩
  exact h2 E σ1 τ H1 s1 θ v2 (.d d2) _ hN h3 (hw.mono (fun _ s2 hw σ2 H2 h4 o2=>⟨rfl,hw σ2 H2 h4 ⟨o2.1.trans o1.1,fun k hk=>(o2.2 k hk).trans (o1.2 k hk)⟩⟩) fun _ _ _ h=>h)
 ·exact hw.elim
end
def mnL:Int→List Int→Int
 | i,[]=>i
 | i,j::is=>mnL (if j<i then j else i) is
theorem mnL_le:∀(is:List Int) (i:Int),mnL i is≤i∧∀j∈is,mnL i is≤j
 | [],i=>⟨Int.le_refl _,fun _ h=>(by cases h)⟩
 | k::is,i=>by
  obtain ⟨h1,h2⟩:=mnL_le is (if k<i then k else i)
  have e:mnL i (k::is)=mnL (if k<i then k else i) is:=rfl
  have h3:(if k<i then k else i)≤i∧(if k<i then k else i)≤k:=by split<;> omega
  refine ⟨by rw [e]; omega,fun j hj=>?_⟩
  rw [e]
  rcases List.mem_cons.mp hj with rfl | hj
  ·omega
  ·exact h2 j hj
theorem mnL_mem:∀(is:List Int) (i:Int),mnL i is=i∨mnL i is∈is
 | [],i=> .inl rfl
 | k::is,i=>by
  have e:mnL i (k::is)=mnL (if k<i then k else i) is:=rfl
  rw [e]
  rcases mnL_mem is (if k<i then k else i) with h | h
  ·rw [h]
   split
   ·exact .inr List.mem_cons_self
   ·exact .inl rfl
  ·exact .inr (List.mem_cons_of_mem _ h)
def qW (a:Vl) (s:SD):R Vl:=match s.cont a with
 | some (.lst ds)=>match kQ ds with
  | some (i::is)=> .ok (.d (.int (mnL i is))) s
  | _=> .bad
 | _=> .bad
noncomputable def bb (a b:Vl) (s:SD):R Vl:=match s.cont a,s.cont b with
 | some (.lst ds),some x=>match scs ds,x.sc with
  | some vs,some v=>match vs.findIdx? (fun z=>eqV z v) with
   | some j=> .ok (.d (.int (j:Nat))) s
   | none=> .bad
  | _,_=> .bad
 | _,_=> .bad
section
variable {G:Gc} {W:WX} {E:En} {σ:L2.St} {τ:List V} {H:Hp} {s:SD} {θ:List Vl} {v u:V} {a b:Vl} {p:Wr} {Q:VK} {ta tb:TE} {fa fb:SD→R Vl}
theorem p_minL:kT G (fun v H Q=>rMin G.K [v] H Q) qW:=by
 intro E σ τ s θ p v a Q hl h hw
 obtain ⟨h0,ca,_⟩:=dq hl h
 unfold qW at hw
 split at hw
 ·rename_i e
  split at hw
  ·rename_i i is e1
   obtain ⟨b,vs,rfl,hb,r⟩:=(ca _ e).lst
   obtain rfl:=mD r e1
   refine ⟨b,_,rfl, .of hb,by simp,fun m hm hle=>?_⟩
   have e2:m=mnL i is:=by
    have h1:=mnL_le is i
    have h2:=mnL_mem is i
    have h3:mnL i is≤m:=by
     rcases List.mem_cons.mp hm with rfl | hm
     ·exact h1.1
     ·exact h1.2 m hm
    have h4:m≤mnL i is:=hle _ (by
     rcases h2 with h2 | h2
     ·rw [h2]; exact List.mem_cons_self
     ·exact List.mem_cons_of_mem _ h2)
    omega
   subst e2
   exact bA h0 hl hw rfl
  ·exact hw.elim
 ·exact hw.elim
theorem q_minL:Op1 G (fun v H Q=>rMin G.K [v] H Q) qW:=⟨p_minL,by intros; unfold qW; (repeat' split)<;> (intro q; cases q)⟩
theorem p_index:cX G (fun x y H Q=>rIndex G.K x [y] H Q) bb:=by
 intro E σ τ s θ p v u a b Q hl h hw
 obtain ⟨h0,ca,cb⟩:=eJ hl h
 unfold bb at hw
 split at hw
 ·rename_i ds x e1 e2
  split at hw
  ·rename_i vs w e3 e4
   split at hw
   ·rename_i j e5
    obtain ⟨b,us,rfl,hb,r⟩:=(ca _ e1).lst
    obtain rfl:=lP r e3
    have hv:=eU ((cb _ e2).sc (ky e4)) e4
    subst hv
    obtain ⟨hj,h1,h2⟩:=List.findIdx?_eq_some_iff_getElem.mp e5
    exact ⟨b,us,u,j,us[j],rfl,rfl, .of hb,lQ e4,iY e3,List.getElem?_eq_getElem hj,h1,fun m z' hm ez=>by
     obtain ⟨hm2,rfl⟩:=List.getElem?_eq_some_iff.mp ez
     simpa using h2 m hm,bA h0 hl hw rfl⟩
   ·exact hw.elim
  ·exact hw.elim
 ·exact hw.elim
theorem RE.index (ha:RE G W ta fa) (hb:RE G W tb fb):RE G W (tBM G.K "list" (rIndex G.K) ta (tCons tb tNil)) (zM2 isL bb fa fb):=
 RE.bm nA p_index (by intros; unfold bb; (repeat' split)<;> (intro q; cases q)) ha hb
def zUnpL (is:List Nat) (a:Vl) (s:SD):R Unit:=match s.cont a with
 | some (.lst ds)=>if ds.length=is.length then .ok () {s with sl:=dg is ds s.sl} else .bad
 | _=> .bad
end
theorem fm {X:Cx} {K:PySem.W.Frag} {o e:Expr} {apos cpos:Pos} {to te:TE} (ho:PE X o to) (he:PE X e te)
  (hbase:attributeBase o "index" X.env (eval o X.env)=eval o X.env:=by rfl)
  (hfew:((backTo cpos (starEach [e] X.env)).all (fun x=>!x.1)&&(backToKw cpos (keywordEach [] X.env)).all (fun x=>x.1.isSome)
   &&decide (([e]:List Expr).length+([]:List Keyword).length+(if ([]:List Keyword).isEmpty then 0 else 1)<30))=true:=by rfl)
  (hline:(apos.endLine == cpos.line)=true:=by rfl) (hs:starEach [e] X.env=(false,eval e X.env)::starEach [] X.env:=by rfl) (hplain:(backTo cpos (starEach [] X.env)).any (·.1)=false:=by rfl)
  (hK:X.K=K:=by rfl):PE X (.Call (.Attribute o "index" apos) [e] [] cpos) (tBM K "list" (rIndex K) to (tCons te tNil)):=by
 subst hK
 exact pe_bm PySem.F.plainAttrs_list PySem.F.slot_list_index PySem.F.type_list_index mt_index ho (pa_cons he pa_nil hs) hbase hfew hline hs hplain
def spXL (K:PySem.W.Frag) (f:Str):Sp:=fun vs H Q _=>∃(a C:Addr) (v:V),vs= [.ref a,v]∧OexC K C∧PySem.W.findIn K (.ref C) f=some none∧
 vn K [v] H fun u H1=>H1 a=some (exo a C none)∧∀dx,H1 dx=none→dx≠a→Q .non (upd (upd H1 dx (exd dx [(f,u)])) a (exo a C (some dx)))
section
variable {P:Program} {w:World} {K:PySem.W.Frag} {mg:Str→Option Value} {base:Heap}
structure XiL (P:Program) (w:World) (K:PySem.W.Frag) (mg:Str→Option Value) (base:Heap) (k:Nat) (x:Str) (C:Addr) (f:Str):Prop where
 T:OexC K C
 no:PySem.W.findIn K (.ref C) f=some none
 gC:mg x=some (.ref C)
 ex:∃(fI:Addr) (fd:FuncData) (ps:List Str),PySem.W.findIn K (.ref C) "__init__" =some (some (.ref fI))∧PySem.W.typeIn K (.ref fI)=some (.type "function")∧FnOk P w K mg base (L2.CX P w) k fI fd ps (spXL K f)∧Binds K fd ps []
end
def tRaiseL (K:PySem.W.Frag) (C:Addr) (f:Str) (W:WX) (te:TE):TS:=fun _ σ H=>tMkO C (spXL K f) [] (tCons te tNil) σ H fun cls d H' =>W cls d σ H'
def zRaiseL (c f:Str) (fa:SD→R Vl):SD→R Fl:=fun s=>(fa s).bind fun a s1=>(s1.fix a).bind fun x s2=>match x with
 | .lst ds=> .ex c [(f, .lst ds)] s2
 | _=> .bad
section
variable {W:WX} {H:Hp} {s:SD} {v:V} {a b:Vl} {x y:D} {Q:VK}
def rCountV (K:PySem.W.Frag):V→List V→Hp→VK→Prop:=fun x xs H Q=>∃(a:Addr) (ys:List V) (y:V),x=V.ref a∧xs= [y]∧SqL K H a ys∧flatV y=true∧ys.all flatV=true∧Q (.int ((ys.countP fun z=>eqV z y:Nat):Int)) H
noncomputable def yI (a b:Vl) (s:SD):R Vl:=match s.cont a,s.cont b with
 | some (.lst ds),some x=>match scs ds,x.sc with
  | some vs,some v=> .ok (.d (.int ((vs.countP fun z=>eqV z v:Nat):Int))) s
  | _,_=> .bad
 | _,_=> .bad
def zPV (k:Nat) (fv:SD→R Vl) (fp:SD→R (List (Key×D))):SD→R (List (Key×D)):=fun s=>match s.sl[k]? with
 | some (some (.d x))=>match x.key with
  | some kk=>zP kk fv fp s
  | none=> .bad
 | _=> .bad
end
def zRaiseC (c f:Str) (fa:SD→R Vl):SD→R Fl:=fun s=>(fa s).bind fun a s1=>(s1.fix a).bind fun x s2=>match x with
 | .lst ds=> .ex c [(f, .cell s2.st.nx)] {s2 with st:=s2.st.new (.lst ds)}
 | _=> .bad
section

end
end Z

namespace M
open PySem PySem.Spec PyProof.Rows L2
section

end
end M
namespace Z
open PySem PySem.Spec PyProof.Rows L2 M
open Classical
def tHeldL (C:Addr) (sp:Sp) (ta:TA):TE:=fun σ H Q=>tMkO C sp [] ta σ H fun cls d H' =>∀a,H' a=none→Q (.ref a) (upd H' a (M.kxO cls d a))
def zHeldL (c f:Str) (fa:SD→R Vl):SD→R Vl:=fun s=>(fa s).bind fun a s1=>(s1.fix a).bind fun x s2=>match s2.cont (.d x) with
 | some (.lst ds)=> .ok (.d (.exc c [(f, .lst ds)])) s2
 | _=> .bad
section

end
structure YT (K:PySem.W.Frag) (C:Addr):Prop where
 hd:PySem.W.hasDictIn K C=true
 ty:PySem.W.typeIn K (.ref C)=some (.type "type")
 me:PySem.W.subIn K (.ref C) (.ref C)=some true
section
variable {K:PySem.W.Frag} {D:Addr} {b:Bool}
theorem YT.kit {t:Value} (h:YT K D) (e:PySem.W.subIn K t (.ref D)=some b):PySem.W.kitOne K t (.ref D)=some b:=by
 have hc:(PySem.W.clsIn K D).isSome=true:=by
  have q:=h.hd
  unfold PySem.W.hasDictIn at q
  cases e:PySem.W.clsIn K D with
  | none=>rw [e] at q; cases q
  | some _=>rfl
 unfold PySem.W.kitOne
 by_cases c:(t == .ref D)=true
 ·rw [if_pos c]
  have c' :=beq_iff_eq.mp c
  subst c'
  exact h.me.symm.trans e
 ·rw [if_neg c]
  show (if ((PySem.W.clsIn K D).isSome&&PySem.W.typeIn K (.ref D) == some (.type "type"))=true then PySem.W.subIn K t (.ref D) else none)=some b
  rw [if_pos (by rw [hc,h.ty]; rfl)]
  exact e
theorem YT.kd (h:YT K D):∀k∈ ["NoneType","bool","int","str","list","tuple","dict"],PySem.W.kitOne K (.type k) (.ref D)=some false:=by
 intro k hk
 refine h.kit ?_
 simp only [List.mem_cons,List.not_mem_nil,or_false] at hk
 rcases hk with rfl | rfl | rfl | rfl | rfl | rfl | rfl<;> rfl
end
noncomputable def oIsU (mX mC:Str→Option Bool) (a:Vl) (s:SD):R Vl:=match s.cont a with
 | some (.exc c _)=>(match mX c with
  | some b=> .ok (.d (.bl b)) s
  | none=> .bad)
 | some (.obj c _)=>(match mC c with
  | some b=> .ok (.d (.bl b)) s
  | none=> .bad)
 | some x=>(match x.knd with
  | some _=> .ok (.d (.bl false)) s
  | none=> .bad)
 | none=> .bad
section

end
end Z

namespace M
open PySem PySem.Spec PyProof.Rows L2
open Classical
noncomputable def wd (ks:List Key):Nat→Nat
 | 0=>0
 | i+1=>wd ks i+(if ks.getD i (.inl 0)∈ks.take i then 0 else 1)
theorem uH (ks:List Key):∀i,wd ks i≤i
 | 0=>Nat.le_refl _
 | i+1=>by
  have:=uH ks i
  unfold wd
  split<;> omega
theorem zY {ks:List Key} (nd:ks.Nodup):∀i,i≤ks.length→wd ks i=i
 | 0,_=>rfl
 | i+1,h=>by
  have ih:=zY nd i (by omega)
  have e:ks[i]? =some ks[i]:=List.getElem?_eq_getElem h
  have no:ks.getD i (.inl 0)∉ks.take i:=fun hm=>by
   have nd2:=nd
   rw [←List.take_append_drop i ks,List.nodup_append] at nd2
   refine nd2.2.2 _ hm _ (List.mem_of_getElem? (i:=0) ?_) rfl
   rw [List.getElem?_drop,List.getD_eq_getElem?_getD]
   rw [Nat.add_zero,e]
   rfl
  unfold wd
  rw [if_neg no,ih]
section
variable {prog:Program} {w:World} {A:Around} {R:Result→Shared→Prop} {I:Addr} {fp wr:List Addr} {G:Array GenState→Array GenState→Prop} {n:Nat} {P:Nat→Value→Prop} {St:Nat→Shared→Prop}
theorem AW {k:Key} {u:Value} (r:RelV (kV k) u):u.scannable=true:=by
 rcases k with i | z<;> (obtain ⟨t,rfl⟩:=r; rfl)
theorem wu {h:Heap} {a:Addr} {T T' :Key→Bool} {c c' :Nat} (g:h.SetOf (mixKind prog w) a T c) (e:∀k,T k=T' k) (ec:c=c'):h.SetOf (mixKind prog w) a T' c' :=by
 obtain rfl:T=T' :=funext e
 exact ec ▸ g
abbrev SetK (prog:Program) (w:World) (h:Heap) (S:Addr) (ks:List Key) (i:Nat):Prop:=h.SetOf (mixKind prog w) S (fun k=>decide (k∈ks.take i)) (wd ks i)
theorem SetK.on {h h' :Heap} {S:Addr} {ks:List Key} {i:Nat} (g:SetK prog w h S ks i) (k:∀o,h.get? S=some o→h'.get? S=some o):SetK prog w h' S ks i:=by
 obtain ⟨o,es,ep,t,ho,r⟩:=g
 exact ⟨o,es,ep,t,k o ho,r⟩
theorem loopK (W:WalksS prog w A.in1 I fp wr G n P St) (S:Addr) (out:S∉fp) (ks:List Key) (len:ks.length=n) (few:n+1<scanBound) (val:∀j x,P j x→RelV (kV (ks.getD j (.inl 0))) x):
  ∀m j s,n - j=m→j≤n→St j s→SetK prog w s.heap S ks j→(∀s',Moved (S::wr) G s s'→SetK prog w s'.heap S ks n→R (.ok (.ret .none)) s')→codeAny (model prog w) A (.builtin "set.update.loop" ⟨[.ref S, .ref I],[]⟩) R s:=by
 have outw:S∉wr:=fun q=>out (W.sub _ q)
 intro m
 induction m with
 | zero=>
  intro j s e hj st g done
  obtain rfl:j=n:=by omega
  refine codeAny_builtin F.entry_set_update_loop (by
   rw [Around.under_plainId F.plain_set_update_loop _]
   show wpAny _ A.in1 (pyNext (.ref I) >>= _) _ _ s
   refine wpAny_bind (W.done s _ _ st fun s' mv=>?_)
   show wpAny _ A.in1 (ret Value.none) _ _ s'
   exact wpAny_pure (done s' (mv.mono fun b=>List.mem_cons_of_mem _) (g.on (mv.heap S · outw))))
 | succ m ih=>
  intro j s e hj st g done
  have lt:j<n:=by omega
  refine codeAny_builtin F.entry_set_update_loop ?_
  rw [Around.under_plainId F.plain_set_update_loop _]
  show wpAny _ A.in1 (pyNext (.ref I) >>= _) _ _ s
  refine wpAny_bind (W.item j s _ _ lt st fun v s' hP st' mv=>?_)
  have rv:=val j v hP
  have g' :=g.on (mv.heap S · outw)
  show wpAny _ A.in1 (holding [v] (setAdd S v) >>= _) _ _ s'
  refine wpAny_bind (wpAny_holding ?_)
  unfold setAdd
  refine wpAny_holding (wpAny_bind ((mixKind prog w).pyHash (k:=ks.getD j (.inl 0)) (kV_is rv) ?_))
  have cb:=uH ks j
  refine wpAny_setAddHashed_of (knd:=mixKind prog w) (s:= {s' with toks:=s'.toks+1}) (kV_is rv) (AW rv) g' (Nat.lt_of_le_of_lt (Nat.succ_le_succ (Nat.le_trans cb hj)) few) fun h' but g2=>?_
  have g3:SetK prog w h' S ks (j+1):=by
   have ej:ks[j]? =some (ks.getD j (.inl 0)):=by
    rw [List.getD_eq_getElem?_getD,List.getElem?_eq_getElem (by omega)]
    rfl
   refine wu g2 (fun k=>?_) ?_
   ·rw [List.take_add_one,ej]
    show (decide (k∈ks.take j) || decide (k=ks.getD j (.inl 0)))=decide (k∈ks.take j++ [ks.getD j (.inl 0)])
    rw [←Bool.decide_or]
    exact decide_eq_decide.mpr (by rw [List.mem_append,List.mem_singleton])
   ·show (if decide (ks.getD j (.inl 0)∈ks.take j)=true then wd ks j else wd ks j+1)=wd ks j+(if ks.getD j (.inl 0)∈ks.take j then 0 else 1)
    by_cases q:ks.getD j (.inl 0)∈ks.take j
    ·rw [if_pos q,if_pos (decide_eq_true q),Nat.add_zero]
    ·rw [if_neg q,if_neg (by rw [decide_eq_false q]; exact Bool.false_ne_true)]
  refine wpAny_pure ⟨plainId_quiet F.plain_set_update_loop _,ih (j+1) _ (by omega) lt (W.frame _ s' _ _ st' (Nat.le_succ _) fun b hb o q=>?_) g3 fun s2 mv2 gn=>?_⟩
  ·exact (but.2 b fun z=>out (z ▸ hb)).trans q
  ·exact done s2 (Moved.trans W.gtrans ((mv.mono fun b=>List.mem_cons_of_mem _).then_heap (Nat.le_succ _) fun b o hb q=>(but.2 b fun z=>hb (z ▸ List.mem_cons_self)).trans q) mv2) gn
end
section
variable {prog:Program} {w:World} {A:Around} {E:Value→Shared→Prop} {s:Shared}
theorem yW:∀{us:List Value} {ks:List Key},Vals (ks.map kV) us→∀(j:Nat) (x:Value),us[j]? =some x→RelV (kV (ks.getD j (.inl 0))) x
 | _,[], .nil,j,x,e=>by simp at e
 | _,k::ks, .cons r t,0,x,e=>by
  simp only [List.getElem?_cons_zero,Option.some.injEq] at e
  exact e ▸ r
 | _,k::ks, .cons r t,j+1,x,e=>by
  simp only [List.getElem?_cons_succ] at e
  exact yW t j x e
set_option maxHeartbeats 3200000 in
theorem pZ {l:Addr} {its:Array Value} {ks:List Key} {Q:Value→Shared→Prop} (calm:A.handled=none) (there:s.heap.IsList l its) (rel:Vals (ks.map kV) its.toList) (few:its.size+1<scanBound)
  (h:∀(h' :Heap) (tk:Nat),SetK prog w h' s.heap.objs.size ks its.size→(∀b o,b<s.heap.objs.size→s.heap.get? b=some o→h'.get? b=some o)→Q (.ref s.heap.objs.size) {s with heap:=h',toks:=tk}):
  wpAny (model prog w) A (call (.type "set") [.ref l]) Q E s:=by
 obtain ⟨c,tl,mro⟩:=PySem.F.called_set.mro
 have made:=PySem.F.called_set.made
 have sub:=PySem.F.called_set.sub
 refine wpAny_call (codeAny_of_tree ?_)
 show wpAny _ _ (callAny (.type "set") _) _ _ _
 refine wpAny_pure ⟨Code.quiet_builtin _ (by decide+kernel),codeAny_builtin PySem.F.entry_type_call (by
  rw [Around.under_plain (weight_type_call_type "set" [.ref l] []) rfl]
  have t1:=PySem.F.called_set.notType
  have t2:=PySem.F.called_set.canCreate
  have t3:=PySem.F.typeCall_set_1 (.ref l)
  repeat (any_goals (first | assumption | wp_step))
  refine codeAny_mono (code_set_new_1 (.ref l) (E:=E) (Q₁:=fun obj s1=>∃led:Bool,obj= .ref s.heap.objs.size∧s1= {s with heap:=s.heap.push {cls:= .type "set",dict:=none,data:= .set #[] 0 (.fresh 0 0 led)}}) fun led=>⟨led,rfl,rfl⟩) fun r s1 made1=>?_
  cases r with
  | error e=>exact made1
  | ok fl=>
   cases fl with
   | ret obj=>
    obtain ⟨led,rfl,rfl⟩:=made1
    have new:=Heap.get?_push_size s.heap (o:= {cls:= .type "set",dict:=none,data:= .set #[] 0 (.fresh 0 0 led)}) rfl
    have isT:Shared.TypeIs {s with heap:=s.heap.push {cls:= .type "set",dict:=none,data:= .set #[] 0 (.fresh 0 0 led)}} (.ref s.heap.objs.size) "set" :=⟨_,new,rfl⟩
    have look:=PySem.F.called_set.init.lookup
    have bind:=PySem.F.called_set.init.bind (.ref s.heap.objs.size)
    repeat (any_goals (first | assumption | wp_step))
    refine codeAny_mono (codeAny_call_builtin (R:=wants (fun r s2=>r= .none∧∃h' tk,s2= {s with heap:=h',toks:=tk}∧SetK prog w h' s.heap.objs.size ks its.size∧(∀b o,b<s.heap.objs.size→s.heap.get? b=some o→h'.get? b=some o)) E) PySem.F.called_set.init.plain PySem.F.entry_set_init (check_set_init_1 isT ?_)) fun r2 s2 got=>?_
    ·obtain ⟨ol,hol,hc,nl,hd⟩:=there
     obtain ⟨ocls,odict,odata,oslots⟩:=ol
     simp only at hc hd
     subst hc
     subst hd
     have hol' :(s.heap.push {cls:= .type "set",dict:=none,data:= .set #[] 0 (.fresh 0 0 led)}).get? l=some {cls:= .type "list",dict:=odict,data:= .seq its nl,slots:=oslots}:=Heap.get?_push_of_some _ hol
     have sub1:=PySem.F.sub_list_set
     have sub2:=PySem.F.sub_list_frozenset
     have nod:(Value.type "list" == Value.type "dict")=false:=by decide
     have isl:(s.heap.push {cls:= .type "set",dict:=none,data:= .set #[] 0 (.fresh 0 0 led)}).IsList l its:=⟨_,hol',rfl,nl,rfl⟩
     unfold Builtin.«set.__init__» noKeywords Builtin.Frozenset.updateFrom
     generalize hPI:pyIter=PI
     wp_walk
     subst hPI
     refine wpAny_pyIter_list isl ?_
     refine wpAny_bind (wpAny_runValue ?_)
     have lS:l<s.heap.objs.size:=Heap.lt_size hol
     have calm3:A.in1.in1.in1.handled=none:=by simp [calm]
     have ne1:l≠(s.heap.push {cls:= .type "set",dict:=none,data:= .set #[] 0 (.fresh 0 0 led)}).objs.size:=by
      rw [Heap.size_push]
      exact Nat.ne_of_lt (Nat.lt_succ_of_lt lS)
     have out:s.heap.objs.size∉ [(s.heap.push {cls:= .type "set",dict:=none,data:= .set #[] 0 (.fresh 0 0 led)}).objs.size,l]:=by
      rw [Heap.size_push]
      intro q
      rcases List.mem_cons.mp q with q | q
      ·exact Nat.ne_of_lt (Nat.lt_succ_self _) q
      ·exact Nat.ne_of_gt lS (List.mem_singleton.mp q)
     have sz:ks.length=its.size:=by
      have:=rel.length
      rw [List.length_map,Array.length_toList] at this
      exact this
     refine loopK ((Walks.list calm3 _ l ne1 its).toS) s.heap.objs.size out ks sz few (fun j x e=>yW rel j x (by rw [Array.getElem?_toList]; exact e)) (its.size - 0) 0 _ (by omega) (Nat.zero_le _) ⟨⟨_,Heap.get?_push_size _ rfl,rfl,rfl⟩,isl.push _⟩ ?start ?done
     case start=>
      have g0:((s.heap.push {cls:= .type "set",dict:=none,data:= .set #[] 0 (.fresh 0 0 led)}).push {cls:= .type "list_iterator",data:= .fields #[.ref l, .int 0 0]}).get? s.heap.objs.size=some {cls:= .type "set",dict:=none,data:= .set #[] 0 (.fresh 0 0 led)}:=Heap.get?_push_of_some _ new
      exact ⟨_, #[],0,_,g0,⟨rfl,rfl,rfl⟩,rfl,fun e he=>by simp at he,fun k=>by simp,by decide,by rfl,rfl⟩
     case done=>
      intro s' mv got
      obtain ⟨h',g',d',tk',os'⟩:=s'
      obtain rfl:g' =s.gens:=mv.gens
      obtain rfl:d' =s.drawn:=mv.drawn
      obtain rfl:os' =s.os:=mv.os
      show wpAny _ _ _ _ _ _
      refine wpAny_pure ?_
      show wpAny _ _ (ret Value.none) _ _ _
      refine wpAny_pure ⟨rfl,h',tk',rfl,got,fun b o hb e=>?_⟩
      refine mv.heap b o ?_ (Heap.get?_push_of_some _ (Heap.get?_push_of_some _ e))
      rw [Heap.size_push]
      intro q
      rcases List.mem_cons.mp q with q | q
      ·exact Nat.ne_of_lt hb q
      ·exact Nat.ne_of_lt (Nat.lt_succ_of_lt hb) (List.mem_singleton.mp q)
    ·cases r2 with
     | error e=>exact got
     | ok fl2=>
      cases fl2 with
      | ret r=>
       obtain ⟨rfl,h',tk,rfl,g1,g2⟩:=got
       repeat (any_goals (first | assumption | wp_step))
       exact h _ _ g1 g2
      | _=>exact got.elim
   | _=>exact made1.elim)⟩
end
def uZ (K:PySem.W.Frag) (ta:TE):TE:=fun σ H Q=>ta σ H fun x H1=>∃(l:Addr) (ks:List Key),x= .ref l∧SqL K H1 l (ks.map kV)∧ks.length≤4000∧Q (.int (wd ks ks.length:Nat)) H1
theorem gT {X:Cx} {K:PySem.W.Frag} {a:Expr} {ta:TE} {p p2 q pos:Pos} (g1:Gl X "len") (m1:X.mg "len" =none) (g2:Gl X "set") (m2:X.mg "set" =none) (ha:PE X a ta) (calm:X.calm=true:=by rfl) (hK:X.K=K:=by rfl)
  (na:starEach [a] X.env=(false,eval a X.env)::starEach [] X.env:=by rfl):PE X (.Call (.Name "len" p) [.Call (.Name "set" p2) [a] [] q] [] pos) (uZ K ta):=by
 subst hK
 refine ⟨fun pins s σ H Q I h=>Call_ (ld_blt I g1 m1 boot_len (callWith_builtin1 (args_cons (Call_ (ld_blt I g2 m2 boot_set (callWith_type1 (args_cons (thn (ha.run pins s σ H _ I h) fun v s1 hv=>args_nil ?_) na) na rfl))) rfl) rfl rfl))⟩
 obtain ⟨x,H1,I1,r1,l,ks,rfl,hq,few,q1⟩:=hv
 cases r1
 obtain ⟨its,r,there,_⟩:=I1.list hq
 have sz:its.toArray.size=ks.length:=by rw [List.size_toArray,←r.length,List.length_map]
 refine pZ (I1.ok.hd calm) there.isList (by simpa using r) (by rw [sz]; unfold scanBound; omega) fun h' tk got keep=>args_nil ?_
 rw [sz] at got
 obtain ⟨o,es,ep,t,ho,hex,hd,_,_,_,hf,hn⟩:=got
 have le:=uH ks ks.length
 have I2:Inv X pins σ H1 {s1 with heap:=h',toks:=tk}:=I1.kept fun b o e=>keep b o (Heap.lt_size e) e
 exact call_len_set ho hex hd hf (by rw [hn]; omega) ⟨.int (wd ks ks.length:Nat),H1,I2.tok _,⟨_,by rw [hn]⟩,q1⟩
end M
namespace Z
open PySem PySem.Spec PyProof.Rows L2 M
open Classical
def kP:List D→Option (List Key)
 | []=>some []
 | x::r=>match x.key,kP r with
  | some k,some ks=>some (k::ks)
  | _,_=>none
noncomputable def cW (a:Vl) (s:SD):R Vl:=match s.cont a with
 | some (.lst ds)=>match kP ds with
  | some ks=>if ks.length≤4000 then .ok (.d (.int (wd ks ks.length:Nat))) s else .bad
  | none=> .bad
 | _=> .bad
section
variable {G:Gc} {W:WX} {E:En} {s s' :SD} {p:Wr} {ta:TE} {fa:SD→R Vl}
theorem rE:∀{ds:List D} {us:List V} {ks:List Key},Reps G p ds us→kP ds=some ks→us=ks.map kV
 | [],us,ks,h,e=>by
  cases e
  exact h
 | x::r,us,ks,h,e=>by
  obtain ⟨v,vs,rfl,h1,h2⟩:=h
  unfold kP at e
  split at e
  ·rename_i k ks' e1 e2
   cases e
   rw [kh h1 e1,rE h2 e2]
   rfl
  ·cases e
theorem RE.lenSet (ha:RE G W ta fa):RE G W (uZ G.K ta) (z1 cW fa):=by
 refine RE.op1 (r:=fun x H1 Q=>∃(l:Addr) (ks:List Key),x= .ref l∧SqL G.K H1 l (ks.map kV)∧ks.length≤4000∧Q (.int (wd ks ks.length:Nat)) H1) ?_ ?_ ha
 ·intro E σ τ s θ p v a Q hl h hw
  obtain ⟨h0,ca,_⟩:=dq hl h
  unfold cW at hw
  split at hw
  ·rename_i ds e
   split at hw
   ·rename_i ks e1
    split at hw
    ·rename_i few
     obtain ⟨b,us,rfl,hb,r⟩:=(ca _ e).lst
     obtain rfl:=rE r e1
     exact ⟨b,ks,rfl, .of hb,few,bA h0 hl hw rfl⟩
    ·exact hw.elim
   ·exact hw.elim
  ·exact hw.elim
 ·intro a s c fs s'
  unfold cW
  (repeat' split)<;> (intro q; cases q)
theorem rC:∀zs:List Str,kP (zs.map .str)=some (zs.map .inr)
 | []=>rfl
 | z::zs=>by
  rw [List.map_cons,kP,rC zs]
  rfl
theorem rF:∀zs:List Int,kP (zs.map .int)=some (zs.map .inl)
 | []=>rfl
 | z::zs=>by
  rw [List.map_cons,kP,rF zs]
  rfl
end
def rInD (K:PySem.W.Frag) (neg:Bool):R2:=fun x y H Q=>∃(d:PyData) (xs:List PyData),Dp K H x d∧SeqAt.shaped d=true∧((Dp K H y (.list xs)∧SeqAt.shaped (.list xs)=true)∨(Dp K H y (.tuple xs)∧SeqAt.shaped (.tuple xs)=true))∧Q (.bl (if neg then !(xs.any fun y=>PyData.eqv y d) else xs.any fun y=>PyData.eqv y d)) H
section
variable {X:Cx} {j:Nat}
theorem yE (K:PySem.W.Frag) (hr:Room j X.A) (hK:X.K=K:=by rfl):OpR X (compareOp .In) (rInD K false):=by
 subst hK
 intro pins s σ H x y v u Q I rx ry h
 obtain ⟨d,xs,hd,sd,hy,q⟩:=h
 have hu:X.A.units+65<cLine:=by have:=hr.un; omega
 obtain ⟨as,r1⟩:=Dp.reads I d x v hd rx
 rcases hy with ⟨hy,sy⟩ | ⟨hy,sy⟩
 ·obtain ⟨bs,r2⟩:=Dp.reads I _ y u hy ry
  exact PySem.SeqAt.in_list_reads r2 r1 (SeqAt.canLay_of_shaped sy) (SeqAt.canLay_of_shaped sd) (PyProof.Rows.room_in_shaped sd hu) ⟨.bl _,H,I,rfl,q⟩
 ·obtain ⟨bs,r2⟩:=Dp.reads I _ y u hy ry
  exact PySem.SeqAt.in_tuple_reads r2 r1 (SeqAt.canLay_of_shaped sy) (SeqAt.canLay_of_shaped sd) (PyProof.Rows.room_in_shaped sd hu) ⟨.bl _,H,I,rfl,q⟩
end
noncomputable def Bn (neg:Bool) (s:SD):Option D→Option D→R Vl
 | some x,some y=>(match x.py,y.py with
  | some d,some (.list xs)=>if SeqAt.shaped d=true∧SeqAt.shaped (.list xs)=true then .ok (.d (.bl (if neg then !(xs.any fun y=>PyData.eqv y d) else xs.any fun y=>PyData.eqv y d))) s else .bad
  | some d,some (.tuple xs)=>if SeqAt.shaped d=true∧SeqAt.shaped (.tuple xs)=true then .ok (.d (.bl (if neg then !(xs.any fun y=>PyData.eqv y d) else xs.any fun y=>PyData.eqv y d))) s else .bad
  | _,_=> .bad)
 | _,_=> .bad
noncomputable def wA (neg:Bool) (a b:Vl) (s:SD):R Vl:=Bn neg s (s.cont a) (s.cont b)
section
variable {G:Gc} {E:En} {s:SD} {p:Wr} {a b:Vl} {neg:Bool}
theorem w_inD:wA neg a b s=Bn neg s (s.cont a) (s.cont b):=Eq.trans rfl rfl
theorem inDK_ok {x y:D} {d:PyData} {xs:List PyData} {r:Bool} (h1:x.py=some d) (h2:y.py=some (.list xs)) (s1:SeqAt.shaped d=true) (s2:SeqAt.shaped (.list xs)=true) (h:(xs.any fun y=>PyData.eqv y d)=r):Bn neg s (some x) (some y)= .ok (.d (.bl (if neg then !r else r))) s:=by
 unfold Bn
 simp only [h1,h2,s1,s2,h,and_self,if_true]
theorem p_inDa:cX G (rInD G.K neg) (wA neg):=by
 intro E σ τ s θ p v u a b Q hl h hw
 obtain ⟨h0,ca,cb⟩:=eJ hl h
 unfold wA Bn at hw
 split at hw
 ·rename_i e1 e2
  split at hw
  ·rename_i f1 f2
   split at hw
   ·rename_i hs
    exact ⟨_,_,gB (ca _ e1) f1,hs.1, .inl ⟨gB (cb _ e2) f2,hs.2⟩,bA h0 hl hw rfl⟩
   ·exact hw.elim
  ·rename_i f1 f2
   split at hw
   ·rename_i hs
    exact ⟨_,_,gB (ca _ e1) f1,hs.1, .inr ⟨gB (cb _ e2) f2,hs.2⟩,bA h0 hl hw rfl⟩
   ·exact hw.elim
  ·exact hw.elim
 ·exact hw.elim
theorem q_inDa:Op2 G (rInD G.K neg) (wA neg):=⟨p_inDa,by intros; unfold wA Bn; (repeat' split)<;> (intro q; cases q)⟩
end
def rRemD (K:PySem.W.Frag):V→List V→Hp→VK→Prop:=fun x vs H Q=>∃(l:Addr) (xs:List V) (y:V) (ds:List PyData) (d:PyData) (j:Nat),x= .ref l∧vs= [y]∧H l=some (.lst xs)∧DpAll K H xs ds∧Dp K H y d∧PyData.plainAll ds=true∧d.plain=true∧d.depth≤60∧SeqAt.dataPlace ds d=some j∧Q .non (upd H l (.lst (xs.eraseIdx j)))
theorem mt_remD {X:Cx} {K:PySem.W.Frag} (hu:X.A.units+64<cLine) (hK:X.K=K:=by rfl):MtR X "list.remove" (rRemD K):=by
 subst hK
 intro pins s σ H x vs v us Q I rx rv h
 obtain ⟨l,xs,y,ds,d,j,rfl,rfl,hH,h1,h2,p1,p2,dd,hj,q⟩:=h
 cases rx
 obtain ⟨u,rfl,ru⟩:=rv.one
 obtain ⟨z,its,n,r,hl,e⟩:=I.lstM hH
 obtain ⟨as,r1⟩:=Dp.readsAll I ds xs its h1 r
 obtain ⟨bs,r2⟩:=Dp.reads I d y u h2 ru
 have hsz:its.toArray.size≤sizeLine:=by rw [List.size_toArray]; omega
 have hlist:s.heap.IsList l its.toArray:=⟨_,e,rfl,n,rfl⟩
 refine PySem.SeqAt.remove_list_data (j:=j) hlist (xs:=ds) (as:=as) (bs:=bs) (d:=d) r1 r2 p1 p2 ?_ hj hsz ?_
 ·have:min (PyData.depthAll ds) d.depth≤60:=Nat.le_trans (Nat.min_le_right _ _) dd
  omega
 ·refine ⟨.non,_,I.lset (its' :=its.eraseIdx j) (t' :=s.toks) hH e ?_ (r.eraseIdx j) ?_,rfl,q⟩
  ·show its.toArray.eraseIdxIfInBounds j=(its.eraseIdx j).toArray
   rw [List.eraseIdxIfInBounds_toArray]
  ·exact Nat.le_trans (List.length_eraseIdx_le ..) (by have:=r.length; omega)
noncomputable def um (c z:D):Option (D×D):=match c with
 | .lst ds=>(match D.pys ds,z.py with
  | some xs,some d=>if PyData.plainAll xs=true∧d.plain=true∧d.depth≤60 then (match SeqAt.dataPlace xs d with
   | some j=>some (.lst (ds.eraseIdx j), .non)
   | none=>none) else none
  | _,_=>none)
 | _=>none
section
variable {G:Gc} {W:WX} {p:Wr} {ta tb:TE} {fa fb:SD→R Vl} {b:Vl}
theorem h_remD:Chg2 G (fun x y H Q=>rRemD G.K x [y] H Q) um:=by
 intro p c z y t b u Q e ho r
 unfold um at e
 split at e
 ·rename_i ds
  split at e
  ·rename_i xs d e1 e2
   split at e
   ·rename_i hp
    split at e
    ·rename_i j hj
     cases e
     obtain ⟨vs,e3,r3⟩:=ho
     exact ⟨.lst (vs.eraseIdx j), .non,rfl,fun le=>⟨_,upd_same,(r3.erase j).mono le⟩,fun q=>⟨b,vs,u,xs,d,j,rfl,rfl,e3,jY r3 e1,nr r e2,hp.1,hp.2.1,hp.2.2,hj,q⟩⟩
    ·cases e
   ·cases e
  ·cases e
 ·cases e
theorem RE.remD (ha:RE G W ta fa) (hb:RE G W tb fb):RE G W (tBM G.K "list" (rRemD G.K) ta (tCons tb tNil)) (zM2 isL (oB2 um) fa fb):=RE.bm nA (qS h_remD) qZ ha hb
end
def tAlt (t1 t2:TE):TE:=fun σ H Q=>t1 σ H Q∨t2 σ H Q
theorem pe_alt {X:Cx} {e:Expr} {t1 t2:TE} (h1:PE X e t1) (h2:PE X e t2):PE X e (tAlt t1 t2):=⟨fun pins s σ H Q I h=>h.elim (h1.run pins s σ H Q I) (h2.run pins s σ H Q I)⟩
def ofC (c:Str) (fa:SD→R Vl) (s:SD):Bool:=match fa s with
 | .ok a s' =>(match s'.cont a with
  | some (.obj k _)=>decide (k=c)
  | _=>false)
 | _=>false
noncomputable def mV (c:Str) (fa f1 f2:SD→R Vl):SD→R Vl:=fun s=>if ofC c fa s=true then f1 s else f2 s
section
variable {G:Gc} {W:WX} {t1 t2:TE} {fa f1 f2:SD→R Vl} {c:Str} {s:SD}
theorem RE.alt (h1:RE G W t1 f1) (h2:RE G W t2 f2):RE G W (tAlt t1 t2) (mV c fa f1 f2):=by
 intro E σ τ H s θ Q hN hR hw
 unfold mV at hw
 split at hw
 ·exact .inl (h1 E σ τ H s θ Q hN hR hw)
 ·exact .inr (h2 E σ τ H s θ Q hN hR hw)
theorem e_alt:mV c fa f1 f2 s=if ofC c fa s=true then f1 s else f2 s:=Eq.trans rfl rfl
end
def isBK (s:SD):Option D→Option D→R Vl
 | some (.bl a),some (.bl b)=> .ok (.d (.bl (decide (a=b)))) s
 | _,_=> .bad
def yH (a b:Vl) (s:SD):R Vl:=isBK s (s.cont a) (s.cont b)
section
variable {G:Gc} {E:En} {s:SD} {p:Wr} {a b:Vl}
theorem p_isB:cX G rIsB yH:=by
 intro E σ τ s θ p v u a b Q hl h hw
 obtain ⟨h0,ca,cb⟩:=eJ hl h
 unfold yH isBK at hw
 split at hw
 ·rename_i e1 e2
  obtain rfl:=(ca _ e1).bl
  obtain rfl:=(cb _ e2).bl
  exact ⟨_,_,rfl,rfl,bA h0 hl hw rfl⟩
 ·exact hw.elim
theorem q_isB:Op2 G rIsB yH:=⟨p_isB,by intros; unfold yH isBK; (repeat' split)<;> (intro q; cases q)⟩
end
noncomputable def extK (a:Vl) (s:SD):Option D→Option D→R Vl
 | some (.lst ds),some (.lst es)=>if ds.length+es.length≤sizeLine then (s.mod (.lst (ds++es)) a).bind fun _ s' => .ok (.d .non) s' else .bad
 | _,_=> .bad
noncomputable def oExt (a b:Vl) (s:SD):R Vl:=extK a s (s.cont a) (s.cont b)
section
variable {G:Gc} {W:WX} {E:En} {s s' :SD} {p:Wr} {ta tb:TE} {fa fb:SD→R Vl} {a b:Vl} {ds es:List D}
def nonK:Unit→SD→R Vl:=fun _ s' => .ok (.d .non) s'
theorem x_non {u:Unit}:nonK u s= .ok (.d .non) s:=Eq.trans rfl rfl
theorem w_ext:oExt a b s=extK a s (s.cont a) (s.cont b):=Eq.trans rfl rfl
theorem By:extK a s (some (.lst ds)) (some (.lst es))=if ds.length+es.length≤sizeLine then (s.mod (.lst (ds++es)) a).bind nonK else .bad:=Eq.trans rfl rfl
theorem p_ext:cX G (fun x y H Q=>rExtend x [y] H Q) oExt:=by
 intro E σ τ s θ p v u a b Q hl h hw
 obtain ⟨_,_,cb⟩:=eJ hl h
 unfold oExt extK at hw
 split at hw
 ·rename_i ds es e1 e2
  split at hw
  ·rename_i hz
   rw [ae] at hw
   cases e3:s.mod (.lst (ds++es)) a with
   | bad=>rw [e3] at hw; exact hw.elim
   | ex _ _ _=>exact (kD _ _ _ _ _ _ e3).elim
   | ok _ s' =>
    rw [e3] at hw
    obtain ⟨b',us,rfl,e4,r2⟩:=(cb _ e2).lst
    obtain ⟨b,rfl,ho,go⟩:=mod1 hl (h.pop1 (by simp; omega)) e1 e3
    obtain ⟨vs,e5,r1⟩:=ho
    obtain ⟨le,hl',hS⟩:=go (.lst (vs++us)) fun le=>⟨_,upd_same,(r1.mono le).append (r2.mono le)⟩
    exact ⟨b,b',vs,us,rfl,rfl,e5,e4,by rw [r1.len,r2.len]; exact hz,hw .non _ (.snoc (hS.push (show Rep G _ .non .non from rfl)) hl' rfl)⟩
  ·exact hw.elim
 ·exact hw.elim
theorem oExt_nx:∀a b s c fs s',oExt a b s≠ .ex c fs s' :=by
 intro a b s c fs s'
 unfold oExt extK
 split
 ·split
  ·rename_i ds es _ _ _
   cases e3:s.mod (.lst (ds++es)) a with
   | bad=>intro q; cases q
   | ex _ _ _=>exact (kD _ _ _ _ _ _ e3).elim
   | ok _ s' =>intro q; cases q
  ·intro q; cases q
 ·intro q; cases q
theorem RE.extC (ha:RE G W ta fa) (hb:RE G W tb fb):RE G W (tBM G.K "list" rExtend ta (tCons tb tNil)) (zM2 isL oExt fa fb):=RE.bm nA p_ext oExt_nx ha hb
end
end Z

namespace Z
open PySem PySem.Spec PyProof.Rows L2 M
section
variable {X:Cx} {N ps:List Str} {sc:Scope} {j:Nat} {a b e:Expr} {es:List Expr} {ta tb te:TE} {x:Str} {pos pos' p:Pos} {t:TA} {r:List V→Hp→VK→Prop}
theorem ixY (K:PySem.W.Frag) (hr:Room j X.A) (ha:PE X a ta) (hb:PE X b tb) (hs:PlainIx b:=by exact fun _ _=>rfl) (hK:X.K=K:=by rfl):PE X (.Subscript a b pos) (tOp (rIxZ K) ta tb):=pe_ix (ix_Z hr.units hK) ha hb hs
theorem eqY (K:PySem.W.Frag) (hr:Room j X.A) (hK:X.K=K:=by rfl):OpR X (compareOp .Eq) (rEqZ K):=op_eqZ hr.units hK
theorem neY (K:PySem.W.Frag) (hr:Room j X.A) (hK:X.K=K:=by rfl):OpR X (compareOp .NotEq) (rNeZ K):=op_neZ hr.units hK
theorem inY (K:PySem.W.Frag) (hr:Room j X.A) (hK:X.K=K:=by rfl):OpR X (compareOp .In) (rInZ K false):=op_inZ hr.units hK
theorem niY (K:PySem.W.Frag) (hr:Room j X.A) (hK:X.K=K:=by rfl):OpR X (compareOp .NotIn) (rInZ K true):=yC hr.units hK
theorem fdY (K:PySem.W.Frag) {f:Str} (he:PE X e te) (hb:attributeBase e f X.env (eval e X.env)=eval e X.env:=by rfl) (hK:X.K=K:=by rfl):PE X (.Attribute e f pos) (tFld K te f):=m_fldZ he hb hK
theorem cmY {op:CmpOp} {r:R2} (ho:OpR X (compareOp op) r) (ha:PE X a ta) (hb:PE X b tb) (hm:behindInMarks op b=false:=by first | exact nomark _ | rfl):PE X (.Compare a [op] [b] pos) (tOp r ta tb):=pe_cmpR ho ha hb hm
theorem ctY {op:CmpOp} {r:R2} (ho:OpR X (compareOp op) r) (ha:PE X a ta) (hb:PE X b tb) (hm:behindInMarks op b=false:=by first | exact nomark _ | rfl):PT X (.Compare a [op] [b] pos) (tTest (tOp r ta tb)):=pt_cmpR ho ha hb hm
theorem stY (i:Nat) (S:FnScope N ps sc) (he:PE X e te) (hN:X.N=N:=by rfl) (hi:X.N[i]? =some x:=by rfl) (hx:Loc X.env.scope x:=by first | exact Or.inl rfl | exact Or.inr rfl) (hs:swapsWith e (some (.Name x pos')) pos.line X.env=pure false:=by rfl)
  (hf:X.fn x=true∨X.env.scope.names.lookup x=some .local:=by first | exact .inl rfl | exact .inr rfl | assumption):PS X (.Assign [.Name x pos'] e pos) (tAsg te (gName i)):=ps_set (i:=i) (hN ▸ S.nd) hi hx he hs hf
theorem gnY (i:Nat) (S:FnScope N ps sc) (hN:X.N=N:=by rfl) (hi:X.N[i]? =some x:=by rfl) (hx:Loc X.env.scope x:=by first | exact Or.inl rfl | exact Or.inr rfl)
  (hf:X.fn x=true∨X.env.scope.names.lookup x=some .local:=by first | exact .inl rfl | exact .inr rfl | assumption):PG X (.Name x pos) (gName i):=pg_name (i:=i) (hN ▸ S.nd) hi hx hf
section
variable {W:WX} {k n:Nat} {C:Addr} {F:FnV} {dvs:List V} {K:PySem.W.Frag} {mg:Str→Option Value}
theorem clY (c:CalZ X.prog X.w K mg X.base k x n F dvs) (hr:Room j X.A) (tk:Takes X W) (ha:PA X (e::es) t) (hk:k≤j:=by decide) (hg:Gl X x:=by exact rfl)
  (hdb:(x == ("__debug__" :Str))=false:=by decide) (he:starEach (e::es) X.env=(false,eval e X.env)::starEach es X.env:=by rfl) (hpl:(backTo pos (starEach es X.env)).any (·.1)=false:=by rfl) (hK:X.K=K:=by rfl) (hM:X.mg=mg:=by rfl):
  PE X (.Call (.Name x p) (e::es) [] pos) (tCallSD (spF ⟨K,mg⟩ n F) dvs (WE W) t):=m_cK c hr hk tk hg ha hdb he hpl hK hM
theorem mkY (c:MakZ X.prog X.w K mg X.base k x C n F dvs) (hr:Room j X.A) (tk:Takes X W) (ha:PA X (e::es) t) (hk:k+1≤j:=by decide) (hg:Gl X x:=by exact rfl)
  (hdb:(x == ("__debug__" :Str))=false:=by decide) (he:starEach (e::es) X.env=(false,eval e X.env)::starEach es X.env:=by rfl) (hpl:(backTo pos (starEach es X.env)).any (·.1)=false:=by rfl) (hK:X.K=K:=by rfl) (hM:X.mg=mg:=by rfl):
  PE X (.Call (.Name x p) (e::es) [] pos) (sN C (spF ⟨K,mg⟩ n F) dvs (WE W) t):=m_mkK c hr hk tk hg ha hdb he hpl hK hM
end
theorem bnY {id:String} (hc:CallR X (.builtin id) r) (hm:X.mg x=none) (ha:PA X (e::es) t) (hg:Gl X x:=by exact rfl) (hv:bootBuiltins x=some (.builtin id):=by decide+kernel) (hn:x≠ "__name__" :=by decide) (hdb:(x == ("__debug__" :Str))=false:=by decide)
  (he:starEach (e::es) X.env=(false,eval e X.env)::starEach es X.env:=by rfl) (hpl:(backTo pos (starEach es X.env)).any (·.1)=false:=by rfl):PE X (.Call (.Name x p) (e::es) [] pos) (tCB r t):=pe_callB hc hg hm hv ha hn hdb he hpl
theorem tyY {T:String} (hc:CallR X (.type T) r) (hm:X.mg x=none) (ha:PA X (e::es) t) (hg:Gl X x:=by exact rfl) (hv:bootBuiltins x=some (.type T):=by decide+kernel) (hn:x≠ "__name__" :=by decide) (hdb:(x == ("__debug__" :Str))=false:=by decide)
  (he:starEach (e::es) X.env=(false,eval e X.env)::starEach es X.env:=by rfl) (hpl:(backTo pos (starEach es X.env)).any (·.1)=false:=by rfl):PE X (.Call (.Name x p) (e::es) [] pos) (tCB r t):=pe_callTy hc hg hm hv ha hn hdb he hpl
theorem btY (s:String) (hm:X.mg x=none) (hg:Gl X x:=by exact rfl) (hv:bootBuiltins x=some (.type s):=by decide+kernel) (hn:x≠ "__name__" :=by decide) (hd:(x == ("__debug__" :Str))=false:=by decide):PE X (.Name x pos) (tC (.ty s)):=pe_bltn (v:= .ty s) hg hm hv rfl hn hd
theorem glY {C:Addr} (hm:X.mg x=some (.ref C)) (hg:Gl X x:=by exact rfl) (hd:(x == ("__debug__" :Str))=false:=by decide):PE X (.Name x pos) (tC (.ref C)):=pe_glob (v:= .ref C) hg hm rfl hd
section
variable {elt tg iter:Expr} {ifs:List Expr} {scope:Scope} {spos py:Pos} {wi:TI} {g:TG} {tt:TT} {y:Str}
theorem lcY (own:List (Str×Nat)) (S:FnScope N ps sc) (hi:PI X tg iter wi)
  (hg:∀{s:Shared} {H:Hp} {C:Addr} {cl:List (Str×Addr)} {fp:List Addr},PG (X.blk s H scope (compEnvC scope cl C X.env) fp) tg g) (ht:∀{s:Shared} {H:Hp} {C:Addr} {cl:List (Str×Addr)} {fp:List Addr},PTs (X.blk s H scope (compEnvC scope cl C X.env) fp) ifs tt)
  (he:∀{s:Shared} {H:Hp} {C:Addr} {cl:List (Str×Addr)} {fp:List Addr},PE (X.blk s H scope (compEnvC scope cl C X.env) fp) elt te) (ok:blkC N sc scope own=true:=by decide+kernel) (hc:X.calm=true:=by rfl) (hN:X.N=N:=by rfl) (hsc:X.env.scope=sc:=by rfl)
  (hs:∀x,foldedSetIterable iter X.env x=pure x:=by intro _; rfl):PE X (.ListComp elt [⟨tg,iter,ifs,0⟩] scope pos) (tLc wi g tt te (own.map (·.2))):=
 pe_lc hc (hN ▸ S.nd) hi (by rw [hN,hsc]; exact blkOk_by ok) (fun _ _ _ _ _=>hg) (fun _ _ _ _ _=>ht) (fun _ _ _ _ _=>he) hs
theorem slY (i:Nat) (own:List (Str×Nat)) (S:FnScope N ps sc) (hi:PI X tg iter wi)
  (hg:∀{s:Shared} {H:Hp} {C:Addr} {cl:List (Str×Addr)} {fp:List Addr},PG (X.blk s H scope (compEnvC scope cl C X.env) fp) tg g) (ht:∀{s:Shared} {H:Hp} {C:Addr} {cl:List (Str×Addr)} {fp:List Addr},PTs (X.blk s H scope (compEnvC scope cl C X.env) fp) ifs tt)
  (he:∀{s:Shared} {H:Hp} {C:Addr} {cl:List (Str×Addr)} {fp:List Addr},PE (X.blk s H scope (compEnvC scope cl C X.env) fp) elt te) (ok:blkC N sc scope own=true:=by decide+kernel) (hc:X.calm=true:=by rfl) (hN:X.N=N:=by rfl) (hsc:X.env.scope=sc:=by rfl)
  (hy:X.N[i]? =some y:=by rfl) (hyl:X.env.scope.names.lookup y=some .local:=by rfl) (hk:X.env.scope.kind= .function:=by rfl) (hl:(py.line == pos.line)=true:=by rfl) (ha:(scope.names.any fun (n,k)=>n == y&&(k == .local || k == .cell))=false:=by decide+kernel)
  (hs:∀x,foldedSetIterable iter X.env x=pure x:=by intro _; rfl):PS X (.Assign [.Name y py] (.ListComp elt [⟨tg,iter,ifs,0⟩] scope pos) spos) (tAsg (tLc wi g tt te (own.map (·.2))) (gName i)):=
 ps_setLc hc (hN ▸ S.nd) hy hyl (sw_true hk hyl hl ha) hi (by rw [hN,hsc]; exact blkOk_by ok) (fun _ _ _ _ _=>hg) (fun _ _ _ _ _=>ht) (fun _ _ _ _ _=>he) hs
end
end
section
variable {X:Cx} {N ps:List Str} {sc:Scope} {pos:Pos} {te:TE} {elt tg iter:Expr} {ifs:List Expr} {scope:Scope} {wi:TI} {g:TG} {tt:TT}
theorem lcY2 (own:List (Str×Nat)) (S:FnScope N ps sc) (hi:PI X tg iter wi)
  (hg:∀{s:Shared} {H:Hp} {C:Addr} {cl:List (Str×Addr)} {fp:List Addr},PG (X.blk s H scope (compEnvC scope cl C X.env) fp) tg g) (ht:∀{s:Shared} {H:Hp} {C:Addr} {cl:List (Str×Addr)} {fp:List Addr},PTs (X.blk s H scope (compEnvC scope cl C X.env) fp) ifs tt)
  (he:∀{s:Shared} {H:Hp} {C:Addr} {cl:List (Str×Addr)} {fp:List Addr},PE (X.blk s H scope (compEnvC scope cl C X.env) fp) elt te) (ok:blkC N X.env.scope scope own=true:=by kernel_rfl) (hc:X.calm=true:=by rfl) (hN:X.N=N:=by rfl)
  (hs:∀x,foldedSetIterable iter X.env x=pure x:=by intro _; rfl):PE X (.ListComp elt [⟨tg,iter,ifs,0⟩] scope pos) (tLc wi g tt te (own.map (·.2))):=
 pe_lc hc (hN ▸ S.nd) hi (by rw [hN]; exact blkOk_by ok) (fun _ _ _ _ _=>hg) (fun _ _ _ _ _=>ht) (fun _ _ _ _ _=>he) hs
end
end Z

set_option maxHeartbeats 4000000
namespace T
open PySem PySem.Spec PyProof.Rows L2 M Z
open Classical
structure Txt (K:PySem.W.Frag) (mg:Str→Option Value) (Ca Cb Cc Cd Ce Cf Cg Ch Ci:Addr):Prop where
 z_all:mg "all" =none
 z_bool:mg "bool" =none
 z_dict:mg "dict" =none
 z_enumerate:mg "enumerate" =none
 z_int:mg "int" =none
 z_isinstance:mg "isinstance" =none
 z_len:mg "len" =none
 z_list:mg "list" =none
 z_min:mg "min" =none
 z_range:mg "range" =none
 z_set:mg "set" =none
 z_sorted:mg "sorted" =none
 z_str:mg "str" =none
 z_zip:mg "zip" =none
 g_LETTERS:∃u,mg "LETTERS" =some u∧RelV (.str "abcdefghijklmnopqrstuvwxyz") u
 g_MOST_LETTERS:∃u,mg "MOST_LETTERS" =some u∧RelV (.int 12) u
 g_MOST:∃u,mg "MOST" =some u∧RelV (.int 1000000000000000000000000000000000000000000000000000000000000) u
 g_MOST_PLACES:∃u,mg "MOST_PLACES" =some u∧RelV (.int 14) u
 g_MOST_TIES:∃u,mg "MOST_TIES" =some u∧RelV (.int 40) u
 m_FlowError:mg "FlowError" =some (.ref Ca)
 m_BadQuestion:mg "BadQuestion" =some (.ref Cb)
 m_Tie:mg "Tie" =some (.ref Cc)
 m_Net:mg "Net" =some (.ref Cd)
 m_Rest:mg "Rest" =some (.ref Ce)
 m_Apart:mg "Apart" =some (.ref Cf)
 m_Question:mg "Question" =some (.ref Cg)
 m_TiesApart:mg "TiesApart" =some (.ref Ch)
 m_PlacesApart:mg "PlacesApart" =some (.ref Ci)
 c_Tie:Cls K Cc
 c_Net:Cls K Cd
 c_Rest:Cls K Ce
 c_Apart:Cls K Cf
 c_Question:Cls K Cg
 c_TiesApart:Cls K Ch
 c_PlacesApart:Cls K Ci
 n_head_Tie:NoAttr K Cc "head"
 n_heads_Rest:NoAttr K Ce "heads"
 n_last_given_Net:NoAttr K Cd "last_given"
 n_least_Tie:NoAttr K Cc "least"
 n_many_Rest:NoAttr K Ce "many"
 n_most_Tie:NoAttr K Cc "most"
 n_names_Net:NoAttr K Cd "names"
 n_names_PlacesApart:NoAttr K Ci "names"
 n_names_TiesApart:NoAttr K Ch "names"
 n_number_Tie:NoAttr K Cc "number"
 n_price_Tie:NoAttr K Cc "price"
 n_rooms_Rest:NoAttr K Ce "rooms"
 n_rows_Net:NoAttr K Cd "rows"
 n_rows_PlacesApart:NoAttr K Ci "rows"
 n_rows_TiesApart:NoAttr K Ch "rows"
 n_source_PlacesApart:NoAttr K Ci "source"
 n_source_TiesApart:NoAttr K Ch "source"
 n_starts_Rest:NoAttr K Ce "starts"
 n_tail_Tie:NoAttr K Cc "tail"
 n_target_PlacesApart:NoAttr K Ci "target"
 n_target_TiesApart:NoAttr K Ch "target"
 n_wall_Apart:NoAttr K Cf "wall"
 n_ways_Apart:NoAttr K Cf "ways"
 in_Apart:C8.InsC K Cf
 in_TiesApart:C8.InsC K Ch
 in_PlacesApart:C8.InsC K Ci
 in_Question:C8.InsC K Cg
 yt_Question:YT K Cg
 so_TiesApart_Question:PySem.W.subIn K (.ref Ch) (.ref Cg)=some true
 so_PlacesApart_Question:PySem.W.subIn K (.ref Ci) (.ref Cg)=some true
 xt_FlowError:XT K Ca
 xc_BadQuestion:XCls K Cb
 s_BadQuestion_FlowError:PySem.W.subIn K (.ref Cb) (.ref Ca)=some true
 s_BadQuestion_BadQuestion:PySem.W.subIn K (.ref Cb) (.ref Cb)=some true
 xn_BadQuestion_why:PySem.W.findIn K (.ref Cb) "why" =some none
noncomputable def is_Apart:Str→Option Bool:=fun c=>  if c= "Apart" then some true else none
noncomputable def is_Question:Str→Option Bool:=fun c=>if c= "TiesApart" then some true else if c= "PlacesApart" then some true else if c= "Question" then some true else none
def tk_FlowError:List (Str×Bool):= [("BadQuestion",true)]
def isx_BadQuestion:List (Str×Bool):= [("BadQuestion",true)]
def xf_why:List (Str×Bool):= [("BadQuestion",true)]
section
variable {K:PySem.W.Frag} {mg:Str→Option Value} {Ca Cb Cc Cd Ce Cf Cg Ch Ci:Addr}
theorem Txt.f_head_Tie (T:Txt K mg Ca Cb Cc Cd Ce Cf Cg Ch Ci):dt ⟨K,mg⟩ "head" ["Tie"]:=my T.m_Tie T.c_Tie T.n_head_Tie
theorem Txt.f_heads_Rest (T:Txt K mg Ca Cb Cc Cd Ce Cf Cg Ch Ci):dt ⟨K,mg⟩ "heads" ["Rest"]:=my T.m_Rest T.c_Rest T.n_heads_Rest
theorem Txt.f_last_given_Net (T:Txt K mg Ca Cb Cc Cd Ce Cf Cg Ch Ci):dt ⟨K,mg⟩ "last_given" ["Net"]:=my T.m_Net T.c_Net T.n_last_given_Net
theorem Txt.f_least_Tie (T:Txt K mg Ca Cb Cc Cd Ce Cf Cg Ch Ci):dt ⟨K,mg⟩ "least" ["Tie"]:=my T.m_Tie T.c_Tie T.n_least_Tie
theorem Txt.f_many_Rest (T:Txt K mg Ca Cb Cc Cd Ce Cf Cg Ch Ci):dt ⟨K,mg⟩ "many" ["Rest"]:=my T.m_Rest T.c_Rest T.n_many_Rest
theorem Txt.f_most_Tie (T:Txt K mg Ca Cb Cc Cd Ce Cf Cg Ch Ci):dt ⟨K,mg⟩ "most" ["Tie"]:=my T.m_Tie T.c_Tie T.n_most_Tie
theorem Txt.f_names_Net (T:Txt K mg Ca Cb Cc Cd Ce Cf Cg Ch Ci):dt ⟨K,mg⟩ "names" ["Net"]:=my T.m_Net T.c_Net T.n_names_Net
theorem Txt.f_names_PlacesApart (T:Txt K mg Ca Cb Cc Cd Ce Cf Cg Ch Ci):dt ⟨K,mg⟩ "names" ["PlacesApart"]:=my T.m_PlacesApart T.c_PlacesApart T.n_names_PlacesApart
theorem Txt.f_names_TiesApart (T:Txt K mg Ca Cb Cc Cd Ce Cf Cg Ch Ci):dt ⟨K,mg⟩ "names" ["TiesApart"]:=my T.m_TiesApart T.c_TiesApart T.n_names_TiesApart
theorem Txt.f_number_Tie (T:Txt K mg Ca Cb Cc Cd Ce Cf Cg Ch Ci):dt ⟨K,mg⟩ "number" ["Tie"]:=my T.m_Tie T.c_Tie T.n_number_Tie
theorem Txt.f_price_Tie (T:Txt K mg Ca Cb Cc Cd Ce Cf Cg Ch Ci):dt ⟨K,mg⟩ "price" ["Tie"]:=my T.m_Tie T.c_Tie T.n_price_Tie
theorem Txt.f_rooms_Rest (T:Txt K mg Ca Cb Cc Cd Ce Cf Cg Ch Ci):dt ⟨K,mg⟩ "rooms" ["Rest"]:=my T.m_Rest T.c_Rest T.n_rooms_Rest
theorem Txt.f_rows_Net (T:Txt K mg Ca Cb Cc Cd Ce Cf Cg Ch Ci):dt ⟨K,mg⟩ "rows" ["Net"]:=my T.m_Net T.c_Net T.n_rows_Net
theorem Txt.f_rows_PlacesApart (T:Txt K mg Ca Cb Cc Cd Ce Cf Cg Ch Ci):dt ⟨K,mg⟩ "rows" ["PlacesApart"]:=my T.m_PlacesApart T.c_PlacesApart T.n_rows_PlacesApart
theorem Txt.f_rows_TiesApart (T:Txt K mg Ca Cb Cc Cd Ce Cf Cg Ch Ci):dt ⟨K,mg⟩ "rows" ["TiesApart"]:=my T.m_TiesApart T.c_TiesApart T.n_rows_TiesApart
theorem Txt.f_source_PlacesApart (T:Txt K mg Ca Cb Cc Cd Ce Cf Cg Ch Ci):dt ⟨K,mg⟩ "source" ["PlacesApart"]:=my T.m_PlacesApart T.c_PlacesApart T.n_source_PlacesApart
theorem Txt.f_source_TiesApart (T:Txt K mg Ca Cb Cc Cd Ce Cf Cg Ch Ci):dt ⟨K,mg⟩ "source" ["TiesApart"]:=my T.m_TiesApart T.c_TiesApart T.n_source_TiesApart
theorem Txt.f_starts_Rest (T:Txt K mg Ca Cb Cc Cd Ce Cf Cg Ch Ci):dt ⟨K,mg⟩ "starts" ["Rest"]:=my T.m_Rest T.c_Rest T.n_starts_Rest
theorem Txt.f_tail_Tie (T:Txt K mg Ca Cb Cc Cd Ce Cf Cg Ch Ci):dt ⟨K,mg⟩ "tail" ["Tie"]:=my T.m_Tie T.c_Tie T.n_tail_Tie
theorem Txt.f_target_PlacesApart (T:Txt K mg Ca Cb Cc Cd Ce Cf Cg Ch Ci):dt ⟨K,mg⟩ "target" ["PlacesApart"]:=my T.m_PlacesApart T.c_PlacesApart T.n_target_PlacesApart
theorem Txt.f_target_TiesApart (T:Txt K mg Ca Cb Cc Cd Ce Cf Cg Ch Ci):dt ⟨K,mg⟩ "target" ["TiesApart"]:=my T.m_TiesApart T.c_TiesApart T.n_target_TiesApart
theorem Txt.f_wall_Apart (T:Txt K mg Ca Cb Cc Cd Ce Cf Cg Ch Ci):dt ⟨K,mg⟩ "wall" ["Apart"]:=my T.m_Apart T.c_Apart T.n_wall_Apart
theorem Txt.f_ways_Apart (T:Txt K mg Ca Cb Cc Cd Ce Cf Cg Ch Ci):dt ⟨K,mg⟩ "ways" ["Apart"]:=my T.m_Apart T.c_Apart T.n_ways_Apart
theorem Txt.is_Apart (T0:Txt K mg Ca Cb Cc Cd Ce Cf Cg Ch Ci):IsOk ⟨K,mg⟩ Cf is_Apart false:=by
 refine ⟨fun c b C' h hm=>?_,fun h=>nomatch h⟩
 unfold T.is_Apart at h
 split at h
 ·rename_i e
  subst e
  cases h
  have hm:mg "Apart" =some (.ref C'):=hm
  rw [T0.m_Apart] at hm
  cases hm
  exact ⟨T0.in_Apart,Z.kit_self⟩
 ·cases h
theorem Txt.is_Question (T0:Txt K mg Ca Cb Cc Cd Ce Cf Cg Ch Ci):IsOk ⟨K,mg⟩ Cg is_Question false:=by
 refine ⟨fun c b C' h hm=>?_,fun h=>nomatch h⟩
 unfold T.is_Question at h
 split at h
 ·rename_i e
  subst e
  cases h
  have hm:mg "TiesApart" =some (.ref C'):=hm
  rw [T0.m_TiesApart] at hm
  cases hm
  exact ⟨T0.in_TiesApart,T0.yt_Question.kit T0.so_TiesApart_Question⟩
 ·split at h
  ·rename_i e
   subst e
   cases h
   have hm:mg "PlacesApart" =some (.ref C'):=hm
   rw [T0.m_PlacesApart] at hm
   cases hm
   exact ⟨T0.in_PlacesApart,T0.yt_Question.kit T0.so_PlacesApart_Question⟩
  ·split at h
   ·rename_i e
    subst e
    cases h
    have hm:mg "Question" =some (.ref C'):=hm
    rw [T0.m_Question] at hm
    cases hm
    exact ⟨T0.in_Question,Z.kit_self⟩
   ·cases h
theorem Txt.tk_FlowError (T0:Txt K mg Ca Cb Cc Cd Ce Cf Cg Ch Ci):qs ⟨K,mg⟩ (.ref Ca) (pick tk_FlowError):=xM T0.xt_FlowError ⟨⟨_,T0.m_BadQuestion,T0.s_BadQuestion_FlowError⟩,trivial⟩
theorem Txt.isx_BadQuestion (T0:Txt K mg Ca Cb Cc Cd Ce Cf Cg Ch Ci):IsXOk ⟨K,mg⟩ (.ref Cb) (.ref Cb) (pick isx_BadQuestion) true:=isX_ref T0.xc_BadQuestion.toXT ⟨⟨_,T0.m_BadQuestion,T0.xc_BadQuestion,T0.s_BadQuestion_BadQuestion⟩,trivial⟩
theorem Txt.xf_why (T0:Txt K mg Ca Cb Cc Cd Ce Cf Cg Ch Ci):XfOk ⟨K,mg⟩ "why" (yy xf_why):=xf_of ⟨⟨_,T0.m_BadQuestion,T0.xc_BadQuestion,T0.xn_BadQuestion_why⟩,trivial⟩
end
structure DD (K:PySem.W.Frag) (mg:Str→Option Value) (Ca Cb Cc Cd Ce Cf Cg Ch Ci:Addr):Prop where
 d_Lnumber:Df K mg "_law_number" lX ["_law_script","_law_k"]
 d_Lnames:Df K mg "_law_names" oH ["_law_number_here","_law_many"]
 d_Net_init:Dk K mg "Net" Cd "Net.__init__" jS ["self"]
 d_are_signs:Df K mg "are_signs" iD ["text","signs"]
 d_is_name:Df K mg "is_name" lW ["thing"]
 d_Net_put_place:Dm K Cd "put_place" "Net.put_place" dW ["self","name"]
 d_is_whole:Df K mg "is_whole" jO ["thing"]
 d_Net_tie_of:Dm K Cd "tie_of" "Net.tie_of" gh ["self","number"]
 d_Net_drop_tie:Dm K Cd "drop_tie" "Net.drop_tie" eI ["self","number"]
 d_Lgreat:Df K mg "_law_great" oJ ["_law_script","_law_k"]
 d_Lroom:Df K mg "_law_room" tj ["_law_script","_law_k","_law_number_here"]
 d_Lrow:Df K mg "_law_row" yf ["_law_script","_law_k","_law_many"]
 d_Net_need_place:Dm K Cd "need_place" "Net.need_place" dw ["self","name"]
 d_is_among:Df K mg "is_among" jP ["thing","least","most"]
 d_need_room:Df K mg "need_room" iA ["least","most"]
 d_need_price:Df K mg "need_price" gc ["price"]
 d_Tie_init:Dk K mg "Tie" Cc "Tie.__init__" jQ ["self","number","tail","head","least","most","price"]
 d_Net_put_numbered:Dm K Cd "put_numbered" "Net.put_numbered" cK ["self","number","tail","head","least","most","price"]
 d_Net_put_tie:Dmd K Cd "put_tie" "Net.put_tie" aY ["self","tail","head","least","most","price"] [.int 0, .non, .int 0]
 d_Lchanged:Df K mg "_law_changed" jU ["_law_net","_law_rows","_law_names_here","_law_script","_law_k"]
 d_Net_copied:Dm K Cd "copied" "Net.copied" gj ["self"]
 d_need_ends:Df K mg "need_ends" iB ["net","source","target"]
 d_Net_places:Dm K Cd "places" "Net.places" gi ["self"]
 d_Net_ties:Dm K Cd "ties" "Net.ties" jR ["self"]
 d_TiesApart_init:Dk K mg "TiesApart" Ch "TiesApart.__init__" du ["self","net","source","target"]
 d_BadQuestion_init:DxZ K mg "BadQuestion" Cb "BadQuestion.__init__" aQ "why" "why"
 d_PlacesApart_init:Dk K mg "PlacesApart" Ci "PlacesApart.__init__" cJ ["self","net","source","target"]
 d_Lput_question:Df K mg "_law_put_question" dX ["_law_net","_law_way","_law_source","_law_target"]
 d_Rest_init:Dk K mg "Rest" Ce "Rest.__init__" iG ["self","many"]
 d_Rest_put_arc:Dmd K Ce "put_arc" "Rest.put_arc" aR ["self","tail","head","room","back"] [.int 0]
 d_Rest_lets:Dm K Ce "lets" "Rest.lets" iF ["self","half","is_endless"]
 d_Rest_walked:Dm K Ce "walked" "Rest.walked" eZ ["self","source","is_endless"]
 d_Rest_way_to:Dm K Ce "way_to" "Rest.way_to" eY ["self","came","target"]
 d_Rest_change:Dm K Ce "change" "Rest.change" fg ["self","half","amount"]
 d_Rest_lift:Dm K Ce "lift" "Rest.lift" iE ["self","source","target"]
 d_Rest_back_of:Dm K Ce "back_of" "Rest.back_of" eH ["self","arc"]
 d_shortened:Df K mg "shortened" iz ["way","heads","start"]
 d_ways_in:Df K mg "ways_in" lV ["used","tails","heads","start","goal"]
 d_Rest_reached:Dm K Ce "reached" "Rest.reached" eG ["self","source"]
 d_Apart_init:Dk K mg "Apart" Cf "Apart.__init__" gm ["self","ways","wall"]
 d_TiesApart_answer:Dm K Ch "answer" "TiesApart.answer" cI ["self"]
 d_PlacesApart_answer:Dm K Ci "answer" "PlacesApart.answer" bW ["self"]
 d_Lway_right:Df K mg "_law_way_right" gk ["_law_way","_law_rows","_law_source","_law_target"]
 d_Lcome_to:Df K mg "_law_come_to" jT ["_law_rows","_law_source","_law_shut"]
 d_Lties_right:Df K mg "_law_ties_right" fj ["_law_found","_law_rows","_law_source","_law_target"]
 d_Lplaces_right:Df K mg "_law_places_right" dY ["_law_found","_law_rows","_law_names_here","_law_source","_law_target"]
 d_Lright:Df K mg "_law_right" oG ["_law_found","_law_way","_law_rows","_law_names_here","_law_source","_law_target"]
 d_Ltold:Df K mg "_law_told" tf ["_law_found"]
 d_Lasked:Df K mg "_law_asked" oK ["_law_net","_law_rows","_law_names_here","_law_number_here"]
section
variable {P:Program} {w:World} {K:PySem.W.Frag} {mg:Str→Option Value} {base:Heap}
theorem mH {x:Str} {st:Stmt} {N ps:List Str} {k n:Nat} {fz:SD→R Fl} (D:M.Df K mg x st ps) (S:FnScope N ps (L2.defScope st))
  (hb:∀{f:Addr} {cdv:Value} {A:Around} {outer:List Env} {s:Shared} {H:Hp} {E:XK},Room k (A.deeper (envOfC x (L2.defScope st) s.heap.objs.size f cdv))→(A.deeper (envOfC x (L2.defScope st) s.heap.objs.size f cdv)).units+1<cLine→Takes (cxOf (L2.CX P w) P w K mg base N x (L2.defScope st) f cdv A outer s H E) (fun cls d _ H=>E cls d H)→
   ∃t,PSs (cxOf (L2.CX P w) P w K mg base N x (L2.defScope st) f cdv A outer s H E) (L2.defBody st) t∧RS ⟨K,mg⟩ (fun cls d _ H=>E cls d H) t fz) (hn:ps.length≤N.length:=by decide) (hn2:n=ps.length:=by rfl):CalZ P w K mg base (k+1) x n (zFn N.length fz) []:=
 calZ_of D S hn hn2 fun f cdv A outer s H E hr=>hb hr (hu_of hr) (takes_of (X:=cxOf (L2.CX P w) P w K mg base N x (L2.defScope st) f cdv A outer s H E) rfl rfl rfl rfl)
theorem rg {C:Addr} {m q:Str} {st:Stmt} {N ps:List Str} {k n:Nat} {fz:SD→R Fl} (D:M.Dm K C m q st ps) (S:FnScope N ps (L2.defScope st))
  (hb:∀{f:Addr} {cdv:Value} {A:Around} {outer:List Env} {s:Shared} {H:Hp} {E:XK},Room k (A.deeper (envOfC q (L2.defScope st) s.heap.objs.size f cdv))→(A.deeper (envOfC q (L2.defScope st) s.heap.objs.size f cdv)).units+1<cLine→Takes (cxOf (L2.CX P w) P w K mg base N q (L2.defScope st) f cdv A outer s H E) (fun cls d _ H=>E cls d H)→
   ∃t,PSs (cxOf (L2.CX P w) P w K mg base N q (L2.defScope st) f cdv A outer s H E) (L2.defBody st) t∧RS ⟨K,mg⟩ (fun cls d _ H=>E cls d H) t fz) (hn:ps.length≤N.length:=by decide) (hn2:n=ps.length:=by rfl):MetZ P w K mg base (k+1) C m n (zFn N.length fz) []:=
 metZ_of D S hn hn2 fun f cdv A outer s H E hr=>hb hr (hu_of hr) (takes_of (X:=cxOf (L2.CX P w) P w K mg base N q (L2.defScope st) f cdv A outer s H E) rfl rfl rfl rfl)
theorem makY {x q:Str} {C:Addr} {st:Stmt} {N ps:List Str} {k n:Nat} {fz:SD→R Fl} (D:M.Dk K mg x C q st ps) (S:FnScope N ps (L2.defScope st))
  (hb:∀{f:Addr} {cdv:Value} {A:Around} {outer:List Env} {s:Shared} {H:Hp} {E:XK},Room k (A.deeper (envOfC q (L2.defScope st) s.heap.objs.size f cdv))→(A.deeper (envOfC q (L2.defScope st) s.heap.objs.size f cdv)).units+1<cLine→Takes (cxOf (L2.CX P w) P w K mg base N q (L2.defScope st) f cdv A outer s H E) (fun cls d _ H=>E cls d H)→
   ∃t,PSs (cxOf (L2.CX P w) P w K mg base N q (L2.defScope st) f cdv A outer s H E) (L2.defBody st) t∧RS ⟨K,mg⟩ (fun cls d _ H=>E cls d H) t fz) (hn:ps.length≤N.length:=by decide) (hn2:n=ps.length:=by rfl):MakZ P w K mg base (k+1) x C n (zFn N.length fz) []:=
 makZ_of D S hn hn2 fun f cdv A outer s H E hr=>hb hr (hu_of hr) (takes_of (X:=cxOf (L2.CX P w) P w K mg base N q (L2.defScope st) f cdv A outer s H E) rfl rfl rfl rfl)
theorem metdY {C:Addr} {m q:Str} {st:Stmt} {N ps:List Str} {dvs:List V} {k n:Nat} {fz:SD→R Fl} (D:M.Dmd K C m q st ps dvs) (S:FnScope N ps (L2.defScope st))
  (hb:∀{f:Addr} {cdv:Value} {A:Around} {outer:List Env} {s:Shared} {H:Hp} {E:XK},Room k (A.deeper (envOfC q (L2.defScope st) s.heap.objs.size f cdv))→(A.deeper (envOfC q (L2.defScope st) s.heap.objs.size f cdv)).units+1<cLine→Takes (cxOf (L2.CX P w) P w K mg base N q (L2.defScope st) f cdv A outer s H E) (fun cls d _ H=>E cls d H)→
   ∃t,PSs (cxOf (L2.CX P w) P w K mg base N q (L2.defScope st) f cdv A outer s H E) (L2.defBody st) t∧RS ⟨K,mg⟩ (fun cls d _ H=>E cls d H) t fz) (hn:ps.length≤N.length:=by decide) (hn2:n=ps.length:=by rfl):∀(j:Nat) (hj:j≤dvs.length),MetZ P w K mg base (k+1) C m n (zFn N.length fz) (dvs.drop j):=
 Bf D S hn hn2 fun f cdv A outer s H E hr=>hb hr (hu_of hr) (takes_of (X:=cxOf (L2.CX P w) P w K mg base N q (L2.defScope st) f cdv A outer s H E) rfl rfl rfl rfl)
end
section
variable {P:Program} {w:World} {base:Heap} {K:PySem.W.Frag} {mg:Str→Option Value} {Ca Cb Cc Cd Ce Cf Cg Ch Ci:Addr}
variable (T:Txt K mg Ca Cb Cc Cd Ce Cf Cg Ch Ci) (D:DD K mg Ca Cb Cc Cd Ce Cf Cg Ch Ci)
include T D
noncomputable def gJ:SD→R Fl:=
 (af (aA (zC (.int 1)) (zSt 2))
 (af (bJ (zB (z2 oGt (z1 de (aa 0)) (zC (.int 0)))) (aA (z2 oIx (aa 0) (z2 cM (aa 1) (z1 de (aa 0)))) (zSt 2)) aI)
 (af (aA (z2 cA (aa 1) (zC (.int 3))) (zSt 3))
 (aW (z2 cM (z2 kA (z2 cM (z2 cA (z2 kA (z2 cM (aa 2) (zC (.int 2147483629))) (zC (.int 48271))) (z2 kA (z2 kA (aa 3) (aa 3)) (zC (.int 69621)))) (zC (.int 2147483647))) (zC (.int 16807))) (zC (.int 2147483629)))))))
noncomputable def bX:FnV:=zFn N_Lnumber.length gJ
theorem jx:CalZ P w K mg base 1 "_law_number" 2 bX []:=
 mH D.d_Lnumber gP fun hr hu tk=>⟨_,(pss_cons (stY 2 gP pe_int)
 (pss_cons (ps_if (ctY op_gt (bnY (aT (K:=K)) T.z_len (pa_cons (pv 0) pa_nil)) pe_int) (pss_one (stY 2 gP (ixY K hr (pv 0) (pe_op op_mod (pv 1) (bnY (aT (K:=K)) T.z_len (pa_cons (pv 0) pa_nil)))))) pss_nil)
 (pss_cons (stY 3 gP (pe_op (aS (K:=K)) (pv 1) pe_int))
 (pss_one (ps_ret (pe_op op_mod (pe_op cV (pe_op op_mod (pe_op (aS (K:=K)) (pe_op cV (pe_op op_mod (pv 2) pe_int) pe_int) (pe_op cV (pe_op cV (pv 3) (pv 3)) pe_int)) pe_int) pe_int) pe_int)))))),(RS.seq (aad aab RG.name)
 (RS.seq (aae (RT.val (aac q_gt (RE.c1 dh aaa) aab)) (aad (aac cU aaa (aac cL aaa (RE.c1 dh aaa))) RG.name) RS.next)
 (RS.seq (aad (aac di aaa aab) RG.name)
 (RS.ret (aac cL (aac jX (aac cL (aac di (aac jX (aac cL aaa aab) aab) (aac jX (aac jX aaa aaa) aab)) aab) aab) aab)))))⟩
noncomputable def jB:SD→R Fl:=
 (af (aA (zC (.str "abcdefghijklmnopqrstuvwxyz")) (zSt 2))
 (af (aA (z2 cA (zC (.int 3)) (z2 cM (aa 0) (zC (.int 5)))) (zSt 3))
 (af (aA (zM1s qX (zC (.str "")) (zLc (sk (zA (zC (.int 12)) zA0)) (zSt 8) bP (z2 oIx (aa 2) (z2 cM (z2 cA (z2 dy (aa 0) (zC (.int 7))) (z2 kA (aa 3) (aa 8))) (zC (.int 26)))) [8])) (zSt 4))
 (af (bJ (zB (z2 oEq (z2 cM (z2 dy (aa 0) (zC (.int 9))) (zC (.int 3))) (zC (.int 1)))) (aW (zLc (sk (zA (aa 1) zA0)) (zSt 9) bP (zSl (aa 4) zNo (zPt (z2 cA (aa 9) (zC (.int 1))))) [9])) aI)
 (af (aA (zSl (aa 4) zNo (zPt (z2 cM (aa 0) (zC (.int 8))))) (zSt 5))
 (af (aA (z2 cM (z2 dy (aa 0) (zC (.int 200))) (z2 cA (z1 de (aa 5)) (zC (.int 1)))) (zSt 6))
 (af (aA (zLc (sk (zA (aa 1) zA0)) (zSt 9) bP (z2 oIx (aa 2) (z2 cM (z2 cA (z2 dy (aa 0) (zC (.int 2000))) (z2 kA (zC (.int 5)) (aa 9))) (zC (.int 26)))) [9]) (zSt 7))
 (aW (zLc (aU (aG (aa 7))) (zSt 10) bP (z2 cA (z2 cA (zSl (aa 5) zNo (zPt (aa 6))) (aa 10)) (zSl (aa 5) (zPt (aa 6)) zNo)) [10])))))))))
noncomputable def kX:FnV:=zFn N_Lnames.length jB
theorem BK:CalZ P w K mg base 1 "_law_names" 2 kX []:=
 mH D.d_Lnames bq fun hr hu tk=>⟨_,(pss_cons (stY 2 bq pe_str)
 (pss_cons (stY 3 bq (pe_op (aS (K:=K)) pe_int (pe_op op_mod (pv 0) pe_int)))
 (pss_cons (stY 4 bq (pe_join pe_str (lcY [("_law_j",8)] bq (pi_range1 rfl T.z_range (pa_cons pe_int pa_nil)) (gnY 8 bq) pts_nil (ixY K hr (pv 2) (pe_op op_mod (pe_op (aS (K:=K)) (pe_op op_fdivW (pv 0) pe_int) (pe_op cV (pv 3) (pv 8))) pe_int)))))
 (pss_cons (ps_if (ctY (eqY K hr) (pe_op op_mod (pe_op op_fdivW (pv 0) pe_int) pe_int) pe_int) (pss_one (ps_ret (lcY [("_law_k",9)] bq (pi_range1 rfl T.z_range (pa_cons (pv 1) pa_nil)) (gnY 9 bq) pts_nil (pe_slice (AQ (K:=K)) (pv 4) po_none (po_some (pe_op (aS (K:=K)) (pv 9) pe_int)))))) pss_nil)
 (pss_cons (stY 5 bq (pe_slice (AQ (K:=K)) (pv 4) po_none (po_some (pe_op op_mod (pv 0) pe_int))))
 (pss_cons (stY 6 bq (pe_op op_mod (pe_op op_fdivW (pv 0) pe_int) (pe_op (aS (K:=K)) (bnY (aT (K:=K)) T.z_len (pa_cons (pv 5) pa_nil)) pe_int)))
 (pss_cons (slY 7 [("_law_k",9)] bq (pi_range1 rfl T.z_range (pa_cons (pv 1) pa_nil)) (gnY 9 bq) pts_nil (ixY K hr (pv 2) (pe_op op_mod (pe_op (aS (K:=K)) (pe_op op_fdivW (pv 0) pe_int) (pe_op cV pe_int (pv 9))) pe_int)))
 (pss_one (ps_ret (lcY [("_law_sign",10)] bq (pi_list (pv 7)) (gnY 10 bq) pts_nil (pe_op (aS (K:=K)) (pe_op (aS (K:=K)) (pe_slice (AQ (K:=K)) (pv 5) po_none (po_some (pv 6))) (pv 10)) (pe_slice (AQ (K:=K)) (pv 5) (po_some (pv 6)) po_none)))))))))))),(RS.seq (aad aak RG.name)
 (RS.seq (aad (aac di aab (aac cL aaa aab)) RG.name)
 (RS.seq (aad (RE.join aak (aah (is:= [8]) (aam (RA.cons aab RA.nil)) RG.name aag (aac cU aaa (aac cL (aac di (aac eV aaa aab) (aac jX aaa aaa)) aab)))) RG.name)
 (RS.seq (aae (RT.val (aac mU (aac cL (aac eV aaa aab) aab) aab)) (RS.ret (aah (is:= [9]) (aam (RA.cons aaa RA.nil)) RG.name aag (RE.sl aaa RO.no (RO.part (aac di aaa aab))))) RS.next)
 (RS.seq (aad (RE.sl aaa RO.no (RO.part (aac cL aaa aab))) RG.name)
 (RS.seq (aad (aac cL (aac eV aaa aab) (aac di (RE.c1 dh aaa) aab)) RG.name)
 (RS.seq (aad (aah (is:= [9]) (aam (RA.cons aaa RA.nil)) RG.name aag (aac cU aaa (aac cL (aac di (aac eV aaa aab) (aac jX aab aaa)) aab))) RG.name)
 (RS.ret (aah (is:= [10]) (RI.lst (RE.fix aaa)) RG.name aag (aac di (aac di (RE.sl aaa RO.no (RO.part aaa)) aaa) (RE.sl aaa (RO.part aaa) RO.no)))))))))))⟩
noncomputable def kx:SD→R Fl:=
 (af (bj ["Net"] "names" (aa 0) (bx (bV zA0)))
 (af (bj ["Net"] "rows" (aa 0) (bx zDnew))
 (bj ["Net"] "last_given" (aa 0) (zC (.int 0)))))
noncomputable def cR:FnV:=zFn N_Net_init.length kx
theorem nL:MakZ P w K mg base 1 "Net" Cd 1 cR []:=
 makY D.d_Net_init sZ fun hr hu tk=>⟨_,(pss_cons (ps_fld (pv 0) (pe_lst pa_nil) rfl)
 (pss_cons (ps_fld (pv 0) pe_dnewK rfl)
 (pss_one (ps_fld (pv 0) pe_int rfl)))),(RS.seq (RS.fld T.f_names_Net (RE.cell (RE.lst RA.nil Many.nil (by decide))) aaa)
 (RS.seq (RS.fld T.f_rows_Net (RE.cell RE.dnew) aaa)
 (RS.fld T.f_last_given_Net aab aaa)))⟩
noncomputable def iP:SD→R Fl:=
 (aW (z1 oAll (zLc (zItS (aG (aa 0))) (zSt 2) bP (z2 (oIn false) (aa 2) (aa 1)) [2])))
noncomputable def iq:FnV:=zFn N_are_signs.length iP
theorem uN:CalZ P w K mg base 1 "are_signs" 2 iq []:=
 mH D.d_are_signs fZ fun hr hu tk=>⟨_,(pss_one (ps_ret (bnY (cr_all rfl) T.z_all (pa_cons (lcY [("sign",2)] fZ (pi_str (pv 0)) (gnY 2 fZ) pts_nil (cmY (inY K hr) (pv 2) (pv 1))) pa_nil)))),(RS.ret (RE.c1 q_all (aah (is:= [2]) (RI.str (RE.fix aaa)) RG.name aag (aac (qu (neg:=false)) aaa aaa))))⟩
noncomputable def mP:SD→R Fl:=
 (aW (hV (z1 (qY .str) (aa 0)) (hV (qw oLe oLe (zC (.int 1)) (z1 de (aa 0)) (zC (.int 12))) (aD iq [] (zA (aa 0) (zA (zC (.str "abcdefghijklmnopqrstuvwxyz")) zA0))))))
noncomputable def lH:FnV:=zFn N_is_name.length mP
theorem Ak:CalZ P w K mg base 2 "is_name" 1 lH []:=
 mH D.d_is_name wx fun hr hu tk=>⟨_,(pss_one (ps_ret (pe_and (bnY (kN (K:=K)) T.z_isinstance (pa_cons (pv 0) (pa_cons (btY "str" T.z_str) pa_nil))) (pe_and (pe_chain op_le op_le pe_int (bnY (aT (K:=K)) T.z_len (pa_cons (pv 0) pa_nil)) (qQ rfl T.g_MOST_LETTERS)) (pe_one (clY (uN T D) hr tk (pa_cons (pv 0) (pa_cons (qQ rfl T.g_LETTERS) pa_nil)))))))),(RS.ret (RE.andV (RE.isi (t:= .str) aaa) (RE.andV (RE.chain q_le q_le aab (RE.c1 dh aaa) aab) (RE.call .nil (RA.cons aaa (RA.cons aak RA.nil)) (.cons (.cons Many.nil)) rfl))))⟩
noncomputable def eA:SD→R Fl:=
 (af (bJ (fN (zB (aD lH [] (zA (aa 1) zA0)))) fJ aI)
 (af (bJ (zB (z2 (oIn false) (aa 1) (z1 (aB ["Net"] "names") (aa 0)))) fJ aI)
 (af (bJ (zB (z2 oEq (z1 de (z1 (aB ["Net"] "names") (aa 0))) (zC (.int 14)))) fJ aI)
 (az (zM2 isL (oB2 aE) (z1 (aB ["Net"] "names") (aa 0)) (aG (aa 1)))))))
noncomputable def bR:FnV:=zFn N_Net_put_place.length eA
theorem mL:MetZ P w K mg base 3 Cd "put_place" 2 bR []:=
 rg D.d_Net_put_place kM fun hr hu tk=>⟨_,(pss_cons (ps_if (pt_not (pt_val (clY (Ak T D) hr tk (pa_cons (pv 1) pa_nil)))) (pss_one ps_never) pss_nil)
 (pss_cons (ps_if (ctY (inY K hr) (pv 1) (fdY K (pv 0))) (pss_one ps_never) pss_nil)
 (pss_cons (ps_if (ctY (eqY K hr) (bnY (aT (K:=K)) T.z_len (pa_cons (fdY K (pv 0)) pa_nil)) (qQ rfl T.g_MOST_PLACES)) (pss_one ps_never) pss_nil)
 (pss_one (ps_expr (pe_bm PySem.F.plainAttrs_list PySem.F.slot_list_append PySem.F.type_list_append mt_append (fdY K (pv 0)) (pa_cons (pv 1) pa_nil))))))),(RS.seq (aae (aaj (RT.val (RE.call .nil (RA.cons aaa RA.nil) (.cons Many.nil) rfl))) RS.never RS.next)
 (RS.seq (aae (RT.val (aac (qu (neg:=false)) aaa (RE.fld T.f_names_Net aaa))) RS.never RS.next)
 (RS.seq (aae (RT.val (aac mU (RE.c1 dh (RE.fld T.f_names_Net aaa)) aab)) RS.never RS.next)
 (RS.drop (RE.append (RE.fld T.f_names_Net aaa) aaa)))))⟩
noncomputable def ko:SD→R Fl:=
 (aW (hV (z1 (qY .int) (aa 0)) (wY (z1 (qY .bool) (aa 0)))))
noncomputable def eR:FnV:=zFn N_is_whole.length ko
theorem nJ:CalZ P w K mg base 1 "is_whole" 1 eR []:=
 mH D.d_is_whole sW fun hr hu tk=>⟨_,(pss_one (ps_ret (pe_and (bnY (kN (K:=K)) T.z_isinstance (pa_cons (pv 0) (pa_cons (btY "int" T.z_int) pa_nil))) (pe_one (pe_not (bnY (kN (K:=K)) T.z_isinstance (pa_cons (pv 0) (pa_cons (btY "bool" T.z_bool) pa_nil)))))))),(RS.ret (RE.andV (RE.isi (t:= .int) aaa) (aao (RE.isi (t:= .bool) aaa))))⟩
noncomputable def gF:SD→R Fl:=
 (af (bJ (zOr (fN (zB (aD eR [] (zA (aa 1) zA0)))) (zB (z2 (oIn true) (aa 1) (z1 (aB ["Net"] "rows") (aa 0))))) fJ aI)
 (aW (z2 oIx (z1 (aB ["Net"] "rows") (aa 0)) (aa 1))))
noncomputable def fT:FnV:=zFn N_Net_tie_of.length gF
theorem rZ:MetZ P w K mg base 2 Cd "tie_of" 2 fT []:=
 rg D.d_Net_tie_of oz fun hr hu tk=>⟨_,(pss_cons (ps_if (PW.pt (pw_or (pt_not (pt_val (clY (nJ T D) hr tk (pa_cons (pv 1) pa_nil)))) (pw_or1 (ctY (niY K hr) (pv 1) (fdY K (pv 0)))))) (pss_one ps_never) pss_nil)
 (pss_one (ps_ret (ixY K hr (fdY K (pv 0)) (pv 1))))),(RS.seq (aae (RT.or (aaj (RT.val (RE.call .nil (RA.cons aaa RA.nil) (.cons Many.nil) rfl))) (RT.val (aac (qu (neg:=true)) aaa (RE.fld T.f_rows_Net aaa)))) RS.never RS.next)
 (RS.ret (aac cU (RE.fld T.f_rows_Net aaa) aaa)))⟩
noncomputable def eO:SD→R Fl:=
 (af (az (ar "Net" "tie_of" fT [] (aa 0) (zA (aa 1) zA0)))
 (az (zM2 isDc (oB2 ur) (z1 (aB ["Net"] "rows") (aa 0)) (aa 1))))
noncomputable def aC:FnV:=zFn N_Net_drop_tie.length eO
theorem ia:MetZ P w K mg base 3 Cd "drop_tie" 2 aC []:=
 rg D.d_Net_drop_tie lT fun hr hu tk=>⟨_,(pss_cons (ps_expr (dA (rZ T D) hr (by decide) tk (pv 0) (pa_cons (pv 1) pa_nil)))
 (pss_one (ps_expr (pe_dpop1 (fdY K (pv 0)) (pv 1) ⟨rfl,rfl,rfl,rfl⟩)))),(RS.seq (RS.drop (RE.meth T.m_Net .nil aaa (RA.cons aaa RA.nil) (.cons Many.nil) rfl))
 (RS.drop (RE.dpop (RE.fld T.f_rows_Net aaa) aaa)))⟩
noncomputable def jC:SD→R Fl:=
 (af (aA (zC (.int 1)) (zSt 2))
 (af (bJ (zB (z2 oGt (z1 de (aa 0)) (zC (.int 0)))) (aA (z2 oIx (aa 0) (z2 cM (aa 1) (z1 de (aa 0)))) (zSt 2)) aI)
 (aW (z2 cM (z2 kA (z2 cA (z2 cA (z2 cM (aa 2) (z2 AB (zC (.int 10)) (zC (.int 60)))) (zC (.int 1))) (z2 kA (aa 1) (aa 1))) (z2 AB (zC (.int 7)) (zC (.int 61)))) (z2 cA (z2 AB (zC (.int 10)) (zC (.int 60))) (zC (.int 1)))))))
noncomputable def gN:FnV:=zFn N_Lgreat.length jC
theorem qe:CalZ P w K mg base 1 "_law_great" 2 gN []:=
 mH D.d_Lgreat lU fun hr hu tk=>⟨_,(pss_cons (stY 2 lU pe_int)
 (pss_cons (ps_if (ctY op_gt (bnY (aT (K:=K)) T.z_len (pa_cons (pv 0) pa_nil)) pe_int) (pss_one (stY 2 lU (ixY K hr (pv 0) (pe_op op_mod (pv 1) (bnY (aT (K:=K)) T.z_len (pa_cons (pv 0) pa_nil)))))) pss_nil)
 (pss_one (ps_ret (pe_op op_mod (pe_op cV (pe_op (aS (K:=K)) (pe_op (aS (K:=K)) (pe_op op_mod (pv 2) (pe_op ma pe_int pe_int)) pe_int) (pe_op cV (pv 1) (pv 1))) (pe_op ma pe_int pe_int)) (pe_op (aS (K:=K)) (pe_op ma pe_int pe_int) pe_int)))))),(RS.seq (aad aab RG.name)
 (RS.seq (aae (RT.val (aac q_gt (RE.c1 dh aaa) aab)) (aad (aac cU aaa (aac cL aaa (RE.c1 dh aaa))) RG.name) RS.next)
 (RS.ret (aac cL (aac jX (aac di (aac di (aac cL aaa (aac yr aab aab)) aab) (aac jX aaa aaa)) (aac yr aab aab)) (aac di (aac yr aab aab) aab)))))⟩
noncomputable def mQ:SD→R Fl:=
 (af (aA (z2 oIx (bV (zA (z2 cM (z2 dy (aa 2) (zC (.int 9))) (zC (.int 8))) (zA (z2 cM (z2 dy (aa 2) (zC (.int 9))) (zC (.int 3))) (zA (aD gN [] (zA (aa 0) (zA (aa 1) zA0))) (zA (z2 AB (zC (.int 10)) (zC (.int 60))) (zA (zC (.int 0)) (zA (zC .non) zA0))))))) (z2 cM (aa 2) (zC (.int 6)))) (zSt 3))
 (af (bJ (zB (z2 oEq (z2 cM (z2 dy (aa 2) (zC (.int 100))) (zC (.int 9))) (zC (.int 1)))) (aA (z2 dy (aD gN [] (zA (aa 0) (zA (aa 1) zA0))) (z2 AB (zC (.int 10)) (zC (.int 30)))) (zSt 3)) aI)
 (aW (hX (zA (zC (.int 0)) (zA (aa 3) zA0))))))
noncomputable def sF:FnV:=zFn N_Lroom.length mQ
theorem c_Lroom:CalZ P w K mg base 2 "_law_room" 3 sF []:=
 mH D.d_Lroom oE fun hr hu tk=>⟨_,(pss_cons (stY 3 oE (ixY K hr (pe_lst (pa_cons (pe_op op_mod (pe_op op_fdivW (pv 2) pe_int) pe_int) (pa_cons (pe_op op_mod (pe_op op_fdivW (pv 2) pe_int) pe_int) (pa_cons (clY (qe T D) hr tk (pa_cons (pv 0) (pa_cons (pv 1) pa_nil))) (pa_cons (pe_op ma pe_int pe_int) (pa_cons pe_int (pa_cons pe_non pa_nil))))))) (pe_op op_mod (pv 2) pe_int)))
 (pss_cons (ps_if (ctY (eqY K hr) (pe_op op_mod (pe_op op_fdivW (pv 2) pe_int) pe_int) pe_int) (pss_one (stY 3 oE (pe_op op_fdivW (clY (qe T D) hr tk (pa_cons (pv 0) (pa_cons (pv 1) pa_nil))) (pe_op ma pe_int pe_int)))) pss_nil)
 (pss_one (ps_ret (pe_tup (pa_cons pe_int (pa_cons (pv 3) pa_nil))))))),(RS.seq (aad (aac cU (RE.lst (RA.cons (aac cL (aac eV aaa aab) aab) (RA.cons (aac cL (aac eV aaa aab) aab) (RA.cons (RE.call .nil (RA.cons aaa (RA.cons aaa RA.nil)) (.cons (.cons Many.nil)) rfl) (RA.cons (aac yr aab aab) (RA.cons aab (RA.cons aaf RA.nil)))))) (.cons (.cons (.cons (.cons (.cons (.cons Many.nil)))))) (by decide)) (aac cL aaa aab)) RG.name)
 (RS.seq (aae (RT.val (aac mU (aac cL (aac eV aaa aab) aab) aab)) (aad (aac eV (RE.call .nil (RA.cons aaa (RA.cons aaa RA.nil)) (.cons (.cons Many.nil)) rfl) (aac yr aab aab)) RG.name) RS.next)
 (RS.ret (RE.tup (RA.cons aab (RA.cons aaa RA.nil)) (.cons (.cons Many.nil)) (by decide)))))⟩
noncomputable def Ao:SD→R Fl:=
 (af (aA (aD bX [] (zA (aa 0) (zA (aa 1) zA0))) (zSt 3))
 (af (aA (z2 cM (z2 dy (aa 3) (zC (.int 7))) (aa 2)) (zSt 4))
 (af (aA (z2 cM (z2 cA (z2 cA (aa 4) (zC (.int 1))) (z2 cM (z2 dy (aa 3) (zC (.int 100))) (z2 sq (aa 2) (zC (.int 1))))) (aa 2)) (zSt 5))
 (af (aA (aD sF [] (zA (aa 0) (zA (aa 1) (zA (z2 dy (aa 3) (zC (.int 1000))) zA0)))) (ig [6,7]))
 (aW (AH (zP (.inr "tail") (aa 4) (zP (.inr "head") (aa 5) (zP (.inr "least") (aa 6) (zP (.inr "most") (aa 7) (zP (.inr "price") (zC (.int 0)) zP0)))))))))))
noncomputable def uT:FnV:=zFn N_Lrow.length Ao
theorem c_Lrow:CalZ P w K mg base 3 "_law_row" 3 uT []:=
 mH D.d_Lrow jN fun hr hu tk=>⟨_,(pss_cons (stY 3 jN (clY (jx T D) hr tk (pa_cons (pv 0) (pa_cons (pv 1) pa_nil))))
 (pss_cons (stY 4 jN (pe_op op_mod (pe_op op_fdivW (pv 3) pe_int) (pv 2)))
 (pss_cons (stY 5 jN (pe_op op_mod (pe_op (aS (K:=K)) (pe_op (aS (K:=K)) (pv 4) pe_int) (pe_op op_mod (pe_op op_fdivW (pv 3) pe_int) (pe_op op_sub (pv 2) pe_int))) (pv 2)))
 (pss_cons (ps_asg (clY (c_Lroom T D) hr tk (pa_cons (pv 0) (pa_cons (pv 1) (pa_cons (pe_op op_fdivW (pv 3) pe_int) pa_nil)))) (gx (K:=K) (n:=2) rfl (pgs_cons (gnY 6 jN) (pgs_cons (gnY 7 jN) pgs_nil))))
 (pss_one (ps_ret (pe_disp (pps_cons pe_str (pv 4) (pps_cons pe_str (pv 5) (pps_cons pe_str (pv 6) (pps_cons pe_str (pv 7) (pps_cons pe_str pe_int pps_nil))))) (by rfl) (by rfl) (fun z=>by cases z) (by decide)))))))),(RS.seq (aad (RE.call .nil (RA.cons aaa (RA.cons aaa RA.nil)) (.cons (.cons Many.nil)) rfl) RG.name)
 (RS.seq (aad (aac cL (aac eV aaa aab) aaa) RG.name)
 (RS.seq (aad (aac cL (aac di (aac di aaa aab) (aac cL (aac eV aaa aab) (aac wy aaa aab))) aaa) RG.name)
 (RS.seq (aad (RE.call .nil (RA.cons aaa (RA.cons aaa (RA.cons (aac eV aaa aab) RA.nil))) (.cons (.cons (.cons Many.nil))) rfl) (RG.names (is:= [6,7]) rfl))
 (RS.ret (RE.disp (RP.cons (k:=(.inr "tail")) aaa (RP.cons (k:=(.inr "head")) aaa (RP.cons (k:=(.inr "least")) aaa (RP.cons (k:=(.inr "most")) aaa (RP.cons (k:=(.inr "price")) aab RP.nil)))))))))))⟩
noncomputable def dE:SD→R Fl:=
 (bJ (zOr (fN (zB (z1 (qY .str) (aa 1)))) (zB (z2 (oIn true) (aa 1) (z1 (aB ["Net"] "names") (aa 0))))) fJ aI)
noncomputable def bp:FnV:=zFn N_Net_need_place.length dE
theorem cg:MetZ P w K mg base 1 Cd "need_place" 2 bp []:=
 rg D.d_Net_need_place jM fun hr hu tk=>⟨_,(pss_one (ps_if (PW.pt (pw_or (pt_not (pt_val (bnY (kN (K:=K)) T.z_isinstance (pa_cons (pv 1) (pa_cons (btY "str" T.z_str) pa_nil))))) (pw_or1 (ctY (niY K hr) (pv 1) (fdY K (pv 0)))))) (pss_one ps_never) pss_nil)),(aae (RT.or (aaj (RT.val (RE.isi (t:= .str) aaa))) (RT.val (aac (qu (neg:=true)) aaa (RE.fld T.f_names_Net aaa)))) RS.never RS.next)⟩
noncomputable def kq:SD→R Fl:=
 (aW (hV (aD eR [] (zA (aa 0) zA0)) (qw oLe oLe (aa 1) (aa 0) (aa 2))))
noncomputable def cq:FnV:=zFn N_is_among.length kq
theorem kn:CalZ P w K mg base 2 "is_among" 3 cq []:=
 mH D.d_is_among sX fun hr hu tk=>⟨_,(pss_one (ps_ret (pe_and (clY (nJ T D) hr tk (pa_cons (pv 0) pa_nil)) (pe_one (pe_chain op_le op_le (pv 1) (pv 0) (pv 2)))))),(RS.ret (RE.andV (RE.call .nil (RA.cons aaa RA.nil) (.cons Many.nil) rfl) (RE.chain q_le q_le aaa aaa aaa)))⟩
noncomputable def iN:SD→R Fl:=
 (bJ (zOr (fN (zB (aD cq [] (zA (aa 0) (zA (zC (.int 0)) (zA (zC (.int 1000000000000000000000000000000000000000000000000000000000000)) zA0)))))) (iU (zB (z2 (kB true) (aa 1) (zC .non))) (fN (zB (aD cq [] (zA (aa 1) (zA (aa 0) (zA (zC (.int 1000000000000000000000000000000000000000000000000000000000000)) zA0)))))))) fJ aI)
noncomputable def ik:FnV:=zFn N_need_room.length iN
theorem uM:CalZ P w K mg base 3 "need_room" 2 ik []:=
 mH D.d_need_room qG fun hr hu tk=>⟨_,(pss_one (ps_if (PW.pt (pw_or (pt_not (pt_val (clY (kn T D) hr tk (pa_cons (pv 0) (pa_cons pe_int (pa_cons (qQ rfl T.g_MOST) pa_nil)))))) (pw_or1 (PW.pt (pw_and (ctY gr (pv 1) pe_non) (pw_and1 (pt_not (pt_val (clY (kn T D) hr tk (pa_cons (pv 1) (pa_cons (pv 0) (pa_cons (qQ rfl T.g_MOST) pa_nil)))))))))))) (pss_one ps_never) pss_nil)),(aae (RT.or (aaj (RT.val (RE.call .nil (RA.cons aaa (RA.cons aab (RA.cons aab RA.nil))) (.cons (.cons (.cons Many.nil))) rfl))) (aal (RT.val (aac (oS (neg:=true)) aaa aaf)) (aaj (RT.val (RE.call .nil (RA.cons aaa (RA.cons aaa (RA.cons aab RA.nil))) (.cons (.cons (.cons Many.nil))) rfl))))) RS.never RS.next)⟩
noncomputable def gE:SD→R Fl:=
 (bJ (fN (zB (aD cq [] (zA (aa 0) (zA (z2 sq (zC (.int 0)) (zC (.int 1000000000000000000000000000000000000000000000000000000000000))) (zA (zC (.int 1000000000000000000000000000000000000000000000000000000000000)) zA0)))))) fJ aI)
noncomputable def fS:FnV:=zFn N_need_price.length gE
theorem rY:CalZ P w K mg base 3 "need_price" 1 fS []:=
 mH D.d_need_price oy fun hr hu tk=>⟨_,(pss_one (ps_if (pt_not (pt_val (clY (kn T D) hr tk (pa_cons (pv 0) (pa_cons (pe_op op_sub pe_int (qQ rfl T.g_MOST)) (pa_cons (qQ rfl T.g_MOST) pa_nil)))))) (pss_one ps_never) pss_nil)),(aae (aaj (RT.val (RE.call .nil (RA.cons aaa (RA.cons (aac wy aab aab) (RA.cons aab RA.nil))) (.cons (.cons (.cons Many.nil))) rfl))) RS.never RS.next)⟩
noncomputable def kr:SD→R Fl:=
 (af (bj ["Tie"] "number" (aa 0) (aa 1))
 (af (bj ["Tie"] "tail" (aa 0) (aa 2))
 (af (bj ["Tie"] "head" (aa 0) (aa 3))
 (af (bj ["Tie"] "least" (aa 0) (aa 4))
 (af (bj ["Tie"] "most" (aa 0) (aa 5))
 (bj ["Tie"] "price" (aa 0) (aa 6)))))))
noncomputable def gM:FnV:=zFn N_Tie_init.length kr
theorem wN:MakZ P w K mg base 1 "Tie" Cc 7 gM []:=
 makY D.d_Tie_init sY fun hr hu tk=>⟨_,(pss_cons (ps_fld (pv 0) (pv 1) rfl)
 (pss_cons (ps_fld (pv 0) (pv 2) rfl)
 (pss_cons (ps_fld (pv 0) (pv 3) rfl)
 (pss_cons (ps_fld (pv 0) (pv 4) rfl)
 (pss_cons (ps_fld (pv 0) (pv 5) rfl)
 (pss_one (ps_fld (pv 0) (pv 6) rfl))))))),(RS.seq (RS.fld T.f_number_Tie aaa aaa)
 (RS.seq (RS.fld T.f_tail_Tie aaa aaa)
 (RS.seq (RS.fld T.f_head_Tie aaa aaa)
 (RS.seq (RS.fld T.f_least_Tie aaa aaa)
 (RS.seq (RS.fld T.f_most_Tie aaa aaa)
 (RS.fld T.f_price_Tie aaa aaa))))))⟩
noncomputable def cO:SD→R Fl:=
 (af (az (ar "Net" "need_place" bp [] (aa 0) (zA (aa 2) zA0)))
 (af (az (ar "Net" "need_place" bp [] (aa 0) (zA (aa 3) zA0)))
 (af (bJ (zB (z2 oEq (aa 2) (aa 3))) fJ aI)
 (af (az (aD ik [] (zA (aa 4) (zA (aa 5) zA0))))
 (af (az (aD fS [] (zA (aa 6) zA0)))
 (af (bJ (zB (z2 oEq (z1 de (z1 (aB ["Net"] "rows") (aa 0))) (zC (.int 40)))) fJ aI)
 (af (xa (z1 (aB ["Net"] "rows") (aa 0)) (aa 1) (zFrz (dH "Tie" gM [] (zA (aa 1) (zA (aa 2) (zA (aa 3) (zA (aa 4) (zA (aa 5) (zA (aa 6) zA0)))))))))
 (af (bj ["Net"] "last_given" (aa 0) (aa 1))
 (aW (aa 1))))))))))
noncomputable def cD:FnV:=zFn N_Net_put_numbered.length cO
theorem jw:MetZ P w K mg base 4 Cd "put_numbered" 7 cD []:=
 rg D.d_Net_put_numbered iw fun hr hu tk=>⟨_,(pss_cons (ps_expr (dA (cg T D) hr (by decide) tk (pv 0) (pa_cons (pv 2) pa_nil)))
 (pss_cons (ps_expr (dA (cg T D) hr (by decide) tk (pv 0) (pa_cons (pv 3) pa_nil)))
 (pss_cons (ps_if (ctY (eqY K hr) (pv 2) (pv 3)) (pss_one ps_never) pss_nil)
 (pss_cons (ps_expr (clY (uM T D) hr tk (pa_cons (pv 4) (pa_cons (pv 5) pa_nil))))
 (pss_cons (ps_expr (clY (rY T D) hr tk (pa_cons (pv 6) pa_nil)))
 (pss_cons (ps_if (ctY (eqY K hr) (bnY (aT (K:=K)) T.z_len (pa_cons (fdY K (pv 0)) pa_nil)) (qQ rfl T.g_MOST_TIES)) (pss_one ps_never) pss_nil)
 (pss_cons (ps_dput hu (fdY K (pv 0)) (pv 1) (mkY (wN T D) hr tk (pa_cons (pv 1) (pa_cons (pv 2) (pa_cons (pv 3) (pa_cons (pv 4) (pa_cons (pv 5) (pa_cons (pv 6) pa_nil))))))) rfl)
 (pss_cons (ps_fld (pv 0) (pv 1) rfl)
 (pss_one (ps_ret (pv 1))))))))))),(RS.seq (RS.drop (RE.meth T.m_Net .nil aaa (RA.cons aaa RA.nil) (.cons Many.nil) rfl))
 (RS.seq (RS.drop (RE.meth T.m_Net .nil aaa (RA.cons aaa RA.nil) (.cons Many.nil) rfl))
 (RS.seq (aae (RT.val (aac mU aaa aaa)) RS.never RS.next)
 (RS.seq (RS.drop (RE.call .nil (RA.cons aaa (RA.cons aaa RA.nil)) (.cons (.cons Many.nil)) rfl))
 (RS.seq (RS.drop (RE.call .nil (RA.cons aaa RA.nil) (.cons Many.nil) rfl))
 (RS.seq (aae (RT.val (aac mU (RE.c1 dh (RE.fld T.f_rows_Net aaa)) aab)) RS.never RS.next)
 (RS.seq (RS.dput (RE.fld T.f_rows_Net aaa) aaa (RE.frz (RE.make T.m_Tie .nil (RA.cons aaa (RA.cons aaa (RA.cons aaa (RA.cons aaa (RA.cons aaa (RA.cons aaa RA.nil)))))) (.cons (.cons (.cons (.cons (.cons (.cons Many.nil)))))) rfl)))
 (RS.seq (RS.fld T.f_last_given_Net aaa aaa)
 (RS.ret aaa)))))))))⟩
noncomputable def fG:SD→R Fl:=
 (aW (ar "Net" "put_numbered" cD [] (aa 0) (zA (z2 cA (z1 (aB ["Net"] "last_given") (aa 0)) (zC (.int 1))) (zA (aa 1) (zA (aa 2) (zA (aa 3) (zA (aa 4) (zA (aa 5) zA0))))))))
noncomputable def au:FnV:=zFn N_Net_put_tie.length fG
theorem fA:∀(j:Nat) (hj:j≤([.int 0, .non, .int 0]:List V).length),MetZ P w K mg base 5 Cd "put_tie" 6 au (([.int 0, .non, .int 0]:List V).drop j):=
 metdY D.d_Net_put_tie mW fun hr hu tk=>⟨_,(pss_one (ps_ret (dA (jw T D) hr (by decide) tk (pv 0) (pa_cons (pe_op (aS (K:=K)) (fdY K (pv 0)) pe_int) (pa_cons (pv 1) (pa_cons (pv 2) (pa_cons (pv 3) (pa_cons (pv 4) (pa_cons (pv 5) pa_nil))))))))),(RS.ret (RE.meth T.m_Net .nil aaa (RA.cons (aac di (RE.fld T.f_last_given_Net aaa) aab) (RA.cons aaa (RA.cons aaa (RA.cons aaa (RA.cons aaa (RA.cons aaa RA.nil)))))) (.cons (.cons (.cons (.cons (.cons (.cons Many.nil)))))) rfl))⟩
noncomputable def hQ:SD→R Fl:=
 (af (aA (aD bX [] (zA (aa 3) (zA (aa 4) zA0))) (zSt 5))
 (af (bJ (zOr (zB (z2 oEq (z1 de (aa 1)) (zC (.int 40)))) (iU (zB (z2 oNe (aa 1) (bV zA0))) (zB (z2 oEq (z2 cM (aa 5) (zC (.int 9))) (zC (.int 1)))))) (af (aA (z2 cM (z2 dy (aa 5) (zC (.int 9))) (z1 de (aa 1))) (zSt 6))
 (af (az (ar "Net" "drop_tie" aC [] (aa 0) (zA (z2 oIx (z2 oIx (aa 1) (aa 6)) (zC (.int 0))) zA0)))
 (af (az (zM2 isL (oB2 kH) (aa 1) (aa 6)))
 AG))) aI)
 (af (aA (aD uT [] (zA (aa 3) (zA (aa 4) (zA (z1 de (aa 2)) zA0)))) (zSt 7))
 (af (wX 8 9 (zA (z2 oIx (aa 2) (z2 oIx (aa 7) (zC (.str "tail")))) (zA (z2 oIx (aa 2) (z2 oIx (aa 7) (zC (.str "head")))) zA0)))
 (af (aA (z2 kA (aD gN [] (zA (aa 3) (zA (z2 cA (aa 4) (zC (.int 5))) zA0))) (z2 sq (z2 cM (aa 5) (zC (.int 3))) (zC (.int 1)))) (zSt 10))
 (az (zM2 isL (oB2 aE) (aa 1) (aG (hX (zA (ar "Net" "put_tie" au [] (aa 0) (zA (aa 8) (zA (aa 9) (zA (z2 oIx (aa 7) (zC (.str "least"))) (zA (z2 oIx (aa 7) (zC (.str "most"))) (zA (aa 10) zA0)))))) (zA (aa 8) (zA (aa 9) zA0))))))))))))
noncomputable def eT:FnV:=zFn N_Lchanged.length hQ
theorem wO:CalZ P w K mg base 6 "_law_changed" 5 eT []:=
 mH D.d_Lchanged sc_Lchanged fun hr hu tk=>⟨_,(pss_cons (stY 5 sc_Lchanged (clY (jx T D) hr tk (pa_cons (pv 3) (pa_cons (pv 4) pa_nil))))
 (pss_cons (ps_if (PW.pt (pw_or (ctY (eqY K hr) (bnY (aT (K:=K)) T.z_len (pa_cons (pv 1) pa_nil)) pe_int) (pw_or1 (PW.pt (pw_and (ctY (neY K hr) (pv 1) (pe_lst pa_nil)) (pw_and1 (ctY (eqY K hr) (pe_op op_mod (pv 5) pe_int) pe_int))))))) (pss_cons (stY 6 sc_Lchanged (pe_op op_mod (pe_op op_fdivW (pv 5) pe_int) (bnY (aT (K:=K)) T.z_len (pa_cons (pv 1) pa_nil))))
 (pss_cons (ps_expr (dA (ia T D) hr (by decide) tk (pv 0) (pa_cons (ixY K hr (ixY K hr (pv 1) (pv 6)) pe_int) pa_nil)))
 (pss_cons (ps_expr (pe_bm PySem.F.plainAttrs_list PySem.F.slot_list_pop PySem.F.type_list_pop mt_popAt (pv 1) (pa_cons (pv 6) pa_nil)))
 (pss_one ps_retN)))) pss_nil)
 (pss_cons (stY 7 sc_Lchanged (clY (c_Lrow T D) hr tk (pa_cons (pv 3) (pa_cons (pv 4) (pa_cons (bnY (aT (K:=K)) T.z_len (pa_cons (pv 2) pa_nil)) pa_nil)))))
 (pss_cons (ps_par (i:=8) (j:=9) (by rfl) sc_Lchanged.nd rfl rfl (by decide) rfl rfl (pa_cons (ixY K hr (pv 2) (ixY K hr (pv 7) pe_str)) (pa_cons (ixY K hr (pv 2) (ixY K hr (pv 7) pe_str)) pa_nil)) (by rfl))
 (pss_cons (stY 10 sc_Lchanged (pe_op cV (clY (qe T D) hr tk (pa_cons (pv 3) (pa_cons (pe_op (aS (K:=K)) (pv 4) pe_int) pa_nil))) (pe_op op_sub (pe_op op_mod (pv 5) pe_int) pe_int)))
 (pss_one (ps_expr (pe_bm PySem.F.plainAttrs_list PySem.F.slot_list_append PySem.F.type_list_append mt_append (pv 1) (pa_cons (pe_tup (pa_cons (dA ((fA T D) 3 (by decide)) hr (by decide) tk (pv 0) (pa_cons (pv 8) (pa_cons (pv 9) (pa_cons (ixY K hr (pv 7) pe_str) (pa_cons (ixY K hr (pv 7) pe_str) (pa_cons (pv 10) pa_nil)))))) (pa_cons (pv 8) (pa_cons (pv 9) pa_nil)))) pa_nil))))))))),(RS.seq (aad (RE.call .nil (RA.cons aaa (RA.cons aaa RA.nil)) (.cons (.cons Many.nil)) rfl) RG.name)
 (RS.seq (aae (RT.or (RT.val (aac mU (RE.c1 dh aaa) aab)) (aal (RT.val (aac yt aaa (RE.lst RA.nil Many.nil (by decide)))) (RT.val (aac mU (aac cL aaa aab) aab)))) (RS.seq (aad (aac cL (aac eV aaa aab) (RE.c1 dh aaa)) RG.name)
 (RS.seq (RS.drop (RE.meth T.m_Net .nil aaa (RA.cons (aac cU (aac cU aaa aaa) aab) RA.nil) (.cons Many.nil) rfl))
 (RS.seq (RS.drop (RE.popAt aaa aaa))
 RS.retN))) RS.next)
 (RS.seq (aad (RE.call .nil (RA.cons aaa (RA.cons aaa (RA.cons (RE.c1 dh aaa) RA.nil))) (.cons (.cons (.cons Many.nil))) rfl) RG.name)
 (RS.seq (aap (RA.cons (aac cU aaa (aac cU aaa aak)) (RA.cons (aac cU aaa (aac cU aaa aak)) RA.nil)))
 (RS.seq (aad (aac jX (RE.call .nil (RA.cons aaa (RA.cons (aac di aaa aab) RA.nil)) (.cons (.cons Many.nil)) rfl) (aac wy (aac cL aaa aab) aab)) RG.name)
 (RS.drop (RE.append aaa (RE.tup (RA.cons (RE.meth T.m_Net .nil aaa (RA.cons aaa (RA.cons aaa (RA.cons (aac cU aaa aak) (RA.cons (aac cU aaa aak) (RA.cons aaa RA.nil))))) (.cons (.cons (.cons (.cons (.cons Many.nil))))) rfl) (RA.cons aaa (RA.cons aaa RA.nil))) (.cons (.cons (.cons Many.nil))) (by decide)))))))))⟩
noncomputable def gH:SD→R Fl:=
 (af (aA (dH "Net" cR [] zA0) (zSt 1))
 (af (bj ["Net"] "names" (aa 1) (bx (z1 kb (z1 (aB ["Net"] "names") (aa 0)))))
 (af (bj ["Net"] "rows" (aa 1) (bx (z1 tF (z1 (aB ["Net"] "rows") (aa 0)))))
 (af (bj ["Net"] "last_given" (aa 1) (z1 (aB ["Net"] "last_given") (aa 0)))
 (aW (aa 1))))))
noncomputable def bB:FnV:=zFn N_Net_copied.length gH
theorem se:MetZ P w K mg base 3 Cd "copied" 1 bB []:=
 rg D.d_Net_copied iZ fun hr hu tk=>⟨_,(pss_cons (stY 1 iZ (m_mkZ0 (nL T D) hr (by decide) tk rfl))
 (pss_cons (ps_fld (pv 1) (tyY (gZ (K:=K) rfl) T.z_list (pa_cons (fdY K (pv 0)) pa_nil)) rfl)
 (pss_cons (ps_fld (pv 1) (tyY (BF (K:=K) rfl) T.z_dict (pa_cons (fdY K (pv 0)) pa_nil)) rfl)
 (pss_cons (ps_fld (pv 1) (fdY K (pv 0)) rfl)
 (pss_one (ps_ret (pv 1))))))),(RS.seq (aad (RE.make T.m_Net .nil RA.nil Many.nil rfl) RG.name)
 (RS.seq (RS.fld T.f_names_Net (RE.cell (RE.c1 nq (RE.fld T.f_names_Net aaa))) aaa)
 (RS.seq (RS.fld T.f_rows_Net (RE.cell (RE.c1 q_dict (RE.fld T.f_rows_Net aaa))) aaa)
 (RS.seq (RS.fld T.f_last_given_Net (RE.fld T.f_last_given_Net aaa) aaa)
 (RS.ret aaa)))))⟩
noncomputable def iO:SD→R Fl:=
 (af (az (ar "Net" "need_place" bp [] (aa 0) (zA (aa 1) zA0)))
 (af (az (ar "Net" "need_place" bp [] (aa 0) (zA (aa 2) zA0)))
 (bJ (zB (z2 oEq (aa 1) (aa 2))) fJ aI)))
noncomputable def cQ:FnV:=zFn N_need_ends.length iO
theorem mI:CalZ P w K mg base 2 "need_ends" 3 cQ []:=
 mH D.d_need_ends qH fun hr hu tk=>⟨_,(pss_cons (ps_expr (dA (cg T D) hr (by decide) tk (pv 0) (pa_cons (pv 1) pa_nil)))
 (pss_cons (ps_expr (dA (cg T D) hr (by decide) tk (pv 0) (pa_cons (pv 2) pa_nil)))
 (pss_one (ps_if (ctY (eqY K hr) (pv 1) (pv 2)) (pss_one ps_never) pss_nil)))),(RS.seq (RS.drop (RE.meth T.m_Net .nil aaa (RA.cons aaa RA.nil) (.cons Many.nil) rfl))
 (RS.seq (RS.drop (RE.meth T.m_Net .nil aaa (RA.cons aaa RA.nil) (.cons Many.nil) rfl))
 (aae (RT.val (aac mU aaa aaa)) RS.never RS.next)))⟩
noncomputable def gG:SD→R Fl:=
 (aW (z1 kb (z1 (aB ["Net"] "names") (aa 0))))
noncomputable def cu:FnV:=zFn N_Net_places.length gG
theorem kI:MetZ P w K mg base 1 Cd "places" 1 cu []:=
 rg D.d_Net_places oA fun hr hu tk=>⟨_,(pss_one (ps_ret (tyY (gZ (K:=K) rfl) T.z_list (pa_cons (fdY K (pv 0)) pa_nil)))),(RS.ret (RE.c1 nq (RE.fld T.f_names_Net aaa)))⟩
noncomputable def ku:SD→R Fl:=
 (aW (zLc (aU (aG (z1 iH (z1 kb (z1 (aB ["Net"] "rows") (aa 0)))))) (zSt 1) bP (z2 oIx (z1 (aB ["Net"] "rows") (aa 0)) (aa 1)) [1]))
noncomputable def dR:FnV:=zFn N_Net_ties.length ku
theorem nK:MetZ P w K mg base 1 Cd "ties" 1 dR []:=
 rg D.d_Net_ties iu fun hr hu tk=>⟨_,(pss_one (ps_ret (lcY [("number",1)] iu (pi_list (bnY (wI (K:=K) rfl) T.z_sorted (pa_cons (tyY (gZ (K:=K) rfl) T.z_list (pa_cons (fdY K (pv 0)) pa_nil)) pa_nil))) (gnY 1 iu) pts_nil (ixY K hr (fdY K (pv 0)) (pv 1))))),(RS.ret (aah (is:= [1]) (RI.lst (RE.fix (RE.c1 A1 (RE.c1 nq (RE.fld T.f_rows_Net aaa))))) RG.name aag (aac cU (RE.fld T.f_rows_Net aaa) aaa)))⟩
noncomputable def dD:SD→R Fl:=
 (af (az (aD cQ [] (zA (aa 1) (zA (aa 2) (zA (aa 3) zA0)))))
 (af (bj ["TiesApart"] "names" (aa 0) (ar "Net" "places" cu [] (aa 1) zA0))
 (af (bj ["TiesApart"] "rows" (aa 0) (ar "Net" "ties" dR [] (aa 1) zA0))
 (af (bj ["TiesApart"] "source" (aa 0) (aa 2))
 (bj ["TiesApart"] "target" (aa 0) (aa 3))))))
noncomputable def bI:FnV:=zFn N_TiesApart_init.length dD
theorem kS:MakZ P w K mg base 3 "TiesApart" Ch 4 bI []:=
 makY D.d_TiesApart_init jL fun hr hu tk=>⟨_,(pss_cons (ps_expr (clY (mI T D) hr tk (pa_cons (pv 1) (pa_cons (pv 2) (pa_cons (pv 3) pa_nil)))))
 (pss_cons (ps_fld (pv 0) (jf (kI T D) hr (by decide) tk (pv 1)) rfl)
 (pss_cons (ps_fld (pv 0) (jf (nK T D) hr (by decide) tk (pv 1)) rfl)
 (pss_cons (ps_fld (pv 0) (pv 2) rfl)
 (pss_one (ps_fld (pv 0) (pv 3) rfl)))))),(RS.seq (RS.drop (RE.call .nil (RA.cons aaa (RA.cons aaa (RA.cons aaa RA.nil))) (.cons (.cons (.cons Many.nil))) rfl))
 (RS.seq (RS.fld T.f_names_TiesApart (RE.meth T.m_Net .nil aaa RA.nil Many.nil rfl) aaa)
 (RS.seq (RS.fld T.f_rows_TiesApart (RE.meth T.m_Net .nil aaa RA.nil Many.nil rfl) aaa)
 (RS.seq (RS.fld T.f_source_TiesApart aaa aaa)
 (RS.fld T.f_target_TiesApart aaa aaa)))))⟩
theorem jy:XiZ P w K mg base 1 "BadQuestion" Cb "why" :=
 D.d_BadQuestion_init.xi iy fun fI cdv A outer s H E=>pss_one (ps_ost (pe_var rfl (Or.inl rfl)) (pe_var rfl (Or.inl rfl)))
noncomputable def bN:SD→R Fl:=
 (af (az (aD cQ [] (zA (aa 1) (zA (aa 2) (zA (aa 3) zA0)))))
 (af (bj ["PlacesApart"] "names" (aa 0) (ar "Net" "places" cu [] (aa 1) zA0))
 (af (bj ["PlacesApart"] "rows" (aa 0) (ar "Net" "ties" dR [] (aa 1) zA0))
 (af (bj ["PlacesApart"] "source" (aa 0) (aa 2))
 (af (bj ["PlacesApart"] "target" (aa 0) (aa 3))
 (bJ (zB (z2 (wA false) (hX (zA (aa 2) (zA (aa 3) zA0))) (zLc (aU (aG (z1 (aB ["PlacesApart"] "rows") (aa 0)))) (zSt 4) bP (hX (zA (z1 (aB ["Tie"] "tail") (aa 4)) (zA (z1 (aB ["Tie"] "head") (aa 4)) zA0))) [4]))) (lA "BadQuestion" "why" (zC (.str "tie"))) aI))))))
noncomputable def aV:FnV:=zFn N_PlacesApart_init.length bN
theorem jv:MakZ P w K mg base 3 "PlacesApart" Ci 4 aV []:=
 makY D.d_PlacesApart_init cm fun hr hu tk=>⟨_,(pss_cons (ps_expr (clY (mI T D) hr tk (pa_cons (pv 1) (pa_cons (pv 2) (pa_cons (pv 3) pa_nil)))))
 (pss_cons (ps_fld (pv 0) (jf (kI T D) hr (by decide) tk (pv 1)) rfl)
 (pss_cons (ps_fld (pv 0) (jf (nK T D) hr (by decide) tk (pv 1)) rfl)
 (pss_cons (ps_fld (pv 0) (pv 2) rfl)
 (pss_cons (ps_fld (pv 0) (pv 3) rfl)
 (pss_one (ps_if (ctY (yE K hr) (pe_tup (pa_cons (pv 2) (pa_cons (pv 3) pa_nil))) (lcY [("tie",4)] cm (pi_list (fdY K (pv 0))) (gnY 4 cm) pts_nil (pe_tup (pa_cons (fdY K (pv 4)) (pa_cons (fdY K (pv 4)) pa_nil))))) (pss_one (yw (jy T D) rfl tk hr (by decide) pe_str rfl)) pss_nil))))))),(RS.seq (RS.drop (RE.call .nil (RA.cons aaa (RA.cons aaa (RA.cons aaa RA.nil))) (.cons (.cons (.cons Many.nil))) rfl))
 (RS.seq (RS.fld T.f_names_PlacesApart (RE.meth T.m_Net .nil aaa RA.nil Many.nil rfl) aaa)
 (RS.seq (RS.fld T.f_rows_PlacesApart (RE.meth T.m_Net .nil aaa RA.nil Many.nil rfl) aaa)
 (RS.seq (RS.fld T.f_source_PlacesApart aaa aaa)
 (RS.seq (RS.fld T.f_target_PlacesApart aaa aaa)
 (aae (RT.val (aac (q_inDa (neg:=false)) (RE.tup (RA.cons aaa (RA.cons aaa RA.nil)) (.cons (.cons Many.nil)) (by decide)) (aah (is:= [4]) (RI.lst (RE.fix (RE.fld T.f_rows_PlacesApart aaa))) RG.name aag (RE.tup (RA.cons (RE.fld T.f_tail_Tie aaa) (RA.cons (RE.fld T.f_head_Tie aaa) RA.nil)) (.cons (.cons Many.nil)) (by decide))))) (RS.raise1 D.d_BadQuestion_init.gC D.d_BadQuestion_init.T D.d_BadQuestion_init.no aak) RS.next))))))⟩
noncomputable def bg:SD→R Fl:=
 (af (aA (zC .non) (zSt 4))
 (af (aA (zC .non) (zSt 5))
 (af (zTry (pick tk_FlowError) 6 (aA (zIf (zB (z2 oEq (aa 1) (zC (.int 0)))) (dH "TiesApart" bI [] (zA (aa 0) (zA (aa 2) (zA (aa 3) zA0)))) (dH "PlacesApart" aV [] (zA (aa 0) (zA (aa 2) (zA (aa 3) zA0))))) (zSt 4)) (aA (aa 6) (zSt 5)))
 (af (bJ (zB (z2 (kB false) (aa 5) (zC .non))) (aW (aa 4)) aI)
 (aW (hV (z1 (oIsX (pick isx_BadQuestion) true) (aa 5)) (z2 oEq (z1 (oXf (yy xf_why) "why") (aa 5)) (zC (.str "tie")))))))))
noncomputable def aJ:FnV:=zFn N_Lput_question.length bg
theorem mM:CalZ P w K mg base 5 "_law_put_question" 4 aJ []:=
 mH D.d_Lput_question sc_Lput_question fun hr hu tk=>⟨_,(pss_cons (stY 4 sc_Lput_question pe_non)
 (pss_cons (stY 5 sc_Lput_question pe_non)
 (pss_cons (ps_tryZ (i:=6) (fb:=(aA (zIf (zB (z2 oEq (aa 1) (zC (.int 0)))) (dH "TiesApart" bI [] (zA (aa 0) (zA (aa 2) (zA (aa 3) zA0)))) (dH "PlacesApart" aV [] (zA (aa 0) (zA (aa 2) (zA (aa 3) zA0))))) (zSt 4))) (fs:=(aA (aa 6) (zSt 5))) T.tk_FlowError rfl rfl sc_Lput_question.nd rfl rfl ⟨rfl,by decide, .inl T.m_FlowError⟩ tk rfl rfl (fun W pn xe tk pa=>⟨_,(pss_one (stY 4 sc_Lput_question (pe_ifExp (ctY (eqY K hr) (pv 1) pe_int) (mkY (kS T D) hr tk (pa_cons (pv 0) (pa_cons (pv 2) (pa_cons (pv 3) pa_nil)))) (mkY (jv T D) hr tk (pa_cons (pv 0) (pa_cons (pv 2) (pa_cons (pv 3) pa_nil))))))),(aad (RE.if' (RT.val (aac mU aaa aab)) (RE.make T.m_TiesApart .nil (RA.cons aaa (RA.cons aaa (RA.cons aaa RA.nil))) (.cons (.cons (.cons Many.nil))) rfl) (RE.make T.m_PlacesApart .nil (RA.cons aaa (RA.cons aaa (RA.cons aaa RA.nil))) (.cons (.cons (.cons Many.nil))) rfl)) RG.name)⟩) (fun a pn=>⟨_,(pss_one (stY 5 sc_Lput_question (pv 6))),(aad aaa RG.name)⟩))
 (pss_cons (ps_if (ctY vu (pv 5) pe_non) (pss_one (ps_ret (pv 4))) pss_nil)
 (pss_one (ps_ret (pe_and (bnY (m_isXZ (K:=K)) T.z_isinstance (pa_cons (pv 5) (pa_cons (glY T.m_BadQuestion) pa_nil))) (pe_one (cmY (eqY K hr) (pe_xk (K:=K) (pv 5)) pe_str))))))))),(RS.seq (aad aaf RG.name)
 (RS.seq (aad aaf RG.name)
 (RS.seq aan
 (RS.seq (aae (RT.val (aac (oS (neg:=false)) aaa aaf)) (RS.ret aaa) RS.next)
 (RS.ret (RE.andV (RE.isX T.isx_BadQuestion aaa) (aac mU (RE.xf T.xf_why aaa) aak)))))))⟩
noncomputable def fE:SD→R Fl:=
 (af (bj ["Rest"] "many" (aa 0) (aa 1))
 (af (bj ["Rest"] "heads" (aa 0) (bx (bV zA0)))
 (af (bj ["Rest"] "rooms" (aa 0) (bx (bV zA0)))
 (bj ["Rest"] "starts" (aa 0) (bx (zLc (sk (zA (aa 1) zA0)) (zSt 2) bP (bx (bV zA0)) [2]))))))
noncomputable def bf:FnV:=zFn N_Rest_init.length fE
theorem mK:MakZ P w K mg base 1 "Rest" Ce 2 bf []:=
 makY D.d_Rest_init gb fun hr hu tk=>⟨_,(pss_cons (ps_fld (pv 0) (pv 1) rfl)
 (pss_cons (ps_fld (pv 0) (pe_lst pa_nil) rfl)
 (pss_cons (ps_fld (pv 0) (pe_lst pa_nil) rfl)
 (pss_one (ps_fld (pv 0) (lcY [("point",2)] gb (pi_range1 rfl T.z_range (pa_cons (pv 1) pa_nil)) (gnY 2 gb) pts_nil (pe_lst pa_nil)) rfl))))),(RS.seq (RS.fld T.f_many_Rest aaa aaa)
 (RS.seq (RS.fld T.f_heads_Rest (RE.cell (RE.lst RA.nil Many.nil (by decide))) aaa)
 (RS.seq (RS.fld T.f_rooms_Rest (RE.cell (RE.lst RA.nil Many.nil (by decide))) aaa)
 (RS.fld T.f_starts_Rest (RE.cell (aah (is:= [2]) (aam (RA.cons aaa RA.nil)) RG.name aag (RE.cell (RE.lst RA.nil Many.nil (by decide))))) aaa))))⟩
noncomputable def eM:SD→R Fl:=
 (af (cC (zItT (aG (hX (zA (hX (zA (aa 1) (zA (aa 2) (zA (aa 3) zA0)))) (zA (hX (zA (aa 2) (zA (aa 1) (zA (aa 4) zA0)))) zA0))))) (ig [5,6,7]) (af (az (zM2 isL (oB2 aE) (z2 oIx (z1 (aB ["Rest"] "starts") (aa 0)) (aa 5)) (aG (z1 de (z1 (aB ["Rest"] "heads") (aa 0))))))
 (af (az (zM2 isL (oB2 aE) (z1 (aB ["Rest"] "heads") (aa 0)) (aG (aa 6))))
 (az (zM2 isL (oB2 aE) (z1 (aB ["Rest"] "rooms") (aa 0)) (aG (aa 7)))))))
 (aW (z2 sq (z2 dy (z1 de (z1 (aB ["Rest"] "heads") (aa 0))) (zC (.int 2))) (zC (.int 1)))))
noncomputable def aH:FnV:=zFn N_Rest_put_arc.length eM
theorem eK:∀(j:Nat) (hj:j≤([.int 0]:List V).length),MetZ P w K mg base 1 Ce "put_arc" 5 aH (([.int 0]:List V).drop j):=
 metdY D.d_Rest_put_arc cH fun hr hu tk=>⟨_,(pss_cons (ps_for (passes_of rfl) rfl (pi_tup (pe_tup (pa_cons (pe_tup (pa_cons (pv 1) (pa_cons (pv 2) (pa_cons (pv 3) pa_nil)))) (pa_cons (pe_tup (pa_cons (pv 2) (pa_cons (pv 1) (pa_cons (pv 4) pa_nil)))) pa_nil)))) (gx (K:=K) (n:=3) rfl (pgs_cons (gnY 5 cH) (pgs_cons (gnY 6 cH) (pgs_cons (gnY 7 cH) pgs_nil)))) (pss_cons (ps_expr (pe_bm PySem.F.plainAttrs_list PySem.F.slot_list_append PySem.F.type_list_append mt_append (ixY K hr (fdY K (pv 0)) (pv 5)) (pa_cons (bnY (aT (K:=K)) T.z_len (pa_cons (fdY K (pv 0)) pa_nil)) pa_nil)))
 (pss_cons (ps_expr (pe_bm PySem.F.plainAttrs_list PySem.F.slot_list_append PySem.F.type_list_append mt_append (fdY K (pv 0)) (pa_cons (pv 6) pa_nil)))
 (pss_one (ps_expr (pe_bm PySem.F.plainAttrs_list PySem.F.slot_list_append PySem.F.type_list_append mt_append (fdY K (pv 0)) (pa_cons (pv 7) pa_nil)))))))
 (pss_one (ps_ret (pe_op op_sub (pe_op op_fdivW (bnY (aT (K:=K)) T.z_len (pa_cons (fdY K (pv 0)) pa_nil)) pe_int) pe_int)))),(RS.seq (RS.for' (RI.tup (RE.fix (RE.tup (RA.cons (RE.tup (RA.cons aaa (RA.cons aaa (RA.cons aaa RA.nil))) (.cons (.cons (.cons Many.nil))) (by decide)) (RA.cons (RE.tup (RA.cons aaa (RA.cons aaa (RA.cons aaa RA.nil))) (.cons (.cons (.cons Many.nil))) (by decide)) RA.nil)) (.cons (.cons Many.nil)) (by decide)))) (RG.names (is:= [5,6,7]) rfl) (RS.seq (RS.drop (RE.append (aac cU (RE.fld T.f_starts_Rest aaa) aaa) (RE.c1 dh (RE.fld T.f_heads_Rest aaa))))
 (RS.seq (RS.drop (RE.append (RE.fld T.f_heads_Rest aaa) aaa))
 (RS.drop (RE.append (RE.fld T.f_rooms_Rest aaa) aaa)))))
 (RS.ret (aac wy (aac eV (RE.c1 dh (RE.fld T.f_heads_Rest aaa)) aab) aab)))⟩
noncomputable def iQ:SD→R Fl:=
 (af (aA (z2 oIx (z1 (aB ["Rest"] "rooms") (aa 0)) (aa 1)) (zSt 3))
 (aW (zOrV (z2 (kB false) (aa 3) (zC .non)) (hV (wY (aa 2)) (z2 oGt (aa 3) (zC (.int 0)))))))
noncomputable def eX:FnV:=zFn N_Rest_lets.length iQ
theorem uO:MetZ P w K mg base 1 Ce "lets" 3 eX []:=
 rg D.d_Rest_lets kz fun hr hu tk=>⟨_,(pss_cons (stY 3 kz (ixY K hr (fdY K (pv 0)) (pv 1)))
 (pss_one (ps_ret (pe_or (cmY vu (pv 3) pe_non) (pe_one (pe_and (pe_not (pv 2)) (pe_one (cmY op_gt (pv 3) pe_int)))))))),(RS.seq (aad (aac cU (RE.fld T.f_rooms_Rest aaa) aaa) RG.name)
 (RS.ret (RE.orV (aac (oS (neg:=false)) aaa aaf) (RE.andV (aao aaa) (aac q_gt aaa aab)))))⟩
noncomputable def fC:SD→R Fl:=
 (af (aA (z2 kA (bV (zA (zC .non) zA0)) (z1 (aB ["Rest"] "many") (aa 0))) (zSt 3))
 (af (aA (z2 kA (bV (zA (zC (.bl false)) zA0)) (z1 (aB ["Rest"] "many") (aa 0))) (zSt 4))
 (af (aA (zC (.bl true)) (AF (aa 4) (aa 1)))
 (af (aA (bV (zA (aa 1) zA0)) (zSt 5))
 (af (aA (zC (.int 0)) (zSt 6))
 (af (zWh (zB (z2 oLt (aa 6) (z1 de (aa 5)))) (af (cC (aU (aG (z2 oIx (z1 (aB ["Rest"] "starts") (aa 0)) (z2 oIx (aa 5) (aa 6))))) (zSt 7) (af (aA (z2 oIx (z1 (aB ["Rest"] "heads") (aa 0)) (aa 7)) (zSt 8))
 (bJ (iU (fN (zB (z2 oIx (aa 4) (aa 8)))) (zB (ar "Rest" "lets" eX [] (aa 0) (zA (aa 7) (zA (aa 2) zA0))))) (af (aA (zC (.bl true)) (AF (aa 4) (aa 8)))
 (af (aA (aa 7) (AF (aa 3) (aa 8)))
 (az (zM2 isL (oB2 aE) (aa 5) (aG (aa 8)))))) aI)))
 (zAug 6 (fun a b=>a+b) (zC (.int 1)))))
 (aW (aa 3))))))))
noncomputable def bF:FnV:=zFn N_Rest_walked.length fC
theorem fy:MetZ P w K mg base 2 Ce "walked" 3 bF []:=
 rg D.d_Rest_walked sc_Rest_walked fun hr hu tk=>⟨_,(pss_cons (stY 3 sc_Rest_walked (pe_op cV (pe_lst (pa_cons pe_non pa_nil)) (fdY K (pv 0))))
 (pss_cons (stY 4 sc_Rest_walked (pe_op cV (pe_lst (pa_cons pe_bl pa_nil)) (fdY K (pv 0))))
 (pss_cons (ps_asg pe_bl (pg_sub (pv 4) (pv 1) set_list))
 (pss_cons (stY 5 sc_Rest_walked (pe_lst (pa_cons (pv 1) pa_nil)))
 (pss_cons (stY 6 sc_Rest_walked pe_int)
 (pss_cons (ps_while (passes_of rfl) (ctY op_lt (pv 6) (bnY (aT (K:=K)) T.z_len (pa_cons (pv 5) pa_nil))) (pss_cons (ps_for (passes_of rfl) rfl (pi_list (ixY K hr (fdY K (pv 0)) (ixY K hr (pv 5) (pv 6)))) (gnY 7 sc_Rest_walked) (pss_cons (stY 8 sc_Rest_walked (ixY K hr (fdY K (pv 0)) (pv 7)))
 (pss_one (ps_if (PW.pt (pw_and (pt_not (pt_val (ixY K hr (pv 4) (pv 8)))) (pw_and1 (pt_val (dA (uO T D) hr (by decide) tk (pv 0) (pa_cons (pv 7) (pa_cons (pv 2) pa_nil))))))) (pss_cons (ps_asg pe_bl (pg_sub (pv 4) (pv 8) set_list))
 (pss_cons (ps_asg (pv 7) (pg_sub (pv 3) (pv 8) set_list))
 (pss_one (ps_expr (pe_bm PySem.F.plainAttrs_list PySem.F.slot_list_append PySem.F.type_list_append mt_append (pv 5) (pa_cons (pv 8) pa_nil)))))) pss_nil))))
 (pss_one (ps_aug (i:=6) sc_Rest_walked.nd rfl (Or.inl rfl) pe_int ip_add))))
 (pss_one (ps_ret (pv 3))))))))),(RS.seq (aad (aac jX (RE.lst (RA.cons aaf RA.nil) (.cons Many.nil) (by decide)) (RE.fld T.f_many_Rest aaa)) RG.name)
 (RS.seq (aad (aac jX (RE.lst (RA.cons aai RA.nil) (.cons Many.nil) (by decide)) (RE.fld T.f_many_Rest aaa)) RG.name)
 (RS.seq (aad aai (RG.sub aaa aaa))
 (RS.seq (aad (RE.lst (RA.cons aaa RA.nil) (.cons Many.nil) (by decide)) RG.name)
 (RS.seq (aad aab RG.name)
 (RS.seq (RS.while' (RT.val (aac q_lt aaa (RE.c1 dh aaa))) (RS.seq (RS.for' (RI.lst (RE.fix (aac cU (RE.fld T.f_starts_Rest aaa) (aac cU aaa aaa)))) RG.name (RS.seq (aad (aac cU (RE.fld T.f_heads_Rest aaa) aaa) RG.name)
 (aae (aal (aaj (RT.val (aac cU aaa aaa))) (RT.val (RE.meth T.m_Rest .nil aaa (RA.cons aaa (RA.cons aaa RA.nil)) (.cons (.cons Many.nil)) rfl))) (RS.seq (aad aai (RG.sub aaa aaa))
 (RS.seq (aad aaa (RG.sub aaa aaa))
 (RS.drop (RE.append aaa aaa)))) RS.next)))
 (aaq (f:=(fun a b=>a+b)) aab)))
 (RS.ret aaa)))))))⟩
noncomputable def fB:SD→R Fl:=
 (af (aA (bV zA0) (zSt 3))
 (af (aA (aa 2) (zSt 4))
 (af (zWh (zB (z2 (kB true) (z2 oIx (aa 1) (aa 4)) (zC .non))) (af (az (zM2 isL (oB2 aE) (aa 3) (aG (z2 oIx (aa 1) (aa 4)))))
 (aA (z2 oIx (z1 (aB ["Rest"] "heads") (aa 0)) (z2 oXor (z2 oIx (aa 1) (aa 4)) (zC (.int 1)))) (zSt 4))))
 (af (az (z1 (oB1 gW) (aa 3)))
 (aW (aa 3))))))
noncomputable def bE:FnV:=zFn N_Rest_way_to.length fB
theorem ju:MetZ P w K mg base 1 Ce "way_to" 3 bE []:=
 rg D.d_Rest_way_to cY fun hr hu tk=>⟨_,(pss_cons (stY 3 cY (pe_lst pa_nil))
 (pss_cons (stY 4 cY (pv 2))
 (pss_cons (ps_while (passes_of rfl) (ctY gr (ixY K hr (pv 1) (pv 4)) pe_non) (pss_cons (ps_expr (pe_bm PySem.F.plainAttrs_list PySem.F.slot_list_append PySem.F.type_list_append mt_append (pv 3) (pa_cons (ixY K hr (pv 1) (pv 4)) pa_nil)))
 (pss_one (stY 4 cY (ixY K hr (fdY K (pv 0)) (pe_op op_xor (ixY K hr (pv 1) (pv 4)) pe_int))))))
 (pss_cons (ps_expr (pe_bm0 PySem.F.plainAttrs_list PySem.F.slot_list_reverse PySem.F.type_list_reverse mt_reverse (pv 3)))
 (pss_one (ps_ret (pv 3))))))),(RS.seq (aad (RE.lst RA.nil Many.nil (by decide)) RG.name)
 (RS.seq (aad aaa RG.name)
 (RS.seq (RS.while' (RT.val (aac (oS (neg:=true)) (aac cU aaa aaa) aaf)) (RS.seq (RS.drop (RE.append aaa (aac cU aaa aaa)))
 (aad (aac cU (RE.fld T.f_heads_Rest aaa) (aac q_xor (aac cU aaa aaa) aab)) RG.name)))
 (RS.seq (RS.drop (RE.reverse aaa))
 (RS.ret aaa)))))⟩
noncomputable def fF:SD→R Fl:=
 (cC (zItT (aG (hX (zA (hX (zA (aa 1) (zA (z2 sq (zC (.int 0)) (aa 2)) zA0))) (zA (hX (zA (z2 oXor (aa 1) (zC (.int 1))) (zA (aa 2) zA0))) zA0))))) (ig [3,4]) (bJ (zB (z2 (kB true) (z2 oIx (z1 (aB ["Rest"] "rooms") (aa 0)) (aa 3)) (zC .non))) (wj gL gA (fun a b=>a+b) (z1 (aB ["Rest"] "rooms") (aa 0)) (aa 3) (aa 4)) aI))
noncomputable def dJ:FnV:=zFn N_Rest_change.length fF
theorem qb:MetZ P w K mg base 1 Ce "change" 3 dJ []:=
 rg D.d_Rest_change eF fun hr hu tk=>⟨_,(pss_one (ps_for (passes_of rfl) rfl (pi_tup (pe_tup (pa_cons (pe_tup (pa_cons (pv 1) (pa_cons (pe_op op_sub pe_int (pv 2)) pa_nil))) (pa_cons (pe_tup (pa_cons (pe_op op_xor (pv 1) pe_int) (pa_cons (pv 2) pa_nil))) pa_nil)))) (gx (K:=K) (n:=2) rfl (pgs_cons (gnY 3 eF) (pgs_cons (gnY 4 eF) pgs_nil))) (pss_one (ps_if (ctY gr (ixY K hr (fdY K (pv 0)) (pv 3)) pe_non) (pss_one (ps_augS (fdY K (pv 0)) (pv 3) (zf (K:=K)) (pv 4) ip_add set_list)) pss_nil)))),(RS.for' (RI.tup (RE.fix (RE.tup (RA.cons (RE.tup (RA.cons aaa (RA.cons (aac wy aab aaa) RA.nil)) (.cons (.cons Many.nil)) (by decide)) (RA.cons (RE.tup (RA.cons (aac q_xor aaa aab) (RA.cons aaa RA.nil)) (.cons (.cons Many.nil)) (by decide)) RA.nil)) (.cons (.cons Many.nil)) (by decide)))) (RG.names (is:= [3,4]) rfl) (aae (RT.val (aac (oS (neg:=true)) (aac cU (RE.fld T.f_rooms_Rest aaa) aaa) aaf)) (RS.laug (f:=(fun a b=>a+b)) (RE.fld T.f_rooms_Rest aaa) aaa aaa) RS.next))⟩
noncomputable def fD:SD→R Fl:=
 (af (aA (zC (.int 0)) (zSt 3))
 (af (aA (ar "Rest" "way_to" bE [] (aa 0) (zA (ar "Rest" "walked" bF [] (aa 0) (zA (aa 1) (zA (zC (.bl false)) zA0))) (zA (aa 2) zA0))) (zSt 4))
 (af (zWh (zB (z2 oNe (aa 4) (bV zA0))) (af (aA (z1 qW (zLc (aU (aG (aa 4))) (zSt 6) (zB (z2 (kB true) (z2 oIx (z1 (aB ["Rest"] "rooms") (aa 0)) (aa 6)) (zC .non))) (z2 oIx (z1 (aB ["Rest"] "rooms") (aa 0)) (aa 6)) [6])) (zSt 5))
 (af (cC (aU (aG (aa 4))) (zSt 6) (az (ar "Rest" "change" dJ [] (aa 0) (zA (aa 6) (zA (aa 5) zA0)))))
 (af (zAug 3 (fun a b=>a+b) (aa 5))
 (aA (ar "Rest" "way_to" bE [] (aa 0) (zA (ar "Rest" "walked" bF [] (aa 0) (zA (aa 1) (zA (zC (.bl false)) zA0))) (zA (aa 2) zA0))) (zSt 4))))))
 (aW (aa 3)))))
noncomputable def bQ:FnV:=zFn N_Rest_lift.length fD
theorem mJ:MetZ P w K mg base 3 Ce "lift" 3 bQ []:=
 rg D.d_Rest_lift sc_Rest_lift fun hr hu tk=>⟨_,(pss_cons (stY 3 sc_Rest_lift pe_int)
 (pss_cons (stY 4 sc_Rest_lift (dA (ju T D) hr (by decide) tk (pv 0) (pa_cons (dA (fy T D) hr (by decide) tk (pv 0) (pa_cons (pv 1) (pa_cons pe_bl pa_nil))) (pa_cons (pv 2) pa_nil))))
 (pss_cons (ps_while (passes_of rfl) (ctY (neY K hr) (pv 4) (pe_lst pa_nil)) (pss_cons (stY 5 sc_Rest_lift (bnY (cr_min rfl) T.z_min (pa_cons (lcY [("half",6)] sc_Rest_lift (pi_list (pv 4)) (gnY 6 sc_Rest_lift) (pts_one (ctY gr (ixY K hr (fdY K (pv 0)) (pv 6)) pe_non)) (ixY K hr (fdY K (pv 0)) (pv 6))) pa_nil)))
 (pss_cons (ps_for (passes_of rfl) rfl (pi_list (pv 4)) (gnY 6 sc_Rest_lift) (pss_one (ps_expr (dA (qb T D) hr (by decide) tk (pv 0) (pa_cons (pv 6) (pa_cons (pv 5) pa_nil))))))
 (pss_cons (ps_aug (i:=3) sc_Rest_lift.nd rfl (Or.inl rfl) (pv 5) ip_add)
 (pss_one (stY 4 sc_Rest_lift (dA (ju T D) hr (by decide) tk (pv 0) (pa_cons (dA (fy T D) hr (by decide) tk (pv 0) (pa_cons (pv 1) (pa_cons pe_bl pa_nil))) (pa_cons (pv 2) pa_nil)))))))))
 (pss_one (ps_ret (pv 3)))))),(RS.seq (aad aab RG.name)
 (RS.seq (aad (RE.meth T.m_Rest .nil aaa (RA.cons (RE.meth T.m_Rest .nil aaa (RA.cons aaa (RA.cons aai RA.nil)) (.cons (.cons Many.nil)) rfl) (RA.cons aaa RA.nil)) (.cons (.cons Many.nil)) rfl) RG.name)
 (RS.seq (RS.while' (RT.val (aac yt aaa (RE.lst RA.nil Many.nil (by decide)))) (RS.seq (aad (RE.c1 q_minL (aah (is:= [6]) (RI.lst (RE.fix aaa)) RG.name (RT.val (aac (oS (neg:=true)) (aac cU (RE.fld T.f_rooms_Rest aaa) aaa) aaf)) (aac cU (RE.fld T.f_rooms_Rest aaa) aaa))) RG.name)
 (RS.seq (RS.for' (RI.lst (RE.fix aaa)) RG.name (RS.drop (RE.meth T.m_Rest .nil aaa (RA.cons aaa (RA.cons aaa RA.nil)) (.cons (.cons Many.nil)) rfl)))
 (RS.seq (aaq (f:=(fun a b=>a+b)) aaa)
 (aad (RE.meth T.m_Rest .nil aaa (RA.cons (RE.meth T.m_Rest .nil aaa (RA.cons aaa (RA.cons aai RA.nil)) (.cons (.cons Many.nil)) rfl) (RA.cons aaa RA.nil)) (.cons (.cons Many.nil)) rfl) RG.name)))))
 (RS.ret aaa))))⟩
noncomputable def eN:SD→R Fl:=
 (aW (z2 oIx (z1 (aB ["Rest"] "rooms") (aa 0)) (z2 cA (z2 kA (zC (.int 2)) (aa 1)) (zC (.int 1)))))
noncomputable def aN:FnV:=zFn N_Rest_back_of.length eN
theorem hZ:MetZ P w K mg base 1 Ce "back_of" 2 aN []:=
 rg D.d_Rest_back_of lR fun hr hu tk=>⟨_,(pss_one (ps_ret (ixY K hr (fdY K (pv 0)) (pe_op (aS (K:=K)) (pe_op cV pe_int (pv 1)) pe_int)))),(RS.ret (aac cU (RE.fld T.f_rooms_Rest aaa) (aac di (aac jX aab aaa) aab)))⟩
noncomputable def iM:SD→R Fl:=
 (af (aA (bV zA0) (zSt 3))
 (af (aA (bV (zA (aa 2) zA0)) (zSt 4))
 (af (cC (aU (aG (aa 0))) (zSt 5) (af (aA (z2 oIx (aa 1) (aa 5)) (zSt 6))
 (bJ (zB (z2 (oIn false) (aa 6) (aa 4))) (af (aA (zM2 isL bb (aa 4) (aa 6)) (zSt 7))
 (af (aA (zSl (aa 4) zNo (zPt (z2 cA (aa 7) (zC (.int 1))))) (zSt 4))
 (aA (zSl (aa 3) zNo (zPt (aa 7))) (zSt 3)))) (af (az (zM2 isL (oB2 aE) (aa 4) (aG (aa 6))))
 (az (zM2 isL (oB2 aE) (aa 3) (aG (aa 5))))))))
 (aW (aa 3)))))
noncomputable def dU:FnV:=zFn N_shortened.length iM
theorem uL:CalZ P w K mg base 1 "shortened" 3 dU []:=
 mH D.d_shortened bC fun hr hu tk=>⟨_,(pss_cons (stY 3 bC (pe_lst pa_nil))
 (pss_cons (stY 4 bC (pe_lst (pa_cons (pv 2) pa_nil)))
 (pss_cons (ps_for (passes_of rfl) rfl (pi_list (pv 0)) (gnY 5 bC) (pss_cons (stY 6 bC (ixY K hr (pv 1) (pv 5)))
 (pss_one (ps_if (ctY (inY K hr) (pv 6) (pv 4)) (pss_cons (stY 7 bC (fm (K:=K) (pv 4) (pv 6)))
 (pss_cons (stY 4 bC (pe_slice (AQ (K:=K)) (pv 4) po_none (po_some (pe_op (aS (K:=K)) (pv 7) pe_int))))
 (pss_one (stY 3 bC (pe_slice (AQ (K:=K)) (pv 3) po_none (po_some (pv 7))))))) (pss_cons (ps_expr (pe_bm PySem.F.plainAttrs_list PySem.F.slot_list_append PySem.F.type_list_append mt_append (pv 4) (pa_cons (pv 6) pa_nil)))
 (pss_one (ps_expr (pe_bm PySem.F.plainAttrs_list PySem.F.slot_list_append PySem.F.type_list_append mt_append (pv 3) (pa_cons (pv 5) pa_nil)))))))))
 (pss_one (ps_ret (pv 3)))))),(RS.seq (aad (RE.lst RA.nil Many.nil (by decide)) RG.name)
 (RS.seq (aad (RE.lst (RA.cons aaa RA.nil) (.cons Many.nil) (by decide)) RG.name)
 (RS.seq (RS.for' (RI.lst (RE.fix aaa)) RG.name (RS.seq (aad (aac cU aaa aaa) RG.name)
 (aae (RT.val (aac (qu (neg:=false)) aaa aaa)) (RS.seq (aad (RE.index aaa aaa) RG.name)
 (RS.seq (aad (RE.sl aaa RO.no (RO.part (aac di aaa aab))) RG.name)
 (aad (RE.sl aaa RO.no (RO.part aaa)) RG.name))) (RS.seq (RS.drop (RE.append aaa aaa))
 (RS.drop (RE.append aaa aaa))))))
 (RS.ret aaa))))⟩
noncomputable def jz:SD→R Fl:=
 (af (aA (bx (z1 kb (aa 0))) (zSt 5))
 (af (aA (bV zA0) (zSt 6))
 (af (zWh (zB (z2 (oIn false) (aa 3) (zLc (aU (aG (aa 5))) (zSt 9) bP (z2 oIx (aa 1) (aa 9)) [9]))) (af (aA (aa 3) (zSt 7))
 (af (aA (bV zA0) (zSt 8))
 (af (zWh (zB (z2 oNe (aa 7) (aa 4))) (af (aA (z2 oIx (zLc (aU (aG (aa 5))) (zSt 10) (zB (z2 oEq (z2 oIx (aa 1) (aa 10)) (aa 7))) (aa 10) [10]) (zC (.int 0))) (zSt 9))
 (af (az (zM2 isL (oB2 um) (aa 5) (aa 9)))
 (af (az (zM2 isL (oB2 aE) (aa 8) (aG (aa 9))))
 (aA (z2 oIx (aa 2) (aa 9)) (zSt 7))))))
 (az (zM2 isL (oB2 aE) (aa 6) (aG (aD dU [] (zA (aa 8) (zA (aa 2) (zA (aa 3) zA0)))))))))))
 (aW (aa 6)))))
noncomputable def df:FnV:=zFn N_ways_in.length jz
theorem rX:CalZ P w K mg base 2 "ways_in" 5 df []:=
 mH D.d_ways_in bz fun hr hu tk=>⟨_,(pss_cons (stY 5 bz (tyY (gZ (K:=K) rfl) T.z_list (pa_cons (pv 0) pa_nil)))
 (pss_cons (stY 6 bz (pe_lst pa_nil))
 (pss_cons (ps_while (passes_of rfl) (ctY (inY K hr) (pv 3) (lcY [("arc",9)] bz (pi_list (pv 5)) (gnY 9 bz) pts_nil (ixY K hr (pv 1) (pv 9)))) (pss_cons (stY 7 bz (pv 3))
 (pss_cons (stY 8 bz (pe_lst pa_nil))
 (pss_cons (ps_while (passes_of rfl) (ctY (neY K hr) (pv 7) (pv 4)) (pss_cons (stY 9 bz (ixY K hr (lcY [("one",10)] bz (pi_list (pv 5)) (gnY 10 bz) (pts_one (ctY (eqY K hr) (ixY K hr (pv 1) (pv 10)) (pv 7))) (pv 10)) pe_int))
 (pss_cons (ps_expr (pe_bm PySem.F.plainAttrs_list PySem.F.slot_list_remove PySem.F.type_list_remove (mt_remD (K:=K) hr.units) (pv 5) (pa_cons (pv 9) pa_nil)))
 (pss_cons (ps_expr (pe_bm PySem.F.plainAttrs_list PySem.F.slot_list_append PySem.F.type_list_append mt_append (pv 8) (pa_cons (pv 9) pa_nil)))
 (pss_one (stY 7 bz (ixY K hr (pv 2) (pv 9))))))))
 (pss_one (ps_expr (pe_bm PySem.F.plainAttrs_list PySem.F.slot_list_append PySem.F.type_list_append mt_append (pv 6) (pa_cons (clY (uL T D) hr tk (pa_cons (pv 8) (pa_cons (pv 2) (pa_cons (pv 3) pa_nil)))) pa_nil))))))))
 (pss_one (ps_ret (pv 6)))))),(RS.seq (aad (RE.cell (RE.c1 nq aaa)) RG.name)
 (RS.seq (aad (RE.lst RA.nil Many.nil (by decide)) RG.name)
 (RS.seq (RS.while' (RT.val (aac (qu (neg:=false)) aaa (aah (is:= [9]) (RI.lst (RE.fix aaa)) RG.name aag (aac cU aaa aaa)))) (RS.seq (aad aaa RG.name)
 (RS.seq (aad (RE.lst RA.nil Many.nil (by decide)) RG.name)
 (RS.seq (RS.while' (RT.val (aac yt aaa aaa)) (RS.seq (aad (aac cU (aah (is:= [10]) (RI.lst (RE.fix aaa)) RG.name (RT.val (aac mU (aac cU aaa aaa) aaa)) aaa) aab) RG.name)
 (RS.seq (RS.drop (RE.remD aaa aaa))
 (RS.seq (RS.drop (RE.append aaa aaa))
 (aad (aac cU aaa aaa) RG.name)))))
 (RS.drop (RE.append aaa (RE.call .nil (RA.cons aaa (RA.cons aaa (RA.cons aaa RA.nil))) (.cons (.cons (.cons Many.nil))) rfl)))))))
 (RS.ret aaa))))⟩
noncomputable def eL:SD→R Fl:=
 (af (aA (ar "Rest" "walked" bF [] (aa 0) (zA (aa 1) (zA (zC (.bl false)) zA0))) (zSt 2))
 (aW (zLc (fR (aG (aa 2))) (ig [3,4]) bP (zOrV (z2 oEq (aa 3) (aa 1)) (z2 (kB true) (aa 4) (zC .non))) [3,4])))
noncomputable def aZ:FnV:=zFn N_Rest_reached.length eL
theorem hY:MetZ P w K mg base 3 Ce "reached" 2 aZ []:=
 rg D.d_Rest_reached bT fun hr hu tk=>⟨_,(pss_cons (stY 2 bT (dA (fy T D) hr (by decide) tk (pv 0) (pa_cons (pv 1) (pa_cons pe_bl pa_nil))))
 (pss_one (ps_ret (lcY [("point",3),("half",4)] bT (pi_enum rfl T.z_enumerate (pa_cons (pv 2) pa_nil)) (gx (K:=K) (n:=2) rfl (pgs_cons (gnY 3 bT) (pgs_cons (gnY 4 bT) pgs_nil))) pts_nil (pe_or (cmY (eqY K hr) (pv 3) (pv 1)) (pe_one (cmY gr (pv 4) pe_non))))))),(RS.seq (aad (RE.meth T.m_Rest .nil aaa (RA.cons aaa (RA.cons aai RA.nil)) (.cons (.cons Many.nil)) rfl) RG.name)
 (RS.ret (aah (is:= [3,4]) (RI.enum (RE.fix aaa)) (RG.names (is:= [3,4]) rfl) aag (RE.orV (aac mU aaa aaa) (aac (oS (neg:=true)) aaa aaf)))))⟩
noncomputable def gK:SD→R Fl:=
 (af (bj ["Apart"] "ways" (aa 0) (aa 1))
 (bj ["Apart"] "wall" (aa 0) (aa 2)))
noncomputable def ba:FnV:=zFn N_Apart_init.length gK
theorem kK:MakZ P w K mg base 1 "Apart" Cf 3 ba []:=
 makY D.d_Apart_init oF fun hr hu tk=>⟨_,(pss_cons (ps_fld (pv 0) (pv 1) rfl)
 (pss_one (ps_fld (pv 0) (pv 2) rfl))),(RS.seq (RS.fld T.f_ways_Apart aaa aaa)
 (RS.fld T.f_wall_Apart aaa aaa))⟩
noncomputable def bM:SD→R Fl:=
 (af (aA (dH "Rest" bf [] (zA (z1 de (z1 (aB ["TiesApart"] "names") (aa 0))) zA0)) (zSt 1))
 (af (aA (zLc (aU (aG (z1 (aB ["TiesApart"] "rows") (aa 0)))) (zSt 12) bP (zM2 isL bb (z1 (aB ["TiesApart"] "names") (aa 0)) (z1 (aB ["Tie"] "tail") (aa 12))) [12]) (zSt 2))
 (af (aA (zLc (aU (aG (z1 (aB ["TiesApart"] "rows") (aa 0)))) (zSt 12) bP (zM2 isL bb (z1 (aB ["TiesApart"] "names") (aa 0)) (z1 (aB ["Tie"] "head") (aa 12))) [12]) (zSt 3))
 (af (aA (zLc (Ay (aa 2) (aa 3)) (ig [13,14]) bP (ar "Rest" "put_arc" aH [.int 0] (aa 1) (zA (aa 13) (zA (aa 14) (zA (zC (.int 1)) zA0)))) [13,14]) (zSt 4))
 (af (wX 5 6 (zA (zM2 isL bb (z1 (aB ["TiesApart"] "names") (aa 0)) (z1 (aB ["TiesApart"] "source") (aa 0))) (zA (zM2 isL bb (z1 (aB ["TiesApart"] "names") (aa 0)) (z1 (aB ["TiesApart"] "target") (aa 0))) zA0)))
 (af (az (ar "Rest" "lift" bQ [] (aa 1) (zA (aa 5) (zA (aa 6) zA0))))
 (af (aA (zLc (fR (aG (aa 4))) (ig [11,15]) (zB (z2 oGt (ar "Rest" "back_of" aN [] (aa 1) (zA (aa 15) zA0)) (zC (.int 0)))) (aa 11) [11,15]) (zSt 7))
 (af (aA (aD df [] (zA (aa 7) (zA (aa 2) (zA (aa 3) (zA (aa 5) (zA (aa 6) zA0)))))) (zSt 8))
 (af (aA (ar "Rest" "reached" aZ [] (aa 1) (zA (aa 5) zA0)) (zSt 9))
 (af (aA (bx (bV zA0)) (zSt 10))
 (af (cC (fR (aG (z1 (aB ["TiesApart"] "rows") (aa 0)))) (ig [11,12]) (bJ (iU (zB (z2 oIx (aa 9) (z2 oIx (aa 2) (aa 11)))) (fN (zB (z2 oIx (aa 9) (z2 oIx (aa 3) (aa 11)))))) (az (zM2 isL (oB2 aE) (aa 10) (aG (z1 (aB ["Tie"] "number") (aa 12))))) aI))
 (aW (zFrz (dH "Apart" ba [] (zA (bx (zLc (aU (aG (aa 8))) (zSt 16) bP (bx (zLc (aU (aG (aa 16))) (zSt 11) bP (z1 (aB ["Tie"] "number") (z2 oIx (z1 (aB ["TiesApart"] "rows") (aa 0)) (aa 11))) [11])) [16])) (zA (aa 10) zA0))))))))))))))))
noncomputable def ak:FnV:=zFn N_TiesApart_answer.length bM
theorem eE:MetZ P w K mg base 4 Ch "answer" 1 ak []:=
 rg D.d_TiesApart_answer sc_TiesApart_answer fun hr hu tk=>⟨_,(pss_cons (stY 1 sc_TiesApart_answer (mkY (mK T D) hr tk (pa_cons (bnY (aT (K:=K)) T.z_len (pa_cons (fdY K (pv 0)) pa_nil)) pa_nil)))
 (pss_cons (slY 2 [("tie",12)] sc_TiesApart_answer (pi_list (fdY K (pv 0))) (gnY 12 sc_TiesApart_answer) pts_nil (fm (K:=K) (fdY K (pv 0)) (fdY K (pv 12))))
 (pss_cons (slY 3 [("tie",12)] sc_TiesApart_answer (pi_list (fdY K (pv 0))) (gnY 12 sc_TiesApart_answer) pts_nil (fm (K:=K) (fdY K (pv 0)) (fdY K (pv 12))))
 (pss_cons (slY 4 [("tail",13),("head",14)] sc_TiesApart_answer (pi_zip rfl T.z_zip (pa_cons (pv 2) (pa_cons (pv 3) pa_nil))) (gx (K:=K) (n:=2) rfl (pgs_cons (gnY 13 sc_TiesApart_answer) (pgs_cons (gnY 14 sc_TiesApart_answer) pgs_nil))) pts_nil (Bh (K:=K) (mg:=mg) ((eK T D) 0 (by decide)) hr (by decide) lK (pv 1) (pa_cons (pv 13) (pa_cons (pv 14) (pa_cons pe_int pa_nil)))))
 (pss_cons (ps_par (i:=5) (j:=6) (by rfl) sc_TiesApart_answer.nd rfl rfl (by decide) rfl rfl (pa_cons (fm (K:=K) (fdY K (pv 0)) (fdY K (pv 0))) (pa_cons (fm (K:=K) (fdY K (pv 0)) (fdY K (pv 0))) pa_nil)) (by rfl))
 (pss_cons (ps_expr (dA (mJ T D) hr (by decide) tk (pv 1) (pa_cons (pv 5) (pa_cons (pv 6) pa_nil))))
 (pss_cons (slY 7 [("place",11),("arc",15)] sc_TiesApart_answer (pi_enum rfl T.z_enumerate (pa_cons (pv 4) pa_nil)) (gx (K:=K) (n:=2) rfl (pgs_cons (gnY 11 sc_TiesApart_answer) (pgs_cons (gnY 15 sc_TiesApart_answer) pgs_nil))) (pts_one (ctY op_gt (Bh (K:=K) (mg:=mg) (hZ T D) hr (by decide) lK (pv 1) (pa_cons (pv 15) pa_nil)) pe_int)) (pv 11))
 (pss_cons (stY 8 sc_TiesApart_answer (clY (rX T D) hr tk (pa_cons (pv 7) (pa_cons (pv 2) (pa_cons (pv 3) (pa_cons (pv 5) (pa_cons (pv 6) pa_nil)))))))
 (pss_cons (stY 9 sc_TiesApart_answer (dA (hY T D) hr (by decide) tk (pv 1) (pa_cons (pv 5) pa_nil)))
 (pss_cons (stY 10 sc_TiesApart_answer (pe_lst pa_nil))
 (pss_cons (ps_for (passes_of rfl) rfl (pi_enum rfl T.z_enumerate (pa_cons (fdY K (pv 0)) pa_nil)) (gx (K:=K) (n:=2) rfl (pgs_cons (gnY 11 sc_TiesApart_answer) (pgs_cons (gnY 12 sc_TiesApart_answer) pgs_nil))) (pss_one (ps_if (PW.pt (pw_and (pt_val (ixY K hr (pv 9) (ixY K hr (pv 2) (pv 11)))) (pw_and1 (pt_not (pt_val (ixY K hr (pv 9) (ixY K hr (pv 3) (pv 11)))))))) (pss_one (ps_expr (pe_bm PySem.F.plainAttrs_list PySem.F.slot_list_append PySem.F.type_list_append mt_append (pv 10) (pa_cons (fdY K (pv 12)) pa_nil)))) pss_nil)))
 (pss_one (ps_ret (mkY (kK T D) hr tk (pa_cons (lcY [("way",16)] sc_TiesApart_answer (pi_list (pv 8)) (gnY 16 sc_TiesApart_answer) pts_nil (lcY2 [("place",11)] sc_TiesApart_answer (pi_list (pv 16)) (gnY 11 sc_TiesApart_answer) pts_nil (fdY K (ixY K hr (fdY K (pv 0)) (pv 11))))) (pa_cons (pv 10) pa_nil)))))))))))))))),(RS.seq (aad (RE.make T.m_Rest .nil (RA.cons (RE.c1 dh (RE.fld T.f_names_TiesApart aaa)) RA.nil) (.cons Many.nil) rfl) RG.name)
 (RS.seq (aad (aah (is:= [12]) (RI.lst (RE.fix (RE.fld T.f_rows_TiesApart aaa))) RG.name aag (RE.index (RE.fld T.f_names_TiesApart aaa) (RE.fld T.f_tail_Tie aaa))) RG.name)
 (RS.seq (aad (aah (is:= [12]) (RI.lst (RE.fix (RE.fld T.f_rows_TiesApart aaa))) RG.name aag (RE.index (RE.fld T.f_names_TiesApart aaa) (RE.fld T.f_head_Tie aaa))) RG.name)
 (RS.seq (aad (aah (is:= [13,14]) (RI.zip aaa aaa) (RG.names (is:= [13,14]) rfl) aag (RE.meth T.m_Rest (.cons rfl .nil) aaa (RA.cons aaa (RA.cons aaa (RA.cons aab RA.nil))) (.cons (.cons (.cons Many.nil))) rfl)) RG.name)
 (RS.seq (aap (RA.cons (RE.index (RE.fld T.f_names_TiesApart aaa) (RE.fld T.f_source_TiesApart aaa)) (RA.cons (RE.index (RE.fld T.f_names_TiesApart aaa) (RE.fld T.f_target_TiesApart aaa)) RA.nil)))
 (RS.seq (RS.drop (RE.meth T.m_Rest .nil aaa (RA.cons aaa (RA.cons aaa RA.nil)) (.cons (.cons Many.nil)) rfl))
 (RS.seq (aad (aah (is:= [11,15]) (RI.enum (RE.fix aaa)) (RG.names (is:= [11,15]) rfl) (RT.val (aac q_gt (RE.meth T.m_Rest .nil aaa (RA.cons aaa RA.nil) (.cons Many.nil) rfl) aab)) aaa) RG.name)
 (RS.seq (aad (RE.call .nil (RA.cons aaa (RA.cons aaa (RA.cons aaa (RA.cons aaa (RA.cons aaa RA.nil))))) (.cons (.cons (.cons (.cons (.cons Many.nil))))) rfl) RG.name)
 (RS.seq (aad (RE.meth T.m_Rest .nil aaa (RA.cons aaa RA.nil) (.cons Many.nil) rfl) RG.name)
 (RS.seq (aad (RE.cell (RE.lst RA.nil Many.nil (by decide))) RG.name)
 (RS.seq (RS.for' (RI.enum (RE.fix (RE.fld T.f_rows_TiesApart aaa))) (RG.names (is:= [11,12]) rfl) (aae (aal (RT.val (aac cU aaa (aac cU aaa aaa))) (aaj (RT.val (aac cU aaa (aac cU aaa aaa))))) (RS.drop (RE.append aaa (RE.fld T.f_number_Tie aaa))) RS.next))
 (RS.ret (RE.frz (RE.make T.m_Apart .nil (RA.cons (RE.cell (aah (is:= [16]) (RI.lst (RE.fix aaa)) RG.name aag (RE.cell (aah (is:= [11]) (RI.lst (RE.fix aaa)) RG.name aag (RE.fld T.f_number_Tie (aac cU (RE.fld T.f_rows_TiesApart aaa) aaa)))))) (RA.cons aaa RA.nil)) (.cons (.cons Many.nil)) rfl))))))))))))))⟩
noncomputable def bw:SD→R Fl:=
 (af (aA (z1 de (z1 (aB ["PlacesApart"] "names") (aa 0))) (zSt 1))
 (af (aA (dH "Rest" bf [] (zA (z2 kA (zC (.int 2)) (aa 1)) zA0)) (zSt 2))
 (af (wX 3 4 (zA (zM2 isL bb (z1 (aB ["PlacesApart"] "names") (aa 0)) (z1 (aB ["PlacesApart"] "source") (aa 0))) (zA (zM2 isL bb (z1 (aB ["PlacesApart"] "names") (aa 0)) (z1 (aB ["PlacesApart"] "target") (aa 0))) zA0)))
 (af (cC (sk (zA (aa 1) zA0)) (zSt 5) (az (ar "Rest" "put_arc" aH [.int 0] (aa 2) (zA (aa 5) (zA (z2 cA (aa 1) (aa 5)) (zA (zIf (zB (z2 (oIn false) (aa 5) (hX (zA (aa 3) (zA (aa 4) zA0))))) (zC .non) (zC (.int 1))) zA0))))))
 (af (aA (zLc (aU (aG (z1 (aB ["PlacesApart"] "rows") (aa 0)))) (zSt 13) bP (zM2 isL bb (z1 (aB ["PlacesApart"] "names") (aa 0)) (z1 (aB ["Tie"] "tail") (aa 13))) [13]) (zSt 6))
 (af (aA (zLc (aU (aG (z1 (aB ["PlacesApart"] "rows") (aa 0)))) (zSt 13) bP (zM2 isL bb (z1 (aB ["PlacesApart"] "names") (aa 0)) (z1 (aB ["Tie"] "head") (aa 13))) [13]) (zSt 7))
 (af (aA (zLc (Ay (aa 6) (aa 7)) (ig [14,15]) bP (ar "Rest" "put_arc" aH [.int 0] (aa 2) (zA (z2 cA (aa 1) (aa 14)) (zA (aa 15) (zA (zC .non) zA0)))) [14,15]) (zSt 8))
 (af (az (ar "Rest" "lift" bQ [] (aa 2) (zA (aa 3) (zA (aa 4) zA0))))
 (af (aA (zLc (fR (aG (aa 8))) (ig [5,16]) (zB (z2 oGt (ar "Rest" "back_of" aN [] (aa 2) (zA (aa 16) zA0)) (zC (.int 0)))) (aa 5) [5,16]) (zSt 9))
 (af (aA (aD df [] (zA (aa 9) (zA (aa 6) (zA (aa 7) (zA (aa 3) (zA (aa 4) zA0)))))) (zSt 10))
 (af (aA (ar "Rest" "reached" aZ [] (aa 2) (zA (aa 3) zA0)) (zSt 11))
 (af (aA (bx (zLc (fR (aG (z1 (aB ["PlacesApart"] "names") (aa 0)))) (ig [5,17]) (iU (zB (z2 oIx (aa 11) (aa 5))) (fN (zB (z2 oIx (aa 11) (z2 cA (aa 1) (aa 5)))))) (aa 17) [5,17])) (zSt 12))
 (aW (zFrz (dH "Apart" ba [] (zA (bx (zLc (aU (aG (aa 10))) (zSt 18) bP (bx (zLc (aU (aG (aa 18))) (zSt 5) bP (z1 (aB ["Tie"] "number") (z2 oIx (z1 (aB ["PlacesApart"] "rows") (aa 0)) (aa 5))) [5])) [18])) (zA (aa 12) zA0)))))))))))))))))
noncomputable def ah:FnV:=zFn N_PlacesApart_answer.length bw
theorem dG:MetZ P w K mg base 4 Ci "answer" 1 ah []:=
 rg D.d_PlacesApart_answer sc_PlacesApart_answer fun hr hu tk=>⟨_,(pss_cons (stY 1 sc_PlacesApart_answer (bnY (aT (K:=K)) T.z_len (pa_cons (fdY K (pv 0)) pa_nil)))
 (pss_cons (stY 2 sc_PlacesApart_answer (mkY (mK T D) hr tk (pa_cons (pe_op cV pe_int (pv 1)) pa_nil)))
 (pss_cons (ps_par (i:=3) (j:=4) (by rfl) sc_PlacesApart_answer.nd rfl rfl (by decide) rfl rfl (pa_cons (fm (K:=K) (fdY K (pv 0)) (fdY K (pv 0))) (pa_cons (fm (K:=K) (fdY K (pv 0)) (fdY K (pv 0))) pa_nil)) (by rfl))
 (pss_cons (ps_for (passes_of rfl) rfl (pi_range1 rfl T.z_range (pa_cons (pv 1) pa_nil)) (gnY 5 sc_PlacesApart_answer) (pss_one (ps_expr (dA ((eK T D) 0 (by decide)) hr (by decide) tk (pv 2) (pa_cons (pv 5) (pa_cons (pe_op (aS (K:=K)) (pv 1) (pv 5)) (pa_cons (pe_ifExp (ctY (inY K hr) (pv 5) (pe_tup (pa_cons (pv 3) (pa_cons (pv 4) pa_nil)))) pe_non pe_int) pa_nil)))))))
 (pss_cons (slY 6 [("tie",13)] sc_PlacesApart_answer (pi_list (fdY K (pv 0))) (gnY 13 sc_PlacesApart_answer) pts_nil (fm (K:=K) (fdY K (pv 0)) (fdY K (pv 13))))
 (pss_cons (slY 7 [("tie",13)] sc_PlacesApart_answer (pi_list (fdY K (pv 0))) (gnY 13 sc_PlacesApart_answer) pts_nil (fm (K:=K) (fdY K (pv 0)) (fdY K (pv 13))))
 (pss_cons (slY 8 [("tail",14),("head",15)] sc_PlacesApart_answer (pi_zip rfl T.z_zip (pa_cons (pv 6) (pa_cons (pv 7) pa_nil))) (gx (K:=K) (n:=2) rfl (pgs_cons (gnY 14 sc_PlacesApart_answer) (pgs_cons (gnY 15 sc_PlacesApart_answer) pgs_nil))) pts_nil (Bh (K:=K) (mg:=mg) ((eK T D) 0 (by decide)) hr (by decide) lK (pv 2) (pa_cons (pe_op (aS (K:=K)) (pv 1) (pv 14)) (pa_cons (pv 15) (pa_cons pe_non pa_nil)))))
 (pss_cons (ps_expr (dA (mJ T D) hr (by decide) tk (pv 2) (pa_cons (pv 3) (pa_cons (pv 4) pa_nil))))
 (pss_cons (slY 9 [("place",5),("arc",16)] sc_PlacesApart_answer (pi_enum rfl T.z_enumerate (pa_cons (pv 8) pa_nil)) (gx (K:=K) (n:=2) rfl (pgs_cons (gnY 5 sc_PlacesApart_answer) (pgs_cons (gnY 16 sc_PlacesApart_answer) pgs_nil))) (pts_one (ctY op_gt (Bh (K:=K) (mg:=mg) (hZ T D) hr (by decide) lK (pv 2) (pa_cons (pv 16) pa_nil)) pe_int)) (pv 5))
 (pss_cons (stY 10 sc_PlacesApart_answer (clY (rX T D) hr tk (pa_cons (pv 9) (pa_cons (pv 6) (pa_cons (pv 7) (pa_cons (pv 3) (pa_cons (pv 4) pa_nil)))))))
 (pss_cons (stY 11 sc_PlacesApart_answer (dA (hY T D) hr (by decide) tk (pv 2) (pa_cons (pv 3) pa_nil)))
 (pss_cons (slY 12 [("place",5),("name",17)] sc_PlacesApart_answer (pi_enum rfl T.z_enumerate (pa_cons (fdY K (pv 0)) pa_nil)) (gx (K:=K) (n:=2) rfl (pgs_cons (gnY 5 sc_PlacesApart_answer) (pgs_cons (gnY 17 sc_PlacesApart_answer) pgs_nil))) (pts_one (PW.pt (pw_and (pt_val (ixY K hr (pv 11) (pv 5))) (pw_and1 (pt_not (pt_val (ixY K hr (pv 11) (pe_op (aS (K:=K)) (pv 1) (pv 5))))))))) (pv 17))
 (pss_one (ps_ret (mkY (kK T D) hr tk (pa_cons (lcY [("way",18)] sc_PlacesApart_answer (pi_list (pv 10)) (gnY 18 sc_PlacesApart_answer) pts_nil (lcY2 [("place",5)] sc_PlacesApart_answer (pi_list (pv 18)) (gnY 5 sc_PlacesApart_answer) pts_nil (fdY K (ixY K hr (fdY K (pv 0)) (pv 5))))) (pa_cons (pv 12) pa_nil))))))))))))))))),(RS.seq (aad (RE.c1 dh (RE.fld T.f_names_PlacesApart aaa)) RG.name)
 (RS.seq (aad (RE.make T.m_Rest .nil (RA.cons (aac jX aab aaa) RA.nil) (.cons Many.nil) rfl) RG.name)
 (RS.seq (aap (RA.cons (RE.index (RE.fld T.f_names_PlacesApart aaa) (RE.fld T.f_source_PlacesApart aaa)) (RA.cons (RE.index (RE.fld T.f_names_PlacesApart aaa) (RE.fld T.f_target_PlacesApart aaa)) RA.nil)))
 (RS.seq (RS.for' (aam (RA.cons aaa RA.nil)) RG.name (RS.drop (RE.meth T.m_Rest (.cons rfl .nil) aaa (RA.cons aaa (RA.cons (aac di aaa aaa) (RA.cons (RE.if' (RT.val (aac (qu (neg:=false)) aaa (RE.tup (RA.cons aaa (RA.cons aaa RA.nil)) (.cons (.cons Many.nil)) (by decide)))) aaf aab) RA.nil))) (.cons (.cons (.cons Many.nil))) rfl)))
 (RS.seq (aad (aah (is:= [13]) (RI.lst (RE.fix (RE.fld T.f_rows_PlacesApart aaa))) RG.name aag (RE.index (RE.fld T.f_names_PlacesApart aaa) (RE.fld T.f_tail_Tie aaa))) RG.name)
 (RS.seq (aad (aah (is:= [13]) (RI.lst (RE.fix (RE.fld T.f_rows_PlacesApart aaa))) RG.name aag (RE.index (RE.fld T.f_names_PlacesApart aaa) (RE.fld T.f_head_Tie aaa))) RG.name)
 (RS.seq (aad (aah (is:= [14,15]) (RI.zip aaa aaa) (RG.names (is:= [14,15]) rfl) aag (RE.meth T.m_Rest (.cons rfl .nil) aaa (RA.cons (aac di aaa aaa) (RA.cons aaa (RA.cons aaf RA.nil))) (.cons (.cons (.cons Many.nil))) rfl)) RG.name)
 (RS.seq (RS.drop (RE.meth T.m_Rest .nil aaa (RA.cons aaa (RA.cons aaa RA.nil)) (.cons (.cons Many.nil)) rfl))
 (RS.seq (aad (aah (is:= [5,16]) (RI.enum (RE.fix aaa)) (RG.names (is:= [5,16]) rfl) (RT.val (aac q_gt (RE.meth T.m_Rest .nil aaa (RA.cons aaa RA.nil) (.cons Many.nil) rfl) aab)) aaa) RG.name)
 (RS.seq (aad (RE.call .nil (RA.cons aaa (RA.cons aaa (RA.cons aaa (RA.cons aaa (RA.cons aaa RA.nil))))) (.cons (.cons (.cons (.cons (.cons Many.nil))))) rfl) RG.name)
 (RS.seq (aad (RE.meth T.m_Rest .nil aaa (RA.cons aaa RA.nil) (.cons Many.nil) rfl) RG.name)
 (RS.seq (aad (RE.cell (aah (is:= [5,17]) (RI.enum (RE.fix (RE.fld T.f_names_PlacesApart aaa))) (RG.names (is:= [5,17]) rfl) (aal (RT.val (aac cU aaa aaa)) (aaj (RT.val (aac cU aaa (aac di aaa aaa))))) aaa)) RG.name)
 (RS.ret (RE.frz (RE.make T.m_Apart .nil (RA.cons (RE.cell (aah (is:= [18]) (RI.lst (RE.fix aaa)) RG.name aag (RE.cell (aah (is:= [5]) (RI.lst (RE.fix aaa)) RG.name aag (RE.fld T.f_number_Tie (aac cU (RE.fld T.f_rows_PlacesApart aaa) aaa)))))) (RA.cons aaa RA.nil)) (.cons (.cons Many.nil)) rfl)))))))))))))))⟩
noncomputable def gI:SD→R Fl:=
 (af (aA (bV (zA (aa 2) zA0)) (zSt 4))
 (af (bJ (fN (zB (z1 (qY .list) (aa 0)))) (aW (zC .non)) aI)
 (af (cC (aU (aG (aa 0))) (zSt 5) (af (aA (zLc (aU (aG (aa 1))) (zSt 7) (iU (zB (z2 oEq (z2 oIx (aa 7) (zC (.int 0))) (aa 5))) (zB (z2 oEq (z2 oIx (aa 7) (zC (.int 1))) (z2 oIx (aa 4) (z1 AD (zC (.int 1))))))) (aa 7) [7]) (zSt 6))
 (af (bJ (zOr (zB (z1 (qY .bool) (aa 5))) (zB (z2 oEq (aa 6) (bV zA0)))) (aW (zC .non)) aI)
 (az (zM2 isL (oB2 aE) (aa 4) (aG (z2 oIx (zLc (aU (aG (aa 1))) (zSt 7) (zB (z2 oEq (z2 oIx (aa 7) (zC (.int 0))) (aa 5))) (z2 oIx (aa 7) (zC (.int 2))) [7]) (zC (.int 0)))))))))
 (aW (zIf (zB (z2 oEq (z2 oIx (aa 4) (z1 AD (zC (.int 1)))) (aa 3))) (aa 4) (zC .non))))))
noncomputable def cx:FnV:=zFn N_Lway_right.length gI
theorem kJ:CalZ P w K mg base 1 "_law_way_right" 4 cx []:=
 mH D.d_Lway_right bG fun hr hu tk=>⟨_,(pss_cons (stY 4 bG (pe_lst (pa_cons (pv 2) pa_nil)))
 (pss_cons (ps_if (pt_not (pt_val (bnY (kN (K:=K)) T.z_isinstance (pa_cons (pv 0) (pa_cons (btY "list" T.z_list) pa_nil))))) (pss_one (ps_ret pe_non)) pss_nil)
 (pss_cons (ps_for (passes_of rfl) rfl (pi_list (pv 0)) (gnY 5 bG) (pss_cons (slY 6 [("_law_row_here",7)] bG (pi_list (pv 1)) (gnY 7 bG) (pts_one (PW.pt (pw_and (ctY (eqY K hr) (ixY K hr (pv 7) pe_int) (pv 5)) (pw_and1 (ctY (eqY K hr) (ixY K hr (pv 7) pe_int) (ixY K hr (pv 4) (pe_un un_neg pe_int))))))) (pv 7))
 (pss_cons (ps_if (PW.pt (pw_or (pt_val (bnY (kN (K:=K)) T.z_isinstance (pa_cons (pv 5) (pa_cons (btY "bool" T.z_bool) pa_nil)))) (pw_or1 (ctY (eqY K hr) (pv 6) (pe_lst pa_nil))))) (pss_one (ps_ret pe_non)) pss_nil)
 (pss_one (ps_expr (pe_bm PySem.F.plainAttrs_list PySem.F.slot_list_append PySem.F.type_list_append mt_append (pv 4) (pa_cons (ixY K hr (lcY [("_law_row_here",7)] bG (pi_list (pv 1)) (gnY 7 bG) (pts_one (ctY (eqY K hr) (ixY K hr (pv 7) pe_int) (pv 5))) (ixY K hr (pv 7) pe_int)) pe_int) pa_nil)))))))
 (pss_one (ps_ret (pe_ifExp (ctY (eqY K hr) (ixY K hr (pv 4) (pe_un un_neg pe_int)) (pv 3)) (pv 4) pe_non)))))),(RS.seq (aad (RE.lst (RA.cons aaa RA.nil) (.cons Many.nil) (by decide)) RG.name)
 (RS.seq (aae (aaj (RT.val (RE.isi (t:= .list) aaa))) (RS.ret aaf) RS.next)
 (RS.seq (RS.for' (RI.lst (RE.fix aaa)) RG.name (RS.seq (aad (aah (is:= [7]) (RI.lst (RE.fix aaa)) RG.name (aal (RT.val (aac mU (aac cU aaa aab) aaa)) (RT.val (aac mU (aac cU aaa aab) (aac cU aaa (RE.neg aab))))) aaa) RG.name)
 (RS.seq (aae (RT.or (RT.val (RE.isi (t:= .bool) aaa)) (RT.val (aac mU aaa (RE.lst RA.nil Many.nil (by decide))))) (RS.ret aaf) RS.next)
 (RS.drop (RE.append aaa (aac cU (aah (is:= [7]) (RI.lst (RE.fix aaa)) RG.name (RT.val (aac mU (aac cU aaa aab) aaa)) (aac cU aaa aab)) aab))))))
 (RS.ret (RE.if' (RT.val (aac mU (aac cU aaa (RE.neg aab)) aaa)) aaa aaf)))))⟩
noncomputable def hF:SD→R Fl:=
 (af (aA (bV (zA (aa 1) zA0)) (zSt 3))
 (af (aA (zC (.int 0)) (zSt 4))
 (af (zWh (zB (z2 oLt (aa 4) (z1 de (aa 3)))) (af (cC (aU (aG (aa 0))) (ig [5,6,7]) (bJ (iU (zB (z2 oEq (aa 6) (z2 oIx (aa 3) (aa 4)))) (iU (zB (z2 (oIn true) (aa 7) (aa 3))) (zB (z2 (oIn true) (aa 7) (aa 2))))) (az (zM2 isL (oB2 aE) (aa 3) (aG (aa 7)))) aI))
 (aA (z2 cA (aa 4) (zC (.int 1))) (zSt 4))))
 (aW (aa 3)))))
noncomputable def cS:FnV:=zFn N_Lcome_to.length hF
theorem nM:CalZ P w K mg base 1 "_law_come_to" 3 cS []:=
 mH D.d_Lcome_to cn fun hr hu tk=>⟨_,(pss_cons (stY 3 cn (pe_lst (pa_cons (pv 1) pa_nil)))
 (pss_cons (stY 4 cn pe_int)
 (pss_cons (ps_while (passes_of rfl) (ctY op_lt (pv 4) (bnY (aT (K:=K)) T.z_len (pa_cons (pv 3) pa_nil))) (pss_cons (ps_for (passes_of rfl) rfl (pi_list (pv 0)) (gx (K:=K) (n:=3) rfl (pgs_cons (gnY 5 cn) (pgs_cons (gnY 6 cn) (pgs_cons (gnY 7 cn) pgs_nil)))) (pss_one (ps_if (PW.pt (pw_and (ctY (eqY K hr) (pv 6) (ixY K hr (pv 3) (pv 4))) (pw_and (ctY (niY K hr) (pv 7) (pv 3)) (pw_and1 (ctY (niY K hr) (pv 7) (pv 2)))))) (pss_one (ps_expr (pe_bm PySem.F.plainAttrs_list PySem.F.slot_list_append PySem.F.type_list_append mt_append (pv 3) (pa_cons (pv 7) pa_nil)))) pss_nil)))
 (pss_one (stY 4 cn (pe_op (aS (K:=K)) (pv 4) pe_int)))))
 (pss_one (ps_ret (pv 3)))))),(RS.seq (aad (RE.lst (RA.cons aaa RA.nil) (.cons Many.nil) (by decide)) RG.name)
 (RS.seq (aad aab RG.name)
 (RS.seq (RS.while' (RT.val (aac q_lt aaa (RE.c1 dh aaa))) (RS.seq (RS.for' (RI.lst (RE.fix aaa)) (RG.names (is:= [5,6,7]) rfl) (aae (aal (RT.val (aac mU aaa (aac cU aaa aaa))) (aal (RT.val (aac (qu (neg:=true)) aaa aaa)) (RT.val (aac (qu (neg:=true)) aaa aaa)))) (RS.drop (RE.append aaa aaa)) RS.next))
 (aad (aac di aaa aab) RG.name)))
 (RS.ret aaa))))⟩
noncomputable def fH:SD→R Fl:=
 (af (aA (bV zA0) (zSt 4))
 (af (cC (aU (aG (z1 (aB ["Apart"] "ways") (aa 0)))) (zSt 5) (af (bJ (zB (z2 (kB false) (aD cx [] (zA (aa 5) (zA (aa 1) (zA (aa 2) (zA (aa 3) zA0))))) (zC .non))) (aW (zC (.bl false))) aI)
 (az (zM2 isL oExt (aa 4) (aa 5)))))
 (af (bJ (zOr (zB (z2 oNe (z1 cW (aa 4)) (z1 de (aa 4)))) (zB (z2 oNe (z1 cW (z1 (aB ["Apart"] "wall") (aa 0))) (z1 de (z1 (aB ["Apart"] "wall") (aa 0)))))) (aW (zC (.bl false))) aI)
 (af (aA (zLc (aU (aG (aa 1))) (zSt 8) bP (z2 oIx (aa 8) (zC (.int 0))) [8]) (zSt 6))
 (af (bJ (zB (z2 oNe (zLc (aU (aG (z1 (aB ["Apart"] "wall") (aa 0)))) (zSt 9) (zOr (zB (z1 (qY .bool) (aa 9))) (zB (z2 (oIn true) (aa 9) (aa 6)))) (aa 9) [9]) (bV zA0))) (aW (zC (.bl false))) aI)
 (af (aA (zLc (aU (aG (aa 1))) (zSt 8) (zB (z2 (oIn true) (z2 oIx (aa 8) (zC (.int 0))) (z1 (aB ["Apart"] "wall") (aa 0)))) (aa 8) [8]) (zSt 7))
 (aW (z2 (oIn true) (aa 3) (aD cS [] (zA (aa 7) (zA (aa 2) (zA (bV zA0) zA0))))))))))))
noncomputable def dM:FnV:=zFn N_Lties_right.length fH
theorem qc:CalZ P w K mg base 2 "_law_ties_right" 4 dM []:=
 mH D.d_Lties_right aO fun hr hu tk=>⟨_,(pss_cons (stY 4 aO (pe_lst pa_nil))
 (pss_cons (ps_for (passes_of rfl) rfl (pi_list (fdY K (pv 0))) (gnY 5 aO) (pss_cons (ps_if (ctY vu (clY (kJ T D) hr tk (pa_cons (pv 5) (pa_cons (pv 1) (pa_cons (pv 2) (pa_cons (pv 3) pa_nil))))) pe_non) (pss_one (ps_ret pe_bl)) pss_nil)
 (pss_one (ps_expr (pe_bm PySem.F.plainAttrs_list PySem.F.slot_list_extend PySem.F.type_list_extend mt_extend (pv 4) (pa_cons (pv 5) pa_nil))))))
 (pss_cons (ps_if (PW.pt (pw_or (ctY (neY K hr) (M.gT (K:=K) rfl T.z_len rfl T.z_set (pv 4)) (bnY (aT (K:=K)) T.z_len (pa_cons (pv 4) pa_nil))) (pw_or1 (ctY (neY K hr) (M.gT (K:=K) rfl T.z_len rfl T.z_set (fdY K (pv 0))) (bnY (aT (K:=K)) T.z_len (pa_cons (fdY K (pv 0)) pa_nil)))))) (pss_one (ps_ret pe_bl)) pss_nil)
 (pss_cons (stY 6 aO (lcY [("_law_row_here",8)] aO (pi_list (pv 1)) (gnY 8 aO) pts_nil (ixY K hr (pv 8) pe_int)))
 (pss_cons (ps_if (ctY (neY K hr) (lcY [("_law_one",9)] aO (pi_list (fdY K (pv 0))) (gnY 9 aO) (pts_one (PW.pt (pw_or (pt_val (bnY (kN (K:=K)) T.z_isinstance (pa_cons (pv 9) (pa_cons (btY "bool" T.z_bool) pa_nil)))) (pw_or1 (ctY (niY K hr) (pv 9) (pv 6)))))) (pv 9)) (pe_lst pa_nil)) (pss_one (ps_ret pe_bl)) pss_nil)
 (pss_cons (slY 7 [("_law_row_here",8)] aO (pi_list (pv 1)) (gnY 8 aO) (pts_one (ctY (niY K hr) (ixY K hr (pv 8) pe_int) (fdY K (pv 0)))) (pv 8))
 (pss_one (ps_ret (cmY (niY K hr) (pv 3) (clY (nM T D) hr tk (pa_cons (pv 7) (pa_cons (pv 2) (pa_cons (pe_lst pa_nil) pa_nil))))))))))))),(RS.seq (aad (RE.lst RA.nil Many.nil (by decide)) RG.name)
 (RS.seq (RS.for' (RI.lst (RE.fix (RE.fld T.f_ways_Apart aaa))) RG.name (RS.seq (aae (RT.val (aac (oS (neg:=false)) (RE.call .nil (RA.cons aaa (RA.cons aaa (RA.cons aaa (RA.cons aaa RA.nil)))) (.cons (.cons (.cons (.cons Many.nil)))) rfl) aaf)) (RS.ret aai) RS.next)
 (RS.drop (RE.extC aaa aaa))))
 (RS.seq (aae (RT.or (RT.val (aac yt (RE.lenSet aaa) (RE.c1 dh aaa))) (RT.val (aac yt (RE.lenSet (RE.fld T.f_wall_Apart aaa)) (RE.c1 dh (RE.fld T.f_wall_Apart aaa))))) (RS.ret aai) RS.next)
 (RS.seq (aad (aah (is:= [8]) (RI.lst (RE.fix aaa)) RG.name aag (aac cU aaa aab)) RG.name)
 (RS.seq (aae (RT.val (aac yt (aah (is:= [9]) (RI.lst (RE.fix (RE.fld T.f_wall_Apart aaa))) RG.name (RT.or (RT.val (RE.isi (t:= .bool) aaa)) (RT.val (aac (qu (neg:=true)) aaa aaa))) aaa) (RE.lst RA.nil Many.nil (by decide)))) (RS.ret aai) RS.next)
 (RS.seq (aad (aah (is:= [8]) (RI.lst (RE.fix aaa)) RG.name (RT.val (aac (qu (neg:=true)) (aac cU aaa aab) (RE.fld T.f_wall_Apart aaa))) aaa) RG.name)
 (RS.ret (aac (qu (neg:=true)) aaa (RE.call .nil (RA.cons aaa (RA.cons aaa (RA.cons (RE.lst RA.nil Many.nil (by decide)) RA.nil))) (.cons (.cons (.cons Many.nil))) rfl)))))))))⟩
noncomputable def eB:SD→R Fl:=
 (af (aA (bV zA0) (zSt 5))
 (af (cC (aU (aG (z1 (aB ["Apart"] "ways") (aa 0)))) (zSt 6) (af (aA (aD cx [] (zA (aa 6) (zA (aa 1) (zA (aa 3) (zA (aa 4) zA0))))) (zSt 7))
 (af (bJ (zB (z2 (kB false) (aa 7) (zC .non))) (aW (zC (.bl false))) aI)
 (az (zM2 isL (oB2 iJ) (aa 5) (aG (zSl (aa 7) (zPt (zC (.int 1))) (zPt (z1 AD (zC (.int 1)))))))))))
 (af (bJ (zOr (zB (z2 oNe (z1 cW (aa 5)) (z1 de (aa 5)))) (zOr (zB (z2 (oIn false) (aa 3) (aa 5))) (zB (z2 (oIn false) (aa 4) (aa 5))))) (aW (zC (.bl false))) aI)
 (af (aA (z1 (aB ["Apart"] "wall") (aa 0)) (zSt 8))
 (af (bJ (zOr (zB (z2 oNe (z1 cW (aa 8)) (z1 de (aa 8)))) (zB (z2 oNe (zLc (aU (aG (aa 8))) (zSt 9) (zB (z2 (oIn true) (aa 9) (aa 2))) (aa 9) [9]) (bV zA0)))) (aW (zC (.bl false))) aI)
 (aW (hV (z2 (oIn true) (aa 3) (aa 8)) (hV (z2 (oIn true) (aa 4) (aa 8)) (z2 (oIn true) (aa 4) (aD cS [] (zA (aa 1) (zA (aa 3) (zA (aa 8) zA0)))))))))))))
noncomputable def cE:FnV:=zFn N_Lplaces_right.length eB
theorem mN:CalZ P w K mg base 2 "_law_places_right" 5 cE []:=
 mH D.d_Lplaces_right aX fun hr hu tk=>⟨_,(pss_cons (stY 5 aX (pe_lst pa_nil))
 (pss_cons (ps_for (passes_of rfl) rfl (pi_list (fdY K (pv 0))) (gnY 6 aX) (pss_cons (stY 7 aX (clY (kJ T D) hr tk (pa_cons (pv 6) (pa_cons (pv 1) (pa_cons (pv 3) (pa_cons (pv 4) pa_nil))))))
 (pss_cons (ps_if (ctY vu (pv 7) pe_non) (pss_one (ps_ret pe_bl)) pss_nil)
 (pss_one (ps_expr (pe_bm PySem.F.plainAttrs_list PySem.F.slot_list_extend PySem.F.type_list_extend mt_extend (pv 5) (pa_cons (pe_slice (AQ (K:=K)) (pv 7) (po_some pe_int) (po_some (pe_un un_neg pe_int))) pa_nil)))))))
 (pss_cons (ps_if (PW.pt (pw_or (ctY (neY K hr) (M.gT (K:=K) rfl T.z_len rfl T.z_set (pv 5)) (bnY (aT (K:=K)) T.z_len (pa_cons (pv 5) pa_nil))) (pw_or (ctY (inY K hr) (pv 3) (pv 5)) (pw_or1 (ctY (inY K hr) (pv 4) (pv 5)))))) (pss_one (ps_ret pe_bl)) pss_nil)
 (pss_cons (stY 8 aX (fdY K (pv 0)))
 (pss_cons (ps_if (PW.pt (pw_or (ctY (neY K hr) (M.gT (K:=K) rfl T.z_len rfl T.z_set (pv 8)) (bnY (aT (K:=K)) T.z_len (pa_cons (pv 8) pa_nil))) (pw_or1 (ctY (neY K hr) (lcY [("_law_name",9)] aX (pi_list (pv 8)) (gnY 9 aX) (pts_one (ctY (niY K hr) (pv 9) (pv 2))) (pv 9)) (pe_lst pa_nil))))) (pss_one (ps_ret pe_bl)) pss_nil)
 (pss_one (ps_ret (pe_and (cmY (niY K hr) (pv 3) (pv 8)) (pe_and (cmY (niY K hr) (pv 4) (pv 8)) (pe_one (cmY (niY K hr) (pv 4) (clY (nM T D) hr tk (pa_cons (pv 1) (pa_cons (pv 3) (pa_cons (pv 8) pa_nil))))))))))))))),(RS.seq (aad (RE.lst RA.nil Many.nil (by decide)) RG.name)
 (RS.seq (RS.for' (RI.lst (RE.fix (RE.fld T.f_ways_Apart aaa))) RG.name (RS.seq (aad (RE.call .nil (RA.cons aaa (RA.cons aaa (RA.cons aaa (RA.cons aaa RA.nil)))) (.cons (.cons (.cons (.cons Many.nil)))) rfl) RG.name)
 (RS.seq (aae (RT.val (aac (oS (neg:=false)) aaa aaf)) (RS.ret aai) RS.next)
 (RS.drop (RE.extend aaa (RE.sl aaa (RO.part aab) (RO.part (RE.neg aab))))))))
 (RS.seq (aae (RT.or (RT.val (aac yt (RE.lenSet aaa) (RE.c1 dh aaa))) (RT.or (RT.val (aac (qu (neg:=false)) aaa aaa)) (RT.val (aac (qu (neg:=false)) aaa aaa)))) (RS.ret aai) RS.next)
 (RS.seq (aad (RE.fld T.f_wall_Apart aaa) RG.name)
 (RS.seq (aae (RT.or (RT.val (aac yt (RE.lenSet aaa) (RE.c1 dh aaa))) (RT.val (aac yt (aah (is:= [9]) (RI.lst (RE.fix aaa)) RG.name (RT.val (aac (qu (neg:=true)) aaa aaa)) aaa) (RE.lst RA.nil Many.nil (by decide))))) (RS.ret aai) RS.next)
 (RS.ret (RE.andV (aac (qu (neg:=true)) aaa aaa) (RE.andV (aac (qu (neg:=true)) aaa aaa) (aac (qu (neg:=true)) aaa (RE.call .nil (RA.cons aaa (RA.cons aaa (RA.cons aaa RA.nil))) (.cons (.cons (.cons Many.nil))) rfl))))))))))⟩
noncomputable def jA:SD→R Fl:=
 (af (bJ (zOr (fN (zB (z1 (vx is_Apart false) (aa 0)))) (zOr (fN (zB (z1 (qY .list) (z1 (aB ["Apart"] "ways") (aa 0))))) (fN (zB (z1 (qY .list) (z1 (aB ["Apart"] "wall") (aa 0))))))) (aW (zC (.bl false))) aI)
 (af (bJ (zB (z2 oNe (z1 de (z1 (aB ["Apart"] "ways") (aa 0))) (z1 de (z1 (aB ["Apart"] "wall") (aa 0))))) (aW (zC (.bl false))) aI)
 (af (bJ (zB (z2 oEq (aa 1) (zC (.int 0)))) (aW (aD dM [] (zA (aa 0) (zA (aa 2) (zA (aa 4) (zA (aa 5) zA0)))))) aI)
 (aW (aD cE [] (zA (aa 0) (zA (aa 2) (zA (aa 3) (zA (aa 4) (zA (aa 5) zA0))))))))))
noncomputable def dN:FnV:=zFn N_Lright.length jA
theorem BJ:CalZ P w K mg base 3 "_law_right" 6 dN []:=
 mH D.d_Lright ye fun hr hu tk=>⟨_,(pss_cons (ps_if (PW.pt (pw_or (pt_not (pt_val (bnY (kN (K:=K)) T.z_isinstance (pa_cons (pv 0) (pa_cons (glY T.m_Apart) pa_nil))))) (pw_or (pt_not (pt_val (bnY (kN (K:=K)) T.z_isinstance (pa_cons (fdY K (pv 0)) (pa_cons (btY "list" T.z_list) pa_nil))))) (pw_or1 (pt_not (pt_val (bnY (kN (K:=K)) T.z_isinstance (pa_cons (fdY K (pv 0)) (pa_cons (btY "list" T.z_list) pa_nil))))))))) (pss_one (ps_ret pe_bl)) pss_nil)
 (pss_cons (ps_if (ctY (neY K hr) (bnY (aT (K:=K)) T.z_len (pa_cons (fdY K (pv 0)) pa_nil)) (bnY (aT (K:=K)) T.z_len (pa_cons (fdY K (pv 0)) pa_nil))) (pss_one (ps_ret pe_bl)) pss_nil)
 (pss_cons (ps_if (ctY (eqY K hr) (pv 1) pe_int) (pss_one (ps_ret (clY (qc T D) hr tk (pa_cons (pv 0) (pa_cons (pv 2) (pa_cons (pv 4) (pa_cons (pv 5) pa_nil))))))) pss_nil)
 (pss_one (ps_ret (clY (mN T D) hr tk (pa_cons (pv 0) (pa_cons (pv 2) (pa_cons (pv 3) (pa_cons (pv 4) (pa_cons (pv 5) pa_nil))))))))))),(RS.seq (aae (RT.or (aaj (RT.val (RE.isC T.is_Apart aaa))) (RT.or (aaj (RT.val (RE.isi (t:= .list) (RE.fld T.f_ways_Apart aaa)))) (aaj (RT.val (RE.isi (t:= .list) (RE.fld T.f_wall_Apart aaa)))))) (RS.ret aai) RS.next)
 (RS.seq (aae (RT.val (aac yt (RE.c1 dh (RE.fld T.f_ways_Apart aaa)) (RE.c1 dh (RE.fld T.f_wall_Apart aaa)))) (RS.ret aai) RS.next)
 (RS.seq (aae (RT.val (aac mU aaa aab)) (RS.ret (RE.call .nil (RA.cons aaa (RA.cons aaa (RA.cons aaa (RA.cons aaa RA.nil)))) (.cons (.cons (.cons (.cons Many.nil)))) rfl)) RS.next)
 (RS.ret (RE.call .nil (RA.cons aaa (RA.cons aaa (RA.cons aaa (RA.cons aaa (RA.cons aaa RA.nil))))) (.cons (.cons (.cons (.cons (.cons Many.nil))))) rfl)))))⟩
noncomputable def uR:SD→R Fl:=
 (aW (hX (zA (zLc (aU (aG (z1 (aB ["Apart"] "ways") (aa 0)))) (zSt 1) bP (z1 kb (aa 1)) [1]) (zA (z1 kb (z1 (aB ["Apart"] "wall") (aa 0))) zA0))))
noncomputable def bS:FnV:=zFn N_Ltold.length uR
theorem Am:CalZ P w K mg base 1 "_law_told" 1 bS []:=
 mH D.d_Ltold oC fun hr hu tk=>⟨_,(pss_one (ps_ret (pe_tup (pa_cons (lcY [("_law_way",1)] oC (pi_list (fdY K (pv 0))) (gnY 1 oC) pts_nil (tyY (gZ (K:=K) rfl) T.z_list (pa_cons (pv 1) pa_nil))) (pa_cons (tyY (gZ (K:=K) rfl) T.z_list (pa_cons (fdY K (pv 0)) pa_nil)) pa_nil))))),(RS.ret (RE.tup (RA.cons (aah (is:= [1]) (RI.lst (RE.fix (RE.fld T.f_ways_Apart aaa))) RG.name aag (RE.c1 nq aaa)) (RA.cons (RE.c1 nq (RE.fld T.f_wall_Apart aaa)) RA.nil)) (.cons (.cons Many.nil)) (by decide)))⟩
noncomputable def lx:SD→R Fl:=
 (af (aA (z2 cM (aa 3) (zC (.int 2))) (zSt 4))
 (af (aA (z2 oIx (aa 2) (z2 cM (z2 dy (aa 3) (zC (.int 2))) (z1 de (aa 2)))) (zSt 5))
 (af (aA (z2 oIx (zLc (aU (aG (aa 2))) (zSt 13) (zB (z2 oNe (aa 13) (aa 5))) (aa 13) [13]) (z2 cM (z2 dy (aa 3) (zC (.int 30))) (z2 sq (z1 de (aa 2)) (zC (.int 1))))) (zSt 6))
 (af (aA (ar "Net" "copied" bB [] (aa 0) zA0) (zSt 7))
 (af (aA (aD aJ [] (zA (aa 7) (zA (aa 4) (zA (aa 5) (zA (aa 6) zA0))))) (zSt 8))
 (af (bJ (iU (zB (z2 oEq (aa 4) (zC (.int 1)))) (zB (z2 (wA false) (hX (zA (aa 5) (zA (aa 6) zA0))) (zLc (aU (aG (aa 1))) (zSt 12) bP (zSl (aa 12) (zPt (zC (.int 1))) zNo) [12])))) (aW (z2 yH (aa 8) (zC (.bl true)))) aI)
 (af (bJ (fN (zB (z1 (vx is_Question false) (aa 8)))) (aW (zC (.bl false))) aI)
 (af (aA (mV "TiesApart" (aa 8) (ar "TiesApart" "answer" ak [] (aa 8) zA0) (ar "PlacesApart" "answer" ah [] (aa 8) zA0)) (zSt 9))
 (af (bJ (fN (zB (aD dN [] (zA (aa 9) (zA (aa 4) (zA (aa 1) (zA (aa 2) (zA (aa 5) (zA (aa 6) zA0))))))))) (aW (zC (.bl false))) aI)
 (af (aA (aD bS [] (zA (aa 9) zA0)) (zSt 10))
 (af (cC (aU (aG (z2 cA (z1 (aB ["Apart"] "ways") (aa 9)) (bV (zA (z1 (aB ["Apart"] "ways") (aa 9)) (zA (z1 (aB ["Apart"] "wall") (aa 9)) zA0)))))) (zSt 11) (az (zM2 isL (oB2 aE) (aa 11) (aG (zC (.int 0))))))
 (af (cC (aU (aG (zSl (aa 1) (zPt (z2 cM (z2 dy (aa 3) (zC (.int 210))) (zC (.int 2)))) zNo))) (zSt 12) (az (ar "Net" "drop_tie" aC [] (aa 7) (zA (z2 oIx (aa 12) (zC (.int 0))) zA0))))
 (af (az (ar "Net" "put_tie" au [.int 0, .non, .int 0] (aa 7) (zA (aa 5) (zA (aa 6) zA0))))
 (af (az (ar "Net" "put_tie" au [.int 0, .non, .int 0] (aa 7) (zA (aa 6) (zA (aa 5) zA0))))
 (aW (z2 oEq (aD bS [] (zA (mV "TiesApart" (aa 8) (ar "TiesApart" "answer" ak [] (aa 8) zA0) (ar "PlacesApart" "answer" ah [] (aa 8) zA0)) zA0)) (aa 10)))))))))))))))))
noncomputable def bL:FnV:=zFn N_Lasked.length lx
theorem qf:CalZ P w K mg base 6 "_law_asked" 4 bL []:=
 mH D.d_Lasked br fun hr hu tk=>⟨_,(pss_cons (stY 4 br (pe_op op_mod (pv 3) pe_int))
 (pss_cons (stY 5 br (ixY K hr (pv 2) (pe_op op_mod (pe_op op_fdivW (pv 3) pe_int) (bnY (aT (K:=K)) T.z_len (pa_cons (pv 2) pa_nil)))))
 (pss_cons (stY 6 br (ixY K hr (lcY [("_law_name",13)] br (pi_list (pv 2)) (gnY 13 br) (pts_one (ctY (neY K hr) (pv 13) (pv 5))) (pv 13)) (pe_op op_mod (pe_op op_fdivW (pv 3) pe_int) (pe_op op_sub (bnY (aT (K:=K)) T.z_len (pa_cons (pv 2) pa_nil)) pe_int))))
 (pss_cons (stY 7 br (jf (se T D) hr (by decide) tk (pv 0)))
 (pss_cons (stY 8 br (clY (mM T D) hr tk (pa_cons (pv 7) (pa_cons (pv 4) (pa_cons (pv 5) (pa_cons (pv 6) pa_nil))))))
 (pss_cons (ps_if (PW.pt (pw_and (ctY (eqY K hr) (pv 4) pe_int) (pw_and1 (ctY (yE K hr) (pe_tup (pa_cons (pv 5) (pa_cons (pv 6) pa_nil))) (lcY [("_law_row_here",12)] br (pi_list (pv 1)) (gnY 12 br) pts_nil (pe_slice (AQ (K:=K)) (pv 12) (po_some pe_int) po_none)))))) (pss_one (ps_ret (cmY op_isBl (pv 8) pe_bl))) pss_nil)
 (pss_cons (ps_if (pt_not (pt_val (bnY (kN (K:=K)) T.z_isinstance (pa_cons (pv 8) (pa_cons (glY T.m_Question) pa_nil))))) (pss_one (ps_ret pe_bl)) pss_nil)
 (pss_cons (stY 9 br (pe_alt (jf (eE T D) hr (by decide) tk (pv 8)) (jf (dG T D) hr (by decide) tk (pv 8))))
 (pss_cons (ps_if (pt_not (pt_val (clY (BJ T D) hr tk (pa_cons (pv 9) (pa_cons (pv 4) (pa_cons (pv 1) (pa_cons (pv 2) (pa_cons (pv 5) (pa_cons (pv 6) pa_nil))))))))) (pss_one (ps_ret pe_bl)) pss_nil)
 (pss_cons (stY 10 br (clY (Am T D) hr tk (pa_cons (pv 9) pa_nil)))
 (pss_cons (ps_for (passes_of rfl) rfl (pi_list (pe_op (aS (K:=K)) (fdY K (pv 9)) (pe_lst (pa_cons (fdY K (pv 9)) (pa_cons (fdY K (pv 9)) pa_nil))))) (gnY 11 br) (pss_one (ps_expr (pe_bm PySem.F.plainAttrs_list PySem.F.slot_list_append PySem.F.type_list_append mt_append (pv 11) (pa_cons pe_int pa_nil)))))
 (pss_cons (ps_for (passes_of rfl) rfl (pi_list (pe_slice (AQ (K:=K)) (pv 1) (po_some (pe_op op_mod (pe_op op_fdivW (pv 3) pe_int) pe_int)) po_none)) (gnY 12 br) (pss_one (ps_expr (dA (ia T D) hr (by decide) tk (pv 7) (pa_cons (ixY K hr (pv 12) pe_int) pa_nil)))))
 (pss_cons (ps_expr (dA ((fA T D) 0 (by decide)) hr (by decide) tk (pv 7) (pa_cons (pv 5) (pa_cons (pv 6) pa_nil))))
 (pss_cons (ps_expr (dA ((fA T D) 0 (by decide)) hr (by decide) tk (pv 7) (pa_cons (pv 6) (pa_cons (pv 5) pa_nil))))
 (pss_one (ps_ret (cmY (eqY K hr) (clY (Am T D) hr tk (pa_cons (pe_alt (jf (eE T D) hr (by decide) tk (pv 8)) (jf (dG T D) hr (by decide) tk (pv 8))) pa_nil)) (pv 10)))))))))))))))))),(RS.seq (aad (aac cL aaa aab) RG.name)
 (RS.seq (aad (aac cU aaa (aac cL (aac eV aaa aab) (RE.c1 dh aaa))) RG.name)
 (RS.seq (aad (aac cU (aah (is:= [13]) (RI.lst (RE.fix aaa)) RG.name (RT.val (aac yt aaa aaa)) aaa) (aac cL (aac eV aaa aab) (aac wy (RE.c1 dh aaa) aab))) RG.name)
 (RS.seq (aad (RE.meth T.m_Net .nil aaa RA.nil Many.nil rfl) RG.name)
 (RS.seq (aad (RE.call .nil (RA.cons aaa (RA.cons aaa (RA.cons aaa (RA.cons aaa RA.nil)))) (.cons (.cons (.cons (.cons Many.nil)))) rfl) RG.name)
 (RS.seq (aae (aal (RT.val (aac mU aaa aab)) (RT.val (aac (q_inDa (neg:=false)) (RE.tup (RA.cons aaa (RA.cons aaa RA.nil)) (.cons (.cons Many.nil)) (by decide)) (aah (is:= [12]) (RI.lst (RE.fix aaa)) RG.name aag (RE.sl aaa (RO.part aab) RO.no))))) (RS.ret (aac q_isB aaa aai)) RS.next)
 (RS.seq (aae (aaj (RT.val (RE.isC T.is_Question aaa))) (RS.ret aai) RS.next)
 (RS.seq (aad (RE.alt (c:= "TiesApart") (fa:=(aa 8)) (RE.meth T.m_TiesApart .nil aaa RA.nil Many.nil rfl) (RE.meth T.m_PlacesApart .nil aaa RA.nil Many.nil rfl)) RG.name)
 (RS.seq (aae (aaj (RT.val (RE.call .nil (RA.cons aaa (RA.cons aaa (RA.cons aaa (RA.cons aaa (RA.cons aaa (RA.cons aaa RA.nil)))))) (.cons (.cons (.cons (.cons (.cons (.cons Many.nil)))))) rfl))) (RS.ret aai) RS.next)
 (RS.seq (aad (RE.call .nil (RA.cons aaa RA.nil) (.cons Many.nil) rfl) RG.name)
 (RS.seq (RS.for' (RI.lst (RE.fix (aac di (RE.fld T.f_ways_Apart aaa) (RE.lst (RA.cons (RE.fld T.f_ways_Apart aaa) (RA.cons (RE.fld T.f_wall_Apart aaa) RA.nil)) (.cons (.cons Many.nil)) (by decide))))) RG.name (RS.drop (RE.append aaa aab)))
 (RS.seq (RS.for' (RI.lst (RE.fix (RE.sl aaa (RO.part (aac cL (aac eV aaa aab) aab)) RO.no))) RG.name (RS.drop (RE.meth T.m_Net .nil aaa (RA.cons (aac cU aaa aab) RA.nil) (.cons Many.nil) rfl)))
 (RS.seq (RS.drop (RE.meth T.m_Net (.cons rfl (.cons rfl (.cons rfl .nil))) aaa (RA.cons aaa (RA.cons aaa RA.nil)) (.cons (.cons Many.nil)) rfl))
 (RS.seq (RS.drop (RE.meth T.m_Net (.cons rfl (.cons rfl (.cons rfl .nil))) aaa (RA.cons aaa (RA.cons aaa RA.nil)) (.cons (.cons Many.nil)) rfl))
 (RS.ret (aac mU (RE.call .nil (RA.cons (RE.alt (c:= "TiesApart") (fa:=(aa 8)) (RE.meth T.m_TiesApart .nil aaa RA.nil Many.nil rfl) (RE.meth T.m_PlacesApart .nil aaa RA.nil Many.nil rfl)) RA.nil) (.cons Many.nil) rfl) aaa))))))))))))))))⟩
noncomputable def b_law:SD→R Fl:=
 (af (aA (aD bX [] (zA (aa 0) (zA (zC (.int 0)) zA0))) (zSt 1))
 (af (aA (aD kX [] (zA (aa 1) (zA (z2 cA (zC (.int 2)) (z2 cM (z2 dy (aa 1) (zC (.int 11))) (zC (.int 7)))) zA0))) (zSt 2))
 (af (aA (dH "Net" cR [] zA0) (zSt 3))
 (af (cC (aU (aG (aa 2))) (zSt 4) (az (ar "Net" "put_place" bR [] (aa 3) (zA (aa 4) zA0))))
 (af (aA (bx (bV zA0)) (zSt 5))
 (af (aA (zC (.int 0)) (zSt 6))
 (af (cC (sk (zA (z1 de (aa 0)) zA0)) (zSt 7) (af (az (aD eT [] (zA (aa 3) (zA (aa 5) (zA (aa 2) (zA (aa 0) (zA (aa 7) zA0)))))))
 (af (aA (z2 dy (aD bX [] (zA (aa 0) (zA (aa 7) zA0))) (zC (.int 640))) (zSt 8))
 (bJ (iU (zB (z2 oEq (z2 cM (aa 8) (zC (.int 6))) (zC (.int 1)))) (zB (z2 oLt (aa 6) (zC (.int 8))))) (af (aA (z2 cA (aa 6) (zC (.int 1))) (zSt 6))
 (bJ (fN (zB (aD bL [] (zA (aa 3) (zA (aa 5) (zA (aa 2) (zA (z2 dy (aa 8) (zC (.int 6))) zA0))))))) (aW (zC (.bl false))) aI)) aI))))
 (af (aA (z2 dy (aa 1) (zC (.int 77))) (zSt 1))
 (aW (hV (aD bL [] (zA (aa 3) (zA (aa 5) (zA (aa 2) (zA (aa 1) zA0))))) (aD bL [] (zA (aa 3) (zA (aa 5) (zA (aa 2) (zA (z2 cA (aa 1) (zC (.int 1))) zA0)))))))))))))))
noncomputable def v_law:FnV:=zFn N_law.length b_law
theorem c_law {f:Addr} {fd:FuncData} (F:L2.Fun K "law" "law" ja f fd):FnOk P w K mg base L2.CX0 7 f fd ["_law_script"] (fun vs H Q E=>spF ⟨K,mg⟩ 1 v_law vs H Q (fun _ _ _=>False)):=
 fnZ0 F fY (by decide) fun cdv A outer s H E hr=>by
  have hu:=hu_of hr
  have tk:=(lK:Takes (cxOf L2.CX0 P w K mg base N_law "law" (L2.defScope ja) f cdv A outer s H E).nox WF)
  exact ⟨_,(pss_cons (stY 1 fY (clY (jx T D) hr tk (pa_cons (pv 0) (pa_cons pe_int pa_nil))))
 (pss_cons (stY 2 fY (clY (BK T D) hr tk (pa_cons (pv 1) (pa_cons (pe_op (aS (K:=K)) pe_int (pe_op op_mod (pe_op op_fdivW (pv 1) pe_int) pe_int)) pa_nil))))
 (pss_cons (stY 3 fY (m_mkZ0 (nL T D) hr (by decide) tk rfl))
 (pss_cons (ps_for PassesOwn.never rfl (pi_list (pv 2)) (gnY 4 fY) (pss_one (ps_expr (dA (mL T D) hr (by decide) tk (pv 3) (pa_cons (pv 4) pa_nil)))))
 (pss_cons (stY 5 fY (pe_lst pa_nil))
 (pss_cons (stY 6 fY pe_int)
 (pss_cons (ps_for PassesOwn.never rfl (pi_range1 rfl T.z_range (pa_cons (bnY (aT (K:=K)) T.z_len (pa_cons (pv 0) pa_nil)) pa_nil)) (gnY 7 fY) (pss_cons (ps_expr (clY (wO T D) hr tk (pa_cons (pv 3) (pa_cons (pv 5) (pa_cons (pv 2) (pa_cons (pv 0) (pa_cons (pv 7) pa_nil)))))))
 (pss_cons (stY 8 fY (pe_op op_fdivW (clY (jx T D) hr tk (pa_cons (pv 0) (pa_cons (pv 7) pa_nil))) pe_int))
 (pss_one (ps_if (PW.pt (pw_and (ctY (eqY K hr) (pe_op op_mod (pv 8) pe_int) pe_int) (pw_and1 (ctY op_lt (pv 6) pe_int)))) (pss_cons (stY 6 fY (pe_op (aS (K:=K)) (pv 6) pe_int))
 (pss_one (ps_if (pt_not (pt_val (clY (qf T D) hr tk (pa_cons (pv 3) (pa_cons (pv 5) (pa_cons (pv 2) (pa_cons (pe_op op_fdivW (pv 8) pe_int) pa_nil))))))) (pss_one (ps_ret pe_bl)) pss_nil))) pss_nil)))))
 (pss_cons (stY 1 fY (pe_op op_fdivW (pv 1) pe_int))
 (pss_one (ps_ret (pe_and (clY (qf T D) hr tk (pa_cons (pv 3) (pa_cons (pv 5) (pa_cons (pv 2) (pa_cons (pv 1) pa_nil))))) (pe_one (clY (qf T D) hr tk (pa_cons (pv 3) (pa_cons (pv 5) (pa_cons (pv 2) (pa_cons (pe_op (aS (K:=K)) (pv 1) pe_int) pa_nil))))))))))))))))),(RS.seq (aad (RE.call .nil (RA.cons aaa (RA.cons aab RA.nil)) (.cons (.cons Many.nil)) rfl) RG.name)
 (RS.seq (aad (RE.call .nil (RA.cons aaa (RA.cons (aac di aab (aac cL (aac eV aaa aab) aab)) RA.nil)) (.cons (.cons Many.nil)) rfl) RG.name)
 (RS.seq (aad (RE.make T.m_Net .nil RA.nil Many.nil rfl) RG.name)
 (RS.seq (RS.for' (RI.lst (RE.fix aaa)) RG.name (RS.drop (RE.meth T.m_Net .nil aaa (RA.cons aaa RA.nil) (.cons Many.nil) rfl)))
 (RS.seq (aad (RE.cell (RE.lst RA.nil Many.nil (by decide))) RG.name)
 (RS.seq (aad aab RG.name)
 (RS.seq (RS.for' (aam (RA.cons (RE.c1 dh aaa) RA.nil)) RG.name (RS.seq (RS.drop (RE.call .nil (RA.cons aaa (RA.cons aaa (RA.cons aaa (RA.cons aaa (RA.cons aaa RA.nil))))) (.cons (.cons (.cons (.cons (.cons Many.nil))))) rfl))
 (RS.seq (aad (aac eV (RE.call .nil (RA.cons aaa (RA.cons aaa RA.nil)) (.cons (.cons Many.nil)) rfl) aab) RG.name)
 (aae (aal (RT.val (aac mU (aac cL aaa aab) aab)) (RT.val (aac q_lt aaa aab))) (RS.seq (aad (aac di aaa aab) RG.name)
 (aae (aaj (RT.val (RE.call .nil (RA.cons aaa (RA.cons aaa (RA.cons aaa (RA.cons (aac eV aaa aab) RA.nil)))) (.cons (.cons (.cons (.cons Many.nil)))) rfl))) (RS.ret aai) RS.next)) RS.next))))
 (RS.seq (aad (aac eV aaa aab) RG.name)
 (RS.ret (RE.andV (RE.call .nil (RA.cons aaa (RA.cons aaa (RA.cons aaa (RA.cons aaa RA.nil)))) (.cons (.cons (.cons (.cons Many.nil)))) rfl) (RE.call .nil (RA.cons aaa (RA.cons aaa (RA.cons aaa (RA.cons (aac di aaa aab) RA.nil)))) (.cons (.cons (.cons (.cons Many.nil)))) rfl)))))))))))⟩
end
end T

namespace Z
open PySem PySem.Spec PyProof.Rows L2 M
open Classical
section
variable {α β:Type} {a b:Vl} {x y:D} {s s' :SD} {S:Sto} {sl:List (Option Vl)} {f g:SD→R Fl} {fa fb fc:SD→R Vl} {fr:SD→R (List D)} {i j k:Nat}
theorem uP {a:α} {k:α→SD→R β}:R.bind (.ok a s) k=k a s:=Eq.trans rfl rfl
theorem qh {k:α→SD→R β}:R.bind .bad k= .bad:=rfl
theorem qg {c:Prop} [Decidable c] {m n:R α} {k:α→SD→R β}:R.bind (if c then m else n) k=if c then m.bind k else n.bind k:=by split<;> rfl
theorem iteW {c:Prop} [Decidable c] {P Q:Prop} (h:c) (p:P):if c then P else Q:=by rw [if_pos h]; exact p
def compK {γ:Type} (k:α→SD→R β) (l:β→SD→R γ):α→SD→R γ:=fun a s=>(k a s).bind l
theorem xm {γ:Type} {k:α→SD→R β} {l:β→SD→R γ} {a:α}:compK k l a s=(k a s).bind l:=rfl
theorem mO {γ:Type} {m:R α} {k:α→SD→R β} {l:β→SD→R γ}:R.bind (R.bind m k) l=R.bind m (compK k l):=by cases m<;> rfl
theorem Aw {c:Prop} [Decidable c] {m n:R α} {Q:α→SD→Prop} {E:XQ}:Wp (if c then m else n) Q E=if c then Wp m Q E else Wp n Q E:=by split<;> rfl
def seqK (g:SD→R Fl):Fl→SD→R Fl
 | .nx,s=>g s
 | .bk,s=> .ok .bk s
 | .ct,s=> .ok .ct s
 | .rt a,s=> .ok (.rt a) s
theorem e_seq:af f g s=(f s).bind (seqK g):=by
 unfold af
 congr
 funext fl s1
 cases fl<;> rfl
theorem sT:seqK g .nx s=g s:=Eq.trans rfl rfl
theorem sS:seqK g (.rt a) s= .ok (.rt a) s:=rfl
theorem sV:seqK g .bk s= .ok .bk s:=rfl
theorem sU:seqK g .ct s= .ok .ct s:=rfl
def nxK {α:Type}:α→SD→R Fl:=fun _ s=> .ok .nx s
theorem x_nx {α:Type} {a:α}:nxK a s= .ok .nx s:=rfl
def asgK (fz:Vl→SD→R Unit):Vl→SD→R Fl:=fun a s=>(fz a s).bind nxK
theorem x_asg {fz:Vl→SD→R Unit}:asgK fz a s=(fz a s).bind nxK:=rfl
theorem e_asg {fz:Vl→SD→R Unit}:aA fa fz s=(fa s).bind (asgK fz):=rfl
theorem zD:zSt i (.d x) ⟨sl,S⟩= .ok () ⟨sl.set i (some (.d x)),S⟩:=rfl
theorem pM:zSt i (.own x) ⟨sl,S⟩= .ok () ⟨sl.set i (some (.own x)),S⟩:=rfl
def stK (i:Nat):D→SD→R Unit:=fun x s=> .ok () {s with sl:=s.sl.set i (some (.d x))}
theorem x_st:stK i x ⟨sl,S⟩= .ok () ⟨sl.set i (some (.d x)),S⟩:=rfl
theorem pN:zSt i (.loc k) s=(s.fix (.loc k)).bind (stK i):=rfl
theorem zH:aI s= .ok .nx s:=rfl
theorem uA:zBreak s= .ok .bk s:=rfl
theorem zM:zCont s= .ok .ct s:=rfl
def ifK {α:Type} (f g:SD→R α):Bool→SD→R α:=fun b s=>if b=true then f s else g s
theorem x_if {α:Type} {f g:SD→R α} {b:Bool}:ifK f g b s=if b=true then f s else g s:=Eq.trans rfl rfl
theorem e_ifS {c:SD→R Bool}:bJ c f g s=(c s).bind (ifK f g):=rfl
def rtK:Vl→SD→R Fl:=fun b s=> .ok (.rt b) s
theorem x_rt:rtK a s= .ok (.rt a) s:=rfl
def retK:Vl→SD→R Fl:=fun a s=>(s.told a).bind rtK
theorem x_ret:retK a s=(s.told a).bind rtK:=rfl
theorem e_ret:aW fa s=(fa s).bind retK:=rfl
theorem zE:AG s= .ok (.rt (.d .non)) s:=rfl
theorem zJ:az fa s=(fa s).bind nxK:=rfl
theorem ux:fJ s= .bad:=rfl
theorem xH:s.told (.d x)= .ok (.d x) s:=rfl
theorem oe:s.told (.own x)= .ok (.own x) s:=rfl
def toldK (s:SD) (k:Nat):Option (Option Vl)→R Vl
 | some (some (.own x))=> .ok (.own x) {s with sl:=s.sl.set k none}
 | some (some (.d x))=> .ok (.d x) s
 | _=> .bad
theorem og:s.told (.loc k)=toldK s k s.sl[k]? :=by
 unfold SD.told toldK
 rfl
theorem lI:toldK ⟨sl,S⟩ k (some (some (.own x)))= .ok (.own x) ⟨sl.set k none,S⟩:=rfl
theorem e_c:zC x s= .ok (.d x) s:=rfl
def varK (s:SD) (i:Nat):Option (Option Vl)→R Vl
 | some (some (.own _))=> .ok (.loc i) s
 | some (some (.d x))=> .ok (.d x) s
 | _=> .bad
theorem e_var:aa i s=varK s i s.sl[i]? :=by
 unfold aa varK
 rfl
theorem nZ:varK s i (some (some (.own x)))= .ok (.loc i) s:=rfl
theorem xB:varK s i (some (some (.d x)))= .ok (.d x) s:=rfl
theorem e_z1 {h:Vl→SD→R Vl}:z1 h fa s=(fa s).bind h:=rfl
def z2K (h:Vl→Vl→SD→R Vl) (fb:SD→R Vl):Vl→SD→R Vl:=fun a s=>(fb s).bind (h a)
theorem x_z2 {h:Vl→Vl→SD→R Vl}:z2K h fb a s=(fb s).bind (h a):=rfl
theorem e_z2 {h:Vl→Vl→SD→R Vl}:z2 h fa fb s=(fa s).bind (z2K h fb):=rfl
theorem fix_d:s.fix (.d x)= .ok x s:=rfl
theorem ug:s.fix (.own x)= .ok x s:=rfl
def fixK (s:SD) (k:Nat):Option (Option Vl)→R D
 | some (some (.own x))=> .ok x {s with sl:=s.sl.set k (some (.d x))}
 | some (some (.d x))=> .ok x s
 | _=> .bad
theorem uh:s.fix (.loc k)=fixK s k s.sl[k]? :=by
 unfold SD.fix fixK
 rfl
theorem pL:fixK ⟨sl,S⟩ k (some (some (.own x)))= .ok x ⟨sl.set k (some (.d x)),S⟩:=rfl
theorem zu:fixK s k (some (some (.d x)))= .ok x s:=rfl
def dK' :D→SD→R Vl:=fun x s=> .ok (.d x) s
theorem x_d:dK' x s= .ok (.d x) s:=rfl
def viaK (h:SD→Vl→R D):Vl→SD→R Vl:=fun a s=>(h s a).bind dK'
theorem x_via {h:SD→Vl→R D}:viaK h a s=(h s a).bind dK' :=rfl
theorem e_via {h:SD→Vl→R D}:wh h fa s=(fa s).bind (viaK h):=rfl
theorem km:SD.celled ⟨sl,S⟩ (.own x)= .ok (.cell S.nx) ⟨sl,S.new x⟩:=rfl
theorem iL:SD.celled s (.d (.cell i))= .ok (.cell i) s:=rfl
theorem Bv (h:S.get i=some x):SD.frz ⟨sl,S⟩ (.d (.cell i))= .ok x ⟨sl,S.del i⟩:=by
 unfold SD.frz
 simp only [h]
theorem e_a0:zA0 s= .ok [] s:=rfl
def consK (x:D):List D→SD→R (List D):=fun xs s=> .ok (x::xs) s
theorem xl {xs:List D}:consK x xs s= .ok (x::xs) s:=rfl
def fixK' (fr:SD→R (List D)):D→SD→R (List D):=fun x s=>(fr s).bind (consK x)
theorem x_fix:fixK' fr x s=(fr s).bind (consK x):=rfl
def aK (fr:SD→R (List D)):Vl→SD→R (List D):=fun a s=>(s.fix a).bind (fixK' fr)
theorem x_a:aK fr a s=(s.fix a).bind (fixK' fr):=rfl
theorem e_a:zA fa fr s=(fa s).bind (aK fr):=rfl
def tupK:List D→SD→R Vl:=fun xs s=> .ok (.d (.tup xs)) s
theorem x_tup {xs:List D}:tupK xs s= .ok (.d (.tup xs)) s:=rfl
def lstK:List D→SD→R Vl:=fun xs s=> .ok (.own (.lst xs)) s
theorem x_lst {xs:List D}:lstK xs s= .ok (.own (.lst xs)) s:=rfl
theorem e_tup:hX fr s=(fr s).bind tupK:=rfl
theorem e_lst:bV fr s=(fr s).bind lstK:=rfl
theorem zK:zDnew s= .ok (.own (.dct [])) s:=rfl
theorem e_b:zB fa s=(fa s).bind oB:=rfl
theorem oB_bl {b:Bool}:oB (.d (.bl b)) s= .ok b s:=rfl
def okK {α:Type} (b:α):SD→R α:=fun s=> .ok b s
theorem x_ok {α:Type} {b:α}:okK b s= .ok b s:=rfl
def notK:Bool→SD→R Bool:=fun b s=> .ok (!b) s
theorem x_not {b:Bool}:notK b s= .ok (!b) s:=rfl
def notVK:Bool→SD→R Vl:=fun b s=> .ok (.d (.bl (!b))) s
theorem xj {b:Bool}:notVK b s= .ok (.d (.bl (!b))) s:=rfl
theorem e_and {c d:SD→R Bool}:iU c d s=(c s).bind (ifK d (okK false)):=rfl
theorem e_or {c d:SD→R Bool}:zOr c d s=(c s).bind (ifK (okK true) d):=rfl
theorem e_not {c:SD→R Bool}:fN c s=(c s).bind notK:=rfl
theorem zR:hV fa fb s=(zB fa s).bind (ifK fb (okK (.d (.bl false)))):=rfl
theorem e_orV:zOrV fa fb s=(zB fa s).bind (ifK (okK (.d (.bl true))) fb):=rfl
theorem zG:wY fa s=(zB fa s).bind notVK:=rfl
theorem e_if {c:SD→R Bool}:zIf c fa fb s=(c s).bind (ifK fa fb):=rfl
def callK (F:FnV) (dds:List D):List D→SD→R Vl:=fun ds s=>goF F (ds++dds) s
theorem xn {F:FnV} {dds ds:List D}:callK F dds ds s=goF F (ds++dds) s:=rfl
theorem zN {F:FnV} {dds:List D}:aD F dds fr s=(fr s).bind (callK F dds):=rfl
def yP (c m:Str) (F:FnV) (dds:List D) (fr:SD→R (List D)) (x:D) (s:SD):Option D→R Vl
 | some (.obj c' fs)=>if c' =c∧bO fs m=none then (fr s).bind fun ds s3=>goF F (x::(ds++dds)) s3 else .bad
 | _=> .bad
def selfK (F:FnV) (dds:List D) (x:D):List D→SD→R Vl:=fun ds s=>goF F (x::(ds++dds)) s
theorem xg {F:FnV} {dds ds:List D}:selfK F dds x ds s=goF F (x::(ds++dds)) s:=rfl
def vC (c m:Str) (F:FnV) (dds:List D) (fr:SD→R (List D)):D→SD→R Vl:=fun x s=>yP c m F dds fr x s (s.cont (.d x))
theorem sv {c m:Str} {F:FnV} {dds:List D}:vC c m F dds fr x s=yP c m F dds fr x s (s.cont (.d x)):=rfl
def yO (c m:Str) (F:FnV) (dds:List D) (fr:SD→R (List D)):Vl→SD→R Vl:=fun a s=>(s.fix a).bind (vC c m F dds fr)
theorem sx {c m:Str} {F:FnV} {dds:List D}:yO c m F dds fr a s=(s.fix a).bind (vC c m F dds fr):=rfl
theorem zI {c m:Str} {F:FnV} {dds:List D} {fo:SD→R Vl}:ar c m F dds fo fr s=(fo s).bind (yO c m F dds fr):=by
 unfold ar yO vC yP
 rfl
theorem ay {c m:Str} {F:FnV} {dds:List D} {fs:List (Str×D)} (h:bO fs m=none):yP c m F dds fr x s (some (.obj c fs))=(fr s).bind (selfK F dds x):=by
 unfold yP
 simp only [h,and_self,if_true]
 rfl
def Ab (f g:Vl→Vl→SD→R Vl) (fc:SD→R Vl) (a b:Vl) (s2:SD):R Vl:=match b with
 | .d z=>match D.sc z with
  | some _=>(f a b s2).bind fun r s3=>match r with
   | .d (.bl true)=>(fc s3).bind fun c s4=>g (.d z) c s4
   | .d (.bl false)=> .ok (.d (.bl false)) s3
   | _=> .bad
  | none=> .bad
 | _=> .bad
def uK (h l:Vl→Vl→SD→R Vl) (fc:SD→R Vl) (a:Vl):Vl→SD→R Vl:=fun b s=>Ab h l fc a b s
theorem nP {h l:Vl→Vl→SD→R Vl}:uK h l fc a b s=Ab h l fc a b s:=rfl
def Ac (h l:Vl→Vl→SD→R Vl) (fb fc:SD→R Vl):Vl→SD→R Vl:=fun a s=>(fb s).bind (uK h l fc a)
theorem nQ {h l:Vl→Vl→SD→R Vl}:Ac h l fb fc a s=(fb s).bind (uK h l fc a):=rfl
theorem uz {h l:Vl→Vl→SD→R Vl}:qw h l fa fb fc s=(fa s).bind (Ac h l fb fc):=rfl
def chK (l:Vl→Vl→SD→R Vl) (fc:SD→R Vl) (b:Vl) (r:Vl) (s:SD):R Vl:=match r with
 | .d (.bl true)=>(fc s).bind fun c s4=>l b c s4
 | .d (.bl false)=> .ok (.d (.bl false)) s
 | _=> .bad
theorem Ad {l:Vl→Vl→SD→R Vl} {t:Bool}:chK l fc b (.d (.bl t)) s=if t=true then (fc s).bind (l b) else .ok (.d (.bl false)) s:=by cases t<;> rfl
theorem kl {h l:Vl→Vl→SD→R Vl} {n:Int}:Ab h l fc a (.d (.int n)) s=(h a (.d (.int n)) s).bind (chK l fc (.d (.int n))):=rfl
theorem e_no:zNo s= .ok none s:=rfl
def ptK:Vl→SD→R (Option Int)
 | .d (.int i),s=> .ok (some i) s
 | _,_=> .bad
theorem x_pt {n:Int}:ptK (.d (.int n)) s= .ok (some n) s:=rfl
theorem e_pt:zPt fa s=(fa s).bind ptK:=by
 unfold zPt
 congr
 funext a s1
 cases a with
 | d x=>cases x<;> rfl
 | own x=>rfl
 | loc k=>rfl
noncomputable def sl3K (a:Vl) (lo:Option Int):Option Int→SD→R Vl:=fun hi s=>oSl a lo hi s
theorem x_sl3 {lo hi:Option Int}:sl3K a lo hi s=oSl a lo hi s:=rfl
noncomputable def sl2K (fh:SD→R (Option Int)) (a:Vl):Option Int→SD→R Vl:=fun lo s=>(fh s).bind (sl3K a lo)
theorem x_sl2 {fh:SD→R (Option Int)} {lo:Option Int}:sl2K fh a lo s=(fh s).bind (sl3K a lo):=rfl
noncomputable def sl1K (fl fh:SD→R (Option Int)):Vl→SD→R Vl:=fun a s=>(fl s).bind (sl2K fh a)
theorem x_sl1 {fl fh:SD→R (Option Int)}:sl1K fl fh a s=(fl s).bind (sl2K fh a):=rfl
theorem e_sl {fl fh:SD→R (Option Int)}:zSl fa fl fh s=(fa s).bind (sl1K fl fh):=rfl
theorem pW {n:Int}:s.cont (.d (.int n))=some (.int n):=rfl
theorem lq {z:Str}:s.cont (.d (.str z))=some (.str z):=rfl
theorem uG {t:Bool}:s.cont (.d (.bl t))=some (.bl t):=rfl
theorem pU:s.cont (.d .non)=some .non:=rfl
theorem gY {l:List D}:s.cont (.d (.lst l))=some (.lst l):=rfl
theorem lu {l:List D}:s.cont (.d (.con l))=some (.con l):=rfl
theorem lj {l:List D}:s.cont (.d (.tup l))=some (.tup l):=rfl
theorem pY {l:List (Key×D)}:s.cont (.d (.dct l))=some (.dct l):=rfl
theorem pT {c:Str} {l:List (Str×D)}:s.cont (.d (.obj c l))=some (.obj c l):=rfl
theorem jt:s.cont (.d (.cell i))=s.st.get i:=rfl
theorem gX:s.cont (.own x)=some x:=rfl
def contK (S:Sto):Option (Option Vl)→Option D
 | some (some (.own x))=>some x
 | some (some (.d (.cell i)))=>S.get i
 | some (some (.d x))=>some x
 | _=>none
theorem pV:s.cont (.loc k)=contK s.st s.sl[k]? :=by
 show (match s.sl[k]? with | some (some (.own x))=>some x | some (some (.d (.cell i)))=>s.st.get i | some (some (.d x))=>some x | _=>none)=_
 unfold contK
 rfl
theorem mG:contK S (some (some (.own x)))=some x:=rfl
theorem w_sub {m n:Int}:sq (.d (.int m)) (.d (.int n)) s= .ok (.d (.int (m - n))) s:=rfl
theorem w_mod {m n:Int}:cM (.d (.int m)) (.d (.int n)) s=if 0<n then .ok (.d (.int (m%n))) s else .bad:=rfl
theorem w_div {m n:Int}:dy (.d (.int m)) (.d (.int n)) s=if CDivW m n then .ok (.d (.int (m / n))) s else .bad:=rfl
theorem w_pow {m n:Int}:AB (.d (.int m)) (.d (.int n)) s=if qt m n then .ok (.d (.int (m ^ n.toNat))) s else .bad:=rfl
theorem w_cmp {h:Int→Int→Bool} {m n:Int}:Bb h (.d (.int m)) (.d (.int n)) s= .ok (.d (.bl (h m n))) s:=rfl
noncomputable def addK (s:SD):Option D→Option D→R Vl
 | some (.int i),some (.int j)=> .ok (.d (.int (i+j))) s
 | some (.str x),some (.str y)=>if x.length+y.length≤sizeLine then .ok (.d (.str (x++y))) s else .bad
 | some (.lst xs),some (.lst ys)=>if xs.length+ys.length≤sizeLine then .ok (.own (.lst (xs++ys))) s else .bad
 | some (.tup xs),some (.tup ys)=>if xs≠ []∧ys≠ []∧xs.length+ys.length≤sizeLine then .ok (.d (.tup (xs++ys))) s else .bad
 | _,_=> .bad
theorem w_add:cA a b s=addK s (s.cont a) (s.cont b):=by
 unfold cA addK
 rfl
theorem qr {m n:Int}:addK s (some (.int m)) (some (.int n))= .ok (.d (.int (m+n))) s:=rfl
theorem qo {m n:Str}:addK s (some (.str m)) (some (.str n))=if m.length+n.length≤sizeLine then .ok (.d (.str (m++n))) s else .bad:=rfl
theorem qp {m n:List D}:addK s (some (.lst m)) (some (.lst n))=if m.length+n.length≤sizeLine then .ok (.own (.lst (m++n))) s else .bad:=rfl
theorem ql {m n:List D}:addK s (some (.tup m)) (some (.tup n))=if m≠ []∧n≠ []∧m.length+n.length≤sizeLine then .ok (.d (.tup (m++n))) s else .bad:=rfl
noncomputable def mulK (s:SD):Option D→Option D→R Vl
 | some (.int i),some (.int j)=>if CMulX i j then .ok (.d (.int (i*j))) s else .bad
 | some (.lst xs),some (.int k)=>if -(2 ^ 63)≤k∧k<2 ^ 63∧xs.length*k.toNat≤sizeLine then .ok (.own (.lst (List.replicate k.toNat xs).flatten)) s else .bad
 | some (.str z),some (.int k)=>if PySem.MulOk z k then .ok (.d (.str (Txt.mul z k))) s else .bad
 | _,_=> .bad
theorem xx:kA a b s=mulK s (s.cont a) (s.cont b):=by
 unfold kA mulK
 rfl
theorem ph {i j:Int}:mulK s (some (.int i)) (some (.int j))=if CMulX i j then .ok (.d (.int (i*j))) s else .bad:=rfl
theorem pd {z:Str} {k:Int}:mulK s (some (.str z)) (some (.int k))=if PySem.MulOk z k then .ok (.d (.str (Txt.mul z k))) s else .bad:=rfl
theorem pe {xs:List D} {k:Int}:mulK s (some (.lst xs)) (some (.int k))=if -(2 ^ 63)≤k∧k<2 ^ 63∧xs.length*k.toNat≤sizeLine then .ok (.own (.lst (List.replicate k.toNat xs).flatten)) s else .bad:=rfl
theorem w_neg {n:Int}:AD (.d (.int n)) s= .ok (.d (.int (-n))) s:=rfl
theorem w_min {m n:Int}:oMin (.d (.int m)) (.d (.int n)) s= .ok (.d (.int (if n<m then n else m))) s:=rfl
def AE (t:Ty1) (s:SD):Option D→R Vl
 | some x=>match x.knd with
  | some _=> .ok (.d (.bl (isT t x))) s
  | none=> .bad
 | none=> .bad
theorem w_isi {t:Ty1}:qY t a s=AE t s (s.cont a):=by
 unfold qY AE
 rfl
theorem tT {t:Ty1} {n:Int}:AE t s (some (.int n))= .ok (.d (.bl (isT t (.int n)))) s:=rfl
theorem za {t:Ty1} {n:Bool}:AE t s (some (.bl n))= .ok (.d (.bl (isT t (.bl n)))) s:=rfl
theorem tQ {t:Ty1} {n:Str}:AE t s (some (.str n))= .ok (.d (.bl (isT t (.str n)))) s:=rfl
theorem tR {t:Ty1}:AE t s (some .non)= .ok (.d (.bl (isT t .non))) s:=rfl
theorem tS {t:Ty1} {n:List D}:AE t s (some (.lst n))= .ok (.d (.bl (isT t (.lst n)))) s:=rfl
theorem tV {t:Ty1} {n:List D}:AE t s (some (.con n))= .ok (.d (.bl (isT t (.con n)))) s:=rfl
theorem tP {t:Ty1} {n:List D}:AE t s (some (.tup n))= .ok (.d (.bl (isT t (.tup n)))) s:=rfl
theorem tU {t:Ty1} {n:List (Key×D)}:AE t s (some (.dct n))= .ok (.d (.bl (isT t (.dct n)))) s:=rfl
theorem lF {neg:Bool} {n:Int}:kB neg (.d (.int n)) (.d .non) s= .ok (.d (.bl neg)) s:=rfl
theorem lE {neg:Bool} {n:List D}:kB neg (.d (.tup n)) (.d .non) s= .ok (.d (.bl neg)) s:=rfl
theorem sE {neg:Bool}:kB neg (.d .non) (.d .non) s= .ok (.d (.bl (!neg))) s:=rfl
noncomputable def eqK (s:SD):Option D→Option D→R Vl
 | some x,some y=>match dEq x y with
  | some r=> .ok (.d (.bl r)) s
  | none=> .bad
 | _,_=> .bad
theorem w_eq:oEq a b s=eqK s (s.cont a) (s.cont b):=by
 unfold oEq eqK
 rfl
theorem vX {r:Bool} (h:dEq x y=some r):eqK s (some x) (some y)= .ok (.d (.bl r)) s:=by
 unfold eqK
 simp only [h]
theorem zW {i j:Int}:dEq (.int i) (.int j)=some (decide (i=j)):=by
 show some (decide (V.int i=V.int j))=_
 congr 1
 apply decide_eq_decide.mpr
 exact ⟨fun h=>by cases h; rfl,fun h=>by rw [h]⟩
theorem uE {i j:Str}:dEq (.str i) (.str j)=some (decide (i=j)):=by
 show some (decide (V.str i=V.str j))=_
 congr 1
 apply decide_eq_decide.mpr
 exact ⟨fun h=>by cases h; rfl,fun h=>by rw [h]⟩
theorem uw {i j:Int}:eqK s (some (.int i)) (some (.int j))= .ok (.d (.bl (decide (i=j)))) s:=vX zW
theorem eo {i j:Str}:eqK s (some (.str i)) (some (.str j))= .ok (.d (.bl (decide (i=j)))) s:=vX uE
noncomputable def neK (s:SD):Option D→Option D→R Vl
 | some (.dct ks),some (.dct [])=> .ok (.d (.bl (!ks.isEmpty))) s
 | some x,some y=>match dEq x y with
  | some r=> .ok (.d (.bl (!r))) s
  | none=> .bad
 | _,_=> .bad
theorem w_ne:oNe a b s=neK s (s.cont a) (s.cont b):=by
 unfold oNe neK
 rfl
theorem tH {l:List D}:neK s (some (.lst l)) (some (.lst []))= .ok (.d (.bl (!l.isEmpty))) s:=by
 unfold neK dEq
 rfl
theorem tK {l:List (Key×D)}:neK s (some (.dct l)) (some (.dct []))= .ok (.d (.bl (!l.isEmpty))) s:=rfl
theorem uu {l:List D}:eqK s (some (.lst l)) (some (.lst []))= .ok (.d (.bl l.isEmpty)) s:=by
 unfold eqK dEq
 rfl
noncomputable def inK (neg:Bool) (s:SD):Option D→Option D→R Vl
 | some x,some y=>match dIn x y with
  | some r=> .ok (.d (.bl (if neg then !r else r))) s
  | none=> .bad
 | _,_=> .bad
theorem w_in {neg:Bool}:oIn neg a b s=inK neg s (s.cont a) (s.cont b):=by
 unfold oIn inK
 rfl
theorem kE {neg r:Bool} (h:dIn x y=some r):inK neg s (some x) (some y)= .ok (.d (.bl (if neg then !r else r))) s:=by
 unfold inK
 simp only [h]
noncomputable def ixK (s:SD):Option D→Option D→R Vl
 | some x,some y=>match dIx x y with
  | some r=> .ok (.d r) s
  | none=> .bad
 | _,_=> .bad
theorem w_ix:oIx a b s=ixK s (s.cont a) (s.cont b):=by
 unfold oIx ixK
 rfl
theorem cf {r:D} (h:dIx x y=some r):ixK s (some x) (some y)= .ok (.d r) s:=by
 unfold ixK
 simp only [h]
def lenK (s:SD):Option D→R Vl
 | some (.lst xs)=> .ok (.d (.int xs.length)) s
 | some (.con xs)=> .ok (.d (.int xs.length)) s
 | some (.tup xs)=> .ok (.d (.int xs.length)) s
 | some (.str z)=>if z.length≤sizeLine then .ok (.d (.int z.length)) s else .bad
 | some (.dct ks)=> .ok (.d (.int ks.length)) s
 | _=> .bad
theorem w_len:de a s=lenK s (s.cont a):=by
 unfold de lenK
 rfl
theorem px {l:List D}:lenK s (some (.lst l))= .ok (.d (.int l.length)) s:=rfl
theorem pA {l:List D}:lenK s (some (.con l))= .ok (.d (.int l.length)) s:=rfl
theorem pz {l:List (Key×D)}:lenK s (some (.dct l))= .ok (.d (.int l.length)) s:=rfl
theorem pq {z:Str}:lenK s (some (.str z))=if z.length≤sizeLine then .ok (.d (.int z.length)) s else .bad:=rfl
def fldK (cls:List Str) (f:Str) (s:SD):Option D→R Vl
 | some (.obj c fs)=>if c∈cls then match bO fs f with
  | some x=> .ok (.d x) s
  | none=> .bad
  else .bad
 | _=> .bad
theorem w_fld {cls:List Str} {f:Str}:aB cls f a s=fldK cls f s (s.cont a):=by
 unfold aB fldK
 rfl
theorem aj {c f:Str} {fs:List (Str×D)} (h:bO fs f=some x):fldK [c] f s (some (.obj c fs))= .ok (.d x) s:=by
 unfold fldK
 simp only [List.mem_singleton,if_true,h]
def dfK (f:D→R Vl):Option D→R Vl
 | some x=>f x
 | none=> .bad
theorem wa {α:Type} (f:α→Bool):∀l:List α,BB (l.map fun c=>D.bl (f c))=some (l.map f)
 | []=>rfl
 | a::l=>by rw [List.map_cons,BB,wa f l,List.map_cons]
theorem mE {α:Type} (f:α→Int):∀l:List α,kQ (l.map fun c=>D.int (f c))=some (l.map f)
 | []=>rfl
 | a::l=>by rw [List.map_cons,kQ,mE f l,List.map_cons]
theorem rT {α:Type} (f:α→Str):∀l:List α,uC (l.map fun c=>D.str (f c))=some (l.map f)
 | []=>rfl
 | a::l=>by rw [List.map_cons,uC,rT f l,List.map_cons]
theorem all_own {ds:List D} {bs:List Bool} (h:BB ds=some bs):oAll (.own (.lst ds)) s= .ok (.d (.bl (bs.all id))) s:=by
 unfold oAll
 simp only [gX,h]
noncomputable def yS (s:SD):Option D→R Vl
 | some (.lst xs)=> .ok (.own (.lst xs)) s
 | some (.con xs)=> .ok (.own (.lst xs)) s
 | some (.tup xs)=> .ok (.own (.lst xs)) s
 | some (.dct ks)=> .ok (.own (.lst (ks.map fun kv=>wD kv.1))) s
 | _=> .bad
theorem xy:kb a s=yS s (s.cont a):=by
 unfold kb yS
 rfl
theorem mh {l:List D}:yS s (some (.lst l))= .ok (.own (.lst l)) s:=rfl
theorem mj {l:List D}:yS s (some (.con l))= .ok (.own (.lst l)) s:=rfl
theorem mi {l:List (Key×D)}:yS s (some (.dct l))= .ok (.own (.lst (l.map fun kv=>wD kv.1))) s:=rfl
noncomputable def dictK (s:SD):Option D→R Vl
 | some (.dct ks)=> .ok (.own (.dct ks)) s
 | some (.lst ds)=>match yA ds with
  | some ks=> .ok (.own (.dct (jq ks))) s
  | none=> .bad
 | _=> .bad
theorem xA:tF a s=dictK s (s.cont a):=by
 unfold tF dictK
 rfl
theorem mF {l:List (Key×D)}:dictK s (some (.dct l))= .ok (.own (.dct l)) s:=rfl
theorem nX {t:Bool}:oInt (.d (.bl t)) s= .ok (.d (.int (if t=true then 1 else 0))) s:=by cases t<;> rfl
theorem lG {n:Int}:oInt (.d (.int n)) s= .ok (.d (.int n)) s:=rfl
theorem Bk {z:Str} {ds:List D} {ys:List Str} (h:uC ds=some ys) (hz:(ys.map (·.length)).sum+ys.length*z.length≤16777216):qX (.d (.str z)) (.own (.lst ds)) s= .ok (.d (.str (Txt.join z ys))) s:=by
 unfold qX
 simp only [gX,lq,h,if_pos hz]
noncomputable def slK (s:SD) (lo hi:Option Int):Option D→R Vl
 | some (.lst ds)=> .ok (.own (.lst (cutD ds lo hi))) s
 | some (.con ds)=> .ok (.own (.lst (cutD ds lo hi))) s
 | some (.str z)=>if z.length≤sizeLine then .ok (.d (.str (cutS z lo hi))) s else .bad
 | some (.tup ds)=>if¬(HT.sIx ds.length 0 lo=0∧HT.sIx ds.length ds.length hi=ds.length) then .ok (.d (.tup (cutD ds lo hi))) s else .bad
 | _=> .bad
theorem w_sl {lo hi:Option Int}:oSl a lo hi s=slK s lo hi (s.cont a):=by
 unfold oSl slK
 rfl
theorem sP {lo hi:Option Int} {l:List D}:slK s lo hi (some (.lst l))= .ok (.own (.lst (cutD l lo hi))) s:=rfl
theorem sQ {lo hi:Option Int} {l:List D}:slK s lo hi (some (.con l))= .ok (.own (.lst (cutD l lo hi))) s:=rfl
theorem sO {lo hi:Option Int} {z:Str}:slK s lo hi (some (.str z))=if z.length≤sizeLine then .ok (.d (.str (cutS z lo hi))) s else .bad:=rfl
noncomputable def rg1K:List D→SD→R Src:=fun ds s1=>match ds with
 | [.int j]=>if -(2 ^ 62)≤j∧j<2 ^ 62 then .ok ⟨[],fun _=>True,upTo 0 j.toNat⟩ s1 else .bad
 | _=> .bad
theorem e_rg1:sk fr s=(fr s).bind rg1K:=by
 unfold sk
 rfl
theorem x_rg1 {n:Int}:rg1K [.int n] s=if -(2 ^ 62)≤n∧n<2 ^ 62 then .ok ⟨[],fun _=>True,upTo 0 n.toNat⟩ s else .bad:=rfl
def enK:Vl→SD→R Src:=fun a s1=>match s1.cont a with
 | some (.lst ds)=> .ok ⟨[a],fun s=>s.cont a=some (.lst ds),dF ds⟩ s1
 | _=> .bad
theorem e_en:fR fa s=(fa s).bind enK:=by
 unfold fR
 rfl
theorem nN {ds:List D}:enK (.d (.lst ds)) s= .ok ⟨[.d (.lst ds)],fun _=>True,dF ds⟩ s:=by
 unfold enK
 simp only [gY]
def unpK (is:List Nat) (s:SD):Option D→R Unit
 | some (.tup ds)=>if ds.length=is.length then .ok () {s with sl:=dg is ds s.sl} else .bad
 | _=> .bad
theorem w_unp {is:List Nat}:ig is a s=unpK is s (s.cont a):=by
 unfold ig unpK
 rfl
theorem unp2 {i0 i1:Nat} {d0 d1:D}:unpK [i0,i1] ⟨sl,S⟩ (some (.tup [d0,d1]))= .ok () ⟨dg [i0,i1] [d0,d1] sl,S⟩:=rfl
theorem unp3 {i0 i1 i2:Nat} {d0 d1 d2:D}:unpK [i0,i1,i2] ⟨sl,S⟩ (some (.tup [d0,d1,d2]))= .ok () ⟨dg [i0,i1,i2] [d0,d1,d2] sl,S⟩:=rfl
theorem unp4 {i0 i1 i2 i3:Nat} {d0 d1 d2 d3:D}:unpK [i0,i1,i2,i3] ⟨sl,S⟩ (some (.tup [d0,d1,d2,d3]))= .ok () ⟨dg [i0,i1,i2,i3] [d0,d1,d2,d3] sl,S⟩:=rfl
theorem unp5 {i0 i1 i2 i3 i4:Nat} {d0 d1 d2 d3 d4:D}:unpK [i0,i1,i2,i3,i4] ⟨sl,S⟩ (some (.tup [d0,d1,d2,d3,d4]))= .ok () ⟨dg [i0,i1,i2,i3,i4] [d0,d1,d2,d3,d4] sl,S⟩:=rfl
theorem ir {d:D} {is:List Nat} {ds:List D} {l:List (Option Vl)}:dg (i::is) (d::ds) l=dg is ds (l.set i (some (.d d))):=rfl
theorem jK {l:List (Option Vl)}:dg [] [] l=l:=rfl
def m2K (h:Vl→Vl→SD→R Vl) (chk:SD→Vl→Bool) (fb:SD→R Vl):Vl→SD→R Vl:=fun a s=>if chk s a=true then (fb s).bind (h a) else .bad
theorem x_m2 {h:Vl→Vl→SD→R Vl} {chk:SD→Vl→Bool}:m2K h chk fb a s=if chk s a=true then (fb s).bind (h a) else .bad:=rfl
theorem e_m2 {h:Vl→Vl→SD→R Vl} {chk:SD→Vl→Bool}:zM2 chk h fa fb s=(fa s).bind (m2K h chk fb):=rfl
def m1sK (h:Vl→Vl→SD→R Vl) (fb:SD→R Vl):Vl→SD→R Vl:=fun a s=>if isS a=true then (fb s).bind (h a) else .bad
theorem x_m1s {h:Vl→Vl→SD→R Vl} {z:Str}:m1sK h fb (.d (.str z)) s=(fb s).bind (h (.d (.str z))):=rfl
theorem e_m1s {h:Vl→Vl→SD→R Vl}:zM1s h fa fb s=(fa s).bind (m1sK h fb):=rfl
def isLK:Option D→Bool
 | some (.lst _)=>true
 | _=>false
theorem x_isL:isL s a=isLK (s.cont a):=by
 unfold isL isLK
 rfl
theorem pC {l:List D}:isLK (some (.lst l))=true:=rfl
def isDK:Option D→Bool
 | some (.dct _)=>true
 | _=>false
theorem x_isD:isDc s a=isDK (s.cont a):=by
 unfold isDc isDK
 rfl
theorem pD {l:List (Key×D)}:isDK (some (.dct l))=true:=rfl
def rvK (r:D):Unit→SD→R Vl:=fun _ s=> .ok (.d r) s
theorem x_rv {r:D} {u:Unit}:rvK r u s= .ok (.d r) s:=rfl
def b2K (f:D→D→Option (D×D)) (a:Vl) (z:D) (s:SD):Option D→R Vl
 | some c=>match f c z with
  | some (y,r)=>(s.mod y a).bind (rvK r)
  | none=> .bad
 | none=> .bad
theorem w_b2 {f:D→D→Option (D×D)} {z:D}:oB2 f a (.d z) s=b2K f a z s (s.cont a):=by
 unfold oB2 b2K
 rfl
theorem b2K_ok {f:D→D→Option (D×D)} {z c r:D} (h:f c z=some (y,r)):b2K f a z s (some c)=(s.mod y a).bind (rvK r):=by
 unfold b2K
 simp only [h]
theorem mS {z:D} {ds:List D}:b2K aE a z s (some (.lst ds))=if ds.length<sizeLine then (s.mod (.lst (ds++ [z])) a).bind (rvK .non) else .bad:=by
 unfold b2K aE
 by_cases h:ds.length<sizeLine<;> simp only [h,if_true,if_false]
theorem mR {es ds:List D}:b2K iJ a (.lst es) s (some (.lst ds))=if ds.length+es.length≤sizeLine then (s.mod (.lst (ds++es)) a).bind (rvK .non) else .bad:=by
 unfold b2K iJ
 by_cases h:ds.length+es.length≤sizeLine<;> simp only [h,if_true,if_false]
def b1K (f:D→Option (D×D)) (a:Vl) (s:SD):Option D→R Vl
 | some c=>match f c with
  | some (y,r)=>(s.mod y a).bind (rvK r)
  | none=> .bad
 | none=> .bad
theorem w_b1 {f:D→Option (D×D)}:oB1 f a s=b1K f a s (s.cont a):=by
 unfold oB1 b1K
 rfl
theorem qi {ds:List D}:b1K rQ a s (some (.lst ds))=(s.mod (.lst []) a).bind (rvK .non):=rfl
theorem mT {ds:List (Key×D)}:b1K fDClear a s (some (.dct ds))=(s.mod (.dct []) a).bind (rvK .non):=rfl
theorem pj:SD.mod ⟨sl,S⟩ y (.d (.cell i))= .ok () ⟨sl,S.put i y⟩:=rfl
def modK (s:SD) (y:D) (k:Nat):Option (Option Vl)→R Unit
 | some (some (.own _))=> .ok () {s with sl:=s.sl.set k (some (.own y))}
 | some (some (.d (.cell i)))=> .ok () {s with st:=s.st.put i y}
 | _=> .bad
theorem tL:s.mod y (.loc k)=modK s y k s.sl[k]? :=by
 unfold SD.mod modK
 rfl
theorem pk:modK ⟨sl,S⟩ y k (some (some (.own x)))= .ok () ⟨sl.set k (some (.own y)),S⟩:=rfl
def sfK (cls:List Str) (f:Str) (x:D) (a:Vl) (s:SD):Option D→R Fl
 | some (.obj c fs)=>if c∈cls∧fs.length<1000 then (s.mod (.obj c (fP f x fs)) a).bind nxK else .bad
 | _=> .bad
def sf3 (cls:List Str) (f:Str) (x:D):Vl→SD→R Fl:=fun a s=>sfK cls f x a s (s.cont a)
theorem x_sf3 {cls:List Str} {f:Str}:sf3 cls f x a s=sfK cls f x a s (s.cont a):=rfl
def sf2 (cls:List Str) (f:Str) (fo:SD→R Vl):D→SD→R Fl:=fun x s=>(fo s).bind (sf3 cls f x)
theorem x_sf2 {cls:List Str} {f:Str}:sf2 cls f fa x s=(fa s).bind (sf3 cls f x):=rfl
def sf1 (cls:List Str) (f:Str) (fo:SD→R Vl):Vl→SD→R Fl:=fun v s=>(s.fix v).bind (sf2 cls f fo)
theorem x_sf1 {cls:List Str} {f:Str}:sf1 cls f fa a s=(s.fix a).bind (sf2 cls f fa):=rfl
theorem e_sf {cls:List Str} {f:Str} {fo fv:SD→R Vl}:bj cls f fo fv s=(fv s).bind (sf1 cls f fo):=by
 unfold bj sf1 sf2 sf3 sfK
 rfl
theorem fX {c f:Str} {fs:List (Str×D)} (h:fs.length<1000):sfK [c] f x a s (some (.obj c fs))=(s.mod (.obj c (fP f x fs)) a).bind nxK:=by
 unfold sfK
 simp only [List.mem_singleton,h,and_self,if_true]
theorem sfn0 {c f:Str}:sfK [c] f x a s (some (.obj c []))=(s.mod (.obj c (fP f x [])) a).bind nxK:=fX (by simp)
theorem sfn1 {c f:Str} {p0:Str×D}:sfK [c] f x a s (some (.obj c [p0]))=(s.mod (.obj c (fP f x [p0])) a).bind nxK:=fX (by simp)
theorem sfn2 {c f:Str} {p0 p1:Str×D}:sfK [c] f x a s (some (.obj c [p0,p1]))=(s.mod (.obj c (fP f x [p0,p1])) a).bind nxK:=fX (by simp)
theorem sfn3 {c f:Str} {p0 p1 p2:Str×D}:sfK [c] f x a s (some (.obj c [p0,p1,p2]))=(s.mod (.obj c (fP f x [p0,p1,p2])) a).bind nxK:=fX (by simp)
theorem sfn4 {c f:Str} {p0 p1 p2 p3:Str×D}:sfK [c] f x a s (some (.obj c [p0,p1,p2,p3]))=(s.mod (.obj c (fP f x [p0,p1,p2,p3])) a).bind nxK:=fX (by simp)
theorem sfn5 {c f:Str} {p0 p1 p2 p3 p4:Str×D}:sfK [c] f x a s (some (.obj c [p0,p1,p2,p3,p4]))=(s.mod (.obj c (fP f x [p0,p1,p2,p3,p4])) a).bind nxK:=fX (by simp)
theorem sfn6 {c f:Str} {p0 p1 p2 p3 p4 p5:Str×D}:sfK [c] f x a s (some (.obj c [p0,p1,p2,p3,p4,p5]))=(s.mod (.obj c (fP f x [p0,p1,p2,p3,p4,p5])) a).bind nxK:=fX (by simp)
theorem sfn7 {c f:Str} {p0 p1 p2 p3 p4 p5 p6:Str×D}:sfK [c] f x a s (some (.obj c [p0,p1,p2,p3,p4,p5,p6]))=(s.mod (.obj c (fP f x [p0,p1,p2,p3,p4,p5,p6])) a).bind nxK:=fX (by simp)
theorem sfn8 {c f:Str} {p0 p1 p2 p3 p4 p5 p6 p7:Str×D}:sfK [c] f x a s (some (.obj c [p0,p1,p2,p3,p4,p5,p6,p7]))=(s.mod (.obj c (fP f x [p0,p1,p2,p3,p4,p5,p6,p7])) a).bind nxK:=fX (by simp)
def mkR (i:Nat) (s:SD):R Vl→R Vl
 | .ok (.d .non) s' => .ok (.d (.cell i)) {s with st:=s'.st}
 | .ex c fs s' => .ex c fs {s with st:=s'.st}
 | _=> .bad
def mkK (c:Str) (F:FnV) (dds:List D):List D→SD→R Vl:=fun ds s1=>mkR s1.st.nx s1 (F (.cell s1.st.nx::(ds++dds)) (s1.st.new (.obj c [])))
theorem x_mk {c:Str} {F:FnV} {dds ds:List D}:mkK c F dds ds s=mkR s.st.nx s (F (.cell s.st.nx::(ds++dds)) (s.st.new (.obj c []))):=rfl
theorem e_mk {c:Str} {F:FnV} {dds:List D}:dH c F dds fr s=(fr s).bind (mkK c F dds):=by
 unfold dH mkK mkR
 rfl
theorem je {F:FnV} {ds:List D} {S' S'' :Sto} (h:∀s:SD,goF F ds ⟨s.sl,S'⟩= .ok (.d .non) ⟨s.sl,S''⟩):mkR i ⟨sl,S⟩ (F ds S')= .ok (.d (.cell i)) ⟨sl,S''⟩:=by
 have h:=h ⟨sl,S⟩
 unfold goF at h
 cases e:F ds S' with
 | bad=>rw [show (⟨sl,S'⟩:SD).st=S' from rfl,e] at h; cases h
 | ex c fs s' =>rw [show (⟨sl,S'⟩:SD).st=S' from rfl,e] at h; cases h
 | ok a s' =>
  rw [show (⟨sl,S'⟩:SD).st=S' from rfl,e] at h
  simp only [R.ok.injEq,SD.mk.injEq,true_and] at h
  obtain ⟨rfl,rfl⟩:=h
  rfl
noncomputable def AA (f:D→D→Option D) (o:Vl) (z:D) (s:SD):Option D→R Unit
 | some c=>match f c z with
  | some y=>s.mod y o
  | none=> .bad
 | none=> .bad
theorem x_sto {f:D→D→Option D} {z:D}:stO f a (.d z) s=AA f a z s (s.cont a):=by
 unfold stO AA
 rfl
theorem sto_put {k:Key} {z:D} {ks:List (Key×D)} (h:z.key=some k) (hl:ks.length<sizeLine):AA (uo x) a z s (some (.dct ks))=s.mod (.dct (dput ks k x)) a:=by
 unfold AA uo
 simp only [h,hl,if_true]
noncomputable def dp4 (x:D) (o:Vl):Vl→SD→R Unit:=fun i s=>stO (uo x) o i s
theorem x_dp4:dp4 x a b s=stO (uo x) a b s:=rfl
noncomputable def dp3 (fi:SD→R Vl) (x:D):Vl→SD→R Unit:=fun o s=>(fi s).bind (dp4 x o)
theorem x_dp3:dp3 fa x a s=(fa s).bind (dp4 x a):=rfl
noncomputable def dp2 (fo fi:SD→R Vl):D→SD→R Fl:=fun x s=>((fo s).bind (dp3 fi x)).bind nxK
theorem x_dp2:dp2 fa fb x s=((fa s).bind (dp3 fb x)).bind nxK:=rfl
noncomputable def dp1 (fo fi:SD→R Vl):Vl→SD→R Fl:=fun v s=>(s.fix v).bind (dp2 fo fi)
theorem x_dp1:dp1 fa fb a s=(s.fix a).bind (dp2 fa fb):=rfl
theorem e_dp:xa fa fb fc s=(fc s).bind (dp1 fa fb):=by
 unfold xa dp1 dp2 dp3 dp4
 rfl
theorem b2_dpop {k:Key} {z t:D} {ks:List (Key×D)} (h:z.key=some k) (h2:mZ ks k=some t):b2K ur a z s (some (.dct ks))=(s.mod (.dct (wH ks k)) a).bind (rvK t):=by
 unfold b2K ur
 simp only [h,h2]
theorem xu {is:List Int} {ks:List D} (h:s.cont a=some (.lst ks)) (e:kQ ks=some is):iH a s= .ok (.own (.lst ((srt is).map D.int))) s:=by
 unfold iH
 simp only [h,e]
def dispK:List (Key×D)→SD→R Vl:=fun ks s=>if ks.length≤15 then .ok (.own (.dct (jq ks))) s else .bad
theorem xk {ks:List (Key×D)}:dispK ks s=if ks.length≤15 then .ok (.own (.dct (jq ks))) s else .bad:=rfl
theorem zL {fp:SD→R (List (Key×D))}:AH fp s=(fp s).bind dispK:=rfl
def p3K (kk:Key) (x:D):List (Key×D)→SD→R (List (Key×D)):=fun ks s=> .ok ((kk,x)::ks) s
theorem x_p3 {kk:Key} {ks:List (Key×D)}:p3K kk x ks s= .ok ((kk,x)::ks) s:=rfl
def p2K (kk:Key) (fp:SD→R (List (Key×D))):D→SD→R (List (Key×D)):=fun x s=>(fp s).bind (p3K kk x)
theorem x_p2 {kk:Key} {fp:SD→R (List (Key×D))}:p2K kk fp x s=(fp s).bind (p3K kk x):=rfl
def p1K (kk:Key) (fp:SD→R (List (Key×D))):Vl→SD→R (List (Key×D)):=fun a s=>(s.fix a).bind (p2K kk fp)
theorem x_p1 {kk:Key} {fp:SD→R (List (Key×D))}:p1K kk fp a s=(s.fix a).bind (p2K kk fp):=rfl
theorem e_p {kk:Key} {fv:SD→R Vl} {fp:SD→R (List (Key×D))}:zP kk fv fp s=(fv s).bind (p1K kk fp):=rfl
theorem e_p0:zP0 s= .ok [] s:=rfl
def wkK (wk:Wk):Vl→SD→R Src:=fun a s1=>match a with
 | .d (.dct ks)=> .ok ⟨[.d (.dct ks)],fun _=>True,wk.ds ks⟩ s1
 | _=> .bad
theorem x_wk {wk:Wk} {ks:List (Key×D)}:wkK wk (.d (.dct ks)) s= .ok ⟨[.d (.dct ks)],fun _=>True,wk.ds ks⟩ s:=rfl
theorem zy {wk:Wk}:su wk fa s=(aG fa s).bind (wkK wk):=by
 unfold su wkK
 rfl
noncomputable def forK (fz:Vl→SD→R Unit) (fb:SD→R Fl):Src→SD→R Fl:=fun src s1=>if Nl src.hs then fQ src.ok (fun d s=>(fz (.d d) s).bind fun _ s2=>fb s2) src.ds s1 else .bad
theorem e_for {fi:SD→R Src} {fz:Vl→SD→R Unit} {fb:SD→R Fl}:cC fi fz fb s=(fi s).bind (forK fz fb):=rfl
def xG (fb:SD→R Fl):Unit→SD→R Fl:=fun _ s=>fb s
theorem xc {u:Unit}:xG f u s=f s:=Eq.trans rfl rfl
theorem loop_w {ok:SD→Prop} {body:D→SD→R Fl} {Q:Fl→SD→Prop} {E:XQ} {I:Nat→SD→Prop} (hok:∀i s,I i s→ok s):∀{ds:List D} {i:Nat} {s:SD},I i s→
  (∀j d s,ds[j]? =some d→I (i+j) s→Wp (body d s) (fun fl s' =>match fl with | .nx=>I (i+j+1) s' | .ct=>I (i+j+1) s' | .bk=>Q .nx s' | .rt a=>Q (.rt a) s') E)→
  (∀s,I (i+ds.length) s→Q .nx s)→Wp (fQ ok body ds s) Q E
 | [],i,s,h,_,last=>by
  unfold fQ
  rw [if_pos (hok _ _ h)]
  exact last s h
 | d::ds,i,s,h,step,last=>by
  unfold fQ
  rw [if_pos (hok _ _ h),ae]
  have h1:=step 0 d s rfl h
  refine h1.mono (fun fl s' hh=>?_) fun _ _ _ h=>h
  have go:I (i+1) s'→Wp (fQ ok body ds s') Q E:=fun hI=>loop_w hok hI (fun j d s e hj=>by
   have:=step (j+1) d s e (by rw [show i+(j+1)=i+1+j by omega]; exact hj)
   rw [show i+(j+1)+1=i+1+j+1 by omega] at this
   exact this) fun s hs=>last s (by rw [List.length_cons,show i+(ds.length+1)=i+1+ds.length by omega]; exact hs)
  cases fl with
  | nx=>exact go hh
  | ct=>exact go hh
  | bk=>exact hh
  | rt a=>exact hh
theorem kj {src:Src} {fz:Vl→SD→R Unit} {fb:SD→R Fl} {Q:Fl→SD→Prop} {E:XQ} (I:Nat→SD→Prop) (hN:Nl src.hs) (hok:∀i s,I i s→src.ok s) (h:I 0 s)
  (step:∀j d s,src.ds[j]? =some d→I j s→Wp ((fz (.d d) s).bind (xG fb)) (fun fl s' =>match fl with | .nx=>I (j+1) s' | .ct=>I (j+1) s' | .bk=>Q .nx s' | .rt a=>Q (.rt a) s') E)
  (last:∀s,I src.ds.length s→Q .nx s):Wp (forK fz fb src s) Q E:=by
 unfold forK
 rw [if_pos hN]
 exact loop_w (I:=I) (i:=0) hok h (fun j d s e hj=>by simp only [Nat.zero_add] at hj ⊢; exact step j d s e hj) fun s hs=>last s (by simpa using hs)
noncomputable def wW (a:Vl):Vl→SD→R Src:=fun b s2=>match s2.cont a,s2.cont b with
 | some (.lst xs),some (.lst ys)=> .ok ⟨[a,b],fun s=>s.cont a=some (.lst xs)∧s.cont b=some (.lst ys),sj xs ys⟩ s2
 | _,_=> .bad
noncomputable def zip1K (fb:SD→R Vl):Vl→SD→R Src:=fun a s1=>(aG fb s1).bind (wW a)
theorem xb:zip1K fb a s=(aG fb s).bind (wW a):=rfl
theorem e_zip:Ay fa fb s=(aG fa s).bind (zip1K fb):=by
 unfold Ay zip1K wW
 rfl
theorem wV {xs ys:List D} (h1:s.cont a=some (.lst xs)) (h2:s.cont b=some (.lst ys)):wW a b s= .ok ⟨[a,b],fun s=>s.cont a=some (.lst xs)∧s.cont b=some (.lst ys),sj xs ys⟩ s:=by
 unfold wW
 simp only [h1,h2]
def _root_.Z.Sto.tick (S:Sto):Sto:= {nx:=S.nx+1,get:=fun j=>if j=S.nx then none else S.get j}
theorem lZ {S:Sto}:(S.put i x).put i y=S.put i y:=by
 unfold Sto.put
 congr 1
 funext j
 show (if j=i then _ else if j=i then _ else _)=_
 by_cases h:j=i<;> simp [h]
theorem oZ {S:Sto}:(S.new x).put S.nx y=S.new y:=by
 unfold Sto.put Sto.new
 congr 1
 funext j
 show (if j=S.nx then _ else if j=S.nx then _ else _)=_
 by_cases h:j=S.nx<;> simp [h]
theorem bH {S:Sto}:(S.new x).get S.nx=some x:=if_pos rfl
theorem fK {S:Sto} (h:i≠S.nx):(S.new x).get i=S.get i:=if_neg h
theorem new_del {S:Sto}:(S.new x).del S.nx=S.tick:=by
 unfold Sto.del Sto.new Sto.tick
 congr 1
 funext j
 show (if j=S.nx then _ else if j=S.nx then _ else _)=_
 by_cases h:j=S.nx<;> simp [h]
theorem cF {S:Sto} (h:i≠S.nx):S.tick.get i=S.get i:=if_neg h
theorem ue {S:Sto}:SD.frz ⟨sl,S.new x⟩ (.d (.cell S.nx))= .ok x ⟨sl,S.tick⟩:=by
 rw [Bv bH,new_del]
theorem xK {S:Sto}:S.tick.nx=S.nx+1:=rfl
theorem vq {S:Sto}:(S.put i x).nx=S.nx:=rfl
theorem vA {S:Sto}:(S.new x).nx=S.nx+1:=rfl
abbrev XF:XQ:=fun _ _ _=>False
def fM (fz:Vl→SD→R Unit) (ft:SD→R Bool) (fe:SD→R Vl) (is:List Nat) (s0:SD) (p:D→Bool) (f:D→D) (d:D):Prop:=
 Wp (fz (.d d) s0) (fun _ s1=>Wp (ft s1) (fun b s2=>b=p d∧(b=true→Wp (fe s2) (fun a s3=>Wp (s3.fix a) (fun y s4=>y=f d∧s4.wipe is=s0) XF) XF)∧(b=false→s2.wipe is=s0)) XF) XF
theorem Wp.is {α:Type} {m:R α} {Q:α→SD→Prop} (h:Wp m Q XF):∃a s,m= .ok a s∧Q a s:=by
 cases m with
 | ok a s=>exact ⟨a,s,rfl,h⟩
 | ex c fs s=>exact h.elim
 | bad=>exact h.elim
theorem vF {ok:SD→Prop} {fz:Vl→SD→R Unit} {ft:SD→R Bool} {fe:SD→R Vl} {is:List Nat} {s0:SD} {p:D→Bool} {f:D→D} (h0:ok s0):∀{ds acc:List D},(∀d∈ds,fM fz ft fe is s0 p f d)→acc.length+ds.length≤sizeLine→
  iT ok fz ft fe is ds acc s0= .ok (acc++(ds.filter p).map f) s0
 | [],acc,_,_=>by
  unfold iT
  rw [if_pos h0]
  simp
 | d::ds,acc,h,hl=>by
  unfold iT
  rw [if_pos h0]
  have h1:=h d (List.mem_cons_self ..)
  unfold fM at h1
  obtain ⟨_,s1,e1,h1⟩:=h1.is
  obtain ⟨b,s2,e2,hb,h2,h3⟩:=h1.is
  rw [List.length_cons] at hl
  have ih:=fun acc hl=>vF (acc:=acc) h0 (fun d hd=>h d (List.mem_cons_of_mem _ hd)) hl
  rw [e1]
  show R.bind (R.nx (ft s1)) _=_
  rw [e2]
  cases b with
  | true=>
   obtain ⟨a,s3,e3,h4⟩:=(h2 rfl).is
   obtain ⟨y,s4,e4,hy,h5⟩:=h4.is
   show R.bind (R.nx (fe s2)) _=_
   rw [e3]
   show R.bind (s3.fix a) _=_
   rw [e4]
   show (if acc.length<sizeLine then iT ok fz ft fe is ds (acc++ [y]) (s4.wipe is) else .bad)=_
   rw [if_pos (by omega),h5,ih _ (by simp; omega),List.filter_cons_of_pos (by rw [←hb]),hy]
   simp
  | false=>
   show iT ok fz ft fe is ds acc (s2.wipe is)=_
   rw [h3 rfl,ih _ (by omega),List.filter_cons_of_neg (by rw [←hb]; decide)]
noncomputable def lcK (fz:Vl→SD→R Unit) (ft:SD→R Bool) (fe:SD→R Vl) (is:List Nat):Src→SD→R Vl:=fun src s1=>if Nl src.hs then (iT src.ok fz ft fe is src.ds [] (s1.wipe is)).nx.bind fun acc s2=> .ok (.own (.lst acc)) s2 else .bad
theorem e_lc {fi:SD→R Src} {fz:Vl→SD→R Unit} {ft:SD→R Bool} {is:List Nat}:zLc fi fz ft fa is s=(fi s).bind (lcK fz ft fa is):=rfl
theorem Nl.d1 {x:D}:Nl [.d x]:=fun e he j=>by rw [List.mem_singleton.mp he]; exact fun h=>nomatch h
theorem lc_pure {src:Src} {fz:Vl→SD→R Unit} {ft:SD→R Bool} {fe:SD→R Vl} {is:List Nat} {s1 s0:SD} (p:D→Bool) (f:D→D) (e0:s1.wipe is=s0) (hN:Nl src.hs) (h0:src.ok s0) (h:∀d∈src.ds,fM fz ft fe is s0 p f d) (hl:src.ds.length≤sizeLine):
  lcK fz ft fe is src s1= .ok (.own (.lst ((src.ds.filter p).map f))) s0:=by
 unfold lcK
 rw [if_pos hN,e0,vF h0 h (by simpa using hl)]
 rfl
theorem lc_map {src:Src} {fz:Vl→SD→R Unit} {fe:SD→R Vl} {is:List Nat} {s1 s0:SD} (f:D→D) (e0:s1.wipe is=s0) (hN:Nl src.hs) (h0:src.ok s0) (h:∀d∈src.ds,fM fz bP fe is s0 (fun _=>true) f d) (hl:src.ds.length≤sizeLine):
  lcK fz bP fe is src s1= .ok (.own (.lst (src.ds.map f))) s0:=by
 rw [lc_pure (fun _=>true) f e0 hN h0 h hl,List.filter_eq_self.mpr fun _ _=>rfl]
theorem e_yes:bP s= .ok true s:=rfl
def tO:Vl→SD→R Src:=fun a s1=>match s1.cont a with
 | some (.lst ds)=> .ok ⟨[a],fun s=>s.cont a=some (.lst ds),ds⟩ s1
 | some (.con ds)=> .ok ⟨[a],fun s=>s.cont a=some (.con ds),ds⟩ s1
 | _=> .bad
theorem e_itL:aU fa s=(fa s).bind tO:=by
 unfold aU
 rfl
theorem iV {ds:List D}:tO (.d (.lst ds)) s= .ok ⟨[.d (.lst ds)],fun _=>True,ds⟩ s:=by
 unfold tO
 simp only [gY]
theorem lB {ds:List D}:tO (.d (.con ds)) s= .ok ⟨[.d (.con ds)],fun _=>True,ds⟩ s:=by
 unfold tO
 simp only [lu]
theorem eC {ds:List D} (h:s.st.get i=some (.lst ds)):tO (.d (.cell i)) s= .ok ⟨[.d (.cell i)],fun s=>s.st.get i=some (.lst ds),ds⟩ s:=by
 unfold tO
 simp only [jt,h]
def itSK:Vl→SD→R Src:=fun a s1=>match a with
 | .d (.str z)=> .ok ⟨[a],fun _=>True,signs z⟩ s1
 | _=> .bad
theorem e_itS:zItS fa s=(fa s).bind itSK:=by
 unfold zItS
 rfl
theorem x_itS {z:Str}:itSK (.d (.str z)) s= .ok ⟨[.d (.str z)],fun _=>True,signs z⟩ s:=rfl
theorem sA {is:List Nat}:SD.wipe ⟨sl,S⟩ is=⟨eQ sl is,S⟩:=rfl
theorem lz {l:List (Option Vl)}:eQ l []=l:=rfl
theorem jH {l:List (Option Vl)} {v:Nat} {vs:List Nat}:eQ l (v::vs)=(eQ l vs).set v none:=rfl
def flv:Fl→Option Vl
 | .nx=>some (.d .non)
 | .rt (.d x)=>some (.d x)
 | .rt (.own x)=>some (.own x)
 | _=>none
theorem wZ {n:Nat} {b:SD→R Fl} {ds:List D} {fl:Fl} {s' :SD} {a:Vl} (h:b ⟨starts n ds,S⟩= .ok fl s') (e:flv fl=some a):zFn n b ds S= .ok a s' :=by
 unfold zFn
 rw [h]
 cases fl with
 | nx=>cases e; rfl
 | bk=>cases e
 | ct=>cases e
 | rt r=>cases r<;> cases e<;> rfl
theorem vL {n:Nat} {b:SD→R Fl} {ds:List D} {r:Vl} (h:Wp (b ⟨starts n ds,s.st⟩) (fun fl s' =>flv fl=some r∧s'.st=s.st) (fun _ _ _=>False)):goF (zFn n b) ds s= .ok r s:=by
 cases e:b ⟨starts n ds,s.st⟩ with
 | bad=>rw [e] at h; exact h.elim
 | ex c fs s' =>rw [e] at h; exact h.elim
 | ok fl s' =>
  rw [e] at h
  obtain ⟨h1,h2⟩:=h
  unfold goF
  rw [wZ e h1]
  show R.ok r {s with st:=s'.st}=_
  rw [h2]
theorem eW {n:Nat} {b:SD→R Fl} {ds:List D} {r:Vl} {S' :Sto} (h:Wp (b ⟨starts n ds,S⟩) (fun fl s' =>flv fl=some r∧s'.st=S') (fun _ _ _=>False)):goF (zFn n b) ds ⟨sl,S⟩= .ok r ⟨sl,S'⟩:=by
 cases e:b ⟨starts n ds,S⟩ with
 | bad=>rw [e] at h; exact h.elim
 | ex c fs s' =>rw [e] at h; exact h.elim
 | ok fl s' =>
  rw [e] at h
  obtain ⟨h1,h2⟩:=h
  unfold goF
  show (match zFn n b ds S with | .ok a s' =>R.ok a {(⟨sl,S⟩:SD) with st:=s'.st} | .ex c fs s' => .ex c fs {(⟨sl,S⟩:SD) with st:=s'.st} | .bad=> .bad)=_
  rw [wZ e h1]
  show R.ok r (⟨sl,s'.st⟩:SD)=_
  rw [h2]
end
section
variable {α:Type} {s:SD} {S:Sto} {sl:List (Option Vl)} {c f:Str} {fs:List (Str×D)} {a:Vl} {x:D} {fa:SD→R Vl} {k:α→SD→R β} {Q:α→SD→Prop} {E:XQ} {n:Nat} {b:SD→R Fl} {ds:List D}
def yk (c:Str) (_:Vl) (s:SD):R Fl:= .ex c [] s
def tu (c f:Str) (x:D) (s:SD):R Fl:= .ex c [(f,x)] s
def yj (c f:Str) (a:Vl) (s:SD):R Fl:=(s.fix a).bind (tu c f)
theorem pR:zRaise0 c fa s=(fa s).bind (yk c):=rfl
theorem x_r0:yk c a s= .ex c [] s:=rfl
theorem pQ:lA c f fa s=(fa s).bind (yj c f):=rfl
theorem x_r1:yj c f a s=(s.fix a).bind (tu c f):=rfl
theorem x_r2:tu c f x s= .ex c [(f,x)] s:=rfl
theorem uQ:(R.ex c fs s:R α).bind k= .ex c fs s:=Eq.trans rfl rfl
theorem Wp_ex:Wp (.ex c fs s:R α) Q E=E c fs s:=rfl
theorem pX:s.cont (Vl.d (.exc c fs))=some (.exc c fs):=rfl
def xfK (ok:Str→Bool) (f:Str) (s:SD):Option D→R Vl
 | some (.exc c fs)=>if ok c=true then (match bO fs f with
  | some x=> .ok (.d x) s
  | none=> .bad) else .bad
 | _=> .bad
theorem w_xf {ok:Str→Bool}:oXf ok f a s=xfK ok f s (s.cont a):=rfl
theorem xfK_ok {ok:Str→Bool} (h:ok c=true) (h2:bO fs f=some x):xfK ok f s (some (.exc c fs))=R.ok (Vl.d x) s:=by
 show (if ok c=true then _ else _)=_
 rw [if_pos h,h2]
noncomputable def isXK (m:Str→Option Bool) (kd:Bool) (s:SD):Option D→R Vl
 | some (.exc c _)=>(match m c with
  | some b=> .ok (.d (.bl b)) s
  | none=> .bad)
 | some x=>(match x.knd with
  | some _=>if kd=true then .ok (.d (.bl false)) s else .bad
  | none=> .bad)
 | none=> .bad
theorem AJ {m:Str→Option Bool} {kd:Bool}:oIsX m kd a s=isXK m kd s (s.cont a):=rfl
theorem Bl {m:Str→Option Bool} {kd r:Bool} (h:m c=some r):isXK m kd s (some (.exc c fs))=R.ok (Vl.d (.bl r)) s:=by
 show (match m c with | some b=>R.ok (Vl.d (.bl b)) s | none=>R.bad)=_
 rw [h]
theorem pB {m:Str→Option Bool}:isXK m true s (some .non)=R.ok (Vl.d (.bl false)) s:=rfl
theorem go_ex {S' :Sto} (h:Wp (b ⟨starts n ds,S⟩) (fun _ _=>False) (fun c' fs' s' =>c' =c∧fs' =fs∧s'.st=S')):goF (zFn n b) ds ⟨sl,S⟩= .ex c fs ⟨sl,S'⟩:=by
 unfold goF zFn
 cases e:b ⟨starts n ds,S⟩ with
 | bad=>rw [e] at h; exact h.elim
 | ok a s' =>rw [e] at h; exact h.elim
 | ex c' fs' s' =>
  rw [e] at h
  obtain ⟨rfl,rfl,rfl⟩:=h
  rfl
theorem try_w {m:Str→Option Bool} {i:Nat} {fb fz:SD→R Fl} {Q:Fl→SD→Prop}
  (h:Wp (fb s) Q (fun c vs s1=>(m c=some true∧Wp (fz ⟨s1.sl.set i (some (.d (.exc c vs))),s1.st⟩) (fun fl s2=>Q fl (s2.wipe [i])) (fun _ _ _=>False))∨(m c=some false∧E c vs s1))):Wp (zTry m i fb fz s) Q E:=by
 unfold zTry
 cases e:fb s with
 | bad=>rw [e] at h; exact h
 | ok a s' =>rw [e] at h; exact h
 | ex c vs s1=>
  rw [e] at h
  rcases h with ⟨h1,h2⟩ | ⟨h1,h2⟩
  ·dsimp only
   rw [h1]
   dsimp only
   cases e2:fz ⟨s1.sl.set i (some (.d (.exc c vs))),s1.st⟩ with
   | bad=>rw [e2] at h2; exact h2.elim
   | ok fl s2=>rw [e2] at h2; exact h2
   | ex c' v' s2=>rw [e2] at h2; exact h2.elim
  ·dsimp only
   rw [h1]
   exact h2
noncomputable def rg2K:List D→SD→R Src:=fun ds s1=>match ds with
 | [.int i, .int j]=>if -(2 ^ 62)≤i∧i<2 ^ 62∧ -(2 ^ 62)≤j∧j<2 ^ 62 then .ok ⟨[],fun _=>True,upTo i (j - i).toNat⟩ s1 else .bad
 | _=> .bad
theorem e_rg2 {fr:SD→R (List D)}:zRg2 fr s=(fr s).bind rg2K:=by
 unfold zRg2
 rfl
theorem x_rg2 {i j:Int}:rg2K [.int i, .int j] s=if -(2 ^ 62)≤i∧i<2 ^ 62∧ -(2 ^ 62)≤j∧j<2 ^ 62 then .ok ⟨[],fun _=>True,upTo i (j - i).toNat⟩ s else .bad:=rfl
def tryK (m:Str→Option Bool) (i:Nat) (fz:SD→R Fl):R Fl→R Fl
 | .ex c vs s1=>(match m c with
  | some true=>(match fz {s1 with sl:=s1.sl.set i (some (.d (.exc c vs)))} with
   | .ok fl s2=> .ok fl (s2.wipe [i])
   | _=> .bad)
  | some false=> .ex c vs s1
  | none=> .bad)
 | r=>r
theorem sD {x y:Str}:qV (.d (.str x)) (.d (.str y)) s=if (y.length == 0)=false∧x.length+2≤sizeLine then .ok (.own (.lst ((Txt.split x y).map .str))) s else .bad:=rfl
theorem nV {x y:Str}:mb (.d (.str x)) (.d (.str y)) s= .ok (.d (.bl (Txt.startswith x y))) s:=rfl
theorem w_str {i:Int}:oStr (.d (.int i)) s=if i.natAbs.log2<1920 then .ok (.d (.str (toString i))) s else .bad:=rfl
def tryOK (m:Str→Option Bool) (fs:SD→R Fl):R Fl→R Fl
 | .ex c vs s1=>(match m c with
  | some true=>(match fs s1 with
   | .ok fl s2=> .ok fl s2
   | _=> .bad)
  | some false=> .ex c vs s1
  | none=> .bad)
 | r=>r
theorem zz {m:Str→Option Bool} {fb fs:SD→R Fl}:zTryO m fb fs s=tryOK m fs (fb s):=by
 unfold zTryO tryOK
 rfl
theorem sG {m:Str→Option Bool} {fs:SD→R Fl} {fl:Fl}:tryOK m fs (.ok fl s)= .ok fl s:=Eq.trans rfl rfl
end
section
variable {α:Type} {a b:Vl} {x y:D} {s:SD} {S:Sto} {sl:List (Option Vl)} {f g:SD→R Fl} {fa fb fc:SD→R Vl} {fr:SD→R (List D)} {i j k:Nat}
def parK (i j:Nat):List D→SD→R Fl:=fun ds s1=>match ds with
 | [x,y]=> .ok .nx {s1 with sl:=dg [i,j] [x,y] s1.sl}
 | _=> .bad
theorem e_par:wX i j fr s=(fr s).bind (parK i j):=rfl
theorem x_par:parK i j [x,y] ⟨sl,S⟩= .ok .nx ⟨(sl.set i (some (.d x))).set j (some (.d y)),S⟩:=rfl
def par3K (i j k:Nat):List D→SD→R Fl:=fun ds s1=>match ds with
 | [x,y,z]=> .ok .nx {s1 with sl:=dg [i,j,k] [x,y,z] s1.sl}
 | _=> .bad
theorem zF:zPar3 i j k fr s=(fr s).bind (par3K i j k):=rfl
theorem xh {z:D}:par3K i j k [x,y,z] ⟨sl,S⟩= .ok .nx ⟨((sl.set i (some (.d x))).set j (some (.d y))).set k (some (.d z)),S⟩:=rfl
def BL (i:Nat) (h:Int→Int→Int) (m:Int):Vl→SD→R Fl:=fun b s1=>match b with
 | .d (.int n)=> .ok .nx {s1 with sl:=s1.sl.set i (some (.d (.int (h m n))))}
 | _=> .bad
def augK (i:Nat) (h:Int→Int→Int) (fe:SD→R Vl) (s:SD):Option (Option Vl)→R Fl
 | some (some (.d (.int m)))=>(fe s).bind (BL i h m)
 | _=> .bad
theorem zQ {h:Int→Int→Int}:zAug i h fa s=augK i h fa s s.sl[i]? :=by
 unfold zAug augK BL
 rfl
theorem jD {h:Int→Int→Int} {m:Int}:augK i h fa s (some (some (.d (.int m))))=(fa s).bind (BL i h m):=rfl
theorem qx {h:Int→Int→Int} {m n:Int}:BL i h m (.d (.int n)) ⟨sl,S⟩= .ok .nx ⟨sl.set i (some (.d (.int (h m n)))),S⟩:=rfl
noncomputable def as6K (st:D→D→D→Option D) (f:Int→Int→Int) (m:Int) (o:Vl) (z:D):Vl→SD→R Unit:=fun b s3=>match b with
 | .d (.int n)=>stO (st (.int (f m n))) o (.d z) s3
 | _=> .bad
theorem x_as6 {st:D→D→D→Option D} {h:Int→Int→Int} {m n:Int} {z:D}:as6K st h m a z (.d (.int n)) s=stO (st (.int (h m n))) a (.d z) s:=rfl
noncomputable def as5K (st:D→D→D→Option D) (f:Int→Int→Int) (fe:SD→R Vl) (o:Vl) (z:D) (s:SD):Option Int→Option V→R Unit
 | some m,some _=>(fe s).bind (as6K st f m o z)
 | _,_=> .bad
theorem Ar {st:D→D→D→Option D} {h:Int→Int→Int} {m:Int} {v:V} {z:D}:as5K st h fa a z s (some m) (some v)=(fa s).bind (as6K st h m a z):=rfl
noncomputable def as4K (g:D→D→Option Int) (st:D→D→D→Option D) (f:Int→Int→Int) (fe:SD→R Vl) (o:Vl) (i:Vl) (s:SD):Option D→R Unit:=fun c=>match i,c with
 | .d z,some c=>as5K st f fe o z s (g c z) (D.sc z)
 | _,_=> .bad
theorem Au {g:D→D→Option Int} {st:D→D→D→Option D} {h:Int→Int→Int} {z c:D}:as4K g st h fa a (.d z) s (some c)=as5K st h fa a z s (g c z) (D.sc z):=rfl
noncomputable def as2K (g:D→D→Option Int) (st:D→D→D→Option D) (f:Int→Int→Int) (fe:SD→R Vl) (o:Vl):Vl→SD→R Unit:=fun i s2=>as4K g st f fe o i s2 (s2.cont o)
theorem x_as2 {g:D→D→Option Int} {st:D→D→D→Option D} {h:Int→Int→Int}:as2K g st h fa a b s=as4K g st h fa a b s (s.cont a):=rfl
noncomputable def as1K (g:D→D→Option Int) (st:D→D→D→Option D) (f:Int→Int→Int) (fi fe:SD→R Vl):Vl→SD→R Unit:=fun o s1=>(fi s1).bind (as2K g st f fe o)
theorem x_as1 {g:D→D→Option Int} {st:D→D→D→Option D} {h:Int→Int→Int}:as1K g st h fa fb a s=(fa s).bind (as2K g st h fb a):=rfl
theorem zO {g:D→D→Option Int} {st:D→D→D→Option D} {h:Int→Int→Int}:wj g st h fa fb fc s=((fa s).bind (as1K g st h fb fc)).bind nxK:=by
 unfold wj
 congr 2
theorem gL_at {n m:Int} {ds:List D} (h:atI ds n=some (.int m)):gL (.lst ds) (.int n)=some m:=by
 unfold gL
 simp only [h]
theorem yd {n:Int}:D.sc (.int n)=some (.int n):=rfl
theorem yc {n:Str}:D.sc (.str n)=some (.str n):=rfl
noncomputable def revK (s:SD):Option D→R Vl
 | some (.lst ds)=> .ok (.own (.lst ds.reverse)) s
 | _=> .bad
theorem xw:oRevL a s=revK s (s.cont a):=by
 unfold oRevL revK
 rfl
theorem oN {ds:List D}:revK s (some (.lst ds))= .ok (.own (.lst ds.reverse)) s:=rfl
noncomputable def rvIK:Vl→SD→R Src:=fun a s1=>match s1.cont a with
 | some (.lst ds)=> .ok ⟨[a],fun s=>s.cont a=some (.lst ds),ds.reverse⟩ s1
 | _=> .bad
theorem e_rvI:zRev fa s=(fa s).bind rvIK:=rfl
theorem x_rvI {ds:List D}:rvIK (.d (.lst ds)) s= .ok ⟨[.d (.lst ds)],fun _=>True,ds.reverse⟩ s:=by
 unfold rvIK
 simp only [gY]
noncomputable def itTK:Vl→SD→R Src:=fun a s1=>match s1.cont a with
 | some (.tup ds)=> .ok ⟨[a],fun s=>s.cont a=some (.tup ds),ds⟩ s1
 | _=> .bad
theorem e_itT:zItT fa s=(fa s).bind itTK:=rfl
theorem x_itT {ds:List D}:itTK (.d (.tup ds)) s= .ok ⟨[.d (.tup ds)],fun _=>True,ds⟩ s:=by
 unfold itTK
 simp only [lj]
noncomputable def AN (s:SD):Option D→Option D→R Vl
 | some (.lst ds),some (.int i)=>if i=1 then .ok (.own (.lst ds)) s else if i= -1 then .ok (.own (.lst ds.reverse)) s else .bad
 | _,_=> .bad
theorem xt:oStep a b s=AN s (s.cont a) (s.cont b):=by
 unfold oStep AN
 rfl
theorem om {ds:List D}:AN s (some (.lst ds)) (some (.int 1))= .ok (.own (.lst ds)) s:=rfl
theorem oo {ds:List D}:AN s (some (.lst ds)) (some (.int (-1)))= .ok (.own (.lst ds.reverse)) s:=rfl
theorem vG {α:Type} {ok:SD→Prop} {fz:Vl→SD→R Unit} {ft:SD→R Bool} {fe:SD→R Vl} {is:List Nat} {s0:SD} (g h:α→D) (p:α→Bool) (h0:ok s0):∀{l:List α} {acc:List D},(∀a∈l,fM fz ft fe is s0 (fun _=>p a) (fun _=>h a) (g a))→acc.length+l.length≤sizeLine→
  iT ok fz ft fe is (l.map g) acc s0= .ok (acc++(l.filter p).map h) s0
 | [],acc,_,_=>by
  unfold iT
  show (if ok s0 then _ else _)=_
  rw [if_pos h0]
  simp
 | a::l,acc,ht,hl=>by
  rw [List.map_cons]
  unfold iT
  rw [if_pos h0]
  have h1:=ht a (List.mem_cons_self ..)
  unfold fM at h1
  obtain ⟨_,s1,e1,h1⟩:=h1.is
  obtain ⟨b,s2,e2,hb,h2,h3⟩:=h1.is
  rw [List.length_cons] at hl
  have ih:=fun acc hl=>vG g h p h0 (acc:=acc) (fun b hb=>ht b (List.mem_cons_of_mem _ hb)) hl
  rw [e1]
  show R.bind (R.nx (ft s1)) _=_
  rw [e2]
  cases b with
  | true=>
   obtain ⟨v,s3,e3,h4⟩:=(h2 rfl).is
   obtain ⟨y,s4,e4,hy,h5⟩:=h4.is
   show R.bind (R.nx (fe s2)) _=_
   rw [e3]
   show R.bind (s3.fix v) _=_
   rw [e4]
   show (if acc.length<sizeLine then iT ok fz ft fe is (l.map g) (acc++ [y]) (s4.wipe is) else .bad)=_
   rw [if_pos (by omega),h5,ih _ (by simp; omega),List.filter_cons_of_pos hb.symm,hy]
   simp
  | false=>
   show iT ok fz ft fe is (l.map g) acc (s2.wipe is)=_
   rw [h3 rfl,ih _ (by omega),List.filter_cons_of_neg (fun c=>by rw [show p a=false from hb.symm] at c; cases c)]
theorem dB {α:Type} {src:Src} {fz:Vl→SD→R Unit} {ft:SD→R Bool} {fe:SD→R Vl} {is:List Nat} {s1 s0:SD} {l:List α} (g h:α→D) (p:α→Bool) (ed:src.ds=l.map g) (e0:s1.wipe is=s0) (hN:Nl src.hs) (h0:src.ok s0) (ht:∀a∈l,fM fz ft fe is s0 (fun _=>p a) (fun _=>h a) (g a)) (hl:l.length≤sizeLine):
  lcK fz ft fe is src s1= .ok (.own (.lst ((l.filter p).map h))) s0:=by
 unfold lcK
 rw [if_pos hN,e0,ed,vG g h p h0 ht (by simpa using hl)]
 rfl
theorem dk {α:Type} {src:Src} {fz:Vl→SD→R Unit} {fe:SD→R Vl} {is:List Nat} {s1 s0:SD} {l:List α} (g h:α→D) (ed:src.ds=l.map g) (e0:s1.wipe is=s0) (hN:Nl src.hs) (h0:src.ok s0) (ht:∀a∈l,fM fz bP fe is s0 (fun _=>true) (fun _=>h a) (g a)) (hl:l.length≤sizeLine):
  lcK fz bP fe is src s1= .ok (.own (.lst (l.map h))) s0:=by
 rw [dB g h (fun _=>true) ed e0 hN h0 ht hl,List.filter_eq_self.mpr fun _ _=>rfl]
theorem tJ {i j:Int}:neK s (some (.int i)) (some (.int j))= .ok (.d (.bl (!decide (i=j)))) s:=by
 unfold neK
 simp only [zW]
theorem zx {i j:Bool}:eqK s (some (.bl i)) (some (.bl j))= .ok (.d (.bl (decide (i=j)))) s:=vX (by
 show some (decide (V.bl i=V.bl j))=_
 congr 1
 apply decide_eq_decide.mpr
 exact ⟨fun h=>by cases h; rfl,fun h=>by rw [h]⟩)
theorem tG {i j:Str}:neK s (some (.str i)) (some (.str j))= .ok (.d (.bl (!decide (i=j)))) s:=by
 unfold neK
 simp only [uE]
theorem w_max {n k:Int}:oMax (.d (.int n)) (.d (.int k)) s= .ok (.d (.int (if k > n then k else n))) s:=rfl
theorem nR {c:SD→R Bool} {f:SD→R Fl}:∀{n:Nat} {s:SD},jI c f n s≠ .bad→jI c f (n+1) s=jI c f n s
 | 0,s,h=>absurd rfl h
 | n+1,s,h=>by
  unfold jI
  unfold jI at h
  cases e:c s with
  | bad=>rfl
  | ex _ _ _=>rfl
  | ok b s1=>
   rw [e] at h
   show (if b=true then _ else _)=(if b=true then _ else _)
   have h:(if b=true then _ else _)≠R.bad:=h
   split
   ·rename_i hb
    rw [if_pos hb] at h
    cases e2:f s1 with
    | bad=>rfl
    | ex _ _ _=>rfl
    | ok fl s2=>
     rw [e2] at h
     cases fl with
     | nx=>exact nR h
     | ct=>exact nR h
     | bk=>rfl
     | rt a=>rfl
   ·rfl
theorem xq {c:SD→R Bool} {f:SD→R Fl} {n:Nat} {s:SD} (h:jI c f n s≠ .bad):∀k,jI c f (n+k) s=jI c f n s
 | 0=>rfl
 | k+1=>by
  have:=xq h k
  rw [←this] at h ⊢
  exact nR h
theorem wh_is {c:SD→R Bool} {f:SD→R Fl} {n:Nat} {s:SD} (h:jI c f n s≠ .bad):zWh c f s=jI c f n s:=by
 unfold zWh
 have hx:∃n,jI c f n s≠ .bad:=⟨n,h⟩
 rw [dif_pos hx]
 rcases Nat.le_total (choose hx) n with l | l
 ·obtain ⟨k,rfl⟩:=Nat.exists_eq_add_of_le l
  exact (xq (choose_spec hx) k).symm
 ·obtain ⟨k,e⟩:=Nat.exists_eq_add_of_le l
  rw [e]
  exact xq h k
theorem Wp.ne {α:Type} {m:R α} {Q:α→SD→Prop} {E:XQ} (h:Wp m Q E):m≠ .bad:=fun e=>by rw [e] at h; exact h
theorem whN_w {c:SD→R Bool} {f:SD→R Fl} {Q:Fl→SD→Prop} {E:XQ} {I:Nat→SD→Prop}
  (step:∀m s,I m s→Wp (c s) (fun b s1=>if b=true then Wp (f s1) (fun fl s2=>match fl with | .nx=>∃m' <m,I m' s2 | .ct=>∃m' <m,I m' s2 | .bk=>Q .nx s2 | .rt a=>Q (.rt a) s2) E else Q .nx s1) E):
  ∀(m:Nat) (s:SD),I m s→∃n,Wp (jI c f n s) Q E:=by
 intro m
 induction m using Nat.strongRecOn with
 | _ m ih=>
  intro s hI
  have h:=step m s hI
  cases e:c s with
  | bad=>rw [e] at h; exact h.elim
  | ex cc fs s1=>
   rw [e] at h
   refine ⟨1, ?_⟩
   unfold jI
   rw [e]
   exact h
  | ok b s1=>
   rw [e] at h
   have h:if b=true then _ else _:=h
   cases b with
   | false=>
    refine ⟨1, ?_⟩
    unfold jI
    rw [e]
    exact h
   | true=>
    rw [if_pos rfl] at h
    cases e2:f s1 with
    | bad=>rw [e2] at h; exact h.elim
    | ex cc fs s2=>
     rw [e2] at h
     refine ⟨1, ?_⟩
     unfold jI
     rw [e]
     show Wp (R.bind (f s1) _) Q E
     rw [e2]
     exact h
    | ok fl s2=>
     rw [e2] at h
     have go:(∃m' <m,I m' s2)→∃n,Wp (jI c f n s2) Q E:=fun ⟨m',l,hI'⟩=>ih m' l s2 hI'
     cases fl with
     | nx=>
      obtain ⟨n,hn⟩:=go h
      refine ⟨n+1, ?_⟩
      unfold jI
      rw [e]
      show Wp (R.bind (f s1) _) Q E
      rw [e2]
      exact hn
     | ct=>
      obtain ⟨n,hn⟩:=go h
      refine ⟨n+1, ?_⟩
      unfold jI
      rw [e]
      show Wp (R.bind (f s1) _) Q E
      rw [e2]
      exact hn
     | bk=>
      refine ⟨1, ?_⟩
      unfold jI
      rw [e]
      show Wp (R.bind (f s1) _) Q E
      rw [e2]
      exact h
     | rt a=>
      refine ⟨1, ?_⟩
      unfold jI
      rw [e]
      show Wp (R.bind (f s1) _) Q E
      rw [e2]
      exact h
theorem wh_w {c:SD→R Bool} {f:SD→R Fl} {Q:Fl→SD→Prop} {E:XQ} (I:Nat→SD→Prop) {m:Nat} (h:I m s)
  (step:∀m s,I m s→Wp (c s) (fun b s1=>if b=true then Wp (f s1) (fun fl s2=>match fl with | .nx=>∃m' <m,I m' s2 | .ct=>∃m' <m,I m' s2 | .bk=>Q .nx s2 | .rt a=>Q (.rt a) s2) E else Q .nx s1) E):Wp (zWh c f s) Q E:=by
 obtain ⟨n,hn⟩:=whN_w step m s h
 rw [wh_is hn.ne]
 exact hn
end
section
variable {s:SD} {sl:List (Option Vl)} {c f:Str} {a b:Vl} {x:D} {fa fv:SD→R Vl} {ds:List D} {fp:SD→R (List (Key×D))} {k:Nat} {i:Int} {z:Str}
def oO (c f:Str) (x:D) (s:SD):R Fl:=match x with
 | .lst ds=> .ex c [(f, .lst ds)] s
 | _=> .bad
def vl (c f:Str) (a:Vl) (s:SD):R Fl:=(s.fix a).bind (oO c f)
theorem pO:zRaiseL c f fa s=(fa s).bind (vl c f):=rfl
theorem x_rL1:vl c f a s=(s.fix a).bind (oO c f):=rfl
theorem x_rL2:oO c f (.lst ds) s= .ex c [(f, .lst ds)] s:=rfl
noncomputable def countK (s:SD):Option D→Option D→R Vl
 | some (.lst ds),some x=>match scs ds,x.sc with
  | some vs,some v=> .ok (.d (.int ((vs.countP fun z=>eqV z v:Nat):Int))) s
  | _,_=> .bad
 | _,_=> .bad
theorem nY:yI a b s=countK s (s.cont a) (s.cont b):=by
 unfold yI countK
 rfl
def pvK (fv:SD→R Vl) (fp:SD→R (List (Key×D))) (s:SD):Option (Option Vl)→R (List (Key×D))
 | some (some (.d x))=>match x.key with
  | some kk=>zP kk fv fp s
  | none=> .bad
 | _=> .bad
theorem e_pV:zPV k fv fp s=pvK fv fp s s.sl[k]? :=by
 unfold zPV pvK
 rfl
theorem x_pVi:pvK fv fp s (some (some (.d (.int i))))=zP (.inl i) fv fp s:=rfl
theorem x_pVs:pvK fv fp s (some (some (.d (.str z))))=zP (.inr z) fv fp s:=rfl
noncomputable def isNK (neg:Bool) (s:SD):Option D→R Vl
 | some x=>if x.box=true then .ok (.d (.bl neg)) s else .bad
 | none=> .bad
theorem iX {neg:Bool}:kB neg (.loc k) (.d .non) s=isNK neg s (s.cont (.loc k)):=by
 unfold kB isNK
 rfl
theorem lg {neg:Bool}:isNK neg s (some (.lst ds))= .ok (.d (.bl neg)) s:=rfl
end
section
variable {s:SD} {S:Sto} {sl:List (Option Vl)} {c f:Str} {a b:Vl} {x:D} {fa:SD→R Vl} {ds:List D}
def oP (c f:Str) (x:D) (s:SD):R Fl:=match x with
 | .lst ds=> .ex c [(f, .cell s.st.nx)] {s with st:=s.st.new (.lst ds)}
 | _=> .bad
def vm (c f:Str) (a:Vl) (s:SD):R Fl:=(s.fix a).bind (oP c f)
theorem pP:zRaiseC c f fa s=(fa s).bind (vm c f):=rfl
theorem x_rC1:vm c f a s=(s.fix a).bind (oP c f):=rfl
theorem x_rC2:oP c f (.lst ds) ⟨sl,S⟩= .ex c [(f, .cell S.nx)] ⟨sl,S.new (.lst ds)⟩:=rfl
def pF (c f:Str) (s:SD):Option D→R Vl
 | some (.lst ds)=> .ok (.d (.exc c [(f, .lst ds)])) s
 | _=> .bad
def pG (c f:Str) (x:D) (s:SD):R Vl:=pF c f s (s.cont (.d x))
def tW (c f:Str) (a:Vl) (s:SD):R Vl:=(s.fix a).bind (pG c f)
theorem uy:zHeldL c f fa s=(fa s).bind (tW c f):=by
 unfold zHeldL tW pG pF
 rfl
theorem x_hL1:tW c f a s=(s.fix a).bind (pG c f):=rfl
theorem x_hL2:pG c f x s=pF c f s (s.cont (.d x)):=rfl
theorem x_hL3:pF c f s (some (.lst ds))= .ok (.d (.exc c [(f, .lst ds)])) s:=rfl
noncomputable def isUK (mX mC:Str→Option Bool) (s:SD):Option D→R Vl
 | some (.exc c _)=>(match mX c with
  | some b=> .ok (.d (.bl b)) s
  | none=> .bad)
 | some (.obj c _)=>(match mC c with
  | some b=> .ok (.d (.bl b)) s
  | none=> .bad)
 | some x=>(match x.knd with
  | some _=> .ok (.d (.bl false)) s
  | none=> .bad)
 | none=> .bad
theorem w_isU {mX mC:Str→Option Bool}:oIsU mX mC a s=isUK mX mC s (s.cont a):=by
 unfold oIsU isUK
 rfl
noncomputable def kg (s:SD):Option D→R Vl
 | some (.lst ds)=>match kP ds with
  | some ks=>if ks.length≤4000 then .ok (.d (.int (M.wd ks ks.length:Nat))) s else .bad
  | none=> .bad
 | _=> .bad
theorem iW:cW a s=kg s (s.cont a):=by
 unfold cW kg
 rfl
theorem nz {ks:List Key} (h:kP ds=some ks) (nd:ks.Nodup) (few:ks.length≤4000):kg s (some (.lst ds))= .ok (.d (.int (ds.length:Nat))) s:=by
 have hl:∀{ds:List D} {ks:List Key},kP ds=some ks→ks.length=ds.length:=by
  intro ds
  induction ds with
  | nil=>intro ks h; cases h; rfl
  | cons x r ih=>
   intro ks h
   unfold kP at h
   split at h
   ·rename_i k ks' e1 e2
    cases h
    rw [List.length_cons,List.length_cons,ih e2]
   ·cases h
 unfold kg
 dsimp only
 rw [h]
 dsimp only
 rw [if_pos few,M.zY nd _ (Nat.le_refl _),hl h]
end
end Z

namespace Rs
open Z (mnL mnL_le mnL_mem)
def sm:Nat→(Nat→Int)→Int
 | 0,_=>0
 | n+1,f=>sm n f+f n
theorem aL:∀{n:Nat} {f g:Nat→Int},(∀k,k<n→f k=g k)→sm n f=sm n g
 | 0,_,_,_=>rfl
 | n+1,f,g,h=>by
  show sm n f+f n=sm n g+g n
  rw [aL fun k hk=>h k (Nat.lt_succ_of_lt hk),h n (Nat.lt_succ_self n)]
theorem vf:∀(n:Nat) (f g:Nat→Int),sm n (fun k=>f k+g k)=sm n f+sm n g
 | 0,_,_=>rfl
 | n+1,f,g=>by
  show sm n (fun k=>f k+g k)+(f n+g n)=(sm n f+f n)+(sm n g+g n)
  rw [vf n f g]; omega
theorem xT (n:Nat) (f g:Nat→Int):sm n (fun k=>f k - g k)=sm n f - sm n g:=by
 have h:=vf n (fun k=>f k - g k) g
 have e:sm n (fun k=>f k - g k+g k)=sm n f:=aL fun k _=>by omega
 omega
theorem fW:∀n:Nat,sm n (fun _=>0)=0
 | 0=>rfl
 | n+1=>by show sm n _+0=0; rw [fW n]; rfl
theorem xU {i:Nat} {x:Int}:∀{n:Nat},n≤i→sm n (fun k=>if k=i then x else 0)=0
 | 0,_=>rfl
 | n+1,h=>by
  show sm n _+(if n=i then x else 0)=0
  rw [xU (by omega),if_neg (by omega)]; rfl
theorem qD {i:Nat} {x:Int}:∀{n:Nat},i<n→sm n (fun k=>if k=i then x else 0)=x
 | 0,h=>absurd h (by omega)
 | n+1,h=>by
  show sm n _+(if n=i then x else 0)=x
  by_cases c:n=i
  ·rw [if_pos c,xU (by omega)]; omega
  ·rw [if_neg c,qD (by omega)]; omega
theorem sm_nn:∀{n:Nat} {f:Nat→Int},(∀k,k<n→0≤f k)→0≤sm n f
 | 0,_,_=>Int.le_refl 0
 | n+1,f,h=>by
  have h1:=sm_nn fun k hk=>h k (Nat.lt_succ_of_lt hk)
  have h2:=h n (Nat.lt_succ_self n)
  show 0≤sm n f+f n
  omega
theorem xV (x:Int):∀(n:Nat) (f:Nat→Int),sm n (fun k=>x*f k)=x*sm n f
 | 0,_=>by show (0:Int)=x*0; omega
 | n+1,f=>by
  show sm n (fun k=>x*f k)+x*f n=x*(sm n f+f n)
  rw [xV x n f,Int.mul_add]
abbrev As:=List (Nat×Nat)
def ta (as:As) (k:Nat):Nat:=(as.getD k (0,0)).1
def he (as:As) (k:Nat):Nat:=(as.getD k (0,0)).2
def hd (as:As) (h:Nat):Nat:=if h%2=0 then he as (h / 2) else ta as (h / 2)
def tl (as:As) (h:Nat):Nat:=if h%2=0 then ta as (h / 2) else he as (h / 2)
def tw (h:Nat):Nat:=if h%2=0 then h+1 else h - 1
theorem tw_div (h:Nat):tw h / 2=h / 2:=by unfold tw; split<;> omega
theorem tw_mod (h:Nat):tw h%2=1 - h%2:=by unfold tw; split<;> omega
theorem tw_ne (h:Nat):tw h≠h:=by unfold tw; split<;> omega
theorem AK {h n:Nat} (c:h<2*n):tw h<2*n:=by unfold tw; split<;> omega
theorem hd_tw (as:As) (h:Nat):hd as (tw h)=tl as h:=by
 unfold hd tl
 rw [tw_div,tw_mod]
 by_cases c:h%2=0
 ·rw [if_pos c,if_neg (by omega)]
 ·rw [if_neg c,if_pos (by omega)]
def iI (as:As):List Nat:=(List.range (2*as.length)).map (hd as)
def starts (as:As) (p:Nat):List Nat:=(List.range (2*as.length)).filter fun h=>decide (tl as h=p)
theorem mem_starts {as:As} {p h:Nat}:h∈starts as p↔h<2*as.length∧tl as h=p:=by
 unfold starts
 rw [List.mem_filter,List.mem_range,decide_eq_true_eq]
def rm (rs:List (Option Int)) (h:Nat):Option Int:=rs.getD h none
def kO (rs:List (Option Int)) (e:Bool) (h:Nat):Bool:=match rm rs h with
 | none=>true
 | some x=>!e&&decide (0<x)
def AsOk (as:As) (m:Nat):Prop:=∀a∈as,a.1<m∧a.2<m
theorem AsOk.at {as:As} {m k:Nat} (o:AsOk as m) (h:k<as.length):ta as k<m∧he as k<m:=by
 have e:as.getD k (0,0)=as[k]:=by rw [List.getD_eq_getElem?_getD,List.getElem?_eq_getElem h]; rfl
 unfold ta he
 rw [e]
 exact o _ (List.getElem_mem h)
theorem AsOk.hd {as:As} {m h:Nat} (o:AsOk as m) (c:h<2*as.length):Rs.hd as h<m:=by
 have:=o.at (k:=h / 2) (by omega)
 unfold Rs.hd
 split
 ·exact this.2
 ·exact this.1
theorem AsOk.tl {as:As} {m h:Nat} (o:AsOk as m) (c:h<2*as.length):Rs.tl as h<m:=by
 rw [←hd_tw]
 exact o.hd (AK c)
structure BS where
 row:List Nat
 came:Nat→Option Nat
def hst (as:As) (rs:List (Option Int)) (e:Bool) (b:BS) (h:Nat):BS:=
 if hd as h∉b.row∧kO rs e h=true then ⟨b.row++ [hd as h],fun p=>if p=hd as h then some h else b.came p⟩ else b
def pst (as:As) (rs:List (Option Int)) (e:Bool) (b:BS) (p:Nat):BS:=(starts as p).foldl (hst as rs e) b
def bfs (as:As) (rs:List (Option Int)) (e:Bool):Nat→Nat→BS→BS
 | 0,_,b=>b
 | n+1,i,b=>match b.row[i]? with
  | none=>b
  | some p=>bfs as rs e n (i+1) (pst as rs e b p)
def cP (as:As) (rs:List (Option Int)) (e:Bool) (m s:Nat):BS:=bfs as rs e m 0 ⟨[s],fun _=>none⟩
theorem An {as:As} {rs:List (Option Int)} {e:Bool} {i:Nat} {b:BS} (h:b.row.length≤i):∀n,bfs as rs e n i b=b
 | 0=>rfl
 | n+1=>by
  unfold bfs
  rw [List.getElem?_eq_none h]
theorem we {as:As} {rs:List (Option Int)} {e:Bool} {i n p:Nat} {b:BS} (h:b.row[i]? =some p):bfs as rs e (n+1) i b=bfs as rs e n (i+1) (pst as rs e b p):=by
 show (match b.row[i]? with | none=>b | some p=>bfs as rs e n (i+1) (pst as rs e b p))=_
 rw [h]
structure BOk (as:As) (rs:List (Option Int)) (e:Bool) (m s i:Nat) (b:BS):Prop where
 nd:b.row.Nodup
 lt:∀p∈b.row,p<m
 sr:s∈b.row
 cs:b.came s=none
 out:∀p,p∉b.row→b.came p=none
 inn:∀p∈b.row,p≠s→∃h,b.came p=some h∧h<2*as.length∧hd as h=p∧kO rs e h=true∧tl as h∈b.row∧b.row.idxOf (tl as h)<b.row.idxOf p
 il:i≤b.row.length
 clo:∀p∈b.row.take i,∀h,h<2*as.length→tl as h=p→kO rs e h=true→hd as h∈b.row
section
variable {as:As} {rs:List (Option Int)} {e:Bool} {m s t i p:Nat} {b:BS}
theorem BOk.init (hs:s<m):BOk as rs e m s 0 ⟨[s],fun _=>none⟩ where
 nd:=by simp
 lt:=fun p hp=>by rw [List.mem_singleton.mp hp]; exact hs
 sr:=List.mem_singleton.mpr rfl
 cs:=rfl
 out:=fun _ _=>rfl
 inn:=fun p hp hn=>absurd (List.mem_singleton.mp hp) hn
 il:=Nat.zero_le _
 clo:=fun p hp=>by simp at hp
theorem hst_ok (o:AsOk as m) (B:BOk as rs e m s i b) {h:Nat} (hh:h<2*as.length) (ht:tl as h∈b.row):
  BOk as rs e m s i (hst as rs e b h)∧b.row <+: (hst as rs e b h).row∧(kO rs e h=true→hd as h∈(hst as rs e b h).row):=by
 unfold hst
 by_cases c:hd as h∉b.row∧kO rs e h=true
 ·rw [if_pos c]
  refine ⟨⟨?_, ?_, ?_, ?_, ?_, ?_, ?_, ?_⟩,List.prefix_append _ _,fun _=>List.mem_append_right _ (List.mem_singleton.mpr rfl)⟩
  ·show (b.row++ [hd as h]).Nodup
   rw [List.nodup_append]
   refine ⟨B.nd,by simp,fun x hx y hy=>?_⟩
   rw [List.mem_singleton.mp hy]
   rintro rfl
   exact c.1 hx
  ·intro p hp
   rcases List.mem_append.mp hp with hp | hp
   ·exact B.lt p hp
   ·rw [List.mem_singleton.mp hp]; exact o.hd hh
  ·exact List.mem_append_left _ B.sr
  ·show (if s=hd as h then some h else b.came s)=none
   rw [if_neg fun q:s=hd as h=>c.1 (q ▸ B.sr)]
   exact B.cs
  ·intro p hp
   show (if p=hd as h then some h else b.came p)=none
   rw [if_neg fun q:p=hd as h=>hp (by rw [q]; exact List.mem_append_right _ (List.mem_singleton.mpr rfl))]
   exact B.out p fun q=>hp (List.mem_append_left _ q)
  ·intro p hp hn
   show∃h',(if p=hd as h then some h else b.came p)=some h'∧h' <2*as.length∧hd as h' =p∧kO rs e h' =true∧tl as h'∈b.row++ [hd as h]∧(b.row++ [hd as h]).idxOf (tl as h')<(b.row++ [hd as h]).idxOf p
   by_cases q:p=hd as h
   ·subst q
    refine ⟨h,if_pos rfl,hh,rfl,c.2,List.mem_append_left _ ht, ?_⟩
    rw [List.idxOf_append,if_pos ht,List.idxOf_append,if_neg c.1]
    have:=List.idxOf_lt_length_of_mem ht
    omega
   ·have hp:p∈b.row:=by
     rcases List.mem_append.mp hp with hp | hp
     ·exact hp
     ·exact absurd (List.mem_singleton.mp hp) q
    obtain ⟨h',e1,e2,e3,e4,e5,e6⟩:=B.inn p hp hn
    refine ⟨h',by rw [if_neg q]; exact e1,e2,e3,e4,List.mem_append_left _ e5, ?_⟩
    rw [List.idxOf_append,if_pos e5,List.idxOf_append,if_pos hp]
    exact e6
  ·show i≤(b.row++ [hd as h]).length
   rw [List.length_append]
   have:=B.il
   omega
  ·intro p hp h' e1 e2 e3
   have hp:p∈(b.row++ [hd as h]).take i:=hp
   rw [List.take_append_of_le_length B.il] at hp
   exact List.mem_append_left _ (B.clo p hp h' e1 e2 e3)
 ·rw [if_neg c]
  refine ⟨B,List.prefix_refl _,fun hl=>?_⟩
  exact Classical.byContradiction fun q=>c ⟨q,hl⟩
theorem uf (o:AsOk as m):∀{hs:List Nat} {b:BS},BOk as rs e m s i b→p∈b.row→(∀h∈hs,h<2*as.length∧tl as h=p)→
  BOk as rs e m s i (hs.foldl (hst as rs e) b)∧b.row <+: (hs.foldl (hst as rs e) b).row∧∀h∈hs,kO rs e h=true→hd as h∈(hs.foldl (hst as rs e) b).row
 | [],b,B,_,_=>⟨B,List.prefix_refl _,fun h hh=>(by cases hh)⟩
 | h::hs,b,B,hp,hh=>by
  have h0:=hh h (List.mem_cons_self ..)
  obtain ⟨B1,p1,l1⟩:=hst_ok o B h0.1 (h0.2.symm ▸ hp)
  obtain ⟨B2,p2,l2⟩:=uf o B1 (p1.subset hp) fun h' hh' =>hh h' (List.mem_cons_of_mem _ hh')
  refine ⟨B2,p1.trans p2,fun h' hh' hl=>?_⟩
  rcases List.mem_cons.mp hh' with rfl | hh'
  ·exact p2.subset (l1 hl)
  ·exact l2 h' hh' hl
theorem pst_ok (o:AsOk as m) (B:BOk as rs e m s i b) (hp:b.row[i]? =some p):BOk as rs e m s (i+1) (pst as rs e b p):=by
 obtain ⟨hi,hp⟩:=List.getElem?_eq_some_iff.mp hp
 have hm:p∈b.row:=by rw [←hp]; exact List.getElem_mem hi
 obtain ⟨B1,p1,l1⟩:=uf (hs:=starts as p) o B hm fun h hh=>mem_starts.mp hh
 refine {B1 with il:=?_,clo:=?_}
 ·exact Nat.le_trans hi p1.length_le
 ·intro q hq h e1 e2 e3
  obtain ⟨r,hr⟩:=p1
  have hq:q∈((starts as p).foldl (hst as rs e) b).row.take (i+1):=hq
  have hr2:=hr
  rw [←hr,List.take_append_of_le_length hi,List.take_succ_eq_append_getElem hi] at hq
  rcases List.mem_append.mp hq with hq | hq
  ·refine B1.clo q ?_ h e1 e2 e3
   rw [←hr2,List.take_append_of_le_length B.il]
   exact hq
  ·have hq:=List.mem_singleton.mp hq
   rw [hp] at hq
   exact l1 h (mem_starts.mpr ⟨e1,e2.trans hq⟩) e3
theorem BOk.le (B:BOk as rs e m s i b):b.row.length≤m:=by
 have h:=List.Nodup.length_le_of_subset B.nd (l₂:=List.range m) fun p hp=>List.mem_range.mpr (B.lt p hp)
 simpa using h
theorem bfs_ok (o:AsOk as m):∀(n i:Nat) (b:BS),BOk as rs e m s i b→m≤n+i→∃i',BOk as rs e m s i' (bfs as rs e n i b)∧(bfs as rs e n i b).row.length≤i'
 | 0,i,b,B,h=>⟨i,B,Nat.le_trans B.le (by omega)⟩
 | n+1,i,b,B,h=>by
  cases c:b.row[i]? with
  | none=>
   have:=List.getElem?_eq_none_iff.mp c
   rw [An this]
   exact ⟨i,B,this⟩
  | some p=>
   rw [we c]
   exact bfs_ok o n (i+1) _ (pst_ok o B c) (by omega)
structure Wk (as:As) (rs:List (Option Int)) (e:Bool) (m s:Nat) (b:BS):Prop where
 nd:b.row.Nodup
 lt:∀p∈b.row,p<m
 sr:s∈b.row
 cs:b.came s=none
 out:∀p,p∉b.row→b.came p=none
 inn:∀p∈b.row,p≠s→∃h,b.came p=some h∧h<2*as.length∧hd as h=p∧kO rs e h=true∧tl as h∈b.row∧b.row.idxOf (tl as h)<b.row.idxOf p
 clo:∀p∈b.row,∀h,h<2*as.length→tl as h=p→kO rs e h=true→hd as h∈b.row
theorem bc (o:AsOk as m) (hs:s<m):Wk as rs e m s (cP as rs e m s):=by
 obtain ⟨i,B,h⟩:=bfs_ok (rs:=rs) (e:=e) o m 0 _ (BOk.init hs) (by omega)
 exact ⟨B.nd,B.lt,B.sr,B.cs,B.out,B.inn,fun p hp=>B.clo p (by rw [List.take_of_length_le h]; exact hp)⟩
inductive Rch (as:As) (rs:List (Option Int)) (e:Bool) (s:Nat):Nat→Prop
 | base:Rch as rs e s s
 | step {h:Nat}:Rch as rs e s (tl as h)→h<2*as.length→kO rs e h=true→Rch as rs e s (hd as h)
theorem Wk.rch (W:Wk as rs e m s b):p∈b.row↔Rch as rs e s p:=by
 constructor
 ·have:∀n p,p∈b.row→b.row.idxOf p<n→Rch as rs e s p:=by
   intro n
   induction n with
   | zero=>intro p _ h; omega
   | succ n ih=>
    intro p hp hn
    by_cases c:p=s
    ·rw [c]; exact .base
    ·obtain ⟨h,e1,e2,e3,e4,e5,e6⟩:=W.inn p hp c
     rw [←e3]
     exact .step (ih _ e5 (by omega)) e2 e4
  exact fun hp=>this _ p hp (Nat.lt_succ_self _)
 ·intro h
  induction h with
  | base=>exact W.sr
  | step _ h1 h2 ih=>exact W.clo _ ih _ h1 rfl h2
def way (as:As) (came:Nat→Option Nat):Nat→Nat→List Nat
 | 0,_=> []
 | n+1,p=>match came p with
  | none=> []
  | some h=>way as came n (tl as h)++ [h]
inductive Path (as:As) (s:Nat):List Nat→Nat→Prop
 | nil:Path as s [] s
 | snoc {w:List Nat} {h:Nat}:Path as s w (tl as h)→Path as s (w++ [h]) (hd as h)
structure WayOk (as:As) (rs:List (Option Int)) (e:Bool) (s t:Nat) (w:List Nat):Prop where
 path:Path as s w t
 all:∀h∈w,h<2*as.length∧kO rs e h=true
 nd:(s::w.map (hd as)).Nodup
theorem way_ok (W:Wk as rs e m s b):∀{n p:Nat},p∈b.row→b.row.idxOf p<n→
  WayOk as rs e s p (way as b.came n p)∧∀q∈s::(way as b.came n p).map (hd as),q∈b.row∧b.row.idxOf q≤b.row.idxOf p
 | 0,p,_,h=>absurd h (by omega)
 | n+1,p,hp,hn=>by
  unfold way
  by_cases c:p=s
  ·subst c
   rw [W.cs]
   exact ⟨⟨.nil,fun _ h=>(by cases h),by simp⟩,fun q hq=>by rw [List.map_nil,List.mem_singleton] at hq; rw [hq]; exact ⟨hp,Nat.le_refl _⟩⟩
  ·obtain ⟨h,e1,e2,e3,e4,e5,e6⟩:=W.inn p hp c
   rw [e1]
   obtain ⟨O,l⟩:=way_ok W (n:=n) e5 (by omega)
   show WayOk as rs e s p (way as b.came n (tl as h)++ [h])∧∀q∈s::(way as b.came n (tl as h)++ [h]).map (hd as),q∈b.row∧b.row.idxOf q≤b.row.idxOf p
   have em:s::(way as b.came n (tl as h)++ [h]).map (hd as)=(s::(way as b.came n (tl as h)).map (hd as))++ [p]:=by
    rw [List.map_append,List.map_singleton,e3]; rfl
   rw [em]
   refine ⟨⟨?_, ?_, ?_⟩, ?_⟩
   ·have:=Path.snoc O.path
    rw [e3] at this
    exact this
   ·intro h' hh
    rcases List.mem_append.mp hh with hh | hh
    ·exact O.all h' hh
    ·rw [List.mem_singleton.mp hh]; exact ⟨e2,e4⟩
   ·rw [em,List.nodup_append]
    refine ⟨O.nd,by simp,fun x hx y hy=>?_⟩
    rw [List.mem_singleton.mp hy]
    rintro rfl
    have:=(l x hx).2
    omega
   ·intro q hq
    rcases List.mem_append.mp hq with hq | hq
    ·have:=l q hq
     exact ⟨this.1,by omega⟩
    ·rw [List.mem_singleton.mp hq]; exact ⟨hp,Nat.le_refl _⟩
def dI (as:As) (rs:List (Option Int)) (e:Bool) (m s t:Nat):List Nat:=way as (cP as rs e m s).came m t
theorem xr (o:AsOk as m) (hs:s<m) (h:t∉(cP as rs e m s).row):dI as rs e m s t= []:=by
 unfold dI
 cases m with
 | zero=>omega
 | succ n=>
  unfold way
  rw [(bc o hs).out t h]
theorem nU (o:AsOk as m) (hs:s<m) (h:t∈(cP as rs e m s).row):WayOk as rs e s t (dI as rs e m s t):=by
 have W:=bc (rs:=rs) (e:=e) o hs
 refine (way_ok W h ?_).1
 have h1:=List.idxOf_lt_length_of_mem h
 have h2:=List.Nodup.length_le_of_subset W.nd (l₂:=List.range m) fun p hp=>List.mem_range.mpr (W.lt p hp)
 rw [List.length_range] at h2
 omega
theorem WayOk.ne {w:List Nat} (W:WayOk as rs e s t w) (h:s≠t):w≠ []:=by
 intro q
 have P:=W.path
 rw [q] at P
 generalize e:([]:List Nat)=w' at P
 cases P with
 | nil=>exact h rfl
 | snoc _=>simp at e
theorem lD (o:AsOk as m) (hs:s<m) (h:s≠t):dI as rs e m s t= []↔t∉(cP as rs e m s).row:=
 ⟨fun q c=>(nU o hs c).ne h q,xr o hs⟩
theorem Path.sum {w:List Nat} (P:Path as s w t) (g:Nat→Int):(w.map fun h=>g (tl as h) - g (hd as h)).sum=g s - g t:=by
 induction P with
 | nil=>simp
 | snoc _ ih=>rw [List.map_append,List.sum_append,ih]; simp; omega
theorem Path.at {w:List Nat} (P:Path as s w t):∀{i h:Nat},w[i]? =some h→(s::w.map (hd as))[i]? =some (tl as h):=by
 have hl:∀{w:List Nat} {t:Nat},Path as s w t→(s::w.map (hd as))[w.length]? =some t:=by
  intro w t P
  cases P with
  | nil=>rfl
  | snoc P=>
   rename_i w h
   rw [List.map_append,←List.cons_append,List.getElem?_append_right (by simp)]
   simp
 induction P with
 | nil=>intro i h e; simp at e
 | snoc P ih=>
  rename_i w h
  intro i h' e
  rw [List.map_append,←List.cons_append]
  by_cases c:i<w.length
  ·rw [List.getElem?_append_left c] at e
   rw [List.getElem?_append_left (by simp; omega)]
   exact ih e
  ·rw [List.getElem?_append_right (by omega)] at e
   have hi:i=w.length:=by
    have:=(List.getElem?_eq_some_iff.mp e).1
    simp at this
    omega
   subst hi
   simp at e
   subst e
   rw [List.getElem?_append_left (by simp)]
   exact hl P
theorem Path.last {w:List Nat} (P:Path as s w t):(s::w.map (hd as))[w.length]? =some t:=by
 cases P with
 | nil=>rfl
 | snoc P=>
  rw [List.map_append,←List.cons_append,List.getElem?_append_right (by simp)]
  simp
end
theorem yg {rs:List (Option Int)} {i h:Nat} {x:Option Int} (hi:i<rs.length):rm (rs.set i x) h=if h=i then x else rm rs h:=by
 unfold rm
 rw [List.getD_eq_getElem?_getD,List.getD_eq_getElem?_getD]
 by_cases c:h=i
 ·subst c; rw [if_pos rfl,List.getElem?_set_self hi]; rfl
 ·rw [if_neg c,List.getElem?_set_ne (fun q=>c q.symm)]
def chg (rs:List (Option Int)) (h:Nat) (x:Int):List (Option Int):=
 let r1:=rs.set h ((rm rs h).map (· +(0 - x)))
 r1.set (tw h) ((rm r1 (tw h)).map (· +x))
theorem uJ (rs:List (Option Int)) (h:Nat) (x:Int):(chg rs h x).length=rs.length:=by
 unfold chg
 rw [List.length_set,List.length_set]
theorem rm_chg {rs:List (Option Int)} {n h i:Nat} {x:Int} (hl:rs.length=2*n) (hh:h<2*n):
  rm (chg rs h x) i=if i=tw h then (rm rs i).map (· +x) else if i=h then (rm rs i).map (· +(0 - x)) else rm rs i:=by
 unfold chg
 have h2:=AK hh
 have h3:=tw_ne h
 rw [yg (by rw [List.length_set]; omega),yg (by omega),yg (by omega),if_neg h3]
 by_cases c:i=tw h
 ·subst c; rw [if_pos rfl,if_pos rfl]
 ·rw [if_neg c,if_neg c]
  by_cases c2:i=h
  ·subst c2; rw [if_pos rfl]
  ·rw [if_neg c2,if_neg c2]
def push (rs:List (Option Int)) (w:List Nat) (x:Int):List (Option Int):=w.foldl (fun r h=>chg r h x) rs
structure Shift (n:Nat) (rs rs' :List (Option Int)) (f:Nat→Int):Prop where
 len:rs'.length=rs.length
 rm:∀h,h<2*n→Rs.rm rs' h=(Rs.rm rs h).map (· +(if h%2=0 then 0 - f (h / 2) else f (h / 2)))
def NN (rs:List (Option Int)):Prop:=∀h v,rm rs h=some v→0≤v
def dv (as:As) (f g:Nat→Int):Int:=sm as.length fun k=>f k*(g (ta as k) - g (he as k))
def one (h:Nat) (x:Int):Nat→Int:=fun k=>if k=h / 2 then (if h%2=0 then x else 0 - x) else 0
section
variable {as:As} {rs rs' rs2:List (Option Int)} {e:Bool} {m n s t i p h:Nat} {x a:Int} {f f' g:Nat→Int} {w:List Nat} {U:Nat→Bool}
theorem Shift.refl:Shift n rs rs (fun _=>0):=⟨rfl,fun h _=>by
 cases Rs.rm rs h with
 | none=>rfl
 | some v=>
  show some v=some (v+(if h%2=0 then 0 - 0 else 0))
  congr 1
  split<;> omega⟩
theorem Shift.trans (A:Shift n rs rs' f) (B:Shift n rs' rs2 f'):Shift n rs rs2 (fun k=>f k+f' k):=⟨B.len.trans A.len,fun h hh=>by
 rw [B.rm h hh,A.rm h hh,Option.map_map]
 congr 1
 funext v
 show v+_+_=v+_
 split<;> omega⟩
theorem Shift.none (A:Shift n rs rs' f) (hh:h<2*n):Rs.rm rs' h=Option.none↔Rs.rm rs h=Option.none:=by
 rw [A.rm h hh]
 cases Rs.rm rs h<;> simp
theorem Aa (hl:rs.length=2*n) (hh:h<2*n):Shift n rs (chg rs h x) (one h x):=⟨uJ ..,fun i hi=>by
 rw [rm_chg hl hh]
 have e1:=tw_div h
 have e2:=tw_mod h
 have h3:=tw_ne h
 unfold one
 by_cases c:i=tw h
 ·subst c
  rw [if_pos rfl,if_pos e1,e2]
  congr 1; funext v
  by_cases c2:h%2=0
  ·rw [if_neg (by omega),if_pos c2]
  ·rw [if_pos (by omega),if_neg c2]; omega
 ·rw [if_neg c]
  by_cases c2:i=h
  ·subst c2
   rw [if_pos rfl,if_pos rfl]
   congr 1; funext v
   by_cases c3:i%2=0
   ·rw [if_pos c3,if_pos c3]
   ·rw [if_neg c3,if_neg c3]
  ·have c3:¬i / 2=h / 2:=fun q=>by
    unfold tw at c
    split at c<;> omega
   rw [if_neg c2,if_neg c3]
   cases rm rs i with
   | none=>rfl
   | some v=>
    show some v=some (v+(if i%2=0 then 0 - 0 else 0))
    congr 1
    split<;> omega⟩
theorem dv_add:dv as (fun k=>f k+f' k) g=dv as f g+dv as f' g:=by
 unfold dv
 rw [←vf]
 exact aL fun k _=>Int.add_mul ..
theorem zS:dv as (fun _=>0) g=0:=by
 unfold dv
 rw [aL (g:=fun _=>0) fun k _=>Int.zero_mul _,fW]
theorem dv_one (hh:h<2*as.length):dv as (one h x) g=x*(g (tl as h) - g (hd as h)):=by
 unfold dv
 rw [aL (g:=fun k=>if k=h / 2 then x*(g (tl as h) - g (hd as h)) else 0) fun k hk=>?_,qD (by omega)]
 unfold one tl hd
 by_cases c:k=h / 2
 ·subst c
  rw [if_pos rfl,if_pos rfl]
  by_cases c2:h%2=0
  ·rw [if_pos c2,if_pos c2,if_pos c2]
  ·rw [if_neg c2,if_neg c2,if_neg c2,Int.sub_mul,Int.zero_mul,Int.mul_sub,Int.mul_sub]
   omega
 ·rw [if_neg c,if_neg c,Int.zero_mul]
def flw:List Nat→Int→Nat→Int
 | [],_,_=>0
 | h::w,x,k=>one h x k+flw w x k
theorem gR:∀{w:List Nat} {rs:List (Option Int)},rs.length=2*n→(∀h∈w,h<2*n)→Shift n rs (push rs w x) (flw w x)
 | [],rs,_,_=>Shift.refl
 | h::w,rs,hl,hw=>by
  have h1:=Aa (x:=x) hl (hw h (List.mem_cons_self ..))
  exact h1.trans (gR (w:=w) ((uJ ..).trans hl) fun h' hh=>hw h' (List.mem_cons_of_mem _ hh))
theorem dv_flw:∀{w:List Nat},(∀h∈w,h<2*as.length)→dv as (flw w x) g=x*(w.map fun h=>g (tl as h) - g (hd as h)).sum
 | [],_=>by
  rw [List.map_nil,List.sum_nil,Int.mul_zero]
  exact zS
 | h::w,hw=>by
  show dv as (fun k=>one h x k+flw w x k) g=_
  rw [dv_add,dv_one (hw h (List.mem_cons_self ..)),dv_flw fun h' hh=>hw h' (List.mem_cons_of_mem _ hh),List.map_cons,List.sum_cons,Int.mul_add]
theorem yv:∀{w:List Nat} {rs:List (Option Int)} {i:Nat} {v v' :Int},rs.length=2*n→0≤x→(∀h∈w,h<2*n)→rm rs i=some v→rm (push rs w x) i=some v'→v - x*(w.count i:Nat)≤v'
 | [],rs,i,v,v',_,_,_,e1,e2=>by
  have e2:rm rs i=some v' :=e2
  rw [e1] at e2
  cases e2
  rw [List.count_nil]
  show v - x*0≤v
  omega
 | h::w,rs,i,v,v',hl,hx,hw,e1,e2=>by
  have e2:rm (push (chg rs h x) w x) i=some v' :=e2
  have hh:=hw h (List.mem_cons_self ..)
  have ih:=fun u eu=>yv (w:=w) (rs:=chg rs h x) (i:=i) (v:=u) ((uJ ..).trans hl) hx (fun h' hh=>hw h' (List.mem_cons_of_mem _ hh)) eu e2
  have e3:=rm_chg (i:=i) (x:=x) hl hh
  rw [e1] at e3
  have h3:=tw_ne h
  rw [List.count_cons]
  by_cases c:i=tw h
  ·rw [if_pos c] at e3
   have h1:=ih _ e3
   rw [if_neg (by rw [beq_iff_eq]; exact fun q=>h3 (c.symm.trans q.symm))]
   have:v+x - x*(w.count i:Nat)≤v' :=h1
   show v - x*((w.count i+0:Nat):Int)≤v'
   rw [Nat.add_zero]
   omega
  ·rw [if_neg c] at e3
   by_cases c2:i=h
   ·rw [if_pos c2] at e3
    have h1:=ih _ e3
    rw [if_pos (by rw [beq_iff_eq]; exact c2.symm)]
    have h1:v+(0 - x) - x*(w.count i:Nat)≤v' :=h1
    have:x*((w.count i+1:Nat):Int)=x*(w.count i:Nat)+x:=by rw [Int.natCast_add,Int.mul_add]; show _+x*1=_; rw [Int.mul_one]
    rw [this]
    omega
   ·rw [if_neg c2] at e3
    have h1:=ih _ e3
    rw [if_neg (by rw [beq_iff_eq]; exact fun q=>c2 q.symm),Nat.add_zero]
    exact h1
def bo (rs:List (Option Int)) (w:List Nat):Int:=match w.filterMap (rm rs) with
 | []=>0
 | i::is=>mnL i is
theorem yM {v:Int} (hh:h∈w) (e:rm rs h=some v):bo rs w≤v:=by
 have:v∈w.filterMap (rm rs):=List.mem_filterMap.mpr ⟨h,hh,e⟩
 unfold bo
 cases c:w.filterMap (rm rs) with
 | nil=>rw [c] at this; cases this
 | cons i is=>
  rw [c] at this
  have h1:=mnL_le is i
  rcases List.mem_cons.mp this with rfl | q
  ·exact h1.1
  ·exact h1.2 v q
theorem wB (hw:∃h∈w,rm rs h≠none):∃h∈w,rm rs h=some (bo rs w):=by
 obtain ⟨h,hh,e⟩:=hw
 obtain ⟨v,e⟩:=Option.ne_none_iff_exists'.mp e
 have:v∈w.filterMap (rm rs):=List.mem_filterMap.mpr ⟨h,hh,e⟩
 suffices hs:bo rs w∈w.filterMap (rm rs) by
  obtain ⟨h',h1,h2⟩:=List.mem_filterMap.mp hs
  exact ⟨h',h1,h2⟩
 unfold bo
 cases c:w.filterMap (rm rs) with
 | nil=>rw [c] at this; cases this
 | cons i is=>
  rcases mnL_mem is i with q | q
  ·show mnL i is∈i::is
   rw [q]; exact List.mem_cons_self ..
  ·exact List.mem_cons_of_mem _ q
theorem vD {v:Int} (h1:kO rs false h=true) (h2:rm rs h=some v):0<v:=by
 unfold kO at h1
 rw [h2] at h1
 simpa using h1
theorem jg (h1:kO rs true h=true):rm rs h=none:=by
 unfold kO at h1
 cases c:rm rs h with
 | none=>rfl
 | some v=>rw [c] at h1; simp at h1
theorem gu (h1:rm rs h=none):kO rs e h=true:=by
 unfold kO
 rw [h1]
def ind (U:Nat→Bool) (p:Nat):Int:=if U p=true then 1 else 0
def cut (as:As) (U:Nat→Bool) (rs:List (Option Int)):Int:=sm as.length fun k=>
 if U (ta as k)=true then (if U (he as k)=true then 0 else (rm rs (2*k)).getD 0) else if U (he as k)=true then (rm rs (2*k+1)).getD 0 else 0
def Fin (as:As) (U:Nat→Bool) (rs:List (Option Int)):Prop:=∀h,h<2*as.length→U (tl as h)=true→U (hd as h)=false→rm rs h≠none
theorem tl_even {k:Nat}:tl as (2*k)=ta as k∧hd as (2*k)=he as k:=by
 unfold tl hd
 rw [if_pos (by omega),if_pos (by omega),show 2*k / 2=k by omega]
 exact ⟨rfl,rfl⟩
theorem tl_odd {k:Nat}:tl as (2*k+1)=he as k∧hd as (2*k+1)=ta as k:=by
 unfold tl hd
 rw [if_neg (by omega),if_neg (by omega),show (2*k+1) / 2=k by omega]
 exact ⟨rfl,rfl⟩
theorem Shift.even (A:Shift n rs rs' f) {k:Nat} (h:k<n):Rs.rm rs' (2*k)=(Rs.rm rs (2*k)).map (· +(0 - f k)):=by
 rw [A.rm _ (by omega),if_pos (by omega),show 2*k / 2=k by omega]
theorem Shift.odd (A:Shift n rs rs' f) {k:Nat} (h:k<n):Rs.rm rs' (2*k+1)=(Rs.rm rs (2*k+1)).map (· +f k):=by
 rw [A.rm _ (by omega),if_neg (by omega),show (2*k+1) / 2=k by omega]
theorem zX (A:Shift as.length rs rs' f) (F:Fin as U rs):cut as U rs' =cut as U rs - dv as f (ind U):=by
 unfold cut dv
 rw [←xT]
 refine aL fun k hk=>?_
 unfold ind
 have e1:=A.even hk
 have e2:=A.odd hk
 have f1:=F (2*k) (by omega)
 have f2:=F (2*k+1) (by omega)
 rw [tl_even.1,tl_even.2] at f1
 rw [tl_odd.1,tl_odd.2] at f2
 cases c1:U (ta as k) with
 | true=>
  simp only [if_true]
  cases c2:U (he as k) with
  | true=>simp
  | false=>
   have f1:=f1 c1 c2
   simp only [Bool.false_eq_true,if_false]
   rw [e1]
   cases c3:rm rs (2*k) with
   | none=>exact absurd c3 f1
   | some v=>show v+(0 - f k)=v - f k*1; omega
 | false=>
  simp only [Bool.false_eq_true,if_false]
  cases c2:U (he as k) with
  | true=>
   have f2:=f2 c2 c1
   rw [if_pos rfl,if_pos rfl,if_pos rfl,e2]
   cases c3:rm rs (2*k+1) with
   | none=>exact absurd c3 f2
   | some v=>show v+f k=v - f k*(0 - 1); omega
  | false=>simp
theorem zg (N:NN rs) (h:Nat):0≤(rm rs h).getD 0:=by
 cases c:rm rs h with
 | none=>exact Int.le_refl 0
 | some v=>exact N h v c
theorem cut_nn (N:NN rs):0≤cut as U rs:=sm_nn fun k _=>by
 have h1:=zg N (2*k)
 have h2:=zg N (2*k+1)
 (repeat' split)<;> omega
theorem Fin.shift (A:Shift as.length rs rs' f) (F:Fin as U rs):Fin as U rs' :=fun h hh h1 h2 q=>F h hh h1 h2 ((A.none hh).mp q)
theorem Fin.back (A:Shift as.length rs rs' f) (F:Fin as U rs'):Fin as U rs:=fun h hh h1 h2 q=>F h hh h1 h2 ((A.none hh).mpr q)
def Full (as:As) (U:Nat→Bool) (rs:List (Option Int)):Prop:=∀h,h<2*as.length→U (tl as h)=true→U (hd as h)=false→rm rs h=some 0
theorem Full.fin (F:Full as U rs):Fin as U rs:=fun h hh h1 h2 q=>by rw [F h hh h1 h2] at q; cases q
theorem Full.cut (F:Full as U rs):Rs.cut as U rs=0:=by
 unfold Rs.cut
 rw [aL (g:=fun _=>0) fun k hk=>?_,fW]
 have f1:=F (2*k) (by omega)
 have f2:=F (2*k+1) (by omega)
 rw [tl_even.1,tl_even.2] at f1
 rw [tl_odd.1,tl_odd.2] at f2
 cases c1:U (ta as k) with
 | true=>
  rw [if_pos rfl]
  cases c2:U (he as k) with
  | true=>rw [if_pos rfl]
  | false=>rw [if_neg (by decide),f1 c1 c2]; rfl
 | false=>
  rw [if_neg (by decide)]
  cases c2:U (he as k) with
  | true=>rw [if_pos rfl,f2 c2 c1]; rfl
  | false=>rw [if_neg (by decide)]
def cz (as:As) (rs:List (Option Int)) (e:Bool) (m s:Nat) (p:Nat):Bool:=decide (p∈(cP as rs e m s).row)
theorem AV (o:AsOk as m) (hs:s<m):Fin as (cz as rs true m s) rs:=fun h hh h1 h2 q=>by
 have W:=bc (rs:=rs) (e:=true) o hs
 have:=W.clo _ (of_decide_eq_true h1) h hh rfl (gu q)
 exact of_decide_eq_false h2 this
theorem xZ (o:AsOk as m) (hs:s<m) (N:NN rs):Full as (cz as rs false m s) rs:=fun h hh h1 h2=>by
 have W:=bc (rs:=rs) (e:=false) o hs
 have h3:=W.clo _ (of_decide_eq_true h1) h hh rfl
 have h4:kO rs false h≠true:=fun q=>of_decide_eq_false h2 (h3 q)
 cases c:rm rs h with
 | none=>exact absurd (gu c) h4
 | some v=>
  have h5:=N h v c
  unfold kO at h4
  rw [c] at h4
  have:¬0<v:=fun q=>h4 (by simpa using q)
  congr 1
  omega
theorem qE (o:AsOk as m) (hs:s<m):cz as rs e m s s=true:=decide_eq_true (bc o hs).sr
inductive Lift (as:As) (m s t:Nat):List (Option Int)→List (Option Int)→Int→Prop
 | done {rs:List (Option Int)}:dI as rs false m s t= []→Lift as m s t rs rs 0
 | step {rs rs' :List (Option Int)} {a:Int}:dI as rs false m s t≠ []→Lift as m s t (push rs (dI as rs false m s t) (bo rs (dI as rs false m s t))) rs' a→Lift as m s t rs rs' (bo rs (dI as rs false m s t)+a)
theorem Lift.uniq {a' :Int} (A:Lift as m s t rs rs' a):Lift as m s t rs rs2 a'→rs' =rs2∧a=a' :=by
 induction A generalizing rs2 a' with
 | done h=>
  intro B
  cases B with
  | done _=>exact ⟨rfl,rfl⟩
  | step h2 _=>exact absurd h h2
 | step h _ ih=>
  intro B
  cases B with
  | done h2=>exact absurd h2 h
  | step _ B=>
   obtain ⟨h1,h2⟩:=ih B
   exact ⟨h1,by rw [h2]⟩
structure Good (as:As) (m s t:Nat) (rs:List (Option Int)):Prop where
 ok:AsOk as m
 len:rs.length=2*as.length
 nn:NN rs
 hs:s<m
 ht:t<m
 ne:s≠t
 fin:t∉(cP as rs true m s).row
structure Flown (as:As) (s t:Nat) (rs rs' :List (Option Int)) (f:Nat→Int) (a:Int):Prop where
 sh:Shift as.length rs rs' f
 nn:NN rs'
 dv:∀g,Rs.dv as f g=a*(g s - g t)
 a0:0≤a
theorem Flown.refl (N:NN rs):Flown as s t rs rs (fun _=>0) 0:=⟨.refl,N,fun g=>by rw [zS,Int.zero_mul],Int.le_refl 0⟩
theorem Flown.trans {b:Int} (A:Flown as s t rs rs' f a) (B:Flown as s t rs' rs2 f' b):Flown as s t rs rs2 (fun k=>f k+f' k) (a+b):=
 ⟨A.sh.trans B.sh,B.nn,fun g=>by rw [dv_add,A.dv,B.dv,Int.add_mul],by have:=A.a0; have:=B.a0; omega⟩
theorem vk (sh:Shift as.length rs rs' f) (h:Rch as rs' true s p):Rch as rs true s p:=by
 induction h with
 | base=>exact .base
 | step _ h1 h2 ih=>exact .step ih h1 (gu ((sh.none h1).mp (jg h2)))
theorem Good.shift (G:Good as m s t rs) (A:Flown as s t rs rs' f a):Good as m s t rs' :=
 ⟨G.ok,A.sh.len.trans G.len,A.nn,G.hs,G.ht,G.ne,fun q=>G.fin ((bc G.ok G.hs).rch.mpr (vk A.sh ((bc G.ok G.hs).rch.mp q)))⟩
theorem Flown.cut (A:Flown as s t rs rs' f a) (F:Fin as U rs) (h1:U s=true) (h2:U t=false):Rs.cut as U rs' =Rs.cut as U rs - a:=by
 rw [zX A.sh F,A.dv]
 unfold ind
 rw [h1,h2,if_pos rfl,if_neg (by decide)]
 show _=_ - a
 omega
theorem vt (P:Path as s w p) (h:∀h∈w,h<2*as.length∧rm rs h=none):Rch as rs true s p:=by
 induction P with
 | nil=>exact .base
 | snoc P ih=>
  rename_i w h'
  have h1:=h h' (List.mem_append_right _ (List.mem_singleton.mpr rfl))
  exact .step (ih fun h'' hh=>h h'' (List.mem_append_left _ hh)) h1.1 (gu h1.2)
theorem ka (G:Good as m s t rs) (W:WayOk as rs false s t w):Flown as s t rs (push rs w (bo rs w)) (flw w (bo rs w)) (bo rs w)∧0<bo rs w:=by
 have hw:∀h∈w,h<2*as.length:=fun h hh=>(W.all h hh).1
 have hf:∃h∈w,rm rs h≠none:=Classical.byContradiction fun q=>G.fin ((bc G.ok G.hs).rch.mpr (vt W.path fun h hh=>⟨hw h hh,Classical.byContradiction fun q2=>q ⟨h,hh,q2⟩⟩))
 obtain ⟨h0,hh0,e0⟩:=wB hf
 have hp:0<bo rs w:=vD (W.all h0 hh0).2 e0
 have sh:=gR (x:=bo rs w) G.len hw
 refine ⟨⟨sh,fun i v e=>?_,fun g=>?_,Int.le_of_lt hp⟩,hp⟩
 ·by_cases c:i<2*as.length
  ·have e1:=sh.rm i c
   rw [e] at e1
   cases c2:rm rs i with
   | none=>rw [c2] at e1; cases e1
   | some u=>
    have h1:=yv G.len (Int.le_of_lt hp) hw c2 e
    have hn:w.Nodup:=by
     have:=(List.nodup_cons.mp W.nd).2
     exact List.Pairwise.of_map (hd as) (fun a b q r=>q (by rw [r])) this
    by_cases c3:i∈w
    ·have h2:=yM c3 c2
     rw [List.Nodup.count hn,if_pos c3] at h1
     have h1:u - bo rs w*1≤v:=h1
     omega
    ·rw [List.count_eq_zero_of_not_mem c3] at h1
     have h1:u - bo rs w*0≤v:=h1
     have:=G.nn i u c2
     omega
  ·have:rm (push rs w (bo rs w)) i=none:=by
    unfold rm
    rw [List.getD_eq_getElem?_getD,List.getElem?_eq_none (by rw [sh.len,G.len]; omega)]; rfl
   rw [this] at e; cases e
 ·rw [dv_flw hw,W.path.sum]
theorem Lift.flown (L:Lift as m s t rs rs' a) (G:Good as m s t rs):∃f,Flown as s t rs rs' f a∧t∉(cP as rs' false m s).row:=by
 induction L with
 | done h=>exact ⟨_, .refl G.nn,(lD G.ok G.hs G.ne).mp h⟩
 | step h _ ih=>
  rename_i rs rs' a _
  have hm:t∈(cP as rs false m s).row:=Classical.byContradiction fun q=>h ((lD G.ok G.hs G.ne).mpr q)
  obtain ⟨A,_⟩:=ka G (nU G.ok G.hs hm)
  obtain ⟨f,B,q⟩:=ih (G.shift A)
  exact ⟨_,A.trans B,q⟩
noncomputable def todo (as:As) (m s:Nat) (rs:List (Option Int)):Nat:=(cut as (cz as rs true m s) rs).toNat
theorem xY (sh:Shift as.length rs rs' f) (o:AsOk as m) (hs:s<m):cz as rs' true m s=cz as rs true m s:=by
 funext p
 unfold cz
 refine decide_eq_decide.mpr ?_
 rw [(bc o hs).rch,(bc o hs).rch]
 refine ⟨vk sh,fun h=>?_⟩
 induction h with
 | base=>exact .base
 | step _ h1 h2 ih=>exact .step ih h1 (gu ((sh.none h1).mpr (jg h2)))
theorem todo_lt (G:Good as m s t rs) (A:Flown as s t rs rs' f a) (h:0<a):todo as m s rs' <todo as m s rs:=by
 unfold todo
 rw [xY A.sh G.ok G.hs]
 have h1:=A.cut (AV G.ok G.hs) (qE G.ok G.hs) (decide_eq_false G.fin)
 have h2:=cut_nn (as:=as) (U:=cz as rs true m s) A.nn
 omega
theorem nS (G:Good as m s t rs) (h:dI as rs false m s t≠ []):WayOk as rs false s t (dI as rs false m s t):=
 nU G.ok G.hs (Classical.byContradiction fun q=>h ((lD G.ok G.hs G.ne).mpr q))
end
end Rs

namespace Rs
def dl (p:Nat):Nat→Int:=fun q=>if q=p then 1 else 0
section
variable {as:As} {f g:Nat→Int} {n m k p:Nat}
theorem xW (F:Nat→Nat→Int) (n:Nat):∀m,sm m (fun p=>sm n fun k=>F p k)=sm n fun k=>sm m fun p=>F p k
 | 0=>by show (0:Int)=sm n fun _=>0; rw [fW]
 | m+1=>by
  show sm m (fun p=>sm n fun k=>F p k)+sm n (fun k=>F m k)=_
  rw [xW F n m,←vf]
  rfl
theorem dl_sum (g:Nat→Int) {q:Nat} (hq:q<m):sm m (fun p=>g p*dl p q)=g q:=by
 rw [aL (g:=fun p=>if p=q then g q else 0) fun p _=>?_,qD hq]
 unfold dl
 by_cases c:p=q
 ·subst c; rw [if_pos rfl,if_pos rfl,Int.mul_one]
 ·rw [if_neg c,if_neg fun e=>c e.symm,Int.mul_zero]
theorem dv_pts (o:AsOk as m):dv as f g=sm m fun p=>g p*dv as f (dl p):=by
 unfold dv
 rw [aL (n:=m) (g:=fun p=>sm as.length fun k=>f k*(g p*dl p (ta as k) - g p*dl p (he as k))) fun p _=>?_,xW]
 ·refine aL fun k hk=>?_
  rw [xV,xT,dl_sum g (o.at hk).1,dl_sum g (o.at hk).2]
 ·rw [←xV]
  refine aL fun k _=>?_
  rw [←Int.mul_assoc,Int.mul_comm (g p) (f k),Int.mul_assoc,Int.mul_sub]
end
structure Ro where
 t:Nat
 h:Nat
 l:Int
 u:Option Int
def roA (rows:List Ro):As:=rows.map fun r=>(r.t,r.h)
def roR (rows:List Ro):List (Option Int):=rows.flatMap fun r=> [r.u.map (· - r.l),some 0]
def ro0:Ro:=⟨0,0,0,none⟩
def lo (rows:List Ro) (k:Nat):Int:=(rows.getD k ro0).l
def up (rows:List Ro) (k:Nat):Option Int:=(rows.getD k ro0).u
structure RoOk (r:Ro) (m:Nat):Prop where
 t:r.t<m
 h:r.h<m
 n:r.t≠r.h
 b:∀x,r.u=some x→r.l≤x
def wan (rows:List Ro) (p:Nat):Int:=0 - dv (roA rows) (lo rows) (dl p)
section
variable {rows:List Ro} {rs' :List (Option Int)} {f g φ w:Nat→Int} {m k p j:Nat} {a x:Int}
def exa (w:Nat→Int) (m p:Nat):As:=if 0<w p then [(m,p)] else if w p<0 then [(p,m+1)] else []
def exr (w:Nat→Int) (p:Nat):List (Option Int):=if 0<w p then [some (w p),some 0] else if w p<0 then [some (0 - w p),some 0] else []
def exA (w:Nat→Int) (m:Nat):Nat→As
 | 0=> []
 | j+1=>exA w m j++exa w m j
def exR (w:Nat→Int):Nat→List (Option Int)
 | 0=> []
 | j+1=>exR w j++exr w j
def capE (w:Nat→Int) (j k:Nat):Int:=(rm (exR w j) (2*k)).getD 0
def pos (w:Nat→Int) (j:Nat):Int:=sm j fun p=>if 0<w p then w p else 0
def neg (w:Nat→Int) (j:Nat):Int:=sm j fun p=>if w p<0 then w p else 0
def fullA (rows:List Ro) (m:Nat):As:=roA rows++exA (wan rows) m m
def fullR (rows:List Ro) (m:Nat):List (Option Int):=roR rows++exR (wan rows) m
def dueOf (rows:List Ro) (m:Nat):Int:=pos (wan rows) m
def capF (rows:List Ro) (m k:Nat):Int:=if k<rows.length then 0 else (rm (fullR rows m) (2*k)).getD 0
structure Circ (rows:List Ro) (m:Nat) (φ:Nat→Int):Prop where
 lo:∀k,k<rows.length→lo rows k≤φ k
 up:∀k,k<rows.length→∀x,up rows k=some x→φ k≤x
 ev:∀p,p<m→dv (roA rows) φ (dl p)=0
theorem Circ.all (C:Circ rows m φ) (o:AsOk (roA rows) m):dv (roA rows) φ g=0:=by
 rw [dv_pts o,aL (g:=fun _=>0) fun p hp=>by rw [C.ev p hp,Int.mul_zero],fW]
section
variable (o:∀r∈rows,RoOk r m) (A:Flown (fullA rows m) m (m+1) (fullR rows m) rs' f a)
include o A
end
end
end Rs

namespace Ap
section
variable {ta he:Nat→Nat} {s t p k:Nat} {l w left:List Nat} {g:Nat→Int}
def dvL (ta he:Nat→Nat) (l:List Nat) (g:Nat→Int):Int:=(l.map fun k=>g (ta k) - g (he k)).sum
inductive Trail (ta he:Nat→Nat) (s:Nat):List Nat→Nat→Prop
 | nil:Trail ta he s [] s
 | snoc {w:List Nat} {k:Nat}:Trail ta he s w (ta k)→Trail ta he s (w++ [k]) (he k)
theorem Trail.snoc' {q:Nat} (T:Trail ta he s w p) (e:ta k=p) (e2:he k=q):Trail ta he s (w++ [k]) q:=by
 subst e; subst e2; exact .snoc T
theorem uB {l l' :List Nat}:dvL ta he (l++l') g=dvL ta he l g+dvL ta he l' g:=by
 unfold dvL; rw [List.map_append,List.sum_append]
theorem vY {l l' :List Nat} (h:l.Perm l'):dvL ta he l g=dvL ta he l' g:=by
 unfold dvL
 induction h with
 | nil=>rfl
 | cons x _ ih=>simp only [List.map_cons,List.sum_cons,ih]
 | swap x y l=>simp only [List.map_cons,List.sum_cons]; omega
 | trans _ _ a b=>exact a.trans b
theorem Trail.dv (T:Trail ta he s w p):dvL ta he w g=g s - g p:=by
 induction T with
 | nil=>show (0:Int)=_; omega
 | snoc T ih=>rw [uB,ih]; unfold dvL; simp; omega
def pt (p q:Nat):Int:=if q=p then 1 else 0
theorem dvL_le (h:∀k∈l,ta k≠p):dvL ta he l (pt p)≤0:=by
 induction l with
 | nil=>exact Int.le_refl 0
 | cons k l ih=>
  have i:=ih fun j hj=>h j (List.mem_cons_of_mem _ hj)
  have h0:=h k (List.mem_cons_self ..)
  unfold dvL at i ⊢
  rw [List.map_cons,List.sum_cons]
  have e1:pt p (ta k)=0:=if_neg h0
  have e2:0≤pt p (he k):=by unfold pt; split<;> omega
  omega
theorem dvL_ge (h:∀k∈l,he k≠p):0≤dvL ta he l (pt p)∧((∃k∈l,ta k=p)→1≤dvL ta he l (pt p)):=by
 induction l with
 | nil=>exact ⟨Int.le_refl 0,fun ⟨_,h,_⟩=>(by cases h)⟩
 | cons k l ih=>
  obtain ⟨i,j⟩:=ih fun j hj=>h j (List.mem_cons_of_mem _ hj)
  have h0:=h k (List.mem_cons_self ..)
  unfold dvL at i j ⊢
  rw [List.map_cons,List.sum_cons]
  have e1:pt p (he k)=0:=if_neg h0
  have e2:0≤pt p (ta k):=by unfold pt; split<;> omega
  refine ⟨by omega,fun ⟨q,hq,e⟩=>?_⟩
  rcases List.mem_cons.mp hq with rfl | hq
  ·have e3:pt p (ta q)=1:=if_pos e
   omega
  ·have:=j ⟨q,hq,e⟩
   omega
theorem Bz (h:∀k∈l,he k≠p) (h2:∀k∈l,ta k≠p):dvL ta he l (pt p)=0:=by
 have:=dvL_le (he:=he) h2
 have:=(dvL_ge (ta:=ta) h).1
 omega
structure Use (ta he:Nat→Nat) (s t:Nat) (l:List Nat) (b:Int):Prop where
 nd:l.Nodup
 dv:∀g,dvL ta he l g=b*(g s - g t)
 no:∀k∈l,he k≠s
 ne:s≠t
theorem Use.more (U:Use ta he s t l b) (h:∃k∈l,ta k=s):1≤b:=by
 have h1:=(dvL_ge U.no).2 h
 rw [U.dv] at h1
 have e1:pt s s=1:=if_pos rfl
 have e2:pt s t=0:=if_neg fun e=>U.ne e.symm
 rw [e1,e2] at h1
 omega
theorem Use.done (U:Use ta he s t l b) (h:∀k∈l,ta k≠s):b=0:=by
 have h1:=Bz U.no h
 rw [U.dv] at h1
 have e1:pt s s=1:=if_pos rfl
 have e2:pt s t=0:=if_neg fun e=>U.ne e.symm
 rw [e1,e2] at h1
 omega
theorem Use.on (U:Use ta he s t l b) (hb:1≤b) (P:(left++w).Perm l) (T:Trail ta he s w p) (hp:p≠t):∃k∈left,ta k=p:=by
 refine Classical.byContradiction fun q=>?_
 have h1:dvL ta he left (pt p)≤0:=dvL_le fun k hk e=>q ⟨k,hk,e⟩
 have h2:=U.dv (pt p)
 rw [←vY P,uB,T.dv] at h2
 have e1:pt p p=1:=if_pos rfl
 have e2:pt p t=0:=if_neg fun e=>hp e.symm
 rw [e1,e2] at h2
 have e3:pt p s=0∨pt p s=1:=by unfold pt; split<;> simp
 rcases e3 with e3 | e3<;> rw [e3] at h2<;> omega
theorem Use.next (U:Use ta he s t l b) (P:(left++w).Perm l) (T:Trail ta he s w t):Use ta he s t left (b - 1) where
 nd:=(List.nodup_append.mp (P.nodup_iff.mpr U.nd)).1
 dv:=fun g=>by
  have h2:=U.dv g
  rw [←vY P,uB,T.dv] at h2
  rw [Int.sub_mul]
  omega
 no:=fun k hk=>U.no k (P.mem_iff.mp (List.mem_append_left _ hk))
 ne:=U.ne
theorem perm_take {k:Nat} (h:k∈left) (P:(left++w).Perm l):(left.erase k++(w++ [k])).Perm l:=by
 refine List.Perm.trans ?_ P
 rw [←List.append_assoc]
 refine List.Perm.trans List.perm_append_comm ?_
 show (k::(left.erase k++w)).Perm _
 rw [←List.cons_append]
 exact List.Perm.append_right _ (List.perm_cons_erase h).symm
inductive Take (ta he:Nat→Nat) (go:Nat):List Nat→List Nat→Nat→List Nat→List Nat→Prop
 | done {left w:List Nat}:Take ta he go left w go left w
 | step {left w l' w' :List Nat} {p k:Nat}:p≠go→(left.filter fun k=>decide (ta k=p))[0]? =some k→Take ta he go (left.erase k) (w++ [k]) (he k) l' w'→Take ta he go left w p l' w'
theorem Take.uniq {l1 w1 l2 w2:List Nat} {go:Nat} (A:Take ta he go left w p l1 w1):Take ta he go left w p l2 w2→l1=l2∧w1=w2:=by
 induction A with
 | done=>
  intro B
  cases B with
  | done=>exact ⟨rfl,rfl⟩
  | step h _ _=>exact absurd rfl h
 | step h e _ ih=>
  intro B
  cases B with
  | done=>exact absurd rfl h
  | step _ e2 B=>
   rw [e] at e2
   cases e2
   exact ih B
def stp (he:Nat→Nat) (s:Nat) (found:List Nat) (k:Nat):List Nat:=
 if he k∈s::found.map he then found.take ((s::found.map he).idxOf (he k)) else found++ [k]
def sho (he:Nat→Nat) (s:Nat) (w:List Nat):List Nat:=w.foldl (stp he s) []
theorem Trail.end (T:Trail ta he s w p):(s::w.map he)[w.length]? =some p:=by
 cases T with
 | nil=>rfl
 | snoc T=>
  rw [List.map_append,←List.cons_append,List.getElem?_append_right (by simp)]
  simp
theorem Trail.take (T:Trail ta he s w p):∀{i q:Nat},(s::w.map he)[i]? =some q→Trail ta he s (w.take i) q:=by
 induction T with
 | nil=>
  intro i q h
  cases i with
  | zero=>cases h; exact .nil
  | succ i=>cases h
 | snoc T ih=>
  rename_i w k
  intro i q h
  by_cases c:i≤w.length
  ·rw [List.take_append_of_le_length c]
   refine ih ?_
   rw [List.map_append,←List.cons_append,List.getElem?_append_left (by simp; omega)] at h
   exact h
  ·rw [List.take_of_length_le (by simp; omega)]
   have hl:=(List.getElem?_eq_some_iff.mp h).1
   simp at hl
   have e:i=(w++ [k]).length:=by simp; omega
   have h2:=(Trail.snoc T).end
   rw [←e,h] at h2
   cases h2
   exact .snoc T
inductive Out (ta he:Nat→Nat) (st go:Nat):List Nat→List (List Nat)→Prop
 | done {left:List Nat}:st∉left.map ta→Out ta he st go left []
 | step {left l' w:List Nat} {ws:List (List Nat)}:st∈left.map ta→Take ta he go left [] st l' w→Out ta he st go l' ws→Out ta he st go left (sho he st w::ws)
theorem Out.uniq {st go:Nat} {ws ws' :List (List Nat)} (A:Out ta he st go left ws):Out ta he st go left ws'→ws=ws' :=by
 induction A generalizing ws' with
 | done h=>
  intro B
  cases B with
  | done _=>rfl
  | step h2 _ _=>exact absurd h2 h
 | step h t _ ih=>
  intro B
  cases B with
  | done h2=>exact absurd h h2
  | step _ t2 B=>
   obtain ⟨rfl,rfl⟩:=t.uniq t2
   rw [ih B]
structure Sho (ta he:Nat→Nat) (s:Nat) (w f:List Nat) (p:Nat):Prop where
 tr:Trail ta he s f p
 nd:(s::f.map he).Nodup
 sub:f.Sublist w
theorem stp_ok {f:List Nat} (h:Sho ta he s w f (ta k)):Sho ta he s (w++ [k]) (stp he s f k) (he k):=by
 unfold stp
 by_cases c:he k∈s::f.map he
 ·rw [if_pos c]
  have hi:=List.idxOf_lt_length_of_mem c
  refine ⟨h.tr.take ?_, ?_, ?_⟩
  ·rw [List.getElem?_eq_getElem hi,List.getElem_idxOf]
  ·have hs:(s::(f.take ((s::f.map he).idxOf (he k))).map he).Sublist (s::f.map he):=List.Sublist.cons_cons _ ((List.take_sublist _ _).map _)
   exact hs.nodup h.nd
  ·exact (List.take_sublist _ _).trans (h.sub.trans (List.sublist_append_left ..))
 ·rw [if_neg c]
  refine ⟨.snoc h.tr, ?_,h.sub.append (List.Sublist.refl _)⟩
  rw [List.map_append,←List.cons_append]
  refine List.nodup_append.mpr ⟨h.nd,by simp, ?_⟩
  intro a ha b hb
  simp at hb
  subst hb
  intro e
  subst e
  exact c ha
theorem xX (T:Trail ta he s w p):Sho ta he s w (sho he s w) p:=by
 induction T with
 | nil=>exact ⟨.nil,by simp [sho],List.Sublist.refl _⟩
 | snoc T ih=>
  unfold sho at ih ⊢
  rw [List.foldl_append]
  exact stp_ok ih
theorem vd {he:Nat→Nat} {s:Nat}:∀{W:List (List Nat)},(∀w∈W,(sho he s w).Sublist w)→((W.map (sho he s)).flatten).Sublist W.flatten
 | [],_=>List.Sublist.refl _
 | w::W,h=>by
  rw [List.map_cons,List.flatten_cons,List.flatten_cons]
  exact (h w (List.mem_cons_self ..)).append (vd fun w hw=>h w (List.mem_cons_of_mem _ hw))
structure Ways (ta he:Nat→Nat) (s t:Nat) (used:List Nat) (ws:List (List Nat)):Prop where
 tr:∀w∈ws,Trail ta he s w t
 nd:∀w∈ws,(s::w.map he).Nodup
 ap:ws.flatten.Nodup
 us:∀k∈ws.flatten,k∈used
theorem ways_of {used:List Nat} {W:List (List Nat)} (hu:used.Nodup) (hW:∀w∈W,Trail ta he s w t) (P:(left++W.flatten).Perm used):Ways ta he s t used (W.map (sho he s)):=by
 have sub:=vd (he:=he) (s:=s) fun w hw=>(xX (hW w hw)).sub
 refine ⟨fun w hw=>?_,fun w hw=>?_, ?_,fun k hk=>?_⟩
 ·obtain ⟨v,hv,rfl⟩:=List.mem_map.mp hw
  exact (xX (hW v hv)).tr
 ·obtain ⟨v,hv,rfl⟩:=List.mem_map.mp hw
  exact (xX (hW v hv)).nd
 ·exact sub.nodup (List.nodup_append.mp (P.nodup_iff.mpr hu)).2.1
 ·exact P.mem_iff.mp (List.mem_append_right _ (sub.subset hk))
theorem Trail.ne_nil (T:Trail ta he s w t) (h:s≠t):w≠ []:=fun e=>by
 have:=T.end
 rw [e] at this
 cases this
 exact h rfl
theorem uD {x:List Nat} {y:Nat} (h:(s::x).Nodup) (e:(s::x)[x.length]? =some y) (hn:s≠y):∀z∈x.dropLast,z≠y∧z≠s:=by
 intro z hz
 have hx:x≠ []:=fun e2=>by rw [e2] at hz; cases hz
 have hl:x.getLast hx=y:=by
  rw [List.getLast_eq_getElem]
  have hp:=List.length_pos_iff.mpr hx
  have e1:(s::x)[x.length]? =x[x.length - 1]? :=by
   rw [show x.length=(x.length - 1)+1 by omega,List.getElem?_cons_succ]
   congr 1
  rw [e1,List.getElem?_eq_getElem (by omega)] at e
  exact Option.some.inj e
 have h2:=(List.nodup_cons.mp h).2
 have h1:=(List.nodup_cons.mp h).1
 have e3:=List.dropLast_concat_getLast hx
 rw [hl] at e3
 rw [←e3] at h2
 have h4:=(List.nodup_append.mp h2).2.2
 exact ⟨h4 z hz y (List.mem_singleton.mpr rfl),fun e=>h1 (e ▸ List.dropLast_subset x hz)⟩
theorem Ways.inner {used:List Nat} {ws:List (List Nat)} (W:Ways ta he s t used ws) (hn:s≠t) (once:∀k j,k∈used→j∈used→he k=he j→he k≠t→k=j):
  ((ws.map fun w=>(w.map he).dropLast).flatten).Nodup∧∀p∈(ws.map fun w=>(w.map he).dropLast).flatten,p≠t∧p≠s:=by
 have key:∀w∈ws,∀z∈(w.map he).dropLast,z≠t∧z≠s:=fun w hw=>by
  have e:=(W.tr w hw).end
  refine uD (W.nd w hw) ?_ hn
  rw [List.length_map]
  exact e
 refine ⟨?_,fun p hp=>?_⟩
 ·have e:(ws.map fun w=>(w.map he).dropLast).flatten=((ws.map List.dropLast).flatten).map he:=by
   rw [List.map_flatten,List.map_map]
   congr 1
   refine List.map_congr_left fun w _=>?_
   show (w.map he).dropLast=w.dropLast.map he
   rw [List.map_dropLast]
  have sub:((ws.map List.dropLast).flatten).Sublist ws.flatten:=by
   clear W key e once
   induction ws with
   | nil=>exact List.Sublist.refl _
   | cons w ws ih=>rw [List.map_cons,List.flatten_cons,List.flatten_cons]; exact (List.dropLast_sublist w).append ih
  rw [e]
  refine List.pairwise_map.mpr ((sub.nodup W.ap).imp_of_mem fun {k j} hk hj ne q=>ne ?_)
  refine once k j (W.us k (sub.subset hk)) (W.us j (sub.subset hj)) q ?_
  obtain ⟨v,hv,hk2⟩:=List.mem_flatten.mp hk
  obtain ⟨w,hw,rfl⟩:=List.mem_map.mp hv
  exact (key w hw (he k) (by rw [←List.map_dropLast]; exact List.mem_map.mpr ⟨k,hk2,rfl⟩)).1
 ·obtain ⟨v,hv,hp2⟩:=List.mem_flatten.mp hp
  obtain ⟨w,hw,rfl⟩:=List.mem_map.mp hv
  exact key w hw p hp2
end
end Ap

namespace Rs
section
variable {as:As} {rs rs' :List (Option Int)} {us:List (Option Int)} {u:Option Int} {m s t k h i:Nat} {a c x:Int} {f g:Nat→Int} {w:List Nat}
def rsB (us:List (Option Int)):List (Option Int):=us.flatMap fun u=> [u,some 0]
theorem tq:rsB (us++ [u])=rsB us++ [u,some 0]:=by
 unfold rsB; rw [List.flatMap_append]; rfl
theorem jV:(rsB us).length=2*us.length:=by
 induction us with
 | nil=>rfl
 | cons u us ih=>
  have e:(rsB (u::us)).length=2+(rsB us).length:=by unfold rsB; rw [List.flatMap_cons,List.length_append]; rfl
  rw [e,ih,List.length_cons]; omega
theorem lY:∀{us:List (Option Int)} {k:Nat},k<us.length→rm (rsB us) (2*k)=us.getD k none∧rm (rsB us) (2*k+1)=some 0
 | [],k,h=>absurd h (by simp)
 | u::us,0,_=>⟨rfl,rfl⟩
 | u::us,k+1,h=>by
  have ih:=lY (us:=us) (k:=k) (by simpa using h)
  unfold rm at ih ⊢
  have e:∀j,(rsB (u::us)).getD (j+2) none=(rsB us).getD j none:=fun j=>rfl
  rw [show 2*(k+1)=2*k+2 by omega,show 2*k+2+1=2*k+1+2 by omega,e,e]
  exact ⟨ih.1,ih.2⟩
theorem AX (h:2*us.length≤i):rm (rsB us) i=none:=by
 unfold rm
 rw [List.getD_eq_getElem?_getD,List.getElem?_eq_none (by rw [jV]; exact h)]
 rfl
theorem rsB_nn (h:∀k c,us.getD k none=some c→0≤c):NN (rsB us):=fun i v e=>by
 by_cases q:i<2*us.length
 ·obtain ⟨e1,e2⟩:=lY (us:=us) (k:=i / 2) (by omega)
  by_cases z:i%2=0
  ·rw [show 2*(i / 2)=i by omega,e] at e1
   exact h (i / 2) v e1.symm
  ·rw [show 2*(i / 2)+1=i by omega,e] at e2
   cases e2
   exact Int.le_refl 0
 ·rw [AX (by omega)] at e
  cases e
theorem vR:∀{w:List Nat},(∀h∈w,h / 2≠k)→flw w x k=0
 | [],_=>rfl
 | h::w,q=>by
  show one h x k+flw w x k=0
  rw [vR fun j hj=>q j (List.mem_cons_of_mem _ hj)]
  unfold one
  rw [if_neg fun e=>q h (List.mem_cons_self ..) e.symm]
  rfl
theorem yT (L:Lift as m s t rs rs' a) (G:Good as m s t rs) (hk:k<as.length) (e:he as k=s) (z:rm rs (2*k+1)=some 0):rm rs' (2*k+1)=some 0:=by
 induction L with
 | done _=>exact z
 | step h _ ih=>
  rename_i rs rs' a _
  have W:=nS G h
  obtain ⟨A,_⟩:=ka G W
  refine ih (G.shift A) ?_
  have hw:∀h∈dI as rs false m s t,h / 2≠k:=fun h hh q=>by
   have nd:=(List.nodup_cons.mp W.nd).1
   by_cases c:h%2=0
   ·refine nd (List.mem_map.mpr ⟨h,hh, ?_⟩)
    unfold hd
    rw [if_pos c,q,e]
   ·have h2:=(W.all h hh).2
    have e1:h=2*k+1:=by omega
    rw [e1] at h2
    have:=vD h2 z
    omega
  rw [A.sh.odd hk,z,vR hw]
  rfl
theorem dv_sum:dv as f g=sm as.length fun k=>f k*(g (ta as k) - g (he as k)):=rfl
structure Lifted (as:As) (us:List (Option Int)) (m s t:Nat) (rs' :List (Option Int)) (f:Nat→Int) (a:Int):Prop where
 len:rs'.length=2*as.length
 bk:∀k,k<as.length→rm rs' (2*k+1)=some (f k)
 f0:∀k,k<as.length→0≤f k
 fu:∀k c,k<as.length→us.getD k none=some c→f k≤c
 dv:∀g,Rs.dv as f g=a*(g s - g t)
 a0:0≤a
 ss:cz as rs' false m s s=true
 ut:cz as rs' false m s t=false
 out:∀k,k<as.length→cz as rs' false m s (ta as k)=true→cz as rs' false m s (he as k)=false→us.getD k none=some (f k)
 inn:∀k,k<as.length→cz as rs' false m s (ta as k)=false→cz as rs' false m s (he as k)=true→f k=0
 src:∀k,k<as.length→he as k=s→f k=0
theorem good_B (o:AsOk as m) (hl:us.length=as.length) (hn:∀k c,us.getD k none=some c→0≤c) (hs:s<m) (ht:t<m) (ne:s≠t) (hf:t∉(cP as (rsB us) true m s).row):Good as m s t (rsB us):=
 ⟨o,by rw [jV,hl],rsB_nn hn,hs,ht,ne,hf⟩
theorem ro (hl:us.length=as.length) (G:Good as m s t (rsB us)) (L:Lift as m s t (rsB us) rs' a):∃f,Lifted as us m s t rs' f a:=by
 obtain ⟨f,F,q⟩:=L.flown G
 have e1:∀k,k<as.length→rm rs' (2*k+1)=some (f k):=fun k hk=>by
  rw [F.sh.odd hk,(lY (by omega)).2]
  show some (0+f k)=_
  rw [Int.zero_add]
 have e2:∀k,k<as.length→rm rs' (2*k)=(us.getD k none).map (· +(0 - f k)):=fun k hk=>by
  rw [F.sh.even hk,(lY (by omega)).1]
 have fl:=xZ (rs:=rs') G.ok G.hs F.nn
 refine ⟨f,F.sh.len.trans G.len,e1,fun k hk=>F.nn _ _ (e1 k hk),fun k c hk e=>?_,F.dv,F.a0,qE G.ok G.hs,decide_eq_false q,fun k hk g1 h2=>?_,fun k hk h1 h2=>?_,fun k hk e=>?_⟩
 ·have h1:=e2 k hk
  rw [e] at h1
  have:0≤c+(0 - f k):=F.nn _ _ h1
  omega
 ·have h1:=fl (2*k) (by omega)
  rw [tl_even.1,tl_even.2,e2 k hk] at h1
  have h1:=h1 g1 h2
  cases c:us.getD k none with
  | none=>rw [c] at h1; cases h1
  | some v=>
   rw [c] at h1
   have h1:some (v+(0 - f k))=some 0:=h1
   have:=Option.some.inj h1
   congr 1
   omega
 ·have h3:=fl (2*k+1) (by omega)
  rw [tl_odd.1,tl_odd.2,e1 k hk] at h3
  exact Option.some.inj (h3 h2 h1)
 ·have:=yT L G hk e (lY (by omega)).2
  rw [e1 k hk] at this
  exact Option.some.inj this
theorem Lifted.all (L:Lifted as us m s t rs' f a):a=sm as.length fun k=>if cz as rs' false m s (ta as k)=true then (if cz as rs' false m s (he as k)=true then 0 else f k) else 0:=by
 have h:=L.dv (ind (cz as rs' false m s))
 have e1:ind (cz as rs' false m s) s=1:=if_pos L.ss
 have e2:ind (cz as rs' false m s) t=0:=if_neg (by rw [L.ut]; decide)
 rw [e1,e2] at h
 rw [show a=a*(1 - 0) by omega,←h,dv_sum]
 refine aL fun k hk=>?_
 unfold ind
 cases c1:cz as rs' false m s (ta as k) with
 | true=>
  cases c2:cz as rs' false m s (he as k) with
  | true=>simp
  | false=>simp
 | false=>
  cases c2:cz as rs' false m s (he as k) with
  | true=>rw [L.inn k hk c1 c2]; simp
  | false=>simp
theorem lO {P:Nat→Bool} (x:Nat→Int):∀n:Nat,sm n (fun k=>if P k=true then x k else 0)=(((List.range n).filter P).map x).sum
 | 0=>rfl
 | n+1=>by
  show sm n _+(if P n=true then x n else 0)=_
  rw [lO x n,List.range_succ,List.filter_append,List.map_append,List.sum_append]
  congr 1
  by_cases c:P n=true
  ·rw [if_pos c,List.filter_cons_of_pos c]; simp
  ·rw [if_neg c,List.filter_cons_of_neg c]; rfl
theorem ve {P:Nat→Bool} (n:Nat):sm n (fun k=>if P k=true then 1 else 0)=(((List.range n).filter P).length:Int):=by
 rw [lO (fun _=>1) n]
 induction (List.range n).filter P with
 | nil=>rfl
 | cons y l ih=>rw [List.map_cons,List.sum_cons,ih,List.length_cons]; omega
end
end Rs

namespace Ap
open Rs
section
variable {as tl:As} {us:List (Option Int)} {rs' :List (Option Int)} {m n s t k j p q T:Nat} {a c:Int} {f g:Nat→Int}
theorem ot (n:Nat) (F:Nat→Int):∀T:Nat,sm (n+T) F=sm n F+sm T fun j=>F (n+j)
 | 0=>by show sm n F=sm n F+0; omega
 | T+1=>by
  show sm (n+T) F+F (n+T)=sm n F+(sm T _+F (n+T))
  rw [ot n F T]; omega
theorem lN {F:Nat→Int}:∀{n:Nat},(∀k,k<n→0≤F k)→k<n→F k≤sm n F
 | 0,_,h=>absurd h (by omega)
 | n+1,h,hk=>by
  have h0:=sm_nn (n:=n) fun k hk=>h k (by omega)
  have h1:=h n (by omega)
  show F k≤sm n F+F n
  by_cases c:k=n
  ·subst c; omega
  ·have:=lN (n:=n) (F:=F) (fun k hk=>h k (by omega)) (by omega:k<n)
   omega
theorem sm_two {F:Nat→Int}:∀{n:Nat},(∀k,k<n→0≤F k)→k<n→j<n→k≠j→F k+F j≤sm n F
 | 0,_,h,_,_=>absurd h (by omega)
 | n+1,h,hk,hj,ne=>by
  have h0:∀k,k<n→0≤F k:=fun k hk=>h k (by omega)
  show F k+F j≤sm n F+F n
  by_cases c:k=n
  ·subst c
   have:=lN h0 (by omega:j<k)
   omega
  ·by_cases d:j=n
   ·subst d
    have:=lN h0 (by omega:k<j)
    omega
   ·have:=sm_two h0 (by omega:k<n) (by omega:j<n) ne
    have:=h n (by omega)
    omega
theorem yZ {P:Prop} [Decidable P] {x:Int} (h:0≤x):0≤if P then x else 0:=by split; exact h; exact Int.le_refl 0
def usedF (f:Nat→Int) (n:Nat):List Nat:=(List.range n).filter fun k=>decide (0<f k)
theorem mem_used:k∈usedF f n↔k<n∧0<f k:=by
 unfold usedF
 rw [List.mem_filter,List.mem_range,decide_eq_true_eq]
theorem xC:(usedF f n).Nodup:=List.nodup_range.filter _
theorem xD {ta he:Nat→Nat} (h1:∀k,k<n→f k=0∨f k=1):dvL ta he (usedF f n) g=sm n fun k=>f k*(g (ta k) - g (he k)):=by
 unfold dvL usedF
 rw [←lO]
 refine aL fun k hk=>?_
 rcases h1 k hk with e | e
 ·rw [if_neg (by rw [decide_eq_true_eq]; omega),e,Int.zero_mul]
 ·rw [if_pos (by rw [decide_eq_true_eq]; omega),e,Int.one_mul]
theorem ties_use (L:Lifted as us m s t rs' f a) (hu:∀k,k<as.length→us.getD k none=some 1) (ne:s≠t):Use (ta as) (he as) s t (usedF f as.length) a where
 nd:=xC
 dv:=fun g=>by
  rw [xD fun k hk=>by have:=L.f0 k hk; have:=L.fu k 1 hk (hu k hk); omega]
  exact L.dv g
 no:=fun k hk e=>by
  have h:=mem_used.mp hk
  have:=L.src k h.1 e
  omega
 ne:=ne
def wallT (as:As) (U:Nat→Bool):List Nat:=(List.range as.length).filter fun k=>U (ta as k)&&!U (he as k)
theorem ties_wall (L:Lifted as us m s t rs' f a) (hu:∀k,k<as.length→us.getD k none=some 1):a=(wallT as (cz as rs' false m s)).length:=by
 unfold wallT
 rw [L.all,←ve]
 refine aL fun k hk=>?_
 have h:=L.out k hk
 rw [hu k hk] at h
 cases c1:cz as rs' false m s (ta as k) with
 | true=>
  cases c2:cz as rs' false m s (he as k) with
  | true=>simp
  | false=>
   have:=Option.some.inj (h c1 c2)
   simp [←this]
 | false=>simp
theorem ties_fin (hl:us.length=as.length) (hu:∀k,k<as.length→us.getD k none=some 1) (o:AsOk as m) (hs:s<m) (ne:s≠t):t∉(cP as (rsB us) true m s).row:=fun h=>by
 have R:=(bc o hs).rch.mp h
 have:∀p,Rch as (rsB us) true s p→p=s:=fun p R=>by
  induction R with
  | base=>rfl
  | step _ h1 h2 _=>
   rename_i h _ _
   have h3:=jg h2
   obtain ⟨e1,e2⟩:=lY (us:=us) (k:=h / 2) (by omega)
   by_cases z:h%2=0
   ·rw [show 2*(h / 2)=h by omega,h3,hu _ (by omega)] at e1
    cases e1
   ·rw [show 2*(h / 2)+1=h by omega,h3] at e2
    cases e2
 exact ne (this t R).symm
def asP (n:Nat) (tl:As):As:=(List.range n).map (fun p=>(p,n+p))++tl.map fun q=>(n+q.1,q.2)
def usP (n s t T:Nat):List (Option Int):=(List.range n).map (fun p=>if p=s∨p=t then none else some 1)++List.replicate T none
theorem asP_len:(asP n tl).length=n+tl.length:=by unfold asP; simp
theorem usP_len:(usP n s t T).length=n+T:=by unfold usP; simp
theorem kL (h:p<n):ta (asP n tl) p=p∧he (asP n tl) p=n+p:=by
 unfold ta he asP
 rw [List.getD_eq_getElem?_getD,List.getElem?_append_left (by simpa using h),List.getElem?_map,List.getElem?_range h]
 exact ⟨rfl,rfl⟩
theorem eP (h:j<tl.length):ta (asP n tl) (n+j)=n+ta tl j∧he (asP n tl) (n+j)=he tl j:=by
 unfold ta he asP
 rw [List.getD_eq_getElem?_getD,List.getElem?_append_right (by simp),List.getElem?_map,List.length_map,List.length_range,show n+j - n=j by omega,List.getD_eq_getElem?_getD,List.getElem?_eq_getElem h]
 exact ⟨rfl,rfl⟩
theorem uU (h:p<n):(usP n s t T).getD p none=if p=s∨p=t then none else some 1:=by
 unfold usP
 rw [List.getD_eq_getElem?_getD,List.getElem?_append_left (by simpa using h),List.getElem?_map,List.getElem?_range h]
 rfl
theorem xE:(usP n s t T).getD (n+j) none=none:=by
 unfold usP
 rw [List.getD_eq_getElem?_getD,List.getElem?_append_right (by simp),List.length_map,List.length_range,List.getElem?_replicate]
 split<;> rfl
structure PlOk (n:Nat) (tl:As) (s t:Nat):Prop where
 ok:AsOk tl n
 ne:∀j,j<tl.length→ta tl j≠he tl j
 hs:s<n
 ht:t<n
 st:s≠t
 no:∀j,j<tl.length→ta tl j=s→he tl j≠t
variable (O:PlOk n tl s t)
include O
theorem PlOk.asok:AsOk (asP n tl) (2*n):=fun q hq=>by
 unfold asP at hq
 rcases List.mem_append.mp hq with hq | hq
 ·obtain ⟨p,hp,rfl⟩:=List.mem_map.mp hq
  have:=List.mem_range.mp hp
  exact ⟨by show p<_; omega,by show n+p<_; omega⟩
 ·obtain ⟨r,hr,rfl⟩:=List.mem_map.mp hq
  obtain ⟨h1,h2⟩:=O.ok r hr
  exact ⟨by show n+r.1<_; omega,by show r.2<_; omega⟩
theorem PlOk.fin:t∉(cP (asP n tl) (rsB (usP n s t tl.length)) true (2*n) s).row:=fun h=>by
 have hs:=O.hs
 have ht:=O.ht
 have R:=(bc O.asok (by omega)).rch.mp h
 have key:∀p,Rch (asP n tl) (rsB (usP n s t tl.length)) true s p→p=s∨p=n+s∨∃j,j<tl.length∧ta tl j=s∧he tl j=p:=fun p R=>by
  induction R with
  | base=>exact .inl rfl
  | step _ h1 h2 ih=>
   rename_i h _
   rw [asP_len] at h1
   have h3:=jg h2
   obtain ⟨e1,e2⟩:=lY (us:=usP n s t tl.length) (k:=h / 2) (by rw [usP_len]; omega)
   by_cases z:h%2=0
   ·rw [show 2*(h / 2)=h by omega,h3] at e1
    unfold Rs.tl at ih
    unfold Rs.hd
    rw [if_pos z] at ih ⊢
    by_cases c:h / 2<n
    ·rw [(kL c).1] at ih
     rw [(kL c).2]
     rw [uU c] at e1
     have e3:h / 2=s∨h / 2=t:=Classical.byContradiction fun q=>by rw [if_neg q] at e1; cases e1
     rcases ih with ih | ih | ⟨j,hj,j1,j2⟩
     ·exact .inr (.inl (by rw [ih]))
     ·omega
     ·rcases e3 with e3 | e3
      ·exact absurd (j1.trans (e3.symm.trans j2.symm)) (O.ne j hj)
      ·exact absurd (j2.trans e3) (O.no j hj j1)
    ·obtain ⟨d,hd⟩:∃d,h / 2=n+d:=⟨h / 2 - n,by omega⟩
     rw [hd] at ih ⊢
     have hdl:d<tl.length:=by omega
     rw [(eP hdl).1] at ih
     rw [(eP hdl).2]
     rcases ih with ih | ih | ⟨j,hj,j1,j2⟩
     ·omega
     ·exact .inr (.inr ⟨d,hdl,by omega,rfl⟩)
     ·have:=(O.ok.at hj).2
      omega
   ·rw [show 2*(h / 2)+1=h by omega,h3] at e2
    cases e2
 rcases key t R with e | e | ⟨j,hj,j1,j2⟩
 ·exact O.st e.symm
 ·omega
 ·exact O.no j hj j1 j2
theorem PlOk.nn:∀k c,(usP n s t tl.length).getD k none=some c→(0:Int)≤c:=fun k c e=>by
 by_cases h:k<n
 ·rw [uU h] at e
  split at e
  ·cases e
  ·cases e; decide
 ·obtain ⟨d,rfl⟩:∃d,k=n+d:=⟨k - n,by omega⟩
  rw [xE] at e
  cases e
theorem PlOk.good:Good (asP n tl) (2*n) s t (rsB (usP n s t tl.length)):=
 good_B O.asok (by rw [usP_len,asP_len]) O.nn (by have:=O.hs; omega) (by have:=O.ht; omega) O.st O.fin
theorem PlOk.dv:Rs.dv (asP n tl) f g=sm n (fun p=>f p*(g p - g (n+p)))+sm tl.length (fun j=>f (n+j)*(g (n+ta tl j) - g (he tl j))):=by
 rw [dv_sum,asP_len,ot]
 congr 1
 ·refine aL fun p hp=>?_
  rw [(kL hp).1,(kL hp).2]
 ·refine aL fun j hj=>?_
  rw [(eP hj).1,(eP hj).2]
variable (L:Lifted (asP n tl) (usP n s t tl.length) (2*n) s t rs' f a)
include L
theorem PlOk.out (hp:p<n):sm tl.length (fun j=>if ta tl j=p then f (n+j) else 0)=f p:=by
 have h:=L.dv (pt (n+p))
 have hs:=O.hs
 have ht:=O.ht
 rw [O.dv,show pt (n+p) s=0 from if_neg (by omega),show pt (n+p) t=0 from if_neg (by omega),Int.sub_self,Int.mul_zero] at h
 rw [aL (n:=n) (g:=fun q=>if q=p then 0 - f p else 0) fun q hq=>?_,qD hp,aL (n:=tl.length) (g:=fun j=>if ta tl j=p then f (n+j) else 0) fun j hj=>?_] at h
 ·omega
 ·have:=(O.ok.at hj).2
  rw [show pt (n+p) (he tl j)=0 from if_neg (by omega)]
  unfold pt
  by_cases c:ta tl j=p
  ·rw [if_pos (by omega),if_pos c]; omega
  ·rw [if_neg (by omega),if_neg c]; omega
 ·rw [show pt (n+p) q=0 from if_neg (by omega)]
  unfold pt
  by_cases c:q=p
  ·rw [if_pos (by omega),if_pos c,c]; omega
  ·rw [if_neg (by omega),if_neg c]; omega
theorem PlOk.inn (hp:p<n) (h1:p≠s) (h2:p≠t):sm tl.length (fun j=>if he tl j=p then f (n+j) else 0)=f p:=by
 have h:=L.dv (pt p)
 rw [O.dv,show pt p s=0 from if_neg (fun e=>h1 e.symm),show pt p t=0 from if_neg (fun e=>h2 e.symm),Int.sub_self,Int.mul_zero] at h
 rw [aL (n:=n) (g:=fun q=>if q=p then f p else 0) fun q hq=>?_,qD hp,aL (n:=tl.length) (g:=fun j=>0 - (if he tl j=p then f (n+j) else 0)) fun j hj=>?_,xT] at h
 ·rw [fW] at h; omega
 ·rw [show pt p (n+ta tl j)=0 from if_neg (by omega)]
  unfold pt
  by_cases c:he tl j=p
  ·rw [if_pos c,if_pos c]; omega
  ·rw [if_neg c,if_neg c]; omega
 ·rw [show pt p (n+q)=0 from if_neg (by omega)]
  unfold pt
  by_cases c:q=p
  ·rw [if_pos c,if_pos c,c]; omega
  ·rw [if_neg c,if_neg c]; omega
theorem PlOk.f0 (hj:j<tl.length):0≤f (n+j):=L.f0 _ (by rw [asP_len]; omega)
theorem PlOk.pl (hp:p<n) (h1:p≠s) (h2:p≠t):f p≤1:=L.fu p 1 (by rw [asP_len]; omega) (by rw [uU hp,if_neg (by omega)])
theorem PlOk.f1 (hj:j<tl.length):f (n+j)=0∨f (n+j)=1:=by
 have h0:=O.f0 L hj
 obtain ⟨l1,l2⟩:=O.ok.at hj
 suffices f (n+j)≤1 by omega
 by_cases c1:he tl j=s
 ·have:=L.src (n+j) (by rw [asP_len]; omega) (by rw [(eP hj).2,c1])
  omega
 ·by_cases c2:he tl j=t
  ·have n1:ta tl j≠s:=fun e=>O.no j hj e c2
   have n2:ta tl j≠t:=fun e=>O.ne j hj (e.trans c2.symm)
   have h1:=O.out L l1
   have h2:=lN (n:=tl.length) (k:=j) (F:=fun i=>if ta tl i=ta tl j then f (n+i) else 0) (fun i hi=>yZ (O.f0 L hi)) hj
   have h2:(if ta tl j=ta tl j then f (n+j) else 0)≤_:=h2
   rw [if_pos rfl,h1] at h2
   have:=O.pl L l1 n1 n2
   omega
  ·have h1:=O.inn L l2 c1 c2
   have h2:=lN (n:=tl.length) (k:=j) (F:=fun i=>if he tl i=he tl j then f (n+i) else 0) (fun i hi=>yZ (O.f0 L hi)) hj
   have h2:(if he tl j=he tl j then f (n+j) else 0)≤_:=h2
   rw [if_pos rfl,h1] at h2
   have:=O.pl L l2 c1 c2
   omega
theorem PlOk.use:Use (ta tl) (he tl) s t (usedF (fun j=>f (n+j)) tl.length) a where
 nd:=xC
 dv:=fun g=>by
  rw [xD fun j hj=>O.f1 L hj]
  have h:=L.dv fun q=>if q<n then g q else g (q - n)
  rw [O.dv,if_pos O.hs,if_pos O.ht,aL (n:=n) (g:=fun _=>0) fun p hp=>?_,fW,Int.zero_add] at h
  ·rw [←h]
   refine aL fun j hj=>?_
   rw [if_neg (by omega),if_pos (O.ok.at hj).2,show n+ta tl j - n=ta tl j by omega]
  ·rw [if_pos hp,if_neg (by omega),show n+p - n=p by omega,Int.sub_self,Int.mul_zero]
 no:=fun j hj e=>by
  obtain ⟨h1,h2⟩:=mem_used.mp hj
  have:=L.src (n+j) (by rw [asP_len]; omega) (by rw [(eP h1).2,e])
  omega
 ne:=O.st
theorem PlOk.once (h1:k∈usedF (fun j=>f (n+j)) tl.length) (h2:j∈usedF (fun j=>f (n+j)) tl.length) (e:he tl k=he tl j) (ht:he tl k≠t):k=j:=by
 obtain ⟨k1,k2⟩:=mem_used.mp h1
 obtain ⟨j1,j2⟩:=mem_used.mp h2
 refine Classical.byContradiction fun q=>?_
 have n1:he tl k≠s:=(O.use L).no k h1
 have l2:=(O.ok.at k1).2
 have h3:=O.inn L l2 n1 ht
 have h4:=sm_two (n:=tl.length) (k:=k) (j:=j) (F:=fun i=>if he tl i=he tl k then f (n+i) else 0) (fun i hi=>yZ (O.f0 L hi)) k1 j1 q
 have h4:(if he tl k=he tl k then f (n+k) else 0)+(if he tl j=he tl k then f (n+j) else 0)≤_:=h4
 rw [if_pos rfl,if_pos e.symm,h3] at h4
 have:=O.pl L l2 n1 ht
 omega
omit O L in
def wallP (n:Nat) (U:Nat→Bool):List Nat:=(List.range n).filter fun p=>U p&&!U (n+p)
theorem PlOk.cross (hp:p<n) (c1:cz (asP n tl) rs' false (2*n) s p=true) (c2:cz (asP n tl) rs' false (2*n) s (n+p)=false):p≠s∧p≠t∧f p=1:=by
 have h:=L.out p (by rw [asP_len]; omega)
 rw [(kL hp).1,(kL hp).2,uU hp] at h
 have h:=h c1 c2
 by_cases c:p=s∨p=t
 ·rw [if_pos c] at h; cases h
 ·rw [if_neg c] at h
  have:=Option.some.inj h
  exact ⟨fun e=>c (.inl e),fun e=>c (.inr e),this.symm⟩
theorem PlOk.on (hj:j<tl.length) (c1:cz (asP n tl) rs' false (2*n) s (n+ta tl j)=true):cz (asP n tl) rs' false (2*n) s (he tl j)=true:=by
 cases c2:cz (asP n tl) rs' false (2*n) s (he tl j) with
 | true=>rfl
 | false=>
  have h:=L.out (n+j) (by rw [asP_len]; omega)
  rw [(eP hj).1,(eP hj).2,xE] at h
  cases h c1 c2
theorem PlOk.first:cz (asP n tl) rs' false (2*n) s (n+s)=true:=by
 cases c2:cz (asP n tl) rs' false (2*n) s (n+s) with
 | true=>rfl
 | false=>exact absurd rfl (O.cross L O.hs L.ss c2).1
theorem PlOk.wall:a=(wallP n (cz (asP n tl) rs' false (2*n) s)).length:=by
 unfold wallP
 rw [L.all,←ve,asP_len,ot,aL (n:=tl.length) (g:=fun _=>0) fun j hj=>?_,fW,Int.add_zero]
 ·refine aL fun p hp=>?_
  rw [(kL hp).1,(kL hp).2]
  cases c1:cz (asP n tl) rs' false (2*n) s p with
  | true=>
   cases c2:cz (asP n tl) rs' false (2*n) s (n+p) with
   | true=>simp
   | false=>simp [(O.cross L hp c1 c2).2.2]
  | false=>simp
 ·rw [(eP hj).1,(eP hj).2]
  cases c1:cz (asP n tl) rs' false (2*n) s (n+ta tl j) with
  | true=>rw [O.on L hj c1]; simp
  | false=>simp
end
end Ap

local macro_rules | `(tactic| walk_at "zs") => `(tactic| simp only [↓reduceIte, ↓Z.e_seq, ↓Z.e_asg, ↓Z.zD, ↓Z.pM, ↓Z.pN, ↓Z.zH, ↓Z.uA, ↓Z.zM, ↓Z.e_ifS, ↓Z.e_ret, ↓Z.zE, ↓Z.zJ, ↓Z.ux, ↓Z.e_c, ↓Z.e_var, ↓Z.e_z1, ↓Z.e_z2, ↓Z.e_via, ↓Z.e_a0, ↓Z.e_a, ↓Z.e_tup, ↓Z.e_lst, ↓Z.zK, ↓Z.e_b, ↓Z.e_and, ↓Z.e_or, ↓Z.e_not, ↓Z.zR, ↓Z.e_orV, ↓Z.zG, ↓Z.e_if, ↓Z.zN, ↓Z.zI, ↓Z.uz, ↓Z.e_no, ↓Z.e_pt, ↓Z.e_sl, Z.xm, Z.x_nx, Z.x_asg, Z.x_st, Z.x_if, Z.x_rt, Z.x_ret, Z.x_z2, Z.x_d, Z.x_via, Z.xl, Z.x_fix, Z.x_a, Z.x_tup, Z.x_lst, Z.x_ok, Z.x_not, Z.xj, Z.xn, Z.xg, Z.sv, Z.sx, Z.nP, Z.nQ, Z.x_pt, Z.x_sl3, Z.x_sl2, Z.x_sl1, Z.uP, Z.qh, Z.qg, Z.mO, Z.sT, Z.sS, Z.sV, Z.sU, Z.xH, Z.oe, Z.og, Z.lI, Z.nZ, Z.xB, Z.fix_d, Z.ug, Z.uh, Z.pL, Z.zu, Z.km, Z.iL, Z.oB_bl, Z.Ad, Z.kl, Z.mG, Z.pW, Z.lq, Z.uG, Z.pU, Z.gY, Z.lu, Z.lj, Z.pY, Z.pT, Z.jt, Z.gX, Z.pV, Z.w_add, Z.qr, Z.qo, Z.qp, Z.ql, Z.w_sub, Z.xx, Z.ph, Z.pe, Z.w_mod, Z.w_div, Z.w_pow, Z.w_cmp, Z.w_neg, Z.w_min, Z.w_isi, Z.sE, Z.w_eq, Z.w_in, Z.w_ix, Z.w_len, Z.px, Z.pA, Z.pz, Z.w_fld, Z.tT, Z.za, Z.tQ, Z.tR, Z.tS, Z.tV, Z.tP, Z.tU, Z.isT, Z.lF, Z.lE, Z.flv, ↓Z.e_lc, ↓Z.e_yes, ↓Z.e_itL, Z.iV, Z.lB, ↓Z.e_itS, Z.x_itS, Z.sA, Z.lz, Z.jH, Z.xA, Z.mF, Z.xy, Z.mh, Z.mj, Z.mi, Z.nX, Z.lG, Z.w_sl, Z.sP, Z.sQ, ↓Z.e_rg1, Z.x_rg1, ↓Z.e_for, Z.xc, ↓Z.e_zip, Z.xb, ↓Z.e_en, Z.nN, Z.w_unp, Z.unp2, Z.unp3, Z.unp4, Z.unp5, Z.ir, Z.jK, ↓Z.e_m1s, Z.x_m1s, Z.sO, Z.pq, ↓Z.e_m2, Z.x_m2, Z.x_isL, Z.pC, Z.x_isD, Z.pD, Z.x_rv, Z.w_b2, Z.mS, Z.mR, Z.w_b1, Z.qi, Z.pj, Z.tL, Z.pk, ↓Z.e_sf, Z.x_sf1, Z.x_sf2, Z.x_sf3, ↓Z.e_mk, Z.x_mk, Z.x_sto, ↓Z.e_dp, Z.x_dp1, Z.x_dp2, Z.x_dp3, Z.x_dp4, Z.uw, Z.eo, Z.w_ne, Z.tH, Z.tK, Z.uu, Z.ue, Z.Sto.put_same, Z.lZ, Z.oZ, Z.bH, Z.sfn0, Z.sfn1, Z.sfn2, Z.sfn3, Z.sfn4, Z.sfn5, Z.sfn6, Z.sfn7, Z.sfn8, decide_false, decide_true, Z.Ax, Z.Wp_ok, Z.Aw, List.set_cons_zero, List.set_cons_succ, List.getElem?_cons_zero, List.getElem?_cons_succ, List.cons_append, List.nil_append, List.append_nil, List.isEmpty_nil, List.isEmpty_cons, if_true, if_false, Bool.false_eq_true, true_implies, false_implies, implies_true, reduceCtorEq, Bool.not_true, Bool.not_false, eq_self, and_self, and_true, true_and, ↓Z.zL, Z.xk, ↓Z.e_p, Z.x_p1, Z.x_p2, Z.x_p3, ↓Z.e_p0, ↓Z.zy, Z.x_wk, ↓Z.e_par, Z.x_par, ↓Z.zF, Z.xh, ↓Z.zQ, Z.jD, Z.qx, ↓Z.zO, Z.x_as1, Z.x_as2, Z.Au, Z.Ar, Z.x_as6, Z.yd, Z.yc, Z.xw, Z.oN, ↓Z.e_rvI, Z.x_rvI, ↓Z.e_itT, Z.x_itT, Z.mT, Z.xt, Z.om, Z.oo, Z.tJ, Z.tG, Z.w_max, Z.zx, ↓Z.pR, ↓Z.x_r0, ↓Z.pQ, ↓Z.x_r1, ↓Z.x_r2, ↓Z.uQ, Z.Wp_ex, ↓Z.pX, ↓Z.w_xf, ↓Z.AJ, ↓Z.pB, ↓Z.e_rg2, Z.x_rg2, Z.sD, Z.nV, Z.w_str, ↓Z.zz, Z.sG, Z.pd, ↓Z.pO, ↓Z.x_rL1, ↓Z.x_rL2, Z.nY, ↓Z.e_pV, Z.x_pVi, Z.x_pVs, Z.iX, Z.lg, ↓Z.pP, ↓Z.x_rC1, ↓Z.x_rC2, ↓Z.uy, Z.x_hL1, Z.x_hL2, Z.x_hL3, Z.w_isU, Z.iW, *])
set_option maxHeartbeats 4000000
namespace Rs
def foR (rows:List Ro) (φ:Nat→Int) (n:Nat):List (Option Int):=(List.range n).flatMap fun k=> [(up rows k).map (· - φ k),some (φ k - lo rows k)]
structure FlOk (rows:List Ro) (φ:Nat→Int):Prop where
 lo:∀k,k<rows.length→lo rows k≤φ k
 up:∀k,k<rows.length→∀x,up rows k=some x→φ k≤x
section
variable {rows:List Ro} {rs' :List (Option Int)} {f φ:Nat→Int} {k s t:Nat} {a:Int} {U:Nat→Bool}
section
variable (A:Flown (roA rows) s t (foR rows φ rows.length) rs' f a)
include A
end
def outM (rows:List Ro) (U:Nat→Bool):Int:=sm rows.length fun k=>if U (rows.getD k ro0).t=true then (if U (rows.getD k ro0).h=true then 0 else (up rows k).getD 0) else 0
def inL (rows:List Ro) (U:Nat→Bool):Int:=sm rows.length fun k=>if U (rows.getD k ro0).h=true then (if U (rows.getD k ro0).t=true then 0 else lo rows k) else 0
end
end Rs

local macro_rules | `(tactic| simp! only [$ts,*]) => `(tactic| simp only [↓reduceIte, ↓Z.e_seq, ↓Z.e_asg, ↓Z.zD, ↓Z.pM, ↓Z.pN, ↓Z.zH, ↓Z.uA, ↓Z.zM, ↓Z.e_ifS, ↓Z.e_ret, ↓Z.zE, ↓Z.zJ, ↓Z.ux, ↓Z.e_c, ↓Z.e_var, ↓Z.e_z1, ↓Z.e_z2, ↓Z.e_via, ↓Z.e_a0, ↓Z.e_a, ↓Z.e_tup, ↓Z.e_lst, ↓Z.zK, ↓Z.e_b, ↓Z.e_and, ↓Z.e_or, ↓Z.e_not, ↓Z.zR, ↓Z.e_orV, ↓Z.zG, ↓Z.e_if, ↓Z.zN, ↓Z.zI, ↓Z.uz, ↓Z.e_no, ↓Z.e_pt, ↓Z.e_sl, Z.xm, Z.x_nx, Z.x_asg, Z.x_st, Z.x_if, Z.x_rt, Z.x_ret, Z.x_z2, Z.x_d, Z.x_via, Z.xl, Z.x_fix, Z.x_a, Z.x_tup, Z.x_lst, Z.x_ok, Z.x_not, Z.xj, Z.xn, Z.xg, Z.sv, Z.sx, Z.nP, Z.nQ, Z.x_pt, Z.x_sl3, Z.x_sl2, Z.x_sl1, Z.uP, Z.qh, Z.qg, Z.mO, Z.sT, Z.sS, Z.sV, Z.sU, Z.xH, Z.oe, Z.og, Z.lI, Z.nZ, Z.xB, Z.fix_d, Z.ug, Z.uh, Z.pL, Z.zu, Z.km, Z.iL, Z.oB_bl, Z.Ad, Z.kl, Z.mG, Z.pW, Z.lq, Z.uG, Z.pU, Z.gY, Z.lu, Z.lj, Z.pY, Z.pT, Z.jt, Z.gX, Z.pV, Z.w_add, Z.qr, Z.qo, Z.qp, Z.ql, Z.w_sub, Z.xx, Z.ph, Z.pe, Z.w_mod, Z.w_div, Z.w_pow, Z.w_cmp, Z.w_neg, Z.w_min, Z.w_isi, Z.sE, Z.w_eq, Z.w_in, Z.w_ix, Z.w_len, Z.px, Z.pA, Z.pz, Z.w_fld, Z.tT, Z.za, Z.tQ, Z.tR, Z.tS, Z.tV, Z.tP, Z.tU, Z.isT, Z.lF, Z.lE, Z.flv, ↓Z.e_lc, ↓Z.e_yes, ↓Z.e_itL, Z.iV, Z.lB, ↓Z.e_itS, Z.x_itS, Z.sA, Z.lz, Z.jH, Z.xA, Z.mF, Z.xy, Z.mh, Z.mj, Z.mi, Z.nX, Z.lG, Z.w_sl, Z.sP, Z.sQ, ↓Z.e_rg1, Z.x_rg1, ↓Z.e_for, Z.xc, ↓Z.e_zip, Z.xb, ↓Z.e_en, Z.nN, Z.w_unp, Z.unp2, Z.unp3, Z.unp4, Z.unp5, Z.ir, Z.jK, ↓Z.e_m1s, Z.x_m1s, Z.sO, Z.pq, ↓Z.e_m2, Z.x_m2, Z.x_isL, Z.pC, Z.x_isD, Z.pD, Z.x_rv, Z.w_b2, Z.mS, Z.mR, Z.w_b1, Z.qi, Z.pj, Z.tL, Z.pk, ↓Z.e_sf, Z.x_sf1, Z.x_sf2, Z.x_sf3, ↓Z.e_mk, Z.x_mk, Z.x_sto, ↓Z.e_dp, Z.x_dp1, Z.x_dp2, Z.x_dp3, Z.x_dp4, Z.uw, Z.eo, Z.w_ne, Z.tH, Z.tK, Z.uu, Z.ue, Z.Sto.put_same, Z.lZ, Z.oZ, Z.bH, Z.sfn0, Z.sfn1, Z.sfn2, Z.sfn3, Z.sfn4, Z.sfn5, Z.sfn6, Z.sfn7, Z.sfn8, decide_false, decide_true, Z.Ax, Z.Wp_ok, Z.Aw, List.set_cons_zero, List.set_cons_succ, List.getElem?_cons_zero, List.getElem?_cons_succ, List.cons_append, List.nil_append, List.append_nil, List.isEmpty_nil, List.isEmpty_cons, if_true, if_false, Bool.false_eq_true, true_implies, false_implies, implies_true, reduceCtorEq, Bool.not_true, Bool.not_false, eq_self, and_self, and_true, true_and, ↓Z.zL, Z.xk, ↓Z.e_p, Z.x_p1, Z.x_p2, Z.x_p3, ↓Z.e_p0, ↓Z.zy, Z.x_wk, ↓Z.e_par, Z.x_par, ↓Z.zF, Z.xh, ↓Z.zQ, Z.jD, Z.qx, ↓Z.zO, Z.x_as1, Z.x_as2, Z.Au, Z.Ar, Z.x_as6, Z.yd, Z.yc, Z.xw, Z.oN, ↓Z.e_rvI, Z.x_rvI, ↓Z.e_itT, Z.x_itT, Z.mT, Z.xt, Z.om, Z.oo, Z.tJ, Z.tG, Z.w_max, Z.zx, ↓Z.pR, ↓Z.x_r0, ↓Z.pQ, ↓Z.x_r1, ↓Z.x_r2, ↓Z.uQ, Z.Wp_ex, ↓Z.pX, ↓Z.w_xf, ↓Z.AJ, ↓Z.pB, ↓Z.e_rg2, Z.x_rg2, Z.sD, Z.nV, Z.w_str, ↓Z.zz, Z.sG, Z.pd, ↓Z.pO, ↓Z.x_rL1, ↓Z.x_rL2, Z.nY, ↓Z.e_pV, Z.x_pVi, Z.x_pVs, Z.iX, Z.lg, ↓Z.pP, ↓Z.x_rC1, ↓Z.x_rC2, ↓Z.uy, Z.x_hL1, Z.x_hL2, Z.x_hL3, Z.w_isU, Z.iW, $ts,*])
set_option maxHeartbeats 4000000
namespace T
open PySem PySem.Spec PyProof.Rows L2 M Z
open Classical
open Rs (As tw hd tl rm kO BS hst pst bfs starts iI)
abbrev nD (k:Nat):D:= .int (k:Int)
abbrev bD (b:Bool):D:= .bl b
def oD:Option Nat→D
 | none=> .non
 | some k=> .int (k:Int)
def rD:Option Int→D
 | none=> .non
 | some x=> .int x
theorem xor1 (h:Nat):Builtin.bitXor (h:Int) 1=(tw h:Nat):=by
 have e:Builtin.bitXor (h:Int) 1=((h ||| 1:Nat):Int) - ((h &&& 1:Nat):Int):=by
  unfold Builtin.bitXor Builtin.bitOr Builtin.bitNot Builtin.bitAnd
  rw [decide_eq_false (p:=0≤ -(h:Int) - 1) (by omega),decide_eq_false (p:=(0:Int)≤ -1 - 1) (by omega),decide_eq_true (p:=0≤(h:Int)) (by omega),decide_eq_true (p:=(0:Int)≤1) (by omega)]
  show -(-((((-(-(h:Int) - 1) - 1).toNat ||| (-(-1 - 1) - 1:Int).toNat:Nat)):Int) - 1) - 1 - _=_
  rw [show -(-(h:Int) - 1) - 1=h by omega]
  show -(-(((h:Int).toNat ||| 1:Nat):Int) - 1) - 1 - (((h:Int).toNat &&& 1:Nat):Int)=_
  rw [Int.toNat_natCast]
  omega
 rw [e,Nat.and_one_is_mod]
 have h1:(h ||| 1) / 2=h / 2:=by rw [Nat.or_div_two]; simp
 have h2:(h ||| 1)%2=1:=by rw [Nat.or_mod_two_eq_one]; simp
 unfold tw
 split<;> omega
theorem w_xor {m n:Int} {s:SD}:oXor (.d (.int m)) (.d (.int n)) s= .ok (.d (.int (Builtin.bitXor m n))) s:=rfl
theorem atR {n h:Nat} {f:Nat→D} (c:h<n):atI ((List.range n).map f) (h:Int)=some (f h):=by
 rw [qj]
 unfold atI ixN
 rw [if_pos (by omega),if_pos (by rw [List.length_range]; omega)]
 show ((List.range n)[(h:Int).toNat]?).map f=_
 rw [Int.toNat_natCast,List.getElem?_range c]
 rfl
theorem atL {α:Type} {l:List α} {h:Nat} {a:α} {f:α→D} (c:l[h]? =some a):atI (l.map f) (h:Int)=some (f a):=by
 have hl:=(List.getElem?_eq_some_iff.mp c).1
 rw [qj]
 unfold atI ixN
 rw [if_pos (by omega),if_pos (by omega)]
 show (l[(h:Int).toNat]?).map f=_
 rw [Int.toNat_natCast,c]
 rfl
theorem atRm {rs:List (Option Int)} {h:Nat} (c:h<rs.length):atI (rs.map rD) (h:Int)=some (rD (rm rs h)):=by
 refine atL ?_
 unfold rm
 rw [List.getD_eq_getElem?_getD,List.getElem?_eq_getElem c]
 rfl
section
variable {a b:Vl} {s:SD} {x y:D} {n h:Nat} {f:Nat→D} {fo fi:SD→R Vl}
theorem ixR (c:h<n):ixK s (some (.lst ((List.range n).map f))) (some (.int (h:Int)))= .ok (.d (f h)) s:=cf (atR c)
theorem ixL {α:Type} {l:List α} {h:Nat} {a:α} {f:α→D} (c:l[h]? =some a):ixK s (some (.lst (l.map f))) (some (.int (h:Int)))= .ok (.d (f a)) s:=cf (atL c)
theorem ixRm {rs:List (Option Int)} (c:h<rs.length):ixK s (some (.lst (rs.map rD))) (some (.int (h:Int)))= .ok (.d (rD (rm rs h))) s:=cf (atRm c)
def sub3K (x:D) (o:Vl):Vl→SD→R Unit:=fun i s=>stO (gA x) o i s
def sub2K (fi:SD→R Vl) (x:D):Vl→SD→R Unit:=fun o s=>(fi s).bind (sub3K x o)
def sub1K (fo fi:SD→R Vl):D→SD→R Unit:=fun x s=>(fo s).bind (sub2K fi x)
theorem e_sub:AF fo fi a s=(s.fix a).bind (sub1K fo fi):=rfl
theorem x_sub1:sub1K fo fi x s=(fo s).bind (sub2K fi x):=rfl
theorem x_sub2:sub2K fi x a s=(fi s).bind (sub3K x a):=rfl
theorem x_sub3:sub3K x a b s=stO (gA x) a b s:=rfl
theorem xP {ds:List D} (c:h<ds.length):AA (gA x) a (.int (h:Int)) s (some (.lst ds))=s.mod (.lst (ds.set h x)) a:=by
 have e:gA x (.lst ds) (.int (h:Int))=some (.lst (ds.set h x)):=by
  show (match ixN ds.length (h:Int) with | some j=>some (D.lst (ds.set j x)) | none=>none)=_
  unfold ixN
  rw [if_pos (by omega),if_pos (by omega),Int.toNat_natCast]
 show (match gA x (.lst ds) (.int (h:Int)) with | some y=>s.mod y a | none=>R.bad)=_
 rw [e]
theorem setR {f:Nat→D} (h:Nat) (x:D):((List.range n).map f).set h x=(List.range n).map (fun q=>if q=h then x else f q):=by
 refine List.ext_getElem (by simp) fun i h1 h2=>?_
 rw [List.getElem_set]
 simp only [List.getElem_map,List.getElem_range]
 by_cases c:h=i
 ·subst c; rw [if_pos rfl]
 ·rw [if_neg c,if_neg fun q=>c q.symm]
theorem oj {f:Nat→D} (c:h<n):AA (gA x) a (.int (h:Int)) s (some (.lst ((List.range n).map f)))=s.mod (.lst ((List.range n).map (fun q=>if q=h then x else f q))) a:=by
 rw [xP (by simpa using c),setR]
theorem isN_r {r:Option Int} {neg:Bool}:kB neg (.d (rD r)) (.d .non) s= .ok (.d (.bl (if neg then !r.isNone else r.isNone))) s:=by
 cases r<;> cases neg<;> rfl
theorem isN_o {r:Option Nat} {neg:Bool}:kB neg (.d (oD r)) (.d .non) s= .ok (.d (.bl (if neg then !r.isNone else r.isNone))) s:=by
 cases r<;> cases neg<;> rfl
end
abbrev dZ (r m:Nat):List (Str×D):= [("many", .int (m:Int)),("heads", .cell (r+1)),("rooms", .cell (r+2)),("starts", .cell (r+3+m))]
structure RestAt (S:Sto) (r m:Nat) (as:As) (rs:List (Option Int)):Prop where
 o:S.get r=some (.obj "Rest" (dZ r m))
 h:S.get (r+1)=some (.lst ((iI as).map nD))
 k:S.get (r+2)=some (.lst (rs.map rD))
 s:S.get (r+3+m)=some (.lst ((List.range m).map fun p=> .cell (r+3+p)))
 p:∀p,p<m→S.get (r+3+p)=some (.lst ((starts as p).map nD))
 nx:r+4+m≤S.nx
 len:rs.length=2*as.length
 ok:Rs.AsOk as m
section
variable {a b:Vl} {s:SD} {S:Sto} {sl:List (Option Vl)} {x:D} {n h m r p q:Nat} {as:As} {rs:List (Option Int)} {e:Bool}
theorem rf_many:bO (dZ r m) "many" =some (.int (m:Int)):=rfl
theorem gQ:bO (dZ r m) "heads" =some (.cell (r+1)):=rfl
theorem cZ:bO (dZ r m) "rooms" =some (.cell (r+2)):=rfl
theorem qI:bO (dZ r m) "starts" =some (.cell (r+3+m)):=rfl
theorem tM:bO (dZ r m) "lets" =none:=rfl
theorem mc:bO (dZ r m) "walked" =none:=rfl
theorem rk:bO (dZ r m) "way_to" =none:=rfl
theorem yQ:bO (dZ r m) "change" =none:=rfl
theorem headsL {h:Nat} (c:h<2*as.length):∀s:SD,ixK s (some (.lst ((iI as).map nD))) (some (.int (h:Int)))= .ok (.d (nD (hd as h))) s:=fun s=>by
 unfold iI
 rw [List.map_map]
 exact ixR c
theorem roomR (R:RestAt S r m as rs) (c:h<2*as.length):∀s:SD,ixK s (some (.lst (rs.map rD))) (some (.int (h:Int)))= .ok (.d (rD (rm rs h))) s:=fun s=>ixRm (by rw [R.len]; exact c)
theorem g_lets (R:RestAt S r m as rs) (c:h<2*as.length):goF eX [.cell r, .int (h:Int), .bl e] ⟨sl,S⟩= .ok (.d (.bl (kO rs e h))) ⟨sl,S⟩:=by
 refine eW ?_
 show Wp (iQ ⟨[some (.d (.cell r)),some (.d (.int (h:Int))),some (.d (.bl e)),none],S⟩) _ _
 unfold iQ
 have h1:=R.o
 have h2:=R.k
 have h3:=roomR R c
 unfold kO
 cases c2:rm rs h with
 | none=>
  rw [c2] at h3
  simp! only [aj cZ,h1,h2,h3,rD]
 | some v=>
  rw [c2] at h3
  simp! only [aj cZ,h1,h2,h3,rD]
  cases e<;> simp! only []<;> rfl
def kR (m:Nat) (b:BS):List D:=(List.range m).map fun p=>oD (b.came p)
def qF (m:Nat) (b:BS):List D:=(List.range m).map fun p=>D.bl (decide (p∈b.row))
noncomputable def wkI:SD→R Fl:=(af (aA (z2 oIx (z1 (aB ["Rest"] "heads") (aa 0)) (aa 7)) (zSt 8))
 (bJ (iU (fN (zB (z2 oIx (aa 4) (aa 8)))) (zB (ar "Rest" "lets" eX [] (aa 0) (zA (aa 7) (zA (aa 2) zA0))))) (af (aA (zC (.bl true)) (AF (aa 4) (aa 8)))
 (af (aA (aa 7) (AF (aa 3) (aa 8)))
 (az (zM2 isL (oB2 aE) (aa 5) (aG (aa 8)))))) aI))
noncomputable def wkB:SD→R Fl:=(af (cC (aU (aG (z2 oIx (z1 (aB ["Rest"] "starts") (aa 0)) (z2 oIx (aa 5) (aa 6))))) (zSt 7) wkI)
 (zAug 6 (fun a b=>a+b) (zC (.int 1))))
theorem wk_eq:fC=(af (aA (z2 kA (bV (zA (zC .non) zA0)) (z1 (aB ["Rest"] "many") (aa 0))) (zSt 3))
 (af (aA (z2 kA (bV (zA (zC (.bl false)) zA0)) (z1 (aB ["Rest"] "many") (aa 0))) (zSt 4))
 (af (aA (zC (.bl true)) (AF (aa 4) (aa 1)))
 (af (aA (bV (zA (aa 1) zA0)) (zSt 5))
 (af (aA (zC (.int 0)) (zSt 6))
 (af (zWh (zB (z2 oLt (aa 6) (z1 de (aa 5)))) wkB)
 (aW (aa 3)))))))):=rfl
abbrev wkS (r:Nat) (v1:Option Vl) (e:Bool) (m:Nat) (b:BS) (i:Int) (v7 v8:Option Vl) (S:Sto):SD:=
 ⟨[some (.d (.cell r)),v1,some (.d (.bl e)),some (.own (.lst (kR m b))),some (.own (.lst (qF m b))),some (.own (.lst (b.row.map nD))),some (.d (.int i)),v7,v8],S⟩
theorem BH {b:BS} {k:Nat}:(List.range m).map (fun q=>if q=p then D.int (k:Int) else oD (b.came q))=kR m ⟨b.row++ [p],fun q=>if q=p then some k else b.came q⟩:=by
 unfold kR
 refine List.map_congr_left fun q _=>?_
 show _=oD (if q=p then some k else b.came q)
 split<;> rfl
theorem AU {b:BS} {f:Nat→Option Nat}:(List.range m).map (fun q=>if q=p then D.bl true else D.bl (decide (q∈b.row)))=qF m ⟨b.row++ [p],f⟩:=by
 unfold qF
 refine List.map_congr_left fun q _=>?_
 show _=D.bl (decide (q∈b.row++ [p]))
 by_cases c:q=p
 ·rw [if_pos c,decide_eq_true]
  rw [c]; exact List.mem_append_right _ (List.mem_singleton.mpr rfl)
 ·rw [if_neg c]
  congr 1
  refine decide_eq_decide.mpr ?_
  simp [c]
theorem wk_turn {v1 v8:Option Vl} {b:BS} {i:Int} (R:RestAt S r m as rs) (c:h<2*as.length) (hz:b.row.length<sizeLine):
  Wp (wkI (wkS r v1 e m b i (some (.d (.int (h:Int)))) v8 S)) (fun fl s' =>fl= .nx∧∃v7 v8,s' =wkS r v1 e m (hst as rs e b h) i v7 v8 S) XF:=by
 have h1:=R.o
 have h2:=R.h
 have h3:=headsL (as:=as) c
 have hm:=R.ok.hd c
 have h4:∀s:SD,ixK s (some (.lst (qF m b))) (some (.int ((hd as h:Nat):Int)))= .ok (.d (.bl (decide (hd as h∈b.row)))) s:=fun s=>ixR hm
 have h5:=fun sl:List (Option Vl)=>g_lets (sl:=sl) (e:=e) R c
 have h6:=fun (a:Vl) (s:SD) (g:Nat→Option Nat)=>(oj (x:= .bl true) (a:=a) (s:=s) (f:=fun p=>D.bl (decide (p∈b.row))) hm).trans (by rw [AU (f:=g)])
 have h7:=fun (a:Vl) (s:SD)=>(oj (x:= .int (h:Int)) (a:=a) (s:=s) (f:=fun p=>oD (b.came p)) hm).trans (by rw [BH (k:=h)])
 have h6:∀a s,AA (gA (.bl true)) a (.int ((hd as h:Nat):Int)) s (some (.lst (qF m b)))=s.mod (.lst (qF m ⟨b.row++ [hd as h],fun q=>if q=hd as h then some h else b.came q⟩)) a:=fun a s=>h6 a s _
 have h7:∀a s,AA (gA (.int (h:Int))) a (.int ((hd as h:Nat):Int)) s (some (.lst (kR m b)))=s.mod (.lst (kR m ⟨b.row++ [hd as h],fun q=>if q=hd as h then some h else b.came q⟩)) a:=h7
 have sz:((b.row.map nD).length<sizeLine)=True:=eq_true (by rw [List.length_map]; exact hz)
 unfold wkI
 by_cases c1:hd as h∈b.row
 ·have e0:hst as rs e b h=b:=by unfold hst; rw [if_neg fun q=>q.1 c1]
  rw [e0]
  simp! only [aj gQ,aj cZ,ay tM,h1,h2,h3,h4,h5,c1]
  exact ⟨_,_,rfl⟩
 ·cases c2:kO rs e h with
  | false=>
   have e0:hst as rs e b h=b:=by unfold hst; rw [if_neg fun q=>by rw [c2] at q; exact absurd q.2 (by decide)]
   rw [e0]
   simp! only [aj gQ,aj cZ,ay tM,h1,h2,h3,h4,h5,c1,c2]
   exact ⟨_,_,rfl⟩
  | true=>
   have e0:hst as rs e b h=⟨b.row++ [hd as h],fun q=>if q=hd as h then some h else b.came q⟩:=by unfold hst; rw [if_pos ⟨c1,c2⟩]
   rw [e0]
   simp! only [aj gQ,aj cZ,ay tM,h1,h2,h3,h4,h5,c1,c2,↓e_sub,x_sub1,x_sub2,x_sub3,h6,h7,sz]
   exact ⟨some (.d (.int (h:Int))),some (.d (nD (hd as h))),by unfold wkS; rw [List.map_append]; rfl⟩
theorem lL {α β:Type} {f:β→α→β} {l:List α} {b:β} {j:Nat} {a:α} (h:l[j]? =some a):(l.take (j+1)).foldl f b=f ((l.take j).foldl f b) a:=by
 rw [List.take_add_one,h,List.foldl_append]
 rfl
theorem wk_body {v1 v7 v8:Option Vl} {b:BS} {i src:Nat} (R:RestAt S r m as rs) (B:Rs.BOk as rs e m src i b) (hp:b.row[i]? =some p) (hz:m<sizeLine):
  Wp (wkB (wkS r v1 e m b (i:Int) v7 v8 S)) (fun fl s' =>fl= .nx∧∃v7 v8,s' =wkS r v1 e m (pst as rs e b p) ((i+1:Nat):Int) v7 v8 S) XF:=by
 have h1:=R.o
 have h2:=R.s
 have hm:p∈b.row:=List.mem_of_getElem? hp
 have hpm:=B.lt p hm
 have h3:∀s:SD,ixK s (some (.lst (b.row.map nD))) (some (.int (i:Int)))= .ok (.d (.int (p:Int))) s:=fun s=>ixL (f:=nD) hp
 have h4:∀s:SD,ixK s (some (.lst ((List.range m).map fun p=>D.cell (r+3+p)))) (some (.int (p:Int)))= .ok (.d (.cell (r+3+p))) s:=fun s=>ixR (f:=fun p=>D.cell (r+3+p)) hpm
 have h5:∀sl:List (Option Vl),tO (.d (.cell (r+3+p))) ⟨sl,S⟩= .ok ⟨[.d (.cell (r+3+p))],fun s=>s.st.get (r+3+p)=some (.lst ((starts as p).map nD)),(starts as p).map nD⟩ ⟨sl,S⟩:=fun sl=>eC (s:=⟨sl,S⟩) (R.p p hpm)
 have all:∀h∈starts as p,h<2*as.length∧tl as h=p:=fun h hh=>Rs.mem_starts.mp hh
 unfold wkB
 simp! only [aj qI,h1,h2,h3,h4,h5]
 rw [ae]
 refine kj (fun j s=>∃v7 v8,s=wkS r v1 e m (((starts as p).take j).foldl (hst as rs e) b) (i:Int) v7 v8 S) Nl.d1 (fun _ s ⟨_,_,e⟩=>by rw [e]; exact R.p p hpm) ⟨v7,v8,rfl⟩ (fun j x s ex hI=>?_) (fun s hI=>?_)
 ·obtain ⟨u7,u8,rfl⟩:=hI
  have ex:((starts as p).map nD)[j]? =some x:=ex
  rw [List.getElem?_map] at ex
  cases eh:(starts as p)[j]? with
  | none=>rw [eh] at ex; cases ex
  | some h=>
   rw [eh] at ex
   cases ex
   obtain ⟨B1,_,_⟩:=Rs.uf (hs:=(starts as p).take j) R.ok B hm fun h hh=>all h (List.mem_of_mem_take hh)
   have hh:=all h (List.mem_of_getElem? eh)
   simp! only []
   refine (wk_turn (v1:=v1) (v8:=u8) (e:=e) (i:=(i:Int)) R hh.1 (Nat.lt_of_le_of_lt B1.le hz)).mono (fun fl s' hh=>?_) fun _ _ _ h=>h.elim
   obtain ⟨rfl,w7,w8,rfl⟩:=hh
   exact ⟨w7,w8,by rw [lL eh]⟩
 ·obtain ⟨u7,u8,rfl⟩:=hI
  have el:((starts as p).take ((starts as p).map nD).length).foldl (hst as rs e) b=pst as rs e b p:=by
   rw [List.length_map,List.take_length]
   rfl
  show Wp (seqK _ Fl.nx (wkS r v1 e m (((starts as p).take ((starts as p).map nD).length).foldl (hst as rs e) b) (i:Int) u7 u8 S)) _ _
  rw [el]
  simp! only [↓zQ,jD,qx]
  exact ⟨u7,u8,rfl⟩
theorem rep1:(List.replicate ((m:Nat):Int).toNat [x]).flatten=(List.range m).map fun _=>x:=by
 rw [Int.toNat_natCast]
 induction m with
 | zero=>rfl
 | succ m ih=>rw [List.replicate_succ',List.flatten_append,ih,List.range_succ,List.map_append]; rfl
theorem pH {src:Nat} (R:RestAt S r m as rs) (hs:src<m) (hz:m<sizeLine):goF bF [.cell r, .int (src:Int), .bl e] ⟨sl,S⟩= .ok (.own (.lst (kR m (Rs.cP as rs e m src)))) ⟨sl,S⟩:=by
 refine eW ?_
 show Wp (fC ⟨[some (.d (.cell r)),some (.d (.int (src:Int))),some (.d (.bl e)),none,none,none,none,none,none],S⟩) _ _
 rw [wk_eq]
 have h1:=R.o
 have z0:∀x:D,(-(2 ^ 63)≤(m:Int)∧(m:Int)<2 ^ 63∧ [x].length*(m:Int).toNat≤sizeLine)=True:=fun x=>eq_true (by
  have hz:=hz
  rw [sizeLine_eq] at hz ⊢
  refine ⟨by omega,by omega, ?_⟩
  show 1*_≤_
  omega)
 have h2:∀a s,AA (gA (.bl true)) a (.int (src:Int)) s (some (.lst ((List.range m).map fun _=>D.bl false)))=s.mod (.lst (qF m ⟨[src],fun _=>none⟩)) a:=fun a s=>(oj (x:= .bl true) (a:=a) (s:=s) (f:=fun _=>D.bl false) hs).trans (by
  congr 2
  unfold qF
  refine List.map_congr_left fun q _=>?_
  by_cases c:q=src
  ·rw [if_pos c,decide_eq_true]; rw [c]; exact List.mem_singleton.mpr rfl
  ·rw [if_neg c,decide_eq_false]; exact fun q=>c (List.mem_singleton.mp q))
 simp! only [aj rf_many,h1,z0,rep1,↓e_sub,x_sub1,x_sub2,x_sub3,h2]
 rw [ae]
 refine wh_w (m:=m) (fun k s=>∃b i v7 v8,s=wkS r (some (.d (.int (src:Int)))) e m b ((i:Nat):Int) v7 v8 S∧Rs.BOk as rs e m src i b∧Rs.bfs as rs e (m - i) i b=Rs.cP as rs e m src∧k=m - i) ⟨⟨[src],fun _=>none⟩,0,none,none,rfl,Rs.BOk.init hs,rfl,rfl⟩ ?_
 rintro k s ⟨b,i,v7,v8,rfl,B,eb,rfl⟩
 have hl:=B.le
 have hil:=B.il
 simp! only [ae,List.length_map]
 by_cases c:i<b.row.length
 ·have c2:decide ((i:Int)<(b.row.length:Int))=true:=decide_eq_true (by omega)
  simp only [c2,if_true]
  have hp:=List.getElem?_eq_getElem c
  refine (wk_body (v1:=some (.d (.int (src:Int)))) (v7:=v7) (v8:=v8) R B hp hz).mono (fun fl s' hh=>?_) fun _ _ _ h=>h.elim
  obtain ⟨rfl,u7,u8,rfl⟩:=hh
  refine ⟨m - (i+1),by omega,_,i+1,u7,u8,rfl,Rs.pst_ok R.ok B hp, ?_,rfl⟩
  rw [←eb,show m - i=(m - (i+1))+1 by omega,Rs.we hp]
 ·have c2:decide ((i:Int)<(b.row.length:Int))=false:=decide_eq_false (by omega)
  simp only [c2,Bool.false_eq_true,if_false]
  rw [Rs.An (by omega)] at eb
  subst eb
  simp! only []
theorem wQ {ds:List D}:b1K gW a s (some (.lst ds))=(s.mod (.lst ds.reverse) a).bind (rvK .non):=rfl
abbrev wyS (r:Nat) (m:Nat) (b:BS) (v2:Option Vl) (w:List Nat) (q:Nat) (S:Sto):SD:=
 ⟨[some (.d (.cell r)),some (.d (.lst (kR m b))),v2,some (.own (.lst (w.map nD))),some (.d (.int (q:Int)))],S⟩
theorem Br {src t:Nat} {b:BS} (R:RestAt S r m as rs) (W:Rs.Wk as rs e m src b) (ht:t<m) (hz:m<sizeLine):
  goF bE [.cell r, .lst (kR m b), .int (t:Int)] ⟨sl,S⟩= .ok (.own (.lst ((Rs.way as b.came m t).map nD))) ⟨sl,S⟩:=by
 refine eW ?_
 show Wp (fB ⟨[some (.d (.cell r)),some (.d (.lst (kR m b))),some (.d (.int (t:Int))),none,none],S⟩) _ _
 unfold fB
 have h1:=R.o
 have h2:=R.h
 have hc:∀{q:Nat},q<m→∀s:SD,ixK s (some (.lst (kR m b))) (some (.int (q:Int)))= .ok (.d (oD (b.came q))) s:=fun hq s=>ixR (f:=fun p=>oD (b.came p)) hq
 simp! only []
 rw [ae]
 refine wh_w (m:=m) (fun k s=>∃(w:List Nat) (q:Nat),s=wyS r m b (some (.d (.int (t:Int)))) w q S∧q<m∧Rs.way as b.came m t=Rs.way as b.came k q++w.reverse∧w.length+k=m∧(q∈b.row→b.row.idxOf q<k)∧0<k) ⟨[],t,rfl,ht,by simp,by simp,fun h=>?_,by omega⟩ ?_
 ·have h1:=List.idxOf_lt_length_of_mem h
  have h2:=List.Nodup.length_le_of_subset W.nd (l₂:=List.range m) fun p hp=>List.mem_range.mpr (W.lt p hp)
  rw [List.length_range] at h2
  omega
 ·rintro k s ⟨w,q,rfl,hq,ew,hl,hi,hk⟩
  have h3:=hc hq
  obtain ⟨k,rfl⟩:∃k',k=k' +1:=⟨k - 1,by omega⟩
  cases c:b.came q with
  | none=>
   rw [c] at h3
   have e0:Rs.way as b.came (k+1) q= []:=by unfold Rs.way; rw [c]
   rw [e0,List.nil_append] at ew
   simp! only [ae,h3,isN_o,Option.isNone_none]
   simp! only [wQ,ew,List.map_reverse]
  | some h=>
   rw [c] at h3
   have hm:q∈b.row:=Classical.byContradiction fun n=>by rw [W.out q n] at c; cases c
   have hn:q≠src:=fun n=>by rw [n,W.cs] at c; cases c
   obtain ⟨h',e1,e2,e3,e4,e5,e6⟩:=W.inn q hm hn
   rw [c] at e1
   cases e1
   have e0:Rs.way as b.came (k+1) q=Rs.way as b.came k (tl as h)++ [h]:=by
    show (match b.came q with | none=> [] | some h=>Rs.way as b.came k (tl as h)++ [h])=_
    rw [c]
   have h4:=headsL (as:=as) (Rs.AK e2)
   rw [Rs.hd_tw] at h4
   have h3:∀s:SD,ixK s (some (.lst (kR m b))) (some (.int (q:Int)))= .ok (.d (.int (h:Int))) s:=h3
   have sz:((w.map nD).length<sizeLine)=True:=eq_true (by rw [List.length_map]; omega)
   have hi:=hi hm
   simp! only [ae,h3]
   simp! only [aj gQ,h1,h2,h3,h4,w_xor,xor1,sz]
   exact ⟨k,by omega,w++ [h],tl as h,by unfold wyS; rw [List.map_append]; rfl,R.ok.tl e2,by rw [ew,e0]; simp,by simp; omega,fun _=>by omega,by omega⟩
theorem rm_get (c:h<rs.length):rs[h]? =some (rm rs h):=by
 unfold rm
 rw [List.getD_eq_getElem?_getD,List.getElem?_eq_getElem c]
 rfl
theorem AS (c:h<rs.length):rs.set h (rm rs h)=rs:=by
 refine List.ext_getElem? fun i=>?_
 by_cases q:h=i
 ·subst q; rw [List.getElem?_set_self c,rm_get c]
 ·rw [List.getElem?_set_ne q]
theorem oU {i:Nat} (c:S.get i=some x):S.put i x=S:=by
 unfold Z.Sto.put
 have:(fun j=>if j=i then some x else S.get j)=S.get:=funext fun j=>by
  by_cases q:j=i
  ·rw [if_pos q,q,c]
  ·rw [if_neg q]
 rw [this]
theorem RestAt.rooms {rs' :List (Option Int)} (R:RestAt S r m as rs) (hl:rs'.length=rs.length):RestAt (S.put (r+2) (.lst (rs'.map rD))) r m as rs' where
 o:=by rw [Z.Sto.put_ne (by omega)]; exact R.o
 h:=by rw [Z.Sto.put_ne (by omega)]; exact R.h
 k:=Z.Sto.put_same
 s:=by rw [Z.Sto.put_ne (by omega)]; exact R.s
 p:=fun p hp=>by rw [Z.Sto.put_ne (by omega)]; exact R.p p hp
 nx:=R.nx
 len:=hl.trans R.len
 ok:=R.ok
def lpK (g:SD→R Fl):Fl→SD→R Fl
 | .nx,s=>g s
 | .ct,s=>g s
 | .bk,s=> .ok .nx s
 | .rt a,s=> .ok (.rt a) s
theorem x_lpn {g:SD→R Fl}:lpK g .nx s=g s:=Eq.trans rfl rfl
def lp2 (fz:Vl→SD→R Unit) (fb:SD→R Fl) (d:D):SD→R Fl:=fun s=>((fz (.d d) s).bind (xG fb)).bind (lpK fun s=> .ok .nx s)
theorem x_lp2 {fz:Vl→SD→R Unit} {fb:SD→R Fl} {d:D}:lp2 fz fb d s=((fz (.d d) s).bind (xG fb)).bind (lpK fun s=> .ok .nx s):=rfl
theorem zq {fz:Vl→SD→R Unit} {fb:SD→R Fl} {d1 d2:D}:forK fz fb ⟨[.d x],fun _=>True,[d1,d2]⟩ s=((fz (.d d1) s).bind (xG fb)).bind (lpK (lp2 fz fb d2)):=by
 unfold forK
 rw [if_pos Nl.d1]
 unfold fQ
 rw [if_pos trivial]
 congr 1
 funext fl s1
 have e:∀s,fQ (fun _=>True) (fun d s=>(fz (.d d) s).bind fun _ s2=>fb s2) [d2] s=lp2 fz fb d2 s:=fun s=>by
  unfold fQ lp2
  rw [if_pos trivial]
  congr 1
  funext fl s1
  cases fl<;> first | rfl | (show fQ _ _ [] s1=_; unfold fQ; rw [if_pos trivial]; rfl)
 cases fl<;> first | rfl | exact e s1
noncomputable def cgI:SD→R Fl:=(bJ (zB (z2 (kB true) (z2 oIx (z1 (aB ["Rest"] "rooms") (aa 0)) (aa 3)) (zC .non))) (wj gL gA (fun a b=>a+b) (z1 (aB ["Rest"] "rooms") (aa 0)) (aa 3) (aa 4)) aI)
theorem cg_eq:fF=(cC (zItT (aG (hX (zA (hX (zA (aa 1) (zA (z2 sq (zC (.int 0)) (aa 2)) zA0))) (zA (hX (zA (z2 oXor (aa 1) (zC (.int 1))) (zA (aa 2) zA0))) zA0))))) (ig [3,4]) cgI):=rfl
theorem Ae {v1 v2:Option Vl} {v:Int} (h1:S.get r=some (.obj "Rest" (dZ r m))) (h2:S.get (r+2)=some (.lst (rs.map rD))) (c:h<rs.length):
  cgI ⟨[some (.d (.cell r)),v1,v2,some (.d (.int (h:Int))),some (.d (.int v))],S⟩= .ok .nx ⟨[some (.d (.cell r)),v1,v2,some (.d (.int (h:Int))),some (.d (.int v))],S.put (r+2) (.lst ((rs.set h ((rm rs h).map (· +v))).map rD))⟩:=by
 have h3:∀s:SD,ixK s (some (.lst (rs.map rD))) (some (.int (h:Int)))= .ok (.d (rD (rm rs h))) s:=fun s=>ixRm c
 unfold cgI
 cases c2:rm rs h with
 | none=>
  rw [c2] at h3
  simp! only [aj cZ,h1,h2,h3,isN_r,Option.isNone_none]
  rw [show (none:Option Int).map (· +v)=rm rs h from c2.symm,AS c,oU h2]
 | some u=>
  rw [c2] at h3
  have h4:gL (.lst (rs.map rD)) (.int (h:Int))=some u:=gL_at (by rw [atRm c,c2]; rfl)
  have h5:∀a s,AA (gA (.int (u+v))) a (.int (h:Int)) s (some (.lst (rs.map rD)))=s.mod (.lst ((rs.set h (some (u+v))).map rD)) a:=fun a s=>(xP (by simpa using c)).trans (by rw [List.map_set]; rfl)
  simp! only [aj cZ,h1,h2,h3,isN_r,Option.isNone_some,h4,h5]
  rfl
theorem Bt {v:Int} (R:RestAt S r m as rs) (c:h<2*as.length):goF dJ [.cell r, .int (h:Int), .int v] ⟨sl,S⟩= .ok (.d .non) ⟨sl,S.put (r+2) (.lst ((Rs.chg rs h v).map rD))⟩:=by
 refine eW ?_
 show Wp (fF ⟨[some (.d (.cell r)),some (.d (.int (h:Int))),some (.d (.int v)),none,none],S⟩) _ _
 rw [cg_eq]
 have c2:h<rs.length:=by rw [R.len]; exact c
 have e1:=fun v1 v2=>Ae (v1:=v1) (v2:=v2) (v:=0 - v) R.o R.k c2
 have R1:=R.rooms (rs' :=rs.set h ((rm rs h).map (· +(0 - v)))) (List.length_set ..)
 have e2:=fun v1 v2=>Ae (v1:=v1) (v2:=v2) (v:=v) R1.o R1.k (h:=tw h) (by rw [List.length_set,R.len]; exact Rs.AK c)
 simp! only [w_xor,xor1,zq,x_lpn,x_lp2,e1,e2]
 rfl
theorem rO (R:RestAt S r m as rs) (c:h<as.length) (hz:as.length≤sizeLine):goF aN [.cell r, .int (h:Int)] ⟨sl,S⟩= .ok (.d (rD (rm rs (2*h+1)))) ⟨sl,S⟩:=by
 refine eW ?_
 show Wp (eN ⟨[some (.d (.cell r)),some (.d (.int (h:Int)))],S⟩) _ _
 unfold eN
 have h1:=R.o
 have h2:=R.k
 have h3:=roomR R (h:=2*h+1) (by omega)
 have e:(2:Int)*(h:Int)+1=((2*h+1:Nat):Int):=by omega
 have z:CMulX 2 (h:Int)=True:=eq_true (bU (by omega) (by omega) (by omega) (by rw [sizeLine_eq] at hz; omega))
 simp! only [aj cZ,h1,h2,z,e,h3]
theorem zh {src t:Nat} (R:RestAt S r m as rs) (hs:src<m) (ht:t<m) (hz:m<sizeLine):
  goF bE [.cell r, .lst (kR m (Rs.cP as rs e m src)), .int (t:Int)] ⟨sl,S⟩= .ok (.own (.lst ((Rs.dI as rs e m src t).map nD))) ⟨sl,S⟩:=Br R (Rs.bc R.ok hs) ht hz
theorem yN {w:List Nat} (hw:∃h∈w,rm rs h≠none):qW (.own (.lst ((w.filter fun h=>(rm rs h).isSome).map fun h=>rD (rm rs h)))) s= .ok (.d (.int (Rs.bo rs w))) s:=by
 have e:(w.filter fun h=>(rm rs h).isSome).map (fun h=>rD (rm rs h))=(w.filterMap (rm rs)).map D.int:=by
  clear hw
  induction w with
  | nil=>rfl
  | cons h w ih=>
   cases c:rm rs h with
   | none=>rw [List.filter_cons_of_neg (by rw [c]; decide),List.filterMap_cons_none c]; exact ih
   | some v=>rw [List.filter_cons_of_pos (by rw [c]; rfl),List.filterMap_cons_some c,List.map_cons,List.map_cons,ih,c]; rfl
 obtain ⟨h,hh,hn⟩:=hw
 obtain ⟨v,ev⟩:=Option.ne_none_iff_exists'.mp hn
 have hm:v∈w.filterMap (rm rs):=List.mem_filterMap.mpr ⟨h,hh,ev⟩
 unfold qW Rs.bo
 simp only [gX,e]
 cases c:w.filterMap (rm rs) with
 | nil=>rw [c] at hm; cases hm
 | cons i is=>
  have:kQ ((i::is).map D.int)=some (i::is):=by rw [mE (fun i=>i),List.map_id']
  rw [this]
abbrev lfS (r:Nat) (v1 v2:Option Vl) (l:Int) (v4 v5 v6:Option Vl) (S:Sto):SD:=
 ⟨[some (.d (.cell r)),v1,v2,some (.d (.int l)),v4,v5,v6],S⟩
noncomputable def lfB:SD→R Fl:=(af (aA (z1 qW (zLc (aU (aG (aa 4))) (zSt 6) (zB (z2 (kB true) (z2 oIx (z1 (aB ["Rest"] "rooms") (aa 0)) (aa 6)) (zC .non))) (z2 oIx (z1 (aB ["Rest"] "rooms") (aa 0)) (aa 6)) [6])) (zSt 5))
 (af (cC (aU (aG (aa 4))) (zSt 6) (az (ar "Rest" "change" dJ [] (aa 0) (zA (aa 6) (zA (aa 5) zA0)))))
 (af (zAug 3 (fun a b=>a+b) (aa 5))
 (aA (ar "Rest" "way_to" bE [] (aa 0) (zA (ar "Rest" "walked" bF [] (aa 0) (zA (aa 1) (zA (zC (.bl false)) zA0))) (zA (aa 2) zA0))) (zSt 4)))))
theorem lf_eq:fD=(af (aA (zC (.int 0)) (zSt 3))
 (af (aA (ar "Rest" "way_to" bE [] (aa 0) (zA (ar "Rest" "walked" bF [] (aa 0) (zA (aa 1) (zA (zC (.bl false)) zA0))) (zA (aa 2) zA0))) (zSt 4))
 (af (zWh (zB (z2 oNe (aa 4) (bV zA0))) lfB)
 (aW (aa 3))))):=rfl
theorem lf_turn {src t:Nat} {l:Int} {v5 v6:Option Vl} (R:RestAt S r m as rs) (G:Rs.Good as m src t rs) (hz:m<sizeLine) (hw:Rs.dI as rs false m src t≠ []):
  let w:=Rs.dI as rs false m src t; let rs' :=Rs.push rs w (Rs.bo rs w)
  Wp (lfB (lfS r (some (.d (.int (src:Int)))) (some (.d (.int (t:Int)))) l (some (.own (.lst (w.map nD)))) v5 v6 S)) (fun fl s' =>fl= .nx∧∃v5 v6,s' =lfS r (some (.d (.int (src:Int)))) (some (.d (.int (t:Int)))) (l+Rs.bo rs w) (some (.own (.lst ((Rs.dI as rs' false m src t).map nD)))) v5 v6 (S.put (r+2) (.lst (rs'.map rD)))) XF:=by
 intro w rs'
 have W:=Rs.nS G hw
 have hf:∃h∈w,rm rs h≠none:=Classical.byContradiction fun q=>G.fin ((Rs.bc G.ok G.hs).rch.mpr (Rs.vt W.path fun h hh=>⟨(W.all h hh).1,Classical.byContradiction fun q2=>q ⟨h,hh,q2⟩⟩))
 have hl:w.length≤sizeLine:=by
  have h1:=List.Nodup.length_le_of_subset W.nd (l₂:=List.range m) fun p hp=>List.mem_range.mpr (by
   rcases List.mem_cons.mp hp with rfl | hp
   ·exact G.hs
   ·obtain ⟨h,hh,rfl⟩:=List.mem_map.mp hp
    exact G.ok.hd (W.all h hh).1)
  rw [List.length_range,List.length_cons,List.length_map] at h1
  show (Rs.dI as rs false m src t).length≤sizeLine
  have h2:(Rs.dI as rs false m src t).length+1≤m:=h1
  omega
 have h1:=R.o
 have h2:=R.k
 have e1:=fun s=>yN (s:=s) hf
 unfold lfB
 simp! only []
 rw [dB (l:=w) nD (fun h=>rD (rm rs h)) (fun h=>(rm rs h).isSome) rfl rfl Nl.d1 trivial (fun h hh=>?_) hl]
 ·simp! only [e1]
  rw [ae]
  refine kj (fun j s=>∃v6,s=lfS r (some (.d (.int (src:Int)))) (some (.d (.int (t:Int)))) l (some (.d (.lst (w.map nD)))) (some (.d (.int (Rs.bo rs w)))) v6 (S.put (r+2) (.lst ((Rs.push rs (w.take j) (Rs.bo rs w)).map rD)))) Nl.d1 (fun _ _ _=>trivial) ⟨_,by rw [List.take_zero]; show _=lfS _ _ _ _ _ _ _ (S.put (r+2) (.lst (rs.map rD))); rw [oU h2]⟩ (fun j x s ex hI=>?_) (fun s hI=>?_)
  ·obtain ⟨u6,rfl⟩:=hI
   have ex:(w.map nD)[j]? =some x:=ex
   rw [List.getElem?_map] at ex
   cases eh:w[j]? with
   | none=>rw [eh] at ex; cases ex
   | some h=>
    rw [eh] at ex
    cases ex
    have hh:=(W.all h (List.mem_of_getElem? eh)).1
    have hlen:(Rs.push rs (w.take j) (Rs.bo rs w)).length=rs.length:=(Rs.gR (n:=as.length) G.len fun h hh=>(W.all h (List.mem_of_mem_take hh)).1).len
    have R1:=R.rooms hlen
    have o1:=R1.o
    have e2:=fun sl:List (Option Vl)=>Bt (sl:=sl) (v:=Rs.bo rs w) R1 hh
    simp! only [ay yQ,o1,e2,lZ]
    exact ⟨some (.d (nD h)),by rw [show Rs.push rs (w.take (j+1)) (Rs.bo rs w)=Rs.chg (Rs.push rs (w.take j) (Rs.bo rs w)) h (Rs.bo rs w) from lL eh]⟩
  ·obtain ⟨u6,rfl⟩:=hI
   have el:Rs.push rs (w.take (w.map nD).length) (Rs.bo rs w)=rs' :=by
    rw [List.length_map,List.take_length]
   have R1:=R.rooms (rs' :=rs') (Rs.gR (n:=as.length) G.len fun h hh=>(W.all h hh).1).len
   have o1:=R1.o
   show Wp (seqK _ Fl.nx (lfS r (some (.d (.int (src:Int)))) (some (.d (.int (t:Int)))) l (some (.d (.lst (w.map nD)))) (some (.d (.int (Rs.bo rs w)))) u6 (S.put (r+2) (.lst ((Rs.push rs (w.take (w.map nD).length) (Rs.bo rs w)).map rD))))) _ _
   rw [el]
   have e2:=fun sl:List (Option Vl)=>pH (sl:=sl) (e:=false) R1 G.hs hz
   have e3:=fun sl:List (Option Vl)=>zh (sl:=sl) (e:=false) R1 G.hs G.ht hz
   simp! only [↓zQ,jD,qx,ay mc,ay rk,o1,e2,e3]
   exact ⟨_,_,rfl⟩
 ·have hh:=(W.all h hh).1
  have h3:=roomR R hh
  unfold Z.fM
  simp! only [aj cZ,h1,h2,h3,isN_r]
  cases rm rs h<;> simp! only [rD,Option.isNone_none,Option.isNone_some,Option.isSome_none,Option.isSome_some]
theorem g_lift {src t:Nat} (R:RestAt S r m as rs) (G:Rs.Good as m src t rs) (hz:m<sizeLine):
  ∃rs' a,Rs.Lift as m src t rs rs' a∧∀sl,goF bQ [.cell r, .int (src:Int), .int (t:Int)] ⟨sl,S⟩= .ok (.d (.int a)) ⟨sl,S.put (r+2) (.lst (rs'.map rD))⟩:=by
 have main:∃rs' a,Rs.Lift as m src t rs rs' a∧Wp (fD ⟨[some (.d (.cell r)),some (.d (.int (src:Int))),some (.d (.int (t:Int))),none,none,none,none],S⟩) (fun fl s' =>flv fl=some (.d (.int a))∧s'.st=S.put (r+2) (.lst (rs'.map rD))) XF:=by
  suffices h:Wp (fD ⟨[some (.d (.cell r)),some (.d (.int (src:Int))),some (.d (.int (t:Int))),none,none,none,none],S⟩) (fun fl s' =>∃rs' a,Rs.Lift as m src t rs rs' a∧flv fl=some (.d (.int a))∧s'.st=S.put (r+2) (.lst (rs'.map rD))) XF by
   obtain ⟨fl,s',e,rs',a,L,h⟩:=h.is
   exact ⟨rs',a,L,by rw [e]; exact h⟩
  have o1:=R.o
  have e2:=fun sl:List (Option Vl)=>pH (sl:=sl) (e:=false) R G.hs hz
  have e3:=fun sl:List (Option Vl)=>zh (sl:=sl) (e:=false) R G.hs G.ht hz
  rw [lf_eq]
  simp! only [ay mc,ay rk,o1,e2,e3]
  rw [ae]
  refine wh_w (m:=Rs.todo as m src rs) (fun k s=>∃rs1 l v5 v6,s=lfS r (some (.d (.int (src:Int)))) (some (.d (.int (t:Int)))) l (some (.own (.lst ((Rs.dI as rs1 false m src t).map nD)))) v5 v6 (S.put (r+2) (.lst (rs1.map rD)))∧rs1.length=rs.length∧Rs.Good as m src t rs1∧(∀rs2 a,Rs.Lift as m src t rs1 rs2 a→Rs.Lift as m src t rs rs2 (l+a))∧k=Rs.todo as m src rs1) ⟨rs,0,none,none,by rw [oU R.k],rfl,G,fun rs2 a L=>by rw [Int.zero_add]; exact L,rfl⟩ ?_
  rintro k s ⟨rs1,l,v5,v6,rfl,hl,G1,fw,rfl⟩
  have R1:=R.rooms hl
  simp! only [ae]
  by_cases c:Rs.dI as rs1 false m src t= []
  ·have L:=fw rs1 0 (.done c)
   rw [Int.add_zero] at L
   simp! only [c,List.map_nil]
   exact ⟨rs1,l,L,rfl,rfl⟩
  ·have c2:((Rs.dI as rs1 false m src t).map nD).isEmpty=false:=by
    cases q:Rs.dI as rs1 false m src t with
    | nil=>exact absurd q c
    | cons _ _=>rfl
   simp! only [c2]
   obtain ⟨A,hp⟩:=Rs.ka G1 (Rs.nS G1 c)
   refine (lf_turn (v5:=v5) (v6:=v6) (l:=l) R1 G1 hz c).mono (fun fl s' hh=>?_) fun _ _ _ h=>h.elim
   obtain ⟨rfl,u5,u6,rfl⟩:=hh
   refine ⟨_,Rs.todo_lt G1 A hp,_,_,u5,u6,by rw [lZ],A.sh.len.trans hl,G1.shift A,fun rs2 a L=>?_,rfl⟩
   have:=fw rs2 _ (.step c L)
   rw [←Int.add_assoc] at this
   exact this
 obtain ⟨rs',a,L,h⟩:=main
 exact ⟨rs',a,L,fun sl=>eW h⟩
end
end T

set_option maxHeartbeats 4000000
namespace Rs
theorem ta_app {as:As} {a:Nat×Nat} {k:Nat}:ta (as++ [a]) k=if k=as.length then a.1 else ta as k:=by
 unfold ta
 rw [List.getD_eq_getElem?_getD,List.getD_eq_getElem?_getD]
 by_cases c:k=as.length
 ·subst c; rw [if_pos rfl,List.getElem?_append_right (Nat.le_refl _),Nat.sub_self]; rfl
 ·rw [if_neg c]
  by_cases c2:k<as.length
  ·rw [List.getElem?_append_left c2]
  ·rw [List.getElem?_append_right (by omega),List.getElem?_eq_none (by simp; omega),List.getElem?_eq_none (l:=as) (by omega)]
theorem he_app {as:As} {a:Nat×Nat} {k:Nat}:he (as++ [a]) k=if k=as.length then a.2 else he as k:=by
 unfold he
 rw [List.getD_eq_getElem?_getD,List.getD_eq_getElem?_getD]
 by_cases c:k=as.length
 ·subst c; rw [if_pos rfl,List.getElem?_append_right (Nat.le_refl _),Nat.sub_self]; rfl
 ·rw [if_neg c]
  by_cases c2:k<as.length
  ·rw [List.getElem?_append_left c2]
  ·rw [List.getElem?_append_right (by omega),List.getElem?_eq_none (by simp; omega),List.getElem?_eq_none (l:=as) (by omega)]
theorem hd_app {as:As} {a:Nat×Nat} {h:Nat} (c:h<2*as.length):hd (as++ [a]) h=hd as h∧tl (as++ [a]) h=tl as h:=by
 have c2:¬h / 2=as.length:=by omega
 unfold hd tl
 rw [ta_app,he_app,if_neg c2,if_neg c2]
 exact ⟨rfl,rfl⟩
theorem hd_new {as:As} {a:Nat×Nat}:hd (as++ [a]) (2*as.length)=a.2∧hd (as++ [a]) (2*as.length+1)=a.1∧tl (as++ [a]) (2*as.length)=a.1∧tl (as++ [a]) (2*as.length+1)=a.2:=by
 rw [tl_even.1,tl_even.2,tl_odd.1,tl_odd.2,ta_app,he_app,if_pos rfl,if_pos rfl]
 exact ⟨rfl,rfl,rfl,rfl⟩
theorem qL (n:Nat):List.range (2*(n+1))=List.range (2*n)++ [2*n,2*n+1]:=by
 rw [show 2*(n+1)=2*n+1+1 by omega,List.range_succ,List.range_succ,List.append_assoc]
 rfl
theorem zd {as:As} {a:Nat×Nat}:iI (as++ [a])=iI as++ [a.2,a.1]:=by
 unfold iI
 rw [List.length_append,List.length_singleton,qL,List.map_append]
 congr 1
 ·exact List.map_congr_left fun h hh=>(hd_app (List.mem_range.mp hh)).1
 ·simp only [List.map_cons,List.map_nil]
  rw [hd_new.1,hd_new.2.1]
theorem wt {as:As} {a:Nat×Nat} {p:Nat}:starts (as++ [a]) p=starts as p++((if a.1=p then [2*as.length] else [])++if a.2=p then [2*as.length+1] else []):=by
 unfold starts
 rw [List.length_append,List.length_singleton,qL,List.filter_append]
 congr 1
 ·exact List.filter_congr fun h hh=>by rw [(hd_app (List.mem_range.mp hh)).2]
 ·simp only [List.filter_cons,List.filter_nil]
  rw [hd_new.2.2.1,hd_new.2.2.2]
  by_cases c1:a.1=p<;> by_cases c2:a.2=p<;> simp [c1,c2]
theorem AsOk.app {as:As} {a:Nat×Nat} {m:Nat} (o:AsOk as m) (h1:a.1<m) (h2:a.2<m):AsOk (as++ [a]) m:=fun b hb=>by
 rcases List.mem_append.mp hb with hb | hb
 ·exact o b hb
 ·rw [List.mem_singleton.mp hb]; exact ⟨h1,h2⟩
end Rs
namespace T
open PySem PySem.Spec PyProof.Rows L2 M Z
open Classical
open Rs (As tw hd tl rm kO BS hst pst bfs starts iI)
section
variable {a b:Vl} {s:SD} {S:Sto} {sl:List (Option Vl)} {x y:D} {n h m r p q t:Nat} {as:As} {rs:List (Option Int)} {e:Bool}
theorem wo:Z.upTo 0 m=(List.range m).map nD:=by
 unfold Z.upTo
 exact List.map_congr_left fun k _=>by rw [Int.zero_add]
theorem ox:∀l:List Nat,scs (l.map nD)=some (l.map fun k:Nat=>V.int (k:Int))
 | []=>rfl
 | a::l=>by rw [List.map_cons,scs,ox l]; rfl
theorem zc (k:Nat):∀l:List Nat,inV (.int (k:Int)) (l.map fun k:Nat=>V.int (k:Int))=decide (k∈l)
 | []=>rfl
 | y::r=>by
  have ih:=zc k r
  unfold inV at ih ⊢
  rw [List.map_cons,List.any_cons,ih]
  rw [Bool.eq_iff_iff]
  simp only [Bool.or_eq_true,decide_eq_true_eq,List.mem_cons]
  have e:eqV (V.int (y:Int)) (V.int (k:Int))=true↔k=y:=by
   show ((y:Int) == (k:Int))=true↔_
   rw [beq_iff_eq]
   omega
  rw [e]
theorem in_nat {neg:Bool} {L:List Nat} {k:Nat}:∀s:SD,inK neg s (some (.int (k:Int))) (some (.lst (L.map nD)))= .ok (.d (.bl (if neg then !decide (k∈L) else decide (k∈L)))) s:=fun s=>kE (by
 unfold dIn
 simp only [ox,D.sc,zc])
theorem gq {f:Nat→D}:dF ((List.range n).map f)=(List.range n).map fun p:Nat=>D.tup [.int (p:Int),f p]:=by
 unfold dF
 refine List.ext_getElem (by simp) fun i h1 h2=>?_
 simp
theorem rL {src:Nat} (R:RestAt S r m as rs) (hs:src<m) (hz:m<sizeLine):goF aZ [.cell r, .int (src:Int)] ⟨sl,S⟩= .ok (.own (.lst ((List.range m).map fun p=>D.bl (Rs.cz as rs false m src p)))) ⟨sl,S⟩:=by
 refine eW ?_
 show Wp (eL ⟨[some (.d (.cell r)),some (.d (.int (src:Int))),none,none,none],S⟩) _ _
 unfold eL
 have o1:=R.o
 have e2:=fun sl:List (Option Vl)=>pH (sl:=sl) (e:=false) R hs hz
 simp! only [ay mc,o1,e2]
 rw [dk (l:=List.range m) (fun p:Nat=>D.tup [.int (p:Int),oD ((Rs.cP as rs false m src).came p)]) (fun p=>D.bl (Rs.cz as rs false m src p)) gq rfl Nl.d1 trivial (fun p hp=>?_) (by rw [List.length_range]; omega)]
 ·simp! only []
 ·have hp:=List.mem_range.mp hp
  have W:=Rs.bc (rs:=rs) (e:=false) R.ok hs
  unfold Z.fM
  simp! only [isN_o]
  have c3:decide ((p:Int)=(src:Int))=decide (p=src):=decide_eq_decide.mpr (by omega)
  have c4:Rs.cz as rs false m src p=(decide (p=src) || !((Rs.cP as rs false m src).came p).isNone):=by
   unfold Rs.cz
   by_cases c:p=src
   ·subst c; rw [decide_eq_true W.sr,decide_eq_true (rfl:p=p)]; rfl
   ·rw [decide_eq_false c,Bool.false_or]
    by_cases c2:p∈(Rs.cP as rs false m src).row
    ·obtain ⟨h,e,_⟩:=W.inn p c2 c
     rw [decide_eq_true c2,e]; rfl
    ·rw [decide_eq_false c2,W.out p c2]; rfl
  rw [c3,c4]
  cases decide (p=src)<;> simp! only []<;> rfl
def endD (as:As) (rs:List (Option Int)) (m s t:Nat):Vl:=if Rs.dI as rs true m s t= [] then .d .non else .own (.lst ((Rs.dI as rs true m s t).map fun h=> .int ((h / 2:Nat):Int)))
def dz (xs:List D) (S:Sto):Sto:=⟨S.nx+xs.length,fun j=>if j<S.nx then S.get j else match xs[j - S.nx]? with
 | some x=>some x
 | none=>S.get j⟩
theorem jd {xs:List D} {j:Nat} (h:j<S.nx):(dz xs S).get j=S.get j:=if_pos h
theorem oY {xs:List D} {j:Nat} (h:xs[j]? =some x):(dz xs S).get (S.nx+j)=some x:=by
 show (if S.nx+j<S.nx then _ else match xs[S.nx+j - S.nx]? with | some x=>some x | none=>S.get (S.nx+j))=_
 rw [if_neg (by omega),show S.nx+j - S.nx=j by omega,h]
theorem gU {xs:List D}:dz xs (S.new x)=dz (x::xs) S:=by
 unfold dz
 have h1:(S.new x).nx=S.nx+1:=rfl
 rw [h1,List.length_cons,show S.nx+1+xs.length=S.nx+(xs.length+1) by omega]
 congr 1
 funext j
 show (if j<S.nx+1 then (if j=S.nx then some x else S.get j) else match xs[j - (S.nx+1)]? with | some x=>some x | none=>(if j=S.nx then some x else S.get j))=_
 by_cases c:j<S.nx
 ·rw [if_pos (by omega),if_neg (by omega),if_pos c]
 ·rw [if_neg c]
  by_cases c2:j=S.nx
  ·subst c2; rw [if_pos (by omega),if_pos rfl,Nat.sub_self]; rfl
  ·rw [if_neg (by omega),show j - S.nx=(j - (S.nx+1))+1 by omega,List.getElem?_cons_succ,if_neg c2]
theorem jc:dz [] S=S:=by
 unfold dz
 have:(fun j=>if j<S.nx then S.get j else match ([]:List D)[j - S.nx]? with | some x=>some x | none=>S.get j)=S.get:=funext fun j=>by
  split
  ·rfl
  ·simp
 rw [this]
 rfl
theorem vH {f:D→D} {fz:Vl→SD→R Unit} {fe:SD→R Vl} {is:List Nat}:∀{ds acc:List D} {S:Sto},(∀d∈ds,∀S:Sto,Wp (fz (.d d) ⟨sl,S⟩) (fun _ s1=>Wp (fe s1) (fun a s2=>a= .d (.cell S.nx)∧s2.st=S.new (f d)∧eQ s2.sl is=sl) XF) XF)→acc.length+ds.length≤sizeLine→
  iT (fun _=>True) fz bP fe is ds acc ⟨sl,S⟩= .ok (acc++(List.range ds.length).map fun p=> .cell (S.nx+p)) ⟨sl,dz (ds.map f) S⟩
 | [],acc,S,_,_=>by
  unfold iT
  rw [if_pos trivial,List.map_nil,jc]
  simp
 | d::ds,acc,S,h,hl=>by
  unfold iT
  rw [if_pos trivial]
  obtain ⟨_,s1,e1,h1⟩:=(h d (List.mem_cons_self ..) S).is
  obtain ⟨a,s2,e2,rfl,h2,h3⟩:=h1.is
  rw [List.length_cons] at hl
  rw [e1]
  show R.bind (R.nx (fe s1)) _=_
  rw [e2]
  show (if acc.length<sizeLine then iT _ fz bP fe is ds (acc++ [.cell S.nx]) ⟨eQ s2.sl is,s2.st⟩ else .bad)=_
  rw [if_pos (by omega),h3,h2,vH (fun d hd=>h d (List.mem_cons_of_mem _ hd)) (by simp; omega),List.map_cons,gU]
  congr 1
  rw [List.append_assoc,List.length_cons,List.range_succ_eq_map,List.map_cons,List.map_map]
  congr 1
  show D.cell S.nx::_=D.cell (S.nx+0)::_
  rw [Nat.add_zero]
  congr 1
  refine List.map_congr_left fun p _=>?_
  show D.cell (S.nx+1+p)=D.cell (S.nx+(p+1))
  congr 1
  omega
theorem Bj {f:D→D} {fz:Vl→SD→R Unit} {fe:SD→R Vl} {is:List Nat} {sl0:List (Option Vl)} {ds:List D} {S:Sto} {hs:List Vl} (hN:Nl hs) (e0:eQ sl0 is=sl) (h:∀d∈ds,∀S:Sto,Wp (fz (.d d) ⟨sl,S⟩) (fun _ s1=>Wp (fe s1) (fun a s2=>a= .d (.cell S.nx)∧s2.st=S.new (f d)∧eQ s2.sl is=sl) XF) XF) (hl:ds.length≤sizeLine):
  lcK fz bP fe is ⟨hs,fun _=>True,ds⟩ ⟨sl0,S⟩= .ok (.own (.lst ((List.range ds.length).map fun p=> .cell (S.nx+p)))) ⟨sl,dz (ds.map f) S⟩:=by
 unfold lcK
 rw [if_pos hN]
 show R.bind (R.nx (iT (fun _=>True) fz bP fe is ds [] ⟨eQ sl0 is,S⟩)) _=_
 rw [e0,vH h (by simpa using hl)]
 rfl
structure Grow (S S' :Sto):Prop where
 old:∀j,j<S.nx→S'.get j=S.get j
 nx:S.nx≤S'.nx
theorem rest_f1 {x:D}:fP "many" x ([]:List (Str×D))=([("many",x)]:List (Str×D)):=Eq.trans rfl rfl
theorem rest_f2 {x y:D}:fP "heads" x ([("many",y)]:List (Str×D))=([("many",y),("heads",x)]:List (Str×D)):=Eq.trans rfl rfl
theorem rest_f3 {x y z:D}:fP "rooms" x ([("many",y),("heads",z)]:List (Str×D))=([("many",y),("heads",z),("rooms",x)]:List (Str×D)):=Eq.trans rfl rfl
theorem rest_f4 {x y z u:D}:fP "starts" x ([("many",y),("heads",z),("rooms",u)]:List (Str×D))=([("many",y),("heads",z),("rooms",u),("starts",x)]:List (Str×D)):=Eq.trans rfl rfl
theorem rg62 (hz:m<sizeLine):(-(2 ^ 62)≤(m:Int)∧(m:Int)<2 ^ 62)=True:=eq_true ⟨by omega,by rw [sizeLine_eq] at hz; omega⟩
noncomputable def inD:SD→R Fl:=(bj ["Rest"] "starts" (aa 0) (bx (zLc (sk (zA (aa 1) zA0)) (zSt 2) bP (bx (bV zA0)) [2])))
theorem in_eq {g:SD→R Fl} (hg:g=inD):fE=(af (bj ["Rest"] "many" (aa 0) (aa 1))
 (af (bj ["Rest"] "heads" (aa 0) (bx (bV zA0)))
 (af (bj ["Rest"] "rooms" (aa 0) (bx (bV zA0)))
 g))):=by
 subst hg
 rfl
section
variable {r:Nat} {Q:Fl→SD→Prop} {v2:Option Vl} {g:SD→R Fl}
theorem in_a (h:Wp (g ⟨[some (.d (.cell r)),some (.d (.int (m:Int))),v2],S.put r (.obj "Rest" [("many", .int (m:Int))])⟩) Q XF) (h1:S.get r=some (.obj "Rest" [])):Wp (((af (bj ["Rest"] "many" (aa 0) (aa 1))
 g)) ⟨[some (.d (.cell r)),some (.d (.int (m:Int))),v2],S⟩) Q XF:=by
 simp! only [h1,rest_f1]
 exact h
theorem in_b (h:Wp (g ⟨[some (.d (.cell r)),some (.d (.int (m:Int))),v2],(S.new (.lst [])).put r (.obj "Rest" [("many", .int (m:Int)),("heads", .cell S.nx)])⟩) Q XF) (h1:S.get r=some (.obj "Rest" [("many", .int (m:Int))])) (h2:r<S.nx):Wp (((af (bj ["Rest"] "heads" (aa 0) (bx (bV zA0)))
 g)) ⟨[some (.d (.cell r)),some (.d (.int (m:Int))),v2],S⟩) Q XF:=by
 have h3:∀x,(S.new x).get r=some (.obj "Rest" [("many", .int (m:Int))]):=fun x=>(fK (by omega)).trans h1
 simp! only [h3,rest_f2]
 exact h
theorem in_c (hh:Wp (g ⟨[some (.d (.cell r)),some (.d (.int (m:Int))),v2],(S.new (.lst [])).put r (.obj "Rest" [("many", .int (m:Int)),("heads",x),("rooms", .cell S.nx)])⟩) Q XF) (h1:S.get r=some (.obj "Rest" [("many", .int (m:Int)),("heads",x)])) (h2:r<S.nx):Wp (((af (bj ["Rest"] "rooms" (aa 0) (bx (bV zA0)))
 g)) ⟨[some (.d (.cell r)),some (.d (.int (m:Int))),v2],S⟩) Q XF:=by
 have h3:∀y,(S.new y).get r=some (.obj "Rest" [("many", .int (m:Int)),("heads",x)]):=fun y=>(fK (by omega)).trans h1
 simp! only [h3,rest_f3]
 exact hh
def cellsN (n m:Nat):List D:=(List.range m).map fun p=> .cell (n+p)
theorem in_d (hg:g=inD) (hz:m<sizeLine) (h:Q .nx ⟨[some (.d (.cell r)),some (.d (.int (m:Int))),none],((dz (List.replicate m (.lst [])) S).new (.lst (cellsN S.nx m))).put r (.obj "Rest" [("many", .int (m:Int)),("heads",x),("rooms",y),("starts", .cell (S.nx+m))])⟩) (h1:S.get r=some (.obj "Rest" [("many", .int (m:Int)),("heads",x),("rooms",y)])) (h2:r<S.nx):Wp (g ⟨[some (.d (.cell r)),some (.d (.int (m:Int))),v2],S⟩) Q XF:=by
 subst hg
 have z0:=rg62 hz
 have hm:((m:Nat):Int).toNat=m:=Int.toNat_natCast m
 have len:(Z.upTo 0 m).length=m:=by unfold Z.upTo; rw [List.length_map,List.length_range]
 have nx1:(dz (List.replicate m (.lst [])) S).nx=S.nx+m:=by show S.nx+(List.replicate m _).length=_; rw [List.length_replicate]
 have h3:∀z,((dz (List.replicate m (.lst [])) S).new z).get r=some (.obj "Rest" [("many", .int (m:Int)),("heads",x),("rooms",y)]):=fun z=>(fK (by omega)).trans ((jd h2).trans h1)
 unfold inD
 simp! only [z0,hm]
 rw [Bj (f:=fun _=> .lst []) (sl:= [some (.d (.cell r)),some (.d (.int (m:Int))),none]) (fun e he=>(by cases he)) rfl (fun d hd S=>?_) (by rw [len]; omega)]
 ·rw [len,show (Z.upTo 0 m).map (fun _=>(.lst []:D))=List.replicate m (.lst []) by rw [List.map_const',len]]
  simp! only [nx1,h3,rest_f4]
  exact h
 ·simp! only []
end
theorem qJ {S0:Sto} (hz:m<sizeLine):∃S',(∀sl,goF bf [.cell S0.nx, .int (m:Int)] ⟨sl,S0.new (.obj "Rest" [])⟩= .ok (.d .non) ⟨sl,S'⟩)∧RestAt S' S0.nx m [] []∧Grow S0 S'∧S'.nx=S0.nx+4+m:=by
 suffices h:Wp (fE ⟨[some (.d (.cell S0.nx)),some (.d (.int (m:Int))),none],S0.new (.obj "Rest" [])⟩) (fun fl s' =>flv fl=some (.d .non)∧RestAt s'.st S0.nx m [] []∧Grow S0 s'.st∧s'.st.nx=S0.nx+4+m) XF by
  obtain ⟨fl,s',e,h1,h2,h3,h4⟩:=h.is
  exact ⟨s'.st,fun sl=>eW (by show Wp (fE ⟨[some (.d (.cell S0.nx)),some (.d (.int (m:Int))),none],S0.new (.obj "Rest" [])⟩) _ _; rw [e]; exact ⟨h1,rfl⟩),h2,h3,h4⟩
 obtain ⟨g,hg⟩:∃g,g=inD:=⟨_,rfl⟩
 rw [in_eq hg]
 refine in_a ?_ bH
 rw [oZ]
 refine in_b ?_ bH (by show _<_+1; omega)
 refine in_c ?_ Z.Sto.put_same (by show _<_+1+1; omega)
 have a1:∀(S:Sto) x,(S.new x).nx=S.nx+1:=fun _ _=>rfl
 have a2:∀(S:Sto) i x,(S.put i x).nx=S.nx:=fun _ _ _=>rfl
 have a3:∀(S:Sto) i x j,(S.put i x).get j=if j=i then some x else S.get j:=fun _ _ _ _=>rfl
 have a4:∀(S:Sto) x j,(S.new x).get j=if j=S.nx then some x else S.get j:=fun _ _ _=>rfl
 have b1:(S0.nx+1=S0.nx)=False:=eq_false (by omega)
 have b2:(S0.nx+1+1=S0.nx)=False:=eq_false (by omega)
 have b3:(S0.nx+1=S0.nx+1+1)=False:=eq_false (by omega)
 generalize hT:((((S0.new (D.obj "Rest" [("many", .int (m:Int))])).new (.lst [])).put S0.nx (.obj "Rest" [("many", .int (m:Int)),("heads", .cell (S0.new (D.obj "Rest" [("many", .int (m:Int))])).nx)])).new (.lst [])).put S0.nx (.obj "Rest" [("many", .int (m:Int)),("heads", .cell (S0.new (D.obj "Rest" [("many", .int (m:Int))])).nx),("rooms", .cell (((S0.new (D.obj "Rest" [("many", .int (m:Int))])).new (.lst [])).put S0.nx (.obj "Rest" [("many", .int (m:Int)),("heads", .cell (S0.new (D.obj "Rest" [("many", .int (m:Int))])).nx)])).nx)])=T
 have t0:T.get S0.nx=some (.obj "Rest" [("many", .int (m:Int)),("heads", .cell (S0.nx+1)),("rooms", .cell (S0.nx+1+1))]):=by rw [←hT,a3,if_pos rfl]; rfl
 have t1:T.get (S0.nx+1)=some (.lst []):=by rw [←hT]; simp only [a1,a2,a3,a4,b1,b3,if_false,if_true]
 have t2:T.get (S0.nx+2)=some (.lst []):=by rw [←hT]; rw [show S0.nx+2=S0.nx+1+1 from rfl]; simp only [a1,a2,a3,a4,b2,if_false,if_true]
 have t3:T.nx=S0.nx+3:=by rw [←hT]; rfl
 have t4:∀j,j<S0.nx→T.get j=S0.get j:=fun j hj=>by
  have b4:(j=S0.nx)=False:=eq_false (by omega)
  have b5:(j=S0.nx+1)=False:=eq_false (by omega)
  have b6:(j=S0.nx+1+1)=False:=eq_false (by omega)
  rw [←hT]; simp only [a1,a2,a3,a4,b4,b5,b6,if_false]
 clear hT a1 a2 a3 a4 b1 b2 b3
 refine in_d hg hz ?_ t0 (by omega)
 clear hg
 have nx1:(dz (List.replicate m (.lst [])) T).nx=S0.nx+3+m:=by show T.nx+(List.replicate m _).length=_; rw [List.length_replicate,t3]
 have lt:∀j,j<S0.nx+3→(dz (List.replicate m (.lst [])) T).get j=T.get j:=fun j hj=>jd (by omega)
 have ge:∀p,p<m→(dz (List.replicate m (.lst [])) T).get (S0.nx+3+p)=some (.lst []):=fun p hp=>by
  rw [←t3]
  exact oY (by rw [List.getElem?_replicate,if_pos hp])
 generalize hN:dz (List.replicate m (.lst [])) T=N at nx1 lt ge ⊢
 have gt:∀j x y,j≠S0.nx→j≠S0.nx+3+m→((N.new x).put S0.nx y).get j=N.get j:=fun j x y h1 h2=>(Z.Sto.put_ne h1).trans (fK (by omega))
 refine ⟨rfl,⟨?_, ?_, ?_, ?_, ?_, ?_,rfl,fun a h=>(by cases h)⟩,⟨?_, ?_⟩, ?_⟩
 ·show ((N.new _).put S0.nx _).get S0.nx=_
  rw [Z.Sto.put_same,t3]
 ·exact (gt _ _ _ (by omega) (by omega)).trans ((lt _ (by omega)).trans t1)
 ·exact (gt _ _ _ (by omega) (by omega)).trans ((lt _ (by omega)).trans t2)
 ·show ((N.new _).put S0.nx _).get (S0.nx+3+m)=_
  rw [Z.Sto.put_ne (by omega),←nx1,bH,t3]
  rfl
 ·exact fun p hp=>(gt _ _ _ (by omega) (by omega)).trans (ge p hp)
 ·show S0.nx+4+m≤N.nx+1
  omega
 ·exact fun j hj=>(gt _ _ _ (by omega) (by omega)).trans ((lt _ (by omega)).trans (t4 j hj))
 ·show S0.nx≤N.nx+1
  omega
 ·show N.nx+1=_
  omega
noncomputable def paI:SD→R Fl:=(af (az (zM2 isL (oB2 aE) (z2 oIx (z1 (aB ["Rest"] "starts") (aa 0)) (aa 5)) (aG (z1 de (z1 (aB ["Rest"] "heads") (aa 0))))))
 (af (az (zM2 isL (oB2 aE) (z1 (aB ["Rest"] "heads") (aa 0)) (aG (aa 6))))
 (az (zM2 isL (oB2 aE) (z1 (aB ["Rest"] "rooms") (aa 0)) (aG (aa 7))))))
theorem pa_eq:eM=(af (cC (zItT (aG (hX (zA (hX (zA (aa 1) (zA (aa 2) (zA (aa 3) zA0)))) (zA (hX (zA (aa 2) (zA (aa 1) (zA (aa 4) zA0)))) zA0))))) (ig [5,6,7]) paI)
 (aW (z2 sq (z2 dy (z1 de (z1 (aB ["Rest"] "heads") (aa 0))) (zC (.int 2))) (zC (.int 1))))):=rfl
abbrev paS (r:Nat) (v1 v2 v3 v4:Option Vl) (p q:Nat) (x:D) (S:Sto):SD:=
 ⟨[some (.d (.cell r)),v1,v2,v3,v4,some (.d (.int (p:Int))),some (.d (.int (q:Int))),some (.d x)],S⟩
theorem yB {v1 v2 v3 v4:Option Vl} {l1 l2 l3:List D} (o:S.get r=some (.obj "Rest" (dZ r m))) (h:S.get (r+1)=some (.lst l2)) (k:S.get (r+2)=some (.lst l3))
  (s:S.get (r+3+m)=some (.lst ((List.range m).map fun p=> .cell (r+3+p)))) (h1:S.get (r+3+p)=some (.lst l1)) (hp:p<m) (z1:l1.length<sizeLine) (z2:l2.length<sizeLine) (z3:l3.length<sizeLine):
  paI (paS r v1 v2 v3 v4 p q x S)= .ok .nx (paS r v1 v2 v3 v4 p q x (((S.put (r+3+p) (.lst (l1++ [.int (l2.length:Int)]))).put (r+1) (.lst (l2++ [.int (q:Int)]))).put (r+2) (.lst (l3++ [x])))):=by
 have h4:∀s:SD,ixK s (some (.lst ((List.range m).map fun p=>D.cell (r+3+p)))) (some (.int (p:Int)))= .ok (.d (.cell (r+3+p))) s:=fun s=>ixR (f:=fun p=>D.cell (r+3+p)) hp
 have y1:(l1.length<sizeLine)=True:=eq_true z1
 have y2:(l2.length<sizeLine)=True:=eq_true z2
 have y3:(l3.length<sizeLine)=True:=eq_true z3
 have e1:∀y,(S.put (r+3+p) y).get r=some (.obj "Rest" (dZ r m)):=fun y=>(Z.Sto.put_ne (by omega)).trans o
 have e2:∀y,(S.put (r+3+p) y).get (r+1)=some (.lst l2):=fun y=>(Z.Sto.put_ne (by omega)).trans h
 have e3:∀y z,((S.put (r+3+p) y).put (r+1) z).get r=some (.obj "Rest" (dZ r m)):=fun y z=>(Z.Sto.put_ne (by omega)).trans (e1 y)
 have e4:∀y z,((S.put (r+3+p) y).put (r+1) z).get (r+2)=some (.lst l3):=fun y z=>(Z.Sto.put_ne (by omega)).trans ((Z.Sto.put_ne (by omega)).trans k)
 unfold paI
 simp! only [aj qI,aj gQ,aj cZ,o,h,k,s,h1,h4,y1,y2,y3,e1,e2,e3,e4]
theorem mr {u b:Option Int} (R:RestAt S r m as rs) (ht:t<m) (hh:h<m) (hn:t≠h) (hz:2*as.length+2<sizeLine):
  ∃S',(∀sl,goF aH [.cell r, .int (t:Int), .int (h:Int),rD u,rD b] ⟨sl,S⟩= .ok (.d (.int (as.length:Int))) ⟨sl,S'⟩)∧RestAt S' r m (as++ [(t,h)]) (rs++ [u,b])∧S'.nx=S.nx∧∀j,(j<r∨r+4+m≤j)→S'.get j=S.get j:=by
 have R0:=R
 obtain ⟨o,h1,k,s,p,nx,len,ok⟩:=R
 have lh:((iI as).map nD).length=2*as.length:=by unfold iI; rw [List.length_map,List.length_map,List.length_range]
 have lr:(rs.map rD).length=2*as.length:=by rw [List.length_map,len]
 have lst:∀q,((starts as q).map nD).length≤2*as.length:=fun q=>by
  rw [List.length_map]
  unfold Rs.starts
  exact Nat.le_trans (List.length_filter_le ..) (by rw [List.length_range]; exact Nat.le_refl _)
 have e1:=fun v1 v2 v3 v4=>yB (v1:=v1) (v2:=v2) (v3:=v3) (v4:=v4) (q:=h) (x:=rD u) o h1 k s (p t ht) ht (by have:=lst t; omega) (by omega) (by omega)
 rw [lh] at e1
 generalize hS:((S.put (r+3+t) (.lst ((starts as t).map nD++ [.int ((2*as.length:Nat):Int)]))).put (r+1) (.lst ((iI as).map nD++ [.int (h:Int)]))).put (r+2) (.lst (rs.map rD++ [rD u]))=T at e1
 have tne:∀j,j≠r+3+t→j≠r+1→j≠r+2→T.get j=S.get j:=fun j c1 c2 c3=>by
  rw [←hS,Z.Sto.put_ne c3,Z.Sto.put_ne c2,Z.Sto.put_ne c1]
 have t1:T.get (r+3+t)=some (.lst ((starts as t).map nD++ [.int ((2*as.length:Nat):Int)])):=by
  rw [←hS,Z.Sto.put_ne (by omega),Z.Sto.put_ne (by omega),Z.Sto.put_same]
 have t2:T.get (r+1)=some (.lst ((iI as).map nD++ [.int (h:Int)])):=by
  rw [←hS,Z.Sto.put_ne (by omega),Z.Sto.put_same]
 have t3:T.get (r+2)=some (.lst (rs.map rD++ [rD u])):=by
  rw [←hS,Z.Sto.put_same]
 have tn:T.nx=S.nx:=by rw [←hS]; rfl
 have e2:=fun v1 v2 v3 v4=>yB (v1:=v1) (v2:=v2) (v3:=v3) (v4:=v4) (q:=t) (x:=rD b) ((tne r (by omega) (by omega) (by omega)).trans o) t2 t3 ((tne _ (by omega) (by omega) (by omega)).trans s) ((tne (r+3+h) (by omega) (by omega) (by omega)).trans (p h hh)) hh (by have:=lst h; omega) (by rw [List.length_append,lh]; show _+1<_; omega) (by rw [List.length_append,lr]; show _+1<_; omega)
 rw [List.length_append,lh] at e2
 generalize hS2:((T.put (r+3+h) (.lst ((starts as h).map nD++ [.int ((2*as.length+ [D.int (h:Int)].length:Nat):Int)]))).put (r+1) (.lst ((iI as).map nD++ [.int (h:Int)]++ [.int (t:Int)]))).put (r+2) (.lst (rs.map rD++ [rD u]++ [rD b]))=T2 at e2
 have une:∀j,j≠r+3+h→j≠r+1→j≠r+2→T2.get j=T.get j:=fun j c1 c2 c3=>by
  rw [←hS2,Z.Sto.put_ne c3,Z.Sto.put_ne c2,Z.Sto.put_ne c1]
 have u1:T2.get (r+3+h)=some (.lst ((starts as h).map nD++ [.int ((2*as.length+ [D.int (h:Int)].length:Nat):Int)])):=by
  rw [←hS2,Z.Sto.put_ne (by omega),Z.Sto.put_ne (by omega),Z.Sto.put_same]
 have u2:T2.get (r+1)=some (.lst ((iI as).map nD++ [.int (h:Int)]++ [.int (t:Int)])):=by
  rw [←hS2,Z.Sto.put_ne (by omega),Z.Sto.put_same]
 have u3:T2.get (r+2)=some (.lst (rs.map rD++ [rD u]++ [rD b])):=by
  rw [←hS2,Z.Sto.put_same]
 have un:T2.nx=T.nx:=by rw [←hS2]; rfl
 refine ⟨T2,fun sl=>?_,⟨?_, ?_, ?_, ?_, ?_, ?_, ?_,ok.app ht hh⟩,un.trans tn,fun j hj=>(une j (by omega) (by omega) (by omega)).trans (tne j (by omega) (by omega) (by omega))⟩
 ·refine eW ?_
  show Wp (eM ⟨[some (.d (.cell r)),some (.d (.int (t:Int))),some (.d (.int (h:Int))),some (.d (rD u)),some (.d (rD b)),none,none,none],S⟩) _ _
  rw [pa_eq]
  have o2:T2.get r=some (.obj "Rest" (dZ r m)):=(une r (by omega) (by omega) (by omega)).trans ((tne r (by omega) (by omega) (by omega)).trans o)
  have z:∀i:Int,CDivW i 2=True:=fun i=>eq_true (aF (by decide) (by decide))
  have l2:(((iI as).map nD++ [D.int (h:Int)]++ [D.int (t:Int)]).length:Int) / 2 - 1=(as.length:Int):=by
   rw [List.length_append,List.length_append,lh]
   show ((2*as.length+1+1:Nat):Int) / 2 - 1=_
   omega
  clear hS hS2 tne une t1 t2 t3 u1 u3
  simp! only [zq,x_lpn,x_lp2,e1,e2,o2,u2,aj gQ,z,l2]
 ·exact (une r (by omega) (by omega) (by omega)).trans ((tne r (by omega) (by omega) (by omega)).trans o)
 ·rw [u2,Rs.zd,List.map_append,List.append_assoc]
  rfl
 ·rw [u3,List.map_append,List.append_assoc]
  rfl
 ·exact (une _ (by omega) (by omega) (by omega)).trans ((tne _ (by omega) (by omega) (by omega)).trans s)
 ·intro q hq
  rw [Rs.wt,List.map_append,List.map_append]
  by_cases c1:h=q
  ·subst c1
   rw [u1,if_neg hn,if_pos rfl]
   rfl
  ·rw [une _ (by omega) (by omega) (by omega),if_neg (show¬(t,h).2=q from c1)]
   by_cases c2:t=q
   ·subst c2
    rw [t1,if_pos rfl]
    rfl
   ·rw [tne _ (by omega) (by omega) (by omega),if_neg (show¬(t,h).1=q from c2),p q hq]
    simp
 ·rw [un,tn]; exact nx
 ·rw [List.length_append,List.length_append,len]; show _=2*(as.length+1); show _+2=_; omega
end
end T

set_option maxHeartbeats 4000000
namespace T
open PySem PySem.Spec PyProof.Rows L2 M Z
open Classical
local macro_rules | `(tactic| walk_at "zi") => `(tactic| repeat (refine Z.iteW (by first | decide | omega | (refine M.aF ?_ ?_ <;> omega) | (refine M.bU ?_ ?_ ?_ ?_ <;> omega)) ?_))
section
variable {s:SD}
theorem sqBd {a b:Int} (h0:0≤a) (h1:a≤b):0≤a*a∧a*a≤b*b:=⟨Int.mul_nonneg h0 h0,Int.mul_le_mul h1 h1 h0 (by omega)⟩
theorem Aj {ns:List Int} (k:Int) (h:ns≠ []):∃c:Int,∀s:SD,ixK s (some (.con (ns.map .int))) (some (.int (k%((ns.map D.int).length:Int))))= .ok (.d (.int c)) s:=by
 have h1:0<(ns.length:Int):=by
  cases ns with
  | nil=>exact absurd rfl h
  | cons a r=>simp
 have h2:=Int.emod_nonneg k (b:=(ns.length:Int)) (by omega)
 have h3:=Int.emod_lt_of_pos k h1
 rw [List.length_map]
 refine ⟨ns.getD (k%(ns.length:Int)).toNat 0,fun s=>cf ?_⟩
 show atI (ns.map D.int) _=_
 rw [qj,atI_in 0 h2 h3]
 rfl
theorem jk (ns:List Int) (k:Int) (h0:0≤k) (h1:k≤1000):∃n:Int,0≤n∧n<2147483629∧∀s:SD,goF bX [.con (ns.map .int), .int k] s= .ok (.d (.int n)) s:=by
 have h4:=sqBd (a:=k+3) (b:=1003) (by omega) (by omega)
 by_cases hn:ns= []
 ·subst hn
  refine ⟨((1:Int)%2147483629*48271+(k+3)*(k+3)*69621)%2147483647*16807%2147483629,by omega,by omega,fun s=>?_⟩
  refine vL ?_
  show Wp (gJ ⟨[some (.d (.con [])),some (.d (.int k)),none,none],s.st⟩) _ _
  unfold gJ
  have e1:decide ((([]:List D).length:Int) > 0)=false:=by decide
  simp! only [e1]
  walk_at "zi"
  trivial
 ·obtain ⟨c,ec⟩:=Aj k hn
  refine ⟨(c%2147483629*48271+(k+3)*(k+3)*69621)%2147483647*16807%2147483629,by omega,by omega,fun s=>?_⟩
  refine vL ?_
  show Wp (gJ ⟨[some (.d (.con (ns.map .int))),some (.d (.int k)),none,none],s.st⟩) _ _
  unfold gJ
  have hp:((ns.map D.int).length:Int) > 0:=by
   rw [List.length_map]
   cases ns with
   | nil=>exact absurd rfl hn
   | cons a r=>simp
  have e1:decide (((ns.map D.int).length:Int) > 0)=true:=decide_eq_true hp
  have e2:(0<((ns.map D.int).length:Int))=True:=eq_true hp
  simp! only [e1,e2,ec]
  walk_at "zi"
  trivial
theorem cpw60:qt 10 60=True:=eq_true ⟨by decide,by decide⟩
theorem cpw61:qt 7 61=True:=eq_true ⟨by decide,by decide⟩
theorem powM:(10:Int) ^ (60:Int).toNat=1000000000000000000000000000000000000000000000000000000000000:=by decide+kernel
theorem pow7:(7:Int) ^ (61:Int).toNat=3556153025177363557255317383565515512407041673852007:=by decide+kernel
theorem vO (ns:List Int) (k:Int) (h0:0≤k) (h1:k≤1000):∃n:Int,0≤n∧n≤1000000000000000000000000000000000000000000000000000000000000∧∀s:SD,goF gN [.con (ns.map .int), .int k] s= .ok (.d (.int n)) s:=by
 have h4:=sqBd (a:=k) (b:=1000) (by omega) (by omega)
 by_cases hn:ns= []
 ·subst hn
  refine ⟨(1%1000000000000000000000000000000000000000000000000000000000000+1+k*k)*3556153025177363557255317383565515512407041673852007%(1000000000000000000000000000000000000000000000000000000000000+1),by omega,by omega,fun s=>?_⟩
  refine vL ?_
  show Wp (jC ⟨[some (.d (.con [])),some (.d (.int k)),none],s.st⟩) _ _
  unfold jC
  have e1:decide ((([]:List D).length:Int) > 0)=false:=by decide
  simp! only [e1,cpw60,cpw61,powM,pow7]
  walk_at "zi"
  trivial
 ·obtain ⟨c,ec⟩:=Aj k hn
  refine ⟨(c%1000000000000000000000000000000000000000000000000000000000000+1+k*k)*3556153025177363557255317383565515512407041673852007%(1000000000000000000000000000000000000000000000000000000000000+1),by omega,by omega,fun s=>?_⟩
  refine vL ?_
  show Wp (jC ⟨[some (.d (.con (ns.map .int))),some (.d (.int k)),none],s.st⟩) _ _
  unfold jC
  have hp:((ns.map D.int).length:Int) > 0:=by
   rw [List.length_map]
   cases ns with
   | nil=>exact absurd rfl hn
   | cons a r=>simp
  have e1:decide (((ns.map D.int).length:Int) > 0)=true:=decide_eq_true hp
  have e2:(0<((ns.map D.int).length:Int))=True:=eq_true hp
  simp! only [e1,e2,ec,cpw60,cpw61,powM,pow7]
  walk_at "zi"
  trivial
end
section
variable {s:SD} {x z:D}
def isWh:D→Bool
 | .int _=>true
 | _=>false
theorem nE {n:String} (h:x.knd=some n):goF eR [x] s= .ok (.d (.bl (isWh x))) s:=by
 refine vL ?_
 show Wp (ko ⟨[some (.d x)],s.st⟩) _ _
 unfold ko
 cases x<;> first | (walk_at "zs" <;> rfl) | cases h
def isAm (lo hi:Int):D→Bool
 | .int i=>decide (lo≤i)&&decide (i≤hi)
 | _=>false
theorem ki {n:String} {lo hi:Int} (h:x.knd=some n):goF cq [x, .int lo, .int hi] s= .ok (.d (.bl (isAm lo hi x))) s:=by
 refine vL ?_
 show Wp (kq ⟨[some (.d x),some (.d (.int lo)),some (.d (.int hi))],s.st⟩) _ _
 unfold kq
 have h1:∀s:SD,goF eR [x] s= .ok (.d (.bl (isWh x))) s:=fun s=>nE h
 cases x<;> dsimp only [isWh] at h1<;> first | (walk_at "zs" <;> rfl) | cases h | skip
 all_goals walk_at "zs"
 split<;> rename_i c<;> simp only [isAm]<;> simp only [decide_eq_true_eq] at c<;> simp [c]
def jE (z b:Str):Bool:=z.cps.toList.all fun c=>decide (c∈b.cps.toList)
theorem ua {z b:Str} (hz:z.length≤1000000):goF iq [.str z, .str b] s= .ok (.d (.bl (jE z b))) s:=by
 refine vL ?_
 show Wp (iP ⟨[some (.d (.str z)),some (.d (.str b)),none],s.st⟩) _ _
 unfold iP
 walk_at "zs"
 rw [lc_map (fun d=>match dIn d (.str b) with | some r=> .bl r | none=> .non) rfl Nl.d1 trivial (fun d hd=>?_) (by show (Z.signs z).length≤_; unfold Z.signs; rw [List.length_map]; exact Nat.le_trans hz (by decide))]
 ·walk_at "zs"
  rw [all_own (bs:=z.cps.toList.map fun c=>decide (c∈b.cps.toList)) (by
   show BB ((Z.signs z).map _)=_
   unfold Z.signs
   rw [List.map_map]
   exact wa _ _)]
  walk_at "zs"
  unfold jE
  rw [List.all_map]
  rfl
 ·obtain ⟨c,_,rfl⟩:=List.mem_map.mp hd
  unfold Z.fM
  walk_at "zs"
  rw [kE (r:=decide (c∈b.cps.toList)) rfl]
  walk_at "zs"
  rfl
def isNm:D→Bool
 | .str z=>decide (1≤z.length)&&decide (z.length≤12)&&jE z "abcdefghijklmnopqrstuvwxyz"
 | _=>false
theorem zi {z:Str} (hz:z.length≤1000000):goF lH [.str z] s= .ok (.d (.bl (isNm (.str z)))) s:=by
 refine vL ?_
 show Wp (mP ⟨[some (.d (.str z))],s.st⟩) _ _
 unfold mP
 have h1:=fun (s:SD) b=>ua (s:=s) (b:=b) hz
 have h2:z.length≤sizeLine:=Nat.le_trans hz (by decide)
 walk_at "zs"
 have e1:decide (1≤(z.length:Int))=decide (1≤z.length):=by apply decide_eq_decide.mpr; omega
 have e2:decide ((z.length:Int)≤12)=decide (z.length≤12):=by apply decide_eq_decide.mpr; omega
 rw [e1,e2]
 simp only [isNm]
 cases decide (1≤z.length)<;> cases decide (z.length≤12)<;> simp
abbrev M60:Int:=1000000000000000000000000000000000000000000000000000000000000
def rmOk (l:Int):D→Bool
 | .non=>true
 | .int m=>decide (l≤m)&&decide (m≤M60)
 | _=>false
theorem tZ {l:Int} (h0:0≤l) (h1:l≤M60) (h:rmOk l x=true):goF ik [.int l,x] s= .ok (.d .non) s:=by
 refine vL ?_
 show Wp (iN ⟨[some (.d (.int l)),some (.d x)],s.st⟩) _ _
 unfold iN
 have k1:∀(s:SD),goF cq [.int l, .int 0, .int M60] s= .ok (.d (.bl true)) s:=fun s=>by
  rw [ki (n:= "int") rfl]
  simp only [isAm,h0,h1,decide_true,Bool.and_self]
 cases x with
 | non=>walk_at "zs"
 | int m=>
  have k2:∀(s:SD),goF cq [.int m, .int l, .int M60] s= .ok (.d (.bl true)) s:=fun s=>by
   rw [ki (n:= "int") rfl]
   rw [show isAm l M60 (.int m)=true from h]
  walk_at "zs"
 | _=>cases h
theorem rN {p:Int} (h0: -M60≤p) (h1:p≤M60):goF fS [.int p] s= .ok (.d .non) s:=by
 refine vL ?_
 show Wp (gE ⟨[some (.d (.int p))],s.st⟩) _ _
 unfold gE
 have k1:∀(s:SD),goF cq [.int p, .int (0 - M60), .int M60] s= .ok (.d (.bl true)) s:=fun s=>by
  rw [ki (n:= "int") rfl]
  simp only [isAm,show (0 - M60≤p) from by omega,h1,decide_true,Bool.and_self]
 walk_at "zs"
end
structure TD where
 tail:Str
 head:Str
 least:Int
 most:Option Int
 price:Int
structure ND where
 names:List Str
 ties:List (Int×TD)
 given:Int
def kf:Option Int→D
 | none=> .non
 | some m=> .int m
def sH (i:Int) (t:TD):List (Str×D):= [("number", .int i),("tail", .str t.tail),("head", .str t.head),("least", .int t.least),("most",kf t.most),("price", .int t.price)]
def cT (q:Int×TD):D:= .obj "Tie" (sH q.1 q.2)
def bK (f:Int×TD→D) (ts:List (Int×TD)):List (Key×D):=ts.map fun q=>(.inl q.1,f q)
def fO (l d:Nat) (g:Int):List (Str×D):= [("names", .cell l),("rows", .cell d),("last_given", .int g)]
structure NetAt (S:Sto) (n l d:Nat) (N:ND):Prop where
 n:S.get n=some (.obj "Net" (fO l d N.given))
 l:S.get l=some (.lst (N.names.map .str))
 d:S.get d=some (.dct (bK cT N.ties))
section
variable {l d:Nat} {g i:Int} {t:TD}
theorem kY:bO (fO l d g) "names" =some (.cell l):=rfl
theorem oW:bO (fO l d g) "rows" =some (.cell d):=rfl
theorem kZ:bO (fO l d g) "last_given" =some (.int g):=rfl
theorem lJ:bO (sH i t) "number" =some (.int i):=rfl
theorem sJ:bO (sH i t) "tail" =some (.str t.tail):=rfl
theorem sM:bO (sH i t) "head" =some (.str t.head):=rfl
theorem oi:bO (sH i t) "least" =some (.int t.least):=rfl
theorem sL:bO (sH i t) "most" =some (kf t.most):=rfl
theorem oh:bO (sH i t) "price" =some (.int t.price):=rfl
theorem fq:bO (fO l d g) "need_place" =none:=rfl
theorem ef:bO (fO l d g) "put_numbered" =none:=rfl
theorem mf:bO (fO l d g) "tie_of" =none:=rfl
theorem mN_ties:bO (fO l d g) "ties" =none:=rfl
theorem yR:bO (fO l d g) "places" =none:=rfl
theorem Bi:bO (fO l d g) "given" =none:=rfl
end
local macro_rules | `(tactic| walk_at "zn") => `(tactic| simp! only [Z.aj T.kY, Z.aj T.oW, Z.aj T.kZ, Z.aj T.lJ, Z.aj T.sJ, Z.aj T.sM, Z.aj T.oi, Z.aj T.sL, Z.aj T.oh, Z.ay T.fq, Z.ay T.ef, Z.ay T.mf, *])
section
variable {s:SD} {S:Sto} {sl:List (Option Vl)} {x y z:D} {n l d:Nat} {N:ND} {g i:Int} {t:TD} {a b:D}
theorem vM (h:NetAt S n l d N):goF cu [.cell n] ⟨sl,S⟩= .ok (.own (.lst (N.names.map .str))) ⟨sl,S⟩:=by
 refine eW ?_
 show Wp (gG ⟨[some (.d (.cell n))],S⟩) _ _
 unfold gG
 have h1:=h.n
 have h2:=h.l
 walk_at "zn"
theorem ou:∀l:List Str,scs (l.map D.str)=some (l.map V.str)
 | []=>rfl
 | a::l=>by rw [List.map_cons,scs,ou l]; rfl
theorem zb (z:Str):∀l:List Str,inV (.str z) (l.map V.str)=decide (z∈l)
 | []=>rfl
 | y::r=>by
  have ih:=zb z r
  unfold inV at ih ⊢
  rw [List.map_cons,List.any_cons,ih]
  rw [Bool.eq_iff_iff]
  simp only [Bool.or_eq_true,decide_eq_true_eq,List.mem_cons]
  have e:eqV (V.str y) (V.str z)=true↔z=y:=by
   show (y == z)=true↔_
   rw [beq_iff_eq]
   exact eq_comm
  rw [e]
theorem pE {w:Str} {l:List Str}:dIn (.str w) (.lst (l.map .str))=some (decide (w∈l)):=by
 unfold dIn
 simp only [ou,D.sc]
 rw [zb]
theorem eD {w:Str} (h:NetAt S n l d N) (hw:w∈N.names):goF bp [.cell n, .str w] ⟨sl,S⟩= .ok (.d .non) ⟨sl,S⟩:=by
 refine eW ?_
 show Wp (dE ⟨[some (.d (.cell n)),some (.d (.str w))],S⟩) _ _
 unfold dE
 have h1:=h.n
 have h2:=h.l
 have h3:=fun s:SD=>kE (s:=s) (neg:=true) (pE (w:=w) (l:=N.names))
 rw [decide_eq_true hw] at h3
 walk_at "zn"
def qC (ts:List (Int×TD)) (i:Int):Option TD:=(ts.find? fun q=>decide (q.1=i)).map (·.2)
theorem jn {f:Int×TD→D}:∀ts:List (Int×TD),mZ (bK f ts) (.inl i)=(qC ts i).map fun t=>f (i,t)
 | []=>rfl
 | q::ts=>by
  have ih:=jn (f:=f) ts
  unfold mZ qC bK at*
  rw [List.map_cons,List.find?_cons,List.find?_cons]
  by_cases c:q.1=i
  ·simp only [c,decide_true,Option.map_some]
   rw [←c]
  ·rw [show decide ((Sum.inl q.1:Key)= .inl i)=false from decide_eq_false fun e=>c (Sum.inl.inj e),show decide (q.1=i)=false from decide_eq_false c]
   exact ih
theorem Bs (h:NetAt S n l d N) (ht:qC N.ties i=some t):goF fT [.cell n, .int i] ⟨sl,S⟩= .ok (.d (cT (i,t))) ⟨sl,S⟩:=by
 refine eW ?_
 show Wp (gF ⟨[some (.d (.cell n)),some (.d (.int i))],S⟩) _ _
 unfold gF
 have h1:=h.n
 have h2:=h.d
 have h3:=fun s:SD=>nE (s:=s) (x:= .int i) rfl
 have e:=jn (f:=cT) (i:=i) N.ties
 rw [ht] at e
 have h4:dIn (.int i) (.dct (bK cT N.ties))=some true:=by
  show some (mZ (bK cT N.ties) (.inl i)).isSome=_
  rw [e]; rfl
 have h5:dIx (.dct (bK cT N.ties)) (.int i)=some (cT (i,t)):=e
 have h6:=fun s:SD=>kE (s:=s) (neg:=true) h4
 have h7:=fun s:SD=>cf (s:=s) h5
 dsimp only [isWh] at h3
 walk_at "zn"
def ie (rs:List (Int×TD)):Prop:=(rs.map (·.1)).Pairwise (· < ·)
theorem AO {is:List Int} (h:is.Pairwise (· < ·)):srt is=is:=
 (xQ (ys:=is) (List.Perm.refl _) (h.imp fun h=>Int.le_of_lt h)).symm
theorem wF (l:List Int):kQ (l.map D.int)=some l:=by
 have:=mE (fun i:Int=>i) l
 simpa using this
theorem fV:∀{ts:List (Int×TD)} (hr:ie ts) {q:Int×TD},q∈ts→qC ts q.1=some q.2
 | [],_,q,h=>by cases h
 | a::ts,hr,q,h=>by
  unfold ie at hr
  rw [List.map_cons,List.pairwise_cons] at hr
  unfold qC
  rw [List.find?_cons]
  rcases List.mem_cons.mp h with rfl | h
  ·simp
  ·have c:a.1≠q.1:=fun e=>by
    have:=hr.1 q.1 (List.mem_map.mpr ⟨q,h,rfl⟩)
    omega
   rw [show decide (a.1=q.1)=false from decide_eq_false c]
   exact fV hr.2 h
theorem g_ties (h:NetAt S n l d N) (hr:ie N.ties) (hl:N.ties.length≤40):goF dR [.cell n] ⟨sl,S⟩= .ok (.own (.lst (N.ties.map cT))) ⟨sl,S⟩:=by
 refine eW ?_
 show Wp (ku ⟨[some (.d (.cell n)),none],S⟩) _ _
 unfold ku
 have h1:=h.n
 have h2:=h.d
 have e1:kQ ((bK cT N.ties).map fun kv=>wD kv.1)=some (N.ties.map (·.1)):=by
  have:((bK cT N.ties).map fun kv=>wD kv.1)=(N.ties.map (·.1)).map D.int:=by
   unfold bK
   rw [List.map_map,List.map_map]
   rfl
  rw [this]
  exact wF _
 have h3:=fun s:SD=>xu (s:=s) (a:= .own (.lst ((bK cT N.ties).map fun kv=>wD kv.1))) rfl e1
 rw [AO hr] at h3
 walk_at "zn"
 rw [lc_map (fun x=>match x with | .int i=>(match qC N.ties i with | some t=>cT (i,t) | none=> .non) | _=> .non) rfl Nl.d1 trivial (fun x hx=>?_) (by show (List.map D.int _).length≤_; rw [List.length_map,List.length_map]; exact Nat.le_trans hl (by decide))]
 ·walk_at "zn"
  rw [List.map_map,List.map_map]
  show some (Vl.own (.lst _))=_
  congr 3
  refine List.map_congr_left fun q hq=>?_
  show (match qC N.ties q.1 with | some t=>cT (q.1,t) | none=> .non)=cT q
  rw [fV hr hq]
 ·obtain ⟨i,hi,rfl⟩:=List.mem_map.mp hx
  obtain ⟨q,hq,rfl⟩:=List.mem_map.mp hi
  have ht:=fV hr hq
  have e:=jn (f:=cT) (i:=q.1) N.ties
  rw [ht] at e
  have h5:dIx (.dct (bK cT N.ties)) (.int q.1)=some (cT q):=e
  have h7:=fun s:SD=>cf (s:=s) h5
  unfold Z.fM
  walk_at "zn"
theorem tY {w:Str} (h:NetAt S n l d N) (hw:isNm (.str w)=true) (hz:w.length≤1000000) (hn:w∉N.names) (hl:N.names.length<14):
  goF bR [.cell n, .str w] ⟨sl,S⟩= .ok (.d .non) ⟨sl,S.put l (.lst ((N.names++ [w]).map .str))⟩:=by
 refine eW ?_
 show Wp (eA ⟨[some (.d (.cell n)),some (.d (.str w))],S⟩) _ _
 unfold eA
 have h1:=h.n
 have h2:=h.l
 have h3:=fun s:SD=>zi (s:=s) hz
 have h4:=fun s:SD=>kE (s:=s) (neg:=false) (pE (w:=w) (l:=N.names))
 rw [decide_eq_false hn] at h4
 have h5:((((N.names.map D.str).length:Nat):Int)=14)=False:=by
  rw [List.length_map]
  exact eq_false (by omega)
 have h7:(N.names.map D.str).length<sizeLine:=by rw [List.length_map]; exact Nat.lt_trans hl (by decide)
 walk_at "zn"
 simp only [List.map_append,List.map_cons,List.map_nil]
def iS (ts:List (Int×TD)) (i:Int) (t:TD):List (Int×TD):=if (ts.any fun q=>decide (q.1=i))=true then ts.map (fun q=>if q.1=i then (i,t) else q) else ts++ [(i,t)]
def jo (ts:List (Int×TD)) (i:Int):List (Int×TD):=ts.filter fun q=>decide (q.1≠i)
theorem BM {f:Int×TD→D} (ts:List (Int×TD)):((bK f ts).any fun kv=>decide (kv.1= .inl i))=ts.any fun q=>decide (q.1=i):=by
 unfold bK
 rw [List.any_map]
 congr 1
 funext q
 apply decide_eq_decide.mpr
 exact ⟨fun h=>Sum.inl.inj h,fun h=>by show (Sum.inl q.1:Key)=_; rw [h]⟩
theorem zV {f:Int×TD→D} (ts:List (Int×TD)):dput (bK f ts) (.inl i) (f (i,t))=bK f (iS ts i t):=by
 unfold dput iS
 rw [BM]
 split
 ·unfold bK
  rw [List.map_map,List.map_map]
  refine List.map_congr_left fun q _=>?_
  show (if (Sum.inl q.1:Key)= .inl i then _ else _)=_
  by_cases c:q.1=i
  ·simp [c]
  ·have c2:¬(Sum.inl q.1:Key)= .inl i:=fun e=>c (Sum.inl.inj e)
   simp [c,c2]
 ·unfold bK
  rw [List.map_append]
  rfl
theorem wG {f:Int×TD→D} (ts:List (Int×TD)):wH (bK f ts) (.inl i)=bK f (jo ts i):=by
 unfold wH jo bK
 rw [List.filter_map]
 congr 1
 refine List.filter_congr fun q _=>?_
 apply decide_eq_decide.mpr
 exact not_congr ⟨fun h=>Sum.inl.inj h,fun h=>by show (Sum.inl q.1:Key)=_; rw [h]⟩
theorem NetAt.ne (h:NetAt S n l d N):n≠l∧n≠d∧l≠d:=by
 have h1:=h.n
 have h2:=h.l
 have h3:=h.d
 refine ⟨fun e=>?_,fun e=>?_,fun e=>?_⟩
 ·rw [e,h2] at h1; cases h1
 ·rw [e,h3] at h1; cases h1
 ·rw [e,h3] at h2; cases h2
theorem pt1:fP "number" x []=([("number",x)]:List (Str×D)):=rfl
theorem pt2:fP "tail" x [("number",a)]=([("number",a),("tail",x)]:List (Str×D)):=rfl
variable {c e m:D}
theorem pt3:fP "head" x [("number",a),("tail",b)]=([("number",a),("tail",b),("head",x)]:List (Str×D)):=rfl
theorem pt4:fP "least" x [("number",a),("tail",b),("head",c)]=([("number",a),("tail",b),("head",c),("least",x)]:List (Str×D)):=rfl
theorem pt5:fP "most" x [("number",a),("tail",b),("head",c),("least",e)]=([("number",a),("tail",b),("head",c),("least",e),("most",x)]:List (Str×D)):=rfl
theorem pt6:fP "price" x [("number",a),("tail",b),("head",c),("least",e),("most",m)]=([("number",a),("tail",b),("head",c),("least",e),("most",m),("price",x)]:List (Str×D)):=rfl
theorem pn1:fP "names" x []=([("names",x)]:List (Str×D)):=rfl
theorem pn2:fP "rows" x [("names",a)]=([("names",a),("rows",x)]:List (Str×D)):=rfl
theorem pn3:fP "last_given" x [("names",a),("rows",b)]=([("names",a),("rows",b),("last_given",x)]:List (Str×D)):=rfl
theorem AR {v:Vl}:sfK ["Net"] "last_given" (.int i) v s (some (.obj "Net" (fO l d g)))=(s.mod (.obj "Net" (fO l d i)) v).bind nxK:=fX (by unfold fO; simp)
theorem g_Tie:goF gM [.cell S.nx, .int i, .str t.tail, .str t.head, .int t.least,kf t.most, .int t.price] ⟨sl,S.new (.obj "Tie" [])⟩= .ok (.d .non) ⟨sl,S.new (cT (i,t))⟩:=by
 refine eW ?_
 show Wp (kr ⟨[some (.d (.cell S.nx)),some (.d (.int i)),some (.d (.str t.tail)),some (.d (.str t.head)),some (.d (.int t.least)),some (.d (kf t.most)),some (.d (.int t.price))],S.new (.obj "Tie" [])⟩) _ _
 unfold kr
 simp! only [pt1,pt2,pt3,pt4,pt5,pt6]
 rfl
end
local macro_rules | `(tactic| walk_at "zm") => `(tactic| simp! only [Z.aj T.kY, Z.aj T.oW, Z.aj T.kZ, Z.aj T.lJ, Z.aj T.sJ, Z.aj T.sM, Z.aj T.oi, Z.aj T.sL, Z.aj T.oh, Z.ay T.fq, Z.ay T.ef, Z.ay T.mf, T.AR, *])
section
variable {s:SD} {S:Sto} {sl:List (Option Vl)} {x y z:D} {n l d:Nat} {N:ND} {g i:Int} {t:TD} {a b:D}
structure TieOk (t:TD):Prop where
 l0:0≤t.least
 l1:t.least≤M60
 m:rmOk t.least (kf t.most)=true
 p0: -M60≤t.price
 p1:t.price≤M60
theorem mY (h:NetAt S n l d N) (hn:n<S.nx) (hd:d<S.nx) (hl:l<S.nx) (h1:t.tail∈N.names) (h2:t.head∈N.names) (h3:t.tail≠t.head) (ok:TieOk t) (h4:N.ties.length<40):
  goF cD [.cell n, .int i, .str t.tail, .str t.head, .int t.least,kf t.most, .int t.price] ⟨sl,S⟩= .ok (.d (.int i)) ⟨sl,(S.tick.put d (.dct (bK cT (iS N.ties i t)))).put n (.obj "Net" (fO l d i))⟩:=by
 refine eW ?_
 show Wp (cO ⟨[some (.d (.cell n)),some (.d (.int i)),some (.d (.str t.tail)),some (.d (.str t.head)),some (.d (.int t.least)),some (.d (kf t.most)),some (.d (.int t.price))],S⟩) _ _
 unfold cO
 have q1:=h.n
 have q2:=h.l
 have q3:=h.d
 have k1:=fun sl=>eD (sl:=sl) h h1
 have k2:=fun sl=>eD (sl:=sl) h h2
 have k3:=fun s=>tZ (s:=s) ok.l0 ok.l1 ok.m
 have k4:=fun s=>rN (s:=s) ok.p0 ok.p1
 have e3:=decide_eq_false h3
 have e4:decide ((((bK cT N.ties).length:Nat):Int)=40)=false:=by
  refine decide_eq_false ?_
  unfold bK
  rw [List.length_map]
  omega
 have e5:S.tick.get n=_:=(cF (Nat.ne_of_lt hn)).trans q1
 have e6:S.tick.get d=_:=(cF (Nat.ne_of_lt hd)).trans q3
 have e7:=fun sl=>je (sl:=sl) (S:=S) (i:=S.nx) (F:=gM) fun s=>g_Tie (sl:=s.sl) (S:=S) (i:=i) (t:=t)
 have e8:∀x:D,(S.tick.put d x).get n=some (.obj "Net" (fO l d N.given)):=fun x=>(Sto.put_ne h.ne.2.1).trans e5
 have e9:=fun s a=>sto_put (s:=s) (a:=a) (x:=cT (i,t)) (z:= .int i) (ks:=bK cT N.ties) rfl (by unfold bK; rw [List.length_map]; exact Nat.lt_trans h4 (by decide))
 simp only [zV] at e9
 walk_at "zm"
theorem rM (h:NetAt S n l d N) (hn:n<S.nx) (hd:d<S.nx) (hl:l<S.nx) (h1:t.tail∈N.names) (h2:t.head∈N.names) (h3:t.tail≠t.head) (ok:TieOk t) (h4:N.ties.length<40):
  goF au [.cell n, .str t.tail, .str t.head, .int t.least,kf t.most, .int t.price] ⟨sl,S⟩= .ok (.d (.int (N.given+1))) ⟨sl,(S.tick.put d (.dct (bK cT (iS N.ties (N.given+1) t)))).put n (.obj "Net" (fO l d (N.given+1)))⟩:=by
 refine eW ?_
 show Wp (fG ⟨[some (.d (.cell n)),some (.d (.str t.tail)),some (.d (.str t.head)),some (.d (.int t.least)),some (.d (kf t.most)),some (.d (.int t.price))],S⟩) _ _
 unfold fG
 have q1:=h.n
 have k1:=fun sl=>mY (sl:=sl) (i:=N.given+1) h hn hd hl h1 h2 h3 ok h4
 walk_at "zm"
theorem nF (h:NetAt S n l d N) (ht:qC N.ties i=some t):goF aC [.cell n, .int i] ⟨sl,S⟩= .ok (.d .non) ⟨sl,S.put d (.dct (bK cT (jo N.ties i)))⟩:=by
 refine eW ?_
 show Wp (eO ⟨[some (.d (.cell n)),some (.d (.int i))],S⟩) _ _
 unfold eO
 have q1:=h.n
 have q3:=h.d
 have k1:=fun sl=>Bs (sl:=sl) h ht
 have e:=jn (f:=cT) (i:=i) N.ties
 rw [ht] at e
 have e1:=fun s a=>b2_dpop (s:=s) (a:=a) (z:= .int i) rfl e
 simp only [wG] at e1
 walk_at "zm"
def rf (S:Sto):Sto:= {nx:=S.nx+3,get:=fun j=>if j=S.nx then some (.obj "Net" (fO (S.nx+1) (S.nx+2) 0)) else if j=S.nx+1 then some (.lst []) else if j=S.nx+2 then some (.dct []) else S.get j}
theorem nH:goF cR [.cell S.nx] ⟨sl,S.new (.obj "Net" [])⟩= .ok (.d .non) ⟨sl,rf S⟩:=by
 refine eW ?_
 show Wp (kx ⟨[some (.d (.cell S.nx))],S.new (.obj "Net" [])⟩) _ _
 unfold kx
 have e1:∀S x,(Sto.new S x).nx=S.nx+1:=fun _ _=>rfl
 have e2:∀a b,((S.new a).new b).get S.nx=some a:=fun a b=>by simp [Sto.new]
 have e3:∀a b c e,((((S.new a).new b).put S.nx c).new e).get S.nx=some c:=fun a b c e=>by rw [fK (by show S.nx≠S.nx+1+1; omega),Sto.put_same]
 simp! only [pn1,pn2,pn3,e1,e2,e3,vq]
 unfold rf Sto.new Sto.put
 congr 1
 funext j
 by_cases c1:j=S.nx
 ·subst c1; simp [fO]
 ·by_cases c2:j=S.nx+1
  ·subst c2; simp
  ·by_cases c3:j=S.nx+2
   ·subst c3; simp
   ·simp [c1,c2,c3]
def yL (S:Sto) (N:ND):Sto:= {nx:=S.nx+5,get:=fun j=>if j=S.nx then some (.obj "Net" (fO (S.nx+3) (S.nx+4) N.given)) else if j=S.nx+1 then some (.lst []) else if j=S.nx+2 then some (.dct []) else if j=S.nx+3 then some (.lst (N.names.map .str)) else if j=S.nx+4 then some (.dct (bK cT N.ties)) else S.get j}
theorem pm1:fP "names" x (fO l d g)=([("names",x),("rows", .cell d),("last_given", .int g)]:List (Str×D)):=rfl
theorem pm2:fP "rows" x ([("names",a),("rows",b),("last_given",y)]:List (Str×D))=([("names",a),("rows",x),("last_given",y)]:List (Str×D)):=rfl
theorem pm3:fP "last_given" x ([("names",a),("rows",b),("last_given",y)]:List (Str×D))=([("names",a),("rows",b),("last_given",x)]:List (Str×D)):=rfl
theorem sfnet {f:Str} {v:Vl}:sfK ["Net"] f x v s (some (.obj "Net" (fO l d g)))=(s.mod (.obj "Net" (fP f x (fO l d g))) v).bind nxK:=fX (by unfold fO; simp)
theorem vN (h:NetAt S n l d N) (hn:n<S.nx) (hl:l<S.nx) (hd:d<S.nx):goF bB [.cell n] ⟨sl,S⟩= .ok (.d (.cell S.nx)) ⟨sl,yL S N⟩:=by
 refine eW ?_
 show Wp (gH ⟨[some (.d (.cell n)),none],S⟩) _ _
 unfold gH
 have q1:=h.n
 have q2:=h.l
 have q3:=h.d
 have e1:∀S x,(Sto.new S x).nx=S.nx+1:=fun _ _=>rfl
 have e7:=fun sl=>je (sl:=sl) (S:=S) (i:=S.nx) (F:=cR) fun s=>nH (sl:=s.sl) (S:=S)
 have f1:∀j,j<S.nx→(rf S).get j=S.get j:=fun j hj=>by
  unfold rf
  simp [show j≠S.nx by omega,show j≠S.nx+1 by omega,show j≠S.nx+2 by omega]
 have e2:=(f1 n hn).trans q1
 have e3:=(f1 l hl).trans q2
 have x1:(rf S).nx=S.nx+3:=rfl
 have e4:∀a,((rf S).new a).get S.nx=some (.obj "Net" (fO (S.nx+1) (S.nx+2) 0)):=fun a=>by simp [Sto.new,rf]
 have e5:∀a c,(((rf S).new a).put S.nx c).get n=some (.obj "Net" (fO l d N.given)):=fun a c=>by
  rw [Sto.put_ne (by omega),fK (by rw [x1]; omega),e2]
 have e6:∀a c,(((rf S).new a).put S.nx c).get d=some (.dct (bK cT N.ties)):=fun a c=>by
  rw [Sto.put_ne (by omega),fK (by rw [x1]; omega),f1 d hd,q3]
 have e8:∀a c e,((((rf S).new a).put S.nx c).new e).get S.nx=some c:=fun a c e=>by
  rw [fK (by rw [vq,vA,x1]; omega),Sto.put_same]
 have e9:∀a c e f,(((((rf S).new a).put S.nx c).new e).put S.nx f).get n=some (.obj "Net" (fO l d N.given)):=fun a c e f=>by
  rw [Sto.put_ne (by omega),fK (by rw [vq,vA,x1]; omega),e5]
 simp! only [Z.aj T.kY,Z.aj T.oW,Z.aj T.kZ,pm1,pm2,pm3,sfnet,vq, *]
 unfold yL rf Sto.new Sto.put
 congr 1
 funext j
 by_cases c1:j=S.nx
 ·subst c1; simp [fO]
 ·by_cases c2:j=S.nx+1
  ·subst c2; simp
  ·by_cases c3:j=S.nx+2
   ·subst c3; simp
   ·by_cases c4:j=S.nx+3
    ·subst c4; simp
    ·by_cases c5:j=S.nx+4
     ·subst c5; simp
     ·simp [c1,c2,c3,c4,c5]
end
local macro_rules | `(tactic| walk_at "zi") => `(tactic| repeat (refine Z.iteW (by first | decide | omega | (refine M.aF ?_ ?_ <;> omega) | (refine M.bU ?_ ?_ ?_ ?_ <;> omega)) ?_))
section

theorem cp60:qt 10 60=True:=eq_true ⟨by decide,by decide⟩
theorem pow60:(10:Int) ^ (60:Int).toNat=M60:=by decide+kernel
def row6 (q:Int×TD):D:= .tup [.int q.1, .str q.2.tail, .str q.2.head, .int q.2.least,kf q.2.most, .int q.2.price]
end
end T

namespace T
open PySem PySem.Spec PyProof.Rows L2 M Z A
open Classical
open TL (tl)
local macro_rules | `(tactic| walk_at "zi") => `(tactic| repeat (refine Z.iteW (by first | decide | omega | (refine M.aF ?_ ?_ <;> omega) | (refine M.bU ?_ ?_ ?_ ?_ <;> omega)) ?_))
def Al (z:Str):Prop:=∀c∈tl z,c∈tl "abcdefghijklmnopqrstuvwxyz"
theorem BP {z:Str} (h:Al z):jE z "abcdefghijklmnopqrstuvwxyz" =true:=List.all_eq_true.mpr fun c hc=>decide_eq_true (h c hc)
theorem al_name {z:Str} (h:Al z) (h1:1≤z.length) (h2:z.length≤12):isNm (.str z)=true:=by
 show (decide (1≤z.length)&&decide (z.length≤12)&&jE z "abcdefghijklmnopqrstuvwxyz")=true
 rw [decide_eq_true h1,decide_eq_true h2,BP h]
 rfl
theorem al_cat {x y:Str} (h:Al x) (h2:Al y):Al (x++y):=fun c hc=>by
 rw [ng] at hc
 rcases List.mem_append.mp hc with hc | hc
 ·exact h c hc
 ·exact h2 c hc
theorem wg {x:Str} (lo hi:Option Int) (h:Al x):Al (cutS x lo hi):=fun c hc=>by
 rw [xI] at hc
 exact h c (List.mem_of_mem_drop (List.mem_of_mem_take hc))
theorem al_one {i:Int} {c:Nat} (h:atI (tl "abcdefghijklmnopqrstuvwxyz") i=some c):Al ⟨#[c]⟩:=fun d hd=>by
 have e:d=c:=List.mem_singleton.mp hd
 subst e
 unfold atI at h
 cases q:ixN (tl "abcdefghijklmnopqrstuvwxyz").length i with
 | none=>rw [q] at h; cases h
 | some j=>rw [q] at h; exact List.mem_of_getElem? h
theorem al_join {ws:List Str} (h:∀x∈ws,Al x):Al (Txt.join "" ws):=fun c hc=>by
 rw [uX] at hc
 obtain ⟨l,hl,hc⟩:=List.mem_flatten.mp hc
 obtain ⟨x,hx,e⟩:=List.mem_map.mp hl
 exact h x hx c (by rw [e]; exact hc)
theorem rp {z:Str} {i:Int} (h:0≤i):(cutS z none (some i)).length=min i.toNat z.length:=by
 rw [fU,tl_to _ _ h,List.length_take,←fU]
theorem vE {z:Str} {i:Int} (h:0≤i):(cutS z (some i) none).length=z.length - i.toNat:=by
 rw [fU,tl_from _ _ h,List.length_drop,←fU]
theorem sum_le:∀(ws:List Str) (k:Nat),(∀x∈ws,x.length≤k)→(ws.map (·.length)).sum≤ws.length*k
 | [],_,_=>Nat.zero_le _
 | x::r,k,h=>by
  have h1:=h x List.mem_cons_self
  have h2:=sum_le r k fun y hy=>h y (List.mem_cons_of_mem _ hy)
  rw [List.map_cons,List.sum_cons,List.length_cons,Nat.succ_mul]
  omega
theorem rW (xs:List D) {i:Int} (h:0≤i):Z.cutD xs (some i) none=xs.drop i.toNat:=by
 unfold Z.cutD
 rw [oL _ _ _ h]
 show (xs.drop (min i.toNat xs.length)).take (xs.length - min i.toNat xs.length)=_
 by_cases c:i.toNat≤xs.length
 ·rw [Nat.min_eq_left c,List.take_of_length_le (by simp)]
 ·rw [Nat.min_eq_right (by omega),List.drop_length,List.drop_eq_nil_of_le (by omega),List.take_nil]
theorem cutD_to (xs:List D) {i:Int} (h:0≤i):Z.cutD xs none (some i)=xs.take i.toNat:=by
 unfold Z.cutD
 rw [oL _ _ _ h]
 show (xs.drop 0).take (min i.toNat xs.length - 0)=_
 rw [List.drop_zero,Nat.sub_zero]
 by_cases c:i.toNat≤xs.length
 ·rw [Nat.min_eq_left c]
 ·rw [Nat.min_eq_right (by omega),List.take_of_length_le (Nat.le_refl _),List.take_of_length_le (by omega)]
def ltr (i:Int):Str:=match atI (tl "abcdefghijklmnopqrstuvwxyz") i with
 | some c=>⟨#[c]⟩
 | none=> ""
theorem rn {i:Int} (h0:0≤i) (h1:i<26):dIx (.str "abcdefghijklmnopqrstuvwxyz") (.int i)=some (.str (ltr i))∧(ltr i).length=1∧Al (ltr i):=by
 have h2:i<((tl "abcdefghijklmnopqrstuvwxyz").length:Nat):=by rw [show (tl "abcdefghijklmnopqrstuvwxyz").length=26 by decide+kernel]; exact h1
 have h3:=atI_in (xs:=tl "abcdefghijklmnopqrstuvwxyz") 0 h0 h2
 have e:ltr i=⟨#[(tl "abcdefghijklmnopqrstuvwxyz").getD i.toNat 0]⟩:=by unfold ltr; rw [h3]
 refine ⟨?_,by rw [e]; rfl,by rw [e]; exact al_one h3⟩
 show (if (Str.ofString "abcdefghijklmnopqrstuvwxyz").length≤sizeLine then (atI (tl "abcdefghijklmnopqrstuvwxyz") i).map fun c=>D.str ⟨#[c]⟩ else none)=_
 rw [if_pos (by decide+kernel),h3,e]
 rfl
def firsts (ws:List Str):List Str:=(ws.zipIdx.filter fun q=>!decide (q.1∈ws.take q.2)).map (·.1)
def fp (ws:List Str):D→Bool
 | .tup [.int j, .str z]=>!decide (z∈ws.take j.toNat)
 | _=>false
def ff:D→D
 | .tup [_,z]=>z
 | _=> .non
section
variable {z:D}
theorem nl0:Nl []:=fun e he=>by cases he

def w2f (n at_:Int) (fr:Str) (j:Int):Str:=cutS fr none (some at_)++ltr ((n / 2000+5*j)%26)++cutS fr (some at_) none
theorem w2_ok {n at_:Int} {fr:Str} (hfa:Al fr) (a0:0≤at_) (a1:at_≤fr.length) (j:Int):(w2f n at_ fr j).length=fr.length+1∧Al (w2f n at_ fr j):=by
 obtain ⟨_,l1,l2⟩:=rn (i:=(n / 2000+5*j)%26) (Int.emod_nonneg _ (by decide)) (Int.emod_lt_of_pos _ (by decide))
 have hc1:=rp (z:=fr) a0
 have hc2:=vE (z:=fr) a0
 unfold w2f
 refine ⟨?_,al_cat (al_cat (wg _ _ hfa) l2) (wg _ _ hfa)⟩
 rw [A.tN,A.tN,hc1,hc2,l1]
 omega
abbrev NmOk (z:Str):Prop:=Al z∧1≤z.length∧z.length≤12∧z≠ "zzzyzzzyzzzy"
end
end T

namespace T
open PySem PySem.Spec PyProof.Rows L2 M Z A
open Classical
local macro_rules | `(tactic| walk_at "zi") => `(tactic| repeat (refine Z.iteW (by first | decide | omega | (refine M.aF ?_ ?_ <;> omega) | (refine M.bU ?_ ?_ ?_ ?_ <;> omega)) ?_))
def row5 (q:Int×TD):D:= .tup [.str q.2.tail, .str q.2.head, .int q.2.least,kf q.2.most, .int q.2.price]
def modF (ml md:Nat) (g:Int):List (Key×D):= [(.inr "names", .cell ml),(.inr "ties", .cell md),(.inr "given", .int g)]
structure ModAt (S:Sto) (m ml md:Nat) (N:ND):Prop where
 m:S.get m=some (.dct (modF ml md N.given))
 l:S.get ml=some (.lst (N.names.map .str))
 d:S.get md=some (.dct (bK row5 N.ties))
structure Good (N:ND):Prop where
 nd:N.names.Nodup
 nm:∀z∈N.names,NmOk z
 nl:N.names.length≤14
 rise:ie N.ties
 tl:N.ties.length≤40
 ts:∀q∈N.ties,q.1≤N.given∧TieOk q.2
 tn:∀q∈N.ties,NmOk q.2.tail∧NmOk q.2.head
 pl:∀q∈N.ties,q.2.tail∈N.names∧q.2.head∈N.names∧q.2.tail≠q.2.head
 g0:0≤N.given∧∀q∈N.ties,1≤q.1
theorem Bc {ns:List Str} (h:ns.Nodup) {i j:Nat} {x y:Str} (hi:ns[i]? =some x) (hj:ns[j]? =some y) (hne:i≠j):x≠y:=fun e=>by
 subst e
 obtain ⟨a,ha⟩:=List.getElem?_eq_some_iff.mp hi
 obtain ⟨b,hb⟩:=List.getElem?_eq_some_iff.mp hj
 rcases Nat.lt_or_gt_of_ne hne with hlt | hlt
 ·exact List.pairwise_iff_getElem.mp h i j a b hlt (ha.trans hb.symm)
 ·exact List.pairwise_iff_getElem.mp h j i b a hlt (hb.trans ha.symm)
structure Six (S:Sto) (n l d m ml md:Nat):Prop where
 b1:n<S.nx
 b2:l<S.nx
 b3:d<S.nx
 b4:m<S.nx
 b5:ml<S.nx
 b6:md<S.nx
 a1:n≠m∧n≠ml∧n≠md
 a2:l≠m∧l≠ml∧l≠md
 a3:d≠m∧d≠ml∧d≠md
 a4:m≠ml∧m≠md∧ml≠md
 a5:n≠l∧n≠d∧l≠d
structure Did (S S' :Sto) (n l d m ml md:Nat) (N' :ND):Prop where
 nx:S.nx≤S'.nx
 fr:∀i,i<S.nx→i≠n→i≠l→i≠d→i≠m→i≠ml→i≠md→S'.get i=S.get i
 net:NetAt S' n l d N'
 mod:ModAt S' m ml md N'
 good:Good N'
 gv:∀g:Int,S.get n=some (.obj "Net" (fO l d g))→N'.given≤g+1
section
variable {S:Sto} {n l d m ml md:Nat} {N:ND} {g i:Int} {t:TD} {a b:D}
theorem oM {ts:List (Int×TD)} (hr:ie ts) (hg:∀q∈ts,q.1≤g):iS ts (g+1) t=ts++ [(g+1,t)]∧ie (ts++ [(g+1,t)]):=by
 refine ⟨?_, ?_⟩
 ·unfold iS
  rw [if_neg]
  intro e
  obtain ⟨q,hq,e⟩:=List.any_eq_true.mp e
  have:=hg q hq
  have:=of_decide_eq_true e
  omega
 ·unfold ie
  rw [List.map_append,List.pairwise_append]
  refine ⟨hr,by simp,fun a ha b hb=>?_⟩
  obtain ⟨q,hq,rfl⟩:=List.mem_map.mp ha
  rw [List.mem_singleton.mp (show b∈ [g+1] from hb)]
  have:=hg q hq
  omega
theorem Good.put (h:Good N) (ok:TieOk t) (h1:t.tail∈N.names) (h2:t.head∈N.names) (h3:t.tail≠t.head) (hl:N.ties.length<40):Good ⟨N.names,iS N.ties (N.given+1) t,N.given+1⟩:=by
 obtain ⟨e1,e2⟩:=oM (g:=N.given) (t:=t) h.rise fun q hq=>(h.ts q hq).1
 refine ⟨h.nd,h.nm,h.nl, ?_, ?_,fun q hq=>?_,fun q hq=>?_,fun q hq=>?_,Int.le_trans h.g0.1 (by show N.given≤N.given+1; omega),fun q hq=>?_⟩
 ·show ie (iS _ _ _); rw [e1]; exact e2
 ·show (iS _ _ _).length≤40; rw [e1,List.length_append]; exact hl
 ·have hq:q∈iS N.ties (N.given+1) t:=hq
  rw [e1] at hq
  rcases List.mem_append.mp hq with hq | hq
  ·obtain ⟨h1,h2⟩:=h.ts q hq
   exact ⟨by show q.1≤N.given+1; omega,h2⟩
  ·rw [List.mem_singleton.mp hq]
   exact ⟨Int.le_refl _,ok⟩
 ·have hq:q∈iS N.ties (N.given+1) t:=hq
  rw [e1] at hq
  rcases List.mem_append.mp hq with hq | hq
  ·exact h.tn q hq
  ·rw [List.mem_singleton.mp hq]
   exact ⟨h.nm _ h1,h.nm _ h2⟩
 ·have hq:q∈iS N.ties (N.given+1) t:=hq
  rw [e1] at hq
  rcases List.mem_append.mp hq with hq | hq
  ·exact h.pl q hq
  ·rw [List.mem_singleton.mp hq]
   exact ⟨h1,h2,h3⟩
 ·have hq:q∈iS N.ties (N.given+1) t:=hq
  rw [e1] at hq
  have h0:=h.g0.1
  rcases List.mem_append.mp hq with hq | hq
  ·exact h.g0.2 q hq
  ·rw [List.mem_singleton.mp hq]
   show 1≤N.given+1
   omega
theorem yh {ts:List (Int×TD)} (hr:ie ts):ie (jo ts i):=by
 unfold ie jo at*
 exact hr.sublist (List.Sublist.map _ List.filter_sublist)
theorem jZ {ts:List (Int×TD)} (hq:q∈ts):iS ts q.1 t=ts.map fun p=>if p.1=q.1 then (q.1,t) else p:=by
 unfold iS
 rw [if_pos]
 exact List.any_eq_true.mpr ⟨q,hq,decide_eq_true rfl⟩
theorem yu {ts:List (Int×TD)} (hq:q∈ts):(iS ts q.1 t).map (·.1)=ts.map (·.1):=by
 rw [jZ hq,List.map_map]
 refine List.map_congr_left fun p _=>?_
 show (if p.1=q.1 then (q.1,t) else p).1=p.1
 split
 ·rename_i e; exact e.symm
 ·rfl
theorem Good.set (h:Good N) (hq:q∈N.ties) (ok:TieOk t) (t1:t.tail=q.2.tail) (t2:t.head=q.2.head):Good ⟨N.names,iS N.ties q.1 t,N.given⟩:=by
 refine ⟨h.nd,h.nm,h.nl, ?_, ?_,fun p hp=>?_,fun p hp=>?_,fun p hp=>?_,h.g0.1,fun p hp=>?_⟩
 ·show ie (iS _ _ _)
  unfold ie
  rw [yu hq]
  exact h.rise
 ·show (iS _ _ _).length≤40
  rw [jZ hq,List.length_map]
  exact h.tl
 ·have hp:p∈iS N.ties q.1 t:=hp
  rw [jZ hq] at hp
  obtain ⟨p0,h0,rfl⟩:=List.mem_map.mp hp
  split
  ·exact ⟨(h.ts q hq).1,ok⟩
  ·exact h.ts p0 h0
 ·have hp:p∈iS N.ties q.1 t:=hp
  rw [jZ hq] at hp
  obtain ⟨p0,h0,rfl⟩:=List.mem_map.mp hp
  split
  ·show NmOk t.tail∧NmOk t.head
   rw [t1,t2]; exact h.tn q hq
  ·exact h.tn p0 h0
 ·have hp:p∈iS N.ties q.1 t:=hp
  rw [jZ hq] at hp
  obtain ⟨p0,h0,rfl⟩:=List.mem_map.mp hp
  split
  ·show t.tail∈N.names∧t.head∈N.names∧t.tail≠t.head
   rw [t1,t2]; exact h.pl q hq
  ·exact h.pl p0 h0
 ·have hp:p∈iS N.ties q.1 t:=hp
  rw [jZ hq] at hp
  obtain ⟨p0,h0,rfl⟩:=List.mem_map.mp hp
  split
  ·exact h.g0.2 q hq
  ·exact h.g0.2 p0 h0
theorem Good.drop (h:Good N):Good ⟨N.names,jo N.ties i,N.given⟩:=
 ⟨h.nd,h.nm,h.nl,yh h.rise,Nat.le_trans (List.length_filter_le _ _) h.tl,fun p hp=>h.ts p (List.mem_filter.mp (show p∈List.filter _ _ from hp)).1,fun p hp=>h.tn p (List.mem_filter.mp (show p∈List.filter _ _ from hp)).1,fun p hp=>h.pl p (List.mem_filter.mp (show p∈List.filter _ _ from hp)).1,h.g0.1,fun p hp=>h.g0.2 p (List.mem_filter.mp (show p∈List.filter _ _ from hp)).1⟩
def putS (S:Sto) (n l d m ml md:Nat) (N:ND) (t:TD):Sto:=
 (((S.tick.put d (.dct (bK cT (iS N.ties (N.given+1) t)))).put n (.obj "Net" (fO l d (N.given+1)))).put m (.dct (modF ml md (N.given+1)))).put md (.dct (bK row5 (iS N.ties (N.given+1) t)))
end
section
variable {S S' S2:Sto} {x:D} {n l d m ml md:Nat} {N:ND} {g i:Int}
structure NW (S:Sto) (n l d m ml md:Nat) (N:ND):Prop where
 six:Six S n l d m ml md
 net:NetAt S n l d N
 mod:ModAt S m ml md N
 good:Good N
structure Ext (S S' :Sto):Prop where
 nx:S.nx≤S'.nx
 get:∀i,i<S.nx→S'.get i=S.get i
theorem Ext.refl:Ext S S:=⟨Nat.le_refl _,fun _ _=>rfl⟩
theorem Ext.trans (h:Ext S S') (g:Ext S' S2):Ext S S2:=⟨Nat.le_trans h.nx g.nx,fun i hi=>(g.get i (Nat.lt_of_lt_of_le hi h.nx)).trans (h.get i hi)⟩
theorem Ext.new:Ext S (S.new x):=⟨Nat.le_succ _,fun i hi=>fK (Nat.ne_of_lt hi)⟩
theorem Ext.tick:Ext S S.tick:=⟨Nat.le_succ _,fun i hi=>cF (Nat.ne_of_lt hi)⟩
theorem Ext.put {j:Nat} (h:Ext S S') (hj:S.nx≤j):Ext S (S'.put j x):=⟨h.nx,fun i hi=>(Sto.put_ne (by omega)).trans (h.get i hi)⟩
theorem NW.ext (W:NW S n l d m ml md N) (h:Ext S S'):NW S' n l d m ml md N:=by
 obtain ⟨⟨b1,b2,b3,b4,b5,b6,a1,a2,a3,a4,a5⟩,⟨n1,n2,n3⟩,⟨m1,m2,m3⟩,hG⟩:=W
 have nx:=h.nx
 exact ⟨⟨by omega,by omega,by omega,by omega,by omega,by omega,a1,a2,a3,a4,a5⟩,⟨(h.get _ b1).trans n1,(h.get _ b2).trans n2,(h.get _ b3).trans n3⟩,⟨(h.get _ b4).trans m1,(h.get _ b5).trans m2,(h.get _ b6).trans m3⟩,hG⟩
def bltS (S:Sto):Sto:=(((rf S).new (.lst [])).new (.dct [])).new (.dct (modF (S.nx+3) (S.nx+3+1) 0))
end
end T

local macro_rules | `(tactic| dsimp! only [$ts,*]) => `(tactic| simp only [↓reduceIte, ↓Z.e_seq, ↓Z.e_asg, ↓Z.zD, ↓Z.pM, ↓Z.pN, ↓Z.zH, ↓Z.uA, ↓Z.zM, ↓Z.e_ifS, ↓Z.e_ret, ↓Z.zE, ↓Z.zJ, ↓Z.ux, ↓Z.e_c, ↓Z.e_var, ↓Z.e_z1, ↓Z.e_z2, ↓Z.e_via, ↓Z.e_a0, ↓Z.e_a, ↓Z.e_tup, ↓Z.e_lst, ↓Z.zK, ↓Z.e_b, ↓Z.e_and, ↓Z.e_or, ↓Z.e_not, ↓Z.zR, ↓Z.e_orV, ↓Z.zG, ↓Z.e_if, ↓Z.zN, ↓Z.zI, ↓Z.uz, ↓Z.e_no, ↓Z.e_pt, ↓Z.e_sl, Z.xm, Z.x_nx, Z.x_asg, Z.x_st, Z.x_if, Z.x_rt, Z.x_ret, Z.x_z2, Z.x_d, Z.x_via, Z.xl, Z.x_fix, Z.x_a, Z.x_tup, Z.x_lst, Z.x_ok, Z.x_not, Z.xj, Z.xn, Z.xg, Z.sv, Z.sx, Z.nP, Z.nQ, Z.x_pt, Z.x_sl3, Z.x_sl2, Z.x_sl1, Z.uP, Z.qh, Z.qg, Z.mO, Z.sT, Z.sS, Z.sV, Z.sU, Z.xH, Z.oe, Z.og, Z.lI, Z.nZ, Z.xB, Z.fix_d, Z.ug, Z.uh, Z.pL, Z.zu, Z.km, Z.iL, Z.oB_bl, Z.Ad, Z.kl, Z.mG, Z.pW, Z.lq, Z.uG, Z.pU, Z.gY, Z.lu, Z.lj, Z.pY, Z.pT, Z.jt, Z.gX, Z.pV, Z.w_add, Z.qr, Z.qo, Z.qp, Z.ql, Z.w_sub, Z.xx, Z.ph, Z.pe, Z.w_mod, Z.w_div, Z.w_pow, Z.w_cmp, Z.w_neg, Z.w_min, Z.w_isi, Z.sE, Z.w_eq, Z.w_in, Z.w_ix, Z.w_len, Z.px, Z.pA, Z.pz, Z.w_fld, Z.tT, Z.za, Z.tQ, Z.tR, Z.tS, Z.tV, Z.tP, Z.tU, Z.isT, Z.lF, Z.lE, Z.flv, ↓Z.e_lc, ↓Z.e_yes, ↓Z.e_itL, Z.iV, Z.lB, ↓Z.e_itS, Z.x_itS, Z.sA, Z.lz, Z.jH, Z.xA, Z.mF, Z.xy, Z.mh, Z.mj, Z.mi, Z.nX, Z.lG, Z.w_sl, Z.sP, Z.sQ, ↓Z.e_rg1, Z.x_rg1, ↓Z.e_for, Z.xc, ↓Z.e_zip, Z.xb, ↓Z.e_en, Z.nN, Z.w_unp, Z.unp2, Z.unp3, Z.unp4, Z.unp5, Z.ir, Z.jK, ↓Z.e_m1s, Z.x_m1s, Z.sO, Z.pq, ↓Z.e_m2, Z.x_m2, Z.x_isL, Z.pC, Z.x_isD, Z.pD, Z.x_rv, Z.w_b2, Z.mS, Z.mR, Z.w_b1, Z.qi, Z.pj, Z.tL, Z.pk, ↓Z.e_sf, Z.x_sf1, Z.x_sf2, Z.x_sf3, ↓Z.e_mk, Z.x_mk, Z.x_sto, ↓Z.e_dp, Z.x_dp1, Z.x_dp2, Z.x_dp3, Z.x_dp4, Z.uw, Z.eo, Z.w_ne, Z.tH, Z.tK, Z.uu, Z.ue, Z.Sto.put_same, Z.lZ, Z.oZ, Z.bH, Z.sfn0, Z.sfn1, Z.sfn2, Z.sfn3, Z.sfn4, Z.sfn5, Z.sfn6, Z.sfn7, Z.sfn8, decide_false, decide_true, Z.Ax, Z.Wp_ok, Z.Aw, List.set_cons_zero, List.set_cons_succ, List.getElem?_cons_zero, List.getElem?_cons_succ, List.cons_append, List.nil_append, List.append_nil, List.isEmpty_nil, List.isEmpty_cons, if_true, if_false, Bool.false_eq_true, true_implies, false_implies, implies_true, reduceCtorEq, Bool.not_true, Bool.not_false, eq_self, and_self, and_true, true_and, ↓Z.zL, Z.xk, ↓Z.e_p, Z.x_p1, Z.x_p2, Z.x_p3, ↓Z.e_p0, ↓Z.zy, Z.x_wk, ↓Z.e_par, Z.x_par, ↓Z.zF, Z.xh, ↓Z.zQ, Z.jD, Z.qx, ↓Z.zO, Z.x_as1, Z.x_as2, Z.Au, Z.Ar, Z.x_as6, Z.yd, Z.yc, Z.xw, Z.oN, ↓Z.e_rvI, Z.x_rvI, ↓Z.e_itT, Z.x_itT, Z.mT, Z.xt, Z.om, Z.oo, Z.tJ, Z.tG, Z.w_max, Z.zx, ↓Z.pR, ↓Z.x_r0, ↓Z.pQ, ↓Z.x_r1, ↓Z.x_r2, ↓Z.uQ, Z.Wp_ex, ↓Z.pX, ↓Z.w_xf, ↓Z.AJ, ↓Z.pB, ↓Z.e_rg2, Z.x_rg2, Z.sD, Z.nV, Z.w_str, ↓Z.zz, Z.sG, Z.pd, ↓Z.pO, ↓Z.x_rL1, ↓Z.x_rL2, Z.nY, ↓Z.e_pV, Z.x_pVi, Z.x_pVs, Z.iX, Z.lg, ↓Z.pP, ↓Z.x_rC1, ↓Z.x_rC2, ↓Z.uy, Z.x_hL1, Z.x_hL2, Z.x_hL3, Z.w_isU, Z.iW, Z.aj T.kY, Z.aj T.oW, Z.aj T.kZ, Z.aj T.lJ, Z.aj T.sJ, Z.aj T.sM, Z.aj T.oi, Z.aj T.sL, Z.aj T.oh, Z.ay T.fq, Z.ay T.ef, Z.ay T.mf, Z.ay T.mN_ties, Z.ay T.yR, Z.ay T.Bi, $ts,*])
namespace T
open PySem PySem.Spec PyProof.Rows L2 M Z A
open Classical
def flowI (f:Int→Int) (is:List Int):List (Key×D):=is.map fun i=>(.inl i, .int (f i))
def FlowOk (ts:List (Int×TD)) (f:Int→Int):Prop:=∀q∈ts,q.2.least≤f q.1∧∀mx,q.2.most=some mx→f q.1≤mx
def Hand (S:Sto) (x:D) (ks:List (Key×D)):Prop:=x= .dct ks∨∃j,x= .cell j∧S.get j=some (.dct ks)
section
variable {S S' :Sto} {sl:List (Option Vl)} {x:D} {d:Nat} {ks:List (Key×D)}
theorem Hand.cont (h:Hand S x ks):SD.cont ⟨sl,S⟩ (.d x)=some (.dct ks):=by
 rcases h with rfl | ⟨j,rfl,e⟩
 ·rfl
 ·exact e
theorem Hand.ext (h:Hand S x ks) (e:∀j,x= .cell j→S'.get j=S.get j):Hand S' x ks:=by
 rcases h with rfl | ⟨j,rfl,e1⟩
 ·exact .inl rfl
 ·exact .inr ⟨j,rfl,(e j rfl).trans e1⟩
end
section
variable {N:ND}
theorem Good.nums (h:Good N):(N.ties.map (·.1)).Pairwise (· < ·)∧(N.ties.map (·.1)).Nodup∧(N.ties.map (·.1)).length≤40:=by
 have hr:(N.ties.map (·.1)).Pairwise (· < ·):=h.rise
 exact ⟨hr,hr.imp fun hab=>Int.ne_of_lt hab,by rw [List.length_map]; exact h.tl⟩
end
def strI (h:Str→Int) (zs:List Str):List (Key×D):=zs.map fun z=>(.inr z, .int (h z))
section
variable {q:Int×TD} {f:Int→Int} {h:Str→Int} {w:Str}
def spU (f:Int→Int) (h:Str→Int) (q:Int×TD):Str→Int:=
 let h1:=fun w=>if w=q.2.tail then h q.2.tail - f q.1 else h w
 fun w=>if w=q.2.head then h1 q.2.head+f q.1 else h1 w
def sp (f:Int→Int) (ts:List (Int×TD)):Str→Int:=ts.foldl (spU f) fun _=>0
end
section
variable {s:SD} {S:Sto} {sl:List (Option Vl)} {n l d:Nat} {N:ND} {q:Int×TD} {f:Int→Int} {h:Str→Int} {z:Str} {zs:List Str} {s1 s2:Str}
def costI (f:Int→Int) (ts:List (Int×TD)):Int:=(ts.map fun q=>q.2.price*f q.1).sum
def FlowBd (ts:List (Int×TD)) (f:Int→Int):Prop:=∀q∈ts,0≤f q.1∧f q.1≤1000*M60
theorem eq_strF {s:SD} (e:s1≠s2):eqK s (some (.str s1)) (some (.str s2))= .ok (.d (.bl false)) s:=by rw [eo,decide_eq_false e]
theorem mu (hN:NetAt S n l d N) (h1:s1∈N.names) (h2:s2∈N.names) (h3:s1≠s2):goF cQ [.cell n, .str s1, .str s2] ⟨sl,S⟩= .ok (.d .non) ⟨sl,S⟩:=by
 have k1:=fun sl=>eD (sl:=sl) hN h1
 have k2:=fun sl=>eD (sl:=sl) hN h2
 have q1:=hN.n
 have e1:=fun s:SD=>eq_strF (s:=s) h3
 refine eW ?_
 show Wp (iO ⟨[some (.d (.cell n)),some (.d (.str s1)),some (.d (.str s2))],S⟩) _ _
 unfold iO
 have d0:=decide_eq_false h3
 dsimp! only [k1,k2,q1,d0]
noncomputable def carD (h:Str→Int) (s1 s2:Str) (zs:List Str):D:=if∀z∈zs,h z=0∨z=s1∨z=s2 then .int (0 - h s1) else .non
end
mutual
theorem vW:∀d:PyData,PyData.canLay0 d=true→PyData.eqv d d=true
 | .none,_=>rfl
 | .bool b,_=>by simp [PyData.eqv]
 | .int i,_=>by simp [PyData.eqv]
 | .str s,_=>by simp [PyData.eqv]
 | .list xs,h=>by rw [PyData.eqv]; exact iK xs (by simpa [PyData.canLay0] using h)
 | .tuple xs,h=>by rw [PyData.eqv]; exact iK xs (by simpa [PyData.canLay0] using h)
 | .dict _,h=>by simp [PyData.canLay0] at h
theorem iK:∀ds:List PyData,PyData.canLayAll0 ds=true→PyData.eqvAll ds ds=true
 | [],_=>rfl
 | d::ds,h=>by
  have h' :PyData.canLay0 d=true∧PyData.canLayAll0 ds=true:=by simpa [PyData.canLayAll0] using h
  rw [PyData.eqvAll,vW d h'.1,iK ds h'.2]
  rfl
end
theorem dEq_tup {xs:List D} {ds:List PyData} (h:D.pys xs=some ds) (hs:SeqAt.shaped (.tuple ds)=true):dEq (.tup xs) (.tup xs)=some true:=by
 have hr:=vW (.tuple ds) (SeqAt.canLay_of_shaped hs)
 have h1:D.py (.tup xs)=some (.tuple ds):=by
  rw [D.py,h]
 unfold dEq
 simp only [D.sc,h1,hs,hr,and_self,if_true]
mutual
def toP:D→PyData
 | .non=> .none
 | .bl b=> .bool b
 | .int i=> .int i
 | .str s=> .str s
 | .lst ds=> .list (Az ds)
 | .tup ds=> .tuple (Az ds)
 | _=> .none
def Az:List D→List PyData
 | []=> []
 | d::ds=>toP d::Az ds
end
mutual
def lay:D→Bool
 | .non | .bl _ | .int _=>true
 | .str s=>PyData.strOk s
 | .lst ds=>lays ds
 | .tup ds=>lays ds
 | _=>false
def lays:List D→Bool
 | []=>true
 | d::ds=>lay d&&lays ds
end
mutual
def dep:D→Nat
 | .lst ds=>deps ds+1
 | .tup ds=>deps ds+1
 | _=>0
def deps:List D→Nat
 | []=>0
 | d::ds=>max (dep d) (deps ds)
end
mutual
theorem lay_py:∀{x:D},lay x=true→D.py x=some (toP x)∧(toP x).canLay0=true∧(toP x).depth=dep x
 | .non,_=>⟨rfl,rfl,rfl⟩
 | .bl _,_=>⟨rfl,rfl,rfl⟩
 | .int _,_=>⟨rfl,rfl,rfl⟩
 | .str s,h=>⟨rfl,by rw [toP,PyData.canLay0]; exact (by rw [lay] at h; exact h),rfl⟩
 | .lst ds,h=>by
  rw [lay] at h
  obtain ⟨h1,h2,h3⟩:=mq h
  rw [D.py,h1,toP,PyData.canLay0,PyData.depth,h3,dep]
  exact ⟨rfl,h2,rfl⟩
 | .tup ds,h=>by
  rw [lay] at h
  obtain ⟨h1,h2,h3⟩:=mq h
  rw [D.py,h1,toP,PyData.canLay0,PyData.depth,h3,dep]
  exact ⟨rfl,h2,rfl⟩
 | .con _,h=>by simp [lay] at h
 | .dct _,h=>by simp [lay] at h
 | .obj _ _,h=>by simp [lay] at h
 | .exc _ _,h=>by simp [lay] at h
 | .cell _,h=>by simp [lay] at h
theorem mq:∀{ds:List D},lays ds=true→D.pys ds=some (Az ds)∧PyData.canLayAll0 (Az ds)=true∧PyData.depthAll (Az ds)=deps ds
 | [],_=>⟨rfl,rfl,rfl⟩
 | d::ds,h=>by
  rw [lays,Bool.and_eq_true] at h
  obtain ⟨h1,h2,h3⟩:=lay_py h.1
  obtain ⟨g1,g2,g3⟩:=mq h.2
  rw [D.pys,h1,g1,Az,PyData.canLayAll0,PyData.depthAll,h2,g2,h3,g3,deps]
  exact ⟨rfl,rfl,rfl⟩
end
theorem ji {ds:List D} (h:∀d∈ds,lay d=true):lays ds=true:=by
 induction ds with
 | nil=>rfl
 | cons d ds ih=>rw [lays,h d (List.mem_cons_self ..),ih fun e he=>h e (List.mem_cons_of_mem _ he)]; rfl
theorem jr {k:Nat} {ds:List D} (h:∀d∈ds,dep d≤k):deps ds≤k:=by
 induction ds with
 | nil=>exact Nat.zero_le _
 | cons d ds ih=>
  rw [deps]
  exact Nat.max_le.mpr ⟨h d (List.mem_cons_self ..),ih fun e he=>h e (List.mem_cons_of_mem _ he)⟩
theorem eq_tup {ds:List D} (h:∀d∈ds,lay d=true) (h2:∀d∈ds,dep d≤60):dEq (.tup ds) (.tup ds)=some true:=by
 obtain ⟨h1,h3,h4⟩:=mq (ji h)
 refine dEq_tup h1 ?_
 unfold SeqAt.shaped
 rw [PyData.canLay0,PyData.depth,h3,h4]
 have:=jr h2
 exact decide_eq_true (by omega)
def numT (x:D):Prop:=∃es:List D,x= .tup es∧es.length≤6∧∀e∈es,e= .non∨∃i,e= .int i
open Rs (As tw hd tl rm kO Ro roA roR lo up wan ro0 RoOk)
structure MT where
 tail:Str
 head:Str
 l:Int
 u:Option Int
def moreD (x:MT):D:= .tup [.str x.tail, .str x.head, .int x.l,rD x.u]
def rowD (r:Ro):D:= .tup [.int (r.t:Int), .int (r.h:Int), .int r.l,rD r.u]
def tieRo (names:List Str) (q:Int×TD):Ro:=⟨names.idxOf q.2.tail,names.idxOf q.2.head,q.2.least,q.2.most⟩
def morRo (names:List Str) (x:MT):Ro:=⟨names.idxOf x.tail,names.idxOf x.head,x.l,x.u⟩
def rowsOf (N:ND) (ms:List MT):List Ro:=N.ties.map (tieRo N.names)++ms.map (morRo N.names)
structure MtOk (N:ND) (x:MT):Prop where
 t:x.tail∈N.names
 h:x.head∈N.names
 n:x.tail≠x.head
 b:∀v,x.u=some v→x.l≤v
section
variable {a b:Vl} {s:SD} {x y:D} {h m p l d:Nat} {rows:List Ro}
noncomputable def ixdK (s:SD):Option D→Option D→R Vl
 | some (.lst ds),some x=>match scs ds,x.sc with
  | some vs,some v=>match vs.findIdx? (fun z=>eqV z v) with
   | some j=> .ok (.d (.int (j:Nat))) s
   | none=> .bad
  | _,_=> .bad
 | _,_=> .bad
theorem ij:bb a b s=ixdK s (s.cont a) (s.cont b):=by
 unfold bb ixdK
 rfl
theorem vT (w:Str):∀l:List Str,w∈l→(l.map V.str).findIdx? (fun z=>eqV z (.str w))=some (l.idxOf w)
 | [],h=>by cases h
 | y::l,h=>by
  rw [List.map_cons,List.findIdx?_cons,List.idxOf_cons]
  have e:eqV (V.str y) (V.str w)=(y == w):=rfl
  rw [e]
  by_cases c:y=w
  ·have:(y == w)=true:=by rw [beq_iff_eq]; exact c
   rw [this]; rfl
  ·have c2:(y == w)=false:=by rw [beq_eq_false_iff_ne]; exact c
   rw [c2,vT w l (by rcases List.mem_cons.mp h with e | h; exact absurd e.symm c; exact h)]
   rfl
theorem gy {l:List Str} {z:Str} (h:z∈l):∀s:SD,ixdK s (some (.lst (l.map .str))) (some (.str z))= .ok (.d (.int (l.idxOf z:Int))) s:=fun s=>by
 unfold ixdK
 simp only [ou,D.sc,vT z l h]
theorem fL {l:List Str} {z:Str} (h:z∈l):l.idxOf z<l.length:=List.idxOf_lt_length_of_mem h
theorem gz {l:List Str} {y z:Str} (h:y∈l) (h2:z∈l) (hn:y≠z):l.idxOf y≠l.idxOf z:=fun e=>hn (by
 have h3:=List.getElem_idxOf (fL h)
 have h4:=List.getElem_idxOf (fL h2)
 rw [←h3,←h4]
 congr 1)
def intsR (m:Nat) (F:Nat→Int):List D:=(List.range m).map fun p=> .int (F p)
def wanJ (rows:List Ro) (j p:Nat):Int:=0 - Rs.sm j fun k=>lo rows k*(Rs.dl p (Rs.ta (roA rows) k) - Rs.dl p (Rs.he (roA rows) k))
end
section
variable {S:Sto} {n h l d:Nat} {rs' :List (Option Int)} {N:ND} {rows:List Ro}
theorem NetAt.ext {S' :Sto} (h:NetAt S n l d N) (E:Ext S S') (hn:n<S.nx) (hl:l<S.nx) (hd:d<S.nx):NetAt S' n l d N:=⟨(E.get _ hn).trans h.n,(E.get _ hl).trans h.l,(E.get _ hd).trans h.d⟩
def amt (rows:List Ro) (rs' :List (Option Int)) (k:Nat):Int:=lo rows k+(rm rs' (2*k+1)).getD 0
def nums (N:ND):List Int:=N.ties.map (·.1)
def byNum (N:ND) (F:Nat→Int) (i:Int):Int:=F ((nums N).idxOf i)
end
end T

set_option maxHeartbeats 4000000
namespace T
open PySem PySem.Spec PyProof.Rows L2 M Z A
open Classical
open TL (tl)
local macro_rules | `(tactic| walk_at "zi") => `(tactic| repeat (refine Z.iteW (by first | decide | omega | (refine M.aF ?_ ?_ <;> omega) | (refine M.bU ?_ ?_ ?_ ?_ <;> omega)) ?_))
section
variable {s:SD} {S:Sto} {x z:D} {v0 v1 v2 v3 v4 v5 v6 v7 v8 v9 v10:Option Vl} {n:Int} {m:Nat}
theorem ltr_inj {i j:Int} (i0:0≤i) (i1:i<26) (j0:0≤j) (j1:j<26) (h:tl (ltr i)=tl (ltr j)):i=j:=by
 have e:∀k:Nat,k<26→tl (ltr (k:Int))= [97+k]:=by decide+kernel
 have h1:=e i.toNat (by omega)
 have h2:=e j.toNat (by omega)
 rw [show ((i.toNat:Nat):Int)=i by omega] at h1
 rw [show ((j.toNat:Nat):Int)=j by omega] at h2
 rw [h1,h2] at h
 have:=List.head_eq_of_cons_eq h
 omega
theorem w2f_inj {at_:Int} {fr:Str} {i j:Int} (hi:0≤i) (hi2:i<12) (hj:0≤j) (hj2:j<12) (n0:0≤n) (h:w2f n at_ fr i=w2f n at_ fr j):i=j:=by
 have h1:=congrArg tl h
 unfold w2f at h1
 rw [ng,ng,ng,ng,List.append_assoc,List.append_assoc] at h1
 have h2:=List.append_cancel_left h1
 have h3:=List.append_cancel_right h2
 have:=ltr_inj (Int.emod_nonneg _ (by decide)) (Int.emod_lt_of_pos _ (by decide)) (Int.emod_nonneg _ (by decide)) (Int.emod_lt_of_pos _ (by decide)) h3
 omega
theorem nmc1 (n0:0≤n) (n1:n<2147483648) {st:Int} (hst:st=3+n%5):lcK (zSt 8) bP (z2 oIx (aa 2) (z2 cM (z2 cA (z2 dy (aa 0) (zC (.int 7))) (z2 kA (aa 3) (aa 8))) (zC (.int 26)))) [8] ⟨[],fun _=>True,Z.upTo 0 (12:Int).toNat⟩
   ⟨[some (.d (.int n)),v1,some (.d (.str "abcdefghijklmnopqrstuvwxyz")),some (.d (.int st)),v4,v5,v6,v7,none,v9,v10],S⟩= .ok (.own (.lst (((List.range 12).map fun (i:Nat)=>ltr ((n / 7+st*(i:Int))%26)).map D.str))) ⟨[some (.d (.int n)),v1,some (.d (.str "abcdefghijklmnopqrstuvwxyz")),some (.d (.int st)),v4,v5,v6,v7,none,v9,v10],S⟩:=by
 rw [dk (l:=List.range 12) nD (fun i:Nat=>D.str (ltr ((n / 7+st*(i:Int))%26))) wo rfl nl0 trivial (fun x hx=>?_) (by rw [List.length_range,sizeLine_eq]; omega)]
 ·rw [List.map_map]; rfl
 ·obtain ⟨j,hj⟩:∃j:Int,j=(x:Int):=⟨_,rfl⟩
  have hx:=List.mem_range.mp hx
  have j0:0≤j:=by omega
  have j1:j<(12:Nat):=by omega
  rw [←hj]
  have nx:nD x= .int j:=by rw [hj]
  rw [nx]
  have hb:0≤st*j∧st*j≤7*12:=⟨Int.mul_nonneg (by omega) (by omega),Int.mul_le_mul (by omega) (by omega) (by omega) (by omega)⟩
  have e:=(rn (i:=(n / 7+st*j)%26) (Int.emod_nonneg _ (by decide)) (Int.emod_lt_of_pos _ (by decide))).1
  have e2:=fun s:SD=>cf (s:=s) e
  unfold Z.fM
  simp! only [e2]
  walk_at "zi"
  trivial
theorem nmc2 {bs:Str} (hb:bs.length=12) (hm:m≤12):lcK (zSt 9) bP (zSl (aa 4) zNo (zPt (z2 cA (aa 9) (zC (.int 1))))) [9] ⟨[],fun _=>True,Z.upTo 0 m⟩
   ⟨[v0,v1,v2,v3,some (.d (.str bs)),v5,v6,v7,v8,none,v10],S⟩= .ok (.own (.lst (((List.range m).map fun (i:Nat)=>cutS bs none (some ((i:Int)+1))).map D.str))) ⟨[v0,v1,v2,v3,some (.d (.str bs)),v5,v6,v7,v8,none,v10],S⟩:=by
 rw [dk (l:=List.range m) nD (fun i:Nat=>D.str (cutS bs none (some ((i:Int)+1)))) wo rfl nl0 trivial (fun x hx=>?_) (by rw [List.length_range,sizeLine_eq]; omega)]
 ·rw [List.map_map]; rfl
 ·obtain ⟨j,hj⟩:∃j:Int,j=(x:Int):=⟨_,rfl⟩
  have hx:=List.mem_range.mp hx
  have j0:0≤j:=by omega
  have j1:j<(m:Nat):=by omega
  rw [←hj]
  have nx:nD x= .int j:=by rw [hj]
  rw [nx]
  have z0:(bs.length≤sizeLine)=True:=eq_true (by rw [hb]; decide)
  unfold Z.fM
  simp! only [z0]
theorem nmc3 (n0:0≤n) (n1:n<2147483648) (hm:m≤12):lcK (zSt 9) bP (z2 oIx (aa 2) (z2 cM (z2 cA (z2 dy (aa 0) (zC (.int 2000))) (z2 kA (zC (.int 5)) (aa 9))) (zC (.int 26)))) [9] ⟨[],fun _=>True,Z.upTo 0 m⟩
   ⟨[some (.d (.int n)),v1,some (.d (.str "abcdefghijklmnopqrstuvwxyz")),v3,v4,v5,v6,v7,v8,none,v10],S⟩= .ok (.own (.lst (((List.range m).map fun (i:Nat)=>ltr ((n / 2000+5*(i:Int))%26)).map D.str))) ⟨[some (.d (.int n)),v1,some (.d (.str "abcdefghijklmnopqrstuvwxyz")),v3,v4,v5,v6,v7,v8,none,v10],S⟩:=by
 rw [dk (l:=List.range m) nD (fun i:Nat=>D.str (ltr ((n / 2000+5*(i:Int))%26))) wo rfl nl0 trivial (fun x hx=>?_) (by rw [List.length_range,sizeLine_eq]; omega)]
 ·rw [List.map_map]; rfl
 ·obtain ⟨j,hj⟩:∃j:Int,j=(x:Int):=⟨_,rfl⟩
  have hx:=List.mem_range.mp hx
  have j0:0≤j:=by omega
  have j1:j<(m:Nat):=by omega
  rw [←hj]
  have nx:nD x= .int j:=by rw [hj]
  rw [nx]
  have e:=(rn (i:=(n / 2000+5*j)%26) (Int.emod_nonneg _ (by decide)) (Int.emod_lt_of_pos _ (by decide))).1
  have e2:=fun s:SD=>cf (s:=s) e
  unfold Z.fM
  simp! only [e2]
  walk_at "zi"
  trivial
theorem zo (n0:0≤n) (n1:n<2147483648) (hm:m≤11):∃ns:List Str,ns.Nodup∧(∀z∈ns,NmOk z∧z.length≤11)∧ns.length=m∧∀s:SD,goF kX [.int n, .int (m:Int)] s= .ok (.own (.lst (ns.map .str))) s:=by
 obtain ⟨st,hst⟩:∃st,st=3+n%5:=⟨_,rfl⟩
 have w1:∀z∈((List.range 12).map fun (i:Nat)=>ltr ((n / 7+st*(i:Int))%26)),z.length=1∧Al z:=fun z hz=>by
  obtain ⟨i,_,rfl⟩:=List.mem_map.mp hz
  exact (rn (Int.emod_nonneg _ (by decide)) (Int.emod_lt_of_pos _ (by decide))).2
 have l1:((List.range 12).map fun (i:Nat)=>ltr ((n / 7+st*(i:Int))%26)).length=12:=by rw [List.length_map,List.length_range]
 have k1:=fun (v1 v4 v5 v6 v7 v9 v10:Option Vl) (S:Sto)=>nmc1 (v1:=v1) (v4:=v4) (v5:=v5) (v6:=v6) (v7:=v7) (v9:=v9) (v10:=v10) n0 n1 hst (S:=S)
 generalize ((List.range 12).map fun (i:Nat)=>ltr ((n / 7+st*(i:Int))%26))=ws1 at w1 k1 l1
 have hsum:=sum_le ws1 1 fun x hx=>by rw [(w1 x hx).1]; exact Nat.le_refl _
 have hbl:(Txt.join "" ws1).length=12:=by
  rw [yU,List.map_congr_left (g:=fun _=>1) fun x hx=>(w1 x hx).1,List.map_const',List.sum_replicate_nat,l1]
 have hba:=al_join fun x hx=>(w1 x hx).2
 have k2:=fun s:SD=>Bk (s:=s) (z:= "") (ds:=ws1.map D.str) (ys:=ws1) (by simpa using rT (fun z:Str=>z) ws1) (by rw [show (Str.ofString "").length=0 by decide+kernel]; omega)
 generalize Txt.join "" ws1=bs at hbl hba k2
 have hfa:=wg none (some (n%8)) hba
 have hfl:(cutS bs none (some (n%8))).length≤7:=by rw [rp (by omega)]; omega
 generalize efr:cutS bs none (some (n%8))=fr at hfa hfl
 have hat0:0≤n / 200%((fr.length:Int)+1):=Int.emod_nonneg _ (by omega)
 have hat1:n / 200%((fr.length:Int)+1)≤fr.length:=Int.le_of_lt_add_one (Int.emod_lt_of_pos _ (by omega))
 have hat2:(0<(fr.length:Int)+1)=True:=eq_true (by omega)
 generalize eat:n / 200%((fr.length:Int)+1)=at_ at hat0 hat1
 have z60:=fun k=>rg62 (m:=k)
 have zm:=rg62 (m:=m) (by rw [sizeLine_eq]; omega)
 have z12:(-(2 ^ 62)≤(12:Int)∧(12:Int)<2 ^ 62)=True:=eq_true (by decide)
 have b5:((0:Int)<5)=True:=by decide
 have b3:((0:Int)<3)=True:=by decide
 have b8:((0:Int)<8)=True:=by decide
 have y9:CDivW n 9=True:=eq_true (aF (by decide) (by decide))
 have y200:CDivW n 200=True:=eq_true (aF (by decide) (by decide))
 have sb:(bs.length≤sizeLine)=True:=eq_true (by rw [hbl]; decide)
 have sf:(fr.length≤sizeLine)=True:=eq_true (Nat.le_trans hfl (by decide))
 by_cases c1:n / 9%3=1
 ·refine ⟨(List.range m).map fun (i:Nat)=>cutS bs none (some ((i:Int)+1)), ?_,fun z hz=>?_,by rw [List.length_map,List.length_range],fun s=>?_⟩
  ·refine List.Pairwise.of_map (fun z:Str=>z.length) (S:=fun a b=>a≠b) (fun a b h e=>h (by rw [e])) ?_
   rw [List.map_map]
   have:(List.range m).map ((fun z:Str=>z.length) ∘ fun (i:Nat)=>cutS bs none (some ((i:Int)+1)))=(List.range m).map (· +1):=List.map_congr_left fun i hi=>by
    show (cutS bs none (some ((i:Int)+1))).length=i+1
    rw [rp (by omega),hbl]
    have:=List.mem_range.mp hi
    omega
   rw [this]
   exact List.Pairwise.map (· +1) (fun a b h=>by omega) List.nodup_range
  ·obtain ⟨i,hi,rfl⟩:=List.mem_map.mp hz
   have hi:=List.mem_range.mp hi
   have l:=rp (z:=bs) (i:=(i:Int)+1) (by omega)
   rw [hbl] at l
   exact ⟨⟨wg _ _ hba,by omega,by omega,fun e=>by
    rw [e] at l
    have:(Str.ofString "zzzyzzzyzzzy").length=12:=by decide+kernel
    omega⟩,by omega⟩
  ·refine vL ?_
   show Wp (jB ⟨[some (.d (.int n)),some (.d (.int (m:Int))),none,none,none,none,none,none,none,none,none],s.st⟩) _ _
   unfold jB
   have k3:=fun (v0 v1 v2 v3 v5 v6 v7 v8 v10:Option Vl) (S:Sto)=>nmc2 (v0:=v0) (v1:=v1) (v2:=v2) (v3:=v3) (v5:=v5) (v6:=v6) (v7:=v7) (v8:=v8) (v10:=v10) hbl (show m≤12 by omega) (S:=S)
   simp! only [b5,←hst,z12,k1,k2,b3,y9,c1,zm,Int.toNat_natCast,k3]
 ·refine ⟨(List.range m).map fun (i:Nat)=>w2f n at_ fr (i:Int), ?_,fun z hz=>?_,by rw [List.length_map,List.length_range],fun s=>?_⟩
  ·refine List.Pairwise.map _ (R:=fun i j:Nat=>i≠j∧i<12∧j<12) (fun i j h e=>h.1 (by have:=w2f_inj (by omega) (by omega) (by omega) (by omega) n0 e; omega)) ?_
   exact (List.nodup_range (n:=m)).imp_of_mem fun hi hj h=>⟨h,by have:=List.mem_range.mp hi; omega,by have:=List.mem_range.mp hj; omega⟩
  ·obtain ⟨i,_,rfl⟩:=List.mem_map.mp hz
   have:=w2_ok (n:=n) hfa hat0 hat1 i
   exact ⟨⟨this.2,by omega,by omega,fun e=>by
    have h:=this.1
    rw [e] at h
    have:(Str.ofString "zzzyzzzyzzzy").length=12:=by decide+kernel
    omega⟩,by omega⟩
  ·refine vL ?_
   show Wp (jB ⟨[some (.d (.int n)),some (.d (.int (m:Int))),none,none,none,none,none,none,none,none,none],s.st⟩) _ _
   unfold jB
   have k3:=fun (v1 v3 v4 v5 v6 v7 v8 v10:Option Vl) (S:Sto)=>nmc3 (v1:=v1) (v3:=v3) (v4:=v4) (v5:=v5) (v6:=v6) (v7:=v7) (v8:=v8) (v10:=v10) n0 n1 (show m≤12 by omega) (S:=S)
   simp! only [b5,←hst,z12,k1,k2,b3,y9,c1,zm,Int.toNat_natCast,k3,b8,sb,efr,y200,hat2,eat]
   rw [dk (l:=List.range m) (fun i:Nat=>D.str (ltr ((n / 2000+5*(i:Int))%26))) (fun i:Nat=>D.str (w2f n at_ fr (i:Int))) (by rw [List.map_map]; rfl) rfl Nl.d1 trivial (fun i hi=>?_) (by rw [List.length_range,sizeLine_eq]; omega)]
   ·simp! only [sf]
    rw [List.map_map]
    rfl
   ·obtain ⟨_,l1,_⟩:=(rn (i:=(n / 2000+5*(i:Int))%26) (Int.emod_nonneg _ (by decide)) (Int.emod_lt_of_pos _ (by decide)))
    have hc1:=rp (z:=fr) hat0
    have hc2:=vE (z:=fr) hat0
    have z1:((cutS fr none (some at_)).length+(ltr ((n / 2000+5*(i:Int))%26)).length≤sizeLine)=True:=eq_true (Nat.le_trans (show _≤100 by omega) (by decide))
    have z2:((cutS fr none (some at_)++ltr ((n / 2000+5*(i:Int))%26)).length+(cutS fr (some at_) none).length≤sizeLine)=True:=eq_true (Nat.le_trans (show _≤100 by rw [A.tN]; omega) (by decide))
    unfold Z.fM w2f
    simp! only [sf,z1,z2]
end
end T

namespace Z
open PySem PySem.Spec PyProof.Rows L2 M
open Classical
section
variable {s:SD} {is:List Nat} {fz:Vl→SD→R Unit} {fe:SD→R Vl}
theorem lcL_w {ok:SD→Prop} {L:List D} (I:List D→SD→Prop) (hok:∀acc s,I acc s→ok s)
  (st:∀acc s d,L[acc.length]? =some d→I acc s→Wp (fz (.d d) s) (fun _ s2=>Wp (fe s2) (fun a s3=>Wp (s3.fix a) (fun y s4=>I (acc++ [y]) (s4.wipe is)) XF) XF) XF) (hL:L.length≤sizeLine):
  ∀{ds acc:List D} {s:SD},L.drop acc.length=ds→I acc s→acc.length+ds.length=L.length→Wp (iT ok fz bP fe is ds acc s) (fun acc' s' =>acc'.length=L.length∧I acc' s') XF
 | [],acc,s,_,h,hl=>by
  unfold iT
  rw [if_pos (hok _ _ h)]
  exact ⟨by simpa using hl,h⟩
 | d::ds,acc,s,hd,h,hl=>by
  rw [List.length_cons] at hl
  have ed:L[acc.length]? =some d:=by
   have:=congrArg (fun l=>l[0]?) hd
   simp only [List.getElem?_drop,Nat.add_zero,List.getElem?_cons_zero] at this
   exact this
  unfold iT
  rw [if_pos (hok _ _ h)]
  obtain ⟨_,s2,e1,h1⟩:=(st acc s d ed h).is
  obtain ⟨a,s3,e2,h2⟩:=h1.is
  obtain ⟨y,s4,e3,h3⟩:=h2.is
  rw [e1]
  show Wp (R.bind (R.nx (fe s2)) _) _ _
  rw [e2]
  show Wp (R.bind (s3.fix a) _) _ _
  rw [e3]
  show Wp (if acc.length<sizeLine then iT ok fz bP fe is ds (acc++ [y]) (s4.wipe is) else .bad) _ _
  rw [if_pos (by omega)]
  refine lcL_w I hok st hL ?_ h3 (by rw [List.length_append]; show acc.length+1+_=_; omega)
  rw [List.length_append]
  show L.drop (acc.length+1)=ds
  rw [←List.drop_drop,hd]
  rfl
theorem lc_w {src:Src} {s1:SD} (I:List D→SD→Prop) (hN:Nl src.hs) (hok:∀acc s,I acc s→src.ok s) (h0:I [] (s1.wipe is))
  (st:∀acc s d,src.ds[acc.length]? =some d→I acc s→Wp (fz (.d d) s) (fun _ s2=>Wp (fe s2) (fun a s3=>Wp (s3.fix a) (fun y s4=>I (acc++ [y]) (s4.wipe is)) XF) XF) XF) (hl:src.ds.length≤sizeLine):
  Wp (lcK fz bP fe is src s1) (fun v s=>∃acc,v= .own (.lst acc)∧acc.length=src.ds.length∧I acc s) XF:=by
 unfold lcK
 rw [if_pos hN]
 obtain ⟨acc,s',e,h1,h2⟩:=(lcL_w (ok:=src.ok) (L:=src.ds) I hok st hl (ds:=src.ds) (acc:= []) (s:=s1.wipe is) rfl h0 (by simp)).is
 rw [e]
 exact ⟨acc,rfl,h1,h2⟩
end
end Z

set_option maxHeartbeats 4000000
namespace T
open PySem PySem.Spec PyProof.Rows L2 M Z A
open Classical
open Rs (As ta he)
open Ap (Trail Use stp sho)
section
variable {a b:Vl} {s:SD} {S:Sto} {sl:List (Option Vl)} {m k p q st go:Nat} {as:As} {w f l left:List Nat}
theorem vp:∀l:List Nat,D.pys (l.map nD)=some (l.map fun k:Nat=>PyData.int (k:Int))
 | []=>rfl
 | k::l=>by rw [List.map_cons,D.pys,vp l]; rfl
theorem nt:∀l:List Nat,PyData.plainAll (l.map fun k:Nat=>PyData.int (k:Int))=true
 | []=>rfl
 | k::l=>by rw [List.map_cons,PyData.plainAll,nt l]; rfl
theorem yx (h:k∈l):SeqAt.dataPlace (l.map fun k:Nat=>PyData.int (k:Int)) (.int (k:Int))=some (l.idxOf k):=by
 unfold SeqAt.dataPlace
 induction l with
 | nil=>cases h
 | cons j l ih=>
  rw [List.map_cons,List.findIdx?_cons,List.idxOf_cons]
  have e:PyData.eqv (.int (j:Int)) (.int (k:Int))=(j == k):=by
   show decide ((j:Int)=(k:Int))=_
   by_cases c:j=k
   ·subst c; simp
   ·rw [beq_eq_false_iff_ne.mpr c]
    exact decide_eq_false fun z=>c (by omega)
  rw [e]
  by_cases c:j=k
  ·subst c; simp
  ·rw [beq_eq_false_iff_ne.mpr c,ih (by rcases List.mem_cons.mp h with e | h; exact absurd e.symm c; exact h)]
   rfl
theorem rR (k:Nat):∀l:List Nat,(l.map nD).eraseIdx (l.idxOf k)=(l.erase k).map nD
 | []=>rfl
 | j::l=>by
  rw [List.idxOf_cons,List.erase_cons]
  by_cases c:j=k
  ·subst c; simp
  ·have e:(j == k)=false:=beq_eq_false_iff_ne.mpr c
   rw [e]
   show nD j::(l.map nD).eraseIdx (l.idxOf k)=nD j::(l.erase k).map nD
   rw [rR k l]
theorem rem_nat (h:k∈l):um (.lst (l.map nD)) (nD k)=some (.lst ((l.erase k).map nD), .non):=by
 unfold um
 have e1:(nD k).py=some (.int (k:Int)):=rfl
 have e2:(PyData.int (k:Int)).plain=true:=rfl
 have e3:(PyData.int (k:Int)).depth≤60:=by simp [PyData.depth]
 simp only [vp,e1,nt,e2,e3,yx h,and_self,if_true]
 rw [rR]
theorem vU (k:Nat):∀l:List Nat,k∈l→(l.map fun k:Nat=>V.int (k:Int)).findIdx? (fun z=>eqV z (.int (k:Int)))=some (l.idxOf k)
 | [],h=>by cases h
 | y::l,h=>by
  rw [List.map_cons,List.findIdx?_cons,List.idxOf_cons]
  have e:eqV (V.int (y:Int)) (V.int (k:Int))=(y == k):=by
   show ((y:Int) == (k:Int))=_
   by_cases c:y=k
   ·subst c; simp
   ·rw [beq_eq_false_iff_ne.mpr c]
    exact beq_eq_false_iff_ne.mpr fun z=>c (by omega)
  rw [e]
  by_cases c:y=k
  ·subst c; simp
  ·rw [beq_eq_false_iff_ne.mpr c,vU k l (by rcases List.mem_cons.mp h with e | h; exact absurd e.symm c; exact h)]
   rfl
theorem idx_nat (h:k∈l):∀s:SD,ixdK s (some (.lst (l.map nD))) (some (.int (k:Int)))= .ok (.d (.int (l.idxOf k:Int))) s:=fun s=>by
 unfold ixdK
 simp only [ox,D.sc,vU k l h]
abbrev tsD (as:As):D:= .lst (as.map fun q=>nD q.1)
abbrev hsD (as:As):D:= .lst (as.map fun q=>nD q.2)
theorem Aq {k:Nat} (c:k<as.length):as[k]? =some (ta as k,he as k):=by
 unfold Rs.ta Rs.he
 rw [List.getD_eq_getElem?_getD,List.getElem?_eq_getElem c]
 rfl
theorem ixT (c:k<as.length):∀s:SD,ixK s (some (tsD as)) (some (.int (k:Int)))= .ok (.d (nD (ta as k))) s:=fun s=>ixL (f:=fun q:Nat×Nat=>nD q.1) (Aq c)
theorem ixH (c:k<as.length):∀s:SD,ixK s (some (hsD as)) (some (.int (k:Int)))= .ok (.d (nD (he as k))) s:=fun s=>ixL (f:=fun q:Nat×Nat=>nD q.2) (Aq c)
noncomputable def shB:SD→R Fl:=(af (aA (z2 oIx (aa 1) (aa 5)) (zSt 6))
 (bJ (zB (z2 (oIn false) (aa 6) (aa 4))) (af (aA (zM2 isL bb (aa 4) (aa 6)) (zSt 7))
 (af (aA (zSl (aa 4) zNo (zPt (z2 cA (aa 7) (zC (.int 1))))) (zSt 4))
 (aA (zSl (aa 3) zNo (zPt (aa 7))) (zSt 3)))) (af (az (zM2 isL (oB2 aE) (aa 4) (aG (aa 6))))
 (az (zM2 isL (oB2 aE) (aa 3) (aG (aa 5)))))))
abbrev shS (w:List Nat) (as:As) (st:Nat) (f:List Nat) (v5 v6 v7:Option Vl) (S:Sto):SD:=
 ⟨[some (.d (.lst (w.map nD))),some (.d (hsD as)),some (.d (nD st)),some (.own (.lst (f.map nD))),some (.own (.lst ((st::f.map (he as)).map nD))),v5,v6,v7],S⟩
theorem uY (l:List Nat) (i:Nat):cutD (l.map nD) none (some (i:Int))=(l.take i).map nD:=by
 rw [cutD_to _ (by omega),Int.toNat_natCast,List.map_take]
theorem sh_turn {G:SD→R Fl} (hG:G=shB) {v6 v7:Option Vl} (hk:k<as.length) (hz:f.length+2<sizeLine):
  ∃u6 u7,G (shS w as st f (some (.d (nD k))) v6 v7 S)= .ok .nx (shS w as st (stp (he as) st f k) (some (.d (nD k))) u6 u7 S):=by
 subst hG
 have i1:=ixH hk
 have i2:=in_nat (neg:=false) (L:=st::f.map (he as)) (k:=he as k)
 unfold stp
 by_cases c:he as k∈st::f.map (he as)
 ·have d1:=decide_eq_true c
  have i3:=idx_nat c
  obtain ⟨at_,hat⟩:∃a,a=(st::f.map (he as)).idxOf (he as k):=⟨_,rfl⟩
  rw [←hat] at i3
  have t1:cutD ((st::f.map (he as)).map nD) none (some ((at_:Int)+1))=(st::(f.take at_).map (he as)).map nD:=by
   rw [show (at_:Int)+1=((at_+1:Nat):Int) by omega,uY,List.take_succ_cons,List.map_take]
  have t2:=uY f at_
  rw [if_pos c,←hat]
  unfold shB
  simp! only [i1,i2,d1,ij,i3,t1,t2]
  exact ⟨_,_,rfl⟩
 ·have d1:=decide_eq_false c
  have s1:(((st::f.map (he as)).map nD).length<sizeLine)=True:=eq_true (by rw [List.length_map,List.length_cons,List.length_map]; omega)
  have s2:((f.map nD).length<sizeLine)=True:=eq_true (by rw [List.length_map]; omega)
  have a1:(st::f.map (he as)).map nD++ [nD (he as k)]=(st::(f++ [k]).map (he as)).map nD:=by
   rw [List.map_append,←List.cons_append,List.map_append (f:=nD)]; rfl
  have a2:f.map nD++ [nD k]=(f++ [k]).map nD:=by rw [List.map_append]; rfl
  rw [if_neg c]
  unfold shB
  simp! only [i1,i2,d1,s1,s2,a1,a2]
  exact ⟨_,_,rfl⟩
theorem stp_len:(stp (he as) st f k).length≤f.length+1:=by
 unfold stp
 split
 ·rw [List.length_take]; omega
 ·rw [List.length_append]; exact Nat.le_refl _
theorem vQ:∀(w:List Nat) (f:List Nat),(w.foldl (stp (he as) st) f).length≤f.length+w.length
 | [],f=>Nat.le_refl _
 | k::w,f=>by
  have:=vQ w (stp (he as) st f k)
  have:=stp_len (as:=as) (st:=st) (f:=f) (k:=k)
  rw [List.foldl_cons,List.length_cons]
  omega
theorem tX (hw:∀k∈w,k<as.length) (hz:w.length+2<sizeLine):goF dU [.lst (w.map nD),hsD as,nD st] ⟨sl,S⟩= .ok (.own (.lst ((sho (he as) st w).map nD))) ⟨sl,S⟩:=by
 refine eW ?_
 show Wp (iM ⟨[some (.d (.lst (w.map nD))),some (.d (hsD as)),some (.d (nD st)),none,none,none,none,none],S⟩) _ _
 obtain ⟨G,hG⟩:∃g,g=shB:=⟨_,rfl⟩
 have tn:=fun {f k v6 v7} hk hz=>sh_turn hG (w:=w) (as:=as) (st:=st) (S:=S) (f:=f) (k:=k) (v6:=v6) (v7:=v7) hk hz
 have e0:iM=(af (aA (bV zA0) (zSt 3))
 (af (aA (bV (zA (aa 2) zA0)) (zSt 4))
 (af (cC (aU (aG (aa 0))) (zSt 5) G)
 (aW (aa 3))))):=by rw [hG]; rfl
 rw [e0]
 clear e0 hG
 simp! only []
 rw [ae]
 refine kj (fun j s' =>∃v5 v6 v7,s' =shS w as st ((w.take j).foldl (stp (he as) st) []) v5 v6 v7 S) Nl.d1 (fun _ _ _=>trivial) ⟨none,none,none,rfl⟩ (fun j y s' ey hI=>?_) (fun s' hI=>?_)
 ·obtain ⟨u5,u6,u7,rfl⟩:=hI
  have ey:(w.map nD)[j]? =some y:=ey
  rw [List.getElem?_map] at ey
  cases ek:w[j]? with
  | none=>rw [ek] at ey; cases ey
  | some k=>
   rw [ek] at ey
   cases ey
   have hk:=hw k (List.mem_of_getElem? ek)
   have lf:=vQ (as:=as) (st:=st) (w.take j) []
   have lt:(w.take j).length≤w.length:=by rw [List.length_take]; omega
   obtain ⟨x6,x7,e⟩:=tn (f:=(w.take j).foldl (stp (he as) st) []) (v6:=u6) (v7:=u7) hk (by have:([]:List Nat).length=0:=rfl; omega)
   simp! only [e]
   exact ⟨_,_,_,by rw [lL ek]⟩
 ·have hI:∃v5 v6 v7,s' =shS w as st ((w.take (w.map nD).length).foldl (stp (he as) st) []) v5 v6 v7 S:=hI
  rw [List.length_map,List.take_length] at hI
  obtain ⟨u5,u6,u7,rfl⟩:=hI
  simp! only []
  rfl
noncomputable def waI:SD→R Fl:=(af (aA (z2 oIx (zLc (aU (aG (aa 5))) (zSt 10) (zB (z2 oEq (z2 oIx (aa 1) (aa 10)) (aa 7))) (aa 10) [10]) (zC (.int 0))) (zSt 9))
 (af (az (zM2 isL (oB2 um) (aa 5) (aa 9)))
 (af (az (zM2 isL (oB2 aE) (aa 8) (aG (aa 9))))
 (aA (z2 oIx (aa 2) (aa 9)) (zSt 7)))))
noncomputable def waB:SD→R Fl:=(af (aA (aa 3) (zSt 7))
 (af (aA (bV zA0) (zSt 8))
 (af (zWh (zB (z2 oNe (aa 7) (aa 4))) waI)
 (az (zM2 isL (oB2 aE) (aa 6) (aG (aD dU [] (zA (aa 8) (zA (aa 2) (zA (aa 3) zA0))))))))))
abbrev waS (u:List Nat) (as:As) (st go:Nat) (left:List Nat) (W:List (List Nat)) (v7 v8 v9 v10:Option Vl) (S:Sto):SD:=
 ⟨[some (.d (.lst (u.map nD))),some (.d (tsD as)),some (.d (hsD as)),some (.d (nD st)),some (.d (nD go)),some (.d (.cell S.nx)),some (.own (.lst (W.map fun w=> .lst (w.map nD)))),v7,v8,v9,v10],S.new (.lst (left.map nD))⟩
theorem wa_in {G:SD→R Fl} (hG:G=waI) {u:List Nat} {W:List (List Nat)} {v9 v10:Option Vl} (hl:∀k∈left,k<as.length) (h:∃k∈left,ta as k=p) (h1:left.length≤1000) (h2:w.length≤1000):
  ∃k u10,k∈left∧ta as k=p∧(left.filter fun k=>decide (ta as k=p))[0]? =some k∧G (waS u as st go left W (some (.d (nD p))) (some (.own (.lst (w.map nD)))) v9 v10 S)= .ok .nx (waS u as st go (left.erase k) W (some (.d (nD (he as k)))) (some (.own (.lst ((w++ [k]).map nD)))) (some (.d (nD k))) u10 S):=by
 subst hG
 have hs:(5000:Nat)<sizeLine:=by decide
 obtain ⟨k,hk⟩:∃k,(left.filter fun k=>decide (ta as k=p))[0]? =some k:=by
  obtain ⟨k,hk,e⟩:=h
  have hm:k∈left.filter fun k=>decide (ta as k=p):=List.mem_filter.mpr ⟨hk,decide_eq_true e⟩
  cases c:left.filter fun k=>decide (ta as k=p) with
  | nil=>rw [c] at hm; cases hm
  | cons j r=>exact ⟨j,rfl⟩
 have hm:=List.mem_of_getElem? hk
 obtain ⟨m1,m2⟩:=List.mem_filter.mp hm
 have m2:=of_decide_eq_true m2
 refine ⟨k,none,m1,m2,hk, ?_⟩
 have i1:=ixH (hl k m1)
 have i0:∀s:SD,ixK s (some (.lst ((left.filter fun k=>decide (ta as k=p)).map nD))) (some (.int 0))= .ok (.d (nD k)) s:=fun s=>ixL (f:=nD) (h:=0) hk
 have r1:=fun (a:Vl) (s:SD)=>b2K_ok (a:=a) (s:=s) (rem_nat m1)
 have s1:((w.map nD).length<sizeLine)=True:=eq_true (by rw [List.length_map]; omega)
 have a1:w.map nD++ [nD k]=(w++ [k]).map nD:=by rw [List.map_append]; rfl
 have c1:∀sl:List (Option Vl),tO (.d (.cell S.nx)) ⟨sl,S.new (.lst (left.map nD))⟩= .ok ⟨[.d (.cell S.nx)],fun s=>s.st.get S.nx=some (.lst (left.map nD)),left.map nD⟩ ⟨sl,S.new (.lst (left.map nD))⟩:=fun sl=>eC (s:=⟨sl,S.new (.lst (left.map nD))⟩) bH
 unfold waI
 simp! only [c1]
 rw [dB (l:=left) nD nD (fun k=>decide (ta as k=p)) rfl rfl Nl.d1 bH (fun j hj=>?_) (by omega)]
 ·simp! only [i0,r1,s1,a1,i1]
 ·have i2:=ixT (hl j hj)
  have c3:decide ((ta as j:Int)=(p:Int))=decide (ta as j=p):=decide_eq_decide.mpr (by omega)
  unfold Z.fM
  simp! only [i2,c3]
theorem lw_app {W:List (List Nat)} {v:List Nat}:(W.map fun w=>D.lst (w.map nD))++ [D.lst (v.map nD)]=(W++ [v]).map fun w=>D.lst (w.map nD):=by rw [List.map_append]; rfl
theorem wa_turn {G:SD→R Fl} (hG:G=waB) {u:List Nat} {W:List (List Nat)} {v7 v8 v9 v10:Option Vl} {b:Int} (U:Use (ta as) (he as) st go left b) (hb:1≤b) (hl:∀k∈left,k<as.length) (hz:left.length≤1000) (hW:W.length≤1000):
  Wp (G (waS u as st go left W v7 v8 v9 v10 S)) (fun fl s' =>fl= .nx∧∃left' w u7 u8 u9 u10,Trail (ta as) (he as) st w go∧(left' ++w).Perm left∧Ap.Take (ta as) (he as) go left [] st left' w∧s' =waS u as st go left' (W++ [sho (he as) st w]) u7 u8 u9 u10 S) XF:=by
 subst hG
 have hs:(5000:Nat)<sizeLine:=by decide
 obtain ⟨G,hG⟩:∃g,g=waI:=⟨_,rfl⟩
 have tn:=fun {left w p v9 v10} hl h h1 h2=>wa_in hG (u:=u) (as:=as) (st:=st) (go:=go) (W:=W) (S:=S) (left:=left) (w:=w) (p:=p) (v9:=v9) (v10:=v10) hl h h1 h2
 have e0:waB=(af (aA (aa 3) (zSt 7))
 (af (aA (bV zA0) (zSt 8))
 (af (zWh (zB (z2 oNe (aa 7) (aa 4))) G)
 (az (zM2 isL (oB2 aE) (aa 6) (aG (aD dU [] (zA (aa 8) (zA (aa 2) (zA (aa 3) zA0)))))))))):=by rw [hG]; rfl
 rw [e0]
 clear e0 hG
 simp! only []
 rw [ae]
 refine wh_w (m:=left.length) (fun m s' =>∃left' w p u9 u10,m=left'.length∧Trail (ta as) (he as) st w p∧(left' ++w).Perm left∧(∀l2 w2,Ap.Take (ta as) (he as) go left' w p l2 w2→Ap.Take (ta as) (he as) go left [] st l2 w2)∧s' =waS u as st go left' W (some (.d (nD p))) (some (.own (.lst (w.map nD)))) u9 u10 S) ⟨left,[],st,v9,v10,rfl, .nil,by rw [List.append_nil],fun _ _ h=>h,rfl⟩ (fun m s' hI=>?_)
 obtain ⟨left',w,p,u9,u10,rfl,T,P,fw,rfl⟩:=hI
 have lt:=P.length_eq
 rw [List.length_append] at lt
 have c3:decide ((p:Int)=(go:Int))=decide (p=go):=decide_eq_decide.mpr (by omega)
 simp! only [c3]
 by_cases c:p=go
 ·subst c
  have hw:∀k∈w,k<as.length:=fun k hk=>hl k (P.mem_iff.mp (List.mem_append_right _ hk))
  have sh:=fun sl (S:Sto)=>tX (sl:=sl) (S:=S) (st:=st) hw (by omega)
  have s1:((W.map fun w=>D.lst (w.map nD)).length<sizeLine)=True:=eq_true (by rw [List.length_map]; omega)
  simp! only [sh,s1,lw_app]
  exact ⟨left',w,⟨_,_,_,_,T,P,fw _ _ .done,rfl⟩⟩
 ·obtain ⟨k,x10,m1,m2,m3,e⟩:=tn (v9:=u9) (v10:=u10) (fun k hk=>hl k (P.mem_iff.mp (List.mem_append_left _ hk))) (U.on hb P T c) (by omega) (by omega:w.length≤1000)
  simp! only [c,e]
  refine ⟨_, ?_,left'.erase k,w++ [k],he as k,_,_,rfl,T.snoc' m2 rfl,Ap.perm_take m1 P,fun l2 w2 h=>fw _ _ (.step c m3 h),rfl⟩
  rw [List.length_erase_of_mem m1]
  have:=List.length_pos_of_mem m1
  omega
theorem rK {u:List Nat} {b:Int} (U:Use (ta as) (he as) st go u b) (hl:∀k∈u,k<as.length) (hz:u.length≤1000):
  ∃ws S',Ap.Ways (ta as) (he as) st go u ws∧(ws.length:Int)=b∧Ap.Out (ta as) (he as) st go u ws∧Ext S S'∧∀sl,goF df [.lst (u.map nD),tsD as,hsD as,nD st,nD go] ⟨sl,S⟩= .ok (.own (.lst (ws.map fun w=> .lst (w.map nD)))) ⟨sl,S'⟩:=by
 have hs:(5000:Nat)<sizeLine:=by decide
 suffices hh:Wp (jz ⟨[some (.d (.lst (u.map nD))),some (.d (tsD as)),some (.d (hsD as)),some (.d (nD st)),some (.d (nD go)),none,none,none,none,none,none],S⟩) (fun fl s' =>∃ws left:_,Ap.Ways (ta as) (he as) st go u ws∧(ws.length:Int)=b∧Ap.Out (ta as) (he as) st go u ws∧flv fl=some (.own (.lst (ws.map fun w=> .lst (w.map nD))))∧s'.st=S.new (.lst left)) XF by
  obtain ⟨fl,s',e,ws,left,h1,h2,h3,h4,h5⟩:=hh.is
  exact ⟨ws,_,h1,h2,h3,⟨Nat.le_succ _,fun i hi=>fK (Nat.ne_of_lt hi)⟩,fun sl=>eW (by show Wp (jz ⟨[some (.d (.lst (u.map nD))),some (.d (tsD as)),some (.d (hsD as)),some (.d (nD st)),some (.d (nD go)),none,none,none,none,none,none],S⟩) _ _; rw [e]; exact ⟨h4,h5⟩)⟩
 obtain ⟨G,hG⟩:∃g,g=waB:=⟨_,rfl⟩
 have tn:=fun {left W v7 v8 v9 v10 b} U hb hl hz hW=>wa_turn hG (u:=u) (as:=as) (st:=st) (go:=go) (S:=S) (left:=left) (W:=W) (v7:=v7) (v8:=v8) (v9:=v9) (v10:=v10) (b:=b) U hb hl hz hW
 have e0:jz=(af (aA (bx (z1 kb (aa 0))) (zSt 5))
 (af (aA (bV zA0) (zSt 6))
 (af (zWh (zB (z2 (oIn false) (aa 3) (zLc (aU (aG (aa 5))) (zSt 9) bP (z2 oIx (aa 1) (aa 9)) [9]))) G)
 (aW (aa 6))))):=by rw [hG]; rfl
 rw [e0]
 clear e0 hG
 simp! only []
 rw [ae]
 refine wh_w (m:=u.length) (fun m s' =>∃left R v7 v8 v9 v10,m=left.length∧(∀w∈R,Trail (ta as) (he as) st w go)∧(left++R.flatten).Perm u∧Use (ta as) (he as) st go left (b - R.length)∧R.length+left.length≤u.length∧(∀ws,Ap.Out (ta as) (he as) st go left ws→Ap.Out (ta as) (he as) st go u (R.map (sho (he as) st)++ws))∧s' =waS u as st go left (R.map (sho (he as) st)) v7 v8 v9 v10 S) ⟨u,[],none,none,none,none,rfl,fun _ h=>(by cases h),by rw [List.flatten_nil,List.append_nil],by show Use _ _ _ _ _ (b - 0); rw [Int.sub_zero]; exact U,by simp,fun ws h=>(by exact h),rfl⟩ (fun m s' hI=>?_)
 obtain ⟨left,R,v7,v8,v9,v10,rfl,hR,P,U1,hn,fw,rfl⟩:=hI
 have hl1:∀k∈left,k<as.length:=fun k hk=>hl k (P.mem_iff.mp (List.mem_append_left _ hk))
 have lt:=P.length_eq
 rw [List.length_append] at lt
 have c1:∀sl:List (Option Vl),tO (.d (.cell S.nx)) ⟨sl,S.new (.lst (left.map nD))⟩= .ok ⟨[.d (.cell S.nx)],fun s=>s.st.get S.nx=some (.lst (left.map nD)),left.map nD⟩ ⟨sl,S.new (.lst (left.map nD))⟩:=fun sl=>eC (s:=⟨sl,S.new (.lst (left.map nD))⟩) bH
 simp! only [c1]
 rw [dk (l:=left) nD (fun k=>nD (ta as k)) rfl rfl Nl.d1 bH (fun j hj=>?_) (by omega)]
 ·have i2:=in_nat (neg:=false) (L:=left.map (ta as)) (k:=st)
  rw [List.map_map] at i2
  have i2:∀s:SD,inK false s (some (nD st)) (some (.lst (left.map fun k=>nD (ta as k))))= .ok (.d (.bl (decide (st∈left.map (ta as))))) s:=i2
  simp! only [i2]
  by_cases c:st∈left.map (ta as)
  ·have c2:∃k∈left,ta as k=st:=List.mem_map.mp c
   simp! only [c]
   refine (tn U1 (U1.more c2) hl1 (by omega) (by rw [List.length_map]; omega)).mono (fun fl s' hh=>?_) fun _ _ _ h=>h.elim
   obtain ⟨rfl,left',w,u7,u8,u9,u10,T,P2,tk,rfl⟩:=hh
   have l2:=P2.length_eq
   rw [List.length_append] at l2
   have ln:0<w.length:=List.length_pos_iff.mpr (T.ne_nil U.ne)
   refine ⟨left'.length,by omega,left',R++ [w],u7,u8,u9,u10,rfl,fun x hx=>?_, ?_, ?_, ?_,fun ws h=>?_, ?_⟩
   ·rcases List.mem_append.mp hx with hx | hx
    ·exact hR x hx
    ·rw [List.mem_singleton.mp hx]; exact T
   ·rw [List.flatten_append,List.flatten_singleton]
    refine List.Perm.trans ?_ P
    refine List.Perm.trans ?_ (List.Perm.append_right _ P2)
    rw [List.append_assoc]
    exact List.Perm.append_left _ List.perm_append_comm
   ·have:=U1.next P2 T
    rw [List.length_append]
    show Use _ _ _ _ _ (b - ((R.length+1:Nat):Int))
    rw [show b - ((R.length+1:Nat):Int)=b - R.length - 1 by omega]
    exact this
   ·rw [List.length_append]; show R.length+1+_≤_; omega
   ·rw [List.map_append,List.append_assoc]
    exact fw _ (.step c tk h)
   ·rw [List.map_append]; rfl
  ·have e1:=U1.done fun k hk e=>c (List.mem_map.mpr ⟨k,hk,e⟩)
   simp! only [c]
   have o1:=fw [] (.done c)
   rw [List.append_nil] at o1
   exact ⟨R.map (sho (he as) st),left.map nD,Ap.ways_of U.nd hR P,by rw [List.length_map]; omega,o1,rfl,rfl⟩
 ·have i2:=ixT (hl1 j hj)
  unfold Z.fM
  simp! only [i2]
end
end T

set_option maxHeartbeats 4000000
namespace T
open PySem PySem.Spec PyProof.Rows L2 M Z A
open Classical
section
variable {s:SD} {S:Sto} {sl:List (Option Vl)} {x y z u:D} {n l d q:Nat} {N:ND} {sc tg:Str} {names:List Str} {ts:List (Int×TD)}
abbrev quF (names:List Str) (ts:List (Int×TD)) (sc tg:Str):List (Str×D):= [("names", .lst (names.map .str)),("rows", .lst (ts.map cT)),("source", .str sc),("target", .str tg)]
theorem pq3:fP "source" x ([("names",y),("rows",z)]:List (Str×D))=([("names",y),("rows",z),("source",x)]:List (Str×D)):=rfl
theorem pq4:fP "target" x ([("names",y),("rows",z),("source",u)]:List (Str×D))=([("names",y),("rows",z),("source",u),("target",x)]:List (Str×D)):=rfl
theorem dO:bO (quF names ts sc tg) "names" =some (.lst (names.map .str)):=rfl
theorem gp:bO (quF names ts sc tg) "rows" =some (.lst (ts.map cT)):=rfl
theorem qO:bO (quF names ts sc tg) "source" =some (.str sc):=rfl
theorem qN:bO (quF names ts sc tg) "target" =some (.str tg):=rfl
theorem ub (hN:NetAt S n l d N) (hG:Good N) (h1:sc∈N.names) (h2:tg∈N.names) (h3:sc≠tg) (n1:n<S.nx) (n2:l<S.nx) (n3:d<S.nx):
  goF bI [.cell S.nx, .cell n, .str sc, .str tg] ⟨sl,S.new (.obj "TiesApart" [])⟩= .ok (.d .non) ⟨sl,S.new (.obj "TiesApart" (quF N.names N.ties sc tg))⟩:=by
 have N1:∀x,NetAt (S.new x) n l d N:=fun x=>hN.ext Ext.new n1 n2 n3
 have k0:=fun sl x=>mu (sl:=sl) (N1 x) h1 h2 h3
 have k1:=fun sl x=>vM (sl:=sl) (N1 x)
 have k2:=fun sl x=>g_ties (sl:=sl) (N1 x) hG.rise hG.tl
 have q1:=fun x=>(N1 x).n
 refine eW ?_
 show Wp (dD ⟨[some (.d (.cell S.nx)),some (.d (.cell n)),some (.d (.str sc)),some (.d (.str tg))],S.new (.obj "TiesApart" [])⟩) _ _
 unfold dD
 dsimp! only [k0,k1,k2,q1,pn1,pn2,pq3,pq4]
theorem lM {z:Str} (h:Al z):PyData.strOk z=true:=by
 have hl:∀c∈TL.tl "abcdefghijklmnopqrstuvwxyz",c<1114112:=by decide+kernel
 unfold PyData.strOk
 rw [Array.all_eq_true]
 intro i hi
 exact decide_eq_true (hl _ (h _ (Array.mem_toList_iff.mpr (Array.getElem_mem hi))))
theorem tie_len (hG:Good N):N.ties.length≤sizeLine:=Nat.le_trans hG.tl (by decide)
abbrev prD (p:Str×Str):D:= .tup [.str p.1, .str p.2]
theorem eqv_pr (p q:Str×Str):PyData.eqv (.tuple [.str p.1, .str p.2]) (.tuple [.str q.1, .str q.2])=decide (q=p):=by
 have e:PyData.eqv (.tuple [.str p.1, .str p.2]) (.tuple [.str q.1, .str q.2])=(decide (p.1=q.1)&&(decide (p.2=q.2)&&true)):=rfl
 rw [e,Bool.and_true,Bool.eq_iff_iff,Bool.and_eq_true,decide_eq_true_eq,decide_eq_true_eq,decide_eq_true_eq]
 exact ⟨fun ⟨h1,h2⟩=>Prod.ext h1.symm h2.symm,fun h=>by rw [h]; exact ⟨rfl,rfl⟩⟩
theorem vI {ps:List (Str×Str)} {p:Str×Str} {neg:Bool} (hp:Al p.1∧Al p.2) (h:∀q∈ps,Al q.1∧Al q.2):∀s:SD,Bn neg s (some (prD p)) (some (.lst (ps.map prD)))= .ok (.d (.bl (if neg then !decide (p∈ps) else decide (p∈ps)))) s:=fun s=>by
 have l1:∀q:Str×Str,Al q.1∧Al q.2→lay (prD q)=true∧dep (prD q)≤60:=fun q hq=>by
  refine ⟨?_, ?_⟩
  ·simp only [prD,lay,lays,lM hq.1,lM hq.2,Bool.and_self]
  ·simp only [prD,dep,deps]; decide
 obtain ⟨a1,a2,a3⟩:=lay_py (l1 p hp).1
 have al:=ji (ds:=ps.map prD) fun d hd=>by
  obtain ⟨q,hq,rfl⟩:=List.mem_map.mp hd
  exact (l1 q (h q hq)).1
 have ad:=jr (k:=60) (ds:=ps.map prD) fun d hd=>by
  obtain ⟨q,hq,rfl⟩:=List.mem_map.mp hd
  exact (l1 q (h q hq)).2
 obtain ⟨b1,b2,b3⟩:=mq al
 have e2:Az (ps.map prD)=ps.map fun q=>PyData.tuple [.str q.1, .str q.2]:=by
  clear a1 a2 a3 al ad b1 b2 b3 h
  induction ps with
  | nil=>rfl
  | cons q ps ih=>rw [List.map_cons,Az,ih]; rfl
 refine inDK_ok (d:=toP (prD p)) (xs:=Az (ps.map prD)) (r:=decide (p∈ps)) a1 ?_ ?_ ?_ ?_
 ·rw [D.py,b1]
 ·unfold SeqAt.shaped
  rw [a2,a3]
  exact decide_eq_true (by have:=(l1 p hp).2; omega)
 ·unfold SeqAt.shaped
  rw [PyData.canLay0,PyData.depth,b2,b3]
  exact decide_eq_true (by omega)
 ·rw [e2]
  clear e2 a1 a2 a3 al ad b1 b2 b3 h
  induction ps with
  | nil=>rfl
  | cons q ps ih=>
   rw [List.map_cons,List.any_cons,ih]
   show (PyData.eqv (.tuple [.str q.1, .str q.2]) (.tuple [.str p.1, .str p.2]) || decide (p∈ps))=_
   rw [eqv_pr,Bool.eq_iff_iff]
   simp only [Bool.or_eq_true,decide_eq_true_eq,List.mem_cons]
noncomputable def pcB:SD→R Fl:=(bJ (zB (z2 (wA false) (hX (zA (aa 2) (zA (aa 3) zA0))) (zLc (aU (aG (z1 (aB ["PlacesApart"] "rows") (aa 0)))) (zSt 4) bP (hX (zA (z1 (aB ["Tie"] "tail") (aa 4)) (zA (z1 (aB ["Tie"] "head") (aa 4)) zA0))) [4]))) (lA "BadQuestion" "why" (zC (.str "tie"))) aI)
abbrev prs (ts:List (Int×TD)):List (Str×Str):=ts.map fun q=>(q.2.tail,q.2.head)
theorem pc_a (hN:NetAt S n l d N) (hG:Good N) (h1:sc∈N.names) (h2:tg∈N.names) (h3:sc≠tg) (n1:n<S.nx) (n2:l<S.nx) (n3:d<S.nx) {G:SD→R Fl} {Q:Fl→SD→Prop} {E:XQ} (h:Wp (G ⟨[some (.d (.cell S.nx)),some (.d (.cell n)),some (.d (.str sc)),some (.d (.str tg)),none],S.new (.obj "PlacesApart" (quF N.names N.ties sc tg))⟩) Q E):
  Wp (((af (az (aD cQ [] (zA (aa 1) (zA (aa 2) (zA (aa 3) zA0)))))
 (af (bj ["PlacesApart"] "names" (aa 0) (ar "Net" "places" cu [] (aa 1) zA0))
 (af (bj ["PlacesApart"] "rows" (aa 0) (ar "Net" "ties" dR [] (aa 1) zA0))
 (af (bj ["PlacesApart"] "source" (aa 0) (aa 2))
 (af (bj ["PlacesApart"] "target" (aa 0) (aa 3))
 G)))))) ⟨[some (.d (.cell S.nx)),some (.d (.cell n)),some (.d (.str sc)),some (.d (.str tg)),none],S.new (.obj "PlacesApart" [])⟩) Q E:=by
 have N1:∀x,NetAt (S.new x) n l d N:=fun x=>hN.ext Ext.new n1 n2 n3
 have k0:=fun sl x=>mu (sl:=sl) (N1 x) h1 h2 h3
 have k1:=fun sl x=>vM (sl:=sl) (N1 x)
 have k2:=fun sl x=>g_ties (sl:=sl) (N1 x) hG.rise hG.tl
 have q1:=fun x=>(N1 x).n
 dsimp! only [k0,k1,k2,q1,pn1,pn2,pq3,pq4]
 exact h
theorem pc_b (hG:Good N) (h1:sc∈N.names) (h2:tg∈N.names) {v1:Option Vl}:pcB ⟨[some (.d (.cell S.nx)),v1,some (.d (.str sc)),some (.d (.str tg)),none],S.new (.obj "PlacesApart" (quF N.names N.ties sc tg))⟩=
  if (sc,tg)∈prs N.ties then .ex "BadQuestion" [("why", .str "tie")] ⟨[some (.d (.cell S.nx)),v1,some (.d (.str sc)),some (.d (.str tg)),none],S.new (.obj "PlacesApart" (quF N.names N.ties sc tg))⟩ else .ok .nx ⟨[some (.d (.cell S.nx)),v1,some (.d (.str sc)),some (.d (.str tg)),none],S.new (.obj "PlacesApart" (quF N.names N.ties sc tg))⟩:=by
 have ip:=vI (neg:=false) (p:=(sc,tg)) (ps:=prs N.ties) ⟨(hG.nm _ h1).1,(hG.nm _ h2).1⟩ fun q hq=>by
  obtain ⟨r,hr,rfl⟩:=List.mem_map.mp hq
  exact ⟨(hG.tn r hr).1.1,(hG.tn r hr).2.1⟩
 rw [List.map_map] at ip
 have q0:∀x,(S.new x).get S.nx=some x:=fun _=>bH
 unfold pcB
 dsimp! only [q0,aj gp]
 rw [dk (l:=N.ties) cT (fun q=>D.tup [.str q.2.tail, .str q.2.head]) rfl rfl Nl.d1 trivial (fun q hq=>?_) (tie_len hG)]
 ·have ip:∀s:SD,Bn false s (some (.tup [.str sc, .str tg])) (some (.lst (N.ties.map fun q=>D.tup [.str q.2.tail, .str q.2.head])))= .ok (.d (.bl (decide ((sc,tg)∈prs N.ties)))) s:=ip
  dsimp! only [w_inD,ip]
  by_cases c:(sc,tg)∈prs N.ties
  ·dsimp! only [c]
  ·dsimp! only [c]
 ·have c1:∀s:SD,s.cont (.d (cT q))=some (.obj "Tie" (sH q.1 q.2)):=fun _=>rfl
  unfold Z.fM
  dsimp! only [c1]
end
open Rs (As ta he rm Lift Lifted rsB cz)
section
variable {a b:Vl} {s:SD} {S S' S1:Sto} {sl:List (Option Vl)} {x y u:D} {n l d q r m k go st:Nat} {sc tg:Str} {names:List Str} {ts:List (Int×TD)} {rs rs' :List (Option Int)} {as:As}
structure QOk (names:List Str) (ts:List (Int×TD)) (sc tg:Str):Prop where
 nd:names.Nodup
 nl:names.length≤14
 tl:ts.length≤40
 pl:∀q∈ts,q.2.tail∈names∧q.2.head∈names∧q.2.tail≠q.2.head
 hs:sc∈names
 ht:tg∈names
 ne:sc≠tg
def ao (names:List Str) (ts:List (Int×TD)):As:=ts.map fun q=>(names.idxOf q.2.tail,names.idxOf q.2.head)
theorem bY:(ao names ts).length=ts.length:=by unfold ao; rw [List.length_map]
theorem AY {q:Int×TD} (e:ts[k]? =some q):(ao names ts)[k]? =some (names.idxOf q.2.tail,names.idxOf q.2.head):=by unfold ao; rw [List.getElem?_map,e]; rfl
theorem jb {q:Int×TD} (e:ts[k]? =some q):ta (ao names ts) k=names.idxOf q.2.tail∧he (ao names ts) k=names.idxOf q.2.head:=by
 have h:=AY (names:=names) e
 unfold Rs.ta Rs.he
 rw [List.getD_eq_getElem?_getD,h]
 exact ⟨rfl,rfl⟩
theorem fk (O:QOk names ts sc tg):Rs.AsOk (ao names ts) names.length:=fun p hp=>by
 obtain ⟨q,hq,rfl⟩:=List.mem_map.mp hp
 obtain ⟨h1,h2,_⟩:=O.pl q hq
 exact ⟨fL h1,fL h2⟩
theorem vh (O:QOk names ts sc tg) (hk:k<(ao names ts).length):ta (ao names ts) k≠he (ao names ts) k:=by
 rw [bY] at hk
 obtain ⟨e1,e2⟩:=jb (names:=names) (List.getElem?_eq_getElem hk)
 obtain ⟨h1,h2,h3⟩:=O.pl _ (List.getElem_mem hk)
 rw [e1,e2]
 exact gz h1 h2 h3
theorem uW:(ts.map fun q:Int×TD=>nD (names.idxOf q.2.tail))=(ao names ts).map fun p=>nD p.1:=by unfold ao; rw [List.map_map]; rfl
theorem vK:(ts.map fun q:Int×TD=>nD (names.idxOf q.2.head))=(ao names ts).map fun p=>nD p.2:=by unfold ao; rw [List.map_map]; rfl
theorem nl2 {x y:D}:Nl [.d x, .d y]:=fun e he j=>by
 rcases List.mem_cons.mp he with rfl | he
 ·exact fun h=>nomatch h
 ·rw [List.mem_singleton.mp he]; exact fun h=>nomatch h
theorem wU (as:As):∀{k:Nat} {d:D},(sj (as.map fun q=>nD q.1) (as.map fun q=>nD q.2))[k]? =some d→k<as.length∧d= .tup [nD (ta as k),nD (he as k)]:=fun {k d} e=>by
 rw [kU,List.getElem?_map,List.getElem?_map] at e
 cases c:as[k]? with
 | none=>rw [c] at e; cases e
 | some p=>
  rw [c] at e
  cases e
  have hk:=(List.getElem?_eq_some_iff.mp c).1
  refine ⟨hk, ?_⟩
  have:=Aq hk
  rw [c] at this
  rw [Option.some.inj this]
theorem kW (as:As):(sj (as.map fun q=>nD q.1) (as.map fun q=>nD q.2)).length=as.length:=by
 induction as with
 | nil=>rfl
 | cons p as ih=>rw [List.map_cons,List.map_cons,sj,List.length_cons,ih]; rfl
theorem jW {f:Nat→D} {j:Nat}:(List.range j).map f++ [f j]=(List.range (j+1)).map f:=by rw [List.range_succ,List.map_append]; rfl
theorem iR {α:Type} {l:List α} {x:α}:(l++ [x]).length=l.length+1:=by rw [List.length_append]; rfl
theorem tD {ds:List D}:(dF ds).length=ds.length:=by
 unfold dF
 simp
theorem RestAt.extV {S' :Sto} (R:RestAt S r m as rs) (E:Ext S S'):RestAt S' r m as rs:=by
 have nx:=R.nx
 exact ⟨(E.get _ (by omega)).trans R.o,(E.get _ (by omega)).trans R.h,(E.get _ (by omega)).trans R.k,(E.get _ (by omega)).trans R.s,fun p hp=>(E.get _ (by omega)).trans (R.p p hp),Nat.le_trans nx E.nx,R.len,R.ok⟩
theorem ny:∀{xs:List D} {S:Sto} {x:D},dz (xs++ [x]) S=(dz xs S).new x
 | [],S,x=>by rw [jc,List.nil_append,←gU,jc]
 | y::xs,S,x=>by rw [List.cons_append,←gU,ny,gU]
theorem oX {xs:List D}:(dz xs S).nx=S.nx+xs.length:=rfl
def cj (ts:List (Int×TD)) (k:Nat):Int:=(ts.map (·.1)).getD k 0
theorem jJ {q:Int×TD} (e:ts[k]? =some q):cj ts k=q.1:=by
 unfold cj
 rw [List.getD_eq_getElem?_getD,List.getElem?_map,e]
 rfl
structure ApAt (S:Sto) (B:Nat) (x:D) (ways:List (List Int)) (wall:List D) (w c v:Nat):Prop where
 hx:x= .obj "Apart" [("ways", .cell w),("wall", .cell v)]
 hw:S.get w=some (.lst ((List.range ways.length).map fun p=> .cell (c+p)))
 hc:∀p l,ways[p]? =some l→S.get (c+p)=some (.lst (l.map .int))
 hv:S.get v=some (.lst wall)
 hb:B≤v∧v<c∧c+ways.length=w∧w<S.nx
theorem pa1:fP "ways" x ([]:List (Str×D))=([("ways",x)]:List (Str×D)):=rfl
theorem pa2:fP "wall" x ([("ways",y)]:List (Str×D))=([("ways",y),("wall",x)]:List (Str×D)):=rfl
theorem zp:goF ba [.cell S.nx,x,y] ⟨sl,S.new (.obj "Apart" [])⟩= .ok (.d .non) ⟨sl,S.new (.obj "Apart" [("ways",x),("wall",y)])⟩:=by
 refine eW ?_
 show Wp (gK ⟨[some (.d (.cell S.nx)),some (.d x),some (.d y)],S.new (.obj "Apart" [])⟩) _ _
 unfold gK
 simp! only [pa1,pa2]
theorem zv {P:Nat→Bool} {f:Nat→D} {j:Nat}:((List.range (j+1)).filter P).map f=if P j=true then ((List.range j).filter P).map f++ [f j] else ((List.range j).filter P).map f:=by
 rw [List.range_succ,List.filter_append,List.map_append]
 by_cases c:P j=true
 ·rw [List.filter_cons_of_pos c,if_pos c]; rfl
 ·rw [List.filter_cons_of_neg c,if_neg c]; simp
theorem nf {fe:SD→R Vl} {fz:Vl→SD→R Unit} {is:List Nat} {ws:List (List Nat)} {P:List (Option Vl)→Prop} {f:List Nat→D} (e0:P (eQ sl is)) (hz:ws.length≤1000)
  (st:∀w∈ws,∀sl0 S1,P sl0→Ext S S1→Wp (fz (.d (.lst (w.map nD))) ⟨sl0,S1⟩) (fun _ s2=>Wp (fe s2) (fun a s3=>a= .d (.cell S1.nx)∧s3.st=S1.new (f w)∧P (eQ s3.sl is)) XF) XF):
  ∃sl0,P sl0∧lcK fz bP fe is ⟨[.d (.lst (ws.map fun w=> .lst (w.map nD)))],fun _=>True,ws.map fun w=> .lst (w.map nD)⟩ ⟨sl,S⟩= .ok (.own (.lst ((List.range ws.length).map fun p=> .cell (S.nx+p)))) ⟨sl0,dz (ws.map f) S⟩:=by
 have hs:(5000:Nat)<sizeLine:=by decide
 have hh:=lc_w (src:=⟨[.d (.lst (ws.map fun w=> .lst (w.map nD)))],fun _=>True,ws.map fun w=> .lst (w.map nD)⟩) (s1:=⟨sl,S⟩) (fz:=fz) (fe:=fe) (is:=is)
  (fun acc s' =>P s'.sl∧s'.st=dz ((ws.take acc.length).map f) S∧acc=(List.range acc.length).map (fun p=> .cell (S.nx+p))∧acc.length≤ws.length) Nl.d1 (fun _ _ _=>trivial) ⟨e0,by show S=dz [] S; rw [jc],rfl,Nat.zero_le _⟩ (fun acc s' d ed hI=>?_) (by show (ws.map _).length≤_; rw [List.length_map]; omega)
 ·obtain ⟨v,s',e,acc,rfl,hl,hP,eS,ea,_⟩:=hh.is
  have hl:acc.length=ws.length:=hl.trans (by rw [List.length_map])
  refine ⟨s'.sl,hP, ?_⟩
  rw [hl,List.take_length] at eS
  rw [hl] at ea
  rw [e,←eS,←ea]
 ·obtain ⟨hP,eS,ea,la⟩:=hI
  obtain ⟨sl',S'⟩:=s'
  have eS:S' =_:=eS
  subst eS
  have ed:(ws.map fun w=>D.lst (w.map nD))[acc.length]? =some d:=ed
  rw [List.getElem?_map] at ed
  cases ew:ws[acc.length]? with
  | none=>rw [ew] at ed; cases ed
  | some w=>
   rw [ew] at ed
   cases ed
   have hk:=(List.getElem?_eq_some_iff.mp ew).1
   have nx1:(dz ((ws.take acc.length).map f) S).nx=S.nx+acc.length:=by rw [oX,List.length_map,List.length_take]; omega
   refine (st w (List.mem_of_getElem? ew) _ _ hP ⟨by rw [nx1]; omega,fun i hi=>jd hi⟩).mono (fun _ s2 h2=>h2.mono (fun a s3 h3=>?_) fun _ _ _ h=>h) fun _ _ _ h=>h
   obtain ⟨rfl,h4,h5⟩:=h3
   refine ⟨h5, ?_, ?_, ?_⟩
   ·show s3.st=_
    rw [h4,iR,List.take_add_one,ew,List.map_append,←ny]
    rfl
   ·rw [iR,←jW,←ea,nx1]
   ·rw [iR]; omega
abbrev taS (q:Nat) (v1 v2 v3 v4 v5 v6 v7 v8 v9 v10 v11 v12 v13 v14 v15 v16:Option Vl) (S:Sto):SD:=
 ⟨[some (.d (.cell q)),v1,v2,v3,v4,v5,v6,v7,v8,v9,v10,v11,v12,v13,v14,v15,v16],S⟩
theorem tr_a {G:SD→R Fl} {Q:Fl→SD→Prop} (hq:S.get q=some (.obj "TiesApart" (quF names ts sc tg))) (q1:q<S.nx) (O:QOk names ts sc tg)
  (h:∀S1,RestAt S1 S.nx names.length [] []→Ext S S1→Wp (G (taS q (some (.d (.cell S.nx))) (some (.own (tsD (ao names ts)))) (some (.own (hsD (ao names ts)))) none none none none none none none none none none none none none S1)) Q XF):
  Wp (((af (aA (dH "Rest" bf [] (zA (z1 de (z1 (aB ["TiesApart"] "names") (aa 0))) zA0)) (zSt 1))
 (af (aA (zLc (aU (aG (z1 (aB ["TiesApart"] "rows") (aa 0)))) (zSt 12) bP (zM2 isL bb (z1 (aB ["TiesApart"] "names") (aa 0)) (z1 (aB ["Tie"] "tail") (aa 12))) [12]) (zSt 2))
 (af (aA (zLc (aU (aG (z1 (aB ["TiesApart"] "rows") (aa 0)))) (zSt 12) bP (zM2 isL bb (z1 (aB ["TiesApart"] "names") (aa 0)) (z1 (aB ["Tie"] "head") (aa 12))) [12]) (zSt 3))
 G)))) (taS q none none none none none none none none none none none none none none none none S)) Q XF:=by
 have hs:(5000:Nat)<sizeLine:=by decide
 have nl:=O.nl
 have tl:=O.tl
 have ln:(((names.map D.str).length:Nat):Int)=(names.length:Int):=by rw [List.length_map]
 obtain ⟨S1,ei,R1,G1,n1⟩:=qJ (S0:=S) (m:=names.length) (by omega)
 have e3:=fun sl=>je (sl:=sl) (S:=S) (i:=S.nx) (F:=bf) fun s=>ei s.sl
 have q2:S1.get q=_:=(G1.old q q1).trans hq
 have h:=h S1 R1 ⟨G1.nx,G1.old⟩
 dsimp! only [hq,aj dO,aj gp,ln,e3,q2]
 rw [dk (l:=ts) cT (fun p=>nD (names.idxOf p.2.tail)) rfl rfl Nl.d1 trivial (fun p hp=>?_) (by omega)]
 ·dsimp! only [aj dO,aj gp,q2]
  rw [dk (l:=ts) cT (fun p=>nD (names.idxOf p.2.head)) rfl rfl Nl.d1 trivial (fun p hp=>?_) (by omega)]
  ·dsimp! only [uW,vK]
   exact h
  ·have c1:∀s:SD,s.cont (.d (cT p))=some (.obj "Tie" (sH p.1 p.2)):=fun _=>rfl
   have ix:=gy (O.pl p hp).2.1
   unfold Z.fM
   dsimp! only [c1,q2,aj dO,ij,ix]
 ·have c1:∀s:SD,s.cont (.d (cT p))=some (.obj "Tie" (sH p.1 p.2)):=fun _=>rfl
  have ix:=gy (O.pl p hp).1
  unfold Z.fM
  dsimp! only [c1,q2,aj dO,ij,ix]
theorem tr_b {G:SD→R Fl} {Q:Fl→SD→Prop} (R:RestAt S r m [] []) (ok:Rs.AsOk as m) (ne:∀k,k<as.length→ta as k≠he as k) (hz:as.length≤1000)
  (h:∀S1,RestAt S1 r m as (rsB (List.replicate as.length (some 1)))→S1.nx=S.nx→(∀j,j<r→S1.get j=S.get j)→Wp (G (taS q (some (.d (.cell r))) (some (.d (tsD as))) (some (.d (hsD as))) (some (.own (.lst ((List.range as.length).map nD)))) none none none none none none none none none none none none S1)) Q XF):
  Wp (((af (aA (zLc (Ay (aa 2) (aa 3)) (ig [13,14]) bP (ar "Rest" "put_arc" aH [.int 0] (aa 1) (zA (aa 13) (zA (aa 14) (zA (zC (.int 1)) zA0)))) [13,14]) (zSt 4))
 G)) (taS q (some (.d (.cell r))) (some (.own (tsD as))) (some (.own (hsD as))) none none none none none none none none none none none none none S)) Q XF:=by
 have hs:(5000:Nat)<sizeLine:=by decide
 have z2:=fun s:SD=>wV (a:= .d (tsD as)) (b:= .d (hsD as)) (s:=s) (xs:=as.map fun q=>nD q.1) (ys:=as.map fun q=>nD q.2) rfl rfl
 have mRp:bO (dZ r m) "put_arc" =none:=rfl
 dsimp! only [z2]
 rw [ae]
 refine (lc_w (fun acc s' =>∃S1,s' =taS q (some (.d (.cell r))) (some (.d (tsD as))) (some (.d (hsD as))) none none none none none none none none none none none none none S1∧acc=(List.range acc.length).map nD∧RestAt S1 r m (as.take acc.length) (rsB (List.replicate acc.length (some 1)))∧S1.nx=S.nx∧∀j,j<r→S1.get j=S.get j) nl2 (fun _ _ _=>trivial) ⟨S,rfl,rfl,R,rfl,fun _ _=>rfl⟩ (fun acc s' d ed hI=>?_) ?_).mono (fun v s' hh=>?_) fun _ _ _ h=>h
 ·obtain ⟨S1,rfl,ea,R1,n1,f1⟩:=hI
  obtain ⟨hk,rfl⟩:=wU as ed
  obtain ⟨o1,o2⟩:=ok.at hk
  have lt:(as.take acc.length).length=acc.length:=by rw [List.length_take]; omega
  obtain ⟨S2,e2,R2,n2,f2⟩:=mr (u:=some 1) (b:=some 0) R1 o1 o2 (ne _ hk) (by rw [lt]; omega)
  rw [lt] at e2
  have e2:∀sl,goF aH [.cell r, .int (ta as acc.length:Int), .int (he as acc.length:Int), .int 1, .int 0] ⟨sl,S1⟩= .ok (.d (.int (acc.length:Int))) ⟨sl,S2⟩:=e2
  have o3:=R1.o
  dsimp! only [o3,ay mRp,e2]
  refine ⟨S2,rfl, ?_, ?_,n2.trans n1,fun j hj=>(f2 j (.inl hj)).trans (f1 j hj)⟩
  ·rw [iR,←jW,←ea]
  ·rw [iR,List.take_add_one,Aq hk,List.replicate_succ',Rs.tq]
   exact R2
 ·show (sj _ _).length≤_
  rw [kW]; omega
 ·obtain ⟨acc,rfl,hl,S1,rfl,ea,R1,n1,f1⟩:=hh
  have hl:acc.length=as.length:=hl.trans (kW as)
  rw [hl,List.take_length] at R1
  rw [hl] at ea
  rw [ea]
  dsimp! only []
  exact h S1 R1 n1 f1
theorem tr_c {G:SD→R Fl} {Q:Fl→SD→Prop} {us:List (Option Int)} (hq:S.get q=some (.obj "TiesApart" (quF names ts sc tg))) (O:QOk names ts sc tg) (R:RestAt S r names.length as (rsB us)) (hl:us.length=as.length) (hz:as.length≤1000) (G0:Rs.Good as names.length (names.idxOf sc) (names.idxOf tg) (rsB us)) (hr:q≠r+2)
  (h:∀rs' am f,Lift as names.length (names.idxOf sc) (names.idxOf tg) (rsB us) rs' am→Lifted as us names.length (names.idxOf sc) (names.idxOf tg) rs' f am→Wp (G (taS q (some (.d (.cell r))) (some (.d (tsD as))) (some (.d (hsD as))) (some (.d (.lst ((List.range as.length).map nD)))) (some (.d (nD (names.idxOf sc)))) (some (.d (nD (names.idxOf tg)))) (some (.own (.lst ((Ap.usedF f as.length).map nD)))) none none none none none none none none none (S.put (r+2) (.lst (rs'.map rD))))) Q XF):
  Wp (((af (wX 5 6 (zA (zM2 isL bb (z1 (aB ["TiesApart"] "names") (aa 0)) (z1 (aB ["TiesApart"] "source") (aa 0))) (zA (zM2 isL bb (z1 (aB ["TiesApart"] "names") (aa 0)) (z1 (aB ["TiesApart"] "target") (aa 0))) zA0)))
 (af (az (ar "Rest" "lift" bQ [] (aa 1) (zA (aa 5) (zA (aa 6) zA0))))
 (af (aA (zLc (fR (aG (aa 4))) (ig [11,15]) (zB (z2 oGt (ar "Rest" "back_of" aN [] (aa 1) (zA (aa 15) zA0)) (zC (.int 0)))) (aa 11) [11,15]) (zSt 7))
 G)))) (taS q (some (.d (.cell r))) (some (.d (tsD as))) (some (.d (hsD as))) (some (.own (.lst ((List.range as.length).map nD)))) none none none none none none none none none none none none S)) Q XF:=by
 have hs:(5000:Nat)<sizeLine:=by decide
 have nl:=O.nl
 have i1:=gy O.hs
 have i2:=gy O.ht
 obtain ⟨rs',am,L,e1⟩:=g_lift R G0 (by omega)
 obtain ⟨f,LD⟩:=Rs.ro hl G0 L
 have R1:RestAt (S.put (r+2) (.lst (rs'.map rD))) r names.length as rs' :=R.rooms (by rw [LD.len,Rs.jV,hl])
 have h:=h rs' am f L LD
 have o1:=R.o
 have mRl:bO (dZ r names.length) "lift" =none:=rfl
 have mRb:bO (dZ r names.length) "back_of" =none:=rfl
 dsimp! only [hq,aj dO,aj qO,aj qN,ij,i1,i2,o1,ay mRl,e1]
 rw [dB (l:=List.range as.length) (fun k:Nat=>D.tup [.int (k:Int),nD k]) nD (fun k=>decide (0<f k)) gq rfl Nl.d1 trivial (fun k hk=>?_) (by rw [List.length_range]; omega)]
 ·dsimp! only []
  exact h
 ·have hk:=List.mem_range.mp hk
  have e2:=fun sl=>rO (sl:=sl) R1 hk (by omega)
  rw [LD.bk k hk] at e2
  have e2:∀sl,goF aN [.cell r, .int (k:Int)] ⟨sl,S.put (r+2) (.lst (rs'.map rD))⟩= .ok (.d (.int (f k))) ⟨sl,S.put (r+2) (.lst (rs'.map rD))⟩:=e2
  have o2:=R1.o
  unfold Z.fM
  dsimp! only [o2,ay mRb,e2]
theorem tr_d {G:SD→R Fl} {Q:Fl→SD→Prop} {v1 v4:Option Vl} {u:List Nat} {am:Int} (hv:v1=some (.d (.cell r))) (R:RestAt S r m as rs) (hz:m≤1000) (hst:st<m) (U:Ap.Use (ta as) (he as) st go u am) (hl:∀k∈u,k<as.length) (hu:u.length≤1000)
  (h:∀ws S1,Ap.Ways (ta as) (he as) st go u ws→(ws.length:Int)=am→Ap.Out (ta as) (he as) st go u ws→Ext S S1→Wp (G (taS q v1 (some (.d (tsD as))) (some (.d (hsD as))) v4 (some (.d (nD st))) (some (.d (nD go))) (some (.d (.lst (u.map nD)))) (some (.own (.lst (ws.map fun w=> .lst (w.map nD))))) (some (.own (.lst ((List.range m).map fun p=>D.bl (cz as rs false m st p))))) none none none none none none none S1)) Q XF):
  Wp (((af (aA (aD df [] (zA (aa 7) (zA (aa 2) (zA (aa 3) (zA (aa 5) (zA (aa 6) zA0)))))) (zSt 8))
 (af (aA (ar "Rest" "reached" aZ [] (aa 1) (zA (aa 5) zA0)) (zSt 9))
 G))) (taS q v1 (some (.d (tsD as))) (some (.d (hsD as))) v4 (some (.d (nD st))) (some (.d (nD go))) (some (.own (.lst (u.map nD)))) none none none none none none none none none S)) Q XF:=by
 have hs:(5000:Nat)<sizeLine:=by decide
 subst hv
 obtain ⟨ws,S1,W,lw,o,E,e1⟩:=rK (S:=S) U hl hu
 have R1:=R.extV E
 have e2:=fun sl=>rL (sl:=sl) R1 hst (by omega)
 have h:=h ws S1 W lw o E
 have o2:=R1.o
 have mRr:bO (dZ r m) "reached" =none:=rfl
 dsimp! only [e1,o2,ay mRr,e2]
 exact h
theorem tr_e {G:SD→R Fl} {Q:Fl→SD→Prop} {v1 v4 v5 v6 v7 v8:Option Vl} {U:Nat→Bool} (hq:S.get q=some (.obj "TiesApart" (quF names ts sc tg))) (q1:q<S.nx) (O:QOk names ts sc tg)
  (h:∀v11 v12,Wp (G (taS q v1 (some (.d (tsD (ao names ts)))) (some (.d (hsD (ao names ts)))) v4 v5 v6 v7 v8 (some (.own (.lst ((List.range names.length).map fun p=>D.bl (U p))))) (some (.d (.cell S.nx))) v11 v12 none none none none (S.new (.lst ((Ap.wallT (ao names ts) U).map fun k=> .int (cj ts k)))))) Q XF):
  Wp (((af (aA (bx (bV zA0)) (zSt 10))
 (af (cC (fR (aG (z1 (aB ["TiesApart"] "rows") (aa 0)))) (ig [11,12]) (bJ (iU (zB (z2 oIx (aa 9) (z2 oIx (aa 2) (aa 11)))) (fN (zB (z2 oIx (aa 9) (z2 oIx (aa 3) (aa 11)))))) (az (zM2 isL (oB2 aE) (aa 10) (aG (z1 (aB ["Tie"] "number") (aa 12))))) aI))
 G))) (taS q v1 (some (.d (tsD (ao names ts)))) (some (.d (hsD (ao names ts)))) v4 v5 v6 v7 v8 (some (.own (.lst ((List.range names.length).map fun p=>D.bl (U p))))) none none none none none none none S)) Q XF:=by
 have hs:(5000:Nat)<sizeLine:=by decide
 have tl:=O.tl
 have q2:∀x,(S.new x).get q=some (.obj "TiesApart" (quF names ts sc tg)):=fun x=>(fK (Nat.ne_of_lt q1)).trans hq
 dsimp! only [q2,aj gp]
 rw [ae]
 refine kj (fun j s' =>∃v11 v12,s' =taS q v1 (some (.d (tsD (ao names ts)))) (some (.d (hsD (ao names ts)))) v4 v5 v6 v7 v8 (some (.own (.lst ((List.range names.length).map fun p=>D.bl (U p))))) (some (.d (.cell S.nx))) v11 v12 none none none none (S.new (.lst (((List.range j).filter fun k=>U (ta (ao names ts) k)&&!U (he (ao names ts) k)).map fun k=> .int (cj ts k))))) Nl.d1 (fun _ _ _=>trivial) ⟨none,none,rfl⟩ (fun j y s' ey hI=>?_) (fun s' hI=>?_)
 ·obtain ⟨v11,v12,rfl⟩:=hI
  have ey:(dF (ts.map cT))[j]? =some y:=ey
  rw [gS,List.getElem?_map] at ey
  cases eq:ts[j]? with
  | none=>rw [eq] at ey; cases ey
  | some p=>
   rw [eq] at ey
   cases ey
   have hj:=(List.getElem?_eq_some_iff.mp eq).1
   have c1:∀s:SD,s.cont (.d (cT p))=some (.obj "Tie" (sH p.1 p.2)):=fun _=>rfl
   have jl:j<(ao names ts).length:=by rw [bY]; exact hj
   obtain ⟨o1,o2⟩:=(fk O).at jl
   have i1:=ixT jl
   have i2:=ixH jl
   have i3:∀s:SD,ixK s (some (.lst ((List.range names.length).map fun p=>D.bl (U p)))) (some (.int (ta (ao names ts) j:Int)))= .ok (.d (.bl (U (ta (ao names ts) j)))) s:=fun s=>ixR (f:=fun p=>D.bl (U p)) o1
   have i4:∀s:SD,ixK s (some (.lst ((List.range names.length).map fun p=>D.bl (U p)))) (some (.int (he (ao names ts) j:Int)))= .ok (.d (.bl (U (he (ao names ts) j)))) s:=fun s=>ixR (f:=fun p=>D.bl (U p)) o2
   have sz:((((List.range j).filter fun k=>U (ta (ao names ts) k)&&!U (he (ao names ts) k)).map fun k=>D.int (cj ts k)).length<sizeLine)=True:=eq_true (by
    rw [List.length_map]
    have:=List.length_filter_le (fun k=>U (ta (ao names ts) k)&&!U (he (ao names ts) k)) (List.range j)
    rw [List.length_range] at this
    omega)
   have en:=jJ eq
   have fs:=zv (P:=fun k=>U (ta (ao names ts) k)&&!U (he (ao names ts) k)) (f:=fun k=>D.int (cj ts k)) (j:=j)
   rw [en] at fs
   dsimp! only [i1,i2,i3,i4]
   cases u1:U (ta (ao names ts) j) with
   | false=>
    rw [u1] at fs
    dsimp! only [i1,i2,i3,i4,u1]
    exact ⟨_,_,by rw [fs]; rfl⟩
   | true=>
    cases u2:U (he (ao names ts) j) with
    | true=>
     rw [u1,u2] at fs
     dsimp! only [i1,i2,i3,i4,u1,u2]
     exact ⟨_,_,by rw [fs]; rfl⟩
    | false=>
     rw [u1,u2] at fs
     dsimp! only [i1,i2,i3,i4,u1,u2,c1,sz]
     exact ⟨_,_,by rw [fs]; rfl⟩
 ·have pl:(dF (ts.map cT)).length=ts.length:=by rw [tD,List.length_map]
  have hI:∃v11 v12,s' =taS q v1 (some (.d (tsD (ao names ts)))) (some (.d (hsD (ao names ts)))) v4 v5 v6 v7 v8 (some (.own (.lst ((List.range names.length).map fun p=>D.bl (U p))))) (some (.d (.cell S.nx))) v11 v12 none none none none (S.new (.lst (((List.range (dF (ts.map cT)).length).filter fun k=>U (ta (ao names ts) k)&&!U (he (ao names ts) k)).map fun k=> .int (cj ts k)))):=hI
  rw [pl,←bY (names:=names)] at hI
  obtain ⟨v11,v12,rfl⟩:=hI
  dsimp! only []
  exact h v11 v12
theorem tr_f {v1 v2 v3 v4 v5 v6 v7 v9 v11 v12:Option Vl} {ws:List (List Nat)} {v B:Nat} {wall:List D} (hq:S.get q=some (.obj "TiesApart" (quF names ts sc tg))) (q1:q<S.nx) (hw:∀w∈ws,∀k∈w,k<ts.length) (hz:ws.length≤1000) (hz2:∀w∈ws,w.length≤1000) (hv:S.get v=some (.lst wall)) (v1' :v<S.nx) (hB:B≤v):
  ∃x S',ApAt S' B x (ws.map fun w=>w.map (cj ts)) wall (S.nx+ws.length) S.nx v∧Ext S S'∧Wp (((aW (zFrz (dH "Apart" ba [] (zA (bx (zLc (aU (aG (aa 8))) (zSt 16) bP (bx (zLc (aU (aG (aa 16))) (zSt 11) bP (z1 (aB ["Tie"] "number") (z2 oIx (z1 (aB ["TiesApart"] "rows") (aa 0)) (aa 11))) [11])) [16])) (zA (aa 10) zA0)))))) (taS q v1 v2 v3 v4 v5 v6 v7 (some (.own (.lst (ws.map fun w=> .lst (w.map nD))))) v9 (some (.d (.cell v))) v11 v12 none none none none S)) (fun fl s' =>flv fl=some (.d x)∧s'.st=S') XF:=by
 have hs:(5000:Nat)<sizeLine:=by decide
 obtain ⟨S1,hS1⟩:∃S1,S1=dz (ws.map fun w=>D.lst (w.map fun k=> .int (cj ts k))) S:=⟨_,rfl⟩
 have n1:S1.nx=S.nx+ws.length:=by rw [hS1,oX,List.length_map]
 have E1:Ext S S1:=⟨by omega,fun i hi=>by rw [hS1]; exact jd hi⟩
 have c1:∀p w,ws[p]? =some w→S1.get (S.nx+p)=some (.lst (w.map fun k=> .int (cj ts k))):=fun p w e=>by rw [hS1]; exact oY (by rw [List.getElem?_map,e]; rfl)
 obtain ⟨S2,hS2⟩:∃S2,S2=S1.new (.lst ((List.range ws.length).map fun p=> .cell (S.nx+p))):=⟨_,rfl⟩
 have E2:Ext S1 S2:=by rw [hS2]; exact Ext.new
 have n2:S2.nx=S.nx+ws.length+1:=by rw [hS2,vA,n1]
 refine ⟨.obj "Apart" [("ways", .cell (S.nx+ws.length)),("wall", .cell v)],S2.tick,⟨rfl, ?_,fun p l e=>?_, ?_,by rw [List.length_map,xK]; omega⟩,(E1.trans E2).trans Ext.tick, ?_⟩
 ·rw [cF (by omega),hS2,←n1,bH,List.length_map]
 ·rw [List.getElem?_map] at e
  cases ew:ws[p]? with
  | none=>rw [ew] at e; cases e
  | some w=>
   rw [ew] at e
   cases e
   have hp:=(List.getElem?_eq_some_iff.mp ew).1
   rw [cF (by omega),E2.get _ (by omega),c1 p w ew,List.map_map]
   rfl
 ·rw [cF (by omega),E2.get _ (by omega),E1.get _ v1',hv]
 ·have ms:=fun sl=>je (sl:=sl) (S:=S2) (i:=S2.nx) (F:=ba) fun s=>zp (sl:=s.sl) (S:=S2) (x:= .cell (S.nx+ws.length)) (y:= .cell v)
  dsimp! only []
  refine Exists.elim (nf (S:=S) (ws:=ws) (fz:=zSt 16) (fe:=bx (zLc (aU (aG (aa 16))) (zSt 11) bP (z1 (aB ["Tie"] "number") (z2 oIx (z1 (aB ["TiesApart"] "rows") (aa 0)) (aa 11))) [11])) (is:= [16]) (f:=fun w=>D.lst (w.map fun k=> .int (cj ts k)))
   (P:=fun l=>∃u11,l= [some (.d (.cell q)),v1,v2,v3,v4,v5,v6,v7,some (.d (.lst (ws.map fun w=> .lst (w.map nD)))),v9,some (.d (.cell v)),u11,v12,none,none,none,none])
   (sl:= [some (.d (.cell q)),v1,v2,v3,v4,v5,v6,v7,some (.d (.lst (ws.map fun w=> .lst (w.map nD)))),v9,some (.d (.cell v)),v11,v12,none,none,none,none]) ⟨v11,rfl⟩ hz (fun w hm sl0 S3 hP E3=>?_)) fun sl0 hh=>?_
  rotate_left
  ·obtain ⟨⟨u11,rfl⟩,e1⟩:=hh
   dsimp! only [e1,←hS1,n1,←hS2,ms]
  ·obtain ⟨u11,rfl⟩:=hP
   have q3:S3.get q=_:=(E3.get q q1).trans hq
   dsimp! only []
   rw [dk (l:=w) nD (fun k=>D.int (cj ts k)) rfl rfl Nl.d1 trivial (fun k hk=>?_) (by have:=hz2 w hm; omega)]
   ·dsimp! only []
    exact ⟨_,rfl⟩
   ·have hk:=hw w hm k hk
    have et:=List.getElem?_eq_getElem hk
    have i1:∀s:SD,ixK s (some (.lst (ts.map cT))) (some (.int (k:Int)))= .ok (.d (cT ts[k])) s:=fun s=>ixL (f:=cT) et
    have c1:∀s:SD,s.cont (.d (cT ts[k]))=some (.obj "Tie" (sH ts[k].1 ts[k].2)):=fun _=>rfl
    have en:=jJ et
    unfold Z.fM
    dsimp! only [q3,aj gp,i1,c1,en]
structure AnT (names:List Str) (ts:List (Int×TD)) (sc tg:Str) (rs' :List (Option Int)) (am:Int) (f:Nat→Int) (ws:List (List Nat)):Prop where
 L:Lift (ao names ts) names.length (names.idxOf sc) (names.idxOf tg) (rsB (List.replicate (ao names ts).length (some 1))) rs' am
 D:Lifted (ao names ts) (List.replicate (ao names ts).length (some 1)) names.length (names.idxOf sc) (names.idxOf tg) rs' f am
 W:Ap.Ways (ta (ao names ts)) (he (ao names ts)) (names.idxOf sc) (names.idxOf tg) (Ap.usedF f (ao names ts).length) ws
 n:(ws.length:Int)=am
 o:Ap.Out (ta (ao names ts)) (he (ao names ts)) (names.idxOf sc) (names.idxOf tg) (Ap.usedF f (ao names ts).length) ws
theorem qz {f:Nat→Int} {n:Nat}:(Ap.usedF f n).length≤n:=by
 have:=List.length_filter_le (fun k=>decide (0<f k)) (List.range n)
 rw [List.length_range] at this
 exact this
theorem oV {l:List Nat} {n:Nat} (h:l.Nodup) (h2:∀k∈l,k<n):l.length≤n:=by
 have:=List.Nodup.length_le_of_subset h (l₂:=List.range n) fun p hp=>List.mem_range.mpr (h2 p hp)
 rwa [List.length_range] at this
theorem dQ {taf hef:Nat→Nat} {s t n:Nat} {u:List Nat} {ws:List (List Nat)} (W:Ap.Ways taf hef s t u ws) (hn:s≠t) (hu:∀k∈u,k<n):ws.length≤n∧∀w∈ws,w.length≤n∧∀k∈w,k<n:=by
 have h1:=oV W.ap fun k hk=>hu k (W.us k hk)
 refine ⟨?_,fun w hw=>⟨?_,fun k hk=>hu k (W.us k (List.mem_flatten.mpr ⟨w,hw,hk⟩))⟩⟩
 ·refine Nat.le_trans ?_ h1
  have ne:∀w∈ws,1≤w.length:=fun w hw=>List.length_pos_iff.mpr ((W.tr w hw).ne_nil hn)
  clear h1 W
  induction ws with
  | nil=>exact Nat.zero_le _
  | cons w ws ih=>
   have:=ih fun v hv=>ne v (List.mem_cons_of_mem _ hv)
   have:=ne w (List.mem_cons_self ..)
   rw [List.flatten_cons,List.length_append,List.length_cons]
   omega
 ·refine Nat.le_trans ?_ h1
  exact (List.sublist_flatten_of_mem hw).length_le
theorem vj {n k:Nat} {u:Option Int} (h:k<n):(List.replicate n u).getD k none=u:=by
 rw [List.getD_eq_getElem?_getD,List.getElem?_replicate,if_pos h]
 rfl
theorem xJ (O:QOk names ts sc tg):Rs.Good (ao names ts) names.length (names.idxOf sc) (names.idxOf tg) (rsB (List.replicate (ao names ts).length (some 1))):=by
 have ne:=gz O.hs O.ht O.ne
 refine Rs.good_B (fk O) (List.length_replicate ..) (fun k c e=>?_) (fL O.hs) (fL O.ht) ne (Ap.ties_fin (List.length_replicate ..) (fun k hk=>vj hk) (fk O) (fL O.hs) ne)
 by_cases c1:k<(ao names ts).length
 ·rw [vj c1] at e; cases e; decide
 ·rw [List.getD_eq_getElem?_getD,List.getElem?_eq_none (by rw [List.length_replicate]; omega)] at e
  cases e
theorem nG (hq:S.get q=some (.obj "TiesApart" (quF names ts sc tg))) (q1:q<S.nx) (O:QOk names ts sc tg):
  ∃rs' am f ws x S' w c v,AnT names ts sc tg rs' am f ws∧ApAt S' S.nx x (ws.map fun w=>w.map (cj ts)) ((Ap.wallT (ao names ts) (cz (ao names ts) rs' false names.length (names.idxOf sc))).map fun k=> .int (cj ts k)) w c v∧Ext S S'∧∀sl,goF ak [.cell q] ⟨sl,S⟩= .ok (.d x) ⟨sl,S'⟩:=by
 have tl:=O.tl
 have nl:=O.nl
 have rl:=bY (names:=names) (ts:=ts)
 have ne:=gz O.hs O.ht O.ne
 suffices hh:Wp (bM (taS q none none none none none none none none none none none none none none none none S)) (fun fl s' =>∃rs' am f ws x w c v,AnT names ts sc tg rs' am f ws∧ApAt s'.st S.nx x (ws.map fun w=>w.map (cj ts)) ((Ap.wallT (ao names ts) (cz (ao names ts) rs' false names.length (names.idxOf sc))).map fun k=> .int (cj ts k)) w c v∧Ext S s'.st∧flv fl=some (.d x)) XF by
  obtain ⟨fl,s',e,rs',am,f,ws,x,w,c,v,h1,h2,h3,h4⟩:=hh.is
  exact ⟨rs',am,f,ws,x,s'.st,w,c,v,h1,h2,h3,fun sl=>eW (by show Wp (bM (taS q none none none none none none none none none none none none none none none none S)) _ _; rw [e]; exact ⟨h4,rfl⟩)⟩
 obtain ⟨G11,h11⟩:∃g,g=(aW (zFrz (dH "Apart" ba [] (zA (bx (zLc (aU (aG (aa 8))) (zSt 16) bP (bx (zLc (aU (aG (aa 16))) (zSt 11) bP (z1 (aB ["Tie"] "number") (z2 oIx (z1 (aB ["TiesApart"] "rows") (aa 0)) (aa 11))) [11])) [16])) (zA (aa 10) zA0))))):=⟨_,rfl⟩
 obtain ⟨G9,h9⟩:∃g,g=(af (aA (bx (bV zA0)) (zSt 10))
 (af (cC (fR (aG (z1 (aB ["TiesApart"] "rows") (aa 0)))) (ig [11,12]) (bJ (iU (zB (z2 oIx (aa 9) (z2 oIx (aa 2) (aa 11)))) (fN (zB (z2 oIx (aa 9) (z2 oIx (aa 3) (aa 11)))))) (az (zM2 isL (oB2 aE) (aa 10) (aG (z1 (aB ["Tie"] "number") (aa 12))))) aI))
 G11)):=⟨_,rfl⟩
 obtain ⟨G7,h7⟩:∃g,g=(af (aA (aD df [] (zA (aa 7) (zA (aa 2) (zA (aa 3) (zA (aa 5) (zA (aa 6) zA0)))))) (zSt 8))
 (af (aA (ar "Rest" "reached" aZ [] (aa 1) (zA (aa 5) zA0)) (zSt 9))
 G9)):=⟨_,rfl⟩
 obtain ⟨G4,h4⟩:∃g,g=(af (wX 5 6 (zA (zM2 isL bb (z1 (aB ["TiesApart"] "names") (aa 0)) (z1 (aB ["TiesApart"] "source") (aa 0))) (zA (zM2 isL bb (z1 (aB ["TiesApart"] "names") (aa 0)) (z1 (aB ["TiesApart"] "target") (aa 0))) zA0)))
 (af (az (ar "Rest" "lift" bQ [] (aa 1) (zA (aa 5) (zA (aa 6) zA0))))
 (af (aA (zLc (fR (aG (aa 4))) (ig [11,15]) (zB (z2 oGt (ar "Rest" "back_of" aN [] (aa 1) (zA (aa 15) zA0)) (zC (.int 0)))) (aa 11) [11,15]) (zSt 7))
 G7))):=⟨_,rfl⟩
 obtain ⟨G3,h3⟩:∃g,g=(af (aA (zLc (Ay (aa 2) (aa 3)) (ig [13,14]) bP (ar "Rest" "put_arc" aH [.int 0] (aa 1) (zA (aa 13) (zA (aa 14) (zA (zC (.int 1)) zA0)))) [13,14]) (zSt 4))
 G4):=⟨_,rfl⟩
 have e0:bM=(af (aA (dH "Rest" bf [] (zA (z1 de (z1 (aB ["TiesApart"] "names") (aa 0))) zA0)) (zSt 1))
 (af (aA (zLc (aU (aG (z1 (aB ["TiesApart"] "rows") (aa 0)))) (zSt 12) bP (zM2 isL bb (z1 (aB ["TiesApart"] "names") (aa 0)) (z1 (aB ["Tie"] "tail") (aa 12))) [12]) (zSt 2))
 (af (aA (zLc (aU (aG (z1 (aB ["TiesApart"] "rows") (aa 0)))) (zSt 12) bP (zM2 isL bb (z1 (aB ["TiesApart"] "names") (aa 0)) (z1 (aB ["Tie"] "head") (aa 12))) [12]) (zSt 3))
 G3))):=by rw [h3,h4,h7,h9,h11]; rfl
 rw [e0]
 clear e0
 refine tr_a hq q1 O fun S1 R1 E1=>?_
 rw [h3]
 clear h3
 refine tr_b R1 (fk O) (fun k hk=>vh O hk) (by omega) fun S2 R2 n2 f2=>?_
 rw [h4]
 clear h4
 have E2:Ext S S2:=⟨by rw [n2]; exact E1.nx,fun i hi=>(f2 i hi).trans (E1.get i hi)⟩
 refine tr_c ((E2.get _ q1).trans hq) O R2 (List.length_replicate ..) (by omega) (xJ O) (by omega) fun rs' am f L LD=>?_
 rw [h7]
 clear h7
 have us:∀k∈Ap.usedF f (ao names ts).length,k<(ao names ts).length:=fun k hk=>(Ap.mem_used.mp hk).1
 have E3:Ext S (S2.put (S.nx+2) (.lst (rs'.map rD))):=⟨E2.nx,fun i hi=>(Z.Sto.put_ne (by omega)).trans (E2.get i hi)⟩
 have R3:RestAt (S2.put (S.nx+2) (.lst (rs'.map rD))) S.nx names.length (ao names ts) rs' :=R2.rooms (by rw [LD.len,Rs.jV,List.length_replicate])
 have u0:=qz (f:=f) (n:=(ao names ts).length)
 refine tr_d rfl R3 (by omega) (fL O.hs) (Ap.ties_use LD (fun k hk=>vj hk) ne) us (by omega) fun ws S4 W lw o E4=>?_
 rw [h9]
 clear h9
 have E5:=E3.trans E4
 have q5:=Nat.lt_of_lt_of_le q1 E5.nx
 refine tr_e ((E5.get _ q1).trans hq) q5 O fun v11 v12=>?_
 rw [h11]
 clear h11
 have E6:=E5.trans (Ext.new (S:=S4) (x:= .lst ((Ap.wallT (ao names ts) (cz (ao names ts) rs' false names.length (names.idxOf sc))).map fun k=> .int (cj ts k))))
 obtain ⟨w1,w2⟩:=dQ W ne us
 rw [rl] at w1 w2
 obtain ⟨x,S',A,E7,hw⟩:=tr_f (v1:=some (.d (.cell S.nx))) (v2:=some (.d (tsD (ao names ts)))) (v3:=some (.d (hsD (ao names ts)))) (v4:=some (.d (.lst ((List.range (ao names ts).length).map nD)))) (v5:=some (.d (nD (names.idxOf sc)))) (v6:=some (.d (nD (names.idxOf tg)))) (v7:=some (.d (.lst ((Ap.usedF f (ao names ts).length).map nD)))) (v9:=some (.own (.lst ((List.range names.length).map fun p=>D.bl (cz (ao names ts) rs' false names.length (names.idxOf sc) p))))) (v11:=v11) (v12:=v12) (B:=S.nx)
  ((E6.get _ q1).trans hq) (Nat.lt_of_lt_of_le q1 E6.nx) (fun w hw=>(w2 w hw).2) (by omega) (fun w hw=>by have:=(w2 w hw).1; omega) (v:=S4.nx) bH (Nat.lt_succ_self _) E5.nx
 refine hw.mono (fun fl s' hh=>?_) fun _ _ _ h=>h
 obtain ⟨e1,rfl⟩:=hh
 exact ⟨rs',am,f,ws,x,_,_,_,⟨L,LD,W,lw,o⟩,A,E6.trans E7,e1⟩
end
open Ap (asP usP PlOk)
section
variable {a b:Vl} {s:SD} {S S' S1:Sto} {sl:List (Option Vl)} {x y u:D} {n l d q r m k go st:Nat} {sc tg:Str} {names:List Str} {ts:List (Int×TD)} {rs rs' :List (Option Int)} {as tl:As}
abbrev plS (q:Nat) (v1 v2 v3 v4 v5 v6 v7 v8 v9 v10 v11 v12 v13 v14 v15 v16 v17 v18:Option Vl) (S:Sto):SD:=
 ⟨[some (.d (.cell q)),v1,v2,v3,v4,v5,v6,v7,v8,v9,v10,v11,v12,v13,v14,v15,v16,v17,v18],S⟩
theorem in_two {p a b:Nat}:∀s:SD,inK false s (some (.int (p:Int))) (some (.tup [.int (a:Int), .int (b:Int)]))= .ok (.d (.bl (decide (p=a∨p=b)))) s:=fun s=>kE (neg:=false) (r:=decide (p=a∨p=b)) (by
 have e:dIn (.int (p:Int)) (.tup [.int (a:Int), .int (b:Int)])=some (inV (.int (p:Int)) [.int (a:Int), .int (b:Int)]):=rfl
 rw [e]
 congr 1
 unfold inV
 rw [List.any_cons,List.any_cons,List.any_nil,Bool.or_false,Bool.eq_iff_iff,Bool.or_eq_true,decide_eq_true_eq]
 have e1:∀c:Nat,eqV (V.int (c:Int)) (V.int (p:Int))=true↔p=c:=fun c=>by
  show ((c:Int) == (p:Int))=true↔_
  rw [beq_iff_eq]
  omega
 rw [e1,e1])
theorem pr_a {G:SD→R Fl} {Q:Fl→SD→Prop} (hq:S.get q=some (.obj "PlacesApart" (quF names ts sc tg))) (q1:q<S.nx) (O:QOk names ts sc tg)
  (h:∀S1,RestAt S1 S.nx (2*names.length) [] []→Ext S S1→Wp (G (plS q (some (.d (nD names.length))) (some (.d (.cell S.nx))) (some (.d (nD (names.idxOf sc)))) (some (.d (nD (names.idxOf tg)))) none none none none none none none none none none none none none none S1)) Q XF):
  Wp (((af (aA (z1 de (z1 (aB ["PlacesApart"] "names") (aa 0))) (zSt 1))
 (af (aA (dH "Rest" bf [] (zA (z2 kA (zC (.int 2)) (aa 1)) zA0)) (zSt 2))
 (af (wX 3 4 (zA (zM2 isL bb (z1 (aB ["PlacesApart"] "names") (aa 0)) (z1 (aB ["PlacesApart"] "source") (aa 0))) (zA (zM2 isL bb (z1 (aB ["PlacesApart"] "names") (aa 0)) (z1 (aB ["PlacesApart"] "target") (aa 0))) zA0)))
 G)))) (plS q none none none none none none none none none none none none none none none none none none S)) Q XF:=by
 have hs:(5000:Nat)<sizeLine:=by decide
 have nl:=O.nl
 have ln:(((names.map D.str).length:Nat):Int)=(names.length:Int):=by rw [List.length_map]
 obtain ⟨S1,ei,R1,G1,n1⟩:=qJ (S0:=S) (m:=2*names.length) (by omega)
 have e3:=fun sl=>je (sl:=sl) (S:=S) (i:=S.nx) (F:=bf) fun s=>ei s.sl
 have e4:∀sl,mkR S.nx ⟨sl,S⟩ (bf [.cell S.nx, .int (2*(names.length:Int))] (S.new (.obj "Rest" [])))= .ok (.d (.cell S.nx)) ⟨sl,S1⟩:=fun sl=>by
  have:=e3 sl
  rw [show ((2*names.length:Nat):Int)=2*(names.length:Int) by omega] at this
  exact this
 have q2:S1.get q=_:=(G1.old q q1).trans hq
 have i1:=gy O.hs
 have i2:=gy O.ht
 have mz:∀c:Nat,c≤14→CMulX 2 (c:Int)=True:=fun c hc=>eq_true (M.bU (by decide) (by decide) (by omega) (by omega))
 have h:=h S1 R1 ⟨G1.nx,G1.old⟩
 dsimp! only [hq,aj dO,ln,e3,e4,q2,aj qO,aj qN,ij,i1,i2,mz _ nl]
 exact h
theorem pr_b {G B:SD→R Fl} (hB:B=(af (cC (sk (zA (aa 1) zA0)) (zSt 5) (az (ar "Rest" "put_arc" aH [.int 0] (aa 2) (zA (aa 5) (zA (z2 cA (aa 1) (aa 5)) (zA (zIf (zB (z2 (oIn false) (aa 5) (hX (zA (aa 3) (zA (aa 4) zA0))))) (zC .non) (zC (.int 1))) zA0))))))
 G)) {Q:Fl→SD→Prop} (R:RestAt S r (2*n) [] []) (hz:n≤14)
  (h:∀v5 S1,RestAt S1 r (2*n) ((List.range n).map fun p=>(p,n+p)) (rsB ((List.range n).map fun p=>if p=st∨p=go then none else some 1))→S1.nx=S.nx→(∀j,j<r→S1.get j=S.get j)→Wp (G (plS q (some (.d (nD n))) (some (.d (.cell r))) (some (.d (nD st))) (some (.d (nD go))) v5 none none none none none none none none none none none none none S1)) Q XF):
  Wp (B (plS q (some (.d (nD n))) (some (.d (.cell r))) (some (.d (nD st))) (some (.d (nD go))) none none none none none none none none none none none none none none S)) Q XF:=by
 subst hB
 have hs:(5000:Nat)<sizeLine:=by decide
 have z0:=rg62 (m:=n) (by omega)
 have mRp:bO (dZ r (2*n)) "put_arc" =none:=rfl
 dsimp! only [z0]
 rw [ae]
 refine kj (fun j s' =>∃v5 S1,s' =plS q (some (.d (nD n))) (some (.d (.cell r))) (some (.d (nD st))) (some (.d (nD go))) v5 none none none none none none none none none none none none none S1∧RestAt S1 r (2*n) ((List.range j).map fun p=>(p,n+p)) (rsB ((List.range j).map fun p=>if p=st∨p=go then none else some 1))∧S1.nx=S.nx∧∀i,i<r→S1.get i=S.get i) nl0 (fun _ _ _=>trivial) ⟨none,S,rfl,R,rfl,fun _ _=>rfl⟩ (fun j y s' ey hI=>?_) (fun s' hI=>?_)
 ·obtain ⟨v5,S1,rfl,R1,n1,f1⟩:=hI
  have ey:(Z.upTo 0 (n:Int).toNat)[j]? =some y:=ey
  rw [Int.toNat_natCast,wo,List.getElem?_map] at ey
  cases ej:(List.range n)[j]? with
  | none=>rw [ej] at ey; cases ey
  | some i=>
   rw [ej] at ey
   cases ey
   have hj:j<n:=by have:=(List.getElem?_eq_some_iff.mp ej).1; simpa using this
   have:i=j:=by rw [List.getElem?_range hj] at ej; exact (Option.some.inj ej).symm
   subst this
   have lt:((List.range i).map fun p=>(p,n+p)).length=i:=by rw [List.length_map,List.length_range]
   obtain ⟨S2,e2,R2,n2,f2⟩:=mr (u:=if i=st∨i=go then none else some 1) (b:=some 0) R1 (t:=i) (h:=n+i) (by omega) (by omega) (by omega) (by rw [lt]; omega)
   have o1:=R1.o
   have it:=in_two (p:=i) (a:=st) (b:=go)
   have ea:(List.range (i+1)).map (fun p=>(p,n+p))=(List.range i).map (fun p=>(p,n+p))++ [(i,n+i)]:=by rw [List.range_succ,List.map_append]; rfl
   have eu:rsB ((List.range (i+1)).map fun p=>if p=st∨p=go then none else some 1)=rsB ((List.range i).map fun p=>if p=st∨p=go then none else some 1)++ [if i=st∨i=go then none else some 1,some 0]:=by rw [List.range_succ,List.map_append]; exact Rs.tq
   have fin:∃v5 S3,plS q (some (.d (nD n))) (some (.d (.cell r))) (some (.d (nD st))) (some (.d (nD go))) (some (.d (nD i))) none none none none none none none none none none none none none S2=plS q (some (.d (nD n))) (some (.d (.cell r))) (some (.d (nD st))) (some (.d (nD go))) v5 none none none none none none none none none none none none none S3∧RestAt S3 r (2*n) ((List.range (i+1)).map fun p=>(p,n+p)) (rsB ((List.range (i+1)).map fun p=>if p=st∨p=go then none else some 1))∧S3.nx=S.nx∧∀i,i<r→S3.get i=S.get i:=
    ⟨_,S2,rfl,by rw [ea,eu]; exact R2,n2.trans n1,fun j hj=>(f2 j (.inl hj)).trans (f1 j hj)⟩
   by_cases c:i=st∨i=go
   ·have d1:=decide_eq_true c
    rw [if_pos c] at e2
    have e2:∀sl,goF aH [.cell r, .int (i:Int), .int ((n:Int)+(i:Int)), .non, .int 0] ⟨sl,S1⟩= .ok (.d (.int _)) ⟨sl,S2⟩:=e2
    dsimp! only [it,d1,o1,ay mRp,e2]
    exact fin
   ·have d1:=decide_eq_false c
    rw [if_neg c] at e2
    have e2:∀sl,goF aH [.cell r, .int (i:Int), .int ((n:Int)+(i:Int)), .int 1, .int 0] ⟨sl,S1⟩= .ok (.d (.int _)) ⟨sl,S2⟩:=e2
    dsimp! only [it,d1,o1,ay mRp,e2]
    exact fin
 ·have ll:(Z.upTo 0 (n:Int).toNat).length=n:=by rw [Int.toNat_natCast,wo,List.length_map,List.length_range]
  have hI:∃v5 S1,s' =plS q (some (.d (nD n))) (some (.d (.cell r))) (some (.d (nD st))) (some (.d (nD go))) v5 none none none none none none none none none none none none none S1∧RestAt S1 r (2*n) ((List.range (Z.upTo 0 (n:Int).toNat).length).map fun p=>(p,n+p)) (rsB ((List.range (Z.upTo 0 (n:Int).toNat).length).map fun p=>if p=st∨p=go then none else some 1))∧S1.nx=S.nx∧∀i,i<r→S1.get i=S.get i:=hI
  rw [ll] at hI
  obtain ⟨v5,S1,rfl,R1,n1,f1⟩:=hI
  dsimp! only []
  exact h v5 S1 R1 n1 f1
theorem pr_c {G:SD→R Fl} {Q:Fl→SD→Prop} {v1 v2 v3 v4 v5:Option Vl} (hq:S.get q=some (.obj "PlacesApart" (quF names ts sc tg))) (O:QOk names ts sc tg)
  (h:Wp (G (plS q v1 v2 v3 v4 v5 (some (.own (tsD (ao names ts)))) (some (.own (hsD (ao names ts)))) none none none none none none none none none none none S)) Q XF):
  Wp (((af (aA (zLc (aU (aG (z1 (aB ["PlacesApart"] "rows") (aa 0)))) (zSt 13) bP (zM2 isL bb (z1 (aB ["PlacesApart"] "names") (aa 0)) (z1 (aB ["Tie"] "tail") (aa 13))) [13]) (zSt 6))
 (af (aA (zLc (aU (aG (z1 (aB ["PlacesApart"] "rows") (aa 0)))) (zSt 13) bP (zM2 isL bb (z1 (aB ["PlacesApart"] "names") (aa 0)) (z1 (aB ["Tie"] "head") (aa 13))) [13]) (zSt 7))
 G))) (plS q v1 v2 v3 v4 v5 none none none none none none none none none none none none none S)) Q XF:=by
 have hs:(5000:Nat)<sizeLine:=by decide
 have tl:=O.tl
 dsimp! only [hq,aj gp]
 rw [dk (l:=ts) cT (fun p=>nD (names.idxOf p.2.tail)) rfl rfl Nl.d1 trivial (fun p hp=>?_) (by omega)]
 ·dsimp! only [aj gp,hq]
  rw [dk (l:=ts) cT (fun p=>nD (names.idxOf p.2.head)) rfl rfl Nl.d1 trivial (fun p hp=>?_) (by omega)]
  ·dsimp! only [uW,vK]
   exact h
  ·have c1:∀s:SD,s.cont (.d (cT p))=some (.obj "Tie" (sH p.1 p.2)):=fun _=>rfl
   have ix:=gy (O.pl p hp).2.1
   unfold Z.fM
   dsimp! only [c1,hq,aj dO,ij,ix]
 ·have c1:∀s:SD,s.cont (.d (cT p))=some (.obj "Tie" (sH p.1 p.2)):=fun _=>rfl
  have ix:=gy (O.pl p hp).1
  unfold Z.fM
  dsimp! only [c1,hq,aj dO,ij,ix]
theorem pr_d {G:SD→R Fl} {Q:Fl→SD→Prop} {v3 v4 v5:Option Vl} (R:RestAt S r (2*n) ((List.range n).map fun p=>(p,n+p)) (rsB ((List.range n).map fun p=>if p=st∨p=go then none else some 1))) (ok:Rs.AsOk as n) (hn:n≤14) (hz:as.length≤1000)
  (h:∀S1,RestAt S1 r (2*n) (asP n as) (rsB (usP n st go as.length))→S1.nx=S.nx→(∀j,j<r→S1.get j=S.get j)→Wp (G (plS q (some (.d (nD n))) (some (.d (.cell r))) v3 v4 v5 (some (.d (tsD as))) (some (.d (hsD as))) (some (.own (.lst ((List.range as.length).map fun k=>nD (n+k))))) none none none none none none none none none none S1)) Q XF):
  Wp (((af (aA (zLc (Ay (aa 6) (aa 7)) (ig [14,15]) bP (ar "Rest" "put_arc" aH [.int 0] (aa 2) (zA (z2 cA (aa 1) (aa 14)) (zA (aa 15) (zA (zC .non) zA0)))) [14,15]) (zSt 8))
 G)) (plS q (some (.d (nD n))) (some (.d (.cell r))) v3 v4 v5 (some (.own (tsD as))) (some (.own (hsD as))) none none none none none none none none none none none S)) Q XF:=by
 have hs:(5000:Nat)<sizeLine:=by decide
 have z2:=fun s:SD=>wV (a:= .d (tsD as)) (b:= .d (hsD as)) (s:=s) (xs:=as.map fun q=>nD q.1) (ys:=as.map fun q=>nD q.2) rfl rfl
 have mRp:bO (dZ r (2*n)) "put_arc" =none:=rfl
 dsimp! only [z2]
 rw [ae]
 refine (lc_w (fun acc s' =>∃S1,s' =plS q (some (.d (nD n))) (some (.d (.cell r))) v3 v4 v5 (some (.d (tsD as))) (some (.d (hsD as))) none none none none none none none none none none none S1∧acc=(List.range acc.length).map (fun k=>nD (n+k))∧RestAt S1 r (2*n) ((List.range n).map (fun p=>(p,n+p))++(as.take acc.length).map fun q=>(n+q.1,q.2)) (rsB ((List.range n).map (fun p=>if p=st∨p=go then none else some 1)++List.replicate acc.length none))∧S1.nx=S.nx∧∀j,j<r→S1.get j=S.get j) nl2 (fun _ _ _=>trivial) ⟨S,rfl,rfl,by show RestAt S r (2*n) (_++ []) (rsB (_++ [])); rw [List.append_nil,List.append_nil]; exact R,rfl,fun _ _=>rfl⟩ (fun acc s' d ed hI=>?_) ?_).mono (fun v s' hh=>?_) fun _ _ _ h=>h
 ·obtain ⟨S1,rfl,ea,R1,n1,f1⟩:=hI
  obtain ⟨hk,rfl⟩:=wU as ed
  obtain ⟨o1,o2⟩:=ok.at hk
  have lt:((List.range n).map (fun p=>(p,n+p))++(as.take acc.length).map fun q=>(n+q.1,q.2)).length=n+acc.length:=by rw [List.length_append,List.length_map,List.length_map,List.length_range,List.length_take]; omega
  obtain ⟨S2,e2,R2,n2,f2⟩:=mr (u:=none) (b:=some 0) R1 (t:=n+ta as acc.length) (h:=he as acc.length) (by omega) (by omega) (by omega) (by rw [lt]; omega)
  rw [lt] at e2
  have e2:∀sl,goF aH [.cell r, .int ((n:Int)+(ta as acc.length:Int)), .int (he as acc.length:Int), .non, .int 0] ⟨sl,S1⟩= .ok (.d (nD (n+acc.length))) ⟨sl,S2⟩:=e2
  have o3:=R1.o
  dsimp! only [o3,ay mRp,e2]
  refine ⟨S2,rfl, ?_, ?_,n2.trans n1,fun j hj=>(f2 j (.inl hj)).trans (f1 j hj)⟩
  ·rw [iR,←jW,←ea]
  ·rw [iR,List.take_add_one,Aq hk,List.replicate_succ',List.map_append,←List.append_assoc,←List.append_assoc,Rs.tq]
   exact R2
 ·show (sj _ _).length≤_
  rw [kW]; omega
 ·obtain ⟨acc,rfl,hl,S1,rfl,ea,R1,n1,f1⟩:=hh
  have hl:acc.length=as.length:=hl.trans (kW as)
  rw [hl,List.take_length] at R1
  rw [hl] at ea
  rw [ea]
  dsimp! only []
  exact h S1 R1 n1 f1
theorem pr_e {G:SD→R Fl} {Q:Fl→SD→Prop} {v1 v5:Option Vl} (O:PlOk n tl st go) (R:RestAt S r (2*n) (asP n tl) (rsB (usP n st go tl.length))) (hn:n≤14) (hz:tl.length≤1000)
  (h:∀rs' am f,Lift (asP n tl) (2*n) st go (rsB (usP n st go tl.length)) rs' am→Lifted (asP n tl) (usP n st go tl.length) (2*n) st go rs' f am→Wp (G (plS q v1 (some (.d (.cell r))) (some (.d (nD st))) (some (.d (nD go))) none (some (.d (tsD tl))) (some (.d (hsD tl))) (some (.d (.lst ((List.range tl.length).map fun k=>nD (n+k))))) (some (.own (.lst ((Ap.usedF (fun j=>f (n+j)) tl.length).map nD)))) none none none none none none none none none (S.put (r+2) (.lst (rs'.map rD))))) Q XF):
  Wp (((af (az (ar "Rest" "lift" bQ [] (aa 2) (zA (aa 3) (zA (aa 4) zA0))))
 (af (aA (zLc (fR (aG (aa 8))) (ig [5,16]) (zB (z2 oGt (ar "Rest" "back_of" aN [] (aa 2) (zA (aa 16) zA0)) (zC (.int 0)))) (aa 5) [5,16]) (zSt 9))
 G))) (plS q v1 (some (.d (.cell r))) (some (.d (nD st))) (some (.d (nD go))) v5 (some (.d (tsD tl))) (some (.d (hsD tl))) (some (.own (.lst ((List.range tl.length).map fun k=>nD (n+k))))) none none none none none none none none none none S)) Q XF:=by
 have hs:(5000:Nat)<sizeLine:=by decide
 have hl:(usP n st go tl.length).length=(asP n tl).length:=by rw [Ap.usP_len,Ap.asP_len]
 obtain ⟨rs',am,L,e1⟩:=g_lift R O.good (by omega)
 obtain ⟨f,LD⟩:=Rs.ro hl O.good L
 have R1:RestAt (S.put (r+2) (.lst (rs'.map rD))) r (2*n) (asP n tl) rs' :=R.rooms (by rw [LD.len,Rs.jV,hl])
 have h:=h rs' am f L LD
 have o1:=R.o
 have mRl:bO (dZ r (2*n)) "lift" =none:=rfl
 have mRb:bO (dZ r (2*n)) "back_of" =none:=rfl
 dsimp! only [o1,ay mRl,e1]
 rw [dB (l:=List.range tl.length) (fun k:Nat=>D.tup [.int (k:Int),nD (n+k)]) nD (fun k=>decide (0<f (n+k))) gq rfl Nl.d1 trivial (fun k hk=>?_) (by rw [List.length_range]; omega)]
 ·dsimp! only []
  exact h
 ·have hk:=List.mem_range.mp hk
  have hk2:n+k<(asP n tl).length:=by rw [Ap.asP_len]; omega
  have e2:=fun sl=>rO (sl:=sl) R1 hk2 (by rw [Ap.asP_len]; omega)
  rw [LD.bk _ hk2] at e2
  have e2:∀sl,goF aN [.cell r,nD (n+k)] ⟨sl,S.put (r+2) (.lst (rs'.map rD))⟩= .ok (.d (.int (f (n+k)))) ⟨sl,S.put (r+2) (.lst (rs'.map rD))⟩:=e2
  have o2:=R1.o
  unfold Z.fM
  dsimp! only [o2,ay mRb,e2]
theorem pr_f {G:SD→R Fl} {Q:Fl→SD→Prop} {v1 v2 v5 v8:Option Vl} {u:List Nat} {am:Int} {wb:As} (hv:v2=some (.d (.cell r))) (R:RestAt S r m wb rs) (hz:m≤1000) (hst:st<m) (U:Ap.Use (ta tl) (he tl) st go u am) (hl:∀k∈u,k<tl.length) (hu:u.length≤1000)
  (h:∀ws S1,Ap.Ways (ta tl) (he tl) st go u ws→(ws.length:Int)=am→Ap.Out (ta tl) (he tl) st go u ws→Ext S S1→Wp (G (plS q v1 v2 (some (.d (nD st))) (some (.d (nD go))) v5 (some (.d (tsD tl))) (some (.d (hsD tl))) v8 (some (.d (.lst (u.map nD)))) (some (.own (.lst (ws.map fun w=> .lst (w.map nD))))) (some (.own (.lst ((List.range m).map fun p=>D.bl (cz wb rs false m st p))))) none none none none none none none S1)) Q XF):
  Wp (((af (aA (aD df [] (zA (aa 9) (zA (aa 6) (zA (aa 7) (zA (aa 3) (zA (aa 4) zA0)))))) (zSt 10))
 (af (aA (ar "Rest" "reached" aZ [] (aa 2) (zA (aa 3) zA0)) (zSt 11))
 G))) (plS q v1 v2 (some (.d (nD st))) (some (.d (nD go))) v5 (some (.d (tsD tl))) (some (.d (hsD tl))) v8 (some (.own (.lst (u.map nD)))) none none none none none none none none none S)) Q XF:=by
 have hs:(5000:Nat)<sizeLine:=by decide
 subst hv
 obtain ⟨ws,S1,W,lw,o,E,e1⟩:=rK (S:=S) U hl hu
 have R1:=R.extV E
 have e2:=fun sl=>rL (sl:=sl) R1 hst (by omega)
 have h:=h ws S1 W lw o E
 have o2:=R1.o
 have mRr:bO (dZ r m) "reached" =none:=rfl
 dsimp! only [e1,o2,ay mRr,e2]
 exact h
theorem qP (names:List Str):dF (names.map .str)=(List.range names.length).map fun p:Nat=>D.tup [.int (p:Int), .str (names.getD p "")]:=by
 refine List.ext_getElem? fun i=>?_
 rw [gS,List.getElem?_map,List.getElem?_map]
 by_cases c:i<names.length
 ·have e:names.getD i "" =names[i]:=by rw [List.getD_eq_getElem?_getD,List.getElem?_eq_getElem c]; rfl
  rw [List.getElem?_range c,List.getElem?_eq_getElem c]
  show some (D.tup [.int (i:Int), .str names[i]])=some (D.tup [.int (i:Int), .str (names.getD i "")])
  rw [e]
 ·rw [List.getElem?_eq_none (by omega),List.getElem?_eq_none (by rw [List.length_range]; omega)]
  rfl
theorem pr_g {G:SD→R Fl} {Q:Fl→SD→Prop} {v2 v3 v4 v5 v6 v7 v8 v9 v10:Option Vl} {U:Nat→Bool} (hq:S.get q=some (.obj "PlacesApart" (quF names ts sc tg))) (q1:q<S.nx) (hn:names.length≤14)
  (h:Wp (G (plS q (some (.d (nD names.length))) v2 v3 v4 none v6 v7 v8 v9 v10 (some (.own (.lst ((List.range (2*names.length)).map fun p=>D.bl (U p))))) (some (.d (.cell S.nx))) none none none none none none (S.new (.lst ((Ap.wallP names.length U).map fun p=> .str (names.getD p "")))))) Q XF):
  Wp (((af (aA (bx (zLc (fR (aG (z1 (aB ["PlacesApart"] "names") (aa 0)))) (ig [5,17]) (iU (zB (z2 oIx (aa 11) (aa 5))) (fN (zB (z2 oIx (aa 11) (z2 cA (aa 1) (aa 5)))))) (aa 17) [5,17])) (zSt 12))
 G)) (plS q (some (.d (nD names.length))) v2 v3 v4 v5 v6 v7 v8 v9 v10 (some (.own (.lst ((List.range (2*names.length)).map fun p=>D.bl (U p))))) none none none none none none none S)) Q XF:=by
 have hs:(5000:Nat)<sizeLine:=by decide
 dsimp! only [hq,aj dO]
 rw [dB (l:=List.range names.length) (fun p:Nat=>D.tup [.int (p:Int), .str (names.getD p "")]) (fun p=> .str (names.getD p "")) (fun p=>U p&&!U (names.length+p)) (qP names) rfl Nl.d1 trivial (fun p hp=>?_) (by rw [List.length_range]; omega)]
 ·dsimp! only []
  exact h
 ·have hp:=List.mem_range.mp hp
  have i3:∀s:SD,ixK s (some (.lst ((List.range (2*names.length)).map fun p=>D.bl (U p)))) (some (.int (p:Int)))= .ok (.d (.bl (U p))) s:=fun s=>ixR (f:=fun p=>D.bl (U p)) (by omega)
  have i4:∀s:SD,ixK s (some (.lst ((List.range (2*names.length)).map fun p=>D.bl (U p)))) (some (.int ((names.length:Int)+(p:Int))))= .ok (.d (.bl (U (names.length+p)))) s:=fun s=>ixR (f:=fun p=>D.bl (U p)) (h:=names.length+p) (by omega)
  unfold Z.fM
  dsimp! only [i3,i4]
  cases u1:U p with
  | false=>dsimp! only [i3,i4,u1]; rfl
  | true=>cases u2:U (names.length+p)<;> dsimp! only [i3,i4,u1,u2]<;> rfl
theorem pr_h {v1 v2 v3 v4 v5 v6 v7 v8 v9 v11:Option Vl} {ws:List (List Nat)} {v B:Nat} {wall:List D} (hq:S.get q=some (.obj "PlacesApart" (quF names ts sc tg))) (q1:q<S.nx) (hw:∀w∈ws,∀k∈w,k<ts.length) (hz:ws.length≤1000) (hz2:∀w∈ws,w.length≤1000) (hv:S.get v=some (.lst wall)) (v1' :v<S.nx) (hB:B≤v):
  ∃x S',ApAt S' B x (ws.map fun w=>w.map (cj ts)) wall (S.nx+ws.length) S.nx v∧Ext S S'∧Wp (((aW (zFrz (dH "Apart" ba [] (zA (bx (zLc (aU (aG (aa 10))) (zSt 18) bP (bx (zLc (aU (aG (aa 18))) (zSt 5) bP (z1 (aB ["Tie"] "number") (z2 oIx (z1 (aB ["PlacesApart"] "rows") (aa 0)) (aa 5))) [5])) [18])) (zA (aa 12) zA0)))))) (plS q v1 v2 v3 v4 v5 v6 v7 v8 v9 (some (.own (.lst (ws.map fun w=> .lst (w.map nD))))) v11 (some (.d (.cell v))) none none none none none none S)) (fun fl s' =>flv fl=some (.d x)∧s'.st=S') XF:=by
 have hs:(5000:Nat)<sizeLine:=by decide
 obtain ⟨S1,hS1⟩:∃S1,S1=dz (ws.map fun w=>D.lst (w.map fun k=> .int (cj ts k))) S:=⟨_,rfl⟩
 have n1:S1.nx=S.nx+ws.length:=by rw [hS1,oX,List.length_map]
 have E1:Ext S S1:=⟨by omega,fun i hi=>by rw [hS1]; exact jd hi⟩
 have c1:∀p w,ws[p]? =some w→S1.get (S.nx+p)=some (.lst (w.map fun k=> .int (cj ts k))):=fun p w e=>by rw [hS1]; exact oY (by rw [List.getElem?_map,e]; rfl)
 obtain ⟨S2,hS2⟩:∃S2,S2=S1.new (.lst ((List.range ws.length).map fun p=> .cell (S.nx+p))):=⟨_,rfl⟩
 have E2:Ext S1 S2:=by rw [hS2]; exact Ext.new
 have n2:S2.nx=S.nx+ws.length+1:=by rw [hS2,vA,n1]
 refine ⟨.obj "Apart" [("ways", .cell (S.nx+ws.length)),("wall", .cell v)],S2.tick,⟨rfl, ?_,fun p l e=>?_, ?_,by rw [List.length_map,xK]; omega⟩,(E1.trans E2).trans Ext.tick, ?_⟩
 ·rw [cF (by omega),hS2,←n1,bH,List.length_map]
 ·rw [List.getElem?_map] at e
  cases ew:ws[p]? with
  | none=>rw [ew] at e; cases e
  | some w=>
   rw [ew] at e
   cases e
   have hp:=(List.getElem?_eq_some_iff.mp ew).1
   rw [cF (by omega),E2.get _ (by omega),c1 p w ew,List.map_map]
   rfl
 ·rw [cF (by omega),E2.get _ (by omega),E1.get _ v1',hv]
 ·have ms:=fun sl=>je (sl:=sl) (S:=S2) (i:=S2.nx) (F:=ba) fun s=>zp (sl:=s.sl) (S:=S2) (x:= .cell (S.nx+ws.length)) (y:= .cell v)
  dsimp! only []
  refine Exists.elim (nf (S:=S) (ws:=ws) (fz:=zSt 18) (fe:=bx (zLc (aU (aG (aa 18))) (zSt 5) bP (z1 (aB ["Tie"] "number") (z2 oIx (z1 (aB ["PlacesApart"] "rows") (aa 0)) (aa 5))) [5])) (is:= [18]) (f:=fun w=>D.lst (w.map fun k=> .int (cj ts k)))
   (P:=fun l=>∃u11,l= [some (.d (.cell q)),v1,v2,v3,v4,u11,v6,v7,v8,v9,some (.d (.lst (ws.map fun w=> .lst (w.map nD)))),v11,some (.d (.cell v)),none,none,none,none,none,none])
   (sl:= [some (.d (.cell q)),v1,v2,v3,v4,v5,v6,v7,v8,v9,some (.d (.lst (ws.map fun w=> .lst (w.map nD)))),v11,some (.d (.cell v)),none,none,none,none,none,none]) ⟨v5,rfl⟩ hz (fun w hm sl0 S3 hP E3=>?_)) fun sl0 hh=>?_
  rotate_left
  ·obtain ⟨⟨u11,rfl⟩,e1⟩:=hh
   dsimp! only [e1,←hS1,n1,←hS2,ms]
  ·obtain ⟨u11,rfl⟩:=hP
   have q3:S3.get q=_:=(E3.get q q1).trans hq
   dsimp! only []
   rw [dk (l:=w) nD (fun k=>D.int (cj ts k)) rfl rfl Nl.d1 trivial (fun k hk=>?_) (by have:=hz2 w hm; omega)]
   ·dsimp! only []
    exact ⟨_,rfl⟩
   ·have hk:=hw w hm k hk
    have et:=List.getElem?_eq_getElem hk
    have i1:∀s:SD,ixK s (some (.lst (ts.map cT))) (some (.int (k:Int)))= .ok (.d (cT ts[k])) s:=fun s=>ixL (f:=cT) et
    have c1:∀s:SD,s.cont (.d (cT ts[k]))=some (.obj "Tie" (sH ts[k].1 ts[k].2)):=fun _=>rfl
    have en:=jJ et
    unfold Z.fM
    dsimp! only [q3,aj gp,i1,c1,en]
structure AnP (names:List Str) (ts:List (Int×TD)) (sc tg:Str) (rs' :List (Option Int)) (am:Int) (f:Nat→Int) (ws:List (List Nat)):Prop where
 L:Lift (asP names.length (ao names ts)) (2*names.length) (names.idxOf sc) (names.idxOf tg) (rsB (usP names.length (names.idxOf sc) (names.idxOf tg) (ao names ts).length)) rs' am
 D:Lifted (asP names.length (ao names ts)) (usP names.length (names.idxOf sc) (names.idxOf tg) (ao names ts).length) (2*names.length) (names.idxOf sc) (names.idxOf tg) rs' f am
 W:Ap.Ways (ta (ao names ts)) (he (ao names ts)) (names.idxOf sc) (names.idxOf tg) (Ap.usedF (fun j=>f (names.length+j)) (ao names ts).length) ws
 n:(ws.length:Int)=am
 o:Ap.Out (ta (ao names ts)) (he (ao names ts)) (names.idxOf sc) (names.idxOf tg) (Ap.usedF (fun j=>f (names.length+j)) (ao names ts).length) ws
theorem pl_of (O:QOk names ts sc tg) (hno:(sc,tg)∉ts.map fun q=>(q.2.tail,q.2.head)):PlOk names.length (ao names ts) (names.idxOf sc) (names.idxOf tg):=
 ⟨fk O,fun j hj=>vh O hj,fL O.hs,fL O.ht,gz O.hs O.ht O.ne,fun j hj h1 h2=>by
  rw [bY] at hj
  obtain ⟨e1,e2⟩:=jb (names:=names) (List.getElem?_eq_getElem hj)
  obtain ⟨p1,p2,_⟩:=O.pl _ (List.getElem_mem hj)
  rw [e1] at h1
  rw [e2] at h2
  refine hno (List.mem_map.mpr ⟨_,List.getElem_mem hj, ?_⟩)
  rw [Classical.byContradiction fun q=>gz p1 O.hs q h1,Classical.byContradiction fun q=>gz p2 O.ht q h2]⟩
theorem kF (hq:S.get q=some (.obj "PlacesApart" (quF names ts sc tg))) (q1:q<S.nx) (O:QOk names ts sc tg) (hno:(sc,tg)∉ts.map fun q=>(q.2.tail,q.2.head)):
  ∃rs' am f ws x S' w c v,AnP names ts sc tg rs' am f ws∧ApAt S' S.nx x (ws.map fun w=>w.map (cj ts)) ((Ap.wallP names.length (cz (asP names.length (ao names ts)) rs' false (2*names.length) (names.idxOf sc))).map fun p=> .str (names.getD p "")) w c v∧Ext S S'∧∀sl,goF ah [.cell q] ⟨sl,S⟩= .ok (.d x) ⟨sl,S'⟩:=by
 have tl:=O.tl
 have nl:=O.nl
 have rl:=bY (names:=names) (ts:=ts)
 have ne:=gz O.hs O.ht O.ne
 have hst:=fL O.hs
 have P:=pl_of O hno
 suffices hh:Wp (bw (plS q none none none none none none none none none none none none none none none none none none S)) (fun fl s' =>∃rs' am f ws x w c v,AnP names ts sc tg rs' am f ws∧ApAt s'.st S.nx x (ws.map fun w=>w.map (cj ts)) ((Ap.wallP names.length (cz (asP names.length (ao names ts)) rs' false (2*names.length) (names.idxOf sc))).map fun p=> .str (names.getD p "")) w c v∧Ext S s'.st∧flv fl=some (.d x)) XF by
  obtain ⟨fl,s',e,rs',am,f,ws,x,w,c,v,h1,h2,h3,h4⟩:=hh.is
  exact ⟨rs',am,f,ws,x,s'.st,w,c,v,h1,h2,h3,fun sl=>eW (by show Wp (bw (plS q none none none none none none none none none none none none none none none none none none S)) _ _; rw [e]; exact ⟨h4,rfl⟩)⟩
 obtain ⟨G12,h12⟩:∃g,g=(aW (zFrz (dH "Apart" ba [] (zA (bx (zLc (aU (aG (aa 10))) (zSt 18) bP (bx (zLc (aU (aG (aa 18))) (zSt 5) bP (z1 (aB ["Tie"] "number") (z2 oIx (z1 (aB ["PlacesApart"] "rows") (aa 0)) (aa 5))) [5])) [18])) (zA (aa 12) zA0))))):=⟨_,rfl⟩
 obtain ⟨G11,h11⟩:∃g,g=(af (aA (bx (zLc (fR (aG (z1 (aB ["PlacesApart"] "names") (aa 0)))) (ig [5,17]) (iU (zB (z2 oIx (aa 11) (aa 5))) (fN (zB (z2 oIx (aa 11) (z2 cA (aa 1) (aa 5)))))) (aa 17) [5,17])) (zSt 12))
 G12):=⟨_,rfl⟩
 obtain ⟨G9,h9⟩:∃g,g=(af (aA (aD df [] (zA (aa 9) (zA (aa 6) (zA (aa 7) (zA (aa 3) (zA (aa 4) zA0)))))) (zSt 10))
 (af (aA (ar "Rest" "reached" aZ [] (aa 2) (zA (aa 3) zA0)) (zSt 11))
 G11)):=⟨_,rfl⟩
 obtain ⟨G7,h7⟩:∃g,g=(af (az (ar "Rest" "lift" bQ [] (aa 2) (zA (aa 3) (zA (aa 4) zA0))))
 (af (aA (zLc (fR (aG (aa 8))) (ig [5,16]) (zB (z2 oGt (ar "Rest" "back_of" aN [] (aa 2) (zA (aa 16) zA0)) (zC (.int 0)))) (aa 5) [5,16]) (zSt 9))
 G9)):=⟨_,rfl⟩
 obtain ⟨G6,h6⟩:∃g,g=(af (aA (zLc (Ay (aa 6) (aa 7)) (ig [14,15]) bP (ar "Rest" "put_arc" aH [.int 0] (aa 2) (zA (z2 cA (aa 1) (aa 14)) (zA (aa 15) (zA (zC .non) zA0)))) [14,15]) (zSt 8))
 G7):=⟨_,rfl⟩
 obtain ⟨G4,h4⟩:∃g,g=(af (aA (zLc (aU (aG (z1 (aB ["PlacesApart"] "rows") (aa 0)))) (zSt 13) bP (zM2 isL bb (z1 (aB ["PlacesApart"] "names") (aa 0)) (z1 (aB ["Tie"] "tail") (aa 13))) [13]) (zSt 6))
 (af (aA (zLc (aU (aG (z1 (aB ["PlacesApart"] "rows") (aa 0)))) (zSt 13) bP (zM2 isL bb (z1 (aB ["PlacesApart"] "names") (aa 0)) (z1 (aB ["Tie"] "head") (aa 13))) [13]) (zSt 7))
 G6)):=⟨_,rfl⟩
 obtain ⟨G3,h3⟩:∃g,g=(af (cC (sk (zA (aa 1) zA0)) (zSt 5) (az (ar "Rest" "put_arc" aH [.int 0] (aa 2) (zA (aa 5) (zA (z2 cA (aa 1) (aa 5)) (zA (zIf (zB (z2 (oIn false) (aa 5) (hX (zA (aa 3) (zA (aa 4) zA0))))) (zC .non) (zC (.int 1))) zA0))))))
 G4):=⟨_,rfl⟩
 have e0:bw=(af (aA (z1 de (z1 (aB ["PlacesApart"] "names") (aa 0))) (zSt 1))
 (af (aA (dH "Rest" bf [] (zA (z2 kA (zC (.int 2)) (aa 1)) zA0)) (zSt 2))
 (af (wX 3 4 (zA (zM2 isL bb (z1 (aB ["PlacesApart"] "names") (aa 0)) (z1 (aB ["PlacesApart"] "source") (aa 0))) (zA (zM2 isL bb (z1 (aB ["PlacesApart"] "names") (aa 0)) (z1 (aB ["PlacesApart"] "target") (aa 0))) zA0)))
 G3))):=by rw [h3,h4,h6,h7,h9,h11,h12]; rfl
 rw [e0]
 clear e0
 refine pr_a hq q1 O fun S1 R1 E1=>?_
 refine pr_b h3 R1 nl fun v5 S2 R2 n2 f2=>?_
 clear h3
 rw [h4]
 clear h4
 have E2:Ext S S2:=⟨by rw [n2]; exact E1.nx,fun i hi=>(f2 i hi).trans (E1.get i hi)⟩
 refine pr_c ((E2.get _ q1).trans hq) O ?_
 rw [h6]
 clear h6
 refine pr_d R2 (fk O) nl (by omega) fun S3 R3 n3 f3=>?_
 rw [h7]
 clear h7
 have E3:Ext S S3:=⟨by rw [n3]; exact E2.nx,fun i hi=>(f3 i hi).trans (E2.get i hi)⟩
 refine pr_e P R3 nl (by omega) fun rs' am f L LD=>?_
 rw [h9]
 clear h9
 have us:∀k∈Ap.usedF (fun j=>f (names.length+j)) (ao names ts).length,k<(ao names ts).length:=fun k hk=>(Ap.mem_used.mp hk).1
 have E4:Ext S (S3.put (S.nx+2) (.lst (rs'.map rD))):=⟨E3.nx,fun i hi=>(Z.Sto.put_ne (by omega)).trans (E3.get i hi)⟩
 have R4:RestAt (S3.put (S.nx+2) (.lst (rs'.map rD))) S.nx (2*names.length) (asP names.length (ao names ts)) rs' :=R3.rooms (by rw [LD.len,Rs.jV,Ap.usP_len,Ap.asP_len])
 have u0:=qz (f:=fun j=>f (names.length+j)) (n:=(ao names ts).length)
 refine pr_f rfl R4 (by omega) (by omega) (P.use LD) us (by omega) fun ws S5 W lw o E5=>?_
 rw [h11]
 clear h11
 have E6:=E4.trans E5
 have q6:=Nat.lt_of_lt_of_le q1 E6.nx
 refine pr_g ((E6.get _ q1).trans hq) q6 nl ?_
 rw [h12]
 clear h12
 have E7:=E6.trans (Ext.new (S:=S5) (x:= .lst ((Ap.wallP names.length (cz (asP names.length (ao names ts)) rs' false (2*names.length) (names.idxOf sc))).map fun p=> .str (names.getD p ""))))
 obtain ⟨w1,w2⟩:=dQ W ne us
 rw [rl] at w1 w2
 obtain ⟨x,S',A,E8,hw⟩:=pr_h (v1:=some (.d (nD names.length))) (v2:=some (.d (.cell S.nx))) (v3:=some (.d (nD (names.idxOf sc)))) (v4:=some (.d (nD (names.idxOf tg)))) (v5:=none) (v6:=some (.d (tsD (ao names ts)))) (v7:=some (.d (hsD (ao names ts)))) (v8:=some (.d (.lst ((List.range (ao names ts).length).map fun k=>nD (names.length+k))))) (v9:=some (.d (.lst ((Ap.usedF (fun j=>f (names.length+j)) (ao names ts).length).map nD)))) (v11:=some (.own (.lst ((List.range (2*names.length)).map fun p=>D.bl (cz (asP names.length (ao names ts)) rs' false (2*names.length) (names.idxOf sc) p))))) (B:=S.nx)
  ((E7.get _ q1).trans hq) (Nat.lt_of_lt_of_le q1 E7.nx) (fun w hw=>(w2 w hw).2) (by omega) (fun w hw=>by have:=(w2 w hw).1; omega) (v:=S5.nx) bH (Nat.lt_succ_self _) E6.nx
 refine hw.mono (fun fl s' hh=>?_) fun _ _ _ h=>h
 obtain ⟨e1,rfl⟩:=hh
 exact ⟨rs',am,f,ws,x,_,_,_,⟨L,LD,W,lw,o⟩,A,E7.trans E8,e1⟩
end
end T

set_option maxHeartbeats 4000000
namespace T
open PySem PySem.Spec PyProof.Rows L2 M Z A
open Classical
open Rs (tw)
abbrev r5D (a b:Nat) (u:Option Int):List (Key×D):= [(.inr "tail", .int (a:Int)),(.inr "head", .int (b:Int)),(.inr "least", .int 0),(.inr "most",rD u),(.inr "price", .int 0)]
section
variable {va b:Vl} {s:SD} {S S' :Sto} {sl:List (Option Vl)} {x:D} {n m l d k c:Nat} {N:ND} {i:Int} {q:Int×TD} {ds:List D}
theorem pickR {a b c:Int} (ha:0≤a∧a≤M60) (hb:0≤b∧b≤M60) (hc:0≤c∧c≤M60) (j:Int):∃u:Option Int,(∀x,u=some x→0≤x∧x≤M60)∧dIx (.lst [.int a, .int b, .int c, .int M60, .int 0, .non]) (.int (j%6))=some (rD u):=by
 have hM:(0:Int)≤M60:=by decide
 rcases (show j%6=0∨j%6=1∨j%6=2∨j%6=3∨j%6=4∨j%6=5 by omega) with q | q | q | q | q | q<;> rw [q]
 ·exact ⟨some a,fun x h=>(by cases h; exact ha),rfl⟩
 ·exact ⟨some b,fun x h=>(by cases h; exact hb),rfl⟩
 ·exact ⟨some c,fun x h=>(by cases h; exact hc),rfl⟩
 ·exact ⟨some M60,fun x h=>(by cases h; exact ⟨hM,Int.le_refl _⟩),rfl⟩
 ·exact ⟨some 0,fun x h=>(by cases h; exact ⟨Int.le_refl _,hM⟩),rfl⟩
 ·exact ⟨none,fun x h=>(by cases h),rfl⟩
theorem cp30:qt 10 30=True:=eq_true ⟨by decide,by decide⟩
theorem pow30:(10:Int) ^ (30:Int).toNat=1000000000000000000000000000000:=by decide+kernel
theorem g_Lroom (ns:List Int) (k:Int) (h0:0≤k) (h1:k≤1000) (i:Int):∃u:Option Int,(∀x,u=some x→0≤x∧x≤M60)∧∀s:SD,goF sF [.con (ns.map .int), .int k, .int i] s= .ok (.d (.tup [.int 0,rD u])) s:=by
 have hM:M60=1000000000000000000000000000000000000000000000000000000000000:=rfl
 obtain ⟨g,g0,g1,eg⟩:=vO ns k h0 h1
 obtain ⟨u,hu,ev⟩:=pickR (a:=i / 9%8) (b:=i / 9%3) (c:=g) ⟨by omega,by omega⟩ ⟨by omega,by omega⟩ ⟨g0,by omega⟩ i
 have ev2:=fun s:SD=>cf (s:=s) ev
 have y9:CDivW i 9=True:=eq_true (aF (by decide) (by decide))
 have y100:CDivW i 100=True:=eq_true (aF (by decide) (by decide))
 have y30:CDivW g 1000000000000000000000000000000=True:=eq_true (aF (by decide) (by decide))
 have b1:((0:Int)<8)=True:=by decide
 have b2:((0:Int)<3)=True:=by decide
 have b3:((0:Int)<9)=True:=by decide
 have b4:((0:Int)<6)=True:=by decide
 by_cases c1:i / 100%9=1
 ·have d1:decide (i / 100%9=1)=true:=decide_eq_true c1
  refine ⟨some (g / 1000000000000000000000000000000),fun x h=>by cases h; omega,fun s=>vL ?_⟩
  show Wp (mQ ⟨[some (.d (.con (ns.map .int))),some (.d (.int k)),some (.d (.int i)),none],s.st⟩) _ _
  unfold mQ
  simp! only [eg,y9,y100,y30,b1,b2,b3,b4,cp60,pow60,cp30,pow30,ev2,d1]
  rfl
 ·have d1:decide (i / 100%9=1)=false:=decide_eq_false c1
  refine ⟨u,hu,fun s=>vL ?_⟩
  show Wp (mQ ⟨[some (.d (.con (ns.map .int))),some (.d (.int k)),some (.d (.int i)),none],s.st⟩) _ _
  unfold mQ
  simp! only [eg,y9,y100,y30,b1,b2,b3,b4,cp60,pow60,cp30,pow30,ev2,d1]
theorem g_Lrow (ns:List Int) {k:Nat} (hk:k≤100) (h2:2≤m):∃(a b:Nat) (u:Option Int),a<m∧b<m∧a≠b∧(∀x,u=some x→0≤x∧x≤M60)∧∀(sl:List (Option Vl)) (S:Sto),goF uT [.con (ns.map .int), .int (k:Int), .int (m:Int)] ⟨sl,S⟩= .ok (.own (.dct (r5D a b u))) ⟨sl,S⟩:=by
 obtain ⟨i,i0,i1,en⟩:=jk ns (k:Int) (by omega) (by omega)
 obtain ⟨i,rfl⟩:=Int.eq_ofNat_of_zero_le i0
 obtain ⟨u,hu,er⟩:=g_Lroom ns (k:Int) (by omega) (by omega) ((i:Int) / 1000)
 obtain ⟨a,ha⟩:∃a,a=i / 7%m:=⟨_,rfl⟩
 obtain ⟨b,hb⟩:∃b,b=(a+1+i / 100%(m - 1))%m:=⟨_,rfl⟩
 have a1:a<m:=by rw [ha]; exact Nat.mod_lt _ (by omega)
 have b1:b<m:=by rw [hb]; exact Nat.mod_lt _ (by omega)
 have ab:a≠b:=fun e=>by
  have hq:=Nat.mod_lt (i / 100) (show 0<m - 1 by omega)
  rw [hb] at e
  generalize i / 100%(m - 1)=u at e hq
  by_cases q:a+1+u<m
  ·rw [Nat.mod_eq_of_lt q] at e; omega
  ·rw [Nat.mod_eq_sub_mod (by omega),Nat.mod_eq_of_lt (by omega)] at e; omega
 have bm:(0<(m:Int))=True:=eq_true (by omega)
 have bm1:(0<((m - 1:Nat):Int))=True:=eq_true (by omega)
 have em:(m:Int) - 1=((m - 1:Nat):Int):=by omega
 have ea:(i:Int) / 7%(m:Int)=(a:Int):=by rw [ha]; rfl
 have eb:((a:Int)+1+(i:Int) / 100%((m - 1:Nat):Int))%(m:Int)=(b:Int):=by rw [hb]; rfl
 have y7:CDivW (i:Int) 7=True:=eq_true (aF (by decide) (by decide))
 have y100:CDivW (i:Int) 100=True:=eq_true (aF (by decide) (by decide))
 have y1:CDivW (i:Int) 1000=True:=eq_true (aF (by decide) (by decide))
 have dm:∀a b c d e:D,jq [(.inr "tail",a),(.inr "head",b),(.inr "least",c),(.inr "most",d),(.inr "price",e)]= [(.inr "tail",a),(.inr "head",b),(.inr "least",c),(.inr "most",d),(.inr "price",e)]:=fun _ _ _ _ _=>rfl
 have l5:∀a b c d e:Key×D,([a,b,c,d,e].length≤15)=True:=fun _ _ _ _ _=>eq_true (by show 5≤15; decide)
 refine ⟨a,b,u,a1,b1,ab,hu,fun sl S=>eW ?_⟩
 show Wp (Ao ⟨[some (.d (.con (ns.map .int))),some (.d (.int (k:Int))),some (.d (.int (m:Int))),none,none,none,none,none],S⟩) _ _
 unfold Ao
 simp! only [en,er,y7,y100,y1,bm,bm1,em,ea,eb,dm,l5]
abbrev t3 (q:Int×TD):D:= .tup [.int q.1, .str q.2.tail, .str q.2.head]
structure WN (S:Sto) (n l d c:Nat) (N:ND):Prop where
 net:NetAt S n l d N
 good:Good N
 rows:S.get c=some (.lst (N.ties.map t3))
 b1:n<S.nx
 b2:l<S.nx
 b3:d<S.nx
 b4:c<S.nx
 a1:c≠n∧c≠l∧c≠d
theorem WN.ext (W:WN S n l d c N) (E:Ext S S'):WN S' n l d c N:=
 ⟨W.net.ext E W.b1 W.b2 W.b3,W.good,(E.get _ W.b4).trans W.rows,Nat.lt_of_lt_of_le W.b1 E.nx,Nat.lt_of_lt_of_le W.b2 E.nx,Nat.lt_of_lt_of_le W.b3 E.nx,Nat.lt_of_lt_of_le W.b4 E.nx,W.a1⟩
theorem yY {k m:Nat} (h:m<k):ixN k (m:Int)=some m:=by
 unfold ixN
 rw [if_pos (by omega),if_pos (by omega),Int.toNat_natCast]
theorem f_pop27 (hm:m<ds.length) (hl:ds.length≤1000):b2K kH va (.int (m:Int)) s (some (.lst ds))=(s.mod (.lst (ds.eraseIdx m)) va).bind (rvK ds[m]):=by
 have e:kH (.lst ds) (.int (m:Int))=some (.lst (ds.eraseIdx m),ds[m]):=by
  unfold kH
  simp only [yY hm,List.getElem?_eq_getElem hm]
  rw [if_pos ⟨by omega,by omega⟩]
 exact b2K_ok e
theorem zU {ts:List (Int×TD)} (hr:ie ts) {j:Nat} (e:ts[j]? =some q):jo ts q.1=ts.eraseIdx j:=by
 unfold jo
 unfold ie at hr
 induction ts generalizing j with
 | nil=>cases e
 | cons p ts ih=>
  rw [List.map_cons,List.pairwise_cons] at hr
  cases j with
  | zero=>
   cases e
   rw [List.filter_cons_of_neg (by simp)]
   show _=ts
   refine List.filter_eq_self.mpr fun r hm=>decide_eq_true ?_
   have:=hr.1 r.1 (List.mem_map.mpr ⟨r,hm,rfl⟩)
   omega
  | succ j=>
   have e:ts[j]? =some q:=e
   have:=hr.1 q.1 (List.mem_map.mpr ⟨q,List.mem_of_getElem? e,rfl⟩)
   have hp:(fun r:Int×TD=>decide (r.1≠q.1)) p=true:=decide_eq_true (show p.1≠q.1 by omega)
   rw [List.filter_cons_of_pos (p:=fun r:Int×TD=>decide (r.1≠q.1)) hp,ih hr.2 e]
   rfl
theorem jm {α β:Type} (f:α→β):∀(l:List α) (i:Nat),(l.map f).eraseIdx i=(l.eraseIdx i).map f
 | [],_=>rfl
 | _::_,0=>rfl
 | a::l,i+1=>by show f a::(l.map f).eraseIdx i=f a::(l.eraseIdx i).map f; rw [jm f l i]
end
end T

set_option maxHeartbeats 4000000
namespace T
open PySem PySem.Spec PyProof.Rows L2 M Z A
open Classical
section
variable {va:Vl} {s:SD} {S S' :Sto} {sl:List (Option Vl)} {z:D} {n m l d k c:Nat} {v5 v6 v7 v8 v9 v10:Option Vl} {N:ND} {t:TD} {q:Int×TD} {ds:List D} {names:List Str}
noncomputable def cgD:SD→R Fl:=(af (aA (z2 cM (z2 dy (aa 5) (zC (.int 9))) (z1 de (aa 1))) (zSt 6))
 (af (az (ar "Net" "drop_tie" aC [] (aa 0) (zA (z2 oIx (z2 oIx (aa 1) (aa 6)) (zC (.int 0))) zA0)))
 (af (az (zM2 isL (oB2 kH) (aa 1) (aa 6)))
 AG)))
noncomputable def cgR:SD→R Fl:=(af (aA (aD uT [] (zA (aa 3) (zA (aa 4) (zA (z1 de (aa 2)) zA0)))) (zSt 7))
 (af (wX 8 9 (zA (z2 oIx (aa 2) (z2 oIx (aa 7) (zC (.str "tail")))) (zA (z2 oIx (aa 2) (z2 oIx (aa 7) (zC (.str "head")))) zA0)))
 (af (aA (z2 kA (aD gN [] (zA (aa 3) (zA (z2 cA (aa 4) (zC (.int 5))) zA0))) (z2 sq (z2 cM (aa 5) (zC (.int 3))) (zC (.int 1)))) (zSt 10))
 (az (zM2 isL (oB2 aE) (aa 1) (aG (hX (zA (ar "Net" "put_tie" au [] (aa 0) (zA (aa 8) (zA (aa 9) (zA (z2 oIx (aa 7) (zC (.str "least"))) (zA (z2 oIx (aa 7) (zC (.str "most"))) (zA (aa 10) zA0)))))) (zA (aa 8) (zA (aa 9) zA0))))))))))
abbrev cgS (n c:Nat) (names:List Str) (ns:List Int) (k:Nat) (v5 v6 v7 v8 v9 v10:Option Vl) (S:Sto):SD:=
 ⟨[some (.d (.cell n)),some (.d (.cell c)),some (.d (.lst (names.map .str))),some (.d (.con (ns.map .int))),some (.d (.int (k:Int))),v5,v6,v7,v8,v9,v10],S⟩
theorem Af {G:SD→R Fl} (hG:G=cgD) (W:WN S n l d c N) (h1:0<N.ties.length) {u:Nat} {ns:List Int}:Wp (G (cgS n c names ns k (some (.d (.int (u:Int)))) none none none none none S)) (fun fl s' =>fl= .rt (.d .non)∧∃N',WN s'.st n l d c N'∧N'.names=N.names) XF:=by
 subst hG
 have tl:=W.good.tl
 obtain ⟨j,hj⟩:∃j,j=u / 9%N.ties.length:=⟨_,rfl⟩
 have jl:j<N.ties.length:=by rw [hj]; exact Nat.mod_lt _ h1
 obtain ⟨q,eq⟩:∃q,N.ties[j]? =some q:=⟨_,List.getElem?_eq_getElem jl⟩
 have qm:=List.mem_of_getElem? eq
 have ej:(u:Int) / 9%(N.ties.length:Int)=(j:Int):=by rw [hj]; rfl
 have ll:(((N.ties.map t3).length:Nat):Int)=(N.ties.length:Int):=by rw [List.length_map]
 have b1:(0<(N.ties.length:Int))=True:=eq_true (by omega)
 have y9:CDivW (u:Int) 9=True:=eq_true (aF (by decide) (by decide))
 have w:=W.rows
 have i1:∀s:SD,ixK s (some (.lst (N.ties.map t3))) (some (.int (j:Int)))= .ok (.d (t3 q)) s:=fun s=>ixL (f:=t3) eq
 have i2:∀s:SD,ixK s (some (t3 q)) (some (.int 0))= .ok (.d (.int q.1)) s:=fun s=>cf rfl
 have e1:=fun sl=>nF (sl:=sl) W.net (fV W.good.rise qm)
 have dr:=zU W.good.rise eq
 have o1:=W.net.n
 have mNd:bO (fO l d N.given) "drop_tie" =none:=rfl
 have w2:∀z,(S.put d z).get c=some (.lst (N.ties.map t3)):=fun z=>(Z.Sto.put_ne W.a1.2.2).trans W.rows
 have pp:=fun (va:Vl) (s:SD)=>f_pop27 (va:=va) (s:=s) (ds:=N.ties.map t3) (m:=j) (by rw [List.length_map]; exact jl) (by rw [List.length_map]; omega)
 have nn:=W.net.ne
 unfold cgD
 dsimp! only [w,ll,y9,b1,ej,i1,i2,o1,ay mNd,e1,w2,pp]
 refine ⟨⟨N.names,jo N.ties q.1,N.given⟩,⟨⟨?_, ?_, ?_⟩,W.good.drop, ?_,W.b1,W.b2,W.b3,W.b4,W.a1⟩,rfl⟩
 ·rw [Z.Sto.put_ne W.a1.1.symm,Z.Sto.put_ne nn.2.1]; exact W.net.n
 ·rw [Z.Sto.put_ne W.a1.2.1.symm,Z.Sto.put_ne nn.2.2]; exact W.net.l
 ·rw [Z.Sto.put_ne W.a1.2.2.symm,Z.Sto.put_same]
 ·rw [Z.Sto.put_same,dr,jm]
theorem cg_put {G:SD→R Fl} (hG:G=cgR) (W:WN S n l d c N) (h2:2≤N.names.length) (h1:N.ties.length<40) {u:Nat} {ns:List Int} (hk:k≤63):Wp (G (cgS n c N.names ns k (some (.d (.int (u:Int)))) none none none none none S)) (fun fl s' =>fl= .nx∧∃N',WN s'.st n l d c N'∧N'.names=N.names) XF:=by
 subst hG
 have hM:M60=1000000000000000000000000000000000000000000000000000000000000:=rfl
 have hs:(5000:Nat)<sizeLine:=by decide
 have nl:=W.good.nl
 have tl:=W.good.tl
 have nn:=W.net.ne
 obtain ⟨a,b,mo,a1,b1,ab,hm,er⟩:=g_Lrow (m:=N.names.length) ns (k:=k) (by omega) h2
 obtain ⟨g,g0,g1,eg⟩:=vO ns ((k:Int)+5) (by omega) (by omega)
 obtain ⟨w,hw⟩:∃w:Int,w=(u:Int)%3 - 1:=⟨_,rfl⟩
 have w0:w= -1∨w=0∨w=1:=by omega
 have gw: -M60≤g*w∧g*w≤M60:=by rcases w0 with e | e | e<;> rw [e]<;> omega
 have mz:CMulX g w=True:=eq_true (M.bU (by omega) (by omega) (by omega) (by omega))
 have b3:((0:Int)<3)=True:=by decide
 have ll:(((N.names.map D.str).length:Nat):Int)=(N.names.length:Int):=by rw [List.length_map]
 obtain ⟨ta,ea⟩:∃z,N.names[a]? =some z:=⟨_,List.getElem?_eq_getElem a1⟩
 obtain ⟨tb,eb⟩:∃z,N.names[b]? =some z:=⟨_,List.getElem?_eq_getElem b1⟩
 have tne:ta≠tb:=Bc W.good.nd ea eb ab
 have i1:∀s:SD,ixK s (some (.lst (N.names.map .str))) (some (.int (a:Int)))= .ok (.d (.str ta)) s:=fun s=>ixL (f:=D.str) ea
 have i2:∀s:SD,ixK s (some (.lst (N.names.map .str))) (some (.int (b:Int)))= .ok (.d (.str tb)) s:=fun s=>ixL (f:=D.str) eb
 have k1:∀s:SD,ixK s (some (.dct (r5D a b mo))) (some (.str "tail"))= .ok (.d (.int (a:Int))) s:=fun s=>cf rfl
 have k2:∀s:SD,ixK s (some (.dct (r5D a b mo))) (some (.str "head"))= .ok (.d (.int (b:Int))) s:=fun s=>cf rfl
 have k3:∀s:SD,ixK s (some (.dct (r5D a b mo))) (some (.str "least"))= .ok (.d (.int 0)) s:=fun s=>cf rfl
 have k4:∀s:SD,ixK s (some (.dct (r5D a b mo))) (some (.str "most"))= .ok (.d (rD mo)) s:=fun s=>cf rfl
 obtain ⟨t,ht⟩:∃t:TD,t=⟨ta,tb,0,mo,g*w⟩:=⟨_,rfl⟩
 have tok:TieOk t:=by
  rw [ht]
  refine ⟨by show (0:Int)≤0; omega,by show (0:Int)≤M60; omega, ?_,by show -M60≤g*w; omega,by show g*w≤M60; omega⟩
  cases mo with
  | none=>rfl
  | some v=>
   obtain ⟨h1,h2⟩:=hm v rfl
   simp only [rmOk,kf,Bool.and_eq_true,decide_eq_true_eq]
   omega
 have t1:t.tail∈N.names:=by rw [ht]; exact List.mem_of_getElem? ea
 have t2:t.head∈N.names:=by rw [ht]; exact List.mem_of_getElem? eb
 have t3' :t.tail≠t.head:=by rw [ht]; exact tne
 have e1:=fun sl=>rM (sl:=sl) W.net W.b1 W.b3 W.b2 t1 t2 t3' tok h1
 have er1:kf mo=rD mo:=by cases mo<;> rfl
 have e2:∀sl,goF au [.cell n, .str ta, .str tb, .int 0,rD mo, .int (g*w)] ⟨sl,S⟩= .ok (.d (.int (N.given+1))) ⟨sl,(S.tick.put d (.dct (bK cT (iS N.ties (N.given+1) t)))).put n (.obj "Net" (fO l d (N.given+1)))⟩:=fun sl=>by
  have:=e1 sl
  rw [ht] at this ⊢
  dsimp only at this
  rw [er1] at this
  exact this
 have o1:=W.net.n
 have mNp:bO (fO l d N.given) "put_tie" =none:=rfl
 have w2:∀z z',((S.tick.put d z).put n z').get c=some (.lst (N.ties.map t3)):=fun z z' =>(Z.Sto.put_ne W.a1.1).trans ((Z.Sto.put_ne W.a1.2.2).trans ((cF (Nat.ne_of_lt W.b4)).trans W.rows))
 have sz:((N.ties.map t3).length<sizeLine)=True:=eq_true (by rw [List.length_map]; omega)
 obtain ⟨p1,p2⟩:=oM (t:=t) W.good.rise fun q hq=>(W.good.ts q hq).1
 have w1:=W.rows
 unfold cgR
 dsimp! only [w1,ll,er,k1,k2,k3,k4,i1,i2,b3,←hw,eg,mz,o1,ay mNp,e2,w2,sz]
 refine ⟨⟨N.names,iS N.ties (N.given+1) t,N.given+1⟩,⟨⟨?_, ?_, ?_⟩,W.good.put tok t1 t2 t3' h1, ?_, ?_, ?_, ?_, ?_,W.a1⟩,rfl⟩
 ·rw [Z.Sto.put_ne W.a1.1.symm,Z.Sto.put_same]
 ·rw [Z.Sto.put_ne W.a1.2.1.symm,Z.Sto.put_ne nn.1.symm,Z.Sto.put_ne nn.2.2,cF (Nat.ne_of_lt W.b2)]; exact W.net.l
 ·rw [Z.Sto.put_ne W.a1.2.2.symm,Z.Sto.put_ne nn.2.1.symm,Z.Sto.put_same]
 ·rw [Z.Sto.put_same]
  show some (D.lst _)=some (D.lst ((iS N.ties (N.given+1) t).map t3))
  rw [p1,List.map_append,ht]
  rfl
 ·show n<S.nx+1; have:=W.b1; omega
 ·show l<S.nx+1; have:=W.b2; omega
 ·show d<S.nx+1; have:=W.b3; omega
 ·show c<S.nx+1; have:=W.b4; omega
theorem wC (W:WN S n l d c N) (h2:2≤N.names.length) (ns:List Int) (hk:k≤63):∃S' N',WN S' n l d c N'∧N'.names=N.names∧∀sl,goF eT [.cell n, .cell c, .lst (N.names.map .str), .con (ns.map .int), .int (k:Int)] ⟨sl,S⟩= .ok (.d .non) ⟨sl,S'⟩:=by
 suffices hh:Wp (hQ (cgS n c N.names ns k none none none none none none S)) (fun fl s' =>flv fl=some (.d .non)∧∃N',WN s'.st n l d c N'∧N'.names=N.names) XF by
  obtain ⟨fl,s',e,h1,N',h2,h3⟩:=hh.is
  exact ⟨s'.st,N',h2,h3,fun sl=>eW (by show Wp (hQ (cgS n c N.names ns k none none none none none none S)) _ _; rw [e]; exact ⟨h1,rfl⟩)⟩
 obtain ⟨u,u0,u1,eu⟩:=jk ns (k:Int) (by omega) (by omega)
 obtain ⟨u,rfl⟩:=Int.eq_ofNat_of_zero_le u0
 obtain ⟨GD,hD⟩:∃g,g=cgD:=⟨_,rfl⟩
 obtain ⟨GR,hR⟩:∃g,g=cgR:=⟨_,rfl⟩
 have e0:hQ=(af (aA (aD bX [] (zA (aa 3) (zA (aa 4) zA0))) (zSt 5))
 (af (bJ (zOr (zB (z2 oEq (z1 de (aa 1)) (zC (.int 40)))) (iU (zB (z2 oNe (aa 1) (bV zA0))) (zB (z2 oEq (z2 cM (aa 5) (zC (.int 9))) (zC (.int 1)))))) GD aI)
 GR)):=by rw [hD,hR]; rfl
 rw [e0]
 clear e0
 have tl:=W.good.tl
 have w:=W.rows
 have b9:((0:Int)<9)=True:=by decide
 have ll:decide (((N.ties.map t3).length:Int)=40)=decide (N.ties.length=40):=decide_eq_decide.mpr (by rw [List.length_map]; omega)
 have le:(N.ties.map t3).isEmpty=N.ties.isEmpty:=by cases N.ties<;> rfl
 dsimp! only [eu,w,ll,le,b9]
 by_cases c1:N.ties.length=40
 ·dsimp! only [c1,eu,w]
  rw [ae]
  refine (Af (names:=N.names) hD W (by omega)).mono (fun fl s' h=>?_) fun _ _ _ h=>h.elim
  obtain ⟨rfl,h⟩:=h
  exact ⟨rfl,h⟩
 ·dsimp! only [c1,w,le]
  cases c2:N.ties.isEmpty with
  | true=>
   dsimp! only [c2]
   refine (cg_put hR W h2 (by omega) hk).mono (fun fl s' h=>?_) fun _ _ _ h=>h.elim
   obtain ⟨rfl,h⟩:=h
   exact ⟨rfl,h⟩
  | false=>
   have l0:0<N.ties.length:=by cases e:N.ties with | nil=>rw [e] at c2; cases c2 | cons _ _=>exact Nat.succ_pos _
   dsimp! only [c2,b9]
   by_cases c3:(u:Int)%9=1
   ·dsimp! only [c3]
    rw [ae]
    refine (Af (names:=N.names) hD W l0).mono (fun fl s' h=>?_) fun _ _ _ h=>h.elim
    obtain ⟨rfl,h⟩:=h
    exact ⟨rfl,h⟩
   ·dsimp! only [c3]
    refine (cg_put hR W h2 (by omega) hk).mono (fun fl s' h=>?_) fun _ _ _ h=>h.elim
    obtain ⟨rfl,h⟩:=h
    exact ⟨rfl,h⟩
end
end T

set_option maxHeartbeats 4000000
namespace Z
open PySem PySem.Spec PyProof.Rows L2 M
theorem mkR_ex {i:Nat} {sl:List (Option Vl)} {S:Sto} {F:FnV} {ds:List D} {S' S'' :Sto} {c:Str} {fs:List (Str×D)} (h:∀s:SD,goF F ds ⟨s.sl,S'⟩= .ex c fs ⟨s.sl,S''⟩):mkR i ⟨sl,S⟩ (F ds S')= .ex c fs ⟨sl,S''⟩:=by
 have h:=h ⟨sl,S⟩
 unfold goF at h
 cases e:F ds S' with
 | bad=>rw [e] at h; cases h
 | ok a s' =>rw [e] at h; cases h
 | ex c' fs' s' =>
  rw [e] at h
  cases h
  rfl
end Z
namespace T
open PySem PySem.Spec PyProof.Rows L2 M Z A
open Classical
section
variable {s:SD} {S:Sto} {sl:List (Option Vl)} {n l d c:Nat} {N:ND} {sc tg c' :Str} {fs:List (Str×D)}
theorem Bm {neg:Bool}:∀s:SD,kB neg (.d (.exc c' fs)) (.d .non) s= .ok (.d (.bl neg)) s:=fun _=>rfl
theorem jj (hN:NetAt S n l d N) (hG:Good N) (h1:sc∈N.names) (h2:tg∈N.names) (h3:sc≠tg) (n1:n<S.nx) (n2:l<S.nx) (n3:d<S.nx):
  goF aV [.cell S.nx, .cell n, .str sc, .str tg] ⟨sl,S.new (.obj "PlacesApart" [])⟩=
   if (sc,tg)∈prs N.ties then .ex "BadQuestion" [("why", .str "tie")] ⟨sl,S.new (.obj "PlacesApart" (quF N.names N.ties sc tg))⟩ else .ok (.d .non) ⟨sl,S.new (.obj "PlacesApart" (quF N.names N.ties sc tg))⟩:=by
 obtain ⟨G,hG5⟩:∃g,g=pcB:=⟨_,rfl⟩
 have e0:bN=(af (az (aD cQ [] (zA (aa 1) (zA (aa 2) (zA (aa 3) zA0)))))
 (af (bj ["PlacesApart"] "names" (aa 0) (ar "Net" "places" cu [] (aa 1) zA0))
 (af (bj ["PlacesApart"] "rows" (aa 0) (ar "Net" "ties" dR [] (aa 1) zA0))
 (af (bj ["PlacesApart"] "source" (aa 0) (aa 2))
 (af (bj ["PlacesApart"] "target" (aa 0) (aa 3))
 G))))):=by rw [hG5]; rfl
 have pb:=pc_b (S:=S) (sc:=sc) (tg:=tg) (v1:=some (.d (.cell n))) hG h1 h2
 by_cases c:(sc,tg)∈prs N.ties
 ·rw [if_pos c] at pb ⊢
  refine go_ex ?_
  show Wp (bN ⟨[some (.d (.cell S.nx)),some (.d (.cell n)),some (.d (.str sc)),some (.d (.str tg)),none],S.new (.obj "PlacesApart" [])⟩) _ _
  rw [e0]
  refine pc_a hN hG h1 h2 h3 n1 n2 n3 ?_
  rw [hG5,pb]
  exact ⟨rfl,rfl,rfl⟩
 ·rw [if_neg c] at pb ⊢
  refine eW ?_
  show Wp (bN ⟨[some (.d (.cell S.nx)),some (.d (.cell n)),some (.d (.str sc)),some (.d (.str tg)),none],S.new (.obj "PlacesApart" [])⟩) _ _
  rw [e0]
  refine pc_a hN hG h1 h2 h3 n1 n2 n3 ?_
  rw [hG5,pb]
  exact ⟨rfl,rfl⟩
theorem d10:decide ((1:Int)=0)=false:=by decide
theorem ud (hN:NetAt S n l d N) (hG:Good N) (h1:sc∈N.names) (h2:tg∈N.names) (h3:sc≠tg) (n1:n<S.nx) (n2:l<S.nx) (n3:d<S.nx):
  goF aJ [.cell n, .int 0, .str sc, .str tg] ⟨sl,S⟩= .ok (.d (.cell S.nx)) ⟨sl,S.new (.obj "TiesApart" (quF N.names N.ties sc tg))⟩:=by
 have e1:=fun sl=>je (sl:=sl) (S:=S) (i:=S.nx) (F:=bI) fun s=>ub (sl:=s.sl) hN hG h1 h2 h3 n1 n2 n3
 refine eW ?_
 show Wp (bg ⟨[some (.d (.cell n)),some (.d (.int 0)),some (.d (.str sc)),some (.d (.str tg)),none,none,none],S⟩) _ _
 unfold bg
 simp! only []
 rw [ae]
 refine try_w ?_
 simp! only [e1]
theorem zl (hN:NetAt S n l d N) (hG:Good N) (h1:sc∈N.names) (h2:tg∈N.names) (h3:sc≠tg) (n1:n<S.nx) (n2:l<S.nx) (n3:d<S.nx) (hno:(sc,tg)∉prs N.ties):
  goF aJ [.cell n, .int 1, .str sc, .str tg] ⟨sl,S⟩= .ok (.d (.cell S.nx)) ⟨sl,S.new (.obj "PlacesApart" (quF N.names N.ties sc tg))⟩:=by
 have e1:=fun sl=>je (sl:=sl) (S:=S) (i:=S.nx) (F:=aV) fun s=>(jj (sl:=s.sl) hN hG h1 h2 h3 n1 n2 n3).trans (if_neg hno)
 refine eW ?_
 show Wp (bg ⟨[some (.d (.cell n)),some (.d (.int 1)),some (.d (.str sc)),some (.d (.str tg)),none,none,none],S⟩) _ _
 unfold bg
 simp! only []
 rw [ae]
 refine try_w ?_
 simp! only [e1,d10]
theorem Bu (hN:NetAt S n l d N) (hG:Good N) (h1:sc∈N.names) (h2:tg∈N.names) (h3:sc≠tg) (n1:n<S.nx) (n2:l<S.nx) (n3:d<S.nx) (hyes:(sc,tg)∈prs N.ties):
  goF aJ [.cell n, .int 1, .str sc, .str tg] ⟨sl,S⟩= .ok (.d (.bl true)) ⟨sl,S.new (.obj "PlacesApart" (quF N.names N.ties sc tg))⟩:=by
 have e1:=fun sl=>mkR_ex (sl:=sl) (S:=S) (i:=S.nx) (F:=aV) fun s=>(jj (sl:=s.sl) hN hG h1 h2 h3 n1 n2 n3).trans (if_pos hyes)
 have tk:pick tk_FlowError "BadQuestion" =some true:=rfl
 have ix:∀fs,∀s:SD,isXK (pick isx_BadQuestion) true s (some (.exc "BadQuestion" fs))= .ok (.d (.bl true)) s:=fun fs s=>Bl rfl
 have xf:∀s:SD,xfK (yy xf_why) "why" s (some (.exc "BadQuestion" [("why", .str "tie")]))= .ok (.d (.str "tie")) s:=fun s=>xfK_ok rfl rfl
 refine eW ?_
 show Wp (bg ⟨[some (.d (.cell n)),some (.d (.int 1)),some (.d (.str sc)),some (.d (.str tg)),none,none,none],S⟩) _ _
 unfold bg
 simp! only []
 rw [ae]
 refine try_w ?_
 simp! only [e1,d10]
 refine .inl ⟨tk, ?_⟩
 simp! only [Bm,AJ,ix,w_xf,xf]
end
open Rs (As ta he)
open Ap (Trail)
section
variable {s:SD} {S:Sto} {sl:List (Option Vl)} {x y z:D} {m l d c st:Nat} {sc:Str} {names shut found:List Str} {us:List (Int×TD)} {q:Int×TD} {w:List Nat}
def HandQ (S:Sto) (x:D) (l:List D):Prop:=x= .lst l∨∃c,x= .cell c∧S.get c=some (.lst l)
theorem HandQ.cont {l:List D} (h:HandQ S x l):SD.cont ⟨sl,S⟩ (.d x)=some (.lst l):=by
 rcases h with rfl | ⟨c,rfl,e⟩
 ·rfl
 ·exact e
theorem HandQ.it {l:List D} (h:HandQ S x l):∃ok:SD→Prop,(∀sl,tO (.d x) ⟨sl,S⟩= .ok ⟨[.d x],ok,l⟩ ⟨sl,S⟩)∧∀sl,ok ⟨sl,S⟩:=by
 rcases h with rfl | ⟨c,rfl,e⟩
 ·exact ⟨fun _=>True,fun sl=>iV,fun _=>trivial⟩
 ·exact ⟨fun s=>s.st.get c=some (.lst l),fun sl=>eC (s:=⟨sl,S⟩) e,fun sl=>e⟩
noncomputable def coI:SD→R Fl:=(bJ (iU (zB (z2 oEq (aa 6) (z2 oIx (aa 3) (aa 4)))) (iU (zB (z2 (oIn true) (aa 7) (aa 3))) (zB (z2 (oIn true) (aa 7) (aa 2))))) (az (zM2 isL (oB2 aE) (aa 3) (aG (aa 7)))) aI)
noncomputable def coB:SD→R Fl:=(af (cC (aU (aG (aa 0))) (ig [5,6,7]) coI)
 (aA (z2 cA (aa 4) (zC (.int 1))) (zSt 4)))
abbrev coS (x y:D) (sc:Str) (found:List Str) (i:Nat) (v5 v6 v7:Option Vl) (S:Sto):SD:=
 ⟨[some (.d x),some (.d (.str sc)),some (.d y),some (.own (.lst (found.map .str))),some (.d (nD i)),v5,v6,v7],S⟩
def coF (shut found:List Str) (z:Str) (q:Int×TD):List Str:=if q.2.tail=z∧q.2.head∉found∧q.2.head∉shut then found++ [q.2.head] else found
theorem cN {neg:Bool} {w:Str} {l:List Str}:∀s:SD,inK neg s (some (.str w)) (some (.lst (l.map .str)))= .ok (.d (.bl (if neg then !decide (w∈l) else decide (w∈l)))) s:=fun s=>kE pE
theorem co_turn {G:SD→R Fl} (hG:G=coI) {i:Nat} {z:Str} (hy:HandQ S y (shut.map .str)) (hi:found[i]? =some z) (hz:found.length≤1000):
  G (coS x y sc found i (some (.d (.int q.1))) (some (.d (.str q.2.tail))) (some (.d (.str q.2.head))) S)= .ok .nx (coS x y sc (coF shut found z q) i (some (.d (.int q.1))) (some (.d (.str q.2.tail))) (some (.d (.str q.2.head))) S):=by
 subst hG
 have hs:(5000:Nat)<sizeLine:=by decide
 have i1:∀s:SD,ixK s (some (.lst (found.map .str))) (some (.int (i:Int)))= .ok (.d (.str z)) s:=fun s=>ixL (f:=D.str) hi
 have i2:=cN (neg:=true) (w:=q.2.head) (l:=found)
 have i3:=cN (neg:=true) (w:=q.2.head) (l:=shut)
 have cy:=fun sl=>hy.cont (sl:=sl)
 have sz:((found.map D.str).length<sizeLine)=True:=eq_true (by rw [List.length_map]; omega)
 have ap:found.map D.str++ [.str q.2.head]=(found++ [q.2.head]).map D.str:=by rw [List.map_append]; rfl
 unfold coI coF
 by_cases c1:q.2.tail=z
 ·have d1:=decide_eq_true c1
  by_cases c2:q.2.head∈found
  ·have d2:=decide_eq_true c2
   rw [if_neg fun h=>h.2.1 c2]
   simp! only [i1,i2,d1,d2,eo]
  ·have d2:=decide_eq_false c2
   by_cases c3:q.2.head∈shut
   ·have d3:=decide_eq_true c3
    rw [if_neg fun h=>h.2.2 c3]
    simp! only [i1,i2,i3,cy,d1,d2,d3,eo]
   ·have d3:=decide_eq_false c3
    rw [if_pos ⟨c1,c2,c3⟩]
    simp! only [i1,i2,i3,cy,d1,d2,d3,eo,sz,ap]
 ·have d1:=decide_eq_false c1
  rw [if_neg fun h=>c1 h.1]
  simp! only [i1,d1,eo]
structure CoOk (names shut:List Str) (C:Str→Prop) (found:List Str):Prop where
 nd:found.Nodup
 nm:∀z∈found,z∈names
 c:∀z∈found,C z
theorem CoOk.step {C:Str→Prop} {z:Str} (h:CoOk names shut C found) (hn:q.2.head∈names) (hC:C z→q.2.tail=z→q.2.head∉shut→C q.2.head) (hz:z∈found):CoOk names shut C (coF shut found z q)∧found <+: coF shut found z q:=by
 unfold coF
 split
 ·rename_i c
  refine ⟨⟨?_,fun u hu=>?_,fun u hu=>?_⟩,List.prefix_append ..⟩
  ·refine List.nodup_append.mpr ⟨h.nd,by simp,fun a ha b hb=>?_⟩
   rw [List.mem_singleton.mp hb]
   exact fun e=>c.2.1 (e ▸ ha)
  ·rcases List.mem_append.mp hu with hu | hu
   ·exact h.nm u hu
   ·rw [List.mem_singleton.mp hu]; exact hn
  ·rcases List.mem_append.mp hu with hu | hu
   ·exact h.c u hu
   ·rw [List.mem_singleton.mp hu]; exact hC (h.c z hz) c.1 c.2.2
 ·exact ⟨h,List.prefix_refl _⟩
theorem nI {C:Str→Prop} (hx:HandQ S x (us.map t3)) (hy:HandQ S y (shut.map .str)) (hn:names.length≤14) (nd:names.Nodup) (hsc:sc∈names) (h0:C sc) (hu:∀q∈us,q.2.head∈names) (hC:∀q∈us,C q.2.tail→q.2.head∉shut→C q.2.head):
  ∃found:List Str,(∀z∈found,C z)∧∀sl,goF cS [x, .str sc,y] ⟨sl,S⟩= .ok (.own (.lst (found.map .str))) ⟨sl,S⟩:=by
 have hs:(5000:Nat)<sizeLine:=by decide
 suffices hh:Wp (hF ⟨[some (.d x),some (.d (.str sc)),some (.d y),none,none,none,none,none],S⟩) (fun fl s' =>∃found:List Str,(∀z∈found,C z)∧flv fl=some (.own (.lst (found.map .str)))∧s'.st=S) XF by
  obtain ⟨fl,s',e,found,h1,h2,h3⟩:=hh.is
  exact ⟨found,h1,fun sl=>eW (by show Wp (hF ⟨[some (.d x),some (.d (.str sc)),some (.d y),none,none,none,none,none],S⟩) _ _; rw [e]; exact ⟨h2,h3⟩)⟩
 obtain ⟨GI,hI⟩:∃g,g=coI:=⟨_,rfl⟩
 obtain ⟨GB,hB⟩:∃g,g=(af (cC (aU (aG (aa 0))) (ig [5,6,7]) GI)
 (aA (z2 cA (aa 4) (zC (.int 1))) (zSt 4))):=⟨_,rfl⟩
 have e0:hF=(af (aA (bV (zA (aa 1) zA0)) (zSt 3))
 (af (aA (zC (.int 0)) (zSt 4))
 (af (zWh (zB (z2 oLt (aa 4) (z1 de (aa 3)))) GB)
 (aW (aa 3))))):=by rw [hB,hI]; rfl
 have tn:=fun {found i z q} h1 h2=>co_turn hI (x:=x) (y:=y) (sc:=sc) (S:=S) (shut:=shut) (found:=found) (i:=i) (z:=z) (q:=q) hy h1 h2
 rw [e0]
 clear e0 hI
 obtain ⟨ok,it,hok⟩:=hx.it
 have small:∀found,CoOk names shut C found→found.length≤names.length:=fun found h=>List.Nodup.length_le_of_subset h.nd fun z hz=>h.nm z hz
 simp! only []
 rw [ae]
 refine wh_w (m:=names.length) (fun m s' =>∃found i v5 v6 v7,s' =coS x y sc found i v5 v6 v7 S∧CoOk names shut C found∧i≤found.length∧m+i=names.length) ⟨[sc],0,none,none,none,rfl,⟨by simp,fun z hz=>by rw [List.mem_singleton.mp hz]; exact hsc,fun z hz=>by rw [List.mem_singleton.mp hz]; exact h0⟩,Nat.zero_le _,rfl⟩ (fun m s' hI=>?_)
 obtain ⟨found,i,v5,v6,v7,rfl,K,hi,hm⟩:=hI
 have ll:=small found K
 have c3:decide ((i:Int)<(((found.map D.str).length:Nat):Int))=decide (i<found.length):=decide_eq_decide.mpr (by rw [List.length_map]; omega)
 simp! only [c3]
 by_cases c:i<found.length
 ·obtain ⟨z,ez⟩:∃z,found[i]? =some z:=⟨_,List.getElem?_eq_getElem c⟩
  simp! only [c]
  rw [hB]
  simp! only [it]
  rw [ae]
  refine kj (fun j s' =>∃f2 v5 v6 v7,s' =coS x y sc f2 i v5 v6 v7 S∧CoOk names shut C f2∧found <+: f2) Nl.d1 (fun _ _ ⟨_,_,_,_,e,_⟩=>by rw [e]; exact hok _) ⟨found,v5,v6,v7,rfl,K,List.prefix_refl _⟩ (fun j d s' ed hJ=>?_) (fun s' hJ=>?_)
  ·obtain ⟨f2,u5,u6,u7,rfl,K2,pf⟩:=hJ
   have ed:(us.map t3)[j]? =some d:=ed
   rw [List.getElem?_map] at ed
   cases eq:us[j]? with
   | none=>rw [eq] at ed; cases ed
   | some q=>
    rw [eq] at ed
    cases ed
    have hq:=List.mem_of_getElem? eq
    have l2:=small f2 K2
    have ez2:f2[i]? =some z:=by
     obtain ⟨r,rfl⟩:=pf
     rw [List.getElem?_append_left c]; exact ez
    have e:=tn (q:=q) ez2 (by omega)
    obtain ⟨K3,p3⟩:=K2.step (q:=q) (hu q hq) (fun hc ht hs=>hC q hq (by rw [ht]; exact hc) hs) (List.mem_of_getElem? ez2)
    simp! only [e]
    exact ⟨_,_,_,_,rfl,K3,pf.trans p3⟩
  ·obtain ⟨f2,u5,u6,u7,rfl,K2,pf⟩:=hJ
   have l2:=small f2 K2
   have l3:=pf.length_le
   simp! only []
   refine ⟨m - 1,by omega,f2,i+1,u5,u6,u7,rfl,K2,by omega,by omega⟩
 ·simp! only [c]
  exact ⟨found,K.c,rfl⟩
end
section
variable {s:SD} {S:Sto} {sl:List (Option Vl)} {x y z:D} {l d k c st p:Nat} {sc tg:Str} {names:List Str} {ts:List (Int×TD)} {q:Int×TD} {w:List Nat}
theorem AL {taf hef:Nat→Nat} {s p:Nat} {w:List Nat} (T:Trail taf hef s w p):∀{i k:Nat},w[i]? =some k→(s::w.map hef)[i]? =some (taf k):=by
 induction T with
 | nil=>intro i k h; cases h
 | snoc T ih=>
  rename_i w k0
  intro i k h
  rw [List.map_append,←List.cons_append]
  by_cases c:i<w.length
  ·rw [List.getElem?_append_left c] at h
   rw [List.getElem?_append_left (by simp; omega)]
   exact ih h
  ·have hl:=(List.getElem?_eq_some_iff.mp h).1
   simp at hl
   have e:i=w.length:=by omega
   subst e
   rw [List.getElem?_append_right (Nat.le_refl _),Nat.sub_self] at h
   cases h
   rw [List.getElem?_append_left (by simp)]
   exact T.end
theorem vV (hr:ie ts) (hq:q∈ts):ts.filter (fun r=>decide (r.1=q.1))= [q]:=by
 unfold ie at hr
 induction ts with
 | nil=>cases hq
 | cons p ts ih=>
  rw [List.map_cons,List.pairwise_cons] at hr
  rcases List.mem_cons.mp hq with rfl | hq
  ·rw [List.filter_cons_of_pos (p:=fun r:Int×TD=>decide (r.1=q.1)) (decide_eq_true rfl),List.filter_eq_nil_iff.mpr fun r hm h=>?_]
   have h:=of_decide_eq_true h
   have:=hr.1 r.1 (List.mem_map.mpr ⟨r,hm,rfl⟩)
   omega
  ·have:=hr.1 q.1 (List.mem_map.mpr ⟨q,hq,rfl⟩)
   rw [List.filter_cons_of_neg (p:=fun r:Int×TD=>decide (r.1=q.1)) (fun h=>by have h:=of_decide_eq_true h; omega)]
   exact ih hr.2 hq
theorem zw (hr:ie ts) (hq:q∈ts):ts.filter (fun r=>decide (r.1=q.1)&&decide (r.2.tail=q.2.tail))= [q]:=by
 have h:=vV hr hq
 have e:ts.filter (fun r=>decide (r.1=q.1)&&decide (r.2.tail=q.2.tail))=(ts.filter fun r=>decide (r.1=q.1)).filter fun r=>decide (r.2.tail=q.2.tail):=by
  rw [List.filter_filter]
  refine List.filter_congr fun r _=>?_
  rw [Bool.and_comm]
 rw [e,h]
 exact List.filter_cons_of_pos (p:=fun r:Int×TD=>decide (r.2.tail=q.2.tail)) (decide_eq_true rfl)
abbrev nmA (names:List Str) (p:Nat):Str:=names.getD p ""
theorem ke {z:Str} (h:z∈names):nmA names (names.idxOf z)=z:=by
 have hl:=List.idxOf_lt_length_of_mem h
 show names.getD _ _=_
 rw [List.getD_eq_getElem?_getD,List.getElem?_eq_getElem hl,List.getElem_idxOf]
 rfl
def plW (names:List Str) (as:As) (st:Nat) (w:List Nat):List Str:=(st::w.map (he as)).map (nmA names)
noncomputable def wrB:SD→R Fl:=(af (aA (zLc (aU (aG (aa 1))) (zSt 7) (iU (zB (z2 oEq (z2 oIx (aa 7) (zC (.int 0))) (aa 5))) (zB (z2 oEq (z2 oIx (aa 7) (zC (.int 1))) (z2 oIx (aa 4) (z1 AD (zC (.int 1))))))) (aa 7) [7]) (zSt 6))
 (af (bJ (zOr (zB (z1 (qY .bool) (aa 5))) (zB (z2 oEq (aa 6) (bV zA0)))) (aW (zC .non)) aI)
 (az (zM2 isL (oB2 aE) (aa 4) (aG (z2 oIx (zLc (aU (aG (aa 1))) (zSt 7) (zB (z2 oEq (z2 oIx (aa 7) (zC (.int 0))) (aa 5))) (z2 oIx (aa 7) (zC (.int 2))) [7]) (zC (.int 0))))))))
abbrev wrS (y x:D) (sc tg:Str) (pl:List Str) (v5 v6 v7:Option Vl) (S:Sto):SD:=
 ⟨[some (.d y),some (.d x),some (.d (.str sc)),some (.d (.str tg)),some (.own (.lst (pl.map .str))),v5,v6,v7],S⟩
theorem rA {pre:List Str} {y:Str}:∀s:SD,ixK s (some (.lst ((pre++ [y]).map .str))) (some (.int (-1)))= .ok (.d (.str y)) s:=fun s=>cf (by
 show atI ((pre++ [y]).map D.str) (-1)=_
 rw [List.map_append,List.map_cons,List.map_nil]
 exact atI_last _ _)
theorem wr_turn {G:SD→R Fl} (hG:G=wrB) (hx:HandQ S x (ts.map t3)) (hr:ie ts) (tl:ts.length≤40) (hq:q∈ts) {pre:List Str} (hp:pre.length≤1000) {v6 v7:Option Vl}:
  ∃u6 u7,G (wrS y x sc tg (pre++ [q.2.tail]) (some (.d (.int q.1))) v6 v7 S)= .ok .nx (wrS y x sc tg (pre++ [q.2.tail]++ [q.2.head]) (some (.d (.int q.1))) u6 u7 S):=by
 subst hG
 have hs:(5000:Nat)<sizeLine:=by decide
 obtain ⟨ok,it,hok⟩:=hx.it
 have l1:=rA (pre:=pre) (y:=q.2.tail)
 have i0:∀r:Int×TD,∀s:SD,ixK s (some (t3 r)) (some (.int 0))= .ok (.d (.int r.1)) s:=fun r s=>cf rfl
 have i1:∀r:Int×TD,∀s:SD,ixK s (some (t3 r)) (some (.int 1))= .ok (.d (.str r.2.tail)) s:=fun r s=>cf rfl
 have i2:∀r:Int×TD,∀s:SD,ixK s (some (t3 r)) (some (.int 2))= .ok (.d (.str r.2.head)) s:=fun r s=>cf rfl
 have sz:(((pre++ [q.2.tail]).map D.str).length<sizeLine)=True:=eq_true (by rw [List.length_map,List.length_append]; show _+1<_; omega)
 have ap:(pre++ [q.2.tail]).map D.str++ [.str q.2.head]=(pre++ [q.2.tail]++ [q.2.head]).map D.str:=by rw [List.map_append (l₁:=pre++ [q.2.tail])]; rfl
 have f1:=zw hr hq
 have f2:=vV hr hq
 have j0:∀s:SD,ixK s (some (.lst [.str q.2.head])) (some (.int 0))= .ok (.d (.str q.2.head)) s:=fun s=>cf rfl
 unfold wrB
 simp! only [it]
 rw [dB (l:=ts) t3 t3 (fun r=>decide (r.1=q.1)&&decide (r.2.tail=q.2.tail)) rfl rfl Nl.d1 (hok _) (fun r hr=>?_) (by omega)]
 ·rw [f1]
  simp! only [List.map_cons,List.map_nil,it]
  rw [dB (l:=ts) t3 (fun r=> .str r.2.head) (fun r=>decide (r.1=q.1)) rfl rfl Nl.d1 (hok _) (fun r hr=>?_) (by omega)]
  ·rw [f2]
   simp! only [List.map_cons,List.map_nil,j0,sz,ap]
   exact ⟨_,_,rfl⟩
  ·unfold Z.fM
   simp! only [i0,i2]
 ·unfold Z.fM
  by_cases c1:r.1=q.1
  ·have d1:=decide_eq_true c1
   simp! only [i0,i1,d1,l1,eo]
   rfl
  ·have d1:=decide_eq_false c1
   simp! only [i0,i1,d1,l1,eo]
   rfl
theorem kG (O:QOk names ts sc tg) (hr:ie ts) (hx:HandQ S x (ts.map t3)) (hy:HandQ S y ((w.map (cj ts)).map .int)) (hw:∀k∈w,k<ts.length) (T0:Trail (ta (ao names ts)) (he (ao names ts)) (names.idxOf sc) w (names.idxOf tg)) (hz:w.length≤40):
  goF cx [y,x, .str sc, .str tg] ⟨sl,S⟩= .ok (.own (.lst ((plW names (ao names ts) (names.idxOf sc) w).map .str))) ⟨sl,S⟩:=by
 refine eW ?_
 show Wp (gI ⟨[some (.d y),some (.d x),some (.d (.str sc)),some (.d (.str tg)),none,none,none,none],S⟩) _ _
 obtain ⟨G,hG⟩:∃g,g=wrB:=⟨_,rfl⟩
 have e0:gI=(af (aA (bV (zA (aa 2) zA0)) (zSt 4))
 (af (bJ (fN (zB (z1 (qY .list) (aa 0)))) (aW (zC .non)) aI)
 (af (cC (aU (aG (aa 0))) (zSt 5) G)
 (aW (zIf (zB (z2 oEq (z2 oIx (aa 4) (z1 AD (zC (.int 1)))) (aa 3))) (aa 4) (zC .non)))))):=by rw [hG]; rfl
 have tn:=fun {q pre v6 v7} hq hp=>wr_turn hG (y:=y) (x:=x) (sc:=sc) (tg:=tg) (S:=S) (ts:=ts) (q:=q) (pre:=pre) (v6:=v6) (v7:=v7) hx hr O.tl hq hp
 rw [e0]
 clear e0 hG
 obtain ⟨ok,it,hok⟩:=hy.it
 have cy:=fun sl=>hy.cont (sl:=sl)
 simp! only [cy,it]
 rw [ae]
 have t1:∀j,(w.take (j+1)).length≤w.length:=fun j=>by rw [List.length_take]; omega
 refine kj (fun j s' =>∃v5 v6 v7,s' =wrS y x sc tg (plW names (ao names ts) (names.idxOf sc) (w.take j)) v5 v6 v7 S) Nl.d1 (fun _ _ ⟨_,_,_,e⟩=>by rw [e]; exact hok _) ⟨none,none,none,by unfold plW; rw [List.take_zero]; show _=wrS y x sc tg [nmA names (names.idxOf sc)] _ _ _ _; rw [ke O.hs]; rfl⟩ (fun j e s' ed hI=>?_) (fun s' hI=>?_)
 ·obtain ⟨v5,v6,v7,rfl⟩:=hI
  have ed:((w.map (cj ts)).map D.int)[j]? =some e:=ed
  rw [List.map_map,List.getElem?_map] at ed
  cases ek:w[j]? with
  | none=>rw [ek] at ed; cases ed
  | some k=>
   rw [ek] at ed
   cases ed
   have hk:=hw k (List.mem_of_getElem? ek)
   obtain ⟨q,eq⟩:∃q,ts[k]? =some q:=⟨_,List.getElem?_eq_getElem hk⟩
   have qm:=List.mem_of_getElem? eq
   obtain ⟨p1,p2,p3⟩:=O.pl q qm
   obtain ⟨th1,th2⟩:=jb (names:=names) eq
   have en:=jJ eq
   have ta:=AL T0 ek
   have hj:=(List.getElem?_eq_some_iff.mp ek).1
   -- the dF so far end at the tie's tail
   obtain ⟨pre,hpre,lp⟩:∃pre,plW names (ao names ts) (names.idxOf sc) (w.take j)=pre++ [q.2.tail]∧pre.length=j:=by
    have e1:plW names (ao names ts) (names.idxOf sc) (w.take j)=((names.idxOf sc::w.map (he (ao names ts))).take (j+1)).map (nmA names):=by
     unfold plW
     rw [List.take_succ_cons,List.map_take]
    rw [e1,List.take_add_one,ta,th1,List.map_append]
    refine ⟨_,by show _++ [nmA names (names.idxOf q.2.tail)]=_; rw [ke p1], ?_⟩
    rw [List.length_map,List.length_take,List.length_cons,List.length_map]
    omega
   obtain ⟨u6,u7,e⟩:=tn (pre:=pre) (v6:=v6) (v7:=v7) qm (by omega)
   have e2:plW names (ao names ts) (names.idxOf sc) (w.take (j+1))=pre++ [q.2.tail]++ [q.2.head]:=by
    rw [←hpre]
    unfold plW
    rw [List.take_add_one,ek,List.map_append,←List.cons_append,List.map_append]
    show _++ [nmA names (he (ao names ts) k)]=_
    rw [th2,ke p2]
   rw [hpre]
   show Wp ((zSt 5 (.d (.int (cj ts k))) _).bind _) _ _
   rw [en]
   simp! only [e]
   exact ⟨_,_,_,by rw [e2]⟩
 ·have hI:∃v5 v6 v7,s' =wrS y x sc tg (plW names (ao names ts) (names.idxOf sc) (w.take ((w.map (cj ts)).map D.int).length)) v5 v6 v7 S:=hI
  rw [List.length_map,List.length_map,List.take_length] at hI
  obtain ⟨v5,v6,v7,rfl⟩:=hI
  obtain ⟨pre,hpre⟩:∃pre,plW names (ao names ts) (names.idxOf sc) w=pre++ [tg]:=by
   have e1:plW names (ao names ts) (names.idxOf sc) w=((names.idxOf sc::w.map (he (ao names ts))).take (w.length+1)).map (nmA names):=by
    unfold plW
    rw [List.take_of_length_le (by rw [List.length_cons,List.length_map]; omega)]
   rw [e1,List.take_add_one,T0.end,List.map_append]
   exact ⟨_,by show _++ [nmA names (names.idxOf tg)]=_; rw [ke O.ht]⟩
  have l1:=rA (pre:=pre) (y:=tg)
  rw [hpre]
  simp! only [l1,eo]
end
end T

set_option maxHeartbeats 4000000
namespace T
open PySem PySem.Spec PyProof.Rows L2 M Z A
open Classical
open Rs (As ta he cz Lift Lifted rsB)
open Ap (Trail)
section
variable {s:SD} {S:Sto} {sl:List (Option Vl)} {x y:D} {l d k c st p wc vc B:Nat} {sc tg:Str} {names shut found:List Str} {ts us:List (Int×TD)} {q:Int×TD} {w:List Nat} {W:List (List Int)} {wall:List D} {is js:List Int}
theorem isN_own {ds:List D}:∀s:SD,kB false (.own (.lst ds)) (.d .non) s= .ok (.d (.bl false)) s:=fun _=>rfl
theorem vJ {neg:Bool} {i:Int} {l:List Int}:∀s:SD,inK neg s (some (.int i)) (some (.lst (l.map .int)))= .ok (.d (.bl (if neg then !decide (i∈l) else decide (i∈l)))) s:=fun s=>kE (by
 have e1:∀l:List Int,scs (l.map D.int)=some (l.map V.int):=fun l=>by
  induction l with
  | nil=>rfl
  | cons a l ih=>rw [List.map_cons,scs,ih]; rfl
 have e2:∀l:List Int,inV (.int i) (l.map V.int)=decide (i∈l):=fun l=>by
  induction l with
  | nil=>rfl
  | cons y r ih=>
   unfold inV at ih ⊢
   rw [List.map_cons,List.any_cons,ih,Bool.eq_iff_iff]
   simp only [Bool.or_eq_true,decide_eq_true_eq,List.mem_cons]
   have e:eqV (V.int y) (V.int i)=true↔i=y:=by
    show (y == i)=true↔_
    rw [beq_iff_eq]
    exact eq_comm
   rw [e]
 unfold dIn
 simp only [e1,D.sc,e2])
theorem mn (nd:is.Nodup) (few:is.length≤1000):∀s:SD,kg s (some (.lst (is.map .int)))= .ok (.d (.int (is.length:Nat))) s:=fun s=>by
 have nk:(is.map (Sum.inl:Int→Key)).Nodup:=List.pairwise_map.mpr (nd.imp fun h e=>h (Sum.inl.inj e))
 have:=nz (s:=s) (rF is) nk (by rw [List.length_map]; omega)
 rw [List.length_map] at this
 exact this
theorem mm {is:List Str} (nd:is.Nodup) (few:is.length≤1000):∀s:SD,kg s (some (.lst (is.map .str)))= .ok (.d (.int (is.length:Nat))) s:=fun s=>by
 have nk:(is.map (Sum.inr:Str→Key)).Nodup:=List.pairwise_map.mpr (nd.imp fun h e=>h (Sum.inr.inj e))
 have:=nz (s:=s) (rC is) nk (by rw [List.length_map]; omega)
 rw [List.length_map] at this
 exact this
theorem lb {i j:Int} {s:SD}:neK s (some (.int i)) (some (.int j))= .ok (.d (.bl (!decide (i=j)))) s:=by
 have h:dEq (.int i) (.int j)=some (decide (i=j)):=by
  show some (decide (V.int i=V.int j))=_
  congr 1
  apply decide_eq_decide.mpr
  exact ⟨fun h=>by cases h; rfl,fun h=>by rw [h]⟩
 unfold neK
 simp only [h]
theorem ApAt.cell (A:ApAt S B x W wall wc c vc) (h:p<W.length):∃l,W[p]? =some l∧S.get (c+p)=some (.lst (l.map .int)):=⟨_,List.getElem?_eq_getElem h,A.hc p _ (List.getElem?_eq_getElem h)⟩
noncomputable def tyB:SD→R Fl:=(af (bJ (zB (z2 (kB false) (aD cx [] (zA (aa 5) (zA (aa 1) (zA (aa 2) (zA (aa 3) zA0))))) (zC .non))) (aW (zC (.bl false))) aI)
 (az (zM2 isL oExt (aa 4) (aa 5))))
noncomputable def tyR:SD→R Fl:=(af (bJ (zOr (zB (z2 oNe (z1 cW (aa 4)) (z1 de (aa 4)))) (zB (z2 oNe (z1 cW (z1 (aB ["Apart"] "wall") (aa 0))) (z1 de (z1 (aB ["Apart"] "wall") (aa 0)))))) (aW (zC (.bl false))) aI)
 (af (aA (zLc (aU (aG (aa 1))) (zSt 8) bP (z2 oIx (aa 8) (zC (.int 0))) [8]) (zSt 6))
 (af (bJ (zB (z2 oNe (zLc (aU (aG (z1 (aB ["Apart"] "wall") (aa 0)))) (zSt 9) (zOr (zB (z1 (qY .bool) (aa 9))) (zB (z2 (oIn true) (aa 9) (aa 6)))) (aa 9) [9]) (bV zA0))) (aW (zC (.bl false))) aI)
 (af (aA (zLc (aU (aG (aa 1))) (zSt 8) (zB (z2 (oIn true) (z2 oIx (aa 8) (zC (.int 0))) (z1 (aB ["Apart"] "wall") (aa 0)))) (aa 8) [8]) (zSt 7))
 (aW (z2 (oIn true) (aa 3) (aD cS [] (zA (aa 7) (zA (aa 2) (zA (bV zA0) zA0))))))))))
abbrev tyS (x y:D) (sc tg:Str) (used:List Int) (v5:Option Vl) (S:Sto):SD:=
 ⟨[some (.d x),some (.d y),some (.d (.str sc)),some (.d (.str tg)),some (.own (.lst (used.map .int))),v5,none,none,none,none],S⟩
theorem ty_turn {G:SD→R Fl} (hG:G=tyB) (O:QOk names ts sc tg) (hr:ie ts) (hy:HandQ S y (ts.map t3)) {cw:Nat} (hc:S.get cw=some (.lst ((w.map (cj ts)).map .int))) (hw:∀k∈w,k<ts.length) (T0:Trail (ta (ao names ts)) (he (ao names ts)) (names.idxOf sc) w (names.idxOf tg)) (hz:w.length≤40) (hu:is.length≤40):
  G (tyS x y sc tg is (some (.d (.cell cw))) S)= .ok .nx (tyS x y sc tg (is++w.map (cj ts)) (some (.d (.cell cw))) S):=by
 subst hG
 have hs:(5000:Nat)<sizeLine:=by decide
 have e1:=fun sl=>kG (sl:=sl) (y:= .cell cw) O hr hy (.inr ⟨cw,rfl,hc⟩) hw T0 hz
 have sz:((is.map D.int).length+((w.map (cj ts)).map D.int).length≤sizeLine)=True:=eq_true (by rw [List.length_map,List.length_map,List.length_map]; omega)
 have ap:is.map D.int++(w.map (cj ts)).map D.int=(is++w.map (cj ts)).map D.int:=by rw [List.map_append]
 unfold tyB
 simp! only [e1,isN_own,w_ext,hc,By,sz,x_non,ap]
theorem ty_rest {G:SD→R Fl} (hG:G=tyR) (A:ApAt S B x W (js.map .int) wc c vc) (O:QOk names ts sc tg) (nm:∀q∈ts,q.2.head∈names) (hy:HandQ S y (ts.map t3)) (nu:is.Nodup) (hu:is.length≤40) (nj:js.Nodup) (hj:js.length≤40) (hin:∀i∈js,i∈ts.map (·.1)) {C:Str→Prop} (h0:C sc) (ht:¬C tg) (hC:∀q∈ts,q.1∉js→C q.2.tail→C q.2.head) {v5:Option Vl}:
  Wp (G (tyS x y sc tg is v5 S)) (fun fl s' =>fl= .rt (.d (.bl true))∧s'.st=S) XF:=by
 subst hG
 have hs:(5000:Nat)<sizeLine:=by decide
 have tl:=O.tl
 have ax:=A.hx
 have av:=A.hv
 subst ax
 obtain ⟨ok,it,hok⟩:=hy.it
 have fw:bO ([("ways", .cell wc),("wall", .cell vc)]:List (Str×D)) "wall" =some (.cell vc):=rfl
 have l1:=mn nu (by omega)
 have l2:=mn nj (by omega)
 have k1:(((is.map D.int).length:Nat):Int)=(is.length:Int):=by rw [List.length_map]
 have k2:(((js.map D.int).length:Nat):Int)=(js.length:Int):=by rw [List.length_map]
 have i0:∀r:Int×TD,∀s:SD,ixK s (some (t3 r)) (some (.int 0))= .ok (.d (.int r.1)) s:=fun r s=>cf rfl
 have itv:∀sl:List (Option Vl),tO (.d (.cell vc)) ⟨sl,S⟩= .ok ⟨[.d (.cell vc)],fun s=>s.st.get vc=some (.lst (js.map .int)),js.map .int⟩ ⟨sl,S⟩:=fun sl=>eC (s:=⟨sl,S⟩) av
 obtain ⟨found,f1,f2⟩:=nI (S:=S) (x:= .lst ((ts.filter fun q=>!decide (q.1∈js)).map t3)) (y:= .lst (([]:List Str).map .str)) (us:=ts.filter fun q=>!decide (q.1∈js)) (shut:= []) (names:=names) (sc:=sc) (C:=C) (.inl rfl) (.inl rfl) O.nl O.nd O.hs h0 (fun q hq=>nm q (List.mem_filter.mp hq).1) (fun q hq hc _=>by
  obtain ⟨q1,q2⟩:=List.mem_filter.mp hq
  exact hC q q1 (fun h=>by rw [decide_eq_true h] at q2; cases q2) hc)
 have f2:∀sl,goF cS [.lst ((ts.filter fun q=>!decide (q.1∈js)).map t3), .str sc, .lst []] ⟨sl,S⟩= .ok (.own (.lst (found.map .str))) ⟨sl,S⟩:=f2
 have i9:=cN (neg:=true) (w:=tg) (l:=found)
 rw [decide_eq_false fun h=>ht (f1 tg h)] at i9
 unfold tyR
 simp! only [iW,l1,aj fw,av,l2,k1,k2,lb,it]
 rw [dk (l:=ts) t3 (fun r=> .int r.1) rfl rfl Nl.d1 (hok _) (fun r hr=>?_) (by omega)]
 ·simp! only [aj fw,itv]
  rw [dB (l:=js) D.int D.int (fun _=>false) rfl rfl Nl.d1 av (fun i hi=>?_) (by omega)]
  ·have fe:js.filter (fun _=>false)= []:=by simp
   rw [fe]
   simp! only [List.map_nil,it]
   rw [dB (l:=ts) t3 t3 (fun q=>!decide (q.1∈js)) rfl rfl Nl.d1 (hok _) (fun r hr=>?_) (by omega)]
   ·simp! only [f2,i9]
   ·have i3:=vJ (neg:=true) (i:=r.1) (l:=js)
    unfold Z.fM
    simp! only [i0,aj fw,av,i3]
  ·have i4:=vJ (neg:=true) (i:=i) (l:=ts.map (·.1))
   rw [decide_eq_true (hin i hi),List.map_map] at i4
   have i4:∀s:SD,inK true s (some (.int i)) (some (.lst (ts.map fun r=>D.int r.1)))= .ok (.d (.bl false)) s:=i4
   unfold Z.fM
   simp! only [i4]
 ·unfold Z.fM
  simp! only [i0]
end
end T

set_option maxHeartbeats 4000000
namespace T
open PySem PySem.Spec PyProof.Rows L2 M Z A
open Classical
open Rs (As ta he cz Lift Lifted rsB)
open Ap (Trail asP usP PlOk)
section
variable {s:SD} {S:Sto} {sl:List (Option Vl)} {x y z:D} {n l d k c st p wc vc B:Nat} {sc tg:Str} {names:List Str} {ts us:List (Int×TD)} {q:Int×TD} {w:List Nat} {ws:List (List Nat)} {W:List (List Int)} {wall:List D} {is js:List Int} {rs' :List (Option Int)} {am:Int} {f:Nat→Int}
theorem AM (hr:ie ts) {i j:Nat} (hi:i<ts.length) (hj:j<ts.length) (e:cj ts i=cj ts j):i=j:=by
 have nd:(ts.map (·.1)).Nodup:=hr.imp fun h=>by omega
 unfold cj at e
 rw [List.getD_eq_getElem?_getD,List.getD_eq_getElem?_getD,List.getElem?_eq_getElem (by rw [List.length_map]; exact hi),List.getElem?_eq_getElem (by rw [List.length_map]; exact hj)] at e
 have e:(ts.map (·.1))[i]'(by rw [List.length_map]; exact hi)=(ts.map (·.1))[j]'(by rw [List.length_map]; exact hj):=e
 exact (List.getElem_inj nd).mp e
theorem nv (hr:ie ts) {l:List Nat} (nd:l.Nodup) (h:∀k∈l,k<ts.length):(l.map (cj ts)).Nodup:=
 List.pairwise_map.mpr (nd.imp_of_mem fun {i j} hi hj ne e=>ne (AM hr (h i hi) (h j hj) e))
theorem itW (A:ApAt S B x W wall wc c vc):∀sl:List (Option Vl),tO (.d (.cell wc)) ⟨sl,S⟩= .ok ⟨[.d (.cell wc)],fun s=>s.st.get wc=some (.lst ((List.range W.length).map fun p=> .cell (c+p))),(List.range W.length).map fun p=> .cell (c+p)⟩ ⟨sl,S⟩:=fun sl=>eC (s:=⟨sl,S⟩) A.hw
theorem mA {P:Nat→Bool} {n:Nat}:((List.range n).filter P).length≤n:=by
 have:=List.length_filter_le P (List.range n)
 rw [List.length_range] at this
 exact this
theorem zr {j:Nat} (e:ws[j]? =some w):(ws.take (j+1)).flatten=(ws.take j).flatten++w:=by
 rw [List.take_add_one,e,List.flatten_append]
 show _++([w]:List (List Nat)).flatten=_
 rw [List.flatten_singleton]
theorem Bw {j:Nat}:((ws.take j).flatten).Sublist ws.flatten:=by
 have h:=List.take_append_drop j ws
 have:ws.flatten=(ws.take j).flatten++(ws.drop j).flatten:=by rw [←List.flatten_append,h]
 rw [this]
 exact List.sublist_append_left ..
theorem pI (A:ApAt S B x (ws.map fun w=>w.map (cj ts)) ((Ap.wallT (ao names ts) (cz (ao names ts) rs' false names.length (names.idxOf sc))).map fun k=> .int (cj ts k)) wc c vc) (T0:AnT names ts sc tg rs' am f ws) (O:QOk names ts sc tg) (hr:ie ts) (hy:HandQ S y (ts.map t3)):
  goF dM [x,y, .str sc, .str tg] ⟨sl,S⟩= .ok (.d (.bl true)) ⟨sl,S⟩:=by
 have hs:(5000:Nat)<sizeLine:=by decide
 have tl:=O.tl
 have rl:=bY (names:=names) (ts:=ts)
 have ne:=gz O.hs O.ht O.ne
 have us:∀k∈Ap.usedF f (ao names ts).length,k<(ao names ts).length:=fun k hk=>(Ap.mem_used.mp hk).1
 obtain ⟨w1,w2⟩:=dQ T0.W ne us
 have fl:ws.flatten.length≤ts.length:=oV T0.W.ap fun k hk=>by have:=us k (T0.W.us k hk); omega
 have flt:∀k∈ws.flatten,k<ts.length:=fun k hk=>by have:=us k (T0.W.us k hk); omega
 obtain ⟨U,hU⟩:∃U,U=cz (ao names ts) rs' false names.length (names.idxOf sc):=⟨_,rfl⟩
 have nT:=nv hr T0.W.ap flt
 have wl:∀k∈Ap.wallT (ao names ts) U,k<ts.length:=fun k hk=>by have:=List.mem_range.mp (List.mem_filter.mp hk).1; omega
 have nW:=nv hr (l:=Ap.wallT (ao names ts) U) (List.nodup_range.filter _) wl
 rw [←hU] at A
 have A0:ApAt S B x (ws.map fun w=>w.map (cj ts)) (((Ap.wallT (ao names ts) U).map (cj ts)).map .int) wc c vc:=by rw [List.map_map]; exact A
 refine eW ?_
 show Wp (fH ⟨[some (.d x),some (.d y),some (.d (.str sc)),some (.d (.str tg)),none,none,none,none,none,none],S⟩) _ _
 obtain ⟨GB,hB⟩:∃g,g=tyB:=⟨_,rfl⟩
 obtain ⟨GR,hR⟩:∃g,g=tyR:=⟨_,rfl⟩
 have e0:fH=(af (aA (bV zA0) (zSt 4))
 (af (cC (aU (aG (z1 (aB ["Apart"] "ways") (aa 0)))) (zSt 5) GB)
 GR)):=by rw [hB,hR]; rfl
 have tn:=fun {w is cw} hc hw T1 hz hu=>ty_turn hB (x:=x) (y:=y) (sc:=sc) (tg:=tg) (S:=S) (w:=w) (is:=is) (cw:=cw) O hr hy hc hw T1 hz hu
 have rest:=fun {v5} {C:Str→Prop} h0 ht hC=>ty_rest hR (is:=ws.flatten.map (cj ts)) (js:=(Ap.wallT (ao names ts) U).map (cj ts)) (v5:=v5) (C:=C) (y:=y) (names:=names) (sc:=sc) (tg:=tg) (ts:=ts) A0 O (fun q hq=>(O.pl q hq).2.1) hy nT (by rw [List.length_map]; omega) nW (by rw [List.length_map]; have:=mA (P:=fun k=>U (ta (ao names ts) k)&&!U (he (ao names ts) k)) (n:=(ao names ts).length); unfold Ap.wallT; omega)
  (fun i hi=>by obtain ⟨k,hk,rfl⟩:=List.mem_map.mp hi; have hk:=wl k hk; rw [jJ (List.getElem?_eq_getElem hk)]; exact List.mem_map.mpr ⟨_,List.getElem_mem hk,rfl⟩) h0 ht hC
 rw [e0]
 clear e0 hB hR
 have ax:=A.hx
 have fw:bO ([("ways", .cell wc),("wall", .cell vc)]:List (Str×D)) "ways" =some (.cell wc):=rfl
 have it:=itW A
 subst ax
 simp! only [aj fw,it]
 rw [ae]
 refine kj (fun j s' =>∃v5,s' =tyS (.obj "Apart" [("ways", .cell wc),("wall", .cell vc)]) y sc tg (((ws.take j).flatten).map (cj ts)) v5 S) Nl.d1 (fun _ _ ⟨_,e⟩=>by rw [e]; exact A.hw) ⟨none,rfl⟩ (fun j e s' ed hI=>?_) (fun s' hI=>?_)
 ·obtain ⟨v5,rfl⟩:=hI
  have ed:((List.range (ws.map fun w=>w.map (cj ts)).length).map fun p=>D.cell (c+p))[j]? =some e:=ed
  rw [List.length_map,List.getElem?_map] at ed
  cases ej:(List.range ws.length)[j]? with
  | none=>rw [ej] at ed; cases ed
  | some p=>
   rw [ej] at ed
   cases ed
   have hj:j<ws.length:=by have:=(List.getElem?_eq_some_iff.mp ej).1; simpa using this
   have:p=j:=by rw [List.getElem?_range hj] at ej; exact (Option.some.inj ej).symm
   subst this
   obtain ⟨w,ew⟩:∃w,ws[p]? =some w:=⟨_,List.getElem?_eq_getElem hj⟩
   have wm:=List.mem_of_getElem? ew
   have hc:=A.hc p (w.map (cj ts)) (by rw [List.getElem?_map,ew]; rfl)
   have hl:=(Bw (ws:=ws) (j:=p)).length_le
   have et:=tn (w:=w) (is:=((ws.take p).flatten).map (cj ts)) hc (fun k hk=>by have:=(w2 w wm).2 k hk; omega) (T0.W.tr w wm) (by have:=(w2 w wm).1; omega) (by rw [List.length_map]; omega)
   simp! only [et]
   exact ⟨_,by rw [zr ew,List.map_append]⟩
 ·have hI:∃v5,s' =tyS (.obj "Apart" [("ways", .cell wc),("wall", .cell vc)]) y sc tg (((ws.take ((List.range (ws.map fun w=>w.map (cj ts)).length).map fun p=>D.cell (c+p)).length).flatten).map (cj ts)) v5 S:=hI
  rw [List.length_map,List.length_range,List.length_map,List.take_length] at hI
  obtain ⟨v5,rfl⟩:=hI
  simp! only []
  refine (rest (v5:=v5) (C:=fun z=>U (names.idxOf z)=true) ?_ ?_ ?_).mono (fun fl s' h=>?_) fun _ _ _ h=>h.elim
  ·show U _=true
   rw [hU]; exact T0.D.ss
  ·show¬U _=true
   rw [hU,T0.D.ut]; decide
  ·intro q hq hn hc
   obtain ⟨k,hk,ek⟩:=List.getElem_of_mem hq
   have eq:ts[k]? =some q:=by rw [List.getElem?_eq_getElem hk,ek]
   obtain ⟨th1,th2⟩:=jb (names:=names) eq
   refine Classical.byContradiction fun h2=>hn (List.mem_map.mpr ⟨k,List.mem_filter.mpr ⟨List.mem_range.mpr (by omega), ?_⟩,jJ eq⟩)
   have h2:U (names.idxOf q.2.head)=false:=by simpa using h2
   rw [th1,th2,h2,show U (names.idxOf q.2.tail)=true from hc]
   rfl
  ·obtain ⟨rfl,h2⟩:=h
   exact ⟨rfl,h2⟩
end
section
variable {s:SD} {S:Sto} {sl:List (Option Vl)} {x y z:D} {n l d k c st p wc vc B:Nat} {sc tg:Str} {names shut found is js:List Str} {ts us:List (Int×TD)} {q:Int×TD} {w:List Nat} {ws:List (List Nat)} {W:List (List Int)} {wall:List D} {rs' :List (Option Int)} {am:Int} {f:Nat→Int}
theorem BC (a:D) (l:List D):cutD (a::l) (some 1) (some (-1))=l.dropLast:=by
 unfold Z.cutD HT.sIx
 simp only [List.length_cons]
 cases l with
 | nil=>simp
 | cons b l=>
  have e1:((b::l).length+1:Nat)=l.length+2:=rfl
  simp
  rw [List.dropLast_eq_take]
  congr 1
  simp
  omega
noncomputable def pyB:SD→R Fl:=(af (aA (aD cx [] (zA (aa 6) (zA (aa 1) (zA (aa 3) (zA (aa 4) zA0))))) (zSt 7))
 (af (bJ (zB (z2 (kB false) (aa 7) (zC .non))) (aW (zC (.bl false))) aI)
 (az (zM2 isL (oB2 iJ) (aa 5) (aG (zSl (aa 7) (zPt (zC (.int 1))) (zPt (z1 AD (zC (.int 1))))))))))
noncomputable def pyR:SD→R Fl:=(af (bJ (zOr (zB (z2 oNe (z1 cW (aa 5)) (z1 de (aa 5)))) (zOr (zB (z2 (oIn false) (aa 3) (aa 5))) (zB (z2 (oIn false) (aa 4) (aa 5))))) (aW (zC (.bl false))) aI)
 (af (aA (z1 (aB ["Apart"] "wall") (aa 0)) (zSt 8))
 (af (bJ (zOr (zB (z2 oNe (z1 cW (aa 8)) (z1 de (aa 8)))) (zB (z2 oNe (zLc (aU (aG (aa 8))) (zSt 9) (zB (z2 (oIn true) (aa 9) (aa 2))) (aa 9) [9]) (bV zA0)))) (aW (zC (.bl false))) aI)
 (aW (hV (z2 (oIn true) (aa 3) (aa 8)) (hV (z2 (oIn true) (aa 4) (aa 8)) (z2 (oIn true) (aa 4) (aD cS [] (zA (aa 1) (zA (aa 3) (zA (aa 8) zA0)))))))))))
abbrev pyS (x y nd:D) (sc tg:Str) (used:List Str) (v6 v7:Option Vl) (S:Sto):SD:=
 ⟨[some (.d x),some (.d y),some (.d nd),some (.d (.str sc)),some (.d (.str tg)),some (.own (.lst (used.map .str))),v6,v7,none,none],S⟩
theorem py_turn {G:SD→R Fl} (hG:G=pyB) (O:QOk names ts sc tg) (hr:ie ts) (hy:HandQ S y (ts.map t3)) {cw:Nat} (hc:S.get cw=some (.lst ((w.map (cj ts)).map .int))) (hw:∀k∈w,k<ts.length) (T0:Trail (ta (ao names ts)) (he (ao names ts)) (names.idxOf sc) w (names.idxOf tg)) (hz:w.length≤40) (hu:is.length≤40) {nd:D} {v7:Option Vl}:
  ∃u7,G (pyS x y nd sc tg is (some (.d (.cell cw))) v7 S)= .ok .nx (pyS x y nd sc tg (is++((w.map (he (ao names ts))).dropLast).map (nmA names)) (some (.d (.cell cw))) u7 S):=by
 subst hG
 have hs:(5000:Nat)<sizeLine:=by decide
 have e1:=fun sl=>kG (sl:=sl) (y:= .cell cw) O hr hy (.inr ⟨cw,rfl,hc⟩) hw T0 hz
 have ct:cutD ((plW names (ao names ts) (names.idxOf sc) w).map .str) (some 1) (some (-1))=(((w.map (he (ao names ts))).dropLast).map (nmA names)).map .str:=by
  unfold plW
  rw [List.map_cons,List.map_cons,BC,List.map_dropLast,List.map_dropLast]
 have dl:((w.map (he (ao names ts))).dropLast).length≤40:=by rw [List.length_dropLast,List.length_map]; omega
 have sz:((is.map D.str).length+((((w.map (he (ao names ts))).dropLast).map (nmA names)).map D.str).length≤sizeLine)=True:=eq_true (by rw [List.length_map,List.length_map,List.length_map]; omega)
 have ap:is.map D.str++(((w.map (he (ao names ts))).dropLast).map (nmA names)).map D.str=(is++((w.map (he (ao names ts))).dropLast).map (nmA names)).map D.str:=by rw [List.map_append (f:=D.str)]
 unfold pyB
 simp! only [e1,iX,lg,ct,sz,ap]
 exact ⟨_,rfl⟩
theorem py_rest {G:SD→R Fl} (hG:G=pyR) (A:ApAt S B x W (js.map .str) wc c vc) (O:QOk names ts sc tg) (nm:∀q∈ts,q.2.head∈names) (hy:HandQ S y (ts.map t3)) (nu:is.Nodup) (hu:is.length≤40) (us:sc∉is∧tg∉is) (nj:js.Nodup) (hj:js.length≤40) (hin:∀i∈js,i∈names) (uj:sc∉js∧tg∉js) {C:Str→Prop} (h0:C sc) (ht:¬C tg) (hC:∀q∈ts,C q.2.tail→q.2.head∉js→C q.2.head) {v6 v7:Option Vl}:
  Wp (G (pyS x y (.lst (names.map .str)) sc tg is v6 v7 S)) (fun fl s' =>fl= .rt (.d (.bl true))∧s'.st=S) XF:=by
 subst hG
 have hs:(5000:Nat)<sizeLine:=by decide
 have tl:=O.tl
 have ax:=A.hx
 have av:=A.hv
 subst ax
 have fw:bO ([("ways", .cell wc),("wall", .cell vc)]:List (Str×D)) "wall" =some (.cell vc):=rfl
 have l1:=mm nu (by omega)
 have l2:=mm nj (by omega)
 have k1:(((is.map D.str).length:Nat):Int)=(is.length:Int):=by rw [List.length_map]
 have k2:(((js.map D.str).length:Nat):Int)=(js.length:Int):=by rw [List.length_map]
 have a1:=cN (neg:=false) (w:=sc) (l:=is)
 have a2:=cN (neg:=false) (w:=tg) (l:=is)
 have a3:=cN (neg:=true) (w:=sc) (l:=js)
 have a4:=cN (neg:=true) (w:=tg) (l:=js)
 rw [decide_eq_false us.1] at a1
 rw [decide_eq_false us.2] at a2
 rw [decide_eq_false uj.1] at a3
 rw [decide_eq_false uj.2] at a4
 have itv:∀sl:List (Option Vl),tO (.d (.cell vc)) ⟨sl,S⟩= .ok ⟨[.d (.cell vc)],fun s=>s.st.get vc=some (.lst (js.map .str)),js.map .str⟩ ⟨sl,S⟩:=fun sl=>eC (s:=⟨sl,S⟩) av
 obtain ⟨found,f1,f2⟩:=nI (S:=S) (x:=y) (y:= .cell vc) (us:=ts) (shut:=js) (names:=names) (sc:=sc) (C:=C) hy (.inr ⟨vc,rfl,av⟩) O.nl O.nd O.hs h0 nm hC
 have i9:=cN (neg:=true) (w:=tg) (l:=found)
 rw [decide_eq_false fun h=>ht (f1 tg h)] at i9
 unfold pyR
 simp! only [iW,l1,aj fw,av,l2,k1,k2,lb,a1,a2,itv]
 rw [dB (l:=js) D.str D.str (fun _=>false) rfl rfl Nl.d1 av (fun i hi=>?_) (by omega)]
 ·have fe:js.filter (fun _=>false)= []:=by simp
  rw [fe]
  simp! only [List.map_nil,av,a3,a4,f2,i9]
 ·have i4:=cN (neg:=true) (w:=i) (l:=names)
  rw [decide_eq_true (hin i hi)] at i4
  unfold Z.fM
  simp! only [i4]
theorem nm_inj {i j:Nat} (nd:names.Nodup) (hi:i<names.length) (hj:j<names.length) (e:nmA names i=nmA names j):i=j:=by
 unfold nmA at e
 rw [List.getD_eq_getElem?_getD,List.getD_eq_getElem?_getD,List.getElem?_eq_getElem hi,List.getElem?_eq_getElem hj] at e
 have e:names[i]=names[j]:=e
 exact (List.getElem_inj nd).mp e
theorem nm_mem {i:Nat} (hi:i<names.length):nmA names i∈names:=by
 unfold nmA
 rw [List.getD_eq_getElem?_getD,List.getElem?_eq_getElem hi]
 exact List.getElem_mem hi
theorem vz (nd:names.Nodup) {l:List Nat} (h:l.Nodup) (hl:∀k∈l,k<names.length):(l.map (nmA names)).Nodup:=
 List.pairwise_map.mpr (h.imp_of_mem fun {i j} hi hj ne e=>ne (nm_inj nd (hl i hi) (hl j hj) e))
theorem vy (nd:names.Nodup) {l:List Nat} (hl:∀k∈l,k<names.length) {z:Str} (hz:z∈names) (h:names.idxOf z∉l):z∉l.map (nmA names):=fun hm=>by
 obtain ⟨k,hk,e⟩:=List.mem_map.mp hm
 rw [←ke hz] at e
 have:=nm_inj nd (hl k hk) (List.idxOf_lt_length_of_mem hz) e
 exact h (this ▸ hk)
theorem pK {g:List Nat→List Nat} {j:Nat} (e:ws[j]? =some w):((ws.take (j+1)).map g).flatten=((ws.take j).map g).flatten++g w:=by
 rw [List.take_add_one,e,List.map_append,List.flatten_append]
 show _++([g w]:List (List Nat)).flatten=_
 rw [List.flatten_singleton]
theorem rP {g:List Nat→List Nat} {j:Nat}:(((ws.take j).map g).flatten).Sublist (ws.map g).flatten:=by
 have h:=List.take_append_drop j ws
 have:(ws.map g).flatten=((ws.take j).map g).flatten++((ws.drop j).map g).flatten:=by rw [←List.flatten_append,←List.map_append,h]
 rw [this]
 exact List.sublist_append_left ..
theorem mw (A:ApAt S B x (ws.map fun w=>w.map (cj ts)) ((Ap.wallP names.length (cz (asP names.length (ao names ts)) rs' false (2*names.length) (names.idxOf sc))).map fun p=> .str (names.getD p "")) wc c vc) (T0:AnP names ts sc tg rs' am f ws) (O:QOk names ts sc tg) (hno:(sc,tg)∉ts.map fun q=>(q.2.tail,q.2.head)) (hr:ie ts) (hy:HandQ S y (ts.map t3)):
  goF cE [x,y, .lst (names.map .str), .str sc, .str tg] ⟨sl,S⟩= .ok (.d (.bl true)) ⟨sl,S⟩:=by
 have hs:(5000:Nat)<sizeLine:=by decide
 have tl:=O.tl
 have nl:=O.nl
 have P:=pl_of O hno
 have rl:=bY (names:=names) (ts:=ts)
 have ne:=gz O.hs O.ht O.ne
 have us:∀k∈Ap.usedF (fun j=>f (names.length+j)) (ao names ts).length,k<(ao names ts).length:=fun k hk=>(Ap.mem_used.mp hk).1
 obtain ⟨w1,w2⟩:=dQ T0.W ne us
 obtain ⟨inn,inn2⟩:=T0.W.inner ne fun k j hk hj e h=>P.once T0.D hk hj e h
 have inl:∀p∈(ws.map fun w=>(w.map (he (ao names ts))).dropLast).flatten,p<names.length:=fun p hp=>by
  obtain ⟨v,hv,hp2⟩:=List.mem_flatten.mp hp
  obtain ⟨w,hw,rfl⟩:=List.mem_map.mp hv
  obtain ⟨k,hk,rfl⟩:=List.mem_map.mp (List.dropLast_subset _ hp2)
  exact ((fk O).at ((w2 w hw).2 k hk)).2
 have fl:(ws.map fun w=>(w.map (he (ao names ts))).dropLast).flatten.length≤names.length:=oV inn inl
 obtain ⟨U,hU⟩:∃U,U=cz (asP names.length (ao names ts)) rs' false (2*names.length) (names.idxOf sc):=⟨_,rfl⟩
 have nT:=vz O.nd inn inl
 have wl:∀k∈Ap.wallP names.length U,k<names.length:=fun k hk=>List.mem_range.mp (List.mem_filter.mp hk).1
 have nW:=vz O.nd (l:=Ap.wallP names.length U) (List.nodup_range.filter _) wl
 have wc0:∀k∈Ap.wallP names.length U,k≠names.idxOf sc∧k≠names.idxOf tg:=fun k hk=>by
  obtain ⟨h1,h2⟩:=List.mem_filter.mp hk
  simp only [Bool.and_eq_true,Bool.not_eq_true'] at h2
  rw [hU] at h2
  obtain ⟨q1,q2,_⟩:=P.cross T0.D (List.mem_range.mp h1) h2.1 h2.2
  exact ⟨q1,q2⟩
 rw [←hU] at A
 have A0:ApAt S B x (ws.map fun w=>w.map (cj ts)) (((Ap.wallP names.length U).map (nmA names)).map .str) wc c vc:=by rw [List.map_map]; exact A
 refine eW ?_
 show Wp (eB ⟨[some (.d x),some (.d y),some (.d (.lst (names.map .str))),some (.d (.str sc)),some (.d (.str tg)),none,none,none,none,none],S⟩) _ _
 obtain ⟨GB,hB⟩:∃g,g=pyB:=⟨_,rfl⟩
 obtain ⟨GR,hR⟩:∃g,g=pyR:=⟨_,rfl⟩
 have e0:eB=(af (aA (bV zA0) (zSt 5))
 (af (cC (aU (aG (z1 (aB ["Apart"] "ways") (aa 0)))) (zSt 6) GB)
 GR)):=by rw [hB,hR]; rfl
 have tn:=fun {w is cw v7} hc hw T1 hz hu=>py_turn hB (x:=x) (y:=y) (sc:=sc) (tg:=tg) (S:=S) (w:=w) (is:=is) (cw:=cw) (nd:= .lst (names.map .str)) (v7:=v7) O hr hy hc hw T1 hz hu
 have rest:=fun {v6 v7} {C:Str→Prop} h0 ht hC=>py_rest hR (is:=((ws.map fun w=>(w.map (he (ao names ts))).dropLast).flatten).map (nmA names)) (js:=(Ap.wallP names.length U).map (nmA names)) (v6:=v6) (v7:=v7) (C:=C) (y:=y) (names:=names) (sc:=sc) (tg:=tg) (ts:=ts) A0 O (fun q hq=>(O.pl q hq).2.1) hy nT (by rw [List.length_map]; omega)
  ⟨vy O.nd inl O.hs fun h=>(inn2 _ h).2 rfl,vy O.nd inl O.ht fun h=>(inn2 _ h).1 rfl⟩ nW (by rw [List.length_map]; have:=mA (P:=fun p=>U p&&!U (names.length+p)) (n:=names.length); unfold Ap.wallP; omega)
  (fun i hi=>by obtain ⟨k,hk,rfl⟩:=List.mem_map.mp hi; exact nm_mem (wl k hk)) ⟨vy O.nd wl O.hs fun h=>(wc0 _ h).1 rfl,vy O.nd wl O.ht fun h=>(wc0 _ h).2 rfl⟩ h0 ht hC
 rw [e0]
 clear e0 hB hR
 have ax:=A.hx
 have fw:bO ([("ways", .cell wc),("wall", .cell vc)]:List (Str×D)) "ways" =some (.cell wc):=rfl
 have it:=itW A
 subst ax
 simp! only [aj fw,it]
 rw [ae]
 refine kj (fun j s' =>∃v6 v7,s' =pyS (.obj "Apart" [("ways", .cell wc),("wall", .cell vc)]) y (.lst (names.map .str)) sc tg ((((ws.take j).map fun w=>(w.map (he (ao names ts))).dropLast).flatten).map (nmA names)) v6 v7 S) Nl.d1 (fun _ _ ⟨_,_,e⟩=>by rw [e]; exact A.hw) ⟨none,none,rfl⟩ (fun j e s' ed hI=>?_) (fun s' hI=>?_)
 ·obtain ⟨v6,v7,rfl⟩:=hI
  have ed:((List.range (ws.map fun w=>w.map (cj ts)).length).map fun p=>D.cell (c+p))[j]? =some e:=ed
  rw [List.length_map,List.getElem?_map] at ed
  cases ej:(List.range ws.length)[j]? with
  | none=>rw [ej] at ed; cases ed
  | some p=>
   rw [ej] at ed
   cases ed
   have hj:j<ws.length:=by have:=(List.getElem?_eq_some_iff.mp ej).1; simpa using this
   have:p=j:=by rw [List.getElem?_range hj] at ej; exact (Option.some.inj ej).symm
   subst this
   obtain ⟨w,ew⟩:∃w,ws[p]? =some w:=⟨_,List.getElem?_eq_getElem hj⟩
   have wm:=List.mem_of_getElem? ew
   have hc:=A.hc p (w.map (cj ts)) (by rw [List.getElem?_map,ew]; rfl)
   have hl:=(rP (ws:=ws) (g:=fun w=>(w.map (he (ao names ts))).dropLast) (j:=p)).length_le
   obtain ⟨u7,et⟩:=tn (v7:=v7) (w:=w) (is:=(((ws.take p).map fun w=>(w.map (he (ao names ts))).dropLast).flatten).map (nmA names)) hc (fun k hk=>by have:=(w2 w wm).2 k hk; omega) (T0.W.tr w wm) (by have:=(w2 w wm).1; omega) (by rw [List.length_map]; omega)
   simp! only [et]
   exact ⟨_,_,by rw [pK ew,List.map_append (f:=nmA names)]⟩
 ·have hI:∃v6 v7,s' =pyS (.obj "Apart" [("ways", .cell wc),("wall", .cell vc)]) y (.lst (names.map .str)) sc tg ((((ws.take ((List.range (ws.map fun w=>w.map (cj ts)).length).map fun p=>D.cell (c+p)).length).map fun w=>(w.map (he (ao names ts))).dropLast).flatten).map (nmA names)) v6 v7 S:=hI
  rw [List.length_map,List.length_range,List.length_map,List.take_length] at hI
  obtain ⟨v6,v7,rfl⟩:=hI
  simp! only []
  refine (rest (v6:=v6) (v7:=v7) (C:=fun z=>U (names.length+names.idxOf z)=true∧z≠tg) ?_ ?_ ?_).mono (fun fl s' h=>?_) fun _ _ _ h=>h.elim
  ·exact ⟨by rw [hU]; exact P.first T0.D,O.ne⟩
  ·exact fun h=>h.2 rfl
  ·intro q hq hc hn
   obtain ⟨k,hk,ek⟩:=List.getElem_of_mem hq
   have eq:ts[k]? =some q:=by rw [List.getElem?_eq_getElem hk,ek]
   obtain ⟨th1,th2⟩:=jb (names:=names) eq
   obtain ⟨p1,p2,p3⟩:=O.pl q hq
   have h1:=P.on T0.D (j:=k) (by omega) (by rw [th1,←hU]; exact hc.1)
   rw [th2,←hU] at h1
   refine ⟨Classical.byContradiction fun h2=>hn (List.mem_map.mpr ⟨names.idxOf q.2.head,List.mem_filter.mpr ⟨List.mem_range.mpr (fL p2), ?_⟩,ke p2⟩),fun e=>?_⟩
   ·rw [h1,show U (names.length+names.idxOf q.2.head)=false by simpa using h2]; rfl
   ·rw [e] at h1
    have:=T0.D.ut
    rw [←hU,h1] at this
    cases this
  ·obtain ⟨rfl,h2⟩:=h
   exact ⟨rfl,h2⟩
end
section
variable {s:SD} {S:Sto} {sl:List (Option Vl)} {x y z:D} {l d k c p wc vc B:Nat} {sc tg:Str} {names:List Str} {ts:List (Int×TD)} {ws ws2:List (List Nat)} {W:List (List Int)} {wall:List D} {rs' rs2:List (Option Int)} {am am2:Int} {f f2:Nat→Int}
theorem BN (A:AnT names ts sc tg rs' am f ws) (A2:AnT names ts sc tg rs2 am2 f2 ws2):rs' =rs2∧ws=ws2:=by
 obtain ⟨rfl,_⟩:=A.L.uniq A2.L
 refine ⟨rfl, ?_⟩
 have e:Ap.usedF f (ao names ts).length=Ap.usedF f2 (ao names ts).length:=by
  refine List.filter_congr fun k hk=>?_
  have hk:=List.mem_range.mp hk
  have h1:=A.D.bk k hk
  rw [A2.D.bk k hk] at h1
  rw [Option.some.inj h1]
 have o:=A.o
 rw [e] at o
 exact o.uniq A2.o
theorem BO (A:AnP names ts sc tg rs' am f ws) (A2:AnP names ts sc tg rs2 am2 f2 ws2):rs' =rs2∧ws=ws2:=by
 obtain ⟨rfl,_⟩:=A.L.uniq A2.L
 refine ⟨rfl, ?_⟩
 have e:Ap.usedF (fun j=>f (names.length+j)) (ao names ts).length=Ap.usedF (fun j=>f2 (names.length+j)) (ao names ts).length:=by
  refine List.filter_congr fun k hk=>?_
  have hk:=List.mem_range.mp hk
  have h1:=A.D.bk (names.length+k) (by rw [Ap.asP_len]; omega)
  rw [A2.D.bk (names.length+k) (by rw [Ap.asP_len]; omega)] at h1
  show decide (0<f (names.length+k))=decide (0<f2 (names.length+k))
  rw [Option.some.inj h1]
 have o:=A.o
 rw [e] at o
 exact o.uniq A2.o
def qA (W:List (List Int)) (wall:List D):D:= .tup [.lst (W.map fun l=> .lst (l.map .int)), .lst wall]
theorem uc (A:ApAt S B x W wall wc c vc) (hz:W.length≤1000):goF bS [x] ⟨sl,S⟩= .ok (.d (qA W wall)) ⟨sl,S⟩:=by
 have hs:(5000:Nat)<sizeLine:=by decide
 have ax:=A.hx
 have it:=itW A
 have av:=A.hv
 have aw:=A.hw
 subst ax
 have f1:bO ([("ways", .cell wc),("wall", .cell vc)]:List (Str×D)) "ways" =some (.cell wc):=rfl
 have f2:bO ([("ways", .cell wc),("wall", .cell vc)]:List (Str×D)) "wall" =some (.cell vc):=rfl
 have e0:(List.range W.length).map (fun p=>D.lst ((W.getD p []).map .int))=W.map fun l=> .lst (l.map .int):=by
  refine List.ext_getElem (by simp) fun i h1 h2=>?_
  have hi:i<W.length:=by simpa using h2
  simp [hi]
 refine eW ?_
 show Wp (uR ⟨[some (.d (.obj "Apart" [("ways", .cell wc),("wall", .cell vc)])),none],S⟩) _ _
 unfold uR
 simp! only [aj f1,it]
 rw [dk (l:=List.range W.length) (fun p=>D.cell (c+p)) (fun p=>D.lst ((W.getD p []).map .int)) rfl rfl Nl.d1 aw (fun p hp=>?_) (by rw [List.length_range]; omega)]
 ·simp! only [aj f2,av,e0]
  rfl
 ·have hp:=List.mem_range.mp hp
  have e1:=A.hc p _ (List.getElem?_eq_getElem hp)
  have e2:W.getD p []=W[p]:=by rw [List.getD_eq_getElem?_getD,List.getElem?_eq_getElem hp]; rfl
  unfold Z.fM
  simp! only [e1,e2]
theorem eq_told (h:∀d∈wall,lay d=true∧dep d=0):dEq (qA W wall) (qA W wall)=some true:=by
 have l1:∀l:List Int,lay (.lst (l.map .int))=true∧dep (.lst (l.map .int))≤1:=fun l=>by
  rw [lay,dep]
  refine ⟨ji fun d hd=>?_, ?_⟩
  ·obtain ⟨i,_,rfl⟩:=List.mem_map.mp hd; rfl
  ·have:=jr (k:=0) (ds:=l.map D.int) fun d hd=>by
    obtain ⟨i,_,rfl⟩:=List.mem_map.mp hd; exact Nat.le_refl _
   omega
 have a1:lay (.lst (W.map fun l=>D.lst (l.map .int)))=true∧dep (.lst (W.map fun l=>D.lst (l.map .int)))≤2:=by
  rw [lay,dep]
  refine ⟨ji fun d hd=>?_, ?_⟩
  ·obtain ⟨i,_,rfl⟩:=List.mem_map.mp hd; exact (l1 i).1
  ·have:=jr (k:=1) (ds:=W.map fun l=>D.lst (l.map .int)) fun d hd=>by
    obtain ⟨i,_,rfl⟩:=List.mem_map.mp hd; exact (l1 i).2
   omega
 have a2:lay (.lst wall)=true∧dep (.lst wall)≤1:=by
  rw [lay,dep]
  refine ⟨ji fun d hd=>(h d hd).1, ?_⟩
  have:=jr (k:=0) (ds:=wall) fun d hd=>by rw [(h d hd).2]; exact Nat.le_refl _
  omega
 refine eq_tup (fun d hd=>?_) fun d hd=>?_
 ·rcases List.mem_cons.mp hd with rfl | hd
  ·exact a1.1
  ·rw [List.mem_singleton.mp hd]; exact a2.1
 ·rcases List.mem_cons.mp hd with rfl | hd
  ·have:=a1.2; omega
  ·rw [List.mem_singleton.mp hd]; have:=a2.2; omega
theorem zk (A:ApAt S B x W wall wc c vc) (hl:W.length=wall.length) (e:∀sl,goF dM [x,y, .str sc, .str tg] ⟨sl,S⟩= .ok (.d (.bl true)) ⟨sl,S⟩):goF dN [x, .int 0,y,z, .str sc, .str tg] ⟨sl,S⟩= .ok (.d (.bl true)) ⟨sl,S⟩:=by
 have ax:=A.hx
 have av:=A.hv
 have aw:=A.hw
 subst ax
 have f1:bO ([("ways", .cell wc),("wall", .cell vc)]:List (Str×D)) "ways" =some (.cell wc):=rfl
 have f2:bO ([("ways", .cell wc),("wall", .cell vc)]:List (Str×D)) "wall" =some (.cell vc):=rfl
 have ic:∀s:SD,vx is_Apart false (.d (.obj "Apart" [("ways", .cell wc),("wall", .cell vc)])) s= .ok (.d (.bl true)) s:=fun _=>rfl
 have k1:(((((List.range W.length).map fun p=>D.cell (c+p)).length:Nat):Int)=((wall.length:Nat):Int))=True:=eq_true (by rw [List.length_map,List.length_range,hl])
 refine eW ?_
 show Wp (jA ⟨[some (.d (.obj "Apart" [("ways", .cell wc),("wall", .cell vc)])),some (.d (.int 0)),some (.d y),some (.d z),some (.d (.str sc)),some (.d (.str tg))],S⟩) _ _
 unfold jA
 simp! only [ic,aj f1,aj f2,av,aw,lb,k1,e]
theorem zj (A:ApAt S B x W wall wc c vc) (hl:W.length=wall.length) (e:∀sl,goF cE [x,y,z, .str sc, .str tg] ⟨sl,S⟩= .ok (.d (.bl true)) ⟨sl,S⟩):goF dN [x, .int 1,y,z, .str sc, .str tg] ⟨sl,S⟩= .ok (.d (.bl true)) ⟨sl,S⟩:=by
 have ax:=A.hx
 have av:=A.hv
 have aw:=A.hw
 subst ax
 have f1:bO ([("ways", .cell wc),("wall", .cell vc)]:List (Str×D)) "ways" =some (.cell wc):=rfl
 have f2:bO ([("ways", .cell wc),("wall", .cell vc)]:List (Str×D)) "wall" =some (.cell vc):=rfl
 have ic:∀s:SD,vx is_Apart false (.d (.obj "Apart" [("ways", .cell wc),("wall", .cell vc)])) s= .ok (.d (.bl true)) s:=fun _=>rfl
 have k1:(((((List.range W.length).map fun p=>D.cell (c+p)).length:Nat):Int)=((wall.length:Nat):Int))=True:=eq_true (by rw [List.length_map,List.length_range,hl])
 refine eW ?_
 show Wp (jA ⟨[some (.d (.obj "Apart" [("ways", .cell wc),("wall", .cell vc)])),some (.d (.int 1)),some (.d y),some (.d z),some (.d (.str sc)),some (.d (.str tg))],S⟩) _ _
 unfold jA
 simp! only [ic,aj f1,aj f2,av,aw,lb,k1,e,d10]
end
end T

set_option maxHeartbeats 4000000
namespace T
open PySem PySem.Spec PyProof.Rows L2 M Z A
open Classical
section
variable {s:SD} {S S' :Sto} {x z:D} {n l d k c c' p wc vc B h:Nat} {N:ND} {sc tg:Str} {names:List Str} {W:List (List Int)} {wall:List D} {v4 v5 v6 v7 v8 v9 v10 v11 v12 v13:Option Vl}
abbrev akS (n c:Nat) (names:List Str) (u:Nat) (v4 v5 v6 v7 v8 v9 v10 v11 v12 v13:Option Vl) (S:Sto):SD:=
 ⟨[some (.d (.cell n)),some (.d (.cell c)),some (.d (.lst (names.map .str))),some (.d (.int (u:Int))),v4,v5,v6,v7,v8,v9,v10,v11,v12,v13],S⟩
theorem ak_a {G:SD→R Fl} {Q:Fl→SD→Prop} {u:Nat} (nd:names.Nodup) (h2:2≤names.length) (hz:names.length≤14)
  (hh:∀sc tg,sc∈names→tg∈names→sc≠tg→Wp (G (akS n c names u (some (.d (.int ((u%2:Nat):Int)))) (some (.d (.str sc))) (some (.d (.str tg))) none none none none none none none S)) Q XF):
  Wp (((af (aA (z2 cM (aa 3) (zC (.int 2))) (zSt 4))
 (af (aA (z2 oIx (aa 2) (z2 cM (z2 dy (aa 3) (zC (.int 2))) (z1 de (aa 2)))) (zSt 5))
 (af (aA (z2 oIx (zLc (aU (aG (aa 2))) (zSt 13) (zB (z2 oNe (aa 13) (aa 5))) (aa 13) [13]) (z2 cM (z2 dy (aa 3) (zC (.int 30))) (z2 sq (z1 de (aa 2)) (zC (.int 1))))) (zSt 6))
 G)))) (akS n c names u none none none none none none none none none none S)) Q XF:=by
 have hs:(5000:Nat)<sizeLine:=by decide
 have ll:(((names.map D.str).length:Nat):Int)=(names.length:Int):=by rw [List.length_map]
 have b2:((0:Int)<2)=True:=by decide
 have y2:CDivW (u:Int) 2=True:=eq_true (aF (by decide) (by decide))
 have y30:CDivW (u:Int) 30=True:=eq_true (aF (by decide) (by decide))
 have bn:(0<(names.length:Int))=True:=eq_true (by omega)
 have bn1:(0<(names.length:Int) - 1)=True:=eq_true (by omega)
 obtain ⟨i,hi⟩:∃i,i=u / 2%names.length:=⟨_,rfl⟩
 have il:i<names.length:=by rw [hi]; exact Nat.mod_lt _ (by omega)
 have ei:(u:Int) / 2%(names.length:Int)=(i:Int):=by rw [hi]; rfl
 obtain ⟨sc,es⟩:∃sc,names[i]? =some sc:=⟨_,List.getElem?_eq_getElem il⟩
 have sm:=List.mem_of_getElem? es
 have i1:∀s:SD,ixK s (some (.lst (names.map .str))) (some (.int (i:Int)))= .ok (.d (.str sc)) s:=fun s=>ixL (f:=D.str) es
 -- the others
 have fl:(names.filter fun z=>!decide (z=sc)).length=names.length - 1:=by
  clear hh i1 es ei il hi ll bn bn1 hz h2
  induction names with
  | nil=>cases sm
  | cons a l ih=>
   rw [List.nodup_cons] at nd
   rcases List.mem_cons.mp sm with rfl | sm
   ·rw [List.filter_cons_of_neg (by simp),List.filter_eq_self.mpr fun z hz=>by simp; exact fun e=>nd.1 (e ▸ hz)]
    rfl
   ·have ne:a≠sc:=fun e=>nd.1 (e ▸ sm)
    rw [List.filter_cons_of_pos (by simp [ne]),List.length_cons,ih nd.2 sm,List.length_cons]
    have:=List.length_pos_of_mem sm
    omega
 obtain ⟨j,hj⟩:∃j,j=u / 30%(names.length - 1):=⟨_,rfl⟩
 have jl:j<(names.filter fun z=>!decide (z=sc)).length:=by rw [fl,hj]; exact Nat.mod_lt _ (by omega)
 have ej:(u:Int) / 30%((names.length:Int) - 1)=(j:Int):=by
  rw [hj,show (names.length:Int) - 1=((names.length - 1:Nat):Int) by omega]; rfl
 obtain ⟨tg,et⟩:∃tg,(names.filter fun z=>!decide (z=sc))[j]? =some tg:=⟨_,List.getElem?_eq_getElem jl⟩
 obtain ⟨tm,tn⟩:=List.mem_filter.mp (List.mem_of_getElem? et)
 have tn:tg≠sc:=by simpa using tn
 have i2:∀s:SD,ixK s (some (.lst ((names.filter fun z=>!decide (z=sc)).map .str))) (some (.int (j:Int)))= .ok (.d (.str tg)) s:=fun s=>ixL (f:=D.str) et
 have hh:=hh sc tg sm tm tn.symm
 simp! only [ll,b2,y2,y30,bn,bn1,ei,i1]
 rw [dB (l:=names) D.str D.str (fun z=>!decide (z=sc)) rfl rfl Nl.d1 trivial (fun z hz=>?_) (by omega)]
 ·simp! only [ll,b2,y2,y30,bn,bn1,ej,i2]
  exact hh
 ·have nk:∀s:SD,neK s (some (.str z)) (some (.str sc))= .ok (.d (.bl (!decide (z=sc)))) s:=fun s=>by
   have h:dEq (.str z) (.str sc)=some (decide (z=sc)):=uE
   unfold neK
   simp only [h]
  unfold Z.fM
  simp! only [nk]
structure NW27 (S:Sto) (B n l d:Nat) (N:ND):Prop where
 net:NetAt S n l d N
 good:Good N
 n:B≤n∧n<S.nx
 l:B≤l∧l<S.nx
 d:B≤d∧d<S.nx
theorem copy27 (hG:Good N):NW27 (yL S N) S.nx S.nx (S.nx+3) (S.nx+4) N∧Ext S (yL S N)∧(yL S N).nx=S.nx+5:=by
 refine ⟨⟨⟨?_, ?_, ?_⟩,hG,⟨Nat.le_refl _, ?_⟩,⟨by omega, ?_⟩,⟨by omega, ?_⟩⟩,⟨by show S.nx≤S.nx+5; omega,fun i hi=>?_⟩,rfl⟩
 ·unfold yL; simp
 ·unfold yL; simp
 ·unfold yL; simp [bK]
 ·show S.nx<S.nx+5; omega
 ·show S.nx+3<S.nx+5; omega
 ·show S.nx+4<S.nx+5; omega
 ·unfold yL
  simp [show i≠S.nx by omega,show i≠S.nx+1 by omega,show i≠S.nx+2 by omega,show i≠S.nx+3 by omega,show i≠S.nx+4 by omega]
theorem NW27.ext (W:NW27 S B n l d N) (E:Ext S S'):NW27 S' B n l d N:=
 ⟨W.net.ext E W.n.2 W.l.2 W.d.2,W.good,⟨W.n.1,Nat.lt_of_lt_of_le W.n.2 E.nx⟩,⟨W.l.1,Nat.lt_of_lt_of_le W.l.2 E.nx⟩,⟨W.d.1,Nat.lt_of_lt_of_le W.d.2 E.nx⟩⟩
def Lsts (S:Sto) (is:List Nat) (b:Nat):Prop:=∀i∈is,∃l,S.get i=some (.lst l)∧l.length≤b
noncomputable def zeB:SD→R Fl:=(az (zM2 isL (oB2 aE) (aa 11) (aG (zC (.int 0)))))
theorem ze_turn {G:SD→R Fl} (hG:G=zeB) {u:Nat} {is:List Nat} {i b:Nat} (h:Lsts S is b) (hi:i∈is) (hb:b≤3000):
  ∃l,G (akS n c names u v4 v5 v6 v7 v8 v9 v10 (some (.d (.cell i))) v12 v13 S)= .ok .nx (akS n c names u v4 v5 v6 v7 v8 v9 v10 (some (.d (.cell i))) v12 v13 (S.put i (.lst l)))∧Lsts (S.put i (.lst l)) is (b+1):=by
 subst hG
 have hs:(5000:Nat)<sizeLine:=by decide
 obtain ⟨l,e,hl⟩:=h i hi
 have sz:(l.length<sizeLine)=True:=eq_true (by omega)
 refine ⟨l++ [.int 0], ?_,fun j hj=>?_⟩
 ·unfold zeB
  simp! only [e,sz]
 ·by_cases c:j=i
  ·subst c
   exact ⟨_,Z.Sto.put_same,by rw [List.length_append]; exact Nat.add_le_add_right hl 1⟩
  ·obtain ⟨l2,e2,h2⟩:=h j hj
   exact ⟨l2,(Z.Sto.put_ne c).trans e2,by omega⟩
theorem ze_loop {G H:SD→R Fl} {Q:Fl→SD→Prop} (hG:G=(af (cC (aU (aG (z2 cA (z1 (aB ["Apart"] "ways") (aa 9)) (bV (zA (z1 (aB ["Apart"] "ways") (aa 9)) (zA (z1 (aB ["Apart"] "wall") (aa 9)) zA0)))))) (zSt 11) (az (zM2 isL (oB2 aE) (aa 11) (aG (zC (.int 0))))))
 H)) {u:Nat} (A:ApAt S B x W wall wc c' vc) (hW:W.length≤1000) (hl:∀l∈W,l.length≤1000) (hv:wall.length≤1000) (h9:v9=some (.d x))
  (hh:∀S1 v11,S1.nx=S.nx→(∀i,i<B→S1.get i=S.get i)→Wp (H (akS n c names u v4 v5 v6 v7 v8 v9 v10 v11 v12 v13 S1)) Q XF):
  Wp (G (akS n c names u v4 v5 v6 v7 v8 v9 v10 v11 v12 v13 S)) Q XF:=by
 subst hG
 subst h9
 have hs:(5000:Nat)<sizeLine:=by decide
 obtain ⟨GB,hB⟩:∃g,g=zeB:=⟨_,rfl⟩
 have tn:=fun {S is i b} h hi hb=>ze_turn hB (n:=n) (c:=c) (names:=names) (u:=u) (v4:=v4) (v5:=v5) (v6:=v6) (v7:=v7) (v8:=v8) (v9:=some (.d x)) (v10:=v10) (v12:=v12) (v13:=v13) (S:=S) (is:=is) (i:=i) (b:=b) h hi hb
 have e0:(af (cC (aU (aG (z2 cA (z1 (aB ["Apart"] "ways") (aa 9)) (bV (zA (z1 (aB ["Apart"] "ways") (aa 9)) (zA (z1 (aB ["Apart"] "wall") (aa 9)) zA0)))))) (zSt 11) (az (zM2 isL (oB2 aE) (aa 11) (aG (zC (.int 0))))))
 H)=(af (cC (aU (aG (z2 cA (z1 (aB ["Apart"] "ways") (aa 9)) (bV (zA (z1 (aB ["Apart"] "ways") (aa 9)) (zA (z1 (aB ["Apart"] "wall") (aa 9)) zA0)))))) (zSt 11) GB)
 H):=by rw [hB]; rfl
 rw [e0]
 clear e0 hB
 have ax:=A.hx
 have av:=A.hv
 have aw:=A.hw
 have ab:=A.hb
 subst ax
 have f1:bO ([("ways", .cell wc),("wall", .cell vc)]:List (Str×D)) "ways" =some (.cell wc):=rfl
 have f2:bO ([("ways", .cell wc),("wall", .cell vc)]:List (Str×D)) "wall" =some (.cell vc):=rfl
 obtain ⟨is,his⟩:∃is:List Nat,is=(List.range W.length).map (fun p=>c' +p)++ [wc,vc]:=⟨_,rfl⟩
 have eis:(List.range W.length).map (fun p=>D.cell (c' +p))++ [.cell wc, .cell vc]=is.map .cell:=by rw [his,List.map_append,List.map_map]; rfl
 have isl:is.length≤1002:=by rw [his,List.length_append,List.length_map,List.length_range]; show W.length+2≤_; omega
 have ge:∀i∈is,B≤i:=fun i hi=>by
  rw [his] at hi
  rcases List.mem_append.mp hi with hi | hi
  ·obtain ⟨p,_,rfl⟩:=List.mem_map.mp hi; omega
  ·simp at hi; omega
 have L0:Lsts S is 1000:=fun i hi=>by
  rw [his] at hi
  rcases List.mem_append.mp hi with hi | hi
  ·obtain ⟨p,hp,rfl⟩:=List.mem_map.mp hi
   have hp:=List.mem_range.mp hp
   exact ⟨_,A.hc p _ (List.getElem?_eq_getElem hp),by rw [List.length_map]; exact hl _ (List.getElem_mem hp)⟩
  ·simp at hi
   rcases hi with rfl | rfl
   ·exact ⟨_,aw,by rw [List.length_map,List.length_range]; exact hW⟩
   ·exact ⟨_,av,hv⟩
 have szl:(((List.range W.length).map fun p=>D.cell (c' +p)).length+ [D.cell wc,D.cell vc].length≤sizeLine)=True:=eq_true (by rw [List.length_map,List.length_range]; show W.length+2≤_; omega)
 simp! only [aj f1,aj f2,aw,szl,eis]
 rw [ae]
 refine kj (fun j s' =>∃S1 v11,s' =akS n c names u v4 v5 v6 v7 v8 (some (.d (.obj "Apart" [("ways", .cell wc),("wall", .cell vc)]))) v10 v11 v12 v13 S1∧Lsts S1 is (1000+j)∧S1.nx=S.nx∧∀i,i<B→S1.get i=S.get i) Nl.d1 (fun _ _ _=>trivial) ⟨S,v11,rfl,L0,rfl,fun _ _=>rfl⟩ (fun j e s' ed hI=>?_) (fun s' hI=>?_)
 ·obtain ⟨S1,u11,rfl,L1,n1,f1⟩:=hI
  have ed:(is.map D.cell)[j]? =some e:=ed
  rw [List.getElem?_map] at ed
  cases ei:is[j]? with
  | none=>rw [ei] at ed; cases ed
  | some i=>
   rw [ei] at ed
   cases ed
   have hi:=List.mem_of_getElem? ei
   have hj:=(List.getElem?_eq_some_iff.mp ei).1
   obtain ⟨l,e,L2⟩:=tn L1 hi (by omega)
   simp! only [e]
   exact ⟨_,_,rfl,L2,n1,fun k hk=>(Z.Sto.put_ne (by have:=ge i hi; omega)).trans (f1 k hk)⟩
 ·obtain ⟨S1,u11,rfl,L1,n1,f1⟩:=hI
  simp! only []
  exact hh S1 u11 n1 f1
end
open Rs (As ta he cz Lift Lifted rsB)
section
variable {s:SD} {S S' :Sto} {sl:List (Option Vl)} {n l d k c p B q n' l' d' :Nat} {N N' :ND} {sc tg:Str} {names:List Str} {ts:List (Int×TD)} {W:List (List Int)} {v4 v5 v6 v7 v8 v9 v10 v11 v12 v13:Option Vl} {t:TD} {r:Int×TD}
def Low (S S' :Sto) (B:Nat) (q:Nat):Prop:=S.nx≤S'.nx∧(∀i,i<B→S'.get i=S.get i)∧S'.get q=S.get q
theorem BA {ts:List (Int×TD)} (hr:ie ts) (hq:r∈ts):(jo ts r.1).length+1=ts.length:=by
 obtain ⟨j,hj,e⟩:=List.getElem_of_mem hq
 rw [zU hr (q:=r) (j:=j) (by rw [List.getElem?_eq_getElem hj,e]),List.length_eraseIdx,if_pos hj]
 omega
theorem NW27.drop (W:NW27 S B n l d N):NW27 (S.put d (.dct (bK cT (jo N.ties r.1)))) B n l d ⟨N.names,jo N.ties r.1,N.given⟩:=
 ⟨⟨(Z.Sto.put_ne W.net.ne.2.1).trans W.net.n,(Z.Sto.put_ne W.net.ne.2.2).trans W.net.l,Z.Sto.put_same⟩,W.good.drop,W.n,W.l,W.d⟩
noncomputable def drB:SD→R Fl:=(az (ar "Net" "drop_tie" aC [] (aa 7) (zA (z2 oIx (aa 12) (zC (.int 0))) zA0)))
theorem dr_turn {G:SD→R Fl} (hG:G=drB) {u:Nat} (W:NW27 S B n' l' d' N') (hr:r∈N'.ties) (h7:v7=some (.d (.cell n'))):
  G (akS n c names u v4 v5 v6 v7 v8 v9 v10 v11 (some (.d (t3 r))) v13 S)= .ok .nx (akS n c names u v4 v5 v6 v7 v8 v9 v10 v11 (some (.d (t3 r))) v13 (S.put d' (.dct (bK cT (jo N'.ties r.1))))):=by
 subst hG
 subst h7
 have i0:∀s:SD,ixK s (some (t3 r)) (some (.int 0))= .ok (.d (.int r.1)) s:=fun s=>cf rfl
 have e1:=fun sl=>nF (sl:=sl) W.net (fV W.good.rise hr)
 have o1:=W.net.n
 have mNd:bO (fO l' d' N'.given) "drop_tie" =none:=rfl
 unfold drB
 dsimp! only [i0,o1,ay mNd,e1]
theorem dr_loop {G H:SD→R Fl} {Q:Fl→SD→Prop} (hG:G=(af (cC (aU (aG (zSl (aa 1) (zPt (z2 cM (z2 dy (aa 3) (zC (.int 210))) (zC (.int 2)))) zNo))) (zSt 12) (az (ar "Net" "drop_tie" aC [] (aa 7) (zA (z2 oIx (aa 12) (zC (.int 0))) zA0))))
 H)) {u:Nat} (W:NW27 S B n' l' d' N) (hc:S.get c=some (.lst (N.ties.map t3))) (cB:c<B) (hqB:B≤q) (qd:q≠d') (h7:v7=some (.d (.cell n')))
  (hh:∀S1 N1 v12,NW27 S1 B n' l' d' N1→N1.names=N.names→N1.ties.length≤1→Low S S1 B q→S1.nx=S.nx→Wp (H (akS n c names u v4 v5 v6 v7 v8 v9 v10 v11 v12 v13 S1)) Q XF):
  Wp (G (akS n c names u v4 v5 v6 v7 v8 v9 v10 v11 v12 v13 S)) Q XF:=by
 subst hG
 have hs:(5000:Nat)<sizeLine:=by decide
 obtain ⟨GB,hB⟩:∃g,g=drB:=⟨_,rfl⟩
 have tn:=fun {S N' r} W hr=>dr_turn hB (n:=n) (c:=c) (names:=names) (u:=u) (v4:=v4) (v5:=v5) (v6:=v6) (v7:=v7) (v8:=v8) (v9:=v9) (v10:=v10) (v11:=v11) (v13:=v13) (S:=S) (B:=B) (n' :=n') (l' :=l') (d' :=d') (N' :=N') (r:=r) W hr h7
 have e0:(af (cC (aU (aG (zSl (aa 1) (zPt (z2 cM (z2 dy (aa 3) (zC (.int 210))) (zC (.int 2)))) zNo))) (zSt 12) (az (ar "Net" "drop_tie" aC [] (aa 7) (zA (z2 oIx (aa 12) (zC (.int 0))) zA0))))
 H)=(af (cC (aU (aG (zSl (aa 1) (zPt (z2 cM (z2 dy (aa 3) (zC (.int 210))) (zC (.int 2)))) zNo))) (zSt 12) GB)
 H):=by rw [hB]; rfl
 rw [e0]
 clear e0 hB
 have b2:((0:Int)<2)=True:=by decide
 have y2:CDivW (u:Int) 210=True:=eq_true (aF (by decide) (by decide))
 obtain ⟨i,hi⟩:∃i,i=u / 210%2:=⟨_,rfl⟩
 have i1:i≤1:=by omega
 have ei:(u:Int) / 210%2=(i:Int):=by rw [hi]; rfl
 have tl:=W.good.tl
 have ct:Z.cutD (N.ties.map t3) (some (i:Int)) none=(N.ties.drop i).map t3:=by
  rw [rW _ (by omega),Int.toNat_natCast,List.map_drop]
 simp! only [hc,b2,y2,ei,ct]
 rw [ae]
 have rd:ie (N.ties.drop i):=by
  unfold ie
  rw [List.map_drop]
  exact List.Pairwise.drop W.good.rise
 refine kj (fun j s' =>∃S1 N1 v12,s' =akS n c names u v4 v5 v6 v7 v8 v9 v10 v11 v12 v13 S1∧NW27 S1 B n' l' d' N1∧N1.names=N.names∧N1.ties.length+j≤N.ties.length∧(∀r∈(N.ties.drop i).drop j,r∈N1.ties)∧Low S S1 B q∧S1.nx=S.nx) Nl.d1 (fun _ _ _=>trivial) ⟨S,N,v12,rfl,W,rfl,Nat.le_refl _,fun r hr=>List.drop_subset _ _ hr,⟨Nat.le_refl _,fun _ _=>rfl,rfl⟩,rfl⟩ (fun j e s' ed hI=>?_) (fun s' hI=>?_)
 ·obtain ⟨S1,N1,u12,rfl,W1,nm,ln,hm,lo,nx⟩:=hI
  have ed:((N.ties.drop i).map t3)[j]? =some e:=ed
  rw [List.getElem?_map] at ed
  cases er:(N.ties.drop i)[j]? with
  | none=>rw [er] at ed; cases ed
  | some r=>
   rw [er] at ed
   cases ed
   obtain ⟨hj,er'⟩:=List.getElem?_eq_some_iff.mp er
   have dj:(N.ties.drop i).drop j=r::(N.ties.drop i).drop (j+1):=by rw [←er',←List.drop_eq_getElem_cons hj]
   have hr:r∈N1.ties:=hm r (by rw [dj]; exact List.mem_cons_self ..)
   have e:=tn W1 hr
   have dl:=BA W1.good.rise hr
   have d1:=W1.d.1
   simp! only [e]
   refine ⟨_,_,_,rfl,W1.drop (r:=r),nm,by show (jo N1.ties r.1).length+(j+1)≤_; omega,fun p hp=>?_,⟨lo.1,fun k hk=>(Z.Sto.put_ne (by omega)).trans (lo.2.1 k hk),(Z.Sto.put_ne qd).trans lo.2.2⟩,nx⟩
   have rj:ie ((N.ties.drop i).drop j):=by
    unfold ie
    rw [List.map_drop]
    exact List.Pairwise.drop rd
   unfold ie at rj
   rw [dj,List.map_cons,List.pairwise_cons] at rj
   have:=rj.1 p.1 (List.mem_map.mpr ⟨p,hp,rfl⟩)
   exact List.mem_filter.mpr ⟨hm p (by rw [dj]; exact List.mem_cons_of_mem _ hp),decide_eq_true (show p.1≠r.1 by omega)⟩
 ·have hI:∃S1 N1 v12,s' =akS n c names u v4 v5 v6 v7 v8 v9 v10 v11 v12 v13 S1∧NW27 S1 B n' l' d' N1∧N1.names=N.names∧N1.ties.length+((N.ties.drop i).map t3).length≤N.ties.length∧(∀r∈(N.ties.drop i).drop ((N.ties.drop i).map t3).length,r∈N1.ties)∧Low S S1 B q∧S1.nx=S.nx:=hI
  obtain ⟨S1,N1,u12,rfl,W1,nm,ln,hm,lo,nx⟩:=hI
  rw [List.length_map,List.length_drop] at ln
  simp! only []
  exact hh S1 N1 u12 W1 nm (by omega) lo nx
theorem NW27.put0 (W:NW27 S B n l d N) (h1:sc∈N.names) (h2:tg∈N.names) (h3:sc≠tg) (hl:N.ties.length<40) (hq:q<S.nx) (qd:q≠d) (qn:q≠n):∃S' N',NW27 S' B n l d N'∧N'.names=N.names∧N'.ties.length=N.ties.length+1∧Low S S' B q∧∀sl,goF au [.cell n, .str sc, .str tg, .int 0, .non, .int 0] ⟨sl,S⟩= .ok (.d (.int (N.given+1))) ⟨sl,S'⟩:=by
 have tok:TieOk ⟨sc,tg,0,none,0⟩:=⟨by show (0:Int)≤0; decide,by show (0:Int)≤M60; decide,rfl,by show -M60≤(0:Int); decide,by show (0:Int)≤M60; decide⟩
 have e1:=fun sl=>rM (sl:=sl) (t:=⟨sc,tg,0,none,0⟩) W.net W.n.2 W.d.2 W.l.2 h1 h2 h3 tok hl
 obtain ⟨p1,p2⟩:=oM (t:=⟨sc,tg,0,none,0⟩) W.good.rise fun q hq=>(W.good.ts q hq).1
 have nn:=W.net.ne
 have w1:=W.n
 have w2:=W.l
 have w3:=W.d
 refine ⟨_,⟨N.names,iS N.ties (N.given+1) ⟨sc,tg,0,none,0⟩,N.given+1⟩,⟨⟨Z.Sto.put_same, ?_, ?_⟩,W.good.put tok h1 h2 h3 hl,⟨w1.1,by show n<S.nx+1; omega⟩,⟨w2.1,by show l<S.nx+1; omega⟩,⟨w3.1,by show d<S.nx+1; omega⟩⟩,rfl, ?_,⟨?_,fun i hi=>?_, ?_⟩,e1⟩
 ·rw [Z.Sto.put_ne nn.1.symm,Z.Sto.put_ne nn.2.2,cF (by omega)]; exact W.net.l
 ·rw [Z.Sto.put_ne nn.2.1.symm,Z.Sto.put_same]
 ·show (iS _ _ _).length=_
  rw [p1,List.length_append]; rfl
 ·show S.nx≤S.nx+1; omega
 ·rw [Z.Sto.put_ne (by omega),Z.Sto.put_ne (by omega),cF (by omega)]
 ·rw [Z.Sto.put_ne qn,Z.Sto.put_ne qd,cF (by omega)]
theorem Low.trans {S2:Sto} (a:Low S S' B q) (b:Low S' S2 B q):Low S S2 B q:=⟨Nat.le_trans a.1 b.1,fun i hi=>(b.2.1 i hi).trans (a.2.1 i hi),b.2.2.trans a.2.2⟩
theorem pu_both {G H:SD→R Fl} {Q:Fl→SD→Prop} (hG:G=(af (az (ar "Net" "put_tie" au [.int 0, .non, .int 0] (aa 7) (zA (aa 5) (zA (aa 6) zA0))))
 (af (az (ar "Net" "put_tie" au [.int 0, .non, .int 0] (aa 7) (zA (aa 6) (zA (aa 5) zA0))))
 H))) {u:Nat} (W:NW27 S B n' l' d' N) (h1:sc∈N.names) (h2:tg∈N.names) (h3:sc≠tg) (hl:N.ties.length≤1) (hq:q<S.nx) (qd:q≠d') (qn:q≠n')
  (hh:∀S1,Low S S1 B q→Wp (H (akS n c names u v4 (some (.d (.str sc))) (some (.d (.str tg))) (some (.d (.cell n'))) v8 v9 v10 v11 v12 v13 S1)) Q XF):
  Wp (G (akS n c names u v4 (some (.d (.str sc))) (some (.d (.str tg))) (some (.d (.cell n'))) v8 v9 v10 v11 v12 v13 S)) Q XF:=by
 subst hG
 obtain ⟨S1,N1,W1,nm1,l1,lo1,e1⟩:=W.put0 (q:=q) h1 h2 h3 (by omega) hq qd qn
 obtain ⟨S2,N2,W2,nm2,l2,lo2,e2⟩:=W1.put0 (q:=q) (sc:=tg) (tg:=sc) (by rw [nm1]; exact h2) (by rw [nm1]; exact h1) h3.symm (by omega) (Nat.lt_of_lt_of_le hq lo1.1) qd qn
 have o1:=W.net.n
 have o2:=W1.net.n
 have mNp:∀g,bO (fO l' d' g) "put_tie" =none:=fun _=>rfl
 simp! only [o1,o2,ay (mNp _),e1,e2]
 exact hh S2 (lo1.trans lo2)
end
open Ap (asP usP PlOk)
section
variable {s:SD} {S S' :Sto} {sl:List (Option Vl)} {x:D} {n l d k c c' st wc vc B q n' l' d' :Nat} {N:ND} {sc tg:Str} {names:List Str} {ts:List (Int×TD)} {W:List (List Int)} {wall:List D} {v4 v5 v6 v7 v9 v10 v11 v12 v13:Option Vl} {F:List (Str×D)} {u:Nat}
theorem vv {C:Str} {fa:SD→R Vl} {i:Nat} {k:Str} (h1:fa s= .ok (.d (.cell i)) s) (h2:s.st.get i=some (.obj k F)):ofC C fa s=decide (k=C):=by
 unfold ofC
 rw [h1]
 show (match s.cont (.d (.cell i)) with | some (.obj k _)=>decide (k=C) | _=>false)=_
 rw [show s.cont (.d (.cell i))=some (.obj k F) from h2]
theorem al_ties (hq:S.get q=some (.obj "TiesApart" (quF names ts sc tg))) (e:∀sl,goF ak [.cell q] ⟨sl,S⟩= .ok (.d x) ⟨sl,S'⟩) {nm2:List Str}:
  mV "TiesApart" (aa 8) (ar "TiesApart" "answer" ak [] (aa 8) zA0) (ar "PlacesApart" "answer" ah [] (aa 8) zA0) (akS n c nm2 u v4 v5 v6 v7 (some (.d (.cell q))) v9 v10 v11 v12 v13 S)= .ok (.d x) (akS n c nm2 u v4 v5 v6 v7 (some (.d (.cell q))) v9 v10 v11 v12 v13 S'):=by
 have m0:bO (quF names ts sc tg) "answer" =none:=rfl
 have oc:ofC "TiesApart" (aa 8) (akS n c nm2 u v4 v5 v6 v7 (some (.d (.cell q))) v9 v10 v11 v12 v13 S)=true:=(vv (fa:=aa 8) rfl hq).trans (decide_eq_true rfl)
 rw [e_alt,if_pos oc]
 simp! only [hq,ay m0,e]
theorem Av (hq:S.get q=some (.obj "PlacesApart" (quF names ts sc tg))) (e:∀sl,goF ah [.cell q] ⟨sl,S⟩= .ok (.d x) ⟨sl,S'⟩) {nm2:List Str}:
  mV "TiesApart" (aa 8) (ar "TiesApart" "answer" ak [] (aa 8) zA0) (ar "PlacesApart" "answer" ah [] (aa 8) zA0) (akS n c nm2 u v4 v5 v6 v7 (some (.d (.cell q))) v9 v10 v11 v12 v13 S)= .ok (.d x) (akS n c nm2 u v4 v5 v6 v7 (some (.d (.cell q))) v9 v10 v11 v12 v13 S'):=by
 have m0:bO (quF names ts sc tg) "answer" =none:=rfl
 have dn:decide ((Str.ofString "PlacesApart")=(Str.ofString "TiesApart"))=false:=by decide+kernel
 have oc:ofC "TiesApart" (aa 8) (akS n c nm2 u v4 v5 v6 v7 (some (.d (.cell q))) v9 v10 v11 v12 v13 S)=false:=(vv (fa:=aa 8) rfl hq).trans dn
 rw [e_alt,if_neg (by rw [oc]; decide)]
 simp! only [hq,ay m0,e]
def Again (q:Nat) (o:D) (n c:Nat) (names:List Str) (u:Nat) (W:List (List Int)) (wall:List D):Prop:=∀S:Sto,S.get q=some o→q<S.nx→∃x S' wc c' vc,ApAt S' S.nx x W wall wc c' vc∧Ext S S'∧∀v4 v5 v6 v7 v9 v10 v11 v12 v13,
 mV "TiesApart" (aa 8) (ar "TiesApart" "answer" ak [] (aa 8) zA0) (ar "PlacesApart" "answer" ah [] (aa 8) zA0) (akS n c names u v4 v5 v6 v7 (some (.d (.cell q))) v9 v10 v11 v12 v13 S)= .ok (.d x) (akS n c names u v4 v5 v6 v7 (some (.d (.cell q))) v9 v10 v11 v12 v13 S')
theorem ak_end {G:SD→R Fl} (hG:G=(af (cC (aU (aG (z2 cA (z1 (aB ["Apart"] "ways") (aa 9)) (bV (zA (z1 (aB ["Apart"] "ways") (aa 9)) (zA (z1 (aB ["Apart"] "wall") (aa 9)) zA0)))))) (zSt 11) (az (zM2 isL (oB2 aE) (aa 11) (aG (zC (.int 0))))))
 (af (cC (aU (aG (zSl (aa 1) (zPt (z2 cM (z2 dy (aa 3) (zC (.int 210))) (zC (.int 2)))) zNo))) (zSt 12) (az (ar "Net" "drop_tie" aC [] (aa 7) (zA (z2 oIx (aa 12) (zC (.int 0))) zA0))))
 (af (az (ar "Net" "put_tie" au [.int 0, .non, .int 0] (aa 7) (zA (aa 5) (zA (aa 6) zA0))))
 (af (az (ar "Net" "put_tie" au [.int 0, .non, .int 0] (aa 7) (zA (aa 6) (zA (aa 5) zA0))))
 (aW (z2 oEq (aD bS [] (zA (mV "TiesApart" (aa 8) (ar "TiesApart" "answer" ak [] (aa 8) zA0) (ar "PlacesApart" "answer" ah [] (aa 8) zA0)) zA0)) (aa 10)))))))) {o:D} (Ag:Again q o n c names u W wall) (A:ApAt S B x W wall wc c' vc) (hW:W.length≤1000) (hl:∀l∈W,l.length≤1000) (hv:wall.length≤1000) (hlay:∀d∈wall,lay d=true∧dep d=0)
  (NW:NW27 S k n' l' d' N) (nB:n' <B∧l' <B∧d' <B) (qB:q<B) (hq:S.get q=some o) (qk:k≤q) (qn:q≠n') (qd:q≠d') (hc:S.get c=some (.lst (N.ties.map t3))) (ck:c<k) (h1:sc∈N.names) (h2:tg∈N.names) (h3:sc≠tg):
  Wp (G (akS n c names u v4 (some (.d (.str sc))) (some (.d (.str tg))) (some (.d (.cell n'))) (some (.d (.cell q))) (some (.d x)) (some (.d (qA W wall))) none none none S)) (fun fl s' =>flv fl=some (.d (.bl true))∧s'.st.nx≥S.nx∧∀i,i<k→s'.st.get i=S.get i) XF:=by
 subst hG
 obtain ⟨G14,e14⟩:∃g,g=(aW (z2 oEq (aD bS [] (zA (mV "TiesApart" (aa 8) (ar "TiesApart" "answer" ak [] (aa 8) zA0) (ar "PlacesApart" "answer" ah [] (aa 8) zA0)) zA0)) (aa 10))):=⟨_,rfl⟩
 obtain ⟨G12,e12⟩:∃g,g=(af (az (ar "Net" "put_tie" au [.int 0, .non, .int 0] (aa 7) (zA (aa 5) (zA (aa 6) zA0))))
 (af (az (ar "Net" "put_tie" au [.int 0, .non, .int 0] (aa 7) (zA (aa 6) (zA (aa 5) zA0))))
 G14)):=⟨_,rfl⟩
 obtain ⟨G11,e11⟩:∃g,g=(af (cC (aU (aG (zSl (aa 1) (zPt (z2 cM (z2 dy (aa 3) (zC (.int 210))) (zC (.int 2)))) zNo))) (zSt 12) (az (ar "Net" "drop_tie" aC [] (aa 7) (zA (z2 oIx (aa 12) (zC (.int 0))) zA0))))
 G12):=⟨_,rfl⟩
 obtain ⟨G10,e10⟩:∃g,g=(af (cC (aU (aG (z2 cA (z1 (aB ["Apart"] "ways") (aa 9)) (bV (zA (z1 (aB ["Apart"] "ways") (aa 9)) (zA (z1 (aB ["Apart"] "wall") (aa 9)) zA0)))))) (zSt 11) (az (zM2 isL (oB2 aE) (aa 11) (aG (zC (.int 0))))))
 G11):=⟨_,rfl⟩
 have e0:(af (cC (aU (aG (z2 cA (z1 (aB ["Apart"] "ways") (aa 9)) (bV (zA (z1 (aB ["Apart"] "ways") (aa 9)) (zA (z1 (aB ["Apart"] "wall") (aa 9)) zA0)))))) (zSt 11) (az (zM2 isL (oB2 aE) (aa 11) (aG (zC (.int 0))))))
 (af (cC (aU (aG (zSl (aa 1) (zPt (z2 cM (z2 dy (aa 3) (zC (.int 210))) (zC (.int 2)))) zNo))) (zSt 12) (az (ar "Net" "drop_tie" aC [] (aa 7) (zA (z2 oIx (aa 12) (zC (.int 0))) zA0))))
 (af (az (ar "Net" "put_tie" au [.int 0, .non, .int 0] (aa 7) (zA (aa 5) (zA (aa 6) zA0))))
 (af (az (ar "Net" "put_tie" au [.int 0, .non, .int 0] (aa 7) (zA (aa 6) (zA (aa 5) zA0))))
 (aW (z2 oEq (aD bS [] (zA (mV "TiesApart" (aa 8) (ar "TiesApart" "answer" ak [] (aa 8) zA0) (ar "PlacesApart" "answer" ah [] (aa 8) zA0)) zA0)) (aa 10)))))))=G10:=by rw [e10,e11,e12,e14]
 rw [e0]
 clear e0
 have ab:=A.hb
 refine ze_loop e10 A hW hl hv rfl fun S1 u11 nx1 lo1=>?_
 have NW1:NW27 S1 k n' l' d' N:=⟨⟨(lo1 _ nB.1).trans NW.net.n,(lo1 _ nB.2.1).trans NW.net.l,(lo1 _ nB.2.2).trans NW.net.d⟩,NW.good,⟨NW.n.1,by omega⟩,⟨NW.l.1,by omega⟩,⟨NW.d.1,by omega⟩⟩
 refine dr_loop e11 NW1 ((lo1 _ (by omega)).trans hc) ck qk qd rfl fun S2 N2 u12 NW2 nm2 l2 lo2 nx2=>?_
 have q2:S2.get q=some o:=lo2.2.2.trans ((lo1 _ qB).trans hq)
 refine pu_both e12 NW2 (by rw [nm2]; exact h1) (by rw [nm2]; exact h2) h3 l2 (q:=q) (by omega) qd qn fun S3 lo3=>?_
 have q3:S3.get q=some o:=lo3.2.2.trans q2
 have nx3:=lo3.1
 obtain ⟨x2,S4,wc2,c2,vc2,A2,E4,al⟩:=Ag S3 q3 (by omega)
 have tl:=fun sl=>uc (sl:=sl) A2 hW
 have eq:∀s:SD,eqK s (some (qA W wall)) (some (qA W wall))= .ok (.d (.bl true)) s:=fun s=>vX (eq_told hlay)
 have ct:∀s:SD,s.cont (.d (qA W wall))=some (qA W wall):=fun _=>rfl
 rw [e14]
 simp! only [al,tl,ct,eq]
 refine ⟨by have:=E4.nx; omega,fun i hi=>(E4.get i (by omega)).trans ((lo3.2.1 i hi).trans ((lo2.2.1 i hi).trans (lo1 i (by omega))))⟩
end
section
variable {s:SD} {S S' :Sto} {sl:List (Option Vl)} {x z:D} {n l d k c c' st p wc vc h q:Nat} {N:ND} {sc tg:Str} {names nm2:List Str} {ts us:List (Int×TD)} {W:List (List Int)} {wall:List D} {r:Int×TD} {F:List (Str×D)} {u:Nat} {rs' :List (Option Int)} {am:Int} {f:Nat→Int} {ws:List (List Nat)}
theorem wR (T0:AnT names ts sc tg rs' am f ws) (O:QOk names ts sc tg):Again q (.obj "TiesApart" (quF names ts sc tg)) n c nm2 u (ws.map fun w=>w.map (cj ts)) ((Ap.wallT (ao names ts) (cz (ao names ts) rs' false names.length (names.idxOf sc))).map fun k=> .int (cj ts k)):=fun S hq hl=>by
 obtain ⟨rs2,am2,f2,ws2,x,S',w,c,v,A,P,E,e⟩:=nG hq hl O
 obtain ⟨rfl,rfl⟩:=BN T0 A
 exact ⟨x,S',w,c,v,P,E,fun _ _ _ _ _ _ _ _ _=>al_ties hq e⟩
theorem si (T0:AnP names ts sc tg rs' am f ws) (O:QOk names ts sc tg) (hno:(sc,tg)∉ts.map fun q=>(q.2.tail,q.2.head)):Again q (.obj "PlacesApart" (quF names ts sc tg)) n c nm2 u (ws.map fun w=>w.map (cj ts)) ((Ap.wallP names.length (cz (asP names.length (ao names ts)) rs' false (2*names.length) (names.idxOf sc))).map fun p=> .str (names.getD p "")):=fun S hq hl=>by
 obtain ⟨rs2,am2,f2,ws2,x,S',w,c,v,A,P,E,e⟩:=kF hq hl O hno
 obtain ⟨rfl,rfl⟩:=BO T0 A
 exact ⟨x,S',w,c,v,P,E,fun _ _ _ _ _ _ _ _ _=>Av hq e⟩
theorem qok (hG:Good N) (h1:sc∈N.names) (h2:tg∈N.names) (h3:sc≠tg):QOk N.names N.ties sc tg:=⟨hG.nd,hG.nl,hG.tl,fun q hq=>hG.pl q hq,h1,h2,h3⟩
theorem isQ {k:Str} {sl:List (Option Vl)} (hq:S.get q=some (.obj k F)) (hk:is_Question k=some true):vx is_Question false (.d (.cell q)) ⟨sl,S⟩= .ok (.d (.bl true)) ⟨sl,S⟩:=by
 have e:SD.cont ⟨sl,S⟩ (.d (.cell q))=some (.obj k F):=hq
 unfold vx
 rw [e]
 show (match is_Question k with | some b=>_ | none=>_)=_
 rw [hk]
theorem d01:decide ((0:Int)=1)=false:=by decide
theorem d11:decide ((1:Int)=1)=true:=by decide
theorem ak_way0 {G:SD→R Fl} (hG:G=(af (aA (ar "Net" "copied" bB [] (aa 0) zA0) (zSt 7))
 (af (aA (aD aJ [] (zA (aa 7) (zA (aa 4) (zA (aa 5) (zA (aa 6) zA0))))) (zSt 8))
 (af (bJ (iU (zB (z2 oEq (aa 4) (zC (.int 1)))) (zB (z2 (wA false) (hX (zA (aa 5) (zA (aa 6) zA0))) (zLc (aU (aG (aa 1))) (zSt 12) bP (zSl (aa 12) (zPt (zC (.int 1))) zNo) [12])))) (aW (z2 yH (aa 8) (zC (.bl true)))) aI)
 (af (bJ (fN (zB (z1 (vx is_Question false) (aa 8)))) (aW (zC (.bl false))) aI)
 (af (aA (mV "TiesApart" (aa 8) (ar "TiesApart" "answer" ak [] (aa 8) zA0) (ar "PlacesApart" "answer" ah [] (aa 8) zA0)) (zSt 9))
 (af (bJ (fN (zB (aD dN [] (zA (aa 9) (zA (aa 4) (zA (aa 1) (zA (aa 2) (zA (aa 5) (zA (aa 6) zA0))))))))) (aW (zC (.bl false))) aI)
 (af (aA (aD bS [] (zA (aa 9) zA0)) (zSt 10))
 (af (cC (aU (aG (z2 cA (z1 (aB ["Apart"] "ways") (aa 9)) (bV (zA (z1 (aB ["Apart"] "ways") (aa 9)) (zA (z1 (aB ["Apart"] "wall") (aa 9)) zA0)))))) (zSt 11) (az (zM2 isL (oB2 aE) (aa 11) (aG (zC (.int 0))))))
 (af (cC (aU (aG (zSl (aa 1) (zPt (z2 cM (z2 dy (aa 3) (zC (.int 210))) (zC (.int 2)))) zNo))) (zSt 12) (az (ar "Net" "drop_tie" aC [] (aa 7) (zA (z2 oIx (aa 12) (zC (.int 0))) zA0))))
 (af (az (ar "Net" "put_tie" au [.int 0, .non, .int 0] (aa 7) (zA (aa 5) (zA (aa 6) zA0))))
 (af (az (ar "Net" "put_tie" au [.int 0, .non, .int 0] (aa 7) (zA (aa 6) (zA (aa 5) zA0))))
 (aW (z2 oEq (aD bS [] (zA (mV "TiesApart" (aa 8) (ar "TiesApart" "answer" ak [] (aa 8) zA0) (ar "PlacesApart" "answer" ah [] (aa 8) zA0)) zA0)) (aa 10))))))))))))))) (W:WN S n l d c N) (h1:sc∈N.names) (h2:tg∈N.names) (h3:sc≠tg):
  Wp (G (akS n c N.names u (some (.d (.int 0))) (some (.d (.str sc))) (some (.d (.str tg))) none none none none none none none S)) (fun fl s' =>flv fl=some (.d (.bl true))∧Ext S s'.st) XF:=by
 obtain ⟨G10,e10⟩:∃g,g=(af (cC (aU (aG (z2 cA (z1 (aB ["Apart"] "ways") (aa 9)) (bV (zA (z1 (aB ["Apart"] "ways") (aa 9)) (zA (z1 (aB ["Apart"] "wall") (aa 9)) zA0)))))) (zSt 11) (az (zM2 isL (oB2 aE) (aa 11) (aG (zC (.int 0))))))
 (af (cC (aU (aG (zSl (aa 1) (zPt (z2 cM (z2 dy (aa 3) (zC (.int 210))) (zC (.int 2)))) zNo))) (zSt 12) (az (ar "Net" "drop_tie" aC [] (aa 7) (zA (z2 oIx (aa 12) (zC (.int 0))) zA0))))
 (af (az (ar "Net" "put_tie" au [.int 0, .non, .int 0] (aa 7) (zA (aa 5) (zA (aa 6) zA0))))
 (af (az (ar "Net" "put_tie" au [.int 0, .non, .int 0] (aa 7) (zA (aa 6) (zA (aa 5) zA0))))
 (aW (z2 oEq (aD bS [] (zA (mV "TiesApart" (aa 8) (ar "TiesApart" "answer" ak [] (aa 8) zA0) (ar "PlacesApart" "answer" ah [] (aa 8) zA0)) zA0)) (aa 10))))))):=⟨_,rfl⟩
 have e0:G=(af (aA (ar "Net" "copied" bB [] (aa 0) zA0) (zSt 7))
 (af (aA (aD aJ [] (zA (aa 7) (zA (aa 4) (zA (aa 5) (zA (aa 6) zA0))))) (zSt 8))
 (af (bJ (iU (zB (z2 oEq (aa 4) (zC (.int 1)))) (zB (z2 (wA false) (hX (zA (aa 5) (zA (aa 6) zA0))) (zLc (aU (aG (aa 1))) (zSt 12) bP (zSl (aa 12) (zPt (zC (.int 1))) zNo) [12])))) (aW (z2 yH (aa 8) (zC (.bl true)))) aI)
 (af (bJ (fN (zB (z1 (vx is_Question false) (aa 8)))) (aW (zC (.bl false))) aI)
 (af (aA (mV "TiesApart" (aa 8) (ar "TiesApart" "answer" ak [] (aa 8) zA0) (ar "PlacesApart" "answer" ah [] (aa 8) zA0)) (zSt 9))
 (af (bJ (fN (zB (aD dN [] (zA (aa 9) (zA (aa 4) (zA (aa 1) (zA (aa 2) (zA (aa 5) (zA (aa 6) zA0))))))))) (aW (zC (.bl false))) aI)
 (af (aA (aD bS [] (zA (aa 9) zA0)) (zSt 10))
 G10))))))):=by rw [hG,e10]
 rw [e0]
 clear e0 hG
 have O:=qok W.good h1 h2 h3
 have kc:=fun sl=>vN (sl:=sl) W.net W.b1 W.b2 W.b3
 obtain ⟨NW,E1,n1⟩:=copy27 (S:=S) W.good
 generalize yL S N=S1 at kc NW E1 n1
 have e2:=fun sl=>ud (sl:=sl) NW.net W.good h1 h2 h3 NW.n.2 NW.l.2 NW.d.2
 obtain ⟨S2,hS2⟩:∃S2,S2=S1.new (.obj "TiesApart" (quF N.names N.ties sc tg)):=⟨_,rfl⟩
 rw [←hS2] at e2
 have E2:Ext S1 S2:=by rw [hS2]; exact Ext.new
 have n2:S2.nx=S1.nx+1:=by rw [hS2]; rfl
 have q2:S2.get S1.nx=some (.obj "TiesApart" (quF N.names N.ties sc tg)):=by rw [hS2]; exact bH
 obtain ⟨rs',am,f,ws,_,_,_,_,_,T0,_⟩:=nG q2 (by omega) O
 have Ag:=wR (q:=S1.nx) (n:=n) (c:=c) (nm2:=N.names) (u:=u) T0 O
 obtain ⟨x,S3,wc,c',vc,A,E3,al⟩:=Ag S2 q2 (by omega)
 have W3:=W.ext ((E1.trans E2).trans E3)
 have wl:=Ap.ties_wall T0.D fun k hk=>vj hk
 have us:∀k∈Ap.usedF f (ao N.names N.ties).length,k<(ao N.names N.ties).length:=fun k hk=>(Ap.mem_used.mp hk).1
 obtain ⟨w1,w2⟩:=dQ T0.W (gz h1 h2 h3) us
 have rl:=bY (names:=N.names) (ts:=N.ties)
 have tl:=W.good.tl
 have wn:=T0.n
 have hl:(ws.map fun w=>w.map (cj N.ties)).length=((Ap.wallT (ao N.names N.ties) (cz (ao N.names N.ties) rs' false N.names.length (N.names.idxOf sc))).map fun k=>D.int (cj N.ties k)).length:=by rw [List.length_map,List.length_map]; omega
 have l1:(ws.map fun w=>w.map (cj N.ties)).length≤1000:=by rw [List.length_map]; omega
 have er:=fun sl=>zk (sl:=sl) (z:= .lst (N.names.map .str)) A hl fun sl=>pI (sl:=sl) A T0 O W.good.rise (.inr ⟨c,rfl,W3.rows⟩)
 have et:=fun sl=>uc (sl:=sl) A l1
 have ic:=fun sl=>isQ (sl:=sl) q2 rfl
 have o1:=W.net.n
 have mNc:bO (fO l d N.given) "copied" =none:=rfl
 simp! only [o1,ay mNc,kc,e2,d01,ic,al,er,et]
 refine (ak_end (k:=S.nx) e10 Ag A l1 (fun l hl=>?_) (by rw [←hl]; exact l1) (fun d hd=>?_) (NW.ext (E2.trans E3)) ⟨by omega,by omega,by omega⟩ (by omega) ((E3.get _ (by omega)).trans q2) (by omega) (by omega) (by omega) W3.rows W.b4 h1 h2 h3).mono (fun fl s' h=>?_) fun _ _ _ h=>h
 ·obtain ⟨w,hw,rfl⟩:=List.mem_map.mp hl
  rw [List.length_map]
  have:=(w2 w hw).1
  omega
 ·obtain ⟨k,_,rfl⟩:=List.mem_map.mp hd
  exact ⟨rfl,rfl⟩
 ·have E4:=(E1.trans E2).trans E3
  exact ⟨h.1,⟨by have:=E4.nx; omega,fun i hi=>(h.2.2 i hi).trans (E4.get i hi)⟩⟩
theorem pr_rows (hG:Good N) (h1:sc∈N.names) (h2:tg∈N.names):∀s:SD,Bn false s (some (.tup [.str sc, .str tg])) (some (.lst (N.ties.map fun q=>D.tup [.str q.2.tail, .str q.2.head])))= .ok (.d (.bl (decide ((sc,tg)∈prs N.ties)))) s:=by
 have ip:=vI (neg:=false) (p:=(sc,tg)) (ps:=prs N.ties) ⟨(hG.nm _ h1).1,(hG.nm _ h2).1⟩ fun q hq=>by
  obtain ⟨r,hr,rfl⟩:=List.mem_map.mp hq
  exact ⟨(hG.tn r hr).1.1,(hG.tn r hr).2.1⟩
 rw [List.map_map] at ip
 exact ip
theorem cut_t3 (r:Int×TD):∀s:SD,slK s (some 1) none (some (t3 r))= .ok (.d (.tup [.str r.2.tail, .str r.2.head])) s:=fun s=>by
 have e:Z.cutD [.int r.1, .str r.2.tail, .str r.2.head] (some 1) none= [.str r.2.tail, .str r.2.head]:=by
  rw [rW _ (by omega)]
  rfl
 show (if¬(HT.sIx 3 0 (some 1)=0∧HT.sIx 3 3 none=3) then R.ok (Vl.d (.tup (Z.cutD [.int r.1, .str r.2.tail, .str r.2.head] (some 1) none))) s else .bad)=_
 rw [if_pos (by decide),e]
theorem ak_way1 {G:SD→R Fl} (hG:G=(af (aA (ar "Net" "copied" bB [] (aa 0) zA0) (zSt 7))
 (af (aA (aD aJ [] (zA (aa 7) (zA (aa 4) (zA (aa 5) (zA (aa 6) zA0))))) (zSt 8))
 (af (bJ (iU (zB (z2 oEq (aa 4) (zC (.int 1)))) (zB (z2 (wA false) (hX (zA (aa 5) (zA (aa 6) zA0))) (zLc (aU (aG (aa 1))) (zSt 12) bP (zSl (aa 12) (zPt (zC (.int 1))) zNo) [12])))) (aW (z2 yH (aa 8) (zC (.bl true)))) aI)
 (af (bJ (fN (zB (z1 (vx is_Question false) (aa 8)))) (aW (zC (.bl false))) aI)
 (af (aA (mV "TiesApart" (aa 8) (ar "TiesApart" "answer" ak [] (aa 8) zA0) (ar "PlacesApart" "answer" ah [] (aa 8) zA0)) (zSt 9))
 (af (bJ (fN (zB (aD dN [] (zA (aa 9) (zA (aa 4) (zA (aa 1) (zA (aa 2) (zA (aa 5) (zA (aa 6) zA0))))))))) (aW (zC (.bl false))) aI)
 (af (aA (aD bS [] (zA (aa 9) zA0)) (zSt 10))
 (af (cC (aU (aG (z2 cA (z1 (aB ["Apart"] "ways") (aa 9)) (bV (zA (z1 (aB ["Apart"] "ways") (aa 9)) (zA (z1 (aB ["Apart"] "wall") (aa 9)) zA0)))))) (zSt 11) (az (zM2 isL (oB2 aE) (aa 11) (aG (zC (.int 0))))))
 (af (cC (aU (aG (zSl (aa 1) (zPt (z2 cM (z2 dy (aa 3) (zC (.int 210))) (zC (.int 2)))) zNo))) (zSt 12) (az (ar "Net" "drop_tie" aC [] (aa 7) (zA (z2 oIx (aa 12) (zC (.int 0))) zA0))))
 (af (az (ar "Net" "put_tie" au [.int 0, .non, .int 0] (aa 7) (zA (aa 5) (zA (aa 6) zA0))))
 (af (az (ar "Net" "put_tie" au [.int 0, .non, .int 0] (aa 7) (zA (aa 6) (zA (aa 5) zA0))))
 (aW (z2 oEq (aD bS [] (zA (mV "TiesApart" (aa 8) (ar "TiesApart" "answer" ak [] (aa 8) zA0) (ar "PlacesApart" "answer" ah [] (aa 8) zA0)) zA0)) (aa 10))))))))))))))) (W:WN S n l d c N) (h1:sc∈N.names) (h2:tg∈N.names) (h3:sc≠tg):
  Wp (G (akS n c N.names u (some (.d (.int 1))) (some (.d (.str sc))) (some (.d (.str tg))) none none none none none none none S)) (fun fl s' =>flv fl=some (.d (.bl true))∧Ext S s'.st) XF:=by
 obtain ⟨G10,e10⟩:∃g,g=(af (cC (aU (aG (z2 cA (z1 (aB ["Apart"] "ways") (aa 9)) (bV (zA (z1 (aB ["Apart"] "ways") (aa 9)) (zA (z1 (aB ["Apart"] "wall") (aa 9)) zA0)))))) (zSt 11) (az (zM2 isL (oB2 aE) (aa 11) (aG (zC (.int 0))))))
 (af (cC (aU (aG (zSl (aa 1) (zPt (z2 cM (z2 dy (aa 3) (zC (.int 210))) (zC (.int 2)))) zNo))) (zSt 12) (az (ar "Net" "drop_tie" aC [] (aa 7) (zA (z2 oIx (aa 12) (zC (.int 0))) zA0))))
 (af (az (ar "Net" "put_tie" au [.int 0, .non, .int 0] (aa 7) (zA (aa 5) (zA (aa 6) zA0))))
 (af (az (ar "Net" "put_tie" au [.int 0, .non, .int 0] (aa 7) (zA (aa 6) (zA (aa 5) zA0))))
 (aW (z2 oEq (aD bS [] (zA (mV "TiesApart" (aa 8) (ar "TiesApart" "answer" ak [] (aa 8) zA0) (ar "PlacesApart" "answer" ah [] (aa 8) zA0)) zA0)) (aa 10))))))):=⟨_,rfl⟩
 have e0:G=(af (aA (ar "Net" "copied" bB [] (aa 0) zA0) (zSt 7))
 (af (aA (aD aJ [] (zA (aa 7) (zA (aa 4) (zA (aa 5) (zA (aa 6) zA0))))) (zSt 8))
 (af (bJ (iU (zB (z2 oEq (aa 4) (zC (.int 1)))) (zB (z2 (wA false) (hX (zA (aa 5) (zA (aa 6) zA0))) (zLc (aU (aG (aa 1))) (zSt 12) bP (zSl (aa 12) (zPt (zC (.int 1))) zNo) [12])))) (aW (z2 yH (aa 8) (zC (.bl true)))) aI)
 (af (bJ (fN (zB (z1 (vx is_Question false) (aa 8)))) (aW (zC (.bl false))) aI)
 (af (aA (mV "TiesApart" (aa 8) (ar "TiesApart" "answer" ak [] (aa 8) zA0) (ar "PlacesApart" "answer" ah [] (aa 8) zA0)) (zSt 9))
 (af (bJ (fN (zB (aD dN [] (zA (aa 9) (zA (aa 4) (zA (aa 1) (zA (aa 2) (zA (aa 5) (zA (aa 6) zA0))))))))) (aW (zC (.bl false))) aI)
 (af (aA (aD bS [] (zA (aa 9) zA0)) (zSt 10))
 G10))))))):=by rw [hG,e10]
 rw [e0]
 clear e0 hG
 have O:=qok W.good h1 h2 h3
 have kc:=fun sl=>vN (sl:=sl) W.net W.b1 W.b2 W.b3
 obtain ⟨NW,E1,n1⟩:=copy27 (S:=S) W.good
 generalize yL S N=S1 at kc NW E1 n1
 obtain ⟨S2,hS2⟩:∃S2,S2=S1.new (.obj "PlacesApart" (quF N.names N.ties sc tg)):=⟨_,rfl⟩
 have E2:Ext S1 S2:=by rw [hS2]; exact Ext.new
 have n2:S2.nx=S1.nx+1:=by rw [hS2]; rfl
 have q2:S2.get S1.nx=some (.obj "PlacesApart" (quF N.names N.ties sc tg)):=by rw [hS2]; exact bH
 have W2:=W.ext (E1.trans E2)
 have tl:=W.good.tl
 have hs:(5000:Nat)<sizeLine:=by decide
 have ip:=pr_rows W.good h1 h2
 have o1:=W.net.n
 have mNc:bO (fO l d N.given) "copied" =none:=rfl
 have itc:∀sl:List (Option Vl),tO (.d (.cell c)) ⟨sl,S2⟩= .ok ⟨[.d (.cell c)],fun s=>s.st.get c=some (.lst (N.ties.map t3)),N.ties.map t3⟩ ⟨sl,S2⟩:=fun sl=>eC (s:=⟨sl,S2⟩) W2.rows
 by_cases hy:(sc,tg)∈prs N.ties
 ·have e2:=fun sl=>Bu (sl:=sl) NW.net W.good h1 h2 h3 NW.n.2 NW.l.2 NW.d.2 hy
  rw [←hS2] at e2
  rw [decide_eq_true hy] at ip
  simp! only [o1,ay mNc,kc,e2,d11,itc]
  rw [dk (l:=N.ties) t3 (fun q=>D.tup [.str q.2.tail, .str q.2.head]) rfl rfl Nl.d1 W2.rows (fun r hr=>?_) (by omega)]
  ·have ib:∀s:SD,yH (.d (.bl true)) (.d (.bl true)) s= .ok (.d (.bl true)) s:=fun _=>rfl
   simp! only [w_inD,ip,ib]
   exact E1.trans E2
  ·unfold Z.fM
   simp! only [cut_t3]
 ·have e2:=fun sl=>zl (sl:=sl) NW.net W.good h1 h2 h3 NW.n.2 NW.l.2 NW.d.2 hy
  rw [←hS2] at e2
  rw [decide_eq_false hy] at ip
  obtain ⟨rs',am,f,ws,_,_,_,_,_,T0,_⟩:=kF q2 (by omega) O hy
  have Ag:=si (q:=S1.nx) (n:=n) (c:=c) (nm2:=N.names) (u:=u) T0 O hy
  obtain ⟨x,S3,wc,c',vc,A,E3,al⟩:=Ag S2 q2 (by omega)
  have W3:=W2.ext E3
  have P:=pl_of O hy
  have wl:=P.wall T0.D
  have us:∀k∈Ap.usedF (fun j=>f (N.names.length+j)) (ao N.names N.ties).length,k<(ao N.names N.ties).length:=fun k hk=>(Ap.mem_used.mp hk).1
  obtain ⟨w1,w2⟩:=dQ T0.W (gz h1 h2 h3) us
  have rl:=bY (names:=N.names) (ts:=N.ties)
  have wn:=T0.n
  have hl:(ws.map fun w=>w.map (cj N.ties)).length=((Ap.wallP N.names.length (cz (asP N.names.length (ao N.names N.ties)) rs' false (2*N.names.length) (N.names.idxOf sc))).map fun p=>D.str (N.names.getD p "")).length:=by rw [List.length_map,List.length_map]; omega
  have l1:(ws.map fun w=>w.map (cj N.ties)).length≤1000:=by rw [List.length_map]; omega
  have er:=fun sl=>zj (sl:=sl) (z:= .lst (N.names.map .str)) A hl fun sl=>mw (sl:=sl) A T0 O hy W.good.rise (.inr ⟨c,rfl,W3.rows⟩)
  have et:=fun sl=>uc (sl:=sl) A l1
  have ic:=fun sl=>isQ (sl:=sl) q2 rfl
  simp! only [o1,ay mNc,kc,e2,d11,itc]
  rw [dk (l:=N.ties) t3 (fun q=>D.tup [.str q.2.tail, .str q.2.head]) rfl rfl Nl.d1 W2.rows (fun r hr=>?_) (by omega)]
  ·simp! only [w_inD,ip,ic,al,er,et]
   refine (ak_end (k:=S.nx) e10 Ag A l1 (fun l hl=>?_) (by rw [←hl]; exact l1) (fun d hd=>?_) (NW.ext (E2.trans E3)) ⟨by omega,by omega,by omega⟩ (by omega) ((E3.get _ (by omega)).trans q2) (by omega) (by omega) (by omega) W3.rows W.b4 h1 h2 h3).mono (fun fl s' h=>?_) fun _ _ _ h=>h
   ·obtain ⟨w,hw,rfl⟩:=List.mem_map.mp hl
    rw [List.length_map]
    have:=(w2 w hw).1
    omega
   ·obtain ⟨k,hk,rfl⟩:=List.mem_map.mp hd
    have hk:=List.mem_range.mp (List.mem_filter.mp hk).1
    refine ⟨?_,rfl⟩
    show PyData.strOk _=true
    exact lM (W.good.nm _ (nm_mem hk)).1
   ·have E4:=(E1.trans E2).trans E3
    exact ⟨h.1,⟨by have:=E4.nx; omega,fun i hi=>(h.2.2 i hi).trans (E4.get i hi)⟩⟩
  ·unfold Z.fM
   simp! only [cut_t3]
theorem pJ (W:WN S n l d c N) (h2:2≤N.names.length) (u:Nat):∃S',Ext S S'∧∀sl,goF bL [.cell n, .cell c, .lst (N.names.map .str), .int (u:Int)] ⟨sl,S⟩= .ok (.d (.bl true)) ⟨sl,S'⟩:=by
 suffices hh:Wp (lx (akS n c N.names u none none none none none none none none none none S)) (fun fl s' =>flv fl=some (.d (.bl true))∧Ext S s'.st) XF by
  obtain ⟨fl,s',e,h1,h2⟩:=hh.is
  exact ⟨s'.st,h2,fun sl=>eW (by show Wp (lx (akS n c N.names u none none none none none none none none none none S)) _ _; rw [e]; exact ⟨h1,rfl⟩)⟩
 obtain ⟨G,hG⟩:∃g,g=(af (aA (ar "Net" "copied" bB [] (aa 0) zA0) (zSt 7))
 (af (aA (aD aJ [] (zA (aa 7) (zA (aa 4) (zA (aa 5) (zA (aa 6) zA0))))) (zSt 8))
 (af (bJ (iU (zB (z2 oEq (aa 4) (zC (.int 1)))) (zB (z2 (wA false) (hX (zA (aa 5) (zA (aa 6) zA0))) (zLc (aU (aG (aa 1))) (zSt 12) bP (zSl (aa 12) (zPt (zC (.int 1))) zNo) [12])))) (aW (z2 yH (aa 8) (zC (.bl true)))) aI)
 (af (bJ (fN (zB (z1 (vx is_Question false) (aa 8)))) (aW (zC (.bl false))) aI)
 (af (aA (mV "TiesApart" (aa 8) (ar "TiesApart" "answer" ak [] (aa 8) zA0) (ar "PlacesApart" "answer" ah [] (aa 8) zA0)) (zSt 9))
 (af (bJ (fN (zB (aD dN [] (zA (aa 9) (zA (aa 4) (zA (aa 1) (zA (aa 2) (zA (aa 5) (zA (aa 6) zA0))))))))) (aW (zC (.bl false))) aI)
 (af (aA (aD bS [] (zA (aa 9) zA0)) (zSt 10))
 (af (cC (aU (aG (z2 cA (z1 (aB ["Apart"] "ways") (aa 9)) (bV (zA (z1 (aB ["Apart"] "ways") (aa 9)) (zA (z1 (aB ["Apart"] "wall") (aa 9)) zA0)))))) (zSt 11) (az (zM2 isL (oB2 aE) (aa 11) (aG (zC (.int 0))))))
 (af (cC (aU (aG (zSl (aa 1) (zPt (z2 cM (z2 dy (aa 3) (zC (.int 210))) (zC (.int 2)))) zNo))) (zSt 12) (az (ar "Net" "drop_tie" aC [] (aa 7) (zA (z2 oIx (aa 12) (zC (.int 0))) zA0))))
 (af (az (ar "Net" "put_tie" au [.int 0, .non, .int 0] (aa 7) (zA (aa 5) (zA (aa 6) zA0))))
 (af (az (ar "Net" "put_tie" au [.int 0, .non, .int 0] (aa 7) (zA (aa 6) (zA (aa 5) zA0))))
 (aW (z2 oEq (aD bS [] (zA (mV "TiesApart" (aa 8) (ar "TiesApart" "answer" ak [] (aa 8) zA0) (ar "PlacesApart" "answer" ah [] (aa 8) zA0)) zA0)) (aa 10)))))))))))))):=⟨_,rfl⟩
 have e0:lx=(af (aA (z2 cM (aa 3) (zC (.int 2))) (zSt 4))
 (af (aA (z2 oIx (aa 2) (z2 cM (z2 dy (aa 3) (zC (.int 2))) (z1 de (aa 2)))) (zSt 5))
 (af (aA (z2 oIx (zLc (aU (aG (aa 2))) (zSt 13) (zB (z2 oNe (aa 13) (aa 5))) (aa 13) [13]) (z2 cM (z2 dy (aa 3) (zC (.int 30))) (z2 sq (z1 de (aa 2)) (zC (.int 1))))) (zSt 6))
 G))):=by rw [hG]; rfl
 rw [e0]
 clear e0
 refine ak_a W.good.nd h2 W.good.nl fun sc tg s1 s2 s3=>?_
 rcases Nat.mod_two_eq_zero_or_one u with e | e
 ·rw [e]
  exact ak_way0 hG W s1 s2 s3
 ·rw [e]
  exact ak_way1 hG W s1 s2 s3
end
end T

set_option maxHeartbeats 4000000
namespace T
open PySem PySem.Spec PyProof.Rows L2 M Z A
open Classical
section
variable {s:SD} {S S' :Sto} {sl:List (Option Vl)} {n m l d c:Nat} {N:ND} {names:List Str} {v1 v4 v7 v8:Option Vl} {ns:List Int}
abbrev laS (ns:List Int) (v1:Option Vl) (names:List Str) (n:Nat) (v4:Option Vl) (c:Nat) (a:Nat) (v7 v8:Option Vl) (S:Sto):SD:=
 ⟨[some (.d (.con (ns.map .int))),v1,some (.d (.lst (names.map .str))),some (.d (.cell n)),v4,some (.d (.cell c)),some (.d (.int (a:Int))),v7,v8],S⟩
noncomputable def laB:SD→R Fl:=(af (az (aD eT [] (zA (aa 3) (zA (aa 5) (zA (aa 2) (zA (aa 0) (zA (aa 7) zA0)))))))
 (af (aA (z2 dy (aD bX [] (zA (aa 0) (zA (aa 7) zA0))) (zC (.int 640))) (zSt 8))
 (bJ (iU (zB (z2 oEq (z2 cM (aa 8) (zC (.int 6))) (zC (.int 1)))) (zB (z2 oLt (aa 6) (zC (.int 8))))) (af (aA (z2 cA (aa 6) (zC (.int 1))) (zSt 6))
 (bJ (fN (zB (aD bL [] (zA (aa 3) (zA (aa 5) (zA (aa 2) (zA (z2 dy (aa 8) (zC (.int 6))) zA0))))))) (aW (zC (.bl false))) aI)) aI)))
noncomputable def laE:SD→R Fl:=(af (aA (z2 dy (aa 1) (zC (.int 77))) (zSt 1))
 (aW (hV (aD bL [] (zA (aa 3) (zA (aa 5) (zA (aa 2) (zA (aa 1) zA0))))) (aD bL [] (zA (aa 3) (zA (aa 5) (zA (aa 2) (zA (z2 cA (aa 1) (zC (.int 1))) zA0))))))))
theorem la_turn {G:SD→R Fl} (hG:G=laB) {i a:Nat} (W:WN S n l d c N) (h2:2≤N.names.length) (hi:i≤63):
  Wp (G (laS ns v1 N.names n v4 c a (some (.d (.int (i:Int)))) v8 S)) (fun fl s' =>fl= .nx∧∃v8' a' S' N',s' =laS ns v1 N.names n v4 c a' (some (.d (.int (i:Int)))) v8' S'∧WN S' n l d c N'∧N'.names=N.names) XF:=by
 subst hG
 obtain ⟨S1,N1,W1,nm1,e1⟩:=wC W h2 ns hi
 obtain ⟨u,u0,u1,eu⟩:=jk ns (i:Int) (by omega) (by omega)
 obtain ⟨u,rfl⟩:=Int.eq_ofNat_of_zero_le u0
 obtain ⟨S2,E2,e2⟩:=pJ W1 (by rw [nm1]; exact h2) (u / 640 / 6)
 rw [nm1] at e2
 have e2:∀sl,goF bL [.cell n, .cell c, .lst (N.names.map .str), .int ((u:Int) / 640 / 6)] ⟨sl,S1⟩= .ok (.d (.bl true)) ⟨sl,S2⟩:=e2
 have y640:CDivW (u:Int) 640=True:=eq_true (aF (by decide) (by decide))
 have y6:CDivW ((u:Int) / 640) 6=True:=eq_true (aF (by decide) (by decide))
 have b6:((0:Int)<6)=True:=by decide
 unfold laB
 simp! only [e1,eu,y640,b6]
 by_cases c1:(u:Int) / 640%6=1
 ·simp! only [c1]
  by_cases c2:(a:Int)<8
  ·simp! only [c2,e2,y6]
   exact ⟨_,a+1,S2,N1,rfl,W1.ext E2,nm1⟩
  ·simp! only [c2]
   exact ⟨_,a,S1,N1,rfl,W1,nm1⟩
 ·simp! only [c1]
  exact ⟨_,a,S1,N1,rfl,W1,nm1⟩
theorem la_end {G:SD→R Fl} (hG:G=laE) {u a:Nat} (W:WN S n l d c N) (h2:2≤N.names.length):Wp (G (laS ns (some (.d (.int (u:Int)))) N.names n v4 c a v7 v8 S)) (fun fl _=>fl= .rt (.d (.bl true))) XF:=by
 subst hG
 obtain ⟨S1,E1,e1⟩:=pJ W h2 (u / 77)
 obtain ⟨S2,E2,e2⟩:=pJ (W.ext E1) h2 (u / 77+1)
 have e1:∀sl,goF bL [.cell n, .cell c, .lst (N.names.map .str), .int ((u:Int) / 77)] ⟨sl,S⟩= .ok (.d (.bl true)) ⟨sl,S1⟩:=e1
 have e2:∀sl,goF bL [.cell n, .cell c, .lst (N.names.map .str), .int ((u:Int) / 77+1)] ⟨sl,S1⟩= .ok (.d (.bl true)) ⟨sl,S2⟩:=e2
 have y77:CDivW (u:Int) 77=True:=eq_true (aF (by decide) (by decide))
 unfold laE
 simp! only [e1,e2,y77]
noncomputable def laP:SD→R Fl:=(af (cC (aU (aG (aa 2))) (zSt 4) (az (ar "Net" "put_place" bR [] (aa 3) (zA (aa 4) zA0))))
 (af (aA (bx (bV zA0)) (zSt 5))
 (af (aA (zC (.int 0)) (zSt 6))
 (af (cC (sk (zA (z1 de (aa 0)) zA0)) (zSt 7) (af (az (aD eT [] (zA (aa 3) (zA (aa 5) (zA (aa 2) (zA (aa 0) (zA (aa 7) zA0)))))))
 (af (aA (z2 dy (aD bX [] (zA (aa 0) (zA (aa 7) zA0))) (zC (.int 640))) (zSt 8))
 (bJ (iU (zB (z2 oEq (z2 cM (aa 8) (zC (.int 6))) (zC (.int 1)))) (zB (z2 oLt (aa 6) (zC (.int 8))))) (af (aA (z2 cA (aa 6) (zC (.int 1))) (zSt 6))
 (bJ (fN (zB (aD bL [] (zA (aa 3) (zA (aa 5) (zA (aa 2) (zA (z2 dy (aa 8) (zC (.int 6))) zA0))))))) (aW (zC (.bl false))) aI)) aI))))
 (af (aA (z2 dy (aa 1) (zC (.int 77))) (zSt 1))
 (aW (hV (aD bL [] (zA (aa 3) (zA (aa 5) (zA (aa 2) (zA (aa 1) zA0))))) (aD bL [] (zA (aa 3) (zA (aa 5) (zA (aa 2) (zA (z2 cA (aa 1) (zC (.int 1))) zA0))))))))))))
theorem law_q {G GB GE:SD→R Fl} (hB:GB=laB) (hE:GE=laE) (hG:G=(af (aA (bx (bV zA0)) (zSt 5))
 (af (aA (zC (.int 0)) (zSt 6))
 (af (cC (sk (zA (z1 de (aa 0)) zA0)) (zSt 7) GB)
 GE)))) {u:Nat} {S1:Sto} {v4:Option Vl} (hl:ns.length≤63) (nd:names.Nodup) (nm:∀z∈names,NmOk z∧z.length≤11) (h2:2≤names.length) (h14:names.length≤14) (W1:NetAt S1 n l d ⟨names,[],0⟩) (b1:n<S1.nx) (b2:l<S1.nx) (b3:d<S1.nx):
  Wp (G ⟨[some (.d (.con (ns.map .int))),some (.d (.int (u:Int))),some (.d (.lst (names.map .str))),some (.d (.cell n)),v4,none,none,none,none],S1⟩) (fun fl _=>fl= .rt (.d (.bl true))) XF:=by
 have hs:(5000:Nat)<sizeLine:=by decide
 have G1:Good ⟨names,[],0⟩:=⟨nd,fun z hz=>(nm z hz).1,h14,List.Pairwise.nil,Nat.zero_le _,fun q hq=>(by cases hq),fun q hq=>(by cases hq),fun q hq=>(by cases hq),⟨Int.le_refl _,fun q hq=>(by cases hq)⟩⟩
 have E1:Ext S1 (S1.new (.lst [])):=Ext.new
 have WW:WN (S1.new (.lst [])) n l d S1.nx ⟨names,[],0⟩:=⟨W1.ext E1 (by omega) (by omega) (by omega),G1,bH,by show n<S1.nx+1; omega,by show l<S1.nx+1; omega,by show d<S1.nx+1; omega,by show S1.nx<S1.nx+1; omega,by omega,by omega,by omega⟩
 have z0:=rg62 (m:=ns.length) (by omega)
 have ln:(((ns.map D.int).length:Nat):Int)=(ns.length:Int):=by rw [List.length_map]
 rw [hG]
 clear hG
 simp! only [ln,z0]
 rw [ae]
 refine kj (fun j s' =>∃a v7 v8 S2 N2,s' =laS ns (some (.d (.int (u:Int)))) names n v4 S1.nx a v7 v8 S2∧WN S2 n l d S1.nx N2∧N2.names=names) nl0 (fun _ _ _=>trivial) ⟨0,none,none,_,_,rfl,WW,rfl⟩ (fun j y s' ey hI=>?_) (fun s' hI=>?_)
 ·obtain ⟨a,v7,v8,S2,N2,rfl,W2,rfl⟩:=hI
  have ey:(Z.upTo 0 (ns.length:Int).toNat)[j]? =some y:=ey
  rw [Int.toNat_natCast,wo,List.getElem?_map] at ey
  cases ej:(List.range ns.length)[j]? with
  | none=>rw [ej] at ey; cases ey
  | some i=>
   rw [ej] at ey
   cases ey
   have hi:i<ns.length:=List.mem_range.mp (List.mem_of_getElem? ej)
   simp! only []
   refine (la_turn (i:=i) hB W2 h2 (by omega)).mono (fun fl s' h=>?_) fun _ _ _ h=>h
   obtain ⟨rfl,v8',a',S',N',rfl,W',nm'⟩:=h
   exact ⟨_,_,_,_,_,rfl,W',nm'⟩
 ·obtain ⟨a,v7,v8,S2,N2,rfl,W2,rfl⟩:=hI
  simp! only []
  exact la_end hE W2 h2
theorem law_p {G:SD→R Fl} (hG:G=laP) {u:Nat} (hl:ns.length≤63) (nd:names.Nodup) (nm:∀z∈names,NmOk z∧z.length≤11) (h2:2≤names.length) (h14:names.length≤14) (W0:NetAt S n l d ⟨[],[],0⟩) (b1:n<S.nx) (b2:l<S.nx) (b3:d<S.nx):
  Wp (G ⟨[some (.d (.con (ns.map .int))),some (.d (.int (u:Int))),some (.own (.lst (names.map .str))),some (.d (.cell n)),none,none,none,none,none],S⟩) (fun fl _=>fl= .rt (.d (.bl true))) XF:=by
 subst hG
 have hs:(5000:Nat)<sizeLine:=by decide
 obtain ⟨GB,hB⟩:∃g,g=laB:=⟨_,rfl⟩
 obtain ⟨GE,hE⟩:∃g,g=laE:=⟨_,rfl⟩
 obtain ⟨G4,h4⟩:∃g,g=(af (aA (bx (bV zA0)) (zSt 5))
 (af (aA (zC (.int 0)) (zSt 6))
 (af (cC (sk (zA (z1 de (aa 0)) zA0)) (zSt 7) GB)
 GE))):=⟨_,rfl⟩
 have e0:laP=(af (cC (aU (aG (aa 2))) (zSt 4) (az (ar "Net" "put_place" bR [] (aa 3) (zA (aa 4) zA0))))
 G4):=by rw [h4,hB,hE]; rfl
 rw [e0]
 clear e0
 have mNp:∀g,bO (fO l d g) "put_place" =none:=fun _=>rfl
 have nn:=W0.ne
 simp! only []
 rw [ae]
 refine kj (fun j s' =>∃v4 S1,s' =⟨[some (.d (.con (ns.map .int))),some (.d (.int (u:Int))),some (.d (.lst (names.map .str))),some (.d (.cell n)),v4,none,none,none,none],S1⟩∧NetAt S1 n l d ⟨names.take j,[],0⟩∧S1.nx=S.nx) Nl.d1 (fun _ _ _=>trivial) ⟨none,S,rfl,W0,rfl⟩ (fun j e s' ed hI=>?_) (fun s' hI=>?_)
 ·obtain ⟨v4,S1,rfl,W1,n1⟩:=hI
  have ed:(names.map D.str)[j]? =some e:=ed
  rw [List.getElem?_map] at ed
  cases ej:names[j]? with
  | none=>rw [ej] at ed; cases ed
  | some z=>
   rw [ej] at ed
   cases ed
   have hj:=(List.getElem?_eq_some_iff.mp ej).1
   obtain ⟨⟨q1,q2,q3,q4⟩,q5⟩:=nm z (List.mem_of_getElem? ej)
   have zn:z∉names.take j:=fun h=>by
    obtain ⟨i,hi,e⟩:=List.getElem_of_mem h
    rw [List.getElem_take] at e
    have hi2:i<j:=by rw [List.length_take] at hi; omega
    obtain ⟨_,ej2⟩:=List.getElem?_eq_some_iff.mp ej
    have:=(List.getElem_inj nd).mp (e.trans ej2.symm)
    omega
   have e1:=fun sl=>tY (sl:=sl) (w:=z) W1 (al_name q1 q2 (by omega)) (by omega) zn (by show (names.take j).length<14; rw [List.length_take]; omega)
   have o1:=W1.n
   simp! only [o1,ay (mNp _),e1]
   refine ⟨_,_,rfl,⟨(Z.Sto.put_ne nn.1).trans W1.n, ?_,(Z.Sto.put_ne nn.2.2.symm).trans W1.d⟩,n1⟩
   rw [Z.Sto.put_same]
   show some (D.lst ((names.take j++ [z]).map .str))=some (D.lst ((names.take (j+1)).map .str))
   rw [List.take_add_one,ej]
   rfl
 ·have hI:∃v4 S1,s' =⟨[some (.d (.con (ns.map .int))),some (.d (.int (u:Int))),some (.d (.lst (names.map .str))),some (.d (.cell n)),v4,none,none,none,none],S1⟩∧NetAt S1 n l d ⟨names.take (names.map D.str).length,[],0⟩∧S1.nx=S.nx:=hI
  rw [List.length_map,List.take_length] at hI
  obtain ⟨v4,S1,rfl,W1,n1⟩:=hI
  simp! only []
  exact law_q hB hE h4 hl nd nm h2 h14 W1 (by omega) (by omega) (by omega)
theorem g_law (ns:List Int) (hl:ns.length≤63) (S:Sto):Wp (b_law ⟨[some (.d (.con (ns.map .int))),none,none,none,none,none,none,none,none],S⟩) (fun fl _=>fl= .rt (.d (.bl true))) XF:=by
 obtain ⟨u,u0,u1,eu⟩:=jk ns 0 (by decide) (by decide)
 obtain ⟨u,rfl⟩:=Int.eq_ofNat_of_zero_le u0
 obtain ⟨m,hm⟩:∃m,m=2+u / 11%7:=⟨_,rfl⟩
 have em:(2:Int)+(u:Int) / 11%7=(m:Int):=by rw [hm]; omega
 obtain ⟨names,nd,nm,ln,en⟩:=zo (n:=(u:Int)) (m:=m) (by omega) (by omega) (by omega)
 have y11:CDivW (u:Int) 11=True:=eq_true (aF (by decide) (by decide))
 have b7:((0:Int)<7)=True:=by decide
 have ei:=fun sl=>je (sl:=sl) (S:=S) (i:=S.nx) (F:=cR) fun s=>nH (sl:=s.sl) (S:=S)
 have N0:NetAt (rf S) S.nx (S.nx+1) (S.nx+2) ⟨[],[],0⟩:=⟨by unfold rf; simp,by unfold rf; simp,by unfold rf; simp [bK]⟩
 obtain ⟨GP,hP⟩:∃g,g=laP:=⟨_,rfl⟩
 have e0:b_law=(af (aA (aD bX [] (zA (aa 0) (zA (zC (.int 0)) zA0))) (zSt 1))
 (af (aA (aD kX [] (zA (aa 1) (zA (z2 cA (zC (.int 2)) (z2 cM (z2 dy (aa 1) (zC (.int 11))) (zC (.int 7)))) zA0))) (zSt 2))
 (af (aA (dH "Net" cR [] zA0) (zSt 3))
 GP))):=by rw [hP]; rfl
 rw [e0]
 clear e0
 have fin:=law_p (ns:=ns) (u:=u) hP hl nd nm (by omega) (by omega) N0 (by show S.nx<S.nx+3; omega) (by show S.nx+1<S.nx+3; omega) (by show S.nx+2<S.nx+3; omega)
 simp! only [eu,y11,b7,em,en,ei]
 exact fin
end
end T

namespace T
open PySem PySem.Spec PyProof.Rows L2 M Z
open Classical
section
variable {K:PySem.W.Frag} {mg:Str→Option Value}
theorem qK {G:Gc} {p:Wr}:∀ns:List Int,Reps G p (ns.map D.int) (ns.map V.int)
 | []=>rfl
 | n::ns=>⟨.int n,ns.map V.int,rfl,rfl,qK ns⟩
theorem law_sp {vs:List V} {H:Hp} {Q:VK} {E:XK} (h:xR K vs H Q E):spF ⟨K,mg⟩ 1 v_law vs H Q (fun _ _ _=>False):=by
 obtain ⟨a,ns,rfl,hS,hl,q⟩:=h
 refine ⟨rfl,⟨fun _=>False,⟨fun _=>a,0,fun _=>False,H⟩,⟨0,fun _=>none⟩⟩,0,⟨fun _=>a,0,fun _=>False,H⟩,[],[],⟨0,fun _=>none⟩,[.con (ns.map .int)],rfl, ?_, ?_, ?_⟩
 ·exact {len:=rfl,pn:=rfl,nx:=Nat.le_refl _,ebd:=fun i d e=>(by cases e),old:=fun _ _=>rfl,bd:=fun i d e=>(by cases e),cel:=fun i d e=>(by cases e),inj:=fun i j d e h=>(by cases h),born:=fun i d e=>(by cases e),frm:=fun a h=>h.elim,kp:=fun b o e _=>⟨fun f=>f.elim, .inl e⟩,sub:=fun b o e=>⟨o,e⟩,grw:=fun _ _ _ h=>h,dom:=fun a h=>h.elim,ent:=fun k e q=>(by simp at q),own:=fun k x a q=>(by simp at q),sep:=fun j k x y a q=>(by simp at q)}
 ·exact ⟨.ref a,[],rfl,⟨a,ns.map V.int,rfl,hS.imp (fun r=>⟨id,r⟩) id,qK ns⟩,rfl⟩
 ·obtain ⟨fl,s',e,rfl⟩:=(g_law ns hl ⟨0,fun _=>none⟩).is
  have e2:v_law [.con (ns.map .int)] ⟨0,fun _=>none⟩= .ok (.d (.bl true)) s' :=wZ e rfl
  rw [e2]
  intro v p' h'
  obtain ⟨v',e3,r⟩:=h'.ent 0 (.d (.bl true)) rfl
  cases e3
  obtain rfl:v= .bl true:=r
  exact q _
end
end T

open PySem PySem.Spec PyProof.Rows
namespace T
open PySem PySem.Spec PyProof.Rows L2 M Z
open PySem.W (Frag findIn fnOf isFn keepIn makesIn mg_none_of mg_of)
section
variable {K:Frag} {mg:Str→Option Value} {f C:Addr} {q m x:Str} {st:Stmt} {ps:List Str}
theorem dfY (l:FnG K f q st) (g:mg q=some (.ref f)) (hb:∀{fd:FuncData},L2.Fun K q q st f fd→L2.Binds K fd ps []):Df K mg q st ps:=⟨⟨_,_,l.l.fn.choose_spec,g,hb l.l.fn.choose_spec⟩⟩
theorem dmY (l:FnM K C f m q st) (c:Cls K C) (hb:∀{fd:FuncData},L2.Fun K m q st f fd→L2.Binds K fd ps []):Dm K C m q st ps:=⟨⟨_,_,l.l.fn.choose_spec,c,⟨l.a,l.i,l.l.fn.choose_spec.kp⟩,hb l.l.fn.choose_spec⟩⟩
theorem dkY (l:FnAt K f "__init__" q st) (mk:makesIn K C=true) (a:findIn K (.ref C) "__init__" =some (some (.ref f))) (i:isFn K (.ref f)=true) (kc:keepIn K (.ref C)=true) (g:mg x=some (.ref C)) (hb:∀{fd:FuncData},L2.Fun K "__init__" q st f fd→L2.Binds K fd ps []):Dk K mg x C q st ps:=
 ⟨⟨_,_,l.fn.choose_spec,⟨mk,a,i,kc⟩,g,hb l.fn.choose_spec⟩⟩
end
local macro_rules | `(tactic| walk_at "b1") => `(tactic| exact fun F => F.binds fun _ _ _ _ _ _ us hl => match us, hl with | [_], _ => rfl)
local macro_rules | `(tactic| walk_at "b2") => `(tactic| exact fun F => F.binds fun _ _ _ _ _ _ us hl => match us, hl with | [_, _], _ => rfl)
local macro_rules | `(tactic| walk_at "b3") => `(tactic| exact fun F => F.binds fun _ _ _ _ _ _ us hl => match us, hl with | [_, _, _], _ => rfl)
local macro_rules | `(tactic| walk_at "b4") => `(tactic| exact fun F => F.binds fun _ _ _ _ _ _ us hl => match us, hl with | [_, _, _, _], _ => rfl)
local macro_rules | `(tactic| walk_at "b5") => `(tactic| exact fun F => F.binds fun _ _ _ _ _ _ us hl => match us, hl with | [_, _, _, _, _], _ => rfl)
local macro_rules | `(tactic| walk_at "b6") => `(tactic| exact fun F => F.binds fun _ _ _ _ _ _ us hl => match us, hl with | [_, _, _, _, _, _], _ => rfl)
local macro_rules | `(tactic| walk_at "b7") => `(tactic| exact fun F => F.binds fun _ _ _ _ _ _ us hl => match us, hl with | [_, _, _, _, _, _, _], _ => rfl)
set_option maxHeartbeats 0 in
theorem all_mk {l:PySem.W.OpenLaw} {w:World} {K:Frag} {h:Heap} {mg:Str→Option Value} {fa:Addr} (X:K.In h) (G:h.Ns mainGlobals mg) (hfa:mg "law" =some (.ref fa)) {Ca Cb Cc Cd Ce Cf Cg Ch Ci:Addr} (q0:Q0 K Ca Cb Cc Cd Ce Cf Cg Ch Ci) (q1:Q1 K Ca Cb Cc Cd Ce Cf Cg Ch Ci) (q2:Q2 K Ca Cb Cc Cd Ce Cf Cg Ch Ci) (q3:Q3 K Ca Cb Cc Cd Ce Cf Cg Ch Ci) (q4:Q4 K Ca Cb Cc Cd Ce Cf Cg Ch Ci) (q5:Q5 K Ca Cb Cc Cd Ce Cf Cg Ch Ci) (q6:Q6 K Ca Cb Cc Cd Ce Cf Cg Ch Ci) (q7:Q7 K Ca Cb Cc Cd Ce Cf Cg Ch Ci):
  ∃fd:FuncData,(∀(s:Shared) (v:Value),BindsTo s fd ⟨[v],[]⟩ [("_law_script",v)])∧∀base:Heap,K.In base→base.Ns mainGlobals mg→FnOk l.prog w K mg base L2.CX0 7 fa fd ["_law_script"] (xR K):=by
 have e:=hfa.symm.trans (mg_of X G q7.a50)
 cases e
 have T:Txt K mg Ca Cb Cc Cd Ce Cf Cg Ch Ci:=⟨mg_none_of X G q0.z_all,mg_none_of X G q1.z_bool,mg_none_of X G q1.z_dict,mg_none_of X G q1.z_enumerate,mg_none_of X G q1.z_int,mg_none_of X G q1.z_isinstance,mg_none_of X G q1.z_len,mg_none_of X G q1.z_list,mg_none_of X G q1.z_min,mg_none_of X G q1.z_range,mg_none_of X G q1.z_set,mg_none_of X G q1.z_sorted,mg_none_of X G q1.z_str,mg_none_of X G q1.z_zip,⟨_,mg_of X G q1.g_LETTERS,⟨_,rfl⟩⟩,⟨_,mg_of X G q1.g_MOST_LETTERS,⟨_,rfl⟩⟩,⟨_,mg_of X G q1.g_MOST,⟨_,rfl⟩⟩,⟨_,mg_of X G q1.g_MOST_PLACES,⟨_,rfl⟩⟩,⟨_,mg_of X G q1.g_MOST_TIES,⟨_,rfl⟩⟩,mg_of X G q0.m_FlowError,mg_of X G q0.m_BadQuestion,mg_of X G q0.m_Tie,mg_of X G q0.m_Net,mg_of X G q0.m_Rest,mg_of X G q0.m_Apart,mg_of X G q0.m_Question,mg_of X G q0.m_TiesApart,mg_of X G q0.m_PlacesApart,⟨q0.pg_CTie,q0.hd_CTie,q0.po_CTie,q0.sa_CTie⟩,⟨q0.pg_CNet,q0.hd_CNet,q0.po_CNet,q0.sa_CNet⟩,⟨q0.pg_CRest,q0.hd_CRest,q0.po_CRest,q0.sa_CRest⟩,⟨q0.pg_CApart,q0.hd_CApart,q0.po_CApart,q0.sa_CApart⟩,⟨q0.pg_CQuestion,q0.hd_CQuestion,q0.po_CQuestion,q0.sa_CQuestion⟩,⟨q0.pg_CTiesApart,q0.hd_CTiesApart,q0.po_CTiesApart,q0.sa_CTiesApart⟩,⟨q0.pg_CPlacesApart,q0.hd_CPlacesApart,q0.po_CPlacesApart,q0.sa_CPlacesApart⟩,q1.n_head_Tie,q1.n_heads_Rest,q1.n_last_given_Net,q1.n_least_Tie,q1.n_many_Rest,q1.n_most_Tie,q1.n_names_Net,q1.n_names_PlacesApart,q1.n_names_TiesApart,q1.n_number_Tie,q1.n_price_Tie,q1.n_rooms_Rest,q1.n_rows_Net,q1.n_rows_PlacesApart,q1.n_rows_TiesApart,q1.n_source_PlacesApart,q1.n_source_TiesApart,q1.n_starts_Rest,q1.n_tail_Tie,q1.n_target_PlacesApart,q1.n_target_TiesApart,q1.n_wall_Apart,q2.n_ways_Apart,⟨⟨q0.pg_CApart,q0.hd_CApart,q0.po_CApart,q0.sa_CApart⟩,q2.in_Apart1,q2.in_Apart2,q2.in_Apart3,q2.in_Apart4,Z.kit_self⟩,⟨⟨q0.pg_CTiesApart,q0.hd_CTiesApart,q0.po_CTiesApart,q0.sa_CTiesApart⟩,q2.in_TiesApart1,q2.in_TiesApart2,q2.in_TiesApart3,q2.in_TiesApart4,Z.kit_self⟩,⟨⟨q0.pg_CPlacesApart,q0.hd_CPlacesApart,q0.po_CPlacesApart,q0.sa_CPlacesApart⟩,q2.in_PlacesApart1,q2.in_PlacesApart2,q2.in_PlacesApart3,q2.in_PlacesApart4,Z.kit_self⟩,⟨⟨q0.pg_CQuestion,q0.hd_CQuestion,q0.po_CQuestion,q0.sa_CQuestion⟩,q2.in_Question1,q2.in_Question2,q2.in_Question3,q2.in_Question4,Z.kit_self⟩,⟨q0.hd_CQuestion,q2.xty_Question,q2.xme_Question⟩,q2.so_TiesApart_Question,q2.so_PlacesApart_Question,⟨q2.xhd_FlowError,q2.xty_FlowError,q2.xme_FlowError,q2.xb_FlowError⟩,⟨⟨q2.xhd_BadQuestion,q2.xty_BadQuestion,q2.xme_BadQuestion,q2.xb_BadQuestion⟩,q2.xga_BadQuestion,q2.xgg_BadQuestion,q2.xca_BadQuestion,q0.xsp,q0.xtk,q2.xob_BadQuestion⟩,q2.s_BadQuestion_FlowError,q2.s_BadQuestion_BadQuestion,q2.xn_BadQuestion_why⟩
 have F1:=L2.fun_mk (st:=aQ) q3.l1 q3.c1 q3.k1
 have D_BadQuestion_init:DxZ K mg "BadQuestion" Cb "BadQuestion.__init__" aQ "why" "why" :=⟨⟨⟨_,_,_,_,_,_,_,_,_,_,_,_,_,_,_,q3.xL1,rfl⟩,q3.xsa1,q2.xb_BadQuestion,q2.xty_BadQuestion,q3.xkC1⟩,q3.xno1,mg_of X G q0.m_BadQuestion,_,_,q3.a1,q3.i1,F1,F1.binds fun _ _ _ _ _ _ us hl=>match us,hl with | [_,_],_=>rfl⟩
 have F15:L2.FunD K "put_tie" "Net.put_tie" (defArgs aY) (defBody aY) (defScope aY) ([.int 0, .non, .int 0]:List V) [] q4.f15 _:=⟨⟨_,_,_,_,_,_,_,_,_,_,rfl,q4.l15,q4.c15, .inr ⟨by simp,q4.T15,_,_,_,rfl,q4.t15,rfl,(.cons ⟨_,rfl⟩ (.cons rfl (.cons ⟨_,rfl⟩ .nil)))⟩, .inl rfl⟩,q4.k15⟩
 have D_Net_put_tie:Dmd K Cd "put_tie" "Net.put_tie" aY ["self","tail","head","least","most","price"] [.int 0, .non, .int 0]:=⟨_,_,F15,⟨q0.pg_CNet,q0.hd_CNet,q0.po_CNet,q0.sa_CNet⟩,⟨q4.a15,q4.i15,q4.k15⟩,fun j hj=>by
  match j,hj with
  | 0,_=>exact F15.binds1 3 0 (by simp) rfl fun _ _ _ _ _ _ _ us its h1 h2=>match us,its,h1,h2 with | [_,_,_],[_,_,_],_,_=>⟨_,rfl,rfl⟩
  | 1,_=>exact F15.binds1 4 1 (by simp) rfl fun _ _ _ _ _ _ _ us its h1 h2=>match us,its,h1,h2 with | [_,_,_,_],[_,_,_],_,_=>⟨_,rfl,rfl⟩
  | 2,_=>exact F15.binds1 5 2 (by simp) rfl fun _ _ _ _ _ _ _ us its h1 h2=>match us,its,h1,h2 with | [_,_,_,_,_],[_,_,_],_,_=>⟨_,rfl,rfl⟩
  | 3,_=>exact F15.binds1 6 3 (by simp) rfl fun _ _ _ _ _ _ _ us its h1 h2=>match us,its,h1,h2 with | [_,_,_,_,_,_],[_,_,_],_,_=>⟨_,rfl,rfl⟩
  | j+4,hj=>simp at hj⟩
 have F21:L2.FunD K "put_arc" "Rest.put_arc" (defArgs aR) (defBody aR) (defScope aR) ([.int 0]:List V) [] q4.f21 _:=⟨⟨_,_,_,_,_,_,_,_,_,_,rfl,q4.l21,q4.c21, .inr ⟨by simp,q4.T21,_,_,_,rfl,q4.t21,rfl,(.cons ⟨_,rfl⟩ .nil)⟩, .inl rfl⟩,q4.k21⟩
 have D_Rest_put_arc:Dmd K Ce "put_arc" "Rest.put_arc" aR ["self","tail","head","room","back"] [.int 0]:=⟨_,_,F21,⟨q0.pg_CRest,q0.hd_CRest,q0.po_CRest,q0.sa_CRest⟩,⟨q4.a21,q4.i21,q4.k21⟩,fun j hj=>by
  match j,hj with
  | 0,_=>exact F21.binds1 4 0 (by simp) rfl fun _ _ _ _ _ _ _ us its h1 h2=>match us,its,h1,h2 with | [_,_,_,_],[_],_,_=>⟨_,rfl,rfl⟩
  | 1,_=>exact F21.binds1 5 1 (by simp) rfl fun _ _ _ _ _ _ _ us its h1 h2=>match us,its,h1,h2 with | [_,_,_,_,_],[_],_,_=>⟨_,rfl,rfl⟩
  | j+2,hj=>simp at hj⟩
 refine ⟨fnOf "law" "law" (defArgs ja) (defBody ja) (defScope ja) .none q7.kV50 q7.dc50 q7.pm50 q7.an50 q7.cd50 q7.ct50,fun s v=> .of_eq rfl,fun base _ _=>?_⟩
 have D:DD K mg Ca Cb Cc Cd Ce Cf Cg Ch Ci:=⟨dfY q5.l36 (mg_of X G q5.l36.a) (by walk_at "b2"),dfY q6.l37 (mg_of X G q6.l37.a) (by walk_at "b2"),dkY q3.l10 q3.mk10 q3.a10 q3.i10 q3.kc10 (mg_of X G q0.m_Net) (by walk_at "b1"),dfY q3.l4 (mg_of X G q3.l4.a) (by walk_at "b2"),dfY q3.l5 (mg_of X G q3.l5.a) (by walk_at "b1"),dmY q4.l13 T.c_Net (by walk_at "b2"),dfY q3.l2 (mg_of X G q3.l2.a) (by walk_at "b1"),dmY q4.l17 T.c_Net (by walk_at "b2"),dmY q4.l18 T.c_Net (by walk_at "b2"),dfY q6.l38 (mg_of X G q6.l38.a) (by walk_at "b2"),dfY q6.l39 (mg_of X G q6.l39.a) (by walk_at "b3"),dfY q6.l40 (mg_of X G q6.l40.a) (by walk_at "b3"),dmY q4.l14 T.c_Net (by walk_at "b2"),dfY q3.l3 (mg_of X G q3.l3.a) (by walk_at "b3"),dfY q3.l7 (mg_of X G q3.l7.a) (by walk_at "b2"),dfY q3.l8 (mg_of X G q3.l8.a) (by walk_at "b1"),dkY q3.l9 q3.mk9 q3.a9 q3.i9 q3.kc9 (mg_of X G q0.m_Tie) (by walk_at "b7"),dmY q4.l16 T.c_Net (by walk_at "b7"),D_Net_put_tie,dfY q7.l49 (mg_of X G q7.l49.a) (by walk_at "b5"),dmY q4.l19 T.c_Net (by walk_at "b1"),dfY q3.l6 (mg_of X G q3.l6.a) (by walk_at "b3"),dmY q3.l11 T.c_Net (by walk_at "b1"),dmY q3.l12 T.c_Net (by walk_at "b1"),dkY q5.l32 q5.mk32 q5.a32 q5.i32 q5.kc32 (mg_of X G q0.m_TiesApart) (by walk_at "b4"),D_BadQuestion_init,dkY q5.l34 q5.mk34 q5.a34 q5.i34 q5.kc34 (mg_of X G q0.m_PlacesApart) (by walk_at "b4"),dfY q6.l47 (mg_of X G q6.l47.a) (by walk_at "b4"),dkY q4.l20 q4.mk20 q4.a20 q4.i20 q4.kc20 (mg_of X G q0.m_Rest) (by walk_at "b2"),D_Rest_put_arc,dmY q4.l23 T.c_Rest (by walk_at "b3"),dmY q4.l24 T.c_Rest (by walk_at "b3"),dmY q5.l25 T.c_Rest (by walk_at "b3"),dmY q5.l26 T.c_Rest (by walk_at "b3"),dmY q5.l27 T.c_Rest (by walk_at "b3"),dmY q4.l22 T.c_Rest (by walk_at "b2"),dfY q5.l30 (mg_of X G q5.l30.a) (by walk_at "b3"),dfY q5.l31 (mg_of X G q5.l31.a) (by walk_at "b5"),dmY q5.l28 T.c_Rest (by walk_at "b2"),dkY q5.l29 q5.mk29 q5.a29 q5.i29 q5.kc29 (mg_of X G q0.m_Apart) (by walk_at "b3"),dmY q5.l33 T.c_TiesApart (by walk_at "b1"),dmY q5.l35 T.c_PlacesApart (by walk_at "b1"),dfY q6.l42 (mg_of X G q6.l42.a) (by walk_at "b4"),dfY q6.l41 (mg_of X G q6.l41.a) (by walk_at "b3"),dfY q6.l43 (mg_of X G q6.l43.a) (by walk_at "b4"),dfY q6.l44 (mg_of X G q6.l44.a) (by walk_at "b5"),dfY q6.l45 (mg_of X G q6.l45.a) (by walk_at "b6"),dfY q6.l46 (mg_of X G q6.l46.a) (by walk_at "b1"),dfY q6.l48 (mg_of X G q6.l48.a) (by walk_at "b4")⟩
 exact (c_law T D (L2.fun_mk (st:=ja) q7.l50 q7.c50 q7.k50)).imp fun _ _ _ _ h=>law_sp h
end T
set_option maxHeartbeats 0 in
theorem PySem.Challenge.cw_flowhall_k27_ways_apart_holds : PySem.Challenge.rw_flowhall_k27_ways_apart.Holds := by
 refine T.fin ?_
 refine L2.walk_of (l:=PySem.Challenge.rw_flowhall_k27_ways_apart) (n:=63) (k:=7) (x:= "_law_script") (CX:=fun _=>L2.CX0) (sp:=fun w=>T.xR _) rfl (by decide) T.hdT9 ⟨rfl,by decide,by decide⟩ (fun w h Y=>PySem.W.kIn_of Y) (fun w mg fa h KX G hmg=>T.all_mk KX G hmg (T.q0 _) (T.q1 _) (T.q2 _) (T.q3 _) (T.q4 _) (T.q5 _) (T.q6 _) (T.q7 _)) (fun _ _ a ns hl _ hS=>⟨a,ns,rfl,hS,hl,fun _=>rfl⟩) (fun _ _ _ _ _ z=>z)

