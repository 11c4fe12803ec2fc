import PyProof.Rows.All
import Wide.All
import OpenK.AllK
import Wide.FinOn
import HandS.ForMost
import HandS.IsInst
import HandS.Codes
import HandS.WideBits
import HandS.TupAny
import HandS.SortInts
import HandS.StrMore
import HandS.Walk
import HandS.EndBits
import HandS.More
import HandS.Zip
import PyProof.StrBlock2
import HandS.Rev
import PyProof.JoinWalk
import HandS.CallSlots
import HandS.Defaults
import HandS.DictComp
import HandS.DictEq
import HandS.Style
import HandS.WordsExc
import HandS.Finally
import HandS.ExcInit
import HandS.ExcIs
import HandS.TryOnly
import KE.KExcIs
import HandS.ExcField
import HandS.RaiseMore
import KE.OsRunLaw
import KE.DataFind
import HandS.Lambda
import HandS.EndTab
import HandS.HeadWalk
import KE.SortKeyHeap
import HandS.SetFor
import PySem.Challenge.RW_flowhall_k24_pairs
set_option Elab.async false
set_option linter.all false
set_option maxRecDepth 100000
namespace HR
open PySem PySem.W PySem.Calls PyProof.Rows HeadRun
section
theorem ke {α β γ:Type} {o:Option α} {f:α→β×γ} {a:β×γ} (e1:o.map (fun s=>(f s).1)=some a.1) (e2:o.map (fun s=>(f s).2)=some a.2):o.map f=some a:=by
 cases o with
 | none=>cases e1
 | some x=>
  injection e1 with e1
  injection e2 with e2
  show some (f x)=some a
  rw [show f x=a from Prod.ext e1 e2]
theorem mapT3 {α β γ δ:Type} {o:Option α} {f:α→β} {g:α→γ} {h:α→δ} {a:β} {b:γ} {c:δ} (e1:o.map f=some a) (e2:o.map g=some b) (e3:o.map h=some c):o.map (fun s=>(f s,g s,h s))=some (a,b,c):=by
 cases o with
 | none=>cases e1
 | some x=>
  injection e1 with e1
  injection e2 with e2
  injection e3 with e3
  show some (f x,g x,h x)=some (a,b,c)
  rw [e1,e2,e3]
noncomputable abbrev pw:Program:=PySem.Challenge.pw_flowhall_k24_pairs
noncomputable def vw:Program:= {pw with main:= {pw.main with body:= [0,2,3,5,6,7,8,10,12,13,14,15,16,17,19,20,21,22,23].map fun i=>pw.main.body.getD i (.Pass ⟨0,0,0,0⟩)}}
noncomputable def lo:List PySem.Str:= []
noncomputable def lv:List (PySem.Str×WData):= []
noncomputable def gd:=openGood vw lo
noncomputable def sn (s:SharedT):=seenQ vw lo (importedModules pw.main.body) (fun s=>xlAt vw lv s&&recOk [] s) s.abs
noncomputable def run (w:World) (os:OsState):Option SharedT:=endF (stepQ (denQ tabQ) pw w) 4302 pw w os
theorem b0:∀(w:World) (os:OsState),(run w os).map (fun s=>looksF pw (boot_heap w.params) s.abs)=some true:=by
 intro w os
 kernel_rfl
theorem b1:∀(w:World) (os:OsState),(run w os).map (fun s=>(sn s).1)=some (gd.1):=by
 intro w os
 dsimp only [sn,HeadRun.seenQ,PySem.W.Fast.tw4187177175401517315,gd,openGood]
 kernel_rfl
theorem b2:∀(w:World) (os:OsState),(run w os).map (fun s=>(sn s).2.1)=some (gd.2.1):=by
 intro w os
 dsimp only [sn,HeadRun.seenQ,PySem.W.Fast.tw4187177175401517315,gd,openGood]
 kernel_rfl
theorem b3:∀(w:World) (os:OsState),(run w os).map (fun s=>(sn s).2.2.1)=some (gd.2.2.1):=by
 intro w os
 dsimp only [sn,HeadRun.seenQ,PySem.W.Fast.tw4187177175401517315,gd,openGood]
 kernel_rfl
theorem b4:∀(w:World) (os:OsState),(run w os).map (fun s=>(sn s).2.2.2.1)=some (gd.2.2.2.1):=by
 intro w os
 dsimp only [sn,HeadRun.seenQ,PySem.W.Fast.tw4187177175401517315,gd,openGood]
 kernel_rfl
theorem b5:∀(w:World) (os:OsState),(run w os).map (fun s=>(sn s).2.2.2.2.1)=some (gd.2.2.2.2.1):=by
 intro w os
 dsimp only [sn,HeadRun.seenQ,PySem.W.Fast.tw4187177175401517315,gd,openGood]
 kernel_rfl
theorem b6:∀(w:World) (os:OsState),(run w os).map (fun s=>(sn s).2.2.2.2.2.1)=some (gd.2.2.2.2.2.1):=by
 intro w os
 dsimp only [sn,HeadRun.seenQ,PySem.W.Fast.tw4187177175401517315,gd,openGood]
 kernel_rfl
theorem b7:∀(w:World) (os:OsState),(run w os).map (fun s=>(sn s).2.2.2.2.2.2.1)=some (gd.2.2.2.2.2.2.1):=by
 intro w os
 dsimp only [sn,HeadRun.seenQ,PySem.W.Fast.tw4187177175401517315,gd,openGood]
 kernel_rfl
theorem b8:∀(w:World) (os:OsState),(run w os).map (fun s=>(sn s).2.2.2.2.2.2.2.1)=some (gd.2.2.2.2.2.2.2.1):=by
 intro w os
 dsimp only [sn,HeadRun.seenQ,PySem.W.Fast.tw4187177175401517315,gd,openGood]
 kernel_rfl
theorem b9:∀(w:World) (os:OsState),(run w os).map (fun s=>(sn s).2.2.2.2.2.2.2.2)=some (gd.2.2.2.2.2.2.2.2):=by
 intro w os
 dsimp only [sn,HeadRun.seenQ,PySem.W.Fast.tw4187177175401517315,gd,openGood]
 kernel_rfl
theorem seen_all (w:World) (os:OsState):(run w os).map sn=some gd:=ke (b1 w os) (ke (b2 w os) (ke (b3 w os) (ke (b4 w os) (ke (b5 w os) (ke (b6 w os) (ke (b7 w os) (ke (b8 w os) (b9 w os))))))))
def v (s:String) (n:Nat):Value:= .str (PySem.Str.ofString s) n
def r (a:Nat):Value:= .ref a
def i (a:Int) (n:Nat):Value:= .int a n
def z:Value:= .none
def t:Value:= .bool true
def bu (s:String):Value:= .builtin s
def ty (s:String):Value:= .type s
noncomputable def e (P:Params) (s:String) (n:Nat) (x:Value):DictEntry:=⟨PyData.keyHash P (PySem.Str.ofString s),v s n,x⟩
def T (l:List Value) (n:Nat:=0):Obj:= {cls:= .type "tuple",data:= .seq l.toArray n}
def D (l:List DictEntry) (n:Nat:=0):Obj:= {cls:= .type "dict",data:= .dict l.toArray n}
def C (l:List Value):Obj:= {cls:= .type "code",data:= .fields l.toArray}
def G (l:List Value):Obj:= {cls:= .type "getset_descriptor",data:= .fields l.toArray}
def c (n q:String) (a b d l m f1 f2 f3 f4 r1 r2:Nat) (x:Value) (r3 r4 r5 m2:Nat) (k:Nat) (f:String):Obj:=C [v n a,v q b,v f d,i l 0,i m 0,i f1 0,i f2 0,i f3 0,r r1,t,i f4 0,r r2,x,r r3,r r4,r r5,i m2 0,i l 0,v f k]
noncomputable def tp (i:Nat):Stmt:=pw.main.body.getD i (.Pass ⟨0,0,0,0⟩)
noncomputable def F (S:Stmt) (n q:String) (dv kV dc pm:Value) (an:Option Addr) (cd ct:Value):Obj:= {cls:= .type "function",data:= .func {name:=PySem.Str.ofString n,qualname:=PySem.Str.ofString q,params:=L2.defArgs S,body:= .stmts (L2.defBody S),scope:=L2.defScope S,globals:=3,closure:= [],defaults:=dv,kwdefaults:=kV,doc:=dc,pyModule:=pm,annotations:=an,code:=cd,closureTuple:=ct}}
noncomputable def ob (P:Params):Frag:=(nat_lit 2,{cls:=z,data:=Data.dict #[]})::
 (nat_lit 3,D [e P "__name__" 165 (v "law_flowhall_k24_pairs" 506),e P "__doc__" 166 z,e P "__package__" 167 z,e P "__loader__" 168 (bu "__main__.__loader__#opaque"),e P "__spec__" 169 z,e P "__annotations__" 170 (r 6),e P "__builtins__" 171 (r 4),e P "__file__" 173 (v "/claim/cut.py" 172),e P "__cached__" 174 z,e P "_wall" 193 (r 21),e P "FlowError" 213 (r 31),e P "BadQuestion" 238 (r 51),e P "LETTERS" 242 (v "abcdefghijklmnopqrstuvwxyz" 241),e P "MOST_LETTERS" 244 (i 12 243),e P "are_signs" 250 (r 58),e P "is_name" 257 (r 65),e P "Rest" 388 (r 147),e P "MOST_NAMES" 392 (i 7 391),e P "Paired" 423 (r 168),e P "own_names" 432 (r 179),e P "own_friends" 443 (r 186),e P "Question" 470 (r 203),e P "Pairs" 505 (r 229),e P "_law_number" 517 (r 238),e P "_law_names" 523 (r 243),e P "_law_paired" 529 (r 248),e P "_law_asked" 545 (r 255),e P "law" 560 (r 262)] 28)::
 (nat_lit 15,T [])::
 (nat_lit 17,T [v "k" 190])::
 (nat_lit 18,T [])::
 (nat_lit 20,c "_wall" "_wall" 187 188 189 1 1 0 0 3 181 15 16 z 17 18 19 191 192 "/claim/cut.py")::
 (nat_lit 21,F (tp 0) "_wall" "_wall" z z z (v "__main__" 164) none (r 20) z)::
 (nat_lit 22,T [ty "ValueError"])::
 (nat_lit 29,T [])::
 (nat_lit 30,D [e P "__module__" 203 (v "flowhall.errors" 194),e P "__firstlineno__" 207 (i 5 206),e P "__static_attributes__" 208 (r 29),e P "__weakref__" 210 (r 32),e P "__doc__" 211 z] 3)::
 (nat_lit 31,{cls:=ty "type",data:=Data.cls {name:=Str.ofString "FlowError",bases:= [ty "ValueError"],mro:= [r 31,ty "ValueError",ty "Exception",ty "BaseException",ty "object"],ns:=30,qualname:=Str.ofString "FlowError",subclasses:= [r 51]},slots:= #[Option.some (r 22),Option.none,Option.some (v "FlowError" 196),Option.some (v "FlowError" 204),Option.some (bu "ValueError.__new__"),Option.some (t)]})::
 (nat_lit 32,G [v "__weakref__" 209,r 31,bu "ExceptionGroup.__weakref__",z])::
 (nat_lit 35,T [r 31])::
 (nat_lit 42,T [])::
 (nat_lit 44,T [v "self" 229,v "why" 230])::
 (nat_lit 45,T [])::
 (nat_lit 47,c "__init__" "BadQuestion.__init__" 226 227 228 9 2 0 0 3 181 42 43 z 44 45 46 231 232 "/claim/cut.py")::
 (nat_lit 48,F (L2.inClass (tp 3) 0) "__init__" "BadQuestion.__init__" z z z (v "flowhall.errors" 194) none (r 47) z)::
 (nat_lit 49,T [v "why" 234])::
 (nat_lit 50,D [e P "__module__" 221 (v "flowhall.errors" 194),e P "__firstlineno__" 225 (i 7 224),e P "__init__" 233 (r 48),e P "__static_attributes__" 235 (r 49),e P "__doc__" 236 z] 2)::
 (nat_lit 51,{cls:=ty "type",data:=Data.cls {name:=Str.ofString "BadQuestion",bases:= [r 31],mro:= [r 51,r 31,ty "ValueError",ty "Exception",ty "BaseException",ty "object"],ns:=50,qualname:=Str.ofString "BadQuestion" },slots:= #[Option.some (r 35),Option.none,Option.some (v "BadQuestion" 214),Option.some (v "BadQuestion" 222),Option.some (bu "ValueError.__new__"),Option.some (t)]})::
 (nat_lit 54,T [])::
 (nat_lit 57,C [v "are_signs" 245,v "are_signs" 246,v "/claim/cut.py" 247,i 14 0,i 2 0,i 0 0,i 0 0,i 3 0,r 54,t,i 181 0,r 55,z,z,z,r 56,i 248 0,i 14 0,v "/claim/cut.py" 249])::
 (nat_lit 58,F (tp 7) "are_signs" "are_signs" z z z (v "flowhall.words" 239) none (r 57) z)::
 (nat_lit 59,T [])::
 (nat_lit 61,T [v "thing" 254])::
 (nat_lit 62,T [])::
 (nat_lit 64,c "is_name" "is_name" 251 252 253 16 1 0 0 3 181 59 60 z 61 62 63 255 256 "/claim/cut.py")::
 (nat_lit 65,F (tp 8) "is_name" "is_name" z z z (v "flowhall.words" 239) none (r 64) z)::
 (nat_lit 73,T [])::
 (nat_lit 76,C [v "__init__" 272,v "Rest.__init__" 273,v "/claim/cut.py" 274,i 21 0,i 2 0,i 0 0,i 0 0,i 3 0,r 73,t,i 181 0,r 74,z,z,z,r 75,i 275 0,i 21 0,v "/claim/cut.py" 276])::
 (nat_lit 77,F (L2.inClass (tp 10) 0) "__init__" "Rest.__init__" z z z (v "flowhall.rests" 258) none (r 76) z)::
 (nat_lit 78,T [i 0 278])::
 (nat_lit 79,T [])::
 (nat_lit 81,T [v "self" 282,v "tail" 283,v "head" 284,v "room" 285,v "back" 286,v "begin" 287,v "end" 288,v "own" 289])::
 (nat_lit 82,T [])::
 (nat_lit 84,c "put_arc" "Rest.put_arc" 279 280 281 27 5 0 0 3 181 79 80 z 81 82 83 290 291 "/claim/cut.py")::
 (nat_lit 85,F (L2.inClass (tp 10) 1) "put_arc" "Rest.put_arc" (r 78) z z (v "flowhall.rests" 258) none (r 84) z)::
 (nat_lit 86,T [])::
 (nat_lit 88,T [v "self" 296,v "arc" 297])::
 (nat_lit 89,T [])::
 (nat_lit 91,c "room_of" "Rest.room_of" 293 294 295 34 2 0 0 3 181 86 87 z 88 89 90 298 299 "/claim/cut.py")::
 (nat_lit 92,F (L2.inClass (tp 10) 2) "room_of" "Rest.room_of" z z z (v "flowhall.rests" 258) none (r 91) z)::
 (nat_lit 93,T [])::
 (nat_lit 95,T [v "self" 304,v "arc" 305])::
 (nat_lit 96,T [])::
 (nat_lit 98,c "back_of" "Rest.back_of" 301 302 303 37 2 0 0 3 181 93 94 z 95 96 97 306 307 "/claim/cut.py")::
 (nat_lit 99,F (L2.inClass (tp 10) 3) "back_of" "Rest.back_of" z z z (v "flowhall.rests" 258) none (r 98) z)::
 (nat_lit 100,T [])::
 (nat_lit 102,T [v "self" 312,v "half" 313,v "is_endless" 314,v "room" 315])::
 (nat_lit 103,T [])::
 (nat_lit 105,c "lets" "Rest.lets" 309 310 311 40 3 0 0 3 181 100 101 z 102 103 104 316 317 "/claim/cut.py")::
 (nat_lit 106,F (L2.inClass (tp 10) 4) "lets" "Rest.lets" z z z (v "flowhall.rests" 258) none (r 105) z)::
 (nat_lit 107,T [])::
 (nat_lit 109,T [v "self" 322,v "source" 323,v "is_endless" 324,v "came" 325,v "seen" 326,v "row" 327,v "at" 328,v "half" 329,v "head" 330])::
 (nat_lit 110,T [])::
 (nat_lit 112,c "walked" "Rest.walked" 319 320 321 44 3 0 0 3 181 107 108 z 109 110 111 331 332 "/claim/cut.py")::
 (nat_lit 113,F (L2.inClass (tp 10) 5) "walked" "Rest.walked" z z z (v "flowhall.rests" 258) none (r 112) z)::
 (nat_lit 114,T [])::
 (nat_lit 116,T [v "self" 337,v "came" 338,v "target" 339,v "way" 340,v "point" 341])::
 (nat_lit 117,T [])::
 (nat_lit 119,c "way_to" "Rest.way_to" 334 335 336 60 3 0 0 3 181 114 115 z 116 117 118 342 343 "/claim/cut.py")::
 (nat_lit 120,F (L2.inClass (tp 10) 6) "way_to" "Rest.way_to" z z z (v "flowhall.rests" 258) none (r 119) z)::
 (nat_lit 121,T [])::
 (nat_lit 123,T [v "self" 348,v "half" 349,v "amount" 350,v "one" 351,v "own" 352])::
 (nat_lit 124,T [])::
 (nat_lit 126,c "change" "Rest.change" 345 346 347 69 3 0 0 3 181 121 122 z 123 124 125 353 354 "/claim/cut.py")::
 (nat_lit 127,F (L2.inClass (tp 10) 7) "change" "Rest.change" z z z (v "flowhall.rests" 258) none (r 126) z)::
 (nat_lit 128,T [])::
 (nat_lit 131,C [v "lift" 356,v "Rest.lift" 357,v "/claim/cut.py" 358,i 74 0,i 3 0,i 0 0,i 0 0,i 3 0,r 128,t,i 181 0,r 129,z,z,z,r 130,i 359 0,i 74 0,v "/claim/cut.py" 360])::
 (nat_lit 132,F (L2.inClass (tp 10) 8) "lift" "Rest.lift" z z z (v "flowhall.rests" 258) none (r 131) z)::
 (nat_lit 133,T [])::
 (nat_lit 136,C [v "reached" 362,v "Rest.reached" 363,v "/claim/cut.py" 364,i 85 0,i 2 0,i 0 0,i 0 0,i 3 0,r 133,t,i 181 0,r 134,z,z,z,r 135,i 365 0,i 85 0,v "/claim/cut.py" 366])::
 (nat_lit 137,F (L2.inClass (tp 10) 9) "reached" "Rest.reached" z z z (v "flowhall.rests" 258) none (r 136) z)::
 (nat_lit 138,T [])::
 (nat_lit 140,T [v "self" 371,v "source" 372,v "target" 373])::
 (nat_lit 141,T [])::
 (nat_lit 143,c "endless" "Rest.endless" 368 369 370 89 3 0 0 3 181 138 139 z 140 141 142 374 375 "/claim/cut.py")::
 (nat_lit 144,F (L2.inClass (tp 10) 10) "endless" "Rest.endless" z z z (v "flowhall.rests" 258) none (r 143) z)::
 (nat_lit 145,T [v "heads" 377,v "many" 378,v "rooms" 379,v "starts" 380])::
 (nat_lit 146,D [e P "__module__" 267 (v "flowhall.rests" 258),e P "__firstlineno__" 271 (i 19 270),e P "__init__" 277 (r 77),e P "put_arc" 292 (r 85),e P "room_of" 300 (r 92),e P "back_of" 308 (r 99),e P "lets" 318 (r 106),e P "walked" 333 (r 113),e P "way_to" 344 (r 120),e P "change" 355 (r 127),e P "lift" 361 (r 132),e P "reached" 367 (r 137),e P "endless" 376 (r 144),e P "__static_attributes__" 381 (r 145),e P "__dict__" 383 (r 148),e P "__weakref__" 385 (r 149),e P "__doc__" 386 z] 4)::
 (nat_lit 147,{cls:=ty "type",data:=Data.cls {name:=Str.ofString "Rest",bases:= [ty "object"],mro:= [r 147,ty "object"],ns:=146,qualname:=Str.ofString "Rest" },slots:= #[Option.none,Option.none,Option.some (v "Rest" 260),Option.some (v "Rest" 268),Option.some (bu "object.__new__"),Option.some (t)]})::
 (nat_lit 148,G [v "__dict__" 382,r 147,bu "function.__dict__",bu "function.__dict__#set"])::
 (nat_lit 149,G [v "__weakref__" 384,r 147,bu "ExceptionGroup.__weakref__",z])::
 (nat_lit 159,T [])::
 (nat_lit 161,T [v "self" 408,v "pairs" 409,v "cover" 410])::
 (nat_lit 162,T [])::
 (nat_lit 164,c "__init__" "Paired.__init__" 405 406 407 95 3 0 0 3 181 159 160 z 161 162 163 411 412 "/claim/cut.py")::
 (nat_lit 165,F (L2.inClass (tp 13) 0) "__init__" "Paired.__init__" z z z (v "flowhall.questions" 389) none (r 164) z)::
 (nat_lit 166,T [v "cover" 414,v "pairs" 415])::
 (nat_lit 167,D [e P "__module__" 400 (v "flowhall.questions" 389),e P "__firstlineno__" 404 (i 93 403),e P "__init__" 413 (r 165),e P "__static_attributes__" 416 (r 166),e P "__dict__" 418 (r 169),e P "__weakref__" 420 (r 170),e P "__doc__" 421 z] 4)::
 (nat_lit 168,{cls:=ty "type",data:=Data.cls {name:=Str.ofString "Paired",bases:= [ty "object"],mro:= [r 168,ty "object"],ns:=167,qualname:=Str.ofString "Paired" },slots:= #[Option.none,Option.none,Option.some (v "Paired" 393),Option.some (v "Paired" 401),Option.some (bu "object.__new__"),Option.some (t)]})::
 (nat_lit 169,G [v "__dict__" 417,r 168,bu "function.__dict__",bu "function.__dict__#set"])::
 (nat_lit 170,G [v "__weakref__" 419,r 168,bu "ExceptionGroup.__weakref__",z])::
 (nat_lit 173,T [])::
 (nat_lit 175,T [v "names" 427,v "place" 428,v "name" 429])::
 (nat_lit 176,T [])::
 (nat_lit 178,c "own_names" "own_names" 424 425 426 98 1 0 0 3 181 173 174 z 175 176 177 430 431 "/claim/cut.py")::
 (nat_lit 179,F (tp 14) "own_names" "own_names" z z z (v "flowhall.questions" 389) none (r 178) z)::
 (nat_lit 180,T [])::
 (nat_lit 182,T [v "friends" 436,v "lefts" 437,v "rights" 438,v "place" 439,v "pair" 440])::
 (nat_lit 183,T [])::
 (nat_lit 185,c "own_friends" "own_friends" 433 434 435 105 3 0 0 3 181 180 181 z 182 183 184 441 442 "/claim/cut.py")::
 (nat_lit 186,F (tp 15) "own_friends" "own_friends" z z z (v "flowhall.questions" 389) none (r 185) z)::
 (nat_lit 194,T [])::
 (nat_lit 196,T [v "self" 459])::
 (nat_lit 197,T [])::
 (nat_lit 199,c "answer" "Question.answer" 456 457 458 116 1 0 0 3 181 194 195 z 196 197 198 460 461 "/claim/cut.py")::
 (nat_lit 200,F (L2.inClass (tp 16) 0) "answer" "Question.answer" z z z (v "flowhall.questions" 389) none (r 199) z)::
 (nat_lit 201,T [])::
 (nat_lit 202,D [e P "__module__" 451 (v "flowhall.questions" 389),e P "__firstlineno__" 455 (i 114 454),e P "answer" 462 (r 200),e P "__static_attributes__" 463 (r 201),e P "__dict__" 465 (r 204),e P "__weakref__" 467 (r 205),e P "__doc__" 468 z] 4)::
 (nat_lit 203,{cls:=ty "type",data:=Data.cls {name:=Str.ofString "Question",bases:= [ty "object"],mro:= [r 203,ty "object"],ns:=202,qualname:=Str.ofString "Question",subclasses:= [r 229]},slots:= #[Option.none,Option.none,Option.some (v "Question" 444),Option.some (v "Question" 452),Option.some (bu "object.__new__"),Option.some (t)]})::
 (nat_lit 204,G [v "__dict__" 464,r 203,bu "function.__dict__",bu "function.__dict__#set"])::
 (nat_lit 205,G [v "__weakref__" 466,r 203,bu "ExceptionGroup.__weakref__",z])::
 (nat_lit 208,T [r 203])::
 (nat_lit 215,T [])::
 (nat_lit 217,T [v "self" 486,v "lefts" 487,v "rights" 488,v "friends" 489])::
 (nat_lit 218,T [])::
 (nat_lit 220,c "__init__" "Pairs.__init__" 483 484 485 120 4 0 0 3 181 215 216 z 217 218 219 490 491 "/claim/cut.py")::
 (nat_lit 221,F (L2.inClass (tp 17) 0) "__init__" "Pairs.__init__" z z z (v "flowhall.questions" 389) none (r 220) z)::
 (nat_lit 222,T [])::
 (nat_lit 225,C [v "answer" 493,v "Pairs.answer" 494,v "/claim/cut.py" 495,i 125 0,i 1 0,i 0 0,i 0 0,i 3 0,r 222,t,i 181 0,r 223,z,z,z,r 224,i 496 0,i 125 0,v "/claim/cut.py" 497])::
 (nat_lit 226,F (L2.inClass (tp 17) 1) "answer" "Pairs.answer" z z z (v "flowhall.questions" 389) none (r 225) z)::
 (nat_lit 227,T [v "friends" 499,v "lefts" 500,v "rights" 501])::
 (nat_lit 228,D [e P "__module__" 478 (v "flowhall.questions" 389),e P "__firstlineno__" 482 (i 118 481),e P "__init__" 492 (r 221),e P "answer" 498 (r 226),e P "__static_attributes__" 502 (r 227),e P "__doc__" 503 z] 2)::
 (nat_lit 229,{cls:=ty "type",data:=Data.cls {name:=Str.ofString "Pairs",bases:= [r 203],mro:= [r 229,r 203,ty "object"],ns:=228,qualname:=Str.ofString "Pairs" },slots:= #[Option.some (r 208),Option.none,Option.some (v "Pairs" 471),Option.some (v "Pairs" 479),Option.some (bu "object.__new__"),Option.some (t)]})::
 (nat_lit 232,T [])::
 (nat_lit 234,T [v "_law_script" 511,v "_law_k" 512,v "_law_cell" 513,v "_law_more" 514])::
 (nat_lit 235,T [])::
 (nat_lit 237,c "_law_number" "_law_number" 508 509 510 143 2 0 0 3 181 232 233 z 234 235 236 515 516 "/claim/cut.py")::
 (nat_lit 238,F (tp 19) "_law_number" "_law_number" z z z (v "law_flowhall_k24_pairs" 506) none (r 237) z)::
 (nat_lit 239,T [])::
 (nat_lit 242,C [v "_law_names" 518,v "_law_names" 519,v "/claim/cut.py" 520,i 149 0,i 2 0,i 0 0,i 0 0,i 3 0,r 239,t,i 181 0,r 240,z,z,z,r 241,i 521 0,i 149 0,v "/claim/cut.py" 522])::
 (nat_lit 243,F (tp 20) "_law_names" "_law_names" z z z (v "law_flowhall_k24_pairs" 506) none (r 242) z)::
 (nat_lit 244,T [])::
 (nat_lit 247,C [v "_law_paired" 524,v "_law_paired" 525,v "/claim/cut.py" 526,i 159 0,i 4 0,i 0 0,i 0 0,i 3 0,r 244,t,i 181 0,r 245,z,z,z,r 246,i 527 0,i 159 0,v "/claim/cut.py" 528])::
 (nat_lit 248,F (tp 21) "_law_paired" "_law_paired" z z z (v "law_flowhall_k24_pairs" 506) none (r 247) z)::
 (nat_lit 249,T [])::
 (nat_lit 251,T [v "_law_lefts" 533,v "_law_rights" 534,v "_law_friends" 535,v "_law_handed" 536,v "_law_question" 537,v "_law_one" 538,v "_law_found" 539,v "_law_kept" 540,v "_law_alike" 541,v "_law_later" 542])::
 (nat_lit 252,T [])::
 (nat_lit 254,c "_law_asked" "_law_asked" 530 531 532 178 3 0 0 3 181 249 250 z 251 252 253 543 544 "/claim/cut.py")::
 (nat_lit 255,F (tp 22) "_law_asked" "_law_asked" z z z (v "law_flowhall_k24_pairs" 506) none (r 254) z)::
 (nat_lit 256,T [])::
 (nat_lit 258,T [v "_law_script" 549,v "_law_number_here" 550,v "_law_lefts" 551,v "_law_other" 552,v "_law_rights" 553,v "_law_friends" 554,v "_law_k" 555,v "_law_more" 556,v "_law_pair" 557])::
 (nat_lit 259,T [])::
 (nat_lit 261,c "law" "law" 546 547 548 194 1 0 0 3 181 256 257 z 258 259 260 558 559 "/claim/cut.py")::
 (nat_lit 262,F (tp 23) "law" "law" z z z (v "law_flowhall_k24_pairs" 506) none (r 261) z):: []
def oa:List Addr:= [2,3,15,17,18,20,21,22,29,30,31,32,35,42,44,45,47,48,49,50,51,54,57,58,59,61,62,64,65,73,76,77,78,79,81,82,84,85,86,88,89,91,92,93,95,96,98,99,100,102,103,105,106,107,109,110,112,113,114,116,117,119,120,121,123,124,126,127,128,131,132,133,136,137,138,140,141,143,144,145,146,147,148,149,159,161,162,164,165,166,167,168,169,170,173,175,176,178,179,180,182,183,185,186,194,196,197,199,200,201,202,203,204,205,208,215,217,218,220,221,222,225,226,227,228,229,232,234,235,237,238,239,242,243,244,247,248,249,251,252,254,255,256,258,259,261,262]
noncomputable def oT (P:Params):Frag:=(nat_lit 223,{cls:= .none,data:= .fields #[]})::ob P
def oaT:List Addr:=223::oa
theorem b10:∀(w:World) (os:OsState),(run w os).map (fun s=>oaT.map (getT s))=some ((oT w.params).map fun x=>some x.2):=by
 intro w os
 kernel_rfl
end
end HR
namespace T
open PySem PySem.Spec PyProof.Rows L2
open PySem.W (Frag codeIn findIn fnOf hasDictIn isFn keepIn makesIn mroIn nsIn plainGet plainOver specialIn subIn takesIn typeIn)
def top (i:Nat):Stmt:=PySem.Challenge.pw_flowhall_k24_pairs.main.body.getD i (.Pass ⟨0,0,0,0⟩)
abbrev gH:Stmt:=top 19
abbrev N_Lnumber:List Str:= ["_law_script","_law_k","_law_cell","_law_more"]
theorem dV:FnScope N_Lnumber ["_law_script","_law_k"] (L2.defScope gH):=⟨rfl,rfl,rfl,by decide+kernel,rfl,by decide+kernel,by decide+kernel⟩
abbrev iP:Stmt:=top 20
abbrev N_Lnames:List Str:= ["_law_number_here","_law_many","_law_letters","_law_step","_law_base","_law_border","_law_at","_law_signs","_law_j","_law_k","_law_sign"]
theorem aJ:FnScope N_Lnames ["_law_number_here","_law_many"] (L2.defScope iP):=⟨rfl,rfl,rfl,by decide+kernel,rfl,by decide+kernel,by decide+kernel⟩
abbrev eF:Stmt:=top 7
abbrev N_are_signs:List Str:= ["text","signs","sign"]
theorem dA:FnScope N_are_signs ["text","signs"] (L2.defScope eF):=⟨rfl,rfl,rfl,by decide+kernel,rfl,by decide+kernel,by decide+kernel⟩
abbrev gF:Stmt:=top 8
abbrev N_is_name:List Str:= ["thing"]
theorem oR:FnScope N_is_name ["thing"] (L2.defScope gF):=⟨rfl,rfl,rfl,by decide+kernel,rfl,by decide+kernel,by decide+kernel⟩
abbrev eE:Stmt:=top 14
abbrev N_own_names:List Str:= ["names","place","name"]
theorem dz:FnScope N_own_names ["names"] (L2.defScope eE):=⟨rfl,rfl,rfl,by decide+kernel,rfl,by decide+kernel,by decide+kernel⟩
abbrev cQ:Stmt:=top 15
abbrev N_own_friends:List Str:= ["friends","lefts","rights","place","pair"]
theorem cu:FnScope N_own_friends ["friends","lefts","rights"] (L2.defScope cQ):=⟨rfl,rfl,rfl,by decide+kernel,rfl,by decide+kernel,by decide+kernel⟩
abbrev dC:Stmt:=inClass (top 17) 0
abbrev N_Pairs_init:List Str:= ["self","lefts","rights","friends"]
theorem iO:FnScope N_Pairs_init ["self","lefts","rights","friends"] (L2.defScope dC):=⟨rfl,rfl,rfl,by decide+kernel,rfl,by decide+kernel,by decide+kernel⟩
abbrev eI:Stmt:=inClass (top 10) 0
abbrev N_Rest_init:List Str:= ["self","many","point"]
theorem dB:FnScope N_Rest_init ["self","many"] (L2.defScope eI):=⟨rfl,rfl,rfl,by decide+kernel,rfl,by decide+kernel,by decide+kernel⟩
abbrev aA:Stmt:=inClass (top 10) 1
abbrev N_Rest_put_arc:List Str:= ["self","tail","head","room","back","begin","end","own"]
theorem bo:FnScope N_Rest_put_arc ["self","tail","head","room","back"] (L2.defScope aA):=⟨rfl,rfl,rfl,by decide+kernel,rfl,by decide+kernel,by decide+kernel⟩
abbrev eH:Stmt:=inClass (top 10) 4
abbrev N_Rest_lets:List Str:= ["self","half","is_endless","room"]
theorem fV:FnScope N_Rest_lets ["self","half","is_endless"] (L2.defScope eH):=⟨rfl,rfl,rfl,by decide+kernel,rfl,by decide+kernel,by decide+kernel⟩
abbrev cS:Stmt:=inClass (top 10) 5
abbrev N_Rest_walked:List Str:= ["self","source","is_endless","came","seen","row","at","half","head"]
theorem sc_Rest_walked:FnScope N_Rest_walked ["self","source","is_endless"] (L2.defScope cS):=⟨rfl,rfl,rfl,by decide+kernel,rfl,by decide+kernel,by decide+kernel⟩
abbrev cR:Stmt:=inClass (top 10) 6
abbrev N_Rest_way_to:List Str:= ["self","came","target","way","point"]
theorem bA:FnScope N_Rest_way_to ["self","came","target"] (L2.defScope cR):=⟨rfl,rfl,rfl,by decide+kernel,rfl,by decide+kernel,by decide+kernel⟩
abbrev cT:Stmt:=inClass (top 10) 7
abbrev N_Rest_change:List Str:= ["self","half","amount","one","own"]
theorem cw:FnScope N_Rest_change ["self","half","amount"] (L2.defScope cT):=⟨rfl,rfl,rfl,by decide+kernel,rfl,by decide+kernel,by decide+kernel⟩
abbrev eG:Stmt:=inClass (top 10) 8
abbrev N_Rest_lift:List Str:= ["self","source","target","lifted","way","narrow","half"]
theorem sc_Rest_lift:FnScope N_Rest_lift ["self","source","target"] (L2.defScope eG):=⟨rfl,rfl,rfl,by decide+kernel,rfl,by decide+kernel,by decide+kernel⟩
abbrev cy:Stmt:=inClass (top 10) 3
abbrev N_Rest_back_of:List Str:= ["self","arc"]
theorem gE:FnScope N_Rest_back_of ["self","arc"] (L2.defScope cy):=⟨rfl,rfl,rfl,by decide+kernel,rfl,by decide+kernel,by decide+kernel⟩
abbrev cx:Stmt:=inClass (top 10) 9
abbrev N_Rest_reached:List Str:= ["self","source","came","point","half"]
theorem aT:FnScope N_Rest_reached ["self","source"] (L2.defScope cx):=⟨rfl,rfl,rfl,by decide+kernel,rfl,by decide+kernel,by decide+kernel⟩
abbrev cU:Stmt:=inClass (top 13) 0
abbrev N_Paired_init:List Str:= ["self","pairs","cover"]
theorem ia:FnScope N_Paired_init ["self","pairs","cover"] (L2.defScope cU):=⟨rfl,rfl,rfl,by decide+kernel,rfl,by decide+kernel,by decide+kernel⟩
abbrev cz:Stmt:=inClass (top 17) 1
abbrev N_Pairs_answer:List Str:= ["self","many","rest","first","last","place","arcs","left","right","pairs","come_to","cover","pair","arc","name"]
theorem sc_Pairs_answer:FnScope N_Pairs_answer ["self"] (L2.defScope cz):=⟨rfl,rfl,rfl,by decide+kernel,rfl,by decide+kernel,by decide+kernel⟩
abbrev gG:Stmt:=top 21
abbrev N_Lpaired:List Str:= ["_law_found","_law_lefts","_law_rights","_law_friends","_law_pair","_law_ones","_law_others","_law_row","_law_left","_law_right"]
theorem aX:FnScope N_Lpaired ["_law_found","_law_lefts","_law_rights","_law_friends"] (L2.defScope gG):=⟨rfl,rfl,rfl,by decide+kernel,rfl,by decide+kernel,by decide+kernel⟩
abbrev iQ:Stmt:=top 22
abbrev N_Lasked:List Str:= ["_law_lefts","_law_rights","_law_friends","_law_handed","_law_question","_law_one","_law_found","_law_kept","_law_alike","_law_later"]
theorem bH:FnScope N_Lasked ["_law_lefts","_law_rights","_law_friends"] (L2.defScope iQ):=⟨rfl,rfl,rfl,by decide+kernel,rfl,by decide+kernel,by decide+kernel⟩
abbrev bw:Stmt:=inClass (top 16) 0
abbrev N_Question_answer:List Str:= ["self"]
theorem eW:FnScope N_Question_answer ["self"] (L2.defScope bw):=⟨rfl,rfl,rfl,by decide+kernel,rfl,by decide+kernel,by decide+kernel⟩
abbrev eX:Stmt:=top 23
abbrev N_law:List Str:= ["_law_script","_law_number_here","_law_lefts","_law_other","_law_rights","_law_friends","_law_k","_law_more","_law_pair"]
theorem eV:FnScope N_law ["_law_script"] (L2.defScope eX):=⟨rfl,rfl,rfl,by decide+kernel,rfl,by decide+kernel,by decide+kernel⟩
structure FnAt (K:Frag) (f:Addr) (n q:Str) (st:Stmt):Prop where
 ex:∃(oc:Value) (od:Option Addr) (sl:Array (Option Value)) (kV dc pm:Value) (an:Option Addr) (cd ct:Value),K.lookup f=some ⟨oc,od, .func (fnOf n q (L2.defArgs st) (L2.defBody st) (L2.defScope st) .none kV dc pm an cd ct),sl⟩∧codeIn K cd q=true∧keepIn K (.ref f)=true
theorem FnAt.fn {K:Frag} {f:Addr} {n q:Str} {st:Stmt} (h:FnAt K f n q st):∃fd,L2.Fun K n q st f fd:=by
 obtain ⟨_,_,_,_,_,_,_,_,_,l,c,k⟩:=h.ex
 exact ⟨_,L2.fun_mk l c k⟩
structure FnG (K:Frag) (f:Addr) (q:Str) (st:Stmt):Prop where
 a:nsIn K mainGlobals q=some (some (.ref f))
 l:FnAt K f q q st
structure FnM (K:Frag) (C f:Addr) (m q:Str) (st:Stmt):Prop where
 a:findIn K (.ref C) m=some (some (.ref f))
 i:isFn K (.ref f)=true
 l:FnAt K f m q st
structure FnAtC (K:Frag) (f:Addr) (n q:Str) (st:Stmt) (c:Addr):Prop where
 ex:∃(oc:Value) (od:Option Addr) (sl:Array (Option Value)) (kV dc pm:Value) (an:Option Addr) (ct:Value),K.lookup f=some ⟨oc,od, .func (fnOf n q (L2.defArgs st) (L2.defBody st) (L2.defScope st) .none kV dc pm an (.ref c) ct),sl⟩∧codeIn K (.ref c) q=true∧keepIn K (.ref f)=true
structure FnMc (K:Frag) (C f:Addr) (m q:Str) (st:Stmt) (c:Addr):Prop where
 a:findIn K (.ref C) m=some (some (.ref f))
 i:isFn K (.ref f)=true
 l:FnAtC K f m q st c
def qg (K:Frag):L2.Sp:=fun vs H Q _=>∃(a:Addr) (ns:List Int),vs= [.ref a]∧L2.SqL K H a (ns.map L2.V.int)∧ns.length≤63∧(∀t∈([223]:List Addr),H t=some (.tbl #[]))∧∀H',Q (.bl true) H'
section
open HR (ob)
local macro_rules | `(tactic| trivial) => `(tactic| first | k_is | exact ⟨⟨_, _, _, _, _, _, _, _, _, by k_is, by k_is, by k_is⟩⟩ | exact ⟨⟨_, _, _, _, _, _, _, _, by k_is, by k_is, by k_is⟩⟩ | (constructor <;> trivial) | k_exc | rfl)
theorem kf0:PySem.Challenge.rw_flowhall_k24_pairs=PySem.Challenge.rw_flowhall_k24_pairs∧ob=ob:=by
 k_fill
 exact ⟨rfl,rfl⟩
set_option genSizeOf false in
set_option genInjectivity false in
structure Q0 (K:Frag) (Ca Cb Cc Cd:Addr) where
 (t_g_LETTERS:Tok)
 (t_g_MOST_LETTERS:Tok)
 (t_g_MOST_NAMES:Tok)
 (m_Rest:nsIn K mainGlobals "Rest" =some (some (.ref Ca)))
 (m_Paired:nsIn K mainGlobals "Paired" =some (some (.ref Cb)))
 (m_Question:nsIn K mainGlobals "Question" =some (some (.ref Cc)))
 (m_Pairs:nsIn K mainGlobals "Pairs" =some (some (.ref Cd)))
 (pg_CRest:plainGet K Ca Str.empty=true)
 (hd_CRest:hasDictIn K Ca=true)
 (po_CRest:plainOver K Ca=true)
 (sa_CRest:findIn K (.ref Ca) "__setattr__" =some (some (.builtin "object.__setattr__")))
 (pg_CPaired:plainGet K Cb Str.empty=true)
 (hd_CPaired:hasDictIn K Cb=true)
 (po_CPaired:plainOver K Cb=true)
 (sa_CPaired:findIn K (.ref Cb) "__setattr__" =some (some (.builtin "object.__setattr__")))
 (pg_CQuestion:plainGet K Cc Str.empty=true)
 (hd_CQuestion:hasDictIn K Cc=true)
 (po_CQuestion:plainOver K Cc=true)
 (sa_CQuestion:findIn K (.ref Cc) "__setattr__" =some (some (.builtin "object.__setattr__")))
 (pg_CPairs:plainGet K Cd Str.empty=true)
 (hd_CPairs:hasDictIn K Cd=true)
 (po_CPairs:plainOver K Cd=true)
 (sa_CPairs:findIn K (.ref Cd) "__setattr__" =some (some (.builtin "object.__setattr__")))
 (z_all:nsIn K mainGlobals "all" =some none)
 (z_bool:nsIn K mainGlobals "bool" =some none)
 (z_enumerate:nsIn K mainGlobals "enumerate" =some none)
 (z_isinstance:nsIn K mainGlobals "isinstance" =some none)
 (z_len:nsIn K mainGlobals "len" =some none)
 (z_list:nsIn K mainGlobals "list" =some none)
 (z_min:nsIn K mainGlobals "min" =some none)
 (z_range:nsIn K mainGlobals "range" =some none)
 (z_set:nsIn K mainGlobals "set" =some none)
 (z_sorted:nsIn K mainGlobals "sorted" =some none)
 (z_str:nsIn K mainGlobals "str" =some none)
 (z_tuple:nsIn K mainGlobals "tuple" =some none)
 (z_zip:nsIn K mainGlobals "zip" =some none)
 (g_LETTERS:nsIn K mainGlobals "LETTERS" =some (some (.str "abcdefghijklmnopqrstuvwxyz" t_g_LETTERS)))
 (g_MOST_LETTERS:nsIn K mainGlobals "MOST_LETTERS" =some (some (.int 12 t_g_MOST_LETTERS)))
 (g_MOST_NAMES:nsIn K mainGlobals "MOST_NAMES" =some (some (.int 7 t_g_MOST_NAMES)))
 (k0_Question1:makesIn K Cc=true)
 (k0_Question2:findIn K (.ref Cc) "__init__" =some (some (.builtin "object.__init__")))
 (k0_Question3:keepIn K (.ref Cc)=true)
 (n_cover_Paired:findIn K (.ref Cb) "cover" =some none)
set_option maxHeartbeats 0 in
noncomputable def q0 (P:Params):Q0 (ob P) 147 168 203 229:=by
 have _:=kf0
 apply Q0.mk<;> trivial
set_option genSizeOf false in
set_option genInjectivity false in
structure Q1 (K:Frag) (Ca Cb Cc Cd:Addr) where
 (n_friends_Pairs:findIn K (.ref Cd) "friends" =some none)
 (n_heads_Rest:findIn K (.ref Ca) "heads" =some none)
 (n_lefts_Pairs:findIn K (.ref Cd) "lefts" =some none)
 (n_many_Rest:findIn K (.ref Ca) "many" =some none)
 (n_pairs_Paired:findIn K (.ref Cb) "pairs" =some none)
 (n_rights_Pairs:findIn K (.ref Cd) "rights" =some none)
 (n_rooms_Rest:findIn K (.ref Ca) "rooms" =some none)
 (n_starts_Rest:findIn K (.ref Ca) "starts" =some none)
 (in_Paired1:findIn K (.ref Cb) "__class__" =some (some (.builtin "object.__class__")))
 (in_Paired2:specialIn K (.builtin "object.__class__") "__get__" =some (some (.builtin "getset_descriptor.__get__")))
 (in_Paired3:takesIn K (.builtin "object.__class__")=some true)
 (in_Paired4:mroIn K Cb (.type "object")=some true)
 (in_Pairs1:findIn K (.ref Cd) "__class__" =some (some (.builtin "object.__class__")))
 (in_Pairs2:specialIn K (.builtin "object.__class__") "__get__" =some (some (.builtin "getset_descriptor.__get__")))
 (in_Pairs3:takesIn K (.builtin "object.__class__")=some true)
 (in_Pairs4:mroIn K Cd (.type "object")=some true)
 (in_Question1:findIn K (.ref Cc) "__class__" =some (some (.builtin "object.__class__")))
 (in_Question2:specialIn K (.builtin "object.__class__") "__get__" =some (some (.builtin "getset_descriptor.__get__")))
 (in_Question3:takesIn K (.builtin "object.__class__")=some true)
 (in_Question4:mroIn K Cc (.type "object")=some true)
 (xty_Question:typeIn K (.ref Cc)=some (.type "type"))
 (xme_Question:subIn K (.ref Cc) (.ref Cc)=some true)
 (so_Pairs_Question:subIn K (.ref Cd) (.ref Cc)=some true)
set_option maxHeartbeats 0 in
noncomputable def q1 (P:Params):Q1 (ob P) 147 168 203 229:=by
 apply Q1.mk<;> trivial
set_option genSizeOf false in
set_option genInjectivity false in
structure Q2 (K:Frag) (Ca Cb Cc Cd:Addr) where
 (f1:Addr)
 (f2:Addr)
 (f3:Addr)
 (f4:Addr) (od4 an4:Option Addr) (sl4:Array (Option Value)) (oc4 kV4 dc4 pm4 cd4 ct4:Value)
 (T4:Addr) (ocT4:Value) (odT4:Option Addr) (nT4:Nat) (slT4:Array (Option Value)) (tk4_0:Tok)
 (f5:Addr)
 (f6:Addr)
 (f7:Addr)
 (f8:Addr)
 (f9:Addr)
 (f10:Addr)
 (f11:Addr)
 (f12:Addr)
 (l1:FnG K f1 "are_signs" eF)
 (l2:FnG K f2 "is_name" gF)
 (a3:findIn K (.ref Ca) "__init__" =some (some (.ref f3)))
 (i3:isFn K (.ref f3)=true)
 (l3:FnAt K f3 "__init__" "Rest.__init__" eI)
 (mk3:makesIn K Ca=true)
 (kc3:keepIn K (.ref Ca)=true)
 (a4:findIn K (.ref Ca) "put_arc" =some (some (.ref f4)))
 (i4:isFn K (.ref f4)=true)
 (l4:K.lookup f4=some ⟨oc4,od4, .func (fnOf "put_arc" "Rest.put_arc" (defArgs aA) (defBody aA) (defScope aA) (.ref T4) kV4 dc4 pm4 an4 cd4 ct4),sl4⟩)
 (t4:K.lookup T4=some ⟨ocT4,odT4, .seq [.int 0 tk4_0].toArray nT4,slT4⟩)
 (c4:codeIn K cd4 "Rest.put_arc" =true)
 (k4:keepIn K (.ref f4)=true)
 (l5:FnM K Ca f5 "back_of" "Rest.back_of" cy)
 (l6:FnM K Ca f6 "lets" "Rest.lets" eH)
 (l7:FnM K Ca f7 "walked" "Rest.walked" cS)
 (l8:FnM K Ca f8 "way_to" "Rest.way_to" cR)
 (l9:FnM K Ca f9 "change" "Rest.change" cT)
 (l10:FnM K Ca f10 "lift" "Rest.lift" eG)
 (l11:FnM K Ca f11 "reached" "Rest.reached" cx)
 (a12:findIn K (.ref Cb) "__init__" =some (some (.ref f12)))
 (i12:isFn K (.ref f12)=true)
 (l12:FnAt K f12 "__init__" "Paired.__init__" cU)
 (mk12:makesIn K Cb=true)
 (kc12:keepIn K (.ref Cb)=true)
set_option maxHeartbeats 0 in
noncomputable def q2 (P:Params):Q2 (ob P) 147 168 203 229:=by
 apply Q2.mk<;> trivial
set_option genSizeOf false in
set_option genInjectivity false in
structure Q3 (K:Frag) (Ca Cb Cc Cd:Addr) where
 (f13:Addr)
 (f14:Addr)
 (f15:Addr)
 (f16:Addr)
 (f17:Addr)
 (f18:Addr)
 (f19:Addr)
 (f20:Addr)
 (f21:Addr)
 (f22:Addr) (od22 an22:Option Addr) (sl22:Array (Option Value)) (oc22 kV22 dc22 pm22 cd22 ct22:Value)
 (l13:FnG K f13 "own_names" eE)
 (l14:FnG K f14 "own_friends" cQ)
 (l15:FnM K Cc f15 "answer" "Question.answer" bw)
 (a16:findIn K (.ref Cd) "__init__" =some (some (.ref f16)))
 (i16:isFn K (.ref f16)=true)
 (l16:FnAt K f16 "__init__" "Pairs.__init__" dC)
 (mk16:makesIn K Cd=true)
 (kc16:keepIn K (.ref Cd)=true)
 (l17:FnMc K Cd f17 "answer" "Pairs.answer" cz 225)
 (l18:FnG K f18 "_law_number" gH)
 (l19:FnG K f19 "_law_names" iP)
 (l20:FnG K f20 "_law_paired" gG)
 (l21:FnG K f21 "_law_asked" iQ)
 (a22:nsIn K mainGlobals "law" =some (some (.ref f22)))
 (l22:K.lookup f22=some ⟨oc22,od22, .func (fnOf "law" "law" (defArgs eX) (defBody eX) (defScope eX) .none kV22 dc22 pm22 an22 cd22 ct22),sl22⟩)
 (c22:codeIn K cd22 "law" =true)
 (k22:keepIn K (.ref f22)=true)
set_option maxHeartbeats 0 in
noncomputable def q3 (P:Params):Q3 (ob P) 147 168 203 229:=by
 apply Q3.mk<;> trivial
end
section
open PySem.W
noncomputable abbrev hdRow:OpenRow:=PySem.Challenge.rw_flowhall_k24_pairs.row
def hdPos (s:Stmt):Pos:=match s with
 | .FunctionDef _ _ _ _ _ _ _ _ _ p=>p
 | _=>⟨0,0,0,0⟩
noncomputable def hdDef:DefRec:=⟨"law",L2.defArgs eX,L2.defBody eX,L2.defScope eX,hdPos eX⟩
theorem hdOe:∀P,HR.oaT=(HR.oT P).map (·.1):=fun _=>by kernel_rfl
noncomputable abbrev ky:Hook:=kHook HR.oT HR.oaT hdOe
theorem hdT1:defOf HR.vw hdRow.name=some (hdDef,[]):=by kernel_rfl
theorem hdT2:hdRow.prog.theDef hdRow.name=some (hdDef.params,hdDef.body,hdDef.scope):=by kernel_rfl
theorem hdT3:chainsOk HR.vw=true:=by decide+kernel
theorem hdT4:opensWell hdRow.prog=true:=by decide+kernel
theorem hdT5:(frees hdRow.toRowW&&hdRow.within.isEmpty)=true:=by decide+kernel
theorem hdT6:hdRow.prog.bare:=⟨rfl,rfl,rfl,rfl,rfl,by decide+kernel⟩
set_option maxHeartbeats 0 in
theorem hdT7:(PySem.Challenge.rw_flowhall_k24_pairs).row.toRowW.promised:=by w_on; w_witness2
theorem hdT8a:opening hdRow.prog=plainProg hdRow.prog.main.scope.names:=by kernel_rfl
theorem hdT8b:∀s,fenceModules? hdRow.prog s=some s:=fun s=>by kernel_rfl
set_option maxHeartbeats 0 in
theorem hdT8:LeftO hdRow.prog HR.vw HR.lo (fun s=>xlAt HR.vw HR.lv s&&recOk (RowW.records hdRow.toRowW) s) (Hook.obs ky) (Hook.val ky) 5002:=by
 refine HeadRun.left_oneK (M:=4302) hdT8a (by rfl) hdT8b (by rfl) ?_
 intro w os
 apply HR.mapT3
 ·exact Eq.trans (by kernel_rfl) (HR.b0 w os)
 ·exact Eq.trans (by kernel_rfl) (Eq.trans (HR.seen_all w os) (by kernel_rfl))
 ·exact Eq.trans (by kernel_rfl) (Eq.trans (HR.b10 w os) (by kernel_rfl))
theorem hdT9:hdDef.params.defaults= []:=by kernel_rfl
set_option maxHeartbeats 0 in
theorem fin (F:WalkO HR.vw HR.lo (XL HR.vw HR.lv) (Hook.says ky) hdRow.toRowW hdDef [] fun f vs=>PySem.call f vs):PySem.Challenge.rw_flowhall_k24_pairs.Holds:=by
 w_on; o_law
 exact holds_open hdT8 (Hook.of ky) (Hook.keeps ky) (fun s e=>xl_of s (Bool.and_eq_true_iff.mp e).1) XL.keeps hdT1 hdT2 (by rfl) (fun s e=>recFacts_of (Bool.and_eq_true_iff.mp e).2) (by rfl) (by assumption) (by rw [hdT3,hdT4,hdT5]; rfl) hdT6 hdT7 F
end
end T

namespace M
open PySem PySem.Spec PyProof.Rows L2

section
variable {P:Program} {w:World} {K:PySem.W.Frag} {mg:Str→Option Value} {base:Heap}
structure Df (K:PySem.W.Frag) (mg:Str→Option Value) (x:Str) (st:Stmt) (ps:List Str):Prop where
 ex:∃(f:Addr) (fd:FuncData),L2.Fun K x x st f fd∧mg x=some (.ref f)∧L2.Binds K fd ps []
structure Cal (P:Program) (w:World) (K:PySem.W.Frag) (mg:Str→Option Value) (base:Heap) (k:Nat) (x:Str) (sp:Sp):Prop where
 ex:∃(f:Addr) (fd:FuncData) (ps:List Str),FnOk P w K mg base L2.CX0 k f fd ps sp∧mg x=some (.ref f)∧PySem.W.keepIn K (.ref f)=true∧Binds K fd ps []
end
section
variable {X:Cx} {x:Str} {pos:Pos} {e:Expr}
theorem pe_gc {v:V} (hg:Gl X x) (h:∃u,X.mg x=some u∧RelV v u) (hd:(x == ("__debug__" :Str))=false:=by decide):PE X (.Name x pos) (tC v):=by
 obtain ⟨u,e,r⟩:=h
 exact pe_glob hg e r hd
end

section

def CPowW (i j:Int):Prop:=0≤j∧(Builtin.Int.intBits i:Int)*j≤2 ^ 27
end
def NewL (xs:List V) (H:Hp) (Q:VK):Prop:=xs.length≤sizeLine∧∀p,H p=none→Q (.ref p) (upd H p (.lst xs))
def NewT (xs:List V) (H:Hp) (Q:VK):Prop:=xs.length≤sizeLine∧∀p,H p=none→Q (.ref p) (upd H p (.tup xs))
section
variable {K:PySem.W.Frag} {σ:L2.St} {H H' :Hp} {Q:VK} {te:TE} {v x:V} {t:TS} {i:Nat}
inductive Kd (K:PySem.W.Frag) (H:Hp):V→String→Prop where
 | non:Kd K H .non "NoneType"
 | bl (b:Bool):Kd K H (.bl b) "bool"
 | int (i:Int):Kd K H (.int i) "int"
 | str (x:Str):Kd K H (.str x) "str"
 | lst {a:Addr} {xs:List V} (e:H a=some (.lst xs)):Kd K H (.ref a) "list"
 | tup {a:Addr} {xs:List V} (e:H a=some (.tup xs)):Kd K H (.ref a) "tuple"
 | dK {a:Addr} {xs:List (Key×V)} (e:H a=some (.dK xs)):Kd K H (.ref a) "dict"
theorem Kd.mono {x:V} {k:String} (s:Same H H') (h:Kd K H x k):Kd K H' x k:=by
 cases h with
 | non=>exact .non
 | bl b=>exact .bl b
 | int i=>exact .int i
 | str x=>exact .str x
 | lst e=>exact .lst (s _ _ e)
 | tup e=>exact .tup (s _ _ e)
 | dK e=>exact .dK (s _ _ e)
theorem Kd.ty {x:V} {k:String} (h:Kd K H x k):TyX K H x (.type k):=by
 cases h with
 | non=>exact .base .non
 | bl b=>exact .base (.bl b)
 | int i=>exact .base (.int i)
 | str x=>exact .base (.str x)
 | lst e=>exact .base (.lst e)
 | tup e=>exact .base (.tup e)
 | dK e=>exact .base (.dK e)
theorem bX {i j:Int} (h1: -1000000000000000000000000000000000000000000000000000000000000000000000000000000000000≤i) (h2:i≤1000000000000000000000000000000000000000000000000000000000000000000000000000000000000) (h3: -1000000000000000000000000000000000000000000000000000000000000000000000000000000000000≤j) (h4:j≤1000000000000000000000000000000000000000000000000000000000000000000000000000000000000):CMulX i j:=
 mulx_ok (a:=300) (b:=300) (Nat.lt_of_le_of_lt (m:=1000000000000000000000000000000000000000000000000000000000000000000000000000000000000) (by omega) (by decide+kernel)) (Nat.lt_of_le_of_lt (m:=1000000000000000000000000000000000000000000000000000000000000000000000000000000000000) (by omega) (by decide+kernel)) (by decide)
theorem ay {i j:Int} (h1:0<j) (h2:j≤1000000000000000000000000000000000000000000000000000000000000000000000000000000000000):CDivW i j:=
 wide_div (b:=300) h1 (Nat.lt_of_le_of_lt (m:=1000000000000000000000000000000000000000000000000000000000000000000000000000000000000) (by omega) (by decide+kernel)) (by decide) (by decide)
def tCutE (te:TE):TE:=fun σ H Q=>∃P:VK,te σ H P∧∀v H',P v H'→Q v H'
def tCutT (t:TT):TT:=fun σ H Q=>∃P:Bool→Hp→Prop,t σ H P∧∀b H',P b H'→Q b H'
end
def LcJ (J:It) (H1:Hp) (g:TG) (tt:TT) (te:TE) (vs:List Nat) (σ:L2.St) (Qd:Addr→Hp→Prop):Prop:=∀D,H1 D=none→∃W:Nat→Nat→Hp→Prop,(∃m,W 0 m (upd H1 D (.lst [])))∧∀i m H,W i m H→
 (J.stop i H∧Qd D H)∨(J.go i H∧∃Nx:Hp→Prop,(∀H',Nx H'→∃m',m' <m∧W (i+1) m' H')∧∀x H',J.yld i H x H'→g x (wipe σ vs) H' fun σ2 H2=>wipe σ2 vs=wipe σ vs∧tt σ2 H2 fun b H3=>
  if b=true then te σ2 H3 fun y H4=>∃acc,H4 D=some (.lst acc)∧acc.length<sizeLine∧Nx (upd H4 D (.lst (acc++ [y]))) else Nx H3)
def ForJ (J:It) (σ:L2.St) (H1:Hp) (g:TG) (tb:TS) (D:Ends):Prop:=∃W:Nat→Nat→L2.St→Hp→Prop,(∃m,W 0 m σ H1)∧∀i m σ H,W i m σ H→
 (J.stop i H∧D.nx σ H)∨(J.go i H∧∃N:L2.St→Hp→Prop,(∀σ' H',N σ' H'→∃m',m' <m∧W (i+1) m' σ' H')∧∀x H',J.yld i H x H'→g x σ H' fun σ2 H2=>tb {D with nx:=N,ct:=N,bk:=D.nx} σ2 H2)
section
variable {H H' :Hp} {D:Ends} {u:TS} {n:Nat}
def SameBut (D:Addr) (H H' :Hp):Prop:=∀b o,b≠D→H b=some o→H' b=some o
theorem SameBut.upd {D:Addr} {H:Hp} {o:HO}:SameBut D H (upd H D o):=fun b u n e=>by
 rw [upd_ne n]
 exact e
theorem SameBut.trans {D:Addr} {H1 H2 H3:Hp} (a:SameBut D H1 H2) (b:SameBut D H2 H3):SameBut D H1 H3:=fun c o n e=>b c o n (a c o n e)
theorem Paired.snoc {α β:Type} {F:α→β→Prop} {l:List α} {ys:List β} {d:α} {y:β} (p:Paired F l ys) (f:F d y):Paired F (l++ [d]) (ys++ [y]):=by
 induction p with
 | nil=>exact .cons f .nil
 | cons r _ ih=>exact .cons r ih
end
def lb (K:PySem.W.Frag):List V→Hp→VK→Prop:=fun xs H Q=>∃p ys,xs= [.ref p]∧(SqL K H p ys∨SqT K H p ys)∧Q (.int ys.length) H
def qJ:List V→Hp→VK→Prop:=fun xs H Q=>∃z:Str,xs= [.str z]∧z.length≤sizeLine∧Q (.int z.length) H
def rLenD:List V→Hp→VK→Prop:=fun xs H Q=>∃a,∃kvs:List (Key×V),xs= [V.ref a]∧H a=some (.dK kvs)∧Q (.int kvs.length) H
def rAbs:List V→Hp→VK→Prop:=fun xs H Q=>∃i:Int,xs= [.int i]∧Q (.int (if i<0 then -i else i)) H
def rMax2:List V→Hp→VK→Prop:=fun xs H Q=>∃i j:Int,xs= [.int i, .int j]∧Q (.int (if j > i then j else i)) H
def rMin2:List V→Hp→VK→Prop:=fun xs H Q=>∃i j:Int,xs= [.int i, .int j]∧Q (.int (if j<i then j else i)) H
def rInt1:List V→Hp→VK→Prop:=fun xs H Q=>(∃i,xs= [.int i]∧Q (.int i) H)∨∃k:Bool,xs= [.bl k]∧Q (.int (if k then 1 else 0)) H
def rStr1:List V→Hp→VK→Prop:=fun xs H Q=>∃i:Int,xs= [.int i]∧i.natAbs.log2<1920∧Q (.str (toString i)) H
def rIntS:List V→Hp→VK→Prop:=fun xs H Q=>∃a n,xs= [.str a]∧PySem.intText? a=some n∧a.length≤640∧Q (.int n) H
def qH (K:PySem.W.Frag):List V→Hp→VK→Prop:=fun xs H Q=>∃p ys,xs= [.ref p]∧(SqL K H p ys∨SqT K H p ys)∧∀l,H l=none→Q (.ref l) (upd H l (.lst ys))
def rDictD:List V→Hp→VK→Prop:=fun xs H Q=>∃(a:Addr) (kvs:List (Key×V)),xs= [.ref a]∧Rd H a (.dK kvs)∧∀p,H p=none→Q (.ref p) (upd H p (.dK kvs))
def qI:List V→Hp→VK→Prop:=fun xs H Q=>∃(a:Addr) (kvs:List (Key×V)),xs= [.ref a]∧Rd H a (.dK kvs)∧∀p,H p=none→Q (.ref p) (upd H p (.lst (kvs.map fun kv=>kV kv.1)))
def qG:List V→Hp→VK→Prop:=fun xs H Q=>∃(a:Addr) (kvs:List (Key×V)) (ks:List Int),xs= [.ref a]∧Rd H a (.dK kvs)∧kvs.map (·.1)=ks.map Sum.inl∧ks.length<64∧∀(ys:List Int) (p:Addr),ys.Perm ks→ys.Pairwise (· ≤ ·)→H p=none→Q (.ref p) (upd H p (.lst (ys.map V.int)))
def qK (neg:Bool):R2:=fun x y H Q=>∃i j:Str,x= .str i∧y= .str j∧Q (.bl (if neg then !(!(Builtin.Str.occurrences j i 0 j.length 1).isEmpty) else !(Builtin.Str.occurrences j i 0 j.length 1).isEmpty)) H
def rInSg (neg:Bool):R2:=fun x y H Q=>∃(c:Nat) (z:Str),x= .str ⟨#[c]⟩∧y= .str z∧Q (.bl (if neg then !decide (c∈z.cps.toList) else decide (c∈z.cps.toList))) H
def rIsN:R2:=fun x y H Q=>y= .non∧Q (.bl (decide (x= .non))) H
def rNotN:R2:=fun x y H Q=>y= .non∧Q (.bl (!decide (x= .non))) H
def rAddS:R2:=fun x y H Q=>∃i j:Str,x= .str i∧y= .str j∧i.length+j.length≤sizeLine∧Q (.str (i++j)) H
def rStarts:V→List V→Hp→VK→Prop:=fun x xs H Q=>∃a b,x= .str a∧xs= [.str b]∧Q (.bl (Txt.startswith a b)) H
section
variable {X:Cx}
theorem ph:CallR X (.builtin "len") (lb X.K):=call_len_seq
theorem pf:CallR X (.builtin "len") qJ:=call_len_str
theorem pe:CallR X (.type "list") (qH X.K):=call_list_of
theorem uW (hc:X.calm=true):CallR X (.type "list") qI:=call_listD hc
theorem ur:OpR X (compareOp .In) (qK false):=op_in_str
theorem lj:OpR X (compareOp .NotIn) (qK true):=op_notin_str
theorem qS:OpR X (compareOp .In) (rInSg false):=op_in_sign
theorem jY:OpR X (compareOp .NotIn) (rInSg true):=op_notIn_sign
theorem o_isN:OpR X (compareOp .Is) rIsN:=op_isN
theorem o_notN:OpR X (compareOp .IsNot) rNotN:=op_notN
theorem qT:OpR X (binaryOp .Add) rAddS:=op_add_str
end
section
variable {x:V} {xs:List V} {i j:Int}

theorem jA {α β:Type} (f:α→β) (xs:List α) (i:Int):atI (xs.map f) i=(atI xs i).map f:=by
 unfold atI
 rw [List.length_map]
 cases ixN xs.length i with
 | none=>rfl
 | some j=>
  show (xs.map f)[j]? =(xs[j]?).map f
  rw [List.getElem?_map]
theorem atI_in {α:Type} {xs:List α} {i:Int} (d:α) (h0:0≤i) (h1:i<xs.length):atI xs i=some (xs.getD i.toNat d):=by
 unfold atI ixN
 rw [if_pos h0,if_pos h1]
 show xs[i.toNat]? =_
 have h2:i.toNat<xs.length:=by omega
 rw [List.getElem?_eq_getElem h2,List.getD_eq_getElem?_getD,List.getElem?_eq_getElem h2]
 rfl
theorem pick {α:Type} (xs:List α) (f:α→V) (i:Int) (h0:0≤i) (h1:i<xs.length):∃x,x∈xs∧atI (xs.map f) i=some (f x):=by
 have h2:i.toNat<xs.length:=by omega
 refine ⟨xs[i.toNat],List.getElem_mem h2, ?_⟩
 rw [jA]
 unfold atI ixN
 rw [if_pos h0,if_pos h1]
 show (xs[i.toNat]?).map f=_
 rw [List.getElem?_eq_getElem h2]
 rfl
end
def mH (K:PySem.W.Frag) (neg:Bool):R2:=fun x y H Q=>∃p q xs,x= .ref p∧y= .ref q∧SqL K H p xs∧SqL K H q []∧Q (.bl (if neg then !xs.isEmpty else xs.isEmpty)) H
section
variable {X:Cx}
theorem uo (hu:X.A.units+64<cLine):OpR X (compareOp .Eq) (mH X.K false):=by
 intro pins s σ H x y v u Q I rx ry h
 obtain ⟨p,q,xs,rfl,rfl,h1,h2,k⟩:=h
 cases rx
 cases ry
 obtain ⟨its,r1,l1,_⟩:=I.list h1
 obtain ⟨its2,r2,l2,_⟩:=I.list h2
 cases r2
 have hu2:X.A.units<cLine:=by omega
 cases r1 with
 | nil=>exact SeqAt.RcAt.lists (e:=fun _=>true) l1.isList l2.isList rfl hu2 (fun j h _=>absurd h (by simp)) X.prog X.w X.xe _ ⟨.bl _,H,I,rfl,k⟩
 | cons a b=>exact SeqAt.RcAt.lists_lengths l1.isList l2.isList (by simp) hu2 X.prog X.w X.xe _ ⟨.bl _,H,I,rfl,k⟩
theorem uk (hu:X.A.units+64<cLine):OpR X (compareOp .NotEq) (mH X.K true):=by
 intro pins s σ H x y v u Q I rx ry h
 obtain ⟨p,q,xs,rfl,rfl,h1,h2,k⟩:=h
 cases rx
 cases ry
 obtain ⟨its,r1,l1,_⟩:=I.list h1
 obtain ⟨its2,r2,l2,_⟩:=I.list h2
 cases r2
 have hu2:X.A.units<cLine:=by omega
 cases r1 with
 | nil=>exact SeqAt.RcNeAt.lists (e:=fun _=>true) l1.isList l2.isList rfl hu2 (fun j h _=>absurd h (by simp)) X.prog X.w X.xe _ ⟨.bl _,H,I,rfl,k⟩
 | cons a b=>exact SeqAt.RcNeAt.lists_lengths l1.isList l2.isList (by simp) hu2 X.prog X.w X.xe _ ⟨.bl _,H,I,rfl,k⟩
end
def rRepS:R2:=fun x y H Q=>∃(z:Str) (i:Int),x= .str z∧y= .int i∧0≤i∧i≤1∧z.length≤1000∧Q (.str (if i=0 then Str.empty else z)) H
def rSidx:V→List V→Hp→VK→Prop:=fun x xs H Q=>∃(a b:Str) (k:Nat),x= .str a∧xs= [.str b]∧Txt.index0 a b=some k∧Q (.int k) H
section

end
end M

namespace RT
open PySem PySem.Spec PyProof.Rows L2
section

end
end RT
namespace M
open PySem PySem.Spec PyProof.Rows L2
def tJoinRev (K:PySem.W.Frag) (to te:TE):TE:=fun σ H Q=>to σ H fun x H1=>(∃a,x= .str a)∧te σ H1 fun y H2=>∃(a:Str) (p:Addr) (ys:List Str),x= .str a∧y= .ref p∧SqL K H2 p (ys.map V.str)∧(ys.map (·.length)).sum+ys.length*a.length≤16777216∧Q (.str (Txt.join a ys.reverse)) H2
section

end
def rNeStrs (K:PySem.W.Frag):R2:=fun x y H Q=>∃p q,∃ws:List Str,x= .ref p∧y= .ref q∧SqL K H p (ws.map V.str)∧SqL K H q (ws.map V.str)∧Q (.bl false) H
section
variable {K:PySem.W.Frag} {mg:Str→Option Value}
structure Dm (K:PySem.W.Frag) (C:Addr) (m qual:Str) (st:Stmt) (ps:List Str):Prop where
 ex:∃(f:Addr) (fd:FuncData),L2.Fun K m qual st f fd∧Cls K C∧Meth K C m f∧L2.Binds K fd ps []
structure Dmd (K:PySem.W.Frag) (C:Addr) (m qual:Str) (st:Stmt) (ps:List Str) (dvs:List V):Prop where
 ex:∃(f:Addr) (fd:FuncData),L2.FunD K m qual (defArgs st) (defBody st) (defScope st) dvs [] f fd∧Cls K C∧Meth K C m f∧∀j,j≤dvs.length→∃ds,Vals (dvs.drop j) ds∧L2.Binds K fd ps ds
structure Dk (K:PySem.W.Frag) (mg:Str→Option Value) (x:Str) (C:Addr) (qual:Str) (st:Stmt) (ps:List Str):Prop where
 ex:∃(f:Addr) (fd:FuncData),L2.Fun K "__init__" qual st f fd∧Mk K C f∧mg x=some (.ref C)∧L2.Binds K fd ps []
end
section

end
section
variable {X:Cx} {pos:Pos}
theorem gN {K:PySem.W.Frag} (hK:X.K=K:=by rfl):CallR X (.builtin "isinstance") (rIsi K):=hK ▸ call_isi
theorem m_lenS {K:PySem.W.Frag} (hK:X.K=K:=by rfl):CallR X (.builtin "len") (lb K):=hK ▸ ph
theorem m_ixL {K:PySem.W.Frag} (hK:X.K=K:=by rfl):IxR X (rIxL K):=hK ▸ ix_list
theorem m_ixT {K:PySem.W.Frag} (hK:X.K=K:=by rfl):IxR X (rIxT K):=hK ▸ ix_tup
theorem m_slL {K:PySem.W.Frag} (hK:X.K=K:=by rfl):SlR X (rSlL K):=hK ▸ sl_list
theorem m_inS {K:PySem.W.Frag} (hK:X.K=K:=by rfl):OpR X (compareOp .In) (rIn K false):=hK ▸ op_in_seq
theorem uD {K:PySem.W.Frag} (hK:X.K=K:=by rfl):OpR X (compareOp .NotIn) (rIn K true):=hK ▸ op_notIn_seq
theorem m_neD {K:PySem.W.Frag} (hu:X.A.units+64<cLine) (hK:X.K=K:=by rfl):OpR X (compareOp .NotEq) (rNeD K):=hK ▸ op_neD hu
theorem m_eqD {K:PySem.W.Frag} (hu:X.A.units+64<cLine) (hK:X.K=K:=by rfl):OpR X (compareOp .Eq) (rEqD K):=hK ▸ op_eqD hu
theorem eB {K:PySem.W.Frag} {n:Nat} {es:List Expr} {k:Nat} {t:TGs} (hc:X.calm=true) (h:PGs X es t) (hn:(assignEach es X.env).length=n:=by rfl) (hst:(assignEach es X.env).findIdx? (·.1)=none:=by rfl) (hK:X.K=K:=by rfl):PG X (.Tuple es k pos) (gTup K n t):=hK ▸ pg_tup hc h hn hst
end
section

end
def rNeDE:R2:=fun x y H Q=>∃a b,∃ks:List (Key×V),x= .ref a∧y= .ref b∧H a=some (.dK ks)∧H b=some (.dK [])∧Q (.bl (!ks.isEmpty)) H
section
variable {X:Cx}
theorem m_catA {K:PySem.W.Frag} (hK:X.K=K:=by rfl):OpR X (binaryOp .Add) (rCatA K):=hK ▸ op_catA
end
theorem t_catA {K:PySem.W.Frag} {H:Hp} {Q:VK} {a b:Addr} {xs ys:List V} (h1:SqT K H a xs) (h2:SqT K H b ys) (hx:xs≠ []) (hy:ys≠ []) (hl:xs.length+ys.length≤sizeLine) (q:∀p,H p=none→Q (.ref p) (upd H p (.tup (xs++ys)))):rCatA K (.ref a) (.ref b) H Q:=
 ⟨a,b,xs,ys,rfl,rfl,h1,h2,hl,fun e=>absurd e hx,fun _ e=>absurd e hy,fun _ _ p hp=>q p hp⟩
end M

namespace A
open PySem PySem.Spec PyProof.Rows L2 NumText
open TL (tl)
theorem dy (z:Str):z.length=(tl z).length:=TL.len_tl z
theorem ir (x y:Str):tl (x++y)=tl x++tl y:=TL.tl_append x y
theorem lx (x y:Str):(x++y).length=x.length+y.length:=by rw [dy,ir,List.length_append,dy,dy]
theorem pV (z:Str) (lo hi:Option Int):tl (cutS z lo hi)=((tl z).drop (HT.sIx z.length 0 lo)).take (HT.sIx z.length z.length hi - HT.sIx z.length 0 lo):=rfl
theorem kX (n d:Nat) (i:Int) (h:0≤i):HT.sIx n d (some i)=min i.toNat n:=by
 show (if i<0 then _ else min i.toNat n)=_
 rw [if_neg (by omega)]
theorem tl_from (z:Str) (i:Int) (h:0≤i):tl (cutS z (some i) none)=(tl z).drop i.toNat:=by
 rw [pV,kX _ _ _ h,HT.sIx_none,dy]
 by_cases c:i.toNat≤(tl z).length
 ·rw [Nat.min_eq_left c,List.take_of_length_le (by rw [List.length_drop]; omega)]
 ·rw [Nat.min_eq_right (by omega),List.drop_of_length_le (by omega),List.drop_of_length_le (by omega),List.take_nil]
theorem tl_to (z:Str) (i:Int) (h:0≤i):tl (cutS z none (some i))=(tl z).take i.toNat:=by
 rw [pV,kX _ _ _ h,HT.sIx_none,dy]
 show ((tl z).drop 0).take (min i.toNat (tl z).length - 0)=_
 rw [List.drop_zero,Nat.sub_zero]
 by_cases c:i.toNat≤(tl z).length
 ·rw [Nat.min_eq_left c]
 ·rw [Nat.min_eq_right (by omega),List.take_of_length_le (by omega),List.take_of_length_le (by omega)]
theorem sub1 (x y:Str) (c:Nat) (hy:tl y= [c]):Txt.startswith x y=decide ((tl x).head? =some c):=by
 have hp:=TL.at_iff (x:=x) (y:=y) (by rw [hy]; simp) 0
 have e:Txt.startswith x y=true↔TL.pre (tl y) ((tl x).drop 0)=true:=by
  rw [←hp]
  unfold Txt.startswith
  simp only [Bool.and_eq_true,decide_eq_true_eq]
  exact Iff.rfl
 rw [hy,List.drop_zero] at e
 have e2:TL.pre [c] (tl x)=true↔(tl x).head? =some c:=by
  unfold TL.pre
  cases tl x with
  | nil=>simp
  | cons a r=>simp
 rw [Bool.eq_iff_iff,e,e2]
 simp
def isDig (c:Nat):Bool:=decide (48≤c)&&decide (c≤57)
def figs (l:List Nat):List Nat:=if l.head? =some 45 then l.drop 1 else l
def val (l:List Nat):Int:=(digitsVal l:Nat)
def good (l:List Nat):Bool:=decide (1≤(figs l).length)&&decide ((figs l).length≤61)&&(figs l).all isDig
def numRd (l:List Nat):Option Int:=
 if good l=true then
  if (figs l).head? =some 48∧l≠ [48] then none
  else some (if l.head? =some 45 then 0 - val (figs l) else val (figs l))
 else none
def numV:V→V
 | .str z=>(numRd (tl z)).elim .non .int
 | _=> .non
theorem ku:∀ls:List (List Nat),TL.joinL [] ls=ls.flatten
 | []=>rfl
 | [x]=>by
  show x= [x].flatten
  simp
 | x::y::r=>by
  show x++([]++TL.joinL [] (y::r))=_
  rw [ku (y::r),List.nil_append]
  simp only [List.flatten_cons]
theorem ml (ws:List Str):tl (Txt.join "" ws)=(ws.map tl).flatten:=by
 rw [TL.join_eq,TL.tl_join,show tl "" = [] by decide+kernel,ku]
theorem rJ (ws:List Str):(Txt.join "" ws).length=(ws.map (·.length)).sum:=by
 rw [dy,ml,List.length_flatten,List.map_map]
 exact congrArg List.sum (List.map_congr_left fun x _=>(dy x).symm)
end A

namespace M
open PySem PySem.Spec PyProof.Rows L2
def kxO (cls:Value) (d:Option Addr) (a:Addr):HO:= .ext fun h=>∃(ob:Obj) (vs:Array Value),h.get? a=some ob∧Zc cls d ob∧ob.data= .fields vs
structure Away (X:Cx) (pins:List (Addr×Obj)) (a:Addr):Prop where
 old:X.s_0.heap.get? a=none
 loc:X.env.locals≠a
 cell:∀x c,X.env.cells.lookup x=some c→c≠a
 pin:∀p∈X.pn++pins,p.1≠a
section

end
def wK (K:PySem.W.Frag) (c:Value) (i:Nat) (ts:TS) (Wout:WX) (D:Ends):WX:=fun cls d σ H=>
 ∃b,PySem.W.exmOne K cls c=some b∧
  (b=true→∀a,H a=none→ts {rt:=D.rt,nx:=fun σ' =>D.nx (σ'.set i none),bk:=fun σ' =>D.bk (σ'.set i none),ct:=fun σ' =>D.ct (σ'.set i none)} (σ.set i (some (.ref a))) (upd H a (kxO cls d a)))∧
  (b=false→Wout cls d σ H)
structure Ground (X:Cx) (pins:List (Addr×Obj)) (B:Heap) (σ:L2.St) (H:Hp) (a:Addr) (cls:Value) (d:Option Addr) (s:Shared):Prop where
 inv:Inv X pins σ H s
 fly:HandSPX.FlyingZ B (X.env::X.outer) a (Zc cls d) s.heap
 no:H a=none
 way:Away X pins a
 stays:∀h2,HandSPX.FlyingZ B (X.env::X.outer) a (Zc cls d) h2→s.heap.UpToSlots h2→Inv X pins σ H {s with heap:=h2}
section
variable {X:Cx} {pins:List (Addr×Obj)} {σ:L2.St} {H:Hp} {s:Shared} {a:Addr} {cls:Value} {d:Option Addr}
theorem Ground.obj {B:Heap} (g:Ground X pins B σ H a cls d s):∃(ob:Obj) (vs:Array Value),s.heap.get? a=some ob∧Zc cls d ob∧ob.data= .fields vs:=by
 obtain ⟨ob,vs,e,z,h⟩:=g.fly.there
 exact ⟨ob,vs,e,z,h⟩
end
def XDict (H:Hp) (d:Option Addr):Prop:=d=none∨∃da fs,d=some da∧H da=some (.xd fs)
def rIsX (K:PySem.W.Frag):List V→Hp→VK→Prop:=fun xs H Q=>∃(a D:Addr) (d:Option Addr) (c:V) (cv:Value) (b:Bool),xs= [.ref a,c]∧H a=some (kxO (.ref D) d a)∧XDict H d∧L2.ExcC K D∧(∀u,RelV c u→u=cv)∧PySem.W.kitOne K (.ref D) cv=some b∧Q (.bl b) H
section
variable {σ:L2.St} {H:Hp} {a C:Addr}
def tXk (K:PySem.W.Frag) (f:Str) (te:TE):TE:=fun σ H Q=>te σ H fun x H1=>∃(a C da:Addr) (fs:List (Str×V)) (v:V),x= .ref a∧H1 a=some (kxO (.ref C) (some da) a)∧L2.XfC K C∧PySem.W.findIn K (.ref C) f=some none∧H1 da=some (.xd fs)∧fs.lookup f=some v∧Q v H1
end
def spXI (K:PySem.W.Frag) (f:Str):Sp:=fun vs H Q _=>∃(a C:Addr) (v:V),vs= [.ref a,v]∧H a=some (exo a C none)∧OexC K C∧PySem.W.findIn K (.ref C) f=some none∧∀dx,H dx=none→dx≠a→Q .non (upd (upd H dx (exd dx [(f,v)])) a (exo a C (some dx)))
section
variable {P:Program} {w:World} {K:PySem.W.Frag} {mg:Str→Option Value} {base:Heap}
structure XiZ (P:Program) (w:World) (K:PySem.W.Frag) (mg:Str→Option Value) (base:Heap) (k:Nat) (x:Str) (C:Addr) (f:Str):Prop where
 T:OexC K C
 no:PySem.W.findIn K (.ref C) f=some none
 gC:mg x=some (.ref C)
 ex:∃(fI:Addr) (fd:FuncData) (ps:List Str),PySem.W.findIn K (.ref C) "__init__" =some (some (.ref fI))∧PySem.W.typeIn K (.ref fI)=some (.type "function")∧FnOk P w K mg base (L2.CX P w) k fI fd ps (spXI K f)∧Binds K fd ps []
end
section
variable {f:Str} {C:Addr} {te:TE} {W:WX}
def tRaiseI (K:PySem.W.Frag) (C:Addr) (f:Str) (W:WX) (te:TE):TS:=fun _ σ H=>tMkO C (spXI K f) [] (tCons te tNil) σ H fun cls d H' =>W cls d σ H'
end
end M

namespace Z
open PySem PySem.Spec PyProof.Rows L2

inductive D where
 | non | bl (b:Bool) | int (i:Int) | str (s:Str)
 | lst (xs:List D) | con (xs:List D) | tup (xs:List D) | dct (kvs:List (Key×D)) | obj (c:Str) (fs:List (Str×D)) | exc (c:Str) (fs:List (Str×D)) | cell (i:Nat)
inductive Vl where
 | d (x:D) | own (x:D) | loc (k:Nat)
structure Sto where
 nx:Nat
 get:Nat→Option D
structure SD where
 sl:List (Option Vl)
 st:Sto
inductive R (α:Type) where
 | ok (a:α) (s:SD) | ex (c:Str) (fs:List (Str×D)) (s:SD) | bad
def R.bind {α β:Type} (m:R α) (k:α→SD→R β):R β:=match m with
 | .ok a s=>k a s
 | .ex c fs s=> .ex c fs s
 | .bad=> .bad
abbrev XQ:=Str→List (Str×D)→SD→Prop
def Wp {α:Type} (m:R α) (Q:α→SD→Prop) (E:XQ):Prop:=match m with
 | .ok a s=>Q a s
 | .ex c fs s=>E c fs s
 | .bad=>False
theorem ae {α β:Type} {m:R α} {k:α→SD→R β} {Q:β→SD→Prop} {E:XQ}:Wp (m.bind k) Q E=Wp m (fun a s=>Wp (k a s) Q E) E:=by
 cases m<;> rfl
theorem Wp_ok {α:Type} {a:α} {s:SD} {Q:α→SD→Prop} {E:XQ}:Wp (.ok a s) Q E=Q a s:=rfl
theorem Wp_bad {α:Type} {Q:α→SD→Prop} {E:XQ}:Wp (.bad:R α) Q E=False:=rfl
theorem Wp.mono {α:Type} {m:R α} {Q Q' :α→SD→Prop} {E E' :XQ} (h:Wp m Q E) (hq:∀a s,Q a s→Q' a s) (he:∀c fs s,E c fs s→E' c fs s):Wp m Q' E' :=by
 cases m with
 | ok a s=>exact hq _ _ h
 | ex c fs s=>exact he _ _ _ h
 | bad=>exact h

structure Gc where
 K:PySem.W.Frag
 mg:Str→Option Value
structure Wr where
 γ:Nat→Addr
 n:Nat
 O:Addr→Prop
 H:Hp
def Kept (o:HO) (x:Option HO):Prop:=x=some o∨(∃kvs od,o= .dK kvs∧x=some (.frz od o))∨∃ps more,o= .tbl ps∧x=some (.tbl (ps++more))
def RdF (p:Wr) (a:Addr) (u:HO):Prop:=¬p.O a∧Rd p.H a u
def KL (K:PySem.W.Frag) (a:Addr) (xs:List V):Prop:=∃(o:Obj) (its:Array Value) (n:Nat),K.lookup a=some o∧o.cls= .type "list" ∧o.dict=none∧o.data= .seq its n∧its.size≤sizeLine∧Vals xs its.toList
mutual
def Rep (G:Gc) (p:Wr):D→V→Prop
 | .non,v=>v= .non
 | .bl b,v=>v= .bl b
 | .int i,v=>v= .int i
 | .str s,v=>v= .str s
 | .lst ds,v=>∃a vs,v= .ref a∧(¬p.O a∧p.H a=some (.lst vs))∧Reps G p ds vs
 | .con ds,v=>∃a vs,v= .ref a∧(RdF p a (.lst vs)∨KL G.K a vs)∧Reps G p ds vs
 | .tup ds,v=>∃a vs,v= .ref a∧(¬p.O a∧p.H a=some (.tup vs))∧Reps G p ds vs
 | .dct ds,v=>∃a vs,v= .ref a∧RdF p a (.dK vs)∧RepK G p ds vs
 | .obj c ds,v=>∃a C dx vs,v= .ref a∧¬p.O a∧G.mg c=some (.ref C)∧p.H a=some (.ins C dx vs)∧RepF G p ds vs
 | .exc c ds,v=>∃a C d,v= .ref a∧¬p.O a∧G.mg c=some (.ref C)∧p.H a=some (M.kxO (.ref C) d a)∧((ds= []∧d=none)∨∃da fvs,d=some da∧p.H da=some (.xd fvs)∧¬p.O da∧RepF G p ds fvs)
 | .cell i,v=>i<p.n∧v= .ref (p.γ i)
def Reps (G:Gc) (p:Wr):List D→List V→Prop
 | [],vs=>vs= []
 | d::ds,vs=>∃v r,vs=v::r∧Rep G p d v∧Reps G p ds r
def RepK (G:Gc) (p:Wr):List (Key×D)→List (Key×V)→Prop
 | [],vs=>vs= []
 | (k,d)::ds,vs=>∃v r,vs=(k,v)::r∧Rep G p d v∧RepK G p ds r
def RepF (G:Gc) (p:Wr):List (Str×D)→List (Str×V)→Prop
 | [],vs=>vs= []
 | (k,d)::ds,vs=>∃v r,vs=(k,v)::r∧Rep G p d v∧RepF G p ds r
end
structure Wr.le (p q:Wr):Prop where
 γ:∀i,i<p.n→q.γ i=p.γ i
 n:p.n≤q.n
 H:∀b o,¬p.O b→p.H b=some o→Kept o (q.H b)∧¬q.O b
theorem Wr.le.refl (p:Wr):p.le p:=⟨fun _ _=>rfl,Nat.le_refl _,fun _ _ h e=>⟨.inl e,h⟩⟩
theorem Kept.trans {o:HO} {y:Option HO} {x:HO} (a:Kept o (some x)) (b:Kept x y):Kept o y:=by
 rcases a with a | ⟨kvs,od,rfl,a⟩ | ⟨ps,more,rfl,a⟩
 ·cases a; exact b
 ·cases a
  rcases b with b | ⟨_,_,b,_⟩ | ⟨_,_,b,_⟩
  ·exact .inr (.inl ⟨kvs,od,rfl,b⟩)
  ·cases b
  ·cases b
 ·cases a
  rcases b with b | ⟨_,_,b,_⟩ | ⟨_,m2,b,b2⟩
  ·exact .inr (.inr ⟨ps,more,rfl,b⟩)
  ·cases b
  ·cases b
   exact .inr (.inr ⟨ps,more++m2,rfl,by rw [b2,Array.append_assoc]⟩)
theorem Wr.le.trans {p q r:Wr} (a:p.le q) (b:q.le r):p.le r:=⟨fun i h=>(b.γ i (Nat.lt_of_lt_of_le h a.n)).trans (a.γ i h),Nat.le_trans a.n b.n,fun c o h e=>by
 obtain ⟨k,h1⟩:=a.H c o h e
 have:∃x,q.H c=some x:=by rcases k with k | ⟨_,_,_,k⟩ | ⟨_,_,_,k⟩<;> exact ⟨_,k⟩
 obtain ⟨x,ex⟩:=this
 obtain ⟨k2,h2⟩:=b.H c x h1 ex
 rw [ex] at k
 exact ⟨k.trans k2,h2⟩⟩
theorem Wr.le.x {p q:Wr} (l:p.le q) {a:Addr} {o:HO} (n:¬p.O a) (h:p.H a=some o) (hd:∀kvs,o≠ .dK kvs) (ht:∀ps,o≠ .tbl ps):¬q.O a∧q.H a=some o:=by
 obtain ⟨k,n'⟩:=l.H _ _ n h
 rcases k with k | ⟨kvs,_,k,_⟩ | ⟨ps,_,k,_⟩
 ·exact ⟨n',k⟩
 ·exact (hd kvs k).elim
 ·exact (ht ps k).elim
theorem Wr.le.rd {p q:Wr} (l:p.le q) {a:Addr} {u:HO} (h:RdF p a u) (hu:∀ps,u≠ .tbl ps):RdF q a u:=by
 obtain ⟨n,h | ⟨o,h⟩⟩:=h
 ·obtain ⟨k,n'⟩:=l.H _ _ n h
  rcases k with k | ⟨_,od,_,k⟩ | ⟨ps,_,k,_⟩
  ·exact ⟨n', .inl k⟩
  ·exact ⟨n', .inr ⟨od,k⟩⟩
  ·exact (hu ps k).elim
 ·obtain ⟨n',k⟩:=l.x n h (fun _ z=>nomatch z) (fun _ z=>nomatch z)
  exact ⟨n', .inr ⟨o,k⟩⟩
structure Wr.tr (p q:Wr):Prop where
 γ:∀i,i<p.n→q.γ i=p.γ i
 n:p.n≤q.n
 L:∀b vs,¬p.O b→p.H b=some (.lst vs)→¬q.O b∧q.H b=some (.lst vs)
 T:∀b vs,¬p.O b→p.H b=some (.tup vs)→¬q.O b∧q.H b=some (.tup vs)
 I:∀b C dx vs,¬p.O b→p.H b=some (.ins C dx vs)→¬q.O b∧q.H b=some (.ins C dx vs)
 X:∀b c d,¬p.O b→p.H b=some (M.kxO c d b)→¬q.O b∧q.H b=some (M.kxO c d b)
 Y:∀b vs,¬p.O b→p.H b=some (.xd vs)→¬q.O b∧q.H b=some (.xd vs)
 C:∀b vs,RdF p b (.lst vs)→RdF q b (.lst vs)
 K:∀b vs,RdF p b (.dK vs)→RdF q b (.dK vs)
theorem kx_dK {c:Value} {d:Option Addr} {a:Addr} {kvs:List (Key×V)} (z:M.kxO c d a= .dK kvs):False:=by
 unfold M.kxO at z
 cases z
theorem kx_tb {c:Value} {d:Option Addr} {a:Addr} {ps:Array Value} (z:M.kxO c d a= .tbl ps):False:=by
 unfold M.kxO at z
 cases z
theorem Wr.le.tr {p q:Wr} (l:p.le q):p.tr q:=⟨l.γ,l.n,fun b _ n h=>l.x n h (fun _ z=>nomatch z) (fun _ z=>nomatch z),fun b _ n h=>l.x n h (fun _ z=>nomatch z) (fun _ z=>nomatch z),fun b _ _ _ n h=>l.x n h (fun _ z=>nomatch z) (fun _ z=>nomatch z),fun b _ _ n h=>l.x n h (fun _ z=>kx_dK z) (fun _ z=>kx_tb z),fun b _ n h=>l.x n h (fun _ z=>nomatch z) (fun _ z=>nomatch z),fun _ _ h=>l.rd h (fun _ z=>nomatch z),fun _ _ h=>l.rd h (fun _ z=>nomatch z)⟩
def TabZ (p:Wr) (P:Addr) (n:Str):Prop:=∃ps:Array Value,(¬p.O P∧p.H P=some (.tbl ps))∧TriplesOk ps.toList∧∀(pos:Pos) (cv:Value),codeAmong pos ps.toList=some cv→∃c,cv= .ref c∧¬p.O c∧p.H c=some (LamX.CodeO c n)
theorem TabZ.of {p q:Wr} {P:Addr} {n:Str} (t:TabZ p P n) (k:∀b o,¬p.O b→p.H b=some o→(∀kvs,o≠ .dK kvs)→¬q.O b∧q.H b=some o):TabZ q P n:=by
 obtain ⟨ps,⟨h1,h2⟩,h3,h4⟩:=t
 refine ⟨ps,k _ _ h1 h2 (fun _ z=>nomatch z),h3,fun pos cv e=>?_⟩
 obtain ⟨c,e1,e2,e3⟩:=h4 pos cv e
 exact ⟨c,e1,k _ _ e2 e3 (fun _ z=>by unfold LamX.CodeO at z; cases z)⟩
def lamT:List (Addr×Str):= [(223,"Pairs.answer.<locals>.<lambda>")]
mutual
theorem Rep.go {G:Gc} {p q:Wr} (l:p.tr q):∀{d:D} {v:V},Rep G p d v→Rep G q d v
 | .non,_,h=>h
 | .bl _,_,h=>h
 | .int _,_,h=>h
 | .str _,_,h=>h
 | .lst _,_,h=>let ⟨a,vs,e,r,t⟩:=h; ⟨a,vs,e,l.L _ _ r.1 r.2,Reps.go l t⟩
 | .con _,_,h=>let ⟨a,vs,e,r,t⟩:=h; ⟨a,vs,e,r.imp (l.C _ _) id,Reps.go l t⟩
 | .tup _,_,h=>let ⟨a,vs,e,r,t⟩:=h; ⟨a,vs,e,l.T _ _ r.1 r.2,Reps.go l t⟩
 | .dct _,_,h=>let ⟨a,vs,e,r,t⟩:=h; ⟨a,vs,e,l.K _ _ r,RepK.go l t⟩
 | .obj _ _,_,h=>let ⟨a,C,dx,vs,e,n,m,r,t⟩:=h; ⟨a,C,dx,vs,e,(l.I _ _ _ _ n r).1,m,(l.I _ _ _ _ n r).2,RepF.go l t⟩
 | .exc _ _,_,h=>let ⟨a,C,d,e,n,m,r,t⟩:=h; ⟨a,C,d,e,(l.X _ _ _ n r).1,m,(l.X _ _ _ n r).2,t.imp id fun ⟨da,fvs,e1,e2,e3,e4⟩=>⟨da,fvs,e1,(l.Y _ _ e3 e2).2,(l.Y _ _ e3 e2).1,RepF.go l e4⟩⟩
 | .cell i,_,h=>⟨Nat.lt_of_lt_of_le h.1 l.n,by rw [l.γ i h.1]; exact h.2⟩
theorem Reps.go {G:Gc} {p q:Wr} (l:p.tr q):∀{d:List D} {v:List V},Reps G p d v→Reps G q d v
 | [],_,h=>h
 | _::_,_,h=>let ⟨v,r,e,h1,h2⟩:=h; ⟨v,r,e,Rep.go l h1,Reps.go l h2⟩
theorem RepK.go {G:Gc} {p q:Wr} (l:p.tr q):∀{d:List (Key×D)} {v:List (Key×V)},RepK G p d v→RepK G q d v
 | [],_,h=>h
 | (_,_)::_,_,h=>let ⟨v,r,e,h1,h2⟩:=h; ⟨v,r,e,Rep.go l h1,RepK.go l h2⟩
theorem RepF.go {G:Gc} {p q:Wr} (l:p.tr q):∀{d:List (Str×D)} {v:List (Str×V)},RepF G p d v→RepF G q d v
 | [],_,h=>h
 | (_,_)::_,_,h=>let ⟨v,r,e,h1,h2⟩:=h; ⟨v,r,e,Rep.go l h1,RepF.go l h2⟩
end
theorem Rep.mono {G:Gc} {p q:Wr} (l:p.le q) {d:D} {v:V} (h:Rep G p d v):Rep G q d v:=h.go l.tr
theorem Reps.mono {G:Gc} {p q:Wr} (l:p.le q) {d:List D} {v:List V} (h:Reps G p d v):Reps G q d v:=h.go l.tr
theorem RepK.mono {G:Gc} {p q:Wr} (l:p.le q) {d:List (Key×D)} {v:List (Key×V)} (h:RepK G p d v):RepK G q d v:=h.go l.tr
theorem RepF.mono {G:Gc} {p q:Wr} (l:p.le q) {d:List (Str×D)} {v:List (Str×V)} (h:RepF G p d v):RepF G q d v:=h.go l.tr
section
variable {G:Gc} {p:Wr}
theorem Reps.len:∀{ds:List D} {vs:List V},Reps G p ds vs→vs.length=ds.length
 | [],_,h=>by rw [show _= [] from h]; rfl
 | _::_,_,h=>by obtain ⟨v,r,rfl,_,h2⟩:=h; simp [Reps.len h2]
theorem Reps.get:∀{ds:List D} {vs:List V} {i:Nat} {d:D},Reps G p ds vs→ds[i]? =some d→∃v,vs[i]? =some v∧Rep G p d v
 | [],_,_,_,_,e=>by simp at e
 | _::_,_,0,_,h,e=>by
  obtain ⟨v,r,rfl,h1,_⟩:=h
  simp only [List.getElem?_cons_zero,Option.some.injEq] at e
  subst e
  exact ⟨v,rfl,h1⟩
 | _::_,_,i+1,_,h,e=>by
  obtain ⟨v,r,rfl,_,h2⟩:=h
  obtain ⟨u,e2,h3⟩:=Reps.get (i:=i) h2 (by simpa using e)
  exact ⟨u,by simpa using e2,h3⟩
theorem Reps.of:∀{ds:List D} {vs:List V},vs.length=ds.length→(∀(i:Nat) (d:D) (v:V),ds[i]? =some d→vs[i]? =some v→Rep G p d v)→Reps G p ds vs
 | [],vs,l,_=>List.eq_nil_of_length_eq_zero l
 | d::ds,[],l,_=>by simp at l
 | d::ds,v::vs,l,h=>⟨v,vs,rfl,h 0 d v rfl rfl,Reps.of (by simpa using l) fun i d v e1 e2=>h (i+1) d v (by simpa using e1) (by simpa using e2)⟩
theorem Reps.at {ds:List D} {vs:List V} (h:Reps G p ds vs) {i:Nat} {d:D} {v:V} (e1:ds[i]? =some d) (e2:vs[i]? =some v):Rep G p d v:=by
 obtain ⟨u,e3,r⟩:=h.get e1
 rw [e2] at e3; cases e3; exact r
theorem Reps.none {ds:List D} {vs:List V} {i:Nat} (h:Reps G p ds vs) (e:ds[i]? =none):vs[i]? =none:=by
 rw [List.getElem?_eq_none_iff] at e ⊢
 rw [h.len]; exact e
theorem Reps.append {ds es:List D} {vs us:List V} (h:Reps G p ds vs) (g:Reps G p es us):Reps G p (ds++es) (vs++us):=by
 refine .of (by simp [h.len,g.len]) fun i d v e1 e2=>?_
 by_cases c:i<ds.length
 ·rw [List.getElem?_append_left c] at e1
  rw [List.getElem?_append_left (by rw [h.len]; exact c)] at e2
  exact h.at e1 e2
 ·rw [List.getElem?_append_right (by omega)] at e1
  rw [List.getElem?_append_right (by rw [h.len]; omega),h.len] at e2
  exact g.at e1 e2
theorem Reps.one {d:D} {v:V} (h:Rep G p d v):Reps G p [d] [v]:=⟨v,[],rfl,h,rfl⟩
theorem Reps.set {ds:List D} {vs:List V} (h:Reps G p ds vs) {d:D} {v:V} (g:Rep G p d v) (i:Nat):Reps G p (ds.set i d) (vs.set i v):=by
 refine .of (by simp [h.len]) fun j e u e1 e2=>?_
 by_cases c:i=j
 ·subst c
  have hl:i<ds.length:=by
   have:=List.getElem?_eq_some_iff.mp e1
   obtain ⟨a,_⟩:=this
   simpa using a
  rw [List.getElem?_set_self hl] at e1
  rw [List.getElem?_set_self (by rw [h.len]; exact hl)] at e2
  cases e1; cases e2; exact g
 ·rw [List.getElem?_set_ne c] at e1 e2
  exact h.at e1 e2
theorem Reps.take {ds:List D} {vs:List V} (h:Reps G p ds vs) (n:Nat):Reps G p (ds.take n) (vs.take n):=by
 refine .of (by simp [h.len]) fun i d v e1 e2=>?_
 rw [List.getElem?_take] at e1 e2
 split at e1
 ·rename_i c; rw [if_pos c] at e2; exact h.at e1 e2
 ·cases e1
theorem Reps.drop {ds:List D} {vs:List V} (h:Reps G p ds vs) (n:Nat):Reps G p (ds.drop n) (vs.drop n):=by
 refine .of (by simp [h.len]) fun i d v e1 e2=>?_
 rw [List.getElem?_drop] at e1 e2
 exact h.at e1 e2
theorem Reps.reverse {ds:List D} {vs:List V} (h:Reps G p ds vs):Reps G p ds.reverse vs.reverse:=by
 refine .of (by simp [h.len]) fun i d v e1 e2=>?_
 have c:i<ds.length:=by
  obtain ⟨a,_⟩:=List.getElem?_eq_some_iff.mp e1
  simpa using a
 rw [List.getElem?_reverse c] at e1
 rw [List.getElem?_reverse (by rw [h.len]; exact c),h.len] at e2
 exact h.at e1 e2
theorem RepK.keys:∀{ds:List (Key×D)} {vs:List (Key×V)},RepK G p ds vs→vs.map (·.1)=ds.map (·.1)
 | [],_,h=>by rw [show _= [] from h]; rfl
 | (k,_)::_,_,h=>by obtain ⟨v,r,rfl,_,h2⟩:=h; simp [RepK.keys h2]
theorem RepK.vals:∀{ds:List (Key×D)} {vs:List (Key×V)},RepK G p ds vs→Reps G p (ds.map (·.2)) (vs.map (·.2))
 | [],_,h=>by rw [show _= [] from h]; exact rfl
 | (k,_)::_,_,h=>by obtain ⟨v,r,rfl,h1,h2⟩:=h; exact ⟨v,r.map (·.2),rfl,h1,RepK.vals h2⟩
theorem RepK.of:∀{ds:List (Key×D)} {vs:List (Key×V)},vs.map (·.1)=ds.map (·.1)→Reps G p (ds.map (·.2)) (vs.map (·.2))→RepK G p ds vs
 | [],vs,e,_=>by cases vs with
  | nil=>rfl
  | cons a r=>simp at e
 | (k,d)::ds,[],e,_=>by simp at e
 | (k,d)::ds,(k',v)::vs,e,h=>by
  simp only [List.map_cons,List.cons.injEq] at e
  obtain ⟨rfl,e⟩:=e
  obtain ⟨u,r,e2,h1,h2⟩:=h
  simp only [List.map_cons,List.cons.injEq] at e2
  obtain ⟨rfl,rfl⟩:=e2
  exact ⟨v,vs,rfl,h1,RepK.of e h2⟩
theorem RepK.len {ds:List (Key×D)} {vs:List (Key×V)} (h:RepK G p ds vs):vs.length=ds.length:=by
 have:=congrArg List.length h.keys
 simpa using this
end
def kA (kvs:List (Key×D)) (k:Key):Option D:=(kvs.find? fun kv=>decide (kv.1=k)).map (·.2)
def dput (kvs:List (Key×D)) (k:Key) (v:D):List (Key×D):=
 if (kvs.any fun kv=>decide (kv.1=k))=true then kvs.map (fun kv=>if kv.1=k then (kv.1,v) else kv) else kvs++ [(k,v)]
def ddrop (kvs:List (Key×D)) (k:Key):List (Key×D):=kvs.filter fun kv=>decide (kv.1≠k)
def bI (fs:List (Str×D)) (f:Str):Option D:=(fs.find? fun kv=>decide (kv.1=f)).map (·.2)
def gb (f:Str) (v:D):List (Str×D)→List (Str×D)
 | []=> [(f,v)]
 | (g,x)::r=>if g=f then (g,v)::r else (g,x)::gb f v r
section
variable {G:Gc} {p:Wr}
theorem RepK.val {k:Key}:∀{ds:List (Key×D)} {vs:List (Key×V)},RepK G p ds vs→(∀d,kA ds k=some d→∃v,valV vs k=some v∧Rep G p d v)∧(kA ds k=none→valV vs k=none)
 | [],_,h=>by
  rw [show _= [] from h]
  exact ⟨fun d e=>(nomatch e),fun _=>rfl⟩
 | (k',d')::ds,_,h=>by
  obtain ⟨v,r,rfl,h1,h2⟩:=h
  by_cases c:k' =k
  ·have e:kA ((k',d')::ds) k=some d' :=by unfold kA; rw [List.find?_cons_of_pos (by simp [c])]; rfl
   rw [e]
   refine ⟨fun d q=>?_,fun q=>(nomatch q)⟩
   cases q
   exact ⟨v,valV_pos c,h1⟩
  ·have e:kA ((k',d')::ds) k=kA ds k:=by unfold kA; rw [List.find?_cons_of_neg (by simp [c])]
   rw [e,valV_neg c]
   exact RepK.val h2
theorem RepK.any {k:Key}:∀{ds:List (Key×D)} {vs:List (Key×V)},RepK G p ds vs→(vs.any fun kv=>decide (kv.1=k))=ds.any fun kv=>decide (kv.1=k)
 | [],_,h=>by rw [show _= [] from h]; rfl
 | (k',d')::ds,_,h=>by
  obtain ⟨v,r,rfl,h1,h2⟩:=h
  rw [List.any_cons,List.any_cons,RepK.any h2]
theorem RepK.map {k:Key} {d:D} {v:V} (g:Rep G p d v):∀{ds:List (Key×D)} {vs:List (Key×V)},RepK G p ds vs→RepK G p (ds.map fun kv=>if kv.1=k then (kv.1,d) else kv) (vs.map fun kv=>if kv.1=k then (kv.1,v) else kv)
 | [],_,h=>by rw [show _= [] from h]; exact rfl
 | (k',d')::ds,_,h=>by
  obtain ⟨u,r,rfl,h1,h2⟩:=h
  have ih:=RepK.map (k:=k) g h2
  rw [List.map_cons,List.map_cons]
  by_cases c:k' =k
  ·rw [if_pos c,if_pos c]; exact ⟨v,_,rfl,g,ih⟩
  ·rw [if_neg c,if_neg c]; exact ⟨u,_,rfl,h1,ih⟩
theorem RepK.snoc {k:Key} {d:D} {v:V} (g:Rep G p d v):∀{ds:List (Key×D)} {vs:List (Key×V)},RepK G p ds vs→RepK G p (ds++ [(k,d)]) (vs++ [(k,v)])
 | [],_,h=>by rw [show _= [] from h]; exact ⟨v,[],rfl,g,rfl⟩
 | (k',d')::ds,_,h=>by
  obtain ⟨u,r,rfl,h1,h2⟩:=h
  exact ⟨u,_,rfl,h1,RepK.snoc g h2⟩
theorem RepK.put {k:Key} {d:D} {v:V} {ds:List (Key×D)} {vs:List (Key×V)} (h:RepK G p ds vs) (g:Rep G p d v):RepK G p (dput ds k d) (putK vs k v):=by
 unfold dput putK
 rw [h.any]
 split
 ·exact RepK.map g h
 ·exact RepK.snoc g h
theorem RepK.drop {k:Key}:∀{ds:List (Key×D)} {vs:List (Key×V)},RepK G p ds vs→RepK G p (ddrop ds k) (dropK vs k)
 | [],_,h=>by rw [show _= [] from h]; exact rfl
 | (k',d')::ds,_,h=>by
  obtain ⟨u,r,rfl,h1,h2⟩:=h
  have ih:=RepK.drop (k:=k) h2
  unfold ddrop dropK at ih ⊢
  by_cases c:k' =k
  ·rw [List.filter_cons_of_neg (by simp [c]),List.filter_cons_of_neg (by simp [c])]; exact ih
  ·rw [List.filter_cons_of_pos (by simp [c]),List.filter_cons_of_pos (by simp [c])]; exact ⟨u,_,rfl,h1,ih⟩
theorem RepF.val {k:Str}:∀{ds:List (Str×D)} {vs:List (Str×V)},RepF G p ds vs→(∀d,bI ds k=some d→∃v,vs.lookup k=some v∧Rep G p d v)∧(bI ds k=none→vs.lookup k=none)
 | [],_,h=>by
  rw [show _= [] from h]
  exact ⟨fun d e=>(nomatch e),fun _=>rfl⟩
 | (k',d')::ds,_,h=>by
  obtain ⟨v,r,rfl,h1,h2⟩:=h
  by_cases c:k' =k
  ·have e:bI ((k',d')::ds) k=some d' :=by unfold bI; rw [List.find?_cons_of_pos (by simp [c])]; rfl
   rw [e]
   refine ⟨fun d q=>?_,fun q=>(nomatch q)⟩
   cases q
   exact ⟨v,by simp [List.lookup,c],h1⟩
  ·have e:bI ((k',d')::ds) k=bI ds k:=by unfold bI; rw [List.find?_cons_of_neg (by simp [c])]
   have e2:List.lookup k ((k',v)::r)=List.lookup k r:=by
    have:(k == k')=false:=by simpa using fun q=>c q.symm
    simp [List.lookup,this]
   rw [e,e2]
   exact RepF.val h2
theorem RepF.put {f:Str} {d:D} {v:V} (g:Rep G p d v):∀{ds:List (Str×D)} {vs:List (Str×V)},RepF G p ds vs→RepF G p (gb f d ds) (putF f v vs)
 | [],_,h=>by rw [show _= [] from h]; exact ⟨v,[],rfl,g,rfl⟩
 | (k',d')::ds,_,h=>by
  obtain ⟨u,r,rfl,h1,h2⟩:=h
  unfold gb putF
  by_cases c:k' =f
  ·rw [if_pos c,if_pos c]; exact ⟨v,r,rfl,g,h2⟩
  ·rw [if_neg c,if_neg c]; exact ⟨u,_,rfl,h1,RepF.put g h2⟩
theorem RepF.len:∀{ds:List (Str×D)} {vs:List (Str×V)},RepF G p ds vs→vs.length=ds.length
 | [],_,h=>by rw [show _= [] from h]; rfl
 | (k',d')::ds,_,h=>by obtain ⟨u,r,rfl,h1,h2⟩:=h; simp [RepF.len h2]
end
def Ho (G:Gc) (p:Wr):D→Addr→Prop
 | .lst ds,a=>∃vs,p.H a=some (.lst vs)∧Reps G p ds vs
 | .dct ds,a=>∃vs,p.H a=some (.dK vs)∧RepK G p ds vs
 | .obj c ds,a=>∃C dx vs,G.mg c=some (.ref C)∧p.H a=some (.ins C dx vs)∧RepF G p ds vs
 | _,_=>False
def Hc (G:Gc) (p:Wr):D→Addr→Prop
 | .lst ds,a=>∃vs,p.H a=some (.lst vs)∧Reps G p ds vs
 | .con ds,a=>∃vs,SqL G.K p.H a vs∧Reps G p ds vs
 | .tup ds,a=>∃vs,p.H a=some (.tup vs)∧Reps G p ds vs
 | .dct ds,a=>∃vs,Rd p.H a (.dK vs)∧RepK G p ds vs
 | .obj c ds,a=>∃C dx vs,G.mg c=some (.ref C)∧p.H a=some (.ins C dx vs)∧RepF G p ds vs
 | _,_=>False
section
variable {G:Gc} {p q:Wr} {a:Addr}
theorem Ho.c:∀{x:D},Ho G p x a→Hc G p x a
 | .lst _,h=>h
 | .dct _,h=>let ⟨vs,e,r⟩:=h; ⟨vs, .inl e,r⟩
 | .obj _ _,h=>h
 | .non,h=>h | .bl _,h=>h | .int _,h=>h | .str _,h=>h | .con _,h=>h.elim | .tup _,h=>h.elim | .exc _ _,h=>h.elim | .cell _,h=>h
theorem Ho.rep (n:¬p.O a):∀{x:D},Ho G p x a→Rep G p x (.ref a)
 | .lst _,h=>let ⟨vs,e,r⟩:=h; ⟨a,vs,rfl,⟨n,e⟩,r⟩
 | .dct _,h=>let ⟨vs,e,r⟩:=h; ⟨a,vs,rfl,⟨n, .inl e⟩,r⟩
 | .obj _ _,h=>let ⟨C,dx,vs,m,e,r⟩:=h; ⟨a,C,dx,vs,rfl,n,m,e,r⟩
 | .non,h=>h.elim | .bl _,h=>h.elim | .int _,h=>h.elim | .str _,h=>h.elim | .con _,h=>h.elim | .tup _,h=>h.elim | .exc _ _,h=>h.elim | .cell _,h=>h.elim
theorem Ho.mono (l:p.le q) (e:q.H a=p.H a):∀{x:D},Ho G p x a→Ho G q x a
 | .lst _,h=>let ⟨vs,e1,r⟩:=h; ⟨vs,e.trans e1,r.mono l⟩
 | .dct _,h=>let ⟨vs,e1,r⟩:=h; ⟨vs,e.trans e1,r.mono l⟩
 | .obj _ _,h=>let ⟨C,dx,vs,m,e1,r⟩:=h; ⟨C,dx,vs,m,e.trans e1,r.mono l⟩
 | .non,h=>h.elim | .bl _,h=>h.elim | .int _,h=>h.elim | .str _,h=>h.elim | .con _,h=>h.elim | .tup _,h=>h.elim | .exc _ _,h=>h.elim | .cell _,h=>h.elim
theorem Ho.some:∀{x:D},Ho G p x a→∃o,p.H a=some o
 | .lst _,h=>let ⟨vs,e1,r⟩:=h; ⟨_,e1⟩
 | .dct _,h=>let ⟨vs,e1,r⟩:=h; ⟨_,e1⟩
 | .obj _ _,h=>let ⟨C,dx,vs,m,e1,r⟩:=h; ⟨_,e1⟩
 | .non,h=>h.elim | .bl _,h=>h.elim | .int _,h=>h.elim | .str _,h=>h.elim | .con _,h=>h.elim | .tup _,h=>h.elim | .exc _ _,h=>h.elim | .cell _,h=>h.elim
def D.box:D→Bool
 | .lst _ | .con _ | .tup _ | .dct _ | .obj _ _=>true
 | _=>false
theorem Rep.c {v:V}:∀{x:D},x.box=true→Rep G p x v→∃a,v= .ref a∧Hc G p x a
 | .lst _,_,h=>let ⟨a,vs,e,r,t⟩:=h; ⟨a,e,vs,r.2,t⟩
 | .con _,_,h=>let ⟨a,vs,e,r,t⟩:=h; ⟨a,e,vs,r.imp (fun r=>r.2) id,t⟩
 | .tup _,_,h=>let ⟨a,vs,e,r,t⟩:=h; ⟨a,e,vs,r.2,t⟩
 | .dct _,_,h=>let ⟨a,vs,e,r,t⟩:=h; ⟨a,e,vs,r.2,t⟩
 | .obj _ _,_,h=>let ⟨a,C,dx,vs,e,_,m,r,t⟩:=h; ⟨a,e,C,dx,vs,m,r,t⟩
 | .non,b,_=>nomatch b
 | .bl _,b,_=>nomatch b
 | .int _,b,_=>nomatch b
 | .str _,b,_=>nomatch b
 | .exc _ _,b,_=>nomatch b
 | .cell _,b,_=>nomatch b
end
structure En where
 F:Addr→Prop
 W:Wr
 S:Sto
def Rv (G:Gc) (p:Wr) (m:Nat) (w:List (Option V)) (k:Nat):Vl→V→Prop
 | .d x,v=>Rep G p x v
 | .own x,v=>∃a,v= .ref a∧Ho G p x a
 | .loc j,v=>m≤k∧j<m∧w[j]? =some (some v)
structure Sm (G:Gc) (E:En) (m:Nat) (p:Wr) (w:List (Option V)) (ŵ:List (Option Vl)) (S:Sto):Prop where
 len:w.length=ŵ.length
 pn:p.n=S.nx
 nx:E.S.nx≤S.nx
 ebd:∀(i:Nat) (d:D),E.S.get i=some d→i<E.S.nx
 old:∀i,i<E.S.nx→p.γ i=E.W.γ i
 bd:∀(i:Nat) (d:D),S.get i=some d→i<S.nx
 cel:∀(i:Nat) (d:D),S.get i=some d→p.O (p.γ i)∧Ho G p d (p.γ i)
 inj:∀(i j:Nat) (d e:D),S.get i=some d→S.get j=some e→p.γ i=p.γ j→i=j
 born:∀(i:Nat) (d:D),S.get i=some d→(∃d0,E.S.get i=some d0)∨E.W.H (p.γ i)=none
 frm:∀a,E.F a→p.O a∧∀i d,S.get i=some d→p.γ i≠a
 kp:∀b o,E.W.H b=some o→(∀i d,E.S.get i=some d→b≠E.W.γ i)→(E.F b→p.H b=some o)∧Kept o (p.H b)
 sub:∀b o,E.W.H b=some o→∃o',p.H b=some o'
 grw:∀b o,E.W.H b=some o→¬E.W.O b→¬p.O b
 dom:∀a,p.O a→∃o,p.H a=some o
 ent:∀(k:Nat) (e:Vl),ŵ[k]? =some (some e)→∃v,w[k]? =some (some v)∧Rv G p m w k e v
 own:∀(k:Nat) (x:D) (a:Addr),ŵ[k]? =some (some (.own x))→w[k]? =some (some (.ref a))→p.O a∧E.W.H a=none∧¬E.F a∧∀i d,S.get i=some d→p.γ i≠a
 sep:∀(j k:Nat) (x y:D) (a:Addr),ŵ[j]? =some (some (.own x))→ŵ[k]? =some (some (.own y))→w[j]? =some (some (.ref a))→w[k]? =some (some (.ref a))→j=k
 tb:∀t∈lamT,TabZ p t.1 t.2
section
variable {G:Gc} {E:En} {m:Nat} {p:Wr} {w:List (Option V)} {ŵ:List (Option Vl)} {S:Sto} {x:D} {v:V} {a:Addr} {o:HO} {k:Nat}
theorem ar {α:Type} {l:List α} {x y:α} {k:Nat} (h:(l++ [x])[k]? =some y):l[k]? =some y∨(k=l.length∧x=y):=by
 by_cases c:k<l.length
 ·rw [List.getElem?_append_left c] at h; exact .inl h
 ·by_cases c2:k=l.length
  ·subst c2
   simp only [List.getElem?_append_right (Nat.le_refl _),Nat.sub_self,List.getElem?_cons_zero,Option.some.injEq] at h
   exact .inr ⟨rfl,h⟩
  ·rw [List.getElem?_eq_none (by simp; omega)] at h; cases h
theorem aF {α:Type} {l:List α} {x y:α} {k:Nat} (h:l[k]? =some y):(l++ [x])[k]? =some y:=by
 obtain ⟨a,_⟩:=List.getElem?_eq_some_iff.mp h
 rw [List.getElem?_append_left a]; exact h
theorem af {α:Type} {l:List α} {x:α}:(l++ [x])[l.length]? =some x:=by simp
theorem ag {α:Type} {l:List α} {y:α} {k:Nat} (h:l[k]? =some y):k<l.length:=(List.getElem?_eq_some_iff.mp h).1
theorem Rv.mono {q:Wr} {e:Vl} (l:p.le q) (hh:∀x a,(∃v,v=V.ref a)→Ho G p x a→e=Vl.own x→q.H a=p.H a) {w' :List (Option V)} (hw:∀j v,j<m→w[j]? =some (some v)→w'[j]? =some (some v)):Rv G p m w k e v→Rv G q m w' k e v:=by
 cases e with
 | d x=>exact fun h=>Rep.mono l h
 | own x=>exact fun ⟨a,e,h⟩=>⟨a,e,Ho.mono l (hh x a ⟨_,rfl⟩ h rfl) h⟩
 | loc j=>exact fun ⟨h1,h2,h3⟩=>⟨h1,h2,hw _ _ h2 h3⟩
theorem Sm.push (h:Sm G E m p w ŵ S) (r:Rep G p x v):Sm G E m p (w++ [some v]) (ŵ++ [some (.d x)]) S:=by
 refine {h with len:=by simp [h.len],ent:=fun k e q=>?_,own:=fun k y a q1 q2=>?_,sep:=fun j k y z a q1 q2 q3 q4=>?_}
 ·rcases ar q with q | ⟨rfl,qq⟩
  ·obtain ⟨u,e1,r1⟩:=h.ent k e q
   exact ⟨u,aF e1,r1.mono (.refl p) (fun _ _ _ _ _=>rfl) fun j v _ e=>aF e⟩
  ·obtain rfl:=Option.some.inj qq
   exact ⟨v,by rw [←h.len]; exact af,r⟩
 ·rcases ar q1 with q | ⟨rfl,qq⟩
  ·have:k<w.length:=by rw [h.len]; exact ag q
   rw [List.getElem?_append_left this] at q2
   exact h.own k y a q q2
  ·cases qq
 ·rcases ar q1 with q1 | ⟨rfl,qq⟩
  ·rcases ar q2 with q2 | ⟨rfl,qq⟩
   ·rw [List.getElem?_append_left (by rw [h.len]; exact ag q1)] at q3
    rw [List.getElem?_append_left (by rw [h.len]; exact ag q2)] at q4
    exact h.sep j k y z a q1 q2 q3 q4
   ·cases qq
  ·cases qq
theorem Sm.pushLoc {j:Nat} {e:Vl} (h:Sm G E m p w ŵ S) (hm:m≤w.length) (hj:j<m) (q:ŵ[j]? =some (some e)) (hv:w[j]? =some (some v)):Sm G E m p (w++ [some v]) (ŵ++ [some (.loc j)]) S:=by
 refine {h with len:=by simp [h.len],ent:=fun k e q=>?_,own:=fun k y a q1 q2=>?_,sep:=fun j k y z a q1 q2 q3 q4=>?_}
 ·rcases ar q with q | ⟨rfl,qq⟩
  ·obtain ⟨u,e1,r1⟩:=h.ent k e q
   exact ⟨u,aF e1,r1.mono (.refl p) (fun _ _ _ _ _=>rfl) fun j v _ e=>aF e⟩
  ·obtain rfl:=Option.some.inj qq
   exact ⟨v,by rw [←h.len]; exact af,by rw [←h.len]; exact hm,hj,aF hv⟩
 ·rcases ar q1 with q | ⟨rfl,qq⟩
  ·have:k<w.length:=by rw [h.len]; exact ag q
   rw [List.getElem?_append_left this] at q2
   exact h.own k y a q q2
  ·cases qq
 ·rcases ar q1 with q1 | ⟨rfl,qq⟩
  ·rcases ar q2 with q2 | ⟨rfl,qq⟩
   ·rw [List.getElem?_append_left (by rw [h.len]; exact ag q1)] at q3
    rw [List.getElem?_append_left (by rw [h.len]; exact ag q2)] at q4
    exact h.sep j k y z a q1 q2 q3 q4
   ·cases qq
  ·cases qq
theorem Sm.pop {w' :List (Option V)} {ŵ' :List (Option Vl)} (h:Sm G E m p (w++w') (ŵ++ŵ') S) (hl:w.length=ŵ.length) (hm:m≤w.length):Sm G E m p w ŵ S:=by
 have up:∀{k:Nat} {e:Vl},ŵ[k]? =some (some e)→(ŵ++ŵ')[k]? =some (some e):=fun q=>by rw [List.getElem?_append_left (ag q)]; exact q
 have dn:∀{k:Nat} {v:Option V},k<w.length→(w++w')[k]? =some v→w[k]? =some v:=fun l q=>by rw [List.getElem?_append_left l] at q; exact q
 have uq:∀{k:Nat} {v:Option V},w[k]? =some v→(w++w')[k]? =some v:=fun q=>by rw [List.getElem?_append_left (ag q)]; exact q
 refine {h with len:=hl,ent:=fun k e q=>?_,own:=fun k y a q1 q2=>h.own k y a (up q1) (uq q2),sep:=fun j k y z a q1 q2 q3 q4=>h.sep j k y z a (up q1) (up q2) (uq q3) (uq q4)}
 obtain ⟨u,e1,r1⟩:=h.ent k e (up q)
 exact ⟨u,dn (by rw [hl]; exact ag q) e1,r1.mono (.refl p) (fun _ _ _ _ _=>rfl) fun j v l e=>dn (by omega) e⟩
theorem Sm.step {q:Wr} (h:Sm G E m p w ŵ S) (l:p.le q) (hγ:q.γ=p.γ) (hn:q.n=p.n) (hO:q.O=p.O) (hH:∀b o,p.H b=some o→q.H b=some o):Sm G E m q w ŵ S:=by
 have hq:∀{x a},Ho G p x a→q.H a=p.H a:=fun {x a} ho=>by
  obtain ⟨o,e⟩:=ho.some
  rw [e]; exact hH _ _ e
 refine {h with pn:=by rw [hn]; exact h.pn,old:=by rw [hγ]; exact h.old,cel:=fun i d e=>?_,inj:=by rw [hγ]; exact h.inj,born:=by rw [hγ]; exact h.born,frm:=by rw [hγ,hO]; exact h.frm,kp:=fun b o e n=>⟨fun f=>hH _ _ ((h.kp b o e n).1 f),(h.kp b o e n).2.imp (hH _ _) (.imp (fun ⟨kvs,od,e1,e2⟩=>⟨kvs,od,e1,hH _ _ e2⟩) fun ⟨ps,mo,e1,e2⟩=>⟨ps,mo,e1,hH _ _ e2⟩)⟩,sub:=fun b o e=>?_,tb:=fun t ht=>(h.tb t ht).of fun b o n e _=>⟨by rw [hO]; exact n,hH _ _ e⟩,grw:=by rw [hO]; exact h.grw,dom:=fun a e=>?_,ent:=fun k e e1=>?_,own:=by rw [hγ,hO]; exact h.own}
 ·rw [hγ,hO]
  have:=h.cel i d e
  exact ⟨this.1,this.2.mono l (hq this.2)⟩
 ·obtain ⟨o',e'⟩:=h.sub b o e
  exact ⟨o',hH _ _ e'⟩
 ·rw [hO] at e
  obtain ⟨o,e'⟩:=h.dom a e
  exact ⟨o,hH _ _ e'⟩
 ·obtain ⟨u,e2,r⟩:=h.ent k e e1
  exact ⟨u,e2,r.mono l (fun _ _ _ ho _=>hq ho) fun _ _ _ e=>e⟩
theorem cm (hn:p.H a=none):p.le {p with H:=upd p.H a o}:=⟨fun _ _=>rfl,Nat.le_refl _,fun b u h e=>⟨.inl (by show upd _ _ _ _=_; rw [upd_ne (ne_of_none e hn)]; exact e),h⟩⟩
theorem Sm.alloc (h:Sm G E m p w ŵ S) (hn:p.H a=none):Sm G E m {p with H:=upd p.H a o} w ŵ S:=
 h.step (cm hn) rfl rfl rfl fun b u e=>by show upd _ _ _ _=_; rw [upd_ne (ne_of_none e hn)]; exact e
theorem Sm.fresh (h:Sm G E m p w ŵ S) (hn:p.H a=none):E.W.H a=none∧¬p.O a:=by
 refine ⟨?_,fun q=>?_⟩
 ·cases e:E.W.H a with
  | none=>rfl
  | some o=>obtain ⟨o',e'⟩:=h.sub a o e; rw [hn] at e'; cases e'
 ·obtain ⟨o,e⟩:=h.dom a q
  rw [hn] at e; cases e
theorem gQ (hn:p.H a=none):p.le {p with H:=upd p.H a o,O:=fun b=>p.O b∨b=a}:=⟨fun _ _=>rfl,Nat.le_refl _,fun b u h e=>⟨.inl (by show upd _ _ _ _=_; rw [upd_ne (ne_of_none e hn)]; exact e),fun q=>q.elim h (ne_of_none e hn)⟩⟩
theorem Sm.grow (h:Sm G E m p w ŵ S) (hn:p.H a=none):Sm G E m {p with H:=upd p.H a o,O:=fun b=>p.O b∨b=a} w ŵ S:=by
 have l:=gQ (p:=p) (o:=o) hn
 obtain ⟨f1,f2⟩:=h.fresh hn
 have hH:∀b u,p.H b=some u→upd p.H a o b=some u:=fun b u e=>by rw [upd_ne (ne_of_none e hn)]; exact e
 have hq:∀{x b},Ho G p x b→upd p.H a o b=p.H b:=fun {x b} ho=>by
  obtain ⟨o,e⟩:=ho.some
  rw [e]; exact hH _ _ e
 refine {h with cel:=fun i d e=>⟨.inl (h.cel i d e).1,(h.cel i d e).2.mono l (hq (h.cel i d e).2)⟩,frm:=fun b e=>⟨.inl (h.frm b e).1,(h.frm b e).2⟩,kp:=fun b u e n=>⟨fun f=>hH _ _ ((h.kp b u e n).1 f),(h.kp b u e n).2.imp (hH _ _) (.imp (fun ⟨kvs,od,e1,e2⟩=>⟨kvs,od,e1,hH _ _ e2⟩) fun ⟨ps,mo,e1,e2⟩=>⟨ps,mo,e1,hH _ _ e2⟩)⟩,tb:=fun t ht=>(h.tb t ht).of fun b u n e _=>⟨fun q=>q.elim n (ne_of_none e hn),hH _ _ e⟩,sub:=fun b u e=>?_,grw:=fun b u e n q=>?_,dom:=fun b q=>?_,ent:=fun k e e1=>?_,own:=fun k x b q1 q2=>⟨.inl (h.own k x b q1 q2).1,(h.own k x b q1 q2).2⟩}
 ·obtain ⟨o',e'⟩:=h.sub b u e
  exact ⟨o',hH _ _ e'⟩
 ·rcases q with q | rfl
  ·exact h.grw b u e n q
  ·rw [f1] at e; cases e
 ·rcases q with q | rfl
  ·obtain ⟨o',e'⟩:=h.dom b q
   exact ⟨o',hH _ _ e'⟩
  ·exact ⟨o,upd_same⟩
 ·obtain ⟨u,e2,r⟩:=h.ent k e e1
  exact ⟨u,e2,r.mono l (fun _ _ _ ho _=>hq ho) fun _ _ _ e=>e⟩
theorem Sm.allocOwn (h:Sm G E m p w ŵ S) (hn:p.H a=none) (hx:Ho G {p with H:=upd p.H a o,O:=fun b=>p.O b∨b=a} x a):
  Sm G E m {p with H:=upd p.H a o,O:=fun b=>p.O b∨b=a} (w++ [some (.ref a)]) (ŵ++ [some (.own x)]) S:=by
 obtain ⟨f1,f2⟩:=h.fresh hn
 have h1:Sm G E m {p with H:=upd p.H a o,O:=fun b=>p.O b∨b=a} w ŵ S:=h.grow hn
 ·have nog:∀i d,S.get i=some d→p.γ i≠a:=fun i d e q=>f2 (by rw [←q]; exact (h.cel i d e).1)
  have noF:¬E.F a:=fun q=>f2 (h.frm a q).1
  have noW:∀(k:Nat) (y:D),ŵ[k]? =some (some (.own y))→w[k]? ≠some (some (.ref a)):=fun k y e1 e2=>f2 (h.own k y a e1 e2).1
  refine {h1 with len:=by simp [h.len],ent:=fun k e q=>?_,own:=fun k y b q1 q2=>?_,sep:=fun j k y z b q1 q2 q3 q4=>?_}
  ·rcases ar q with q | ⟨rfl,qq⟩
   ·obtain ⟨u,e1,r1⟩:=h1.ent k e q
    exact ⟨u,aF e1,r1.mono (.refl _) (fun _ _ _ _ _=>rfl) fun j v _ e=>aF e⟩
   ·obtain rfl:=Option.some.inj qq
    exact ⟨.ref a,by rw [←h.len]; exact af,a,rfl,hx⟩
  ·rcases ar q1 with q | ⟨rfl,qq⟩
   ·rw [List.getElem?_append_left (by rw [h.len]; exact ag q)] at q2
    exact h1.own k y b q q2
   ·rw [←h.len,af] at q2
    cases q2
    exact ⟨.inr rfl,f1,noF,nog⟩
  ·rcases ar q1 with q1 | ⟨rfl,qq⟩
   ·rw [List.getElem?_append_left (by rw [h.len]; exact ag q1)] at q3
    rcases ar q2 with q2 | ⟨rfl,qq⟩
    ·rw [List.getElem?_append_left (by rw [h.len]; exact ag q2)] at q4
     exact h.sep j k y z b q1 q2 q3 q4
    ·rw [←h.len,af] at q4
     cases q4
     exact (noW j y q1 q3).elim
   ·rw [←h.len,af] at q3
    cases q3
    rcases ar q2 with q2 | ⟨rfl,qq⟩
    ·rw [List.getElem?_append_left (by rw [h.len]; exact ag q2)] at q4
     exact (noW k z q2 q4).elim
    ·rfl
end
section
variable {G:Gc} {E:En} {m:Nat} {p:Wr} {w:List (Option V)} {ŵ:List (Option Vl)} {S:Sto} {x y:D} {v:V} {a:Addr} {o:HO} {k:Nat}
theorem bT {α:Type} {l:List α} {x y:α} {k j:Nat} (h:(l.set k x)[j]? =some y):(k=j∧x=y)∨(k≠j∧l[j]? =some y):=by
 by_cases c:k=j
 ·subst c
  have hl:k<l.length:=by have:=ag h; simpa using this
  rw [List.getElem?_set_self hl] at h
  exact .inl ⟨rfl,Option.some.inj h⟩
 ·rw [List.getElem?_set_ne c] at h
  exact .inr ⟨c,h⟩
theorem kW {α:Type} {l:List α} {x:α} {k:Nat} (h:k<l.length):(l.set k x)[k]? =some x:=List.getElem?_set_self h
theorem kn:p.le {p with O:=fun b=>p.O b∧b≠a}:=⟨fun _ _=>rfl,Nat.le_refl _,fun _ _ h e=>⟨.inl e,fun q=>h q.1⟩⟩
theorem Sm.settle (h:Sm G E m p w ŵ S) (q:ŵ[k]? =some (some (.own x))) (qa:w[k]? =some (some (.ref a))):Sm G E m {p with O:=fun b=>p.O b∧b≠a} w (ŵ.set k (some (.d x))) S:=by
 have l:=kn (p:=p) (a:=a)
 obtain ⟨o1,o2,o3,o4⟩:=h.own k x a q qa
 have hk:=ag q
 have nk:∀{j y},(ŵ.set k (some (.d x)))[j]? =some (some (Vl.own y))→k≠j∧ŵ[j]? =some (some (.own y)):=fun {j y} e=>by
  rcases bT e with ⟨rfl,ee⟩ | e
  ·cases ee
  ·exact e
 have na:∀{j y b},ŵ[j]? =some (some (Vl.own y))→w[j]? =some (some (V.ref b))→k≠j→b≠a:=fun {j y b} e1 e2 c e=>c (h.sep k j x y a q e1 qa (by rw [←e]; exact e2))
 refine {h with len:=by simp [h.len],cel:=fun i d e=>⟨⟨(h.cel i d e).1,o4 i d e⟩,(h.cel i d e).2.mono l rfl⟩,frm:=fun b e=>⟨⟨(h.frm b e).1,fun z=>o3 (z ▸ e)⟩,(h.frm b e).2⟩,tb:=fun t ht=>(h.tb t ht).of fun b u n e _=>⟨fun z=>n z.1,e⟩,grw:=fun b u e n z=>h.grw b u e n z.1,dom:=fun b z=>h.dom b z.1,ent:=fun j e e1=>?_,own:=fun j y b e1 e2=>?_,sep:=fun i j y z b e1 e2 e3 e4=>?_}
 ·rcases bT e1 with ⟨rfl,ee⟩ | ⟨c,e1⟩
  ·cases ee
   obtain ⟨u,e2,b,rfl,r⟩:=h.ent k _ q
   rw [qa] at e2
   cases e2
   exact ⟨_,qa,Ho.rep (show¬(p.O a∧a≠a) from fun z=>z.2 rfl) (r.mono l rfl)⟩
  ·obtain ⟨u,e2,r⟩:=h.ent j e e1
   exact ⟨u,e2,r.mono l (fun _ _ _ _ _=>rfl) fun _ _ _ e=>e⟩
 ·obtain ⟨c,e1⟩:=nk e1
  have:=h.own j y b e1 e2
  exact ⟨⟨this.1,na e1 e2 c⟩,this.2⟩
 ·exact h.sep i j y z b (nk e1).2 (nk e2).2 e3 e4
theorem Sm.store {e:Vl} (h:Sm G E m p (w++ [some v]) (ŵ++ [some e]) S) (hk:k<m) (hm:m≤w.length) (hl:w.length=ŵ.length) (he:∀j,e≠ .loc j) (hn:∀(i j:Nat),ŵ[i]? =some (some (.loc j))→j≠k):Sm G E m p (w.set k (some v)) (ŵ.set k (some e)) S:=by
 have last:(ŵ++ [some e])[ŵ.length]? =some (some e):=af
 have lastv:(w++ [some v])[ŵ.length]? =some (some v):=by rw [←hl]; exact af
 have kw:k<w.length:=by omega
 -- where an entry comes from
 have go:∀{j:Nat} {e' :Vl},(ŵ.set k (some e))[j]? =some (some e')→∃i,(ŵ++ [some e])[i]? =some (some e')∧(∀u,(w.set k (some v))[j]? =some u↔(w++ [some v])[i]? =some u)∧((j=k∧i=ŵ.length∧e' =e)∨(j≠k∧i=j∧j<ŵ.length)):=fun {j e'} q=>by
  rcases bT q with ⟨rfl,qq⟩ | ⟨c,q⟩
  ·cases qq
   refine ⟨_,last,fun u=>?_, .inl ⟨rfl,rfl,rfl⟩⟩
   rw [kW kw,←hl,af]
  ·have hj:=ag q
   refine ⟨j,aF q,fun u=>?_, .inr ⟨fun z=>c z.symm,rfl,hj⟩⟩
   rw [List.getElem?_set_ne c,List.getElem?_append_left (by omega)]
 refine {h with len:=by simp [hl],ent:=fun j e' q=>?_,own:=fun j y b q1 q2=>?_,sep:=fun i j y z b q1 q2 q3 q4=>?_}
 ·obtain ⟨i,q1,q2,c⟩:=go q
  obtain ⟨u,e1,r⟩:=h.ent i e' q1
  refine ⟨u,(q2 _).mpr e1, ?_⟩
  rcases c with ⟨rfl,rfl,rfl⟩ | ⟨c,rfl,c2⟩
  ·cases e' with
   | d x=>exact r
   | own x=>exact r
   | loc j=>exact (he j rfl).elim
  ·cases e' with
   | d x=>exact r
   | own x=>exact r
   | loc t=>
    obtain ⟨r1,r2,r3⟩:=r
    have q0:ŵ[i]? =some (some (.loc t)):=by rw [List.getElem?_append_left c2] at q1; exact q1
    refine ⟨r1,r2, ?_⟩
    rw [List.getElem?_append_left (by omega)] at r3
    rw [List.getElem?_set_ne (hn i t q0).symm]
    exact r3
 ·obtain ⟨i,e1,e2,_⟩:=go q1
  exact h.own i y b e1 ((e2 _).mp q2)
 ·obtain ⟨i',e1,e2,c1⟩:=go q1
  obtain ⟨j',e3,e4,c2⟩:=go q2
  have:=h.sep i' j' y z b e1 e3 ((e2 _).mp q3) ((e4 _).mp q4)
  omega
theorem fg (ha:p.O a):p.le {p with H:=upd p.H a o}:=⟨fun _ _=>rfl,Nat.le_refl _,fun b u h e=>⟨.inl (by
  have c:b≠a:=fun z=>h (by rw [z]; exact ha)
  show upd _ _ _ _=_
  rw [upd_ne c]; exact e),h⟩⟩
theorem Sm.write (h:Sm G E m p w ŵ S) (q:ŵ[k]? =some (some (.own x))) (qa:w[k]? =some (some (.ref a))) (hy:Ho G {p with H:=upd p.H a o} y a):Sm G E m {p with H:=upd p.H a o} w (ŵ.set k (some (.own y))) S:=by
 obtain ⟨o1,o2,o3,o4⟩:=h.own k x a q qa
 have l:=fg (p:=p) (o:=o) o1
 have hk:=ag q
 have go:∀{j:Nat} {e' :Vl},(ŵ.set k (some (.own y)))[j]? =some (some e')→(k=j∧e' = .own y)∨(k≠j∧ŵ[j]? =some (some e')):=fun {j e'} q=>by
  rcases bT q with ⟨rfl,qq⟩ | q
  ·exact .inl ⟨rfl,(Option.some.inj qq).symm⟩
  ·exact .inr q
 have ow:∀{j:Nat} {z:D},(ŵ.set k (some (.own y)))[j]? =some (some (.own z))→∃z',ŵ[j]? =some (some (.own z')):=fun {j z} e=>by
  rcases go e with ⟨rfl,_⟩ | ⟨_,e⟩
  ·exact ⟨x,q⟩
  ·exact ⟨z,e⟩
 have ne:∀{b:Addr},b≠a→upd p.H a o b=p.H b:=fun c=>upd_ne c
 refine {h with len:=by simp [h.len],cel:=fun i d e=>⟨(h.cel i d e).1,(h.cel i d e).2.mono l (ne (o4 i d e))⟩,tb:=fun t ht=>(h.tb t ht).of fun b u n e _=>⟨n,(ne fun z=>n (by rw [z]; exact o1)).trans e⟩,kp:=fun b u e n=>?_,sub:=fun b u e=>?_,dom:=fun b e=>?_,ent:=fun j e e1=>?_,own:=fun j z b e1 e2=>?_,sep:=fun i j z z' b e1 e2 e3 e4=>?_}
 ·show (_→upd _ _ _ _=_)∧Kept u (upd _ _ _ _)
  rw [ne (fun z=>by rw [z,o2] at e; cases e)]
  exact h.kp b u e n
 ·by_cases c:b=a
  ·subst c; exact ⟨o,upd_same⟩
  ·obtain ⟨u',e'⟩:=h.sub b u e
   exact ⟨u',by show upd _ _ _ _=_; rw [ne c]; exact e'⟩
 ·by_cases c:b=a
  ·subst c; exact ⟨o,upd_same⟩
  ·obtain ⟨u',e'⟩:=h.dom b e
   exact ⟨u',by show upd _ _ _ _=_; rw [ne c]; exact e'⟩
 ·rcases go e1 with ⟨rfl,rfl⟩ | ⟨c,e1⟩
  ·exact ⟨_,qa,a,rfl,hy⟩
  ·obtain ⟨u,e2,r⟩:=h.ent j e e1
   refine ⟨u,e2, ?_⟩
   cases e with
   | d z=>exact Rep.mono l r
   | own z=>
    obtain ⟨b,rfl,r⟩:=r
    exact ⟨b,rfl,r.mono l (ne fun hb=>c (h.sep k j x z a q e1 qa (by rw [←hb]; exact e2)))⟩
   | loc t=>exact r
 ·obtain ⟨z',e1⟩:=ow e1
  exact h.own j z' b e1 e2
 ·obtain ⟨z1,e1⟩:=ow e1
  obtain ⟨z2,e2⟩:=ow e2
  exact h.sep i j z1 z2 b e1 e2 e3 e4
def Sto.put (S:Sto) (i:Nat) (x:D):Sto:= {S with get:=fun j=>if j=i then some x else S.get j}
def Sto.del (S:Sto) (i:Nat):Sto:= {S with get:=fun j=>if j=i then none else S.get j}
def Sto.new (S:Sto) (x:D):Sto:= {S with nx:=S.nx+1,get:=fun j=>if j=S.nx then some x else S.get j}
theorem Sto.put_same {S:Sto} {i:Nat} {x:D}:(S.put i x).get i=some x:=if_pos rfl
theorem Sto.put_ne {S:Sto} {i j:Nat} {x:D} (h:j≠i):(S.put i x).get j=S.get j:=if_neg h
theorem Sto.put_dom {S:Sto} {i j:Nat} {x y z:D} (h:(S.put i x).get j=some y) (q:S.get i=some z):∃y',S.get j=some y' :=by
 by_cases c:j=i
 ·subst c; exact ⟨z,q⟩
 ·rw [Sto.put_ne c] at h; exact ⟨y,h⟩
theorem Sm.writeCell {i:Nat} (h:Sm G E m p w ŵ S) (q:S.get i=some x) (hy:Ho G {p with H:=upd p.H (p.γ i) o} y (p.γ i)):Sm G E m {p with H:=upd p.H (p.γ i) o} w ŵ (S.put i y):=by
 obtain ⟨o1,o2⟩:=h.cel i x q
 have l:=fg (p:=p) (o:=o) o1
 have ne:∀{b:Addr},b≠p.γ i→upd p.H (p.γ i) o b=p.H b:=fun c=>upd_ne c
 refine {h with bd:=fun j d e=>?_,cel:=fun j d e=>?_,inj:=fun j t d d' e1 e2 e3=>?_,born:=fun j d e=>?_,frm:=fun b e=>⟨(h.frm b e).1,fun j d e' =>?_⟩,tb:=fun t ht=>(h.tb t ht).of fun b u n e _=>⟨n,(ne fun z=>n (by rw [z]; exact o1)).trans e⟩,kp:=fun b u e n=>?_,sub:=fun b u e=>?_,dom:=fun b e=>?_,ent:=fun j e e1=>?_,own:=fun j z b e1 e2=>?_}
 ·obtain ⟨d',e⟩:=Sto.put_dom e q
  exact h.bd j d' e
 ·by_cases c:j=i
  ·subst c
   rw [Sto.put_same] at e; cases e
   exact ⟨o1,hy⟩
  ·rw [Sto.put_ne c] at e
   exact ⟨(h.cel j d e).1,(h.cel j d e).2.mono l (ne fun z=>c (h.inj j i d x e q z))⟩
 ·obtain ⟨d1,e1⟩:=Sto.put_dom e1 q
  obtain ⟨d2,e2⟩:=Sto.put_dom e2 q
  exact h.inj j t d1 d2 e1 e2 e3
 ·obtain ⟨d1,e⟩:=Sto.put_dom e q
  exact h.born j d1 e
 ·obtain ⟨d1,e'⟩:=Sto.put_dom e' q
  exact (h.frm b e).2 j d1 e'
 ·show (_→upd _ _ _ _=_)∧Kept u (upd _ _ _ _)
  rw [ne fun z=>?_]
  ·exact h.kp b u e n
  ·rcases h.born i x q with ⟨d0,b0⟩ | b0
   ·exact n i d0 b0 (by rw [z]; exact h.old i (h.ebd i d0 b0))
   ·rw [z,b0] at e; cases e
 ·by_cases c:b=p.γ i
  ·subst c; exact ⟨o,upd_same⟩
  ·obtain ⟨u',e'⟩:=h.sub b u e
   exact ⟨u',by show upd _ _ _ _=_; rw [ne c]; exact e'⟩
 ·by_cases c:b=p.γ i
  ·subst c; exact ⟨o,upd_same⟩
  ·obtain ⟨u',e'⟩:=h.dom b e
   exact ⟨u',by show upd _ _ _ _=_; rw [ne c]; exact e'⟩
 ·obtain ⟨u,e2,r⟩:=h.ent j e e1
  refine ⟨u,e2, ?_⟩
  cases e with
  | d z=>exact Rep.mono l r
  | own z=>
   obtain ⟨b,rfl,r⟩:=r
   exact ⟨b,rfl,r.mono l (ne fun hb=>(h.own j z b e1 e2).2.2.2 i x q hb.symm)⟩
  | loc t=>exact r
 ·have:=h.own j z b e1 e2
  refine ⟨this.1,this.2.1,this.2.2.1,fun t d e=>?_⟩
  obtain ⟨d1,e⟩:=Sto.put_dom e q
  exact this.2.2.2 t d1 e
theorem Sm.celled (h:Sm G E m p w ŵ S) (q:ŵ[k]? =some (some (.own x))) (qa:w[k]? =some (some (.ref a))):
  Sm G E m {p with γ:=fun i=>if i=S.nx then a else p.γ i,n:=S.nx+1} w (ŵ.set k (some (.d (.cell S.nx)))) (S.new x):=by
 obtain ⟨o1,o2,o3,o4⟩:=h.own k x a q qa
 have l:p.le {p with γ:=fun i=>if i=S.nx then a else p.γ i,n:=S.nx+1}:=⟨fun i hi=>if_neg (by rw [h.pn] at hi; omega),by rw [h.pn]; exact Nat.le_succ _,fun b u n e=>⟨.inl e,n⟩⟩
 have gs:(fun i=>if i=S.nx then a else p.γ i) S.nx=a:=if_pos rfl
 have gn:∀{i d},S.get i=some d→(if i=S.nx then a else p.γ i)=p.γ i:=fun {i d} e=>if_neg (Nat.ne_of_lt (h.bd i d e))
 have dm:∀{i d},(S.new x).get i=some d→(i=S.nx∧d=x)∨(i≠S.nx∧S.get i=some d):=fun {i d} e=>by
  by_cases c:i=S.nx
  ·subst c
   have e:(if S.nx=S.nx then some x else S.get S.nx)=some d:=e
   rw [if_pos rfl] at e; cases e; exact .inl ⟨rfl,rfl⟩
  ·have e:(if i=S.nx then some x else S.get i)=some d:=e
   rw [if_neg c] at e; exact .inr ⟨c,e⟩
 obtain ⟨u,e2,a',e3,r0⟩:=h.ent k _ q
 rw [qa] at e2
 cases e2
 cases e3
 have nk:∀{j y},(ŵ.set k (some (.d (.cell S.nx))))[j]? =some (some (Vl.own y))→k≠j∧ŵ[j]? =some (some (.own y)):=fun {j y} e=>by
  rcases bT e with ⟨rfl,ee⟩ | e
  ·cases ee
  ·exact e
 refine {h with len:=by simp [h.len],pn:=rfl,nx:=Nat.le_succ_of_le h.nx,old:=fun i hi=>?_,bd:=fun i d e=>?_,cel:=fun i d e=>?_,inj:=fun i j d d' e1 e2 e3=>?_,born:=fun i d e=>?_,frm:=fun b e=>⟨(h.frm b e).1,fun i d e' =>?_⟩,ent:=fun j e e1=>?_,own:=fun j z b e1 e2=>?_,sep:=fun i j y z b e1 e2 e3 e4=>h.sep i j y z b (nk e1).2 (nk e2).2 e3 e4,tb:=fun t ht=>(h.tb t ht).of fun b u n e _=>⟨n,e⟩}
 ·show (if i=S.nx then a else p.γ i)=_
  rw [if_neg (by have:=h.nx; omega)]
  exact h.old i hi
 ·rcases dm e with ⟨rfl,_⟩ | ⟨_,e⟩
  ·exact Nat.lt_succ_self _
  ·exact Nat.lt_succ_of_lt (h.bd i d e)
 ·rcases dm e with ⟨rfl,rfl⟩ | ⟨_,e⟩
  ·show p.O (if S.nx=S.nx then a else _)∧Ho _ _ _ (if S.nx=S.nx then a else _)
   rw [if_pos rfl]
   exact ⟨o1,r0.mono l rfl⟩
  ·show p.O (if i=S.nx then a else _)∧Ho _ _ _ (if i=S.nx then a else _)
   rw [gn e]
   exact ⟨(h.cel i d e).1,(h.cel i d e).2.mono l rfl⟩
 ·have e3:(if i=S.nx then a else p.γ i)=(if j=S.nx then a else p.γ j):=e3
  rcases dm e1 with ⟨i1,d1⟩ | ⟨c1,e1⟩
  ·subst i1
   rcases dm e2 with ⟨i2,d2⟩ | ⟨c2,e2⟩
   ·exact i2.symm
   ·rw [if_pos rfl,gn e2] at e3
    exact (o4 _ _ e2 e3.symm).elim
  ·rcases dm e2 with ⟨i2,d2⟩ | ⟨c2,e2⟩
   ·subst i2
    rw [if_pos rfl,gn e1] at e3
    exact (o4 i d e1 e3).elim
   ·rw [gn e1,gn e2] at e3
    exact h.inj i j d d' e1 e2 e3
 ·rcases dm e with ⟨rfl,rfl⟩ | ⟨_,e⟩
  ·right
   show E.W.H (if S.nx=S.nx then a else _)=none
   rw [if_pos rfl]; exact o2
  ·show _∨E.W.H (if i=S.nx then a else _)=none
   rw [gn e]; exact h.born i d e
 ·rcases dm e' with ⟨rfl,rfl⟩ | ⟨_,e'⟩
  ·show (if S.nx=S.nx then a else _)≠b
   rw [if_pos rfl]; exact fun z=>o3 (z ▸ e)
  ·show (if i=S.nx then a else _)≠b
   rw [gn e']; exact (h.frm b e).2 i d e'
 ·rcases bT e1 with ⟨rfl,ee⟩ | ⟨c,e1⟩
  ·cases ee
   refine ⟨_,qa,Nat.lt_succ_self _, ?_⟩
   show V.ref a=V.ref (if S.nx=S.nx then a else _)
   rw [if_pos rfl]
  ·obtain ⟨u,e2,r⟩:=h.ent j e e1
   exact ⟨u,e2,r.mono l (fun _ _ _ _ _=>rfl) fun _ _ _ e=>e⟩
 ·obtain ⟨c,e1⟩:=nk e1
  have:=h.own j z b e1 e2
  refine ⟨this.1,this.2.1,this.2.2.1,fun i d e=>?_⟩
  rcases dm e with ⟨rfl,rfl⟩ | ⟨_,e⟩
  ·show (if S.nx=S.nx then a else _)≠b
   rw [if_pos rfl]
   exact fun hb=>c (h.sep k j _ z a q e1 qa (by rw [hb]; exact e2))
  ·show (if i=S.nx then a else _)≠b
   rw [gn e]; exact this.2.2.2 i d e
theorem Sm.freeze {i:Nat} (h:Sm G E m p w ŵ S) (hc:S.get i=some x) (q:ŵ[k]? =some (some (.d (.cell i)))):Sm G E m {p with O:=fun b=>p.O b∧b≠p.γ i} w (ŵ.set k (some (.d x))) (S.del i):=by
 have l:=kn (p:=p) (a:=p.γ i)
 have dm:∀{j d},(S.del i).get j=some d→j≠i∧S.get j=some d:=fun {j d} e=>by
  by_cases c:j=i
  ·subst c
   have e:(if j=j then none else S.get j)=some d:=e
   rw [if_pos rfl] at e; cases e
  ·have e:(if j=i then none else S.get j)=some d:=e
   rw [if_neg c] at e; exact ⟨c,e⟩
 have nk:∀{j y},(ŵ.set k (some (.d x)))[j]? =some (some (Vl.own y))→k≠j∧ŵ[j]? =some (some (.own y)):=fun {j y} e=>by
  rcases bT e with ⟨rfl,ee⟩ | e
  ·cases ee
  ·exact e
 refine {h with len:=by simp [h.len],bd:=fun j d e=>h.bd j d (dm e).2,cel:=fun j d e=>?_,inj:=fun j t d d' e1 e2 e3=>h.inj j t d d' (dm e1).2 (dm e2).2 e3,born:=fun j d e=>h.born j d (dm e).2,frm:=fun b e=>⟨⟨(h.frm b e).1,fun z=>(h.frm b e).2 i x hc z.symm⟩,fun j d e' =>(h.frm b e).2 j d (dm e').2⟩,tb:=fun t ht=>(h.tb t ht).of fun b u n e _=>⟨fun z=>n z.1,e⟩,grw:=fun b u e n z=>h.grw b u e n z.1,dom:=fun b z=>h.dom b z.1,ent:=fun j e e1=>?_,own:=fun j y b e1 e2=>?_,sep:=fun i j y z b e1 e2 e3 e4=>h.sep i j y z b (nk e1).2 (nk e2).2 e3 e4}
 ·obtain ⟨c,e⟩:=dm e
  exact ⟨⟨(h.cel j d e).1,fun z=>c (h.inj j i d x e hc z)⟩,(h.cel j d e).2.mono l rfl⟩
 ·rcases bT e1 with ⟨rfl,ee⟩ | ⟨c,e1⟩
  ·cases ee
   obtain ⟨u,e2,r1,rfl⟩:=h.ent k _ q
   exact ⟨_,e2,Ho.rep (show¬(p.O (p.γ i)∧p.γ i≠p.γ i) from fun z=>z.2 rfl) ((h.cel i x hc).2.mono l rfl)⟩
  ·obtain ⟨u,e2,r⟩:=h.ent j e e1
   exact ⟨u,e2,r.mono l (fun _ _ _ _ _=>rfl) fun _ _ _ e=>e⟩
 ·obtain ⟨c,e1⟩:=nk e1
  have:=h.own j y b e1 e2
  exact ⟨⟨this.1,fun z=>this.2.2.2 i x hc z.symm⟩,this.2.1,this.2.2.1,fun t d e=>this.2.2.2 t d (dm e).2⟩
end
section
variable {G:Gc} {E:En} {m m' :Nat} {p p' :Wr} {w w' :List (Option V)} {ŵ ŵ' :List (Option Vl)} {S S' :Sto} {x y:D} {v:V} {a:Addr} {o:HO} {k:Nat} {e:Vl}
def En.of (E:En) (p:Wr) (S:Sto) (w:List (Option V)) (ŵ:List (Option Vl)):En where
 F:=fun a=>E.F a∨∃(k:Nat) (x:D),ŵ[k]? =some (some (.own x))∧w[k]? =some (some (.ref a))
 W:=p
 S:=S
def starts (n:Nat) (ds:List D):List (Option Vl):=ds.map (fun d=>some (.d d))++List.replicate (n - ds.length) none
theorem Sm.enter {N:List Str} {ds:List D} {vs:List V} (h:Sm G E m p w ŵ S) (r:Reps G p ds vs):Sm G (E.of p S w ŵ) m' p (L2.start N vs) (starts N.length ds) S:=by
 have hd:∀{k:Nat} {e:Vl},(starts N.length ds)[k]? =some (some e)→∃d,ds[k]? =some d∧e= .d d:=fun {k e} q=>by
  unfold starts at q
  by_cases c:k<ds.length
  ·rw [List.getElem?_append_left (by simpa using c),List.getElem?_map] at q
   obtain ⟨d,h1,h2⟩:=Option.map_eq_some_iff.mp q
   exact ⟨d,h1,(Option.some.inj h2).symm⟩
  ·rw [List.getElem?_append_right (by simpa using c)] at q
   have:=List.mem_of_getElem? q
   rw [List.mem_replicate] at this
   cases this.2
 refine {len:=?_,pn:=h.pn,nx:=Nat.le_refl _,ebd:=h.bd,old:=fun _ _=>rfl,bd:=h.bd,cel:=h.cel,inj:=h.inj,born:=fun i d e=> .inl ⟨d,e⟩,frm:=fun b q=>?_,kp:=fun _ _ e _=>⟨fun _=>e, .inl e⟩,sub:=fun _ o e=>⟨o,e⟩,grw:=fun _ _ _ n=>n,dom:=h.dom,ent:=fun k e q=>?_,own:=fun k x a q=>?_,sep:=fun j k x y a q=>?_,tb:=h.tb}
 ·unfold L2.start starts
  simp [r.len]
 ·rcases q with q | ⟨k,x,q1,q2⟩
  ·exact h.frm b q
  ·exact ⟨(h.own k x b q1 q2).1,(h.own k x b q1 q2).2.2.2⟩
 ·obtain ⟨d,e1,rfl⟩:=hd q
  obtain ⟨v,e2,r2⟩:=r.get e1
  refine ⟨v, ?_,r2⟩
  unfold L2.start
  rw [List.getElem?_append_left (by simpa using ag e2),List.getElem?_map,e2]
  rfl
 ·obtain ⟨d,_,q⟩:=hd q; cases q
 ·obtain ⟨d,_,q⟩:=hd q; cases q
theorem Sm.after_le (h:Sm G E m p w ŵ S) (h' :Sm G (E.of p S w ŵ) m' p' w' ŵ' S'):p.le p' :=by
 refine ⟨fun i hi=>h'.old i (by rw [h.pn] at hi; exact hi),by rw [h.pn,h'.pn]; exact h'.nx,fun b o n e=>⟨(h'.kp b o e fun i d q z=>n ?_).2,h'.grw b o e n⟩⟩
 rw [z]
 exact (h.cel i d q).1
theorem Sm.after (h:Sm G E m p w ŵ S) (h' :Sm G (E.of p S w ŵ) m' p' w' ŵ' S'):Sm G E m p' w ŵ S' :=by
 have l:=h.after_le h'
 have own' :∀(k:Nat) (x:D) (a:Addr),ŵ[k]? =some (some (.own x))→w[k]? =some (some (.ref a))→p'.H a=p.H a:=fun k x a q1 q2=>by
  obtain ⟨o1,o2,o3,o4⟩:=h.own k x a q1 q2
  obtain ⟨o,e⟩:=h.dom a o1
  rw [e]
  exact (h'.kp a o e fun i d q z=>o4 i d q z.symm).1 (.inr ⟨k,x,q1,q2⟩)
 refine {len:=h.len,pn:=h'.pn,nx:=Nat.le_trans h.nx h'.nx,ebd:=h.ebd,old:=fun i hi=>?_,bd:=h'.bd,cel:=h'.cel,inj:=h'.inj,born:=fun i d e=>?_,frm:=fun b q=>h'.frm b (.inl q),kp:=fun b o e n=>?_,sub:=fun b o e=>?_,grw:=fun b o e n=>?_,dom:=h'.dom,ent:=fun k e q=>?_,own:=fun k x b q1 q2=>?_,sep:=h.sep,tb:=h'.tb}
 ·rw [h'.old i (Nat.lt_of_lt_of_le hi h.nx)]
  exact h.old i hi
 ·rcases h'.born i d e with ⟨d0,b0⟩ | b0
  ·rcases h.born i d0 b0 with b1 | b1
   ·exact .inl b1
   ·right
    rw [h'.old i (h.bd i d0 b0)]
    exact b1
  ·right
   cases q:E.W.H (p'.γ i) with
   | none=>rfl
   | some o=>
    obtain ⟨o',e'⟩:=h.sub _ o q
    have b0:p.H (p'.γ i)=none:=b0
    rw [b0] at e'; cases e'
 ·have nc:∀(i:Nat) (d:D),S.get i=some d→b≠p.γ i:=fun i d q z=>by
   rcases h.born i d q with ⟨d0,b0⟩ | b0
   ·exact n i d0 b0 (by rw [z]; exact h.old i (h.ebd i d0 b0))
   ·rw [←z,e] at b0; cases b0
  obtain ⟨k1,k2⟩:=h.kp b o e n
  refine ⟨fun f=>(h'.kp b o (k1 f) nc).1 (.inl f), ?_⟩
  have:∃x,p.H b=some x:=by rcases k2 with k | ⟨_,_,_,k⟩ | ⟨_,_,_,k⟩<;> exact ⟨_,k⟩
  obtain ⟨x,ex⟩:=this
  rw [ex] at k2
  exact k2.trans (h'.kp b x ex nc).2
 ·obtain ⟨o',e'⟩:=h.sub b o e
  exact h'.sub b o' e'
 ·obtain ⟨o',e'⟩:=h.sub b o e
  exact h'.grw b o' e' (h.grw b o e n)
 ·obtain ⟨u,e2,r⟩:=h.ent k e q
  refine ⟨u,e2, ?_⟩
  cases e with
  | d z=>exact Rep.mono l r
  | own z=>
   obtain ⟨b,rfl,r⟩:=r
   exact ⟨b,rfl,r.mono l (own' k z b q e2)⟩
  | loc t=>exact r
 ·have o:=h.own k x b q1 q2
  have f:=h'.frm b (.inr ⟨k,x,q1,q2⟩)
  exact ⟨f.1,o.2.1,o.2.2.1,f.2⟩
theorem Sm.pushOwn (h:Sm G E m p w ŵ S) (r:Ho G p x a) (o1:p.O a) (o2:E.W.H a=none) (o3:¬E.F a) (o4:∀i d,S.get i=some d→p.γ i≠a) (o5:∀(k:Nat) (y:D),ŵ[k]? =some (some (.own y))→w[k]? ≠some (some (.ref a))):
  Sm G E m p (w++ [some (.ref a)]) (ŵ++ [some (.own x)]) S:=by
 refine {h with len:=by simp [h.len],ent:=fun k e q=>?_,own:=fun k y b q1 q2=>?_,sep:=fun j k y z b q1 q2 q3 q4=>?_}
 ·rcases ar q with q | ⟨rfl,qq⟩
  ·obtain ⟨u,e1,r1⟩:=h.ent k e q
   exact ⟨u,aF e1,r1.mono (.refl _) (fun _ _ _ _ _=>rfl) fun j v _ e=>aF e⟩
  ·obtain rfl:=Option.some.inj qq
   exact ⟨.ref a,by rw [←h.len]; exact af,a,rfl,r⟩
 ·rcases ar q1 with q | ⟨rfl,qq⟩
  ·rw [List.getElem?_append_left (by rw [h.len]; exact ag q)] at q2
   exact h.own k y b q q2
  ·rw [←h.len,af] at q2
   cases q2
   exact ⟨o1,o2,o3,o4⟩
 ·rcases ar q1 with q1 | ⟨rfl,qq⟩
  ·rw [List.getElem?_append_left (by rw [h.len]; exact ag q1)] at q3
   rcases ar q2 with q2 | ⟨rfl,qq⟩
   ·rw [List.getElem?_append_left (by rw [h.len]; exact ag q2)] at q4
    exact h.sep j k y z b q1 q2 q3 q4
   ·rw [←h.len,af] at q4
    cases q4
    exact (o5 j y q1 q3).elim
  ·rw [←h.len,af] at q3
   cases q3
   rcases ar q2 with q2 | ⟨rfl,qq⟩
   ·rw [List.getElem?_append_left (by rw [h.len]; exact ag q2)] at q4
    exact (o5 k z q2 q4).elim
   ·rfl
theorem Sm.lock {d:Addr} {kvs:List (Key×V)} {od:Obj} (h:Sm G E m p w ŵ S) (hd:p.H d=some (.dK kvs)) (hn:¬p.O d):Sm G E m {p with H:=upd p.H d (.frz od (.dK kvs))} w ŵ S:=by
 have l:p.le {p with H:=upd p.H d (.frz od (.dK kvs))}:=⟨fun _ _=>rfl,Nat.le_refl _,fun b o n e=>⟨by
  by_cases c:b=d
  ·subst c
   rw [hd] at e; cases e
   exact .inr (.inl ⟨kvs,od,rfl,upd_same⟩)
  ·exact .inl (by show upd _ _ _ _=_; rw [upd_ne c]; exact e),n⟩⟩
 have nO:∀{b:Addr},p.O b→upd p.H d (.frz od (.dK kvs)) b=p.H b:=fun {b} q=>upd_ne fun c=>hn (c ▸ q)
 refine {h with cel:=fun i d e=>⟨(h.cel i d e).1,(h.cel i d e).2.mono l (nO (h.cel i d e).1)⟩,tb:=fun t ht=>(h.tb t ht).of fun b o n e nd=>⟨n,(upd_ne fun c=>nd kvs (by rw [c,hd] at e; exact (Option.some.inj e).symm)).trans e⟩,kp:=fun b o e n=>?_,sub:=fun b o e=>?_,dom:=fun b q=>?_,ent:=fun k e q=>?_}
 ·obtain ⟨k1,k2⟩:=h.kp b o e n
  by_cases c:b=d
  ·subst c
   refine ⟨fun f=>(hn (h.frm b f).1).elim, ?_⟩
   rw [hd] at k2
   exact k2.trans (.inr (.inl ⟨kvs,od,rfl,upd_same⟩))
  ·show (_→upd _ _ _ _=_)∧Kept o (upd _ _ _ _)
   rw [upd_ne c]
   exact ⟨k1,k2⟩
 ·by_cases c:b=d
  ·subst c; exact ⟨_,upd_same⟩
  ·obtain ⟨o',e'⟩:=h.sub b o e
   exact ⟨o',by show upd _ _ _ _=_; rw [upd_ne c]; exact e'⟩
 ·obtain ⟨o',e'⟩:=h.dom b q
  exact ⟨o',by show upd _ _ _ _=_; rw [nO q]; exact e'⟩
 ·obtain ⟨u,e1,r⟩:=h.ent k e q
  refine ⟨u,e1, ?_⟩
  cases e with
  | d z=>exact Rep.mono l r
  | own z=>
   obtain ⟨b,rfl,r⟩:=r
   exact ⟨b,rfl,r.mono l (nO (h.own k z b q e1).1)⟩
  | loc t=>exact r
theorem Sm.leave (h:Sm G E m p w ŵ S) (h' :Sm G (E.of p S w ŵ) m' p' w' ŵ' S') (hk:ŵ'[k]? =some (some e)) (hv:w'[k]? =some (some v)) (he:∀j,e≠ .loc j):Sm G E m p' (w++ [some v]) (ŵ++ [some e]) S' :=by
 have h1:=h.after h'
 obtain ⟨u,e2,r⟩:=h'.ent k e hk
 rw [hv] at e2; cases e2
 cases e with
 | d x=>exact h1.push r
 | own x=>
  obtain ⟨a,rfl,r⟩:=r
  obtain ⟨o1,o2,o3,o4⟩:=h'.own k x a hk hv
  refine h1.pushOwn r o1 ?_ (fun z=>o3 (.inl z)) o4 fun j y q1 q2=>o3 (.inr ⟨j,y,q1,q2⟩)
  cases q:E.W.H a with
  | none=>rfl
  | some o=>
   obtain ⟨o',e'⟩:=h.sub _ o q
   have o2:p.H a=none:=o2
   rw [o2] at e'; cases e'
 | loc j=>exact (he j rfl).elim
end
def Rel (G:Gc) (E:En) (σ:L2.St) (τ:List V) (H:Hp) (s:SD) (θ:List Vl):Prop:=∃p:Wr,p.H=H∧σ.length=s.sl.length∧Sm G E s.sl.length p (σ++τ.map some) (s.sl++θ.map some) s.st
def ExV (G:Gc) (p:Wr) (c:Str) (fs:List (Str×D)) (cls:Value) (d:Option Addr):Prop:=
 ∃C,G.mg c=some (.ref C)∧cls= .ref C∧((fs= []∧d=none)∨∃da fvs,d=some da∧p.H da=some (.xd fvs)∧¬p.O da∧RepF G p fs fvs)
def RelX (G:Gc) (E:En) (σ:L2.St) (τ:List V) (H:Hp) (s:SD) (θ:List Vl) (c:Str) (fs:List (Str×D)) (cls:Value) (d:Option Addr):Prop:=
 ∃p:Wr,p.H=H∧σ.length=s.sl.length∧Sm G E s.sl.length p (σ++τ.map some) (s.sl++θ.map some) s.st∧ExV G p c fs cls d
def XP (G:Gc) (W:WX) (E:En) (τ:List V) (θ:List Vl):XQ:=fun c fs s' =>∀cls d σ' H',RelX G E σ' τ H' s' θ c fs cls d→W cls d σ' H'
def Nl (θ:List Vl):Prop:=∀e∈θ,∀j,e≠ .loc j
theorem Nl.snoc {θ:List Vl} {a:Vl} (h:Nl θ) (ha:∀j,a≠ .loc j):Nl (θ++ [a]):=fun e he=>by
 rcases List.mem_append.mp he with he | he
 ·exact h e he
 ·rw [List.mem_singleton.mp he]; exact ha
theorem Nl.d {θ:List Vl} {x:D} (h:Nl θ):Nl (θ++ [.d x]):=h.snoc fun _ q=>nomatch q
def RE (G:Gc) (W:WX) (t:TE) (fe:SD→R Vl):Prop:=∀(E:En) (σ:L2.St) (τ:List V) (H:Hp) (s:SD) (θ:List Vl) (Q:VK),Nl θ→Rel G E σ τ H s θ→
 Wp (fe s) (fun a s' =>∀v H',Rel G E σ (τ++ [v]) H' s' (θ++ [a])→Q v H') (XP G W E τ θ)→t σ H Q
def RT (G:Gc) (W:WX) (t:TT) (fe:SD→R Bool):Prop:=∀(E:En) (σ:L2.St) (τ:List V) (H:Hp) (s:SD) (θ:List Vl) (Q:Bool→Hp→Prop),Nl θ→Rel G E σ τ H s θ→
 Wp (fe s) (fun b s' =>∀H',Rel G E σ τ H' s' θ→Q b H') (XP G W E τ θ)→t σ H Q
def RA (G:Gc) (W:WX) (t:TA) (fe:SD→R (List D)):Prop:=∀(E:En) (σ:L2.St) (τ:List V) (H:Hp) (s:SD) (θ:List Vl) (Q:List V→Hp→Prop),Nl θ→Rel G E σ τ H s θ→
 Wp (fe s) (fun ds s' =>∀vs H',Rel G E σ (τ++vs) H' s' (θ++ds.map .d)→Q vs H') (XP G W E τ θ)→t σ H Q
inductive Fl where
 | nx | bk | ct | rt (a:Vl)
def FP (G:Gc) (E:En) (τ:List V) (θ:List Vl) (D:Ends):Fl→SD→Prop
 | .nx,s' =>∀σ' H',Rel G E σ' τ H' s' θ→D.nx σ' H'
 | .bk,s' =>∀σ' H',Rel G E σ' τ H' s' θ→D.bk σ' H'
 | .ct,s' =>∀σ' H',Rel G E σ' τ H' s' θ→D.ct σ' H'
 | .rt a,s' =>(∀j,a≠ .loc j)∧∀σ' v H',Rel G E σ' (τ++ [v]) H' s' (θ++ [a])→D.rt v H'
def RS (G:Gc) (W:WX) (t:TS) (fz:SD→R Fl):Prop:=∀(E:En) (σ:L2.St) (τ:List V) (H:Hp) (s:SD) (θ:List Vl) (D:Ends),Nl θ→Rel G E σ τ H s θ→
 Wp (fz s) (FP G E τ θ D) (XP G W E τ θ)→t D σ H
section
variable {G:Gc} {W:WX} {E:En} {σ:L2.St} {τ:List V} {H:Hp} {s:SD} {θ:List Vl} {v:V} {a:Vl} {x:D} {p:Wr}
theorem Rel.snoc (h:Sm G E s.sl.length p ((σ++τ.map some)++ [some v]) ((s.sl++θ.map some)++ [some a]) s.st) (hl:σ.length=s.sl.length) (hH:p.H=H):Rel G E σ (τ++ [v]) H s (θ++ [a]):=by
 refine ⟨p,hH,hl, ?_⟩
 rw [List.map_append,List.map_append,←List.append_assoc,←List.append_assoc]
 exact h
theorem Rel.unsnoc (h:Rel G E σ (τ++ [v]) H s (θ++ [a])):∃p:Wr,p.H=H∧σ.length=s.sl.length∧Sm G E s.sl.length p ((σ++τ.map some)++ [some v]) ((s.sl++θ.map some)++ [some a]) s.st:=by
 obtain ⟨p,e,hl,h⟩:=h
 rw [List.map_append,List.map_append,←List.append_assoc,←List.append_assoc] at h
 exact ⟨p,e,hl,h⟩
theorem az {α β:Type} {l:List α} {l' :List β} {a:α} {b:β} (h:(l++ [a]).length=(l' ++ [b]).length):l.length=l'.length:=by simpa using h
theorem Sm.pop1 {m:Nat} {w:List (Option V)} {ŵ:List (Option Vl)} {S:Sto} {u:Option V} {e:Option Vl} (h:Sm G E m p (w++ [u]) (ŵ++ [e]) S) (hm:m≤w.length):Sm G E m p w ŵ S:=h.pop (az h.len) hm
theorem bb {l:List (Option V)} (hl:σ.length=s.sl.length):s.sl.length≤(σ++l).length:=by simp; omega
theorem Rel.pop (h:Rel G E σ (τ++ [v]) H s (θ++ [a])):Rel G E σ τ H s θ:=by
 obtain ⟨p,e,hl,h⟩:=h.unsnoc
 exact ⟨p,e,hl,h.pop1 (bb hl)⟩
theorem RelX.pop {c:Str} {fs:List (Str×D)} {cls:Value} {d:Option Addr} (h:RelX G E σ (τ++ [v]) H s (θ++ [a]) c fs cls d):RelX G E σ τ H s θ c fs cls d:=by
 obtain ⟨p,e,hl,h,x⟩:=h
 rw [List.map_append,List.map_append,←List.append_assoc,←List.append_assoc] at h
 exact ⟨p,e,hl,h.pop1 (bb hl),x⟩
theorem XP.up {c:Str} {fs:List (Str×D)} (h:XP G W E τ θ c fs s):XP G W E (τ++ [v]) (θ++ [a]) c fs s:=fun cls d σ' H' r=>h cls d σ' H' r.pop
theorem Rel.len (h:Rel G E σ τ H s θ):(σ++τ.map some).length=(s.sl++θ.map some).length:=let ⟨_,_,_,h⟩:=h; h.len
theorem Rel.tlen (h:Rel G E σ τ H s θ):τ.length=θ.length:=by
 obtain ⟨_,_,hl,h⟩:=h
 have:=h.len
 simp at this
 omega
theorem Rel.last (h:Rel G E σ (τ++ [v]) H s (θ++ [.d x])):∃p:Wr,p.H=H∧Rep G p x v:=by
 obtain ⟨p,e,hl,h⟩:=h.unsnoc
 have l:=az h.len
 obtain ⟨u,e1,r⟩:=h.ent _ _ (af (l:=s.sl++θ.map some))
 rw [←l,af] at e1
 cases e1
 exact ⟨p,e,r⟩
theorem Rel.push (h:Rel G E σ τ H s θ) (r:∀p:Wr,Rep G p x v):Rel G E σ (τ++ [v]) H s (θ++ [.d x]):=by
 obtain ⟨p,e,hl,h⟩:=h
 exact .snoc (h.push (r p)) hl e
end
end Z

namespace Z
open PySem PySem.Spec PyProof.Rows L2 M
open Classical
def SD.cont (s:SD):Vl→Option D
 | .d (.cell i)=>s.st.get i
 | .d x=>some x
 | .own x=>some x
 | .loc k=>match s.sl[k]? with
  | some (some (.own x))=>some x
  | some (some (.d (.cell i)))=>s.st.get i
  | some (some (.d x))=>some x
  | _=>none
def Cont (G:Gc) (p:Wr) (x:D) (v:V):Prop:=(x.box=true∧∃b,v= .ref b∧Hc G p x b)∨(x.box=false∧Rep G p x v)
section
variable {G:Gc} {W:WX} {E:En} {σ:L2.St} {τ:List V} {H:Hp} {s:SD} {θ:List Vl} {v u:V} {a b:Vl} {x y:D} {p:Wr} {Q:VK} {m:Nat} {w:List (Option V)} {S:Sto} {k:Nat}
theorem Ho.box {a:Addr}:∀{x:D},Ho G p x a→x.box=true
 | .lst _,_=>rfl
 | .dct _,_=>rfl
 | .obj _ _,_=>rfl
 | .non,h=>h.elim | .bl _,h=>h.elim | .int _,h=>h.elim | .str _,h=>h.elim | .con _,h=>h.elim | .tup _,h=>h.elim | .exc _ _,h=>h.elim | .cell _,h=>h.elim
theorem Ho.cont {a:Addr} (h:Ho G p x a):Cont G p x (.ref a):= .inl ⟨h.box,a,rfl,h.c⟩
theorem Rep.cont (h:Rep G p x v):Cont G p x v:=by
 cases e:x.box with
 | true=>exact .inl ⟨e,h.c e⟩
 | false=>exact .inr ⟨e,h⟩
theorem Sm.cont_d (h:Sm G E m p w ŵ S) (r:Rep G p y v) (c:(match y with | .cell i=>S.get i | y=>some y)=some x):Cont G p x v:=by
 cases y with
 | cell i=>
  obtain ⟨_,rfl⟩:=r
  exact (h.cel i x c).2.cont
 | _=>cases c; exact r.cont
theorem Sm.cont {l:List (Option Vl)} (h:Sm G E m p w (s.sl++l) s.st) (hm:m=s.sl.length) (q:(s.sl++l)[k]? =some (some a)) (qv:w[k]? =some (some v)) (c:s.cont a=some x):Cont G p x v:=by
 obtain ⟨u,e1,r⟩:=h.ent k a q
 rw [qv] at e1; cases e1
 cases a with
 | d y=>exact h.cont_d r (by cases y<;> exact c)
 | own y=>
  cases c
  obtain ⟨b,rfl,r⟩:=r
  exact r.cont
 | loc j=>
  obtain ⟨_,hj,r⟩:=r
  unfold SD.cont at c
  dsimp only at c
  have hs:∀{e:Option Vl},s.sl[j]? =some e→(s.sl++l)[j]? =some e:=fun q=>by rw [List.getElem?_append_left (ag q)]; exact q
  cases q1:s.sl[j]? with
  | none=>rw [q1] at c; cases c
  | some o=>
   cases o with
   | none=>rw [q1] at c; cases c
   | some z=>
    obtain ⟨u,e2,r2⟩:=h.ent j z (hs q1)
    rw [r] at e2; cases e2
    rw [q1] at c
    cases z with
    | d y=>exact h.cont_d r2 (by cases y<;> exact c)
    | own y=>
     cases c
     obtain ⟨b,rfl,r2⟩:=r2
     exact r2.cont
    | loc i=>cases c
theorem Cont.lst {ds:List D} (h:Cont G p (.lst ds) v):∃b vs,v= .ref b∧p.H b=some (.lst vs)∧Reps G p ds vs:=by
 rcases h with ⟨_,b,e,vs,h,r⟩ | ⟨q,_⟩
 ·exact ⟨b,vs,e,h,r⟩
 ·cases q
theorem Cont.con {ds:List D} (h:Cont G p (.con ds) v):∃b vs,v= .ref b∧SqL G.K p.H b vs∧Reps G p ds vs:=by
 rcases h with ⟨_,b,e,vs,h,r⟩ | ⟨q,_⟩
 ·exact ⟨b,vs,e,h,r⟩
 ·cases q
theorem Cont.tup {ds:List D} (h:Cont G p (.tup ds) v):∃b vs,v= .ref b∧p.H b=some (.tup vs)∧Reps G p ds vs:=by
 rcases h with ⟨_,b,e,vs,h,r⟩ | ⟨q,_⟩
 ·exact ⟨b,vs,e,h,r⟩
 ·cases q
theorem Cont.dct {ds:List (Key×D)} (h:Cont G p (.dct ds) v):∃b vs,v= .ref b∧Rd p.H b (.dK vs)∧RepK G p ds vs:=by
 rcases h with ⟨_,b,e,vs,h,r⟩ | ⟨q,_⟩
 ·exact ⟨b,vs,e,h,r⟩
 ·cases q
theorem Cont.obj {c:Str} {ds:List (Str×D)} (h:Cont G p (.obj c ds) v):∃b C dx vs,v= .ref b∧G.mg c=some (.ref C)∧p.H b=some (.ins C dx vs)∧RepF G p ds vs:=by
 rcases h with ⟨_,b,e,C,dx,vs,m,h,r⟩ | ⟨q,_⟩
 ·exact ⟨b,C,dx,vs,e,m,h,r⟩
 ·cases q
theorem Cont.sc (h:Cont G p x v) (hx:x.box=false):Rep G p x v:=by
 rcases h with ⟨q,_⟩ | ⟨_,h⟩
 ·rw [hx] at q; cases q
 ·exact h
theorem Cont.int {i:Int} (h:Cont G p (.int i) v):v= .int i:=h.sc rfl
theorem Cont.str {i:Str} (h:Cont G p (.str i) v):v= .str i:=h.sc rfl
theorem Cont.bl {i:Bool} (h:Cont G p (.bl i) v):v= .bl i:=h.sc rfl
def ik (G:Gc) (r:V→Hp→VK→Prop) (f:Vl→SD→R Vl):Prop:=∀(E:En) (σ:L2.St) (τ:List V) (s:SD) (θ:List Vl) (p:Wr) (v:V) (a:Vl) (Q:VK),σ.length=s.sl.length→
 Sm G E s.sl.length p ((σ++τ.map some)++ [some v]) ((s.sl++θ.map some)++ [some a]) s.st→Wp (f a s) (fun b s' =>∀u H',Rel G E σ (τ++ [u]) H' s' (θ++ [b])→Q u H') (fun _ _ _=>False)→r v p.H Q
def bN (G:Gc) (r:R2) (f:Vl→Vl→SD→R Vl):Prop:=∀(E:En) (σ:L2.St) (τ:List V) (s:SD) (θ:List Vl) (p:Wr) (v u:V) (a b:Vl) (Q:VK),σ.length=s.sl.length→
 Sm G E s.sl.length p (((σ++τ.map some)++ [some v])++ [some u]) (((s.sl++θ.map some)++ [some a])++ [some b]) s.st→Wp (f a b s) (fun b s' =>∀u H',Rel G E σ (τ++ [u]) H' s' (θ++ [b])→Q u H') (fun _ _ _=>False)→r v u p.H Q
def z1 (f:Vl→SD→R Vl) (fa:SD→R Vl):SD→R Vl:=fun s=>(fa s).bind f
def z2 (f:Vl→Vl→SD→R Vl) (fa fb:SD→R Vl):SD→R Vl:=fun s=>(fa s).bind fun a s1=>(fb s1).bind fun b s2=>f a b s2
theorem RE.op1 {r:V→Hp→VK→Prop} {f:Vl→SD→R Vl} {ta:TE} {fa:SD→R Vl} (hp:ik G r f) (nx:∀a s c fs s',f a s≠ .ex c fs s') (ha:RE G W ta fa):RE G W (fun σ H Q=>ta σ H fun x H1=>r x H1 Q) (z1 f fa):=by
 intro E σ τ H s θ Q hN hR hw
 unfold z1 at hw
 rw [ae] at hw
 refine ha E σ τ H s θ _ hN hR (hw.mono (fun a s1 hw v H1 h1=>?_) fun _ _ _ h=>h)
 obtain ⟨p,rfl,hl,h⟩:=h1.unsnoc
 refine hp E σ τ s1 θ p v a Q hl h ?_
 cases e:f a s1 with
 | ok b s2=>rw [e] at hw; exact hw
 | ex c fs s2=>exact (nx _ _ _ _ _ e).elim
 | bad=>rw [e] at hw; exact hw
theorem Sm.pushLoc' {j:Nat} (h:Sm G E m p w ŵ S) (hm:m≤w.length) (hj:j<m) (hv:w[j]? =some (some v)):Sm G E m p (w++ [some v]) (ŵ++ [some (.loc j)]) S:=by
 refine {h with len:=by simp [h.len],ent:=fun k e q=>?_,own:=fun k y a q1 q2=>?_,sep:=fun j k y z a q1 q2 q3 q4=>?_}
 ·rcases ar q with q | ⟨rfl,qq⟩
  ·obtain ⟨u,e1,r1⟩:=h.ent k e q
   exact ⟨u,aF e1,r1.mono (.refl p) (fun _ _ _ _ _=>rfl) fun j v _ e=>aF e⟩
  ·obtain rfl:=Option.some.inj qq
   exact ⟨v,by rw [←h.len]; exact af,by rw [←h.len]; exact hm,hj,aF hv⟩
 ·rcases ar q1 with q | ⟨rfl,qq⟩
  ·have:k<w.length:=by rw [h.len]; exact ag q
   rw [List.getElem?_append_left this] at q2
   exact h.own k y a q q2
  ·cases qq
 ·rcases ar q1 with q1 | ⟨rfl,qq⟩
  ·rcases ar q2 with q2 | ⟨rfl,qq⟩
   ·rw [List.getElem?_append_left (by rw [h.len]; exact ag q1)] at q3
    rw [List.getElem?_append_left (by rw [h.len]; exact ag q2)] at q4
    exact h.sep j k y z a q1 q2 q3 q4
   ·cases qq
  ·cases qq
theorem Rel.unloc {k:Nat} (h:Rel G E σ (τ++ [v]) H s (θ++ [.loc k])):k<s.sl.length∧σ[k]? =some (some v):=by
 obtain ⟨p,e,hl,h⟩:=h.unsnoc
 obtain ⟨u,e1,r1,r2,r3⟩:=h.ent _ _ (af (l:=s.sl++θ.map some))
 rw [←az h.len,af] at e1; cases e1
 refine ⟨r2, ?_⟩
 rw [List.append_assoc,List.getElem?_append_left (by omega)] at r3
 exact r3
theorem Rel.reloc {k:Nat} (h:Rel G E σ τ H s θ) (hk:σ[k]? =some (some v)):Rel G E σ (τ++ [v]) H s (θ++ [.loc k]):=by
 obtain ⟨p,e,hl,h⟩:=h
 have:=ag hk
 exact .snoc (h.pushLoc' (bb hl) (by omega) (by rw [List.getElem?_append_left this]; exact hk)) hl e
theorem Sm.pick (h:Sm G E m p w ŵ S) {w' :List (Option V)} {ŵ' :List (Option Vl)} (f:Nat→Nat) (hl:w'.length=ŵ'.length) (hf:∀(k:Nat) (e:Vl),ŵ'[k]? =some (some e)→ŵ[f k]? =some (some e)∧w'[k]? =w[f k]? ∧(m≤f k→m≤k)) (hi:∀(j k:Nat) (y z:D),ŵ'[j]? =some (some (.own y))→ŵ'[k]? =some (some (.own z))→f j=f k→j=k)
  (hm:∀(k:Nat),k<m→w'[k]? =w[k]?):Sm G E m p w' ŵ' S:=by
 refine {h with len:=hl,ent:=fun k e q=>?_,own:=fun k y a q1 q2=>?_,sep:=fun j k y z a q1 q2 q3 q4=>?_}
 ·obtain ⟨q1,q2,q3⟩:=hf k e q
  obtain ⟨v,e1,r⟩:=h.ent _ _ q1
  refine ⟨v,q2.trans e1, ?_⟩
  cases e with
  | d x=>exact r
  | own x=>exact r
  | loc j=>exact ⟨q3 r.1,r.2.1,(hm j r.2.1).trans r.2.2⟩
 ·obtain ⟨q3,q4,_⟩:=hf k _ q1
  exact h.own _ y a q3 (q4.symm.trans q2)
 ·obtain ⟨r1,r2,_⟩:=hf j _ q1
  obtain ⟨r3,r4,_⟩:=hf k _ q2
  exact hi j k y z q1 q2 (h.sep _ _ y z a r1 r3 (r2.symm.trans q3) (r4.symm.trans q4))
theorem Rel.swap (h:Rel G E σ (τ++ [u]++ [v]) H s (θ++ [b]++ [a])) (ht:τ.length=θ.length):Rel G E σ (τ++ [v]++ [u]) H s (θ++ [a]++ [b]):=by
 obtain ⟨p,e,hl,h⟩:=h
 refine ⟨p,e,hl, ?_⟩
 have e1:∀(x y:V),σ++(τ++ [x]++ [y]).map some=(σ++τ.map some)++ [some x,some y]:=fun x y=>by simp
 have e2:∀(x y:Vl),s.sl++(θ++ [x]++ [y]).map some=(s.sl++θ.map some)++ [some x,some y]:=fun x y=>by simp
 rw [e1,e2] at h ⊢
 have l:(σ++τ.map some).length=(s.sl++θ.map some).length:=by simp [hl,ht]
 generalize (σ++τ.map some)=A at*
 have hm:s.sl.length≤(s.sl++θ.map some).length:=by simp
 generalize (s.sl++θ.map some)=B at*
 have fl:∀{α:Type} {A:List α} {x y z w:α} {k:Nat},k<A.length→(A++ [x,y])[k]? =(A++ [z,w])[k]? :=fun {α A x y z w k} hk=>by rw [List.getElem?_append_left hk,List.getElem?_append_left hk]
 have f0:∀{α:Type} {A:List α} {x y:α},(A++ [x,y])[A.length]? =some x:=fun {α A x y}=>by rw [List.getElem?_append_right (Nat.le_refl _)]; simp
 have f1:∀{α:Type} {A:List α} {x y:α},(A++ [x,y])[A.length+1]? =some y:=fun {α A x y}=>by rw [List.getElem?_append_right (Nat.le_succ _)]; simp
 refine h.pick (fun k=>if k=B.length then B.length+1 else if k=B.length+1 then B.length else k) (by simp [l]) (fun k e q=>?_) (fun j k y z h1 h2 e=>?_) fun k hk=>fl (by omega)
 ·by_cases c:k<B.length
  ·rw [if_neg (by omega),if_neg (by omega)]
   exact ⟨(fl c).trans q,fl (by omega),id⟩
  ·by_cases c2:k=B.length
   ·subst c2
    rw [if_pos rfl]
    rw [f0] at q
    exact ⟨f1.trans q,by rw [←l,f0,f1],fun _=>hm⟩
   ·have:k=B.length+1:=by have:=ag q; simp at this; omega
    subst this
    rw [if_neg (by omega),if_pos rfl]
    rw [f1] at q
    exact ⟨f0.trans q,by rw [←l,f0,f1],fun _=>by omega⟩
 ·split at e<;> split at e<;> (try split at e)<;> (try split at e)<;> omega
theorem RE.two {ta tb:TE} {fa fb:SD→R Vl} {α:Type} {f:Vl→Vl→SD→R α} {P:α→SD→Prop} {Q:V→V→Hp→Prop} (ha:RE G W ta fa) (hb:RE G W tb fb) (hN:Nl θ) (hR:Rel G E σ τ H s θ)
  (hw:Wp ((fa s).bind fun a s1=>(fb s1).bind fun b s2=>f a b s2) P (XP G W E τ θ))
  (k:∀(a b:Vl) (s2:SD) (v u:V) (H2:Hp),Rel G E σ (τ++ [v]++ [u]) H2 s2 (θ++ [a]++ [b])→Wp (f a b s2) P (XP G W E τ θ)→Q v u H2):ta σ H fun x H1=>tb σ H1 fun y H2=>Q x y H2:=by
 rw [ae] at hw
 refine ha E σ τ H s θ _ hN hR (hw.mono (fun a s1 hw v H1 h1=>?_) fun _ _ _ h=>h)
 rw [ae] at hw
 by_cases c:∃j,a= .loc j
 ·obtain ⟨j,rfl⟩:=c
  obtain ⟨c1,c2⟩:=h1.unloc
  refine hb E σ τ H1 s1 θ _ hN h1.pop (hw.mono (fun b s2 hw u H2 h2=>k _ _ _ _ _ _ ?_ hw) fun _ _ _ h=>h)
  exact (h2.reloc c2).swap hR.tlen
 ·exact hb E σ _ H1 s1 _ _ (hN.snoc fun j q=>c ⟨j,q⟩) h1 (hw.mono (fun b s2 hw u H2 h2=>k _ _ _ _ _ _ h2 hw) fun _ _ _ h=>h.up)
theorem RE.op2 {r:R2} {f:Vl→Vl→SD→R Vl} {ta tb:TE} {fa fb:SD→R Vl} (hp:bN G r f) (nx:∀a b s c fs s',f a b s≠ .ex c fs s') (ha:RE G W ta fa) (hb:RE G W tb fb):RE G W (tOp r ta tb) (z2 f fa fb):=by
 intro E σ τ H s θ Q hN hR hw
 refine RE.two ha hb hN hR hw fun a b s2 v u H2 h2 hw=>?_
 obtain ⟨p,rfl,hl,h⟩:=h2.unsnoc
 rw [List.map_append,List.map_append,←List.append_assoc,←List.append_assoc] at h
 refine hp E σ τ s2 θ p v u a b Q hl h ?_
 cases e:f a b s2 with
 | ok b s2=>rw [e] at hw; exact hw
 | ex c fs s2=>exact (nx _ _ _ _ _ _ e).elim
 | bad=>rw [e] at hw; exact hw
theorem aR (h:Sm G E s.sl.length p (σ++τ.map some) (s.sl++θ.map some) s.st) (hl:σ.length=s.sl.length) (hq:∀u H',Rel G E σ (τ++ [u]) H' s (θ++ [.d x])→Q u H') (r:Rep G p x v):Q v p.H:=
 hq v _ (.snoc (h.push r) hl rfl)
theorem bM {ds:List D} {vs:List V} {a:Addr} (h:Sm G E s.sl.length p (σ++τ.map some) (s.sl++θ.map some) s.st) (hl:σ.length=s.sl.length) (hq:∀u H',Rel G E σ (τ++ [u]) H' s (θ++ [.own (.lst ds)])→Q u H') (hn:p.H a=none) (r:Reps G p ds vs):Q (.ref a) (upd p.H a (.lst vs)):=
 hq _ _ (.snoc (h.allocOwn hn ⟨vs,upd_same,r.mono (gQ hn)⟩) hl rfl)
theorem lE {ds:List D} {vs:List V} {a:Addr} (h:Sm G E s.sl.length p (σ++τ.map some) (s.sl++θ.map some) s.st) (hl:σ.length=s.sl.length) (hq:∀u H',Rel G E σ (τ++ [u]) H' s (θ++ [.d (.tup ds)])→Q u H') (hn:p.H a=none) (r:Reps G p ds vs):Q (.ref a) (upd p.H a (.tup vs)):=
 hq _ _ (.snoc ((h.alloc hn).push (x:= .tup ds) ⟨a,vs,rfl,⟨(h.fresh hn).2,upd_same⟩,r.mono (cm hn)⟩) hl rfl)
theorem bL (hl:σ.length=s.sl.length) (h:Sm G E s.sl.length p ((σ++τ.map some)++ [some v]) ((s.sl++θ.map some)++ [some a]) s.st):Sm G E s.sl.length p (σ++τ.map some) (s.sl++θ.map some) s.st∧(∀x,s.cont a=some x→Cont G p x v)∧Rv G p s.sl.length ((σ++τ.map some)++ [some v]) (s.sl++θ.map some).length a v:=by
 have l:=az h.len
 refine ⟨h.pop1 (bb hl),fun x c=>?_, ?_⟩
 ·rw [List.append_assoc (as:=s.sl)] at h
  exact h.cont rfl (k:=(s.sl++θ.map some).length) (by rw [←List.append_assoc]; exact af) (by rw [←l]; exact af) c
 ·obtain ⟨u,e1,r⟩:=h.ent _ _ af
  rw [←l,af] at e1; cases e1
  exact r
theorem cJ (hl:σ.length=s.sl.length) (h:Sm G E s.sl.length p (((σ++τ.map some)++ [some v])++ [some u]) (((s.sl++θ.map some)++ [some a])++ [some b]) s.st):
  Sm G E s.sl.length p (σ++τ.map some) (s.sl++θ.map some) s.st∧(∀x,s.cont a=some x→Cont G p x v)∧(∀x,s.cont b=some x→Cont G p x u):=by
 have h1:=h.pop1 (by simp; omega)
 obtain ⟨h2,c1,_⟩:=bL hl h1
 refine ⟨h2,c1,fun x c=>?_⟩
 have l:=az h.len
 rw [List.append_assoc (as:=s.sl),List.append_assoc (as:=s.sl)] at h
 exact h.cont rfl (k:=((s.sl++θ.map some)++ [some a]).length) (by rw [←List.append_assoc (as:=s.sl),←List.append_assoc (as:=s.sl)]; exact af) (by rw [←l]; exact af) c
def zC (x:D):SD→R Vl:=fun s=> .ok (.d x) s
def aa (i:Nat):SD→R Vl:=fun s=>match s.sl[i]? with
 | some (some (.own _))=> .ok (.loc i) s
 | some (some (.d x))=> .ok (.d x) s
 | _=> .bad
theorem RE.c (hx:∀p:Wr,Rep G p x v):RE G W (tC v) (zC x):=fun _ _ _ _ _ _ _ _ hR hw=>hw _ _ (hR.push hx)
theorem aaa {i:Nat}:RE G W (tVar i) (aa i):=by
 intro E σ τ H s θ Q hN hR hw
 obtain ⟨p,rfl,hl,h⟩:=hR
 unfold aa at hw
 have hs:∀{e:Option Vl},s.sl[i]? =some e→(s.sl++θ.map some)[i]? =some e:=fun q=>by rw [List.getElem?_append_left (ag q)]; exact q
 have go:∀{e:Vl},s.sl[i]? =some (some e)→∃v,σ[i]? =some (some v)∧(σ++τ.map some)[i]? =some (some v)∧Rv G p s.sl.length (σ++τ.map some) i e v:=fun {e} q=>by
  obtain ⟨v,e1,r⟩:=h.ent i e (hs q)
  refine ⟨v, ?_,e1,r⟩
  rw [List.getElem?_append_left (by rw [hl]; exact ag q)] at e1
  exact e1
 cases q:s.sl[i]? with
 | none=>rw [q] at hw; exact hw.elim
 | some o=>
  rw [q] at hw
  cases o with
  | none=>exact hw.elim
  | some e=>
   obtain ⟨v,e1,e2,r⟩:=go q
   cases e with
   | d x=>exact ⟨v,e1,hw v _ (.snoc (h.push r) hl rfl)⟩
   | own x=>exact ⟨v,e1,hw v _ (.snoc (h.pushLoc (by simp; omega) (ag q) (hs q) e2) hl rfl)⟩
   | loc j=>exact hw.elim
end
def SD.fix (s:SD):Vl→R D
 | .d x=> .ok x s
 | .own x=> .ok x s
 | .loc k=>match s.sl[k]? with
  | some (some (.own x))=> .ok x {s with sl:=s.sl.set k (some (.d x))}
  | some (some (.d x))=> .ok x s
  | _=> .bad
def SD.celled (s:SD):Vl→R D
 | .d (.cell i)=> .ok (.cell i) s
 | .own x=> .ok (.cell s.st.nx) {s with st:=s.st.new x}
 | .loc k=>match s.sl[k]? with
  | some (some (.own x))=> .ok (.cell s.st.nx) ⟨s.sl.set k (some (.d (.cell s.st.nx))),s.st.new x⟩
  | some (some (.d (.cell i)))=> .ok (.cell i) s
  | _=> .bad
 | _=> .bad
def SD.frz (s:SD):Vl→R D
 | .d (.cell i)=>match s.st.get i with
  | some x=> .ok x {s with st:=s.st.del i}
  | none=> .bad
 | _=> .bad
def pq (g:SD→Vl→R D) (fa:SD→R Vl):SD→R Vl:=fun s=>(fa s).bind fun a s1=>(g s1 a).bind fun x s2=> .ok (.d x) s2
abbrev aL:=pq SD.fix
abbrev aN:=pq SD.celled
abbrev zFrz:=pq SD.frz
section
variable {G:Gc} {W:WX} {E:En} {σ:L2.St} {τ:List V} {H:Hp} {s s' :SD} {θ:List Vl} {v u:V} {a b:Vl} {x y:D} {p:Wr} {Q:VK} {m:Nat} {w:List (Option V)} {S:Sto} {k:Nat} {l:List (Option Vl)}
theorem dS {α:Type} {l:List α} {x y:α}:(l++ [x]).set l.length y=l++ [y]:=by
 rw [List.set_append_right _ _ (Nat.le_refl _)]
 simp
theorem bj {α:Type} {l r:List α} {x:α} {k:Nat} (h:k<l.length):(l++r).set k x=l.set k x++r:=List.set_append_left _ _ h
theorem Sm.slot {e:Vl} (h:Sm G E m p w (s.sl++l) S) (q:s.sl[k]? =some (some e)):(s.sl++l)[k]? =some (some e)∧∃v,w[k]? =some (some v)∧Rv G p m w k e v:=by
 have hs:(s.sl++l)[k]? =some (some e):=by rw [List.getElem?_append_left (ag q)]; exact q
 exact ⟨hs,h.ent k e hs⟩
def Fits (G:Gc) (g:SD→Vl→R D):Prop:=∀(E:En) (s:SD) (a:Vl) (x:D) (s' :SD) (p:Wr) (w:List (Option V)) (l:List (Option Vl)) (v:V),g s a= .ok x s'→
 Sm G E s.sl.length p (w++ [some v]) ((s.sl++l)++ [some a]) s.st→s.sl.length≤w.length→
 ∃p' :Wr,p'.H=p.H∧s'.sl.length=s.sl.length∧Sm G E s'.sl.length p' (w++ [some v]) ((s'.sl++l)++ [some (.d x)]) s'.st
theorem sL:Fits G SD.fix:=by
 intro E s a x s' p w l v c h hm
 have ll:=az h.len
 cases a with
 | d y=>
  cases c
  exact ⟨p,rfl,rfl,h⟩
 | own y=>
  cases c
  obtain ⟨u,e1,a,rfl,r⟩:=h.ent _ _ af
  have q:=h.settle (k:=(s.sl++l).length) (x:=x) (a:=a) af e1
  rw [dS] at q
  exact ⟨_,(by rfl),(by rfl),q⟩
 | loc k=>
  unfold SD.fix at c
  dsimp only at c
  obtain ⟨u,e1,r0,r1,r2⟩:=h.ent _ _ (af (l:=s.sl++l))
  rw [←ll,af] at e1
  cases e1
  cases q1:s.sl[k]? with
  | none=>rw [q1] at c; cases c
  | some o=>
   cases o with
   | none=>rw [q1] at c; cases c
   | some z=>
    rw [q1] at c
    rw [List.append_assoc] at h
    obtain ⟨hs,u,e2,r⟩:=h.slot q1
    rw [r2] at e2; cases e2
    cases z with
    | d y=>
     cases c
     rw [←List.append_assoc] at h
     exact ⟨p,rfl,rfl,(h.pop1 hm).push r⟩
    | own y=>
     cases c
     obtain ⟨a,rfl,r⟩:=r
     have q:=h.settle hs r2
     rw [bj (ag q1),←List.append_assoc] at q
     obtain ⟨u,e3,r3⟩:=q.ent k (.d _) (by rw [List.append_assoc,List.getElem?_append_left (by simpa using ag q1)]; exact kW (ag q1))
     rw [r2] at e3
     cases e3
     have q' :=(q.pop1 hm).push r3
     refine ⟨{p with O:=fun b=>p.O b∧b≠a},rfl,List.length_set, ?_⟩
     show Sm G E (s.sl.set _ _).length _ _ _ _
     rw [List.length_set]
     exact q'
    | loc j=>cases c
theorem tF:Fits G SD.celled:=by
 intro E s a x s' p w l v c h hm
 have ll:=az h.len
 cases a with
 | d y=>
  cases y with
  | cell i=>cases c; exact ⟨p,rfl,rfl,h⟩
  | _=>cases c
 | own y=>
  cases c
  obtain ⟨u,e1,a,rfl,r⟩:=h.ent _ _ af
  have q:=h.celled (k:=(s.sl++l).length) (x:=y) (a:=a) af e1
  rw [dS] at q
  exact ⟨_,(by rfl),(by rfl),q⟩
 | loc k=>
  unfold SD.celled at c
  dsimp only at c
  obtain ⟨u,e1,r0,r1,r2⟩:=h.ent _ _ (af (l:=s.sl++l))
  rw [←ll,af] at e1
  cases e1
  cases q1:s.sl[k]? with
  | none=>rw [q1] at c; cases c
  | some o=>
   cases o with
   | none=>rw [q1] at c; cases c
   | some z=>
    rw [q1] at c
    rw [List.append_assoc] at h
    obtain ⟨hs,u,e2,r⟩:=h.slot q1
    rw [r2] at e2; cases e2
    cases z with
    | d y=>
     cases y with
     | cell i=>
      cases c
      rw [←List.append_assoc] at h
      exact ⟨p,rfl,rfl,(h.pop1 hm).push r⟩
     | _=>cases c
    | own y=>
     cases c
     obtain ⟨a,rfl,r⟩:=r
     have q:=h.celled hs r2
     rw [bj (ag q1),←List.append_assoc] at q
     obtain ⟨u,e3,r3⟩:=q.ent k (.d (.cell s.st.nx)) (by rw [List.append_assoc,List.getElem?_append_left (by simpa using ag q1)]; exact kW (ag q1))
     rw [r2] at e3
     cases e3
     have q' :=(q.pop1 hm).push r3
     refine ⟨{p with γ:=fun i=>if i=s.st.nx then a else p.γ i,n:=s.st.nx+1},rfl,List.length_set, ?_⟩
     show Sm G E (s.sl.set _ _).length _ _ _ _
     rw [List.length_set]
     exact q'
    | loc j=>cases c
theorem frz_ok:Fits G SD.frz:=by
 intro E s a x s' p w l v c h hm
 cases a with
 | d y=>
  cases y with
  | cell i=>
   unfold SD.frz at c
   dsimp only at c
   cases q1:s.st.get i with
   | none=>rw [q1] at c; cases c
   | some z=>
    rw [q1] at c
    cases c
    have q:=h.freeze (k:=(s.sl++l).length) q1 af
    rw [dS] at q
    exact ⟨_,(by rfl),(by rfl),q⟩
  | _=>cases c
 | own y=>cases c
 | loc k=>cases c
theorem RE.via {g:SD→Vl→R D} {ta:TE} {fa:SD→R Vl} (hg:Fits G g) (nx:∀s a c fs s',g s a≠ .ex c fs s') (ha:RE G W ta fa):RE G W ta (pq g fa):=by
 intro E σ τ H s θ Q hN hR hw
 unfold pq at hw
 rw [ae] at hw
 refine ha E σ τ H s θ _ hN hR (hw.mono (fun a s1 hw v H1 h1=>?_) fun _ _ _ h=>h)
 rw [ae] at hw
 obtain ⟨p,rfl,hl,h⟩:=h1.unsnoc
 cases e:g s1 a with
 | bad=>rw [e] at hw; exact hw.elim
 | ex c fs s2=>exact (nx _ _ _ _ _ e).elim
 | ok x s2=>
  rw [e] at hw
  obtain ⟨p',hp,hs,h'⟩:=hg E s1 a x s2 p _ _ v e h (bb hl)
  exact hw v _ (hp ▸ .snoc h' (hl.trans hs.symm) rfl)
theorem nN:∀(s:SD) (a:Vl) c fs s',s.fix a≠ .ex c fs s' :=by
 intro s a c fs s'
 cases a with
 | d x=>intro q; cases q
 | own x=>intro q; cases q
 | loc k=>
  unfold SD.fix
  dsimp only
  split<;> intro q<;> cases q
theorem tG:∀(s:SD) (a:Vl) c fs s',s.celled a≠ .ex c fs s' :=by
 intro s a c fs s'
 cases a with
 | d x=>cases x<;> intro q<;> cases q
 | own x=>intro q; cases q
 | loc k=>
  unfold SD.celled
  dsimp only
  split<;> intro q<;> cases q
theorem frz_nx:∀(s:SD) (a:Vl) c fs s',s.frz a≠ .ex c fs s' :=by
 intro s a c fs s'
 unfold SD.frz
 split
 ·split<;> intro q<;> cases q
 ·intro q; cases q
theorem RE.fix {ta:TE} {fa:SD→R Vl} (ha:RE G W ta fa):RE G W ta (aL fa):=RE.via sL nN ha
theorem RE.cell {ta:TE} {fa:SD→R Vl} (ha:RE G W ta fa):RE G W ta (aN fa):=RE.via tF tG ha
theorem RE.frz {ta:TE} {fa:SD→R Vl} (ha:RE G W ta fa):RE G W ta (zFrz fa):=RE.via frz_ok frz_nx ha
def zA0:SD→R (List D):=fun s=> .ok [] s
def zA (fa:SD→R Vl) (fr:SD→R (List D)):SD→R (List D):=fun s=>(fa s).bind fun a s1=>(s1.fix a).bind fun x s2=>(fr s2).bind fun xs s3=> .ok (x::xs) s3
theorem RA.nil:RA G W tNil zA0:=by
 intro E σ τ H s θ Q hN hR hw
 exact hw [] H (by simpa using hR)
theorem RA.cons {ta:TE} {t:TA} {fa:SD→R Vl} {fr:SD→R (List D)} (ha:RE G W ta fa) (hr:RA G W t fr):RA G W (tCons ta t) (zA fa fr):=by
 intro E σ τ H s θ Q hN hR hw
 refine RE.fix ha E σ τ H s θ _ hN hR ?_
 unfold zA at hw
 rw [ae] at hw
 unfold aL pq
 rw [ae]
 refine hw.mono (fun a s1 hw=>?_) fun _ _ _ h=>h
 rw [ae] at hw ⊢
 refine hw.mono (fun x s2 hw=>?_) fun _ _ _ h=>h
 rw [ae] at hw
 intro v H1 h1
 refine hr E σ _ H1 s2 _ _ hN.d h1 (hw.mono (fun xs s3 hw vs H2 h2=>?_) fun _ _ _ h=>h.up)
 exact hw (v::vs) H2 (by simpa using h2)
theorem Rel.args {vs:List V} {ds:List D} (ht:τ.length=θ.length) (h:Rel G E σ (τ++vs) H s (θ++ds.map .d)):∃p:Wr,p.H=H∧σ.length=s.sl.length∧Sm G E s.sl.length p (σ++τ.map some) (s.sl++θ.map some) s.st∧Reps G p ds vs:=by
 obtain ⟨p,e,hl,h⟩:=h
 rw [List.map_append,List.map_append,←List.append_assoc,←List.append_assoc] at h
 have l:(σ++τ.map some).length=(s.sl++θ.map some).length:=by simp [hl,ht]
 refine ⟨p,e,hl,h.pop l (bb hl), ?_⟩
 have len:=h.len
 refine .of (by simp at len; omega) fun i d v e1 e2=>?_
 obtain ⟨u,e3,r⟩:=h.ent ((s.sl++θ.map some).length+i) (.d d) (by rw [List.getElem?_append_right (by omega)]; simp [e1])
 rw [←l,List.getElem?_append_right (by omega)] at e3
 simp [e2] at e3
 subst e3
 exact r
def bY (fr:SD→R (List D)):SD→R Vl:=fun s=>(fr s).bind fun xs s1=> .ok (.d (.tup xs)) s1
def cG (fr:SD→R (List D)):SD→R Vl:=fun s=>(fr s).bind fun xs s1=> .ok (.own (.lst xs)) s1
def Many (fr:SD→R (List D)) (n:Nat):Prop:=∀s xs s',fr s= .ok xs s'→xs.length=n
theorem Many.nil:Many zA0 0:=fun s xs s' e=>by cases e; rfl
theorem Many.cons {fa:SD→R Vl} {fr:SD→R (List D)} {n:Nat} (h:Many fr n):Many (zA fa fr) (n+1):=fun s xs s' e=>by
 unfold zA at e
 cases q1:fa s with
 | bad=>rw [q1] at e; cases e
 | ex c fs s1=>rw [q1] at e; cases e
 | ok a s1=>
  rw [q1] at e
  have e:((s1.fix a).bind fun x s2=>(fr s2).bind fun xs s3=> .ok (x::xs) s3)= .ok xs s' :=e
  cases q2:s1.fix a with
  | bad=>rw [q2] at e; cases e
  | ex c fs s1=>rw [q2] at e; cases e
  | ok x s2=>
   rw [q2] at e
   have e:((fr s2).bind fun xs s3=> .ok (x::xs) s3)= .ok xs s' :=e
   cases q3:fr s2 with
   | bad=>rw [q3] at e; cases e
   | ex c fs s1=>rw [q3] at e; cases e
   | ok ys s3=>
    rw [q3] at e
    cases e
    simp [h _ _ _ q3]
theorem Wp.eq {α:Type} {m:R α} {Q:α→SD→Prop} {E:XQ} (h:Wp m Q E):Wp m (fun a s=>m= .ok a s∧Q a s) E:=by
 cases m with
 | ok a s=>exact ⟨rfl,h⟩
 | ex c fs s=>exact h
 | bad=>exact h
theorem RE.tup {t:TA} {fr:SD→R (List D)} {n:Nat} (hr:RA G W t fr) (hm:Many fr n) (hn:n≤sizeLine):RE G W (tTup t) (bY fr):=by
 intro E σ τ H s θ Q hN hR hw
 unfold bY at hw
 rw [ae] at hw
 refine hr E σ τ H s θ _ hN hR (hw.eq.mono (fun xs s1 ⟨e,hw⟩ vs H1 h1=>?_) fun _ _ _ h=>h)
 obtain ⟨p,rfl,hl,h,r⟩:=h1.args hR.tlen
 exact ⟨by rw [r.len,hm _ _ _ e]; exact hn,fun a hn=>lE h hl hw hn r⟩
theorem RE.lst {t:TA} {fr:SD→R (List D)} {n:Nat} (hr:RA G W t fr) (hm:Many fr n) (hn:n≤sizeLine):RE G W (tLst t) (cG fr):=by
 intro E σ τ H s θ Q hN hR hw
 unfold cG at hw
 rw [ae] at hw
 refine hr E σ τ H s θ _ hN hR (hw.eq.mono (fun xs s1 ⟨e,hw⟩ vs H1 h1=>?_) fun _ _ _ h=>h)
 obtain ⟨p,rfl,hl,h,r⟩:=h1.args hR.tlen
 exact ⟨by rw [r.len,hm _ _ _ e]; exact hn,fun a hn=>bM h hl hw hn r⟩
def zDnew:SD→R Vl:=fun s=> .ok (.own (.dct [])) s
def oB:Vl→SD→R Bool
 | .d (.bl b),s=> .ok b s
 | _,_=> .bad
def zB (fa:SD→R Vl):SD→R Bool:=fun s=>(fa s).bind oB
theorem RT.val {ta:TE} {fa:SD→R Vl} (ha:RE G W ta fa):RT G W (fun σ H Q=>ta σ H fun x H' =>∃k,x= .bl k∧Q k H') (zB fa):=by
 intro E σ τ H s θ Q hN hR hw
 unfold zB at hw
 rw [ae] at hw
 refine ha E σ τ H s θ _ hN hR (hw.mono (fun a s1 hw v H1 h1=>?_) fun _ _ _ h=>h)
 cases a with
 | d x=>
  cases x with
  | bl b=>
   obtain ⟨p,_,r⟩:=h1.last
   exact ⟨b,r,hw _ h1.pop⟩
  | _=>exact hw.elim
 | own x=>exact hw.elim
 | loc k=>exact hw.elim
noncomputable def oT (a:Vl) (s:SD):R Bool:=match s.cont a with
 | some .non=> .ok false s
 | some (.bl b)=> .ok b s
 | some (.int i)=> .ok (i != 0) s
 | some (.str z)=>if z.length≤sizeLine then .ok ((z.length:Int) != 0) s else .bad
 | some (.lst xs)=> .ok (!xs.isEmpty) s
 | some (.con xs)=> .ok (!xs.isEmpty) s
 | some (.tup xs)=> .ok (!xs.isEmpty) s
 | _=> .bad
noncomputable def zT (fa:SD→R Vl):SD→R Bool:=fun s=>(fa s).bind oT
theorem Reps.empty {ds:List D} {vs:List V} (h:Reps G p ds vs):vs.isEmpty=ds.isEmpty:=by
 cases ds with
 | nil=>rw [show vs= [] from h]; rfl
 | cons d r=>obtain ⟨v,r,rfl,_⟩:=h; rfl
def kP (f g:SD→R Bool):SD→R Bool:=fun s=>(f s).bind fun b s1=>if b=true then g s1 else .ok false s1
def zOr (f g:SD→R Bool):SD→R Bool:=fun s=>(f s).bind fun b s1=>if b=true then .ok true s1 else g s1
def dt (f:SD→R Bool):SD→R Bool:=fun s=>(f s).bind fun b s1=> .ok (!b) s1
theorem RT.and {t u:TT} {f g:SD→R Bool} (ha:RT G W t f) (hb:RT G W u g):RT G W (tAnd t u) (kP f g):=by
 intro E σ τ H s θ Q hN hR hw
 unfold kP at hw
 rw [ae] at hw
 refine ha E σ τ H s θ _ hN hR (hw.mono (fun b s1 hw H1 h1=>?_) fun _ _ _ h=>h)
 split
 ·rename_i c; rw [if_pos c] at hw; exact hb E σ τ H1 s1 θ _ hN h1 hw
 ·rename_i c; rw [if_neg c] at hw; exact hw _ h1
theorem RT.or {t u:TT} {f g:SD→R Bool} (ha:RT G W t f) (hb:RT G W u g):RT G W (tOr t u) (zOr f g):=by
 intro E σ τ H s θ Q hN hR hw
 unfold zOr at hw
 rw [ae] at hw
 refine ha E σ τ H s θ _ hN hR (hw.mono (fun b s1 hw H1 h1=>?_) fun _ _ _ h=>h)
 split
 ·rename_i c; rw [if_pos c] at hw; exact hw _ h1
 ·rename_i c; rw [if_neg c] at hw; exact hb E σ τ H1 s1 θ _ hN h1 hw
theorem aag {t:TT} {f:SD→R Bool} (ha:RT G W t f):RT G W (tNot t) (dt f):=by
 intro E σ τ H s θ Q hN hR hw
 unfold dt at hw
 rw [ae] at hw
 exact ha E σ τ H s θ _ hN hR (hw.mono (fun b s1 hw H1 h1=>hw _ h1) fun _ _ _ h=>h)
def jD (fa fb:SD→R Vl):SD→R Vl:=fun s=>(zB fa s).bind fun b s1=>if b=true then fb s1 else .ok (.d (.bl false)) s1
def zOrV (fa fb:SD→R Vl):SD→R Vl:=fun s=>(zB fa s).bind fun b s1=>if b=true then .ok (.d (.bl true)) s1 else fb s1
def tT (fa:SD→R Vl):SD→R Vl:=fun s=>(zB fa s).bind fun b s1=> .ok (.d (.bl (!b))) s1
def zIf (c:SD→R Bool) (fa fb:SD→R Vl):SD→R Vl:=fun s=>(c s).bind fun b s1=>if b=true then fa s1 else fb s1
theorem RE.andV {ta tb:TE} {fa fb:SD→R Vl} (ha:RE G W ta fa) (hb:RE G W tb fb):RE G W (tAndV ta tb) (jD fa fb):=by
 intro E σ τ H s θ Q hN hR hw
 unfold jD at hw
 rw [ae] at hw
 refine RT.val ha E σ τ H s θ _ hN hR (hw.mono (fun b s1 hw H1 h1=>?_) fun _ _ _ h=>h)
 split
 ·rename_i c; rw [if_pos c] at hw; exact hb E σ τ H1 s1 θ _ hN h1 hw
 ·rename_i c; rw [if_neg c] at hw; exact hw _ _ (h1.push fun _=>rfl)
theorem RE.orV {ta tb:TE} {fa fb:SD→R Vl} (ha:RE G W ta fa) (hb:RE G W tb fb):RE G W (tOrV ta tb) (zOrV fa fb):=by
 intro E σ τ H s θ Q hN hR hw
 unfold zOrV at hw
 rw [ae] at hw
 refine RT.val ha E σ τ H s θ _ hN hR (hw.mono (fun b s1 hw H1 h1=>?_) fun _ _ _ h=>h)
 split
 ·rename_i c; rw [if_pos c] at hw; exact hw _ _ (h1.push fun _=>rfl)
 ·rename_i c; rw [if_neg c] at hw; exact hb E σ τ H1 s1 θ _ hN h1 hw
theorem RE.notV {ta:TE} {fa:SD→R Vl} (ha:RE G W ta fa):RE G W (tNotV ta) (tT fa):=by
 intro E σ τ H s θ Q hN hR hw
 unfold tT at hw
 rw [ae] at hw
 exact RT.val ha E σ τ H s θ _ hN hR (hw.mono (fun b s1 hw H1 h1=>hw _ _ (h1.push fun _=>rfl)) fun _ _ _ h=>h)
end
section
variable {X:Cx}
theorem OpR.or {f:Value→Value→Sem Value} {r r' :R2} (h:OpR X f r) (h' :OpR X f r'):OpR X f (fun x y H Q=>r x y H Q∨r' x y H Q):=by
 intro pins s σ H x y v u Q I rx ry q
 rcases q with q | q
 ·exact h pins s σ H x y v u Q I rx ry q
 ·exact h' pins s σ H x y v u Q I rx ry q
theorem CallR.or {f:Value} {r r' :List V→Hp→VK→Prop} (h:CallR X f r) (h' :CallR X f r'):CallR X f (fun xs H Q=>r xs H Q∨r' xs H Q):=by
 intro pins s σ H xs us Q I rv q
 rcases q with q | q
 ·exact h pins s σ H xs us Q I rv q
 ·exact h' pins s σ H xs us Q I rv q
def rDIn (neg:Bool):R2:=fun y x H Q=>∃a o,x= .ref a∧DGet H a y o∧Q (.bl (if neg then !o.isSome else o.isSome)) H
theorem op_inD (hu:X.A.units+1<cLine):OpR X (compareOp .In) (rDIn false):=by
 intro pins s σ H y x u v Q I ry rx q
 obtain ⟨a,o,rfl,g,q⟩:=q
 obtain rfl:v=Value.ref a:=rx
 exact d_in hu I g ry fun s3 I3=>⟨.bl o.isSome,H,I3,rfl,q⟩
theorem qQ (hu:X.A.units+1<cLine):OpR X (compareOp .NotIn) (rDIn true):=by
 intro pins s σ H y x u v Q I ry rx q
 obtain ⟨a,o,rfl,g,q⟩:=q
 obtain rfl:v=Value.ref a:=rx
 exact d_notIn hu I g ry fun s3 I3=>⟨.bl (!o.isSome),H,I3,rfl,q⟩
def rIxD:R2:=fun x y H Q=>∃a v,x= .ref a∧DGet H a y (some v)∧Q v H
theorem ix_dict (hu:X.A.units+1<cLine):IxR X rIxD:=by
 intro value slice pins s σ H x y v u Q I rx ry h hs
 obtain ⟨a,z,rfl,g,q⟩:=h
 obtain rfl:v=Value.ref a:=rx
 have hT:=dict_typeIs I g
 unfold subscriptTail
 refine wpAny_bind ?_
 rw [getitemInPython_of_ne hT.not_modules]
 refine wpAny_bind (wpAny_specialOf hT PySem.F.slot_dict_getitem.lookup ?_)
 have fin:wpAny (model X.prog X.w) X.A (subscripted slice false (.ref a) u) (fun r s₃=>wpAny (model X.prog X.w) X.A (letTemporaryGo value (.ref a) r >>= fun _=>pure r) (EP X pins σ Q) X.xe s₃) X.xe s:=by
  rw [hs]
  exact wpAny_operating (d_getItem hu I g ry fun w' s3 I3 r3=>wpAny_bind (wpAny_letTemporaryGo (wpAny_pure ⟨z,H,I3,r3,q⟩)))
 first
  | exact wpAny_pure (wpAny_bind fin)
  | exact wpAny_bind (wpAny_pure (wpAny_bind fin))
  | exact wpAny_bind fin
def rLenDR:List V→Hp→VK→Prop:=fun xs H Q=>∃a,∃kvs:List (Key×V),xs= [V.ref a]∧Rd H a (.dK kvs)∧Q (.int kvs.length) H
theorem uX:CallR X (.builtin "len") rLenDR:=by
 intro pins s σ H xs us Q I rv q
 obtain ⟨a,kvs,rfl,e,q⟩:=q
 cases rv with
 | cons r rr=>
  cases rr
  obtain rfl:_=Value.ref a:=r
  exact d_len I e fun t s' I' =>⟨.int kvs.length,H,I',⟨t,rfl⟩,q⟩
def rNeDR (neg:Bool):R2:=fun x y H Q=>∃a b,∃ks:List (Key×V),x= .ref a∧y= .ref b∧Rd H a (.dK ks)∧Rd H b (.dK [])∧Q (.bl (if neg then !ks.isEmpty else ks.isEmpty)) H
theorem op_neDR (hu:X.A.units<cLine):OpR X (compareOp .NotEq) (rNeDR true):=by
 intro pins s σ H x y v u Q I rx ry h
 obtain ⟨a,b,ks,rfl,rfl,ea,eb,q⟩:=h
 obtain rfl:v=Value.ref a:=rx
 obtain rfl:u=Value.ref b:=ry
 obtain ⟨_,ya,va,ra,da⟩:=dk_rd I.hok ea
 obtain ⟨_,yb,vb,rb,db⟩:=dk_rd I.hok eb
 have hb:vb.length=0:=by rw [←rb.length]; rfl
 have ha:va.length=ks.length:=ra.length.symm
 refine PySem.W.keq_ne (knd:=mixKind X.prog X.w) (r:=true) ya yb da db hu (fun hl=>?_) (fin_bl I q ?_)
 ·have h0:ks= []:=List.eq_nil_of_length_eq_zero (by omega)
  subst h0
  exact hits_all rb ra (fun p hp=>nomatch hp)
 ·rw [ha,hb]
  cases ks with
  | nil=>rfl
  | cons a r=>simp
def uf (neg:Bool):R2:=fun x y H Q=>∃a b,∃ks ls:List (Key×V),x= .ref a∧y= .ref b∧Rd H a (.dK ks)∧Rd H b (.dK ls)∧ks.length=ls.length∧(∀p∈ks,valV ls p.1=some p.2∧flatB p.2=true)∧Q (.bl (!neg)) H
theorem op_eqDD (hu:X.A.units<cLine):OpR X (compareOp .Eq) (uf false):=by
 intro pins s σ H x y v u Q I rx ry h
 obtain ⟨a,b,ks,ls,rfl,rfl,ea,eb,hl,hp,q⟩:=h
 obtain rfl:v=Value.ref a:=rx
 obtain rfl:u=Value.ref b:=ry
 obtain ⟨_,ya,va,ra,da⟩:=dk_rd I.hok ea
 obtain ⟨_,yb,vb,rb,db⟩:=dk_rd I.hok eb
 have h2:va.length=vb.length:=ra.length.symm.trans (hl.trans rb.length)
 exact PySem.W.keq_eq (knd:=mixKind X.prog X.w) (r:=true) ya yb da db hu (fun _=>hits_all rb ra hp) (fin_bl I q (by simp [h2]))
theorem op_neDD (hu:X.A.units<cLine):OpR X (compareOp .NotEq) (uf true):=by
 intro pins s σ H x y v u Q I rx ry h
 obtain ⟨a,b,ks,ls,rfl,rfl,ea,eb,hl,hp,q⟩:=h
 obtain rfl:v=Value.ref a:=rx
 obtain rfl:u=Value.ref b:=ry
 obtain ⟨_,ya,va,ra,da⟩:=dk_rd I.hok ea
 obtain ⟨_,yb,vb,rb,db⟩:=dk_rd I.hok eb
 have h2:va.length=vb.length:=ra.length.symm.trans (hl.trans rb.length)
 exact PySem.W.keq_ne (knd:=mixKind X.prog X.w) (r:=true) ya yb da db hu (fun _=>hits_all rb ra hp) (fin_bl I q (by simp [h2]))
def rAddZ (K:PySem.W.Frag):R2:=fun x y H Q=>rI0 (fun i j=> .int (i+j)) x y H Q∨rAddS x y H Q∨rCat x y H Q∨rCatA K x y H Q
theorem aQ {K:PySem.W.Frag} (hK:X.K=K:=by rfl):OpR X (binaryOp .Add) (rAddZ K):=OpR.or op_add (OpR.or qT (OpR.or op_cat (m_catA hK)))
def rManyS:R2:=fun x y H Q=>∃(z:Str) (i:Int),x= .str z∧y= .int i∧PySem.MulOk z i∧Q (.str (Txt.mul z i)) H
theorem um:OpR X (binaryOp .Mult) rManyS:=by
 intro pins s σ H x y v u Q I rx ry h
 obtain ⟨z,i,rfl,rfl,hok,q⟩:=h
 obtain ⟨t,rfl⟩:=rx
 obtain ⟨t',rfl⟩:=ry
 exact PySem.SB.mul hok fun t2 k=>⟨.str (Txt.mul z i),H,I.tok _,⟨_,rfl⟩,q⟩
def rMulZ:R2:=fun x y H Q=>rI CMulX (fun i j=> .int (i*j)) x y H Q∨rRep x y H Q∨rManyS x y H Q
theorem cW:OpR X (binaryOp .Mult) rMulZ:=OpR.or op_mulX (OpR.or op_rep um)
def rInZ (K:PySem.W.Frag) (neg:Bool):R2:=fun x y H Q=>rIn K neg x y H Q∨rInSg neg x y H Q∨qK neg x y H Q∨rDIn neg x y H Q
theorem op_inZ {K:PySem.W.Frag} (hu:X.A.units+64<cLine) (hK:X.K=K:=by rfl):OpR X (compareOp .In) (rInZ K false):=OpR.or (m_inS hK) (OpR.or qS (OpR.or ur (op_inD (by omega))))
theorem qP {K:PySem.W.Frag} (hu:X.A.units+64<cLine) (hK:X.K=K:=by rfl):OpR X (compareOp .NotIn) (rInZ K true):=OpR.or (uD hK) (OpR.or jY (OpR.or lj (qQ (by omega))))
def iT (K:PySem.W.Frag) (r:Bool):R2:=fun x y H Q=>∃p z xs,x= .ref p∧y= .str z∧SqT K H p xs∧Q (.bl r) H
theorem op_eqTS {K:PySem.W.Frag} (hu:X.A.units<cLine) (hK:X.K=K:=by rfl):OpR X (compareOp .Eq) (iT K false):=by
 subst hK
 intro pins s σ H x y v u Q I rx ry h
 obtain ⟨p,z,xs,rfl,rfl,h1,k⟩:=h
 cases rx
 obtain ⟨t,rfl⟩:=ry
 obtain ⟨its,_,l1,_⟩:=I.tuple h1
 exact SeqAt.RcAt.tuple_str z t l1 hu X.prog X.w X.xe _ ⟨.bl _,H,I,rfl,k⟩
theorem op_neTS {K:PySem.W.Frag} (hu:X.A.units<cLine) (hK:X.K=K:=by rfl):OpR X (compareOp .NotEq) (iT K true):=by
 subst hK
 intro pins s σ H x y v u Q I rx ry h
 obtain ⟨p,z,xs,rfl,rfl,h1,k⟩:=h
 cases rx
 obtain ⟨t,rfl⟩:=ry
 obtain ⟨its,_,l1,_⟩:=I.tuple h1
 exact SeqAt.RcNeAt.tuple_str z t l1 hu X.prog X.w X.xe _ ⟨.bl _,H,I,rfl,k⟩
def rEqZ (K:PySem.W.Frag):R2:=fun x y H Q=>rEq x y H Q∨mH K false x y H Q∨rEqD K x y H Q∨uf false x y H Q∨iT K false x y H Q
theorem op_eqZ {K:PySem.W.Frag} (hu:X.A.units+64<cLine) (hK:X.K=K:=by rfl):OpR X (compareOp .Eq) (rEqZ K):=OpR.or op_eq (OpR.or (hK ▸ uo hu) (OpR.or (m_eqD hu hK) (OpR.or (op_eqDD (by omega)) (op_eqTS (by omega) hK))))
def rNeZ (K:PySem.W.Frag):R2:=fun x y H Q=>rNe x y H Q∨mH K true x y H Q∨rNeD K x y H Q∨rNeDR true x y H Q∨uf true x y H Q∨iT K true x y H Q
theorem op_neZ {K:PySem.W.Frag} (hu:X.A.units+64<cLine) (hK:X.K=K:=by rfl):OpR X (compareOp .NotEq) (rNeZ K):=OpR.or op_ne (OpR.or (hK ▸ uk hu) (OpR.or (m_neD hu hK) (OpR.or (op_neDR (by omega)) (OpR.or (op_neDD (by omega)) (op_neTS (by omega) hK)))))
def rIxZ (K:PySem.W.Frag):R2:=fun x y H Q=>rIxL K x y H Q∨rIxT K x y H Q∨rIxS x y H Q∨rIxD x y H Q
theorem ix_Z {K:PySem.W.Frag} (hu:X.A.units+64<cLine) (hK:X.K=K:=by rfl):IxR X (rIxZ K):=IxR.or (m_ixL hK) (IxR.or (m_ixT hK) (IxR.or ix_str (ix_dict (by omega))))
def rLenZ (K:PySem.W.Frag):List V→Hp→VK→Prop:=fun xs H Q=>lb K xs H Q∨qJ xs H Q∨rLenDR xs H Q
theorem aI {K:PySem.W.Frag} (hK:X.K=K:=by rfl):CallR X (.builtin "len") (rLenZ K):=CallR.or (m_lenS hK) (CallR.or pf uX)
end
def D.sc:D→Option V
 | .non=>some .non
 | .bl b=>some (.bl b)
 | .int i=>some (.int i)
 | .str s=>some (.str s)
 | _=>none
def scs:List D→Option (List V)
 | []=>some []
 | d::ds=>match d.sc,scs ds with
  | some v,some vs=>some (v::vs)
  | _,_=>none
def D.key:D→Option Key
 | .int i=>some (.inl i)
 | .str s=>some (.inr s)
 | _=>none
mutual
def D.py:D→Option PyData
 | .non=>some .none
 | .bl b=>some (.bool b)
 | .int i=>some (.int i)
 | .str s=>some (.str s)
 | .lst ds=>match D.pys ds with
  | some xs=>some (.list xs)
  | none=>none
 | .tup ds=>match D.pys ds with
  | some xs=>some (.tuple xs)
  | none=>none
 | _=>none
def D.pys:List D→Option (List PyData)
 | []=>some []
 | d::ds=>match D.py d,D.pys ds with
  | some x,some xs=>some (x::xs)
  | _,_=>none
end
noncomputable def bU (a b:Vl) (s:SD):R Vl:=match s.cont a,s.cont b with
 | some (.int i),some (.int j)=> .ok (.d (.int (i+j))) s
 | some (.str x),some (.str y)=>if x.length+y.length≤sizeLine then .ok (.d (.str (x++y))) s else .bad
 | some (.lst xs),some (.lst ys)=>if xs.length+ys.length≤sizeLine then .ok (.own (.lst (xs++ys))) s else .bad
 | some (.tup xs),some (.tup ys)=>if xs≠ []∧ys≠ []∧xs.length+ys.length≤sizeLine then .ok (.d (.tup (xs++ys))) s else .bad
 | _,_=> .bad
def uu (a b:Vl) (s:SD):R Vl:=match s.cont a,s.cont b with
 | some (.int i),some (.int j)=> .ok (.d (.int (i - j))) s
 | _,_=> .bad
noncomputable def iX (a b:Vl) (s:SD):R Vl:=match s.cont a,s.cont b with
 | some (.int i),some (.int j)=>if CMulX i j then .ok (.d (.int (i*j))) s else .bad
 | some (.lst xs),some (.int k)=>if -(2 ^ 63)≤k∧k<2 ^ 63∧xs.length*k.toNat≤sizeLine then .ok (.own (.lst (List.replicate k.toNat xs).flatten)) s else .bad
 | some (.str z),some (.int k)=>if PySem.MulOk z k then .ok (.d (.str (Txt.mul z k))) s else .bad
 | _,_=> .bad
noncomputable def dq (a b:Vl) (s:SD):R Vl:=match s.cont a,s.cont b with
 | some (.int i),some (.int j)=>if 0<j then .ok (.d (.int (i%j))) s else .bad
 | _,_=> .bad
noncomputable def eR (a b:Vl) (s:SD):R Vl:=match s.cont a,s.cont b with
 | some (.int i),some (.int j)=>if CDivW i j then .ok (.d (.int (i / j))) s else .bad
 | _,_=> .bad
noncomputable def oPow (a b:Vl) (s:SD):R Vl:=match s.cont a,s.cont b with
 | some (.int i),some (.int j)=>if CPowW i j then .ok (.d (.int (i ^ j.toNat))) s else .bad
 | _,_=> .bad
def oXor (a b:Vl) (s:SD):R Vl:=match s.cont a,s.cont b with
 | some (.int i),some (.int j)=> .ok (.d (.int (Builtin.bitXor i j))) s
 | _,_=> .bad
def ux (f:Int→Int→Bool) (a b:Vl) (s:SD):R Vl:=match s.cont a,s.cont b with
 | some (.int i),some (.int j)=> .ok (.d (.bl (f i j))) s
 | _,_=> .bad
abbrev oLt:=ux fun i j=>decide (i<j)
abbrev oLe:=ux fun i j=>decide (i≤j)
abbrev oGt:=ux fun i j=>decide (i > j)
abbrev oGe:=ux fun i j=>decide (i≥j)
noncomputable def dSame (ks ls:List (Key×D)):Bool:=decide (ks.length=ls.length)&&ks.all fun q=>match q.2.sc,(kA ls q.1).bind D.sc with
 | some v,some u=>decide (v=u)
 | _,_=>false
noncomputable def dEq (x y:D):Option Bool:=match x.sc,y.sc with
 | some v,some u=>if scal v u=true then some (decide (v=u)) else none
 | _,_=>match x,y with
  | .lst xs, .lst []=>some xs.isEmpty
  | .con xs, .lst []=>some xs.isEmpty
  | .dct ks, .dct ls=>if dSame ks ls=true then some true else none
  | .tup _, .str _=>some false
  | x,y=>match x.py,y.py with
   | some d,some e=>if SeqAt.shaped d=true∧SeqAt.shaped e=true then some (PyData.eqv d e) else none
   | _,_=>none
noncomputable def oEq (a b:Vl) (s:SD):R Vl:=match s.cont a,s.cont b with
 | some x,some y=>match dEq x y with
  | some r=> .ok (.d (.bl r)) s
  | none=> .bad
 | _,_=> .bad
noncomputable def oNe (a b:Vl) (s:SD):R Vl:=match s.cont a,s.cont b with
 | some (.dct ks),some (.dct [])=> .ok (.d (.bl (!ks.isEmpty))) s
 | some x,some y=>match dEq x y with
  | some r=> .ok (.d (.bl (!r))) s
  | none=> .bad
 | _,_=> .bad
def iy (neg:Bool) (a b:Vl) (s:SD):R Vl:=match b with
 | .d .non=>match a with
  | .d .non=> .ok (.d (.bl (!neg))) s
  | .d _=> .ok (.d (.bl neg)) s
  | a=>match s.cont a with
   | some x=>if x.box=true then .ok (.d (.bl neg)) s else .bad
   | none=> .bad
 | _=> .bad
noncomputable def dIn (x y:D):Option Bool:=match y with
 | .lst ys=>match x.sc,scs ys with
  | some v,some vs=>some (inV v vs)
  | _,_=>none
 | .con ys=>match x.sc,scs ys with
  | some v,some vs=>some (inV v vs)
  | _,_=>none
 | .tup ys=>match x.sc,scs ys with
  | some v,some vs=>some (inV v vs)
  | _,_=>none
 | .str z=>match x with
  | .str w=>match w.cps.toList with
   | [c]=>some (decide (c∈z.cps.toList))
   | _=>some (!(Builtin.Str.occurrences z w 0 z.length 1).isEmpty)
  | _=>none
 | .dct ks=>match x.key with
  | some k=>some (kA ks k).isSome
  | none=>none
 | _=>none
noncomputable def oIn (neg:Bool) (a b:Vl) (s:SD):R Vl:=match s.cont a,s.cont b with
 | some x,some y=>match dIn x y with
  | some r=> .ok (.d (.bl (if neg then !r else r))) s
  | none=> .bad
 | _,_=> .bad
noncomputable def dIx (x y:D):Option D:=match x,y with
 | .lst xs, .int i=>atI xs i
 | .con xs, .int i=>atI xs i
 | .tup xs, .int i=>atI xs i
 | .str z, .int i=>if z.length≤sizeLine then (atI z.cps.toList i).map fun c=> .str ⟨#[c]⟩ else none
 | .dct ks,y=>match y.key with
  | some k=>kA ks k
  | none=>none
 | _,_=>none
noncomputable def oIx (a b:Vl) (s:SD):R Vl:=match s.cont a,s.cont b with
 | some x,some y=>match dIx x y with
  | some r=> .ok (.d r) s
  | none=> .bad
 | _,_=> .bad
noncomputable def bf (a:Vl) (s:SD):R Vl:=match s.cont a with
 | some (.lst xs)=> .ok (.d (.int xs.length)) s
 | some (.con xs)=> .ok (.d (.int xs.length)) s
 | some (.tup xs)=> .ok (.d (.int xs.length)) s
 | some (.str z)=>if z.length≤sizeLine then .ok (.d (.int z.length)) s else .bad
 | some (.dct ks)=> .ok (.d (.int ks.length)) s
 | _=> .bad
section
variable {G:Gc} {p:Wr} {v u:V} {x:D} {H:Hp}
theorem cf (h:Rep G p x v) (e:x.sc=some u):v=u:=by
 cases x with
 | non=>cases e; exact h
 | bl b=>cases e; exact h
 | int i=>cases e; exact h
 | str z=>cases e; exact h
 | _=>cases e
theorem fU (e:x.sc=some u):x.box=false:=by cases x<;> first | rfl | cases e
theorem fM (e:x.sc=some u):flatV u=true:=by cases x<;> cases e<;> rfl
theorem eD:∀{ds:List D} {vs us:List V},Reps G p ds vs→scs ds=some us→vs=us
 | [],vs,us,h,e=>by cases e; exact h
 | d::ds,vs,us,h,e=>by
  obtain ⟨v,r,rfl,h1,h2⟩:=h
  unfold scs at e
  split at e
  ·rename_i u ws e1 e2
   cases e
   rw [cf h1 e1,eD h2 e2]
  ·cases e
theorem dU:∀{ds:List D} {us:List V},scs ds=some us→us.all flatV=true
 | [],us,e=>by cases e; rfl
 | d::ds,us,e=>by
  unfold scs at e
  split at e
  ·rename_i u ws e1 e2
   cases e
   rw [List.all_cons,fM e1,dU e2]
   rfl
  ·cases e
theorem jb {k:Key} (h:Rep G p x v) (e:x.key=some k):v=kV k:=by
 cases x with
 | int i=>cases e; exact h
 | str z=>cases e; exact h
 | _=>cases e
theorem rM {k:Key} (e:x.key=some k):x.box=false:=by cases x<;> first | rfl | cases e
mutual
theorem gK:∀{x:D} {v:V} {d:PyData},Rep G p x v→x.py=some d→Dp G.K p.H v d
 | .non,v,d,h,e=>by cases e; rw [show v= .non from h]; exact .non
 | .bl b,v,d,h,e=>by cases e; rw [show v= .bl b from h]; exact .bl b
 | .int b,v,d,h,e=>by cases e; rw [show v= .int b from h]; exact .int b
 | .str b,v,d,h,e=>by cases e; rw [show v= .str b from h]; exact .str b
 | .lst ds,v,d,h,e=>by
  obtain ⟨a,vs,rfl,⟨_,hh⟩,r⟩:=h
  unfold D.py at e
  split at e
  ·rename_i xs e1
   cases e
   exact .lst (.of hh) (eJ r e1)
  ·cases e
 | .tup ds,v,d,h,e=>by
  obtain ⟨a,vs,rfl,⟨_,hh⟩,r⟩:=h
  unfold D.py at e
  split at e
  ·rename_i xs e1
   cases e
   exact .tup (.of hh) (eJ r e1)
  ·cases e
 | .con _,_,_,_,e=>by cases e
 | .dct _,_,_,_,e=>by cases e
 | .obj _ _,_,_,_,e=>by cases e
 | .exc _ _,_,_,_,e=>by cases e
 | .cell _,_,_,_,e=>by cases e
theorem eJ:∀{ds:List D} {vs:List V} {xs:List PyData},Reps G p ds vs→D.pys ds=some xs→DpAll G.K p.H vs xs
 | [],vs,xs,h,e=>by cases e; rw [show vs= [] from h]; exact .nil
 | d::ds,vs,xs,h,e=>by
  obtain ⟨v,r,rfl,h1,h2⟩:=h
  unfold D.pys at e
  split at e
  ·rename_i u ws e1 e2
   cases e
   exact .cons (gK h1 e1) (eJ h2 e2)
  ·cases e
end
theorem bW {d:PyData} (h:Cont G p x v) (e:x.py=some d):Dp G.K p.H v d:=by
 cases x with
 | lst ds=>
  obtain ⟨b,vs,rfl,hb,r⟩:=h.lst
  unfold D.py at e
  split at e
  ·rename_i xs e1
   cases e
   exact .lst (.of hb) (eJ r e1)
  ·cases e
 | tup ds=>
  obtain ⟨b,vs,rfl,hb,r⟩:=h.tup
  unfold D.py at e
  split at e
  ·rename_i xs e1
   cases e
   exact .tup (.of hb) (eJ r e1)
  ·cases e
 | non=>exact gK (h.sc rfl) e
 | bl b=>exact gK (h.sc rfl) e
 | int b=>exact gK (h.sc rfl) e
 | str b=>exact gK (h.sc rfl) e
 | con ds=>cases e
 | dct ds=>cases e
 | obj c ds=>cases e
 | exc c fs=>cases e
 | cell i=>cases e
theorem uR {v:V} (e:x.sc=some v):flatB v=true:=by cases x<;> cases e<;> rfl
theorem gX:∀{ks ls:List (Key×D)} {vs us:List (Key×V)},RepK G p ks vs→RepK G p ls us→(ks.all fun q=>match q.2.sc,(kA ls q.1).bind D.sc with | some v,some u=>decide (v=u) | _,_=>false)=true→
  ∀q∈vs,valV us q.1=some q.2∧flatB q.2=true
 | [],_,vs,_,h,_,_,q,hq=>by rw [show vs= [] from h] at hq; cases hq
 | (k,d)::ks,ls,vs,us,h,h',e,q,hq=>by
  obtain ⟨v,r,rfl,h1,h2⟩:=h
  rw [List.all_cons,Bool.and_eq_true] at e
  rcases List.mem_cons.mp hq with rfl | hq
  ·have e1:=e.1
   split at e1
   ·rename_i v1 u1 s1 s2
    have e1:=of_decide_eq_true e1
    subst e1
    obtain ⟨d',g1,g2⟩:=Option.bind_eq_some_iff.mp s2
    obtain ⟨v',g3,g4⟩:=(h'.val (k:=k)).1 d' g1
    have a1:=cf h1 s1
    have a2:=cf g4 g2
    subst a1 a2
    exact ⟨g3,uR s1⟩
   ·cases e1
  ·exact gX h2 h' e.2 q hq
theorem kE {ks ls:List (Key×D)} (h:dSame ks ls=true):ks.length=ls.length∧(ks.all fun q=>match q.2.sc,(kA ls q.1).bind D.sc with | some v,some u=>decide (v=u) | _,_=>false)=true:=by
 unfold dSame at h
 rw [Bool.and_eq_true] at h
 exact ⟨of_decide_eq_true h.1,h.2⟩
theorem dEq_eq {r:Bool} (hx:Cont G p x v) (hy:Cont G p y u) (e:dEq x y=some r) (q:Q (.bl r) p.H):rEqZ G.K v u p.H Q:=by
 unfold dEq at e
 split at e
 ·rename_i v' u' e1 e2
  split at e
  ·rename_i hs
   cases e
   have h1:=cf (hx.sc (fU e1)) e1
   have h2:=cf (hy.sc (fU e2)) e2
   subst h1 h2
   exact .inl ⟨hs,q⟩
  ·cases e
 ·split at e
  ·cases e
   obtain ⟨b,vs,rfl,hb,r⟩:=hx.lst
   obtain ⟨b',vs',rfl,hb',r'⟩:=hy.lst
   obtain rfl:vs' = []:=r'
   exact .inr (.inl ⟨b,b',vs,rfl,rfl, .of hb, .of hb',by rw [r.empty]; exact q⟩)
  ·cases e
   obtain ⟨b,vs,rfl,hb,r⟩:=hx.con
   obtain ⟨b',vs',rfl,hb',r'⟩:=hy.lst
   obtain rfl:vs' = []:=r'
   exact .inr (.inl ⟨b,b',vs,rfl,rfl,hb, .of hb',by rw [r.empty]; exact q⟩)
  ·split at e
   ·rename_i hs
    cases e
    obtain ⟨b,vs,rfl,hb,r⟩:=hx.dct
    obtain ⟨b',vs',rfl,hb',r'⟩:=hy.dct
    obtain ⟨l1,l2⟩:=kE hs
    exact .inr (.inr (.inr (.inl ⟨b,b',vs,vs',rfl,rfl,hb,hb',by rw [r.len,r'.len]; exact l1,gX r r' l2,q⟩)))
   ·cases e
  ·cases e
   obtain ⟨b,vs,rfl,hb,r⟩:=hx.tup
   obtain rfl:=hy.str
   exact .inr (.inr (.inr (.inr ⟨b,_,vs,rfl,rfl, .of hb,q⟩)))
  ·split at e
   ·rename_i d e' e1 e2
    split at e
    ·rename_i hs
     cases e
     exact .inr (.inr (.inl ⟨d,e',bW hx e1,bW hy e2,hs.1,hs.2,q⟩))
    ·cases e
   ·cases e
theorem dEq_ne {r:Bool} (hx:Cont G p x v) (hy:Cont G p y u) (e:dEq x y=some r) (q:Q (.bl (!r)) p.H):rNeZ G.K v u p.H Q:=by
 unfold dEq at e
 split at e
 ·rename_i v' u' e1 e2
  split at e
  ·rename_i hs
   cases e
   have h1:=cf (hx.sc (fU e1)) e1
   have h2:=cf (hy.sc (fU e2)) e2
   subst h1 h2
   exact .inl ⟨hs,q⟩
  ·cases e
 ·split at e
  ·cases e
   obtain ⟨b,vs,rfl,hb,r⟩:=hx.lst
   obtain ⟨b',vs',rfl,hb',r'⟩:=hy.lst
   obtain rfl:vs' = []:=r'
   exact .inr (.inl ⟨b,b',vs,rfl,rfl, .of hb, .of hb',by rw [r.empty]; exact q⟩)
  ·cases e
   obtain ⟨b,vs,rfl,hb,r⟩:=hx.con
   obtain ⟨b',vs',rfl,hb',r'⟩:=hy.lst
   obtain rfl:vs' = []:=r'
   exact .inr (.inl ⟨b,b',vs,rfl,rfl,hb, .of hb',by rw [r.empty]; exact q⟩)
  ·split at e
   ·rename_i hs
    cases e
    obtain ⟨b,vs,rfl,hb,r⟩:=hx.dct
    obtain ⟨b',vs',rfl,hb',r'⟩:=hy.dct
    obtain ⟨l1,l2⟩:=kE hs
    exact .inr (.inr (.inr (.inr (.inl ⟨b,b',vs,vs',rfl,rfl,hb,hb',by rw [r.len,r'.len]; exact l1,gX r r' l2,q⟩))))
   ·cases e
  ·cases e
   obtain ⟨b,vs,rfl,hb,r⟩:=hx.tup
   obtain rfl:=hy.str
   exact .inr (.inr (.inr (.inr (.inr ⟨b,_,vs,rfl,rfl, .of hb,q⟩))))
  ·split at e
   ·rename_i d e' e1 e2
    split at e
    ·rename_i hs
     cases e
     exact .inr (.inr (.inl ⟨d,e',bW hx e1,bW hy e2,hs.1,hs.2,q⟩))
    ·cases e
   ·cases e
theorem dIn_in {r neg:Bool} (hx:Cont G p x v) (hy:Cont G p y u) (e:dIn x y=some r) (q:Q (.bl (if neg then !r else r)) p.H):rInZ G.K neg v u p.H Q:=by
 unfold dIn at e
 split at e
 ·split at e
  ·rename_i v' vs' e1 e2
   cases e
   obtain ⟨b,vs,rfl,hb,r⟩:=hy.lst
   have h1:=cf (hx.sc (fU e1)) e1
   have h2:=eD r e2
   subst h1 h2
   exact .inl ⟨b,_,rfl, .inl (.of hb),fM e1,dU e2,q⟩
  ·cases e
 ·split at e
  ·rename_i v' vs' e1 e2
   cases e
   obtain ⟨b,vs,rfl,hb,r⟩:=hy.con
   have h1:=cf (hx.sc (fU e1)) e1
   have h2:=eD r e2
   subst h1 h2
   exact .inl ⟨b,_,rfl, .inl hb,fM e1,dU e2,q⟩
  ·cases e
 ·split at e
  ·rename_i v' vs' e1 e2
   cases e
   obtain ⟨b,vs,rfl,hb,r⟩:=hy.tup
   have h1:=cf (hx.sc (fU e1)) e1
   have h2:=eD r e2
   subst h1 h2
   exact .inl ⟨b,_,rfl, .inr (.of hb),fM e1,dU e2,q⟩
  ·cases e
 ·obtain rfl:=hy.str
  split at e
  ·obtain rfl:=hx.str
   split at e
   ·rename_i w _ c hc
    cases e
    have hw:w=⟨#[c]⟩:=by
     cases w with
     | mk cps=>
      congr 1
      exact Array.toList_inj.mp hc
    subst hw
    exact .inr (.inl ⟨c,_,rfl,rfl,q⟩)
   ·cases e
    exact .inr (.inr (.inl ⟨_,_,rfl,rfl,by cases neg<;> exact q⟩))
  ·cases e
 ·rename_i ks
  split at e
  ·rename_i k e1
   cases e
   obtain ⟨b,vs,rfl,hb,r⟩:=hy.dct
   have h1:=jb (hx.sc (rM e1)) e1
   subst h1
   have e3:(valV vs k).isSome=(kA ks k).isSome:=by
    cases q:kA ks k with
    | none=>rw [r.val.2 q]; rfl
    | some d=>obtain ⟨v,e,_⟩:=r.val.1 d q; rw [e]; rfl
   exact .inr (.inr (.inr ⟨b,valV vs k,rfl, .inl ⟨vs,k,hb,rfl,rfl⟩,by rw [e3]; exact q⟩))
  ·cases e
 ·cases e
theorem gu {ds:List D} {vs:List V} {i:Int} {d:D} (r:Reps G p ds vs) (e:atI ds i=some d):∃v,atI vs i=some v∧Rep G p d v:=by
 unfold atI at e ⊢
 rw [r.len]
 cases q:ixN ds.length i with
 | none=>rw [q] at e; cases e
 | some j=>
  rw [q] at e
  exact r.get (i:=j) e
theorem dIx_ix {d:D} (hx:Cont G p x v) (hy:Cont G p y u) (e:dIx x y=some d):∃z,Rep G p d z∧(∀Q:VK,Q z p.H→rIxZ G.K v u p.H Q):=by
 unfold dIx at e
 split at e
 ·obtain ⟨b,vs,rfl,hb,r⟩:=hx.lst
  obtain rfl:=hy.int
  obtain ⟨z,e1,rz⟩:=gu r e
  exact ⟨z,rz,fun Q q=> .inl ⟨b,vs,_,z,rfl,rfl, .of hb,e1,q⟩⟩
 ·obtain ⟨b,vs,rfl,hb,r⟩:=hx.con
  obtain rfl:=hy.int
  obtain ⟨z,e1,rz⟩:=gu r e
  exact ⟨z,rz,fun Q q=> .inl ⟨b,vs,_,z,rfl,rfl,hb,e1,q⟩⟩
 ·obtain ⟨b,vs,rfl,hb,r⟩:=hx.tup
  obtain rfl:=hy.int
  obtain ⟨z,e1,rz⟩:=gu r e
  exact ⟨z,rz,fun Q q=> .inr (.inl ⟨b,vs,_,z,rfl,rfl, .of hb,e1,q⟩)⟩
 ·obtain rfl:=hx.str
  obtain rfl:=hy.int
  split at e
  ·rename_i hz
   obtain ⟨c,e1,rfl⟩:=Option.map_eq_some_iff.mp e
   exact ⟨.str ⟨#[c]⟩,rfl,fun Q q=> .inr (.inr (.inl ⟨_,_,c,rfl,rfl,hz,e1,q⟩))⟩
  ·cases e
 ·obtain ⟨b,vs,rfl,hb,r⟩:=hx.dct
  split at e
  ·rename_i k e1
   have h1:=jb (hy.sc (rM e1)) e1
   subst h1
   obtain ⟨z,e2,rz⟩:=r.val.1 d e
   exact ⟨z,rz,fun Q q=> .inr (.inr (.inr ⟨b,z,rfl, .inl ⟨vs,k,hb,rfl,e2.symm⟩,q⟩))⟩
  ·cases e
 ·cases e
end
section
variable {G:Gc}
theorem p_add:bN G (rAddZ G.K) bU:=by
 intro E σ τ s θ p v u a b Q hl h hw
 obtain ⟨h0,ca,cb⟩:=cJ hl h
 unfold bU at hw
 split at hw
 ·rename_i e1 e2
  obtain rfl:=(ca _ e1).int
  obtain rfl:=(cb _ e2).int
  exact .inl ⟨_,_,rfl,rfl,aR h0 hl hw rfl⟩
 ·rename_i e1 e2
  obtain rfl:=(ca _ e1).str
  obtain rfl:=(cb _ e2).str
  split at hw
  ·rename_i hz
   exact .inr (.inl ⟨_,_,rfl,rfl,hz,aR h0 hl hw rfl⟩)
  ·exact hw.elim
 ·rename_i e1 e2
  obtain ⟨a1,vs,rfl,ha,r⟩:=(ca _ e1).lst
  obtain ⟨a2,us,rfl,hb,r'⟩:=(cb _ e2).lst
  split at hw
  ·rename_i hz
   exact .inr (.inr (.inl ⟨a1,a2,vs,us,rfl,rfl,ha,hb,by rw [r.len,r'.len]; exact hz,fun q hq=>bM h0 hl hw hq (r.append r')⟩))
  ·exact hw.elim
 ·rename_i e1 e2
  obtain ⟨a1,vs,rfl,ha,r⟩:=(ca _ e1).tup
  obtain ⟨a2,us,rfl,hb,r'⟩:=(cb _ e2).tup
  split at hw
  ·rename_i hz
   refine .inr (.inr (.inr (t_catA (.of ha) (.of hb) (fun z=>hz.1 ?_) (fun z=>hz.2.1 ?_) (by rw [r.len,r'.len]; exact hz.2.2) fun q hq=>lE h0 hl hw hq (r.append r'))))
   ·exact List.eq_nil_of_length_eq_zero (by rw [←r.len,z]; rfl)
   ·exact List.eq_nil_of_length_eq_zero (by rw [←r'.len,z]; rfl)
  ·exact hw.elim
 ·exact hw.elim
theorem p_sub:bN G (rI0 fun i j=> .int (i - j)) uu:=by
 intro E σ τ s θ p v u a b Q hl h hw
 obtain ⟨h0,ca,cb⟩:=cJ hl h
 unfold uu at hw
 split at hw
 ·rename_i e1 e2
  obtain rfl:=(ca _ e1).int
  obtain rfl:=(cb _ e2).int
  exact ⟨_,_,rfl,rfl,aR h0 hl hw rfl⟩
 ·exact hw.elim
theorem mB {p:Wr} {ds:List D} {vs:List V} (r:Reps G p ds vs):∀n:Nat,Reps G p (List.replicate n ds).flatten (List.replicate n vs).flatten
 | 0=>rfl
 | n+1=>by
  rw [List.replicate_succ,List.replicate_succ,List.flatten_cons,List.flatten_cons]
  exact r.append (mB r n)
theorem p_mul:bN G rMulZ iX:=by
 intro E σ τ s θ p v u a b Q hl h hw
 obtain ⟨h0,ca,cb⟩:=cJ hl h
 unfold iX at hw
 split at hw
 ·rename_i e1 e2
  obtain rfl:=(ca _ e1).int
  obtain rfl:=(cb _ e2).int
  split at hw
  ·rename_i hz
   exact .inl ⟨_,_,rfl,rfl,hz,aR h0 hl hw rfl⟩
  ·exact hw.elim
 ·rename_i e1 e2
  obtain ⟨a1,vs,rfl,ha,r⟩:=(ca _ e1).lst
  obtain rfl:=(cb _ e2).int
  split at hw
  ·rename_i hz
   refine .inr (.inl ⟨a1,_,vs,rfl,rfl,ha,hz.1,hz.2.1,by rw [r.len]; exact hz.2.2,fun q hq=>bM h0 hl hw hq ?_⟩)
   exact mB r _
  ·exact hw.elim
 ·rename_i e1 e2
  obtain rfl:=(ca _ e1).str
  obtain rfl:=(cb _ e2).int
  split at hw
  ·rename_i hz
   exact .inr (.inr ⟨_,_,rfl,rfl,hz,aR h0 hl hw rfl⟩)
  ·exact hw.elim
 ·exact hw.elim
theorem p_mod:bN G (rI (fun _ j=>0<j) fun i j=> .int (i%j)) dq:=by
 intro E σ τ s θ p v u a b Q hl h hw
 obtain ⟨h0,ca,cb⟩:=cJ hl h
 unfold dq at hw
 split at hw
 ·rename_i e1 e2
  obtain rfl:=(ca _ e1).int
  obtain rfl:=(cb _ e2).int
  split at hw
  ·rename_i hz
   exact ⟨_,_,rfl,rfl,hz,aR h0 hl hw rfl⟩
  ·exact hw.elim
 ·exact hw.elim
theorem p_div:bN G (rI CDivW fun i j=> .int (i / j)) eR:=by
 intro E σ τ s θ p v u a b Q hl h hw
 obtain ⟨h0,ca,cb⟩:=cJ hl h
 unfold eR at hw
 split at hw
 ·rename_i e1 e2
  obtain rfl:=(ca _ e1).int
  obtain rfl:=(cb _ e2).int
  split at hw
  ·rename_i hz
   exact ⟨_,_,rfl,rfl,hz,aR h0 hl hw rfl⟩
  ·exact hw.elim
 ·exact hw.elim
theorem p_xor:bN G (rI0 fun i j=> .int (Builtin.bitXor i j)) oXor:=by
 intro E σ τ s θ p v u a b Q hl h hw
 obtain ⟨h0,ca,cb⟩:=cJ hl h
 unfold oXor at hw
 split at hw
 ·rename_i e1 e2
  obtain rfl:=(ca _ e1).int
  obtain rfl:=(cb _ e2).int
  exact ⟨_,_,rfl,rfl,aR h0 hl hw rfl⟩
 ·exact hw.elim
theorem p_cmp {f:Int→Int→Bool}:bN G (rI0 fun i j=> .bl (f i j)) (ux f):=by
 intro E σ τ s θ p v u a b Q hl h hw
 obtain ⟨h0,ca,cb⟩:=cJ hl h
 unfold ux at hw
 split at hw
 ·rename_i e1 e2
  obtain rfl:=(ca _ e1).int
  obtain rfl:=(cb _ e2).int
  exact ⟨_,_,rfl,rfl,aR h0 hl hw rfl⟩
 ·exact hw.elim
theorem p_eq:bN G (rEqZ G.K) oEq:=by
 intro E σ τ s θ p v u a b Q hl h hw
 obtain ⟨h0,ca,cb⟩:=cJ hl h
 unfold oEq at hw
 split at hw
 ·rename_i e1 e2
  split at hw
  ·rename_i e3
   exact dEq_eq (ca _ e1) (cb _ e2) e3 (aR h0 hl hw rfl)
  ·exact hw.elim
 ·exact hw.elim
theorem p_ne:bN G (rNeZ G.K) oNe:=by
 intro E σ τ s θ p v u a b Q hl h hw
 obtain ⟨h0,ca,cb⟩:=cJ hl h
 unfold oNe at hw
 split at hw
 ·rename_i ks e1 e2
  obtain ⟨a1,vs,rfl,ha,r⟩:=(ca _ e1).dct
  obtain ⟨a2,us,rfl,hb,r'⟩:=(cb _ e2).dct
  obtain rfl:us= []:=r'
  have e3:vs.isEmpty=ks.isEmpty:=by
   have:=r.len
   cases vs with
   | nil=>cases ks with
    | nil=>rfl
    | cons _ _=>simp at this
   | cons _ _=>cases ks with
    | nil=>simp at this
    | cons _ _=>rfl
  exact .inr (.inr (.inr (.inl ⟨a1,a2,vs,rfl,rfl,ha,hb,by rw [e3]; exact aR h0 hl hw rfl⟩)))
 ·rename_i e1 e2
  split at hw
  ·rename_i e3
   exact dEq_ne (ca _ e1) (cb _ e2) e3 (aR h0 hl hw rfl)
  ·exact hw.elim
 ·exact hw.elim
theorem p_in {neg:Bool}:bN G (rInZ G.K neg) (oIn neg):=by
 intro E σ τ s θ p v u a b Q hl h hw
 obtain ⟨h0,ca,cb⟩:=cJ hl h
 unfold oIn at hw
 split at hw
 ·rename_i e1 e2
  split at hw
  ·rename_i e3
   exact dIn_in (ca _ e1) (cb _ e2) e3 (aR h0 hl hw rfl)
  ·exact hw.elim
 ·exact hw.elim
theorem p_ix:bN G (rIxZ G.K) oIx:=by
 intro E σ τ s θ p v u a b Q hl h hw
 obtain ⟨h0,ca,cb⟩:=cJ hl h
 unfold oIx at hw
 split at hw
 ·rename_i e1 e2
  split at hw
  ·rename_i e3
   obtain ⟨z,r,k⟩:=dIx_ix (ca _ e1) (cb _ e2) e3
   exact k Q (aR h0 hl hw r)
  ·exact hw.elim
 ·exact hw.elim
theorem non_iff {x:D} {p:Wr} {v:V} (h:Rep G p x v):v= .non↔x= .non:=by
 cases x with
 | non=>exact ⟨fun _=>rfl,fun _=>h⟩
 | bl _=>obtain rfl:=h; exact ⟨fun z=>(nomatch z),fun z=>(nomatch z)⟩
 | int _=>obtain rfl:=h; exact ⟨fun z=>(nomatch z),fun z=>(nomatch z)⟩
 | str _=>obtain rfl:=h; exact ⟨fun z=>(nomatch z),fun z=>(nomatch z)⟩
 | cell _=>obtain ⟨_,rfl⟩:=h; exact ⟨fun z=>(nomatch z),fun z=>(nomatch z)⟩
 | lst _=>obtain ⟨_,_,rfl,_⟩:=h; exact ⟨fun z=>(nomatch z),fun z=>(nomatch z)⟩
 | con _=>obtain ⟨_,_,rfl,_⟩:=h; exact ⟨fun z=>(nomatch z),fun z=>(nomatch z)⟩
 | tup _=>obtain ⟨_,_,rfl,_⟩:=h; exact ⟨fun z=>(nomatch z),fun z=>(nomatch z)⟩
 | dct _=>obtain ⟨_,_,rfl,_⟩:=h; exact ⟨fun z=>(nomatch z),fun z=>(nomatch z)⟩
 | exc _ _=>obtain ⟨_,_,_,rfl,_⟩:=h; exact ⟨fun z=>(nomatch z),fun z=>(nomatch z)⟩
 | obj _ _=>obtain ⟨_,_,_,_,rfl,_⟩:=h; exact ⟨fun z=>(nomatch z),fun z=>(nomatch z)⟩
def rIsZ (neg:Bool):R2:=fun x y H Q=>y= .non∧Q (.bl (if neg then !decide (x= .non) else decide (x= .non))) H
theorem op_isZ {X:Cx}:OpR X (compareOp .Is) (rIsZ false):=o_isN
theorem dE {X:Cx}:OpR X (compareOp .IsNot) (rIsZ true):=o_notN
theorem p_isN {neg:Bool}:bN G (rIsZ neg) (iy neg):=by
 intro E σ τ s θ p v u a b Q hl h hw
 have h1:=h.pop1 (by simp; omega)
 obtain ⟨h0,c,r⟩:=bL hl h1
 unfold iy at hw
 split at hw
 ·obtain ⟨u',e1,r'⟩:=h.ent _ _ af
  have ll:=az h.len
  rw [←ll,af] at e1
  cases e1
  obtain rfl:u= .non:=r'
  refine ⟨rfl, ?_⟩
  split at hw
  ·have e:v= .non:=r
   rw [decide_eq_true e]
   cases neg<;> exact aR h0 hl hw rfl
  ·rename_i x hx
   have e:¬v= .non:=fun z=>hx ((non_iff (show Rep G p x v from r)).mp z)
   rw [decide_eq_false e]
   cases neg<;> exact aR h0 hl hw rfl
  ·split at hw
   ·rename_i x e1
    split at hw
    ·rename_i hb
     rcases c x e1 with ⟨_,b,rfl,_⟩ | ⟨q,_⟩
     ·cases neg<;> exact aR h0 hl hw rfl
     ·rw [hb] at q; cases q
    ·exact hw.elim
   ·exact hw.elim
 ·exact hw.elim
end
section
variable {G:Gc} {W:WX} {E:En} {σ σ' :L2.St} {τ τ' :List V} {H:Hp} {s s' :SD} {θ θ' :List Vl} {v u:V} {a b:Vl} {x y:D} {p:Wr} {Q:VK} {m:Nat} {w:List (Option V)} {ŵ:List (Option Vl)} {S:Sto} {k:Nat}
theorem Sm.mid {A B C:List (Option V)} {A' B' C' :List (Option Vl)} (h:Sm G E m p ((A++B)++C) ((A' ++B')++C') S) (hA:A.length=A'.length) (hB:B.length=B'.length) (hm:m≤A.length):Sm G E m p (A++C) (A' ++C') S:=by
 have hC:C.length=C'.length:=by have:=h.len; simp at this; omega
 have fl:∀{α:Type} {A B C:List α} {k:Nat},k<A.length→((A++B)++C)[k]? =(A++C)[k]? :=fun {α A B C k} hk=>by rw [List.append_assoc,List.getElem?_append_left hk,List.getElem?_append_left hk]
 have fr:∀{α:Type} {A B C:List α} {k:Nat},¬k<A.length→((A++B)++C)[k+B.length]? =(A++C)[k]? :=fun {α A B C k} hk=>by
  rw [List.getElem?_append_right (by simp; omega),List.getElem?_append_right (by omega)]
  congr 1
  simp
  omega
 refine h.pick (fun k=>if k<A.length then k else k+B.length) (by simp [hA,hC]) (fun k e q=>?_) (fun j k y z _ _ e=>?_) fun k hk=>?_
 ·by_cases c:k<A.length
  ·rw [if_pos c]
   exact ⟨(fl (by omega)).trans q,(fl c).symm,id⟩
  ·rw [if_neg c]
   refine ⟨?_,(fr c).symm,fun _=>by omega⟩
   rw [hB]
   exact (fr (by omega)).trans q
 ·split at e<;> split at e<;> omega
 ·exact (fl (by omega)).symm
theorem Rel.dropMid (h:Rel G E σ ((τ++τ')++ [v]) H s ((θ++θ')++ [a])) (ht:τ.length=θ.length):Rel G E σ (τ++ [v]) H s (θ++ [a]):=by
 obtain ⟨p,e,hl,h⟩:=h
 have e1:σ++((τ++τ')++ [v]).map some=((σ++τ.map some)++τ'.map some)++ [some v]:=by simp
 have e2:s.sl++((θ++θ')++ [a]).map some=((s.sl++θ.map some)++θ'.map some)++ [some a]:=by simp
 rw [e1,e2] at h
 have len:=h.len
 simp at len
 exact .snoc (h.mid (by simp [hl,ht]) (by simp; omega) (bb hl)) hl e
theorem Rel.dropEnd (h:Rel G E σ (τ++τ') H s (θ++θ')) (ht:τ.length=θ.length):Rel G E σ τ H s θ:=by
 obtain ⟨p,e,hl,h⟩:=h
 rw [List.map_append,List.map_append,←List.append_assoc,←List.append_assoc] at h
 exact ⟨p,e,hl,h.pop (by simp [hl,ht]) (bb hl)⟩
theorem RelX.dropEnd {c:Str} {fs:List (Str×D)} {cls:Value} {d:Option Addr} (h:RelX G E σ (τ++τ') H s (θ++θ') c fs cls d) (ht:τ.length=θ.length):RelX G E σ τ H s θ c fs cls d:=by
 obtain ⟨p,e,hl,h,r⟩:=h
 rw [List.map_append,List.map_append,←List.append_assoc,←List.append_assoc] at h
 exact ⟨p,e,hl,h.pop (by simp [hl,ht]) (bb hl),r⟩
theorem XP.upEnd {c:Str} {fs:List (Str×D)} (h:XP G W E τ θ c fs s) (ht:τ.length=θ.length):XP G W E (τ++τ') (θ++θ') c fs s:=fun cls d σ' H' r=>h cls d σ' H' (r.dropEnd ht)
theorem uy (h:Sm G E s.sl.length p w (s.sl++θ.map some) S) (hn:Nl θ) {i j:Nat} (q:(s.sl++θ.map some)[i]? =some (some (.loc j))):False:=by
 by_cases c:i<s.sl.length
 ·obtain ⟨_,_,r⟩:=h.ent i _ q
  exact absurd r.1 (by omega)
 ·rw [List.getElem?_append_right (by omega),List.getElem?_map] at q
  obtain ⟨e,h1,h2⟩:=Option.map_eq_some_iff.mp q
  cases h2
  exact hn _ (List.mem_of_getElem? h1) j rfl
def Only (is:List Nat) (σ σ' :L2.St):Prop:=σ'.length=σ.length∧∀k:Nat,k∉is→σ'[k]? =σ[k]?
def RG (G:Gc) (W:WX) (is:List Nat) (g:TG) (fz:Vl→SD→R Unit):Prop:=∀(E:En) (σ:L2.St) (τ:List V) (H:Hp) (s:SD) (θ:List Vl) (v:V) (a:Vl) (Q:L2.St→Hp→Prop),Nl θ→Rel G E σ (τ++ [v]) H s (θ++ [a])→
 Wp (fz a s) (fun _ s' =>∀σ' H',Rel G E σ' τ H' s' θ→Only is σ σ'→Q σ' H') (XP G W E τ θ)→g v σ H Q
def zSt (i:Nat) (a:Vl) (s:SD):R Unit:=match a with
 | .d x=> .ok () {s with sl:=s.sl.set i (some (.d x))}
 | .own x=> .ok () {s with sl:=s.sl.set i (some (.own x))}
 | .loc k=>(s.fix (.loc k)).bind fun x s2=> .ok () {s2 with sl:=s2.sl.set i (some (.d x))}
theorem Rel.store {i:Nat} (h:Rel G E σ (τ++ [v]) H s (θ++ [a])) (hn:Nl θ) (ha:∀j,a≠ .loc j):Rel G E (σ.set i (some v)) τ H {s with sl:=s.sl.set i (some a)} θ:=by
 have hpop:=h.pop
 obtain ⟨p,e,hl,h⟩:=h.unsnoc
 by_cases c:i<s.sl.length
 ·have h0:=h.pop1 (bb hl)
  have q:=h.store (k:=i) c (bb hl) (az h.len) ha fun i' j' z=>(uy h0 hn z).elim
  rw [bj (by rw [hl]; exact c),bj c] at q
  refine ⟨p,e,by simp [hl], ?_⟩
  show Sm G E (s.sl.set i (some a)).length _ _ _ _
  rw [List.length_set]
  exact q
 ·rw [List.set_eq_of_length_le (by omega),List.set_eq_of_length_le (by omega)]
  exact hpop
theorem Only.set {i:Nat} {u:Option V}:Only [i] σ (σ.set i u):=⟨by simp,fun k hk=>List.getElem?_set_ne (fun z=>hk (by simp [z]))⟩
theorem RG.name {i:Nat}:RG G W [i] (gName i) (zSt i):=by
 intro E σ τ H s θ v a Q hn hR hw
 cases a with
 | d x=>exact hw _ _ (hR.store hn fun j q=>nomatch q) .set
 | own x=>exact hw _ _ (hR.store hn fun j q=>nomatch q) .set
 | loc k=>
  unfold zSt at hw
  dsimp only at hw
  rw [ae] at hw
  obtain ⟨p,rfl,hl,h⟩:=hR.unsnoc
  cases e:s.fix (.loc k) with
  | bad=>rw [e] at hw; exact hw.elim
  | ex c fs s2=>exact (nN _ _ _ _ _ e).elim
  | ok x s2=>
   rw [e] at hw
   obtain ⟨p',hp,hs,h'⟩:=sL E s _ x s2 p _ _ v e h (bb hl)
   have hR2:Rel G E σ (τ++ [v]) p.H s2 (θ++ [.d x]):=hp ▸ .snoc h' (hl.trans hs.symm) rfl
   exact hw _ _ (hR2.store hn fun j q=>nomatch q) .set
def bG:List Nat→List D→List (Option Vl)→List (Option Vl)
 | i::is,d::ds,l=>bG is ds (l.set i (some (.d d)))
 | _,_,l=>l
def nJ:List Nat→TGs
 | []=>gNil
 | i::is=>gCons (gName i) (nJ is)
theorem jX {i:Nat} {is:List Nat} {u:Option V} (o:Only is (σ.set i u) σ'):Only (i::is) σ σ' :=⟨o.1.trans (by simp),fun k hk=>by
 simp only [List.mem_cons,not_or] at hk
 rw [o.2 k hk.2,List.getElem?_set_ne (fun z=>hk.1 z.symm)]⟩
theorem mT {is:List Nat}:∀{ds:List D} {vs:List V} {σ:L2.St} {s:SD} {Q:L2.St→Hp→Prop},ds.length=is.length→Nl θ→σ.length=s.sl.length→Sm G E s.sl.length p (σ++τ.map some) (s.sl++θ.map some) s.st→Reps G p ds vs→
  (∀σ',Rel G E σ' τ p.H {s with sl:=bG is ds s.sl} θ→Only is σ σ'→Q σ' p.H)→nJ is vs σ p.H Q:=by
 induction is with
 | nil=>
  intro ds vs σ s Q hd hn hl h r q
  obtain rfl:ds= []:=List.eq_nil_of_length_eq_zero hd
  obtain rfl:vs= []:=r
  exact ⟨rfl,q σ ⟨p,rfl,hl,h⟩ ⟨rfl,fun _ _=>rfl⟩⟩
 | cons i is ih=>
  intro ds vs σ s Q hd hn hl h r q
  cases ds with
  | nil=>cases hd
  | cons d ds=>
   obtain ⟨v,vr,rfl,r1,r2⟩:=r
   refine ⟨v,vr,rfl, ?_⟩
   show nJ is vr (σ.set i (some v)) p.H Q
   have h1:=h.push r1
   by_cases c:i<s.sl.length
   ·have q1:=h1.store (k:=i) c (bb hl) h.len (fun j z=>nomatch z) fun i' j' z=>(uy h hn z).elim
    rw [bj (by rw [hl]; exact c),bj c] at q1
    refine ih (s:= {s with sl:=s.sl.set i (some (.d d))}) (by simpa using hd) hn (by simp [hl]) ?_ r2 fun σ' h' o=>q σ' h' (jX o)
    show Sm G E (s.sl.set i _).length _ _ _ _
    rw [List.length_set]
    exact q1
   ·have e1:σ.set i (some v)=σ:=List.set_eq_of_length_le (by omega)
    have e2:s.sl.set i (some (.d d))=s.sl:=List.set_eq_of_length_le (by omega)
    rw [e1]
    refine ih (s:=s) (by simpa using hd) hn hl h r2 fun σ' h' o=>q σ' ?_ (jX (by rw [e1]; exact o))
    unfold bG
    rw [e2]
    exact h'
def fT (is:List Nat) (a:Vl) (s:SD):R Unit:=match s.cont a with
 | some (.tup ds)=>if ds.length=is.length then .ok () {s with sl:=bG is ds s.sl} else .bad
 | _=> .bad
theorem RG.names {is:List Nat} {n:Nat} (hn:n=is.length):RG G W is (gTup G.K n (nJ is)) (fT is):=by
 intro E σ τ H s θ v a Q hN hR hw
 obtain ⟨p,rfl,hl,h⟩:=hR.unsnoc
 obtain ⟨h0,c,_⟩:=bL hl h
 unfold fT at hw
 split at hw
 ·rename_i ds e1
  split at hw
  ·rename_i e2
   obtain ⟨b,vs,rfl,hb,r⟩:=(c _ e1).tup
   exact ⟨b,vs,rfl, .of hb,by rw [r.len,e2,hn],mT e2 hN hl h0 r fun σ' h' o=>hw σ' _ h' o⟩
  ·exact hw.elim
 ·exact hw.elim
def aB (fa:SD→R Vl) (fz:Vl→SD→R Unit):SD→R Fl:=fun s=>(fa s).bind fun a s1=>(fz a s1).bind fun _ s2=> .ok .nx s2
theorem aad {is:List Nat} {te:TE} {g:TG} {fa:SD→R Vl} {fz:Vl→SD→R Unit} (ha:RE G W te fa) (hg:RG G W is g fz):RS G W (tAsg te g) (aB fa fz):=by
 intro E σ τ H s θ D hN hR hw
 unfold aB at hw
 rw [ae] at hw
 refine ha E σ τ H s θ _ hN hR (hw.mono (fun a s1 hw v H1 h1=>?_) fun _ _ _ h=>h)
 rw [ae] at hw
 exact hg E σ τ H1 s1 θ v a _ hN h1 (hw.mono (fun _ s2 hw σ' H' h' _=>hw σ' H' h') fun _ _ _ h=>h)
def ai (f g:SD→R Fl):SD→R Fl:=fun s=>(f s).bind fun fl s1=>match fl with
 | .nx=>g s1
 | .bk=> .ok .bk s1
 | .ct=> .ok .ct s1
 | .rt a=> .ok (.rt a) s1
theorem RS.seq {t u:TS} {f g:SD→R Fl} (ha:RS G W t f) (hb:RS G W u g):RS G W (tSeq t u) (ai f g):=by
 intro E σ τ H s θ D hN hR hw
 unfold ai at hw
 rw [ae] at hw
 refine ha E σ τ H s θ _ hN hR (hw.mono (fun fl s1 hw=>?_) fun _ _ _ h=>h)
 cases fl with
 | nx=>exact fun σ' H' h' =>hb E σ' τ H' s1 θ D hN h' hw
 | bk=>exact hw
 | ct=>exact hw
 | rt a=>exact hw
def aC:SD→R Fl:=fun s=> .ok .nx s
def zBreak:SD→R Fl:=fun s=> .ok .bk s
def zCont:SD→R Fl:=fun s=> .ok .ct s
theorem RS.next:RS G W tNext aC:=fun _ _ _ _ _ _ _ _ hR hw=>hw _ _ hR
theorem RS.brk:RS G W tBreak zBreak:=fun _ _ _ _ _ _ _ _ hR hw=>hw _ _ hR
theorem RS.cont:RS G W tCont zCont:=fun _ _ _ _ _ _ _ _ hR hw=>hw _ _ hR
def bJ (c:SD→R Bool) (f g:SD→R Fl):SD→R Fl:=fun s=>(c s).bind fun b s1=>if b=true then f s1 else g s1
theorem aae {c:TT} {t u:TS} {fc:SD→R Bool} {f g:SD→R Fl} (hc:RT G W c fc) (ha:RS G W t f) (hb:RS G W u g):RS G W (tIfS c t u) (bJ fc f g):=by
 intro E σ τ H s θ D hN hR hw
 unfold bJ at hw
 rw [ae] at hw
 refine hc E σ τ H s θ _ hN hR (hw.mono (fun b s1 hw H1 h1=>?_) fun _ _ _ h=>h)
 split
 ·rename_i c; rw [if_pos c] at hw; exact ha E σ τ H1 s1 θ D hN h1 hw
 ·rename_i c; rw [if_neg c] at hw; exact hb E σ τ H1 s1 θ D hN h1 hw
def SD.told (s:SD):Vl→R Vl
 | .d x=> .ok (.d x) s
 | .own x=> .ok (.own x) s
 | .loc k=>match s.sl[k]? with
  | some (some (.own x))=> .ok (.own x) {s with sl:=s.sl.set k none}
  | some (some (.d x))=> .ok (.d x) s
  | _=> .bad
def bc (fa:SD→R Vl):SD→R Fl:=fun s=>(fa s).bind fun a s1=>(s1.told a).bind fun b s2=> .ok (.rt b) s2
theorem Sm.move {i:Nat} (h:Sm G E m p (w++ [some v]) (ŵ++ [some (.loc i)]) S) (q:ŵ[i]? =some (some (.own x))) (hl:w.length=ŵ.length) (hm:m≤w.length) (hn:∀(k j:Nat),ŵ[k]? =some (some (.loc j))→False):
  Sm G E m p (w++ [some v]) (ŵ.set i none++ [some (.own x)]) S:=by
 obtain ⟨u,e1,r1,r2,r3⟩:=h.ent _ _ (af (l:=ŵ))
 rw [←hl,af] at e1; cases e1
 have hi:=ag q
 rw [List.getElem?_append_left (by omega)] at r3
 have q' :(ŵ++ [some (Vl.loc i)])[i]? =some (some (.own x)):=aF q
 have r3' :(w++ [some v])[i]? =some (some v):=aF r3
 refine h.pick (fun k=>if k=ŵ.length then i else k) (by simp [hl]) (fun k e q1=>?_) (fun j k y z h1 h2 e=>?_) fun k hk=>rfl
 ·rcases ar q1 with q1 | ⟨rfl,qq⟩
  ·rcases bT q1 with ⟨rfl,qq⟩ | ⟨c,q1⟩
   ·cases qq
   ·rw [if_neg (by have:=ag q1; omega)]
    exact ⟨aF q1,rfl,id⟩
  ·obtain rfl:=Option.some.inj qq
   simp only [List.length_set,if_true]
   exact ⟨q',by rw [←hl,af,r3'],fun z=>by omega⟩
 ·have ni:∀{j:Nat} {y:D},(ŵ.set i none++ [some (Vl.own x)])[j]? =some (some (.own y))→j≠i:=fun {j y} q1=>by
   rcases ar q1 with q1 | ⟨rfl,qq⟩
   ·rcases bT q1 with ⟨rfl,qq⟩ | ⟨c,q1⟩
    ·cases qq
    ·exact fun z=>c z.symm
   ·simp; omega
  have:=ni h1
  have:=ni h2
  split at e<;> split at e<;> omega
theorem told_ok {E:En} {s:SD} {a b:Vl} {s' :SD} {θ:List Vl} (c:s.told a= .ok b s') (hn:Nl θ) (hR:Rel G E σ (τ++ [v]) H s (θ++ [a])):Rel G E σ (τ++ [v]) H s' (θ++ [b])∧∀j,b≠ .loc j:=by
 cases a with
 | d x=>cases c; exact ⟨hR,fun j q=>nomatch q⟩
 | own x=>cases c; exact ⟨hR,fun j q=>nomatch q⟩
 | loc k=>
  unfold SD.told at c
  dsimp only at c
  obtain ⟨p,e,hl,h⟩:=hR.unsnoc
  have h0:=h.pop1 (bb hl)
  cases q1:s.sl[k]? with
  | none=>rw [q1] at c; cases c
  | some o=>
   cases o with
   | none=>rw [q1] at c; cases c
   | some z=>
    rw [q1] at c
    have hs:(s.sl++θ.map some)[k]? =some (some z):=by rw [List.getElem?_append_left (ag q1)]; exact q1
    cases z with
    | d y=>
     cases c
     obtain ⟨u,e1,r1,r2,r3⟩:=h.ent _ _ (af (l:=s.sl++θ.map some))
     rw [←az h.len,af] at e1; cases e1
     rw [List.getElem?_append_left (by simp; omega)] at r3
     obtain ⟨u,e2,r⟩:=h0.ent k _ hs
     rw [r3] at e2; cases e2
     exact ⟨.snoc (h0.push r) hl e,fun j q=>nomatch q⟩
    | own y=>
     cases c
     have q:=h.move hs (az h.len) (bb hl) fun k' j' z=>uy h0 hn z
     rw [bj (ag q1)] at q
     refine ⟨.snoc (s:= {s with sl:=s.sl.set k none}) ?_ (by simp [hl]) e,fun j q=>nomatch q⟩
     show Sm G E (s.sl.set k none).length _ _ _ _
     rw [List.length_set]
     exact q
    | loc j=>cases c
theorem told_nx:∀(s:SD) (a:Vl) c fs s',s.told a≠ .ex c fs s' :=by
 intro s a c fs s'
 cases a with
 | d x=>intro q; cases q
 | own x=>intro q; cases q
 | loc k=>
  unfold SD.told
  dsimp only
  split<;> intro q<;> cases q
theorem RS.ret {te:TE} {fa:SD→R Vl} (ha:RE G W te fa):RS G W (tRet te) (bc fa):=by
 intro E σ τ H s θ D hN hR hw
 unfold bc at hw
 rw [ae] at hw
 refine ha E σ τ H s θ _ hN hR (hw.mono (fun a s1 hw v H1 h1=>?_) fun _ _ _ h=>h)
 rw [ae] at hw
 cases e:s1.told a with
 | bad=>rw [e] at hw; exact hw.elim
 | ex c fs s2=>exact (told_nx _ _ _ _ _ e).elim
 | ok b s2=>
  rw [e] at hw
  obtain ⟨h2,_⟩:=told_ok e hN h1
  exact hw.2 _ _ _ h2
def zRetN:SD→R Fl:=fun s=> .ok (.rt (.d .non)) s
def aD (fa:SD→R Vl):SD→R Fl:=fun s=>(fa s).bind fun _ s1=> .ok .nx s1
theorem RS.drop {te:TE} {fa:SD→R Vl} (ha:RE G W te fa):RS G W (tDrop te) (aD fa):=by
 intro E σ τ H s θ D hN hR hw
 unfold aD at hw
 rw [ae] at hw
 exact ha E σ τ H s θ _ hN hR (hw.mono (fun a s1 hw v H1 h1=>hw _ _ h1.pop) fun _ _ _ h=>h)
def zPar (i j:Nat) (fr:SD→R (List D)):SD→R Fl:=fun s=>(fr s).bind fun ds s1=>match ds with
 | [x,y]=> .ok .nx {s1 with sl:=bG [i,j] [x,y] s1.sl}
 | _=> .bad
theorem RS.par {i j:Nat} {t:TA} {fr:SD→R (List D)} (ha:RA G W t fr):RS G W (tPar i j t) (zPar i j fr):=by
 intro E σ τ H s θ D hN hR hw
 unfold zPar at hw
 rw [ae] at hw
 refine ha E σ τ H s θ _ hN hR (hw.mono (fun ds s1 hw vs H1 h1=>?_) fun _ _ _ h=>h)
 split at hw
 ·obtain ⟨p,rfl,hl,h,r⟩:=h1.args hR.tlen
  have:=mT (is:= [i,j]) (Q:=fun σ' H' =>D.nx σ' H') rfl hN hl h r fun σ' h' _=>hw σ' _ h'
  obtain ⟨v,r1,rfl,w,r2,rfl,rfl,q⟩:=this
  exact ⟨v,w,rfl,q⟩
 ·exact hw.elim
end
structure Src where
 hs:List Vl
 ok:SD→Prop
 ds:List D
def Walk (G:Gc) (E:En) (J:It) (src:Src) (vs:List V):Prop:=∀(i:Nat) (σ:L2.St) (τ τ2:List V) (θ θ2:List Vl) (H:Hp) (s:SD),τ.length=θ.length→τ2.length=θ2.length→Rel G E σ (τ++vs++τ2) H s (θ++src.hs++θ2)→src.ok s→
 (∀d,src.ds[i]? =some d→J.go i H∧∀x H',J.yld i H x H'→Rel G E σ (τ++vs++τ2++ [x]) H' s (θ++src.hs++θ2++ [.d d]))∧(src.ds[i]? =none→J.stop i H)
def EnLe (G:Gc) (E E' :En):Prop:=∀(m:Nat) (p:Wr) (w:List (Option V)) (ŵ:List (Option Vl)) (S:Sto),Sm G E' m p w ŵ S→Sm G E m p w ŵ S
def RI (G:Gc) (W:WX) (wi:TI) (fi:SD→R Src):Prop:=∀(E:En) (σ:L2.St) (τ:List V) (H:Hp) (s:SD) (θ:List Vl) (Q:It→Hp→Prop),Nl θ→Rel G E σ τ H s θ→
 Wp (fi s) (fun src s' =>∀vs H' J E',EnLe G E E'→vs.length=src.hs.length→Rel G E' σ (τ++vs) H' s' (θ++src.hs)→Walk G E' J src vs→Q J H') (XP G W E τ θ)→wi σ H Q
section
variable {G:Gc} {W:WX} {E:En} {σ σ' :L2.St} {τ τ2:List V} {H:Hp} {s:SD} {θ θ2:List Vl} {v:V} {a b:Vl} {x y:D} {p:Wr} {Q:VK} {m:Nat} {k:Nat}
theorem Rel.at1 (h:Rel G E σ (τ++ [v]++τ2) H s (θ++ [a]++θ2)) (ht:τ.length=θ.length):∃p:Wr,p.H=H∧σ.length=s.sl.length∧Sm G E s.sl.length p (σ++(τ++ [v]++τ2).map some) (s.sl++(θ++ [a]++θ2).map some) s.st∧∀x,s.cont a=some x→Cont G p x v:=by
 obtain ⟨p,e,hl,h⟩:=h
 refine ⟨p,e,hl,h,fun x c=>?_⟩
 have e1:σ++(τ++ [v]++τ2).map some=(σ++τ.map some)++some v::τ2.map some:=by simp
 have e2:s.sl++(θ++ [a]++θ2).map some=(s.sl++θ.map some)++some a::θ2.map some:=by simp
 have hA:(σ++τ.map some).length=(s.sl++θ.map some).length:=by simp [hl,ht]
 refine h.cont rfl (k:=(s.sl++θ.map some).length) ?_ ?_ c
 ·rw [e2,List.getElem?_append_right (Nat.le_refl _)]; simp
 ·rw [e1,←hA,List.getElem?_append_right (Nat.le_refl _)]; simp
noncomputable def eS (fa:SD→R Vl):SD→R Src:=fun s=>(fa s).bind fun a s1=>match s1.cont a with
 | some (.lst ds)=> .ok ⟨[a],fun s=>s.cont a=some (.lst ds),ds⟩ s1
 | some (.con ds)=> .ok ⟨[a],fun s=>s.cont a=some (.con ds),ds⟩ s1
 | _=> .bad
theorem RI.lst {te:TE} {fa:SD→R Vl} (ha:RE G W te fa):RI G W (iList G.K te) (eS fa):=by
 intro E σ τ H s θ Q hN hR hw
 unfold eS at hw
 rw [ae] at hw
 refine ha E σ τ H s θ _ hN hR (hw.mono (fun a s1 hw v H1 h1=>?_) fun _ _ _ h=>h)
 have h0:=h1
 obtain ⟨p,rfl,hl,h⟩:=h1.unsnoc
 obtain ⟨h2,c,_⟩:=bL hl h
 split at hw
 ·rename_i ds e
  obtain ⟨b,vs,rfl,hb,r⟩:=(c _ e).lst
  refine ⟨b,rfl,⟨vs, .of hb⟩,hw [.ref b] _ _ E (fun _ _ _ _ _ h=>h) rfl h0 fun i σ τ τ2 θ θ2 H s ht ht2 h ok=>?_⟩
  obtain ⟨p',rfl,hl',hS,c'⟩:=h.at1 ht
  obtain ⟨b',vs',e',hb',r'⟩:=(c' _ ok).lst
  cases e'
  refine ⟨fun d e=>?_,fun e=>⟨vs', .of hb',List.getElem?_eq_none_iff.mp (r'.none e)⟩⟩
  obtain ⟨v,e1,r1⟩:=r'.get e
  refine ⟨⟨vs',v, .of hb',e1⟩,fun x H' y=>?_⟩
  obtain ⟨rfl,y⟩:=y
  have:=y vs' (.of hb')
  rw [e1] at this; cases this
  exact .snoc (hS.push r1) hl' rfl
 ·rename_i ds e
  obtain ⟨b,vs,rfl,hb,r⟩:=(c _ e).con
  refine ⟨b,rfl,⟨vs,hb⟩,hw [.ref b] _ _ E (fun _ _ _ _ _ h=>h) rfl h0 fun i σ τ τ2 θ θ2 H s ht ht2 h ok=>?_⟩
  obtain ⟨p',rfl,hl',hS,c'⟩:=h.at1 ht
  obtain ⟨b',vs',e',hb',r'⟩:=(c' _ ok).con
  cases e'
  refine ⟨fun d e=>?_,fun e=>⟨vs',hb',List.getElem?_eq_none_iff.mp (r'.none e)⟩⟩
  obtain ⟨v,e1,r1⟩:=r'.get e
  refine ⟨⟨vs',v,hb',e1⟩,fun x H' y=>?_⟩
  obtain ⟨rfl,y⟩:=y
  have:=y vs' (hb')
  rw [e1] at this; cases this
  exact .snoc (hS.push r1) hl' rfl
 ·exact hw.elim
noncomputable def oM (fa:SD→R Vl):SD→R Src:=fun s=>(fa s).bind fun a s1=>match s1.cont a with
 | some (.tup ds)=> .ok ⟨[a],fun s=>s.cont a=some (.tup ds),ds⟩ s1
 | _=> .bad
theorem RI.tup {te:TE} {fa:SD→R Vl} (ha:RE G W te fa):RI G W (iTup G.K te) (oM fa):=by
 intro E σ τ H s θ Q hN hR hw
 unfold oM at hw
 rw [ae] at hw
 refine ha E σ τ H s θ _ hN hR (hw.mono (fun a s1 hw v H1 h1=>?_) fun _ _ _ h=>h)
 have h0:=h1
 obtain ⟨p,rfl,hl,h⟩:=h1.unsnoc
 obtain ⟨h2,c,_⟩:=bL hl h
 split at hw
 ·rename_i ds e
  obtain ⟨b,vs,rfl,hb,r⟩:=(c _ e).tup
  refine ⟨b,rfl,⟨vs, .of hb⟩,hw [.ref b] _ _ E (fun _ _ _ _ _ h=>h) rfl h0 fun i σ τ τ2 θ θ2 H s ht ht2 h ok=>?_⟩
  obtain ⟨p',rfl,hl',hS,c'⟩:=h.at1 ht
  obtain ⟨b',vs',e',hb',r'⟩:=(c' _ ok).tup
  cases e'
  refine ⟨fun d e=>?_,fun e=>⟨vs', .of hb',List.getElem?_eq_none_iff.mp (r'.none e)⟩⟩
  obtain ⟨v,e1,r1⟩:=r'.get e
  refine ⟨⟨vs',v, .of hb',e1⟩,fun x H' y=>?_⟩
  obtain ⟨rfl,y⟩:=y
  have:=y vs' (.of hb')
  rw [e1] at this; cases this
  exact .snoc (hS.push r1) hl' rfl
 ·exact hw.elim
def signs (z:Str):List D:=z.cps.toList.map fun c=> .str ⟨#[c]⟩
def zItS (fa:SD→R Vl):SD→R Src:=fun s=>(fa s).bind fun a s1=>match a with
 | .d (.str z)=> .ok ⟨[a],fun _=>True,signs z⟩ s1
 | _=> .bad
theorem RI.str {te:TE} {fa:SD→R Vl} (ha:RE G W te fa):RI G W (iStr te) (zItS fa):=by
 intro E σ τ H s θ Q hN hR hw
 unfold zItS at hw
 rw [ae] at hw
 refine ha E σ τ H s θ _ hN hR (hw.mono (fun a s1 hw v H1 h1=>?_) fun _ _ _ h=>h)
 split at hw
 ·rename_i z
  obtain ⟨p,rfl,r⟩:=h1.last
  obtain rfl:v= .str z:=r
  refine ⟨z,rfl,hw [.str z] _ _ E (fun _ _ _ _ _ h=>h) rfl h1 fun i σ τ τ2 θ θ2 H s ht ht2 h ok=>?_⟩
  have sz:(signs z).length=z.cps.size:=by simp [signs]
  refine ⟨fun d e=>?_,fun e=>?_⟩
  ·have hi:i<z.cps.size:=by rw [←sz]; exact ag e
   refine ⟨hi,fun x H' y=>?_⟩
   obtain ⟨rfl,c,e1,rfl⟩:=y
   unfold signs at e
   rw [List.getElem?_map,Array.getElem?_toList,e1] at e
   cases e
   exact h.push fun _=>rfl
  ·show z.cps.size≤i
   rw [←sz]
   exact List.getElem?_eq_none_iff.mp e
 ·exact hw.elim
def upTo (lo:Int) (n:Nat):List D:=(List.range n).map fun i=> .int (lo+(i:Nat))
theorem mh {lo:Int} {n i:Nat}:(upTo lo n)[i]? =if i<n then some (.int (lo+i)) else none:=by
 unfold upTo
 rw [List.getElem?_map]
 by_cases c:i<n
 ·rw [List.getElem?_range c,if_pos c]; rfl
 ·rw [List.getElem?_eq_none (by simpa using c),if_neg c]; rfl
theorem tV {lo:Int} {n:Nat}:Walk G E (Itr lo n) ⟨[],fun _=>True,upTo lo n⟩ []:=by
 intro i σ τ τ2 θ θ2 H s ht ht2 h ok
 refine ⟨fun d e=>?_,fun e=>?_⟩
 ·rw [mh] at e
  split at e
  ·rename_i c
   cases e
   refine ⟨c,fun x H' y=>?_⟩
   obtain ⟨rfl,rfl⟩:=y
   exact h.push fun _=>rfl
  ·cases e
 ·rw [mh] at e
  split at e
  ·cases e
  ·rename_i c; exact Nat.le_of_not_lt c
def oI:D→Option Int
 | .int i=>some i
 | _=>none
noncomputable def jB (fr:SD→R (List D)):SD→R Src:=fun s=>(fr s).bind fun ds s1=>match ds with
 | [.int j]=>if -(2 ^ 62)≤j∧j<2 ^ 62 then .ok ⟨[],fun _=>True,upTo 0 j.toNat⟩ s1 else .bad
 | _=> .bad
noncomputable def zRg2 (fr:SD→R (List D)):SD→R Src:=fun s=>(fr s).bind fun ds s1=>match ds with
 | [.int i, .int j]=>if -(2 ^ 62)≤i∧i<2 ^ 62∧ -(2 ^ 62)≤j∧j<2 ^ 62 then .ok ⟨[],fun _=>True,upTo i (j - i).toNat⟩ s1 else .bad
 | _=> .bad
theorem Reps.ints1 {i:Int} {vs:List V} (r:Reps G p [.int i] vs):vs= [.int i]:=by
 obtain ⟨v,r1,rfl,h1,rfl⟩:=r
 rw [show v= .int i from h1]
theorem aak {t:TA} {fr:SD→R (List D)} (ha:RA G W t fr):RI G W (iRng1 t) (jB fr):=by
 intro E σ τ H s θ Q hN hR hw
 unfold jB at hw
 rw [ae] at hw
 refine ha E σ τ H s θ _ hN hR (hw.mono (fun ds s1 hw vs H1 h1=>?_) fun _ _ _ h=>h)
 obtain ⟨p,rfl,hl,h,r⟩:=h1.args hR.tlen
 split at hw
 ·rename_i j
  split at hw
  ·rename_i c
   exact ⟨j,r.ints1,c.1,c.2,hw [] _ _ E (fun _ _ _ _ _ h=>h) rfl (by simpa using (show Rel G E σ τ p.H s1 θ from ⟨p,rfl,hl,h⟩)) tV⟩
  ·exact hw.elim
 ·exact hw.elim
def cg (ds:List D):List D:=ds.zipIdx.map fun q=> .tup [.int (q.2:Nat),q.1]
theorem cI {ds:List D} {i:Nat}:(cg ds)[i]? =ds[i]?.map fun d=> .tup [.int (i:Nat),d]:=by
 unfold cg
 rw [List.getElem?_map,List.getElem?_zipIdx]
 cases ds[i]? <;> simp
noncomputable def fK (fa:SD→R Vl):SD→R Src:=fun s=>(fa s).bind fun a s1=>match s1.cont a with
 | some (.lst ds)=> .ok ⟨[a],fun s=>s.cont a=some (.lst ds),cg ds⟩ s1
 | _=> .bad
theorem RI.enum {te:TE} {fa:SD→R Vl} (ha:RE G W te fa):RI G W (iEnum G.K (tCons te tNil)) (fK fa):=by
 intro E σ τ H s θ Q hN hR hw
 unfold fK at hw
 rw [ae] at hw
 refine ha E σ τ H s θ _ hN hR (hw.mono (fun a s1 hw v H1 h1=>?_) fun _ _ _ h=>h)
 have h0:=h1
 obtain ⟨p,rfl,hl,h⟩:=h1.unsnoc
 obtain ⟨h2,c,_⟩:=bL hl h
 split at hw
 ·rename_i ds e
  obtain ⟨b,vs,rfl,hb,r⟩:=(c _ e).lst
  refine ⟨b,vs,rfl, .of hb,hw [.ref b] _ _ E (fun _ _ _ _ _ h=>h) rfl h0 fun i σ τ τ2 θ θ2 H s ht ht2 h ok=>?_⟩
  obtain ⟨p',rfl,hl',hS,c'⟩:=h.at1 ht
  obtain ⟨b',vs',e',hb',r'⟩:=(c' _ ok).lst
  cases e'
  refine ⟨fun d e=>?_,fun e=>?_⟩
  ·have e:(cg ds)[i]? =some d:=e
   rw [cI] at e
   obtain ⟨d,ee,rfl⟩:=Option.map_eq_some_iff.mp e
   obtain ⟨v,e1,r1⟩:=r'.get ee
   refine ⟨⟨vs',v, .of hb',e1⟩,fun x H' y=>?_⟩
   obtain ⟨T,z,rfl,hT,rfl,y⟩:=y
   have:=y vs' (.of hb')
   rw [e1] at this; cases this
   exact .snoc ((hS.alloc hT).push (x:= .tup [.int (i:Nat),d]) ⟨T,_,rfl,⟨(hS.fresh hT).2,upd_same⟩,_,_,rfl,rfl,_,_,rfl,r1.mono (cm hT),rfl⟩) hl' rfl
  ·have e:(cg ds)[i]? =none:=e
   rw [cI,Option.map_eq_none_iff] at e
   exact ⟨vs', .of hb',List.getElem?_eq_none_iff.mp (r'.none e)⟩
 ·exact hw.elim
noncomputable def zRev (fa:SD→R Vl):SD→R Src:=fun s=>(fa s).bind fun a s1=>match s1.cont a with
 | some (.lst ds)=> .ok ⟨[a],fun s=>s.cont a=some (.lst ds),ds.reverse⟩ s1
 | _=> .bad
theorem EnLe.rel {E' :En} (l:EnLe G E E') (h:Rel G E' σ τ H s θ):Rel G E σ τ H s θ:=let ⟨p,e,hl,h⟩:=h; ⟨p,e,hl,l _ _ _ _ _ h⟩
theorem EnLe.xp {E' :En} (l:EnLe G E E') {c:Str} {fs:List (Str×D)} (h:XP G W E τ θ c fs s):XP G W E' τ θ c fs s:=fun cls d σ' H' ⟨p,e,hl,h1,x⟩=>h cls d σ' H' ⟨p,e,hl,l _ _ _ _ _ h1,x⟩
noncomputable def du (ok:SD→Prop) (body:D→SD→R Fl):List D→SD→R Fl
 | [],s=>if ok s then .ok .nx s else .bad
 | d::ds,s=>if ok s then (body d s).bind fun fl s1=>match fl with
   | .nx=>du ok body ds s1
   | .ct=>du ok body ds s1
   | .bk=> .ok .nx s1
   | .rt a=> .ok (.rt a) s1
  else .bad
noncomputable def cK (fi:SD→R Src) (fz:Vl→SD→R Unit) (fb:SD→R Fl):SD→R Fl:=fun s=>(fi s).bind fun src s1=>if Nl src.hs then du src.ok (fun d s=>(fz (.d d) s).bind fun _ s2=>fb s2) src.ds s1 else .bad
theorem Nl.app {l l' :List Vl} (h:Nl l) (h' :Nl l'):Nl (l++l'):=fun e he=>(List.mem_append.mp he).elim (h e) (h' e)
theorem RS.for' {is:List Nat} {wi:TI} {g:TG} {tb:TS} {fi:SD→R Src} {fz:Vl→SD→R Unit} {fb:SD→R Fl} (hi:RI G W wi fi) (hg:RG G W is g fz) (hb:RS G W tb fb):RS G W (tFor wi g tb) (cK fi fz fb):=by
 intro E σ τ H s θ D hN hR hw
 unfold cK at hw
 rw [ae] at hw
 refine hi E σ τ H s θ _ hN hR (hw.mono (fun src s1 hw vs H1 J E' el hv h1 wk=>?_) fun _ _ _ h=>h)
 split at hw
 ·rename_i hNs
  have ht:=hR.tlen
  have hN1:Nl (θ++src.hs):=hN.app hNs
  refine ⟨fun i m σ H=>m=src.ds.length - i∧i≤src.ds.length∧∃s,Rel G E' σ (τ++vs) H s (θ++src.hs)∧Wp (du src.ok (fun d s=>(fz (.d d) s).bind fun _ s2=>fb s2) (src.ds.drop i) s) (FP G E τ θ D) (XP G W E τ θ),⟨src.ds.length,by simp,Nat.zero_le _,s1,h1,by simpa using hw⟩, ?_⟩
  rintro i m σ2 H2 ⟨rfl,hi2,s2,h2,hw2⟩
  have h2' :Rel G E' σ2 (τ++vs++ []) H2 s2 (θ++src.hs++ []):=by simpa using h2
  by_cases c:i<src.ds.length
  ·have ed:src.ds[i]? =some src.ds[i]:=List.getElem?_eq_getElem c
   rw [List.drop_eq_getElem_cons c] at hw2
   unfold du at hw2
   split at hw2
   ·rename_i ok
    obtain ⟨go,yl⟩:=(wk i σ2 τ [] θ [] H2 s2 ht rfl h2' ok).1 _ ed
    refine .inr ⟨go,fun σ' H' =>∃s,Rel G E' σ' (τ++vs) H' s (θ++src.hs)∧Wp (du src.ok (fun d s=>(fz (.d d) s).bind fun _ s2=>fb s2) (src.ds.drop (i+1)) s) (FP G E τ θ D) (XP G W E τ θ),fun σ' H' ⟨s,q1,q2⟩=>⟨_,by omega,rfl,by omega,s,q1,q2⟩,fun x H' y=>?_⟩
    have hx:Rel G E' σ2 (τ++vs++ [x]) H' s2 (θ++src.hs++ [.d src.ds[i]]):=by simpa using yl x H' y
    rw [ae,ae] at hw2
    refine hg E' σ2 (τ++vs) H' s2 (θ++src.hs) x _ _ hN1 hx (hw2.mono (fun _ s3 hw3 σ3 H3 h3 _=>?_) fun _ _ _ h=>el.xp (h.upEnd ht))
    refine hb E' σ3 (τ++vs) H3 s3 (θ++src.hs) _ hN1 h3 (hw3.mono (fun fl s4 hw4=>?_) fun _ _ _ h=>el.xp (h.upEnd ht))
    cases fl with
    | nx=>exact fun σ' H' h' =>⟨s4,h',hw4⟩
    | ct=>exact fun σ' H' h' =>⟨s4,h',hw4⟩
    | bk=>exact fun σ' H' h' =>hw4 σ' H' ((el.rel h').dropEnd ht)
    | rt a=>exact ⟨hw4.1,fun σ' v H' h' =>hw4.2 σ' v H' ((el.rel h').dropMid ht)⟩
   ·exact hw2.elim
  ·have e:src.ds[i]? =none:=List.getElem?_eq_none (by omega)
   rw [List.drop_eq_nil_of_le (by omega)] at hw2
   unfold du at hw2
   split at hw2
   ·rename_i ok
    exact .inl ⟨(wk i σ2 τ [] θ [] H2 s2 ht rfl h2' ok).2 e,hw2 _ _ ((el.rel h2).dropEnd ht)⟩
   ·exact hw2.elim
 ·exact hw.elim
def fJ (c:SD→R Bool) (f:SD→R Fl):Nat→SD→R Fl
 | 0,_=> .bad
 | n+1,s=>(c s).bind fun b s1=>if b=true then (f s1).bind fun fl s2=>match fl with
   | .nx=>fJ c f n s2
   | .ct=>fJ c f n s2
   | .bk=> .ok .nx s2
   | .rt a=> .ok (.rt a) s2
  else .ok .nx s1
noncomputable def zWh (c:SD→R Bool) (f:SD→R Fl):SD→R Fl:=fun s=>if h:∃n,fJ c f n s≠ .bad then fJ c f (choose h) s else .bad
theorem RS.while' {c:TT} {tb:TS} {fc:SD→R Bool} {fb:SD→R Fl} (hc:RT G W c fc) (hb:RS G W tb fb):RS G W (tWhile c tb) (zWh fc fb):=by
 intro E σ τ H s θ D hN hR hw
 unfold zWh at hw
 split at hw
 ·rename_i hn
  refine ⟨fun m σ H=>∃s,Rel G E σ τ H s θ∧Wp (fJ fc fb m s) (FP G E τ θ D) (XP G W E τ θ),⟨_,s,hR,hw⟩, ?_⟩
  rintro m σ2 H2 ⟨s2,h2,hw2⟩
  cases m with
  | zero=>exact hw2.elim
  | succ m=>
   unfold fJ at hw2
   rw [ae] at hw2
   refine hc E σ2 τ H2 s2 θ _ hN h2 (hw2.mono (fun b s3 hw3 H3 h3=>?_) fun _ _ _ h=>h)
   split
   ·rename_i cb
    rw [if_pos cb,ae] at hw3
    refine ⟨fun σ' H' =>∃s,Rel G E σ' τ H' s θ∧Wp (fJ fc fb m s) (FP G E τ θ D) (XP G W E τ θ),fun σ' H' q=>⟨m,Nat.lt_succ_self m,q⟩, ?_⟩
    refine hb E σ2 τ H3 s3 θ _ hN h3 (hw3.mono (fun fl s4 hw4=>?_) fun _ _ _ h=>h)
    cases fl with
    | nx=>exact fun σ' H' h' =>⟨s4,h',hw4⟩
    | ct=>exact fun σ' H' h' =>⟨s4,h',hw4⟩
    | bk=>exact hw4
    | rt a=>exact hw4
   ·rename_i cb
    rw [if_neg cb] at hw3
    exact hw3 _ _ h3
 ·exact hw.elim
end
def dr (l:List (Option Vl)):List Nat→List (Option Vl)
 | []=>l
 | v::vs=>(dr l vs).set v none
def SD.wipe (s:SD) (is:List Nat):SD:= {s with sl:=dr s.sl is}
def R.nx {α:Type} (m:R α):R α:=match m with
 | .ok a s=> .ok a s
 | _=> .bad
theorem vf {α:Type} {m:R α} {Q:α→SD→Prop} {E:XQ}:Wp m.nx Q E=Wp m Q (fun _ _ _=>False):=by
 cases m<;> rfl
abbrev WF:WX:=fun _ _ _ _=>False
noncomputable def fZ (ok:SD→Prop) (fz:Vl→SD→R Unit) (ft:SD→R Bool) (fe:SD→R Vl) (is:List Nat):List D→List D→SD→R (List D)
 | [],acc,s=>if ok s then .ok acc s else .bad
 | d::ds,acc,s=>if ok s then (fz (.d d) s).nx.bind fun _ s1=>(ft s1).nx.bind fun b s2=>if b=true then (fe s2).nx.bind fun a s3=>(s3.fix a).bind fun y s4=>
   if acc.length<sizeLine then fZ ok fz ft fe is ds (acc++ [y]) (s4.wipe is) else .bad
   else fZ ok fz ft fe is ds acc (s2.wipe is)
  else .bad
noncomputable def zLc (fi:SD→R Src) (fz:Vl→SD→R Unit) (ft:SD→R Bool) (fe:SD→R Vl) (is:List Nat):SD→R Vl:=fun s=>(fi s).bind fun src s1=>if Nl src.hs then (fZ src.ok fz ft fe is src.ds [] (s1.wipe is)).nx.bind fun acc s2=> .ok (.own (.lst acc)) s2 else .bad
def fH:SD→R Bool:=fun s=> .ok true s
section
variable {G:Gc} {W:WX} {E:En} {σ σ' σ2:L2.St} {τ:List V} {H:Hp} {s s' :SD} {θ:List Vl} {v u:V} {a b:Vl} {x y:D} {p:Wr} {Q:VK} {m:Nat} {w w' :List (Option V)} {ŵ ŵ' :List (Option Vl)} {S:Sto} {k:Nat} {is:List Nat}
theorem zwipe_len {l:List (Option Vl)}:∀{is:List Nat},(dr l is).length=l.length
 | []=>rfl
 | v::vs=>by unfold dr; rw [List.length_set,zwipe_len]
theorem fG {l:List (Option Vl)} {i:Nat} {x:Vl}:∀{vs:List Nat},(dr l vs)[i]? =some (some x)→l[i]? =some (some x)∧i∉vs
 | [],h=>⟨h,by simp⟩
 | v::vs,h=>by
  unfold dr at h
  rcases bT h with ⟨rfl,q⟩ | ⟨c,q⟩
  ·cases q
  ·obtain ⟨h1,h2⟩:=fG q
   exact ⟨h1,by simp only [List.mem_cons,not_or]; exact ⟨fun e=>c e.symm,h2⟩⟩
theorem gw {i:Nat}:∀{vs:List Nat} {σ:L2.St},i∉vs→(wipe σ vs)[i]? =σ[i]?
 | [],_,_=>rfl
 | v::vs,σ,h=>by
  simp only [List.mem_cons,not_or] at h
  unfold wipe
  rw [List.getElem?_set_ne (fun e=>h.1 e.symm),gw h.2]
theorem kQ {i:Nat}:∀{vs:List Nat} {σ:L2.St},i∈vs→i<σ.length→(wipe σ vs)[i]? =some none
 | v::vs,σ,h,hl=>by
  unfold wipe
  by_cases c:v=i
  ·subst c
   rw [List.getElem?_set_self (by rw [wipe_length]; exact hl)]
  ·rw [List.getElem?_set_ne c,kQ ((List.mem_cons.mp h).resolve_left fun e=>c e.symm) hl]
theorem jG (o:Only is σ σ'):wipe σ' is=wipe σ is:=by
 apply List.ext_getElem?
 intro i
 by_cases c:i∈is
 ·by_cases l:i<σ.length
  ·rw [kQ c (by rw [o.1]; exact l),kQ c l]
  ·rw [List.getElem?_eq_none (by rw [wipe_length,o.1]; omega),List.getElem?_eq_none (by rw [wipe_length]; omega)]
 ·rw [gw c,gw c,o.2 i c]
theorem pH:wipe (wipe σ is) is=wipe σ is:=jG ⟨wipe_length _ _,fun _ h=>gw h⟩
theorem Sm.repl (h:Sm G E m p w ŵ S) (hl:w'.length=w.length) (hw:∀(k:Nat) (e:Vl),ŵ[k]? =some (some e)→w'[k]? =w[k]?) (hn:∀(k j:Nat),ŵ[k]? =some (some (.loc j))→False):Sm G E m p w' ŵ S:=by
 refine {h with len:=hl.trans h.len,ent:=fun k e q=>?_,own:=fun k y a q1 q2=>h.own k y a q1 ((hw _ _ q1).symm.trans q2),sep:=fun j k y z a q1 q2 q3 q4=>h.sep j k y z a q1 q2 ((hw _ _ q1).symm.trans q3) ((hw _ _ q2).symm.trans q4)}
 obtain ⟨v,e1,r⟩:=h.ent k e q
 refine ⟨v,(hw _ _ q).trans e1, ?_⟩
 cases e with
 | d x=>exact r
 | own x=>exact r
 | loc j=>exact (hn k j q).elim
theorem Sm.less (h:Sm G E m p w ŵ S) (hl:ŵ'.length=ŵ.length) (hw:∀(k:Nat) (e:Vl),ŵ'[k]? =some (some e)→ŵ[k]? =some (some e)):Sm G E m p w ŵ' S:=
 {h with len:=h.len.trans hl.symm,ent:=fun k e q=>h.ent k e (hw k e q),own:=fun k y a q1 q2=>h.own k y a (hw _ _ q1) q2,sep:=fun j k y z a q1 q2 q3 q4=>h.sep j k y z a (hw _ _ q1) (hw _ _ q2) q3 q4}
def vg (s:SD) (is:List Nat):Prop:=∀i∈is,∀e,s.sl[i]? ≠some (some e)
theorem bR:vg (s.wipe is) is:=fun i hi e q=>(fG q).2 hi
theorem Rel.wipe (h:Rel G E σ τ H s θ):Rel G E σ τ H (s.wipe is) θ:=by
 obtain ⟨p,e,hl,h⟩:=h
 refine ⟨p,e,hl.trans zwipe_len.symm, ?_⟩
 show Sm G E (dr s.sl is).length p _ _ _
 rw [zwipe_len]
 refine h.less (by show (dr s.sl is++_).length=_; simp [zwipe_len]) fun k e q=>?_
 have q:(dr s.sl is++θ.map some)[k]? =some (some e):=q
 by_cases c:k<s.sl.length
 ·rw [List.getElem?_append_left (by rw [zwipe_len]; exact c)] at q
  rw [List.getElem?_append_left c]
  exact (fG q).1
 ·rw [List.getElem?_append_right (by rw [zwipe_len]; omega),zwipe_len] at q
  rw [List.getElem?_append_right (by omega)]
  exact q
theorem Rel.repl (h:Rel G E σ τ H s θ) (hn:Nl θ) (hb:vg s is) (o:Only is σ σ'):Rel G E σ' τ H s θ:=by
 obtain ⟨p,e,hl,h⟩:=h
 refine ⟨p,e,o.1.trans hl,h.repl (by simp [o.1]) (fun k e q=>?_) fun k j q=>uy h hn q⟩
 by_cases c:k<s.sl.length
 ·have ni:k∉is:=fun hi=>by
   rw [List.getElem?_append_left c] at q
   exact hb k hi e q
  rw [List.getElem?_append_left (by rw [o.1,hl]; exact c),List.getElem?_append_left (by rw [hl]; exact c),o.2 k ni]
 ·rw [List.getElem?_append_right (by rw [o.1,hl]; omega),List.getElem?_append_right (by rw [hl]; omega),o.1]
theorem only_wipe:Only is σ (wipe σ is):=⟨wipe_length _ _,fun _ h=>gw h⟩
theorem Only.symm (o:Only is σ σ'):Only is σ' σ:=⟨o.1.symm,fun k h=>(o.2 k h).symm⟩
theorem Only.trans (o:Only is σ σ') (o' :Only is σ' σ2):Only is σ σ2:=⟨o'.1.trans o.1,fun k h=>(o'.2 k h).trans (o.2 k h)⟩
theorem Rel.grow {D0:Addr} {acc:List D} (h:Rel G E σ (τ++ [.ref D0]++ [v]) H s (θ++ [.own (.lst acc)]++ [.d x])) (ht:τ.length=θ.length):
  ∃vs,H D0=some (.lst vs)∧vs.length=acc.length∧Rel G E σ (τ++ [.ref D0]) (upd H D0 (.lst (vs++ [v]))) s (θ++ [.own (.lst (acc++ [x]))]):=by
 obtain ⟨p,rfl,hl,h⟩:=h.unsnoc
 rw [List.map_append,List.map_append,←List.append_assoc,←List.append_assoc,show List.map some [V.ref D0]= [some (.ref D0)] from rfl,show List.map some [Vl.own (.lst acc)]= [some (.own (.lst acc))] from rfl] at h
 have l:(σ++τ.map some).length=(s.sl++θ.map some).length:=by simp [hl,ht]
 obtain ⟨u,e1,r⟩:=h.ent _ _ (af (l:=(s.sl++θ.map some)++ [some (.own (.lst acc))]))
 rw [←az h.len] at e1
 rw [af] at e1
 cases e1
 have q1:(((s.sl++θ.map some)++ [some (Vl.own (.lst acc))])++ [some (.d x)])[(s.sl++θ.map some).length]? =some (some (.own (.lst acc))):=aF af
 have q2:(((σ++τ.map some)++ [some (V.ref D0)])++ [some v])[(s.sl++θ.map some).length]? =some (some (.ref D0)):=aF (by rw [←l]; exact af)
 obtain ⟨u,e2,D1,e3,vs,e4,r4⟩:=h.ent _ _ q1
 rw [q2] at e2
 cases e2
 cases e3
 refine ⟨vs,e4,r4.len, ?_⟩
 have o1:=(h.own _ _ _ q1 q2).1
 have l' :=fg (p:=p) (o:= .lst (vs++ [v])) o1
 have h2:=h.write (y:= .lst (acc++ [x])) (o:= .lst (vs++ [v])) q1 q2 ⟨_,upd_same,(r4.mono l').append (Reps.one (Rep.mono l' r))⟩
 rw [show (((s.sl++θ.map some)++ [some (Vl.own (.lst acc))])++ [some (Vl.d x)]).set (s.sl++θ.map some).length (some (.own (.lst (acc++ [x]))))=((s.sl++θ.map some)++ [some (.own (.lst (acc++ [x])))])++ [some (.d x)] from by
  rw [bj (by simp)]
  congr 1
  exact dS] at h2
 exact .snoc (h2.pop1 (by simp; omega)) hl rfl
def RIat (G:Gc) (W:WX) (E:En) (wi:TI) (fi:SD→R Src):Prop:=∀(σ:L2.St) (τ:List V) (H:Hp) (s:SD) (θ:List Vl) (Q:It→Hp→Prop),Nl θ→Rel G E σ τ H s θ→
 Wp (fi s) (fun src s' =>∀vs H' J E',EnLe G E E'→vs.length=src.hs.length→Rel G E' σ (τ++vs) H' s' (θ++src.hs)→Walk G E' J src vs→Q J H') (XP G W E τ θ)→wi σ H Q
def REat (G:Gc) (W:WX) (E:En) (t:TE) (fe:SD→R Vl):Prop:=∀(σ:L2.St) (τ:List V) (H:Hp) (s:SD) (θ:List Vl) (Q:VK),Nl θ→Rel G E σ τ H s θ→
 Wp (fe s) (fun a s' =>∀v H',Rel G E σ (τ++ [v]) H' s' (θ++ [a])→Q v H') (XP G W E τ θ)→t σ H Q
def RTs (G:Gc) (E:En) (is:List Nat) (σ:L2.St) (tt:TT) (ft:SD→R Bool):Prop:=∀(E' :En),EnLe G E E'→∀(σ3:L2.St),Only is σ3 σ→∀(τ:List V) (H:Hp) (s:SD) (θ:List Vl) (Q:Bool→Hp→Prop),Nl θ→Rel G E' σ3 τ H s θ→
 Wp (ft s) (fun b s' =>∀H',Rel G E' σ3 τ H' s' θ→Q b H') (XP G WF E' τ θ)→tt σ3 H Q
theorem lc_atE {wi:TI} {g:TG} {tt:TT} {te:TE} {fi:SD→R Src} {fz:Vl→SD→R Unit} {ft:SD→R Bool} {fe:SD→R Vl} (hi:RIat G W E wi fi) (hg:RG G WF is g fz) (he:RE G WF te fe) (σ:L2.St) (hT:RTs G E is σ tt ft) (τ:List V) (H:Hp) (s:SD) (θ:List Vl) (Q:VK) (hN:Nl θ) (hR:Rel G E σ τ H s θ)
  (hw:Wp (zLc fi fz ft fe is s) (fun a s' =>∀v H',Rel G E σ (τ++ [v]) H' s' (θ++ [a])→Q v H') (XP G W E τ θ)):tLc wi g tt te is σ H Q:=by
 unfold zLc at hw
 rw [ae] at hw
 refine hi σ τ H s θ _ hN hR (hw.mono (fun src s1 hw vs H1 J E' el hv h1 wk=>?_) fun _ _ _ h=>h)
 split at hw
 ·rename_i hNs
  have ht:=hR.tlen
  have ht1:(τ++vs).length=(θ++src.hs).length:=by simp [ht,hv]
  have hN1:Nl (θ++src.hs):=hN.app hNs
  intro D0 hD
  have h2:Rel G E' σ ((τ++vs)++ [.ref D0]) (upd H1 D0 (.lst [])) (s1.wipe is) ((θ++src.hs)++ [.own (.lst [])]):=by
   obtain ⟨p,rfl,hl,h⟩:=h1.wipe (is:=is)
   exact .snoc (h.allocOwn hD ⟨[],upd_same,rfl⟩) hl rfl
  let P:List D→SD→Prop:=fun acc s2=>∀u H',Rel G E σ (τ++ [u]) H' s2 (θ++ [.own (.lst acc)])→Q u H'
  refine ⟨fun i m H=>m=src.ds.length - i∧i≤src.ds.length∧∃s acc,Rel G E' σ ((τ++vs)++ [.ref D0]) H s ((θ++src.hs)++ [.own (.lst acc)])∧vg s is∧Wp (fZ src.ok fz ft fe is (src.ds.drop i) acc s) P (fun _ _ _=>False),⟨src.ds.length,by simp,Nat.zero_le _,s1.wipe is,[],h2,bR, ?_⟩, ?_⟩
  ·rw [ae,vf] at hw
   rw [List.drop_zero]
   exact hw
  ·rintro i m H2 ⟨rfl,hi2,s2,acc,h2,hb2,hw2⟩
   have hNo:Nl ((θ++src.hs)++ [.own (.lst acc)]):=hN1.snoc fun _ q=>nomatch q
   have h3:=h2.repl (σ' :=wipe σ is) hNo hb2 only_wipe
   by_cases c:i<src.ds.length
   ·have ed:src.ds[i]? =some src.ds[i]:=List.getElem?_eq_getElem c
    rw [List.drop_eq_getElem_cons c] at hw2
    unfold fZ at hw2
    split at hw2
    ·rename_i ok
     obtain ⟨go,yl⟩:=(wk i (wipe σ is) τ [.ref D0] θ [.own (.lst acc)] H2 s2 ht rfl h3 ok).1 _ ed
     refine .inr ⟨go,fun H' =>∃s acc,Rel G E' σ ((τ++vs)++ [.ref D0]) H' s ((θ++src.hs)++ [.own (.lst acc)])∧vg s is∧Wp (fZ src.ok fz ft fe is (src.ds.drop (i+1)) acc s) P (fun _ _ _=>False),fun H' ⟨s,acc,q1,q2,q3⟩=>⟨_,by omega,rfl,by omega,s,acc,q1,q2,q3⟩,fun x H' y=>?_⟩
     have hx:=yl x H' y
     rw [ae,vf] at hw2
     refine hg E' (wipe σ is) _ H' s2 _ x _ _ hNo hx (hw2.mono (fun _ s3 hw3 σ3 H3 h3 o3=>?_) fun _ _ _ h=>h.elim)
     have ow:Only is σ3 σ:=o3.symm.trans only_wipe.symm
     refine ⟨(jG o3).trans pH, ?_⟩
     rw [ae,vf] at hw3
     refine hT E' el σ3 ow _ H3 s3 _ _ hNo h3 (hw3.mono (fun b s4 hw4 H4 h4=>?_) fun _ _ _ h=>h.elim)
     split
     ·rename_i cb
      rw [if_pos cb,ae,vf] at hw4
      refine RE.fix he E' σ3 _ H4 s4 _ _ hNo h4 ?_
      unfold aL pq
      rw [ae]
      refine hw4.mono (fun a s5 hw5=>?_) fun _ _ _ h=>h.elim
      rw [ae] at hw5 ⊢
      cases e5:s5.fix a with
      | bad=>rw [e5] at hw5; exact hw5.elim
      | ex _ _ _=>exact (nN _ _ _ _ _ e5).elim
      | ok y s6=>
       rw [e5] at hw5
       intro v H5 h5
       have hw5:Wp (if acc.length<sizeLine then _ else _) _ _:=hw5
       split at hw5
       ·rename_i hz
        obtain ⟨av,e6,hl6,h6⟩:=h5.grow ht1
        refine ⟨av,e6,by rw [hl6]; exact hz,s6.wipe is,acc++ [y], ?_,bR,hw5⟩
        exact (h6.wipe (is:=is)).repl (hN1.snoc fun _ q=>nomatch q) bR ow
       ·exact hw5.elim
     ·rename_i cb
      rw [if_neg cb] at hw4
      exact ⟨s4.wipe is,acc,(h4.wipe (is:=is)).repl hNo bR ow,bR,hw4⟩
    ·exact hw2.elim
   ·have e:src.ds[i]? =none:=List.getElem?_eq_none (by omega)
    rw [List.drop_eq_nil_of_le (by omega)] at hw2
    unfold fZ at hw2
    split at hw2
    ·rename_i ok
     exact .inl ⟨(wk i (wipe σ is) τ [.ref D0] θ [.own (.lst acc)] H2 s2 ht rfl h3 ok).2 e,hw2 _ _ ((el.rel h2).dropMid ht)⟩
    ·exact hw2.elim
 ·exact hw.elim
theorem lc_at {wi:TI} {g:TG} {tt:TT} {te:TE} {fi:SD→R Src} {fz:Vl→SD→R Unit} {ft:SD→R Bool} {fe:SD→R Vl} (hi:RIat G W E wi fi) (hg:RG G WF is g fz) (hT:RT G WF tt ft) (he:RE G WF te fe):REat G W E (tLc wi g tt te is) (zLc fi fz ft fe is):=fun σ τ H s θ Q hN hR hw=>lc_atE hi hg he σ (fun E' _ σ3 _=>hT E' σ3) τ H s θ Q hN hR hw
theorem aaj {wi:TI} {g:TG} {tt:TT} {te:TE} {fi:SD→R Src} {fz:Vl→SD→R Unit} {ft:SD→R Bool} {fe:SD→R Vl} (hi:RI G W wi fi) (hg:RG G WF is g fz) (hT:RT G WF tt ft) (he:RE G WF te fe):RE G W (tLc wi g tt te is) (zLc fi fz ft fe is):=fun E=>lc_at (hi E) hg hT he
theorem aai:RT G W tYes fH:=fun _ _ _ _ _ _ _ _ hR hw=>hw _ hR
end
def SD.mod (s:SD) (y:D):Vl→R Unit
 | .d (.cell i)=> .ok () {s with st:=s.st.put i y}
 | .loc k=>match s.sl[k]? with
  | some (some (.own _))=> .ok () {s with sl:=s.sl.set k (some (.own y))}
  | some (some (.d (.cell i)))=> .ok () {s with st:=s.st.put i y}
  | _=> .bad
 | _=> .bad
section
variable {G:Gc} {W:WX} {E:En} {σ:L2.St} {τ:List V} {H:Hp} {s s' :SD} {θ:List Vl} {v u:V} {a b:Vl} {x y:D} {p:Wr} {Q:VK} {m:Nat} {w:List (Option V)} {k:Nat} {l:List (Option Vl)}
theorem mod_ok {c:D} (h:Sm G E s.sl.length p w (s.sl++l) s.st) (q:(s.sl++l)[k]? =some (some a)) (qv:w[k]? =some (some v)) (hc:s.cont a=some c) (hm:s.mod y a= .ok () s'):
  ∃b,v= .ref b∧p.O b∧Ho G p c b∧s'.sl.length=s.sl.length∧∀ho,Ho G {p with H:=upd p.H b ho} y b→Sm G E s'.sl.length {p with H:=upd p.H b ho} w (s'.sl++l) s'.st:=by
 obtain ⟨u,e1,r⟩:=h.ent k a q
 rw [qv] at e1; cases e1
 have cell:∀{i:Nat} {c:D},s.st.get i=some c→s' = {s with st:=s.st.put i y}→v= .ref (p.γ i)→∃b,v= .ref b∧p.O b∧Ho G p c b∧s'.sl.length=s.sl.length∧∀ho,Ho G {p with H:=upd p.H b ho} y b→Sm G E s'.sl.length {p with H:=upd p.H b ho} w (s'.sl++l) s'.st:=fun {i c} hc e ev=>by
  subst e ev
  obtain ⟨o1,o2⟩:=h.cel i c hc
  exact ⟨_,rfl,o1,o2,rfl,fun ho hy=>h.writeCell hc hy⟩
 cases a with
 | d z=>
  cases z with
  | cell i=>
   cases hm
   exact cell hc rfl r.2
  | _=>cases hm
 | own z=>cases hm
 | loc j=>
  obtain ⟨r1,r2,r3⟩:=r
  unfold SD.mod at hm
  unfold SD.cont at hc
  dsimp only at hm hc
  cases q1:s.sl[j]? with
  | none=>rw [q1] at hm; cases hm
  | some o=>
   cases o with
   | none=>rw [q1] at hm; cases hm
   | some z=>
    rw [q1] at hm hc
    obtain ⟨hs,u,e2,r⟩:=h.slot q1
    rw [r3] at e2; cases e2
    cases z with
    | d z=>
     cases z with
     | cell i=>
      cases hm
      exact cell hc rfl r.2
     | _=>cases hm
    | own z=>
     cases hm
     cases hc
     obtain ⟨b,rfl,r⟩:=r
     have o1:=(h.own j _ b hs r3).1
     refine ⟨b,rfl,o1,r,by simp,fun ho hy=>?_⟩
     have q2:=h.write hs r3 hy
     rw [bj (ag q1)] at q2
     show Sm G E (s.sl.set j _).length _ _ _ _
     rw [List.length_set]
     exact q2
    | loc i=>cases hm
theorem iz:∀(s:SD) (y:D) (a:Vl) c fs s',s.mod y a≠ .ex c fs s' :=by
 intro s y a c fs s'
 cases a with
 | d x=>cases x<;> intro q<;> cases q
 | own x=>intro q; cases q
 | loc k=>
  unfold SD.mod
  dsimp only
  split<;> intro q<;> cases q
theorem mod1 {c:D} (hl:σ.length=s.sl.length) (h:Sm G E s.sl.length p ((σ++τ.map some)++ [some v]) ((s.sl++θ.map some)++ [some a]) s.st) (hc:s.cont a=some c) (hm:s.mod y a= .ok () s'):
  ∃b,v= .ref b∧Ho G p c b∧∀ho,(p.le {p with H:=upd p.H b ho}→Ho G {p with H:=upd p.H b ho} y b)→p.le {p with H:=upd p.H b ho}∧σ.length=s'.sl.length∧Sm G E s'.sl.length {p with H:=upd p.H b ho} (σ++τ.map some) (s'.sl++θ.map some) s'.st:=by
 have ll:=az h.len
 rw [List.append_assoc (as:=s.sl)] at h
 obtain ⟨b,e,o1,ho,hs,go⟩:=mod_ok (k:=(s.sl++θ.map some).length) (v:=v) h (by rw [←List.append_assoc]; exact af) (by rw [←ll]; exact af) hc hm
 refine ⟨b,e,ho,fun ho' hy=>⟨fg o1,hl.trans hs.symm, ?_⟩⟩
 have q:=go ho' (hy (fg o1))
 rw [←List.append_assoc] at q
 exact q.pop1 (by rw [hs]; exact bb hl)
def oB2 (f:D→D→Option (D×D)) (a b:Vl) (s:SD):R Vl:=match b with
 | .d z=>match s.cont a with
  | some c=>match f c z with
   | some (y,r)=>(s.mod y a).bind fun _ s' => .ok (.d r) s'
   | none=> .bad
  | none=> .bad
 | _=> .bad
def oB1 (f:D→Option (D×D)) (a:Vl) (s:SD):R Vl:=match s.cont a with
 | some c=>match f c with
  | some (y,r)=>(s.mod y a).bind fun _ s' => .ok (.d r) s'
  | none=> .bad
 | none=> .bad
def Chg2 (G:Gc) (r:V→V→Hp→VK→Prop) (f:D→D→Option (D×D)):Prop:=∀(p:Wr) (c z y t:D) (b:Addr) (u:V) (Q:VK),f c z=some (y,t)→Ho G p c b→Rep G p z u→
 ∃ho w,Rep G p t w∧(p.le {p with H:=upd p.H b ho}→Ho G {p with H:=upd p.H b ho} y b)∧(Q w (upd p.H b ho)→r (.ref b) u p.H Q)
def Chg1 (G:Gc) (r:V→Hp→VK→Prop) (f:D→Option (D×D)):Prop:=∀(p:Wr) (c y t:D) (b:Addr) (Q:VK),f c=some (y,t)→Ho G p c b→
 ∃ho w,Rep G p t w∧(p.le {p with H:=upd p.H b ho}→Ho G {p with H:=upd p.H b ho} y b)∧(Q w (upd p.H b ho)→r (.ref b) p.H Q)
theorem mK {r:V→V→Hp→VK→Prop} {f:D→D→Option (D×D)} (hf:Chg2 G r f):bN G r (oB2 f):=by
 intro E σ τ s θ p v u a b Q hl h hw
 unfold oB2 at hw
 split at hw
 ·rename_i z
  split at hw
  ·rename_i c e1
   split at hw
   ·rename_i y t e2
    rw [ae] at hw
    cases e3:s.mod y a with
    | bad=>rw [e3] at hw; exact hw.elim
    | ex _ _ _=>exact (iz _ _ _ _ _ _ e3).elim
    | ok _ s' =>
     rw [e3] at hw
     obtain ⟨u',e4,r4⟩:=h.ent _ _ af
     rw [←az h.len,af] at e4
     cases e4
     obtain ⟨b,rfl,ho,go⟩:=mod1 hl (h.pop1 (by simp; omega)) e1 e3
     obtain ⟨o',w,r5,hy,k⟩:=hf p c _ y t b u Q e2 ho r4
     obtain ⟨le,hl',hS⟩:=go o' hy
     exact k (hw w _ (.snoc (hS.push (r5.mono le)) hl' rfl))
   ·exact hw.elim
  ·exact hw.elim
 ·exact hw.elim
theorem p_chg1 {r:V→Hp→VK→Prop} {f:D→Option (D×D)} (hf:Chg1 G r f):ik G r (oB1 f):=by
 intro E σ τ s θ p v a Q hl h hw
 unfold oB1 at hw
 split at hw
 ·rename_i c e1
  split at hw
  ·rename_i y t e2
   rw [ae] at hw
   cases e3:s.mod y a with
   | bad=>rw [e3] at hw; exact hw.elim
   | ex _ _ _=>exact (iz _ _ _ _ _ _ e3).elim
   | ok _ s' =>
    rw [e3] at hw
    obtain ⟨b,rfl,ho,go⟩:=mod1 hl h e1 e3
    obtain ⟨o',w,r5,hy,k⟩:=hf p c y t b Q e2 ho
    obtain ⟨le,hl',hS⟩:=go o' hy
    exact k (hw w _ (.snoc (hS.push (r5.mono le)) hl' rfl))
  ·exact hw.elim
 ·exact hw.elim
noncomputable def aM (c z:D):Option (D×D):=match c with
 | .lst ds=>if ds.length<sizeLine then some (.lst (ds++ [z]), .non) else none
 | _=>none
theorem uK:Chg2 G (fun x y H Q=>rAppend x [y] H Q) aM:=by
 intro p c z y t b u Q e ho r
 unfold aM at e
 split at e
 ·split at e
  ·rename_i ds hz
   cases e
   obtain ⟨vs,e1,r1⟩:=ho
   exact ⟨.lst (vs++ [u]), .non,rfl,fun le=>⟨_,upd_same,(r1.mono le).append (Reps.one (Rep.mono le r))⟩,fun q=>⟨b,vs,u,rfl,rfl,e1,by rw [r1.len]; exact hz,q⟩⟩
  ·cases e
 ·cases e
noncomputable def dN (c z:D):Option (D×D):=match c,z with
 | .lst ds, .lst es=>if ds.length+es.length≤sizeLine then some (.lst (ds++es), .non) else none
 | _,_=>none
theorem uJ:Chg2 G (fun x y H Q=>rExtend x [y] H Q) dN:=by
 intro p c z y t b u Q e ho r
 unfold dN at e
 split at e
 ·split at e
  ·rename_i ds es hz
   cases e
   obtain ⟨vs,e1,r1⟩:=ho
   obtain ⟨b',us,rfl,⟨_,e2⟩,r2⟩:=r
   exact ⟨.lst (vs++us), .non,rfl,fun le=>⟨_,upd_same,(r1.mono le).append (r2.mono le)⟩,fun q=>⟨b,b',vs,us,rfl,rfl,e1,e2,by rw [r1.len,r2.len]; exact hz,q⟩⟩
  ·cases e
 ·cases e
def fPop (c:D):Option (D×D):=match c with
 | .lst ds=>match ds[ds.length - 1]? with
  | some t=>some (.lst ds.dropLast,t)
  | none=>none
 | _=>none
theorem h_pop:Chg1 G (fun x H Q=>rPop x [] H Q) fPop:=by
 intro p c y t b Q e ho
 unfold fPop at e
 split at e
 ·rename_i ds
  split at e
  ·rename_i e0
   cases e
   obtain ⟨vs,e1,r1⟩:=ho
   obtain ⟨w,e2,r2⟩:=r1.get e0
   have e3:vs.dropLast=vs.take (ds.length - 1):=by rw [List.dropLast_eq_take,r1.len]
   have r3:Reps G p ds.dropLast vs.dropLast:=by rw [e3,List.dropLast_eq_take]; exact r1.take _
   exact ⟨.lst vs.dropLast,w,r2,fun le=>⟨_,upd_same,r3.mono le⟩,fun q=>⟨b,vs,w,rfl,rfl,e1,by rw [r1.len]; exact e2,q⟩⟩
  ·cases e
 ·cases e
def dZ (c:D):Option (D×D):=match c with
 | .lst ds=>some (.lst ds.reverse, .non)
 | _=>none
theorem sk:Chg1 G (fun x H Q=>rReverse x [] H Q) dZ:=by
 intro p c y t b Q e ho
 unfold dZ at e
 split at e
 ·cases e
  obtain ⟨vs,e1,r1⟩:=ho
  exact ⟨.lst vs.reverse, .non,rfl,fun le=>⟨_,upd_same,r1.reverse.mono le⟩,fun q=>⟨b,vs,rfl,rfl,e1,q⟩⟩
 ·cases e
def dO (c:D):Option (D×D):=match c with
 | .lst ds=>some (.lst [], .non)
 | _=>none
theorem h_clear:Chg1 G (fun x H Q=>rClear x [] H Q) dO:=by
 intro p c y t b Q e ho
 unfold dO at e
 split at e
 ·cases e
  obtain ⟨vs,e1,r1⟩:=ho
  exact ⟨.lst [], .non,rfl,fun le=>⟨_,upd_same,rfl⟩,fun q=>⟨b,vs,rfl,rfl,e1,q⟩⟩
 ·cases e
theorem mM {f:D→D→Option (D×D)}:∀(a b:Vl) (s:SD) c fs s',oB2 f a b s≠ .ex c fs s' :=by
 intro a b s c fs s'
 unfold oB2
 split
 ·split
  ·split
   ·rename_i y r _
    cases e:s.mod y a with
    | bad=>intro q; cases q
    | ok _ _=>intro q; cases q
    | ex _ _ _=>exact (iz _ _ _ _ _ _ e).elim
   ·intro q; cases q
  ·intro q; cases q
 ·intro q; cases q
theorem qV {f:D→Option (D×D)}:∀(a:Vl) (s:SD) c fs s',oB1 f a s≠ .ex c fs s' :=by
 intro a s c fs s'
 unfold oB1
 split
 ·split
  ·rename_i y r _
   cases e:s.mod y a with
   | bad=>intro q; cases q
   | ok _ _=>intro q; cases q
   | ex _ _ _=>exact (iz _ _ _ _ _ _ e).elim
  ·intro q; cases q
 ·intro q; cases q
def isL (s:SD) (a:Vl):Bool:=match s.cont a with
 | some (.lst _)=>true
 | _=>false
def zM2 (chk:SD→Vl→Bool) (f:Vl→Vl→SD→R Vl) (fa fb:SD→R Vl):SD→R Vl:=fun s=>(fa s).bind fun a s1=>if chk s1 a=true then (fb s1).bind fun b s2=>f a b s2 else .bad
def zM1 (f:Vl→SD→R Vl) (fa:SD→R Vl):SD→R Vl:=z1 f fa
theorem RE.next {tb:TE} {fb:SD→R Vl} {α:Type} {f:Vl→SD→R α} {P:α→SD→Prop} {Q:V→Hp→Prop} (hb:RE G W tb fb) (hN:Nl θ) (hR:Rel G E σ (τ++ [v]) H s (θ++ [a])) (hw:Wp ((fb s).bind fun b s2=>f b s2) P (XP G W E τ θ))
  (k:∀(b:Vl) (s2:SD) (u:V) (H2:Hp),Rel G E σ (τ++ [v]++ [u]) H2 s2 (θ++ [a]++ [b])→Wp (f b s2) P (XP G W E τ θ)→Q u H2):tb σ H Q:=by
 rw [ae] at hw
 by_cases c:∃j,a= .loc j
 ·obtain ⟨j,rfl⟩:=c
  obtain ⟨c1,c2⟩:=hR.unloc
  refine hb E σ τ H s θ _ hN hR.pop (hw.mono (fun b s2 hw u H2 h2=>k _ _ _ _ ?_ hw) fun _ _ _ h=>h)
  exact (h2.reloc c2).swap hR.pop.tlen
 ·exact hb E σ _ H s _ _ (hN.snoc fun j q=>c ⟨j,q⟩) hR (hw.mono (fun b s2 hw u H2 h2=>k _ _ _ _ h2 hw) fun _ _ _ h=>h.up)
theorem RE.bm {T:String} {chk:SD→Vl→Bool} {r:V→List V→Hp→VK→Prop} {f:Vl→Vl→SD→R Vl} {ta tb:TE} {fa fb:SD→R Vl} (hk:∀(p:Wr) (s:SD) (a:Vl) (v:V),chk s a=true→(∀x,s.cont a=some x→Cont G p x v)→tyV G.K T v p.H) (hp:bN G (fun x y H Q=>r x [y] H Q) f)
  (nx:∀a b s c fs s',f a b s≠ .ex c fs s') (ha:RE G W ta fa) (hb:RE G W tb fb):RE G W (tBM G.K T r ta (tCons tb tNil)) (zM2 chk f fa fb):=by
 intro E σ τ H s θ Q hN hR hw
 unfold zM2 at hw
 rw [ae] at hw
 refine ha E σ τ H s θ _ hN hR (hw.mono (fun a s1 hw v H1 h1=>?_) fun _ _ _ h=>h)
 split at hw
 ·rename_i c
  have h0:=h1
  obtain ⟨p,rfl,hl,h⟩:=h1.unsnoc
  refine ⟨hk p s1 a v c (bL hl h).2.1, ?_⟩
  refine RE.next (Q:=fun u H2=>r v [u] H2 Q) hb hN h0 hw fun b s2 u H2 h2 hw=>?_
  obtain ⟨p,rfl,hl,h⟩:=h2.unsnoc
  rw [List.map_append,List.map_append,←List.append_assoc,←List.append_assoc] at h
  refine hp E σ τ s2 θ p v u a b Q hl h ?_
  cases e:f a b s2 with
  | ok b s2=>rw [e] at hw; exact hw
  | ex c fs s2=>exact (nx _ _ _ _ _ _ e).elim
  | bad=>rw [e] at hw; exact hw
 ·exact hw.elim
theorem RE.bm0 {T:String} {r:V→List V→Hp→VK→Prop} {f:Vl→SD→R Vl} {ta:TE} {fa:SD→R Vl} (hp:ik G (fun x H Q=>tyV G.K T x H∧r x [] H Q) f) (nx:∀a s c fs s',f a s≠ .ex c fs s') (ha:RE G W ta fa):RE G W (tBM0 G.K T r ta) (z1 f fa):=RE.op1 (r:=fun x H Q=>tyV G.K T x H∧r x [] H Q) hp nx ha
theorem iC:∀(p:Wr) (s:SD) (a:Vl) (v:V),isL s a=true→(∀x,s.cont a=some x→Cont G p x v)→tyV G.K "list" v p.H:=by
 intro p s a v h c
 unfold isL at h
 split at h
 ·rename_i e
  obtain ⟨b,vs,rfl,hb,_⟩:=(c _ e).lst
  exact .inl ⟨rfl,vs, .of hb⟩
 ·cases h
theorem p_lm0 {r:V→List V→Hp→VK→Prop} {f:D→Option (D×D)} (hf:Chg1 G (fun x H Q=>r x [] H Q) f) (hl:∀c y,f c=some y→∃ds,c= .lst ds):ik G (fun x H Q=>tyV G.K "list" x H∧r x [] H Q) (oB1 f):=p_chg1 fun p c y t b Q e ho=>by
 obtain ⟨ho',w,r1,hy,k⟩:=hf p c y t b Q e ho
 refine ⟨ho',w,r1,hy,fun q=>⟨?_,k q⟩⟩
 obtain ⟨ds,rfl⟩:=hl c _ e
 obtain ⟨vs,e1,_⟩:=ho
 exact .inl ⟨rfl,vs, .of e1⟩
def fDClear (c:D):Option (D×D):=match c with
 | .dct ds=>some (.dct [], .non)
 | _=>none
def fS (G:Gc) (f:Str) (cls:List Str):Prop:=∀c∈cls,∀C,G.mg c=some (.ref C)→Cls G.K C∧NoAttr G.K C f
noncomputable def au (cls:List Str) (f:Str) (a:Vl) (s:SD):R Vl:=match s.cont a with
 | some (.obj c fs)=>if c∈cls then match bI fs f with
  | some x=> .ok (.d x) s
  | none=> .bad
  else .bad
 | _=> .bad
theorem RE.fld {cls:List Str} {f:Str} {ta:TE} {fa:SD→R Vl} (hf:fS G f cls) (ha:RE G W ta fa):RE G W (tFld G.K ta f) (z1 (au cls f) fa):=by
 refine RE.op1 (r:=fun x H1 Q=>∃a C dx fs v,x= .ref a∧H1 a=some (.ins C dx fs)∧Cls G.K C∧NoAttr G.K C f∧fs.lookup f=some v∧Q v H1) ?_ ?_ ha
 ·intro E σ τ s θ p v a Q hl h hw
  obtain ⟨h0,ca,_⟩:=bL hl h
  unfold au at hw
  split at hw
  ·rename_i c fs e
   obtain ⟨b,C,dx,vs,rfl,hm,hb,r⟩:=(ca _ e).obj
   split at hw
   ·rename_i hc
    split at hw
    ·rename_i x e1
     obtain ⟨v,e2,r2⟩:=r.val.1 x e1
     obtain ⟨c1,c2⟩:=hf c hc C hm
     exact ⟨b,C,dx,vs,v,rfl,hb,c1,c2,e2,aR h0 hl hw r2⟩
    ·exact hw.elim
   ·exact hw.elim
  ·exact hw.elim
 ·intro a s c fs s'
  unfold au
  split
  ·split
   ·split<;> (intro q; cases q)
   ·intro q; cases q
  ·intro q; cases q
noncomputable def cF (cls:List Str) (f:Str) (fo fv:SD→R Vl):SD→R Fl:=fun s=>(fv s).bind fun v s0=>(s0.fix v).bind fun x s1=>(fo s1).bind fun a s2=>match s2.cont a with
 | some (.obj c fs)=>if c∈cls∧fs.length<1000 then (s2.mod (.obj c (gb f x fs)) a).bind fun _ s3=> .ok .nx s3 else .bad
 | _=> .bad
theorem RS.fld {cls:List Str} {f:Str} {ta tv:TE} {fo fv:SD→R Vl} (hf:fS G f cls) (hv:RE G W tv fv) (ho:RE G W ta fo):RS G W (sFld G.K ta tv f) (cF cls f fo fv):=by
 intro E σ τ H s θ D hN hR hw
 unfold cF at hw
 refine RE.fix hv E σ τ H s θ _ hN hR ?_
 unfold aL pq
 rw [ae] at hw ⊢
 refine hw.mono (fun v0 s0 hw=>?_) fun _ _ _ h=>h
 rw [ae] at hw ⊢
 refine hw.mono (fun x s1 hw=>?_) fun _ _ _ h=>h
 intro y H1 h1
 rw [ae] at hw
 refine ho E σ _ H1 s1 _ _ hN.d h1 (hw.mono (fun a s2 hw v H2 h2=>?_) fun _ _ _ h=>h.up)
 obtain ⟨p,rfl,hl,h⟩:=h2.unsnoc
 obtain ⟨h3,ca,_⟩:=bL hl h
 split at hw
 ·rename_i c fs e
  split at hw
  ·rename_i hc
   rw [ae] at hw
   cases e3:s2.mod (.obj c (gb f x fs)) a with
   | bad=>rw [e3] at hw; exact hw.elim
   | ex _ _ _=>exact (iz _ _ _ _ _ _ e3).elim
   | ok _ s' =>
    rw [e3] at hw
    obtain ⟨b,rfl,hO,go⟩:=mod1 hl h e e3
    obtain ⟨C,dx,vs,m,e4,r⟩:=hO
    obtain ⟨c1,c2⟩:=hf c hc.1 C m
    rw [List.map_append,List.map_append,←List.append_assoc,←List.append_assoc] at h3
    obtain ⟨u',e5,ry⟩:=h3.ent _ _ af
    rw [←az h3.len,show List.map some [y]= [some y] from rfl,af] at e5
    cases e5
    obtain ⟨le,hl',hS⟩:=go (.ins C dx (putF f y vs)) fun le=>⟨C,dx,_,m,upd_same,RepF.put (Rep.mono le ry) (r.mono le)⟩
    refine ⟨b,C,dx,vs,rfl,e4,c1,c2,by rw [r.len]; exact hc.2,hw σ _ (Rel.pop (v:=y) (a:= .d x) ⟨_,rfl,hl',hS⟩)⟩
  ·exact hw.elim
 ·exact hw.elim
end
section
variable {X:Cx} {CX:CXT} {k:Nat} {f C:Addr} {fd:FuncData} {ps:List Str} {sp:Sp} {dvs:List V} {ds:List Value} {E:L2.St→XK} {x m:Str} {pos apos:Pos} {e o:Expr} {es:List Expr} {ta:TE} {t:TA}
def iu (C:Addr) (m:Str) (sp:Sp) (dvs:List V) (E:L2.St→XK) (ta:TE) (t:TA):TE:=fun σ H Q=>ta σ H fun x H1=>∃a dx fs,x= .ref a∧H1 a=some (.ins C dx fs)∧fs.lookup m=none∧
 t σ H1 fun vs H2=>sp (x::(vs++dvs)) H2 Q (E σ)
theorem qN {pl:Sem Bool} (he:PE X o ta) (c:Cls X.K C) (hm:Meth X.K C m f) (F:FnOk X.prog X.w X.K X.mg X.base CX k f fd ps sp) (hr:Room k X.A) (hb:Binds X.K fd ps ds) (hd:Vals dvs ds) (hx:∀σ,PassesAt CX X σ (E σ)) (ha:PA X (e::es) t)
  (hst:starEach (e::es) X.env=(false,eval e X.env)::starEach es X.env:=by rfl) (hpl:(backTo pos (starEach es X.env)).any (·.1)=false:=by rfl)
  (ht:eval (.Call (.Attribute o m apos) (e::es) [] pos) X.env=(do
   let ov←eval o X.env
   standAt apos.atName
   let (f,first)←holding [ov] (getMethod ov m pl)
   callWith pos f first (backTo pos (starEach (e::es) X.env)) (backToKw pos (keywordEach [] X.env))):=by rfl):
  PE X (.Call (.Attribute o m apos) (e::es) [] pos) (iu C m sp dvs E ta t):=by
 refine ⟨fun pins s σ H Q I h=>?_⟩
 refine PySem.W.methodCall_KW (pl:=pl) (thn (he.run pins s σ H _ I h) fun u s1 ⟨x,H1,I1,rx,a,dx,fs,ex,ea,l,q⟩=>?_) ht
 subst ex
 obtain rfl:u=Value.ref a:=rx
 refine getmeth_ok I1 ea c hm l ?_
 refine PySem.W.callWith_K (first:= [.ref a]) (h₀:=X.base) I.ok.mod.kin hm.kp (thn (ha.run pos pins s1 σ H1 _ I1 q) fun us s2 ⟨vs,H2,I2,r,q2⟩=>⟨I2.kIn, ?_⟩) hst hpl
 exact run_fnSD (us:= .ref a::us) (vs:= .ref a::vs) F hr hb hd (hx σ) I2 (.cons rfl r) q2
theorem oW {pl:Sem Bool} (he:PE X o ta) (c:Cls X.K C) (hm:Meth X.K C m f) (F:FnOk X.prog X.w X.K X.mg X.base CX k f fd ps sp) (hr:Room k X.A) (hb:Binds X.K fd ps ds) (hd:Vals dvs ds) (hx:∀σ,PassesAt CX X σ (E σ))
  (ht:eval (.Call (.Attribute o m apos) [] [] pos) X.env=(do
   let ov←eval o X.env
   standAt apos.atName
   let (f,first)←holding [ov] (getMethod ov m pl)
   callWith pos f first (backTo pos (starEach [] X.env)) (backToKw pos (keywordEach [] X.env))):=by rfl):
  PE X (.Call (.Attribute o m apos) [] [] pos) (iu C m sp dvs E ta tNil):=by
 refine ⟨fun pins s σ H Q I h=>?_⟩
 refine PySem.W.methodCall_KW (pl:=pl) (thn (he.run pins s σ H _ I h) fun u s1 ⟨x,H1,I1,rx,a,dx,fs,ex,ea,l,q⟩=>?_) ht
 subst ex
 obtain rfl:u=Value.ref a:=rx
 refine getmeth_ok I1 ea c hm l ?_
 exact PySem.W.callWith_K0 (first:= [.ref a]) I1.kIn hm.kp (run_fnSD (us:= [.ref a]) (vs:= [.ref a]) F hr hb hd (hx σ) I1 (.cons rfl .nil) q)
def tMakeS (C:Addr) (sp:Sp) (dvs:List V) (E:L2.St→XK) (t:TA):TE:=fun σ H Q=>t σ H fun vs H1=>∀x dx,H1 x=none→H1 dx=none→dx≠x→
 sp (.ref x::(vs++dvs)) (upd (upd H1 dx (.own x)) x (.ins C dx [])) (fun v H2=>v= .non∧H2 dx=some (.own x)∧Q (.ref x) H2) (fun cls d H2=>H2 dx=some (.own x)∧E σ cls d H2)
end
def zFn (n:Nat) (body:SD→R Fl) (ds:List D) (S:Sto):R Vl:=match body ⟨starts n ds,S⟩ with
 | .ok .nx s=> .ok (.d .non) s
 | .ok (.rt (.d x)) s=> .ok (.d x) s
 | .ok (.rt (.own x)) s=> .ok (.own x) s
 | .ok _ _=> .bad
 | .ex c fs s=> .ex c fs s
 | .bad=> .bad
abbrev FnV:=List D→Sto→R Vl
def goF (F:FnV) (ds:List D) (s:SD):R Vl:=match F ds s.st with
 | .ok a s' => .ok a {s with st:=s'.st}
 | .ex c fs s' => .ex c fs {s with st:=s'.st}
 | .bad=> .bad
def spF (G:Gc) (n:Nat) (F:FnV):Sp:=fun vs H Q X=>vs.length=n∧∃(E:En) (m:Nat) (p:Wr) (w:List (Option V)) (ŵ:List (Option Vl)) (S:Sto) (ds:List D),p.H=H∧Sm G E m p w ŵ S∧Reps G p ds vs∧
 Wp (F ds S) (fun a s' =>∀v (p' :Wr),Sm G E m p' (w++ [some v]) (ŵ++ [some a]) s'.st→Q v p'.H) (fun c fs s' =>∀cls d (p' :Wr),Sm G E m p' w ŵ s'.st→ExV G p' c fs cls d→X cls d p'.H)
section
variable {P:Program} {w:World} {K:PySem.W.Frag} {mg:Str→Option Value} {base:Heap}
theorem gi {G:Gc} {t:TS} {fz:SD→R Fl} {N:List Str} {n:Nat} {vs:List V} {H:Hp} {Q:VK} {X:XK} (hb:RS G (fun cls d _ H=>X cls d H) t fz) (hs:spF G n (zFn N.length fz) vs H Q X) (hn:n≤N.length):t {nx:=fun _ H' =>Q .non H',rt:=Q} (L2.start N vs) H:=by
 obtain ⟨hl,E,m,p,w,ŵ,S,ds,rfl,h,r,hw⟩:=hs
 have hd:ds.length=n:=by rw [←r.len]; exact hl
 have h0:=h.enter (N:=N) (m' :=N.length) r
 have ls:(starts N.length ds).length=N.length:=by unfold starts; simp; omega
 have hR:Rel G (E.of p S w ŵ) (L2.start N vs) [] p.H ⟨starts N.length ds,S⟩ []:=by
  refine ⟨p,rfl, ?_, ?_⟩
  ·show _=(starts N.length ds).length
   rw [ls]
   unfold L2.start
   simp [hl]
   omega
  ·show Sm G _ (starts N.length ds).length p _ _ _
   rw [ls]
   simpa using h0
 refine hb _ _ [] p.H _ [] _ (fun e h=>absurd h List.not_mem_nil) hR ?_
 unfold zFn at hw
 have push:∀{σ' :L2.St} {v:V} {H' :Hp} {s' :SD} {a:Vl},(∀j,a≠ .loc j)→Rel G (E.of p S w ŵ) σ' ([]++ [v]) H' s' ([]++ [a])→∃p' :Wr,p'.H=H'∧Sm G E m p' (w++ [some v]) (ŵ++ [some a]) s'.st:=fun {σ' v H' s' a} ha hR=>by
  obtain ⟨p',rfl,hl',h'⟩:=hR.unsnoc
  have ll:=az h'.len
  exact ⟨p',rfl,h.leave h' (k:=(s'.sl++([]:List Vl).map some).length) af (by rw [←ll]; exact af) ha⟩
 cases e:fz ⟨starts N.length ds,S⟩ with
 | bad=>rw [e] at hw; exact hw.elim
 | ex c fs s' =>
  rw [e] at hw
  intro cls d σ' H' hx
  obtain ⟨p',rfl,hl',h',x⟩:=hx
  exact hw cls d p' (h.after h') x
 | ok fl s' =>
  rw [e] at hw
  cases fl with
  | nx=>
   intro σ' H' hR'
   obtain ⟨p',rfl,h'⟩:=push (a:= .d .non) (fun j q=>nomatch q) (hR'.push (x:= .non) (v:= .non) fun _=>rfl)
   exact hw _ _ h'
  | bk=>exact hw.elim
  | ct=>exact hw.elim
  | rt a=>
   cases a with
   | loc j=>exact hw.elim
   | d x=>
    refine ⟨(fun j q=>nomatch q),fun σ' v H' hR' =>?_⟩
    obtain ⟨p',rfl,h'⟩:=push (a:= .d x) (fun j q=>nomatch q) hR'
    exact hw _ _ h'
   | own x=>
    refine ⟨(fun j q=>nomatch q),fun σ' v H' hR' =>?_⟩
    obtain ⟨p',rfl,h'⟩:=push (a:= .own x) (fun j q=>nomatch q) hR'
    exact hw _ _ h'
theorem kU {G:Gc} {n:Nat} {F:FnV}:∀vs H Q E,spF G n F vs H Q E→vs.length=n:=fun _ _ _ _ h=>h.1
theorem fnZ {x qual:Str} {st:Stmt} {f:Addr} {fd:FuncData} {N ps:List Str} {k:Nat} {fz:SD→R Fl} (F:L2.Fun K x qual st f fd) (S:FnScope N ps (L2.defScope st)) (hn:ps.length≤N.length)
  (hbody:∀(cdv:Value) (A:Around) (outer:List Env) (s:Shared) (H:Hp) (E:XK),Room k (A.deeper (envOfC qual (L2.defScope st) s.heap.objs.size f cdv))→
   ∃t,PSs (cxOf (L2.CX P w) P w K mg base N qual (L2.defScope st) f cdv A outer s H E) (L2.defBody st) t∧RS ⟨K,mg⟩ (fun cls d _ H=>E cls d H) t fz):FnOk P w K mg base (L2.CX P w) (k+1) f fd ps (spF ⟨K,mg⟩ ps.length (zFn N.length fz)):=
 F.okX S kU fun cdv A outer s H vs Q E hr h=>by
  obtain ⟨t,h1,h2⟩:=hbody cdv A outer s H E hr
  exact ⟨t,h1,gi h2 h hn⟩
theorem fnZ0 {x qual:Str} {st:Stmt} {f:Addr} {fd:FuncData} {N ps:List Str} {k:Nat} {fz:SD→R Fl} (F:L2.Fun K x qual st f fd) (S:FnScope N ps (L2.defScope st)) (hn:ps.length≤N.length)
  (hbody:∀(cdv:Value) (A:Around) (outer:List Env) (s:Shared) (H:Hp) (E:XK),Room k (A.deeper (envOfC qual (L2.defScope st) s.heap.objs.size f cdv))→
   ∃t,PSs (cxOf L2.CX0 P w K mg base N qual (L2.defScope st) f cdv A outer s H E).nox (L2.defBody st) t∧RS ⟨K,mg⟩ WF t fz):FnOk P w K mg base L2.CX0 (k+1) f fd ps (fun vs H Q E=>spF ⟨K,mg⟩ ps.length (zFn N.length fz) vs H Q (fun _ _ _=>False)):=
 F.ok S (fun _ _ _ _ h=>h.1) fun cdv A outer s H vs Q E hr h=>by
  obtain ⟨t,h1,h2⟩:=hbody cdv A outer s H E hr
  exact ⟨t,h1,gi (X:=fun _ _ _=>False) h2 h hn⟩
end
inductive DvOk:List V→List D→Prop where
 | nil:DvOk [] []
 | cons {v:V} {d:D} {vs:List V} {ds:List D} (h:d.sc=some v) (t:DvOk vs ds):DvOk (v::vs) (d::ds)
section
variable {G:Gc} {W:WX} {E:En} {σ:L2.St} {τ:List V} {H:Hp} {s s' :SD} {θ:List Vl} {v:V} {a b:Vl} {x:D} {p:Wr}
theorem qD (e:x.sc=some v):Rep G p x v:=by
 cases x<;> cases e<;> rfl
theorem DvOk.reps {vs:List V} {ds:List D} (h:DvOk vs ds):Reps G p ds vs:=by
 induction h with
 | nil=>rfl
 | cons h _ ih=>exact ⟨_,_,rfl,qD h,ih⟩
def bg (F:FnV) (dds:List D) (fr:SD→R (List D)):SD→R Vl:=fun s=>(fr s).bind fun ds s1=>goF F (ds++dds) s1
theorem goF_sp {F:FnV} {n:Nat} {ds:List D} {vs:List V} {Q:VK} (h:Sm G E s.sl.length p (σ++τ.map some) (s.sl++θ.map some) s.st) (hl:σ.length=s.sl.length) (r:Reps G p ds vs) (hn:vs.length=n)
  (hw:Wp (goF F ds s) (fun a s' =>∀v H',Rel G E σ (τ++ [v]) H' s' (θ++ [a])→Q v H') (XP G W E τ θ)):spF G n F vs p.H Q (WE W σ):=by
 refine ⟨hn,E,_,p,_,_,s.st,ds,rfl,h,r, ?_⟩
 unfold goF at hw
 cases e:F ds s.st with
 | bad=>rw [e] at hw; exact hw.elim
 | ok a s' =>
  rw [e] at hw
  intro v p' h'
  exact hw v _ (.snoc h' hl rfl)
 | ex c fs s' =>
  rw [e] at hw
  intro cls d p' h' x
  exact hw cls d σ _ ⟨p',rfl,hl,h',x⟩
theorem RE.call {F:FnV} {n:Nat} {dvs:List V} {dds:List D} {t:TA} {fr:SD→R (List D)} {k:Nat} (hd:DvOk dvs dds) (hr:RA G W t fr) (hm:Many fr k) (hn:k+dvs.length=n):RE G W (tCallSD (spF G n F) dvs (WE W) t) (bg F dds fr):=by
 intro E σ τ H s θ Q hN hR hw
 unfold bg at hw
 rw [ae] at hw
 refine hr E σ τ H s θ _ hN hR (hw.eq.mono (fun ds s1 ⟨e,hw⟩ vs H1 h1=>?_) fun _ _ _ h=>h)
 obtain ⟨p,rfl,hl,h,r⟩:=h1.args hR.tlen
 exact goF_sp h hl (r.append hd.reps) (by rw [List.length_append,r.len,hm _ _ _ e]; exact hn) hw
noncomputable def aG (c m:Str) (F:FnV) (dds:List D) (fo:SD→R Vl) (fr:SD→R (List D)):SD→R Vl:=fun s=>(fo s).bind fun a s1=>(s1.fix a).bind fun x s2=>match s2.cont (.d x) with
 | some (.obj c' fs)=>if c' =c∧bI fs m=none then (fr s2).bind fun ds s3=>goF F (x::(ds++dds)) s3 else .bad
 | _=> .bad
theorem RE.meth {c m:Str} {C:Addr} {F:FnV} {n:Nat} {dvs:List V} {dds:List D} {to:TE} {fo:SD→R Vl} {t:TA} {fr:SD→R (List D)} {k:Nat} (hC:G.mg c=some (.ref C)) (hd:DvOk dvs dds) (ho:RE G W to fo) (hr:RA G W t fr) (hm:Many fr k) (hn:k+dvs.length+1=n):
  RE G W (iu C m (spF G n F) dvs (WE W) to t) (aG c m F dds fo fr):=by
 intro E σ τ H s θ Q hN hR hw
 unfold aG at hw
 refine RE.fix ho E σ τ H s θ _ hN hR ?_
 unfold aL pq
 rw [ae] at hw ⊢
 refine hw.mono (fun a s1 hw=>?_) fun _ _ _ h=>h
 rw [ae] at hw ⊢
 refine hw.mono (fun x s2 hw=>?_) fun _ _ _ h=>h
 intro v H1 h1
 have h0:=h1
 obtain ⟨p,rfl,hl,h⟩:=h1.unsnoc
 obtain ⟨h3,ca,_⟩:=bL hl h
 split at hw
 ·rename_i c' fs e
  split at hw
  ·rename_i hc
   obtain ⟨b,C',dx,vs,rfl,hm',hb,r⟩:=(ca _ e).obj
   rw [hc.1,hC] at hm'
   cases hm'
   refine ⟨b,dx,vs,rfl,hb,r.val.2 hc.2, ?_⟩
   rw [ae] at hw
   refine hr E σ _ p.H s2 _ _ hN.d h0 (hw.eq.mono (fun ds s3 ⟨e,hw⟩ vs H2 h2=>?_) fun _ _ _ h=>h.up)
   have h2' :Rel G E σ (τ++(.ref b::vs)) H2 s3 (θ++(x::ds).map .d):=by simpa using h2
   obtain ⟨p2,rfl,hl2,h4,r2⟩:=h2'.args hR.tlen
   have r3:Reps G p2 (x::(ds++dds)) (.ref b::(vs++dvs)):=by
    obtain ⟨v1,r1,e1,q1,q2⟩:=r2
    cases e1
    exact ⟨_,_,rfl,q1,q2.append hd.reps⟩
   obtain ⟨v1,r1,e1,q1,q2⟩:=r2
   cases e1
   exact goF_sp h4 hl2 r3 (by rw [List.length_cons,List.length_append,q2.len,hm _ _ _ e]; exact hn) hw
  ·exact hw.elim
 ·exact hw.elim
end
section
variable {X:Cx} {CX:CXT} {k:Nat} {f C:Addr} {fd:FuncData} {ps:List Str} {sp:Sp} {dvs:List V} {ds:List Value} {E:L2.St→XK} {x:Str} {p pos:Pos} {e:Expr} {es:List Expr} {t:TA}
def qb (C:Addr) (sp:Sp) (dvs:List V) (E:L2.St→XK) (t:TA):TE:=fun σ H Q=>t σ H fun vs H1=>∀x dx,H1 x=none→H1 dx=none→dx≠x→
 sp (.ref x::(vs++dvs)) (upd (upd H1 dx (.own x)) x (.ins C dx [])) (fun v H2=>v= .non∧Q (.ref x) H2) (E σ)
theorem ud {pins:List (Addr×Obj)} {σ:L2.St} {H:Hp} {s:Shared} {Q:VK} {us:List Value} {vs:List V} (M:Mk X.K C f) (F:FnOk X.prog X.w X.K X.mg X.base CX k f fd ps sp) (hr:Room (k+1) X.A) (hb:Binds X.K fd ps ds) (hd:Vals dvs ds)
  (hx:PassesAt CX X σ (E σ)) (I:Inv X pins σ H s) (r:Vals vs us)
  (h:∀x dx,H x=none→H dx=none→dx≠x→sp (.ref x::(vs++dvs)) (upd (upd H dx (.own x)) x (.ins C dx [])) (fun v H2=>v= .non∧Q (.ref x) H2) (E σ)):
  wpAny (model X.prog X.w) X.A (call (.ref C) us) (EP X pins σ Q) X.xe s:=by
 have hq:=h (s.heap.objs.size+1) s.heap.objs.size (I.hok.fresh (Nat.le_succ _)) (I.hok.fresh (Nat.le_refl _)) (Nat.ne_of_lt (Nat.lt_succ_self _))
 have I2:=Inv.made (C:=C) I
 have r2:Vals (V.ref (s.heap.objs.size+1)::(vs++dvs)) (Value.ref (s.heap.objs.size+1)::(us++ds)):= .cons rfl (r.append hd)
 have hl:(Value.ref (s.heap.objs.size+1)::us++ds).length=ps.length:=by
  have e:=r2.length
  rw [F.len _ _ _ _ hq] at e
  exact e.symm
 refine wpAny_call (make_map (f:=f) I.kIn M.makes M.init (beq_iff_eq.mp M.fn) (codeAny_mono (F.run _ X.stack _ _ ⟨Value.ref (s.heap.objs.size+1)::us,[]⟩ (Value.ref (s.heap.objs.size+1)::(us++ds)) _ _ (E σ) (hr.make C us [])
  (I2.env0.make C us []) (hb _ (Value.ref (s.heap.objs.size+1)::us) I2.kIn hl) r2 hq) fun r s' hq' =>?_))
 cases r with
 | error e=>exact hx pins _ _ e s' I2 hq'
 | ok fl=>
  cases fl with
  | ret u=>
   obtain ⟨v,H',I3,rv,ev,q3⟩:=I2.after hq'
   subst ev
   exact ⟨rv,⟨V.ref (s.heap.objs.size+1),H',I3,rfl,q3⟩⟩
  | next=>exact False.elim hq'
  | brk=>exact False.elim hq'
  | cont=>exact False.elim hq'
theorem pe_makS (M:Mk X.K C f) (F:FnOk X.prog X.w X.K X.mg X.base CX k f fd ps sp) (hr:Room (k+1) X.A) (hg:Gl X x) (hm:X.mg x=some (.ref C)) (hb:Binds X.K fd ps ds) (hd:Vals dvs ds) (hx:∀σ,PassesAt CX X σ (E σ))
  (ha:PA X (e::es) t) (hdb:(x == ("__debug__" :Str))=false:=by decide) (he:starEach (e::es) X.env=(false,eval e X.env)::starEach es X.env:=by rfl) (hpl:(backTo pos (starEach es X.env)).any (·.1)=false:=by rfl):
  PE X (.Call (.Name x p) (e::es) [] pos) (qb C sp dvs E t):=by
 refine ⟨fun pins s σ H Q I h=>?_⟩
 refine wpAny_Call_Name_kw (ld_glob I hg hm ?_ hdb)
 refine PySem.W.callWith_K (h₀:=X.base) I.ok.mod.kin M.kp (thn (ha.run pos pins s σ H _ I h) fun us s1 ⟨vs,H1,I1,r,q⟩=>⟨I1.kIn, ?_⟩) he hpl
 exact ud M F hr hb hd (hx σ) I1 r q
end
def ef (c:Str) (F:FnV) (dds:List D) (fr:SD→R (List D)):SD→R Vl:=fun s=>(fr s).bind fun ds s1=>match F (.cell s1.st.nx::(ds++dds)) (s1.st.new (.obj c [])) with
 | .ok (.d .non) s' => .ok (.d (.cell s1.st.nx)) {s1 with st:=s'.st}
 | .ex c fs s' => .ex c fs {s1 with st:=s'.st}
 | _=> .bad
section
variable {G:Gc} {W:WX} {E:En} {σ:L2.St} {τ:List V} {H:Hp} {s s' :SD} {θ:List Vl} {v u:V} {a b:Vl} {x y:D} {p:Wr} {Q:VK}
theorem RE.make {c:Str} {C:Addr} {F:FnV} {n:Nat} {dvs:List V} {dds:List D} {t:TA} {fr:SD→R (List D)} {k:Nat} (hC:G.mg c=some (.ref C)) (hd:DvOk dvs dds) (hr:RA G W t fr) (hm:Many fr k) (hn:k+dvs.length+1=n):
  RE G W (qb C (spF G n F) dvs (WE W) t) (ef c F dds fr):=by
 intro E σ τ H s θ Q hN hR hw
 unfold ef at hw
 rw [ae] at hw
 refine hr E σ τ H s θ _ hN hR (hw.eq.mono (fun ds s1 ⟨e,hw⟩ vs H1 h1=>?_) fun _ _ _ h=>h)
 obtain ⟨p,rfl,hl,h,r⟩:=h1.args hR.tlen
 intro x dx hx hdx hne
 have q1:=h.alloc (o:= .own x) hdx
 have hx' :({p with H:=upd p.H dx (.own x)}:Wr).H x=none:=by show upd _ _ _ _=_; rw [upd_ne (Ne.symm hne)]; exact hx
 have q2:=q1.allocOwn (o:= .ins C dx []) (x:= .obj c []) hx' ⟨C,dx,[],hC,upd_same,rfl⟩
 have ll:(σ++τ.map some).length=(s1.sl++θ.map some).length:=h.len
 have q3:=q2.celled (k:=(s1.sl++θ.map some).length) (a:=x) af (by rw [←ll]; exact af)
 rw [dS] at q3
 have le1:=(cm (p:=p) (o:= .own x) hdx).trans (gQ (o:= .ins C dx []) hx')
 have le2:∀{q:Wr},q.n=s1.st.nx→q.le {q with γ:=fun i=>if i=s1.st.nx then x else q.γ i,n:=s1.st.nx+1}:=fun {q} hq=>⟨fun i hi=>if_neg (by rw [hq] at hi; omega),by rw [hq]; exact Nat.le_succ _,fun b u n e=>⟨.inl e,n⟩⟩
 have le:=le1.trans (le2 q2.pn)
 obtain ⟨v0,e0,r0⟩:=q3.ent _ (.d (.cell s1.st.nx)) af
 rw [←ll,af] at e0
 cases e0
 refine ⟨by rw [List.length_cons,List.length_append,r.len,hm _ _ _ e]; exact hn,E,_,_,_,_,_, .cell s1.st.nx::(ds++dds),rfl,q3,⟨_,_,rfl,r0,(r.mono le).append hd.reps⟩, ?_⟩
 cases e1:F (.cell s1.st.nx::(ds++dds)) (s1.st.new (.obj c [])) with
 | bad=>rw [e1] at hw; exact hw.elim
 | ex c fs s' =>
  rw [e1] at hw
  intro cls d p' h' x
  exact hw cls d σ _ ⟨p',rfl,hl,h'.pop1 (bb hl),x⟩
 | ok a s' =>
  rw [e1] at hw
  cases a with
  | own y=>exact hw.elim
  | loc j=>exact hw.elim
  | d y=>
   cases y with
   | non=>
    intro v p' h'
    have l2:=az h'.len
    obtain ⟨v1,e2,r1⟩:=h'.ent _ _ af
    rw [←l2,af] at e2
    cases e2
    have e3:v= .non:=r1
    exact ⟨e3,hw (.ref x) _ (.snoc (h'.pop1 (by simp; omega)) hl rfl)⟩
   | _=>exact hw.elim
theorem RE.cb1 {r:List V→Hp→VK→Prop} {f:Vl→SD→R Vl} {ta:TE} {fa:SD→R Vl} (hp:ik G (fun v H Q=>r [v] H Q) f) (nx:∀a s c fs s',f a s≠ .ex c fs s') (ha:RE G W ta fa):RE G W (tCB r (tCons ta tNil)) (z1 f fa):=
 RE.op1 (r:=fun v H Q=>r [v] H Q) hp nx ha
theorem RE.cb2 {r:List V→Hp→VK→Prop} {f:Vl→Vl→SD→R Vl} {ta tb:TE} {fa fb:SD→R Vl} (hp:bN G (fun v u H Q=>r [v,u] H Q) f) (nx:∀a b s c fs s',f a b s≠ .ex c fs s') (ha:RE G W ta fa) (hb:RE G W tb fb):RE G W (tCB r (tCons ta (tCons tb tNil))) (z2 f fa fb):=
 RE.op2 (r:=fun v u H Q=>r [v,u] H Q) hp nx ha hb
theorem p_len:ik G (fun v H Q=>rLenZ G.K [v] H Q) bf:=by
 intro E σ τ s θ p v a Q hl h hw
 obtain ⟨h0,ca,_⟩:=bL hl h
 unfold bf at hw
 split at hw
 ·rename_i e
  obtain ⟨b,vs,rfl,hb,r⟩:=(ca _ e).lst
  exact .inl ⟨b,vs,rfl, .inl (.of hb),by rw [r.len]; exact aR h0 hl hw rfl⟩
 ·rename_i e
  obtain ⟨b,vs,rfl,hb,r⟩:=(ca _ e).con
  exact .inl ⟨b,vs,rfl, .inl hb,by rw [r.len]; exact aR h0 hl hw rfl⟩
 ·rename_i e
  obtain ⟨b,vs,rfl,hb,r⟩:=(ca _ e).tup
  exact .inl ⟨b,vs,rfl, .inr (.of hb),by rw [r.len]; exact aR h0 hl hw rfl⟩
 ·rename_i e
  obtain rfl:=(ca _ e).str
  split at hw
  ·rename_i hz
   exact .inr (.inl ⟨_,rfl,hz,aR h0 hl hw rfl⟩)
  ·exact hw.elim
 ·rename_i e
  obtain ⟨b,vs,rfl,hb,r⟩:=(ca _ e).dct
  exact .inr (.inr ⟨b,vs,rfl,hb,by rw [r.len]; exact aR h0 hl hw rfl⟩)
 ·exact hw.elim
def tR:Key→D
 | .inl i=> .int i
 | .inr z=> .str z
theorem jo {k:Key}:Rep G p (tR k) (kV k):=by cases k<;> rfl
theorem ko:∀{ks:List (Key×D)} {vs:List (Key×V)},RepK G p ks vs→Reps G p (ks.map fun kv=>tR kv.1) (vs.map fun kv=>kV kv.1)
 | [],_,h=>by rw [show _= [] from h]; exact rfl
 | (k,d)::ks,_,h=>by
  obtain ⟨v,r,rfl,h1,h2⟩:=h
  exact ⟨_,_,rfl,jo,ko h2⟩
noncomputable def aZ (a:Vl) (s:SD):R Vl:=match s.cont a with
 | some (.lst xs)=> .ok (.own (.lst xs)) s
 | some (.con xs)=> .ok (.own (.lst xs)) s
 | some (.tup xs)=> .ok (.own (.lst xs)) s
 | some (.dct ks)=> .ok (.own (.lst (ks.map fun kv=>tR kv.1))) s
 | _=> .bad
def mG (K:PySem.W.Frag):List V→Hp→VK→Prop:=fun xs H Q=>qH K xs H Q∨qI xs H Q
theorem bC {X:Cx} {K:PySem.W.Frag} (hc:X.calm=true) (hK:X.K=K:=by rfl):CallR X (.type "list") (mG K):=CallR.or (hK ▸ pe) (uW hc)
theorem p_list:ik G (fun v H Q=>mG G.K [v] H Q) aZ:=by
 intro E σ τ s θ p v a Q hl h hw
 obtain ⟨h0,ca,_⟩:=bL hl h
 unfold aZ at hw
 split at hw
 ·rename_i e
  obtain ⟨b,vs,rfl,hb,r⟩:=(ca _ e).lst
  exact .inl ⟨b,vs,rfl, .inl (.of hb),fun l hn=>bM h0 hl hw hn r⟩
 ·rename_i e
  obtain ⟨b,vs,rfl,hb,r⟩:=(ca _ e).con
  exact .inl ⟨b,vs,rfl, .inl hb,fun l hn=>bM h0 hl hw hn r⟩
 ·rename_i e
  obtain ⟨b,vs,rfl,hb,r⟩:=(ca _ e).tup
  exact .inl ⟨b,vs,rfl, .inr (.of hb),fun l hn=>bM h0 hl hw hn r⟩
 ·rename_i e
  obtain ⟨b,vs,rfl,hb,r⟩:=(ca _ e).dct
  exact .inr ⟨b,vs,rfl,hb,fun l hn=>bM h0 hl hw hn (ko r)⟩
 ·exact hw.elim
def kF (ks:List (Key×D)):List (Key×D):=ks.foldl (fun acc kv=>dput acc kv.1 kv.2) []
def pairs:List D→Option (List (Key×D))
 | []=>some []
 | .tup [k,d]::ds=>match k.key,pairs ds with
  | some k,some r=>some ((k,d)::r)
  | _,_=>none
 | _=>none
noncomputable def oDict (a:Vl) (s:SD):R Vl:=match s.cont a with
 | some (.dct ks)=> .ok (.own (.dct ks)) s
 | some (.lst ds)=>match pairs ds with
  | some ks=> .ok (.own (.dct (kF ks))) s
  | none=> .bad
 | _=> .bad
def rDictZ (K:PySem.W.Frag):List V→Hp→VK→Prop:=fun xs H Q=>rDictD xs H Q∨∃(a:Addr) (ps:List Addr) (kvs:List (Key×V)),xs= [.ref a]∧SqL K H a (ps.map V.ref)∧Paired (fun p kv=>SqT K H p [kV kv.1,kv.2]) ps kvs∧
  ∀p,H p=none→Q (.ref p) (upd H p (.dK (mergeK [] kvs)))
def fQ:List D→Option (List Int)
 | []=>some []
 | .int i::ds=>match fQ ds with
  | some is=>some (i::is)
  | none=>none
 | _=>none
theorem gY:∀{ds:List D} {vs:List V} {is:List Int},Reps G p ds vs→fQ ds=some is→vs=is.map V.int
 | [],vs,is,h,e=>by cases e; exact h
 | d::ds,vs,is,h,e=>by
  obtain ⟨v,r,rfl,h1,h2⟩:=h
  unfold fQ at e
  split at e
  ·rename_i heq; cases heq
  ·rename_i heq
   cases heq
   split at e
   ·rename_i e1
    cases e
    rw [List.map_cons,gY h2 e1,show v= .int _ from h1]
   ·cases e
  ·cases e
def ikeys:List (Key×D)→Option (List Int)
 | []=>some []
 | (.inl i,_)::ks=>match ikeys ks with
  | some is=>some (i::is)
  | none=>none
 | _=>none
def srt (ns:List Int):List Int:=ns.mergeSort fun a b=>decide (a≤b)
noncomputable def oSorted (a:Vl) (s:SD):R Vl:=match s.cont a with
 | some (.lst ds)=>match fQ ds with
  | some is=> .ok (.own (.lst ((srt is).map D.int))) s
  | none=> .bad
 | some (.dct ks)=>match ikeys ks with
  | some is=>if is.length<64 then .ok (.own (.lst ((srt is).map D.int))) s else .bad
  | none=> .bad
 | _=> .bad
def rSortedZ (K:PySem.W.Frag):List V→Hp→VK→Prop:=fun xs H Q=>rSortedI K xs H Q∨qG xs H Q
noncomputable def oSum (a:Vl) (s:SD):R Vl:=match s.cont a with
 | some (.lst ds)=>match fQ ds with
  | some is=> .ok (.d (.int is.sum)) s
  | none=> .bad
 | _=> .bad
def uV:List D→Option (List Bool)
 | []=>some []
 | .bl i::ds=>match uV ds with
  | some is=>some (i::is)
  | none=>none
 | _=>none
theorem og:∀{ds:List D} {vs:List V} {is:List Bool},Reps G p ds vs→uV ds=some is→vs=is.map V.bl
 | [],vs,is,h,e=>by cases e; exact h
 | d::ds,vs,is,h,e=>by
  obtain ⟨v,r,rfl,h1,h2⟩:=h
  unfold uV at e
  split at e
  ·rename_i heq; cases heq
  ·rename_i heq
   cases heq
   split at e
   ·rename_i e1
    cases e
    rw [List.map_cons,og h2 e1,show v= .bl _ from h1]
   ·cases e
  ·cases e
noncomputable def oAll (a:Vl) (s:SD):R Vl:=match s.cont a with
 | some (.lst ds)=>match uV ds with
  | some bs=> .ok (.d (.bl (bs.all id))) s
  | none=> .bad
 | _=> .bad
noncomputable def oAny (a:Vl) (s:SD):R Vl:=match s.cont a with
 | some (.lst ds)=>match uV ds with
  | some bs=> .ok (.d (.bl (bs.any id))) s
  | none=> .bad
 | _=> .bad
theorem p_all:ik G (fun v H Q=>rAll G.K [v] H Q) oAll:=by
 intro E σ τ s θ p v a Q hl h hw
 obtain ⟨h0,ca,_⟩:=bL hl h
 unfold oAll at hw
 split at hw
 ·rename_i e
  split at hw
  ·rename_i e1
   obtain ⟨b,vs,rfl,hb,r⟩:=(ca _ e).lst
   obtain rfl:=og r e1
   exact ⟨b,_,rfl, .of hb,aR h0 hl hw rfl⟩
  ·exact hw.elim
 ·exact hw.elim
def oAbs (a:Vl) (s:SD):R Vl:=match a with
 | .d (.int i)=> .ok (.d (.int (if i<0 then -i else i))) s
 | _=> .bad
def oInt (a:Vl) (s:SD):R Vl:=match a with
 | .d (.int i)=> .ok (.d (.int i)) s
 | .d (.bl b)=> .ok (.d (.int (if b then 1 else 0))) s
 | .d (.str z)=>match PySem.intText? z with
  | some n=>if z.length≤640 then .ok (.d (.int n)) s else .bad
  | none=> .bad
 | _=> .bad
def rIntZ:List V→Hp→VK→Prop:=fun xs H Q=>rInt1 xs H Q∨rIntS xs H Q
def oStr (a:Vl) (s:SD):R Vl:=match a with
 | .d (.int i)=>if i.natAbs.log2<1920 then .ok (.d (.str (toString i))) s else .bad
 | _=> .bad
def oMin (a b:Vl) (s:SD):R Vl:=match a,b with
 | .d (.int i), .d (.int j)=> .ok (.d (.int (if j<i then j else i))) s
 | _,_=> .bad
def oMax (a b:Vl) (s:SD):R Vl:=match a,b with
 | .d (.int i), .d (.int j)=> .ok (.d (.int (if j > i then j else i))) s
 | _,_=> .bad
theorem last2v (hl:σ.length=s.sl.length) (h:Sm G E s.sl.length p (((σ++τ.map some)++ [some v])++ [some u]) (((s.sl++θ.map some)++ [some (.d x)])++ [some (.d y)]) s.st):Rep G p x v∧Rep G p y u:=by
 have l:=az h.len
 obtain ⟨u',e1,r⟩:=h.ent _ _ af
 rw [←l,af] at e1; cases e1
 have h1:=h.pop1 (by simp; omega)
 obtain ⟨u',e1,r'⟩:=h1.ent _ _ af
 rw [←az h1.len,af] at e1; cases e1
 exact ⟨r',r⟩
end
section
variable {G:Gc} {W:WX} {E:En} {σ σ' :L2.St} {τ:List V} {H:Hp} {s s' :SD} {θ:List Vl} {v u:V} {a b:Vl} {x y:D} {p:Wr} {Q:VK} {m:Nat} {w:List (Option V)} {k:Nat}
def stO (f:D→D→Option D) (o i:Vl) (s:SD):R Unit:=match i with
 | .d z=>match s.cont o with
  | some c=>match f c z with
   | some y=>s.mod y o
   | none=> .bad
  | none=> .bad
 | _=> .bad
def StOk (G:Gc) (r:V→V→V→Hp→(Hp→Prop)→Prop) (f:D→D→D→Option D):Prop:=∀(p:Wr) (c z x y:D) (b:Addr) (i v:V) (Q:Hp→Prop),f x c z=some y→Ho G p c b→Rep G p z i→Rep G p x v→
 ∃ho,(p.le {p with H:=upd p.H b ho}→Ho G {p with H:=upd p.H b ho} y b)∧(Q (upd p.H b ho)→r (.ref b) i v p.H Q)
theorem st_go {r:V→V→V→Hp→(Hp→Prop)→Prop} {f:D→D→D→Option D} (hr:StOk G r f) {v o i:V} {a b:Vl} {x:D} {P:Unit→SD→Prop} {Ex:XQ} {R0:Hp→Prop} (h:Rel G E σ (τ++ [v]++ [o]++ [i]) H s (θ++ [.d x]++ [a]++ [b]))
  (hw:Wp (stO (f x) a b s) P Ex) (k:∀s' H',Rel G E σ τ H' s' θ→P () s'→R0 H'):r o i v H R0:=by
 obtain ⟨p,rfl,hl,h⟩:=h.unsnoc
 unfold stO at hw
 split at hw
 ·rename_i z
  obtain ⟨u',e4,r4⟩:=h.ent _ _ af
  rw [←az h.len,af] at e4
  cases e4
  have h1:=h.pop1 (bb hl)
  rw [show σ++(τ++ [v]++ [o]).map some=(σ++(τ++ [v]).map some)++ [some o] from by simp,show s.sl++(θ++ [Vl.d x]++ [a]).map some=(s.sl++(θ++ [Vl.d x]).map some)++ [some a] from by simp] at h1
  split at hw
  ·rename_i c e1
   split at hw
   ·rename_i y e2
    cases e3:s.mod y a with
    | bad=>rw [e3] at hw; exact hw.elim
    | ex _ _ _=>exact (iz _ _ _ _ _ _ e3).elim
    | ok _ s' =>
     rw [e3] at hw
     obtain ⟨b,rfl,ho,go⟩:=mod1 hl h1 e1 e3
     have h2:=h1.pop1 (bb hl)
     rw [show σ++(τ++ [v]).map some=(σ++τ.map some)++ [some v] from by simp,show s.sl++(θ++ [Vl.d x]).map some=(s.sl++θ.map some)++ [some (.d x)] from by simp] at h2
     obtain ⟨u',e5,r5⟩:=h2.ent _ _ af
     rw [←az h2.len,af] at e5
     cases e5
     obtain ⟨o',hy,k2⟩:=hr p c _ x y b i v R0 e2 ho r4 r5
     obtain ⟨le,hl',hS⟩:=go o' hy
     exact k2 (k s' _ (Rel.pop (v:=v) (a:= .d x) ⟨_,rfl,hl',hS⟩) hw)
   ·exact hw.elim
  ·exact hw.elim
 ·exact hw.elim
noncomputable def sN (x c z:D):Option D:=match c,z.key with
 | .dct ks,some k=>if ks.length<sizeLine then some (.dct (dput ks k x)) else none
 | _,_=>none
def rDput:V→V→V→Hp→(Hp→Prop)→Prop:=fun o i v H Q=>∃a H4,o= .ref a∧DPut H a i v H4∧Q H4
theorem h_dput:StOk G rDput sN:=by
 intro p c z x y b i v Q e ho ri rv
 unfold sN at e
 split at e
 ·split at e
  ·rename_i ks k e1 hz
   cases e
   obtain ⟨vs,e2,r⟩:=ho
   have h1:=jb ri e1
   subst h1
   exact ⟨_,fun le=>⟨_,upd_same,(r.mono le).put (Rep.mono le rv)⟩,fun q=>⟨b,_,rfl,DPut.k e2 (by rw [r.len]; exact hz),q⟩⟩
  ·cases e
 ·cases e
noncomputable def tU (fo fi fv:SD→R Vl):SD→R Fl:=fun s=>(fv s).bind fun v s0=>(s0.fix v).bind fun x s1=>((fo s1).bind fun o s2=>(fi s2).bind fun i s3=>stO (sN x) o i s3).bind fun _ s4=> .ok .nx s4
theorem RS.dput {td ty tv:TE} {fo fi fv:SD→R Vl} (ho:RE G W td fo) (hi:RE G W ty fi) (hv:RE G W tv fv):RS G W (sDPut td ty tv) (tU fo fi fv):=by
 intro E σ τ H s θ D hN hR hw
 unfold tU at hw
 refine RE.fix hv E σ τ H s θ _ hN hR ?_
 unfold aL pq
 rw [ae] at hw ⊢
 refine hw.mono (fun v0 s0 hw=>?_) fun _ _ _ h=>h
 rw [ae] at hw ⊢
 refine hw.mono (fun x s1 hw=>?_) fun _ _ _ h=>h
 intro v H1 h1
 rw [ae] at hw
 refine RE.two (Q:=fun o i H3=>∃a H4,o= .ref a∧DPut H3 a i v H4∧D.nx σ H4) ho hi hN.d h1 (hw.mono (fun _ _ h=>h) fun _ _ _ h=>h.up) fun a b s2 o i H2 h2 hw=>?_
 exact st_go h_dput h2 hw fun s' H' h' hw=>hw σ H' h'
def dJ (x c z:D):Option D:=match c,z with
 | .lst ds, .int k=>match ixN ds.length k with
  | some j=>some (.lst (ds.set j x))
  | none=>none
 | _,_=>none
theorem h_setL:StOk G rSetL dJ:=by
 intro p c z x y b i v Q e ho ri rv
 unfold dJ at e
 split at e
 ·split at e
  ·rename_i ds k _ j e1
   cases e
   obtain ⟨vs,e2,r⟩:=ho
   have h1:i= .int k:=ri
   subst h1
   exact ⟨_,fun le=>⟨_,upd_same,(r.mono le).set (Rep.mono le rv) j⟩,fun q=>⟨b,vs,k,j,rfl,rfl,e2,by rw [r.len]; exact e1,q⟩⟩
  ·cases e
 ·cases e
def tS (fo fi:SD→R Vl) (a:Vl) (s:SD):R Unit:=(s.fix a).bind fun x s1=>(fo s1).bind fun o s2=>(fi s2).bind fun i s3=>stO (dJ x) o i s3
theorem RG.sub {to ti:TE} {fo fi:SD→R Vl} (ho:RE G W to fo) (hi:RE G W ti fi):RG G W [] (gSub to ti rSetL) (tS fo fi):=by
 intro E σ τ H s θ v a Q hN hR hw
 unfold tS at hw
 rw [ae] at hw
 obtain ⟨p,rfl,hl,h⟩:=hR.unsnoc
 cases e:s.fix a with
 | bad=>rw [e] at hw; exact hw.elim
 | ex c fs s2=>exact (nN _ _ _ _ _ e).elim
 | ok x s2=>
  rw [e] at hw
  obtain ⟨p',hp,hs,h'⟩:=sL E s _ x s2 p _ _ v e h (bb hl)
  have hR2:Rel G E σ (τ++ [v]) p.H s2 (θ++ [.d x]):=hp ▸ .snoc h' (hl.trans hs.symm) rfl
  refine RE.two (Q:=fun o i H2=>rSetL o i v H2 fun H3=>Q σ H3) ho hi hN.d hR2 (Wp.mono (show Wp ((fo s2).bind fun o s2=>(fi s2).bind fun i s3=>stO (dJ x) o i s3) _ _ from hw) (fun _ _ h=>h) fun _ _ _ h=>h.up) fun a b s2 o i H2 h2 hw=>?_
  exact st_go h_setL h2 hw fun s' H' h' hw=>hw σ H' h' ⟨rfl,fun _ _=>rfl⟩
def zAug (i:Nat) (f:Int→Int→Int) (fe:SD→R Vl):SD→R Fl:=fun s=>match s.sl[i]? with
 | some (some (.d (.int m)))=>(fe s).bind fun b s1=>match b with
  | .d (.int n)=> .ok .nx {s1 with sl:=s1.sl.set i (some (.d (.int (f m n))))}
  | _=> .bad
 | _=> .bad
theorem aam {i:Nat} {te:TE} {f:Int→Int→Int} {fe:SD→R Vl} (he:RE G W te fe):RS G W (tAug i te (ipI f)) (zAug i f fe):=by
 intro E σ τ H s θ D hN hR hw
 unfold zAug at hw
 split at hw
 ·rename_i m e
  obtain ⟨p,rfl,hl,h⟩:=hR
  obtain ⟨hs,u,e1,r⟩:=h.slot e
  obtain rfl:u= .int m:=r
  rw [List.getElem?_append_left (by rw [hl]; exact ag e)] at e1
  rw [ae] at hw
  refine ⟨.int m,e1,he E σ τ p.H s θ _ hN ⟨p,rfl,hl,h⟩ (hw.mono (fun b s1 hw y H1 h1=>?_) fun _ _ _ h=>h)⟩
  split at hw
  ·rename_i n
   obtain ⟨p1,rfl,r1⟩:=h1.last
   obtain rfl:y= .int n:=r1
   refine ⟨m,n,rfl,rfl,hw _ _ ?_⟩
   exact (h1.pop.push (x:= .int (f m n)) (v:= .int (f m n)) fun _=>rfl).store hN fun j q=>nomatch q
  ·exact hw.elim
 ·exact hw.elim
theorem su {X:Cx} {K:PySem.W.Frag} (hK:X.K=K:=by rfl):PGet X (rIxL K):=by
 subst hK
 intro pins s σ H x y v u Q I rx ry h
 obtain ⟨p,xs,i,z,rfl,rfl,hq,he,q⟩:=h
 cases rx
 obtain ⟨t,rfl⟩:=ry
 obtain ⟨its,r,pl,hz⟩:=I.list hq
 obtain ⟨j,h1,h2,h3,h4,h5⟩:=atI_get he
 obtain ⟨w,ew,rw'⟩:=r.get h2
 have hl:=r.length
 have hn:=line63
 have fin:EP X pins σ Q w s:=⟨z,H,I,rw',q⟩
 by_cases h0:0≤i
 ·have hj:i.toNat=j:=by
   rw [seqIndex_of h0 h5] at h1
   exact Option.some.inj h1
  exact wpAny_getItem_list pl.isList h0 (by omega) (by rw [hj]; simpa using ew) fin
 ·have hj:(i+(its.toArray.size:Int)).toNat=j:=by
   rw [seqIndex_neg (by omega) h4] at h1
   rw [List.size_toArray,←hl]
   exact Option.some.inj h1
  exact wpAny_getItem_list_neg pl.isList (by omega) (by rw [List.size_toArray]<;> omega) (by omega) (by rw [hj]; simpa using ew) fin
noncomputable def gD (c z:D):Option Int:=match c,z.key with
 | .dct ks,some k=>match kA ks k with
  | some (.int m)=>some m
  | _=>none
 | _,_=>none
def gL (c z:D):Option Int:=match c,z with
 | .lst ds, .int k=>match atI ds k with
  | some (.int m)=>some m
  | _=>none
 | _,_=>none
noncomputable def oN (g:D→D→Option Int) (st:D→D→D→Option D) (f:Int→Int→Int) (fo fi fe:SD→R Vl):SD→R Fl:=fun s=>((fo s).bind fun o s1=>(fi s1).bind fun i s2=>match i,s2.cont o with
 | .d z,some c=>match g c z,D.sc z with
  | some m,some _=>(fe s2).bind fun b s3=>match b with
   | .d (.int n)=>stO (st (.int (f m n))) o (.d z) s3
   | _=> .bad
  | _,_=> .bad
 | _,_=> .bad).bind fun _ s4=> .ok .nx s4
theorem aug_go {st:D→D→D→Option D} {f:Int→Int→Int} {r:V→V→V→Hp→(Hp→Prop)→Prop} {fe:SD→R Vl} {te:TE} {D0:Ends} {Q:V→Hp→Prop} {o i:V} {a:Vl} {z:D} {m:Int} {iv:V} (hr:StOk G r st) (he:RE G W te fe) (hN:Nl θ) (h:Rel G E σ (τ++ [o]++ [i]) H s (θ++ [a]++ [.d z])) (hz:z.sc=some iv)
  (hw:Wp ((fe s).bind fun b s3=>match b with
   | .d (.int n)=>stO (st (.int (f m n))) a (.d z) s3
   | _=> .bad) (fun _ s4=>∀σ' H',Rel G E σ' τ H' s4 θ→D0.nx σ' H') (XP G W E τ θ))
  (k:∀n H4,r o i (.int (f m n)) H4 (fun H6=>D0.nx σ H6)→Q (.int n) H4):te σ H Q:=by
 have hi:i=iv:=by
  obtain ⟨p,_,r⟩:=h.last
  exact cf r hz
 subst hi
 refine RE.next (v:=o) (a:=a) he hN h.pop hw fun b s2 y H2 h2 hw=>?_
 split at hw
 ·rename_i n
  obtain ⟨p1,_,r1⟩:=h2.last
  obtain rfl:y= .int n:=r1
  refine k n H2 ?_
  have h3:=h2.pop
  have h5:=(h3.push (x:= .int (f m n)) (v:= .int (f m n)) fun _=>rfl).swap (by have:=h3.tlen; simpa using this)
  exact st_go hr (h5.push (x:=z) (v:=i) fun _=>qD hz) hw fun s' H' h' hw=>hw σ H' h'
 ·exact hw.elim
theorem sc_cont {z:D} {iv:V} (e:z.sc=some iv):s.cont (.d z)=some z:=by cases z<;> first | rfl | cases e
theorem RS.laug {td ty tv:TE} {fo fi fv:SD→R Vl} {f:Int→Int→Int} (ho:RE G W td fo) (hi:RE G W ty fi) (hv:RE G W tv fv):RS G W (tAugS td ty tv (rIxL G.K) (ipI f) rSetL) (oN gL dJ f fo fi fv):=by
 intro E σ τ H s θ D hN hR hw
 unfold oN at hw
 rw [ae] at hw
 refine RE.two (Q:=fun o i H2=>rIxL G.K o i H2 fun x H3=>tv σ H3 fun y H4=>ipI f x y H4 fun z H5=>rSetL o i z H5 fun H6=>D.nx σ H6) ho hi hN hR hw fun a b s2 o i H2 h2 hw=>?_
 split at hw
 ·rename_i z c e1
  split at hw
  ·rename_i m iv e2 e3
   have h2' :=h2
   obtain ⟨p,rfl,hl,h⟩:=h2.unsnoc
   rw [List.map_append,List.map_append,←List.append_assoc,←List.append_assoc] at h
   obtain ⟨h0,ca,cb⟩:=cJ hl h
   unfold gL at e2
   split at e2
   ·rename_i ds k
    split at e2
    ·rename_i m' e5
     cases e2
     obtain ⟨b,vs,rfl,hb,r⟩:=(ca _ e1).lst
     obtain ⟨w,e6,rw⟩:=gu r e5
     obtain rfl:w= .int m:=rw
     obtain rfl:=(cb _ (sc_cont e3)).int
     exact ⟨b,vs,k, .int m,rfl,rfl, .of hb,e6,aug_go (D0:=D) (r:=rSetL) h_setL hv hN h2' e3 hw fun n H4 q=>⟨m,n,rfl,rfl,q⟩⟩
    ·cases e2
   ·cases e2
  ·exact hw.elim
 ·exact hw.elim
end
section
variable {X:Cx}
def rSlZ (K:PySem.W.Frag):V→Option Int→Option Int→Hp→VK→Prop:=fun x lo hi H Q=>rSlL K x lo hi H Q∨rSlS x lo hi H Q∨rSlT K x lo hi H Q
theorem sl_Z {K:PySem.W.Frag} (hK:X.K=K:=by rfl):SlR X (rSlZ K):=SlR.or (m_slL hK) (SlR.or sl_str (hK ▸ sl_tup))
def tLk (t:TE):TE:=fun σ H Q=>t σ H fun x H1=>∃d u,x= .ref d∧((H1 d=some u∧Mut (some u)∧∀od,Q x (upd H1 d (.frz od u)))∨∃od,H1 d=some (.frz od u)∧Q x H1)
end
section
variable {G:Gc} {W:WX} {E:En} {σ:L2.St} {τ τ2:List V} {H:Hp} {s s' :SD} {θ θ2:List Vl} {v:V} {a b:Vl} {x y:D} {p:Wr} {Q:VK} {m:Nat} {w w' :List (Option V)} {ŵ ŵ' :List (Option Vl)} {S:Sto} {k:Nat}
def RO (G:Gc) (W:WX) (t:TO) (fe:SD→R (Option Int)):Prop:=∀(E:En) (σ:L2.St) (τ:List V) (H:Hp) (s:SD) (θ:List Vl) (Q:Option Int→Hp→Prop),Nl θ→Rel G E σ τ H s θ→
 Wp (fe s) (fun b s' =>∀H',Rel G E σ τ H' s' θ→Q b H') (XP G W E τ θ)→t σ H Q
def zNo:SD→R (Option Int):=fun s=> .ok none s
def zPt (fa:SD→R Vl):SD→R (Option Int):=fun s=>(fa s).bind fun a s1=>match a with
 | .d (.int i)=> .ok (some i) s1
 | _=> .bad
theorem RO.no:RO G W tNoPart zNo:=fun _ _ _ _ _ _ _ _ hR hw=>hw _ hR
theorem RO.part {te:TE} {fa:SD→R Vl} (ha:RE G W te fa):RO G W (tPart te) (zPt fa):=by
 intro E σ τ H s θ Q hN hR hw
 unfold zPt at hw
 rw [ae] at hw
 refine ha E σ τ H s θ _ hN hR (hw.mono (fun a s1 hw v H1 h1=>?_) fun _ _ _ h=>h)
 split at hw
 ·rename_i i
  obtain ⟨p,_,r⟩:=h1.last
  exact ⟨i,r,hw _ h1.pop⟩
 ·exact hw.elim
def cutD (ds:List D) (lo hi:Option Int):List D:=(ds.drop (HT.sIx ds.length 0 lo)).take (HT.sIx ds.length ds.length hi - HT.sIx ds.length 0 lo)
theorem lI {ds:List D} {vs:List V} {lo hi:Option Int} (r:Reps G p ds vs):Reps G p (cutD ds lo hi) (cutV vs lo hi):=by
 unfold cutD cutV
 rw [r.len]
 exact (r.drop _).take _
noncomputable def oSl (a:Vl) (lo hi:Option Int) (s:SD):R Vl:=match s.cont a with
 | some (.lst ds)=> .ok (.own (.lst (cutD ds lo hi))) s
 | some (.con ds)=> .ok (.own (.lst (cutD ds lo hi))) s
 | some (.str z)=>if z.length≤sizeLine then .ok (.d (.str (cutS z lo hi))) s else .bad
 | some (.tup ds)=>if¬(HT.sIx ds.length 0 lo=0∧HT.sIx ds.length ds.length hi=ds.length) then .ok (.d (.tup (cutD ds lo hi))) s else .bad
 | _=> .bad
noncomputable def zSl (fa:SD→R Vl) (fl fh:SD→R (Option Int)):SD→R Vl:=fun s=>(fa s).bind fun a s1=>(fl s1).bind fun lo s2=>(fh s2).bind fun hi s3=>oSl a lo hi s3
theorem RE.sl {te:TE} {tl th:TO} {fa:SD→R Vl} {fl fh:SD→R (Option Int)} (ha:RE G W te fa) (hl:RO G W tl fl) (hh:RO G W th fh):RE G W (tSl (rSlZ G.K) te tl th) (zSl fa fl fh):=by
 intro E σ τ H s θ Q hN hR hw
 unfold zSl at hw
 rw [ae] at hw
 refine ha E σ τ H s θ _ hN hR (hw.mono (fun a s1 hw v H1 h1=>?_) fun _ _ _ h=>h)
 rw [ae] at hw
 have fin:∀{lo hi:Option Int} {s3:SD} {H3:Hp},Rel G E σ (τ++ [v]) H3 s3 (θ++ [a])→Wp (oSl a lo hi s3) (fun a s' =>∀v H',Rel G E σ (τ++ [v]) H' s' (θ++ [a])→Q v H') (XP G W E τ θ)→rSlZ G.K v lo hi H3 Q:=fun {lo hi s3 H3} h3 hw=>by
  obtain ⟨p,rfl,hl,h⟩:=h3.unsnoc
  obtain ⟨h0,ca,_⟩:=bL hl h
  unfold oSl at hw
  split at hw
  ·rename_i e
   obtain ⟨b,vs,rfl,hb,r⟩:=(ca _ e).lst
   exact .inl ⟨b,vs,rfl, .of hb,fun l hn=>bM h0 hl hw hn (lI r)⟩
  ·rename_i e
   obtain ⟨b,vs,rfl,hb,r⟩:=(ca _ e).con
   exact .inl ⟨b,vs,rfl,hb,fun l hn=>bM h0 hl hw hn (lI r)⟩
  ·rename_i e
   obtain rfl:=(ca _ e).str
   split at hw
   ·rename_i hz
    exact .inr (.inl ⟨_,rfl,hz,aR h0 hl hw rfl⟩)
   ·exact hw.elim
  ·rename_i e
   obtain ⟨b,vs,rfl,hb,r⟩:=(ca _ e).tup
   split at hw
   ·rename_i hz
    exact .inr (.inr ⟨b,vs,rfl, .of hb,by rw [r.len]; exact hz,fun l hn=>lE h0 hl hw hn (lI r)⟩)
   ·exact hw.elim
  ·exact hw.elim
 by_cases c:∃j,a= .loc j
 ·obtain ⟨j,rfl⟩:=c
  obtain ⟨c1,c2⟩:=h1.unloc
  refine hl E σ τ H1 s1 θ _ hN h1.pop (hw.mono (fun lo s2 hw H2 h2=>?_) fun _ _ _ h=>h)
  rw [ae] at hw
  exact hh E σ τ H2 s2 θ _ hN h2 (hw.mono (fun hi s3 hw H3 h3=>fin (h3.reloc c2) hw) fun _ _ _ h=>h)
 ·refine hl E σ _ H1 s1 _ _ (hN.snoc fun j q=>c ⟨j,q⟩) h1 (hw.mono (fun lo s2 hw H2 h2=>?_) fun _ _ _ h=>h.up)
  rw [ae] at hw
  exact hh E σ _ H2 s2 _ _ (hN.snoc fun j q=>c ⟨j,q⟩) h2 (hw.mono (fun hi s3 hw H3 h3=>fin h3 hw) fun _ _ _ h=>h.up)
noncomputable def oRevL (a:Vl) (s:SD):R Vl:=match s.cont a with
 | some (.lst ds)=> .ok (.own (.lst ds.reverse)) s
 | _=> .bad
def rStep (K:PySem.W.Frag):R2:=fun x y H Q=>∃i,y= .int i∧∃a xs,x= .ref a∧(i=1∨i= -1)∧SqL K H a xs∧∀p,H p=none→Q (.ref p) (upd H p (.lst (if i=1 then xs else xs.reverse)))
noncomputable def oStep (a b:Vl) (s:SD):R Vl:=match s.cont a,s.cont b with
 | some (.lst ds),some (.int i)=>if i=1 then .ok (.own (.lst ds)) s else if i= -1 then .ok (.own (.lst ds.reverse)) s else .bad
 | _,_=> .bad
def RP (G:Gc) (W:WX) (trs:List (TE×TE)) (fp:SD→R (List (Key×D))):Prop:=∀(E:En) (σ:L2.St) (τ:List V) (H:Hp) (s:SD) (θ:List Vl) (Q:List (V×V)→Hp→Prop),Nl θ→Rel G E σ τ H s θ→
 Wp (fp s) (fun ks s' =>∀(vs:List V) H',Rel G E σ (τ++vs) H' s' (θ++ks.map fun kv=> .d kv.2)→vs.length=ks.length→Q ((ks.map fun kv=>kV kv.1).zip vs) H') (XP G W E τ θ)→tPairs trs σ H Q
def zP0:SD→R (List (Key×D)):=fun s=> .ok [] s
def zP (k:Key) (fv:SD→R Vl) (fp:SD→R (List (Key×D))):SD→R (List (Key×D)):=fun s=>(fv s).bind fun a s1=>(s1.fix a).bind fun x s2=>(fp s2).bind fun ks s3=> .ok ((k,x)::ks) s3
theorem RP.nil:RP G W [] zP0:=fun _ _ τ H _ θ Q _ hR hw=>hw [] H (by simpa using hR) rfl
theorem RP.cons {k:Key} {tv:TE} {fv:SD→R Vl} {trs:List (TE×TE)} {fp:SD→R (List (Key×D))} (hv:RE G W tv fv) (hp:RP G W trs fp):RP G W ((tC (kV k),tv)::trs) (zP k fv fp):=by
 intro E σ τ H s θ Q hN hR hw
 unfold zP at hw
 refine RE.fix hv E σ τ H s θ _ hN hR ?_
 unfold aL pq
 rw [ae] at hw ⊢
 refine hw.mono (fun v0 s0 hw=>?_) fun _ _ _ h=>h
 rw [ae] at hw ⊢
 refine hw.mono (fun x s1 hw=>?_) fun _ _ _ h=>h
 intro v H1 h1
 rw [ae] at hw
 refine hp E σ _ H1 s1 _ _ hN.d h1 (hw.mono (fun ks s3 hw vs H2 h2 hl=>?_) fun _ _ _ h=>h.up)
 exact hw (v::vs) H2 (by simpa using h2) (by simp [hl])
def zDisp (fp:SD→R (List (Key×D))):SD→R Vl:=fun s=>(fp s).bind fun ks s1=>if ks.length≤15 then .ok (.own (.dct (kF ks))) s1 else .bad
theorem RepK.zip:∀{ks:List (Key×D)} {vs:List V},Reps G p (ks.map (·.2)) vs→RepK G p ks ((ks.map (·.1)).zip vs)
 | [],vs,h=>by rw [show vs= [] from h]; exact rfl
 | (k,d)::ks,vs,h=>by
  obtain ⟨v,r,rfl,h1,h2⟩:=h
  exact ⟨v,_,rfl,h1,RepK.zip h2⟩
def En.lk (E:En) (d:Addr) (o:HO):En:= {E with W:= {E.W with H:=upd E.W.H d o},S:= {E.S with get:=fun i=>if E.W.γ i=d then none else E.S.get i}}
theorem Sm.toLk {d:Addr} {od:Obj} {kvs:List (Key×V)} (h:Sm G E m p w ŵ S) (hd:p.H d=some (.frz od (.dK kvs))) (hn:¬p.O d):Sm G (E.lk d (.frz od (.dK kvs))) m p w ŵ S∧EnLe G E (E.lk d (.frz od (.dK kvs))):=by
 have sg:∀{i:Nat} {d0:D},(E.lk d (.frz od (.dK kvs))).S.get i=some d0→E.S.get i=some d0∧E.W.γ i≠d:=fun {i d0} e=>by
  have e:(if E.W.γ i=d then none else E.S.get i)=some d0:=e
  split at e
  ·cases e
  ·rename_i c; exact ⟨e,c⟩
 have gs:∀{i:Nat} {d0:D},E.S.get i=some d0→E.W.γ i≠d→(E.lk d (.frz od (.dK kvs))).S.get i=some d0:=fun {i d0} e c=>by
  show (if E.W.γ i=d then none else E.S.get i)=some d0
  rw [if_neg c]; exact e
 have hH:∀{b:Addr},b≠d→(E.lk d (.frz od (.dK kvs))).W.H b=E.W.H b:=fun c=>upd_ne c
 have hdd:(E.lk d (.frz od (.dK kvs))).W.H d=some (.frz od (.dK kvs)):=upd_same
 constructor
 ·refine {h with nx:=h.nx,ebd:=fun i d0 e=>h.ebd i d0 (sg e).1,old:=h.old,born:=fun i d0 e=>?_,frm:=h.frm,kp:=fun b o e n=>?_,sub:=fun b o e=>?_,grw:=fun b o e n=>?_,own:=fun k x b q1 q2=>?_}
  ·have hO:p.γ i≠d:=fun z=>hn (z ▸ (h.cel i d0 e).1)
   rcases h.born i d0 e with ⟨d1,b1⟩ | b1
   ·left
    exact ⟨d1,gs b1 (by rw [←h.old i (h.ebd i d1 b1)]; exact hO)⟩
   ·right
    rw [hH hO]; exact b1
  ·by_cases c:b=d
   ·subst c
    rw [hdd] at e
    cases e
    exact ⟨fun f=>hd, .inl hd⟩
   ·rw [hH c] at e
    exact h.kp b o e fun i d0 q z=>n i d0 (gs q (by rw [←z]; exact c)) z
  ·by_cases c:b=d
   ·subst c; exact ⟨_,hd⟩
   ·rw [hH c] at e; exact h.sub b o e
  ·by_cases c:b=d
   ·subst c; exact hn
   ·rw [hH c] at e; exact h.grw b o e n
  ·have q:=h.own k x b q1 q2
   refine ⟨q.1, ?_,q.2.2.1,q.2.2.2⟩
   rw [hH fun z=>hn (z ▸ q.1)]
   exact q.2.1
 ·intro m' p' w' ŵ' S' h'
  have f0:p'.H d=some (.frz od (.dK kvs)):=by
   rcases (h'.kp d _ hdd fun i d0 q z=>(sg q).2 z.symm).2 with k | ⟨_,_,k,_⟩ | ⟨_,_,k,_⟩
   ·exact k
   ·cases k
   ·cases k
  refine {h' with nx:=h'.nx,ebd:=h.ebd,old:=h'.old,born:=fun i d0 e=>?_,frm:=h'.frm,kp:=fun b o e n=>?_,sub:=fun b o e=>?_,grw:=fun b o e n=>?_,own:=fun k x b q1 q2=>?_}
  ·rcases h'.born i d0 e with ⟨d1,b1⟩ | b1
   ·exact .inl ⟨d1,(sg b1).1⟩
   ·have c:p'.γ i≠d:=fun z=>by rw [z,hdd] at b1; cases b1
    right
    rw [hH c] at b1; exact b1
  ·by_cases c:b=d
   ·subst c
    obtain ⟨k1,k2⟩:=h.kp b o e n
    refine ⟨fun f=>by rw [f0,←hd]; exact k1 f,by rw [f0,←hd]; exact k2⟩
   ·exact h'.kp b o (by rw [hH c]; exact e) fun i d0 q z=>n i d0 (sg q).1 z
  ·by_cases c:b=d
   ·subst c; exact ⟨_,f0⟩
   ·exact h'.sub b o (by rw [hH c]; exact e)
  ·by_cases c:b=d
   ·subst c; exact h'.grw b _ hdd n
   ·exact h'.grw b o (by rw [hH c]; exact e) n
  ·have q:=h'.own k x b q1 q2
   refine ⟨q.1, ?_,q.2.2.1,q.2.2.2⟩
   by_cases c:b=d
   ·subst c
    have:=q.2.1
    rw [hdd] at this; cases this
   ·rw [←hH c]; exact q.2.1
theorem En.lk_at {d:Addr} {od:Obj} {kvs:List (Key×V)} (h:Sm G (E.lk d (.frz od (.dK kvs))) m p w ŵ S):p.H d=some (.frz od (.dK kvs)):=by
 have hdd:(E.lk d (.frz od (.dK kvs))).W.H d=some (.frz od (.dK kvs)):=upd_same
 have k0:=(h.kp d _ hdd fun i d0 q z=>by
  have q:(if E.W.γ i=d then none else E.S.get i)=some d0:=q
  have z:d=E.W.γ i:=z
  rw [if_pos z.symm] at q; cases q).2
 rcases k0 with k | ⟨_,_,k,_⟩ | ⟨_,_,k,_⟩
 ·exact k
 ·cases k
 ·cases k
inductive Wk where
 | keys | vals | items
def Wk.it:Wk→Addr→Obj→List (Key×V)→It
 | .keys=>Itk
 | .vals=>Itd
 | .items=>Iti
def Wk.ds:Wk→List (Key×D)→List D
 | .keys,ks=>ks.map fun kv=>tR kv.1
 | .vals,ks=>ks.map (·.2)
 | .items,ks=>ks.map fun kv=> .tup [tR kv.1,kv.2]
def iWk (wk:Wk) (td:TE):TI:=fun σ H R=>tLk td σ H fun x H1=>∃d o kvs,x= .ref d∧H1 d=some (.frz o (.dK kvs))∧R (wk.it d o kvs) H1
def kO (wk:Wk) (fa:SD→R Vl):SD→R Src:=fun s=>(aL fa s).bind fun a s1=>match a with
 | .d (.dct ks)=> .ok ⟨[.d (.dct ks)],fun _=>True,wk.ds ks⟩ s1
 | _=> .bad
theorem RepK.at {ks:List (Key×D)} {vs:List (Key×V)} {i:Nat} (r:RepK G p ks vs) {k:Key} {z:V} (e:vs[i]? =some (k,z)):∃d,ks[i]? =some (k,d)∧Rep G p d z:=by
 have hl:i<ks.length:=by rw [←r.len]; exact ag e
 have e1:(vs.map (·.1))[i]? =some k:=by rw [List.getElem?_map,e]; rfl
 rw [r.keys,List.getElem?_map,List.getElem?_eq_getElem hl] at e1
 have e2:(vs.map (·.2))[i]? =some z:=by rw [List.getElem?_map,e]; rfl
 have e3:(ks.map (·.2))[i]? =some ks[i].2:=by rw [List.getElem?_map,List.getElem?_eq_getElem hl]; rfl
 refine ⟨ks[i].2, ?_,r.vals.at e3 e2⟩
 rw [List.getElem?_eq_getElem hl]
 congr 1
 exact Prod.ext (Option.some.inj e1) rfl
theorem RI.walkG {wk:Wk} {I:V→Hp→(It→Hp→Prop)→Prop} (hI:∀d o kvs H1 R,H1 d=some (.frz o (.dK kvs))→R (wk.it d o kvs) H1→I (.ref d) H1 R) {td:TE} {fa:SD→R Vl} (ha:RE G W td fa):RI G W (fun σ H R=>tLk td σ H fun x H1=>I x H1 R) (kO wk fa):=by
 intro E σ τ H s θ Q hN hR hw
 unfold kO at hw
 rw [ae] at hw
 refine RE.fix ha E σ τ H s θ _ hN hR (hw.mono (fun a s1 hw v H1 h1=>?_) fun _ _ _ h=>h)
 split at hw
 ·rename_i ks
  have h1' :=h1
  obtain ⟨p,rfl,hl,h⟩:=h1.unsnoc
  obtain ⟨h0,_,a,vs,rfl,⟨hn,hd⟩,r⟩:=bL hl h
  have fin:∀{od:Obj} {p' :Wr},p.le p'→p'.H a=some (.frz od (.dK vs))→¬p'.O a→Sm G E s1.sl.length p' ((σ++τ.map some)++ [some (.ref a)]) ((s1.sl++θ.map some)++ [some (.d (.dct ks))]) s1.st→Q (wk.it a od vs) p'.H:=fun {od p'} le hd hn h=>by
   obtain ⟨h2,el⟩:=h.toLk hd hn
   refine hw [.ref a] _ _ _ el rfl (.snoc h2 hl rfl) fun i σ τ τ2 θ θ2 H s ht ht2 h ok=>?_
   obtain ⟨p2,rfl,hl2,hS,ca⟩:=h.at1 ht
   have hf:=En.lk_at hS
   have r2:RepK G p2 ks vs:=by
    obtain ⟨b,vs',e,hb,r'⟩:=(ca _ rfl).dct
    cases e
    rcases hb with hb | ⟨_,hb⟩
    ·rw [hf] at hb; cases hb
    ·rw [hf] at hb; cases hb; exact r'
   have len:=r2.len
   have dl:(wk.ds ks).length=ks.length:=by cases wk<;> simp [Wk.ds]
   refine ⟨fun d e=>?_,fun e=>?_⟩
   ·have hi:i<vs.length:=by rw [len,←dl]; exact ag e
    have hi' :i<ks.length:=by omega
    cases wk with
    | keys=>
     refine ⟨⟨hf,hi⟩,fun x H' y=>?_⟩
     obtain ⟨rfl,k,z,e1,rfl⟩:=y
     obtain ⟨d',e2,_⟩:=r2.at e1
     have e:(ks.map fun kv=>tR kv.1)[i]? =some d:=e
     rw [List.getElem?_map,e2] at e
     cases e
     exact .snoc (hS.push jo) hl2 rfl
    | vals=>
     refine ⟨⟨hf,hi⟩,fun x H' y=>?_⟩
     obtain ⟨rfl,k,e1⟩:=y
     obtain ⟨d',e2,r3⟩:=r2.at e1
     have e:(ks.map (·.2))[i]? =some d:=e
     rw [List.getElem?_map,e2] at e
     cases e
     exact .snoc (hS.push r3) hl2 rfl
    | items=>
     refine ⟨⟨hf,hi⟩,fun x H' y=>?_⟩
     obtain ⟨T,k,z,e1,rfl,hT,rfl⟩:=y
     obtain ⟨d',e2,r3⟩:=r2.at e1
     have e:(ks.map fun kv=>D.tup [tR kv.1,kv.2])[i]? =some d:=e
     rw [List.getElem?_map,e2] at e
     cases e
     exact .snoc ((hS.alloc hT).push (x:= .tup [tR k,d']) ⟨T,_,rfl,⟨(hS.fresh hT).2,upd_same⟩,_,_,rfl,jo,_,_,rfl,r3.mono (cm hT),rfl⟩) hl2 rfl
   ·have hi:vs.length≤i:=by rw [len,←dl]; exact List.getElem?_eq_none_iff.mp e
    cases wk with
    | keys=>exact ⟨hf,hi⟩
    | vals=>exact ⟨hf,hi⟩
    | items=>exact ⟨hf,hi⟩
  rcases hd with hd | ⟨od,hd⟩
  ·refine ⟨a, .dK vs,rfl, .inl ⟨hd,True.intro,fun od=>hI _ _ _ _ _ upd_same ?_⟩⟩
   have q:=h.lock (od:=od) hd hn
   exact fin (p' := {p with H:=upd p.H a (.frz od (.dK vs))}) ⟨fun _ _=>rfl,Nat.le_refl _,fun b o n e=>⟨by
    by_cases c:b=a
    ·subst c
     rw [hd] at e; cases e
     exact .inr (.inl ⟨vs,od,rfl,upd_same⟩)
    ·exact .inl (by show upd _ _ _ _=_; rw [upd_ne c]; exact e),n⟩⟩ upd_same hn q
  ·exact ⟨a, .dK vs,rfl, .inr ⟨od,hd,hI _ _ _ _ _ hd (fin (.refl p) hd hn h)⟩⟩
 ·exact hw.elim
theorem RI.keys {td:TE} {fa:SD→R Vl} (ha:RE G W td fa):RI G W (iKeys (tLk td)) (kO .keys fa):=RI.walkG (wk:= .keys) (fun d o kvs H1 R h1 h2=>⟨d,o,rfl, .inl ⟨kvs,h1,h2⟩⟩) ha
end
inductive Ty1 where
 | int | bool | str | list | tuple | dict
def Ty1.nm:Ty1→String
 | .int=> "int" | .bool=> "bool" | .str=> "str" | .list=> "list" | .tuple=> "tuple" | .dict=> "dict"
def D.knd:D→Option String
 | .non=>some "NoneType" | .bl _=>some "bool" | .int _=>some "int" | .str _=>some "str" | .lst _=>some "list" | .con _=>some "list" | .tup _=>some "tuple" | .dct _=>some "dict"
 | _=>none
def isT:Ty1→D→Bool
 | .int, .int _=>true
 | .int, .bl _=>true
 | .bool, .bl _=>true
 | .str, .str _=>true
 | .list, .lst _=>true
 | .list, .con _=>true
 | .tuple, .tup _=>true
 | .dict, .dct _=>true
 | _,_=>false
theorem kit_tab:∀t:Ty1,kitB "NoneType" t.nm=some false∧kitB "bool" t.nm=some (match t with | .int=>true | .bool=>true | _=>false)∧kitB "int" t.nm=some (match t with | .int=>true | _=>false)∧kitB "str" t.nm=some (match t with | .str=>true | _=>false)∧
  kitB "list" t.nm=some (match t with | .list=>true | _=>false)∧kitB "tuple" t.nm=some (match t with | .tuple=>true | _=>false)∧kitB "dict" t.nm=some (match t with | .dict=>true | _=>false):=by
 intro t
 cases t<;> decide+kernel
section
variable {G:Gc} {W:WX} {E:En} {σ:L2.St} {τ τ2:List V} {H:Hp} {s s' :SD} {θ θ2:List Vl} {v u:V} {a b:Vl} {x y:D} {p:Wr} {Q:VK} {k:Nat} {is:List Nat}
theorem knd_ty {k:String} (h:Cont G p x v) (e:x.knd=some k):TyX G.K p.H v (.type k):=by
 cases x with
 | non=>cases e; obtain rfl:v= .non:=h.sc rfl; exact .base .non
 | bl b=>cases e; obtain rfl:=h.bl; exact .base (.bl b)
 | int i=>cases e; obtain rfl:=h.int; exact .base (.int i)
 | str z=>cases e; obtain rfl:=h.str; exact .base (.str z)
 | lst ds=>cases e; obtain ⟨b,vs,rfl,hb,r⟩:=h.lst; exact .base (.lst hb)
 | con ds=>cases e; obtain ⟨b,vs,rfl,(hb | ⟨o,hb⟩) | ⟨o,its,n,lk,cl,_⟩,r⟩:=h.con; exact .base (.lst hb); exact .base (.frz hb); exact .kList lk cl
 | tup ds=>cases e; obtain ⟨b,vs,rfl,hb,r⟩:=h.tup; exact .base (.tup hb)
 | dct ds=>cases e; obtain ⟨b,vs,rfl,hb | ⟨o,hb⟩,r⟩:=h.dct; exact .base (.dK hb); exact .fDict hb
 | obj c fs=>cases e
 | exc c fs=>cases e
 | cell i=>cases e
theorem knd_is {k:String} (t:Ty1) (e:x.knd=some k):kitB k t.nm=some (isT t x):=by
 obtain ⟨h1,h2,h3,h4,h5,h6,h7⟩:=kit_tab t
 cases x<;> cases e<;> cases t<;> first | exact h1 | exact h2 | exact h3 | exact h4 | exact h5 | exact h6 | exact h7
def gk (t:Ty1) (a:Vl) (s:SD):R Vl:=match s.cont a with
 | some x=>match x.knd with
  | some _=> .ok (.d (.bl (isT t x))) s
  | none=> .bad
 | none=> .bad
theorem RE.isi {t:Ty1} {ta:TE} {fa:SD→R Vl} (ha:RE G W ta fa):RE G W (tCB (rIsi G.K) (tCons ta (tCons (tC (.ty t.nm)) tNil))) (z1 (gk t) fa):=by
 refine RE.op1 (r:=fun v H Q=>rIsi G.K [v, .ty t.nm] H Q) ?_ ?_ ha
 ·intro E σ τ s θ p v a Q hl h hw
  obtain ⟨h0,ca,_⟩:=bL hl h
  unfold gk at hw
  split at hw
  ·rename_i x e
   split at hw
   ·rename_i k e1
    exact ⟨v, .ty t.nm, .type k, .type t.nm,isT t x,rfl, .ty _,knd_ty (ca _ e) e1,kit_ty (knd_is t e1),aR h0 hl hw rfl⟩
   ·exact hw.elim
  ·exact hw.elim
 ·intro a s c fs s'
  unfold gk
  split
  ·split<;> (intro q; cases q)
  ·intro q; cases q
structure IsOk (G:Gc) (C:Addr) (f:Str→Option Bool) (kd:Bool):Prop where
 own:∀c b C',f c=some b→G.mg c=some (.ref C')→C8.InsC G.K C'∧PySem.W.kitOne G.K (.ref C') (.ref C)=some b
 kd:kd=true→∀k∈ ["NoneType","bool","int","str","list","tuple","dict"],PySem.W.kitOne G.K (.type k) (.ref C)=some false
noncomputable def px (f:Str→Option Bool) (kd:Bool) (a:Vl) (s:SD):R Vl:=match s.cont a with
 | some (.obj c _)=>match f c with
  | some b=> .ok (.d (.bl b)) s
  | none=> .bad
 | some x=>match x.knd with
  | some _=>if kd=true then .ok (.d (.bl false)) s else .bad
  | none=> .bad
 | none=> .bad
theorem RE.isC {C:Addr} {f:Str→Option Bool} {kd:Bool} {ta:TE} {fa:SD→R Vl} (hc:IsOk G C f kd) (ha:RE G W ta fa):RE G W (tCB (rIsi G.K) (tCons ta (tCons (tC (.ref C)) tNil))) (z1 (px f kd) fa):=by
 refine RE.op1 (r:=fun v H Q=>rIsi G.K [v, .ref C] H Q) ?_ ?_ ha
 ·intro E σ τ s θ p v a Q hl h hw
  obtain ⟨h0,ca,_⟩:=bL hl h
  unfold px at hw
  split at hw
  ·rename_i c fs e
   split at hw
   ·rename_i b e1
    obtain ⟨a',C',dx,vs,rfl,hm,hb,r⟩:=(ca _ e).obj
    obtain ⟨i,k⟩:=hc.own c b C' e1 hm
    exact ⟨_,_, .ref C', .ref C,b,rfl, .own C, .base (.ins hb i.cl i.ha i.hn i.htk i.hm),k,aR h0 hl hw rfl⟩
   ·exact hw.elim
  ·rename_i x _ e
   split at hw
   ·rename_i k e1
    split at hw
    ·rename_i hk
     refine ⟨_,_, .type k, .ref C,false,rfl, .own C,knd_ty (ca _ e) e1,hc.kd hk k ?_,aR h0 hl hw rfl⟩
     cases x<;> cases e1<;> simp
    ·exact hw.elim
   ·exact hw.elim
  ·exact hw.elim
 ·intro a s c fs s'
  unfold px
  split
  ·split<;> (intro q; cases q)
  ·split
   ·split<;> (intro q; cases q)
   ·intro q; cases q
  ·intro q; cases q
def isDc (s:SD) (a:Vl):Bool:=match s.cont a with
 | some (.dct _)=>true
 | _=>false
def fDpop (c z:D):Option (D×D):=match c,z.key with
 | .dct ks,some k=>match kA ks k with
  | some t=>some (.dct (ddrop ks k),t)
  | none=>none
 | _,_=>none
noncomputable def zGet2 (fo fi fx:SD→R Vl):SD→R Vl:=fun s=>(fo s).bind fun a s1=>if isDc s1 a=true then (fi s1).bind fun i s2=>match i with
 | .d z=>match D.sc z with
  | some _=>(fx s2).bind fun b s3=>match b,s3.cont a,z.key with
   | .d x,some (.dct ks),some k=> .ok (.d ((kA ks k).getD x)) s3
   | _,_,_=> .bad
  | none=> .bad
 | _=> .bad
 else .bad
def lG:List D→Option (List Str)
 | []=>some []
 | .str z::ds=>match lG ds with
  | some zs=>some (z::zs)
  | none=>none
 | _=>none
theorem kB:∀{ds:List D} {vs:List V} {is:List Str},Reps G p ds vs→lG ds=some is→vs=is.map V.str
 | [],vs,is,h,e=>by cases e; exact h
 | d::ds,vs,is,h,e=>by
  obtain ⟨v,r,rfl,h1,h2⟩:=h
  unfold lG at e
  split at e
  ·rename_i heq; cases heq
  ·rename_i heq
   cases heq
   split at e
   ·rename_i e1
    cases e
    rw [List.map_cons,kB h2 e1,show v= .str _ from h1]
   ·cases e
  ·cases e
theorem qc {is:List Str}:Reps G p (is.map D.str) (is.map V.str):=by
 induction is with
 | nil=>rfl
 | cons i is ih=>exact ⟨_,_,rfl,rfl,ih⟩
def isS (a:Vl):Bool:=match a with
 | .d (.str _)=>true
 | _=>false
def zM1s (f:Vl→Vl→SD→R Vl) (fa fb:SD→R Vl):SD→R Vl:=fun s=>(fa s).bind fun a s1=>if isS a=true then (fb s1).bind fun b s2=>f a b s2 else .bad
theorem RE.m1 {r:V→List V→Hp→VK→Prop} {f:Vl→Vl→SD→R Vl} {ta tb:TE} {fa fb:SD→R Vl} (hp:bN G (fun x y H Q=>r x [y] H Q) f) (nx:∀a b s c fs s',f a b s≠ .ex c fs s') (ha:RE G W ta fa) (hb:RE G W tb fb):RE G W (tM1 r ta tb) (zM1s f fa fb):=by
 intro E σ τ H s θ Q hN hR hw
 unfold zM1s at hw
 rw [ae] at hw
 refine ha E σ τ H s θ _ hN hR (hw.mono (fun a s1 hw v H1 h1=>?_) fun _ _ _ h=>h)
 split at hw
 ·rename_i c
  have hv:∃z,v= .str z:=by
   unfold isS at c
   split at c
   ·rename_i z
    obtain ⟨p,_,r⟩:=h1.last
    exact ⟨z,r⟩
   ·cases c
  refine ⟨hv, ?_⟩
  refine RE.next (Q:=fun u H2=>r v [u] H2 Q) hb hN h1 hw fun b s2 u H2 h2 hw=>?_
  obtain ⟨p,rfl,hl,h⟩:=h2.unsnoc
  rw [List.map_append,List.map_append,←List.append_assoc,←List.append_assoc] at h
  refine hp E σ τ s2 θ p v u a b Q hl h ?_
  cases e:f a b s2 with
  | ok b s2=>rw [e] at hw; exact hw
  | ex c fs s2=>exact (nx _ _ _ _ _ _ e).elim
  | bad=>rw [e] at hw; exact hw
 ·exact hw.elim
noncomputable def kb (a b:Vl) (s:SD):R Vl:=match s.cont a,s.cont b with
 | some (.str z),some (.lst ds)=>match lG ds with
  | some ys=>if (ys.map (·.length)).sum+ys.length*z.length≤16777216 then .ok (.d (.str (Txt.join z ys))) s else .bad
  | none=> .bad
 | _,_=> .bad
theorem p_join:bN G (fun x y H Q=>∃a p,∃ys:List Str,x= .str a∧ [y]= [.ref p]∧(SqL G.K H p (ys.map V.str)∨SqT G.K H p (ys.map V.str))∧(ys.map (·.length)).sum+ys.length*a.length≤16777216∧Q (.str (Txt.join a ys)) H) kb:=by
 intro E σ τ s θ p v u a b Q hl h hw
 obtain ⟨h0,ca,cb⟩:=cJ hl h
 unfold kb at hw
 split at hw
 ·rename_i e1 e2
  split at hw
  ·rename_i ys e3
   split at hw
   ·rename_i hz
    obtain rfl:=(ca _ e1).str
    obtain ⟨b,vs,rfl,hb,r⟩:=(cb _ e2).lst
    obtain rfl:=kB r e3
    exact ⟨_,b,ys,rfl,rfl, .inl (.of hb),hz,aR h0 hl hw rfl⟩
   ·exact hw.elim
  ·exact hw.elim
 ·exact hw.elim
theorem uw:∀(a b:Vl) (s:SD) c fs s',kb a b s≠ .ex c fs s' :=by
 intro a b s c fs s'
 unfold kb
 split
 ·split
  ·split<;> (intro q; cases q)
  ·intro q; cases q
 ·intro q; cases q
def pk:List D→List D→List D
 | x::xs,y::ys=> .tup [x,y]::pk xs ys
 | _,_=> []
theorem gh:∀{xs ys:List D} {i:Nat},(pk xs ys)[i]? =match xs[i]?,ys[i]? with
  | some x,some y=>some (.tup [x,y])
  | _,_=>none
 | [],ys,i=>by simp [pk]
 | x::xs,[],i=>by simp [pk]
 | x::xs,y::ys,0=>rfl
 | x::xs,y::ys,i+1=>by
  simp only [pk,List.getElem?_cons_succ]
  exact gh
noncomputable def zZip (fa fb:SD→R Vl):SD→R Src:=fun s=>(aL fa s).bind fun a s1=>(aL fb s1).bind fun b s2=>match s2.cont a,s2.cont b with
 | some (.lst xs),some (.lst ys)=> .ok ⟨[a,b],fun s=>s.cont a=some (.lst xs)∧s.cont b=some (.lst ys),pk xs ys⟩ s2
 | _,_=> .bad
theorem RI.zip {ta tb:TE} {fa fb:SD→R Vl} (ha:RE G W ta fa) (hb:RE G W tb fb):RI G W (iZip G.K (tCons ta (tCons tb tNil))) (zZip fa fb):=by
 intro E σ τ H s θ Q hN hR hw
 unfold zZip at hw
 refine RE.two (f:=fun a b s2=>match s2.cont a,s2.cont b with
  | some (.lst xs),some (.lst ys)=> .ok (⟨[a,b],fun s=>s.cont a=some (.lst xs)∧s.cont b=some (.lst ys),pk xs ys⟩:Src) s2
  | _,_=> .bad) (Q:=fun x y H2=>∃a b xs ys,[x,y]= [.ref a, .ref b]∧SqL G.K H2 a xs∧SqL G.K H2 b ys∧Q (Itz G.K a b) H2) (RE.fix ha) (RE.fix hb) hN hR hw fun a b s2 v u H2 h2 hw=>?_
 have h3:=h2
 obtain ⟨p,rfl,hl,h⟩:=h2.unsnoc
 rw [List.map_append,List.map_append,←List.append_assoc,←List.append_assoc] at h
 obtain ⟨h0,ca,cb⟩:=cJ hl h
 split at hw
 ·rename_i xs ys e1 e2
  obtain ⟨a1,vs,rfl,ha1,r1⟩:=(ca _ e1).lst
  obtain ⟨b1,us,rfl,hb1,r2⟩:=(cb _ e2).lst
  refine ⟨a1,b1,vs,us,rfl, .of ha1, .of hb1,hw [.ref a1, .ref b1] _ _ E (fun _ _ _ _ _ h=>h) rfl (by simpa using h3) fun i σ τ τ2 θ θ2 H s ht ht2 h ok=>?_⟩
  have e3:τ++ [V.ref a1, .ref b1]++τ2=τ++ [V.ref a1]++([V.ref b1]++τ2):=by simp
  have e4:θ++ [a,b]++θ2=θ++ [a]++([b]++θ2):=by simp
  have e5:τ++ [V.ref a1, .ref b1]++τ2=(τ++ [.ref a1])++ [.ref b1]++τ2:=by simp
  have e6:θ++ [a,b]++θ2=(θ++ [a])++ [b]++θ2:=by simp
  have hA:=h
  obtain ⟨p',rfl,hl',hS⟩:=h
  have c1:∀x,s.cont a=some x→Cont G p' x (.ref a1):=fun x c=>by
   have q1:σ++(τ++ [V.ref a1, .ref b1]++τ2).map some=(σ++τ.map some)++some (.ref a1)::some (.ref b1)::τ2.map some:=by simp
   have q2:s.sl++(θ++ [a,b]++θ2).map some=(s.sl++θ.map some)++some a::some b::θ2.map some:=by simp
   have hL:(σ++τ.map some).length=(s.sl++θ.map some).length:=by simp [hl',ht]
   refine hS.cont rfl (k:=(s.sl++θ.map some).length) ?_ ?_ c
   ·rw [q2,List.getElem?_append_right (Nat.le_refl _)]; simp
   ·rw [q1,←hL,List.getElem?_append_right (Nat.le_refl _)]; simp
  have c2:∀x,s.cont b=some x→Cont G p' x (.ref b1):=fun x c=>by
   have q1:σ++(τ++ [V.ref a1, .ref b1]++τ2).map some=(σ++(τ++ [V.ref a1]).map some)++some (.ref b1)::τ2.map some:=by simp
   have q2:s.sl++(θ++ [a,b]++θ2).map some=(s.sl++(θ++ [a]).map some)++some b::θ2.map some:=by simp
   have hL:(σ++(τ++ [V.ref a1]).map some).length=(s.sl++(θ++ [a]).map some).length:=by simp [hl',ht]
   refine hS.cont rfl (k:=(s.sl++(θ++ [a]).map some).length) ?_ ?_ c
   ·rw [q2,List.getElem?_append_right (Nat.le_refl _)]; simp
   ·rw [q1,←hL,List.getElem?_append_right (Nat.le_refl _)]; simp
  obtain ⟨_,vs',e7,ha2,r3⟩:=(c1 _ ok.1).lst
  cases e7
  obtain ⟨_,us',e8,hb2,r4⟩:=(c2 _ ok.2).lst
  cases e8
  refine ⟨fun d e=>?_,fun e=>?_⟩
  ·have e:(pk xs ys)[i]? =some d:=e
   rw [gh] at e
   split at e
   ·rename_i x y ex ey
    cases e
    obtain ⟨v1,f1,g1⟩:=r3.get ex
    obtain ⟨v2,f2,g2⟩:=r4.get ey
    refine ⟨⟨vs',us',v1,v2, .of ha2, .of hb2,f1,f2⟩,fun q H' yl=>?_⟩
    obtain ⟨T,z1,z2,rfl,hT,rfl,y1,y2⟩:=yl
    have e9:=y1 vs' (.of ha2)
    rw [f1] at e9; cases e9
    have e10:=y2 us' (.of hb2)
    rw [f2] at e10; cases e10
    exact .snoc ((hS.alloc hT).push (x:= .tup [x,y]) ⟨T,_,rfl,⟨(hS.fresh hT).2,upd_same⟩,_,_,rfl,g1.mono (cm hT),_,_,rfl,g2.mono (cm hT),rfl⟩) hl' rfl
   ·cases e
  ·have e:(pk xs ys)[i]? =none:=e
   rw [gh] at e
   refine ⟨vs',us', .of ha2, .of hb2, ?_⟩
   cases ex:xs[i]? with
   | none=>exact .inl (List.getElem?_eq_none_iff.mp (r3.none ex))
   | some x=>
    cases ey:ys[i]? with
    | none=>exact .inr (List.getElem?_eq_none_iff.mp (r4.none ey))
    | some y=>rw [ex,ey] at e; cases e
 ·exact hw.elim
def zPar3 (i j l:Nat) (fr:SD→R (List D)):SD→R Fl:=fun s=>(fr s).bind fun ds s1=>match ds with
 | [x,y,z]=> .ok .nx {s1 with sl:=bG [i,j,l] [x,y,z] s1.sl}
 | _=> .bad
end
structure Op2 (G:Gc) (r:R2) (f:Vl→Vl→SD→R Vl):Prop where
 p:bN G r f
 nx:∀a b s c fs s',f a b s≠ .ex c fs s'
structure Op1 (G:Gc) (r:V→Hp→VK→Prop) (f:Vl→SD→R Vl):Prop where
 p:ik G r f
 nx:∀a s c fs s',f a s≠ .ex c fs s'
section
variable {G:Gc} {W:WX}
theorem cV:Op2 G (rAddZ G.K) bU:=⟨p_add,by intros; unfold bU; (repeat' split)<;> (intro q; cases q)⟩
theorem q_sub:Op2 G (rI0 fun i j=> .int (i - j)) uu:=⟨p_sub,by intros; unfold uu; (repeat' split)<;> (intro q; cases q)⟩
theorem iU:Op2 G rMulZ iX:=⟨p_mul,by intros; unfold iX; (repeat' split)<;> (intro q; cases q)⟩
theorem dD:Op2 G (rI (fun _ j=>0<j) fun i j=> .int (i%j)) dq:=⟨p_mod,by intros; unfold dq; (repeat' split)<;> (intro q; cases q)⟩
theorem gJ:Op2 G (rI CDivW fun i j=> .int (i / j)) eR:=⟨p_div,by intros; unfold eR; (repeat' split)<;> (intro q; cases q)⟩
theorem q_xor:Op2 G (rI0 fun i j=> .int (Builtin.bitXor i j)) oXor:=⟨p_xor,by intros; unfold oXor; (repeat' split)<;> (intro q; cases q)⟩
theorem qW {f:Int→Int→Bool}:∀a b s c fs s',ux f a b s≠ .ex c fs s' :=by intros; unfold ux; (repeat' split)<;> (intro q; cases q)
theorem q_lt:Op2 G (rI0 fun i j=> .bl (decide (i<j))) oLt:=⟨p_cmp,qW⟩
theorem q_le:Op2 G (rI0 fun i j=> .bl (decide (i≤j))) oLe:=⟨p_cmp,qW⟩
theorem q_gt:Op2 G (rI0 fun i j=> .bl (decide (i > j))) oGt:=⟨p_cmp,qW⟩
theorem q_eq:Op2 G (rEqZ G.K) oEq:=⟨p_eq,by intros; unfold oEq; (repeat' split)<;> (intro q; cases q)⟩
theorem q_ne:Op2 G (rNeZ G.K) oNe:=⟨p_ne,by intros; unfold oNe; (repeat' split)<;> (intro q; cases q)⟩
theorem q_in {neg:Bool}:Op2 G (rInZ G.K neg) (oIn neg):=⟨p_in,by intros; unfold oIn; (repeat' split)<;> (intro q; cases q)⟩
theorem dX:Op2 G (rIxZ G.K) oIx:=⟨p_ix,by intros; unfold oIx; (repeat' split)<;> (intro q; cases q)⟩
theorem oS {neg:Bool}:Op2 G (rIsZ neg) (iy neg):=⟨p_isN,by intros; unfold iy; (repeat' split)<;> (intro q; cases q)⟩
theorem bZ:Op1 G (fun v H Q=>rLenZ G.K [v] H Q) bf:=⟨p_len,by intros; unfold bf; (repeat' split)<;> (intro q; cases q)⟩
theorem eA:Op1 G (fun v H Q=>mG G.K [v] H Q) aZ:=⟨p_list,by intros; unfold aZ; (repeat' split)<;> (intro q; cases q)⟩
theorem q_all:Op1 G (fun v H Q=>rAll G.K [v] H Q) oAll:=⟨p_all,by intros; unfold oAll; (repeat' split)<;> (intro q; cases q)⟩
theorem aac {r:R2} {f:Vl→Vl→SD→R Vl} {ta tb:TE} {fa fb:SD→R Vl} (h:Op2 G r f) (ha:RE G W ta fa) (hb:RE G W tb fb):RE G W (tOp r ta tb) (z2 f fa fb):=RE.op2 h.p h.nx ha hb
theorem RE.c1 {r:List V→Hp→VK→Prop} {f:Vl→SD→R Vl} {ta:TE} {fa:SD→R Vl} (h:Op1 G (fun v H Q=>r [v] H Q) f) (ha:RE G W ta fa):RE G W (tCB r (tCons ta tNil)) (z1 f fa):=RE.cb1 h.p h.nx ha
theorem RE.c2 {r:List V→Hp→VK→Prop} {f:Vl→Vl→SD→R Vl} {ta tb:TE} {fa fb:SD→R Vl} (h:Op2 G (fun v u H Q=>r [v,u] H Q) f) (ha:RE G W ta fa) (hb:RE G W tb fb):RE G W (tCB r (tCons ta (tCons tb tNil))) (z2 f fa fb):=RE.cb2 h.p h.nx ha hb
def neg1 (f:Vl→SD→R Vl):SD→Vl→R Vl:=fun s a=>f a s
theorem RE.append {ta tb:TE} {fa fb:SD→R Vl} (ha:RE G W ta fa) (hb:RE G W tb fb):RE G W (tBM G.K "list" rAppend ta (tCons tb tNil)) (zM2 isL (oB2 aM) fa (aL fb)):=RE.bm iC (mK uK) mM ha (RE.fix hb)
theorem RE.extend {ta tb:TE} {fa fb:SD→R Vl} (ha:RE G W ta fa) (hb:RE G W tb fb):RE G W (tBM G.K "list" rExtend ta (tCons tb tNil)) (zM2 isL (oB2 dN) fa (aL fb)):=RE.bm iC (mK uJ) mM ha (RE.fix hb)
theorem RE.pop {ta:TE} {fa:SD→R Vl} (ha:RE G W ta fa):RE G W (tBM0 G.K "list" rPop ta) (z1 (oB1 fPop) fa):=RE.bm0 (p_lm0 h_pop fun c y h=>by unfold fPop at h; split at h; exact ⟨_,rfl⟩; cases h) qV ha
theorem RE.reverse {ta:TE} {fa:SD→R Vl} (ha:RE G W ta fa):RE G W (tBM0 G.K "list" rReverse ta) (z1 (oB1 dZ) fa):=RE.bm0 (p_lm0 sk fun c y h=>by unfold dZ at h; split at h; exact ⟨_,rfl⟩; cases h) qV ha
theorem RE.clear {ta:TE} {fa:SD→R Vl} (ha:RE G W ta fa):RE G W (tBM0 G.K "list" rClear ta) (z1 (oB1 dO) fa):=RE.bm0 (p_lm0 h_clear fun c y h=>by unfold dO at h; split at h; exact ⟨_,rfl⟩; cases h) qV ha
theorem RE.join {ta tb:TE} {fa fb:SD→R Vl} (ha:RE G W ta fa) (hb:RE G W tb fb):RE G W (tM1 (fun x xs H Q=>∃a p,∃ys:List Str,x= .str a∧xs= [.ref p]∧(SqL G.K H p (ys.map V.str)∨SqT G.K H p (ys.map V.str))∧(ys.map (·.length)).sum+ys.length*a.length≤16777216∧Q (.str (Txt.join a ys)) H) ta tb) (zM1s kb fa fb):=
 RE.m1 p_join uw ha hb
theorem aab {i:Int}:RE G W (tC (.int i)) (zC (.int i)):=RE.c fun _=>rfl
theorem aal {i:Str}:RE G W (tC (.str i)) (zC (.str i)):=RE.c fun _=>rfl
theorem aaf {i:Bool}:RE G W (tC (.bl i)) (zC (.bl i)):=RE.c fun _=>rfl
theorem aah:RE G W (tC .non) (zC .non):=RE.c fun _=>rfl
def lT (f g:Vl→Vl→SD→R Vl) (fa fb fc:SD→R Vl):SD→R Vl:=fun s=>(fa s).bind fun a s1=>(fb s1).bind fun b s2=>match b with
 | .d z=>match D.sc z with
  | some _=>(f a b s2).bind fun r s3=>match r with
   | .d (.bl true)=>(fc s3).bind fun c s4=>g (.d z) c s4
   | .d (.bl false)=> .ok (.d (.bl false)) s3
   | _=> .bad
  | none=> .bad
 | _=> .bad
theorem RE.chain {r r' :R2} {f g:Vl→Vl→SD→R Vl} {ta tb tc:TE} {fa fb fc:SD→R Vl} (hf:Op2 G r f) (hg:Op2 G r' g) (ha:RE G W ta fa) (hb:RE G W tb fb) (hc:RE G W tc fc):RE G W (tChain r r' ta tb tc) (lT f g fa fb fc):=by
 intro E σ τ H s θ Q hN hR hw
 unfold lT at hw
 refine RE.two (f:=fun a b s2=>match b with
  | .d z=>match D.sc z with
   | some _=>(f a b s2).bind fun r s3=>match r with
    | .d (.bl true)=>(fc s3).bind fun c s4=>g (.d z) c s4
    | .d (.bl false)=> .ok (.d (.bl false)) s3
    | _=> .bad
   | none=> .bad
  | _=> .bad) (Q:=fun x y H2=>r x y H2 fun z H3=>∃k,z= .bl k∧(if k=true then tc σ H3 fun w' H4=>r' y w' H4 Q else Q (.bl false) H3)) ha hb hN hR hw fun a b s2 v u H2 h2 hw=>?_
 split at hw
 ·rename_i z
  split at hw
  ·rename_i uv e1
   have hu:u=uv:=by
    obtain ⟨p,_,rr⟩:=h2.last
    exact cf rr e1
   subst hu
   obtain ⟨p,rfl,hl,h⟩:=h2.unsnoc
   rw [List.map_append,List.map_append,←List.append_assoc,←List.append_assoc] at h
   refine hf.p E σ τ s2 θ p v u a _ _ hl h ?_
   rw [ae] at hw
   cases e:f a (.d z) s2 with
   | bad=>rw [e] at hw; exact hw.elim
   | ex _ _ _=>exact (hf.nx _ _ _ _ _ _ e).elim
   | ok rv s3=>
    rw [e] at hw
    intro q H3 h3
    have hw:Wp (match rv with
     | .d (.bl true)=>(fc s3).bind fun c s4=>g (.d z) c s4
     | .d (.bl false)=> .ok (.d (.bl false)) s3
     | _=> .bad) (fun a s=>_) (fun c fs s=>_):=hw
    split at hw
    ·obtain ⟨p3,_,r3⟩:=h3.last
     obtain rfl:q= .bl true:=r3
     refine ⟨true,rfl, ?_⟩
     rw [if_pos rfl]
     have h4:=h3.pop.push (x:=z) (v:=u) fun _=>qD e1
     rw [ae] at hw
     refine hc E σ _ H3 s3 _ _ hN.d h4 (hw.mono (fun c s4 hw w' H4 h5=>?_) fun _ _ _ h=>h.up)
     obtain ⟨p,rfl,hl,h⟩:=h5.unsnoc
     rw [List.map_append,List.map_append,←List.append_assoc,←List.append_assoc] at h
     refine hg.p E σ τ s4 θ p u w' _ c Q hl h ?_
     cases e:g (.d z) c s4 with
     | ok b s2=>rw [e] at hw; exact hw
     | ex c fs s2=>exact (hg.nx _ _ _ _ _ _ e).elim
     | bad=>rw [e] at hw; exact hw
    ·obtain ⟨p3,_,r3⟩:=h3.last
     obtain rfl:q= .bl false:=r3
     refine ⟨false,rfl, ?_⟩
     rw [if_neg (by decide)]
     exact hw _ _ h3
    ·exact hw.elim
  ·exact hw.elim
 ·exact hw.elim
def gv:SD→R Fl:=fun _=> .bad
theorem RS.never:RS G W tNever gv:=fun _ _ _ _ _ _ _ _ _ hw=>hw.elim
def zPass:SD→R Fl:=aC
theorem uQ {f c:Str} {C:Addr} (hm:G.mg c=some (.ref C)) (hc:Cls G.K C) (hn:NoAttr G.K C f):fS G f [c]:=by
 intro c' h C' hm'
 obtain rfl:=List.mem_singleton.mp h
 rw [hm] at hm'; cases hm'
 exact ⟨hc,hn⟩
end
section
variable (P:Program) (w:World) (K:PySem.W.Frag) (mg:Str→Option Value) (base:Heap)
structure CalZ (k:Nat) (x:Str) (n:Nat) (F:FnV) (dvs:List V):Prop where
 ex:∃(f:Addr) (fd:FuncData) (ps:List Str) (ds:List Value),FnOk P w K mg base (L2.CX P w) k f fd ps (spF ⟨K,mg⟩ n F)∧mg x=some (.ref f)∧PySem.W.keepIn K (.ref f)=true∧Binds K fd ps ds∧Vals dvs ds
structure MetZ (k:Nat) (C:Addr) (m:Str) (n:Nat) (F:FnV) (dvs:List V):Prop where
 ex:∃(f:Addr) (fd:FuncData) (ps:List Str) (ds:List Value),Cls K C∧Meth K C m f∧FnOk P w K mg base (L2.CX P w) k f fd ps (spF ⟨K,mg⟩ n F)∧Binds K fd ps ds∧Vals dvs ds
structure MakZ (k:Nat) (x:Str) (C:Addr) (n:Nat) (F:FnV) (dvs:List V):Prop where
 ex:∃(f:Addr) (fd:FuncData) (ps:List Str) (ds:List Value),Mk K C f∧FnOk P w K mg base (L2.CX P w) k f fd ps (spF ⟨K,mg⟩ n F)∧mg x=some (.ref C)∧Binds K fd ps ds∧Vals dvs ds
end
section
variable {P:Program} {w:World} {K:PySem.W.Frag} {mg:Str→Option Value} {base:Heap}
structure DfZ (K:PySem.W.Frag) (mg:Str→Option Value) (x:Str) (st:Stmt) (ps:List Str) (dvs:List V):Prop where
 ex:∃(f:Addr) (fd:FuncData),L2.FunD K x x (defArgs st) (defBody st) (defScope st) dvs [] f fd∧mg x=some (.ref f)∧PySem.W.keepIn K (.ref f)=true∧∀j,j≤dvs.length→∃ds,Vals (dvs.drop j) ds∧L2.Binds K fd ps ds
theorem calZ_of {x:Str} {st:Stmt} {N ps:List Str} {k n:Nat} {fz:SD→R Fl} (D:M.Df K mg x st ps) (S:FnScope N ps (L2.defScope st)) (hn:ps.length≤N.length) (hn2:n=ps.length)
  (hbody:∀(f:Addr) (cdv:Value) (A:Around) (outer:List Env) (s:Shared) (H:Hp) (E:XK),Room k (A.deeper (envOfC x (L2.defScope st) s.heap.objs.size f cdv))→
   ∃t,PSs (cxOf (L2.CX P w) P w K mg base N x (L2.defScope st) f cdv A outer s H E) (L2.defBody st) t∧RS ⟨K,mg⟩ (fun cls d _ H=>E cls d H) t fz):CalZ P w K mg base (k+1) x n (zFn N.length fz) []:=by
 obtain ⟨f,fd,F,hm,hb⟩:=D.ex
 subst hn2
 exact ⟨f,fd,ps,[],fnZ F S hn (fun cdv A outer s H E hr=>hbody f cdv A outer s H E hr),hm,F.kp,hb, .nil⟩
theorem metZ_of {C:Addr} {m qual:Str} {st:Stmt} {N ps:List Str} {k n:Nat} {fz:SD→R Fl} (D:M.Dm K C m qual st ps) (S:FnScope N ps (L2.defScope st)) (hn:ps.length≤N.length) (hn2:n=ps.length)
  (hbody:∀(f:Addr) (cdv:Value) (A:Around) (outer:List Env) (s:Shared) (H:Hp) (E:XK),Room k (A.deeper (envOfC qual (L2.defScope st) s.heap.objs.size f cdv))→
   ∃t,PSs (cxOf (L2.CX P w) P w K mg base N qual (L2.defScope st) f cdv A outer s H E) (L2.defBody st) t∧RS ⟨K,mg⟩ (fun cls d _ H=>E cls d H) t fz):MetZ P w K mg base (k+1) C m n (zFn N.length fz) []:=by
 obtain ⟨f,fd,F,c,me,b⟩:=D.ex
 subst hn2
 exact ⟨f,fd,ps,[],c,me,fnZ F S hn (fun cdv A outer s H E hr=>hbody f cdv A outer s H E hr),b, .nil⟩
theorem makZ_of {x qual:Str} {C:Addr} {st:Stmt} {N ps:List Str} {k n:Nat} {fz:SD→R Fl} (D:M.Dk K mg x C qual st ps) (S:FnScope N ps (L2.defScope st)) (hn:ps.length≤N.length) (hn2:n=ps.length)
  (hbody:∀(f:Addr) (cdv:Value) (A:Around) (outer:List Env) (s:Shared) (H:Hp) (E:XK),Room k (A.deeper (envOfC qual (L2.defScope st) s.heap.objs.size f cdv))→
   ∃t,PSs (cxOf (L2.CX P w) P w K mg base N qual (L2.defScope st) f cdv A outer s H E) (L2.defBody st) t∧RS ⟨K,mg⟩ (fun cls d _ H=>E cls d H) t fz):MakZ P w K mg base (k+1) x C n (zFn N.length fz) []:=by
 obtain ⟨f,fd,F,M,hm,b⟩:=D.ex
 subst hn2
 exact ⟨f,fd,ps,[],M,fnZ F S hn (fun cdv A outer s H E hr=>hbody f cdv A outer s H E hr),hm,b, .nil⟩
theorem uC {C:Addr} {m qual:Str} {st:Stmt} {N ps:List Str} {dvs:List V} {k n:Nat} {fz:SD→R Fl} (D:M.Dmd K C m qual st ps dvs) (S:FnScope N ps (L2.defScope st)) (hn:ps.length≤N.length) (hn2:n=ps.length)
  (hbody:∀(f:Addr) (cdv:Value) (A:Around) (outer:List Env) (s:Shared) (H:Hp) (E:XK),Room k (A.deeper (envOfC qual (L2.defScope st) s.heap.objs.size f cdv))→
   ∃t,PSs (cxOf (L2.CX P w) P w K mg base N qual (L2.defScope st) f cdv A outer s H E) (L2.defBody st) t∧RS ⟨K,mg⟩ (fun cls d _ H=>E cls d H) t fz) (j:Nat) (hj:j≤dvs.length):MetZ P w K mg base (k+1) C m n (zFn N.length fz) (dvs.drop j):=by
 obtain ⟨f,fd,F,c,me,b⟩:=D.ex
 subst hn2
 obtain ⟨ds,hd,hb⟩:=b j hj
 refine ⟨f,fd,ps,ds,c,me, ?_,hb,hd⟩
 exact F.ok S kU fun cdv A outer s H vs Q E hr h=>by
  obtain ⟨t,h1,h2⟩:=hbody f cdv A outer s H E hr
  exact ⟨t,h1,gi h2 h hn⟩
end
section
variable {X:Cx} {W:WX} {k j n:Nat} {C:Addr} {x m:Str} {F:FnV} {dvs:List V} {p pos apos:Pos} {e o:Expr} {es:List Expr} {ta:TE} {t:TA}
theorem m_cZ (c:CalZ X.prog X.w X.K X.mg X.base k x n F dvs) (hr:Room j X.A) (hk:k≤j) (tk:Takes X W) (hg:Gl X x) (ha:PA X (e::es) t)
  (hdb:(x == ("__debug__" :Str))=false:=by decide) (he:starEach (e::es) X.env=(false,eval e X.env)::starEach es X.env:=by rfl) (hpl:(backTo pos (starEach es X.env)).any (·.1)=false:=by rfl):
  PE X (.Call (.Name x p) (e::es) [] pos) (tCallSD (spF ⟨X.K,X.mg⟩ n F) dvs (WE W) t):=by
 obtain ⟨f,fd,ps,ds,h,hm,kp,b,d⟩:=c.ex
 exact pe_callSD h (hr.mono hk) hg hm kp b d (fun σ=>passAt tk σ) ha hdb he hpl
theorem m_mkZ (c:MakZ X.prog X.w X.K X.mg X.base k x C n F dvs) (hr:Room j X.A) (hk:k+1≤j) (tk:Takes X W) (hg:Gl X x) (ha:PA X (e::es) t)
  (hdb:(x == ("__debug__" :Str))=false:=by decide) (he:starEach (e::es) X.env=(false,eval e X.env)::starEach es X.env:=by rfl) (hpl:(backTo pos (starEach es X.env)).any (·.1)=false:=by rfl):
  PE X (.Call (.Name x p) (e::es) [] pos) (qb C (spF ⟨X.K,X.mg⟩ n F) dvs (WE W) t):=by
 obtain ⟨f,fd,ps,ds,M,h,hm,b,d⟩:=c.ex
 exact pe_makS M h (hr.mono hk) hg hm b d (fun σ=>passAt tk σ) ha hdb he hpl
theorem fO {pl:Sem Bool} (c:MetZ X.prog X.w X.K X.mg X.base k C m n F dvs) (hr:Room j X.A) (hk:k≤j) (tk:Takes X W) (he:PE X o ta) (ha:PA X (e::es) t)
  (hst:starEach (e::es) X.env=(false,eval e X.env)::starEach es X.env:=by rfl) (hpl:(backTo pos (starEach es X.env)).any (·.1)=false:=by rfl)
  (ht:eval (.Call (.Attribute o m apos) (e::es) [] pos) X.env=(do
   let ov←eval o X.env
   standAt apos.atName
   let (f,first)←holding [ov] (getMethod ov m pl)
   callWith pos f first (backTo pos (starEach (e::es) X.env)) (backToKw pos (keywordEach [] X.env))):=by rfl):
  PE X (.Call (.Attribute o m apos) (e::es) [] pos) (iu C m (spF ⟨X.K,X.mg⟩ n F) dvs (WE W) ta t):=by
 obtain ⟨f,fd,ps,ds,cl,me,h,b,d⟩:=c.ex
 exact qN (pl:=pl) he cl me h (hr.mono hk) b d (fun σ=>passAt tk σ) ha hst hpl ht
theorem nh {pl:Sem Bool} (c:MetZ X.prog X.w X.K X.mg X.base k C m n F dvs) (hr:Room j X.A) (hk:k≤j) (tk:Takes X W) (he:PE X o ta)
  (ht:eval (.Call (.Attribute o m apos) [] [] pos) X.env=(do
   let ov←eval o X.env
   standAt apos.atName
   let (f,first)←holding [ov] (getMethod ov m pl)
   callWith pos f first (backTo pos (starEach [] X.env)) (backToKw pos (keywordEach [] X.env))):=by rfl):
  PE X (.Call (.Attribute o m apos) [] [] pos) (iu C m (spF ⟨X.K,X.mg⟩ n F) dvs (WE W) ta tNil):=by
 obtain ⟨f,fd,ps,ds,cl,me,h,b,d⟩:=c.ex
 exact oW (pl:=pl) he cl me h (hr.mono hk) b d (fun σ=>passAt tk σ) ht
theorem pZ:Takes X WF:=fun _ _ ⟨_,_,_,_,_,_,_,_,_,_,_,_,_,_,_,_,w⟩=>w.elim
theorem m_fldZ {K:PySem.W.Frag} {f:Str} {ta:TE} (he:PE X e ta) (hb:attributeBase e f X.env (eval e X.env)=eval e X.env:=by rfl) (hK:X.K=K:=by rfl):PE X (.Attribute e f pos) (tFld K ta f):=hK ▸ pe_fld he hb
end
section
variable {G:Gc} {W:WX}
def oNeg (a:Vl) (s:SD):R Vl:=match s.cont a with
 | some (.int i)=> .ok (.d (.int (-i))) s
 | _=> .bad
theorem RE.neg {ta:TE} {fa:SD→R Vl} (ha:RE G W ta fa):RE G W (tUn (rU fun i=> .int (-i)) ta) (z1 oNeg fa):=by
 refine RE.op1 (r:=rU fun i=> .int (-i)) ?_ ?_ ha
 ·intro E σ τ s θ p v a Q hl h hw
  obtain ⟨h0,ca,_⟩:=bL hl h
  unfold oNeg at hw
  split at hw
  ·rename_i i e
   obtain rfl:=(ca _ e).int
   exact ⟨i,rfl,aR h0 hl hw rfl⟩
  ·exact hw.elim
 ·intro a s c fs s'
  unfold oNeg
  split<;> (intro q; cases q)
end
section
variable {X:Cx} {W:WX} {k j n:Nat} {C:Addr} {x m:Str} {F:FnV} {dvs:List V} {p pos apos:Pos} {e o:Expr} {es:List Expr} {ta:TE} {t:TA}
theorem m_cK {K:PySem.W.Frag} {mg:Str→Option Value} (c:CalZ X.prog X.w K mg X.base k x n F dvs) (hr:Room j X.A) (hk:k≤j) (tk:Takes X W) (hg:Gl X x) (ha:PA X (e::es) t)
  (hdb:(x == ("__debug__" :Str))=false:=by decide) (he:starEach (e::es) X.env=(false,eval e X.env)::starEach es X.env:=by rfl) (hpl:(backTo pos (starEach es X.env)).any (·.1)=false:=by rfl) (hK:X.K=K:=by rfl) (hM:X.mg=mg:=by rfl):
  PE X (.Call (.Name x p) (e::es) [] pos) (tCallSD (spF ⟨K,mg⟩ n F) dvs (WE W) t):=by
 subst hK
 subst hM
 exact m_cZ c hr hk tk hg ha hdb he hpl
theorem m_mkK {K:PySem.W.Frag} {mg:Str→Option Value} (c:MakZ X.prog X.w K mg X.base k x C n F dvs) (hr:Room j X.A) (hk:k+1≤j) (tk:Takes X W) (hg:Gl X x) (ha:PA X (e::es) t)
  (hdb:(x == ("__debug__" :Str))=false:=by decide) (he:starEach (e::es) X.env=(false,eval e X.env)::starEach es X.env:=by rfl) (hpl:(backTo pos (starEach es X.env)).any (·.1)=false:=by rfl) (hK:X.K=K:=by rfl) (hM:X.mg=mg:=by rfl):
  PE X (.Call (.Name x p) (e::es) [] pos) (qb C (spF ⟨K,mg⟩ n F) dvs (WE W) t):=by
 subst hK
 subst hM
 exact m_mkZ c hr hk tk hg ha hdb he hpl
theorem m_mtK {K:PySem.W.Frag} {mg:Str→Option Value} {pl:Sem Bool} (c:MetZ X.prog X.w K mg X.base k C m n F dvs) (hr:Room j X.A) (hk:k≤j) (tk:Takes X W) (he:PE X o ta) (ha:PA X (e::es) t)
  (hst:starEach (e::es) X.env=(false,eval e X.env)::starEach es X.env:=by rfl) (hpl:(backTo pos (starEach es X.env)).any (·.1)=false:=by rfl)
  (ht:eval (.Call (.Attribute o m apos) (e::es) [] pos) X.env=(do
   let ov←eval o X.env
   standAt apos.atName
   let (f,first)←holding [ov] (getMethod ov m pl)
   callWith pos f first (backTo pos (starEach (e::es) X.env)) (backToKw pos (keywordEach [] X.env))):=by rfl) (hK:X.K=K:=by rfl) (hM:X.mg=mg:=by rfl):
  PE X (.Call (.Attribute o m apos) (e::es) [] pos) (iu C m (spF ⟨K,mg⟩ n F) dvs (WE W) ta t):=by
 subst hK
 subst hM
 exact fO c hr hk tk he ha hst hpl ht
end
theorem kit_self {K:PySem.W.Frag} {a:Addr}:PySem.W.kitOne K (.ref a) (.ref a)=some true:=by
 unfold PySem.W.kitOne
 rw [if_pos]
 exact beq_self_eq_true _
section

end
section
variable {W:WX} {E:En} {H:Hp} {s:SD} {b:Vl} {p:Wr} {S:Sto} {i k:Nat} {is:List Nat} {ks:List (Key×D)}
def En.cl (E:En) (p:Wr) (nx:Nat) (d:Addr) (o:HO):En:= {F:=fun b=>E.F b∨b=d,W:= {γ:=p.γ,n:=E.W.n,O:=fun b=>E.W.O b∨b=d,H:=upd E.W.H d o},S:= {nx:=nx,get:=fun j=>if p.γ j=d then none else E.S.get j}}
noncomputable def zLcD (k:Nat) (fz:Vl→SD→R Unit) (ft:SD→R Bool) (fe:SD→R Vl) (is:List Nat):SD→R Vl:=fun s=>match s.sl[k]? with
 | some (some (.d (.cell i)))=>match s.st.get i with
  | some (.dct ks)=>(fZ (fun _=>True) fz ft fe is (Wk.keys.ds ks) [] ((⟨s.sl,s.st.del i⟩:SD).wipe is)).nx.bind fun acc s2=> .ok (.own (.lst acc)) ⟨s2.sl,s2.st.put i (.dct ks)⟩
  | _=> .bad
 | _=>zLc (kO .keys (aa k)) fz ft fe is s
noncomputable def zLcDE (fa:SD→R Vl) (fz:Vl→SD→R Unit) (ft:SD→R Bool) (fe:SD→R Vl) (is:List Nat):SD→R Vl:=fun s=>match fa s with
 | .ok (.d (.cell i)) _=>match s.st.get i with
  | some (.dct ks)=>if fa ⟨s.sl,s.st.del i⟩= .ok (.d (.cell i)) ⟨s.sl,s.st.del i⟩ then (fZ (fun _=>True) fz ft fe is (Wk.keys.ds ks) [] ((⟨s.sl,s.st.del i⟩:SD).wipe is)).nx.bind fun acc s2=> .ok (.own (.lst acc)) ⟨s2.sl,s2.st.put i (.dct ks)⟩ else .bad
  | _=> .bad
 | _=>zLc (kO .keys fa) fz ft fe is s
end
section

end
def zRaise0 (c:Str) (fa:SD→R Vl):SD→R Fl:=fun s=>(fa s).bind fun _ s1=> .ex c [] s1
def zRaise1 (c f:Str) (fa:SD→R Vl):SD→R Fl:=fun s=>(fa s).bind fun a s1=>(s1.fix a).bind fun x s2=> .ex c [(f,x)] s2
def zTry (m:Str→Option Bool) (i:Nat) (fb fs:SD→R Fl):SD→R Fl:=fun s=>match fb s with
 | .ex c vs s1=>(match m c with
  | some true=>(match fs {s1 with sl:=s1.sl.set i (some (.d (.exc c vs)))} with
   | .ok fl s2=> .ok fl (s2.wipe [i])
   | _=> .bad)
  | some false=> .ex c vs s1
  | none=> .bad)
 | r=>r
def oXf (ok:Str→Bool) (f:Str) (a:Vl) (s:SD):R Vl:=match s.cont a with
 | some (.exc c fs)=>if ok c=true then (match bI fs f with
  | some x=> .ok (.d x) s
  | none=> .bad) else .bad
 | _=> .bad
noncomputable def oIsX (m:Str→Option Bool) (kd:Bool) (a:Vl) (s:SD):R Vl:=match s.cont a with
 | some (.exc c _)=>(match m c with
  | some b=> .ok (.d (.bl b)) s
  | none=> .bad)
 | some x=>(match x.knd with
  | some _=>if kd=true then .ok (.d (.bl false)) s else .bad
  | none=> .bad)
 | none=> .bad
def TakesOk (G:Gc) (cv:Value) (m:Str→Option Bool):Prop:=∀c b C,m c=some b→G.mg c=some (.ref C)→PySem.W.exmOne G.K (.ref C) cv=some b
def XfOk (G:Gc) (f:Str) (ok:Str→Bool):Prop:=∀c C,ok c=true→G.mg c=some (.ref C)→L2.XfC G.K C∧PySem.W.findIn G.K (.ref C) f=some none
structure IsXOk (G:Gc) (cv:V) (u:Value) (m:Str→Option Bool) (kd:Bool):Prop where
 cls:ClsV cv u
 own:∀c b C,m c=some b→G.mg c=some (.ref C)→L2.ExcC G.K C∧PySem.W.kitOne G.K (.ref C) u=some b
 kd:kd=true→∀k∈ ["NoneType","bool","int","str","list","tuple","dict"],PySem.W.kitOne G.K (.type k) u=some false
def rIsXZ (K:PySem.W.Frag):List V→Hp→VK→Prop:=fun xs H Q=>rIsX K xs H Q∨rIsi K xs H Q
section
variable {G:Gc} {W:WX} {E:En} {σ σ' :L2.St} {τ:List V} {H:Hp} {s s' :SD} {θ:List Vl} {v:V} {a b:Vl} {x:D} {p:Wr} {Q:VK} {i:Nat}
theorem Cont.exc {c:Str} {ds:List (Str×D)} (h:Cont G p (.exc c ds) v):Rep G p (.exc c ds) v:=h.sc rfl
theorem RS.tryK {cv:Value} {m:Str→Option Bool} {tb:WX→TS} {ts:TS} {fb fs:SD→R Fl} (hm:TakesOk G cv m) (hb:∀W',RS G W' (tb W') fb) (hs:RS G WF ts fs):RS G W (fun D σ H=>tb (wK G.K cv i ts W D) D σ H) (zTry m i fb fs):=by
 intro E σ τ H s θ D hN hR hw
 refine hb _ E σ τ H s θ D hN hR ?_
 unfold zTry at hw
 cases e:fb s with
 | ok fl s1=>rw [e] at hw; exact hw
 | bad=>rw [e] at hw; exact hw
 | ex c vs s1=>
  rw [e] at hw
  dsimp only at hw
  intro cls d σ' H' hx
  have hx0:=hx
  obtain ⟨p,rfl,hl,h,C,hC,rfl,xv⟩:=hx
  cases e1:m c with
  | none=>rw [e1] at hw; exact hw.elim
  | some b=>
   have hmb:=hm c b C e1 hC
   rw [e1] at hw
   cases b with
   | false=>exact ⟨false,hmb,(fun z=>nomatch z),fun _=>hw _ _ σ' _ hx0⟩
   | true=>
    refine ⟨true,hmb,fun _ a ha=>?_,fun z=>nomatch z⟩
    have q1:=h.alloc (o:=kxO (.ref C) d a) ha
    have rep:Rep G {p with H:=upd p.H a (kxO (.ref C) d a)} (.exc c vs) (.ref a):=by
     refine ⟨a,C,d,rfl,(h.fresh ha).2,hC,upd_same, ?_⟩
     rcases xv with ⟨e2,e3⟩ | ⟨da,fvs,e2,e3,e4,e5⟩
     ·exact .inl ⟨e2,e3⟩
     ·exact .inr ⟨da,fvs,e2,(upd_ne (ne_of_none e3 ha)).trans e3,e4,RepF.mono (cm ha) e5⟩
    have hR1:Rel G E (σ'.set i (some (.ref a))) τ (upd p.H a (kxO (.ref C) d a)) {s1 with sl:=s1.sl.set i (some (.d (.exc c vs)))} θ:=
     Rel.store (v:= .ref a) (a:= .d (.exc c vs)) (Rel.snoc (q1.push rep) hl rfl) hN fun j z=>nomatch z
    have out:∀{σ2:L2.St} {τ2:List V} {H2:Hp} {s2:SD} {θ2:List Vl},Nl θ2→Rel G E σ2 τ2 H2 s2 θ2→Rel G E (σ2.set i none) τ2 H2 (s2.wipe [i]) θ2:=fun hN2 h2=>(h2.wipe (is:= [i])).repl hN2 bR .set
    refine hs E _ τ _ _ θ _ hN hR1 ?_
    dsimp only at hw
    cases e2:fs {s1 with sl:=s1.sl.set i (some (.d (.exc c vs)))} with
    | bad=>rw [e2] at hw; exact hw.elim
    | ex c2 v2 s2=>rw [e2] at hw; exact hw.elim
    | ok fl s2=>
     rw [e2] at hw
     cases fl with
     | nx=>exact fun σ2 H2 h2=>hw _ H2 (out hN h2)
     | bk=>exact fun σ2 H2 h2=>hw _ H2 (out hN h2)
     | ct=>exact fun σ2 H2 h2=>hw _ H2 (out hN h2)
     | rt b=>exact ⟨hw.1,fun σ2 v2 H2 h2=>hw.2 (σ2.set i none) v2 H2 (out (hN.snoc hw.1) h2)⟩
theorem RE.xf {ok:Str→Bool} {f:Str} {ta:TE} {fa:SD→R Vl} (hx:XfOk G f ok) (ha:RE G W ta fa):RE G W (tXk G.K f ta) (z1 (oXf ok f) fa):=by
 refine RE.op1 (r:=fun x H Q=>∃(a C da:Addr) (fs:List (Str×V)) (v:V),x= .ref a∧H a=some (kxO (.ref C) (some da) a)∧L2.XfC G.K C∧PySem.W.findIn G.K (.ref C) f=some none∧H da=some (.xd fs)∧fs.lookup f=some v∧Q v H) ?_ ?_ ha
 ·intro E σ τ s θ p v a Q hl h hw
  obtain ⟨h0,ca,_⟩:=bL hl h
  unfold oXf at hw
  split at hw
  ·rename_i c ds e
   split at hw
   ·rename_i hok
    split at hw
    ·rename_i x e1
     obtain ⟨a',C,d,rfl,n,hC,hH,⟨rfl,_⟩ | ⟨da,fvs,rfl,e3,e4,e5⟩⟩:=(ca _ e).exc
     ·cases e1
     ·obtain ⟨T,no⟩:=hx c C hok hC
      obtain ⟨w,e6,r⟩:=(RepF.val e5).1 x e1
      exact ⟨a',C,da,fvs,w,rfl,hH,T,no,e3,e6,aR h0 hl hw r⟩
    ·exact hw.elim
   ·exact hw.elim
  ·exact hw.elim
 ·intro a s c fs s'
  unfold oXf
  split
  ·split
   ·split<;> (intro q; cases q)
   ·intro q; cases q
  ·intro q; cases q
end
structure XT (K:PySem.W.Frag) (C:Addr):Prop where
 hd:PySem.W.hasDictIn K C=true
 ty:PySem.W.typeIn K (.ref C)=some (.type "type")
 me:PySem.W.subIn K (.ref C) (.ref C)=some true
 b:PySem.W.subIn K (.ref C) (.type "BaseException")=some true
structure XCls (K:PySem.W.Frag) (C:Addr):Prop extends XT K C where
 ga:PySem.W.findIn K (.ref C) "__getattribute__" =some (some (.builtin "BaseException.__getattribute__"))
 gg:PySem.W.findIn K (.ref C) "__getattr__" =some none
 ca:PySem.W.findIn K (.ref C) "__class__" =some (some (.builtin "object.__class__"))
 sp:PySem.W.specialIn K (.builtin "object.__class__") "__get__" =some (some (.builtin "getset_descriptor.__get__"))
 tk:PySem.W.takesIn K (.builtin "object.__class__")=some true
 ob:PySem.W.mroIn K C (.type "object")=some true
structure X0Z (K:PySem.W.Frag) (C:Addr):Prop where
 q:PySem.W.excIn K C [.type "ValueError", .type "Exception", .type "BaseException", .type "object"] "ValueError.__new__" =true
 k:PySem.W.keepIn K (.ref C)=true
section
variable {K:PySem.W.Frag} {C D:Addr} {b:Bool}
theorem XCls.exc (h:XCls K C):L2.ExcC K C:=⟨h.ga,h.gg,h.b,h.hd,h.ca,h.sp,h.tk,h.ob⟩
theorem XCls.xf (h:XCls K C):L2.XfC K C:=⟨h.ga,h.gg,h.b,h.hd⟩
theorem XT.cls (h:XT K C):(PySem.W.clsIn K C).isSome=true:=by
 have q:=h.hd
 unfold PySem.W.hasDictIn at q
 cases e:PySem.W.clsIn K C with
 | none=>rw [e] at q; cases q
 | some _=>rfl
theorem XT.kit {t:Value} (h:XT K D) (e:PySem.W.subIn K t (.ref D)=some b):PySem.W.kitOne K t (.ref D)=some b:=by
 unfold PySem.W.kitOne
 by_cases c:(t == .ref D)=true
 ·rw [if_pos c]
  have c' :=beq_iff_eq.mp c
  subst c'
  exact h.me.symm.trans e
 ·rw [if_neg c]
  show (if ((PySem.W.clsIn K D).isSome&&PySem.W.typeIn K (.ref D) == some (.type "type"))=true then PySem.W.subIn K t (.ref D) else none)=some b
  rw [if_pos (by rw [h.cls,h.ty]; rfl)]
  exact e
theorem XT.kd (h:XT K D):∀k∈ ["NoneType","bool","int","str","list","tuple","dict"],PySem.W.kitOne K (.type k) (.ref D)=some false:=by
 intro k hk
 refine h.kit ?_
 simp only [List.mem_cons,List.not_mem_nil,or_false] at hk
 rcases hk with rfl | rfl | rfl | rfl | rfl | rfl | rfl<;> rfl
end
def XTab (G:Gc) (P:Addr→Bool→Prop):List (Str×Bool)→Prop
 | []=>True
 | (c,b)::r=>(∃C,G.mg c=some (.ref C)∧P C b)∧XTab G P r
def pick (l:List (Str×Bool)) (c:Str):Option Bool:=l.lookup c
def picks (l:List (Str×Bool)) (c:Str):Bool:=(l.lookup c).isSome
section
variable {G:Gc} {P:Addr→Bool→Prop} {c:Str} {C:Addr} {b:Bool}
theorem XTab.get:∀{l:List (Str×Bool)},XTab G P l→l.lookup c=some b→G.mg c=some (.ref C)→P C b
 | [],_,e,_=>by cases e
 | (c',b')::r,h,e,m=>by
  obtain ⟨⟨C',m',p⟩,t⟩:=h
  by_cases q:c=c'
  ·subst q
   rw [List.lookup_cons_self] at e
   cases e
   rw [m] at m'
   cases m'
   exact p
  ·have q' :(c == c')=false:=by simpa using q
   rw [List.lookup,q'] at e
   exact XTab.get t e m
end
structure DxZ (K:PySem.W.Frag) (mg:Str→Option Value) (x:Str) (C:Addr) (qual:Str) (st:Stmt) (p1 f1:Str):Prop where
 T:OexC K C
 no:PySem.W.findIn K (.ref C) f1=some none
 gC:mg x=some (.ref C)
 ex:∃(fI:Addr) (fd:FuncData),PySem.W.findIn K (.ref C) "__init__" =some (some (.ref fI))∧PySem.W.typeIn K (.ref fI)=some (.type "function")∧L2.Fun K "__init__" qual st fI fd∧L2.Binds K fd ["self",p1] []
def tOfZ (G:Gc) (W:WX) (fz:SD→R Fl):TS:=fun D σ H=>∃(E:En) (τ:List V) (s:SD) (θ:List Vl),Nl θ∧Rel G E σ τ H s θ∧Wp (fz s) (FP G E τ θ D) (XP G W E τ θ)
noncomputable def jZ (a b:Vl) (s:SD):R Vl:=match a,b with
 | .d (.str x), .d (.str y)=>if (y.length == 0)=false∧x.length+2≤sizeLine then .ok (.own (.lst ((Txt.split x y).map .str))) s else .bad
 | _,_=> .bad
def gM (a b:Vl) (s:SD):R Vl:=match a,b with
 | .d (.str x), .d (.str y)=> .ok (.d (.bl (Txt.startswith x y))) s
 | _,_=> .bad
def zTryO (m:Str→Option Bool) (fb fs:SD→R Fl):SD→R Fl:=fun s=>match fb s with
 | .ex c vs s1=>(match m c with
  | some true=>(match fs s1 with
   | .ok fl s2=> .ok fl s2
   | _=> .bad)
  | some false=> .ex c vs s1
  | none=> .bad)
 | r=>r
section
variable {G:Gc} {W:WX} {E:En} {σ:L2.St} {τ:List V} {H:Hp} {s:SD} {θ:List Vl} {v u:V} {a b:Vl} {p:Wr} {Q:VK} {ta tb:TE} {fa fb:SD→R Vl}
theorem p_split:bN G (fun x y H Q=>∃a b,x= .str a∧ [y]= [.str b]∧(b.length == 0)=false∧a.length+2≤sizeLine∧rNewStrs (Txt.split a b) H Q) jZ:=by
 intro E σ τ s θ p v u a b Q hl h hw
 unfold jZ at hw
 split at hw
 ·obtain ⟨r1,r2⟩:=last2v hl h
  obtain ⟨h0,_,_⟩:=cJ hl h
  split at hw
  ·rename_i hz
   obtain rfl:v= .str _:=r1
   obtain rfl:u= .str _:=r2
   exact ⟨_,_,rfl,rfl,hz.1,hz.2,fun q hq=>bM h0 hl hw hq qc⟩
  ·exact hw.elim
 ·exact hw.elim
theorem ui:bN G (fun x y H Q=>∃a b,x= .str a∧ [y]= [.str b]∧Q (.bl (Txt.startswith a b)) H) gM:=by
 intro E σ τ s θ p v u a b Q hl h hw
 unfold gM at hw
 split at hw
 ·obtain ⟨r1,r2⟩:=last2v hl h
  obtain ⟨h0,_,_⟩:=cJ hl h
  obtain rfl:v= .str _:=r1
  obtain rfl:u= .str _:=r2
  exact ⟨_,_,rfl,rfl,aR h0 hl hw rfl⟩
 ·exact hw.elim
theorem RE.split (ha:RE G W ta fa) (hb:RE G W tb fb):RE G W (tM1 (fun x xs H Q=>∃a b,x= .str a∧xs= [.str b]∧(b.length == 0)=false∧a.length+2≤sizeLine∧rNewStrs (Txt.split a b) H Q) ta tb) (zM1s jZ fa fb):=
 RE.m1 p_split (by intros; unfold jZ; (repeat' split)<;> (intro q; cases q)) ha hb
theorem RE.starts (ha:RE G W ta fa) (hb:RE G W tb fb):RE G W (tM1 (fun x xs H Q=>∃a b,x= .str a∧xs= [.str b]∧Q (.bl (Txt.startswith a b)) H) ta tb) (zM1s gM fa fb):=
 RE.m1 ui (by intros; unfold gM; (repeat' split)<;> (intro q; cases q)) ha hb
def rIns:V→List V→Hp→VK→Prop:=fun x vs H Q=>∃(l:Addr) (xs:List V) (i:Int) (y:V),x= .ref l∧vs= [.int i,y]∧H l=some (.lst xs)∧xs.length<sizeLine∧0≤i∧i<2 ^ 63∧Q .non (upd H l (.lst (xs.take i.toNat++ [y]++xs.drop i.toNat)))
noncomputable def dM (k:Int) (c z:D):Option (D×D):=match c with
 | .lst ds=>if ds.length<sizeLine∧0≤k∧k<2 ^ 63 then some (.lst (ds.take k.toNat++ [z]++ds.drop k.toNat), .non) else none
 | _=>none
theorem uI {k:Int}:Chg2 G (fun x y H Q=>rIns x [.int k,y] H Q) (dM k):=by
 intro p c z y t b u Q e ho r
 unfold dM at e
 split at e
 ·split at e
  ·rename_i ds hz
   cases e
   obtain ⟨vs,e1,r1⟩:=ho
   exact ⟨.lst (vs.take k.toNat++ [u]++vs.drop k.toNat), .non,rfl,fun le=>⟨_,upd_same,(((r1.take _).mono le).append (Reps.one (Rep.mono le r))).append ((r1.drop _).mono le)⟩,fun q=>⟨b,vs,k,u,rfl,rfl,e1,by rw [r1.len]; exact hz.1,hz.2.1,hz.2.2,q⟩⟩
  ·cases e
 ·cases e
noncomputable def zIns (fo fi fx:SD→R Vl):SD→R Vl:=fun s=>(fo s).bind fun a s1=>if isL s1 a=true then (fi s1).bind fun i s2=>match i with
 | .d (.int k)=>(fx s2).bind fun b s3=>oB2 (dM k) a b s3
 | _=> .bad
 else .bad
theorem RE.insert {tl ti tx:TE} {fo fi fx:SD→R Vl} (ho:RE G W tl fo) (hi:RE G W ti fi) (hx:RE G W tx fx):RE G W (tBM G.K "list" rIns tl (tCons ti (tCons tx tNil))) (zIns fo fi fx):=by
 intro E σ τ H s θ Q hN hR hw
 unfold zIns at hw
 rw [ae] at hw
 refine ho E σ τ H s θ _ hN hR (hw.mono (fun a s1 hw v H1 h1=>?_) fun _ _ _ h=>h)
 split at hw
 ·rename_i c
  have h0:=h1
  obtain ⟨p,rfl,hl,h⟩:=h1.unsnoc
  refine ⟨iC p s1 a v c (bL hl h).2.1, ?_⟩
  refine RE.next (Q:=fun y H2=>tCons tx tNil σ H2 fun xs H3=>rIns v (y::xs) H3 Q) hi hN h0 hw fun i s2 u H2 h2 hw=>?_
  split at hw
  ·rename_i k
   have hu:u= .int k:=by
    obtain ⟨p,_,r⟩:=h2.last
    exact r
   subst hu
   refine RE.next (Q:=fun z H3=>rIns v [.int k,z] H3 Q) hx hN h2.pop hw fun b s3 y H3 h3 hw=>?_
   obtain ⟨p,rfl,hl,h⟩:=h3.unsnoc
   rw [List.map_append,List.map_append,←List.append_assoc,←List.append_assoc] at h
   refine mK uI E σ τ s3 θ p v y a b Q hl h ?_
   cases e:oB2 (dM k) a b s3 with
   | ok b s2=>rw [e] at hw; exact hw
   | ex c fs s2=>exact (mM _ _ _ _ _ _ e).elim
   | bad=>rw [e] at hw; exact hw
  ·exact hw.elim
 ·exact hw.elim
def fPopAt (c z:D):Option (D×D):=match c,z with
 | .lst ds, .int i=>if -(2 ^ 63)≤i∧i<2 ^ 63 then (match ixN ds.length i with
  | some k=>(match ds[k]? with
   | some t=>some (.lst (ds.eraseIdx k),t)
   | none=>none)
  | none=>none) else none
 | _,_=>none
theorem Reps.erase {ds:List D} {vs:List V} (h:Reps G p ds vs) (n:Nat):Reps G p (ds.eraseIdx n) (vs.eraseIdx n):=by
 rw [List.eraseIdx_eq_take_drop_succ,List.eraseIdx_eq_take_drop_succ]
 exact (h.take n).append (h.drop (n+1))
def zUnp2 (f1 f2:Vl→SD→R Unit) (a:Vl) (s:SD):R Unit:=match s.cont a with
 | some (.tup [d1,d2])=>(f1 (.d d1) s).bind fun _ s1=>f2 (.d d2) s1
 | _=> .bad
theorem RG.two {g1 g2:TG} {f1 f2:Vl→SD→R Unit} (h1:RG G W [] g1 f1) (h2:RG G W [] g2 f2):RG G W [] (gTup G.K 2 (gCons g1 (gCons g2 gNil))) (zUnp2 f1 f2):=by
 intro E σ τ H s θ v a Q hN hR hw
 obtain ⟨p,rfl,hl,h⟩:=hR.unsnoc
 obtain ⟨h0,c,_⟩:=bL hl h
 unfold zUnp2 at hw
 split at hw
 ·rename_i d1 d2 e1
  obtain ⟨b,vs,rfl,hb,r⟩:=(c _ e1).tup
  obtain ⟨v1,r1,rfl,q1,r⟩:=r
  obtain ⟨v2,r2,rfl,q2,r⟩:=r
  obtain rfl:r2= []:=r
  refine ⟨b,[v1,v2],rfl, .of hb,rfl,v1,[v2],rfl, ?_⟩
  have R2:Rel G E σ (τ++ [v2]) p.H s (θ++ [.d d2]):= .snoc (h0.push q2) hl rfl
  have R1:Rel G E σ (τ++ [v2]++ [v1]) p.H s (θ++ [.d d2]++ [.d d1]):=by
   refine .snoc ?_ hl rfl
   rw [List.map_append,List.map_append,←List.append_assoc,←List.append_assoc]
   exact (h0.push q2).push q1
  rw [ae] at hw
  refine h1 E σ (τ++ [v2]) p.H s (θ++ [.d d2]) v1 (.d d1) _ hN.d R1 (hw.mono (fun _ s1 hw σ1 H1 h3 o1=>?_) fun _ _ _ h=>h.up)
  refine ⟨v2,[],rfl, ?_⟩
  exact h2 E σ1 τ H1 s1 θ v2 (.d d2) _ hN h3 (hw.mono (fun _ s2 hw σ2 H2 h4 o2=>⟨rfl,hw σ2 H2 h4 ⟨o2.1.trans o1.1,fun k hk=>(o2.2 k hk).trans (o1.2 k hk)⟩⟩) fun _ _ _ h=>h)
 ·exact hw.elim
end
def mnL:Int→List Int→Int
 | i,[]=>i
 | i,j::is=>mnL (if j<i then j else i) is
theorem mnL_le:∀(is:List Int) (i:Int),mnL i is≤i∧∀j∈is,mnL i is≤j
 | [],i=>⟨Int.le_refl _,fun _ h=>(by cases h)⟩
 | k::is,i=>by
  obtain ⟨h1,h2⟩:=mnL_le is (if k<i then k else i)
  have e:mnL i (k::is)=mnL (if k<i then k else i) is:=rfl
  have h3:(if k<i then k else i)≤i∧(if k<i then k else i)≤k:=by split<;> omega
  refine ⟨by rw [e]; omega,fun j hj=>?_⟩
  rw [e]
  rcases List.mem_cons.mp hj with rfl | hj
  ·omega
  ·exact h2 j hj
theorem mnL_mem:∀(is:List Int) (i:Int),mnL i is=i∨mnL i is∈is
 | [],i=> .inl rfl
 | k::is,i=>by
  have e:mnL i (k::is)=mnL (if k<i then k else i) is:=rfl
  rw [e]
  rcases mnL_mem is (if k<i then k else i) with h | h
  ·rw [h]
   split
   ·exact .inr List.mem_cons_self
   ·exact .inl rfl
  ·exact .inr (List.mem_cons_of_mem _ h)
def ka (a:Vl) (s:SD):R Vl:=match s.cont a with
 | some (.lst ds)=>match fQ ds with
  | some (i::is)=> .ok (.d (.int (mnL i is))) s
  | _=> .bad
 | _=> .bad
noncomputable def br (a b:Vl) (s:SD):R Vl:=match s.cont a,s.cont b with
 | some (.lst ds),some x=>match scs ds,x.sc with
  | some vs,some v=>match vs.findIdx? (fun z=>eqV z v) with
   | some j=> .ok (.d (.int (j:Nat))) s
   | none=> .bad
  | _,_=> .bad
 | _,_=> .bad
section
variable {G:Gc} {W:WX} {E:En} {σ:L2.St} {τ:List V} {H:Hp} {s:SD} {θ:List Vl} {v u:V} {a b:Vl} {p:Wr} {Q:VK} {ta tb:TE} {fa fb:SD→R Vl}
theorem p_minL:ik G (fun v H Q=>rMin G.K [v] H Q) ka:=by
 intro E σ τ s θ p v a Q hl h hw
 obtain ⟨h0,ca,_⟩:=bL hl h
 unfold ka at hw
 split at hw
 ·rename_i e
  split at hw
  ·rename_i i is e1
   obtain ⟨b,vs,rfl,hb,r⟩:=(ca _ e).lst
   obtain rfl:=gY r e1
   refine ⟨b,_,rfl, .of hb,by simp,fun m hm hle=>?_⟩
   have e2:m=mnL i is:=by
    have h1:=mnL_le is i
    have h2:=mnL_mem is i
    have h3:mnL i is≤m:=by
     rcases List.mem_cons.mp hm with rfl | hm
     ·exact h1.1
     ·exact h1.2 m hm
    have h4:m≤mnL i is:=hle _ (by
     rcases h2 with h2 | h2
     ·rw [h2]; exact List.mem_cons_self
     ·exact List.mem_cons_of_mem _ h2)
    omega
   subst e2
   exact aR h0 hl hw rfl
  ·exact hw.elim
 ·exact hw.elim
theorem q_minL:Op1 G (fun v H Q=>rMin G.K [v] H Q) ka:=⟨p_minL,by intros; unfold ka; (repeat' split)<;> (intro q; cases q)⟩
theorem p_index:bN G (fun x y H Q=>rIndex G.K x [y] H Q) br:=by
 intro E σ τ s θ p v u a b Q hl h hw
 obtain ⟨h0,ca,cb⟩:=cJ hl h
 unfold br at hw
 split at hw
 ·rename_i ds x e1 e2
  split at hw
  ·rename_i vs w e3 e4
   split at hw
   ·rename_i j e5
    obtain ⟨b,us,rfl,hb,r⟩:=(ca _ e1).lst
    obtain rfl:=eD r e3
    have hv:=cf ((cb _ e2).sc (fU e4)) e4
    subst hv
    obtain ⟨hj,h1,h2⟩:=List.findIdx?_eq_some_iff_getElem.mp e5
    exact ⟨b,us,u,j,us[j],rfl,rfl, .of hb,fM e4,dU e3,List.getElem?_eq_getElem hj,h1,fun m z' hm ez=>by
     obtain ⟨hm2,rfl⟩:=List.getElem?_eq_some_iff.mp ez
     simpa using h2 m hm,aR h0 hl hw rfl⟩
   ·exact hw.elim
  ·exact hw.elim
 ·exact hw.elim
theorem RE.index (ha:RE G W ta fa) (hb:RE G W tb fb):RE G W (tBM G.K "list" (rIndex G.K) ta (tCons tb tNil)) (zM2 isL br fa fb):=
 RE.bm iC p_index (by intros; unfold br; (repeat' split)<;> (intro q; cases q)) ha hb
def zUnpL (is:List Nat) (a:Vl) (s:SD):R Unit:=match s.cont a with
 | some (.lst ds)=>if ds.length=is.length then .ok () {s with sl:=bG is ds s.sl} else .bad
 | _=> .bad
end
theorem iZ {X:Cx} {K:PySem.W.Frag} {o e:Expr} {apos cpos:Pos} {to te:TE} (ho:PE X o to) (he:PE X e te)
  (hbase:attributeBase o "index" X.env (eval o X.env)=eval o X.env:=by rfl)
  (hfew:((backTo cpos (starEach [e] X.env)).all (fun x=>!x.1)&&(backToKw cpos (keywordEach [] X.env)).all (fun x=>x.1.isSome)
   &&decide (([e]:List Expr).length+([]:List Keyword).length+(if ([]:List Keyword).isEmpty then 0 else 1)<30))=true:=by rfl)
  (hline:(apos.endLine == cpos.line)=true:=by rfl) (hs:starEach [e] X.env=(false,eval e X.env)::starEach [] X.env:=by rfl) (hplain:(backTo cpos (starEach [] X.env)).any (·.1)=false:=by rfl)
  (hK:X.K=K:=by rfl):PE X (.Call (.Attribute o "index" apos) [e] [] cpos) (tBM K "list" (rIndex K) to (tCons te tNil)):=by
 subst hK
 exact pe_bm PySem.F.plainAttrs_list PySem.F.slot_list_index PySem.F.type_list_index mt_index ho (pa_cons he pa_nil hs) hbase hfew hline hs hplain
def spXL (K:PySem.W.Frag) (f:Str):Sp:=fun vs H Q _=>∃(a C:Addr) (v:V),vs= [.ref a,v]∧OexC K C∧PySem.W.findIn K (.ref C) f=some none∧
 mG K [v] H fun u H1=>H1 a=some (exo a C none)∧∀dx,H1 dx=none→dx≠a→Q .non (upd (upd H1 dx (exd dx [(f,u)])) a (exo a C (some dx)))
section
variable {P:Program} {w:World} {K:PySem.W.Frag} {mg:Str→Option Value} {base:Heap}
structure XiL (P:Program) (w:World) (K:PySem.W.Frag) (mg:Str→Option Value) (base:Heap) (k:Nat) (x:Str) (C:Addr) (f:Str):Prop where
 T:OexC K C
 no:PySem.W.findIn K (.ref C) f=some none
 gC:mg x=some (.ref C)
 ex:∃(fI:Addr) (fd:FuncData) (ps:List Str),PySem.W.findIn K (.ref C) "__init__" =some (some (.ref fI))∧PySem.W.typeIn K (.ref fI)=some (.type "function")∧FnOk P w K mg base (L2.CX P w) k fI fd ps (spXL K f)∧Binds K fd ps []
end
def tRaiseL (K:PySem.W.Frag) (C:Addr) (f:Str) (W:WX) (te:TE):TS:=fun _ σ H=>tMkO C (spXL K f) [] (tCons te tNil) σ H fun cls d H' =>W cls d σ H'
def zRaiseL (c f:Str) (fa:SD→R Vl):SD→R Fl:=fun s=>(fa s).bind fun a s1=>(s1.fix a).bind fun x s2=>match x with
 | .lst ds=> .ex c [(f, .lst ds)] s2
 | _=> .bad
section
variable {W:WX} {H:Hp} {s:SD} {v:V} {a b:Vl} {x y:D} {Q:VK}
def rCountV (K:PySem.W.Frag):V→List V→Hp→VK→Prop:=fun x xs H Q=>∃(a:Addr) (ys:List V) (y:V),x=V.ref a∧xs= [y]∧SqL K H a ys∧flatV y=true∧ys.all flatV=true∧Q (.int ((ys.countP fun z=>eqV z y:Nat):Int)) H
noncomputable def qU (a b:Vl) (s:SD):R Vl:=match s.cont a,s.cont b with
 | some (.lst ds),some x=>match scs ds,x.sc with
  | some vs,some v=> .ok (.d (.int ((vs.countP fun z=>eqV z v:Nat):Int))) s
  | _,_=> .bad
 | _,_=> .bad
def zPV (k:Nat) (fv:SD→R Vl) (fp:SD→R (List (Key×D))):SD→R (List (Key×D)):=fun s=>match s.sl[k]? with
 | some (some (.d x))=>match x.key with
  | some kk=>zP kk fv fp s
  | none=> .bad
 | _=> .bad
end
def zRaiseC (c f:Str) (fa:SD→R Vl):SD→R Fl:=fun s=>(fa s).bind fun a s1=>(s1.fix a).bind fun x s2=>match x with
 | .lst ds=> .ex c [(f, .cell s2.st.nx)] {s2 with st:=s2.st.new (.lst ds)}
 | _=> .bad
section

end
end Z

namespace M
open PySem PySem.Spec PyProof.Rows L2
section

end
end M
namespace Z
open PySem PySem.Spec PyProof.Rows L2 M
open Classical
def tHeldL (C:Addr) (sp:Sp) (ta:TA):TE:=fun σ H Q=>tMkO C sp [] ta σ H fun cls d H' =>∀a,H' a=none→Q (.ref a) (upd H' a (M.kxO cls d a))
def zHeldL (c f:Str) (fa:SD→R Vl):SD→R Vl:=fun s=>(fa s).bind fun a s1=>(s1.fix a).bind fun x s2=>match s2.cont (.d x) with
 | some (.lst ds)=> .ok (.d (.exc c [(f, .lst ds)])) s2
 | _=> .bad
section

end
structure YT (K:PySem.W.Frag) (C:Addr):Prop where
 hd:PySem.W.hasDictIn K C=true
 ty:PySem.W.typeIn K (.ref C)=some (.type "type")
 me:PySem.W.subIn K (.ref C) (.ref C)=some true
section
variable {K:PySem.W.Frag} {D:Addr} {b:Bool}
theorem YT.kit {t:Value} (h:YT K D) (e:PySem.W.subIn K t (.ref D)=some b):PySem.W.kitOne K t (.ref D)=some b:=by
 have hc:(PySem.W.clsIn K D).isSome=true:=by
  have q:=h.hd
  unfold PySem.W.hasDictIn at q
  cases e:PySem.W.clsIn K D with
  | none=>rw [e] at q; cases q
  | some _=>rfl
 unfold PySem.W.kitOne
 by_cases c:(t == .ref D)=true
 ·rw [if_pos c]
  have c' :=beq_iff_eq.mp c
  subst c'
  exact h.me.symm.trans e
 ·rw [if_neg c]
  show (if ((PySem.W.clsIn K D).isSome&&PySem.W.typeIn K (.ref D) == some (.type "type"))=true then PySem.W.subIn K t (.ref D) else none)=some b
  rw [if_pos (by rw [hc,h.ty]; rfl)]
  exact e
theorem YT.kd (h:YT K D):∀k∈ ["NoneType","bool","int","str","list","tuple","dict"],PySem.W.kitOne K (.type k) (.ref D)=some false:=by
 intro k hk
 refine h.kit ?_
 simp only [List.mem_cons,List.not_mem_nil,or_false] at hk
 rcases hk with rfl | rfl | rfl | rfl | rfl | rfl | rfl<;> rfl
end
noncomputable def oIsU (mX mC:Str→Option Bool) (a:Vl) (s:SD):R Vl:=match s.cont a with
 | some (.exc c _)=>(match mX c with
  | some b=> .ok (.d (.bl b)) s
  | none=> .bad)
 | some (.obj c _)=>(match mC c with
  | some b=> .ok (.d (.bl b)) s
  | none=> .bad)
 | some x=>(match x.knd with
  | some _=> .ok (.d (.bl false)) s
  | none=> .bad)
 | none=> .bad
section

end
end Z

namespace M
open PySem PySem.Spec PyProof.Rows L2
open Classical
noncomputable def ou (ks:List Key):Nat→Nat
 | 0=>0
 | i+1=>ou ks i+(if ks.getD i (.inl 0)∈ks.take i then 0 else 1)
theorem lJ (ks:List Key):∀i,ou ks i≤i
 | 0=>Nat.le_refl _
 | i+1=>by
  have:=lJ ks i
  unfold ou
  split<;> omega
theorem tq {ks:List Key} (nd:ks.Nodup):∀i,i≤ks.length→ou ks i=i
 | 0,_=>rfl
 | i+1,h=>by
  have ih:=tq nd i (by omega)
  have e:ks[i]? =some ks[i]:=List.getElem?_eq_getElem h
  have no:ks.getD i (.inl 0)∉ks.take i:=fun hm=>by
   have nd2:=nd
   rw [←List.take_append_drop i ks,List.nodup_append] at nd2
   refine nd2.2.2 _ hm _ (List.mem_of_getElem? (i:=0) ?_) rfl
   rw [List.getElem?_drop,List.getD_eq_getElem?_getD]
   rw [Nat.add_zero,e]
   rfl
  unfold ou
  rw [if_neg no,ih]
section
variable {prog:Program} {w:World} {A:Around} {R:Result→Shared→Prop} {I:Addr} {fp wr:List Addr} {G:Array GenState→Array GenState→Prop} {n:Nat} {P:Nat→Value→Prop} {St:Nat→Shared→Prop}
theorem uc {k:Key} {u:Value} (r:RelV (kV k) u):u.scannable=true:=by
 rcases k with i | z<;> (obtain ⟨t,rfl⟩:=r; rfl)
theorem oQ {h:Heap} {a:Addr} {T T' :Key→Bool} {c c' :Nat} (g:h.SetOf (mixKind prog w) a T c) (e:∀k,T k=T' k) (ec:c=c'):h.SetOf (mixKind prog w) a T' c' :=by
 obtain rfl:T=T' :=funext e
 exact ec ▸ g
abbrev SetK (prog:Program) (w:World) (h:Heap) (S:Addr) (ks:List Key) (i:Nat):Prop:=h.SetOf (mixKind prog w) S (fun k=>decide (k∈ks.take i)) (ou ks i)
theorem SetK.on {h h' :Heap} {S:Addr} {ks:List Key} {i:Nat} (g:SetK prog w h S ks i) (k:∀o,h.get? S=some o→h'.get? S=some o):SetK prog w h' S ks i:=by
 obtain ⟨o,es,ep,t,ho,r⟩:=g
 exact ⟨o,es,ep,t,k o ho,r⟩
theorem loopK (W:WalksS prog w A.in1 I fp wr G n P St) (S:Addr) (out:S∉fp) (ks:List Key) (len:ks.length=n) (few:n+1<scanBound) (val:∀j x,P j x→RelV (kV (ks.getD j (.inl 0))) x):
  ∀m j s,n - j=m→j≤n→St j s→SetK prog w s.heap S ks j→(∀s',Moved (S::wr) G s s'→SetK prog w s'.heap S ks n→R (.ok (.ret .none)) s')→codeAny (model prog w) A (.builtin "set.update.loop" ⟨[.ref S, .ref I],[]⟩) R s:=by
 have outw:S∉wr:=fun q=>out (W.sub _ q)
 intro m
 induction m with
 | zero=>
  intro j s e hj st g done
  obtain rfl:j=n:=by omega
  refine codeAny_builtin F.entry_set_update_loop (by
   rw [Around.under_plainId F.plain_set_update_loop _]
   show wpAny _ A.in1 (pyNext (.ref I) >>= _) _ _ s
   refine wpAny_bind (W.done s _ _ st fun s' mv=>?_)
   show wpAny _ A.in1 (ret Value.none) _ _ s'
   exact wpAny_pure (done s' (mv.mono fun b=>List.mem_cons_of_mem _) (g.on (mv.heap S · outw))))
 | succ m ih=>
  intro j s e hj st g done
  have lt:j<n:=by omega
  refine codeAny_builtin F.entry_set_update_loop ?_
  rw [Around.under_plainId F.plain_set_update_loop _]
  show wpAny _ A.in1 (pyNext (.ref I) >>= _) _ _ s
  refine wpAny_bind (W.item j s _ _ lt st fun v s' hP st' mv=>?_)
  have rv:=val j v hP
  have g' :=g.on (mv.heap S · outw)
  show wpAny _ A.in1 (holding [v] (setAdd S v) >>= _) _ _ s'
  refine wpAny_bind (wpAny_holding ?_)
  unfold setAdd
  refine wpAny_holding (wpAny_bind ((mixKind prog w).pyHash (k:=ks.getD j (.inl 0)) (kV_is rv) ?_))
  have cb:=lJ ks j
  refine wpAny_setAddHashed_of (knd:=mixKind prog w) (s:= {s' with toks:=s'.toks+1}) (kV_is rv) (uc rv) g' (Nat.lt_of_le_of_lt (Nat.succ_le_succ (Nat.le_trans cb hj)) few) fun h' but g2=>?_
  have g3:SetK prog w h' S ks (j+1):=by
   have ej:ks[j]? =some (ks.getD j (.inl 0)):=by
    rw [List.getD_eq_getElem?_getD,List.getElem?_eq_getElem (by omega)]
    rfl
   refine oQ g2 (fun k=>?_) ?_
   ·rw [List.take_add_one,ej]
    show (decide (k∈ks.take j) || decide (k=ks.getD j (.inl 0)))=decide (k∈ks.take j++ [ks.getD j (.inl 0)])
    rw [←Bool.decide_or]
    exact decide_eq_decide.mpr (by rw [List.mem_append,List.mem_singleton])
   ·show (if decide (ks.getD j (.inl 0)∈ks.take j)=true then ou ks j else ou ks j+1)=ou ks j+(if ks.getD j (.inl 0)∈ks.take j then 0 else 1)
    by_cases q:ks.getD j (.inl 0)∈ks.take j
    ·rw [if_pos q,if_pos (decide_eq_true q),Nat.add_zero]
    ·rw [if_neg q,if_neg (by rw [decide_eq_false q]; exact Bool.false_ne_true)]
  refine wpAny_pure ⟨plainId_quiet F.plain_set_update_loop _,ih (j+1) _ (by omega) lt (W.frame _ s' _ _ st' (Nat.le_succ _) fun b hb o q=>?_) g3 fun s2 mv2 gn=>?_⟩
  ·exact (but.2 b fun z=>out (z ▸ hb)).trans q
  ·exact done s2 (Moved.trans W.gtrans ((mv.mono fun b=>List.mem_cons_of_mem _).then_heap (Nat.le_succ _) fun b o hb q=>(but.2 b fun z=>hb (z ▸ List.mem_cons_self)).trans q) mv2) gn
end
section
variable {prog:Program} {w:World} {A:Around} {E:Value→Shared→Prop} {s:Shared}
theorem rK:∀{us:List Value} {ks:List Key},Vals (ks.map kV) us→∀(j:Nat) (x:Value),us[j]? =some x→RelV (kV (ks.getD j (.inl 0))) x
 | _,[], .nil,j,x,e=>by simp at e
 | _,k::ks, .cons r t,0,x,e=>by
  simp only [List.getElem?_cons_zero,Option.some.injEq] at e
  exact e ▸ r
 | _,k::ks, .cons r t,j+1,x,e=>by
  simp only [List.getElem?_cons_succ] at e
  exact rK t j x e
set_option maxHeartbeats 3200000 in
theorem ju {l:Addr} {its:Array Value} {ks:List Key} {Q:Value→Shared→Prop} (calm:A.handled=none) (there:s.heap.IsList l its) (rel:Vals (ks.map kV) its.toList) (few:its.size+1<scanBound)
  (h:∀(h' :Heap) (tk:Nat),SetK prog w h' s.heap.objs.size ks its.size→(∀b o,b<s.heap.objs.size→s.heap.get? b=some o→h'.get? b=some o)→Q (.ref s.heap.objs.size) {s with heap:=h',toks:=tk}):
  wpAny (model prog w) A (call (.type "set") [.ref l]) Q E s:=by
 obtain ⟨c,tl,mro⟩:=PySem.F.called_set.mro
 have made:=PySem.F.called_set.made
 have sub:=PySem.F.called_set.sub
 refine wpAny_call (codeAny_of_tree ?_)
 show wpAny _ _ (callAny (.type "set") _) _ _ _
 refine wpAny_pure ⟨Code.quiet_builtin _ (by decide+kernel),codeAny_builtin PySem.F.entry_type_call (by
  rw [Around.under_plain (weight_type_call_type "set" [.ref l] []) rfl]
  have t1:=PySem.F.called_set.notType
  have t2:=PySem.F.called_set.canCreate
  have t3:=PySem.F.typeCall_set_1 (.ref l)
  repeat (any_goals (first | assumption | wp_step))
  refine codeAny_mono (code_set_new_1 (.ref l) (E:=E) (Q₁:=fun obj s1=>∃led:Bool,obj= .ref s.heap.objs.size∧s1= {s with heap:=s.heap.push {cls:= .type "set",dict:=none,data:= .set #[] 0 (.fresh 0 0 led)}}) fun led=>⟨led,rfl,rfl⟩) fun r s1 made1=>?_
  cases r with
  | error e=>exact made1
  | ok fl=>
   cases fl with
   | ret obj=>
    obtain ⟨led,rfl,rfl⟩:=made1
    have new:=Heap.get?_push_size s.heap (o:= {cls:= .type "set",dict:=none,data:= .set #[] 0 (.fresh 0 0 led)}) rfl
    have isT:Shared.TypeIs {s with heap:=s.heap.push {cls:= .type "set",dict:=none,data:= .set #[] 0 (.fresh 0 0 led)}} (.ref s.heap.objs.size) "set" :=⟨_,new,rfl⟩
    have look:=PySem.F.called_set.init.lookup
    have bind:=PySem.F.called_set.init.bind (.ref s.heap.objs.size)
    repeat (any_goals (first | assumption | wp_step))
    refine codeAny_mono (codeAny_call_builtin (R:=wants (fun r s2=>r= .none∧∃h' tk,s2= {s with heap:=h',toks:=tk}∧SetK prog w h' s.heap.objs.size ks its.size∧(∀b o,b<s.heap.objs.size→s.heap.get? b=some o→h'.get? b=some o)) E) PySem.F.called_set.init.plain PySem.F.entry_set_init (check_set_init_1 isT ?_)) fun r2 s2 got=>?_
    ·obtain ⟨ol,hol,hc,nl,hd⟩:=there
     obtain ⟨ocls,odict,odata,oslots⟩:=ol
     simp only at hc hd
     subst hc
     subst hd
     have hol' :(s.heap.push {cls:= .type "set",dict:=none,data:= .set #[] 0 (.fresh 0 0 led)}).get? l=some {cls:= .type "list",dict:=odict,data:= .seq its nl,slots:=oslots}:=Heap.get?_push_of_some _ hol
     have sub1:=PySem.F.sub_list_set
     have sub2:=PySem.F.sub_list_frozenset
     have nod:(Value.type "list" == Value.type "dict")=false:=by decide
     have isl:(s.heap.push {cls:= .type "set",dict:=none,data:= .set #[] 0 (.fresh 0 0 led)}).IsList l its:=⟨_,hol',rfl,nl,rfl⟩
     unfold Builtin.«set.__init__» noKeywords Builtin.Frozenset.updateFrom
     generalize hPI:pyIter=PI
     wp_walk
     subst hPI
     refine wpAny_pyIter_list isl ?_
     refine wpAny_bind (wpAny_runValue ?_)
     have lS:l<s.heap.objs.size:=Heap.lt_size hol
     have calm3:A.in1.in1.in1.handled=none:=by simp [calm]
     have ne1:l≠(s.heap.push {cls:= .type "set",dict:=none,data:= .set #[] 0 (.fresh 0 0 led)}).objs.size:=by
      rw [Heap.size_push]
      exact Nat.ne_of_lt (Nat.lt_succ_of_lt lS)
     have out:s.heap.objs.size∉ [(s.heap.push {cls:= .type "set",dict:=none,data:= .set #[] 0 (.fresh 0 0 led)}).objs.size,l]:=by
      rw [Heap.size_push]
      intro q
      rcases List.mem_cons.mp q with q | q
      ·exact Nat.ne_of_lt (Nat.lt_succ_self _) q
      ·exact Nat.ne_of_gt lS (List.mem_singleton.mp q)
     have sz:ks.length=its.size:=by
      have:=rel.length
      rw [List.length_map,Array.length_toList] at this
      exact this
     refine loopK ((Walks.list calm3 _ l ne1 its).toS) s.heap.objs.size out ks sz few (fun j x e=>rK rel j x (by rw [Array.getElem?_toList]; exact e)) (its.size - 0) 0 _ (by omega) (Nat.zero_le _) ⟨⟨_,Heap.get?_push_size _ rfl,rfl,rfl⟩,isl.push _⟩ ?start ?done
     case start=>
      have g0:((s.heap.push {cls:= .type "set",dict:=none,data:= .set #[] 0 (.fresh 0 0 led)}).push {cls:= .type "list_iterator",data:= .fields #[.ref l, .int 0 0]}).get? s.heap.objs.size=some {cls:= .type "set",dict:=none,data:= .set #[] 0 (.fresh 0 0 led)}:=Heap.get?_push_of_some _ new
      exact ⟨_, #[],0,_,g0,⟨rfl,rfl,rfl⟩,rfl,fun e he=>by simp at he,fun k=>by simp,by decide,by rfl,rfl⟩
     case done=>
      intro s' mv got
      obtain ⟨h',g',d',tk',os'⟩:=s'
      obtain rfl:g' =s.gens:=mv.gens
      obtain rfl:d' =s.drawn:=mv.drawn
      obtain rfl:os' =s.os:=mv.os
      show wpAny _ _ _ _ _ _
      refine wpAny_pure ?_
      show wpAny _ _ (ret Value.none) _ _ _
      refine wpAny_pure ⟨rfl,h',tk',rfl,got,fun b o hb e=>?_⟩
      refine mv.heap b o ?_ (Heap.get?_push_of_some _ (Heap.get?_push_of_some _ e))
      rw [Heap.size_push]
      intro q
      rcases List.mem_cons.mp q with q | q
      ·exact Nat.ne_of_lt hb q
      ·exact Nat.ne_of_lt (Nat.lt_succ_of_lt hb) (List.mem_singleton.mp q)
    ·cases r2 with
     | error e=>exact got
     | ok fl2=>
      cases fl2 with
      | ret r=>
       obtain ⟨rfl,h',tk,rfl,g1,g2⟩:=got
       repeat (any_goals (first | assumption | wp_step))
       exact h _ _ g1 g2
      | _=>exact got.elim
   | _=>exact made1.elim)⟩
end
def mr (K:PySem.W.Frag) (ta:TE):TE:=fun σ H Q=>ta σ H fun x H1=>∃(l:Addr) (ks:List Key),x= .ref l∧SqL K H1 l (ks.map kV)∧ks.length≤4000∧Q (.int (ou ks ks.length:Nat)) H1
theorem oX {X:Cx} {K:PySem.W.Frag} {a:Expr} {ta:TE} {p p2 q pos:Pos} (g1:Gl X "len") (m1:X.mg "len" =none) (g2:Gl X "set") (m2:X.mg "set" =none) (ha:PE X a ta) (calm:X.calm=true:=by rfl) (hK:X.K=K:=by rfl)
  (na:starEach [a] X.env=(false,eval a X.env)::starEach [] X.env:=by rfl):PE X (.Call (.Name "len" p) [.Call (.Name "set" p2) [a] [] q] [] pos) (mr K ta):=by
 subst hK
 refine ⟨fun pins s σ H Q I h=>Call_ (ld_blt I g1 m1 boot_len (callWith_builtin1 (args_cons (Call_ (ld_blt I g2 m2 boot_set (callWith_type1 (args_cons (thn (ha.run pins s σ H _ I h) fun v s1 hv=>args_nil ?_) na) na rfl))) rfl) rfl rfl))⟩
 obtain ⟨x,H1,I1,r1,l,ks,rfl,hq,few,q1⟩:=hv
 cases r1
 obtain ⟨its,r,there,_⟩:=I1.list hq
 have sz:its.toArray.size=ks.length:=by rw [List.size_toArray,←r.length,List.length_map]
 refine ju (I1.ok.hd calm) there.isList (by simpa using r) (by rw [sz]; unfold scanBound; omega) fun h' tk got keep=>args_nil ?_
 rw [sz] at got
 obtain ⟨o,es,ep,t,ho,hex,hd,_,_,_,hf,hn⟩:=got
 have le:=lJ ks ks.length
 have I2:Inv X pins σ H1 {s1 with heap:=h',toks:=tk}:=I1.kept fun b o e=>keep b o (Heap.lt_size e) e
 exact call_len_set ho hex hd hf (by rw [hn]; omega) ⟨.int (ou ks ks.length:Nat),H1,I2.tok _,⟨_,by rw [hn]⟩,q1⟩
end M
namespace Z
open PySem PySem.Spec PyProof.Rows L2 M
open Classical
def ly:List D→Option (List Key)
 | []=>some []
 | x::r=>match x.key,ly r with
  | some k,some ks=>some (k::ks)
  | _,_=>none
noncomputable def dF (a:Vl) (s:SD):R Vl:=match s.cont a with
 | some (.lst ds)=>match ly ds with
  | some ks=>if ks.length≤4000 then .ok (.d (.int (ou ks ks.length:Nat))) s else .bad
  | none=> .bad
 | _=> .bad
section
variable {G:Gc} {W:WX} {E:En} {s s' :SD} {p:Wr} {ta:TE} {fa:SD→R Vl}
theorem kr:∀{ds:List D} {us:List V} {ks:List Key},Reps G p ds us→ly ds=some ks→us=ks.map kV
 | [],us,ks,h,e=>by
  cases e
  exact h
 | x::r,us,ks,h,e=>by
  obtain ⟨v,vs,rfl,h1,h2⟩:=h
  unfold ly at e
  split at e
  ·rename_i k ks' e1 e2
   cases e
   rw [jb h1 e1,kr h2 e2]
   rfl
  ·cases e
theorem RE.lenSet (ha:RE G W ta fa):RE G W (mr G.K ta) (z1 dF fa):=by
 refine RE.op1 (r:=fun x H1 Q=>∃(l:Addr) (ks:List Key),x= .ref l∧SqL G.K H1 l (ks.map kV)∧ks.length≤4000∧Q (.int (ou ks ks.length:Nat)) H1) ?_ ?_ ha
 ·intro E σ τ s θ p v a Q hl h hw
  obtain ⟨h0,ca,_⟩:=bL hl h
  unfold dF at hw
  split at hw
  ·rename_i ds e
   split at hw
   ·rename_i ks e1
    split at hw
    ·rename_i few
     obtain ⟨b,us,rfl,hb,r⟩:=(ca _ e).lst
     obtain rfl:=kr r e1
     exact ⟨b,ks,rfl, .of hb,few,aR h0 hl hw rfl⟩
    ·exact hw.elim
   ·exact hw.elim
  ·exact hw.elim
 ·intro a s c fs s'
  unfold dF
  (repeat' split)<;> (intro q; cases q)
end
def rInD (K:PySem.W.Frag) (neg:Bool):R2:=fun x y H Q=>∃(d:PyData) (xs:List PyData),Dp K H x d∧SeqAt.shaped d=true∧((Dp K H y (.list xs)∧SeqAt.shaped (.list xs)=true)∨(Dp K H y (.tuple xs)∧SeqAt.shaped (.tuple xs)=true))∧Q (.bl (if neg then !(xs.any fun y=>PyData.eqv y d) else xs.any fun y=>PyData.eqv y d)) H
section
variable {X:Cx} {j:Nat}
theorem qR (K:PySem.W.Frag) (hr:Room j X.A) (hK:X.K=K:=by rfl):OpR X (compareOp .In) (rInD K false):=by
 subst hK
 intro pins s σ H x y v u Q I rx ry h
 obtain ⟨d,xs,hd,sd,hy,q⟩:=h
 have hu:X.A.units+65<cLine:=by have:=hr.un; omega
 obtain ⟨as,r1⟩:=Dp.reads I d x v hd rx
 rcases hy with ⟨hy,sy⟩ | ⟨hy,sy⟩
 ·obtain ⟨bs,r2⟩:=Dp.reads I _ y u hy ry
  exact PySem.SeqAt.in_list_reads r2 r1 (SeqAt.canLay_of_shaped sy) (SeqAt.canLay_of_shaped sd) (PyProof.Rows.room_in_shaped sd hu) ⟨.bl _,H,I,rfl,q⟩
 ·obtain ⟨bs,r2⟩:=Dp.reads I _ y u hy ry
  exact PySem.SeqAt.in_tuple_reads r2 r1 (SeqAt.canLay_of_shaped sy) (SeqAt.canLay_of_shaped sd) (PyProof.Rows.room_in_shaped sd hu) ⟨.bl _,H,I,rfl,q⟩
theorem lg (K:PySem.W.Frag) (hr:Room j X.A) (hK:X.K=K:=by rfl):OpR X (compareOp .NotIn) (rInD K true):=by
 subst hK
 intro pins s σ H x y v u Q I rx ry h
 obtain ⟨d,xs,hd,sd,hy,q⟩:=h
 have hu:X.A.units+65<cLine:=by have:=hr.un; omega
 obtain ⟨as,r1⟩:=Dp.reads I d x v hd rx
 rcases hy with ⟨hy,sy⟩ | ⟨hy,sy⟩
 ·obtain ⟨bs,r2⟩:=Dp.reads I _ y u hy ry
  exact PySem.SeqAt.notIn_list_reads r2 r1 (SeqAt.canLay_of_shaped sy) (SeqAt.canLay_of_shaped sd) (PyProof.Rows.room_in_shaped sd hu) ⟨.bl _,H,I,rfl,q⟩
 ·obtain ⟨bs,r2⟩:=Dp.reads I _ y u hy ry
  exact PySem.SeqAt.notIn_tuple_reads r2 r1 (SeqAt.canLay_of_shaped sy) (SeqAt.canLay_of_shaped sd) (PyProof.Rows.room_in_shaped sd hu) ⟨.bl _,H,I,rfl,q⟩
end
noncomputable def nH (neg:Bool) (s:SD):Option D→Option D→R Vl
 | some x,some y=>(match x.py,y.py with
  | some d,some (.list xs)=>if SeqAt.shaped d=true∧SeqAt.shaped (.list xs)=true then .ok (.d (.bl (if neg then !(xs.any fun y=>PyData.eqv y d) else xs.any fun y=>PyData.eqv y d))) s else .bad
  | some d,some (.tuple xs)=>if SeqAt.shaped d=true∧SeqAt.shaped (.tuple xs)=true then .ok (.d (.bl (if neg then !(xs.any fun y=>PyData.eqv y d) else xs.any fun y=>PyData.eqv y d))) s else .bad
  | _,_=> .bad)
 | _,_=> .bad
noncomputable def iY (neg:Bool) (a b:Vl) (s:SD):R Vl:=nH neg s (s.cont a) (s.cont b)
section
variable {G:Gc} {E:En} {s:SD} {p:Wr} {a b:Vl} {neg:Bool}
theorem oO:iY neg a b s=nH neg s (s.cont a) (s.cont b):=Eq.trans rfl rfl
theorem si {x y:D} {d:PyData} {xs:List PyData} {r:Bool} (h1:x.py=some d) (h2:y.py=some (.list xs)) (s1:SeqAt.shaped d=true) (s2:SeqAt.shaped (.list xs)=true) (h:(xs.any fun y=>PyData.eqv y d)=r):nH neg s (some x) (some y)= .ok (.d (.bl (if neg then !r else r))) s:=by
 unfold nH
 simp only [h1,h2,s1,s2,h,and_self,if_true]
theorem p_inDa:bN G (rInD G.K neg) (iY neg):=by
 intro E σ τ s θ p v u a b Q hl h hw
 obtain ⟨h0,ca,cb⟩:=cJ hl h
 unfold iY nH at hw
 split at hw
 ·rename_i e1 e2
  split at hw
  ·rename_i f1 f2
   split at hw
   ·rename_i hs
    exact ⟨_,_,bW (ca _ e1) f1,hs.1, .inl ⟨bW (cb _ e2) f2,hs.2⟩,aR h0 hl hw rfl⟩
   ·exact hw.elim
  ·rename_i f1 f2
   split at hw
   ·rename_i hs
    exact ⟨_,_,bW (ca _ e1) f1,hs.1, .inr ⟨bW (cb _ e2) f2,hs.2⟩,aR h0 hl hw rfl⟩
   ·exact hw.elim
  ·exact hw.elim
 ·exact hw.elim
theorem jV:Op2 G (rInD G.K neg) (iY neg):=⟨p_inDa,by intros; unfold iY nH; (repeat' split)<;> (intro q; cases q)⟩
end
def rRemD (K:PySem.W.Frag):V→List V→Hp→VK→Prop:=fun x vs H Q=>∃(l:Addr) (xs:List V) (y:V) (ds:List PyData) (d:PyData) (j:Nat),x= .ref l∧vs= [y]∧H l=some (.lst xs)∧DpAll K H xs ds∧Dp K H y d∧PyData.plainAll ds=true∧d.plain=true∧d.depth≤60∧SeqAt.dataPlace ds d=some j∧Q .non (upd H l (.lst (xs.eraseIdx j)))
theorem mt_remD {X:Cx} {K:PySem.W.Frag} (hu:X.A.units+64<cLine) (hK:X.K=K:=by rfl):MtR X "list.remove" (rRemD K):=by
 subst hK
 intro pins s σ H x vs v us Q I rx rv h
 obtain ⟨l,xs,y,ds,d,j,rfl,rfl,hH,h1,h2,p1,p2,dd,hj,q⟩:=h
 cases rx
 obtain ⟨u,rfl,ru⟩:=rv.one
 obtain ⟨z,its,n,r,hl,e⟩:=I.lstM hH
 obtain ⟨as,r1⟩:=Dp.readsAll I ds xs its h1 r
 obtain ⟨bs,r2⟩:=Dp.reads I d y u h2 ru
 have hsz:its.toArray.size≤sizeLine:=by rw [List.size_toArray]; omega
 have hlist:s.heap.IsList l its.toArray:=⟨_,e,rfl,n,rfl⟩
 refine PySem.SeqAt.remove_list_data (j:=j) hlist (xs:=ds) (as:=as) (bs:=bs) (d:=d) r1 r2 p1 p2 ?_ hj hsz ?_
 ·have:min (PyData.depthAll ds) d.depth≤60:=Nat.le_trans (Nat.min_le_right _ _) dd
  omega
 ·refine ⟨.non,_,I.lset (its' :=its.eraseIdx j) (t' :=s.toks) hH e ?_ (r.eraseIdx j) ?_,rfl,q⟩
  ·show its.toArray.eraseIdxIfInBounds j=(its.eraseIdx j).toArray
   rw [List.eraseIdxIfInBounds_toArray]
  ·exact Nat.le_trans (List.length_eraseIdx_le ..) (by have:=r.length; omega)
noncomputable def ie (c z:D):Option (D×D):=match c with
 | .lst ds=>(match D.pys ds,z.py with
  | some xs,some d=>if PyData.plainAll xs=true∧d.plain=true∧d.depth≤60 then (match SeqAt.dataPlace xs d with
   | some j=>some (.lst (ds.eraseIdx j), .non)
   | none=>none) else none
  | _,_=>none)
 | _=>none
section
variable {G:Gc} {W:WX} {p:Wr} {ta tb:TE} {fa fb:SD→R Vl} {b:Vl}
theorem h_remD:Chg2 G (fun x y H Q=>rRemD G.K x [y] H Q) ie:=by
 intro p c z y t b u Q e ho r
 unfold ie at e
 split at e
 ·rename_i ds
  split at e
  ·rename_i xs d e1 e2
   split at e
   ·rename_i hp
    split at e
    ·rename_i j hj
     cases e
     obtain ⟨vs,e3,r3⟩:=ho
     exact ⟨.lst (vs.eraseIdx j), .non,rfl,fun le=>⟨_,upd_same,(r3.erase j).mono le⟩,fun q=>⟨b,vs,u,xs,d,j,rfl,rfl,e3,eJ r3 e1,gK r e2,hp.1,hp.2.1,hp.2.2,hj,q⟩⟩
    ·cases e
   ·cases e
  ·cases e
 ·cases e
theorem RE.remD (ha:RE G W ta fa) (hb:RE G W tb fb):RE G W (tBM G.K "list" (rRemD G.K) ta (tCons tb tNil)) (zM2 isL (oB2 ie) fa fb):=RE.bm iC (mK h_remD) mM ha hb
end
def tAlt (t1 t2:TE):TE:=fun σ H Q=>t1 σ H Q∨t2 σ H Q
def ofC (c:Str) (fa:SD→R Vl) (s:SD):Bool:=match fa s with
 | .ok a s' =>(match s'.cont a with
  | some (.obj k _)=>decide (k=c)
  | _=>false)
 | _=>false
noncomputable def zAlt (c:Str) (fa f1 f2:SD→R Vl):SD→R Vl:=fun s=>if ofC c fa s=true then f1 s else f2 s
section

end
def isBK (s:SD):Option D→Option D→R Vl
 | some (.bl a),some (.bl b)=> .ok (.d (.bl (decide (a=b)))) s
 | _,_=> .bad
def oIsB (a b:Vl) (s:SD):R Vl:=isBK s (s.cont a) (s.cont b)
section

end
noncomputable def extK (a:Vl) (s:SD):Option D→Option D→R Vl
 | some (.lst ds),some (.lst es)=>if ds.length+es.length≤sizeLine then (s.mod (.lst (ds++es)) a).bind fun _ s' => .ok (.d .non) s' else .bad
 | _,_=> .bad
noncomputable def oExt (a b:Vl) (s:SD):R Vl:=extK a s (s.cont a) (s.cont b)
section
variable {s' :SD}
def nonK:Unit→SD→R Vl:=fun _ s' => .ok (.d .non) s'
end
end Z

namespace Z
open PySem PySem.Spec PyProof.Rows L2 M
section
variable {X:Cx} {N ps:List Str} {sc:Scope} {j:Nat} {a b e:Expr} {es:List Expr} {ta tb te:TE} {x:Str} {pos pos' p:Pos} {t:TA} {r:List V→Hp→VK→Prop}
theorem ixY (K:PySem.W.Frag) (hr:Room j X.A) (ha:PE X a ta) (hb:PE X b tb) (hs:PlainIx b:=by exact fun _ _=>rfl) (hK:X.K=K:=by rfl):PE X (.Subscript a b pos) (tOp (rIxZ K) ta tb):=pe_ix (ix_Z hr.units hK) ha hb hs
theorem eqY (K:PySem.W.Frag) (hr:Room j X.A) (hK:X.K=K:=by rfl):OpR X (compareOp .Eq) (rEqZ K):=op_eqZ hr.units hK
theorem neY (K:PySem.W.Frag) (hr:Room j X.A) (hK:X.K=K:=by rfl):OpR X (compareOp .NotEq) (rNeZ K):=op_neZ hr.units hK
theorem inY (K:PySem.W.Frag) (hr:Room j X.A) (hK:X.K=K:=by rfl):OpR X (compareOp .In) (rInZ K false):=op_inZ hr.units hK
theorem niY (K:PySem.W.Frag) (hr:Room j X.A) (hK:X.K=K:=by rfl):OpR X (compareOp .NotIn) (rInZ K true):=qP hr.units hK
theorem fdY (K:PySem.W.Frag) {f:Str} (he:PE X e te) (hb:attributeBase e f X.env (eval e X.env)=eval e X.env:=by rfl) (hK:X.K=K:=by rfl):PE X (.Attribute e f pos) (tFld K te f):=m_fldZ he hb hK
theorem cmY {op:CmpOp} {r:R2} (ho:OpR X (compareOp op) r) (ha:PE X a ta) (hb:PE X b tb) (hm:behindInMarks op b=false:=by first | exact nomark _ | rfl):PE X (.Compare a [op] [b] pos) (tOp r ta tb):=pe_cmpR ho ha hb hm
theorem ctY {op:CmpOp} {r:R2} (ho:OpR X (compareOp op) r) (ha:PE X a ta) (hb:PE X b tb) (hm:behindInMarks op b=false:=by first | exact nomark _ | rfl):PT X (.Compare a [op] [b] pos) (tTest (tOp r ta tb)):=pt_cmpR ho ha hb hm
theorem stY (i:Nat) (S:FnScope N ps sc) (he:PE X e te) (hN:X.N=N:=by rfl) (hi:X.N[i]? =some x:=by rfl) (hx:Loc X.env.scope x:=by first | exact Or.inl rfl | exact Or.inr rfl) (hs:swapsWith e (some (.Name x pos')) pos.line X.env=pure false:=by rfl)
  (hf:X.fn x=true∨X.env.scope.names.lookup x=some .local:=by first | exact .inl rfl | exact .inr rfl | assumption):PS X (.Assign [.Name x pos'] e pos) (tAsg te (gName i)):=ps_set (i:=i) (hN ▸ S.nd) hi hx he hs hf
theorem gnY (i:Nat) (S:FnScope N ps sc) (hN:X.N=N:=by rfl) (hi:X.N[i]? =some x:=by rfl) (hx:Loc X.env.scope x:=by first | exact Or.inl rfl | exact Or.inr rfl)
  (hf:X.fn x=true∨X.env.scope.names.lookup x=some .local:=by first | exact .inl rfl | exact .inr rfl | assumption):PG X (.Name x pos) (gName i):=pg_name (i:=i) (hN ▸ S.nd) hi hx hf
section
variable {W:WX} {k n:Nat} {C:Addr} {F:FnV} {dvs:List V} {K:PySem.W.Frag} {mg:Str→Option Value}
theorem clY (c:CalZ X.prog X.w K mg X.base k x n F dvs) (hr:Room j X.A) (tk:Takes X W) (ha:PA X (e::es) t) (hk:k≤j:=by decide) (hg:Gl X x:=by exact rfl)
  (hdb:(x == ("__debug__" :Str))=false:=by decide) (he:starEach (e::es) X.env=(false,eval e X.env)::starEach es X.env:=by rfl) (hpl:(backTo pos (starEach es X.env)).any (·.1)=false:=by rfl) (hK:X.K=K:=by rfl) (hM:X.mg=mg:=by rfl):
  PE X (.Call (.Name x p) (e::es) [] pos) (tCallSD (spF ⟨K,mg⟩ n F) dvs (WE W) t):=m_cK c hr hk tk hg ha hdb he hpl hK hM
theorem mkY (c:MakZ X.prog X.w K mg X.base k x C n F dvs) (hr:Room j X.A) (tk:Takes X W) (ha:PA X (e::es) t) (hk:k+1≤j:=by decide) (hg:Gl X x:=by exact rfl)
  (hdb:(x == ("__debug__" :Str))=false:=by decide) (he:starEach (e::es) X.env=(false,eval e X.env)::starEach es X.env:=by rfl) (hpl:(backTo pos (starEach es X.env)).any (·.1)=false:=by rfl) (hK:X.K=K:=by rfl) (hM:X.mg=mg:=by rfl):
  PE X (.Call (.Name x p) (e::es) [] pos) (qb C (spF ⟨K,mg⟩ n F) dvs (WE W) t):=m_mkK c hr hk tk hg ha hdb he hpl hK hM
end
theorem bnY {id:String} (hc:CallR X (.builtin id) r) (hm:X.mg x=none) (ha:PA X (e::es) t) (hg:Gl X x:=by exact rfl) (hv:bootBuiltins x=some (.builtin id):=by decide+kernel) (hn:x≠ "__name__" :=by decide) (hdb:(x == ("__debug__" :Str))=false:=by decide)
  (he:starEach (e::es) X.env=(false,eval e X.env)::starEach es X.env:=by rfl) (hpl:(backTo pos (starEach es X.env)).any (·.1)=false:=by rfl):PE X (.Call (.Name x p) (e::es) [] pos) (tCB r t):=pe_callB hc hg hm hv ha hn hdb he hpl
theorem tyY {T:String} (hc:CallR X (.type T) r) (hm:X.mg x=none) (ha:PA X (e::es) t) (hg:Gl X x:=by exact rfl) (hv:bootBuiltins x=some (.type T):=by decide+kernel) (hn:x≠ "__name__" :=by decide) (hdb:(x == ("__debug__" :Str))=false:=by decide)
  (he:starEach (e::es) X.env=(false,eval e X.env)::starEach es X.env:=by rfl) (hpl:(backTo pos (starEach es X.env)).any (·.1)=false:=by rfl):PE X (.Call (.Name x p) (e::es) [] pos) (tCB r t):=pe_callTy hc hg hm hv ha hn hdb he hpl
theorem btY (s:String) (hm:X.mg x=none) (hg:Gl X x:=by exact rfl) (hv:bootBuiltins x=some (.type s):=by decide+kernel) (hn:x≠ "__name__" :=by decide) (hd:(x == ("__debug__" :Str))=false:=by decide):PE X (.Name x pos) (tC (.ty s)):=pe_bltn (v:= .ty s) hg hm hv rfl hn hd
theorem glY {C:Addr} (hm:X.mg x=some (.ref C)) (hg:Gl X x:=by exact rfl) (hd:(x == ("__debug__" :Str))=false:=by decide):PE X (.Name x pos) (tC (.ref C)):=pe_glob (v:= .ref C) hg hm rfl hd
section
variable {elt tg iter:Expr} {ifs:List Expr} {scope:Scope} {spos py:Pos} {wi:TI} {g:TG} {tt:TT} {y:Str}
theorem lcY (own:List (Str×Nat)) (S:FnScope N ps sc) (hi:PI X tg iter wi)
  (hg:∀{s:Shared} {H:Hp} {C:Addr} {cl:List (Str×Addr)} {fp:List Addr},PG (X.blk s H scope (compEnvC scope cl C X.env) fp) tg g) (ht:∀{s:Shared} {H:Hp} {C:Addr} {cl:List (Str×Addr)} {fp:List Addr},PTs (X.blk s H scope (compEnvC scope cl C X.env) fp) ifs tt)
  (he:∀{s:Shared} {H:Hp} {C:Addr} {cl:List (Str×Addr)} {fp:List Addr},PE (X.blk s H scope (compEnvC scope cl C X.env) fp) elt te) (ok:blkC N sc scope own=true:=by decide+kernel) (hc:X.calm=true:=by rfl) (hN:X.N=N:=by rfl) (hsc:X.env.scope=sc:=by rfl)
  (hs:∀x,foldedSetIterable iter X.env x=pure x:=by intro _; rfl):PE X (.ListComp elt [⟨tg,iter,ifs,0⟩] scope pos) (tLc wi g tt te (own.map (·.2))):=
 pe_lc hc (hN ▸ S.nd) hi (by rw [hN,hsc]; exact blkOk_by ok) (fun _ _ _ _ _=>hg) (fun _ _ _ _ _=>ht) (fun _ _ _ _ _=>he) hs
theorem slY (i:Nat) (own:List (Str×Nat)) (S:FnScope N ps sc) (hi:PI X tg iter wi)
  (hg:∀{s:Shared} {H:Hp} {C:Addr} {cl:List (Str×Addr)} {fp:List Addr},PG (X.blk s H scope (compEnvC scope cl C X.env) fp) tg g) (ht:∀{s:Shared} {H:Hp} {C:Addr} {cl:List (Str×Addr)} {fp:List Addr},PTs (X.blk s H scope (compEnvC scope cl C X.env) fp) ifs tt)
  (he:∀{s:Shared} {H:Hp} {C:Addr} {cl:List (Str×Addr)} {fp:List Addr},PE (X.blk s H scope (compEnvC scope cl C X.env) fp) elt te) (ok:blkC N sc scope own=true:=by decide+kernel) (hc:X.calm=true:=by rfl) (hN:X.N=N:=by rfl) (hsc:X.env.scope=sc:=by rfl)
  (hy:X.N[i]? =some y:=by rfl) (hyl:X.env.scope.names.lookup y=some .local:=by rfl) (hk:X.env.scope.kind= .function:=by rfl) (hl:(py.line == pos.line)=true:=by rfl) (ha:(scope.names.any fun (n,k)=>n == y&&(k == .local || k == .cell))=false:=by decide+kernel)
  (hs:∀x,foldedSetIterable iter X.env x=pure x:=by intro _; rfl):PS X (.Assign [.Name y py] (.ListComp elt [⟨tg,iter,ifs,0⟩] scope pos) spos) (tAsg (tLc wi g tt te (own.map (·.2))) (gName i)):=
 ps_setLc hc (hN ▸ S.nd) hy hyl (sw_true hk hyl hl ha) hi (by rw [hN,hsc]; exact blkOk_by ok) (fun _ _ _ _ _=>hg) (fun _ _ _ _ _=>ht) (fun _ _ _ _ _=>he) hs
end
end
section

end
end Z

namespace M
open PySem PySem.Spec PyProof.Rows L2 LamX
def Grown (P:Addr) (q:Str) (H H1:Hp) (c:Addr):Prop:=(H1=H∧H c=some (CodeO c q))∨∃ps more:Array Value,H P=some (.tbl ps)∧H c=none∧H1=upd (upd H P (.tbl (ps++more))) c (CodeO c q)∧
 TriplesOk (ps++more).toList∧∀(pos:Pos) (cv:Value),codeAmong pos (ps++more).toList=some cv→cv= .ref c∨codeAmong pos ps.toList=some cv
theorem Grown.code {P c:Addr} {q:Str} {H H1:Hp} (g:Grown P q H H1 c):H1 c=some (CodeO c q):=by
 rcases g with ⟨rfl,e⟩ | ⟨ps,more,_,_,rfl,_⟩
 ·exact e
 ·exact upd_same
section
variable {X:Cx} {pins:List (Addr×Obj)} {σ:L2.St} {H:Hp} {s:Shared}
abbrev lamV (X:Cx) (params:Arguments) (body:Expr) (scope:Scope) (pm:Value) (c' :Addr) (ctv:Value):Obj:=PySem.W.kla_obj "<lambda>" (X.env.qual++ "<lambda>") params body scope (cloFrom X.env.cells scope.names []) pm c' ctv
theorem uF {c P:Addr} {params:Arguments} {body:Expr} {scope:Scope} {pos:Pos} {E:Value→Shared→Prop} {Q:Value→Shared→Prop} (I:Inv X pins σ H s) (TB:TabB X.base X.mg c P) (hcode:X.env.code= .ref c)
  (hT:TabS H P (X.env.qual++ "<lambda>")) (hdef:defaultsOf params X.env=([],[])) (hfree:∀y∈scope.names,y.2= .free→∃c,X.env.cells.lookup y.1=some c)
  (h:∀(f c' :Addr) (pm ctv:Value) (H1:Hp) (s' :Shared),Inv X pins σ H1 s'→Grown P (X.env.qual++ "<lambda>") H H1 c'→s'.heap.get? f=some (lamV X params body scope pm c' ctv)→H1 f=none→f<s'.heap.objs.size→f∉frs X.stack→Q (.ref f) s'):
  wpAny (model X.prog X.w) X.A (eval (.Lambda params body scope pos) X.env) Q E s:=by
 obtain ⟨ps,hP,ht,ha⟩:=hT
 have old:s.heap.get? P=some {cls:= .none,data:= .fields ps}:=I.hok P _ hP
 have bi:=TB.bm.keeps I.bk
 have gl:=I.mod.glob.keeps I.bk
 have far:∀f,s.heap.objs.size≤f→f∉frs X.stack:=fun f hf z=>(List.mem_cons.mp (I.stkSub _ z)).elim (fun e=>Nat.lt_irrefl _ (Nat.lt_of_lt_of_le (e ▸ I.lt) hf)) (fun e=>I.nofs hf e)
 refine PySem.W.kla_eval hdef ?_
 cases hc:codeAmong pos ps.toList with
 | some cv=>
  obtain ⟨c',rfl,hco⟩:=ha pos cv hc
  refine PySem.W.kla_makeFunctionHit (mg:=X.mg) (closure_ok hfree) I.ok.glob gl hcode (TB.code.keeps I.bk) old ht hc bi fun ctv h' tk hx hsz=>?_
  exact h _ c' _ ctv H _ (I.kept (t' :=tk) fun b o e=>Heap.get?_push_of_some _ (hx b o e)) (.inl ⟨rfl,hco⟩) (Heap.get?_push_size _ rfl) (I.hok.fresh hsz) (by rw [Heap.size_push]; exact Nat.lt_succ_self _) (far _ hsz)
 | none=>
  refine PySem.W.kla_makeFunction (mg:=X.mg) (closure_ok hfree) I.ok.glob gl hcode (TB.code.keeps I.bk) old ht hc TB.gP bi fun c' ctv h' tk hx hge hlt hrec htb=>?_
  obtain ⟨_,oc,vs,t,e2,hoc,hd,hv⟩:=hrec
  cases e2
  have sz:=Nat.le_trans hge (Nat.le_of_lt hlt)
  have nC:H c' =none:=I.hok.fresh hge
  have I1:=inv_table (t' :=tk) (more:= #[rawInt pos.line,rawInt pos.col, .ref c']) (h' :=h'.push (lamV X params body scope ((X.mg "__name__").getD .none) c' ctv)) I hP
   (fun b o hb e=>Heap.get?_push_of_some _ (hx b o hb e)) (Heap.get?_push_of_some _ htb) hge ⟨oc,vs,t,Heap.get?_push_of_some _ hoc,hd,hv⟩
  have eL:(ps++ #[rawInt pos.line,rawInt pos.col,Value.ref c']).toList=ps.toList++ [rawInt pos.line,rawInt pos.col, .ref c']:=by simp
  refine h _ c' _ ctv _ _ I1 (.inr ⟨ps,_,hP,nC,rfl, ?_,fun p' cv e=>?_⟩) (Heap.get?_push_size _ rfl) ?_ (by show _<(Heap.push _ _).objs.size; rw [Heap.size_push]; exact Nat.lt_succ_self _) (far _ sz)
  ·rw [eL]
   exact PySem.TriplesOk_snoc _ _ _ _ ht
  ·rw [eL] at e
   exact (among_app _ ht e).symm
  ·rw [upd_ne (Nat.ne_of_gt hlt),upd_ne (Nat.ne_of_gt (Nat.lt_of_lt_of_le (Heap.lt_size old) sz))]
   exact I.hok.fresh sz
end
section
variable {P:Program} {w:World} {A:Around} {K:PySem.W.Frag} {s:Shared}
theorem rL {f c' a dx C l t cc:Addr} {q g x:Str} {params:Arguments} {body:Expr} {scope:Scope} {clo:List (Str×Addr)} {pm ctv u v0:Value} {p1 p2 p3 p4 p5 p6 p7:Pos} {kd n:Nat} {ys:List V} {y z:V} {its its2:List Value} {j:Nat} {mA:Str→Option Value}
  (hd:A.depth<recursionLimit) (hK:K.In s.heap) (hlim:s.heap.NoLimit) (hf:s.heap.get? f=some (PySem.W.kla_obj "<lambda>" q params body scope clo pm c' ctv))
  (hc:∃(oc:Obj) (vs:Array Value) (t:Tok),s.heap.get? c' =some oc∧oc.data= .fields vs∧vs[1]? =some (.str q t))
  (hb:body= .Call (.Attribute (.Attribute (.Name "self" p1) g p2) "index" p3) [.Subscript (.Name x p4) (.Constant (.int 0) kd p5) p6] [] p7) (hl:(p3.endLine == p7.line)=true)
  (hbind:∀v:Value,bindArgs (PySem.W.kla_fn "<lambda>" q params body scope clo pm (.ref c') ctv) ⟨[v],[]⟩=pure [(x,v)])
  (k1:scope.kind= .function) (k2:scope.isCoroutine=false) (k3:scope.isGenerator=false) (k4:∀y∈scope.names,y.2≠ .cell) (k5:scope.names.lookup x=some .local) (k6:scope.names.lookup ("self" :Str)=some .free) (hx:(x == ("__debug__" :Str))=false) (hx2:(x == ("__classdict__" :Str))=false)
  (hcl:clo.lookup ("self" :Str)=some cc) (hcell:s.heap.IsCell cc (some (.ref a)))
  (O:ObjM s.heap a dx C mA) (g1:PySem.W.plainGet K C g=true) (g2:PySem.W.hasDictIn K C=true) (g3:PySem.W.findIn K (.ref C) g=some none) (g4:mA g=some (.ref l)) (hgb:∀env:Env,attributeBase (.Name "self" p1) g env (eval (.Name "self" p1) env)=eval (.Name "self" p1) env)
  (L:PlainL s.heap l its.toArray) (rv:Vals ys its) (hsz:ys.length≤sizeLine) (fys:ys.all flatV=true) (fy:flatV y=true) (hz:ys[j]? =some z) (hzj:eqV z y=true) (hno:∀(m:Nat) (z' :V),m<j→ys[m]? =some z'→eqV z' y=false)
  (Tu:IsTup s.heap t its2.toArray) (ht0:its2[0]? =some u) (ht1:its2.length<2 ^ 62) (ru:RelV y u):
  wpAny (model P w) A (call (.ref f) [.ref t]) (PySem.W.KeyPure (.int j) s) (fun _ _=>False) s:=by
 obtain ⟨oc,vs,tk,hoc,hdc,hvc⟩:=hc
 subst hb
 refine wpAny_call (PySem.W.kla_callFunE hd hf rfl k2 k3 rfl ⟨c',oc,vs,tk,rfl,hoc,hdc,hvc⟩ ?_)
 rw [hbind]
 refine wpAny_pure (wpAny_newFunctionEnv k4 (fun y hy=>by rw [List.mem_singleton.mp hy]; exact k5) (fun h₁ hns hsb=>⟨hlim.fresh _ hsb, ?_⟩) k1)
 have kp:∀b o,s.heap.get? b=some o→h₁.get? b=some o:=fun b o e=>hsb.extBut b o (Nat.ne_of_lt (Heap.lt_size e)) (Heap.get?_push_of_some _ e)
 refine PySem.W.kla_codeExpr ?_
 refine wpAny_Call_method_late rfl rfl hl rfl (attr_of (hgb _) (wpAny_Name (wpAny_loadName_free k1 k6 hcl (hcell.keeps kp) ?_)))
 have O' :ObjM h₁ a dx C mA:=⟨kp _ _ O.obj,O.ns.at fun o e=>kp _ _ e,O.ne⟩
 refine get_map (hK.keeps kp) O' g1 g2 g3 g4 rfl ?_
 obtain ⟨⟨cls,dd,data,sl⟩,n',ho,hcL,hdn,hdL⟩:=L
 simp only at hcL hdn hdL
 subst hcL hdn hdL
 have ho1:=kp _ _ ho
 refine ⟨"list","list.index",PySem.F.plainAttrs_list,PySem.F.slot_list_index,PySem.F.type_list_index,⟨_,ho1,rfl⟩,fun b e=>?_, ?_⟩
 ·cases e
  exact ⟨_,ho1,rfl⟩
 refine Calls.callWith_builtin rfl (Calls.evalArgs_plain (Calls.spliced_cons ?_))
 refine wpAny_Subscript_Constant_late (wpAny_Name (wpAny_loadName_local k1 k5 hns (v:= .ref t) (by simp [List.lookup]) (wpAny_Constant_int ?_)) hx) (by intro _ _; rfl)
 have Tu1:IsTup h₁ t its2.toArray:=Tu.keeps kp
 have ht0' :its2.toArray[0]? =some u:=by simpa using ht0
 have hlt:0<its2.length:=(List.getElem?_eq_some_iff.mp ht0).1
 refine ⟨"tuple",_,slot_tuple_getitem.lookup,Tu1.typeIs,getItem_tuple Tu1 (by omega) (by omega) (j:=0) ?_ ht0' (Calls.spliced_nil ?_)⟩
 ·have e2:its2.toArray.size=its2.length:=by simp
  unfold seqIndex?
  simp only [e2]
  simp only [Int.lt_irrefl,if_false]
  have q:((0:Int)≤0&&decide ((0:Int)<(its2.length:Int)))=true:=by simp; exact hlt
  rw [if_pos q]
  rfl
 have rvl:=rv.length
 have hj:j<its.toArray.size:=by
  have:=(List.getElem?_eq_some_iff.mp hz).1
  simp only [List.size_toArray]
  omega
 have hsl:=sizeLine_eq
 have hsz1:its.toArray.size=its.length:=by simp
 refine call_meets PySem.F.slot_list_index ⟨_,ho1,rfl⟩ PySem.F.entry_list_index (PySem.F.args_list_index_2 _ _) (SeqAt.list_indexAt l its.toArray n' _ _ u (eqU y) j hj (by omega) ?_ ?_) ⟨ho1,fun u' hu' =>mem_eqAt ru fy rv fys u' (by simpa using hu'), ?_⟩
 ·obtain ⟨e',he',re'⟩:=rv.get hz
  have e1:its.toArray[j]=e' :=by simpa using (List.getElem?_eq_some_iff.mp he').2
  rw [e1,eqU_of re' (flat_at fys hz)]
  exact hzj
 ·intro m hm hmj
  have hy' :ys[m]? =some ys[m]:=List.getElem?_eq_getElem (by omega)
  obtain ⟨e',he',re'⟩:=rv.get hy'
  have e1:its.toArray[m]=e' :=by simpa using (List.getElem?_eq_some_iff.mp he').2
  rw [e1,eqU_of re' (flat_at fys hy')]
  exact hno m _ hmj hy'
 ·show PySem.W.KeyPure _ _ _ _
  exact ⟨h₁,_,rfl,kp, .int _ _⟩
end
section
variable {P:Addr} {q:Str} {H H1:Hp} {c b:Addr} {o:HO} {K:PySem.W.Frag} {xs:List V}
theorem Grown.old (g:Grown P q H H1 c) (e:H b=some o) (n:∀ps,o≠ .tbl ps):H1 b=some o:=by
 rcases g with ⟨rfl,_⟩ | ⟨ps,more,hP,hc,rfl,_⟩
 ·exact e
 ·rw [upd_ne (ne_of_none e hc),upd_ne fun z=>n ps (by rw [z,hP] at e; exact (Option.some.inj e).symm)]
  exact e
theorem Grown.sq (g:Grown P q H H1 c) (h:SqL K H b xs):SqL K H1 b xs:=h.imp (fun h=>h.imp (fun e=>g.old e fun _ z=>nomatch z) fun ⟨o,e⟩=>⟨o,g.old e fun _ z=>nomatch z⟩) id
theorem Grown.st (g:Grown P q H H1 c) (h:SqT K H b xs):SqT K H1 b xs:=h.imp (fun h=>h.imp (fun e=>g.old e fun _ z=>nomatch z) fun ⟨o,e⟩=>⟨o,g.old e fun _ z=>nomatch z⟩) id
theorem kz:∀{vs:List V} {us:List Value},Vals vs us→PySem.W.EachIs (fun u v=>L2.RelV v u) us vs
 | _,_, .nil=> .nil
 | _,_, .cons r t=> .cons r (kz t)
theorem jL:∀{vs:List V} {us:List Value},PySem.W.EachIs (fun u v=>L2.RelV v u) us vs→Vals vs us
 | _,_, .nil=> .nil
 | _,_, .cons r t=> .cons r (jL t)
theorem clo_at {cells:List (Str×Addr)} {names:List (Str×NameKind)} {y:Str} {cc:Addr} (hn:names.lookup y=some .free) (hc:cells.lookup y=some cc):(cloFrom cells names []).lookup y=some cc:=by
 obtain ⟨d,e⟩:=mem_lookup (cloFrom_has (cells:=cells) (acc:= []) (PySem.mem_of_lookup hn))
 rcases cloFrom_mem (PySem.mem_of_lookup e) with z | ⟨_,z⟩
 ·cases z
 ·rw [e,z,hc]
  rfl
end
def oE (K:PySem.W.Frag) (P:Addr) (qn g:Str) (i:Nat) (σ:L2.St) (Q:VK) (x:V) (H1:Hp):Prop:=TabS H1 P qn∧∃(l:Addr) (xs:List V) (a C dx:Addr) (fs:List (Str×V)) (L:Addr) (ys:List V) (kk:V→Nat),
 x= .ref l∧SqL K H1 l xs∧σ[i]? =some (some (.ref a))∧H1 a=some (.ins C dx fs)∧Cls K C∧NoAttr K C g∧fs.lookup g=some (.ref L)∧SqL K H1 L ys∧ys.all flatV=true∧
 (∀v∈xs,∃(t:Addr) (us:List V) (y z:V),v= .ref t∧SqT K H1 t us∧us[0]? =some y∧flatV y=true∧ys[kk v]? =some z∧eqV z y=true∧∀(m:Nat) (z' :V),m<kk v→ys[m]? =some z'→eqV z' y=false)∧
 ∀(c p:Addr) (H2:Hp),Grown P qn H1 H2 c→H2 p=none→Q (.ref p) (upd H2 p (.lst (xs.mergeSort fun u v=>decide ((kk u:Int)≤kk v))))
def iL (K:PySem.W.Frag) (P:Addr) (qn g:Str) (i:Nat) (ta:TE):TE:=fun σ H Q=>ta σ H fun x H1=>oE K P qn g i σ Q x H1
section
variable {X:Cx}
theorem oV {e:Expr} {ta:TE} {c P:Addr} {i k:Nat} {g x:Str} {params:Arguments} {body:Expr} {scope:Scope} {lpos pos p p1 p2 p3 p4 p5 p6 p7 kp:Pos} {kd:Nat} (TB:TabB X.base X.mg c P) (hcode:X.env.code= .ref c) (ha:PE X e ta) (hr:Room k X.A)
  (hg:Gl X "sorted") (hm:X.mg "sorted" =none) (hv:bootBuiltins "sorted" =some (.builtin "sorted"))
  (hi:X.N[i]? =some "self") (hk:X.env.scope.names.lookup ("self" :Str)=some .cell) (hs:LamX.LamS X.env.scope scope∨True)
  (hb:body= .Call (.Attribute (.Attribute (.Name "self" p1) g p2) "index" p3) [.Subscript (.Name x p4) (.Constant (.int 0) kd p5) p6] [] p7) (hl:(p3.endLine == p7.line)=true) (hdef:defaultsOf params X.env=([],[]))
  (hbind:∀(v cv pm ctv:Value) (cl:List (Str×Addr)),bindArgs (PySem.W.kla_fn "<lambda>" (X.env.qual++ "<lambda>") params body scope cl pm cv ctv) ⟨[v],[]⟩=pure [(x,v)])
  (k1:scope.kind= .function) (k2:scope.isCoroutine=false) (k3:scope.isGenerator=false) (k4:∀y∈scope.names,y.2≠ .cell) (k7:∀y∈scope.names,y.2= .free→y.1=("self" :Str)) (k5:scope.names.lookup x=some .local) (k6:scope.names.lookup ("self" :Str)=some .free) (hx:(x == ("__debug__" :Str))=false) (hx2:(x == ("__classdict__" :Str))=false)
  (hgb:∀env:Env,attributeBase (.Name "self" p1) g env (eval (.Name "self" p1) env)=eval (.Name "self" p1) env)
  (hse:starEach [e] X.env=(false,eval e X.env)::starEach [] X.env:=by rfl) (he:backTo pos (starEach [e] X.env)=(false,eval e X.env)::backTo pos (starEach [] X.env):=by rfl) (hpl:(backTo pos (starEach [e] X.env)).any (·.1)=false:=by rfl):
  PE X (.Call (.Name "sorted" p) [e] [⟨some "key", .Lambda params body scope lpos,kp⟩] pos) (iL X.K P (X.env.qual++ "<lambda>") g i ta):=by
 refine ⟨fun pins s σ H Q I h=>?_⟩
 refine wpAny_Call_Name_kw (ld_blt I hg hm hv ?_ (by decide) (by decide))
 have hfree:∀y∈scope.names,y.2= .free→∃c,X.env.cells.lookup y.1=some c:=fun y hy e=>by
  rw [k7 y hy e]
  exact I.ok.has _ (.inl hk)
 refine PyProof.Rows.callWith_kw (thn ((pa_cons ha pa_nil hse).run pos pins s σ H (fun vs H1=>match vs with | [x]=>oE X.K P (X.env.qual++ "<lambda>") g i σ Q x H1 | _=>False) I h) fun us s1 ⟨vs,H1,I1,r1,q1⟩=>?_) he hpl rfl rfl
 match vs,q1 with
 | [v0],q1=>
 obtain ⟨u0,rfl,r0⟩:=vals1 r1
 obtain ⟨hT,l,xs,a,C,dx,fs,L,ys,kk,rfl,hxs,hσ,hia,hC,hN,hfs,hys,hfl,hk0,hQ⟩:=q1
 obtain rfl:u0=Value.ref l:=r0
 show wpAny _ _ (evalAll [do let v←eval (.Lambda params body scope lpos) X.env; standAt pos; pure v]) _ _ s1
 refine wpAny_evalAll_cons (wpAny_bind (uF I1 TB hcode hT hdef hfree fun f c' pm ctv H2 s2 I2 gr hf hfn hlt hfr=>wpAny_bind (wpAny_standAt (wpAny_pure (wpAny_evalAll_nil ?_)))))
 show wpAny _ _ (call (.builtin "sorted") [.ref l] [(Str.ofString "key", .ref f)]) _ _ s2
 obtain ⟨its,rv,hL,hz⟩:=I2.list (gr.sq hxs)
 obtain ⟨itL,rvL,hLL,hzL⟩:=I2.list (gr.sq hys)
 obtain ⟨mA,O,hf1,_⟩:=ins_get I2.hok (gr.old hia fun _ z=>nomatch z)
 obtain ⟨uL,hu1,hu2⟩:=RelO.some_of (v:= .ref L) (o:=mA g) (by rw [←hfs]; exact hf1 g)
 obtain rfl:uL=Value.ref L:=hu2
 obtain ⟨m0,hns,hloc⟩:=I2.loc
 obtain ⟨us0,rs0,lk⟩:=hloc i _ _ hi hσ (.inr (.inl hk))
 obtain rfl:us0=Value.ref a:=rs0
 obtain ⟨cc,hcc,hcell⟩:∃cc,X.env.cells.lookup ("self" :Str)=some cc∧s2.heap.IsCell cc (some (.ref a)):=by
  rcases lk with ⟨z,_⟩ | ⟨_,z⟩
  ·have z:X.env.scope.names.lookup ("self" :Str)=some .local:=z
   rw [hk] at z
   cases z
  ·exact z
 obtain ⟨⟨oc,cvs,tk,hoc,hdc,hvc⟩,_,_⟩:=I2.hok c' _ gr.code
 have hrd:=hr.dp
 have hru:=hr.un
 refine PySem.W.sorted_key_data (b:=false) (bs:=xs) (R:=fun u v=>L2.RelV v u) (fun v=> .int (kk v:Int)) hL.isList (kz rv) (PySem.W.AllAlike.of fun _ _=>rfl) (PySem.W.Sortable.others fun _=>⟨(fun z=>nomatch z),(fun _ z=>nomatch z)⟩) hz (fun _ _=>?_) (ksk_s1 _ _) (fun _=>ksk_l1 _ _) (fun _=>ksk_t1 _ _) (fun v x hR hx' h tk' kp=>?_) fun out cN h' tk' kp fr hD hlen eo=>?_
 ·show X.A.units+2+0<cLine
  omega
 ·obtain ⟨t,us,y,z,rfl,hst,h0,fy,hz1,hz2,hz3⟩:=hk0 x hx'
  obtain rfl:v=Value.ref t:=hR
  obtain ⟨it2,rv2,tu2,hz4⟩:=I2.tuple (gr.st hst)
  obtain ⟨u0,hu0,ru0⟩:=rv2.get h0
  have hsl:=sizeLine_eq
  have hl2:=rv2.length
  refine rL (s:= {s2 with heap:=h,toks:=tk'}) (dx:=dx) (C:=C) (mA:=mA) (l:=L) (its:=itL) (its2:=it2) (ys:=ys) (y:=y) (z:=z) (u:=u0) (v0:= .none) (n:=0) (cc:=cc) (a:=a) ?_ (I2.kIn.keeps kp) (I2.nolimit.keeps kp) (kp _ _ hf) ⟨oc,cvs,tk,kp _ _ hoc,hdc,hvc⟩ hb hl (fun v=>hbind _ _ _ _ _) k1 k2 k3 k4 k5 k6 hx hx2 (clo_at k6 hcc) (hcell.keeps kp)
   ⟨kp _ _ O.obj,O.ns.at fun o e=>kp _ _ e,O.ne⟩ (hC.get g) hC.hd hN hu1 hgb ?_ rvL hzL hfl fy hz1 hz2 hz3 (tu2.keeps kp) hu0 (by omega) ru0
  ·show X.A.depth<_
   omega
  ·obtain ⟨ob,n,e1,e2,e3,e4⟩:=hLL
   exact ⟨ob,n,kp _ _ e1,e2,e3,e4⟩
 ·rw [PySem.W.dataLe_int] at eo
  have rO:=jL eo
  refine ⟨.ref (s2.heap.objs.size+1),upd H2 (s2.heap.objs.size+1) (.lst (xs.mergeSort fun u v=>decide ((kk u:Int)≤kk v))),I2.laid (t' :=tk') kp (Nat.le_succ _) ⟨?_,out,cN,rO,hD⟩,rfl,hQ c' _ H2 gr (I2.hok.fresh (Nat.le_succ _))⟩
  rw [List.length_mergeSort]
  exact hz
end
end M

namespace Z
open PySem PySem.Spec PyProof.Rows L2 M LamX
open Classical
section
variable {G:Gc} {E:En} {m:Nat} {p:Wr} {w:List (Option V)} {ŵ:List (Option Vl)} {S:Sto} {P c:Addr} {qn:Str} {H2:Hp}
theorem TabZ.st (t:TabZ p P qn):TabS p.H P qn:=by
 obtain ⟨ps,⟨_,h2⟩,h3,h4⟩:=t
 exact ⟨ps,h2,h3,fun pos cv e=>let ⟨c,e1,_,e3⟩:=h4 pos cv e; ⟨c,e1,e3⟩⟩
theorem Sm.grown (h:Sm G E m p w ŵ S) (hm:(P,qn)∈lamT) (hu:∀t∈lamT,t.1=P→t.2=qn) (g:Grown P qn p.H H2 c):p.le {p with H:=H2}∧Sm G E m {p with H:=H2} w ŵ S:=by
 rcases g with ⟨rfl,_⟩ | ⟨ps,more,hP,hc,rfl,hok,ham⟩
 ·exact ⟨.refl p,h⟩
 obtain ⟨ps',⟨nP,hP'⟩,t3,t4⟩:=h.tb _ hm
 rw [hP] at hP'
 cases hP'
 have nPc:P≠c:=ne_of_none hP hc
 have nOc:¬p.O c:=fun z=>by
  obtain ⟨o,e⟩:=h.dom c z
  rw [hc] at e; cases e
 have hH:∀b o,p.H b=some o→b≠P→upd (upd p.H P (.tbl (ps++more))) c (CodeO c qn) b=some o:=fun b o e n=>by rw [upd_ne (ne_of_none e hc),upd_ne n]; exact e
 have hHP:upd (upd p.H P (.tbl (ps++more))) c (CodeO c qn) P=some (.tbl (ps++more)):=by rw [upd_ne nPc,upd_same]
 have hHc:upd (upd p.H P (.tbl (ps++more))) c (CodeO c qn) c=some (CodeO c qn):=upd_same
 generalize upd (upd p.H P (.tbl (ps++more))) c (CodeO c qn)=H2 at hH hHP hHc
 have hO:∀b,p.O b→b≠P:=fun b z e=>nP (e ▸ z)
 have l:p.le {p with H:=H2}:=⟨fun _ _=>rfl,Nat.le_refl _,fun b o n e=>⟨by
  by_cases z:b=P
  ·subst z
   rw [hP] at e; cases e
   exact .inr (.inr ⟨ps,more,rfl,hHP⟩)
  ·exact .inl (hH b o e z),n⟩⟩
 have hq:∀{x:D} {b:Addr},p.O b→Ho G p x b→H2 b=p.H b:=fun {x b} z ho=>by
  obtain ⟨o,e⟩:=ho.some
  rw [e]; exact hH _ _ e (hO b z)
 refine ⟨l,{h with cel:=fun i d e=>⟨(h.cel i d e).1,(h.cel i d e).2.mono l (hq (h.cel i d e).1 (h.cel i d e).2)⟩,kp:=fun b o e n=>?_,sub:=fun b o e=>?_,dom:=fun b z=>?_,ent:=fun k e q=>?_,tb:=fun t ht=>?_}⟩
 ·obtain ⟨k1,k2⟩:=h.kp b o e n
  by_cases z:b=P
  ·subst z
   refine ⟨fun f=>(nP (h.frm b f).1).elim, ?_⟩
   rw [hP] at k2
   exact k2.trans (.inr (.inr ⟨ps,more,rfl,hHP⟩))
  ·exact ⟨fun f=>hH _ _ (k1 f) z,k2.imp (fun e=>hH _ _ e z) (.imp (fun ⟨kvs,od,e1,e2⟩=>⟨kvs,od,e1,hH _ _ e2 z⟩) fun ⟨qs,mo,e1,e2⟩=>⟨qs,mo,e1,hH _ _ e2 z⟩)⟩
 ·obtain ⟨o',e'⟩:=h.sub b o e
  by_cases z:b=P
  ·subst z; exact ⟨_,hHP⟩
  ·exact ⟨o',hH _ _ e' z⟩
 ·obtain ⟨o',e'⟩:=h.dom b z
  exact ⟨o',hH _ _ e' (hO b z)⟩
 ·obtain ⟨u,e1,r⟩:=h.ent k e q
  refine ⟨u,e1, ?_⟩
  cases e with
  | d z=>exact Rep.mono l r
  | own z=>
   obtain ⟨b,rfl,r⟩:=r
   exact ⟨b,rfl,r.mono l (hq (h.own k z b q e1).1 r)⟩
  | loc t=>exact r
 ·have code:∀(d:Addr) (n:Str),p.H d=some (CodeO d n)→H2 d=some (CodeO d n):=fun d n e=>hH _ _ e fun z=>by
   rw [z,hP] at e
   exact codeO_ne _ (Option.some.inj e).symm
  by_cases z:t.1=P
  ·rw [hu t ht z,z]
   refine ⟨_,⟨nP,hHP⟩,hok,fun pos cv e=>?_⟩
   rcases ham pos cv e with rfl | e
   ·exact ⟨c,rfl,nOc,hHc⟩
   ·obtain ⟨d,e1,e2,e3⟩:=t4 pos cv e
    exact ⟨d,e1,e2,code _ _ e3⟩
  ·obtain ⟨qs,⟨a1,a2⟩,a3,a4⟩:=h.tb t ht
   refine ⟨qs,⟨a1,hH _ _ a2 z⟩,a3,fun pos cv e=>?_⟩
   obtain ⟨d,e1,e2,e3⟩:=a4 pos cv e
   exact ⟨d,e1,e2,code _ _ e3⟩
end
def iA (ys:List D):D→Option Nat
 | .tup (y::_)=>match scs ys,y.sc with
  | some vs,some v=>vs.findIdx? (fun z=>eqV z v)
  | _,_=>none
 | _=>none
noncomputable def tO (ys ds:List D):List D:=ds.mergeSort fun d e=>decide ((((iA ys d).getD 0:Nat):Int)≤((iA ys e).getD 0:Nat))
noncomputable def cj (cls:List Str) (g:Str) (i:Nat) (a:Vl) (s:SD):R Vl:=match s.cont a,s.sl[i]? with
 | some (.lst ds),some (some (.d (.cell k)))=>match s.st.get k with
  | some (.obj c fs)=>if c∈cls then match bI fs g with
   | some (.lst ys)=>if (scs ys).isSome=true∧∀d∈ds,∃n,iA ys d=some n then .ok (.own (.lst (tO ys ds))) s else .bad
   | _=> .bad
   else .bad
  | _=> .bad
 | _,_=> .bad
section
variable {G:Gc} {W:WX} {E:En} {p:Wr}
theorem jc {ys:List D} {d:D} {v:V} {n:Nat} {yv:List V} (r:Rep G p d v) (ry:Reps G p ys yv) (e:iA ys d=some n):
  ∃(t:Addr) (us:List V) (y z:V),v= .ref t∧p.H t=some (.tup us)∧us[0]? =some y∧flatV y=true∧yv[n]? =some z∧eqV z y=true∧∀(m:Nat) (z' :V),m<n→yv[m]? =some z'→eqV z' y=false:=by
 unfold iA at e
 split at e
 ·rename_i y r'
  split at e
  ·rename_i ws v1 e1 e2
   obtain ⟨t,us,rfl,⟨_,ht⟩,rt⟩:=r
   obtain ⟨v2,r2,rfl,r3,_⟩:=rt
   obtain rfl:=eD ry e1
   obtain rfl:=cf r3 e2
   obtain ⟨hj,h1,h2⟩:=List.findIdx?_eq_some_iff_getElem.mp e
   exact ⟨t,_,v2,yv[n],rfl,ht,rfl,fM e2,List.getElem?_eq_getElem hj,h1,fun m z' hm ez=>by
    obtain ⟨hm2,rfl⟩:=List.getElem?_eq_some_iff.mp ez
    simpa using h2 m hm⟩
  ·cases e
 ·cases e
theorem uG {ys:List D} {d d' :D} {v:V} {n n' :Nat} {yv:List V} (r:Rep G p d v) (r' :Rep G p d' v) (ry:Reps G p ys yv) (e:iA ys d=some n) (e' :iA ys d' =some n'):n=n' :=by
 obtain ⟨t,us,y,z,rfl,h1,h2,_,h3,h4,h5⟩:=jc r ry e
 obtain ⟨t',us',y',z',q,h1',h2',_,h3',h4',h5'⟩:=jc r' ry e'
 cases q
 rw [h1] at h1'
 cases h1'
 rw [h2] at h2'
 cases h2'
 rcases Nat.lt_trichotomy n n' with c | c | c
 ·have:=h5' n z c h3
  rw [h4] at this; cases this
 ·exact c
 ·have:=h5 n' z' c h3'
  rw [h4'] at this; cases this
noncomputable def kN (ys ds:List D) (vs:List V) (v:V):Nat:=if h:∃n,∃(j:Nat) (d:D),ds[j]? =some d∧vs[j]? =some v∧iA ys d=some n then Classical.choose h else 0
theorem rN {ys ds:List D} {vs yv:List V} (r:Reps G p ds vs) (ry:Reps G p ys yv) {j:Nat} {d:D} {v:V} {n:Nat} (e1:ds[j]? =some d) (e2:vs[j]? =some v) (e3:iA ys d=some n):kN ys ds vs v=n:=by
 have h:∃n,∃(j:Nat) (d:D),ds[j]? =some d∧vs[j]? =some v∧iA ys d=some n:=⟨n,j,d,e1,e2,e3⟩
 unfold kN
 rw [dif_pos h]
 obtain ⟨j',d',f1,f2,f3⟩:=Classical.choose_spec h
 exact uG (r.at f1 f2) (r.at e1 e2) ry f3 e3
theorem qf {ys ds:List D} {vs yv:List V} (r:Reps G p ds vs) (ry:Reps G p ys yv) (hk:∀d∈ds,∃n,iA ys d=some n):Reps G p (tO ys ds) (vs.mergeSort fun u v=>decide ((kN ys ds vs u:Int)≤kN ys ds vs v)):=by
 have hl:=r.len
 have hz:∀q∈ds.zip vs,Rep G p q.1 q.2∧(iA ys q.1).getD 0=kN ys ds vs q.2:=fun q hq=>by
  obtain ⟨j,hj⟩:=List.mem_iff_getElem?.mp hq
  rw [List.getElem?_zip_eq_some] at hj
  obtain ⟨n,hn⟩:=hk q.1 (List.mem_of_getElem? hj.1)
  refine ⟨r.at hj.1 hj.2, ?_⟩
  rw [rN r ry hj.1 hj.2 hn,hn]
  rfl
 have e1:((ds.zip vs).mergeSort fun a b=>decide ((kN ys ds vs a.2:Int)≤kN ys ds vs b.2)).map Prod.snd=vs.mergeSort fun u v=>decide ((kN ys ds vs u:Int)≤kN ys ds vs v):=by
  rw [List.map_mergeSort (s:=fun u v=>decide ((kN ys ds vs u:Int)≤kN ys ds vs v)) (fun _ _ _ _=>rfl),List.map_snd_zip (Nat.le_of_eq hl)]
 have e2:((ds.zip vs).mergeSort fun a b=>decide ((kN ys ds vs a.2:Int)≤kN ys ds vs b.2)).map Prod.fst=tO ys ds:=by
  unfold tO
  rw [List.map_mergeSort (s:=fun d e=>decide ((((iA ys d).getD 0:Nat):Int)≤((iA ys e).getD 0:Nat))) (fun a ha b hb=>by rw [(hz a ha).2,(hz b hb).2]),List.map_fst_zip (Nat.le_of_eq hl.symm)]
 rw [←e1,←e2]
 have hm:∀q∈(ds.zip vs).mergeSort fun a b=>decide ((kN ys ds vs a.2:Int)≤kN ys ds vs b.2),Rep G p q.1 q.2:=fun q hq=>(hz q (List.mem_mergeSort.mp hq)).1
 revert hm
 generalize (ds.zip vs).mergeSort _=zs
 intro hm
 refine .of (by simp) fun j d v q1 q2=>?_
 rw [List.getElem?_map] at q1 q2
 cases q:zs[j]? with
 | none=>rw [q] at q1; cases q1
 | some z=>
  rw [q] at q1 q2
  cases q1; cases q2
  exact hm z (List.mem_of_getElem? q)
theorem RE.sortIdx {cls:List Str} {g:Str} {i:Nat} {P:Addr} {qn:Str} {ta:TE} {fa:SD→R Vl} (hf:fS G g cls) (hm:(P,qn)∈lamT) (hu:∀t∈lamT,t.1=P→t.2=qn) (ha:RE G W ta fa):
  RE G W (iL G.K P qn g i ta) (z1 (cj cls g i) fa):=by
 intro E σ τ H s θ Q hN hR hw
 unfold z1 at hw
 rw [ae] at hw
 refine ha E σ τ H s θ _ hN hR (hw.mono (fun a s1 hw v H1 h1=>?_) fun _ _ _ h=>h)
 obtain ⟨p,rfl,hl,h⟩:=h1.unsnoc
 obtain ⟨h0,ca,_⟩:=bL hl h
 unfold cj at hw
 split at hw
 ·rename_i ds k e1 e2
  split at hw
  ·rename_i c fs e3
   split at hw
   ·rename_i hc
    split at hw
    ·rename_i ys e4
     split at hw
     ·rename_i hk
      obtain ⟨b,vs,rfl,hb,r⟩:=(ca _ e1).lst
      obtain ⟨u,w1,_,rfl⟩:=h0.ent i _ (by rw [List.getElem?_append_left (ag e2)]; exact e2)
      have hσ:σ[i]? =some (some (V.ref (p.γ k))):=by
       rw [List.getElem?_append_left (by rw [hl]; exact ag e2)] at w1
       exact w1
      obtain ⟨C,dx,fv,hC,hI,rF⟩:=(h0.cel k _ e3).2
      obtain ⟨v1,hv1,L,yv,rfl,⟨nL,hL⟩,rY⟩:=rF.val.1 _ e4
      obtain ⟨k1,k2⟩:=hf c hc C hC
      obtain ⟨ws,hws⟩:=Option.isSome_iff_exists.mp hk.1
      have hfl:yv.all flatV=true:=by rw [eD rY hws]; exact dU hws
      refine ⟨TabZ.st (h0.tb _ hm),b,vs,p.γ k,C,dx,fv,L,yv,kN ys ds vs,rfl, .of hb,hσ,hI,k1,k2,hv1, .of hL,hfl,fun v hv=>?_,fun c p2 H2 gr hn=>?_⟩
      ·obtain ⟨j,hj⟩:=List.mem_iff_getElem?.mp hv
       cases hd:ds[j]? with
       | none=>rw [r.none hd] at hj; cases hj
       | some d=>
        obtain ⟨n,hn⟩:=hk.2 d (List.mem_of_getElem? hd)
        obtain ⟨t,us,y,z,q1,q2,q3,q4,q5,q6,q7⟩:=jc (r.at hd hj) rY hn
        rw [rN r rY hd hj hn]
        exact ⟨t,us,y,z,q1, .of q2,q3,q4,q5,q6,q7⟩
      ·obtain ⟨l,h2⟩:=h0.grown hm hu gr
       exact bM (p:= {p with H:=H2}) h2 hl hw hn ((qf r rY hk.2).mono l)
     ·exact hw.elim
    ·exact hw.elim
   ·exact hw.elim
  ·exact hw.elim
 ·exact hw.elim
end
end Z

namespace Z
open PySem PySem.Spec PyProof.Rows L2 M LamX
structure DmL (K:PySem.W.Frag) (C:Addr) (m qual:Str) (st:Stmt) (ps:List Str) (c:Addr):Prop where
 ex:∃(f:Addr) (fd:FuncData),L2.Fun K m qual st f fd∧Cls K C∧Meth K C m f∧L2.Binds K fd ps []∧fd.code= .ref c
section
variable {P:Program} {w:World} {K:PySem.W.Frag} {mg:Str→Option Value} {base:Heap}
theorem metL {C c:Addr} {m qual:Str} {st:Stmt} {N ps:List Str} {k n:Nat} {fz:SD→R Fl} (D:DmL K C m qual st ps c) (S:FnScope N ps (L2.defScope st))
  (hb:∀{f:Addr} {A:Around} {outer:List Env} {s:Shared} {H:Hp} {E:XK},Room k (A.deeper (envOfC qual (L2.defScope st) s.heap.objs.size f (.ref c)))→(A.deeper (envOfC qual (L2.defScope st) s.heap.objs.size f (.ref c))).units+1<cLine→Takes (cxOf (L2.CX P w) P w K mg base N qual (L2.defScope st) f (.ref c) A outer s H E) (fun cls d _ H=>E cls d H)→
   ∃t,PSs (cxOf (L2.CX P w) P w K mg base N qual (L2.defScope st) f (.ref c) A outer s H E) (L2.defBody st) t∧RS ⟨K,mg⟩ (fun cls d _ H=>E cls d H) t fz) (hn:ps.length≤N.length:=by decide) (hn2:n=ps.length:=by rfl):MetZ P w K mg base (k+1) C m n (zFn N.length fz) []:=by
 obtain ⟨f,fd,F,cl,me,b,hc⟩:=D.ex
 subst hn2
 refine ⟨f,fd,ps,[],cl,me, ?_,b, .nil⟩
 obtain ⟨oc,od,kV,doc,pm,an,cdv,ct,osl,e,lk,hcd⟩:=F.ex
 subst e
 obtain rfl:cdv=Value.ref c:=hc
 refine fn_of lk hcd S kU fun A outer s H vs Q E hr h=>?_
 obtain ⟨t,h1,h2⟩:=hb hr (hu_of hr) (takes_of (X:=cxOf (L2.CX P w) P w K mg base N qual (L2.defScope st) f (.ref c) A outer s H E) rfl rfl rfl rfl)
 exact ⟨t,h1,gi h2 h hn⟩
end
theorem skY {X:Cx} {e:Expr} {ta:TE} {K:PySem.W.Frag} {qn:Str} {c P:Addr} (i:Nat) {k:Nat} {g x:Str} {params:Arguments} {scope:Scope} {lpos pos p p1 p2 p3 p4 p5 p6 p7 kp:Pos} {kd:Nat} (TB:TabB X.base X.mg c P) (ha:PE X e ta) (hr:Room k X.A) (hm:X.mg "sorted" =none)
  (hcode:X.env.code= .ref c:=by rfl) (hq:X.env.qual++("<lambda>" :Str)=qn:=by rfl) (hK:X.K=K:=by rfl) (hg:Gl X "sorted" :=by exact rfl) (hv:bootBuiltins "sorted" =some (.builtin "sorted"):=by decide+kernel)
  (hi:X.N[i]? =some "self" :=by rfl) (hk:X.env.scope.names.lookup ("self" :Str)=some .cell:=by rfl) (hl:(p3.endLine == p7.line)=true:=by rfl) (hdef:defaultsOf params X.env=([],[]):=by rfl)
  (hbind:∀(v cv pm ctv:Value) (cl:List (Str×Addr)),bindArgs (PySem.W.kla_fn "<lambda>" (X.env.qual++ "<lambda>") params (.Call (.Attribute (.Attribute (.Name "self" p1) g p2) "index" p3) [.Subscript (.Name x p4) (.Constant (.int 0) kd p5) p6] [] p7) scope cl pm cv ctv) ⟨[v],[]⟩=pure [(x,v)]:=by intro _ _ _ _ _; rfl)
  (k1:scope.kind= .function:=by rfl) (k2:scope.isCoroutine=false:=by rfl) (k3:scope.isGenerator=false:=by rfl) (k4:∀y∈scope.names,y.2≠ .cell:=by decide) (k7:∀y∈scope.names,y.2= .free→y.1=("self" :Str):=by decide) (k5:scope.names.lookup x=some .local:=by rfl) (k6:scope.names.lookup ("self" :Str)=some .free:=by rfl)
  (hx:(x == ("__debug__" :Str))=false:=by decide) (hx2:(x == ("__classdict__" :Str))=false:=by decide)
  (hgb:∀env:Env,attributeBase (.Name "self" p1) g env (eval (.Name "self" p1) env)=eval (.Name "self" p1) env:=by intro _; rfl)
  (hse:starEach [e] X.env=(false,eval e X.env)::starEach [] X.env:=by rfl) (he:backTo pos (starEach [e] X.env)=(false,eval e X.env)::backTo pos (starEach [] X.env):=by rfl) (hpl:(backTo pos (starEach [e] X.env)).any (·.1)=false:=by rfl):
  PE X (.Call (.Name "sorted" p) [e] [⟨some "key", .Lambda params (.Call (.Attribute (.Attribute (.Name "self" p1) g p2) "index" p3) [.Subscript (.Name x p4) (.Constant (.int 0) kd p5) p6] [] p7) scope lpos,kp⟩] pos) (iL K P qn g i ta):=by
 subst hK
 subst hq
 exact oV TB hcode ha hr hg hm hv hi hk (.inr trivial) rfl hl hdef hbind k1 k2 k3 k4 k7 k5 k6 hx hx2 hgb hse he hpl
end Z

namespace M
open PySem PySem.Spec PyProof.Rows L2
open Classical
section
variable {prog:Program} {w:World} {A:Around} {E:Value→Shared→Prop} {s:Shared}
set_option maxHeartbeats 3200000 in
theorem jv {l:Addr} {its:Array Value} {ns:List Int} {Q:Value→Shared→Prop} (calm:A.handled=none) (there:s.heap.IsList l its) (rel:IntsAre its.toList ns) (few:ns.length+1<scanBound)
  (h:∀(h' :Heap) (tk c:Nat),SetR w h' s.heap.objs.size (fun j=>decide (j∈ns)) c→c≤ns.length→(∀b o,b<s.heap.objs.size→s.heap.get? b=some o→h'.get? b=some o)→Q (.ref s.heap.objs.size) {s with heap:=h',toks:=tk}):
  wpAny (model prog w) A (call (.type "set") [.ref l]) Q E s:=by
 obtain ⟨c,tl,mro⟩:=PySem.F.called_set.mro
 have made:=PySem.F.called_set.made
 have sub:=PySem.F.called_set.sub
 refine wpAny_call (codeAny_of_tree ?_)
 show wpAny _ _ (callAny (.type "set") _) _ _ _
 refine wpAny_pure ⟨Code.quiet_builtin _ (by decide+kernel),codeAny_builtin PySem.F.entry_type_call (by
  rw [Around.under_plain (weight_type_call_type "set" [.ref l] []) rfl]
  have t1:=PySem.F.called_set.notType
  have t2:=PySem.F.called_set.canCreate
  have t3:=PySem.F.typeCall_set_1 (.ref l)
  repeat (any_goals (first | assumption | wp_step))
  refine codeAny_mono (code_set_led1 (.ref l) (E:=E) (Q₁:=fun obj s1=>obj= .ref s.heap.objs.size∧s1= {s with heap:=s.heap.push {cls:= .type "set",dict:=none,data:= .set #[] 0 (.fresh 0 0 (!w.params.followText "set-order"))}}) ⟨rfl,rfl⟩) fun r s1 made1=>?_
  cases r with
  | error e=>exact made1
  | ok fl=>
   cases fl with
   | ret obj=>
    obtain ⟨rfl,rfl⟩:=made1
    have new:=Heap.get?_push_size s.heap (o:= {cls:= .type "set",dict:=none,data:= .set #[] 0 (.fresh 0 0 (!w.params.followText "set-order"))}) rfl
    have isT:Shared.TypeIs {s with heap:=s.heap.push {cls:= .type "set",dict:=none,data:= .set #[] 0 (.fresh 0 0 (!w.params.followText "set-order"))}} (.ref s.heap.objs.size) "set" :=⟨_,new,rfl⟩
    have look:=PySem.F.called_set.init.lookup
    have bind:=PySem.F.called_set.init.bind (.ref s.heap.objs.size)
    repeat (any_goals (first | assumption | wp_step))
    refine codeAny_mono (codeAny_call_builtin (R:=wants (fun r s2=>r= .none∧∃h' tk c,s2= {s with heap:=h',toks:=tk}∧SetR w h' s.heap.objs.size (fun j=>decide (j∈ns)) c∧c≤ns.length∧(∀b o,b<s.heap.objs.size→s.heap.get? b=some o→h'.get? b=some o)) E) PySem.F.called_set.init.plain PySem.F.entry_set_init (check_set_init_1 isT ?_)) fun r2 s2 got=>?_
    ·obtain ⟨ol,hol,hc,nl,hd⟩:=there
     obtain ⟨ocls,odict,odata,oslots⟩:=ol
     simp only at hc hd
     subst hc
     subst hd
     have hol' :(s.heap.push {cls:= .type "set",dict:=none,data:= .set #[] 0 (.fresh 0 0 (!w.params.followText "set-order"))}).get? l=some {cls:= .type "list",dict:=odict,data:= .seq its nl,slots:=oslots}:=Heap.get?_push_of_some _ hol
     have sub1:=PySem.F.sub_list_set
     have sub2:=PySem.F.sub_list_frozenset
     have nod:(Value.type "list" == Value.type "dict")=false:=by decide
     have isl:(s.heap.push {cls:= .type "set",dict:=none,data:= .set #[] 0 (.fresh 0 0 (!w.params.followText "set-order"))}).IsList l its:=⟨_,hol',rfl,nl,rfl⟩
     unfold Builtin.«set.__init__» noKeywords Builtin.Frozenset.updateFrom
     generalize hPI:pyIter=PI
     wp_walk
     subst hPI
     refine wpAny_pyIter_list isl ?_
     refine wpAny_bind (wpAny_runValue ?_)
     have lS:l<s.heap.objs.size:=Heap.lt_size hol
     have calm3:A.in1.in1.in1.handled=none:=by simp [calm]
     have ne1:l≠(s.heap.push {cls:= .type "set",dict:=none,data:= .set #[] 0 (.fresh 0 0 (!w.params.followText "set-order"))}).objs.size:=by
      rw [Heap.size_push]
      exact Nat.ne_of_lt (Nat.lt_succ_of_lt lS)
     have out:s.heap.objs.size∉ [(s.heap.push {cls:= .type "set",dict:=none,data:= .set #[] 0 (.fresh 0 0 (!w.params.followText "set-order"))}).objs.size,l]:=by
      rw [Heap.size_push]
      intro q
      rcases List.mem_cons.mp q with q | q
      ·exact Nat.ne_of_lt (Nat.lt_succ_self _) q
      ·exact Nat.ne_of_gt lS (List.mem_singleton.mp q)
     have sz:its.size=ns.length:=by
      have:=IntsAre.length rel
      rw [Array.length_toList] at this
      exact this
     have val:∀(i:Nat) (v:Value),its[i]? =some v→∃k t,ns[i]? =some k∧v= .int k t:=fun i v hv=>by
      have hi:i<ns.length:=by rw [←sz]; exact (Array.getElem?_eq_some_iff.mp hv).1
      obtain ⟨t,e⟩:=PyProof.Rows.IntsAre.int_at rel i v (by rw [Array.getElem?_toList]; exact hv)
      refine ⟨ns[i],t,List.getElem?_eq_getElem hi, ?_⟩
      rw [e,List.getD_eq_getElem?_getD,List.getElem?_eq_getElem hi]<;> rfl
     refine set_update_ints ((Walks.list calm3 _ l ne1 its).toS) s.heap.objs.size out ns sz few val (its.size - 0) 0 _ (by omega) (Nat.zero_le _) ⟨⟨_,Heap.get?_push_size _ rfl,rfl,rfl⟩,isl.push _⟩ ?start ?done
     case start=>
      have g0:((s.heap.push {cls:= .type "set",dict:=none,data:= .set #[] 0 (.fresh 0 0 (!w.params.followText "set-order"))}).push {cls:= .type "list_iterator",data:= .fields #[.ref l, .int 0 0]}).get? s.heap.objs.size=some {cls:= .type "set",dict:=none,data:= .set #[] 0 (.fresh 0 0 (!w.params.followText "set-order"))}:=Heap.get?_push_of_some _ new
      exact ⟨0,Nat.le_refl 0,setR_new_at g0⟩
     case done=>
      intro s' c' mv le got
      obtain ⟨h',g',d',tk',os'⟩:=s'
      obtain rfl:g' =s.gens:=mv.gens
      obtain rfl:d' =s.drawn:=mv.drawn
      obtain rfl:os' =s.os:=mv.os
      show wpAny _ _ _ _ _ _
      refine wpAny_pure ?_
      show wpAny _ _ (ret Value.none) _ _ _
      rw [sz] at le
      refine wpAny_pure ⟨rfl,h',tk',c',rfl,got,le,fun b o hb e=>?_⟩
      refine mv.heap b o ?_ (Heap.get?_push_of_some _ (Heap.get?_push_of_some _ e))
      rw [Heap.size_push]
      intro q
      rcases List.mem_cons.mp q with q | q
      ·exact Nat.ne_of_lt hb q
      ·exact Nat.ne_of_lt (Nat.lt_succ_of_lt hb) (List.mem_singleton.mp q)
    ·cases r2 with
     | error e=>exact got
     | ok fl2=>
      cases fl2 with
      | ret r=>
       obtain ⟨rfl,h',tk,c',rfl,g1,g0,g2⟩:=got
       repeat (any_goals (first | assumption | wp_step))
       exact h _ _ _ g1 g0 g2
      | _=>exact got.elim
   | _=>exact made1.elim)⟩
end
def mq (K:PySem.W.Frag) (ta:TE):TE:=fun σ H Q=>ta σ H fun x H1=>∃(l:Addr) (ns:List Int),x= .ref l∧SqL K H1 l (ns.map V.int)∧ns.length<60∧
 ∀(ms:List Int) (p:Addr),ms.Pairwise (· < ·)→(∀k:Int,k∈ms↔k∈ns)→H1 p=none→Q (.ref p) (upd H1 p (.lst (ms.map V.int)))
theorem oU {X:Cx} {K:PySem.W.Frag} {a:Expr} {ta:TE} {p p2 q pos:Pos} (g1:Gl X "sorted") (m1:X.mg "sorted" =none) (v1:bootBuiltins "sorted" =some (.builtin "sorted")) (g2:Gl X "set") (m2:X.mg "set" =none) (ha:PE X a ta) (calm:X.calm=true:=by rfl) (hK:X.K=K:=by rfl)
  (na:starEach [a] X.env=(false,eval a X.env)::starEach [] X.env:=by rfl):PE X (.Call (.Name "sorted" p) [.Call (.Name "set" p2) [a] [] q] [] pos) (mq K ta):=by
 subst hK
 refine ⟨fun pins s σ H Q I h=>Call_ (ld_blt I g1 m1 v1 (callWith_builtin1 (args_cons (Call_ (ld_blt I g2 m2 boot_set (callWith_type1 (args_cons (thn (ha.run pins s σ H _ I h) fun v s1 hv=>args_nil ?_) na) na rfl))) rfl) rfl rfl))⟩
 obtain ⟨x,H1,I1,r1,l,ns,rfl,hq,few,q1⟩:=hv
 cases r1
 obtain ⟨its,r,there,_⟩:=I1.list hq
 have hit:IntsAre its.toArray.toList ns:=by simpa using r.ints
 refine jv (I1.ok.hd calm) there.isList hit (by unfold scanBound; omega) fun h' tk c got le keep=>args_nil ?_
 have I2:Inv X pins σ H1 {s1 with heap:=h',toks:=tk}:=I1.kept fun b o e=>keep b o (Heap.lt_size e) e
 refine sorted_set (s:= {s1 with heap:=h',toks:=tk}) got (I1.ok.hd calm) (by omega) fun s' p out c ms k g o hp hg hi hs hm hl=>?_
 have hlen:(ms.map V.int).length≤sizeLine:=by rw [List.length_map,hl,sizeLine_eq]; omega
 have hn:H1 p=none:=I2.hok.fresh hp
 have J:Inv X pins σ (upd H1 p (.lst (ms.map V.int))) {({s1 with heap:=h',toks:=tk}:Shared) with heap:=s'.heap,gens:=s'.gens,drawn:=s'.drawn,toks:=s'.toks}:=
  I2.call (ch:= []) (Un.laid k hp hn) (I2.hok.laid k hp ⟨hlen,out.toList,c,vals_of_ints hi,hg⟩) (by rw [g]; exact I2.bare) (fun _ z=>nomatch z)
 have e:s' = {({s1 with heap:=h',toks:=tk}:Shared) with heap:=s'.heap,gens:=s'.gens,drawn:=s'.drawn,toks:=s'.toks}:=by
  cases s'
  cases s1
  cases o
  rfl
 rw [e]
 exact ⟨.ref p,_,J,rfl,q1 ms p hs (fun j=>(hm j).trans (by simp)) hn⟩
end M
namespace Z
open PySem PySem.Spec PyProof.Rows L2 M
open Classical
noncomputable def stI (ns:List Int):List Int:=if h:∃ms:List Int,ms.Pairwise (· < ·)∧∀k:Int,k∈ms↔k∈ns then Classical.choose h else []
theorem qB:∀{a b:List Int},a.Pairwise (· < ·)→b.Pairwise (· < ·)→(∀k,k∈a↔k∈b)→a=b
 | [],[],_,_,_=>rfl
 | [],y::b,_,_,h=>nomatch (h y).mpr List.mem_cons_self
 | x::a,[],_,_,h=>nomatch (h x).mp List.mem_cons_self
 | x::a,y::b,ha,hb,h=>by
  obtain ⟨a1,a2⟩:=List.pairwise_cons.mp ha
  obtain ⟨b1,b2⟩:=List.pairwise_cons.mp hb
  have e:x=y:=by
   rcases List.mem_cons.mp ((h x).mp List.mem_cons_self) with e | e
   ·exact e
   rcases List.mem_cons.mp ((h y).mpr List.mem_cons_self) with e' | e'
   ·exact e'.symm
   have:=a1 y e'
   have:=b1 x e
   omega
  subst e
  rw [qB a2 b2 fun k=>⟨fun hk=>?_,fun hk=>?_⟩]
  ·rcases List.mem_cons.mp ((h k).mp (List.mem_cons_of_mem _ hk)) with e | e
   ·have:=a1 k hk
    omega
   ·exact e
  ·rcases List.mem_cons.mp ((h k).mpr (List.mem_cons_of_mem _ hk)) with e | e
   ·have:=b1 k hk
    omega
   ·exact e
theorem stI_is {ns ms:List Int} (h1:ms.Pairwise (· < ·)) (h2:∀k:Int,k∈ms↔k∈ns):stI ns=ms:=by
 have h:∃ms:List Int,ms.Pairwise (· < ·)∧∀k:Int,k∈ms↔k∈ns:=⟨ms,h1,h2⟩
 unfold stI
 rw [dif_pos h]
 obtain ⟨q1,q2⟩:=Classical.choose_spec h
 exact qB q1 h1 fun k=>(q2 k).trans (h2 k).symm
theorem stI_id {ns:List Int} (h:ns.Pairwise (· < ·)):stI ns=ns:=stI_is h fun _=>Iff.rfl
noncomputable def bQ (a:Vl) (s:SD):R Vl:=match s.cont a with
 | some (.lst ds)=>match fQ ds with
  | some ns=>if ns.length<60 then .ok (.own (.lst ((stI ns).map D.int))) s else .bad
  | none=> .bad
 | _=> .bad
section
variable {G:Gc} {W:WX} {E:En} {s:SD} {p:Wr} {ta:TE} {fa:SD→R Vl}
theorem rZ {zs:List Int}:Reps G p (zs.map D.int) (zs.map V.int):=by
 induction zs with
 | nil=>rfl
 | cons z zs ih=>exact ⟨_,_,rfl,rfl,ih⟩
theorem RE.sortSet (ha:RE G W ta fa):RE G W (mq G.K ta) (z1 bQ fa):=by
 refine RE.op1 (r:=fun x H1 Q=>∃(l:Addr) (ns:List Int),x= .ref l∧SqL G.K H1 l (ns.map V.int)∧ns.length<60∧
  ∀(ms:List Int) (p:Addr),ms.Pairwise (· < ·)→(∀k:Int,k∈ms↔k∈ns)→H1 p=none→Q (.ref p) (upd H1 p (.lst (ms.map V.int)))) ?_ ?_ ha
 ·intro E σ τ s θ p v a Q hl h hw
  obtain ⟨h0,ca,_⟩:=bL hl h
  unfold bQ at hw
  split at hw
  ·rename_i ds e
   split at hw
   ·rename_i ns e1
    split at hw
    ·rename_i hz
     obtain ⟨b,vs,rfl,hb,r⟩:=(ca _ e).lst
     obtain rfl:=gY r e1
     refine ⟨b,ns,rfl, .of hb,hz,fun ms l h1 h2 hn=>?_⟩
     rw [stI_is h1 h2] at hw
     exact bM h0 hl hw hn rZ
    ·exact hw.elim
   ·exact hw.elim
  ·exact hw.elim
 ·intros; unfold bQ; (repeat' split)<;> (intro q; cases q)
theorem pM {a:Vl} {ns:List Int} {ds:List D} (h:s.cont a=some (.lst ds)) (e:fQ ds=some ns) (hl:ns.length<60):bQ a s= .ok (.own (.lst ((stI ns).map D.int))) s:=by
 unfold bQ
 simp only [h,e,hl,if_true]
end
end Z

namespace Z
open PySem PySem.Spec PyProof.Rows L2 M
structure Mk0 (K:PySem.W.Frag) (C:Addr):Prop where
 mks:PySem.W.makesIn K C=true
 init:PySem.W.findIn K (.ref C) "__init__" =some (some (.builtin "object.__init__"))
 kp:PySem.W.keepIn K (.ref C)=true
def tMk0 (C:Addr):TE:=fun _ H Q=>∀x dx,H x=none→H dx=none→dx≠x→Q (.ref x) (upd (upd H dx (.own x)) x (.ins C dx []))
theorem pe_mk0 {X:Cx} {K:PySem.W.Frag} {mg:Str→Option Value} {C:Addr} {x:Str} {p pos:Pos} (M0:Mk0 K C) (hm:mg x=some (.ref C)) (hg:Gl X x:=by exact rfl) (hdb:(x == ("__debug__" :Str))=false:=by decide) (hK:X.K=K:=by rfl) (hM:X.mg=mg:=by rfl):PE X (.Call (.Name x p) [] [] pos) (tMk0 C):=by
 subst hK
 subst hM
 refine ⟨fun pins s σ H Q I h=>?_⟩
 refine wpAny_Call_Name_kw (ld_glob I hg hm ?_ hdb)
 have hq:=h (s.heap.objs.size+1) s.heap.objs.size (I.hok.fresh (Nat.le_succ _)) (I.hok.fresh (Nat.le_refl _)) (Nat.ne_of_lt (Nat.lt_succ_self _))
 have I2:=Inv.made (C:=C) I
 refine PySem.W.callWith_K0 I.kIn M0.kp (wpAny_call (make_map0 I.kIn M0.mks M0.init (fun self=>PySem.W.Looks.of_pure (PySem.W.oi_bind self)) ?_))
 have Y:=PySem.W.makes_of (M:=model X.prog X.w) I.kIn M0.mks
 have hx:((s.heap.push PySem.W.emptyDict).push (PySem.W.instObj C s.heap.objs.size)).get? (s.heap.objs.size+1)=some (PySem.W.instObj C s.heap.objs.size):=by
  have:=Heap.get?_push_size (s.heap.push PySem.W.emptyDict) (o:=PySem.W.instObj C s.heap.objs.size) rfl
  rwa [Heap.size_push] at this
 have t1:PySem.W.Looks (model X.prog X.w) ((s.heap.push PySem.W.emptyDict).push (PySem.W.instObj C s.heap.objs.size)) (typeOf (.ref (s.heap.objs.size+1))) (.ref C):=(PySem.W.Looks.ld hx).andThen .now
 have t2:PySem.W.Looks (model X.prog X.w) ((s.heap.push PySem.W.emptyDict).push (PySem.W.instObj C s.heap.objs.size)) (isInstance (.ref (s.heap.objs.size+1)) (.type "object")) true:=t1.andThen (Y.top.keeps fun b o e=>Heap.get?_push_of_some _ (Heap.get?_push_of_some _ e))
 refine codeAny_call_builtin PySem.W.oi_plain PySem.W.entry_oi (@PySem.W.check_slot (model X.prog X.w) _ _ _ "object.__init__" "object" "__init__" (.ref (s.heap.objs.size+1)) [] [] _ PySem.W.oi_kind PySem.W.oi_split t2 (PySem.W.oi_args (.ref (s.heap.objs.size+1))) ?_)
 rw [PySem.W.oi_run]
 exact wpAny_pure (And.intro rfl ⟨V.ref (s.heap.objs.size+1),_,I2,rfl,hq⟩)
def zMk0 (c:Str):SD→R Vl:=fun s=> .ok (.d (.cell s.st.nx)) {s with st:=s.st.new (.obj c [])}
section
variable {G:Gc} {W:WX}
theorem RE.mk0 {c:Str} {C:Addr} (hC:G.mg c=some (.ref C)):RE G W (tMk0 C) (zMk0 c):=by
 intro E σ τ H s θ Q hN hR hw
 obtain ⟨p,rfl,hl,h⟩:=hR
 intro x dx hx hdx hne
 have q1:=h.alloc (o:= .own x) hdx
 have hx' :({p with H:=upd p.H dx (.own x)}:Wr).H x=none:=by show upd _ _ _ _=_; rw [upd_ne (Ne.symm hne)]; exact hx
 have q2:=q1.allocOwn (o:= .ins C dx []) (x:= .obj c []) hx' ⟨C,dx,[],hC,upd_same,rfl⟩
 have ll:(σ++τ.map some).length=(s.sl++θ.map some).length:=h.len
 have q3:=q2.celled (k:=(s.sl++θ.map some).length) (a:=x) af (by rw [←ll]; exact af)
 rw [dS] at q3
 exact hw _ _ (Rel.snoc (s:= {s with st:=s.st.new (.obj c [])}) q3 hl rfl)
end
open Classical
def rCntD (K:PySem.W.Frag):V→List V→Hp→VK→Prop:=fun x vs H Q=>∃(l:Addr) (xs:List V) (y:V) (ds:List PyData) (d:PyData),x= .ref l∧vs= [y]∧SqL K H l xs∧DpAll K H xs ds∧Dp K H y d∧PyData.plainAll ds=true∧d.plain=true∧d.depth≤60∧Q (.int ((ds.countP fun z=>PyData.eqv z d:Nat):Int)) H
theorem mt_cntD {X:Cx} {K:PySem.W.Frag} (hu:X.A.units+64<cLine) (hK:X.K=K:=by rfl):MtR X "list.count" (rCntD K):=by
 subst hK
 intro pins s σ H x vs v us Q I rx rv h
 obtain ⟨l,xs,y,ds,d,rfl,rfl,hH,h1,h2,p1,p2,dd,q⟩:=h
 cases rx
 obtain ⟨u,rfl,ru⟩:=rv.one
 obtain ⟨its,r,hl,z⟩:=I.list hH
 obtain ⟨as,r1⟩:=Dp.readsAll I ds xs its h1 r
 obtain ⟨bs,r2⟩:=Dp.reads I d y u h2 ru
 refine PySem.SeqAt.count_list_data hl.isList (xs:=ds) (as:=as) (bs:=bs) (d:=d) r1 r2 p1 p2 ?_ ?_
 ·have:min (PyData.depthAll ds) d.depth≤60:=Nat.le_trans (Nat.min_le_right _ _) dd
  omega
 ·exact ⟨.int _,H,I.tok _,⟨_,rfl⟩,q⟩
noncomputable def lK (s:SD):Option D→Option D→R Vl
 | some (.lst ds),some x=>(match D.pys ds,x.py with
  | some xs,some d=>if PyData.plainAll xs=true∧d.plain=true∧d.depth≤60 then .ok (.d (.int ((xs.countP fun z=>PyData.eqv z d:Nat):Int))) s else .bad
  | _,_=> .bad)
 | _,_=> .bad
noncomputable def dG (a b:Vl) (s:SD):R Vl:=lK s (s.cont a) (s.cont b)
section
variable {G:Gc} {W:WX} {E:En} {s:SD} {p:Wr} {ta tb:TE} {fa fb:SD→R Vl} {a b:Vl}
theorem mc:dG a b s=lK s (s.cont a) (s.cont b):=Eq.trans rfl rfl
theorem uj:bN G (fun x y H Q=>rCntD G.K x [y] H Q) dG:=by
 intro E σ τ s θ p v u a b Q hl h hw
 obtain ⟨h0,ca,cb⟩:=cJ hl h
 unfold dG lK at hw
 split at hw
 ·rename_i e1 e2
  split at hw
  ·rename_i f1 f2
   split at hw
   ·rename_i hp
    obtain ⟨l,vs,rfl,hb,r⟩:=(ca _ e1).lst
    exact ⟨l,vs,u,_,_,rfl,rfl, .of hb,eJ r f1,bW (cb _ e2) f2,hp.1,hp.2.1,hp.2.2,aR h0 hl hw rfl⟩
   ·exact hw.elim
  ·exact hw.elim
 ·exact hw.elim
theorem RE.countD (ha:RE G W ta fa) (hb:RE G W tb fb):RE G W (tBM G.K "list" (rCntD G.K) ta (tCons tb tNil)) (zM2 isL dG fa fb):=
 RE.bm iC uj (by intros; unfold dG lK; (repeat' split)<;> (intro q; cases q)) ha hb
end
def ox (S:Sto):D→Option PyData
 | .cell i=>match S.get i with
  | some x=>x.py
  | none=>none
 | x=>x.py
def cY (S:Sto):List D→Option (List PyData)
 | []=>some []
 | x::r=>match ox S x,cY S r with
  | some d,some ds=>some (d::ds)
  | _,_=>none
noncomputable def neSK (s:SD):Option D→Option D→R Vl
 | some (.tup xs),some y=>(match cY s.st xs,y.py with
  | some ds,some e=>if SeqAt.shaped (.tuple ds)=true∧SeqAt.shaped e=true then .ok (.d (.bl (!PyData.eqv (.tuple ds) e))) s else .bad
  | _,_=> .bad)
 | _,_=> .bad
noncomputable def oNeS (a b:Vl) (s:SD):R Vl:=neSK s (s.cont a) (s.cont b)
section
variable {G:Gc} {E:En} {m:Nat} {s:SD} {p:Wr} {w:List (Option V)} {ŵ:List (Option Vl)} {S:Sto} {a b:Vl}
theorem w_neS:oNeS a b s=neSK s (s.cont a) (s.cont b):=Eq.trans rfl rfl
theorem uY (h:Sm G E m p w ŵ S) {x:D} {v:V} {d:PyData} (r:Rep G p x v) (e:ox S x=some d):Dp G.K p.H v d:=by
 cases x with
 | cell i=>
  have e:(match S.get i with | some x=>x.py | none=>none)=some d:=e
  cases q:S.get i with
  | none=>rw [q] at e; cases e
  | some x=>
   rw [q] at e
   obtain ⟨_,rfl⟩:=r
   exact bW (h.cel i x q).2.cont e
 | _=>exact gK r e
theorem kI (h:Sm G E m p w ŵ S):∀{xs:List D} {vs:List V} {ds:List PyData},Reps G p xs vs→cY S xs=some ds→DpAll G.K p.H vs ds
 | [],vs,ds,r,e=>by cases e; rw [show vs= [] from r]; exact .nil
 | x::xs,vs,ds,r,e=>by
  obtain ⟨v,t,rfl,h1,h2⟩:=r
  unfold cY at e
  split at e
  ·rename_i e1 e2
   cases e
   exact .cons (uY h h1 e1) (kI h h2 e2)
  ·cases e
theorem p_neS:bN G (rNeZ G.K) oNeS:=by
 intro E σ τ s θ p v u a b Q hl h hw
 obtain ⟨h0,ca,cb⟩:=cJ hl h
 unfold oNeS neSK at hw
 split at hw
 ·rename_i e1 e2
  split at hw
  ·rename_i f1 f2
   split at hw
   ·rename_i hs
    obtain ⟨t,vs,rfl,ht,r⟩:=(ca _ e1).tup
    exact .inr (.inr (.inl ⟨_,_, .tup (.of ht) (kI h0 r f1),bW (cb _ e2) f2,hs.1,hs.2,aR h0 hl hw rfl⟩))
   ·exact hw.elim
  ·exact hw.elim
 ·exact hw.elim
theorem q_neS:Op2 G (rNeZ G.K) oNeS:=⟨p_neS,by intros; unfold oNeS neSK; (repeat' split)<;> (intro q; cases q)⟩
theorem neSK_ok {xs:List D} {y:D} {ds:List PyData} {e:PyData} {r:Bool} (h1:cY s.st xs=some ds) (h2:y.py=some e) (s1:SeqAt.shaped (.tuple ds)=true) (s2:SeqAt.shaped e=true) (h:PyData.eqv (.tuple ds) e=r):neSK s (some (.tup xs)) (some y)= .ok (.d (.bl (!r))) s:=by
 unfold neSK
 simp only [h1,h2,s1,s2,h,and_self,if_true]
end
end Z

set_option maxHeartbeats 4000000
namespace T
open PySem PySem.Spec PyProof.Rows L2 M Z
open Classical
structure Txt (K:PySem.W.Frag) (mg:Str→Option Value) (Ca Cb Cc Cd:Addr):Prop where
 z_all:mg "all" =none
 z_bool:mg "bool" =none
 z_enumerate:mg "enumerate" =none
 z_isinstance:mg "isinstance" =none
 z_len:mg "len" =none
 z_list:mg "list" =none
 z_min:mg "min" =none
 z_range:mg "range" =none
 z_set:mg "set" =none
 z_sorted:mg "sorted" =none
 z_str:mg "str" =none
 z_tuple:mg "tuple" =none
 z_zip:mg "zip" =none
 g_LETTERS:∃u,mg "LETTERS" =some u∧RelV (.str "abcdefghijklmnopqrstuvwxyz") u
 g_MOST_LETTERS:∃u,mg "MOST_LETTERS" =some u∧RelV (.int 12) u
 g_MOST_NAMES:∃u,mg "MOST_NAMES" =some u∧RelV (.int 7) u
 m_Rest:mg "Rest" =some (.ref Ca)
 m_Paired:mg "Paired" =some (.ref Cb)
 m_Question:mg "Question" =some (.ref Cc)
 m_Pairs:mg "Pairs" =some (.ref Cd)
 c_Rest:Cls K Ca
 c_Paired:Cls K Cb
 c_Question:Cls K Cc
 c_Pairs:Cls K Cd
 k0_Question:Mk0 K Cc
 n_cover_Paired:NoAttr K Cb "cover"
 n_friends_Pairs:NoAttr K Cd "friends"
 n_heads_Rest:NoAttr K Ca "heads"
 n_lefts_Pairs:NoAttr K Cd "lefts"
 n_many_Rest:NoAttr K Ca "many"
 n_pairs_Paired:NoAttr K Cb "pairs"
 n_rights_Pairs:NoAttr K Cd "rights"
 n_rooms_Rest:NoAttr K Ca "rooms"
 n_starts_Rest:NoAttr K Ca "starts"
 in_Paired:C8.InsC K Cb
 in_Pairs:C8.InsC K Cd
 in_Question:C8.InsC K Cc
 yt_Question:YT K Cc
 so_Pairs_Question:PySem.W.subIn K (.ref Cd) (.ref Cc)=some true
noncomputable def is_Paired:Str→Option Bool:=fun c=>  if c= "Paired" then some true else none
noncomputable def is_Question:Str→Option Bool:=fun c=>if c= "Pairs" then some true else if c= "Question" then some true else none
section
variable {K:PySem.W.Frag} {mg:Str→Option Value} {Ca Cb Cc Cd:Addr}
theorem Txt.f_cover_Paired (T:Txt K mg Ca Cb Cc Cd):fS ⟨K,mg⟩ "cover" ["Paired"]:=uQ T.m_Paired T.c_Paired T.n_cover_Paired
theorem Txt.f_friends_Pairs (T:Txt K mg Ca Cb Cc Cd):fS ⟨K,mg⟩ "friends" ["Pairs"]:=uQ T.m_Pairs T.c_Pairs T.n_friends_Pairs
theorem Txt.f_heads_Rest (T:Txt K mg Ca Cb Cc Cd):fS ⟨K,mg⟩ "heads" ["Rest"]:=uQ T.m_Rest T.c_Rest T.n_heads_Rest
theorem Txt.f_lefts_Pairs (T:Txt K mg Ca Cb Cc Cd):fS ⟨K,mg⟩ "lefts" ["Pairs"]:=uQ T.m_Pairs T.c_Pairs T.n_lefts_Pairs
theorem Txt.f_many_Rest (T:Txt K mg Ca Cb Cc Cd):fS ⟨K,mg⟩ "many" ["Rest"]:=uQ T.m_Rest T.c_Rest T.n_many_Rest
theorem Txt.f_pairs_Paired (T:Txt K mg Ca Cb Cc Cd):fS ⟨K,mg⟩ "pairs" ["Paired"]:=uQ T.m_Paired T.c_Paired T.n_pairs_Paired
theorem Txt.f_rights_Pairs (T:Txt K mg Ca Cb Cc Cd):fS ⟨K,mg⟩ "rights" ["Pairs"]:=uQ T.m_Pairs T.c_Pairs T.n_rights_Pairs
theorem Txt.f_rooms_Rest (T:Txt K mg Ca Cb Cc Cd):fS ⟨K,mg⟩ "rooms" ["Rest"]:=uQ T.m_Rest T.c_Rest T.n_rooms_Rest
theorem Txt.f_starts_Rest (T:Txt K mg Ca Cb Cc Cd):fS ⟨K,mg⟩ "starts" ["Rest"]:=uQ T.m_Rest T.c_Rest T.n_starts_Rest
theorem Txt.is_Paired (T0:Txt K mg Ca Cb Cc Cd):IsOk ⟨K,mg⟩ Cb is_Paired false:=by
 refine ⟨fun c b C' h hm=>?_,fun h=>nomatch h⟩
 unfold T.is_Paired at h
 split at h
 ·rename_i e
  subst e
  cases h
  have hm:mg "Paired" =some (.ref C'):=hm
  rw [T0.m_Paired] at hm
  cases hm
  exact ⟨T0.in_Paired,Z.kit_self⟩
 ·cases h
theorem Txt.is_Question (T0:Txt K mg Ca Cb Cc Cd):IsOk ⟨K,mg⟩ Cc is_Question false:=by
 refine ⟨fun c b C' h hm=>?_,fun h=>nomatch h⟩
 unfold T.is_Question at h
 split at h
 ·rename_i e
  subst e
  cases h
  have hm:mg "Pairs" =some (.ref C'):=hm
  rw [T0.m_Pairs] at hm
  cases hm
  exact ⟨T0.in_Pairs,T0.yt_Question.kit T0.so_Pairs_Question⟩
 ·split at h
  ·rename_i e
   subst e
   cases h
   have hm:mg "Question" =some (.ref C'):=hm
   rw [T0.m_Question] at hm
   cases hm
   exact ⟨T0.in_Question,Z.kit_self⟩
  ·cases h
end
structure DD (K:PySem.W.Frag) (mg:Str→Option Value) (Ca Cb Cc Cd:Addr):Prop where
 d_Lnumber:Df K mg "_law_number" gH ["_law_script","_law_k"]
 d_Lnames:Df K mg "_law_names" iP ["_law_number_here","_law_many"]
 d_are_signs:Df K mg "are_signs" eF ["text","signs"]
 d_is_name:Df K mg "is_name" gF ["thing"]
 d_own_names:Df K mg "own_names" eE ["names"]
 d_own_friends:Df K mg "own_friends" cQ ["friends","lefts","rights"]
 d_Pairs_init:Dk K mg "Pairs" Cd "Pairs.__init__" dC ["self","lefts","rights","friends"]
 d_Rest_init:Dk K mg "Rest" Ca "Rest.__init__" eI ["self","many"]
 d_Rest_put_arc:Dmd K Ca "put_arc" "Rest.put_arc" aA ["self","tail","head","room","back"] [.int 0]
 d_Rest_lets:Dm K Ca "lets" "Rest.lets" eH ["self","half","is_endless"]
 d_Rest_walked:Dm K Ca "walked" "Rest.walked" cS ["self","source","is_endless"]
 d_Rest_way_to:Dm K Ca "way_to" "Rest.way_to" cR ["self","came","target"]
 d_Rest_change:Dm K Ca "change" "Rest.change" cT ["self","half","amount"]
 d_Rest_lift:Dm K Ca "lift" "Rest.lift" eG ["self","source","target"]
 d_Rest_back_of:Dm K Ca "back_of" "Rest.back_of" cy ["self","arc"]
 d_Rest_reached:Dm K Ca "reached" "Rest.reached" cx ["self","source"]
 d_Paired_init:Dk K mg "Paired" Cb "Paired.__init__" cU ["self","pairs","cover"]
 d_Pairs_answer:DmL K Cd "answer" "Pairs.answer" cz ["self"] 225
 d_Lpaired:Df K mg "_law_paired" gG ["_law_found","_law_lefts","_law_rights","_law_friends"]
 d_Lasked:Df K mg "_law_asked" iQ ["_law_lefts","_law_rights","_law_friends"]
 d_Question_answer:Dm K Cc "answer" "Question.answer" bw ["self"]
section
variable {P:Program} {w:World} {K:PySem.W.Frag} {mg:Str→Option Value} {base:Heap}
theorem calY {x:Str} {st:Stmt} {N ps:List Str} {k n:Nat} {fz:SD→R Fl} (D:M.Df K mg x st ps) (S:FnScope N ps (L2.defScope st))
  (hb:∀{f:Addr} {cdv:Value} {A:Around} {outer:List Env} {s:Shared} {H:Hp} {E:XK},Room k (A.deeper (envOfC x (L2.defScope st) s.heap.objs.size f cdv))→(A.deeper (envOfC x (L2.defScope st) s.heap.objs.size f cdv)).units+1<cLine→Takes (cxOf (L2.CX P w) P w K mg base N x (L2.defScope st) f cdv A outer s H E) (fun cls d _ H=>E cls d H)→
   ∃t,PSs (cxOf (L2.CX P w) P w K mg base N x (L2.defScope st) f cdv A outer s H E) (L2.defBody st) t∧RS ⟨K,mg⟩ (fun cls d _ H=>E cls d H) t fz) (hn:ps.length≤N.length:=by decide) (hn2:n=ps.length:=by rfl):CalZ P w K mg base (k+1) x n (zFn N.length fz) []:=
 calZ_of D S hn hn2 fun f cdv A outer s H E hr=>hb hr (hu_of hr) (takes_of (X:=cxOf (L2.CX P w) P w K mg base N x (L2.defScope st) f cdv A outer s H E) rfl rfl rfl rfl)
theorem metY {C:Addr} {m q:Str} {st:Stmt} {N ps:List Str} {k n:Nat} {fz:SD→R Fl} (D:M.Dm K C m q st ps) (S:FnScope N ps (L2.defScope st))
  (hb:∀{f:Addr} {cdv:Value} {A:Around} {outer:List Env} {s:Shared} {H:Hp} {E:XK},Room k (A.deeper (envOfC q (L2.defScope st) s.heap.objs.size f cdv))→(A.deeper (envOfC q (L2.defScope st) s.heap.objs.size f cdv)).units+1<cLine→Takes (cxOf (L2.CX P w) P w K mg base N q (L2.defScope st) f cdv A outer s H E) (fun cls d _ H=>E cls d H)→
   ∃t,PSs (cxOf (L2.CX P w) P w K mg base N q (L2.defScope st) f cdv A outer s H E) (L2.defBody st) t∧RS ⟨K,mg⟩ (fun cls d _ H=>E cls d H) t fz) (hn:ps.length≤N.length:=by decide) (hn2:n=ps.length:=by rfl):MetZ P w K mg base (k+1) C m n (zFn N.length fz) []:=
 metZ_of D S hn hn2 fun f cdv A outer s H E hr=>hb hr (hu_of hr) (takes_of (X:=cxOf (L2.CX P w) P w K mg base N q (L2.defScope st) f cdv A outer s H E) rfl rfl rfl rfl)
theorem makY {x q:Str} {C:Addr} {st:Stmt} {N ps:List Str} {k n:Nat} {fz:SD→R Fl} (D:M.Dk K mg x C q st ps) (S:FnScope N ps (L2.defScope st))
  (hb:∀{f:Addr} {cdv:Value} {A:Around} {outer:List Env} {s:Shared} {H:Hp} {E:XK},Room k (A.deeper (envOfC q (L2.defScope st) s.heap.objs.size f cdv))→(A.deeper (envOfC q (L2.defScope st) s.heap.objs.size f cdv)).units+1<cLine→Takes (cxOf (L2.CX P w) P w K mg base N q (L2.defScope st) f cdv A outer s H E) (fun cls d _ H=>E cls d H)→
   ∃t,PSs (cxOf (L2.CX P w) P w K mg base N q (L2.defScope st) f cdv A outer s H E) (L2.defBody st) t∧RS ⟨K,mg⟩ (fun cls d _ H=>E cls d H) t fz) (hn:ps.length≤N.length:=by decide) (hn2:n=ps.length:=by rfl):MakZ P w K mg base (k+1) x C n (zFn N.length fz) []:=
 makZ_of D S hn hn2 fun f cdv A outer s H E hr=>hb hr (hu_of hr) (takes_of (X:=cxOf (L2.CX P w) P w K mg base N q (L2.defScope st) f cdv A outer s H E) rfl rfl rfl rfl)
theorem metdY {C:Addr} {m q:Str} {st:Stmt} {N ps:List Str} {dvs:List V} {k n:Nat} {fz:SD→R Fl} (D:M.Dmd K C m q st ps dvs) (S:FnScope N ps (L2.defScope st))
  (hb:∀{f:Addr} {cdv:Value} {A:Around} {outer:List Env} {s:Shared} {H:Hp} {E:XK},Room k (A.deeper (envOfC q (L2.defScope st) s.heap.objs.size f cdv))→(A.deeper (envOfC q (L2.defScope st) s.heap.objs.size f cdv)).units+1<cLine→Takes (cxOf (L2.CX P w) P w K mg base N q (L2.defScope st) f cdv A outer s H E) (fun cls d _ H=>E cls d H)→
   ∃t,PSs (cxOf (L2.CX P w) P w K mg base N q (L2.defScope st) f cdv A outer s H E) (L2.defBody st) t∧RS ⟨K,mg⟩ (fun cls d _ H=>E cls d H) t fz) (hn:ps.length≤N.length:=by decide) (hn2:n=ps.length:=by rfl):∀(j:Nat) (hj:j≤dvs.length),MetZ P w K mg base (k+1) C m n (zFn N.length fz) (dvs.drop j):=
 uC D S hn hn2 fun f cdv A outer s H E hr=>hb hr (hu_of hr) (takes_of (X:=cxOf (L2.CX P w) P w K mg base N q (L2.defScope st) f cdv A outer s H E) rfl rfl rfl rfl)
end
structure TabsB (base:Heap) (mg:Str→Option Value):Prop where
 t_Pairs_answer:LamX.TabB base mg 225 223
section
variable {P:Program} {w:World} {base:Heap} {K:PySem.W.Frag} {mg:Str→Option Value} {Ca Cb Cc Cd:Addr}
variable (T:Txt K mg Ca Cb Cc Cd) (D:DD K mg Ca Cb Cc Cd) (TB:TabsB base mg)
include T D TB
noncomputable def dQ:SD→R Fl:=
 (ai (aB (zC (.int 1)) (zSt 2))
 (ai (bJ (zB (z2 oGt (z1 bf (aa 0)) (zC (.int 0)))) (aB (z2 oIx (aa 0) (z2 dq (aa 1) (z1 bf (aa 0)))) (zSt 2)) aC)
 (ai (aB (z2 bU (aa 1) (zC (.int 3))) (zSt 3))
 (bc (z2 dq (z2 iX (z2 dq (z2 bU (z2 iX (z2 dq (aa 2) (zC (.int 2147483629))) (zC (.int 48271))) (z2 iX (z2 iX (aa 3) (aa 3)) (zC (.int 69621)))) (zC (.int 2147483647))) (zC (.int 16807))) (zC (.int 2147483629)))))))
noncomputable def bh:FnV:=zFn N_Lnumber.length dQ
theorem hY:CalZ P w K mg base 1 "_law_number" 2 bh []:=
 calY D.d_Lnumber dV fun hr hu tk=>⟨_,(pss_cons (stY 2 dV pe_int)
 (pss_cons (ps_if (ctY op_gt (bnY (aI (K:=K)) T.z_len (pa_cons (pv 0) pa_nil)) pe_int) (pss_one (stY 2 dV (ixY K hr (pv 0) (pe_op op_mod (pv 1) (bnY (aI (K:=K)) T.z_len (pa_cons (pv 0) pa_nil)))))) pss_nil)
 (pss_cons (stY 3 dV (pe_op (aQ (K:=K)) (pv 1) pe_int))
 (pss_one (ps_ret (pe_op op_mod (pe_op cW (pe_op op_mod (pe_op (aQ (K:=K)) (pe_op cW (pe_op op_mod (pv 2) pe_int) pe_int) (pe_op cW (pe_op cW (pv 3) (pv 3)) pe_int)) pe_int) pe_int) pe_int)))))),(RS.seq (aad aab RG.name)
 (RS.seq (aae (RT.val (aac q_gt (RE.c1 bZ aaa) aab)) (aad (aac dX aaa (aac dD aaa (RE.c1 bZ aaa))) RG.name) RS.next)
 (RS.seq (aad (aac cV aaa aab) RG.name)
 (RS.ret (aac dD (aac iU (aac dD (aac cV (aac iU (aac dD aaa aab) aab) (aac iU (aac iU aaa aaa) aab)) aab) aab) aab)))))⟩
noncomputable def fE:SD→R Fl:=
 (ai (aB (zC (.str "abcdefghijklmnopqrstuvwxyz")) (zSt 2))
 (ai (aB (z2 bU (zC (.int 3)) (z2 dq (aa 0) (zC (.int 5)))) (zSt 3))
 (ai (aB (zM1s kb (zC (.str "")) (zLc (jB (zA (zC (.int 12)) zA0)) (zSt 8) fH (z2 oIx (aa 2) (z2 dq (z2 bU (z2 eR (aa 0) (zC (.int 7))) (z2 iX (aa 3) (aa 8))) (zC (.int 26)))) [8])) (zSt 4))
 (ai (bJ (zB (z2 oEq (z2 dq (z2 eR (aa 0) (zC (.int 9))) (zC (.int 3))) (zC (.int 1)))) (bc (zLc (jB (zA (aa 1) zA0)) (zSt 9) fH (zSl (aa 4) zNo (zPt (z2 bU (aa 9) (zC (.int 1))))) [9])) aC)
 (ai (aB (zSl (aa 4) zNo (zPt (z2 dq (aa 0) (zC (.int 8))))) (zSt 5))
 (ai (aB (z2 dq (z2 eR (aa 0) (zC (.int 200))) (z2 bU (z1 bf (aa 5)) (zC (.int 1)))) (zSt 6))
 (ai (aB (zLc (jB (zA (aa 1) zA0)) (zSt 9) fH (z2 oIx (aa 2) (z2 dq (z2 bU (z2 eR (aa 0) (zC (.int 2000))) (z2 iX (zC (.int 5)) (aa 9))) (zC (.int 26)))) [9]) (zSt 7))
 (bc (zLc (eS (aL (aa 7))) (zSt 10) fH (z2 bU (z2 bU (zSl (aa 5) zNo (zPt (aa 6))) (aa 10)) (zSl (aa 5) (zPt (aa 6)) zNo)) [10])))))))))
noncomputable def cP:FnV:=zFn N_Lnames.length fE
theorem oy:CalZ P w K mg base 1 "_law_names" 2 cP []:=
 calY D.d_Lnames aJ fun hr hu tk=>⟨_,(pss_cons (stY 2 aJ pe_str)
 (pss_cons (stY 3 aJ (pe_op (aQ (K:=K)) pe_int (pe_op op_mod (pv 0) pe_int)))
 (pss_cons (stY 4 aJ (pe_join pe_str (lcY [("_law_j",8)] aJ (pi_range1 rfl T.z_range (pa_cons pe_int pa_nil)) (gnY 8 aJ) pts_nil (ixY K hr (pv 2) (pe_op op_mod (pe_op (aQ (K:=K)) (pe_op op_fdivW (pv 0) pe_int) (pe_op cW (pv 3) (pv 8))) pe_int)))))
 (pss_cons (ps_if (ctY (eqY K hr) (pe_op op_mod (pe_op op_fdivW (pv 0) pe_int) pe_int) pe_int) (pss_one (ps_ret (lcY [("_law_k",9)] aJ (pi_range1 rfl T.z_range (pa_cons (pv 1) pa_nil)) (gnY 9 aJ) pts_nil (pe_slice (sl_Z (K:=K)) (pv 4) po_none (po_some (pe_op (aQ (K:=K)) (pv 9) pe_int)))))) pss_nil)
 (pss_cons (stY 5 aJ (pe_slice (sl_Z (K:=K)) (pv 4) po_none (po_some (pe_op op_mod (pv 0) pe_int))))
 (pss_cons (stY 6 aJ (pe_op op_mod (pe_op op_fdivW (pv 0) pe_int) (pe_op (aQ (K:=K)) (bnY (aI (K:=K)) T.z_len (pa_cons (pv 5) pa_nil)) pe_int)))
 (pss_cons (slY 7 [("_law_k",9)] aJ (pi_range1 rfl T.z_range (pa_cons (pv 1) pa_nil)) (gnY 9 aJ) pts_nil (ixY K hr (pv 2) (pe_op op_mod (pe_op (aQ (K:=K)) (pe_op op_fdivW (pv 0) pe_int) (pe_op cW pe_int (pv 9))) pe_int)))
 (pss_one (ps_ret (lcY [("_law_sign",10)] aJ (pi_list (pv 7)) (gnY 10 aJ) pts_nil (pe_op (aQ (K:=K)) (pe_op (aQ (K:=K)) (pe_slice (sl_Z (K:=K)) (pv 5) po_none (po_some (pv 6))) (pv 10)) (pe_slice (sl_Z (K:=K)) (pv 5) (po_some (pv 6)) po_none)))))))))))),(RS.seq (aad aal RG.name)
 (RS.seq (aad (aac cV aab (aac dD aaa aab)) RG.name)
 (RS.seq (aad (RE.join aal (aaj (is:= [8]) (aak (RA.cons aab RA.nil)) RG.name aai (aac dX aaa (aac dD (aac cV (aac gJ aaa aab) (aac iU aaa aaa)) aab)))) RG.name)
 (RS.seq (aae (RT.val (aac q_eq (aac dD (aac gJ aaa aab) aab) aab)) (RS.ret (aaj (is:= [9]) (aak (RA.cons aaa RA.nil)) RG.name aai (RE.sl aaa RO.no (RO.part (aac cV aaa aab))))) RS.next)
 (RS.seq (aad (RE.sl aaa RO.no (RO.part (aac dD aaa aab))) RG.name)
 (RS.seq (aad (aac dD (aac gJ aaa aab) (aac cV (RE.c1 bZ aaa) aab)) RG.name)
 (RS.seq (aad (aaj (is:= [9]) (aak (RA.cons aaa RA.nil)) RG.name aai (aac dX aaa (aac dD (aac cV (aac gJ aaa aab) (aac iU aab aaa)) aab))) RG.name)
 (RS.ret (aaj (is:= [10]) (RI.lst (RE.fix aaa)) RG.name aai (aac cV (aac cV (RE.sl aaa RO.no (RO.part aaa)) aaa) (RE.sl aaa (RO.part aaa) RO.no)))))))))))⟩
noncomputable def eO:SD→R Fl:=
 (bc (z1 oAll (zLc (zItS (aL (aa 0))) (zSt 2) fH (z2 (oIn false) (aa 2) (aa 1)) [2])))
noncomputable def eC:FnV:=zFn N_are_signs.length eO
theorem lN:CalZ P w K mg base 1 "are_signs" 2 eC []:=
 calY D.d_are_signs dA fun hr hu tk=>⟨_,(pss_one (ps_ret (bnY (cr_all rfl) T.z_all (pa_cons (lcY [("sign",2)] dA (pi_str (pv 0)) (gnY 2 dA) pts_nil (cmY (inY K hr) (pv 2) (pv 1))) pa_nil)))),(RS.ret (RE.c1 q_all (aaj (is:= [2]) (RI.str (RE.fix aaa)) RG.name aai (aac (q_in (neg:=false)) aaa aaa))))⟩
noncomputable def hZ:SD→R Fl:=
 (bc (jD (z1 (gk .str) (aa 0)) (jD (lT oLe oLe (zC (.int 1)) (z1 bf (aa 0)) (zC (.int 12))) (bg eC [] (zA (aa 0) (zA (zC (.str "abcdefghijklmnopqrstuvwxyz")) zA0))))))
noncomputable def eT:FnV:=zFn N_is_name.length hZ
theorem tH:CalZ P w K mg base 2 "is_name" 1 eT []:=
 calY D.d_is_name oR fun hr hu tk=>⟨_,(pss_one (ps_ret (pe_and (bnY (gN (K:=K)) T.z_isinstance (pa_cons (pv 0) (pa_cons (btY "str" T.z_str) pa_nil))) (pe_and (pe_chain op_le op_le pe_int (bnY (aI (K:=K)) T.z_len (pa_cons (pv 0) pa_nil)) (pe_gc rfl T.g_MOST_LETTERS)) (pe_one (clY (lN T D TB) hr tk (pa_cons (pv 0) (pa_cons (pe_gc rfl T.g_LETTERS) pa_nil)))))))),(RS.ret (RE.andV (RE.isi (t:= .str) aaa) (RE.andV (RE.chain q_le q_le aab (RE.c1 bZ aaa) aab) (RE.call .nil (RA.cons aaa (RA.cons aal RA.nil)) (.cons (.cons Many.nil)) rfl))))⟩
noncomputable def eN:SD→R Fl:=
 (ai (bJ (zOr (dt (zB (z1 (gk .list) (aa 0)))) (zB (z2 oGt (z1 bf (aa 0)) (zC (.int 7))))) gv aC)
 (ai (cK (fK (aL (aa 0))) (fT [1,2]) (bJ (zOr (dt (zB (bg eT [] (zA (aa 2) zA0)))) (zB (z2 (oIn false) (aa 2) (zSl (aa 0) zNo (zPt (aa 1)))))) gv aC))
 (bc (z1 aZ (aa 0)))))
noncomputable def cL:FnV:=zFn N_own_names.length eN
theorem hX:CalZ P w K mg base 3 "own_names" 1 cL []:=
 calY D.d_own_names dz fun hr hu tk=>⟨_,(pss_cons (ps_if (PW.pt (pw_or (pt_not (pt_val (bnY (gN (K:=K)) T.z_isinstance (pa_cons (pv 0) (pa_cons (btY "list" T.z_list) pa_nil))))) (pw_or1 (ctY op_gt (bnY (aI (K:=K)) T.z_len (pa_cons (pv 0) pa_nil)) (pe_gc rfl T.g_MOST_NAMES))))) (pss_one ps_never) pss_nil)
 (pss_cons (ps_for (passes_of rfl) rfl (pi_enum rfl T.z_enumerate (pa_cons (pv 0) pa_nil)) (eB (K:=K) (n:=2) rfl (pgs_cons (gnY 1 dz) (pgs_cons (gnY 2 dz) pgs_nil))) (pss_one (ps_if (PW.pt (pw_or (pt_not (pt_val (clY (tH T D TB) hr tk (pa_cons (pv 2) pa_nil)))) (pw_or1 (ctY (inY K hr) (pv 2) (pe_slice (sl_Z (K:=K)) (pv 0) po_none (po_some (pv 1))))))) (pss_one ps_never) pss_nil)))
 (pss_one (ps_ret (tyY (bC (K:=K) rfl) T.z_list (pa_cons (pv 0) pa_nil)))))),(RS.seq (aae (RT.or (aag (RT.val (RE.isi (t:= .list) aaa))) (RT.val (aac q_gt (RE.c1 bZ aaa) aab))) RS.never RS.next)
 (RS.seq (RS.for' (RI.enum (RE.fix aaa)) (RG.names (is:= [1,2]) rfl) (aae (RT.or (aag (RT.val (RE.call .nil (RA.cons aaa RA.nil) (.cons Many.nil) rfl))) (RT.val (aac (q_in (neg:=false)) aaa (RE.sl aaa RO.no (RO.part aaa))))) RS.never RS.next))
 (RS.ret (RE.c1 eA aaa))))⟩
noncomputable def de:SD→R Fl:=
 (ai (bJ (dt (zB (z1 (gk .list) (aa 0)))) gv aC)
 (ai (cK (fK (aL (aa 0))) (fT [3,4]) (ai (bJ (zOr (dt (zB (z1 (gk .tuple) (aa 4)))) (zOr (zB (z2 oNe (z1 bf (aa 4)) (zC (.int 2)))) (zB (z2 (iY false) (aa 4) (zSl (aa 0) zNo (zPt (aa 3))))))) gv aC)
 (bJ (zOr (zB (z2 (oIn true) (z2 oIx (aa 4) (zC (.int 0))) (aa 1))) (zB (z2 (oIn true) (z2 oIx (aa 4) (zC (.int 1))) (aa 2)))) gv aC)))
 (bc (z1 aZ (aa 0)))))
noncomputable def cM:FnV:=zFn N_own_friends.length de
theorem jw:CalZ P w K mg base 1 "own_friends" 3 cM []:=
 calY D.d_own_friends cu fun hr hu tk=>⟨_,(pss_cons (ps_if (pt_not (pt_val (bnY (gN (K:=K)) T.z_isinstance (pa_cons (pv 0) (pa_cons (btY "list" T.z_list) pa_nil))))) (pss_one ps_never) pss_nil)
 (pss_cons (ps_for (passes_of rfl) rfl (pi_enum rfl T.z_enumerate (pa_cons (pv 0) pa_nil)) (eB (K:=K) (n:=2) rfl (pgs_cons (gnY 3 cu) (pgs_cons (gnY 4 cu) pgs_nil))) (pss_cons (ps_if (PW.pt (pw_or (pt_not (pt_val (bnY (gN (K:=K)) T.z_isinstance (pa_cons (pv 4) (pa_cons (btY "tuple" T.z_tuple) pa_nil))))) (pw_or (ctY (neY K hr) (bnY (aI (K:=K)) T.z_len (pa_cons (pv 4) pa_nil)) pe_int) (pw_or1 (ctY (qR K hr) (pv 4) (pe_slice (sl_Z (K:=K)) (pv 0) po_none (po_some (pv 3)))))))) (pss_one ps_never) pss_nil)
 (pss_one (ps_if (PW.pt (pw_or (ctY (niY K hr) (ixY K hr (pv 4) pe_int) (pv 1)) (pw_or1 (ctY (niY K hr) (ixY K hr (pv 4) pe_int) (pv 2))))) (pss_one ps_never) pss_nil))))
 (pss_one (ps_ret (tyY (bC (K:=K) rfl) T.z_list (pa_cons (pv 0) pa_nil)))))),(RS.seq (aae (aag (RT.val (RE.isi (t:= .list) aaa))) RS.never RS.next)
 (RS.seq (RS.for' (RI.enum (RE.fix aaa)) (RG.names (is:= [3,4]) rfl) (RS.seq (aae (RT.or (aag (RT.val (RE.isi (t:= .tuple) aaa))) (RT.or (RT.val (aac q_ne (RE.c1 bZ aaa) aab)) (RT.val (aac (jV (neg:=false)) aaa (RE.sl aaa RO.no (RO.part aaa)))))) RS.never RS.next)
 (aae (RT.or (RT.val (aac (q_in (neg:=true)) (aac dX aaa aab) aaa)) (RT.val (aac (q_in (neg:=true)) (aac dX aaa aab) aaa))) RS.never RS.next)))
 (RS.ret (RE.c1 eA aaa))))⟩
noncomputable def dP:SD→R Fl:=
 (ai (cF ["Pairs"] "lefts" (aa 0) (bg cL [] (zA (aa 1) zA0)))
 (ai (cF ["Pairs"] "rights" (aa 0) (bg cL [] (zA (aa 2) zA0)))
 (cF ["Pairs"] "friends" (aa 0) (bg cM [] (zA (aa 3) (zA (z1 (au ["Pairs"] "lefts") (aa 0)) (zA (z1 (au ["Pairs"] "rights") (aa 0)) zA0)))))))
noncomputable def aw:FnV:=zFn N_Pairs_init.length dP
theorem fY:MakZ P w K mg base 4 "Pairs" Cd 4 aw []:=
 makY D.d_Pairs_init iO fun hr hu tk=>⟨_,(pss_cons (ps_fld (pv 0) (clY (hX T D TB) hr tk (pa_cons (pv 1) pa_nil)) rfl)
 (pss_cons (ps_fld (pv 0) (clY (hX T D TB) hr tk (pa_cons (pv 2) pa_nil)) rfl)
 (pss_one (ps_fld (pv 0) (clY (jw T D TB) hr tk (pa_cons (pv 3) (pa_cons (fdY K (pv 0)) (pa_cons (fdY K (pv 0)) pa_nil)))) rfl)))),(RS.seq (RS.fld T.f_lefts_Pairs (RE.call .nil (RA.cons aaa RA.nil) (.cons Many.nil) rfl) aaa)
 (RS.seq (RS.fld T.f_rights_Pairs (RE.call .nil (RA.cons aaa RA.nil) (.cons Many.nil) rfl) aaa)
 (RS.fld T.f_friends_Pairs (RE.call .nil (RA.cons aaa (RA.cons (RE.fld T.f_lefts_Pairs aaa) (RA.cons (RE.fld T.f_rights_Pairs aaa) RA.nil))) (.cons (.cons (.cons Many.nil))) rfl) aaa)))⟩
noncomputable def di:SD→R Fl:=
 (ai (cF ["Rest"] "many" (aa 0) (aa 1))
 (ai (cF ["Rest"] "heads" (aa 0) (aN (cG zA0)))
 (ai (cF ["Rest"] "rooms" (aa 0) (aN (cG zA0)))
 (cF ["Rest"] "starts" (aa 0) (aN (zLc (jB (zA (aa 1) zA0)) (zSt 2) fH (aN (cG zA0)) [2]))))))
noncomputable def ba:FnV:=zFn N_Rest_init.length di
theorem lQ:MakZ P w K mg base 1 "Rest" Ca 2 ba []:=
 makY D.d_Rest_init dB fun hr hu tk=>⟨_,(pss_cons (ps_fld (pv 0) (pv 1) rfl)
 (pss_cons (ps_fld (pv 0) (pe_lst pa_nil) rfl)
 (pss_cons (ps_fld (pv 0) (pe_lst pa_nil) rfl)
 (pss_one (ps_fld (pv 0) (lcY [("point",2)] dB (pi_range1 rfl T.z_range (pa_cons (pv 1) pa_nil)) (gnY 2 dB) pts_nil (pe_lst pa_nil)) rfl))))),(RS.seq (RS.fld T.f_many_Rest aaa aaa)
 (RS.seq (RS.fld T.f_heads_Rest (RE.cell (RE.lst RA.nil Many.nil (by decide))) aaa)
 (RS.seq (RS.fld T.f_rooms_Rest (RE.cell (RE.lst RA.nil Many.nil (by decide))) aaa)
 (RS.fld T.f_starts_Rest (RE.cell (aaj (is:= [2]) (aak (RA.cons aaa RA.nil)) RG.name aai (RE.cell (RE.lst RA.nil Many.nil (by decide))))) aaa))))⟩
noncomputable def cD:SD→R Fl:=
 (ai (cK (oM (aL (bY (zA (bY (zA (aa 1) (zA (aa 2) (zA (aa 3) zA0)))) (zA (bY (zA (aa 2) (zA (aa 1) (zA (aa 4) zA0)))) zA0))))) (fT [5,6,7]) (ai (aD (zM2 isL (oB2 aM) (z2 oIx (z1 (au ["Rest"] "starts") (aa 0)) (aa 5)) (aL (z1 bf (z1 (au ["Rest"] "heads") (aa 0))))))
 (ai (aD (zM2 isL (oB2 aM) (z1 (au ["Rest"] "heads") (aa 0)) (aL (aa 6))))
 (aD (zM2 isL (oB2 aM) (z1 (au ["Rest"] "rooms") (aa 0)) (aL (aa 7)))))))
 (bc (z2 uu (z2 eR (z1 bf (z1 (au ["Rest"] "heads") (aa 0))) (zC (.int 2))) (zC (.int 1)))))
noncomputable def ak:FnV:=zFn N_Rest_put_arc.length cD
theorem cA:∀(j:Nat) (hj:j≤([.int 0]:List V).length),MetZ P w K mg base 1 Ca "put_arc" 5 ak (([.int 0]:List V).drop j):=
 metdY D.d_Rest_put_arc bo fun hr hu tk=>⟨_,(pss_cons (ps_for (passes_of rfl) rfl (pi_tup (pe_tup (pa_cons (pe_tup (pa_cons (pv 1) (pa_cons (pv 2) (pa_cons (pv 3) pa_nil)))) (pa_cons (pe_tup (pa_cons (pv 2) (pa_cons (pv 1) (pa_cons (pv 4) pa_nil)))) pa_nil)))) (eB (K:=K) (n:=3) rfl (pgs_cons (gnY 5 bo) (pgs_cons (gnY 6 bo) (pgs_cons (gnY 7 bo) pgs_nil)))) (pss_cons (ps_expr (pe_bm PySem.F.plainAttrs_list PySem.F.slot_list_append PySem.F.type_list_append mt_append (ixY K hr (fdY K (pv 0)) (pv 5)) (pa_cons (bnY (aI (K:=K)) T.z_len (pa_cons (fdY K (pv 0)) pa_nil)) pa_nil)))
 (pss_cons (ps_expr (pe_bm PySem.F.plainAttrs_list PySem.F.slot_list_append PySem.F.type_list_append mt_append (fdY K (pv 0)) (pa_cons (pv 6) pa_nil)))
 (pss_one (ps_expr (pe_bm PySem.F.plainAttrs_list PySem.F.slot_list_append PySem.F.type_list_append mt_append (fdY K (pv 0)) (pa_cons (pv 7) pa_nil)))))))
 (pss_one (ps_ret (pe_op op_sub (pe_op op_fdivW (bnY (aI (K:=K)) T.z_len (pa_cons (fdY K (pv 0)) pa_nil)) pe_int) pe_int)))),(RS.seq (RS.for' (RI.tup (RE.fix (RE.tup (RA.cons (RE.tup (RA.cons aaa (RA.cons aaa (RA.cons aaa RA.nil))) (.cons (.cons (.cons Many.nil))) (by decide)) (RA.cons (RE.tup (RA.cons aaa (RA.cons aaa (RA.cons aaa RA.nil))) (.cons (.cons (.cons Many.nil))) (by decide)) RA.nil)) (.cons (.cons Many.nil)) (by decide)))) (RG.names (is:= [5,6,7]) rfl) (RS.seq (RS.drop (RE.append (aac dX (RE.fld T.f_starts_Rest aaa) aaa) (RE.c1 bZ (RE.fld T.f_heads_Rest aaa))))
 (RS.seq (RS.drop (RE.append (RE.fld T.f_heads_Rest aaa) aaa))
 (RS.drop (RE.append (RE.fld T.f_rooms_Rest aaa) aaa)))))
 (RS.ret (aac q_sub (aac gJ (RE.c1 bZ (RE.fld T.f_heads_Rest aaa)) aab) aab)))⟩
noncomputable def eP:SD→R Fl:=
 (ai (aB (z2 oIx (z1 (au ["Rest"] "rooms") (aa 0)) (aa 1)) (zSt 3))
 (bc (zOrV (z2 (iy false) (aa 3) (zC .non)) (jD (tT (aa 2)) (z2 oGt (aa 3) (zC (.int 0)))))))
noncomputable def cO:FnV:=zFn N_Rest_lets.length eP
theorem lP:MetZ P w K mg base 1 Ca "lets" 3 cO []:=
 metY D.d_Rest_lets fV fun hr hu tk=>⟨_,(pss_cons (stY 3 fV (ixY K hr (fdY K (pv 0)) (pv 1)))
 (pss_one (ps_ret (pe_or (cmY op_isZ (pv 3) pe_non) (pe_one (pe_and (pe_not (pv 2)) (pe_one (cmY op_gt (pv 3) pe_int)))))))),(RS.seq (aad (aac dX (RE.fld T.f_rooms_Rest aaa) aaa) RG.name)
 (RS.ret (RE.orV (aac (oS (neg:=false)) aaa aah) (RE.andV (RE.notV aaa) (aac q_gt aaa aab)))))⟩
noncomputable def dg:SD→R Fl:=
 (ai (aB (z2 iX (cG (zA (zC .non) zA0)) (z1 (au ["Rest"] "many") (aa 0))) (zSt 3))
 (ai (aB (z2 iX (cG (zA (zC (.bl false)) zA0)) (z1 (au ["Rest"] "many") (aa 0))) (zSt 4))
 (ai (aB (zC (.bl true)) (tS (aa 4) (aa 1)))
 (ai (aB (cG (zA (aa 1) zA0)) (zSt 5))
 (ai (aB (zC (.int 0)) (zSt 6))
 (ai (zWh (zB (z2 oLt (aa 6) (z1 bf (aa 5)))) (ai (cK (eS (aL (z2 oIx (z1 (au ["Rest"] "starts") (aa 0)) (z2 oIx (aa 5) (aa 6))))) (zSt 7) (ai (aB (z2 oIx (z1 (au ["Rest"] "heads") (aa 0)) (aa 7)) (zSt 8))
 (bJ (kP (dt (zB (z2 oIx (aa 4) (aa 8)))) (zB (aG "Rest" "lets" cO [] (aa 0) (zA (aa 7) (zA (aa 2) zA0))))) (ai (aB (zC (.bl true)) (tS (aa 4) (aa 8)))
 (ai (aB (aa 7) (tS (aa 3) (aa 8)))
 (aD (zM2 isL (oB2 aM) (aa 5) (aL (aa 8)))))) aC)))
 (zAug 6 (fun a b=>a+b) (zC (.int 1)))))
 (bc (aa 3))))))))
noncomputable def aP:FnV:=zFn N_Rest_walked.length dg
theorem cZ:MetZ P w K mg base 2 Ca "walked" 3 aP []:=
 metY D.d_Rest_walked sc_Rest_walked fun hr hu tk=>⟨_,(pss_cons (stY 3 sc_Rest_walked (pe_op cW (pe_lst (pa_cons pe_non pa_nil)) (fdY K (pv 0))))
 (pss_cons (stY 4 sc_Rest_walked (pe_op cW (pe_lst (pa_cons pe_bl pa_nil)) (fdY K (pv 0))))
 (pss_cons (ps_asg pe_bl (pg_sub (pv 4) (pv 1) set_list))
 (pss_cons (stY 5 sc_Rest_walked (pe_lst (pa_cons (pv 1) pa_nil)))
 (pss_cons (stY 6 sc_Rest_walked pe_int)
 (pss_cons (ps_while (passes_of rfl) (ctY op_lt (pv 6) (bnY (aI (K:=K)) T.z_len (pa_cons (pv 5) pa_nil))) (pss_cons (ps_for (passes_of rfl) rfl (pi_list (ixY K hr (fdY K (pv 0)) (ixY K hr (pv 5) (pv 6)))) (gnY 7 sc_Rest_walked) (pss_cons (stY 8 sc_Rest_walked (ixY K hr (fdY K (pv 0)) (pv 7)))
 (pss_one (ps_if (PW.pt (pw_and (pt_not (pt_val (ixY K hr (pv 4) (pv 8)))) (pw_and1 (pt_val (fO (lP T D TB) hr (by decide) tk (pv 0) (pa_cons (pv 7) (pa_cons (pv 2) pa_nil))))))) (pss_cons (ps_asg pe_bl (pg_sub (pv 4) (pv 8) set_list))
 (pss_cons (ps_asg (pv 7) (pg_sub (pv 3) (pv 8) set_list))
 (pss_one (ps_expr (pe_bm PySem.F.plainAttrs_list PySem.F.slot_list_append PySem.F.type_list_append mt_append (pv 5) (pa_cons (pv 8) pa_nil)))))) pss_nil))))
 (pss_one (ps_aug (i:=6) sc_Rest_walked.nd rfl (Or.inl rfl) pe_int ip_add))))
 (pss_one (ps_ret (pv 3))))))))),(RS.seq (aad (aac iU (RE.lst (RA.cons aah RA.nil) (.cons Many.nil) (by decide)) (RE.fld T.f_many_Rest aaa)) RG.name)
 (RS.seq (aad (aac iU (RE.lst (RA.cons aaf RA.nil) (.cons Many.nil) (by decide)) (RE.fld T.f_many_Rest aaa)) RG.name)
 (RS.seq (aad aaf (RG.sub aaa aaa))
 (RS.seq (aad (RE.lst (RA.cons aaa RA.nil) (.cons Many.nil) (by decide)) RG.name)
 (RS.seq (aad aab RG.name)
 (RS.seq (RS.while' (RT.val (aac q_lt aaa (RE.c1 bZ aaa))) (RS.seq (RS.for' (RI.lst (RE.fix (aac dX (RE.fld T.f_starts_Rest aaa) (aac dX aaa aaa)))) RG.name (RS.seq (aad (aac dX (RE.fld T.f_heads_Rest aaa) aaa) RG.name)
 (aae (RT.and (aag (RT.val (aac dX aaa aaa))) (RT.val (RE.meth T.m_Rest .nil aaa (RA.cons aaa (RA.cons aaa RA.nil)) (.cons (.cons Many.nil)) rfl))) (RS.seq (aad aaf (RG.sub aaa aaa))
 (RS.seq (aad aaa (RG.sub aaa aaa))
 (RS.drop (RE.append aaa aaa)))) RS.next)))
 (aam (f:=(fun a b=>a+b)) aab)))
 (RS.ret aaa)))))))⟩
noncomputable def df:SD→R Fl:=
 (ai (aB (cG zA0) (zSt 3))
 (ai (aB (aa 2) (zSt 4))
 (ai (zWh (zB (z2 (iy true) (z2 oIx (aa 1) (aa 4)) (zC .non))) (ai (aD (zM2 isL (oB2 aM) (aa 3) (aL (z2 oIx (aa 1) (aa 4)))))
 (aB (z2 oIx (z1 (au ["Rest"] "heads") (aa 0)) (z2 oXor (z2 oIx (aa 1) (aa 4)) (zC (.int 1)))) (zSt 4))))
 (ai (aD (z1 (oB1 dZ) (aa 3)))
 (bc (aa 3))))))
noncomputable def aO:FnV:=zFn N_Rest_way_to.length df
theorem fC:MetZ P w K mg base 1 Ca "way_to" 3 aO []:=
 metY D.d_Rest_way_to bA fun hr hu tk=>⟨_,(pss_cons (stY 3 bA (pe_lst pa_nil))
 (pss_cons (stY 4 bA (pv 2))
 (pss_cons (ps_while (passes_of rfl) (ctY dE (ixY K hr (pv 1) (pv 4)) pe_non) (pss_cons (ps_expr (pe_bm PySem.F.plainAttrs_list PySem.F.slot_list_append PySem.F.type_list_append mt_append (pv 3) (pa_cons (ixY K hr (pv 1) (pv 4)) pa_nil)))
 (pss_one (stY 4 bA (ixY K hr (fdY K (pv 0)) (pe_op op_xor (ixY K hr (pv 1) (pv 4)) pe_int))))))
 (pss_cons (ps_expr (pe_bm0 PySem.F.plainAttrs_list PySem.F.slot_list_reverse PySem.F.type_list_reverse mt_reverse (pv 3)))
 (pss_one (ps_ret (pv 3))))))),(RS.seq (aad (RE.lst RA.nil Many.nil (by decide)) RG.name)
 (RS.seq (aad aaa RG.name)
 (RS.seq (RS.while' (RT.val (aac (oS (neg:=true)) (aac dX aaa aaa) aah)) (RS.seq (RS.drop (RE.append aaa (aac dX aaa aaa)))
 (aad (aac dX (RE.fld T.f_heads_Rest aaa) (aac q_xor (aac dX aaa aaa) aab)) RG.name)))
 (RS.seq (RS.drop (RE.reverse aaa))
 (RS.ret aaa)))))⟩
noncomputable def dj:SD→R Fl:=
 (cK (oM (aL (bY (zA (bY (zA (aa 1) (zA (z2 uu (zC (.int 0)) (aa 2)) zA0))) (zA (bY (zA (z2 oXor (aa 1) (zC (.int 1))) (zA (aa 2) zA0))) zA0))))) (fT [3,4]) (bJ (zB (z2 (iy true) (z2 oIx (z1 (au ["Rest"] "rooms") (aa 0)) (aa 3)) (zC .non))) (oN gL dJ (fun a b=>a+b) (z1 (au ["Rest"] "rooms") (aa 0)) (aa 3) (aa 4)) aC))
noncomputable def bP:FnV:=zFn N_Rest_change.length dj
theorem jx:MetZ P w K mg base 1 Ca "change" 3 bP []:=
 metY D.d_Rest_change cw fun hr hu tk=>⟨_,(pss_one (ps_for (passes_of rfl) rfl (pi_tup (pe_tup (pa_cons (pe_tup (pa_cons (pv 1) (pa_cons (pe_op op_sub pe_int (pv 2)) pa_nil))) (pa_cons (pe_tup (pa_cons (pe_op op_xor (pv 1) pe_int) (pa_cons (pv 2) pa_nil))) pa_nil)))) (eB (K:=K) (n:=2) rfl (pgs_cons (gnY 3 cw) (pgs_cons (gnY 4 cw) pgs_nil))) (pss_one (ps_if (ctY dE (ixY K hr (fdY K (pv 0)) (pv 3)) pe_non) (pss_one (ps_augS (fdY K (pv 0)) (pv 3) (su (K:=K)) (pv 4) ip_add set_list)) pss_nil)))),(RS.for' (RI.tup (RE.fix (RE.tup (RA.cons (RE.tup (RA.cons aaa (RA.cons (aac q_sub aab aaa) RA.nil)) (.cons (.cons Many.nil)) (by decide)) (RA.cons (RE.tup (RA.cons (aac q_xor aaa aab) (RA.cons aaa RA.nil)) (.cons (.cons Many.nil)) (by decide)) RA.nil)) (.cons (.cons Many.nil)) (by decide)))) (RG.names (is:= [3,4]) rfl) (aae (RT.val (aac (oS (neg:=true)) (aac dX (RE.fld T.f_rooms_Rest aaa) aaa) aah)) (RS.laug (f:=(fun a b=>a+b)) (RE.fld T.f_rooms_Rest aaa) aaa aaa) RS.next))⟩
noncomputable def dh:SD→R Fl:=
 (ai (aB (zC (.int 0)) (zSt 3))
 (ai (aB (aG "Rest" "way_to" aO [] (aa 0) (zA (aG "Rest" "walked" aP [] (aa 0) (zA (aa 1) (zA (zC (.bl false)) zA0))) (zA (aa 2) zA0))) (zSt 4))
 (ai (zWh (zB (z2 oNe (aa 4) (cG zA0))) (ai (aB (z1 ka (zLc (eS (aL (aa 4))) (zSt 6) (zB (z2 (iy true) (z2 oIx (z1 (au ["Rest"] "rooms") (aa 0)) (aa 6)) (zC .non))) (z2 oIx (z1 (au ["Rest"] "rooms") (aa 0)) (aa 6)) [6])) (zSt 5))
 (ai (cK (eS (aL (aa 4))) (zSt 6) (aD (aG "Rest" "change" bP [] (aa 0) (zA (aa 6) (zA (aa 5) zA0)))))
 (ai (zAug 3 (fun a b=>a+b) (aa 5))
 (aB (aG "Rest" "way_to" aO [] (aa 0) (zA (aG "Rest" "walked" aP [] (aa 0) (zA (aa 1) (zA (zC (.bl false)) zA0))) (zA (aa 2) zA0))) (zSt 4))))))
 (bc (aa 3)))))
noncomputable def bS:FnV:=zFn N_Rest_lift.length dh
theorem lO:MetZ P w K mg base 3 Ca "lift" 3 bS []:=
 metY D.d_Rest_lift sc_Rest_lift fun hr hu tk=>⟨_,(pss_cons (stY 3 sc_Rest_lift pe_int)
 (pss_cons (stY 4 sc_Rest_lift (fO (fC T D TB) hr (by decide) tk (pv 0) (pa_cons (fO (cZ T D TB) hr (by decide) tk (pv 0) (pa_cons (pv 1) (pa_cons pe_bl pa_nil))) (pa_cons (pv 2) pa_nil))))
 (pss_cons (ps_while (passes_of rfl) (ctY (neY K hr) (pv 4) (pe_lst pa_nil)) (pss_cons (stY 5 sc_Rest_lift (bnY (cr_min rfl) T.z_min (pa_cons (lcY [("half",6)] sc_Rest_lift (pi_list (pv 4)) (gnY 6 sc_Rest_lift) (pts_one (ctY dE (ixY K hr (fdY K (pv 0)) (pv 6)) pe_non)) (ixY K hr (fdY K (pv 0)) (pv 6))) pa_nil)))
 (pss_cons (ps_for (passes_of rfl) rfl (pi_list (pv 4)) (gnY 6 sc_Rest_lift) (pss_one (ps_expr (fO (jx T D TB) hr (by decide) tk (pv 0) (pa_cons (pv 6) (pa_cons (pv 5) pa_nil))))))
 (pss_cons (ps_aug (i:=3) sc_Rest_lift.nd rfl (Or.inl rfl) (pv 5) ip_add)
 (pss_one (stY 4 sc_Rest_lift (fO (fC T D TB) hr (by decide) tk (pv 0) (pa_cons (fO (cZ T D TB) hr (by decide) tk (pv 0) (pa_cons (pv 1) (pa_cons pe_bl pa_nil))) (pa_cons (pv 2) pa_nil)))))))))
 (pss_one (ps_ret (pv 3)))))),(RS.seq (aad aab RG.name)
 (RS.seq (aad (RE.meth T.m_Rest .nil aaa (RA.cons (RE.meth T.m_Rest .nil aaa (RA.cons aaa (RA.cons aaf RA.nil)) (.cons (.cons Many.nil)) rfl) (RA.cons aaa RA.nil)) (.cons (.cons Many.nil)) rfl) RG.name)
 (RS.seq (RS.while' (RT.val (aac q_ne aaa (RE.lst RA.nil Many.nil (by decide)))) (RS.seq (aad (RE.c1 q_minL (aaj (is:= [6]) (RI.lst (RE.fix aaa)) RG.name (RT.val (aac (oS (neg:=true)) (aac dX (RE.fld T.f_rooms_Rest aaa) aaa) aah)) (aac dX (RE.fld T.f_rooms_Rest aaa) aaa))) RG.name)
 (RS.seq (RS.for' (RI.lst (RE.fix aaa)) RG.name (RS.drop (RE.meth T.m_Rest .nil aaa (RA.cons aaa (RA.cons aaa RA.nil)) (.cons (.cons Many.nil)) rfl)))
 (RS.seq (aam (f:=(fun a b=>a+b)) aaa)
 (aad (RE.meth T.m_Rest .nil aaa (RA.cons (RE.meth T.m_Rest .nil aaa (RA.cons aaa (RA.cons aaf RA.nil)) (.cons (.cons Many.nil)) rfl) (RA.cons aaa RA.nil)) (.cons (.cons Many.nil)) rfl) RG.name)))))
 (RS.ret aaa))))⟩
noncomputable def cE:SD→R Fl:=
 (bc (z2 oIx (z1 (au ["Rest"] "rooms") (aa 0)) (z2 bU (z2 iX (zC (.int 2)) (aa 1)) (zC (.int 1)))))
noncomputable def aS:FnV:=zFn N_Rest_back_of.length cE
theorem ij:MetZ P w K mg base 1 Ca "back_of" 2 aS []:=
 metY D.d_Rest_back_of gE fun hr hu tk=>⟨_,(pss_one (ps_ret (ixY K hr (fdY K (pv 0)) (pe_op (aQ (K:=K)) (pe_op cW pe_int (pv 1)) pe_int)))),(RS.ret (aac dX (RE.fld T.f_rooms_Rest aaa) (aac cV (aac iU aab aaa) aab)))⟩
noncomputable def cC:SD→R Fl:=
 (ai (aB (aG "Rest" "walked" aP [] (aa 0) (zA (aa 1) (zA (zC (.bl false)) zA0))) (zSt 2))
 (bc (zLc (fK (aL (aa 2))) (fT [3,4]) fH (zOrV (z2 oEq (aa 3) (aa 1)) (z2 (iy true) (aa 4) (zC .non))) [3,4])))
noncomputable def aY:FnV:=zFn N_Rest_reached.length cC
theorem ig:MetZ P w K mg base 3 Ca "reached" 2 aY []:=
 metY D.d_Rest_reached aT fun hr hu tk=>⟨_,(pss_cons (stY 2 aT (fO (cZ T D TB) hr (by decide) tk (pv 0) (pa_cons (pv 1) (pa_cons pe_bl pa_nil))))
 (pss_one (ps_ret (lcY [("point",3),("half",4)] aT (pi_enum rfl T.z_enumerate (pa_cons (pv 2) pa_nil)) (eB (K:=K) (n:=2) rfl (pgs_cons (gnY 3 aT) (pgs_cons (gnY 4 aT) pgs_nil))) pts_nil (pe_or (cmY (eqY K hr) (pv 3) (pv 1)) (pe_one (cmY dE (pv 4) pe_non))))))),(RS.seq (aad (RE.meth T.m_Rest .nil aaa (RA.cons aaa (RA.cons aaf RA.nil)) (.cons (.cons Many.nil)) rfl) RG.name)
 (RS.ret (aaj (is:= [3,4]) (RI.enum (RE.fix aaa)) (RG.names (is:= [3,4]) rfl) aai (RE.orV (aac q_eq aaa aaa) (aac (oS (neg:=true)) aaa aah)))))⟩
noncomputable def dk:SD→R Fl:=
 (ai (cF ["Paired"] "pairs" (aa 0) (aa 1))
 (cF ["Paired"] "cover" (aa 0) (aa 2)))
noncomputable def aW:FnV:=zFn N_Paired_init.length dk
theorem jy:MakZ P w K mg base 1 "Paired" Cb 3 aW []:=
 makY D.d_Paired_init ia fun hr hu tk=>⟨_,(pss_cons (ps_fld (pv 0) (pv 1) rfl)
 (pss_one (ps_fld (pv 0) (pv 2) rfl))),(RS.seq (RS.fld T.f_pairs_Paired aaa aaa)
 (RS.fld T.f_cover_Paired aaa aaa))⟩
noncomputable def bE:SD→R Fl:=
 (ai (aB (z1 bf (z1 (au ["Pairs"] "lefts") (aa 0))) (zSt 1))
 (ai (aB (ef "Rest" ba [] (zA (z2 bU (z2 bU (aa 1) (z1 bf (z1 (au ["Pairs"] "rights") (aa 0)))) (zC (.int 2))) zA0)) (zSt 2))
 (ai (zPar 3 4 (zA (z2 bU (aa 1) (z1 bf (z1 (au ["Pairs"] "rights") (aa 0)))) (zA (z2 bU (z2 bU (aa 1) (z1 bf (z1 (au ["Pairs"] "rights") (aa 0)))) (zC (.int 1))) zA0)))
 (ai (cK (jB (zA (aa 1) zA0)) (zSt 5) (aD (aG "Rest" "put_arc" ak [.int 0] (aa 2) (zA (aa 3) (zA (aa 5) (zA (zC (.int 1)) zA0))))))
 (ai (cK (jB (zA (z1 bf (z1 (au ["Pairs"] "rights") (aa 0))) zA0)) (zSt 5) (aD (aG "Rest" "put_arc" ak [.int 0] (aa 2) (zA (z2 bU (aa 1) (aa 5)) (zA (aa 4) (zA (zC (.int 1)) zA0))))))
 (ai (aB (cG zA0) (zSt 6))
 (ai (cK (eS (aL (z1 (au ["Pairs"] "friends") (aa 0)))) (fT [7,8]) (aD (zM2 isL (oB2 aM) (aa 6) (aL (aG "Rest" "put_arc" ak [.int 0] (aa 2) (zA (zM2 isL br (z1 (au ["Pairs"] "lefts") (aa 0)) (aa 7)) (zA (z2 bU (aa 1) (zM2 isL br (z1 (au ["Pairs"] "rights") (aa 0)) (aa 8))) (zA (zC .non) zA0))))))))
 (ai (aD (aG "Rest" "lift" bS [] (aa 2) (zA (aa 3) (zA (aa 4) zA0))))
 (ai (aB (zLc (zZip (z1 (au ["Pairs"] "friends") (aa 0)) (aa 6)) (fT [12,13]) (zB (z2 oGt (aG "Rest" "back_of" aS [] (aa 2) (zA (aa 13) zA0)) (zC (.int 0)))) (aa 12) [12,13]) (zSt 9))
 (ai (aB (aG "Rest" "reached" aY [] (aa 2) (zA (aa 3) zA0)) (zSt 10))
 (ai (aB (aN (zLc (fK (aL (z1 (au ["Pairs"] "lefts") (aa 0)))) (fT [5,14]) (dt (zB (z2 oIx (aa 10) (aa 5)))) (bY (zA (zC (.int 0)) (zA (aa 14) zA0))) [5,14])) (zSt 11))
 (ai (aD (zM2 isL (oB2 dN) (aa 11) (aL (zLc (fK (aL (z1 (au ["Pairs"] "rights") (aa 0)))) (fT [5,14]) (zB (z2 oIx (aa 10) (z2 bU (aa 1) (aa 5)))) (bY (zA (zC (.int 1)) (zA (aa 14) zA0))) [5,14]))))
 (bc (zFrz (ef "Paired" aW [] (zA (aN (z1 (cj ["Pairs"] "lefts" 0) (aa 9))) (zA (aa 11) zA0)))))))))))))))))
noncomputable def aq:FnV:=zFn N_Pairs_answer.length bE
theorem cB:MetZ P w K mg base 4 Cd "answer" 1 aq []:=
 metL D.d_Pairs_answer sc_Pairs_answer fun hr hu tk=>⟨_,(pss_cons (stY 1 sc_Pairs_answer (bnY (aI (K:=K)) T.z_len (pa_cons (fdY K (pv 0)) pa_nil)))
 (pss_cons (stY 2 sc_Pairs_answer (mkY (lQ T D TB) hr tk (pa_cons (pe_op (aQ (K:=K)) (pe_op (aQ (K:=K)) (pv 1) (bnY (aI (K:=K)) T.z_len (pa_cons (fdY K (pv 0)) pa_nil))) pe_int) pa_nil)))
 (pss_cons (ps_par (i:=3) (j:=4) (by rfl) sc_Pairs_answer.nd rfl rfl (by decide) rfl rfl (pa_cons (pe_op (aQ (K:=K)) (pv 1) (bnY (aI (K:=K)) T.z_len (pa_cons (fdY K (pv 0)) pa_nil))) (pa_cons (pe_op (aQ (K:=K)) (pe_op (aQ (K:=K)) (pv 1) (bnY (aI (K:=K)) T.z_len (pa_cons (fdY K (pv 0)) pa_nil))) pe_int) pa_nil)) (by rfl))
 (pss_cons (ps_for (passes_of rfl) rfl (pi_range1 rfl T.z_range (pa_cons (pv 1) pa_nil)) (gnY 5 sc_Pairs_answer) (pss_one (ps_expr (fO ((cA T D TB) 0 (by decide)) hr (by decide) tk (pv 2) (pa_cons (pv 3) (pa_cons (pv 5) (pa_cons pe_int pa_nil)))))))
 (pss_cons (ps_for (passes_of rfl) rfl (pi_range1 rfl T.z_range (pa_cons (bnY (aI (K:=K)) T.z_len (pa_cons (fdY K (pv 0)) pa_nil)) pa_nil)) (gnY 5 sc_Pairs_answer) (pss_one (ps_expr (fO ((cA T D TB) 0 (by decide)) hr (by decide) tk (pv 2) (pa_cons (pe_op (aQ (K:=K)) (pv 1) (pv 5)) (pa_cons (pv 4) (pa_cons pe_int pa_nil)))))))
 (pss_cons (stY 6 sc_Pairs_answer (pe_lst pa_nil))
 (pss_cons (ps_for (passes_of rfl) rfl (pi_list (fdY K (pv 0))) (eB (K:=K) (n:=2) rfl (pgs_cons (gnY 7 sc_Pairs_answer) (pgs_cons (gnY 8 sc_Pairs_answer) pgs_nil))) (pss_one (ps_expr (pe_bm PySem.F.plainAttrs_list PySem.F.slot_list_append PySem.F.type_list_append mt_append (pv 6) (pa_cons (fO ((cA T D TB) 0 (by decide)) hr (by decide) tk (pv 2) (pa_cons (iZ (K:=K) (fdY K (pv 0)) (pv 7)) (pa_cons (pe_op (aQ (K:=K)) (pv 1) (iZ (K:=K) (fdY K (pv 0)) (pv 8))) (pa_cons pe_non pa_nil)))) pa_nil)))))
 (pss_cons (ps_expr (fO (lO T D TB) hr (by decide) tk (pv 2) (pa_cons (pv 3) (pa_cons (pv 4) pa_nil))))
 (pss_cons (slY 9 [("pair",12),("arc",13)] sc_Pairs_answer (pi_zip rfl T.z_zip (pa_cons (fdY K (pv 0)) (pa_cons (pv 6) pa_nil))) (eB (K:=K) (n:=2) rfl (pgs_cons (gnY 12 sc_Pairs_answer) (pgs_cons (gnY 13 sc_Pairs_answer) pgs_nil))) (pts_one (ctY op_gt (m_mtK (K:=K) (mg:=mg) (ij T D TB) hr (by decide) pZ (pv 2) (pa_cons (pv 13) pa_nil)) pe_int)) (pv 12))
 (pss_cons (stY 10 sc_Pairs_answer (fO (ig T D TB) hr (by decide) tk (pv 2) (pa_cons (pv 3) pa_nil)))
 (pss_cons (slY 11 [("place",5),("name",14)] sc_Pairs_answer (pi_enum rfl T.z_enumerate (pa_cons (fdY K (pv 0)) pa_nil)) (eB (K:=K) (n:=2) rfl (pgs_cons (gnY 5 sc_Pairs_answer) (pgs_cons (gnY 14 sc_Pairs_answer) pgs_nil))) (pts_one (pt_not (pt_val (ixY K hr (pv 10) (pv 5))))) (pe_tup (pa_cons pe_int (pa_cons (pv 14) pa_nil))))
 (pss_cons (ps_expr (pe_bm PySem.F.plainAttrs_list PySem.F.slot_list_extend PySem.F.type_list_extend mt_extend (pv 11) (pa_cons (lcY [("place",5),("name",14)] sc_Pairs_answer (pi_enum rfl T.z_enumerate (pa_cons (fdY K (pv 0)) pa_nil)) (eB (K:=K) (n:=2) rfl (pgs_cons (gnY 5 sc_Pairs_answer) (pgs_cons (gnY 14 sc_Pairs_answer) pgs_nil))) (pts_one (pt_val (ixY K hr (pv 10) (pe_op (aQ (K:=K)) (pv 1) (pv 5))))) (pe_tup (pa_cons pe_int (pa_cons (pv 14) pa_nil)))) pa_nil)))
 (pss_one (ps_ret (mkY (jy T D TB) hr tk (pa_cons (skY (c:=225) (P:=223) (qn:= "Pairs.answer.<locals>.<lambda>") 0 TB.t_Pairs_answer (pv 9) hr T.z_sorted) (pa_cons (pv 11) pa_nil))))))))))))))))),(RS.seq (aad (RE.c1 bZ (RE.fld T.f_lefts_Pairs aaa)) RG.name)
 (RS.seq (aad (RE.make T.m_Rest .nil (RA.cons (aac cV (aac cV aaa (RE.c1 bZ (RE.fld T.f_rights_Pairs aaa))) aab) RA.nil) (.cons Many.nil) rfl) RG.name)
 (RS.seq (RS.par (RA.cons (aac cV aaa (RE.c1 bZ (RE.fld T.f_rights_Pairs aaa))) (RA.cons (aac cV (aac cV aaa (RE.c1 bZ (RE.fld T.f_rights_Pairs aaa))) aab) RA.nil)))
 (RS.seq (RS.for' (aak (RA.cons aaa RA.nil)) RG.name (RS.drop (RE.meth T.m_Rest (.cons rfl .nil) aaa (RA.cons aaa (RA.cons aaa (RA.cons aab RA.nil))) (.cons (.cons (.cons Many.nil))) rfl)))
 (RS.seq (RS.for' (aak (RA.cons (RE.c1 bZ (RE.fld T.f_rights_Pairs aaa)) RA.nil)) RG.name (RS.drop (RE.meth T.m_Rest (.cons rfl .nil) aaa (RA.cons (aac cV aaa aaa) (RA.cons aaa (RA.cons aab RA.nil))) (.cons (.cons (.cons Many.nil))) rfl)))
 (RS.seq (aad (RE.lst RA.nil Many.nil (by decide)) RG.name)
 (RS.seq (RS.for' (RI.lst (RE.fix (RE.fld T.f_friends_Pairs aaa))) (RG.names (is:= [7,8]) rfl) (RS.drop (RE.append aaa (RE.meth T.m_Rest (.cons rfl .nil) aaa (RA.cons (RE.index (RE.fld T.f_lefts_Pairs aaa) aaa) (RA.cons (aac cV aaa (RE.index (RE.fld T.f_rights_Pairs aaa) aaa)) (RA.cons aah RA.nil))) (.cons (.cons (.cons Many.nil))) rfl))))
 (RS.seq (RS.drop (RE.meth T.m_Rest .nil aaa (RA.cons aaa (RA.cons aaa RA.nil)) (.cons (.cons Many.nil)) rfl))
 (RS.seq (aad (aaj (is:= [12,13]) (RI.zip (RE.fld T.f_friends_Pairs aaa) aaa) (RG.names (is:= [12,13]) rfl) (RT.val (aac q_gt (RE.meth T.m_Rest .nil aaa (RA.cons aaa RA.nil) (.cons Many.nil) rfl) aab)) aaa) RG.name)
 (RS.seq (aad (RE.meth T.m_Rest .nil aaa (RA.cons aaa RA.nil) (.cons Many.nil) rfl) RG.name)
 (RS.seq (aad (RE.cell (aaj (is:= [5,14]) (RI.enum (RE.fix (RE.fld T.f_lefts_Pairs aaa))) (RG.names (is:= [5,14]) rfl) (aag (RT.val (aac dX aaa aaa))) (RE.tup (RA.cons aab (RA.cons aaa RA.nil)) (.cons (.cons Many.nil)) (by decide)))) RG.name)
 (RS.seq (RS.drop (RE.extend aaa (aaj (is:= [5,14]) (RI.enum (RE.fix (RE.fld T.f_rights_Pairs aaa))) (RG.names (is:= [5,14]) rfl) (RT.val (aac dX aaa (aac cV aaa aaa))) (RE.tup (RA.cons aab (RA.cons aaa RA.nil)) (.cons (.cons Many.nil)) (by decide)))))
 (RS.ret (RE.frz (RE.make T.m_Paired .nil (RA.cons (RE.cell (RE.sortIdx (P:=223) (qn:= "Pairs.answer.<locals>.<lambda>") T.f_lefts_Pairs (by decide) (by decide) aaa)) (RA.cons aaa RA.nil)) (.cons (.cons Many.nil)) rfl)))))))))))))))⟩
noncomputable def fD:SD→R Fl:=
 (ai (bJ (zOr (dt (zB (z1 (px is_Paired false) (aa 0)))) (zOr (dt (zB (z1 (gk .list) (z1 (au ["Paired"] "pairs") (aa 0))))) (dt (zB (z1 (gk .list) (z1 (au ["Paired"] "cover") (aa 0))))))) (bc (zC (.bl false))) aC)
 (ai (cK (eS (aL (z1 (au ["Paired"] "pairs") (aa 0)))) (zSt 4) (bJ (zOr (dt (zB (z1 (gk .tuple) (aa 4)))) (zB (z2 (iY true) (aa 4) (aa 3)))) (bc (zC (.bl false))) aC))
 (ai (aB (zLc (eS (aL (z1 (au ["Paired"] "pairs") (aa 0)))) (zSt 4) fH (zM2 isL br (aa 1) (z2 oIx (aa 4) (zC (.int 0)))) [4]) (zSt 5))
 (ai (aB (zLc (eS (aL (z1 (au ["Paired"] "pairs") (aa 0)))) (zSt 4) fH (zM2 isL br (aa 2) (z2 oIx (aa 4) (zC (.int 1)))) [4]) (zSt 6))
 (ai (bJ (zOr (zB (z2 oNe (aa 5) (z1 bQ (aa 5)))) (zB (z2 oNe (z1 dF (aa 6)) (z1 bf (aa 6))))) (bc (zC (.bl false))) aC)
 (ai (cK (eS (aL (z1 (au ["Paired"] "cover") (aa 0)))) (zSt 7) (ai (bJ (zOr (dt (zB (z1 (gk .tuple) (aa 7)))) (zOr (zB (z2 oNe (z1 bf (aa 7)) (zC (.int 2)))) (zOr (zB (z1 (gk .bool) (z2 oIx (aa 7) (zC (.int 0))))) (zB (z2 (oIn true) (z2 oIx (aa 7) (zC (.int 0))) (bY (zA (zC (.int 0)) (zA (zC (.int 1)) zA0)))))))) (bc (zC (.bl false))) aC)
 (bJ (zOr (zB (z2 (oIn true) (z2 oIx (aa 7) (zC (.int 1))) (z2 oIx (cG (zA (aa 1) (zA (aa 2) zA0))) (z2 oIx (aa 7) (zC (.int 0)))))) (zB (z2 oGt (zM2 isL dG (z1 (au ["Paired"] "cover") (aa 0)) (aa 7)) (zC (.int 1))))) (bc (zC (.bl false))) aC)))
 (ai (cK (eS (aL (aa 3))) (fT [8,9]) (bJ (kP (zB (z2 (iY true) (bY (zA (zC (.int 0)) (zA (aa 8) zA0))) (z1 (au ["Paired"] "cover") (aa 0)))) (zB (z2 (iY true) (bY (zA (zC (.int 1)) (zA (aa 9) zA0))) (z1 (au ["Paired"] "cover") (aa 0))))) (bc (zC (.bl false))) aC))
 (bc (z2 oEq (z1 bf (z1 (au ["Paired"] "pairs") (aa 0))) (z1 bf (z1 (au ["Paired"] "cover") (aa 0))))))))))))
noncomputable def dw:FnV:=zFn N_Lpaired.length fD
theorem tI:CalZ P w K mg base 1 "_law_paired" 4 dw []:=
 calY D.d_Lpaired aX fun hr hu tk=>⟨_,(pss_cons (ps_if (PW.pt (pw_or (pt_not (pt_val (bnY (gN (K:=K)) T.z_isinstance (pa_cons (pv 0) (pa_cons (glY T.m_Paired) pa_nil))))) (pw_or (pt_not (pt_val (bnY (gN (K:=K)) T.z_isinstance (pa_cons (fdY K (pv 0)) (pa_cons (btY "list" T.z_list) pa_nil))))) (pw_or1 (pt_not (pt_val (bnY (gN (K:=K)) T.z_isinstance (pa_cons (fdY K (pv 0)) (pa_cons (btY "list" T.z_list) pa_nil))))))))) (pss_one (ps_ret pe_bl)) pss_nil)
 (pss_cons (ps_for (passes_of rfl) rfl (pi_list (fdY K (pv 0))) (gnY 4 aX) (pss_one (ps_if (PW.pt (pw_or (pt_not (pt_val (bnY (gN (K:=K)) T.z_isinstance (pa_cons (pv 4) (pa_cons (btY "tuple" T.z_tuple) pa_nil))))) (pw_or1 (ctY (lg K hr) (pv 4) (pv 3))))) (pss_one (ps_ret pe_bl)) pss_nil)))
 (pss_cons (slY 5 [("_law_pair",4)] aX (pi_list (fdY K (pv 0))) (gnY 4 aX) pts_nil (iZ (K:=K) (pv 1) (ixY K hr (pv 4) pe_int)))
 (pss_cons (slY 6 [("_law_pair",4)] aX (pi_list (fdY K (pv 0))) (gnY 4 aX) pts_nil (iZ (K:=K) (pv 2) (ixY K hr (pv 4) pe_int)))
 (pss_cons (ps_if (PW.pt (pw_or (ctY (neY K hr) (pv 5) (M.oU (K:=K) rfl T.z_sorted (by decide+kernel) rfl T.z_set (pv 5))) (pw_or1 (ctY (neY K hr) (M.oX (K:=K) rfl T.z_len rfl T.z_set (pv 6)) (bnY (aI (K:=K)) T.z_len (pa_cons (pv 6) pa_nil)))))) (pss_one (ps_ret pe_bl)) pss_nil)
 (pss_cons (ps_for (passes_of rfl) rfl (pi_list (fdY K (pv 0))) (gnY 7 aX) (pss_cons (ps_if (PW.pt (pw_or (pt_not (pt_val (bnY (gN (K:=K)) T.z_isinstance (pa_cons (pv 7) (pa_cons (btY "tuple" T.z_tuple) pa_nil))))) (pw_or (ctY (neY K hr) (bnY (aI (K:=K)) T.z_len (pa_cons (pv 7) pa_nil)) pe_int) (pw_or (pt_val (bnY (gN (K:=K)) T.z_isinstance (pa_cons (ixY K hr (pv 7) pe_int) (pa_cons (btY "bool" T.z_bool) pa_nil)))) (pw_or1 (ctY (niY K hr) (ixY K hr (pv 7) pe_int) (pe_tup (pa_cons pe_int (pa_cons pe_int pa_nil))))))))) (pss_one (ps_ret pe_bl)) pss_nil)
 (pss_one (ps_if (PW.pt (pw_or (ctY (niY K hr) (ixY K hr (pv 7) pe_int) (ixY K hr (pe_lst (pa_cons (pv 1) (pa_cons (pv 2) pa_nil))) (ixY K hr (pv 7) pe_int))) (pw_or1 (ctY op_gt (pe_bm PySem.F.plainAttrs_list PySem.F.slot_list_count PySem.F.type_list_count (mt_cntD (K:=K) hr.units) (fdY K (pv 0)) (pa_cons (pv 7) pa_nil)) pe_int)))) (pss_one (ps_ret pe_bl)) pss_nil))))
 (pss_cons (ps_for (passes_of rfl) rfl (pi_list (pv 3)) (eB (K:=K) (n:=2) rfl (pgs_cons (gnY 8 aX) (pgs_cons (gnY 9 aX) pgs_nil))) (pss_one (ps_if (PW.pt (pw_and (ctY (lg K hr) (pe_tup (pa_cons pe_int (pa_cons (pv 8) pa_nil))) (fdY K (pv 0))) (pw_and1 (ctY (lg K hr) (pe_tup (pa_cons pe_int (pa_cons (pv 9) pa_nil))) (fdY K (pv 0)))))) (pss_one (ps_ret pe_bl)) pss_nil)))
 (pss_one (ps_ret (cmY (eqY K hr) (bnY (aI (K:=K)) T.z_len (pa_cons (fdY K (pv 0)) pa_nil)) (bnY (aI (K:=K)) T.z_len (pa_cons (fdY K (pv 0)) pa_nil)))))))))))),(RS.seq (aae (RT.or (aag (RT.val (RE.isC T.is_Paired aaa))) (RT.or (aag (RT.val (RE.isi (t:= .list) (RE.fld T.f_pairs_Paired aaa)))) (aag (RT.val (RE.isi (t:= .list) (RE.fld T.f_cover_Paired aaa)))))) (RS.ret aaf) RS.next)
 (RS.seq (RS.for' (RI.lst (RE.fix (RE.fld T.f_pairs_Paired aaa))) RG.name (aae (RT.or (aag (RT.val (RE.isi (t:= .tuple) aaa))) (RT.val (aac (jV (neg:=true)) aaa aaa))) (RS.ret aaf) RS.next))
 (RS.seq (aad (aaj (is:= [4]) (RI.lst (RE.fix (RE.fld T.f_pairs_Paired aaa))) RG.name aai (RE.index aaa (aac dX aaa aab))) RG.name)
 (RS.seq (aad (aaj (is:= [4]) (RI.lst (RE.fix (RE.fld T.f_pairs_Paired aaa))) RG.name aai (RE.index aaa (aac dX aaa aab))) RG.name)
 (RS.seq (aae (RT.or (RT.val (aac q_ne aaa (RE.sortSet aaa))) (RT.val (aac q_ne (RE.lenSet aaa) (RE.c1 bZ aaa)))) (RS.ret aaf) RS.next)
 (RS.seq (RS.for' (RI.lst (RE.fix (RE.fld T.f_cover_Paired aaa))) RG.name (RS.seq (aae (RT.or (aag (RT.val (RE.isi (t:= .tuple) aaa))) (RT.or (RT.val (aac q_ne (RE.c1 bZ aaa) aab)) (RT.or (RT.val (RE.isi (t:= .bool) (aac dX aaa aab))) (RT.val (aac (q_in (neg:=true)) (aac dX aaa aab) (RE.tup (RA.cons aab (RA.cons aab RA.nil)) (.cons (.cons Many.nil)) (by decide))))))) (RS.ret aaf) RS.next)
 (aae (RT.or (RT.val (aac (q_in (neg:=true)) (aac dX aaa aab) (aac dX (RE.lst (RA.cons aaa (RA.cons aaa RA.nil)) (.cons (.cons Many.nil)) (by decide)) (aac dX aaa aab)))) (RT.val (aac q_gt (RE.countD (RE.fld T.f_cover_Paired aaa) aaa) aab))) (RS.ret aaf) RS.next)))
 (RS.seq (RS.for' (RI.lst (RE.fix aaa)) (RG.names (is:= [8,9]) rfl) (aae (RT.and (RT.val (aac (jV (neg:=true)) (RE.tup (RA.cons aab (RA.cons aaa RA.nil)) (.cons (.cons Many.nil)) (by decide)) (RE.fld T.f_cover_Paired aaa))) (RT.val (aac (jV (neg:=true)) (RE.tup (RA.cons aab (RA.cons aaa RA.nil)) (.cons (.cons Many.nil)) (by decide)) (RE.fld T.f_cover_Paired aaa)))) (RS.ret aaf) RS.next))
 (RS.ret (aac q_eq (RE.c1 bZ (RE.fld T.f_pairs_Paired aaa)) (RE.c1 bZ (RE.fld T.f_cover_Paired aaa)))))))))))⟩
noncomputable def gp:SD→R Fl:=
 (ai (aB (bY (zA (aN (z1 aZ (aa 0))) (zA (aN (z1 aZ (aa 1))) (zA (aN (z1 aZ (aa 2))) zA0)))) (zSt 3))
 (ai (aB (ef "Pairs" aw [] (zA (z2 oIx (aa 3) (zC (.int 0))) (zA (z2 oIx (aa 3) (zC (.int 1))) (zA (z2 oIx (aa 3) (zC (.int 2))) zA0)))) (zSt 4))
 (ai (cK (oM (aL (aa 3))) (zSt 5) (aD (z1 (oB1 dO) (aa 5))))
 (ai (aB (aG "Pairs" "answer" aq [] (aa 4) zA0) (zSt 6))
 (ai (bJ (zOr (dt (zB (z1 (px is_Question false) (aa 4)))) (dt (zB (bg dw [] (zA (aa 6) (zA (aa 0) (zA (aa 1) (zA (aa 2) zA0)))))))) (bc (zC (.bl false))) aC)
 (ai (aB (bY (zA (z1 aZ (z1 (au ["Paired"] "pairs") (aa 6))) (zA (z1 aZ (z1 (au ["Paired"] "cover") (aa 6))) zA0))) (zSt 7))
 (ai (aD (zM2 isL (oB2 aM) (z1 (au ["Paired"] "pairs") (aa 6)) (aL (zC .non))))
 (ai (aD (z1 (oB1 dO) (z1 (au ["Paired"] "cover") (aa 6))))
 (ai (aB (ef "Pairs" aw [] (zA (aN (z1 aZ (aa 0))) (zA (aN (z1 aZ (aa 1))) (zA (aN (z1 aZ (aa 2))) zA0)))) (zSt 8))
 (ai (cK (oM (aL (bY (zA (aG "Pairs" "answer" aq [] (aa 4) zA0) (zA (aG "Pairs" "answer" aq [] (aa 8) zA0) zA0))))) (zSt 9) (bJ (zB (z2 oNeS (bY (zA (z1 (au ["Paired"] "pairs") (aa 9)) (zA (z1 (au ["Paired"] "cover") (aa 9)) zA0))) (aa 7))) (bc (zC (.bl false))) aC))
 (bc (zC (.bl true)))))))))))))
noncomputable def bz:FnV:=zFn N_Lasked.length gp
theorem jz:CalZ P w K mg base 6 "_law_asked" 3 bz []:=
 calY D.d_Lasked bH fun hr hu tk=>⟨_,(pss_cons (stY 3 bH (pe_tup (pa_cons (tyY (bC (K:=K) rfl) T.z_list (pa_cons (pv 0) pa_nil)) (pa_cons (tyY (bC (K:=K) rfl) T.z_list (pa_cons (pv 1) pa_nil)) (pa_cons (tyY (bC (K:=K) rfl) T.z_list (pa_cons (pv 2) pa_nil)) pa_nil)))))
 (pss_cons (stY 4 bH (mkY (fY T D TB) hr tk (pa_cons (ixY K hr (pv 3) pe_int) (pa_cons (ixY K hr (pv 3) pe_int) (pa_cons (ixY K hr (pv 3) pe_int) pa_nil)))))
 (pss_cons (ps_for (passes_of rfl) rfl (pi_tup (pv 3)) (gnY 5 bH) (pss_one (ps_expr (pe_bm0 PySem.F.plainAttrs_list PySem.F.slot_list_clear PySem.F.type_list_clear mt_clear (pv 5)))))
 (pss_cons (stY 6 bH (nh (cB T D TB) hr (by decide) tk (pv 4)))
 (pss_cons (ps_if (PW.pt (pw_or (pt_not (pt_val (bnY (gN (K:=K)) T.z_isinstance (pa_cons (pv 4) (pa_cons (glY T.m_Question) pa_nil))))) (pw_or1 (pt_not (pt_val (clY (tI T D TB) hr tk (pa_cons (pv 6) (pa_cons (pv 0) (pa_cons (pv 1) (pa_cons (pv 2) pa_nil)))))))))) (pss_one (ps_ret pe_bl)) pss_nil)
 (pss_cons (stY 7 bH (pe_tup (pa_cons (tyY (bC (K:=K) rfl) T.z_list (pa_cons (fdY K (pv 6)) pa_nil)) (pa_cons (tyY (bC (K:=K) rfl) T.z_list (pa_cons (fdY K (pv 6)) pa_nil)) pa_nil))))
 (pss_cons (ps_expr (pe_bm PySem.F.plainAttrs_list PySem.F.slot_list_append PySem.F.type_list_append mt_append (fdY K (pv 6)) (pa_cons pe_non pa_nil)))
 (pss_cons (ps_expr (pe_bm0 PySem.F.plainAttrs_list PySem.F.slot_list_clear PySem.F.type_list_clear mt_clear (fdY K (pv 6))))
 (pss_cons (stY 8 bH (mkY (fY T D TB) hr tk (pa_cons (tyY (bC (K:=K) rfl) T.z_list (pa_cons (pv 0) pa_nil)) (pa_cons (tyY (bC (K:=K) rfl) T.z_list (pa_cons (pv 1) pa_nil)) (pa_cons (tyY (bC (K:=K) rfl) T.z_list (pa_cons (pv 2) pa_nil)) pa_nil)))))
 (pss_cons (ps_for (passes_of rfl) rfl (pi_tup (pe_tup (pa_cons (nh (cB T D TB) hr (by decide) tk (pv 4)) (pa_cons (nh (cB T D TB) hr (by decide) tk (pv 8)) pa_nil)))) (gnY 9 bH) (pss_one (ps_if (ctY (neY K hr) (pe_tup (pa_cons (fdY K (pv 9)) (pa_cons (fdY K (pv 9)) pa_nil))) (pv 7)) (pss_one (ps_ret pe_bl)) pss_nil)))
 (pss_one (ps_ret pe_bl)))))))))))),(RS.seq (aad (RE.tup (RA.cons (RE.cell (RE.c1 eA aaa)) (RA.cons (RE.cell (RE.c1 eA aaa)) (RA.cons (RE.cell (RE.c1 eA aaa)) RA.nil))) (.cons (.cons (.cons Many.nil))) (by decide)) RG.name)
 (RS.seq (aad (RE.make T.m_Pairs .nil (RA.cons (aac dX aaa aab) (RA.cons (aac dX aaa aab) (RA.cons (aac dX aaa aab) RA.nil))) (.cons (.cons (.cons Many.nil))) rfl) RG.name)
 (RS.seq (RS.for' (RI.tup (RE.fix aaa)) RG.name (RS.drop (RE.clear aaa)))
 (RS.seq (aad (RE.meth T.m_Pairs .nil aaa RA.nil Many.nil rfl) RG.name)
 (RS.seq (aae (RT.or (aag (RT.val (RE.isC T.is_Question aaa))) (aag (RT.val (RE.call .nil (RA.cons aaa (RA.cons aaa (RA.cons aaa (RA.cons aaa RA.nil)))) (.cons (.cons (.cons (.cons Many.nil)))) rfl)))) (RS.ret aaf) RS.next)
 (RS.seq (aad (RE.tup (RA.cons (RE.c1 eA (RE.fld T.f_pairs_Paired aaa)) (RA.cons (RE.c1 eA (RE.fld T.f_cover_Paired aaa)) RA.nil)) (.cons (.cons Many.nil)) (by decide)) RG.name)
 (RS.seq (RS.drop (RE.append (RE.fld T.f_pairs_Paired aaa) aah))
 (RS.seq (RS.drop (RE.clear (RE.fld T.f_cover_Paired aaa)))
 (RS.seq (aad (RE.make T.m_Pairs .nil (RA.cons (RE.cell (RE.c1 eA aaa)) (RA.cons (RE.cell (RE.c1 eA aaa)) (RA.cons (RE.cell (RE.c1 eA aaa)) RA.nil))) (.cons (.cons (.cons Many.nil))) rfl) RG.name)
 (RS.seq (RS.for' (RI.tup (RE.fix (RE.tup (RA.cons (RE.meth T.m_Pairs .nil aaa RA.nil Many.nil rfl) (RA.cons (RE.meth T.m_Pairs .nil aaa RA.nil Many.nil rfl) RA.nil)) (.cons (.cons Many.nil)) (by decide)))) RG.name (aae (RT.val (aac q_neS (RE.tup (RA.cons (RE.fld T.f_pairs_Paired aaa) (RA.cons (RE.fld T.f_cover_Paired aaa) RA.nil)) (.cons (.cons Many.nil)) (by decide)) aaa)) (RS.ret aaf) RS.next))
 (RS.ret aaf)))))))))))⟩
noncomputable def bx:SD→R Fl:=
 (bc (zC .non))
noncomputable def aV:FnV:=zFn N_Question_answer.length bx
theorem fR:MetZ P w K mg base 1 Cc "answer" 1 aV []:=
 metY D.d_Question_answer eW fun hr hu tk=>⟨_,(pss_one (ps_ret pe_non)),(RS.ret aah)⟩
noncomputable def b_law:SD→R Fl:=
 (ai (aB (bg bh [] (zA (aa 0) (zA (zC (.int 0)) zA0))) (zSt 1))
 (ai (aB (bg cP [] (zA (aa 1) (zA (z2 dq (z2 eR (aa 1) (zC (.int 11))) (zC (.int 8))) zA0))) (zSt 2))
 (ai (aB (bg bh [] (zA (aa 0) (zA (zC (.int 1)) zA0))) (zSt 3))
 (ai (aB (bg cP [] (zA (z2 oIx (cG (zA (aa 3) (zA (aa 1) zA0))) (z2 dq (z2 eR (aa 1) (zC (.int 88))) (zC (.int 2)))) (zA (z2 dq (z2 eR (aa 3) (zC (.int 11))) (zC (.int 8))) zA0))) (zSt 4))
 (ai (aB (aN (cG zA0)) (zSt 5))
 (ai (cK (jB (zA (z1 bf (aa 0)) zA0)) (zSt 6) (ai (aB (bg bh [] (zA (aa 0) (zA (aa 6) zA0))) (zSt 7))
 (ai (bJ (kP (zB (z2 oNe (aa 2) (cG zA0))) (zB (z2 oNe (aa 4) (cG zA0)))) (ai (aB (bY (zA (z2 oIx (aa 2) (z2 dq (aa 7) (z1 bf (aa 2)))) (zA (z2 oIx (aa 4) (z2 dq (z2 eR (aa 7) (zC (.int 7))) (z1 bf (aa 4)))) zA0))) (zSt 8))
 (bJ (zB (z2 (iY false) (aa 8) (aa 5))) (aD (zM2 isL (oB2 ie) (aa 5) (aa 8))) (aD (zIns (aa 5) (z2 dq (z2 eR (aa 7) (zC (.int 49))) (z2 bU (z1 bf (aa 5)) (zC (.int 1)))) (aL (aa 8)))))) aC)
 (bJ (kP (zB (z2 oEq (z2 dq (z2 eR (aa 7) (zC (.int 2500))) (zC (.int 4))) (zC (.int 1)))) (dt (zB (bg bz [] (zA (aa 2) (zA (aa 4) (zA (aa 5) zA0))))))) (bc (zC (.bl false))) aC))))
 (ai (bJ (zB (z2 (iy true) (aG "Question" "answer" aV [] (zMk0 "Question") zA0) (zC .non))) (bc (zC (.bl false))) aC)
 (bc (jD (bg bz [] (zA (aa 2) (zA (aa 4) (zA (aa 5) zA0)))) (bg bz [] (zA (aa 2) (zA (aa 4) (zA (aN (cG zA0)) zA0)))))))))))))
noncomputable def v_law:FnV:=zFn N_law.length b_law
theorem c_law {f:Addr} {fd:FuncData} (F:L2.Fun K "law" "law" eX f fd):FnOk P w K mg base L2.CX0 7 f fd ["_law_script"] (fun vs H Q E=>spF ⟨K,mg⟩ 1 v_law vs H Q (fun _ _ _=>False)):=
 fnZ0 F eV (by decide) fun cdv A outer s H E hr=>by
  have hu:=hu_of hr
  have tk:=(pZ:Takes (cxOf L2.CX0 P w K mg base N_law "law" (L2.defScope eX) f cdv A outer s H E).nox WF)
  exact ⟨_,(pss_cons (stY 1 eV (clY (hY T D TB) hr tk (pa_cons (pv 0) (pa_cons pe_int pa_nil))))
 (pss_cons (stY 2 eV (clY (oy T D TB) hr tk (pa_cons (pv 1) (pa_cons (pe_op op_mod (pe_op op_fdivW (pv 1) pe_int) pe_int) pa_nil))))
 (pss_cons (stY 3 eV (clY (hY T D TB) hr tk (pa_cons (pv 0) (pa_cons pe_int pa_nil))))
 (pss_cons (stY 4 eV (clY (oy T D TB) hr tk (pa_cons (ixY K hr (pe_lst (pa_cons (pv 3) (pa_cons (pv 1) pa_nil))) (pe_op op_mod (pe_op op_fdivW (pv 1) pe_int) pe_int)) (pa_cons (pe_op op_mod (pe_op op_fdivW (pv 3) pe_int) pe_int) pa_nil))))
 (pss_cons (stY 5 eV (pe_lst pa_nil))
 (pss_cons (ps_for PassesOwn.never rfl (pi_range1 rfl T.z_range (pa_cons (bnY (aI (K:=K)) T.z_len (pa_cons (pv 0) pa_nil)) pa_nil)) (gnY 6 eV) (pss_cons (stY 7 eV (clY (hY T D TB) hr tk (pa_cons (pv 0) (pa_cons (pv 6) pa_nil))))
 (pss_cons (ps_if (PW.pt (pw_and (ctY (neY K hr) (pv 2) (pe_lst pa_nil)) (pw_and1 (ctY (neY K hr) (pv 4) (pe_lst pa_nil))))) (pss_cons (stY 8 eV (pe_tup (pa_cons (ixY K hr (pv 2) (pe_op op_mod (pv 7) (bnY (aI (K:=K)) T.z_len (pa_cons (pv 2) pa_nil)))) (pa_cons (ixY K hr (pv 4) (pe_op op_mod (pe_op op_fdivW (pv 7) pe_int) (bnY (aI (K:=K)) T.z_len (pa_cons (pv 4) pa_nil)))) pa_nil))))
 (pss_one (ps_if (ctY (qR K hr) (pv 8) (pv 5)) (pss_one (ps_expr (pe_bm PySem.F.plainAttrs_list PySem.F.slot_list_remove PySem.F.type_list_remove (mt_remD (K:=K) hr.units) (pv 5) (pa_cons (pv 8) pa_nil)))) (pss_one (ps_expr (pe_bm PySem.F.plainAttrs_list PySem.F.slot_list_insert PySem.F.type_list_insert mt_insert (pv 5) (pa_cons (pe_op op_mod (pe_op op_fdivW (pv 7) pe_int) (pe_op (aQ (K:=K)) (bnY (aI (K:=K)) T.z_len (pa_cons (pv 5) pa_nil)) pe_int)) (pa_cons (pv 8) pa_nil)))))))) pss_nil)
 (pss_one (ps_if (PW.pt (pw_and (ctY (eqY K hr) (pe_op op_mod (pe_op op_fdivW (pv 7) pe_int) pe_int) pe_int) (pw_and1 (pt_not (pt_val (clY (jz T D TB) hr tk (pa_cons (pv 2) (pa_cons (pv 4) (pa_cons (pv 5) pa_nil))))))))) (pss_one (ps_ret pe_bl)) pss_nil)))))
 (pss_cons (ps_if (ctY dE (nh (fR T D TB) hr (by decide) tk (pe_mk0 T.k0_Question T.m_Question)) pe_non) (pss_one (ps_ret pe_bl)) pss_nil)
 (pss_one (ps_ret (pe_and (clY (jz T D TB) hr tk (pa_cons (pv 2) (pa_cons (pv 4) (pa_cons (pv 5) pa_nil)))) (pe_one (clY (jz T D TB) hr tk (pa_cons (pv 2) (pa_cons (pv 4) (pa_cons (pe_lst pa_nil) pa_nil))))))))))))))),(RS.seq (aad (RE.call .nil (RA.cons aaa (RA.cons aab RA.nil)) (.cons (.cons Many.nil)) rfl) RG.name)
 (RS.seq (aad (RE.call .nil (RA.cons aaa (RA.cons (aac dD (aac gJ aaa aab) aab) RA.nil)) (.cons (.cons Many.nil)) rfl) RG.name)
 (RS.seq (aad (RE.call .nil (RA.cons aaa (RA.cons aab RA.nil)) (.cons (.cons Many.nil)) rfl) RG.name)
 (RS.seq (aad (RE.call .nil (RA.cons (aac dX (RE.lst (RA.cons aaa (RA.cons aaa RA.nil)) (.cons (.cons Many.nil)) (by decide)) (aac dD (aac gJ aaa aab) aab)) (RA.cons (aac dD (aac gJ aaa aab) aab) RA.nil)) (.cons (.cons Many.nil)) rfl) RG.name)
 (RS.seq (aad (RE.cell (RE.lst RA.nil Many.nil (by decide))) RG.name)
 (RS.seq (RS.for' (aak (RA.cons (RE.c1 bZ aaa) RA.nil)) RG.name (RS.seq (aad (RE.call .nil (RA.cons aaa (RA.cons aaa RA.nil)) (.cons (.cons Many.nil)) rfl) RG.name)
 (RS.seq (aae (RT.and (RT.val (aac q_ne aaa (RE.lst RA.nil Many.nil (by decide)))) (RT.val (aac q_ne aaa (RE.lst RA.nil Many.nil (by decide))))) (RS.seq (aad (RE.tup (RA.cons (aac dX aaa (aac dD aaa (RE.c1 bZ aaa))) (RA.cons (aac dX aaa (aac dD (aac gJ aaa aab) (RE.c1 bZ aaa))) RA.nil)) (.cons (.cons Many.nil)) (by decide)) RG.name)
 (aae (RT.val (aac (jV (neg:=false)) aaa aaa)) (RS.drop (RE.remD aaa aaa)) (RS.drop (RE.insert aaa (aac dD (aac gJ aaa aab) (aac cV (RE.c1 bZ aaa) aab)) (RE.fix aaa))))) RS.next)
 (aae (RT.and (RT.val (aac q_eq (aac dD (aac gJ aaa aab) aab) aab)) (aag (RT.val (RE.call .nil (RA.cons aaa (RA.cons aaa (RA.cons aaa RA.nil))) (.cons (.cons (.cons Many.nil))) rfl)))) (RS.ret aaf) RS.next))))
 (RS.seq (aae (RT.val (aac (oS (neg:=true)) (RE.meth T.m_Question .nil (RE.mk0 T.m_Question) RA.nil Many.nil rfl) aah)) (RS.ret aaf) RS.next)
 (RS.ret (RE.andV (RE.call .nil (RA.cons aaa (RA.cons aaa (RA.cons aaa RA.nil))) (.cons (.cons (.cons Many.nil))) rfl) (RE.call .nil (RA.cons aaa (RA.cons aaa (RA.cons (RE.cell (RE.lst RA.nil Many.nil (by decide))) RA.nil))) (.cons (.cons (.cons Many.nil))) rfl))))))))))⟩
end
end T

namespace Z
open PySem PySem.Spec PyProof.Rows L2 M
open Classical
section
variable {α β:Type} {a b:Vl} {x y:D} {s s' :SD} {S:Sto} {sl:List (Option Vl)} {f g:SD→R Fl} {fa fb fc:SD→R Vl} {fr:SD→R (List D)} {i j k:Nat}
theorem tJ {a:α} {k:α→SD→R β}:R.bind (.ok a s) k=k a s:=Eq.trans rfl rfl
theorem oA {k:α→SD→R β}:R.bind .bad k= .bad:=rfl
theorem oz {c:Prop} [Decidable c] {m n:R α} {k:α→SD→R β}:R.bind (if c then m else n) k=if c then m.bind k else n.bind k:=by split<;> rfl
theorem iteW {c:Prop} [Decidable c] {P Q:Prop} (h:c) (p:P):if c then P else Q:=by rw [if_pos h]; exact p
def compK {γ:Type} (k:α→SD→R β) (l:β→SD→R γ):α→SD→R γ:=fun a s=>(k a s).bind l
theorem x_comp {γ:Type} {k:α→SD→R β} {l:β→SD→R γ} {a:α}:compK k l a s=(k a s).bind l:=rfl
theorem kJ {γ:Type} {m:R α} {k:α→SD→R β} {l:β→SD→R γ}:R.bind (R.bind m k) l=R.bind m (compK k l):=by cases m<;> rfl
theorem Wp_ite {c:Prop} [Decidable c] {m n:R α} {Q:α→SD→Prop} {E:XQ}:Wp (if c then m else n) Q E=if c then Wp m Q E else Wp n Q E:=by split<;> rfl
def seqK (g:SD→R Fl):Fl→SD→R Fl
 | .nx,s=>g s
 | .bk,s=> .ok .bk s
 | .ct,s=> .ok .ct s
 | .rt a,s=> .ok (.rt a) s
theorem e_seq:ai f g s=(f s).bind (seqK g):=by
 unfold ai
 congr
 funext fl s1
 cases fl<;> rfl
theorem qu:seqK g .nx s=g s:=Eq.trans rfl rfl
theorem qt:seqK g (.rt a) s= .ok (.rt a) s:=rfl
theorem qx:seqK g .bk s= .ok .bk s:=rfl
theorem qw:seqK g .ct s= .ok .ct s:=rfl
def nxK {α:Type}:α→SD→R Fl:=fun _ s=> .ok .nx s
theorem x_nx {α:Type} {a:α}:nxK a s= .ok .nx s:=rfl
def asgK (fz:Vl→SD→R Unit):Vl→SD→R Fl:=fun a s=>(fz a s).bind nxK
theorem x_asg {fz:Vl→SD→R Unit}:asgK fz a s=(fz a s).bind nxK:=rfl
theorem e_asg {fz:Vl→SD→R Unit}:aB fa fz s=(fa s).bind (asgK fz):=rfl
theorem e_st_d:zSt i (.d x) ⟨sl,S⟩= .ok () ⟨sl.set i (some (.d x)),S⟩:=rfl
theorem nU:zSt i (.own x) ⟨sl,S⟩= .ok () ⟨sl.set i (some (.own x)),S⟩:=rfl
def stK (i:Nat):D→SD→R Unit:=fun x s=> .ok () {s with sl:=s.sl.set i (some (.d x))}
theorem x_st:stK i x ⟨sl,S⟩= .ok () ⟨sl.set i (some (.d x)),S⟩:=rfl
theorem nV:zSt i (.loc k) s=(s.fix (.loc k)).bind (stK i):=rfl
theorem e_next:aC s= .ok .nx s:=rfl
theorem sW:zBreak s= .ok .bk s:=rfl
theorem e_cont:zCont s= .ok .ct s:=rfl
def ifK {α:Type} (f g:SD→R α):Bool→SD→R α:=fun b s=>if b=true then f s else g s
theorem x_if {α:Type} {f g:SD→R α} {b:Bool}:ifK f g b s=if b=true then f s else g s:=Eq.trans rfl rfl
theorem e_ifS {c:SD→R Bool}:bJ c f g s=(c s).bind (ifK f g):=rfl
def rtK:Vl→SD→R Fl:=fun b s=> .ok (.rt b) s
theorem x_rt:rtK a s= .ok (.rt a) s:=rfl
def retK:Vl→SD→R Fl:=fun a s=>(s.told a).bind rtK
theorem x_ret:retK a s=(s.told a).bind rtK:=rfl
theorem e_ret:bc fa s=(fa s).bind retK:=rfl
theorem e_retN:zRetN s= .ok (.rt (.d .non)) s:=rfl
theorem e_drop:aD fa s=(fa s).bind nxK:=rfl
theorem sT:gv s= .bad:=rfl
theorem told_d:s.told (.d x)= .ok (.d x) s:=rfl
theorem mi:s.told (.own x)= .ok (.own x) s:=rfl
def toldK (s:SD) (k:Nat):Option (Option Vl)→R Vl
 | some (some (.own x))=> .ok (.own x) {s with sl:=s.sl.set k none}
 | some (some (.d x))=> .ok (.d x) s
 | _=> .bad
theorem mj:s.told (.loc k)=toldK s k s.sl[k]? :=by
 unfold SD.told toldK
 rfl
theorem jM:toldK ⟨sl,S⟩ k (some (some (.own x)))= .ok (.own x) ⟨sl.set k none,S⟩:=rfl
theorem e_c:zC x s= .ok (.d x) s:=rfl
def varK (s:SD) (i:Nat):Option (Option Vl)→R Vl
 | some (some (.own _))=> .ok (.loc i) s
 | some (some (.d x))=> .ok (.d x) s
 | _=> .bad
theorem e_var:aa i s=varK s i s.sl[i]? :=by
 unfold aa varK
 rfl
theorem md:varK s i (some (some (.own x)))= .ok (.loc i) s:=rfl
theorem varK_d:varK s i (some (some (.d x)))= .ok (.d x) s:=rfl
theorem e_z1 {h:Vl→SD→R Vl}:z1 h fa s=(fa s).bind h:=rfl
def z2K (h:Vl→Vl→SD→R Vl) (fb:SD→R Vl):Vl→SD→R Vl:=fun a s=>(fb s).bind (h a)
theorem x_z2 {h:Vl→Vl→SD→R Vl}:z2K h fb a s=(fb s).bind (h a):=rfl
theorem e_z2 {h:Vl→Vl→SD→R Vl}:z2 h fa fb s=(fa s).bind (z2K h fb):=rfl
theorem fix_d:s.fix (.d x)= .ok x s:=rfl
theorem sJ:s.fix (.own x)= .ok x s:=rfl
def fixK (s:SD) (k:Nat):Option (Option Vl)→R D
 | some (some (.own x))=> .ok x {s with sl:=s.sl.set k (some (.d x))}
 | some (some (.d x))=> .ok x s
 | _=> .bad
theorem sM:s.fix (.loc k)=fixK s k s.sl[k]? :=by
 unfold SD.fix fixK
 rfl
theorem nQ:fixK ⟨sl,S⟩ k (some (some (.own x)))= .ok x ⟨sl.set k (some (.d x)),S⟩:=rfl
theorem fixK_d:fixK s k (some (some (.d x)))= .ok x s:=rfl
def dK' :D→SD→R Vl:=fun x s=> .ok (.d x) s
theorem x_d:dK' x s= .ok (.d x) s:=rfl
def viaK (h:SD→Vl→R D):Vl→SD→R Vl:=fun a s=>(h s a).bind dK'
theorem x_via {h:SD→Vl→R D}:viaK h a s=(h s a).bind dK' :=rfl
theorem e_via {h:SD→Vl→R D}:pq h fa s=(fa s).bind (viaK h):=rfl
theorem iE:SD.celled ⟨sl,S⟩ (.own x)= .ok (.cell S.nx) ⟨sl,S.new x⟩:=rfl
theorem hW:SD.celled s (.d (.cell i))= .ok (.cell i) s:=rfl
theorem uP (h:S.get i=some x):SD.frz ⟨sl,S⟩ (.d (.cell i))= .ok x ⟨sl,S.del i⟩:=by
 unfold SD.frz
 simp only [h]
theorem e_a0:zA0 s= .ok [] s:=rfl
def consK (x:D):List D→SD→R (List D):=fun xs s=> .ok (x::xs) s
theorem x_cons {xs:List D}:consK x xs s= .ok (x::xs) s:=rfl
def fixK' (fr:SD→R (List D)):D→SD→R (List D):=fun x s=>(fr s).bind (consK x)
theorem x_fix:fixK' fr x s=(fr s).bind (consK x):=rfl
def aK (fr:SD→R (List D)):Vl→SD→R (List D):=fun a s=>(s.fix a).bind (fixK' fr)
theorem x_a:aK fr a s=(s.fix a).bind (fixK' fr):=rfl
theorem e_a:zA fa fr s=(fa s).bind (aK fr):=rfl
def tupK:List D→SD→R Vl:=fun xs s=> .ok (.d (.tup xs)) s
theorem x_tup {xs:List D}:tupK xs s= .ok (.d (.tup xs)) s:=rfl
def lstK:List D→SD→R Vl:=fun xs s=> .ok (.own (.lst xs)) s
theorem x_lst {xs:List D}:lstK xs s= .ok (.own (.lst xs)) s:=rfl
theorem e_tup:bY fr s=(fr s).bind tupK:=rfl
theorem e_lst:cG fr s=(fr s).bind lstK:=rfl
theorem e_dnew:zDnew s= .ok (.own (.dct [])) s:=rfl
theorem e_b:zB fa s=(fa s).bind oB:=rfl
theorem oB_bl {b:Bool}:oB (.d (.bl b)) s= .ok b s:=rfl
def okK {α:Type} (b:α):SD→R α:=fun s=> .ok b s
theorem x_ok {α:Type} {b:α}:okK b s= .ok b s:=rfl
def notK:Bool→SD→R Bool:=fun b s=> .ok (!b) s
theorem x_not {b:Bool}:notK b s= .ok (!b) s:=rfl
def notVK:Bool→SD→R Vl:=fun b s=> .ok (.d (.bl (!b))) s
theorem x_notV {b:Bool}:notVK b s= .ok (.d (.bl (!b))) s:=rfl
theorem e_and {c d:SD→R Bool}:kP c d s=(c s).bind (ifK d (okK false)):=rfl
theorem e_or {c d:SD→R Bool}:zOr c d s=(c s).bind (ifK (okK true) d):=rfl
theorem e_not {c:SD→R Bool}:dt c s=(c s).bind notK:=rfl
theorem e_andV:jD fa fb s=(zB fa s).bind (ifK fb (okK (.d (.bl false)))):=rfl
theorem e_orV:zOrV fa fb s=(zB fa s).bind (ifK (okK (.d (.bl true))) fb):=rfl
theorem e_notV:tT fa s=(zB fa s).bind notVK:=rfl
theorem e_if {c:SD→R Bool}:zIf c fa fb s=(c s).bind (ifK fa fb):=rfl
def callK (F:FnV) (dds:List D):List D→SD→R Vl:=fun ds s=>goF F (ds++dds) s
theorem x_call {F:FnV} {dds ds:List D}:callK F dds ds s=goF F (ds++dds) s:=rfl
theorem e_call {F:FnV} {dds:List D}:bg F dds fr s=(fr s).bind (callK F dds):=rfl
def rA (c m:Str) (F:FnV) (dds:List D) (fr:SD→R (List D)) (x:D) (s:SD):Option D→R Vl
 | some (.obj c' fs)=>if c' =c∧bI fs m=none then (fr s).bind fun ds s3=>goF F (x::(ds++dds)) s3 else .bad
 | _=> .bad
def selfK (F:FnV) (dds:List D) (x:D):List D→SD→R Vl:=fun ds s=>goF F (x::(ds++dds)) s
theorem x_self {F:FnV} {dds ds:List D}:selfK F dds x ds s=goF F (x::(ds++dds)) s:=rfl
def ng (c m:Str) (F:FnV) (dds:List D) (fr:SD→R (List D)):D→SD→R Vl:=fun x s=>rA c m F dds fr x s (s.cont (.d x))
theorem pF {c m:Str} {F:FnV} {dds:List D}:ng c m F dds fr x s=rA c m F dds fr x s (s.cont (.d x)):=rfl
def rq (c m:Str) (F:FnV) (dds:List D) (fr:SD→R (List D)):Vl→SD→R Vl:=fun a s=>(s.fix a).bind (ng c m F dds fr)
theorem pG {c m:Str} {F:FnV} {dds:List D}:rq c m F dds fr a s=(s.fix a).bind (ng c m F dds fr):=rfl
theorem e_meth {c m:Str} {F:FnV} {dds:List D} {fo:SD→R Vl}:aG c m F dds fo fr s=(fo s).bind (rq c m F dds fr):=by
 unfold aG rq ng rA
 rfl
theorem ao {c m:Str} {F:FnV} {dds:List D} {fs:List (Str×D)} (h:bI fs m=none):rA c m F dds fr x s (some (.obj c fs))=(fr s).bind (selfK F dds x):=by
 unfold rA
 simp only [h,and_self,if_true]
 rfl
def tA (f g:Vl→Vl→SD→R Vl) (fc:SD→R Vl) (a b:Vl) (s2:SD):R Vl:=match b with
 | .d z=>match D.sc z with
  | some _=>(f a b s2).bind fun r s3=>match r with
   | .d (.bl true)=>(fc s3).bind fun c s4=>g (.d z) c s4
   | .d (.bl false)=> .ok (.d (.bl false)) s3
   | _=> .bad
  | none=> .bad
 | _=> .bad
def lM (h l:Vl→Vl→SD→R Vl) (fc:SD→R Vl) (a:Vl):Vl→SD→R Vl:=fun b s=>tA h l fc a b s
theorem lV {h l:Vl→Vl→SD→R Vl}:lM h l fc a b s=tA h l fc a b s:=rfl
def tD (h l:Vl→Vl→SD→R Vl) (fb fc:SD→R Vl):Vl→SD→R Vl:=fun a s=>(fb s).bind (lM h l fc a)
theorem lW {h l:Vl→Vl→SD→R Vl}:tD h l fb fc a s=(fb s).bind (lM h l fc a):=rfl
theorem sV {h l:Vl→Vl→SD→R Vl}:lT h l fa fb fc s=(fa s).bind (tD h l fb fc):=rfl
def chK (l:Vl→Vl→SD→R Vl) (fc:SD→R Vl) (b:Vl) (r:Vl) (s:SD):R Vl:=match r with
 | .d (.bl true)=>(fc s).bind fun c s4=>l b c s4
 | .d (.bl false)=> .ok (.d (.bl false)) s
 | _=> .bad
theorem chK_bl {l:Vl→Vl→SD→R Vl} {t:Bool}:chK l fc b (.d (.bl t)) s=if t=true then (fc s).bind (l b) else .ok (.d (.bl false)) s:=by cases t<;> rfl
theorem iD {h l:Vl→Vl→SD→R Vl} {n:Int}:tA h l fc a (.d (.int n)) s=(h a (.d (.int n)) s).bind (chK l fc (.d (.int n))):=rfl
theorem e_no:zNo s= .ok none s:=rfl
def ptK:Vl→SD→R (Option Int)
 | .d (.int i),s=> .ok (some i) s
 | _,_=> .bad
theorem x_pt {n:Int}:ptK (.d (.int n)) s= .ok (some n) s:=rfl
theorem e_pt:zPt fa s=(fa s).bind ptK:=by
 unfold zPt
 congr
 funext a s1
 cases a with
 | d x=>cases x<;> rfl
 | own x=>rfl
 | loc k=>rfl
noncomputable def sl3K (a:Vl) (lo:Option Int):Option Int→SD→R Vl:=fun hi s=>oSl a lo hi s
theorem x_sl3 {lo hi:Option Int}:sl3K a lo hi s=oSl a lo hi s:=rfl
noncomputable def sl2K (fh:SD→R (Option Int)) (a:Vl):Option Int→SD→R Vl:=fun lo s=>(fh s).bind (sl3K a lo)
theorem x_sl2 {fh:SD→R (Option Int)} {lo:Option Int}:sl2K fh a lo s=(fh s).bind (sl3K a lo):=rfl
noncomputable def sl1K (fl fh:SD→R (Option Int)):Vl→SD→R Vl:=fun a s=>(fl s).bind (sl2K fh a)
theorem x_sl1 {fl fh:SD→R (Option Int)}:sl1K fl fh a s=(fl s).bind (sl2K fh a):=rfl
theorem e_sl {fl fh:SD→R (Option Int)}:zSl fa fl fh s=(fa s).bind (sl1K fl fh):=rfl
theorem oo {n:Int}:s.cont (.d (.int n))=some (.int n):=rfl
theorem jr {z:Str}:s.cont (.d (.str z))=some (.str z):=rfl
theorem tm {t:Bool}:s.cont (.d (.bl t))=some (.bl t):=rfl
theorem oj:s.cont (.d .non)=some .non:=rfl
theorem fB {l:List D}:s.cont (.d (.lst l))=some (.lst l):=rfl
theorem jt {l:List D}:s.cont (.d (.con l))=some (.con l):=rfl
theorem jq {l:List D}:s.cont (.d (.tup l))=some (.tup l):=rfl
theorem ot {l:List (Key×D)}:s.cont (.d (.dct l))=some (.dct l):=rfl
theorem oi {c:Str} {l:List (Str×D)}:s.cont (.d (.obj c l))=some (.obj c l):=rfl
theorem hV:s.cont (.d (.cell i))=s.st.get i:=rfl
theorem fA:s.cont (.own x)=some x:=rfl
def contK (S:Sto):Option (Option Vl)→Option D
 | some (some (.own x))=>some x
 | some (some (.d (.cell i)))=>S.get i
 | some (some (.d x))=>some x
 | _=>none
theorem om:s.cont (.loc k)=contK s.st s.sl[k]? :=by
 show (match s.sl[k]? with | some (some (.own x))=>some x | some (some (.d (.cell i)))=>s.st.get i | some (some (.d x))=>some x | _=>none)=_
 unfold contK
 rfl
theorem kH:contK S (some (some (.own x)))=some x:=rfl
theorem w_sub {m n:Int}:uu (.d (.int m)) (.d (.int n)) s= .ok (.d (.int (m - n))) s:=rfl
theorem w_mod {m n:Int}:dq (.d (.int m)) (.d (.int n)) s=if 0<n then .ok (.d (.int (m%n))) s else .bad:=rfl
theorem w_div {m n:Int}:eR (.d (.int m)) (.d (.int n)) s=if CDivW m n then .ok (.d (.int (m / n))) s else .bad:=rfl
theorem w_pow {m n:Int}:oPow (.d (.int m)) (.d (.int n)) s=if CPowW m n then .ok (.d (.int (m ^ n.toNat))) s else .bad:=rfl
theorem w_cmp {h:Int→Int→Bool} {m n:Int}:ux h (.d (.int m)) (.d (.int n)) s= .ok (.d (.bl (h m n))) s:=rfl
noncomputable def addK (s:SD):Option D→Option D→R Vl
 | some (.int i),some (.int j)=> .ok (.d (.int (i+j))) s
 | some (.str x),some (.str y)=>if x.length+y.length≤sizeLine then .ok (.d (.str (x++y))) s else .bad
 | some (.lst xs),some (.lst ys)=>if xs.length+ys.length≤sizeLine then .ok (.own (.lst (xs++ys))) s else .bad
 | some (.tup xs),some (.tup ys)=>if xs≠ []∧ys≠ []∧xs.length+ys.length≤sizeLine then .ok (.d (.tup (xs++ys))) s else .bad
 | _,_=> .bad
theorem w_add:bU a b s=addK s (s.cont a) (s.cont b):=by
 unfold bU addK
 rfl
theorem oL {m n:Int}:addK s (some (.int m)) (some (.int n))= .ok (.d (.int (m+n))) s:=rfl
theorem oJ {m n:Str}:addK s (some (.str m)) (some (.str n))=if m.length+n.length≤sizeLine then .ok (.d (.str (m++n))) s else .bad:=rfl
theorem oK {m n:List D}:addK s (some (.lst m)) (some (.lst n))=if m.length+n.length≤sizeLine then .ok (.own (.lst (m++n))) s else .bad:=rfl
theorem oH {m n:List D}:addK s (some (.tup m)) (some (.tup n))=if m≠ []∧n≠ []∧m.length+n.length≤sizeLine then .ok (.d (.tup (m++n))) s else .bad:=rfl
noncomputable def mulK (s:SD):Option D→Option D→R Vl
 | some (.int i),some (.int j)=>if CMulX i j then .ok (.d (.int (i*j))) s else .bad
 | some (.lst xs),some (.int k)=>if -(2 ^ 63)≤k∧k<2 ^ 63∧xs.length*k.toNat≤sizeLine then .ok (.own (.lst (List.replicate k.toNat xs).flatten)) s else .bad
 | some (.str z),some (.int k)=>if PySem.MulOk z k then .ok (.d (.str (Txt.mul z k))) s else .bad
 | _,_=> .bad
theorem w_mulG:iX a b s=mulK s (s.cont a) (s.cont b):=by
 unfold iX mulK
 rfl
theorem mW {i j:Int}:mulK s (some (.int i)) (some (.int j))=if CMulX i j then .ok (.d (.int (i*j))) s else .bad:=rfl
theorem mU {z:Str} {k:Int}:mulK s (some (.str z)) (some (.int k))=if PySem.MulOk z k then .ok (.d (.str (Txt.mul z k))) s else .bad:=rfl
theorem mV {xs:List D} {k:Int}:mulK s (some (.lst xs)) (some (.int k))=if -(2 ^ 63)≤k∧k<2 ^ 63∧xs.length*k.toNat≤sizeLine then .ok (.own (.lst (List.replicate k.toNat xs).flatten)) s else .bad:=rfl
theorem w_neg {n:Int}:oNeg (.d (.int n)) s= .ok (.d (.int (-n))) s:=rfl
theorem w_min {m n:Int}:oMin (.d (.int m)) (.d (.int n)) s= .ok (.d (.int (if n<m then n else m))) s:=rfl
def tQ (t:Ty1) (s:SD):Option D→R Vl
 | some x=>match x.knd with
  | some _=> .ok (.d (.bl (isT t x))) s
  | none=> .bad
 | none=> .bad
theorem w_isi {t:Ty1}:gk t a s=tQ t s (s.cont a):=by
 unfold gk tQ
 rfl
theorem rT {t:Ty1} {n:Int}:tQ t s (some (.int n))= .ok (.d (.bl (isT t (.int n)))) s:=rfl
theorem isi_bl {t:Ty1} {n:Bool}:tQ t s (some (.bl n))= .ok (.d (.bl (isT t (.bl n)))) s:=rfl
theorem rQ {t:Ty1} {n:Str}:tQ t s (some (.str n))= .ok (.d (.bl (isT t (.str n)))) s:=rfl
theorem rR {t:Ty1}:tQ t s (some .non)= .ok (.d (.bl (isT t .non))) s:=rfl
theorem rS {t:Ty1} {n:List D}:tQ t s (some (.lst n))= .ok (.d (.bl (isT t (.lst n)))) s:=rfl
theorem rW {t:Ty1} {n:List D}:tQ t s (some (.con n))= .ok (.d (.bl (isT t (.con n)))) s:=rfl
theorem rP {t:Ty1} {n:List D}:tQ t s (some (.tup n))= .ok (.d (.bl (isT t (.tup n)))) s:=rfl
theorem rV {t:Ty1} {n:List (Key×D)}:tQ t s (some (.dct n))= .ok (.d (.bl (isT t (.dct n)))) s:=rfl
theorem jJ {neg:Bool} {n:Int}:iy neg (.d (.int n)) (.d .non) s= .ok (.d (.bl neg)) s:=rfl
theorem jH {neg:Bool} {n:List D}:iy neg (.d (.tup n)) (.d .non) s= .ok (.d (.bl neg)) s:=rfl
theorem pO {neg:Bool}:iy neg (.d .non) (.d .non) s= .ok (.d (.bl (!neg))) s:=rfl
noncomputable def eqK (s:SD):Option D→Option D→R Vl
 | some x,some y=>match dEq x y with
  | some r=> .ok (.d (.bl r)) s
  | none=> .bad
 | _,_=> .bad
theorem w_eq:oEq a b s=eqK s (s.cont a) (s.cont b):=by
 unfold oEq eqK
 rfl
theorem sQ {r:Bool} (h:dEq x y=some r):eqK s (some x) (some y)= .ok (.d (.bl r)) s:=by
 unfold eqK
 simp only [h]
theorem lH {i j:Int}:dEq (.int i) (.int j)=some (decide (i=j)):=by
 show some (decide (V.int i=V.int j))=_
 congr 1
 apply decide_eq_decide.mpr
 exact ⟨fun h=>by cases h; rfl,fun h=>by rw [h]⟩
theorem sZ {i j:Str}:dEq (.str i) (.str j)=some (decide (i=j)):=by
 show some (decide (V.str i=V.str j))=_
 congr 1
 apply decide_eq_decide.mpr
 exact ⟨fun h=>by cases h; rfl,fun h=>by rw [h]⟩
theorem sS {i j:Int}:eqK s (some (.int i)) (some (.int j))= .ok (.d (.bl (decide (i=j)))) s:=sQ lH
theorem sP {i j:Str}:eqK s (some (.str i)) (some (.str j))= .ok (.d (.bl (decide (i=j)))) s:=sQ sZ
noncomputable def neK (s:SD):Option D→Option D→R Vl
 | some (.dct ks),some (.dct [])=> .ok (.d (.bl (!ks.isEmpty))) s
 | some x,some y=>match dEq x y with
  | some r=> .ok (.d (.bl (!r))) s
  | none=> .bad
 | _,_=> .bad
theorem w_ne:oNe a b s=neK s (s.cont a) (s.cont b):=by
 unfold oNe neK
 rfl
theorem rg {l:List D}:neK s (some (.lst l)) (some (.lst []))= .ok (.d (.bl (!l.isEmpty))) s:=by
 unfold neK dEq
 rfl
theorem rj {l:List (Key×D)}:neK s (some (.dct l)) (some (.dct []))= .ok (.d (.bl (!l.isEmpty))) s:=rfl
theorem sR {l:List D}:eqK s (some (.lst l)) (some (.lst []))= .ok (.d (.bl l.isEmpty)) s:=by
 unfold eqK dEq
 rfl
noncomputable def inK (neg:Bool) (s:SD):Option D→Option D→R Vl
 | some x,some y=>match dIn x y with
  | some r=> .ok (.d (.bl (if neg then !r else r))) s
  | none=> .bad
 | _,_=> .bad
theorem w_in {neg:Bool}:oIn neg a b s=inK neg s (s.cont a) (s.cont b):=by
 unfold oIn inK
 rfl
theorem fX {neg r:Bool} (h:dIn x y=some r):inK neg s (some x) (some y)= .ok (.d (.bl (if neg then !r else r))) s:=by
 unfold inK
 simp only [h]
noncomputable def ixK (s:SD):Option D→Option D→R Vl
 | some x,some y=>match dIx x y with
  | some r=> .ok (.d r) s
  | none=> .bad
 | _,_=> .bad
theorem w_ix:oIx a b s=ixK s (s.cont a) (s.cont b):=by
 unfold oIx ixK
 rfl
theorem iB {r:D} (h:dIx x y=some r):ixK s (some x) (some y)= .ok (.d r) s:=by
 unfold ixK
 simp only [h]
def lenK (s:SD):Option D→R Vl
 | some (.lst xs)=> .ok (.d (.int xs.length)) s
 | some (.con xs)=> .ok (.d (.int xs.length)) s
 | some (.tup xs)=> .ok (.d (.int xs.length)) s
 | some (.str z)=>if z.length≤sizeLine then .ok (.d (.int z.length)) s else .bad
 | some (.dct ks)=> .ok (.d (.int ks.length)) s
 | _=> .bad
theorem w_len:bf a s=lenK s (s.cont a):=by
 unfold bf lenK
 rfl
theorem nt {l:List D}:lenK s (some (.lst l))= .ok (.d (.int l.length)) s:=rfl
theorem nv {l:List D}:lenK s (some (.con l))= .ok (.d (.int l.length)) s:=rfl
theorem nu {l:List (Key×D)}:lenK s (some (.dct l))= .ok (.d (.int l.length)) s:=rfl
theorem nr {z:Str}:lenK s (some (.str z))=if z.length≤sizeLine then .ok (.d (.int z.length)) s else .bad:=rfl
def fldK (cls:List Str) (f:Str) (s:SD):Option D→R Vl
 | some (.obj c fs)=>if c∈cls then match bI fs f with
  | some x=> .ok (.d x) s
  | none=> .bad
  else .bad
 | _=> .bad
theorem w_fld {cls:List Str} {f:Str}:au cls f a s=fldK cls f s (s.cont a):=by
 unfold au fldK
 rfl
theorem ah {c f:Str} {fs:List (Str×D)} (h:bI fs f=some x):fldK [c] f s (some (.obj c fs))= .ok (.d x) s:=by
 unfold fldK
 simp only [List.mem_singleton,if_true,h]
def dfK (f:D→R Vl):Option D→R Vl
 | some x=>f x
 | none=> .bad
theorem oh {α:Type} (f:α→Bool):∀l:List α,uV (l.map fun c=>D.bl (f c))=some (l.map f)
 | []=>rfl
 | a::l=>by rw [List.map_cons,uV,oh f l,List.map_cons]
theorem gZ {α:Type} (f:α→Int):∀l:List α,fQ (l.map fun c=>D.int (f c))=some (l.map f)
 | []=>rfl
 | a::l=>by rw [List.map_cons,fQ,gZ f l,List.map_cons]
theorem kD {α:Type} (f:α→Str):∀l:List α,lG (l.map fun c=>D.str (f c))=some (l.map f)
 | []=>rfl
 | a::l=>by rw [List.map_cons,lG,kD f l,List.map_cons]
theorem all_own {ds:List D} {bs:List Bool} (h:uV ds=some bs):oAll (.own (.lst ds)) s= .ok (.d (.bl (bs.all id))) s:=by
 unfold oAll
 simp only [fA,h]
noncomputable def rE (s:SD):Option D→R Vl
 | some (.lst xs)=> .ok (.own (.lst xs)) s
 | some (.con xs)=> .ok (.own (.lst xs)) s
 | some (.tup xs)=> .ok (.own (.lst xs)) s
 | some (.dct ks)=> .ok (.own (.lst (ks.map fun kv=>tR kv.1))) s
 | _=> .bad
theorem w_list:aZ a s=rE s (s.cont a):=by
 unfold aZ rE
 rfl
theorem ki {l:List D}:rE s (some (.lst l))= .ok (.own (.lst l)) s:=rfl
theorem kl {l:List D}:rE s (some (.con l))= .ok (.own (.lst l)) s:=rfl
theorem kj {l:List (Key×D)}:rE s (some (.dct l))= .ok (.own (.lst (l.map fun kv=>tR kv.1))) s:=rfl
noncomputable def dictK (s:SD):Option D→R Vl
 | some (.dct ks)=> .ok (.own (.dct ks)) s
 | some (.lst ds)=>match pairs ds with
  | some ks=> .ok (.own (.dct (kF ks))) s
  | none=> .bad
 | _=> .bad
theorem w_dict:oDict a s=dictK s (s.cont a):=by
 unfold oDict dictK
 rfl
theorem kG {l:List (Key×D)}:dictK s (some (.dct l))= .ok (.own (.dct l)) s:=rfl
theorem ma {t:Bool}:oInt (.d (.bl t)) s= .ok (.d (.int (if t=true then 1 else 0))) s:=by cases t<;> rfl
theorem jK {n:Int}:oInt (.d (.int n)) s= .ok (.d (.int n)) s:=rfl
theorem uH {z:Str} {ds:List D} {ys:List Str} (h:lG ds=some ys) (hz:(ys.map (·.length)).sum+ys.length*z.length≤16777216):kb (.d (.str z)) (.own (.lst ds)) s= .ok (.d (.str (Txt.join z ys))) s:=by
 unfold kb
 simp only [fA,jr,h,if_pos hz]
noncomputable def slK (s:SD) (lo hi:Option Int):Option D→R Vl
 | some (.lst ds)=> .ok (.own (.lst (cutD ds lo hi))) s
 | some (.con ds)=> .ok (.own (.lst (cutD ds lo hi))) s
 | some (.str z)=>if z.length≤sizeLine then .ok (.d (.str (cutS z lo hi))) s else .bad
 | some (.tup ds)=>if¬(HT.sIx ds.length 0 lo=0∧HT.sIx ds.length ds.length hi=ds.length) then .ok (.d (.tup (cutD ds lo hi))) s else .bad
 | _=> .bad
theorem w_sl {lo hi:Option Int}:oSl a lo hi s=slK s lo hi (s.cont a):=by
 unfold oSl slK
 rfl
theorem qo {lo hi:Option Int} {l:List D}:slK s lo hi (some (.lst l))= .ok (.own (.lst (cutD l lo hi))) s:=rfl
theorem qp {lo hi:Option Int} {l:List D}:slK s lo hi (some (.con l))= .ok (.own (.lst (cutD l lo hi))) s:=rfl
theorem qm {lo hi:Option Int} {z:Str}:slK s lo hi (some (.str z))=if z.length≤sizeLine then .ok (.d (.str (cutS z lo hi))) s else .bad:=rfl
noncomputable def rg1K:List D→SD→R Src:=fun ds s1=>match ds with
 | [.int j]=>if -(2 ^ 62)≤j∧j<2 ^ 62 then .ok ⟨[],fun _=>True,upTo 0 j.toNat⟩ s1 else .bad
 | _=> .bad
theorem e_rg1:jB fr s=(fr s).bind rg1K:=by
 unfold jB
 rfl
theorem x_rg1 {n:Int}:rg1K [.int n] s=if -(2 ^ 62)≤n∧n<2 ^ 62 then .ok ⟨[],fun _=>True,upTo 0 n.toNat⟩ s else .bad:=rfl
def enK:Vl→SD→R Src:=fun a s1=>match s1.cont a with
 | some (.lst ds)=> .ok ⟨[a],fun s=>s.cont a=some (.lst ds),cg ds⟩ s1
 | _=> .bad
theorem e_en:fK fa s=(fa s).bind enK:=by
 unfold fK
 rfl
theorem lU {ds:List D}:enK (.d (.lst ds)) s= .ok ⟨[.d (.lst ds)],fun _=>True,cg ds⟩ s:=by
 unfold enK
 simp only [fB]
def unpK (is:List Nat) (s:SD):Option D→R Unit
 | some (.tup ds)=>if ds.length=is.length then .ok () {s with sl:=bG is ds s.sl} else .bad
 | _=> .bad
theorem w_unp {is:List Nat}:fT is a s=unpK is s (s.cont a):=by
 unfold fT unpK
 rfl
theorem unp2 {i0 i1:Nat} {d0 d1:D}:unpK [i0,i1] ⟨sl,S⟩ (some (.tup [d0,d1]))= .ok () ⟨bG [i0,i1] [d0,d1] sl,S⟩:=rfl
theorem unp3 {i0 i1 i2:Nat} {d0 d1 d2:D}:unpK [i0,i1,i2] ⟨sl,S⟩ (some (.tup [d0,d1,d2]))= .ok () ⟨bG [i0,i1,i2] [d0,d1,d2] sl,S⟩:=rfl
theorem unp4 {i0 i1 i2 i3:Nat} {d0 d1 d2 d3:D}:unpK [i0,i1,i2,i3] ⟨sl,S⟩ (some (.tup [d0,d1,d2,d3]))= .ok () ⟨bG [i0,i1,i2,i3] [d0,d1,d2,d3] sl,S⟩:=rfl
theorem unp5 {i0 i1 i2 i3 i4:Nat} {d0 d1 d2 d3 d4:D}:unpK [i0,i1,i2,i3,i4] ⟨sl,S⟩ (some (.tup [d0,d1,d2,d3,d4]))= .ok () ⟨bG [i0,i1,i2,i3,i4] [d0,d1,d2,d3,d4] sl,S⟩:=rfl
theorem gB {d:D} {is:List Nat} {ds:List D} {l:List (Option Vl)}:bG (i::is) (d::ds) l=bG is ds (l.set i (some (.d d))):=rfl
theorem iw {l:List (Option Vl)}:bG [] [] l=l:=rfl
def m2K (h:Vl→Vl→SD→R Vl) (chk:SD→Vl→Bool) (fb:SD→R Vl):Vl→SD→R Vl:=fun a s=>if chk s a=true then (fb s).bind (h a) else .bad
theorem x_m2 {h:Vl→Vl→SD→R Vl} {chk:SD→Vl→Bool}:m2K h chk fb a s=if chk s a=true then (fb s).bind (h a) else .bad:=rfl
theorem e_m2 {h:Vl→Vl→SD→R Vl} {chk:SD→Vl→Bool}:zM2 chk h fa fb s=(fa s).bind (m2K h chk fb):=rfl
def m1sK (h:Vl→Vl→SD→R Vl) (fb:SD→R Vl):Vl→SD→R Vl:=fun a s=>if isS a=true then (fb s).bind (h a) else .bad
theorem x_m1s {h:Vl→Vl→SD→R Vl} {z:Str}:m1sK h fb (.d (.str z)) s=(fb s).bind (h (.d (.str z))):=rfl
theorem e_m1s {h:Vl→Vl→SD→R Vl}:zM1s h fa fb s=(fa s).bind (m1sK h fb):=rfl
def isLK:Option D→Bool
 | some (.lst _)=>true
 | _=>false
theorem x_isL:isL s a=isLK (s.cont a):=by
 unfold isL isLK
 rfl
theorem nF {l:List D}:isLK (some (.lst l))=true:=rfl
def isDK:Option D→Bool
 | some (.dct _)=>true
 | _=>false
theorem x_isD:isDc s a=isDK (s.cont a):=by
 unfold isDc isDK
 rfl
theorem nG {l:List (Key×D)}:isDK (some (.dct l))=true:=rfl
def rvK (r:D):Unit→SD→R Vl:=fun _ s=> .ok (.d r) s
theorem x_rv {r:D} {u:Unit}:rvK r u s= .ok (.d r) s:=rfl
def b2K (f:D→D→Option (D×D)) (a:Vl) (z:D) (s:SD):Option D→R Vl
 | some c=>match f c z with
  | some (y,r)=>(s.mod y a).bind (rvK r)
  | none=> .bad
 | none=> .bad
theorem w_b2 {f:D→D→Option (D×D)} {z:D}:oB2 f a (.d z) s=b2K f a z s (s.cont a):=by
 unfold oB2 b2K
 rfl
theorem b2K_ok {f:D→D→Option (D×D)} {z c r:D} (h:f c z=some (y,r)):b2K f a z s (some c)=(s.mod y a).bind (rvK r):=by
 unfold b2K
 simp only [h]
theorem kL {z:D} {ds:List D}:b2K aM a z s (some (.lst ds))=if ds.length<sizeLine then (s.mod (.lst (ds++ [z])) a).bind (rvK .non) else .bad:=by
 unfold b2K aM
 by_cases h:ds.length<sizeLine<;> simp only [h,if_true,if_false]
theorem kK {es ds:List D}:b2K dN a (.lst es) s (some (.lst ds))=if ds.length+es.length≤sizeLine then (s.mod (.lst (ds++es)) a).bind (rvK .non) else .bad:=by
 unfold b2K dN
 by_cases h:ds.length+es.length≤sizeLine<;> simp only [h,if_true,if_false]
def b1K (f:D→Option (D×D)) (a:Vl) (s:SD):Option D→R Vl
 | some c=>match f c with
  | some (y,r)=>(s.mod y a).bind (rvK r)
  | none=> .bad
 | none=> .bad
theorem w_b1 {f:D→Option (D×D)}:oB1 f a s=b1K f a s (s.cont a):=by
 unfold oB1 b1K
 rfl
theorem oF {ds:List D}:b1K dO a s (some (.lst ds))=(s.mod (.lst []) a).bind (rvK .non):=rfl
theorem kM {ds:List (Key×D)}:b1K fDClear a s (some (.dct ds))=(s.mod (.dct []) a).bind (rvK .non):=rfl
theorem mY:SD.mod ⟨sl,S⟩ y (.d (.cell i))= .ok () ⟨sl,S.put i y⟩:=rfl
def modK (s:SD) (y:D) (k:Nat):Option (Option Vl)→R Unit
 | some (some (.own _))=> .ok () {s with sl:=s.sl.set k (some (.own y))}
 | some (some (.d (.cell i)))=> .ok () {s with st:=s.st.put i y}
 | _=> .bad
theorem ro:s.mod y (.loc k)=modK s y k s.sl[k]? :=by
 unfold SD.mod modK
 rfl
theorem mZ:modK ⟨sl,S⟩ y k (some (some (.own x)))= .ok () ⟨sl.set k (some (.own y)),S⟩:=rfl
def sfK (cls:List Str) (f:Str) (x:D) (a:Vl) (s:SD):Option D→R Fl
 | some (.obj c fs)=>if c∈cls∧fs.length<1000 then (s.mod (.obj c (gb f x fs)) a).bind nxK else .bad
 | _=> .bad
def sf3 (cls:List Str) (f:Str) (x:D):Vl→SD→R Fl:=fun a s=>sfK cls f x a s (s.cont a)
theorem x_sf3 {cls:List Str} {f:Str}:sf3 cls f x a s=sfK cls f x a s (s.cont a):=rfl
def sf2 (cls:List Str) (f:Str) (fo:SD→R Vl):D→SD→R Fl:=fun x s=>(fo s).bind (sf3 cls f x)
theorem x_sf2 {cls:List Str} {f:Str}:sf2 cls f fa x s=(fa s).bind (sf3 cls f x):=rfl
def sf1 (cls:List Str) (f:Str) (fo:SD→R Vl):Vl→SD→R Fl:=fun v s=>(s.fix v).bind (sf2 cls f fo)
theorem x_sf1 {cls:List Str} {f:Str}:sf1 cls f fa a s=(s.fix a).bind (sf2 cls f fa):=rfl
theorem e_sf {cls:List Str} {f:Str} {fo fv:SD→R Vl}:cF cls f fo fv s=(fv s).bind (sf1 cls f fo):=by
 unfold cF sf1 sf2 sf3 sfK
 rfl
theorem et {c f:Str} {fs:List (Str×D)} (h:fs.length<1000):sfK [c] f x a s (some (.obj c fs))=(s.mod (.obj c (gb f x fs)) a).bind nxK:=by
 unfold sfK
 simp only [List.mem_singleton,h,and_self,if_true]
theorem sfn0 {c f:Str}:sfK [c] f x a s (some (.obj c []))=(s.mod (.obj c (gb f x [])) a).bind nxK:=et (by simp)
theorem sfn1 {c f:Str} {p0:Str×D}:sfK [c] f x a s (some (.obj c [p0]))=(s.mod (.obj c (gb f x [p0])) a).bind nxK:=et (by simp)
theorem sfn2 {c f:Str} {p0 p1:Str×D}:sfK [c] f x a s (some (.obj c [p0,p1]))=(s.mod (.obj c (gb f x [p0,p1])) a).bind nxK:=et (by simp)
theorem sfn3 {c f:Str} {p0 p1 p2:Str×D}:sfK [c] f x a s (some (.obj c [p0,p1,p2]))=(s.mod (.obj c (gb f x [p0,p1,p2])) a).bind nxK:=et (by simp)
theorem sfn4 {c f:Str} {p0 p1 p2 p3:Str×D}:sfK [c] f x a s (some (.obj c [p0,p1,p2,p3]))=(s.mod (.obj c (gb f x [p0,p1,p2,p3])) a).bind nxK:=et (by simp)
theorem sfn5 {c f:Str} {p0 p1 p2 p3 p4:Str×D}:sfK [c] f x a s (some (.obj c [p0,p1,p2,p3,p4]))=(s.mod (.obj c (gb f x [p0,p1,p2,p3,p4])) a).bind nxK:=et (by simp)
theorem sfn6 {c f:Str} {p0 p1 p2 p3 p4 p5:Str×D}:sfK [c] f x a s (some (.obj c [p0,p1,p2,p3,p4,p5]))=(s.mod (.obj c (gb f x [p0,p1,p2,p3,p4,p5])) a).bind nxK:=et (by simp)
theorem sfn7 {c f:Str} {p0 p1 p2 p3 p4 p5 p6:Str×D}:sfK [c] f x a s (some (.obj c [p0,p1,p2,p3,p4,p5,p6]))=(s.mod (.obj c (gb f x [p0,p1,p2,p3,p4,p5,p6])) a).bind nxK:=et (by simp)
theorem sfn8 {c f:Str} {p0 p1 p2 p3 p4 p5 p6 p7:Str×D}:sfK [c] f x a s (some (.obj c [p0,p1,p2,p3,p4,p5,p6,p7]))=(s.mod (.obj c (gb f x [p0,p1,p2,p3,p4,p5,p6,p7])) a).bind nxK:=et (by simp)
def mkR (i:Nat) (s:SD):R Vl→R Vl
 | .ok (.d .non) s' => .ok (.d (.cell i)) {s with st:=s'.st}
 | .ex c fs s' => .ex c fs {s with st:=s'.st}
 | _=> .bad
def mkK (c:Str) (F:FnV) (dds:List D):List D→SD→R Vl:=fun ds s1=>mkR s1.st.nx s1 (F (.cell s1.st.nx::(ds++dds)) (s1.st.new (.obj c [])))
theorem x_mk {c:Str} {F:FnV} {dds ds:List D}:mkK c F dds ds s=mkR s.st.nx s (F (.cell s.st.nx::(ds++dds)) (s.st.new (.obj c []))):=rfl
theorem e_mk {c:Str} {F:FnV} {dds:List D}:ef c F dds fr s=(fr s).bind (mkK c F dds):=by
 unfold ef mkK mkR
 rfl
theorem nf {F:FnV} {ds:List D} {S' S'' :Sto} (h:∀s:SD,goF F ds ⟨s.sl,S'⟩= .ok (.d .non) ⟨s.sl,S''⟩):mkR i ⟨sl,S⟩ (F ds S')= .ok (.d (.cell i)) ⟨sl,S''⟩:=by
 have h:=h ⟨sl,S⟩
 unfold goF at h
 cases e:F ds S' with
 | bad=>rw [show (⟨sl,S'⟩:SD).st=S' from rfl,e] at h; cases h
 | ex c fs s' =>rw [show (⟨sl,S'⟩:SD).st=S' from rfl,e] at h; cases h
 | ok a s' =>
  rw [show (⟨sl,S'⟩:SD).st=S' from rfl,e] at h
  simp only [R.ok.injEq,SD.mk.injEq,true_and] at h
  obtain ⟨rfl,rfl⟩:=h
  rfl
noncomputable def stK' (f:D→D→Option D) (o:Vl) (z:D) (s:SD):Option D→R Unit
 | some c=>match f c z with
  | some y=>s.mod y o
  | none=> .bad
 | none=> .bad
theorem x_sto {f:D→D→Option D} {z:D}:stO f a (.d z) s=stK' f a z s (s.cont a):=by
 unfold stO stK'
 rfl
noncomputable def dp4 (x:D) (o:Vl):Vl→SD→R Unit:=fun i s=>stO (sN x) o i s
theorem x_dp4:dp4 x a b s=stO (sN x) a b s:=rfl
noncomputable def dp3 (fi:SD→R Vl) (x:D):Vl→SD→R Unit:=fun o s=>(fi s).bind (dp4 x o)
theorem x_dp3:dp3 fa x a s=(fa s).bind (dp4 x a):=rfl
noncomputable def dp2 (fo fi:SD→R Vl):D→SD→R Fl:=fun x s=>((fo s).bind (dp3 fi x)).bind nxK
theorem x_dp2:dp2 fa fb x s=((fa s).bind (dp3 fb x)).bind nxK:=rfl
noncomputable def dp1 (fo fi:SD→R Vl):Vl→SD→R Fl:=fun v s=>(s.fix v).bind (dp2 fo fi)
theorem x_dp1:dp1 fa fb a s=(s.fix a).bind (dp2 fa fb):=rfl
theorem e_dp:tU fa fb fc s=(fc s).bind (dp1 fa fb):=by
 unfold tU dp1 dp2 dp3 dp4
 rfl
def dispK:List (Key×D)→SD→R Vl:=fun ks s=>if ks.length≤15 then .ok (.own (.dct (kF ks))) s else .bad
theorem x_disp {ks:List (Key×D)}:dispK ks s=if ks.length≤15 then .ok (.own (.dct (kF ks))) s else .bad:=rfl
theorem e_disp {fp:SD→R (List (Key×D))}:zDisp fp s=(fp s).bind dispK:=rfl
def p3K (kk:Key) (x:D):List (Key×D)→SD→R (List (Key×D)):=fun ks s=> .ok ((kk,x)::ks) s
theorem x_p3 {kk:Key} {ks:List (Key×D)}:p3K kk x ks s= .ok ((kk,x)::ks) s:=rfl
def p2K (kk:Key) (fp:SD→R (List (Key×D))):D→SD→R (List (Key×D)):=fun x s=>(fp s).bind (p3K kk x)
theorem x_p2 {kk:Key} {fp:SD→R (List (Key×D))}:p2K kk fp x s=(fp s).bind (p3K kk x):=rfl
def p1K (kk:Key) (fp:SD→R (List (Key×D))):Vl→SD→R (List (Key×D)):=fun a s=>(s.fix a).bind (p2K kk fp)
theorem x_p1 {kk:Key} {fp:SD→R (List (Key×D))}:p1K kk fp a s=(s.fix a).bind (p2K kk fp):=rfl
theorem e_p {kk:Key} {fv:SD→R Vl} {fp:SD→R (List (Key×D))}:zP kk fv fp s=(fv s).bind (p1K kk fp):=rfl
theorem e_p0:zP0 s= .ok [] s:=rfl
def wkK (wk:Wk):Vl→SD→R Src:=fun a s1=>match a with
 | .d (.dct ks)=> .ok ⟨[.d (.dct ks)],fun _=>True,wk.ds ks⟩ s1
 | _=> .bad
theorem x_wk {wk:Wk} {ks:List (Key×D)}:wkK wk (.d (.dct ks)) s= .ok ⟨[.d (.dct ks)],fun _=>True,wk.ds ks⟩ s:=rfl
theorem e_walk {wk:Wk}:kO wk fa s=(aL fa s).bind (wkK wk):=by
 unfold kO wkK
 rfl
noncomputable def forK (fz:Vl→SD→R Unit) (fb:SD→R Fl):Src→SD→R Fl:=fun src s1=>if Nl src.hs then du src.ok (fun d s=>(fz (.d d) s).bind fun _ s2=>fb s2) src.ds s1 else .bad
theorem e_for {fi:SD→R Src} {fz:Vl→SD→R Unit} {fb:SD→R Fl}:cK fi fz fb s=(fi s).bind (forK fz fb):=rfl
def pT (fb:SD→R Fl):Unit→SD→R Fl:=fun _ s=>fb s
theorem x_turn {u:Unit}:pT f u s=f s:=Eq.trans rfl rfl
theorem loop_w {ok:SD→Prop} {body:D→SD→R Fl} {Q:Fl→SD→Prop} {E:XQ} {I:Nat→SD→Prop} (hok:∀i s,I i s→ok s):∀{ds:List D} {i:Nat} {s:SD},I i s→
  (∀j d s,ds[j]? =some d→I (i+j) s→Wp (body d s) (fun fl s' =>match fl with | .nx=>I (i+j+1) s' | .ct=>I (i+j+1) s' | .bk=>Q .nx s' | .rt a=>Q (.rt a) s') E)→
  (∀s,I (i+ds.length) s→Q .nx s)→Wp (du ok body ds s) Q E
 | [],i,s,h,_,last=>by
  unfold du
  rw [if_pos (hok _ _ h)]
  exact last s h
 | d::ds,i,s,h,step,last=>by
  unfold du
  rw [if_pos (hok _ _ h),ae]
  have h1:=step 0 d s rfl h
  refine h1.mono (fun fl s' hh=>?_) fun _ _ _ h=>h
  have go:I (i+1) s'→Wp (du ok body ds s') Q E:=fun hI=>loop_w hok hI (fun j d s e hj=>by
   have:=step (j+1) d s e (by rw [show i+(j+1)=i+1+j by omega]; exact hj)
   rw [show i+(j+1)+1=i+1+j+1 by omega] at this
   exact this) fun s hs=>last s (by rw [List.length_cons,show i+(ds.length+1)=i+1+ds.length by omega]; exact hs)
  cases fl with
  | nx=>exact go hh
  | ct=>exact go hh
  | bk=>exact hh
  | rt a=>exact hh
theorem fP {src:Src} {fz:Vl→SD→R Unit} {fb:SD→R Fl} {Q:Fl→SD→Prop} {E:XQ} (I:Nat→SD→Prop) (hN:Nl src.hs) (hok:∀i s,I i s→src.ok s) (h:I 0 s)
  (step:∀j d s,src.ds[j]? =some d→I j s→Wp ((fz (.d d) s).bind (pT fb)) (fun fl s' =>match fl with | .nx=>I (j+1) s' | .ct=>I (j+1) s' | .bk=>Q .nx s' | .rt a=>Q (.rt a) s') E)
  (last:∀s,I src.ds.length s→Q .nx s):Wp (forK fz fb src s) Q E:=by
 unfold forK
 rw [if_pos hN]
 exact loop_w (I:=I) (i:=0) hok h (fun j d s e hj=>by simp only [Nat.zero_add] at hj ⊢; exact step j d s e hj) fun s hs=>last s (by simpa using hs)
noncomputable def pD (a:Vl):Vl→SD→R Src:=fun b s2=>match s2.cont a,s2.cont b with
 | some (.lst xs),some (.lst ys)=> .ok ⟨[a,b],fun s=>s.cont a=some (.lst xs)∧s.cont b=some (.lst ys),pk xs ys⟩ s2
 | _,_=> .bad
noncomputable def zip1K (fb:SD→R Vl):Vl→SD→R Src:=fun a s1=>(aL fb s1).bind (pD a)
theorem x_zip1:zip1K fb a s=(aL fb s).bind (pD a):=rfl
theorem e_zip:zZip fa fb s=(aL fa s).bind (zip1K fb):=by
 unfold zZip zip1K pD
 rfl
theorem zip2_ok {xs ys:List D} (h1:s.cont a=some (.lst xs)) (h2:s.cont b=some (.lst ys)):pD a b s= .ok ⟨[a,b],fun s=>s.cont a=some (.lst xs)∧s.cont b=some (.lst ys),pk xs ys⟩ s:=by
 unfold pD
 simp only [h1,h2]
def _root_.Z.Sto.tick (S:Sto):Sto:= {nx:=S.nx+1,get:=fun j=>if j=S.nx then none else S.get j}
theorem iW {S:Sto}:(S.put i x).put i y=S.put i y:=by
 unfold Sto.put
 congr 1
 funext j
 show (if j=i then _ else if j=i then _ else _)=_
 by_cases h:j=i<;> simp [h]
theorem lp {S:Sto}:(S.new x).put S.nx y=S.new y:=by
 unfold Sto.put Sto.new
 congr 1
 funext j
 show (if j=S.nx then _ else if j=S.nx then _ else _)=_
 by_cases h:j=S.nx<;> simp [h]
theorem aU {S:Sto}:(S.new x).get S.nx=some x:=if_pos rfl
theorem bV {S:Sto} (h:i≠S.nx):(S.new x).get i=S.get i:=if_neg h
theorem new_del {S:Sto}:(S.new x).del S.nx=S.tick:=by
 unfold Sto.del Sto.new Sto.tick
 congr 1
 funext j
 show (if j=S.nx then _ else if j=S.nx then _ else _)=_
 by_cases h:j=S.nx<;> simp [h]
theorem kT {S:Sto} (h:i≠S.nx):S.tick.get i=S.get i:=if_neg h
theorem sH {S:Sto}:SD.frz ⟨sl,S.new x⟩ (.d (.cell S.nx))= .ok x ⟨sl,S.tick⟩:=by
 rw [uP aU,new_del]
theorem tick_nx {S:Sto}:S.tick.nx=S.nx+1:=rfl
theorem put_nx {S:Sto}:(S.put i x).nx=S.nx:=rfl
theorem mR {S:Sto}:(S.new x).nx=S.nx+1:=rfl
abbrev XF:XQ:=fun _ _ _=>False
def iG (fz:Vl→SD→R Unit) (ft:SD→R Bool) (fe:SD→R Vl) (is:List Nat) (s0:SD) (p:D→Bool) (f:D→D) (d:D):Prop:=
 Wp (fz (.d d) s0) (fun _ s1=>Wp (ft s1) (fun b s2=>b=p d∧(b=true→Wp (fe s2) (fun a s3=>Wp (s3.fix a) (fun y s4=>y=f d∧s4.wipe is=s0) XF) XF)∧(b=false→s2.wipe is=s0)) XF) XF
theorem Wp.is {α:Type} {m:R α} {Q:α→SD→Prop} (h:Wp m Q XF):∃a s,m= .ok a s∧Q a s:=by
 cases m with
 | ok a s=>exact ⟨a,s,rfl,h⟩
 | ex c fs s=>exact h.elim
 | bad=>exact h.elim
theorem ny {ok:SD→Prop} {fz:Vl→SD→R Unit} {ft:SD→R Bool} {fe:SD→R Vl} {is:List Nat} {s0:SD} {p:D→Bool} {f:D→D} (h0:ok s0):∀{ds acc:List D},(∀d∈ds,iG fz ft fe is s0 p f d)→acc.length+ds.length≤sizeLine→
  fZ ok fz ft fe is ds acc s0= .ok (acc++(ds.filter p).map f) s0
 | [],acc,_,_=>by
  unfold fZ
  rw [if_pos h0]
  simp
 | d::ds,acc,h,hl=>by
  unfold fZ
  rw [if_pos h0]
  have h1:=h d (List.mem_cons_self ..)
  unfold iG at h1
  obtain ⟨_,s1,e1,h1⟩:=h1.is
  obtain ⟨b,s2,e2,hb,h2,h3⟩:=h1.is
  rw [List.length_cons] at hl
  have ih:=fun acc hl=>ny (acc:=acc) h0 (fun d hd=>h d (List.mem_cons_of_mem _ hd)) hl
  rw [e1]
  show R.bind (R.nx (ft s1)) _=_
  rw [e2]
  cases b with
  | true=>
   obtain ⟨a,s3,e3,h4⟩:=(h2 rfl).is
   obtain ⟨y,s4,e4,hy,h5⟩:=h4.is
   show R.bind (R.nx (fe s2)) _=_
   rw [e3]
   show R.bind (s3.fix a) _=_
   rw [e4]
   show (if acc.length<sizeLine then fZ ok fz ft fe is ds (acc++ [y]) (s4.wipe is) else .bad)=_
   rw [if_pos (by omega),h5,ih _ (by simp; omega),List.filter_cons_of_pos (by rw [←hb]),hy]
   simp
  | false=>
   show fZ ok fz ft fe is ds acc (s2.wipe is)=_
   rw [h3 rfl,ih _ (by omega),List.filter_cons_of_neg (by rw [←hb]; decide)]
noncomputable def lcK (fz:Vl→SD→R Unit) (ft:SD→R Bool) (fe:SD→R Vl) (is:List Nat):Src→SD→R Vl:=fun src s1=>if Nl src.hs then (fZ src.ok fz ft fe is src.ds [] (s1.wipe is)).nx.bind fun acc s2=> .ok (.own (.lst acc)) s2 else .bad
theorem e_lc {fi:SD→R Src} {fz:Vl→SD→R Unit} {ft:SD→R Bool} {is:List Nat}:zLc fi fz ft fa is s=(fi s).bind (lcK fz ft fa is):=rfl
theorem Nl.d1 {x:D}:Nl [.d x]:=fun e he j=>by rw [List.mem_singleton.mp he]; exact fun h=>nomatch h
theorem lc_pure {src:Src} {fz:Vl→SD→R Unit} {ft:SD→R Bool} {fe:SD→R Vl} {is:List Nat} {s1 s0:SD} (p:D→Bool) (f:D→D) (e0:s1.wipe is=s0) (hN:Nl src.hs) (h0:src.ok s0) (h:∀d∈src.ds,iG fz ft fe is s0 p f d) (hl:src.ds.length≤sizeLine):
  lcK fz ft fe is src s1= .ok (.own (.lst ((src.ds.filter p).map f))) s0:=by
 unfold lcK
 rw [if_pos hN,e0,ny h0 h (by simpa using hl)]
 rfl
theorem lc_map {src:Src} {fz:Vl→SD→R Unit} {fe:SD→R Vl} {is:List Nat} {s1 s0:SD} (f:D→D) (e0:s1.wipe is=s0) (hN:Nl src.hs) (h0:src.ok s0) (h:∀d∈src.ds,iG fz fH fe is s0 (fun _=>true) f d) (hl:src.ds.length≤sizeLine):
  lcK fz fH fe is src s1= .ok (.own (.lst (src.ds.map f))) s0:=by
 rw [lc_pure (fun _=>true) f e0 hN h0 h hl,List.filter_eq_self.mpr fun _ _=>rfl]
theorem e_yes:fH s= .ok true s:=rfl
def pB:Vl→SD→R Src:=fun a s1=>match s1.cont a with
 | some (.lst ds)=> .ok ⟨[a],fun s=>s.cont a=some (.lst ds),ds⟩ s1
 | some (.con ds)=> .ok ⟨[a],fun s=>s.cont a=some (.con ds),ds⟩ s1
 | _=> .bad
theorem e_itL:eS fa s=(fa s).bind pB:=by
 unfold eS
 rfl
theorem jE {ds:List D}:pB (.d (.lst ds)) s= .ok ⟨[.d (.lst ds)],fun _=>True,ds⟩ s:=by
 unfold pB
 simp only [fB]
theorem jF {ds:List D}:pB (.d (.con ds)) s= .ok ⟨[.d (.con ds)],fun _=>True,ds⟩ s:=by
 unfold pB
 simp only [jt]
theorem fj {ds:List D} (h:s.st.get i=some (.lst ds)):pB (.d (.cell i)) s= .ok ⟨[.d (.cell i)],fun s=>s.st.get i=some (.lst ds),ds⟩ s:=by
 unfold pB
 simp only [hV,h]
def itSK:Vl→SD→R Src:=fun a s1=>match a with
 | .d (.str z)=> .ok ⟨[a],fun _=>True,signs z⟩ s1
 | _=> .bad
theorem e_itS:zItS fa s=(fa s).bind itSK:=by
 unfold zItS
 rfl
theorem x_itS {z:Str}:itSK (.d (.str z)) s= .ok ⟨[.d (.str z)],fun _=>True,signs z⟩ s:=rfl
theorem pI {is:List Nat}:SD.wipe ⟨sl,S⟩ is=⟨dr sl is,S⟩:=rfl
theorem jC {l:List (Option Vl)}:dr l []=l:=rfl
theorem iq {l:List (Option Vl)} {v:Nat} {vs:List Nat}:dr l (v::vs)=(dr l vs).set v none:=rfl
def flv:Fl→Option Vl
 | .nx=>some (.d .non)
 | .rt (.d x)=>some (.d x)
 | .rt (.own x)=>some (.own x)
 | _=>none
theorem pE {n:Nat} {b:SD→R Fl} {ds:List D} {fl:Fl} {s' :SD} {a:Vl} (h:b ⟨starts n ds,S⟩= .ok fl s') (e:flv fl=some a):zFn n b ds S= .ok a s' :=by
 unfold zFn
 rw [h]
 cases fl with
 | nx=>cases e; rfl
 | bk=>cases e
 | ct=>cases e
 | rt r=>cases r<;> cases e<;> rfl
theorem go_p {n:Nat} {b:SD→R Fl} {ds:List D} {r:Vl} (h:Wp (b ⟨starts n ds,s.st⟩) (fun fl s' =>flv fl=some r∧s'.st=s.st) (fun _ _ _=>False)):goF (zFn n b) ds s= .ok r s:=by
 cases e:b ⟨starts n ds,s.st⟩ with
 | bad=>rw [e] at h; exact h.elim
 | ex c fs s' =>rw [e] at h; exact h.elim
 | ok fl s' =>
  rw [e] at h
  obtain ⟨h1,h2⟩:=h
  unfold goF
  rw [pE e h1]
  show R.ok r {s with st:=s'.st}=_
  rw [h2]
theorem lB {n:Nat} {b:SD→R Fl} {ds:List D} {r:Vl} {S' :Sto} (h:Wp (b ⟨starts n ds,S⟩) (fun fl s' =>flv fl=some r∧s'.st=S') (fun _ _ _=>False)):goF (zFn n b) ds ⟨sl,S⟩= .ok r ⟨sl,S'⟩:=by
 cases e:b ⟨starts n ds,S⟩ with
 | bad=>rw [e] at h; exact h.elim
 | ex c fs s' =>rw [e] at h; exact h.elim
 | ok fl s' =>
  rw [e] at h
  obtain ⟨h1,h2⟩:=h
  unfold goF
  show (match zFn n b ds S with | .ok a s' =>R.ok a {(⟨sl,S⟩:SD) with st:=s'.st} | .ex c fs s' => .ex c fs {(⟨sl,S⟩:SD) with st:=s'.st} | .bad=> .bad)=_
  rw [pE e h1]
  show R.ok r (⟨sl,s'.st⟩:SD)=_
  rw [h2]
end
section
variable {α:Type} {s:SD} {sl:List (Option Vl)} {c f:Str} {fs:List (Str×D)} {a:Vl} {x:D} {fa:SD→R Vl} {k:α→SD→R β} {Q:α→SD→Prop} {E:XQ} {b:SD→R Fl} {ds:List D}
def qF (c:Str) (_:Vl) (s:SD):R Fl:= .ex c [] s
def la (c f:Str) (x:D) (s:SD):R Fl:= .ex c [(f,x)] s
def qE (c f:Str) (a:Vl) (s:SD):R Fl:=(s.fix a).bind (la c f)
theorem nZ:zRaise0 c fa s=(fa s).bind (qF c):=rfl
theorem x_r0:qF c a s= .ex c [] s:=rfl
theorem nY:zRaise1 c f fa s=(fa s).bind (qE c f):=rfl
theorem x_r1:qE c f a s=(s.fix a).bind (la c f):=rfl
theorem x_r2:la c f x s= .ex c [(f,x)] s:=rfl
theorem tK:(R.ex c fs s:R α).bind k= .ex c fs s:=Eq.trans rfl rfl
theorem Wp_ex:Wp (.ex c fs s:R α) Q E=E c fs s:=rfl
theorem oq:s.cont (Vl.d (.exc c fs))=some (.exc c fs):=rfl
def xfK (ok:Str→Bool) (f:Str) (s:SD):Option D→R Vl
 | some (.exc c fs)=>if ok c=true then (match bI fs f with
  | some x=> .ok (.d x) s
  | none=> .bad) else .bad
 | _=> .bad
theorem w_xf {ok:Str→Bool}:oXf ok f a s=xfK ok f s (s.cont a):=rfl
noncomputable def isXK (m:Str→Option Bool) (kd:Bool) (s:SD):Option D→R Vl
 | some (.exc c _)=>(match m c with
  | some b=> .ok (.d (.bl b)) s
  | none=> .bad)
 | some x=>(match x.knd with
  | some _=>if kd=true then .ok (.d (.bl false)) s else .bad
  | none=> .bad)
 | none=> .bad
theorem w_isX {m:Str→Option Bool} {kd:Bool}:oIsX m kd a s=isXK m kd s (s.cont a):=rfl
theorem nB {m:Str→Option Bool}:isXK m true s (some .non)=R.ok (Vl.d (.bl false)) s:=rfl
noncomputable def rg2K:List D→SD→R Src:=fun ds s1=>match ds with
 | [.int i, .int j]=>if -(2 ^ 62)≤i∧i<2 ^ 62∧ -(2 ^ 62)≤j∧j<2 ^ 62 then .ok ⟨[],fun _=>True,upTo i (j - i).toNat⟩ s1 else .bad
 | _=> .bad
theorem e_rg2 {fr:SD→R (List D)}:zRg2 fr s=(fr s).bind rg2K:=by
 unfold zRg2
 rfl
theorem x_rg2 {i j:Int}:rg2K [.int i, .int j] s=if -(2 ^ 62)≤i∧i<2 ^ 62∧ -(2 ^ 62)≤j∧j<2 ^ 62 then .ok ⟨[],fun _=>True,upTo i (j - i).toNat⟩ s else .bad:=rfl
def tryK (m:Str→Option Bool) (i:Nat) (fz:SD→R Fl):R Fl→R Fl
 | .ex c vs s1=>(match m c with
  | some true=>(match fz {s1 with sl:=s1.sl.set i (some (.d (.exc c vs)))} with
   | .ok fl s2=> .ok fl (s2.wipe [i])
   | _=> .bad)
  | some false=> .ex c vs s1
  | none=> .bad)
 | r=>r
theorem pL {x y:Str}:jZ (.d (.str x)) (.d (.str y)) s=if (y.length == 0)=false∧x.length+2≤sizeLine then .ok (.own (.lst ((Txt.split x y).map .str))) s else .bad:=rfl
theorem lY {x y:Str}:gM (.d (.str x)) (.d (.str y)) s= .ok (.d (.bl (Txt.startswith x y))) s:=rfl
theorem w_str {i:Int}:oStr (.d (.int i)) s=if i.natAbs.log2<1920 then .ok (.d (.str (toString i))) s else .bad:=rfl
def tryOK (m:Str→Option Bool) (fs:SD→R Fl):R Fl→R Fl
 | .ex c vs s1=>(match m c with
  | some true=>(match fs s1 with
   | .ok fl s2=> .ok fl s2
   | _=> .bad)
  | some false=> .ex c vs s1
  | none=> .bad)
 | r=>r
theorem e_tryO {m:Str→Option Bool} {fb fs:SD→R Fl}:zTryO m fb fs s=tryOK m fs (fb s):=by
 unfold zTryO tryOK
 rfl
theorem pU {m:Str→Option Bool} {fs:SD→R Fl} {fl:Fl}:tryOK m fs (.ok fl s)= .ok fl s:=Eq.trans rfl rfl
end
section
variable {α:Type} {a b:Vl} {x y:D} {s:SD} {S:Sto} {sl:List (Option Vl)} {f g:SD→R Fl} {fa fb fc:SD→R Vl} {fr:SD→R (List D)} {i j k:Nat}
def parK (i j:Nat):List D→SD→R Fl:=fun ds s1=>match ds with
 | [x,y]=> .ok .nx {s1 with sl:=bG [i,j] [x,y] s1.sl}
 | _=> .bad
theorem e_par:zPar i j fr s=(fr s).bind (parK i j):=rfl
theorem x_par:parK i j [x,y] ⟨sl,S⟩= .ok .nx ⟨(sl.set i (some (.d x))).set j (some (.d y)),S⟩:=rfl
def par3K (i j k:Nat):List D→SD→R Fl:=fun ds s1=>match ds with
 | [x,y,z]=> .ok .nx {s1 with sl:=bG [i,j,k] [x,y,z] s1.sl}
 | _=> .bad
theorem e_par3:zPar3 i j k fr s=(fr s).bind (par3K i j k):=rfl
theorem x_par3 {z:D}:par3K i j k [x,y,z] ⟨sl,S⟩= .ok .nx ⟨((sl.set i (some (.d x))).set j (some (.d y))).set k (some (.d z)),S⟩:=rfl
def vc (i:Nat) (h:Int→Int→Int) (m:Int):Vl→SD→R Fl:=fun b s1=>match b with
 | .d (.int n)=> .ok .nx {s1 with sl:=s1.sl.set i (some (.d (.int (h m n))))}
 | _=> .bad
def augK (i:Nat) (h:Int→Int→Int) (fe:SD→R Vl) (s:SD):Option (Option Vl)→R Fl
 | some (some (.d (.int m)))=>(fe s).bind (vc i h m)
 | _=> .bad
theorem uT {h:Int→Int→Int}:zAug i h fa s=augK i h fa s s.sl[i]? :=by
 unfold zAug augK vc
 rfl
theorem gq {h:Int→Int→Int} {m:Int}:augK i h fa s (some (some (.d (.int m))))=(fa s).bind (vc i h m):=rfl
theorem lX {h:Int→Int→Int} {m n:Int}:vc i h m (.d (.int n)) ⟨sl,S⟩= .ok .nx ⟨sl.set i (some (.d (.int (h m n)))),S⟩:=rfl
noncomputable def as6K (st:D→D→D→Option D) (f:Int→Int→Int) (m:Int) (o:Vl) (z:D):Vl→SD→R Unit:=fun b s3=>match b with
 | .d (.int n)=>stO (st (.int (f m n))) o (.d z) s3
 | _=> .bad
theorem x_as6 {st:D→D→D→Option D} {h:Int→Int→Int} {m n:Int} {z:D}:as6K st h m a z (.d (.int n)) s=stO (st (.int (h m n))) a (.d z) s:=rfl
noncomputable def as5K (st:D→D→D→Option D) (f:Int→Int→Int) (fe:SD→R Vl) (o:Vl) (z:D) (s:SD):Option Int→Option V→R Unit
 | some m,some _=>(fe s).bind (as6K st f m o z)
 | _,_=> .bad
theorem as5_ok {st:D→D→D→Option D} {h:Int→Int→Int} {m:Int} {v:V} {z:D}:as5K st h fa a z s (some m) (some v)=(fa s).bind (as6K st h m a z):=rfl
noncomputable def as4K (g:D→D→Option Int) (st:D→D→D→Option D) (f:Int→Int→Int) (fe:SD→R Vl) (o:Vl) (i:Vl) (s:SD):Option D→R Unit:=fun c=>match i,c with
 | .d z,some c=>as5K st f fe o z s (g c z) (D.sc z)
 | _,_=> .bad
theorem as4_ok {g:D→D→Option Int} {st:D→D→D→Option D} {h:Int→Int→Int} {z c:D}:as4K g st h fa a (.d z) s (some c)=as5K st h fa a z s (g c z) (D.sc z):=rfl
noncomputable def as2K (g:D→D→Option Int) (st:D→D→D→Option D) (f:Int→Int→Int) (fe:SD→R Vl) (o:Vl):Vl→SD→R Unit:=fun i s2=>as4K g st f fe o i s2 (s2.cont o)
theorem x_as2 {g:D→D→Option Int} {st:D→D→D→Option D} {h:Int→Int→Int}:as2K g st h fa a b s=as4K g st h fa a b s (s.cont a):=rfl
noncomputable def as1K (g:D→D→Option Int) (st:D→D→D→Option D) (f:Int→Int→Int) (fi fe:SD→R Vl):Vl→SD→R Unit:=fun o s1=>(fi s1).bind (as2K g st f fe o)
theorem x_as1 {g:D→D→Option Int} {st:D→D→D→Option D} {h:Int→Int→Int}:as1K g st h fa fb a s=(fa s).bind (as2K g st h fb a):=rfl
theorem e_augS {g:D→D→Option Int} {st:D→D→D→Option D} {h:Int→Int→Int}:oN g st h fa fb fc s=((fa s).bind (as1K g st h fb fc)).bind nxK:=by
 unfold oN
 congr 2
theorem gL_at {n m:Int} {ds:List D} (h:atI ds n=some (.int m)):gL (.lst ds) (.int n)=some m:=by
 unfold gL
 simp only [h]
theorem sc_int {n:Int}:D.sc (.int n)=some (.int n):=rfl
theorem sc_str {n:Str}:D.sc (.str n)=some (.str n):=rfl
noncomputable def revK (s:SD):Option D→R Vl
 | some (.lst ds)=> .ok (.own (.lst ds.reverse)) s
 | _=> .bad
theorem w_revL:oRevL a s=revK s (s.cont a):=by
 unfold oRevL revK
 rfl
theorem mz {ds:List D}:revK s (some (.lst ds))= .ok (.own (.lst ds.reverse)) s:=rfl
noncomputable def rvIK:Vl→SD→R Src:=fun a s1=>match s1.cont a with
 | some (.lst ds)=> .ok ⟨[a],fun s=>s.cont a=some (.lst ds),ds.reverse⟩ s1
 | _=> .bad
theorem e_rvI:zRev fa s=(fa s).bind rvIK:=rfl
theorem x_rvI {ds:List D}:rvIK (.d (.lst ds)) s= .ok ⟨[.d (.lst ds)],fun _=>True,ds.reverse⟩ s:=by
 unfold rvIK
 simp only [fB]
noncomputable def itTK:Vl→SD→R Src:=fun a s1=>match s1.cont a with
 | some (.tup ds)=> .ok ⟨[a],fun s=>s.cont a=some (.tup ds),ds⟩ s1
 | _=> .bad
theorem e_itT:oM fa s=(fa s).bind itTK:=rfl
theorem x_itT {ds:List D}:itTK (.d (.tup ds)) s= .ok ⟨[.d (.tup ds)],fun _=>True,ds⟩ s:=by
 unfold itTK
 simp only [jq]
noncomputable def tX (s:SD):Option D→Option D→R Vl
 | some (.lst ds),some (.int i)=>if i=1 then .ok (.own (.lst ds)) s else if i= -1 then .ok (.own (.lst ds.reverse)) s else .bad
 | _,_=> .bad
theorem w_step:oStep a b s=tX s (s.cont a) (s.cont b):=by
 unfold oStep tX
 rfl
theorem mu {ds:List D}:tX s (some (.lst ds)) (some (.int 1))= .ok (.own (.lst ds)) s:=rfl
theorem mw {ds:List D}:tX s (some (.lst ds)) (some (.int (-1)))= .ok (.own (.lst ds.reverse)) s:=rfl
theorem nz {α:Type} {ok:SD→Prop} {fz:Vl→SD→R Unit} {ft:SD→R Bool} {fe:SD→R Vl} {is:List Nat} {s0:SD} (g h:α→D) (p:α→Bool) (h0:ok s0):∀{l:List α} {acc:List D},(∀a∈l,iG fz ft fe is s0 (fun _=>p a) (fun _=>h a) (g a))→acc.length+l.length≤sizeLine→
  fZ ok fz ft fe is (l.map g) acc s0= .ok (acc++(l.filter p).map h) s0
 | [],acc,_,_=>by
  unfold fZ
  show (if ok s0 then _ else _)=_
  rw [if_pos h0]
  simp
 | a::l,acc,ht,hl=>by
  rw [List.map_cons]
  unfold fZ
  rw [if_pos h0]
  have h1:=ht a (List.mem_cons_self ..)
  unfold iG at h1
  obtain ⟨_,s1,e1,h1⟩:=h1.is
  obtain ⟨b,s2,e2,hb,h2,h3⟩:=h1.is
  rw [List.length_cons] at hl
  have ih:=fun acc hl=>nz g h p h0 (acc:=acc) (fun b hb=>ht b (List.mem_cons_of_mem _ hb)) hl
  rw [e1]
  show R.bind (R.nx (ft s1)) _=_
  rw [e2]
  cases b with
  | true=>
   obtain ⟨v,s3,e3,h4⟩:=(h2 rfl).is
   obtain ⟨y,s4,e4,hy,h5⟩:=h4.is
   show R.bind (R.nx (fe s2)) _=_
   rw [e3]
   show R.bind (s3.fix v) _=_
   rw [e4]
   show (if acc.length<sizeLine then fZ ok fz ft fe is (l.map g) (acc++ [y]) (s4.wipe is) else .bad)=_
   rw [if_pos (by omega),h5,ih _ (by simp; omega),List.filter_cons_of_pos hb.symm,hy]
   simp
  | false=>
   show fZ ok fz ft fe is (l.map g) acc (s2.wipe is)=_
   rw [h3 rfl,ih _ (by omega),List.filter_cons_of_neg (fun c=>by rw [show p a=false from hb.symm] at c; cases c)]
theorem gR {α:Type} {src:Src} {fz:Vl→SD→R Unit} {ft:SD→R Bool} {fe:SD→R Vl} {is:List Nat} {s1 s0:SD} {l:List α} (g h:α→D) (p:α→Bool) (ed:src.ds=l.map g) (e0:s1.wipe is=s0) (hN:Nl src.hs) (h0:src.ok s0) (ht:∀a∈l,iG fz ft fe is s0 (fun _=>p a) (fun _=>h a) (g a)) (hl:l.length≤sizeLine):
  lcK fz ft fe is src s1= .ok (.own (.lst ((l.filter p).map h))) s0:=by
 unfold lcK
 rw [if_pos hN,e0,ed,nz g h p h0 ht (by simpa using hl)]
 rfl
theorem gS {α:Type} {src:Src} {fz:Vl→SD→R Unit} {fe:SD→R Vl} {is:List Nat} {s1 s0:SD} {l:List α} (g h:α→D) (ed:src.ds=l.map g) (e0:s1.wipe is=s0) (hN:Nl src.hs) (h0:src.ok s0) (ht:∀a∈l,iG fz fH fe is s0 (fun _=>true) (fun _=>h a) (g a)) (hl:l.length≤sizeLine):
  lcK fz fH fe is src s1= .ok (.own (.lst (l.map h))) s0:=by
 rw [gR g h (fun _=>true) ed e0 hN h0 ht hl,List.filter_eq_self.mpr fun _ _=>rfl]
theorem rh {i j:Int}:neK s (some (.int i)) (some (.int j))= .ok (.d (.bl (!decide (i=j)))) s:=by
 unfold neK
 simp only [lH]
theorem eqK_bl {i j:Bool}:eqK s (some (.bl i)) (some (.bl j))= .ok (.d (.bl (decide (i=j)))) s:=sQ (by
 show some (decide (V.bl i=V.bl j))=_
 congr 1
 apply decide_eq_decide.mpr
 exact ⟨fun h=>by cases h; rfl,fun h=>by rw [h]⟩)
theorem rf {i j:Str}:neK s (some (.str i)) (some (.str j))= .ok (.d (.bl (!decide (i=j)))) s:=by
 unfold neK
 simp only [sZ]
theorem w_max {n k:Int}:oMax (.d (.int n)) (.d (.int k)) s= .ok (.d (.int (if k > n then k else n))) s:=rfl
theorem iH {c:SD→R Bool} {f:SD→R Fl}:∀{n:Nat} {s:SD},fJ c f n s≠ .bad→fJ c f (n+1) s=fJ c f n s
 | 0,s,h=>absurd rfl h
 | n+1,s,h=>by
  unfold fJ
  unfold fJ at h
  cases e:c s with
  | bad=>rfl
  | ex _ _ _=>rfl
  | ok b s1=>
   rw [e] at h
   show (if b=true then _ else _)=(if b=true then _ else _)
   have h:(if b=true then _ else _)≠R.bad:=h
   split
   ·rename_i hb
    rw [if_pos hb] at h
    cases e2:f s1 with
    | bad=>rfl
    | ex _ _ _=>rfl
    | ok fl s2=>
     rw [e2] at h
     cases fl with
     | nx=>exact iH h
     | ct=>exact iH h
     | bk=>rfl
     | rt a=>rfl
   ·rfl
theorem pJ {c:SD→R Bool} {f:SD→R Fl} {n:Nat} {s:SD} (h:fJ c f n s≠ .bad):∀k,fJ c f (n+k) s=fJ c f n s
 | 0=>rfl
 | k+1=>by
  have:=pJ h k
  rw [←this] at h ⊢
  exact iH h
theorem wh_is {c:SD→R Bool} {f:SD→R Fl} {n:Nat} {s:SD} (h:fJ c f n s≠ .bad):zWh c f s=fJ c f n s:=by
 unfold zWh
 have hx:∃n,fJ c f n s≠ .bad:=⟨n,h⟩
 rw [dif_pos hx]
 rcases Nat.le_total (choose hx) n with l | l
 ·obtain ⟨k,rfl⟩:=Nat.exists_eq_add_of_le l
  exact (pJ (choose_spec hx) k).symm
 ·obtain ⟨k,e⟩:=Nat.exists_eq_add_of_le l
  rw [e]
  exact pJ h k
theorem Wp.ne {α:Type} {m:R α} {Q:α→SD→Prop} {E:XQ} (h:Wp m Q E):m≠ .bad:=fun e=>by rw [e] at h; exact h
theorem whN_w {c:SD→R Bool} {f:SD→R Fl} {Q:Fl→SD→Prop} {E:XQ} {I:Nat→SD→Prop}
  (step:∀m s,I m s→Wp (c s) (fun b s1=>if b=true then Wp (f s1) (fun fl s2=>match fl with | .nx=>∃m' <m,I m' s2 | .ct=>∃m' <m,I m' s2 | .bk=>Q .nx s2 | .rt a=>Q (.rt a) s2) E else Q .nx s1) E):
  ∀(m:Nat) (s:SD),I m s→∃n,Wp (fJ c f n s) Q E:=by
 intro m
 induction m using Nat.strongRecOn with
 | _ m ih=>
  intro s hI
  have h:=step m s hI
  cases e:c s with
  | bad=>rw [e] at h; exact h.elim
  | ex cc fs s1=>
   rw [e] at h
   refine ⟨1, ?_⟩
   unfold fJ
   rw [e]
   exact h
  | ok b s1=>
   rw [e] at h
   have h:if b=true then _ else _:=h
   cases b with
   | false=>
    refine ⟨1, ?_⟩
    unfold fJ
    rw [e]
    exact h
   | true=>
    rw [if_pos rfl] at h
    cases e2:f s1 with
    | bad=>rw [e2] at h; exact h.elim
    | ex cc fs s2=>
     rw [e2] at h
     refine ⟨1, ?_⟩
     unfold fJ
     rw [e]
     show Wp (R.bind (f s1) _) Q E
     rw [e2]
     exact h
    | ok fl s2=>
     rw [e2] at h
     have go:(∃m' <m,I m' s2)→∃n,Wp (fJ c f n s2) Q E:=fun ⟨m',l,hI'⟩=>ih m' l s2 hI'
     cases fl with
     | nx=>
      obtain ⟨n,hn⟩:=go h
      refine ⟨n+1, ?_⟩
      unfold fJ
      rw [e]
      show Wp (R.bind (f s1) _) Q E
      rw [e2]
      exact hn
     | ct=>
      obtain ⟨n,hn⟩:=go h
      refine ⟨n+1, ?_⟩
      unfold fJ
      rw [e]
      show Wp (R.bind (f s1) _) Q E
      rw [e2]
      exact hn
     | bk=>
      refine ⟨1, ?_⟩
      unfold fJ
      rw [e]
      show Wp (R.bind (f s1) _) Q E
      rw [e2]
      exact h
     | rt a=>
      refine ⟨1, ?_⟩
      unfold fJ
      rw [e]
      show Wp (R.bind (f s1) _) Q E
      rw [e2]
      exact h
theorem wh_w {c:SD→R Bool} {f:SD→R Fl} {Q:Fl→SD→Prop} {E:XQ} (I:Nat→SD→Prop) {m:Nat} (h:I m s)
  (step:∀m s,I m s→Wp (c s) (fun b s1=>if b=true then Wp (f s1) (fun fl s2=>match fl with | .nx=>∃m' <m,I m' s2 | .ct=>∃m' <m,I m' s2 | .bk=>Q .nx s2 | .rt a=>Q (.rt a) s2) E else Q .nx s1) E):Wp (zWh c f s) Q E:=by
 obtain ⟨n,hn⟩:=whN_w step m s h
 rw [wh_is hn.ne]
 exact hn
end
section
variable {s:SD} {sl:List (Option Vl)} {c f:Str} {a b:Vl} {x:D} {fa fv:SD→R Vl} {ds:List D} {fp:SD→R (List (Key×D))} {k:Nat} {i:Int} {z:Str}
def iR (c f:Str) (x:D) (s:SD):R Fl:=match x with
 | .lst ds=> .ex c [(f, .lst ds)] s
 | _=> .bad
def mE (c f:Str) (a:Vl) (s:SD):R Fl:=(s.fix a).bind (iR c f)
theorem nW:zRaiseL c f fa s=(fa s).bind (mE c f):=rfl
theorem x_rL1:mE c f a s=(s.fix a).bind (iR c f):=rfl
theorem x_rL2:iR c f (.lst ds) s= .ex c [(f, .lst ds)] s:=rfl
noncomputable def countK (s:SD):Option D→Option D→R Vl
 | some (.lst ds),some x=>match scs ds,x.sc with
  | some vs,some v=> .ok (.d (.int ((vs.countP fun z=>eqV z v:Nat):Int))) s
  | _,_=> .bad
 | _,_=> .bad
theorem mb:qU a b s=countK s (s.cont a) (s.cont b):=by
 unfold qU countK
 rfl
def pvK (fv:SD→R Vl) (fp:SD→R (List (Key×D))) (s:SD):Option (Option Vl)→R (List (Key×D))
 | some (some (.d x))=>match x.key with
  | some kk=>zP kk fv fp s
  | none=> .bad
 | _=> .bad
theorem e_pV:zPV k fv fp s=pvK fv fp s s.sl[k]? :=by
 unfold zPV pvK
 rfl
theorem x_pVi:pvK fv fp s (some (some (.d (.int i))))=zP (.inl i) fv fp s:=rfl
theorem x_pVs:pvK fv fp s (some (some (.d (.str z))))=zP (.inr z) fv fp s:=rfl
noncomputable def isNK (neg:Bool) (s:SD):Option D→R Vl
 | some x=>if x.box=true then .ok (.d (.bl neg)) s else .bad
 | none=> .bad
theorem jI {neg:Bool}:iy neg (.loc k) (.d .non) s=isNK neg s (s.cont (.loc k)):=by
 unfold iy isNK
 rfl
theorem nE {neg:Bool}:isNK neg s (some (.lst ds))= .ok (.d (.bl neg)) s:=rfl
end
section
variable {s:SD} {S:Sto} {sl:List (Option Vl)} {c f:Str} {a b:Vl} {x:D} {fa:SD→R Vl} {ds:List D}
def iS (c f:Str) (x:D) (s:SD):R Fl:=match x with
 | .lst ds=> .ex c [(f, .cell s.st.nx)] {s with st:=s.st.new (.lst ds)}
 | _=> .bad
def mF (c f:Str) (a:Vl) (s:SD):R Fl:=(s.fix a).bind (iS c f)
theorem nX:zRaiseC c f fa s=(fa s).bind (mF c f):=rfl
theorem x_rC1:mF c f a s=(s.fix a).bind (iS c f):=rfl
theorem x_rC2:iS c f (.lst ds) ⟨sl,S⟩= .ex c [(f, .cell S.nx)] ⟨sl,S.new (.lst ds)⟩:=rfl
def jf (c f:Str) (s:SD):Option D→R Vl
 | some (.lst ds)=> .ok (.d (.exc c [(f, .lst ds)])) s
 | _=> .bad
def jg (c f:Str) (x:D) (s:SD):R Vl:=jf c f s (s.cont (.d x))
def lA (c f:Str) (a:Vl) (s:SD):R Vl:=(s.fix a).bind (jg c f)
theorem sU:zHeldL c f fa s=(fa s).bind (lA c f):=by
 unfold zHeldL lA jg jf
 rfl
theorem x_hL1:lA c f a s=(s.fix a).bind (jg c f):=rfl
theorem x_hL2:jg c f x s=jf c f s (s.cont (.d x)):=rfl
theorem x_hL3:jf c f s (some (.lst ds))= .ok (.d (.exc c [(f, .lst ds)])) s:=rfl
noncomputable def isUK (mX mC:Str→Option Bool) (s:SD):Option D→R Vl
 | some (.exc c _)=>(match mX c with
  | some b=> .ok (.d (.bl b)) s
  | none=> .bad)
 | some (.obj c _)=>(match mC c with
  | some b=> .ok (.d (.bl b)) s
  | none=> .bad)
 | some x=>(match x.knd with
  | some _=> .ok (.d (.bl false)) s
  | none=> .bad)
 | none=> .bad
theorem w_isU {mX mC:Str→Option Bool}:oIsU mX mC a s=isUK mX mC s (s.cont a):=by
 unfold oIsU isUK
 rfl
noncomputable def ja (s:SD):Option D→R Vl
 | some (.lst ds)=>match ly ds with
  | some ks=>if ks.length≤4000 then .ok (.d (.int (M.ou ks ks.length:Nat))) s else .bad
  | none=> .bad
 | _=> .bad
theorem lZ:dF a s=ja s (s.cont a):=by
 unfold dF ja
 rfl
end
end Z

namespace Rs
open Z (mnL mnL_le mnL_mem)
def sm:Nat→(Nat→Int)→Int
 | 0,_=>0
 | n+1,f=>sm n f+f n
theorem aj:∀{n:Nat} {f g:Nat→Int},(∀k,k<n→f k=g k)→sm n f=sm n g
 | 0,_,_,_=>rfl
 | n+1,f,g,h=>by
  show sm n f+f n=sm n g+g n
  rw [aj fun k hk=>h k (Nat.lt_succ_of_lt hk),h n (Nat.lt_succ_self n)]
theorem my:∀(n:Nat) (f g:Nat→Int),sm n (fun k=>f k+g k)=sm n f+sm n g
 | 0,_,_=>rfl
 | n+1,f,g=>by
  show sm n (fun k=>f k+g k)+(f n+g n)=(sm n f+f n)+(sm n g+g n)
  rw [my n f g]; omega
theorem mx (n:Nat) (f g:Nat→Int):sm n (fun k=>f k - g k)=sm n f - sm n g:=by
 have h:=my n (fun k=>f k - g k) g
 have e:sm n (fun k=>f k - g k+g k)=sm n f:=aj fun k _=>by omega
 omega
theorem bK:∀n:Nat,sm n (fun _=>0)=0
 | 0=>rfl
 | n+1=>by show sm n _+0=0; rw [bK n]; rfl
theorem qj {i:Nat} {x:Int}:∀{n:Nat},n≤i→sm n (fun k=>if k=i then x else 0)=0
 | 0,_=>rfl
 | n+1,h=>by
  show sm n _+(if n=i then x else 0)=0
  rw [qj (by omega),if_neg (by omega)]; rfl
theorem gA {i:Nat} {x:Int}:∀{n:Nat},i<n→sm n (fun k=>if k=i then x else 0)=x
 | 0,h=>absurd h (by omega)
 | n+1,h=>by
  show sm n _+(if n=i then x else 0)=x
  by_cases c:n=i
  ·rw [if_pos c,qj (by omega)]; omega
  ·rw [if_neg c,gA (by omega)]; omega
theorem sm_nn:∀{n:Nat} {f:Nat→Int},(∀k,k<n→0≤f k)→0≤sm n f
 | 0,_,_=>Int.le_refl 0
 | n+1,f,h=>by
  have h1:=sm_nn fun k hk=>h k (Nat.lt_succ_of_lt hk)
  have h2:=h n (Nat.lt_succ_self n)
  show 0≤sm n f+f n
  omega
theorem qk (x:Int):∀(n:Nat) (f:Nat→Int),sm n (fun k=>x*f k)=x*sm n f
 | 0,_=>by show (0:Int)=x*0; omega
 | n+1,f=>by
  show sm n (fun k=>x*f k)+x*f n=x*(sm n f+f n)
  rw [qk x n f,Int.mul_add]
abbrev As:=List (Nat×Nat)
def ta (as:As) (k:Nat):Nat:=(as.getD k (0,0)).1
def he (as:As) (k:Nat):Nat:=(as.getD k (0,0)).2
def hd (as:As) (h:Nat):Nat:=if h%2=0 then he as (h / 2) else ta as (h / 2)
def tl (as:As) (h:Nat):Nat:=if h%2=0 then ta as (h / 2) else he as (h / 2)
def tw (h:Nat):Nat:=if h%2=0 then h+1 else h - 1
theorem tw_div (h:Nat):tw h / 2=h / 2:=by unfold tw; split<;> omega
theorem tw_mod (h:Nat):tw h%2=1 - h%2:=by unfold tw; split<;> omega
theorem tw_ne (h:Nat):tw h≠h:=by unfold tw; split<;> omega
theorem tW {h n:Nat} (c:h<2*n):tw h<2*n:=by unfold tw; split<;> omega
theorem hd_tw (as:As) (h:Nat):hd as (tw h)=tl as h:=by
 unfold hd tl
 rw [tw_div,tw_mod]
 by_cases c:h%2=0
 ·rw [if_pos c,if_neg (by omega)]
 ·rw [if_neg c,if_pos (by omega)]
def eK (as:As):List Nat:=(List.range (2*as.length)).map (hd as)
def starts (as:As) (p:Nat):List Nat:=(List.range (2*as.length)).filter fun h=>decide (tl as h=p)
theorem mem_starts {as:As} {p h:Nat}:h∈starts as p↔h<2*as.length∧tl as h=p:=by
 unfold starts
 rw [List.mem_filter,List.mem_range,decide_eq_true_eq]
def rm (rs:List (Option Int)) (h:Nat):Option Int:=rs.getD h none
def gm (rs:List (Option Int)) (e:Bool) (h:Nat):Bool:=match rm rs h with
 | none=>true
 | some x=>!e&&decide (0<x)
def AsOk (as:As) (m:Nat):Prop:=∀a∈as,a.1<m∧a.2<m
theorem AsOk.at {as:As} {m k:Nat} (o:AsOk as m) (h:k<as.length):ta as k<m∧he as k<m:=by
 have e:as.getD k (0,0)=as[k]:=by rw [List.getD_eq_getElem?_getD,List.getElem?_eq_getElem h]; rfl
 unfold ta he
 rw [e]
 exact o _ (List.getElem_mem h)
theorem AsOk.hd {as:As} {m h:Nat} (o:AsOk as m) (c:h<2*as.length):Rs.hd as h<m:=by
 have:=o.at (k:=h / 2) (by omega)
 unfold Rs.hd
 split
 ·exact this.2
 ·exact this.1
theorem AsOk.tl {as:As} {m h:Nat} (o:AsOk as m) (c:h<2*as.length):Rs.tl as h<m:=by
 rw [←hd_tw]
 exact o.hd (tW c)
structure BS where
 row:List Nat
 came:Nat→Option Nat
def hst (as:As) (rs:List (Option Int)) (e:Bool) (b:BS) (h:Nat):BS:=
 if hd as h∉b.row∧gm rs e h=true then ⟨b.row++ [hd as h],fun p=>if p=hd as h then some h else b.came p⟩ else b
def pst (as:As) (rs:List (Option Int)) (e:Bool) (b:BS) (p:Nat):BS:=(starts as p).foldl (hst as rs e) b
def bfs (as:As) (rs:List (Option Int)) (e:Bool):Nat→Nat→BS→BS
 | 0,_,b=>b
 | n+1,i,b=>match b.row[i]? with
  | none=>b
  | some p=>bfs as rs e n (i+1) (pst as rs e b p)
def bp (as:As) (rs:List (Option Int)) (e:Bool) (m s:Nat):BS:=bfs as rs e m 0 ⟨[s],fun _=>none⟩
theorem tL {as:As} {rs:List (Option Int)} {e:Bool} {i:Nat} {b:BS} (h:b.row.length≤i):∀n,bfs as rs e n i b=b
 | 0=>rfl
 | n+1=>by
  unfold bfs
  rw [List.getElem?_eq_none h]
theorem oC {as:As} {rs:List (Option Int)} {e:Bool} {i n p:Nat} {b:BS} (h:b.row[i]? =some p):bfs as rs e (n+1) i b=bfs as rs e n (i+1) (pst as rs e b p):=by
 show (match b.row[i]? with | none=>b | some p=>bfs as rs e n (i+1) (pst as rs e b p))=_
 rw [h]
structure BOk (as:As) (rs:List (Option Int)) (e:Bool) (m s i:Nat) (b:BS):Prop where
 nd:b.row.Nodup
 lt:∀p∈b.row,p<m
 sr:s∈b.row
 cs:b.came s=none
 out:∀p,p∉b.row→b.came p=none
 inn:∀p∈b.row,p≠s→∃h,b.came p=some h∧h<2*as.length∧hd as h=p∧gm rs e h=true∧tl as h∈b.row∧b.row.idxOf (tl as h)<b.row.idxOf p
 il:i≤b.row.length
 clo:∀p∈b.row.take i,∀h,h<2*as.length→tl as h=p→gm rs e h=true→hd as h∈b.row
section
variable {as:As} {rs:List (Option Int)} {e:Bool} {m s t i p:Nat} {b:BS}
theorem BOk.init (hs:s<m):BOk as rs e m s 0 ⟨[s],fun _=>none⟩ where
 nd:=by simp
 lt:=fun p hp=>by rw [List.mem_singleton.mp hp]; exact hs
 sr:=List.mem_singleton.mpr rfl
 cs:=rfl
 out:=fun _ _=>rfl
 inn:=fun p hp hn=>absurd (List.mem_singleton.mp hp) hn
 il:=Nat.zero_le _
 clo:=fun p hp=>by simp at hp
theorem hst_ok (o:AsOk as m) (B:BOk as rs e m s i b) {h:Nat} (hh:h<2*as.length) (ht:tl as h∈b.row):
  BOk as rs e m s i (hst as rs e b h)∧b.row <+: (hst as rs e b h).row∧(gm rs e h=true→hd as h∈(hst as rs e b h).row):=by
 unfold hst
 by_cases c:hd as h∉b.row∧gm rs e h=true
 ·rw [if_pos c]
  refine ⟨⟨?_, ?_, ?_, ?_, ?_, ?_, ?_, ?_⟩,List.prefix_append _ _,fun _=>List.mem_append_right _ (List.mem_singleton.mpr rfl)⟩
  ·show (b.row++ [hd as h]).Nodup
   rw [List.nodup_append]
   refine ⟨B.nd,by simp,fun x hx y hy=>?_⟩
   rw [List.mem_singleton.mp hy]
   rintro rfl
   exact c.1 hx
  ·intro p hp
   rcases List.mem_append.mp hp with hp | hp
   ·exact B.lt p hp
   ·rw [List.mem_singleton.mp hp]; exact o.hd hh
  ·exact List.mem_append_left _ B.sr
  ·show (if s=hd as h then some h else b.came s)=none
   rw [if_neg fun q:s=hd as h=>c.1 (q ▸ B.sr)]
   exact B.cs
  ·intro p hp
   show (if p=hd as h then some h else b.came p)=none
   rw [if_neg fun q:p=hd as h=>hp (by rw [q]; exact List.mem_append_right _ (List.mem_singleton.mpr rfl))]
   exact B.out p fun q=>hp (List.mem_append_left _ q)
  ·intro p hp hn
   show∃h',(if p=hd as h then some h else b.came p)=some h'∧h' <2*as.length∧hd as h' =p∧gm rs e h' =true∧tl as h'∈b.row++ [hd as h]∧(b.row++ [hd as h]).idxOf (tl as h')<(b.row++ [hd as h]).idxOf p
   by_cases q:p=hd as h
   ·subst q
    refine ⟨h,if_pos rfl,hh,rfl,c.2,List.mem_append_left _ ht, ?_⟩
    rw [List.idxOf_append,if_pos ht,List.idxOf_append,if_neg c.1]
    have:=List.idxOf_lt_length_of_mem ht
    omega
   ·have hp:p∈b.row:=by
     rcases List.mem_append.mp hp with hp | hp
     ·exact hp
     ·exact absurd (List.mem_singleton.mp hp) q
    obtain ⟨h',e1,e2,e3,e4,e5,e6⟩:=B.inn p hp hn
    refine ⟨h',by rw [if_neg q]; exact e1,e2,e3,e4,List.mem_append_left _ e5, ?_⟩
    rw [List.idxOf_append,if_pos e5,List.idxOf_append,if_pos hp]
    exact e6
  ·show i≤(b.row++ [hd as h]).length
   rw [List.length_append]
   have:=B.il
   omega
  ·intro p hp h' e1 e2 e3
   have hp:p∈(b.row++ [hd as h]).take i:=hp
   rw [List.take_append_of_le_length B.il] at hp
   exact List.mem_append_left _ (B.clo p hp h' e1 e2 e3)
 ·rw [if_neg c]
  refine ⟨B,List.prefix_refl _,fun hl=>?_⟩
  exact Classical.byContradiction fun q=>c ⟨q,hl⟩
theorem lD (o:AsOk as m):∀{hs:List Nat} {b:BS},BOk as rs e m s i b→p∈b.row→(∀h∈hs,h<2*as.length∧tl as h=p)→
  BOk as rs e m s i (hs.foldl (hst as rs e) b)∧b.row <+: (hs.foldl (hst as rs e) b).row∧∀h∈hs,gm rs e h=true→hd as h∈(hs.foldl (hst as rs e) b).row
 | [],b,B,_,_=>⟨B,List.prefix_refl _,fun h hh=>(by cases hh)⟩
 | h::hs,b,B,hp,hh=>by
  have h0:=hh h (List.mem_cons_self ..)
  obtain ⟨B1,p1,l1⟩:=hst_ok o B h0.1 (h0.2.symm ▸ hp)
  obtain ⟨B2,p2,l2⟩:=lD o B1 (p1.subset hp) fun h' hh' =>hh h' (List.mem_cons_of_mem _ hh')
  refine ⟨B2,p1.trans p2,fun h' hh' hl=>?_⟩
  rcases List.mem_cons.mp hh' with rfl | hh'
  ·exact p2.subset (l1 hl)
  ·exact l2 h' hh' hl
theorem pst_ok (o:AsOk as m) (B:BOk as rs e m s i b) (hp:b.row[i]? =some p):BOk as rs e m s (i+1) (pst as rs e b p):=by
 obtain ⟨hi,hp⟩:=List.getElem?_eq_some_iff.mp hp
 have hm:p∈b.row:=by rw [←hp]; exact List.getElem_mem hi
 obtain ⟨B1,p1,l1⟩:=lD (hs:=starts as p) o B hm fun h hh=>mem_starts.mp hh
 refine {B1 with il:=?_,clo:=?_}
 ·exact Nat.le_trans hi p1.length_le
 ·intro q hq h e1 e2 e3
  obtain ⟨r,hr⟩:=p1
  have hq:q∈((starts as p).foldl (hst as rs e) b).row.take (i+1):=hq
  have hr2:=hr
  rw [←hr,List.take_append_of_le_length hi,List.take_succ_eq_append_getElem hi] at hq
  rcases List.mem_append.mp hq with hq | hq
  ·refine B1.clo q ?_ h e1 e2 e3
   rw [←hr2,List.take_append_of_le_length B.il]
   exact hq
  ·have hq:=List.mem_singleton.mp hq
   rw [hp] at hq
   exact l1 h (mem_starts.mpr ⟨e1,e2.trans hq⟩) e3
theorem BOk.le (B:BOk as rs e m s i b):b.row.length≤m:=by
 have h:=List.Nodup.length_le_of_subset B.nd (l₂:=List.range m) fun p hp=>List.mem_range.mpr (B.lt p hp)
 simpa using h
theorem bfs_ok (o:AsOk as m):∀(n i:Nat) (b:BS),BOk as rs e m s i b→m≤n+i→∃i',BOk as rs e m s i' (bfs as rs e n i b)∧(bfs as rs e n i b).row.length≤i'
 | 0,i,b,B,h=>⟨i,B,Nat.le_trans B.le (by omega)⟩
 | n+1,i,b,B,h=>by
  cases c:b.row[i]? with
  | none=>
   have:=List.getElem?_eq_none_iff.mp c
   rw [tL this]
   exact ⟨i,B,this⟩
  | some p=>
   rw [oC c]
   exact bfs_ok o n (i+1) _ (pst_ok o B c) (by omega)
structure Wk (as:As) (rs:List (Option Int)) (e:Bool) (m s:Nat) (b:BS):Prop where
 nd:b.row.Nodup
 lt:∀p∈b.row,p<m
 sr:s∈b.row
 cs:b.came s=none
 out:∀p,p∉b.row→b.came p=none
 inn:∀p∈b.row,p≠s→∃h,b.came p=some h∧h<2*as.length∧hd as h=p∧gm rs e h=true∧tl as h∈b.row∧b.row.idxOf (tl as h)<b.row.idxOf p
 clo:∀p∈b.row,∀h,h<2*as.length→tl as h=p→gm rs e h=true→hd as h∈b.row
theorem aE (o:AsOk as m) (hs:s<m):Wk as rs e m s (bp as rs e m s):=by
 obtain ⟨i,B,h⟩:=bfs_ok (rs:=rs) (e:=e) o m 0 _ (BOk.init hs) (by omega)
 exact ⟨B.nd,B.lt,B.sr,B.cs,B.out,B.inn,fun p hp=>B.clo p (by rw [List.take_of_length_le h]; exact hp)⟩
inductive Rch (as:As) (rs:List (Option Int)) (e:Bool) (s:Nat):Nat→Prop
 | base:Rch as rs e s s
 | step {h:Nat}:Rch as rs e s (tl as h)→h<2*as.length→gm rs e h=true→Rch as rs e s (hd as h)
theorem Wk.rch (W:Wk as rs e m s b):p∈b.row↔Rch as rs e s p:=by
 constructor
 ·have:∀n p,p∈b.row→b.row.idxOf p<n→Rch as rs e s p:=by
   intro n
   induction n with
   | zero=>intro p _ h; omega
   | succ n ih=>
    intro p hp hn
    by_cases c:p=s
    ·rw [c]; exact .base
    ·obtain ⟨h,e1,e2,e3,e4,e5,e6⟩:=W.inn p hp c
     rw [←e3]
     exact .step (ih _ e5 (by omega)) e2 e4
  exact fun hp=>this _ p hp (Nat.lt_succ_self _)
 ·intro h
  induction h with
  | base=>exact W.sr
  | step _ h1 h2 ih=>exact W.clo _ ih _ h1 rfl h2
def way (as:As) (came:Nat→Option Nat):Nat→Nat→List Nat
 | 0,_=> []
 | n+1,p=>match came p with
  | none=> []
  | some h=>way as came n (tl as h)++ [h]
inductive Path (as:As) (s:Nat):List Nat→Nat→Prop
 | nil:Path as s [] s
 | snoc {w:List Nat} {h:Nat}:Path as s w (tl as h)→Path as s (w++ [h]) (hd as h)
structure WayOk (as:As) (rs:List (Option Int)) (e:Bool) (s t:Nat) (w:List Nat):Prop where
 path:Path as s w t
 all:∀h∈w,h<2*as.length∧gm rs e h=true
 nd:(s::w.map (hd as)).Nodup
theorem way_ok (W:Wk as rs e m s b):∀{n p:Nat},p∈b.row→b.row.idxOf p<n→
  WayOk as rs e s p (way as b.came n p)∧∀q∈s::(way as b.came n p).map (hd as),q∈b.row∧b.row.idxOf q≤b.row.idxOf p
 | 0,p,_,h=>absurd h (by omega)
 | n+1,p,hp,hn=>by
  unfold way
  by_cases c:p=s
  ·subst c
   rw [W.cs]
   exact ⟨⟨.nil,fun _ h=>(by cases h),by simp⟩,fun q hq=>by rw [List.map_nil,List.mem_singleton] at hq; rw [hq]; exact ⟨hp,Nat.le_refl _⟩⟩
  ·obtain ⟨h,e1,e2,e3,e4,e5,e6⟩:=W.inn p hp c
   rw [e1]
   obtain ⟨O,l⟩:=way_ok W (n:=n) e5 (by omega)
   show WayOk as rs e s p (way as b.came n (tl as h)++ [h])∧∀q∈s::(way as b.came n (tl as h)++ [h]).map (hd as),q∈b.row∧b.row.idxOf q≤b.row.idxOf p
   have em:s::(way as b.came n (tl as h)++ [h]).map (hd as)=(s::(way as b.came n (tl as h)).map (hd as))++ [p]:=by
    rw [List.map_append,List.map_singleton,e3]; rfl
   rw [em]
   refine ⟨⟨?_, ?_, ?_⟩, ?_⟩
   ·have:=Path.snoc O.path
    rw [e3] at this
    exact this
   ·intro h' hh
    rcases List.mem_append.mp hh with hh | hh
    ·exact O.all h' hh
    ·rw [List.mem_singleton.mp hh]; exact ⟨e2,e4⟩
   ·rw [em,List.nodup_append]
    refine ⟨O.nd,by simp,fun x hx y hy=>?_⟩
    rw [List.mem_singleton.mp hy]
    rintro rfl
    have:=(l x hx).2
    omega
   ·intro q hq
    rcases List.mem_append.mp hq with hq | hq
    ·have:=l q hq
     exact ⟨this.1,by omega⟩
    ·rw [List.mem_singleton.mp hq]; exact ⟨hp,Nat.le_refl _⟩
def bO (as:As) (rs:List (Option Int)) (e:Bool) (m s t:Nat):List Nat:=way as (bp as rs e m s).came m t
theorem pK (o:AsOk as m) (hs:s<m) (h:t∉(bp as rs e m s).row):bO as rs e m s t= []:=by
 unfold bO
 cases m with
 | zero=>omega
 | succ n=>
  unfold way
  rw [(aE o hs).out t h]
theorem iJ (o:AsOk as m) (hs:s<m) (h:t∈(bp as rs e m s).row):WayOk as rs e s t (bO as rs e m s t):=by
 have W:=aE (rs:=rs) (e:=e) o hs
 refine (way_ok W h ?_).1
 have h1:=List.idxOf_lt_length_of_mem h
 have h2:=List.Nodup.length_le_of_subset W.nd (l₂:=List.range m) fun p hp=>List.mem_range.mpr (W.lt p hp)
 rw [List.length_range] at h2
 omega
theorem WayOk.ne {w:List Nat} (W:WayOk as rs e s t w) (h:s≠t):w≠ []:=by
 intro q
 have P:=W.path
 rw [q] at P
 generalize e:([]:List Nat)=w' at P
 cases P with
 | nil=>exact h rfl
 | snoc _=>simp at e
theorem gx (o:AsOk as m) (hs:s<m) (h:s≠t):bO as rs e m s t= []↔t∉(bp as rs e m s).row:=
 ⟨fun q c=>(iJ o hs c).ne h q,pK o hs⟩
theorem Path.sum {w:List Nat} (P:Path as s w t) (g:Nat→Int):(w.map fun h=>g (tl as h) - g (hd as h)).sum=g s - g t:=by
 induction P with
 | nil=>simp
 | snoc _ ih=>rw [List.map_append,List.sum_append,ih]; simp; omega
theorem Path.at {w:List Nat} (P:Path as s w t):∀{i h:Nat},w[i]? =some h→(s::w.map (hd as))[i]? =some (tl as h):=by
 have hl:∀{w:List Nat} {t:Nat},Path as s w t→(s::w.map (hd as))[w.length]? =some t:=by
  intro w t P
  cases P with
  | nil=>rfl
  | snoc P=>
   rename_i w h
   rw [List.map_append,←List.cons_append,List.getElem?_append_right (by simp)]
   simp
 induction P with
 | nil=>intro i h e; simp at e
 | snoc P ih=>
  rename_i w h
  intro i h' e
  rw [List.map_append,←List.cons_append]
  by_cases c:i<w.length
  ·rw [List.getElem?_append_left c] at e
   rw [List.getElem?_append_left (by simp; omega)]
   exact ih e
  ·rw [List.getElem?_append_right (by omega)] at e
   have hi:i=w.length:=by
    have:=(List.getElem?_eq_some_iff.mp e).1
    simp at this
    omega
   subst hi
   simp at e
   subst e
   rw [List.getElem?_append_left (by simp)]
   exact hl P
theorem Path.last {w:List Nat} (P:Path as s w t):(s::w.map (hd as))[w.length]? =some t:=by
 cases P with
 | nil=>rfl
 | snoc P=>
  rw [List.map_append,←List.cons_append,List.getElem?_append_right (by simp)]
  simp
end
theorem qA {rs:List (Option Int)} {i h:Nat} {x:Option Int} (hi:i<rs.length):rm (rs.set i x) h=if h=i then x else rm rs h:=by
 unfold rm
 rw [List.getD_eq_getElem?_getD,List.getD_eq_getElem?_getD]
 by_cases c:h=i
 ·subst c; rw [if_pos rfl,List.getElem?_set_self hi]; rfl
 ·rw [if_neg c,List.getElem?_set_ne (fun q=>c q.symm)]
def chg (rs:List (Option Int)) (h:Nat) (x:Int):List (Option Int):=
 let r1:=rs.set h ((rm rs h).map (· +(0 - x)))
 r1.set (tw h) ((rm r1 (tw h)).map (· +x))
theorem lL (rs:List (Option Int)) (h:Nat) (x:Int):(chg rs h x).length=rs.length:=by
 unfold chg
 rw [List.length_set,List.length_set]
theorem rm_chg {rs:List (Option Int)} {n h i:Nat} {x:Int} (hl:rs.length=2*n) (hh:h<2*n):
  rm (chg rs h x) i=if i=tw h then (rm rs i).map (· +x) else if i=h then (rm rs i).map (· +(0 - x)) else rm rs i:=by
 unfold chg
 have h2:=tW hh
 have h3:=tw_ne h
 rw [qA (by rw [List.length_set]; omega),qA (by omega),qA (by omega),if_neg h3]
 by_cases c:i=tw h
 ·subst c; rw [if_pos rfl,if_pos rfl]
 ·rw [if_neg c,if_neg c]
  by_cases c2:i=h
  ·subst c2; rw [if_pos rfl]
  ·rw [if_neg c2,if_neg c2]
def push (rs:List (Option Int)) (w:List Nat) (x:Int):List (Option Int):=w.foldl (fun r h=>chg r h x) rs
structure Shift (n:Nat) (rs rs' :List (Option Int)) (f:Nat→Int):Prop where
 len:rs'.length=rs.length
 rm:∀h,h<2*n→Rs.rm rs' h=(Rs.rm rs h).map (· +(if h%2=0 then 0 - f (h / 2) else f (h / 2)))
def NN (rs:List (Option Int)):Prop:=∀h v,rm rs h=some v→0≤v
def dv (as:As) (f g:Nat→Int):Int:=sm as.length fun k=>f k*(g (ta as k) - g (he as k))
def one (h:Nat) (x:Int):Nat→Int:=fun k=>if k=h / 2 then (if h%2=0 then x else 0 - x) else 0
section
variable {as:As} {rs rs' rs2:List (Option Int)} {e:Bool} {m n s t i p h:Nat} {x a:Int} {f f' g:Nat→Int} {w:List Nat} {U:Nat→Bool}
theorem Shift.refl:Shift n rs rs (fun _=>0):=⟨rfl,fun h _=>by
 cases Rs.rm rs h with
 | none=>rfl
 | some v=>
  show some v=some (v+(if h%2=0 then 0 - 0 else 0))
  congr 1
  split<;> omega⟩
theorem Shift.trans (A:Shift n rs rs' f) (B:Shift n rs' rs2 f'):Shift n rs rs2 (fun k=>f k+f' k):=⟨B.len.trans A.len,fun h hh=>by
 rw [B.rm h hh,A.rm h hh,Option.map_map]
 congr 1
 funext v
 show v+_+_=v+_
 split<;> omega⟩
theorem Shift.none (A:Shift n rs rs' f) (hh:h<2*n):Rs.rm rs' h=Option.none↔Rs.rm rs h=Option.none:=by
 rw [A.rm h hh]
 cases Rs.rm rs h<;> simp
theorem tu (hl:rs.length=2*n) (hh:h<2*n):Shift n rs (chg rs h x) (one h x):=⟨lL ..,fun i hi=>by
 rw [rm_chg hl hh]
 have e1:=tw_div h
 have e2:=tw_mod h
 have h3:=tw_ne h
 unfold one
 by_cases c:i=tw h
 ·subst c
  rw [if_pos rfl,if_pos e1,e2]
  congr 1; funext v
  by_cases c2:h%2=0
  ·rw [if_neg (by omega),if_pos c2]
  ·rw [if_pos (by omega),if_neg c2]; omega
 ·rw [if_neg c]
  by_cases c2:i=h
  ·subst c2
   rw [if_pos rfl,if_pos rfl]
   congr 1; funext v
   by_cases c3:i%2=0
   ·rw [if_pos c3,if_pos c3]
   ·rw [if_neg c3,if_neg c3]
  ·have c3:¬i / 2=h / 2:=fun q=>by
    unfold tw at c
    split at c<;> omega
   rw [if_neg c2,if_neg c3]
   cases rm rs i with
   | none=>rfl
   | some v=>
    show some v=some (v+(if i%2=0 then 0 - 0 else 0))
    congr 1
    split<;> omega⟩
theorem dv_add:dv as (fun k=>f k+f' k) g=dv as f g+dv as f' g:=by
 unfold dv
 rw [←my]
 exact aj fun k _=>Int.add_mul ..
theorem sX:dv as (fun _=>0) g=0:=by
 unfold dv
 rw [aj (g:=fun _=>0) fun k _=>Int.zero_mul _,bK]
theorem dv_one (hh:h<2*as.length):dv as (one h x) g=x*(g (tl as h) - g (hd as h)):=by
 unfold dv
 rw [aj (g:=fun k=>if k=h / 2 then x*(g (tl as h) - g (hd as h)) else 0) fun k hk=>?_,gA (by omega)]
 unfold one tl hd
 by_cases c:k=h / 2
 ·subst c
  rw [if_pos rfl,if_pos rfl]
  by_cases c2:h%2=0
  ·rw [if_pos c2,if_pos c2,if_pos c2]
  ·rw [if_neg c2,if_neg c2,if_neg c2,Int.sub_mul,Int.zero_mul,Int.mul_sub,Int.mul_sub]
   omega
 ·rw [if_neg c,if_neg c,Int.zero_mul]
def flw:List Nat→Int→Nat→Int
 | [],_,_=>0
 | h::w,x,k=>one h x k+flw w x k
theorem dY:∀{w:List Nat} {rs:List (Option Int)},rs.length=2*n→(∀h∈w,h<2*n)→Shift n rs (push rs w x) (flw w x)
 | [],rs,_,_=>Shift.refl
 | h::w,rs,hl,hw=>by
  have h1:=tu (x:=x) hl (hw h (List.mem_cons_self ..))
  exact h1.trans (dY (w:=w) ((lL ..).trans hl) fun h' hh=>hw h' (List.mem_cons_of_mem _ hh))
theorem dv_flw:∀{w:List Nat},(∀h∈w,h<2*as.length)→dv as (flw w x) g=x*(w.map fun h=>g (tl as h) - g (hd as h)).sum
 | [],_=>by
  rw [List.map_nil,List.sum_nil,Int.mul_zero]
  exact sX
 | h::w,hw=>by
  show dv as (fun k=>one h x k+flw w x k) g=_
  rw [dv_add,dv_one (hw h (List.mem_cons_self ..)),dv_flw fun h' hh=>hw h' (List.mem_cons_of_mem _ hh),List.map_cons,List.sum_cons,Int.mul_add]
theorem qL:∀{w:List Nat} {rs:List (Option Int)} {i:Nat} {v v' :Int},rs.length=2*n→0≤x→(∀h∈w,h<2*n)→rm rs i=some v→rm (push rs w x) i=some v'→v - x*(w.count i:Nat)≤v'
 | [],rs,i,v,v',_,_,_,e1,e2=>by
  have e2:rm rs i=some v' :=e2
  rw [e1] at e2
  cases e2
  rw [List.count_nil]
  show v - x*0≤v
  omega
 | h::w,rs,i,v,v',hl,hx,hw,e1,e2=>by
  have e2:rm (push (chg rs h x) w x) i=some v' :=e2
  have hh:=hw h (List.mem_cons_self ..)
  have ih:=fun u eu=>qL (w:=w) (rs:=chg rs h x) (i:=i) (v:=u) ((lL ..).trans hl) hx (fun h' hh=>hw h' (List.mem_cons_of_mem _ hh)) eu e2
  have e3:=rm_chg (i:=i) (x:=x) hl hh
  rw [e1] at e3
  have h3:=tw_ne h
  rw [List.count_cons]
  by_cases c:i=tw h
  ·rw [if_pos c] at e3
   have h1:=ih _ e3
   rw [if_neg (by rw [beq_iff_eq]; exact fun q=>h3 (c.symm.trans q.symm))]
   have:v+x - x*(w.count i:Nat)≤v' :=h1
   show v - x*((w.count i+0:Nat):Int)≤v'
   rw [Nat.add_zero]
   omega
  ·rw [if_neg c] at e3
   by_cases c2:i=h
   ·rw [if_pos c2] at e3
    have h1:=ih _ e3
    rw [if_pos (by rw [beq_iff_eq]; exact c2.symm)]
    have h1:v+(0 - x) - x*(w.count i:Nat)≤v' :=h1
    have:x*((w.count i+1:Nat):Int)=x*(w.count i:Nat)+x:=by rw [Int.natCast_add,Int.mul_add]; show _+x*1=_; rw [Int.mul_one]
    rw [this]
    omega
   ·rw [if_neg c2] at e3
    have h1:=ih _ e3
    rw [if_neg (by rw [beq_iff_eq]; exact fun q=>c2 q.symm),Nat.add_zero]
    exact h1
def aH (rs:List (Option Int)) (w:List Nat):Int:=match w.filterMap (rm rs) with
 | []=>0
 | i::is=>mnL i is
theorem rk {v:Int} (hh:h∈w) (e:rm rs h=some v):aH rs w≤v:=by
 have:v∈w.filterMap (rm rs):=List.mem_filterMap.mpr ⟨h,hh,e⟩
 unfold aH
 cases c:w.filterMap (rm rs) with
 | nil=>rw [c] at this; cases this
 | cons i is=>
  rw [c] at this
  have h1:=mnL_le is i
  rcases List.mem_cons.mp this with rfl | q
  ·exact h1.1
  ·exact h1.2 v q
theorem oZ (hw:∃h∈w,rm rs h≠none):∃h∈w,rm rs h=some (aH rs w):=by
 obtain ⟨h,hh,e⟩:=hw
 obtain ⟨v,e⟩:=Option.ne_none_iff_exists'.mp e
 have:v∈w.filterMap (rm rs):=List.mem_filterMap.mpr ⟨h,hh,e⟩
 suffices hs:aH rs w∈w.filterMap (rm rs) by
  obtain ⟨h',h1,h2⟩:=List.mem_filterMap.mp hs
  exact ⟨h',h1,h2⟩
 unfold aH
 cases c:w.filterMap (rm rs) with
 | nil=>rw [c] at this; cases this
 | cons i is=>
  rcases mnL_mem is i with q | q
  ·show mnL i is∈i::is
   rw [q]; exact List.mem_cons_self ..
  ·exact List.mem_cons_of_mem _ q
theorem nj {v:Int} (h1:gm rs false h=true) (h2:rm rs h=some v):0<v:=by
 unfold gm at h1
 rw [h2] at h1
 simpa using h1
theorem eZ (h1:gm rs true h=true):rm rs h=none:=by
 unfold gm at h1
 cases c:rm rs h with
 | none=>rfl
 | some v=>rw [c] at h1; simp at h1
theorem dH (h1:rm rs h=none):gm rs e h=true:=by
 unfold gm
 rw [h1]
def ind (U:Nat→Bool) (p:Nat):Int:=if U p=true then 1 else 0
def cut (as:As) (U:Nat→Bool) (rs:List (Option Int)):Int:=sm as.length fun k=>
 if U (ta as k)=true then (if U (he as k)=true then 0 else (rm rs (2*k)).getD 0) else if U (he as k)=true then (rm rs (2*k+1)).getD 0 else 0
def Fin (as:As) (U:Nat→Bool) (rs:List (Option Int)):Prop:=∀h,h<2*as.length→U (tl as h)=true→U (hd as h)=false→rm rs h≠none
theorem tl_even {k:Nat}:tl as (2*k)=ta as k∧hd as (2*k)=he as k:=by
 unfold tl hd
 rw [if_pos (by omega),if_pos (by omega),show 2*k / 2=k by omega]
 exact ⟨rfl,rfl⟩
theorem tl_odd {k:Nat}:tl as (2*k+1)=he as k∧hd as (2*k+1)=ta as k:=by
 unfold tl hd
 rw [if_neg (by omega),if_neg (by omega),show (2*k+1) / 2=k by omega]
 exact ⟨rfl,rfl⟩
theorem Shift.even (A:Shift n rs rs' f) {k:Nat} (h:k<n):Rs.rm rs' (2*k)=(Rs.rm rs (2*k)).map (· +(0 - f k)):=by
 rw [A.rm _ (by omega),if_pos (by omega),show 2*k / 2=k by omega]
theorem Shift.odd (A:Shift n rs rs' f) {k:Nat} (h:k<n):Rs.rm rs' (2*k+1)=(Rs.rm rs (2*k+1)).map (· +f k):=by
 rw [A.rm _ (by omega),if_neg (by omega),show (2*k+1) / 2=k by omega]
theorem tf (A:Shift as.length rs rs' f) (F:Fin as U rs):cut as U rs' =cut as U rs - dv as f (ind U):=by
 unfold cut dv
 rw [←mx]
 refine aj fun k hk=>?_
 unfold ind
 have e1:=A.even hk
 have e2:=A.odd hk
 have f1:=F (2*k) (by omega)
 have f2:=F (2*k+1) (by omega)
 rw [tl_even.1,tl_even.2] at f1
 rw [tl_odd.1,tl_odd.2] at f2
 cases c1:U (ta as k) with
 | true=>
  simp only [if_true]
  cases c2:U (he as k) with
  | true=>simp
  | false=>
   have f1:=f1 c1 c2
   simp only [Bool.false_eq_true,if_false]
   rw [e1]
   cases c3:rm rs (2*k) with
   | none=>exact absurd c3 f1
   | some v=>show v+(0 - f k)=v - f k*1; omega
 | false=>
  simp only [Bool.false_eq_true,if_false]
  cases c2:U (he as k) with
  | true=>
   have f2:=f2 c2 c1
   rw [if_pos rfl,if_pos rfl,if_pos rfl,e2]
   cases c3:rm rs (2*k+1) with
   | none=>exact absurd c3 f2
   | some v=>show v+f k=v - f k*(0 - 1); omega
  | false=>simp
theorem sv (N:NN rs) (h:Nat):0≤(rm rs h).getD 0:=by
 cases c:rm rs h with
 | none=>exact Int.le_refl 0
 | some v=>exact N h v c
theorem cut_nn (N:NN rs):0≤cut as U rs:=sm_nn fun k _=>by
 have h1:=sv N (2*k)
 have h2:=sv N (2*k+1)
 (repeat' split)<;> omega
theorem Fin.shift (A:Shift as.length rs rs' f) (F:Fin as U rs):Fin as U rs' :=fun h hh h1 h2 q=>F h hh h1 h2 ((A.none hh).mp q)
theorem Fin.back (A:Shift as.length rs rs' f) (F:Fin as U rs'):Fin as U rs:=fun h hh h1 h2 q=>F h hh h1 h2 ((A.none hh).mpr q)
def Full (as:As) (U:Nat→Bool) (rs:List (Option Int)):Prop:=∀h,h<2*as.length→U (tl as h)=true→U (hd as h)=false→rm rs h=some 0
theorem Full.fin (F:Full as U rs):Fin as U rs:=fun h hh h1 h2 q=>by rw [F h hh h1 h2] at q; cases q
theorem Full.cut (F:Full as U rs):Rs.cut as U rs=0:=by
 unfold Rs.cut
 rw [aj (g:=fun _=>0) fun k hk=>?_,bK]
 have f1:=F (2*k) (by omega)
 have f2:=F (2*k+1) (by omega)
 rw [tl_even.1,tl_even.2] at f1
 rw [tl_odd.1,tl_odd.2] at f2
 cases c1:U (ta as k) with
 | true=>
  rw [if_pos rfl]
  cases c2:U (he as k) with
  | true=>rw [if_pos rfl]
  | false=>rw [if_neg (by decide),f1 c1 c2]; rfl
 | false=>
  rw [if_neg (by decide)]
  cases c2:U (he as k) with
  | true=>rw [if_pos rfl,f2 c2 c1]; rfl
  | false=>rw [if_neg (by decide)]
def bt (as:As) (rs:List (Option Int)) (e:Bool) (m s:Nat) (p:Nat):Bool:=decide (p∈(bp as rs e m s).row)
theorem ub (o:AsOk as m) (hs:s<m):Fin as (bt as rs true m s) rs:=fun h hh h1 h2 q=>by
 have W:=aE (rs:=rs) (e:=true) o hs
 have:=W.clo _ (of_decide_eq_true h1) h hh rfl (dH q)
 exact of_decide_eq_false h2 this
theorem qz (o:AsOk as m) (hs:s<m) (N:NN rs):Full as (bt as rs false m s) rs:=fun h hh h1 h2=>by
 have W:=aE (rs:=rs) (e:=false) o hs
 have h3:=W.clo _ (of_decide_eq_true h1) h hh rfl
 have h4:gm rs false h≠true:=fun q=>of_decide_eq_false h2 (h3 q)
 cases c:rm rs h with
 | none=>exact absurd (dH c) h4
 | some v=>
  have h5:=N h v c
  unfold gm at h4
  rw [c] at h4
  have:¬0<v:=fun q=>h4 (by simpa using q)
  congr 1
  omega
theorem jQ (o:AsOk as m) (hs:s<m):bt as rs e m s s=true:=decide_eq_true (aE o hs).sr
inductive Lift (as:As) (m s t:Nat):List (Option Int)→List (Option Int)→Int→Prop
 | done {rs:List (Option Int)}:bO as rs false m s t= []→Lift as m s t rs rs 0
 | step {rs rs' :List (Option Int)} {a:Int}:bO as rs false m s t≠ []→Lift as m s t (push rs (bO as rs false m s t) (aH rs (bO as rs false m s t))) rs' a→Lift as m s t rs rs' (aH rs (bO as rs false m s t)+a)
theorem Lift.uniq {a' :Int} (A:Lift as m s t rs rs' a):Lift as m s t rs rs2 a'→rs' =rs2∧a=a' :=by
 induction A generalizing rs2 a' with
 | done h=>
  intro B
  cases B with
  | done _=>exact ⟨rfl,rfl⟩
  | step h2 _=>exact absurd h h2
 | step h _ ih=>
  intro B
  cases B with
  | done h2=>exact absurd h2 h
  | step _ B=>
   obtain ⟨h1,h2⟩:=ih B
   exact ⟨h1,by rw [h2]⟩
structure Good (as:As) (m s t:Nat) (rs:List (Option Int)):Prop where
 ok:AsOk as m
 len:rs.length=2*as.length
 nn:NN rs
 hs:s<m
 ht:t<m
 ne:s≠t
 fin:t∉(bp as rs true m s).row
structure Flown (as:As) (s t:Nat) (rs rs' :List (Option Int)) (f:Nat→Int) (a:Int):Prop where
 sh:Shift as.length rs rs' f
 nn:NN rs'
 dv:∀g,Rs.dv as f g=a*(g s - g t)
 a0:0≤a
theorem Flown.refl (N:NN rs):Flown as s t rs rs (fun _=>0) 0:=⟨.refl,N,fun g=>by rw [sX,Int.zero_mul],Int.le_refl 0⟩
theorem Flown.trans {b:Int} (A:Flown as s t rs rs' f a) (B:Flown as s t rs' rs2 f' b):Flown as s t rs rs2 (fun k=>f k+f' k) (a+b):=
 ⟨A.sh.trans B.sh,B.nn,fun g=>by rw [dv_add,A.dv,B.dv,Int.add_mul],by have:=A.a0; have:=B.a0; omega⟩
theorem mD (sh:Shift as.length rs rs' f) (h:Rch as rs' true s p):Rch as rs true s p:=by
 induction h with
 | base=>exact .base
 | step _ h1 h2 ih=>exact .step ih h1 (dH ((sh.none h1).mp (eZ h2)))
theorem Good.shift (G:Good as m s t rs) (A:Flown as s t rs rs' f a):Good as m s t rs' :=
 ⟨G.ok,A.sh.len.trans G.len,A.nn,G.hs,G.ht,G.ne,fun q=>G.fin ((aE G.ok G.hs).rch.mpr (mD A.sh ((aE G.ok G.hs).rch.mp q)))⟩
theorem Flown.cut (A:Flown as s t rs rs' f a) (F:Fin as U rs) (h1:U s=true) (h2:U t=false):Rs.cut as U rs' =Rs.cut as U rs - a:=by
 rw [tf A.sh F,A.dv]
 unfold ind
 rw [h1,h2,if_pos rfl,if_neg (by decide)]
 show _=_ - a
 omega
theorem mJ (P:Path as s w p) (h:∀h∈w,h<2*as.length∧rm rs h=none):Rch as rs true s p:=by
 induction P with
 | nil=>exact .base
 | snoc P ih=>
  rename_i w h'
  have h1:=h h' (List.mem_append_right _ (List.mem_singleton.mpr rfl))
  exact .step (ih fun h'' hh=>h h'' (List.mem_append_left _ hh)) h1.1 (dH h1.2)
theorem fN (G:Good as m s t rs) (W:WayOk as rs false s t w):Flown as s t rs (push rs w (aH rs w)) (flw w (aH rs w)) (aH rs w)∧0<aH rs w:=by
 have hw:∀h∈w,h<2*as.length:=fun h hh=>(W.all h hh).1
 have hf:∃h∈w,rm rs h≠none:=Classical.byContradiction fun q=>G.fin ((aE G.ok G.hs).rch.mpr (mJ W.path fun h hh=>⟨hw h hh,Classical.byContradiction fun q2=>q ⟨h,hh,q2⟩⟩))
 obtain ⟨h0,hh0,e0⟩:=oZ hf
 have hp:0<aH rs w:=nj (W.all h0 hh0).2 e0
 have sh:=dY (x:=aH rs w) G.len hw
 refine ⟨⟨sh,fun i v e=>?_,fun g=>?_,Int.le_of_lt hp⟩,hp⟩
 ·by_cases c:i<2*as.length
  ·have e1:=sh.rm i c
   rw [e] at e1
   cases c2:rm rs i with
   | none=>rw [c2] at e1; cases e1
   | some u=>
    have h1:=qL G.len (Int.le_of_lt hp) hw c2 e
    have hn:w.Nodup:=by
     have:=(List.nodup_cons.mp W.nd).2
     exact List.Pairwise.of_map (hd as) (fun a b q r=>q (by rw [r])) this
    by_cases c3:i∈w
    ·have h2:=rk c3 c2
     rw [List.Nodup.count hn,if_pos c3] at h1
     have h1:u - aH rs w*1≤v:=h1
     omega
    ·rw [List.count_eq_zero_of_not_mem c3] at h1
     have h1:u - aH rs w*0≤v:=h1
     have:=G.nn i u c2
     omega
  ·have:rm (push rs w (aH rs w)) i=none:=by
    unfold rm
    rw [List.getD_eq_getElem?_getD,List.getElem?_eq_none (by rw [sh.len,G.len]; omega)]; rfl
   rw [this] at e; cases e
 ·rw [dv_flw hw,W.path.sum]
theorem Lift.flown (L:Lift as m s t rs rs' a) (G:Good as m s t rs):∃f,Flown as s t rs rs' f a∧t∉(bp as rs' false m s).row:=by
 induction L with
 | done h=>exact ⟨_, .refl G.nn,(gx G.ok G.hs G.ne).mp h⟩
 | step h _ ih=>
  rename_i rs rs' a _
  have hm:t∈(bp as rs false m s).row:=Classical.byContradiction fun q=>h ((gx G.ok G.hs G.ne).mpr q)
  obtain ⟨A,_⟩:=fN G (iJ G.ok G.hs hm)
  obtain ⟨f,B,q⟩:=ih (G.shift A)
  exact ⟨_,A.trans B,q⟩
noncomputable def todo (as:As) (m s:Nat) (rs:List (Option Int)):Nat:=(cut as (bt as rs true m s) rs).toNat
theorem qy (sh:Shift as.length rs rs' f) (o:AsOk as m) (hs:s<m):bt as rs' true m s=bt as rs true m s:=by
 funext p
 unfold bt
 refine decide_eq_decide.mpr ?_
 rw [(aE o hs).rch,(aE o hs).rch]
 refine ⟨mD sh,fun h=>?_⟩
 induction h with
 | base=>exact .base
 | step _ h1 h2 ih=>exact .step ih h1 (dH ((sh.none h1).mpr (eZ h2)))
theorem todo_lt (G:Good as m s t rs) (A:Flown as s t rs rs' f a) (h:0<a):todo as m s rs' <todo as m s rs:=by
 unfold todo
 rw [qy A.sh G.ok G.hs]
 have h1:=A.cut (ub G.ok G.hs) (jQ G.ok G.hs) (decide_eq_false G.fin)
 have h2:=cut_nn (as:=as) (U:=bt as rs true m s) A.nn
 omega
theorem iI (G:Good as m s t rs) (h:bO as rs false m s t≠ []):WayOk as rs false s t (bO as rs false m s t):=
 iJ G.ok G.hs (Classical.byContradiction fun q=>h ((gx G.ok G.hs G.ne).mpr q))
end
end Rs

namespace Rs
def dl (p:Nat):Nat→Int:=fun q=>if q=p then 1 else 0
section
variable {as:As} {f g:Nat→Int} {n m k p:Nat}
theorem ql (F:Nat→Nat→Int) (n:Nat):∀m,sm m (fun p=>sm n fun k=>F p k)=sm n fun k=>sm m fun p=>F p k
 | 0=>by show (0:Int)=sm n fun _=>0; rw [bK]
 | m+1=>by
  show sm m (fun p=>sm n fun k=>F p k)+sm n (fun k=>F m k)=_
  rw [ql F n m,←my]
  rfl
theorem dl_sum (g:Nat→Int) {q:Nat} (hq:q<m):sm m (fun p=>g p*dl p q)=g q:=by
 rw [aj (g:=fun p=>if p=q then g q else 0) fun p _=>?_,gA hq]
 unfold dl
 by_cases c:p=q
 ·subst c; rw [if_pos rfl,if_pos rfl,Int.mul_one]
 ·rw [if_neg c,if_neg fun e=>c e.symm,Int.mul_zero]
theorem dv_pts (o:AsOk as m):dv as f g=sm m fun p=>g p*dv as f (dl p):=by
 unfold dv
 rw [aj (n:=m) (g:=fun p=>sm as.length fun k=>f k*(g p*dl p (ta as k) - g p*dl p (he as k))) fun p _=>?_,ql]
 ·refine aj fun k hk=>?_
  rw [qk,mx,dl_sum g (o.at hk).1,dl_sum g (o.at hk).2]
 ·rw [←qk]
  refine aj fun k _=>?_
  rw [←Int.mul_assoc,Int.mul_comm (g p) (f k),Int.mul_assoc,Int.mul_sub]
end
structure Ro where
 t:Nat
 h:Nat
 l:Int
 u:Option Int
def roA (rows:List Ro):As:=rows.map fun r=>(r.t,r.h)
def roR (rows:List Ro):List (Option Int):=rows.flatMap fun r=> [r.u.map (· - r.l),some 0]
def ro0:Ro:=⟨0,0,0,none⟩
def lo (rows:List Ro) (k:Nat):Int:=(rows.getD k ro0).l
def up (rows:List Ro) (k:Nat):Option Int:=(rows.getD k ro0).u
structure RoOk (r:Ro) (m:Nat):Prop where
 t:r.t<m
 h:r.h<m
 n:r.t≠r.h
 b:∀x,r.u=some x→r.l≤x
def wan (rows:List Ro) (p:Nat):Int:=0 - dv (roA rows) (lo rows) (dl p)
section
variable {rows:List Ro} {rs' :List (Option Int)} {f g φ w:Nat→Int} {m k p j:Nat} {a x:Int}
def exa (w:Nat→Int) (m p:Nat):As:=if 0<w p then [(m,p)] else if w p<0 then [(p,m+1)] else []
def exr (w:Nat→Int) (p:Nat):List (Option Int):=if 0<w p then [some (w p),some 0] else if w p<0 then [some (0 - w p),some 0] else []
def exA (w:Nat→Int) (m:Nat):Nat→As
 | 0=> []
 | j+1=>exA w m j++exa w m j
def exR (w:Nat→Int):Nat→List (Option Int)
 | 0=> []
 | j+1=>exR w j++exr w j
def capE (w:Nat→Int) (j k:Nat):Int:=(rm (exR w j) (2*k)).getD 0
def pos (w:Nat→Int) (j:Nat):Int:=sm j fun p=>if 0<w p then w p else 0
def neg (w:Nat→Int) (j:Nat):Int:=sm j fun p=>if w p<0 then w p else 0
def fullA (rows:List Ro) (m:Nat):As:=roA rows++exA (wan rows) m m
def fullR (rows:List Ro) (m:Nat):List (Option Int):=roR rows++exR (wan rows) m
def dueOf (rows:List Ro) (m:Nat):Int:=pos (wan rows) m
def capF (rows:List Ro) (m k:Nat):Int:=if k<rows.length then 0 else (rm (fullR rows m) (2*k)).getD 0
structure Circ (rows:List Ro) (m:Nat) (φ:Nat→Int):Prop where
 lo:∀k,k<rows.length→lo rows k≤φ k
 up:∀k,k<rows.length→∀x,up rows k=some x→φ k≤x
 ev:∀p,p<m→dv (roA rows) φ (dl p)=0
theorem Circ.all (C:Circ rows m φ) (o:AsOk (roA rows) m):dv (roA rows) φ g=0:=by
 rw [dv_pts o,aj (g:=fun _=>0) fun p hp=>by rw [C.ev p hp,Int.mul_zero],bK]
section
variable (o:∀r∈rows,RoOk r m) (A:Flown (fullA rows m) m (m+1) (fullR rows m) rs' f a)
include o A
end
end
end Rs

namespace Ap
section
variable {ta he:Nat→Nat} {s t p k:Nat} {l w left:List Nat} {g:Nat→Int}
def dvL (ta he:Nat→Nat) (l:List Nat) (g:Nat→Int):Int:=(l.map fun k=>g (ta k) - g (he k)).sum
inductive Trail (ta he:Nat→Nat) (s:Nat):List Nat→Nat→Prop
 | nil:Trail ta he s [] s
 | snoc {w:List Nat} {k:Nat}:Trail ta he s w (ta k)→Trail ta he s (w++ [k]) (he k)
theorem lF {l l' :List Nat}:dvL ta he (l++l') g=dvL ta he l g+dvL ta he l' g:=by
 unfold dvL; rw [List.map_append,List.sum_append]
theorem oe {l l' :List Nat} (h:l.Perm l'):dvL ta he l g=dvL ta he l' g:=by
 unfold dvL
 induction h with
 | nil=>rfl
 | cons x _ ih=>simp only [List.map_cons,List.sum_cons,ih]
 | swap x y l=>simp only [List.map_cons,List.sum_cons]; omega
 | trans _ _ a b=>exact a.trans b
theorem Trail.dv (T:Trail ta he s w p):dvL ta he w g=g s - g p:=by
 induction T with
 | nil=>show (0:Int)=_; omega
 | snoc T ih=>rw [lF,ih]; unfold dvL; simp; omega
def pt (p q:Nat):Int:=if q=p then 1 else 0
theorem dvL_le (h:∀k∈l,ta k≠p):dvL ta he l (pt p)≤0:=by
 induction l with
 | nil=>exact Int.le_refl 0
 | cons k l ih=>
  have i:=ih fun j hj=>h j (List.mem_cons_of_mem _ hj)
  have h0:=h k (List.mem_cons_self ..)
  unfold dvL at i ⊢
  rw [List.map_cons,List.sum_cons]
  have e1:pt p (ta k)=0:=if_neg h0
  have e2:0≤pt p (he k):=by unfold pt; split<;> omega
  omega
theorem dvL_ge (h:∀k∈l,he k≠p):0≤dvL ta he l (pt p)∧((∃k∈l,ta k=p)→1≤dvL ta he l (pt p)):=by
 induction l with
 | nil=>exact ⟨Int.le_refl 0,fun ⟨_,h,_⟩=>(by cases h)⟩
 | cons k l ih=>
  obtain ⟨i,j⟩:=ih fun j hj=>h j (List.mem_cons_of_mem _ hj)
  have h0:=h k (List.mem_cons_self ..)
  unfold dvL at i j ⊢
  rw [List.map_cons,List.sum_cons]
  have e1:pt p (he k)=0:=if_neg h0
  have e2:0≤pt p (ta k):=by unfold pt; split<;> omega
  refine ⟨by omega,fun ⟨q,hq,e⟩=>?_⟩
  rcases List.mem_cons.mp hq with rfl | hq
  ·have e3:pt p (ta q)=1:=if_pos e
   omega
  ·have:=j ⟨q,hq,e⟩
   omega
theorem uU (h:∀k∈l,he k≠p) (h2:∀k∈l,ta k≠p):dvL ta he l (pt p)=0:=by
 have:=dvL_le (he:=he) h2
 have:=(dvL_ge (ta:=ta) h).1
 omega
structure Use (ta he:Nat→Nat) (s t:Nat) (l:List Nat) (b:Int):Prop where
 nd:l.Nodup
 dv:∀g,dvL ta he l g=b*(g s - g t)
 no:∀k∈l,he k≠s
 ne:s≠t
theorem Use.more (U:Use ta he s t l b) (h:∃k∈l,ta k=s):1≤b:=by
 have h1:=(dvL_ge U.no).2 h
 rw [U.dv] at h1
 have e1:pt s s=1:=if_pos rfl
 have e2:pt s t=0:=if_neg fun e=>U.ne e.symm
 rw [e1,e2] at h1
 omega
theorem Use.done (U:Use ta he s t l b) (h:∀k∈l,ta k≠s):b=0:=by
 have h1:=uU U.no h
 rw [U.dv] at h1
 have e1:pt s s=1:=if_pos rfl
 have e2:pt s t=0:=if_neg fun e=>U.ne e.symm
 rw [e1,e2] at h1
 omega
theorem Use.on (U:Use ta he s t l b) (hb:1≤b) (P:(left++w).Perm l) (T:Trail ta he s w p) (hp:p≠t):∃k∈left,ta k=p:=by
 refine Classical.byContradiction fun q=>?_
 have h1:dvL ta he left (pt p)≤0:=dvL_le fun k hk e=>q ⟨k,hk,e⟩
 have h2:=U.dv (pt p)
 rw [←oe P,lF,T.dv] at h2
 have e1:pt p p=1:=if_pos rfl
 have e2:pt p t=0:=if_neg fun e=>hp e.symm
 rw [e1,e2] at h2
 have e3:pt p s=0∨pt p s=1:=by unfold pt; split<;> simp
 rcases e3 with e3 | e3<;> rw [e3] at h2<;> omega
theorem Use.next (U:Use ta he s t l b) (P:(left++w).Perm l) (T:Trail ta he s w t):Use ta he s t left (b - 1) where
 nd:=(List.nodup_append.mp (P.nodup_iff.mpr U.nd)).1
 dv:=fun g=>by
  have h2:=U.dv g
  rw [←oe P,lF,T.dv] at h2
  rw [Int.sub_mul]
  omega
 no:=fun k hk=>U.no k (P.mem_iff.mp (List.mem_append_left _ hk))
 ne:=U.ne
inductive Take (ta he:Nat→Nat) (go:Nat):List Nat→List Nat→Nat→List Nat→List Nat→Prop
 | done {left w:List Nat}:Take ta he go left w go left w
 | step {left w l' w' :List Nat} {p k:Nat}:p≠go→(left.filter fun k=>decide (ta k=p))[0]? =some k→Take ta he go (left.erase k) (w++ [k]) (he k) l' w'→Take ta he go left w p l' w'
theorem Take.uniq {l1 w1 l2 w2:List Nat} {go:Nat} (A:Take ta he go left w p l1 w1):Take ta he go left w p l2 w2→l1=l2∧w1=w2:=by
 induction A with
 | done=>
  intro B
  cases B with
  | done=>exact ⟨rfl,rfl⟩
  | step h _ _=>exact absurd rfl h
 | step h e _ ih=>
  intro B
  cases B with
  | done=>exact absurd rfl h
  | step _ e2 B=>
   rw [e] at e2
   cases e2
   exact ih B
def stp (he:Nat→Nat) (s:Nat) (found:List Nat) (k:Nat):List Nat:=
 if he k∈s::found.map he then found.take ((s::found.map he).idxOf (he k)) else found++ [k]
def sho (he:Nat→Nat) (s:Nat) (w:List Nat):List Nat:=w.foldl (stp he s) []
theorem Trail.end (T:Trail ta he s w p):(s::w.map he)[w.length]? =some p:=by
 cases T with
 | nil=>rfl
 | snoc T=>
  rw [List.map_append,←List.cons_append,List.getElem?_append_right (by simp)]
  simp
theorem Trail.take (T:Trail ta he s w p):∀{i q:Nat},(s::w.map he)[i]? =some q→Trail ta he s (w.take i) q:=by
 induction T with
 | nil=>
  intro i q h
  cases i with
  | zero=>cases h; exact .nil
  | succ i=>cases h
 | snoc T ih=>
  rename_i w k
  intro i q h
  by_cases c:i≤w.length
  ·rw [List.take_append_of_le_length c]
   refine ih ?_
   rw [List.map_append,←List.cons_append,List.getElem?_append_left (by simp; omega)] at h
   exact h
  ·rw [List.take_of_length_le (by simp; omega)]
   have hl:=(List.getElem?_eq_some_iff.mp h).1
   simp at hl
   have e:i=(w++ [k]).length:=by simp; omega
   have h2:=(Trail.snoc T).end
   rw [←e,h] at h2
   cases h2
   exact .snoc T
inductive Out (ta he:Nat→Nat) (st go:Nat):List Nat→List (List Nat)→Prop
 | done {left:List Nat}:st∉left.map ta→Out ta he st go left []
 | step {left l' w:List Nat} {ws:List (List Nat)}:st∈left.map ta→Take ta he go left [] st l' w→Out ta he st go l' ws→Out ta he st go left (sho he st w::ws)
theorem Out.uniq {st go:Nat} {ws ws' :List (List Nat)} (A:Out ta he st go left ws):Out ta he st go left ws'→ws=ws' :=by
 induction A generalizing ws' with
 | done h=>
  intro B
  cases B with
  | done _=>rfl
  | step h2 _ _=>exact absurd h2 h
 | step h t _ ih=>
  intro B
  cases B with
  | done h2=>exact absurd h h2
  | step _ t2 B=>
   obtain ⟨rfl,rfl⟩:=t.uniq t2
   rw [ih B]
structure Sho (ta he:Nat→Nat) (s:Nat) (w f:List Nat) (p:Nat):Prop where
 tr:Trail ta he s f p
 nd:(s::f.map he).Nodup
 sub:f.Sublist w
structure Ways (ta he:Nat→Nat) (s t:Nat) (used:List Nat) (ws:List (List Nat)):Prop where
 tr:∀w∈ws,Trail ta he s w t
 nd:∀w∈ws,(s::w.map he).Nodup
 ap:ws.flatten.Nodup
 us:∀k∈ws.flatten,k∈used
end
end Ap

namespace Rs
section
variable {as:As} {rs rs' :List (Option Int)} {us:List (Option Int)} {u:Option Int} {m s t k h i:Nat} {a c x:Int} {f g:Nat→Int} {w:List Nat}
def rsB (us:List (Option Int)):List (Option Int):=us.flatMap fun u=> [u,some 0]
theorem kZ:rsB (us++ [u])=rsB us++ [u,some 0]:=by
 unfold rsB; rw [List.flatMap_append]; rfl
theorem kY:(rsB us).length=2*us.length:=by
 induction us with
 | nil=>rfl
 | cons u us ih=>
  have e:(rsB (u::us)).length=2+(rsB us).length:=by unfold rsB; rw [List.flatMap_cons,List.length_append]; rfl
  rw [e,ih,List.length_cons]; omega
theorem gI:∀{us:List (Option Int)} {k:Nat},k<us.length→rm (rsB us) (2*k)=us.getD k none∧rm (rsB us) (2*k+1)=some 0
 | [],k,h=>absurd h (by simp)
 | u::us,0,_=>⟨rfl,rfl⟩
 | u::us,k+1,h=>by
  have ih:=gI (us:=us) (k:=k) (by simpa using h)
  unfold rm at ih ⊢
  have e:∀j,(rsB (u::us)).getD (j+2) none=(rsB us).getD j none:=fun j=>rfl
  rw [show 2*(k+1)=2*k+2 by omega,show 2*k+2+1=2*k+1+2 by omega,e,e]
  exact ⟨ih.1,ih.2⟩
theorem ue (h:2*us.length≤i):rm (rsB us) i=none:=by
 unfold rm
 rw [List.getD_eq_getElem?_getD,List.getElem?_eq_none (by rw [kY]; exact h)]
 rfl
theorem rsB_nn (h:∀k c,us.getD k none=some c→0≤c):NN (rsB us):=fun i v e=>by
 by_cases q:i<2*us.length
 ·obtain ⟨e1,e2⟩:=gI (us:=us) (k:=i / 2) (by omega)
  by_cases z:i%2=0
  ·rw [show 2*(i / 2)=i by omega,e] at e1
   exact h (i / 2) v e1.symm
  ·rw [show 2*(i / 2)+1=i by omega,e] at e2
   cases e2
   exact Int.le_refl 0
 ·rw [ue (by omega)] at e
  cases e
theorem nM:∀{w:List Nat},(∀h∈w,h / 2≠k)→flw w x k=0
 | [],_=>rfl
 | h::w,q=>by
  show one h x k+flw w x k=0
  rw [nM fun j hj=>q j (List.mem_cons_of_mem _ hj)]
  unfold one
  rw [if_neg fun e=>q h (List.mem_cons_self ..) e.symm]
  rfl
theorem rH (L:Lift as m s t rs rs' a) (G:Good as m s t rs) (hk:k<as.length) (e:he as k=s) (z:rm rs (2*k+1)=some 0):rm rs' (2*k+1)=some 0:=by
 induction L with
 | done _=>exact z
 | step h _ ih=>
  rename_i rs rs' a _
  have W:=iI G h
  obtain ⟨A,_⟩:=fN G W
  refine ih (G.shift A) ?_
  have hw:∀h∈bO as rs false m s t,h / 2≠k:=fun h hh q=>by
   have nd:=(List.nodup_cons.mp W.nd).1
   by_cases c:h%2=0
   ·refine nd (List.mem_map.mpr ⟨h,hh, ?_⟩)
    unfold hd
    rw [if_pos c,q,e]
   ·have h2:=(W.all h hh).2
    have e1:h=2*k+1:=by omega
    rw [e1] at h2
    have:=nj h2 z
    omega
  rw [A.sh.odd hk,z,nM hw]
  rfl
theorem sY:dv as f g=sm as.length fun k=>f k*(g (ta as k) - g (he as k)):=rfl
structure Lifted (as:As) (us:List (Option Int)) (m s t:Nat) (rs' :List (Option Int)) (f:Nat→Int) (a:Int):Prop where
 len:rs'.length=2*as.length
 bk:∀k,k<as.length→rm rs' (2*k+1)=some (f k)
 f0:∀k,k<as.length→0≤f k
 fu:∀k c,k<as.length→us.getD k none=some c→f k≤c
 dv:∀g,Rs.dv as f g=a*(g s - g t)
 a0:0≤a
 ss:bt as rs' false m s s=true
 ut:bt as rs' false m s t=false
 out:∀k,k<as.length→bt as rs' false m s (ta as k)=true→bt as rs' false m s (he as k)=false→us.getD k none=some (f k)
 inn:∀k,k<as.length→bt as rs' false m s (ta as k)=false→bt as rs' false m s (he as k)=true→f k=0
 src:∀k,k<as.length→he as k=s→f k=0
theorem good_B (o:AsOk as m) (hl:us.length=as.length) (hn:∀k c,us.getD k none=some c→0≤c) (hs:s<m) (ht:t<m) (ne:s≠t) (hf:t∉(bp as (rsB us) true m s).row):Good as m s t (rsB us):=
 ⟨o,by rw [kY,hl],rsB_nn hn,hs,ht,ne,hf⟩
theorem rG (hl:us.length=as.length) (G:Good as m s t (rsB us)) (L:Lift as m s t (rsB us) rs' a):∃f,Lifted as us m s t rs' f a:=by
 obtain ⟨f,F,q⟩:=L.flown G
 have e1:∀k,k<as.length→rm rs' (2*k+1)=some (f k):=fun k hk=>by
  rw [F.sh.odd hk,(gI (by omega)).2]
  show some (0+f k)=_
  rw [Int.zero_add]
 have e2:∀k,k<as.length→rm rs' (2*k)=(us.getD k none).map (· +(0 - f k)):=fun k hk=>by
  rw [F.sh.even hk,(gI (by omega)).1]
 have fl:=qz (rs:=rs') G.ok G.hs F.nn
 refine ⟨f,F.sh.len.trans G.len,e1,fun k hk=>F.nn _ _ (e1 k hk),fun k c hk e=>?_,F.dv,F.a0,jQ G.ok G.hs,decide_eq_false q,fun k hk g1 h2=>?_,fun k hk h1 h2=>?_,fun k hk e=>?_⟩
 ·have h1:=e2 k hk
  rw [e] at h1
  have:0≤c+(0 - f k):=F.nn _ _ h1
  omega
 ·have h1:=fl (2*k) (by omega)
  rw [tl_even.1,tl_even.2,e2 k hk] at h1
  have h1:=h1 g1 h2
  cases c:us.getD k none with
  | none=>rw [c] at h1; cases h1
  | some v=>
   rw [c] at h1
   have h1:some (v+(0 - f k))=some 0:=h1
   have:=Option.some.inj h1
   congr 1
   omega
 ·have h3:=fl (2*k+1) (by omega)
  rw [tl_odd.1,tl_odd.2,e1 k hk] at h3
  exact Option.some.inj (h3 h2 h1)
 ·have:=rH L G hk e (gI (by omega)).2
  rw [e1 k hk] at this
  exact Option.some.inj this
theorem Lifted.all (L:Lifted as us m s t rs' f a):a=sm as.length fun k=>if bt as rs' false m s (ta as k)=true then (if bt as rs' false m s (he as k)=true then 0 else f k) else 0:=by
 have h:=L.dv (ind (bt as rs' false m s))
 have e1:ind (bt as rs' false m s) s=1:=if_pos L.ss
 have e2:ind (bt as rs' false m s) t=0:=if_neg (by rw [L.ut]; decide)
 rw [e1,e2] at h
 rw [show a=a*(1 - 0) by omega,←h,sY]
 refine aj fun k hk=>?_
 unfold ind
 cases c1:bt as rs' false m s (ta as k) with
 | true=>
  cases c2:bt as rs' false m s (he as k) with
  | true=>simp
  | false=>simp
 | false=>
  cases c2:bt as rs' false m s (he as k) with
  | true=>rw [L.inn k hk c1 c2]; simp
  | false=>simp
theorem jP {P:Nat→Bool} (x:Nat→Int):∀n:Nat,sm n (fun k=>if P k=true then x k else 0)=(((List.range n).filter P).map x).sum
 | 0=>rfl
 | n+1=>by
  show sm n _+(if P n=true then x n else 0)=_
  rw [jP x n,List.range_succ,List.filter_append,List.map_append,List.sum_append]
  congr 1
  by_cases c:P n=true
  ·rw [if_pos c,List.filter_cons_of_pos c]; simp
  ·rw [if_neg c,List.filter_cons_of_neg c]; rfl
theorem iN {P:Nat→Bool} (n:Nat):sm n (fun k=>if P k=true then 1 else 0)=(((List.range n).filter P).length:Int):=by
 rw [jP (fun _=>1) n]
 induction (List.range n).filter P with
 | nil=>rfl
 | cons y l ih=>rw [List.map_cons,List.sum_cons,ih,List.length_cons]; omega
end
end Rs

namespace Ap
open Rs
section
variable {as tl:As} {us:List (Option Int)} {rs' :List (Option Int)} {n s t k j p q T:Nat} {a c:Int} {f g:Nat→Int}
theorem gj (n:Nat) (F:Nat→Int):∀T:Nat,sm (n+T) F=sm n F+sm T fun j=>F (n+j)
 | 0=>by show sm n F=sm n F+0; omega
 | T+1=>by
  show sm (n+T) F+F (n+T)=sm n F+(sm T _+F (n+T))
  rw [gj n F T]; omega
theorem fL {F:Nat→Int}:∀{n:Nat},(∀k,k<n→0≤F k)→k<n→F k≤sm n F
 | 0,_,h=>absurd h (by omega)
 | n+1,h,hk=>by
  have h0:=sm_nn (n:=n) fun k hk=>h k (by omega)
  have h1:=h n (by omega)
  show F k≤sm n F+F n
  by_cases c:k=n
  ·subst c; omega
  ·have:=fL (n:=n) (F:=F) (fun k hk=>h k (by omega)) (by omega:k<n)
   omega
theorem qh {F:Nat→Int}:∀{n:Nat},(∀k,k<n→0≤F k)→k<n→j<n→k≠j→F k+F j≤sm n F
 | 0,_,h,_,_=>absurd h (by omega)
 | n+1,h,hk,hj,ne=>by
  have h0:∀k,k<n→0≤F k:=fun k hk=>h k (by omega)
  show F k+F j≤sm n F+F n
  by_cases c:k=n
  ·subst c
   have:=fL h0 (by omega:j<k)
   omega
  ·by_cases d:j=n
   ·subst d
    have:=fL h0 (by omega:k<j)
    omega
   ·have:=qh h0 (by omega:k<n) (by omega:j<n) ne
    have:=h n (by omega)
    omega
theorem kx {P:Prop} [Decidable P] {x:Int} (h:0≤x):0≤if P then x else 0:=by split; exact h; exact Int.le_refl 0
def usedF (f:Nat→Int) (n:Nat):List Nat:=(List.range n).filter fun k=>decide (0<f k)
def wallT (as:As) (U:Nat→Bool):List Nat:=(List.range as.length).filter fun k=>U (ta as k)&&!U (he as k)
def asP (n:Nat) (tl:As):As:=(List.range n).map (fun p=>(p,n+p))++tl.map fun q=>(n+q.1,q.2)
def usP (n s t T:Nat):List (Option Int):=(List.range n).map (fun p=>if p=s∨p=t then none else some 1)++List.replicate T none
theorem dR:(asP n tl).length=n+tl.length:=by unfold asP; simp
theorem pS:(usP n s t T).length=n+T:=by unfold usP; simp
theorem iF (h:p<n):ta (asP n tl) p=p∧he (asP n tl) p=n+p:=by
 unfold ta he asP
 rw [List.getD_eq_getElem?_getD,List.getElem?_append_left (by simpa using h),List.getElem?_map,List.getElem?_range h]
 exact ⟨rfl,rfl⟩
theorem eQ (h:j<tl.length):ta (asP n tl) (n+j)=n+ta tl j∧he (asP n tl) (n+j)=he tl j:=by
 unfold ta he asP
 rw [List.getD_eq_getElem?_getD,List.getElem?_append_right (by simp),List.getElem?_map,List.length_map,List.length_range,show n+j - n=j by omega,List.getD_eq_getElem?_getD,List.getElem?_eq_getElem h]
 exact ⟨rfl,rfl⟩
theorem mf (h:p<n):(usP n s t T).getD p none=if p=s∨p=t then none else some 1:=by
 unfold usP
 rw [List.getD_eq_getElem?_getD,List.getElem?_append_left (by simpa using h),List.getElem?_map,List.getElem?_range h]
 rfl
theorem pR:(usP n s t T).getD (n+j) none=none:=by
 unfold usP
 rw [List.getD_eq_getElem?_getD,List.getElem?_append_right (by simp),List.length_map,List.length_range,List.getElem?_replicate]
 split<;> rfl
structure PlOk (n:Nat) (tl:As) (s t:Nat):Prop where
 ok:AsOk tl n
 ne:∀j,j<tl.length→ta tl j≠he tl j
 hs:s<n
 ht:t<n
 st:s≠t
 no:∀j,j<tl.length→ta tl j=s→he tl j≠t
variable (O:PlOk n tl s t)
include O
theorem PlOk.asok:AsOk (asP n tl) (2*n):=fun q hq=>by
 unfold asP at hq
 rcases List.mem_append.mp hq with hq | hq
 ·obtain ⟨p,hp,rfl⟩:=List.mem_map.mp hq
  have:=List.mem_range.mp hp
  exact ⟨by show p<_; omega,by show n+p<_; omega⟩
 ·obtain ⟨r,hr,rfl⟩:=List.mem_map.mp hq
  obtain ⟨h1,h2⟩:=O.ok r hr
  exact ⟨by show n+r.1<_; omega,by show r.2<_; omega⟩
theorem PlOk.fin:t∉(bp (asP n tl) (rsB (usP n s t tl.length)) true (2*n) s).row:=fun h=>by
 have hs:=O.hs
 have ht:=O.ht
 have R:=(aE O.asok (by omega)).rch.mp h
 have key:∀p,Rch (asP n tl) (rsB (usP n s t tl.length)) true s p→p=s∨p=n+s∨∃j,j<tl.length∧ta tl j=s∧he tl j=p:=fun p R=>by
  induction R with
  | base=>exact .inl rfl
  | step _ h1 h2 ih=>
   rename_i h _
   rw [dR] at h1
   have h3:=eZ h2
   obtain ⟨e1,e2⟩:=gI (us:=usP n s t tl.length) (k:=h / 2) (by rw [pS]; omega)
   by_cases z:h%2=0
   ·rw [show 2*(h / 2)=h by omega,h3] at e1
    unfold Rs.tl at ih
    unfold Rs.hd
    rw [if_pos z] at ih ⊢
    by_cases c:h / 2<n
    ·rw [(iF c).1] at ih
     rw [(iF c).2]
     rw [mf c] at e1
     have e3:h / 2=s∨h / 2=t:=Classical.byContradiction fun q=>by rw [if_neg q] at e1; cases e1
     rcases ih with ih | ih | ⟨j,hj,j1,j2⟩
     ·exact .inr (.inl (by rw [ih]))
     ·omega
     ·rcases e3 with e3 | e3
      ·exact absurd (j1.trans (e3.symm.trans j2.symm)) (O.ne j hj)
      ·exact absurd (j2.trans e3) (O.no j hj j1)
    ·obtain ⟨d,hd⟩:∃d,h / 2=n+d:=⟨h / 2 - n,by omega⟩
     rw [hd] at ih ⊢
     have hdl:d<tl.length:=by omega
     rw [(eQ hdl).1] at ih
     rw [(eQ hdl).2]
     rcases ih with ih | ih | ⟨j,hj,j1,j2⟩
     ·omega
     ·exact .inr (.inr ⟨d,hdl,by omega,rfl⟩)
     ·have:=(O.ok.at hj).2
      omega
   ·rw [show 2*(h / 2)+1=h by omega,h3] at e2
    cases e2
 rcases key t R with e | e | ⟨j,hj,j1,j2⟩
 ·exact O.st e.symm
 ·omega
 ·exact O.no j hj j1 j2
theorem PlOk.nn:∀k c,(usP n s t tl.length).getD k none=some c→(0:Int)≤c:=fun k c e=>by
 by_cases h:k<n
 ·rw [mf h] at e
  split at e
  ·cases e
  ·cases e; decide
 ·obtain ⟨d,rfl⟩:∃d,k=n+d:=⟨k - n,by omega⟩
  rw [pR] at e
  cases e
theorem PlOk.good:Good (asP n tl) (2*n) s t (rsB (usP n s t tl.length)):=
 good_B O.asok (by rw [pS,dR]) O.nn (by have:=O.hs; omega) (by have:=O.ht; omega) O.st O.fin
theorem PlOk.dv:Rs.dv (asP n tl) f g=sm n (fun p=>f p*(g p - g (n+p)))+sm tl.length (fun j=>f (n+j)*(g (n+ta tl j) - g (he tl j))):=by
 rw [sY,dR,gj]
 congr 1
 ·refine aj fun p hp=>?_
  rw [(iF hp).1,(iF hp).2]
 ·refine aj fun j hj=>?_
  rw [(eQ hj).1,(eQ hj).2]
variable (L:Lifted (asP n tl) (usP n s t tl.length) (2*n) s t rs' f a)
include L
theorem PlOk.out (hp:p<n):sm tl.length (fun j=>if ta tl j=p then f (n+j) else 0)=f p:=by
 have h:=L.dv (pt (n+p))
 have hs:=O.hs
 have ht:=O.ht
 rw [O.dv,show pt (n+p) s=0 from if_neg (by omega),show pt (n+p) t=0 from if_neg (by omega),Int.sub_self,Int.mul_zero] at h
 rw [aj (n:=n) (g:=fun q=>if q=p then 0 - f p else 0) fun q hq=>?_,gA hp,aj (n:=tl.length) (g:=fun j=>if ta tl j=p then f (n+j) else 0) fun j hj=>?_] at h
 ·omega
 ·have:=(O.ok.at hj).2
  rw [show pt (n+p) (he tl j)=0 from if_neg (by omega)]
  unfold pt
  by_cases c:ta tl j=p
  ·rw [if_pos (by omega),if_pos c]; omega
  ·rw [if_neg (by omega),if_neg c]; omega
 ·rw [show pt (n+p) q=0 from if_neg (by omega)]
  unfold pt
  by_cases c:q=p
  ·rw [if_pos (by omega),if_pos c,c]; omega
  ·rw [if_neg (by omega),if_neg c]; omega
theorem PlOk.inn (hp:p<n) (h1:p≠s) (h2:p≠t):sm tl.length (fun j=>if he tl j=p then f (n+j) else 0)=f p:=by
 have h:=L.dv (pt p)
 rw [O.dv,show pt p s=0 from if_neg (fun e=>h1 e.symm),show pt p t=0 from if_neg (fun e=>h2 e.symm),Int.sub_self,Int.mul_zero] at h
 rw [aj (n:=n) (g:=fun q=>if q=p then f p else 0) fun q hq=>?_,gA hp,aj (n:=tl.length) (g:=fun j=>0 - (if he tl j=p then f (n+j) else 0)) fun j hj=>?_,mx] at h
 ·rw [bK] at h; omega
 ·rw [show pt p (n+ta tl j)=0 from if_neg (by omega)]
  unfold pt
  by_cases c:he tl j=p
  ·rw [if_pos c,if_pos c]; omega
  ·rw [if_neg c,if_neg c]; omega
 ·rw [show pt p (n+q)=0 from if_neg (by omega)]
  unfold pt
  by_cases c:q=p
  ·rw [if_pos c,if_pos c,c]; omega
  ·rw [if_neg c,if_neg c]; omega
theorem PlOk.f0 (hj:j<tl.length):0≤f (n+j):=L.f0 _ (by rw [dR]; omega)
theorem PlOk.pl (hp:p<n) (h1:p≠s) (h2:p≠t):f p≤1:=L.fu p 1 (by rw [dR]; omega) (by rw [mf hp,if_neg (by omega)])
theorem PlOk.f1 (hj:j<tl.length):f (n+j)=0∨f (n+j)=1:=by
 have h0:=O.f0 L hj
 obtain ⟨l1,l2⟩:=O.ok.at hj
 suffices f (n+j)≤1 by omega
 by_cases c1:he tl j=s
 ·have:=L.src (n+j) (by rw [dR]; omega) (by rw [(eQ hj).2,c1])
  omega
 ·by_cases c2:he tl j=t
  ·have n1:ta tl j≠s:=fun e=>O.no j hj e c2
   have n2:ta tl j≠t:=fun e=>O.ne j hj (e.trans c2.symm)
   have h1:=O.out L l1
   have h2:=fL (n:=tl.length) (k:=j) (F:=fun i=>if ta tl i=ta tl j then f (n+i) else 0) (fun i hi=>kx (O.f0 L hi)) hj
   have h2:(if ta tl j=ta tl j then f (n+j) else 0)≤_:=h2
   rw [if_pos rfl,h1] at h2
   have:=O.pl L l1 n1 n2
   omega
  ·have h1:=O.inn L l2 c1 c2
   have h2:=fL (n:=tl.length) (k:=j) (F:=fun i=>if he tl i=he tl j then f (n+i) else 0) (fun i hi=>kx (O.f0 L hi)) hj
   have h2:(if he tl j=he tl j then f (n+j) else 0)≤_:=h2
   rw [if_pos rfl,h1] at h2
   have:=O.pl L l2 c1 c2
   omega
def wallP (n:Nat) (U:Nat→Bool):List Nat:=(List.range n).filter fun p=>U p&&!U (n+p)
theorem PlOk.cross (hp:p<n) (c1:bt (asP n tl) rs' false (2*n) s p=true) (c2:bt (asP n tl) rs' false (2*n) s (n+p)=false):p≠s∧p≠t∧f p=1:=by
 have h:=L.out p (by rw [dR]; omega)
 rw [(iF hp).1,(iF hp).2,mf hp] at h
 have h:=h c1 c2
 by_cases c:p=s∨p=t
 ·rw [if_pos c] at h; cases h
 ·rw [if_neg c] at h
  have:=Option.some.inj h
  exact ⟨fun e=>c (.inl e),fun e=>c (.inr e),this.symm⟩
theorem PlOk.on (hj:j<tl.length) (c1:bt (asP n tl) rs' false (2*n) s (n+ta tl j)=true):bt (asP n tl) rs' false (2*n) s (he tl j)=true:=by
 cases c2:bt (asP n tl) rs' false (2*n) s (he tl j) with
 | true=>rfl
 | false=>
  have h:=L.out (n+j) (by rw [dR]; omega)
  rw [(eQ hj).1,(eQ hj).2,pR] at h
  cases h c1 c2
theorem PlOk.first:bt (asP n tl) rs' false (2*n) s (n+s)=true:=by
 cases c2:bt (asP n tl) rs' false (2*n) s (n+s) with
 | true=>rfl
 | false=>exact absurd rfl (O.cross L O.hs L.ss c2).1
end
end Ap

namespace Pw
open Rs Ap
section
variable {a b p q j k:Nat} {fr:As} {rs' :List (Option Int)} {f g:Nat→Int} {c:Int}
def asQ (a b:Nat) (fr:As):As:=(List.range a).map (fun p=>(a+b,p))++((List.range b).map (fun q=>(a+q,a+b+1))++fr.map fun r=>(r.1,a+r.2))
def usQ (a b T:Nat):List (Option Int):=List.replicate a (some 1)++(List.replicate b (some 1)++List.replicate T none)
theorem asQ_len:(asQ a b fr).length=a+(b+fr.length):=by unfold asQ; simp
theorem usQ_len {T:Nat}:(usQ a b T).length=a+(b+T):=by unfold usQ; simp
theorem vd (h:p<a):ta (asQ a b fr) p=a+b∧he (asQ a b fr) p=p:=by
 unfold ta he asQ
 rw [List.getD_eq_getElem?_getD,List.getElem?_append_left (by simpa using h),List.getElem?_map,List.getElem?_range h]
 exact ⟨rfl,rfl⟩
theorem tM (h:q<b):ta (asQ a b fr) (a+q)=a+q∧he (asQ a b fr) (a+q)=a+b+1:=by
 unfold ta he asQ
 rw [List.getD_eq_getElem?_getD,List.getElem?_append_right (by simp),List.length_map,List.length_range,show a+q - a=q by omega,List.getElem?_append_left (by simpa using h),List.getElem?_map,List.getElem?_range h]
 exact ⟨rfl,rfl⟩
theorem lR (h:j<fr.length):ta (asQ a b fr) (a+(b+j))=ta fr j∧he (asQ a b fr) (a+(b+j))=a+he fr j:=by
 unfold ta he asQ
 rw [List.getD_eq_getElem?_getD,List.getElem?_append_right (by simp),List.length_map,List.length_range,show a+(b+j) - a=b+j by omega,List.getElem?_append_right (by simp),List.length_map,List.length_range,show b+j - b=j by omega,List.getElem?_map,
  List.getD_eq_getElem?_getD,List.getElem?_eq_getElem h]
 exact ⟨rfl,rfl⟩
theorem pQ {T:Nat} (h:p<a):(usQ a b T).getD p none=some 1:=by
 unfold usQ
 rw [List.getD_eq_getElem?_getD,List.getElem?_append_left (by simpa using h),List.getElem?_replicate,if_pos h]
 rfl
theorem usQ_r {T:Nat} (h:q<b):(usQ a b T).getD (a+q) none=some 1:=by
 unfold usQ
 rw [List.getD_eq_getElem?_getD,List.getElem?_append_right (by simp),List.length_replicate,show a+q - a=q by omega,List.getElem?_append_left (by simpa using h),List.getElem?_replicate,if_pos h]
 rfl
theorem usQ_f {T:Nat}:(usQ a b T).getD (a+(b+j)) none=none:=by
 unfold usQ
 rw [List.getD_eq_getElem?_getD,List.getElem?_append_right (by simp),List.length_replicate,show a+(b+j) - a=b+j by omega,List.getElem?_append_right (by simp),List.length_replicate,List.getElem?_replicate]
 split<;> rfl
theorem dvQ:Rs.dv (asQ a b fr) f g=sm a (fun p=>f p*(g (a+b) - g p))+(sm b (fun q=>f (a+q)*(g (a+q) - g (a+b+1)))+sm fr.length (fun j=>f (a+(b+j))*(g (ta fr j) - g (a+he fr j)))):=by
 rw [sY,asQ_len,gj,gj]
 congr 1
 ·refine aj fun p hp=>?_
  rw [(vd hp).1,(vd hp).2]
 congr 1
 ·refine aj fun q hq=>?_
  rw [(tM hq).1,(tM hq).2]
 ·refine aj fun j hj=>?_
  rw [(lR hj).1,(lR hj).2]
structure FrOk (a b:Nat) (fr:As):Prop where
 i:∀j,j<fr.length→ta fr j<a∧he fr j<b
 n:fr.Nodup
theorem asQ_ok (O:FrOk a b fr):AsOk (asQ a b fr) (a+b+2):=by
 intro x hx
 unfold asQ at hx
 rw [List.mem_append,List.mem_append,List.mem_map,List.mem_map,List.mem_map] at hx
 rcases hx with ⟨p,hp,rfl⟩ | ⟨q,hq,rfl⟩ | ⟨r,hr,rfl⟩
 ·rw [List.mem_range] at hp
  exact ⟨by show a+b<_; omega,by show p<_; omega⟩
 ·rw [List.mem_range] at hq
  exact ⟨by show a+q<_; omega,by show a+b+1<_; omega⟩
 ·obtain ⟨j,hj⟩:=List.mem_iff_getElem?.mp hr
  have i:=O.i j (List.getElem?_eq_some_iff.mp hj).1
  have e1:ta fr j=r.1:=by unfold ta; rw [List.getD_eq_getElem?_getD,hj]; rfl
  have e2:he fr j=r.2:=by unfold he; rw [List.getD_eq_getElem?_getD,hj]; rfl
  exact ⟨by show r.1<_; omega,by show a+r.2<_; omega⟩
theorem usQ_nn:∀k c,(usQ a b fr.length).getD k none=some c→(0:Int)≤c:=fun k c e=>by
 by_cases h:k<a
 ·rw [pQ h] at e
  cases e; decide
 ·by_cases h2:k<a+b
  ·obtain ⟨d,rfl⟩:∃d,k=a+d:=⟨k - a,by omega⟩
   rw [usQ_r (by omega)] at e
   cases e; decide
  ·obtain ⟨d,rfl⟩:∃d,k=a+(b+d):=⟨k - a - b,by omega⟩
   rw [usQ_f] at e
   cases e
theorem finQ (O:FrOk a b fr):a+b+1∉(bp (asQ a b fr) (rsB (usQ a b fr.length)) true (a+b+2) (a+b)).row:=fun h=>by
 have R:=(aE (asQ_ok O) (by omega)).rch.mp h
 have key:∀p,Rch (asQ a b fr) (rsB (usQ a b fr.length)) true (a+b) p→p=a+b:=fun p R=>by
  induction R with
  | base=>rfl
  | step _ h1 h2 ih=>
   rename_i h _
   have h3:=eZ h2
   have hk:h / 2<(asQ a b fr).length:=by omega
   obtain ⟨e1,e2⟩:=gI (us:=usQ a b fr.length) (k:=h / 2) (by rw [usQ_len]; rw [asQ_len] at hk; exact hk)
   by_cases z:h%2=0
   ·rw [show 2*(h / 2)=h by omega,h3] at e1
    unfold Rs.tl at ih
    rw [if_pos z] at ih
    rw [asQ_len] at hk
    by_cases c1:h / 2<a
    ·rw [pQ c1] at e1
     cases e1
    ·by_cases c2:h / 2<a+b
     ·obtain ⟨d,hd⟩:∃d,h / 2=a+d:=⟨h / 2 - a,by omega⟩
      rw [hd,(tM (by omega)).1] at ih
      omega
     ·obtain ⟨d,hd⟩:∃d,h / 2=a+(b+d):=⟨h / 2 - a - b,by omega⟩
      rw [hd,(lR (by omega)).1] at ih
      have:=(O.i d (by omega)).1
      omega
   ·rw [show 2*(h / 2)+1=h by omega,h3] at e2
    cases e2
 have:=key _ R
 omega
theorem goodQ (O:FrOk a b fr):Good (asQ a b fr) (a+b+2) (a+b) (a+b+1) (rsB (usQ a b fr.length)):=
 good_B (asQ_ok O) (by rw [usQ_len,asQ_len]) usQ_nn (by omega) (by omega) (by omega) (finQ O)
section
variable (O:FrOk a b fr) (L:Lifted (asQ a b fr) (usQ a b fr.length) (a+b+2) (a+b) (a+b+1) rs' f c)
include O L
theorem lf (hp:p<a):sm fr.length (fun j=>if ta fr j=p then f (a+(b+j)) else 0)=f p:=by
 have h:=L.dv (pt p)
 rw [dvQ,show pt p (a+b)=0 from if_neg (by omega),show pt p (a+b+1)=0 from if_neg (by omega),Int.sub_self,Int.mul_zero] at h
 rw [aj (n:=a) (g:=fun q=>if q=p then 0 - f p else 0) fun q hq=>?_,gA hp,aj (n:=b) (g:=fun _=>0) fun q hq=>?_,bK,aj (n:=fr.length) (g:=fun j=>if ta fr j=p then f (a+(b+j)) else 0) fun j hj=>?_] at h
 ·omega
 ·have:=(O.i j hj).2
  rw [show pt p (a+he fr j)=0 from if_neg (by omega)]
  unfold pt
  by_cases e:ta fr j=p
  ·rw [if_pos e,if_pos e]; omega
  ·rw [if_neg e,if_neg e]; omega
 ·rw [show pt p (a+q)=0 from if_neg (by omega)]; omega
 ·unfold pt
  by_cases e:q=p
  ·rw [if_pos e,if_pos e,e]; omega
  ·rw [if_neg e,if_neg e]; omega
theorem rt (hq:q<b):sm fr.length (fun j=>if he fr j=q then f (a+(b+j)) else 0)=f (a+q):=by
 have h:=L.dv (pt (a+q))
 rw [dvQ,show pt (a+q) (a+b)=0 from if_neg (by omega),show pt (a+q) (a+b+1)=0 from if_neg (by omega),Int.sub_self,Int.mul_zero] at h
 rw [aj (n:=a) (g:=fun _=>0) fun p hp=>?_,bK,aj (n:=b) (g:=fun r=>if r=q then f (a+q) else 0) fun r hr=>?_,gA hq,aj (n:=fr.length) (g:=fun j=>0 - (if he fr j=q then f (a+(b+j)) else 0)) fun j hj=>?_,mx,bK] at h
 ·omega
 ·have:=(O.i j hj).1
  rw [show pt (a+q) (ta fr j)=0 from if_neg (by omega)]
  unfold pt
  by_cases e:he fr j=q
  ·rw [if_pos (by omega),if_pos e]; omega
  ·rw [if_neg (by omega),if_neg e]; omega
 ·unfold pt
  by_cases e:r=q
  ·rw [if_pos (by omega),if_pos e,e]; omega
  ·rw [if_neg (by omega),if_neg e]; omega
 ·rw [show pt (a+q) p=0 from if_neg (by omega)]; omega
theorem fl0 (hj:j<fr.length):0≤f (a+(b+j)):=L.f0 _ (by rw [asQ_len]; omega)
theorem all_f:c=sm fr.length fun j=>f (a+(b+j)):=by
 have h:=L.dv fun x=>if x<a∨x=a+b then 1 else 0
 rw [dvQ,if_pos (.inr rfl),if_neg (by omega)] at h
 rw [aj (n:=a) (g:=fun _=>0) fun p hp=>?_,bK,aj (n:=b) (g:=fun _=>0) fun r hr=>?_,bK,aj (n:=fr.length) (g:=fun j=>f (a+(b+j))) fun j hj=>?_] at h
 ·omega
 ·have:=O.i j hj
  rw [if_pos (.inl this.1),if_neg (by omega)]; omega
 ·rw [if_neg (by omega)]; omega
 ·rw [if_pos (.inl hp)]; omega
theorem le1 (hj:j<fr.length):f (a+(b+j))≤1:=by
 have i:=O.i j hj
 have h:=lf O L i.1
 have t:=fL (F:=fun k=>if ta fr k=ta fr j then f (a+(b+k)) else 0) (n:=fr.length) (fun k hk=>kx (fl0 O L hk)) hj
 have t:(if ta fr j=ta fr j then f (a+(b+j)) else 0)≤_:=t
 rw [if_pos rfl,h] at t
 have u:=L.fu (ta fr j) 1 (by rw [asQ_len]; omega) (pQ i.1)
 omega
theorem fl01 (hj:j<fr.length):f (a+(b+j))=0∨f (a+(b+j))=1:=by
 have:=fl0 O L hj
 have:=le1 O L hj
 omega
theorem apart (hj:j<fr.length) (hk:k<fr.length) (ne:j≠k) (j1:f (a+(b+j))=1) (k1:f (a+(b+k))=1):ta fr j≠ta fr k∧he fr j≠he fr k:=by
 have i:=O.i j hj
 refine ⟨fun e=>?_,fun e=>?_⟩
 ·have h:=lf O L i.1
  have t:=qh (F:=fun k=>if ta fr k=ta fr j then f (a+(b+k)) else 0) (n:=fr.length) (fun k hk=>kx (fl0 O L hk)) hj hk ne
  have t:(if ta fr j=ta fr j then f (a+(b+j)) else 0)+(if ta fr k=ta fr j then f (a+(b+k)) else 0)≤_:=t
  rw [if_pos rfl,if_pos e.symm,h] at t
  have u:=L.fu (ta fr j) 1 (by rw [asQ_len]; omega) (pQ i.1)
  omega
 ·have h:=rt O L i.2
  have t:=qh (F:=fun k=>if he fr k=he fr j then f (a+(b+k)) else 0) (n:=fr.length) (fun k hk=>kx (fl0 O L hk)) hj hk ne
  have t:(if he fr j=he fr j then f (a+(b+j)) else 0)+(if he fr k=he fr j then f (a+(b+k)) else 0)≤_:=t
  rw [if_pos rfl,if_pos e.symm,h] at t
  have u:=L.fu (a+he fr j) 1 (by rw [asQ_len]; omega) (usQ_r i.2)
  omega
theorem covered (hj:j<fr.length) (h:bt (asQ a b fr) rs' false (a+b+2) (a+b) (ta fr j)=true):bt (asQ a b fr) rs' false (a+b+2) (a+b) (a+he fr j)=true:=by
 cases e:bt (asQ a b fr) rs' false (a+b+2) (a+b) (a+he fr j) with
 | true=>rfl
 | false=>
  have o:=L.out (a+(b+j)) (by rw [asQ_len]; omega) (by rw [(lR hj).1]; exact h) (by rw [(lR hj).2]; exact e)
  rw [usQ_f] at o
  cases o
theorem all_used:c=(((List.range fr.length).filter fun j=>decide (0<f (a+(b+j)))).length:Nat):=by
 rw [all_f O L,←iN]
 refine aj fun j hj=>?_
 rcases fl01 O L hj with e | e
 ·rw [e]; rfl
 ·rw [e]; rfl
theorem all_cover:c=(((List.range a).filter fun p=>!bt (asQ a b fr) rs' false (a+b+2) (a+b) p).length:Nat)+(((List.range b).filter fun q=>bt (asQ a b fr) rs' false (a+b+2) (a+b) (a+q)).length:Nat):=by
 have h:=L.dv fun x=>if bt (asQ a b fr) rs' false (a+b+2) (a+b) x=true then 1 else 0
 rw [dvQ,if_pos L.ss,if_neg (by rw [L.ut]; decide)] at h
 rw [←iN,←iN]
 rw [aj (n:=a) (g:=fun p=>if (!bt (asQ a b fr) rs' false (a+b+2) (a+b) p)=true then 1 else 0) fun p hp=>?_,aj (n:=b) (g:=fun q=>if bt (asQ a b fr) rs' false (a+b+2) (a+b) (a+q)=true then 1 else 0) fun q hq=>?_,aj (n:=fr.length) (g:=fun _=>0) fun j hj=>?_,bK] at h
 ·omega
 ·cases e1:bt (asQ a b fr) rs' false (a+b+2) (a+b) (ta fr j) with
  | true=>
   rw [covered O L hj e1]
   simp
  | false=>
   cases e2:bt (asQ a b fr) rs' false (a+b+2) (a+b) (a+he fr j) with
   | false=>simp
   | true=>
    have z:=L.inn (a+(b+j)) (by rw [asQ_len]; omega) (by rw [(lR hj).1]; exact e1) (by rw [(lR hj).2]; exact e2)
    rw [z]; simp
 ·cases e:bt (asQ a b fr) rs' false (a+b+2) (a+b) (a+q) with
  | false=>simp
  | true=>
   have o:=L.out (a+q) (by rw [asQ_len]; omega) (by rw [(tM hq).1]; exact e) (by rw [(tM hq).2]; exact L.ut)
   rw [usQ_r hq] at o
   rw [←Option.some.inj o]; simp
 ·cases e:bt (asQ a b fr) rs' false (a+b+2) (a+b) p with
  | true=>simp
  | false=>
   have o:=L.out p (by rw [asQ_len]; omega) (by rw [(vd hp).1]; exact L.ss) (by rw [(vd hp).2]; exact e)
   rw [pQ hp] at o
   rw [←Option.some.inj o]; simp
end
end
end Pw

local macro_rules | `(tactic| simp! only [$ts,*]) => `(tactic| simp only [↓reduceIte, ↓Z.e_seq, ↓Z.e_asg, ↓Z.e_st_d, ↓Z.nU, ↓Z.nV, ↓Z.e_next, ↓Z.sW, ↓Z.e_cont, ↓Z.e_ifS, ↓Z.e_ret, ↓Z.e_retN, ↓Z.e_drop, ↓Z.sT, ↓Z.e_c, ↓Z.e_var, ↓Z.e_z1, ↓Z.e_z2, ↓Z.e_via, ↓Z.e_a0, ↓Z.e_a, ↓Z.e_tup, ↓Z.e_lst, ↓Z.e_dnew, ↓Z.e_b, ↓Z.e_and, ↓Z.e_or, ↓Z.e_not, ↓Z.e_andV, ↓Z.e_orV, ↓Z.e_notV, ↓Z.e_if, ↓Z.e_call, ↓Z.e_meth, ↓Z.sV, ↓Z.e_no, ↓Z.e_pt, ↓Z.e_sl, Z.x_comp, Z.x_nx, Z.x_asg, Z.x_st, Z.x_if, Z.x_rt, Z.x_ret, Z.x_z2, Z.x_d, Z.x_via, Z.x_cons, Z.x_fix, Z.x_a, Z.x_tup, Z.x_lst, Z.x_ok, Z.x_not, Z.x_notV, Z.x_call, Z.x_self, Z.pF, Z.pG, Z.lV, Z.lW, Z.x_pt, Z.x_sl3, Z.x_sl2, Z.x_sl1, Z.tJ, Z.oA, Z.oz, Z.kJ, Z.qu, Z.qt, Z.qx, Z.qw, Z.told_d, Z.mi, Z.mj, Z.jM, Z.md, Z.varK_d, Z.fix_d, Z.sJ, Z.sM, Z.nQ, Z.fixK_d, Z.iE, Z.hW, Z.oB_bl, Z.chK_bl, Z.iD, Z.kH, Z.oo, Z.jr, Z.tm, Z.oj, Z.fB, Z.jt, Z.jq, Z.ot, Z.oi, Z.hV, Z.fA, Z.om, Z.w_add, Z.oL, Z.oJ, Z.oK, Z.oH, Z.w_sub, Z.w_mulG, Z.mW, Z.mV, Z.w_mod, Z.w_div, Z.w_pow, Z.w_cmp, Z.w_neg, Z.w_min, Z.w_isi, Z.pO, Z.w_eq, Z.w_in, Z.w_ix, Z.w_len, Z.nt, Z.nv, Z.nu, Z.w_fld, Z.rT, Z.isi_bl, Z.rQ, Z.rR, Z.rS, Z.rW, Z.rP, Z.rV, Z.isT, Z.jJ, Z.jH, Z.flv, ↓Z.e_lc, ↓Z.e_yes, ↓Z.e_itL, Z.jE, Z.jF, ↓Z.e_itS, Z.x_itS, Z.pI, Z.jC, Z.iq, Z.w_dict, Z.kG, Z.w_list, Z.ki, Z.kl, Z.kj, Z.ma, Z.jK, Z.w_sl, Z.qo, Z.qp, ↓Z.e_rg1, Z.x_rg1, ↓Z.e_for, Z.x_turn, ↓Z.e_zip, Z.x_zip1, ↓Z.e_en, Z.lU, Z.w_unp, Z.unp2, Z.unp3, Z.unp4, Z.unp5, Z.gB, Z.iw, ↓Z.e_m1s, Z.x_m1s, Z.qm, Z.nr, ↓Z.e_m2, Z.x_m2, Z.x_isL, Z.nF, Z.x_isD, Z.nG, Z.x_rv, Z.w_b2, Z.kL, Z.kK, Z.w_b1, Z.oF, Z.mY, Z.ro, Z.mZ, ↓Z.e_sf, Z.x_sf1, Z.x_sf2, Z.x_sf3, ↓Z.e_mk, Z.x_mk, Z.x_sto, ↓Z.e_dp, Z.x_dp1, Z.x_dp2, Z.x_dp3, Z.x_dp4, Z.sS, Z.sP, Z.w_ne, Z.rg, Z.rj, Z.sR, Z.sH, Z.Sto.put_same, Z.iW, Z.lp, Z.aU, Z.sfn0, Z.sfn1, Z.sfn2, Z.sfn3, Z.sfn4, Z.sfn5, Z.sfn6, Z.sfn7, Z.sfn8, decide_false, decide_true, Z.Wp_bad, Z.Wp_ok, Z.Wp_ite, List.set_cons_zero, List.set_cons_succ, List.getElem?_cons_zero, List.getElem?_cons_succ, List.cons_append, List.nil_append, List.append_nil, List.isEmpty_nil, List.isEmpty_cons, if_true, if_false, Bool.false_eq_true, true_implies, false_implies, implies_true, reduceCtorEq, Bool.not_true, Bool.not_false, eq_self, and_self, and_true, true_and, ↓Z.e_disp, Z.x_disp, ↓Z.e_p, Z.x_p1, Z.x_p2, Z.x_p3, ↓Z.e_p0, ↓Z.e_walk, Z.x_wk, ↓Z.e_par, Z.x_par, ↓Z.e_par3, Z.x_par3, ↓Z.uT, Z.gq, Z.lX, ↓Z.e_augS, Z.x_as1, Z.x_as2, Z.as4_ok, Z.as5_ok, Z.x_as6, Z.sc_int, Z.sc_str, Z.w_revL, Z.mz, ↓Z.e_rvI, Z.x_rvI, ↓Z.e_itT, Z.x_itT, Z.kM, Z.w_step, Z.mu, Z.mw, Z.rh, Z.rf, Z.w_max, Z.eqK_bl, ↓Z.nZ, ↓Z.x_r0, ↓Z.nY, ↓Z.x_r1, ↓Z.x_r2, ↓Z.tK, Z.Wp_ex, ↓Z.oq, ↓Z.w_xf, ↓Z.w_isX, ↓Z.nB, ↓Z.e_rg2, Z.x_rg2, Z.pL, Z.lY, Z.w_str, ↓Z.e_tryO, Z.pU, Z.mU, ↓Z.nW, ↓Z.x_rL1, ↓Z.x_rL2, Z.mb, ↓Z.e_pV, Z.x_pVi, Z.x_pVs, Z.jI, Z.nE, ↓Z.nX, ↓Z.x_rC1, ↓Z.x_rC2, ↓Z.sU, Z.x_hL1, Z.x_hL2, Z.x_hL3, Z.w_isU, Z.lZ, $ts,*])
local macro_rules | `(tactic| walk_at "zs") => `(tactic| simp only [↓reduceIte, ↓Z.e_seq, ↓Z.e_asg, ↓Z.e_st_d, ↓Z.nU, ↓Z.nV, ↓Z.e_next, ↓Z.sW, ↓Z.e_cont, ↓Z.e_ifS, ↓Z.e_ret, ↓Z.e_retN, ↓Z.e_drop, ↓Z.sT, ↓Z.e_c, ↓Z.e_var, ↓Z.e_z1, ↓Z.e_z2, ↓Z.e_via, ↓Z.e_a0, ↓Z.e_a, ↓Z.e_tup, ↓Z.e_lst, ↓Z.e_dnew, ↓Z.e_b, ↓Z.e_and, ↓Z.e_or, ↓Z.e_not, ↓Z.e_andV, ↓Z.e_orV, ↓Z.e_notV, ↓Z.e_if, ↓Z.e_call, ↓Z.e_meth, ↓Z.sV, ↓Z.e_no, ↓Z.e_pt, ↓Z.e_sl, Z.x_comp, Z.x_nx, Z.x_asg, Z.x_st, Z.x_if, Z.x_rt, Z.x_ret, Z.x_z2, Z.x_d, Z.x_via, Z.x_cons, Z.x_fix, Z.x_a, Z.x_tup, Z.x_lst, Z.x_ok, Z.x_not, Z.x_notV, Z.x_call, Z.x_self, Z.pF, Z.pG, Z.lV, Z.lW, Z.x_pt, Z.x_sl3, Z.x_sl2, Z.x_sl1, Z.tJ, Z.oA, Z.oz, Z.kJ, Z.qu, Z.qt, Z.qx, Z.qw, Z.told_d, Z.mi, Z.mj, Z.jM, Z.md, Z.varK_d, Z.fix_d, Z.sJ, Z.sM, Z.nQ, Z.fixK_d, Z.iE, Z.hW, Z.oB_bl, Z.chK_bl, Z.iD, Z.kH, Z.oo, Z.jr, Z.tm, Z.oj, Z.fB, Z.jt, Z.jq, Z.ot, Z.oi, Z.hV, Z.fA, Z.om, Z.w_add, Z.oL, Z.oJ, Z.oK, Z.oH, Z.w_sub, Z.w_mulG, Z.mW, Z.mV, Z.w_mod, Z.w_div, Z.w_pow, Z.w_cmp, Z.w_neg, Z.w_min, Z.w_isi, Z.pO, Z.w_eq, Z.w_in, Z.w_ix, Z.w_len, Z.nt, Z.nv, Z.nu, Z.w_fld, Z.rT, Z.isi_bl, Z.rQ, Z.rR, Z.rS, Z.rW, Z.rP, Z.rV, Z.isT, Z.jJ, Z.jH, Z.flv, ↓Z.e_lc, ↓Z.e_yes, ↓Z.e_itL, Z.jE, Z.jF, ↓Z.e_itS, Z.x_itS, Z.pI, Z.jC, Z.iq, Z.w_dict, Z.kG, Z.w_list, Z.ki, Z.kl, Z.kj, Z.ma, Z.jK, Z.w_sl, Z.qo, Z.qp, ↓Z.e_rg1, Z.x_rg1, ↓Z.e_for, Z.x_turn, ↓Z.e_zip, Z.x_zip1, ↓Z.e_en, Z.lU, Z.w_unp, Z.unp2, Z.unp3, Z.unp4, Z.unp5, Z.gB, Z.iw, ↓Z.e_m1s, Z.x_m1s, Z.qm, Z.nr, ↓Z.e_m2, Z.x_m2, Z.x_isL, Z.nF, Z.x_isD, Z.nG, Z.x_rv, Z.w_b2, Z.kL, Z.kK, Z.w_b1, Z.oF, Z.mY, Z.ro, Z.mZ, ↓Z.e_sf, Z.x_sf1, Z.x_sf2, Z.x_sf3, ↓Z.e_mk, Z.x_mk, Z.x_sto, ↓Z.e_dp, Z.x_dp1, Z.x_dp2, Z.x_dp3, Z.x_dp4, Z.sS, Z.sP, Z.w_ne, Z.rg, Z.rj, Z.sR, Z.sH, Z.Sto.put_same, Z.iW, Z.lp, Z.aU, Z.sfn0, Z.sfn1, Z.sfn2, Z.sfn3, Z.sfn4, Z.sfn5, Z.sfn6, Z.sfn7, Z.sfn8, decide_false, decide_true, Z.Wp_bad, Z.Wp_ok, Z.Wp_ite, List.set_cons_zero, List.set_cons_succ, List.getElem?_cons_zero, List.getElem?_cons_succ, List.cons_append, List.nil_append, List.append_nil, List.isEmpty_nil, List.isEmpty_cons, if_true, if_false, Bool.false_eq_true, true_implies, false_implies, implies_true, reduceCtorEq, Bool.not_true, Bool.not_false, eq_self, and_self, and_true, true_and, ↓Z.e_disp, Z.x_disp, ↓Z.e_p, Z.x_p1, Z.x_p2, Z.x_p3, ↓Z.e_p0, ↓Z.e_walk, Z.x_wk, ↓Z.e_par, Z.x_par, ↓Z.e_par3, Z.x_par3, ↓Z.uT, Z.gq, Z.lX, ↓Z.e_augS, Z.x_as1, Z.x_as2, Z.as4_ok, Z.as5_ok, Z.x_as6, Z.sc_int, Z.sc_str, Z.w_revL, Z.mz, ↓Z.e_rvI, Z.x_rvI, ↓Z.e_itT, Z.x_itT, Z.kM, Z.w_step, Z.mu, Z.mw, Z.rh, Z.rf, Z.w_max, Z.eqK_bl, ↓Z.nZ, ↓Z.x_r0, ↓Z.nY, ↓Z.x_r1, ↓Z.x_r2, ↓Z.tK, Z.Wp_ex, ↓Z.oq, ↓Z.w_xf, ↓Z.w_isX, ↓Z.nB, ↓Z.e_rg2, Z.x_rg2, Z.pL, Z.lY, Z.w_str, ↓Z.e_tryO, Z.pU, Z.mU, ↓Z.nW, ↓Z.x_rL1, ↓Z.x_rL2, Z.mb, ↓Z.e_pV, Z.x_pVi, Z.x_pVs, Z.jI, Z.nE, ↓Z.nX, ↓Z.x_rC1, ↓Z.x_rC2, ↓Z.sU, Z.x_hL1, Z.x_hL2, Z.x_hL3, Z.w_isU, Z.lZ, *])
set_option maxHeartbeats 4000000
namespace T
open PySem PySem.Spec PyProof.Rows L2 M Z
open Classical
open Rs (As tw hd tl rm gm BS hst pst bfs starts eK)
abbrev nD (k:Nat):D:= .int (k:Int)
abbrev bD (b:Bool):D:= .bl b
def oD:Option Nat→D
 | none=> .non
 | some k=> .int (k:Int)
def rD:Option Int→D
 | none=> .non
 | some x=> .int x
theorem xor1 (h:Nat):Builtin.bitXor (h:Int) 1=(tw h:Nat):=by
 have e:Builtin.bitXor (h:Int) 1=((h ||| 1:Nat):Int) - ((h &&& 1:Nat):Int):=by
  unfold Builtin.bitXor Builtin.bitOr Builtin.bitNot Builtin.bitAnd
  rw [decide_eq_false (p:=0≤ -(h:Int) - 1) (by omega),decide_eq_false (p:=(0:Int)≤ -1 - 1) (by omega),decide_eq_true (p:=0≤(h:Int)) (by omega),decide_eq_true (p:=(0:Int)≤1) (by omega)]
  show -(-((((-(-(h:Int) - 1) - 1).toNat ||| (-(-1 - 1) - 1:Int).toNat:Nat)):Int) - 1) - 1 - _=_
  rw [show -(-(h:Int) - 1) - 1=h by omega]
  show -(-(((h:Int).toNat ||| 1:Nat):Int) - 1) - 1 - (((h:Int).toNat &&& 1:Nat):Int)=_
  rw [Int.toNat_natCast]
  omega
 rw [e,Nat.and_one_is_mod]
 have h1:(h ||| 1) / 2=h / 2:=by rw [Nat.or_div_two]; simp
 have h2:(h ||| 1)%2=1:=by rw [Nat.or_mod_two_eq_one]; simp
 unfold tw
 split<;> omega
theorem w_xor {m n:Int} {s:SD}:oXor (.d (.int m)) (.d (.int n)) s= .ok (.d (.int (Builtin.bitXor m n))) s:=rfl
theorem atR {n h:Nat} {f:Nat→D} (c:h<n):atI ((List.range n).map f) (h:Int)=some (f h):=by
 rw [jA]
 unfold atI ixN
 rw [if_pos (by omega),if_pos (by rw [List.length_range]; omega)]
 show ((List.range n)[(h:Int).toNat]?).map f=_
 rw [Int.toNat_natCast,List.getElem?_range c]
 rfl
theorem atL {α:Type} {l:List α} {h:Nat} {a:α} {f:α→D} (c:l[h]? =some a):atI (l.map f) (h:Int)=some (f a):=by
 have hl:=(List.getElem?_eq_some_iff.mp c).1
 rw [jA]
 unfold atI ixN
 rw [if_pos (by omega),if_pos (by omega)]
 show (l[(h:Int).toNat]?).map f=_
 rw [Int.toNat_natCast,c]
 rfl
theorem atRm {rs:List (Option Int)} {h:Nat} (c:h<rs.length):atI (rs.map rD) (h:Int)=some (rD (rm rs h)):=by
 refine atL ?_
 unfold rm
 rw [List.getD_eq_getElem?_getD,List.getElem?_eq_getElem c]
 rfl
section
variable {a b:Vl} {s:SD} {x y:D} {n h:Nat} {f:Nat→D} {fo fi:SD→R Vl}
theorem ixR (c:h<n):ixK s (some (.lst ((List.range n).map f))) (some (.int (h:Int)))= .ok (.d (f h)) s:=iB (atR c)
theorem ixL {α:Type} {l:List α} {h:Nat} {a:α} {f:α→D} (c:l[h]? =some a):ixK s (some (.lst (l.map f))) (some (.int (h:Int)))= .ok (.d (f a)) s:=iB (atL c)
theorem ixRm {rs:List (Option Int)} (c:h<rs.length):ixK s (some (.lst (rs.map rD))) (some (.int (h:Int)))= .ok (.d (rD (rm rs h))) s:=iB (atRm c)
def sub3K (x:D) (o:Vl):Vl→SD→R Unit:=fun i s=>stO (dJ x) o i s
def sub2K (fi:SD→R Vl) (x:D):Vl→SD→R Unit:=fun o s=>(fi s).bind (sub3K x o)
def sub1K (fo fi:SD→R Vl):D→SD→R Unit:=fun x s=>(fo s).bind (sub2K fi x)
theorem e_sub:tS fo fi a s=(s.fix a).bind (sub1K fo fi):=rfl
theorem x_sub1:sub1K fo fi x s=(fo s).bind (sub2K fi x):=rfl
theorem x_sub2:sub2K fi x a s=(fi s).bind (sub3K x a):=rfl
theorem x_sub3:sub3K x a b s=stO (dJ x) a b s:=rfl
theorem qd {ds:List D} (c:h<ds.length):stK' (dJ x) a (.int (h:Int)) s (some (.lst ds))=s.mod (.lst (ds.set h x)) a:=by
 have e:dJ x (.lst ds) (.int (h:Int))=some (.lst (ds.set h x)):=by
  show (match ixN ds.length (h:Int) with | some j=>some (D.lst (ds.set j x)) | none=>none)=_
  unfold ixN
  rw [if_pos (by omega),if_pos (by omega),Int.toNat_natCast]
 show (match dJ x (.lst ds) (.int (h:Int)) with | some y=>s.mod y a | none=>R.bad)=_
 rw [e]
theorem setR {f:Nat→D} (h:Nat) (x:D):((List.range n).map f).set h x=(List.range n).map (fun q=>if q=h then x else f q):=by
 refine List.ext_getElem (by simp) fun i h1 h2=>?_
 rw [List.getElem_set]
 simp only [List.getElem_map,List.getElem_range]
 by_cases c:h=i
 ·subst c; rw [if_pos rfl]
 ·rw [if_neg c,if_neg fun q=>c q.symm]
theorem iM {f:Nat→D} (c:h<n):stK' (dJ x) a (.int (h:Int)) s (some (.lst ((List.range n).map f)))=s.mod (.lst ((List.range n).map (fun q=>if q=h then x else f q))) a:=by
 rw [qd (by simpa using c),setR]
theorem isN_r {r:Option Int} {neg:Bool}:iy neg (.d (rD r)) (.d .non) s= .ok (.d (.bl (if neg then !r.isNone else r.isNone))) s:=by
 cases r<;> cases neg<;> rfl
theorem isN_o {r:Option Nat} {neg:Bool}:iy neg (.d (oD r)) (.d .non) s= .ok (.d (.bl (if neg then !r.isNone else r.isNone))) s:=by
 cases r<;> cases neg<;> rfl
end
abbrev cH (r m:Nat):List (Str×D):= [("many", .int (m:Int)),("heads", .cell (r+1)),("rooms", .cell (r+2)),("starts", .cell (r+3+m))]
structure RestAt (S:Sto) (r m:Nat) (as:As) (rs:List (Option Int)):Prop where
 o:S.get r=some (.obj "Rest" (cH r m))
 h:S.get (r+1)=some (.lst ((eK as).map nD))
 k:S.get (r+2)=some (.lst (rs.map rD))
 s:S.get (r+3+m)=some (.lst ((List.range m).map fun p=> .cell (r+3+p)))
 p:∀p,p<m→S.get (r+3+p)=some (.lst ((starts as p).map nD))
 nx:r+4+m≤S.nx
 len:rs.length=2*as.length
 ok:Rs.AsOk as m
section
variable {a b:Vl} {s:SD} {S:Sto} {sl:List (Option Vl)} {x:D} {n h m r p q:Nat} {as:As} {rs:List (Option Int)} {e:Bool}
theorem rf_many:bI (cH r m) "many" =some (.int (m:Int)):=rfl
theorem dW:bI (cH r m) "heads" =some (.cell (r+1)):=rfl
theorem bB:bI (cH r m) "rooms" =some (.cell (r+2)):=rfl
theorem jS:bI (cH r m) "starts" =some (.cell (r+3+m)):=rfl
theorem lu:bI (cH r m) "lets" =none:=rfl
theorem gO:bI (cH r m) "walked" =none:=rfl
theorem kf:bI (cH r m) "way_to" =none:=rfl
theorem rB:bI (cH r m) "change" =none:=rfl
theorem headsL {h:Nat} (c:h<2*as.length):∀s:SD,ixK s (some (.lst ((eK as).map nD))) (some (.int (h:Int)))= .ok (.d (nD (hd as h))) s:=fun s=>by
 unfold eK
 rw [List.map_map]
 exact ixR c
theorem roomR (R:RestAt S r m as rs) (c:h<2*as.length):∀s:SD,ixK s (some (.lst (rs.map rD))) (some (.int (h:Int)))= .ok (.d (rD (rm rs h))) s:=fun s=>ixRm (by rw [R.len]; exact c)
theorem g_lets (R:RestAt S r m as rs) (c:h<2*as.length):goF cO [.cell r, .int (h:Int), .bl e] ⟨sl,S⟩= .ok (.d (.bl (gm rs e h))) ⟨sl,S⟩:=by
 refine lB ?_
 show Wp (eP ⟨[some (.d (.cell r)),some (.d (.int (h:Int))),some (.d (.bl e)),none],S⟩) _ _
 unfold eP
 have h1:=R.o
 have h2:=R.k
 have h3:=roomR R c
 unfold gm
 cases c2:rm rs h with
 | none=>
  rw [c2] at h3
  simp! only [ah bB,h1,h2,h3,rD]
 | some v=>
  rw [c2] at h3
  simp! only [ah bB,h1,h2,h3,rD]
  cases e<;> simp! only []<;> rfl
def gc (m:Nat) (b:BS):List D:=(List.range m).map fun p=>oD (b.came p)
def jR (m:Nat) (b:BS):List D:=(List.range m).map fun p=>D.bl (decide (p∈b.row))
noncomputable def wkI:SD→R Fl:=(ai (aB (z2 oIx (z1 (au ["Rest"] "heads") (aa 0)) (aa 7)) (zSt 8))
 (bJ (kP (dt (zB (z2 oIx (aa 4) (aa 8)))) (zB (aG "Rest" "lets" cO [] (aa 0) (zA (aa 7) (zA (aa 2) zA0))))) (ai (aB (zC (.bl true)) (tS (aa 4) (aa 8)))
 (ai (aB (aa 7) (tS (aa 3) (aa 8)))
 (aD (zM2 isL (oB2 aM) (aa 5) (aL (aa 8)))))) aC))
noncomputable def wkB:SD→R Fl:=(ai (cK (eS (aL (z2 oIx (z1 (au ["Rest"] "starts") (aa 0)) (z2 oIx (aa 5) (aa 6))))) (zSt 7) wkI)
 (zAug 6 (fun a b=>a+b) (zC (.int 1))))
theorem wk_eq:dg=(ai (aB (z2 iX (cG (zA (zC .non) zA0)) (z1 (au ["Rest"] "many") (aa 0))) (zSt 3))
 (ai (aB (z2 iX (cG (zA (zC (.bl false)) zA0)) (z1 (au ["Rest"] "many") (aa 0))) (zSt 4))
 (ai (aB (zC (.bl true)) (tS (aa 4) (aa 1)))
 (ai (aB (cG (zA (aa 1) zA0)) (zSt 5))
 (ai (aB (zC (.int 0)) (zSt 6))
 (ai (zWh (zB (z2 oLt (aa 6) (z1 bf (aa 5)))) wkB)
 (bc (aa 3)))))))):=rfl
abbrev wkS (r:Nat) (v1:Option Vl) (e:Bool) (m:Nat) (b:BS) (i:Int) (v7 v8:Option Vl) (S:Sto):SD:=
 ⟨[some (.d (.cell r)),v1,some (.d (.bl e)),some (.own (.lst (gc m b))),some (.own (.lst (jR m b))),some (.own (.lst (b.row.map nD))),some (.d (.int i)),v7,v8],S⟩
theorem uZ {b:BS} {k:Nat}:(List.range m).map (fun q=>if q=p then D.int (k:Int) else oD (b.came q))=gc m ⟨b.row++ [p],fun q=>if q=p then some k else b.came q⟩:=by
 unfold gc
 refine List.map_congr_left fun q _=>?_
 show _=oD (if q=p then some k else b.came q)
 split<;> rfl
theorem ua {b:BS} {f:Nat→Option Nat}:(List.range m).map (fun q=>if q=p then D.bl true else D.bl (decide (q∈b.row)))=jR m ⟨b.row++ [p],f⟩:=by
 unfold jR
 refine List.map_congr_left fun q _=>?_
 show _=D.bl (decide (q∈b.row++ [p]))
 by_cases c:q=p
 ·rw [if_pos c,decide_eq_true]
  rw [c]; exact List.mem_append_right _ (List.mem_singleton.mpr rfl)
 ·rw [if_neg c]
  congr 1
  refine decide_eq_decide.mpr ?_
  simp [c]
theorem wk_turn {v1 v8:Option Vl} {b:BS} {i:Int} (R:RestAt S r m as rs) (c:h<2*as.length) (hz:b.row.length<sizeLine):
  Wp (wkI (wkS r v1 e m b i (some (.d (.int (h:Int)))) v8 S)) (fun fl s' =>fl= .nx∧∃v7 v8,s' =wkS r v1 e m (hst as rs e b h) i v7 v8 S) XF:=by
 have h1:=R.o
 have h2:=R.h
 have h3:=headsL (as:=as) c
 have hm:=R.ok.hd c
 have h4:∀s:SD,ixK s (some (.lst (jR m b))) (some (.int ((hd as h:Nat):Int)))= .ok (.d (.bl (decide (hd as h∈b.row)))) s:=fun s=>ixR hm
 have h5:=fun sl:List (Option Vl)=>g_lets (sl:=sl) (e:=e) R c
 have h6:=fun (a:Vl) (s:SD) (g:Nat→Option Nat)=>(iM (x:= .bl true) (a:=a) (s:=s) (f:=fun p=>D.bl (decide (p∈b.row))) hm).trans (by rw [ua (f:=g)])
 have h7:=fun (a:Vl) (s:SD)=>(iM (x:= .int (h:Int)) (a:=a) (s:=s) (f:=fun p=>oD (b.came p)) hm).trans (by rw [uZ (k:=h)])
 have h6:∀a s,stK' (dJ (.bl true)) a (.int ((hd as h:Nat):Int)) s (some (.lst (jR m b)))=s.mod (.lst (jR m ⟨b.row++ [hd as h],fun q=>if q=hd as h then some h else b.came q⟩)) a:=fun a s=>h6 a s _
 have h7:∀a s,stK' (dJ (.int (h:Int))) a (.int ((hd as h:Nat):Int)) s (some (.lst (gc m b)))=s.mod (.lst (gc m ⟨b.row++ [hd as h],fun q=>if q=hd as h then some h else b.came q⟩)) a:=h7
 have sz:((b.row.map nD).length<sizeLine)=True:=eq_true (by rw [List.length_map]; exact hz)
 unfold wkI
 by_cases c1:hd as h∈b.row
 ·have e0:hst as rs e b h=b:=by unfold hst; rw [if_neg fun q=>q.1 c1]
  rw [e0]
  simp! only [ah dW,ah bB,ao lu,h1,h2,h3,h4,h5,c1]
  exact ⟨_,_,rfl⟩
 ·cases c2:gm rs e h with
  | false=>
   have e0:hst as rs e b h=b:=by unfold hst; rw [if_neg fun q=>by rw [c2] at q; exact absurd q.2 (by decide)]
   rw [e0]
   simp! only [ah dW,ah bB,ao lu,h1,h2,h3,h4,h5,c1,c2]
   exact ⟨_,_,rfl⟩
  | true=>
   have e0:hst as rs e b h=⟨b.row++ [hd as h],fun q=>if q=hd as h then some h else b.came q⟩:=by unfold hst; rw [if_pos ⟨c1,c2⟩]
   rw [e0]
   simp! only [ah dW,ah bB,ao lu,h1,h2,h3,h4,h5,c1,c2,↓e_sub,x_sub1,x_sub2,x_sub3,h6,h7,sz]
   exact ⟨some (.d (.int (h:Int))),some (.d (nD (hd as h))),by unfold wkS; rw [List.map_append]; rfl⟩
theorem jO {α β:Type} {f:β→α→β} {l:List α} {b:β} {j:Nat} {a:α} (h:l[j]? =some a):(l.take (j+1)).foldl f b=f ((l.take j).foldl f b) a:=by
 rw [List.take_add_one,h,List.foldl_append]
 rfl
theorem wk_body {v1 v7 v8:Option Vl} {b:BS} {i src:Nat} (R:RestAt S r m as rs) (B:Rs.BOk as rs e m src i b) (hp:b.row[i]? =some p) (hz:m<sizeLine):
  Wp (wkB (wkS r v1 e m b (i:Int) v7 v8 S)) (fun fl s' =>fl= .nx∧∃v7 v8,s' =wkS r v1 e m (pst as rs e b p) ((i+1:Nat):Int) v7 v8 S) XF:=by
 have h1:=R.o
 have h2:=R.s
 have hm:p∈b.row:=List.mem_of_getElem? hp
 have hpm:=B.lt p hm
 have h3:∀s:SD,ixK s (some (.lst (b.row.map nD))) (some (.int (i:Int)))= .ok (.d (.int (p:Int))) s:=fun s=>ixL (f:=nD) hp
 have h4:∀s:SD,ixK s (some (.lst ((List.range m).map fun p=>D.cell (r+3+p)))) (some (.int (p:Int)))= .ok (.d (.cell (r+3+p))) s:=fun s=>ixR (f:=fun p=>D.cell (r+3+p)) hpm
 have h5:∀sl:List (Option Vl),pB (.d (.cell (r+3+p))) ⟨sl,S⟩= .ok ⟨[.d (.cell (r+3+p))],fun s=>s.st.get (r+3+p)=some (.lst ((starts as p).map nD)),(starts as p).map nD⟩ ⟨sl,S⟩:=fun sl=>fj (s:=⟨sl,S⟩) (R.p p hpm)
 have all:∀h∈starts as p,h<2*as.length∧tl as h=p:=fun h hh=>Rs.mem_starts.mp hh
 unfold wkB
 simp! only [ah jS,h1,h2,h3,h4,h5]
 rw [ae]
 refine fP (fun j s=>∃v7 v8,s=wkS r v1 e m (((starts as p).take j).foldl (hst as rs e) b) (i:Int) v7 v8 S) Nl.d1 (fun _ s ⟨_,_,e⟩=>by rw [e]; exact R.p p hpm) ⟨v7,v8,rfl⟩ (fun j x s ex hI=>?_) (fun s hI=>?_)
 ·obtain ⟨u7,u8,rfl⟩:=hI
  have ex:((starts as p).map nD)[j]? =some x:=ex
  rw [List.getElem?_map] at ex
  cases eh:(starts as p)[j]? with
  | none=>rw [eh] at ex; cases ex
  | some h=>
   rw [eh] at ex
   cases ex
   obtain ⟨B1,_,_⟩:=Rs.lD (hs:=(starts as p).take j) R.ok B hm fun h hh=>all h (List.mem_of_mem_take hh)
   have hh:=all h (List.mem_of_getElem? eh)
   simp! only []
   refine (wk_turn (v1:=v1) (v8:=u8) (e:=e) (i:=(i:Int)) R hh.1 (Nat.lt_of_le_of_lt B1.le hz)).mono (fun fl s' hh=>?_) fun _ _ _ h=>h.elim
   obtain ⟨rfl,w7,w8,rfl⟩:=hh
   exact ⟨w7,w8,by rw [jO eh]⟩
 ·obtain ⟨u7,u8,rfl⟩:=hI
  have el:((starts as p).take ((starts as p).map nD).length).foldl (hst as rs e) b=pst as rs e b p:=by
   rw [List.length_map,List.take_length]
   rfl
  show Wp (seqK _ Fl.nx (wkS r v1 e m (((starts as p).take ((starts as p).map nD).length).foldl (hst as rs e) b) (i:Int) u7 u8 S)) _ _
  rw [el]
  simp! only [↓uT,gq,lX]
  exact ⟨u7,u8,rfl⟩
theorem rep1:(List.replicate ((m:Nat):Int).toNat [x]).flatten=(List.range m).map fun _=>x:=by
 rw [Int.toNat_natCast]
 induction m with
 | zero=>rfl
 | succ m ih=>rw [List.replicate_succ',List.flatten_append,ih,List.range_succ,List.map_append]; rfl
theorem jh {src:Nat} (R:RestAt S r m as rs) (hs:src<m) (hz:m<sizeLine):goF aP [.cell r, .int (src:Int), .bl e] ⟨sl,S⟩= .ok (.own (.lst (gc m (Rs.bp as rs e m src)))) ⟨sl,S⟩:=by
 refine lB ?_
 show Wp (dg ⟨[some (.d (.cell r)),some (.d (.int (src:Int))),some (.d (.bl e)),none,none,none,none,none,none],S⟩) _ _
 rw [wk_eq]
 have h1:=R.o
 have z0:∀x:D,(-(2 ^ 63)≤(m:Int)∧(m:Int)<2 ^ 63∧ [x].length*(m:Int).toNat≤sizeLine)=True:=fun x=>eq_true (by
  have hz:=hz
  rw [sizeLine_eq] at hz ⊢
  refine ⟨by omega,by omega, ?_⟩
  show 1*_≤_
  omega)
 have h2:∀a s,stK' (dJ (.bl true)) a (.int (src:Int)) s (some (.lst ((List.range m).map fun _=>D.bl false)))=s.mod (.lst (jR m ⟨[src],fun _=>none⟩)) a:=fun a s=>(iM (x:= .bl true) (a:=a) (s:=s) (f:=fun _=>D.bl false) hs).trans (by
  congr 2
  unfold jR
  refine List.map_congr_left fun q _=>?_
  by_cases c:q=src
  ·rw [if_pos c,decide_eq_true]; rw [c]; exact List.mem_singleton.mpr rfl
  ·rw [if_neg c,decide_eq_false]; exact fun q=>c (List.mem_singleton.mp q))
 simp! only [ah rf_many,h1,z0,rep1,↓e_sub,x_sub1,x_sub2,x_sub3,h2]
 rw [ae]
 refine wh_w (m:=m) (fun k s=>∃b i v7 v8,s=wkS r (some (.d (.int (src:Int)))) e m b ((i:Nat):Int) v7 v8 S∧Rs.BOk as rs e m src i b∧Rs.bfs as rs e (m - i) i b=Rs.bp as rs e m src∧k=m - i) ⟨⟨[src],fun _=>none⟩,0,none,none,rfl,Rs.BOk.init hs,rfl,rfl⟩ ?_
 rintro k s ⟨b,i,v7,v8,rfl,B,eb,rfl⟩
 have hl:=B.le
 have hil:=B.il
 simp! only [ae,List.length_map]
 by_cases c:i<b.row.length
 ·have c2:decide ((i:Int)<(b.row.length:Int))=true:=decide_eq_true (by omega)
  simp only [c2,if_true]
  have hp:=List.getElem?_eq_getElem c
  refine (wk_body (v1:=some (.d (.int (src:Int)))) (v7:=v7) (v8:=v8) R B hp hz).mono (fun fl s' hh=>?_) fun _ _ _ h=>h.elim
  obtain ⟨rfl,u7,u8,rfl⟩:=hh
  refine ⟨m - (i+1),by omega,_,i+1,u7,u8,rfl,Rs.pst_ok R.ok B hp, ?_,rfl⟩
  rw [←eb,show m - i=(m - (i+1))+1 by omega,Rs.oC hp]
 ·have c2:decide ((i:Int)<(b.row.length:Int))=false:=decide_eq_false (by omega)
  simp only [c2,Bool.false_eq_true,if_false]
  rw [Rs.tL (by omega)] at eb
  subst eb
  simp! only []
theorem pj {ds:List D}:b1K dZ a s (some (.lst ds))=(s.mod (.lst ds.reverse) a).bind (rvK .non):=rfl
abbrev wyS (r:Nat) (m:Nat) (b:BS) (v2:Option Vl) (w:List Nat) (q:Nat) (S:Sto):SD:=
 ⟨[some (.d (.cell r)),some (.d (.lst (gc m b))),v2,some (.own (.lst (w.map nD))),some (.d (.int (q:Int)))],S⟩
theorem uM {src t:Nat} {b:BS} (R:RestAt S r m as rs) (W:Rs.Wk as rs e m src b) (ht:t<m) (hz:m<sizeLine):
  goF aO [.cell r, .lst (gc m b), .int (t:Int)] ⟨sl,S⟩= .ok (.own (.lst ((Rs.way as b.came m t).map nD))) ⟨sl,S⟩:=by
 refine lB ?_
 show Wp (df ⟨[some (.d (.cell r)),some (.d (.lst (gc m b))),some (.d (.int (t:Int))),none,none],S⟩) _ _
 unfold df
 have h1:=R.o
 have h2:=R.h
 have hc:∀{q:Nat},q<m→∀s:SD,ixK s (some (.lst (gc m b))) (some (.int (q:Int)))= .ok (.d (oD (b.came q))) s:=fun hq s=>ixR (f:=fun p=>oD (b.came p)) hq
 simp! only []
 rw [ae]
 refine wh_w (m:=m) (fun k s=>∃(w:List Nat) (q:Nat),s=wyS r m b (some (.d (.int (t:Int)))) w q S∧q<m∧Rs.way as b.came m t=Rs.way as b.came k q++w.reverse∧w.length+k=m∧(q∈b.row→b.row.idxOf q<k)∧0<k) ⟨[],t,rfl,ht,by simp,by simp,fun h=>?_,by omega⟩ ?_
 ·have h1:=List.idxOf_lt_length_of_mem h
  have h2:=List.Nodup.length_le_of_subset W.nd (l₂:=List.range m) fun p hp=>List.mem_range.mpr (W.lt p hp)
  rw [List.length_range] at h2
  omega
 ·rintro k s ⟨w,q,rfl,hq,ew,hl,hi,hk⟩
  have h3:=hc hq
  obtain ⟨k,rfl⟩:∃k',k=k' +1:=⟨k - 1,by omega⟩
  cases c:b.came q with
  | none=>
   rw [c] at h3
   have e0:Rs.way as b.came (k+1) q= []:=by unfold Rs.way; rw [c]
   rw [e0,List.nil_append] at ew
   simp! only [ae,h3,isN_o,Option.isNone_none]
   simp! only [pj,ew,List.map_reverse]
  | some h=>
   rw [c] at h3
   have hm:q∈b.row:=Classical.byContradiction fun n=>by rw [W.out q n] at c; cases c
   have hn:q≠src:=fun n=>by rw [n,W.cs] at c; cases c
   obtain ⟨h',e1,e2,e3,e4,e5,e6⟩:=W.inn q hm hn
   rw [c] at e1
   cases e1
   have e0:Rs.way as b.came (k+1) q=Rs.way as b.came k (tl as h)++ [h]:=by
    show (match b.came q with | none=> [] | some h=>Rs.way as b.came k (tl as h)++ [h])=_
    rw [c]
   have h4:=headsL (as:=as) (Rs.tW e2)
   rw [Rs.hd_tw] at h4
   have h3:∀s:SD,ixK s (some (.lst (gc m b))) (some (.int (q:Int)))= .ok (.d (.int (h:Int))) s:=h3
   have sz:((w.map nD).length<sizeLine)=True:=eq_true (by rw [List.length_map]; omega)
   have hi:=hi hm
   simp! only [ae,h3]
   simp! only [ah dW,h1,h2,h3,h4,w_xor,xor1,sz]
   exact ⟨k,by omega,w++ [h],tl as h,by unfold wyS; rw [List.map_append]; rfl,R.ok.tl e2,by rw [ew,e0]; simp,by simp; omega,fun _=>by omega,by omega⟩
theorem rm_get (c:h<rs.length):rs[h]? =some (rm rs h):=by
 unfold rm
 rw [List.getD_eq_getElem?_getD,List.getElem?_eq_getElem c]
 rfl
theorem tZ (c:h<rs.length):rs.set h (rm rs h)=rs:=by
 refine List.ext_getElem? fun i=>?_
 by_cases q:h=i
 ·subst q; rw [List.getElem?_set_self c,rm_get c]
 ·rw [List.getElem?_set_ne q]
theorem iV {i:Nat} (c:S.get i=some x):S.put i x=S:=by
 unfold Z.Sto.put
 have:(fun j=>if j=i then some x else S.get j)=S.get:=funext fun j=>by
  by_cases q:j=i
  ·rw [if_pos q,q,c]
  ·rw [if_neg q]
 rw [this]
theorem RestAt.rooms {rs' :List (Option Int)} (R:RestAt S r m as rs) (hl:rs'.length=rs.length):RestAt (S.put (r+2) (.lst (rs'.map rD))) r m as rs' where
 o:=by rw [Z.Sto.put_ne (by omega)]; exact R.o
 h:=by rw [Z.Sto.put_ne (by omega)]; exact R.h
 k:=Z.Sto.put_same
 s:=by rw [Z.Sto.put_ne (by omega)]; exact R.s
 p:=fun p hp=>by rw [Z.Sto.put_ne (by omega)]; exact R.p p hp
 nx:=R.nx
 len:=hl.trans R.len
 ok:=R.ok
def lpK (g:SD→R Fl):Fl→SD→R Fl
 | .nx,s=>g s
 | .ct,s=>g s
 | .bk,s=> .ok .nx s
 | .rt a,s=> .ok (.rt a) s
theorem x_lpn {g:SD→R Fl}:lpK g .nx s=g s:=Eq.trans rfl rfl
def lp2 (fz:Vl→SD→R Unit) (fb:SD→R Fl) (d:D):SD→R Fl:=fun s=>((fz (.d d) s).bind (pT fb)).bind (lpK fun s=> .ok .nx s)
theorem x_lp2 {fz:Vl→SD→R Unit} {fb:SD→R Fl} {d:D}:lp2 fz fb d s=((fz (.d d) s).bind (pT fb)).bind (lpK fun s=> .ok .nx s):=rfl
theorem sI {fz:Vl→SD→R Unit} {fb:SD→R Fl} {d1 d2:D}:forK fz fb ⟨[.d x],fun _=>True,[d1,d2]⟩ s=((fz (.d d1) s).bind (pT fb)).bind (lpK (lp2 fz fb d2)):=by
 unfold forK
 rw [if_pos Nl.d1]
 unfold du
 rw [if_pos trivial]
 congr 1
 funext fl s1
 have e:∀s,du (fun _=>True) (fun d s=>(fz (.d d) s).bind fun _ s2=>fb s2) [d2] s=lp2 fz fb d2 s:=fun s=>by
  unfold du lp2
  rw [if_pos trivial]
  congr 1
  funext fl s1
  cases fl<;> first | rfl | (show du _ _ [] s1=_; unfold du; rw [if_pos trivial]; rfl)
 cases fl<;> first | rfl | exact e s1
noncomputable def cgI:SD→R Fl:=(bJ (zB (z2 (iy true) (z2 oIx (z1 (au ["Rest"] "rooms") (aa 0)) (aa 3)) (zC .non))) (oN gL dJ (fun a b=>a+b) (z1 (au ["Rest"] "rooms") (aa 0)) (aa 3) (aa 4)) aC)
theorem cg_eq:dj=(cK (oM (aL (bY (zA (bY (zA (aa 1) (zA (z2 uu (zC (.int 0)) (aa 2)) zA0))) (zA (bY (zA (z2 oXor (aa 1) (zC (.int 1))) (zA (aa 2) zA0))) zA0))))) (fT [3,4]) cgI):=rfl
theorem tE {v1 v2:Option Vl} {v:Int} (h1:S.get r=some (.obj "Rest" (cH r m))) (h2:S.get (r+2)=some (.lst (rs.map rD))) (c:h<rs.length):
  cgI ⟨[some (.d (.cell r)),v1,v2,some (.d (.int (h:Int))),some (.d (.int v))],S⟩= .ok .nx ⟨[some (.d (.cell r)),v1,v2,some (.d (.int (h:Int))),some (.d (.int v))],S.put (r+2) (.lst ((rs.set h ((rm rs h).map (· +v))).map rD))⟩:=by
 have h3:∀s:SD,ixK s (some (.lst (rs.map rD))) (some (.int (h:Int)))= .ok (.d (rD (rm rs h))) s:=fun s=>ixRm c
 unfold cgI
 cases c2:rm rs h with
 | none=>
  rw [c2] at h3
  simp! only [ah bB,h1,h2,h3,isN_r,Option.isNone_none]
  rw [show (none:Option Int).map (· +v)=rm rs h from c2.symm,tZ c,iV h2]
 | some u=>
  rw [c2] at h3
  have h4:gL (.lst (rs.map rD)) (.int (h:Int))=some u:=gL_at (by rw [atRm c,c2]; rfl)
  have h5:∀a s,stK' (dJ (.int (u+v))) a (.int (h:Int)) s (some (.lst (rs.map rD)))=s.mod (.lst ((rs.set h (some (u+v))).map rD)) a:=fun a s=>(qd (by simpa using c)).trans (by rw [List.map_set]; rfl)
  simp! only [ah bB,h1,h2,h3,isN_r,Option.isNone_some,h4,h5]
  rfl
theorem uN {v:Int} (R:RestAt S r m as rs) (c:h<2*as.length):goF bP [.cell r, .int (h:Int), .int v] ⟨sl,S⟩= .ok (.d .non) ⟨sl,S.put (r+2) (.lst ((Rs.chg rs h v).map rD))⟩:=by
 refine lB ?_
 show Wp (dj ⟨[some (.d (.cell r)),some (.d (.int (h:Int))),some (.d (.int v)),none,none],S⟩) _ _
 rw [cg_eq]
 have c2:h<rs.length:=by rw [R.len]; exact c
 have e1:=fun v1 v2=>tE (v1:=v1) (v2:=v2) (v:=0 - v) R.o R.k c2
 have R1:=R.rooms (rs' :=rs.set h ((rm rs h).map (· +(0 - v)))) (List.length_set ..)
 have e2:=fun v1 v2=>tE (v1:=v1) (v2:=v2) (v:=v) R1.o R1.k (h:=tw h) (by rw [List.length_set,R.len]; exact Rs.tW c)
 simp! only [w_xor,xor1,sI,x_lpn,x_lp2,e1,e2]
 rfl
theorem sD (R:RestAt S r m as rs) (c:h<as.length) (hz:as.length≤sizeLine):goF aS [.cell r, .int (h:Int)] ⟨sl,S⟩= .ok (.d (rD (rm rs (2*h+1)))) ⟨sl,S⟩:=by
 refine lB ?_
 show Wp (cE ⟨[some (.d (.cell r)),some (.d (.int (h:Int)))],S⟩) _ _
 unfold cE
 have h1:=R.o
 have h2:=R.k
 have h3:=roomR R (h:=2*h+1) (by omega)
 have e:(2:Int)*(h:Int)+1=((2*h+1:Nat):Int):=by omega
 have z:CMulX 2 (h:Int)=True:=eq_true (bX (by omega) (by omega) (by omega) (by rw [sizeLine_eq] at hz; omega))
 simp! only [ah bB,h1,h2,z,e,h3]
theorem sx {src t:Nat} (R:RestAt S r m as rs) (hs:src<m) (ht:t<m) (hz:m<sizeLine):
  goF aO [.cell r, .lst (gc m (Rs.bp as rs e m src)), .int (t:Int)] ⟨sl,S⟩= .ok (.own (.lst ((Rs.bO as rs e m src t).map nD))) ⟨sl,S⟩:=uM R (Rs.aE R.ok hs) ht hz
theorem rp {w:List Nat} (hw:∃h∈w,rm rs h≠none):ka (.own (.lst ((w.filter fun h=>(rm rs h).isSome).map fun h=>rD (rm rs h)))) s= .ok (.d (.int (Rs.aH rs w))) s:=by
 have e:(w.filter fun h=>(rm rs h).isSome).map (fun h=>rD (rm rs h))=(w.filterMap (rm rs)).map D.int:=by
  clear hw
  induction w with
  | nil=>rfl
  | cons h w ih=>
   cases c:rm rs h with
   | none=>rw [List.filter_cons_of_neg (by rw [c]; decide),List.filterMap_cons_none c]; exact ih
   | some v=>rw [List.filter_cons_of_pos (by rw [c]; rfl),List.filterMap_cons_some c,List.map_cons,List.map_cons,ih,c]; rfl
 obtain ⟨h,hh,hn⟩:=hw
 obtain ⟨v,ev⟩:=Option.ne_none_iff_exists'.mp hn
 have hm:v∈w.filterMap (rm rs):=List.mem_filterMap.mpr ⟨h,hh,ev⟩
 unfold ka Rs.aH
 simp only [fA,e]
 cases c:w.filterMap (rm rs) with
 | nil=>rw [c] at hm; cases hm
 | cons i is=>
  have:fQ ((i::is).map D.int)=some (i::is):=by rw [gZ (fun i=>i),List.map_id']
  rw [this]
abbrev lfS (r:Nat) (v1 v2:Option Vl) (l:Int) (v4 v5 v6:Option Vl) (S:Sto):SD:=
 ⟨[some (.d (.cell r)),v1,v2,some (.d (.int l)),v4,v5,v6],S⟩
noncomputable def lfB:SD→R Fl:=(ai (aB (z1 ka (zLc (eS (aL (aa 4))) (zSt 6) (zB (z2 (iy true) (z2 oIx (z1 (au ["Rest"] "rooms") (aa 0)) (aa 6)) (zC .non))) (z2 oIx (z1 (au ["Rest"] "rooms") (aa 0)) (aa 6)) [6])) (zSt 5))
 (ai (cK (eS (aL (aa 4))) (zSt 6) (aD (aG "Rest" "change" bP [] (aa 0) (zA (aa 6) (zA (aa 5) zA0)))))
 (ai (zAug 3 (fun a b=>a+b) (aa 5))
 (aB (aG "Rest" "way_to" aO [] (aa 0) (zA (aG "Rest" "walked" aP [] (aa 0) (zA (aa 1) (zA (zC (.bl false)) zA0))) (zA (aa 2) zA0))) (zSt 4)))))
theorem lf_eq:dh=(ai (aB (zC (.int 0)) (zSt 3))
 (ai (aB (aG "Rest" "way_to" aO [] (aa 0) (zA (aG "Rest" "walked" aP [] (aa 0) (zA (aa 1) (zA (zC (.bl false)) zA0))) (zA (aa 2) zA0))) (zSt 4))
 (ai (zWh (zB (z2 oNe (aa 4) (cG zA0))) lfB)
 (bc (aa 3))))):=rfl
theorem lf_turn {src t:Nat} {l:Int} {v5 v6:Option Vl} (R:RestAt S r m as rs) (G:Rs.Good as m src t rs) (hz:m<sizeLine) (hw:Rs.bO as rs false m src t≠ []):
  let w:=Rs.bO as rs false m src t; let rs' :=Rs.push rs w (Rs.aH rs w)
  Wp (lfB (lfS r (some (.d (.int (src:Int)))) (some (.d (.int (t:Int)))) l (some (.own (.lst (w.map nD)))) v5 v6 S)) (fun fl s' =>fl= .nx∧∃v5 v6,s' =lfS r (some (.d (.int (src:Int)))) (some (.d (.int (t:Int)))) (l+Rs.aH rs w) (some (.own (.lst ((Rs.bO as rs' false m src t).map nD)))) v5 v6 (S.put (r+2) (.lst (rs'.map rD)))) XF:=by
 intro w rs'
 have W:=Rs.iI G hw
 have hf:∃h∈w,rm rs h≠none:=Classical.byContradiction fun q=>G.fin ((Rs.aE G.ok G.hs).rch.mpr (Rs.mJ W.path fun h hh=>⟨(W.all h hh).1,Classical.byContradiction fun q2=>q ⟨h,hh,q2⟩⟩))
 have hl:w.length≤sizeLine:=by
  have h1:=List.Nodup.length_le_of_subset W.nd (l₂:=List.range m) fun p hp=>List.mem_range.mpr (by
   rcases List.mem_cons.mp hp with rfl | hp
   ·exact G.hs
   ·obtain ⟨h,hh,rfl⟩:=List.mem_map.mp hp
    exact G.ok.hd (W.all h hh).1)
  rw [List.length_range,List.length_cons,List.length_map] at h1
  show (Rs.bO as rs false m src t).length≤sizeLine
  have h2:(Rs.bO as rs false m src t).length+1≤m:=h1
  omega
 have h1:=R.o
 have h2:=R.k
 have e1:=fun s=>rp (s:=s) hf
 unfold lfB
 simp! only []
 rw [gR (l:=w) nD (fun h=>rD (rm rs h)) (fun h=>(rm rs h).isSome) rfl rfl Nl.d1 trivial (fun h hh=>?_) hl]
 ·simp! only [e1]
  rw [ae]
  refine fP (fun j s=>∃v6,s=lfS r (some (.d (.int (src:Int)))) (some (.d (.int (t:Int)))) l (some (.d (.lst (w.map nD)))) (some (.d (.int (Rs.aH rs w)))) v6 (S.put (r+2) (.lst ((Rs.push rs (w.take j) (Rs.aH rs w)).map rD)))) Nl.d1 (fun _ _ _=>trivial) ⟨_,by rw [List.take_zero]; show _=lfS _ _ _ _ _ _ _ (S.put (r+2) (.lst (rs.map rD))); rw [iV h2]⟩ (fun j x s ex hI=>?_) (fun s hI=>?_)
  ·obtain ⟨u6,rfl⟩:=hI
   have ex:(w.map nD)[j]? =some x:=ex
   rw [List.getElem?_map] at ex
   cases eh:w[j]? with
   | none=>rw [eh] at ex; cases ex
   | some h=>
    rw [eh] at ex
    cases ex
    have hh:=(W.all h (List.mem_of_getElem? eh)).1
    have hlen:(Rs.push rs (w.take j) (Rs.aH rs w)).length=rs.length:=(Rs.dY (n:=as.length) G.len fun h hh=>(W.all h (List.mem_of_mem_take hh)).1).len
    have R1:=R.rooms hlen
    have o1:=R1.o
    have e2:=fun sl:List (Option Vl)=>uN (sl:=sl) (v:=Rs.aH rs w) R1 hh
    simp! only [ao rB,o1,e2,iW]
    exact ⟨some (.d (nD h)),by rw [show Rs.push rs (w.take (j+1)) (Rs.aH rs w)=Rs.chg (Rs.push rs (w.take j) (Rs.aH rs w)) h (Rs.aH rs w) from jO eh]⟩
  ·obtain ⟨u6,rfl⟩:=hI
   have el:Rs.push rs (w.take (w.map nD).length) (Rs.aH rs w)=rs' :=by
    rw [List.length_map,List.take_length]
   have R1:=R.rooms (rs' :=rs') (Rs.dY (n:=as.length) G.len fun h hh=>(W.all h hh).1).len
   have o1:=R1.o
   show Wp (seqK _ Fl.nx (lfS r (some (.d (.int (src:Int)))) (some (.d (.int (t:Int)))) l (some (.d (.lst (w.map nD)))) (some (.d (.int (Rs.aH rs w)))) u6 (S.put (r+2) (.lst ((Rs.push rs (w.take (w.map nD).length) (Rs.aH rs w)).map rD))))) _ _
   rw [el]
   have e2:=fun sl:List (Option Vl)=>jh (sl:=sl) (e:=false) R1 G.hs hz
   have e3:=fun sl:List (Option Vl)=>sx (sl:=sl) (e:=false) R1 G.hs G.ht hz
   simp! only [↓uT,gq,lX,ao gO,ao kf,o1,e2,e3]
   exact ⟨_,_,rfl⟩
 ·have hh:=(W.all h hh).1
  have h3:=roomR R hh
  unfold Z.iG
  simp! only [ah bB,h1,h2,h3,isN_r]
  cases rm rs h<;> simp! only [rD,Option.isNone_none,Option.isNone_some,Option.isSome_none,Option.isSome_some]
theorem g_lift {src t:Nat} (R:RestAt S r m as rs) (G:Rs.Good as m src t rs) (hz:m<sizeLine):
  ∃rs' a,Rs.Lift as m src t rs rs' a∧∀sl,goF bS [.cell r, .int (src:Int), .int (t:Int)] ⟨sl,S⟩= .ok (.d (.int a)) ⟨sl,S.put (r+2) (.lst (rs'.map rD))⟩:=by
 have main:∃rs' a,Rs.Lift as m src t rs rs' a∧Wp (dh ⟨[some (.d (.cell r)),some (.d (.int (src:Int))),some (.d (.int (t:Int))),none,none,none,none],S⟩) (fun fl s' =>flv fl=some (.d (.int a))∧s'.st=S.put (r+2) (.lst (rs'.map rD))) XF:=by
  suffices h:Wp (dh ⟨[some (.d (.cell r)),some (.d (.int (src:Int))),some (.d (.int (t:Int))),none,none,none,none],S⟩) (fun fl s' =>∃rs' a,Rs.Lift as m src t rs rs' a∧flv fl=some (.d (.int a))∧s'.st=S.put (r+2) (.lst (rs'.map rD))) XF by
   obtain ⟨fl,s',e,rs',a,L,h⟩:=h.is
   exact ⟨rs',a,L,by rw [e]; exact h⟩
  have o1:=R.o
  have e2:=fun sl:List (Option Vl)=>jh (sl:=sl) (e:=false) R G.hs hz
  have e3:=fun sl:List (Option Vl)=>sx (sl:=sl) (e:=false) R G.hs G.ht hz
  rw [lf_eq]
  simp! only [ao gO,ao kf,o1,e2,e3]
  rw [ae]
  refine wh_w (m:=Rs.todo as m src rs) (fun k s=>∃rs1 l v5 v6,s=lfS r (some (.d (.int (src:Int)))) (some (.d (.int (t:Int)))) l (some (.own (.lst ((Rs.bO as rs1 false m src t).map nD)))) v5 v6 (S.put (r+2) (.lst (rs1.map rD)))∧rs1.length=rs.length∧Rs.Good as m src t rs1∧(∀rs2 a,Rs.Lift as m src t rs1 rs2 a→Rs.Lift as m src t rs rs2 (l+a))∧k=Rs.todo as m src rs1) ⟨rs,0,none,none,by rw [iV R.k],rfl,G,fun rs2 a L=>by rw [Int.zero_add]; exact L,rfl⟩ ?_
  rintro k s ⟨rs1,l,v5,v6,rfl,hl,G1,fw,rfl⟩
  have R1:=R.rooms hl
  simp! only [ae]
  by_cases c:Rs.bO as rs1 false m src t= []
  ·have L:=fw rs1 0 (.done c)
   rw [Int.add_zero] at L
   simp! only [c,List.map_nil]
   exact ⟨rs1,l,L,rfl,rfl⟩
  ·have c2:((Rs.bO as rs1 false m src t).map nD).isEmpty=false:=by
    cases q:Rs.bO as rs1 false m src t with
    | nil=>exact absurd q c
    | cons _ _=>rfl
   simp! only [c2]
   obtain ⟨A,hp⟩:=Rs.fN G1 (Rs.iI G1 c)
   refine (lf_turn (v5:=v5) (v6:=v6) (l:=l) R1 G1 hz c).mono (fun fl s' hh=>?_) fun _ _ _ h=>h.elim
   obtain ⟨rfl,u5,u6,rfl⟩:=hh
   refine ⟨_,Rs.todo_lt G1 A hp,_,_,u5,u6,by rw [iW],A.sh.len.trans hl,G1.shift A,fun rs2 a L=>?_,rfl⟩
   have:=fw rs2 _ (.step c L)
   rw [←Int.add_assoc] at this
   exact this
 obtain ⟨rs',a,L,h⟩:=main
 exact ⟨rs',a,L,fun sl=>lB h⟩
end
end T

set_option maxHeartbeats 4000000
namespace Rs
theorem ta_app {as:As} {a:Nat×Nat} {k:Nat}:ta (as++ [a]) k=if k=as.length then a.1 else ta as k:=by
 unfold ta
 rw [List.getD_eq_getElem?_getD,List.getD_eq_getElem?_getD]
 by_cases c:k=as.length
 ·subst c; rw [if_pos rfl,List.getElem?_append_right (Nat.le_refl _),Nat.sub_self]; rfl
 ·rw [if_neg c]
  by_cases c2:k<as.length
  ·rw [List.getElem?_append_left c2]
  ·rw [List.getElem?_append_right (by omega),List.getElem?_eq_none (by simp; omega),List.getElem?_eq_none (l:=as) (by omega)]
theorem he_app {as:As} {a:Nat×Nat} {k:Nat}:he (as++ [a]) k=if k=as.length then a.2 else he as k:=by
 unfold he
 rw [List.getD_eq_getElem?_getD,List.getD_eq_getElem?_getD]
 by_cases c:k=as.length
 ·subst c; rw [if_pos rfl,List.getElem?_append_right (Nat.le_refl _),Nat.sub_self]; rfl
 ·rw [if_neg c]
  by_cases c2:k<as.length
  ·rw [List.getElem?_append_left c2]
  ·rw [List.getElem?_append_right (by omega),List.getElem?_eq_none (by simp; omega),List.getElem?_eq_none (l:=as) (by omega)]
theorem hd_app {as:As} {a:Nat×Nat} {h:Nat} (c:h<2*as.length):hd (as++ [a]) h=hd as h∧tl (as++ [a]) h=tl as h:=by
 have c2:¬h / 2=as.length:=by omega
 unfold hd tl
 rw [ta_app,he_app,if_neg c2,if_neg c2]
 exact ⟨rfl,rfl⟩
theorem hd_new {as:As} {a:Nat×Nat}:hd (as++ [a]) (2*as.length)=a.2∧hd (as++ [a]) (2*as.length+1)=a.1∧tl (as++ [a]) (2*as.length)=a.1∧tl (as++ [a]) (2*as.length+1)=a.2:=by
 rw [tl_even.1,tl_even.2,tl_odd.1,tl_odd.2,ta_app,he_app,if_pos rfl,if_pos rfl]
 exact ⟨rfl,rfl,rfl,rfl⟩
theorem jU (n:Nat):List.range (2*(n+1))=List.range (2*n)++ [2*n,2*n+1]:=by
 rw [show 2*(n+1)=2*n+1+1 by omega,List.range_succ,List.range_succ,List.append_assoc]
 rfl
theorem sj {as:As} {a:Nat×Nat}:eK (as++ [a])=eK as++ [a.2,a.1]:=by
 unfold eK
 rw [List.length_append,List.length_singleton,jU,List.map_append]
 congr 1
 ·exact List.map_congr_left fun h hh=>(hd_app (List.mem_range.mp hh)).1
 ·simp only [List.map_cons,List.map_nil]
  rw [hd_new.1,hd_new.2.1]
theorem oP {as:As} {a:Nat×Nat} {p:Nat}:starts (as++ [a]) p=starts as p++((if a.1=p then [2*as.length] else [])++if a.2=p then [2*as.length+1] else []):=by
 unfold starts
 rw [List.length_append,List.length_singleton,jU,List.filter_append]
 congr 1
 ·exact List.filter_congr fun h hh=>by rw [(hd_app (List.mem_range.mp hh)).2]
 ·simp only [List.filter_cons,List.filter_nil]
  rw [hd_new.2.2.1,hd_new.2.2.2]
  by_cases c1:a.1=p<;> by_cases c2:a.2=p<;> simp [c1,c2]
theorem AsOk.app {as:As} {a:Nat×Nat} {m:Nat} (o:AsOk as m) (h1:a.1<m) (h2:a.2<m):AsOk (as++ [a]) m:=fun b hb=>by
 rcases List.mem_append.mp hb with hb | hb
 ·exact o b hb
 ·rw [List.mem_singleton.mp hb]; exact ⟨h1,h2⟩
end Rs
namespace T
open PySem PySem.Spec PyProof.Rows L2 M Z
open Classical
open Rs (As tw hd tl rm gm BS hst pst bfs starts eK)
section
variable {a b:Vl} {s:SD} {S:Sto} {sl:List (Option Vl)} {x y:D} {n h m r p q t:Nat} {as:As} {rs:List (Option Int)} {e:Bool}
theorem iK:Z.upTo 0 m=(List.range m).map nD:=by
 unfold Z.upTo
 exact List.map_congr_left fun k _=>by rw [Int.zero_add]
theorem jW {f:Nat→D}:cg ((List.range n).map f)=(List.range n).map fun p:Nat=>D.tup [.int (p:Int),f p]:=by
 unfold cg
 refine List.ext_getElem (by simp) fun i h1 h2=>?_
 simp
theorem sA {src:Nat} (R:RestAt S r m as rs) (hs:src<m) (hz:m<sizeLine):goF aY [.cell r, .int (src:Int)] ⟨sl,S⟩= .ok (.own (.lst ((List.range m).map fun p=>D.bl (Rs.bt as rs false m src p)))) ⟨sl,S⟩:=by
 refine lB ?_
 show Wp (cC ⟨[some (.d (.cell r)),some (.d (.int (src:Int))),none,none,none],S⟩) _ _
 unfold cC
 have o1:=R.o
 have e2:=fun sl:List (Option Vl)=>jh (sl:=sl) (e:=false) R hs hz
 simp! only [ao gO,o1,e2]
 rw [gS (l:=List.range m) (fun p:Nat=>D.tup [.int (p:Int),oD ((Rs.bp as rs false m src).came p)]) (fun p=>D.bl (Rs.bt as rs false m src p)) jW rfl Nl.d1 trivial (fun p hp=>?_) (by rw [List.length_range]; omega)]
 ·simp! only []
 ·have hp:=List.mem_range.mp hp
  have W:=Rs.aE (rs:=rs) (e:=false) R.ok hs
  unfold Z.iG
  simp! only [isN_o]
  have c3:decide ((p:Int)=(src:Int))=decide (p=src):=decide_eq_decide.mpr (by omega)
  have c4:Rs.bt as rs false m src p=(decide (p=src) || !((Rs.bp as rs false m src).came p).isNone):=by
   unfold Rs.bt
   by_cases c:p=src
   ·subst c; rw [decide_eq_true W.sr,decide_eq_true (rfl:p=p)]; rfl
   ·rw [decide_eq_false c,Bool.false_or]
    by_cases c2:p∈(Rs.bp as rs false m src).row
    ·obtain ⟨h,e,_⟩:=W.inn p c2 c
     rw [decide_eq_true c2,e]; rfl
    ·rw [decide_eq_false c2,W.out p c2]; rfl
  rw [c3,c4]
  cases decide (p=src)<;> simp! only []<;> rfl
def endD (as:As) (rs:List (Option Int)) (m s t:Nat):Vl:=if Rs.bO as rs true m s t= [] then .d .non else .own (.lst ((Rs.bO as rs true m s t).map fun h=> .int ((h / 2:Nat):Int)))
def eg (xs:List D) (S:Sto):Sto:=⟨S.nx+xs.length,fun j=>if j<S.nx then S.get j else match xs[j - S.nx]? with
 | some x=>some x
 | none=>S.get j⟩
theorem mP {xs:List D} {j:Nat} (h:j<S.nx):(eg xs S).get j=S.get j:=if_pos h
theorem uz {xs:List D} {j:Nat} (h:xs[j]? =some x):(eg xs S).get (S.nx+j)=some x:=by
 show (if S.nx+j<S.nx then _ else match xs[S.nx+j - S.nx]? with | some x=>some x | none=>S.get (S.nx+j))=_
 rw [if_neg (by omega),show S.nx+j - S.nx=j by omega,h]
theorem oY {xs:List D}:eg xs (S.new x)=eg (x::xs) S:=by
 unfold eg
 have h1:(S.new x).nx=S.nx+1:=rfl
 rw [h1,List.length_cons,show S.nx+1+xs.length=S.nx+(xs.length+1) by omega]
 congr 1
 funext j
 show (if j<S.nx+1 then (if j=S.nx then some x else S.get j) else match xs[j - (S.nx+1)]? with | some x=>some x | none=>(if j=S.nx then some x else S.get j))=_
 by_cases c:j<S.nx
 ·rw [if_pos (by omega),if_neg (by omega),if_pos c]
 ·rw [if_neg c]
  by_cases c2:j=S.nx
  ·subst c2; rw [if_pos (by omega),if_pos rfl,Nat.sub_self]; rfl
  ·rw [if_neg (by omega),show j - S.nx=(j - (S.nx+1))+1 by omega,List.getElem?_cons_succ,if_neg c2]
theorem qY:eg [] S=S:=by
 unfold eg
 have:(fun j=>if j<S.nx then S.get j else match ([]:List D)[j - S.nx]? with | some x=>some x | none=>S.get j)=S.get:=funext fun j=>by
  split
  ·rfl
  ·simp
 rw [this]
 rfl
theorem nA {f:D→D} {fz:Vl→SD→R Unit} {fe:SD→R Vl} {is:List Nat}:∀{ds acc:List D} {S:Sto},(∀d∈ds,∀S:Sto,Wp (fz (.d d) ⟨sl,S⟩) (fun _ s1=>Wp (fe s1) (fun a s2=>a= .d (.cell S.nx)∧s2.st=S.new (f d)∧dr s2.sl is=sl) XF) XF)→acc.length+ds.length≤sizeLine→
  fZ (fun _=>True) fz fH fe is ds acc ⟨sl,S⟩= .ok (acc++(List.range ds.length).map fun p=> .cell (S.nx+p)) ⟨sl,eg (ds.map f) S⟩
 | [],acc,S,_,_=>by
  unfold fZ
  rw [if_pos trivial,List.map_nil,qY]
  simp
 | d::ds,acc,S,h,hl=>by
  unfold fZ
  rw [if_pos trivial]
  obtain ⟨_,s1,e1,h1⟩:=(h d (List.mem_cons_self ..) S).is
  obtain ⟨a,s2,e2,rfl,h2,h3⟩:=h1.is
  rw [List.length_cons] at hl
  rw [e1]
  show R.bind (R.nx (fe s1)) _=_
  rw [e2]
  show (if acc.length<sizeLine then fZ _ fz fH fe is ds (acc++ [.cell S.nx]) ⟨dr s2.sl is,s2.st⟩ else .bad)=_
  rw [if_pos (by omega),h3,h2,nA (fun d hd=>h d (List.mem_cons_of_mem _ hd)) (by simp; omega),List.map_cons,oY]
  congr 1
  rw [List.append_assoc,List.length_cons,List.range_succ_eq_map,List.map_cons,List.map_map]
  congr 1
  show D.cell S.nx::_=D.cell (S.nx+0)::_
  rw [Nat.add_zero]
  congr 1
  refine List.map_congr_left fun p _=>?_
  show D.cell (S.nx+1+p)=D.cell (S.nx+(p+1))
  congr 1
  omega
theorem uE {f:D→D} {fz:Vl→SD→R Unit} {fe:SD→R Vl} {is:List Nat} {sl0:List (Option Vl)} {ds:List D} {S:Sto} {hs:List Vl} (hN:Nl hs) (e0:dr sl0 is=sl) (h:∀d∈ds,∀S:Sto,Wp (fz (.d d) ⟨sl,S⟩) (fun _ s1=>Wp (fe s1) (fun a s2=>a= .d (.cell S.nx)∧s2.st=S.new (f d)∧dr s2.sl is=sl) XF) XF) (hl:ds.length≤sizeLine):
  lcK fz fH fe is ⟨hs,fun _=>True,ds⟩ ⟨sl0,S⟩= .ok (.own (.lst ((List.range ds.length).map fun p=> .cell (S.nx+p)))) ⟨sl,eg (ds.map f) S⟩:=by
 unfold lcK
 rw [if_pos hN]
 show R.bind (R.nx (fZ (fun _=>True) fz fH fe is ds [] ⟨dr sl0 is,S⟩)) _=_
 rw [e0,nA h (by simpa using hl)]
 rfl
structure Grow (S S' :Sto):Prop where
 old:∀j,j<S.nx→S'.get j=S.get j
 nx:S.nx≤S'.nx
theorem rest_f1 {x:D}:gb "many" x ([]:List (Str×D))=([("many",x)]:List (Str×D)):=Eq.trans rfl rfl
theorem rest_f2 {x y:D}:gb "heads" x ([("many",y)]:List (Str×D))=([("many",y),("heads",x)]:List (Str×D)):=Eq.trans rfl rfl
theorem rest_f3 {x y z:D}:gb "rooms" x ([("many",y),("heads",z)]:List (Str×D))=([("many",y),("heads",z),("rooms",x)]:List (Str×D)):=Eq.trans rfl rfl
theorem rest_f4 {x y z u:D}:gb "starts" x ([("many",y),("heads",z),("rooms",u)]:List (Str×D))=([("many",y),("heads",z),("rooms",u),("starts",x)]:List (Str×D)):=Eq.trans rfl rfl
theorem rg62 (hz:m<sizeLine):(-(2 ^ 62)≤(m:Int)∧(m:Int)<2 ^ 62)=True:=eq_true ⟨by omega,by rw [sizeLine_eq] at hz; omega⟩
noncomputable def inD:SD→R Fl:=(cF ["Rest"] "starts" (aa 0) (aN (zLc (jB (zA (aa 1) zA0)) (zSt 2) fH (aN (cG zA0)) [2])))
theorem in_eq {g:SD→R Fl} (hg:g=inD):di=(ai (cF ["Rest"] "many" (aa 0) (aa 1))
 (ai (cF ["Rest"] "heads" (aa 0) (aN (cG zA0)))
 (ai (cF ["Rest"] "rooms" (aa 0) (aN (cG zA0)))
 g))):=by
 subst hg
 rfl
section
variable {r:Nat} {Q:Fl→SD→Prop} {v2:Option Vl} {g:SD→R Fl}
theorem in_a (h:Wp (g ⟨[some (.d (.cell r)),some (.d (.int (m:Int))),v2],S.put r (.obj "Rest" [("many", .int (m:Int))])⟩) Q XF) (h1:S.get r=some (.obj "Rest" [])):Wp (((ai (cF ["Rest"] "many" (aa 0) (aa 1))
 g)) ⟨[some (.d (.cell r)),some (.d (.int (m:Int))),v2],S⟩) Q XF:=by
 simp! only [h1,rest_f1]
 exact h
theorem in_b (h:Wp (g ⟨[some (.d (.cell r)),some (.d (.int (m:Int))),v2],(S.new (.lst [])).put r (.obj "Rest" [("many", .int (m:Int)),("heads", .cell S.nx)])⟩) Q XF) (h1:S.get r=some (.obj "Rest" [("many", .int (m:Int))])) (h2:r<S.nx):Wp (((ai (cF ["Rest"] "heads" (aa 0) (aN (cG zA0)))
 g)) ⟨[some (.d (.cell r)),some (.d (.int (m:Int))),v2],S⟩) Q XF:=by
 have h3:∀x,(S.new x).get r=some (.obj "Rest" [("many", .int (m:Int))]):=fun x=>(bV (by omega)).trans h1
 simp! only [h3,rest_f2]
 exact h
theorem in_c (hh:Wp (g ⟨[some (.d (.cell r)),some (.d (.int (m:Int))),v2],(S.new (.lst [])).put r (.obj "Rest" [("many", .int (m:Int)),("heads",x),("rooms", .cell S.nx)])⟩) Q XF) (h1:S.get r=some (.obj "Rest" [("many", .int (m:Int)),("heads",x)])) (h2:r<S.nx):Wp (((ai (cF ["Rest"] "rooms" (aa 0) (aN (cG zA0)))
 g)) ⟨[some (.d (.cell r)),some (.d (.int (m:Int))),v2],S⟩) Q XF:=by
 have h3:∀y,(S.new y).get r=some (.obj "Rest" [("many", .int (m:Int)),("heads",x)]):=fun y=>(bV (by omega)).trans h1
 simp! only [h3,rest_f3]
 exact hh
def cellsN (n m:Nat):List D:=(List.range m).map fun p=> .cell (n+p)
theorem in_d (hg:g=inD) (hz:m<sizeLine) (h:Q .nx ⟨[some (.d (.cell r)),some (.d (.int (m:Int))),none],((eg (List.replicate m (.lst [])) S).new (.lst (cellsN S.nx m))).put r (.obj "Rest" [("many", .int (m:Int)),("heads",x),("rooms",y),("starts", .cell (S.nx+m))])⟩) (h1:S.get r=some (.obj "Rest" [("many", .int (m:Int)),("heads",x),("rooms",y)])) (h2:r<S.nx):Wp (g ⟨[some (.d (.cell r)),some (.d (.int (m:Int))),v2],S⟩) Q XF:=by
 subst hg
 have z0:=rg62 hz
 have hm:((m:Nat):Int).toNat=m:=Int.toNat_natCast m
 have len:(Z.upTo 0 m).length=m:=by unfold Z.upTo; rw [List.length_map,List.length_range]
 have nx1:(eg (List.replicate m (.lst [])) S).nx=S.nx+m:=by show S.nx+(List.replicate m _).length=_; rw [List.length_replicate]
 have h3:∀z,((eg (List.replicate m (.lst [])) S).new z).get r=some (.obj "Rest" [("many", .int (m:Int)),("heads",x),("rooms",y)]):=fun z=>(bV (by omega)).trans ((mP h2).trans h1)
 unfold inD
 simp! only [z0,hm]
 rw [uE (f:=fun _=> .lst []) (sl:= [some (.d (.cell r)),some (.d (.int (m:Int))),none]) (fun e he=>(by cases he)) rfl (fun d hd S=>?_) (by rw [len]; omega)]
 ·rw [len,show (Z.upTo 0 m).map (fun _=>(.lst []:D))=List.replicate m (.lst []) by rw [List.map_const',len]]
  simp! only [nx1,h3,rest_f4]
  exact h
 ·simp! only []
end
theorem qC {S0:Sto} (hz:m<sizeLine):∃S',(∀sl,goF ba [.cell S0.nx, .int (m:Int)] ⟨sl,S0.new (.obj "Rest" [])⟩= .ok (.d .non) ⟨sl,S'⟩)∧RestAt S' S0.nx m [] []∧Grow S0 S'∧S'.nx=S0.nx+4+m:=by
 suffices h:Wp (di ⟨[some (.d (.cell S0.nx)),some (.d (.int (m:Int))),none],S0.new (.obj "Rest" [])⟩) (fun fl s' =>flv fl=some (.d .non)∧RestAt s'.st S0.nx m [] []∧Grow S0 s'.st∧s'.st.nx=S0.nx+4+m) XF by
  obtain ⟨fl,s',e,h1,h2,h3,h4⟩:=h.is
  exact ⟨s'.st,fun sl=>lB (by show Wp (di ⟨[some (.d (.cell S0.nx)),some (.d (.int (m:Int))),none],S0.new (.obj "Rest" [])⟩) _ _; rw [e]; exact ⟨h1,rfl⟩),h2,h3,h4⟩
 obtain ⟨g,hg⟩:∃g,g=inD:=⟨_,rfl⟩
 rw [in_eq hg]
 refine in_a ?_ aU
 rw [lp]
 refine in_b ?_ aU (by show _<_+1; omega)
 refine in_c ?_ Z.Sto.put_same (by show _<_+1+1; omega)
 have a1:∀(S:Sto) x,(S.new x).nx=S.nx+1:=fun _ _=>rfl
 have a2:∀(S:Sto) i x,(S.put i x).nx=S.nx:=fun _ _ _=>rfl
 have a3:∀(S:Sto) i x j,(S.put i x).get j=if j=i then some x else S.get j:=fun _ _ _ _=>rfl
 have a4:∀(S:Sto) x j,(S.new x).get j=if j=S.nx then some x else S.get j:=fun _ _ _=>rfl
 have b1:(S0.nx+1=S0.nx)=False:=eq_false (by omega)
 have b2:(S0.nx+1+1=S0.nx)=False:=eq_false (by omega)
 have b3:(S0.nx+1=S0.nx+1+1)=False:=eq_false (by omega)
 generalize hT:((((S0.new (D.obj "Rest" [("many", .int (m:Int))])).new (.lst [])).put S0.nx (.obj "Rest" [("many", .int (m:Int)),("heads", .cell (S0.new (D.obj "Rest" [("many", .int (m:Int))])).nx)])).new (.lst [])).put S0.nx (.obj "Rest" [("many", .int (m:Int)),("heads", .cell (S0.new (D.obj "Rest" [("many", .int (m:Int))])).nx),("rooms", .cell (((S0.new (D.obj "Rest" [("many", .int (m:Int))])).new (.lst [])).put S0.nx (.obj "Rest" [("many", .int (m:Int)),("heads", .cell (S0.new (D.obj "Rest" [("many", .int (m:Int))])).nx)])).nx)])=T
 have t0:T.get S0.nx=some (.obj "Rest" [("many", .int (m:Int)),("heads", .cell (S0.nx+1)),("rooms", .cell (S0.nx+1+1))]):=by rw [←hT,a3,if_pos rfl]; rfl
 have t1:T.get (S0.nx+1)=some (.lst []):=by rw [←hT]; simp only [a1,a2,a3,a4,b1,b3,if_false,if_true]
 have t2:T.get (S0.nx+2)=some (.lst []):=by rw [←hT]; rw [show S0.nx+2=S0.nx+1+1 from rfl]; simp only [a1,a2,a3,a4,b2,if_false,if_true]
 have t3:T.nx=S0.nx+3:=by rw [←hT]; rfl
 have t4:∀j,j<S0.nx→T.get j=S0.get j:=fun j hj=>by
  have b4:(j=S0.nx)=False:=eq_false (by omega)
  have b5:(j=S0.nx+1)=False:=eq_false (by omega)
  have b6:(j=S0.nx+1+1)=False:=eq_false (by omega)
  rw [←hT]; simp only [a1,a2,a3,a4,b4,b5,b6,if_false]
 clear hT a1 a2 a3 a4 b1 b2 b3
 refine in_d hg hz ?_ t0 (by omega)
 clear hg
 have nx1:(eg (List.replicate m (.lst [])) T).nx=S0.nx+3+m:=by show T.nx+(List.replicate m _).length=_; rw [List.length_replicate,t3]
 have lt:∀j,j<S0.nx+3→(eg (List.replicate m (.lst [])) T).get j=T.get j:=fun j hj=>mP (by omega)
 have ge:∀p,p<m→(eg (List.replicate m (.lst [])) T).get (S0.nx+3+p)=some (.lst []):=fun p hp=>by
  rw [←t3]
  exact uz (by rw [List.getElem?_replicate,if_pos hp])
 generalize hN:eg (List.replicate m (.lst [])) T=N at nx1 lt ge ⊢
 have gt:∀j x y,j≠S0.nx→j≠S0.nx+3+m→((N.new x).put S0.nx y).get j=N.get j:=fun j x y h1 h2=>(Z.Sto.put_ne h1).trans (bV (by omega))
 refine ⟨rfl,⟨?_, ?_, ?_, ?_, ?_, ?_,rfl,fun a h=>(by cases h)⟩,⟨?_, ?_⟩, ?_⟩
 ·show ((N.new _).put S0.nx _).get S0.nx=_
  rw [Z.Sto.put_same,t3]
 ·exact (gt _ _ _ (by omega) (by omega)).trans ((lt _ (by omega)).trans t1)
 ·exact (gt _ _ _ (by omega) (by omega)).trans ((lt _ (by omega)).trans t2)
 ·show ((N.new _).put S0.nx _).get (S0.nx+3+m)=_
  rw [Z.Sto.put_ne (by omega),←nx1,aU,t3]
  rfl
 ·exact fun p hp=>(gt _ _ _ (by omega) (by omega)).trans (ge p hp)
 ·show S0.nx+4+m≤N.nx+1
  omega
 ·exact fun j hj=>(gt _ _ _ (by omega) (by omega)).trans ((lt _ (by omega)).trans (t4 j hj))
 ·show S0.nx≤N.nx+1
  omega
 ·show N.nx+1=_
  omega
noncomputable def paI:SD→R Fl:=(ai (aD (zM2 isL (oB2 aM) (z2 oIx (z1 (au ["Rest"] "starts") (aa 0)) (aa 5)) (aL (z1 bf (z1 (au ["Rest"] "heads") (aa 0))))))
 (ai (aD (zM2 isL (oB2 aM) (z1 (au ["Rest"] "heads") (aa 0)) (aL (aa 6))))
 (aD (zM2 isL (oB2 aM) (z1 (au ["Rest"] "rooms") (aa 0)) (aL (aa 7))))))
theorem pa_eq:cD=(ai (cK (oM (aL (bY (zA (bY (zA (aa 1) (zA (aa 2) (zA (aa 3) zA0)))) (zA (bY (zA (aa 2) (zA (aa 1) (zA (aa 4) zA0)))) zA0))))) (fT [5,6,7]) paI)
 (bc (z2 uu (z2 eR (z1 bf (z1 (au ["Rest"] "heads") (aa 0))) (zC (.int 2))) (zC (.int 1))))):=rfl
abbrev paS (r:Nat) (v1 v2 v3 v4:Option Vl) (p q:Nat) (x:D) (S:Sto):SD:=
 ⟨[some (.d (.cell r)),v1,v2,v3,v4,some (.d (.int (p:Int))),some (.d (.int (q:Int))),some (.d x)],S⟩
theorem qO {v1 v2 v3 v4:Option Vl} {l1 l2 l3:List D} (o:S.get r=some (.obj "Rest" (cH r m))) (h:S.get (r+1)=some (.lst l2)) (k:S.get (r+2)=some (.lst l3))
  (s:S.get (r+3+m)=some (.lst ((List.range m).map fun p=> .cell (r+3+p)))) (h1:S.get (r+3+p)=some (.lst l1)) (hp:p<m) (z1:l1.length<sizeLine) (z2:l2.length<sizeLine) (z3:l3.length<sizeLine):
  paI (paS r v1 v2 v3 v4 p q x S)= .ok .nx (paS r v1 v2 v3 v4 p q x (((S.put (r+3+p) (.lst (l1++ [.int (l2.length:Int)]))).put (r+1) (.lst (l2++ [.int (q:Int)]))).put (r+2) (.lst (l3++ [x])))):=by
 have h4:∀s:SD,ixK s (some (.lst ((List.range m).map fun p=>D.cell (r+3+p)))) (some (.int (p:Int)))= .ok (.d (.cell (r+3+p))) s:=fun s=>ixR (f:=fun p=>D.cell (r+3+p)) hp
 have y1:(l1.length<sizeLine)=True:=eq_true z1
 have y2:(l2.length<sizeLine)=True:=eq_true z2
 have y3:(l3.length<sizeLine)=True:=eq_true z3
 have e1:∀y,(S.put (r+3+p) y).get r=some (.obj "Rest" (cH r m)):=fun y=>(Z.Sto.put_ne (by omega)).trans o
 have e2:∀y,(S.put (r+3+p) y).get (r+1)=some (.lst l2):=fun y=>(Z.Sto.put_ne (by omega)).trans h
 have e3:∀y z,((S.put (r+3+p) y).put (r+1) z).get r=some (.obj "Rest" (cH r m)):=fun y z=>(Z.Sto.put_ne (by omega)).trans (e1 y)
 have e4:∀y z,((S.put (r+3+p) y).put (r+1) z).get (r+2)=some (.lst l3):=fun y z=>(Z.Sto.put_ne (by omega)).trans ((Z.Sto.put_ne (by omega)).trans k)
 unfold paI
 simp! only [ah jS,ah dW,ah bB,o,h,k,s,h1,h4,y1,y2,y3,e1,e2,e3,e4]
theorem gT {u b:Option Int} (R:RestAt S r m as rs) (ht:t<m) (hh:h<m) (hn:t≠h) (hz:2*as.length+2<sizeLine):
  ∃S',(∀sl,goF ak [.cell r, .int (t:Int), .int (h:Int),rD u,rD b] ⟨sl,S⟩= .ok (.d (.int (as.length:Int))) ⟨sl,S'⟩)∧RestAt S' r m (as++ [(t,h)]) (rs++ [u,b])∧S'.nx=S.nx∧∀j,(j<r∨r+4+m≤j)→S'.get j=S.get j:=by
 have R0:=R
 obtain ⟨o,h1,k,s,p,nx,len,ok⟩:=R
 have lh:((eK as).map nD).length=2*as.length:=by unfold eK; rw [List.length_map,List.length_map,List.length_range]
 have lr:(rs.map rD).length=2*as.length:=by rw [List.length_map,len]
 have lst:∀q,((starts as q).map nD).length≤2*as.length:=fun q=>by
  rw [List.length_map]
  unfold Rs.starts
  exact Nat.le_trans (List.length_filter_le ..) (by rw [List.length_range]; exact Nat.le_refl _)
 have e1:=fun v1 v2 v3 v4=>qO (v1:=v1) (v2:=v2) (v3:=v3) (v4:=v4) (q:=h) (x:=rD u) o h1 k s (p t ht) ht (by have:=lst t; omega) (by omega) (by omega)
 rw [lh] at e1
 generalize hS:((S.put (r+3+t) (.lst ((starts as t).map nD++ [.int ((2*as.length:Nat):Int)]))).put (r+1) (.lst ((eK as).map nD++ [.int (h:Int)]))).put (r+2) (.lst (rs.map rD++ [rD u]))=T at e1
 have tne:∀j,j≠r+3+t→j≠r+1→j≠r+2→T.get j=S.get j:=fun j c1 c2 c3=>by
  rw [←hS,Z.Sto.put_ne c3,Z.Sto.put_ne c2,Z.Sto.put_ne c1]
 have t1:T.get (r+3+t)=some (.lst ((starts as t).map nD++ [.int ((2*as.length:Nat):Int)])):=by
  rw [←hS,Z.Sto.put_ne (by omega),Z.Sto.put_ne (by omega),Z.Sto.put_same]
 have t2:T.get (r+1)=some (.lst ((eK as).map nD++ [.int (h:Int)])):=by
  rw [←hS,Z.Sto.put_ne (by omega),Z.Sto.put_same]
 have t3:T.get (r+2)=some (.lst (rs.map rD++ [rD u])):=by
  rw [←hS,Z.Sto.put_same]
 have tn:T.nx=S.nx:=by rw [←hS]; rfl
 have e2:=fun v1 v2 v3 v4=>qO (v1:=v1) (v2:=v2) (v3:=v3) (v4:=v4) (q:=t) (x:=rD b) ((tne r (by omega) (by omega) (by omega)).trans o) t2 t3 ((tne _ (by omega) (by omega) (by omega)).trans s) ((tne (r+3+h) (by omega) (by omega) (by omega)).trans (p h hh)) hh (by have:=lst h; omega) (by rw [List.length_append,lh]; show _+1<_; omega) (by rw [List.length_append,lr]; show _+1<_; omega)
 rw [List.length_append,lh] at e2
 generalize hS2:((T.put (r+3+h) (.lst ((starts as h).map nD++ [.int ((2*as.length+ [D.int (h:Int)].length:Nat):Int)]))).put (r+1) (.lst ((eK as).map nD++ [.int (h:Int)]++ [.int (t:Int)]))).put (r+2) (.lst (rs.map rD++ [rD u]++ [rD b]))=T2 at e2
 have une:∀j,j≠r+3+h→j≠r+1→j≠r+2→T2.get j=T.get j:=fun j c1 c2 c3=>by
  rw [←hS2,Z.Sto.put_ne c3,Z.Sto.put_ne c2,Z.Sto.put_ne c1]
 have u1:T2.get (r+3+h)=some (.lst ((starts as h).map nD++ [.int ((2*as.length+ [D.int (h:Int)].length:Nat):Int)])):=by
  rw [←hS2,Z.Sto.put_ne (by omega),Z.Sto.put_ne (by omega),Z.Sto.put_same]
 have u2:T2.get (r+1)=some (.lst ((eK as).map nD++ [.int (h:Int)]++ [.int (t:Int)])):=by
  rw [←hS2,Z.Sto.put_ne (by omega),Z.Sto.put_same]
 have u3:T2.get (r+2)=some (.lst (rs.map rD++ [rD u]++ [rD b])):=by
  rw [←hS2,Z.Sto.put_same]
 have un:T2.nx=T.nx:=by rw [←hS2]; rfl
 refine ⟨T2,fun sl=>?_,⟨?_, ?_, ?_, ?_, ?_, ?_, ?_,ok.app ht hh⟩,un.trans tn,fun j hj=>(une j (by omega) (by omega) (by omega)).trans (tne j (by omega) (by omega) (by omega))⟩
 ·refine lB ?_
  show Wp (cD ⟨[some (.d (.cell r)),some (.d (.int (t:Int))),some (.d (.int (h:Int))),some (.d (rD u)),some (.d (rD b)),none,none,none],S⟩) _ _
  rw [pa_eq]
  have o2:T2.get r=some (.obj "Rest" (cH r m)):=(une r (by omega) (by omega) (by omega)).trans ((tne r (by omega) (by omega) (by omega)).trans o)
  have z:∀i:Int,CDivW i 2=True:=fun i=>eq_true (ay (by decide) (by decide))
  have l2:(((eK as).map nD++ [D.int (h:Int)]++ [D.int (t:Int)]).length:Int) / 2 - 1=(as.length:Int):=by
   rw [List.length_append,List.length_append,lh]
   show ((2*as.length+1+1:Nat):Int) / 2 - 1=_
   omega
  clear hS hS2 tne une t1 t2 t3 u1 u3
  simp! only [sI,x_lpn,x_lp2,e1,e2,o2,u2,ah dW,z,l2]
 ·exact (une r (by omega) (by omega) (by omega)).trans ((tne r (by omega) (by omega) (by omega)).trans o)
 ·rw [u2,Rs.sj,List.map_append,List.append_assoc]
  rfl
 ·rw [u3,List.map_append,List.append_assoc]
  rfl
 ·exact (une _ (by omega) (by omega) (by omega)).trans ((tne _ (by omega) (by omega) (by omega)).trans s)
 ·intro q hq
  rw [Rs.oP,List.map_append,List.map_append]
  by_cases c1:h=q
  ·subst c1
   rw [u1,if_neg hn,if_pos rfl]
   rfl
  ·rw [une _ (by omega) (by omega) (by omega),if_neg (show¬(t,h).2=q from c1)]
   by_cases c2:t=q
   ·subst c2
    rw [t1,if_pos rfl]
    rfl
   ·rw [tne _ (by omega) (by omega) (by omega),if_neg (show¬(t,h).1=q from c2),p q hq]
    simp
 ·rw [un,tn]; exact nx
 ·rw [List.length_append,List.length_append,len]; show _=2*(as.length+1); show _+2=_; omega
end
end T

set_option maxHeartbeats 4000000
namespace T
open PySem PySem.Spec PyProof.Rows L2 M Z
open Classical
local macro_rules | `(tactic| walk_at "zi") => `(tactic| repeat (refine Z.iteW (by first | decide | omega | (refine M.ay ?_ ?_ <;> omega) | (refine M.bX ?_ ?_ ?_ ?_ <;> omega)) ?_))
section
variable {s:SD}
theorem sqBd {a b:Int} (h0:0≤a) (h1:a≤b):0≤a*a∧a*a≤b*b:=⟨Int.mul_nonneg h0 h0,Int.mul_le_mul h1 h1 h0 (by omega)⟩
theorem cell_at {ns:List Int} (k:Int) (h:ns≠ []):∃c:Int,∀s:SD,ixK s (some (.con (ns.map .int))) (some (.int (k%((ns.map D.int).length:Int))))= .ok (.d (.int c)) s:=by
 have h1:0<(ns.length:Int):=by
  cases ns with
  | nil=>exact absurd rfl h
  | cons a r=>simp
 have h2:=Int.emod_nonneg k (b:=(ns.length:Int)) (by omega)
 have h3:=Int.emod_lt_of_pos k h1
 rw [List.length_map]
 refine ⟨ns.getD (k%(ns.length:Int)).toNat 0,fun s=>iB ?_⟩
 show atI (ns.map D.int) _=_
 rw [jA,atI_in 0 h2 h3]
 rfl
theorem gV (ns:List Int) (k:Int) (h0:0≤k) (h1:k≤1000):∃n:Int,0≤n∧n<2147483629∧∀s:SD,goF bh [.con (ns.map .int), .int k] s= .ok (.d (.int n)) s:=by
 have h4:=sqBd (a:=k+3) (b:=1003) (by omega) (by omega)
 by_cases hn:ns= []
 ·subst hn
  refine ⟨((1:Int)%2147483629*48271+(k+3)*(k+3)*69621)%2147483647*16807%2147483629,by omega,by omega,fun s=>?_⟩
  refine go_p ?_
  show Wp (dQ ⟨[some (.d (.con [])),some (.d (.int k)),none,none],s.st⟩) _ _
  unfold dQ
  have e1:decide ((([]:List D).length:Int) > 0)=false:=by decide
  simp! only [e1]
  walk_at "zi"
  trivial
 ·obtain ⟨c,ec⟩:=cell_at k hn
  refine ⟨(c%2147483629*48271+(k+3)*(k+3)*69621)%2147483647*16807%2147483629,by omega,by omega,fun s=>?_⟩
  refine go_p ?_
  show Wp (dQ ⟨[some (.d (.con (ns.map .int))),some (.d (.int k)),none,none],s.st⟩) _ _
  unfold dQ
  have hp:((ns.map D.int).length:Int) > 0:=by
   rw [List.length_map]
   cases ns with
   | nil=>exact absurd rfl hn
   | cons a r=>simp
  have e1:decide (((ns.map D.int).length:Int) > 0)=true:=decide_eq_true hp
  have e2:(0<((ns.map D.int).length:Int))=True:=eq_true hp
  simp! only [e1,e2,ec]
  walk_at "zi"
  trivial
end
section
variable {s:SD} {z:D}
def isWh:D→Bool
 | .int _=>true
 | _=>false
def isAm (lo hi:Int):D→Bool
 | .int i=>decide (lo≤i)&&decide (i≤hi)
 | _=>false
def fF (z b:Str):Bool:=z.cps.toList.all fun c=>decide (c∈b.cps.toList)
theorem lC {z b:Str} (hz:z.length≤1000000):goF eC [.str z, .str b] s= .ok (.d (.bl (fF z b))) s:=by
 refine go_p ?_
 show Wp (eO ⟨[some (.d (.str z)),some (.d (.str b)),none],s.st⟩) _ _
 unfold eO
 walk_at "zs"
 rw [lc_map (fun d=>match dIn d (.str b) with | some r=> .bl r | none=> .non) rfl Nl.d1 trivial (fun d hd=>?_) (by show (Z.signs z).length≤_; unfold Z.signs; rw [List.length_map]; exact Nat.le_trans hz (by decide))]
 ·walk_at "zs"
  rw [all_own (bs:=z.cps.toList.map fun c=>decide (c∈b.cps.toList)) (by
   show uV ((Z.signs z).map _)=_
   unfold Z.signs
   rw [List.map_map]
   exact oh _ _)]
  walk_at "zs"
  unfold fF
  rw [List.all_map]
  rfl
 ·obtain ⟨c,_,rfl⟩:=List.mem_map.mp hd
  unfold Z.iG
  walk_at "zs"
  rw [fX (r:=decide (c∈b.cps.toList)) rfl]
  walk_at "zs"
  rfl
def isNm:D→Bool
 | .str z=>decide (1≤z.length)&&decide (z.length≤12)&&fF z "abcdefghijklmnopqrstuvwxyz"
 | _=>false
theorem sC {z:Str} (hz:z.length≤1000000):goF eT [.str z] s= .ok (.d (.bl (isNm (.str z)))) s:=by
 refine go_p ?_
 show Wp (hZ ⟨[some (.d (.str z))],s.st⟩) _ _
 unfold hZ
 have h1:=fun (s:SD) b=>lC (s:=s) (b:=b) hz
 have h2:z.length≤sizeLine:=Nat.le_trans hz (by decide)
 walk_at "zs"
 have e1:decide (1≤(z.length:Int))=decide (1≤z.length):=by apply decide_eq_decide.mpr; omega
 have e2:decide ((z.length:Int)≤12)=decide (z.length≤12):=by apply decide_eq_decide.mpr; omega
 rw [e1,e2]
 simp only [isNm]
 cases decide (1≤z.length)<;> cases decide (z.length≤12)<;> simp
abbrev M60:Int:=1000000000000000000000000000000000000000000000000000000000000
def rmOk (l:Int):D→Bool
 | .non=>true
 | .int m=>decide (l≤m)&&decide (m≤M60)
 | _=>false
end
structure TD where
 tail:Str
 head:Str
 least:Int
 most:Option Int
 price:Int
structure ND where
 names:List Str
 ties:List (Int×TD)
 given:Int
def uB:Option Int→D
 | none=> .non
 | some m=> .int m
def tieF (i:Int) (t:TD):List (Str×D):= [("number", .int i),("tail", .str t.tail),("head", .str t.head),("least", .int t.least),("most",uB t.most),("price", .int t.price)]
def tieD (q:Int×TD):D:= .obj "Tie" (tieF q.1 q.2)
def rowsG (f:Int×TD→D) (ts:List (Int×TD)):List (Key×D):=ts.map fun q=>(.inl q.1,f q)
def pz (l d:Nat) (g:Int):List (Str×D):= [("names", .cell l),("rows", .cell d),("last_given", .int g)]
structure NetAt (S:Sto) (n l d:Nat) (N:ND):Prop where
 n:S.get n=some (.obj "Net" (pz l d N.given))
 l:S.get l=some (.lst (N.names.map .str))
 d:S.get d=some (.dct (rowsG tieD N.ties))
section
variable {l d:Nat} {g i:Int} {t:TD}
theorem mN:bI (pz l d g) "names" =some (.cell l):=rfl
theorem qX:bI (pz l d g) "rows" =some (.cell d):=rfl
theorem mO:bI (pz l d g) "last_given" =some (.int g):=rfl
theorem jN:bI (tieF i t) "number" =some (.int i):=rfl
theorem pW:bI (tieF i t) "tail" =some (.str t.tail):=rfl
theorem pY:bI (tieF i t) "head" =some (.str t.head):=rfl
theorem mn:bI (tieF i t) "least" =some (.int t.least):=rfl
theorem pX:bI (tieF i t) "most" =some (uB t.most):=rfl
theorem mm:bI (tieF i t) "price" =some (.int t.price):=rfl
theorem eY:bI (pz l d g) "need_place" =none:=rfl
theorem dI:bI (pz l d g) "put_numbered" =none:=rfl
theorem kg:bI (pz l d g) "tie_of" =none:=rfl
end
local macro_rules | `(tactic| walk_at "zn") => `(tactic| simp! only [Z.ah T.mN, Z.ah T.qX, Z.ah T.mO, Z.ah T.jN, Z.ah T.pW, Z.ah T.pY, Z.ah T.mn, Z.ah T.pX, Z.ah T.mm, Z.ao T.eY, Z.ao T.dI, Z.ao T.kg, *])
section
variable {s:SD} {S:Sto} {y z:D} {n l d:Nat} {N:ND} {g i:Int} {t:TD} {a:D}
theorem eU:∀l:List Str,scs (l.map D.str)=some (l.map V.str)
 | []=>rfl
 | a::l=>by rw [List.map_cons,scs,eU l]; rfl
theorem se (z:Str):∀l:List Str,inV (.str z) (l.map V.str)=decide (z∈l)
 | []=>rfl
 | y::r=>by
  have ih:=se z r
  unfold inV at ih ⊢
  rw [List.map_cons,List.any_cons,ih]
  rw [Bool.eq_iff_iff]
  simp only [Bool.or_eq_true,decide_eq_true_eq,List.mem_cons]
  have e:eqV (V.str y) (V.str z)=true↔z=y:=by
   show (y == z)=true↔_
   rw [beq_iff_eq]
   exact eq_comm
  rw [e]
theorem fk {w:Str} {l:List Str}:dIn (.str w) (.lst (l.map .str))=some (decide (w∈l)):=by
 unfold dIn
 simp only [eU,D.sc]
 rw [se]
def tieOf (ts:List (Int×TD)) (i:Int):Option TD:=(ts.find? fun q=>decide (q.1=i)).map (·.2)
def Rise (rs:List (Int×TD)):Prop:=(rs.map (·.1)).Pairwise (· < ·)
theorem pd (l:List Int):fQ (l.map D.int)=some l:=by
 have:=gZ (fun i:Int=>i) l
 simpa using this
def putT (ts:List (Int×TD)) (i:Int) (t:TD):List (Int×TD):=if (ts.any fun q=>decide (q.1=i))=true then ts.map (fun q=>if q.1=i then (i,t) else q) else ts++ [(i,t)]
def dropT (ts:List (Int×TD)) (i:Int):List (Int×TD):=ts.filter fun q=>decide (q.1≠i)
theorem NetAt.ne (h:NetAt S n l d N):n≠l∧n≠d∧l≠d:=by
 have h1:=h.n
 have h2:=h.l
 have h3:=h.d
 refine ⟨fun e=>?_,fun e=>?_,fun e=>?_⟩
 ·rw [e,h2] at h1; cases h1
 ·rw [e,h3] at h1; cases h1
 ·rw [e,h3] at h2; cases h2

theorem tY {v:Vl}:sfK ["Net"] "last_given" (.int i) v s (some (.obj "Net" (pz l d g)))=(s.mod (.obj "Net" (pz l d i)) v).bind nxK:=et (by unfold pz; simp)
end
local macro_rules | `(tactic| walk_at "zm") => `(tactic| simp! only [Z.ah T.mN, Z.ah T.qX, Z.ah T.mO, Z.ah T.jN, Z.ah T.pW, Z.ah T.pY, Z.ah T.mn, Z.ah T.pX, Z.ah T.mm, Z.ao T.eY, Z.ao T.dI, Z.ao T.kg, T.tY, *])
section
variable {S:Sto} {N:ND} {t:TD}
structure TieOk (t:TD):Prop where
 l0:0≤t.least
 l1:t.least≤M60
 m:rmOk t.least (uB t.most)=true
 p0: -M60≤t.price
 p1:t.price≤M60
def netS (S:Sto):Sto:= {nx:=S.nx+3,get:=fun j=>if j=S.nx then some (.obj "Net" (pz (S.nx+1) (S.nx+2) 0)) else if j=S.nx+1 then some (.lst []) else if j=S.nx+2 then some (.dct []) else S.get j}
def netC (S:Sto) (N:ND):Sto:= {nx:=S.nx+5,get:=fun j=>if j=S.nx then some (.obj "Net" (pz (S.nx+3) (S.nx+4) N.given)) else if j=S.nx+1 then some (.lst []) else if j=S.nx+2 then some (.dct []) else if j=S.nx+3 then some (.lst (N.names.map .str)) else if j=S.nx+4 then some (.dct (rowsG tieD N.ties)) else S.get j}
end
local macro_rules | `(tactic| walk_at "zi") => `(tactic| repeat (refine Z.iteW (by first | decide | omega | (refine M.ay ?_ ?_ <;> omega) | (refine M.bX ?_ ?_ ?_ ?_ <;> omega)) ?_))
section

def row6 (q:Int×TD):D:= .tup [.int q.1, .str q.2.tail, .str q.2.head, .int q.2.least,uB q.2.most, .int q.2.price]
end
end T

namespace T
open PySem PySem.Spec PyProof.Rows L2 M Z A
open Classical
open TL (tl)
local macro_rules | `(tactic| walk_at "zi") => `(tactic| repeat (refine Z.iteW (by first | decide | omega | (refine M.ay ?_ ?_ <;> omega) | (refine M.bX ?_ ?_ ?_ ?_ <;> omega)) ?_))
def Al (z:Str):Prop:=∀c∈tl z,c∈tl "abcdefghijklmnopqrstuvwxyz"
theorem ve {z:Str} (h:Al z):fF z "abcdefghijklmnopqrstuvwxyz" =true:=List.all_eq_true.mpr fun c hc=>decide_eq_true (h c hc)
theorem al_name {z:Str} (h:Al z) (h1:1≤z.length) (h2:z.length≤12):isNm (.str z)=true:=by
 show (decide (1≤z.length)&&decide (z.length≤12)&&fF z "abcdefghijklmnopqrstuvwxyz")=true
 rw [decide_eq_true h1,decide_eq_true h2,ve h]
 rfl
theorem al_cat {x y:Str} (h:Al x) (h2:Al y):Al (x++y):=fun c hc=>by
 rw [ir] at hc
 rcases List.mem_append.mp hc with hc | hc
 ·exact h c hc
 ·exact h2 c hc
theorem oG {x:Str} (lo hi:Option Int) (h:Al x):Al (cutS x lo hi):=fun c hc=>by
 rw [pV] at hc
 exact h c (List.mem_of_mem_drop (List.mem_of_mem_take hc))
theorem al_one {i:Int} {c:Nat} (h:atI (tl "abcdefghijklmnopqrstuvwxyz") i=some c):Al ⟨#[c]⟩:=fun d hd=>by
 have e:d=c:=List.mem_singleton.mp hd
 subst e
 unfold atI at h
 cases q:ixN (tl "abcdefghijklmnopqrstuvwxyz").length i with
 | none=>rw [q] at h; cases h
 | some j=>rw [q] at h; exact List.mem_of_getElem? h
theorem al_join {ws:List Str} (h:∀x∈ws,Al x):Al (Txt.join "" ws):=fun c hc=>by
 rw [ml] at hc
 obtain ⟨l,hl,hc⟩:=List.mem_flatten.mp hc
 obtain ⟨x,hx,e⟩:=List.mem_map.mp hl
 exact h x hx c (by rw [e]; exact hc)
theorem km {z:Str} {i:Int} (h:0≤i):(cutS z none (some i)).length=min i.toNat z.length:=by
 rw [dy,tl_to _ _ h,List.length_take,←dy]
theorem nq {z:Str} {i:Int} (h:0≤i):(cutS z (some i) none).length=z.length - i.toNat:=by
 rw [dy,tl_from _ _ h,List.length_drop,←dy]
theorem sum_le:∀(ws:List Str) (k:Nat),(∀x∈ws,x.length≤k)→(ws.map (·.length)).sum≤ws.length*k
 | [],_,_=>Nat.zero_le _
 | x::r,k,h=>by
  have h1:=h x List.mem_cons_self
  have h2:=sum_le r k fun y hy=>h y (List.mem_cons_of_mem _ hy)
  rw [List.map_cons,List.sum_cons,List.length_cons,Nat.succ_mul]
  omega
theorem tj (xs:List D) {i:Int} (h:0≤i):Z.cutD xs none (some i)=xs.take i.toNat:=by
 unfold Z.cutD
 rw [kX _ _ _ h]
 show (xs.drop 0).take (min i.toNat xs.length - 0)=_
 rw [List.drop_zero,Nat.sub_zero]
 by_cases c:i.toNat≤xs.length
 ·rw [Nat.min_eq_left c]
 ·rw [Nat.min_eq_right (by omega),List.take_of_length_le (Nat.le_refl _),List.take_of_length_le (by omega)]
def ltr (i:Int):Str:=match atI (tl "abcdefghijklmnopqrstuvwxyz") i with
 | some c=>⟨#[c]⟩
 | none=> ""
theorem kh {i:Int} (h0:0≤i) (h1:i<26):dIx (.str "abcdefghijklmnopqrstuvwxyz") (.int i)=some (.str (ltr i))∧(ltr i).length=1∧Al (ltr i):=by
 have h2:i<((tl "abcdefghijklmnopqrstuvwxyz").length:Nat):=by rw [show (tl "abcdefghijklmnopqrstuvwxyz").length=26 by decide+kernel]; exact h1
 have h3:=atI_in (xs:=tl "abcdefghijklmnopqrstuvwxyz") 0 h0 h2
 have e:ltr i=⟨#[(tl "abcdefghijklmnopqrstuvwxyz").getD i.toNat 0]⟩:=by unfold ltr; rw [h3]
 refine ⟨?_,by rw [e]; rfl,by rw [e]; exact al_one h3⟩
 show (if (Str.ofString "abcdefghijklmnopqrstuvwxyz").length≤sizeLine then (atI (tl "abcdefghijklmnopqrstuvwxyz") i).map fun c=>D.str ⟨#[c]⟩ else none)=_
 rw [if_pos (by decide+kernel),h3,e]
 rfl
def firsts (ws:List Str):List Str:=(ws.zipIdx.filter fun q=>!decide (q.1∈ws.take q.2)).map (·.1)
def fp (ws:List Str):D→Bool
 | .tup [.int j, .str z]=>!decide (z∈ws.take j.toNat)
 | _=>false
def ff:D→D
 | .tup [_,z]=>z
 | _=> .non
section
variable {z:D}
theorem nl0:Nl []:=fun e he=>by cases he

def w2f (n at_:Int) (fr:Str) (j:Int):Str:=cutS fr none (some at_)++ltr ((n / 2000+5*j)%26)++cutS fr (some at_) none
theorem w2_ok {n at_:Int} {fr:Str} (hfa:Al fr) (a0:0≤at_) (a1:at_≤fr.length) (j:Int):(w2f n at_ fr j).length=fr.length+1∧Al (w2f n at_ fr j):=by
 obtain ⟨_,l1,l2⟩:=kh (i:=(n / 2000+5*j)%26) (Int.emod_nonneg _ (by decide)) (Int.emod_lt_of_pos _ (by decide))
 have hc1:=km (z:=fr) a0
 have hc2:=nq (z:=fr) a0
 unfold w2f
 refine ⟨?_,al_cat (al_cat (oG _ _ hfa) l2) (oG _ _ hfa)⟩
 rw [A.lx,A.lx,hc1,hc2,l1]
 omega
abbrev NmOk (z:Str):Prop:=Al z∧1≤z.length∧z.length≤12∧z≠ "zzzyzzzyzzzy"
end
local macro_rules | `(tactic| walk_at "zi") => `(tactic| repeat (refine Z.iteW (by first | decide | omega | (refine M.ay ?_ ?_ <;> omega) | (refine M.bX ?_ ?_ ?_ ?_ <;> omega)) ?_))
section
variable {s:SD} {S:Sto} {x z:D} {v0 v1 v2 v3 v4 v5 v6 v7 v8 v9 v10:Option Vl} {n:Int} {m:Nat}
theorem ltr_inj {i j:Int} (i0:0≤i) (i1:i<26) (j0:0≤j) (j1:j<26) (h:tl (ltr i)=tl (ltr j)):i=j:=by
 have e:∀k:Nat,k<26→tl (ltr (k:Int))= [97+k]:=by decide+kernel
 have h1:=e i.toNat (by omega)
 have h2:=e j.toNat (by omega)
 rw [show ((i.toNat:Nat):Int)=i by omega] at h1
 rw [show ((j.toNat:Nat):Int)=j by omega] at h2
 rw [h1,h2] at h
 have:=List.head_eq_of_cons_eq h
 omega
theorem w2f_inj {at_:Int} {fr:Str} {i j:Int} (hi:0≤i) (hi2:i<12) (hj:0≤j) (hj2:j<12) (n0:0≤n) (h:w2f n at_ fr i=w2f n at_ fr j):i=j:=by
 have h1:=congrArg tl h
 unfold w2f at h1
 rw [ir,ir,ir,ir,List.append_assoc,List.append_assoc] at h1
 have h2:=List.append_cancel_left h1
 have h3:=List.append_cancel_right h2
 have:=ltr_inj (Int.emod_nonneg _ (by decide)) (Int.emod_lt_of_pos _ (by decide)) (Int.emod_nonneg _ (by decide)) (Int.emod_lt_of_pos _ (by decide)) h3
 omega
theorem nmc1 (n0:0≤n) (n1:n<2147483648) {st:Int} (hst:st=3+n%5):lcK (zSt 8) fH (z2 oIx (aa 2) (z2 dq (z2 bU (z2 eR (aa 0) (zC (.int 7))) (z2 iX (aa 3) (aa 8))) (zC (.int 26)))) [8] ⟨[],fun _=>True,Z.upTo 0 (12:Int).toNat⟩
   ⟨[some (.d (.int n)),v1,some (.d (.str "abcdefghijklmnopqrstuvwxyz")),some (.d (.int st)),v4,v5,v6,v7,none,v9,v10],S⟩= .ok (.own (.lst (((List.range 12).map fun (i:Nat)=>ltr ((n / 7+st*(i:Int))%26)).map D.str))) ⟨[some (.d (.int n)),v1,some (.d (.str "abcdefghijklmnopqrstuvwxyz")),some (.d (.int st)),v4,v5,v6,v7,none,v9,v10],S⟩:=by
 rw [gS (l:=List.range 12) nD (fun i:Nat=>D.str (ltr ((n / 7+st*(i:Int))%26))) iK rfl nl0 trivial (fun x hx=>?_) (by rw [List.length_range,sizeLine_eq]; omega)]
 ·rw [List.map_map]; rfl
 ·obtain ⟨j,hj⟩:∃j:Int,j=(x:Int):=⟨_,rfl⟩
  have hx:=List.mem_range.mp hx
  have j0:0≤j:=by omega
  have j1:j<(12:Nat):=by omega
  rw [←hj]
  have nx:nD x= .int j:=by rw [hj]
  rw [nx]
  have hb:0≤st*j∧st*j≤7*12:=⟨Int.mul_nonneg (by omega) (by omega),Int.mul_le_mul (by omega) (by omega) (by omega) (by omega)⟩
  have e:=(kh (i:=(n / 7+st*j)%26) (Int.emod_nonneg _ (by decide)) (Int.emod_lt_of_pos _ (by decide))).1
  have e2:=fun s:SD=>iB (s:=s) e
  unfold Z.iG
  simp! only [e2]
  walk_at "zi"
  trivial
theorem nmc2 {bs:Str} (hb:bs.length=12) (hm:m≤12):lcK (zSt 9) fH (zSl (aa 4) zNo (zPt (z2 bU (aa 9) (zC (.int 1))))) [9] ⟨[],fun _=>True,Z.upTo 0 m⟩
   ⟨[v0,v1,v2,v3,some (.d (.str bs)),v5,v6,v7,v8,none,v10],S⟩= .ok (.own (.lst (((List.range m).map fun (i:Nat)=>cutS bs none (some ((i:Int)+1))).map D.str))) ⟨[v0,v1,v2,v3,some (.d (.str bs)),v5,v6,v7,v8,none,v10],S⟩:=by
 rw [gS (l:=List.range m) nD (fun i:Nat=>D.str (cutS bs none (some ((i:Int)+1)))) iK rfl nl0 trivial (fun x hx=>?_) (by rw [List.length_range,sizeLine_eq]; omega)]
 ·rw [List.map_map]; rfl
 ·obtain ⟨j,hj⟩:∃j:Int,j=(x:Int):=⟨_,rfl⟩
  have hx:=List.mem_range.mp hx
  have j0:0≤j:=by omega
  have j1:j<(m:Nat):=by omega
  rw [←hj]
  have nx:nD x= .int j:=by rw [hj]
  rw [nx]
  have z0:(bs.length≤sizeLine)=True:=eq_true (by rw [hb]; decide)
  unfold Z.iG
  simp! only [z0]
theorem nmc3 (n0:0≤n) (n1:n<2147483648) (hm:m≤12):lcK (zSt 9) fH (z2 oIx (aa 2) (z2 dq (z2 bU (z2 eR (aa 0) (zC (.int 2000))) (z2 iX (zC (.int 5)) (aa 9))) (zC (.int 26)))) [9] ⟨[],fun _=>True,Z.upTo 0 m⟩
   ⟨[some (.d (.int n)),v1,some (.d (.str "abcdefghijklmnopqrstuvwxyz")),v3,v4,v5,v6,v7,v8,none,v10],S⟩= .ok (.own (.lst (((List.range m).map fun (i:Nat)=>ltr ((n / 2000+5*(i:Int))%26)).map D.str))) ⟨[some (.d (.int n)),v1,some (.d (.str "abcdefghijklmnopqrstuvwxyz")),v3,v4,v5,v6,v7,v8,none,v10],S⟩:=by
 rw [gS (l:=List.range m) nD (fun i:Nat=>D.str (ltr ((n / 2000+5*(i:Int))%26))) iK rfl nl0 trivial (fun x hx=>?_) (by rw [List.length_range,sizeLine_eq]; omega)]
 ·rw [List.map_map]; rfl
 ·obtain ⟨j,hj⟩:∃j:Int,j=(x:Int):=⟨_,rfl⟩
  have hx:=List.mem_range.mp hx
  have j0:0≤j:=by omega
  have j1:j<(m:Nat):=by omega
  rw [←hj]
  have nx:nD x= .int j:=by rw [hj]
  rw [nx]
  have e:=(kh (i:=(n / 2000+5*j)%26) (Int.emod_nonneg _ (by decide)) (Int.emod_lt_of_pos _ (by decide))).1
  have e2:=fun s:SD=>iB (s:=s) e
  unfold Z.iG
  simp! only [e2]
  walk_at "zi"
  trivial
theorem sG (n0:0≤n) (n1:n<2147483648) (hm:m≤11):∃ns:List Str,ns.Nodup∧(∀z∈ns,NmOk z∧z.length≤11)∧ns.length=m∧∀s:SD,goF cP [.int n, .int (m:Int)] s= .ok (.own (.lst (ns.map .str))) s:=by
 obtain ⟨st,hst⟩:∃st,st=3+n%5:=⟨_,rfl⟩
 have w1:∀z∈((List.range 12).map fun (i:Nat)=>ltr ((n / 7+st*(i:Int))%26)),z.length=1∧Al z:=fun z hz=>by
  obtain ⟨i,_,rfl⟩:=List.mem_map.mp hz
  exact (kh (Int.emod_nonneg _ (by decide)) (Int.emod_lt_of_pos _ (by decide))).2
 have l1:((List.range 12).map fun (i:Nat)=>ltr ((n / 7+st*(i:Int))%26)).length=12:=by rw [List.length_map,List.length_range]
 have k1:=fun (v1 v4 v5 v6 v7 v9 v10:Option Vl) (S:Sto)=>nmc1 (v1:=v1) (v4:=v4) (v5:=v5) (v6:=v6) (v7:=v7) (v9:=v9) (v10:=v10) n0 n1 hst (S:=S)
 generalize ((List.range 12).map fun (i:Nat)=>ltr ((n / 7+st*(i:Int))%26))=ws1 at w1 k1 l1
 have hsum:=sum_le ws1 1 fun x hx=>by rw [(w1 x hx).1]; exact Nat.le_refl _
 have hbl:(Txt.join "" ws1).length=12:=by
  rw [rJ,List.map_congr_left (g:=fun _=>1) fun x hx=>(w1 x hx).1,List.map_const',List.sum_replicate_nat,l1]
 have hba:=al_join fun x hx=>(w1 x hx).2
 have k2:=fun s:SD=>uH (s:=s) (z:= "") (ds:=ws1.map D.str) (ys:=ws1) (by simpa using kD (fun z:Str=>z) ws1) (by rw [show (Str.ofString "").length=0 by decide+kernel]; omega)
 generalize Txt.join "" ws1=bs at hbl hba k2
 have hfa:=oG none (some (n%8)) hba
 have hfl:(cutS bs none (some (n%8))).length≤7:=by rw [km (by omega)]; omega
 generalize efr:cutS bs none (some (n%8))=fr at hfa hfl
 have hat0:0≤n / 200%((fr.length:Int)+1):=Int.emod_nonneg _ (by omega)
 have hat1:n / 200%((fr.length:Int)+1)≤fr.length:=Int.le_of_lt_add_one (Int.emod_lt_of_pos _ (by omega))
 have hat2:(0<(fr.length:Int)+1)=True:=eq_true (by omega)
 generalize eat:n / 200%((fr.length:Int)+1)=at_ at hat0 hat1
 have z60:=fun k=>rg62 (m:=k)
 have zm:=rg62 (m:=m) (by rw [sizeLine_eq]; omega)
 have z12:(-(2 ^ 62)≤(12:Int)∧(12:Int)<2 ^ 62)=True:=eq_true (by decide)
 have b5:((0:Int)<5)=True:=by decide
 have b3:((0:Int)<3)=True:=by decide
 have b8:((0:Int)<8)=True:=by decide
 have y9:CDivW n 9=True:=eq_true (ay (by decide) (by decide))
 have y200:CDivW n 200=True:=eq_true (ay (by decide) (by decide))
 have sb:(bs.length≤sizeLine)=True:=eq_true (by rw [hbl]; decide)
 have sf:(fr.length≤sizeLine)=True:=eq_true (Nat.le_trans hfl (by decide))
 by_cases c1:n / 9%3=1
 ·refine ⟨(List.range m).map fun (i:Nat)=>cutS bs none (some ((i:Int)+1)), ?_,fun z hz=>?_,by rw [List.length_map,List.length_range],fun s=>?_⟩
  ·refine List.Pairwise.of_map (fun z:Str=>z.length) (S:=fun a b=>a≠b) (fun a b h e=>h (by rw [e])) ?_
   rw [List.map_map]
   have:(List.range m).map ((fun z:Str=>z.length) ∘ fun (i:Nat)=>cutS bs none (some ((i:Int)+1)))=(List.range m).map (· +1):=List.map_congr_left fun i hi=>by
    show (cutS bs none (some ((i:Int)+1))).length=i+1
    rw [km (by omega),hbl]
    have:=List.mem_range.mp hi
    omega
   rw [this]
   exact List.Pairwise.map (· +1) (fun a b h=>by omega) List.nodup_range
  ·obtain ⟨i,hi,rfl⟩:=List.mem_map.mp hz
   have hi:=List.mem_range.mp hi
   have l:=km (z:=bs) (i:=(i:Int)+1) (by omega)
   rw [hbl] at l
   exact ⟨⟨oG _ _ hba,by omega,by omega,fun e=>by
    rw [e] at l
    have:(Str.ofString "zzzyzzzyzzzy").length=12:=by decide+kernel
    omega⟩,by omega⟩
  ·refine go_p ?_
   show Wp (fE ⟨[some (.d (.int n)),some (.d (.int (m:Int))),none,none,none,none,none,none,none,none,none],s.st⟩) _ _
   unfold fE
   have k3:=fun (v0 v1 v2 v3 v5 v6 v7 v8 v10:Option Vl) (S:Sto)=>nmc2 (v0:=v0) (v1:=v1) (v2:=v2) (v3:=v3) (v5:=v5) (v6:=v6) (v7:=v7) (v8:=v8) (v10:=v10) hbl (show m≤12 by omega) (S:=S)
   simp! only [b5,←hst,z12,k1,k2,b3,y9,c1,zm,Int.toNat_natCast,k3]
 ·refine ⟨(List.range m).map fun (i:Nat)=>w2f n at_ fr (i:Int), ?_,fun z hz=>?_,by rw [List.length_map,List.length_range],fun s=>?_⟩
  ·refine List.Pairwise.map _ (R:=fun i j:Nat=>i≠j∧i<12∧j<12) (fun i j h e=>h.1 (by have:=w2f_inj (by omega) (by omega) (by omega) (by omega) n0 e; omega)) ?_
   exact (List.nodup_range (n:=m)).imp_of_mem fun hi hj h=>⟨h,by have:=List.mem_range.mp hi; omega,by have:=List.mem_range.mp hj; omega⟩
  ·obtain ⟨i,_,rfl⟩:=List.mem_map.mp hz
   have:=w2_ok (n:=n) hfa hat0 hat1 i
   exact ⟨⟨this.2,by omega,by omega,fun e=>by
    have h:=this.1
    rw [e] at h
    have:(Str.ofString "zzzyzzzyzzzy").length=12:=by decide+kernel
    omega⟩,by omega⟩
  ·refine go_p ?_
   show Wp (fE ⟨[some (.d (.int n)),some (.d (.int (m:Int))),none,none,none,none,none,none,none,none,none],s.st⟩) _ _
   unfold fE
   have k3:=fun (v1 v3 v4 v5 v6 v7 v8 v10:Option Vl) (S:Sto)=>nmc3 (v1:=v1) (v3:=v3) (v4:=v4) (v5:=v5) (v6:=v6) (v7:=v7) (v8:=v8) (v10:=v10) n0 n1 (show m≤12 by omega) (S:=S)
   simp! only [b5,←hst,z12,k1,k2,b3,y9,c1,zm,Int.toNat_natCast,k3,b8,sb,efr,y200,hat2,eat]
   rw [gS (l:=List.range m) (fun i:Nat=>D.str (ltr ((n / 2000+5*(i:Int))%26))) (fun i:Nat=>D.str (w2f n at_ fr (i:Int))) (by rw [List.map_map]; rfl) rfl Nl.d1 trivial (fun i hi=>?_) (by rw [List.length_range,sizeLine_eq]; omega)]
   ·simp! only [sf]
    rw [List.map_map]
    rfl
   ·obtain ⟨_,l1,_⟩:=(kh (i:=(n / 2000+5*(i:Int))%26) (Int.emod_nonneg _ (by decide)) (Int.emod_lt_of_pos _ (by decide)))
    have hc1:=km (z:=fr) hat0
    have hc2:=nq (z:=fr) hat0
    have z1:((cutS fr none (some at_)).length+(ltr ((n / 2000+5*(i:Int))%26)).length≤sizeLine)=True:=eq_true (Nat.le_trans (show _≤100 by omega) (by decide))
    have z2:((cutS fr none (some at_)++ltr ((n / 2000+5*(i:Int))%26)).length+(cutS fr (some at_) none).length≤sizeLine)=True:=eq_true (Nat.le_trans (show _≤100 by rw [A.lx]; omega) (by decide))
    unfold Z.iG w2f
    simp! only [sf,z1,z2]
theorem nI (n0:0≤n) (n1:n<2147483648) (hm:m≤11):∃ns:List Str,ns.Nodup∧(∀z∈ns,NmOk z)∧ns.length=m∧∀s:SD,goF cP [.int n, .int (m:Int)] s= .ok (.own (.lst (ns.map .str))) s:=by
 obtain ⟨ns,h1,h2,h3,h4⟩:=sG n0 n1 hm
 exact ⟨ns,h1,fun z hz=>(h2 z hz).1,h3,h4⟩
end
end T

namespace T
open PySem PySem.Spec PyProof.Rows L2 M Z A
open Classical
mutual
theorem nS:∀d:PyData,PyData.canLay0 d=true→PyData.eqv d d=true
 | .none,_=>rfl
 | .bool b,_=>by simp [PyData.eqv]
 | .int i,_=>by simp [PyData.eqv]
 | .str s,_=>by simp [PyData.eqv]
 | .list xs,h=>by rw [PyData.eqv]; exact eM xs (by simpa [PyData.canLay0] using h)
 | .tuple xs,h=>by rw [PyData.eqv]; exact eM xs (by simpa [PyData.canLay0] using h)
 | .dict _,h=>by simp [PyData.canLay0] at h
theorem eM:∀ds:List PyData,PyData.canLayAll0 ds=true→PyData.eqvAll ds ds=true
 | [],_=>rfl
 | d::ds,h=>by
  have h' :PyData.canLay0 d=true∧PyData.canLayAll0 ds=true:=by simpa [PyData.canLayAll0] using h
  rw [PyData.eqvAll,nS d h'.1,eM ds h'.2]
  rfl
end
mutual
def toP:D→PyData
 | .non=> .none
 | .bl b=> .bool b
 | .int i=> .int i
 | .str s=> .str s
 | .lst ds=> .list (gz ds)
 | .tup ds=> .tuple (gz ds)
 | _=> .none
def gz:List D→List PyData
 | []=> []
 | d::ds=>toP d::gz ds
end
mutual
def lay:D→Bool
 | .non | .bl _ | .int _=>true
 | .str s=>PyData.strOk s
 | .lst ds=>pA ds
 | .tup ds=>pA ds
 | _=>false
def pA:List D→Bool
 | []=>true
 | d::ds=>lay d&&pA ds
end
mutual
def dep:D→Nat
 | .lst ds=>pC ds+1
 | .tup ds=>pC ds+1
 | _=>0
def pC:List D→Nat
 | []=>0
 | d::ds=>max (dep d) (pC ds)
end
mutual
theorem fW:∀{x:D},lay x=true→D.py x=some (toP x)∧(toP x).canLay0=true∧(toP x).depth=dep x
 | .non,_=>⟨rfl,rfl,rfl⟩
 | .bl _,_=>⟨rfl,rfl,rfl⟩
 | .int _,_=>⟨rfl,rfl,rfl⟩
 | .str s,h=>⟨rfl,by rw [toP,PyData.canLay0]; exact (by rw [lay] at h; exact h),rfl⟩
 | .lst ds,h=>by
  rw [lay] at h
  obtain ⟨h1,h2,h3⟩:=cX h
  rw [D.py,h1,toP,PyData.canLay0,PyData.depth,h3,dep]
  exact ⟨rfl,h2,rfl⟩
 | .tup ds,h=>by
  rw [lay] at h
  obtain ⟨h1,h2,h3⟩:=cX h
  rw [D.py,h1,toP,PyData.canLay0,PyData.depth,h3,dep]
  exact ⟨rfl,h2,rfl⟩
 | .con _,h=>by simp [lay] at h
 | .dct _,h=>by simp [lay] at h
 | .obj _ _,h=>by simp [lay] at h
 | .exc _ _,h=>by simp [lay] at h
 | .cell _,h=>by simp [lay] at h
theorem cX:∀{ds:List D},pA ds=true→D.pys ds=some (gz ds)∧PyData.canLayAll0 (gz ds)=true∧PyData.depthAll (gz ds)=pC ds
 | [],_=>⟨rfl,rfl,rfl⟩
 | d::ds,h=>by
  rw [pA,Bool.and_eq_true] at h
  obtain ⟨h1,h2,h3⟩:=fW h.1
  obtain ⟨g1,g2,g3⟩:=cX h.2
  rw [D.pys,h1,g1,gz,PyData.canLayAll0,PyData.depthAll,h2,g2,h3,g3,pC]
  exact ⟨rfl,rfl,rfl⟩
end
theorem cq {ds:List D} (h:∀d∈ds,lay d=true):pA ds=true:=by
 induction ds with
 | nil=>rfl
 | cons d ds ih=>rw [pA,h d (List.mem_cons_self ..),ih fun e he=>h e (List.mem_cons_of_mem _ he)]; rfl
theorem fm {k:Nat} {ds:List D} (h:∀d∈ds,dep d≤k):pC ds≤k:=by
 induction ds with
 | nil=>exact Nat.zero_le _
 | cons d ds ih=>
  rw [pC]
  exact Nat.max_le.mpr ⟨h d (List.mem_cons_self ..),ih fun e he=>h e (List.mem_cons_of_mem _ he)⟩
def numT (x:D):Prop:=∃es:List D,x= .tup es∧es.length≤6∧∀e∈es,e= .non∨∃i,e= .int i
theorem gy:∀is:List Int,gz (is.map .int)=is.map PyData.int
 | []=>rfl
 | i::is=>by
  rw [List.map_cons,gz,gy is]
  rfl
theorem nT:∀is js:List Int,PyData.eqvAll (is.map PyData.int) (js.map PyData.int)=decide (is=js)
 | [],[]=>by simp [PyData.eqvAll]
 | [],j::js=>by simp [PyData.eqvAll]
 | i::is,[]=>by simp [PyData.eqvAll]
 | i::is,j::js=>by
  rw [List.map_cons,List.map_cons,PyData.eqvAll,nT is js]
  by_cases h:i=j<;> simp [PyData.eqv,h]
theorem uS (is js:List Int):dEq (.lst (is.map .int)) (.lst (js.map .int))=some (decide (is=js)):=by
 have sh:∀l:List Int,SeqAt.shaped (.list (l.map PyData.int))=true:=fun l=>by
  obtain ⟨h1,h3,h4⟩:=cX (cq (ds:=l.map D.int) fun d hd=>by obtain ⟨i,_,rfl⟩:=List.mem_map.mp hd; rfl)
  rw [gy] at h3 h4
  unfold SeqAt.shaped
  rw [PyData.canLay0,PyData.depth,h3,h4]
  have:=fm (k:=0) (ds:=l.map D.int) fun d hd=>by obtain ⟨i,_,rfl⟩:=List.mem_map.mp hd; exact Nat.zero_le _
  exact decide_eq_true (by omega)
 have py:∀l:List Int,D.py (.lst (l.map .int))=some (.list (l.map PyData.int)):=fun l=>by
  obtain ⟨h1,_⟩:=cX (cq (ds:=l.map D.int) fun d hd=>by obtain ⟨i,_,rfl⟩:=List.mem_map.mp hd; rfl)
  rw [D.py,h1,gy]
 cases js with
 | nil=>
  cases is with
  | nil=>rfl
  | cons i is=>rfl
 | cons j js=>
  have e1:=py is
  have e2:=py (j::js)
  have e3:=nT is (j::js)
  have s1:=sh is
  have s2:=sh (j::js)
  unfold dEq
  simp only [D.sc]
  split
  ·rename_i e; cases e
  ·rename_i e; cases e
  ·rename_i e; cases e
  ·rename_i e; cases e
  ·rename_i h1 h2
   simp only [e1,e2,s1,s2,and_self,if_true,PyData.eqv,e3]
section
variable {s:SD} {z:D}
theorem bF {z:Str} (h:Al z):PyData.strOk z=true:=by
 have hl:∀c∈TL.tl "abcdefghijklmnopqrstuvwxyz",c<1114112:=by decide+kernel
 unfold PyData.strOk
 rw [Array.all_eq_true]
 intro i hi
 exact decide_eq_true (hl _ (h _ (Array.mem_toList_iff.mpr (Array.getElem_mem hi))))
abbrev prD (p:Str×Str):D:= .tup [.str p.1, .str p.2]
theorem eqv_pr (p q:Str×Str):PyData.eqv (.tuple [.str p.1, .str p.2]) (.tuple [.str q.1, .str q.2])=decide (q=p):=by
 have e:PyData.eqv (.tuple [.str p.1, .str p.2]) (.tuple [.str q.1, .str q.2])=(decide (p.1=q.1)&&(decide (p.2=q.2)&&true)):=rfl
 rw [e,Bool.and_true,Bool.eq_iff_iff,Bool.and_eq_true,decide_eq_true_eq,decide_eq_true_eq,decide_eq_true_eq]
 exact ⟨fun ⟨h1,h2⟩=>Prod.ext h1.symm h2.symm,fun h=>by rw [h]; exact ⟨rfl,rfl⟩⟩
theorem jd {ps:List (Str×Str)} {p:Str×Str} {neg:Bool} (hp:Al p.1∧Al p.2) (h:∀q∈ps,Al q.1∧Al q.2):∀s:SD,nH neg s (some (prD p)) (some (.lst (ps.map prD)))= .ok (.d (.bl (if neg then !decide (p∈ps) else decide (p∈ps)))) s:=fun s=>by
 have l1:∀q:Str×Str,Al q.1∧Al q.2→lay (prD q)=true∧dep (prD q)≤60:=fun q hq=>by
  refine ⟨?_, ?_⟩
  ·simp only [prD,lay,pA,bF hq.1,bF hq.2,Bool.and_self]
  ·simp only [prD,dep,pC]; decide
 obtain ⟨a1,a2,a3⟩:=fW (l1 p hp).1
 have al:=cq (ds:=ps.map prD) fun d hd=>by
  obtain ⟨q,hq,rfl⟩:=List.mem_map.mp hd
  exact (l1 q (h q hq)).1
 have ad:=fm (k:=60) (ds:=ps.map prD) fun d hd=>by
  obtain ⟨q,hq,rfl⟩:=List.mem_map.mp hd
  exact (l1 q (h q hq)).2
 obtain ⟨b1,b2,b3⟩:=cX al
 have e2:gz (ps.map prD)=ps.map fun q=>PyData.tuple [.str q.1, .str q.2]:=by
  clear a1 a2 a3 al ad b1 b2 b3 h
  induction ps with
  | nil=>rfl
  | cons q ps ih=>rw [List.map_cons,gz,ih]; rfl
 refine si (d:=toP (prD p)) (xs:=gz (ps.map prD)) (r:=decide (p∈ps)) a1 ?_ ?_ ?_ ?_
 ·rw [D.py,b1]
 ·unfold SeqAt.shaped
  rw [a2,a3]
  exact decide_eq_true (by have:=(l1 p hp).2; omega)
 ·unfold SeqAt.shaped
  rw [PyData.canLay0,PyData.depth,b2,b3]
  exact decide_eq_true (by omega)
 ·rw [e2]
  clear e2 a1 a2 a3 al ad b1 b2 b3 h
  induction ps with
  | nil=>rfl
  | cons q ps ih=>
   rw [List.map_cons,List.any_cons,ih]
   show (PyData.eqv (.tuple [.str q.1, .str q.2]) (.tuple [.str p.1, .str p.2]) || decide (p∈ps))=_
   rw [eqv_pr,Bool.eq_iff_iff]
   simp only [Bool.or_eq_true,decide_eq_true_eq,List.mem_cons]
end
end T

namespace T
open PySem PySem.Spec PyProof.Rows L2 M Z A
section
variable {S S' S2:Sto} {x:D}
structure Ext (S S' :Sto):Prop where
 nx:S.nx≤S'.nx
 get:∀i,i<S.nx→S'.get i=S.get i
theorem Ext.refl:Ext S S:=⟨Nat.le_refl _,fun _ _=>rfl⟩
theorem Ext.trans (h:Ext S S') (g:Ext S' S2):Ext S S2:=⟨Nat.le_trans h.nx g.nx,fun i hi=>(g.get i (Nat.lt_of_lt_of_le hi h.nx)).trans (h.get i hi)⟩
theorem Ext.new:Ext S (S.new x):=⟨Nat.le_succ _,fun i hi=>bV (Nat.ne_of_lt hi)⟩
theorem Ext.tick:Ext S S.tick:=⟨Nat.le_succ _,fun i hi=>kT (Nat.ne_of_lt hi)⟩
theorem Ext.put {j:Nat} (h:Ext S S') (hj:S.nx≤j):Ext S (S'.put j x):=⟨h.nx,fun i hi=>(Sto.put_ne (by omega)).trans (h.get i hi)⟩
end
open Classical
section
variable {s:SD} {S:Sto} {sl:List (Option Vl)} {c:Nat} {names:List Str}
theorem gU (nd:names.Nodup) (hn:∀z∈names,NmOk z) (hl:names.length≤7) (hc:S.get c=some (.lst (names.map .str))):goF cL [.cell c] ⟨sl,S⟩= .ok (.own (.lst (names.map .str))) ⟨sl,S⟩:=by
 refine go_p ?_
 show Wp (eN ⟨[some (.d (.cell c)),none,none],S⟩) _ _
 unfold eN
 have h7:(decide (((names.length:Nat):Int) > 7))=false:=by simp; omega
 have ll:(names.map D.str).length=names.length:=List.length_map _
 have i0:enK (.d (.cell c)) ⟨[some (.d (.cell c)),none,none],S⟩= .ok ⟨[.d (.cell c)],fun s=>s.st.get c=some (.lst (names.map .str)),cg (names.map .str)⟩ ⟨[some (.d (.cell c)),none,none],S⟩:=by
  unfold enK
  rw [show SD.cont ⟨[some (.d (.cell c)),none,none],S⟩ (.d (.cell c))=some (.lst (names.map .str)) from hc]
  rfl
 simp! only [hc,ll,h7,i0]
 rw [ae]
 refine fP (fun j s' =>∃v1 v2,s' =⟨[some (.d (.cell c)),v1,v2],S⟩) Nl.d1 (fun _ _ ⟨_,_,e⟩=>by rw [e]; exact hc) ⟨none,none,rfl⟩ (fun j x s' ex hI=>?_) (fun s' hI=>?_)
 ·obtain ⟨v1,v2,rfl⟩:=hI
  have ex:(cg (names.map .str))[j]? =some x:=ex
  rw [cI,List.getElem?_map] at ex
  cases eq:names[j]? with
  | none=>rw [eq] at ex; cases ex
  | some z=>
   rw [eq] at ex
   cases ex
   have hz:=hn z (List.mem_of_getElem? eq)
   have i1:∀s:SD,goF eT [.str z] s= .ok (.d (.bl true)) s:=fun s=>by rw [sC (by have:=hz.2.2.1; omega),al_name hz.1 hz.2.1 hz.2.2.1]
   have hj:=(List.getElem?_eq_some_iff.mp eq).1
   have no:z∉names.take j:=fun hm=>by
    have nd2:=nd
    rw [←List.take_append_drop j names,List.nodup_append] at nd2
    refine nd2.2.2 _ hm _ (List.mem_of_getElem? (i:=0) ?_) rfl
    rw [List.getElem?_drop,Nat.add_zero,eq]
   have i2:∀s:SD,inK false s (some (D.str z)) (some (.lst (Z.cutD (names.map D.str) none (some (j:Int)))))= .ok (.d (.bl false)) s:=fun s=>by
    rw [tj _ (by omega),Int.toNat_natCast,←List.map_take]
    exact fX (neg:=false) (by rw [fk]; exact congrArg some (decide_eq_false no))
   simp! only [hc,ll,i1,i2]
   exact ⟨_,_,rfl⟩
 ·obtain ⟨v1,v2,rfl⟩:=hI
  simp! only [hc]
end
section
variable {s:SD} {S:Sto} {sl:List (Option Vl)} {c:Nat} {ls rs:List Str} {ps:List (Str×Str)}
theorem ji (nd:ps.Nodup) (ha:∀q∈ps,Al q.1∧Al q.2) (hi:∀q∈ps,q.1∈ls∧q.2∈rs) (hl:ps.length≤sizeLine) (hc:S.get c=some (.lst (ps.map prD))):
  goF cM [.cell c, .lst (ls.map .str), .lst (rs.map .str)] ⟨sl,S⟩= .ok (.own (.lst (ps.map prD))) ⟨sl,S⟩:=by
 refine go_p ?_
 show Wp (de ⟨[some (.d (.cell c)),some (.d (.lst (ls.map .str))),some (.d (.lst (rs.map .str))),none,none],S⟩) _ _
 unfold de
 have ll:(ps.map prD).length=ps.length:=List.length_map _
 have i0:enK (.d (.cell c)) ⟨[some (.d (.cell c)),some (.d (.lst (ls.map .str))),some (.d (.lst (rs.map .str))),none,none],S⟩= .ok ⟨[.d (.cell c)],fun s=>s.st.get c=some (.lst (ps.map prD)),cg (ps.map prD)⟩ ⟨[some (.d (.cell c)),some (.d (.lst (ls.map .str))),some (.d (.lst (rs.map .str))),none,none],S⟩:=by
  unfold enK
  rw [show SD.cont ⟨[some (.d (.cell c)),some (.d (.lst (ls.map .str))),some (.d (.lst (rs.map .str))),none,none],S⟩ (.d (.cell c))=some (.lst (ps.map prD)) from hc]
  rfl
 simp! only [hc,ll,i0]
 rw [ae]
 refine fP (fun j s' =>∃v3 v4,s' =⟨[some (.d (.cell c)),some (.d (.lst (ls.map .str))),some (.d (.lst (rs.map .str))),v3,v4],S⟩) Nl.d1 (fun _ _ ⟨_,_,e⟩=>by rw [e]; exact hc) ⟨none,none,rfl⟩ (fun j x s' ex hI=>?_) (fun s' hI=>?_)
 ·obtain ⟨v3,v4,rfl⟩:=hI
  have ex:(cg (ps.map prD))[j]? =some x:=ex
  rw [cI,List.getElem?_map] at ex
  cases eq:ps[j]? with
  | none=>rw [eq] at ex; cases ex
  | some q=>
   rw [eq] at ex
   cases ex
   have hq:=List.mem_of_getElem? eq
   have no:q∉ps.take j:=fun hm=>by
    have nd2:=nd
    rw [←List.take_append_drop j ps,List.nodup_append] at nd2
    refine nd2.2.2 _ hm _ (List.mem_of_getElem? (i:=0) ?_) rfl
    rw [List.getElem?_drop,Nat.add_zero,eq]
   have i2:∀s:SD,nH false s (some (prD q)) (some (.lst (Z.cutD (ps.map prD) none (some (j:Int)))))= .ok (.d (.bl false)) s:=fun s=>by
    rw [tj _ (by omega),Int.toNat_natCast,←List.map_take]
    rw [jd (neg:=false) (ha q hq) (fun r hr=>ha r (List.mem_of_mem_take hr))]
    rw [decide_eq_false no]
    rfl
   have i3:∀s:SD,inK true s (some (.str q.1)) (some (.lst (ls.map .str)))= .ok (.d (.bl false)) s:=fun s=>fX (neg:=true) (r:=true) (by rw [fk]; exact congrArg some (decide_eq_true (hi q hq).1))
   have i4:∀s:SD,inK true s (some (.str q.2)) (some (.lst (rs.map .str)))= .ok (.d (.bl false)) s:=fun s=>fX (neg:=true) (r:=true) (by rw [fk]; exact congrArg some (decide_eq_true (hi q hq).2))
   have c1:∀s:SD,s.cont (.d (prD q))=some (.tup [.str q.1, .str q.2]):=fun _=>rfl
   have l2:∀s:SD,lenK s (some (.tup [.str q.1, .str q.2]))= .ok (.d (.int 2)) s:=fun _=>rfl
   have i5:∀s:SD,ixK s (some (.tup [.str q.1, .str q.2])) (some (.int 0))= .ok (.d (.str q.1)) s:=fun _=>rfl
   have i6:∀s:SD,ixK s (some (.tup [.str q.1, .str q.2])) (some (.int 1))= .ok (.d (.str q.2)) s:=fun _=>rfl
   have i2:∀s:SD,nH false s (some (.tup [.str q.1, .str q.2])) (some (.lst (Z.cutD (ps.map prD) none (some (j:Int)))))= .ok (.d (.bl false)) s:=i2
   simp! only [hc,ll,c1,oO,l2,i2,i3,i4,i5,i6]
   exact ⟨_,_,rfl⟩
 ·obtain ⟨v3,v4,rfl⟩:=hI
  simp! only [hc]
abbrev paF (ls rs:List Str) (ps:List (Str×Str)):List (Str×D):= [("lefts", .lst (ls.map .str)),("rights", .lst (rs.map .str)),("friends", .lst (ps.map prD))]
theorem uh:bI (paF ls rs ps) "lefts" =some (.lst (ls.map .str)):=rfl
theorem ug:bI (paF ls rs ps) "rights" =some (.lst (rs.map .str)):=rfl
theorem paf_f:bI (paF ls rs ps) "friends" =some (.lst (ps.map prD)):=rfl
structure PaOk (ls rs:List Str) (ps:List (Str×Str)):Prop where
 l:ls.Nodup
 r:rs.Nodup
 p:ps.Nodup
 ln:∀z∈ls,NmOk z
 rn:∀z∈rs,NmOk z
 ll:ls.length≤7
 rl:rs.length≤7
 pl:ps.length≤63
 pi:∀q∈ps,q.1∈ls∧q.2∈rs
theorem sE {a b:Nat} (O:PaOk ls rs ps) (ha:S.get a=some (.lst (ls.map .str))) (hb:S.get b=some (.lst (rs.map .str))) (hc:S.get c=some (.lst (ps.map prD))) (a1:a<S.nx) (b1:b<S.nx) (c1:c<S.nx):
  goF aw [.cell S.nx, .cell a, .cell b, .cell c] ⟨sl,S.new (.obj "Pairs" [])⟩= .ok (.d .non) ⟨sl,S.new (.obj "Pairs" (paF ls rs ps))⟩:=by
 have ha' :∀x,(S.new x).get a=some (.lst (ls.map .str)):=fun x=>(bV (Nat.ne_of_lt a1)).trans ha
 have hb' :∀x,(S.new x).get b=some (.lst (rs.map .str)):=fun x=>(bV (Nat.ne_of_lt b1)).trans hb
 have hc' :∀x,(S.new x).get c=some (.lst (ps.map prD)):=fun x=>(bV (Nat.ne_of_lt c1)).trans hc
 have k1:=fun sl x=>gU (sl:=sl) O.l O.ln O.ll (ha' x)
 have k2:=fun sl x=>gU (sl:=sl) O.r O.rn O.rl (hb' x)
 have k3:=fun sl x=>ji (sl:=sl) (ls:=ls) (rs:=rs) O.p (fun q hq=>⟨(O.ln _ (O.pi q hq).1).1,(O.rn _ (O.pi q hq).2).1⟩) O.pi (Nat.le_trans O.pl (by decide)) (hc' x)
 have q0:∀x,(S.new x).get S.nx=some x:=fun _=>aU
 have f1:gb "lefts" (.lst (ls.map .str)) ([]:List (Str×D))=([("lefts", .lst (ls.map .str))]:List (Str×D)):=rfl
 have f2:∀x,gb "rights" x ([("lefts", .lst (ls.map .str))]:List (Str×D))=([("lefts", .lst (ls.map .str)),("rights",x)]:List (Str×D)):=fun _=>rfl
 have f3:∀x y,gb "friends" x ([("lefts", .lst (ls.map .str)),("rights",y)]:List (Str×D))=([("lefts", .lst (ls.map .str)),("rights",y),("friends",x)]:List (Str×D)):=fun _ _=>rfl
 have v1:∀y,bI ([("lefts", .lst (ls.map .str)),("rights",y)]:List (Str×D)) "lefts" =some (.lst (ls.map .str)):=fun _=>rfl
 have v2:∀y,bI ([("lefts", .lst (ls.map .str)),("rights",y)]:List (Str×D)) "rights" =some y:=fun _=>rfl
 refine lB ?_
 show Wp (dP ⟨[some (.d (.cell S.nx)),some (.d (.cell a)),some (.d (.cell b)),some (.d (.cell c))],S.new (.obj "Pairs" [])⟩) _ _
 unfold dP
 simp! only [k1,k2,k3,q0,f1,f2,f3,ah (v1 _),ah (v2 _)]
end
open Rs (As ta he rm Lift Lifted rsB bt)
open Pw (asQ usQ FrOk)
section
variable {s:SD} {S S1:Sto} {sl:List (Option Vl)} {y u:D} {q r a b:Nat} {ls rs:List Str} {ps:List (Str×Str)} {v5 v6:Option Vl}
abbrev pqS (q:Nat) (v1 v2 v3 v4 v5 v6 v7 v8 v9 v10 v11 v12 v13 v14:Option Vl) (S:Sto):SD:=
 ⟨[some (.d (.cell q)),v1,v2,v3,v4,v5,v6,v7,v8,v9,v10,v11,v12,v13,v14],S⟩
theorem pa_a {G:SD→R Fl} {Q:Fl→SD→Prop} (hq:S.get q=some (.obj "Pairs" (paF ls rs ps))) (q1:q<S.nx) (O:PaOk ls rs ps)
  (h:∀S1,RestAt S1 S.nx (ls.length+rs.length+2) [] []→S.nx≤S1.nx→(∀j,j<S.nx→S1.get j=S.get j)→Wp (G (pqS q (some (.d (nD ls.length))) (some (.d (.cell S.nx))) (some (.d (nD (ls.length+rs.length)))) (some (.d (nD (ls.length+rs.length+1)))) none none none none none none none none none none S1)) Q XF):
  Wp (((ai (aB (z1 bf (z1 (au ["Pairs"] "lefts") (aa 0))) (zSt 1))
 (ai (aB (ef "Rest" ba [] (zA (z2 bU (z2 bU (aa 1) (z1 bf (z1 (au ["Pairs"] "rights") (aa 0)))) (zC (.int 2))) zA0)) (zSt 2))
 (ai (zPar 3 4 (zA (z2 bU (aa 1) (z1 bf (z1 (au ["Pairs"] "rights") (aa 0)))) (zA (z2 bU (z2 bU (aa 1) (z1 bf (z1 (au ["Pairs"] "rights") (aa 0)))) (zC (.int 1))) zA0)))
 G)))) (pqS q none none none none none none none none none none none none none none S)) Q XF:=by
 have hs:(5000:Nat)<sizeLine:=by decide
 have l1:=O.ll
 have l2:=O.rl
 have ln:(((ls.map D.str).length:Nat):Int)=(ls.length:Int):=by rw [List.length_map]
 have rn:(((rs.map D.str).length:Nat):Int)=(rs.length:Int):=by rw [List.length_map]
 obtain ⟨S1,ei,R1,G1,n1⟩:=qC (S0:=S) (m:=ls.length+rs.length+2) (by omega)
 have e3:=fun sl=>nf (sl:=sl) (S:=S) (i:=S.nx) (F:=ba) fun s=>ei s.sl
 have e4:∀sl,mkR S.nx ⟨sl,S⟩ (ba [.cell S.nx, .int ((ls.length:Int)+(rs.length:Int)+2)] (S.new (.obj "Rest" [])))= .ok (.d (.cell S.nx)) ⟨sl,S1⟩:=fun sl=>by
  have:=e3 sl
  rw [show ((ls.length+rs.length+2:Nat):Int)=(ls.length:Int)+(rs.length:Int)+2 by omega] at this
  exact this
 have q2:S1.get q=_:=(G1.old q q1).trans hq
 have h:=h S1 R1 G1.nx G1.old
 simp! only [hq,ah uh,ah ug,ln,rn,e3,e4,q2]
 exact h
theorem pa_b {G B:SD→R Fl} (hB:B=(ai (cK (jB (zA (aa 1) zA0)) (zSt 5) (aD (aG "Rest" "put_arc" ak [.int 0] (aa 2) (zA (aa 3) (zA (aa 5) (zA (zC (.int 1)) zA0))))))
 G)) {Q:Fl→SD→Prop} (R:RestAt S r (a+b+2) [] []) (ha:a≤7)
  (h:∀v5 S1,RestAt S1 r (a+b+2) ((List.range a).map fun p=>(a+b,p)) (Rs.rsB (List.replicate a (some 1)))→S1.nx=S.nx→(∀j,j<r→S1.get j=S.get j)→Wp (G (pqS q (some (.d (nD a))) (some (.d (.cell r))) (some (.d (nD (a+b)))) (some (.d (nD (a+b+1)))) v5 none none none none none none none none none S1)) Q XF):
  Wp (B (pqS q (some (.d (nD a))) (some (.d (.cell r))) (some (.d (nD (a+b)))) (some (.d (nD (a+b+1)))) none none none none none none none none none none S)) Q XF:=by
 subst hB
 have hs:(5000:Nat)<sizeLine:=by decide
 have z0:=rg62 (m:=a) (by omega)
 have mRp:bI (cH r (a+b+2)) "put_arc" =none:=rfl
 simp! only [z0]
 rw [ae]
 refine fP (fun j s' =>∃v5 S1,s' =pqS q (some (.d (nD a))) (some (.d (.cell r))) (some (.d (nD (a+b)))) (some (.d (nD (a+b+1)))) v5 none none none none none none none none none S1∧RestAt S1 r (a+b+2) ((List.range j).map fun p=>(a+b,p)) (Rs.rsB (List.replicate j (some 1)))∧S1.nx=S.nx∧∀i,i<r→S1.get i=S.get i) nl0 (fun _ _ _=>trivial) ⟨none,S,rfl,R,rfl,fun _ _=>rfl⟩ (fun j y s' ey hI=>?_) (fun s' hI=>?_)
 ·obtain ⟨v5,S1,rfl,R1,n1,f1⟩:=hI
  have ey:(Z.upTo 0 (a:Int).toNat)[j]? =some y:=ey
  rw [Int.toNat_natCast,iK,List.getElem?_map] at ey
  cases ej:(List.range a)[j]? with
  | none=>rw [ej] at ey; cases ey
  | some i=>
   rw [ej] at ey
   cases ey
   have hj:j<a:=by have:=(List.getElem?_eq_some_iff.mp ej).1; simpa using this
   have:i=j:=by rw [List.getElem?_range hj] at ej; exact (Option.some.inj ej).symm
   subst this
   have lt:((List.range i).map fun p=>(a+b,p)).length=i:=by rw [List.length_map,List.length_range]
   obtain ⟨S2,e2,R2,n2,f2⟩:=gT (u:=some 1) (b:=some 0) R1 (t:=a+b) (h:=i) (by omega) (by omega) (by omega) (by rw [lt]; omega)
   have o1:=R1.o
   have ea:(List.range (i+1)).map (fun p=>(a+b,p))=(List.range i).map (fun p=>(a+b,p))++ [(a+b,i)]:=by rw [List.range_succ,List.map_append]; rfl
   have eu:Rs.rsB (List.replicate (i+1) (some 1))=Rs.rsB (List.replicate i (some 1))++ [some 1,some 0]:=by rw [List.replicate_succ']; exact Rs.kZ
   have e2:∀sl,goF ak [.cell r, .int ((a+b:Nat):Int), .int (i:Int), .int 1, .int 0] ⟨sl,S1⟩= .ok (.d (.int _)) ⟨sl,S2⟩:=e2
   simp! only [o1,ao mRp,e2]
   exact ⟨_,S2,rfl,by rw [ea,eu]; exact R2,n2.trans n1,fun j hj=>(f2 j (.inl hj)).trans (f1 j hj)⟩
 ·have ll:(Z.upTo 0 (a:Int).toNat).length=a:=by rw [Int.toNat_natCast,iK,List.length_map,List.length_range]
  have hI:∃v5 S1,s' =pqS q (some (.d (nD a))) (some (.d (.cell r))) (some (.d (nD (a+b)))) (some (.d (nD (a+b+1)))) v5 none none none none none none none none none S1∧RestAt S1 r (a+b+2) ((List.range (Z.upTo 0 (a:Int).toNat).length).map fun p=>(a+b,p)) (Rs.rsB (List.replicate (Z.upTo 0 (a:Int).toNat).length (some 1)))∧S1.nx=S.nx∧∀i,i<r→S1.get i=S.get i:=hI
  rw [ll] at hI
  obtain ⟨v5,S1,rfl,R1,n1,f1⟩:=hI
  simp! only []
  exact h v5 S1 R1 n1 f1
theorem pa_c {G B:SD→R Fl} (hB:B=(ai (cK (jB (zA (z1 bf (z1 (au ["Pairs"] "rights") (aa 0))) zA0)) (zSt 5) (aD (aG "Rest" "put_arc" ak [.int 0] (aa 2) (zA (z2 bU (aa 1) (aa 5)) (zA (aa 4) (zA (zC (.int 1)) zA0))))))
 G)) {Q:Fl→SD→Prop} (hq:S.get q=some (.obj "Pairs" (paF ls rs ps))) (hb:rs.length=b) (qr:q<r) (R:RestAt S r (a+b+2) ((List.range a).map fun p=>(a+b,p)) (Rs.rsB (List.replicate a (some 1)))) (ha:a≤7) (b7:b≤7)
  (h:∀v5 S1,RestAt S1 r (a+b+2) ((List.range a).map (fun p=>(a+b,p))++(List.range b).map fun p=>(a+p,a+b+1)) (Rs.rsB (List.replicate a (some 1)++List.replicate b (some 1)))→S1.nx=S.nx→(∀j,j<r→S1.get j=S.get j)→Wp (G (pqS q (some (.d (nD a))) (some (.d (.cell r))) (some (.d (nD (a+b)))) (some (.d (nD (a+b+1)))) v5 none none none none none none none none none S1)) Q XF):
  Wp (B (pqS q (some (.d (nD a))) (some (.d (.cell r))) (some (.d (nD (a+b)))) (some (.d (nD (a+b+1)))) v5 none none none none none none none none none S)) Q XF:=by
 subst hB
 have hs:(5000:Nat)<sizeLine:=by decide
 have z0:=rg62 (m:=b) (by omega)
 have ln:(((rs.map D.str).length:Nat):Int)=(b:Int):=by rw [List.length_map,hb]
 have mRp:bI (cH r (a+b+2)) "put_arc" =none:=rfl
 simp! only [hq,ah ug,ln,z0]
 rw [ae]
 refine fP (fun j s' =>∃v5 S1,s' =pqS q (some (.d (nD a))) (some (.d (.cell r))) (some (.d (nD (a+b)))) (some (.d (nD (a+b+1)))) v5 none none none none none none none none none S1∧RestAt S1 r (a+b+2) ((List.range a).map (fun p=>(a+b,p))++(List.range j).map fun p=>(a+p,a+b+1)) (Rs.rsB (List.replicate a (some 1)++List.replicate j (some 1)))∧S1.nx=S.nx∧∀i,i<r→S1.get i=S.get i) nl0 (fun _ _ _=>trivial) ⟨v5,S,rfl,by simpa using R,rfl,fun _ _=>rfl⟩ (fun j y s' ey hI=>?_) (fun s' hI=>?_)
 ·obtain ⟨v5,S1,rfl,R1,n1,f1⟩:=hI
  have ey:(Z.upTo 0 (b:Int).toNat)[j]? =some y:=ey
  rw [Int.toNat_natCast,iK,List.getElem?_map] at ey
  cases ej:(List.range b)[j]? with
  | none=>rw [ej] at ey; cases ey
  | some i=>
   rw [ej] at ey
   cases ey
   have hj:j<b:=by have:=(List.getElem?_eq_some_iff.mp ej).1; simpa using this
   have:i=j:=by rw [List.getElem?_range hj] at ej; exact (Option.some.inj ej).symm
   subst this
   have lt:((List.range a).map (fun p=>(a+b,p))++(List.range i).map fun p=>(a+p,a+b+1)).length=a+i:=by simp
   obtain ⟨S2,e2,R2,n2,f2⟩:=gT (u:=some 1) (b:=some 0) R1 (t:=a+i) (h:=a+b+1) (by omega) (by omega) (by omega) (by rw [lt]; omega)
   have o1:=R1.o
   have ea:(List.range a).map (fun p=>(a+b,p))++(List.range (i+1)).map (fun p=>(a+p,a+b+1))=((List.range a).map (fun p=>(a+b,p))++(List.range i).map fun p=>(a+p,a+b+1))++ [(a+i,a+b+1)]:=by rw [List.range_succ,List.map_append,List.append_assoc]; rfl
   have eu:Rs.rsB (List.replicate a (some 1)++List.replicate (i+1) (some 1))=Rs.rsB (List.replicate a (some 1)++List.replicate i (some 1))++ [some 1,some 0]:=by rw [List.replicate_succ',←List.append_assoc]; exact Rs.kZ
   have e2:∀sl,goF ak [.cell r, .int ((a:Int)+(i:Int)), .int ((a+b+1:Nat):Int), .int 1, .int 0] ⟨sl,S1⟩= .ok (.d (.int _)) ⟨sl,S2⟩:=e2
   simp! only [o1,ao mRp,e2]
   exact ⟨_,S2,rfl,by rw [ea,eu]; exact R2,n2.trans n1,fun j hj=>(f2 j (.inl hj)).trans (f1 j hj)⟩
 ·have ll:(Z.upTo 0 (b:Int).toNat).length=b:=by rw [Int.toNat_natCast,iK,List.length_map,List.length_range]
  have hI:∃v5 S1,s' =pqS q (some (.d (nD a))) (some (.d (.cell r))) (some (.d (nD (a+b)))) (some (.d (nD (a+b+1)))) v5 none none none none none none none none none S1∧RestAt S1 r (a+b+2) ((List.range a).map (fun p=>(a+b,p))++(List.range (Z.upTo 0 (b:Int).toNat).length).map fun p=>(a+p,a+b+1)) (Rs.rsB (List.replicate a (some 1)++List.replicate (Z.upTo 0 (b:Int).toNat).length (some 1)))∧S1.nx=S.nx∧∀i,i<r→S1.get i=S.get i:=hI
  rw [ll] at hI
  obtain ⟨v5,S1,rfl,R1,n1,f1⟩:=hI
  simp! only []
  exact h v5 S1 R1 n1 f1
end
section
variable {s:SD} {S S1:Sto} {sl:List (Option Vl)} {x y z u:D} {q r a b:Nat} {ls rs:List Str} {ps:List (Str×Str)} {v5:Option Vl}
noncomputable def ixdK (s:SD):Option D→Option D→R Vl
 | some (.lst ds),some x=>match scs ds,x.sc with
  | some vs,some v=>match vs.findIdx? (fun z=>eqV z v) with
   | some j=> .ok (.d (.int (j:Nat))) s
   | none=> .bad
  | _,_=> .bad
 | _,_=> .bad
theorem kR {a b:Vl}:br a b s=ixdK s (s.cont a) (s.cont b):=by
 unfold br ixdK
 rfl
theorem jl (w:Str):∀l:List Str,w∈l→(l.map V.str).findIdx? (fun z=>eqV z (.str w))=some (l.idxOf w)
 | [],h=>by cases h
 | y::l,h=>by
  rw [List.map_cons,List.findIdx?_cons,List.idxOf_cons]
  have e:eqV (V.str y) (V.str w)=(y == w):=rfl
  rw [e]
  by_cases c:y=w
  ·have:(y == w)=true:=by rw [beq_iff_eq]; exact c
   rw [this]; rfl
  ·have c2:(y == w)=false:=by rw [beq_eq_false_iff_ne]; exact c
   rw [c2,jl w l (by rcases List.mem_cons.mp h with e | h; exact absurd e.symm c; exact h)]
   rfl
theorem je {l:List Str} {z:Str} (h:z∈l):∀s:SD,ixdK s (some (.lst (l.map .str))) (some (.str z))= .ok (.d (.int (l.idxOf z:Int))) s:=fun s=>by
 unfold ixdK
 simp only [eU,D.sc,jl z l h]
def frQ (ls rs:List Str) (ps:List (Str×Str)):As:=ps.map fun p=>(ls.idxOf p.1,rs.idxOf p.2)
abbrev tN (a b n:Nat):List D:=(List.range n).map fun k=>nD (a+b+k)
theorem pa_d {G B:SD→R Fl} (hB:B=(ai (aB (cG zA0) (zSt 6))
 (ai (cK (eS (aL (z1 (au ["Pairs"] "friends") (aa 0)))) (fT [7,8]) (aD (zM2 isL (oB2 aM) (aa 6) (aL (aG "Rest" "put_arc" ak [.int 0] (aa 2) (zA (zM2 isL br (z1 (au ["Pairs"] "lefts") (aa 0)) (aa 7)) (zA (z2 bU (aa 1) (zM2 isL br (z1 (au ["Pairs"] "rights") (aa 0)) (aa 8))) (zA (zC .non) zA0))))))))
 G))) {Q:Fl→SD→Prop} (hq:S.get q=some (.obj "Pairs" (paF ls rs ps))) (O:PaOk ls rs ps) (qr:q<r) (ea:ls.length=a) (eb:rs.length=b)
  (R:RestAt S r (a+b+2) ((List.range a).map (fun p=>(a+b,p))++(List.range b).map fun p=>(a+p,a+b+1)) (Rs.rsB (List.replicate a (some 1)++List.replicate b (some 1))))
  (h:∀v7 v8 S1,RestAt S1 r (a+b+2) (asQ a b (frQ ls rs ps)) (Rs.rsB (usQ a b ps.length))→S1.nx=S.nx→(∀j,j<r→S1.get j=S.get j)→Wp (G (pqS q (some (.d (nD a))) (some (.d (.cell r))) (some (.d (nD (a+b)))) (some (.d (nD (a+b+1)))) v5 (some (.own (.lst (tN a b ps.length)))) v7 v8 none none none none none none S1)) Q XF):
  Wp (B (pqS q (some (.d (nD a))) (some (.d (.cell r))) (some (.d (nD (a+b)))) (some (.d (nD (a+b+1)))) v5 none none none none none none none none none S)) Q XF:=by
 subst hB
 have hs:(5000:Nat)<sizeLine:=by decide
 have l1:=O.ll
 have l2:=O.rl
 have l3:=O.pl
 have mRp:bI (cH r (a+b+2)) "put_arc" =none:=rfl
 simp! only [hq,ah paf_f]
 rw [ae]
 refine fP (fun j s' =>∃v7 v8 S1,s' =pqS q (some (.d (nD a))) (some (.d (.cell r))) (some (.d (nD (a+b)))) (some (.d (nD (a+b+1)))) v5 (some (.own (.lst (tN a b j)))) v7 v8 none none none none none none S1∧RestAt S1 r (a+b+2) (asQ a b (frQ ls rs (ps.take j))) (Rs.rsB (usQ a b j))∧S1.nx=S.nx∧∀i,i<r→S1.get i=S.get i) Nl.d1 (fun _ _ _=>trivial) ⟨none,none,S,rfl, ?_,rfl,fun _ _=>rfl⟩ (fun j y s' ey hI=>?_) (fun s' hI=>?_)
 ·rw [List.take_zero]
  unfold asQ usQ frQ
  simpa using R
 ·obtain ⟨v7,v8,S1,rfl,R1,n1,f1⟩:=hI
  have ey:(ps.map prD)[j]? =some y:=ey
  rw [List.getElem?_map] at ey
  cases eq:ps[j]? with
  | none=>rw [eq] at ey; cases ey
  | some p=>
   rw [eq] at ey
   cases ey
   have hj:=(List.getElem?_eq_some_iff.mp eq).1
   obtain ⟨m1,m2⟩:=O.pi p (List.mem_of_getElem? eq)
   have x1:=List.idxOf_lt_length_of_mem m1
   have x2:=List.idxOf_lt_length_of_mem m2
   have lt:(asQ a b (frQ ls rs (ps.take j))).length=a+(b+j):=by
    rw [Pw.asQ_len]
    unfold frQ
    rw [List.length_map,List.length_take,Nat.min_eq_left (Nat.le_of_lt hj)]
   obtain ⟨S2,e2,R2,n2,f2⟩:=gT (u:=none) (b:=some 0) R1 (t:=ls.idxOf p.1) (h:=a+rs.idxOf p.2) (by omega) (by omega) (by omega) (by rw [lt]; omega)
   have o1:=R1.o
   have q1:S1.get q=some (.obj "Pairs" (paF ls rs ps)):=(f1 q qr).trans hq
   have i1:=je m1
   have i2:=je m2
   have c1:∀s:SD,s.cont (.d (prD p))=some (.tup [.str p.1, .str p.2]):=fun _=>rfl
   have e2:∀sl,goF ak [.cell r, .int (ls.idxOf p.1:Int), .int ((a:Int)+(rs.idxOf p.2:Int)), .non, .int 0] ⟨sl,S1⟩= .ok (.d (.int _)) ⟨sl,S2⟩:=e2
   simp! only [c1,q1,ah uh,ah ug,kR,i1,i2,o1,ao mRp,e2]
   have y1:(tN a b j).length<sizeLine:=by rw [List.length_map,List.length_range]; omega
   have w1:tN a b j++ [D.int ((asQ a b (frQ ls rs (ps.take j))).length:Int)]=tN a b (j+1):=by
    rw [lt,show a+(b+j)=a+b+j by omega]
    unfold tN
    rw [List.range_succ,List.map_append]
    rfl
   have w2:asQ a b (frQ ls rs (ps.take (j+1)))=asQ a b (frQ ls rs (ps.take j))++ [(ls.idxOf p.1,a+rs.idxOf p.2)]:=by
    rw [List.take_add_one,eq]
    unfold asQ frQ
    simp
   have w3:Rs.rsB (usQ a b (j+1))=Rs.rsB (usQ a b j)++ [none,some 0]:=by
    have:usQ a b (j+1)=usQ a b j++ [none]:=by
     unfold usQ
     rw [List.replicate_succ',List.append_assoc,List.append_assoc]
    rw [this]
    exact Rs.kZ
   rw [if_pos y1,w1]
   exact ⟨_,_,S2,rfl,by rw [w2,w3]; exact R2,n2.trans n1,fun i hi=>(f2 i (.inl hi)).trans (f1 i hi)⟩
 ·have ll:(ps.map prD).length=ps.length:=List.length_map _
  have hI:∃v7 v8 S1,s' =pqS q (some (.d (nD a))) (some (.d (.cell r))) (some (.d (nD (a+b)))) (some (.d (nD (a+b+1)))) v5 (some (.own (.lst (tN a b (ps.map prD).length)))) v7 v8 none none none none none none S1∧RestAt S1 r (a+b+2) (asQ a b (frQ ls rs (ps.take (ps.map prD).length))) (Rs.rsB (usQ a b (ps.map prD).length))∧S1.nx=S.nx∧∀i,i<r→S1.get i=S.get i:=hI
  rw [ll,List.take_length] at hI
  obtain ⟨v7,v8,S1,rfl,R1,n1,f1⟩:=hI
  simp! only []
  exact h v7 v8 S1 R1 n1 f1
end
section
variable {S:Sto} {q r a b:Nat} {ls rs:List Str} {ps:List (Str×Str)} {v1 v5 v6 v7 v8:Option Vl} {fr:As}
theorem nK {j:Nat} {p:Str×Str} (e:ps[j]? =some p):ta (frQ ls rs ps) j=ls.idxOf p.1∧he (frQ ls rs ps) j=rs.idxOf p.2:=by
 unfold ta he frQ
 rw [List.getD_eq_getElem?_getD,List.getElem?_map,e]
 exact ⟨rfl,rfl⟩
theorem gW:(frQ ls rs ps).length=ps.length:=List.length_map _
theorem frQ_ok (O:PaOk ls rs ps):FrOk ls.length rs.length (frQ ls rs ps) where
 i:=fun j hj=>by
  rw [gW] at hj
  have e:ps[j]? =some ps[j]:=List.getElem?_eq_getElem hj
  obtain ⟨m1,m2⟩:=O.pi _ (List.mem_of_getElem? e)
  rw [(nK e).1,(nK e).2]
  exact ⟨List.idxOf_lt_length_of_mem m1,List.idxOf_lt_length_of_mem m2⟩
 n:=by
  unfold frQ
  rw [List.Nodup,List.pairwise_map]
  refine List.Pairwise.imp_of_mem (fun {x y} hx hy ne e=>ne ?_) O.p
  injection e with e1 e2
  have i1:=O.pi x hx
  have i2:=O.pi y hy
  have g1:=List.getElem_idxOf (List.idxOf_lt_length_of_mem i1.1)
  have g2:=List.getElem_idxOf (List.idxOf_lt_length_of_mem i2.1)
  have g3:=List.getElem_idxOf (List.idxOf_lt_length_of_mem i1.2)
  have g4:=List.getElem_idxOf (List.idxOf_lt_length_of_mem i2.2)
  refine Prod.ext ?_ ?_
  ·rw [←g1,←g2]; congr 1
  ·rw [←g3,←g4]; congr 1
theorem pa_e {G B:SD→R Fl} (hB:B=(ai (aD (aG "Rest" "lift" bS [] (aa 2) (zA (aa 3) (zA (aa 4) zA0))))
 G)) {Q:Fl→SD→Prop} {T:Nat} (O:FrOk a b fr) (R:RestAt S r (a+b+2) (asQ a b fr) (Rs.rsB (usQ a b fr.length))) (ha:a≤7) (hb:b≤7)
  (h:∀rs' am f,Lift (asQ a b fr) (a+b+2) (a+b) (a+b+1) (Rs.rsB (usQ a b fr.length)) rs' am→Lifted (asQ a b fr) (usQ a b fr.length) (a+b+2) (a+b) (a+b+1) rs' f am→RestAt (S.put (r+2) (.lst (rs'.map rD))) r (a+b+2) (asQ a b fr) rs'→Wp (G (pqS q v1 (some (.d (.cell r))) (some (.d (nD (a+b)))) (some (.d (nD (a+b+1)))) v5 v6 v7 v8 none none none none none none (S.put (r+2) (.lst (rs'.map rD))))) Q XF):
  Wp (B (pqS q v1 (some (.d (.cell r))) (some (.d (nD (a+b)))) (some (.d (nD (a+b+1)))) v5 v6 v7 v8 none none none none none none S)) Q XF:=by
 subst hB
 have hs:(5000:Nat)<sizeLine:=by decide
 have hl:(usQ a b fr.length).length=(asQ a b fr).length:=by rw [Pw.usQ_len,Pw.asQ_len]
 obtain ⟨rs',am,L,e1⟩:=g_lift R (Pw.goodQ O) (by omega)
 obtain ⟨f,LD⟩:=Rs.rG hl (Pw.goodQ O) L
 have R1:RestAt (S.put (r+2) (.lst (rs'.map rD))) r (a+b+2) (asQ a b fr) rs' :=R.rooms (by rw [LD.len,Rs.kY,hl])
 have h:=h rs' am f L LD R1
 have o1:=R.o
 have mRl:bI (cH r (a+b+2)) "lift" =none:=rfl
 simp! only [o1,ao mRl,e1]
 exact h
end
section
variable {s:SD} {S:Sto} {sl:List (Option Vl)} {x y:D} {q r a b:Nat} {ls rs:List Str} {ps:List (Str×Str)} {v1 v2 v3 v4 v5 v6 v7 v8 v9:Option Vl} {fr:As} {rs' :List (Option Int)} {f:Nat→Int} {am:Int} {U:Nat→Bool}
theorem nl2q {x y:D}:Nl [.d x, .d y]:=fun e he j=>by
 rcases List.mem_cons.mp he with rfl | he
 ·exact fun h=>nomatch h
 ·rw [List.mem_singleton.mp he]; exact fun h=>nomatch h
def pAt (ps:List (Str×Str)) (k:Nat):Str×Str:=ps.getD k ("","")
theorem mL {k:Nat} (h:k<ps.length):ps[k]? =some (pAt ps k):=by
 unfold pAt
 rw [List.getD_eq_getElem?_getD,List.getElem?_eq_getElem h]
 rfl
def pP (a b n:Nat) (f:Nat→Int):List Nat:=(List.range n).filter fun j=>decide (0<f (a+(b+j)))
theorem zips_pr:pk (ps.map prD) (tN a b ps.length)=(List.range ps.length).map fun k=> .tup [prD (pAt ps k),nD (a+b+k)]:=by
 refine List.ext_getElem? fun i=>?_
 rw [gh,List.getElem?_map,List.getElem?_map,List.getElem?_map]
 by_cases c:i<ps.length
 ·rw [mL c,List.getElem?_range c]
  rfl
 ·rw [List.getElem?_eq_none (by omega),List.getElem?_eq_none (by rw [List.length_range]; omega)]
  rfl
theorem pa_f {G B:SD→R Fl} (hB:B=(ai (aB (zLc (zZip (z1 (au ["Pairs"] "friends") (aa 0)) (aa 6)) (fT [12,13]) (zB (z2 oGt (aG "Rest" "back_of" aS [] (aa 2) (zA (aa 13) zA0)) (zC (.int 0)))) (aa 12) [12,13]) (zSt 9))
 G)) {Q:Fl→SD→Prop} (hq:S.get q=some (.obj "Pairs" (paF ls rs ps))) (hn:fr.length=ps.length) (hl:ps.length≤63) (ha:a≤7) (hb:b≤7) (R:RestAt S r (a+b+2) (asQ a b fr) rs') (LD:Lifted (asQ a b fr) (usQ a b fr.length) (a+b+2) (a+b) (a+b+1) rs' f am)
  (h:∀v6,Wp (G (pqS q v1 (some (.d (.cell r))) v3 v4 v5 v6 v7 v8 (some (.own (.lst ((pP a b ps.length f).map fun k=>prD (pAt ps k))))) none none none none none S)) Q XF):
  Wp (B (pqS q v1 (some (.d (.cell r))) v3 v4 v5 (some (.own (.lst (tN a b ps.length)))) v7 v8 none none none none none none S)) Q XF:=by
 subst hB
 have hs:(5000:Nat)<sizeLine:=by decide
 have z2:=fun s:SD=>zip2_ok (a:= .d (.lst (ps.map prD))) (b:= .d (.lst (tN a b ps.length))) (s:=s) (xs:=ps.map prD) (ys:=tN a b ps.length) rfl rfl
 have mRb:bI (cH r (a+b+2)) "back_of" =none:=rfl
 simp! only [hq,ah paf_f,z2]
 rw [gR (l:=List.range ps.length) (fun k:Nat=>D.tup [prD (pAt ps k),nD (a+b+k)]) (fun k=>prD (pAt ps k)) (fun k=>decide (0<f (a+(b+k)))) zips_pr rfl nl2q trivial (fun k hk=>?_) (by rw [List.length_range]; omega)]
 ·simp! only []
  exact h _
 ·have hk:=List.mem_range.mp hk
  have hk2:a+(b+k)<(asQ a b fr).length:=by rw [Pw.asQ_len]; omega
  have e2:=fun sl=>sD (sl:=sl) R hk2 (by rw [Pw.asQ_len]; omega)
  rw [LD.bk _ hk2] at e2
  have e2:∀sl,goF aS [.cell r,nD (a+b+k)] ⟨sl,S⟩= .ok (.d (.int (f (a+(b+k))))) ⟨sl,S⟩:=fun sl=>by rw [show a+b+k=a+(b+k) by omega]; exact e2 sl
  have o2:=R.o
  have c1:∀s:SD,s.cont (.d (prD (pAt ps k)))=some (prD (pAt ps k)):=fun _=>rfl
  unfold Z.iG
  simp! only [o2,ao mRb,e2,c1]
theorem pa_g {G B:SD→R Fl} (hB:B=(ai (aB (aG "Rest" "reached" aY [] (aa 2) (zA (aa 3) zA0)) (zSt 10))
 G)) {Q:Fl→SD→Prop} (ha:a≤7) (hb:b≤7) (R:RestAt S r (a+b+2) (asQ a b fr) rs')
  (h:Wp (G (pqS q v1 (some (.d (.cell r))) (some (.d (nD (a+b)))) v4 v5 v6 v7 v8 v9 (some (.own (.lst ((List.range (a+b+2)).map fun p=>D.bl (bt (asQ a b fr) rs' false (a+b+2) (a+b) p))))) none none none none S)) Q XF):
  Wp (B (pqS q v1 (some (.d (.cell r))) (some (.d (nD (a+b)))) v4 v5 v6 v7 v8 v9 none none none none none S)) Q XF:=by
 subst hB
 have hs:(5000:Nat)<sizeLine:=by decide
 have e2:=fun sl=>sA (sl:=sl) (src:=a+b) R (by omega) (by omega)
 have o2:=R.o
 have mRr:bI (cH r (a+b+2)) "reached" =none:=rfl
 simp! only [o2,ao mRr,e2]
 exact h
theorem qM (names:List Str):cg (names.map .str)=(List.range names.length).map fun p:Nat=>D.tup [.int (p:Int), .str (names.getD p "")]:=by
 refine List.ext_getElem? fun i=>?_
 rw [cI,List.getElem?_map,List.getElem?_map]
 by_cases c:i<names.length
 ·have e:names.getD i "" =names[i]:=by rw [List.getD_eq_getElem?_getD,List.getElem?_eq_getElem c]; rfl
  rw [List.getElem?_range c,List.getElem?_eq_getElem c]
  show some (D.tup [.int (i:Int), .str names[i]])=some (D.tup [.int (i:Int), .str (names.getD i "")])
  rw [e]
 ·rw [List.getElem?_eq_none (by omega),List.getElem?_eq_none (by rw [List.length_range]; omega)]
  rfl
abbrev cvD (p:Int×Str):D:= .tup [.int p.1, .str p.2]
def cvL (ls:List Str) (U:Nat→Bool):List (Int×Str):=((List.range ls.length).filter fun p=>!U p).map fun p=>(0,ls.getD p "")
def cvR (a:Nat) (rs:List Str) (U:Nat→Bool):List (Int×Str):=((List.range rs.length).filter fun p=>U (a+p)).map fun p=>(1,rs.getD p "")
theorem pa_h {G B:SD→R Fl} (hB:B=(ai (aB (aN (zLc (fK (aL (z1 (au ["Pairs"] "lefts") (aa 0)))) (fT [5,14]) (dt (zB (z2 oIx (aa 10) (aa 5)))) (bY (zA (zC (.int 0)) (zA (aa 14) zA0))) [5,14])) (zSt 11))
 G)) {Q:Fl→SD→Prop} (hq:S.get q=some (.obj "Pairs" (paF ls rs ps))) (hl:ls.length=a) (ha:a≤7)
  (h:∀v5,Wp (G (pqS q v1 v2 v3 v4 v5 v6 v7 v8 v9 (some (.own (.lst ((List.range (a+b+2)).map fun p=>D.bl (U p))))) (some (.d (.cell S.nx))) none none none (S.new (.lst ((cvL ls U).map cvD))))) Q XF):
  Wp (B (pqS q v1 v2 v3 v4 v5 v6 v7 v8 v9 (some (.own (.lst ((List.range (a+b+2)).map fun p=>D.bl (U p))))) none none none none S)) Q XF:=by
 subst hB
 have hs:(5000:Nat)<sizeLine:=by decide
 have ec:(cvL ls U).map cvD=((List.range ls.length).filter fun p=>!U p).map fun p=>cvD (0,ls.getD p ""):=by unfold cvL; rw [List.map_map]; rfl
 simp! only [hq,ah uh]
 rw [gR (l:=List.range ls.length) (fun p:Nat=>D.tup [.int (p:Int), .str (ls.getD p "")]) (fun p=>cvD (0,ls.getD p "")) (fun p=>!U p) (qM ls) rfl Nl.d1 trivial (fun p hp=>?_) (by rw [List.length_range]; omega)]
 ·simp! only [←ec]
  exact h _
 ·have hp:=List.mem_range.mp hp
  have i3:∀s:SD,ixK s (some (.lst ((List.range (a+b+2)).map fun p=>D.bl (U p)))) (some (.int (p:Int)))= .ok (.d (.bl (U p))) s:=fun s=>ixR (f:=fun p=>D.bl (U p)) (by omega)
  unfold Z.iG
  simp! only [i3]
theorem pa_i {G B:SD→R Fl} (hB:B=(ai (aD (zM2 isL (oB2 dN) (aa 11) (aL (zLc (fK (aL (z1 (au ["Pairs"] "rights") (aa 0)))) (fT [5,14]) (zB (z2 oIx (aa 10) (z2 bU (aa 1) (aa 5)))) (bY (zA (zC (.int 1)) (zA (aa 14) zA0))) [5,14]))))
 G)) {Q:Fl→SD→Prop} {c:Nat} (hq:S.get q=some (.obj "Pairs" (paF ls rs ps))) (hl:rs.length=b) (ha:b≤7) (h2:ls.length=a) (ha2:a≤7) (hc:S.get c=some (.lst ((cvL ls U).map cvD)))
  (h:∀v5,Wp (G (pqS q (some (.d (nD a))) v2 v3 v4 v5 v6 v7 v8 v9 (some (.own (.lst ((List.range (a+b+2)).map fun p=>D.bl (U p))))) (some (.d (.cell c))) none none none (S.put c (.lst ((cvL ls U++cvR a rs U).map cvD))))) Q XF):
  Wp (B (pqS q (some (.d (nD a))) v2 v3 v4 v5 v6 v7 v8 v9 (some (.own (.lst ((List.range (a+b+2)).map fun p=>D.bl (U p))))) (some (.d (.cell c))) none none none S)) Q XF:=by
 subst hB
 have hs:(5000:Nat)<sizeLine:=by decide
 have ec:(cvR a rs U).map cvD=((List.range rs.length).filter fun p=>U (a+p)).map fun p=>cvD (1,rs.getD p ""):=by unfold cvR; rw [List.map_map]; rfl
 have l1:((cvL ls U).map cvD).length≤7:=by
  unfold cvL
  rw [List.length_map,List.length_map]
  exact Nat.le_trans (List.length_filter_le _ _) (by rw [List.length_range]; omega)
 have l2:((cvR a rs U).map cvD).length≤7:=by
  unfold cvR
  rw [List.length_map,List.length_map]
  exact Nat.le_trans (List.length_filter_le _ _) (by rw [List.length_range]; omega)
 simp! only [hq,ah ug]
 rw [gR (l:=List.range rs.length) (fun p:Nat=>D.tup [.int (p:Int), .str (rs.getD p "")]) (fun p=>cvD (1,rs.getD p "")) (fun p=>U (a+p)) (qM rs) rfl Nl.d1 trivial (fun p hp=>?_) (by rw [List.length_range]; omega)]
 ·have ll:(((cvL ls U).map cvD).length+((cvR a rs U).map cvD).length)≤sizeLine:=by omega
  simp! only [←ec,hc,ll,←List.map_append]
  exact h _
 ·have hp:=List.mem_range.mp hp
  have i3:∀s:SD,ixK s (some (.lst ((List.range (a+b+2)).map fun p=>D.bl (U p)))) (some (.int ((a:Int)+(p:Int))))= .ok (.d (.bl (U (a+p)))) s:=fun s=>ixR (f:=fun p=>D.bl (U p)) (h:=a+p) (by omega)
  unfold Z.iG
  simp! only [i3]
end
section
variable {s:SD} {S S' S1:Sto} {sl:List (Option Vl)} {x y:D} {q a b:Nat} {ls rs:List Str} {ps:List (Str×Str)} {v1 v2 v3 v4 v5 v6 v7 v8 v10:Option Vl} {rs' rs2:List (Option Int)} {f f2:Nat→Int} {am am2:Int} {U:Nat→Bool} {Qs Q2:List (Str×Str)} {Cs C2:List (Int×Str)}
theorem pN {cls:List Str} {g c:Str} {i k:Nat} {a:Vl} {ds ys:List D} {fs:List (Str×D)} (h1:s.cont a=some (.lst ds)) (h2:s.sl[i]? =some (some (.d (.cell k)))) (h3:s.st.get k=some (.obj c fs)) (h4:c∈cls) (h5:bI fs g=some (.lst ys)) (h6:(scs ys).isSome=true∧∀d∈ds,∃n,iA ys d=some n):cj cls g i a s= .ok (.own (.lst (tO ys ds))) s:=by
 unfold cj
 simp only [h1,h2,h3,h4,h5,if_true,if_pos h6]
theorem lz {p:Str×Str} (h:p.1∈ls):iA (ls.map .str) (prD p)=some (ls.idxOf p.1):=by
 have e:iA (ls.map .str) (prD p)=match scs (ls.map D.str),(D.str p.1).sc with
  | some vs,some v=>vs.findIdx? (fun z=>eqV z v)
  | _,_=>none:=rfl
 rw [e]
 simp only [eU,D.sc,jl p.1 ls h]
def srtP (ls:List Str) (l:List (Str×Str)):List (Str×Str):=l.mergeSort fun p q=>decide ((ls.idxOf p.1:Int)≤(ls.idxOf q.1:Int))
theorem srtK_pr {l:List (Str×Str)} (h:∀p∈l,p.1∈ls):tO (ls.map .str) (l.map prD)=(srtP ls l).map prD:=by
 unfold tO srtP
 rw [List.map_mergeSort (s:=fun d e=>decide ((((iA (ls.map .str) d).getD 0:Nat):Int)≤((iA (ls.map .str) e).getD 0:Nat))) fun p hp q hq=>?_]
 rw [lz (h p hp),lz (h q hq)]
 rfl
structure PaAt (S:Sto) (B:Nat) (x:D) (prs cov:List D) (p v:Nat):Prop where
 hx:x= .obj "Paired" [("pairs", .cell p),("cover", .cell v)]
 hp:S.get p=some (.lst prs)
 hv:S.get v=some (.lst cov)
 hb:B≤v∧v<p∧p<S.nx
theorem pf1:gb "pairs" x ([]:List (Str×D))=([("pairs",x)]:List (Str×D)):=rfl
theorem pf2:gb "cover" x ([("pairs",y)]:List (Str×D))=([("pairs",y),("cover",x)]:List (Str×D)):=rfl
theorem uO:goF aW [.cell S.nx,x,y] ⟨sl,S.new (.obj "Paired" [])⟩= .ok (.d .non) ⟨sl,S.new (.obj "Paired" [("pairs",x),("cover",y)])⟩:=by
 refine lB ?_
 show Wp (dk ⟨[some (.d (.cell S.nx)),some (.d x),some (.d y)],S.new (.obj "Paired" [])⟩) _ _
 unfold dk
 simp! only [pf1,pf2]
theorem pa_j {ds cov:List D} {B v:Nat} (hq:S.get q=some (.obj "Pairs" (paF ls rs ps))) (q1:q<S.nx) (hv:S.get v=some (.lst cov)) (v1' :v<S.nx) (hB:B≤v) (hk:∀d∈ds,∃n,iA (ls.map .str) d=some n):
  ∃x S',PaAt S' B x (tO (ls.map .str) ds) cov S.nx v∧Ext S S'∧Wp (((bc (zFrz (ef "Paired" aW [] (zA (aN (z1 (cj ["Pairs"] "lefts" 0) (aa 9))) (zA (aa 11) zA0)))))) (pqS q v1 v2 v3 v4 v5 v6 v7 v8 (some (.own (.lst ds))) v10 (some (.d (.cell v))) none none none S)) (fun fl s' =>flv fl=some (.d x)∧s'.st=S') XF:=by
 have hs:(5000:Nat)<sizeLine:=by decide
 obtain ⟨S1,hS1⟩:∃S1,S1=S.new (.lst (tO (ls.map .str) ds)):=⟨_,rfl⟩
 have E1:Ext S S1:=by rw [hS1]; exact Ext.new
 have n1:S1.nx=S.nx+1:=by rw [hS1,mR]
 refine ⟨.obj "Paired" [("pairs", .cell S.nx),("cover", .cell v)],S1.tick,⟨rfl, ?_, ?_,hB,v1',by rw [tick_nx]; omega⟩,E1.trans Ext.tick, ?_⟩
 ·rw [kT (by omega),hS1,aU]
 ·rw [kT (by omega),E1.get _ v1',hv]
 ·have e9:cj ["Pairs"] "lefts" 0 (.loc 9) (pqS q v1 v2 v3 v4 v5 v6 v7 v8 (some (.own (.lst ds))) v10 (some (.d (.cell v))) none none none S)= .ok (.own (.lst (tO (ls.map .str) ds))) (pqS q v1 v2 v3 v4 v5 v6 v7 v8 (some (.own (.lst ds))) v10 (some (.d (.cell v))) none none none S):=pN (cls:= ["Pairs"]) (g:= "lefts") (i:=0) (a:= .loc 9) rfl rfl hq List.mem_cons_self uh ⟨by rw [eU]; rfl,hk⟩
  have ms:=fun sl=>nf (sl:=sl) (S:=S1) (i:=S1.nx) (F:=aW) fun s=>uO (sl:=s.sl) (S:=S1) (x:= .cell S.nx) (y:= .cell v)
  simp! only [e9,←hS1,ms]
structure AnQ (ls rs:List Str) (ps:List (Str×Str)) (rs' :List (Option Int)) (am:Int) (f:Nat→Int) (Qs:List (Str×Str)) (Cs:List (Int×Str)):Prop where
 L:Lift (asQ ls.length rs.length (frQ ls rs ps)) (ls.length+rs.length+2) (ls.length+rs.length) (ls.length+rs.length+1) (Rs.rsB (usQ ls.length rs.length (frQ ls rs ps).length)) rs' am
 lf:Lifted (asQ ls.length rs.length (frQ ls rs ps)) (usQ ls.length rs.length (frQ ls rs ps).length) (ls.length+rs.length+2) (ls.length+rs.length) (ls.length+rs.length+1) rs' f am
 q:Qs=srtP ls ((pP ls.length rs.length ps.length f).map (pAt ps))
 c:Cs=cvL ls (bt (asQ ls.length rs.length (frQ ls rs ps)) rs' false (ls.length+rs.length+2) (ls.length+rs.length))++cvR ls.length rs (bt (asQ ls.length rs.length (frQ ls rs ps)) rs' false (ls.length+rs.length+2) (ls.length+rs.length))
theorem AnQ.uniq (A:AnQ ls rs ps rs' am f Qs Cs) (A2:AnQ ls rs ps rs2 am2 f2 Q2 C2):Qs=Q2∧Cs=C2:=by
 obtain ⟨rfl,_⟩:=A.L.uniq A2.L
 have e:pP ls.length rs.length ps.length f=pP ls.length rs.length ps.length f2:=by
  refine List.filter_congr fun k hk=>?_
  have hk:=List.mem_range.mp hk
  have h2:ls.length+(rs.length+k)<(asQ ls.length rs.length (frQ ls rs ps)).length:=by rw [Pw.asQ_len,gW]; omega
  have h1:=A.lf.bk _ h2
  rw [A2.lf.bk _ h2] at h1
  rw [Option.some.inj h1]
 rw [A.q,A2.q,A.c,A2.c,e]
 exact ⟨rfl,rfl⟩
theorem mem_use {n k:Nat}:k∈pP a b n f↔k<n∧0<f (a+(b+k)):=by
 unfold pP
 rw [List.mem_filter,List.mem_range,decide_eq_true_eq]
theorem jj (hq:S.get q=some (.obj "Pairs" (paF ls rs ps))) (q1:q<S.nx) (O:PaOk ls rs ps):
  ∃rs' am f Qs Cs x S' p v,AnQ ls rs ps rs' am f Qs Cs∧PaAt S' S.nx x (Qs.map prD) (Cs.map cvD) p v∧Ext S S'∧∀sl,goF aq [.cell q] ⟨sl,S⟩= .ok (.d x) ⟨sl,S'⟩:=by
 have l1:=O.ll
 have l2:=O.rl
 have l3:=O.pl
 have fo:=frQ_ok O
 suffices hh:Wp (bE (pqS q none none none none none none none none none none none none none none S)) (fun fl s' =>∃rs' am f Qs Cs x p v,AnQ ls rs ps rs' am f Qs Cs∧PaAt s'.st S.nx x (Qs.map prD) (Cs.map cvD) p v∧Ext S s'.st∧flv fl=some (.d x)) XF by
  obtain ⟨fl,s',e,rs',am,f,Qs,Cs,x,p,v,h1,h2,h3,h4⟩:=hh.is
  exact ⟨rs',am,f,Qs,Cs,x,s'.st,p,v,h1,h2,h3,fun sl=>lB (by show Wp (bE (pqS q none none none none none none none none none none none none none none S)) _ _; rw [e]; exact ⟨h4,rfl⟩)⟩
 obtain ⟨G12,h12⟩:∃g,g=(bc (zFrz (ef "Paired" aW [] (zA (aN (z1 (cj ["Pairs"] "lefts" 0) (aa 9))) (zA (aa 11) zA0))))):=⟨_,rfl⟩
 obtain ⟨G11,h11⟩:∃g,g=(ai (aD (zM2 isL (oB2 dN) (aa 11) (aL (zLc (fK (aL (z1 (au ["Pairs"] "rights") (aa 0)))) (fT [5,14]) (zB (z2 oIx (aa 10) (z2 bU (aa 1) (aa 5)))) (bY (zA (zC (.int 1)) (zA (aa 14) zA0))) [5,14]))))
 G12):=⟨_,rfl⟩
 obtain ⟨G10,h10⟩:∃g,g=(ai (aB (aN (zLc (fK (aL (z1 (au ["Pairs"] "lefts") (aa 0)))) (fT [5,14]) (dt (zB (z2 oIx (aa 10) (aa 5)))) (bY (zA (zC (.int 0)) (zA (aa 14) zA0))) [5,14])) (zSt 11))
 G11):=⟨_,rfl⟩
 obtain ⟨G9,h9⟩:∃g,g=(ai (aB (aG "Rest" "reached" aY [] (aa 2) (zA (aa 3) zA0)) (zSt 10))
 G10):=⟨_,rfl⟩
 obtain ⟨G8,h8⟩:∃g,g=(ai (aB (zLc (zZip (z1 (au ["Pairs"] "friends") (aa 0)) (aa 6)) (fT [12,13]) (zB (z2 oGt (aG "Rest" "back_of" aS [] (aa 2) (zA (aa 13) zA0)) (zC (.int 0)))) (aa 12) [12,13]) (zSt 9))
 G9):=⟨_,rfl⟩
 obtain ⟨G7,h7⟩:∃g,g=(ai (aD (aG "Rest" "lift" bS [] (aa 2) (zA (aa 3) (zA (aa 4) zA0))))
 G8):=⟨_,rfl⟩
 obtain ⟨G5,h5⟩:∃g,g=(ai (aB (cG zA0) (zSt 6))
 (ai (cK (eS (aL (z1 (au ["Pairs"] "friends") (aa 0)))) (fT [7,8]) (aD (zM2 isL (oB2 aM) (aa 6) (aL (aG "Rest" "put_arc" ak [.int 0] (aa 2) (zA (zM2 isL br (z1 (au ["Pairs"] "lefts") (aa 0)) (aa 7)) (zA (z2 bU (aa 1) (zM2 isL br (z1 (au ["Pairs"] "rights") (aa 0)) (aa 8))) (zA (zC .non) zA0))))))))
 G7)):=⟨_,rfl⟩
 obtain ⟨G4,h4⟩:∃g,g=(ai (cK (jB (zA (z1 bf (z1 (au ["Pairs"] "rights") (aa 0))) zA0)) (zSt 5) (aD (aG "Rest" "put_arc" ak [.int 0] (aa 2) (zA (z2 bU (aa 1) (aa 5)) (zA (aa 4) (zA (zC (.int 1)) zA0))))))
 G5):=⟨_,rfl⟩
 obtain ⟨G3,h3⟩:∃g,g=(ai (cK (jB (zA (aa 1) zA0)) (zSt 5) (aD (aG "Rest" "put_arc" ak [.int 0] (aa 2) (zA (aa 3) (zA (aa 5) (zA (zC (.int 1)) zA0))))))
 G4):=⟨_,rfl⟩
 have e0:bE=(ai (aB (z1 bf (z1 (au ["Pairs"] "lefts") (aa 0))) (zSt 1))
 (ai (aB (ef "Rest" ba [] (zA (z2 bU (z2 bU (aa 1) (z1 bf (z1 (au ["Pairs"] "rights") (aa 0)))) (zC (.int 2))) zA0)) (zSt 2))
 (ai (zPar 3 4 (zA (z2 bU (aa 1) (z1 bf (z1 (au ["Pairs"] "rights") (aa 0)))) (zA (z2 bU (z2 bU (aa 1) (z1 bf (z1 (au ["Pairs"] "rights") (aa 0)))) (zC (.int 1))) zA0)))
 G3))):=by rw [h3,h4,h5,h7,h8,h9,h10,h11,h12]; rfl
 rw [e0]
 clear e0
 refine pa_a hq q1 O fun S1 R1 n1 f1=>?_
 refine pa_b h3 R1 l1 fun v5 S2 R2 n2 f2=>?_
 clear h3
 have E2:Ext S S2:=⟨by omega,fun i hi=>(f2 i hi).trans (f1 i hi)⟩
 refine pa_c h4 ((E2.get _ q1).trans hq) rfl q1 R2 l1 l2 fun v5' S3 R3 n3 f3=>?_
 clear h4
 have E3:Ext S S3:=⟨by omega,fun i hi=>(f3 i hi).trans (E2.get i hi)⟩
 refine pa_d h5 ((E3.get _ q1).trans hq) O q1 rfl rfl R3 fun v7 v8 S4 R4 n4 f4=>?_
 clear h5
 have E4:Ext S S4:=⟨by omega,fun i hi=>(f4 i hi).trans (E3.get i hi)⟩
 rw [←gW (ls:=ls) (rs:=rs) (ps:=ps)] at R4
 refine pa_e (T:=0) h7 fo R4 l1 l2 fun rs' am f L LD R5=>?_
 clear h7
 have E5:Ext S (S4.put (S.nx+2) (.lst (rs'.map rD))):=⟨E4.nx,fun i hi=>(Z.Sto.put_ne (by omega)).trans (E4.get i hi)⟩
 generalize S4.put (S.nx+2) (.lst (rs'.map rD))=S5 at R5 E5
 refine pa_f h8 ((E5.get _ q1).trans hq) gW l3 l1 l2 R5 LD fun v6=>?_
 clear h8
 refine pa_g h9 l1 l2 R5 ?_
 clear h9
 refine pa_h h10 ((E5.get _ q1).trans hq) rfl l1 fun v5=>?_
 clear h10
 obtain ⟨U,hU⟩:∃U,U=bt (asQ ls.length rs.length (frQ ls rs ps)) rs' false (ls.length+rs.length+2) (ls.length+rs.length):=⟨_,rfl⟩
 rw [←hU]
 have E6:Ext S (S5.new (.lst ((cvL ls U).map cvD))):=E5.trans Ext.new
 have g6:(S5.new (.lst ((cvL ls U).map cvD))).get S5.nx=some (.lst ((cvL ls U).map cvD)):=aU
 have m6:(S5.new (.lst ((cvL ls U).map cvD))).nx=S5.nx+1:=mR
 generalize S5.new (.lst ((cvL ls U).map cvD))=S6 at E6 g6 m6
 have n5:=E5.nx
 refine pa_i h11 ((E6.get _ q1).trans hq) rfl l2 rfl l1 g6 fun v5=>?_
 clear h11
 have E7:Ext S (S6.put S5.nx (.lst ((cvL ls U++cvR ls.length rs U).map cvD))):=⟨E6.nx,fun i hi=>(Z.Sto.put_ne (by omega)).trans (E6.get i hi)⟩
 have g7:(S6.put S5.nx (.lst ((cvL ls U++cvR ls.length rs U).map cvD))).get S5.nx=some (.lst ((cvL ls U++cvR ls.length rs U).map cvD)):=Z.Sto.put_same
 have m7:(S6.put S5.nx (.lst ((cvL ls U++cvR ls.length rs U).map cvD))).nx=S6.nx:=put_nx
 generalize S6.put S5.nx (.lst ((cvL ls U++cvR ls.length rs U).map cvD))=S7 at E7 g7 m7
 have hm:∀p∈(pP ls.length rs.length ps.length f).map (pAt ps),p.1∈ls:=fun p hp=>by
  obtain ⟨k,hk,rfl⟩:=List.mem_map.mp hp
  exact (O.pi _ (List.mem_of_getElem? (mL (mem_use.mp hk).1))).1
 have em:(pP ls.length rs.length ps.length f).map (fun k=>prD (pAt ps k))=((pP ls.length rs.length ps.length f).map (pAt ps)).map prD:=by rw [List.map_map]; rfl
 rw [em,h12]
 clear h12
 obtain ⟨x,S',A,E8,hw⟩:=pa_j (v1:=some (.d (nD ls.length))) (v2:=some (.d (.cell S.nx))) (v3:=some (.d (nD (ls.length+rs.length)))) (v4:=some (.d (nD (ls.length+rs.length+1)))) (v5:=v5) (v6:=v6) (v7:=v7) (v8:=v8) (v10:=some (.own (.lst ((List.range (ls.length+rs.length+2)).map fun p=>D.bl (U p))))) (ds:=((pP ls.length rs.length ps.length f).map (pAt ps)).map prD) (B:=S.nx)
  ((E7.get _ q1).trans hq) (Nat.lt_of_lt_of_le q1 E7.nx) g7 (by omega) n5 (fun d hd=>by
   obtain ⟨p,hp,rfl⟩:=List.mem_map.mp hd
   exact ⟨_,lz (hm p hp)⟩)
 refine hw.mono (fun fl s' hh=>?_) fun _ _ _ h=>h
 obtain ⟨e1,rfl⟩:=hh
 rw [srtK_pr hm] at A
 exact ⟨rs',am,f,_,_,x,_,_,⟨L,LD,rfl,by rw [hU]⟩,A,E7.trans E8,e1⟩
end
section
variable {a b:Nat} {ls rs:List Str} {ps:List (Str×Str)} {rs' :List (Option Int)} {f:Nat→Int} {am:Int} {Qs:List (Str×Str)} {Cs:List (Int×Str)}
structure PwOk (ls rs:List Str) (ps Qs:List (Str×Str)) (Cs:List (Int×Str)):Prop where
 qs:∀p∈Qs,p∈ps
 qi:(Qs.map fun p=>(ls.idxOf p.1:Int)).Pairwise (· < ·)
 qr:(Qs.map fun p=>(rs.idxOf p.2:Int)).Nodup
 cl:∀c∈Cs,(c.1=0∧c.2∈ls)∨(c.1=1∧c.2∈rs)
 cn:Cs.Nodup
 cc:∀p∈ps,((0:Int),p.1)∈Cs∨((1:Int),p.2)∈Cs
 n:Qs.length=Cs.length
theorem nm_idx {z:Str} (h:z∈ls):ls.getD (ls.idxOf z) "" =z:=by
 have hi:=List.idxOf_lt_length_of_mem h
 rw [List.getD_eq_getElem?_getD,List.getElem?_eq_getElem hi]
 exact List.getElem_idxOf hi
theorem mS (nd:ls.Nodup) {P:Nat→Bool} {i:Int}:(((List.range ls.length).filter P).map fun p=>(i,ls.getD p "")).Nodup:=by
 rw [List.Nodup,List.pairwise_map]
 refine List.Pairwise.imp_of_mem (fun {x y} hx hy ne e=>ne ?_) (List.Pairwise.filter P List.nodup_range)
 have hx:=List.mem_range.mp (List.mem_filter.mp hx).1
 have hy:=List.mem_range.mp (List.mem_filter.mp hy).1
 injection e with _ e
 rw [List.getD_eq_getElem?_getD,List.getD_eq_getElem?_getD,List.getElem?_eq_getElem hx,List.getElem?_eq_getElem hy] at e
 exact (List.getElem_inj nd).mp e
theorem qe {l:List (Str×Str)}:(srtP ls l).Perm l:=List.mergeSort_perm l _
theorem AnQ.ok (O:PaOk ls rs ps) (A:AnQ ls rs ps rs' am f Qs Cs):PwOk ls rs ps Qs Cs:=by
 have fo:=frQ_ok O
 have fl:=gW (ls:=ls) (rs:=rs) (ps:=ps)
 obtain ⟨js,hjs⟩:∃js,js=pP ls.length rs.length ps.length f:=⟨_,rfl⟩
 have pm:Qs.Perm (js.map (pAt ps)):=by rw [A.q,hjs]; exact qe
 have jn:js.Nodup:=by rw [hjs]; exact List.Pairwise.filter _ List.nodup_range
 have jm:∀k∈js,k<ps.length∧0<f (ls.length+(rs.length+k)):=fun k hk=>mem_use.mp (by rw [←hjs]; exact hk)
 have j1:∀k∈js,f (ls.length+(rs.length+k))=1:=fun k hk=>by
  have:=jm k hk
  rcases Pw.fl01 fo A.lf (j:=k) (by rw [fl]; exact this.1) with e | e
  ·omega
  ·exact e
 have ix:∀k∈js,ls.idxOf (pAt ps k).1=ta (frQ ls rs ps) k∧rs.idxOf (pAt ps k).2=he (frQ ls rs ps) k:=fun k hk=>by
  obtain ⟨e1,e2⟩:=nK (ls:=ls) (rs:=rs) (mL (jm k hk).1)
  exact ⟨e1.symm,e2.symm⟩
 have ap:∀j∈js,∀k∈js,j≠k→ta (frQ ls rs ps) j≠ta (frQ ls rs ps) k∧he (frQ ls rs ps) j≠he (frQ ls rs ps) k:=fun j hj k hk ne=>
  Pw.apart fo A.lf (by rw [fl]; exact (jm j hj).1) (by rw [fl]; exact (jm k hk).1) ne (j1 j hj) (j1 k hk)
 have n1:(Qs.map fun p=>(ls.idxOf p.1:Int)).Nodup:=by
  refine (pm.map _).symm.nodup ?_
  rw [List.map_map,List.Nodup,List.pairwise_map]
  refine List.Pairwise.imp_of_mem (fun {x y} hx hy ne e=>?_) jn
  have e:((ls.idxOf (pAt ps x).1:Nat):Int)=((ls.idxOf (pAt ps y).1:Nat):Int):=e
  rw [(ix x hx).1,(ix y hy).1] at e
  exact (ap x hx y hy ne).1 (by omega)
 refine ⟨fun p hp=>?_, ?_, ?_,fun c hc=>?_, ?_,fun p hp=>?_, ?_⟩
 ·obtain ⟨k,hk,rfl⟩:=List.mem_map.mp (pm.mem_iff.mp hp)
  exact List.mem_of_getElem? (mL (jm k hk).1)
 ·have so:Qs.Pairwise fun p q=>decide ((ls.idxOf p.1:Int)≤(ls.idxOf q.1:Int))=true:=by
   rw [A.q]
   exact List.pairwise_mergeSort (fun a b c h1 h2=>by simp only [decide_eq_true_eq] at*; omega) (fun a b=>by simp only [Bool.or_eq_true,decide_eq_true_eq]; omega) _
  rw [List.Nodup,List.pairwise_map] at n1
  rw [List.pairwise_map]
  refine (so.and n1).imp fun {x y} h=>?_
  have h1:=of_decide_eq_true h.1
  have h2:=h.2
  omega
 ·refine (pm.map _).symm.nodup ?_
  rw [List.map_map,List.Nodup,List.pairwise_map]
  refine List.Pairwise.imp_of_mem (fun {x y} hx hy ne e=>?_) jn
  have e:((rs.idxOf (pAt ps x).2:Nat):Int)=((rs.idxOf (pAt ps y).2:Nat):Int):=e
  rw [(ix x hx).2,(ix y hy).2] at e
  exact (ap x hx y hy ne).2 (by omega)
 ·rw [A.c,List.mem_append] at hc
  rcases hc with hc | hc
  ·obtain ⟨p,hp,rfl⟩:=List.mem_map.mp hc
   have hp:=List.mem_range.mp (List.mem_filter.mp hp).1
   refine .inl ⟨rfl, ?_⟩
   show ls.getD p "" ∈ls
   rw [List.getD_eq_getElem?_getD,List.getElem?_eq_getElem hp]
   exact List.getElem_mem hp
  ·obtain ⟨p,hp,rfl⟩:=List.mem_map.mp hc
   have hp:=List.mem_range.mp (List.mem_filter.mp hp).1
   refine .inr ⟨rfl, ?_⟩
   show rs.getD p "" ∈rs
   rw [List.getD_eq_getElem?_getD,List.getElem?_eq_getElem hp]
   exact List.getElem_mem hp
 ·rw [A.c,List.nodup_append]
  refine ⟨mS O.l,mS O.r,fun x hx y hy e=>?_⟩
  obtain ⟨p,_,rfl⟩:=List.mem_map.mp hx
  obtain ⟨q,_,rfl⟩:=List.mem_map.mp hy
  injection e with e _
  exact absurd e (by decide)
 ·obtain ⟨k,hk⟩:=List.mem_iff_getElem?.mp hp
  have hk2:=(List.getElem?_eq_some_iff.mp hk).1
  obtain ⟨e1,e2⟩:=nK (ls:=ls) (rs:=rs) hk
  obtain ⟨m1,m2⟩:=O.pi p hp
  rw [A.c,List.mem_append,List.mem_append]
  cases u:bt (asQ ls.length rs.length (frQ ls rs ps)) rs' false (ls.length+rs.length+2) (ls.length+rs.length) (ls.idxOf p.1) with
  | false=>
   refine .inl (.inl (List.mem_map.mpr ⟨ls.idxOf p.1,List.mem_filter.mpr ⟨List.mem_range.mpr (List.idxOf_lt_length_of_mem m1),by rw [u]; rfl⟩, ?_⟩))
   show ((0:Int),ls.getD (ls.idxOf p.1) "")=_
   rw [nm_idx m1]
  | true=>
   have c:=Pw.covered fo A.lf (j:=k) (by rw [fl]; exact hk2) (by rw [e1]; exact u)
   rw [e2] at c
   refine .inr (.inr (List.mem_map.mpr ⟨rs.idxOf p.2,List.mem_filter.mpr ⟨List.mem_range.mpr (List.idxOf_lt_length_of_mem m2),c⟩, ?_⟩))
   show ((1:Int),rs.getD (rs.idxOf p.2) "")=_
   rw [nm_idx m2]
 ·have h1:=Pw.all_used fo A.lf
  have h2:=Pw.all_cover fo A.lf
  have h3:=pm.length_eq
  rw [fl] at h1
  have h4:js.length=((List.range ps.length).filter fun j=>decide (0<f (ls.length+(rs.length+j)))).length:=by rw [hjs]; rfl
  have h5:Cs.length=((List.range ls.length).filter fun p=>!bt (asQ ls.length rs.length (frQ ls rs ps)) rs' false (ls.length+rs.length+2) (ls.length+rs.length) p).length+((List.range rs.length).filter fun q=>bt (asQ ls.length rs.length (frQ ls rs ps)) rs' false (ls.length+rs.length+2) (ls.length+rs.length) (ls.length+q)).length:=by
   rw [A.c,List.length_append]
   unfold cvL cvR
   rw [List.length_map,List.length_map]
  rw [List.length_map] at h3
  omega
end
end T

set_option maxHeartbeats 4000000
namespace T
open PySem PySem.Spec PyProof.Rows L2 M Z A
open Classical
section
variable {s:SD} {S:Sto} {sl:List (Option Vl)} {x y:D} {q r B p v fc:Nat} {ls rs:List Str} {ps Qs:List (Str×Str)} {Cs:List (Int×Str)} {v4 v5 v6 v7 v8 v9:Option Vl}
theorem uA (is js:List Int):∀s:SD,neK s (some (.lst (is.map .int))) (some (.lst (js.map .int)))= .ok (.d (.bl (!decide (is=js)))) s:=fun s=>by
 have e:=uS is js
 unfold neK
 simp only [e]
theorem lq {i j:Int}:∀s:SD,neK s (some (.int i)) (some (.int j))= .ok (.d (.bl (!decide (i=j)))) s:=fun s=>by
 unfold neK
 simp only [lH]
theorem hJ {c:Int×Str} (h:Al c.2):lay (cvD c)=true∧dep (cvD c)≤60:=by
 refine ⟨?_, ?_⟩
 ·simp only [cvD,lay,pA,bF h,Bool.and_self]
 ·simp only [cvD,dep,pC]; decide
theorem sO (p q:Int×Str):PyData.eqv (.tuple [.int p.1, .str p.2]) (.tuple [.int q.1, .str q.2])=decide (q=p):=by
 have e:PyData.eqv (.tuple [.int p.1, .str p.2]) (.tuple [.int q.1, .str q.2])=(decide (p.1=q.1)&&(decide (p.2=q.2)&&true)):=by
  simp [PyData.eqv,PyData.eqvAll]
  rfl
 rw [e,Bool.and_true,Bool.eq_iff_iff,Bool.and_eq_true,decide_eq_true_eq,decide_eq_true_eq,decide_eq_true_eq]
 exact ⟨fun ⟨h1,h2⟩=>Prod.ext h1.symm h2.symm,fun h=>by rw [h]; exact ⟨rfl,rfl⟩⟩
theorem kS (cs:List (Int×Str)):gz (cs.map cvD)=cs.map fun q=>PyData.tuple [.int q.1, .str q.2]:=by
 induction cs with
 | nil=>rfl
 | cons q cs ih=>rw [List.map_cons,gz,ih]; rfl
theorem in_cov {cs:List (Int×Str)} {c:Int×Str} {neg:Bool} (hp:Al c.2) (h:∀q∈cs,Al q.2):∀s:SD,nH neg s (some (cvD c)) (some (.lst (cs.map cvD)))= .ok (.d (.bl (if neg then !decide (c∈cs) else decide (c∈cs)))) s:=fun s=>by
 obtain ⟨a1,a2,a3⟩:=fW (hJ hp).1
 have al:=cq (ds:=cs.map cvD) fun d hd=>by
  obtain ⟨q,hq,rfl⟩:=List.mem_map.mp hd
  exact (hJ (h q hq)).1
 have ad:=fm (k:=60) (ds:=cs.map cvD) fun d hd=>by
  obtain ⟨q,hq,rfl⟩:=List.mem_map.mp hd
  exact (hJ (h q hq)).2
 obtain ⟨b1,b2,b3⟩:=cX al
 have e2:=kS cs
 refine si (d:=toP (cvD c)) (xs:=gz (cs.map cvD)) (r:=decide (c∈cs)) a1 ?_ ?_ ?_ ?_
 ·rw [D.py,b1]
 ·unfold SeqAt.shaped
  rw [a2,a3]
  exact decide_eq_true (by have:=(hJ hp).2; omega)
 ·unfold SeqAt.shaped
  rw [PyData.canLay0,PyData.depth,b2,b3]
  exact decide_eq_true (by omega)
 ·rw [e2]
  clear e2 a1 a2 a3 al ad b1 b2 b3 h
  induction cs with
  | nil=>rfl
  | cons q cs ih=>
   rw [List.map_cons,List.any_cons,ih]
   show (PyData.eqv (.tuple [.int q.1, .str q.2]) (.tuple [.int c.1, .str c.2]) || decide (c∈cs))=_
   rw [sO,Bool.eq_iff_iff]
   simp only [Bool.or_eq_true,decide_eq_true_eq,List.mem_cons]
theorem cnt_nd {c:Int×Str}:∀{cs:List (Int×Str)},cs.Nodup→c∈cs→(cs.map fun q=>PyData.tuple [.int q.1, .str q.2]).countP (fun z=>PyData.eqv z (.tuple [.int c.1, .str c.2]))=1
 | [],_,h=>by cases h
 | q::cs,nd,h=>by
  obtain ⟨n1,n2⟩:=List.nodup_cons.mp nd
  rw [List.map_cons,List.countP_cons,sO]
  by_cases e:c=q
  ·subst e
   have z:(cs.map fun q=>PyData.tuple [.int q.1, .str q.2]).countP (fun z=>PyData.eqv z (.tuple [.int c.1, .str c.2]))=0:=by
    rw [List.countP_eq_zero]
    intro d hd
    obtain ⟨r,hr,rfl⟩:=List.mem_map.mp hd
    rw [sO]
    simp only [decide_eq_true_eq]
    intro e
    exact n1 (e ▸ hr)
   rw [z,decide_eq_true rfl]
   rfl
  ·rw [decide_eq_false e,cnt_nd n2 (by rcases List.mem_cons.mp h with h | h; exact absurd h e; exact h)]
   rfl
theorem cnt_cov {cs:List (Int×Str)} {c:Int×Str} (nd:cs.Nodup) (hc:c∈cs) (h:∀q∈cs,Al q.2):∀s:SD,lK s (some (.lst (cs.map cvD))) (some (cvD c))= .ok (.d (.int 1)) s:=fun s=>by
 obtain ⟨a1,a2,a3⟩:=fW (hJ (h c hc)).1
 have al:=cq (ds:=cs.map cvD) fun d hd=>by
  obtain ⟨q,hq,rfl⟩:=List.mem_map.mp hd
  exact (hJ (h q hq)).1
 obtain ⟨b1,b2,b3⟩:=cX al
 have n:=cnt_nd nd hc
 rw [←kS] at n
 have pl:∀cs:List (Int×Str),PyData.plainAll (gz (cs.map cvD))=true:=fun cs=>by
  rw [kS]
  induction cs with
  | nil=>rfl
  | cons q cs ih=>rw [List.map_cons,PyData.plainAll,ih]; rfl
 have q1:(toP (cvD c)).plain=true:=rfl
 have q2:(toP (cvD c)).depth≤60:=by rw [a3]; exact (hJ (h c hc)).2
 unfold lK
 simp only [a1,b1,pl,q1,q2,and_self,if_true]
 have n:(gz (cs.map cvD)).countP (fun z=>PyData.eqv z (toP (cvD c)))=1:=n
 rw [n]
 rfl
theorem kq:∀is:List Int,ly (is.map .int)=some (is.map .inl)
 | []=>rfl
 | i::is=>by
  rw [List.map_cons,ly,kq is]
  rfl
theorem pb {is:List Int} (nd:is.Nodup) (hl:is.length≤4000):∀s:SD,ja s (some (.lst (is.map .int)))= .ok (.d (.int (is.length:Nat))) s:=fun s=>by
 have nk:(is.map (Sum.inl:Int→Key)).Nodup:=by
  rw [List.Nodup,List.pairwise_map]
  exact List.Pairwise.imp (fun ne e=>ne (Sum.inl.inj e)) nd
 unfold ja
 simp only [kq,List.length_map,hl,if_true]
 rw [tq nk _ (by rw [List.length_map]; exact Nat.le_refl _)]
abbrev pkS (x:D) (ls rs:List Str) (fc:Nat) (v4 v5 v6 v7 v8 v9:Option Vl) (S:Sto):SD:=
 ⟨[some (.d x),some (.d (.lst (ls.map .str))),some (.d (.lst (rs.map .str))),some (.d (.cell fc)),v4,v5,v6,v7,v8,v9],S⟩
abbrev paD (p v:Nat):D:= .obj "Paired" [("pairs", .cell p),("cover", .cell v)]
theorem pd_p:bI ([("pairs", .cell p),("cover", .cell v)]:List (Str×D)) "pairs" =some (.cell p):=rfl
theorem tP:bI ([("pairs", .cell p),("cover", .cell v)]:List (Str×D)) "cover" =some (.cell v):=rfl
theorem pk_a {G B0:SD→R Fl} (hB:B0=(ai (bJ (zOr (dt (zB (z1 (px is_Paired false) (aa 0)))) (zOr (dt (zB (z1 (gk .list) (z1 (au ["Paired"] "pairs") (aa 0))))) (dt (zB (z1 (gk .list) (z1 (au ["Paired"] "cover") (aa 0))))))) (bc (zC (.bl false))) aC)
 (ai (cK (eS (aL (z1 (au ["Paired"] "pairs") (aa 0)))) (zSt 4) (bJ (zOr (dt (zB (z1 (gk .tuple) (aa 4)))) (zB (z2 (iY true) (aa 4) (aa 3)))) (bc (zC (.bl false))) aC))
 G))) {Q:Fl→SD→Prop} (A:PaAt S B x (Qs.map prD) (Cs.map cvD) p v) (W:PwOk ls rs ps Qs Cs) (O:PaOk ls rs ps) (hf:S.get fc=some (.lst (ps.map prD)))
  (h:∀v4,Wp (G (pkS (paD p v) ls rs fc v4 none none none none none S)) Q XF):Wp (B0 (pkS (paD p v) ls rs fc none none none none none none S)) Q XF:=by
 subst hB
 have ic:∀s:SD,px is_Paired false (.d (paD p v)) s= .ok (.d (.bl true)) s:=fun _=>rfl
 have itp:∀sl:List (Option Vl),pB (.d (.cell p)) ⟨sl,S⟩= .ok ⟨[.d (.cell p)],fun s=>s.st.get p=some (.lst (Qs.map prD)),Qs.map prD⟩ ⟨sl,S⟩:=fun sl=>fj (s:=⟨sl,S⟩) A.hp
 have ap:=A.hp
 have av:=A.hv
 simp! only [ic,ah pd_p,ah tP,ap,av,itp]
 rw [ae]
 refine fP (fun j s' =>∃v4,s' =pkS (paD p v) ls rs fc v4 none none none none none S) Nl.d1 (fun _ _ ⟨_,e⟩=>by rw [e]; exact ap) ⟨none,rfl⟩ (fun j y s' ey hI=>?_) (fun s' hI=>?_)
 ·obtain ⟨v4,rfl⟩:=hI
  have ey:(Qs.map prD)[j]? =some y:=ey
  rw [List.getElem?_map] at ey
  cases eq:Qs[j]? with
  | none=>rw [eq] at ey; cases ey
  | some z=>
   rw [eq] at ey
   cases ey
   have hz:=W.qs z (List.mem_of_getElem? eq)
   have al:∀q∈ps,Al q.1∧Al q.2:=fun q hq=>⟨(O.ln _ (O.pi q hq).1).1,(O.rn _ (O.pi q hq).2).1⟩
   have i1:=jd (neg:=true) (al z hz) al
   rw [decide_eq_true hz] at i1
   have i1:∀s:SD,nH true s (some (.tup [.str z.1, .str z.2])) (some (.lst (ps.map prD)))= .ok (.d (.bl false)) s:=i1
   have c1:∀s:SD,s.cont (.d (prD z))=some (.tup [.str z.1, .str z.2]):=fun _=>rfl
   simp! only [c1,oO,hf,i1]
   exact ⟨_,rfl⟩
 ·obtain ⟨v4,rfl⟩:=hI
  simp! only []
  exact h v4
theorem pk_b {G B0:SD→R Fl} (hB:B0=(ai (aB (zLc (eS (aL (z1 (au ["Paired"] "pairs") (aa 0)))) (zSt 4) fH (zM2 isL br (aa 1) (z2 oIx (aa 4) (zC (.int 0)))) [4]) (zSt 5))
 (ai (aB (zLc (eS (aL (z1 (au ["Paired"] "pairs") (aa 0)))) (zSt 4) fH (zM2 isL br (aa 2) (z2 oIx (aa 4) (zC (.int 1)))) [4]) (zSt 6))
 (ai (bJ (zOr (zB (z2 oNe (aa 5) (z1 bQ (aa 5)))) (zB (z2 oNe (z1 dF (aa 6)) (z1 bf (aa 6))))) (bc (zC (.bl false))) aC)
 G)))) {Q:Fl→SD→Prop} (A:PaAt S B x (Qs.map prD) (Cs.map cvD) p v) (W:PwOk ls rs ps Qs Cs) (O:PaOk ls rs ps) (hl:Qs.length≤14)
  (h:∀v5 v6,Wp (G (pkS (paD p v) ls rs fc none v5 v6 none none none S)) Q XF):Wp (B0 (pkS (paD p v) ls rs fc v4 none none none none none S)) Q XF:=by
 subst hB
 have hs:(5000:Nat)<sizeLine:=by decide
 have itp:∀sl:List (Option Vl),pB (.d (.cell p)) ⟨sl,S⟩= .ok ⟨[.d (.cell p)],fun s=>s.st.get p=some (.lst (Qs.map prD)),Qs.map prD⟩ ⟨sl,S⟩:=fun sl=>fj (s:=⟨sl,S⟩) A.hp
 have ap:=A.hp
 have e1:(Qs.map fun q=>D.int (ls.idxOf q.1:Int))=(Qs.map fun q=>(ls.idxOf q.1:Int)).map D.int:=by rw [List.map_map]; rfl
 have e2:(Qs.map fun q=>D.int (rs.idxOf q.2:Int))=(Qs.map fun q=>(rs.idxOf q.2:Int)).map D.int:=by rw [List.map_map]; rfl
 have c1:∀(z:Str×Str) (s:SD),s.cont (.d (prD z))=some (.tup [.str z.1, .str z.2]):=fun _ _=>rfl
 have j1:∀(z:Str×Str) (s:SD),ixK s (some (.tup [.str z.1, .str z.2])) (some (.int 0))= .ok (.d (.str z.1)) s:=fun _ _=>rfl
 have j2:∀(z:Str×Str) (s:SD),ixK s (some (.tup [.str z.1, .str z.2])) (some (.int 1))= .ok (.d (.str z.2)) s:=fun _ _=>rfl
 simp! only [ah pd_p,itp]
 rw [gS (l:=Qs) prD (fun q=>D.int (ls.idxOf q.1:Int)) rfl rfl Nl.d1 ap (fun z hz=>?_) (by omega)]
 ·simp! only [ah pd_p,itp]
  rw [gS (l:=Qs) prD (fun q=>D.int (rs.idxOf q.2:Int)) rfl rfl Nl.d1 ap (fun z hz=>?_) (by omega)]
  ·rw [e1,e2]
   have d1:fQ ((Qs.map fun q=>(ls.idxOf q.1:Int)).map D.int)=some (Qs.map fun q=>(ls.idxOf q.1:Int)):=pd _
   have st:∀(v6:Option Vl),bQ (.loc 5) (pkS (paD p v) ls rs fc none (some (.own (.lst ((Qs.map fun q=>(ls.idxOf q.1:Int)).map D.int)))) v6 none none none S)= .ok (.own (.lst ((Qs.map fun q=>(ls.idxOf q.1:Int)).map D.int))) (pkS (paD p v) ls rs fc none (some (.own (.lst ((Qs.map fun q=>(ls.idxOf q.1:Int)).map D.int)))) v6 none none none S):=fun v6=>by
    rw [pM (ns:=Qs.map fun q=>(ls.idxOf q.1:Int)) (ds:=(Qs.map fun q=>(ls.idxOf q.1:Int)).map D.int) rfl d1 (by rw [List.length_map]; omega),stI_id W.qi]
   have ns:=uA (Qs.map fun q=>(ls.idxOf q.1:Int)) (Qs.map fun q=>(ls.idxOf q.1:Int))
   rw [decide_eq_true rfl] at ns
   have lsn:=pb (is:=Qs.map fun q=>(rs.idxOf q.2:Int)) W.qr (by rw [List.length_map]; omega)
   have ln:((Qs.map fun q=>(rs.idxOf q.2:Int)).map D.int).length=(Qs.map fun q=>(rs.idxOf q.2:Int)).length:=List.length_map _
   simp! only [st,ns,lsn,ln,lq]
   exact h _ _
  ·have ix:=je (O.pi z (W.qs z hz)).2
   unfold Z.iG
   simp! only [c1,j2,kR,ix]
 ·have ix:=je (O.pi z (W.qs z hz)).1
  unfold Z.iG
  simp! only [c1,j1,kR,ix]
theorem pk_c {G B0:SD→R Fl} (hB:B0=(ai (cK (eS (aL (z1 (au ["Paired"] "cover") (aa 0)))) (zSt 7) (ai (bJ (zOr (dt (zB (z1 (gk .tuple) (aa 7)))) (zOr (zB (z2 oNe (z1 bf (aa 7)) (zC (.int 2)))) (zOr (zB (z1 (gk .bool) (z2 oIx (aa 7) (zC (.int 0))))) (zB (z2 (oIn true) (z2 oIx (aa 7) (zC (.int 0))) (bY (zA (zC (.int 0)) (zA (zC (.int 1)) zA0)))))))) (bc (zC (.bl false))) aC)
 (bJ (zOr (zB (z2 (oIn true) (z2 oIx (aa 7) (zC (.int 1))) (z2 oIx (cG (zA (aa 1) (zA (aa 2) zA0))) (z2 oIx (aa 7) (zC (.int 0)))))) (zB (z2 oGt (zM2 isL dG (z1 (au ["Paired"] "cover") (aa 0)) (aa 7)) (zC (.int 1))))) (bc (zC (.bl false))) aC)))
 G)) {Q:Fl→SD→Prop} (A:PaAt S B x (Qs.map prD) (Cs.map cvD) p v) (W:PwOk ls rs ps Qs Cs) (O:PaOk ls rs ps)
  (h:∀v7,Wp (G (pkS (paD p v) ls rs fc v4 v5 v6 v7 none none S)) Q XF):Wp (B0 (pkS (paD p v) ls rs fc v4 v5 v6 none none none S)) Q XF:=by
 subst hB
 have itv:∀sl:List (Option Vl),pB (.d (.cell v)) ⟨sl,S⟩= .ok ⟨[.d (.cell v)],fun s=>s.st.get v=some (.lst (Cs.map cvD)),Cs.map cvD⟩ ⟨sl,S⟩:=fun sl=>fj (s:=⟨sl,S⟩) A.hv
 have av:=A.hv
 simp! only [ah tP,itv]
 rw [ae]
 refine fP (fun j s' =>∃v7,s' =pkS (paD p v) ls rs fc v4 v5 v6 v7 none none S) Nl.d1 (fun _ _ ⟨_,e⟩=>by rw [e]; exact av) ⟨none,rfl⟩ (fun j y s' ey hI=>?_) (fun s' hI=>?_)
 ·obtain ⟨v7,rfl⟩:=hI
  have ey:(Cs.map cvD)[j]? =some y:=ey
  rw [List.getElem?_map] at ey
  cases eq:Cs[j]? with
  | none=>rw [eq] at ey; cases ey
  | some c=>
   rw [eq] at ey
   cases ey
   have hc:=List.mem_of_getElem? eq
   have al:∀q∈Cs,Al q.2:=fun q hq=>by
    rcases W.cl q hq with ⟨_,h⟩ | ⟨_,h⟩
    ·exact (O.ln _ h).1
    ·exact (O.rn _ h).1
   have cn:=cnt_cov W.cn hc al
   have cn:∀s:SD,lK s (some (.lst (Cs.map cvD))) (some (.tup [.int c.1, .str c.2]))= .ok (.d (.int 1)) s:=cn
   have c1:∀s:SD,s.cont (.d (cvD c))=some (.tup [.int c.1, .str c.2]):=fun _=>rfl
   have j1:∀(s:SD),ixK s (some (.tup [.int c.1, .str c.2])) (some (.int 0))= .ok (.d (.int c.1)) s:=fun _=>rfl
   have j2:∀(s:SD),ixK s (some (.tup [.int c.1, .str c.2])) (some (.int 1))= .ok (.d (.str c.2)) s:=fun _=>rfl
   have l2:∀s:SD,lenK s (some (.tup [.int c.1, .str c.2]))= .ok (.d (.int 2)) s:=fun _=>rfl
   have b1:((1:Int) > 1)=False:=by decide
   rcases W.cl c hc with ⟨e,m⟩ | ⟨e,m⟩
   ·have t1:∀s:SD,inK true s (some (.int 0)) (some (.tup [.int 0, .int 1]))= .ok (.d (.bl false)) s:=fun s=>fX (neg:=true) (r:=true) rfl
    have t2:∀s:SD,inK true s (some (.str c.2)) (some (.lst (ls.map .str)))= .ok (.d (.bl false)) s:=fun s=>fX (neg:=true) (r:=true) (by rw [fk]; exact congrArg some (decide_eq_true m))
    have t3:∀s:SD,ixK s (some (.lst [.lst (ls.map .str), .lst (rs.map .str)])) (some (.int 0))= .ok (.d (.lst (ls.map .str))) s:=fun _=>rfl
    rw [e] at c1 j1 j2 l2 cn
    simp! only [c1,j1,j2,l2,ah tP,av,mc,cn,t1,t2,t3,lq,b1]
    exact ⟨_,rfl⟩
   ·have t1:∀s:SD,inK true s (some (.int 1)) (some (.tup [.int 0, .int 1]))= .ok (.d (.bl false)) s:=fun s=>fX (neg:=true) (r:=true) rfl
    have t2:∀s:SD,inK true s (some (.str c.2)) (some (.lst (rs.map .str)))= .ok (.d (.bl false)) s:=fun s=>fX (neg:=true) (r:=true) (by rw [fk]; exact congrArg some (decide_eq_true m))
    have t3:∀s:SD,ixK s (some (.lst [.lst (ls.map .str), .lst (rs.map .str)])) (some (.int 1))= .ok (.d (.lst (rs.map .str))) s:=fun _=>rfl
    rw [e] at c1 j1 j2 l2 cn
    simp! only [c1,j1,j2,l2,ah tP,av,mc,cn,t1,t2,t3,lq,b1]
    exact ⟨_,rfl⟩
 ·obtain ⟨v7,rfl⟩:=hI
  simp! only []
  exact h v7
theorem pk_d {B0:SD→R Fl} (hB:B0=(ai (cK (eS (aL (aa 3))) (fT [8,9]) (bJ (kP (zB (z2 (iY true) (bY (zA (zC (.int 0)) (zA (aa 8) zA0))) (z1 (au ["Paired"] "cover") (aa 0)))) (zB (z2 (iY true) (bY (zA (zC (.int 1)) (zA (aa 9) zA0))) (z1 (au ["Paired"] "cover") (aa 0))))) (bc (zC (.bl false))) aC))
 (bc (z2 oEq (z1 bf (z1 (au ["Paired"] "pairs") (aa 0))) (z1 bf (z1 (au ["Paired"] "cover") (aa 0))))))) (A:PaAt S B x (Qs.map prD) (Cs.map cvD) p v) (W:PwOk ls rs ps Qs Cs) (O:PaOk ls rs ps) (hf:S.get fc=some (.lst (ps.map prD))):
  Wp (B0 (pkS (paD p v) ls rs fc v4 v5 v6 v7 none none S)) (fun fl s' =>flv fl=some (.d (.bl true))∧s'.st=S) XF:=by
 subst hB
 have itf:∀sl:List (Option Vl),pB (.d (.cell fc)) ⟨sl,S⟩= .ok ⟨[.d (.cell fc)],fun s=>s.st.get fc=some (.lst (ps.map prD)),ps.map prD⟩ ⟨sl,S⟩:=fun sl=>fj (s:=⟨sl,S⟩) hf
 have ap:=A.hp
 have av:=A.hv
 have al:∀q∈Cs,Al q.2:=fun q hq=>by
  rcases W.cl q hq with ⟨_,h⟩ | ⟨_,h⟩
  ·exact (O.ln _ h).1
  ·exact (O.rn _ h).1
 simp! only [itf]
 rw [ae]
 refine fP (fun j s' =>∃v8 v9,s' =pkS (paD p v) ls rs fc v4 v5 v6 v7 v8 v9 S) Nl.d1 (fun _ _ ⟨_,_,e⟩=>by rw [e]; exact hf) ⟨none,none,rfl⟩ (fun j y s' ey hI=>?_) (fun s' hI=>?_)
 ·obtain ⟨v8,v9,rfl⟩:=hI
  have ey:(ps.map prD)[j]? =some y:=ey
  rw [List.getElem?_map] at ey
  cases eq:ps[j]? with
  | none=>rw [eq] at ey; cases ey
  | some z=>
   rw [eq] at ey
   cases ey
   have hz:=List.mem_of_getElem? eq
   obtain ⟨m1,m2⟩:=O.pi z hz
   have c1:∀s:SD,s.cont (.d (prD z))=some (.tup [.str z.1, .str z.2]):=fun _=>rfl
   have i1:=in_cov (neg:=true) (c:=(0,z.1)) (O.ln _ m1).1 al
   have i2:=in_cov (neg:=true) (c:=(1,z.2)) (O.rn _ m2).1 al
   have i1:∀s:SD,nH true s (some (.tup [.int 0, .str z.1])) (some (.lst (Cs.map cvD)))= .ok (.d (.bl (!decide (((0:Int),z.1)∈Cs)))) s:=i1
   have i2:∀s:SD,nH true s (some (.tup [.int 1, .str z.2])) (some (.lst (Cs.map cvD)))= .ok (.d (.bl (!decide (((1:Int),z.2)∈Cs)))) s:=i2
   by_cases h1:((0:Int),z.1)∈Cs
   ·rw [decide_eq_true h1] at i1
    simp! only [c1,oO,ah tP,av,i1]
    exact ⟨_,_,rfl⟩
   ·have h2:=(W.cc z hz).resolve_left h1
    rw [decide_eq_true h2] at i2
    rw [decide_eq_false h1] at i1
    simp! only [c1,oO,ah tP,av,i1,i2]
    exact ⟨_,_,rfl⟩
 ·obtain ⟨v8,v9,rfl⟩:=hI
  have ll:((((Qs.map prD).length:Nat):Int)=(((Cs.map cvD).length:Nat):Int))=True:=eq_true (by rw [List.length_map,List.length_map,W.n])
  simp! only [ah pd_p,ah tP,ap,av,ll]
theorem sF (A:PaAt S B x (Qs.map prD) (Cs.map cvD) p v) (W:PwOk ls rs ps Qs Cs) (O:PaOk ls rs ps) (hf:S.get fc=some (.lst (ps.map prD))) (hl:Qs.length≤14):
  goF dw [x, .lst (ls.map .str), .lst (rs.map .str), .cell fc] ⟨sl,S⟩= .ok (.d (.bl true)) ⟨sl,S⟩:=by
 have ax:=A.hx
 refine lB ?_
 show Wp (fD ⟨[some (.d x),some (.d (.lst (ls.map .str))),some (.d (.lst (rs.map .str))),some (.d (.cell fc)),none,none,none,none,none,none],S⟩) _ _
 rw [ax]
 show Wp (fD (pkS (paD p v) ls rs fc none none none none none none S)) _ _
 obtain ⟨G6,h6⟩:∃g,g=(ai (cK (eS (aL (aa 3))) (fT [8,9]) (bJ (kP (zB (z2 (iY true) (bY (zA (zC (.int 0)) (zA (aa 8) zA0))) (z1 (au ["Paired"] "cover") (aa 0)))) (zB (z2 (iY true) (bY (zA (zC (.int 1)) (zA (aa 9) zA0))) (z1 (au ["Paired"] "cover") (aa 0))))) (bc (zC (.bl false))) aC))
 (bc (z2 oEq (z1 bf (z1 (au ["Paired"] "pairs") (aa 0))) (z1 bf (z1 (au ["Paired"] "cover") (aa 0)))))):=⟨_,rfl⟩
 obtain ⟨G5,h5⟩:∃g,g=(ai (cK (eS (aL (z1 (au ["Paired"] "cover") (aa 0)))) (zSt 7) (ai (bJ (zOr (dt (zB (z1 (gk .tuple) (aa 7)))) (zOr (zB (z2 oNe (z1 bf (aa 7)) (zC (.int 2)))) (zOr (zB (z1 (gk .bool) (z2 oIx (aa 7) (zC (.int 0))))) (zB (z2 (oIn true) (z2 oIx (aa 7) (zC (.int 0))) (bY (zA (zC (.int 0)) (zA (zC (.int 1)) zA0)))))))) (bc (zC (.bl false))) aC)
 (bJ (zOr (zB (z2 (oIn true) (z2 oIx (aa 7) (zC (.int 1))) (z2 oIx (cG (zA (aa 1) (zA (aa 2) zA0))) (z2 oIx (aa 7) (zC (.int 0)))))) (zB (z2 oGt (zM2 isL dG (z1 (au ["Paired"] "cover") (aa 0)) (aa 7)) (zC (.int 1))))) (bc (zC (.bl false))) aC)))
 G6):=⟨_,rfl⟩
 obtain ⟨G2,h2⟩:∃g,g=(ai (aB (zLc (eS (aL (z1 (au ["Paired"] "pairs") (aa 0)))) (zSt 4) fH (zM2 isL br (aa 1) (z2 oIx (aa 4) (zC (.int 0)))) [4]) (zSt 5))
 (ai (aB (zLc (eS (aL (z1 (au ["Paired"] "pairs") (aa 0)))) (zSt 4) fH (zM2 isL br (aa 2) (z2 oIx (aa 4) (zC (.int 1)))) [4]) (zSt 6))
 (ai (bJ (zOr (zB (z2 oNe (aa 5) (z1 bQ (aa 5)))) (zB (z2 oNe (z1 dF (aa 6)) (z1 bf (aa 6))))) (bc (zC (.bl false))) aC)
 G5))):=⟨_,rfl⟩
 obtain ⟨G0,h0⟩:∃g,g=(ai (bJ (zOr (dt (zB (z1 (px is_Paired false) (aa 0)))) (zOr (dt (zB (z1 (gk .list) (z1 (au ["Paired"] "pairs") (aa 0))))) (dt (zB (z1 (gk .list) (z1 (au ["Paired"] "cover") (aa 0))))))) (bc (zC (.bl false))) aC)
 (ai (cK (eS (aL (z1 (au ["Paired"] "pairs") (aa 0)))) (zSt 4) (bJ (zOr (dt (zB (z1 (gk .tuple) (aa 4)))) (zB (z2 (iY true) (aa 4) (aa 3)))) (bc (zC (.bl false))) aC))
 G2)):=⟨_,rfl⟩
 have e0:fD=G0:=by rw [h0,h2,h5,h6]; rfl
 rw [e0]
 clear e0
 refine pk_a h0 A W O hf fun v4=>?_
 refine pk_b h2 A W O hl fun v5 v6=>?_
 refine pk_c h5 A W O fun v7=>?_
 exact pk_d h6 A W O hf
end
section
variable {s:SD} {S S' S1:Sto} {sl:List (Option Vl)} {x y:D} {q r a b p v fc:Nat} {ls rs:List Str} {ps Qs:List (Str×Str)} {Cs:List (Int×Str)} {v3 v4 v5 v6 v7 v8 v9:Option Vl} {rs' :List (Option Int)} {am:Int} {f:Nat→Int}
abbrev ib (Qs:List (Str×Str)) (Cs:List (Int×Str)):D:= .tup [.lst (Qs.map prD), .lst (Cs.map cvD)]
theorem rC {α:Type} {g:α→D} {l:List α} (h:∀c∈l,lay (g c)=true∧dep (g c)≤2):lay (.lst (l.map g))=true∧dep (.lst (l.map g))≤3:=by
 rw [lay,dep]
 refine ⟨cq fun d hd=>?_, ?_⟩
 ·obtain ⟨i,hi,rfl⟩:=List.mem_map.mp hd; exact (h i hi).1
 ·have:=fm (k:=2) (ds:=l.map g) fun d hd=>by
   obtain ⟨i,hi,rfl⟩:=List.mem_map.mp hd; exact (h i hi).2
  omega
theorem qZ (W:PwOk ls rs ps Qs Cs) (O:PaOk ls rs ps) (hp:S.get p=some (.lst (Qs.map prD))) (hv:S.get v=some (.lst (Cs.map cvD))):
  ∀sl,neSK ⟨sl,S⟩ (some (.tup [.cell p, .cell v])) (some (ib Qs Cs))= .ok (.d (.bl false)) ⟨sl,S⟩:=fun sl=>by
 have a1:=rC (l:=Qs) (g:=prD) fun c hc=>⟨by
  have h1:=(O.ln _ (O.pi c (W.qs c hc)).1).1
  have h2:=(O.rn _ (O.pi c (W.qs c hc)).2).1
  simp only [prD,lay,pA,bF h1,bF h2,Bool.and_self],by simp only [prD,dep,pC]; decide⟩
 have a2:=rC (l:=Cs) (g:=cvD) fun c hc=>⟨by
  have h1:Al c.2:=by
   rcases W.cl c hc with ⟨_,h⟩ | ⟨_,h⟩
   ·exact (O.ln _ h).1
   ·exact (O.rn _ h).1
  simp only [cvD,lay,pA,bF h1,Bool.and_self],by simp only [cvD,dep,pC]; decide⟩
 have al:lay (ib Qs Cs)=true:=by
  show lay (.tup _)=true
  rw [lay]
  refine cq fun d hd=>?_
  rcases List.mem_cons.mp hd with rfl | hd
  ·exact a1.1
  ·rw [List.mem_singleton.mp hd]; exact a2.1
 have ad:dep (ib Qs Cs)≤4:=by
  show dep (.tup _)≤4
  rw [dep]
  have:=fm (k:=3) (ds:= [.lst (Qs.map prD), .lst (Cs.map cvD)]) fun d hd=>by
   rcases List.mem_cons.mp hd with rfl | hd
   ·exact a1.2
   ·rw [List.mem_singleton.mp hd]; exact a2.2
  omega
 obtain ⟨p1,_,_⟩:=fW a1.1
 obtain ⟨p2,_,_⟩:=fW a2.1
 obtain ⟨k1,k2,k3⟩:=fW al
 have sh:SeqAt.shaped (toP (ib Qs Cs))=true:=by
  unfold SeqAt.shaped
  rw [k2,k3]
  exact decide_eq_true (by omega)
 have ek:toP (ib Qs Cs)= .tuple [toP (.lst (Qs.map prD)),toP (.lst (Cs.map cvD))]:=rfl
 have ec:cY S [.cell p, .cell v]=some [toP (.lst (Qs.map prD)),toP (.lst (Cs.map cvD))]:=by
  have e1:ox S (.cell p)=some (toP (.lst (Qs.map prD))):=by
   show (match S.get p with | some x=>x.py | none=>none)=_
   rw [hp]
   exact p1
  have e2:ox S (.cell v)=some (toP (.lst (Cs.map cvD))):=by
   show (match S.get v with | some x=>x.py | none=>none)=_
   rw [hv]
   exact p2
  unfold cY cY cY
  simp only [e1,e2]
 rw [ek] at sh k1
 exact neSK_ok (s:=⟨sl,S⟩) (r:=true) ec k1 sh sh (nS _ (SeqAt.canLay_of_shaped sh))
abbrev bq (S:Sto) (ls rs:List Str) (ps:List (Str×Str)):Sto:=((S.new (.lst (ls.map .str))).new (.lst (rs.map .str))).new (.lst (ps.map prD))
theorem three (S:Sto) (ls rs:List Str) (ps:List (Str×Str)):(bq S ls rs ps).nx=S.nx+3∧(bq S ls rs ps).get S.nx=some (.lst (ls.map .str))∧(bq S ls rs ps).get (S.nx+1)=some (.lst (rs.map .str))∧(bq S ls rs ps).get (S.nx+2)=some (.lst (ps.map prD))∧Ext S (bq S ls rs ps):=by
 have n1:(S.new (.lst (ls.map .str))).nx=S.nx+1:=rfl
 have n2:((S.new (.lst (ls.map .str))).new (.lst (rs.map .str))).nx=S.nx+2:=rfl
 refine ⟨rfl, ?_, ?_, ?_,(Ext.new.trans Ext.new).trans Ext.new⟩
 ·rw [bV (by rw [n2]; omega),bV (by rw [n1]; omega)]
  exact aU
 ·rw [bV (by rw [n2]; omega)]
  have:=aU (S:=S.new (.lst (ls.map .str))) (x:= .lst (rs.map .str))
  rw [n1] at this
  exact this
 ·have:=aU (S:=(S.new (.lst (ls.map .str))).new (.lst (rs.map .str))) (x:= .lst (ps.map prD))
  rw [n2] at this
  exact this
abbrev akS (ls rs:List Str) (fc:Nat) (v3 v4 v5 v6 v7 v8 v9:Option Vl) (S:Sto):SD:=
 ⟨[some (.d (.lst (ls.map .str))),some (.d (.lst (rs.map .str))),some (.d (.cell fc)),v3,v4,v5,v6,v7,v8,v9],S⟩
theorem isQP {sl:List (Option Vl)} {k:Str} {F:List (Str×D)} (hq:S.get q=some (.obj k F)) (hk:is_Question k=some true):px is_Question false (.d (.cell q)) ⟨sl,S⟩= .ok (.d (.bl true)) ⟨sl,S⟩:=by
 have e:SD.cont ⟨sl,S⟩ (.d (.cell q))=some (.obj k F):=hq
 unfold px
 rw [e]
 show (match is_Question k with | some b=>_ | none=>_)=_
 rw [hk]
theorem ak_a {G B0:SD→R Fl} (hB:B0=(ai (aB (bY (zA (aN (z1 aZ (aa 0))) (zA (aN (z1 aZ (aa 1))) (zA (aN (z1 aZ (aa 2))) zA0)))) (zSt 3))
 (ai (aB (ef "Pairs" aw [] (zA (z2 oIx (aa 3) (zC (.int 0))) (zA (z2 oIx (aa 3) (zC (.int 1))) (zA (z2 oIx (aa 3) (zC (.int 2))) zA0)))) (zSt 4))
 (ai (cK (oM (aL (aa 3))) (zSt 5) (aD (z1 (oB1 dO) (aa 5))))
 G)))) {Q:Fl→SD→Prop} (O:PaOk ls rs ps) (hf:S.get fc=some (.lst (ps.map prD))) (f1:fc<S.nx)
  (h:∀v3 v5 S1,Ext S S1→S1.get (S.nx+3)=some (.obj "Pairs" (paF ls rs ps))→S.nx+3<S1.nx→Wp (G (akS ls rs fc v3 (some (.d (.cell (S.nx+3)))) v5 none none none none S1)) Q XF):Wp (B0 (akS ls rs fc none none none none none none none S)) Q XF:=by
 subst hB
 obtain ⟨n1,g1,g2,g3,E1⟩:=three S ls rs ps
 have hf1:∀y,(S.new y).get fc=some (.lst (ps.map prD)):=fun y=>(bV (Nat.ne_of_lt f1)).trans hf
 have hf2:∀y z,((S.new y).new z).get fc=some (.lst (ps.map prD)):=fun y z=>(bV (Nat.ne_of_lt (Nat.lt_succ_of_lt f1))).trans (hf1 y)
 have c1:(S.new (.lst (ls.map .str))).nx=S.nx+1:=rfl
 have c2:((S.new (.lst (ls.map .str))).new (.lst (rs.map .str))).nx=S.nx+2:=rfl
 have ei:=fun sl=>nf (sl:=sl) (S:=bq S ls rs ps) (i:=(bq S ls rs ps).nx) (F:=aw) fun s=>sE (sl:=s.sl) O g1 g2 g3 (by rw [n1]; omega) (by rw [n1]; omega) (by rw [n1]; omega)
 obtain ⟨S2,hS2⟩:∃S2,S2=(bq S ls rs ps).new (.obj "Pairs" (paF ls rs ps)):=⟨_,rfl⟩
 have q2:S2.get (S.nx+3)=some (.obj "Pairs" (paF ls rs ps)):=by
  have:=aU (S:=bq S ls rs ps) (x:= .obj "Pairs" (paF ls rs ps))
  rw [n1] at this
  rw [hS2]; exact this
 have n2:S2.nx=S.nx+4:=by rw [hS2,mR,n1]
 have E2:Ext (bq S ls rs ps) S2:=by rw [hS2]; exact Ext.new
 have i0:∀(a b c:D) (s:SD),ixK s (some (.tup [a,b,c])) (some (.int 0))= .ok (.d a) s:=fun _ _ _ _=>rfl
 have i1:∀(a b c:D) (s:SD),ixK s (some (.tup [a,b,c])) (some (.int 1))= .ok (.d b) s:=fun _ _ _ _=>rfl
 have i2:∀(a b c:D) (s:SD),ixK s (some (.tup [a,b,c])) (some (.int 2))= .ok (.d c) s:=fun _ _ _ _=>rfl
 rw [←hS2] at ei
 have ei:∀sl,mkR (S.nx+3) ⟨sl,bq S ls rs ps⟩ (aw [.cell (S.nx+3), .cell S.nx, .cell (S.nx+1), .cell (S.nx+2)] ((bq S ls rs ps).new (.obj "Pairs" [])))= .ok (.d (.cell (S.nx+3))) ⟨sl,S2⟩:=ei
 simp! only [hf1,hf2,c1,c2,i0,i1,i2,n1,ei]
 rw [ae]
 refine fP (fun j s' =>∃v5 S3,s' =akS ls rs fc (some (.d (.tup [.cell S.nx, .cell (S.nx+1), .cell (S.nx+2)]))) (some (.d (.cell (S.nx+3)))) v5 none none none none S3∧S3.nx=S.nx+4∧(∀i,i<S.nx→S3.get i=S.get i)∧S3.get (S.nx+3)=some (.obj "Pairs" (paF ls rs ps))∧∀k,k<3→∃l,S3.get (S.nx+k)=some (.lst l)) Nl.d1 (fun _ _ ⟨_,_,e,_⟩=>by rw [e]; first | trivial | rfl) ⟨none,S2,rfl,n2,(E1.trans E2).get,q2,fun k hk=>?_⟩ (fun j y s' ey hI=>?_) (fun s' hI=>?_)
 ·have hk2:k=0∨k=1∨k=2:=by omega
  rcases hk2 with rfl | rfl | rfl
  ·exact ⟨_,(E2.get _ (by rw [n1]; omega)).trans g1⟩
  ·exact ⟨_,(E2.get _ (by rw [n1]; omega)).trans g2⟩
  ·exact ⟨_,(E2.get _ (by rw [n1]; omega)).trans g3⟩
 ·obtain ⟨v5,S3,rfl,n3,o3,q3,l3⟩:=hI
  have ey:([.cell S.nx, .cell (S.nx+1), .cell (S.nx+2)]:List D)[j]? =some y:=ey
  have:∃k,k<3∧y= .cell (S.nx+k):=by
   match j,ey with
   | 0,e=>cases e; exact ⟨0,by decide,rfl⟩
   | 1,e=>cases e; exact ⟨1,by decide,rfl⟩
   | 2,e=>cases e; exact ⟨2,by decide,rfl⟩
  obtain ⟨k,hk,rfl⟩:=this
  obtain ⟨l,hl⟩:=l3 k hk
  simp! only [hl]
  refine ⟨_,S3.put (S.nx+k) (.lst []),rfl,n3,fun i hi=>(Z.Sto.put_ne (by omega)).trans (o3 i hi),(Z.Sto.put_ne (by omega)).trans q3,fun m hm=>?_⟩
  by_cases e:m=k
  ·rw [e]; exact ⟨_,Z.Sto.put_same⟩
  ·obtain ⟨l',hl'⟩:=l3 m hm
   exact ⟨l',(Z.Sto.put_ne (by omega)).trans hl'⟩
 ·obtain ⟨v5,S3,rfl,n3,o3,q3,l3⟩:=hI
  simp! only []
  exact h _ _ S3 ⟨by omega,o3⟩ q3 (by omega)
theorem ak_b {G B0:SD→R Fl} (hB:B0=(ai (aB (aG "Pairs" "answer" aq [] (aa 4) zA0) (zSt 6))
 (ai (bJ (zOr (dt (zB (z1 (px is_Question false) (aa 4)))) (dt (zB (bg dw [] (zA (aa 6) (zA (aa 0) (zA (aa 1) (zA (aa 2) zA0)))))))) (bc (zC (.bl false))) aC)
 (ai (aB (bY (zA (z1 aZ (z1 (au ["Paired"] "pairs") (aa 6))) (zA (z1 aZ (z1 (au ["Paired"] "cover") (aa 6))) zA0))) (zSt 7))
 (ai (aD (zM2 isL (oB2 aM) (z1 (au ["Paired"] "pairs") (aa 6)) (aL (zC .non))))
 (ai (aD (z1 (oB1 dO) (z1 (au ["Paired"] "cover") (aa 6))))
 G)))))) {Q:Fl→SD→Prop} (O:PaOk ls rs ps) (hf:S.get fc=some (.lst (ps.map prD))) (f1:fc<S.nx) (hq:S.get q=some (.obj "Pairs" (paF ls rs ps))) (q1:q<S.nx)
  (h:∀rs' am f Qs Cs v6 S1,AnQ ls rs ps rs' am f Qs Cs→Ext S S1→Wp (G (akS ls rs fc v3 (some (.d (.cell q))) v5 v6 (some (.d (ib Qs Cs))) none none S1)) Q XF):Wp (B0 (akS ls rs fc v3 (some (.d (.cell q))) v5 none none none none S)) Q XF:=by
 subst hB
 have hs:(5000:Nat)<sizeLine:=by decide
 obtain ⟨rs',am,f,Qs,Cs,x,S2,p,v,T,A,E2,e⟩:=jj hq q1 O
 have W:=T.ok O
 have hl:Qs.length≤14:=by
  have h1:=W.n
  have h2:Cs.length≤14:=by
   rw [T.c,List.length_append]
   unfold cvL cvR
   rw [List.length_map,List.length_map]
   have h1:=List.length_filter_le (fun p=>!Rs.bt (Pw.asQ ls.length rs.length (frQ ls rs ps)) rs' false (ls.length+rs.length+2) (ls.length+rs.length) p) (List.range ls.length)
   have h2:=List.length_filter_le (fun p=>Rs.bt (Pw.asQ ls.length rs.length (frQ ls rs ps)) rs' false (ls.length+rs.length+2) (ls.length+rs.length) (ls.length+p)) (List.range rs.length)
   have l1:=O.ll
   have l2:=O.rl
   rw [List.length_range] at h1 h2
   omega
  omega
 have fq:=(E2.get _ f1).trans hf
 have qq:=(E2.get _ q1).trans hq
 have e3:=fun sl=>sF (sl:=sl) A W O fq hl
 have isq:=fun sl=>isQP (sl:=sl) qq rfl
 have mA:bI (paF ls rs ps) "answer" =none:=rfl
 have ax:=A.hx
 have ab:=A.hb
 have ap:=A.hp
 have av:=A.hv
 rw [ax] at e e3
 have pv:(S2.put p (.lst (Qs.map prD++ [.non]))).get v=some (.lst (Cs.map cvD)):=(Z.Sto.put_ne (by omega)).trans av
 have h:=h rs' am f Qs Cs (some (.d (paD p v))) ((S2.put p (.lst (Qs.map prD++ [.non]))).put v (.lst [])) T ⟨E2.nx,fun i hi=>(Z.Sto.put_ne (by omega)).trans ((Z.Sto.put_ne (by omega)).trans (E2.get i hi))⟩
 have ll:((Qs.map prD).length<sizeLine)=True:=eq_true (by rw [List.length_map]; omega)
 simp! only [hq,ao mA,e,isq,e3,ah pd_p,ah tP,ap,av,ll,pv]
 exact h
theorem ak_c {B0:SD→R Fl} (hB:B0=(ai (aB (ef "Pairs" aw [] (zA (aN (z1 aZ (aa 0))) (zA (aN (z1 aZ (aa 1))) (zA (aN (z1 aZ (aa 2))) zA0)))) (zSt 8))
 (ai (cK (oM (aL (bY (zA (aG "Pairs" "answer" aq [] (aa 4) zA0) (zA (aG "Pairs" "answer" aq [] (aa 8) zA0) zA0))))) (zSt 9) (bJ (zB (z2 oNeS (bY (zA (z1 (au ["Paired"] "pairs") (aa 9)) (zA (z1 (au ["Paired"] "cover") (aa 9)) zA0))) (aa 7))) (bc (zC (.bl false))) aC))
 (bc (zC (.bl true)))))) (O:PaOk ls rs ps) (T:AnQ ls rs ps rs' am f Qs Cs) (hf:S.get fc=some (.lst (ps.map prD))) (f1:fc<S.nx) (hq:S.get q=some (.obj "Pairs" (paF ls rs ps))) (q1:q<S.nx):
  Wp (B0 (akS ls rs fc v3 (some (.d (.cell q))) v5 v6 (some (.d (ib Qs Cs))) none none S)) (fun fl s' =>flv fl=some (.d (.bl true))∧Ext S s'.st) XF:=by
 subst hB
 have hs:(5000:Nat)<sizeLine:=by decide
 have W:=T.ok O
 obtain ⟨n1,g1,g2,g3,E1⟩:=three S ls rs ps
 have hf1:∀y,(S.new y).get fc=some (.lst (ps.map prD)):=fun y=>(bV (Nat.ne_of_lt f1)).trans hf
 have hf2:∀y z,((S.new y).new z).get fc=some (.lst (ps.map prD)):=fun y z=>(bV (Nat.ne_of_lt (Nat.lt_succ_of_lt f1))).trans (hf1 y)
 have c1:(S.new (.lst (ls.map .str))).nx=S.nx+1:=rfl
 have c2:((S.new (.lst (ls.map .str))).new (.lst (rs.map .str))).nx=S.nx+2:=rfl
 have ei:=fun sl=>nf (sl:=sl) (S:=bq S ls rs ps) (i:=(bq S ls rs ps).nx) (F:=aw) fun s=>sE (sl:=s.sl) O g1 g2 g3 (by rw [n1]; omega) (by rw [n1]; omega) (by rw [n1]; omega)
 obtain ⟨S2,hS2⟩:∃S2,S2=(bq S ls rs ps).new (.obj "Pairs" (paF ls rs ps)):=⟨_,rfl⟩
 have q2:S2.get (S.nx+3)=some (.obj "Pairs" (paF ls rs ps)):=by
  have:=aU (S:=bq S ls rs ps) (x:= .obj "Pairs" (paF ls rs ps))
  rw [n1] at this
  rw [hS2]; exact this
 have n2:S2.nx=S.nx+4:=by rw [hS2,mR,n1]
 have E2:Ext S S2:=by rw [hS2]; exact E1.trans Ext.new
 rw [←hS2] at ei
 have ei:∀sl,mkR (S.nx+3) ⟨sl,bq S ls rs ps⟩ (aw [.cell (S.nx+3), .cell S.nx, .cell (S.nx+1), .cell (S.nx+2)] ((bq S ls rs ps).new (.obj "Pairs" [])))= .ok (.d (.cell (S.nx+3))) ⟨sl,S2⟩:=ei
 obtain ⟨_,_,_,Q3,C3,x3,S3,p3,w3,T3,A3,E3,e3⟩:=jj ((E2.get _ q1).trans hq) (Nat.lt_of_lt_of_le q1 E2.nx) O
 obtain ⟨rfl,rfl⟩:=T.uniq T3
 obtain ⟨_,_,_,Q4,C4,x4,S4,p4,w4,T4,A4,E4,e4⟩:=jj ((E3.get _ (by omega)).trans q2) (Nat.lt_of_lt_of_le (by omega) E3.nx) O
 obtain ⟨rfl,rfl⟩:=T.uniq T4
 have mA:bI (paF ls rs ps) "answer" =none:=rfl
 have o2:=(E2.get _ q1).trans hq
 have o3:=(E3.get _ (by omega)).trans q2
 have a3:=A3.hx
 have a4:=A4.hx
 have b3:=A3.hb
 have b4:=A4.hb
 subst a3
 subst a4
 have k3:=qZ W O ((E4.get _ b3.2.2).trans A3.hp) ((E4.get _ (by omega)).trans A3.hv)
 have k4:=qZ W O A4.hp A4.hv
 simp! only [hf1,hf2,c1,c2,n1,ei,o2,ao mA,e3,o3,e4]
 rw [ae]
 refine fP (fun j s' =>∃v9,s' =akS ls rs fc v3 (some (.d (.cell q))) v5 v6 (some (.d (ib Qs Cs))) (some (.d (.cell (S.nx+3)))) v9 S4) Nl.d1 (fun _ _ ⟨_,e⟩=>by rw [e]; first | trivial | rfl) ⟨none,rfl⟩ (fun j y s' ey hI=>?_) (fun s' hI=>?_)
 ·obtain ⟨v9,rfl⟩:=hI
  have ey:([paD p3 w3,paD p4 w4]:List D)[j]? =some y:=ey
  have:y=paD p3 w3∨y=paD p4 w4:=by
   match j,ey with
   | 0,e=>cases e; exact .inl rfl
   | 1,e=>cases e; exact .inr rfl
  have ck:∀s:SD,s.cont (.d (ib Qs Cs))=some (ib Qs Cs):=fun _=>rfl
  rcases this with rfl | rfl
  ·simp! only [ah pd_p,ah tP,w_neS,ck,k3]
   exact ⟨_,rfl⟩
  ·simp! only [ah pd_p,ah tP,w_neS,ck,k4]
   exact ⟨_,rfl⟩
 ·obtain ⟨v9,rfl⟩:=hI
  simp! only []
  exact (E2.trans E3).trans E4
theorem jk (O:PaOk ls rs ps) (hf:S.get fc=some (.lst (ps.map prD))) (f1:fc<S.nx):∃S',Ext S S'∧∀sl,goF bz [.lst (ls.map .str), .lst (rs.map .str), .cell fc] ⟨sl,S⟩= .ok (.d (.bl true)) ⟨sl,S'⟩:=by
 suffices hh:Wp (gp (akS ls rs fc none none none none none none none S)) (fun fl s' =>flv fl=some (.d (.bl true))∧Ext S s'.st) XF by
  obtain ⟨fl,s',e,h1,h2⟩:=hh.is
  exact ⟨s'.st,h2,fun sl=>lB (by show Wp (gp (akS ls rs fc none none none none none none none S)) _ _; rw [e]; exact ⟨h1,rfl⟩)⟩
 obtain ⟨G8,h8⟩:∃g,g=(ai (aB (ef "Pairs" aw [] (zA (aN (z1 aZ (aa 0))) (zA (aN (z1 aZ (aa 1))) (zA (aN (z1 aZ (aa 2))) zA0)))) (zSt 8))
 (ai (cK (oM (aL (bY (zA (aG "Pairs" "answer" aq [] (aa 4) zA0) (zA (aG "Pairs" "answer" aq [] (aa 8) zA0) zA0))))) (zSt 9) (bJ (zB (z2 oNeS (bY (zA (z1 (au ["Paired"] "pairs") (aa 9)) (zA (z1 (au ["Paired"] "cover") (aa 9)) zA0))) (aa 7))) (bc (zC (.bl false))) aC))
 (bc (zC (.bl true))))):=⟨_,rfl⟩
 obtain ⟨G3,h3⟩:∃g,g=(ai (aB (aG "Pairs" "answer" aq [] (aa 4) zA0) (zSt 6))
 (ai (bJ (zOr (dt (zB (z1 (px is_Question false) (aa 4)))) (dt (zB (bg dw [] (zA (aa 6) (zA (aa 0) (zA (aa 1) (zA (aa 2) zA0)))))))) (bc (zC (.bl false))) aC)
 (ai (aB (bY (zA (z1 aZ (z1 (au ["Paired"] "pairs") (aa 6))) (zA (z1 aZ (z1 (au ["Paired"] "cover") (aa 6))) zA0))) (zSt 7))
 (ai (aD (zM2 isL (oB2 aM) (z1 (au ["Paired"] "pairs") (aa 6)) (aL (zC .non))))
 (ai (aD (z1 (oB1 dO) (z1 (au ["Paired"] "cover") (aa 6))))
 G8))))):=⟨_,rfl⟩
 obtain ⟨G0,h0⟩:∃g,g=(ai (aB (bY (zA (aN (z1 aZ (aa 0))) (zA (aN (z1 aZ (aa 1))) (zA (aN (z1 aZ (aa 2))) zA0)))) (zSt 3))
 (ai (aB (ef "Pairs" aw [] (zA (z2 oIx (aa 3) (zC (.int 0))) (zA (z2 oIx (aa 3) (zC (.int 1))) (zA (z2 oIx (aa 3) (zC (.int 2))) zA0)))) (zSt 4))
 (ai (cK (oM (aL (aa 3))) (zSt 5) (aD (z1 (oB1 dO) (aa 5))))
 G3))):=⟨_,rfl⟩
 have e0:gp=G0:=by rw [h0,h3,h8]; rfl
 rw [e0]
 clear e0
 refine ak_a h0 O hf f1 fun v3 v5 S1 E1 q1 l1=>?_
 refine ak_b h3 O ((E1.get _ f1).trans hf) (Nat.lt_of_lt_of_le f1 E1.nx) q1 l1 fun rs' am f Qs Cs v6 S2 T E2=>?_
 exact (ak_c h8 O T ((E2.get _ (Nat.lt_of_lt_of_le f1 E1.nx)).trans ((E1.get _ f1).trans hf)) (Nat.lt_of_lt_of_le f1 (E1.trans E2).nx) ((E2.get _ l1).trans q1) (Nat.lt_of_lt_of_le l1 E2.nx)).mono (fun fl s' h=>⟨h.1,(E1.trans E2).trans h.2⟩) fun _ _ _ h=>h
end
section
variable {s:SD} {S S' S1:Sto} {sl:List (Option Vl)} {x y:D} {c:Nat} {ls rs:List Str} {ps:List (Str×Str)} {v1 v3 v6 v7 v8:Option Vl} {ns:List Int} {k:Int} {fi fx fo:SD→R Vl} {va:Vl} {ds:List D}
theorem mI {p:Str×Str}:∀{l:List (Str×Str)},p∈l→SeqAt.dataPlace (gz (l.map prD)) (toP (prD p))=some (l.idxOf p)
 | [],h=>by cases h
 | q::l,h=>by
  have e0:gz ((q::l).map prD)=toP (prD q)::gz (l.map prD):=rfl
  rw [e0]
  unfold SeqAt.dataPlace
  rw [List.findIdx?_cons,List.idxOf_cons]
  have e:PyData.eqv (toP (prD q)) (toP (prD p))=decide (p=q):=eqv_pr q p
  rw [e]
  by_cases c:p=q
  ·subst c
   simp
  ·have c2:(q == p)=false:=beq_eq_false_iff_ne.mpr (Ne.symm c)
   have ih:=mI (p:=p) (l:=l) (by rcases List.mem_cons.mp h with h | h; exact absurd h c; exact h)
   unfold SeqAt.dataPlace at ih
   rw [decide_eq_false c,c2,ih]
   rfl
theorem nR (p:Str×Str):∀l:List (Str×Str),(l.map prD).eraseIdx (l.idxOf p)=(l.erase p).map prD
 | []=>rfl
 | q::l=>by
  rw [List.idxOf_cons,List.erase_cons]
  by_cases c:q=p
  ·subst c; simp
  ·have e:(q == p)=false:=beq_eq_false_iff_ne.mpr c
   rw [e]
   show prD q::(l.map prD).eraseIdx (l.idxOf p)=prD q::(l.erase p).map prD
   rw [nR p l]
theorem rem_pr {p:Str×Str} (h:p∈ps) (ha:∀q∈ps,Al q.1∧Al q.2):ie (.lst (ps.map prD)) (prD p)=some (.lst ((ps.erase p).map prD), .non):=by
 have l1:∀q:Str×Str,Al q.1∧Al q.2→lay (prD q)=true∧dep (prD q)≤60:=fun q hq=>by
  refine ⟨?_, ?_⟩
  ·simp only [prD,lay,pA,bF hq.1,bF hq.2,Bool.and_self]
  ·simp only [prD,dep,pC]; decide
 obtain ⟨a1,a2,a3⟩:=fW (l1 p (ha p h)).1
 obtain ⟨b1,b2,b3⟩:=cX (cq (ds:=ps.map prD) fun d hd=>by
  obtain ⟨q,hq,rfl⟩:=List.mem_map.mp hd
  exact (l1 q (ha q hq)).1)
 have pl:∀cs:List (Str×Str),PyData.plainAll (gz (cs.map prD))=true:=fun cs=>by
  induction cs with
  | nil=>rfl
  | cons q cs ih=>
   rw [show gz ((q::cs).map prD)=toP (prD q)::gz (cs.map prD) from rfl,PyData.plainAll,ih]
   rfl
 have q1:(toP (prD p)).plain=true:=rfl
 have q2:(toP (prD p)).depth≤60:=by rw [a3]; exact (l1 p (ha p h)).2
 unfold ie
 simp only [a1,b1,pl,q1,q2,mI h,and_self,if_true]
 rw [nR]
noncomputable def insV (k:Int) (a:Vl):Vl→SD→R Vl:=fun b s=>oB2 (dM k) a b s
noncomputable def insI (fx:SD→R Vl) (a:Vl):Vl→SD→R Vl:=fun i s2=>match i with
 | .d (.int k)=>(fx s2).bind (insV k a)
 | _=> .bad
noncomputable def insO (fi fx:SD→R Vl):Vl→SD→R Vl:=fun a s1=>if isL s1 a=true then (fi s1).bind (insI fx a) else .bad
theorem e_insZ:zIns fo fi fx s=(fo s).bind (insO fi fx):=by
 unfold zIns insO insI insV
 rfl
theorem x_insO:insO fi fx va s=if isL s va=true then (fi s).bind (insI fx va) else .bad:=Eq.trans rfl rfl
theorem x_insI:insI fx va (.d (.int k)) s=(fx s).bind (insV k va):=Eq.trans rfl rfl
theorem x_insV:insV k va (.d x) s=b2K (dM k) va x s (s.cont va):=w_b2
theorem f_insV (h1:ds.length<sizeLine) (h2:0≤k) (h3:k<2 ^ 63):b2K (dM k) va x s (some (.lst ds))=(s.mod (.lst (ds.take k.toNat++ [x]++ds.drop k.toNat)) va).bind (rvK .non):=
 b2K_ok (by unfold dM; simp only [h1,h2,h3,and_self,if_true])
theorem e_mk0 {C:Str}:zMk0 C ⟨sl,S⟩= .ok (.d (.cell S.nx)) ⟨sl,S.new (.obj C [])⟩:=Eq.trans rfl rfl
def owV (o:Bool) (d:D):Option Vl:=if o=true then some (.own d) else some (.d d)
theorem owT (d:D):owV true d=some (.own d):=Eq.trans rfl rfl
theorem owF (d:D):owV false d=some (.d d):=Eq.trans rfl rfl
abbrev lwS (ns:List Int) (v1:Option Vl) (o:Bool) (ls:List Str) (v3:Option Vl) (rs:List Str) (c:Nat) (v6 v7 v8:Option Vl) (S:Sto):SD:=
 ⟨[some (.d (.con (ns.map .int))),v1,owV o (.lst (ls.map .str)),v3,owV o (.lst (rs.map .str)),some (.d (.cell c)),v6,v7,v8],S⟩
structure HdOk (ls rs:List Str):Prop where
 l:ls.Nodup
 r:rs.Nodup
 ln:∀z∈ls,NmOk z
 rn:∀z∈rs,NmOk z
 ll:ls.length≤7
 rl:rs.length≤7
theorem HdOk.pa (H:HdOk ls rs) (h1:ps.Nodup) (h2:ps.length≤63) (h3:∀q∈ps,q.1∈ls∧q.2∈rs):PaOk ls rs ps:=⟨H.l,H.r,h1,H.ln,H.rn,H.ll,H.rl,h2,h3⟩
theorem rX (l:List Str):(l.map D.str).isEmpty=l.isEmpty:=by cases l<;> rfl
theorem lw_upd {B G:SD→R Fl} (hB:B=(ai (bJ (kP (zB (z2 oNe (aa 2) (cG zA0))) (zB (z2 oNe (aa 4) (cG zA0)))) (ai (aB (bY (zA (z2 oIx (aa 2) (z2 dq (aa 7) (z1 bf (aa 2)))) (zA (z2 oIx (aa 4) (z2 dq (z2 eR (aa 7) (zC (.int 7))) (z1 bf (aa 4)))) zA0))) (zSt 8))
 (bJ (zB (z2 (iY false) (aa 8) (aa 5))) (aD (zM2 isL (oB2 ie) (aa 5) (aa 8))) (aD (zIns (aa 5) (z2 dq (z2 eR (aa 7) (zC (.int 49))) (z2 bU (z1 bf (aa 5)) (zC (.int 1)))) (aL (aa 8)))))) aC)
 G)) {Q:Fl→SD→Prop} {o:Bool} {u j:Nat} (H:HdOk ls rs) (h1:ps.Nodup) (h2:ps.length≤j) (h3:∀q∈ps,q.1∈ls∧q.2∈rs) (hj:j<63) (hc:S.get c=some (.lst (ps.map prD))) (hu:(u:Int)<2147483629)
  (h:∀(v8:Option Vl) (ps' :List (Str×Str)) (S1:Sto),ps'.Nodup→ps'.length≤j+1→(∀q∈ps',q.1∈ls∧q.2∈rs)→S1.get c=some (.lst (ps'.map prD))→S1.nx=S.nx→Wp (G (lwS ns v1 o ls v3 rs c v6 (some (.d (.int (u:Int)))) v8 S1)) Q XF):
  Wp (B (lwS ns v1 o ls v3 rs c v6 (some (.d (.int (u:Int)))) v8 S)) Q XF:=by
 subst hB
 have hs:(5000:Nat)<sizeLine:=by decide
 have al:∀q∈ps,Al q.1∧Al q.2:=fun q hq=>⟨(H.ln _ (h3 q hq).1).1,(H.rn _ (h3 q hq).2).1⟩
 by_cases e1:ls= []
 ·subst e1
  have h:=h v8 ps S h1 (by omega) h3 hc rfl
  cases o<;> (simp only [lwS,owT,owF,List.map_nil] at h ⊢; simp! only []; exact h)
 by_cases e2:rs= []
 ·subst e2
  have n1:(ls.map D.str).isEmpty=false:=by rw [rX]; cases ls; exact absurd rfl e1; rfl
  have h:=h v8 ps S h1 (by omega) h3 hc rfl
  cases o<;> (simp only [lwS,owT,owF,List.map_nil] at h ⊢; simp! only [n1]; exact h)
 have n1:(ls.map D.str).isEmpty=false:=by rw [rX]; cases ls; exact absurd rfl e1; rfl
 have n2:(rs.map D.str).isEmpty=false:=by rw [rX]; cases rs; exact absurd rfl e2; rfl
 have p1:0<ls.length:=List.length_pos_iff.mpr e1
 have p2:0<rs.length:=List.length_pos_iff.mpr e2
 have g1:((0:Int)<(((ls.map D.str).length:Nat):Int))=True:=eq_true (by rw [List.length_map]; omega)
 have g2:((0:Int)<(((rs.map D.str).length:Nat):Int))=True:=eq_true (by rw [List.length_map]; omega)
 have m1:(u:Int)%(((ls.map D.str).length:Nat):Int)=((u%ls.length:Nat):Int):=by rw [List.length_map]; rfl
 have m2:(u:Int) / 7%(((rs.map D.str).length:Nat):Int)=((u / 7%rs.length:Nat):Int):=by rw [List.length_map]; rfl
 have k1:=Nat.mod_lt u p1
 have k2:=Nat.mod_lt (u / 7) p2
 obtain ⟨z,hz⟩:∃z,ls[u%ls.length]? =some z:=⟨_,List.getElem?_eq_getElem k1⟩
 obtain ⟨w,hw⟩:∃w,rs[u / 7%rs.length]? =some w:=⟨_,List.getElem?_eq_getElem k2⟩
 have i1:∀s:SD,ixK s (some (.lst (ls.map .str))) (some (.int ((u%ls.length:Nat):Int)))= .ok (.d (.str z)) s:=fun s=>ixL (f:=D.str) hz
 have i2:∀s:SD,ixK s (some (.lst (rs.map .str))) (some (.int ((u / 7%rs.length:Nat):Int)))= .ok (.d (.str w)) s:=fun s=>ixL (f:=D.str) hw
 have zm:=List.mem_of_getElem? hz
 have wm:=List.mem_of_getElem? hw
 have y7:CDivW (u:Int) 7=True:=eq_true (ay (by decide) (by decide))
 have y49:CDivW (u:Int) 49=True:=eq_true (ay (by decide) (by decide))
 have ip:=jd (neg:=false) (p:=(z,w)) ⟨(H.ln _ zm).1,(H.rn _ wm).1⟩ al
 have ip:∀s:SD,nH false s (some (.tup [.str z, .str w])) (some (.lst (ps.map prD)))= .ok (.d (.bl (decide ((z,w)∈ps)))) s:=ip
 by_cases hm:(z,w)∈ps
 ·rw [decide_eq_true hm] at ip
  have er:=rem_pr hm al
  have er:∀(va:Vl) (s:SD),b2K ie va (.tup [.str z, .str w]) s (some (.lst (ps.map prD)))=(s.mod (.lst ((ps.erase (z,w)).map prD)) va).bind (rvK .non):=fun va s=>b2K_ok er
  have h:=h (some (.d (.tup [.str z, .str w]))) (ps.erase (z,w)) (S.put c (.lst ((ps.erase (z,w)).map prD))) (h1.sublist List.erase_sublist) (by have:=List.length_erase_of_mem hm; omega) (fun q hq=>h3 q (List.mem_of_mem_erase hq)) Z.Sto.put_same rfl
  cases o<;> (simp only [lwS,owT,owF] at h ⊢; simp! only [n1,n2,g1,g2,m1,m2,i1,i2,y7,hc,oO,ip,er]; exact h)
 ·rw [decide_eq_false hm] at ip
  obtain ⟨i,hi⟩:∃i,i=u / 49%(ps.length+1):=⟨_,rfl⟩
  have li:i<ps.length+1:=by rw [hi]; exact Nat.mod_lt _ (Nat.succ_pos _)
  have m3:(u:Int) / 49%((((ps.map prD).length:Nat):Int)+1)=(i:Int):=by rw [List.length_map,hi]; rfl
  have g3:((0:Int)<(((ps.map prD).length:Nat):Int)+1)=True:=eq_true (by omega)
  have fi:=fun (va:Vl) (s:SD)=>f_insV (va:=va) (s:=s) (x:= .tup [.str z, .str w]) (k:=(i:Int)) (ds:=ps.map prD) (by rw [List.length_map]; omega) (by omega) (by omega)
  have en:(ps.map prD).take ((i:Int).toNat)++ [.tup [.str z, .str w]]++(ps.map prD).drop ((i:Int).toNat)=(ps.take i++(z,w)::ps.drop i).map prD:=by
   rw [Int.toNat_natCast,←List.map_take,←List.map_drop,List.map_append,List.map_cons,List.append_assoc]
   rfl
  rw [en] at fi
  have pm:(ps.take i++(z,w)::ps.drop i).Perm ((z,w)::ps):=by
   have:=List.perm_middle (a:=(z,w)) (l₁:=ps.take i) (l₂:=ps.drop i)
   rwa [List.take_append_drop] at this
  have h:=h (some (.d (.tup [.str z, .str w]))) (ps.take i++(z,w)::ps.drop i) (S.put c (.lst ((ps.take i++(z,w)::ps.drop i).map prD))) (pm.symm.nodup (List.nodup_cons.mpr ⟨hm,h1⟩)) (by rw [pm.length_eq,List.length_cons]; omega) (fun q hq=>by
   rcases List.mem_cons.mp (pm.mem_iff.mp hq) with rfl | hq
   ·exact ⟨zm,wm⟩
   ·exact h3 q hq) Z.Sto.put_same rfl
  cases o<;> (simp only [lwS,owT,owF] at h ⊢; simp! only [n1,n2,g1,g2,m1,m2,i1,i2,y7,hc,oO,ip,↓e_insZ,x_insO,x_insI,x_insV,y49,m3,g3,fi]; exact h)
noncomputable def lwB:SD→R Fl:=(ai (aB (bg bh [] (zA (aa 0) (zA (aa 6) zA0))) (zSt 7))
 (ai (bJ (kP (zB (z2 oNe (aa 2) (cG zA0))) (zB (z2 oNe (aa 4) (cG zA0)))) (ai (aB (bY (zA (z2 oIx (aa 2) (z2 dq (aa 7) (z1 bf (aa 2)))) (zA (z2 oIx (aa 4) (z2 dq (z2 eR (aa 7) (zC (.int 7))) (z1 bf (aa 4)))) zA0))) (zSt 8))
 (bJ (zB (z2 (iY false) (aa 8) (aa 5))) (aD (zM2 isL (oB2 ie) (aa 5) (aa 8))) (aD (zIns (aa 5) (z2 dq (z2 eR (aa 7) (zC (.int 49))) (z2 bU (z1 bf (aa 5)) (zC (.int 1)))) (aL (aa 8)))))) aC)
 (bJ (kP (zB (z2 oEq (z2 dq (z2 eR (aa 7) (zC (.int 2500))) (zC (.int 4))) (zC (.int 1)))) (dt (zB (bg bz [] (zA (aa 2) (zA (aa 4) (zA (aa 5) zA0))))))) (bc (zC (.bl false))) aC)))
noncomputable def lwE:SD→R Fl:=(ai (bJ (zB (z2 (iy true) (aG "Question" "answer" aV [] (zMk0 "Question") zA0) (zC .non))) (bc (zC (.bl false))) aC)
 (bc (jD (bg bz [] (zA (aa 2) (zA (aa 4) (zA (aa 5) zA0)))) (bg bz [] (zA (aa 2) (zA (aa 4) (zA (aN (cG zA0)) zA0)))))))
theorem lw_turn {G:SD→R Fl} (hG:G=lwB) {o:Bool} {i j:Nat} (H:HdOk ls rs) (h1:ps.Nodup) (h2:ps.length≤j) (h3:∀q∈ps,q.1∈ls∧q.2∈rs) (hj:j<63) (hi:i≤63) (hc:S.get c=some (.lst (ps.map prD))) (c1:c<S.nx):
  Wp (G (lwS ns v1 o ls v3 rs c (some (.d (.int (i:Int)))) v7 v8 S)) (fun fl s' =>fl= .nx∧∃(o' :Bool) (v7' v8' :Option Vl) (ps' :List (Str×Str)) (S' :Sto),s' =lwS ns v1 o' ls v3 rs c (some (.d (.int (i:Int)))) v7' v8' S'∧ps'.Nodup∧ps'.length≤j+1∧(∀q∈ps',q.1∈ls∧q.2∈rs)∧S'.get c=some (.lst (ps'.map prD))∧c<S'.nx) XF:=by
 subst hG
 obtain ⟨u,u0,u1,eu⟩:=gV ns (i:Int) (by omega) (by omega)
 obtain ⟨u,rfl⟩:=Int.eq_ofNat_of_zero_le u0
 obtain ⟨G2,e2⟩:∃g,g=(bJ (kP (zB (z2 oEq (z2 dq (z2 eR (aa 7) (zC (.int 2500))) (zC (.int 4))) (zC (.int 1)))) (dt (zB (bg bz [] (zA (aa 2) (zA (aa 4) (zA (aa 5) zA0))))))) (bc (zC (.bl false))) aC):=⟨_,rfl⟩
 obtain ⟨G1,e1⟩:∃g,g=(ai (bJ (kP (zB (z2 oNe (aa 2) (cG zA0))) (zB (z2 oNe (aa 4) (cG zA0)))) (ai (aB (bY (zA (z2 oIx (aa 2) (z2 dq (aa 7) (z1 bf (aa 2)))) (zA (z2 oIx (aa 4) (z2 dq (z2 eR (aa 7) (zC (.int 7))) (z1 bf (aa 4)))) zA0))) (zSt 8))
 (bJ (zB (z2 (iY false) (aa 8) (aa 5))) (aD (zM2 isL (oB2 ie) (aa 5) (aa 8))) (aD (zIns (aa 5) (z2 dq (z2 eR (aa 7) (zC (.int 49))) (z2 bU (z1 bf (aa 5)) (zC (.int 1)))) (aL (aa 8)))))) aC)
 G2):=⟨_,rfl⟩
 have e0:lwB=(ai (aB (bg bh [] (zA (aa 0) (zA (aa 6) zA0))) (zSt 7))
 G1):=by rw [e1,e2]; rfl
 rw [e0]
 clear e0
 simp! only [eu]
 refine lw_upd (o:=o) e1 H h1 h2 h3 hj hc u1 fun v8' ps' S1 q1 q2 q3 q4 q5=>?_
 clear e1
 rw [e2]
 clear e2
 have O:=H.pa q1 (by omega) q3
 obtain ⟨S2,E2,ea⟩:=jk O q4 (by omega)
 have y25:CDivW (u:Int) 2500=True:=eq_true (ay (by decide) (by decide))
 have b4:((0:Int)<4)=True:=by decide
 by_cases c2:(u:Int) / 2500%4=1
 ·cases o<;> (simp only [lwS,owT,owF]; simp! only [y25,b4,c2,ea]; exact ⟨false,_,_,ps',S2,rfl,q1,q2,q3,(E2.get _ (by omega)).trans q4,by have:=E2.nx; omega⟩)
 ·cases o<;> (simp only [lwS,owT,owF]; simp! only [y25,b4,c2])
  ·exact ⟨false,_,_,ps',S1,rfl,q1,q2,q3,q4,by omega⟩
  ·exact ⟨true,_,_,ps',S1,rfl,q1,q2,q3,q4,by omega⟩
theorem lw_end {G:SD→R Fl} (hG:G=lwE) {o:Bool} (H:HdOk ls rs) (h1:ps.Nodup) (h2:ps.length≤63) (h3:∀q∈ps,q.1∈ls∧q.2∈rs) (hc:S.get c=some (.lst (ps.map prD))) (c1:c<S.nx):
  Wp (G (lwS ns v1 o ls v3 rs c v6 v7 v8 S)) (fun fl _=>fl= .rt (.d (.bl true))) XF:=by
 subst hG
 have n0:∀x,(S.new x).nx=S.nx+1:=fun _=>rfl
 have qa:∀sl,goF aV [.cell S.nx] ⟨sl,S.new (.obj "Question" [])⟩= .ok (.d .non) ⟨sl,S.new (.obj "Question" [])⟩:=fun sl=>by
  refine lB ?_
  show Wp (bx ⟨[some (.d (.cell S.nx))],S.new (.obj "Question" [])⟩) _ _
  unfold bx
  simp! only []
 have mQ:bI ([]:List (Str×D)) "answer" =none:=rfl
 obtain ⟨S1,hS1⟩:∃S1,S1=S.new (.obj "Question" []):=⟨_,rfl⟩
 have g1:S1.get S.nx=some (.obj "Question" []):=by rw [hS1]; exact aU
 have E1:Ext S S1:=by rw [hS1]; exact Ext.new
 have m1:S1.nx=S.nx+1:=by rw [hS1]; rfl
 rw [←hS1] at qa
 have O:=H.pa h1 h2 h3
 obtain ⟨S2,E2,ea⟩:=jk O ((E1.get _ c1).trans hc) (by omega)
 have E3:Ext S2 (S2.new (.lst ([]:List D))):=Ext.new
 obtain ⟨S4,E4,eb⟩:=jk (S:=S2.new (.lst [])) (fc:=S2.nx) (H.pa (ps:= []) List.nodup_nil (by simp) (fun q hq=>by cases hq)) aU (Nat.lt_succ_self _)
 have eb:∀sl,goF bz [.lst (ls.map .str), .lst (rs.map .str), .cell S2.nx] ⟨sl,S2.new (.lst [])⟩= .ok (.d (.bl true)) ⟨sl,S4⟩:=eb
 unfold lwE
 cases o<;> (simp only [lwS,owT,owF]; simp! only [e_mk0,←hS1,g1,ao mQ,qa,ea,eb])
theorem law_q {G GB GE:SD→R Fl} (hB:GB=lwB) (hE:GE=lwE) (hG:G=(ai (aB (aN (cG zA0)) (zSt 5))
 (ai (cK (jB (zA (z1 bf (aa 0)) zA0)) (zSt 6) GB)
 GE))) {o:Bool} (hl:ns.length≤63) (H:HdOk ls rs):
  Wp (G ⟨[some (.d (.con (ns.map .int))),v1,owV o (.lst (ls.map .str)),v3,owV o (.lst (rs.map .str)),none,none,none,none],S⟩) (fun fl _=>fl= .rt (.d (.bl true))) XF:=by
 have hs:(5000:Nat)<sizeLine:=by decide
 have z0:=rg62 (m:=ns.length) (by omega)
 have ln:(((ns.map D.int).length:Nat):Int)=(ns.length:Int):=by rw [List.length_map]
 rw [hG]
 clear hG
 simp! only [ln,z0]
 rw [ae]
 refine fP (fun j s' =>∃(o' :Bool) (v6 v7 v8:Option Vl) (ps:List (Str×Str)) (S2:Sto),s' =lwS ns v1 o' ls v3 rs S.nx v6 v7 v8 S2∧ps.Nodup∧ps.length≤j∧(∀q∈ps,q.1∈ls∧q.2∈rs)∧S2.get S.nx=some (.lst (ps.map prD))∧S.nx<S2.nx) nl0 (fun _ _ _=>trivial) ⟨o,none,none,none,[],_,rfl,List.nodup_nil,by simp,(fun q hq=>by cases hq),aU,Nat.lt_succ_self _⟩ (fun j y s' ey hI=>?_) (fun s' hI=>?_)
 ·obtain ⟨o',v6,v7,v8,ps,S2,rfl,q1,q2,q3,q4,q5⟩:=hI
  have ey:(Z.upTo 0 (ns.length:Int).toNat)[j]? =some y:=ey
  rw [Int.toNat_natCast,iK,List.getElem?_map] at ey
  cases ej:(List.range ns.length)[j]? with
  | none=>rw [ej] at ey; cases ey
  | some i=>
   rw [ej] at ey
   cases ey
   have hj:j<ns.length:=by have:=(List.getElem?_eq_some_iff.mp ej).1; simpa using this
   have hi:i<ns.length:=List.mem_range.mp (List.mem_of_getElem? ej)
   simp! only []
   refine (lw_turn (i:=i) hB H q1 q2 q3 (by omega) (by omega) q4 q5).mono (fun fl s' h=>?_) fun _ _ _ h=>h
   obtain ⟨rfl,o2,v7',v8',ps',S',rfl,r1,r2,r3,r4,r5⟩:=h
   exact ⟨_,_,_,_,_,_,rfl,r1,r2,r3,r4,r5⟩
 ·have ll:(Z.upTo 0 (ns.length:Int).toNat).length=ns.length:=by rw [Int.toNat_natCast,iK,List.length_map,List.length_range]
  obtain ⟨o',v6,v7,v8,ps,S2,rfl,q1,q2,q3,q4,q5⟩:=hI
  have q2:ps.length≤(Z.upTo 0 (ns.length:Int).toNat).length:=q2
  rw [ll] at q2
  simp! only []
  exact lw_end hE H q1 (by omega) q3 q4 q5
theorem g_law (ns:List Int) (hl:ns.length≤63) (S:Sto):Wp (b_law ⟨[some (.d (.con (ns.map .int))),none,none,none,none,none,none,none,none],S⟩) (fun fl _=>fl= .rt (.d (.bl true))) XF:=by
 obtain ⟨u,u0,u1,eu⟩:=gV ns 0 (by decide) (by decide)
 obtain ⟨u,rfl⟩:=Int.eq_ofNat_of_zero_le u0
 obtain ⟨w,w0,w1,ew⟩:=gV ns 1 (by decide) (by decide)
 obtain ⟨w,rfl⟩:=Int.eq_ofNat_of_zero_le w0
 obtain ⟨m,hm⟩:∃m,m=u / 11%8:=⟨_,rfl⟩
 have em:(u:Int) / 11%8=(m:Int):=by rw [hm]; rfl
 obtain ⟨m',hm'⟩:∃m,m=w / 11%8:=⟨_,rfl⟩
 have em' :(w:Int) / 11%8=(m' :Int):=by rw [hm']; rfl
 obtain ⟨ls,nd,nm,ln,en⟩:=nI (n:=(u:Int)) (m:=m) (by omega) (by omega) (by omega)
 have y11:CDivW (u:Int) 11=True:=eq_true (ay (by decide) (by decide))
 have y11' :CDivW (w:Int) 11=True:=eq_true (ay (by decide) (by decide))
 have y88:CDivW (u:Int) 88=True:=eq_true (ay (by decide) (by decide))
 have b8:((0:Int)<8)=True:=by decide
 have b2:((0:Int)<2)=True:=by decide
 obtain ⟨x,x0,x1,hx⟩:∃x:Int,0≤x∧x<2147483629∧∀s:SD,ixK s (some (.lst [.int (w:Int), .int (u:Int)])) (some (.int ((u:Int) / 88%2)))= .ok (.d (.int x)) s:=by
  by_cases c:(u:Int) / 88%2=0
  ·rw [c]
   exact ⟨w,w0,w1,fun _=>rfl⟩
  ·have c:(u:Int) / 88%2=1:=by omega
   rw [c]
   exact ⟨u,u0,u1,fun _=>rfl⟩
 obtain ⟨rs,nd',nm',ln',en'⟩:=nI (n:=x) (m:=m') x0 (by omega) (by omega)
 obtain ⟨GB,hB⟩:∃g,g=lwB:=⟨_,rfl⟩
 obtain ⟨GE,hE⟩:∃g,g=lwE:=⟨_,rfl⟩
 obtain ⟨G4,h4⟩:∃g,g=(ai (aB (aN (cG zA0)) (zSt 5))
 (ai (cK (jB (zA (z1 bf (aa 0)) zA0)) (zSt 6) GB)
 GE)):=⟨_,rfl⟩
 have e0:b_law=(ai (aB (bg bh [] (zA (aa 0) (zA (zC (.int 0)) zA0))) (zSt 1))
 (ai (aB (bg cP [] (zA (aa 1) (zA (z2 dq (z2 eR (aa 1) (zC (.int 11))) (zC (.int 8))) zA0))) (zSt 2))
 (ai (aB (bg bh [] (zA (aa 0) (zA (zC (.int 1)) zA0))) (zSt 3))
 (ai (aB (bg cP [] (zA (z2 oIx (cG (zA (aa 3) (zA (aa 1) zA0))) (z2 dq (z2 eR (aa 1) (zC (.int 88))) (zC (.int 2)))) (zA (z2 dq (z2 eR (aa 3) (zC (.int 11))) (zC (.int 8))) zA0))) (zSt 4))
 G4)))):=by rw [h4,hB,hE]; rfl
 rw [e0]
 clear e0
 have fin:=law_q (ns:=ns) (v1:=some (.d (.int (u:Int)))) (v3:=some (.d (.int (w:Int)))) (o:=true) (S:=S) hB hE h4 hl (ls:=ls) (rs:=rs) ⟨nd,nd',nm,nm',by omega,by omega⟩
 simp! only [eu,ew,y11,y11',y88,b8,b2,em,em',en,hx,en']
 exact fin
end
end T

namespace T
open PySem PySem.Spec PyProof.Rows L2 M Z
open Classical
section
variable {K:PySem.W.Frag} {mg:Str→Option Value}
theorem jT {G:Gc} {p:Wr}:∀ns:List Int,Reps G p (ns.map D.int) (ns.map V.int)
 | []=>rfl
 | n::ns=>⟨.int n,ns.map V.int,rfl,rfl,jT ns⟩
theorem law_sp {vs:List V} {H:Hp} {Q:VK} {E:XK} (h:qg K vs H Q E):spF ⟨K,mg⟩ 1 v_law vs H Q (fun _ _ _=>False):=by
 obtain ⟨a,ns,rfl,hS,hl,hT,q⟩:=h
 have hA:∀t∈lamT,t.1∈([223]:List Addr):=by decide
 refine ⟨rfl,⟨fun _=>False,⟨fun _=>a,0,fun _=>False,H⟩,⟨0,fun _=>none⟩⟩,0,⟨fun _=>a,0,fun _=>False,H⟩,[],[],⟨0,fun _=>none⟩,[.con (ns.map .int)],rfl, ?_, ?_, ?_⟩
 ·exact {len:=rfl,pn:=rfl,nx:=Nat.le_refl _,ebd:=fun i d e=>(by cases e),old:=fun _ _=>rfl,bd:=fun i d e=>(by cases e),cel:=fun i d e=>(by cases e),inj:=fun i j d e h=>(by cases h),born:=fun i d e=>(by cases e),frm:=fun a h=>h.elim,kp:=fun b o e _=>⟨fun f=>f.elim, .inl e⟩,sub:=fun b o e=>⟨o,e⟩,grw:=fun _ _ _ h=>h,dom:=fun a h=>h.elim,ent:=fun k e q=>(by simp at q),own:=fun k x a q=>(by simp at q),sep:=fun j k x y a q=>(by simp at q),tb:=fun t ht=>⟨#[],⟨id,hT _ (hA t ht)⟩,True.intro,fun pos cv e=>(by simp [codeAmong] at e)⟩}
 ·exact ⟨.ref a,[],rfl,⟨a,ns.map V.int,rfl,hS.imp (fun r=>⟨id,r⟩) id,jT ns⟩,rfl⟩
 ·obtain ⟨fl,s',e,rfl⟩:=(g_law ns hl ⟨0,fun _=>none⟩).is
  have e2:v_law [.con (ns.map .int)] ⟨0,fun _=>none⟩= .ok (.d (.bl true)) s' :=pE e rfl
  rw [e2]
  intro v p' h'
  obtain ⟨v',e3,r⟩:=h'.ent 0 (.d (.bl true)) rfl
  cases e3
  obtain rfl:v= .bl true:=r
  exact q _
end
end T

open PySem PySem.Spec PyProof.Rows
namespace T
open PySem PySem.Spec PyProof.Rows L2 M Z
open PySem.W (CodeHd Frag findIn fnOf isFn keepIn makesIn mg_none_of mg_of)
section
variable {K:Frag} {mg:Str→Option Value} {f C:Addr} {q m x:Str} {st:Stmt} {ps:List Str}
theorem dfY (l:FnG K f q st) (g:mg q=some (.ref f)) (hb:∀{fd:FuncData},L2.Fun K q q st f fd→L2.Binds K fd ps []):Df K mg q st ps:=⟨⟨_,_,l.l.fn.choose_spec,g,hb l.l.fn.choose_spec⟩⟩
theorem dmY (l:FnM K C f m q st) (c:Cls K C) (hb:∀{fd:FuncData},L2.Fun K m q st f fd→L2.Binds K fd ps []):Dm K C m q st ps:=⟨⟨_,_,l.l.fn.choose_spec,c,⟨l.a,l.i,l.l.fn.choose_spec.kp⟩,hb l.l.fn.choose_spec⟩⟩
theorem dkY (l:FnAt K f "__init__" q st) (mk:makesIn K C=true) (a:findIn K (.ref C) "__init__" =some (some (.ref f))) (i:isFn K (.ref f)=true) (kc:keepIn K (.ref C)=true) (g:mg x=some (.ref C)) (hb:∀{fd:FuncData},L2.Fun K "__init__" q st f fd→L2.Binds K fd ps []):Dk K mg x C q st ps:=
 ⟨⟨_,_,l.fn.choose_spec,⟨mk,a,i,kc⟩,g,hb l.fn.choose_spec⟩⟩
end
section
variable {K:Frag} {f C c:Addr} {q m:Str} {st:Stmt} {ps:List Str}
theorem dmcY (l:FnMc K C f m q st c) (cl:Cls K C) (hb:∀{fd:FuncData},L2.Fun K m q st f fd→L2.Binds K fd ps []):DmL K C m q st ps c:=by
 obtain ⟨_,_,_,_,_,_,_,_,e,k1,k2⟩:=l.l.ex
 have F:=L2.fun_mk (st:=st) e k1 k2
 exact ⟨⟨_,_,F,cl,⟨l.a,l.i,F.kp⟩,hb F,rfl⟩⟩
end
local macro_rules | `(tactic| walk_at "b1") => `(tactic| exact fun F => F.binds fun _ _ _ _ _ _ us hl => match us, hl with | [_], _ => rfl)
local macro_rules | `(tactic| walk_at "b2") => `(tactic| exact fun F => F.binds fun _ _ _ _ _ _ us hl => match us, hl with | [_, _], _ => rfl)
local macro_rules | `(tactic| walk_at "b3") => `(tactic| exact fun F => F.binds fun _ _ _ _ _ _ us hl => match us, hl with | [_, _, _], _ => rfl)
local macro_rules | `(tactic| walk_at "b4") => `(tactic| exact fun F => F.binds fun _ _ _ _ _ _ us hl => match us, hl with | [_, _, _, _], _ => rfl)
set_option maxHeartbeats 0 in
theorem all_mk {l:PySem.W.OpenLaw} {w:World} {K:Frag} {h:Heap} {mg:Str→Option Value} {fa:Addr} (X:K.In h) (G:h.Ns mainGlobals mg) (hfa:mg "law" =some (.ref fa)) {Ca Cb Cc Cd:Addr} (q0:Q0 K Ca Cb Cc Cd) (q1:Q1 K Ca Cb Cc Cd) (q2:Q2 K Ca Cb Cc Cd) (q3:Q3 K Ca Cb Cc Cd):
  ∃fd:FuncData,(∀(s:Shared) (v:Value),BindsTo s fd ⟨[v],[]⟩ [("_law_script",v)])∧∀base:Heap,K.In base→base.Ns mainGlobals mg→TabsB base mg→FnOk l.prog w K mg base L2.CX0 7 fa fd ["_law_script"] (qg K):=by
 have e:=hfa.symm.trans (mg_of X G q3.a22)
 cases e
 have T:Txt K mg Ca Cb Cc Cd:=⟨mg_none_of X G q0.z_all,mg_none_of X G q0.z_bool,mg_none_of X G q0.z_enumerate,mg_none_of X G q0.z_isinstance,mg_none_of X G q0.z_len,mg_none_of X G q0.z_list,mg_none_of X G q0.z_min,mg_none_of X G q0.z_range,mg_none_of X G q0.z_set,mg_none_of X G q0.z_sorted,mg_none_of X G q0.z_str,mg_none_of X G q0.z_tuple,mg_none_of X G q0.z_zip,⟨_,mg_of X G q0.g_LETTERS,⟨_,rfl⟩⟩,⟨_,mg_of X G q0.g_MOST_LETTERS,⟨_,rfl⟩⟩,⟨_,mg_of X G q0.g_MOST_NAMES,⟨_,rfl⟩⟩,mg_of X G q0.m_Rest,mg_of X G q0.m_Paired,mg_of X G q0.m_Question,mg_of X G q0.m_Pairs,⟨q0.pg_CRest,q0.hd_CRest,q0.po_CRest,q0.sa_CRest⟩,⟨q0.pg_CPaired,q0.hd_CPaired,q0.po_CPaired,q0.sa_CPaired⟩,⟨q0.pg_CQuestion,q0.hd_CQuestion,q0.po_CQuestion,q0.sa_CQuestion⟩,⟨q0.pg_CPairs,q0.hd_CPairs,q0.po_CPairs,q0.sa_CPairs⟩,⟨q0.k0_Question1,q0.k0_Question2,q0.k0_Question3⟩,q0.n_cover_Paired,q1.n_friends_Pairs,q1.n_heads_Rest,q1.n_lefts_Pairs,q1.n_many_Rest,q1.n_pairs_Paired,q1.n_rights_Pairs,q1.n_rooms_Rest,q1.n_starts_Rest,⟨⟨q0.pg_CPaired,q0.hd_CPaired,q0.po_CPaired,q0.sa_CPaired⟩,q1.in_Paired1,q1.in_Paired2,q1.in_Paired3,q1.in_Paired4,Z.kit_self⟩,⟨⟨q0.pg_CPairs,q0.hd_CPairs,q0.po_CPairs,q0.sa_CPairs⟩,q1.in_Pairs1,q1.in_Pairs2,q1.in_Pairs3,q1.in_Pairs4,Z.kit_self⟩,⟨⟨q0.pg_CQuestion,q0.hd_CQuestion,q0.po_CQuestion,q0.sa_CQuestion⟩,q1.in_Question1,q1.in_Question2,q1.in_Question3,q1.in_Question4,Z.kit_self⟩,⟨q0.hd_CQuestion,q1.xty_Question,q1.xme_Question⟩,q1.so_Pairs_Question⟩
 have F4:L2.FunD K "put_arc" "Rest.put_arc" (defArgs aA) (defBody aA) (defScope aA) ([.int 0]:List V) [] q2.f4 _:=⟨⟨_,_,_,_,_,_,_,_,_,_,rfl,q2.l4,q2.c4, .inr ⟨by simp,q2.T4,_,_,_,rfl,q2.t4,rfl,(.cons ⟨_,rfl⟩ .nil)⟩, .inl rfl⟩,q2.k4⟩
 have D_Rest_put_arc:Dmd K Ca "put_arc" "Rest.put_arc" aA ["self","tail","head","room","back"] [.int 0]:=⟨_,_,F4,⟨q0.pg_CRest,q0.hd_CRest,q0.po_CRest,q0.sa_CRest⟩,⟨q2.a4,q2.i4,q2.k4⟩,fun j hj=>by
  match j,hj with
  | 0,_=>exact F4.binds1 4 0 (by simp) rfl fun _ _ _ _ _ _ _ us its h1 h2=>match us,its,h1,h2 with | [_,_,_,_],[_],_,_=>⟨_,rfl,rfl⟩
  | 1,_=>exact F4.binds1 5 1 (by simp) rfl fun _ _ _ _ _ _ _ us its h1 h2=>match us,its,h1,h2 with | [_,_,_,_,_],[_],_,_=>⟨_,rfl,rfl⟩
  | j+2,hj=>simp at hj⟩
 refine ⟨fnOf "law" "law" (defArgs eX) (defBody eX) (defScope eX) .none q3.kV22 q3.dc22 q3.pm22 q3.an22 q3.cd22 q3.ct22,fun s v=> .of_eq rfl,fun base _ _ TB=>?_⟩
 have D:DD K mg Ca Cb Cc Cd:=⟨dfY q3.l18 (mg_of X G q3.l18.a) (by walk_at "b2"),dfY q3.l19 (mg_of X G q3.l19.a) (by walk_at "b2"),dfY q2.l1 (mg_of X G q2.l1.a) (by walk_at "b2"),dfY q2.l2 (mg_of X G q2.l2.a) (by walk_at "b1"),dfY q3.l13 (mg_of X G q3.l13.a) (by walk_at "b1"),dfY q3.l14 (mg_of X G q3.l14.a) (by walk_at "b3"),dkY q3.l16 q3.mk16 q3.a16 q3.i16 q3.kc16 (mg_of X G q0.m_Pairs) (by walk_at "b4"),dkY q2.l3 q2.mk3 q2.a3 q2.i3 q2.kc3 (mg_of X G q0.m_Rest) (by walk_at "b2"),D_Rest_put_arc,dmY q2.l6 T.c_Rest (by walk_at "b3"),dmY q2.l7 T.c_Rest (by walk_at "b3"),dmY q2.l8 T.c_Rest (by walk_at "b3"),dmY q2.l9 T.c_Rest (by walk_at "b3"),dmY q2.l10 T.c_Rest (by walk_at "b3"),dmY q2.l5 T.c_Rest (by walk_at "b2"),dmY q2.l11 T.c_Rest (by walk_at "b2"),dkY q2.l12 q2.mk12 q2.a12 q2.i12 q2.kc12 (mg_of X G q0.m_Paired) (by walk_at "b3"),dmcY q3.l17 T.c_Pairs (by walk_at "b1"),dfY q3.l20 (mg_of X G q3.l20.a) (by walk_at "b4"),dfY q3.l21 (mg_of X G q3.l21.a) (by walk_at "b3"),dmY q3.l15 T.c_Question (by walk_at "b1")⟩
 exact (c_law T D TB (L2.fun_mk (st:=eX) q3.l22 q3.c22 q3.k22)).imp fun _ _ _ _ h=>law_sp h
open HR in
set_option maxHeartbeats 0 in
theorem cd225 (P:Params):(HR.ob P).lookup 225=some (C [v "answer" 493,v "Pairs.answer" 494,v "/claim/cut.py" 495,i 125 0,i 1 0,i 0 0,i 0 0,i 3 0,r 222,t,i 181 0,r 223,z,z,z,r 224,i 496 0,i 125 0,v "/claim/cut.py" 497]):=by kernel_rfl
set_option maxHeartbeats 0 in
theorem no223 (P:Params):(HR.ob P).lookup 223=none:=by kernel_rfl
theorem ch225 {P:Params} {h:Heap} (X:(HR.ob P).In h):CodeHd h 225 223:=⟨_,_,_,_,_,_,_,_,_,X _ _ (cd225 P),rfl,rfl,rfl,rfl,rfl,rfl,rfl,rfl,by decide⟩
end T
theorem T.inB {w:World} {h:Heap} (Y:(HR.oT w.params).In h):(HR.ob w.params).In h∧h.get? 223=some {cls:= .none,data:= .fields #[]}:=by
 refine ⟨fun a o e=>Y a o ?_,Y 223 _ rfl⟩
 unfold HR.oT
 show List.lookup a _=_
 rw [List.lookup_cons,show (a == 223)=false from beq_eq_false_iff_ne.mpr fun z=>by rw [z,T.no223] at e; cases e]
 show List.lookup a _=_
 exact e
set_option maxHeartbeats 0 in
theorem PySem.Challenge.cw_flowhall_k24_pairs_holds : PySem.Challenge.rw_flowhall_k24_pairs.Holds := by
 refine T.fin ?_
 refine LamX.walk_ofTsE (l:=PySem.Challenge.rw_flowhall_k24_pairs) (n:=63) (k:=7) (x:= "_law_script") (CX:=fun _=>L2.CX0) rfl (by decide) T.hdT9 ⟨rfl,by decide,by decide⟩ (fun w mg fa h Y G hmg=>?_) (fun _ _ _ _ _ z=>z)
 obtain ⟨X,hT⟩:=T.inB (PySem.W.kIn_of Y)
 obtain ⟨fd,hb,hF⟩:=T.all_mk (l:=PySem.Challenge.rw_flowhall_k24_pairs) (w:=w) X G hmg (T.q0 _) (T.q1 _) (T.q2 _) (T.q3 _)
 refine ⟨HR.ob w.params,X,fd,[(225,223)],T.qg _, ?_, ?_, ?_,hb,fun H a ns hl _ hH hS=>⟨a,ns,rfl,hS,hl, ?_,fun _=>rfl⟩,fun base a b tb=>hF base a b ⟨tb (225,223) (by simp)⟩⟩
 ·intro p hp
  simp only [List.mem_cons,List.not_mem_nil,or_false] at hp
  subst hp; exact hT
 ·intro p hp
  simp only [List.mem_cons,List.not_mem_nil,or_false] at hp
  subst hp; exact T.no223 _
 ·intro p hp
  simp only [List.mem_cons,List.not_mem_nil,or_false] at hp
  subst hp; exact T.ch225 X
 ·intro t ht
  simp only [List.mem_cons,List.not_mem_nil,or_false] at ht
  subst ht; exact hH (225,223) (by simp)

