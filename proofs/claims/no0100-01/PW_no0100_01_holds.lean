import PyProof.Rows.All
import Wide.All
import OpenK.AllK
import Wide.FinOn
import PySem.Challenge.RW_no0100_01
set_option Elab.async false
set_option maxRecDepth 100000
set_option maxHeartbeats 0
set_option linter.unusedVariables false
set_option linter.unusedSimpArgs false
set_option genSizeOf false
set_option genInjectivity false
set_option bootstrap.genMatcherCode false
namespace Mine.Internal
noncomputable section
open PySem PySem.W PyProof.Rows
noncomputable abbrev pw:Program:=PySem.Challenge.pw_no0100_01
noncomputable abbrev Zs (s:String):Str:=Str.ofString s
abbrev Wp:=Params
abbrev Ws:=Shared
noncomputable abbrev W7:=boot_o_7
noncomputable abbrev W8:=boot_o_8
noncomputable abbrev N:Value:=.none
noncomputable abbrev Zt (s:String)(n:Tok):Value:=.str (Str.ofString s) n
noncomputable abbrev Zo (c:String)(d:Data):Obj:=⟨.type c,none,d,#[]⟩
noncomputable abbrev Zn (d:Data):Obj:=⟨N,none,d,#[]⟩
noncomputable abbrev R (a:Addr):Value:=.ref a
noncomputable abbrev B (v:Obj)(l r:BT):BT:=.node v l r
noncomputable abbrev L:BT:=.nil
noncomputable abbrev E (P:Wp)(x:Str)(t:Tok)(v:Value):DictEntry:=⟨PyData.keyHash P x,.str x t,v⟩
noncomputable def Mh (l:List Stmt)(i:Nat):Stmt:=match l[i]? with|some s=>s|none=>.Pass ⟨0,0,0,0⟩
noncomputable def N5 (t:Stmt):Arguments×List Stmt×Scope:=if h:t.ctorIdx=0 then Stmt.FunctionDef.elim (motive_2:=fun _=>Arguments×List Stmt×Scope) t h fun _ a b _ _ _ s _ _ _=>(a,b,s) else (⟨[],[],none,[],[],none,[]⟩,[],⟨.module,[],false,false,[]⟩)
noncomputable def Sf (t:Stmt):List Stmt:=if h:t.ctorIdx=2 then Stmt.ClassDef.elim (motive_2:=fun _=>List Stmt) t h fun _ _ _ b _ _ _ _ _ _ _=>b else []
noncomputable def T0 (i:Nat):Arguments×List Stmt×Scope:=N5 (Mh pw.main.body i)
noncomputable def T1 (i j:Nat):Arguments×List Stmt×Scope:=N5 (Mh (Sf (Mh pw.main.body i)) j)
noncomputable abbrev Zw (t:Arguments×List Stmt×Scope)(name qual:Str)(dV kV doc pm:Value)(an:Option Addr)(cd ct:Value)(_ _:Addr):FuncData:=fnOf name qual t.1 t.2.1 t.2.2 dV kV doc pm an cd ct
noncomputable abbrev Zy (t:Arguments×List Stmt×Scope)(name qual:Str)(dV kV doc pm:Value)(an:Option Addr)(cd ct:Value)(g b:Addr):FuncData:={fnOf name qual t.1 t.2.1 t.2.2 dV kV doc pm an cd ct with globals:=g,builtins:=b}
noncomputable def o0 (P:Wp):Obj:=Zo "code" (.fields #[(Zt "<module>" 182),(Zt "<module>" 183),(Zt "/claim/cut.py" 184),(.int 1 0),(.int 0 0),(.int 0 0),(.int 0 0),(.int 0 0),(R 11),(.bool false),(.int 181 0),(R 12),N,N,N,N,(.int 185 0),(.int 1 0),(Zt "/claim/cut.py" 186)])
noncomputable def o1 (P:Wp):Obj:=⟨(.type "frame"),none,.plain,#[(some (R 13)),(some (R 3)),(some (R 3)),none,(some (Zt "__main__" 164)),none,(some (R 0))]⟩
noncomputable def hP (P:Wp):Heap:=⟨⟨[boot_o_0 P,boot_o_1 P,boot_o_2 P,boot_o_3 P,boot_o_4 P,boot_o_5 P,boot_o_6 P,W7 P,W8 P,boot_o_9 P,boot_o_10 P,W7 P,W8 P,o0 P,o1 P]⟩,{}⟩
noncomputable def tP (P:Wp):BT:=(B (boot_o_0 P) (B (boot_o_1 P) (B (boot_o_3 P) (B (W7 P) L L) (B (W7 P) L L)) (B (boot_o_5 P) (B (boot_o_9 P) L L) (B (o0 P) L L))) (B (boot_o_2 P) (B (boot_o_4 P) (B (W8 P) L L) (B (W8 P) L L)) (B (boot_o_6 P) (B (boot_o_10 P) L L) (B (o1 P) L L))))
noncomputable def o2 (P:Wp):Obj:=Zo "dict" (.dict #[E P (Zs "__name__") 165 (Zt "threepress.errors" 187),E P (Zs "__doc__") 166 N,E P (Zs "__package__") 167 N,E P (Zs "__loader__") 168 (.builtin "__main__.__loader__#opaque"),E P (Zs "__spec__") 169 N,E P (Zs "__annotations__") 170 (R 6),E P (Zs "__builtins__") 171 (R 4),E P (Zs "__file__") 173 (Zt "/claim/cut.py" 172),E P (Zs "__cached__") 174 N,E P (Zs "PressError") 216 (R 32),E P (Zs "CutShort") 232 (R 45),E P (Zs "BadCode") 248 (R 57),E P (Zs "BadArgument") 264 (R 69)] 13)
noncomputable def o3 (P:Wp):Obj:=Zn (.fields #[(.int 2 0),(.int 0 0),(R 20),(.int 7 0),(.int 0 0),(R 41),(.int 9 0),(.int 0 0),(R 53),(.int 11 0),(.int 0 0),(R 65)])
noncomputable def o4 (P:Wp):Obj:=Zo "tuple" (.seq #[(.type "ValueError")] 0)
noncomputable def o5 (P:Wp):Obj:=Zo "builtin_function_or_method" (.fields #[(.builtin "type.__prepare__"),(.type "type")])
noncomputable def o6 (P:Wp):Obj:=Zo "dict" (.dict #[E P (Zs "__module__") 196 (Zt "threepress.errors" 187),E P (Zs "__qualname__") 198 (Zt "PressError" 197),E P (Zs "__firstlineno__") 200 (.int 2 199),E P (Zs "__init__") 209 (R 29),E P (Zs "__static_attributes__") 211 (R 30)] 5)
noncomputable def o7 (P:Wp):Obj:=Zn (.fields #[(.int 4 0),(.int 4 0),(R 28)])
noncomputable def o8 (P:Wp):Obj:=Zo "code" (.fields #[(Zt "PressError" 191),(Zt "PressError" 192),(Zt "/claim/cut.py" 193),(.int 2 0),(.int 0 0),(.int 0 0),(.int 0 0),(.int 0 0),(R 18),(.bool false),(.int 181 0),(R 19),N,N,N,N,(.int 194 0),(.int 2 0),(Zt "/claim/cut.py" 195)])
noncomputable def o9 (P:Wp):Obj:=⟨(.type "frame"),none,.plain,#[(some (R 20)),(some (R 3)),(some (R 17)),none,(some (Zt "threepress.errors" 187)),none,(some (R 0))]⟩
noncomputable def Vt (P:Wp):Obj:=Zo "tuple" (.seq #[(Zt "" 201)] 0)
noncomputable def V0 (P:Wp):Obj:=Zo "tuple" (.seq #[(Zt "self" 205),(Zt "reason" 206)] 0)
noncomputable def U0 (P:Wp):Obj:=Zn (.func (Zy (T1 1 0) (Zs "__init__") (Zs "PressError.__init__") N N N N none N N 0 0))
noncomputable def V2 (P:Wp):Obj:=Zo "code" (.fields #[(Zt "__init__" 202),(Zt "PressError.__init__" 203),(Zt "/claim/cut.py" 204),(.int 4 0),(.int 2 0),(.int 0 0),(.int 0 0),(.int 3 0),(R 23),(.bool true),(.int 181 0),(R 24),N,(R 25),(R 26),(R 27),(.int 207 0),(.int 4 0),(Zt "/claim/cut.py" 208)])
noncomputable def Vu (P:Wp):Obj:=Zo "function" (.func (Zw (T1 1 0) (Zs "__init__") (Zs "PressError.__init__") (R 22) N N (Zt "threepress.errors" 187) none (R 28) N 3 0))
noncomputable def V3 (P:Wp):Obj:=Zo "tuple" (.seq #[(Zt "reason" 210)] 0)
noncomputable def V4 (P:Wp):Obj:=Zo "dict" (.dict #[E P (Zs "__module__") 196 (Zt "threepress.errors" 187),E P (Zs "__firstlineno__") 200 (.int 2 199),E P (Zs "__init__") 209 (R 29),E P (Zs "__static_attributes__") 211 (R 30),E P (Zs "__weakref__") 213 (R 33),E P (Zs "__doc__") 214 N] 3)
noncomputable def V5 (P:Wp):Obj:=⟨(.type "type"),none,(.cls ⟨(Zs "PressError"),[(.type "ValueError")],[(R 32),(.type "ValueError"),(.type "Exception"),(.type "BaseException"),(.type "object")],31,(Zs "PressError"),true,[],[(R 45),(R 57),(R 69)],false,none,false⟩),#[(some (R 15)),none,(some (Zt "PressError" 189)),(some (Zt "PressError" 197)),(some (.builtin "ValueError.__new__")),(some (.bool true))]⟩
noncomputable def V6 (P:Wp):Obj:=Zo "getset_descriptor" (.fields #[(Zt "__weakref__" 212),(R 32),(.builtin "ExceptionGroup.__weakref__"),N])
noncomputable def Tc (P:Wp):Obj:=Zo "super" (.fields #[(R 32),(R 32),(R 32)])
noncomputable def Td (P:Wp):Obj:=Zo "builtin_function_or_method" (.fields #[(.builtin "object.__init_subclass__"),(R 32)])
noncomputable def YT (P:Wp):Obj:=Zo "tuple" (.seq #[(R 32)] 0)
noncomputable def Te (P:Wp):Obj:=Zo "dict" (.dict #[E P (Zs "__module__") 224 (Zt "threepress.errors" 187),E P (Zs "__qualname__") 226 (Zt "CutShort" 225),E P (Zs "__firstlineno__") 228 (.int 7 227),E P (Zs "__static_attributes__") 229 (R 43)] 4)
noncomputable def Tf (P:Wp):Obj:=Zo "code" (.fields #[(Zt "CutShort" 219),(Zt "CutShort" 220),(Zt "/claim/cut.py" 221),(.int 7 0),(.int 0 0),(.int 0 0),(.int 0 0),(.int 0 0),(R 39),(.bool false),(.int 181 0),(R 40),N,N,N,N,(.int 222 0),(.int 7 0),(Zt "/claim/cut.py" 223)])
noncomputable def Tg (P:Wp):Obj:=⟨(.type "frame"),none,.plain,#[(some (R 41)),(some (R 3)),(some (R 38)),none,(some (Zt "threepress.errors" 187)),none,(some (R 0))]⟩
noncomputable def V7 (P:Wp):Obj:=Zo "dict" (.dict #[E P (Zs "__module__") 224 (Zt "threepress.errors" 187),E P (Zs "__firstlineno__") 228 (.int 7 227),E P (Zs "__static_attributes__") 229 (R 43),E P (Zs "__doc__") 230 N] 2)
noncomputable def Vv (P:Wp):Obj:=⟨(.type "type"),none,(.cls ⟨(Zs "CutShort"),[(R 32)],[(R 45),(R 32),(.type "ValueError"),(.type "Exception"),(.type "BaseException"),(.type "object")],44,(Zs "CutShort"),true,[],[],false,none,false⟩),#[(some (R 36)),none,(some (Zt "CutShort" 217)),(some (Zt "CutShort" 225)),(some (.builtin "ValueError.__new__")),(some (.bool true))]⟩
noncomputable def Th (P:Wp):Obj:=Zo "super" (.fields #[(R 45),(R 45),(R 45)])
noncomputable def Ti (P:Wp):Obj:=Zo "builtin_function_or_method" (.fields #[(.builtin "object.__init_subclass__"),(R 45)])
noncomputable def Tj (P:Wp):Obj:=Zo "dict" (.dict #[E P (Zs "__module__") 240 (Zt "threepress.errors" 187),E P (Zs "__qualname__") 242 (Zt "BadCode" 241),E P (Zs "__firstlineno__") 244 (.int 9 243),E P (Zs "__static_attributes__") 245 (R 55)] 4)
noncomputable def Tk (P:Wp):Obj:=Zo "code" (.fields #[(Zt "BadCode" 235),(Zt "BadCode" 236),(Zt "/claim/cut.py" 237),(.int 9 0),(.int 0 0),(.int 0 0),(.int 0 0),(.int 0 0),(R 51),(.bool false),(.int 181 0),(R 52),N,N,N,N,(.int 238 0),(.int 9 0),(Zt "/claim/cut.py" 239)])
noncomputable def Tl (P:Wp):Obj:=⟨(.type "frame"),none,.plain,#[(some (R 53)),(some (R 3)),(some (R 50)),none,(some (Zt "threepress.errors" 187)),none,(some (R 0))]⟩
noncomputable def V8 (P:Wp):Obj:=Zo "dict" (.dict #[E P (Zs "__module__") 240 (Zt "threepress.errors" 187),E P (Zs "__firstlineno__") 244 (.int 9 243),E P (Zs "__static_attributes__") 245 (R 55),E P (Zs "__doc__") 246 N] 2)
noncomputable def Vw (P:Wp):Obj:=⟨(.type "type"),none,(.cls ⟨(Zs "BadCode"),[(R 32)],[(R 57),(R 32),(.type "ValueError"),(.type "Exception"),(.type "BaseException"),(.type "object")],56,(Zs "BadCode"),true,[],[],false,none,false⟩),#[(some (R 48)),none,(some (Zt "BadCode" 233)),(some (Zt "BadCode" 241)),(some (.builtin "ValueError.__new__")),(some (.bool true))]⟩
noncomputable def Tm (P:Wp):Obj:=Zo "super" (.fields #[(R 57),(R 57),(R 57)])
noncomputable def Tn (P:Wp):Obj:=Zo "builtin_function_or_method" (.fields #[(.builtin "object.__init_subclass__"),(R 57)])
noncomputable def To (P:Wp):Obj:=Zo "dict" (.dict #[E P (Zs "__module__") 256 (Zt "threepress.errors" 187),E P (Zs "__qualname__") 258 (Zt "BadArgument" 257),E P (Zs "__firstlineno__") 260 (.int 11 259),E P (Zs "__static_attributes__") 261 (R 67)] 4)
noncomputable def Tp (P:Wp):Obj:=Zo "code" (.fields #[(Zt "BadArgument" 251),(Zt "BadArgument" 252),(Zt "/claim/cut.py" 253),(.int 11 0),(.int 0 0),(.int 0 0),(.int 0 0),(.int 0 0),(R 63),(.bool false),(.int 181 0),(R 64),N,N,N,N,(.int 254 0),(.int 11 0),(Zt "/claim/cut.py" 255)])
noncomputable def Tq (P:Wp):Obj:=⟨(.type "frame"),none,.plain,#[(some (R 65)),(some (R 3)),(some (R 62)),none,(some (Zt "threepress.errors" 187)),none,(some (R 0))]⟩
noncomputable def V9 (P:Wp):Obj:=Zo "dict" (.dict #[E P (Zs "__module__") 256 (Zt "threepress.errors" 187),E P (Zs "__firstlineno__") 260 (.int 11 259),E P (Zs "__static_attributes__") 261 (R 67),E P (Zs "__doc__") 262 N] 2)
noncomputable def Vx (P:Wp):Obj:=⟨(.type "type"),none,(.cls ⟨(Zs "BadArgument"),[(R 32)],[(R 69),(R 32),(.type "ValueError"),(.type "Exception"),(.type "BaseException"),(.type "object")],68,(Zs "BadArgument"),true,[],[],false,none,false⟩),#[(some (R 60)),none,(some (Zt "BadArgument" 249)),(some (Zt "BadArgument" 257)),(some (.builtin "ValueError.__new__")),(some (.bool true))]⟩
noncomputable def Tr (P:Wp):Obj:=Zo "super" (.fields #[(R 69),(R 69),(R 69)])
noncomputable def Ts (P:Wp):Obj:=Zo "builtin_function_or_method" (.fields #[(.builtin "object.__init_subclass__"),(R 69)])
noncomputable def t4 (P:Wp):BT:=(B (boot_o_0 P) (B (boot_o_1 P) (B (o2 P) (B (W7 P) (B (o4 P) (B (V4 P) (B (W7 P) L L) L) (B (Ti P) L L)) (B (W7 P) (B (W7 P) (B (Ts P) L L) L) (B (W7 P) L L))) (B (W7 P) (B (o7 P) (B (Td P) (B (W7 P) L L) L) (B (W7 P) L L)) (B (U0 P) (B (W7 P) L L) (B (Tn P) L L)))) (B (boot_o_5 P) (B (boot_o_9 P) (B (o6 P) (B (V6 P) (B (Tp P) L L) L) (B (o5 P) L L)) (B (V0 P) (B (Tf P) L L) (B (Vw P) L L))) (B (o0 P) (B (o9 P) (B (o5 P) (B (Vx P) L L) L) (B (Tk P) L L)) (B (Vu P) (B (Vv P) L L) (B (o5 P) L L))))) (B (boot_o_2 P) (B (boot_o_4 P) (B (W8 P) (B (o5 P) (B (V5 P) (B (W8 P) L L) L) (B (YT P) L L)) (B (W8 P) (B (W8 P) L L) (B (V8 P) L L))) (B (o3 P) (B (o8 P) (B (YT P) (B (V9 P) L L) L) (B (W8 P) L L)) (B (V2 P) (B (V7 P) L L) (B (YT P) L L)))) (B (boot_o_6 P) (B (boot_o_10 P) (B (W7 P) (B (Tc P) (B (Tq P) L L) L) (B (Tj P) L L)) (B (W7 P) (B (Tg P) L L) (B (Tm P) L L))) (B (o1 P) (B (Vt P) (B (Te P) (B (Tr P) L L) L) (B (Tl P) L L)) (B (V3 P) (B (Th P) L L) (B (To P) L L))))))
noncomputable def o43 (P:Wp):Obj:=Zo "dict" (.dict #[E P (Zs "__name__") 165 (Zt "threepress.prefix" 265),E P (Zs "__doc__") 166 N,E P (Zs "__package__") 167 N,E P (Zs "__loader__") 168 (.builtin "__main__.__loader__#opaque"),E P (Zs "__spec__") 169 N,E P (Zs "__annotations__") 170 (R 6),E P (Zs "__builtins__") 171 (R 4),E P (Zs "__file__") 173 (Zt "/claim/cut.py" 172),E P (Zs "__cached__") 174 N,E P (Zs "PressError") 216 (R 32),E P (Zs "CutShort") 232 (R 45),E P (Zs "BadCode") 248 (R 57),E P (Zs "BadArgument") 264 (R 69),E P (Zs "LONGEST") 268 (.int 15 267),E P (Zs "counts_by_length") 278 (R 78),E P (Zs "room_of") 287 (R 85),E P (Zs "room_left") 295 (R 92),E P (Zs "check_lengths") 307 (R 100),E P (Zs "greatest_length") 316 (R 107),E P (Zs "first_codes") 327 (R 114),E P (Zs "canonical") 337 (R 121),E P (Zs "by_length") 350 (R 128),E P (Zs "PrefixReader") 396 (R 153),E P (Zs "PrefixWriter") 443 (R 188)] 24)
noncomputable def o44 (P:Wp):Obj:=Zn (.fields #[(.int 2 0),(.int 0 0),(R 20),(.int 7 0),(.int 0 0),(R 41),(.int 9 0),(.int 0 0),(R 53),(.int 11 0),(.int 0 0),(R 65),(.int 15 0),(.int 0 0),(R 77),(.int 22 0),(.int 0 0),(R 84),(.int 27 0),(.int 0 0),(R 91),(.int 29 0),(.int 0 0),(R 99),(.int 41 0),(.int 0 0),(R 106),(.int 47 0),(.int 0 0),(R 113),(.int 54 0),(.int 0 0),(R 120),(.int 64 0),(.int 0 0),(R 127),(.int 76 0),(.int 0 0),(R 134),(.int 94 0),(.int 0 0),(R 163)])
noncomputable def Tt (P:Wp):Obj:=Zo "tuple" (.seq #[(Zt "lengths" 272),(Zt "longest" 273),(Zt "found" 274),(Zt "length" 275)] 0)
noncomputable def KW (P:Wp):Obj:=Zn (.func (Zy (T0 7) (Zs "counts_by_length") (Zs "counts_by_length") N N N N none N N 0 0))
noncomputable def Tu (P:Wp):Obj:=Zo "code" (.fields #[(Zt "counts_by_length" 269),(Zt "counts_by_length" 270),(Zt "/claim/cut.py" 271),(.int 15 0),(.int 2 0),(.int 0 0),(.int 0 0),(.int 3 0),(R 72),(.bool true),(.int 181 0),(R 73),N,(R 74),(R 75),(R 76),(.int 276 0),(.int 15 0),(Zt "/claim/cut.py" 277)])
noncomputable def Ua (P:Wp):Obj:=Zo "function" (.func (Zw (T0 7) (Zs "counts_by_length") (Zs "counts_by_length") N N N (Zt "threepress.prefix" 265) none (R 77) N 3 0))
noncomputable def Tv (P:Wp):Obj:=Zo "tuple" (.seq #[(Zt "counts" 282),(Zt "left" 283),(Zt "count" 284)] 0)
noncomputable def KX (P:Wp):Obj:=Zn (.func (Zy (T0 8) (Zs "room_of") (Zs "room_of") N N N N none N N 0 0))
noncomputable def Tw (P:Wp):Obj:=Zo "code" (.fields #[(Zt "room_of" 279),(Zt "room_of" 280),(Zt "/claim/cut.py" 281),(.int 22 0),(.int 1 0),(.int 0 0),(.int 0 0),(.int 3 0),(R 79),(.bool true),(.int 181 0),(R 80),N,(R 81),(R 82),(R 83),(.int 285 0),(.int 22 0),(Zt "/claim/cut.py" 286)])
noncomputable def Ub (P:Wp):Obj:=Zo "function" (.func (Zw (T0 8) (Zs "room_of") (Zs "room_of") N N N (Zt "threepress.prefix" 265) none (R 84) N 3 0))
noncomputable def Tx (P:Wp):Obj:=Zo "tuple" (.seq #[(Zt "lengths" 291),(Zt "longest" 292)] 0)
noncomputable def KY (P:Wp):Obj:=Zn (.func (Zy (T0 9) (Zs "room_left") (Zs "room_left") N N N N none N N 0 0))
noncomputable def Ty (P:Wp):Obj:=Zo "code" (.fields #[(Zt "room_left" 288),(Zt "room_left" 289),(Zt "/claim/cut.py" 290),(.int 27 0),(.int 2 0),(.int 0 0),(.int 0 0),(.int 3 0),(R 86),(.bool true),(.int 181 0),(R 87),N,(R 88),(R 89),(R 90),(.int 293 0),(.int 27 0),(Zt "/claim/cut.py" 294)])
noncomputable def Uc (P:Wp):Obj:=Zo "function" (.func (Zw (T0 9) (Zs "room_left") (Zs "room_left") N N N (Zt "threepress.prefix" 265) none (R 91) N 3 0))
noncomputable def Ud (P:Wp):Obj:=Zo "tuple" (.seq #[(.bool false)] 0)
noncomputable def Tz (P:Wp):Obj:=Zo "tuple" (.seq #[(Zt "lengths" 299),(Zt "longest" 300),(Zt "lone" 301),(Zt "counts" 302),(Zt "used" 303),(Zt "left" 304)] 0)
noncomputable def KZ (P:Wp):Obj:=Zn (.func (Zy (T0 10) (Zs "check_lengths") (Zs "check_lengths") N N N N none N N 0 0))
noncomputable def TA (P:Wp):Obj:=Zo "code" (.fields #[(Zt "check_lengths" 296),(Zt "check_lengths" 297),(Zt "/claim/cut.py" 298),(.int 29 0),(.int 3 0),(.int 0 0),(.int 0 0),(.int 3 0),(R 94),(.bool true),(.int 181 0),(R 95),N,(R 96),(R 97),(R 98),(.int 305 0),(.int 29 0),(Zt "/claim/cut.py" 306)])
noncomputable def Ue (P:Wp):Obj:=Zo "function" (.func (Zw (T0 10) (Zs "check_lengths") (Zs "check_lengths") (R 93) N N (Zt "threepress.prefix" 265) none (R 99) N 3 0))
noncomputable def TB (P:Wp):Obj:=Zo "tuple" (.seq #[(Zt "lengths" 311),(Zt "most" 312),(Zt "length" 313)] 0)
noncomputable def K0 (P:Wp):Obj:=Zn (.func (Zy (T0 11) (Zs "greatest_length") (Zs "greatest_length") N N N N none N N 0 0))
noncomputable def TC (P:Wp):Obj:=Zo "code" (.fields #[(Zt "greatest_length" 308),(Zt "greatest_length" 309),(Zt "/claim/cut.py" 310),(.int 41 0),(.int 1 0),(.int 0 0),(.int 0 0),(.int 3 0),(R 101),(.bool true),(.int 181 0),(R 102),N,(R 103),(R 104),(R 105),(.int 314 0),(.int 41 0),(Zt "/claim/cut.py" 315)])
noncomputable def Uf (P:Wp):Obj:=Zo "function" (.func (Zw (T0 11) (Zs "greatest_length") (Zs "greatest_length") N N N (Zt "threepress.prefix" 265) none (R 106) N 3 0))
noncomputable def TF (P:Wp):Obj:=Zo "tuple" (.seq #[(Zt "counts" 320),(Zt "found" 321),(Zt "code" 322),(Zt "length" 323),(Zt "shorter" 324)] 0)
noncomputable def K1 (P:Wp):Obj:=Zn (.func (Zy (T0 12) (Zs "first_codes") (Zs "first_codes") N N N N none N N 0 0))
noncomputable def TG (P:Wp):Obj:=Zo "code" (.fields #[(Zt "first_codes" 317),(Zt "first_codes" 318),(Zt "/claim/cut.py" 319),(.int 47 0),(.int 1 0),(.int 0 0),(.int 0 0),(.int 3 0),(R 108),(.bool true),(.int 181 0),(R 109),N,(R 110),(R 111),(R 112),(.int 325 0),(.int 47 0),(Zt "/claim/cut.py" 326)])
noncomputable def Ug (P:Wp):Obj:=Zo "function" (.func (Zw (T0 12) (Zs "first_codes") (Zs "first_codes") N N N (Zt "threepress.prefix" 265) none (R 113) N 3 0))
noncomputable def TH (P:Wp):Obj:=Zo "tuple" (.seq #[(Zt "lengths" 331),(Zt "following" 332),(Zt "codes" 333),(Zt "length" 334)] 0)
noncomputable def K2 (P:Wp):Obj:=Zn (.func (Zy (T0 13) (Zs "canonical") (Zs "canonical") N N N N none N N 0 0))
noncomputable def TJ (P:Wp):Obj:=Zo "code" (.fields #[(Zt "canonical" 328),(Zt "canonical" 329),(Zt "/claim/cut.py" 330),(.int 54 0),(.int 1 0),(.int 0 0),(.int 0 0),(.int 3 0),(R 115),(.bool true),(.int 181 0),(R 116),N,(R 117),(R 118),(R 119),(.int 335 0),(.int 54 0),(Zt "/claim/cut.py" 336)])
noncomputable def Uh (P:Wp):Obj:=Zo "function" (.func (Zw (T0 13) (Zs "canonical") (Zs "canonical") N N N (Zt "threepress.prefix" 265) none (R 120) N 3 0))
noncomputable def TK (P:Wp):Obj:=Zo "tuple" (.seq #[(Zt "lengths" 341),(Zt "counts" 342),(Zt "places" 343),(Zt "used" 344),(Zt "length" 345),(Zt "found" 346),(Zt "symbol" 347)] 0)
noncomputable def K3 (P:Wp):Obj:=Zn (.func (Zy (T0 14) (Zs "by_length") (Zs "by_length") N N N N none N N 0 0))
noncomputable def TL (P:Wp):Obj:=Zo "code" (.fields #[(Zt "by_length" 338),(Zt "by_length" 339),(Zt "/claim/cut.py" 340),(.int 64 0),(.int 1 0),(.int 0 0),(.int 0 0),(.int 3 0),(R 122),(.bool true),(.int 181 0),(R 123),N,(R 124),(R 125),(R 126),(.int 348 0),(.int 64 0),(Zt "/claim/cut.py" 349)])
noncomputable def Ui (P:Wp):Obj:=Zo "function" (.func (Zw (T0 14) (Zs "by_length") (Zs "by_length") N N N (Zt "threepress.prefix" 265) none (R 127) N 3 0))
noncomputable def K4 (P:Wp):Obj:=Zo "dict" (.dict #[E P (Zs "__module__") 358 (Zt "threepress.prefix" 265),E P (Zs "__qualname__") 360 (Zt "PrefixReader" 359),E P (Zs "__firstlineno__") 362 (.int 76 361),E P (Zs "__init__") 372 (R 143),E P (Zs "read") 385 (R 150),E P (Zs "__static_attributes__") 389 (R 151)] 6)
noncomputable def K5 (P:Wp):Obj:=Zn (.fields #[(.int 78 0),(.int 4 0),(R 142),(.int 84 0),(.int 4 0),(R 149)])
noncomputable def K6 (P:Wp):Obj:=Zo "code" (.fields #[(Zt "PrefixReader" 353),(Zt "PrefixReader" 354),(Zt "/claim/cut.py" 355),(.int 76 0),(.int 0 0),(.int 0 0),(.int 0 0),(.int 0 0),(R 132),(.bool false),(.int 181 0),(R 133),N,N,N,N,(.int 356 0),(.int 76 0),(Zt "/claim/cut.py" 357)])
noncomputable def K7 (P:Wp):Obj:=⟨(.type "frame"),none,.plain,#[(some (R 134)),(some (R 3)),(some (R 131)),none,(some (Zt "threepress.prefix" 265)),none,(some (R 0))]⟩
noncomputable def WX (P:Wp):Obj:=Zo "tuple" (.seq #[(.int 15 267),(.bool false)] 0)
noncomputable def TM (P:Wp):Obj:=Zo "tuple" (.seq #[(Zt "self" 366),(Zt "lengths" 367),(Zt "longest" 368),(Zt "lone" 369)] 0)
noncomputable def K8 (P:Wp):Obj:=Zn (.func (Zy (T1 15 0) (Zs "__init__") (Zs "PrefixReader.__init__") N N N N none N N 0 0))
noncomputable def TN (P:Wp):Obj:=Zo "code" (.fields #[(Zt "__init__" 363),(Zt "PrefixReader.__init__" 364),(Zt "/claim/cut.py" 365),(.int 78 0),(.int 4 0),(.int 0 0),(.int 0 0),(.int 3 0),(R 137),(.bool true),(.int 181 0),(R 138),N,(R 139),(R 140),(R 141),(.int 370 0),(.int 78 0),(Zt "/claim/cut.py" 371)])
noncomputable def WY (P:Wp):Obj:=Zo "function" (.func (Zw (T1 15 0) (Zs "__init__") (Zs "PrefixReader.__init__") (R 136) N N (Zt "threepress.prefix" 265) none (R 142) N 3 0))
noncomputable def TO (P:Wp):Obj:=Zo "tuple" (.seq #[(Zt "self" 376),(Zt "bits" 377),(Zt "code" 378),(Zt "first" 379),(Zt "place" 380),(Zt "length" 381),(Zt "count" 382)] 0)
noncomputable def K9 (P:Wp):Obj:=Zn (.func (Zy (T1 15 1) (Zs "read") (Zs "PrefixReader.read") N N N N none N N 0 0))
noncomputable def TP (P:Wp):Obj:=Zo "code" (.fields #[(Zt "read" 373),(Zt "PrefixReader.read" 374),(Zt "/claim/cut.py" 375),(.int 84 0),(.int 2 0),(.int 0 0),(.int 0 0),(.int 3 0),(R 144),(.bool true),(.int 181 0),(R 145),N,(R 146),(R 147),(R 148),(.int 383 0),(.int 84 0),(Zt "/claim/cut.py" 384)])
noncomputable def Uj (P:Wp):Obj:=Zo "function" (.func (Zw (T1 15 1) (Zs "read") (Zs "PrefixReader.read") N N N (Zt "threepress.prefix" 265) none (R 149) N 3 0))
noncomputable def TR (P:Wp):Obj:=Zo "tuple" (.seq #[(Zt "counts" 386),(Zt "most" 387),(Zt "symbols" 388)] 0)
noncomputable def TS (P:Wp):Obj:=Zo "dict" (.dict #[E P (Zs "__module__") 358 (Zt "threepress.prefix" 265),E P (Zs "__firstlineno__") 362 (.int 76 361),E P (Zs "__init__") 372 (R 143),E P (Zs "read") 385 (R 150),E P (Zs "__static_attributes__") 389 (R 151),E P (Zs "__dict__") 391 (R 154),E P (Zs "__weakref__") 393 (R 155),E P (Zs "__doc__") 394 N] 4)
noncomputable def TT (P:Wp):Obj:=⟨(.type "type"),none,(.cls ⟨(Zs "PrefixReader"),[(.type "object")],[(R 153),(.type "object")],152,(Zs "PrefixReader"),true,[],[],false,none,false⟩),#[none,none,(some (Zt "PrefixReader" 351)),(some (Zt "PrefixReader" 359)),(some (.builtin "object.__new__")),(some (.bool true))]⟩
noncomputable def TU (P:Wp):Obj:=Zo "getset_descriptor" (.fields #[(Zt "__dict__" 390),(R 153),(.builtin "function.__dict__"),(.builtin "function.__dict__#set")])
noncomputable def TV (P:Wp):Obj:=Zo "getset_descriptor" (.fields #[(Zt "__weakref__" 392),(R 153),(.builtin "ExceptionGroup.__weakref__"),N])
noncomputable def Ja (P:Wp):Obj:=Zo "super" (.fields #[(R 153),(R 153),(R 153)])
noncomputable def Jb (P:Wp):Obj:=Zo "builtin_function_or_method" (.fields #[(.builtin "object.__init_subclass__"),(R 153)])
noncomputable def Jc (P:Wp):Obj:=Zo "dict" (.dict #[E P (Zs "__module__") 404 (Zt "threepress.prefix" 265),E P (Zs "__qualname__") 406 (Zt "PrefixWriter" 405),E P (Zs "__firstlineno__") 408 (.int 94 407),E P (Zs "__init__") 416 (R 171),E P (Zs "cost") 424 (R 178),E P (Zs "write") 433 (R 185),E P (Zs "__static_attributes__") 436 (R 186)] 7)
noncomputable def Jd (P:Wp):Obj:=Zn (.fields #[(.int 96 0),(.int 4 0),(R 170),(.int 100 0),(.int 4 0),(R 177),(.int 105 0),(.int 4 0),(R 184)])
noncomputable def GO (P:Wp):Obj:=Zo "code" (.fields #[(Zt "PrefixWriter" 399),(Zt "PrefixWriter" 400),(Zt "/claim/cut.py" 401),(.int 94 0),(.int 0 0),(.int 0 0),(.int 0 0),(.int 0 0),(R 161),(.bool false),(.int 181 0),(R 162),N,N,N,N,(.int 402 0),(.int 94 0),(Zt "/claim/cut.py" 403)])
noncomputable def GP (P:Wp):Obj:=⟨(.type "frame"),none,.plain,#[(some (R 163)),(some (R 3)),(some (R 160)),none,(some (Zt "threepress.prefix" 265)),none,(some (R 0))]⟩
noncomputable def UP (P:Wp):Obj:=Zo "tuple" (.seq #[(Zt "self" 412),(Zt "lengths" 413)] 0)
noncomputable def GQ (P:Wp):Obj:=Zn (.func (Zy (T1 16 0) (Zs "__init__") (Zs "PrefixWriter.__init__") N N N N none N N 0 0))
noncomputable def UQ (P:Wp):Obj:=Zo "code" (.fields #[(Zt "__init__" 409),(Zt "PrefixWriter.__init__" 410),(Zt "/claim/cut.py" 411),(.int 96 0),(.int 2 0),(.int 0 0),(.int 0 0),(.int 3 0),(R 165),(.bool true),(.int 181 0),(R 166),N,(R 167),(R 168),(R 169),(.int 414 0),(.int 96 0),(Zt "/claim/cut.py" 415)])
noncomputable def VY (P:Wp):Obj:=Zo "function" (.func (Zw (T1 16 0) (Zs "__init__") (Zs "PrefixWriter.__init__") N N N (Zt "threepress.prefix" 265) none (R 170) N 3 0))
noncomputable def UR (P:Wp):Obj:=Zo "tuple" (.seq #[(Zt "self" 420),(Zt "symbol" 421)] 0)
noncomputable def GR (P:Wp):Obj:=Zn (.func (Zy (T1 16 1) (Zs "cost") (Zs "PrefixWriter.cost") N N N N none N N 0 0))
noncomputable def US (P:Wp):Obj:=Zo "code" (.fields #[(Zt "cost" 417),(Zt "PrefixWriter.cost" 418),(Zt "/claim/cut.py" 419),(.int 100 0),(.int 2 0),(.int 0 0),(.int 0 0),(.int 3 0),(R 172),(.bool true),(.int 181 0),(R 173),N,(R 174),(R 175),(R 176),(.int 422 0),(.int 100 0),(Zt "/claim/cut.py" 423)])
noncomputable def VZ (P:Wp):Obj:=Zo "function" (.func (Zw (T1 16 1) (Zs "cost") (Zs "PrefixWriter.cost") N N N (Zt "threepress.prefix" 265) none (R 177) N 3 0))
noncomputable def UT (P:Wp):Obj:=Zo "tuple" (.seq #[(Zt "self" 428),(Zt "writer" 429),(Zt "symbol" 430)] 0)
noncomputable def GS (P:Wp):Obj:=Zn (.func (Zy (T1 16 2) (Zs "write") (Zs "PrefixWriter.write") N N N N none N N 0 0))
noncomputable def UU (P:Wp):Obj:=Zo "code" (.fields #[(Zt "write" 425),(Zt "PrefixWriter.write" 426),(Zt "/claim/cut.py" 427),(.int 105 0),(.int 3 0),(.int 0 0),(.int 0 0),(.int 3 0),(R 179),(.bool true),(.int 181 0),(R 180),N,(R 181),(R 182),(R 183),(.int 431 0),(.int 105 0),(Zt "/claim/cut.py" 432)])
noncomputable def V1 (P:Wp):Obj:=Zo "function" (.func (Zw (T1 16 2) (Zs "write") (Zs "PrefixWriter.write") N N N (Zt "threepress.prefix" 265) none (R 184) N 3 0))
noncomputable def UV (P:Wp):Obj:=Zo "tuple" (.seq #[(Zt "codes" 434),(Zt "lengths" 435)] 0)
noncomputable def UW (P:Wp):Obj:=Zo "dict" (.dict #[E P (Zs "__module__") 404 (Zt "threepress.prefix" 265),E P (Zs "__firstlineno__") 408 (.int 94 407),E P (Zs "__init__") 416 (R 171),E P (Zs "cost") 424 (R 178),E P (Zs "write") 433 (R 185),E P (Zs "__static_attributes__") 436 (R 186),E P (Zs "__dict__") 438 (R 189),E P (Zs "__weakref__") 440 (R 190),E P (Zs "__doc__") 441 N] 4)
noncomputable def UX (P:Wp):Obj:=⟨(.type "type"),none,(.cls ⟨(Zs "PrefixWriter"),[(.type "object")],[(R 188),(.type "object")],187,(Zs "PrefixWriter"),true,[],[],false,none,false⟩),#[none,none,(some (Zt "PrefixWriter" 397)),(some (Zt "PrefixWriter" 405)),(some (.builtin "object.__new__")),(some (.bool true))]⟩
noncomputable def UY (P:Wp):Obj:=Zo "getset_descriptor" (.fields #[(Zt "__dict__" 437),(R 188),(.builtin "function.__dict__"),(.builtin "function.__dict__#set")])
noncomputable def UZ (P:Wp):Obj:=Zo "getset_descriptor" (.fields #[(Zt "__weakref__" 439),(R 188),(.builtin "ExceptionGroup.__weakref__"),N])
noncomputable def GT (P:Wp):Obj:=Zo "super" (.fields #[(R 188),(R 188),(R 188)])
noncomputable def GU (P:Wp):Obj:=Zo "builtin_function_or_method" (.fields #[(.builtin "object.__init_subclass__"),(R 188)])
noncomputable def t16 (P:Wp):BT:=(B (boot_o_0 P) (B (boot_o_1 P) (B (o43 P) (B (W7 P) (B (o4 P) (B (V4 P) (B (W7 P) (B (TL P) L L) (B (GT P) L L)) (B (W8 P) (B (o5 P) L L) L)) (B (Ti P) (B (W7 P) (B (WY P) L L) L) (B (W7 P) (B (W7 P) L L) L))) (B (W7 P) (B (W7 P) (B (Ts P) (B (K7 P) L L) L) (B (TB P) (B (UP P) L L) L)) (B (W7 P) (B (W8 P) (B (TR P) L L) L) (B (K2 P) (B (GS P) L L) L)))) (B (W7 P) (B (o7 P) (B (Td P) (B (W7 P) (B (K4 P) L L) L) (B (TA P) (B (GO P) L L) L)) (B (W7 P) (B (KX P) (B (W7 P) L L) L) (B (W7 P) (B (W7 P) L L) L))) (B (U0 P) (B (W7 P) (B (W7 P) (B (TM P) L L) L) (B (Uf P) (B (VY P) L L) L)) (B (Tn P) (B (Ty P) (B (TV P) L L) L) (B (W8 P) (B (UW P) L L) L))))) (B (boot_o_5 P) (B (boot_o_9 P) (B (o6 P) (B (V6 P) (B (Tp P) (B (W7 P) L L) L) (B (W7 P) (B (W7 P) L L) L)) (B (o5 P) (B (Tv P) (B (W8 P) L L) L) (B (TG P) (B (US P) L L) L))) (B (V0 P) (B (Tf P) (B (W8 P) (B (W7 P) L L) L) (B (K0 P) (B (GQ P) L L) L)) (B (Vw P) (B (W7 P) (B (TT P) L L) L) (B (Uh P) (B (V1 P) L L) L)))) (B (o0 P) (B (o9 P) (B (o5 P) (B (Vx P) (B (K5 P) L L) L) (B (W7 P) (B (W7 P) L L) L)) (B (Tk P) (B (Ub P) (B (TP P) L L) L) (B (TH P) (B (UT P) L L) L))) (B (Vu P) (B (Vv P) (B (Tu P) (B (K8 P) L L) L) (B (W8 P) (B (W8 P) L L) L)) (B (o5 P) (B (Ud P) (B (Jb P) L L) L) (B (W7 P) (B (UY P) L L) L)))))) (B (boot_o_2 P) (B (boot_o_4 P) (B (W8 P) (B (o5 P) (B (V5 P) (B (W8 P) (B (Ui P) L L) (B (GU P) L L)) (B (Tz P) (B (Jc P) L L) L)) (B (YT P) (B (W8 P) (B (W7 P) L L) L) (B (K1 P) (B (GR P) L L) L))) (B (W8 P) (B (W8 P) (B (W7 P) (B (WX P) L L) L) (B (W7 P) (B (W7 P) L L) L)) (B (V8 P) (B (Tx P) (B (TS P) L L) L) (B (TJ P) (B (UU P) L L) L)))) (B (o44 P) (B (o8 P) (B (YT P) (B (V9 P) (B (W7 P) L L) L) (B (Ue P) (B (GP P) L L) L)) (B (W8 P) (B (Tw P) (B (K9 P) L L) L) (B (W8 P) (B (W8 P) L L) L))) (B (V2 P) (B (V7 P) (B (KW P) (B (W7 P) L L) L) (B (W7 P) (B (W7 P) L L) L)) (B (YT P) (B (Uc P) (B (Ja P) L L) L) (B (TK P) (B (UX P) L L) L))))) (B (boot_o_6 P) (B (boot_o_10 P) (B (W7 P) (B (Tc P) (B (Tq P) (B (o5 P) L L) L) (B (KZ P) (B (Jd P) L L) L)) (B (Tj P) (B (W7 P) (B (TO P) L L) L) (B (Ug P) (B (VZ P) L L) L))) (B (W7 P) (B (Tg P) (B (Tt P) (B (W8 P) L L) L) (B (TC P) (B (UQ P) L L) L)) (B (Tm P) (B (KY P) (B (TU P) L L) L) (B (W7 P) (B (UV P) L L) L)))) (B (o1 P) (B (Vt P) (B (Te P) (B (Tr P) (B (K6 P) L L) L) (B (W8 P) (B (W8 P) L L) L)) (B (Tl P) (B (W7 P) (B (Uj P) L L) L) (B (W7 P) (B (W7 P) L L) L))) (B (V3 P) (B (Th P) (B (Ua P) (B (TN P) L L) L) (B (TF P) (B (UR P) L L) L)) (B (To P) (B (W7 P) (B (W7 P) L L) L) (B (K3 P) (B (UZ P) L L) L)))))))
noncomputable def Zeb (P:Wp):Obj:=Zo "dict" (.dict #[E P (Zs "__name__") 165 (Zt "threepress.bits" 444),E P (Zs "__doc__") 166 N,E P (Zs "__package__") 167 N,E P (Zs "__loader__") 168 (.builtin "__main__.__loader__#opaque"),E P (Zs "__spec__") 169 N,E P (Zs "__annotations__") 170 (R 6),E P (Zs "__builtins__") 171 (R 4),E P (Zs "__file__") 173 (Zt "/claim/cut.py" 172),E P (Zs "__cached__") 174 N,E P (Zs "PressError") 216 (R 32),E P (Zs "CutShort") 232 (R 45),E P (Zs "BadCode") 248 (R 57),E P (Zs "BadArgument") 264 (R 69),E P (Zs "LONGEST") 268 (.int 15 267),E P (Zs "counts_by_length") 278 (R 78),E P (Zs "room_of") 287 (R 85),E P (Zs "room_left") 295 (R 92),E P (Zs "check_lengths") 307 (R 100),E P (Zs "greatest_length") 316 (R 107),E P (Zs "first_codes") 327 (R 114),E P (Zs "canonical") 337 (R 121),E P (Zs "by_length") 350 (R 128),E P (Zs "PrefixReader") 396 (R 153),E P (Zs "PrefixWriter") 443 (R 188),E P (Zs "need_count") 452 (R 199),E P (Zs "need_value") 460 (R 206),E P (Zs "end_of") 470 (R 213),E P (Zs "gathered") 484 (R 220),E P (Zs "LowReader") 587 (R 301)] 29)
noncomputable def Zec (P:Wp):Obj:=Zn (.fields #[(.int 2 0),(.int 0 0),(R 20),(.int 7 0),(.int 0 0),(R 41),(.int 9 0),(.int 0 0),(R 53),(.int 11 0),(.int 0 0),(R 65),(.int 15 0),(.int 0 0),(R 77),(.int 22 0),(.int 0 0),(R 84),(.int 27 0),(.int 0 0),(R 91),(.int 29 0),(.int 0 0),(R 99),(.int 41 0),(.int 0 0),(R 106),(.int 47 0),(.int 0 0),(R 113),(.int 54 0),(.int 0 0),(R 120),(.int 64 0),(.int 0 0),(R 127),(.int 76 0),(.int 0 0),(R 134),(.int 94 0),(.int 0 0),(R 163),(.int 110 0),(.int 0 0),(R 198),(.int 113 0),(.int 0 0),(R 205),(.int 117 0),(.int 0 0),(R 212),(.int 122 0),(.int 0 0),(R 219),(.int 130 0),(.int 0 0),(R 226)])
noncomputable def GV (P:Wp):Obj:=Zo "tuple" (.seq #[(Zt "count" 449)] 0)
noncomputable def HG (P:Wp):Obj:=Zn (.func (Zy (T0 18) (Zs "need_count") (Zs "need_count") N N N N none N N 0 0))
noncomputable def GW (P:Wp):Obj:=Zo "code" (.fields #[(Zt "need_count" 446),(Zt "need_count" 447),(Zt "/claim/cut.py" 448),(.int 110 0),(.int 1 0),(.int 0 0),(.int 0 0),(.int 3 0),(R 193),(.bool true),(.int 181 0),(R 194),N,(R 195),(R 196),(R 197),(.int 450 0),(.int 110 0),(Zt "/claim/cut.py" 451)])
noncomputable def U1 (P:Wp):Obj:=Zo "function" (.func (Zw (T0 18) (Zs "need_count") (Zs "need_count") N N N (Zt "threepress.bits" 444) none (R 198) N 3 0))
noncomputable def GX (P:Wp):Obj:=Zo "tuple" (.seq #[(Zt "value" 456),(Zt "size" 457)] 0)
noncomputable def HH (P:Wp):Obj:=Zn (.func (Zy (T0 19) (Zs "need_value") (Zs "need_value") N N N N none N N 0 0))
noncomputable def GY (P:Wp):Obj:=Zo "code" (.fields #[(Zt "need_value" 453),(Zt "need_value" 454),(Zt "/claim/cut.py" 455),(.int 113 0),(.int 2 0),(.int 0 0),(.int 0 0),(.int 3 0),(R 200),(.bool true),(.int 181 0),(R 201),N,(R 202),(R 203),(R 204),(.int 458 0),(.int 113 0),(Zt "/claim/cut.py" 459)])
noncomputable def U2 (P:Wp):Obj:=Zo "function" (.func (Zw (T0 19) (Zs "need_value") (Zs "need_value") N N N (Zt "threepress.bits" 444) none (R 205) N 3 0))
noncomputable def GZ (P:Wp):Obj:=Zo "tuple" (.seq #[(Zt "octets" 464),(Zt "start" 465),(Zt "end" 466),(Zt "stop" 467)] 0)
noncomputable def HI (P:Wp):Obj:=Zn (.func (Zy (T0 20) (Zs "end_of") (Zs "end_of") N N N N none N N 0 0))
noncomputable def G1 (P:Wp):Obj:=Zo "code" (.fields #[(Zt "end_of" 461),(Zt "end_of" 462),(Zt "/claim/cut.py" 463),(.int 117 0),(.int 3 0),(.int 0 0),(.int 0 0),(.int 3 0),(R 207),(.bool true),(.int 181 0),(R 208),N,(R 209),(R 210),(R 211),(.int 468 0),(.int 117 0),(Zt "/claim/cut.py" 469)])
noncomputable def U3 (P:Wp):Obj:=Zo "function" (.func (Zw (T0 20) (Zs "end_of") (Zs "end_of") N N N (Zt "threepress.bits" 444) none (R 212) N 3 0))
noncomputable def G2 (P:Wp):Obj:=Zo "tuple" (.seq #[(Zt "octets" 474),(Zt "low" 475),(Zt "count" 476),(Zt "stop" 477),(Zt "value" 478),(Zt "got" 479),(Zt "place" 480),(Zt "inside" 481)] 0)
noncomputable def HJ (P:Wp):Obj:=Zn (.func (Zy (T0 21) (Zs "gathered") (Zs "gathered") N N N N none N N 0 0))
noncomputable def G3 (P:Wp):Obj:=Zo "code" (.fields #[(Zt "gathered" 471),(Zt "gathered" 472),(Zt "/claim/cut.py" 473),(.int 122 0),(.int 4 0),(.int 0 0),(.int 0 0),(.int 3 0),(R 214),(.bool true),(.int 181 0),(R 215),N,(R 216),(R 217),(R 218),(.int 482 0),(.int 122 0),(Zt "/claim/cut.py" 483)])
noncomputable def U4 (P:Wp):Obj:=Zo "function" (.func (Zw (T0 21) (Zs "gathered") (Zs "gathered") N N N (Zt "threepress.bits" 444) none (R 219) N 3 0))
noncomputable def HL (P:Wp):Obj:=Zo "dict" (.dict #[E P (Zs "__module__") 492 (Zt "threepress.bits" 444),E P (Zs "__qualname__") 494 (Zt "LowReader" 493),E P (Zs "__firstlineno__") 496 (.int 130 495),E P (Zs "__init__") 507 (R 235),E P (Zs "left") 514 (R 242),E P (Zs "peek") 522 (R 249),E P (Zs "skip") 530 (R 256),E P (Zs "bits") 539 (R 263),E P (Zs "bit") 546 (R 270),E P (Zs "align") 553 (R 277),E P (Zs "take") 562 (R 284),E P (Zs "octet") 569 (R 291),E P (Zs "place") 576 (R 298),E P (Zs "__static_attributes__") 580 (R 299)] 14)
noncomputable def HM (P:Wp):Obj:=Zn (.fields #[(.int 132 0),(.int 4 0),(R 234),(.int 137 0),(.int 4 0),(R 241),(.int 140 0),(.int 4 0),(R 248),(.int 144 0),(.int 4 0),(R 255),(.int 150 0),(.int 4 0),(R 262),(.int 155 0),(.int 4 0),(R 269),(.int 158 0),(.int 4 0),(R 276),(.int 161 0),(.int 4 0),(R 283),(.int 170 0),(.int 4 0),(R 290),(.int 173 0),(.int 4 0),(R 297)])
noncomputable def HN (P:Wp):Obj:=Zo "code" (.fields #[(Zt "LowReader" 487),(Zt "LowReader" 488),(Zt "/claim/cut.py" 489),(.int 130 0),(.int 0 0),(.int 0 0),(.int 0 0),(.int 0 0),(R 224),(.bool false),(.int 181 0),(R 225),N,N,N,N,(.int 490 0),(.int 130 0),(Zt "/claim/cut.py" 491)])
noncomputable def HO (P:Wp):Obj:=⟨(.type "frame"),none,.plain,#[(some (R 226)),(some (R 3)),(some (R 223)),none,(some (Zt "threepress.bits" 444)),none,(some (R 0))]⟩
noncomputable def U5 (P:Wp):Obj:=Zo "tuple" (.seq #[(.int 0 497),N] 0)
noncomputable def G4 (P:Wp):Obj:=Zo "tuple" (.seq #[(Zt "self" 501),(Zt "octets" 502),(Zt "start" 503),(Zt "end" 504)] 0)
noncomputable def HP (P:Wp):Obj:=Zn (.func (Zy (T1 22 0) (Zs "__init__") (Zs "LowReader.__init__") N N N N none N N 0 0))
noncomputable def G5 (P:Wp):Obj:=Zo "code" (.fields #[(Zt "__init__" 498),(Zt "LowReader.__init__" 499),(Zt "/claim/cut.py" 500),(.int 132 0),(.int 4 0),(.int 0 0),(.int 0 0),(.int 3 0),(R 229),(.bool true),(.int 181 0),(R 230),N,(R 231),(R 232),(R 233),(.int 505 0),(.int 132 0),(Zt "/claim/cut.py" 506)])
noncomputable def U6 (P:Wp):Obj:=Zo "function" (.func (Zw (T1 22 0) (Zs "__init__") (Zs "LowReader.__init__") (R 228) N N (Zt "threepress.bits" 444) none (R 234) N 3 0))
noncomputable def G6 (P:Wp):Obj:=Zo "tuple" (.seq #[(Zt "self" 511)] 0)
noncomputable def HQ (P:Wp):Obj:=Zn (.func (Zy (T1 22 1) (Zs "left") (Zs "LowReader.left") N N N N none N N 0 0))
noncomputable def G7 (P:Wp):Obj:=Zo "code" (.fields #[(Zt "left" 508),(Zt "LowReader.left" 509),(Zt "/claim/cut.py" 510),(.int 137 0),(.int 1 0),(.int 0 0),(.int 0 0),(.int 3 0),(R 236),(.bool true),(.int 181 0),(R 237),N,(R 238),(R 239),(R 240),(.int 512 0),(.int 137 0),(Zt "/claim/cut.py" 513)])
noncomputable def U7 (P:Wp):Obj:=Zo "function" (.func (Zw (T1 22 1) (Zs "left") (Zs "LowReader.left") N N N (Zt "threepress.bits" 444) none (R 241) N 3 0))
noncomputable def G8 (P:Wp):Obj:=Zo "tuple" (.seq #[(Zt "self" 518),(Zt "count" 519)] 0)
noncomputable def HR (P:Wp):Obj:=Zn (.func (Zy (T1 22 2) (Zs "peek") (Zs "LowReader.peek") N N N N none N N 0 0))
noncomputable def G9 (P:Wp):Obj:=Zo "code" (.fields #[(Zt "peek" 515),(Zt "LowReader.peek" 516),(Zt "/claim/cut.py" 517),(.int 140 0),(.int 2 0),(.int 0 0),(.int 0 0),(.int 3 0),(R 243),(.bool true),(.int 181 0),(R 244),N,(R 245),(R 246),(R 247),(.int 520 0),(.int 140 0),(Zt "/claim/cut.py" 521)])
noncomputable def U8 (P:Wp):Obj:=Zo "function" (.func (Zw (T1 22 2) (Zs "peek") (Zs "LowReader.peek") N N N (Zt "threepress.bits" 444) none (R 248) N 3 0))
noncomputable def Ka (P:Wp):Obj:=Zo "tuple" (.seq #[(Zt "self" 526),(Zt "count" 527)] 0)
noncomputable def HS (P:Wp):Obj:=Zn (.func (Zy (T1 22 3) (Zs "skip") (Zs "LowReader.skip") N N N N none N N 0 0))
noncomputable def Kb (P:Wp):Obj:=Zo "code" (.fields #[(Zt "skip" 523),(Zt "LowReader.skip" 524),(Zt "/claim/cut.py" 525),(.int 144 0),(.int 2 0),(.int 0 0),(.int 0 0),(.int 3 0),(R 250),(.bool true),(.int 181 0),(R 251),N,(R 252),(R 253),(R 254),(.int 528 0),(.int 144 0),(Zt "/claim/cut.py" 529)])
noncomputable def U9 (P:Wp):Obj:=Zo "function" (.func (Zw (T1 22 3) (Zs "skip") (Zs "LowReader.skip") N N N (Zt "threepress.bits" 444) none (R 255) N 3 0))
noncomputable def Kc (P:Wp):Obj:=Zo "tuple" (.seq #[(Zt "self" 534),(Zt "count" 535),(Zt "value" 536)] 0)
noncomputable def HT (P:Wp):Obj:=Zn (.func (Zy (T1 22 4) (Zs "bits") (Zs "LowReader.bits") N N N N none N N 0 0))
noncomputable def Kd (P:Wp):Obj:=Zo "code" (.fields #[(Zt "bits" 531),(Zt "LowReader.bits" 532),(Zt "/claim/cut.py" 533),(.int 150 0),(.int 2 0),(.int 0 0),(.int 0 0),(.int 3 0),(R 257),(.bool true),(.int 181 0),(R 258),N,(R 259),(R 260),(R 261),(.int 537 0),(.int 150 0),(Zt "/claim/cut.py" 538)])
noncomputable def Ta (P:Wp):Obj:=Zo "function" (.func (Zw (T1 22 4) (Zs "bits") (Zs "LowReader.bits") N N N (Zt "threepress.bits" 444) none (R 262) N 3 0))
noncomputable def Ke (P:Wp):Obj:=Zo "tuple" (.seq #[(Zt "self" 543)] 0)
noncomputable def HU (P:Wp):Obj:=Zn (.func (Zy (T1 22 5) (Zs "bit") (Zs "LowReader.bit") N N N N none N N 0 0))
noncomputable def Kf (P:Wp):Obj:=Zo "code" (.fields #[(Zt "bit" 540),(Zt "LowReader.bit" 541),(Zt "/claim/cut.py" 542),(.int 155 0),(.int 1 0),(.int 0 0),(.int 0 0),(.int 3 0),(R 264),(.bool true),(.int 181 0),(R 265),N,(R 266),(R 267),(R 268),(.int 544 0),(.int 155 0),(Zt "/claim/cut.py" 545)])
noncomputable def Tb (P:Wp):Obj:=Zo "function" (.func (Zw (T1 22 5) (Zs "bit") (Zs "LowReader.bit") N N N (Zt "threepress.bits" 444) none (R 269) N 3 0))
noncomputable def Kg (P:Wp):Obj:=Zo "tuple" (.seq #[(Zt "self" 550)] 0)
noncomputable def HV (P:Wp):Obj:=Zn (.func (Zy (T1 22 6) (Zs "align") (Zs "LowReader.align") N N N N none N N 0 0))
noncomputable def Kh (P:Wp):Obj:=Zo "code" (.fields #[(Zt "align" 547),(Zt "LowReader.align" 548),(Zt "/claim/cut.py" 549),(.int 158 0),(.int 1 0),(.int 0 0),(.int 0 0),(.int 3 0),(R 271),(.bool true),(.int 181 0),(R 272),N,(R 273),(R 274),(R 275),(.int 551 0),(.int 158 0),(Zt "/claim/cut.py" 552)])
noncomputable def Ki (P:Wp):Obj:=Zo "function" (.func (Zw (T1 22 6) (Zs "align") (Zs "LowReader.align") N N N (Zt "threepress.bits" 444) none (R 276) N 3 0))
noncomputable def Kj (P:Wp):Obj:=Zo "tuple" (.seq #[(Zt "self" 557),(Zt "count" 558),(Zt "place" 559)] 0)
noncomputable def HW (P:Wp):Obj:=Zn (.func (Zy (T1 22 7) (Zs "take") (Zs "LowReader.take") N N N N none N N 0 0))
noncomputable def Kk (P:Wp):Obj:=Zo "code" (.fields #[(Zt "take" 554),(Zt "LowReader.take" 555),(Zt "/claim/cut.py" 556),(.int 161 0),(.int 2 0),(.int 0 0),(.int 0 0),(.int 3 0),(R 278),(.bool true),(.int 181 0),(R 279),N,(R 280),(R 281),(R 282),(.int 560 0),(.int 161 0),(Zt "/claim/cut.py" 561)])
noncomputable def Kl (P:Wp):Obj:=Zo "function" (.func (Zw (T1 22 7) (Zs "take") (Zs "LowReader.take") N N N (Zt "threepress.bits" 444) none (R 283) N 3 0))
noncomputable def Km (P:Wp):Obj:=Zo "tuple" (.seq #[(Zt "self" 566)] 0)
noncomputable def HX (P:Wp):Obj:=Zn (.func (Zy (T1 22 8) (Zs "octet") (Zs "LowReader.octet") N N N N none N N 0 0))
noncomputable def Kn (P:Wp):Obj:=Zo "code" (.fields #[(Zt "octet" 563),(Zt "LowReader.octet" 564),(Zt "/claim/cut.py" 565),(.int 170 0),(.int 1 0),(.int 0 0),(.int 0 0),(.int 3 0),(R 285),(.bool true),(.int 181 0),(R 286),N,(R 287),(R 288),(R 289),(.int 567 0),(.int 170 0),(Zt "/claim/cut.py" 568)])
noncomputable def Ko (P:Wp):Obj:=Zo "function" (.func (Zw (T1 22 8) (Zs "octet") (Zs "LowReader.octet") N N N (Zt "threepress.bits" 444) none (R 290) N 3 0))
noncomputable def Kq (P:Wp):Obj:=Zo "tuple" (.seq #[(Zt "self" 573)] 0)
noncomputable def HY (P:Wp):Obj:=Zn (.func (Zy (T1 22 9) (Zs "place") (Zs "LowReader.place") N N N N none N N 0 0))
noncomputable def Kr (P:Wp):Obj:=Zo "code" (.fields #[(Zt "place" 570),(Zt "LowReader.place" 571),(Zt "/claim/cut.py" 572),(.int 173 0),(.int 1 0),(.int 0 0),(.int 0 0),(.int 3 0),(R 292),(.bool true),(.int 181 0),(R 293),N,(R 294),(R 295),(R 296),(.int 574 0),(.int 173 0),(Zt "/claim/cut.py" 575)])
noncomputable def Ks (P:Wp):Obj:=Zo "function" (.func (Zw (T1 22 9) (Zs "place") (Zs "LowReader.place") N N N (Zt "threepress.bits" 444) none (R 297) N 3 0))
noncomputable def Kt (P:Wp):Obj:=Zo "tuple" (.seq #[(Zt "data" 577),(Zt "position" 578),(Zt "stop" 579)] 0)
noncomputable def Ku (P:Wp):Obj:=Zo "dict" (.dict #[E P (Zs "__module__") 492 (Zt "threepress.bits" 444),E P (Zs "__firstlineno__") 496 (.int 130 495),E P (Zs "__init__") 507 (R 235),E P (Zs "left") 514 (R 242),E P (Zs "peek") 522 (R 249),E P (Zs "skip") 530 (R 256),E P (Zs "bits") 539 (R 263),E P (Zs "bit") 546 (R 270),E P (Zs "align") 553 (R 277),E P (Zs "take") 562 (R 284),E P (Zs "octet") 569 (R 291),E P (Zs "place") 576 (R 298),E P (Zs "__static_attributes__") 580 (R 299),E P (Zs "__dict__") 582 (R 302),E P (Zs "__weakref__") 584 (R 303),E P (Zs "__doc__") 585 N] 4)
noncomputable def Kv (P:Wp):Obj:=⟨(.type "type"),none,(.cls ⟨(Zs "LowReader"),[(.type "object")],[(R 301),(.type "object")],300,(Zs "LowReader"),true,[],[],false,none,false⟩),#[none,none,(some (Zt "LowReader" 485)),(some (Zt "LowReader" 493)),(some (.builtin "object.__new__")),(some (.bool true))]⟩
noncomputable def Kw (P:Wp):Obj:=Zo "getset_descriptor" (.fields #[(Zt "__dict__" 581),(R 301),(.builtin "function.__dict__"),(.builtin "function.__dict__#set")])
noncomputable def Kx (P:Wp):Obj:=Zo "getset_descriptor" (.fields #[(Zt "__weakref__" 583),(R 301),(.builtin "ExceptionGroup.__weakref__"),N])
noncomputable def HZ (P:Wp):Obj:=Zo "super" (.fields #[(R 301),(R 301),(R 301)])
noncomputable def H0 (P:Wp):Obj:=Zo "builtin_function_or_method" (.fields #[(.builtin "object.__init_subclass__"),(R 301)])
noncomputable def t22 (P:Wp):BT:=(B (boot_o_0 P) (B (boot_o_1 P) (B (Zeb P) (B (W7 P) (B (o4 P) (B (V4 P) (B (W7 P) (B (TL P) (B (Kb P) L L) L) (B (GT P) L L)) (B (W8 P) (B (o5 P) (B (Km P) L L) L) (B (HL P) L L))) (B (Ti P) (B (W7 P) (B (WY P) (B (W7 P) L L) L) (B (W7 P) L L)) (B (W7 P) (B (W7 P) (B (Kx P) L L) L) (B (W7 P) L L)))) (B (W7 P) (B (W7 P) (B (Ts P) (B (K7 P) (B (Ta P) L L) L) (B (U1 P) L L)) (B (TB P) (B (UP P) (B (W7 P) L L) L) (B (G4 P) L L))) (B (W7 P) (B (W8 P) (B (TR P) (B (W8 P) L L) L) (B (W8 P) L L)) (B (K2 P) (B (GS P) L L) (B (HR P) L L))))) (B (W7 P) (B (o7 P) (B (Td P) (B (W7 P) (B (K4 P) (B (Kc P) L L) L) (B (GV P) L L)) (B (TA P) (B (GO P) (B (Ko P) L L) L) (B (HO P) L L))) (B (W7 P) (B (KX P) (B (W7 P) (B (HV P) L L) L) (B (HI P) L L)) (B (W7 P) (B (W7 P) L L) (B (W7 P) L L)))) (B (U0 P) (B (W7 P) (B (W7 P) (B (TM P) (B (W7 P) L L) L) (B (W7 P) L L)) (B (Uf P) (B (VY P) (B (Kt P) L L) L) (B (U6 P) L L))) (B (Tn P) (B (Ty P) (B (TV P) (B (Kk P) L L) L) (B (G3 P) L L)) (B (W8 P) (B (UW P) L L) (B (W8 P) L L)))))) (B (boot_o_5 P) (B (boot_o_9 P) (B (o6 P) (B (V6 P) (B (Tp P) (B (W7 P) (B (W7 P) L L) L) (B (W7 P) L L)) (B (W7 P) (B (W7 P) (B (HX P) L L) L) (B (HM P) L L))) (B (o5 P) (B (Tv P) (B (W8 P) (B (Kg P) L L) L) (B (GZ P) L L)) (B (TG P) (B (US P) (B (H0 P) L L) L) (B (G7 P) L L)))) (B (V0 P) (B (Tf P) (B (W8 P) (B (W7 P) (B (W8 P) L L) L) (B (W8 P) L L)) (B (K0 P) (B (GQ P) (B (Kr P) L L) L) (B (HP P) L L))) (B (Vw P) (B (W7 P) (B (TT P) (B (W7 P) L L) L) (B (W7 P) L L)) (B (Uh P) (B (V1 P) L L) (B (U8 P) L L))))) (B (o0 P) (B (o9 P) (B (o5 P) (B (Vx P) (B (K5 P) (B (HT P) L L) L) (B (HG P) L L)) (B (W7 P) (B (W7 P) (B (W8 P) L L) L) (B (W7 P) L L))) (B (Tk P) (B (Ub P) (B (TP P) (B (Ki P) L L) L) (B (U3 P) L L)) (B (TH P) (B (UT P) L L) (B (G8 P) L L)))) (B (Vu P) (B (Vv P) (B (Tu P) (B (K8 P) (B (Kf P) L L) L) (B (GY P) L L)) (B (W8 P) (B (W8 P) (B (Kv P) L L) L) (B (W8 P) L L))) (B (o5 P) (B (Ud P) (B (Jb P) (B (W7 P) L L) L) (B (W7 P) L L)) (B (W7 P) (B (UY P) L L) (B (W7 P) L L))))))) (B (boot_o_2 P) (B (boot_o_4 P) (B (W8 P) (B (o5 P) (B (V5 P) (B (W8 P) (B (Ui P) (B (U9 P) L L) L) (B (GU P) L L)) (B (Tz P) (B (Jc P) (B (W7 P) L L) L) (B (W7 P) L L))) (B (YT P) (B (W8 P) (B (W7 P) (B (W8 P) L L) L) (B (W8 P) L L)) (B (K1 P) (B (GR P) (B (HZ P) L L) L) (B (HQ P) L L)))) (B (W8 P) (B (W8 P) (B (W7 P) (B (WX P) (B (W7 P) L L) L) (B (W7 P) L L)) (B (W7 P) (B (W7 P) (B (HY P) L L) L) (B (W7 P) L L))) (B (V8 P) (B (Tx P) (B (TS P) (B (Kj P) L L) L) (B (G2 P) L L)) (B (TJ P) (B (UU P) L L) (B (G9 P) L L))))) (B (Zec P) (B (o8 P) (B (YT P) (B (V9 P) (B (W7 P) (B (W7 P) L L) L) (B (W7 P) L L)) (B (Ue P) (B (GP P) (B (W7 P) L L) L) (B (U5 P) L L))) (B (W8 P) (B (Tw P) (B (K9 P) (B (Kh P) L L) L) (B (G1 P) L L)) (B (W8 P) (B (W8 P) L L) (B (W8 P) L L)))) (B (V2 P) (B (V7 P) (B (KW P) (B (W7 P) (B (HU P) L L) L) (B (HH P) L L)) (B (W7 P) (B (W7 P) (B (Ku P) L L) L) (B (W7 P) L L))) (B (YT P) (B (Uc P) (B (Ja P) (B (Kl P) L L) L) (B (U4 P) L L)) (B (TK P) (B (UX P) L L) (B (Ka P) L L)))))) (B (boot_o_6 P) (B (boot_o_10 P) (B (W7 P) (B (Tc P) (B (Tq P) (B (o5 P) (B (W8 P) L L) L) (B (W8 P) L L)) (B (KZ P) (B (Jd P) (B (Kn P) L L) L) (B (HN P) L L))) (B (Tj P) (B (W7 P) (B (TO P) (B (W7 P) L L) L) (B (W7 P) L L)) (B (Ug P) (B (VZ P) L L) (B (U7 P) L L)))) (B (W7 P) (B (Tg P) (B (Tt P) (B (W8 P) (B (Ke P) L L) L) (B (GX P) L L)) (B (TC P) (B (UQ P) (B (Ks P) L L) L) (B (G5 P) L L))) (B (Tm P) (B (KY P) (B (TU P) (B (HW P) L L) L) (B (HJ P) L L)) (B (W7 P) (B (UV P) L L) (B (W7 P) L L))))) (B (o1 P) (B (Vt P) (B (Te P) (B (Tr P) (B (K6 P) (B (Kd P) L L) L) (B (GW P) L L)) (B (W8 P) (B (W8 P) (B (Kq P) L L) L) (B (W8 P) L L))) (B (Tl P) (B (W7 P) (B (Uj P) (B (W7 P) L L) L) (B (W7 P) L L)) (B (W7 P) (B (W7 P) L L) (B (W7 P) L L)))) (B (V3 P) (B (Th P) (B (Ua P) (B (TN P) (B (Tb P) L L) L) (B (U2 P) L L)) (B (TF P) (B (UR P) (B (Kw P) L L) L) (B (G6 P) L L))) (B (To P) (B (W7 P) (B (W7 P) (B (W8 P) L L) L) (B (o5 P) L L)) (B (K3 P) (B (UZ P) L L) (B (HS P) L L))))))))
noncomputable def H1 (P:Wp):Obj:=Zo "dict" (.dict #[E P (Zs "__name__") 165 (Zt "law_no0100_01" 676),E P (Zs "__doc__") 166 N,E P (Zs "__package__") 167 N,E P (Zs "__loader__") 168 (.builtin "__main__.__loader__#opaque"),E P (Zs "__spec__") 169 N,E P (Zs "__annotations__") 170 (R 6),E P (Zs "__builtins__") 171 (R 4),E P (Zs "__file__") 173 (Zt "/claim/cut.py" 172),E P (Zs "__cached__") 174 N,E P (Zs "PressError") 216 (R 32),E P (Zs "CutShort") 232 (R 45),E P (Zs "BadCode") 248 (R 57),E P (Zs "BadArgument") 264 (R 69),E P (Zs "LONGEST") 268 (.int 15 267),E P (Zs "counts_by_length") 278 (R 78),E P (Zs "room_of") 287 (R 85),E P (Zs "room_left") 295 (R 92),E P (Zs "check_lengths") 307 (R 100),E P (Zs "greatest_length") 316 (R 107),E P (Zs "first_codes") 327 (R 114),E P (Zs "canonical") 337 (R 121),E P (Zs "by_length") 350 (R 128),E P (Zs "PrefixReader") 396 (R 153),E P (Zs "PrefixWriter") 443 (R 188),E P (Zs "need_count") 452 (R 199),E P (Zs "need_value") 460 (R 206),E P (Zs "end_of") 470 (R 213),E P (Zs "gathered") 484 (R 220),E P (Zs "LowReader") 587 (R 301),E P (Zs "LowWriter") 675 (R 371),E P (Zs "_law_pool") 686 (R 382),E P (Zs "_law_take") 695 (R 389),E P (Zs "_law_full") 706 (R 396),E P (Zs "_law_other") 712 (R 401),E P (Zs "_law_space") 722 (R 408),E P (Zs "_law_lets") 728 (R 413),E P (Zs "_law_checked") 737 (R 420),E P (Zs "_law_codes") 743 (R 425),E P (Zs "_law_free") 749 (R 430),E P (Zs "_law_bits") 755 (R 435),E P (Zs "_law_read") 768 (R 442),E P (Zs "_law_told") 779 (R 449),E P (Zs "_law_written_right") 785 (R 454),E P (Zs "_law_unwritten") 793 (R 461),E P (Zs "_law_lone_right") 799 (R 466),E P (Zs "_law_deep_right") 808 (R 473),E P (Zs "law") 814 (R 478)] 47)
noncomputable def Ce (P:Wp):Obj:=Zn (.fields #[(.int 2 0),(.int 0 0),(R 20),(.int 7 0),(.int 0 0),(R 41),(.int 9 0),(.int 0 0),(R 53),(.int 11 0),(.int 0 0),(R 65),(.int 15 0),(.int 0 0),(R 77),(.int 22 0),(.int 0 0),(R 84),(.int 27 0),(.int 0 0),(R 91),(.int 29 0),(.int 0 0),(R 99),(.int 41 0),(.int 0 0),(R 106),(.int 47 0),(.int 0 0),(R 113),(.int 54 0),(.int 0 0),(R 120),(.int 64 0),(.int 0 0),(R 127),(.int 76 0),(.int 0 0),(R 134),(.int 94 0),(.int 0 0),(R 163),(.int 110 0),(.int 0 0),(R 198),(.int 113 0),(.int 0 0),(R 205),(.int 117 0),(.int 0 0),(R 212),(.int 122 0),(.int 0 0),(R 219),(.int 130 0),(.int 0 0),(R 226),(.int 175 0),(.int 0 0),(R 311),(.int 216 0),(.int 0 0),(R 381),(.int 221 0),(.int 0 0),(R 388),(.int 228 0),(.int 0 0),(R 395),(.int 240 0),(.int 0 0),(R 400),(.int 255 0),(.int 0 0),(R 407),(.int 261 0),(.int 0 0),(R 412),(.int 266 0),(.int 0 0),(R 419),(.int 272 0),(.int 0 0),(R 424),(.int 281 0),(.int 0 0),(R 429),(.int 289 0),(.int 0 0),(R 434),(.int 294 0),(.int 0 0),(R 441),(.int 305 0),(.int 0 0),(R 448),(.int 315 0),(.int 0 0),(R 453),(.int 331 0),(.int 0 0),(R 460),(.int 337 0),(.int 0 0),(R 465),(.int 344 0),(.int 0 0),(R 472),(.int 354 0),(.int 0 0),(R 477)])
noncomputable def Cf (P:Wp):Obj:=Zo "dict" (.dict #[E P (Zs "__module__") 595 (Zt "threepress.bits" 444),E P (Zs "__qualname__") 597 (Zt "LowWriter" 596),E P (Zs "__firstlineno__") 599 (.int 175 598),E P (Zs "__init__") 606 (R 319),E P (Zs "bits") 615 (R 326),E P (Zs "bit") 623 (R 333),E P (Zs "code") 634 (R 340),E P (Zs "align") 641 (R 347),E P (Zs "octets") 649 (R 354),E P (Zs "size") 656 (R 361),E P (Zs "done") 664 (R 368),E P (Zs "__static_attributes__") 668 (R 369)] 12)
noncomputable def Cg (P:Wp):Obj:=Zn (.fields #[(.int 177 0),(.int 4 0),(R 318),(.int 182 0),(.int 4 0),(R 325),(.int 191 0),(.int 4 0),(R 332),(.int 194 0),(.int 4 0),(R 339),(.int 201 0),(.int 4 0),(R 346),(.int 205 0),(.int 4 0),(R 353),(.int 209 0),(.int 4 0),(R 360),(.int 212 0),(.int 4 0),(R 367)])
noncomputable def Ch (P:Wp):Obj:=Zo "code" (.fields #[(Zt "LowWriter" 590),(Zt "LowWriter" 591),(Zt "/claim/cut.py" 592),(.int 175 0),(.int 0 0),(.int 0 0),(.int 0 0),(.int 0 0),(R 309),(.bool false),(.int 181 0),(R 310),N,N,N,N,(.int 593 0),(.int 175 0),(Zt "/claim/cut.py" 594)])
noncomputable def Ci (P:Wp):Obj:=⟨(.type "frame"),none,.plain,#[(some (R 311)),(some (R 3)),(some (R 308)),none,(some (Zt "threepress.bits" 444)),none,(some (R 0))]⟩
noncomputable def H2 (P:Wp):Obj:=Zo "tuple" (.seq #[(Zt "self" 603)] 0)
noncomputable def Cj (P:Wp):Obj:=Zn (.func (Zy (T1 23 0) (Zs "__init__") (Zs "LowWriter.__init__") N N N N none N N 0 0))
noncomputable def H3 (P:Wp):Obj:=Zo "code" (.fields #[(Zt "__init__" 600),(Zt "LowWriter.__init__" 601),(Zt "/claim/cut.py" 602),(.int 177 0),(.int 1 0),(.int 0 0),(.int 0 0),(.int 3 0),(R 313),(.bool true),(.int 181 0),(R 314),N,(R 315),(R 316),(R 317),(.int 604 0),(.int 177 0),(Zt "/claim/cut.py" 605)])
noncomputable def Ky (P:Wp):Obj:=Zo "function" (.func (Zw (T1 23 0) (Zs "__init__") (Zs "LowWriter.__init__") N N N (Zt "threepress.bits" 444) none (R 318) N 3 0))
noncomputable def H4 (P:Wp):Obj:=Zo "tuple" (.seq #[(Zt "self" 610),(Zt "value" 611),(Zt "count" 612)] 0)
noncomputable def Ck (P:Wp):Obj:=Zn (.func (Zy (T1 23 1) (Zs "bits") (Zs "LowWriter.bits") N N N N none N N 0 0))
noncomputable def H5 (P:Wp):Obj:=Zo "code" (.fields #[(Zt "bits" 607),(Zt "LowWriter.bits" 608),(Zt "/claim/cut.py" 609),(.int 182 0),(.int 3 0),(.int 0 0),(.int 0 0),(.int 3 0),(R 320),(.bool true),(.int 181 0),(R 321),N,(R 322),(R 323),(R 324),(.int 613 0),(.int 182 0),(Zt "/claim/cut.py" 614)])
noncomputable def Kz (P:Wp):Obj:=Zo "function" (.func (Zw (T1 23 1) (Zs "bits") (Zs "LowWriter.bits") N N N (Zt "threepress.bits" 444) none (R 325) N 3 0))
noncomputable def H6 (P:Wp):Obj:=Zo "tuple" (.seq #[(Zt "self" 619),(Zt "value" 620)] 0)
noncomputable def Cl (P:Wp):Obj:=Zn (.func (Zy (T1 23 2) (Zs "bit") (Zs "LowWriter.bit") N N N N none N N 0 0))
noncomputable def H7 (P:Wp):Obj:=Zo "code" (.fields #[(Zt "bit" 616),(Zt "LowWriter.bit" 617),(Zt "/claim/cut.py" 618),(.int 191 0),(.int 2 0),(.int 0 0),(.int 0 0),(.int 3 0),(R 327),(.bool true),(.int 181 0),(R 328),N,(R 329),(R 330),(R 331),(.int 621 0),(.int 191 0),(Zt "/claim/cut.py" 622)])
noncomputable def H8 (P:Wp):Obj:=Zo "function" (.func (Zw (T1 23 2) (Zs "bit") (Zs "LowWriter.bit") N N N (Zt "threepress.bits" 444) none (R 332) N 3 0))
noncomputable def H9 (P:Wp):Obj:=Zo "tuple" (.seq #[(Zt "self" 627),(Zt "code" 628),(Zt "count" 629),(Zt "turned" 630),(Zt "place" 631)] 0)
noncomputable def Cm (P:Wp):Obj:=Zn (.func (Zy (T1 23 3) (Zs "code") (Zs "LowWriter.code") N N N N none N N 0 0))
noncomputable def Da (P:Wp):Obj:=Zo "code" (.fields #[(Zt "code" 624),(Zt "LowWriter.code" 625),(Zt "/claim/cut.py" 626),(.int 194 0),(.int 3 0),(.int 0 0),(.int 0 0),(.int 3 0),(R 334),(.bool true),(.int 181 0),(R 335),N,(R 336),(R 337),(R 338),(.int 632 0),(.int 194 0),(Zt "/claim/cut.py" 633)])
noncomputable def KB (P:Wp):Obj:=Zo "function" (.func (Zw (T1 23 3) (Zs "code") (Zs "LowWriter.code") N N N (Zt "threepress.bits" 444) none (R 339) N 3 0))
noncomputable def Db (P:Wp):Obj:=Zo "tuple" (.seq #[(Zt "self" 638)] 0)
noncomputable def Cn (P:Wp):Obj:=Zn (.func (Zy (T1 23 4) (Zs "align") (Zs "LowWriter.align") N N N N none N N 0 0))
noncomputable def Dc (P:Wp):Obj:=Zo "code" (.fields #[(Zt "align" 635),(Zt "LowWriter.align" 636),(Zt "/claim/cut.py" 637),(.int 201 0),(.int 1 0),(.int 0 0),(.int 0 0),(.int 3 0),(R 341),(.bool true),(.int 181 0),(R 342),N,(R 343),(R 344),(R 345),(.int 639 0),(.int 201 0),(Zt "/claim/cut.py" 640)])
noncomputable def Dd (P:Wp):Obj:=Zo "function" (.func (Zw (T1 23 4) (Zs "align") (Zs "LowWriter.align") N N N (Zt "threepress.bits" 444) none (R 346) N 3 0))
noncomputable def De (P:Wp):Obj:=Zo "tuple" (.seq #[(Zt "self" 645),(Zt "data" 646)] 0)
noncomputable def Co (P:Wp):Obj:=Zn (.func (Zy (T1 23 5) (Zs "octets") (Zs "LowWriter.octets") N N N N none N N 0 0))
noncomputable def Df (P:Wp):Obj:=Zo "code" (.fields #[(Zt "octets" 642),(Zt "LowWriter.octets" 643),(Zt "/claim/cut.py" 644),(.int 205 0),(.int 2 0),(.int 0 0),(.int 0 0),(.int 3 0),(R 348),(.bool true),(.int 181 0),(R 349),N,(R 350),(R 351),(R 352),(.int 647 0),(.int 205 0),(Zt "/claim/cut.py" 648)])
noncomputable def Dg (P:Wp):Obj:=Zo "function" (.func (Zw (T1 23 5) (Zs "octets") (Zs "LowWriter.octets") N N N (Zt "threepress.bits" 444) none (R 353) N 3 0))
noncomputable def Dh (P:Wp):Obj:=Zo "tuple" (.seq #[(Zt "self" 653)] 0)
noncomputable def Cp (P:Wp):Obj:=Zn (.func (Zy (T1 23 6) (Zs "size") (Zs "LowWriter.size") N N N N none N N 0 0))
noncomputable def Di (P:Wp):Obj:=Zo "code" (.fields #[(Zt "size" 650),(Zt "LowWriter.size" 651),(Zt "/claim/cut.py" 652),(.int 209 0),(.int 1 0),(.int 0 0),(.int 0 0),(.int 3 0),(R 355),(.bool true),(.int 181 0),(R 356),N,(R 357),(R 358),(R 359),(.int 654 0),(.int 209 0),(Zt "/claim/cut.py" 655)])
noncomputable def KC (P:Wp):Obj:=Zo "function" (.func (Zw (T1 23 6) (Zs "size") (Zs "LowWriter.size") N N N (Zt "threepress.bits" 444) none (R 360) N 3 0))
noncomputable def Dj (P:Wp):Obj:=Zo "tuple" (.seq #[(Zt "self" 660),(Zt "rest" 661)] 0)
noncomputable def Cq (P:Wp):Obj:=Zn (.func (Zy (T1 23 7) (Zs "done") (Zs "LowWriter.done") N N N N none N N 0 0))
noncomputable def Dk (P:Wp):Obj:=Zo "code" (.fields #[(Zt "done" 657),(Zt "LowWriter.done" 658),(Zt "/claim/cut.py" 659),(.int 212 0),(.int 1 0),(.int 0 0),(.int 0 0),(.int 3 0),(R 362),(.bool true),(.int 181 0),(R 363),N,(R 364),(R 365),(R 366),(.int 662 0),(.int 212 0),(Zt "/claim/cut.py" 663)])
noncomputable def KD (P:Wp):Obj:=Zo "function" (.func (Zw (T1 23 7) (Zs "done") (Zs "LowWriter.done") N N N (Zt "threepress.bits" 444) none (R 367) N 3 0))
noncomputable def Dl (P:Wp):Obj:=Zo "tuple" (.seq #[(Zt "held" 665),(Zt "held_bits" 666),(Zt "made" 667)] 0)
noncomputable def Dm (P:Wp):Obj:=Zo "dict" (.dict #[E P (Zs "__module__") 595 (Zt "threepress.bits" 444),E P (Zs "__firstlineno__") 599 (.int 175 598),E P (Zs "__init__") 606 (R 319),E P (Zs "bits") 615 (R 326),E P (Zs "bit") 623 (R 333),E P (Zs "code") 634 (R 340),E P (Zs "align") 641 (R 347),E P (Zs "octets") 649 (R 354),E P (Zs "size") 656 (R 361),E P (Zs "done") 664 (R 368),E P (Zs "__static_attributes__") 668 (R 369),E P (Zs "__dict__") 670 (R 372),E P (Zs "__weakref__") 672 (R 373),E P (Zs "__doc__") 673 N] 4)
noncomputable def Dn (P:Wp):Obj:=⟨(.type "type"),none,(.cls ⟨(Zs "LowWriter"),[(.type "object")],[(R 371),(.type "object")],370,(Zs "LowWriter"),true,[],[],false,none,false⟩),#[none,none,(some (Zt "LowWriter" 588)),(some (Zt "LowWriter" 596)),(some (.builtin "object.__new__")),(some (.bool true))]⟩
noncomputable def Do (P:Wp):Obj:=Zo "getset_descriptor" (.fields #[(Zt "__dict__" 669),(R 371),(.builtin "function.__dict__"),(.builtin "function.__dict__#set")])
noncomputable def Dp (P:Wp):Obj:=Zo "getset_descriptor" (.fields #[(Zt "__weakref__" 671),(R 371),(.builtin "ExceptionGroup.__weakref__"),N])
noncomputable def Cr (P:Wp):Obj:=Zo "super" (.fields #[(R 371),(R 371),(R 371)])
noncomputable def Cs (P:Wp):Obj:=Zo "builtin_function_or_method" (.fields #[(.builtin "object.__init_subclass__"),(R 371)])
noncomputable def Dq (P:Wp):Obj:=Zo "tuple" (.seq #[(Zt "script" 681),(Zt "whole" 682),(Zt "cell" 683)] 0)
noncomputable def Ct (P:Wp):Obj:=Zn (.func (Zy (T0 25) (Zs "_law_pool") (Zs "_law_pool") N N N N none N N 0 0))
noncomputable def Dr (P:Wp):Obj:=Zo "code" (.fields #[(Zt "_law_pool" 678),(Zt "_law_pool" 679),(Zt "/claim/cut.py" 680),(.int 216 0),(.int 1 0),(.int 0 0),(.int 0 0),(.int 3 0),(R 376),(.bool true),(.int 181 0),(R 377),N,(R 378),(R 379),(R 380),(.int 684 0),(.int 216 0),(Zt "/claim/cut.py" 685)])
noncomputable def KE (P:Wp):Obj:=Zo "function" (.func (Zw (T0 25) (Zs "_law_pool") (Zs "_law_pool") N N N (Zt "law_no0100_01" 676) none (R 381) N 3 0))
noncomputable def Ds (P:Wp):Obj:=Zo "tuple" (.seq #[(Zt "pool" 690),(Zt "many" 691),(Zt "digit" 692)] 0)
noncomputable def Cu (P:Wp):Obj:=Zn (.func (Zy (T0 26) (Zs "_law_take") (Zs "_law_take") N N N N none N N 0 0))
noncomputable def Dt (P:Wp):Obj:=Zo "code" (.fields #[(Zt "_law_take" 687),(Zt "_law_take" 688),(Zt "/claim/cut.py" 689),(.int 221 0),(.int 2 0),(.int 0 0),(.int 0 0),(.int 3 0),(R 383),(.bool true),(.int 181 0),(R 384),N,(R 385),(R 386),(R 387),(.int 693 0),(.int 221 0),(Zt "/claim/cut.py" 694)])
noncomputable def KF (P:Wp):Obj:=Zo "function" (.func (Zw (T0 26) (Zs "_law_take") (Zs "_law_take") N N N (Zt "law_no0100_01" 676) none (R 388) N 3 0))
noncomputable def Du (P:Wp):Obj:=Zo "tuple" (.seq #[(Zt "pool" 699),(Zt "found" 700),(Zt "turn" 701),(Zt "at" 702),(Zt "length" 703)] 0)
noncomputable def Cv (P:Wp):Obj:=Zn (.func (Zy (T0 27) (Zs "_law_full") (Zs "_law_full") N N N N none N N 0 0))
noncomputable def Dv (P:Wp):Obj:=Zo "code" (.fields #[(Zt "_law_full" 696),(Zt "_law_full" 697),(Zt "/claim/cut.py" 698),(.int 228 0),(.int 1 0),(.int 0 0),(.int 0 0),(.int 3 0),(R 390),(.bool true),(.int 181 0),(R 391),N,(R 392),(R 393),(R 394),(.int 704 0),(.int 228 0),(Zt "/claim/cut.py" 705)])
noncomputable def KG (P:Wp):Obj:=Zo "function" (.func (Zw (T0 27) (Zs "_law_full") (Zs "_law_full") N N N (Zt "law_no0100_01" 676) none (R 395) N 3 0))
noncomputable def Cw (P:Wp):Obj:=Zn (.func (Zy (T0 28) (Zs "_law_other") (Zs "_law_other") N N N N none N N 0 0))
noncomputable def Dw (P:Wp):Obj:=Zo "code" (.fields #[(Zt "_law_other" 707),(Zt "_law_other" 708),(Zt "/claim/cut.py" 709),(.int 240 0),(.int 2 0),(.int 0 0),(.int 0 0),(.int 3 0),(R 397),(.bool true),(.int 181 0),(R 398),N,N,N,(R 399),(.int 710 0),(.int 240 0),(Zt "/claim/cut.py" 711)])
noncomputable def KH (P:Wp):Obj:=Zo "function" (.func (Zw (T0 28) (Zs "_law_other") (Zs "_law_other") N N N (Zt "law_no0100_01" 676) none (R 400) N 3 0))
noncomputable def Dx (P:Wp):Obj:=Zo "tuple" (.seq #[(Zt "lengths" 716),(Zt "longest" 717),(Zt "found" 718),(Zt "length" 719)] 0)
noncomputable def Cy (P:Wp):Obj:=Zn (.func (Zy (T0 29) (Zs "_law_space") (Zs "_law_space") N N N N none N N 0 0))
noncomputable def Dy (P:Wp):Obj:=Zo "code" (.fields #[(Zt "_law_space" 713),(Zt "_law_space" 714),(Zt "/claim/cut.py" 715),(.int 255 0),(.int 2 0),(.int 0 0),(.int 0 0),(.int 3 0),(R 402),(.bool true),(.int 181 0),(R 403),N,(R 404),(R 405),(R 406),(.int 720 0),(.int 255 0),(Zt "/claim/cut.py" 721)])
noncomputable def KI (P:Wp):Obj:=Zo "function" (.func (Zw (T0 29) (Zs "_law_space") (Zs "_law_space") N N N (Zt "law_no0100_01" 676) none (R 407) N 3 0))
noncomputable def Cz (P:Wp):Obj:=Zn (.func (Zy (T0 30) (Zs "_law_lets") (Zs "_law_lets") N N N N none N N 0 0))
noncomputable def Dz (P:Wp):Obj:=Zo "code" (.fields #[(Zt "_law_lets" 723),(Zt "_law_lets" 724),(Zt "/claim/cut.py" 725),(.int 261 0),(.int 3 0),(.int 0 0),(.int 0 0),(.int 3 0),(R 409),(.bool true),(.int 181 0),(R 410),N,N,N,(R 411),(.int 726 0),(.int 261 0),(Zt "/claim/cut.py" 727)])
noncomputable def KJ (P:Wp):Obj:=Zo "function" (.func (Zw (T0 30) (Zs "_law_lets") (Zs "_law_lets") N N N (Zt "law_no0100_01" 676) none (R 412) N 3 0))
noncomputable def DA (P:Wp):Obj:=Zo "tuple" (.seq #[(Zt "lengths" 732),(Zt "longest" 733),(Zt "lone" 734)] 0)
noncomputable def CA (P:Wp):Obj:=Zn (.func (Zy (T0 31) (Zs "_law_checked") (Zs "_law_checked") N N N N none N N 0 0))
noncomputable def DB (P:Wp):Obj:=Zo "code" (.fields #[(Zt "_law_checked" 729),(Zt "_law_checked" 730),(Zt "/claim/cut.py" 731),(.int 266 0),(.int 3 0),(.int 0 0),(.int 0 0),(.int 3 0),(R 414),(.bool true),(.int 181 0),(R 415),N,(R 416),(R 417),(R 418),(.int 735 0),(.int 266 0),(Zt "/claim/cut.py" 736)])
noncomputable def KL (P:Wp):Obj:=Zo "function" (.func (Zw (T0 31) (Zs "_law_checked") (Zs "_law_checked") N N N (Zt "law_no0100_01" 676) none (R 419) N 3 0))
noncomputable def CB (P:Wp):Obj:=Zn (.func (Zy (T0 32) (Zs "_law_codes") (Zs "_law_codes") N N N N none N N 0 0))
noncomputable def DC (P:Wp):Obj:=Zo "code" (.fields #[(Zt "_law_codes" 738),(Zt "_law_codes" 739),(Zt "/claim/cut.py" 740),(.int 272 0),(.int 2 0),(.int 0 0),(.int 0 0),(.int 3 0),(R 421),(.bool true),(.int 181 0),(R 422),N,N,N,(R 423),(.int 741 0),(.int 272 0),(Zt "/claim/cut.py" 742)])
noncomputable def KM (P:Wp):Obj:=Zo "function" (.func (Zw (T0 32) (Zs "_law_codes") (Zs "_law_codes") N N N (Zt "law_no0100_01" 676) none (R 424) N 3 0))
noncomputable def CC (P:Wp):Obj:=Zn (.func (Zy (T0 33) (Zs "_law_free") (Zs "_law_free") N N N N none N N 0 0))
noncomputable def DD (P:Wp):Obj:=Zo "code" (.fields #[(Zt "_law_free" 744),(Zt "_law_free" 745),(Zt "/claim/cut.py" 746),(.int 281 0),(.int 2 0),(.int 0 0),(.int 0 0),(.int 3 0),(R 426),(.bool true),(.int 181 0),(R 427),N,N,N,(R 428),(.int 747 0),(.int 281 0),(Zt "/claim/cut.py" 748)])
noncomputable def KN (P:Wp):Obj:=Zo "function" (.func (Zw (T0 33) (Zs "_law_free") (Zs "_law_free") N N N (Zt "law_no0100_01" 676) none (R 429) N 3 0))
noncomputable def CD (P:Wp):Obj:=Zn (.func (Zy (T0 34) (Zs "_law_bits") (Zs "_law_bits") N N N N none N N 0 0))
noncomputable def DE (P:Wp):Obj:=Zo "code" (.fields #[(Zt "_law_bits" 750),(Zt "_law_bits" 751),(Zt "/claim/cut.py" 752),(.int 289 0),(.int 1 0),(.int 0 0),(.int 0 0),(.int 3 0),(R 431),(.bool true),(.int 181 0),(R 432),N,N,N,(R 433),(.int 753 0),(.int 289 0),(Zt "/claim/cut.py" 754)])
noncomputable def KO (P:Wp):Obj:=Zo "function" (.func (Zw (T0 34) (Zs "_law_bits") (Zs "_law_bits") N N N (Zt "law_no0100_01" 676) none (R 434) N 3 0))
noncomputable def DF (P:Wp):Obj:=Zo "tuple" (.seq #[(Zt "codes" 759),(Zt "stream" 760),(Zt "found" 761),(Zt "place" 762),(Zt "more" 763),(Zt "symbol" 764),(Zt "code" 765)] 0)
noncomputable def CE (P:Wp):Obj:=Zn (.func (Zy (T0 35) (Zs "_law_read") (Zs "_law_read") N N N N none N N 0 0))
noncomputable def DG (P:Wp):Obj:=Zo "code" (.fields #[(Zt "_law_read" 756),(Zt "_law_read" 757),(Zt "/claim/cut.py" 758),(.int 294 0),(.int 2 0),(.int 0 0),(.int 0 0),(.int 3 0),(R 436),(.bool true),(.int 181 0),(R 437),N,(R 438),(R 439),(R 440),(.int 766 0),(.int 294 0),(Zt "/claim/cut.py" 767)])
noncomputable def KP (P:Wp):Obj:=Zo "function" (.func (Zw (T0 35) (Zs "_law_read") (Zs "_law_read") N N N (Zt "law_no0100_01" 676) none (R 441) N 3 0))
noncomputable def DH (P:Wp):Obj:=Zo "tuple" (.seq #[(Zt "reader" 772),(Zt "stream" 773),(Zt "most" 774),(Zt "found" 775),(Zt "turn" 776)] 0)
noncomputable def CF (P:Wp):Obj:=Zn (.func (Zy (T0 36) (Zs "_law_told") (Zs "_law_told") N N N N none N N 0 0))
noncomputable def DJ (P:Wp):Obj:=Zo "code" (.fields #[(Zt "_law_told" 769),(Zt "_law_told" 770),(Zt "/claim/cut.py" 771),(.int 305 0),(.int 3 0),(.int 0 0),(.int 0 0),(.int 3 0),(R 443),(.bool true),(.int 181 0),(R 444),N,(R 445),(R 446),(R 447),(.int 777 0),(.int 305 0),(Zt "/claim/cut.py" 778)])
noncomputable def KQ (P:Wp):Obj:=Zo "function" (.func (Zw (T0 36) (Zs "_law_told") (Zs "_law_told") N N N (Zt "law_no0100_01" 676) none (R 448) N 3 0))
noncomputable def CG (P:Wp):Obj:=Zn (.func (Zy (T0 37) (Zs "_law_written_right") (Zs "_law_written_right") N N N N none N N 0 0))
noncomputable def DK (P:Wp):Obj:=Zo "code" (.fields #[(Zt "_law_written_right" 780),(Zt "_law_written_right" 781),(Zt "/claim/cut.py" 782),(.int 315 0),(.int 3 0),(.int 0 0),(.int 0 0),(.int 3 0),(R 450),(.bool true),(.int 181 0),(R 451),N,N,N,(R 452),(.int 783 0),(.int 315 0),(Zt "/claim/cut.py" 784)])
noncomputable def KR (P:Wp):Obj:=Zo "function" (.func (Zw (T0 37) (Zs "_law_written_right") (Zs "_law_written_right") N N N (Zt "law_no0100_01" 676) none (R 453) N 3 0))
noncomputable def DL (P:Wp):Obj:=Zo "tuple" (.seq #[(Zt "own" 789),(Zt "symbol" 790)] 0)
noncomputable def CH (P:Wp):Obj:=Zn (.func (Zy (T0 38) (Zs "_law_unwritten") (Zs "_law_unwritten") N N N N none N N 0 0))
noncomputable def DM (P:Wp):Obj:=Zo "code" (.fields #[(Zt "_law_unwritten" 786),(Zt "_law_unwritten" 787),(Zt "/claim/cut.py" 788),(.int 331 0),(.int 2 0),(.int 0 0),(.int 0 0),(.int 3 0),(R 455),(.bool true),(.int 181 0),(R 456),N,(R 457),(R 458),(R 459),(.int 791 0),(.int 331 0),(Zt "/claim/cut.py" 792)])
noncomputable def KS (P:Wp):Obj:=Zo "function" (.func (Zw (T0 38) (Zs "_law_unwritten") (Zs "_law_unwritten") N N N (Zt "law_no0100_01" 676) none (R 460) N 3 0))
noncomputable def CJ (P:Wp):Obj:=Zn (.func (Zy (T0 39) (Zs "_law_lone_right") (Zs "_law_lone_right") N N N N none N N 0 0))
noncomputable def DN (P:Wp):Obj:=Zo "code" (.fields #[(Zt "_law_lone_right" 794),(Zt "_law_lone_right" 795),(Zt "/claim/cut.py" 796),(.int 337 0),(.int 1 0),(.int 0 0),(.int 0 0),(.int 3 0),(R 462),(.bool true),(.int 181 0),(R 463),N,N,N,(R 464),(.int 797 0),(.int 337 0),(Zt "/claim/cut.py" 798)])
noncomputable def KT (P:Wp):Obj:=Zo "function" (.func (Zw (T0 39) (Zs "_law_lone_right") (Zs "_law_lone_right") N N N (Zt "law_no0100_01" 676) none (R 465) N 3 0))
noncomputable def DO (P:Wp):Obj:=Zo "tuple" (.seq #[(Zt "row" 803),(Zt "octets" 804),(Zt "due" 805)] 0)
noncomputable def CK (P:Wp):Obj:=Zn (.func (Zy (T0 40) (Zs "_law_deep_right") (Zs "_law_deep_right") N N N N none N N 0 0))
noncomputable def DP (P:Wp):Obj:=Zo "code" (.fields #[(Zt "_law_deep_right" 800),(Zt "_law_deep_right" 801),(Zt "/claim/cut.py" 802),(.int 344 0),(.int 0 0),(.int 0 0),(.int 0 0),(.int 3 0),(R 467),(.bool true),(.int 181 0),(R 468),N,(R 469),(R 470),(R 471),(.int 806 0),(.int 344 0),(Zt "/claim/cut.py" 807)])
noncomputable def KU (P:Wp):Obj:=Zo "function" (.func (Zw (T0 40) (Zs "_law_deep_right") (Zs "_law_deep_right") N N N (Zt "law_no0100_01" 676) none (R 472) N 3 0))
noncomputable def CL (P:Wp):Obj:=Zn (.func (Zy (T0 41) (Zs "law") (Zs "law") N N N N none N N 0 0))
noncomputable def DQ (P:Wp):Obj:=Zo "code" (.fields #[(Zt "law" 809),(Zt "law" 810),(Zt "/claim/cut.py" 811),(.int 354 0),(.int 1 0),(.int 0 0),(.int 0 0),(.int 3 0),(R 474),(.bool true),(.int 181 0),(R 475),N,N,N,(R 476),(.int 812 0),(.int 354 0),(Zt "/claim/cut.py" 813)])
noncomputable def KV (P:Wp):Obj:=Zo "function" (.func (Zw (T0 41) (Zs "law") (Zs "law") N N N (Zt "law_no0100_01" 676) none (R 477) N 3 0))
noncomputable def t41 (P:Wp):BT:=(B (boot_o_0 P) (B (boot_o_1 P) (B (H1 P) (B (W7 P) (B (o4 P) (B (V4 P) (B (W7 P) (B (TL P) (B (Kb P) L L) (B (W7 P) L L)) (B (GT P) (B (Ky P) L L) (B (CF P) L L))) (B (W8 P) (B (o5 P) (B (Km P) L L) (B (W8 P) L L)) (B (HL P) (B (W7 P) L L) L))) (B (Ti P) (B (W7 P) (B (WY P) (B (W7 P) L L) (B (Cw P) L L)) (B (W7 P) (B (W8 P) L L) (B (W8 P) L L))) (B (W7 P) (B (W7 P) (B (Kx P) L L) (B (W7 P) L L)) (B (W7 P) (B (Dk P) L L) L)))) (B (W7 P) (B (W7 P) (B (Ts P) (B (K7 P) (B (Ta P) L L) (B (W8 P) L L)) (B (U1 P) (B (W7 P) L L) (B (W7 P) L L))) (B (TB P) (B (UP P) (B (W7 P) L L) (B (CB P) L L)) (B (G4 P) (B (Cp P) L L) L))) (B (W7 P) (B (W8 P) (B (TR P) (B (W8 P) L L) (B (Dy P) L L)) (B (W8 P) (B (Db P) L L) (B (CK P) L L))) (B (K2 P) (B (GS P) (B (Ch P) L L) (B (W7 P) L L)) (B (HR P) (B (Cs P) L L) L))))) (B (W7 P) (B (o7 P) (B (Td P) (B (W7 P) (B (K4 P) (B (Kc P) L L) (B (Cu P) L L)) (B (GV P) (B (W7 P) L L) (B (W8 P) L L))) (B (TA P) (B (GO P) (B (Ko P) L L) (B (DB P) L L)) (B (HO P) (B (W7 P) L L) L))) (B (W7 P) (B (KX P) (B (W7 P) (B (HV P) L L) (B (W8 P) L L)) (B (HI P) (B (Da P) L L) (B (W7 P) L L))) (B (W7 P) (B (W7 P) (B (o5 P) L L) (B (KO P) L L)) (B (W7 P) (B (Dn P) L L) L)))) (B (U0 P) (B (W7 P) (B (W7 P) (B (TM P) (B (W7 P) L L) (B (Dv P) L L)) (B (W7 P) (B (Cl P) L L) (B (CH P) L L))) (B (Uf P) (B (VY P) (B (Kt P) L L) (B (W8 P) L L)) (B (U6 P) (B (W8 P) L L) L))) (B (Tn P) (B (Ty P) (B (TV P) (B (Kk P) L L) (B (Cz P) L L)) (B (G3 P) (B (Dd P) L L) (B (W8 P) L L))) (B (W8 P) (B (UW P) (B (H2 P) L L) (B (W7 P) L L)) (B (W8 P) (B (W7 P) L L) L)))))) (B (boot_o_5 P) (B (boot_o_9 P) (B (o6 P) (B (V6 P) (B (Tp P) (B (W7 P) (B (W7 P) L L) (B (Ds P) L L)) (B (W7 P) (B (W8 P) L L) (B (KQ P) L L))) (B (W7 P) (B (W7 P) (B (HX P) L L) (B (W7 P) L L)) (B (HM P) (B (Df P) L L) L))) (B (o5 P) (B (Tv P) (B (W8 P) (B (Kg P) L L) (B (KH P) L L)) (B (GZ P) (B (W7 P) L L) (B (DN P) L L))) (B (TG P) (B (US P) (B (H0 P) L L) (B (CD P) L L)) (B (G7 P) (B (Dl P) L L) L)))) (B (V0 P) (B (Tf P) (B (W8 P) (B (W7 P) (B (W8 P) L L) (B (W7 P) L L)) (B (W8 P) (B (H6 P) L L) (B (DL P) L L))) (B (K0 P) (B (GQ P) (B (Kr P) L L) (B (KM P) L L)) (B (HP P) (B (KC P) L L) L))) (B (Vw P) (B (W7 P) (B (TT P) (B (W7 P) L L) (B (W7 P) L L)) (B (W7 P) (B (Cn P) L L) (B (KU P) L L))) (B (Uh P) (B (V1 P) (B (W7 P) L L) (B (DG P) L L)) (B (U8 P) (B (W8 P) L L) L))))) (B (o0 P) (B (o9 P) (B (o5 P) (B (Vx P) (B (K5 P) (B (HT P) L L) (B (KF P) L L)) (B (HG P) (B (H5 P) L L) (B (DK P) L L))) (B (W7 P) (B (W7 P) (B (W8 P) L L) (B (W7 P) L L)) (B (W7 P) (B (Dh P) L L) L))) (B (Tk P) (B (Ub P) (B (TP P) (B (Ki P) L L) (B (W7 P) L L)) (B (U3 P) (B (W7 P) L L) (B (DO P) L L))) (B (TH P) (B (UT P) (B (W7 P) L L) (B (W8 P) L L)) (B (G8 P) (B (Dp P) L L) L)))) (B (Vu P) (B (Vv P) (B (Tu P) (B (K8 P) (B (Kf P) L L) (B (W7 P) L L)) (B (GY P) (B (H8 P) L L) (B (KS P) L L))) (B (W8 P) (B (W8 P) (B (Kv P) L L) (B (DD P) L L)) (B (W8 P) (B (W7 P) L L) L))) (B (o5 P) (B (Ud P) (B (Jb P) (B (W7 P) L L) (B (KJ P) L L)) (B (W7 P) (B (W8 P) L L) (B (DQ P) L L))) (B (W7 P) (B (UY P) (B (Cj P) L L) (B (DH P) L L)) (B (W7 P) (B (Dr P) L L) L))))))) (B (boot_o_2 P) (B (boot_o_4 P) (B (W8 P) (B (o5 P) (B (V5 P) (B (W8 P) (B (Ui P) (B (U9 P) L L) (B (W8 P) L L)) (B (GU P) (B (W7 P) L L) (B (DJ P) L L))) (B (Tz P) (B (Jc P) (B (W7 P) L L) (B (DA P) L L)) (B (W7 P) (B (Co P) L L) L))) (B (YT P) (B (W8 P) (B (W7 P) (B (W8 P) L L) (B (Dw P) L L)) (B (W8 P) (B (H9 P) L L) (B (CJ P) L L))) (B (K1 P) (B (GR P) (B (HZ P) L L) (B (W8 P) L L)) (B (HQ P) (B (KD P) L L) L)))) (B (W8 P) (B (W8 P) (B (W7 P) (B (WX P) (B (W7 P) L L) (B (Du P) L L)) (B (W7 P) (B (W8 P) L L) (B (W8 P) L L))) (B (W7 P) (B (W7 P) (B (HY P) L L) (B (DC P) L L)) (B (W7 P) (B (Di P) L L) L))) (B (V8 P) (B (Tx P) (B (TS P) (B (Kj P) L L) (B (KI P) L L)) (B (G2 P) (B (W7 P) L L) (B (DP P) L L))) (B (TJ P) (B (UU P) (B (Ci P) L L) (B (CE P) L L)) (B (G9 P) (B (W7 P) L L) L))))) (B (Ce P) (B (o8 P) (B (YT P) (B (V9 P) (B (W7 P) (B (W7 P) L L) (B (Dt P) L L)) (B (W7 P) (B (Ck P) L L) (B (CG P) L L))) (B (Ue P) (B (GP P) (B (W7 P) L L) (B (KL P) L L)) (B (U5 P) (B (W8 P) L L) L))) (B (W8 P) (B (Tw P) (B (K9 P) (B (Kh P) L L) (B (Dx P) L L)) (B (G1 P) (B (KB P) L L) (B (W8 P) L L))) (B (W8 P) (B (W8 P) (B (Cf P) L L) (B (W7 P) L L)) (B (W8 P) (B (Do P) L L) L)))) (B (V2 P) (B (V7 P) (B (KW P) (B (W7 P) (B (HU P) L L) (B (KG P) L L)) (B (HH P) (B (H7 P) L L) (B (DM P) L L))) (B (W7 P) (B (W7 P) (B (Ku P) L L) (B (CC P) L L)) (B (W7 P) (B (Dj P) L L) L))) (B (YT P) (B (Uc P) (B (Ja P) (B (Kl P) L L) (B (Dz P) L L)) (B (U4 P) (B (W7 P) L L) (B (CL P) L L))) (B (TK P) (B (UX P) (B (W7 P) L L) (B (W8 P) L L)) (B (Ka P) (B (Ct P) L L) L)))))) (B (boot_o_6 P) (B (boot_o_10 P) (B (W7 P) (B (Tc P) (B (Tq P) (B (o5 P) (B (W8 P) L L) (B (W7 P) L L)) (B (W8 P) (B (H4 P) L L) (B (W7 P) L L))) (B (KZ P) (B (Jd P) (B (Kn P) L L) (B (CA P) L L)) (B (HN P) (B (Dg P) L L) L))) (B (Tj P) (B (W7 P) (B (TO P) (B (W7 P) L L) (B (W7 P) L L)) (B (W7 P) (B (Cm P) L L) (B (KT P) L L))) (B (Ug P) (B (VZ P) (B (W7 P) L L) (B (DE P) L L)) (B (U7 P) (B (Dm P) L L) L)))) (B (W7 P) (B (Tg P) (B (Tt P) (B (W8 P) (B (Ke P) L L) (B (Cv P) L L)) (B (GX P) (B (W7 P) L L) (B (W7 P) L L))) (B (TC P) (B (UQ P) (B (Ks P) L L) (B (W7 P) L L)) (B (G5 P) (B (W7 P) L L) L))) (B (Tm P) (B (KY P) (B (TU P) (B (HW P) L L) (B (W8 P) L L)) (B (HJ P) (B (Dc P) L L) (B (W7 P) L L))) (B (W7 P) (B (UV P) (B (W8 P) L L) (B (KP P) L L)) (B (W7 P) (B (Dq P) L L) L))))) (B (o1 P) (B (Vt P) (B (Te P) (B (Tr P) (B (K6 P) (B (Kd P) L L) (B (W7 P) L L)) (B (GW P) (B (Kz P) L L) (B (KR P) L L))) (B (W8 P) (B (W8 P) (B (Kq P) L L) (B (W8 P) L L)) (B (W8 P) (B (W7 P) L L) L))) (B (Tl P) (B (W7 P) (B (Uj P) (B (W7 P) L L) (B (Cy P) L L)) (B (W7 P) (B (W8 P) L L) (B (W7 P) L L))) (B (W7 P) (B (W7 P) (B (Cg P) L L) (B (DF P) L L)) (B (W7 P) (B (Cr P) L L) L)))) (B (V3 P) (B (Th P) (B (Ua P) (B (TN P) (B (Tb P) L L) (B (W8 P) L L)) (B (U2 P) (B (W7 P) L L) (B (W7 P) L L))) (B (TF P) (B (UR P) (B (Kw P) L L) (B (KN P) L L)) (B (G6 P) (B (Cq P) L L) L))) (B (To P) (B (W7 P) (B (W7 P) (B (W8 P) L L) (B (W7 P) L L)) (B (o5 P) (B (De P) L L) (B (KV P) L L))) (B (K3 P) (B (UZ P) (B (H3 P) L L) (B (W7 P) L L)) (B (HS P) (B (KE P) L L) L))))))))
noncomputable def WR (P:Wp):Heap:=⟨⟨[boot_o_0 P,boot_o_1 P,boot_o_2 P,H1 P,boot_o_4 P,boot_o_5 P,boot_o_6 P,W7 P,W8 P,boot_o_9 P,boot_o_10 P,W7 P,Ce P,o0 P,o1 P,o4 P,o5 P,o6 P,W7 P,o7 P,o8 P,o9 P,Vt P,W7 P,W8 P,V0 P,W7 P,U0 P,V2 P,Vu P,V3 P,V4 P,V5 P,V6 P,Tc P,Td P,YT P,o5 P,Te P,W7 P,W8 P,Tf P,Tg P,W7 P,V7 P,Vv P,Th P,Ti P,YT P,o5 P,Tj P,W7 P,W8 P,Tk P,Tl P,W7 P,V8 P,Vw P,Tm P,Tn P,YT P,o5 P,To P,W7 P,W8 P,Tp P,Tq P,W7 P,V9 P,Vx P,Tr P,Ts P,W7 P,W8 P,Tt P,W7 P,KW P,Tu P,Ua P,W7 P,W8 P,Tv P,W7 P,KX P,Tw P,Ub P,W7 P,W8 P,Tx P,W7 P,KY P,Ty P,Uc P,Ud P,W7 P,W8 P,Tz P,W7 P,KZ P,TA P,Ue P,W7 P,W8 P,TB P,W7 P,K0 P,TC P,Uf P,W7 P,W8 P,TF P,W7 P,K1 P,TG P,Ug P,W7 P,W8 P,TH P,W7 P,K2 P,TJ P,Uh P,W7 P,W8 P,TK P,W7 P,K3 P,TL P,Ui P,W7 P,o5 P,K4 P,W7 P,K5 P,K6 P,K7 P,WX P,W7 P,W8 P,TM P,W7 P,K8 P,TN P,WY P,W7 P,W8 P,TO P,W7 P,K9 P,TP P,Uj P,TR P,TS P,TT P,TU P,TV P,Ja P,Jb P,W7 P,o5 P,Jc P,W7 P,Jd P,GO P,GP P,W7 P,W8 P,UP P,W7 P,GQ P,UQ P,VY P,W7 P,W8 P,UR P,W7 P,GR P,US P,VZ P,W7 P,W8 P,UT P,W7 P,GS P,UU P,V1 P,UV P,UW P,UX P,UY P,UZ P,GT P,GU P,W7 P,W8 P,GV P,W7 P,HG P,GW P,U1 P,W7 P,W8 P,GX P,W7 P,HH P,GY P,U2 P,W7 P,W8 P,GZ P,W7 P,HI P,G1 P,U3 P,W7 P,W8 P,G2 P,W7 P,HJ P,G3 P,U4 P,W7 P,o5 P,HL P,W7 P,HM P,HN P,HO P,U5 P,W7 P,W8 P,G4 P,W7 P,HP P,G5 P,U6 P,W7 P,W8 P,G6 P,W7 P,HQ P,G7 P,U7 P,W7 P,W8 P,G8 P,W7 P,HR P,G9 P,U8 P,W7 P,W8 P,Ka P,W7 P,HS P,Kb P,U9 P,W7 P,W8 P,Kc P,W7 P,HT P,Kd P,Ta P,W7 P,W8 P,Ke P,W7 P,HU P,Kf P,Tb P,W7 P,W8 P,Kg P,W7 P,HV P,Kh P,Ki P,W7 P,W8 P,Kj P,W7 P,HW P,Kk P,Kl P,W7 P,W8 P,Km P,W7 P,HX P,Kn P,Ko P,W7 P,W8 P,Kq P,W7 P,HY P,Kr P,Ks P,Kt P,Ku P,Kv P,Kw P,Kx P,HZ P,H0 P,W7 P,o5 P,Cf P,W7 P,Cg P,Ch P,Ci P,W7 P,W8 P,H2 P,W7 P,Cj P,H3 P,Ky P,W7 P,W8 P,H4 P,W7 P,Ck P,H5 P,Kz P,W7 P,W8 P,H6 P,W7 P,Cl P,H7 P,H8 P,W7 P,W8 P,H9 P,W7 P,Cm P,Da P,KB P,W7 P,W8 P,Db P,W7 P,Cn P,Dc P,Dd P,W7 P,W8 P,De P,W7 P,Co P,Df P,Dg P,W7 P,W8 P,Dh P,W7 P,Cp P,Di P,KC P,W7 P,W8 P,Dj P,W7 P,Cq P,Dk P,KD P,Dl P,Dm P,Dn P,Do P,Dp P,Cr P,Cs P,W7 P,W8 P,Dq P,W7 P,Ct P,Dr P,KE P,W7 P,W8 P,Ds P,W7 P,Cu P,Dt P,KF P,W7 P,W8 P,Du P,W7 P,Cv P,Dv P,KG P,W7 P,W8 P,Cw P,Dw P,KH P,W7 P,W8 P,Dx P,W7 P,Cy P,Dy P,KI P,W7 P,W8 P,Cz P,Dz P,KJ P,W7 P,W8 P,DA P,W7 P,CA P,DB P,KL P,W7 P,W8 P,CB P,DC P,KM P,W7 P,W8 P,CC P,DD P,KN P,W7 P,W8 P,CD P,DE P,KO P,W7 P,W8 P,DF P,W7 P,CE P,DG P,KP P,W7 P,W8 P,DH P,W7 P,CF P,DJ P,KQ P,W7 P,W8 P,CG P,DK P,KR P,W7 P,W8 P,DL P,W7 P,CH P,DM P,KS P,W7 P,W8 P,CJ P,DN P,KT P,W7 P,W8 P,DO P,W7 P,CK P,DP P,KU P,W7 P,W8 P,CL P,DQ P,KV P]⟩,{}⟩
noncomputable def KK (P:Wp):Frag:=[(2,boot_o_2 P),(3,H1 P),(15,o4 P),(22,Vt P),(23,W7 P),(25,V0 P),(26,W7 P),(28,V2 P),(29,Vu P),(30,V3 P),(31,V4 P),(32,V5 P),(33,V6 P),(36,YT P),(43,W7 P),(44,V7 P),(45,Vv P),(48,YT P),(55,W7 P),(56,V8 P),(57,Vw P),(60,YT P),(67,W7 P),(68,V9 P),(69,Vx P),(72,W7 P),(74,Tt P),(75,W7 P),(77,Tu P),(78,Ua P),(79,W7 P),(81,Tv P),(82,W7 P),(84,Tw P),(85,Ub P),(86,W7 P),(88,Tx P),(89,W7 P),(91,Ty P),(92,Uc P),(93,Ud P),(94,W7 P),(96,Tz P),(97,W7 P),(99,TA P),(100,Ue P),(101,W7 P),(103,TB P),(104,W7 P),(106,TC P),(107,Uf P),(108,W7 P),(110,TF P),(111,W7 P),(113,TG P),(114,Ug P),(115,W7 P),(117,TH P),(118,W7 P),(120,TJ P),(121,Uh P),(122,W7 P),(124,TK P),(125,W7 P),(127,TL P),(128,Ui P),(136,WX P),(137,W7 P),(139,TM P),(140,W7 P),(142,TN P),(143,WY P),(144,W7 P),(146,TO P),(147,W7 P),(149,TP P),(150,Uj P),(151,TR P),(152,TS P),(153,TT P),(154,TU P),(155,TV P),(165,W7 P),(167,UP P),(168,W7 P),(170,UQ P),(171,VY P),(172,W7 P),(174,UR P),(175,W7 P),(177,US P),(178,VZ P),(179,W7 P),(181,UT P),(182,W7 P),(184,UU P),(185,V1 P),(186,UV P),(187,UW P),(188,UX P),(189,UY P),(190,UZ P),(193,W7 P),(195,GV P),(196,W7 P),(198,GW P),(199,U1 P),(200,W7 P),(202,GX P),(203,W7 P),(205,GY P),(206,U2 P),(207,W7 P),(209,GZ P),(210,W7 P),(212,G1 P),(213,U3 P),(214,W7 P),(216,G2 P),(217,W7 P),(219,G3 P),(220,U4 P),(228,U5 P),(229,W7 P),(231,G4 P),(232,W7 P),(234,G5 P),(235,U6 P),(236,W7 P),(238,G6 P),(239,W7 P),(241,G7 P),(242,U7 P),(243,W7 P),(245,G8 P),(246,W7 P),(248,G9 P),(249,U8 P),(250,W7 P),(252,Ka P),(253,W7 P),(255,Kb P),(256,U9 P),(257,W7 P),(259,Kc P),(260,W7 P),(262,Kd P),(263,Ta P),(264,W7 P),(266,Ke P),(267,W7 P),(269,Kf P),(270,Tb P),(271,W7 P),(273,Kg P),(274,W7 P),(276,Kh P),(277,Ki P),(278,W7 P),(280,Kj P),(281,W7 P),(283,Kk P),(284,Kl P),(285,W7 P),(287,Km P),(288,W7 P),(290,Kn P),(291,Ko P),(292,W7 P),(294,Kq P),(295,W7 P),(297,Kr P),(298,Ks P),(299,Kt P),(300,Ku P),(301,Kv P),(302,Kw P),(303,Kx P),(313,W7 P),(315,H2 P),(316,W7 P),(318,H3 P),(319,Ky P),(320,W7 P),(322,H4 P),(323,W7 P),(325,H5 P),(326,Kz P),(327,W7 P),(329,H6 P),(330,W7 P),(332,H7 P),(333,H8 P),(334,W7 P),(336,H9 P),(337,W7 P),(339,Da P),(340,KB P),(341,W7 P),(343,Db P),(344,W7 P),(346,Dc P),(347,Dd P),(348,W7 P),(350,De P),(351,W7 P),(353,Df P),(354,Dg P),(355,W7 P),(357,Dh P),(358,W7 P),(360,Di P),(361,KC P),(362,W7 P),(364,Dj P),(365,W7 P),(367,Dk P),(368,KD P),(369,Dl P),(370,Dm P),(371,Dn P),(372,Do P),(373,Dp P),(376,W7 P),(378,Dq P),(379,W7 P),(381,Dr P),(382,KE P),(383,W7 P),(385,Ds P),(386,W7 P),(388,Dt P),(389,KF P),(390,W7 P),(392,Du P),(393,W7 P),(395,Dv P),(396,KG P),(397,W7 P),(400,Dw P),(401,KH P),(402,W7 P),(404,Dx P),(405,W7 P),(407,Dy P),(408,KI P),(409,W7 P),(412,Dz P),(413,KJ P),(414,W7 P),(416,DA P),(417,W7 P),(419,DB P),(420,KL P),(421,W7 P),(424,DC P),(425,KM P),(426,W7 P),(429,DD P),(430,KN P),(431,W7 P),(434,DE P),(435,KO P),(436,W7 P),(438,DF P),(439,W7 P),(441,DG P),(442,KP P),(443,W7 P),(445,DH P),(446,W7 P),(448,DJ P),(449,KQ P),(450,W7 P),(453,DK P),(454,KR P),(455,W7 P),(457,DL P),(458,W7 P),(460,DM P),(461,KS P),(462,W7 P),(465,DN P),(466,KT P),(467,W7 P),(469,DO P),(470,W7 P),(472,DP P),(473,KU P),(474,W7 P),(477,DQ P),(478,KV P)]
noncomputable def KA:List Addr:=[2,3,15,22,23,25,26,28,29,30,31,32,33,36,43,44,45,48,55,56,57,60,67,68,69,72,74,75,77,78,79,81,82,84,85,86,88,89,91,92,93,94,96,97,99,100,101,103,104,106,107,108,110,111,113,114,115,117,118,120,121,122,124,125,127,128,136,137,139,140,142,143,144,146,147,149,150,151,152,153,154,155,165,167,168,170,171,172,174,175,177,178,179,181,182,184,185,186,187,188,189,190,193,195,196,198,199,200,202,203,205,206,207,209,210,212,213,214,216,217,219,220,228,229,231,232,234,235,236,238,239,241,242,243,245,246,248,249,250,252,253,255,256,257,259,260,262,263,264,266,267,269,270,271,273,274,276,277,278,280,281,283,284,285,287,288,290,291,292,294,295,297,298,299,300,301,302,303,313,315,316,318,319,320,322,323,325,326,327,329,330,332,333,334,336,337,339,340,341,343,344,346,347,348,350,351,353,354,355,357,358,360,361,362,364,365,367,368,369,370,371,372,373,376,378,379,381,382,383,385,386,388,389,390,392,393,395,396,397,400,401,402,404,405,407,408,409,412,413,414,416,417,419,420,421,424,425,426,429,430,431,434,435,436,438,439,441,442,443,445,446,448,449,450,453,454,455,457,458,460,461,462,465,466,467,469,470,472,473,474,477,478]
noncomputable abbrev WL:List Stmt:=behindTheImports pw
noncomputable def Vj:Env:={scope:=pw.main.scope,locals:=mainNs,globals:=mainNs,cells:=[],code:=.ref 13,frame:=some 14}
noncomputable abbrev cE:Code:=.body WL Vj
noncomputable abbrev BB:List Frame:=[topFrame ⟨0,0,0,0⟩]
noncomputable abbrev Wo:Option Value:=some (.ref 6)
noncomputable abbrev g0:Array GenState:=⟨[]⟩
noncomputable def L1:List Stmt:=(WL.drop 0).take 5
noncomputable def L2:List Stmt:=(WL.drop 5).take 12
noncomputable def L3:List Stmt:=(WL.drop 17).take 6
noncomputable def L4:List Stmt:=WL.drop 23
theorem R3:WL=L1++(L2++(L3++(L4++[]))):=by kernel_rfl
theorem pre (w:World)(os:OsState):topGo treeTable pw w 11 Wo 12 ⟨boot_heap w.params,g0,boot_drawn,boot_toks,os⟩ (topStub pw)=some (⟨hP w.params,g0,{},187,os⟩,⟨denote treeTable cE,cE,⟨0,0,0,0⟩,BB⟩):=by kernel_rfl
noncomputable def Sb (w:World)(os:OsState):SharedT:=⟨tP w.params,15,{},g0,{},187,os⟩
theorem block (w:World)(os:OsState):segRun treeTable pw w 11 Wo 1 1 ⟨hP w.params,g0,{},187,os⟩ (blockOf WL Vj cE ⟨0,0,0,0⟩ BB)=some (.next,(Sb w os).abs,cE,⟨0,0,0,0⟩):=by kernel_rfl
noncomputable def S1 (w:World)(os:OsState):SharedT:=⟨t4 w.params,72,{},g0,{},265,os⟩
theorem g1 (w:World)(os:OsState):segRunT treeTable pw w 11 Wo 1 869 (Sb w os) (piecesOf L1 Vj cE ⟨0,0,0,0⟩ BB)=some (.next,S1 w os,cE,⟨11,0,12,8⟩):=by kernel_rfl
noncomputable def S2 (w:World)(os:OsState):SharedT:=⟨t16 w.params,193,{},g0,{},444,os⟩
theorem g2 (w:World)(os:OsState):segRunT treeTable pw w 11 Wo 1 834 (S1 w os) (piecesOf L2 Vj cE ⟨11,0,12,8⟩ BB)=some (.next,S2 w os,cE,⟨94,0,108,61⟩):=by kernel_rfl
noncomputable def S3 (w:World)(os:OsState):SharedT:=⟨t22 w.params,306,{},g0,{},588,os⟩
theorem g3 (w:World)(os:OsState):segRunT treeTable pw w 11 Wo 1 650 (S2 w os) (piecesOf L3 Vj cE ⟨94,0,108,61⟩ BB)=some (.next,S3 w os,cE,⟨130,0,174,37⟩):=by kernel_rfl
noncomputable def S4 (w:World)(os:OsState):SharedT:=⟨t41 w.params,479,{},g0,{},815,os⟩
theorem g4 (w:World)(os:OsState):segRunT treeTable pw w 11 Wo 1 954 (S3 w os) (piecesOf L4 Vj cE ⟨130,0,174,37⟩ BB)=some (.next,S4 w os,cE,⟨354,0,385,77⟩):=by kernel_rfl
theorem fin (w:World)(os:OsState):topRun treeTable pw w 11 Wo 2 (S4 w os).abs ⟨doneF .next,cE,⟨354,0,385,77⟩,BB⟩=some ⟨WR w.params,g0,{},815,os⟩:=by kernel_rfl
theorem run (w:World)(os:OsState):topRun treeTable pw w 11 Wo (12+(1+(869+(834+(650+(954+2)))))) ⟨boot_heap w.params,g0,boot_drawn,boot_toks,os⟩ (topStub pw)=some ⟨WR w.params,g0,{},815,os⟩:=by
 refine go_top (pre w os) ?_
 refine piece_block (b:=WL) (env:=Vj) (block w os) ?_
 have h:=(piece_app (segRun_of (g1 w os)) (piece_app (segRun_of (g2 w os)) (piece_app (segRun_of (g3 w os)) (piece_app (rest:=[]) (segRun_of (g4 w os)) (fin w os)))))
 rw [← R3] at h
 exact h
noncomputable def qq:Program:=PySem.W.view pw [41]
noncomputable def X9:List Str:=[Zs "PressError",Zs "CutShort",Zs "BadCode",Zs "BadArgument",Zs "LONGEST",Zs "counts_by_length",Zs "room_of",Zs "room_left",Zs "check_lengths",Zs "greatest_length",Zs "first_codes",Zs "canonical",Zs "by_length",Zs "PrefixReader",Zs "PrefixWriter",Zs "need_count",Zs "need_value",Zs "end_of",Zs "gathered",Zs "LowReader",Zs "LowWriter",Zs "_law_pool",Zs "_law_take",Zs "_law_full",Zs "_law_other",Zs "_law_space",Zs "_law_lets",Zs "_law_checked",Zs "_law_codes",Zs "_law_free",Zs "_law_bits",Zs "_law_read",Zs "_law_told",Zs "_law_written_right",Zs "_law_unwritten",Zs "_law_lone_right",Zs "_law_deep_right"]
end
end Mine.Internal
namespace Mine.Internal
noncomputable section
open PySem PySem.W PyProof.Rows
theorem Zb6:∀ P,KA=(KK P).map (·.1):=fun _=>by kernel_rfl
noncomputable abbrev HK:Hook:=kHook KK KA Zb6
noncomputable abbrev XS:OpenRow:=PySem.Challenge.rw_no0100_01.row
theorem Zel:opening pw=plainProg pw.main.scope.names:=by kernel_rfl
theorem Zaa:∀ s:Ws,fenceModules? pw s=some s:=fun s=>by kernel_rfl
theorem ZgF (w:World):((boot_heap w.params).isNs mainGlobals&&(g0:Array GenState).size==0,(boot_heap w.params).objs.size,(boot_heap w.params).nsMap mainGlobals "__annotations__")=(true,11,Wo):=by kernel_rfl
noncomputable abbrev Jz:Ws→Bool:=fun s=>xlAt qq [] s&&recOk (RowW.records XS.toRowW) s
theorem Zcs (w:World)(os:OsState):(staticsOk (importedModules pw.main.body) (boot_heap w.params) (WR w.params)&&namesBound pw (WR w.params)&&gensDone ⟨WR w.params,g0,{},815,os⟩&&laidKept (boot_heap w.params) (WR w.params))=true:=by kernel_rfl
theorem Zct (w:World)(os:OsState):openSeen qq X9 (importedModules pw.main.body) Jz true ⟨WR w.params,g0,{},815,os⟩=openGood qq X9:=by kernel_rfl
theorem Zcu (w:World)(os:OsState):HK.obs ⟨WR w.params,g0,{},815,os⟩=HK.val w:=by kernel_rfl
theorem left:LeftO pw qq X9 Jz HK.obs HK.val 7000 true:=by
 refine LeftO.of_pieces (boot_open Zel (by decide) Zaa) ZgF run (by decide) ?_
 intro w
 funext os
 rw [Zcs w os,Zct w os,Zcu w os]
end
end Mine.Internal
namespace Mine.Internal
open PySem PySem.W PySem.Calls PyProof.Rows PyProof.Rows.TI
noncomputable def Zg {α:Type}(o:Option α)(p:α→Bool):Bool:=match o with|some x=>p x|none=>false
inductive Mu {α:Type}(o:Option α)(p:α→Bool):Prop
|mk (x:α) (e:o=some x) (h:p x=true):Mu o p
theorem Zf {α:Type}{o:Option α}{p:α→Bool}(h:Zg o p=true):Mu o p:=by
 cases o with
|none=>cases h
|some x=>exact ⟨x,rfl,h⟩
theorem Zp {a b:Bool}(h:(a&&b)=true):a=true∧b=true:=by
 cases a
 ·cases h
 ·exact ⟨rfl,h⟩
theorem Yw {a:Bool}(h:(!a)=true):a=false:=by
 cases a
 ·rfl
 ·cases h
theorem Z7 {c:Prop} [Decidable c] {α:Type}{f:c→Option α}{x:α}(h:(if h:c then f h else none)=some x):c:=by
 by_cases k:c
 ·exact k
 ·rw [dif_neg k] at h;cases h
noncomputable def YR (e:Expr):Option (Str):=if h:e.ctorIdx=23 then Expr.Name.elim (motive_1:=fun _=>Option (Str)) e h fun x _=>some x else none
theorem Xf {e:Expr}{x:Str}(h:YR e=some x):∃ p,e=.Name x p:=
 Expr.Name.elim (motive_1:=fun e=>YR e=some x→∃ p,e=.Name x p) e (Z7 h) (fun a b (h:some a=some x)=>⟨b,Option.some.inj h▸rfl⟩) h
noncomputable def Vh (e:Expr):Option (Const):=if h:e.ctorIdx=19 then Expr.Constant.elim (motive_1:=fun _=>Option (Const)) e h fun c _ _=>some c else none
theorem Uz {e:Expr}{x:Const}(h:Vh e=some x):∃ k p,e=.Constant x k p:=
 Expr.Constant.elim (motive_1:=fun e=>Vh e=some x→∃ k p,e=.Constant x k p) e (Z7 h) (fun a b c (h:some a=some x)=>⟨b,c,Option.some.inj h▸rfl⟩) h
noncomputable def JY (e:Expr):Option (Expr×Operator×Expr):=if h:e.ctorIdx=2 then Expr.BinOp.elim (motive_1:=fun _=>Option (Expr×Operator×Expr)) e h fun l o r _=>some (l,o,r) else none
theorem Sx {e:Expr}{x:Expr×Operator×Expr}(h:JY e=some x):∃ p,e=.BinOp x.1 x.2.1 x.2.2 p:=
 Expr.BinOp.elim (motive_1:=fun e=>JY e=some x→∃ p,e=.BinOp x.1 x.2.1 x.2.2 p) e (Z7 h) (fun a b c d (h:some (a,b,c)=some x)=>⟨d,Option.some.inj h▸rfl⟩) h
noncomputable def Gv (e:Expr):Option (UnaryOp×Expr):=if h:e.ctorIdx=3 then Expr.UnaryOp.elim (motive_1:=fun _=>Option (UnaryOp×Expr)) e h fun o e _=>some (o,e) else none
theorem J9 {e:Expr}{x:UnaryOp×Expr}(h:Gv e=some x):∃ p,e=.UnaryOp x.1 x.2 p:=
 Expr.UnaryOp.elim (motive_1:=fun e=>Gv e=some x→∃ p,e=.UnaryOp x.1 x.2 p) e (Z7 h) (fun a b c (h:some (a,b)=some x)=>⟨c,Option.some.inj h▸rfl⟩) h
noncomputable def JZ (e:Expr):Option (BoolOp×List Expr):=if h:e.ctorIdx=0 then Expr.BoolOp.elim (motive_1:=fun _=>Option (BoolOp×List Expr)) e h fun o vs _=>some (o,vs) else none
theorem NS {e:Expr}{x:BoolOp×List Expr}(h:JZ e=some x):∃ p,e=.BoolOp x.1 x.2 p:=
 Expr.BoolOp.elim (motive_1:=fun e=>JZ e=some x→∃ p,e=.BoolOp x.1 x.2 p) e (Z7 h) (fun a b c (h:some (a,b)=some x)=>⟨c,Option.some.inj h▸rfl⟩) h
noncomputable def J5 (e:Expr):Option (Expr×Expr×Expr):=if h:e.ctorIdx=5 then Expr.IfExp.elim (motive_1:=fun _=>Option (Expr×Expr×Expr)) e h fun t a b _=>some (t,a,b) else none
theorem NV {e:Expr}{x:Expr×Expr×Expr}(h:J5 e=some x):∃ p,e=.IfExp x.1 x.2.1 x.2.2 p:=
 Expr.IfExp.elim (motive_1:=fun e=>J5 e=some x→∃ p,e=.IfExp x.1 x.2.1 x.2.2 p) e (Z7 h) (fun a b c d (h:some (a,b,c)=some x)=>⟨d,Option.some.inj h▸rfl⟩) h
noncomputable def J1 (e:Expr):Option (Expr×List CmpOp×List Expr):=if h:e.ctorIdx=15 then Expr.Compare.elim (motive_1:=fun _=>Option (Expr×List CmpOp×List Expr)) e h fun l o es _=>some (l,o,es) else none
theorem NU {e:Expr}{x:Expr×List CmpOp×List Expr}(h:J1 e=some x):∃ p,e=.Compare x.1 x.2.1 x.2.2 p:=
 Expr.Compare.elim (motive_1:=fun e=>J1 e=some x→∃ p,e=.Compare x.1 x.2.1 x.2.2 p) e (Z7 h) (fun a b c d (h:some (a,b,c)=some x)=>⟨d,Option.some.inj h▸rfl⟩) h
noncomputable def J7 (e:Expr):Option (List Expr):=if h:e.ctorIdx=24 then Expr.List.elim (motive_1:=fun _=>Option (List Expr)) e h fun vs _=>some vs else none
theorem SH {e:Expr}{x:List Expr}(h:J7 e=some x):∃ p,e=.List x p:=
 Expr.List.elim (motive_1:=fun e=>J7 e=some x→∃ p,e=.List x p) e (Z7 h) (fun a b (h:some a=some x)=>⟨b,Option.some.inj h▸rfl⟩) h
noncomputable def Wf (e:Expr):Option (List Expr):=if h:e.ctorIdx=25 then Expr.Tuple.elim (motive_1:=fun _=>Option (List Expr)) e h fun vs _ _=>some vs else none
theorem WM {e:Expr}{x:List Expr}(h:Wf e=some x):∃ k p,e=.Tuple x k p:=
 Expr.Tuple.elim (motive_1:=fun e=>Wf e=some x→∃ k p,e=.Tuple x k p) e (Z7 h) (fun a b c (h:some a=some x)=>⟨b,c,Option.some.inj h▸rfl⟩) h
noncomputable def VH (e:Expr):Option (Expr×Expr):=if h:e.ctorIdx=21 then Expr.Subscript.elim (motive_1:=fun _=>Option (Expr×Expr)) e h fun o j _=>some (o,j) else none
theorem Gu {e:Expr}{x:Expr×Expr}(h:VH e=some x):∃ p,e=.Subscript x.1 x.2 p:=
 Expr.Subscript.elim (motive_1:=fun e=>VH e=some x→∃ p,e=.Subscript x.1 x.2 p) e (Z7 h) (fun a b c (h:some (a,b)=some x)=>⟨c,Option.some.inj h▸rfl⟩) h
noncomputable def J8 (e:Expr):Option (Option Expr×Option Expr×Option Expr):=if h:e.ctorIdx=26 then Expr.Slice.elim (motive_1:=fun _=>Option (Option Expr×Option Expr×Option Expr)) e h fun l u s _=>some (l,u,s) else none
theorem SJ {e:Expr}{x:Option Expr×Option Expr×Option Expr}(h:J8 e=some x):∃ p,e=.Slice x.1 x.2.1 x.2.2 p:=
 Expr.Slice.elim (motive_1:=fun e=>J8 e=some x→∃ p,e=.Slice x.1 x.2.1 x.2.2 p) e (Z7 h) (fun a b c d (h:some (a,b,c)=some x)=>⟨d,Option.some.inj h▸rfl⟩) h
noncomputable def Vg (e:Expr):Option (Expr×Str×Pos):=if h:e.ctorIdx=20 then Expr.Attribute.elim (motive_1:=fun _=>Option (Expr×Str×Pos)) e h fun o x p=>some (o,x,p) else none
theorem Ux {e:Expr}{x:Expr×Str×Pos}(h:Vg e=some x):e=.Attribute x.1 x.2.1 x.2.2:=
 Expr.Attribute.elim (motive_1:=fun e=>Vg e=some x→e=.Attribute x.1 x.2.1 x.2.2) e (Z7 h) (fun a b c (h:some (a,b,c)=some x)=>Option.some.inj h▸rfl) h
noncomputable def Gr (e:Expr):Option (Expr×List Expr×List Keyword×Pos):=if h:e.ctorIdx=16 then Expr.Call.elim (motive_1:=fun _=>Option (Expr×List Expr×List Keyword×Pos)) e h fun f vs ks p=>some (f,vs,ks,p) else none
theorem NT {e:Expr}{x:Expr×List Expr×List Keyword×Pos}(h:Gr e=some x):e=.Call x.1 x.2.1 x.2.2.1 x.2.2.2:=
 Expr.Call.elim (motive_1:=fun e=>Gr e=some x→e=.Call x.1 x.2.1 x.2.2.1 x.2.2.2) e (Z7 h) (fun a b c d (h:some (a,b,c,d)=some x)=>Option.some.inj h▸rfl) h
noncomputable def J3 (e:Expr):Option (List (Option Expr)×List Expr):=if h:e.ctorIdx=6 then Expr.Dict.elim (motive_1:=fun _=>Option (List (Option Expr)×List Expr)) e h fun a b _=>some (a,b) else none
theorem Sz {e:Expr}{x:List (Option Expr)×List Expr}(h:J3 e=some x):∃ p,e=.Dict x.1 x.2 p:=
 Expr.Dict.elim (motive_1:=fun e=>J3 e=some x→∃ p,e=.Dict x.1 x.2 p) e (Z7 h) (fun a b c (h:some (a,b)=some x)=>⟨c,Option.some.inj h▸rfl⟩) h
noncomputable def J6 (e:Expr):Option (List Expr):=if h:e.ctorIdx=18 then Expr.JoinedStr.elim (motive_1:=fun _=>Option (List Expr)) e h fun vs _=>some vs else none
theorem SG {e:Expr}{x:List Expr}(h:J6 e=some x):∃ p,e=.JoinedStr x p:=
 Expr.JoinedStr.elim (motive_1:=fun e=>J6 e=some x→∃ p,e=.JoinedStr x p) e (Z7 h) (fun a b (h:some a=some x)=>⟨b,Option.some.inj h▸rfl⟩) h
noncomputable def J4 (e:Expr):Option (Expr×Int×Option Expr):=if h:e.ctorIdx=17 then Expr.FormattedValue.elim (motive_1:=fun _=>Option (Expr×Int×Option Expr)) e h fun e c s _=>some (e,c,s) else none
theorem SD {e:Expr}{x:Expr×Int×Option Expr}(h:J4 e=some x):∃ p,e=.FormattedValue x.1 x.2.1 x.2.2 p:=
 Expr.FormattedValue.elim (motive_1:=fun e=>J4 e=some x→∃ p,e=.FormattedValue x.1 x.2.1 x.2.2 p) e (Z7 h) (fun a b c d (h:some (a,b,c)=some x)=>⟨d,Option.some.inj h▸rfl⟩) h
noncomputable def Uy (e:Expr):Option (Expr×List Comprehension×Scope×Pos):=if h:e.ctorIdx=8 then Expr.ListComp.elim (motive_1:=fun _=>Option (Expr×List Comprehension×Scope×Pos)) e h fun e gs s p=>some (e,gs,s,p) else none
theorem J2 {e:Expr}{x:Expr×List Comprehension×Scope×Pos}(h:Uy e=some x):e=.ListComp x.1 x.2.1 x.2.2.1 x.2.2.2:=
 Expr.ListComp.elim (motive_1:=fun e=>Uy e=some x→e=.ListComp x.1 x.2.1 x.2.2.1 x.2.2.2) e (Z7 h) (fun a b c d (h:some (a,b,c,d)=some x)=>Option.some.inj h▸rfl) h
noncomputable def J0 (e:Const):Option (Str):=if h:e.ctorIdx=5 then Const.str.elim (motive:=fun _=>Option (Str)) e h fun s=>some s else none
theorem Sy {e:Const}{x:Str}(h:J0 e=some x):e=.str x:=
 Const.str.elim (motive:=fun e=>J0 e=some x→e=.str x) e (Z7 h) (fun a (h:some a=some x)=>Option.some.inj h▸rfl) h
noncomputable def Wj (e:Stmt):Option (List Expr×Expr):=if h:e.ctorIdx=5 then Stmt.Assign.elim (motive_2:=fun _=>Option (List Expr×Expr)) e h fun ts v _=>some (ts,v) else none
theorem W5 {e:Stmt}{x:List Expr×Expr}(h:Wj e=some x):∃ p,e=.Assign x.1 x.2 p:=
 Stmt.Assign.elim (motive_2:=fun e=>Wj e=some x→∃ p,e=.Assign x.1 x.2 p) e (Z7 h) (fun a b c (h:some (a,b)=some x)=>⟨c,Option.some.inj h▸rfl⟩) h
noncomputable def T4 (e:Stmt):Option (Expr×Operator×Expr):=if h:e.ctorIdx=7 then Stmt.AugAssign.elim (motive_2:=fun _=>Option (Expr×Operator×Expr)) e h fun t o v _=>some (t,o,v) else none
theorem D8 {e:Stmt}{x:Expr×Operator×Expr}(h:T4 e=some x):∃ p,e=.AugAssign x.1 x.2.1 x.2.2 p:=
 Stmt.AugAssign.elim (motive_2:=fun e=>T4 e=some x→∃ p,e=.AugAssign x.1 x.2.1 x.2.2 p) e (Z7 h) (fun a b c d (h:some (a,b,c)=some x)=>⟨d,Option.some.inj h▸rfl⟩) h
noncomputable def Ul (e:Stmt):Option (Option Expr):=if h:e.ctorIdx=3 then Stmt.Return.elim (motive_2:=fun _=>Option (Option Expr)) e h fun v _=>some v else none
theorem Ji {e:Stmt}{x:Option Expr}(h:Ul e=some x):∃ p,e=.Return x p:=
 Stmt.Return.elim (motive_2:=fun e=>Ul e=some x→∃ p,e=.Return x p) e (Z7 h) (fun a b (h:some a=some x)=>⟨b,Option.some.inj h▸rfl⟩) h
noncomputable def Mb (e:Stmt):Option (Expr×List Stmt×List Stmt):=if h:e.ctorIdx=12 then Stmt.If.elim (motive_2:=fun _=>Option (Expr×List Stmt×List Stmt)) e h fun t a b _=>some (t,a,b) else none
theorem Zf5 {e:Stmt}{x:Expr×List Stmt×List Stmt}(h:Mb e=some x):∃ p,e=.If x.1 x.2.1 x.2.2 p:=
 Stmt.If.elim (motive_2:=fun e=>Mb e=some x→∃ p,e=.If x.1 x.2.1 x.2.2 p) e (Z7 h) (fun a b c d (h:some (a,b,c)=some x)=>⟨d,Option.some.inj h▸rfl⟩) h
noncomputable def D9 (e:Stmt):Option (Expr):=if h:e.ctorIdx=24 then Stmt.Expr.elim (motive_2:=fun _=>Option (Expr)) e h fun v _=>some v else none
theorem ZfZ {e:Stmt}{x:Expr}(h:D9 e=some x):∃ p,e=.Expr x p:=
 Stmt.Expr.elim (motive_2:=fun e=>D9 e=some x→∃ p,e=.Expr x p) e (Z7 h) (fun a b (h:some a=some x)=>⟨b,Option.some.inj h▸rfl⟩) h
noncomputable def Ma (e:Stmt):Option (Expr×Expr×List Stmt×List Stmt):=if h:e.ctorIdx=9 then Stmt.For.elim (motive_2:=fun _=>Option (Expr×Expr×List Stmt×List Stmt)) e h fun t i b o _=>some (t,i,b,o) else none
theorem Zf0 {e:Stmt}{x:Expr×Expr×List Stmt×List Stmt}(h:Ma e=some x):∃ p,e=.For x.1 x.2.1 x.2.2.1 x.2.2.2 p:=
 Stmt.For.elim (motive_2:=fun e=>Ma e=some x→∃ p,e=.For x.1 x.2.1 x.2.2.1 x.2.2.2 p) e (Z7 h) (fun a b c d e (h:some (a,b,c,d)=some x)=>⟨e,Option.some.inj h▸rfl⟩) h
noncomputable def Me (e:Stmt):Option (Expr×List Stmt×List Stmt):=if h:e.ctorIdx=11 then Stmt.While.elim (motive_2:=fun _=>Option (Expr×List Stmt×List Stmt)) e h fun t b o _=>some (t,b,o) else none
theorem ZgB {e:Stmt}{x:Expr×List Stmt×List Stmt}(h:Me e=some x):∃ p,e=.While x.1 x.2.1 x.2.2 p:=
 Stmt.While.elim (motive_2:=fun e=>Me e=some x→∃ p,e=.While x.1 x.2.1 x.2.2 p) e (Z7 h) (fun a b c d (h:some (a,b,c)=some x)=>⟨d,Option.some.inj h▸rfl⟩) h
noncomputable def Mc (e:Stmt):Option (Option Expr×Option Expr):=if h:e.ctorIdx=16 then Stmt.Raise.elim (motive_2:=fun _=>Option (Option Expr×Option Expr)) e h fun e c _=>some (e,c) else none
theorem Zf6 {e:Stmt}{x:Option Expr×Option Expr}(h:Mc e=some x):∃ p,e=.Raise x.1 x.2 p:=
 Stmt.Raise.elim (motive_2:=fun e=>Mc e=some x→∃ p,e=.Raise x.1 x.2 p) e (Z7 h) (fun a b c (h:some (a,b)=some x)=>⟨c,Option.some.inj h▸rfl⟩) h
noncomputable def Md (e:Stmt):Option (List Stmt×List ExceptHandler×List Stmt×List Stmt):=if h:e.ctorIdx=17 then Stmt.Try.elim (motive_2:=fun _=>Option (List Stmt×List ExceptHandler×List Stmt×List Stmt)) e h fun b h o f _=>some (b,h,o,f) else none
theorem ZgA {e:Stmt}{x:List Stmt×List ExceptHandler×List Stmt×List Stmt}(h:Md e=some x):∃ p,e=.Try x.1 x.2.1 x.2.2.1 x.2.2.2 p:=
 Stmt.Try.elim (motive_2:=fun e=>Md e=some x→∃ p,e=.Try x.1 x.2.1 x.2.2.1 x.2.2.2 p) e (Z7 h) (fun a b c d e (h:some (a,b,c,d)=some x)=>⟨e,Option.some.inj h▸rfl⟩) h
noncomputable def Jm (e:Expr):Option (Str×Pos):=if h:e.ctorIdx=23 then Expr.Name.elim (motive_1:=fun _=>Option (Str×Pos)) e h fun x p=>some (x,p) else none
theorem Qp {e:Expr}{x:Str×Pos}(h:Jm e=some x):e=.Name x.1 x.2:=
 Expr.Name.elim (motive_1:=fun e=>Jm e=some x→e=.Name x.1 x.2) e (Z7 h) (fun a b (h:some (a,b)=some x)=>Option.some.inj h▸rfl) h
section
variable {α:Type}{P:List α→Prop}
theorem BG (k:P []):∀ l,l.length=0→P l
|[],_=>k
theorem GH {n:Nat}(k:∀ a l,l.length=n→P (a::l)):∀ l,l.length=n+1→P l
|a::l,h=>k a l (Nat.succ.inj h)
theorem BH (k:∀ a,P [a]):∀ l,l.length=1→P l:=GH fun a=>BG (k a)
theorem BI (k:∀ a b,P [a,b]):∀ l,l.length=2→P l:=GH fun a=>BH (k a)
theorem BJ (k:∀ a b c,P [a,b,c]):∀ l,l.length=3→P l:=GH fun a=>BI (k a)
theorem Zcp (k:∀ a b c d,P [a,b,c,d]):∀ l,l.length=4→P l:=GH fun a=>BJ (k a)
end
theorem YA {α:Type}{l:List α}(h:l.length=2):∃ a b,l=[a,b]:=BI (P:=fun l=>∃ a b,l=[a,b]) (fun a b=>⟨a,b,rfl⟩) l h
theorem Xb {α:Type}{l:List α}(h:l.length=1):∃ a,l=[a]:=BH (P:=fun l=>∃ a,l=[a]) (fun a=>⟨a,rfl⟩) l h
theorem Wm {α:Type}{l:List α}(h:l.length=3):∃ a b c,l=[a,b,c]:=BJ (P:=fun l=>∃ a b c,l=[a,b,c]) (fun a b c=>⟨a,b,c,rfl⟩) l h
theorem N7 {α:Type}{l:List α}(h:l.length=4):∃ a b c d,l=[a,b,c,d]:=Zcp (P:=fun l=>∃ a b c d,l=[a,b,c,d]) (fun a b c d=>⟨a,b,c,d,rfl⟩) l h
theorem ZhK {α:Type}{l:List α}(h:l.length=0):l=[]:=BG (P:=fun l=>l=[]) rfl l h
theorem q1 {a b c:Nat}(h:a≤b:=by assumption)(k:Nat.ble c a=true:=by rfl):c≤b:=Nat.le_trans (Nat.le_of_ble_eq_true k) h
theorem q2 {a b c:Nat}(h:a≤b:=by assumption)(k:Nat.ble (c+1) a=true:=by rfl):c≤b-1:=Nat.le_sub_of_add_le (q1 h k)
theorem q3 {a b c:Nat}(h:a≤b:=by assumption)(k:Nat.ble (c+2) a=true:=by rfl):c≤b-1-1:=Nat.le_sub_of_add_le (Nat.le_sub_of_add_le (q1 h k))
theorem q4 {a b c:Nat}(h:a≤b:=by assumption)(k:Nat.ble b c=true:=by rfl):a≤c:=Nat.le_trans h (Nat.le_of_ble_eq_true k)
theorem q5 {a b c:Nat}(h:a<b:=by assumption)(k:Nat.ble b (c+1)=true:=by rfl):a≤c:=Nat.le_of_lt_succ (q4 h k)
theorem q6 {a b c:Nat}(h:a≤b:=by assumption)(k:Nat.ble (b+1) c=true:=by rfl):a<c:=Nat.lt_of_le_of_lt h (Nat.le_of_ble_eq_true k)
theorem q7 {a b c:Nat}(h:a<b:=by assumption)(k:Nat.ble b c=true:=by rfl):a<c:=Nat.lt_of_lt_of_le h (Nat.le_of_ble_eq_true k)
theorem q8 {a b c:Nat}(h:a=b:=by assumption)(k:Nat.ble b c=true:=by rfl):a≤c:=h▸Nat.le_of_ble_eq_true k
theorem qz {a b c:Int}(h:a≤b)(k:decide (c≤a)=true):c≤b:=Int.le_trans (of_decide_eq_true k) h
theorem qx {a b c:Int}(h:a<b)(k:decide (b≤c)=true):a<c:=Int.lt_of_lt_of_le h (of_decide_eq_true k)
theorem qw {a b c:Int}(h:a≤b)(k:decide (b<c)=true):a<c:=Int.lt_of_le_of_lt h (of_decide_eq_true k)
theorem qv {a b:Nat}{c:Int}(h:a≤b)(k:decide ((b:Int)≤c)=true):(a:Int)≤c:=Int.le_trans (Int.ofNat_le.mpr h) (of_decide_eq_true k)
theorem qu {a b:Nat}{c:Int}(h:a≤b)(k:decide ((b:Int)<c)=true):(a:Int)<c:=Int.lt_of_le_of_lt (Int.ofNat_le.mpr h) (of_decide_eq_true k)
theorem qt {a:Nat}{c:Int}(k:decide (c≤0)=true):c≤(a:Int):=Int.le_trans (of_decide_eq_true k) (Int.natCast_nonneg a)
theorem qr {a:Nat}(h:1≤a):a=a-1+1:=(Nat.sub_add_cancel h).symm
theorem qp {a b:Nat}(h:b<a):a=a-1+1:=(Nat.sub_add_cancel (Nat.succ_le_of_lt (Nat.zero_lt_of_lt h))).symm
theorem qn {a b:Nat}(h:b<a):a-b=a-b-1+1:=qr (Nat.sub_pos_of_lt h)
theorem qo {a b:Nat}(h:b+1≤a):a-b=a-(b+1)+1:=qn (Nat.lt_of_succ_le h)
theorem qm {m x k:Nat}(h:m=x-k)(hk:k<x):x-(k+1)<m:=h▸Nat.sub_succ_lt_self x k hk
theorem ql {a:Nat}:(1+(a:Int)).toNat=a+1:=Nat.add_comm ..
theorem qk {a:Nat}:(0+(a:Int)).toNat=a:=Nat.zero_add _
theorem qj {a:Nat}:((a:Int)+1-1).toNat=a:=congrArg Int.toNat (Int.add_sub_cancel (a:Int) 1)
theorem qA (k i:Nat):(1+(k:Int)-1-(0+(i:Int))).toNat=k+1-1-i:=
 (congrArg Int.toNat (by rw [Int.zero_add,Int.add_comm,Int.add_sub_cancel])).trans (Int.toNat_sub k i)
theorem qB (L k:Nat):((L:Int)-(1+(k:Int))).toNat=L-(k+1):=
 (congrArg (fun x=>Int.toNat (L-x)) (Int.add_comm 1 (k:Int))).trans (Int.toNat_sub L (k+1))
theorem qD {v c:Nat}(h:c=48∨c=49):48+(2*v+(c-48)) % 2=c:=by
 rcases h with rfl|rfl
 ·exact congrArg (48+·) (Nat.mul_mod_right 2 v)
 ·exact congrArg (48+·) (Nat.mul_add_mod 2 v 1)
theorem qE {v c:Nat}(h:c=48∨c=49):(2*v+(c-48)) / 2=v:=by
 rcases h with rfl|rfl
 ·exact Nat.mul_div_cancel_left v (by decide)
 ·exact (Nat.mul_add_div (by decide) v 1).trans (Nat.add_zero v)
theorem qF {L k m:Nat}(h:L-k=m+1):L-(k+1)=m:=congrArg Nat.pred h
theorem qG (x:Nat):((x % 2:Nat):Int)=0∨((x % 2:Nat):Int)=1:=(Nat.mod_two_eq_zero_or_one x).imp (congrArg Int.ofNat) (congrArg Int.ofNat)
theorem qH {c K:Int}(h0:0≤c)(h:c≤K)(k:decide (K<2^64)=true):c.natAbs<2^64:=by
 obtain ⟨m,rfl⟩:=Int.eq_ofNat_of_zero_le h0
 exact Int.ofNat_lt.mp (Int.lt_of_le_of_lt h (of_decide_eq_true k))
theorem qJ {k n:Nat}(h:k<n-1):k+1<n:=Nat.add_lt_of_lt_sub h
theorem qK {k n:Nat}(h:k<n-1):1+(k:Int)<n:=Int.add_comm 1 (k:Int)▸Int.ofNat_lt.mpr (qJ h)
theorem qL {p:Nat}(h:¬ p<8):p / 8=(p-8) / 8+1:=Nat.div_eq_sub_div (by decide) (Nat.le_of_not_lt h)
theorem qM {p:Nat}(h:¬ p<8):p % 8=(p-8) % 8:=Nat.mod_eq_sub_mod (Nat.le_of_not_lt h)
theorem qN {p:Nat}(h:¬ p<8):8+(p-8)=p:=Nat.add_sub_of_le (Nat.le_of_not_lt h)
theorem qO {c:Int}{n:Nat}(h0:0≤c)(h:c<n):c.toNat<n:=(Int.toNat_lt h0).mpr h
theorem qP {c:Int}{n:Nat}(h0:0≤c)(h:c≤n):c.toNat<n+1:=(Int.toNat_lt h0).mpr (Int.lt_add_one_of_le h)
theorem qQ {b v g:Nat}(h:g≤v):b+(v-g)+g=b+v:=(Nat.add_assoc ..).trans (congrArg (b+·) (Nat.sub_add_cancel h))
theorem qR {c:Int}{a:Int}(h:0≤c∧c≤a):(c.toNat:Int)=c:=Int.toNat_of_nonneg h.1
theorem qS {c:Int}(h:0<c):c.toNat=c.toNat-1+1:=(Nat.sub_add_cancel ((Int.le_toNat (Int.le_of_lt h)).mpr h)).symm
theorem qT {N i:Nat}(h:i<N):N=i+(N-i-1+1):=by rw [Nat.sub_add_cancel (Nat.sub_pos_of_lt h),Nat.add_sub_of_le (Nat.le_of_lt h)]
theorem qU {p j l:Nat}(hp:p≤l)(h:j≤l-p):p+j≤l:=Nat.add_le_of_le_sub' hp h
theorem qV {m p j l:Nat}(hp:p≤l)(h:l-p<m+1)(h2:j≤l-p)(h3:1≤j):l-(p+j)<m:=by
 rw [Nat.sub_add_eq]
 exact Nat.lt_of_lt_of_le (Nat.sub_lt (Nat.lt_of_lt_of_le h3 h2) h3) (Nat.le_of_lt_succ h)
theorem qAa {N l b:Nat}(h:N=8*l+b)(hb:0<(b:Int)):8*(l+1)-N<8:=by
 subst h;rw [show 8*(l+1)=8*l+8 from rfl,Nat.add_sub_add_left];exact Nat.sub_lt (by decide) (Int.ofNat_lt.mp hb)
theorem qAb {N l b:Nat}(h:N=8*l+b):8*(l+0)-N<8:=by
 subst h;rw [Nat.sub_eq_zero_of_le (show 8*(l+0)≤8*l+b from Nat.le_add_right ..)];decide
theorem qAd {k n:Nat}(h:n≤101)(hk:k<n-1):k≤100:=Nat.le_of_lt (Nat.lt_of_lt_of_le hk (Nat.sub_le_sub_right h 1))
theorem qAe {a:Int}{k:Nat}(h:1≤a∧a≤(k:Int)):k+1-a.toNat=k-a.toNat+1:=Nat.succ_sub (Int.toNat_le.mpr h.2)
theorem qAf {a:Int}{k:Nat}(h:a=((k+1:Nat):Int)):k+1-a.toNat=0:=by subst h;exact Nat.sub_self _
theorem qAg {i n:Nat}:min i n+(n-i+1)=n+1:=by
 rcases Nat.le_total i n with h|h
 ·rw [Nat.min_eq_left h,← Nat.add_assoc,Nat.add_sub_of_le h]
 ·rw [Nat.min_eq_right h,Nat.sub_eq_zero_of_le h]
theorem qAh {c:Int}(h:c≤5):6-c.toNat=5-c.toNat+1:=Nat.succ_sub (Int.toNat_le.mpr h)
theorem qAi {c:Int}{m:Nat}(h0:1≤c)(h:6-c.toNat=m+1):6-(c+1).toNat=m:=by
 obtain ⟨x,rfl⟩:=Int.eq_ofNat_of_zero_le (Int.le_trans (by decide) h0)
 exact congrArg Nat.pred h
theorem qAj {v c P:Nat}(hv:v<P)(h:c=48∨c=49):2*v+(c-48)<P*2:=by
 rw [Nat.mul_comm P]
 refine Nat.lt_of_lt_of_le (m:=2*v+2) (Nat.add_lt_add_left ?_ _) (Nat.mul_le_mul_left 2 hv)
 rcases h with rfl|rfl<;>decide
theorem qAl {v g:Nat}(h:g≤v):v=g+(v-g):=(Nat.add_sub_of_le h).symm
theorem qAm {v g G c:Nat}(h:g≤v)(h2:v<G)(h3:G=g+c):v-g<c:=Nat.sub_lt_left_of_lt_add h (h3▸h2)
theorem qAn {v w g c:Nat}(h:w / 2=v)(h2:2*g+c≤w):g≤v:=h▸(Nat.le_div_iff_mul_le (by decide)).mpr (Nat.mul_comm g 2▸Nat.le_trans (Nat.le_add_right ..) h2)
theorem qAp {a x:Nat}:(a*2+x % 2) / 2=a:=by
 rw [Nat.add_comm,Nat.add_mul_div_right _ _ (by decide),Nat.div_eq_of_lt (Nat.mod_lt x (by decide)),Nat.zero_add]
theorem qAq {N M:Nat}{A B:Prop}(h:A∧N≤M∧B):N+(M-N)=M:=Nat.add_sub_of_le h.2.1
theorem qAs {c K:Int}(h:0≤c∧c≤K)(k:decide (K<2^64)=true):c.natAbs<2^64:=qH h.1 h.2 k
theorem qAt {m:Int}(h0:0<m)(h:m<2^63):m.natAbs<2^64:=qH (Int.le_of_lt h0) (Int.le_of_lt h) (by decide)
theorem qAu {n L k:Nat}(h:n=L+1)(hk:k<L):1+k<n:=by rw [h,Nat.add_comm];exact Nat.succ_lt_succ hk
theorem qAv {L n:Nat}(h:L≤n):L+(n-L)=n:=Nat.add_sub_of_le h
theorem qAx {k n:Nat}(h:k<n-1):k<n:=Nat.lt_of_lt_of_le h (Nat.sub_le ..)
theorem qAy {p l:Nat}(h:p<8*(l+1))(h2:¬ p<8):p-8<8*l:=Nat.sub_lt_right_of_lt_add (Nat.le_of_not_lt h2) h
theorem qAz {m n j:Nat}(h:n<m+1)(h1:1≤j)(h2:j≤n):n-j<m:=Nat.lt_of_lt_of_le (Nat.sub_lt (Nat.lt_of_lt_of_le h1 h2) h1) (Nat.le_of_lt_succ h)
theorem qBa {r k L s:Nat}(h:r=k)(hk:k<L)(hL:L≤6)(hs:s=1):r+s≤2^24:=by subst h hs;exact Nat.le_trans (Nat.le_trans hk hL) (by decide)
theorem qBb {j m n:Nat}(h:j<m+1)(h2:m+1≤n):j+(m-j)≤n:=by rw [Nat.add_sub_of_le (Nat.le_of_lt_succ h)];exact Nat.le_of_lt h2
theorem qBc {n k j:Nat}(h:n≤k)(h2:j≤n):j+(k-j)=k:=Nat.add_sub_of_le (Nat.le_trans h2 h)
theorem qBd {n k j:Nat}(h:n≤k)(hk:k≤n)(h2:j≤n):j+(k-j)≤n:=by rw [qBc h h2];exact hk
theorem qBe {c:Int}{L:Nat}(h:0≤c∧c≤(L:Int)):c.toNat<L+1:=qP h.1 h.2
theorem qBf {b v P:Nat}(hv:v<P)(hb:b<2^8):b+256*v<P*2^8:=by
 rw [Nat.mul_comm P]
 exact Nat.lt_of_lt_of_le (m:=2^8+256*v) (Nat.add_lt_add_right hb _) (by rw [Nat.add_comm];exact Nat.mul_le_mul_left 256 hv)
theorem qBg {M:Int}(h:1<M):M-1=((M-1).toNat:Int):=(Int.toNat_of_nonneg (Int.sub_nonneg_of_le (Int.le_of_lt h))).symm
theorem qBh {M:Nat}(h:8≤(M:Int)):M-8<M:=Nat.sub_lt (Nat.lt_of_lt_of_le (by decide) (Int.ofNat_le.mp h)) (by decide)
theorem qBj {s k:Nat}(h:s<k+1)(h2:¬ s=k):s<k:=Nat.lt_of_le_of_ne (Nat.le_of_lt_succ h) h2
theorem qBk {a b:Nat}:a+b+1=a+1+b:=Nat.add_right_comm ..
theorem qBl {l b:Nat}(h:b<8):8*l+b≤8*(l+1):=Nat.add_le_add_left (Nat.le_of_lt h) _
theorem qBm {x:Int}(h:x≤((6:Nat):Int)):6-x.toNat+x.toNat=6:=Nat.sub_add_cancel (Int.toNat_le.mpr h)
theorem qBn {c:Int}{L:Nat}(h:c≤(L:Int)):c.toNat≤L:=Int.toNat_le.mpr h
theorem qBo {n:Int}{u l:Nat}(h0:0≤n)(h:n<(l:Int))(e:u=l):n.toNat<u:=e▸qO h0 h
theorem qBp {c n:Int}(h:0≤n)(d:decide (c≤0)=true):c≤n:=Int.le_trans (of_decide_eq_true d) h
theorem qBq {n:Int}{l:Nat}(h0:0≤n)(h:n.toNat<l):n<(l:Int):=(Int.toNat_lt h0).mp h
theorem qBr {a n c:Nat}(h:a+20*n+200≤c):a+200≤c:=Nat.le_trans (Nat.add_le_add_right (Nat.le_add_right ..) _) h
theorem qBt {a b c:Nat}(h:a=b)(k:b≤c):a≤c:=h▸k
theorem qBu {a b c:Nat}(h:a=b)(k:b<c):a<c:=h▸k
theorem qBw {a b c d:Nat}(h:a=b)(k:b≤c)(e:Nat.ble c d=true):a≤d:=h▸Nat.le_trans k (Nat.le_of_ble_eq_true e)
theorem qBx {a b c d:Nat}(h:a≤b)(k:b≤c)(e:Nat.ble c d=true):a≤d:=Nat.le_trans h (Nat.le_trans k (Nat.le_of_ble_eq_true e))
theorem qBy {a b c d:Nat}(h:a<b)(k:b≤c)(e:Nat.ble c d=true):a≤d:=Nat.le_trans (Nat.le_of_lt h) (Nat.le_trans k (Nat.le_of_ble_eq_true e))
theorem qBz {a b c d:Nat}(h:a<b)(k:b≤c)(e:Nat.ble c d=true):a<d:=Nat.lt_of_lt_of_le h (Nat.le_trans k (Nat.le_of_ble_eq_true e))
theorem qCb {a b c:Nat}{z:Int}(h:a≤b)(k:b≤c)(e:decide ((c:Int)≤z)=true):(a:Int)≤z:=Int.le_trans (Int.ofNat_le.mpr (Nat.le_trans h k)) (of_decide_eq_true e)
theorem qCh {a b c:Int}{A:Prop}(h:A∧a≤b)(d:decide (b<c)=true):a<c:=Int.lt_of_le_of_lt h.2 (of_decide_eq_true d)
theorem qCi {k:Nat}:(1:Int)+(k:Int)=((k+1:Nat):Int):=Int.add_comm 1 (k:Int)
theorem qCj {c:Int}{k:Nat}(h:c=1+(k:Int)):c=((k+1:Nat):Int):=h.trans qCi
theorem qCn {a b:Nat}(h:a<b)(k:a=b):False:=Nat.ne_of_lt h k
theorem qCs {m k L:Nat}(h:k+(m+1)=L):k<L:=h▸Nat.lt_add_of_pos_right (Nat.succ_pos m)
theorem qCt {m k L:Nat}(h:k+(m+1)=L):k+1+m=L:=(Nat.succ_add_eq_add_succ k m).trans h
theorem qDc {L:Nat}{c:Int}(h:0<c):((L:Int)-c).toNat=L-c.toNat:=by
 obtain ⟨m,rfl⟩:=Int.eq_ofNat_of_zero_le (Int.le_of_lt h)
 exact Int.toNat_sub L m
theorem qDd {g p c:Nat}:2*(g+p)+(c+0)=2*g+c+p*2:=by rw [Nat.mul_add,Nat.add_zero,Nat.mul_comm p 2,Nat.add_right_comm]
theorem qDe {l i:Nat}(h:i<l):l+1-1-i=l-1-i+1:=by rw [Nat.sub_right_comm l 1 i];exact (Nat.sub_add_cancel (Nat.sub_pos_of_lt h)).symm
theorem qDf {c v q r:Nat}(h:256*q=r):c+256*(v+q)=c+256*v+r:=by rw [Nat.mul_add,h,Nat.add_assoc]
theorem qDg {a p q r:Nat}(h:q=r):a+p+q=a+(p+r):=by rw [h,Nat.add_assoc]
theorem qDi {x:Int}(h:x≤((6:Nat):Int)):x.toNat+(6-x.toNat)=6:=Nat.add_sub_of_le (Int.toNat_le.mpr h)
theorem qDj {i N:Nat}(h:¬ i<N):i=N+(i-N):=(Nat.add_sub_of_le (Nat.le_of_not_lt h)).symm
theorem qDk {a:Int}{k:Nat}(h:a=((k+1:Nat):Int)):1≤a∧a≤((k+1:Nat):Int):=by subst h;exact ⟨Int.ofNat_le.mpr (Nat.succ_pos k),Int.le_refl _⟩
theorem qDl {a:Int}{k:Nat}(h:¬ (1≤a∧a≤(k:Int)))(h2:¬ a=((k+1:Nat):Int)):¬ (1≤a∧a≤((k+1:Nat):Int)):=fun h3=>h ⟨h3.1,Int.le_of_lt_add_one (Int.lt_iff_le_and_ne.mpr ⟨h3.2,h2⟩)⟩
theorem qDm {u a k c:Nat}(h:a+20*(k+1)+200≤c)(h2:u≤a+20):u+20*k+200≤c:=
 Nat.le_trans (Nat.add_le_add_right (Nat.le_trans (Nat.add_le_add_right h2 _) (Nat.le_of_eq (by rw [Nat.mul_succ,Nat.add_assoc,Nat.add_comm 20]))) 200) h
theorem qDn {h l n:Nat}(k:h≤n):h-l=min (h-l) (n-l):=(Nat.min_eq_left (Nat.sub_le_sub_right k l)).symm
theorem qDo {j n:Nat}(h:j<n):j≤n-1:=Nat.le_sub_one_of_lt h
theorem qDp {k:Int}{n:Nat}(h:n≤1000000)(hk:k.toNat<n):k<2^63:=Int.lt_of_le_of_lt (Int.self_le_toNat k) (Int.lt_of_lt_of_le (Int.ofNat_lt.mpr hk) (Int.le_trans (Int.ofNat_le.mpr h) (by decide)))
inductive AV where
|none|bool (b:Bool)|int (i:Int)|str (l:List Nat)|bytes (l:List UInt8)|obj (i:Nat)
 deriving DecidableEq,Inhabited
inductive ZE where
|most|counts|symbols|lengths|codes|data|stop|position|made|held|heldBits
 deriving DecidableEq
inductive Yk where
|reader|writer|lowR|lowW
 deriving DecidableEq
inductive XN where
|cutShort|badCode|badArgument
 deriving DecidableEq
set_option genInjectivity true in
inductive Za where
|list (xs:List AV)|tup (xs:List AV)|dict (kvs:List (Int×AV)) (ep:Nat)|inst (c:Yk) (fs:List (ZE×AV))|barr (l:List UInt8)|exc (c:XN) (fresh:Bool)|frz (o:Unit→Obj) (xs:List Int)
 deriving Inhabited
abbrev Zq:=AV→List Za→Prop
abbrev Zx:=XN→List Za→Prop
noncomputable def ZE.name:ZE→Str
|.most => "most"|.counts => "counts"|.symbols => "symbols"|.lengths => "lengths"|.codes => "codes"|.data => "data"
|.stop => "stop"|.position => "position"|.made => "made"|.held => "held"|.heldBits => "held_bits"
noncomputable def Yk.addr:Yk→Addr
|.reader=>153|.writer=>188|.lowR=>301|.lowW=>371
noncomputable def XN.addr:XN→Addr
|.cutShort=>45|.badCode=>57|.badArgument=>69
inductive Ze {α β:Type}(R:α→β→Prop):List α→List β→Prop where
|nil:Ze R [] []
|cons {a b as bs}:R a b→Ze R as bs→Ze R (a::as) (b::bs)
section
variable {α β:Type}{R R':α→β→Prop}
theorem Ze.mono (h:∀ a b,R a b→R' a b){as:List α}{bs:List β}(x:Ze R as bs):Ze R' as bs:=by
 induction x with
|nil=>exact .nil
|cons r _ ih=>exact .cons (h _ _ r) ih
theorem Ze.length {as:List α}{bs:List β}(x:Ze R as bs):as.length=bs.length:=by
 induction x with
|nil=>rfl
|cons _ _ ih=>simp [ih]
theorem Ze.get {as:List α}{bs:List β}(x:Ze R as bs):∀ {i:Nat} {b:β},bs[i]?=some b→∃ a,as[i]?=some a∧R a b:=by
 induction x with
|nil=>intro i b h;cases i<;>simp at h
|cons r _ ih=>
  intro i b h
  cases i with
 |zero=>simp at h;subst h;exact ⟨_,rfl,r⟩
 |succ i=>simpa using ih (by simpa using h)
theorem Ze.snoc {as:List α}{bs:List β}{a:α}{b:β}(x:Ze R as bs)(r:R a b):Ze R (as++[a]) (bs++[b]):=by
 induction x with
|nil=>exact .cons r .nil
|cons r' _ ih=>exact .cons r' ih
theorem Ze.append {as as':List α}{bs bs':List β}(x:Ze R as bs)(y:Ze R as' bs'):Ze R (as++as') (bs++bs'):=by
 induction x with
|nil=>exact y
|cons r' _ ih=>exact .cons r' ih
theorem Ze.set {as:List α}{bs:List β}(x:Ze R as bs){a:α}{b:β}(r:R a b):∀ i,Ze R (as.set i a) (bs.set i b):=by
 induction x with
|nil=>intro i;exact .nil
|cons r' x ih=>intro i;cases i with
 |zero=>exact .cons r x
 |succ i=>exact .cons r' (ih i)
theorem Ze.take {as:List α}{bs:List β}(x:Ze R as bs):∀ i,Ze R (as.take i) (bs.take i):=by
 induction x with
|nil=>intro i;simp;exact .nil
|cons r' x ih=>intro i;cases i with
 |zero=>exact .nil
 |succ i=>exact .cons r' (ih i)
theorem Ze.drop {as:List α}{bs:List β}(x:Ze R as bs):∀ i,Ze R (as.drop i) (bs.drop i):=by
 induction x with
|nil=>intro i;simp;exact .nil
|cons r' x ih=>intro i;cases i with
 |zero=>exact .cons r' x
 |succ i=>exact ih i
end
noncomputable def VR (β:List Addr)(v:Value):AV→Prop
|.none=>v=.none
|.bool b=>v=.bool b
|.int i=>∃ t,v=.int i t
|.str l=>∃ t,v=.str ⟨l.toArray⟩ t
|.bytes l=>∃ t,v=.bytes l.toArray t
|.obj i=>∃ a,β[i]?=some a∧v=.ref a
theorem VR.mono {β β':List Addr}(h:β<+:β'){v:Value}{av:AV}(x:VR β v av):VR β' v av:=by
 cases av<;>try exact x
 obtain ⟨a,e,r⟩:=x
 obtain ⟨γ,rfl⟩:=h
 exact ⟨a,by rw [List.getElem?_append_left (List.getElem?_eq_some_iff.mp e).1];exact e,r⟩
theorem VR.monoL {β β':List Addr}(h:β<+:β'){vs:List Value}{avs:List AV}(x:Ze (VR β) vs avs):Ze (VR β') vs avs:=x.mono fun _ _=>VR.mono h
noncomputable abbrev ZH:=List (Addr×Obj)
noncomputable def Ju (β:List Addr)(e:DictEntry)(p:Int×AV):Prop:=(∃ t,e.key=.int p.1 t)∧e.hash=hashInt p.1∧VR β e.val p.2
noncomputable def Wd (β:List Addr)(e:DictEntry)(p:ZE×AV):Prop:=(∃ t,e.key=.str p.1.name t)∧VR β e.val p.2
noncomputable def Y3 (β:List Addr)(a:Addr):Za→ZH→Prop
|.list xs,b=>∃ vs n,b=[(a,listOf vs.toArray n)]∧Ze (VR β) vs xs
|.tup xs,b=>∃ vs n,b=[(a,seqObj "tuple" vs.toArray n)]∧Ze (VR β) vs xs
|.dict kvs n,b=>∃ es,b=[(a,dictOf es n)]∧(a==sysModules)=false∧Ze (Ju β) es kvs
|.inst c fs,b=>∃ dx es n,b=[(a,instObj c.addr dx),(dx,dictOf es n)]∧Ze (Wd β) es fs
|.barr l,b=>b=[(a,{cls:=.type "bytearray",data:=.bytearray l.toArray 0})]
|.exc c f,b=>∃ vs a0 dd,b=[(a,{cls:=.ref c.addr,dict:=dd,data:=.fields vs})]∧vs[0]?=some (.ref a0)∧vs[1]?=some .none∧(f=true→dd=none)
|.frz o xs,b=>b=[(a,o ())]∧(o ()).cls=.type "list" ∧ ∃ vs n,(o ()).data=.seq vs.toArray n∧IntsAre vs xs
theorem Y3.mono {β β':List Addr}(h:β<+:β'){a:Addr}{o:Za}{b:ZH}(x:Y3 β a o b):Y3 β' a o b:=by
 cases o with
|list xs=>obtain ⟨vs,n,e,r⟩:=x;exact ⟨vs,n,e,VR.monoL h r⟩
|tup xs=>obtain ⟨vs,n,e,r⟩:=x;exact ⟨vs,n,e,VR.monoL h r⟩
|dict kvs n=>obtain ⟨es,e,e',r⟩:=x;exact ⟨es,e,e',r.mono fun _ _ y=>⟨y.1,y.2.1,y.2.2.mono h⟩⟩
|inst c fs=>obtain ⟨dx,es,n,e,r⟩:=x;exact ⟨dx,es,n,e,r.mono fun _ _ y=>⟨y.1,y.2.mono h⟩⟩
|barr l=>exact x
|exc c f=>exact x
|frz o xs=>exact x
inductive Z9 (β:List Addr):List Addr→List Za→List ZH→Prop
|nil:Z9 β [] [] []
|cons {a:Addr} {o:Za} {b:ZH} {as:List Addr} {os:List Za} {bs:List ZH}:Y3 β a o b→Z9 β as os bs→Z9 β (a::as) (o::os) (b::bs)
section
variable {as:List Addr}{os:List Za}{bs:List ZH}{β β':List Addr}{a:Addr}{o:Za}{b:ZH}
theorem Z9.mono (h:β<+:β')(x:Z9 β as os bs):Z9 β' as os bs:=by
 induction x with
|nil=>exact .nil
|cons r _ ih=>exact .cons (r.mono h) ih
theorem Z9.len (x:Z9 β as os bs):as.length=os.length∧bs.length=os.length:=by
 induction x with
|nil=>exact ⟨rfl,rfl⟩
|cons r _ ih=>exact ⟨congrArg (·+1) ih.1,congrArg (·+1) ih.2⟩
theorem Z9.snoc (x:Z9 β as os bs)(r:Y3 β a o b):Z9 β (as++[a]) (os++[o]) (bs++[b]):=by
 induction x with
|nil=>exact .cons r .nil
|cons q _ ih=>exact .cons q ih
inductive Nk (β as:List Addr)(os:List Za)(bs:List ZH)(i:Nat)(o:Za):Prop
|mk (a:Addr) (b:ZH) (pre post:List (Addr×Obj)) (e:as[i]?=some a) (r:Y3 β a o b) (f:bs.flatten=pre++(b++post))
  (k:∀ o' b',Y3 β a o' b'→∃ bs',Z9 β as (os.set i o') bs'∧bs'.flatten=pre++(b'++post)):Nk β as os bs i o
theorem Z9.at (x:Z9 β as os bs):∀ {i:Nat},os[i]?=some o→Nk β as os bs i o:=by
 induction x with
|nil=>intro i h;cases h
|@cons a o' b as os bs r y ih=>
  intro i h
  cases i with
 |zero=>cases h;exact ⟨a,b,[],bs.flatten,rfl,r,rfl,fun o' b' r=>⟨b'::bs,.cons r y,rfl⟩⟩
 |succ i=>
   obtain ⟨a',b',pre,post,e1,e2,e3,k⟩:=ih h
   refine ⟨a',b',b++pre,post,e1,e2,(congrArg (b++·) e3).trans (List.append_assoc ..).symm,fun o'' b'' r''=>?_⟩
   obtain ⟨bs',r1,r2⟩:=k o'' b'' r''
   exact ⟨b::bs',.cons r r1,(congrArg (b++·) r2).trans (List.append_assoc ..).symm⟩
end
structure Gx where
 w:World
 h:Heap
 gens:Array GenState
 os:OsState
 mg:Str→Option Value
 mb:Str→Option Value
 X:(KK w.params).In h
 g:h.Ns mainGlobals mg
 b:h.Ns builtinsNs mb
 lim:h.NoLimit
 bt:∀ x:Str,x ≠ "__name__" → mb x=bootBuiltins x
structure Fx where
 G:Gx
 A:Around
 env:Env
 fenv:Env
 oenvs:List Env
 outs:List (Addr×Obj)
 cellA:List Addr
 comp:Bool
structure Fx.Ok (φ:Fx):Prop where
 hfr:φ.A.frames=some (φ.fenv::φ.oenvs)
 kind:φ.env.scope.kind=.function
 fkind:φ.fenv.scope.kind=.function
 glob:φ.env.globals=mainGlobals
 blt:φ.env.builtins=builtinsNs
 frs:Frs (if φ.comp then φ.fenv::φ.oenvs else φ.oenvs) φ.outs
 own:φ.comp=false→φ.env=φ.fenv∧φ.env.frame=some φ.env.locals
 cel:φ.comp=false→φ.cellA=φ.env.cells.map Prod.snd∧∀ x,φ.env.kindOf x=some .cell→(φ.env.cells.lookup x).isSome=true
 clo:∀ x,φ.env.kindOf x=some .cell→(φ.env.cells.lookup x).isSome=true
noncomputable abbrev Zd (G:Gx):Model:=model pw G.w
noncomputable def ZG (n:Nat)(A:Around):Prop:=(n≠0→A.handled=none)∧A.depth+4*n≤900∧A.units+20*n+200≤cLine
noncomputable def VD (env:Env)(m:Str→Option Value)(led:List (Addr×Obj))(x:Str)(v:Value):Prop:=
 (env.kindOf x=some .local∧m x=some v)∨((env.kindOf x=some .cell∨env.kindOf x=some .free)∧∃ c o,env.cells.lookup x=some c∧(c,o)∈led∧o.data=.cell (some v))
noncomputable abbrev Zc:=List (Option AV)
structure Zi (φ:Fx)(xs:List Str)(ex:List (Addr×Obj))(β:List Addr)(loc:Zc)(σ:List Za)(b0z:List ZH)(cs frn:List (Addr×Obj))(m:Str→Option Value)(s:Ws):Prop where
 ok:φ.Ok
 real:Z9 β β σ b0z
 up:SameUp φ.outs frn
 F:Fr φ.G.h φ.env.locals s.heap m
 N:News φ.G.h φ.env.locals s.heap (b0z.flatten++(cs++(ex++frn)))
 nd:((b0z.flatten++(cs++(ex++frn))).map Prod.fst).Nodup
 cells:cs.map Prod.fst=φ.cellA∧∀ p∈cs,∃ v,p.2.data=.cell v
 loc:∀ (i:Nat) x av,xs[i]?=some x→loc[i]?=some (some av)→∃ v,VR β v av∧VD φ.env m (cs++ex) x v
 gens:s.gens=φ.G.gens
 os:s.os=φ.G.os
inductive Rl (φ:Fx)(xs:List Str)(ex:List (Addr×Obj))(β:List Addr)(loc:Zc)(σ:List Za)(s:Ws):Prop
|mk (b0z:List ZH) (cs frn:List (Addr×Obj)) (m:Str→Option Value):Zi φ xs ex β loc σ b0z cs frn m s→Rl φ xs ex β loc σ s
section
variable {φ:Fx}{xs:List Str}{ex:List (Addr×Obj)}{β:List Addr}{loc:Zc}{σ:List Za}{b0z:List ZH}{cs frn:List (Addr×Obj)}{m:Str→Option Value}{s:Ws}
theorem Zi.lt (R:Zi φ xs ex β loc σ b0z cs frn m s):∀ p∈b0z.flatten++(cs++(ex++frn)),p.1<s.heap.objs.size:=fun p hp=>Heap.lt_size (R.N p hp).1
theorem Zi.more (R:Zi φ xs ex β loc σ b0z cs frn m s){h':Heap}{tk:Nat}(hk:∀ b o,s.heap.get? b=some o→h'.get? b=some o):Zi φ xs ex β loc σ b0z cs frn m {s with heap:=h',toks:=tk}:=by
 refine ⟨R.ok,R.real,R.up,?_,fun p hp=>⟨hk _ _ (R.N p hp).1,(R.N p hp).2⟩,R.nd,R.cells,R.loc,R.gens,R.os⟩
 obtain ⟨o,es,ep,ho,r⟩:=R.F.ns
 exact ⟨⟨o,es,ep,hk _ _ ho,r⟩,fun b o e=>hk _ _ (R.F.keep b o e),R.F.above⟩
theorem Rl.more (R:Rl φ xs ex β loc σ s){h':Heap}{tk:Nat}(hk:∀ b o,s.heap.get? b=some o→h'.get? b=some o):Rl φ xs ex β loc σ {s with heap:=h',toks:=tk}:=by
 obtain ⟨b0z,cs,frn,m,R⟩:=R
 exact ⟨b0z,cs,frn,m,R.more hk⟩
theorem Rl.tok (R:Rl φ xs ex β loc σ s)(tk:Nat):Rl φ xs ex β loc σ {s with toks:=tk}:=R.more (h':=s.heap) fun _ _ e=>e
theorem Zi.alloc (R:Zi φ xs ex β loc σ b0z cs frn m s){h':Heap}{tk:Nat}{a:Addr}{ao:Za}{blk:ZH}(F':Fr φ.G.h φ.env.locals h' m)
  (N':News φ.G.h φ.env.locals h' (blk++(b0z.flatten++(cs++(ex++frn))))) (hr:Y3 (β++[a]) a ao blk) (hnd:(blk.map Prod.fst).Nodup)
  (hf:∀ p∈blk,∀ q∈b0z.flatten++(cs++(ex++frn)),q.1≠p.1) :
  Zi φ xs ex (β++[a]) loc (σ++[ao]) (b0z++[blk]) cs frn m {s with heap:=h',toks:=tk}:=by
 have hpre:β<+:β++[a]:=List.prefix_append _ _
 have e:(b0z++[blk]).flatten=b0z.flatten++blk:=by simp
 refine ⟨R.ok,(R.real.mono hpre).snoc hr,R.up,F',fun p hp=>N' p ?_,?_,R.cells,fun i x av h1 h2=>?_,R.gens,R.os⟩
 ·rw [e] at hp
  simp only [List.mem_append] at hp ⊢
  grind
 ·rw [e]
  have h1:=R.nd
  simp only [List.map_append] at h1 ⊢
  have:((b0z.flatten.map Prod.fst++blk.map Prod.fst)++(cs.map Prod.fst++(ex.map Prod.fst++frn.map Prod.fst))).Perm (blk.map Prod.fst++(b0z.flatten.map Prod.fst++(cs.map Prod.fst++(ex.map Prod.fst++frn.map Prod.fst)))):=by
   rw [List.append_assoc]
   exact List.perm_append_comm_assoc _ _ _
  refine this.nodup_iff.mpr (List.nodup_append.mpr ⟨hnd,h1,?_⟩)
  intro x hx y hy hxy
  subst hxy
  obtain ⟨p,hp,rfl⟩:=List.mem_map.mp hx
  simp only [← List.map_append] at hy
  obtain ⟨q,hq,e⟩:=List.mem_map.mp hy
  exact hf p hp q hq e
 ·obtain ⟨v,h3,h4⟩:=R.loc i x av h1 h2
  exact ⟨v,h3.mono hpre,h4⟩
theorem Zi.alloc1 (R:Zi φ xs ex β loc σ b0z cs frn m s){h':Heap}{tk:Nat}{a:Addr}{o:Obj}{ao:Za}(F':Fr φ.G.h φ.env.locals h' m)
  (N':News φ.G.h φ.env.locals h' ((a,o)::(b0z.flatten++(cs++(ex++frn))))) (hr:Y3 (β++[a]) a ao [(a,o)]) (hlt:∀ p∈b0z.flatten++(cs++(ex++frn)),p.1<a) :
  Rl φ xs ex (β++[a]) loc (σ++[ao]) {s with heap:=h',toks:=tk}:=
 ⟨_,_,_,_,R.alloc F' N' hr (by simp) (by intro p hp q hq;simp at hp;subst hp;exact Nat.ne_of_lt (hlt q hq))⟩
theorem Zi.updK (R:Zi φ xs ex β loc σ b0z cs frn m s){i:Nat}{o o':Za}{a D:Addr}{blk blk':ZH}{oD':Obj}{h':Heap}{tk:Nat}{pre post:List (Addr×Obj)}
  (hb:b0z.flatten=pre++(blk++post)) (hset:∃ bs',Z9 β β (σ.set i o') bs'∧bs'.flatten=pre++(blk'++post))
  (hs:∀ b o,b≠D→s.heap.get? b=some o→h'.get? b=some o) (hD:D∈blk.map Prod.fst) (hbb:blk'.map Prod.fst=blk.map Prod.fst) (hD':h'.get? D=some oD') (hk:∀ p∈blk',p.1=D→p.2=oD')
  (hk':∀ p∈blk',p.1≠D→p∈blk):Rl φ xs ex β loc (σ.set i o') {s with heap:=h',toks:=tk}:=by
 obtain ⟨bs',hr,hfl⟩:=hset
 have hND:∀ p∈b0z.flatten++(cs++(ex++frn)),p.1=D→p∈blk:=by
  intro p hp e
  have h1:=R.nd
  rw [hb] at h1 hp
  obtain ⟨q,hq,rfl⟩:=List.mem_map.mp hD
  by_cases h:p∈blk
  ·exact h
  ·exfalso
   simp only [List.map_append,List.append_assoc] at h1
   have h2:p∈pre∨p∈post∨p∈(cs++(ex++frn)):=by
    simp only [List.mem_append] at hp ⊢
    grind
   have hqm:q.1∈blk.map Prod.fst:=List.mem_map_of_mem hq
   rw [List.nodup_append] at h1
   obtain ⟨_,h4,h5⟩:=h1
   rw [List.nodup_append] at h4
   obtain ⟨_,h6,h7⟩:=h4
   rcases h2 with h2|h2|h2
   ·exact h5 p.1 (List.mem_map_of_mem h2) q.1 (by simp only [List.mem_append];exact .inl hqm) e
   ·exact h7 q.1 hqm p.1 (by simp only [List.mem_append];exact .inl (List.mem_map_of_mem h2)) e.symm
   ·refine h7 q.1 hqm p.1 ?_ e.symm
    have:=List.mem_map_of_mem (f:=Prod.fst) h2
    simp only [List.map_append,List.mem_append] at this ⊢
    grind
 have hLD:φ.env.locals≠D:=by
  obtain ⟨q,hq,rfl⟩:=List.mem_map.mp hD
  exact fun e=>(R.N q (by rw [hb];simp [hq])).2.1 e.symm
 have hHD:φ.G.h.get? D=none:=by
  obtain ⟨q,hq,rfl⟩:=List.mem_map.mp hD
  exact (R.N q (by rw [hb];simp [hq])).2.2
 refine ⟨bs',cs,frn,m,R.ok,hr,R.up,⟨(by obtain ⟨o,es,ep,ho,r⟩:=R.F.ns;exact ⟨o,es,ep,hs _ _ hLD ho,r⟩),fun b o e=>hs b o (fun q=>by rw [q,hHD] at e;cases e) (R.F.keep b o e),R.F.above⟩,fun p hp=>?_,?_,R.cells,R.loc,R.gens,R.os⟩
 ·rw [hfl] at hp
  by_cases e:p.1=D
  ·by_cases hpb:p∈blk'
   ·have:=hk p hpb e
    obtain ⟨p1,p2⟩:=p
    dsimp only at e this
    subst e this
    exact ⟨hD',hLD.symm,hHD⟩
   ·have hin:p∈b0z.flatten++(cs++(ex++frn)):=by
     rw [hb]
     simp only [List.mem_append] at hp ⊢
     grind
    have hpb2:=hND p hin e
    obtain ⟨q,hq,e2⟩:=List.mem_map.mp (show p.1∈blk'.map Prod.fst by rw [hbb];exact List.mem_map_of_mem hpb2)
    exfalso
    have h1:=R.nd
    rw [hb] at h1
    simp only [List.map_append,List.append_assoc] at h1
    rw [List.nodup_append] at h1
    obtain ⟨_,h4,h5⟩:=h1
    rw [List.nodup_append] at h4
    obtain ⟨_,h6,h7⟩:=h4
    have hqm:p.1∈blk.map Prod.fst:=List.mem_map_of_mem hpb2
    have h2:p∈pre∨p∈post∨p∈(cs++(ex++frn)):=by
     simp only [List.mem_append] at hp ⊢
     grind
    rcases h2 with h2|h2|h2
    ·exact h5 p.1 (List.mem_map_of_mem h2) p.1 (by simp only [List.mem_append];exact .inl hqm) rfl
    ·exact h7 p.1 hqm p.1 (by simp only [List.mem_append];exact .inl (List.mem_map_of_mem h2)) rfl
    ·refine h7 p.1 hqm p.1 ?_ rfl
     have:=List.mem_map_of_mem (f:=Prod.fst) h2
     simp only [List.map_append,List.mem_append] at this ⊢
     grind
  ·have hin:p∈b0z.flatten++(cs++(ex++frn)):=by
    rw [hb]
    have:p∈blk'→p∈blk:=fun h=>hk' p h e
    simp only [List.mem_append] at hp ⊢
    lia
   exact ⟨hs _ _ e (R.N p hin).1,(R.N p hin).2⟩
 ·have h1:=R.nd
  rw [hb] at h1
  rw [hfl]
  simp only [List.map_append,hbb] at h1 ⊢
  exact h1
end
noncomputable def W0:List String:=["type.__call__", "bytearray.append", "bytearray.__init__", "claim.caller"]
noncomputable def holds?:Code→Bool
|.builtin id _=>!W0.contains id
|_=>false
noncomputable def WK (l:List (Code×Pos)):Prop:=∀ x∈l,holds? x.1=false
noncomputable def Zb {α:Type}(M:Model)(A:Around)(t:Sem α)(Q:α→Ws→Prop)(E:Value→Ws→Prop)(s:Ws):Prop:=
 ∀ Γ p,Γ.In A→holds? Γ.code=false→WK Γ.below→Sem.wp M Γ t (fun a _ s'=>Q a s') (fun e _ s'=>E e s') p s
noncomputable def Zv (M:Model)(A:Around)(c:Code)(R:Result→Ws→Prop)(s:Ws):Prop:=
 ∀ Γ p,Γ.code=c→Γ.Below A→WK Γ.below→wpCode M Γ R p s
section
variable {α β:Type}{M:Model}{A:Around}{E:Value→Ws→Prop}{s:Ws}{env:Env}
theorem Zb.of {t:Sem α}{Q:α→Ws→Prop}(h:wpAny M A t Q E s):Zb M A t Q E s:=fun Γ p a _ _=>h Γ p a
theorem Zv.of {c:Code}{R:Result→Ws→Prop}(h:codeAny M A c R s):Zv M A c R s:=fun Γ p e b _=>h Γ p e b
theorem Zb.mono {t:Sem α}{Q Q':α→Ws→Prop}{E':Value→Ws→Prop}(h:Zb M A t Q E s)(hQ:∀ a s,Q a s→Q' a s)(hE:∀ e s,E e s→E' e s):Zb M A t Q' E' s:=
 fun Γ p a b c=>Sem.wp_mono M Γ t (fun x _ s=>hQ x s) (fun e _ s=>hE e s) p s (h Γ p a b c)
theorem Zb.bind {m:Sem α}{f:α→Sem β}{Q:β→Ws→Prop}(h:Zb M A m (fun a s'=>Zb M A (f a) Q E s') E s):Zb M A (m >>= f) Q E s:=fun Γ p a b c=>by
 rw [Sem.wp_bind']
 exact Sem.wp_mono M Γ m (fun x p' s' h'=>h' Γ p' a b c) (fun _ _ _ h'=>h') p s (h Γ p a b c)
theorem Zb.pure {a:α}{Q:α→Ws→Prop}(h:Q a s):Zb M A (Pure.pure a) Q E s:=.of (wpAny_pure h)
theorem Zb.step {m:Sem α}{f:α→Sem β}{Q:β→Ws→Prop}(h:wpAny M A m (fun a s'=>Zb M A (f a) Q E s') E s):Zb M A (m >>= f) Q E s:=.bind (.of h)
theorem Zb.stand {pos:Pos}{f:Unit→Sem β}{Q:β→Ws→Prop}(h:Zb M A (f ()) Q E s):Zb M A (standAt pos >>= f) Q E s:=.step (wpAny_standAt h)
theorem Zb.hold {vs:List Value}{m:Sem α}{Q:α→Ws→Prop}(h:Zb M A m Q E s):Zb M A (holding vs m) Q E s:=fun Γ p a b c=>by rw [Sem.wp_holding];exact h Γ p a b c
theorem Zb.operate {vs:List Value}{m:Sem Value}{Q:Value→Ws→Prop}(h:Zb M A m Q E s):Zb M A (PySem.operate vs m) Q E s:=fun Γ p a b c=>by rw [Sem.wp_operate];exact h Γ p a b c
theorem Zb.onRaise {m:Sem α}{k:Value→Sem Unit}{Q:α→Ws→Prop}(h:Zb M A m Q (fun e s'=>Zb M A (k e) (fun _ s''=>E e s'') E s') s):Zb M A (m.onRaise k) Q E s:=fun Γ p a b c=>by
 rw [Sem.wp_onRaise]
 exact Sem.wp_mono M Γ m (fun _ _ _ h'=>h') (fun e p' s' h'=>h' Γ p' a b c) p s (h Γ p a b c)
theorem Zb.attempt {m:Sem α}{Q:Except Value α→Ws→Prop}(h:Zb M A m (fun a=>Q (.ok a)) (fun e=>Q (.error e)) s):Zb M A m.attempt Q E s:=fun Γ p a b c=>by rw [Sem.wp_attempt];exact h Γ p a b c
theorem Zv.mono {c:Code}{R R':Result→Ws→Prop}(h:Zv M A c R s)(hR:∀ r s,R r s→R' r s):Zv M A c R' s:=fun Γ p a b d=>wpCode_mono hR (h Γ p a b d)
theorem WK.enter {Γ:Ctx}{c:Code}{h:Option Value}{p:Pos}(a:holds? Γ.code=false)(b:WK Γ.below):WK (Γ.enter c h p).below:=fun x hx=>by
 rcases List.mem_cons.mp hx with q|q
 ·rw [q];exact a
 ·exact b x q
theorem Zb.run {c:Code}{h:Option Value}{Q:Flow→Ws→Prop}(hc:Zv M (A.mark h) c (fun r s'=>match r with|.ok f=>Q f s'|.error e=>E e s') s)(hnb:h≠some byPass):Zb M A (PySem.run c h) Q E s:=
 fun Γ p a b d=>by rw [Sem.wp_run];exact hc _ p rfl (a.enter c h p hnb) (WK.enter b d)
theorem Zb.call {f:Value}{pos:List Value}{kw:List (Str×Value)}{Q:Value→Ws→Prop}(hc:Zv M A (.call f ⟨pos,kw⟩) (fun r s'=>match r with|.ok (.ret v)=>Q v s'|.ok _=>False|.error e=>E e s') s):Zb M A (PySem.call f pos kw) Q E s:=
 fun Γ p a b d=>by
  show Sem.wp M Γ (runValue (.call f ⟨pos,kw⟩)) _ _ p s
  rw [Sem.wp_runValue];exact hc _ p rfl (a.enter _ none p (by intro x;cases x)) (WK.enter b d)
theorem Zv.tree {c:Code}{R:Result→Ws→Prop}(hd:holds? c=false)(h:Zb M (A.under c) (M.den c) (fun fin s'=>match fin with|.done f=>R (.ok f) s'|.again c'=>c'.quiet=true∧Zv M A c' R s') (fun e s'=>R (.error e) s') s):Zv M A c R s:=fun Γ p hc hΓ hcl=>by
 rw [wpCode_iff_wp,hc]
 refine Sem.wp_mono M Γ _ (fun fin p' s' h'=>?_) (fun _ _ _ h'=>h') p s (h Γ p (hc▸hΓ.in) (by rw [hc];exact hd) hcl)
 cases fin with
|done f=>exact h'
|again c'=>exact ⟨h'.1,h'.2 (Γ.goto c') p' rfl (hΓ.goto c') hcl⟩
theorem Zv.loop {c:Code}{R:Result→Ws→Prop}(hd:holds? c=false)(hq:c.quiet=true)(I:Nat→Ws→Prop)
  (turn:∀ n s,I n s→Zb M (A.under c) (M.den c) (fun fin s'=>match fin with|.done f=>R (.ok f) s'|.again c'=>(c'=c∧∃ m,m<n∧I m s')∨(c'.quiet=true∧Zv M A c' R s')) (fun e s'=>R (.error e) s') s)
  (n:Nat) (h:I n s):Zv M A c R s:=by
 induction n using Nat.strongRecOn generalizing s with
|ind n ih=>
  refine .tree hd (.mono (turn n s h) (fun fin s' hf=>?_) fun _ _ h'=>h')
  cases fin with
 |done f=>exact hf
 |again c'=>
   rcases hf with ⟨rfl,m,hm,hI⟩|hf
   ·exact ⟨hq,ih m hm hI⟩
   ·exact hf
theorem Za9 {l op r pos}{Q:Value→Ws→Prop}(h:Zb M A (eval l env) (fun a s₁=>Zb M A (eval r env) (fun b s₂=>Zb M A (binaryOp op a b) Q E s₂) E s₁) E s):Zb M A (eval (.BinOp l op r pos) env) Q E s:=by
 rw [eval_BinOp]
 exact .bind (h.mono (fun a s₁ h₁=>.bind (.hold (h₁.mono (fun b s₂ h₂=>.stand (.operate h₂)) fun _ _ x=>x))) fun _ _ x=>x)
theorem Bf {op x pos}{Q:Value→Ws→Prop}(h:Zb M A (eval x env) (fun v s₁=>Zb M A (unaryOp op v) Q E s₁) E s):Zb M A (eval (.UnaryOp op x pos) env) Q E s:=by
 rw [eval_UnaryOp]
 exact .bind (h.mono (fun v s₁ h₁=>.stand (.hold h₁)) fun _ _ x=>x)
theorem Zbr {test body orelse pos}{Q:Value→Ws→Prop}(h:Zb M A (isTrue test env (eval test env)) (fun c s₂=>if c then Zb M A (eval body env) Q E s₂ else Zb M A (eval orelse env) Q E s₂) E s):Zb M A (eval (.IfExp test body orelse pos) env) Q E s:=by
 rw [eval_IfExp]
 exact .bind (h.mono (fun c s₂ h₂=>by cases c<;>exact h₂) fun _ _ x=>x)
theorem Zbt {x:Expr}{pos:Pos}{whole:Sem Value}{Q:Bool→Ws→Prop}(h:Zb M A (isTrue x env (eval x env)) (fun b s₁=>Q (!b) s₁) E s):Zb M A (isTrue (.UnaryOp .Not x pos) env whole) Q E s:=by
 rw [arm_isTrue_UnaryOp]
 exact .bind (h.mono (fun b s₁ h₁=>.pure h₁) fun _ _ x=>x)
theorem Zbs {test body orelse pos whole}{Q:Bool→Ws→Prop}(h:Zb M A (isTrue test env (eval test env)) (fun c s₂=>if c then Zb M A (isTrue body env (eval body env)) Q E s₂ else Zb M A (isTrue orelse env (eval orelse env)) Q E s₂) E s):Zb M A (isTrue (.IfExp test body orelse pos) env whole) Q E s:=by
 show Zb M A (isTrue test env (eval test env) >>= fun c=>if c then isTrue body env (eval body env) else isTrue orelse env (eval orelse env)) Q E s
 exact .bind (h.mono (fun c s₂ h₂=>by cases c<;>exact h₂) fun _ _ x=>x)
theorem Zbb {op e pos}{Q:Value→Ws→Prop}(h:Zb M A (eval e env) Q E s):Zb M A (eval (.BoolOp op [e] pos) env) Q E s:=h
theorem Za1 {e₁ e₂ rest pos}{Q:Value→Ws→Prop}(h:Zb M A (eval e₁ env) (fun v s₁=>wpAny M A (truthy v) (fun c s₂=>if c then Zb M A (eval (.BoolOp .And (e₂::rest) pos) env) Q E s₂ else Q v s₂) E s₁) E s):Zb M A (eval (.BoolOp .And (e₁::e₂::rest) pos) env) Q E s:=by
 show Zb M A (eval e₁ env >>= fun v=>standAt pos >>= fun _=>holding [v] (truthy v) >>= fun c=>match BoolOp.And,c with
 |.And,false|.Or,true=>Pure.pure v
 |_,_=>boolOp pos .And (eval e₂ env::evalEach rest env)) Q E s
 refine .bind (h.mono (fun v s₁ h₁=>.stand (.step (wpAny_holding (wpAny_mono h₁ (fun c s₂ h₂=>?_) fun _ _ x=>x)))) fun _ _ x=>x)
 cases c
 ·exact .pure h₂
 ·exact h₂
theorem gOr {e₁ e₂ rest pos}{Q:Value→Ws→Prop}(h:Zb M A (eval e₁ env) (fun v s₁=>wpAny M A (truthy v) (fun c s₂=>if c then Q v s₂ else Zb M A (eval (.BoolOp .Or (e₂::rest) pos) env) Q E s₂) E s₁) E s):Zb M A (eval (.BoolOp .Or (e₁::e₂::rest) pos) env) Q E s:=by
 show Zb M A (eval e₁ env >>= fun v=>standAt pos >>= fun _=>holding [v] (truthy v) >>= fun c=>match BoolOp.Or,c with
 |.And,false|.Or,true=>Pure.pure v
 |_,_=>boolOp pos .Or (eval e₂ env::evalEach rest env)) Q E s
 refine .bind (h.mono (fun v s₁ h₁=>.stand (.step (wpAny_holding (wpAny_mono h₁ (fun c s₂ h₂=>?_) fun _ _ x=>x)))) fun _ _ x=>x)
 cases c
 ·exact h₂
 ·exact .pure h₂
theorem Zbu {elts:List Expr}{pos:Pos}{Q:Value→Ws→Prop}(h:Zb M A (spliced (backTo pos (starEach elts env))) (fun vs s₁=>wpAny M A (newList vs) Q E s₁) E s):Zb M A (eval (.List elts pos) env) Q E s:=by
 show Zb M A (standAt pos >>= fun _=>spliced (backTo pos (starEach elts env)) >>= fun vs=>newList vs) Q E s
 exact .stand (.bind (h.mono (fun _ _ x=>.of x) fun _ _ x=>x))
theorem Hi {elts:List Expr}{k:Nat}{pos:Pos}{Q:Value→Ws→Prop}(h:Zb M A (spliced (backTo pos (starEach elts env))) (fun vs s₁=>wpAny M A (newTuple vs) Q E s₁) E s):Zb M A (eval (.Tuple elts k pos) env) Q E s:=by
 show Zb M A (standAt pos >>= fun _=>spliced (backTo pos (starEach elts env)) >>= fun vs=>newTuple vs) Q E s
 exact .stand (.bind (h.mono (fun _ _ x=>.of x) fun _ _ x=>x))
theorem VM {pos:Pos}{e:Expr}{rest:List Expr}{Q:List Value→Ws→Prop}(h:Zb M A (eval e env) (fun v s₁=>Zb M A (spliced (backTo pos (starEach rest env))) (fun vs s₂=>Q (v::vs) s₂) E s₁) E s)
  (he:starEach (e::rest) env=(false,eval e env)::starEach rest env:=by rfl):Zb M A (spliced (backTo pos (starEach (e::rest) env))) Q E s:=by
 rw [he]
 show Zb M A (eval e env >>= fun v=>(Pure.pure [v]:Sem (List Value)) >>= fun here=>holding here (spliced (backTo pos (starEach rest env))) >>= fun r=>Pure.pure (here++r)) Q E s
 exact .bind (h.mono (fun v s₁ h₁=>.step (wpAny_pure (.bind (.hold (h₁.mono (fun vs s₂ h₂=>.pure h₂) fun _ _ x=>x))))) fun _ _ x=>x)
theorem Be {value slice pos}{Q:Value→Ws→Prop}(h:Zb M A (eval value env) (fun o s₁=>Zb M A (eval slice env) (fun i s₂=>wpAny M A (subscriptTail value slice o i) Q E s₂) E s₁) E s):Zb M A (eval (.Subscript value slice pos) env) Q E s:=by
 rw [eval_Subscript]
 exact .bind (h.mono (fun o s₁ h₁=>.bind (.hold (h₁.mono (fun i s₂ h₂=>.stand (.of h₂)) fun _ _ x=>x))) fun _ _ x=>x)
theorem ZbC {lower upper step:Option Expr}{p:Pos}{Q:Value→Ws→Prop}(h:Zb M A (evalPart lower env) (fun l s₁=>Zb M A (evalPart upper env) (fun u s₂=>Zb M A (evalPart step env) (fun st s₃=>
   Q (.ref s₃.heap.objs.size) {s₃ with heap:=s₃.heap.push {cls:=.type "slice",data:=.fields #[l,u,st]}}) E s₂) E s₁) E s):Zb M A (eval (.Slice lower upper step p) env) Q E s:=by
 rw [arm_eval_Slice]
 exact .bind (h.mono (fun l s₁ h₁=>.bind (.hold (h₁.mono (fun u s₂ h₂=>.bind (.hold (h₂.mono (fun st s₃ h₃=>.of (wpAny_newObj_type h₃)) fun _ _ x=>x))) fun _ _ x=>x))) fun _ _ x=>x)
theorem ZbA {e:Expr}{Q:Value→Ws→Prop}(h:Zb M A (eval e env) Q E s):Zb M A (evalPart (some e) env) Q E s:=h
theorem Hh {o:Expr}{name:Str}{apos pos:Pos}{args:List Expr}{pl:Sem Bool}{Q:Value→Ws→Prop}
  (h:Zb M A (eval o env) (fun ov s₁=>wpAny M A (getMethod ov name pl) (fun fx s₂=>Zb M A (callWith pos fx.1 fx.2 (backTo pos (starEach args env)) []) Q E s₂) E s₁) E s)
  (he:eval (.Call (.Attribute o name apos) args [] pos) env=(do
   let ov ← eval o env
   standAt apos.atName
   let (f,first) ← holding [ov] (getMethod ov name pl)
   callWith pos f first (backTo pos (starEach args env)) [])):Zb M A (eval (.Call (.Attribute o name apos) args [] pos) env) Q E s:=by
 rw [he]
 refine .bind (h.mono (fun ov s₁ h₁=>.stand (.step (wpAny_holding (wpAny_mono h₁ (fun fx s₂ h₂=>?_) fun _ _ x=>x)))) fun _ _ x=>x)
 exact h₂
theorem XK {id:Str}{p pos:Pos}{args:List Expr}{Q:Value→Ws→Prop}(h:wpAny M A (eval (.Name id p) env) (fun f s₁=>Zb M A (callWith pos f [] (backTo pos (starEach args env)) []) Q E s₁) E s):Zb M A (eval (.Call (.Name id p) args [] pos) env) Q E s:=by
 show Zb M A (eval (.Name id p) env >>= fun f=>callWith pos f [] (backTo pos (starEach args env)) (backToKw pos (keywordEach [] env))) Q E s
 exact .step h
end
section
variable {α β:Type}{M:Model}{A:Around}{E:Value→Ws→Prop}{s:Ws}{env:Env}{pos:Pos}
theorem N9 {f:Value}{x:Sem Value}{rest:List (Bool×Sem Value)}{Q:Args→Ws→Prop}(h:Zb M A (spliced ((false,x)::rest)) (fun vs s'=>Q ⟨vs,[]⟩ s') E s):Zb M A (evalArgs f true ((false,x)::rest) []) Q E s:=by
 unfold evalArgs
 show Zb M A (spliced ((false,x)::rest) >>= _) Q E s
 refine .bind (h.mono (fun vs s' h'=>?_) fun _ _ x=>x)
 exact .hold (.step (wpAny_pure (.step (wpAny_pure (.pure h')))))
theorem Bc {P:Heap→Prop}{f:Value}{first:List Value}{args:List (Bool×Sem Value)}{keywords:List (Option Str×Sem Value)}{Q:Value→Ws→Prop}(hplain:(args.any (·.1)||keywords.any (·.1.isNone))=false)
  (hk:∀ h,P h→∃ k,(k=Keeper.frame∨k=Keeper.machine∨k=Keeper.boundFrame)∧Looks M h (keeperOf f) k)
  (h:Zb M A (evalArgs f true args keywords) (fun a s₁=>P s₁.heap∧Zb M A (PySem.call f (first++a.pos) a.kw) Q E s₁) E s):Zb M A (callWith pos f first args keywords) Q E s:=by
 unfold callWith
 refine .bind (.hold (h.mono (fun a s₁ h₁=>.stand ?_) fun _ _ x=>x))
 obtain ⟨k,hk',L⟩:=hk _ h₁.1
 simp -iota only [hplain]
 refine .step (L.here ?_)
 have tail:∀ {t:Sem Value},Zb M A t Q E s₁→Zb M A (t >>= fun r=>holding [r] point >>= fun _=>Pure.pure r) Q E s₁:=
  fun ht=>.bind (ht.mono (fun r s₂ hr=>.step (wpAny_holding (wpAny_point (.pure hr)))) fun _ _ x=>x)
 have marked (mk:Value):Zb M A (callMarked mk f (first++a.pos) a.kw) Q E s₁:=by
  unfold callMarked
  intro Γ p a b c
  rw [Sem.wp_keep]
  exact h₁.2 Γ p a b c
 rcases hk' with rfl|rfl|rfl<;>dsimp only<;>first|exact tail h₁.2|(split<;>first|exact tail h₁.2|exact tail (marked _))
theorem Zbh {st rest}{Q:Flow→Ws→Prop}(h:Zb M A (exec st env) (fun f s'=>match f with|.next=>Zb M A (execs rest env) Q E s'|f=>Q f s') E s):Zb M A (execs (st::rest) env) Q E s:=by
 rw [execs_cons]
 refine .bind (h.mono (fun f s' h'=>?_) fun _ _ x=>x)
 cases f<;>first|exact h'|exact .pure h'
theorem Za3 {x pos' value}{Q:Flow→Ws→Prop}(h:Zb M A (eval value env) (fun v s₁=>wpAny M A (storeName env x v) (fun _=>Q .next) E s₁) E s)(hs:swapsWith value (some (.Name x pos')) pos.line env=Pure.pure false):Zb M A (exec (.Assign [.Name x pos'] value pos) env) Q E s:=by
 rw [exec_Assign_Name env x pos' value pos hs]
 exact .stand (.bind (h.mono (fun v s₁ h₁=>.stand (.step (wpAny_bindName (wpAny_mono h₁ (fun _ _ q=>.pure q) fun _ _ x=>x)))) fun _ _ x=>x))
theorem Za7 {x pos' op value}{Q:Flow→Ws→Prop}(h:wpAny M A (loadName env x) (fun old s₁=>Zb M A (eval value env) (fun v s₂=>wpAny M A (inplaceOp op old v) (fun r s₃=>wpAny M A (storeName env x r) (fun _=>Q .next) E s₃) E s₂) E s₁) E s):Zb M A (exec (.AugAssign (.Name x pos') op value pos) env) Q E s:=by
 rw [exec_AugAssign_Name]
 exact .stand (.step (wpAny_mono h (fun old s₁ h₁=>.bind (.hold (h₁.mono (fun v s₂ h₂=>.stand (.bind (.operate (.of (wpAny_mono h₂ (fun r s₃ h₃=>.stand (.step (wpAny_bindName (wpAny_mono h₃ (fun _ _ q=>.pure q) fun _ _ x=>x)))) fun _ _ x=>x))))) fun _ _ x=>x))) fun _ _ x=>x))
theorem Za5 {o i pos' value}{Q:Flow→Ws→Prop}(h:Zb M A (eval value env) (fun v s₁=>Zb M A (eval o env) (fun ov s₂=>Zb M A (eval i env) (fun iv s₃=>wpAny M A (setItem ov iv v) (fun _=>Q .next) E s₃) E s₂) E s₁) E s)
  (hs:swapsWith value (some (.Subscript o i pos')) pos.line env=Pure.pure false):Zb M A (exec (.Assign [.Subscript o i pos'] value pos) env) Q E s:=by
 rw [exec_Assign_Subscript o i pos' value pos hs]
 refine .stand (.bind (h.mono (fun v s₁ h₁=>?_) fun _ _ x=>x))
 rw [assign_Subscript]
 refine .bind (.bind (.hold (h₁.mono (fun ov s₂ h₂=>.bind (.hold (h₂.mono (fun iv s₃ h₃=>.stand (.step (wpAny_holding (wpAny_mono h₃ (fun _ s₄ q=>?_) fun _ _ x=>x)))) fun _ _ x=>x))) fun _ _ x=>x)))
 exact .of (wpAny_release (.pure q))
theorem Za8 {o i value:Expr}{tpos:Pos}{op:Operator}{Q:Flow→Ws→Prop}
  (h:Zb M A (eval o env) (fun ov s₁=>Zb M A (eval i env) (fun iv s₂=>wpAny M A (getItem ov iv) (fun old s₃=>Zb M A (eval value env) (fun v s₄=>wpAny M A (inplaceOp op old v) (fun new s₅=>wpAny M A (setItem ov iv new) (fun _=>Q .next) E s₅) E s₄) E s₃) E s₂) E s₁) E s)
  (hi:∀ ov iv new,augStore i ov iv new=(do holding [new,ov,iv] (setItem ov iv new);release [new,ov,iv] [];Pure.pure .next)):Zb M A (exec (.AugAssign (.Subscript o i tpos) op value pos) env) Q E s:=by
 have e:exec (.AugAssign (.Subscript o i tpos) op value pos) env=(standAt pos >>= fun _=>eval o env >>= fun ov=>holding [ov] (eval i env) >>= fun iv=>holding [ov,iv] (standAt tpos >>= fun _=>getItem ov iv >>= fun old=>holding [old] (eval value env) >>= fun v=>standAt pos >>= fun _=>PySem.operate [old,v] (inplaceOp op old v)) >>= fun new=>standAt tpos >>= fun _=>augStore i ov iv new):=rfl
 rw [e]
 refine .stand (.bind (h.mono (fun ov s₁ h₁=>.bind (.hold (h₁.mono (fun iv s₂ h₂=>?_) fun _ _ x=>x))) fun _ _ x=>x))
 refine .bind (.hold (.stand (.step (wpAny_mono h₂ (fun old s₃ h₃=>.bind (.hold (h₃.mono (fun v s₄ h₄=>.stand (.operate (.of (wpAny_mono h₄ (fun new s₅ h₅=>.stand ?_) fun _ _ x=>x)))) fun _ _ x=>x))) fun _ _ x=>x))))
 rw [hi]
 exact .step (wpAny_holding (wpAny_mono h₅ (fun _ _ h₆=>.step (wpAny_release (.pure h₆))) fun _ _ x=>x))
theorem Ba {o attr pos' value}{Q:Flow→Ws→Prop}(h:Zb M A (eval value env) (fun v s₁=>Zb M A (eval o env) (fun ov s₂=>wpAny M A (setAttr ov attr v) (fun _=>Q .next) E s₂) E s₁) E s)
  (hs:swapsWith value (some (.Attribute o attr pos')) pos.line env=Pure.pure false):Zb M A (exec (.Assign [.Attribute o attr pos'] value pos) env) Q E s:=by
 rw [plainObj_exec_Assign_Attribute o attr pos' value pos hs]
 refine .stand (.bind (h.mono (fun v s₁ h₁=>?_) fun _ _ x=>x))
 rw [assign_Attribute]
 refine .bind (.bind (.hold (h₁.mono (fun ov s₂ h₂=>.stand (.step (wpAny_holding (wpAny_mono h₂ (fun _ s₄ q=>?_) fun _ _ x=>x)))) fun _ _ x=>x)))
 exact .of (wpAny_release (.pure q))
theorem Za6 {o value:Expr}{attr:Str}{tpos:Pos}{op:Operator}{Q:Flow→Ws→Prop}
  (h:Zb M A (eval o env) (fun ov s₁=>wpAny M A (getAttr ov attr true) (fun old s₂=>Zb M A (eval value env) (fun v s₃=>wpAny M A (inplaceOp op old v) (fun new s₄=>wpAny M A (setAttr ov attr new) (fun _=>Q .next) E s₄) E s₃) E s₂) E s₁) E s):Zb M A (exec (.AugAssign (.Attribute o attr tpos) op value pos) env) Q E s:=by
 have e:exec (.AugAssign (.Attribute o attr tpos) op value pos) env=(standAt pos >>= fun _=>eval o env >>= fun ov=>holding [ov] (standAt tpos.atName >>= fun _=>getAttr ov attr true >>= fun old=>holding [old] (eval value env) >>= fun v=>standAt pos >>= fun _=>PySem.operate [old,v] (inplaceOp op old v)) >>= fun new=>standAt tpos.atName >>= fun _=>holding [new,ov] (setAttr ov attr new) >>= fun _=>release [new,ov] [] >>= fun _=>Pure.pure .next):=rfl
 rw [e]
 refine .stand (.bind (h.mono (fun ov s₁ h₁=>?_) fun _ _ x=>x))
 refine .bind (.hold (.stand (.step (wpAny_mono h₁ (fun old s₂ h₂=>.bind (.hold (h₂.mono (fun v s₃ h₃=>.stand (.operate (.of (wpAny_mono h₃ (fun new s₄ h₄=>.stand ?_) fun _ _ x=>x)))) fun _ _ x=>x))) fun _ _ x=>x))))
 exact .step (wpAny_holding (wpAny_mono h₄ (fun _ _ q=>.step (wpAny_release (.pure q))) fun _ _ x=>x))
theorem ZbB {e}{Q:Flow→Ws→Prop}(h:Zb M A (eval e env) (fun v=>Q (.ret v)) E s):Zb M A (exec (.Return (some e) pos) env) Q E s:=by
 rw [exec_Return_some]
 exact .stand (.bind (h.mono (fun v s₁ q=>.pure q) fun _ _ x=>x))
theorem gIf {test body orelse}{Q:Flow→Ws→Prop}(h:Zb M A (isTrue test env (eval test env)) (fun b s₂=>if b then Zb M A (execs body env) Q E s₂ else Zb M A (execs orelse env) Q E s₂) E s):Zb M A (exec (.If test body orelse pos) env) Q E s:=by
 rw [exec_If]
 exact .stand (.bind (h.mono (fun b s₂ h₂=>by cases b<;>exact h₂) fun _ _ x=>x))
theorem Zbj {e}{Q:Flow→Ws→Prop}(h:Zb M A (eval e env) (fun v s'=>match v with|.ref _=>False|_=>Q .next s') E s)(hi:interactive env=false)(hs:swapsWith e none pos.line env=Pure.pure false):Zb M A (exec (.Expr e pos) env) Q E s:=by
 rw [exec_Expr env e pos hi hs]
 refine .stand (.bind (h.mono (fun v s' h'=>?_) fun _ _ x=>x))
 have hv:∀ a,v≠.ref a:=fun a hva=>by subst hva;exact h'
 rw [dropValue_plain hv]
 refine .pure ?_
 cases v<;>first|exact h'|exact (hv _ rfl).elim
theorem Za4 {targets:List Expr}{value:Expr}{Q:Flow→Ws→Prop}(h:Zb M A (eval value env) (fun v s₁=>wpAny M A (assignAll v ((assignEach targets env).map (·.2))) (fun _=>Q .next) E s₁) E s)
  (hs:swapsWithSole targets value pos.line env=Pure.pure false) (hw:swappedStores targets value env=Pure.pure none):Zb M A (exec (.Assign targets value pos) env) Q E s:=by
 rw [exec_Assign_arm]
 refine .stand ?_
 rw [hs]
 refine .step (wpAny_pure ?_)
 rw [if_neg (by decide)]
 refine .bind (h.mono (fun v s₁ h₁=>?_) fun _ _ x=>x)
 rw [hw]
 refine .step (wpAny_pure ?_)
 show Zb M A (assignAll v ((assignEach targets env).map (·.2)) >>= fun _=>Pure.pure .next) Q E s₁
 exact .step (wpAny_mono h₁ (fun _ _ x=>.pure x) fun _ _ x=>x)
theorem UG {c:Code}{h:Option Value}{Q:Flow→Ws→Prop}(hc:Zv M (A.mark h) c (fun r s'=>match r with|.ok f=>Q f s'|.error e=>cameBackBy M A env E e s') s)(hnb:h≠some byPass):Zb M A (runOwn c env h) Q E s:=by
 unfold runOwn
 exact .onRaise (.run (hc.mono fun r s' q=>by
  cases r with
 |ok f=>exact q
 |error e=>exact .of q) hnb)
theorem ZbH {test body orelse}{Q:Flow→Ws→Prop}(h:Zv M A (.whileLoop test body orelse env) (fun r s'=>match r with|.ok f=>Q f s'|.error e=>cameBackBy M A env E e s') s):Zb M A (exec (.While test body orelse pos) env) Q E s:=by
 rw [exec_While];exact .stand (UG h (by intro x;cases x))
theorem Zbl {target iter body orelse}{Q:Flow→Ws→Prop}(h:Zb M A (eval iter env) (fun x s₁=>wpAny M A (pyIter x) (fun it s₂=>Zv M A (.forLoop target it body orelse env) (fun r s'=>match r with|.ok f=>Q f s'|.error e=>cameBackBy M A env E e s') s₂) E s₁) E s)
  (hs:∀ x,foldedSetIterable iter env x=Pure.pure x):Zb M A (exec (.For target iter body orelse pos) env) Q E s:=by
 rw [exec_For]
 refine .stand (.bind (h.mono (fun x s₁ h₁=>?_) fun _ _ x=>x))
 rw [hs x]
 exact .step (wpAny_pure (.stand (.step (wpAny_holding (wpAny_mono h₁ (fun it s₂ h₂=>UG h₂ (by intro x;cases x)) fun _ _ x=>x)))))
theorem VN {m:Sem α}{Q:α→Ws→Prop}(h:Zb M A m Q (notedBy M A env E) s):Zb M A (m.onRaise fun x=>do noteFrame x env;theTreesLotGoes x) Q E s:=
 .onRaise (h.mono (fun _ _ q=>q) fun _ _ hx=>.step (wpAny_mono hx (fun _ _ e=>.of (wpAny_theTreesLotGoes e)) fun _ _ e=>e))
theorem Zby {m:Sem α}{pos:Pos}{Q:α→Ws→Prop}(h:Zb M A m Q (notedBy M A env E) s):Zb M A (m.onRaise fun x=>do noteFrame x env;standAt pos) Q E s:=
 .onRaise (h.mono (fun _ _ q=>q) fun _ _ hx=>.step (wpAny_mono hx (fun _ _ e=>.of (wpAny_standAt e)) fun _ _ e=>e))
end
section
variable {prog:Program}{w:World}{A:Around}{E:Value→Ws→Prop}{R:Result→Ws→Prop}{s:Ws}{env:Env}
theorem Zba {stmts:List Stmt}(h:Zb (model prog w) A (execs stmts env) (fun f s'=>R (.ok f) s') (notedBy (model prog w) A env fun e s'=>R (.error e) s') s):Zv (model prog w) A (.block stmts env) R s:=by
 refine .tree rfl ?_
 show Zb _ A ((execs stmts env).onRaise (fun x=>do noteFrame x env;theTreesLotGoes x) >>= fun f=>Pure.pure (Fin.done f)) _ _ s
 exact .bind (VN (h.mono (fun f s' h'=>.pure h') fun _ _ h'=>h'))
theorem Zbm {target it body orelse}(I:Nat→Ws→Prop)
  (turn:∀ n s,I n s→wpAny (model prog w) A (pyNext it) (fun r s₁=>match r with
  |none=>Zb (model prog w) A (execs orelse env) (fun f s₃=>R (.ok f) s₃) (notedBy (model prog w) A env fun e s'=>R (.error e) s') s₁
  |some v=>wpAny (model prog w) A (letOwnedTupleGo target it v) (fun _ s₁'=>
     wpAny (model prog w) A (assign target env v) (fun _ s₂=>Zb (model prog w) A (execs body env) (fun f s₃=>match f with
     |.next|.cont=>∃ m,m<n∧I m s₃
     |.brk=>R (.ok .next) s₃
     |.ret v=>R (.ok (.ret v)) s₃) (notedBy (model prog w) A env fun e s'=>R (.error e) s') s₂) (notedBy (model prog w) A env fun e s'=>R (.error e) s') s₁') (notedBy (model prog w) A env fun e s'=>R (.error e) s') s₁) (notedBy (model prog w) A env fun e s'=>R (.error e) s') s)
  (n:Nat) (h:I n s):Zv (model prog w) A (.forLoop target it body orelse env) R s:=by
 refine .loop rfl rfl I (fun n s hI=>?_) n h
 show Zb _ A ((forTurn target it body orelse env).onRaise (fun x=>do noteFrame x env;theTreesLotGoes x)) _ _ s
 refine VN ?_
 unfold forTurn
 refine .stand (.step (wpAny_onRaise (wpAny_mono (turn n s hI) (fun r s₁ h₁=>?_) fun _ _ h'=>wpAny_standAt h')))
 cases r with
|none=>exact .pure (.inr ⟨rfl,Zba h₁⟩)
|some v=>
  refine .step (wpAny_mono h₁ (fun _ s₁' h₁'=>?_) fun _ _ h'=>h')
  refine .step (wpAny_mono h₁' (fun _ s₂ h₂=>.bind (h₂.mono (fun f s₃ h₃=>?_) fun _ _ h'=>h')) fun _ _ h'=>h')
  cases f with
 |next=>exact .pure (.inl ⟨rfl,h₃⟩)
 |cont=>exact .pure (.inl ⟨rfl,h₃⟩)
 |brk=>exact .pure h₃
 |ret v=>exact .pure h₃
theorem ZbI {test body orelse}(I:Nat→Ws→Prop)
  (turn:∀ n s,I n s→Zb (model prog w) A (isTrue test env (eval test env)) (fun b s₂=>
    if b then Zb (model prog w) A (execs body env) (fun f s₃=>match f with
     |.next|.cont=>∃ m,m<n∧I m s₃
     |.brk=>R (.ok .next) s₃
     |.ret v=>R (.ok (.ret v)) s₃) (notedBy (model prog w) A env fun e s'=>R (.error e) s') s₂
    else Zb (model prog w) A (execs orelse env) (fun f s₃=>R (.ok f) s₃) (notedBy (model prog w) A env fun e s'=>R (.error e) s') s₂)
    (notedBy (model prog w) A env fun e s'=>R (.error e) s') s)
  (n:Nat) (h:I n s):Zv (model prog w) A (.whileLoop test body orelse env) R s:=by
 refine .loop rfl rfl I (fun n s hI=>?_) n h
 show Zb _ A ((whileTurn test body orelse env).onRaise (fun x=>do noteFrame x env;theTreesLotGoes x)) _ _ s
 refine VN ?_
 unfold whileTurn
 refine .bind ((turn n s hI).mono (fun b s₂ h₂=>?_) fun _ _ h'=>h')
 cases b with
|false=>
  rw [if_neg Bool.false_ne_true] at h₂
  exact .bind (h₂.mono (fun f s₃ h₃=>.pure h₃) fun _ _ h'=>h')
|true=>
  rw [if_pos rfl] at h₂
  refine .bind (h₂.mono (fun f s₃ h₃=>?_) fun _ _ h'=>h')
  cases f with
 |next=>exact .pure (.inl ⟨rfl,h₃⟩)
 |cont=>exact .pure (.inl ⟨rfl,h₃⟩)
 |brk=>exact .pure h₃
 |ret v=>exact .pure h₃
theorem Zbo {body}(h:Zb (model prog w) (A.deeper env) (execs body env) (fun f s'=>R (.ok (.ret (match f with|.ret v=>v|_=>.none))) s')
   (fun e s'=>wpAny (model prog w) (A.deeper env) (leaving env e) (fun _ s''=>R (.error e) s'') (fun e' s''=>R (.error e') s'') s') s):Zv (model prog w) A (.func body env) R s:=by
 refine .tree rfl ?_
 show Zb _ (A.deeper env) (point >>= fun _=>(execs body env).onRaise (leaving env) >>= fun f=>match f with|.ret v=>ret v|_=>ret .none) _ _ s
 refine .step (wpAny_point (.bind (.onRaise (h.mono (fun f s' h'=>?_) fun _ _ h'=>.of h'))))
 cases f<;>exact .pure h'
theorem Zbd {a:Addr}{args:Args}{o:Obj}{fd:FuncData}{body:List Stmt}(hroom:A.depth<recursionLimit)(ho:s.heap.get? a=some o)
  (hd':o.data=.func fd) (hco:fd.scope.isCoroutine=false) (hgen:fd.scope.isGenerator=false) (hbody:fd.body=.stmts body) (hcd:s.heap.CodeRec fd.code fd.qualname)
  (h:wpAny (model prog w) A.in1 (bindArgs fd args) (fun binds s₁=>
   wpAny (model prog w) A.in1 (newFunctionEnv fd.scope fd.globals fd.closure binds (fd.qualname ++ ".<locals>.") (some a) fd.code none fd.builtins)
    (fun env s₂=>s₂.heap.NoLimit∧Zv (model prog w) A (.func body env) R s₂) (fun e s'=>R (.error e) s') s₁) (fun e s'=>R (.error e) s') s) :
  Zv (model prog w) A (.call (.ref a) args) R s:=by
 refine .tree rfl ?_
 show Zb _ A.in1 (callAny (.ref a) args) _ _ s
 unfold callAny
 refine .step (wpAny_load ho ?_)
 obtain ⟨c,oc,vs,tq,hc,hoc,hdc,hq⟩:=hcd
 rw [hd']
 show Zb _ A.in1 (callFunction a fd args) _ _ s
 unfold callFunction
 simp -iota only [hco,hgen,hbody,hc]
 rw [hc] at h
 refine .step (m:=field (.ref c) 1) (wpAny_field hoc hdc hq (.step (wpAny_pure ?_)))
 exact .step (wpAny_mono h (fun binds s₁ h₁=>.step (wpAny_mono h₁ (fun env s₂ h₂=>.step (wpAny_enterFrame h₂.1 hroom
  (.pure (And.intro rfl h₂.2)))) fun _ _ h'=>h')) fun _ _ h'=>h')
theorem ZbG {body orelse:List Stmt}{h₀:ExceptHandler}{hs:List ExceptHandler}{pos:Pos}{Q:Flow→Ws→Prop}
  (h:Zb (model prog w) A (execs body env) (fun f s₁=>match f with|.next=>Zb (model prog w) A (execs orelse env) Q E s₁|f=>Q f s₁)
   (fun e s₁=>wpAny (model prog w) A (noteFrame e env) (fun _ s₂=>wpAny (model prog w) A (setFlight e none) (fun _ s₃=>Zb (model prog w) A (handleBy e env (h₀::hs)) Q E s₃) E s₂) E s₁) s) :
  Zb (model prog w) A (exec (.Try body (h₀::hs) orelse [] pos) env) Q E s:=by
 rw [arm_exec_Try]
 refine .stand ?_
 unfold tryStmt
 refine .bind (.attempt (h.mono (fun f s₁ h₁=>?_) fun e s₁ h₁=>?_))
 ·cases f<;>first|exact h₁|exact .pure h₁
 ·exact .step (wpAny_mono h₁ (fun _ _ h₂=>.step h₂) fun _ _ x=>x)
theorem Zbp {e:Value}{t:Expr}{body:List Stmt}{pos:Pos}{rest:List ExceptHandler}{Q:Flow→Ws→Prop}
  (h:codeAny (model prog w) (A.mark (some e)) (.handlers e [.ExceptHandler (some t) none [] pos] env) (fun r s₁=>match r with
  |.ok .brk=>Zv (model prog w) (A.mark (some e)) (.handlers e [.ExceptHandler none none body pos] env) (fun r s₂=>match r with
    |.ok f=>Q f s₂
    |.error x=>cameBackBy (model prog w) A env E x s₂) s₁
  |.ok _=>Zb (model prog w) A (handleBy e env rest) Q E s₁
  |.error x=>cameBackBy (model prog w) A env E x s₁) s) (hnb:e≠byPass) :
  Zb (model prog w) A (handleBy e env (.ExceptHandler (some t) none body pos::rest)) Q E s:=by
 rw [handleBy]
 have hnb':(some e:Option Value)≠some byPass:=fun x=>hnb (Option.some.inj x)
 refine .bind (.hold (UG (.mono (.of h) (fun r s₁ h₁=>?_)) hnb'))
 cases r with
|error x=>exact h₁
|ok f=>
  cases f with
 |brk=>
   refine .step (wpAny_pure ?_)
   refine .bind (.hold (UG (.mono h₁ (fun r s₂ h₂=>?_)) hnb'))
   cases r with
  |error x=>exact h₂
  |ok f=>exact .pure h₂
 |next=>exact .step (wpAny_pure h₁)
 |cont=>exact .step (wpAny_pure h₁)
 |ret v=>exact .step (wpAny_pure h₁)
theorem Zbq {e:Value}{b₀:Stmt}{body:List Stmt}{pos:Pos}
  (h:wpAny (model prog w) A (setFlight e none) (fun _ s₁=>Zb (model prog w) A (execs (b₀::body) env) (fun f s₂=>R (.ok f) s₂) (notedBy (model prog w) A env fun x s₂=>R (.error x) s₂) s₁) (notedBy (model prog w) A env fun x s₁=>R (.error x) s₁) s) :
  Zv (model prog w) A (.handlers e [.ExceptHandler none none (b₀::body) pos] env) R s:=by
 refine .tree rfl ?_
 show Zb _ A ((handleWith e env [.ExceptHandler none none (b₀::body) pos]).onRaise (fun x=>do noteFrame x env;theTreesLotGoes x) >>= fun f=>Pure.pure (Fin.done f)) _ _ s
 refine .bind (VN ?_)
 unfold handleWith
 exact .stand (.step (wpAny_mono h (fun _ s₁ h₁=>h₁.mono (fun f s₂ h₂=>.pure h₂) fun _ _ x=>x) fun _ _ x=>x))
end
section
variable {prog:Program}{w:World}{A:Around}{E:Value→Ws→Prop}{R:Result→Ws→Prop}{s:Ws}
theorem Zbe {self t f g:Value}{first:List Value}{name:Str}{args:List Value}{kw:List (Str×Value)}{Q:Option Value→Ws→Prop}(ht:Looks (model prog w) s.heap (typeOf self) t)(hl:Looks (model prog w) s.heap (typeLookup t name) (some f))(hb:Looks (model prog w) s.heap (bindSpecial f self) (g,first))
  (h:Zb (model prog w) A (call g (first++args) kw) (fun v=>Q (some v)) E s):Zb (model prog w) A (callSpecial? self name args kw) Q E s:=by
 unfold callSpecial? specialOf
 refine .step (wpAny_bind (ht.here (hl.here ?_)))
 refine .hold (.step (hb.here (.bind (h.mono (fun _ _ z=>.pure z) fun _ _ z=>z))))
theorem GD {id:String}{args:Args}{b:Builtin}(hd:holds? (.builtin id args)=false)(hq:(Code.builtin id args).quiet=true)(hb:entryFor table id=some b)
  (h:wpAny (model prog w) A.in1 (checkBuiltinCall id args) (fun _ s₁=>Zb (model prog w) (A.under (.builtin id args)) (b args)
   (fun fin s'=>match fin with|.done f=>R (.ok f) s'|.again c'=>c'.quiet=true∧Zv (model prog w) A c' R s') (fun e s'=>R (.error e) s') s₁)
   (fun e s'=>R (.error e) s') s):Zv (model prog w) A (.call (.builtin id) args) R s:=by
 refine .tree rfl ?_
 show Zb _ A.in1 (checkBuiltinCall id args >>= fun _=>again (.builtin id args)) _ _ s
 refine .step (wpAny_mono h (fun _ s₁ h₁=>.pure (And.intro hq (.tree hd ?_))) fun _ _ h'=>h')
 show Zb _ _ (match entryFor table id with|some b=>b args|none=>unsupported ((withoutEnding? id "#data").getD id)) _ _ s₁
 rw [hb];exact h₁
theorem Hm {args:Args}:holds? (.builtin "type.__call__" args)=false:=by
 show (!W0.contains "type.__call__")=false
 decide +kernel
theorem Hg {obj cls:Value}{t g:Value}{first:List Value}{f:Value}{rest:List Value}{kw:List (Str×Value)}{Q:Fin→Ws→Prop}(hi:Looks (model prog w) s.heap (isInstance obj cls) true)(ht:Looks (model prog w) s.heap (typeOf obj) t)(hl:Looks (model prog w) s.heap (typeLookup t "__init__") (some f))(hb:Looks (model prog w) s.heap (bindSpecial f obj) (g,first))
  (h:Zb (model prog w) A (call g (first++rest) kw) (fun v s'=>v=.none∧Q (.done (.ret obj)) s') E s) :
  Zb (model prog w) A (do
   if !(← isInstance obj cls) then rule "type.call.new-gave-other-type";return ← ret obj
   match ← holding [obj] (callSpecial? obj "__init__" rest kw) with
  |none=>ret obj
  |some r=>
    if r != .none then
     rule "type.call.init-returned-value"
     raiseError "TypeError" s!"__init__() should return None, not '{← typeNameOf r}'"
    ret obj) Q E s:=by
 refine .step (hi.here ?_)
 refine .bind (.hold (Zbe ht hl hb (h.mono (fun v s' z=>?_) fun _ _ z=>z)))
 obtain ⟨rfl,z⟩:=z
 exact .pure z
theorem Zbx {C:Addr}{h:Heap}{g:Array GenState}{d:Drawn}{t:Nat}{os:OsState}{rest:List Value}{kw:List (Str×Value)}{init:Value}(Y:Makes (model prog w) h C)(hi:Looks (model prog w) h (typeLookup (.ref C) "__init__") (some init))
  (hb:∀ self,Looks (model prog w) h (bindSpecial init self) (init,[self])) (hne:(some init != some (Value.builtin "object.__init__"))=true∨(rest=[]∧kw=[]))
  (hq:Zv (model prog w) (A.under (.builtin "type.__call__" ⟨.ref C::rest,kw⟩)) (.call init ⟨.ref (h.objs.size+1)::rest,kw⟩) (InitBack (h.objs.size+1) R) ⟨(h.push emptyDict).push (instObj C h.objs.size),g,d,t,os⟩) :
  Zv (model prog w) A (.call (.ref C) ⟨rest,kw⟩) R ⟨h,g,d,t,os⟩:=by
 have Y':=Y
 obtain ⟨⟨oc,od,cd,sl,hC,e1,e2,e4⟩,made,base,self,top,call,typ⟩:=Y
 refine .tree rfl ?_
 show Zb _ _ (callAny (.ref C) _) _ _ _
 refine .step (wpAny_load hC ?_)
 show Zb _ _ (callAny.viaDunder (.ref C) _) _ _ _
 unfold callAny.viaDunder
 refine .step (call.at ?_)
 dsimp only
 rw [tc_bind]
 refine .step (wpAny_pure (.step (wpAny_pure ?_)))
 refine Zb.pure (a:=Fin.again (.call (.builtin "type.__call__") ⟨.ref C::rest,kw⟩)) (And.intro rfl ?_)
 refine GD Hm (Code.quiet_builtin _ (by decide +kernel)) entry_typeCall (check_slot tc_kind tc_split typ (tc_args _ _ _) ?_)
 unfold Builtin.«type.__call__»
 have hm:Looks (model prog w) h (mroOf (.ref C)) cd.mro:=((Looks.ld (part:=none) hC).andThen .now).andThen .now
 refine .step (hm.here ?_)
 rw [e4]
 refine .step (made.here ?_)
 refine .step (wpAny_pure ?_)
 have k:∀ b o,h.get? b=some o→((h.push emptyDict).push (instObj C h.objs.size)).get? b=some o:=fun b o e=>Heap.get?_push_of_some _ (Heap.get?_push_of_some _ e)
 have hx:((h.push emptyDict).push (instObj C h.objs.size)).get? (h.objs.size+1)=some (instObj C h.objs.size):=by heap_get
 have t1:Looks (model prog w) ((h.push emptyDict).push (instObj C h.objs.size)) (typeOf (.ref (h.objs.size+1))) (.ref C):=(Looks.ld hx).andThen .now
 refine .step (wpAny_holding (wpAny_call (new_K Y' hi hne ?_)))
 refine Hg (t1.andThen (self.keeps k)) t1 (hi.keeps k) ((hb (.ref (h.objs.size+1))).keeps k) ?_
 refine .call (hq.mono fun r s' z=>?_)
 rcases r with e|(v|_|_|_)<;>first|exact z|exact z.elim
theorem Zbv {K:Frag}{C:Addr}{h₀:Heap}{L:Addr}{m:Str→Option Value}{news:List (Addr×Obj)}{rest:List Value}{kw:List (Str×Value)}{fI:Addr}(F:Fr h₀ L s.heap m)(N:News h₀ L s.heap news)(X:K.In s.heap)(hm:makesIn K C=true)
  (hi:findIn K (.ref C) "__init__" = some (some (.ref fI))) (hf:typeIn K (.ref fI)=some (.type "function"))
  (h:∀ x dx h',Fr h₀ L h' m→News h₀ L h' ((x,instObj C dx)::(dx,emptyDict)::news)→(∀ p∈news,p.1<dx)→dx<x →
   Zv (model prog w) (A.under (.builtin "type.__call__" ⟨.ref C::rest,kw⟩)) (.call (.ref fI) ⟨.ref x::rest,kw⟩) (InitBack x R) {s with heap:=h'}) :
  Zv (model prog w) A (.call (.ref C) ⟨rest,kw⟩) R s:=by
 obtain ⟨hh,g,d,t,os⟩:=s
 refine Zbx (makes_of X hm) (looks_findIn X hi) (fun self=>bind_fn X self hf) (.inl rfl) (h _ hh.objs.size _ ((F.push _).push _) ?_ (fun p hp=>Heap.lt_size (N p hp).1) (Nat.lt_succ_self _))
 have:=(N.push F emptyDict).push (F.push _) (instObj C hh.objs.size)
 rwa [Heap.size_push] at this
end
namespace BF
theorem DU:Manifest.owners.lookup (String.ofList ['y','a','r','r','a','e','t','y','b'].reverse)=some Manifest.sig_bytearray:=by kernel_rfl
theorem slot_len:Slot "bytearray" "__len__" "bytearray.__len__":=
 .of (owner := "bytearray") (n := "__len__") (by rw [typeLookup_type,builtinLookup_eq_fast];kernel_rfl) (by decide +kernel) (by decide +kernel) (by decide +kernel)
  (by first|exact .inl (by decide +kernel)|exact .inr (by decide +kernel)) (by rw [isSubtype_type];kernel_rfl)
theorem entry_len:entryFor table "bytearray.__len__" = some Builtin.«bytearray.__len__»:=entryFor_of_tree (by kernel_rfl)
theorem args_len (a:Value):argsOk "bytearray.__len__" ⟨[a],[]⟩:=by
 unfold argsOk;rw [signature?_of (id := "bytearray.__len__") (n:=['_','_','n','e','l','_','_']) (o:=['y','a','r','r','a','e','t','y','b']) (by kernel_rfl) DU];kernel_rfl
theorem bytes_bytes:typeLookup (.type "bytes") "__bytes__" = pure (some (.builtin "bytes.__bytes__")):=by rw [typeLookup_type,builtinLookup_eq_fast];kernel_rfl
theorem ba_bytes:typeLookup (.type "bytearray") "__bytes__" = pure none:=by rw [typeLookup_type,builtinLookup_eq_fast];kernel_rfl
theorem ba_index:typeLookup (.type "bytearray") "__index__" = pure none:=by rw [typeLookup_type,builtinLookup_eq_fast];kernel_rfl
theorem ba_buffer:typeLookup (.type "bytearray") "__buffer__" = pure (some (.builtin "bytearray.__buffer__")):=by rw [typeLookup_type,builtinLookup_eq_fast];kernel_rfl
theorem ba_release:typeLookup (.type "bytearray") "__release_buffer__" = pure (some (.builtin "bytearray.__release_buffer__")):=by rw [typeLookup_type,builtinLookup_eq_fast];kernel_rfl
theorem sub_ba:isSubtype (.type "bytearray") (.type "bytearray")=pure true:=by rw [isSubtype_type];kernel_rfl
theorem drop_buf:("bytearray.__buffer__" : String).dropRight ("__buffer__".length+1) = "bytearray" := by decide +kernel
theorem drop_rel:("bytearray.__release_buffer__" : String).dropRight ("__release_buffer__".length+1) = "bytearray" := by decide +kernel
end BF
section
variable {prog:Program}{w:World}{A:Around}{E:Value→Ws→Prop}{s:Ws}
theorem R8 {a:Addr}{o:Obj}{l:List UInt8}{n:Nat}{Q:Value→Ws→Prop}(ho:s.heap.get? a=some o)(hc:o.cls=.type "bytearray")(hd:o.data=.bytearray l.toArray n)(hfit:(l.length:Int)<2^63)
  (h:Q (.int l.length (s.toks+1)) {s with toks:=s.toks+1+1}):wpAny (model prog w) A (PySem.call (.builtin "len") [.ref a]) Q E s:=by
 have hT:s.TypeIs (.ref a) "bytearray" := ⟨o,ho,hc⟩
 refine call_function_entry kind_len plain_len entry_len (args_len1 _) ?_
 unfold Builtin.«len»
 refine wpAny_bind (m:=oneArg "len" _) (wpAny_pure ?_)
 refine wpAny_bind (m:=callSpecial? (.ref a) (Zs "__len__")) (wpAny_callSpecial?_slot (name:=Zs "__len__") hT BF.slot_len
  (wpAny_call_entry BF.slot_len hT BF.entry_len ?_ (BF.args_len _)))
 ·show wpAny _ _ (Builtin.Bytes.payload (.ref a) >>= fun b=>retInt b.size) _ _ s
  unfold Builtin.Bytes.payload Builtin.Bytes.payload?
  refine wpAny_bind (wpAny_bind (wpAny_bind (wpAny_load ho ?_)))
  rw [hd]
  refine wpAny_pure (wpAny_pure ?_)
  rw [List.size_toArray]
  refine wpAny_bind (wpAny_mkInt (wpAny_pure ⟨_,rfl,?_⟩))
  refine wpAny_bind (wpAny_holding (wpAny_pure ?_))
  refine wpAny_bind (wpAny_letGo ?_)
  show wpAny _ _ (if ((l.length:Nat):Int)<0 then _ else _) _ _ _
  rw [if_neg (by simp)]
  show wpAny _ _ (if ((l.length:Nat):Int)≥2^63 then _ else _) _ _ _
  rw [if_neg (by lia)]
  exact wpAny_bind (wpAny_mkInt (wpAny_pure ⟨_,rfl,h⟩))
theorem NC {v r:Value}{s':Ws}{Q:Value→Ws→Prop}(h:codeAny (model prog w) A.in1 (.call (.builtin "bytes.__new__") ⟨[.type "bytes",v],[]⟩) (wants (fun obj s₁=>s₁.TypeIs obj "bytes" ∧ Q obj s₁) E) s) :
  wpAny (model prog w) A (PySem.call (.type "bytes") [v]) Q E s:=by
 refine callType_codes (Q₁:=fun obj s₁=>s₁.TypeIs obj "bytes" ∧ Q obj s₁) PySem.F.bm_called (PySem.F.bm_typeCall _) PySem.F.entry_object_init h fun obj s₁ h₁=>?_
 exact ⟨h₁.1,PySem.F.args_object_init_2 obj _,object_init_meets PySem.F.bm_called.init.lookup PySem.F.bm_called.made (by decide) prog w A.in1 _ s₁ ⟨h₁.1,rfl,h₁.2⟩⟩
theorem R7 {b:Array UInt8}{t:Tok}{Q:Value→Ws→Prop}(h:Q (.bytes b t) s):wpAny (model prog w) A (PySem.call (.type "bytes") [.bytes b t]) Q E s:=by
 refine NC (r:=.none) (s':=s) ?_
 refine codeAny_of_tree ?_
 show wpAny _ A.in1.in1 (do checkBuiltinCall "bytes.__new__" ⟨[.type "bytes",.bytes b t],[]⟩;again (.builtin "bytes.__new__" ⟨[.type "bytes",.bytes b t],[]⟩)) _ _ s
 refine wpAny_bind (wpAny_of_eq (PySem.F.bm_newCall _) (wpAny_pure ⟨plainId_quiet PySem.F.bm_plain _,codeAny_builtin PySem.F.bm_entry ?_⟩))
 rw [Around.under_plainId PySem.F.bm_plain _]
 have hT:s.TypeIs (.bytes b t) "bytes" := PySem.W.typeIs_bytes _ _ _
 unfold Builtin.«bytes.__new__»
 refine wpAny_bind (wpAny_of_eq (a:=true) rfl ?_)
 refine bm_if_false rfl ?_
 refine wpAny_bind (wpAny_of_eq PySem.F.bm_sub ?_)
 refine bm_if_false rfl ?_
 refine wpAny_bind (wpAny_of_eq (PySem.F.bm_bind _) ?_)
 refine wpAny_bind (wpAny_of_eq (a:=()) rfl ?_)
 refine wpAny_bind (wpAny_of_eq (a:=()) rfl ?_)
 refine bm_if_false rfl ?_
 refine wpAny_bind (wpAny_specialOf hT BF.bytes_bytes ?_)
 dsimp only
 refine wpAny_bind (wpAny_rule (wpAny_bind (wpAny_typeOf hT ?_)))
 refine bm_if_true (by decide) ?_
 show wpAny _ _ (if (Value.type "bytes" == Value.type "bytes")=true then _ else _) _ _ _
 refine bm_if_true (by decide) ?_
 first
 |exact wpAny_pure ⟨hT,h⟩
 |exact wpAny_bind (wpAny_pure (wpAny_pure ⟨hT,h⟩))
theorem ZgH {a:Addr}{Q:Bool→Ws→Prop}(hT:s.TypeIs (.ref a) "bytearray")(h:Q true s):wpAny (model prog w) A (Builtin.Bytes.slotIsOwn (.ref a) "__buffer__") Q E s:=by
 unfold Builtin.Bytes.slotIsOwn
 refine wpAny_bind (wpAny_specialOf hT BF.ba_buffer ?_)
 dsimp only
 refine bm_if_false (by decide +kernel) ?_
 show wpAny _ _ (isInstance (.ref a) (.type (("bytearray.__buffer__" : String).dropRight ("__buffer__".length+1)))) _ _ _
 rw [BF.drop_buf]
 exact wpAny_isInstance hT BF.sub_ba h
theorem CN {a:Addr}{Q:Bool→Ws→Prop}(hT:s.TypeIs (.ref a) "bytearray")(h:Q false s):wpAny (model prog w) A (Builtin.Bytes.ownRelease (.ref a)) Q E s:=by
 unfold Builtin.Bytes.ownRelease
 refine wpAny_bind ?_
 unfold Builtin.Bytes.slotIsOwn
 refine wpAny_bind (wpAny_specialOf hT BF.ba_release ?_)
 dsimp only
 refine bm_if_false (by decide +kernel) ?_
 show wpAny _ _ (isInstance (.ref a) (.type (("bytearray.__release_buffer__" : String).dropRight ("__release_buffer__".length+1)))) _ _ _
 rw [BF.drop_rel]
 exact wpAny_isInstance hT BF.sub_ba (wpAny_pure h)
theorem R6 {a:Addr}{o:Obj}{l:List UInt8}{n:Nat}{Q:Value→Ws→Prop}(ho:s.heap.get? a=some o)(hc:o.cls=.type "bytearray")(hd:o.data=.bytearray l.toArray n)(hz:l.length≤sizeLine)
  (h:Q (.bytes l.toArray s.toks) {s with toks:=s.toks+1}):wpAny (model prog w) A (PySem.call (.type "bytes") [.ref a]) Q E s:=by
 refine NC (r:=.none) (s':=s) ?_
 refine codeAny_of_tree ?_
 show wpAny _ A.in1.in1 (do checkBuiltinCall "bytes.__new__" ⟨[.type "bytes",.ref a],[]⟩;again (.builtin "bytes.__new__" ⟨[.type "bytes",.ref a],[]⟩)) _ _ s
 refine wpAny_bind (wpAny_of_eq (PySem.F.bm_newCall _) (wpAny_pure ⟨plainId_quiet PySem.F.bm_plain _,codeAny_builtin PySem.F.bm_entry ?_⟩))
 rw [Around.under_plainId PySem.F.bm_plain _]
 have hT:s.TypeIs (.ref a) "bytearray" := ⟨o,ho,hc⟩
 unfold Builtin.«bytes.__new__»
 refine wpAny_bind (wpAny_of_eq (a:=true) rfl ?_)
 refine bm_if_false rfl ?_
 refine wpAny_bind (wpAny_of_eq PySem.F.bm_sub ?_)
 refine bm_if_false rfl ?_
 refine wpAny_bind (wpAny_of_eq (PySem.F.bm_bind _) ?_)
 refine wpAny_bind (wpAny_of_eq (a:=()) rfl ?_)
 refine wpAny_bind (wpAny_of_eq (a:=()) rfl ?_)
 refine bm_if_false rfl ?_
 refine wpAny_bind (wpAny_specialOf hT BF.ba_bytes ?_)
 refine wpAny_bind (wpAny_bind ?_)
 show wpAny _ _ (load a >>= _) _ _ _
 refine wpAny_bind (wpAny_load ho ?_)
 rw [hd]
 refine wpAny_pure (wpAny_pure ?_)
 refine bm_if_false rfl ?_
 refine wpAny_bind (wpAny_specialOf hT BF.ba_index ?_)
 refine bm_if_true rfl ?_
 first
 |show wpAny _ _ (Builtin.Bytes.buffer? "bytes.__new__" (.ref a) true >>= _) _ _ _
 |(refine wpAny_bind ?_;show wpAny _ _ (Builtin.Bytes.buffer? "bytes.__new__" (.ref a) true >>= _) _ _ _)
 refine wpAny_bind ?_
 unfold Builtin.Bytes.buffer?
 refine wpAny_bind (wpAny_specialOf hT BF.ba_buffer ?_)
 dsimp only
 refine wpAny_bind (ZgH hT ?_)
 refine bm_if_false rfl ?_
 refine wpAny_bind (wpAny_specialOf hT BF.ba_buffer ?_)
 refine wpAny_bind (CN hT ?_)
 refine bm_if_false rfl ?_
 refine wpAny_bind ?_
 unfold Builtin.Bytes.payload Builtin.Bytes.payload?
 refine wpAny_bind (wpAny_bind (wpAny_load ho ?_))
 rw [hd]
 refine wpAny_pure (wpAny_pure (wpAny_pure ?_))
 refine wpAny_bind (wpAny_rule (wpAny_bind (wpAny_mkBytes ?_ (by rw [List.size_toArray];exact hz))))
 show wpAny _ _ (if (Value.type "bytes" == Value.type "bytes")=true then _ else _) _ _ _
 refine bm_if_true (by decide) ?_
 have hT':({s with toks:=s.toks+1}:Ws).TypeIs (.bytes l.toArray s.toks) "bytes" := PySem.W.typeIs_bytes _ _ _
 first
 |exact wpAny_pure ⟨hT',h⟩
 |exact wpAny_bind (wpAny_pure (wpAny_pure ⟨hT',h⟩))
end
namespace BF
theorem mro_ba:mroOf (.type "bytearray")=pure [.type "bytearray",.type "object"]:=by rw [mroOf_type];kernel_rfl
theorem Zcw:typeLookup (.type "bytearray") "__new__" = pure (some (.builtin "bytearray.__new__")):=by rw [typeLookup_type,builtinLookup_eq_fast];kernel_rfl
theorem slot_ba_init:Slot "bytearray" "__init__" "bytearray.__init__":=
 .of (owner := "bytearray") (n := "__init__") (by rw [typeLookup_type,builtinLookup_eq_fast];kernel_rfl) (by decide +kernel) (by decide +kernel) (by decide +kernel)
  (by first|exact .inl (by decide +kernel)|exact .inr (by decide +kernel)) (by rw [isSubtype_type];kernel_rfl)
theorem called_ba:TypeCalled "bytearray" "bytearray.__new__" "bytearray.__init__":=
 ⟨by decide +kernel,by decide +kernel,⟨_,_,mro_ba⟩,madeBy_type mro_ba Zcw (by decide +kernel),by decide +kernel,sub_ba,slot_ba_init⟩
theorem typeCall_ba:checkTypeCall "bytearray" ⟨[],[]⟩=pure ():=by kernel_rfl
theorem newCall_ba:checkBuiltinCall "bytearray.__new__" ⟨[.type "bytearray"],[]⟩=pure ():=by kernel_rfl
theorem entry_ba_new:entryFor table "bytearray.__new__" = some Builtin.«list.__new__»:=entryFor_alias (id' := "list.__new__") (by kernel_rfl) (by first|rfl|decide +kernel) (by decide +kernel) (by kernel_rfl)
theorem entry_ba_init:entryFor table "bytearray.__init__" = some Builtin.«bytearray.__init__»:=by first|exact entryFor_of_fast (by kernel_rfl)|exact entryFor_of_tree (by kernel_rfl)
theorem entry_append:entryFor table "bytearray.append" = some Builtin.«bytearray.append»:=by first|exact entryFor_of_fast (by kernel_rfl)|exact entryFor_of_tree (by kernel_rfl)
theorem plain_ba_new:plainId "bytearray.__new__" = true:=by decide +kernel
theorem args_ba_init (a:Value):argsOk "bytearray.__init__" ⟨[a],[]⟩:=by
 unfold argsOk;rw [signature?_of (id := "bytearray.__init__") (n:=['_','_','t','i','n','i','_','_']) (o:=['y','a','r','r','a','e','t','y','b']) (by kernel_rfl) DU];kernel_rfl
theorem slot_append:Slot "bytearray" "append" "bytearray.append":=
 .of (owner := "bytearray") (n := "append") (by rw [typeLookup_type,builtinLookup_eq_fast];kernel_rfl) (by decide +kernel) (by decide +kernel) (by decide +kernel)
  (by first|exact .inl (by decide +kernel)|exact .inr (by decide +kernel)) (by rw [isSubtype_type];kernel_rfl)
theorem args_append (a b:Value):argsOk "bytearray.append" ⟨[a,b],[]⟩:=by
 unfold argsOk;rw [signature?_of (id := "bytearray.append") (n:=['d','n','e','p','p','a']) (o:=['y','a','r','r','a','e','t','y','b']) (by kernel_rfl) DU];kernel_rfl
theorem type_append:typeOf (.builtin "bytearray.append")=pure (.type "method_descriptor"):=by show builtinType _=_;rw [builtinType_eq_fast];kernel_rfl
theorem plainAttrs_ba:PlainAttrs "bytearray":=
 ⟨⟨"bytearray.__getattribute__",by rw [typeLookup_type,builtinLookup_eq_fast];kernel_rfl,by decide +kernel⟩,by rw [typeLookup_type,builtinLookup_eq_fast];kernel_rfl⟩
theorem init_bind:Builtin.Bytes.bindOptional "bytearray.__init__" "bytearray" ["source", "encoding", "errors"] [] []=pure [none,none,none]:=by kernel_rfl
theorem holds_append {args:Args}:holds? (.builtin "bytearray.append" args)=false:=by
 show (!W0.contains "bytearray.append")=false
 decide +kernel
theorem holds_init {args:Args}:holds? (.builtin "bytearray.__init__" args)=false:=by
 show (!W0.contains "bytearray.__init__")=false
 decide +kernel
set_option maxRecDepth 1000000 in
set_option maxHeartbeats 4000000 in
theorem owner_new:("bytearray.__new__".splitOn ".__new__").headD "" = "bytearray" := by simp +decide [String.splitOn,String.splitOnAux]
end BF
section
variable {prog:Program}{w:World}{A:Around}{E:Value→Ws→Prop}{s:Ws}
theorem Zd9 {self:Value}{c:Code}{p:Pos}(h:holds? c=false):(match (c,p) with
 |(.builtin "bytearray.__contains__" ⟨v::_,_⟩,_)|(.builtin "bytearray.__mod__" ⟨v::_,_⟩,_)
 |(.builtin "bytearray.__rmod__" ⟨_::v::_,_⟩,_)|(.builtin "_struct.pack_into.held" ⟨v::_,_⟩,_)=>Builtin.Bytes.sameRef v self
 |(.builtin "bytearray.find.held" ⟨_::_::held,_⟩,_)=>held.any (Builtin.Bytes.sameRef self)
 |(.builtin id ⟨v::_,_⟩,_)=>Builtin.Bytes.sameRef v self&&Builtin.Bytes.decodersThatHold.contains id
 |_=>false)=false:=by
 cases c with
|builtin id args=>
  have h1:(!W0.contains id)=false:=h
  have h2:id∈W0:=by simpa using h1
  obtain ⟨pos,kw⟩:=args
  unfold W0 at h2
  rcases List.mem_cons.mp h2 with rfl|h2
  ·cases pos<;>first|rfl|exact Bool.and_false _
  rcases List.mem_cons.mp h2 with rfl|h2
  ·cases pos<;>first|rfl|exact Bool.and_false _
  rcases List.mem_cons.mp h2 with rfl|h2
  ·cases pos<;>first|rfl|exact Bool.and_false _
  rcases List.mem_cons.mp h2 with rfl|h2
  ·cases pos<;>first|rfl|exact Bool.and_false _
  ·cases h2
|_=>rfl
theorem Zbi {M:Model}{self:Value}{Q:Bool→Ws→Prop}(h:Q false s):Zb M A (Builtin.Bytes.exported self) Q E s:=by
 intro Γ p a b d
 unfold Builtin.Bytes.exported
 rw [Sem.wp_bind']
 unfold stack
 rw [Sem.wp_stack,Sem.wp_pure]
 have:∀ x∈(Γ.code,p)::Γ.below,holds? x.1=false:=fun x hx=>by
  rcases List.mem_cons.mp hx with q|q
  ·rw [q];exact b
  ·exact d x q
 rw [List.any_eq_false.mpr fun x hx hc=>by
  have:=Zd9 (self:=self) (p:=x.2) (this x hx)
  exact Bool.false_ne_true (this.symm.trans hc)]
 exact (wpAny_pure h:wpAny M A (pure false) Q E s) Γ p a
theorem Bb {M:Model}{a:Addr}{o:Obj}{l:List UInt8}{Q:Bool→Ws→Prop}(ho:s.heap.get? a=some o)(hd:o.data=.bytearray l.toArray 0)(h:Q false s) :
  Zb M A (Builtin.Bytes.exported (.ref a) <||> (do return (← Builtin.Bytes.exportsOf (.ref a))>0)) Q E s:=by
 refine .bind (Zbi (.of ?_))
 show wpAny _ _ (Builtin.Bytes.exportsOf (.ref a) >>= fun n=>pure (decide (n>0))) _ _ _
 refine wpAny_bind ?_
 show wpAny _ _ (load a >>= _) _ _ _
 refine wpAny_bind (wpAny_load ho ?_)
 rw [hd]
 exact wpAny_pure (wpAny_pure h)
theorem QM {M:Model}{a:Addr}{l l':List UInt8}{f:Array UInt8→Array UInt8}{Q:Unit→Ws→Prop}(ho:s.heap.get? a=some {cls:=.type "bytearray",data:=.bytearray l.toArray 0})(hf:f l.toArray=l'.toArray)(hz:l'.length≤sizeLine)
  (h:∀ h',h'.get? a=some {cls:=.type "bytearray",data:=.bytearray l'.toArray 0}→(∀ b o,b≠a→s.heap.get? b=some o→h'.get? b=some o)→Q () {s with heap:=h'}):wpAny M A (Builtin.Bytes.write (.ref a) f) Q E s:=by
 show wpAny _ _ (updateBytearray a f) _ _ _
 unfold updateBytearray
 refine wpAny_bind (wpAny_load ho ?_)
 show wpAny _ _ (update a (Obj.mapBytearray f) >>= fun _=>lookBehind a) _ _ _
 have h2:(s.heap.update a (Obj.mapBytearray f)).get? a=some {cls:=.type "bytearray",data:=.bytearray l'.toArray 0}:=by
  rw [← hf]
  exact Heap.get?_update_self (Obj.mapBytearray f) ho rfl
 refine wpAny_bind (wpAny_update ho ?_)
 refine wpAny_lookBehind h2 ?_ (h _ h2 fun b o hb e=>(Heap.get?_update_other _ _ (Ne.symm hb)).trans e)
 show (if l'.toArray.size>sizeLine then some "bytearray:memory" else none)=none
 rw [if_neg]
 rw [List.size_toArray];omega
theorem Za2 {a:Addr}{l:List UInt8}{n:Int}{t:Tok}{Q:Value→Ws→Prop}(ho:s.heap.get? a=some {cls:=.type "bytearray",data:=.bytearray l.toArray 0})(h0:0≤n)(h1:n<256)(hz:l.length+1≤sizeLine)
  (h:∀ h',h'.get? a=some {cls:=.type "bytearray",data:=.bytearray (l++[n.toNat.toUInt8]).toArray 0}→(∀ b o,b≠a→s.heap.get? b=some o→h'.get? b=some o)→Q .none {s with heap:=h'}) :
  Zb (model prog w) A (PySem.call (.builtin "bytearray.append") [.ref a,.int n t]) Q E s:=by
 have hT:s.TypeIs (.ref a) "bytearray" := ⟨_,ho,rfl⟩
 refine .call (GD BF.holds_append (plainId_quiet BF.slot_append.plain _) BF.entry_append (BF.slot_append.check _ _ _ _ _ _ _ _ hT (BF.args_append _ _) ?_))
 show Zb _ _ (Builtin.Bytes.byteValue (.int n t) >>= _) _ _ _
 have hb:Builtin.Bytes.byteValue (.int n t)=pure n.toNat.toUInt8:=by
  show (if (decide (n<0)||decide (n≥256))=true then _ else _)=_
  rw [if_neg (by simp only [Bool.or_eq_true,decide_eq_true_eq];lia)]
 rw [hb]
 refine .step (wpAny_pure ?_)
 unfold Builtin.Bytes.checkResize
 refine .bind ?_
 refine .bind (Bb ho rfl ?_)
 refine .of (wpAny_pure (.of (wpAny_bind (QM (l':=l++[n.toNat.toUInt8]) ho (by simp) (by simpa using hz) fun h' e1 e2=>?_))))
 exact wpAny_pure (h h' e1 e2)
theorem UF {α:Type}{M:Model}{c:Bool}{a b:Sem α}{Q:α→Ws→Prop}(hc:c=false)(h:Zb M A b Q E s):Zb M A (if c=true then a else b) Q E s:=by
 subst hc
 exact h
theorem Zbc {id:String}{args:Args}{b:Builtin}{R:Result→Ws→Prop}(hd:holds? (.builtin id args)=false)(hb:entryFor table id=some b)
  (h:Zb (model prog w) (A.under (.builtin id args)) (b args) (fun fin s'=>match fin with|.done f=>R (.ok f) s'|.again c'=>c'.quiet=true∧Zv (model prog w) A c' R s') (fun e s'=>R (.error e) s') s):Zv (model prog w) A (.builtin id args) R s:=by
 refine .tree hd ?_
 show Zb _ _ (match entryFor table id with|some b=>b args|none=>unsupported ((withoutEnding? id "#data").getD id)) _ _ s
 rw [hb];exact h
theorem Sn {R:Result→Ws→Prop}(h:R (.ok (.ret (.ref s.heap.objs.size))) {s with heap:=s.heap.push {cls:=.type "bytearray",data:=.bytearray #[]}}) :
  codeAny (model prog w) A (.call (.builtin "bytearray.__new__") ⟨[.type "bytearray"],[]⟩) R s:=by
 refine codeAny_of_tree ?_
 show wpAny _ A.in1 (do checkBuiltinCall "bytearray.__new__" ⟨[.type "bytearray"],[]⟩;again (.builtin "bytearray.__new__" ⟨[.type "bytearray"],[]⟩)) _ _ s
 refine wpAny_bind (wpAny_of_eq BF.newCall_ba (wpAny_pure ⟨plainId_quiet BF.plain_ba_new _,codeAny_builtin_stack BF.entry_ba_new rfl fun p st=>?_⟩))
 have hsub:=BF.sub_ba
 have hown:=BF.owner_new
 obtain ⟨hp,g,d,tk,os⟩:=s
 dsimp only
 rw [hown]
 wp_walk
 exact h
theorem Zbw {Q:Value→Ws→Prop}(h:∀ h',h'.get? s.heap.objs.size=some {cls:=.type "bytearray",data:=.bytearray ([]:List UInt8).toArray 0}→(∀ b o,s.heap.get? b=some o→h'.get? b=some o)→Q (.ref s.heap.objs.size) {s with heap:=h'}) :
  Zb (model prog w) A (PySem.call (.type "bytearray") []) Q E s:=by
 have h1:=BF.called_ba.notType
 have h2:=BF.called_ba.canCreate
 refine .call (.tree rfl ?_)
 show Zb _ _ (callAny (.type "bytearray") ⟨[],[]⟩) _ _ _
 refine Zb.pure (a:=Fin.again (.builtin "type.__call__" ⟨[.type "bytearray"],[]⟩)) ⟨Code.quiet_builtin _ (by decide +kernel),Zbc Hm PySem.F.entry_type_call ?_⟩
 unfold Builtin.«type.__call__»
 refine UF h1 ?_
 refine UF h2 ?_
 refine .step (wpAny_of_eq BF.typeCall_ba ?_)
 refine .step (wpAny_of_eq BF.mro_ba ?_)
 refine UF rfl ?_
 refine .step (wpAny_of_eq BF.called_ba.made ?_)
 refine .step (wpAny_pure ?_)
 refine .step (wpAny_holding (wpAny_call ?_))
 refine Sn ?_
 have hx:(s.heap.push {cls:=.type "bytearray",data:=.bytearray #[]}).get? s.heap.objs.size=some {cls:=.type "bytearray",data:=.bytearray ([]:List UInt8).toArray 0}:=by heap_get
 have t1:Looks (model prog w) (s.heap.push {cls:=.type "bytearray",data:=.bytearray #[]}) (typeOf (.ref s.heap.objs.size)) (.type "bytearray"):=(Looks.ld hx).andThen .now
 refine Hg (t1.andThen (by rw [BF.sub_ba];exact .now)) t1 (by rw [BF.slot_ba_init.lookup];exact .now) (by rw [BF.slot_ba_init.bind];exact .now) ?_
 have hT:({s with heap:=s.heap.push {cls:=.type "bytearray",data:=.bytearray #[]}}:Ws).TypeIs (.ref s.heap.objs.size) "bytearray" := ⟨_,hx,rfl⟩
 refine .call (GD BF.holds_init (plainId_quiet BF.slot_ba_init.plain _) BF.entry_ba_init (BF.slot_ba_init.check _ _ _ _ _ _ _ _ hT (BF.args_ba_init _) ?_))
 unfold Builtin.«bytearray.__init__»
 refine .step (CN hT ?_)
 refine UF rfl ?_
 refine .step (wpAny_of_eq BF.init_bind ?_)
 refine .step (wpAny_of_eq (a:=()) rfl ?_)
 refine .step (wpAny_of_eq (a:=()) rfl ?_)
 refine .bind (Bb hx rfl ?_)
 refine UF rfl ?_
 refine .step (QM (l':=[]) hx rfl (Nat.zero_le _) fun h' e1 e2=>?_)
 have hq:=h h' e1 fun b o e=>e2 b o (Nat.ne_of_lt (Heap.lt_size e)) (Heap.get?_push_of_some _ e)
 refine .of ?_
 exact wpAny_bind (wpAny_pure (wpAny_bind (wpAny_pure (wpAny_pure ⟨rfl,hq⟩))))
end
inductive Nl (G:Gx)(led:List Addr)(e:Addr)(h:Heap)(vs:Array Value)(f:Value):Prop
|mk (T:Addr) (oT:Obj) (ts:Array Value):vs[1]?=some (.ref T)→T≠e→T∉led→G.h.get? T=none→h.get? T=some oT→oT.data=.fields ts→ts[3]?=some f→Nl G led e h vs f
inductive XX (G:Gx)(led:List Addr)(C e:Addr)(h:Heap)(st:Option Value):Prop
|mk (oe:Obj) (vs:Array Value) (a0:Value):h.get? e=some oe→oe.cls=.ref C→oe.data=.fields vs→vs[0]?=some a0→e∉led→G.h.get? e=none →
  (match st with
 |none=>vs[1]?=some .none
 |some f=>Nl G led e h vs f)→XX G led C e h st
inductive CS (G:Gx)(envs:List Env)(fr ex:List (Addr×Obj))(β:List Addr)(σ:List Za)(s:Ws):Prop
|mk (b0z:List ZH) (frn:List (Addr×Obj)):Z9 β β σ b0z→Frs envs fr→SameUp fr frn→(∀ p∈b0z.flatten++(ex++frn),s.heap.get? p.1=some p.2∧G.h.get? p.1=none) →
  ((b0z.flatten++(ex++frn)).map Prod.fst).Nodup→(∀ b o,G.h.get? b=some o→s.heap.get? b=some o)→G.h.objs.size≤s.heap.objs.size→s.gens=G.gens→s.os=G.os→CS G envs fr ex β σ s
inductive Uq (G:Gx)(envs:List Env)(fr ex:List (Addr×Obj))(β:List Addr)(σ:List Za)(c:XN)(e:Addr)(s:Ws):Prop
|mk (b0z:List ZH) (frn:List (Addr×Obj)):Z9 β β σ b0z→Frs envs fr→SameUp fr frn→(∀ p∈b0z.flatten++(ex++frn),s.heap.get? p.1=some p.2∧G.h.get? p.1=none) →
  ((b0z.flatten++(ex++frn)).map Prod.fst).Nodup→(∀ b o,G.h.get? b=some o→s.heap.get? b=some o)→G.h.objs.size≤s.heap.objs.size→s.gens=G.gens→s.os=G.os →
  XX G ((b0z.flatten++(ex++frn)).map Prod.fst) c.addr e s.heap (some .none)→Uq G envs fr ex β σ c e s
inductive MF (φ:Fx)(xs:List Str)(ex:List (Addr×Obj))(β:List Addr)(loc:Zc)(σ:List Za)(c:XN)(e:Addr)(s:Ws):Prop
|mk (b0z:List ZH) (cs frn:List (Addr×Obj)) (m:Str→Option Value) (st:Option Value):Zi φ xs ex β loc σ b0z cs frn m s →
  XX φ.G (φ.env.locals::(b0z.flatten++(cs++(ex++frn))).map Prod.fst) c.addr e s.heap st→(st=none∨st=some .none∨st=some (rawInt φ.env.locals))→MF φ xs ex β loc σ c e s
noncomputable def ZS (φ:Fx)(xs:List Str)(ex:List (Addr×Obj))(β:List Addr)(loc:Zc)(σ:List Za)(c:XN)(e:Addr)(s:Ws):Prop:=
 φ.comp=false→MF φ xs ex β loc σ c e s
structure Cx where
 xs:List Str
 sc:List (Str×NameKind)
noncomputable def ZP (κ:Cx)(φ:Fx):Prop:=φ.env.scope.names=κ.sc
noncomputable def WE (n:Nat)(κ:Cx)(e:Expr)(loc:Zc)(σ:List Za)(Q:Zq)(X:Zx):Prop:=
 ∀ (φ:Fx) ex β s (Qc:Value→Ws→Prop) (Ec:Value→Ws→Prop),ZG n φ.A→ZP κ φ→Rl φ κ.xs ex β loc σ s →
  (∀ v av σ' β' s',Q av σ'→β<+:β'→Rl φ κ.xs ex β' loc σ' s'→VR β' v av→Qc v s') →
  (∀ c σ' β' e s',X c σ'→β<+:β'→ZS φ κ.xs ex β' loc σ' c e s'→Ec (.ref e) s') →
  Zb (Zd φ.G) φ.A (eval e φ.env) Qc Ec s
noncomputable def ZC (n:Nat)(κ:Cx)(es:List Expr)(loc:Zc)(σ:List Za)(Q:List AV→List Za→Prop)(X:Zx):Prop:=
 ∀ (φ:Fx) ex β s (Qc:List Value→Ws→Prop) (Ec:Value→Ws→Prop) (pos:Pos),ZG n φ.A→ZP κ φ→Rl φ κ.xs ex β loc σ s →
  (∀ vs avs σ' β' s',Q avs σ'→β<+:β'→Rl φ κ.xs ex β' loc σ' s'→Ze (VR β') vs avs→Qc vs s') →
  (∀ c σ' β' e s',X c σ'→β<+:β'→ZS φ κ.xs ex β' loc σ' c e s'→Ec (.ref e) s') →
  Zb (Zd φ.G) φ.A (spliced (backTo pos (starEach es φ.env))) Qc Ec s
noncomputable def WT (n:Nat)(κ:Cx)(e:Expr)(loc:Zc)(σ:List Za)(Q:Bool→List Za→Prop)(X:Zx):Prop:=
 ∀ (φ:Fx) ex β s (Qc:Bool→Ws→Prop) (Ec:Value→Ws→Prop),ZG n φ.A→ZP κ φ→Rl φ κ.xs ex β loc σ s →
  (∀ b σ' β' s',Q b σ'→β<+:β'→Rl φ κ.xs ex β' loc σ' s'→Qc b s') →
  (∀ c σ' β' e s',X c σ'→β<+:β'→ZS φ κ.xs ex β' loc σ' c e s'→Ec (.ref e) s') →
  Zb (Zd φ.G) φ.A (isTrue e φ.env (eval e φ.env)) Qc Ec s
inductive W9 where
|next|ret (v:AV)
noncomputable def FR (β:List Addr):Flow→W9→Prop
|.next,.next=>True
|.ret v,.ret av=>VR β v av
|_,_=>False
noncomputable def WS (n:Nat)(κ:Cx)(st:Stmt)(loc:Zc)(σ:List Za)(Q:W9→Zc→List Za→Prop)(X:XN→Zc→List Za→Prop):Prop:=
 ∀ (φ:Fx) ex β s (Qc:Flow→Ws→Prop) (Ec:Value→Ws→Prop),ZG n φ.A→ZP κ φ→φ.comp=false→Rl φ κ.xs ex β loc σ s →
  (∀ f af loc' σ' β' s',Q af loc' σ'→β<+:β'→Rl φ κ.xs ex β' loc' σ' s'→FR β' f af→Qc f s') →
  (∀ c loc' σ' β' e s',X c loc' σ'→β<+:β'→ZS φ κ.xs ex β' loc' σ' c e s'→Ec (.ref e) s') →
  Zb (Zd φ.G) φ.A (exec st φ.env) Qc Ec s
noncomputable def WB (n:Nat)(κ:Cx)(st:List Stmt)(loc:Zc)(σ:List Za)(Q:W9→Zc→List Za→Prop)(X:XN→Zc→List Za→Prop):Prop:=
 ∀ (φ:Fx) ex β s (Qc:Flow→Ws→Prop) (Ec:Value→Ws→Prop),ZG n φ.A→ZP κ φ→φ.comp=false→Rl φ κ.xs ex β loc σ s →
  (∀ f af loc' σ' β' s',Q af loc' σ'→β<+:β'→Rl φ κ.xs ex β' loc' σ' s'→FR β' f af→Qc f s') →
  (∀ c loc' σ' β' e s',X c loc' σ'→β<+:β'→ZS φ κ.xs ex β' loc' σ' c e s'→Ec (.ref e) s') →
  Zb (Zd φ.G) φ.A (execs st φ.env) Qc Ec s
noncomputable def WF (n:Nat)(a:Addr)(args:List AV)(σ:List Za)(Q:Zq)(X:Zx):Prop:=
 ∀ (G:Gx) (A:Around) envs fr ex β s vs (R:Result→Ws→Prop),ZG n A→A.frames=some envs→CS G envs fr ex β σ s→Ze (VR β) vs args →
  (∀ v av σ' β' s',Q av σ'→β<+:β'→CS G envs fr ex β' σ' s'→VR β' v av→R (.ok (.ret v)) s') →
  (∀ c σ' β' e s',X c σ'→β<+:β'→Uq G envs fr ex β' σ' c e s'→R (.error (.ref e)) s') →
  Zv (Zd G) A (.call (.ref a) ⟨vs,[]⟩) R s
theorem ZG.le {n k:Nat}{A:Around}(h:ZG n A)(hk:k≤n):ZG k A:=by
 obtain ⟨a,b,c⟩:=h
 exact ⟨fun q=>a (by grind),by grind,by grind⟩
section
variable {φ:Fx}{xs:List Str}{ex:List (Addr×Obj)}{β:List Addr}{loc:Zc}{σ:List Za}{b0z:List ZH}{cs frn:List (Addr×Obj)}{m:Str→Option Value}{s:Ws}
theorem Zi.moved (R:Zi φ xs ex β loc σ b0z cs frn m s){h':Heap}{tk:Nat}
  (hk:∀ b o,s.heap.get? b=some o→b≠φ.env.locals→b∉frn.map Prod.fst→(b∈(b0z.flatten++(cs++ex)).map Prod.fst∨(φ.G.h.get? b).isSome=true)→h'.get? b=some o)
  (hs:∀ b o,s.heap.get? b=some o→(b=φ.env.locals∨b∈frn.map Prod.fst)→∃ sl,h'.get? b=some {o with slots:=sl}) :
  ∃ frn',SameUp frn frn'∧Zi φ xs ex β loc σ b0z cs frn' m {s with heap:=h',toks:=tk}:=by
 have hfrn:∀ p∈frn,∃ sl,h'.get? p.1=some {p.2 with slots:=sl}:=fun p hp=>
  hs p.1 p.2 (R.N p (by simp [hp])).1 (.inr (List.mem_map_of_mem hp))
 obtain ⟨frn',hsu,hat⟩:=sameUp_of hfrn
 have haddr:frn'.map Prod.fst=frn.map Prod.fst:=by
  have:∀ {a b:List (Addr×Obj)},SameUp a b→b.map Prod.fst=a.map Prod.fst:=by
   intro a
   induction a with
  |nil=>intro b hb;cases b with
   |nil=>rfl
   |cons _ _=>exact False.elim hb
  |cons x xs ih=>intro b hb;cases b with
   |nil=>exact False.elim hb
   |cons y ys=>obtain ⟨h1,_,h3⟩:=hb;simp [h1,ih h3]
  exact this hsu
 have hnL:∀ p∈b0z.flatten++(cs++(ex++frn)),p.1≠φ.env.locals:=fun p hp=>(R.N p hp).2.1
 refine ⟨frn',hsu,R.ok,R.real,R.up.trans hsu,?_,fun p hp=>?_,?_,R.cells,R.loc,R.gens,R.os⟩
 ·obtain ⟨o,es,ep,ho,r⟩:=R.F.ns
  obtain ⟨sl,hsl⟩:=hs _ _ ho (.inl rfl)
  refine ⟨⟨_,es,ep,hsl,r⟩,fun b o e=>?_,R.F.above⟩
  refine hk b o (R.F.keep b o e) (fun q=>?_) (fun q=>?_) (.inr (by rw [e];rfl))
  ·subst q;exact absurd (Nat.lt_of_lt_of_le (Heap.lt_size e) R.F.above) (Nat.lt_irrefl _)
  ·obtain ⟨p,hp,rfl⟩:=List.mem_map.mp q
   rw [(R.N p (by simp [hp])).2.2] at e;cases e
 ·by_cases hf:p∈frn'
  ·have hin:p.1∈frn.map Prod.fst:=by rw [← haddr];exact List.mem_map_of_mem hf
   obtain ⟨q,hq,e⟩:=List.mem_map.mp hin
   have:=R.N q (by simp [hq])
   exact ⟨hat p hf,by rw [← e];exact this.2.1,by rw [← e];exact this.2.2⟩
  ·have hin:p∈b0z.flatten++(cs++ex):=by
    simp only [List.mem_append] at hp ⊢;lia
   have hin':p∈b0z.flatten++(cs++(ex++frn)):=by
    simp only [List.mem_append] at hin ⊢;lia
   have h1:=R.N p hin'
   refine ⟨hk _ _ h1.1 h1.2.1 (fun q=>?_) (.inl (List.mem_map_of_mem hin)),h1.2⟩
   have hnd:=R.nd
   have e:b0z.flatten++(cs++(ex++frn))=(b0z.flatten++(cs++ex))++frn:=by simp
   rw [e,List.map_append,List.nodup_append] at hnd
   exact hnd.2.2 p.1 (List.mem_map_of_mem hin) p.1 q rfl
 ·have h1:=R.nd
  simp only [List.map_append,haddr] at h1 ⊢
  exact h1
end
section
variable {φ:Fx}{xs:List Str}{ex:List (Addr×Obj)}{β:List Addr}{loc:Zc}{σ:List Za}{b0z:List ZH}{cs frn:List (Addr×Obj)}{m:Str→Option Value}{s:Ws}
theorem Zi.envs (R:Zi φ xs ex β loc σ b0z cs frn m s)(hc:φ.comp=false):φ.A.frames=some (φ.env::φ.oenvs)∧φ.env.frame=some φ.env.locals∧Frs φ.oenvs frn:=by
 obtain ⟨h1,h2⟩:=R.ok.own hc
 refine ⟨by rw [h1];exact R.ok.hfr,h2,?_⟩
 have:=R.ok.frs
 rw [hc] at this
 exact Frs.up this R.up
theorem Zi.funFrames (R:Zi φ xs ex β loc σ b0z cs frn m s)(hc:φ.comp=false){B h':Heap}(hB:∀ b∈φ.env.locals::frn.map Prod.fst,B.get? b=none)
  (hs:∀ b o,s.heap.get? b=some o→b∈φ.env.locals::frn.map Prod.fst→∃ sl,h'.get? b=some {o with slots:=sl}):h'.FunFrames B (φ.env::φ.oenvs):=by
 obtain ⟨e1,e2,e3⟩:=R.envs hc
 obtain ⟨o,es,ep,ho,hd,r⟩:=R.F.ns
 obtain ⟨sl,hsl⟩:=hs _ _ ho List.mem_cons_self
 have hfr:∀ p∈frn,∃ sl,h'.get? p.1=some {p.2 with slots:=sl}:=fun p hp=>hs p.1 p.2 (R.N p (by simp [hp])).1 (List.mem_cons_of_mem _ (List.mem_map_of_mem hp))
 obtain ⟨frs₁,SU,ht⟩:=sameUp_of hfr
 refine ⟨by rw [R.ok.kind];decide,⟨φ.env.locals,_,e2,hB _ List.mem_cons_self,hsl,fun vs q=>by rw [hd] at q;cases q⟩,(e3.up SU).fun fun q hq=>⟨ht q hq,?_⟩⟩
 obtain ⟨p,hp,e⟩:=SU.fwd q hq
 rw [e]
 exact hB _ (List.mem_cons_of_mem _ (List.mem_map_of_mem hp))
theorem Zi.noted (R:Zi φ xs ex β loc σ b0z cs frn m s)(hc:φ.comp=false){hid:List Addr}{e:Addr}{c a0 fl:Value}{h':Heap}{C:Addr}(hC:c=.ref C)
  (hhid:∀ b∈hid,b=φ.env.locals∨b∈frn.map Prod.fst∨(b∉(b0z.flatten++(cs++(ex++frn))).map Prod.fst∧φ.G.h.get? b=none))
  (hsub:∀ b∈φ.env.locals::frn.map Prod.fst,b∈hid)
  (he:e∉φ.env.locals::(b0z.flatten++(cs++(ex++frn))).map Prod.fst) (heG:φ.G.h.get? e=none)
  (hN:Heap.NotedW (hideAll s.heap hid) (φ.env::φ.oenvs) e c a0 fl s.heap h') {tk:Nat} :
  ∃ frn',Zi φ xs ex β loc σ b0z cs frn' m {s with heap:=h',toks:=tk}∧XX φ.G (φ.env.locals::(b0z.flatten++(cs++(ex++frn'))).map Prod.fst) C e h' (some fl):=by
 obtain ⟨k1,_,k3,k4⟩:=hN
 have hexact:∀ b o,s.heap.get? b=some o→b∉hid→h'.get? b=some o:=fun b o ho hb=>k1 b o (hideAll_get _ ho hb)
 have hfrd:∀ b∈φ.env.locals::frn.map Prod.fst,∃ o es ep,s.heap.get? b=some o∧o.data=.dict es ep:=by
  intro b hb
  rcases List.mem_cons.mp hb with rfl|hb
  ·obtain ⟨o,es,ep,ho,hd,_⟩:=R.F.ns
   exact ⟨o,es,ep,ho,hd⟩
  ·obtain ⟨p,hp,rfl⟩:=List.mem_map.mp hb
   obtain ⟨es,ep,hd⟩:=(R.envs hc).2.2.dict p hp
   exact ⟨p.2,es,ep,(R.N p (by simp [hp])).1,hd⟩
 have hslots:∀ b o,s.heap.get? b=some o→b∈φ.env.locals::frn.map Prod.fst→∃ sl,h'.get? b=some {o with slots:=sl}:=by
  intro b o ho hb
  obtain ⟨o',es,ep,ho',hd⟩:=hfrd b hb
  rw [ho] at ho';cases ho'
  exact k4 b o ho fun vs q=>by rw [hd] at q;cases q
 have hnh:∀ b∈(b0z.flatten++(cs++ex)).map Prod.fst,b∉hid:=by
  intro b hb hh
  obtain ⟨p,hp,rfl⟩:=List.mem_map.mp hb
  have hp':p∈b0z.flatten++(cs++(ex++frn)):=by simp only [List.mem_append] at hp ⊢;grind
  rcases hhid _ hh with q|q|q
  ·exact (R.N p hp').2.1 q
  ·have hnd:=R.nd
   have e:b0z.flatten++(cs++(ex++frn))=(b0z.flatten++(cs++ex))++frn:=by simp
   rw [e,List.map_append,List.nodup_append] at hnd
   exact hnd.2.2 p.1 hb p.1 q rfl
  ·exact q.1 (List.mem_map_of_mem hp')
 have hGh:∀ b o,φ.G.h.get? b=some o→b∉hid:=by
  intro b o ho hh
  rcases hhid _ hh with q|q|q
  ·subst q;exact absurd (Nat.lt_of_lt_of_le (Heap.lt_size ho) R.F.above) (Nat.lt_irrefl _)
  ·obtain ⟨p,hp,rfl⟩:=List.mem_map.mp q
   rw [(R.N p (by simp [hp])).2.2] at ho;cases ho
  ·rw [q.2] at ho;cases ho
 obtain ⟨frn',hsu,R'⟩:=R.moved (h':=h') (tk:=tk) (fun b o ho h1 h2 h3=>hexact b o ho (by
   rcases h3 with h3|h3
   ·exact hnh b h3
   ·obtain ⟨o',ho'⟩:=Option.isSome_iff_exists.mp h3
    exact hGh b o' ho')) (fun b o ho hb=>hslots b o ho (by simpa using hb))
 have haddr:frn'.map Prod.fst=frn.map Prod.fst:=by
  have:∀ {a b:List (Addr×Obj)},SameUp a b→b.map Prod.fst=a.map Prod.fst:=by
   intro a
   induction a with
  |nil=>intro b hb;cases b with
   |nil=>rfl
   |cons _ _=>exact False.elim hb
  |cons x xs ih=>intro b hb;cases b with
   |nil=>exact False.elim hb
   |cons y ys=>obtain ⟨h1,_,h3⟩:=hb;simp [h1,ih h3]
  exact this hsu
 have hled:(b0z.flatten++(cs++(ex++frn'))).map Prod.fst=(b0z.flatten++(cs++(ex++frn))).map Prod.fst:=by simp [haddr]
 refine ⟨frn',R',?_⟩
 rw [hled]
 obtain ⟨oe,vs,T,oT,ts,t1,t2,t3,t4,t5,t6,t7,t8,t9⟩:=k3
 refine ⟨oe,vs,a0,t1,by rw [t2.1,hC],t3,t2.2,he,heG,T,oT,ts,t4,t6,fun hm=>?_,?_,t7,t8,t9⟩
 ·have hTf:T∉φ.env.locals::frn.map Prod.fst:=fun hm'=>by
   obtain ⟨o',es,ep,ho',hd⟩:=hfrd T hm'
   obtain ⟨sl,hsl⟩:=hslots T o' ho' hm'
   rw [t7] at hsl;cases hsl
   rw [t8] at hd;cases hd
  rcases List.mem_cons.mp hm with q|q
  ·exact hTf (by rw [q];exact List.mem_cons_self)
  ·obtain ⟨p,hp,rfl⟩:=List.mem_map.mp q
   by_cases hpf:p∈frn
   ·exact hTf (List.mem_cons_of_mem _ (List.mem_map_of_mem hpf))
   ·have hp':p∈b0z.flatten++(cs++ex):=by simp only [List.mem_append] at hp ⊢;grind
    have:=hideAll_get hid (R.N p hp).1 (hnh _ (List.mem_map_of_mem hp'))
    rw [t5] at this;cases this
 ·cases q:φ.G.h.get? T with
 |none=>rfl
 |some o=>
   have:=hideAll_get hid (R.F.keep T o q) (hGh T o q)
   rw [t5] at this;cases this
noncomputable abbrev Vl (φ:Fx)(frn:List (Addr×Obj))(more:List Addr):List Addr:=(φ.env.locals::frn.map Prod.fst)++more
theorem ZS.note {c:XN}{e:Addr}{E:Value→Ws→Prop}{Q:Unit→Ws→Prop}(H:ZS φ xs ex β loc σ c e s)(hc:φ.comp=false)
  (k:∀ h' b0z cs frn m,Zi φ xs ex β loc σ b0z cs frn m {s with heap:=h'}→XX φ.G (φ.env.locals::(b0z.flatten++(cs++(ex++frn))).map Prod.fst) c.addr e h' (some (rawInt φ.env.locals))→Q () {s with heap:=h'}) :
  wpAny (Zd φ.G) φ.A (noteFrame (.ref e) φ.env) Q E s:=by
 obtain ⟨b0z,cs,frn,m,st,R,X,hst⟩:=H hc
 obtain ⟨f1,f2,f3⟩:=R.envs hc
 obtain ⟨oe,vs,a0,x1,x2,x3,x4,x5,x6,x7⟩:=X
 have hbase (more:List Addr):∀ b∈φ.env.locals::frn.map Prod.fst,(hideAll s.heap (Vl φ frn more)).get? b=none:=fun b hb=>hideAll_none _ (List.mem_append_left _ hb)
 have hff (more:List Addr):s.heap.FunFrames (hideAll s.heap (Vl φ frn more)) (φ.env::φ.oenvs):=R.funFrames hc (hbase more) fun b o ho _=>⟨o.slots,ho⟩
 have hst2 (more:List Addr):(hideAll s.heap (Vl φ frn more)).StaysIn s.heap:=fun b o q=>of_hideAll _ q
 have eta:({s with heap:=s.heap}:Ws)=s:=rfl
 rcases hst with rfl|rfl|rfl
 ·-- just made
  unfold noteFrame
  simp only [f2]
  refine wpAny_bind (wpAny_field x1 x3 (x:=.none) x7 ?_)
  rw [if_neg (by decide)]
  refine wpAny_entryW (a0:=a0) f1 (hff [e]) f2 x1 (hst2 [e]) (hideAll_none _ (by simp)) x3 (Array.getElem?_eq_some_iff.mp x7).1 x4 fun h' hN=>?_
  obtain ⟨frn',R',X'⟩:=R.noted hc (C:=c.addr) (tk:=s.toks) x2 (hid:=Vl φ frn [e]) (fun b hb=>by
   simp only [List.mem_append,List.mem_cons,List.not_mem_nil,or_false] at hb
   rcases hb with (q|q)|q
   ·exact .inl q
   ·exact .inr (.inl q)
   ·subst q;exact .inr (.inr ⟨fun q=>x5 (List.mem_cons_of_mem _ q),x6⟩)) (fun b hb=>List.mem_append_left _ hb) x5 x6 hN
  exact k h' _ _ _ _ R' X'
 ·-- on its way
  obtain ⟨T,oT,ts,y1,y2,y3,y4,y5,y6,y7⟩:=x7
  refine wpAny_noteFrame_onW (base:=hideAll s.heap (Vl φ frn [e,T])) (cls:=.ref c.addr) (a0:=a0) f1 (hff [e,T]) f2 ⟨oe,vs,T,oT,ts,x1,⟨x2,x4⟩,x3,y1,hideAll_none _ (by simp),y2,y5,y6,y7⟩ (hst2 [e,T]) (hideAll_none _ (by simp)) fun h' hN=>?_
  obtain ⟨frn',R',X'⟩:=R.noted hc (C:=c.addr) (tk:=s.toks) rfl (hid:=Vl φ frn [e,T]) (fun b hb=>by
   simp only [List.mem_append,List.mem_cons,List.not_mem_nil,or_false] at hb
   rcases hb with (q|q)|q|q
   ·exact .inl q
   ·exact .inr (.inl q)
   ·subst q;exact .inr (.inr ⟨fun q=>x5 (List.mem_cons_of_mem _ q),x6⟩)
   ·subst q;exact .inr (.inr ⟨fun q=>y3 (List.mem_cons_of_mem _ q),y4⟩)) (fun b hb=>List.mem_append_left _ hb) x5 x6 hN
  exact k h' _ _ _ _ R' X'
 ·-- held already
  obtain ⟨T,oT,ts,y1,y2,y3,y4,y5,y6,y7⟩:=x7
  refine wpAny_noteFrame_againW (base:=hideAll s.heap (Vl φ frn [e,T])) (cls:=.ref c.addr) (a0:=a0) f2 ⟨oe,vs,T,oT,ts,x1,⟨x2,x4⟩,x3,y1,hideAll_none _ (by simp),y2,y5,y6,y7⟩ ?_
  exact k s.heap _ _ _ _ R ⟨oe,vs,a0,x1,x2,x3,x4,x5,x6,T,oT,ts,y1,y2,y3,y4,y5,y6,y7⟩
theorem Zi.but (R:Zi φ xs ex β loc σ b0z cs frn m s){h':Heap}{tk:Nat}{T:Addr}(hk:∀ b o,b≠T→s.heap.get? b=some o→h'.get? b=some o)
  (hT:T∉φ.env.locals::(b0z.flatten++(cs++(ex++frn))).map Prod.fst) (hG:φ.G.h.get? T=none):Zi φ xs ex β loc σ b0z cs frn m {s with heap:=h',toks:=tk}:=by
 have hTL:φ.env.locals≠T:=fun q=>hT (by rw [q];exact List.mem_cons_self)
 refine ⟨R.ok,R.real,R.up,?_,fun p hp=>⟨hk _ _ (fun q=>hT (by rw [← q];exact List.mem_cons_of_mem _ (List.mem_map_of_mem hp))) (R.N p hp).1,(R.N p hp).2⟩,R.nd,R.cells,R.loc,R.gens,R.os⟩
 obtain ⟨o,es,ep,ho,r⟩:=R.F.ns
 exact ⟨⟨o,es,ep,hk _ _ hTL ho,r⟩,fun b o e=>hk _ _ (fun q=>by rw [q,hG] at e;cases e) (R.F.keep b o e),R.F.above⟩
theorem GC {M:Model}{A:Around}{G:Gx}{led:List Addr}{C e:Addr}{f:Value}{E:Value→Ws→Prop}{Q:Unit→Ws→Prop}{fr:Option Addr}(X:XX G led C e s.heap (some f))
  (k:∀ h' T,T∉led→G.h.get? T=none→(∀ b o,b≠T→s.heap.get? b=some o→h'.get? b=some o)→XX G led C e h' (some (fr.elim .none fun x=>rawInt x))→Q () {s with heap:=h'}) :
  wpAny M A (setFlight (.ref e) fr) Q E s:=by
 obtain ⟨oe,vs,a0,x1,x2,x3,x4,x5,x6,T,oT,ts,y1,y2,y3,y4,y5,y6,y7⟩:=X
 have hsz:3<ts.size:=(Array.getElem?_eq_some_iff.mp y7).1
 have other:∀ b,b≠T→(s.heap.update T (Obj.mapFields (·.setIfInBounds 3 (fr.elim Value.none fun x=>rawInt x)))).get? b=s.heap.get? b:=fun b hb=>Heap.get?_update_other _ _ (Ne.symm hb)
 unfold setFlight
 refine wpAny_bind (wpAny_field x1 x3 y1 ?_)
 rw [if_pos (show (Value.ref T != Value.none)=true from by simp)]
 refine wpAny_setField y5 y6 hsz (k _ T y3 y4 (fun b o hb ho=>(other b hb).trans ho) ?_)
 exact ⟨oe,vs,a0,(other e (Ne.symm y2)).trans x1,x2,x3,x4,x5,x6,T,_,_,y1,y2,y3,y4,Heap.get?_update_self _ y5 (Obj.isFreed_of_fields (Obj.data_mapFields y6 _)),Obj.data_mapFields y6 _,by simp [hsz]⟩
theorem Zi.toCS (R:Zi φ xs ex β loc σ b0z cs frn m s)(hc:φ.comp=false):CS φ.G φ.oenvs φ.outs ex β σ s:=by
 have hfrs:=R.ok.frs
 rw [hc] at hfrs
 refine ⟨b0z,frn,R.real,hfrs,R.up,fun p hp=>?_,?_,R.F.keep,Nat.le_of_lt (Nat.lt_of_le_of_lt R.F.above R.F.ns.lt),R.gens,R.os⟩
 ·have:p∈b0z.flatten++(cs++(ex++frn)):=by simp only [List.mem_append] at hp ⊢;grind
  exact ⟨(R.N p this).1,(R.N p this).2.2⟩
 ·have h1:=R.nd
  refine h1.sublist ?_
  simp only [List.map_append]
  exact List.Sublist.append (List.Sublist.refl _) (List.sublist_append_right _ _)
theorem XX.less {G:Gx}{led led':List Addr}{C e:Addr}{h:Heap}{st:Option Value}(X:XX G led C e h st)(hs:∀ b∈led',b∈led):XX G led' C e h st:=by
 obtain ⟨oe,vs,a0,x1,x2,x3,x4,x5,x6,x7⟩:=X
 refine ⟨oe,vs,a0,x1,x2,x3,x4,fun q=>x5 (hs _ q),x6,?_⟩
 cases st with
|none=>exact x7
|some f=>
  obtain ⟨T,oT,ts,y1,y2,y3,y4,y5,y6,y7⟩:=x7
  exact ⟨T,oT,ts,y1,y2,fun q=>y3 (hs _ q),y4,y5,y6,y7⟩
theorem ZS.leave {c:XN}{e:Addr}{E:Value→Ws→Prop}{Q:Unit→Ws→Prop}(H:ZS φ xs ex β loc σ c e s)(hc:φ.comp=false)
  (k:∀ h',Uq φ.G φ.oenvs φ.outs ex β σ c e {s with heap:=h'}→Q () {s with heap:=h'}):wpAny (Zd φ.G) φ.A (leaving φ.env (.ref e)) Q E s:=by
 unfold leaving
 refine wpAny_bind (H.note hc fun h₁ b0z cs frn m R X=>?_)
 refine GC (s:={s with heap:=h₁}) X fun h₂ T hT hG hk X₂=>?_
 have R₂:=R.but (h':=h₂) (tk:=s.toks) hk hT hG
 refine k h₂ ?_
 have hfrs:=R₂.ok.frs
 rw [hc] at hfrs
 have hsub:∀ p∈b0z.flatten++(ex++frn),p∈b0z.flatten++(cs++(ex++frn)):=fun p hp=>by simp only [List.mem_append] at hp ⊢;grind
 refine ⟨b0z,frn,R₂.real,hfrs,R₂.up,fun p hp=>?_,?_,R₂.F.keep,Nat.le_of_lt (Nat.lt_of_le_of_lt R₂.F.above R₂.F.ns.lt),R₂.gens,R₂.os,X₂.less fun b hb=>?_⟩
 ·exact ⟨(R₂.N p (hsub p hp)).1,(R₂.N p (hsub p hp)).2.2⟩
 ·refine R₂.nd.sublist ?_
  simp only [List.map_append]
  exact List.Sublist.append (List.Sublist.refl _) (List.sublist_append_right _ _)
 ·obtain ⟨p,hp,rfl⟩:=List.mem_map.mp hb
  exact List.mem_cons_of_mem _ (List.mem_map_of_mem (hsub p hp))
end
section
variable {φ:Fx}{xs:List Str}{ex:List (Addr×Obj)}{β:List Addr}{loc:Zc}{σ:List Za}{b0z:List ZH}{cs frn:List (Addr×Obj)}{m:Str→Option Value}{s:Ws}
theorem WO {h:Heap}{L:Addr}(a:h.objs.size≤L):h.get? L=none:=by
 cases q:h.get? L with
|none=>rfl
|some o=>exact absurd (Nat.lt_of_lt_of_le (Heap.lt_size q) a) (Nat.lt_irrefl _)
noncomputable def noCells (lg:List (Addr×Obj)):Prop:=∀ p∈lg,∀ v,p.2.data≠.cell v
theorem Vk (lg:List (Addr×Obj))(b0z:List ZH)(cs ex frn:List (Addr×Obj)):((b0z.flatten++(cs++((lg++ex)++frn))).map Prod.fst).Perm (lg.map Prod.fst++(b0z.flatten++(cs++(ex++frn))).map Prod.fst):=by
 simp only [List.map_append,List.append_assoc]
 calc (b0z.flatten.map Prod.fst++(cs.map Prod.fst++(lg.map Prod.fst++(ex.map Prod.fst++frn.map Prod.fst)))).Perm (b0z.flatten.map Prod.fst++(lg.map Prod.fst++(cs.map Prod.fst++(ex.map Prod.fst++frn.map Prod.fst)))):=
    List.Perm.append_left _ (List.perm_append_comm_assoc _ _ _)
  _ |>.Perm _:=List.perm_append_comm_assoc _ _ _
theorem VD.sub {env:Env}{m:Str→Option Value}{led led':List (Addr×Obj)}{x:Str}{v:Value}(h:VD env m led x v)(hs:∀ c o,(c,o)∈led→o.data=.cell (some v)→(c,o)∈led'):VD env m led' x v:=by
 refine h.imp id fun h=>?_
 obtain ⟨k1,c,o,k2,k3,k4⟩:=h
 exact ⟨k1,c,o,k2,hs c o k3 k4,k4⟩
theorem Zi.exDrop {lg:List (Addr×Obj)}(R:Zi φ xs (lg++ex) β loc σ b0z cs frn m s)(hc:noCells lg):Zi φ xs ex β loc σ b0z cs frn m s:=by
 refine ⟨R.ok,R.real,R.up,R.F,fun p hp=>R.N p (by simp only [List.mem_append] at hp ⊢;lia),?_,R.cells,fun i x av h1 h2=>?_,R.gens,R.os⟩
 ·exact (List.nodup_append.mp ((Vk lg b0z cs ex frn).nodup_iff.mp R.nd)).2.1
 ·obtain ⟨v,h3,h4⟩:=R.loc i x av h1 h2
  refine ⟨v,h3,h4.sub fun c o k3 k4=>?_⟩
  have:(c,o)∉lg:=fun q=>hc _ q _ k4
  simp only [List.mem_append] at k3 ⊢;grind
theorem Zi.callL {lg:List (Addr×Obj)}(R₁:Zi φ xs (lg++ex) β loc σ b0z cs frn m s)(nc:noCells lg):∃ fr pre,CS φ.G (φ.fenv::φ.oenvs) fr (lg++(pre++(cs++ex))) β σ s ∧
  (∀ β' σ' s',CS φ.G (φ.fenv::φ.oenvs) fr (pre++(cs++ex)) β' σ' s'→β<+:β'→Rl φ xs ex β' loc σ' s') ∧
  (∀ β' σ' c e s',Uq φ.G (φ.fenv::φ.oenvs) fr (pre++(cs++ex)) β' σ' c e s'→β<+:β'→ZS φ xs ex β' loc σ' c e s'):=by
 have R:=R₁.exDrop nc
 obtain ⟨oL,es,ep,hL,hLd,hLk,hLf⟩:=R.F.ns
 have hLn:φ.env.locals∉(b0z.flatten++(cs++((lg++ex)++frn))).map Prod.fst:=fun q=>by
  obtain ⟨p,hp,e⟩:=List.mem_map.mp q
  exact (R₁.N p hp).2.1 e
 cases hc:φ.comp with
|false=>
  obtain ⟨e1,e2⟩:=R.ok.own hc
  have hfrs:=R.ok.frs
  rw [hc] at hfrs
  have back:∀ β' σ' s' b0z' frn',Z9 β' β' σ' b0z'→SameUp ((φ.env.locals,oL)::φ.outs) frn'→(∀ p∈b0z'.flatten++((cs++ex)++frn'),s'.heap.get? p.1=some p.2∧φ.G.h.get? p.1=none) →
    ((b0z'.flatten++((cs++ex)++frn')).map Prod.fst).Nodup→(∀ b o,φ.G.h.get? b=some o→s'.heap.get? b=some o)→s'.gens=φ.G.gens→s'.os=φ.G.os→β<+:β' →
    ∃ frn'',frn'.map Prod.fst=φ.env.locals::frn''.map Prod.fst∧Zi φ xs ex β' loc σ' b0z' cs frn'' m s':=by
   intro β' σ' s' b0z' frn' h1 h3 h4 h5 h6 h7 h8 hp
   cases frn' with
  |nil=>exact False.elim h3
  |cons q frn''=>
    obtain ⟨q1,⟨sl,q2⟩,q3⟩:=h3
    obtain ⟨qa,qo⟩:=q
    dsimp only at q1 q2
    subst q1;subst q2
    have hLat:=(h4 (φ.env.locals,{oL with slots:=sl}) (by simp)).1
    have hsub:∀ p∈b0z'.flatten++(cs++(ex++frn'')),p∈b0z'.flatten++((cs++ex)++(φ.env.locals,{oL with slots:=sl})::frn''):=fun p hp=>by
     simp only [List.mem_append,List.mem_cons] at hp ⊢;lia
    have hperm:((b0z'.flatten++((cs++ex)++(φ.env.locals,{oL with slots:=sl})::frn'')).map Prod.fst).Perm (φ.env.locals::(b0z'.flatten++(cs++(ex++frn''))).map Prod.fst):=by
     simp only [List.map_append,List.map_cons,← List.append_assoc]
     exact List.perm_middle
    have hnd:=hperm.nodup_iff.mp h5
    rw [List.nodup_cons] at hnd
    refine ⟨frn'',rfl,R.ok,h1,q3,⟨⟨_,es,ep,hLat,hLd,hLk,hLf⟩,h6,R.F.above⟩,fun p hp=>⟨(h4 p (hsub p hp)).1,fun q=>hnd.1 (by rw [← q];exact List.mem_map_of_mem hp),(h4 p (hsub p hp)).2⟩,hnd.2,R.cells,fun i x av a b=>?_,h7,h8⟩
    obtain ⟨v,z1,z2⟩:=R.loc i x av a b
    exact ⟨v,z1.mono hp,z2⟩
  refine ⟨(φ.env.locals,oL)::φ.outs,[],⟨b0z,(φ.env.locals,oL)::frn,R.real,⟨by rw [← e1,R.ok.kind];decide,by rw [← e1];exact e2,⟨es,ep,hLd⟩,hfrs⟩,⟨rfl,⟨oL.slots,rfl⟩,R.up⟩,fun p hp=>?_,?_,R.F.keep,Nat.le_of_lt (Nat.lt_of_le_of_lt R.F.above R.F.ns.lt),R.gens,R.os⟩,?_,?_⟩
  ·simp only [List.mem_append,List.mem_cons] at hp
   by_cases q:p=(φ.env.locals,oL)
   ·subst q;exact ⟨hL,WO R.F.above⟩
   ·have:p∈b0z.flatten++(cs++((lg++ex)++frn)):=by simp only [List.mem_append];grind
    exact ⟨(R₁.N p this).1,(R₁.N p this).2.2⟩
  ·have hperm:((b0z.flatten++((lg++([]++(cs++ex)))++(φ.env.locals,oL)::frn)).map Prod.fst).Perm (φ.env.locals::(b0z.flatten++(cs++((lg++ex)++frn))).map Prod.fst):=by
    refine List.perm_iff_count.mpr fun a=>?_
    simp only [List.map_append,List.map_cons,List.map_nil,List.count_append,List.count_cons,List.count_nil];simp +arith
   exact hperm.nodup_iff.mpr (List.nodup_cons.mpr ⟨hLn,R₁.nd⟩)
  ·rintro β' σ' s' ⟨b0z',frn',h1,h2,h3,h4,h5,h6,_,h7,h8⟩ hp
   obtain ⟨frn'',_,R'⟩:=back β' σ' s' b0z' frn' h1 h3 h4 h5 h6 h7 h8 hp
   exact ⟨_,_,_,_,R'⟩
  ·rintro β' σ' c e s' ⟨b0z',frn',h1,h2,h3,h4,h5,h6,_,h7,h8,X⟩ hp _
   obtain ⟨frn'',hm,R'⟩:=back β' σ' s' b0z' frn' h1 h3 h4 h5 h6 h7 h8 hp
   refine ⟨_,_,_,_,_,R',X.less fun b hb=>?_,.inr (.inl rfl)⟩
   simp only [List.map_append,List.mem_cons,List.mem_append,hm] at hb ⊢
   lia
|true=>
  have hfrs:=R.ok.frs
  rw [hc] at hfrs
  refine ⟨φ.outs,[(φ.env.locals,oL)],⟨b0z,frn,R.real,hfrs,R.up,fun p hp=>?_,?_,R.F.keep,Nat.le_of_lt (Nat.lt_of_le_of_lt R.F.above R.F.ns.lt),R.gens,R.os⟩,?_,fun β' σ' c e s' _ _ hc'=>by rw [hc] at hc';cases hc'⟩
  ·simp only [List.mem_append,List.mem_cons,List.cons_append,List.nil_append] at hp
   by_cases q:p=(φ.env.locals,oL)
   ·subst q;exact ⟨hL,WO R.F.above⟩
   ·have:p∈b0z.flatten++(cs++((lg++ex)++frn)):=by simp only [List.mem_append];grind
    exact ⟨(R₁.N p this).1,(R₁.N p this).2.2⟩
  ·have hperm:((b0z.flatten++((lg++([(φ.env.locals,oL)]++(cs++ex)))++frn)).map Prod.fst).Perm (φ.env.locals::(b0z.flatten++(cs++((lg++ex)++frn))).map Prod.fst):=by
    refine List.perm_iff_count.mpr fun a=>?_
    simp only [List.map_append,List.map_cons,List.map_nil,List.count_append,List.count_cons,List.count_nil];simp +arith
   exact hperm.nodup_iff.mpr (List.nodup_cons.mpr ⟨hLn,R₁.nd⟩)
  ·rintro β' σ' s' ⟨b0z',frn',h1,h2,h3,h4,h5,h6,_,h7,h8⟩ hp
   have hLat:=(h4 (φ.env.locals,oL) (by simp)).1
   have hsub:∀ p∈b0z'.flatten++(cs++(ex++frn')),p∈b0z'.flatten++(((φ.env.locals,oL)::(cs++ex))++frn'):=fun p hp=>by
    simp only [List.mem_append,List.mem_cons] at hp ⊢;grind
   have hperm:((b0z'.flatten++(((φ.env.locals,oL)::(cs++ex))++frn')).map Prod.fst).Perm (φ.env.locals::(b0z'.flatten++(cs++(ex++frn'))).map Prod.fst):=by
    simp only [List.map_append,List.map_cons,List.cons_append,List.append_assoc]
    exact List.perm_middle
   have hnd:=hperm.nodup_iff.mp h5
   rw [List.nodup_cons] at hnd
   refine ⟨b0z',cs,frn',m,R.ok,h1,h3,⟨⟨oL,es,ep,hLat,hLd,hLk,hLf⟩,h6,R.F.above⟩,fun p hp=>⟨(h4 p (hsub p hp)).1,fun q=>hnd.1 (by rw [← q];exact List.mem_map_of_mem hp),(h4 p (hsub p hp)).2⟩,hnd.2,R.cells,fun i x av a b=>?_,h7,h8⟩
   obtain ⟨v,z1,z2⟩:=R.loc i x av a b
   exact ⟨v,z1.mono hp,z2⟩
theorem Zi.call (R:Zi φ xs ex β loc σ b0z cs frn m s):∃ fr exc,CS φ.G (φ.fenv::φ.oenvs) fr exc β σ s ∧
  (∀ β' σ' s',CS φ.G (φ.fenv::φ.oenvs) fr exc β' σ' s'→β<+:β'→Rl φ xs ex β' loc σ' s') ∧
  (∀ β' σ' c e s',Uq φ.G (φ.fenv::φ.oenvs) fr exc β' σ' c e s'→β<+:β'→ZS φ xs ex β' loc σ' c e s'):=by
 obtain ⟨fr,pre,h⟩:=Zi.callL (lg:=[]) R (fun p hp=>nomatch hp)
 exact ⟨fr,_,h⟩
theorem Gj {n:Nat}{a:Addr}{args:List AV}{vs:List Value}{Q:Zq}{X:Zx}{A:Around}{Qc Ec:Value→Ws→Prop}
  (R:Rl φ xs ex β loc σ s) (hr:ZG n A) (hA:A.frames=φ.A.frames) (h:WF n a args σ Q X) (hv:Ze (VR β) vs args)
  (k:∀ v av σ' β' s',Q av σ'→β<+:β'→Rl φ xs ex β' loc σ' s'→VR β' v av→Qc v s')
  (kx:∀ c σ' β' e s',X c σ'→β<+:β'→ZS φ xs ex β' loc σ' c e s'→Ec (.ref e) s') :
  Zv (Zd φ.G) A (.call (.ref a) ⟨vs,[]⟩) (fun r s'=>match r with|.ok (.ret v)=>Qc v s'|.ok _=>False|.error e=>Ec e s') s:=by
 obtain ⟨b0z,cs,frn,m,R⟩:=R
 obtain ⟨fr,exc,C,bk,bx⟩:=R.call
 refine h φ.G A _ fr exc β s vs _ hr (hA.trans R.ok.hfr) C hv (fun v av σ' β' s' hq hp C' hv'=>?_) fun c σ' β' e s' hx hp C'=>?_
 ·exact k v av σ' β' s' hq hp (bk β' σ' s' C' hp) hv'
 ·exact kx c σ' β' e s' hx hp (bx β' σ' c e s' C' hp)
end
noncomputable def Zb8 (names:List (Str×NameKind))(xs:List Str):Bool:=xs.all fun x=>names.lookup x==some .local||names.lookup x==some .cell
noncomputable def Xy (qual:Str)(scope:Scope)(L a:Addr)(cd:Value):Env:=newEnv scope L mainGlobals (cellsFrom (L+1) scope.names []) (qual ++ ".<locals>.") (some a) cd none builtinsNs
theorem Nv (kd:Str→Option NameKind):∀ (binds:List (Str×Value)) (m:Str→Option Value) (x:Str) (v:Value),(binds.map Prod.fst).Nodup→(x,v)∈binds→kd x=some .local→bindL kd binds m x=some v
|[],_,_,_,_,h,_=>nomatch h
|(n,u)::r,m,x,v,hnd,h,hk=>by
  unfold bindL
  rw [List.map_cons,List.nodup_cons] at hnd
  have keep:∀ (r:List (Str×Value)) (m:Str→Option Value),x∉r.map Prod.fst→bindL kd r m x=m x:=by
   intro r
   induction r with
  |nil=>intro m _;rfl
  |cons p r ih=>
    obtain ⟨n',u'⟩:=p
    intro m hx
    unfold bindL
    rw [List.map_cons,List.mem_cons,not_or] at hx
    rw [ih _ hx.2]
    split
    ·simp [hx.1]
    ·rfl
  rcases List.mem_cons.mp h with e|h
  ·cases e
   rw [keep _ _ hnd.1,if_pos hk];simp
  ·exact Nv kd r _ x v hnd.2 h hk
theorem Nu (kd:Str→Option NameKind):∀ (binds:List (Str×Value)) (m:Str→Option Value) (x:Str) (v:Value),(binds.map Prod.fst).Nodup→(x,v)∈binds→kd x=some .cell→bindC kd binds m x=some v
|[],_,_,_,_,h,_=>nomatch h
|(n,u)::r,m,x,v,hnd,h,hk=>by
  unfold bindC
  rw [List.map_cons,List.nodup_cons] at hnd
  have keep:∀ (r:List (Str×Value)) (m:Str→Option Value),x∉r.map Prod.fst→bindC kd r m x=m x:=by
   intro r
   induction r with
  |nil=>intro m _;rfl
  |cons p r ih=>
    obtain ⟨n',u'⟩:=p
    intro m hx
    unfold bindC
    rw [List.map_cons,List.mem_cons,not_or] at hx
    rw [ih _ hx.2]
    split
    ·rfl
    ·simp [hx.1]
  rcases List.mem_cons.mp h with e|h
  ·cases e
   rw [keep _ _ hnd.1,if_neg (by rw [hk];decide)];simp
  ·exact Nu kd r _ x v hnd.2 h hk
theorem Sd {h:Heap}{cm:Str→Option Value}:∀ {cl:List (Str×Addr)},(∀ n c,(n,c)∈cl→h.IsCell c (cm n)) →
  ∃ cs:List (Addr×Obj),cs.map Prod.fst=cl.map Prod.snd∧(∀ p∈cs,h.get? p.1=some p.2∧∃ v,p.2.data=.cell v)∧∀ n c,(n,c)∈cl→∃ o,(c,o)∈cs∧o.data=.cell (cm n):=by
 intro cl
 induction cl with
|nil=>exact fun _=>⟨[],rfl,(fun _ h=>by cases h),(fun _ _ h=>by cases h)⟩
|cons nc r ih=>
  intro h
  obtain ⟨n,c⟩:=nc
  obtain ⟨cs,h1,h2,h3⟩:=ih fun n c hm=>h n c (List.mem_cons_of_mem _ hm)
  obtain ⟨o,ho,hd⟩:=h n c List.mem_cons_self
  refine ⟨(c,o)::cs,by simp [h1],fun p hp=>?_,fun n' c' hm=>?_⟩
  ·rcases List.mem_cons.mp hp with rfl|hp
   ·exact ⟨ho,_,hd⟩
   ·exact h2 p hp
  ·rcases List.mem_cons.mp hm with e|hm
   ·cases e;exact ⟨o,List.mem_cons_self,hd⟩
   ·obtain ⟨o',a,b⟩:=h3 n' c' hm
    exact ⟨o',List.mem_cons_of_mem _ a,b⟩
theorem ZG.deeper {n:Nat}{A:Around}{env:Env}(h:ZG (n+1) A):ZG n (A.deeper env)∧A.depth<recursionLimit:=by
 obtain ⟨a,b,c⟩:=h
 refine ⟨⟨fun _=>a (by simp),?_,?_⟩,?_⟩
 ·rw [depth_deeper];lia
 ·rw [units_deeper];lia
 ·unfold recursionLimit;grind
inductive MG (a:Addr)(ps:List Str)(body:List Stmt)(sc:List (Str×NameKind))(nargs:Nat)(ds:List Value):Prop
|mk (oc:Value) (od:Option Addr) (osl:Array (Option Value)) (name qual:Str) (params:Arguments) (scope:Scope) (dV kV doc pm:Value) (an:Option Addr) (cdv ct:Value)
  (k:∀ w:World,(KK w.params).lookup a=some ⟨oc,od,.func (fnOf name qual params body scope dV kV doc pm an cdv ct),osl⟩)
  (c:∀ w:World,codeIn (KK w.params) cdv qual=true) (n:scope.names=sc) (f:scope.kind=.function) (r:scope.isCoroutine=false) (g:scope.isGenerator=false)
  (b:∀ (w:World) (s:Ws) vs,(KK w.params).In s.heap→vs.length=nargs→BindsTo s (fnOf name qual params body scope dV kV doc pm an cdv ct) ⟨vs,[]⟩ (ps.zip (vs++ds))):MG a ps body sc nargs ds
structure ZB (a:Addr)(ps:List Str)(body:List Stmt)(sc:List (Str×NameKind))(nargs:Nat)(ds:List Value):Prop where
 ex:MG a ps body sc nargs ds
 len:ps.length=nargs+ds.length
 nd:ps.Nodup
 kinds:Zb8 sc ps=true
 cells:(sc.map Prod.fst).Nodup
theorem JR:∀ (names:List (Str×NameKind)) (n:Nat) (acc:List (Str×Addr)) (x:Str),(x∈(cellsFrom n names acc).map Prod.fst↔(x,NameKind.cell)∈names∨x∈acc.map Prod.fst):=by
 intro names
 induction names with
|nil=>exact fun n acc x=>⟨.inr,fun h=>h.elim (fun h=>nomatch h) id⟩
|cons z r ih=>
  obtain ⟨y,k⟩:=z
  intro n acc x
  show x∈(if (k==.cell)=true then cellsFrom (n+1) r ((y,n)::acc) else cellsFrom n r acc).map Prod.fst↔_
  by_cases hk:k=.cell
  ·subst hk
   rw [if_pos (by rfl),ih,List.map_cons,List.mem_cons,List.mem_cons,Prod.mk.injEq]
   exact ⟨fun h=>h.elim (fun h=>.inl (.inr h)) fun h=>h.elim (fun h=>.inl (.inl ⟨h,rfl⟩)) .inr,fun h=>h.elim (fun h=>h.elim (fun h=>.inr (.inl h.1)) .inl) fun h=>.inr (.inr h)⟩
  ·rw [if_neg (fun h=>hk (eq_of_beq h)),ih,List.mem_cons,Prod.mk.injEq]
   exact ⟨fun h=>h.elim (fun h=>.inl (.inr h)) .inr,fun h=>h.elim (fun h=>h.elim (fun h=>absurd h.2.symm hk) .inl) .inr⟩
theorem NG:∀ (names:List (Str×NameKind)) (n:Nat) (acc:List (Str×Addr)),(names.map Prod.fst).Nodup→(acc.map Prod.fst).Nodup→(∀ x∈acc.map Prod.fst,x∉names.map Prod.fst)→((cellsFrom n names acc).map Prod.fst).Nodup:=by
 intro names
 induction names with
|nil=>exact fun n acc _ h _=>h
|cons z r ih=>
  obtain ⟨y,k⟩:=z
  intro n acc h1 h2 h3
  rw [List.map_cons,List.nodup_cons] at h1
  show ((if (k==.cell)=true then cellsFrom (n+1) r ((y,n)::acc) else cellsFrom n r acc).map Prod.fst).Nodup
  have h4:∀ x∈acc.map Prod.fst,x∉r.map Prod.fst:=fun x hx hm=>h3 x hx (List.mem_cons_of_mem _ hm)
  split
  ·refine ih _ _ h1.2 ?_ fun x hx=>?_
   ·rw [List.map_cons,List.nodup_cons]
    exact ⟨fun hm=>h3 _ hm List.mem_cons_self,h2⟩
   ·rcases List.mem_cons.mp hx with rfl|hx
    ·exact h1.1
    ·exact h4 x hx
  ·exact ih _ _ h1.2 h2 h4
theorem Vq {α:Type}:∀ {l:List (Str×α)} {n:Str} {c:α},(l.map Prod.fst).Nodup→(n,c)∈l→l.lookup n=some c:=by
 intro l
 induction l with
|nil=>intro n c _ h;cases h
|cons kv r ih=>
  intro n c hnd h
  obtain ⟨k,v⟩:=kv
  rw [List.map_cons,List.nodup_cons] at hnd
  rw [List.lookup_cons]
  rcases List.mem_cons.mp h with e|h
  ·cases e;simp
  ·have hne:(n==k)=false:=by
    rw [beq_eq_false_iff_ne]
    intro q
    exact hnd.1 (List.mem_map.mpr ⟨(n,c),h,q⟩)
   rw [hne]
   exact ih hnd.2 h
theorem WF.of_body {n:Nat}{a:Addr}{args dargs:List AV}{ps rest:List Str}{body:List Stmt}{sc:List (Str×NameKind)}{ds:List Value}{σ:List Za}{Q:Zq}{X:Zx}
  (H:ZB a ps body sc args.length ds) (hd:Ze (VR []) ds dargs)
  (hb:WB n ⟨ps++rest,sc⟩ body ((args++dargs).map some) σ (fun fl _ σ'=>Q (match fl with|.ret v=>v|.next=>.none) σ') (fun c _ σ'=>X c σ')):WF (n+1) a args σ Q X:=by
 intro G A envs fr ex β s vs R hr hA hC hv k kx
 obtain ⟨oc,od,osl,name,qual,params,scope,dV,kV,doc,pm,an,cdv,ct,hK,hcd,hsc,hk,hco,hgen,hbind⟩:=H.ex
 obtain ⟨hr',hroom⟩:=hr.deeper (env:=Xy qual scope s.heap.objs.size a cdv)
 obtain ⟨b0z,frn,c1,c2,c3,c4,c5,c6,c7,c8,c9⟩:=hC
 have X₀:(KK G.w.params).In s.heap:=G.X.keeps c6
 have hds:Ze (VR β) (vs++ds) (args++dargs):=hv.append (VR.monoL (List.nil_prefix) hd)
 have hlen:ps.length=(vs++ds).length:=by rw [H.len,List.length_append,hv.length]
 have hzf:(ps.zip (vs++ds)).map Prod.fst=ps:=by rw [List.map_fst_zip];omega
 have hnd:((ps.zip (vs++ds)).map Prod.fst).Nodup:=by rw [hzf];exact H.nd
 have hkd:∀ x∈ps,sc.lookup x=some .local∨sc.lookup x=some .cell:=fun x hx=>by
  have:=List.all_eq_true.mp H.kinds x hx
  simpa using this
 refine Zbd hroom (X₀ _ _ (hK G.w)) rfl hco hgen rfl (codeRec_of X₀ (hcd G.w)) (hbind G.w s vs X₀ (by rw [hv.length]) _ _ _ _ ?_)
 refine wpAny_newFunctionEnv_cells hk (fun x hx=>?_) fun env he s' x=>?_
 ·have hx':x.1∈ps:=by rw [← hzf];exact List.mem_map_of_mem hx
  rw [hsc]
  rcases hkd _ hx' with q|q
  ·exact .inl q
  ·refine .inr ⟨q,?_⟩
   have:=(JR sc (s.heap.objs.size+1) [] x.1).mpr (.inl (mem_of_lookup q))
   obtain ⟨p,hp,e⟩:=List.mem_map.mp this
   have:=Vq (NG sc (s.heap.objs.size+1) [] H.cells (by simp) (by simp)) (n:=x.1) (c:=p.2) (by rw [← e];exact hp)
   rw [this];rfl
 have he':env=Xy qual scope s.heap.objs.size a cdv:=he
 clear he
 subst he'
 refine ⟨(G.lim.keeps c6).keeps x.toInCall.keep,Zbo ?_⟩
 obtain ⟨h₁,tk,rfl,hk₁⟩:=x.done
 have hcnd:((Xy qual scope s.heap.objs.size a cdv).cells.map Prod.fst).Nodup:=by
  show ((cellsFrom (s.heap.objs.size+1) scope.names []).map Prod.fst).Nodup
  rw [hsc]
  exact NG sc _ [] H.cells (by simp) (by simp)
 obtain ⟨cs,d1,d2,d3⟩:=Sd (h:=h₁) (cl:=(Xy qual scope s.heap.objs.size a cdv).cells) fun n c hm=>x.cell n c (Vq hcnd hm)
 let φ:Fx:=⟨G,A.deeper (Xy qual scope s.heap.objs.size a cdv),Xy qual scope s.heap.objs.size a cdv,Xy qual scope s.heap.objs.size a cdv,envs,fr,(Xy qual scope s.heap.objs.size a cdv).cells.map Prod.snd,false⟩
 have hclo:∀ x,φ.env.kindOf x=some .cell→(φ.env.cells.lookup x).isSome=true:=fun y hy=>by
  have hy':sc.lookup y=some .cell:=by rw [← hsc];exact hy
  have:=(JR sc (s.heap.objs.size+1) [] y).mpr (.inl (mem_of_lookup hy'))
  obtain ⟨p,hp,e⟩:=List.mem_map.mp this
  have hl:=Vq hcnd (n:=y) (c:=p.2) (by show _∈cellsFrom (s.heap.objs.size+1) scope.names [];rw [hsc,← e];exact hp)
  show ((Xy qual scope s.heap.objs.size a cdv).cells.lookup y).isSome=true
  rw [hl];rfl
 have hOk:φ.Ok:=⟨Around.frames_deeper hA,hk,hk,rfl,rfl,c2,fun _=>⟨rfl,rfl⟩,fun _=>⟨rfl,hclo⟩,hclo⟩
 have habove:∀ p∈cs,s.heap.objs.size<p.1:=fun p hp=>by
  have:p.1∈(Xy qual scope s.heap.objs.size a cdv).cells.map Prod.snd:=by rw [← d1];exact List.mem_map_of_mem hp
  obtain ⟨q,hq,e⟩:=List.mem_map.mp this
  rw [← e]
  exact x.above q.1 q.2 hq
 have hRl:Rl φ (ps++rest) ex β ((args++dargs).map some) σ {s with heap:=h₁,toks:=tk}:=by
  refine ⟨b0z,cs,frn,_,hOk,c1,c3,⟨x.toInCall.ns,fun b o e=>hk₁ b o (c6 b o e),c7⟩,fun p hp=>?_,?_,⟨d1,fun p hp=>(d2 p hp).2⟩,fun i y av h1 h2=>?_,c8,c9⟩
  ·simp only [List.mem_append] at hp
   by_cases hpc:p∈cs
   ·refine ⟨(d2 p hpc).1,Nat.ne_of_gt (habove p hpc),WO (Nat.le_of_lt (Nat.lt_of_le_of_lt c7 (habove p hpc)))⟩
   ·have hin:p∈b0z.flatten++(ex++frn):=List.mem_append.mpr (hp.imp_right fun h=>List.mem_append.mpr (h.resolve_left hpc))
    exact ⟨hk₁ _ _ (c4 p hin).1,Nat.ne_of_lt (Heap.lt_size (c4 p hin).1),(c4 p hin).2⟩
  ·have hcsnd:(cs.map Prod.fst).Nodup:=by
    rw [d1]
    have:=x.apart
    rw [List.Nodup,List.pairwise_map]
    exact this
   have hdis:∀ p∈cs,∀ q∈b0z.flatten++(ex++frn),p.1≠q.1:=fun p hp q hq e=>by
    have h1:=habove p hp
    have h2:=Heap.lt_size (c4 q hq).1
    exact absurd h2 (by rw [← e];exact Nat.not_lt.mpr (Nat.le_of_lt h1))
   have hperm:((b0z.flatten++(cs++(ex++frn))).map Prod.fst).Perm (cs.map Prod.fst++(b0z.flatten++(ex++frn)).map Prod.fst):=by
    simp only [List.map_append]
    exact List.perm_append_comm_assoc _ _ _
   refine hperm.nodup_iff.mpr (List.nodup_append.mpr ⟨hcsnd,c5,?_⟩)
   intro u hu v hv e
   obtain ⟨p,hp,rfl⟩:=List.mem_map.mp hu
   obtain ⟨q,hq,rfl⟩:=List.mem_map.mp hv
   exact hdis p hp q hq e
  ·have hi:i<((args++dargs).map some).length:=(List.getElem?_eq_some_iff.mp h2).1
   rw [List.getElem?_map] at h2
   obtain ⟨av',h2',e⟩:=Option.map_eq_some_iff.mp h2
   cases e
   obtain ⟨v,hv1,hv2⟩:=hds.get h2'
   have hi':i<ps.length:=by rw [hlen,hds.length];simpa using hi
   rw [List.getElem?_append_left hi'] at h1
   have hmem:(y,v)∈ps.zip (vs++ds):=by
    refine List.mem_iff_getElem?.mpr ⟨i,?_⟩
    rw [List.getElem?_zip_eq_some]
    exact ⟨h1,hv1⟩
   refine ⟨v,hv2,?_⟩
   have hyp:y∈ps:=List.mem_iff_getElem?.mpr ⟨i,h1⟩
   have hkk:(Xy qual scope s.heap.objs.size a cdv).kindOf=fun y=>sc.lookup y:=by
    funext y
    show scope.names.lookup y=_
    rw [hsc]
   rcases hkd y hyp with q|q
   ·exact .inl ⟨by show scope.names.lookup y=_;rw [hsc];exact q,Nv _ _ _ _ _ hnd hmem (by rw [hkk];exact q)⟩
   ·refine .inr ⟨.inl (by show scope.names.lookup y=_;rw [hsc];exact q),?_⟩
    have hcm:=Nu (Xy qual scope s.heap.objs.size a cdv).kindOf (ps.zip (vs++ds)) (fun _=>none) y v hnd hmem (by rw [hkk];exact q)
    have:=(JR sc (s.heap.objs.size+1) [] y).mpr (.inl (mem_of_lookup q))
    obtain ⟨p,hp,e⟩:=List.mem_map.mp this
    have hpin:(y,p.2)∈(Xy qual scope s.heap.objs.size a cdv).cells:=by
     show _∈cellsFrom (s.heap.objs.size+1) scope.names []
     rw [hsc,← e];exact hp
    obtain ⟨o,ho1,ho2⟩:=d3 y p.2 hpin
    exact ⟨p.2,o,Vq hcnd hpin,by simp [ho1],by rw [ho2,hcm]⟩
 refine hb φ ex β _ _ _ hr' (by show scope.names=sc;exact hsc) rfl hRl (fun f af loc' σ' β' s' hq hp hR hf=>?_) fun c loc' σ' β' e s' hx hp hR=>?_
 ·obtain ⟨b0z',cs',frn',m',R'⟩:=hR
  have hCS:=R'.toCS rfl
  cases f with
 |ret v=>cases af with
  |ret av=>exact k v av σ' β' s' hq hp hCS hf
  |next=>exact False.elim hf
 |next=>cases af with
  |ret av=>exact False.elim hf
  |next=>exact k .none .none σ' β' s' hq hp hCS rfl
 |brk=>cases af<;>exact False.elim hf
 |cont=>cases af<;>exact False.elim hf
 ·exact hR.leave rfl fun h' hE=>kx c σ' β' e _ hx hp hE
theorem Qu {D:Addr}{o o':Obj}:∀ {pre post:List (Addr×Obj)},((pre++(D,o)::post).map Prod.fst).Nodup→Upd D o o' (pre++(D,o)::post) (pre++(D,o')::post)
|[],post,h=>by
  rw [List.nil_append,List.map_cons,List.nodup_cons] at h
  exact .head fun p hp e=>h.1 (List.mem_map.mpr ⟨p,hp,e⟩)
|q::pre,post,h=>by
  rw [List.cons_append,List.map_cons,List.nodup_cons] at h
  exact .tail (fun e=>h.1 (by rw [e];simp)) (Qu h.2)
section
variable {φ:Fx}{xs:List Str}{ex:List (Addr×Obj)}{β:List Addr}{loc:Zc}{σ:List Za}{b0z:List ZH}{cs frn:List (Addr×Obj)}{m:Str→Option Value}{s:Ws}
noncomputable abbrev Xl (b0z:List ZH)(cs ex frn:List (Addr×Obj)):List (Addr×Obj):=b0z.flatten++(cs++(ex++frn))
noncomputable def Bk (φ:Fx)(xs:List Str)(ex:List (Addr×Obj))(β:List Addr)(loc:Zc)(σ:List Za)(m:Str→Option Value)(s:Ws)(news':List (Addr×Obj)):Prop:=
 ∀ h' tk,Fr φ.G.h φ.env.locals h' m→News φ.G.h φ.env.locals h' news'→Rl φ xs ex β loc σ {s with heap:=h',toks:=tk}
inductive Ni (φ:Fx)(xs:List Str)(ex:List (Addr×Obj))(β:List Addr)(loc:Zc)(σ:List Za)(m:Str→Option Value)(s:Ws)(led:List (Addr×Obj))(i:Nat)(o:Za):Prop
|mk (a:Addr) (blk:ZH) (e:β[i]?=some a) (r:Y3 β a o blk) (hm:∀ p∈blk,p∈led)
   (k:∀ b1 b2 D ob ob' o',blk=b1++(D,ob)::b2→Y3 β a o' (b1++(D,ob')::b2)→∃ news',Upd D ob ob' led news'∧Bk φ xs ex β loc (σ.set i o') m s news'):Ni φ xs ex β loc σ m s led i o
theorem Zi.at (R:Zi φ xs ex β loc σ b0z cs frn m s){i:Nat}{o:Za}(hi:σ[i]?=some o):Ni φ xs ex β loc σ m s (Xl b0z cs ex frn) i o:=by
 obtain ⟨a,blk,pre,post,e1,e2,e3,k⟩:=R.real.at hi
 refine ⟨a,blk,e1,e2,fun p hp=>by simp only [Xl,e3,List.mem_append];lia,fun b1 b2 D ob ob' o' eb hr=>?_⟩
 obtain ⟨bs',r1,r2⟩:=k o' _ hr
 subst eb
 have en:Xl b0z cs ex frn=(pre++b1)++(D,ob)::(b2++(post++(cs++(ex++frn)))):=by simp [Xl,e3]
 have hnd:=R.nd
 rw [show b0z.flatten++(cs++(ex++frn))=Xl b0z cs ex frn from rfl,en] at hnd
 refine ⟨(pre++b1)++(D,ob')::(b2++(post++(cs++(ex++frn)))),by rw [en];exact Qu hnd,fun h' tk F' N'=>⟨bs',cs,frn,m,R.ok,r1,R.up,F',?_,?_,R.cells,R.loc,R.gens,R.os⟩⟩
 ·have e:bs'.flatten++(cs++(ex++frn))=(pre++b1)++(D,ob')::(b2++(post++(cs++(ex++frn)))):=by simp [r2]
  rw [e];exact N'
 ·have e:bs'.flatten++(cs++(ex++frn))=(pre++b1)++(D,ob')::(b2++(post++(cs++(ex++frn)))):=by simp [r2]
  rw [e]
  simp only [List.map_append,List.map_cons] at hnd ⊢
  exact hnd
inductive Nh (φ:Fx)(xs:List Str)(ex:List (Addr×Obj))(β:List Addr)(loc:Zc)(σ:List Za)(m:Str→Option Value)(s:Ws)(led:List (Addr×Obj))(i:Nat)(ls:List AV):Prop
|mk (a:Addr) (vs:List Value) (n:Nat) (e:β[i]?=some a) (r:Ze (VR β) vs ls) (hm:(a,listOf vs.toArray n)∈led) (l:s.heap.IsList a vs.toArray)
   (k:∀ vs' n' ls',Ze (VR β) vs' ls'→∃ news',Upd a (listOf vs.toArray n) (listOf vs'.toArray n') led news'∧Bk φ xs ex β loc (σ.set i (.list ls')) m s news'):Nh φ xs ex β loc σ m s led i ls
theorem Zi.listUp (R:Zi φ xs ex β loc σ b0z cs frn m s){i:Nat}{ls:List AV}(hi:σ[i]?=some (.list ls)):Nh φ xs ex β loc σ m s (Xl b0z cs ex frn) i ls:=by
 obtain ⟨a,blk,e1,⟨vs,n,rfl,r⟩,e3,k⟩:=R.at hi
 have hm:=e3 _ List.mem_cons_self
 exact ⟨a,vs,n,e1,r,hm,⟨_,(R.N _ hm).1,rfl,n,rfl⟩,fun vs' n' ls' r'=>k [] [] a _ _ (.list ls') rfl ⟨vs',n',rfl,r'⟩⟩
inductive Ng (β:List Addr)(h:Heap)(led:List (Addr×Obj))(i:Nat)(ls:List AV):Prop
|mk (a:Addr) (vs:List Value) (n:Nat) (e:β[i]?=some a) (r:Ze (VR β) vs ls) (hm:(a,listOf vs.toArray n)∈led) (l:h.IsList a vs.toArray):Ng β h led i ls
theorem Zi.listAt (R:Zi φ xs ex β loc σ b0z cs frn m s){i:Nat}{ls:List AV}(hi:σ[i]?=some (.list ls)):Ng β s.heap (Xl b0z cs ex frn) i ls:=by
 obtain ⟨a,vs,n,e,r,hm,l,_⟩:=R.listUp hi
 exact ⟨a,vs,n,e,r,hm,l⟩
inductive Nm (β:List Addr)(h:Heap)(led:List (Addr×Obj))(i:Nat)(ls:List AV):Prop
|mk (a:Addr) (vs:List Value) (n:Nat) (e:β[i]?=some a) (r:Ze (VR β) vs ls) (hm:(a,seqObj "tuple" vs.toArray n)∈led) (l:h.IsTuple a vs.toArray):Nm β h led i ls
theorem Zi.tupAt (R:Zi φ xs ex β loc σ b0z cs frn m s){i:Nat}{ls:List AV}(hi:σ[i]?=some (.tup ls)):Nm β s.heap (Xl b0z cs ex frn) i ls:=by
 obtain ⟨a,blk,e1,⟨vs,n,rfl,r⟩,e3,k⟩:=R.at hi
 have hm:=e3 _ List.mem_cons_self
 exact ⟨a,vs,n,e1,r,hm,⟨_,(R.N _ hm).1,rfl,n,rfl⟩⟩
theorem VR.objAt {i:Nat}{a:Addr}{v:Value}(h:VR β v (.obj i))(e:β[i]?=some a):v=.ref a:=by
 obtain ⟨a',e',rfl⟩:=h
 rw [e] at e';cases e';rfl
noncomputable abbrev Zz (φ:Fx)(xs:List Str)(ex:List (Addr×Obj))(β:List Addr)(loc:Zc)(Q:Zq)(Qc:Value→Ws→Prop):Prop:=
 ∀ v av σ' β' s',Q av σ'→β<+:β'→Rl φ xs ex β' loc σ' s'→VR β' v av→Qc v s'
theorem Zd2 {vs:List Value}{avs:List AV}{Q:Zq}{Qc Ec:Value→Ws→Prop}(R:Rl φ xs ex β loc σ s)(hv:Ze (VR β) vs avs)(hz:avs.length≤sizeLine)
  (hq:Q (.obj σ.length) (σ++[.tup avs])) (k:Zz φ xs ex β loc Q Qc):wpAny (Zd φ.G) φ.A (newTuple vs) Qc Ec s:=by
 obtain ⟨b0z,cs,frn,m,R⟩:=R
 refine kup_newTuple R.F R.N (fun D h' F' N' hlt=>?_) (by rw [hv.length];exact hz)
 have hp:β<+:β++[D]:=List.prefix_append _ _
 refine k _ _ _ (β++[D]) _ hq hp (R.alloc1 (tk:=s.toks) F' N' ⟨vs,0,rfl,VR.monoL hp hv⟩ hlt) ⟨D,?_,rfl⟩
 rw [← R.real.len.1];simp
theorem GN {vs:List Value}{avs:List AV}{Q:Zq}{Qc Ec:Value→Ws→Prop}(R:Rl φ xs ex β loc σ s)(hv:Ze (VR β) vs avs)(hz:avs.length≤sizeLine)
  (hq:Q (.obj σ.length) (σ++[.list avs])) (k:Zz φ xs ex β loc Q Qc):wpAny (Zd φ.G) φ.A (newList vs) Qc Ec s:=by
 obtain ⟨b0z,cs,frn,m,R⟩:=R
 refine newList_N R.F R.N (fun h' F' N'=>?_) (by rw [hv.length];exact hz)
 have hp:β<+:β++[s.heap.objs.size]:=List.prefix_append _ _
 refine k _ _ _ (β++[s.heap.objs.size]) _ hq hp (R.alloc1 (tk:=s.toks) F' N' ⟨vs,0,rfl,VR.monoL hp hv⟩ R.lt) ⟨_,?_,rfl⟩
 rw [← R.real.len.1];simp
end
inductive Yj where
|add|sub|mul|fdiv|mod|pow|shl|shr|band|bor
 deriving DecidableEq
noncomputable abbrev Yj.op:Yj→Operator
|.add=>.Add|.sub=>.Sub|.mul=>.Mult|.fdiv=>.FloorDiv|.mod=>.Mod|.pow=>.Pow|.shl=>.LShift|.shr=>.RShift|.band=>.BitAnd|.bor=>.BitOr
noncomputable abbrev intBits:=Builtin.Int.intBits
noncomputable def W3 (op:Yj)(i j:Int)(Q:Int→Prop):Prop:=match op with
|.add=>Q (i+j)|.sub=>Q (i-j)|.mul=>IntMulOk i j∧Q (i*j)
|.fdiv=>j≠0∧Builtin.divisionGoesByPylong i j=false∧Q (i.fdiv j)|.mod=>j≠0∧Q (i.fmod j)
|.pow=>0≤j∧(intBits i:Int)*j≤2^27∧Q (i^j.toNat)
|.shl=>0≤j∧(intBits i:Int)+j≤2^27∧Q (i*2^j.toNat)
|.shr=>0≤j∧Q (i.fdiv (2^j.toNat))
|.band=>Q (Builtin.bitAnd i j)|.bor=>Q (Builtin.bitOr i j)
noncomputable def Wi (op:Yj)(a b:AV)(σ:List Za)(Q:Zq):Prop:=match a,b with
|.int i,.int j=>W3 op i j fun k=>Q (.int k) σ
|.str x,.str y=>op=.add∧x.length+y.length≤sizeLine∧Q (.str (x++y)) σ
|.bytes x,.bytes y=>op=.add∧x.length+y.length≤16777216∧Q (.bytes (x++y)) σ
|.obj x,.obj y=>op=.add∧∃ ls ms,σ[x]?=some (.list ls)∧σ[y]?=some (.list ms)∧ls.length+ms.length≤1000000∧Q (.obj σ.length) (σ++[.list (ls++ms)])
|.obj x,.int n=>op=.mul∧∃ ls,σ[x]?=some (.list ls)∧n<2^63∧-(2^63:Int)≤n∧ls.length*n.toNat≤256∧Q (.obj σ.length) (σ++[.list ((List.replicate n.toNat ls).flatten)])
|_,_=>False
theorem UJ {β:List Addr}{vs:List Value}{ns:List Int}(h:Ze (VR β) vs (ns.map .int)):IntsAre vs ns:=by
 induction ns generalizing vs with
|nil=>cases h;exact .nil
|cons n ns ih=>
  rw [List.map_cons] at h
  cases h with
 |cons r h=>obtain ⟨t,rfl⟩:=r;exact .cons n t (ih h)
theorem Qj (x y:List Nat):(⟨x.toArray⟩++⟨y.toArray⟩:Str)=⟨(x++y).toArray⟩:=Str.ext' (by rw [Str.cps_append];simp)
theorem WJ (x:List Nat):(⟨x.toArray⟩:Str).length=x.length:=by simp [Str.length]
theorem Ze.rep {α β:Type}{R:α→β→Prop}{as:List α}{bs:List β}(h:Ze R as bs):∀ n,Ze R (List.replicate n as).flatten (List.replicate n bs).flatten
|0=>.nil
|n+1=>by simpa [List.replicate_succ] using h.append (h.rep n)
section
variable {φ:Fx}{xs:List Str}{ex:List (Addr×Obj)}{β:List Addr}{loc:Zc}{σ:List Za}{s:Ws}{Q:Zq}{Qc Ec:Value→Ws→Prop}
theorem Zz.tok (k:Zz φ xs ex β loc Q Qc)(R:Rl φ xs ex β loc σ s){v:Value}{av:AV}(hq:Q av σ)(hv:VR β v av)(tk:Nat):Qc v {s with toks:=tk}:=
 k v av σ β _ hq (List.prefix_refl _) (R.tok tk) hv
theorem Zz.here (k:Zz φ xs ex β loc Q Qc)(R:Rl φ xs ex β loc σ s){v:Value}{av:AV}(hq:Q av σ)(hv:VR β v av):Qc v s:=
 k v av σ β _ hq (List.prefix_refl _) R hv
theorem Zz.int (k:Zz φ xs ex β loc Q Qc)(R:Rl φ xs ex β loc σ s){i:Int}(hq:Q (.int i) σ)(t:Tok)(tk:Nat):Qc (.int i t) {s with toks:=tk}:=k.tok R hq ⟨t,rfl⟩ tk
theorem Zz.str (k:Zz φ xs ex β loc Q Qc)(R:Rl φ xs ex β loc σ s){l:List Nat}(hq:Q (.str l) σ)(t:Tok)(tk:Nat):Qc (.str ⟨l.toArray⟩ t) {s with toks:=tk}:=k.tok R hq ⟨t,rfl⟩ tk
theorem Zz.bool (k:Zz φ xs ex β loc Q Qc)(R:Rl φ xs ex β loc σ s){b:Bool}(hq:Q (.bool b) σ):Qc (.bool b) s:=k.here R hq rfl
theorem Zek {op:Yj}{i j:Int}{t u:Tok}(R:Rl φ xs ex β loc σ s)(h:W3 op i j fun k=>Q (.int k) σ)(k:Zz φ xs ex β loc Q Qc):wpAny (Zd φ.G) φ.A (binaryOp op.op (.int i t) (.int j u)) Qc Ec s:=by
 cases op with
|add=>change Q _ _ at h;have q:=k.int R h s.toks (s.toks+1);with_reducible exact P.add_int q
|sub=>change Q _ _ at h;have q:=k.int R h s.toks (s.toks+1);with_reducible exact P.sub_int q
|mul=>change _∧Q _ _ at h;have q:=k.int R h.2 s.toks (s.toks+1);have h1:=h.1;with_reducible exact P.mul_int q h1
|fdiv=>change _∧_∧Q _ _ at h;have q:=k.int R h.2.2 s.toks (s.toks+1);have h1:=h.1;have h2:=h.2.1;with_reducible exact floordiv_int h1 q (.inl h2)
|mod=>change _∧Q _ _ at h;have q:=k.int R h.2 s.toks (s.toks+1);have h1:=h.1;with_reducible exact mod_int' h1 q
|pow=>change _∧_∧Q _ _ at h;have q:=k.int R h.2.2 s.toks (s.toks+1);have h1:=h.1;have h2:=h.2.1;with_reducible exact pow_int h1 h2 q
|shl=>change _∧_∧Q _ _ at h;have q:=k.int R h.2.2 s.toks (s.toks+1);have h1:=h.1;have h2:=h.2.1;with_reducible exact lshift_int h1 h2 q
|shr=>change _∧Q _ _ at h;have q:=k.int R h.2 s.toks (s.toks+1);have h1:=h.1;with_reducible exact rshift_int h1 q
|band=>change Q _ _ at h;have q:=k.int R h s.toks (s.toks+1);with_reducible exact and_int q
|bor=>change Q _ _ at h;have q:=k.int R h s.toks (s.toks+1);with_reducible exact or_int q
theorem ZbY {op:Yj}{i j:Int}{t u:Tok}(R:Rl φ xs ex β loc σ s)(h:W3 op i j fun k=>Q (.int k) σ)(k:Zz φ xs ex β loc Q Qc):wpAny (Zd φ.G) φ.A (inplaceOp op.op (.int i t) (.int j u)) Qc Ec s:=by
 cases op with
|add=>change Q _ _ at h;have q:=k.int R h s.toks (s.toks+1);with_reducible exact P.iadd_int q
|sub=>change Q _ _ at h;have q:=k.int R h s.toks (s.toks+1);with_reducible exact P.isub_int q
|mul=>change _∧Q _ _ at h;have q:=k.int R h.2 s.toks (s.toks+1);have h1:=h.1;with_reducible exact P.imul_int q h1
|fdiv=>change _∧_∧Q _ _ at h;have q:=k.int R h.2.2 s.toks (s.toks+1);have h1:=h.1;have h2:=h.2.1;with_reducible exact ifloordiv_int h1 q (.inl h2)
|mod=>change _∧Q _ _ at h;have q:=k.int R h.2 s.toks (s.toks+1);have h1:=h.1;with_reducible exact imod_int h1 q
|pow=>change _∧_∧Q _ _ at h;have q:=k.int R h.2.2 s.toks (s.toks+1);have h1:=h.1;have h2:=h.2.1;with_reducible exact ipow_int h1 h2 q
|shl=>change _∧_∧Q _ _ at h;have q:=k.int R h.2.2 s.toks (s.toks+1);have h1:=h.1;have h2:=h.2.1;with_reducible exact ilshift_int h1 h2 q
|shr=>change _∧Q _ _ at h;have q:=k.int R h.2 s.toks (s.toks+1);have h1:=h.1;with_reducible exact irshift_int h1 q
|band=>change Q _ _ at h;have q:=k.int R h s.toks (s.toks+1);with_reducible exact iand_int q
|bor=>change Q _ _ at h;have q:=k.int R h s.toks (s.toks+1);with_reducible exact ior_int q
theorem Zej {op:Yj}{a b:AV}{v w:Value}(R:Rl φ xs ex β loc σ s)(hv:VR β v a)(hw:VR β w b)(h:Wi op a b σ Q)(k:Zz φ xs ex β loc Q Qc):wpAny (Zd φ.G) φ.A (binaryOp op.op v w) Qc Ec s:=by
 cases a with
|int i=>cases b with
 |int j=>
   obtain ⟨t,rfl⟩:=hv
   obtain ⟨u,rfl⟩:=hw
   exact Zek R h k
 |_=>exact False.elim h
|str _=>cases b with
 |str _=>
   obtain ⟨t,rfl⟩:=hv
   obtain ⟨u,rfl⟩:=hw
   obtain ⟨rfl,h1,h2⟩:=h
   have q:=fun t' tk=>k.str R h2 t' tk
   with_reducible refine SB.add (fun t' tk=>?_) (by rw [WJ,WJ];exact h1)
   rw [Qj];exact q t' tk
 |_=>exact False.elim h
|bytes _=>cases b with
 |bytes _=>
   obtain ⟨t,rfl⟩:=hv
   obtain ⟨u,rfl⟩:=hw
   obtain ⟨rfl,h1,h2⟩:=h
   have q:=fun t' tk=>k.tok R h2 (v:=.bytes _ t') ⟨t',rfl⟩ tk
   with_reducible exact bytes_add_K (by simpa using h1) rfl q
 |_=>exact False.elim h
|obj x=>cases b with
 |obj y=>
   obtain ⟨rfl,ls,ms,h1,h2,h3,h4⟩:=h
   obtain ⟨b0z,cs,frn,m,R⟩:=R
   obtain ⟨A,vs,_,e1,r1,_,l1⟩:=R.listAt h1
   obtain ⟨B,us,_,e2,r2,_,l2⟩:=R.listAt h2
   rw [hv.objAt e1,hw.objAt e2]
   with_reducible refine kmk_add_lit R.F R.N l1 l2 rfl (fun D h' F' N' hlt=>?_) (show vs.length+us.length≤sizeLine from by
    have a1:=r1.length
    have a2:=r2.length
    have:sizeLine=2^24:=rfl
    omega)
   have hp:β<+:β++[D]:=List.prefix_append _ _
   refine k _ _ _ (β++[D]) _ h4 hp (R.alloc1 (tk:=s.toks) F' N' ⟨_,0,rfl,?_⟩ hlt) ⟨D,?_,rfl⟩
   ·exact (VR.monoL hp r1).append (VR.monoL hp r2)
   ·rw [← R.real.len.1];simp
 |int n=>
   obtain ⟨u,rfl⟩:=hw
   obtain ⟨rfl,ls,h1,h2,h3,h4,h5⟩:=h
   obtain ⟨b0z,cs,frn,m,R⟩:=R
   obtain ⟨A,vs,_,e1,r1,_,l1⟩:=R.listAt h1
   rw [hv.objAt e1]
   with_reducible refine KMa.mul R.F R.N l1 h3 h2 (by rw [r1.length];exact h4) rfl fun D h' F' N' hlt=>?_
   have hp:β<+:β++[D]:=List.prefix_append _ _
   refine k _ _ _ (β++[D]) _ h5 hp (R.alloc1 (tk:=s.toks) F' N' ⟨_,0,rfl,(VR.monoL hp r1).rep _⟩ hlt) ⟨D,?_,rfl⟩
   rw [← R.real.len.1];simp
 |_=>exact False.elim h
|_=>cases b<;>exact False.elim h
noncomputable def X6 (op:Yj)(a b:AV)(σ:List Za)(Q:Zq):Prop:=match a,b with
|.int i,.int j=>W3 op i j fun k=>Q (.int k) σ
|.str x,.str y=>op=.add∧x.length+y.length≤sizeLine∧Q (.str (x++y)) σ
|_,_=>False
theorem Ho {op:Yj}{a b:AV}{v w:Value}(R:Rl φ xs ex β loc σ s)(hv:VR β v a)(hw:VR β w b)(h:X6 op a b σ Q)(k:Zz φ xs ex β loc Q Qc):wpAny (Zd φ.G) φ.A (inplaceOp op.op v w) Qc Ec s:=by
 cases a with
|int i=>cases b with
 |int j=>
   obtain ⟨t,rfl⟩:=hv
   obtain ⟨u,rfl⟩:=hw
   exact ZbY R h k
 |_=>exact False.elim h
|str x=>cases b with
 |str y=>
   obtain ⟨t,rfl⟩:=hv
   obtain ⟨u,rfl⟩:=hw
   obtain ⟨rfl,h1,h2⟩:=h
   have q:=fun t' tk=>k.str R h2 t' tk
   with_reducible refine SB.iadd (fun t' tk=>?_) (by rw [WJ,WJ];exact h1)
   rw [Qj];exact q t' tk
 |_=>exact False.elim h
|_=>cases b<;>exact False.elim h
inductive Yt where
|eq|ne|lt|le|gt|ge|is|isnt|isin
 deriving DecidableEq
noncomputable abbrev Yt.op:Yt→CmpOp
|.eq=>.Eq|.ne=>.NotEq|.lt=>.Lt|.le=>.LtE|.gt=>.Gt|.ge=>.GtE|.is=>.Is|.isnt=>.IsNot|.isin=>.In
end
noncomputable abbrev Ye (φ:Fx)(xs:List Str)(ex:List (Addr×Obj))(β:List Addr)(loc:Zc)(X:Zx)(Ec:Value→Ws→Prop):Prop:=
 ∀ c σ' β' e s',X c σ'→β<+:β'→ZS φ xs ex β' loc σ' c e s'→Ec (.ref e) s'
noncomputable def Y9 (p:List Nat):Bool:=p.all (·<0x110000)
noncomputable def YC (op:Yt)(a b:AV)(σ:List Za)(Q:Bool→Prop):Prop:=match a,b with
|.int i,.int j=>(match op with
 |.eq=>Q (decide (i=j))|.ne=>Q (!decide (i=j))|.lt=>Q (decide (i<j))|.le=>Q (decide (i≤j))|.gt=>Q (decide (j<i))|.ge=>Q (decide (j≤i))|_=>False)
|.bool c,.bool d=>(match op with|.eq=>Q (c==d)|.ne=>Q (!(c==d))|_=>False)
|.str x,.str y=>(match op with|.eq=>Q (decide (x=y))|.ne=>Q (!decide (x=y))|.isin=>Q (Txt.contains ⟨y.toArray⟩ ⟨x.toArray⟩)|_=>False)
|.none,.none=>(match op with|.is=>Q true|.isnt=>Q false|_=>False)
|.int _,.none=>(match op with|.is=>Q false|.isnt=>Q true|_=>False)
|.obj x,.obj y=>(op=.eq∨op=.ne)∧((∃ (ns ms:List Int),σ[x]?=some (.list (ns.map .int))∧σ[y]?=some (.list (ms.map .int))∧Q (if op=.eq then decide (ns=ms) else !decide (ns=ms))) ∨
   (∃ (u v:Nat) (ns ms:List Int) (p q:List Nat),σ[x]?=some (.tup [.obj u,.str p])∧σ[y]?=some (.tup [.obj v,.str q])∧σ[u]?=some (.list (ns.map .int))∧σ[v]?=some (.list (ms.map .int))∧Y9 p=true∧Y9 q=true ∧
    Q (if op=.eq then decide (ns=ms∧p=q) else !decide (ns=ms∧p=q))))
|_,_=>False
section
variable {φ:Fx}{xs:List Str}{ex:List (Addr×Obj)}{β β':List Addr}{loc:Zc}{σ:List Za}{s:Ws}{Q:Zq}{X:Zx}{Qc Ec:Value→Ws→Prop}
theorem Zz.ge (k:Zz φ xs ex β loc Q Qc)(h:β<+:β'):Zz φ xs ex β' loc Q Qc:=fun v av σ' β₂ s' q p=>k v av σ' β₂ s' q (h.trans p)
theorem Ye.ge (k:Ye φ xs ex β loc X Ec)(h:β<+:β'):Ye φ xs ex β' loc X Ec:=fun c σ' β₂ e s' q p=>k c σ' β₂ e s' q (h.trans p)
theorem ZG.units {n:Nat}{A:Around}(h:ZG n A):A.units+64<cLine:=by
 obtain ⟨_,_,h⟩:=h;lia
theorem Zew {h:Heap}{a:Addr}{vs:List Value}{β:List Addr}{ns:List Int}(hl:h.IsList a vs.toArray)(hv:Ze (VR β) vs (ns.map .int)):∃ as,Reads h (.ref a) (.list (ns.map .int)) as:=by
 exact ⟨_,reads_newData hl (ke_carried (UJ hv))⟩
theorem C3 {h:Heap}{a b:Addr}{vs us:List Value}{β:List Addr}{ns:List Int}{p:List Nat}{u:Tok}(hl:h.IsList b vs.toArray)(hv:Ze (VR β) vs (ns.map .int))
  (ht:h.IsTuple a us.toArray) (hu:us=[.ref b,.str ⟨p.toArray⟩ u]):∃ as,Reads h (.ref a) (.tuple [.list (ns.map .int),.str ⟨p.toArray⟩]) as:=by
 obtain ⟨as,r⟩:=Zew hl hv
 obtain ⟨o,h1,h2,n,h3⟩:=ht
 subst hu
 exact ⟨_,Reads.tuple h1 h2 h3 (.cons r (.cons (.str _ _) .nil))⟩
theorem Qg (ns:List Int){p:List Nat}(h:Y9 p=true):SeqAt.shaped (.tuple [.list (ns.map .int),.str ⟨p.toArray⟩])=true:=by
 have h':PyData.strOk ⟨p.toArray⟩=true:=by simpa [PyData.strOk,Y9] using h
 simp only [SeqAt.shaped,PyData.canLay0,PyData.canLayAll0,ke_canLayAll0,h',PyData.depth,PyData.depthAll,ke_depthAll]
 rfl
theorem ZgE (ns ms:List Int)(p q:List Nat):PySem.Spec.same (.tuple [.list (ns.map .int),.str ⟨p.toArray⟩]) (.tuple [.list (ms.map .int),.str ⟨q.toArray⟩])=decide (ns=ms∧p=q):=by
 simp only [PySem.Spec.same,PySem.Spec.sameAll,ke_sameAll,Bool.and_true]
 by_cases h1:ns=ms<;>by_cases h2:p=q<;>simp [h1,h2]
theorem CQ (ns:List Int)(p:List Nat):(Spec.Shape.tuple [.list .int,.str]).has (.tuple [.list (ns.map .int),.str ⟨p.toArray⟩])=true:=
 Bool.and_eq_true_iff.mpr ⟨list_map_has fun _=>rfl,rfl⟩
theorem Zdi (ns ms:List Int)(p q:List Nat):SeqAt.noMix (.tuple [.list (ns.map .int),.str ⟨p.toArray⟩]) (.tuple [.list (ms.map .int),.str ⟨q.toArray⟩])=true:=
 SeqAt.noMix_of_shape (.tuple [.list .int,.str]) rfl _ _ (CQ ns p) (CQ ms q)
theorem VR.tupPair {us:List Value}{u:Nat}{p:List Nat}{b:Addr}(h:Ze (VR β) us [.obj u,.str p])(e:β[u]?=some b):∃ t,us=[.ref b,.str ⟨p.toArray⟩ t]:=by
 cases h with
|cons h1 h=>cases h with
 |cons h2 h=>cases h;rw [h1.objAt e];obtain ⟨t,rfl⟩:=h2;exact ⟨t,rfl⟩
theorem bq {b c:Bool}(q:Qc (.bool b) s)(e:b=c):Qc (.bool c) s:=e▸q
theorem Qk (x y:List Nat):((⟨x.toArray⟩:Str)==⟨y.toArray⟩)=decide (x=y):=by
 by_cases h:x=y
 ·subst h;simp
 ·have:¬ ((⟨x.toArray⟩:Str)=⟨y.toArray⟩):=fun q=>h (by injection q with q;simpa using q)
  simp [h,this]
theorem Gl {n:Nat}{op:Yt}{a b:AV}{v w:Value}(hr:ZG n φ.A)(R:Rl φ xs ex β loc σ s)(hv:VR β v a)(hw:VR β w b){T:Bool→Prop}(h:YC op a b σ T)(k:∀ b,T b→Qc (.bool b) s) :
  wpAny (Zd φ.G) φ.A (compareOp op.op v w) Qc Ec s:=by
 have hu:=hr.units
 cases a with
|int i=>cases b with
 |int j=>
   obtain ⟨t,rfl⟩:=hv
   obtain ⟨u,rfl⟩:=hw
   cases op with
  |eq=>have q:=k _ h;with_reducible refine P.eq_int ?_;exact bq q (by grind)
  |ne=>have q:=k _ h;with_reducible refine P.ne_int ?_;exact bq q (by grind)
  |lt=>have q:=k _ h;with_reducible refine P.lt_int ?_;exact q
  |le=>have q:=k _ h;with_reducible refine P.le_int ?_;exact q
  |gt=>have q:=k _ h;with_reducible refine P.gt_int ?_;exact q
  |ge=>have q:=k _ h;with_reducible refine P.ge_int ?_;exact q
  |_=>exact False.elim h
 |none=>
   obtain ⟨t,rfl⟩:=hv
   obtain rfl:=hw
   cases op with
  |is=>have q:=k _ h;with_reducible refine is_none ?_;exact bq q rfl
  |isnt=>have q:=k _ h;with_reducible refine isNot_none ?_;exact bq q rfl
  |_=>exact False.elim h
 |_=>exact False.elim h
|bool c=>cases b with
 |bool d=>
   obtain rfl:=hv
   obtain rfl:=hw
   cases op with
  |eq=>have q:=k _ h;with_reducible refine eq_bool ?_;exact q
  |ne=>have q:=k _ h;with_reducible refine ne_bool ?_;exact bq q rfl
  |_=>exact False.elim h
 |_=>exact False.elim h
|str x=>cases b with
 |str y=>
   obtain ⟨t,rfl⟩:=hv
   obtain ⟨u,rfl⟩:=hw
   cases op with
  |eq=>have q:=k _ h;with_reducible refine eq_str ?_;have e:((⟨x.toArray⟩:Str)==⟨y.toArray⟩)=decide (x=y):=Qk x y
       rw [e];exact q
  |ne=>have q:=k _ h;with_reducible refine ne_str ?_;have e:((⟨x.toArray⟩:Str) != ⟨y.toArray⟩)= !decide (x=y):=by rw [bne,Qk]
       rw [e];exact q
  |isin=>have q:=k _ h;with_reducible refine SB.contains ?_;exact q
  |_=>exact False.elim h
 |_=>exact False.elim h
|none=>cases b with
 |none=>
   obtain rfl:=hv
   obtain rfl:=hw
   cases op with
  |is=>have q:=k _ h;with_reducible refine is_none ?_;exact bq q rfl
  |isnt=>have q:=k _ h;with_reducible refine isNot_none ?_;exact bq q rfl
  |_=>exact False.elim h
 |_=>exact False.elim h
|obj x=>cases b with
 |obj y=>
    obtain ⟨hop,h⟩:=h
    have R0:=R
    obtain ⟨b0z,cs,frn,m,R⟩:=R
    rcases h with ⟨ns,ms,h1,h2,h3⟩|⟨u,v,ns,ms,p,q,h1,h2,h3,h4,h5,h6,h7⟩
    ·obtain ⟨A,vs,_,e1,r1,_,l1⟩:=R.listAt h1
     obtain ⟨B,us,_,e2,r2,_,l2⟩:=R.listAt h2
     have i1:=UJ r1
     have i2:=UJ r2
     rw [hv.objAt e1,hw.objAt e2]
     have q:=k _ h3
     rcases hop with rfl|rfl<;>simp only [reduceCtorEq,if_false,if_true] at q
     ·with_reducible refine ke_eq_ints l1 l2 i1 i2 hu ?_;exact q
     ·with_reducible refine ke_ne_ints l1 l2 i1 i2 hu ?_;exact q
    ·obtain ⟨A,vs,_,e1,r1,_,l1⟩:=R.tupAt h1
     obtain ⟨B,us,_,e2,r2,_,l2⟩:=R.tupAt h2
     obtain ⟨A',vs',_,e1',r1',_,l1'⟩:=R.listAt h3
     obtain ⟨B',us',_,e2',r2',_,l2'⟩:=R.listAt h4
     rw [hv.objAt e1,hw.objAt e2]
     obtain ⟨t1,hu1⟩:=VR.tupPair r1 e1'
     obtain ⟨t2,hu2⟩:=VR.tupPair r2 e2'
     obtain ⟨as1,d1⟩:=C3 l1' r1' l1 hu1
     obtain ⟨as2,d2⟩:=C3 l2' r2' l2 hu2
     have s1:=Qg ns h5
     have s2:=Qg ms h6
     have mx:=Zdi ns ms p q
     have sm:=ZgE ns ms p q
     have q:=k _ h7
     rcases hop with rfl|rfl<;>simp only [reduceCtorEq,if_false,if_true] at q
     ·with_reducible refine eq_dataH_same d1 d2 s1 s2 hu mx ?_;rw [sm];exact q
     ·with_reducible refine ne_dataH_same d1 d2 s1 s2 hu mx ?_;rw [sm];exact q
 |_=>exact False.elim h
|bytes l=>cases b<;>exact False.elim h
end
noncomputable def ZQ:Expr→Bool
|.Starred _ _=>true
|_=>false
theorem Uo {e:Expr}{r:List Expr}{env:Env}(h:ZQ e=false):starEach (e::r) env=(false,eval e env)::starEach r env:=by
 cases e<;>first|rfl|cases h
noncomputable def CY:Expr→Bool
|.UnaryOp .Not _ _=>false
|.BoolOp _ _ _=>false
|.IfExp _ _ _ _=>false
|.Compare _ _ _ _=>false
|_=>true
theorem Zb2 {e:Expr}{env:Env}{w:Sem Value}(h:CY e=true):isTrue e env w=(do
  let v ← w
  standAt e.pos
  holding [v] (truthy v)):=by
 cases e<;>first|rfl|cases h|skip
 all_goals rename_i op _ _;cases op<;>first|rfl|cases h
noncomputable def Gp:Const→Option AV
|.none=>some .none
|.bool b=>some (.bool b)
|.int i=>some (.int i)
|.str s=>some (.str s.cps.toList)
|_=>none
noncomputable abbrev TQ (Q:Bool→List Za→Prop):AV→List Za→Prop:=fun v σ=>∃ b,v=.bool b∧Q b σ
section
variable {n:Nat}{κ:Cx}{loc:Zc}{σ:List Za}{Q:Zq}{X:Zx}
theorem WE.go {e:Expr}(h:WE n κ e loc σ Q X){φ:Fx}{ex:List (Addr×Obj)}{β:List Addr}{s:Ws}{Qc Ec:Value→Ws→Prop}(hr:ZG n φ.A)(hf:ZP κ φ)(R:Rl φ κ.xs ex β loc σ s)
  (kQ:∀ v av σ' β' s',Q av σ'→β<+:β'→Rl φ κ.xs ex β' loc σ' s'→VR β' v av→Qc v s') (kX:∀ c σ' β' e s',X c σ'→β<+:β'→ZS φ κ.xs ex β' loc σ' c e s'→Ec (.ref e) s') :
  Zb (Zd φ.G) φ.A (eval e φ.env) Qc Ec s:=h φ ex β s Qc Ec hr hf R kQ kX
theorem WT.go {e:Expr}{Q:Bool→List Za→Prop}(h:WT n κ e loc σ Q X){φ:Fx}{ex:List (Addr×Obj)}{β:List Addr}{s:Ws}{Qc:Bool→Ws→Prop}{Ec:Value→Ws→Prop}(hr:ZG n φ.A)(hf:ZP κ φ)(R:Rl φ κ.xs ex β loc σ s)
  (kQ:∀ b σ' β' s',Q b σ'→β<+:β'→Rl φ κ.xs ex β' loc σ' s'→Qc b s') (kX:∀ c σ' β' e s',X c σ'→β<+:β'→ZS φ κ.xs ex β' loc σ' c e s'→Ec (.ref e) s') :
  Zb (Zd φ.G) φ.A (isTrue e φ.env (eval e φ.env)) Qc Ec s:=h φ ex β s Qc Ec hr hf R kQ kX
theorem WE.mono {e:Expr}{Q':Zq}{X':Zx}(h:WE n κ e loc σ Q X)(hq:∀ v σ,Q v σ→Q' v σ)(hx:∀ c σ,X c σ→X' c σ):WE n κ e loc σ Q' X':=
 fun φ ex β s Qc Ec hr hf R kQ kX=>h φ ex β s Qc Ec hr hf R (fun v av σ' β' s' q=>kQ v av σ' β' s' (hq _ _ q)) fun c σ' β' e s' x=>kX c σ' β' e s' (hx _ _ x)
theorem WE.const {c:Const}{k:Nat}{pos:Pos}{av:AV}(hc:Gp c=some av)(h:Q av σ):WE n κ (.Constant c k pos) loc σ Q X:=by
 intro φ ex β s Qc Ec hr hf R kQ kX
 have kq:Zz φ κ.xs ex β loc Q Qc:=kQ
 cases c with
|none=>cases hc;have q:=kq.here R h rfl;exact .of (wpAny_Constant_none q)
|bool b=>cases hc;have q:=kq.here R h rfl;exact .of (wpAny_Constant_bool q)
|int i=>cases hc;have q:=kq.int R h s.toks (s.toks+1);exact .of (wpAny_Constant_int q)
|str x=>
  cases hc
  have q:=kq.str R h s.toks (s.toks+1)
  refine Zb.of (wpAny_Constant_str ?_)
  rw [show x=⟨x.cps.toList.toArray⟩ from by cases x;simp];exact q
|_=>cases hc
theorem Rl.load {φ:Fx}{xs:List Str}{ex:List (Addr×Obj)}{β:List Addr}{s:Ws}{Qc Ec:Value→Ws→Prop}(R:Rl φ xs ex β loc σ s){i:Nat}{x:Str}{av:AV}(hx:xs[i]?=some x)(hd':(x==("__classdict__" : Str))=false)(hl:loc[i]?=some (some av))
  (q:∀ v,VR β v av→Qc v s):wpAny (Zd φ.G) φ.A (loadName φ.env x) Qc Ec s:=by
 obtain ⟨b0z,cs,frn,m,R⟩:=R
 obtain ⟨v,hv,hat⟩:=R.loc i x av hx hl
 have q:=q v hv
 have hk:=R.ok.kind
 have hNs:=R.F.ns
 rcases hat with ⟨k1,k2⟩|⟨k1,c,o,k2,k3,k4⟩
 ·exact @wpAny_loadName_local (Zd φ.G) φ.A Ec s φ.env x m v Qc hk k1 hNs k2 q
 ·have hc:s.heap.IsCell c (some v):=⟨o,(R.N (c,o) (by simp only [List.mem_append] at k3 ⊢;grind)).1,k4⟩
  rcases k1 with k1|k1
  ·exact @wpAny_loadName_cell (Zd φ.G) φ.A Ec s φ.env x c v Qc hk k1 k2 hc q
  ·exact @wpAny_loadName_free (Zd φ.G) φ.A Ec s φ.env x c v Qc hk k1 k2 hc q hd'
theorem WE.name {i:Nat}{x:Str}{pos:Pos}{av:AV}(hx:κ.xs[i]?=some x)(hd:(x==("__debug__" : Str))=false)(hd':(x==("__classdict__" : Str))=false)(hl:loc[i]?=some (some av))(h:Q av σ) :
  WE n κ (.Name x pos) loc σ Q X:=by
 intro φ ex β s Qc Ec hr hf R kQ kX
 have kq:Zz φ κ.xs ex β loc Q Qc:=kQ
 have ld:wpAny (Zd φ.G) φ.A (loadName φ.env x) Qc Ec s:=R.load hx hd' hl fun v hv=>kq.here R h hv
 exact .of (wpAny_Name ld hd)
theorem WE.bin {op:Yj}{a b:Expr}{pos:Pos}(h:WE n κ a loc σ (fun va σ₁=>WE n κ b loc σ₁ (fun vb σ₂=>Wi op va vb σ₂ Q) X) X):WE n κ (.BinOp a op.op b pos) loc σ Q X:=by
 intro φ ex β s Qc Ec hr hf R kQ kX
 have kq:Zz φ κ.xs ex β loc Q Qc:=kQ
 with_reducible refine Za9 ?_
 with_reducible refine h.go hr hf R (fun v av σ₁ β₁ s₁ q₁ p₁ R₁ v₁=>?_) kX
 with_reducible refine q₁.go hr hf R₁ (fun w bw σ₂ β₂ s₂ q₂ p₂ R₂ v₂=>?_) (Ye.ge kX p₁)
 have v₁':=v₁.mono p₂
 have kq':=kq.ge (p₁.trans p₂)
 exact .of (Zej R₂ v₁' v₂ q₂ kq')
theorem WE.ife {t a b:Expr}{pos:Pos}(h:WT n κ t loc σ (fun c σ₁=>if c then WE n κ a loc σ₁ Q X else WE n κ b loc σ₁ Q X) X):WE n κ (.IfExp t a b pos) loc σ Q X:=by
 intro φ ex β s Qc Ec hr hf R kQ kX
 have kq:Zz φ κ.xs ex β loc Q Qc:=kQ
 with_reducible refine Zbr ?_
 with_reducible refine h.go hr hf R (fun c σ₁ β₁ s₁ q₁ p₁ R₁=>?_) kX
 have kq':=kq.ge p₁
 have kx':=Ye.ge kX p₁
 cases c with
|true=>simp only [if_true] at q₁ ⊢;with_reducible exact q₁.go hr hf R₁ kq' kx'
|false=>simp only [Bool.false_eq_true,if_false] at q₁ ⊢;with_reducible exact q₁.go hr hf R₁ kq' kx'
theorem WT.plain {e:Expr}{Q:Bool→List Za→Prop}(hp:CY e=true)(h:WE n κ e loc σ (TQ Q) X):WT n κ e loc σ Q X:=by
 intro φ ex β s Qc Ec hr hf R kQ kX
 rw [Zb2 hp]
 with_reducible refine Zb.bind ?_
 with_reducible refine h.go hr hf R (fun v av σ₁ β₁ s₁ q₁ p₁ R₁ v₁=>?_) kX
 obtain ⟨b,rfl,q₁⟩:=q₁
 obtain rfl:=v₁
 have q:=kQ b σ₁ β₁ s₁ q₁ p₁ R₁
 exact .stand (.of (wpAny_holding (wpAny_truthy_bool q)))
theorem WT.mono {e:Expr}{Q Q':Bool→List Za→Prop}(h:WT n κ e loc σ Q X)(hq:∀ v σ,Q v σ→Q' v σ):WT n κ e loc σ Q' X:=
 fun φ ex β s Qc Ec hr hf R kQ kX=>h φ ex β s Qc Ec hr hf R (fun v σ' β' s' q=>kQ v σ' β' s' (hq _ _ q)) kX
theorem WT.not {e:Expr}{pos:Pos}{Q:Bool→List Za→Prop}(h:WT n κ e loc σ (fun b σ₁=>Q (!b) σ₁) X):WT n κ (.UnaryOp .Not e pos) loc σ Q X:=by
 intro φ ex β s Qc Ec hr hf R kQ kX
 with_reducible refine Zbt ?_
 with_reducible exact h.go hr hf R (fun b σ₁ β₁ s₁ q₁ p₁ R₁=>kQ _ σ₁ β₁ s₁ q₁ p₁ R₁) kX
theorem WE.not {e:Expr}{pos:Pos}(h:WE n κ e loc σ (fun v σ₁=>∃ b,v=.bool b∧Q (.bool (!b)) σ₁) X):WE n κ (.UnaryOp .Not e pos) loc σ Q X:=by
 intro φ ex β s Qc Ec hr hf R kQ kX
 have kq:Zz φ κ.xs ex β loc Q Qc:=kQ
 with_reducible refine Bf ?_
 with_reducible refine h.go hr hf R (fun v av σ₁ β₁ s₁ q₁ p₁ R₁ v₁=>?_) kX
 obtain ⟨b,rfl,q₁⟩:=q₁
 obtain rfl:=v₁
 have q:=(kq.ge p₁).bool R₁ q₁
 exact .of (not_of (wpAny_truthy_bool q))
theorem WT.ife {t a b:Expr}{pos:Pos}{Q:Bool→List Za→Prop}(h:WT n κ t loc σ (fun c σ₁=>if c then WT n κ a loc σ₁ Q X else WT n κ b loc σ₁ Q X) X):WT n κ (.IfExp t a b pos) loc σ Q X:=by
 intro φ ex β s Qc Ec hr hf R kQ kX
 with_reducible refine Zbs ?_
 with_reducible refine h.go hr hf R (fun c σ₁ β₁ s₁ q₁ p₁ R₁=>?_) kX
 have kq':=fun b σ' β' s' q p=>kQ b σ' β' s' q (p₁.trans p)
 have kx':=Ye.ge kX p₁
 cases c with
|true=>simp only [if_true] at q₁ ⊢;with_reducible exact q₁.go hr hf R₁ kq' kx'
|false=>simp only [Bool.false_eq_true,if_false] at q₁ ⊢;with_reducible exact q₁.go hr hf R₁ kq' kx'
theorem WE.bool1 {op:BoolOp}{e:Expr}{pos:Pos}(h:WE n κ e loc σ Q X):WE n κ (.BoolOp op [e] pos) loc σ Q X:=by
 intro φ ex β s Qc Ec hr hf R kQ kX
 with_reducible refine Zbb ?_
 with_reducible exact h.go hr hf R kQ kX
theorem WE.and {e₁ e₂:Expr}{r:List Expr}{pos:Pos}(h:WE n κ e₁ loc σ (TQ fun b σ₁=>if b then WE n κ (.BoolOp .And (e₂::r) pos) loc σ₁ Q X else Q (.bool false) σ₁) X):WE n κ (.BoolOp .And (e₁::e₂::r) pos) loc σ Q X:=by
 intro φ ex β s Qc Ec hr hf R kQ kX
 have kq:Zz φ κ.xs ex β loc Q Qc:=kQ
 with_reducible refine Za1 ?_
 with_reducible refine h.go hr hf R (fun v av σ₁ β₁ s₁ q₁ p₁ R₁ v₁=>?_) kX
 obtain ⟨b,rfl,q₁⟩:=q₁
 obtain rfl:=v₁
 have kq':=kq.ge p₁
 have kx':=Ye.ge kX p₁
 with_reducible refine wpAny_truthy_bool ?_
 cases b with
|true=>simp only [if_true] at q₁ ⊢;with_reducible exact q₁.go hr hf R₁ kq' kx'
|false=>simp only [Bool.false_eq_true,if_false] at q₁ ⊢;exact kq'.bool R₁ q₁
theorem WE.or {e₁ e₂:Expr}{r:List Expr}{pos:Pos}(h:WE n κ e₁ loc σ (TQ fun b σ₁=>if b then Q (.bool true) σ₁ else WE n κ (.BoolOp .Or (e₂::r) pos) loc σ₁ Q X) X):WE n κ (.BoolOp .Or (e₁::e₂::r) pos) loc σ Q X:=by
 intro φ ex β s Qc Ec hr hf R kQ kX
 have kq:Zz φ κ.xs ex β loc Q Qc:=kQ
 with_reducible refine gOr ?_
 with_reducible refine h.go hr hf R (fun v av σ₁ β₁ s₁ q₁ p₁ R₁ v₁=>?_) kX
 obtain ⟨b,rfl,q₁⟩:=q₁
 obtain rfl:=v₁
 have kq':=kq.ge p₁
 have kx':=Ye.ge kX p₁
 with_reducible refine wpAny_truthy_bool ?_
 cases b with
|true=>simp only [if_true] at q₁ ⊢;exact kq'.bool R₁ q₁
|false=>simp only [Bool.false_eq_true,if_false] at q₁ ⊢;with_reducible exact q₁.go hr hf R₁ kq' kx'
noncomputable def WA (n:Nat)(κ:Cx)(op:BoolOp)(es:List Expr)(loc:Zc)(σ:List Za)(Q:Bool→List Za→Prop)(X:Zx):Prop:=
 ∀ (φ:Fx) ex β s (Qc:Bool→Ws→Prop) (Ec:Value→Ws→Prop),ZG n φ.A→ZP κ φ→Rl φ κ.xs ex β loc σ s →
  (∀ b σ' β' s',Q b σ'→β<+:β'→Rl φ κ.xs ex β' loc σ' s'→Qc b s') →
  (∀ c σ' β' e s',X c σ'→β<+:β'→ZS φ κ.xs ex β' loc σ' c e s'→Ec (.ref e) s') →
  Zb (Zd φ.G) φ.A (allTrue op es φ.env) Qc Ec s
theorem WA.go {op:BoolOp}{es:List Expr}{Q:Bool→List Za→Prop}(h:WA n κ op es loc σ Q X){φ:Fx}{ex:List (Addr×Obj)}{β:List Addr}{s:Ws}{Qc:Bool→Ws→Prop}{Ec:Value→Ws→Prop}(hr:ZG n φ.A)(hf:ZP κ φ)(R:Rl φ κ.xs ex β loc σ s)
  (kQ:∀ b σ' β' s',Q b σ'→β<+:β'→Rl φ κ.xs ex β' loc σ' s'→Qc b s') (kX:∀ c σ' β' e s',X c σ'→β<+:β'→ZS φ κ.xs ex β' loc σ' c e s'→Ec (.ref e) s') :
  Zb (Zd φ.G) φ.A (allTrue op es φ.env) Qc Ec s:=h φ ex β s Qc Ec hr hf R kQ kX
theorem WT.boolop {op:BoolOp}{es:List Expr}{pos:Pos}{Q:Bool→List Za→Prop}(h:WA n κ op es loc σ Q X):WT n κ (.BoolOp op es pos) loc σ Q X:=by
 intro φ ex β s Qc Ec hr hf R kQ kX
 rw [arm_isTrue_BoolOp]
 with_reducible exact h.go hr hf R kQ kX
theorem WA.nil {op:BoolOp}{Q:Bool→List Za→Prop}(h:Q (op==.And) σ):WA n κ op [] loc σ Q X:=by
 intro φ ex β s Qc Ec hr hf R kQ kX
 have q:=kQ _ σ β s h (List.prefix_refl _) R
 exact .of (wpAny_pure q)
theorem WA.and {e:Expr}{r:List Expr}{Q:Bool→List Za→Prop}(h:WT n κ e loc σ (fun b σ₁=>if b then WA n κ .And r loc σ₁ Q X else Q false σ₁) X):WA n κ .And (e::r) loc σ Q X:=by
 intro φ ex β s Qc Ec hr hf R kQ kX
 change Zb _ _ (isTrue e φ.env (eval e φ.env) >>= fun b=>match BoolOp.And,b with
 |.And,false=>pure false
 |.Or,true=>pure true
 |_,_=>allTrue .And r φ.env) Qc Ec s
 with_reducible refine Zb.bind ?_
 with_reducible refine h.go hr hf R (fun b σ₁ β₁ s₁ q₁ p₁ R₁=>?_) kX
 have kq':=fun b σ' β' s' q p=>kQ b σ' β' s' q (p₁.trans p)
 have kx':=Ye.ge kX p₁
 cases b with
|true=>simp only [if_true] at q₁ ⊢;with_reducible exact q₁.go hr hf R₁ kq' kx'
|false=>simp only [Bool.false_eq_true,if_false] at q₁ ⊢;have q:=kQ _ σ₁ β₁ s₁ q₁ p₁ R₁;exact .of (wpAny_pure q)
theorem WA.or {e:Expr}{r:List Expr}{Q:Bool→List Za→Prop}(h:WT n κ e loc σ (fun b σ₁=>if b then Q true σ₁ else WA n κ .Or r loc σ₁ Q X) X):WA n κ .Or (e::r) loc σ Q X:=by
 intro φ ex β s Qc Ec hr hf R kQ kX
 change Zb _ _ (isTrue e φ.env (eval e φ.env) >>= fun b=>match BoolOp.Or,b with
 |.And,false=>pure false
 |.Or,true=>pure true
 |_,_=>allTrue .Or r φ.env) Qc Ec s
 with_reducible refine Zb.bind ?_
 with_reducible refine h.go hr hf R (fun b σ₁ β₁ s₁ q₁ p₁ R₁=>?_) kX
 have kq':=fun b σ' β' s' q p=>kQ b σ' β' s' q (p₁.trans p)
 have kx':=Ye.ge kX p₁
 cases b with
|true=>simp only [if_true] at q₁ ⊢;have q:=kQ _ σ₁ β₁ s₁ q₁ p₁ R₁;exact .of (wpAny_pure q)
|false=>simp only [Bool.false_eq_true,if_false] at q₁ ⊢;with_reducible exact q₁.go hr hf R₁ kq' kx'
end
section
variable {n:Nat}{κ:Cx}{loc:Zc}{σ:List Za}{Q:Zq}{X:Zx}
noncomputable def WC (n:Nat)(κ:Cx)(pos:Pos)(va:AV)(ops:List CmpOp)(es:List Expr)(loc:Zc)(σ:List Za)(Q:Zq)(X:Zx):Prop:=
 ∀ (φ:Fx) ex β s v (Qc:Value→Ws→Prop) (Ec:Value→Ws→Prop),ZG n φ.A→ZP κ φ→Rl φ κ.xs ex β loc σ s→VR β v va →
  (∀ v av σ' β' s',Q av σ'→β<+:β'→Rl φ κ.xs ex β' loc σ' s'→VR β' v av→Qc v s') →
  (∀ c σ' β' e s',X c σ'→β<+:β'→ZS φ κ.xs ex β' loc σ' c e s'→Ec (.ref e) s') →
  Zb (Zd φ.G) φ.A (compareChain pos v ops (evalEach es φ.env)) Qc Ec s
theorem WC.go {pos:Pos}{va:AV}{ops:List CmpOp}{es:List Expr}(h:WC n κ pos va ops es loc σ Q X){φ:Fx}{ex:List (Addr×Obj)}{β:List Addr}{s:Ws}{v:Value}{Qc Ec:Value→Ws→Prop}(hr:ZG n φ.A)(hf:ZP κ φ)(R:Rl φ κ.xs ex β loc σ s)(hv:VR β v va)
  (kQ:∀ v av σ' β' s',Q av σ'→β<+:β'→Rl φ κ.xs ex β' loc σ' s'→VR β' v av→Qc v s') (kX:∀ c σ' β' e s',X c σ'→β<+:β'→ZS φ κ.xs ex β' loc σ' c e s'→Ec (.ref e) s') :
  Zb (Zd φ.G) φ.A (compareChain pos v ops (evalEach es φ.env)) Qc Ec s:=h φ ex β s v Qc Ec hr hf R hv kQ kX
noncomputable def XY (n:Nat)(κ:Cx)(pos:Pos)(va:AV)(ops:List CmpOp)(es:List Expr)(loc:Zc)(σ:List Za)(Q:Bool→List Za→Prop)(X:Zx):Prop:=
 ∀ (φ:Fx) ex β s v (Qc:Bool→Ws→Prop) (Ec:Value→Ws→Prop),ZG n φ.A→ZP κ φ→Rl φ κ.xs ex β loc σ s→VR β v va →
  (∀ b σ' β' s',Q b σ'→β<+:β'→Rl φ κ.xs ex β' loc σ' s'→Qc b s') →
  (∀ c σ' β' e s',X c σ'→β<+:β'→ZS φ κ.xs ex β' loc σ' c e s'→Ec (.ref e) s') →
  Zb (Zd φ.G) φ.A (testChain pos v ops (evalEach es φ.env)) Qc Ec s
theorem XY.go {pos:Pos}{va:AV}{ops:List CmpOp}{es:List Expr}{Q:Bool→List Za→Prop}(h:XY n κ pos va ops es loc σ Q X){φ:Fx}{ex:List (Addr×Obj)}{β:List Addr}{s:Ws}{v:Value}{Qc:Bool→Ws→Prop}{Ec:Value→Ws→Prop}(hr:ZG n φ.A)(hf:ZP κ φ)(R:Rl φ κ.xs ex β loc σ s)(hv:VR β v va)
  (kQ:∀ b σ' β' s',Q b σ'→β<+:β'→Rl φ κ.xs ex β' loc σ' s'→Qc b s') (kX:∀ c σ' β' e s',X c σ'→β<+:β'→ZS φ κ.xs ex β' loc σ' c e s'→Ec (.ref e) s') :
  Zb (Zd φ.G) φ.A (testChain pos v ops (evalEach es φ.env)) Qc Ec s:=h φ ex β s v Qc Ec hr hf R hv kQ kX
theorem WC.one {op:Yt}{e:Expr}{pos:Pos}{va:AV}(h:WE n κ e loc σ (fun vb σ₁=>YC op va vb σ₁ (fun b=>Q (.bool b) σ₁)) X):WC n κ pos va [op.op] [e] loc σ Q X:=by
 intro φ ex β s v Qc Ec hr hf R hv kQ kX
 have kq:Zz φ κ.xs ex β loc Q Qc:=kQ
 change Zb _ _ (holding [v] (eval e φ.env) >>= fun rv=>standAt pos >>= fun _=>operate [v,rv] (compareOp op.op v rv)) Qc Ec s
 with_reducible refine Zb.bind (Zb.hold ?_)
 with_reducible refine h.go hr hf R (fun w bw σ₁ β₁ s₁ q₁ p₁ R₁ v₁=>?_) kX
 have hv':=hv.mono p₁
 have k':∀ b,Q (.bool b) σ₁→Qc (.bool b) s₁:=fun b q=>(kq.ge p₁).bool R₁ q
 exact .stand (.of (wpAny_operate' (Gl hr R₁ hv' v₁ q₁ k')))
theorem WC.more {op:Yt}{op₂:CmpOp}{ops:List CmpOp}{e e₂:Expr}{es:List Expr}{pos:Pos}{va:AV}(h:WE n κ e loc σ (fun vb σ₁=>YC op va vb σ₁ (fun b=>if b then WC n κ pos vb (op₂::ops) (e₂::es) loc σ₁ Q X else Q (.bool false) σ₁)) X) :
  WC n κ pos va (op.op::op₂::ops) (e::e₂::es) loc σ Q X:=by
 intro φ ex β s v Qc Ec hr hf R hv kQ kX
 have kq:Zz φ κ.xs ex β loc Q Qc:=kQ
 change Zb _ _ (holding [v] (eval e φ.env) >>= fun rv=>standAt pos >>= fun _=>holding [v,rv] (compareOp op.op v rv) >>= fun c=>release [v,rv] [c] >>= fun _=>
  holding [c,rv] (truthy c) >>= fun t=>if t then compareChain pos rv (op₂::ops) (evalEach (e₂::es) φ.env) else pure c) Qc Ec s
 with_reducible refine Zb.bind (Zb.hold ?_)
 with_reducible refine h.go hr hf R (fun w bw σ₁ β₁ s₁ q₁ p₁ R₁ v₁=>?_) kX
 have hv':=hv.mono p₁
 have kq':=kq.ge p₁
 have kx':=Ye.ge kX p₁
 refine .stand (.step (wpAny_holding (Gl hr R₁ hv' v₁ q₁ fun b q=>?_)))
 refine .step (wpAny_release (.step (wpAny_holding (wpAny_truthy_bool ?_))))
 cases b with
|true=>simp only [if_true] at q ⊢;with_reducible exact q.go hr hf R₁ v₁ kq' kx'
|false=>simp only [Bool.false_eq_true,if_false] at q ⊢;have q':=kq'.bool R₁ q;exact .of (wpAny_pure q')
theorem XY.one {op:Yt}{e:Expr}{pos:Pos}{va:AV}{Q:Bool→List Za→Prop}(h:WE n κ e loc σ (fun vb σ₁=>YC op va vb σ₁ (fun b=>Q b σ₁)) X):XY n κ pos va [op.op] [e] loc σ Q X:=by
 intro φ ex β s v Qc Ec hr hf R hv kQ kX
 change Zb _ _ (holding [v] (eval e φ.env) >>= fun rv=>standAt pos >>= fun _=>operate [v,rv] (compareOp op.op v rv) >>= fun c=>holding [c] (truthy c)) Qc Ec s
 with_reducible refine Zb.bind (Zb.hold ?_)
 with_reducible refine h.go hr hf R (fun w bw σ₁ β₁ s₁ q₁ p₁ R₁ v₁=>?_) kX
 have hv':=hv.mono p₁
 refine .stand (.step (wpAny_operate' (Gl hr R₁ hv' v₁ q₁ fun b q=>?_)))
 have q':=kQ b σ₁ β₁ s₁ q p₁ R₁
 exact .of (wpAny_holding (wpAny_truthy_bool q'))
theorem XY.more {op:Yt}{op₂:CmpOp}{ops:List CmpOp}{e e₂:Expr}{es:List Expr}{pos:Pos}{va:AV}{Q:Bool→List Za→Prop}
  (h:WE n κ e loc σ (fun vb σ₁=>YC op va vb σ₁ (fun b=>if b then XY n κ pos vb (op₂::ops) (e₂::es) loc σ₁ Q X else Q false σ₁)) X) :
  XY n κ pos va (op.op::op₂::ops) (e::e₂::es) loc σ Q X:=by
 intro φ ex β s v Qc Ec hr hf R hv kQ kX
 change Zb _ _ (holding [v] (eval e φ.env) >>= fun rv=>standAt pos >>= fun _=>holding [v,rv] (compareOp op.op v rv) >>= fun c=>release [v,rv] [c] >>= fun _=>
  holding [c,rv] (truthy c) >>= fun t=>if t then testChain pos rv (op₂::ops) (evalEach (e₂::es) φ.env) else pure false) Qc Ec s
 with_reducible refine Zb.bind (Zb.hold ?_)
 with_reducible refine h.go hr hf R (fun w bw σ₁ β₁ s₁ q₁ p₁ R₁ v₁=>?_) kX
 have hv':=hv.mono p₁
 have kq':=fun b σ' β' s' q p=>kQ b σ' β' s' q (p₁.trans p)
 have kx':=Ye.ge kX p₁
 refine .stand (.step (wpAny_holding (Gl hr R₁ hv' v₁ q₁ fun b q=>?_)))
 refine .step (wpAny_release (.step (wpAny_holding (wpAny_truthy_bool ?_))))
 cases b with
|true=>simp only [if_true] at q ⊢;with_reducible exact q.go hr hf R₁ v₁ kq' kx'
|false=>simp only [Bool.false_eq_true,if_false] at q ⊢;have q':=kQ _ σ₁ β₁ s₁ q p₁ R₁;exact .of (wpAny_pure q')
theorem WE.cmp {l:Expr}{ops:List CmpOp}{es:List Expr}{pos:Pos}(hm:lastMarks ops es=false)(h:WE n κ l loc σ (fun va σ₁=>WC n κ pos va ops es loc σ₁ Q X) X):WE n κ (.Compare l ops es pos) loc σ Q X:=by
 intro φ ex β s Qc Ec hr hf R kQ kX
 rw [arm_eval_Compare]
 with_reducible refine Zb.bind ?_
 with_reducible refine h.go hr hf R (fun v av σ₁ β₁ s₁ q₁ p₁ R₁ v₁=>?_) kX
 rw [markedEach_of_false _ _ _ hm]
 have kq':=Zz.ge kQ p₁
 have kx':=Ye.ge kX p₁
 with_reducible exact q₁.go hr hf R₁ v₁ kq' kx'
theorem WT.cmp {l:Expr}{ops:List CmpOp}{es:List Expr}{pos:Pos}{Q:Bool→List Za→Prop}(hm:lastMarks ops es=false)(h:WE n κ l loc σ (fun va σ₁=>XY n κ pos va ops es loc σ₁ Q X) X):WT n κ (.Compare l ops es pos) loc σ Q X:=by
 intro φ ex β s Qc Ec hr hf R kQ kX
 rw [arm_isTrue_Compare]
 with_reducible refine Zb.bind ?_
 with_reducible refine h.go hr hf R (fun v av σ₁ β₁ s₁ q₁ p₁ R₁ v₁=>?_) kX
 rw [markedEach_of_false _ _ _ hm]
 have kq':=fun b σ' β' s' q p=>kQ b σ' β' s' q (p₁.trans p)
 have kx':=Ye.ge kX p₁
 with_reducible exact q₁.go hr hf R₁ v₁ kq' kx'
theorem ZC.go {es:List Expr}{Q:List AV→List Za→Prop}(h:ZC n κ es loc σ Q X){φ:Fx}{ex:List (Addr×Obj)}{β:List Addr}{s:Ws}{Qc:List Value→Ws→Prop}{Ec:Value→Ws→Prop}{pos:Pos}(hr:ZG n φ.A)(hf:ZP κ φ)(R:Rl φ κ.xs ex β loc σ s)
  (kQ:∀ vs avs σ' β' s',Q avs σ'→β<+:β'→Rl φ κ.xs ex β' loc σ' s'→Ze (VR β') vs avs→Qc vs s') (kX:∀ c σ' β' e s',X c σ'→β<+:β'→ZS φ κ.xs ex β' loc σ' c e s'→Ec (.ref e) s') :
  Zb (Zd φ.G) φ.A (spliced (backTo pos (starEach es φ.env))) Qc Ec s:=h φ ex β s Qc Ec pos hr hf R kQ kX
theorem ZC.nil {Q:List AV→List Za→Prop}(h:Q [] σ):ZC n κ [] loc σ Q X:=by
 intro φ ex β s Qc Ec pos hr hf R kQ kX
 have q:=kQ [] [] σ β s h (List.prefix_refl _) R .nil
 exact .of (wpAny_items_nil q)
theorem ZC.cons {e:Expr}{es:List Expr}{Q:List AV→List Za→Prop}(he:ZQ e=false)(h:WE n κ e loc σ (fun v σ₁=>ZC n κ es loc σ₁ (fun vs σ₂=>Q (v::vs) σ₂) X) X):ZC n κ (e::es) loc σ Q X:=by
 intro φ ex β s Qc Ec pos hr hf R kQ kX
 have hs:starEach (e::es) φ.env=(false,eval e φ.env)::starEach es φ.env:=Uo he
 with_reducible refine VM ?_ hs
 with_reducible refine h.go hr hf R (fun v av σ₁ β₁ s₁ q₁ p₁ R₁ v₁=>?_) kX
 have kx':=Ye.ge kX p₁
 with_reducible refine q₁.go hr hf R₁ (fun vs avs σ₂ β₂ s₂ q₂ p₂ R₂ v₂=>?_) kx'
 exact kQ _ _ σ₂ β₂ s₂ q₂ (p₁.trans p₂) R₂ (.cons (v₁.mono p₂) v₂)
theorem WE.list {es:List Expr}{pos:Pos}(h:ZC n κ es loc σ (fun vs σ₁=>vs.length≤sizeLine∧Q (.obj σ₁.length) (σ₁++[.list vs])) X):WE n κ (.List es pos) loc σ Q X:=by
 intro φ ex β s Qc Ec hr hf R kQ kX
 with_reducible refine Zbu ?_
 with_reducible refine h.go hr hf R (fun vs avs σ₁ β₁ s₁ q₁ p₁ R₁ v₁=>?_) kX
 have kq':=Zz.ge kQ p₁
 have a1:=q₁.1
 have a2:=q₁.2
 with_reducible exact GN R₁ v₁ a1 a2 kq'
theorem WE.tup {es:List Expr}{k:Nat}{pos:Pos}(h:ZC n κ es loc σ (fun vs σ₁=>vs.length≤sizeLine∧Q (.obj σ₁.length) (σ₁++[.tup vs])) X):WE n κ (.Tuple es k pos) loc σ Q X:=by
 intro φ ex β s Qc Ec hr hf R kQ kX
 with_reducible refine Hi ?_
 with_reducible refine h.go hr hf R (fun vs avs σ₁ β₁ s₁ q₁ p₁ R₁ v₁=>?_) kX
 have kq':=Zz.ge kQ p₁
 have a1:=q₁.1
 have a2:=q₁.2
 with_reducible exact Zd2 R₁ v₁ a1 a2 kq'
end
noncomputable def Wg (β:List Addr)(p:Int×Value)(q:Int×AV):Prop:=p.1=q.1∧VR β p.2 q.2
theorem Hs {β:List Addr}{kv':List (Int×Value)}{kvs:List (Int×AV)}(h:Ze (Wg β) kv' kvs):kv'.map Prod.fst=kvs.map Prod.fst:=by
 induction h with
|nil=>rfl
|cons r _ ih=>simp [ih,r.1]
theorem SM {prog:Program}{w:World}{β:List Addr}{es:List DictEntry}{kvs:List (Int×AV)}(h:Ze (Ju β) es kvs)(n:Nat)(hn:(kvs.map Prod.fst).Nodup) :
  ∃ kv',(dictOf es n).IsDictOf (intKind prog w) kv'∧Ze (Wg β) kv' kvs:=by
 have:∃ kv',Ze (Wg β) kv' kvs∧Pairs (intKind prog w) es kv'∧(∀ e∈es,∃ k,(intKind prog w).is k e.key=true∧e.hash=(intKind prog w).hash k):=by
  clear hn
  induction h with
 |nil=>exact ⟨[],.nil,.nil,fun e he=>by cases he⟩
 |cons r _ ih=>
   rename_i a b as bs _
   obtain ⟨kv',i1,i2,i3⟩:=ih
   obtain ⟨⟨t,r1⟩,r2,r3⟩:=r
   refine ⟨(b.1,a.val)::kv',.cons ⟨rfl,r3⟩ i1,.cons ?_ rfl i2,fun e he=>?_⟩
   ·rw [r1];exact intKind_is _ _ _ _
   ·rcases List.mem_cons.mp he with rfl|he
    ·exact ⟨b.1,by rw [r1];exact intKind_is _ _ _ _,r2⟩
    ·exact i3 e he
 obtain ⟨kv',h1,h2,h3⟩:=this
 exact ⟨kv',⟨es.toArray,n,⟨rfl,rfl,rfl⟩,rfl,fun e he=>h3 e (by simpa using he),by simpa using h2,by rw [Hs h1];exact hn⟩,h1⟩
theorem NX {prog:Program}{w:World}{β:List Addr}{o:Obj}{kv':List (Int×Value)}{kvs:List (Int×AV)}(h:o.IsDictOf (intKind prog w) kv')(r:Ze (Wg β) kv' kvs) :
  ∃ es n,o=dictOf es n∧Ze (Ju β) es kvs:=by
 obtain ⟨es,ep,⟨h1,h2,h3⟩,h4,h5,h6,h7⟩:=h
 refine ⟨es.toList,ep,?_,?_⟩
 ·cases o;simp only at h1 h2 h3 h4;subst h1 h2 h3 h4;simp -iota [dictOf]
 ·have h5':∀ e∈es.toList,∃ k,(intKind prog w).is k e.key=true∧e.hash=(intKind prog w).hash k:=fun e he=>h5 e (by simpa using he)
  generalize es.toList=es' at h6 h5'
  clear h1 h2 h3 h4 h5 h7
  induction h6 generalizing kvs with
 |nil=>cases r;exact .nil
 |cons q1 q2 q3 ih=>
   cases r with
  |cons r1 r2=>
    refine .cons ⟨?_,?_,?_⟩ (ih r2 fun e he=>h5' e (List.mem_cons_of_mem _ he))
    ·obtain ⟨t,e⟩:=Value.isInt_shape q1
     exact ⟨t,by rw [e,r1.1]⟩
    ·obtain ⟨k,k1,k2⟩:=h5' _ List.mem_cons_self
     rw [k2,(intKind prog w).inj _ _ _ k1 q1,r1.1];rfl
    ·rw [q2];exact r1.2
theorem Zcd {β:List Addr}{kv':List (Int×Value)}{kvs:List (Int×AV)}(h:Ze (Wg β) kv' kvs){k:Int}{av:AV}(e:kvs.lookup k=some av):∃ v,valueAt kv' k=some v∧VR β v av:=by
 induction h with
|nil=>cases e
|cons r _ ih=>
  rename_i a b as bs _
  by_cases hk:k=b.1
  ·subst hk
   refine ⟨a.2,?_,?_⟩
   ·unfold valueAt
    rw [List.find?_cons_of_pos (by exact decide_eq_true r.1)];rfl
   ·have e':(b::bs).lookup b.1=some b.2:=List.lookup_cons_self
    cases Option.some.inj (e'.symm.trans e)
    exact r.2
  ·have h1:(b::bs).lookup k=bs.lookup k:=by rw [List.lookup_cons,beq_false_of_ne hk]
   obtain ⟨v,i1,i2⟩:=ih (h1.symm.trans e)
   refine ⟨v,?_,i2⟩
   unfold valueAt at i1 ⊢
   rw [List.find?_cons_of_neg (by exact fun h=>hk ((of_decide_eq_true h).symm.trans r.1))]
   exact i1
theorem SK {prog:Program}{w:World}{h:Heap}{a:Addr}{es:List DictEntry}{n:Nat}{kv':List (Int×Value)}(ho:h.get? a=some (dictOf es n))(d:(dictOf es n).IsDictOf (intKind prog w) kv'):h.DictAt (intKind prog w) a kv' n:=by
 obtain ⟨es',ep,h1,h2,h3⟩:=d
 cases h2
 exact ⟨_,_,ho,h1,rfl,h3⟩
section
variable {φ:Fx}{xs:List Str}{ex:List (Addr×Obj)}{β:List Addr}{loc:Zc}{σ:List Za}{b0z:List ZH}{cs frn:List (Addr×Obj)}{m:Str→Option Value}{s:Ws}
inductive My (φ:Fx)(xs:List Str)(ex:List (Addr×Obj))(β:List Addr)(loc:Zc)(σ:List Za)(m:Str→Option Value)(s:Ws)(led:List (Addr×Obj))(i:Nat)(kvs:List (Int×AV))(ep:Nat):Prop
|mk (a:Addr) (o:Obj) (kv':List (Int×Value)) (e:β[i]?=some a) (hs:(a==sysModules)=false) (d:o.IsDictOf (intKind pw φ.G.w) kv') (dA:s.heap.DictAt (intKind pw φ.G.w) a kv' ep) (r:Ze (Wg β) kv' kvs) (hm:(a,o)∈led)
   (k:∀ o' kv'' kvs',o'.IsDictOf (intKind pw φ.G.w) kv''→Ze (Wg β) kv'' kvs'→∃ news' ep',Upd a o o' led news'∧Bk φ xs ex β loc (σ.set i (.dict kvs' ep')) m s news'):My φ xs ex β loc σ m s led i kvs ep
theorem Zi.dictUp (R:Zi φ xs ex β loc σ b0z cs frn m s){i:Nat}{kvs:List (Int×AV)}{ep:Nat}(hi:σ[i]?=some (.dict kvs ep))(hn:(kvs.map Prod.fst).Nodup):My φ xs ex β loc σ m s (Xl b0z cs ex frn) i kvs ep:=by
 obtain ⟨a,blk,e1,⟨es,rfl,hm,r⟩,e3,k⟩:=R.at hi
 obtain ⟨kv',d1,d2⟩:=SM (prog:=pw) (w:=φ.G.w) r ep hn
 refine ⟨a,_,kv',e1,hm,d1,SK (R.N _ (e3 _ List.mem_cons_self)).1 d1,d2,e3 _ List.mem_cons_self,fun o' kv'' kvs' h1 h2=>?_⟩
 obtain ⟨es',n',rfl,h3⟩:=NX h1 h2
 obtain ⟨news',U,kk⟩:=k [] [] a _ _ (.dict kvs' n') rfl ⟨es',rfl,hm,h3⟩
 exact ⟨news',n',U,kk⟩
inductive Mx (w:World)(β:List Addr)(h:Heap)(i:Nat)(kvs:List (Int×AV))(ep:Nat):Prop
|mk (a:Addr) (kv':List (Int×Value)) (e:β[i]?=some a) (hs:(a==sysModules)=false) (dA:h.DictAt (intKind pw w) a kv' ep) (r:Ze (Wg β) kv' kvs):Mx w β h i kvs ep
theorem Zi.dictAt (R:Zi φ xs ex β loc σ b0z cs frn m s){i:Nat}{kvs:List (Int×AV)}{ep:Nat}(hi:σ[i]?=some (.dict kvs ep))(hn:(kvs.map Prod.fst).Nodup):Mx φ.G.w β s.heap i kvs ep:=by
 obtain ⟨a,o,kv',e,hs,d,dA,r,hm,k⟩:=R.dictUp hi hn
 exact ⟨a,kv',e,hs,dA,r⟩
end
noncomputable def X5 (a i:AV)(σ:List Za)(Q:Zq):Prop:=match a,i with
|.obj x,.int k=>(∃ ls,σ[x]?=some (.list ls)∧0≤k∧k<2^63∧∃ v,ls[k.toNat]?=some v∧Q v σ) ∨
   (∃ kvs ep,σ[x]?=some (.dict kvs ep)∧(kvs.map Prod.fst).Nodup∧∃ v,kvs.lookup k=some v∧Q v σ)
|.bytes l,.int k=>0≤k∧l.length≤1099511627776∧∃ b,l[k.toNat]?=some b∧Q (.int b.toNat) σ
|_,_=>False
noncomputable def Vn (e:Expr):Bool:=e.ctorIdx.beq 26
theorem ZgT {e:Expr}(h:Vn e=false)(o i:Value):subscripted e false o i=operate [o,i] (getItem o i):=by
 cases e<;>first|rfl|cases h
section
variable {φ:Fx}{xs:List Str}{ex:List (Addr×Obj)}{β:List Addr}{loc:Zc}{σ:List Za}{s:Ws}{Q:Zq}{Qc Ec:Value→Ws→Prop}
theorem Bs {a i:AV}{v w:Value}(R:Rl φ xs ex β loc σ s)(hv:VR β v a)(hw:VR β w i)(h:X5 a i σ Q)(k:Zz φ xs ex β loc Q Qc) :
  ∃ T id,s.TypeIs v T∧typeLookup (.type T) "__getitem__" = pure (some (.builtin id))∧wpAny (Zd φ.G) φ.A (getItem v w) Qc Ec s:=by
 have R0:=R
 obtain ⟨b0z,cs,frn,m,R⟩:=R
 cases a with
|obj x=>cases i with
 |int n=>
   obtain ⟨t,rfl⟩:=hw
   rcases h with ⟨ls,h1,h2,h3,av,h4,h5⟩|⟨kvs,ep,h1,h2,av,h4,h5⟩
   ·obtain ⟨A,vs,_,e1,r1,_,l1⟩:=R.listAt h1
    obtain ⟨u,hu,hr⟩:=r1.get h4
    rw [hv.objAt e1]
    have q:=k.here R0 h5 hr
    have hT:s.TypeIs (.ref A) "list" := Heap.IsList.typeIs (s:=s) l1
    have hg:wpAny (Zd φ.G) φ.A (getItem (.ref A) (.int n t)) Qc Ec s:=by
     with_reducible exact wpAny_getItem_list l1 h2 h3 (by simpa using hu) q
    exact ⟨_,_,hT,slot_list_getitem.lookup,hg⟩
   ·obtain ⟨A,o,kv',e1,_,d1,_,d2,hm,_⟩:=R.dictUp h1 h2
    obtain ⟨u,hu,hr⟩:=Zcd d2 h4
    rw [hv.objAt e1]
    have q:=k.tok R0 h5 hr (s.toks+1)
    have hg:wpAny (Zd φ.G) φ.A (getItem (.ref A) (.int n t)) Qc Ec s:=by
     with_reducible exact kdt_getItem (knd:=intKind pw φ.G.w) R.N hm d1 (intKind_is _ _ _ _) hu q
    have hT:=(kda_dict R.N hm d1).typeIs
    exact ⟨_,_,hT,slot_dict_getitem.lookup,hg⟩
 |_=>exact False.elim h
|bytes l=>cases i with
 |int n=>
   obtain ⟨t,rfl⟩:=hv
   obtain ⟨u,rfl⟩:=hw
   obtain ⟨h1,h2,b,h3,h4⟩:=h
   have hlt:=(List.getElem?_eq_some_iff.mp h3).1
   have q:=k.int R0 h4 s.toks (s.toks+1)
   have hg:wpAny (Zd φ.G) φ.A (getItem (.bytes l.toArray t) (.int n u)) Qc Ec s:=by
    with_reducible refine getItem_bytes h2 h1 (by exact Internal.qBq ‹_› ‹_›) ?_
    have e:l.getD n.toNat 0=b:=by simp [List.getD,h3]
    rw [e];exact q
   exact ⟨_,_,typeIs_bytes _ _ _,FB.slot_bytes_getitem.lookup,hg⟩
 |_=>exact False.elim h
|_=>cases i<;>exact False.elim h
theorem ZbT {value slice:Expr}{a i:AV}{v w:Value}(R:Rl φ xs ex β loc σ s)(hv:VR β v a)(hw:VR β w i)(h:X5 a i σ Q)(k:Zz φ xs ex β loc Q Qc)(hs:Vn slice=false) :
  wpAny (Zd φ.G) φ.A (subscriptTail value slice v w) Qc Ec s:=by
 obtain ⟨T,id,h1,h2,h3⟩:=Bs (Ec:=Ec) R hv hw h k
 have hp:=ZgT hs v w
 with_reducible exact tail_any h1 h2 h3 hp
end
noncomputable def pick {α:Type}(l:List α)(lo hi:Option Int):List α:=(hi.elim l fun h=>l.take h.toNat).drop (lo.elim 0 Int.toNat)
noncomputable def TZ (a:AV)(p:Option Int):Prop:=match a with
|.none=>p=none
|.int i=>p=some i∧0≤i
|_=>False
theorem CW {α:Type}(l:List α){lo hi:Option Int}(h1:∀ i,lo=some i→0≤i)(h2:∀ i,hi=some i→0≤i) :
  (l.drop (kms_lo lo l.length)).take (kms_hi hi l.length-kms_lo lo l.length)=pick l lo hi:=by
 have a:kms_lo lo l.length=min (lo.elim 0 Int.toNat) l.length:=by
  cases lo with
 |none=>exact (Nat.zero_min _).symm
 |some i=>exact if_neg (Int.not_lt.mpr (h1 i rfl))
 have b:kms_hi hi l.length=min (hi.elim l.length Int.toNat) l.length:=by
  cases hi with
 |none=>exact (Nat.min_self _).symm
 |some i=>exact if_neg (Int.not_lt.mpr (h2 i rfl))
 have e:pick l lo hi=(l.take (hi.elim l.length Int.toNat)).drop (lo.elim 0 Int.toNat):=by
  cases hi with
 |none=>exact congrArg (List.drop _) List.take_length.symm
 |some i=>rfl
 rw [a,b,e,List.take_eq_take_min (i:=hi.elim _ _)]
 generalize lo.elim 0 Int.toNat=x
 by_cases h:x≤l.length
 ·rw [Nat.min_eq_left h]
  exact List.drop_take.symm
 ·rw [List.drop_eq_nil_of_le (Nat.le_min.mpr ⟨Nat.le_of_not_le h,Nat.le_refl _⟩),List.take_nil,List.drop_eq_nil_of_le]
  exact Nat.le_trans (List.length_take_le' _ _) (Nat.le_of_not_le h)
theorem Zca (hi:Option Int)(n:Nat):kms_hi hi n≤n:=by
 cases hi with
|none=>exact Nat.le_refl _
|some i=>
  show (if _ then _ else _)≤n
  split
  ·exact Nat.sub_le _ _
  ·exact Nat.min_le_right _ _
theorem ZgR (x:List Nat){lo hi:Option Int}(h1:∀ i,lo=some i→0≤i)(h2:∀ i,hi=some i→0≤i) :
  (Builtin.Str.strSliceIndices lo hi 1 x.length).filterMap (x.toArray[·]?)=pick x lo hi∧(Builtin.Str.strSliceIndices lo hi 1 x.length).length=(pick x lo hi).length:=by
 have e:Builtin.Str.strSliceIndices lo hi 1 x.length=sliceRange (sliceBounds lo hi none x.length).1 (sliceBounds lo hi none x.length).2.1 1:=by
  cases lo<;>cases hi<;>rfl
 have hb:=kms_bounds lo hi x.length
 rw [e,hb]
 dsimp only
 rw [sliceRange_one]
 have p:=pick_run x.toArray (kms_lo lo x.length) (kms_hi hi x.length-kms_lo lo x.length)
 have q:=CW x h1 h2
 refine ⟨by rw [p];exact q,?_⟩
 rw [← q]
 have hh:=Zca hi x.length
 simp;exact qDn hh
theorem CX {α:Type}(l:List α)(lo hi:Option Int):(pick l lo hi).Sublist l:=by
 cases hi with
|none=>exact List.drop_sublist _ _
|some i=>exact (List.drop_sublist _ _).trans (List.take_sublist _ _)
theorem Zen {α:Type}(l:List α)(lo hi:Option Int):(pick l lo hi).length≤l.length:=(CX l lo hi).length_le
theorem Zeo {α:Type}(l:List α)(lo hi:Option Int)(h:(pick l lo hi).length=l.length):pick l lo hi=l:=(CX l lo hi).eq_of_length h
noncomputable def Mf (a lo hi:AV)(σ:List Za)(Q:Zq):Prop:=∃ p q,TZ lo p∧TZ hi q∧match a with
|.str l=>l.length≤sizeLine∧Q (.str (pick l p q)) σ
|.obj x=>∃ ls,(σ[x]?=some (.list ls)∨∃ o xs,σ[x]?=some (.frz o xs)∧ls=xs.map .int)∧ls.length≤sizeLine∧Q (.obj σ.length) (σ++[.list (pick ls p q)])
|_=>False
theorem CU {a:AV}{p:Option Int}(h:TZ a p):∀ i,p=some i→0≤i:=by
 cases a with
|none=>obtain rfl:=h;exact fun _ e=>nomatch e
|int j=>obtain ⟨rfl,h⟩:=h;exact fun i e=>Option.some.inj e▸h
|_=>exact False.elim h
theorem CR {β:List Addr}{a:AV}{p:Option Int}{v:Value}(hv:VR β v a)(h:TZ a p):IsPart v p:=by
 cases a with
|none=>obtain rfl:=hv;obtain rfl:=h;exact .none
|int i=>obtain ⟨t,rfl⟩:=hv;obtain ⟨rfl,_⟩:=h;exact .int _ _
|_=>exact False.elim h
theorem CV {β:List Addr}{a:AV}{p:Option Int}{v:Value}(hv:VR β v a)(h:TZ a p):∃ l,v=partValue l∧l.map (·.1)=p:=by
 cases a with
|none=>obtain rfl:=hv;obtain rfl:=h;exact ⟨none,rfl,rfl⟩
|int i=>obtain ⟨t,rfl⟩:=hv;obtain ⟨rfl,_⟩:=h;exact ⟨some (i,t),rfl,rfl⟩
|_=>exact False.elim h
theorem Ze.pick {α γ:Type}{R:α→γ→Prop}{as:List α}{bs:List γ}(h:Ze R as bs)(lo hi:Option Int):Ze R (pick as lo hi) (pick bs lo hi):=by
 unfold Internal.pick
 cases hi with
|none=>exact h.drop _
|some i=>exact (h.take _).drop _
section
variable {φ:Fx}{xs:List Str}{ex:List (Addr×Obj)}{β:List Addr}{loc:Zc}{σ:List Za}{s:Ws}{Q:Zq}{Qc Ec:Value→Ws→Prop}
theorem Zb0 {vs:List Value}{ns:List Int}(h:IntsAre vs ns):Ze (VR β) vs (ns.map .int):=by
 induction h with
|nil=>exact .nil
|cons n t _ ih=>exact .cons ⟨t,rfl⟩ ih
theorem Zi.frzAt {b0z:List ZH}{cs frn:List (Addr×Obj)}{m:Str→Option Value}(R:Zi φ xs ex β loc σ b0z cs frn m s){i:Nat}{o:Unit→Obj}{ls:List Int}(hi:σ[i]?=some (.frz o ls)) :
  ∃ a vs,β[i]?=some a∧Ze (VR β) vs (ls.map .int)∧s.heap.IsList a vs.toArray∧s.heap.get? a=some (o ()):=by
 obtain ⟨a,blk,e1,⟨rfl,h1,vs,n,h2,h3⟩,e3,k⟩:=R.at hi
 have hg:=(R.N _ (e3 _ List.mem_cons_self)).1
 exact ⟨a,vs,e1,Zb0 h3,⟨o (),hg,h1,n,h2⟩,hg⟩
theorem ZgG {value:Expr}{lo hi:Option Expr}{pos:Pos}{a l u:AV}{v vl vu:Value}(R:Rl φ xs ex β loc σ s)(hv:VR β v a)(hl:VR β vl l)(hu:VR β vu u)(h:Mf a l u σ Q)(k:Zz φ xs ex β loc Q Qc) :
  wpAny (Zd φ.G) φ.A (subscriptTail value (.Slice lo hi none pos) v (.ref s.heap.objs.size)) Qc Ec {s with heap:=s.heap.push {cls:=.type "slice",data:=.fields #[vl,vu,.none]}}:=by
 obtain ⟨p,q,h1,h2,h⟩:=h
 have n1:=CU h1
 have n2:=CU h2
 have hs:∀ o i:Value,subscripted (.Slice lo hi none pos) false o i=operate [i,o] (getItem o i):=fun _ _=>rfl
 have R1:Rl φ xs ex β loc σ {s with heap:=s.heap.push {cls:=.type "slice",data:=.fields #[vl,vu,.none]}}:=R.more (tk:=s.toks) fun b o e=>Heap.get?_push_of_some _ e
 cases a with
|str x=>
  obtain ⟨t,rfl⟩:=hv
  obtain ⟨ol,rfl,e1⟩:=CV hl h1
  obtain ⟨ou,rfl,e2⟩:=CV hu h2
  have hS:(s.heap.push {cls:=.type "slice",data:=.fields #[partValue ol,partValue ou,.none]}).IsSlice s.heap.objs.size ol ou none:=⟨_,Heap.get?_push_size _ rfl,rfl,rfl⟩
  have hp:=ZgR x n1 n2
  have hm:(sliceMade ⟨x.toArray⟩ t ol ou none).post Qc {s with heap:=s.heap.push {cls:=.type "slice",data:=.fields #[partValue ol,partValue ou,.none]}}:=by
   unfold sliceMade slicePicked
   rw [e1,e2,WJ]
   have e3:(Option.map (fun x:Int×Tok=>x.1) none).getD 1=(1:Int):=rfl
   rw [e3]
   split
   ·rename_i hc
    have hl':(pick x p q).length=x.length:=by rw [← hp.2];simpa using hc
    have hq:=h.2
    rw [Zeo _ _ _ hl'] at hq
    exact k.here R1 hq ⟨t,rfl⟩
   ·have:=k.str R1 h.2 s.toks (s.toks+1)
    rw [hp.1];exact ⟨by rw [WJ];exact Nat.le_trans (Zen _ _ _) h.1,this⟩
  have hg:wpAny (Zd φ.G) φ.A (getItem (.str ⟨x.toArray⟩ t) (.ref s.heap.objs.size)) Qc Ec {s with heap:=s.heap.push {cls:=.type "slice",data:=.fields #[partValue ol,partValue ou,.none]}}:=by
   with_reducible exact wpAny_getItem_str_slice hS rfl hm
  with_reducible exact tail_any (typeIs_str _ _ _) F.slot_str_getitem.lookup hg (hs _ _)
|obj x=>
  obtain ⟨ls,h3,h4,h5⟩:=h
  have p1:=CR hl h1
  have p2:=CR hu h2
  obtain ⟨b0z,cs,frn,m,R1⟩:=R1
  have src:∃ A vs,β[x]?=some A∧Ze (VR β) vs ls∧(s.heap.push {cls:=.type "slice",data:=.fields #[vl,vu,.none]}).IsList A vs.toArray:=by
   rcases h3 with h3|⟨o,xs',h3,rfl⟩
   ·obtain ⟨A,vs,_,e1,r1,_,l1⟩:=R1.listAt h3
    exact ⟨A,vs,e1,r1,l1⟩
   ·obtain ⟨A,vs,e1,r1,l1,_⟩:=R1.frzAt h3
    exact ⟨A,vs,e1,r1,l1⟩
  obtain ⟨A,vs,e1,r1,l1⟩:=src
  rw [hv.objAt e1]
  have hz:vs.toArray.size≤sizeLine:=by rw [List.size_toArray,r1.length];exact h4
  have hS:(s.heap.push {cls:=.type "slice",data:=.fields #[vl,vu,.none]}).IsSliceOf s.heap.objs.size vl vu .none:=Heap.IsSliceOf.new _ _ _ _
  have hT:Shared.TypeIs {s with heap:=s.heap.push {cls:=.type "slice",data:=.fields #[vl,vu,.none]}} (.ref A) "list" := Heap.IsList.typeIs (s:={s with heap:=s.heap.push {cls:=.type "slice",data:=.fields #[vl,vu,.none]}}) l1
  have hg:wpAny (Zd φ.G) φ.A (getItem (.ref A) (.ref s.heap.objs.size)) Qc Ec {s with heap:=s.heap.push {cls:=.type "slice",data:=.fields #[vl,vu,.none]}}:=by
   with_reducible refine wpAny_getItem_list_slice l1 hS p1 p2 .none (by simp) ?_ hz
   have hp:β<+:β++[(s.heap.push {cls:=.type "slice",data:=.fields #[vl,vu,.none]}).objs.size]:=List.prefix_append _ _
   refine k _ _ _ (β++[(s.heap.push {cls:=.type "slice",data:=.fields #[vl,vu,.none]}).objs.size]) _ h5 hp (R1.alloc1 (tk:=s.toks) (R1.F.push _) (News.push R1.F R1.N _ rfl) ⟨pick vs p q,0,?_,VR.monoL hp (r1.pick p q)⟩ R1.lt) ⟨_,?_,rfl⟩
   ·have:=CW vs n1 n2
    have e:=kms_pick_eq vs.toArray p q
    rw [e,show kms_pick vs.toArray.toList p q=pick vs p q from this]
   ·rw [← R1.real.len.1];simp
  with_reducible exact tail_any hT slot_list_getitem.lookup hg (hs _ _)
|_=>exact False.elim h
end
section
variable {n:Nat}{κ:Cx}{loc:Zc}{σ:List Za}{Q:Zq}{X:Zx}
theorem WE.idx {a i:Expr}{pos:Pos}(hs:Vn i=false)(h:WE n κ a loc σ (fun va σ₁=>WE n κ i loc σ₁ (fun vi σ₂=>X5 va vi σ₂ Q) X) X):WE n κ (.Subscript a i pos) loc σ Q X:=by
 intro φ ex β s Qc Ec hr hf R kQ kX
 with_reducible refine Be ?_
 with_reducible refine h.go hr hf R (fun v av σ₁ β₁ s₁ q₁ p₁ R₁ v₁=>?_) kX
 have kx':=Ye.ge kX p₁
 with_reducible refine q₁.go hr hf R₁ (fun w bw σ₂ β₂ s₂ q₂ p₂ R₂ v₂=>?_) kx'
 have v₁':=v₁.mono p₂
 have kq':=Zz.ge kQ (p₁.trans p₂)
 with_reducible exact ZbT R₂ v₁' v₂ q₂ kq' hs
noncomputable def WP (n:Nat)(κ:Cx)(e:Option Expr)(loc:Zc)(σ:List Za)(Q:Zq)(X:Zx):Prop:=match e with
|none=>Q .none σ
|some e=>WE n κ e loc σ Q X
theorem WP.go {e:Option Expr}(h:WP n κ e loc σ Q X){φ:Fx}{ex:List (Addr×Obj)}{β:List Addr}{s:Ws}{Qc Ec:Value→Ws→Prop}(hr:ZG n φ.A)(hf:ZP κ φ)(R:Rl φ κ.xs ex β loc σ s)
  (kQ:∀ v av σ' β' s',Q av σ'→β<+:β'→Rl φ κ.xs ex β' loc σ' s'→VR β' v av→Qc v s') (kX:∀ c σ' β' e s',X c σ'→β<+:β'→ZS φ κ.xs ex β' loc σ' c e s'→Ec (.ref e) s') :
  Zb (Zd φ.G) φ.A (evalPart e φ.env) Qc Ec s:=by
 cases e with
|none=>have q:=kQ .none .none σ β s h (List.prefix_refl _) R rfl;exact .of (wpAny_evalPart_none q)
|some e=>have h':WE n κ e loc σ Q X:=h;with_reducible refine ZbA ?_;exact h'.go hr hf R kQ kX
theorem WE.slice {a:Expr}{lo hi:Option Expr}{p pos:Pos}(h:WE n κ a loc σ (fun va σ₁=>WP n κ lo loc σ₁ (fun vl σ₂=>WP n κ hi loc σ₂ (fun vu σ₃=>Mf va vl vu σ₃ Q) X) X) X):WE n κ (.Subscript a (.Slice lo hi none p) pos) loc σ Q X:=by
 intro φ ex β s Qc Ec hr hf R kQ kX
 with_reducible refine Be ?_
 with_reducible refine h.go hr hf R (fun v av σ₁ β₁ s₁ q₁ p₁ R₁ v₁=>?_) kX
 have kx₁:=Ye.ge kX p₁
 with_reducible refine ZbC ?_
 with_reducible refine q₁.go hr hf R₁ (fun w bw σ₂ β₂ s₂ q₂ p₂ R₂ v₂=>?_) kx₁
 have kx₂:=Ye.ge kX (p₁.trans p₂)
 with_reducible refine q₂.go hr hf R₂ (fun w' bw' σ₃ β₃ s₃ q₃ p₃ R₃ v₃=>?_) kx₂
 refine Zb.of (wpAny_evalPart_none ?_)
 have v₁':=(v₁.mono p₂).mono p₃
 have v₂':=v₂.mono p₃
 have kq':=Zz.ge kQ ((p₁.trans p₂).trans p₃)
 with_reducible exact ZgG R₃ v₁' v₂' v₃ q₃ kq'
end
noncomputable def JV:List Yk:=[.reader,.writer,.lowR,.lowW]
noncomputable def UC:List ZE:=[.most,.counts,.symbols,.lengths,.codes,.data,.stop,.position,.made,.held,.heldBits]
noncomputable def NL (K:Frag):Bool:=JV.all fun c=>plainGet K c.addr "" && hasDictIn K c.addr&&(findIn K (.ref c.addr) "__setattr__" == some (some (.builtin "object.__setattr__")))&&plainOver K c.addr&&makesIn K c.addr&&keepIn K (.ref c.addr) &&
 UC.all fun f=>(findIn K (.ref c.addr) f.name==some none)&&noGet K none&&(takerIn K c.addr f.name==some none)
theorem Sg (P:Wp):NL (KK P)=true:=by kernel_rfl
theorem Yk.mem (c:Yk):c∈JV:=by cases c<;>decide
theorem ZE.mem (f:ZE):f∈UC:=by cases f<;>decide
structure RC (P:Wp)(c:Yk):Prop where
 get:∀ x,plainGet (KK P) c.addr x=true
 dict:hasDictIn (KK P) c.addr=true
 set:findIn (KK P) (.ref c.addr) "__setattr__" = some (some (.builtin "object.__setattr__"))
 over:plainOver (KK P) c.addr=true
 makes:makesIn (KK P) c.addr=true
 keep:keepIn (KK P) (.ref c.addr)=true
 find:∀ f:ZE,findIn (KK P) (.ref c.addr) f.name=some none
 noget:noGet (KK P) none=true
 taker:∀ f:ZE,takerIn (KK P) c.addr f.name=some none
theorem Gk (P:Wp)(c:Yk):RC P c:=by
 have h:=Sg P
 unfold NL at h
 rw [List.all_eq_true] at h
 have h:=h c c.mem
 simp only [Bool.and_eq_true,List.all_eq_true,beq_iff_eq] at h
 obtain ⟨⟨⟨⟨⟨⟨h1,h2⟩,h3⟩,h4⟩,h5⟩,h6⟩,h7⟩:=h
 exact ⟨fun _=>h1,h2,h3,h4,h5,h6,fun f=>(h7 f f.mem).1.1,(h7 .most (ZE.mem _)).1.2,fun f=>(h7 f f.mem).2⟩
theorem Zad {f g:ZE}(h:(f.name==g.name)=true):f=g:=by
 have k:(UC.all fun f=>UC.all fun g=>!(f.name==g.name)||decide (f=g))=true:=by decide +kernel
 have:=List.all_eq_true.mp (List.all_eq_true.mp k f f.mem) g g.mem
 rw [h] at this
 exact of_decide_eq_true this
noncomputable def VL (f:ZE)(v:AV):List (ZE×AV)→List (ZE×AV)
|[]=>[(f,v)]
|p::r=>if p.1=f then (f,v)::r else p::VL f v r
theorem N8 (f:ZE)(v:AV):∀ fs,(VL f v fs).length≤fs.length+1
|[]=>Nat.le_refl _
|p::r=>by
  show (if p.1=f then (f,v)::r else p::VL f v r).length≤_
  split
  ·exact Nat.le_succ _
  ·exact Nat.succ_le_succ (N8 f v r)
theorem No {β:List Addr}{e:DictEntry}{p:ZE×AV}(r:Wd β e p)(f:ZE):e.key.isStr f.name=decide (p.1=f):=by
 obtain ⟨⟨t,h⟩,_⟩:=r
 rw [h]
 have:Value.isStr (.str p.1.name t) f.name=(p.1.name==f.name):=rfl
 rw [this]
 by_cases q:p.1=f
 ·simp [q]
 ·have:(p.1.name==f.name)=false:=by
   cases e:p.1.name==f.name with
  |false=>rfl
  |true=>exact absurd (Zad e) q
  simp [this,q]
theorem Np {β:List Addr}{es:List DictEntry}{fs:List (ZE×AV)}(h:Ze (Wd β) es fs):es.any (·.refKey)=false:=by
 induction h with
|nil=>rfl
|cons r _ ih=>
  obtain ⟨⟨t,h⟩,_⟩:=r
  rw [List.any_cons,ih,Bool.or_false]
  unfold DictEntry.refKey;rw [h]
theorem RM {β:List Addr}{es:List DictEntry}{fs:List (ZE×AV)}(h:Ze (Wd β) es fs){f:ZE}{av:AV}(e:fs.lookup f=some av):∃ v,getL f.name es=some (some v)∧VR β v av:=by
 have:∃ en,es.find? (fun x=>x.key.isStr f.name)=some en∧VR β en.val av:=by
  induction h with
 |nil=>cases e
 |cons r _ ih=>
   rename_i a b as bs _
   have hs:=No r f
   by_cases q:b.1=f
   ·subst q
    have e':(b::bs).lookup b.1=some b.2:=List.lookup_cons_self
    cases Option.some.inj (e'.symm.trans e)
    exact ⟨a,List.find?_cons_of_pos (by rw [hs];exact decide_eq_true rfl),r.2⟩
   ·have e':(b::bs).lookup f=bs.lookup f:=by rw [List.lookup_cons,beq_false_of_ne (Ne.symm q)]
    obtain ⟨en,i1,i2⟩:=ih (e'.symm.trans e)
    exact ⟨en,(List.find?_cons_of_neg (by rw [hs];exact fun h=>q (of_decide_eq_true h))).trans i1,i2⟩
 obtain ⟨en,h1,h2⟩:=this
 exact ⟨en.val,by unfold getL;rw [h1],h2⟩
theorem RN {β:List Addr}{es:List DictEntry}{fs:List (ZE×AV)}(h:Ze (Wd β) es fs)(x:Str):(getL x es).isSome=true:=by
 unfold getL
 cases es.find? fun e=>e.key.isStr x with
|some _=>rfl
|none=>rw [Np h];rfl
noncomputable def HF (x:Str):Bool:=UC.all fun f=>!(f.name==x)
theorem RO {β:List Addr}{es:List DictEntry}{fs:List (ZE×AV)}(h:Ze (Wd β) es fs){x:Str}(hx:HF x=true):getL x es=some none:=by
 have:es.find? (fun e=>e.key.isStr x)=none:=by
  rw [List.find?_eq_none]
  intro e he
  induction h with
 |nil=>cases he
 |cons r _ ih=>
   rcases List.mem_cons.mp he with rfl|he
   ·obtain ⟨⟨t,q⟩,_⟩:=r
    rw [q]
    rename_i b _ _ _ _
    have hn:=List.all_eq_true.mp hx _ (ZE.mem b.1)
    change ¬ (b.1.name==x)=true
    intro hh;rw [hh] at hn;exact absurd hn (by decide)
   ·exact ih he
 unfold getL
 rw [this,Np h];rfl
theorem RP {β:List Addr}{es:List DictEntry}{fs:List (ZE×AV)}(h:Ze (Wd β) es fs){f:ZE}{v:Value}{av:AV}(hv:VR β v av)(hsh:Int)(t:Tok):Ze (Wd β) (putL f.name hsh (.str f.name t) v es) (VL f av fs):=by
 induction h with
|nil=>exact .cons ⟨⟨t,rfl⟩,hv⟩ .nil
|cons r r' ih=>
  have hs:=No r f
  rename_i b _ _
  show Ze _ (if _ then _ else _) (if b.1=f then _ else _)
  rw [hs]
  by_cases q:b.1=f
  ·rw [if_pos (decide_eq_true q),if_pos q]
   exact .cons ⟨by obtain ⟨⟨t',e⟩,_⟩:=r;rw [← q];exact ⟨t',e⟩,hv⟩ r'
  ·rw [if_neg (fun h=>q (of_decide_eq_true h)),if_neg q]
   exact .cons r ih
section
variable {φ:Fx}{xs:List Str}{ex:List (Addr×Obj)}{β:List Addr}{loc:Zc}{σ:List Za}{b0z:List ZH}{cs frn:List (Addr×Obj)}{m:Str→Option Value}{s:Ws}
inductive ML (φ:Fx)(xs:List Str)(ex:List (Addr×Obj))(β:List Addr)(loc:Zc)(σ:List Za)(m:Str→Option Value)(s:Ws)(led:List (Addr×Obj))(i:Nat)(c:Yk)(fs:List (ZE×AV)):Prop
|mk (a dx:Addr) (es:List DictEntry) (n:Nat) (e:β[i]?=some a) (r:Ze (Wd β) es fs) (I:InstAt s.heap a (instObj c.addr dx) c.addr (some (dictOf es n)))
   (k:∀ es' n' fs',Ze (Wd β) es' fs'→∃ news',Upd dx (dictOf es n) (dictOf es' n') led news'∧Bk φ xs ex β loc (σ.set i (.inst c fs')) m s news'):ML φ xs ex β loc σ m s led i c fs
theorem Zi.instAt (R:Zi φ xs ex β loc σ b0z cs frn m s){i:Nat}{c:Yk}{fs:List (ZE×AV)}(hi:σ[i]?=some (.inst c fs)):ML φ xs ex β loc σ m s (Xl b0z cs ex frn) i c fs:=by
 obtain ⟨a,blk,e1,⟨dx,es,n,rfl,r⟩,e3,k⟩:=R.at hi
 have m1:=e3 (a,instObj c.addr dx) List.mem_cons_self
 have m2:=e3 (dx,dictOf es n) (List.mem_cons_of_mem _ List.mem_cons_self)
 refine ⟨a,dx,es,n,e1,r,⟨(R.N _ m1).1,rfl,rfl,(R.N _ m2).1⟩,fun es' n' fs' h1=>?_⟩
 exact k [(a,instObj c.addr dx)] [] dx _ (dictOf es' n') (.inst c fs') rfl ⟨dx,es',n',rfl,h1⟩
theorem Zi.kin (R:Zi φ xs ex β loc σ b0z cs frn m s):(KK φ.G.w.params).In s.heap:=φ.G.X.keeps R.F.keep
end
theorem VR.handed {β:List Addr}{v:Value}{av:AV}(h:VR β v av):handedIn v=true:=by
 cases av with
|none=>cases h;rfl
|bool b=>cases h;rfl
|int i=>obtain ⟨t,rfl⟩:=h;rfl
|str l=>obtain ⟨t,rfl⟩:=h;rfl
|bytes l=>obtain ⟨t,rfl⟩:=h;rfl
|obj i=>obtain ⟨a,_,rfl⟩:=h;rfl
noncomputable def WQ (f:ZE)(a:AV)(σ:List Za)(Q:Zq):Prop:=match a with
|.obj x=>∃ c fs,σ[x]?=some (.inst c fs)∧∃ v,fs.lookup f=some v∧Q v σ
|_=>False
noncomputable def Um (f:ZE)(a v:AV)(σ:List Za)(Q:List Za→Prop):Prop:=match a with
|.obj x=>∃ c fs,σ[x]?=some (.inst c fs)∧fs.length≤20∧Q (σ.set x (.inst c (VL f v fs)))
|_=>False
section
variable {φ:Fx}{xs:List Str}{ex:List (Addr×Obj)}{β:List Addr}{loc:Zc}{σ:List Za}{s:Ws}{Q:Zq}{Qc Ec:Value→Ws→Prop}
theorem Bg {f:ZE}{a:AV}{v:Value}{expr:Bool}(R:Rl φ xs ex β loc σ s)(hv:VR β v a)(h:WQ f a σ Q)(k:Zz φ xs ex β loc Q Qc):wpAny (Zd φ.G) φ.A (getAttr v f.name expr) Qc Ec s:=by
 have R0:=R
 obtain ⟨b0z,cs,frn,m,R⟩:=R
 cases a with
|obj x=>
  obtain ⟨c,fs,h1,av,h2,h3⟩:=h
  obtain ⟨A,dx,es,n,e1,r,I,_⟩:=R.instAt h1
  obtain ⟨u,hu,hr⟩:=RM r h2
  rw [hv.objAt e1]
  have C:=Gk φ.G.w.params c
  have q:=k.tok R0 h3 hr (s.toks+1)
  have d1:=C.get f.name
  have d2:=C.dict
  have d3:=C.find f
  have d4:=C.noget
  have d5:=hr.handed
  with_reducible exact get_own R.F φ.G.X I d1 d2 d3 d4 hu d5 q
|_=>exact False.elim h
theorem Qe {f:ZE}{a av:AV}{v w:Value}{Q:List Za→Prop}{Qc:Unit→Ws→Prop}(R:Rl φ xs ex β loc σ s)(hv:VR β v a)(hw:VR β w av)(h:Um f a av σ Q)
  (k:∀ σ' s',Q σ'→Rl φ xs ex β loc σ' s'→Qc () s'):wpAny (Zd φ.G) φ.A (setAttr v f.name w) Qc Ec s:=by
 have R0:=R
 obtain ⟨b0z,cs,frn,m,R⟩:=R
 cases a with
|obj x=>
  obtain ⟨c,fs,h1,h2,h3⟩:=h
  obtain ⟨A,dx,es,n,e1,r,I,up⟩:=R.instAt h1
  rw [hv.objAt e1]
  have C:=Gk φ.G.w.params c
  have r':=RP r (f:=f) hw (PyData.keyHash φ.G.w.params f.name) (s.toks+1)
  obtain ⟨news',U,up⟩:=up _ (putN f.name es n) _ r'
  have d1:=C.set
  have d2:=C.over
  have d3:=C.taker f
  have d4:=C.dict
  have d5:=RN r f.name
  have hz:(putL f.name (PyData.keyHash φ.G.w.params f.name) (.str f.name (s.toks+1)) w es).length≤1000:=by
   rw [r'.length];have:=N8 f av fs;lia
  have q:∀ h',Fr φ.G.h φ.env.locals h' m→News φ.G.h φ.env.locals h' news'→Qc () {s with heap:=h',toks:=s.toks+2}:=fun h' F' N'=>k _ _ h3 (up h' (s.toks+2) F' N')
  with_reducible exact set_dict R.F φ.G.X R.N I rfl d1 d2 d3 d4 d5 rfl U hz q
|_=>exact False.elim h
end
section
variable {n:Nat}{κ:Cx}{loc:Zc}{σ:List Za}{Q:Zq}{X:Zx}
noncomputable def WG (e:Expr):Bool:=!e.ctorIdx.beq 16
theorem Nq {o:Expr}(h:WG o=true)(attr:Str)(env:Env)(w:Sem Value):attributeBase o attr env w=w:=by
 cases o<;>first|rfl|cases h
theorem WE.attr {o:Expr}{f:ZE}{pos:Pos}(hb:WG o=true)(h:WE n κ o loc σ (fun v σ₁=>WQ f v σ₁ Q) X):WE n κ (.Attribute o f.name pos) loc σ Q X:=by
 intro φ ex β s Qc Ec hr hf R kQ kX
 rw [arm_eval_Attribute,Nq hb]
 with_reducible refine Zb.bind ?_
 with_reducible refine h.go hr hf R (fun v av σ₁ β₁ s₁ q₁ p₁ R₁ v₁=>?_) kX
 have kq':=Zz.ge kQ p₁
 have hg:wpAny (Zd φ.G) φ.A (getAttr v f.name true) (fun r s₂=>wpAny (Zd φ.G) φ.A (letTemporaryGo o v r >>= fun _=>pure r) Qc Ec s₂) Ec s₁:=by
  with_reducible refine Bg R₁ v₁ q₁ fun w bw σ₂ β₂ s₂ q₂ p₂ R₂ v₂=>?_
  have q:=kq' w bw σ₂ β₂ s₂ q₂ p₂ R₂ v₂
  with_reducible exact wpAny_bind (wpAny_letTemporaryGo (wpAny_pure q))
 exact .of (wpAny_bind (wpAny_standAt (wpAny_bind (wpAny_holding hg))))
end
noncomputable def gp (x:Str)(a:Addr):Str×Addr:=(x,a)
noncomputable def X4:List (Str×Addr):=[gp "CutShort" 45,gp "BadCode" 57,gp "BadArgument" 69,gp "counts_by_length" 78,gp "room_of" 85,gp "room_left" 92,gp "check_lengths" 100,gp "greatest_length" 107,gp "first_codes" 114,gp "canonical" 121,gp "by_length" 128,
 gp "PrefixReader" 153,gp "PrefixWriter" 188,gp "need_count" 199,gp "need_value" 206,gp "end_of" 213,gp "gathered" 220,gp "LowReader" 301,gp "LowWriter" 371,gp "_law_pool" 382,gp "_law_take" 389,gp "_law_full" 396,gp "_law_other" 401,gp "_law_space" 408,
 gp "_law_lets" 413,gp "_law_checked" 420,gp "_law_codes" 425,gp "_law_free" 430,gp "_law_bits" 435,gp "_law_read" 442,gp "_law_told" 449,gp "_law_written_right" 454,gp "_law_unwritten" 461,gp "_law_lone_right" 466,gp "_law_deep_right" 473,gp "law" 478]
theorem ZbL (P:Wp):(X4.all fun p=>(nsIn (KK P) mainGlobals p.1==some (some (.ref p.2)))&&keepIn (KK P) (.ref p.2))=true:=by kernel_rfl
theorem GF (P:Wp){x:Str}{a:Addr}(h:X4.lookup x=some a):nsIn (KK P) mainGlobals x=some (some (.ref a))∧keepIn (KK P) (.ref a)=true:=by
 have:=List.all_eq_true.mp (ZbL P) (x,a) (mem_of_lookup h)
 simpa using this
noncomputable def YW:List (Str×Value):=[("len",.builtin "len"),("range",.type "range"),("max",.builtin "max"),("abs",.builtin "abs"),("int",.type "int"),("str",.type "str"),("bytes",.type "bytes"),("bytearray",.type "bytearray"),("list",.type "list"),
 ("sorted",.builtin "sorted"),("isinstance",.builtin "isinstance"),("enumerate",.type "enumerate"),("bool",.type "bool"),("ValueError",.type "ValueError")]
theorem RZ (P:Wp):(YW.all fun p=>(nsIn (KK P) mainGlobals p.1==some none)&&(bootBuiltins p.1==some p.2)&&!(p.1 == "__name__"))=true:=by kernel_rfl
theorem RY (P:Wp){x:Str}{v:Value}(h:YW.lookup x=some v):nsIn (KK P) mainGlobals x=some none∧bootBuiltins x=some v∧x ≠ "__name__" := by
 have:=List.all_eq_true.mp (RZ P) (x,v) (mem_of_lookup h)
 simp only [Bool.and_eq_true,beq_iff_eq] at this
 exact ⟨this.1.1,this.1.2,fun e=>by subst e;simp at this⟩
theorem Gy {φ:Fx}{xs:List Str}{ex:List (Addr×Obj)}{β:List Addr}{loc:Zc}{σ:List Za}{s:Ws}{Qc Ec:Value→Ws→Prop}(R:Rl φ xs ex β loc σ s){x:Str}{a:Addr}{pos:Pos}(hx:X4.lookup x=some a)
  (hk:φ.env.kindOf x=some .globalImplicit) (hd:(x==("__debug__" : Str))=false) (h:Qc (.ref a) s):wpAny (Zd φ.G) φ.A (eval (.Name x pos) φ.env) Qc Ec s:=by
 obtain ⟨b0z,cs,frn,m,R⟩:=R
 have e:=(GF φ.G.w.params hx).1
 have hg:s.heap.Ns φ.env.globals φ.G.mg:=by rw [R.ok.glob];exact φ.G.g.keeps R.F.keep
 have hv:=mg_of φ.G.X φ.G.g e
 have hkind:=R.ok.kind
 have ld:wpAny (Zd φ.G) φ.A (loadGlobal φ.env x) Qc Ec s:=by with_reducible exact loadGlobal_global hg hv h
 with_reducible exact Name_function_global hkind hk ld hd
theorem XJ {φ:Fx}{xs:List Str}{ex:List (Addr×Obj)}{β:List Addr}{loc:Zc}{σ:List Za}{s:Ws}{Qc Ec:Value→Ws→Prop}(R:Rl φ xs ex β loc σ s){x:Str}{v:Value}{pos:Pos}(hx:YW.lookup x=some v)
  (hk:φ.env.kindOf x=some .globalImplicit) (hd:(x==("__debug__" : Str))=false) (h:Qc v s):wpAny (Zd φ.G) φ.A (eval (.Name x pos) φ.env) Qc Ec s:=by
 obtain ⟨b0z,cs,frn,m,R⟩:=R
 obtain ⟨e1,e2,e3⟩:=RY φ.G.w.params hx
 have hg:s.heap.Ns φ.env.globals φ.G.mg:=by rw [R.ok.glob];exact φ.G.g.keeps R.F.keep
 have hb:s.heap.Ns φ.env.builtins φ.G.mb:=by rw [R.ok.blt];exact φ.G.b.keeps R.F.keep
 have hm:=mg_none_of φ.G.X φ.G.g e1
 have hv:φ.G.mb x=some v:=(φ.G.bt x e3).trans e2
 have hkind:=R.ok.kind
 have ld:wpAny (Zd φ.G) φ.A (loadGlobal φ.env x) Qc Ec s:=by with_reducible exact loadGlobal_builtin hg hm hb hv h
 with_reducible exact Name_function_global hkind hk ld hd
noncomputable def ZN (es:List Expr):Bool:=es.all fun e=>!ZQ e
theorem HE {es:List Expr}(h:ZN es=true)(pos:Pos)(env:Env):(backTo pos (starEach es env)).any (·.1)=false:=by
 induction es with
|nil=>rfl
|cons e es ih=>
  simp only [ZN,List.all_cons,Bool.and_eq_true,Bool.not_eq_true'] at h
  rw [Uo h.1]
  have:=ih h.2
  exact this
section
variable {M:Model}{A:Around}{s:Ws}{env:Env}{pos:Pos}{f:Value}{first:List Value}{Q E:Value→Ws→Prop}
theorem Gi {h₀:Heap}{K:Frag}{es:List Expr}(X:K.In s.heap)(hk:keepIn K f=true)(hs:ZN es=true)(h:Zb M A (spliced (backTo pos (starEach es env))) (fun vs s₁=>K.In s₁.heap∧Zb M A (call f (first++vs)) Q E s₁) E s) :
  Zb M A (callWith pos f first (backTo pos (starEach es env)) []) Q E s:=by
 have hp:((backTo pos (starEach es env)).any (·.1)||([]:List (Option Str×Sem Value)).any (·.1.isNone))=false:=by
  rw [HE hs];rfl
 refine Bc (P:=K.In) hp (fun h X=>keeps_K hk h X) ?_
 cases es with
|nil=>
  have h':Zb M A (spliced []) (fun vs s₁=>K.In s₁.heap∧Zb M A (call f (first++vs)) Q E s₁) E s:=h
  exact .of (evalArgs_nil3 ⟨X,fun Γ p a b c=>(h' Γ p a b c).2 Γ p a b c⟩)
|cons e es=>
  have h1:ZQ e=false:=by simp [ZN] at hs;simpa using hs.1
  rw [Uo h1] at h ⊢
  exact N9 h
end
section
variable {M:Model}{A:Around}{s:Ws}{env:Env}{pos:Pos}{f:Value}{first:List Value}{Q E:Value→Ws→Prop}
theorem X1 {es:List Expr}(hf:∀ a,f≠.ref a)(hs:ZN es=true)(h:Zb M A (spliced (backTo pos (starEach es env))) (fun vs s₁=>Zb M A (call f (first++vs)) Q E s₁) E s) :
  Zb M A (callWith pos f first (backTo pos (starEach es env)) []) Q E s:=by
 have hk:∀ h:Heap,True→∃ k,(k=Keeper.frame∨k=Keeper.machine∨k=Keeper.boundFrame)∧Looks M h (keeperOf f) k:=fun h _=>⟨.machine,.inr (.inl rfl),by
  have:keeperOf f=pure .machine:=by
   cases f<;>first|rfl|exact absurd rfl (hf _)
  rw [this];exact .now⟩
 have hp:((backTo pos (starEach es env)).any (·.1)||([]:List (Option Str×Sem Value)).any (·.1.isNone))=false:=by
  rw [HE hs];rfl
 refine Bc (P:=fun _=>True) hp hk ?_
 cases es with
|nil=>
  have h':Zb M A (spliced []) (fun vs s₁=>Zb M A (call f (first++vs)) Q E s₁) E s:=h
  exact .of (evalArgs_nil3 ⟨trivial,fun Γ p a b c=>(h' Γ p a b c) Γ p a b c⟩)
|cons e es=>
  have h1:ZQ e=false:=by simp [ZN] at hs;simpa using hs.1
  rw [Uo h1] at h ⊢
  exact N9 (h.mono (fun vs s₁ q=>⟨trivial,q⟩) fun _ _ x=>x)
noncomputable def Wk (es:List Expr)(apos pos:Pos):Bool:=ZN es&&decide (es.length<29)&&(apos.endLine==pos.line)
theorem HA {o:Expr}{name:Str}{apos pos:Pos}{es:List Expr}(hb:WG o=true)(hs:Wk es apos pos=true) :
  eval (.Call (.Attribute o name apos) es [] pos) env=(do
   let ov ← eval o env
   standAt apos.atName
   let (f,first) ← holding [ov] (getMethod ov name (do return (← importBound o env).getD true))
   callWith pos f first (backTo pos (starEach es env)) []):=by
 simp only [Wk,Bool.and_eq_true,decide_eq_true_eq] at hs
 obtain ⟨⟨h1,h2⟩,h3⟩:=hs
 rw [arm_eval_Call,Nq hb]
 have hform:methodCallForm (es.length+([]:List Keyword).length) (backTo pos (starEach es env)) (backToKw pos (keywordEach [] env))=true:=by
  unfold methodCallForm
  have:(backTo pos (starEach es env)).all (fun x=>!x.1)=true:=by
   have:=HE h1 pos env
   rw [List.all_eq_not_any_not]
   simpa using this
  rw [this]
  rw [show backToKw pos (keywordEach [] env)=[] from rfl]
  simp
  exact q7
 have hpos:methodCallPos true o env apos pos=pure pos:=by unfold methodCallPos;simp [h3]
 unfold methodCall
 rw [hform,hpos]
 rfl
end
inductive MN where
|read|cost|write|left|peek|skip|bits|bit|code|size|done
 deriving DecidableEq
noncomputable def MN.name:MN→Str
|.read => "read"|.cost => "cost"|.write => "write"|.left => "left"|.peek => "peek"|.skip => "skip"|.bits => "bits"|.bit => "bit"|.code => "code"|.size => "size"|.done => "done"
noncomputable def VU:Yk→MN→Option Addr
|.reader,.read=>some 150
|.writer,.cost=>some 178|.writer,.write=>some 185
|.lowR,.left=>some 242|.lowR,.peek=>some 249|.lowR,.skip=>some 256|.lowR,.bits=>some 263|.lowR,.bit=>some 270
|.lowW,.bits=>some 326|.lowW,.bit=>some 333|.lowW,.code=>some 340|.lowW,.size=>some 361|.lowW,.done=>some 368
|_,_=>none
noncomputable def Vm:Yk→Addr
|.reader=>143|.writer=>171|.lowR=>235|.lowW=>319
noncomputable def B3:List MN:=[.read,.cost,.write,.left,.peek,.skip,.bits,.bit,.code,.size,.done]
theorem MN.mem (m:MN):m∈B3:=by cases m<;>decide
noncomputable def Hz (K:Frag):Bool:=JV.all fun c=>(findIn K (.ref c.addr) "__init__" == some (some (.ref (Vm c))))&&isFn K (.ref (Vm c))&&(typeIn K (.ref (Vm c))==some (.type "function"))&&B3.all fun m=>(VU c m).all fun a=>
 (findIn K (.ref c.addr) m.name==some (some (.ref a)))&&isFn K (.ref a)&&keepIn K (.ref a)&&HF m.name
theorem B2 (P:Wp):Hz (KK P)=true:=by kernel_rfl
theorem Zdh (P:Wp){c:Yk}{m:MN}{a:Addr}(h:VU c m=some a):findIn (KK P) (.ref c.addr) m.name=some (some (.ref a))∧isFn (KK P) (.ref a)=true∧keepIn (KK P) (.ref a)=true∧HF m.name=true:=by
 have:=B2 P
 unfold Hz at this
 rw [List.all_eq_true] at this
 have:=this c c.mem
 simp only [Bool.and_eq_true,List.all_eq_true,beq_iff_eq] at this
 have:=this.2 m m.mem
 rw [h] at this
 simp only [Option.all_some,Bool.and_eq_true,beq_iff_eq] at this
 exact ⟨this.1.1.1,this.1.1.2,this.1.2,this.2⟩
theorem ZbX (P:Wp)(c:Yk):findIn (KK P) (.ref c.addr) "__init__" = some (some (.ref (Vm c)))∧typeIn (KK P) (.ref (Vm c))=some (.type "function"):=by
 have:=B2 P
 unfold Hz at this
 rw [List.all_eq_true] at this
 have:=this c c.mem
 simp only [Bool.and_eq_true,beq_iff_eq] at this
 exact ⟨this.1.1.1,this.1.2⟩
theorem Ml {A:Around}{args:Args}:(A.under (.builtin "type.__call__" args)).frames=A.frames∧(A.under (.builtin "type.__call__" args)).handled=A.handled ∧
  (A.under (.builtin "type.__call__" args)).depth≤A.depth+4∧(A.under (.builtin "type.__call__" args)).units≤A.units+20:=by
 refine ⟨?_,rfl,?_,?_⟩
 ·change pushEnvs (Code.builtin "type.__call__" args).envs A.frames=A.frames
  rw [show (Code.builtin "type.__call__" args).envs=[] from rfl];rfl
 ·change A.depth+(Code.builtin "type.__call__" args).weight≤_
  have:(Code.builtin "type.__call__" args).weight≤4:=by
   change _+_+_+_≤4
   rw [show (Code.builtin "type.__call__" args).frames=0 from rfl,show (Code.builtin "type.__call__" args).isCaller=false from rfl]
   split<;>split<;>simp
  lia
 ·change A.units+(1+3*(Code.builtin "type.__call__" args).frames)≤_
  rw [show (Code.builtin "type.__call__" args).frames=0 from rfl]
  simp
theorem ZG.tc {k:Nat}{A:Around}{args:Args}(h:ZG (k+1) A):ZG k (A.under (.builtin "type.__call__" args)):=by
 obtain ⟨a,b,c⟩:=h
 obtain ⟨_,h2,h3,h4⟩:=Ml (A:=A) (args:=args)
 exact ⟨fun _=>by rw [h2];exact a (by simp),by grind,by exact qDm ‹_› ‹_›⟩
section
variable {n:Nat}{κ:Cx}{loc:Zc}{σ:List Za}{Q:Zq}{X:Zx}
theorem ZP.kind {κ:Cx}{φ:Fx}(h:ZP κ φ)(x:Str):φ.env.kindOf x=κ.sc.lookup x:=by
 show φ.env.scope.names.lookup x=_;rw [h]
theorem Rl.kin {φ:Fx}{xs:List Str}{ex:List (Addr×Obj)}{β:List Addr}{loc:Zc}{σ:List Za}{s:Ws}(R:Rl φ xs ex β loc σ s):(KK φ.G.w.params).In s.heap:=by
 obtain ⟨_,_,_,_,R⟩:=R;exact R.kin
theorem WE.call {x:Str}{p pos:Pos}{es:List Expr}{a:Addr}(hx:X4.lookup x=some a)(hk:κ.sc.lookup x=some .globalImplicit)(hd:(x==("__debug__" : Str))=false)(hs:ZN es=true)
  (h:ZC n κ es loc σ (fun vs σ₁=>WF n a vs σ₁ Q X) X):WE n κ (.Call (.Name x p) es [] pos) loc σ Q X:=by
 intro φ ex β s Qc Ec hr hf R kQ kX
 with_reducible refine XK ?_
 have hk':=(hf.kind x).trans hk
 with_reducible refine Gy R hx hk' hd ?_
 have hK:=(GF φ.G.w.params hx).2
 have hin:=R.kin
 with_reducible refine Gi (h₀:=s.heap) hin hK hs ?_
 with_reducible refine h.go hr hf R (fun vs avs σ₁ β₁ s₁ q₁ p₁ R₁ v₁=>?_) kX
 refine ⟨R₁.kin,?_⟩
 have kq':=Zz.ge kQ p₁
 have kx':=Ye.ge kX p₁
 have c:=Gj R₁ hr rfl q₁ v₁ kq' kx'
 change Zb _ _ (PySem.call _ vs) _ _ _
 with_reducible refine Zb.call ?_
 exact c
theorem WE.om {o:Expr}{m:MN}{apos pos:Pos}{es:List Expr}(hb:WG o=true)(hs:Wk es apos pos=true)
  (h:WE n κ o loc σ (fun v σ₁=>∃ x c fs a,v=.obj x∧σ₁[x]?=some (.inst c fs)∧VU c m=some a∧ZC n κ es loc σ₁ (fun vs σ₂=>WF n a (v::vs) σ₂ Q X) X) X):WE n κ (.Call (.Attribute o m.name apos) es [] pos) loc σ Q X:=by
 intro φ ex β s Qc Ec hr hf R kQ kX
 with_reducible refine Hh ?_ (HA hb hs)
 with_reducible refine h.go hr hf R (fun v av σ₁ β₁ s₁ q₁ p₁ R₁ v₁=>?_) kX
 obtain ⟨x,c,fs,a,rfl,h1,h2,h3⟩:=q₁
 have R0:=R₁
 obtain ⟨b0z,cs,frn,mm,R₁⟩:=R₁
 obtain ⟨A,dx,es',n',e1,r,I,_⟩:=R₁.instAt h1
 have hv:=v₁.objAt e1
 subst hv
 obtain ⟨f1,f2,f3,f4⟩:=Zdh φ.G.w.params h2
 have C:=(Gk φ.G.w.params c).get m.name
 have hn:=RO r f4
 with_reducible refine method_inst R₁.F φ.G.X I C f1 f2 hn ?_
 have hin:=R₁.kin
 have hs':ZN es=true:=by simp only [Wk,Bool.and_eq_true] at hs;exact hs.1.1
 with_reducible refine Gi (h₀:=s₁.heap) hin f3 hs' ?_
 have kx₁:=Ye.ge kX p₁
 with_reducible refine h3.go hr hf R0 (fun vs avs σ₂ β₂ s₂ q₂ p₂ R₂ v₂=>?_) kx₁
 refine ⟨R₂.kin,?_⟩
 have kq':=Zz.ge kQ (p₁.trans p₂)
 have kx':=Ye.ge kX (p₁.trans p₂)
 have c:=Gj R₂ hr rfl q₂ (.cons (v₁.mono p₂) v₂) kq' kx'
 change Zb _ _ (PySem.call (.ref a) (.ref A::vs)) _ _ _
 with_reducible refine Zb.call ?_
 exact c
noncomputable def VW (n:Nat)(c:Yk)(vs:List AV)(σ:List Za)(Q:Zq)(X:Zx):Prop:=
 ∃ k,n=k+1∧WF k (Vm c) (.obj σ.length::vs) (σ++[.inst c []]) (fun r σ₂=>r=.none∧Q (.obj σ.length) σ₂) X
theorem Zd1 {φ:Fx}{xs:List Str}{ex:List (Addr×Obj)}{β:List Addr}{s:Ws}{Qc Ec:Value→Ws→Prop}{c:Yk}{vs:List Value}{avs:List AV}(hr:ZG n φ.A)(R:Rl φ xs ex β loc σ s)(hv:Ze (VR β) vs avs)(h:VW n c avs σ Q X)
  (kQ:Zz φ xs ex β loc Q Qc) (kX:Ye φ xs ex β loc X Ec):Zb (Zd φ.G) φ.A (call (.ref c.addr) vs) Qc Ec s:=by
 obtain ⟨k,rfl,h⟩:=h
 obtain ⟨b0z,cs,frn,m,R⟩:=R
 have C:=(Gk φ.G.w.params c).makes
 obtain ⟨i1,i2⟩:=ZbX φ.G.w.params c
 have hin:=R.kin
 refine Zb.call (Zbv R.F R.N hin C i1 i2 fun x dx h' F' N' hlt hlt'=>?_)
 have hp:β<+:β++[x]:=List.prefix_append _ _
 have R':Rl φ xs ex (β++[x]) loc (σ++[.inst c []]) {s with heap:=h',toks:=s.toks}:=by
  refine ⟨_,_,_,_,R.alloc (blk:=[(x,instObj c.addr dx),(dx,emptyDict)]) F' N' ⟨dx,[],0,rfl,.nil⟩ (by simpa using Nat.ne_of_gt hlt') ?_⟩
  intro p hp q hq
  have:=hlt q hq
  simp at hp
  rcases hp with rfl|rfl
  ·exact Nat.ne_of_lt (Nat.lt_trans this hlt')
  ·exact Nat.ne_of_lt this
 have hx:VR (β++[x]) (.ref x) (.obj σ.length):=⟨x,by rw [← R.real.len.1];simp,rfl⟩
 have hA:=(Ml (A:=φ.A) (args:=⟨.ref c.addr::vs,[]⟩)).1
 have cc:=Gj (Qc:=fun v s'=>v=.none∧Qc (.ref x) s') (Ec:=Ec) R' (ZG.tc (args:=⟨.ref c.addr::vs,[]⟩) hr) hA h (.cons hx (VR.monoL hp hv))
  (fun v av σ' β' s' q p R₂ hv'=>by
   obtain ⟨rfl,q⟩:=q
   exact ⟨hv',kQ _ _ σ' β' s' q (hp.trans p) R₂ (hx.mono p)⟩)
  (fun c σ' β' e s' x p E=>kX c σ' β' e s' x (hp.trans p) E)
 refine cc.mono fun r s' hr=>?_
 cases r with
|ok f=>cases f<;>first|exact hr|exact False.elim hr
|error e=>exact hr
theorem WE.new {x:Str}{p pos:Pos}{es:List Expr}{c:Yk}(hx:X4.lookup x=some c.addr)(hk:κ.sc.lookup x=some .globalImplicit)(hd:(x==("__debug__" : Str))=false)(hs:ZN es=true)
  (h:ZC n κ es loc σ (fun vs σ₁=>VW n c vs σ₁ Q X) X):WE n κ (.Call (.Name x p) es [] pos) loc σ Q X:=by
 intro φ ex β s Qc Ec hr hf R kQ kX
 with_reducible refine XK ?_
 have hk':=(hf.kind x).trans hk
 with_reducible refine Gy R hx hk' hd ?_
 have hK:=(GF φ.G.w.params hx).2
 have hin:=R.kin
 with_reducible refine Gi (h₀:=s.heap) hin hK hs ?_
 with_reducible refine h.go hr hf R (fun vs avs σ₁ β₁ s₁ q₁ p₁ R₁ v₁=>?_) kX
 refine ⟨R₁.kin,?_⟩
 have kq':=Zz.ge kQ p₁
 have kx':=Ye.ge kX p₁
 change Zb _ _ (PySem.call (.ref c.addr) vs) _ _ _
 with_reducible exact Zd1 hr R₁ v₁ q₁ kq' kx'
end
inductive XV where
|len|max|abs|int|str|bytes|list
 deriving DecidableEq
noncomputable def XV.name:XV→Str
|.len => "len"|.max => "max"|.abs => "abs"|.int => "int"|.str => "str"|.bytes => "bytes"|.list => "list"
noncomputable abbrev XV.val:XV→Value
|.len=>.builtin "len"|.max=>.builtin "max"|.abs=>.builtin "abs"|.int=>.type "int"|.str=>.type "str"|.bytes=>.type "bytes"|.list=>.type "list"
theorem XV.look (b:XV):YW.lookup b.name=some b.val:=by cases b<;>(unfold YW;kernel_rfl)
noncomputable def Xe (b:XV)(vs:List AV)(σ:List Za)(Q:Zq):Prop:=match b,vs with
|.len,[.str l]=>l.length≤1099511627776∧Q (.int l.length) σ
|.len,[.bytes l]=>l.length≤1099511627776∧Q (.int l.length) σ
|.len,[.obj x]=>∃ ls,σ[x]?=some (.list ls)∧ls.length≤1099511627776∧Q (.int ls.length) σ
|.max,[.obj x]=>∃ ns:List Int,σ[x]?=some (.list (ns.map .int))∧ns≠[]∧∀ M,M∈ns→(∀ a∈ns,a≤M)→Q (.int M) σ
|.max,[.int a,.int b]=>Q (.int (if b>a then b else a)) σ
|.abs,[.int a]=>Q (.int (if a<0 then -a else a)) σ
|.int,[.bool b]=>Q (.int (if b then 1 else 0)) σ
|.str,[.int a]=>(a=0∨a=1)∧Q (.str [48+a.toNat]) σ
|.bytes,[.obj x]=>∃ ns:List Int,σ[x]?=some (.list (ns.map .int))∧ns.length≤sizeLine∧(∀ n∈ns,0≤n∧n<256)∧Q (.bytes (ns.map fun n=>n.toNat.toUInt8)) σ
|.list,[.obj x]=>∃ ls,σ[x]?=some (.list ls)∧ls.length≤sizeLine∧Q (.obj σ.length) (σ++[.list ls])
|_,_=>False
section
variable {φ:Fx}{xs:List Str}{ex:List (Addr×Obj)}{β:List Addr}{loc:Zc}{σ:List Za}{s:Ws}{Q:Zq}{Qc Ec:Value→Ws→Prop}
theorem Yx {vs:List Value}{a:AV}(h:Ze (VR β) vs [a]):∃ v,vs=[v]∧VR β v a:=by
 cases h with
|cons r h=>cases h;exact ⟨_,rfl,r⟩
theorem T8 {vs:List Value}{a b:AV}(h:Ze (VR β) vs [a,b]):∃ v w,vs=[v,w]∧VR β v a∧VR β w b:=by
 cases h with
|cons r h=>cases h with
 |cons r' h=>cases h;exact ⟨_,_,rfl,r,r'⟩
theorem Zz.grown (k:Zz φ xs ex β loc Q Qc){b0z:List ZH}{cs frn:List (Addr×Obj)}{m:Str→Option Value}(R:Zi φ xs ex β loc σ b0z cs frn m s){v:Value}{av:AV}(hq:Q av σ)(hv:VR β v av){h':Heap}{tk:Nat}
  (F':Fr φ.G.h φ.env.locals h' m) (N':News φ.G.h φ.env.locals h' (Xl b0z cs ex frn)):Qc v {s with heap:=h',toks:=tk}:=
 k v av σ β _ hq (List.prefix_refl _) ⟨b0z,cs,frn,m,R.ok,R.real,R.up,F',N',R.nd,R.cells,R.loc,R.gens,R.os⟩ hv
theorem Ht (avs:List AV):avs=[]∨(∃ a,avs=[a])∨(∃ a b,avs=[a,b])∨∃ a b c r,avs=a::b::c::r:=by
 cases avs with
|nil=>exact .inl rfl
|cons a r=>cases r with
 |nil=>exact .inr (.inl ⟨a,rfl⟩)
 |cons b r=>cases r with
  |nil=>exact .inr (.inr (.inl ⟨a,b,rfl⟩))
  |cons c r=>exact .inr (.inr (.inr ⟨a,b,c,r,rfl⟩))
theorem RX {n:Nat}{b:XV}{vs:List Value}{avs:List AV}(hr:ZG n φ.A)(hn:n≠0)(R:Rl φ xs ex β loc σ s)(hv:Ze (VR β) vs avs)(h:Xe b avs σ Q)(k:Zz φ xs ex β loc Q Qc) :
  wpAny (Zd φ.G) φ.A (PySem.call b.val vs) Qc Ec s:=by
 have R0:=R
 have hh:=hr.1 hn
 obtain ⟨b0z,cs,frn,m,R⟩:=R
 rcases Ht avs with rfl|⟨a,rfl⟩|⟨a,b',rfl⟩|⟨_,_,_,_,rfl⟩
 ·cases b<;>exact False.elim h
 ·cases b with
 |len=>cases a with
  |str _=>
    obtain ⟨v,rfl,t,rfl⟩:=Yx hv
    obtain ⟨h1,h2⟩:=h
    have q:=k.tok R0 h2 (v:=.int _ (s.toks+1)) ⟨_,rfl⟩ (s.toks+1+1)
    with_reducible refine len_str (by rw [WJ];lia) ?_
    rw [WJ];exact q
  |bytes _=>
    obtain ⟨v,rfl,t,rfl⟩:=Yx hv
    obtain ⟨h1,h2⟩:=h
    have q:=k.tok R0 h2 (v:=.int _ (s.toks+1)) ⟨_,rfl⟩ (s.toks+1+1)
    with_reducible refine len_bytes (by rw [List.size_toArray];exact h1) ?_
    rw [List.size_toArray];exact q
  |obj _=>
    obtain ⟨v,rfl,hx⟩:=Yx hv
    obtain ⟨ls,h1,h2,h3⟩:=h
    obtain ⟨A,us,_,e1,r1,_,l1⟩:=R.listAt h1
    rw [hx.objAt e1]
    have hl:=r1.length
    have q:=k.tok R0 h3 (v:=.int _ (s.toks+1)) ⟨_,rfl⟩ (s.toks+1+1)
    with_reducible refine call_len_list l1 (by rw [List.size_toArray];grind) ?_
    rw [List.size_toArray,hl];exact q
  |_=>exact False.elim h
 |max=>cases a with
  |obj _=>
    obtain ⟨v,rfl,hx⟩:=Yx hv
    obtain ⟨ns,h1,h2,h3⟩:=h
    obtain ⟨A,us,_,e1,r1,_,l1⟩:=R.listAt h1
    rw [hx.objAt e1]
    have hi:=UJ r1
    have hne:0<ns.length:=List.length_pos_iff.mpr h2
    with_reducible refine kso_max R.F R.N l1 hi hne hh fun h' M t tk F' N' hm ha=>?_
    exact k.grown R (h3 M hm ha) ⟨t,rfl⟩ F' N'
  |_=>exact False.elim h
 |abs=>cases a with
  |int _=>
    obtain ⟨v,rfl,t,rfl⟩:=Yx hv
    with_reducible refine call_abs_int fun u tk=>?_
    exact k.tok R0 h ⟨u,rfl⟩ tk
  |_=>exact False.elim h
 |int=>cases a with
  |bool _=>
    obtain ⟨v,rfl,hx⟩:=Yx hv
    obtain rfl:=hx
    have q:=k.int R0 h s.toks (s.toks+1)
    with_reducible exact call_int_bool q
  |_=>exact False.elim h
 |str=>cases a with
  |int _=>
    obtain ⟨v,rfl,t,rfl⟩:=Yx hv
    obtain ⟨h1,h2⟩:=h
    have q:=k.str R0 h2 s.toks (s.toks+1)
    with_reducible refine PySem.P.str_of_int ?_ ?_
    ·rcases h1 with rfl|rfl<;>decide
    ·rcases h1 with rfl|rfl<;>exact q
  |_=>exact False.elim h
 |bytes=>cases a with
  |obj _=>
    obtain ⟨v,rfl,hx⟩:=Yx hv
    obtain ⟨ns,h1,h2,h3,h4⟩:=h
    obtain ⟨A,us,_,e1,r1,_,l1⟩:=R.listAt h1
    rw [hx.objAt e1]
    have hi:=UJ r1
    with_reducible refine bytes_K R.F R.N l1 hi h3 (by rw [r1.length];simpa using h2) hh fun h' t tk F' N' _=>?_
    exact k.grown R h4 ⟨t,rfl⟩ F' N'
  |_=>exact False.elim h
 |list=>cases a with
  |obj _=>
    obtain ⟨v,rfl,hx⟩:=Yx hv
    obtain ⟨ls,h1,h2,h3⟩:=h
    obtain ⟨A,us,c,e1,r1,hm,l1⟩:=R.listAt h1
    rw [hx.objAt e1]
    with_reducible refine kup_listOf R.F R.N hm rfl (fun D c h' F' N' hlt=>?_) (by simpa [r1.length] using h2)
    have hp:β<+:β++[D]:=List.prefix_append _ _
    refine k _ _ _ (β++[D]) _ h3 hp (R.alloc1 (tk:=s.toks) F' N' ⟨_,c,rfl,by simpa using VR.monoL hp r1⟩ hlt) ⟨D,?_,rfl⟩
    rw [← R.real.len.1];simp
  |_=>exact False.elim h
 ·cases b with
 |max=>cases a with
  |int _=>cases b' with
   |int _=>
     obtain ⟨v,w,rfl,⟨t,rfl⟩,⟨u,rfl⟩⟩:=T8 hv
     with_reducible refine max_two_N hh R.F R.N fun h' tk F' N'=>?_
     exact k.grown R h ⟨_,rfl⟩ F' N'
   |_=>exact False.elim h
  |_=>exact False.elim h
 |_=>cases a<;>first|exact False.elim h|(cases b'<;>exact False.elim h)
 ·cases b<;>first|exact False.elim h|(rename_i a b2 _ _;cases a<;>first|exact False.elim h|(cases b2<;>exact False.elim h))
end
inductive BM where
|append|insert|extend|join|bapp
 deriving DecidableEq
noncomputable def BM.name:BM→Str
|.append => "append"|.insert => "insert"|.extend => "extend"|.join => "join"|.bapp => "append"
noncomputable def BM.ty:BM→String
|.join => "str"|.bapp => "bytearray"|_ => "list"
noncomputable abbrev BM.id:BM→String
|.append => "list.append"|.insert => "list.insert"|.extend => "list.extend"|.join => "str.join"|.bapp => "bytearray.append"
theorem BM.slot (b:BM):Slot b.ty b.name b.id:=by
 cases b
 ·exact PySem.F.slot_list_append
 ·exact PySem.F.slot_list_insert
 ·exact PySem.F.slot_list_extend
 ·exact PySem.F.slot_str_join
 ·exact BF.slot_append
theorem BM.type (b:BM):typeOf (.builtin b.id)=pure (.type "method_descriptor"):=by
 cases b
 ·exact PySem.F.type_list_append
 ·exact PySem.F.type_list_insert
 ·exact PySem.F.type_list_extend
 ·exact PySem.F.type_str_join
 ·exact BF.type_append
theorem BM.plain (b:BM):PlainAttrs b.ty:=by
 cases b
 ·exact PySem.F.plainAttrs_list
 ·exact PySem.F.plainAttrs_list
 ·exact PySem.F.plainAttrs_list
 ·exact PySem.F.plainAttrs_str
 ·exact BF.plainAttrs_ba
noncomputable def Wq (b:BM)(a:AV)(σ:List Za):Prop:=match b,a with
|.join,.str _=>True
|.join,_=>False
|.bapp,.obj x=>∃ l,σ[x]?=some (.barr l)
|.bapp,_=>False
|_,.obj x=>∃ ls,σ[x]?=some (.list ls)
|_,_=>False
noncomputable def X0 (b:BM)(a:AV)(vs:List AV)(σ:List Za)(Q:Zq):Prop:=match b,a,vs with
|.append,.obj x,[v]=>∃ ls,σ[x]?=some (.list ls)∧ls.length≤sizeLine∧Q .none (σ.set x (.list (ls++[v])))
|.insert,.obj x,[.int i,v]=>∃ ls,σ[x]?=some (.list ls)∧ls.length≤sizeLine∧0≤i∧i<2^63∧Q .none (σ.set x (.list (ls.take i.toNat++v::ls.drop i.toNat)))
|.extend,.obj x,[.obj y]=>∃ ls ms,σ[x]?=some (.list ls)∧σ[y]?=some (.list ms)∧ms≠[]∧ls.length+ms.length≤1000000∧Q .none (σ.set x (.list (ls++ms)))
|.join,.str [],[.obj x]=>∃ ls:List (List Nat),σ[x]?=some (.list (ls.map .str))∧ls.flatten.length≤1000000∧Q (.str ls.flatten) σ
|.bapp,.obj x,[.int i]=>∃ l,σ[x]?=some (.barr l)∧0≤i∧i<256∧l.length+1≤sizeLine∧Q .none (σ.set x (.barr (l++[i.toNat.toUInt8])))
|_,_,_=>False
theorem Zb9 (l:List Value)(i:Int)(y:Value)(h:0≤i):kl_ins l i y=l.take i.toNat++y::l.drop i.toNat:=by
 unfold kl_ins
 rw [if_neg (by lia)]
 by_cases q:i.toNat≤l.length
 ·rw [Nat.min_eq_left q]
 ·rw [Nat.min_eq_right (by omega),List.take_of_length_le (Nat.le_refl _),List.take_of_length_le (by grind),List.drop_of_length_le (Nat.le_refl _),List.drop_of_length_le (by grind)]
theorem ZgS {β:List Addr}{vs:List Value}{ss:List (List Nat)}(h:Ze (VR β) vs (ss.map .str)):StrsAre vs (ss.map fun l=>⟨l.toArray⟩):=by
 induction ss generalizing vs with
|nil=>cases h;exact .nil
|cons n ns ih=>
  rw [List.map_cons] at h
  cases h with
 |cons r h=>obtain ⟨t,rfl⟩:=r;exact .cons _ t (ih h)
theorem Bv:∀ ls:List (List Nat),Str.join ⟨#[]⟩ (ls.map fun l=>⟨l.toArray⟩)=⟨ls.flatten.toArray⟩
|[]=>rfl
|[x]=>by simp [Str.join]
|x::y::r=>by
  have ih:=Bv (y::r)
  simp only [List.map_cons] at ih ⊢
  rw [Str.join,ih]
  ·exact Str.ext' (by rw [Str.cps_append,Str.cps_append];simp)
  ·intro q;cases q
section
variable {φ:Fx}{xs:List Str}{ex:List (Addr×Obj)}{β:List Addr}{loc:Zc}{σ:List Za}{s:Ws}{Q:Zq}{Qc Ec:Value→Ws→Prop}
theorem Zi.barrSet {b0z:List ZH}{cs frn:List (Addr×Obj)}{m:Str→Option Value}(R:Zi φ xs ex β loc σ b0z cs frn m s){i:Nat}{l:List UInt8}(hi:σ[i]?=some (.barr l)) :
  ∃ a,β[i]?=some a∧s.heap.get? a=some {cls:=.type "bytearray",data:=.bytearray l.toArray 0} ∧
   ∀ h' tk l',h'.get? a=some {cls:=.type "bytearray",data:=.bytearray l'.toArray 0}→(∀ b o,b≠a→s.heap.get? b=some o→h'.get? b=some o)→Rl φ xs ex β loc (σ.set i (.barr l')) {s with heap:=h',toks:=tk}:=by
 obtain ⟨a,b,pre,post,e1,hb,e3,k⟩:=R.real.at hi
 obtain rfl:b=[(a,{cls:=.type "bytearray",data:=.bytearray l.toArray 0})]:=hb
 refine ⟨a,e1,(R.N (a,{cls:=.type "bytearray",data:=.bytearray l.toArray 0}) (by rw [e3];simp)).1,fun h' tk l' g1 g2=>?_⟩
 exact R.updK (o:=.barr l) (a:=a) (D:=a) (tk:=tk) e3 (k _ [(a,{cls:=.type "bytearray",data:=.bytearray l'.toArray 0})] rfl) g2 (by simp) (by simp) g1 (by simp) (by simp)
theorem NA {b:BM}{a:AV}{v:Value}{vs:List Value}{avs:List AV}(R:Rl φ xs ex β loc σ s)(hv:VR β v a)(hvs:Ze (VR β) vs avs)(h:X0 b a avs σ Q)(k:Zz φ xs ex β loc Q Qc) :
  Zb (Zd φ.G) φ.A (PySem.call (.builtin b.id) (v::vs)) Qc Ec s:=by
 have R0:=R
 obtain ⟨b0z,cs,frn,m,R⟩:=R
 rcases Ht avs with rfl|⟨b1,rfl⟩|⟨b1,b2,rfl⟩|⟨_,b1,_,_,rfl⟩
 ·cases b<;>cases a<;>first|exact False.elim h|(rename_i l;cases l<;>exact False.elim h)
 ·cases b with
 |append=>cases a with
  |obj _=>
    obtain ⟨w,rfl,hw⟩:=Yx hvs
    obtain ⟨ls,h1,h2,h3⟩:=h
    obtain ⟨A,us,n,e1,r1,hm,l1,up⟩:=R.listUp h1
    rw [hv.objAt e1]
    obtain ⟨news',U,up⟩:=up (us++[w]) (n+1) _ (r1.snoc hw)
    have q:∀ h',Fr φ.G.h φ.env.locals h' m→News φ.G.h φ.env.locals h' news'→Qc .none {s with heap:=h'}:=fun h' F' N'=>k _ _ _ β _ h3 (List.prefix_refl _) (up h' s.toks F' N') rfl
    have U':Upd A (listOf us.toArray n) (listOf (us.toArray.push w) (n+1)) (Xl b0z cs ex frn) news':=by rw [List.push_toArray];exact U
    with_reducible exact .of (append_K R.F R.N U' q (by rw [List.size_toArray,r1.length];exact h2))
  |_=>exact False.elim h
 |extend=>cases a with
  |obj _=>cases b1 with
   |obj _=>
     obtain ⟨w,rfl,hw⟩:=Yx hvs
     obtain ⟨ls,ms,h1,h2,h3,h4,h5⟩:=h
     obtain ⟨A,us,n,e1,r1,hm,l1,up⟩:=R.listUp h1
     obtain ⟨B,ws,n2,e2,r2,hm2,l2⟩:=R.listAt h2
     rw [hv.objAt e1,hw.objAt e2]
     obtain ⟨news',U,up⟩:=up (us++ws) (n+1) _ (r1.append r2)
     have q:∀ h',Fr φ.G.h φ.env.locals h' m→News φ.G.h φ.env.locals h' news'→Qc .none {s with heap:=h'}:=fun h' F' N'=>k _ _ _ β _ h5 (List.prefix_refl _) (up h' s.toks F' N') rfl
     have a1:=r1.length
     have a2:=r2.length
     have hz:sizeLine=2^24:=rfl
     have hne:ws.toArray.toList.length≠0:=by
      have:ms.length≠0:=by simpa using h3
      simp;intro hh;subst hh;simp at a2;lia
     with_reducible exact .of (kl_extend R.F R.N hm2 (l:=us++ws) (by simp) hne U (by simp [Builtin.List.listTooLong];grind) (by simp;omega) (by simp;lia) q)
   |_=>exact False.elim h
  |_=>exact False.elim h
 |join=>cases a with
  |str l=>cases l with
   |nil=>cases b1 with
    |obj _=>
      obtain ⟨w,rfl,hw⟩:=Yx hvs
      obtain ⟨ls,h1,h2,h3⟩:=h
      obtain ⟨t,rfl⟩:=hv
      obtain ⟨A,us,n,e1,r1,hm,l1⟩:=R.listAt h1
      rw [hw.objAt e1]
      have hi:=ZgS r1
      have hok:((ls.map fun l=>(⟨l.toArray⟩:Str)).map (·.length)).sum+(ls.map fun l=>(⟨l.toArray⟩:Str)).length*(⟨[].toArray⟩:Str).length≤16777216:=by
       have:((ls.map fun l=>(⟨l.toArray⟩:Str)).map (·.length)).sum=ls.flatten.length:=by
        rw [List.length_flatten,List.map_map];congr 1
       rw [this,WJ,List.length_nil,Nat.mul_zero];exact q4
      with_reducible refine .of (join_list l1 hi hok fun t' tk=>?_)
      have e:Txt.join ⟨[].toArray⟩ (ls.map fun l=>⟨l.toArray⟩)=⟨ls.flatten.toArray⟩:=by
       unfold Txt.join;rw [StrLaws.glued_eq_join];exact Bv ls
      rw [e]
      exact k.tok R0 h3 ⟨t',rfl⟩ tk
    |_=>exact False.elim h
   |cons _ _=>exact False.elim h
  |_=>exact False.elim h
 |bapp=>cases a with
  |obj _=>cases b1 with
   |int _=>
     obtain ⟨w,rfl,hw⟩:=Yx hvs
     obtain ⟨t,rfl⟩:=hw
     obtain ⟨l,h1,h2,h3,h4,h5⟩:=h
     obtain ⟨A,e1,l1,k'⟩:=R.barrSet h1
     rw [hv.objAt e1]
     exact Za2 l1 h2 h3 h4 fun h' g1 g2=>k _ _ _ β _ h5 (List.prefix_refl _) (k' h' s.toks _ g1 g2) rfl
   |_=>exact False.elim h
  |_=>exact False.elim h
 |insert=>cases a<;>first|exact False.elim h|(cases b1<;>exact False.elim h)
 ·cases b with
 |insert=>cases a with
  |obj _=>cases b1 with
   |int _=>
     obtain ⟨w,w',rfl,⟨t,rfl⟩,hw⟩:=T8 hvs
     obtain ⟨ls,h1,h2,h3,h4,h5⟩:=h
     obtain ⟨A,us,n,e1,r1,hm,l1,up⟩:=R.listUp h1
     rw [hv.objAt e1]
     rename_i i
     have r2:Ze (VR β) (us.take i.toNat++w'::us.drop i.toNat) (ls.take i.toNat++_::ls.drop i.toNat):=(r1.take _).append (.cons hw (r1.drop _))
     obtain ⟨news',U,up⟩:=up _ (n+1) _ r2
     have q:∀ h',Fr φ.G.h φ.env.locals h' m→News φ.G.h φ.env.locals h' news'→Qc .none {s with heap:=h'}:=fun h' F' N'=>k _ _ _ β _ h5 (List.prefix_refl _) (up h' s.toks F' N') rfl
     have e:kl_ins us.toArray.toList i w'=us.take i.toNat++w'::us.drop i.toNat:=by rw [Zb9 _ _ _ h3]
     have hf:Builtin.List.listFitsIndex i=true:=by simp only [Builtin.List.listFitsIndex,Bool.and_eq_true,decide_eq_true_eq];lia
     with_reducible exact .of (kl_insert R.F R.N hf e U (by simpa [r1.length] using h2) q)
   |_=>exact False.elim h
  |_=>exact False.elim h
 |_=>cases a<;>first|exact False.elim h|(cases b1<;>exact False.elim h)|(rename_i l;cases l<;>first|exact False.elim h|(cases b1<;>exact False.elim h))
 ·rename_i b0 _ _
  cases b<;>cases a<;>first|exact False.elim h|(cases b0<;>exact False.elim h)|(rename_i l;cases l<;>first|exact False.elim h|(cases b0<;>exact False.elim h))
end
section
variable {n:Nat}{κ:Cx}{loc:Zc}{σ:List Za}{Q:Zq}{X:Zx}
theorem WE.bm {o:Expr}{b:BM}{apos pos:Pos}{es:List Expr}(hb:WG o=true)(hs:Wk es apos pos=true)
  (h:WE n κ o loc σ (fun v σ₁=>Wq b v σ₁∧ZC n κ es loc σ₁ (fun vs σ₂=>X0 b v vs σ₂ Q) X) X):WE n κ (.Call (.Attribute o b.name apos) es [] pos) loc σ Q X:=by
 intro φ ex β s Qc Ec hr hf R kQ kX
 with_reducible refine Hh ?_ (HA hb hs)
 with_reducible refine h.go hr hf R (fun v av σ₁ β₁ s₁ q₁ p₁ R₁ v₁=>?_) kX
 obtain ⟨h1,h2⟩:=q₁
 have kx₁:=Ye.ge kX p₁
 have hT:s₁.TypeIs v b.ty∧∀ a,v=.ref a→∃ o,s₁.heap.get? a=some o∧o.dict=none:=by
  have lst:(∃ x ls,av=.obj x∧σ₁[x]?=some (.list ls))→s₁.TypeIs v "list" ∧ ∀ a,v=.ref a→∃ o,s₁.heap.get? a=some o∧o.dict=none:=by
   rintro ⟨x,ls,rfl,hx⟩
   obtain ⟨b0z,cs,frn,m,R₁⟩:=R₁
   obtain ⟨A,us,n,e1,r1,hm,l1⟩:=R₁.listAt hx
   rw [v₁.objAt e1]
   exact ⟨Heap.IsList.typeIs (s:=s₁) l1,fun a e=>by cases e;exact ⟨_,(R₁.N _ hm).1,rfl⟩⟩
  have str:(∃ l,av=.str l)→s₁.TypeIs v "str" ∧ ∀ a,v=.ref a→∃ o,s₁.heap.get? a=some o∧o.dict=none:=by
   rintro ⟨l,rfl⟩
   obtain ⟨t,rfl⟩:=v₁
   exact ⟨typeIs_str _ _ _,fun a e=>by cases e⟩
  have ba:(∃ x l,av=.obj x∧σ₁[x]?=some (.barr l))→s₁.TypeIs v "bytearray" ∧ ∀ a,v=.ref a→∃ o,s₁.heap.get? a=some o∧o.dict=none:=by
   rintro ⟨x,l,rfl,hx⟩
   obtain ⟨b0z,cs,frn,m,R₁⟩:=R₁
   obtain ⟨A,e1,l1,_⟩:=R₁.barrSet hx
   rw [v₁.objAt e1]
   exact ⟨⟨_,l1,rfl⟩,fun a e=>by cases e;exact ⟨_,l1,rfl⟩⟩
  cases b<;>cases av<;>first|exact False.elim h1|exact ba (by obtain ⟨l,e⟩:=h1;exact ⟨_,l,rfl,e⟩)|exact str ⟨_,rfl⟩|exact lst ⟨_,h1.1,rfl,h1.2⟩|exact lst (by obtain ⟨ls,e⟩:=h1;exact ⟨_,ls,rfl,e⟩)
 with_reducible refine getMethod_builtin hT.1 b.plain b.slot b.type hT.2 ?_
 have hs':ZN es=true:=by simp only [Wk,Bool.and_eq_true] at hs;exact hs.1.1
 with_reducible refine X1 (fun _ e=>by cases e) hs' ?_
 with_reducible refine h2.go hr hf R₁ (fun vs avs σ₂ β₂ s₂ q₂ p₂ R₂ v₂=>?_) kx₁
 have kq':=Zz.ge kQ (p₁.trans p₂)
 have v₁':=v₁.mono p₂
 change Zb _ _ (PySem.call (.builtin b.id) (v::vs)) _ _ _
 exact NA R₂ v₁' v₂ q₂ kq'
theorem WE.blt {x:Str}{b:XV}{p pos:Pos}{es:List Expr}(hn:n≠0)(hx:x=b.name)(hk:κ.sc.lookup x=some .globalImplicit)(hd:(x==("__debug__" : Str))=false)(hs:ZN es=true)
  (h:ZC n κ es loc σ (fun vs σ₁=>Xe b vs σ₁ Q) X):WE n κ (.Call (.Name x p) es [] pos) loc σ Q X:=by
 subst hx
 intro φ ex β s Qc Ec hr hf R kQ kX
 with_reducible refine XK ?_
 have hk':=(hf.kind b.name).trans hk
 with_reducible refine XJ R b.look hk' hd ?_
 with_reducible refine X1 (fun _ e=>by cases b<;>cases e) hs ?_
 with_reducible refine h.go hr hf R (fun vs avs σ₁ β₁ s₁ q₁ p₁ R₁ v₁=>?_) kX
 have kq':=Zz.ge kQ p₁
 change Zb _ _ (PySem.call b.val vs) _ _ _
 exact .of (RX hr hn R₁ v₁ q₁ kq')
end
noncomputable def ZZ:Zc→Nat→AV→Zc
|[],0,v=>[some v]
|[],i+1,v=>none::ZZ [] i v
|_::l,0,v=>some v::l
|x::l,i+1,v=>x::ZZ l i v
theorem BX (v:AV)(l:Zc)(i:Nat):(ZZ l i v)[i]?=some (some v):=by
 induction i generalizing l with
|zero=>cases l<;>rfl
|succ i ih=>cases l with
 |nil=>exact ih []
 |cons x l=>exact ih l
theorem Hx {v w:AV}{l:Zc}{i j:Nat}(h:j≠i)(e:(ZZ l i v)[j]?=some (some w)):l[j]?=some (some w):=by
 induction i generalizing l j with
|zero=>cases j with
 |zero=>exact absurd rfl h
 |succ j=>cases l with
  |nil=>exact e
  |cons x l=>exact e
|succ i ih=>cases l with
 |nil=>cases j with
  |zero=>exact nomatch (show some (none:Option AV)=some (some w) from e)
  |succ j=>exact ih (l:=[]) (j:=j) (fun q=>h (congrArg (·+1) q)) e
 |cons x l=>cases j with
  |zero=>exact e
  |succ j=>exact ih (j:=j) (fun q=>h (congrArg (·+1) q)) e
theorem Cc {α:Type}{l:List α}(h:l.Nodup){i j:Nat}{x:α}(hi:l[i]?=some x)(hj:l[j]?=some x):i=j:=by
 obtain ⟨h1,e1⟩:=List.getElem?_eq_some_iff.mp hi
 obtain ⟨h2,e2⟩:=List.getElem?_eq_some_iff.mp hj
 have hp:=List.pairwise_iff_getElem.mp h
 rcases Nat.lt_trichotomy i j with q|q|q
 ·exact absurd (e1.trans e2.symm) (hp i j h1 h2 q)
 ·exact q
 ·exact absurd (e2.trans e1.symm) (hp j i h2 h1 q)
section
variable {φ:Fx}{xs:List Str}{ex:List (Addr×Obj)}{β:List Addr}{loc:Zc}{σ:List Za}{s:Ws}
theorem Rl.store {Qc:Unit→Ws→Prop}{Ec:Value→Ws→Prop}(R:Rl φ xs ex β loc σ s){i:Nat}{x:Str}{v:Value}{av:AV}(hx:xs[i]?=some x)(hnd:xs.Nodup)
  (hk:φ.env.kindOf x=some .local∨(φ.comp=false∧φ.env.kindOf x=some .cell)) (hv:VR β v av) (k:∀ s',Rl φ xs ex β (ZZ loc i av) σ s'→Qc () s') :
  wpAny (Zd φ.G) φ.A (storeName φ.env x v) Qc Ec s:=by
 obtain ⟨b0z,cs,frn,m,R⟩:=R
 have hkind:=R.ok.kind
 rcases hk with hk|⟨hc,hk⟩
 ·have hp:(φ.env.scope.kind==.class||(φ.env.scope.kind==.module&&φ.env.locals != φ.env.globals))=false:=by rw [hkind];rfl
  have hNs:=R.F.ns
  with_reducible refine wpAny_storeName_local hk hNs (fun h' hn hs=>?_) hp
  refine k _ ⟨b0z,cs,frn,_,R.ok,R.real,R.up,R.F.set hn hs,R.N.set hs,R.nd,R.cells,fun j y aw h1 h2=>?_,R.gens,R.os⟩
  by_cases q:j=i
  ·subst q
   rw [hx] at h1;cases h1
   rw [BX] at h2;cases h2
   exact ⟨v,hv,.inl ⟨hk,by simp⟩⟩
  ·obtain ⟨w,w1,w2⟩:=R.loc j y aw h1 (Hx q h2)
   refine ⟨w,w1,w2.imp (fun w2=>⟨w2.1,?_⟩) id⟩
   have:y≠x:=fun e=>q (Cc hnd (by rw [← e];exact h1) hx)
   simp only [if_neg this];exact w2.2
 ·obtain ⟨hA,hsome⟩:=R.ok.cel hc
  obtain ⟨c,hcl⟩:=Option.isSome_iff_exists.mp (hsome x hk)
  have hmem:(x,c)∈φ.env.cells:=mem_of_lookup hcl
  have hcA:c∈cs.map Prod.fst:=by rw [R.cells.1,hA];exact List.mem_map_of_mem (f:=Prod.snd) hmem
  obtain ⟨p,hp,e⟩:=List.mem_map.mp hcA
  obtain ⟨pre,post,hcs⟩:=List.append_of_mem hp
  have hN:=R.N p (by simp only [List.mem_append];exact .inr (.inl hp))
  obtain ⟨v₀,hv₀⟩:=R.cells.2 p hp
  have hcell:s.heap.IsCell c v₀:=⟨p.2,by rw [← e];exact hN.1,hv₀⟩
  with_reducible refine wpAny_storeName_cell hkind hk hcl hcell fun h' hcell' hs=>?_
  obtain ⟨o',ho',hd'⟩:=hcell'
  have hLc:φ.env.locals≠c:=by rw [← e];exact Ne.symm hN.2.1
  have hGc:φ.G.h.get? c=none:=by rw [← e];exact hN.2.2
  have hnd2:=R.nd
  rw [hcs] at hnd2
  have hone:∀ q∈b0z.flatten++((pre++p::post)++(ex++frn)),q.1=c→q=p:=by
   intro q hq eq
   have hp2:p∈b0z.flatten++((pre++p::post)++(ex++frn)):=by simp
   have key:∀ {l:List (Addr×Obj)},(l.map Prod.fst).Nodup→∀ a∈l,∀ b∈l,a.1=b.1→a=b:=by
    intro l hl
    induction l with
   |nil=>intro a ha;cases ha
   |cons z zs ih=>
     rw [List.map_cons,List.nodup_cons] at hl
     intro a ha b hb hab
     rcases List.mem_cons.mp ha with ha2|ha2<;>rcases List.mem_cons.mp hb with hb2|hb2
     ·rw [ha2,hb2]
     ·exact absurd (by rw [← ha2,hab];exact List.mem_map_of_mem (f:=Prod.fst) hb2) hl.1
     ·exact absurd (by rw [← hb2,← hab];exact List.mem_map_of_mem (f:=Prod.fst) ha2) hl.1
     ·exact ih hl.2 a ha2 b hb2 hab
   exact key hnd2 q hq p hp2 (eq.trans e.symm)
  have hcs':(pre++(c,o')::post).map Prod.fst=cs.map Prod.fst:=by rw [hcs];simp [e]
  have hNot:∀ q,q∈pre++(c,o')::post→q=(c,o')∨(q∈cs∧q.1≠c):=by
   intro q hq
   simp only [List.mem_append,List.mem_cons] at hq
   have hne:q∈pre∨q∈post→q.1≠c:=by
    intro hq2 eq
    have:=hone q (by simp only [List.mem_append,List.mem_cons];grind) eq
    subst this
    have hz:=hnd2
    simp only [List.map_append,List.map_cons] at hz
    rw [List.nodup_append] at hz
    have hz2:=hz.2.1
    rw [List.nodup_append] at hz2
    have hz3:=hz2.1
    rw [List.nodup_append] at hz3
    rcases hq2 with hq2|hq2
    ·exact hz3.2.2 q.1 (List.mem_map_of_mem hq2) q.1 List.mem_cons_self rfl
    ·exact (List.nodup_cons.mp hz3.2.1).1 (List.mem_map_of_mem hq2)
   rcases hq with hq|rfl|hq
   ·exact .inr ⟨by rw [hcs];simp [hq],hne (.inl hq)⟩
   ·exact .inl rfl
   ·exact .inr ⟨by rw [hcs];simp [hq],hne (.inr hq)⟩
  refine k _ ⟨b0z,pre++(c,o')::post,frn,m,R.ok,R.real,R.up,⟨R.F.ns.sameBut hs hLc,fun b o eb=>(hs.2 b (fun q=>by rw [q,hGc] at eb;cases eb)).trans (R.F.keep b o eb),R.F.above⟩,fun q hq=>?_,?_,⟨hcs'.trans R.cells.1,fun q hq=>?_⟩,fun j y aw h1 h2=>?_,R.gens,R.os⟩
  ·by_cases hqc:q.1=c
   ·rcases (show q=(c,o')∨q=p from by
     simp only [List.mem_append] at hq
     by_cases hm:q∈pre++(c,o')::post
     ·rcases hNot q hm with hz|hz
      ·exact .inl hz
      ·exact absurd hqc hz.2
     ·exact .inr (hone q (by simp only [List.mem_append] at hm ⊢;lia) hqc)) with rfl|hqp
    ·exact ⟨ho',hLc.symm,hGc⟩
    ·subst hqp
     by_cases hm:q∈pre++(c,o')::post
     ·rcases hNot q hm with hz|hz
      ·rw [hz];exact ⟨ho',hLc.symm,hGc⟩
      ·exact absurd hqc hz.2
     ·exfalso
      have h3:q∈b0z.flatten++(ex++frn):=by simp only [List.mem_append] at hq hm ⊢;lia
      have hz:=hnd2
      simp only [List.map_append,List.map_cons] at hz
      rw [List.nodup_append] at hz
      obtain ⟨_,hz2,hz3⟩:=hz
      rw [List.nodup_append] at hz2
      rcases List.mem_append.mp h3 with h3|h3
      ·exact hz3 q.1 (List.mem_map_of_mem h3) q.1 (by simp) rfl
      ·exact hz2.2.2 q.1 (by simp) q.1 (by simp only [← List.map_append];exact List.mem_map_of_mem h3) rfl
   ·have hin:q∈b0z.flatten++(cs++(ex++frn)):=by
     have:q∈pre++(c,o')::post→q∈cs:=fun hm=>by
      rcases hNot q hm with hz|hz
      ·rw [hz] at hqc;exact absurd rfl hqc
      ·exact hz.1
     simp only [List.mem_append] at hq ⊢
     grind
    exact ⟨(hs.2 _ hqc).trans (R.N q hin).1,(R.N q hin).2⟩
  ·have:=R.nd
   simp only [List.map_append] at this hcs' ⊢
   rw [hcs'];exact this
  ·rcases hNot q hq with hz|hz
   ·exact ⟨some v,by rw [hz];exact hd'⟩
   ·exact R.cells.2 q hz.1
  ·by_cases q:j=i
   ·subst q
    rw [hx] at h1;cases h1
    rw [BX] at h2;cases h2
    exact ⟨v,hv,.inr ⟨.inl hk,c,o',hcl,by simp,hd'⟩⟩
   ·obtain ⟨w,w1,w2⟩:=R.loc j y aw h1 (Hx q h2)
    refine ⟨w,w1,w2.imp id fun w2=>⟨w2.1,?_⟩⟩
    obtain ⟨_,c',o,g1,g2,g3⟩:=w2
    have hyx:y≠x:=fun e=>q (Cc hnd (by rw [← e];exact h1) hx)
    have hcc:c'≠c:=by
     intro e'
     subst e'
     have m1:=mem_of_lookup g1
     have hcn:(φ.env.cells.map Prod.snd).Nodup:=by
      rw [← hA,← R.cells.1]
      have:=R.nd
      simp only [List.map_append] at this
      exact (List.nodup_append.mp (List.nodup_append.mp this).2.1).1
     have:∀ {l:List (Str×Addr)},(l.map Prod.snd).Nodup→∀ {a b:Str} {z:Addr},(a,z)∈l→(b,z)∈l→a=b:=by
      intro l hl
      induction l with
     |nil=>intro a b z ha;cases ha
     |cons u us ih=>
       rw [List.map_cons,List.nodup_cons] at hl
       intro a b z ha hb
       rcases List.mem_cons.mp ha with ha2|ha2<;>rcases List.mem_cons.mp hb with hb2|hb2
       ·rw [← ha2] at hb2;cases hb2;rfl
       ·exact absurd (by have:=List.mem_map_of_mem (f:=Prod.snd) hb2;rw [← ha2];exact this) hl.1
       ·exact absurd (by have:=List.mem_map_of_mem (f:=Prod.snd) ha2;rw [← hb2];exact this) hl.1
       ·exact ih hl.2 ha2 hb2
     exact hyx (this hcn m1 hmem)
    refine ⟨c',o,g1,?_,g3⟩
    simp only [List.mem_append,List.mem_cons] at g2 ⊢
    rcases g2 with g2|g2
    ·rw [hcs] at g2
     simp only [List.mem_append,List.mem_cons] at g2
     rcases g2 with g2|g2|g2
     ·exact .inl (.inl g2)
     ·exact absurd (by rw [← e,← g2]) hcc
     ·exact .inl (.inr (.inr g2))
    ·exact .inr g2
end
noncomputable def Vz (a i v:AV)(σ:List Za)(Q:List Za→Prop):Prop:=match a,i with
|.obj x,.int k=>(∃ ls,σ[x]?=some (.list ls)∧0≤k∧k<ls.length∧ls.length≤1000000∧Q (σ.set x (.list (ls.set k.toNat v)))) ∨
   (∃ kvs ep,σ[x]?=some (.dict kvs ep)∧(kvs.map Prod.fst).Nodup∧k∉kvs.map Prod.fst∧kvs.length≤1000000∧∀ ep',Q (σ.set x (.dict (kvs++[(k,v)]) ep')))
|_,_=>False
theorem Zb7 (l:List Value)(k:Nat)(v:Value)(h:k<l.length):ki_setL l k v=some (l.set k v):=by
 induction l generalizing k with
|nil=>exact absurd h (Nat.not_lt_zero _)
|cons x l ih=>cases k with
 |zero=>rfl
 |succ k=>
   have e:ki_setL (x::l) (k+1) v=(ki_setL l k v).map (x::·):=by kernel_rfl
   rw [e,ih k (Nat.lt_of_succ_lt_succ h)];rfl
theorem Zce {β:List Addr}{kv':List (Int×Value)}{kvs:List (Int×AV)}(h:Ze (Wg β) kv' kvs){k:Int}{v:Value}{av:AV}(hv:VR β v av)(hk:k∉kvs.map Prod.fst) :
  Ze (Wg β) (stored kv' k v) (kvs++[(k,av)]):=by
 have:kv'.any (fun kv=>kv.1=k)=false:=by
  rw [List.any_eq_false]
  intro p hp
  have:p.1∈kvs.map Prod.fst:=by rw [← Hs h];exact List.mem_map_of_mem hp
  simp
  intro e;exact hk (e▸this)
 unfold stored
 rw [this]
 exact h.snoc ⟨rfl,hv⟩
section
variable {φ:Fx}{xs:List Str}{ex:List (Addr×Obj)}{β:List Addr}{loc:Zc}{σ:List Za}{s:Ws}{Ec:Value→Ws→Prop}
theorem Qf {a i av:AV}{v w x:Value}{Q:List Za→Prop}{Qc:Unit→Ws→Prop}(R:Rl φ xs ex β loc σ s)(hv:VR β v a)(hw:VR β w i)(hx:VR β x av)(h:Vz a i av σ Q)
  (k:∀ σ' s',Q σ'→Rl φ xs ex β loc σ' s'→Qc () s'):wpAny (Zd φ.G) φ.A (setItem v w x) Qc Ec s:=by
 obtain ⟨b0z,cs,frn,m,R⟩:=R
 cases a with
|obj y=>cases i with
 |int n=>
   obtain ⟨t,rfl⟩:=hw
   rcases h with ⟨ls,h1,h2,h3,h4,h5⟩|⟨kvs,ep,h1,h2,h3,h4,h5⟩
   ·obtain ⟨A,us,c,e1,r1,hm,l1,up⟩:=R.listUp h1
    rw [hv.objAt e1]
    have hl:=r1.length
    obtain ⟨news',U,up⟩:=up (us.set n.toNat x) c _ (r1.set hx n.toNat)
    have e:=Zb7 us n.toNat x (by exact Internal.qBo ‹_› ‹_› ‹_›)
    have q:∀ h',Fr φ.G.h φ.env.locals h' m→News φ.G.h φ.env.locals h' news'→Qc () {s with heap:=h'}:=fun h' F' N'=>k _ _ h5 (up h' s.toks F' N')
    with_reducible exact ki_set R.F R.N h2 (by grind) e U q
   ·obtain ⟨A,o,kv',e1,hmod,d1,_,d2,hm,up⟩:=R.dictUp h1 h2
    rw [hv.objAt e1]
    have hD:s.heap.DictOf (intKind pw φ.G.w) A kv':=kda_dict R.N hm d1
    have hz:sizeLine=2^24:=rfl
    with_reducible refine wpAny_setItem_pairs (knd:=intKind pw φ.G.w) (intKind_is _ _ _ _) hD (fun h' hmm hs=>?_) (by have:=d2.length;lia)
    obtain ⟨o',ho',hd'⟩:=Heap.dictOf_iff.mp hmm
    obtain ⟨news',ep',U,up⟩:=up o' _ _ hd' (Zce d2 hx h3)
    have hN:=R.N _ hm
    obtain ⟨pre,post,e3,e4,a1,a2⟩:=U.split
    have N₀:=R.N
    change News _ _ _ (Xl b0z cs ex frn) at N₀
    rw [e3] at N₀
    have N':News φ.G.h φ.env.locals h' news':=by rw [e4];exact news_set N₀ a1 a2 hs ho'
    exact k _ _ (h5 ep') (up h' (s.toks+1) (R.F.change hs hN.2.1 hN.2.2) N')
 |_=>exact False.elim h
|_=>cases i<;>exact False.elim h
end
noncomputable def X8 (e:Expr):Bool:=e.ctorIdx.beq 8||(e.ctorIdx.beq 9||e.ctorIdx.beq 10)
theorem T7 {value:Expr}(h:X8 value=false)(t:Option Expr)(n:Nat)(env:Env):swapsWith value t n env=pure false:=by
 cases value<;>first|rfl|cases h
noncomputable abbrev SQ:=W9→Zc→List Za→Prop
noncomputable abbrev SX:=XN→Zc→List Za→Prop
section
variable {n:Nat}{κ:Cx}{loc:Zc}{σ:List Za}{Q:SQ}{X:SX}
theorem WS.go {st:Stmt}(h:WS n κ st loc σ Q X){φ:Fx}{ex:List (Addr×Obj)}{β:List Addr}{s:Ws}{Qc:Flow→Ws→Prop}{Ec:Value→Ws→Prop}(hr:ZG n φ.A)(hf:ZP κ φ)(hc:φ.comp=false)(R:Rl φ κ.xs ex β loc σ s)
  (kQ:∀ f af loc' σ' β' s',Q af loc' σ'→β<+:β'→Rl φ κ.xs ex β' loc' σ' s'→FR β' f af→Qc f s') (kX:∀ c loc' σ' β' e s',X c loc' σ'→β<+:β'→ZS φ κ.xs ex β' loc' σ' c e s'→Ec (.ref e) s') :
  Zb (Zd φ.G) φ.A (exec st φ.env) Qc Ec s:=h φ ex β s Qc Ec hr hf hc R kQ kX
theorem WB.go {st:List Stmt}(h:WB n κ st loc σ Q X){φ:Fx}{ex:List (Addr×Obj)}{β:List Addr}{s:Ws}{Qc:Flow→Ws→Prop}{Ec:Value→Ws→Prop}(hr:ZG n φ.A)(hf:ZP κ φ)(hc:φ.comp=false)(R:Rl φ κ.xs ex β loc σ s)
  (kQ:∀ f af loc' σ' β' s',Q af loc' σ'→β<+:β'→Rl φ κ.xs ex β' loc' σ' s'→FR β' f af→Qc f s') (kX:∀ c loc' σ' β' e s',X c loc' σ'→β<+:β'→ZS φ κ.xs ex β' loc' σ' c e s'→Ec (.ref e) s') :
  Zb (Zd φ.G) φ.A (execs st φ.env) Qc Ec s:=h φ ex β s Qc Ec hr hf hc R kQ kX
theorem FR.mk {β:List Addr}{v:Value}{av:AV}(h:VR β v av):FR β (.ret v) (.ret av):=h
theorem WB.nil (h:Q .next loc σ):WB n κ [] loc σ Q X:=by
 intro φ ex β s Qc Ec hr hf hc R kQ kX
 have q:=kQ .next .next loc σ β s h (List.prefix_refl _) R trivial
 exact .of (wpAny_execs_nil q)
theorem WB.cons {st:Stmt}{r:List Stmt}(h:WS n κ st loc σ (fun af loc₁ σ₁=>match af with|.next=>WB n κ r loc₁ σ₁ Q X|.ret v=>Q (.ret v) loc₁ σ₁) X):WB n κ (st::r) loc σ Q X:=by
 intro φ ex β s Qc Ec hr hf hc R kQ kX
 with_reducible refine Zbh ?_
 with_reducible refine h.go hr hf hc R (fun f af loc₁ σ₁ β₁ s₁ q₁ p₁ R₁ f₁=>?_) kX
 have kq':=fun f af loc' σ' β' s' q p=>kQ f af loc' σ' β' s' q (p₁.trans p)
 have kx':=fun c loc' σ' β' e s' x p=>kX c loc' σ' β' e s' x (p₁.trans p)
 cases f with
|next=>cases af with
 |next=>with_reducible exact WB.go q₁ hr hf hc R₁ kq' kx'
 |ret v=>exact False.elim f₁
|ret v=>cases af with
 |next=>exact False.elim f₁
 |ret av=>exact kQ _ _ loc₁ σ₁ β₁ s₁ q₁ p₁ R₁ f₁
|brk=>cases af<;>exact False.elim f₁
|cont=>cases af<;>exact False.elim f₁
noncomputable def Y8 (κ:Cx)(i:Nat)(x:Str):Bool:=(κ.xs[i]?==some x)&&(κ.sc.lookup x==some .local||κ.sc.lookup x==some .cell)
theorem VQ {i:Nat}{x:Str}{φ:Fx}(h:Y8 κ i x=true)(hf:ZP κ φ)(hc:φ.comp=false):κ.xs[i]?=some x∧(φ.env.kindOf x=some .local∨(φ.comp=false∧φ.env.kindOf x=some .cell)):=by
 simp only [Y8,Bool.and_eq_true,Bool.or_eq_true,beq_iff_eq] at h
 rw [hf.kind x]
 exact ⟨h.1,h.2.imp id fun q=>⟨hc,q⟩⟩
theorem WS.assign {x:Str}{i:Nat}{np pos:Pos}{value:Expr}(hv:X8 value=false)(hi:Y8 κ i x=true)(hnd:κ.xs.Nodup)(h:WE n κ value loc σ (fun v σ₁=>Q .next (ZZ loc i v) σ₁) (fun c σ₁=>X c loc σ₁)) :
  WS n κ (.Assign [.Name x np] value pos) loc σ Q X:=by
 intro φ ex β s Qc Ec hr hf hc R kQ kX
 obtain ⟨hx,hk⟩:=VQ hi hf hc
 with_reducible refine Za3 ?_ (T7 hv _ _ _)
 with_reducible refine h.go hr hf R (fun v av σ₁ β₁ s₁ q₁ p₁ R₁ v₁=>?_) (fun c σ' β' e s' x p E=>kX c loc σ' β' e s' x p E)
 with_reducible refine R₁.store hx hnd hk v₁ fun s₂ R₂=>?_
 exact kQ _ .next _ σ₁ β₁ s₂ q₁ p₁ R₂ trivial
theorem WS.aug {x:Str}{i:Nat}{op:Yj}{np pos:Pos}{value:Expr}{old:AV}(hd:(x==("__debug__" : Str))=false)(hd':(x==("__classdict__" : Str))=false)(hi:Y8 κ i x=true)(hnd:κ.xs.Nodup)(ho:loc[i]?=some (some old))
  (h:WE n κ value loc σ (fun v σ₁=>X6 op old v σ₁ (fun r σ₂=>Q .next (ZZ loc i r) σ₂)) (fun c σ₁=>X c loc σ₁)):WS n κ (.AugAssign (.Name x np) op.op value pos) loc σ Q X:=by
 intro φ ex β s Qc Ec hr hf hc R kQ kX
 obtain ⟨hx,hk⟩:=VQ hi hf hc
 with_reducible refine Za7 ?_
 with_reducible refine R.load hx hd' ho fun w w₁=>?_
 with_reducible refine h.go hr hf R (fun v av σ₂ β₂ s₂ q₂ p₂ R₂ v₂=>?_) (fun c σ' β' e s' x p E=>kX c loc σ' β' e s' x p E)
 have w₂:=w₁.mono p₂
 with_reducible refine Ho R₂ w₂ v₂ q₂ (fun u au σ₃ β₃ s₃ q₃ p₃ R₃ u₃=>?_)
 with_reducible refine R₃.store hx hnd hk u₃ fun s₄ R₄=>?_
 exact kQ _ .next _ σ₃ β₃ s₄ q₃ (p₂.trans p₃) R₄ trivial
theorem WS.setIdx {o i value:Expr}{p' pos:Pos}(hv:X8 value=false)(h:WE n κ value loc σ (fun v σ₁=>WE n κ o loc σ₁ (fun vo σ₂=>WE n κ i loc σ₂ (fun vi σ₃=>Vz vo vi v σ₃ (Q .next loc)) (fun c σ'=>X c loc σ')) (fun c σ'=>X c loc σ')) (fun c σ'=>X c loc σ')) :
  WS n κ (.Assign [.Subscript o i p'] value pos) loc σ Q X:=by
 intro φ ex β s Qc Ec hr hf hc R kQ kX
 with_reducible refine Za5 ?_ (T7 hv _ _ _)
 with_reducible refine h.go hr hf R (fun v av σ₁ β₁ s₁ q₁ p₁ R₁ v₁=>?_) (fun c σ' β' e s' x p E=>kX c loc σ' β' e s' x p E)
 with_reducible refine q₁.go hr hf R₁ (fun w aw σ₂ β₂ s₂ q₂ p₂ R₂ w₂=>?_) (fun c σ' β' e s' x p E=>kX c loc σ' β' e s' x (p₁.trans p) E)
 with_reducible refine q₂.go hr hf R₂ (fun u au σ₃ β₃ s₃ q₃ p₃ R₃ u₃=>?_) (fun c σ' β' e s' x p E=>kX c loc σ' β' e s' x ((p₁.trans p₂).trans p) E)
 have v₃:=(v₁.mono p₂).mono p₃
 have w₃:=w₂.mono p₃
 with_reducible refine Qf R₃ w₃ u₃ v₃ q₃ fun σ₄ s₄ q₄ R₄=>?_
 exact kQ _ .next _ σ₄ β₃ s₄ q₄ ((p₁.trans p₂).trans p₃) R₄ trivial
theorem RQ {i:Expr}(h:Vn i=false)(ov iv new:Value):augStore i ov iv new=(do holding [new,ov,iv] (setItem ov iv new);release [new,ov,iv] [];pure .next):=by
 cases i<;>first|rfl|cases h
theorem WS.augIdx {o i value:Expr}{op:Yj}{p' pos:Pos}(hs:Vn i=false)(h:WE n κ o loc σ (fun vo σ₁=>WE n κ i loc σ₁ (fun vi σ₂=>X5 vo vi σ₂ (fun old σ₃=>WE n κ value loc σ₃ (fun v σ₄=>X6 op old v σ₄ (fun r σ₅=>Vz vo vi r σ₅ (Q .next loc)))
   (fun c σ'=>X c loc σ'))) (fun c σ'=>X c loc σ')) (fun c σ'=>X c loc σ')):WS n κ (.AugAssign (.Subscript o i p') op.op value pos) loc σ Q X:=by
 intro φ ex β s Qc Ec hr hf hc R kQ kX
 with_reducible refine Za8 ?_ (RQ hs)
 with_reducible refine h.go hr hf R (fun v av σ₁ β₁ s₁ q₁ p₁ R₁ v₁=>?_) (fun c σ' β' e s' x p E=>kX c loc σ' β' e s' x p E)
 with_reducible refine q₁.go hr hf R₁ (fun w aw σ₂ β₂ s₂ q₂ p₂ R₂ w₂=>?_) (fun c σ' β' e s' x p E=>kX c loc σ' β' e s' x (p₁.trans p) E)
 have v₂:=v₁.mono p₂
 have kx₂:=fun c σ' β' e s' (x:X c loc σ') (p:β₂<+:β') E=>kX c loc σ' β' e s' x ((p₁.trans p₂).trans p) E
 obtain ⟨_,_,_,_,hg⟩:=Bs (Qc:=fun old s₃=>Zb (Zd φ.G) φ.A (eval value φ.env) (fun u s₄=>wpAny (Zd φ.G) φ.A (inplaceOp op.op old u) (fun new s₅=>wpAny (Zd φ.G) φ.A (setItem v w new) (fun _=>Qc .next) Ec s₅) Ec s₄) Ec s₃) (Ec:=Ec) R₂ v₂ w₂ q₂ fun old aold σ₃ β₃ s₃ q₃ p₃ R₃ o₃=>by
  with_reducible refine q₃.go hr hf R₃ (fun u au σ₄ β₄ s₄ q₄ p₄ R₄ u₄=>?_) (fun c σ' β' e s' x p E=>kx₂ c σ' β' e s' x (p₃.trans p) E)
  have o₄:=o₃.mono p₄
  with_reducible refine Ho R₄ o₄ u₄ q₄ (fun new anew σ₅ β₅ s₅ q₅ p₅ R₅ n₅=>?_)
  have v₅:=((v₂.mono p₃).mono p₄).mono p₅
  have w₅:=((w₂.mono p₃).mono p₄).mono p₅
  with_reducible refine Qf R₅ v₅ w₅ n₅ q₅ fun σ₆ s₆ q₆ R₆=>?_
  exact kQ _ .next _ σ₆ β₅ s₆ q₆ ((((p₁.trans p₂).trans p₃).trans p₄).trans p₅) R₆ trivial
 exact hg
theorem WS.setAttr {o value:Expr}{f:ZE}{p' pos:Pos}(hv:X8 value=false)(h:WE n κ value loc σ (fun v σ₁=>WE n κ o loc σ₁ (fun vo σ₂=>Um f vo v σ₂ (Q .next loc)) (fun c σ'=>X c loc σ')) (fun c σ'=>X c loc σ')) :
  WS n κ (.Assign [.Attribute o f.name p'] value pos) loc σ Q X:=by
 intro φ ex β s Qc Ec hr hf hc R kQ kX
 with_reducible refine Ba ?_ (T7 hv _ _ _)
 with_reducible refine h.go hr hf R (fun v av σ₁ β₁ s₁ q₁ p₁ R₁ v₁=>?_) (fun c σ' β' e s' x p E=>kX c loc σ' β' e s' x p E)
 with_reducible refine q₁.go hr hf R₁ (fun w aw σ₂ β₂ s₂ q₂ p₂ R₂ w₂=>?_) (fun c σ' β' e s' x p E=>kX c loc σ' β' e s' x (p₁.trans p) E)
 have v₂:=v₁.mono p₂
 with_reducible refine Qe R₂ w₂ v₂ q₂ fun σ₃ s₃ q₃ R₃=>?_
 exact kQ _ .next _ σ₃ β₂ s₃ q₃ (p₁.trans p₂) R₃ trivial
theorem WS.augAttr {o value:Expr}{f:ZE}{op:Yj}{p' pos:Pos}(h:WE n κ o loc σ (fun vo σ₁=>WQ f vo σ₁ (fun old σ₂=>WE n κ value loc σ₂ (fun v σ₃=>X6 op old v σ₃ (fun r σ₄=>Um f vo r σ₄ (Q .next loc))) (fun c σ'=>X c loc σ'))) (fun c σ'=>X c loc σ')) :
  WS n κ (.AugAssign (.Attribute o f.name p') op.op value pos) loc σ Q X:=by
 intro φ ex β s Qc Ec hr hf hc R kQ kX
 with_reducible refine Za6 ?_
 with_reducible refine h.go hr hf R (fun v av σ₁ β₁ s₁ q₁ p₁ R₁ v₁=>?_) (fun c σ' β' e s' x p E=>kX c loc σ' β' e s' x p E)
 with_reducible refine Bg R₁ v₁ q₁ fun old aold σ₂ β₂ s₂ q₂ p₂ R₂ o₂=>?_
 with_reducible refine q₂.go hr hf R₂ (fun u au σ₃ β₃ s₃ q₃ p₃ R₃ u₃=>?_) (fun c σ' β' e s' x p E=>kX c loc σ' β' e s' x ((p₁.trans p₂).trans p) E)
 have o₃:=o₂.mono p₃
 with_reducible refine Ho R₃ o₃ u₃ q₃ (fun new anew σ₄ β₄ s₄ q₄ p₄ R₄ n₄=>?_)
 have v₄:=((v₁.mono p₂).mono p₃).mono p₄
 with_reducible refine Qe R₄ v₄ n₄ q₄ fun σ₅ s₅ q₅ R₅=>?_
 exact kQ _ .next _ σ₅ β₄ s₅ q₅ (((p₁.trans p₂).trans p₃).trans p₄) R₅ trivial
theorem WS.ret {e:Expr}{pos:Pos}(h:WE n κ e loc σ (fun v σ₁=>Q (.ret v) loc σ₁) (fun c σ₁=>X c loc σ₁)):WS n κ (.Return (some e) pos) loc σ Q X:=by
 intro φ ex β s Qc Ec hr hf hc R kQ kX
 with_reducible refine ZbB ?_
 with_reducible exact h.go hr hf R (fun v av σ₁ β₁ s₁ q₁ p₁ R₁ v₁=>kQ _ (.ret av) _ σ₁ β₁ s₁ q₁ p₁ R₁ (FR.mk v₁)) (fun c σ' β' e s' x p E=>kX c loc σ' β' e s' x p E)
theorem WS.ret0 {pos:Pos}(h:Q (.ret .none) loc σ):WS n κ (.Return none pos) loc σ Q X:=by
 intro φ ex β s Qc Ec hr hf hc R kQ kX
 have q:=kQ (.ret .none) (.ret .none) loc σ β s h (List.prefix_refl _) R rfl
 exact .of (wpAny_Return_none q)
theorem WS.ifs {t:Expr}{a b:List Stmt}{pos:Pos}(h:WT n κ t loc σ (fun c σ₁=>if c then WB n κ a loc σ₁ Q X else WB n κ b loc σ₁ Q X) (fun c σ₁=>X c loc σ₁)):WS n κ (.If t a b pos) loc σ Q X:=by
 intro φ ex β s Qc Ec hr hf hc R kQ kX
 with_reducible refine gIf ?_
 with_reducible refine h.go hr hf R (fun c σ₁ β₁ s₁ q₁ p₁ R₁=>?_) (fun c σ' β' e s' x p E=>kX c loc σ' β' e s' x p E)
 have kq':=fun f af loc' σ' β' s' q p=>kQ f af loc' σ' β' s' q (p₁.trans p)
 have kx':=fun c loc' σ' β' e s' x p=>kX c loc' σ' β' e s' x (p₁.trans p)
 cases c with
|true=>simp only [if_true] at q₁ ⊢;with_reducible exact WB.go q₁ hr hf hc R₁ kq' kx'
|false=>simp only [Bool.false_eq_true,if_false] at q₁ ⊢;with_reducible exact WB.go q₁ hr hf hc R₁ kq' kx'
theorem WS.expr {e:Expr}{pos:Pos}(hv:X8 e=false)(h:WE n κ e loc σ (fun v σ₁=>v=.none∧Q .next loc σ₁) (fun c σ₁=>X c loc σ₁)):WS n κ (.Expr e pos) loc σ Q X:=by
 intro φ ex β s Qc Ec hr hf hc R kQ kX
 have hi:interactive φ.env=false:=by
  obtain ⟨_,_,_,_,R⟩:=R
  unfold interactive;rw [R.ok.kind];rfl
 with_reducible refine Zbj ?_ hi (T7 hv _ _ _)
 with_reducible refine h.go hr hf R (fun v av σ₁ β₁ s₁ q₁ p₁ R₁ v₁=>?_) (fun c σ' β' e s' x p E=>kX c loc σ' β' e s' x p E)
 obtain ⟨rfl,q₁⟩:=q₁
 obtain rfl:=v₁
 exact kQ _ .next _ σ₁ β₁ s₁ q₁ p₁ R₁ trivial
end
noncomputable def Z3:Zc→List Nat→List AV→Zc
|l,i::is,v::vs=>Z3 (ZZ l i v) is vs
|l,_,_=>l
noncomputable def VC (φ:Fx)(xs:List Str)(f:Value→Sem Unit)(i:Nat):Prop:=
 ∀ ex β loc σ s v av (Qc:Unit→Ws→Prop) (Ec:Value→Ws→Prop),Rl φ xs ex β loc σ s→VR β v av→(∀ s',Rl φ xs ex β (ZZ loc i av) σ s'→Qc () s')→wpAny (Zd φ.G) φ.A (f v) Qc Ec s
theorem Mj {φ:Fx}{xs:List Str}{ex:List (Addr×Obj)}{β:List Addr}{σ:List Za}{Qc:Unit→Ws→Prop}{Ec:Value→Ws→Prop}{fs:List (Value→Sem Unit)}{is:List Nat}(hf:Ze (VC φ xs) fs is){vs:List Value}{avs:List AV}{loc:Zc}{s:Ws}
  (hv:Ze (VR β) vs avs) (hl:vs.length=fs.length) (R:Rl φ xs ex β loc σ s) (k:∀ s',Rl φ xs ex β (Z3 loc is avs) σ s'→Qc () s'):wpAny (Zd φ.G) φ.A (assignInOrder fs vs) Qc Ec s:=by
 induction hf generalizing vs avs loc s with
|nil=>
  cases hv with
 |nil=>
   have q:=k s R
   change wpAny _ _ (pure ()) _ _ _
   with_reducible exact wpAny_pure q
 |cons _ _=>simp at hl
|cons r rs ih=>
  cases hv with
 |nil=>simp at hl
 |cons w ws=>
   rename_i f i fs is v av vs avs
   change wpAny _ _ (holding vs (f v) >>= fun _=>assignInOrder fs vs) _ _ _
   with_reducible refine wpAny_bind (wpAny_holding ?_)
   refine r ex β loc σ s v av _ _ R w fun s₁ R₁=>?_
   exact ih ws (by simpa using hl) R₁ k
noncomputable def VV (κ:Cx):List Expr→List Nat→Bool
|[],[]=>true
|t::r,i::is=>(Zg (YR t) fun x=>Y8 κ i x)&&VV κ r is
|_,_=>false
theorem Qi {κ:Cx}{φ:Fx}(hf:ZP κ φ)(hc:φ.comp=false)(hnd:κ.xs.Nodup){x:Str}{i:Nat}(hi:Y8 κ i x=true):VC φ κ.xs (fun v=>bindName φ.env x v) i:=by
 intro ex β loc σ s v av Qc Ec R hv k
 obtain ⟨hx,hk⟩:=VQ hi hf hc
 with_reducible refine wpAny_bindName ?_
 with_reducible exact R.store hx hnd hk hv k
theorem Mi {κ:Cx}{φ:Fx}(hf:ZP κ φ)(hc:φ.comp=false)(hnd:κ.xs.Nodup):∀ {ts:List Expr} {is:List Nat},VV κ ts is=true →
  Ze (VC φ κ.xs) ((assignEach ts φ.env).map (·.2)) is∧(assignEach ts φ.env).findIdx? (·.1)=none∧(assignEach ts φ.env).length=is.length
|[],[],_=>⟨.nil,rfl,rfl⟩
|[],_::_,h=>nomatch h
|t::r,[],h=>nomatch h
|t::r,i::is,h=>by
  obtain ⟨h0,hr⟩:=Zp h
  obtain ⟨x,h0,hl⟩:=Zf h0
  obtain ⟨p,rfl⟩:=Xf h0
  obtain ⟨h1,h2,h3⟩:=Mi hf hc hnd hr
  refine ⟨.cons ?_ h1,?_,congrArg (·+1) h3⟩
  ·intro ex β loc σ s v av Qc Ec R hv k
   have:=Qi hf hc hnd hl ex β loc σ s v av Qc Ec R hv k
   change wpAny _ _ (standAt p >>= fun _=>bindName φ.env x v) _ _ _
   with_reducible exact wpAny_bind (wpAny_standAt this)
  ·show ((false,assign (.Name x p) φ.env)::assignEach r φ.env).findIdx? (·.1)=none
   rw [List.findIdx?_cons,h2];rfl
noncomputable def T5 (κ:Cx):List Str→List Nat→Bool
|[],[]=>true
|x::r,i::is=>Y8 κ i x&&T5 κ r is
|_,_=>false
theorem ZgQ {κ:Cx}{φ:Fx}(hf:ZP κ φ)(hc:φ.comp=false)(hnd:κ.xs.Nodup){ns:List Str}{is:List Nat}(h:T5 κ ns is=true):Ze (VC φ κ.xs) (ns.map fun n=>fun v=>bindName φ.env n v) is:=by
 induction ns generalizing is with
|nil=>cases is with
 |nil=>exact .nil
 |cons _ _=>exact absurd h Bool.false_ne_true
|cons x r ih=>cases is with
 |nil=>exact absurd h Bool.false_ne_true
 |cons i is=>
   have h':(Y8 κ i x&&T5 κ r is)=true:=h
   rw [Bool.and_eq_true] at h'
   exact .cons (Qi hf hc hnd h'.1) (ih h'.2)
theorem Ze.rev {α γ:Type}{R:α→γ→Prop}{as:List α}{bs:List γ}(h:Ze R as bs):Ze R as.reverse bs.reverse:=by
 induction h with
|nil=>exact .nil
|cons r _ ih=>simpa using ih.snoc r
noncomputable def XC (sc:List (Str×NameKind))(line:Nat)(ts:List Expr):List Str:=ts.filterMap fun
|.Name id pos=>if sc.lookup id==some .local&&pos.line==line then some id else none
|_=>none
noncomputable def XB (ts:List Expr):Nat:=(ts.head?.map (·.pos.line)).getD 0
noncomputable def T6 (sc:List (Str×NameKind))(ts vs:List Expr):Bool:=
 !(ts.length==2||ts.length==3)||vs.length != ts.length||(XC sc (XB ts) ts).length != ts.length||(XC sc (XB ts) ts).eraseDups.length != (XC sc (XB ts) ts).length||vs.all (foldedForSure 8)
noncomputable def Jl (sc:List (Str×NameKind))(ts vs:List Expr)(ns:List Str):Bool:=
 !T6 sc ts vs&&!vs.any ZQ&&!vs.all (constantsAlone 8)&&XC sc (XB ts) ts==ns
theorem ZgU {env:Env}{sc:List (Str×NameKind)}(hs:env.scope.names=sc)(line:Nat)(ts:List Expr):(ts.filterMap fun
 |.Name id pos=>if env.kindOf id==some .local&&pos.line==line then some id else none
 |_=>none)=XC sc line ts:=hs▸rfl
theorem ZbV {α:Type}{a b c d e v:Bool}{r t:α}(h:(a||b||c||d||e)=true):(if (a||b)=true then r else if v=true then r else if (c||d)=true then r else if e=true then r else t)=r:=by
 split
 ·rfl
 ·split
  ·rfl
  ·split
   ·rfl
   ·split
    ·rfl
    ·cases a<;>cases b<;>cases c<;>cases d<;>cases e<;>first|contradiction|cases h
theorem Zb1 (vs:List Expr):(vs.any fun|.Starred ..=>true|_=>false)=vs.any ZQ:=by
 congr 1
theorem Ql {env:Env}{sc:List (Str×NameKind)}(hs:env.scope.names=sc)(hb:env.blockKind=.function){ts vs:List Expr}{p q:Pos}{k k':Nat} :
  swappedStores [.Tuple ts k p] (.Tuple vs k' q) env=(if (!(ts.length==2||ts.length==3)||vs.length != ts.length)=true then pure none else if vs.any ZQ=true then pure none else
   if ((XC sc (XB ts) ts).length != ts.length||(XC sc (XB ts) ts).eraseDups.length != (XC sc (XB ts) ts).length)=true then pure none else
   if vs.all (foldedForSure 8)=true then pure none else if vs.all (constantsAlone 8)=true then (do unsupported "assign.tuple-of-constant-expressions:order-of-the-stores";return some (XC sc (XB ts) ts)) else pure (some (XC sc (XB ts) ts))):=by
 have e1:=ZgU hs (XB ts) ts
 unfold swappedStores
 dsimp only
 generalize hN:List.filterMap _ ts=N
 have hN':N=XC sc (XB ts) ts:=hN.symm.trans e1
 subst hN'
 rw [hb]
 have e3:(ScopeKind.function != ScopeKind.function)=false:=rfl
 rw [e3,Bool.or_false]
 generalize hV:vs.any _=V
 have hV':V=vs.any ZQ:=hV.symm.trans (Zb1 vs)
 subst hV'
 rfl
theorem ZgV {env:Env}{sc:List (Str×NameKind)}(hs:env.scope.names=sc)(hb:env.blockKind=.function){ts vs:List Expr}{p q:Pos}{k k':Nat}(h:T6 sc ts vs=true) :
  swappedStores [.Tuple ts k p] (.Tuple vs k' q) env=pure none:=by
 rw [Ql hs hb]
 exact ZbV h
theorem ZgW {env:Env}{sc:List (Str×NameKind)}(hs:env.scope.names=sc)(hb:env.blockKind=.function){ts vs:List Expr}{ns:List Str}{p q:Pos}{k k':Nat}(h:Jl sc ts vs ns=true) :
  swappedStores [.Tuple ts k p] (.Tuple vs k' q) env=pure (some ns):=by
 rw [Ql hs hb]
 simp only [Jl,T6,Bool.and_eq_true,Bool.not_eq_true',Bool.or_eq_false_iff,beq_iff_eq] at h
 obtain ⟨⟨⟨⟨⟨⟨⟨h1,h2⟩,h3⟩,h4⟩,h5⟩,h6⟩,h7⟩,h8⟩:=h
 rw [if_neg (by rw [h1,h2];decide),if_neg (by rw [h6];decide),if_neg (by rw [h3,h4];decide),if_neg (by rw [h5];decide),if_neg (by rw [h7];decide),h8]
section
variable {n:Nat}{κ:Cx}{loc:Zc}{σ:List Za}{Q:SQ}{X:SX}
theorem B8 {φ:Fx}{xs:List Str}{ex:List (Addr×Obj)}{β:List Addr}{loc:Zc}{σ:List Za}{s:Ws}{Qc Ec:Value→Ws→Prop}{vs:List Value}{avs:List AV}(R:Rl φ xs ex β loc σ s)(hv:Ze (VR β) vs avs)(hz:avs.length≤sizeLine)
  (k:∀ a β' s',β<+:β'→Rl φ xs ex β' loc (σ++[.tup avs]) s'→IsTup s'.heap a vs.toArray→Ze (VR β') vs avs→Qc (.ref a) s'):wpAny (Zd φ.G) φ.A (newTuple vs) Qc Ec s:=by
 obtain ⟨b0z,cs,frn,m,R⟩:=R
 refine kup_newTuple R.F R.N (fun D h' F' N' hlt=>?_) (by rw [hv.length];exact hz)
 have hp:β<+:β++[D]:=List.prefix_append _ _
 exact k D (β++[D]) _ hp (R.alloc1 (tk:=s.toks) F' N' ⟨vs,0,rfl,VR.monoL hp hv⟩ hlt) (News.isTup N' List.mem_cons_self) (VR.monoL hp hv)
theorem Rl.grow {φ:Fx}{xs:List Str}{ex:List (Addr×Obj)}{β:List Addr}{loc:Zc}{σ:List Za}{s:Ws}{b0z:List ZH}{cs frn:List (Addr×Obj)}{m:Str→Option Value}(R:Zi φ xs ex β loc σ b0z cs frn m s){h':Heap}{tk:Nat}
  (F':Fr φ.G.h φ.env.locals h' m) (N':News φ.G.h φ.env.locals h' (Xl b0z cs ex frn)):Rl φ xs ex β loc σ {s with heap:=h',toks:=tk}:=
 ⟨b0z,cs,frn,m,R.ok,R.real,R.up,F',N',R.nd,R.cells,R.loc,R.gens,R.os⟩
theorem ZgX {t:Expr}{es:List Expr}{k:Nat}{q:Pos}(n:Nat)(env:Env):swapsWithSole [t] (.Tuple es k q) n env=pure false:=rfl
theorem Rl.block {φ:Fx}{xs:List Str}{ex:List (Addr×Obj)}{β:List Addr}{loc:Zc}{σ:List Za}{s:Ws}(R:Rl φ xs ex β loc σ s):φ.env.blockKind=.function:=by
 obtain ⟨_,_,_,_,R⟩:=R
 unfold Env.blockKind;rw [R.ok.kind];rfl
theorem WS.tup {ts es:List Expr}{is:List Nat}{k k':Nat}{p q pos:Pos}(hn:n≠0)(hnd:κ.xs.Nodup)(hs:T6 κ.sc ts es=true)(hi:VV κ ts is=true)
  (h:ZC n κ es loc σ (fun vs σ₁=>vs.length=is.length∧vs.length≤sizeLine∧Q .next (Z3 loc is vs) (σ₁++[.tup vs])) (fun c σ'=>X c loc σ')):WS n κ (.Assign [.Tuple ts k p] (.Tuple es k' q) pos) loc σ Q X:=by
 intro φ ex β s Qc Ec hr hf hc R kQ kX
 have hh:=hr.1 hn
 have hw:=ZgV (env:=φ.env) hf R.block (p:=p) (q:=q) (k:=k) (k':=k') hs
 with_reducible refine Za4 ?_ (ZgX _ _) hw
 with_reducible refine Hi ?_
 with_reducible refine h.go hr hf R (fun vs avs σ₁ β₁ s₁ q₁ p₁ R₁ v₁=>?_) (fun c σ' β' e s' x p E=>kX c loc σ' β' e s' x p E)
 obtain ⟨g1,g2,g3⟩:=q₁
 with_reducible refine B8 R₁ v₁ g2 fun a β₂ s₂ p₂ R₂ t₂ v₂=>?_
 obtain ⟨k1,k2,k3⟩:=Mi hf hc hnd hi
 obtain ⟨b0z,cs,frn,m,R₂⟩:=R₂
 have hl:=v₂.length
 have asg:wpAny (Zd φ.G) φ.A (PySem.assign (.Tuple ts k p) φ.env (.ref a)) (fun _=>Qc .next) Ec s₂:=by
  with_reducible refine unpackN_ R₂.F R₂.N t₂ hh (by rw [k3,List.size_toArray];grind) k2 fun h' F' N'=>?_
  have R₃:=Rl.grow (tk:=s₂.toks) R₂ F' N'
  have e:vs.toArray.toList=vs:=rfl
  rw [e]
  with_reducible refine Mj k1 v₂ (by rw [List.length_map,k3];lia) R₃ fun s₄ R₄=>?_
  exact kQ _ .next _ _ β₂ s₄ g3 (p₁.trans p₂) R₄ trivial
 exact asg
theorem WS.tupSwap {ts es:List Expr}{ns:List Str}{is:List Nat}{k k':Nat}{p q pos:Pos}(hn:n≠0)(hnd:κ.xs.Nodup)(hs:Jl κ.sc ts es ns=true)(hi:T5 κ ns is=true)
  (h:ZC n κ es loc σ (fun vs σ₁=>vs.length=is.length∧vs.length≤sizeLine∧Q .next (Z3 loc is.reverse vs.reverse) (σ₁++[.tup vs])) (fun c σ'=>X c loc σ')):WS n κ (.Assign [.Tuple ts k p] (.Tuple es k' q) pos) loc σ Q X:=by
 intro φ ex β s Qc Ec hr hf hc R kQ kX
 have hh:=hr.1 hn
 have hw:=ZgW (env:=φ.env) hf R.block (p:=p) (q:=q) (k:=k) (k':=k') hs
 rw [exec_Assign_arm]
 have hss:swapsWithSole [.Tuple ts k p] (.Tuple es k' q) pos.line φ.env=pure false:=rfl
 rw [hss]
 have main:Zb (Zd φ.G) φ.A (eval (.Tuple es k' q) φ.env) (fun v s₁=>wpAny (Zd φ.G) φ.A (swappedStores [.Tuple ts k p] (.Tuple es k' q) φ.env >>= fun sw=>assignStores φ.env v sw ((assignEach [.Tuple ts k p] φ.env).map (·.2))) Qc Ec s₁) Ec s:=by
  with_reducible refine Hi ?_
  with_reducible refine h.go hr hf R (fun vs avs σ₁ β₁ s₁ q₁ p₁ R₁ v₁=>?_) (fun c σ' β' e s' x p E=>kX c loc σ' β' e s' x p E)
  obtain ⟨g1,g2,g3⟩:=q₁
  with_reducible refine B8 R₁ v₁ g2 fun a β₂ s₂ p₂ R₂ t₂ v₂=>?_
  rw [hw]
  have k1:=ZgQ hf hc hnd hi
  have hl:=v₂.length
  have hl2:ns.length=is.length:=by simpa using k1.length
  obtain ⟨b0z,cs,frn,m,R₂⟩:=R₂
  have inner:wpAny (Zd φ.G) φ.A (rule "assign.swapped-stores" >>= fun _=>unpackItems (.ref a) ns.length none >>= fun i0z=>assignInOrder (ns.reverse.map fun n=>bindName φ.env n) i0z.reverse >>= fun _=>pure Flow.next) Qc Ec s₂:=by
   with_reducible refine wpAny_bind (wpAny_rule (wpAny_bind ?_))
   with_reducible refine unpackItemsN_ R₂.F R₂.N t₂ hh (by rw [List.size_toArray];grind) fun h' F' N'=>?_
   have R₃:=Rl.grow (tk:=s₂.toks) R₂ F' N'
   have e:vs.toArray.toList=vs:=rfl
   rw [e,List.map_reverse]
   with_reducible refine wpAny_bind ?_
   with_reducible refine Mj k1.rev v₂.rev (by simp;grind) R₃ fun s₄ R₄=>?_
   have q:=kQ .next .next _ _ β₂ s₄ g3 (p₁.trans p₂) R₄ trivial
   with_reducible exact wpAny_pure q
  exact wpAny_bind (wpAny_pure inner)
 exact .stand (.step (wpAny_pure (.bind (.mono main (fun _ _ h=>.of h) fun _ _ x=>x))))
end
section
variable {φ:Fx}{xs:List Str}{ex lg lg':List (Addr×Obj)}{β:List Addr}{loc:Zc}{σ:List Za}{b0z:List ZH}{cs frn:List (Addr×Obj)}{m:Str→Option Value}{s:Ws}
theorem Zi.exAdd (R:Zi φ xs ex β loc σ b0z cs frn m s){h':Heap}{tk:Nat}(hk:∀ b o,s.heap.get? b=some o→h'.get? b=some o)(hl:∀ p∈lg,h'.get? p.1=some p.2∧p.1≠φ.env.locals∧φ.G.h.get? p.1=none)(hnd:(lg.map Prod.fst).Nodup)
  (hf:∀ p∈lg,∀ q∈Xl b0z cs ex frn,q.1≠p.1):Zi φ xs (lg++ex) β loc σ b0z cs frn m {s with heap:=h',toks:=tk}:=by
 have R':=R.more (tk:=tk) hk
 refine ⟨R.ok,R.real,R.up,R'.F,fun p hp=>?_,?_,R.cells,fun i x av h1 h2=>?_,R.gens,R.os⟩
 ·by_cases q:p∈lg
  ·exact hl p q
  ·exact R'.N p (by simp only [List.mem_append] at hp ⊢;grind)
 ·refine (Vk lg b0z cs ex frn).nodup_iff.mpr (List.nodup_append.mpr ⟨hnd,R.nd,?_⟩)
  intro a ha b hb e
  obtain ⟨p,hp,rfl⟩:=List.mem_map.mp ha
  obtain ⟨q,hq,rfl⟩:=List.mem_map.mp hb
  exact hf p hp q hq e.symm
 ·obtain ⟨v,h3,h4⟩:=R.loc i x av h1 h2
  refine ⟨v,h3,h4.sub fun c o k3 k4=>?_⟩
  simp only [List.mem_append] at k3 ⊢;grind
theorem Rl.exDrop (R:Rl φ xs (lg++ex) β loc σ s)(hc:noCells lg):Rl φ xs ex β loc σ s:=by
 obtain ⟨b0z,cs,frn,m,R⟩:=R
 exact ⟨b0z,cs,frn,m,R.exDrop hc⟩
theorem ZS.exDrop {c:XN}{e:Addr}(R:ZS φ xs (lg++ex) β loc σ c e s)(hc:noCells lg):ZS φ xs ex β loc σ c e s:=by
 intro h
 obtain ⟨b0z,cs,frn,m,st,R,X,h1⟩:=R h
 refine ⟨b0z,cs,frn,m,st,R.exDrop hc,X.less fun b hb=>?_,h1⟩
 rcases List.mem_cons.mp hb with rfl|hb
 ·exact List.mem_cons_self
 ·obtain ⟨p,hp,rfl⟩:=List.mem_map.mp hb
  exact List.mem_cons_of_mem _ (List.mem_map_of_mem (by simp only [List.mem_append] at hp ⊢;grind))
theorem Zi.exSet (R:Zi φ xs (lg++ex) β loc σ b0z cs frn m s){h':Heap}{tk:Nat}(ha:lg'.map Prod.fst=lg.map Prod.fst)(hc:noCells lg)(hk:∀ b o,b∉lg.map Prod.fst→s.heap.get? b=some o→h'.get? b=some o)
  (hl:∀ p∈lg',h'.get? p.1=some p.2):Zi φ xs (lg'++ex) β loc σ b0z cs frn m {s with heap:=h',toks:=tk}:=by
 have hnd:=(List.nodup_append.mp ((Vk lg b0z cs ex frn).nodup_iff.mp R.nd))
 have hlg:∀ b∈lg.map Prod.fst,b≠φ.env.locals∧φ.G.h.get? b=none:=fun b hb=>by
  obtain ⟨p,hp,rfl⟩:=List.mem_map.mp hb
  exact (R.N p (by simp [hp])).2
 refine ⟨R.ok,R.real,R.up,?_,fun p hp=>?_,?_,R.cells,fun i x av h1 h2=>?_,R.gens,R.os⟩
 ·obtain ⟨o,es,ep,ho,r⟩:=R.F.ns
  exact ⟨⟨o,es,ep,hk _ _ (fun q=>(hlg _ q).1 rfl) ho,r⟩,fun b o e=>hk _ _ (fun q=>by rw [(hlg _ q).2] at e;cases e) (R.F.keep b o e),R.F.above⟩
 ·by_cases q:p∈lg'
  ·exact ⟨hl p q,hlg p.1 (by rw [← ha];exact List.mem_map_of_mem q)⟩
  ·have hin:p∈b0z.flatten++(cs++(ex++frn)):=by simp only [List.mem_append] at hp ⊢;grind
   have hold:=R.N p (by simp only [List.mem_append] at hin ⊢;grind)
   exact ⟨hk _ _ (fun z=>hnd.2.2 p.1 z p.1 (List.mem_map_of_mem hin) rfl) hold.1,hold.2⟩
 ·refine (Vk lg' b0z cs ex frn).nodup_iff.mpr ?_
  rw [ha]
  exact (Vk lg b0z cs ex frn).nodup_iff.mp R.nd
 ·obtain ⟨v,h3,h4⟩:=R.loc i x av h1 h2
  refine ⟨v,h3,h4.sub fun c o k3 k4=>?_⟩
  have:(c,o)∉lg:=fun q=>hc _ q _ k4
  simp only [List.mem_append] at k3 ⊢;grind
theorem Zi.exNew (R:Zi φ xs ex β loc σ b0z cs frn m s)(o:Obj)(hfree:o.isFreed=false){tk:Nat}:Zi φ xs ([(s.heap.objs.size,o)]++ex) β loc σ b0z cs frn m {s with heap:=s.heap.push o,toks:=tk}:=by
 have N':=News.push R.F R.N o hfree
 refine R.exAdd (lg:=[(s.heap.objs.size,o)]) (fun b o' e=>Heap.get?_push_of_some _ e) (fun p hp=>?_) (by simp) (fun p hp q hq=>?_)
 ·simp at hp;subst hp
  exact N' _ List.mem_cons_self
 ·simp at hp;subst hp
  exact Nat.ne_of_lt (R.lt q hq)
end
inductive Yb where
|lst (x:Nat)|tup (x:Nat)|dct (x:Nat) (n ep:Nat)|byt (l:List UInt8)|txt (l:List Nat)|rng (a:Int) (n:Nat)|enm (x:Nat)
noncomputable def Z0 (it:Yb)(σ:List Za)(i0z:List (List AV)):Prop:=match it with
|.lst x=>∃ ls,σ[x]?=some (.list ls)∧i0z=ls.map fun v=>[v]
|.tup x=>∃ ls,σ[x]?=some (.tup ls)∧i0z=ls.map fun v=>[v]
|.dct x n ep=>∃ kvs,σ[x]?=some (.dict kvs ep)∧kvs.length=n∧(kvs.map Prod.fst).Nodup∧i0z=kvs.map fun p=>[.int p.1]
|.byt l=>i0z=l.map fun b=>[.int b.toNat]
|.txt l=>i0z=l.map fun c=>[.str [c]]
|.rng a n=>i0z=(List.range n).map fun (i:Nat)=>[.int (a+i)]
|.enm x=>∃ ls,σ[x]?=some (.list ls)∧i0z=ls.zipIdx.map fun p=>[.int p.2,p.1]
noncomputable abbrev Vo (c:String)(vs:List Value):Obj:={cls:=.type c,dict:=none,data:=.fields vs.toArray,slots:=#[]}
inductive Ga (β:List Addr)(x:Nat)(c:String)(d:Addr→Data)(v:Value)(lg:List (Addr×Obj)):Prop
|mk (I l:Addr) (o:Obj):v=.ref I→β[x]?=some l→lg=[(I,o)]→o.cls=.type c→o.data=d l→Ga β x c d v lg
inductive Jv (c:String)(d:Tok→Data)(v:Value)(lg:List (Addr×Obj)):Prop
|mk (I:Addr) (t:Tok) (o:Obj):v=.ref I→lg=[(I,o)]→o.cls=.type c→o.data=d t→Jv c d v lg
inductive MM (β:List Addr)(x k:Nat)(v:Value)(lg:List (Addr×Obj)):Prop
|mk (e I l:Addr) (o:Obj) (old:Value):v=.ref e→β[x]?=some l→e≠I→lg=[(e,Vo "enumerate" [.none,.bool false,.ref I,rawInt k,.none,old]),(I,o)]→o.cls=.type "list_iterator" → o.data=.fields #[.ref l,.int k 0]→MM β x k v lg
noncomputable def Yv (β:List Addr)(it:Yb)(k:Nat)(v:Value)(lg:List (Addr×Obj)):Prop:=match it with
|.lst x=>Ga β x "list_iterator" (fun l=>.fields #[.ref l,.int k 0]) v lg
|.tup x=>Ga β x "tuple_iterator" (fun l=>.fields #[.ref l,.int k 0]) v lg
|.dct x n ep=>Ga β x "dict_keyiterator" (fun l=>.fields #[.ref l,.int k 0,.int n 0,.int ep 0]) v lg
|.byt l=>Jv "bytes_iterator" (fun t=>.fields #[.bytes l.toArray t,.int k 0]) v lg
|.txt l=>Jv "str_ascii_iterator" (fun t=>.fields #[.str ⟨l.toArray⟩ t,.int k 0]) v lg
|.rng a n=>∃ I,v=.ref I∧lg=[(I,Vo "range_iterator" [rawInt (a+k),rawInt ((n:Int)-k),rawInt 1])]
|.enm x=>MM β x k v lg
theorem Yv.mono {β β':List Addr}(hp:β<+:β'){it:Yb}{k:Nat}{v:Value}{lg:List (Addr×Obj)}(h:Yv β it k v lg):Yv β' it k v lg:=by
 have get:∀ {x:Nat} {l:Addr},β[x]?=some l→β'[x]?=some l:=by
  intro x l e
  obtain ⟨γ,rfl⟩:=hp
  rw [List.getElem?_append_left (List.getElem?_eq_some_iff.mp e).1];exact e
 cases it with
|lst x=>obtain ⟨I,l,o,h1,h2,h3,h4,h5⟩:=h;exact ⟨I,l,o,h1,get h2,h3,h4,h5⟩
|tup x=>obtain ⟨I,l,o,h1,h2,h3,h4,h5⟩:=h;exact ⟨I,l,o,h1,get h2,h3,h4,h5⟩
|dct x n ep=>obtain ⟨I,l,o,h1,h2,h3,h4,h5⟩:=h;exact ⟨I,l,o,h1,get h2,h3,h4,h5⟩
|byt l=>exact h
|txt l=>exact h
|rng a n=>exact h
|enm x=>obtain ⟨e,I,l,o,old,h1,h2,h3,h4,h5,h6⟩:=h;exact ⟨e,I,l,o,old,h1,get h2,h3,h4,h5,h6⟩
theorem Yv.noCells {β:List Addr}{it:Yb}{k:Nat}{v:Value}{lg:List (Addr×Obj)}(h:Yv β it k v lg):noCells lg:=by
 intro p hp w hw
 cases it with
|lst x=>obtain ⟨I,l,o,h1,h2,rfl,h4,h5⟩:=h;simp at hp;subst hp;rw [h5] at hw;cases hw
|tup x=>obtain ⟨I,l,o,h1,h2,rfl,h4,h5⟩:=h;simp at hp;subst hp;rw [h5] at hw;cases hw
|dct x n ep=>obtain ⟨I,l,o,h1,h2,rfl,h4,h5⟩:=h;simp at hp;subst hp;rw [h5] at hw;cases hw
|byt l=>obtain ⟨I,t,o,h1,rfl,h4,h5⟩:=h;simp at hp;subst hp;rw [h5] at hw;cases hw
|txt l=>obtain ⟨I,t,o,h1,rfl,h4,h5⟩:=h;simp at hp;subst hp;rw [h5] at hw;cases hw
|rng a n=>obtain ⟨I,h1,rfl⟩:=h;simp at hp;subst hp;cases hw
|enm x=>obtain ⟨e,I,l,o,old,h1,h2,h3,rfl,h4,h5⟩:=h;simp at hp;rcases hp with rfl|rfl<;>first|cases hw|(rw [h5] at hw;cases hw)
section
variable {φ:Fx}{xs:List Str}{ex:List (Addr×Obj)}{β:List Addr}{loc:Zc}{σ:List Za}{s:Ws}{Qc Ec:Value→Ws→Prop}
noncomputable def XQ (v:AV)(σ:List Za)(it:Yb):Prop:=match v with
|.obj x=>(∃ ls,σ[x]?=some (.list ls)∧it=.lst x)∨(∃ ls,σ[x]?=some (.tup ls)∧it=.tup x)∨(∃ kvs ep,σ[x]?=some (.dict kvs ep)∧(kvs.map Prod.fst).Nodup∧it=.dct x kvs.length ep)
|.bytes l=>it=.byt l
|.str l=>(l.all (·<128)=true)∧it=.txt l
|_=>False
theorem Zb5 {v:Value}{a:AV}{it:Yb}(R:Rl φ xs ex β loc σ s)(hv:VR β v a)(h:XQ a σ it)(k:∀ w lg s',Yv β it 0 w lg→Rl φ xs (lg++ex) β loc σ s'→Qc w s'):wpAny (Zd φ.G) φ.A (pyIter v) Qc Ec s:=by
 obtain ⟨b0z,cs,frn,m,R⟩:=R
 cases a with
|obj x=>
  rcases h with ⟨ls,h1,rfl⟩|⟨ls,h1,rfl⟩|⟨kvs,ep,h1,h2,rfl⟩
  ·obtain ⟨A,us,n,e1,r1,hm,l1⟩:=R.listAt h1
   rw [hv.objAt e1]
   with_reducible refine wpAny_pyIter_list l1 ?_
   exact k _ _ _ ⟨_,A,_,rfl,e1,rfl,rfl,rfl⟩ ⟨_,_,_,_,R.exNew {cls:=.type "list_iterator",data:=.fields #[.ref A,.int 0 0]} rfl (tk:=s.toks)⟩
  ·obtain ⟨A,us,n,e1,r1,hm,l1⟩:=R.tupAt h1
   rw [hv.objAt e1]
   with_reducible refine wpAny_pyIter_tuple l1 ?_
   exact k _ _ _ ⟨_,A,_,rfl,e1,rfl,rfl,rfl⟩ ⟨_,_,_,_,R.exNew {cls:=.type "tuple_iterator",data:=.fields #[.ref A,.int 0 0]} rfl (tk:=s.toks)⟩
  ·obtain ⟨A,kv',e1,hmod,dA,d2⟩:=R.dictAt h1 h2
   rw [hv.objAt e1]
   with_reducible refine wpAny_pyIter_dict hmod dA ?_
   refine k _ _ _ ⟨_,A,_,rfl,e1,rfl,rfl,?_⟩ ⟨_,_,_,_,R.exNew {cls:=.type "dict_keyiterator",data:=.fields #[.ref A,.int 0 0,.int kv'.length 0,.int ep 0]} rfl (tk:=s.toks)⟩
   rw [d2.length];rfl
|bytes l=>
  obtain rfl:=h
  obtain ⟨t,rfl⟩:=hv
  with_reducible refine KBw.pyIter_bytes ?_
  exact k _ _ _ ⟨_,t,_,rfl,rfl,rfl,rfl⟩ ⟨_,_,_,_,R.exNew {cls:=.type "bytes_iterator",data:=.fields #[.bytes l.toArray t,.int 0 0]} rfl (tk:=s.toks)⟩
|str l=>
  obtain ⟨h,rfl⟩:=h
  obtain ⟨t,rfl⟩:=hv
  have ha:(⟨l.toArray⟩:Str).cps.all (·<128)=true:=by simpa using h
  with_reducible refine wpAny_pyIter_ascii ha ?_
  exact k _ _ _ ⟨_,t,_,rfl,rfl,rfl,rfl⟩ ⟨_,_,_,_,R.exNew {cls:=.type "str_ascii_iterator",data:=.fields #[.str ⟨l.toArray⟩ t,.int 0 0]} rfl (tk:=s.toks)⟩
|_=>exact False.elim h
end
section
variable {φ:Fx}{xs:List Str}{ex lg:List (Addr×Obj)}{β:List Addr}{loc:Zc}{σ:List Za}{s:Ws}{Ec:Value→Ws→Prop}{it:Yb}{k:Nat}{v:Value}{i0z:List (List AV)}
theorem Hb {Qc:Option Value→Ws→Prop}(hh:φ.A.handled=none)(R:Rl φ xs (lg++ex) β loc σ s)(st:Yv β it k v lg)(src:Z0 it σ i0z)(hk:i0z[k]?=none)(q:∀ s',Rl φ xs ex β loc σ s'→Qc none s') :
  wpAny (Zd φ.G) φ.A (pyNext v) Qc Ec s:=by
 have nc:=st.noCells
 obtain ⟨b0z,cs,frn,m,R⟩:=R
 have fin:∀ (I:Addr) h' tk,I∈lg.map Prod.fst→Heap.ExtBut I s.heap h'→Qc none {s with heap:=h',toks:=tk}:=fun I h' tk hI he=>by
  refine q _ ⟨b0z,cs,frn,m,?_⟩
  obtain ⟨p,hp,rfl⟩:=List.mem_map.mp hI
  have hN:=R.N p (by simp [hp])
  have R0:=R.exDrop nc
  have hnd:=(List.nodup_append.mp ((Vk lg b0z cs ex frn).nodup_iff.mp R.nd))
  refine ⟨R0.ok,R0.real,R0.up,?_,fun z hz=>⟨he _ _ (fun e=>hnd.2.2 p.1 (List.mem_map_of_mem hp) z.1 (List.mem_map_of_mem hz) e.symm) (R0.N z hz).1,(R0.N z hz).2⟩,R0.nd,R0.cells,R0.loc,R0.gens,R0.os⟩
  obtain ⟨o,es,ep,ho,r⟩:=R0.F.ns
  exact ⟨⟨o,es,ep,he _ _ (Ne.symm hN.2.1) ho,r⟩,fun b o e=>he _ _ (fun e'=>by rw [e',hN.2.2] at e;cases e) (R0.F.keep b o e),R0.F.above⟩
 cases it with
|lst x=>
  obtain ⟨I,l,o,rfl,h2,rfl,h4,h5⟩:=st
  obtain ⟨ls,h6,rfl⟩:=src
  obtain ⟨A,us,n,e1,r1,hm,l1⟩:=R.listAt h6
  rw [h2] at e1;cases e1
  have hit:s.heap.IsListIter I l k:=⟨o,(R.N (I,o) (by simp)).1,h4,h5⟩
  have hx:us.toArray[k]?=none:=by have:=r1.length;simp at hk ⊢;exact Internal.qBt ‹_› ‹_›
  with_reducible exact wpAny_pyNext_list_end hh hit l1 hx fun h' he=>fin I h' s.toks (by simp) he
|tup x=>
  obtain ⟨I,l,o,rfl,h2,rfl,h4,h5⟩:=st
  obtain ⟨ls,h6,rfl⟩:=src
  obtain ⟨A,us,n,e1,r1,hm,l1⟩:=R.tupAt h6
  rw [h2] at e1;cases e1
  have hit:s.heap.IsTupleIter I l k:=⟨o,(R.N (I,o) (by simp)).1,h4,h5⟩
  have hx:us.toArray[k]?=none:=by have:=r1.length;simp at hk ⊢;omega
  with_reducible exact wpAny_pyNext_tuple_end hh hit l1 hx fun h' he=>fin I h' s.toks (by simp) he
|dct x n ep=>
  obtain ⟨I,l,o,rfl,h2,rfl,h4,h5⟩:=st
  obtain ⟨kvs,h6,h7,h8,rfl⟩:=src
  obtain ⟨A,kv',e1,hmod,dA,d2⟩:=R.dictAt h6 h8
  rw [h2] at e1;cases e1
  have hlen:=d2.length
  have hit:s.heap.IsKeyIter I l k kv'.length ep:=⟨o,(R.N (I,o) (by simp)).1,h4,by rw [hlen,h7];exact h5⟩
  have hx:kv'[k]?=none:=by simp at hk ⊢;exact Internal.qBt ‹_› ‹_›
  with_reducible exact wpAny_pyNext_dict_end hh hit dA hx fun h' he=>fin I h' s.toks (by simp) he
|byt l=>
  obtain ⟨I,t,o,rfl,rfl,h4,h5⟩:=st
  obtain rfl:=src
  have hit:KBw.IsBytesIter s.heap I l.toArray t k:=⟨o,(R.N (I,o) (by simp)).1,h4,h5⟩
  have hx:l.toArray[k]?=none:=by simp at hk ⊢;assumption
  with_reducible exact KBw.next_end hh hit hx fun h' he=>fin I h' s.toks (by simp) he
|txt l=>
  obtain ⟨I,t,o,rfl,rfl,h4,h5⟩:=st
  obtain rfl:=src
  have hit:s.heap.IsStrIter I "str_ascii_iterator" ⟨l.toArray⟩ t k:=⟨o,(R.N (I,o) (by simp)).1,h4,h5⟩
  have hx:(⟨l.toArray⟩:Str).cps[k]?=none:=by simp at hk ⊢;assumption
  with_reducible exact wpAny_pyNext_ascii_end hh hit hx fun h' he=>fin I h' s.toks (by simp) he
|rng a n=>
  obtain ⟨I,rfl,rfl⟩:=st
  obtain rfl:=src
  have hit:IsRangeIter s.heap I (a+k) ((n:Int)-k) 1:=(R.N (I,_) (by simp)).1
  have hx:(n:Int)-k≤0:=by simp at hk;lia
  with_reducible exact wpAny_pyNext_range_end hh hit hx fun h' he=>fin I h' s.toks (by simp) he
|enm x=>
  obtain ⟨e,I,l,o,old,rfl,h2,h3,rfl,h4,h5⟩:=st
  obtain ⟨ls,h6,rfl⟩:=src
  obtain ⟨A,us,n,e1,r1,hm,l1⟩:=R.listAt h6
  rw [h2] at e1;cases e1
  have hit:s.heap.IsListIter I l k:=⟨o,(R.N (I,o) (by simp)).1,h4,h5⟩
  have he:IsEnum s.heap e I k old:=(R.N (e,_) (by simp)).1
  have hx:us.toArray[k]?=none:=by have:=r1.length;simp at hk ⊢;omega
  with_reducible exact wpAny_pyNext_enum_end hh he hit l1 hx fun h' he=>fin I h' s.toks (by simp) he
theorem HD {Qc:Option Value→Ws→Prop}{av:AV}(R:Rl φ xs (lg++ex) β loc σ s)(st:Yv β it k v lg)(src:Z0 it σ i0z)(hk:i0z[k]?=some [av])
  (q:∀ w lg' s',VR β w av→Yv β it (k+1) v lg'→Rl φ xs (lg'++ex) β loc σ s'→Qc (some w) s'):wpAny (Zd φ.G) φ.A (pyNext v) Qc Ec s:=by
 have nc:=st.noCells
 obtain ⟨b0z,cs,frn,m,R⟩:=R
 have set1:∀ (I:Addr) (o o':Obj) h' tk,lg=[(I,o)]→Heap.SameBut I s.heap h'→h'.get? I=some o'→Rl φ xs ([(I,o')]++ex) β loc σ {s with heap:=h',toks:=tk}:=fun I o o' h' tk e hs ho'=>by
  subst e
  exact ⟨b0z,cs,frn,m,R.exSet (lg':=[(I,o')]) (by simp) nc (fun b ob hb e=>(hs.2 b (by simpa using hb)).trans e) (fun p hp=>by simp at hp;subst hp;exact ho')⟩
 cases it with
|lst x=>
  obtain ⟨I,l,o,rfl,h2,rfl,h4,h5⟩:=st
  obtain ⟨ls,h6,rfl⟩:=src
  obtain ⟨A,us,n,e1,r1,hm,l1⟩:=R.listAt h6
  rw [h2] at e1;cases e1
  have hit:s.heap.IsListIter I l k:=⟨o,(R.N (I,o) (by simp)).1,h4,h5⟩
  have hk':ls[k]?=some av:=by simpa using hk
  obtain ⟨w,hw,hv⟩:=r1.get hk'
  with_reducible refine wpAny_pyNext_list_item hit l1 (by simpa using hw) fun h' hit' hs=>?_
  obtain ⟨o',ho',g1,g2⟩:=hit'
  exact q w _ _ hv ⟨I,l,o',rfl,h2,rfl,g1,g2⟩ (set1 I o o' h' s.toks rfl hs ho')
|tup x=>
  obtain ⟨I,l,o,rfl,h2,rfl,h4,h5⟩:=st
  obtain ⟨ls,h6,rfl⟩:=src
  obtain ⟨A,us,n,e1,r1,hm,l1⟩:=R.tupAt h6
  rw [h2] at e1;cases e1
  have hit:s.heap.IsTupleIter I l k:=⟨o,(R.N (I,o) (by simp)).1,h4,h5⟩
  have hk':ls[k]?=some av:=by simpa using hk
  obtain ⟨w,hw,hv⟩:=r1.get hk'
  with_reducible refine wpAny_pyNext_tuple_item hit l1 (by simpa using hw) fun h' hit' hs=>?_
  obtain ⟨o',ho',g1,g2⟩:=hit'
  exact q w _ _ hv ⟨I,l,o',rfl,h2,rfl,g1,g2⟩ (set1 I o o' h' s.toks rfl hs ho')
|dct x n ep=>
  obtain ⟨I,l,o,rfl,h2,rfl,h4,h5⟩:=st
  obtain ⟨kvs,h6,h7,h8,rfl⟩:=src
  obtain ⟨A,kv',e1,hmod,dA,d2⟩:=R.dictAt h6 h8
  rw [h2] at e1;cases e1
  have hlen:=d2.length
  have hit:s.heap.IsKeyIter I l k kv'.length ep:=⟨o,(R.N (I,o) (by simp)).1,h4,by rw [hlen,h7];exact h5⟩
  simp only [List.getElem?_map,Option.map_eq_some_iff] at hk
  obtain ⟨p,hp,hpe⟩:=hk
  simp only [List.cons.injEq,and_true] at hpe
  subst hpe
  obtain ⟨pv,hpv,hr⟩:=d2.get hp
  with_reducible refine wpAny_pyNext_dict_item hit dA (k:=pv.1) (v:=pv.2) (by rw [hpv]) fun key h' hkey hit' hs=>?_
  obtain ⟨t,rfl⟩:=Value.isInt_shape hkey
  obtain ⟨o',ho',g1,g2⟩:=hit'
  refine q _ _ _ ⟨t,by rw [hr.1]⟩ ⟨I,l,o',rfl,h2,rfl,g1,?_⟩ (set1 I o o' h' s.toks rfl hs ho')
  rw [g2,hlen,h7]
|byt l=>
  obtain ⟨I,t,o,rfl,rfl,h4,h5⟩:=st
  obtain rfl:=src
  have hit:KBw.IsBytesIter s.heap I l.toArray t k:=⟨o,(R.N (I,o) (by simp)).1,h4,h5⟩
  simp only [List.getElem?_map,Option.map_eq_some_iff] at hk
  obtain ⟨b,hb,hbe⟩:=hk
  simp only [List.cons.injEq,and_true] at hbe
  subst hbe
  with_reducible refine KBw.next_item hit (by simpa using hb) fun h' hit' hs=>?_
  obtain ⟨o',ho',g1,g2⟩:=hit'
  exact q _ _ _ ⟨_,rfl⟩ ⟨I,t,o',rfl,rfl,g1,g2⟩ (set1 I o o' h' _ rfl hs ho')
|txt l=>
  obtain ⟨I,t,o,rfl,rfl,h4,h5⟩:=st
  obtain rfl:=src
  have hit:s.heap.IsStrIter I "str_ascii_iterator" ⟨l.toArray⟩ t k:=⟨o,(R.N (I,o) (by simp)).1,h4,h5⟩
  simp only [List.getElem?_map,Option.map_eq_some_iff] at hk
  obtain ⟨b,hb,hbe⟩:=hk
  simp only [List.cons.injEq,and_true] at hbe
  subst hbe
  with_reducible refine wpAny_pyNext_ascii_item hit (c:=b) (by simpa using hb) fun h' hit' hs=>?_
  obtain ⟨o',ho',g1,g2⟩:=hit'
  exact q _ _ _ ⟨_,rfl⟩ ⟨I,t,o',rfl,rfl,g1,g2⟩ (set1 I o o' h' _ rfl hs ho')
|rng a n=>
  obtain ⟨I,rfl,rfl⟩:=st
  obtain rfl:=src
  have hit:IsRangeIter s.heap I (a+k) ((n:Int)-k) 1:=(R.N (I,_) (by simp)).1
  simp only [List.getElem?_map,Option.map_eq_some_iff] at hk
  obtain ⟨i,hi,hie⟩:=hk
  simp only [List.cons.injEq,and_true] at hie
  subst hie
  have hkn:k<n:=by
   have:=(List.getElem?_eq_some_iff.mp hi).1;simpa using this
  have hik:i=k:=by rw [List.getElem?_range hkn] at hi;cases hi;rfl
  subst hik
  with_reducible refine wpAny_pyNext_range_item hit (by lia) fun h' hit' hs=>?_
  refine q _ _ _ ⟨_,rfl⟩ ⟨I,rfl,?_⟩ (set1 I _ _ h' _ rfl hs hit')
  simp only [Vo]
  rw [show a+(i:Int)+1=a+((i+1:Nat):Int) by simp +arith,show (n:Int)-i-1=(n:Int)-((i+1:Nat):Int) by simp +arith]
|enm x=>
  obtain ⟨ls,h6,rfl⟩:=src
  simp only [List.getElem?_map,Option.map_eq_some_iff] at hk
  obtain ⟨p,_,hpe⟩:=hk
  simp at hpe
theorem CP {Qc:Unit→Ws→Prop}{P:Ws→Prop}{E₁ E₂ E₃:Value→Ws→Prop}{a b:AV}{ts:List Expr}{is:List Nat}{tk:Nat}{tp:Pos}(hh:φ.A.handled=none)
  (hst:Ze (VC φ xs) ((assignEach ts φ.env).map (·.2)) is∧(assignEach ts φ.env).findIdx? (·.1)=none∧(assignEach ts φ.env).length=is.length) (h2i:is.length=2) (R:Rl φ xs (lg++ex) β loc σ s) (st:Yv β it k v lg) (src:Z0 it σ i0z) (hk:i0z[k]?=some [a,b])
  (q:∀ lg' s',Yv β it (k+1) v lg'→Rl φ xs (lg'++ex) β (Z3 loc is [a,b]) σ s'→Qc () s') :
  wpAny (Zd φ.G) φ.A (pyNext v) (fun r s₁=>match r with
  |none=>P s₁
  |some t=>wpAny (Zd φ.G) φ.A (letOwnedTupleGo (.Tuple ts tk tp) v t) (fun _ s₁'=>wpAny (Zd φ.G) φ.A (assign (.Tuple ts tk tp) φ.env t) Qc E₁ s₁') E₂ s₁) E₃ s:=by
 have nc:=st.noCells
 obtain ⟨k1,k2,k3⟩:=hst
 obtain ⟨b0z,cs,frn,m,R⟩:=R
 cases it with
|enm x=>
  obtain ⟨e,I,l,o,old,rfl,h2,h3,rfl,h4,h5⟩:=st
  obtain ⟨ls,h6,rfl⟩:=src
  obtain ⟨A,us,n,e1,r1,hm,l1⟩:=R.listAt h6
  rw [h2] at e1;cases e1
  have hit:s.heap.IsListIter I l k:=⟨o,(R.N (I,o) (by simp)).1,h4,h5⟩
  have he:IsEnum s.heap e I k old:=(R.N (e,_) (by simp)).1
  simp only [List.getElem?_map,Option.map_eq_some_iff,List.getElem?_zipIdx] at hk
  obtain ⟨p,⟨lv,hlv,rfl⟩,hpe⟩:=hk
  simp only [List.cons.injEq,and_true] at hpe
  obtain ⟨rfl,rfl⟩:=hpe
  obtain ⟨w,hw,hv⟩:=r1.get hlv
  with_reducible refine wpAny_pyNext_enum_item he hit l1 (x:=w) (by simpa using hw) h3 fun h' g1 g2 g3 g4 g5=>?_
  dsimp only
  have hlt:∀ b ob,s.heap.get? b=some ob→b<s.heap.objs.size:=fun b ob hb=>Heap.lt_size hb
  have hesz:e≠s.heap.objs.size:=Nat.ne_of_lt (hlt _ _ he)
  have hIsz:I≠s.heap.objs.size:=Nat.ne_of_lt (hlt _ _ (R.N (I,o) (by simp)).1)
  with_reducible refine wpAny_letOwnedTupleGo_enum g1 fun h'' m1 m2=>?_
  obtain ⟨oI,oI1,oI2,oI3⟩:=g2
  have R':Zi φ xs ([(e,Vo "enumerate" [.none,.bool false,.ref I,rawInt ((k:Int)+1),.none,w]),(I,oI)]++ex) β loc σ b0z cs frn m {s with heap:=h'',toks:=s.toks+1}:=
   R.exSet (lg':=[(e,Vo "enumerate" [.none,.bool false,.ref I,rawInt ((k:Int)+1),.none,w]),(I,oI)]) (by simp) nc (fun b ob hb eb=>(m2.2 b (by simp at hb;exact hb.1)).trans (g5 b ob (by simp at hb;exact hb.1) (by simp at hb;exact hb.2) eb)) (fun p hp=>by
    simp at hp
    rcases hp with rfl|rfl
    ·exact m1
    ·exact (m2.2 I (Ne.symm h3)).trans oI1)
  have ht:IsTup h'' s.heap.objs.size #[.int k s.toks,w]:=by
   have:=(m2.2 s.heap.objs.size (Ne.symm hesz)).trans g3
   exact ⟨_,this,rfl,_,rfl⟩
  with_reducible refine unpackN_ R'.F R'.N ht hh (by rw [k3,h2i];simp) k2 fun h3' F' N'=>?_
  have R₃:=Rl.grow (tk:=s.toks+1) R' F' N'
  refine Mj k1 (vs:=[.int k s.toks,w]) (avs:=[.int k,lv]) (.cons ⟨_,rfl⟩ (.cons hv .nil)) (by rw [List.length_map,k3,h2i];simp) R₃ fun s₄ R₄=>?_
  exact q _ s₄ ⟨e,I,l,oI,w,rfl,h2,h3,rfl,oI2,oI3⟩ (by simpa using R₄)
|lst x=>obtain ⟨ls,h6,rfl⟩:=src;simp only [List.getElem?_map,Option.map_eq_some_iff] at hk;obtain ⟨p,_,hpe⟩:=hk;simp at hpe
|tup x=>obtain ⟨ls,h6,rfl⟩:=src;simp only [List.getElem?_map,Option.map_eq_some_iff] at hk;obtain ⟨p,_,hpe⟩:=hk;simp at hpe
|dct x n ep=>obtain ⟨ls,h6,_,_,rfl⟩:=src;simp only [List.getElem?_map,Option.map_eq_some_iff] at hk;obtain ⟨p,_,hpe⟩:=hk;simp at hpe
|byt l=>obtain rfl:=src;simp only [List.getElem?_map,Option.map_eq_some_iff] at hk;obtain ⟨p,_,hpe⟩:=hk;simp at hpe
|txt l=>obtain rfl:=src;simp only [List.getElem?_map,Option.map_eq_some_iff] at hk;obtain ⟨p,_,hpe⟩:=hk;simp at hpe
|rng c n=>obtain rfl:=src;simp only [List.getElem?_map,Option.map_eq_some_iff] at hk;obtain ⟨p,_,hpe⟩:=hk;simp at hpe
end
noncomputable def WI (n:Nat)(κ:Cx)(e:Expr)(loc:Zc)(σ:List Za)(Q:Yb→List Za→Prop)(X:Zx):Prop:=
 ∀ (φ:Fx) ex β s (Qc:Value→Ws→Prop) (Ec:Value→Ws→Prop),ZG n φ.A→ZP κ φ→Rl φ κ.xs ex β loc σ s →
  (∀ w it lg σ' β' s',Q it σ'→β<+:β'→Yv β' it 0 w lg→Rl φ κ.xs (lg++ex) β' loc σ' s'→Qc w s') →
  (∀ c σ' β' e s',X c σ'→β<+:β'→ZS φ κ.xs ex β' loc σ' c e s'→Ec (.ref e) s') →
  Zb (Zd φ.G) φ.A (eval e φ.env) (fun x s₁=>wpAny (Zd φ.G) φ.A (pyIter x) Qc Ec s₁) Ec s
section
variable {n:Nat}{κ:Cx}{loc:Zc}{σ:List Za}{X:Zx}
theorem WI.go {e:Expr}{Q:Yb→List Za→Prop}(h:WI n κ e loc σ Q X){φ:Fx}{ex:List (Addr×Obj)}{β:List Addr}{s:Ws}{Qc Ec:Value→Ws→Prop}(hr:ZG n φ.A)(hf:ZP κ φ)(R:Rl φ κ.xs ex β loc σ s)
  (kQ:∀ w it lg σ' β' s',Q it σ'→β<+:β'→Yv β' it 0 w lg→Rl φ κ.xs (lg++ex) β' loc σ' s'→Qc w s') (kX:∀ c σ' β' e s',X c σ'→β<+:β'→ZS φ κ.xs ex β' loc σ' c e s'→Ec (.ref e) s') :
  Zb (Zd φ.G) φ.A (eval e φ.env) (fun x s₁=>wpAny (Zd φ.G) φ.A (pyIter x) Qc Ec s₁) Ec s:=h φ ex β s Qc Ec hr hf R kQ kX
theorem WI.val {e:Expr}{Q:Yb→List Za→Prop}(h:WE n κ e loc σ (fun v σ₁=>∃ it,XQ v σ₁ it∧Q it σ₁) X):WI n κ e loc σ Q X:=by
 intro φ ex β s Qc Ec hr hf R kQ kX
 with_reducible refine h.go hr hf R (fun v av σ₁ β₁ s₁ q₁ p₁ R₁ v₁=>?_) kX
 obtain ⟨it,h1,h2⟩:=q₁
 with_reducible exact Zb5 R₁ v₁ h1 fun w lg s' st R₂=>kQ w it lg σ₁ β₁ s' h2 p₁ st R₂
theorem CZ {φ:Fx}{xs:List Str}{ex:List (Addr×Obj)}{β:List Addr}{loc:Zc}{σ:List Za}{s:Ws}{Qc Ec:Value→Ws→Prop}(R:Rl φ xs ex β loc σ s){r:Addr}{a b:Int}{t u v:Tok}(hr:IsRange s.heap r a b 1 t u v)
  (h1: -(2^62)≤a) (h2:a<2^62) (h3: -(2^62)≤b) (h4:b<2^62) (k:∀ w lg s',Yv β (.rng a (b-a).toNat) 0 w lg→Rl φ xs (lg++ex) β loc σ s'→Qc w s'):wpAny (Zd φ.G) φ.A (pyIter (.ref r)) Qc Ec s:=by
 obtain ⟨b0z,cs,frn,m,R⟩:=R
 have hsz:Builtin.Range.rangeSize a b 1=((b-a).toNat:Int):=by rw [rangeSize_one];split<;>grind
 with_reducible refine wpAny_pyIter_range hr (small_one h1 h2 h3 h4) ?_
 refine k _ _ _ ⟨_,rfl,?_⟩ ⟨_,_,_,_,R.exNew {cls:=.type "range_iterator",data:=.fields #[rawInt a,rawInt (Builtin.Range.rangeSize a b 1),rawInt 1]} rfl (tk:=s.toks)⟩
 rw [hsz];simp [Vo]
theorem WI.rng1 {e:Expr}{p pos:Pos}{Q:Yb→List Za→Prop}(hk:κ.sc.lookup (Zs "range")=some .globalImplicit)(hs:ZQ e=false)
  (h:WE n κ e loc σ (fun v σ₁=>∃ b,v=.int b∧-(2^62)≤b∧b<2^62∧Q (.rng 0 b.toNat) σ₁) X):WI n κ (.Call (.Name "range" p) [e] [] pos) loc σ Q X:=by
 intro φ ex β s Qc Ec hr hf R kQ kX
 with_reducible refine XK ?_
 have hk':=(hf.kind "range").trans hk
 with_reducible refine XJ (v:=.type "range") R (by unfold YW;kernel_rfl) hk' (by decide) ?_
 with_reducible refine X1 (fun _ e=>by cases e) (by simp [ZN,hs]) ?_
 have hes:ZC n κ [e] loc σ (fun vs σ₁=>∃ b,vs=[.int b]∧-(2^62)≤b∧b<2^62∧Q (.rng 0 b.toNat) σ₁) X:=ZC.cons hs (h.mono (fun v σ₁ hv=>ZC.nil (by obtain ⟨b,rfl,r⟩:=hv;exact ⟨b,rfl,r⟩)) fun _ _ x=>x)
 with_reducible refine hes.go hr hf R (fun vs avs σ₁ β₁ s₁ q₁ p₁ R₁ v₁=>?_) kX
 obtain ⟨b,rfl,h1,h2,h3⟩:=q₁
 obtain ⟨v,rfl,t,rfl⟩:=Yx v₁
 change Zb _ _ (PySem.call (.type "range") [.int b t]) _ _ _
 with_reducible refine .of (call_range_1 ?_)
 have R₂:Rl φ κ.xs ex β₁ loc σ₁ {s₁ with heap:=s₁.heap.push {cls:=.type "range",data:=.fields #[.int 0 s₁.toks,.int b t,.int 1 (s₁.toks+1)]},toks:=s₁.toks+1+1}:=R₁.more fun b o e=>Heap.get?_push_of_some _ e
 with_reducible refine CZ R₂ (IsRange.new ..) (by decide) (by decide) h1 h2 fun w lg s' st R₃=>?_
 exact kQ w _ lg σ₁ β₁ s' h3 p₁ (by simpa using st) R₃
theorem WI.rng2 {e e':Expr}{p pos:Pos}{Q:Yb→List Za→Prop}(hk:κ.sc.lookup (Zs "range")=some .globalImplicit)(hs:ZQ e=false)(hs':ZQ e'=false)
  (h:WE n κ e loc σ (fun va σ₁=>WE n κ e' loc σ₁ (fun vb σ₂=>∃ a b,va=.int a∧vb=.int b∧-(2^62)≤a∧a<2^62∧-(2^62)≤b∧b<2^62∧Q (.rng a (b-a).toNat) σ₂) X) X):WI n κ (.Call (.Name "range" p) [e,e'] [] pos) loc σ Q X:=by
 intro φ ex β s Qc Ec hr hf R kQ kX
 with_reducible refine XK ?_
 have hk':=(hf.kind "range").trans hk
 with_reducible refine XJ (v:=.type "range") R (by unfold YW;kernel_rfl) hk' (by decide) ?_
 with_reducible refine X1 (fun _ e=>by cases e) (by simp [ZN,hs,hs']) ?_
 have hes:ZC n κ [e,e'] loc σ (fun vs σ₁=>∃ a b,vs=[.int a,.int b]∧-(2^62)≤a∧a<2^62∧-(2^62)≤b∧b<2^62∧Q (.rng a (b-a).toNat) σ₁) X:=
  ZC.cons hs (h.mono (fun v σ₁ hv=>ZC.cons hs' (hv.mono (fun w σ₂ hw=>ZC.nil (by obtain ⟨a,b,rfl,rfl,r⟩:=hw;exact ⟨a,b,rfl,r⟩)) fun _ _ x=>x)) fun _ _ x=>x)
 with_reducible refine hes.go hr hf R (fun vs avs σ₁ β₁ s₁ q₁ p₁ R₁ v₁=>?_) kX
 obtain ⟨a,b,rfl,h1,h2,h3,h4,h5⟩:=q₁
 obtain ⟨v,w,rfl,⟨t,rfl⟩,⟨u,rfl⟩⟩:=T8 v₁
 change Zb _ _ (PySem.call (.type "range") [.int a t,.int b u]) _ _ _
 with_reducible refine .of (call_range_2 ?_)
 have R₂:Rl φ κ.xs ex β₁ loc σ₁ {s₁ with heap:=s₁.heap.push {cls:=.type "range",data:=.fields #[.int a t,.int b u,.int 1 s₁.toks]},toks:=s₁.toks+1}:=R₁.more fun b o e=>Heap.get?_push_of_some _ e
 with_reducible refine CZ R₂ (IsRange.new ..) h1 h2 h3 h4 fun w lg s' st R₃=>?_
 exact kQ w _ lg σ₁ β₁ s' h5 p₁ st R₃
theorem WI.enm {e:Expr}{p pos:Pos}{Q:Yb→List Za→Prop}(hk:κ.sc.lookup (Zs "enumerate")=some .globalImplicit)(hs:ZQ e=false)
  (h:WE n κ e loc σ (fun v σ₁=>∃ x ls,v=.obj x∧σ₁[x]?=some (.list ls)∧Q (.enm x) σ₁) X):WI n κ (.Call (.Name "enumerate" p) [e] [] pos) loc σ Q X:=by
 intro φ ex β s Qc Ec hr hf R kQ kX
 with_reducible refine XK ?_
 have hk':=(hf.kind "enumerate").trans hk
 with_reducible refine XJ (v:=.type "enumerate") R (by unfold YW;kernel_rfl) hk' (by decide) ?_
 with_reducible refine X1 (fun _ e=>by cases e) (by simp [ZN,hs]) ?_
 have hes:ZC n κ [e] loc σ (fun vs σ₁=>∃ x ls,vs=[.obj x]∧σ₁[x]?=some (.list ls)∧Q (.enm x) σ₁) X:=ZC.cons hs (h.mono (fun v σ₁ hv=>ZC.nil (by obtain ⟨x,ls,rfl,r⟩:=hv;exact ⟨x,ls,rfl,r⟩)) fun _ _ x=>x)
 with_reducible refine hes.go hr hf R (fun vs avs σ₁ β₁ s₁ q₁ p₁ R₁ v₁=>?_) kX
 obtain ⟨x,ls,rfl,h1,h2⟩:=q₁
 obtain ⟨v,rfl,hx⟩:=Yx v₁
 obtain ⟨b0z,cs,frn,m,R₁⟩:=R₁
 obtain ⟨A,us,c,e1,r1,hm,l1⟩:=R₁.listAt h1
 rw [hx.objAt e1]
 change Zb _ _ (PySem.call (.type "enumerate") [.ref A]) _ _ _
 with_reducible refine .of (call_enumerate_list l1 fun h' g1 g2 g3 g4=>?_)
 with_reducible refine wpAny_pyIter_enum g1 ?_
 obtain ⟨oI,i1,i2,i3⟩:=g2
 refine kQ _ (.enm x) [(s₁.heap.objs.size+1,Vo "enumerate" [.none,.bool false,.ref s₁.heap.objs.size,rawInt 0,.none,.none]),(s₁.heap.objs.size,oI)] σ₁ β₁ _ h2 p₁ ⟨_,_,A,oI,.none,rfl,e1,Nat.ne_of_gt (Nat.lt_succ_self _),rfl,i2,i3⟩
  ⟨b0z,cs,frn,m,R₁.exAdd (tk:=s₁.toks) g4 (fun p hp=>?_) (by simp) fun p hp q hq=>?_⟩
 ·have hL:=R₁.F.ns.lt
  have hG:=R₁.F.above
  simp at hp
  rcases hp with rfl|rfl
  ·exact ⟨g1,Nat.ne_of_gt (Nat.lt_succ_of_lt hL),WO (Nat.le_of_lt (Nat.lt_of_le_of_lt hG (Nat.lt_succ_of_lt hL)))⟩
  ·exact ⟨i1,Nat.ne_of_gt hL,WO (Nat.le_of_lt (Nat.lt_of_le_of_lt hG hL))⟩
 ·have:=R₁.lt q hq
  simp at hp
  rcases hp with rfl|rfl
  ·exact Nat.ne_of_lt (Nat.lt_succ_of_lt this)
  ·exact Nat.ne_of_lt this
end
theorem ZS.back {φ:Fx}{xs:List Str}{ex:List (Addr×Obj)}{β:List Addr}{loc:Zc}{σ:List Za}{s:Ws}{c:XN}{e:Addr}{Ec:Value→Ws→Prop}(H:ZS φ xs ex β loc σ c e s)(hc:φ.comp=false)(k:∀ s',ZS φ xs ex β loc σ c e s'→Ec (.ref e) s') :
  notedBy (Zd φ.G) φ.A φ.env (cameBackBy (Zd φ.G) φ.A φ.env Ec) (.ref e) s:=by
 unfold notedBy
 refine H.note hc fun h' b0z cs frn m R X=>?_
 unfold cameBackBy
 have f2:=(R.envs hc).2.1
 obtain ⟨oe,vs,a0,x1,x2,x3,x4,x5,x6,T,oT,ts,y1,y2⟩:=id X
 refine wpAny_bind (wpAny_field x1 x3 y1 ?_)
 rw [if_neg (show ¬ (Value.ref T==Value.none)=true from by simp)]
 refine GC (s:={s with heap:=h'}) X fun h₂ T hT hG hk X₂=>?_
 have R₂:=R.but (h':=h₂) (tk:=s.toks) hk hT hG
 rw [f2] at X₂
 exact k _ fun _=>⟨b0z,cs,frn,m,_,R₂,X₂,.inr (.inr rfl)⟩
noncomputable def Mk (κ:Cx)(t:Expr)(is:List Nat):Bool:=((Zg (YR t) fun x=>Zg is.head? fun i=>Y8 κ i x)&&is.length.beq 1)||((Zg (Wf t) fun ts=>VV κ ts is)&&is.length.beq 2)
theorem BN {α:Type}{is:List α}{p:α→Bool}(h:Zg is.head? p=true)(hl:is.length.beq 1=true):∃ i,is=[i]∧p i=true:=by
 cases is with
|nil=>cases hl
|cons i r=>cases r with
 |nil=>exact ⟨i,rfl,h⟩
 |cons _ _=>cases hl
theorem Zg0 {κ:Cx}{t:Expr}{is:List Nat}(h:Mk κ t is=true):(∃ x p i,t=.Name x p∧is=[i]∧Y8 κ i x=true)∨(∃ ts k p,t=.Tuple ts k p∧VV κ ts is=true∧is.length=2):=by
 rcases (Bool.or_eq_true _ _).mp h with h|h
 ·obtain ⟨h1,h2⟩:=Zp h
  obtain ⟨x,e,h3⟩:=Zf h1
  obtain ⟨p,rfl⟩:=Xf e
  obtain ⟨i,rfl,h4⟩:=BN h3 h2
  exact .inl ⟨x,p,i,rfl,rfl,h4⟩
 ·obtain ⟨h1,h2⟩:=Zp h
  obtain ⟨x,e,h3⟩:=Zf h1
  obtain ⟨k,p,rfl⟩:=WM e
  exact .inr ⟨x,k,p,rfl,h3,Nat.eq_of_beq_eq_true h2⟩
noncomputable def XO (e:Expr):Bool:=e.ctorIdx.beq 7
theorem UD {e:Expr}(h:XO e=false)(env:Env)(x:Value):foldedSetIterable e env x=pure x:=by
 cases e<;>first|rfl|cases h
inductive MJ (φ:Fx)(xs:List Str)(ex:List (Addr×Obj))(β₁:List Addr)(it:Yb)(w:Value)(len:Nat)(I:Nat→Zc→List Za→Prop)(m:Nat)(s:Ws):Prop
|mk (k:Nat) (l:Zc) (σ':List Za) (β':List Addr) (lg:List (Addr×Obj)):m=len-k→k≤len→I k l σ'→β₁<+:β'→Yv β' it k w lg→Rl φ xs (lg++ex) β' l σ' s→MJ φ xs ex β₁ it w len I m s
inductive Nn (φ:Fx)(xs:List Str)(ex:List (Addr×Obj))(β:List Addr)(I:Nat→Zc→List Za→Prop)(m:Nat)(s:Ws):Prop
|mk (l:Zc) (σ':List Za) (β':List Addr):I m l σ'→β<+:β'→Rl φ xs ex β' l σ' s→Nn φ xs ex β I m s
inductive Js (φ:Fx)(xs:List Str)(ex:List (Addr×Obj))(β₁:List Addr)(it:Yb)(w:Value)(len:Nat)(l₀:Zc)(I:Nat→List Za→Prop)(m:Nat)(s:Ws):Prop
|mk (k:Nat) (σ':List Za) (β':List Addr) (lg:List (Addr×Obj)):m=len-k→k≤len→I k σ'→β₁<+:β'→Yv β' it k w lg→Rl φ xs (lg++ex) β' l₀ σ' s→Js φ xs ex β₁ it w len l₀ I m s
section
variable {n:Nat}{κ:Cx}{loc:Zc}{σ:List Za}{Q:SQ}{X:SX}
theorem WS.for {t iter:Expr}{body:List Stmt}{is:List Nat}{pos:Pos}(hn:n≠0)(hnd:κ.xs.Nodup)(ht:Mk κ t is=true)(hs:XO iter=false)
  (h:WI n κ iter loc σ (fun it σ₁=>∃ (i0z:List (List AV)) (I:Nat→Zc→List Za→Prop),(∀ avs∈i0z,avs.length=is.length)∧I 0 loc σ₁∧(∀ k l σ',k≤i0z.length→I k l σ'→Z0 it σ' i0z) ∧
   (∀ k l σ' avs,i0z[k]?=some avs→I k l σ'→WB n κ body (Z3 l is avs) σ' (fun af l' σ''=>match af with|.next=>I (k+1) l' σ''|.ret v=>Q (.ret v) l' σ'') X) ∧
   ∀ l σ',I i0z.length l σ'→Q .next l σ') (fun c σ'=>X c loc σ')):WS n κ (.For t iter body [] pos) loc σ Q X:=by
 intro φ ex β s Qc Ec hr hf hc R kQ kX
 have hh:=hr.1 hn
 with_reducible refine Zbl ?_ (UD hs φ.env)
 with_reducible refine h.go hr hf R (fun w it lg σ₁ β₁ s₁ q₁ p₁ st R₁=>?_) (fun c σ' β' e s' x p E=>kX c loc σ' β' e s' x p E)
 obtain ⟨i0z,I,g0,g1,g2,g3,g4⟩:=q₁
 let J:Nat→Ws→Prop:=MJ φ κ.xs ex β₁ it w i0z.length I
 refine Zbm J (fun m s₂ hJ=>?_) (i0z.length-0) ⟨0,loc,σ₁,β₁,lg,rfl,Nat.zero_le _,g1,List.prefix_refl _,st,R₁⟩
 obtain ⟨k,l,σ₂,β₂,lg₂,hm,hk,hI,p₂,st₂,R₂⟩:=hJ
 have src:=g2 k l σ₂ hk hI
 have nc:=st₂.noCells
 cases hit:i0z[k]? with
|none=>
  have hkl:k=i0z.length:=by have:=List.getElem?_eq_none_iff.mp hit;exact Nat.le_antisymm ‹_› ‹_›
  refine Hb hh R₂ st₂ src hit fun s₃ R₃=>?_
  have q:=kQ .next .next l σ₂ β₂ s₃ (g4 l σ₂ (by rw [← hkl];exact hI)) (p₁.trans p₂) R₃ trivial
  exact .of (wpAny_execs_nil q)
|some avs=>
  have hkl:k<i0z.length:=(List.getElem?_eq_some_iff.mp hit).1
  have body':∀ lg₃ s₃,Yv β₂ it (k+1) w lg₃→Rl φ κ.xs (lg₃++ex) β₂ (Z3 l is avs) σ₂ s₃→Zb (Zd φ.G) φ.A (execs body φ.env) (fun f s₃=>match f with
     |.next|.cont=>∃ m',m'<m∧J m' s₃
     |.brk=>Qc .next s₃
     |.ret v=>Qc (.ret v) s₃) (notedBy (Zd φ.G) φ.A φ.env (cameBackBy (Zd φ.G) φ.A φ.env Ec)) s₃:=by
   intro lg₃ s₃ st₃ R₃
   have nc₃:=st₃.noCells
   refine (g3 k l σ₂ avs hit hI).go hr hf hc R₃ (fun f af l' σ' β' s' q p R' hfr=>?_) (fun c l' σ' β' e s' x p E=>?_)
   ·cases f with
   |next=>cases af with
    |next=>exact ⟨i0z.length-(k+1),by exact qm ‹_› ‹_›,k+1,l',σ',β',lg₃,rfl,hkl,q,p₂.trans p,st₃.mono p,R'⟩
    |ret v=>exact False.elim hfr
   |ret v=>cases af with
    |next=>exact False.elim hfr
    |ret av=>exact kQ _ (.ret av) l' σ' β' s' q ((p₁.trans p₂).trans p) (R'.exDrop nc₃) hfr
   |brk=>cases af<;>exact False.elim hfr
   |cont=>cases af<;>exact False.elim hfr
   ·exact (E.exDrop nc₃).back hc fun s'' E'=>kX c l' σ' β' e s'' x ((p₁.trans p₂).trans p) E'
  have hlen:=g0 avs (List.mem_of_getElem? hit)
  rcases Zg0 ht with ⟨x,px,i,rfl,rfl,ht'⟩|⟨ts,k',px,rfl,ha,hb⟩
  ·obtain ⟨hx,hkk⟩:=VQ ht' hf hc
   obtain ⟨av,rfl⟩:=List.length_eq_one_iff.mp hlen
   refine HD R₂ st₂ src hit fun v lg₃ s₃ hv st₃ R₃=>?_
   change wpAny _ _ (pure ()) _ _ _
   refine wpAny_pure ?_
   refine wpAny_assign_Name (R₃.store hx hnd hkk hv fun s₄ R₄=>?_)
   exact body' lg₃ s₄ st₃ R₄
  ·obtain ⟨a,b,rfl⟩:=YA (hlen.trans hb)
   exact CP hh (Mi hf hc hnd ha) hb R₂ st₂ src hit fun lg₃ s₃ st₃ R₃=>body' lg₃ s₃ st₃ R₃
theorem WS.while {t:Expr}{body:List Stmt}{pos:Pos}(h:∃ (I:Nat→Zc→List Za→Prop) (m:Nat),I m loc σ∧∀ m l σ',I m l σ'→WT n κ t l σ' (fun b σ''=>if b then WB n κ body l σ'' (fun af l₂ σ₂=>match af with|.next=>∃ m',m'<m∧I m' l₂ σ₂|.ret v=>Q (.ret v) l₂ σ₂) X else Q .next l σ'')
   (fun c σ''=>X c l σ'')):WS n κ (.While t body [] pos) loc σ Q X:=by
 intro φ ex β s Qc Ec hr hf hc R kQ kX
 obtain ⟨I,m,h0,step⟩:=h
 with_reducible refine ZbH ?_
 let J:Nat→Ws→Prop:=Nn φ κ.xs ex β I
 refine ZbI J (fun m s₂ hJ=>?_) m ⟨loc,σ,β,h0,List.prefix_refl _,R⟩
 obtain ⟨l,σ₂,β₂,hI,p₂,R₂⟩:=hJ
 refine (step m l σ₂ hI).go hr hf R₂ (fun b σ₃ β₃ s₃ q₃ p₃ R₃=>?_) (fun c σ' β' e s' x p E=>E.back hc fun s'' E'=>kX c l σ' β' e s'' x (p₂.trans p) E')
 cases b with
|true=>
  rw [if_pos rfl] at q₃
  refine q₃.go hr hf hc R₃ (fun f af l' σ' β' s' q p R' hfr=>?_) (fun c l' σ' β' e s' x p E=>E.back hc fun s'' E'=>kX c l' σ' β' e s'' x ((p₂.trans p₃).trans p) E')
  cases f with
 |next=>cases af with
  |next=>obtain ⟨m',h1,h2⟩:=q;exact ⟨m',h1,l',σ',β',h2,(p₂.trans p₃).trans p,R'⟩
  |ret v=>exact False.elim hfr
 |ret v=>cases af with
  |next=>exact False.elim hfr
  |ret av=>exact kQ _ (.ret av) l' σ' β' s' q ((p₂.trans p₃).trans p) R' hfr
 |brk=>cases af<;>exact False.elim hfr
 |cont=>cases af<;>exact False.elim hfr
|false=>
  rw [if_neg Bool.false_ne_true] at q₃
  have q:=kQ .next .next l σ₃ β₃ s₃ q₃ (p₂.trans p₃) R₃ trivial
  exact .of (wpAny_execs_nil q)
end
noncomputable def Mt:List XN:=[.cutShort,.badCode,.badArgument]
theorem XN.mem (c:XN):c∈Mt:=by cases c<;>decide
noncomputable def N0 (K:Frag):Bool:=Mt.all fun c=>Mt.all fun d=>exmOne K (.ref c.addr) (.ref d.addr)==some (decide (c=d))
theorem S7 (P:Wp):N0 (KK P)=true:=by kernel_rfl
theorem S8 (P:Wp)(c d:XN):exmOne (KK P) (.ref c.addr) (.ref d.addr)=some (decide (c=d)):=by
 have h:=S7 P
 unfold N0 at h
 rw [List.all_eq_true] at h
 have h:=h c c.mem
 rw [List.all_eq_true] at h
 simpa using h d d.mem
noncomputable abbrev Fx.mark (φ:Fx)(e:Addr):Fx:={φ with A:=φ.A.mark (some (.ref e))}
section
variable {φ:Fx}{xs:List Str}{ex:List (Addr×Obj)}{β:List Addr}{loc:Zc}{σ:List Za}{s:Ws}
theorem Rl.mark (R:Rl φ xs ex β loc σ s)(e:Addr):Rl (φ.mark e) xs ex β loc σ s:=by
 obtain ⟨b0z,cs,frn,m,R⟩:=R
 exact ⟨b0z,cs,frn,m,⟨R.ok.hfr,R.ok.kind,R.ok.fkind,R.ok.glob,R.ok.blt,R.ok.frs,R.ok.own,R.ok.cel,R.ok.clo⟩,R.real,R.up,R.F,R.N,R.nd,R.cells,R.loc,R.gens,R.os⟩
theorem Rl.unmark {e:Addr}(R:Rl (φ.mark e) xs ex β loc σ s):Rl φ xs ex β loc σ s:=by
 obtain ⟨b0z,cs,frn,m,R⟩:=R
 exact ⟨b0z,cs,frn,m,⟨R.ok.hfr,R.ok.kind,R.ok.fkind,R.ok.glob,R.ok.blt,R.ok.frs,R.ok.own,R.ok.cel,R.ok.clo⟩,R.real,R.up,R.F,R.N,R.nd,R.cells,R.loc,R.gens,R.os⟩
end
inductive UH (κ:Cx)(c:XN)(P:List Stmt→Prop):List ExceptHandler→Prop
|mk {x:Str} {p q:Pos} {b:Stmt} {body:List Stmt} {r:List ExceptHandler} (d:XN) (h1:X4.lookup x=some d.addr) (h2:κ.sc.lookup x=some .globalImplicit) (h3:(x==("__debug__" : Str))=false) (h4:d=c→P (b::body)) (h5:d≠c→UH κ c P r):UH κ c P (.ExceptHandler (some (.Name x p)) none (b::body) q::r)
section
variable {κ:Cx}{φ:Fx}{ex:List (Addr×Obj)}{β:List Addr}{loc:Zc}{σ:List Za}{Qc:Flow→Ws→Prop}{Ec:Value→Ws→Prop}{Q:SQ}
theorem ZbQ {c:XN}{e:Addr}{n:Nat}(hr:ZG n φ.A)(hf:ZP κ φ)(hc:φ.comp=false)(kQ:∀ f af loc' σ' β' s',Q af loc' σ'→β<+:β'→Rl φ κ.xs ex β' loc' σ' s'→FR β' f af→Qc f s') :
  ∀ (hs:List ExceptHandler),UH κ c (fun suite=>WB 0 κ suite loc σ Q fun _ _ _=>False) hs→∀ {s:Ws} {b0z:List ZH} {cs frn:List (Addr×Obj)} {m:Str→Option Value},Zi φ κ.xs ex β loc σ b0z cs frn m s →
   XX φ.G (φ.env.locals::(b0z.flatten++(cs++(ex++frn))).map Prod.fst) c.addr e s.heap (some .none) →
   Zb (Zd φ.G) φ.A (handleBy (.ref e) φ.env hs) Qc Ec s:=by
 intro hs h
 induction h with
|mk d h1 h2 h3 h4 ih=>
  rename_i x p q b body r ih'
  intro s b0z cs frn m R X
  refine Zbp ?_ (fun q=>by cases q)
  refine codeAny_handlers_test ?_
  have hk':=(hf.kind x).trans h2
  have Rm:Rl (φ.mark e) κ.xs ex β loc σ s:=Rl.mark ⟨_,_,_,_,R⟩ e
  refine Gy (φ:=φ.mark e) Rm h1 hk' h3 ?_
  obtain ⟨oe,vs,a0,x1,x2,x3,x4,x5,x6,x7⟩:=id X
  have LT:Looks (Zd φ.G) s.heap (typeOf (.ref e)) (.ref c.addr):=(Looks.ld x1).andThen (by
   have:∀ o:Obj,o.cls=.ref c.addr→Looks (Zd φ.G) s.heap (pure o.cls) (.ref c.addr):=fun o h=>by rw [h];exact .now
   exact this oe x2)
  have L:=exm_one R.kin LT (S8 φ.G.w.params c d)
  refine L.here ?_
  by_cases hd:d=c
  ·rw [decide_eq_true hd.symm]
   refine Zbq ?_
   refine GC (fr:=none) X fun h' T hT hG hk X'=>?_
   have R':=R.but (h':=h') (tk:=s.toks) hk hT hG
   have hr0:ZG 0 (φ.mark e).A:=⟨fun q=>absurd rfl q,by have:=hr.2.1;show φ.A.depth+_≤_;lia,by have:=hr.2.2;show φ.A.units+_≤_;exact Internal.qBr ‹_›⟩
   refine (h4 hd).go (φ:=φ.mark e) hr0 hf hc (Rl.mark ⟨_,_,_,_,R'⟩ e) (fun f af loc' σ' β' s' q p R₂ hfr=>?_) (fun _ _ _ _ _ _ x=>False.elim x)
   exact kQ f af loc' σ' β' s' q p R₂.unmark hfr
  ·rw [decide_eq_false (fun q=>hd q.symm)]
   exact ih' hd R X
theorem WS.try {n:Nat}{X Y:SX}{body:List Stmt}{h0:ExceptHandler}{hs:List ExceptHandler}{pos:Pos}
  (h:WB n κ body loc σ Q Y) (hx:∀ c loc' σ',Y c loc' σ'→UH κ c (fun suite=>WB 0 κ suite loc' σ' Q fun _ _ _=>False) (h0::hs)):WS n κ (.Try body (h0::hs) [] [] pos) loc σ Q X:=by
 intro φ ex β s Qc Ec hr hf hc R kQ kX
 with_reducible refine ZbG ?_
 refine h.go hr hf hc R (fun f af loc' σ' β' s' q p R' hfr=>?_) (fun c loc' σ' β' e s' x p E=>?_)
 ·cases f with
 |next=>
   have q:=kQ _ af loc' σ' β' s' q p R' hfr
   exact .of (wpAny_execs_nil q)
 |ret v=>exact kQ _ af loc' σ' β' s' q p R' hfr
 |brk=>cases af<;>exact False.elim hfr
 |cont=>cases af<;>exact False.elim hfr
 ·refine E.note hc fun h' b0z cs frn m R' X'=>?_
  refine GC (s:={s' with heap:=h'}) (fr:=none) X' fun h₂ T hT hG hk X₂=>?_
  have R₂:=R'.but (h':=h₂) (tk:=s'.toks) hk hT hG
  exact ZbQ hr hf hc (fun f af l σ'' β'' s'' q p'=>kQ f af l σ'' β'' s'' q (p.trans p')) (h0::hs) (hx c loc' σ' x) R₂ X₂
end
section
variable {M:Model}{A:Around}{E:Value→Ws→Prop}{s:Ws}{env:Env}
theorem Zbk {prog:Program}{w:World}{value:Expr}{pos:Pos}{Q:Value→Ws→Prop}(h:Zb (model prog w) A (eval value env) (fun v s₁=>wpAny (model prog w) A (formatField v Str.empty) Q E s₁) E s):Zb (model prog w) A (eval (.FormattedValue value (-1) none pos) env) Q E s:=by
 show Zb _ A (do let v ← eval value env;standAt pos;formatted pos (← holding [v] (converted (-1) v)) none) Q E s
 refine .bind (h.mono (fun v s₁ h₁=>.of (wpAny_bind (wpAny_standAt ?_))) fun _ _ x=>x)
 show wpAny _ _ (do let v' ← holding [v] (pure v);formatField v' Str.empty) Q E s₁
 exact wpAny_bind (wpAny_holding (wpAny_pure h₁))
theorem Bd {v₁ v₂:Expr}{rest:List Expr}{pos:Pos}{Q:Value→Ws→Prop}(h:Zb M A (joinParts Str.empty (eval v₁ env::eval v₂ env::evalEach rest env)) Q E s):Zb M A (eval (.JoinedStr (v₁::v₂::rest) pos) env) Q E s:=h
theorem GE {out:Str}{x:Sem Value}{rest:List (Sem Value)}{Q:Value→Ws→Prop}
  (h:Zb M A x (fun v s₁=>match v with|.str y _=>(out++y).length≤sizeLine∧Zb M A (joinParts (out++y) rest) Q E s₁|_=>False) E s):Zb M A (joinParts out (x::rest)) Q E s:=by
 rw [joinParts]
 refine .bind (h.mono (fun v s₁ h₁=>?_) fun _ _ e=>e)
 cases v<;>first
 |exact h₁.elim
 |(rename_i y _;have hz':¬ (out.length+y.length>sizeLine):=(by rw [← strLen_append];exact Nat.not_lt.mpr h₁.1);refine .step (wpAny_pure ?_);show Zb M A (if out.length+y.length>sizeLine then _ else _) Q E s₁;rw [if_neg hz'];first|exact h₁.2|exact .step (wpAny_pure h₁.2))
end
section
variable {n:Nat}{κ:Cx}{loc:Zc}{σ:List Za}{Q:Zq}{X:Zx}
theorem B9 {a b:Expr}(h:ZQ a=false)(h':ZQ b=false):ZN [a,b]=true:=by simp [ZN,h,h']
theorem WE.dict0 {pos:Pos}(h:∀ ep,Q (.obj σ.length) (σ++[.dict [] ep])):WE n κ (.Dict [] [] pos) loc σ Q X:=by
 intro φ ex β s Qc Ec hr hf R kQ kX
 obtain ⟨b0z,cs,frn,m,R⟩:=R
 with_reducible refine .of (newDict_K R.F R.N φ.G.lim fun d h' o F' N' hlt hmod _ _ hd _=>?_)
 obtain ⟨es,ep,rfl,h1⟩:=NX (β:=β) (kvs:=[]) hd .nil
 cases h1
 have hp:β<+:β++[d]:=List.prefix_append _ _
 refine kQ _ _ _ (β++[d]) _ (h ep) hp (R.alloc1 (tk:=s.toks) F' N' ⟨[],rfl,hmod,.nil⟩ hlt) ⟨d,?_,rfl⟩
 rw [← R.real.len.1];simp
theorem WE.isint {e:Expr}{p q' pos:Pos}(hk:κ.sc.lookup (Zs "isinstance")=some .globalImplicit)(hk2:κ.sc.lookup (Zs "int")=some .globalImplicit)(hs:ZQ e=false)
  (h:WE n κ e loc σ (fun v σ₁=>∃ i,v=.int i∧Q (.bool true) σ₁) X):WE n κ (.Call (.Name "isinstance" p) [e,.Name "int" q'] [] pos) loc σ Q X:=by
 intro φ ex β s Qc Ec hr hf R kQ kX
 with_reducible refine XK ?_
 have hk':=(hf.kind (Zs "isinstance")).trans hk
 have hk2':=(hf.kind (Zs "int")).trans hk2
 with_reducible refine XJ (v:=.builtin "isinstance") R (by unfold YW;kernel_rfl) hk' (by decide) ?_
 with_reducible refine X1 (fun _ e=>by cases e) (B9 hs rfl) ?_
 with_reducible refine VM ?_ (Uo hs)
 with_reducible refine h.go hr hf R (fun v av σ₁ β₁ s₁ q₁ p₁ R₁ v₁=>?_) kX
 obtain ⟨i,rfl,hq⟩:=q₁
 obtain ⟨t,rfl⟩:=v₁
 with_reducible refine VM (.of ?_) rfl
 with_reducible refine XJ (v:=.type "int") R₁ (by unfold YW;kernel_rfl) hk2' (by decide) ?_
 with_reducible refine .of (wpAny_items_nil ?_)
 change Zb _ _ (PySem.call (.builtin "isinstance") [.int i t,.type "int"]) _ _ _
 have q:=kQ (.bool true) _ σ₁ β₁ s₁ hq p₁ R₁ rfl
 with_reducible exact .of (IsiPair.int_int q)
theorem WE.isbool {e:Expr}{p q' pos:Pos}(hk:κ.sc.lookup (Zs "isinstance")=some .globalImplicit)(hk2:κ.sc.lookup (Zs "bool")=some .globalImplicit)(hs:ZQ e=false)
  (h:WE n κ e loc σ (fun v σ₁=>∃ i,v=.int i∧Q (.bool false) σ₁) X):WE n κ (.Call (.Name "isinstance" p) [e,.Name "bool" q'] [] pos) loc σ Q X:=by
 intro φ ex β s Qc Ec hr hf R kQ kX
 with_reducible refine XK ?_
 have hk':=(hf.kind (Zs "isinstance")).trans hk
 have hk2':=(hf.kind (Zs "bool")).trans hk2
 with_reducible refine XJ (v:=.builtin "isinstance") R (by unfold YW;kernel_rfl) hk' (by decide) ?_
 with_reducible refine X1 (fun _ e=>by cases e) (B9 hs rfl) ?_
 with_reducible refine VM ?_ (Uo hs)
 with_reducible refine h.go hr hf R (fun v av σ₁ β₁ s₁ q₁ p₁ R₁ v₁=>?_) kX
 obtain ⟨i,rfl,hq⟩:=q₁
 obtain ⟨t,rfl⟩:=v₁
 with_reducible refine VM (.of ?_) rfl
 with_reducible refine XJ (v:=.type "bool") R₁ (by unfold YW;kernel_rfl) hk2' (by decide) ?_
 with_reducible refine .of (wpAny_items_nil ?_)
 change Zb _ _ (PySem.call (.builtin "isinstance") [.int i t,.type "bool"]) _ _ _
 have q:=(Zz.ge kQ p₁).tok R₁ hq (v:=.bool false) rfl (s₁.toks+1)
 with_reducible exact .of (IsiPair.int_bool q)
theorem Bw {φ:Fx}{xs:List Str}{ex:List (Addr×Obj)}{β:List Addr}{s:Ws}{out:Str}{rest:List (Sem Value)}{e:Expr}{p:Pos}{Qc Ec:Value→Ws→Prop}(h0:out.length≤1000)
  (h:Zb (Zd φ.G) φ.A (eval e φ.env) (fun v s₁=>∃ i t,v=.int i t∧i.natAbs.log2<1920∧∀ y:Str,y.length≤3000→Zb (Zd φ.G) φ.A (joinParts y rest) Qc Ec {s₁ with toks:=s₁.toks+1+1}) Ec s) :
  Zb (Zd φ.G) φ.A (joinParts out (eval (.FormattedValue e (-1) none p) φ.env::rest)) Qc Ec s:=by
 refine GE (Zbk (.mono h (fun v s₁ q=>?_) fun _ _ x=>x))
 obtain ⟨i,t,rfl,h1,h2⟩:=q
 have hl:=int_text_len_1921 h1
 refine wpAny_formatField_int h1 ?_
 have hl2:(out++Str.ofString (toString i)).length≤3000:=by rw [Str.length_append];lia
 exact ⟨Nat.le_trans hl2 (by decide),h2 _ hl2⟩
theorem WE.fstr2 {a:Str}{e:Expr}{k:Nat}{p1 p2 pos:Pos}(ha:a.length≤900)(h:WE n κ e loc σ (fun v σ₁=>∃ i,v=.int i∧i.natAbs.log2<1920∧∀ l,Q (.str l) σ₁) X) :
  WE n κ (.JoinedStr [.Constant (.str a) k p1,.FormattedValue e (-1) none p2] pos) loc σ Q X:=by
 intro φ ex β s Qc Ec hr hf R kQ kX
 refine Bd (GE (.of (wpAny_Constant_str ?_)))
 have h0:(Str.empty++a).length≤1000:=by rw [Str.length_append];show 0+_≤_;lia
 refine ⟨Nat.le_trans h0 (by decide),?_⟩
 refine Bw (xs:=κ.xs) (ex:=ex) (β:=β) h0 ?_
 have R':=R.tok (s.toks+1)
 refine h.go hr hf R' (fun v av σ₁ β₁ s₁ q₁ p₁ R₁ v₁=>?_) kX
 obtain ⟨i,rfl,h1,h2⟩:=q₁
 obtain ⟨t,rfl⟩:=v₁
 refine ⟨i,t,rfl,h1,fun y hy=>.of (joinParts_nil ?_ (Nat.le_trans hy (by decide)))⟩
 rw [show y=⟨y.cps.toList.toArray⟩ from by cases y;simp]
 exact kQ _ (.str y.cps.toList) σ₁ β₁ _ (h2 _) p₁ (R₁.tok _) ⟨_,rfl⟩
theorem WE.fstr3 {a b:Str}{e:Expr}{k k':Nat}{p1 p2 p3 pos:Pos}(ha:a.length≤900)(hb:b.length≤900)(h:WE n κ e loc σ (fun v σ₁=>∃ i,v=.int i∧i.natAbs.log2<1920∧∀ l,Q (.str l) σ₁) X) :
  WE n κ (.JoinedStr [.Constant (.str a) k p1,.FormattedValue e (-1) none p2,.Constant (.str b) k' p3] pos) loc σ Q X:=by
 intro φ ex β s Qc Ec hr hf R kQ kX
 refine Bd (GE (.of (wpAny_Constant_str ?_)))
 have h0:(Str.empty++a).length≤1000:=by rw [Str.length_append];show 0+_≤_;grind
 refine ⟨Nat.le_trans h0 (by decide),?_⟩
 refine Bw (xs:=κ.xs) (ex:=ex) (β:=β) h0 ?_
 have R':=R.tok (s.toks+1)
 refine h.go hr hf R' (fun v av σ₁ β₁ s₁ q₁ p₁ R₁ v₁=>?_) kX
 obtain ⟨i,rfl,h1,h2⟩:=q₁
 obtain ⟨t,rfl⟩:=v₁
 refine ⟨i,t,rfl,h1,fun y hy=>GE (.of (wpAny_Constant_str ?_))⟩
 have hz:(y++b).length≤4000:=by rw [Str.length_append];lia
 refine ⟨Nat.le_trans hz (by decide),.of (joinParts_nil ?_ (Nat.le_trans hz (by decide)))⟩
 rw [show y++b=⟨(y++b).cps.toList.toArray⟩ from by cases (y++b);simp]
 exact kQ _ (.str (y++b).cps.toList) σ₁ β₁ _ (h2 _) p₁ (R₁.tok _) ⟨_,rfl⟩
end
noncomputable def XU:List Value:=[.type "ValueError",.type "Exception",.type "BaseException",.type "object"]
noncomputable def QN:List XN:=[.cutShort,.badCode,.badArgument]
theorem XN.memX (c:XN):c∈QN:=by cases c<;>decide
noncomputable def NZ (K:Frag):Bool:=QN.all fun c=>((clsIn K c.addr).any fun cd=>(cd.mro==.ref c.addr::.ref 32::XU)&&cd.hasDict)&&(takerIn K c.addr "reason" == some none) &&
 (findIn K (.ref c.addr) "__setattr__" == some (some (.builtin "object.__setattr__")))&&(findIn K (.ref c.addr) "__init__" == some (some (.ref 29)))
theorem SY (P:Wp):NZ (KK P)=true:=by kernel_rfl
theorem GA (P:Wp)(c:XN):(∃ cd,clsIn (KK P) c.addr=some cd∧cd.mro=.ref c.addr::.ref 32::XU∧cd.hasDict=true)∧takerIn (KK P) c.addr "reason" = some none ∧
  findIn (KK P) (.ref c.addr) "__setattr__" = some (some (.builtin "object.__setattr__"))∧findIn (KK P) (.ref c.addr) "__init__" = some (some (.ref 29)):=by
 have:=SY P
 unfold NZ at this
 rw [List.all_eq_true] at this
 have:=this c c.memX
 simp only [Bool.and_eq_true,beq_iff_eq] at this
 obtain ⟨⟨⟨h1,h2⟩,h3⟩,h4⟩:=this
 obtain ⟨cd,a,b⟩:=any_some h1
 simp only [Bool.and_eq_true,beq_iff_eq] at b
 exact ⟨⟨cd,a,b.1,b.2⟩,h2,h3,h4⟩
section
open Builtin Builtin.ObjectAttr
variable {w:World}{A:Around}{s:Ws}{c:XN}{x:Addr}{vs:Array Value}{v:Value}
theorem S5 {ox:Obj}{tk:Tok}{R:Result→Ws→Prop}(X:(KK w.params).In s.heap)(I:InstAt s.heap x ox c.addr none)
  (h:∀ b,wpAny (model pw w) A.in1 (storeInOwnDict (.ref x) (.ref c.addr) (.str "reason" tk) "reason" v b)
   (fun fin s'=>match fin with|.done f=>R (.ok f) s'|.again c'=>c'.quiet=true∧codeAny (model pw w) A c' R s') (fun e s'=>R (.error e) s') s) :
  codeAny (model pw w) A (.call (.builtin "object.__setattr__") ⟨[.ref x,.str "reason" tk,v],[]⟩) R s:=by
 have SF:=PySem.F.store_object
 obtain ⟨⟨cd,hc,ho,hd⟩,ht,_,_⟩:=GA w.params c
 have ne:cd.mro.isEmpty=false:=by rw [ho];rfl
 have hto:cd.mro.contains (.type "object")=true:=by rw [ho];rfl
 have sub:Looks (model pw w) s.heap (isInstance (.ref x) (.type "object")) true:=I.type.andThen (looks_mroIn X (by unfold mroIn;rw [hc,Option.bind_some,if_neg (by rw [ne];decide),hto]))
 refine codeAny_call_builtin SF.slot.plain SF.entry (@check_slot (model pw w) _ _ s "object.__setattr__" "object" "__setattr__" (.ref x) [.str "reason" tk,v] [] _ SF.kind SF.split sub (SF.args (.ref x) (.str "reason" tk) v) ?_)
 obtain ⟨attr,ha,hr⟩:=Option.bind_eq_some_iff.mp ht
 have hm:Looks (model pw w) s.heap (mroOf (.ref c.addr)) cd.mro:=(looks_clsIn X hc).andThen .now
 have L3:Looks (model pw w) s.heap (storeTaker? attr) none:=by
  cases attr with
 |none=>cases hr;exact .now
 |some a=>
   obtain ⟨b,hb,e⟩:=Option.map_eq_some_iff.mp hr
   refine (looks_takesIn X hb).andThen ?_
   cases b
   ·exact .now
   ·cases e
 rw [osa_eq,refuse_eq]
 refine wpAny_bind (wpAny_bind (I.type.here (wpAny_bind (hm.here ?_))))
 rw [ho,refuseLoop_ref,refuseLoop_ref]
 unfold XU
 rw [PySem.F.store_ValueError.passes]
 refine wpAny_pure (wpAny_bind (I.type.here (wpAny_bind ((looks_findIn X ha).here (wpAny_bind (L3.here ?_))))))
 exact h _
theorem S6 {E:Value→Ws→Prop}{Q:Unit→Ws→Prop}(X:(KK w.params).In s.heap)(hx:s.heap.get? x=some {cls:=.ref c.addr,data:=.fields vs})
  (h:∀ h' tk,h'.get? x=some {cls:=.ref c.addr,dict:=some s.heap.objs.size,data:=.fields vs} →
   (∀ b o,b≠x→s.heap.get? b=some o→h'.get? b=some o)→Q () {s with heap:=h',toks:=tk}) :
  wpAny (model pw w) A (setAttr (.ref x) "reason" v) Q E s:=by
 have I:InstAt s.heap x {cls:=.ref c.addr,data:=.fields vs} c.addr none:=⟨hx,rfl,rfl,trivial⟩
 obtain ⟨⟨cd,hc,ho,hd⟩,ht,hs,_⟩:=GA w.params c
 refine set_plain X I hs (S5 (s:={s with toks:=s.toks+1}) X I fun b=>?_)
 obtain ⟨h₀,g,d,t,os⟩:=s
 dsimp only at *
 refine wpAny_bind (wpAny_pure ?_)
 refine wpAny_bind ?_
 unfold ownDictForStores instanceDict
 refine wpAny_bind (wpAny_loadPart hx ?_)
 dsimp only
 refine wpAny_bind ((looks_clsIn X hc).here ?_)
 rw [hd]
 have hxs:x≠h₀.objs.size:=Nat.ne_of_lt (Heap.lt_size hx)
 have hx₁:(h₀.push {cls:=.type "dict",data:=.dict #[]}).get? x=some {cls:=.ref c.addr,data:=.fields vs}:=Heap.get?_push_of_some _ hx
 rw [if_neg (by decide),if_neg (by simp [typeHasDict])]
 refine wpAny_bind (wpAny_alloc' (wpAny_bind (wpAny_update' hx₁ (wpAny_pure ?_))))
 have hgd:((h₀.push {cls:=.type "dict",data:=.dict #[]}).update x fun o=>{cls:=o.cls,dict:=some h₀.objs.size,data:=o.data,slots:=o.slots}).get? h₀.objs.size
   = some {cls:=.type "dict",data:=.dict #[]}:=
  (Heap.get?_update_ne _ _ _ _ hxs.symm).trans (Heap.get?_push_at rfl rfl)
 have hnd:((h₀.push {cls:=.type "dict",data:=.dict #[]}).update x fun o=>{cls:=o.cls,dict:=some h₀.objs.size,data:=o.data,slots:=o.slots}).Ns h₀.objs.size (fun _=>none):=
  ⟨_,#[],_,hgd,rfl,fun e he=>absurd he (by simp),fun _=>rfl⟩
 show wpAny _ _ (storeInDict h₀.objs.size (.str "reason" t) "reason" v) _ _ _
 unfold storeInDict newKeyGuard
 refine wpAny_bind (wpAny_pure (wpAny_bind (wpAny_nsSet1 (Heap.Ns1.of_empty hnd) fun h' hn' hs=>?_)))
 obtain ⟨oD,esD,epD,hoD,hdD,hcD⟩:=hn'.count (Within.cons "reason" v Within.nil)
 refine wpAny_bind (wpAny_lookBehind hoD (by rw [hdD];exact pastItsLine_dict (Nat.le_trans hcD (by rw [List.length_cons,List.length_nil,sizeLine_eq];decide))) ?_)
 refine wpAny_pure (h h' _ ?_ fun b o hb e=>?_)
 ·refine (hs.2 x hxs).trans (Heap.get?_update_self _ hx₁ rfl)
 ·exact (hs.2 b (Nat.ne_of_lt (Heap.lt_size e))).trans ((Heap.get?_update_ne _ _ _ _ hb).trans (Heap.get?_push_of_some _ e))
theorem Sw (P:Wp):(KK P).lookup XN.cutShort.addr=some (Vv P):=by kernel_rfl
theorem RS (P:Wp):(KK P).lookup XN.badCode.addr=some (Vw P):=by kernel_rfl
theorem RK (P:Wp):(KK P).lookup XN.badArgument.addr=some (Vx P):=by kernel_rfl
inductive Mz (h:Heap)(c:XN):Prop
|mk (nm q N bs sub col dd k0 k1 k2 k3 k5) (e:h.get? c.addr=some (excClassObj nm q c.addr N bs (.ref 32::XU) true [] sub false col dd k0 k1 k2 k3 k5 "ValueError.__new__")):Mz h c
theorem Gz {P:Wp}{h:Heap}(X:(KK P).In h)(c:XN):Mz h c:=by
 cases c
 ·exact ⟨_,_,_,_,_,_,_,_,_,_,_,_,X _ _ (Sw P)⟩
 ·exact ⟨_,_,_,_,_,_,_,_,_,_,_,_,X _ _ (RS P)⟩
 ·exact ⟨_,_,_,_,_,_,_,_,_,_,_,_,X _ _ (RK P)⟩
theorem SR {M:Model}{E:Value→Ws→Prop}{oe:Obj}{rest:List Value}{Q:Unit→Ws→Prop}(X:(KK w.params).In s.heap)(he:s.heap.get? x=some oe)(hcls:oe.cls=.ref c.addr)(hq:Q () s) :
  wpAny M A (checkBuiltinCall "ValueError.__init__" ⟨.ref x::rest,[]⟩) Q E s:=by
 have F:=PySem.F.excBase_ValueError
 obtain ⟨nm,q,N,bs,sub,col,dd,k0,k1,k2,k3,k5,hC⟩:=Gz X c
 have hcB:(Value.ref c.addr::.ref 32::XU).contains (.type "ValueError")=true:=rfl
 have hshort:=F.noStar
 obtain ⟨h,g,d,t,os⟩:=s
 dsimp only at he hC
 unfold checkBuiltinCall
 rw [F.initKind,F.initSplit,F.initRow]
 dsimp only
 repeat (first|(with_reducible refine wpAny_loadPart_at he ?_;rw [hcls])|with_reducible refine wpAny_loadPart_at hC ?_|(with_reducible refine wpAny_isSubtype_exc hC ?_;rw [hcB])|wp_step)
 refine wpAny_onRaise ?_
 rw [show ∀ (a b:String) (n:Nat),Bind.check ⟨.positional, "*", "ValueError",.self,[⟨"args",.varPos,false⟩]⟩ a b n (List.map (fun x=>x.fst) ({pos:=Value.ref x::rest}:Args).kw)=pure () from
  fun a b n=>check_star_args _ _ _ _ _ _]
 exact wpAny_pure hq
theorem SZ {E:Value→Ws→Prop}{Q:Value→Ws→Prop}{oe:Obj}{a0:Addr}(X:(KK w.params).In s.heap)(he:s.heap.get? x=some oe)(hcls:oe.cls=.ref c.addr)(hd:oe.data=.fields vs)(h0:vs[0]?=some (.ref a0))
  (h:∀ h' tk t,h'.get? x=some {oe with data:=.fields (vs.setIfInBounds 0 (.ref t))}→(∀ b o,b≠x→s.heap.get? b=some o→h'.get? b=some o)→Q .none {s with heap:=h',toks:=tk}) :
  wpAny (model pw w) A (call (.builtin "ValueError.__init__") [.ref x,v]) Q E s:=by
 have F:=PySem.F.excBase_ValueError
 refine wpAny_call (codeAny_call_builtin F.init.plain F.initEntry (SR X he hcls ?_))
 obtain ⟨hh,g,d,t,os⟩:=s
 obtain ⟨oc,od,odt,osl⟩:=oe
 dsimp only at *
 subst hd
 unfold Builtin.«BaseException.__init__»
 wp_walk
 rw [h0]
 wp_walk
 have hsz:0<vs.size:=by
  obtain ⟨q,_⟩:=Array.getElem?_eq_some_iff.mp h0
  exact q
 rw [if_pos hsz]
 have he₁:=Heap.get?_push_of_some {cls:=.type "tuple",data:=.seq #[v]} he
 refine wpAny_update' he₁ ?_
 wp_walk
 refine h _ _ hh.objs.size (Heap.get?_update_self _ he₁ rfl) fun b o hb e=>(Heap.get?_update_ne _ _ _ _ hb).trans (Heap.get?_push_of_some _ e)
theorem SV {M:Model}{E:Value→Ws→Prop}{rest:List Value}{Q:Unit→Ws→Prop}(X:(KK w.params).In s.heap)(hq:Q () s) :
  wpAny M A (checkBuiltinCall "ValueError.__new__" ⟨.ref c.addr::rest,[]⟩) Q E s:=by
 obtain ⟨nm,q,N,bs,sub,col,dd,k0,k1,k2,k3,k5,hC⟩:=Gz X c
 exact wpAny_check_new_subU PySem.F.excBase_ValueError (bmB:=.ref 32::XU) rfl .base hC hq
theorem SW {h:Heap}{g:Array GenState}{d:Drawn}{t:Nat}{os:OsState}{rest:List Value}{R:Result→Ws→Prop}(X:(KK w.params).In h)
  (hq:R (.ok (.ret (.ref (h.objs.size+1)))) ⟨(h.push {cls:=.type "tuple",data:=.seq rest.toArray}).push
   {cls:=.ref c.addr,data:=.fields #[.ref h.objs.size,.none,.none,.none,.bool false,.none]},g,d,t,os⟩) (hrest:rest.length≤sizeLine) :
  codeAny (model pw w) A (.builtin "ValueError.__new__" ⟨.ref c.addr::rest,[]⟩) R ⟨h,g,d,t,os⟩:=by
 have F:=PySem.F.excBase_ValueError
 obtain ⟨nm,q,N,bs,sub,col,dd,k0,k1,k2,k3,k5,hC⟩:=Gz X c
 have hends:=F.ends
 have hcB:(Value.ref c.addr::.ref 32::XU).contains (.type "ValueError")=true:=rfl
 have hcA:(Value.ref c.addr::.ref 32::XU).contains (.type "AttributeError")=false:=rfl
 have hcN:(Value.ref c.addr::.ref 32::XU).contains (.type "NameError")=false:=rfl
 refine codeAny_builtinAt F.entry ?_
 unfold Builtin.«BaseException.__new__»
 refine PySem.wpAt_bind ?_
 show PySem.wpAt _ _ _ (PySem.stack >>= _) _ _ _
 refine PySem.wpAt_bind (PySem.wpAt_stack fun p below=>PySem.wpAt_of_wpAny ?_)
 wp_walk
 refine PySem.wpAt_of_wpAny ?_
 rw [F.owner]
 repeat (first|with_reducible refine wpAny_madeHere_exc F.canon hC ?_|with_reducible refine wpAny_loadPart_at hC ?_|(with_reducible refine wpAny_isSubtype_exc hC ?_;first|rw [hcB]|rw [hcA]|rw [hcN])|wp_step)
 show R _ _
 rw [Heap.size_push]
 exact hq
theorem S0 {E:Value→Ws→Prop}{rest:List Value}{Q:Value→Ws→Prop}(X:(KK w.params).In s.heap)
  (hq:∀ h' e t,h'.get? e=some {cls:=.ref c.addr,data:=.fields #[.ref t,.none,.none,.none,.bool false,.none]}→s.heap.get? e=none→(∀ b o,s.heap.get? b=some o→h'.get? b=some o)→s.heap.objs.size≤e →
   Zb (model pw w) (A.under (.builtin "type.__call__" ⟨.ref c.addr::rest,[]⟩)) (call (.ref 29) (.ref e::rest)) (fun r s'=>r=.none∧Q (.ref e) s') E {s with heap:=h'}) (hrest:rest.length≤sizeLine) :
  Zb (model pw w) A (call (.ref c.addr) rest) Q E s:=by
 have F:=PySem.F.excBase_ValueError
 obtain ⟨nm,q,N,bs,sub,col,dd,k0,k1,k2,k3,k5,hC⟩:=Gz X c
 have f1:=tc_lookup
 have f2:=tc_bind (.ref c.addr)
 obtain ⟨h,g,d,t,os⟩:=s
 dsimp only at *
 have hT:(⟨h,g,d,t,os⟩:Ws).TypeIs (.ref c.addr) "type" := ⟨_,hC,rfl⟩
 refine .call (.tree rfl (.of ?_))
 show wpAny _ _ (callAny (.ref c.addr) _) _ _ _
 repeat (any_goals (first|assumption|with_reducible refine wpAny_loadPart_at hC ?_|wp_step))
 refine ⟨rfl,?_⟩
 refine GD Hm (Code.quiet_builtin _ (by decide +kernel)) entry_typeCall (wpAny_check_type_call_sub hC ?_)
 unfold Builtin.«type.__call__»
 have hk:∀ b o,h.get? b=some o→((h.push {cls:=.type "tuple",data:=.seq rest.toArray}).push {cls:=.ref c.addr,data:=.fields #[.ref h.objs.size,.none,.none,.none,.bool false,.none]}).get? b=some o:=
  fun b o e=>Heap.get?_push_of_some _ (Heap.get?_push_of_some _ e)
 have hget:((h.push {cls:=.type "tuple",data:=.seq rest.toArray}).push
   {cls:=.ref c.addr,data:=.fields #[.ref h.objs.size,.none,.none,.none,.bool false,.none]}).get? (h.objs.size+1)=some
   {cls:=.ref c.addr,data:=.fields #[.ref h.objs.size,.none,.none,.none,.bool false,.none]}:=by heap_get
 have hC₁:=hk _ _ hC
 have X₁:(KK w.params).In ((h.push {cls:=.type "tuple",data:=.seq rest.toArray}).push {cls:=.ref c.addr,data:=.fields #[.ref h.objs.size,.none,.none,.none,.bool false,.none]}):=X.keeps hk
 obtain ⟨_,_,_,hi⟩:=GA w.params c
 have hfT:typeIn (KK w.params) (.ref 29)=some (.type "function"):=by kernel_rfl
 have hm:Looks (model pw w) h (mroOf (.ref c.addr)) (Value.ref c.addr::.ref 32::XU):=((Looks.ld (part:=none) hC).andThen .now).andThen .now
 refine .step (hm.here ?_)
 rw [show (Value.ref c.addr::Value.ref 32::XU).isEmpty=false from rfl]
 refine .step (wpAny_madeBy_exc hC ?_)
 refine .step (wpAny_pure ?_)
 refine .step (wpAny_holding (wpAny_call (codeAny_call_builtin_code (Code.quiet_builtin _ F.quiet) (SV X (SW X ?_ hrest)))))
 have t1:Looks (model pw w) ((h.push {cls:=.type "tuple",data:=.seq rest.toArray}).push {cls:=.ref c.addr,data:=.fields #[.ref h.objs.size,.none,.none,.none,.bool false,.none]}) (typeOf (.ref (h.objs.size+1))) (.ref c.addr):=(Looks.ld hget).andThen .now
 have hcm:∃ cd,clsIn (KK w.params) c.addr=some cd∧cd.mro=Value.ref c.addr::Value.ref 32::XU∧cd.hasDict=true:=by assumption
 obtain ⟨cd,g1,g2,_⟩:=hcm
 refine Hg (t1.andThen (looks_mroIn X₁ (by unfold mroIn;rw [g1,Option.bind_some,g2];simp))) t1 (looks_findIn X₁ hi) (bind_fn X₁ _ hfT) ((hq _ (h.objs.size+1) _ hget (Heap.get?_none_of_le (Nat.le_succ _)) hk (Nat.le_succ _)).mono (fun r s' hr=>?_) fun _ _ x=>x)
 exact hr
end
theorem VR.back {β β':List Addr}{v0 v:Value}{av:AV}(x:VR β v0 av)(h:β<+:β')(y:VR β' v av):VR β v av:=by
 cases av with
|obj i=>
  obtain ⟨a,e,_⟩:=x
  obtain ⟨a',e',r⟩:=y
  obtain ⟨γ,rfl⟩:=h
  rw [List.getElem?_append_left (List.getElem?_eq_some_iff.mp e).1,e] at e'
  cases e'
  exact ⟨a,e,r⟩
|_=>exact y
theorem Ze.back {α γ:Type}{R R' R'':α→γ→Prop}(h:∀ a a' b,R a b→R' a' b→R'' a' b){as:List α}{bs:List γ}(x:Ze R as bs):∀ {as':List α},Ze R' as' bs→Ze R'' as' bs:=by
 induction x with
|nil=>intro as' y;cases y;exact .nil
|cons r x ih=>intro as' y;cases y with|cons r' y=>exact .cons (h _ _ _ r r') (ih y)
theorem Y3.back {β β':List Addr}(h:β<+:β'){a:Addr}{o:Za}{b0 b:ZH}(x:Y3 β a o b0)(y:Y3 β' a o b):Y3 β a o b:=by
 have vr:∀ a a' b,VR β a b→VR β' a' b→VR β a' b:=fun a a' b x y=>x.back h y
 cases o with
|list xs=>obtain ⟨_,_,_,r⟩:=x;obtain ⟨vs,n,e,r'⟩:=y;exact ⟨vs,n,e,Ze.back vr r r'⟩
|tup xs=>obtain ⟨_,_,_,r⟩:=x;obtain ⟨vs,n,e,r'⟩:=y;exact ⟨vs,n,e,Ze.back vr r r'⟩
|dict kvs n=>obtain ⟨_,_,_,r⟩:=x;obtain ⟨es,e,e',r'⟩:=y;exact ⟨es,e,e',Ze.back (fun a a' b x y=>⟨y.1,y.2.1,x.2.2.back h y.2.2⟩) r r'⟩
|inst c fs=>obtain ⟨_,_,_,_,r⟩:=x;obtain ⟨dx,es,n,e,r'⟩:=y;exact ⟨dx,es,n,e,Ze.back (fun a a' b x y=>⟨y.1,x.2.back h y.2⟩) r r'⟩
|barr l=>exact y
|exc c f=>exact y
|frz o xs=>exact y
section
variable {as:List Addr}{os:List Za}{bs:List ZH}{β β':List Addr}{a:Addr}{o:Za}{b:ZH}
theorem Z9.back (h:β<+:β'){bs0:List ZH}(x:Z9 β as os bs0):∀ {bs:List ZH},Z9 β' as os bs→Z9 β as os bs:=by
 induction x with
|nil=>intro bs y;cases y;exact .nil
|cons r _ ih=>intro bs y;cases y with|cons r' y=>exact .cons (r.back h r') (ih y)
theorem Z9.unsnoc:∀ {as:List Addr} {os:List Za} {bs:List ZH},as.length=os.length→Z9 β (as++[a]) (os++[o]) bs→∃ bs0 b,bs=bs0++[b]∧Z9 β as os bs0∧Y3 β a o b:=by
 intro as
 induction as with
|nil=>
  intro os bs hl x
  cases os with
 |nil=>cases x with|cons r y=>cases y;exact ⟨[],_,rfl,.nil,r⟩
 |cons=>cases hl
|cons a' as ih=>
  intro os bs hl x
  cases os with
 |nil=>cases hl
 |cons o' os=>
   cases x with
  |cons r y=>
    obtain ⟨bs0,b',e,r1,r2⟩:=ih (Nat.succ.inj hl) y
    exact ⟨_::bs0,b',congrArg (_::·) e,.cons r r1,r2⟩
end
section
variable {φ:Fx}{xs:List Str}{ex:List (Addr×Obj)}{β:List Addr}{loc:Zc}{σ:List Za}{b0z:List ZH}{cs frn:List (Addr×Obj)}{m:Str→Option Value}{s s₀:Ws}
theorem Rl.toExc {β':List Addr}{c:XN}{f:Bool}{x:Addr}(R0:Rl φ xs ex β loc σ s₀)(hp:β++[x]<+:β')(R:Rl φ xs ex β' loc (σ++[.exc c f]) s):ZS φ xs ex β loc σ c x s:=by
 intro hc
 obtain ⟨blks0,cs0,frn0,m0,R0⟩:=R0
 obtain ⟨b0z,cs,frn,m,R⟩:=R
 have hl0:=R0.real.len.1
 obtain rfl:β++[x]=β':=by
  refine hp.eq_of_length ?_
  have:=R.real.len.1
  simp at this ⊢
  lia
 obtain ⟨bs0,b,rfl,r1,r2⟩:=Z9.unsnoc hl0 R.real
 obtain ⟨vs,a0,dd,rfl,v0,v1,_⟩:=r2
 have hpre:β<+:β++[x]:=List.prefix_append _ _
 have e:(bs0++[[(x,{cls:=.ref c.addr,dict:=dd,data:=.fields vs:Obj})]]).flatten=bs0.flatten++[(x,{cls:=.ref c.addr,dict:=dd,data:=.fields vs})]:=by simp
 have hN:=R.N
 have hnd:=R.nd
 rw [e] at hN hnd
 have hx:=hN (x,{cls:=.ref c.addr,dict:=dd,data:=.fields vs}) (by simp)
 refine ⟨bs0,cs,frn,m,none,⟨R.ok,R0.real.back hpre r1,R.up,R.F,fun p hp=>hN p (by simp only [List.mem_append] at hp ⊢;grind),?_,R.cells,fun i y av h1 h2=>?_,R.gens,R.os⟩,?_,.inl rfl⟩
 ·refine (List.Sublist.map Prod.fst ?_).nodup hnd
  exact List.Sublist.append (List.sublist_append_left _ _) (List.Sublist.refl _)
 ·obtain ⟨v,h3,h4⟩:=R0.loc i y av h1 h2
  obtain ⟨v',h5,h6⟩:=R.loc i y av h1 h2
  exact ⟨v',h3.back hpre h5,h6⟩
 ·refine ⟨_,vs,_,hx.1,rfl,rfl,v0,?_,hx.2.2,v1⟩
  intro hm
  rcases List.mem_cons.mp hm with q|q
  ·exact hx.2.1 q
  ·simp only [List.map_append,List.append_assoc] at hnd q
   rw [List.nodup_append] at hnd
   obtain ⟨_,h4,h5⟩:=hnd
   simp only [List.map_cons,List.map_nil,List.cons_append,List.nil_append,List.nodup_cons] at h4
   rcases List.mem_append.mp q with q|q
   ·exact h5 x q x (by simp) rfl
   ·exact h4.1 q
inductive MA (φ:Fx)(xs:List Str)(ex:List (Addr×Obj))(β:List Addr)(loc:Zc)(σ:List Za)(s:Ws)(i:Nat)(c:XN)(f:Bool):Prop
|mk (x:Addr) (vs:Array Value) (a0:Addr) (dd:Option Addr) (e:β[i]?=some x) (ho:s.heap.get? x=some {cls:=.ref c.addr,dict:=dd,data:=.fields vs}) (v0:vs[0]?=some (.ref a0)) (v1:vs[1]?=some .none) (v2:f=true→dd=none)
   (k:∀ h' tk vs' a0' dd' f',h'.get? x=some {cls:=.ref c.addr,dict:=dd',data:=.fields vs'}→vs'[0]?=some (.ref a0')→vs'[1]?=some .none→(f'=true→dd'=none) →
    (∀ b o,b≠x→s.heap.get? b=some o→h'.get? b=some o)→Rl φ xs ex β loc (σ.set i (.exc c f')) {s with heap:=h',toks:=tk}):MA φ xs ex β loc σ s i c f
theorem Zi.excAt (R:Zi φ xs ex β loc σ b0z cs frn m s){i:Nat}{c:XN}{f:Bool}(hi:σ[i]?=some (.exc c f)):MA φ xs ex β loc σ s i c f:=by
 obtain ⟨a,b,pre,post,e1,⟨vs,a0,dd,rfl,v0,v1,v2⟩,e3,k⟩:=R.real.at hi
 refine ⟨a,vs,a0,dd,e1,(R.N (a,{cls:=.ref c.addr,dict:=dd,data:=.fields vs}) (by rw [e3];simp)).1,v0,v1,v2,fun h' tk vs' a0' dd' f' g1 g2 g3 g4 g5=>?_⟩
 refine R.updK (o:=.exc c f) (a:=a) (D:=a) (tk:=tk) e3 (k _ [(a,{cls:=.ref c.addr,dict:=dd',data:=.fields vs'})] ⟨vs',a0',dd',rfl,g2,g3,g4⟩) g5 (by simp) (by simp) g1 (by simp) (by simp)
end
theorem Zg6 (K:Frag):findCls K (.type "ValueError") (.type "type") "__init__" = some (.val (.builtin "ValueError.__init__")):=by kernel_rfl
theorem Zg7:typeOf (.type "ValueError")=pure (.type "type"):=by kernel_rfl
section
variable {n:Nat}{κ:Cx}{loc:Zc}{σ:List Za}
theorem WE.excInit {Q:Zq}{X:Zx}{es:List Expr}{p apos pos:Pos}(hs:Wk es apos pos=true)(hk:κ.sc.lookup (Zs "ValueError")=some .globalImplicit)
  (h:ZC n κ es loc σ (fun vs σ₁=>∃ x c f v,vs=[.obj x,v]∧σ₁[x]?=some (.exc c f)∧Q .none (σ₁.set x (.exc c f))) X):WE n κ (.Call (.Attribute (.Name "ValueError" p) "__init__" apos) es [] pos) loc σ Q X:=by
 intro φ ex β s Qc Ec hr hf R kQ kX
 have hb:WG (.Name "ValueError" p)=true:=rfl
 have hk':=(hf.kind "ValueError").trans hk
 with_reducible refine Hh ?_ (HA hb hs)
 have hbl:YW.lookup (Zs "ValueError")=some (.type "ValueError"):=by decide +kernel
 with_reducible refine .of (XJ R hbl hk' (by decide) ?_)
 have R0:=R
 obtain ⟨b0z,cs,frn,m,R⟩:=R
 have hst:Manifest.isStub "ValueError" = false:=by decide +kernel
 have hfi:=Zg6 (KK φ.G.w.params)
 with_reducible refine method_type R.F φ.G.X Zg7 hst hfi rfl ?_
 have hs':ZN es=true:=by simp only [Wk,Bool.and_eq_true] at hs;exact hs.1.1
 with_reducible refine X1 (fun _ e=>by cases e) hs' ?_
 with_reducible refine h.go hr hf (R0.tok _) (fun vs avs σ₁ β₁ s₁ q₁ p₁ R₁ v₁=>?_) kX
 obtain ⟨x,c,f,v,rfl,h1,h2⟩:=q₁
 obtain ⟨w,u,rfl,w1,u1⟩:=T8 v₁
 obtain ⟨blks₁,cs₁,frn₁,m₁,R₁⟩:=R₁
 obtain ⟨a,vs,a0,dd,e1,e2,e3,e4,e5,k⟩:=R₁.excAt h1
 have hw:=w1.objAt e1
 subst hw
 change Zb _ _ (PySem.call (.builtin "ValueError.__init__") [.ref a,u]) _ _ _
 refine .of (SZ (c:=c) R₁.kin e2 rfl rfl e3 fun h' tk t g1 g2=>?_)
 refine kQ .none .none _ β₁ _ h2 p₁ (k h' tk _ t dd f g1 ?_ ?_ e5 g2) rfl
 ·obtain ⟨q,_⟩:=Array.getElem?_eq_some_iff.mp e3
  simp [q]
 ·rw [Array.getElem?_setIfInBounds_ne (by decide)];exact e4
theorem WS.excSet {Q:W9→Zc→List Za→Prop}{X:XN→Zc→List Za→Prop}{o value:Expr}{p' pos:Pos}(hv:X8 value=false)
  (h:WE n κ value loc σ (fun v σ₁=>WE n κ o loc σ₁ (fun vo σ₂=>∃ x c,vo=.obj x∧σ₂[x]?=some (.exc c true)∧Q .next loc (σ₂.set x (.exc c false))) (fun c σ'=>X c loc σ')) (fun c σ'=>X c loc σ')) :
  WS n κ (.Assign [.Attribute o "reason" p'] value pos) loc σ Q X:=by
 intro φ ex β s Qc Ec hr hf hc R kQ kX
 with_reducible refine Ba ?_ (T7 hv _ _ _)
 with_reducible refine h.go hr hf R (fun v av σ₁ β₁ s₁ q₁ p₁ R₁ v₁=>?_) (fun c σ' β' e s' x p E=>kX c loc σ' β' e s' x p E)
 with_reducible refine q₁.go hr hf R₁ (fun w aw σ₂ β₂ s₂ q₂ p₂ R₂ w₂=>?_) (fun c σ' β' e s' x p E=>kX c loc σ' β' e s' x (p₁.trans p) E)
 obtain ⟨x,c,rfl,h1,h2⟩:=q₂
 obtain ⟨blks₁,cs₁,frn₁,m₁,R₂⟩:=R₂
 obtain ⟨a,vs,a0,dd,e1,e2,e3,e4,e5,k⟩:=R₂.excAt h1
 obtain rfl:=e5 rfl
 have hw:=w₂.objAt e1
 subst hw
 refine S6 (c:=c) R₂.kin e2 fun h' tk g1 g2=>?_
 exact kQ _ .next loc _ β₂ _ h2 (p₁.trans p₂) (k h' tk vs a0 _ false g1 e3 e4 (fun q=>by cases q) g2) trivial
end
theorem ZaY:ZB 29 [Zs "self",Zs "reason"] (T1 1 0).2.1 (T1 1 0).2.2.names 2 [] where
 ex:=⟨_,_,_,_,_,_,_,_,_,_,_,_,_,_,fun w=>(show (KK w.params).lookup 29=some (Vu w.params) by kernel_rfl),fun w=>by kernel_rfl,rfl,by kernel_rfl,by kernel_rfl,by kernel_rfl,fun w s vs X hv=>by
  obtain ⟨a,b,rfl⟩:=YA hv
  exact binds_K X (T:=22) (o:=Vt w.params) rfl (by kernel_rfl) rfl rfl rfl⟩
 len:=rfl
 nd:=by decide
 kinds:=by kernel_rfl
 cells:=by decide +kernel
theorem ZhI:∃ p1 p2 p3 p4 p5 p6 p7 p8 p9 p10,(T1 1 0).2.1=[.Expr (.Call (.Attribute (.Name (Zs "ValueError") p1) (Zs "__init__") p2) [.Name (Zs "self") p3,.Name (Zs "reason") p4] [] p5) p6,
 .Assign [.Attribute (.Name (Zs "self") p7) (Zs "reason") p8] (.Name (Zs "reason") p9) p10]∧(p2.endLine==p5.line)=true:=⟨_,_,_,_,_,_,_,_,_,_,rfl,rfl⟩
theorem ZhC {x:Nat}{c:XN}{v:AV}{σ:List Za}(hx:σ[x]?=some (.exc c true)):WF 1 29 [.obj x,v] σ (fun r σ'=>r=.none∧σ'=σ.set x (.exc c false)) (fun _ _=>False):=by
 refine WF.of_body (args:=[.obj x,v]) (dargs:=[]) (rest:=[]) (n:=0) ZaY .nil ?_
 obtain ⟨p1,p2,p3,p4,p5,p6,p7,p8,p9,p10,hb,hs⟩:=ZhI
 rw [hb]
 have hxl:x<σ.length:=(List.getElem?_eq_some_iff.mp hx).1
 have hself:σ.set x (.exc c true)=σ:=by
  obtain ⟨h,e⟩:=List.getElem?_eq_some_iff.mp hx
  rw [← e];exact List.set_getElem_self h
 refine WB.cons (WS.expr rfl (WE.excInit hs (by kernel_rfl) ?_))
 refine ZC.cons rfl (WE.name (i:=0) (av:=.obj x) rfl (by decide) (by decide) rfl ?_)
 refine ZC.cons rfl (WE.name (i:=1) (av:=v) rfl (by decide) (by decide) rfl (ZC.nil ?_))
 refine ⟨x,c,true,v,rfl,hx,rfl,?_⟩
 rw [hself]
 refine WB.cons (WS.excSet rfl (WE.name (i:=1) (av:=v) rfl (by decide) (by decide) rfl ?_))
 refine WE.name (i:=0) (av:=.obj x) rfl (by decide) (by decide) rfl ⟨x,c,rfl,hx,WB.nil ⟨rfl,rfl⟩⟩
section
variable {n:Nat}{κ:Cx}{loc:Zc}{σ:List Za}
theorem Zi.newExc {φ:Fx}{xs:List Str}{ex:List (Addr×Obj)}{β:List Addr}{b0z:List ZH}{cs frn:List (Addr×Obj)}{m:Str→Option Value}{s:Ws}(R:Zi φ xs ex β loc σ b0z cs frn m s){c:XN}{h':Heap}{e t:Addr}
  (he:h'.get? e=some {cls:=.ref c.addr,data:=.fields #[.ref t,.none,.none,.none,.bool false,.none]}) (hn:s.heap.get? e=none) (hk:∀ b o,s.heap.get? b=some o→h'.get? b=some o) :
  Rl φ xs ex (β++[e]) loc (σ++[.exc c true]) {s with heap:=h'}:=by
 have R':=R.more (h':=h') (tk:=s.toks) hk
 have hne:∀ q∈b0z.flatten++(cs++(ex++frn)),q.1≠e:=fun q hq z=>by
  have:=(R.N q hq).1
  rw [z,hn] at this;cases this
 have hL:e≠φ.env.locals:=fun z=>by
  obtain ⟨o,es,ep,ho,_⟩:=R.F.ns
  rw [← z,hn] at ho;cases ho
 have hG:φ.G.h.get? e=none:=by
  cases q:φ.G.h.get? e with
 |none=>rfl
 |some o=>have:=R.F.keep e o q;rw [hn] at this;cases this
 refine ⟨_,_,_,_,R.alloc (tk:=s.toks) (blk:=[(e,{cls:=.ref c.addr,data:=.fields #[.ref t,.none,.none,.none,.bool false,.none]})]) R'.F (fun p hp=>?_) ⟨_,t,none,rfl,rfl,rfl,fun _=>rfl⟩ (by simp) (fun p hp q hq=>?_)⟩
 ·rcases List.mem_cons.mp hp with rfl|hp
  ·exact ⟨he,hL,hG⟩
  ·exact R'.N p hp
 ·simp at hp;subst hp;exact hne q hq
theorem Zd3 {φ:Fx}{xs:List Str}{ex:List (Addr×Obj)}{β:List Addr}{s:Ws}{E:Value→Ws→Prop}{P:Value→Ws→Prop}{c:XN}{v:Value}{av:AV}(hr:ZG 2 φ.A)(R:Rl φ xs ex β loc σ s)(hv:VR β v av)
  (k:∀ x s' β' f,β++[x]<+:β'→Rl φ xs ex β' loc (σ++[.exc c f]) s'→P (.ref x) s'):Zb (Zd φ.G) φ.A (call (.ref c.addr) [v]) P E s:=by
 obtain ⟨b0z,cs,frn,m,R⟩:=R
 refine S0 R.kin (fun h' e t he hn hk _=>?_) (by rw [sizeLine_eq];simp)
 have R':=R.newExc he hn hk
 have hx:VR (β++[e]) (.ref e) (.obj σ.length):=⟨e,by rw [← R.real.len.1];simp,rfl⟩
 have hA:=(Ml (A:=φ.A) (args:=⟨.ref c.addr::[v],[]⟩)).1
 have cc:=Gj (Qc:=fun r s'=>r=.none∧P (.ref e) s') (Ec:=E) R' (ZG.tc (args:=⟨.ref c.addr::[v],[]⟩) hr) hA (ZhC (x:=σ.length) (c:=c) (v:=av) (by simp)) (.cons hx (.cons (hv.mono (List.prefix_append _ _)) .nil))
  (fun r ar σ' β' s' q p R₂ hv'=>by
   obtain ⟨rfl,rfl⟩:=q
   refine ⟨hv',k e s' β' false p ?_⟩
   have:(σ++[Za.exc c true]).set σ.length (.exc c false)=σ++[.exc c false]:=by simp
   rw [this] at R₂
   exact R₂)
  (fun c σ' β' e s' x p E=>False.elim x)
 change Zb _ _ (PySem.call (.ref 29) (.ref e::[v])) _ _ _
 with_reducible refine .call ?_
 exact cc
theorem Zer {φ:Fx}{s:Ws}{c:XN}{e:Expr}{pos:Pos}{Q:Flow→Ws→Prop}{E:Value→Ws→Prop}(hh:φ.A.handled=none)
  (h:Zb (Zd φ.G) φ.A (eval e φ.env) (fun v s₁=>∃ x ob vs,v=.ref x∧(KK φ.G.w.params).In s₁.heap∧s₁.heap.get? x=some ob∧ob.cls=.ref c.addr∧ob.data=.fields vs∧vs[1]?=some .none∧E (.ref x) s₁) E s) :
  Zb (Zd φ.G) φ.A (exec (.Raise (some e) none pos) φ.env) Q E s:=by
 show Zb _ _ (do standAt pos;raiseStmt φ.env (some (do let v ← eval e φ.env;standAt pos;pure v)) none) Q E s
 refine .stand ?_
 unfold raiseStmt
 dsimp only
 refine .bind (.bind (.mono h (fun v s₁ h₁=>.stand (.pure (.of ?_))) fun _ _ x=>x))
 obtain ⟨a,ob,vs,rfl,X,ha,hcls,hd,h1,hE⟩:=h₁
 obtain ⟨⟨cd,hc,ho,_⟩,_⟩:=GA φ.G.w.params c
 have LT:Looks (Zd φ.G) s₁.heap (typeOf (.ref a)) (.ref c.addr):=(Looks.ld ha).andThen (by rw [hcls];exact .now)
 have LB:Looks (Zd φ.G) s₁.heap (isInstance (.ref a) (.type "BaseException")) true:=LT.andThen (looks_mroIn X (by unfold mroIn;rw [hc,Option.bind_some,if_neg (by rw [ho];exact Bool.false_ne_true),ho];rfl))
 have hct:typeIn (KK φ.G.w.params) (.ref c.addr)=some (.type "type"):=by cases c<;>kernel_rfl
 have hnt:∀ {Q':Bool→Ws→Prop},Q' false s₁→wpAny (Zd φ.G) φ.A (isType (.ref a)) Q' E s₁:=by
  intro Q' hq
  unfold isType loadHead
  refine wpAny_bind (wpAny_loadPart ha ?_)
  rw [hd];exact wpAny_pure hq
 refine wpAny_bind (wpAny_pure ?_)
 dsimp only
 refine wpAny_bind (wpAny_holding ?_)
 unfold excFromValue isExcClass
 refine wpAny_bind (wpAny_bind (hnt ?_))
 refine wpAny_pure ?_
 refine wpAny_bind (LB.here ?_)
 refine wpAny_pure ?_
 refine wpAny_bind (hnt ?_)
 unfold raisedInstance
 refine wpAny_bind (wpAny_bind (LT.here (wpAny_bind ((looks_typeIn X hct).here ?_))))
 rw [if_pos (by decide)]
 refine wpAny_pure ?_
 unfold setFlight raiseNew
 refine wpAny_bind (wpAny_bind (wpAny_field ha hd h1 ?_))
 rw [if_neg (by decide)]
 refine wpAny_pure (wpAny_bind (wpAny_handled ?_))
 rw [hh]
 first
 |exact wpAny_throw hE
 |exact wpAny_bind (wpAny_pure (wpAny_throw hE))
theorem WS.raise {Q:W9→Zc→List Za→Prop}{X:XN→Zc→List Za→Prop}{x:Str}{c:XN}{e:Expr}{p cpos pos:Pos}(hn:2≤n)(hx:X4.lookup x=some c.addr)(hk:κ.sc.lookup x=some .globalImplicit)(hd:(x==("__debug__" : Str))=false)(hs:ZN [e]=true)
  (h:WE n κ e loc σ (fun v σ₁=>X c loc σ₁) (fun c σ'=>X c loc σ')):WS n κ (.Raise (some (.Call (.Name x p) [e] [] cpos)) none pos) loc σ Q X:=by
 intro φ ex β s Qc Ec hr hf hc R kQ kX
 have hh:φ.A.handled=none:=hr.1 (by grind)
 refine Zer (c:=c) hh ?_
 with_reducible refine XK ?_
 have hk':=(hf.kind x).trans hk
 with_reducible refine Gy R hx hk' hd ?_
 have hK:=(GF φ.G.w.params hx).2
 have hin:=R.kin
 with_reducible refine Gi (h₀:=s.heap) hin hK hs ?_
 have hse:ZQ e=false:=by simpa [ZN] using hs
 have hw:ZC n κ [e] loc σ (fun vs σ₁=>∃ v,vs=[v]∧X c loc σ₁) (fun c σ'=>X c loc σ'):=ZC.cons hse (h.mono (fun v σ₁ q=>ZC.nil ⟨v,rfl,q⟩) (fun _ _ x=>x))
 with_reducible refine hw.go hr hf R (fun vs avs σ₁ β₁ s₁ q₁ p₁ R₁ v₁=>?_) (fun c σ' β' e s' x p E=>kX c loc σ' β' e s' x p E)
 refine ⟨R₁.kin,?_⟩
 obtain ⟨av,rfl,q₁⟩:=q₁
 obtain ⟨v,rfl,hv⟩:=Yx v₁
 change Zb _ _ (PySem.call (.ref c.addr) [v]) _ _ _
 refine Zd3 (ZG.le hr hn) R₁ hv fun x s' β' f hp R₂=>?_
 have hE:=R₁.toExc hp R₂
 obtain ⟨b0z,cs,frn,m,st,R₃,X₃,hst⟩:=hE hc
 have hin':=R₃.kin
 have R₂':=R₂
 obtain ⟨_,_,_,_,R₂'⟩:=R₂'
 have hlen:(σ₁++[Za.exc c f])[σ₁.length]?=some (.exc c f):=by simp
 obtain ⟨y,vs,a0,dd,e1,e2,e3,e4,_⟩:=R₂'.excAt hlen
 have hy:y=x:=by
  obtain ⟨γ,rfl⟩:=hp
  have hb1:β₁.length=σ₁.length:=by obtain ⟨_,_,_,_,R₁⟩:=R₁;exact R₁.real.len.1
  rw [← hb1] at e1
  simp at e1
  exact e1.symm
 subst hy
 exact ⟨y,_,vs,rfl,hin',e2,rfl,rfl,e4,kX c loc σ₁ β₁ y s' q₁ p₁ hE⟩
end
noncomputable def YB (env:Env):List (Str×NameKind)→List (Str×Addr)→List (Str×Addr)
|[],acc=>acc
|(n,k)::r,acc=>if (k==.free)=true then YB env r ((n,(env.cells.lookup n).getD 0)::acc) else YB env r acc
theorem JU (env:Env)(scope:Scope)(h:∀ n,(n,NameKind.free)∈scope.names→(env.cells.lookup n).isSome=true):closureFor scope env=pure (YB env scope.names []):=by
 unfold closureFor
 have go:∀ (l:List (Str×NameKind)) (acc:List (Str×Addr)),(∀ n,(n,NameKind.free)∈l→(env.cells.lookup n).isSome=true) →
   (forIn l acc (fun (x:Str×NameKind) (r:List (Str×Addr))=>(match x with|(name,kind)=>if (kind==.free)=true then do let a ← cellOf env name;pure (ForInStep.yield ((name,a)::r)) else pure (ForInStep.yield r):Sem (ForInStep (List (Str×Addr))))):Sem (List (Str×Addr)))=pure (YB env l acc):=by
  intro l
  induction l with
 |nil=>intro acc _;rfl
 |cons p r ih=>
   obtain ⟨n,k⟩:=p
   intro acc hl
   rw [List.forIn_cons]
   have ih':=fun acc=>ih acc fun m hm=>hl m (List.mem_cons_of_mem _ hm)
   by_cases hk:(k==.free)=true
   ·cases eq_of_beq hk
    obtain ⟨a,ha⟩:=Option.isSome_iff_exists.mp (hl n List.mem_cons_self)
    have e:cellOf env n=pure a:=by unfold cellOf;rw [ha]
    have e2:YB env ((n,NameKind.free)::r) acc=YB env r ((n,a)::acc):=congrArg (fun z:Option Addr=>YB env r ((n,z.getD 0)::acc)) ha
    rw [e2,← ih' _]
    show ((cellOf env n >>= fun a=>pure (ForInStep.yield ((n,a)::acc))) >>= _)=_
    rw [e,pure_bind,pure_bind]
   ·have e2:YB env ((n,k)::r) acc=YB env r acc:=if_neg hk
    rw [e2,← ih' _]
    show ((if (k==.free)=true then _ else pure (ForInStep.yield acc)) >>= _)=_
    rw [if_neg hk,pure_bind]
 exact Eq.trans (bind_pure _) (go scope.names [] h)
theorem Se (env:Env)(l:List (Str×NameKind))(acc:List (Str×Addr))(n:Str)(h:n∉l.map Prod.fst):(YB env l acc).lookup n=acc.lookup n:=by
 induction l generalizing acc with
|nil=>rfl
|cons p r ih=>
  rw [List.map_cons,List.mem_cons,not_or] at h
  show (if (p.2==.free)=true then YB env r ((p.1,(env.cells.lookup p.1).getD 0)::acc) else YB env r acc).lookup n=_
  split
  ·rw [ih _ h.2,List.lookup_cons,beq_false_of_ne h.1]
  ·exact ih _ h.2
theorem NK (env:Env){c:Addr}(l:List (Str×NameKind))(acc:List (Str×Addr))(n:Str)(hnd:(l.map Prod.fst).Nodup)(h:(n,NameKind.free)∈l)(hc:env.cells.lookup n=some c):(YB env l acc).lookup n=some c:=by
 induction l generalizing acc with
|nil=>cases h
|cons p r ih=>
  rw [List.map_cons,List.nodup_cons] at hnd
  show (if (p.2==.free)=true then YB env r ((p.1,(env.cells.lookup p.1).getD 0)::acc) else YB env r acc).lookup n=_
  rcases List.mem_cons.mp h with e|h
  ·cases e
   rw [if_pos (by rfl),Se env r _ _ hnd.1,hc]
   exact List.lookup_cons_self
  ·split<;>exact ih _ hnd.2 h
section
variable {M:Model}{A:Around}{E:Value→Ws→Prop}{s:Ws}{env:Env}
theorem ZbD {α:Type}{c:Prop} [Decidable c] {pos:Pos}{k:PUnit→Sem α}{Q:α→Ws→Prop}(h:Zb M A (k ()) Q E s):Zb M A (if c then (standAt pos >>= k) else k ()) Q E s:=by
 split
 ·exact .stand h
 ·exact h
theorem Hf {e:Expr}{scope:Scope}{pos:Pos}{newAcc first:Sem Value}{g:Comprehension}{gs:List Comprehension}{cl:List (Str×Addr)}{use:Option (Value→Sem Unit)}{Q:Value→Ws→Prop}
  (hcl:clausesOf e=g::gs) (hs:∀ x,foldedSetIterable g.iter env x=pure x) (hclos:closureFor scope env=pure cl) (hkind:scope.kind=.function) (hnames:∀ x∈scope.names,x.2=.local→scope.names.lookup x.1=some .local)
  (h:Zb M A first (fun x s₁=>wpAny M A (pyIter x) (fun it s₂=>wpAny M A newAcc (fun acc s₃=>
   wpAny M A (newFunctionEnv scope env.globals cl [] env.qual none .none (some env)) (fun cenv s₄=>
    Zv M A (.compStart e 0 it acc {cenv with scope:=relabel scope env}) (compPost M A E use Q acc cenv.locals) s₄) E s₃) E s₂) E s₁) E s) :
  Zb M A (comprehension e scope env pos newAcc false first use) Q E s:=by
 unfold comprehension
 rw [hclos,hcl]
 refine .bind (h.mono (fun x s₁ h₁=>.stand (.step (wpAny_of_eq (hs x) (.step (wpAny_holding (wpAny_mono h₁ (fun it s₂ h₂=>ZbD (.step (wpAny_mono h₂ (fun acc s₃ h₃=>.step (wpAny_pure (.step (wpAny_mono h₃ (fun cenv s₄ h₄=>?_) fun _ _ h'=>h')))) fun _ _ h'=>h'))) fun _ _ h'=>h')))))) fun _ _ h'=>h')
 dsimp only
 have hv:∀ x∈(scope.names.filter fun x=>(x.2==.local||x.2==.cell)&&x.1 != (".0" : Str)).reverse,x.2=.local →
   Env.kindOf {cenv with scope:=relabel scope env} x.1=some .local:=fun x hx hl=>lookup_relabel_local (hnames x (List.mem_filter.mp (List.mem_reverse.mp hx)).1 hl)
 have hv':∀ x∈(scope.names.filter fun x=>(x.2==.local||x.2==.cell)&&x.1 != (".0" : Str)).reverse.drop 1++(scope.names.filter fun x=>(x.2==.local||x.2==.cell)&&x.1 != (".0" : Str)).reverse.take 1,
   x.2=.local→Env.kindOf {cenv with scope:=relabel scope env} x.1=some .local:=fun x hx hl=>by
  rcases List.mem_append.mp hx with h1|h1
  ·exact hv x (List.mem_of_mem_drop h1) hl
  ·exact hv x (List.mem_of_mem_take h1) hl
 refine .hold (.bind (.attempt (.hold (.run (h₄.mono fun r s' hr=>?_) (by intro x;cases x)))))
 cases r with
|ok f=>
  cases use with
 |none=>
   obtain ⟨m,hn,hr⟩:=hr
   exact .of (wpAny_bind (wpAny_holding (wpAny_comp_letGo (cenv:={cenv with scope:=relabel scope env}) hkind _ s' m hv hn fun h' m' _ hs'=>wpAny_pure (hr h' hs'))))
 |some u=>
   refine .of (wpAny_bind (wpAny_rule (wpAny_bind (wpAny_holding (wpAny_mono hr (fun _ s'' hr'=>?_) fun _ _ h'=>h')))))
   obtain ⟨m,hn,hr'⟩:=hr'
   exact wpAny_bind (wpAny_comp_letGo (cenv:={cenv with scope:=relabel scope env}) hkind _ s'' m hv' hn fun h' m' _ hs'=>wpAny_pure (hr' h' hs'))
|error x=>
  have hr':∃ m,s'.heap.Ns cenv.locals m∧∀ h',Heap.SameBut cenv.locals s'.heap h'→∀ cenv':Env,cenv'.locals=cenv.locals→wpAny M A (passOn "comprehension.variables-let-go" x cenv':Sem Value) (fun _ _=>False) E {s' with heap:=h'}:=by cases use<;>exact hr
  obtain ⟨m,hn,hr⟩:=hr'
  exact .of (wpAny_bind (wpAny_holding (wpAny_comp_letGo (cenv:={cenv with scope:=relabel scope env}) hkind _ s' m hv hn fun h' m' _ hs'=>wpAny_mono (hr h' hs' _ rfl) (fun _ _ f=>f.elim) fun _ _ y=>y)))
end
section
variable {φ:Fx}{xs ys:List Str}{ex:List (Addr×Obj)}{β:List Addr}{loc loc':Zc}{σ:List Za}{b0z:List ZH}{cs frn:List (Addr×Obj)}{m m':Str→Option Value}{s:Ws}
noncomputable def Fx.block (φ:Fx)(scope:Scope)(C:Addr)(fr:List (Addr×Obj)):Fx:=⟨φ.G,φ.A,compEnvC scope (YB φ.env scope.names []) C φ.env,φ.fenv,φ.oenvs,fr,[],true⟩
noncomputable def We (sc names:List (Str×NameKind)):Bool:=names.all fun p=>p.2 != .cell&&(p.2 != .free||sc.lookup p.1==some .cell)
theorem C4 {scope:Scope}{env:Env}(hk:env.scope.kind=.function){x:Str}:∀ (l:List (Str×NameKind)),(∀ p∈l,p.2=.free→env.kindOf p.1=some .cell) →
  (l.map fun (n,k)=>if (k==NameKind.free&&env.scope.kind==.function&&env.kindOf n==some .cell) then (n,NameKind.cell) else (n,k)).lookup x=(l.lookup x).map fun k=>if k=.free then .cell else k
|[],_=>rfl
|(n,k)::r,h=>by
  have ih:=C4 (scope:=scope) hk (x:=x) r fun p hp=>h p (List.mem_cons_of_mem _ hp)
  rw [List.map_cons]
  dsimp only
  by_cases hf:k=.free
  ·subst hf
   have:=h (n,.free) List.mem_cons_self rfl
   rw [if_pos (by rw [hk,this];rfl)]
   rw [List.lookup_cons,List.lookup_cons]
   cases x==n with
  |true=>rfl
  |false=>exact ih
  ·rw [if_neg (by simp [hf])]
   rw [List.lookup_cons,List.lookup_cons]
   cases x==n with
  |true=>simp [hf]
  |false=>exact ih
theorem Fx.block_ok {scope:Scope}{C:Addr}{fr:List (Addr×Obj)}(ok:φ.Ok)(hk:scope.kind=.function)(hb:We φ.env.scope.names scope.names=true)(hnd:(scope.names.map Prod.fst).Nodup)(hfr:Frs (φ.fenv::φ.oenvs) fr):(φ.block scope C fr).Ok where
 hfr:=ok.hfr
 kind:=hk
 fkind:=ok.fkind
 glob:=ok.glob
 blt:=ok.blt
 frs:=hfr
 own:=fun h=>by cases h
 cel:=fun h=>by cases h
 clo:=fun x hx=>by
  have hfree:∀ p∈scope.names,p.2=.free→φ.env.kindOf p.1=some .cell:=fun p hp h=>by
   have:=List.all_eq_true.mp hb p hp
   simp [h] at this
   exact this
  have hx':(scope.names.lookup x).map (fun k=>if k=NameKind.free then NameKind.cell else k)=some .cell:=by
   rw [← C4 (scope:=scope) ok.kind (x:=x) scope.names hfree];exact hx
  obtain ⟨k,h1,h2⟩:=Option.map_eq_some_iff.mp hx'
  have hm:=mem_of_lookup h1
  have hkf:k=.free:=by
   by_cases q:k=.free
   ·exact q
   ·rw [if_neg q] at h2
    have:=List.all_eq_true.mp hb _ hm
    simp [h2] at this
  subst hkf
  have hs:=ok.clo x (hfree _ hm rfl)
  obtain ⟨c,hc⟩:=Option.isSome_iff_exists.mp hs
  show ((YB φ.env scope.names []).lookup x).isSome=true
  rw [NK φ.env scope.names [] x hnd hm hc];rfl
theorem CS.enter {scope:Scope}{C:Addr}{fr:List (Addr×Obj)}{h':Heap}{tk:Nat}(H:CS φ.G (φ.fenv::φ.oenvs) fr ex β σ s)(hC:s.heap.get? C=none)(hCs:s.heap.objs.size≤C)(hk:∀ b o,s.heap.get? b=some o→h'.get? b=some o)(hns:h'.Ns C m')
  (ok:(φ.block scope C fr).Ok) (hl:∀ (i:Nat) x av,ys[i]?=some x→loc'[i]?=some (some av)→∃ v,VR β v av∧VD (φ.block scope C fr).env m' ex x v):Rl (φ.block scope C fr) ys ex β loc' σ {s with heap:=h',toks:=tk}:=by
 obtain ⟨b0z,frn,c1,c2,c3,c4,c5,c6,c7,c8,c9⟩:=H
 refine ⟨b0z,[],frn,m',ok,c1,c3,⟨hns,fun b o e=>hk b o (c6 b o e),Nat.le_trans c7 hCs⟩,fun p hp=>?_,c5,⟨rfl,fun p hp=>nomatch hp⟩,fun i x av h1 h2=>?_,c8,c9⟩
 ·have:=c4 p (by simpa using hp)
  refine ⟨hk _ _ this.1,fun q=>?_,this.2⟩
  have q':p.1=C:=q
  rw [q',hC] at this;cases this.1
 ·obtain ⟨v,h3,h4⟩:=hl i x av h1 h2
  exact ⟨v,h3,by simpa using h4⟩
end
noncomputable def Yi (names:List (Str×NameKind)):List (Str×NameKind):=names.map fun p=>(p.1,if p.2=.free then .cell else p.2)
noncomputable def Xs (κ:Cx)(names:List (Str×NameKind))(ys:List Str)(loc:Zc):Zc:=ys.map fun x=>if names.lookup x=some .free then (κ.xs.idxOf? x).bind fun j=>(loc[j]?).join else none
section
variable {φ:Fx}{xs ys:List Str}{ex lg:List (Addr×Obj)}{β:List Addr}{loc loc':Zc}{σ:List Za}{s:Ws}
theorem Rl.less (R:Rl φ xs ex β loc σ s)(h:∀ (i:Nat) av,loc'[i]?=some (some av)→loc[i]?=some (some av)):Rl φ xs ex β loc' σ s:=by
 obtain ⟨b0z,cs,frn,m,R⟩:=R
 exact ⟨b0z,cs,frn,m,R.ok,R.real,R.up,R.F,R.N,R.nd,R.cells,fun i x av h1 h2=>R.loc i x av h1 (h i av h2),R.gens,R.os⟩
theorem Hv {x:Str}:∀ (l:List (Str×NameKind)),(Yi l).lookup x=(l.lookup x).map fun k=>if k=.free then .cell else k
|[]=>rfl
|(n,k)::r=>by
  have ih:=Hv (x:=x) r
  show List.lookup x ((n,if k=.free then .cell else k)::Yi r)=_
  rw [List.lookup_cons,List.lookup_cons]
  cases x==n with
 |true=>rfl
 |false=>exact ih
theorem N4 {κ:Cx}{scope:Scope}{C:Addr}{fr:List (Addr×Obj)}(hf:ZP κ φ)(ok:φ.Ok)(hb:We κ.sc scope.names=true):ZP ⟨ys,Yi scope.names⟩ (φ.block scope C fr):=by
 show (scope.names.map fun (n,k)=>if (k==NameKind.free&&φ.env.scope.kind==.function&&φ.env.kindOf n==some .cell) then (n,NameKind.cell) else (n,k))=Yi scope.names
 unfold Yi
 refine List.map_congr_left fun p hp=>?_
 obtain ⟨n,k⟩:=p
 dsimp only
 by_cases hk:k=.free
 ·subst hk
  have:=List.all_eq_true.mp hb _ hp
  simp at this
  rw [hf.kind n,this,ok.kind]
  rfl
 ·rw [if_neg (by simp [hk]),if_neg hk]
theorem Sa {κ:Cx}{scope:Scope}{C:Addr}{fr pre:List (Addr×Obj)}{b0z:List ZH}{cs frn:List (Addr×Obj)}{m m':Str→Option Value}(R:Zi φ κ.xs ex β loc σ b0z cs frn m s)(hf:ZP κ φ)(hb:We κ.sc scope.names=true)(hnd:(scope.names.map Prod.fst).Nodup)
  (i:Nat) (x:Str) (av:AV) (h1:ys[i]?=some x) (h2:(Xs κ scope.names ys loc)[i]?=some (some av)):∃ v,VR β v av∧VD (φ.block scope C fr).env m' (pre++(cs++ex)) x v:=by
 unfold Xs at h2
 rw [List.getElem?_map,h1,Option.map_some,Option.some.injEq] at h2
 split at h2
 ·rename_i hfree
  obtain ⟨j,hj,hl⟩:=Option.bind_eq_some_iff.mp h2
  have hxj:κ.xs[j]?=some x:=by
   have:=List.findIdx?_eq_some_iff_getElem.mp hj
   obtain ⟨hlt,e,_⟩:=this
   rw [List.getElem?_eq_getElem hlt]
   have e':κ.xs[j]=x:=by simpa using e
   rw [e']
  have hlj:loc[j]?=some (some av):=by
   cases q:loc[j]? with
  |none=>rw [q] at hl;cases hl
  |some y=>rw [q] at hl;exact congrArg some hl
  obtain ⟨v,hv,hva⟩:=R.loc j x av hxj hlj
  have hm:=mem_of_lookup hfree
  have hk:κ.sc.lookup x=some .cell:=by
   have:=List.all_eq_true.mp hb _ hm
   simpa using this
  have hk':=(hf.kind x).trans hk
  refine ⟨v,hv,?_⟩
  rcases hva with ⟨q,_⟩|⟨_,c,o,hc,hmem,hd⟩
  ·rw [hk'] at q;cases q
  ·refine .inr ⟨.inl ?_,c,o,NK φ.env scope.names [] x hnd hm hc,by simp only [List.mem_append] at hmem ⊢;grind,hd⟩
   have:=N4 (ys:=ys) (C:=C) (fr:=fr) hf R.ok hb
   show (φ.block scope C fr).env.scope.names.lookup x=_
   rw [this]
   show (Yi scope.names).lookup x=_
   rw [Hv,hfree];rfl
 ·cases h2
noncomputable def YZ:Yb→Bool
|.byt _=>false
|_=>true
theorem Qd {it:Yb}{k:Nat}{v:Value}{Qc:Value→Ws→Prop}{Ec:Value→Ws→Prop}(R:Rl φ xs (lg++ex) β loc σ s)(st:Yv β it k v lg)(hb:YZ it=true)(q:Qc v s):wpAny (Zd φ.G) φ.A (pyIter v) Qc Ec s:=by
 obtain ⟨b0z,cs,frn,m,R⟩:=R
 have at_:∀ p∈lg,s.heap.get? p.1=some p.2:=fun p hp=>(R.N p (by simp [hp])).1
 cases it with
|lst x=>obtain ⟨I,l,o,rfl,h1,rfl,h2,h3⟩:=st;exact wpAny_pyIter_listiter ⟨o,at_ _ List.mem_cons_self,h2,h3⟩ q
|tup x=>obtain ⟨I,l,o,rfl,h1,rfl,h2,h3⟩:=st;exact wpAny_pyIter_tupleiter ⟨o,at_ _ List.mem_cons_self,h2,h3⟩ q
|dct x n ep=>obtain ⟨I,l,o,rfl,h1,rfl,h2,h3⟩:=st;exact wpAny_pyIter_keyiter ⟨o,at_ _ List.mem_cons_self,h2,h3⟩ q
|byt l=>cases hb
|txt l=>obtain ⟨I,t,o,rfl,rfl,h2,h3⟩:=st;exact wpAny_pyIter_striter_ascii ⟨o,at_ _ List.mem_cons_self,h2,h3⟩ q
|rng a n=>obtain ⟨I,rfl,rfl⟩:=st;exact wpAny_pyIter_rangeiter (at_ _ List.mem_cons_self) q
|enm x=>obtain ⟨e,I,l,o,old,rfl,h1,h2,rfl,h3,h4⟩:=st;exact wpAny_pyIter_enum (at_ _ List.mem_cons_self) q
end
noncomputable def JF (names:List (Str×NameKind))(ys:List Str)(x:Str)(i:Nat):Bool:=(ys[i]?==some x)&&(names.lookup x==some .local)
theorem JG {names:List (Str×NameKind)}{ys:List Str}{x:Str}{i:Nat}(h:JF names ys x i=true):ys[i]?=some x∧names.lookup x=some .local:=⟨eq_of_beq (Zp h).1,eq_of_beq (Zp h).2⟩
noncomputable def Uu (names:List (Str×NameKind))(ys:List Str):List Expr→List Nat→Bool
|[],[]=>true
|t::r,i::is=>(Zg (YR t) fun x=>JF names ys x i)&&Uu names ys r is
|_,_=>false
noncomputable def Xr (names:List (Str×NameKind))(ys:List Str)(t:Expr)(is:List Nat):Bool:=((Zg (YR t) fun x=>Zg is.head? fun i=>JF names ys x i)&&is.length.beq 1)||((Zg (Wf t) fun ts=>Uu names ys ts is)&&is.length.beq 2)
theorem JI {names:List (Str×NameKind)}{ys:List Str}{t:Expr}{is:List Nat}(h:Xr names ys t is=true):(∃ x p i,t=.Name x p∧is=[i]∧ys[i]?=some x∧names.lookup x=some .local)∨(∃ ts k p,t=.Tuple ts k p∧Uu names ys ts is=true∧is.length=2):=by
 rcases (Bool.or_eq_true _ _).mp h with h|h
 ·obtain ⟨h1,h2⟩:=Zp h
  obtain ⟨x,e,h3⟩:=Zf h1
  obtain ⟨p,rfl⟩:=Xf e
  obtain ⟨i,rfl,h4⟩:=BN h3 h2
  exact .inl ⟨x,p,i,rfl,rfl,JG h4⟩
 ·obtain ⟨h1,h2⟩:=Zp h
  obtain ⟨x,e,h3⟩:=Zf h1
  obtain ⟨k,p,rfl⟩:=WM e
  exact .inr ⟨x,k,p,rfl,h3,Nat.eq_of_beq_eq_true h2⟩
theorem Gg {names:List (Str×NameKind)}{ys:List Str}{x:Str}{p:Pos}{i:Nat}(h:Xr names ys (.Name x p) [i]=true):ys[i]?=some x∧names.lookup x=some .local:=by
 rcases JI h with ⟨_,_,_,e1,e2,h⟩|⟨_,_,_,e1,_⟩
 ·cases e1;cases e2;exact h
 ·cases e1
noncomputable def CT (n:Nat)(κ:Cx)(ifs:List Expr)(elt:Expr)(loc:Zc)(σ:List Za)(Q:Option AV→List Za→Prop):Prop:=match ifs with
|[]=>WE n κ elt loc σ (fun v σ₁=>Q (some v) σ₁) (fun _ _=>False)
|[c]=>WT n κ c loc σ (fun b σ₁=>if b then WE n κ elt loc σ₁ (fun v σ₂=>Q (some v) σ₂) (fun _ _=>False) else Q none σ₁) (fun _ _=>False)
|_=>False
theorem CT.elim {P:List Expr→Prop}{n:Nat}{κ:Cx}{ifs:List Expr}{elt:Expr}{loc:Zc}{σ:List Za}{Q:Option AV→List Za→Prop}(t:CT n κ ifs elt loc σ Q)(h0:WE n κ elt loc σ (fun v σ₁=>Q (some v) σ₁) (fun _ _=>False)→P [])
  (h1:∀ c,WT n κ c loc σ (fun b σ₁=>if b then WE n κ elt loc σ₁ (fun v σ₂=>Q (some v) σ₂) (fun _ _=>False) else Q none σ₁) (fun _ _=>False)→P [c]):P ifs:=by
 cases ifs with
|nil=>exact h0 t
|cons c r=>cases r with
 |nil=>exact h1 c t
 |cons _ _=>exact False.elim t
section
variable {φ:Fx}{xs ys:List Str}{ex lg:List (Addr×Obj)}{β:List Addr}{loc loc':Zc}{σ:List Za}{s:Ws}
theorem Ny {names:List (Str×NameKind)}(hk:∀ x,names.lookup x=some .local→φ.env.kindOf x=some .local)(hnd:ys.Nodup):∀ {ts:List Expr} {is:List Nat},Uu names ys ts is=true →
  Ze (VC φ ys) ((assignEach ts φ.env).map (·.2)) is∧(assignEach ts φ.env).findIdx? (·.1)=none∧(assignEach ts φ.env).length=is.length
|[],[],_=>⟨.nil,rfl,rfl⟩
|[],_::_,h=>nomatch h
|t::r,[],h=>nomatch h
|t::r,i::is,h=>by
  obtain ⟨h0,hr⟩:=Zp h
  obtain ⟨x,h0,hl⟩:=Zf h0
  obtain ⟨p,rfl⟩:=Xf h0
  have hl:=JG hl
  obtain ⟨h1,h2,h3⟩:=Ny hk hnd hr
  refine ⟨.cons ?_ h1,?_,congrArg (·+1) h3⟩
  ·intro ex β loc σ s v av Qc Ec R hv k
   have:wpAny (Zd φ.G) φ.A (bindName φ.env x v) Qc Ec s:=by
    with_reducible refine wpAny_bindName ?_
    with_reducible exact R.store hl.1 hnd (.inl (hk x hl.2)) hv k
   change wpAny _ _ (standAt p >>= fun _=>bindName φ.env x v) _ _ _
   with_reducible exact wpAny_bind (wpAny_standAt this)
  ·show ((false,assign (.Name x p) φ.env)::assignEach r φ.env).findIdx? (·.1)=none
   rw [List.findIdx?_cons,h2];rfl
theorem Hy:∀ (is:List Nat) (l:Zc) (vs:List AV) (i:Nat) (av:AV),i∉is→l[i]?=some (some av)→(Z3 l is vs)[i]?=some (some av):=by
 intro is
 induction is with
|nil=>intro l vs i av _ h;cases vs<;>exact h
|cons j is ih=>
  intro l vs i av hm h
  cases vs with
 |nil=>exact h
 |cons v vs=>
   rw [List.mem_cons,not_or] at hm
   refine ih _ _ _ _ hm.2 ?_
   have:∀ (l:Zc) (i j:Nat),i≠j→l[i]?=some (some av)→(ZZ l j v)[i]?=some (some av):=by
    intro l
    induction l with
   |nil=>intro i j _ h;exact nomatch h
   |cons y l ih=>intro i j hij h;cases j with
    |zero=>cases i with
     |zero=>exact absurd rfl hij
     |succ i=>exact h
    |succ j=>cases i with
     |zero=>exact h
     |succ i=>exact ih i j (fun q=>hij (congrArg (·+1) q)) h
   exact this l i j hm.1 h
end
section
variable {n:Nat}{κ:Cx}{loc:Zc}{σ:List Za}
inductive Go (n:Nat)(κ:Cx)(scope:Scope)(ys:List Str)(is:List Nat)(ifs:List Expr)(elt:Expr)(loc:Zc)(it:Yb)(σ:List Za)(Q:Zq):Prop
|mk (hb:YZ it=true) (i0z:List (List AV)) (I:Nat→List Za→Prop) (g0:∀ avs∈i0z,avs.length=is.length) (g1:I 0 (σ++[.list []])) (g2:∀ k σ',k≤i0z.length→I k σ'→Z0 it σ' i0z)
  (g3:∀ k σ' avs,i0z[k]?=some avs→I k σ'→CT n ⟨ys,Yi scope.names⟩ ifs elt (Z3 (Xs κ scope.names ys loc) is avs) σ' (fun r σ''=>match r with
  |none=>I (k+1) σ''
  |some v=>∃ ls,σ''[σ.length]?=some (.list ls)∧ls.length<1000000∧I (k+1) (σ''.set σ.length (.list (ls++[v])))))
  (g4:∀ σ',I i0z.length σ'→Q (.obj σ.length) σ'):Go n κ scope ys is ifs elt loc it σ Q
end
noncomputable def Gb (e elt target iter:Expr)(ifs:List Expr)(depth:Nat):Prop:=∀ (it acc:Value) (env:Env),compTurn e depth it acc env=(do
   standAt iter.pos
   match ← pyNext it with
  |none=>pure (.done .next)
  |some v=>
    letOwnedTupleGo target it v
    assign target env v
    let mut ok:=true
    for c in ifs do
     if ok then ok ← isTrue c env (eval c env)
    if ok then
     (do let _ ← PySem.call (.builtin "list.append") [acc,← eval elt env])
    again (.compLoop e depth it acc env))
theorem Bz {elt target iter:Expr}{ifs:List Expr}{scope:Scope}{pos:Pos}:Gb (.ListComp elt [⟨target,iter,ifs,0⟩] scope pos) elt target iter ifs 0:=fun _ _ _=>rfl
theorem Zcf {elt target iter:Expr}{g:Comprehension}{ifs:List Expr}{scope:Scope}{pos:Pos}:Gb (.ListComp elt [g,⟨target,iter,ifs,0⟩] scope pos) elt target iter ifs 1:=fun _ _ _=>rfl
section
variable {prog:Program}{w:World}{A:Around}{E:Value→Ws→Prop}{R:Result→Ws→Prop}{s:Ws}
theorem Sq {e elt target iter:Expr}{ifs:List Expr}{depth:Nat}{it acc:Value}{env:Env}(hT:Gb e elt target iter ifs depth)(hf:∀ it acc env,(Code.compLoop e depth it acc env).isFrame=false)(I:Nat→Ws→Prop)
  (turn:∀ n s,I n s→wpAny (model prog w) A (pyNext it) (fun r s₁=>match r with
  |none=>R (.ok .next) s₁
  |some v=>wpAny (model prog w) A (letOwnedTupleGo target it v) (fun _ s₁'=>wpAny (model prog w) A (assign target env v) (fun _ s₂=>
     Zb (model prog w) A (forIn ifs true fun c r=>if r=true then do let ok ← isTrue c env (eval c env);pure (ForInStep.yield ok) else pure (ForInStep.yield r)) (fun ok s₃=>
      if ok=true then Zb (model prog w) A (eval elt env) (fun x s₄=>
       Zb (model prog w) A (call (.builtin "list.append") [acc,x]) (fun _ s₅=>∃ m,m<n∧I m s₅) (notedBy (model prog w) A env fun e s'=>R (.error e) s') s₄) (notedBy (model prog w) A env fun e s'=>R (.error e) s') s₃
      else ∃ m,m<n∧I m s₃) (notedBy (model prog w) A env fun e s'=>R (.error e) s') s₂) (notedBy (model prog w) A env fun e s'=>R (.error e) s') s₁') (notedBy (model prog w) A env fun e s'=>R (.error e) s') s₁) (notedBy (model prog w) A env fun e s'=>R (.error e) s') s)
  (n:Nat) (h:I n s) (hq:(Code.compLoop e depth it acc env).quiet=true) (hu:A.under (.compLoop e depth it acc env)=A) :
  Zv (model prog w) A (.compLoop e depth it acc env) R s:=by
 refine .loop rfl hq I (fun n s hI=>?_) n h
 have hden:(model prog w).den (.compLoop e depth it acc env)=((compTurn e depth it acc env).onRaise (fun x=>do noteFrame x env;theTreesLotGoes x)):=by
  show (if _ then _ else _)=_
  rw [hf it acc env]
  rfl
 rw [hden,hu]
 refine VN ?_
 rw [hT]
 refine .stand (.step (wpAny_mono (turn n s hI) (fun r s₁ h₁=>?_) fun _ _ h'=>h'))
 cases r with
|none=>exact .pure h₁
|some v=>
  refine .step (wpAny_mono h₁ (fun _ s₁' h₁'=>?_) fun _ _ h'=>h')
  refine .step (wpAny_mono h₁' (fun _ s₂ h₂=>.bind (.mono h₂ (fun ok s₃ h₃=>?_) fun _ _ h'=>h')) fun _ _ h'=>h')
  cases ok with
 |false=>exact .pure (.inl ⟨rfl,h₃⟩)
 |true=>
   exact .bind (.bind (.mono h₃ (fun x s₄ h₄=>.bind (.mono h₄ (fun _ s₅ h₅=>Zb.pure (Zb.pure (.inl ⟨rfl,h₅⟩))) fun _ _ h'=>h')) fun _ _ h'=>h'))
end
section
variable {n:Nat}{κ:Cx}{loc:Zc}{σ:List Za}{Q:Zq}{X:Zx}
theorem JM {names:List (Str×NameKind)}{ys:List Str}{i:Nat}{x:Str}(h:ys[i]?=some x)(hl:names.lookup x=some .local):(Xs κ names ys loc)[i]?=some none:=by
 unfold Xs
 rw [List.getElem?_map,h,Option.map_some,if_neg (by rw [hl];simp)]
theorem Nz {names:List (Str×NameKind)}{ys:List Str}{t:Expr}{is:List Nat}(ht:Xr names ys t is=true)(avs:List AV)(i:Nat)(av:AV)(h:(Xs κ names ys loc)[i]?=some (some av)):(Z3 (Xs κ names ys loc) is avs)[i]?=some (some av):=by
 refine Hy is _ avs i av (fun hm=>?_) h
 have key:∃ x,ys[i]?=some x∧names.lookup x=some .local:=by
  rcases JI ht with ⟨x,_,_,_,rfl,ht'⟩|⟨_,_,_,_,ht',_⟩
  ·rw [List.mem_singleton.mp hm]
   exact ⟨x,ht'⟩
  ·have:∀ (ts:List Expr) (is:List Nat),Uu names ys ts is=true→i∈is→∃ x,ys[i]?=some x∧names.lookup x=some .local:=by
    intro ts
    induction ts with
   |nil=>intro is h hm;cases is with
    |nil=>cases hm
    |cons _ _=>cases h
   |cons t r ih=>intro is h hm;cases is with
    |nil=>cases hm
    |cons j js=>
      obtain ⟨h0,hr⟩:=Zp h
      rcases List.mem_cons.mp hm with rfl|hm
      ·obtain ⟨x,_,hl⟩:=Zf h0
       exact ⟨x,JG hl⟩
      ·exact ih js hr hm
   exact this _ _ ht' hm
 obtain ⟨x,h1,h2⟩:=key
 rw [JM h1 h2] at h
 cases h
theorem Rl.leaveBut {φ:Fx}{ys:List Str}{ex:List (Addr×Obj)}{β:List Addr}{s:Ws}{scope:Scope}{C:Addr}{fr:List (Addr×Obj)}(H:Rl (φ.block scope C fr) ys ex β loc σ s) :
  ∃ m,s.heap.Ns C m∧∀ h',Heap.SameBut C s.heap h'→CS φ.G (φ.fenv::φ.oenvs) fr ex β σ {s with heap:=h'}:=by
 obtain ⟨b0z,cs,frn,m,R⟩:=H
 have hcs:cs=[]:=by
  have:=R.cells.1
  exact List.map_eq_nil_iff.mp this
 subst hcs
 refine ⟨m,R.F.ns,fun h' hs=>⟨b0z,frn,R.real,R.ok.frs,R.up,fun p hp=>?_,R.nd,fun b o e=>?_,?_,R.gens,R.os⟩⟩
 ·have:=R.N p (by simpa using hp)
  exact ⟨(hs.2 _ this.2.1).trans this.1,this.2.2⟩
 ·exact (hs.2 b (Nat.ne_of_lt (Nat.lt_of_lt_of_le (Heap.lt_size e) R.F.above))).trans (R.F.keep b o e)
 ·show φ.G.h.objs.size≤h'.objs.size
  rw [hs.1]
  exact Nat.le_of_lt (Nat.lt_of_le_of_lt R.F.above R.F.ns.lt)
end
section
variable {prog:Program}{w:World}{A:Around}{E:Value→Ws→Prop}{R:Result→Ws→Prop}{s:Ws}
theorem ZbE {env:Env}{Q:Bool→Ws→Prop}(h:Q true s):Zb (model prog w) A (forIn ([]:List Expr) true fun c r=>if r=true then do let ok ← isTrue c env (eval c env);pure (ForInStep.yield ok) else pure (ForInStep.yield r)) Q E s:=.pure h
theorem ZbF {env:Env}{c:Expr}{Q:Bool→Ws→Prop}(h:Zb (model prog w) A (isTrue c env (eval c env)) Q E s) :
  Zb (model prog w) A (forIn [c] true fun c r=>if r=true then do let ok ← isTrue c env (eval c env);pure (ForInStep.yield ok) else pure (ForInStep.yield r)) Q E s:=by
 rw [List.forIn_cons]
 exact .bind (.bind (.mono h (fun b s' hb=>Zb.pure (Zb.pure hb)) fun _ _ x=>x))
theorem NO {e target iter:Expr}{ifs:List Expr}{depth:Nat}{it acc:Value}{env:Env}(hc:(clausesOf e)[depth]?=some ⟨target,iter,ifs,0⟩)
  (hf:(Code.compStart e depth it acc env).isFrame=false) (hq:(Code.compLoop e depth it acc env).quiet=true) (hq':∀ it',(Code.compLoop e depth it' acc env).quiet=true) (hu:A.under (.compStart e depth it acc env)=A)
  (hden:(model prog w).den (.compStart e depth it acc env)=((compStart e depth it acc env).onRaise (fun x=>do noteFrame x env;standAt theWindowsPlace)))
  (h0:Zv (model prog w) A (.compLoop e depth it acc env) R s)
  (h:wpAny (model prog w) A (pyIter it) (fun it' s'=>Zv (model prog w) A (.compLoop e depth it' acc env) R s') (notedBy (model prog w) A env fun x s'=>R (.error x) s') s) :
  Zv (model prog w) A (.compStart e depth it acc env) R s:=by
 refine .tree rfl ?_
 rw [hden,hu]
 refine Zby (.of ?_)
 unfold compStart
 rw [hc]
 show wpAny _ _ (ask >>= _) _ _ s
 refine wpAny_bind (wpAny_askSetting (wpAny_ite ?_))
 split
 ·first
  |exact wpAny_bind (wpAny_pure (wpAny_pure (And.intro hq h0)))
  |exact wpAny_pure (And.intro hq h0)
 ·refine wpAny_bind (wpAny_rule ?_)
  show wpAny _ _ (standAt iter.pos >>= _) _ _ s
  exact wpAny_bind (wpAny_standAt (wpAny_bind (wpAny_mono h (fun it' s' h'=>wpAny_pure (And.intro (hq' it') h')) fun _ _ x=>x)))
end
theorem JJ {n:Nat}{ψ:Fx}{κb:Cx}{e elt t iter:Expr}{ifs:List Expr}{depth:Nat}{names:List (Str×NameKind)}{is:List Nat}{l₀:Zc}{i0z:List (List AV)}{I:Nat→List Za→Prop}{a:Nat}{acc w:Value}{it:Yb}
  {lg exb:List (Addr×Obj)} {β₂:List Addr} {σ₂:List Za} {s:Ws} {RR:Result→Ws→Prop}
  (hT:Gb e elt t iter ifs depth) (hF:∀ it acc env,(Code.compLoop e depth it acc env).isFrame=false) (hq:∀ it acc env,(Code.compLoop e depth it acc env).quiet=true) (hu:∀ it acc env,ψ.A.under (.compLoop e depth it acc env)=ψ.A)
  (hS:∀ it acc env R s,Zv (Zd ψ.G) ψ.A (.compLoop e depth it acc env) R s→wpAny (Zd ψ.G) ψ.A (pyIter it) (fun it' s'=>Zv (Zd ψ.G) ψ.A (.compLoop e depth it' acc env) R s') (notedBy (Zd ψ.G) ψ.A env fun x s'=>R (.error x) s') s→Zv (Zd ψ.G) ψ.A (.compStart e depth it acc env) R s)
  (hh:ψ.A.handled=none) (hr:ZG n ψ.A) (hf:ZP κb ψ) (hloc:∀ x,names.lookup x=some .local→ψ.env.kindOf x=some .local) (hys:κb.xs.Nodup) (ht:Xr names κb.xs t is=true)
  (hless:∀ (avs:List AV) (i:Nat) (av:AV),l₀[i]?=some (some av)→(Z3 l₀ is avs)[i]?=some (some av))
  (g0:∀ avs∈i0z,avs.length=is.length) (g2:∀ k σ',k≤i0z.length→I k σ'→Z0 it σ' i0z)
  (g3:∀ k σ' avs,i0z[k]?=some avs→I k σ'→CT n κb ifs elt (Z3 l₀ is avs) σ' (fun r σ''=>match r with
  |none=>I (k+1) σ''
  |some v=>∃ ls,σ''[a]?=some (.list ls)∧ls.length<1000000∧I (k+1) (σ''.set a (.list (ls++[v])))))
  (hacc:VR β₂ acc (.obj a)) (hby:YZ it=true) (R:Rl ψ κb.xs (lg++exb) β₂ l₀ σ₂ s) (st₂:Yv β₂ it 0 w lg) (h0:I 0 σ₂)
  (fin:∀ σ' β' s',I i0z.length σ'→β₂<+:β'→Rl ψ κb.xs exb β' l₀ σ' s'→RR (.ok .next) s') :
  Zv (Zd ψ.G) ψ.A (.compStart e depth w acc ψ.env) RR s:=by
 have lenBlk:∀ {σ':List Za} {β':List Addr} {lg':List (Addr×Obj)} {avs:List AV} {s':Ws},Rl ψ κb.xs lg' β' (Z3 l₀ is avs) σ' s'→Rl ψ κb.xs lg' β' l₀ σ' s':=fun R'=>R'.less fun i av h=>hless _ i av h
 let J:Nat→Ws→Prop:=Js ψ κb.xs exb β₂ it w i0z.length l₀ I
 have loop:Zv (Zd ψ.G) ψ.A (.compLoop e depth w acc ψ.env) RR s:=by
  refine Sq hT hF J (fun m s₅ hJ=>?_) (i0z.length-0) ⟨0,_,β₂,lg,rfl,Nat.zero_le _,h0,List.prefix_refl _,st₂,R⟩ (hq _ _ _) (hu _ _ _)
  obtain ⟨k,σ₅,β₅,lg₅,hm,hk',hI,p₅,st₅,R₅⟩:=hJ
  have src:=g2 k σ₅ hk' hI
  have nc₅:=st₅.noCells
  cases hit:i0z[k]? with
 |none=>
   have hkl:k=i0z.length:=by have:=List.getElem?_eq_none_iff.mp hit;exact Nat.le_antisymm ‹_› ‹_›
   refine Hb (φ:=ψ) hh R₅ st₅ src hit fun s₆ R₆=>?_
   exact fin σ₅ β₅ s₆ (by rw [← hkl];exact hI) p₅ R₆
 |some avs=>
   have hkl:k<i0z.length:=(List.getElem?_eq_some_iff.mp hit).1
   have turn:=g3 k σ₅ avs hit hI
   have hlen:=g0 avs (List.mem_of_getElem? hit)
   have body':∀ lg₆ s₆,Yv β₅ it (k+1) w lg₆→Rl ψ κb.xs (lg₆++exb) β₅ (Z3 l₀ is avs) σ₅ s₆ →
     Zb (Zd ψ.G) ψ.A (forIn ifs true fun c r=>if r=true then do let ok ← isTrue c ψ.env (eval c ψ.env);pure (ForInStep.yield ok) else pure (ForInStep.yield r)) (fun ok s₃'=>
      if ok=true then Zb (Zd ψ.G) ψ.A (eval elt ψ.env) (fun x s₄=>
       Zb (Zd ψ.G) ψ.A (PySem.call (.builtin "list.append") [acc,x]) (fun _ s₅=>∃ m',m'<m∧J m' s₅) (notedBy (Zd ψ.G) ψ.A ψ.env fun e s'=>RR (.error e) s') s₄) (notedBy (Zd ψ.G) ψ.A ψ.env fun e s'=>RR (.error e) s') s₃'
      else ∃ m',m'<m∧J m' s₃') (notedBy (Zd ψ.G) ψ.A ψ.env fun e s'=>RR (.error e) s') s₆:=by
    intro lg₆ s₆ st₆ R₆
    have eltGo:∀ (σa:List Za) (βa:List Addr) (sa:Ws) (Ee:Value→Ws→Prop),β₅<+:βa→Rl ψ κb.xs (lg₆++exb) βa (Z3 l₀ is avs) σa sa →
      WE n κb elt (Z3 l₀ is avs) σa (fun v σ''=>∃ ls,σ''[a]?=some (.list ls)∧ls.length<1000000∧I (k+1) (σ''.set a (.list (ls++[v])))) (fun _ _=>False) →
      Zb (Zd ψ.G) ψ.A (eval elt ψ.env) (fun x s₄=>Zb (Zd ψ.G) ψ.A (PySem.call (.builtin "list.append") [acc,x]) (fun _ s₅=>∃ m',m'<m∧J m' s₅) Ee s₄) Ee sa:=by
     intro σa βa sa Ee pa Ra he
     refine he.go (φ:=ψ) hr hf Ra (fun v av σ' β' s' q p R' hv=>?_) (fun c σ' β' e s' x p E=>x.elim)
     obtain ⟨ls,h1,h2,h3⟩:=q
     have hb:X0 .append (.obj a) [av] σ' (fun r σ''=>σ''=σ'.set a (.list (ls++[av]))):=⟨ls,h1,Nat.le_trans (Nat.le_of_lt h2) (by unfold sizeLine;decide),rfl⟩
     refine NA (φ:=ψ) (b:=.append) R' (hacc.mono (p₅.trans (pa.trans p))) (.cons hv .nil) hb (fun v' av' σ'' β'' s'' q p'' R'' _=>?_)
     subst q
     exact ⟨i0z.length-(k+1),by exact qm ‹_› ‹_›,k+1,_,β'',lg₆,rfl,hkl,h3,p₅.trans (pa.trans (p.trans p'')),st₆.mono (pa.trans (p.trans p'')),lenBlk R''⟩
    refine turn.elim (P:=fun z=>Zb (Zd ψ.G) ψ.A (forIn z true _) _ _ s₆) (fun turn=>?_) fun c turn=>?_
    ·exact ZbE (eltGo σ₅ β₅ s₆ _ (List.prefix_refl _) R₆ turn)
    ·refine ZbF ?_
     refine turn.go (φ:=ψ) hr hf R₆ (fun b σ' β' s' q p R'=>?_) (fun c σ' β' e s' x p E=>x.elim)
     cases b with
    |true=>
      rw [if_pos rfl] at q
      exact eltGo σ' β' s' _ p R' q
    |false=>
      rw [if_neg Bool.false_ne_true] at q
      exact ⟨i0z.length-(k+1),by exact qm ‹_› ‹_›,k+1,_,β',lg₆,rfl,hkl,q,p₅.trans p,st₆.mono p,lenBlk R'⟩
   rcases JI ht with ⟨x,px,i,rfl,rfl,ht'⟩|⟨ts,k',px,rfl,ha,hb2⟩
   ·obtain ⟨av,rfl⟩:=List.length_eq_one_iff.mp hlen
    refine HD (φ:=ψ) R₅ st₅ src hit fun v lg₆ s₆ hv st₆ R₆=>?_
    change wpAny _ _ (pure ()) _ _ _
    refine wpAny_pure ?_
    refine wpAny_assign_Name (R₆.store ht'.1 hys (.inl (hloc x ht'.2)) hv fun s₇ R₇=>?_)
    exact body' lg₆ s₇ st₆ R₇
   ·obtain ⟨a,b,rfl⟩:=YA (hlen.trans hb2)
    exact CP (φ:=ψ) hh (Ny hloc hys ha) hb2 R₅ st₅ src hit fun lg₆ s₆ st₆ R₆=>body' lg₆ s₆ st₆ R₆
 exact hS _ _ _ _ _ loop (Qd (φ:=ψ) R st₂ hby loop)
section
variable {φ:Fx}{xs ys:List Str}{ex lg:List (Addr×Obj)}{β:List Addr}{loc:Zc}{σ:List Za}{b0z:List ZH}{cs frn:List (Addr×Obj)}{m:Str→Option Value}{s:Ws}
theorem Zi.callU (R₁:Zi φ xs (lg++ex) β loc σ b0z cs frn m s)(nc:noCells lg)(hc:φ.comp=false):∃ fr,CS φ.G (φ.fenv::φ.oenvs) fr (lg++(cs++ex)) β σ s ∧
  ∀ lg' β' σ' s',CS φ.G (φ.fenv::φ.oenvs) fr (lg'++(cs++ex)) β' σ' s'→β<+:β'→Rl φ xs (lg'++ex) β' loc σ' s':=by
 have R:=R₁.exDrop nc
 obtain ⟨oL,es,ep,hL,hLd,hLk,hLf⟩:=R.F.ns
 have hLn:φ.env.locals∉(b0z.flatten++(cs++((lg++ex)++frn))).map Prod.fst:=fun q=>by
  obtain ⟨p,hp,e⟩:=List.mem_map.mp q
  exact (R₁.N p hp).2.1 e
 obtain ⟨e1,e2⟩:=R.ok.own hc
 have hfrs:=R.ok.frs
 rw [hc] at hfrs
 refine ⟨(φ.env.locals,oL)::φ.outs,⟨b0z,(φ.env.locals,oL)::frn,R.real,⟨by rw [← e1,R.ok.kind];decide,by rw [← e1];exact e2,⟨es,ep,hLd⟩,hfrs⟩,⟨rfl,⟨oL.slots,rfl⟩,R.up⟩,fun p hp=>?_,?_,R.F.keep,Nat.le_of_lt (Nat.lt_of_le_of_lt R.F.above R.F.ns.lt),R.gens,R.os⟩,?_⟩
 ·simp only [List.mem_append,List.mem_cons] at hp
  by_cases q:p=(φ.env.locals,oL)
  ·subst q;exact ⟨hL,WO R.F.above⟩
  ·have:p∈b0z.flatten++(cs++((lg++ex)++frn)):=by simp only [List.mem_append];grind
   exact ⟨(R₁.N p this).1,(R₁.N p this).2.2⟩
 ·have hperm:((b0z.flatten++((lg++(cs++ex))++(φ.env.locals,oL)::frn)).map Prod.fst).Perm (φ.env.locals::(b0z.flatten++(cs++((lg++ex)++frn))).map Prod.fst):=by
   refine List.perm_iff_count.mpr fun a=>?_
   simp only [List.map_append,List.map_cons,List.count_append,List.count_cons];simp +arith
  exact hperm.nodup_iff.mpr (List.nodup_cons.mpr ⟨hLn,R₁.nd⟩)
 ·rintro lg' β' σ' s' ⟨b0z',frn',h1,h2,h3,h4,h5,h6,_,h7,h8⟩ hp
  cases frn' with
 |nil=>exact False.elim h3
 |cons q frn''=>
   obtain ⟨q1,⟨sl,q2⟩,q3⟩:=h3
   obtain ⟨qa,qo⟩:=q
   dsimp only at q1 q2
   subst q1;subst q2
   have hLat:=(h4 (φ.env.locals,{oL with slots:=sl}) (by simp)).1
   have hsub:∀ p∈b0z'.flatten++(cs++((lg'++ex)++frn'')),p∈b0z'.flatten++((lg'++(cs++ex))++(φ.env.locals,{oL with slots:=sl})::frn''):=fun p hp=>by
    simp only [List.mem_append,List.mem_cons] at hp ⊢;grind
   have hperm:((b0z'.flatten++((lg'++(cs++ex))++(φ.env.locals,{oL with slots:=sl})::frn'')).map Prod.fst).Perm (φ.env.locals::(b0z'.flatten++(cs++((lg'++ex)++frn''))).map Prod.fst):=by
    refine List.perm_iff_count.mpr fun a=>?_
    simp only [List.map_append,List.map_cons,List.count_append,List.count_cons];grind
   have hnd:=hperm.nodup_iff.mp h5
   rw [List.nodup_cons] at hnd
   refine ⟨b0z',cs,frn'',m,R.ok,h1,q3,⟨⟨_,es,ep,hLat,hLd,hLk,hLf⟩,h6,R.F.above⟩,fun p hp=>⟨(h4 p (hsub p hp)).1,fun q=>hnd.1 (by rw [← q];exact List.mem_map_of_mem hp),(h4 p (hsub p hp)).2⟩,hnd.2,R.cells,fun i x av a b=>?_,h7,h8⟩
   obtain ⟨v,z1,z2⟩:=R.loc i x av a b
   refine ⟨v,z1.mono hp,z2.sub fun c o k3 k4=>?_⟩
   simp only [List.mem_append] at k3 ⊢;grind
theorem Rl.leaveC {scope:Scope}{C:Addr}{fr:List (Addr×Obj)}(H:Rl (φ.block scope C fr) ys ex β loc σ s) :
  ∃ oC,(∃ es ep,oC.data=.dict es ep)∧(∀ h:Heap,h.get? C=some oC→∃ m,h.Ns C m)∧CS φ.G (φ.fenv::φ.oenvs) fr ((C,oC)::ex) β σ s:=by
 obtain ⟨b0z,cs,frn,m,R⟩:=H
 have hcs:cs=[]:=by
  have:=R.cells.1
  exact List.map_eq_nil_iff.mp this
 subst hcs
 obtain ⟨oL,es,ep,hL,hLd,hLk,hLf⟩:=R.F.ns
 have hCn:C∉(b0z.flatten++([]++(ex++frn))).map Prod.fst:=fun q=>by
  obtain ⟨p,hp,e⟩:=List.mem_map.mp q
  exact (R.N p hp).2.1 e
 refine ⟨oL,⟨es,ep,hLd⟩,fun h e=>⟨m,oL,es,ep,e,hLd,hLk,hLf⟩,b0z,frn,R.real,R.ok.frs,R.up,fun p hp=>?_,?_,R.F.keep,Nat.le_of_lt (Nat.lt_of_le_of_lt R.F.above R.F.ns.lt),R.gens,R.os⟩
 ·by_cases q:p=(C,oL)
  ·subst q;exact ⟨hL,WO R.F.above⟩
  ·have:p∈b0z.flatten++([]++(ex++frn)):=by simp only [List.mem_append,List.mem_cons,List.cons_append,List.nil_append] at hp ⊢;grind
   exact ⟨(R.N p this).1,(R.N p this).2.2⟩
 ·have hperm:((b0z.flatten++(((C,oL)::ex)++frn)).map Prod.fst).Perm (C::(b0z.flatten++([]++(ex++frn))).map Prod.fst):=by
   refine List.perm_iff_count.mpr fun a=>?_
   simp only [List.map_append,List.map_cons,List.map_nil,List.count_append,List.count_cons,List.count_nil,List.cons_append];lia
  exact hperm.nodup_iff.mpr (List.nodup_cons.mpr ⟨hCn,R.nd⟩)
theorem Rl.dropC {C:Addr}{oC:Obj}(R:Rl φ xs ((C,oC)::ex) β loc σ s)(hd:∃ es ep,oC.data=.dict es ep){h':Heap}(hs:Heap.SameBut C s.heap h'):Rl φ xs ex β loc σ {s with heap:=h'}:=by
 have nc:noCells [(C,oC)]:=by
  intro p hp v hv
  obtain ⟨es,ep,e⟩:=hd
  simp at hp;subst hp;rw [e] at hv;cases hv
 obtain ⟨b0z,cs,frn,m,R⟩:=R
 have R0:=Zi.exDrop (lg:=[(C,oC)]) R nc
 have hnd:=(List.nodup_append.mp ((Vk [(C,oC)] b0z cs ex frn).nodup_iff.mp R.nd))
 have hNC:=R.N (C,oC) (by simp)
 refine ⟨b0z,cs,frn,m,R0.ok,R0.real,R0.up,?_,fun z hz=>⟨(hs.2 _ (fun e=>hnd.2.2 C (by simp) z.1 (List.mem_map_of_mem hz) e.symm)).trans (R0.N z hz).1,(R0.N z hz).2⟩,R0.nd,R0.cells,R0.loc,R0.gens,R0.os⟩
 obtain ⟨o,es,ep,ho,r⟩:=R0.F.ns
 exact ⟨⟨o,es,ep,(hs.2 _ (Ne.symm hNC.2.1)).trans ho,r⟩,fun b o e=>(hs.2 b (fun e'=>by rw [e',hNC.2.2] at e;cases e)).trans (R0.F.keep b o e),R0.F.above⟩
inductive MD (φ:Fx)(κ:Cx)(ys:List Str)(lg ex:List (Addr×Obj))(β:List Addr)(loc:Zc)(σ:List Za)(scope:Scope)(s:Ws)(h₁:Heap)(tk:Nat):Prop
|mk (fr exb:List (Addr×Obj)) (f:ZP ⟨ys,Yi scope.names⟩ (φ.block scope s.heap.objs.size fr)) (R:Rl (φ.block scope s.heap.objs.size fr) ys (lg++exb) β (Xs κ scope.names ys loc) σ {s with heap:=h₁,toks:=tk})
   (k1:∀ β' σ' l s',Rl (φ.block scope s.heap.objs.size fr) ys exb β' l σ' s'→β<+:β'→∃ m,s'.heap.Ns s.heap.objs.size m∧∀ h',Heap.SameBut s.heap.objs.size s'.heap h'→Rl φ κ.xs ex β' loc σ' {s' with heap:=h'})
   (k2:φ.comp=false→∀ β' σ' l s',Rl (φ.block scope s.heap.objs.size fr) ys exb β' l σ' s'→β<+:β'→∃ oC,(∃ es ep,oC.data=.dict es ep)∧(∀ h:Heap,h.get? s.heap.objs.size=some oC→∃ m,h.Ns s.heap.objs.size m)∧Rl φ κ.xs ((s.heap.objs.size,oC)::ex) β' loc σ' s'):MD φ κ ys lg ex β loc σ scope s h₁ tk
theorem Rl.enterB {κ:Cx}{scope:Scope}{h₁:Heap}{tk:Nat}(hk:scope.kind=.function)(hb:We κ.sc scope.names=true)(hnd:(scope.names.map Prod.fst).Nodup)(hf:ZP κ φ)(nc:noCells lg)
  (R:Rl φ κ.xs (lg++ex) β loc σ s) (hns:h₁.Ns s.heap.objs.size fun y=>([]:List (Str×Value)).reverse.lookup y) (hkeep:∀ b o,s.heap.get? b=some o→h₁.get? b=some o):MD φ κ ys lg ex β loc σ scope s h₁ tk:=by
 obtain ⟨b0z,cs,frn,m,R⟩:=R
 have ok:=R.ok
 have hb':We φ.env.scope.names scope.names=true:=by rw [show φ.env.scope.names=κ.sc from hf];exact hb
 have R':=R.exDrop nc
 have key:∀ fr pre,CS φ.G (φ.fenv::φ.oenvs) fr (lg++(pre++(cs++ex))) β σ s→ZP ⟨ys,Yi scope.names⟩ (φ.block scope s.heap.objs.size fr)∧Rl (φ.block scope s.heap.objs.size fr) ys (lg++(pre++(cs++ex))) β (Xs κ scope.names ys loc) σ {s with heap:=h₁,toks:=tk}:=by
  intro fr pre C
  have hfr:Frs (φ.fenv::φ.oenvs) fr:=by obtain ⟨_,_,_,c2,_⟩:=C;exact c2
  have okb:(φ.block scope s.heap.objs.size fr).Ok:=Fx.block_ok ok hk hb' hnd hfr
  refine ⟨N4 hf ok hb,CS.enter C (WO (Nat.le_refl _)) (Nat.le_refl _) hkeep hns okb fun i x av e1 e2=>?_⟩
  obtain ⟨v,hv,hva⟩:=Sa (C:=s.heap.objs.size) (fr:=fr) (pre:=pre) (m':=fun y=>([]:List (Str×Value)).reverse.lookup y) R' hf hb hnd i x av e1 e2
  exact ⟨v,hv,hva.imp id fun ⟨k1,c,o,k2,k3,k4⟩=>⟨k1,c,o,k2,List.mem_append_right _ k3,k4⟩⟩
 cases hc:φ.comp with
|true=>
  obtain ⟨fr,pre,C,bk,_⟩:=R.callL nc
  obtain ⟨k1,k2⟩:=key fr pre C
  refine ⟨fr,_,k1,k2,fun β' σ' l s' Rb p=>?_,fun h=>(by rw [hc] at h;cases h)⟩
  obtain ⟨m',f1,f2⟩:=Rb.leaveBut
  exact ⟨m',f1,fun h' hs'=>bk β' σ' _ (f2 h' hs') p⟩
|false=>
  obtain ⟨fr,C,bk⟩:=R.callU nc hc
  obtain ⟨k1,k2⟩:=key fr [] C
  refine ⟨fr,_,k1,k2,fun β' σ' l s' Rb p=>?_,fun _ β' σ' l s' Rb p=>?_⟩
  ·obtain ⟨m',f1,f2⟩:=Rb.leaveBut
   exact ⟨m',f1,fun h' hs'=>bk [] β' σ' _ (f2 h' hs') p⟩
  ·obtain ⟨oC,o1,o2,C'⟩:=Rb.leaveC
   exact ⟨oC,o1,o2,bk [(s.heap.objs.size,oC)] β' σ' _ C' p⟩
end
section
variable {prog:Program}{w:World}{A:Around}{R:Result→Ws→Prop}{s:Ws}
theorem JW {elt target iter:Expr}{ifs:List Expr}{rest:List Comprehension}{scope:Scope}{pos:Pos}{it acc:Value}{env:Env}
  (h0:Zv (model prog w) A (.compLoop (.ListComp elt (⟨target,iter,ifs,0⟩::rest) scope pos) 0 it acc env) R s)
  (h:wpAny (model prog w) A (pyIter it) (fun it' s'=>Zv (model prog w) A (.compLoop (.ListComp elt (⟨target,iter,ifs,0⟩::rest) scope pos) 0 it' acc env) R s') (notedBy (model prog w) A env fun x s'=>R (.error x) s') s) :
  Zv (model prog w) A (.compStart (.ListComp elt (⟨target,iter,ifs,0⟩::rest) scope pos) 0 it acc env) R s:=
 NO (target:=target) (iter:=iter) (ifs:=ifs) rfl rfl rfl (fun _=>rfl) rfl rfl h0 h
end
section
variable {n:Nat}{κ:Cx}{loc:Zc}{σ:List Za}
theorem Hl {φ:Fx}{ys:List Str}{scope:Scope}{C:Addr}{fr:List (Addr×Obj)}(hfb:ZP ⟨ys,Yi scope.names⟩ (φ.block scope C fr)):∀ x,scope.names.lookup x=some .local→(φ.block scope C fr).env.kindOf x=some .local:=fun x hx=>by
 show (φ.block scope C fr).env.scope.names.lookup x=_
 rw [show (φ.block scope C fr).env.scope.names=Yi scope.names from hfb,Hv,hx];rfl
theorem WE.comp {Q:Zq}{X:Zx}{t iter elt:Expr}{ifs:List Expr}{scope:Scope}{pos:Pos}{ys:List Str}{is:List Nat}(hn:n≠0)(hk:scope.kind=.function)(hb:We κ.sc scope.names=true)(hnd:(scope.names.map Prod.fst).Nodup)(hys:ys.Nodup)
  (ht:Xr scope.names ys t is=true) (hs:XO iter=false)
  (h:WI n κ iter loc σ (fun it σ₁=>Go n κ scope ys is ifs elt loc it σ₁ Q) X):WE n κ (.ListComp elt [⟨t,iter,ifs,0⟩] scope pos) loc σ Q X:=by
 intro φ ex β s Qc Ec hr hf R kQ kX
 have hh:=hr.1 hn
 have ok:φ.Ok:=by obtain ⟨_,_,_,_,R⟩:=R;exact R.ok
 have hclos:closureFor scope φ.env=pure (YB φ.env scope.names []):=JU φ.env scope fun x hx=>ok.clo x (by
  have:=List.all_eq_true.mp hb _ hx
  rw [hf.kind x];simpa using this)
 have hnames:∀ y∈scope.names,y.2=.local→scope.names.lookup y.1=some .local:=fun y hy hl=>by rw [← hl];exact Vq hnd hy
 have hnocell:∀ y∈scope.names,y.2≠.cell:=fun y hy e=>by have:=List.all_eq_true.mp hb _ hy;simp [e] at this
 rw [eval_ListComp]
 refine Hf (use:=none) rfl (UD hs φ.env) hclos hk hnames ?_
 refine h.go hr hf R (fun w it lg σ₁ β₁ s₁ q₁ p₁ st R₁=>?_) kX
 obtain ⟨hby,i0z,I,g0,g1,g2,g3,g4⟩:=q₁
 refine GN (Q:=fun av σ'=>av=.obj σ₁.length∧σ'=σ₁++[.list []]) R₁ .nil (Nat.zero_le _) ⟨rfl,rfl⟩ (fun acc av σ₂ β₂ s₃ q p₂ R₃ hacc=>?_)
 obtain ⟨rfl,rfl⟩:=q
 refine wpAny_newFunctionEnv hnocell (by intro y hy;cases hy) (fun h₁ hns hsb=>?_) hk
 have st₂:=st.mono p₂
 obtain ⟨fr,exb,hfb,Rb,bk,_⟩:=R₃.enterB (ys:=ys) (h₁:=h₁) (tk:=s₃.toks+([]:List (Str×Value)).length) hk hb hnd hf st₂.noCells hns fun b o e=>hsb.extBut b o (Nat.ne_of_lt (Heap.lt_size e)) (Heap.get?_push_of_some _ e)
 refine JJ (ψ:=φ.block scope s₃.heap.objs.size fr) (κb:=⟨ys,Yi scope.names⟩) Bz (fun _ _ _=>rfl) (fun _ _ _=>rfl) (fun _ _ _=>rfl) (fun _ _ _ _ _ a b=>JW a b) hh hr hfb (Hl hfb) hys ht (fun avs i av=>Nz ht avs i av) g0 g2 g3 hacc hby Rb st₂ g1 (fun σ' β' s' hI p R'=>?_)
 obtain ⟨m',f1,f2⟩:=bk β' σ' _ s' R' p
 exact ⟨m',f1,fun h' hs'=>kQ acc (.obj σ₁.length) σ' β' _ (g4 σ' hI) (p₁.trans (p₂.trans p)) (f2 h' hs') (hacc.mono p)⟩
noncomputable def Up (sc:List (Str×NameKind))(x:Str)(np cp:Pos)(names:List (Str×NameKind)):Bool:=
 (sc.lookup x==some .local)&&(np.line==cp.line)&&!(names.any fun p=>p.1==x&&(p.2==.local||p.2==.cell))
theorem Qm {env:Env}{sc:List (Str×NameKind)}(hs:env.scope.names=sc)(hb:env.blockKind=.function){x:Str}{np cp:Pos}{names:List (Str×NameKind)}(h:Up sc x np cp names=true){elt:Expr}{gs:List Comprehension}{scope:Scope}(hsc:scope.names=names)(l:Nat) :
  swapsWith (.ListComp elt gs scope cp) (some (.Name x np)) l env=pure true:=by
 subst hsc
 simp only [Up,Bool.and_eq_true,Bool.not_eq_true',beq_iff_eq] at h
 obtain ⟨⟨h1,h2⟩,h3⟩:=h
 show (pure (env.blockKind==.function&&env.kindOf x==some .local&&np.line==cp.line&&!(scope.names.any fun (n,k)=>n==x&&(k==.local||k==.cell))):Sem Bool)=_
 rw [hb,show env.kindOf x=some .local from by show env.scope.names.lookup x=_;rw [hs];exact h1,h2]
 have h3':(scope.names.any fun (n,k)=>n==x&&(k==.local||k==.cell))=false:=h3
 rw [h3']
 simp
theorem WS.assignComp {Q:SQ}{X:SX}{t iter elt:Expr}{ifs:List Expr}{scope:Scope}{pos np cpos:Pos}{ys:List Str}{is:List Nat}{x:Str}{i:Nat}(hn:n≠0)(hk:scope.kind=.function)(hb:We κ.sc scope.names=true)(hnd:(scope.names.map Prod.fst).Nodup)(hys:ys.Nodup)
  (hw:Up κ.sc x np cpos scope.names=true) (hi:Y8 κ i x=true) (hxs:κ.xs.Nodup)
  (ht:Xr scope.names ys t is=true) (hs:XO iter=false)
  (h:WI n κ iter loc σ (fun it σ₁=>Go n κ scope ys is ifs elt loc it σ₁ (fun v σ₂=>Q .next (ZZ loc i v) σ₂)) (fun c σ'=>X c loc σ')):WS n κ (.Assign [.Name x np] (.ListComp elt [⟨t,iter,ifs,0⟩] scope cpos) pos) loc σ Q X:=by
 intro φ ex β s Qc Ec hr hf hc R kQ kX
 have hh:=hr.1 hn
 have ok:φ.Ok:=by obtain ⟨_,_,_,_,R⟩:=R;exact R.ok
 have hclos:closureFor scope φ.env=pure (YB φ.env scope.names []):=JU φ.env scope fun x hx=>ok.clo x (by
  have:=List.all_eq_true.mp hb _ hx
  rw [hf.kind x];simpa using this)
 have hnames:∀ y∈scope.names,y.2=.local→scope.names.lookup y.1=some .local:=fun y hy hl=>by rw [← hl];exact Vq hnd hy
 have hnocell:∀ y∈scope.names,y.2≠.cell:=fun y hy e=>by have:=List.all_eq_true.mp hb _ hy;simp [e] at this
 rw [exec_Assign_Name_used _ _ _ _ (Qm hf R.block hw rfl _)]
 refine .stand (.bind ?_)
 change Zb _ φ.A (do let _ ← comprehension (.ListComp elt [⟨t,iter,ifs,0⟩] scope cpos) scope φ.env _ (newList []) false (eval iter φ.env) (some (PySem.assign (.Name x np) φ.env))) _ _ s
 refine .bind (.mono (Hf (use:=some (PySem.assign (.Name x np) φ.env)) (Q:=fun _ s'=>Qc .next s') (E:=Ec) rfl (UD hs φ.env) hclos hk hnames ?_) (fun _ s' hq=>Zb.pure (Zb.pure hq)) fun _ _ e=>e)
 refine h.go hr hf R (fun w it lg σ₁ β₁ s₁ q₁ p₁ st R₁=>?_) (fun c σ' β' e s' x p E=>kX c loc σ' β' e s' x p E)
 obtain ⟨hby,i0z,I,g0,g1,g2,g3,g4⟩:=q₁
 refine GN (Q:=fun av σ'=>av=.obj σ₁.length∧σ'=σ₁++[.list []]) R₁ .nil (Nat.zero_le _) ⟨rfl,rfl⟩ (fun acc av σ₂ β₂ s₃ q p₂ R₃ hacc=>?_)
 obtain ⟨rfl,rfl⟩:=q
 refine wpAny_newFunctionEnv hnocell (by intro y hy;cases hy) (fun h₁ hns hsb=>?_) hk
 have st₂:=st.mono p₂
 obtain ⟨fr,exb,hfb,Rb,_,bk⟩:=R₃.enterB (ys:=ys) (h₁:=h₁) (tk:=s₃.toks+([]:List (Str×Value)).length) hk hb hnd hf st₂.noCells hns fun b o e=>hsb.extBut b o (Nat.ne_of_lt (Heap.lt_size e)) (Heap.get?_push_of_some _ e)
 refine JJ (ψ:=φ.block scope s₃.heap.objs.size fr) (κb:=⟨ys,Yi scope.names⟩) Bz (fun _ _ _=>rfl) (fun _ _ _=>rfl) (fun _ _ _=>rfl) (fun _ _ _ _ _ a b=>JW a b) hh hr hfb (Hl hfb) hys ht (fun avs i av=>Nz ht avs i av) g0 g2 g3 hacc hby Rb st₂ g1 (fun σ' β' s' hI p R'=>?_)
 obtain ⟨oC,o1,o2,R''⟩:=bk hc β' σ' _ s' R' p
 obtain ⟨hx,hkk⟩:=VQ hi hf hc
 show wpAny _ φ.A (PySem.assign (.Name x np) φ.env acc) _ _ _
 refine wpAny_assign_Name (R''.store hx hxs hkk (hacc.mono p) fun s₄ R₄=>?_)
 obtain ⟨m',f1⟩:=o2 s₄.heap (by obtain ⟨_,_,_,_,R₄⟩:=R₄;exact (R₄.N (s₃.heap.objs.size,oC) (by simp)).1)
 exact ⟨m',f1,fun h' hs'=>kQ .next .next (ZZ loc i (.obj σ₁.length)) σ' β' _ (g4 σ' hI) (p₁.trans (p₂.trans p)) (R₄.dropC o1 hs') trivial⟩
end
noncomputable abbrev Xd (elt:Expr)(x0:Str)(p0:Pos)(iter0:Expr)(x1:Str)(p1:Pos)(iter1:Expr)(scope:Scope)(pos:Pos):Expr:=.ListComp elt [⟨.Name x0 p0,iter0,[],0⟩,⟨.Name x1 p1,iter1,[],0⟩] scope pos
theorem Zac {elt iter0 iter1:Expr}{x0 x1:Str}{p0 p1 pos:Pos}{scope:Scope}(it acc:Value)(env:Env):compTurn (Xd elt x0 p0 iter0 x1 p1 iter1 scope pos) 0 it acc env=(do
   standAt iter0.pos
   match ← pyNext it with
  |none=>pure (.done .next)
  |some v=>
    assign (.Name x0 p0) env v
    let x ← eval iter1 env
    standAt iter1.pos
    let x ← foldedSetIterable iter1 env x
    let _ ← runOwn (.compStart (Xd elt x0 p0 iter0 x1 p1 iter1 scope pos) 1 (← holding [x] (pyIter x)) acc env) env
    again (.compLoop (Xd elt x0 p0 iter0 x1 p1 iter1 scope pos) 0 it acc env)):=rfl
section
variable {prog:Program}{w:World}{A:Around}{E:Value→Ws→Prop}{R:Result→Ws→Prop}{s:Ws}
theorem Sr {elt iter0 iter1:Expr}{x0 x1:Str}{p0 p1 pos:Pos}{scope:Scope}{it acc:Value}{env:Env}(hs:∀ x,foldedSetIterable iter1 env x=pure x)(I:Nat→Ws→Prop)
  (turn:∀ n s,I n s→wpAny (model prog w) A (pyNext it) (fun r s₁=>match r with
  |none=>R (.ok .next) s₁
  |some v=>wpAny (model prog w) A (assign (.Name x0 p0) env v) (fun _ s₂=>Zb (model prog w) A (eval iter1 env) (fun x s₃=>wpAny (model prog w) A (pyIter x) (fun it1 s₄=>
     Zv (model prog w) A (.compStart (Xd elt x0 p0 iter0 x1 p1 iter1 scope pos) 1 it1 acc env) (fun r s'=>match r with|.ok f=>∃ m,m<n∧I m s'|.error e=>cameBackBy (model prog w) A env (notedBy (model prog w) A env fun e s'=>R (.error e) s') e s') s₄)
      (notedBy (model prog w) A env fun e s'=>R (.error e) s') s₃) (notedBy (model prog w) A env fun e s'=>R (.error e) s') s₂) (notedBy (model prog w) A env fun e s'=>R (.error e) s') s₁) (notedBy (model prog w) A env fun e s'=>R (.error e) s') s)
  (n:Nat) (h:I n s):Zv (model prog w) A (.compLoop (Xd elt x0 p0 iter0 x1 p1 iter1 scope pos) 0 it acc env) R s:=by
 refine .loop rfl rfl I (fun n s hI=>?_) n h
 show Zb _ A ((compTurn (Xd elt x0 p0 iter0 x1 p1 iter1 scope pos) 0 it acc env).onRaise (fun x=>do noteFrame x env;theTreesLotGoes x)) _ _ s
 refine VN ?_
 rw [Zac]
 refine .stand (.step (wpAny_mono (turn n s hI) (fun r s₁ h₁=>?_) fun _ _ h'=>h'))
 cases r with
|none=>exact .pure h₁
|some v=>
  refine .step (wpAny_mono h₁ (fun _ s₂ h₂=>.bind (.mono h₂ (fun x s₃ h₃=>.stand ?_) fun _ _ h'=>h')) fun _ _ h'=>h')
  rw [hs]
  refine .step (wpAny_pure (.step (wpAny_holding (wpAny_mono h₃ (fun it1 s₄ h₄=>?_) fun _ _ h'=>h'))))
  refine .bind (UG (h:=none) ?_ (by intro x;cases x))
  refine h₄.mono fun r s' hr=>?_
  cases r with
 |ok f=>exact .pure (.inl ⟨rfl,hr⟩)
 |error e=>exact hr
theorem Ss {elt iter0 iter1:Expr}{x0 x1:Str}{p0 p1 pos:Pos}{scope:Scope}{it acc:Value}{env:Env}
  (h0:Zv (model prog w) A (.compLoop (Xd elt x0 p0 iter0 x1 p1 iter1 scope pos) 1 it acc env) R s)
  (h:wpAny (model prog w) A (pyIter it) (fun it' s'=>Zv (model prog w) A (.compLoop (Xd elt x0 p0 iter0 x1 p1 iter1 scope pos) 1 it' acc env) R s') (notedBy (model prog w) A env fun x s'=>R (.error x) s') s) :
  Zv (model prog w) A (.compStart (Xd elt x0 p0 iter0 x1 p1 iter1 scope pos) 1 it acc env) R s:=
 NO (target:=.Name x1 p1) (iter:=iter1) (ifs:=[]) rfl rfl rfl (fun _=>rfl) rfl rfl h0 h
end
section
variable {n:Nat}{κ:Cx}{loc:Zc}{σ:List Za}
noncomputable def Sp (n:Nat)(κ:Cx)(scope:Scope)(ys:List Str)(i0 i1:Nat)(iter1 elt:Expr)(loc:Zc)(it:Yb)(σ:List Za)(Q:Zq):Prop:=
 YZ it=true∧∃ (i0z:List (List AV)) (I:Nat→List Za→Prop),(∀ avs∈i0z,avs.length=1)∧I 0 (σ++[.list []])∧(∀ k σ',k≤i0z.length→I k σ'→Z0 it σ' i0z) ∧
  (∀ k σ' av,i0z[k]?=some [av]→I k σ'→WI n ⟨ys,Yi scope.names⟩ iter1 (ZZ (Xs κ scope.names ys loc) i0 av) σ' (fun it1 σ₁=>YZ it1=true∧∃ (items1:List (List AV)) (I1:Nat→List Za→Prop),(∀ avs∈items1,avs.length=1)∧I1 0 σ₁ ∧
   (∀ j σ',j≤items1.length→I1 j σ'→Z0 it1 σ' items1) ∧
   (∀ j σ₂ bvs,items1[j]?=some bvs→I1 j σ₂→WE n ⟨ys,Yi scope.names⟩ elt (Z3 (ZZ (Xs κ scope.names ys loc) i0 av) [i1] bvs) σ₂ (fun v σ₃=>∃ ls,σ₃[σ.length]?=some (.list ls)∧ls.length<1000000∧I1 (j+1) (σ₃.set σ.length (.list (ls++[v])))) (fun _ _=>False)) ∧
   ∀ σ₂,I1 items1.length σ₂→I (k+1) σ₂) (fun _ _=>False)) ∧
  ∀ σ',I i0z.length σ'→Q (.obj σ.length) σ'
theorem RW {ψ:Fx}{κb:Cx}{iter0 iter1 elt:Expr}{scope:Scope}{x0 x1:Str}{p0 p1 pos:Pos}{i0 i1:Nat}{names:List (Str×NameKind)}{l₀:Zc}{i0z:List (List AV)}{I:Nat→List Za→Prop}{a:Nat}{acc w:Value}{it:Yb}
  {lg exb:List (Addr×Obj)} {β₂:List Addr} {σ₂:List Za} {s:Ws} {RR:Result→Ws→Prop}
  (hh:ψ.A.handled=none) (hr:ZG n ψ.A) (hf:ZP κb ψ) (hloc:∀ x,names.lookup x=some .local→ψ.env.kindOf x=some .local) (hys:κb.xs.Nodup)
  (ht0:Xr names κb.xs (.Name x0 p0) [i0]=true) (ht1:Xr names κb.xs (.Name x1 p1) [i1]=true) (h01:i0≠i1) (hs1:XO iter1=false)
  (hl0:∀ av,l₀[i0]?≠some (some av)) (hl1:∀ av,l₀[i1]?≠some (some av))
  (g0:∀ avs∈i0z,avs.length=1) (g2:∀ k σ',k≤i0z.length→I k σ'→Z0 it σ' i0z)
  (g3:∀ k σ' av,i0z[k]?=some [av]→I k σ'→WI n κb iter1 (ZZ l₀ i0 av) σ' (fun it1 σ₁=>YZ it1=true∧∃ (items1:List (List AV)) (I1:Nat→List Za→Prop),(∀ avs∈items1,avs.length=1)∧I1 0 σ₁ ∧
   (∀ j σ',j≤items1.length→I1 j σ'→Z0 it1 σ' items1) ∧
   (∀ j σ₂ bvs,items1[j]?=some bvs→I1 j σ₂→WE n κb elt (Z3 (ZZ l₀ i0 av) [i1] bvs) σ₂ (fun v σ₃=>∃ ls,σ₃[a]?=some (.list ls)∧ls.length<1000000∧I1 (j+1) (σ₃.set a (.list (ls++[v])))) (fun _ _=>False)) ∧
   ∀ σ₂,I1 items1.length σ₂→I (k+1) σ₂) (fun _ _=>False))
  (hacc:VR β₂ acc (.obj a)) (hby:YZ it=true) (R:Rl ψ κb.xs (lg++exb) β₂ l₀ σ₂ s) (st₂:Yv β₂ it 0 w lg) (h0:I 0 σ₂)
  (fin:∀ σ' β' s',I i0z.length σ'→β₂<+:β'→Rl ψ κb.xs exb β' l₀ σ' s'→RR (.ok .next) s') :
  Zv (Zd ψ.G) ψ.A (.compStart (Xd elt x0 p0 iter0 x1 p1 iter1 scope pos) 0 w acc ψ.env) RR s:=by
 have ht0':=Gg ht0
 have ht1':=Gg ht1
 let J:Nat→Ws→Prop:=Js ψ κb.xs exb β₂ it w i0z.length l₀ I
 have loop:Zv (Zd ψ.G) ψ.A (.compLoop (Xd elt x0 p0 iter0 x1 p1 iter1 scope pos) 0 w acc ψ.env) RR s:=by
  refine Sr (UD hs1 ψ.env) J (fun m s₅ hJ=>?_) (i0z.length-0) ⟨0,_,β₂,lg,rfl,Nat.zero_le _,h0,List.prefix_refl _,st₂,R⟩
  obtain ⟨k,σ₅,β₅,lg₅,hm,hk',hI,p₅,st₅,R₅⟩:=hJ
  have src:=g2 k σ₅ hk' hI
  have nc₅:=st₅.noCells
  cases hit:i0z[k]? with
 |none=>
   have hkl:k=i0z.length:=by have:=List.getElem?_eq_none_iff.mp hit;exact Nat.le_antisymm ‹_› ‹_›
   refine Hb (φ:=ψ) hh R₅ st₅ src hit fun s₆ R₆=>?_
   exact fin σ₅ β₅ s₆ (by rw [← hkl];exact hI) p₅ R₆
 |some avs=>
   have hkl:k<i0z.length:=(List.getElem?_eq_some_iff.mp hit).1
   have hlen:=g0 avs (List.mem_of_getElem? hit)
   obtain ⟨av,rfl⟩:=List.length_eq_one_iff.mp hlen
   have turn:=g3 k σ₅ av hit hI
   refine HD (φ:=ψ) R₅ st₅ src hit fun v lg₆ s₆ hv st₆ R₆=>?_
   refine wpAny_assign_Name (R₆.store ht0'.1 hys (.inl (hloc x0 ht0'.2)) hv fun s₇ R₇=>?_)
   refine turn.go (φ:=ψ) hr hf R₇ (fun w1 it1 lg1 σ₇ β₇ s₈ q₁ p₇ st₁ R₈=>?_) (fun c σ' β' e s' x p E=>x.elim)
   obtain ⟨hby1,items1,I1,k0,k1,k2,k3,k4⟩:=q₁
   have less:∀ (bvs:List AV) (i:Nat) (bv:AV),(ZZ l₀ i0 av)[i]?=some (some bv)→(Z3 (ZZ l₀ i0 av) [i1] bvs)[i]?=some (some bv):=fun bvs i bv h=>by
    refine Hy [i1] _ bvs i bv (fun hm=>?_) h
    rw [List.mem_singleton] at hm
    subst hm
    exact hl1 bv (Hx (Ne.symm h01) h)
   have less0:∀ (i:Nat) (bv:AV),l₀[i]?=some (some bv)→(ZZ l₀ i0 av)[i]?=some (some bv):=fun i bv h=>
    Hy [i0] l₀ [av] i bv (fun hm=>hl0 bv (by rw [List.mem_singleton] at hm;rw [← hm];exact h)) h
   refine JJ (ψ:=ψ) (κb:=κb) (t:=.Name x1 p1) (ifs:=[]) (is:=[i1]) (l₀:=ZZ l₀ i0 av) (names:=names) (exb:=lg₆++exb) Zcf (fun _ _ _=>rfl) (fun _ _ _=>rfl) (fun _ _ _=>rfl) (fun _ _ _ _ _ a b=>Ss a b) hh hr hf hloc hys ht1 less k0 k2 k3 (hacc.mono (p₅.trans p₇)) hby1 R₈ st₁ k1 (fun σ' β' s' hI1 p R'=>?_)
   exact ⟨i0z.length-(k+1),by exact qm ‹_› ‹_›,k+1,σ',β',lg₆,rfl,hkl,k4 σ' hI1,p₅.trans (p₇.trans p),st₆.mono (p₇.trans p),R'.less less0⟩
 exact JW loop (Qd (φ:=ψ) R st₂ hby loop)
theorem WS.assignComp2 {Q:SQ}{X:SX}{iter0 iter1 elt:Expr}{scope:Scope}{x0 x1:Str}{p0 p1 pos np cpos:Pos}{ys:List Str}{i0 i1:Nat}{x:Str}{i:Nat}(hn:n≠0)(hk:scope.kind=.function)(hb:We κ.sc scope.names=true)(hnd:(scope.names.map Prod.fst).Nodup)(hys:ys.Nodup)
  (hw:Up κ.sc x np cpos scope.names=true) (hi:Y8 κ i x=true) (hxs:κ.xs.Nodup)
  (ht0:Xr scope.names ys (.Name x0 p0) [i0]=true) (ht1:Xr scope.names ys (.Name x1 p1) [i1]=true) (h01:i0≠i1) (hs:XO iter0=false) (hs1:XO iter1=false)
  (h:WI n κ iter0 loc σ (fun it σ₁=>Sp n κ scope ys i0 i1 iter1 elt loc it σ₁ (fun v σ₂=>Q .next (ZZ loc i v) σ₂)) (fun c σ'=>X c loc σ')):WS n κ (.Assign [.Name x np] (Xd elt x0 p0 iter0 x1 p1 iter1 scope cpos) pos) loc σ Q X:=by
 intro φ ex β s Qc Ec hr hf hc R kQ kX
 have hh:=hr.1 hn
 have ok:φ.Ok:=by obtain ⟨_,_,_,_,R⟩:=R;exact R.ok
 have hclos:closureFor scope φ.env=pure (YB φ.env scope.names []):=JU φ.env scope fun x hx=>ok.clo x (by
  have:=List.all_eq_true.mp hb _ hx
  rw [hf.kind x];simpa using this)
 have hnames:∀ y∈scope.names,y.2=.local→scope.names.lookup y.1=some .local:=fun y hy hl=>by rw [← hl];exact Vq hnd hy
 have hnocell:∀ y∈scope.names,y.2≠.cell:=fun y hy e=>by have:=List.all_eq_true.mp hb _ hy;simp [e] at this
 rw [exec_Assign_Name_used _ _ _ _ (Qm hf R.block hw rfl _)]
 refine .stand (.bind ?_)
 change Zb _ φ.A (do let _ ← comprehension (Xd elt x0 p0 iter0 x1 p1 iter1 scope cpos) scope φ.env _ (newList []) false (eval iter0 φ.env) (some (PySem.assign (.Name x np) φ.env))) _ _ s
 refine .bind (.mono (Hf (use:=some (PySem.assign (.Name x np) φ.env)) (Q:=fun _ s'=>Qc .next s') (E:=Ec) rfl (UD hs φ.env) hclos hk hnames ?_) (fun _ s' hq=>Zb.pure (Zb.pure hq)) fun _ _ e=>e)
 refine h.go hr hf R (fun w it lg σ₁ β₁ s₁ q₁ p₁ st R₁=>?_) (fun c σ' β' e s' x p E=>kX c loc σ' β' e s' x p E)
 obtain ⟨hby,i0z,I,g0,g1,g2,g3,g4⟩:=q₁
 refine GN (Q:=fun av σ'=>av=.obj σ₁.length∧σ'=σ₁++[.list []]) R₁ .nil (Nat.zero_le _) ⟨rfl,rfl⟩ (fun acc av σ₂ β₂ s₃ q p₂ R₃ hacc=>?_)
 obtain ⟨rfl,rfl⟩:=q
 refine wpAny_newFunctionEnv hnocell (by intro y hy;cases hy) (fun h₁ hns hsb=>?_) hk
 have st₂:=st.mono p₂
 obtain ⟨fr,exb,hfb,Rb,_,bk⟩:=R₃.enterB (ys:=ys) (h₁:=h₁) (tk:=s₃.toks+([]:List (Str×Value)).length) hk hb hnd hf st₂.noCells hns fun b o e=>hsb.extBut b o (Nat.ne_of_lt (Heap.lt_size e)) (Heap.get?_push_of_some _ e)
 have fin:∀ σ' β' s',I i0z.length σ'→β₂<+:β'→Rl (φ.block scope s₃.heap.objs.size fr) ys exb β' (Xs κ scope.names ys loc) σ' s'→compPost (Zd φ.G) φ.A Ec (some (PySem.assign (.Name x np) φ.env)) (fun _ s'=>Qc .next s') acc s₃.heap.objs.size (.ok .next) s':=by
  intro σ' β' s' hI p R'
  obtain ⟨oC,o1,o2,R''⟩:=bk hc β' σ' _ s' R' p
  obtain ⟨hx,hkk⟩:=VQ hi hf hc
  show wpAny _ φ.A (PySem.assign (.Name x np) φ.env acc) _ _ _
  refine wpAny_assign_Name (R''.store hx hxs hkk (hacc.mono p) fun s₄ R₄=>?_)
  obtain ⟨m',f1⟩:=o2 s₄.heap (by obtain ⟨_,_,_,_,R₄⟩:=R₄;exact (R₄.N (s₃.heap.objs.size,oC) (by simp)).1)
  exact ⟨m',f1,fun h' hs'=>kQ .next .next (ZZ loc i (.obj σ₁.length)) σ' β' _ (g4 σ' hI) (p₁.trans (p₂.trans p)) (R₄.dropC o1 hs') trivial⟩
 have ht0':=Gg ht0
 have ht1':=Gg ht1
 exact RW (ψ:=φ.block scope s₃.heap.objs.size fr) (κb:=⟨ys,Yi scope.names⟩) hh hr hfb (Hl hfb) hys ht0 ht1 h01 hs1 (fun av q=>by rw [JM ht0'.1 ht0'.2] at q;cases q) (fun av q=>by rw [JM ht1'.1 ht1'.2] at q;cases q) g0 g2 g3 hacc hby Rb st₂ g1 fin
end
section
variable {prog:Program}{w:World}{A:Around}{E:Value→Ws→Prop}{s:Ws}
theorem ZbZ {kvs:List (Int×Value)}{acc:Array Value}(h:ItemsOf (fun i v=>∃ k x,kvs[i]?=some (k,x)∧(intKind prog w).is k v=true) acc kvs.length):IntsAre acc.toList (kvs.map Prod.fst):=by
 obtain ⟨h1,h2⟩:=h
 have:∀ (kvs:List (Int×Value)) (l:List Value),l.length=kvs.length→(∀ (j:Nat) (v:Value),l[j]?=some v→∃ k x,kvs[j]?=some (k,x)∧(intKind prog w).is k v=true)→IntsAre l (kvs.map Prod.fst):=by
  intro kvs
  induction kvs with
 |nil=>intro l hl _;cases l with
  |nil=>exact .nil
  |cons _ _=>simp at hl
 |cons p r ih=>
   intro l hl hP
   cases l with
  |nil=>simp at hl
  |cons v l=>
    obtain ⟨k,x,e1,e2⟩:=hP 0 v rfl
    cases e1
    obtain ⟨t,rfl⟩:=Value.isInt_shape e2
    exact .cons k t (ih l (by simpa using hl) fun j v e=>hP (j+1) v (by simpa using e))
 exact this kvs acc.toList (by simpa using h1) fun j v e=>h2 j v (by simpa using e)
theorem So {d:Addr}{kvs:List (Int×Value)}{ep:Nat}{Q:List Value→Ws→Prop}(hh:A.handled=none)(lo:(d==sysModules)=false)(hm:s.heap.DictAt (intKind prog w) d kvs ep)(hz:kvs.length≤sizeLine)
  (h:∀ h' tk vs,(∀ b o,s.heap.get? b=some o→h'.get? b=some o)→s.heap.objs.size<h'.objs.size→IntsAre vs (kvs.map Prod.fst)→Q vs {s with heap:=h',toks:=tk}):wpAny (model prog w) A (collect (.ref d)) Q E s:=by
 unfold collect
 refine wpAny_bind (wpAny_runValue (codeAny_builtin entry_proto_collect' ?_))
 show wpAny _ _ (do again (.builtin "list.__iadd__" ⟨[← newList [],.ref d],[]⟩)) _ _ s
 refine wpAny_bind (wpAny_newList (wpAny_pure ⟨Code.quiet_builtin _ (by decide +kernel),codeAny_builtin entry_list_iadd' ?_⟩))
 rw [Around.under_plainId PySem.F.plain_list_iadd]
 show wpAny _ _ (Builtin.List.listExtendWith (.ref s.heap.objs.size) (.ref d) (.ref s.heap.objs.size)) _ _ {s with heap:=s.heap.push {cls:=.type "list",data:=.seq #[]}}
 have hS:(s.heap.push {cls:=.type "list",data:=.seq #[]}).get? s.heap.objs.size=some {cls:=.type "list",data:=.seq #[] 0}:=Heap.get?_push_size _ rfl
 have hlt:=hm.lt_size
 let RR:Result→Ws→Prop:=fun r s'=>r=.ok (.ret (.ref s.heap.objs.size))∧∃ h' tk acc' c',s'={s with heap:=h',toks:=tk}∧(∀ b o,s.heap.get? b=some o→h'.get? b=some o)∧h'.get? s.heap.objs.size=some {cls:=.type "list",dict:=none,data:=.seq acc' c',slots:=#[]} ∧
  IntsAre acc'.toList (kvs.map Prod.fst)
 have hRR:∀ (r:Result) (s':Ws),RR r s'→r=.ok (.ret (.ref s.heap.objs.size))∧wpAny (model prog w) A (do
   let o ← load s.heap.objs.size
   match o.data with
  |.seq xs _=>pure xs.toList
  |_=>unsupported "internal:collect") Q E s':=by
  rintro r s' ⟨rfl,h',tk,acc',c',rfl,hk,hS',hI⟩
  refine ⟨rfl,wpAny_bind (wpAny_load hS' ?_)⟩
  show wpAny _ _ (pure acc'.toList) Q E _
  exact wpAny_pure (h h' tk acc'.toList hk (Heap.lt_size hS') hI)
 refine wpAny_mono (kdl_extend (R:=RR) (s:={s with heap:=s.heap.push {cls:=.type "list",data:=.seq #[]}}) (kdl_dict lo) hh (hm.push _) s.heap.objs.size (Nat.ne_of_gt hlt) (Nat.ne_of_gt hlt) _ 0 hS (fun h' tk acc' c' hk hS' hacc=>?_) hz) (fun fin s' hf=>?_) (fun e s' hf=>?_)
 ·exact ⟨rfl,h',tk,acc',c',rfl,fun b o e=>hk b o (Nat.ne_of_lt (Heap.lt_size e)) (Heap.get?_push_of_some _ e),hS',ZbZ hacc⟩
 ·cases fin with
 |done f=>
   obtain ⟨e,h2⟩:=hRR _ _ hf
   cases e
   exact h2
 |again c=>
   refine ⟨hf.1,codeAny_mono hf.2 fun r s'' hr=>?_⟩
   obtain ⟨rfl,h2⟩:=hRR _ _ hr
   exact h2
 ·obtain ⟨e',_⟩:=hRR _ _ hf
  cases e'
theorem R9 {d:Addr}{kvs:List (Int×Value)}{ep:Nat}{Q:Value→Ws→Prop}(hh:A.handled=none)(lo:(d==sysModules)=false)(hm:s.heap.DictAt (intKind prog w) d kvs ep)(h64:kvs.length<64)
  (h:∀ h' tk D (out:Array Value) n (ns':List Int),(∀ b o,s.heap.get? b=some o→h'.get? b=some o)→s.heap.objs.size≤D→h'.get? D=some (seqObj "list" out n)→IntsAre out.toList ns'→ns'.Perm (kvs.map Prod.fst)→ns'.Pairwise (·≤·)→Q (.ref D) {s with heap:=h',toks:=tk}) :
  wpAny (model prog w) A (PySem.call (.builtin "sorted") [.ref d]) Q E s:=by
 refine Calls.call_function_entry kind_sorted plain_sorted entry_sorted (args_sorted1 _) ?_
 unfold Builtin.«sorted»
 refine wpAny_bind (m:=checkCount "sorted" 1 1 _) (wpAny_pure ?_)
 refine wpAny_bind (So hh lo hm (by unfold sizeLine;exact q5) fun h₁ tk vs hk hsz hI=>?_)
 have hlen:vs.length=kvs.length:=by rw [hI.length];simp
 refine wpAny_bind (wpAny_newList (hsz:=by unfold sizeLine;lia) ?_)
 have hoL:(h₁.push (seqObj "list" vs.toArray 0)).get? h₁.objs.size=some (seqObj "list" vs.toArray 0):=Heap.get?_push_size _ rfl
 show wpAny _ _ _ _ _ {s with heap:=h₁.push (seqObj "list" vs.toArray 0),toks:=tk}
 refine wpAny_bind (wpAny_holding (wpAny_call_entry slot_list_sort ⟨_,hoL,rfl⟩ entry_list_sort (list_sort_tree hoL hI (by exact Internal.qBu ‹_› ‹_›) fun out ns' a1 a2 a3=>⟨_,rfl,?_⟩) (args_list_sort _)))
 obtain ⟨e,he⟩:=sortedHeap_at (out:=out) hoL
 refine wpAny_pure ⟨_,rfl,h _ tk _ out e ns' (fun b o eb=>?_) (Nat.le_of_lt hsz) he a1 a2 a3⟩
 have hb:=Heap.lt_size (hk b o eb)
 rw [sortedHeap_old (Nat.ne_of_lt hb) (by rw [size_push'];exact Nat.lt_succ_of_lt hb),Heap.get?_push_ne _ _ _ (Nat.ne_of_lt hb)]
 exact hk b o eb
end
section
variable {φ:Fx}{xs:List Str}{ex:List (Addr×Obj)}{β:List Addr}{loc:Zc}{σ:List Za}{b0z:List ZH}{cs frn:List (Addr×Obj)}{m:Str→Option Value}{s:Ws}{Q:Zq}{Qc Ec:Value→Ws→Prop}
theorem Zi.barrAt (R:Zi φ xs ex β loc σ b0z cs frn m s){i:Nat}{l:List UInt8}(hi:σ[i]?=some (.barr l)) :
  ∃ a,β[i]?=some a∧s.heap.get? a=some {cls:=.type "bytearray",data:=.bytearray l.toArray 0}:=by
 obtain ⟨a,blk,e1,rfl,e3,k⟩:=R.at hi
 exact ⟨a,e1,(R.N _ (e3 _ List.mem_cons_self)).1⟩
inductive XW where
|lenBA|bytesB|bytesBA|sorted|ba0|lenZ
noncomputable def XW.name:XW→Str
|.lenBA => "len"|.bytesB => "bytes"|.bytesBA => "bytes"|.sorted => "sorted"|.ba0 => "bytearray"|.lenZ => "len"
noncomputable abbrev XW.val:XW→Value
|.lenBA=>.builtin "len"|.bytesB=>.type "bytes"|.bytesBA=>.type "bytes"|.sorted=>.builtin "sorted"|.ba0=>.type "bytearray"|.lenZ=>.builtin "len"
theorem XW.look (b:XW):YW.lookup b.name=some b.val:=by cases b<;>(unfold YW;kernel_rfl)
noncomputable def XZ (b:XW)(vs:List AV)(σ:List Za)(Q:Zq):Prop:=match b,vs with
|.lenBA,[.obj x]=>∃ l,σ[x]?=some (.barr l)∧l.length≤1099511627776∧Q (.int l.length) σ
|.bytesB,[.bytes l]=>Q (.bytes l) σ
|.bytesBA,[.obj x]=>∃ l,σ[x]?=some (.barr l)∧l.length≤sizeLine∧Q (.bytes l) σ
|.sorted,[.obj x]=>∃ kvs ep,σ[x]?=some (.dict kvs ep)∧(kvs.map Prod.fst).Nodup∧kvs.length<64∧∀ ns:List Int,ns.Perm (kvs.map Prod.fst)→ns.Pairwise (·≤·)→Q (.obj σ.length) (σ++[.list (ns.map .int)])
|.ba0,[]=>Q (.obj σ.length) (σ++[.barr []])
|.lenZ,[.obj x]=>∃ o xs,σ[x]?=some (.frz o xs)∧xs.length≤1099511627776∧Q (.int xs.length) σ
|_,_=>False
theorem RG {β:List Addr}{vs:List Value}{ns:List Int}(h:IntsAre vs ns):Ze (VR β) vs (ns.map .int):=by
 induction h with
|nil=>exact .nil
|cons n t _ ih=>exact .cons ⟨t,rfl⟩ ih
theorem R2 {n:Nat}{b:XW}{vs:List Value}{avs:List AV}(hr:ZG n φ.A)(hn:n≠0)(R:Rl φ xs ex β loc σ s)(hv:Ze (VR β) vs avs)(h:XZ b avs σ Q)(k:Zz φ xs ex β loc Q Qc) :
  Zb (Zd φ.G) φ.A (PySem.call b.val vs) Qc Ec s:=by
 have R0:=R
 have hh:=hr.1 hn
 obtain ⟨b0z,cs,frn,m,R⟩:=R
 rcases Ht avs with rfl|⟨a,rfl⟩|⟨a,b2,rfl⟩|⟨a,b2,_,_,rfl⟩
 ·cases b with
 |ba0=>
   cases hv
   refine Zbw fun h' g1 g2=>?_
   have hpre:β<+:β++[s.heap.objs.size]:=List.prefix_append _ _
   refine k _ _ _ (β++[s.heap.objs.size]) _ h hpre (R.alloc1 (tk:=s.toks) (R.F.kept g2) (R.N.kept_cons R.F g2 (Nat.le_refl _) g1) rfl fun p hp=>R.lt p hp) ⟨_,?_,rfl⟩
   rw [← R.real.len.1];simp
 |_=>exact False.elim h
 ·cases b with
 |lenBA=>cases a with
  |obj x=>
    obtain ⟨v,rfl,hx⟩:=Yx hv
    obtain ⟨l,h1,h2,h3⟩:=h
    obtain ⟨A,e1,l1⟩:=R.barrAt h1
    rw [hx.objAt e1]
    have q:=k.tok R0 h3 (v:=.int _ (s.toks+1)) ⟨_,rfl⟩ (s.toks+1+1)
    with_reducible exact .of (R8 l1 rfl rfl (by exact qu ‹_› (by decide)) q)
  |_=>exact False.elim h
 |bytesB=>cases a with
  |bytes _=>
    obtain ⟨v,rfl,t,rfl⟩:=Yx hv
    have q:=k.here R0 h (show VR β (.bytes _ t) (.bytes _) from ⟨t,rfl⟩)
    with_reducible exact .of (R7 q)
  |_=>exact False.elim h
 |bytesBA=>cases a with
  |obj x=>
    obtain ⟨v,rfl,hx⟩:=Yx hv
    obtain ⟨l,h1,h2,h3⟩:=h
    obtain ⟨A,e1,l1⟩:=R.barrAt h1
    rw [hx.objAt e1]
    have q:=k.tok R0 h3 (v:=.bytes l.toArray s.toks) ⟨_,rfl⟩ (s.toks+1)
    with_reducible exact .of (R6 l1 rfl rfl h2 q)
  |_=>exact False.elim h
 |sorted=>cases a with
  |obj x=>
    obtain ⟨v,rfl,hx⟩:=Yx hv
    obtain ⟨kvs,ep,h1,h2,h3,h4⟩:=h
    obtain ⟨A,kv',e1,hmod,dA,d2⟩:=R.dictAt h1 h2
    rw [hx.objAt e1]
    with_reducible refine .of (R9 hh hmod dA (by rw [d2.length];exact h3) fun h' tk D out c ns' hk hD ho hI hp hs=>?_)
    rw [Hs d2] at hp
    have q:=h4 ns' hp hs
    have hpre:β<+:β++[D]:=List.prefix_append _ _
    have ho':h'.get? D=some (listOf out.toList.toArray c):=by rw [Array.toArray_toList];exact ho
    refine k _ _ _ (β++[D]) _ q hpre (R.alloc1 (tk:=tk) (R.F.kept hk) (R.N.kept_cons R.F hk hD ho') ⟨out.toList,c,rfl,RG hI⟩ fun p hp=>Nat.lt_of_lt_of_le (R.lt p hp) hD) ⟨D,?_,rfl⟩
    rw [← R.real.len.1];simp
  |_=>exact False.elim h
 |lenZ=>cases a with
  |obj x=>
    obtain ⟨v,rfl,hx⟩:=Yx hv
    obtain ⟨o,ns,h1,h2,h3⟩:=h
    obtain ⟨A,us,e1,r1,l1,_⟩:=R.frzAt h1
    rw [hx.objAt e1]
    have hl:=r1.length
    rw [List.length_map] at hl
    rw [← hl] at h3
    have q:=k.tok R0 h3 (v:=.int _ (s.toks+1)) ⟨_,rfl⟩ (s.toks+1+1)
    with_reducible refine .of (call_len_list l1 (by rw [List.size_toArray];omega) ?_)
    rw [List.size_toArray]
    exact q
  |_=>exact False.elim h
 |ba0=>exact False.elim h
 ·cases b<;>cases a<;>exact False.elim h
 ·cases b<;>cases a<;>exact False.elim h
end
section
variable {n:Nat}{κ:Cx}{loc:Zc}{σ:List Za}{Q:Zq}{X:Zx}
theorem WE.blx {x:Str}{b:XW}{p pos:Pos}{es:List Expr}(hn:n≠0)(hx:x=b.name)(hk:κ.sc.lookup x=some .globalImplicit)(hd:(x==("__debug__" : Str))=false)(hs:ZN es=true)
  (h:ZC n κ es loc σ (fun vs σ₁=>XZ b vs σ₁ Q) X):WE n κ (.Call (.Name x p) es [] pos) loc σ Q X:=by
 subst hx
 intro φ ex β s Qc Ec hr hf R kQ kX
 with_reducible refine XK ?_
 have hk':=(hf.kind b.name).trans hk
 with_reducible refine XJ R b.look hk' hd ?_
 with_reducible refine X1 (fun _ e=>by cases b<;>cases e) hs ?_
 with_reducible refine h.go hr hf R (fun vs avs σ₁ β₁ s₁ q₁ p₁ R₁ v₁=>?_) kX
 have kq':=Zz.ge kQ p₁
 change Zb _ _ (PySem.call b.val vs) _ _ _
 with_reducible exact R2 hr hn R₁ v₁ q₁ kq'
theorem WE.listRange {e e':Expr}{p p' pos pos':Pos}(hn:n≠0)(hk:κ.sc.lookup (Zs "range")=some .globalImplicit)(hkl:κ.sc.lookup (Zs "list")=some .globalImplicit)(hs:ZQ e=false)(hs':ZQ e'=false)
  (h:WE n κ e loc σ (fun va σ₁=>WE n κ e' loc σ₁ (fun vb σ₂=>∃ a b:Int,va=.int a∧vb=.int b∧-(2^62)≤a∧a<2^62∧-(2^62)≤b∧b<2^62∧(b-a).toNat≤1000000∧Q (.obj σ₂.length) (σ₂++[.list ((List.range (b-a).toNat).map fun (i:Nat)=>.int (a+i))])) X) X) :
  WE n κ (.Call (.Name "list" p') [.Call (.Name "range" p) [e,e'] [] pos] [] pos') loc σ Q X:=by
 intro φ ex β s Qc Ec hr hf R kQ kX
 have hh:=hr.1 hn
 with_reducible refine XK ?_
 have hk':=(hf.kind "range").trans hk
 have hkl':=(hf.kind "list").trans hkl
 with_reducible refine XJ (v:=.type "list") R (by unfold YW;kernel_rfl) hkl' (by decide) ?_
 with_reducible refine X1 (fun _ e=>by cases e) rfl ?_
 with_reducible refine VM ?_ rfl
 with_reducible refine XK ?_
 with_reducible refine XJ (v:=.type "range") R (by unfold YW;kernel_rfl) hk' (by decide) ?_
 with_reducible refine X1 (fun _ e=>by cases e) (by simp [ZN,hs,hs']) ?_
 have hes:ZC n κ [e,e'] loc σ (fun vs σ₁=>∃ a b:Int,vs=[.int a,.int b]∧-(2^62)≤a∧a<2^62∧-(2^62)≤b∧b<2^62∧(b-a).toNat≤1000000∧Q (.obj σ₁.length) (σ₁++[.list ((List.range (b-a).toNat).map fun (i:Nat)=>.int (a+i))])) X:=
  ZC.cons hs (h.mono (fun v σ₁ hv=>ZC.cons hs' (hv.mono (fun w σ₂ hw=>ZC.nil (by obtain ⟨a,b,rfl,rfl,r⟩:=hw;exact ⟨a,b,rfl,r⟩)) fun _ _ x=>x)) fun _ _ x=>x)
 with_reducible refine hes.go hr hf R (fun vs avs σ₁ β₁ s₁ q₁ p₁ R₁ v₁=>?_) kX
 obtain ⟨a,b,rfl,h1,h2,h3,h4,h5,h6⟩:=q₁
 obtain ⟨v,w,rfl,⟨t,rfl⟩,⟨u,rfl⟩⟩:=T8 v₁
 change Zb _ _ (PySem.call (.type "range") [.int a t,.int b u]) _ _ _
 with_reducible refine .of (call_range_2 ?_)
 have R₂:Rl φ κ.xs ex β₁ loc σ₁ {s₁ with heap:=s₁.heap.push {cls:=.type "range",data:=.fields #[.int a t,.int b u,.int 1 s₁.toks]},toks:=s₁.toks+1}:=R₁.more fun b o e=>Heap.get?_push_of_some _ e
 have hsz:Builtin.Range.rangeSize a b 1=((b-a).toNat:Int):=by rw [rangeSize_one];split<;>grind
 with_reducible refine .of (wpAny_items_nil ?_)
 obtain ⟨b0z,cs,frn,m,R₂⟩:=R₂
 change Zb _ _ (PySem.call (.type "list") [.ref s₁.heap.objs.size]) _ _ _
 with_reducible refine .of (call_list_range hh (IsRange.new ..) (small_one h1 h2 h3 h4) hsz (Nat.le_trans h5 (by decide)) fun h' tk acc' c' hk hD hit=>?_)
 obtain ⟨i1,i2⟩:=hit
 have hall:Ze (VR (β₁++[(s₁.heap.push {cls:=.type "range",data:=.fields #[.int a t,.int b u,.int 1 s₁.toks]}).objs.size])) acc'.toList ((List.range (b-a).toNat).map fun (i:Nat)=>.int (a+i)):=by
  have key:∀ (n k:Nat) (l:List Value),l.length=n→(∀ (j:Nat) (v:Value),l[j]?=some v→∃ t,v=.int (a+((k+j:Nat):Int)) t)→Ze (VR (β₁++[(s₁.heap.push {cls:=.type "range",data:=.fields #[.int a t,.int b u,.int 1 s₁.toks]}).objs.size])) l ((List.range' k n).map fun (i:Nat)=>.int (a+i)):=by
   intro n
   induction n with
  |zero=>intro k l hl _;cases l with
   |nil=>exact .nil
   |cons _ _=>simp at hl
  |succ n ih=>
    intro k l hl hP
    cases l with
   |nil=>simp at hl
   |cons v l=>
     obtain ⟨t,rfl⟩:=hP 0 v rfl
     rw [List.range'_succ,List.map_cons]
     refine .cons ⟨t,rfl⟩ (ih (k+1) l (by simpa using hl) fun j v e=>?_)
     obtain ⟨t,rfl⟩:=hP (j+1) v (by simpa using e)
     exact ⟨t,by congr 1;simp +arith⟩
  rw [List.range_eq_range']
  refine key _ 0 acc'.toList (by simpa using i1) fun j v e=>?_
  obtain ⟨t,rfl⟩:=i2 j v (by simpa using e)
  exact ⟨t,by simp⟩
 have hpre:β₁<+:β₁++[(s₁.heap.push {cls:=.type "range",data:=.fields #[.int a t,.int b u,.int 1 s₁.toks]}).objs.size]:=List.prefix_append _ _
 have hD':h'.get? (s₁.heap.push {cls:=.type "range",data:=.fields #[.int a t,.int b u,.int 1 s₁.toks]}).objs.size=some (listOf acc'.toList.toArray c'):=by rw [Array.toArray_toList];exact hD
 refine kQ _ _ _ _ _ h6 (p₁.trans hpre) (R₂.alloc1 (tk:=tk) (R₂.F.kept hk) (R₂.N.kept_cons R₂.F hk (Nat.le_refl _) hD') ⟨acc'.toList,c',rfl,hall⟩ R₂.lt) ⟨_,?_,rfl⟩
 rw [← R₂.real.len.1];simp
end
section
variable {n:Nat}{κ:Cx}{loc:Zc}{σ:List Za}{Q:Zq}{X:Zx}
theorem WE.neg {e:Expr}{pos:Pos}(h:WE n κ e loc σ (fun v σ₁=>∃ i,v=.int i∧Q (.int (-i)) σ₁) X):WE n κ (.UnaryOp .USub e pos) loc σ Q X:=by
 intro φ ex β s Qc Ec hr hf R kQ kX
 with_reducible refine Bf ?_
 with_reducible refine h.go hr hf R (fun v av σ₁ β₁ s₁ q₁ p₁ R₁ v₁=>?_) kX
 obtain ⟨i,rfl,q⟩:=q₁
 obtain ⟨t,rfl⟩:=v₁
 have kq':=Zz.ge kQ p₁
 have q':=kq'.int R₁ q s₁.toks (s₁.toks+1)
 with_reducible exact .of (neg_int q')
end
set_option genCtorIdx false in
mutual
inductive ME where
|slot (i:Nat)|const (v:AV)|hole|dict0
|bin (o:Yj) (a b:ME)|neg (a:ME)|not (a:ME)|bools (o:BoolOp) (es:MEs)|ife (t a b:ME)|cmp (a:ME) (c:MC)
|list (es:MEs)|tup (es:MEs)|idx (a i:ME)|slice (a lo hi:ME)|attr (a:ME) (f:ZE)
|blt (b:XV) (es:MEs)|blx (b:XW) (es:MEs)|bm (b:BM) (o:ME) (es:MEs)|call (f:Nat) (es:MEs)|om (m:MN) (o:ME) (es:MEs)|new (c:Yk) (es:MEs)
|isint (a:ME)|isbool (a:ME)|fstr (a:ME)|excInit (es:MEs)|listRange (a b:ME)
|comp (it:MI) (ys:List Str) (caps:List (Option Nat)) (is:List Nat) (ifs:MEs) (elt:ME)
inductive MEs where
|nil|cons (e:ME) (r:MEs)
inductive MC where
|one (o:Yt) (e:ME)|more (o:Yt) (e:ME) (r:MC)
inductive MI where
|val (e:ME)|rng1 (e:ME)|rng2 (a b:ME)|enm (e:ME)
end
inductive MR where
|const (v:AV)|tup (i:Nat) (v:AV)
inductive MH where
|nil|cons (c:XN) (r:MR) (rest:MH)
set_option genCtorIdx false in
mutual
inductive MS where
|assign (i:Nat) (e:ME)|aug (i:Nat) (o:Yj) (e:ME)|setIdx (o i v:ME)|augIdx (o i:ME) (p:Yj) (v:ME)|setAttr (o:ME) (f:ZE) (v:ME)|augAttr (o:ME) (f:ZE) (p:Yj) (v:ME)
|ret (e:ME)|ret0|ifs (t:ME) (a b:MB)|expr (e:ME)|tup (is:List Nat) (es:MEs)|tupSwap (is:List Nat) (es:MEs)
|for (is:List Nat) (it:MI) (b:MB)|while (t:ME) (b:MB)|raise (c:XN) (e:ME)|tryE (b:MB) (h:MH)|excSet (o v:ME)
|asComp (i:Nat) (it:MI) (ys:List Str) (caps:List (Option Nat)) (is:List Nat) (ifs:MEs) (elt:ME)
|asComp2 (i:Nat) (it:MI) (ys:List Str) (caps:List (Option Nat)) (i0 i1:Nat) (it1:MI) (elt:ME)
inductive MB where
|nil|cons (s:MS) (r:MB)
end
inductive A3 (p q r:Prop):Prop|mk:p→q→r→A3 p q r
inductive A4 (p q r s:Prop):Prop|mk:p→q→r→s→A4 p q r s
inductive A5 (p q r s t:Prop):Prop|mk:p→q→r→s→t→A5 p q r s t
inductive A6 (p q r s t u:Prop):Prop|mk:p→q→r→s→t→u→A6 p q r s t u
inductive A7 (p q r s t u v:Prop):Prop|mk:p→q→r→s→t→u→v→A7 p q r s t u v
inductive A8 (p q r s t u v w:Prop):Prop|mk:p→q→r→s→t→u→v→w→A8 p q r s t u v w
inductive A9 (p q r s t u v w x:Prop):Prop|mk:p→q→r→s→t→u→v→w→x→A9 p q r s t u v w x
theorem Y5 {a b c:Bool}(h:(a&&(b&&c))=true):A3 (a=true) (b=true) (c=true):=⟨(Zp h).1,(Zp (Zp h).2).1,(Zp (Zp h).2).2⟩
theorem YG {a b c d:Bool}(h:(a&&(b&&(c&&d)))=true):A4 (a=true) (b=true) (c=true) (d=true):=by
 obtain ⟨h0,h1,r⟩:=Y5 h
 exact ⟨h0,h1,(Zp r).1,(Zp r).2⟩
theorem Vc {a b c d e:Bool}(h:(a&&(b&&(c&&(d&&e))))=true):A5 (a=true) (b=true) (c=true) (d=true) (e=true):=by
 obtain ⟨h0,h1,h2,r⟩:=YG h
 exact ⟨h0,h1,h2,(Zp r).1,(Zp r).2⟩
theorem RH {a b c d e f:Bool}(h:(a&&(b&&(c&&(d&&(e&&f)))))=true):A6 (a=true) (b=true) (c=true) (d=true) (e=true) (f=true):=by
 obtain ⟨h0,h1,h2,h3,r⟩:=Vc h
 exact ⟨h0,h1,h2,h3,(Zp r).1,(Zp r).2⟩
theorem RI {a b c d e f g:Bool}(h:(a&&(b&&(c&&(d&&(e&&(f&&g))))))=true):A7 (a=true) (b=true) (c=true) (d=true) (e=true) (f=true) (g=true):=by
 obtain ⟨h0,h1,h2,h3,h4,r⟩:=RH h
 exact ⟨h0,h1,h2,h3,h4,(Zp r).1,(Zp r).2⟩
theorem Gc {a b c d e f g j:Bool}(h:(a&&(b&&(c&&(d&&(e&&(f&&(g&&j)))))))=true):A8 (a=true) (b=true) (c=true) (d=true) (e=true) (f=true) (g=true) (j=true):=by
 obtain ⟨h0,h1,h2,h3,h4,h5,r⟩:=RI h
 exact ⟨h0,h1,h2,h3,h4,h5,(Zp r).1,(Zp r).2⟩
theorem RJ {a b c d e f g j k:Bool}(h:(a&&(b&&(c&&(d&&(e&&(f&&(g&&(j&&k))))))))=true):A9 (a=true) (b=true) (c=true) (d=true) (e=true) (f=true) (g=true) (j=true) (k=true):=by
 obtain ⟨h0,h1,h2,h3,h4,h5,h6,r⟩:=Gc h
 exact ⟨h0,h1,h2,h3,h4,h5,h6,(Zp r).1,(Zp r).2⟩
noncomputable def Wh {α:Type}:List α→Option (α×List α)
|a::r=>some (a,r)
|_=>none
theorem Xj {α:Type}{e:List α}{x:α×List α}(h:Wh e=some x):e=x.1::x.2:=by
 cases e with
|nil=>cases h
|cons a r=>cases h;rfl
noncomputable def YI {α:Type}:List α→Bool
|[]=>true
|_=>false
theorem YY {α:Type}{e:List α}(h:YI e=true):e=[]:=by
 cases e with
|nil=>rfl
|cons a r=>cases h
noncomputable def Yl {α:Type}(l:List α)(p:α→Bool):Bool:=Zg (Wh l) fun x=>YI x.2&&p x.1
inductive Nd {α:Type}(l:List α)(p:α→Bool):Prop
|mk (x:α) (e:l=[x]) (h:p x=true):Nd l p
theorem Yp {α:Type}{l:List α}{p:α→Bool}(h:Yl l p=true):Nd l p:=by
 obtain ⟨x,h0,h⟩:=Zf h
 obtain ⟨h1,h2⟩:=Zp h
 exact ⟨x.1,by rw [Xj h0,YY h1],h2⟩
noncomputable def Wy {α:Type}(l:List α)(p:α→α→Bool):Bool:=Zg (Wh l) fun x=>Yl x.2 fun y=>p x.1 y
inductive Nf {α:Type}(l:List α)(p:α→α→Bool):Prop
|mk (x y:α) (e:l=[x,y]) (h:p x y=true):Nf l p
theorem UK {α:Type}{l:List α}{p:α→α→Bool}(h:Wy l p=true):Nf l p:=by
 obtain ⟨x,h0,h⟩:=Zf h
 obtain ⟨y,h1,h2⟩:=Yp h
 exact ⟨x.1,y,by rw [Xj h0,h1],h2⟩
noncomputable def Uk {α:Type}:Option α→Bool
|none=>true
|some _=>false
theorem TW {α:Type}{o:Option α}(h:Uk o=true):o=none:=by
 cases o with
|none=>rfl
|some _=>cases h
noncomputable def YX (e:Expr)(p:Str→List Expr→Bool):Bool:=Zg (Gr e) fun c=>YI c.2.2.1&&Zg (YR c.1) fun x=>p x c.2.1
inductive Mw (e:Expr)(p:Str→List Expr→Bool):Prop
|mk (x:Str) (q:Pos) (vs:List Expr) (pos:Pos) (ee:e=.Call (.Name x q) vs [] pos) (h:p x vs=true):Mw e p
theorem XH {e:Expr}{p:Str→List Expr→Bool}(h:YX e p=true):Mw e p:=by
 obtain ⟨c,h0,h⟩:=Zf h
 obtain ⟨h1,h2⟩:=Zp h
 obtain ⟨x,h3,h4⟩:=Zf h2
 obtain ⟨q,h5⟩:=Xf h3
 exact ⟨x,q,c.2.1,c.2.2.2,by rw [NT h0,YY h1,h5],h4⟩
noncomputable def Gh (e:Expr)(p:Expr→Str→List Expr→Bool):Bool:=Zg (Gr e) fun c=>YI c.2.2.1&&Zg (Vg c.1) fun x=>Wk c.2.1 x.2.2 c.2.2.2&&(ZN c.2.1&&p x.1 x.2.1 c.2.1)
inductive Mv (e:Expr)(p:Expr→Str→List Expr→Bool):Prop
|mk (o:Expr) (x:Str) (ap:Pos) (vs:List Expr) (pos:Pos) (ee:e=.Call (.Attribute o x ap) vs [] pos) (s:Wk vs ap pos=true) (n:ZN vs=true) (h:p o x vs=true):Mv e p
theorem JL {e:Expr}{p:Expr→Str→List Expr→Bool}(h:Gh e p=true):Mv e p:=by
 obtain ⟨c,h0,h⟩:=Zf h
 obtain ⟨h1,h2⟩:=Zp h
 obtain ⟨x,h3,h4⟩:=Zf h2
 obtain ⟨h5,h6⟩:=Zp h4
 obtain ⟨h7,h8⟩:=Zp h6
 exact ⟨x.1,x.2.1,x.2.2,c.2.1,c.2.2.2,by rw [NT h0,YY h1,Ux h3],h5,h7,h8⟩
theorem ZM {α:Type} [BEq α] [LawfulBEq α] {a b:α}(h:(a==b)=true):a=b:=eq_of_beq h
noncomputable def Gs (e:Expr):Option Str:=(Vh e).bind J0
theorem NW {e:Expr}{x:Str}(h:Gs e=some x):∃ k p,e=.Constant (.str x) k p:=by
 unfold Gs at h
 cases h0:Vh e with
|none=>rw [h0] at h;cases h
|some c=>
  rw [h0] at h
  obtain ⟨k,p,rfl⟩:=Uz h0
  exact ⟨k,p,by rw [Sy h]⟩
noncomputable def VI (x:Str):Bool:=(x==("__debug__" : Str))||(x==("__classdict__" : Str))
noncomputable def VG (κ:Cx)(names:List (Str×NameKind))(ys:List Str):List (Option Nat):=ys.map fun x=>if names.lookup x=some .free then κ.xs.idxOf? x else none
noncomputable def Ca (l:List Str):Bool:=decide l.Nodup
noncomputable def Yo (κ:Cx)(x y:Str):Bool:=(x==y)&&((κ.sc.lookup x==some .globalImplicit)&&!VI x)
noncomputable def Hp:ME→Bool
|.hole=>true
|_=>false
noncomputable def Gf (κ:Cx)(scope:Scope)(ys:List Str)(caps:List (Option Nat)):Bool:=(scope.kind==.function)&&(We κ.sc scope.names&&(Ca (scope.names.map Prod.fst)&&(Ca ys&&(VG κ scope.names ys==caps))))
mutual
noncomputable def Zu:ME→Cx→Expr→Bool
|.slot i,κ,e=>Zg (YR e) fun x=>(κ.xs[i]?==some x)&&!VI x
|.const v,_,e=>Zg (Vh e) fun c=>Gp c==some v
|.hole,_,_=>false
|.dict0,_,e=>Zg (J3 e) fun x=>YI x.1&&YI x.2
|.bin o a b,κ,e=>Zg (JY e) fun x=>(x.2.1==o.op)&&(Zu a κ x.1&&Zu b κ x.2.2)
|.neg a,κ,e=>Zg (Gv e) fun x=>(x.1==.USub)&&Zu a κ x.2
|.not a,κ,e=>Zg (Gv e) fun x=>(x.1==.Not)&&Zu a κ x.2
|.bools o es,κ,e=>Zg (JZ e) fun x=>(x.1==o)&&repEs es κ x.2
|.ife t a b,κ,e=>Zg (J5 e) fun x=>Zu t κ x.1&&(Zu a κ x.2.1&&Zu b κ x.2.2)
|.cmp a c,κ,e=>Zg (J1 e) fun x=>Zu a κ x.1&&(repC c κ x.2.1 x.2.2&&!lastMarks x.2.1 x.2.2)
|.list es,κ,e=>Zg (J7 e) fun x=>ZN x&&repEs es κ x
|.tup es,κ,e=>Zg (Wf e) fun x=>ZN x&&repEs es κ x
|.idx a i,κ,e=>Zg (VH e) fun x=>!Vn x.2&&(Zu a κ x.1&&Zu i κ x.2)
|.slice a lo hi,κ,e=>Zg (VH e) fun x=>Zg (J8 x.2) fun y=>Uk y.2.2&&(Zu a κ x.1&&((match y.1 with|none=>Hp lo|some e=>Zu lo κ e)&&(match y.2.1 with|none=>Hp hi|some e=>Zu hi κ e)))
|.attr a f,κ,e=>Zg (Vg e) fun x=>WG x.1&&((x.2.1==f.name)&&Zu a κ x.1)
|.blt b es,κ,e=>YX e fun x vs=>Yo κ x b.name&&(ZN vs&&repEs es κ vs)
|.blx b es,κ,e=>YX e fun x vs=>Yo κ x b.name&&(ZN vs&&repEs es κ vs)
|.bm b o es,κ,e=>Gh e fun o' x vs=>(x==b.name)&&(WG o'&&(Zu o κ o'&&repEs es κ vs))
|.call f es,κ,e=>YX e fun x vs=>(X4.lookup x==some f)&&(Yo κ x x&&(ZN vs&&repEs es κ vs))
|.om m o es,κ,e=>Gh e fun o' x vs=>(x==m.name)&&(WG o'&&(Zu o κ o'&&repEs es κ vs))
|.new c es,κ,e=>YX e fun x vs=>(X4.lookup x==some c.addr)&&(Yo κ x x&&(ZN vs&&repEs es κ vs))
|.isint a,κ,e=>YX e fun x vs=>Yo κ x (Zs "isinstance")&&Wy vs fun v w=>Zg (YR w) fun y=>Yo κ y (Zs "int")&&(!ZQ v&&Zu a κ v)
|.isbool a,κ,e=>YX e fun x vs=>Yo κ x (Zs "isinstance")&&Wy vs fun v w=>Zg (YR w) fun y=>Yo κ y (Zs "bool")&&(!ZQ v&&Zu a κ v)
|.fstr a,κ,e=>Zg (J6 e) fun vs=>Zg (Wh vs) fun x=>Zg (Gs x.1) fun s=>decide (s.length≤900)&&Zg (Wh x.2) fun y=>Zg (J4 y.1) fun z=>Uk z.2.2&&((z.2.1 == -1)&&(Zu a κ z.1&&(YI y.2||Yl y.2 fun w=>Zg (Gs w) fun s'=>decide (s'.length≤900))))
|.excInit es,κ,e=>Gh e fun o' y vs=>Zg (YR o') fun x=>Yo κ x (Zs "ValueError")&&((y==Zs "__init__")&&repEs es κ vs)
|.listRange a b,κ,e=>YX e fun x vs=>Yo κ x (Zs "list")&&Yl vs fun v=>YX v fun y ws=>Yo κ y (Zs "range")&&Wy ws fun e e'=>!ZQ e&&(!ZQ e'&&(Zu a κ e&&Zu b κ e'))
|.comp it ys caps is ifs elt,κ,e=>Zg (Uy e) fun x=>Yl x.2.1 fun g=>(g.is_async==0)&&(Gf κ x.2.2.1 ys caps&&(Xr x.2.2.1.names ys g.target is&&(!XO g.iter&&(decide (g.ifs.length≤1)&&(repI it κ g.iter&&(repEs ifs ⟨ys,Yi x.2.2.1.names⟩ g.ifs&&Zu elt ⟨ys,Yi x.2.2.1.names⟩ x.1))))))
noncomputable def repEs:MEs→Cx→List Expr→Bool
|.nil,κ,e=>YI e
|.cons m r,κ,e=>Zg (Wh e) fun x=>Zu m κ x.1&&repEs r κ x.2
noncomputable def repC:MC→Cx→List CmpOp→List Expr→Bool
|.one o m,κ,ops,vs=>Yl ops fun op=>Yl vs fun v=>(op==o.op)&&Zu m κ v
|.more o m r,κ,ops,vs=>Zg (Wh ops) fun x=>Zg (Wh vs) fun y=>!YI x.2&&(!YI y.2&&((x.1==o.op)&&(Zu m κ y.1&&repC r κ x.2 y.2)))
noncomputable def repI:MI→Cx→Expr→Bool
|.val m,κ,e=>Zu m κ e
|.rng1 m,κ,e=>YX e fun x vs=>Yo κ x (Zs "range")&&Yl vs fun v=>!ZQ v&&Zu m κ v
|.rng2 a b,κ,e=>YX e fun x vs=>Yo κ x (Zs "range")&&Wy vs fun v v'=>!ZQ v&&(!ZQ v'&&(Zu a κ v&&Zu b κ v'))
|.enm m,κ,e=>YX e fun x vs=>Yo κ x (Zs "enumerate")&&Yl vs fun v=>!ZQ v&&Zu m κ v
end
noncomputable def Jg:MR→Cx→List Stmt→Bool
|.const v,_,l=>Yl l fun s=>Zg (Ul s) fun x=>Zg x fun e=>Zg (Vh e) fun c=>Gp c==some v
|.tup i v,κ,l=>Yl l fun s=>Zg (Ul s) fun x=>Zg x fun e=>Zg (Wf e) fun vs=>Wy vs fun a b=>Zg (YR a) fun x=>(κ.xs[i]?==some x)&&(!VI x&&Zg (Vh b) fun c=>Gp c==some v)
noncomputable def WU:ExceptHandler→Option Expr×Option Str×List Stmt
|.ExceptHandler t n b _=>(t,n,b)
theorem ZbN (h:ExceptHandler):∃ p,h=.ExceptHandler (WU h).1 (WU h).2.1 (WU h).2.2 p:=by
 cases h;exact ⟨_,rfl⟩
noncomputable def D3:MH→Cx→List ExceptHandler→Bool
|.nil,_,l=>YI l
|.cons c r rest,κ,l=>Zg (Wh l) fun x=>Uk (WU x.1).2.1&&Zg (WU x.1).1 fun t=>Zg (YR t) fun y=>(X4.lookup y==some c.addr)&&(Yo κ y y&&(Jg r κ (WU x.1).2.2&&D3 rest κ x.2))
mutual
noncomputable def C5:MS→Cx→Stmt→Bool
|.assign i e,κ,s=>Zg (Wj s) fun x=>Yl x.1 fun t=>Zg (YR t) fun y=>!X8 x.2&&(Y8 κ i y&&Zu e κ x.2)
|.aug i o e,κ,s=>Zg (T4 s) fun x=>Zg (YR x.1) fun y=>(x.2.1==o.op)&&(!VI y&&(Y8 κ i y&&Zu e κ x.2.2))
|.setIdx o i v,κ,s=>Zg (Wj s) fun x=>Yl x.1 fun t=>Zg (VH t) fun y=>!X8 x.2&&(Zu v κ x.2&&(Zu o κ y.1&&Zu i κ y.2))
|.augIdx o i p v,κ,s=>Zg (T4 s) fun x=>Zg (VH x.1) fun y=>(x.2.1==p.op)&&(!Vn y.2&&(Zu v κ x.2.2&&(Zu o κ y.1&&Zu i κ y.2)))
|.setAttr o f v,κ,s=>Zg (Wj s) fun x=>Yl x.1 fun t=>Zg (Vg t) fun y=>!X8 x.2&&((y.2.1==f.name)&&(Zu v κ x.2&&Zu o κ y.1))
|.augAttr o f p v,κ,s=>Zg (T4 s) fun x=>Zg (Vg x.1) fun y=>(x.2.1==p.op)&&((y.2.1==f.name)&&(Zu v κ x.2.2&&Zu o κ y.1))
|.ret e,κ,s=>Zg (Ul s) fun x=>Zg x fun v=>Zu e κ v
|.ret0,_,s=>Zg (Ul s) fun x=>Uk x
|.ifs t a b,κ,s=>Zg (Mb s) fun x=>Zu t κ x.1&&(repB a κ x.2.1&&repB b κ x.2.2)
|.expr e,κ,s=>Zg (D9 s) fun x=>!X8 x&&Zu e κ x
|.tup is es,κ,s=>Zg (Wj s) fun x=>Yl x.1 fun t=>Zg (Wf t) fun ts=>Zg (Wf x.2) fun vs=>T6 κ.sc ts vs&&(VV κ ts is&&(ZN vs&&repEs es κ vs))
|.tupSwap is es,κ,s=>Zg (Wj s) fun x=>Yl x.1 fun t=>Zg (Wf t) fun ts=>Zg (Wf x.2) fun vs=>Jl κ.sc ts vs (XC κ.sc (XB ts) ts)&&(T5 κ (XC κ.sc (XB ts) ts) is&&(ZN vs&&repEs es κ vs))
|.for is it b,κ,s=>Zg (Ma s) fun x=>YI x.2.2.2&&(Mk κ x.1 is&&(!XO x.2.1&&(repI it κ x.2.1&&repB b κ x.2.2.1)))
|.while t b,κ,s=>Zg (Me s) fun x=>YI x.2.2&&(Zu t κ x.1&&repB b κ x.2.1)
|.raise c e,κ,s=>Zg (Mc s) fun x=>Uk x.2&&Zg x.1 fun y=>YX y fun z vs=>Yl vs fun v=>(X4.lookup z==some c.addr)&&(Yo κ z z&&(ZN [v]&&Zu e κ v))
|.tryE b h,κ,s=>Zg (Md s) fun x=>YI x.2.2.1&&(YI x.2.2.2&&(repB b κ x.1&&(D3 h κ x.2.1&&!YI x.2.1)))
|.excSet o v,κ,s=>Zg (Wj s) fun x=>Yl x.1 fun t=>Zg (Vg t) fun y=>!X8 x.2&&((y.2.1==Zs "reason")&&(Zu v κ x.2&&Zu o κ y.1))
|.asComp i it ys caps is ifs elt,κ,s=>Zg (Wj s) fun a=>Yl a.1 fun tt=>Zg (Jm tt) fun nm=>Zg (Uy a.2) fun x=>Yl x.2.1 fun g=>(g.is_async==0)&&(Up κ.sc nm.1 nm.2 x.2.2.2 x.2.2.1.names&&(Y8 κ i nm.1&&(Gf κ x.2.2.1 ys caps&&(Xr x.2.2.1.names ys g.target is&&(!XO g.iter&&(decide (g.ifs.length≤1)&&(repI it κ g.iter&&(repEs ifs ⟨ys,Yi x.2.2.1.names⟩ g.ifs&&Zu elt ⟨ys,Yi x.2.2.1.names⟩ x.1))))))))
|.asComp2 i it ys caps i0 i1 it1 elt,κ,s=>Zg (Wj s) fun a=>Yl a.1 fun tt=>Zg (Jm tt) fun nm=>Zg (Uy a.2) fun x=>Wy x.2.1 fun g g1=>(g.is_async==0)&&((g1.is_async==0)&&(YI g.ifs&&(YI g1.ifs&&(Up κ.sc nm.1 nm.2 x.2.2.2 x.2.2.1.names&&(Y8 κ i nm.1&&(Gf κ x.2.2.1 ys caps&&(Zg (YR g.target) fun _=>Zg (YR g1.target) fun _=>Xr x.2.2.1.names ys g.target [i0]&&(Xr x.2.2.1.names ys g1.target [i1]&&((i0 != i1)&&(!XO g.iter&&(!XO g1.iter&&(repI it κ g.iter&&(repI it1 ⟨ys,Yi x.2.2.1.names⟩ g1.iter&&Zu elt ⟨ys,Yi x.2.2.1.names⟩ x.1)))))))))))))
noncomputable def repB:MB→Cx→List Stmt→Bool
|.nil,_,l=>YI l
|.cons s r,κ,l=>Zg (Wh l) fun x=>C5 s κ x.1&&repB r κ x.2
end
noncomputable def Vp:Zc→Nat→Option AV
|[],_=>none
|x::_,0=>x
|_::l,i+1=>Vp l i
theorem Hu:∀ (l:Zc) (i:Nat),Vp l i=(l[i]?).join
|[],_=>rfl
|_::_,0=>rfl
|_::l,i+1=>Hu l i
noncomputable def Xx:List (Option Nat)→Zc→Zc
|[],_=>[]
|none::r,l=>none::Xx r l
|some j::r,l=>Vp l j::Xx r l
theorem JN:∀ (caps:List (Option Nat)) (loc:Zc),Xx caps loc=caps.map fun o=>o.bind fun j=>(loc[j]?).join
|[],_=>rfl
|none::r,l=>congrArg (none::·) (JN r l)
|some j::r,l=>by
  show Vp l j::Xx r l=(l[j]?).join::_
  rw [Hu,JN r l]
noncomputable def W6 (l:Zc)(i:Nat)(P:AV→Prop):Prop:=match Vp l i with|some v=>P v|none=>False
theorem Jj {l:Zc}{i:Nat}{P:AV→Prop}(h:W6 l i P):∃ v,l[i]?=some (some v)∧P v:=by
 unfold W6 at h
 rw [Hu] at h
 cases h0:l[i]? with
|none=>rw [h0] at h;exact False.elim h
|some o=>cases o with
 |none=>rw [h0] at h;exact False.elim h
 |some v=>rw [h0] at h;exact ⟨v,rfl,h⟩
noncomputable def Xh:AV→(Int→Prop)→Prop
|.int i,P=>P i
|_,_=>False
theorem X7 {v:AV}{P:Int→Prop}(h:Xh v P):∃ i,v=.int i∧P i:=by
 cases v<;>first|exact ⟨_,rfl,h⟩|exact False.elim h
noncomputable def Wt:AV→(Bool→Prop)→Prop
|.bool i,P=>P i
|_,_=>False
theorem VF {v:AV}{P:Bool→Prop}(h:Wt v P):∃ i,v=.bool i∧P i:=by
 cases v<;>first|exact ⟨_,rfl,h⟩|exact False.elim h
noncomputable def UO:AV→Prop→Prop
|.none,P=>P
|_,_=>False
theorem Zd8 {v:AV}{P:Prop}(h:UO v P):v=.none∧P:=by
 cases v<;>first|exact ⟨rfl,h⟩|exact False.elim h
noncomputable def Vy:AV→(Nat→Prop)→Prop
|.obj i,P=>P i
|_,_=>False
theorem DR {v:AV}{P:Nat→Prop}(h:Vy v P):∃ i,v=.obj i∧P i:=by
 cases v<;>first|exact ⟨_,rfl,h⟩|exact False.elim h
noncomputable def YH:Bool→Prop→Prop→Prop
|true,P,_=>P
|false,_,Q=>Q
theorem ZbU {b:Bool}{P Q:Prop}(h:YH b P Q):if b then P else Q:=by
 cases b<;>exact h
theorem ZU {p:Prop}{hd:Decidable p}{A B:Prop}(h1:p→A)(h2:¬ p→B):YH (decide p) A B:=by
 by_cases h:p
 ·rw [decide_eq_true h];exact h1 h
 ·rw [decide_eq_false h];exact h2 h
theorem Xz {p:Prop}{hd:Decidable p}{A B:Prop}(h1:¬ p→A)(h2:p→B):YH (!decide p) A B:=by
 by_cases h:p
 ·rw [decide_eq_true h];exact h2 h
 ·rw [decide_eq_false h];exact h1 h
theorem Hn {p:Prop}{hd:Decidable p}{A B:Prop}(hp:p)(h:A):YH (decide p) A B:=by
 rw [decide_eq_true hp];exact h
theorem ifF {p:Prop}{hd:Decidable p}{A B:Prop}(hp:¬ p)(h:B):YH (decide p) A B:=by
 rw [decide_eq_false hp];exact h
noncomputable def Y0 (P:Zc→List Za→Prop)(Q:SQ):SQ:=fun af l σ=>match af with|.next=>P l σ|.ret v=>Q (.ret v) l σ
noncomputable def Vd:BoolOp→Bool→Bool
|.And,b=>b
|.Or,b=>!b
mutual
noncomputable def vE (n:Nat):ME→Zc→List Za→(AV→List Za→Prop)→(XN→List Za→Prop)→Prop
|.slot i,l,σ,Q,X=>W6 l i fun v=>Q v σ
|.const v,l,σ,Q,X=>Q v σ
|.hole,l,σ,Q,X=>Q .none σ
|.dict0,l,σ,Q,X=>∀ ep,Q (.obj σ.length) (σ++[.dict [] ep])
|.bin o a b,l,σ,Q,X=>vE n a l σ (fun va σ₁=>vE n b l σ₁ (fun vb σ₂=>Wi o va vb σ₂ Q) X) X
|.neg a,l,σ,Q,X=>vE n a l σ (fun v σ₁=>Xh v fun i=>Q (.int (-i)) σ₁) X
|.not a,l,σ,Q,X=>vE n a l σ (fun v σ₁=>Wt v fun b=>Q (.bool (!b)) σ₁) X
|.bools o es,l,σ,Q,X=>vA n o es l σ Q X
|.ife t a b,l,σ,Q,X=>vT n t l σ (fun c σ₁=>YH c (vE n a l σ₁ Q X) (vE n b l σ₁ Q X)) X
|.cmp a c,l,σ,Q,X=>vE n a l σ (fun va σ₁=>vC n va c l σ₁ (fun b σ₂=>Q (.bool b) σ₂) X) X
|.list es,l,σ,Q,X=>vEs n es l σ (fun vs σ₁=>vs.length≤sizeLine∧Q (.obj σ₁.length) (σ₁++[.list vs])) X
|.tup es,l,σ,Q,X=>vEs n es l σ (fun vs σ₁=>vs.length≤sizeLine∧Q (.obj σ₁.length) (σ₁++[.tup vs])) X
|.idx a i,l,σ,Q,X=>vE n a l σ (fun va σ₁=>vE n i l σ₁ (fun vi σ₂=>X5 va vi σ₂ Q) X) X
|.slice a lo hi,l,σ,Q,X=>vE n a l σ (fun va σ₁=>vE n lo l σ₁ (fun vl σ₂=>vE n hi l σ₂ (fun vu σ₃=>Mf va vl vu σ₃ Q) X) X) X
|.attr a f,l,σ,Q,X=>vE n a l σ (fun v σ₁=>WQ f v σ₁ Q) X
|.blt b es,l,σ,Q,X=>vEs n es l σ (fun vs σ₁=>Xe b vs σ₁ Q) X
|.blx b es,l,σ,Q,X=>vEs n es l σ (fun vs σ₁=>XZ b vs σ₁ Q) X
|.bm b o es,l,σ,Q,X=>vE n o l σ (fun v σ₁=>Wq b v σ₁∧vEs n es l σ₁ (fun vs σ₂=>X0 b v vs σ₂ Q) X) X
|.call f es,l,σ,Q,X=>vEs n es l σ (fun vs σ₁=>WF n f vs σ₁ Q X) X
|.om m o es,l,σ,Q,X=>vE n o l σ (fun v σ₁=>Vy v fun x=>∃ c fs a,σ₁[x]?=some (.inst c fs)∧VU c m=some a∧vEs n es l σ₁ (fun vs σ₂=>WF n a (v::vs) σ₂ Q X) X) X
|.new c es,l,σ,Q,X=>vEs n es l σ (fun vs σ₁=>VW n c vs σ₁ Q X) X
|.isint a,l,σ,Q,X=>vE n a l σ (fun v σ₁=>Xh v fun _=>Q (.bool true) σ₁) X
|.isbool a,l,σ,Q,X=>vE n a l σ (fun v σ₁=>Xh v fun _=>Q (.bool false) σ₁) X
|.fstr a,l,σ,Q,X=>vE n a l σ (fun v σ₁=>Xh v fun i=>i.natAbs.log2<1920∧∀ t,Q (.str t) σ₁) X
|.excInit es,l,σ,Q,X=>vEs n es l σ (fun vs σ₁=>∃ x c f v,vs=[.obj x,v]∧σ₁[x]?=some (.exc c f)∧Q .none (σ₁.set x (.exc c f))) X
|.listRange a b,l,σ,Q,X=>vE n a l σ (fun va σ₁=>vE n b l σ₁ (fun vb σ₂=>Xh va fun a=>Xh vb fun b=>-(2^62)≤a∧a<2^62∧-(2^62)≤b∧b<2^62∧(b-a).toNat≤1000000 ∧
   Q (.obj σ₂.length) (σ₂++[.list ((List.range (b-a).toNat).map fun (i:Nat)=>.int (a+i))])) X) X
|.comp it ys caps is ifs elt,l,σ,Q,X=>vI n it l σ (fun ait σ₁=>YZ ait=true∧∃ (i0z:List (List AV)) (I:Nat→List Za→Prop),(∀ avs∈i0z,avs.length=is.length)∧I 0 (σ₁++[.list []])∧(∀ k σ',k≤i0z.length→I k σ'→Z0 ait σ' i0z) ∧
   (∀ k σ' avs,i0z[k]?=some avs→I k σ'→vAt n .And ifs (Z3 (Xx caps l) is avs) σ' (fun c σ''=>YH c (vE n elt (Z3 (Xx caps l) is avs) σ'' (fun v σ₃=>∃ ls,σ₃[σ₁.length]?=some (.list ls)∧ls.length<1000000∧I (k+1) (σ₃.set σ₁.length (.list (ls++[v])))) (fun _ _=>False)) (I (k+1) σ'')) (fun _ _=>False)) ∧
   ∀ σ',I i0z.length σ'→Q (.obj σ₁.length) σ') X
noncomputable def vT (n:Nat):ME→Zc→List Za→(Bool→List Za→Prop)→(XN→List Za→Prop)→Prop
|.not a,l,σ,Q,X=>vT n a l σ (fun b σ₁=>Q (!b) σ₁) X
|.bools o es,l,σ,Q,X=>vAt n o es l σ Q X
|.ife t a b,l,σ,Q,X=>vT n t l σ (fun c σ₁=>YH c (vT n a l σ₁ Q X) (vT n b l σ₁ Q X)) X
|.cmp a c,l,σ,Q,X=>vE n a l σ (fun va σ₁=>vC n va c l σ₁ Q X) X
|.slot i,l,σ,Q,X=>W6 l i fun v=>Wt v fun b=>Q b σ
|.const v,l,σ,Q,X=>Wt v fun b=>Q b σ
|.isint a,l,σ,Q,X=>vE n a l σ (fun v σ₁=>Xh v fun _=>Q true σ₁) X
|.isbool a,l,σ,Q,X=>vE n a l σ (fun v σ₁=>Xh v fun _=>Q false σ₁) X
|.call f es,l,σ,Q,X=>vEs n es l σ (fun vs σ₁=>WF n f vs σ₁ (fun v σ₂=>Wt v fun b=>Q b σ₂) X) X
|_,_,_,_,_=>False
noncomputable def vEs (n:Nat):MEs→Zc→List Za→(List AV→List Za→Prop)→(XN→List Za→Prop)→Prop
|.nil,l,σ,Q,X=>Q [] σ
|.cons e r,l,σ,Q,X=>vE n e l σ (fun v σ₁=>vEs n r l σ₁ (fun vs σ₂=>Q (v::vs) σ₂) X) X
noncomputable def vA (n:Nat)(o:BoolOp):MEs→Zc→List Za→(AV→List Za→Prop)→(XN→List Za→Prop)→Prop
|.nil,l,σ,Q,X=>False
|.cons e .nil,l,σ,Q,X=>vE n e l σ Q X
|.cons e r,l,σ,Q,X=>vE n e l σ (fun v σ₁=>Wt v fun b=>YH (Vd o b) (vA n o r l σ₁ Q X) (Q (.bool (!Vd o true)) σ₁)) X
noncomputable def vAt (n:Nat)(o:BoolOp):MEs→Zc→List Za→(Bool→List Za→Prop)→(XN→List Za→Prop)→Prop
|.nil,l,σ,Q,X=>Q (Vd o true) σ
|.cons e r,l,σ,Q,X=>vT n e l σ (fun b σ₁=>YH (Vd o b) (vAt n o r l σ₁ Q X) (Q (!Vd o true) σ₁)) X
noncomputable def vC (n:Nat):AV→MC→Zc→List Za→(Bool→List Za→Prop)→(XN→List Za→Prop)→Prop
|va,.one o e,l,σ,Q,X=>vE n e l σ (fun vb σ₁=>YC o va vb σ₁ (fun b=>Q b σ₁)) X
|va,.more o e r,l,σ,Q,X=>vE n e l σ (fun vb σ₁=>YC o va vb σ₁ (fun b=>YH b (vC n vb r l σ₁ Q X) (Q false σ₁))) X
noncomputable def vI (n:Nat):MI→Zc→List Za→(Yb→List Za→Prop)→(XN→List Za→Prop)→Prop
|.val e,l,σ,Q,X=>vE n e l σ (fun v σ₁=>∃ it,XQ v σ₁ it∧Q it σ₁) X
|.rng1 e,l,σ,Q,X=>vE n e l σ (fun v σ₁=>Xh v fun b=>-(2^62)≤b∧b<2^62∧Q (.rng 0 b.toNat) σ₁) X
|.rng2 a b,l,σ,Q,X=>vE n a l σ (fun va σ₁=>vE n b l σ₁ (fun vb σ₂=>Xh va fun a=>Xh vb fun b=>-(2^62)≤a∧a<2^62∧-(2^62)≤b∧b<2^62∧Q (.rng a (b-a).toNat) σ₂) X) X
|.enm e,l,σ,Q,X=>vE n e l σ (fun v σ₁=>Vy v fun x=>∃ ls,σ₁[x]?=some (.list ls)∧Q (.enm x) σ₁) X
end
noncomputable def Jr:XN→XN→Bool
|.cutShort,.cutShort=>true
|.badCode,.badCode=>true
|.badArgument,.badArgument=>true
|_,_=>false
noncomputable def GL (r:MR)(l:Zc)(σ:List Za)(Q:SQ):Prop:=match r with
|.const v=>Q (.ret v) l σ
|.tup i v=>W6 l i fun a=>Q (.ret (.obj σ.length)) l (σ++[.tup [a,v]])
noncomputable def vH:XN→MH→Zc→List Za→SQ→Prop
|_,.nil,_,_,_=>False
|c,.cons d r rest,l,σ,Q=>YH (Jr d c) (GL r l σ Q) (vH c rest l σ Q)
mutual
noncomputable def vS (n:Nat):MS→Zc→List Za→SQ→SX→Prop
|.assign i e,l,σ,Q,X=>vE n e l σ (fun v σ₁=>Q .next (ZZ l i v) σ₁) (fun c σ'=>X c l σ')
|.aug i o e,l,σ,Q,X=>W6 l i fun old=>vE n e l σ (fun v σ₁=>X6 o old v σ₁ (fun r σ₂=>Q .next (ZZ l i r) σ₂)) (fun c σ'=>X c l σ')
|.setIdx o i v,l,σ,Q,X=>vE n v l σ (fun v σ₁=>vE n o l σ₁ (fun vo σ₂=>vE n i l σ₂ (fun vi σ₃=>Vz vo vi v σ₃ (Q .next l)) (fun c σ'=>X c l σ')) (fun c σ'=>X c l σ')) (fun c σ'=>X c l σ')
|.augIdx o i p v,l,σ,Q,X=>vE n o l σ (fun vo σ₁=>vE n i l σ₁ (fun vi σ₂=>X5 vo vi σ₂ (fun old σ₃=>vE n v l σ₃ (fun v σ₄=>X6 p old v σ₄ (fun r σ₅=>Vz vo vi r σ₅ (Q .next l))) (fun c σ'=>X c l σ'))) (fun c σ'=>X c l σ')) (fun c σ'=>X c l σ')
|.setAttr o f v,l,σ,Q,X=>vE n v l σ (fun v σ₁=>vE n o l σ₁ (fun vo σ₂=>Um f vo v σ₂ (Q .next l)) (fun c σ'=>X c l σ')) (fun c σ'=>X c l σ')
|.augAttr o f p v,l,σ,Q,X=>vE n o l σ (fun vo σ₁=>WQ f vo σ₁ (fun old σ₂=>vE n v l σ₂ (fun v σ₃=>X6 p old v σ₃ (fun r σ₄=>Um f vo r σ₄ (Q .next l))) (fun c σ'=>X c l σ'))) (fun c σ'=>X c l σ')
|.ret e,l,σ,Q,X=>vE n e l σ (fun v σ₁=>Q (.ret v) l σ₁) (fun c σ'=>X c l σ')
|.ret0,l,σ,Q,X=>Q (.ret .none) l σ
|.ifs t a b,l,σ,Q,X=>vT n t l σ (fun c σ₁=>YH c (vB n a l σ₁ Q X) (vB n b l σ₁ Q X)) (fun c σ'=>X c l σ')
|.expr e,l,σ,Q,X=>vE n e l σ (fun v σ₁=>UO v (Q .next l σ₁)) (fun c σ'=>X c l σ')
|.tup is es,l,σ,Q,X=>vEs n es l σ (fun vs σ₁=>vs.length=is.length∧vs.length≤sizeLine∧Q .next (Z3 l is vs) (σ₁++[.tup vs])) (fun c σ'=>X c l σ')
|.tupSwap is es,l,σ,Q,X=>vEs n es l σ (fun vs σ₁=>vs.length=is.length∧vs.length≤sizeLine∧Q .next (Z3 l is.reverse vs.reverse) (σ₁++[.tup vs])) (fun c σ'=>X c l σ')
|.for is it b,l,σ,Q,X=>vI n it l σ (fun ait σ₁=>∃ (i0z:List (List AV)) (I:Nat→Zc→List Za→Prop),(∀ avs∈i0z,avs.length=is.length)∧I 0 l σ₁∧(∀ k l σ',k≤i0z.length→I k l σ'→Z0 ait σ' i0z) ∧
   (∀ k l σ' avs,i0z[k]?=some avs→I k l σ'→vB n b (Z3 l is avs) σ' (Y0 (I (k+1)) Q) X) ∧
   ∀ l σ',I i0z.length l σ'→Q .next l σ') (fun c σ'=>X c l σ')
|.while t b,l,σ,Q,X=>∃ (I:Nat→Zc→List Za→Prop) (m:Nat),I m l σ∧∀ m l σ',I m l σ'→vT n t l σ' (fun c σ''=>YH c (vB n b l σ'' (Y0 (fun l₂ σ₂=>∃ m',m'<m∧I m' l₂ σ₂) Q) X) (Q .next l σ'')) (fun c σ''=>X c l σ'')
|.raise c e,l,σ,Q,X=>vE n e l σ (fun v σ₁=>X c l σ₁) (fun c σ'=>X c l σ')
|.tryE b h,l,σ,Q,X=>vB n b l σ Q (fun c l' σ'=>vH c h l' σ' Q)
|.excSet o v,l,σ,Q,X=>vE n v l σ (fun v σ₁=>vE n o l σ₁ (fun vo σ₂=>Vy vo fun x=>∃ c,σ₂[x]?=some (.exc c true)∧Q .next l (σ₂.set x (.exc c false))) (fun c σ'=>X c l σ')) (fun c σ'=>X c l σ')
|.asComp i it ys caps is ifs elt,l,σ,Q,X=>vE n (.comp it ys caps is ifs elt) l σ (fun v σ₂=>Q .next (ZZ l i v) σ₂) (fun c σ'=>X c l σ')
|.asComp2 i it ys caps i0 i1 it1 elt,l,σ,Q,X=>vI n it l σ (fun ait σ₁=>YZ ait=true∧∃ (i0z:List (List AV)) (I:Nat→List Za→Prop),(∀ avs∈i0z,avs.length=1)∧I 0 (σ₁++[.list []])∧(∀ k σ',k≤i0z.length→I k σ'→Z0 ait σ' i0z) ∧
   (∀ k σ' av,i0z[k]?=some [av]→I k σ'→vI n it1 (ZZ (Xx caps l) i0 av) σ' (fun it1 σ₂=>YZ it1=true∧∃ (items1:List (List AV)) (I1:Nat→List Za→Prop),(∀ avs∈items1,avs.length=1)∧I1 0 σ₂ ∧
    (∀ j σ',j≤items1.length→I1 j σ'→Z0 it1 σ' items1) ∧
    (∀ j σ₃ bvs,items1[j]?=some bvs→I1 j σ₃→vE n elt (Z3 (ZZ (Xx caps l) i0 av) [i1] bvs) σ₃ (fun v σ₄=>∃ ls,σ₄[σ₁.length]?=some (.list ls)∧ls.length<1000000∧I1 (j+1) (σ₄.set σ₁.length (.list (ls++[v])))) (fun _ _=>False)) ∧
    ∀ σ₃,I1 items1.length σ₃→I (k+1) σ₃) (fun _ _=>False)) ∧
   ∀ σ',I i0z.length σ'→Q .next (ZZ l i (.obj σ₁.length)) σ') (fun c σ'=>X c l σ')
noncomputable def vB (n:Nat):MB→Zc→List Za→SQ→SX→Prop
|.nil,l,σ,Q,X=>Q .next l σ
|.cons s r,l,σ,Q,X=>vS n s l σ (Y0 (fun l₁ σ₁=>vB n r l₁ σ₁ Q X) Q) X
end
theorem Zg5 {n:Nat}{s:MS}{r:MB}{l:Zc}{σ:List Za}{Q:SQ}{X:SX}(h:vS n s l σ (Y0 (fun l₁ σ₁=>vB n r l₁ σ₁ Q X) Q) X):vB n (.cons s r) l σ Q X:=h
theorem Jn {n:Nat}{s:MS}{r:MB}{l:Zc}{σ:List Za}{Q Q':SQ}{X:SX}(h:vS n s l σ (Y0 (fun l₁ σ₁=>vB n r l₁ σ₁ Q X) Q) X):Y0 (fun l₁ σ₁=>vB n (.cons s r) l₁ σ₁ Q X) Q' .next l σ:=h
theorem Zl {n:Nat}{l:Zc}{σ:List Za}{Q Q':SQ}{X:SX}(h:Q .next l σ):Y0 (fun l₁ σ₁=>vB n .nil l₁ σ₁ Q X) Q' .next l σ:=h
theorem ZF {P:Zc→List Za→Prop}{Q:SQ}{l:Zc}{σ:List Za}(h:P l σ):Y0 P Q .next l σ:=h
theorem Wu {x:Str}(h:(!VI x)=true):(x==("__debug__" : Str))=false∧(x==("__classdict__" : Str))=false:=by
 simpa [VI] using h
theorem Xi {κ:Cx}{x y:Str}(h:Yo κ x y=true):x=y∧κ.sc.lookup x=some .globalImplicit∧(x==("__debug__" : Str))=false:=by
 obtain ⟨h1,h2⟩:=Zp h
 obtain ⟨h2,h3⟩:=Zp h2
 exact ⟨ZM h1,ZM h2,(Wu h3).1⟩
theorem Zd6 {v:Expr}{vs:List Expr}(h:ZN (v::vs)=true):ZQ v=false∧ZN vs=true:=by
 simpa [ZN] using h
theorem NF {κ:Cx}{names:List (Str×NameKind)}{ys:List Str}{loc:Zc}:Xx (VG κ names ys) loc=Xs κ names ys loc:=by
 rw [JN]
 simp only [VG,Xs,List.map_map]
 refine List.map_congr_left fun x _=>?_
 simp only [Function.comp]
 split<;>rfl
theorem JH {κ:Cx}{scope:Scope}{ys:List Str}{caps:List (Option Nat)}(h:Gf κ scope ys caps=true):scope.kind=.function∧We κ.sc scope.names=true∧(scope.names.map Prod.fst).Nodup∧ys.Nodup∧caps=VG κ scope.names ys:=by
 obtain ⟨h1,h2,h3,h4,h⟩:=Vc h
 exact ⟨ZM h1,h2,of_decide_eq_true h3,of_decide_eq_true h4,(ZM h).symm⟩
theorem Gm (g:Comprehension)(h:(g.is_async==0)=true):g=⟨g.target,g.iter,g.ifs,0⟩:=by
 obtain ⟨a,b,c,d⟩:=g
 have:d=0:=ZM h
 rw [this]
section
variable {n:Nat}
theorem Sh {op:Yt}{x y:Nat}{σ:List Za}{P P':Bool→Prop}(hp:∀ b,P b→P' b)(h:YC op (.obj x) (.obj y) σ P):YC op (.obj x) (.obj y) σ P':=
 ⟨h.1,h.2.imp (fun h=>by obtain ⟨ns,ms,h1,h2,h3⟩:=h;exact ⟨ns,ms,h1,h2,hp _ h3⟩) fun h=>by obtain ⟨u,v,ns,ms,p,q,h1,h2,h3,h4,h5,h6,h7⟩:=h;exact ⟨u,v,ns,ms,p,q,h1,h2,h3,h4,h5,h6,hp _ h7⟩⟩
theorem NM {op:Yt}{a b:AV}{σ:List Za}{P P':Bool→Prop}(hp:∀ b,P b→P' b)(h:YC op a b σ P):YC op a b σ P':=by
 cases a<;>cases b<;>first
 |exact False.elim h
 |exact Sh hp h
 |(cases op<;>first|exact hp _ h|exact False.elim h)
theorem ZC.mono {κ:Cx}{e:List Expr}{l:Zc}{σ:List Za}{Q Q':List AV→List Za→Prop}{X X':Zx}(h:ZC n κ e l σ Q X)(hq:∀ v σ,Q v σ→Q' v σ)(hx:∀ c σ,X c σ→X' c σ):ZC n κ e l σ Q' X':=
 fun φ ex β s Qc Ec pos hr hf R kQ kX=>h φ ex β s Qc Ec pos hr hf R (fun vs avs σ' β' s' q=>kQ vs avs σ' β' s' (hq _ _ q)) fun c σ' β' e s' x=>kX c σ' β' e s' (hx _ _ x)
theorem WF.mono {a:Addr}{args:List AV}{σ:List Za}{Q Q':Zq}{X X':Zx}(h:WF n a args σ Q X)(hq:∀ v σ,Q v σ→Q' v σ)(hx:∀ c σ,X c σ→X' c σ):WF n a args σ Q' X':=
 fun G A envs fr ex β s vs R hr hA hC hv k kx=>h G A envs fr ex β s vs R hr hA hC hv (fun v av σ' β' s' q=>k v av σ' β' s' (hq _ _ q)) fun c σ' β' e s' x=>kx c σ' β' e s' (hx _ _ x)
theorem WI.mono {κ:Cx}{e:Expr}{l:Zc}{σ:List Za}{Q Q':Yb→List Za→Prop}{X X':Zx}(h:WI n κ e l σ Q X)(hq:∀ v σ,Q v σ→Q' v σ)(hx:∀ c σ,X c σ→X' c σ):WI n κ e l σ Q' X':=
 fun φ ex β s Qc Ec hr hf R kQ kX=>h φ ex β s Qc Ec hr hf R (fun w it lg σ' β' s' q=>kQ w it lg σ' β' s' (hq _ _ q)) fun c σ' β' e s' x=>kX c σ' β' e s' (hx _ _ x)
theorem WP.mono {κ:Cx}{u:Option Expr}{l:Zc}{σ:List Za}{Q Q':Zq}{X:Zx}(h:WP n κ u l σ Q X)(hq:∀ v σ,Q v σ→Q' v σ):WP n κ u l σ Q' X:=by
 cases u with
|none=>exact hq _ _ h
|some e=>exact WE.mono (e:=e) h hq fun _ _ x=>x
noncomputable def SE (n:Nat)(m:ME):Prop:=∀ (κ:Cx) (e:Expr) (l:Zc) (σ:List Za) (Q:Zq) (X:Zx),Zu m κ e=true→vE n m l σ Q X→WE n κ e l σ Q X
noncomputable def ST (n:Nat)(m:ME):Prop:=∀ (κ:Cx) (e:Expr) (l:Zc) (σ:List Za) (Q:Bool→List Za→Prop) (X:Zx),Zu m κ e=true→vT n m l σ Q X→WT n κ e l σ Q X
noncomputable def Y4 (n:Nat)(m:MEs):Prop:=∀ (κ:Cx) (es:List Expr) (l:Zc) (σ:List Za) (Q:List AV→List Za→Prop) (X:Zx),repEs m κ es=true→ZN es=true→vEs n m l σ Q X→ZC n κ es l σ Q X
noncomputable def SA (n:Nat)(m:MEs):Prop:=∀ (o:BoolOp) (κ:Cx) (es:List Expr) (l:Zc) (σ:List Za) (Q:Zq) (X:Zx) (pos:Pos),repEs m κ es=true→vA n o m l σ Q X→WE n κ (.BoolOp o es pos) l σ Q X
noncomputable def Ur (n:Nat)(m:MEs):Prop:=∀ (o:BoolOp) (κ:Cx) (es:List Expr) (l:Zc) (σ:List Za) (Q:Bool→List Za→Prop) (X:Zx),repEs m κ es=true→vAt n o m l σ Q X→WA n κ o es l σ Q X
noncomputable def VB (n:Nat)(m:MEs):Prop:=∀ (κ:Cx) (ifs:List Expr) (elt:Expr) (l:Zc) (σ:List Za) (Q:Option AV→List Za→Prop) (me:ME),(∀ σ Q X,vE n me l σ Q X→WE n κ elt l σ Q X)→repEs m κ ifs=true→ifs.length≤1 →
  vAt n .And m l σ (fun c σ'=>YH c (vE n me l σ' (fun v σ₃=>Q (some v) σ₃) (fun _ _=>False)) (Q none σ')) (fun _ _=>False)→CT n κ ifs elt l σ Q
noncomputable def SC (n:Nat)(m:MC):Prop:=∀ (va:AV) (κ:Cx) (pos:Pos) (ops:List CmpOp) (es:List Expr) (l:Zc) (σ:List Za) (Q:Zq) (X:Zx),repC m κ ops es=true→vC n va m l σ (fun b σ'=>Q (.bool b) σ') X→WC n κ pos va ops es l σ Q X
noncomputable def Us (n:Nat)(m:MC):Prop:=∀ (va:AV) (κ:Cx) (pos:Pos) (ops:List CmpOp) (es:List Expr) (l:Zc) (σ:List Za) (Q:Bool→List Za→Prop) (X:Zx),repC m κ ops es=true→vC n va m l σ Q X→XY n κ pos va ops es l σ Q X
noncomputable def SI (n:Nat)(m:MI):Prop:=∀ (κ:Cx) (e:Expr) (l:Zc) (σ:List Za) (Q:Yb→List Za→Prop) (X:Zx),repI m κ e=true→vI n m l σ Q X→WI n κ e l σ Q X
theorem sP {lo:ME}{κ:Cx}{u:Option Expr}{l:Zc}{σ:List Za}{Q:Zq}{X:Zx}(IH:SE n lo)
  (h:(match u with|none=>Hp lo|some e=>Zu lo κ e)=true) (v:vE n lo l σ Q X):WP n κ u l σ Q X:=by
 cases u with
|none=>
  cases lo<;>first|exact v|cases h
|some e=>exact IH _ _ _ _ _ _ h v
variable {o:Yj}{a b t lo hi:ME}{es:MEs}{c:MC}
theorem ZfV {i:Nat}:SE n (.slot i):=fun κ e l σ Q X h v=>by
 obtain ⟨x,h0,h⟩:=Zf h
 obtain ⟨p,rfl⟩:=Xf h0
 obtain ⟨h1,h2⟩:=Zp h
 obtain ⟨a,v1,v2⟩:=Jj v
 exact WE.name (ZM h1) (Wu h2).1 (Wu h2).2 v1 v2
theorem ZfF {c:AV}:SE n (.const c):=fun κ e l σ Q X h v=>by
 obtain ⟨x,h0,h⟩:=Zf h
 obtain ⟨k,p,rfl⟩:=Uz h0
 exact WE.const (ZM h) v
theorem ZfJ:SE n .hole:=fun κ e l σ Q X h v=>by cases h
theorem ZfG:SE n .dict0:=fun κ e l σ Q X h v=>by
 obtain ⟨x,h0,h⟩:=Zf h
 obtain ⟨p,rfl⟩:=Sz h0
 obtain ⟨h1,h2⟩:=Zp h
 rw [YY h1,YY h2]
 exact WE.dict0 v
theorem Zfx (ha:SE n a)(hb:SE n b):SE n (.bin o a b):=fun κ e l σ Q X h v=>by
 obtain ⟨x,h0,h⟩:=Zf h
 obtain ⟨p,rfl⟩:=Sx h0
 obtain ⟨h1,h2,h3⟩:=Y5 h
 rw [ZM h1]
 exact WE.bin (WE.mono (ha κ _ l σ _ _ h2 v) (fun va σ₁ q=>hb κ _ l σ₁ _ _ h3 q) fun _ _ x=>x)
theorem ZfQ (ha:SE n a):SE n (.neg a):=fun κ e l σ Q X h v=>by
 obtain ⟨x,h0,h⟩:=Zf h
 obtain ⟨p,rfl⟩:=J9 h0
 obtain ⟨h1,h2⟩:=Zp h
 rw [ZM h1]
 exact WE.neg (WE.mono (ha κ _ l σ _ _ h2 v) (fun va σ₁ q=>X7 q) fun _ _ x=>x)
theorem ZfS (ha:SE n a):SE n (.not a):=fun κ e l σ Q X h v=>by
 obtain ⟨x,h0,h⟩:=Zf h
 obtain ⟨p,rfl⟩:=J9 h0
 obtain ⟨h1,h2⟩:=Zp h
 rw [ZM h1]
 exact WE.not (WE.mono (ha κ _ l σ _ _ h2 v) (fun va σ₁ q=>VF q) fun _ _ x=>x)
theorem ZfB {o:BoolOp}(hs:SA n es):SE n (.bools o es):=fun κ e l σ Q X h v=>by
 obtain ⟨x,h0,h⟩:=Zf h
 obtain ⟨p,rfl⟩:=NS h0
 obtain ⟨h1,h2⟩:=Zp h
 rw [ZM h1]
 exact hs _ κ _ l σ _ _ _ h2 v
theorem ZfL (ht:ST n t)(ha:SE n a)(hb:SE n b):SE n (.ife t a b):=fun κ e l σ Q X h v=>by
 obtain ⟨x,h0,h⟩:=Zf h
 obtain ⟨p,rfl⟩:=NV h0
 obtain ⟨h1,h2,h3⟩:=Y5 h
 refine WE.ife (WT.mono (ht κ _ l σ _ _ h1 v) fun c σ₁ q=>?_)
 cases c with
|true=>exact ha κ _ l σ₁ _ _ h2 q
|false=>exact hb κ _ l σ₁ _ _ h3 q
theorem ZfD (ha:SE n a)(hc:SC n c):SE n (.cmp a c):=fun κ e l σ Q X h v=>by
 obtain ⟨x,h0,h⟩:=Zf h
 obtain ⟨p,rfl⟩:=NU h0
 obtain ⟨h1,h2,h3⟩:=Y5 h
 exact WE.cmp (Yw h3) (WE.mono (ha κ _ l σ _ _ h1 v) (fun va σ₁ q=>hc _ κ _ _ _ l σ₁ _ _ h2 q) fun _ _ x=>x)
theorem ZfO (hs:Y4 n es):SE n (.list es):=fun κ e l σ Q X h v=>by
 obtain ⟨x,h0,h⟩:=Zf h
 obtain ⟨p,rfl⟩:=SH h0
 obtain ⟨h1,h2⟩:=Zp h
 exact WE.list (hs κ _ l σ _ _ h2 h1 v)
theorem ZfW (hs:Y4 n es):SE n (.tup es):=fun κ e l σ Q X h v=>by
 obtain ⟨x,h0,h⟩:=Zf h
 obtain ⟨k,p,rfl⟩:=WM h0
 obtain ⟨h1,h2⟩:=Zp h
 exact WE.tup (hs κ _ l σ _ _ h2 h1 v)
theorem ZfK (ha:SE n a)(hb:SE n b):SE n (.idx a b):=fun κ e l σ Q X h v=>by
 obtain ⟨x,h0,h⟩:=Zf h
 obtain ⟨p,rfl⟩:=Gu h0
 obtain ⟨h1,h2,h3⟩:=Y5 h
 exact WE.idx (Yw h1) (WE.mono (ha κ _ l σ _ _ h2 v) (fun va σ₁ q=>hb κ _ l σ₁ _ _ h3 q) fun _ _ x=>x)
theorem ZfU (ha:SE n a)(hl:SE n lo)(hh:SE n hi):SE n (.slice a lo hi):=fun κ e l σ Q X h v=>by
 obtain ⟨x,h0,h⟩:=Zf h
 obtain ⟨p,e0⟩:=Gu h0
 obtain ⟨y,h1,h⟩:=Zf h
 obtain ⟨q,hq⟩:=SJ h1
 obtain ⟨h2,h3,h4,h5⟩:=YG h
 rw [e0,hq,TW h2]
 exact WE.slice (WE.mono (ha κ _ l σ _ _ h3 v) (fun va σ₁ q=>WP.mono (sP hl h4 q) fun vl σ₂ q=>sP hh h5 q) fun _ _ x=>x)
theorem Zfw {f:ZE}(ha:SE n a):SE n (.attr a f):=fun κ e l σ Q X h v=>by
 obtain ⟨x,h0,h⟩:=Zf h
 rw [Ux h0]
 obtain ⟨h1,h2,h3⟩:=Y5 h
 rw [ZM h2]
 exact WE.attr h1 (ha κ _ l σ _ _ h3 v)
theorem Zfy {b:XV}(hn:n≠0)(hs:Y4 n es):SE n (.blt b es):=fun κ e l σ Q X h v=>by
 obtain ⟨x,q,vs,p,rfl,h⟩:=XH h
 obtain ⟨h1,h2,h3⟩:=Y5 h
 obtain ⟨g1,g2,g3⟩:=Xi h1
 exact WE.blt hn g1 g2 g3 h2 (hs κ _ l σ _ _ h3 h2 v)
theorem Zfz {b:XW}(hn:n≠0)(hs:Y4 n es):SE n (.blx b es):=fun κ e l σ Q X h v=>by
 obtain ⟨x,q,vs,p,rfl,h⟩:=XH h
 obtain ⟨h1,h2,h3⟩:=Y5 h
 obtain ⟨g1,g2,g3⟩:=Xi h1
 exact WE.blx hn g1 g2 g3 h2 (hs κ _ l σ _ _ h3 h2 v)
theorem ZfA {b:BM}(ha:SE n a)(hs:Y4 n es):SE n (.bm b a es):=fun κ e l σ Q X h v=>by
 obtain ⟨o',x,ap,vs,p,rfl,h1,h2,hh⟩:=JL h
 obtain ⟨h3,h4,h5,h6⟩:=YG hh
 rw [ZM h3]
 exact WE.bm h4 h1 (WE.mono (ha κ _ l σ _ _ h5 v) (fun va σ₁ q=>⟨q.1,hs κ _ l σ₁ _ _ h6 h2 q.2⟩) fun _ _ x=>x)
theorem ZfC {f:Nat}(hs:Y4 n es):SE n (.call f es):=fun κ e l σ Q X h v=>by
 obtain ⟨x,q,vs,p,rfl,h⟩:=XH h
 obtain ⟨h1,h2,h3,h4⟩:=YG h
 obtain ⟨g1,g2,g3⟩:=Xi h2
 exact WE.call (ZM h1) g2 g3 h3 (hs κ _ l σ _ _ h4 h3 v)
theorem ZfT {m:MN}(ha:SE n a)(hs:Y4 n es):SE n (.om m a es):=fun κ e l σ Q X h v=>by
 obtain ⟨o',x,ap,vs,p,rfl,h1,h2,hh⟩:=JL h
 obtain ⟨h3,h4,h5,h6⟩:=YG hh
 rw [ZM h3]
 exact WE.om h4 h1 (WE.mono (ha κ _ l σ _ _ h5 v) (fun va σ₁ q=>by
    obtain ⟨x,q0,c,fs,a,q1,q2,q3⟩:=DR q
    exact ⟨x,c,fs,a,q0,q1,q2,hs κ _ l σ₁ _ _ h6 h2 q3⟩) fun _ _ x=>x)
theorem ZfR {c:Yk}(hs:Y4 n es):SE n (.new c es):=fun κ e l σ Q X h v=>by
 obtain ⟨x,q,vs,p,rfl,h⟩:=XH h
 obtain ⟨h1,h2,h3,h4⟩:=YG h
 obtain ⟨g1,g2,g3⟩:=Xi h2
 exact WE.new (ZM h1) g2 g3 h3 (hs κ _ l σ _ _ h4 h3 v)
theorem GG {κ:Cx}{a:ME}{e:Expr}{y:Str}(h:(YX e fun x vs=>Yo κ x (Zs "isinstance")&&Wy vs fun v w=>Zg (YR w) fun z=>Yo κ z y&&(!ZQ v&&Zu a κ v))=true) :
  ∃ v p q pos,e=.Call (.Name "isinstance" p) [v,.Name y q] [] pos∧κ.sc.lookup (Zs "isinstance")=some .globalImplicit∧κ.sc.lookup y=some .globalImplicit∧ZQ v=false∧Zu a κ v=true:=by
 obtain ⟨x,q,vs,p,e1,h⟩:=XH h
 obtain ⟨h1,h⟩:=Zp h
 obtain ⟨v,w,e2,h⟩:=UK h
 obtain ⟨z,h0,h⟩:=Zf h
 obtain ⟨p',e3⟩:=Xf h0
 obtain ⟨h2,h3,h4⟩:=Y5 h
 obtain ⟨g1,g2,_⟩:=Xi h1
 obtain ⟨g1',g2',_⟩:=Xi h2
 rw [g1] at g2 e1
 rw [g1'] at g2' e3
 exact ⟨_,_,_,_,by rw [e1,e2,e3],g2,g2',Yw h3,h4⟩
theorem ZfN (ha:SE n a):SE n (.isint a):=fun κ e l σ Q X h v=>by
 obtain ⟨w,p,q,pos,rfl,h1,h2,h3,h4⟩:=GG h
 exact WE.isint h1 h2 h3 (WE.mono (ha κ _ l σ _ _ h4 v) (fun va σ₁ q=>X7 q) fun _ _ x=>x)
theorem ZfM (ha:SE n a):SE n (.isbool a):=fun κ e l σ Q X h v=>by
 obtain ⟨w,p,q,pos,rfl,h1,h2,h3,h4⟩:=GG h
 exact WE.isbool h1 h2 h3 (WE.mono (ha κ _ l σ _ _ h4 v) (fun va σ₁ q=>X7 q) fun _ _ x=>x)
theorem ZfI (ha:SE n a):SE n (.fstr a):=fun κ e l σ Q X h v=>by
 obtain ⟨vs,h0,h⟩:=Zf h
 obtain ⟨p,e0⟩:=SG h0
 obtain ⟨x,h1,h⟩:=Zf h
 obtain ⟨s,h2,h⟩:=Zf h
 obtain ⟨h3,h⟩:=Zp h
 obtain ⟨y,h4,h⟩:=Zf h
 obtain ⟨z,h5,h⟩:=Zf h
 obtain ⟨h6,h7,h8,h9⟩:=YG h
 obtain ⟨k1,p1,e1⟩:=NW h2
 obtain ⟨p2,e2⟩:=SD h5
 rw [e0,Xj h1,e1,Xj h4,e2,TW h6,ZM h7]
 have v':=WE.mono (ha κ _ l σ _ _ h8 v) (fun va σ₁ q=>X7 q) fun _ _ x=>x
 rcases Bool.or_eq_true_iff.mp h9 with h9|h9
 ·rw [YY h9]
  exact WE.fstr2 (of_decide_eq_true h3) v'
 ·obtain ⟨w,e3,h10⟩:=Yp h9
  obtain ⟨s',h11,h12⟩:=Zf h10
  obtain ⟨k3,p3,e4⟩:=NW h11
  rw [e3,e4]
  exact WE.fstr3 (of_decide_eq_true h3) (of_decide_eq_true h12) v'
theorem ZfH (hs:Y4 n es):SE n (.excInit es):=fun κ e l σ Q X h v=>by
 obtain ⟨o',y,ap,vs,p,e0,h1,h2,h⟩:=JL h
 obtain ⟨x,h0,h⟩:=Zf h
 obtain ⟨q,e1⟩:=Xf h0
 obtain ⟨h3,h4,h5⟩:=Y5 h
 obtain ⟨g1,g2,_⟩:=Xi h3
 rw [g1] at g2 e1
 rw [e0,e1,ZM h4]
 exact WE.excInit h1 g2 (hs κ _ l σ _ _ h5 h2 v)
theorem ZfP (hn:n≠0)(ha:SE n a)(hb:SE n b):SE n (.listRange a b):=fun κ e l σ Q X h v=>by
 obtain ⟨x,q,vs,p,e0,h⟩:=XH h
 obtain ⟨h1,h⟩:=Zp h
 obtain ⟨w,e1,h⟩:=Yp h
 obtain ⟨y,q',ws,p',e2,h⟩:=XH h
 obtain ⟨h2,h⟩:=Zp h
 obtain ⟨u,u',e3,h⟩:=UK h
 obtain ⟨h3,h4,h5,h6⟩:=YG h
 obtain ⟨g1,g2,_⟩:=Xi h1
 obtain ⟨g1',g2',_⟩:=Xi h2
 rw [g1] at g2 e0
 rw [g1'] at g2' e2
 rw [e0,e1,e2,e3]
 exact WE.listRange hn g2' g2 (Yw h3) (Yw h4) (WE.mono (ha κ _ l σ _ _ h5 v) (fun va σ₁ q=>WE.mono (hb κ _ l σ₁ _ _ h6 q) (fun vb σ₂ q=>by
  obtain ⟨a,e1,q⟩:=X7 q
  obtain ⟨b,e2,q⟩:=X7 q
  exact ⟨a,b,e1,e2,q⟩) fun _ _ x=>x) fun _ _ x=>x)
theorem NQ {κ:Cx}{ifs:MEs}{elt:ME}{is:List Nat}{x:Expr×List Comprehension×Scope×Pos}{g:Comprehension}{ys:List Str}{l:Zc}{a:Nat}{ait:Yb}{σ:List Za}{Q:Zq}(hi:VB n ifs)(he:SE n elt)
  (h1:repEs ifs ⟨ys,Yi x.2.2.1.names⟩ g.ifs=true) (h2:Zu elt ⟨ys,Yi x.2.2.1.names⟩ x.1=true) (hl:g.ifs.length≤1)
  (q:YZ ait=true∧∃ (i0z:List (List AV)) (I:Nat→List Za→Prop),(∀ avs∈i0z,avs.length=is.length)∧I 0 (σ++[.list []])∧(∀ k σ',k≤i0z.length→I k σ'→Z0 ait σ' i0z) ∧
   (∀ k σ' avs,i0z[k]?=some avs→I k σ'→vAt n .And ifs (Z3 (Xx (VG κ x.2.2.1.names ys) l) is avs) σ' (fun c σ''=>YH c (vE n elt (Z3 (Xx (VG κ x.2.2.1.names ys) l) is avs) σ'' (fun v σ₃=>∃ ls,σ₃[σ.length]?=some (.list ls)∧ls.length<1000000∧I (k+1) (σ₃.set σ.length (.list (ls++[v])))) (fun _ _=>False)) (I (k+1) σ'')) (fun _ _=>False)) ∧
   ∀ σ',I i0z.length σ'→Q (.obj σ.length) σ'):Go n κ x.2.2.1 ys is g.ifs x.1 l ait σ Q:=by
 obtain ⟨q0,i0z,I,q1,q2,q3,q4,q5⟩:=q
 refine ⟨q0,i0z,I,q1,q2,q3,fun k σ' avs a b=>?_,q5⟩
 have q4':=q4 k σ' avs a b
 rw [NF] at q4'
 exact hi _ _ _ _ σ' (fun r σ''=>match r with
 |none=>I (k+1) σ''
 |some v=>∃ ls,σ''[σ.length]?=some (.list ls)∧ls.length<1000000∧I (k+1) (σ''.set σ.length (.list (ls++[v])))) elt (fun σ Q X v=>he _ _ _ σ Q X h2 v) h1 hl q4'
theorem ZfE {it:MI}{ys:List Str}{caps:List (Option Nat)}{is:List Nat}{ifs:MEs}{elt:ME}(hn:n≠0)(hit:SI n it)(hi:VB n ifs)(he:SE n elt):SE n (.comp it ys caps is ifs elt):=fun κ e l σ Q X h v=>by
 obtain ⟨x,h0,h⟩:=Zf h
 rw [J2 h0]
 obtain ⟨g,hg,h⟩:=Yp h
 obtain ⟨h1,h2,h3,h4,h5,h6,h7,h8⟩:=Gc h
 rw [hg,Gm g h1]
 obtain ⟨b1,b2,b3,b4,rfl⟩:=JH h2
 exact WE.comp hn b1 b2 b3 b4 h3 (Yw h4) (WI.mono (hit κ _ l σ _ _ h6 v) (fun ait σ₁ q=>NQ (x:=x) (a:=0) hi he h7 h8 (of_decide_eq_true h5) q) fun _ _ x=>x)
theorem Zgy (ha:ST n a):ST n (.not a):=fun κ e l σ Q X h v=>by
 obtain ⟨x,h0,h⟩:=Zf h
 obtain ⟨p,rfl⟩:=J9 h0
 obtain ⟨h1,h2⟩:=Zp h
 rw [ZM h1]
 exact WT.not (ha κ _ l σ _ _ h2 v)
theorem Zgq {o:BoolOp}(hs:Ur n es):ST n (.bools o es):=fun κ e l σ Q X h v=>by
 obtain ⟨x,h0,h⟩:=Zf h
 obtain ⟨p,rfl⟩:=NS h0
 obtain ⟨h1,h2⟩:=Zp h
 rw [ZM h1]
 exact WT.boolop (hs _ κ _ l σ _ _ h2 v)
theorem Zgu (ht:ST n t)(ha:ST n a)(hb:ST n b):ST n (.ife t a b):=fun κ e l σ Q X h v=>by
 obtain ⟨x,h0,h⟩:=Zf h
 obtain ⟨p,rfl⟩:=NV h0
 obtain ⟨h1,h2,h3⟩:=Y5 h
 refine WT.ife (WT.mono (ht κ _ l σ _ _ h1 v) fun c σ₁ q=>?_)
 cases c with
|true=>exact ha κ _ l σ₁ _ _ h2 q
|false=>exact hb κ _ l σ₁ _ _ h3 q
theorem Zgs (ha:SE n a)(hc:Us n c):ST n (.cmp a c):=fun κ e l σ Q X h v=>by
 obtain ⟨x,h0,h⟩:=Zf h
 obtain ⟨p,rfl⟩:=NU h0
 obtain ⟨h1,h2,h3⟩:=Y5 h
 exact WT.cmp (Yw h3) (WE.mono (ha κ _ l σ _ _ h1 v) (fun va σ₁ q=>hc _ κ _ _ _ l σ₁ _ _ h2 q) fun _ _ x=>x)
theorem Zgz {i:Nat}:ST n (.slot i):=fun κ e l σ Q X h v=>by
 obtain ⟨x,h0,h⟩:=Zf h
 obtain ⟨p,rfl⟩:=Xf h0
 obtain ⟨h1,h2⟩:=Zp h
 obtain ⟨a,v1,v2⟩:=Jj v
 exact WT.plain rfl (WE.name (ZM h1) (Wu h2).1 (Wu h2).2 v1 (VF v2))
theorem Zgt {c:AV}:ST n (.const c):=fun κ e l σ Q X h v=>by
 obtain ⟨x,h0,h⟩:=Zf h
 obtain ⟨k,p,rfl⟩:=Uz h0
 exact WT.plain rfl (WE.const (ZM h) (VF v))
theorem Zgw (ha:SE n a):ST n (.isint a):=fun κ e l σ Q X h v=>by
 obtain ⟨w,p,q,pos,rfl,h1,h2,h3,h4⟩:=GG h
 exact WT.plain rfl (WE.isint h1 h2 h3 (WE.mono (ha κ _ l σ _ _ h4 v) (fun va σ₁ q=>by obtain ⟨i,q1,q2⟩:=X7 q;exact ⟨i,q1,_,rfl,q2⟩) fun _ _ x=>x))
theorem Zgv (ha:SE n a):ST n (.isbool a):=fun κ e l σ Q X h v=>by
 obtain ⟨w,p,q,pos,rfl,h1,h2,h3,h4⟩:=GG h
 exact WT.plain rfl (WE.isbool h1 h2 h3 (WE.mono (ha κ _ l σ _ _ h4 v) (fun va σ₁ q=>by obtain ⟨i,q1,q2⟩:=X7 q;exact ⟨i,q1,_,rfl,q2⟩) fun _ _ x=>x))
theorem Zgr {f:Nat}(hs:Y4 n es):ST n (.call f es):=fun κ e l σ Q X h v=>by
 obtain ⟨x,q,vs,p,rfl,h⟩:=XH h
 obtain ⟨h1,h2,h3,h4⟩:=YG h
 obtain ⟨g1,g2,g3⟩:=Xi h2
 exact WT.plain rfl (WE.call (ZM h1) g2 g3 h3 (ZC.mono (hs κ _ l σ _ _ h4 h3 v) (fun vs σ₁ q=>WF.mono q (fun v σ₂ q=>VF q) fun _ _ x=>x) fun _ _ x=>x))
theorem Zgx {m:ME}(h:∀ l σ Q X,vT n m l σ Q X→False):ST n m:=fun κ e l σ Q X _ v=>(h l σ Q X v).elim
theorem ZfY:Y4 n .nil:=fun κ es l σ Q X h hs v=>by
 rw [YY h]
 exact ZC.nil v
theorem ZfX {m:ME}{r:MEs}(hm:SE n m)(hr:Y4 n r):Y4 n (.cons m r):=fun κ es l σ Q X h hs v=>by
 obtain ⟨x,h0,h⟩:=Zf h
 have:=Xj h0
 subst this
 obtain ⟨h1,h2⟩:=Zp h
 obtain ⟨s1,s2⟩:=Zd6 hs
 exact ZC.cons s1 (WE.mono (hm κ _ l σ _ _ h1 v) (fun va σ₁ q=>hr κ _ l σ₁ _ _ h2 s2 q) fun _ _ x=>x)
theorem Zfl:SA n .nil:=fun o κ es l σ Q X pos h v=>False.elim v
theorem Zfk {m:ME}{r:MEs}(hm:SE n m)(hr:SA n r):SA n (.cons m r):=fun o κ es l σ Q X pos h v=>by
 obtain ⟨x,h0,h⟩:=Zf h
 have:=Xj h0
 subst this
 obtain ⟨h1,h2⟩:=Zp h
 cases r with
|nil=>
  rw [YY h2]
  exact WE.bool1 (hm κ _ l σ _ _ h1 v)
|cons m2 r=>
  obtain ⟨y,k0,k⟩:=Zf h2
  have e:=Xj k0
  rw [e] at h2 ⊢
  cases o with
 |And=>
   refine WE.and (WE.mono (hm κ _ l σ _ _ h1 v) (fun va σ₁ q=>?_) fun _ _ x=>x)
   obtain ⟨b,rfl,q⟩:=VF q
   refine ⟨b,rfl,?_⟩
   cases b with
  |true=>exact hr .And κ _ l σ₁ _ _ pos h2 q
  |false=>exact q
 |Or=>
   refine WE.or (WE.mono (hm κ _ l σ _ _ h1 v) (fun va σ₁ q=>?_) fun _ _ x=>x)
   obtain ⟨b,rfl,q⟩:=VF q
   refine ⟨b,rfl,?_⟩
   cases b with
  |true=>exact q
  |false=>exact hr .Or κ _ l σ₁ _ _ pos h2 q
theorem Zfn:Ur n .nil:=fun o κ es l σ Q X h v=>by
 rw [YY h]
 cases o<;>exact WA.nil v
theorem Zfm {m:ME}{r:MEs}(hm:ST n m)(hr:Ur n r):Ur n (.cons m r):=fun o κ es l σ Q X h v=>by
 obtain ⟨x,h0,h⟩:=Zf h
 have:=Xj h0
 subst this
 obtain ⟨h1,h2⟩:=Zp h
 cases o with
|And=>
  refine WA.and (WT.mono (hm κ _ l σ _ _ h1 v) fun b σ₁ q=>?_)
  cases b with
 |true=>exact hr .And κ _ l σ₁ _ _ h2 q
 |false=>exact q
|Or=>
  refine WA.or (WT.mono (hm κ _ l σ _ _ h1 v) fun b σ₁ q=>?_)
  cases b with
 |true=>exact q
 |false=>exact hr .Or κ _ l σ₁ _ _ h2 q
theorem Zfr:VB n .nil:=fun κ ifs elt l σ Q me hE h hl v=>by
 rw [YY h]
 exact hE _ _ _ v
theorem Zfq {m:ME}{r:MEs}(hm:ST n m):VB n (.cons m r):=fun κ ifs elt l σ Q me hE h hl v=>by
 obtain ⟨x,h0,h⟩:=Zf h
 have e:=Xj h0
 obtain ⟨x1,x2⟩:=x
 dsimp only at e
 subst e
 obtain ⟨h1,h2⟩:=Zp h
 cases x2 with
|cons _ _=>simp at hl
|nil=>
  cases r with
 |cons _ _=>cases h2
 |nil=>
   refine WT.mono (hm κ _ l σ _ _ h1 v) fun b σ₁ q=>?_
   cases b with
  |true=>exact hE _ _ _ q
  |false=>exact q
theorem Zft {o:Yt}{m:ME}(hm:SE n m):SC n (.one o m):=fun va κ pos ops es l σ Q X h v=>by
 obtain ⟨op,e0,h⟩:=Yp h
 obtain ⟨w,e1,h⟩:=Yp h
 obtain ⟨h1,h2⟩:=Zp h
 rw [e0,e1,ZM h1]
 exact WC.one (hm κ _ l σ _ _ h2 v)
theorem Zfs {o:Yt}{m:ME}{r:MC}(hm:SE n m)(hr:SC n r):SC n (.more o m r):=fun va κ pos ops es l σ Q X h v=>by
 obtain ⟨x,h0,h⟩:=Zf h
 obtain ⟨y,h1,h⟩:=Zf h
 obtain ⟨x1,x2⟩:=x
 obtain ⟨y1,y2⟩:=y
 rw [Xj h0,Xj h1]
 obtain ⟨h2,h3,h4,h5,h6⟩:=Vc h
 cases x2 with
|nil=>cases h2
|cons x2 x3=>cases y2 with
 |nil=>cases h3
 |cons y2 y3=>
   dsimp only at h4 h5 h6 ⊢
   rw [ZM h4]
   refine WC.more (WE.mono (hm κ _ l σ _ _ h5 v) (fun vb σ₁ q=>NM (fun b q=>?_) q) fun _ _ x=>x)
   cases b with
  |true=>exact hr vb κ pos _ _ l σ₁ _ _ h6 q
  |false=>exact q
theorem Zfv {o:Yt}{m:ME}(hm:SE n m):Us n (.one o m):=fun va κ pos ops es l σ Q X h v=>by
 obtain ⟨op,e0,h⟩:=Yp h
 obtain ⟨w,e1,h⟩:=Yp h
 obtain ⟨h1,h2⟩:=Zp h
 rw [e0,e1,ZM h1]
 exact XY.one (hm κ _ l σ _ _ h2 v)
theorem Zfu {o:Yt}{m:ME}{r:MC}(hm:SE n m)(hr:Us n r):Us n (.more o m r):=fun va κ pos ops es l σ Q X h v=>by
 obtain ⟨x,h0,h⟩:=Zf h
 obtain ⟨y,h1,h⟩:=Zf h
 obtain ⟨x1,x2⟩:=x
 obtain ⟨y1,y2⟩:=y
 rw [Xj h0,Xj h1]
 obtain ⟨h2,h3,h4,h5,h6⟩:=Vc h
 cases x2 with
|nil=>cases h2
|cons x2 x3=>cases y2 with
 |nil=>cases h3
 |cons y2 y3=>
   dsimp only at h4 h5 h6 ⊢
   rw [ZM h4]
   refine XY.more (WE.mono (hm κ _ l σ _ _ h5 v) (fun vb σ₁ q=>NM (fun b q=>?_) q) fun _ _ x=>x)
   cases b with
  |true=>exact hr vb κ pos _ _ l σ₁ _ _ h6 q
  |false=>exact q
theorem Zf4 {m:ME}(hm:SE n m):SI n (.val m):=fun κ e l σ Q X h v=>WI.val (hm κ _ l σ _ _ h v)
theorem Zez {m:ME}{κ:Cx}{e:Expr}:repI (.rng1 m) κ e=YX e fun x vs=>Yo κ x (Zs "range")&&Yl vs fun v=>!ZQ v&&Zu m κ v:=rfl
theorem ZeA {a b:ME}{κ:Cx}{e:Expr}:repI (.rng2 a b) κ e=YX e fun x vs=>Yo κ x (Zs "range")&&Wy vs fun v v'=>!ZQ v&&(!ZQ v'&&(Zu a κ v&&Zu b κ v')):=rfl
theorem Zey {m:ME}{κ:Cx}{e:Expr}:repI (.enm m) κ e=YX e fun x vs=>Yo κ x (Zs "enumerate")&&Yl vs fun v=>!ZQ v&&Zu m κ v:=rfl
theorem Zf2 {m:ME}(hm:SE n m):SI n (.rng1 m):=fun κ e l σ Q X h v=>by
 obtain ⟨x,q,vs,p,e0,h⟩:=XH (Zez.symm.trans h)
 obtain ⟨h1,h⟩:=Zp h
 obtain ⟨w,e1,h⟩:=Yp h
 obtain ⟨h2,h3⟩:=Zp h
 obtain ⟨g1,g2,_⟩:=Xi h1
 rw [g1] at g2 e0
 rw [e0,e1]
 exact WI.rng1 g2 (Yw h2) (WE.mono (hm κ _ l σ _ _ h3 v) (fun va σ₁ q=>X7 q) fun _ _ x=>x)
theorem Zf3 (ha:SE n a)(hb:SE n b):SI n (.rng2 a b):=fun κ e l σ Q X h v=>by
 obtain ⟨x,q,vs,p,e0,h⟩:=XH (ZeA.symm.trans h)
 obtain ⟨h1,h⟩:=Zp h
 obtain ⟨w,w',e1,h⟩:=UK h
 obtain ⟨h2,h3,h4,h5⟩:=YG h
 obtain ⟨g1,g2,_⟩:=Xi h1
 rw [g1] at g2 e0
 rw [e0,e1]
 exact WI.rng2 g2 (Yw h2) (Yw h3) (WE.mono (ha κ _ l σ _ _ h4 v) (fun va σ₁ q=>WE.mono (hb κ _ l σ₁ _ _ h5 q) (fun vb σ₂ q=>by
  obtain ⟨a,e1,q⟩:=X7 q
  obtain ⟨b,e2,q⟩:=X7 q
  exact ⟨a,b,e1,e2,q⟩) fun _ _ x=>x) fun _ _ x=>x)
theorem Zf1 {m:ME}(hm:SE n m):SI n (.enm m):=fun κ e l σ Q X h v=>by
 obtain ⟨x,q,vs,p,e0,h⟩:=XH (Zey.symm.trans h)
 obtain ⟨h1,h⟩:=Zp h
 obtain ⟨w,e1,h⟩:=Yp h
 obtain ⟨h2,h3⟩:=Zp h
 obtain ⟨g1,g2,_⟩:=Xi h1
 rw [g1] at g2 e0
 rw [e0,e1]
 exact WI.enm g2 (Yw h2) (WE.mono (hm κ _ l σ _ _ h3 v) (fun va σ₁ q=>by
  obtain ⟨x,e1,ls,q⟩:=DR q
  exact ⟨x,ls,e1,q⟩) fun _ _ x=>x)
structure Zr (n:Nat)(m:ME):Prop where
 e:SE n m
 t:ST n m
structure YO (n:Nat)(m:MEs):Prop where
 es:Y4 n m
 a:SA n m
 at_:Ur n m
 ct:VB n m
structure Vb (n:Nat)(m:MC):Prop where
 c:SC n m
 t:Us n m
theorem YU {m:ME}(h:SE n m)(hv:∀ l σ Q X,vT n m l σ Q X→False):Zr n m:=⟨h,Zgx hv⟩
theorem ZgK (hn:n≠0):(∀ m,Zr n m)∧(∀ m,YO n m)∧(∀ m,SI n m):=
 let f1:∀ i,Zr n (.slot i):=fun _=>⟨ZfV,Zgz⟩
 let f2:∀ v,Zr n (.const v):=fun _=>⟨ZfF,Zgt⟩
 let f3:Zr n .hole:=YU ZfJ fun _ _ _ _ x=>x
 let f4:Zr n .dict0:=YU ZfG fun _ _ _ _ x=>x
 let f5:∀ o a b,Zr n a→Zr n b→Zr n (.bin o a b):=fun _ _ _ ha hb=>YU (Zfx ha.e hb.e) fun _ _ _ _ x=>x
 let f6:∀ a,Zr n a→Zr n (.neg a):=fun _ ha=>YU (ZfQ ha.e) fun _ _ _ _ x=>x
 let f7:∀ a,Zr n a→Zr n (.not a):=fun _ ha=>⟨ZfS ha.e,Zgy ha.t⟩
 let f8:∀ o es,YO n es→Zr n (.bools o es):=fun _ _ hs=>⟨ZfB hs.a,Zgq hs.at_⟩
 let f9:∀ t a b,Zr n t→Zr n a→Zr n b→Zr n (.ife t a b):=fun _ _ _ ht ha hb=>⟨ZfL ht.t ha.e hb.e,Zgu ht.t ha.t hb.t⟩
 let f10:∀ a c,Zr n a→Vb n c→Zr n (.cmp a c):=fun _ _ ha hc=>⟨ZfD ha.e hc.c,Zgs ha.e hc.t⟩
 let f11:∀ es,YO n es→Zr n (.list es):=fun _ hs=>YU (ZfO hs.es) fun _ _ _ _ x=>x
 let f12:∀ es,YO n es→Zr n (.tup es):=fun _ hs=>YU (ZfW hs.es) fun _ _ _ _ x=>x
 let f13:∀ a b,Zr n a→Zr n b→Zr n (.idx a b):=fun _ _ ha hb=>YU (ZfK ha.e hb.e) fun _ _ _ _ x=>x
 let f14:∀ a lo hi,Zr n a→Zr n lo→Zr n hi→Zr n (.slice a lo hi):=fun _ _ _ ha hl hh=>YU (ZfU ha.e hl.e hh.e) fun _ _ _ _ x=>x
 let f15:∀ a f,Zr n a→Zr n (.attr a f):=fun _ _ ha=>YU (Zfw ha.e) fun _ _ _ _ x=>x
 let f16:∀ b es,YO n es→Zr n (.blt b es):=fun _ _ hs=>YU (Zfy hn hs.es) fun _ _ _ _ x=>x
 let f17:∀ b es,YO n es→Zr n (.blx b es):=fun _ _ hs=>YU (Zfz hn hs.es) fun _ _ _ _ x=>x
 let f18:∀ b o es,Zr n o→YO n es→Zr n (.bm b o es):=fun _ _ _ ha hs=>YU (ZfA ha.e hs.es) fun _ _ _ _ x=>x
 let f19:∀ f es,YO n es→Zr n (.call f es):=fun _ _ hs=>⟨ZfC hs.es,Zgr hs.es⟩
 let f20:∀ m o es,Zr n o→YO n es→Zr n (.om m o es):=fun _ _ _ ha hs=>YU (ZfT ha.e hs.es) fun _ _ _ _ x=>x
 let f21:∀ c es,YO n es→Zr n (.new c es):=fun _ _ hs=>YU (ZfR hs.es) fun _ _ _ _ x=>x
 let f22:∀ a,Zr n a→Zr n (.isint a):=fun _ ha=>⟨ZfN ha.e,Zgw ha.e⟩
 let f23:∀ a,Zr n a→Zr n (.isbool a):=fun _ ha=>⟨ZfM ha.e,Zgv ha.e⟩
 let f24:∀ a,Zr n a→Zr n (.fstr a):=fun _ ha=>YU (ZfI ha.e) fun _ _ _ _ x=>x
 let f25:∀ es,YO n es→Zr n (.excInit es):=fun _ hs=>YU (ZfH hs.es) fun _ _ _ _ x=>x
 let f26:∀ a b,Zr n a→Zr n b→Zr n (.listRange a b):=fun _ _ ha hb=>YU (ZfP hn ha.e hb.e) fun _ _ _ _ x=>x
 let f27:∀ it ys caps is ifs elt,SI n it→YO n ifs→Zr n elt→Zr n (.comp it ys caps is ifs elt):=fun _ _ _ _ _ _ hi hs he=>YU (ZfE hn hi hs.ct he.e) fun _ _ _ _ x=>x
 let g1:YO n .nil:=⟨ZfY,Zfl,Zfn,Zfr⟩
 let g2:∀ e r,Zr n e→YO n r→YO n (.cons e r):=fun _ _ he hr=>⟨ZfX he.e hr.es,Zfk he.e hr.a,Zfm he.t hr.at_,Zfq he.t⟩
 let h1:∀ o e,Zr n e→Vb n (.one o e):=fun _ _ he=>⟨Zft he.e,Zfv he.e⟩
 let h2:∀ o e r,Zr n e→Vb n r→Vb n (.more o e r):=fun _ _ _ he hr=>⟨Zfs he.e hr.c,Zfu he.e hr.t⟩
 let k1:∀ e,Zr n e→SI n (.val e):=fun _ he=>Zf4 he.e
 let k2:∀ e,Zr n e→SI n (.rng1 e):=fun _ he=>Zf2 he.e
 let k3:∀ a b,Zr n a→Zr n b→SI n (.rng2 a b):=fun _ _ ha hb=>Zf3 ha.e hb.e
 let k4:∀ e,Zr n e→SI n (.enm e):=fun _ he=>Zf1 he.e
 ⟨@ME.rec (Zr n) (YO n) (Vb n) (SI n) f1 f2 f3 f4 f5 f6 f7 f8 f9 f10 f11 f12 f13 f14 f15 f16 f17 f18 f19 f20 f21 f22 f23 f24 f25 f26 f27 g1 g2 h1 h2 k1 k2 k3 k4,
  @MEs.rec (Zr n) (YO n) (Vb n) (SI n) f1 f2 f3 f4 f5 f6 f7 f8 f9 f10 f11 f12 f13 f14 f15 f16 f17 f18 f19 f20 f21 f22 f23 f24 f25 f26 f27 g1 g2 h1 h2 k1 k2 k3 k4,
  @MI.rec (Zr n) (YO n) (Vb n) (SI n) f1 f2 f3 f4 f5 f6 f7 f8 f9 f10 f11 f12 f13 f14 f15 f16 f17 f18 f19 f20 f21 f22 f23 f24 f25 f26 f27 g1 g2 h1 h2 k1 k2 k3 k4⟩
end
theorem WS.mono {n:Nat}{κ:Cx}{st:Stmt}{l:Zc}{σ:List Za}{Q Q':SQ}{X X':SX}(h:WS n κ st l σ Q X)(hq:∀ a l σ,Q a l σ→Q' a l σ)(hx:∀ c l σ,X c l σ→X' c l σ):WS n κ st l σ Q' X':=
 fun φ ex β s Qc Ec hr hf hc R kQ kX=>h φ ex β s Qc Ec hr hf hc R (fun f af l' σ' β' s' q=>kQ f af l' σ' β' s' (hq _ _ _ q)) fun c l' σ' β' e s' x=>kX c l' σ' β' e s' (hx _ _ _ x)
theorem ZbS {a i:AV}{σ:List Za}{Q Q':Zq}(hq:∀ v σ,Q v σ→Q' v σ)(h:X5 a i σ Q):X5 a i σ Q':=by
 cases a with
|obj x=>cases i with
 |int k=>exact h.imp (fun ⟨ls,h1,h2,h3,v,h4,h5⟩=>⟨ls,h1,h2,h3,v,h4,hq _ _ h5⟩) fun ⟨kvs,ep,h1,h2,v,h3,h4⟩=>⟨kvs,ep,h1,h2,v,h3,hq _ _ h4⟩
 |_=>exact h
|bytes l=>cases i with
 |int k=>obtain ⟨h1,h2,b,h3,h4⟩:=h;exact ⟨h1,h2,b,h3,hq _ _ h4⟩
 |_=>exact h
|_=>cases i<;>exact h
theorem ZbJ {f:ZE}{a:AV}{σ:List Za}{Q Q':Zq}(hq:∀ v σ,Q v σ→Q' v σ)(h:WQ f a σ Q):WQ f a σ Q':=by
 cases a with
|obj x=>obtain ⟨c,fs,h1,v,h2,h3⟩:=h;exact ⟨c,fs,h1,v,h2,hq _ _ h3⟩
|_=>exact h
section
variable {κ:Cx}
theorem ZgN {r:MR}{body:List Stmt}{l:Zc}{σ:List Za}{Q:SQ}(h:Jg r κ body=true)(v:GL r l σ Q):WB 0 κ body l σ Q (fun _ _ _=>False):=by
 cases r with
|const c=>
  unfold Jg at h
  dsimp only at h
  obtain ⟨s,e0,h⟩:=Yp h
  obtain ⟨x,h1,h⟩:=Zf h
  obtain ⟨p,e1⟩:=Ji h1
  obtain ⟨e,e2,h⟩:=Zf h
  obtain ⟨c',h2,h⟩:=Zf h
  obtain ⟨k,p',e3⟩:=Uz h2
  rw [e0,e1,e2,e3]
  exact WB.cons (WS.ret (WE.const (ZM h) v))
|tup i c=>
  unfold Jg at h
  dsimp only at h
  obtain ⟨s,e0,h⟩:=Yp h
  obtain ⟨x,h1,h⟩:=Zf h
  obtain ⟨p,e1⟩:=Ji h1
  obtain ⟨e,e2,h⟩:=Zf h
  obtain ⟨vs,h2,h⟩:=Zf h
  obtain ⟨k,p',e3⟩:=WM h2
  obtain ⟨a,b,e4,h⟩:=UK h
  obtain ⟨y,h3,h⟩:=Zf h
  obtain ⟨q,e5⟩:=Xf h3
  obtain ⟨h4,h5,h⟩:=Y5 h
  obtain ⟨c',h6,h⟩:=Zf h
  obtain ⟨k',q',e6⟩:=Uz h6
  obtain ⟨w,v1,v2⟩:=Jj v
  rw [e0,e1,e2,e3,e4,e5,e6]
  refine WB.cons (WS.ret (WE.tup (ZC.cons rfl (WE.name (ZM h4) (Wu h5).1 (Wu h5).2 v1 (ZC.cons rfl (WE.const (ZM h) (ZC.nil ⟨?_,v2⟩)))))))
  show 2≤sizeLine
  unfold sizeLine;decide
theorem ZhJ {d c:XN}:Jr d c=decide (d=c):=by cases d<;>cases c<;>rfl
theorem ZgM {c:XN}:∀ (m:MH) (hs:List ExceptHandler) (l:Zc) (σ:List Za) (Q:SQ),D3 m κ hs=true→vH c m l σ Q→UH κ c (fun suite=>WB 0 κ suite l σ Q fun _ _ _=>False) hs:=by
 intro m
 induction m with
|nil=>intro hs l σ Q h v;exact False.elim v
|cons d r rest ih=>
  intro hs l σ Q h v
  obtain ⟨x,h0,h⟩:=Zf h
  obtain ⟨h1,h⟩:=Zp h
  obtain ⟨t,h2,h⟩:=Zf h
  obtain ⟨y,h3,h⟩:=Zf h
  obtain ⟨q,e3⟩:=Xf h3
  obtain ⟨h4,h5,h6,h7⟩:=YG h
  obtain ⟨g1,g2,g3⟩:=Xi h5
  obtain ⟨p,ep⟩:=ZbN x.1
  rw [Xj h0,ep,h2,TW h1,e3]
  obtain ⟨b,bs,eb⟩:∃ b bs,(WU x.1).2.2=b::bs:=by
   cases eb:(WU x.1).2.2 with
  |nil=>rw [eb] at h6;cases r<;>cases h6
  |cons b bs=>exact ⟨b,bs,rfl⟩
  rw [eb] at h6 ⊢
  have v':=ZbU v
  rw [ZhJ] at v'
  refine .mk d (ZM h4) g2 g3 (fun hd=>?_) fun hd=>?_
  ·rw [if_pos (decide_eq_true hd)] at v'
   exact ZgN h6 v'
  ·rw [if_neg fun q=>hd (of_decide_eq_true q)] at v'
   exact ih x.2 l σ Q h7 v'
end
section
variable {n:Nat}
noncomputable def SS (n:Nat)(m:MS):Prop:=∀ (κ:Cx) (st:Stmt) (l:Zc) (σ:List Za) (Q:SQ) (X:SX),κ.xs.Nodup→C5 m κ st=true→vS n m l σ Q X→WS n κ st l σ Q X
noncomputable def SB (n:Nat)(m:MB):Prop:=∀ (κ:Cx) (st:List Stmt) (l:Zc) (σ:List Za) (Q:SQ) (X:SX),κ.xs.Nodup→repB m κ st=true→vB n m l σ Q X→WB n κ st l σ Q X
variable {o a t i v:ME}{es:MEs}{b:MB}
theorem Zf9 {i:Nat}(ha:SE n a):SS n (.assign i a):=fun κ st l σ Q X nd h w=>by
 obtain ⟨x,h0,h⟩:=Zf h
 obtain ⟨p,e0⟩:=W5 h0
 obtain ⟨t,e1,h⟩:=Yp h
 obtain ⟨y,h1,h⟩:=Zf h
 obtain ⟨q,e2⟩:=Xf h1
 obtain ⟨h2,h3,h4⟩:=Y5 h
 rw [e0,e1,e2]
 exact WS.assign (Yw h2) h3 nd (ha κ _ l σ _ _ h4 w)
theorem Zga {i:Nat}{o:Yj}(ha:SE n a):SS n (.aug i o a):=fun κ st l σ Q X nd h w=>by
 obtain ⟨x,h0,h⟩:=Zf h
 obtain ⟨p,e0⟩:=D8 h0
 obtain ⟨y,h1,h⟩:=Zf h
 obtain ⟨q,e1⟩:=Xf h1
 obtain ⟨h2,h3,h4,h5⟩:=YG h
 obtain ⟨old,w1,w2⟩:=Jj w
 rw [e0,e1,ZM h2]
 exact WS.aug (Wu h3).1 (Wu h3).2 h4 nd w1 (ha κ _ l σ _ _ h5 w2)
theorem Zgl (ho:SE n o)(hi:SE n i)(hv:SE n v):SS n (.setIdx o i v):=fun κ st l σ Q X nd h w=>by
 obtain ⟨x,h0,h⟩:=Zf h
 obtain ⟨p,e0⟩:=W5 h0
 obtain ⟨t,e1,h⟩:=Yp h
 obtain ⟨y,h1,h⟩:=Zf h
 obtain ⟨q,e2⟩:=Gu h1
 obtain ⟨h2,h3,h4,h5⟩:=YG h
 rw [e0,e1,e2]
 exact WS.setIdx (Yw h2) (WE.mono (hv κ _ l σ _ _ h3 w) (fun a σ₁ q=>WE.mono (ho κ _ l σ₁ _ _ h4 q) (fun b σ₂ q=>hi κ _ l σ₂ _ _ h5 q) fun _ _ x=>x) fun _ _ x=>x)
theorem Zgc {p:Yj}(ho:SE n o)(hi:SE n i)(hv:SE n v):SS n (.augIdx o i p v):=fun κ st l σ Q X nd h w=>by
 obtain ⟨x,h0,h⟩:=Zf h
 obtain ⟨p,e0⟩:=D8 h0
 obtain ⟨y,h1,h⟩:=Zf h
 obtain ⟨q,e1⟩:=Gu h1
 obtain ⟨h2,h3,h4,h5,h6⟩:=Vc h
 rw [e0,e1,ZM h2]
 exact WS.augIdx (Yw h3) (WE.mono (ho κ _ l σ _ _ h5 w) (fun a σ₁ q=>WE.mono (hi κ _ l σ₁ _ _ h6 q) (fun b σ₂ q=>ZbS (fun c σ₃ q=>hv κ _ l σ₃ _ _ h4 q) q) fun _ _ x=>x) fun _ _ x=>x)
theorem Zgk {f:ZE}(ho:SE n o)(hv:SE n v):SS n (.setAttr o f v):=fun κ st l σ Q X nd h w=>by
 obtain ⟨x,h0,h⟩:=Zf h
 obtain ⟨p,e0⟩:=W5 h0
 obtain ⟨t,e1,h⟩:=Yp h
 obtain ⟨y,h1,h⟩:=Zf h
 have e2:=Ux h1
 obtain ⟨h2,h3,h4,h5⟩:=YG h
 rw [e0,e1,e2,ZM h3]
 exact WS.setAttr (Yw h2) (WE.mono (hv κ _ l σ _ _ h4 w) (fun a σ₁ q=>ho κ _ l σ₁ _ _ h5 q) fun _ _ x=>x)
theorem Zgb {f:ZE}{p:Yj}(ho:SE n o)(hv:SE n v):SS n (.augAttr o f p v):=fun κ st l σ Q X nd h w=>by
 obtain ⟨x,h0,h⟩:=Zf h
 obtain ⟨p,e0⟩:=D8 h0
 obtain ⟨y,h1,h⟩:=Zf h
 have e1:=Ux h1
 obtain ⟨h2,h3,h4,h5⟩:=YG h
 rw [e0,e1,ZM h2,ZM h3]
 exact WS.augAttr (WE.mono (ho κ _ l σ _ _ h5 w) (fun a σ₁ q=>ZbJ (fun c σ₃ q=>hv κ _ l σ₃ _ _ h4 q) q) fun _ _ x=>x)
theorem Zgi (ha:SE n a):SS n (.ret a):=fun κ st l σ Q X nd h w=>by
 obtain ⟨x,h0,h⟩:=Zf h
 obtain ⟨p,e0⟩:=Ji h0
 obtain ⟨y,e1,h⟩:=Zf h
 rw [e0,e1]
 exact WS.ret (ha κ _ l σ _ _ h w)
theorem Zgj:SS n .ret0:=fun κ st l σ Q X nd h w=>by
 obtain ⟨x,h0,h⟩:=Zf h
 obtain ⟨p,e0⟩:=Ji h0
 rw [e0,TW h]
 exact WS.ret0 w
theorem Zgg {b':MB}(ht:ST n t)(ha:SB n b)(hb:SB n b'):SS n (.ifs t b b'):=fun κ st l σ Q X nd h w=>by
 obtain ⟨x,h0,h⟩:=Zf h
 obtain ⟨p,e0⟩:=Zf5 h0
 obtain ⟨h1,h2,h3⟩:=Y5 h
 rw [e0]
 refine WS.ifs (WT.mono (ht κ _ l σ _ _ h1 w) fun c σ₁ q=>?_)
 cases c with
|true=>exact ha κ _ l σ₁ _ _ nd h2 q
|false=>exact hb κ _ l σ₁ _ _ nd h3 q
theorem Zge (ha:SE n a):SS n (.expr a):=fun κ st l σ Q X nd h w=>by
 obtain ⟨x,h0,h⟩:=Zf h
 obtain ⟨p,e0⟩:=ZfZ h0
 obtain ⟨h1,h2⟩:=Zp h
 rw [e0]
 exact WS.expr (Yw h1) (WE.mono (ha κ _ l σ _ _ h2 w) (fun _ _ q=>Zd8 q) fun _ _ x=>x)
theorem Zgn {is:List Nat}(hn:n≠0)(hs:Y4 n es):SS n (.tup is es):=fun κ st l σ Q X nd h w=>by
 obtain ⟨x,h0,h⟩:=Zf h
 obtain ⟨p,e0⟩:=W5 h0
 obtain ⟨t,e1,h⟩:=Yp h
 obtain ⟨y,h1,h⟩:=Zf h
 obtain ⟨k,q,e2⟩:=WM h1
 obtain ⟨z,h2,h⟩:=Zf h
 obtain ⟨k',q',e3⟩:=WM h2
 obtain ⟨h3,h4,h5,h6⟩:=YG h
 rw [e0,e1,e2,e3]
 exact WS.tup hn nd h3 h4 (hs κ _ l σ _ _ h6 h5 w)
theorem Zgo {is:List Nat}(hn:n≠0)(hs:Y4 n es):SS n (.tupSwap is es):=fun κ st l σ Q X nd h w=>by
 obtain ⟨x,h0,h⟩:=Zf h
 obtain ⟨p,e0⟩:=W5 h0
 obtain ⟨t,e1,h⟩:=Yp h
 obtain ⟨y,h1,h⟩:=Zf h
 obtain ⟨k,q,e2⟩:=WM h1
 obtain ⟨z,h2,h⟩:=Zf h
 obtain ⟨k',q',e3⟩:=WM h2
 obtain ⟨h3,h4,h5,h6⟩:=YG h
 rw [e0,e1,e2,e3]
 exact WS.tupSwap hn nd h3 h4 (hs κ _ l σ _ _ h6 h5 w)
theorem Zgf {is:List Nat}{it:MI}(hn:n≠0)(hi:SI n it)(hb:SB n b):SS n (.for is it b):=fun κ st l σ Q X nd h w=>by
 obtain ⟨x,h0,h⟩:=Zf h
 obtain ⟨p,e0⟩:=Zf0 h0
 obtain ⟨h1,h2,h3,h4,h5⟩:=Vc h
 rw [e0,YY h1]
 exact WS.for hn nd h2 (Yw h3) (WI.mono (hi κ _ l σ _ _ h4 w) (fun ait σ₁ q=>by
  obtain ⟨i0z,I,q1,q2,q3,q4,q5⟩:=q
  exact ⟨i0z,I,q1,q2,q3,fun k l σ' avs a c=>hb κ _ _ σ' _ _ nd h5 (q4 k l σ' avs a c),q5⟩) fun _ _ x=>x)
theorem Zgp (ht:ST n t)(hb:SB n b):SS n (.while t b):=fun κ st l σ Q X nd h w=>by
 obtain ⟨x,h0,h⟩:=Zf h
 obtain ⟨p,e0⟩:=ZgB h0
 obtain ⟨h1,h2,h3⟩:=Y5 h
 obtain ⟨I,m,w1,w2⟩:=w
 rw [e0,YY h1]
 refine WS.while ⟨I,m,w1,fun m l σ' a=>WT.mono (ht κ _ l σ' _ _ h2 (w2 m l σ' a)) fun c σ₁ q=>?_⟩
 cases c with
|true=>exact hb κ _ l σ₁ _ _ nd h3 q
|false=>exact q
theorem Zgh {c:XN}(hn:2≤n)(ha:SE n a):SS n (.raise c a):=fun κ st l σ Q X nd h w=>by
 obtain ⟨x,h0,h⟩:=Zf h
 obtain ⟨p,e0⟩:=Zf6 h0
 obtain ⟨h1,h⟩:=Zp h
 obtain ⟨y,e1,h⟩:=Zf h
 obtain ⟨z,q,vs,p',e2,h⟩:=XH h
 obtain ⟨u,e3,h⟩:=Yp h
 obtain ⟨h2,h3,h4,h5⟩:=YG h
 obtain ⟨g1,g2,g3⟩:=Xi h3
 rw [e0,e1,e2,e3,TW h1]
 exact WS.raise hn (ZM h2) g2 g3 h4 (ha κ _ l σ _ _ h5 w)
theorem Zgm {hd:MH}(hb:SB n b):SS n (.tryE b hd):=fun κ st l σ Q X nd h w=>by
 obtain ⟨x,h0,h⟩:=Zf h
 obtain ⟨p,e0⟩:=ZgA h0
 obtain ⟨x1,x2,x3,x4⟩:=x
 obtain ⟨h1,h2,h3,h4,h5⟩:=Vc h
 rw [e0]
 dsimp only at h1 h2 h3 h4 h5 ⊢
 rw [YY h1,YY h2]
 cases x2 with
|nil=>cases h5
|cons h0 hs=>exact WS.try (hb κ _ l σ _ _ nd h3 w) fun c l' σ' y=>ZgM hd _ l' σ' Q h4 y
theorem Zgd (ho:SE n o)(hv:SE n v):SS n (.excSet o v):=fun κ st l σ Q X nd h w=>by
 obtain ⟨x,h0,h⟩:=Zf h
 obtain ⟨p,e0⟩:=W5 h0
 obtain ⟨t,e1,h⟩:=Yp h
 obtain ⟨y,h1,h⟩:=Zf h
 have e2:=Ux h1
 obtain ⟨h2,h3,h4,h5⟩:=YG h
 rw [e0,e1,e2,ZM h3]
 exact WS.excSet (Yw h2) (WE.mono (hv κ _ l σ _ _ h4 w) (fun a σ₁ q=>WE.mono (ho κ _ l σ₁ _ _ h5 q) (fun vo σ₂ q=>by
  obtain ⟨x,e,c,q⟩:=DR q
  exact ⟨x,c,e,q⟩) fun _ _ x=>x) fun _ _ x=>x)
theorem Zf7 {i:Nat}{it:MI}{ys:List Str}{caps:List (Option Nat)}{is:List Nat}{ifs:MEs}{elt:ME}(hn:n≠0)(hit:SI n it)(hi:VB n ifs)(he:SE n elt):SS n (.asComp i it ys caps is ifs elt):=fun κ st l σ Q X nd h w=>by
 obtain ⟨x',h0,h⟩:=Zf h
 obtain ⟨p,e0⟩:=W5 h0
 obtain ⟨t,e1,h⟩:=Yp h
 obtain ⟨nm,h00,h⟩:=Zf h
 have e2:=Qp h00
 obtain ⟨x,h1,h⟩:=Zf h
 have e3:=J2 h1
 obtain ⟨g,hg,h⟩:=Yp h
 obtain ⟨h2,h3,h4,h5,h6,h7,h8,h9,h⟩:=RJ h
 obtain ⟨h10,h11⟩:=Zp h
 obtain ⟨b1,b2,b3,b4,b5⟩:=JH h5
 subst b5
 rw [e0,e1,e2,e3,hg,Gm g h2]
 exact WS.assignComp hn b1 b2 b3 b4 h3 h4 nd h6 (Yw h7) (WI.mono (hit κ _ l σ _ _ h9 w) (fun ait σ₁ q=>NQ (x:=x) (a:=0) hi he h10 h11 (of_decide_eq_true h8) q) fun _ _ x=>x)
theorem Zf8 {i i0 i1:Nat}{it it1:MI}{ys:List Str}{caps:List (Option Nat)}{elt:ME}(hn:n≠0)(hit:SI n it)(hit1:SI n it1)(he:SE n elt):SS n (.asComp2 i it ys caps i0 i1 it1 elt):=fun κ st l σ Q X nd h w=>by
 obtain ⟨x',h0,h⟩:=Zf h
 obtain ⟨p,e0⟩:=W5 h0
 obtain ⟨t,e1,h⟩:=Yp h
 obtain ⟨nm,h00,h⟩:=Zf h
 have e2:=Qp h00
 obtain ⟨x,h1,h⟩:=Zf h
 have e3:=J2 h1
 obtain ⟨g,g1,hg,h⟩:=UK h
 obtain ⟨h2,h2',hf,hf',h3,h4,h5,h⟩:=Gc h
 obtain ⟨y0,k0,h⟩:=Zf h
 obtain ⟨y1,k1,h⟩:=Zf h
 obtain ⟨p0,d0⟩:=Xf k0
 obtain ⟨p1,d1⟩:=Xf k1
 obtain ⟨h6,h6',h01,h7,h7',h8,h9,h10⟩:=Gc h
 obtain ⟨b1,b2,b3,b4,b5⟩:=JH h5
 subst b5
 rw [d0] at h6
 rw [d1] at h6'
 rw [e0,e1,e2,e3,hg,Gm g h2,Gm g1 h2',YY hf,YY hf',d0,d1]
 exact WS.assignComp2 hn b1 b2 b3 b4 h3 h4 nd h6 h6' (fun q=>by rw [q] at h01;simp at h01) (Yw h7) (Yw h7') (WI.mono (hit κ _ l σ _ _ h8 w) (fun ait σ₁ q=>by
  obtain ⟨q0,i0z,I,q1,q2,q3,q4,q5⟩:=q
  refine ⟨q0,i0z,I,q1,q2,q3,fun k σ' av a b=>?_,q5⟩
  have q4':=q4 k σ' av a b
  rw [NF] at q4'
  refine WI.mono (hit1 _ _ _ σ' _ _ h9 q4') (fun ait1 σ₂ r=>?_) fun _ _ x=>x
  obtain ⟨r0,items1,I1,r1,r2,r3,r4,r5⟩:=r
  exact ⟨r0,items1,I1,r1,r2,r3,fun j σ₃ bvs a b=>he _ _ _ σ₃ _ _ h10 (r4 j σ₃ bvs a b),r5⟩) fun _ _ x=>x)
theorem Zfp:SB n .nil:=fun κ st l σ Q X nd h w=>by
 rw [YY h]
 exact WB.nil w
theorem Zfo {m:MS}(hm:SS n m)(hb:SB n b):SB n (.cons m b):=fun κ st l σ Q X nd h w=>by
 obtain ⟨x,h0,h⟩:=Zf h
 obtain ⟨h1,h2⟩:=Zp h
 rw [Xj h0]
 refine WB.cons (WS.mono (hm κ _ l σ _ _ nd h1 w) (fun af l₁ σ₁ q=>?_) fun _ _ _ x=>x)
 cases af with
|next=>exact hb κ _ l₁ σ₁ _ _ nd h2 q
|ret a=>exact q
theorem ZgL (hn:2≤n)(m:MB)(κ:Cx)(st:List Stmt)(l:Zc)(σ:List Za)(Q:SQ)(X:SX)(nd:κ.xs.Nodup)(h:repB m κ st=true)(v:vB n m l σ Q X):WB n κ st l σ Q X:=by
 have hn0:n≠0:=by grind
 obtain ⟨E,Es,I⟩:=ZgK hn0
 exact (@MB.rec (SS n) (SB n) (fun _ e=>Zf9 (E e).e) (fun _ _ e=>Zga (E e).e) (fun o i v=>Zgl (E o).e (E i).e (E v).e) (fun o i _ v=>Zgc (E o).e (E i).e (E v).e) (fun o _ v=>Zgk (E o).e (E v).e) (fun o _ _ v=>Zgb (E o).e (E v).e)
  (fun e=>Zgi (E e).e) Zgj (fun t _ _ ha hb=>Zgg (E t).t ha hb) (fun e=>Zge (E e).e) (fun _ es=>Zgn hn0 (Es es).es) (fun _ es=>Zgo hn0 (Es es).es) (fun _ it _ hb=>Zgf hn0 (I it) hb) (fun t _ hb=>Zgp (E t).t hb)
  (fun _ e=>Zgh hn (E e).e) (fun _ _ hb=>Zgm hb) (fun o v=>Zgd (E o).e (E v).e) (fun _ it _ _ _ ifs elt=>Zf7 hn0 (I it) (Es ifs).ct (E elt).e) (fun _ it _ _ _ _ it1 elt=>Zf8 hn0 (I it) (I it1) (E elt).e)
  Zfp (fun _ _ hm hb=>Zfo hm hb) m) κ st l σ Q X nd h v
end
theorem Zay:ZB 78 [Zs "lengths",Zs "longest"] (T0 7).2.1 (T0 7).2.2.names 2 [] where
 ex:=⟨_,_,_,_,_,_,_,_,_,_,_,_,_,_,fun w=>(show (KK w.params).lookup 78=some (Ua w.params) by kernel_rfl),fun w=>by kernel_rfl,rfl,by kernel_rfl,by kernel_rfl,by kernel_rfl,fun w s vs X hv=>by
  obtain ⟨a,b,rfl⟩:=YA hv
  exact BindsTo.of_eq rfl⟩
 len:=rfl
 nd:=by decide
 kinds:=by kernel_rfl
 cells:=by decide +kernel
noncomputable def ZcS:MB:=(.cons (.assign 2 (.bin .mul (.list (.cons (.const (.int 0)) .nil)) (.bin .add (.slot 1) (.const (.int 1))))) (.cons (.for [3] (.val (.slot 0)) (.cons (.ifs (.not (.cmp (.const (.int 0)) (.more .le (.slot 3) (.one .le (.slot 1))))) (.cons (.raise .badCode (.fstr (.slot 3))) .nil) .nil) (.cons (.augIdx (.slot 2) (.slot 3) .add (.const (.int 1))) .nil))) (.cons (.ret (.slot 2)) .nil)))
noncomputable abbrev Q7:List Str:=[Zs "lengths",Zs "longest",Zs "found",Zs "length"]
theorem ZeS:repB ZcS ⟨Q7,(T0 7).2.2.names⟩ (T0 7).2.1=true:=by kernel_rfl
theorem ZdA:Q7.Nodup:=by decide
theorem ZaX:ZB 85 [Zs "counts"] (T0 8).2.1 (T0 8).2.2.names 1 [] where
 ex:=⟨_,_,_,_,_,_,_,_,_,_,_,_,_,_,fun w=>(show (KK w.params).lookup 85=some (Ub w.params) by kernel_rfl),fun w=>by kernel_rfl,rfl,by kernel_rfl,by kernel_rfl,by kernel_rfl,fun w s vs X hv=>by
  obtain ⟨a,rfl⟩:=Xb hv
  exact BindsTo.of_eq rfl⟩
 len:=rfl
 nd:=by decide
 kinds:=by kernel_rfl
 cells:=by decide +kernel
noncomputable def Zdf:MB:=(.cons (.assign 1 (.const (.int 1))) (.cons (.for [2] (.val (.slice (.slot 0) (.const (.int 1)) .hole)) (.cons (.assign 1 (.bin .sub (.bin .mul (.slot 1) (.const (.int 2))) (.slot 2))) .nil)) (.cons (.ret (.slot 1)) .nil)))
noncomputable abbrev RA:List Str:=[Zs "counts",Zs "left",Zs "count"]
theorem Zfh:repB Zdf ⟨RA,(T0 8).2.2.names⟩ (T0 8).2.1=true:=by kernel_rfl
theorem ZdZ:RA.Nodup:=by decide
theorem ZaW:ZB 92 [Zs "lengths",Zs "longest"] (T0 9).2.1 (T0 9).2.2.names 2 [] where
 ex:=⟨_,_,_,_,_,_,_,_,_,_,_,_,_,_,fun w=>(show (KK w.params).lookup 92=some (Uc w.params) by kernel_rfl),fun w=>by kernel_rfl,rfl,by kernel_rfl,by kernel_rfl,by kernel_rfl,fun w s vs X hv=>by
  obtain ⟨a,b,rfl⟩:=YA hv
  exact BindsTo.of_eq rfl⟩
 len:=rfl
 nd:=by decide
 kinds:=by kernel_rfl
 cells:=by decide +kernel
noncomputable def Zde:MB:=(.cons (.ret (.call 85 (.cons (.call 78 (.cons (.slot 0) (.cons (.slot 1) .nil))) .nil))) .nil)
noncomputable abbrev Rz:List Str:=[Zs "lengths",Zs "longest"]
theorem Zfg:repB Zde ⟨Rz,(T0 9).2.2.names⟩ (T0 9).2.1=true:=by kernel_rfl
theorem ZdY:Rz.Nodup:=by decide
theorem Zax:ZB 100 [Zs "lengths",Zs "longest",Zs "lone"] (T0 10).2.1 (T0 10).2.2.names 3 [] where
 ex:=⟨_,_,_,_,_,_,_,_,_,_,_,_,_,_,fun w=>(show (KK w.params).lookup 100=some (Ue w.params) by kernel_rfl),fun w=>by kernel_rfl,rfl,by kernel_rfl,by kernel_rfl,by kernel_rfl,fun w s vs X hv=>by
  obtain ⟨a,b,c,rfl⟩:=Wm hv
  exact binds_K X (T:=93) (o:=Ud w.params) rfl (by kernel_rfl) rfl rfl rfl⟩
 len:=rfl
 nd:=by decide
 kinds:=by kernel_rfl
 cells:=by decide +kernel
noncomputable def ZcR:MB:=(.cons (.assign 3 (.call 78 (.cons (.slot 0) (.cons (.slot 1) .nil)))) (.cons (.assign 4 (.bin .sub (.blt .len (.cons (.slot 0) .nil)) (.idx (.slot 3) (.const (.int 0))))) (.cons (.ifs (.cmp (.slot 4) (.one .eq (.const (.int 0)))) (.cons (.ifs (.not (.slot 2)) (.cons (.raise .badCode (.const (.str [110,111,32,99,111,100,101,32,97,116,32,97,108,108]))) .nil) .nil) (.cons .ret0 .nil)) .nil) (.cons (.assign 5 (.call 85 (.cons (.slot 3) .nil))) (.cons (.ifs (.cmp (.slot 5) (.one .lt (.const (.int 0)))) (.cons (.raise .badCode (.const (.str [111,118,101,114,32,115,117,98,115,99,114,105,98,101,100]))) .nil) .nil) (.cons (.ifs (.bools .And (.cons (.cmp (.slot 5) (.one .gt (.const (.int 0)))) (.cons (.not (.bools .And (.cons (.slot 2) (.cons (.cmp (.slot 4) (.one .eq (.const (.int 1)))) (.cons (.cmp (.idx (.slot 3) (.const (.int 1))) (.one .eq (.const (.int 1)))) .nil))))) .nil))) (.cons (.raise .badCode (.const (.str [117,110,100,101,114,32,115,117,98,115,99,114,105,98,101,100]))) .nil) .nil) .nil))))))
noncomputable abbrev Q6:List Str:=[Zs "lengths",Zs "longest",Zs "lone",Zs "counts",Zs "used",Zs "left"]
theorem ZeR:repB ZcR ⟨Q6,(T0 10).2.2.names⟩ (T0 10).2.1=true:=by kernel_rfl
theorem Zdz:Q6.Nodup:=by decide
theorem ZaC:ZB 107 [Zs "lengths"] (T0 11).2.1 (T0 11).2.2.names 1 [] where
 ex:=⟨_,_,_,_,_,_,_,_,_,_,_,_,_,_,fun w=>(show (KK w.params).lookup 107=some (Uf w.params) by kernel_rfl),fun w=>by kernel_rfl,rfl,by kernel_rfl,by kernel_rfl,by kernel_rfl,fun w s vs X hv=>by
  obtain ⟨a,rfl⟩:=Xb hv
  exact BindsTo.of_eq rfl⟩
 len:=rfl
 nd:=by decide
 kinds:=by kernel_rfl
 cells:=by decide +kernel
noncomputable def ZcW:MB:=(.cons (.assign 1 (.const (.int 0))) (.cons (.for [2] (.val (.slot 0)) (.cons (.ifs (.cmp (.slot 2) (.one .gt (.slot 1))) (.cons (.assign 1 (.slot 2)) .nil) .nil) .nil)) (.cons (.ret (.slot 1)) .nil)))
noncomputable abbrev Rd:List Str:=[Zs "lengths",Zs "most",Zs "length"]
theorem ZeW:repB ZcW ⟨Rd,(T0 11).2.2.names⟩ (T0 11).2.1=true:=by kernel_rfl
theorem ZdE:Rd.Nodup:=by decide
theorem ZaA:ZB 114 [Zs "counts"] (T0 12).2.1 (T0 12).2.2.names 1 [] where
 ex:=⟨_,_,_,_,_,_,_,_,_,_,_,_,_,_,fun w=>(show (KK w.params).lookup 114=some (Ug w.params) by kernel_rfl),fun w=>by kernel_rfl,rfl,by kernel_rfl,by kernel_rfl,by kernel_rfl,fun w s vs X hv=>by
  obtain ⟨a,rfl⟩:=Xb hv
  exact BindsTo.of_eq rfl⟩
 len:=rfl
 nd:=by decide
 kinds:=by kernel_rfl
 cells:=by decide +kernel
noncomputable def ZcU:MB:=(.cons (.tupSwap [1,2] (.cons (.bin .mul (.list (.cons (.const (.int 0)) .nil)) (.blt .len (.cons (.slot 0) .nil))) (.cons (.const (.int 0)) .nil))) (.cons (.for [3] (.rng2 (.const (.int 1)) (.blt .len (.cons (.slot 0) .nil))) (.cons (.assign 4 (.ife (.cmp (.slot 3) (.one .gt (.const (.int 1)))) (.idx (.slot 0) (.bin .sub (.slot 3) (.const (.int 1)))) (.const (.int 0)))) (.cons (.assign 2 (.bin .shl (.bin .add (.slot 2) (.slot 4)) (.const (.int 1)))) (.cons (.setIdx (.slot 1) (.slot 3) (.slot 2)) .nil)))) (.cons (.ret (.slot 1)) .nil)))
noncomputable abbrev Q9:List Str:=[Zs "counts",Zs "found",Zs "code",Zs "length",Zs "shorter"]
theorem ZeU:repB ZcU ⟨Q9,(T0 12).2.2.names⟩ (T0 12).2.1=true:=by kernel_rfl
theorem ZdC:Q9.Nodup:=by decide
theorem Zaw:ZB 121 [Zs "lengths"] (T0 13).2.1 (T0 13).2.2.names 1 [] where
 ex:=⟨_,_,_,_,_,_,_,_,_,_,_,_,_,_,fun w=>(show (KK w.params).lookup 121=some (Uh w.params) by kernel_rfl),fun w=>by kernel_rfl,rfl,by kernel_rfl,by kernel_rfl,by kernel_rfl,fun w s vs X hv=>by
  obtain ⟨a,rfl⟩:=Xb hv
  exact BindsTo.of_eq rfl⟩
 len:=rfl
 nd:=by decide
 kinds:=by kernel_rfl
 cells:=by decide +kernel
noncomputable def ZcQ:MB:=(.cons (.assign 1 (.call 114 (.cons (.call 78 (.cons (.slot 0) (.cons (.call 107 (.cons (.slot 0) .nil)) .nil))) .nil))) (.cons (.assign 2 (.list .nil)) (.cons (.for [3] (.val (.slot 0)) (.cons (.ifs (.cmp (.slot 3) (.one .eq (.const (.int 0)))) (.cons (.expr (.bm .append (.slot 2) (.cons (.const (.int 0)) .nil))) .nil) (.cons (.expr (.bm .append (.slot 2) (.cons (.idx (.slot 1) (.slot 3)) .nil))) (.cons (.augIdx (.slot 1) (.slot 3) .add (.const (.int 1))) .nil))) .nil)) (.cons (.ret (.slot 2)) .nil))))
noncomputable abbrev Q5:List Str:=[Zs "lengths",Zs "following",Zs "codes",Zs "length"]
theorem ZeQ:repB ZcQ ⟨Q5,(T0 13).2.2.names⟩ (T0 13).2.1=true:=by kernel_rfl
theorem Zdy:Q5.Nodup:=by decide
theorem Zav:ZB 128 [Zs "lengths"] (T0 14).2.1 (T0 14).2.2.names 1 [] where
 ex:=⟨_,_,_,_,_,_,_,_,_,_,_,_,_,_,fun w=>(show (KK w.params).lookup 128=some (Ui w.params) by kernel_rfl),fun w=>by kernel_rfl,rfl,by kernel_rfl,by kernel_rfl,by kernel_rfl,fun w s vs X hv=>by
  obtain ⟨a,rfl⟩:=Xb hv
  exact BindsTo.of_eq rfl⟩
 len:=rfl
 nd:=by decide
 kinds:=by kernel_rfl
 cells:=by decide +kernel
noncomputable def ZcP:MB:=(.cons (.assign 1 (.call 78 (.cons (.slot 0) (.cons (.call 107 (.cons (.slot 0) .nil)) .nil)))) (.cons (.tupSwap [2,3] (.cons (.bin .mul (.list (.cons (.const (.int 0)) .nil)) (.blt .len (.cons (.slot 1) .nil))) (.cons (.const (.int 0)) .nil))) (.cons (.for [4] (.rng2 (.const (.int 1)) (.blt .len (.cons (.slot 1) .nil))) (.cons (.setIdx (.slot 2) (.slot 4) (.slot 3)) (.cons (.aug 3 .add (.idx (.slot 1) (.slot 4))) .nil))) (.cons (.assign 5 (.bin .mul (.list (.cons (.const (.int 0)) .nil)) (.slot 3))) (.cons (.for [6,4] (.enm (.slot 0)) (.cons (.ifs (.cmp (.slot 4) (.one .gt (.const (.int 0)))) (.cons (.setIdx (.slot 5) (.idx (.slot 2) (.slot 4)) (.slot 6)) (.cons (.augIdx (.slot 2) (.slot 4) .add (.const (.int 1))) .nil)) .nil) .nil)) (.cons (.ret (.slot 5)) .nil))))))
noncomputable abbrev Q4:List Str:=[Zs "lengths",Zs "counts",Zs "places",Zs "used",Zs "length",Zs "found",Zs "symbol"]
theorem ZeP:repB ZcP ⟨Q4,(T0 14).2.2.names⟩ (T0 14).2.1=true:=by kernel_rfl
theorem Zdx:Q4.Nodup:=by decide
theorem Zaq:ZB 143 [Zs "self",Zs "lengths",Zs "longest",Zs "lone"] (T1 15 0).2.1 (T1 15 0).2.2.names 2 [(.int 15 267),(.bool false)] where
 ex:=⟨_,_,_,_,_,_,_,_,_,_,_,_,_,_,fun w=>(show (KK w.params).lookup 143=some (WY w.params) by kernel_rfl),fun w=>by kernel_rfl,rfl,by kernel_rfl,by kernel_rfl,by kernel_rfl,fun w s vs X hv=>by
  obtain ⟨a,b,rfl⟩:=YA hv
  exact binds_K X (T:=136) (o:=WX w.params) rfl (by kernel_rfl) rfl rfl rfl⟩
 len:=rfl
 nd:=by decide
 kinds:=by kernel_rfl
 cells:=by decide +kernel
theorem Zar:ZB 143 [Zs "self",Zs "lengths",Zs "longest",Zs "lone"] (T1 15 0).2.1 (T1 15 0).2.2.names 3 [(.bool false)] where
 ex:=⟨_,_,_,_,_,_,_,_,_,_,_,_,_,_,fun w=>(show (KK w.params).lookup 143=some (WY w.params) by kernel_rfl),fun w=>by kernel_rfl,rfl,by kernel_rfl,by kernel_rfl,by kernel_rfl,fun w s vs X hv=>by
  obtain ⟨a,b,c,rfl⟩:=Wm hv
  exact binds_K X (T:=136) (o:=WX w.params) rfl (by kernel_rfl) rfl rfl rfl⟩
 len:=rfl
 nd:=by decide
 kinds:=by kernel_rfl
 cells:=by decide +kernel
theorem Zap:ZB 143 [Zs "self",Zs "lengths",Zs "longest",Zs "lone"] (T1 15 0).2.1 (T1 15 0).2.2.names 4 [] where
 ex:=⟨_,_,_,_,_,_,_,_,_,_,_,_,_,_,fun w=>(show (KK w.params).lookup 143=some (WY w.params) by kernel_rfl),fun w=>by kernel_rfl,rfl,by kernel_rfl,by kernel_rfl,by kernel_rfl,fun w s vs X hv=>by
  obtain ⟨a,b,c,d,rfl⟩:=N7 hv
  exact binds_K X (T:=136) (o:=WX w.params) rfl (by kernel_rfl) rfl rfl rfl⟩
 len:=rfl
 nd:=by decide
 kinds:=by kernel_rfl
 cells:=by decide +kernel
noncomputable def BY:MB:=(.cons (.expr (.call 100 (.cons (.slot 1) (.cons (.slot 2) (.cons (.slot 3) .nil))))) (.cons (.setAttr (.slot 0) .most (.call 107 (.cons (.slot 1) .nil))) (.cons (.setAttr (.slot 0) .counts (.call 78 (.cons (.slot 1) (.cons (.attr (.slot 0) .most) .nil)))) (.cons (.setAttr (.slot 0) .symbols (.call 128 (.cons (.slot 1) .nil))) .nil))))
noncomputable abbrev QZ:List Str:=[Zs "self",Zs "lengths",Zs "longest",Zs "lone"]
theorem D4:repB BY ⟨QZ,(T1 15 0).2.2.names⟩ (T1 15 0).2.1=true:=by kernel_rfl
theorem HC:QZ.Nodup:=by decide
theorem Zas:ZB 150 [Zs "self",Zs "bits"] (T1 15 1).2.1 (T1 15 1).2.2.names 2 [] where
 ex:=⟨_,_,_,_,_,_,_,_,_,_,_,_,_,_,fun w=>(show (KK w.params).lookup 150=some (Uj w.params) by kernel_rfl),fun w=>by kernel_rfl,rfl,by kernel_rfl,by kernel_rfl,by kernel_rfl,fun w s vs X hv=>by
  obtain ⟨a,b,rfl⟩:=YA hv
  exact BindsTo.of_eq rfl⟩
 len:=rfl
 nd:=by decide
 kinds:=by kernel_rfl
 cells:=by decide +kernel
noncomputable def ZcL:MB:=(.cons (.tup [2,3,4] (.cons (.const (.int 0)) (.cons (.const (.int 0)) (.cons (.const (.int 0)) .nil)))) (.cons (.for [5] (.rng2 (.const (.int 1)) (.bin .add (.attr (.slot 0) .most) (.const (.int 1)))) (.cons (.assign 2 (.bin .bor (.bin .shl (.slot 2) (.const (.int 1))) (.om .bit (.slot 1) .nil))) (.cons (.assign 6 (.idx (.attr (.slot 0) .counts) (.slot 5))) (.cons (.ifs (.cmp (.bin .sub (.slot 2) (.slot 3)) (.one .lt (.slot 6))) (.cons (.ret (.idx (.attr (.slot 0) .symbols) (.bin .sub (.bin .add (.slot 4) (.slot 2)) (.slot 3)))) .nil) .nil) (.cons (.aug 4 .add (.slot 6)) (.cons (.assign 3 (.bin .shl (.bin .add (.slot 3) (.slot 6)) (.const (.int 1)))) .nil)))))) (.cons (.raise .badCode (.const (.str [98,105,116,115,32,116,104,97,116,32,97,114,101,32,110,111,32,99,111,100,101]))) .nil)))
noncomputable abbrev Q0:List Str:=[Zs "self",Zs "bits",Zs "code",Zs "first",Zs "place",Zs "length",Zs "count"]
theorem ZeM:repB ZcL ⟨Q0,(T1 15 1).2.2.names⟩ (T1 15 1).2.1=true:=by kernel_rfl
theorem Zdu:Q0.Nodup:=by decide
theorem Zau:ZB 171 [Zs "self",Zs "lengths"] (T1 16 0).2.1 (T1 16 0).2.2.names 2 [] where
 ex:=⟨_,_,_,_,_,_,_,_,_,_,_,_,_,_,fun w=>(show (KK w.params).lookup 171=some (VY w.params) by kernel_rfl),fun w=>by kernel_rfl,rfl,by kernel_rfl,by kernel_rfl,by kernel_rfl,fun w s vs X hv=>by
  obtain ⟨a,b,rfl⟩:=YA hv
  exact BindsTo.of_eq rfl⟩
 len:=rfl
 nd:=by decide
 kinds:=by kernel_rfl
 cells:=by decide +kernel
noncomputable def ZcN:MB:=(.cons (.setAttr (.slot 0) .lengths (.blt .list (.cons (.slot 1) .nil))) (.cons (.setAttr (.slot 0) .codes (.call 121 (.cons (.slot 1) .nil))) .nil))
noncomputable abbrev Q2:List Str:=[Zs "self",Zs "lengths"]
theorem ZeO:repB ZcN ⟨Q2,(T1 16 0).2.2.names⟩ (T1 16 0).2.1=true:=by kernel_rfl
theorem Zdw:Q2.Nodup:=by decide
theorem Zat:ZB 178 [Zs "self",Zs "symbol"] (T1 16 1).2.1 (T1 16 1).2.2.names 2 [] where
 ex:=⟨_,_,_,_,_,_,_,_,_,_,_,_,_,_,fun w=>(show (KK w.params).lookup 178=some (VZ w.params) by kernel_rfl),fun w=>by kernel_rfl,rfl,by kernel_rfl,by kernel_rfl,by kernel_rfl,fun w s vs X hv=>by
  obtain ⟨a,b,rfl⟩:=YA hv
  exact BindsTo.of_eq rfl⟩
 len:=rfl
 nd:=by decide
 kinds:=by kernel_rfl
 cells:=by decide +kernel
noncomputable def ZcM:MB:=(.cons (.ifs (.bools .Or (.cons (.not (.cmp (.const (.int 0)) (.more .le (.slot 1) (.one .lt (.blt .len (.cons (.attr (.slot 0) .lengths) .nil)))))) (.cons (.cmp (.idx (.attr (.slot 0) .lengths) (.slot 1)) (.one .eq (.const (.int 0)))) .nil))) (.cons (.ret (.const .none)) .nil) .nil) (.cons (.ret (.idx (.attr (.slot 0) .lengths) (.slot 1))) .nil))
noncomputable abbrev Q1:List Str:=[Zs "self",Zs "symbol"]
theorem ZeN:repB ZcM ⟨Q1,(T1 16 1).2.2.names⟩ (T1 16 1).2.1=true:=by kernel_rfl
theorem Zdv:Q1.Nodup:=by decide
theorem N6:ZB 185 [Zs "self",Zs "writer",Zs "symbol"] (T1 16 2).2.1 (T1 16 2).2.2.names 3 [] where
 ex:=⟨_,_,_,_,_,_,_,_,_,_,_,_,_,_,fun w=>(show (KK w.params).lookup 185=some (V1 w.params) by kernel_rfl),fun w=>by kernel_rfl,rfl,by kernel_rfl,by kernel_rfl,by kernel_rfl,fun w s vs X hv=>by
  obtain ⟨a,b,c,rfl⟩:=Wm hv
  exact BindsTo.of_eq rfl⟩
 len:=rfl
 nd:=by decide
 kinds:=by kernel_rfl
 cells:=by decide +kernel
noncomputable def ZcO:MB:=(.cons (.ifs (.cmp (.om .cost (.slot 0) (.cons (.slot 2) .nil)) (.one .is (.const .none))) (.cons (.raise .badCode (.fstr (.slot 2))) .nil) .nil) (.cons (.expr (.om .code (.slot 1) (.cons (.idx (.attr (.slot 0) .codes) (.slot 2)) (.cons (.idx (.attr (.slot 0) .lengths) (.slot 2)) .nil)))) .nil))
noncomputable abbrev Q3:List Str:=[Zs "self",Zs "writer",Zs "symbol"]
theorem C6:repB ZcO ⟨Q3,(T1 16 2).2.2.names⟩ (T1 16 2).2.1=true:=by kernel_rfl
theorem B7:Q3.Nodup:=by decide
theorem ZaU:ZB 199 [Zs "count"] (T0 18).2.1 (T0 18).2.2.names 1 [] where
 ex:=⟨_,_,_,_,_,_,_,_,_,_,_,_,_,_,fun w=>(show (KK w.params).lookup 199=some (U1 w.params) by kernel_rfl),fun w=>by kernel_rfl,rfl,by kernel_rfl,by kernel_rfl,by kernel_rfl,fun w s vs X hv=>by
  obtain ⟨a,rfl⟩:=Xb hv
  exact BindsTo.of_eq rfl⟩
 len:=rfl
 nd:=by decide
 kinds:=by kernel_rfl
 cells:=by decide +kernel
noncomputable def Zdc:MB:=(.cons (.ifs (.bools .Or (.cons (.not (.isint (.slot 0))) (.cons (.isbool (.slot 0)) (.cons (.cmp (.slot 0) (.one .lt (.const (.int 0)))) .nil)))) (.cons (.raise .badArgument (.const (.str [97,32,99,111,117,110,116,32,98,101,108,111,119,32,48]))) .nil) .nil) .nil)
noncomputable abbrev Rx:List Str:=[Zs "count"]
theorem Zfe:repB Zdc ⟨Rx,(T0 18).2.2.names⟩ (T0 18).2.1=true:=by kernel_rfl
theorem ZdW:Rx.Nodup:=by decide
theorem ZaV:ZB 206 [Zs "value",Zs "size"] (T0 19).2.1 (T0 19).2.2.names 2 [] where
 ex:=⟨_,_,_,_,_,_,_,_,_,_,_,_,_,_,fun w=>(show (KK w.params).lookup 206=some (U2 w.params) by kernel_rfl),fun w=>by kernel_rfl,rfl,by kernel_rfl,by kernel_rfl,by kernel_rfl,fun w s vs X hv=>by
  obtain ⟨a,b,rfl⟩:=YA hv
  exact BindsTo.of_eq rfl⟩
 len:=rfl
 nd:=by decide
 kinds:=by kernel_rfl
 cells:=by decide +kernel
noncomputable def Zdd:MB:=(.cons (.expr (.call 199 (.cons (.slot 1) .nil))) (.cons (.ifs (.bools .Or (.cons (.not (.isint (.slot 0))) (.cons (.cmp (.slot 0) (.one .lt (.const (.int 0)))) (.cons (.cmp (.bin .shr (.slot 0) (.slot 1)) (.one .ne (.const (.int 0)))) .nil)))) (.cons (.raise .badArgument (.const (.str [97,32,110,117,109,98,101,114,32,116,104,97,116,32,110,101,101,100,115,32,109,111,114,101,32,114,111,111,109]))) .nil) .nil) .nil))
noncomputable abbrev Ry:List Str:=[Zs "value",Zs "size"]
theorem Zff:repB Zdd ⟨Ry,(T0 19).2.2.names⟩ (T0 19).2.1=true:=by kernel_rfl
theorem ZdX:Ry.Nodup:=by decide
theorem Zaz:ZB 213 [Zs "octets",Zs "start",Zs "end"] (T0 20).2.1 (T0 20).2.2.names 3 [] where
 ex:=⟨_,_,_,_,_,_,_,_,_,_,_,_,_,_,fun w=>(show (KK w.params).lookup 213=some (U3 w.params) by kernel_rfl),fun w=>by kernel_rfl,rfl,by kernel_rfl,by kernel_rfl,by kernel_rfl,fun w s vs X hv=>by
  obtain ⟨a,b,c,rfl⟩:=Wm hv
  exact BindsTo.of_eq rfl⟩
 len:=rfl
 nd:=by decide
 kinds:=by kernel_rfl
 cells:=by decide +kernel
noncomputable def ZcT:MB:=(.cons (.assign 3 (.ife (.cmp (.slot 2) (.one .is (.const .none))) (.blt .len (.cons (.slot 0) .nil)) (.slot 2))) (.cons (.ifs (.not (.cmp (.const (.int 0)) (.more .le (.slot 1) (.more .le (.slot 3) (.one .le (.blt .len (.cons (.slot 0) .nil))))))) (.cons (.raise .badArgument (.const (.str [97,32,112,97,114,116,32,116,104,97,116,32,116,104,101,32,111,99,116,101,116,115,32,100,111,32,110,111,116,32,104,97,118,101]))) .nil) .nil) (.cons (.ret (.slot 3)) .nil)))
noncomputable abbrev Q8:List Str:=[Zs "octets",Zs "start",Zs "end",Zs "stop"]
theorem ZeT:repB ZcT ⟨Q8,(T0 20).2.2.names⟩ (T0 20).2.1=true:=by kernel_rfl
theorem ZdB:Q8.Nodup:=by decide
theorem ZaB:ZB 220 [Zs "octets",Zs "low",Zs "count",Zs "stop"] (T0 21).2.1 (T0 21).2.2.names 4 [] where
 ex:=⟨_,_,_,_,_,_,_,_,_,_,_,_,_,_,fun w=>(show (KK w.params).lookup 220=some (U4 w.params) by kernel_rfl),fun w=>by kernel_rfl,rfl,by kernel_rfl,by kernel_rfl,by kernel_rfl,fun w s vs X hv=>by
  obtain ⟨a,b,c,d,rfl⟩:=N7 hv
  exact BindsTo.of_eq rfl⟩
 len:=rfl
 nd:=by decide
 kinds:=by kernel_rfl
 cells:=by decide +kernel
noncomputable def ZcV:MB:=(.cons (.tup [4,5,6,7] (.cons (.const (.int 0)) (.cons (.const (.int 0)) (.cons (.bin .shr (.slot 1) (.const (.int 3))) (.cons (.bin .band (.slot 1) (.const (.int 7))) .nil))))) (.cons (.while (.bools .And (.cons (.cmp (.slot 5) (.one .lt (.slot 2))) (.cons (.cmp (.slot 6) (.one .lt (.slot 3))) .nil))) (.cons (.aug 4 .bor (.bin .shl (.bin .shr (.idx (.slot 0) (.slot 6)) (.slot 7)) (.slot 5))) (.cons (.aug 5 .add (.bin .sub (.const (.int 8)) (.slot 7))) (.cons (.aug 6 .add (.const (.int 1))) (.cons (.assign 7 (.const (.int 0))) .nil))))) (.cons (.ret (.bin .band (.slot 4) (.bin .sub (.bin .shl (.const (.int 1)) (.slot 2)) (.const (.int 1))))) .nil)))
noncomputable abbrev Rc:List Str:=[Zs "octets",Zs "low",Zs "count",Zs "stop",Zs "value",Zs "got",Zs "place",Zs "inside"]
theorem ZeV:repB ZcV ⟨Rc,(T0 21).2.2.names⟩ (T0 21).2.1=true:=by kernel_rfl
theorem ZdD:Rc.Nodup:=by decide
theorem Zag:ZB 235 [Zs "self",Zs "octets",Zs "start",Zs "end"] (T1 22 0).2.1 (T1 22 0).2.2.names 2 [(.int 0 497),.none] where
 ex:=⟨_,_,_,_,_,_,_,_,_,_,_,_,_,_,fun w=>(show (KK w.params).lookup 235=some (U6 w.params) by kernel_rfl),fun w=>by kernel_rfl,rfl,by kernel_rfl,by kernel_rfl,by kernel_rfl,fun w s vs X hv=>by
  obtain ⟨a,b,rfl⟩:=YA hv
  exact binds_K X (T:=228) (o:=U5 w.params) rfl (by kernel_rfl) rfl rfl rfl⟩
 len:=rfl
 nd:=by decide
 kinds:=by kernel_rfl
 cells:=by decide +kernel
noncomputable def ZcC:MB:=(.cons (.setAttr (.slot 0) .data (.blx .bytesB (.cons (.slot 1) .nil))) (.cons (.setAttr (.slot 0) .stop (.call 213 (.cons (.attr (.slot 0) .data) (.cons (.slot 2) (.cons (.slot 3) .nil))))) (.cons (.setAttr (.slot 0) .position (.bin .mul (.const (.int 8)) (.slot 2))) .nil)))
noncomputable abbrev QQ:List Str:=[Zs "self",Zs "octets",Zs "start",Zs "end"]
theorem ZeD:repB ZcC ⟨QQ,(T1 22 0).2.2.names⟩ (T1 22 0).2.1=true:=by kernel_rfl
theorem Zdl:QQ.Nodup:=by decide
theorem Zah:ZB 242 [Zs "self"] (T1 22 1).2.1 (T1 22 1).2.2.names 1 [] where
 ex:=⟨_,_,_,_,_,_,_,_,_,_,_,_,_,_,fun w=>(show (KK w.params).lookup 242=some (U7 w.params) by kernel_rfl),fun w=>by kernel_rfl,rfl,by kernel_rfl,by kernel_rfl,by kernel_rfl,fun w s vs X hv=>by
  obtain ⟨a,rfl⟩:=Xb hv
  exact BindsTo.of_eq rfl⟩
 len:=rfl
 nd:=by decide
 kinds:=by kernel_rfl
 cells:=by decide +kernel
noncomputable def ZcD:MB:=(.cons (.ret (.bin .sub (.bin .mul (.const (.int 8)) (.attr (.slot 0) .stop)) (.attr (.slot 0) .position))) .nil)
noncomputable abbrev QR:List Str:=[Zs "self"]
theorem ZeE:repB ZcD ⟨QR,(T1 22 1).2.2.names⟩ (T1 22 1).2.1=true:=by kernel_rfl
theorem Zdm:QR.Nodup:=by decide
theorem Zai:ZB 249 [Zs "self",Zs "count"] (T1 22 2).2.1 (T1 22 2).2.2.names 2 [] where
 ex:=⟨_,_,_,_,_,_,_,_,_,_,_,_,_,_,fun w=>(show (KK w.params).lookup 249=some (U8 w.params) by kernel_rfl),fun w=>by kernel_rfl,rfl,by kernel_rfl,by kernel_rfl,by kernel_rfl,fun w s vs X hv=>by
  obtain ⟨a,b,rfl⟩:=YA hv
  exact BindsTo.of_eq rfl⟩
 len:=rfl
 nd:=by decide
 kinds:=by kernel_rfl
 cells:=by decide +kernel
noncomputable def ZcE:MB:=(.cons (.expr (.call 199 (.cons (.slot 1) .nil))) (.cons (.ret (.call 220 (.cons (.attr (.slot 0) .data) (.cons (.attr (.slot 0) .position) (.cons (.slot 1) (.cons (.attr (.slot 0) .stop) .nil)))))) .nil))
noncomputable abbrev QS:List Str:=[Zs "self",Zs "count"]
theorem ZeF:repB ZcE ⟨QS,(T1 22 2).2.2.names⟩ (T1 22 2).2.1=true:=by kernel_rfl
theorem Zdn:QS.Nodup:=by decide
theorem Zaj:ZB 256 [Zs "self",Zs "count"] (T1 22 3).2.1 (T1 22 3).2.2.names 2 [] where
 ex:=⟨_,_,_,_,_,_,_,_,_,_,_,_,_,_,fun w=>(show (KK w.params).lookup 256=some (U9 w.params) by kernel_rfl),fun w=>by kernel_rfl,rfl,by kernel_rfl,by kernel_rfl,by kernel_rfl,fun w s vs X hv=>by
  obtain ⟨a,b,rfl⟩:=YA hv
  exact BindsTo.of_eq rfl⟩
 len:=rfl
 nd:=by decide
 kinds:=by kernel_rfl
 cells:=by decide +kernel
noncomputable def ZcF:MB:=(.cons (.expr (.call 199 (.cons (.slot 1) .nil))) (.cons (.ifs (.cmp (.slot 1) (.one .gt (.om .left (.slot 0) .nil))) (.cons (.raise .cutShort (.const (.str [98,105,116,115]))) .nil) .nil) (.cons (.augAttr (.slot 0) .position .add (.slot 1)) .nil)))
noncomputable abbrev QT:List Str:=[Zs "self",Zs "count"]
theorem ZeG:repB ZcF ⟨QT,(T1 22 3).2.2.names⟩ (T1 22 3).2.1=true:=by kernel_rfl
theorem Zdo:QT.Nodup:=by decide
theorem Zaf:ZB 263 [Zs "self",Zs "count"] (T1 22 4).2.1 (T1 22 4).2.2.names 2 [] where
 ex:=⟨_,_,_,_,_,_,_,_,_,_,_,_,_,_,fun w=>(show (KK w.params).lookup 263=some (Ta w.params) by kernel_rfl),fun w=>by kernel_rfl,rfl,by kernel_rfl,by kernel_rfl,by kernel_rfl,fun w s vs X hv=>by
  obtain ⟨a,b,rfl⟩:=YA hv
  exact BindsTo.of_eq rfl⟩
 len:=rfl
 nd:=by decide
 kinds:=by kernel_rfl
 cells:=by decide +kernel
noncomputable def ZcB:MB:=(.cons (.assign 2 (.om .peek (.slot 0) (.cons (.slot 1) .nil))) (.cons (.expr (.om .skip (.slot 0) (.cons (.slot 1) .nil))) (.cons (.ret (.slot 2)) .nil)))
noncomputable abbrev QP:List Str:=[Zs "self",Zs "count",Zs "value"]
theorem ZeC:repB ZcB ⟨QP,(T1 22 4).2.2.names⟩ (T1 22 4).2.1=true:=by kernel_rfl
theorem Zdk:QP.Nodup:=by decide
theorem Zae:ZB 270 [Zs "self"] (T1 22 5).2.1 (T1 22 5).2.2.names 1 [] where
 ex:=⟨_,_,_,_,_,_,_,_,_,_,_,_,_,_,fun w=>(show (KK w.params).lookup 270=some (Tb w.params) by kernel_rfl),fun w=>by kernel_rfl,rfl,by kernel_rfl,by kernel_rfl,by kernel_rfl,fun w s vs X hv=>by
  obtain ⟨a,rfl⟩:=Xb hv
  exact BindsTo.of_eq rfl⟩
 len:=rfl
 nd:=by decide
 kinds:=by kernel_rfl
 cells:=by decide +kernel
noncomputable def ZcA:MB:=(.cons (.ret (.om .bits (.slot 0) (.cons (.const (.int 1)) .nil))) .nil)
noncomputable abbrev QO:List Str:=[Zs "self"]
theorem ZeB:repB ZcA ⟨QO,(T1 22 5).2.2.names⟩ (T1 22 5).2.1=true:=by kernel_rfl
theorem Zdj:QO.Nodup:=by decide
theorem Zan:ZB 319 [Zs "self"] (T1 23 0).2.1 (T1 23 0).2.2.names 1 [] where
 ex:=⟨_,_,_,_,_,_,_,_,_,_,_,_,_,_,fun w=>(show (KK w.params).lookup 319=some (Ky w.params) by kernel_rfl),fun w=>by kernel_rfl,rfl,by kernel_rfl,by kernel_rfl,by kernel_rfl,fun w s vs X hv=>by
  obtain ⟨a,rfl⟩:=Xb hv
  exact BindsTo.of_eq rfl⟩
 len:=rfl
 nd:=by decide
 kinds:=by kernel_rfl
 cells:=by decide +kernel
noncomputable def ZcJ:MB:=(.cons (.setAttr (.slot 0) .made (.blx .ba0 .nil)) (.cons (.setAttr (.slot 0) .held (.const (.int 0))) (.cons (.setAttr (.slot 0) .heldBits (.const (.int 0))) .nil)))
noncomputable abbrev QX:List Str:=[Zs "self"]
theorem ZeK:repB ZcJ ⟨QX,(T1 23 0).2.2.names⟩ (T1 23 0).2.1=true:=by kernel_rfl
theorem Zds:QX.Nodup:=by decide
theorem Zak:ZB 326 [Zs "self",Zs "value",Zs "count"] (T1 23 1).2.1 (T1 23 1).2.2.names 3 [] where
 ex:=⟨_,_,_,_,_,_,_,_,_,_,_,_,_,_,fun w=>(show (KK w.params).lookup 326=some (Kz w.params) by kernel_rfl),fun w=>by kernel_rfl,rfl,by kernel_rfl,by kernel_rfl,by kernel_rfl,fun w s vs X hv=>by
  obtain ⟨a,b,c,rfl⟩:=Wm hv
  exact BindsTo.of_eq rfl⟩
 len:=rfl
 nd:=by decide
 kinds:=by kernel_rfl
 cells:=by decide +kernel
noncomputable def ZcG:MB:=(.cons (.expr (.call 206 (.cons (.slot 1) (.cons (.slot 2) .nil)))) (.cons (.augAttr (.slot 0) .held .bor (.bin .shl (.slot 1) (.attr (.slot 0) .heldBits))) (.cons (.augAttr (.slot 0) .heldBits .add (.slot 2)) (.cons (.while (.cmp (.attr (.slot 0) .heldBits) (.one .ge (.const (.int 8)))) (.cons (.expr (.bm .bapp (.attr (.slot 0) .made) (.cons (.bin .band (.attr (.slot 0) .held) (.const (.int 255))) .nil))) (.cons (.augAttr (.slot 0) .held .shr (.const (.int 8))) (.cons (.augAttr (.slot 0) .heldBits .sub (.const (.int 8))) .nil)))) .nil))))
noncomputable abbrev QU:List Str:=[Zs "self",Zs "value",Zs "count"]
theorem ZeH:repB ZcG ⟨QU,(T1 23 1).2.2.names⟩ (T1 23 1).2.1=true:=by kernel_rfl
theorem Zdp:QU.Nodup:=by decide
theorem Zal:ZB 340 [Zs "self",Zs "code",Zs "count"] (T1 23 3).2.1 (T1 23 3).2.2.names 3 [] where
 ex:=⟨_,_,_,_,_,_,_,_,_,_,_,_,_,_,fun w=>(show (KK w.params).lookup 340=some (KB w.params) by kernel_rfl),fun w=>by kernel_rfl,rfl,by kernel_rfl,by kernel_rfl,by kernel_rfl,fun w s vs X hv=>by
  obtain ⟨a,b,c,rfl⟩:=Wm hv
  exact BindsTo.of_eq rfl⟩
 len:=rfl
 nd:=by decide
 kinds:=by kernel_rfl
 cells:=by decide +kernel
noncomputable def ZcH:MB:=(.cons (.expr (.call 206 (.cons (.slot 1) (.cons (.slot 2) .nil)))) (.cons (.assign 3 (.const (.int 0))) (.cons (.for [4] (.rng1 (.slot 2)) (.cons (.assign 3 (.bin .bor (.bin .shl (.slot 3) (.const (.int 1))) (.bin .band (.bin .shr (.slot 1) (.slot 4)) (.const (.int 1))))) .nil)) (.cons (.expr (.om .bits (.slot 0) (.cons (.slot 3) (.cons (.slot 2) .nil)))) .nil))))
noncomputable abbrev QV:List Str:=[Zs "self",Zs "code",Zs "count",Zs "turned",Zs "place"]
theorem ZeI:repB ZcH ⟨QV,(T1 23 3).2.2.names⟩ (T1 23 3).2.1=true:=by kernel_rfl
theorem Zdq:QV.Nodup:=by decide
theorem Zao:ZB 361 [Zs "self"] (T1 23 6).2.1 (T1 23 6).2.2.names 1 [] where
 ex:=⟨_,_,_,_,_,_,_,_,_,_,_,_,_,_,fun w=>(show (KK w.params).lookup 361=some (KC w.params) by kernel_rfl),fun w=>by kernel_rfl,rfl,by kernel_rfl,by kernel_rfl,by kernel_rfl,fun w s vs X hv=>by
  obtain ⟨a,rfl⟩:=Xb hv
  exact BindsTo.of_eq rfl⟩
 len:=rfl
 nd:=by decide
 kinds:=by kernel_rfl
 cells:=by decide +kernel
noncomputable def ZcK:MB:=(.cons (.ret (.bin .add (.bin .mul (.const (.int 8)) (.blx .lenBA (.cons (.attr (.slot 0) .made) .nil))) (.attr (.slot 0) .heldBits))) .nil)
noncomputable abbrev QY:List Str:=[Zs "self"]
theorem ZeL:repB ZcK ⟨QY,(T1 23 6).2.2.names⟩ (T1 23 6).2.1=true:=by kernel_rfl
theorem Zdt:QY.Nodup:=by decide
theorem Zam:ZB 368 [Zs "self"] (T1 23 7).2.1 (T1 23 7).2.2.names 1 [] where
 ex:=⟨_,_,_,_,_,_,_,_,_,_,_,_,_,_,fun w=>(show (KK w.params).lookup 368=some (KD w.params) by kernel_rfl),fun w=>by kernel_rfl,rfl,by kernel_rfl,by kernel_rfl,by kernel_rfl,fun w s vs X hv=>by
  obtain ⟨a,rfl⟩:=Xb hv
  exact BindsTo.of_eq rfl⟩
 len:=rfl
 nd:=by decide
 kinds:=by kernel_rfl
 cells:=by decide +kernel
noncomputable def ZcI:MB:=(.cons (.assign 1 (.ife (.cmp (.attr (.slot 0) .heldBits) (.one .gt (.const (.int 0)))) (.list (.cons (.attr (.slot 0) .held) .nil)) (.list .nil))) (.cons (.ret (.bin .add (.blx .bytesBA (.cons (.attr (.slot 0) .made) .nil)) (.blt .bytes (.cons (.slot 1) .nil)))) .nil))
noncomputable abbrev QW:List Str:=[Zs "self",Zs "rest"]
theorem ZeJ:repB ZcI ⟨QW,(T1 23 7).2.2.names⟩ (T1 23 7).2.1=true:=by kernel_rfl
theorem Zdr:QW.Nodup:=by decide
theorem ZaN:ZB 382 [Zs "script"] (T0 25).2.1 (T0 25).2.2.names 1 [] where
 ex:=⟨_,_,_,_,_,_,_,_,_,_,_,_,_,_,fun w=>(show (KK w.params).lookup 382=some (KE w.params) by kernel_rfl),fun w=>by kernel_rfl,rfl,by kernel_rfl,by kernel_rfl,by kernel_rfl,fun w s vs X hv=>by
  obtain ⟨a,rfl⟩:=Xb hv
  exact BindsTo.of_eq rfl⟩
 len:=rfl
 nd:=by decide
 kinds:=by kernel_rfl
 cells:=by decide +kernel
noncomputable def Zc6:MB:=(.cons (.assign 1 (.const (.int 0))) (.cons (.for [2] (.val (.slice (.slot 0) .hole (.const (.int 24)))) (.cons (.assign 1 (.bin .mod (.bin .add (.bin .add (.bin .mul (.slot 1) (.const (.int 1009))) (.bin .mul (.const (.int 2)) (.blt .abs (.cons (.slot 2) .nil)))) (.blt .int (.cons (.cmp (.slot 2) (.one .lt (.const (.int 0)))) .nil))) (.bin .pow (.const (.int 10)) (.const (.int 70))))) .nil)) (.cons (.ret (.list (.cons (.slot 1) (.cons (.const (.int 0)) .nil)))) .nil)))
noncomputable abbrev Rq:List Str:=[Zs "script",Zs "whole",Zs "cell"]
theorem Ze7:repB Zc6 ⟨Rq,(T0 25).2.2.names⟩ (T0 25).2.1=true:=by kernel_rfl
theorem ZdP:Rq.Nodup:=by decide
theorem ZaQ:ZB 389 [Zs "pool",Zs "many"] (T0 26).2.1 (T0 26).2.2.names 2 [] where
 ex:=⟨_,_,_,_,_,_,_,_,_,_,_,_,_,_,fun w=>(show (KK w.params).lookup 389=some (KF w.params) by kernel_rfl),fun w=>by kernel_rfl,rfl,by kernel_rfl,by kernel_rfl,by kernel_rfl,fun w s vs X hv=>by
  obtain ⟨a,b,rfl⟩:=YA hv
  exact BindsTo.of_eq rfl⟩
 len:=rfl
 nd:=by decide
 kinds:=by kernel_rfl
 cells:=by decide +kernel
noncomputable def Zc9:MB:=(.cons (.ifs (.cmp (.idx (.slot 0) (.const (.int 0))) (.one .gt (.const (.int 0)))) (.cons (.assign 2 (.bin .mod (.idx (.slot 0) (.const (.int 0))) (.slot 1))) (.cons (.setIdx (.slot 0) (.const (.int 0)) (.bin .fdiv (.idx (.slot 0) (.const (.int 0))) (.slot 1))) (.cons (.ret (.slot 2)) .nil))) .nil) (.cons (.augIdx (.slot 0) (.const (.int 1)) .add (.const (.int 1))) (.cons (.ret (.bin .mod (.bin .add (.bin .mul (.const (.int 7)) (.idx (.slot 0) (.const (.int 1)))) (.const (.int 3))) (.slot 1))) .nil)))
noncomputable abbrev Rt:List Str:=[Zs "pool",Zs "many",Zs "digit"]
theorem Zfa:repB Zc9 ⟨Rt,(T0 26).2.2.names⟩ (T0 26).2.1=true:=by kernel_rfl
theorem ZdS:Rt.Nodup:=by decide
theorem ZaJ:ZB 396 [Zs "pool"] (T0 27).2.1 (T0 27).2.2.names 1 [] where
 ex:=⟨_,_,_,_,_,_,_,_,_,_,_,_,_,_,fun w=>(show (KK w.params).lookup 396=some (KG w.params) by kernel_rfl),fun w=>by kernel_rfl,rfl,by kernel_rfl,by kernel_rfl,by kernel_rfl,fun w s vs X hv=>by
  obtain ⟨a,rfl⟩:=Xb hv
  exact BindsTo.of_eq rfl⟩
 len:=rfl
 nd:=by decide
 kinds:=by kernel_rfl
 cells:=by decide +kernel
noncomputable def Zc2:MB:=(.cons (.assign 1 (.list (.cons (.const (.int 1)) (.cons (.const (.int 1)) .nil)))) (.cons (.for [2] (.rng1 (.call 389 (.cons (.slot 0) (.cons (.const (.int 6)) .nil)))) (.cons (.assign 3 (.call 389 (.cons (.slot 0) (.cons (.blt .len (.cons (.slot 1) .nil)) .nil)))) (.cons (.ifs (.cmp (.call 389 (.cons (.slot 0) (.cons (.const (.int 2)) .nil))) (.one .eq (.const (.int 0)))) (.cons (.assign 3 (.bin .sub (.blt .len (.cons (.slot 1) .nil)) (.const (.int 1)))) .nil) .nil) (.cons (.assign 4 (.bin .add (.idx (.slot 1) (.slot 3)) (.const (.int 1)))) (.cons (.setIdx (.slot 1) (.slot 3) (.slot 4)) (.cons (.expr (.bm .insert (.slot 1) (.cons (.call 389 (.cons (.slot 0) (.cons (.bin .add (.blt .len (.cons (.slot 1) .nil)) (.const (.int 1))) .nil))) (.cons (.slot 4) .nil)))) .nil)))))) (.cons (.for [2] (.rng1 (.call 389 (.cons (.slot 0) (.cons (.const (.int 3)) .nil)))) (.cons (.expr (.bm .insert (.slot 1) (.cons (.call 389 (.cons (.slot 0) (.cons (.bin .add (.blt .len (.cons (.slot 1) .nil)) (.const (.int 1))) .nil))) (.cons (.const (.int 0)) .nil)))) .nil)) (.cons (.ret (.slot 1)) .nil))))
noncomputable abbrev Rk:List Str:=[Zs "pool",Zs "found",Zs "turn",Zs "at",Zs "length"]
theorem Ze3:repB Zc2 ⟨Rk,(T0 27).2.2.names⟩ (T0 27).2.1=true:=by kernel_rfl
theorem ZdL:Rk.Nodup:=by decide
theorem ZaM:ZB 401 [Zs "pool",Zs "lengths"] (T0 28).2.1 (T0 28).2.2.names 2 [] where
 ex:=⟨_,_,_,_,_,_,_,_,_,_,_,_,_,_,fun w=>(show (KK w.params).lookup 401=some (KH w.params) by kernel_rfl),fun w=>by kernel_rfl,rfl,by kernel_rfl,by kernel_rfl,by kernel_rfl,fun w s vs X hv=>by
  obtain ⟨a,b,rfl⟩:=YA hv
  exact BindsTo.of_eq rfl⟩
 len:=rfl
 nd:=by decide
 kinds:=by kernel_rfl
 cells:=by decide +kernel
noncomputable def Zc5:MB:=(.cons (.tup [2,3,4] (.cons (.call 389 (.cons (.slot 0) (.cons (.const (.int 6)) .nil))) (.cons (.call 389 (.cons (.slot 0) (.cons (.blt .len (.cons (.slot 1) .nil)) .nil))) (.cons (.blt .list (.cons (.slot 1) .nil)) .nil)))) (.cons (.ifs (.cmp (.slot 2) (.one .eq (.const (.int 0)))) (.cons (.setIdx (.slot 4) (.slot 3) (.bin .add (.idx (.slot 4) (.slot 3)) (.const (.int 1)))) .nil) (.cons (.ifs (.cmp (.slot 2) (.one .eq (.const (.int 1)))) (.cons (.setIdx (.slot 4) (.slot 3) (.blt .max (.cons (.const (.int 0)) (.cons (.bin .sub (.idx (.slot 4) (.slot 3)) (.const (.int 1))) .nil)))) .nil) (.cons (.ifs (.cmp (.slot 2) (.one .eq (.const (.int 2)))) (.cons (.setIdx (.slot 4) (.slot 3) (.const (.int 0))) .nil) (.cons (.ifs (.cmp (.slot 2) (.one .eq (.const (.int 3)))) (.cons (.expr (.bm .append (.slot 4) (.cons (.bin .add (.const (.int 1)) (.call 389 (.cons (.slot 0) (.cons (.const (.int 5)) .nil)))) .nil))) .nil) (.cons (.ifs (.cmp (.slot 2) (.one .eq (.const (.int 4)))) (.cons (.asComp 4 (.val (.slot 1)) [Zs "length"] [none] [0] .nil (.const (.int 0))) .nil) (.cons (.asComp 4 (.rng1 (.blt .len (.cons (.slot 1) .nil))) [Zs "place",Zs "at",Zs "pool"] [none,some 3,some 0] [0] .nil (.bin .mul (.blt .int (.cons (.cmp (.slot 0) (.one .eq (.slot 1))) .nil)) (.bin .add (.const (.int 1)) (.call 389 (.cons (.slot 2) (.cons (.const (.int 2)) .nil)))))) .nil)) .nil)) .nil)) .nil)) .nil)) (.cons (.ret (.slot 4)) .nil)))
noncomputable abbrev Rp:List Str:=[Zs "pool",Zs "lengths",Zs "way",Zs "at",Zs "found"]
theorem Ze6:repB Zc5 ⟨Rp,(T0 28).2.2.names⟩ (T0 28).2.1=true:=by kernel_rfl
theorem ZdO:Rp.Nodup:=by decide
theorem ZaP:ZB 408 [Zs "lengths",Zs "longest"] (T0 29).2.1 (T0 29).2.2.names 2 [] where
 ex:=⟨_,_,_,_,_,_,_,_,_,_,_,_,_,_,fun w=>(show (KK w.params).lookup 408=some (KI w.params) by kernel_rfl),fun w=>by kernel_rfl,rfl,by kernel_rfl,by kernel_rfl,by kernel_rfl,fun w s vs X hv=>by
  obtain ⟨a,b,rfl⟩:=YA hv
  exact BindsTo.of_eq rfl⟩
 len:=rfl
 nd:=by decide
 kinds:=by kernel_rfl
 cells:=by decide +kernel
noncomputable def Zc8:MB:=(.cons (.assign 2 (.const (.int 0))) (.cons (.for [3] (.val (.slot 0)) (.cons (.ifs (.cmp (.slot 3) (.one .gt (.const (.int 0)))) (.cons (.aug 2 .add (.bin .shl (.const (.int 1)) (.bin .sub (.slot 1) (.slot 3)))) .nil) .nil) .nil)) (.cons (.ret (.slot 2)) .nil)))
noncomputable abbrev Rs:List Str:=[Zs "lengths",Zs "longest",Zs "found",Zs "length"]
theorem Ze9:repB Zc8 ⟨Rs,(T0 29).2.2.names⟩ (T0 29).2.1=true:=by kernel_rfl
theorem ZdR:Rs.Nodup:=by decide
theorem ZaK:ZB 413 [Zs "lengths",Zs "longest",Zs "lone"] (T0 30).2.1 (T0 30).2.2.names 3 [] where
 ex:=⟨_,_,_,_,_,_,_,_,_,_,_,_,_,_,fun w=>(show (KK w.params).lookup 413=some (KJ w.params) by kernel_rfl),fun w=>by kernel_rfl,rfl,by kernel_rfl,by kernel_rfl,by kernel_rfl,fun w s vs X hv=>by
  obtain ⟨a,b,c,rfl⟩:=Wm hv
  exact BindsTo.of_eq rfl⟩
 len:=rfl
 nd:=by decide
 kinds:=by kernel_rfl
 cells:=by decide +kernel
noncomputable def Zc3:MB:=(.cons (.asComp 3 (.val (.slot 0)) [Zs "length"] [none] [0] (.cons (.cmp (.slot 0) (.one .gt (.const (.int 0)))) .nil) (.slot 0)) (.cons (.ifs (.bools .And (.cons (.slot 2) (.cons (.bools .Or (.cons (.cmp (.slot 3) (.one .eq (.list .nil))) (.cons (.cmp (.slot 3) (.one .eq (.list (.cons (.const (.int 1)) .nil)))) .nil))) .nil))) (.cons (.ret (.const (.bool true))) .nil) .nil) (.cons (.ret (.bools .And (.cons (.cmp (.slot 3) (.one .ne (.list .nil))) (.cons (.cmp (.call 408 (.cons (.slot 0) (.cons (.slot 1) .nil))) (.one .eq (.bin .shl (.const (.int 1)) (.slot 1)))) .nil)))) .nil)))
noncomputable abbrev Rn:List Str:=[Zs "lengths",Zs "longest",Zs "lone",Zs "used"]
theorem Ze4:repB Zc3 ⟨Rn,(T0 30).2.2.names⟩ (T0 30).2.1=true:=by kernel_rfl
theorem ZdM:Rn.Nodup:=by decide
theorem ZaF:ZB 420 [Zs "lengths",Zs "longest",Zs "lone"] (T0 31).2.1 (T0 31).2.2.names 3 [] where
 ex:=⟨_,_,_,_,_,_,_,_,_,_,_,_,_,_,fun w=>(show (KK w.params).lookup 420=some (KL w.params) by kernel_rfl),fun w=>by kernel_rfl,rfl,by kernel_rfl,by kernel_rfl,by kernel_rfl,fun w s vs X hv=>by
  obtain ⟨a,b,c,rfl⟩:=Wm hv
  exact BindsTo.of_eq rfl⟩
 len:=rfl
 nd:=by decide
 kinds:=by kernel_rfl
 cells:=by decide +kernel
noncomputable def ZcY:MB:=(.cons (.tryE (.cons (.expr (.call 100 (.cons (.slot 0) (.cons (.slot 1) (.cons (.slot 2) .nil))))) .nil) (.cons .badCode (.const (.bool false)) .nil)) (.cons (.ret (.const (.bool true))) .nil))
noncomputable abbrev Rg:List Str:=[Zs "lengths",Zs "longest",Zs "lone"]
theorem ZeZ:repB ZcY ⟨Rg,(T0 31).2.2.names⟩ (T0 31).2.1=true:=by kernel_rfl
theorem ZdH:Rg.Nodup:=by decide
theorem ZaG:ZB 425 [Zs "lengths",Zs "longest"] (T0 32).2.1 (T0 32).2.2.names 2 [] where
 ex:=⟨_,_,_,_,_,_,_,_,_,_,_,_,_,_,fun w=>(show (KK w.params).lookup 425=some (KM w.params) by kernel_rfl),fun w=>by kernel_rfl,rfl,by kernel_rfl,by kernel_rfl,by kernel_rfl,fun w s vs X hv=>by
  obtain ⟨a,b,rfl⟩:=YA hv
  exact BindsTo.of_eq rfl⟩
 len:=rfl
 nd:=by decide
 kinds:=by kernel_rfl
 cells:=by decide +kernel
noncomputable def ZcZ:MB:=(.cons (.tupSwap [2,3] (.cons .dict0 (.cons (.const (.int 0)) .nil))) (.cons (.for [4] (.rng2 (.const (.int 1)) (.bin .add (.slot 1) (.const (.int 1)))) (.cons (.for [5,6] (.enm (.slot 0)) (.cons (.ifs (.cmp (.slot 6) (.one .eq (.slot 4))) (.cons (.assign 7 (.bin .shr (.slot 3) (.bin .sub (.slot 1) (.slot 4)))) (.cons (.setIdx (.slot 2) (.slot 5) (.bm .join (.const (.str [])) (.cons (.comp (.rng1 (.slot 4)) [Zs "bit",Zs "place",Zs "length"] [none,some 7,some 4] [0] .nil (.blt .str (.cons (.bin .band (.bin .shr (.slot 1) (.bin .sub (.bin .sub (.slot 2) (.const (.int 1))) (.slot 0))) (.const (.int 1))) .nil))) .nil))) (.cons (.aug 3 .add (.bin .shl (.const (.int 1)) (.bin .sub (.slot 1) (.slot 4)))) .nil))) .nil) .nil)) .nil)) (.cons (.ret (.slot 2)) .nil)))
noncomputable abbrev Rh:List Str:=[Zs "lengths",Zs "longest",Zs "found",Zs "spent",Zs "length",Zs "symbol",Zs "own",Zs "place"]
theorem Ze0:repB ZcZ ⟨Rh,(T0 32).2.2.names⟩ (T0 32).2.1=true:=by kernel_rfl
theorem ZdI:Rh.Nodup:=by decide
theorem ZaI:ZB 430 [Zs "codes",Zs "longest"] (T0 33).2.1 (T0 33).2.2.names 2 [] where
 ex:=⟨_,_,_,_,_,_,_,_,_,_,_,_,_,_,fun w=>(show (KK w.params).lookup 430=some (KN w.params) by kernel_rfl),fun w=>by kernel_rfl,rfl,by kernel_rfl,by kernel_rfl,by kernel_rfl,fun w s vs X hv=>by
  obtain ⟨a,b,rfl⟩:=YA hv
  exact BindsTo.of_eq rfl⟩
 len:=rfl
 nd:=by decide
 kinds:=by kernel_rfl
 cells:=by decide +kernel
noncomputable def Zc1:MB:=(.cons (.assign 2 (.list (.cons (.const (.str [])) .nil))) (.cons (.for [3] (.rng1 (.slot 1)) (.cons (.asComp2 2 (.val (.slot 2)) [Zs "row",Zs "sign"] [none,none] 0 1 (.val (.const (.str [48,49]))) (.bin .add (.slot 0) (.slot 1))) .nil)) (.cons (.for [4] (.val (.slot 2)) (.cons (.ifs (.cmp (.blt .len (.cons (.comp (.val (.slot 0)) [Zs "symbol",Zs "row",Zs "codes"] [none,some 4,some 0] [0] (.cons (.cmp (.slice (.slot 1) .hole (.blt .len (.cons (.idx (.slot 2) (.slot 0)) .nil))) (.one .eq (.idx (.slot 2) (.slot 0)))) .nil) (.slot 0)) .nil)) (.one .ne (.const (.int 1)))) (.cons (.ret (.const (.bool false))) .nil) .nil) .nil)) (.cons (.ret (.const (.bool true))) .nil))))
noncomputable abbrev Rj:List Str:=[Zs "codes",Zs "longest",Zs "rows",Zs "turn",Zs "row"]
theorem Ze2:repB Zc1 ⟨Rj,(T0 33).2.2.names⟩ (T0 33).2.1=true:=by kernel_rfl
theorem ZdK:Rj.Nodup:=by decide
theorem ZaE:ZB 435 [Zs "octets"] (T0 34).2.1 (T0 34).2.2.names 1 [] where
 ex:=⟨_,_,_,_,_,_,_,_,_,_,_,_,_,_,fun w=>(show (KK w.params).lookup 435=some (KO w.params) by kernel_rfl),fun w=>by kernel_rfl,rfl,by kernel_rfl,by kernel_rfl,by kernel_rfl,fun w s vs X hv=>by
  obtain ⟨a,rfl⟩:=Xb hv
  exact BindsTo.of_eq rfl⟩
 len:=rfl
 nd:=by decide
 kinds:=by kernel_rfl
 cells:=by decide +kernel
noncomputable def ZcX:MB:=(.cons (.assign 1 (.list .nil)) (.cons (.for [2] (.val (.slot 0)) (.cons (.expr (.bm .extend (.slot 1) (.cons (.comp (.rng1 (.const (.int 8))) [Zs "bit",Zs "octet"] [none,some 2] [0] .nil (.blt .str (.cons (.bin .band (.bin .shr (.slot 1) (.slot 0)) (.const (.int 1))) .nil))) .nil))) .nil)) (.cons (.ret (.bm .join (.const (.str [])) (.cons (.slot 1) .nil))) .nil)))
noncomputable abbrev Rf:List Str:=[Zs "octets",Zs "found",Zs "octet"]
theorem ZeY:repB ZcX ⟨Rf,(T0 34).2.2.names⟩ (T0 34).2.1=true:=by kernel_rfl
theorem ZdG:Rf.Nodup:=by decide
theorem ZaO:ZB 442 [Zs "codes",Zs "stream"] (T0 35).2.1 (T0 35).2.2.names 2 [] where
 ex:=⟨_,_,_,_,_,_,_,_,_,_,_,_,_,_,fun w=>(show (KK w.params).lookup 442=some (KP w.params) by kernel_rfl),fun w=>by kernel_rfl,rfl,by kernel_rfl,by kernel_rfl,by kernel_rfl,fun w s vs X hv=>by
  obtain ⟨a,b,rfl⟩:=YA hv
  exact BindsTo.of_eq rfl⟩
 len:=rfl
 nd:=by decide
 kinds:=by kernel_rfl
 cells:=by decide +kernel
noncomputable def Zc7:MB:=(.cons (.tupSwap [2,3,4] (.cons (.list .nil) (.cons (.const (.int 0)) (.cons (.const (.bool true)) .nil)))) (.cons (.while (.slot 4) (.cons (.assign 4 (.const (.bool false))) (.cons (.for [5] (.val (.slot 0)) (.cons (.assign 6 (.idx (.slot 0) (.slot 5))) (.cons (.ifs (.bools .And (.cons (.not (.slot 4)) (.cons (.cmp (.slice (.slot 1) (.slot 3) (.bin .add (.slot 3) (.blt .len (.cons (.slot 6) .nil)))) (.one .eq (.slot 6))) .nil))) (.cons (.expr (.bm .append (.slot 2) (.cons (.slot 5) .nil))) (.cons (.aug 3 .add (.blt .len (.cons (.slot 6) .nil))) (.cons (.assign 4 (.const (.bool true))) .nil))) .nil) .nil))) .nil))) (.cons (.ret (.slot 2)) .nil)))
noncomputable abbrev Rr:List Str:=[Zs "codes",Zs "stream",Zs "found",Zs "place",Zs "more",Zs "symbol",Zs "code"]
theorem Ze8:repB Zc7 ⟨Rr,(T0 35).2.2.names⟩ (T0 35).2.1=true:=by kernel_rfl
theorem ZdQ:Rr.Nodup:=by decide
theorem ZaR:ZB 449 [Zs "reader",Zs "stream",Zs "most"] (T0 36).2.1 (T0 36).2.2.names 3 [] where
 ex:=⟨_,_,_,_,_,_,_,_,_,_,_,_,_,_,fun w=>(show (KK w.params).lookup 449=some (KQ w.params) by kernel_rfl),fun w=>by kernel_rfl,rfl,by kernel_rfl,by kernel_rfl,by kernel_rfl,fun w s vs X hv=>by
  obtain ⟨a,b,c,rfl⟩:=Wm hv
  exact BindsTo.of_eq rfl⟩
 len:=rfl
 nd:=by decide
 kinds:=by kernel_rfl
 cells:=by decide +kernel
noncomputable def Zda:MB:=(.cons (.assign 3 (.list .nil)) (.cons (.for [4] (.rng1 (.slot 2)) (.cons (.tryE (.cons (.expr (.bm .append (.slot 3) (.cons (.om .read (.slot 0) (.cons (.slot 1) .nil)) .nil))) .nil) (.cons .cutShort (.tup 3 (.str [99,117,116])) (.cons .badCode (.tup 3 (.str [98,97,100])) .nil))) .nil)) (.cons (.ret (.tup (.cons (.slot 3) (.cons (.const (.str [111,110])) .nil)))) .nil)))
noncomputable abbrev Ru:List Str:=[Zs "reader",Zs "stream",Zs "most",Zs "found",Zs "turn"]
theorem Zfb:repB Zda ⟨Ru,(T0 36).2.2.names⟩ (T0 36).2.1=true:=by kernel_rfl
theorem ZdT:Ru.Nodup:=by decide
theorem ZaT:ZB 454 [Zs "pool",Zs "lengths",Zs "codes"] (T0 37).2.1 (T0 37).2.2.names 3 [] where
 ex:=⟨_,_,_,_,_,_,_,_,_,_,_,_,_,_,fun w=>(show (KK w.params).lookup 454=some (KR w.params) by kernel_rfl),fun w=>by kernel_rfl,rfl,by kernel_rfl,by kernel_rfl,by kernel_rfl,fun w s vs X hv=>by
  obtain ⟨a,b,c,rfl⟩:=Wm hv
  exact BindsTo.of_eq rfl⟩
 len:=rfl
 nd:=by decide
 kinds:=by kernel_rfl
 cells:=by decide +kernel
noncomputable def WW:MB:=(.cons (.assign 3 (.blx .sorted (.cons (.slot 2) .nil))) (.cons (.asComp 4 (.rng1 (.const (.int 6))) [Zs "turn",Zs "some",Zs "pool"] [none,some 3,some 0] [0] .nil (.idx (.slot 1) (.call 389 (.cons (.slot 2) (.cons (.blt .len (.cons (.slot 1) .nil)) .nil))))) (.cons (.tup [5,6,7] (.cons (.new .lowW .nil) (.cons (.new .writer (.cons (.slot 1) .nil)) (.cons (.const (.str [])) .nil)))) (.cons (.for [8] (.val (.slot 4)) (.cons (.expr (.om .write (.slot 6) (.cons (.slot 5) (.cons (.slot 8) .nil)))) (.cons (.aug 7 .add (.idx (.slot 2) (.slot 8))) (.cons (.ifs (.bools .Or (.cons (.cmp (.om .cost (.slot 6) (.cons (.slot 8) .nil)) (.one .ne (.blt .len (.cons (.idx (.slot 2) (.slot 8)) .nil)))) (.cons (.cmp (.om .size (.slot 5) .nil) (.one .ne (.blt .len (.cons (.slot 7) .nil)))) .nil))) (.cons (.ret (.const (.bool false))) .nil) .nil) .nil)))) (.cons (.assign 9 (.om .done (.slot 5) .nil)) (.cons (.ifs (.bools .Or (.cons (.cmp (.slice (.call 435 (.cons (.slot 9) .nil)) .hole (.blt .len (.cons (.slot 7) .nil))) (.one .ne (.slot 7))) (.cons (.cmp (.const (.str [49])) (.one .isin (.slice (.call 435 (.cons (.slot 9) .nil)) (.blt .len (.cons (.slot 7) .nil)) .hole))) .nil))) (.cons (.ret (.const (.bool false))) .nil) .nil) (.cons (.ifs (.cmp (.call 449 (.cons (.new .reader (.cons (.slot 1) (.cons (.const (.int 15)) .nil))) (.cons (.new .lowR (.cons (.slot 9) .nil)) (.cons (.blt .len (.cons (.slot 4) .nil)) .nil)))) (.one .ne (.tup (.cons (.slot 4) (.cons (.const (.str [111,110])) .nil))))) (.cons (.ret (.const (.bool false))) .nil) .nil) (.cons (.assign 10 (.bin .add (.comp (.enm (.slot 1)) [Zs "symbol",Zs "length"] [none,none] [0,1] (.cons (.cmp (.slot 1) (.one .eq (.const (.int 0)))) .nil) (.slot 0)) (.list (.cons (.neg (.const (.int 1))) (.cons (.blt .len (.cons (.slot 1) .nil)) .nil))))) (.cons (.ret (.cmp (.comp (.val (.slot 10)) [Zs "symbol",Zs "own"] [none,some 6] [0] (.cons (.bools .Or (.cons (.cmp (.om .cost (.slot 1) (.cons (.slot 0) .nil)) (.one .isnt (.const .none))) (.cons (.not (.call 461 (.cons (.slot 1) (.cons (.slot 0) .nil)))) .nil))) .nil) (.slot 0)) (.one .eq (.list .nil)))) .nil)))))))))
noncomputable abbrev Rw:List Str:=[Zs "pool",Zs "lengths",Zs "codes",Zs "some",Zs "symbols",Zs "writer",Zs "own",Zs "due",Zs "symbol",Zs "octets",Zs "odd"]
theorem Zfd:repB WW ⟨Rw,(T0 37).2.2.names⟩ (T0 37).2.1=true:=by kernel_rfl
theorem ZdV:Rw.Nodup:=by decide
theorem ZaS:ZB 461 [Zs "own",Zs "symbol"] (T0 38).2.1 (T0 38).2.2.names 2 [] where
 ex:=⟨_,_,_,_,_,_,_,_,_,_,_,_,_,_,fun w=>(show (KK w.params).lookup 461=some (KS w.params) by kernel_rfl),fun w=>by kernel_rfl,rfl,by kernel_rfl,by kernel_rfl,by kernel_rfl,fun w s vs X hv=>by
  obtain ⟨a,b,rfl⟩:=YA hv
  exact BindsTo.of_eq rfl⟩
 len:=rfl
 nd:=by decide
 kinds:=by kernel_rfl
 cells:=by decide +kernel
noncomputable def Zdb:MB:=(.cons (.tryE (.cons (.expr (.om .write (.slot 0) (.cons (.new .lowW .nil) (.cons (.slot 1) .nil)))) .nil) (.cons .badCode (.const (.bool true)) .nil)) (.cons (.ret (.const (.bool false))) .nil))
noncomputable abbrev Rv:List Str:=[Zs "own",Zs "symbol"]
theorem Zfc:repB Zdb ⟨Rv,(T0 38).2.2.names⟩ (T0 38).2.1=true:=by kernel_rfl
theorem ZdU:Rv.Nodup:=by decide
theorem ZaL:ZB 466 [Zs "pool"] (T0 39).2.1 (T0 39).2.2.names 1 [] where
 ex:=⟨_,_,_,_,_,_,_,_,_,_,_,_,_,_,fun w=>(show (KK w.params).lookup 466=some (KT w.params) by kernel_rfl),fun w=>by kernel_rfl,rfl,by kernel_rfl,by kernel_rfl,by kernel_rfl,fun w s vs X hv=>by
  obtain ⟨a,rfl⟩:=Xb hv
  exact BindsTo.of_eq rfl⟩
 len:=rfl
 nd:=by decide
 kinds:=by kernel_rfl
 cells:=by decide +kernel
noncomputable def Zc4:MB:=(.cons (.assign 1 (.bin .add (.const (.int 1)) (.call 389 (.cons (.slot 0) (.cons (.const (.int 4)) .nil))))) (.cons (.assign 2 (.call 389 (.cons (.slot 0) (.cons (.slot 1) .nil)))) (.cons (.asComp 3 (.rng1 (.slot 1)) [Zs "place",Zs "at"] [none,some 2] [0] .nil (.blt .int (.cons (.cmp (.slot 0) (.one .eq (.slot 1))) .nil))) (.cons (.ifs (.cmp (.call 449 (.cons (.new .reader (.cons (.slot 3) (.cons (.const (.int 15)) (.cons (.const (.bool true)) .nil)))) (.cons (.new .lowR (.cons (.blt .bytes (.cons (.list (.cons (.const (.int 0)) .nil)) .nil)) .nil)) (.cons (.const (.int 8)) .nil)))) (.one .ne (.tup (.cons (.bin .mul (.list (.cons (.slot 2) .nil)) (.const (.int 8))) (.cons (.const (.str [111,110])) .nil))))) (.cons (.ret (.const (.bool false))) .nil) .nil) (.cons (.ret (.cmp (.call 449 (.cons (.new .reader (.cons (.slot 3) (.cons (.const (.int 15)) (.cons (.const (.bool true)) .nil)))) (.cons (.new .lowR (.cons (.blt .bytes (.cons (.list (.cons (.const (.int 254)) (.cons (.const (.int 255)) (.cons (.const (.int 255)) (.cons (.const (.int 255)) .nil))))) .nil)) .nil)) (.cons (.const (.int 9)) .nil)))) (.one .eq (.tup (.cons (.list (.cons (.slot 2) .nil)) (.cons (.const (.str [98,97,100])) .nil)))))) .nil)))))
noncomputable abbrev Ro:List Str:=[Zs "pool",Zs "many",Zs "at",Zs "lengths"]
theorem Ze5:repB Zc4 ⟨Ro,(T0 39).2.2.names⟩ (T0 39).2.1=true:=by kernel_rfl
theorem ZdN:Ro.Nodup:=by decide
theorem ZaH:ZB 473 [] (T0 40).2.1 (T0 40).2.2.names 0 [] where
 ex:=⟨_,_,_,_,_,_,_,_,_,_,_,_,_,_,fun w=>(show (KK w.params).lookup 473=some (KU w.params) by kernel_rfl),fun w=>by kernel_rfl,rfl,by kernel_rfl,by kernel_rfl,by kernel_rfl,fun w s vs X hv=>by
  obtain rfl:=ZhK hv
  exact BindsTo.of_eq rfl⟩
 len:=rfl
 nd:=by decide
 kinds:=by kernel_rfl
 cells:=by decide +kernel
noncomputable def Zc0:MB:=(.cons (.tupSwap [0,1] (.cons (.bin .add (.listRange (.const (.int 1)) (.const (.int 16))) (.list (.cons (.const (.int 15)) .nil))) (.cons (.blt .bytes (.cons (.list (.cons (.const (.int 255)) (.cons (.const (.int 255)) (.cons (.const (.int 85)) .nil)))) .nil)) .nil))) (.cons (.assign 2 (.call 442 (.cons (.call 425 (.cons (.slot 0) (.cons (.const (.int 15)) .nil))) (.cons (.call 435 (.cons (.slot 1) .nil)) .nil)))) (.cons (.ifs (.cmp (.call 449 (.cons (.new .reader (.cons (.slot 0) .nil)) (.cons (.new .lowR (.cons (.slot 1) .nil)) (.cons (.const (.int 25)) .nil)))) (.one .ne (.tup (.cons (.slot 2) (.cons (.const (.str [99,117,116])) .nil))))) (.cons (.ret (.const (.bool false))) .nil) .nil) (.cons (.tryE (.cons (.expr (.new .reader (.cons (.bin .add (.listRange (.const (.int 1)) (.const (.int 17))) (.list (.cons (.const (.int 16)) .nil))) .nil))) .nil) (.cons .badCode (.const (.bool true)) .nil)) (.cons (.ret (.const (.bool false))) .nil)))))
noncomputable abbrev Ri:List Str:=[Zs "row",Zs "octets",Zs "due"]
theorem Ze1:repB Zc0 ⟨Ri,(T0 40).2.2.names⟩ (T0 40).2.1=true:=by kernel_rfl
theorem ZdJ:Ri.Nodup:=by decide
theorem ZaD:ZB 478 [Zs "script"] (T0 41).2.1 (T0 41).2.2.names 1 [] where
 ex:=⟨_,_,_,_,_,_,_,_,_,_,_,_,_,_,fun w=>(show (KK w.params).lookup 478=some (KV w.params) by kernel_rfl),fun w=>by kernel_rfl,rfl,by kernel_rfl,by kernel_rfl,by kernel_rfl,fun w s vs X hv=>by
  obtain ⟨a,rfl⟩:=Xb hv
  exact BindsTo.of_eq rfl⟩
 len:=rfl
 nd:=by decide
 kinds:=by kernel_rfl
 cells:=by decide +kernel
noncomputable def Xw:MB:=(.cons (.assign 1 (.call 382 (.cons (.slot 0) .nil))) (.cons (.assign 2 (.call 396 (.cons (.slot 1) .nil))) (.cons (.assign 3 (.blt .max (.cons (.slot 2) .nil))) (.cons (.for [4] (.val (.list (.cons (.slot 2) (.cons (.call 401 (.cons (.slot 1) (.cons (.slot 2) .nil))) (.cons (.call 401 (.cons (.slot 1) (.cons (.slot 2) .nil))) .nil))))) (.cons (.assign 5 (.blt .max (.cons (.bin .add (.slot 4) (.list (.cons (.const (.int 1)) .nil))) .nil))) (.cons (.ifs (.cmp (.call 92 (.cons (.slot 4) (.cons (.slot 5) .nil))) (.one .ne (.bin .sub (.bin .shl (.const (.int 1)) (.slot 5)) (.call 408 (.cons (.slot 4) (.cons (.slot 5) .nil)))))) (.cons (.ret (.const (.bool false))) .nil) .nil) (.cons (.for [6] (.val (.tup (.cons (.const (.bool false)) (.cons (.const (.bool true)) .nil)))) (.cons (.assign 7 (.call 413 (.cons (.slot 4) (.cons (.slot 5) (.cons (.slot 6) .nil))))) (.cons (.ifs (.bools .Or (.cons (.cmp (.call 420 (.cons (.slot 4) (.cons (.slot 5) (.cons (.slot 6) .nil)))) (.one .ne (.slot 7))) (.cons (.cmp (.call 420 (.cons (.slot 4) (.cons (.bin .add (.slot 5) (.const (.int 2))) (.cons (.slot 6) .nil)))) (.one .ne (.slot 7))) .nil))) (.cons (.ret (.const (.bool false))) .nil) .nil) (.cons (.ifs (.bools .Or (.cons (.call 420 (.cons (.bin .add (.slot 4) (.list (.cons (.neg (.const (.int 1))) .nil))) (.cons (.slot 5) (.cons (.slot 6) .nil)))) (.cons (.bools .And (.cons (.cmp (.blt .max (.cons (.slot 4) .nil)) (.one .gt (.const (.int 1)))) (.cons (.call 420 (.cons (.slot 4) (.cons (.bin .sub (.blt .max (.cons (.slot 4) .nil)) (.const (.int 1))) (.cons (.slot 6) .nil)))) .nil))) .nil))) (.cons (.ret (.const (.bool false))) .nil) .nil) .nil)))) .nil)))) (.cons (.tup [8,9] (.cons (.call 425 (.cons (.slot 2) (.cons (.slot 3) .nil))) (.cons (.call 121 (.cons (.slot 2) .nil)) .nil))) (.cons (.ifs (.bools .Or (.cons (.cmp (.blt .len (.cons (.slot 9) .nil)) (.one .ne (.blt .len (.cons (.slot 2) .nil)))) (.cons (.not (.call 430 (.cons (.slot 8) (.cons (.slot 3) .nil)))) .nil))) (.cons (.ret (.const (.bool false))) .nil) .nil) (.cons (.for [10] (.val (.slot 8)) (.cons (.assign 11 (.idx (.slot 2) (.slot 10))) (.cons (.ifs (.cmp (.bm .join (.const (.str [])) (.cons (.comp (.rng1 (.slot 11)) [Zs "bit",Zs "told",Zs "symbol",Zs "length"] [none,some 9,some 10,some 11] [0] .nil (.blt .str (.cons (.bin .band (.bin .shr (.idx (.slot 1) (.slot 2)) (.bin .sub (.bin .sub (.slot 3) (.const (.int 1))) (.slot 0))) (.const (.int 1))) .nil))) .nil)) (.one .ne (.idx (.slot 8) (.slot 10)))) (.cons (.ret (.const (.bool false))) .nil) .nil) (.cons (.ifs (.cmp (.bin .shr (.idx (.slot 9) (.slot 10)) (.slot 11)) (.one .ne (.const (.int 0)))) (.cons (.ret (.const (.bool false))) .nil) .nil) .nil)))) (.cons (.ifs (.cmp (.comp (.enm (.slot 2)) [Zs "symbol",Zs "length",Zs "told"] [none,none,some 9] [0,1] (.cons (.bools .And (.cons (.cmp (.slot 1) (.one .eq (.const (.int 0)))) (.cons (.cmp (.idx (.slot 2) (.slot 0)) (.one .ne (.const (.int 0)))) .nil))) .nil) (.slot 0)) (.one .ne (.list .nil))) (.cons (.ret (.const (.bool false))) .nil) .nil) (.cons (.ifs (.bools .And (.cons (.cmp (.blx .lenZ (.cons (.slot 0) .nil)) (.one .gt (.const (.int 1)))) (.cons (.not (.call 473 .nil)) .nil))) (.cons (.ret (.const (.bool false))) .nil) .nil) (.cons (.assign 12 (.blt .bytes (.cons (.comp (.rng1 (.bin .add (.const (.int 3)) (.call 389 (.cons (.slot 1) (.cons (.const (.int 4)) .nil))))) [Zs "k",Zs "pool"] [none,some 1] [0] .nil (.call 389 (.cons (.slot 1) (.cons (.const (.int 256)) .nil)))) .nil))) (.cons (.assign 7 (.call 442 (.cons (.slot 8) (.cons (.call 435 (.cons (.slot 12) .nil)) .nil)))) (.cons (.ifs (.cmp (.call 449 (.cons (.new .reader (.cons (.slot 2) (.cons (.const (.int 15)) .nil))) (.cons (.new .lowR (.cons (.slot 12) .nil)) (.cons (.bin .add (.bin .mul (.const (.int 8)) (.blt .len (.cons (.slot 12) .nil))) (.const (.int 1))) .nil)))) (.one .ne (.tup (.cons (.slot 7) (.cons (.const (.str [99,117,116])) .nil))))) (.cons (.ret (.const (.bool false))) .nil) .nil) (.cons (.ret (.bools .And (.cons (.call 454 (.cons (.slot 1) (.cons (.slot 2) (.cons (.slot 8) .nil)))) (.cons (.call 466 (.cons (.slot 1) .nil)) .nil)))) .nil)))))))))))))
noncomputable abbrev Re:List Str:=[Zs "script",Zs "pool",Zs "lengths",Zs "longest",Zs "row",Zs "most",Zs "lone",Zs "due",Zs "codes",Zs "told",Zs "symbol",Zs "length",Zs "octets"]
theorem ZeX:repB Xw ⟨Re,(T0 41).2.2.names⟩ (T0 41).2.1=true:=by kernel_rfl
theorem ZdF:Re.Nodup:=by decide
theorem WB.less {n:Nat}{κ:Cx}{st:List Stmt}{loc loc':Zc}{σ:List Za}{Q:SQ}{X:SX}(h:WB n κ st loc' σ Q X)(hl:∀ (i:Nat) av,loc'[i]?=some (some av)→loc[i]?=some (some av)):WB n κ st loc σ Q X:=
 fun φ ex β s Qc Ec hr hf hc R kQ kX=>h φ ex β s Qc Ec hr hf hc (R.less hl) kQ kX
theorem WB.mono {n:Nat}{κ:Cx}{st:List Stmt}{l:Zc}{σ:List Za}{Q Q':SQ}{X X':SX}(h:WB n κ st l σ Q X)(hq:∀ a l σ,Q a l σ→Q' a l σ)(hx:∀ c l σ,X c l σ→X' c l σ):WB n κ st l σ Q' X':=
 fun φ ex β s Qc Ec hr hf hc R kQ kX=>h φ ex β s Qc Ec hr hf hc R (fun f af l' σ' β' s' q=>kQ f af l' σ' β' s' (hq _ _ _ q)) fun c l' σ' β' e s' x=>kX c l' σ' β' e s' (hx _ _ _ x)
theorem ZA {P Q:Prop}(h:P):YH true P Q:=h
theorem ZI {P Q:Prop}(h:Q):YH false P Q:=h
noncomputable def TY:List Str→Zc
|[]=>[]
|_::r=>none::TY r
noncomputable def TX (rest:List Str):List AV→Zc
|[]=>TY rest
|v::l=>some v::TX rest l
theorem CO {rest:List Str}:∀ {l:List AV} {i:Nat} {av:AV},(TX rest l)[i]?=some (some av)→(l.map some)[i]?=some (some av)
|[],i,av,h=>by
  have:∀ (r:List Str) (i:Nat),(TY r)[i]?≠some (some av):=by
   intro r
   induction r with
  |nil=>intro i h;cases h
  |cons _ r ih=>intro i h;cases i with
   |zero=>cases h
   |succ i=>exact ih i h
  exact (this _ _ h).elim
|v::l,0,av,h=>h
|v::l,i+1,av,h=>CO (l:=l) h
noncomputable def ZT (Q:Zq):SQ:=fun fl _ σ'=>match fl with|.ret v=>Q v σ'|.next=>Q .none σ'
theorem Zfi {Q:Zq}:∀ {fl:W9} {l:Zc} {σ:List Za},ZT Q fl l σ→Q (match fl with|.ret v=>v|.next=>.none) σ
|.ret _,_,_,h=>h
|.next,_,_,h=>h
noncomputable def Z2 (X:Zx):SX:=fun c _ σ'=>X c σ'
theorem WF.mini {n:Nat}{a:Addr}{args dargs:List AV}{ps:List Str}(rest:List Str){body:List Stmt}{sc:List (Str×NameKind)}{ds:List Value}{σ:List Za}{Q:Zq}{X:Zx}{m:MB}
  (H:ZB a ps body sc args.length ds) {xs:List Str} (hrep:repB m ⟨xs,sc⟩ body=true) (nd:xs.Nodup) (hd:Ze (VR []) ds dargs) (hn:3≤n)
  (h:vB (n-1) m (TX rest (args++dargs)) σ (ZT Q) (Z2 X)) (hx:xs=ps++rest:=by rfl):WF n a args σ Q X:=by
 subst hx
 obtain ⟨n,rfl⟩:∃ k,n=k+1:=⟨n-1,by exact qp ‹_›⟩
 exact WF.of_body (rest:=rest) H hd (WB.less (WB.mono (ZgL (by exact Nat.le_of_lt_succ ‹_›) m _ _ _ _ _ _ nd hrep h) (fun _ _ _ q=>Zfi q) fun _ _ _ x=>x) fun i av e=>CO e)
section
variable {op:Yj}{cp:Yt}{i j n:Int}{x y:List Nat}{p q:List UInt8}{a b:Nat}{c d:Bool}{v w:AV}{σ:List Za}{Q:Zq}{P:Bool→Prop}
theorem Zip:Wi op (.int i) (.int j) σ Q=W3 op i j fun k=>Q (.int k) σ:=rfl
theorem Zis:Wi op (.str x) (.str y) σ Q=(op=.add∧x.length+y.length≤sizeLine∧Q (.str (x++y)) σ):=rfl
theorem Zio:Wi op (.bytes p) (.bytes q) σ Q=(op=.add∧p.length+q.length≤16777216∧Q (.bytes (p++q)) σ):=rfl
theorem Zir:Wi op (.obj a) (.obj b) σ Q=(op=.add∧∃ ls ms,σ[a]?=some (.list ls)∧σ[b]?=some (.list ms)∧ls.length+ms.length≤1000000∧Q (.obj σ.length) (σ++[.list (ls++ms)])):=rfl
theorem Ziq:Wi op (.obj a) (.int n) σ Q=(op=.mul∧∃ ls,σ[a]?=some (.list ls)∧n<2^63∧-(2^63:Int)≤n∧ls.length*n.toNat≤256∧Q (.obj σ.length) (σ++[.list ((List.replicate n.toNat ls).flatten)])):=rfl
theorem Zij:X6 op (.int i) (.int j) σ Q=W3 op i j fun k=>Q (.int k) σ:=rfl
theorem Zik:X6 op (.str x) (.str y) σ Q=(op=.add∧x.length+y.length≤sizeLine∧Q (.str (x++y)) σ):=rfl
noncomputable def Sj (cp:Yt)(i j:Int)(P:Bool→Prop):Prop:=match cp with
|.eq=>P (decide (i=j))|.ne=>P (!decide (i=j))|.lt=>P (decide (i<j))|.le=>P (decide (i≤j))|.gt=>P (decide (j<i))|.ge=>P (decide (j≤i))|_=>False
theorem Zid:YC cp (.int i) (.int j) σ P=Sj cp i j P:=rfl
noncomputable def Si (cp:Yt)(c d:Bool)(P:Bool→Prop):Prop:=match cp with|.eq=>P (c==d)|.ne=>P (!(c==d))|_=>False
theorem Zic:YC cp (.bool c) (.bool d) σ P=Si cp c d P:=rfl
noncomputable def Sk (cp:Yt)(x y:List Nat)(P:Bool→Prop):Prop:=match cp with|.eq=>P (decide (x=y))|.ne=>P (!decide (x=y))|.isin=>P (Txt.contains ⟨y.toArray⟩ ⟨x.toArray⟩)|_=>False
theorem Zih:YC cp (.str x) (.str y) σ P=Sk cp x y P:=rfl
noncomputable def NN (cp:Yt)(c d:Bool)(P:Bool→Prop):Prop:=match cp with|.is=>P c|.isnt=>P d|_=>False
theorem Zif:YC cp .none .none σ P=NN cp true false P:=rfl
theorem Zie:YC cp (.int i) .none σ P=NN cp false true P:=rfl
theorem Zig:YC cp (.obj a) (.obj b) σ P=((cp=.eq∨cp=.ne)∧((∃ (ns ms:List Int),σ[a]?=some (.list (ns.map .int))∧σ[b]?=some (.list (ms.map .int))∧P (if cp=.eq then decide (ns=ms) else !decide (ns=ms))) ∨
   (∃ (u v:Nat) (ns ms:List Int) (p q:List Nat),σ[a]?=some (.tup [.obj u,.str p])∧σ[b]?=some (.tup [.obj v,.str q])∧σ[u]?=some (.list (ns.map .int))∧σ[v]?=some (.list (ms.map .int))∧Y9 p=true∧Y9 q=true ∧
    P (if cp=.eq then decide (ns=ms∧p=q) else !decide (ns=ms∧p=q))))):=rfl
theorem ZhL:Xe .len [.str x] σ Q=(x.length≤1099511627776∧Q (.int x.length) σ):=rfl
theorem ZhN:Xe .len [.bytes p] σ Q=(p.length≤1099511627776∧Q (.int p.length) σ):=rfl
theorem ZhO:Xe .len [.obj a] σ Q=(∃ ls,σ[a]?=some (.list ls)∧ls.length≤1099511627776∧Q (.int ls.length) σ):=rfl
theorem ZhP:Xe .max [.obj a] σ Q=(∃ ns:List Int,σ[a]?=some (.list (ns.map .int))∧ns≠[]∧∀ M,M∈ns→(∀ a∈ns,a≤M)→Q (.int M) σ):=rfl
theorem ZhQ:Xe .max [.int i,.int j] σ Q=Q (.int (if j>i then j else i)) σ:=rfl
theorem ZhR:Xe .abs [.int i] σ Q=Q (.int (if i<0 then -i else i)) σ:=rfl
theorem ZhS:Xe .int [.bool c] σ Q=Q (.int (if c then 1 else 0)) σ:=rfl
theorem ZhT:Xe .str [.int i] σ Q=((i=0∨i=1)∧Q (.str [48+i.toNat]) σ):=rfl
theorem ZhU:Xe .bytes [.obj a] σ Q=(∃ ns:List Int,σ[a]?=some (.list (ns.map .int))∧ns.length≤sizeLine∧(∀ n∈ns,0≤n∧n<256)∧Q (.bytes (ns.map fun n=>n.toNat.toUInt8)) σ):=rfl
theorem ZhM:Xe .list [.obj a] σ Q=(∃ ls,σ[a]?=some (.list ls)∧ls.length≤sizeLine∧Q (.obj σ.length) (σ++[.list ls])):=rfl
theorem ZhV:XZ .lenBA [.obj a] σ Q=(∃ l,σ[a]?=some (.barr l)∧l.length≤1099511627776∧Q (.int l.length) σ):=rfl
theorem ZhW:XZ .bytesB [.bytes p] σ Q=Q (.bytes p) σ:=rfl
theorem ZhX:XZ .bytesBA [.obj a] σ Q=(∃ l,σ[a]?=some (.barr l)∧l.length≤sizeLine∧Q (.bytes l) σ):=rfl
theorem ZhY:XZ .sorted [.obj a] σ Q=(∃ kvs ep,σ[a]?=some (.dict kvs ep)∧(kvs.map Prod.fst).Nodup∧kvs.length<64∧∀ ns:List Int,ns.Perm (kvs.map Prod.fst)→ns.Pairwise (·≤·)→Q (.obj σ.length) (σ++[.list (ns.map .int)])):=rfl
theorem ZhZ:XZ .ba0 [] σ Q=Q (.obj σ.length) (σ++[.barr []]):=rfl
theorem Zh0:XZ .lenZ [.obj a] σ Q=(∃ o xs,σ[a]?=some (.frz o xs)∧xs.length≤1099511627776∧Q (.int xs.length) σ):=rfl
theorem Zh6:Wq .join (.str x) σ=True:=rfl
theorem Zh7:Wq .bapp (.obj a) σ=∃ l,σ[a]?=some (.barr l):=rfl
theorem Zh8:Wq .append (.obj a) σ=∃ ls,σ[a]?=some (.list ls):=rfl
theorem Zh9:Wq .insert (.obj a) σ=∃ ls,σ[a]?=some (.list ls):=rfl
theorem Zia:Wq .extend (.obj a) σ=∃ ls,σ[a]?=some (.list ls):=rfl
theorem Zh1:X0 .append (.obj a) [v] σ Q=(∃ ls,σ[a]?=some (.list ls)∧ls.length≤sizeLine∧Q .none (σ.set a (.list (ls++[v])))):=rfl
theorem Zh2:X0 .insert (.obj a) [.int i,v] σ Q=(∃ ls,σ[a]?=some (.list ls)∧ls.length≤sizeLine∧0≤i∧i<2^63∧Q .none (σ.set a (.list (ls.take i.toNat++v::ls.drop i.toNat)))):=rfl
theorem Zh3:X0 .extend (.obj a) [.obj b] σ Q=(∃ ls ms,σ[a]?=some (.list ls)∧σ[b]?=some (.list ms)∧ms≠[]∧ls.length+ms.length≤1000000∧Q .none (σ.set a (.list (ls++ms)))):=rfl
theorem Zh4:X0 .join (.str []) [.obj a] σ Q=(∃ ls:List (List Nat),σ[a]?=some (.list (ls.map .str))∧ls.flatten.length≤1000000∧Q (.str ls.flatten) σ):=rfl
theorem Zh5:X0 .bapp (.obj a) [.int i] σ Q=(∃ l,σ[a]?=some (.barr l)∧0≤i∧i<256∧l.length+1≤sizeLine∧Q .none (σ.set a (.barr (l++[i.toNat.toUInt8])))):=rfl
theorem Zil {P:Int→Prop}:Xh (.int i) P=P i:=rfl
theorem Zib:Wt (.bool c) P=P c:=rfl
theorem Zim {P:Prop}:UO .none P=P:=rfl
theorem Zin {P:Nat→Prop}:Vy (.obj a) P=P a:=rfl
end
local macro_rules |`(tactic| walk_at "d")=>do
 let l ← ("TX TY vS vE vEs vI vT vC vA vAt vH GL Jr W6 Vp Vd Xx ZZ Z3 W3 List.reverse List.reverseAux List.length_cons List.length_nil List.cons_append List.nil_append Zip Zis Zio Zir Ziq Zij Zik Zid Zic Zih Zif Zie Zig ZhL ZhN ZhO ZhP ZhQ ZhR ZhS ZhT ZhU ZhM ZhV ZhW ZhX ZhY ZhZ Zh0 Zh6 Zh7 Zh8 Zh9 Zia Zh1 Zh2 Zh3 Zh4 Zh5 Zil Zib Zim Zin Sj Si Sk NN".splitOn " ").toArray.mapM fun s=>`(Lean.Parser.Tactic.simpLemma| $(Lean.mkIdent s.toName):ident)
 `(tactic| try dsimp only [$l,*])
local macro_rules |`(tactic| walk_at "n")=>`(tactic| ((first|with_reducible refine Jn ?_|(walk_at "d";with_reducible refine Jn ?_));walk_at "d"))
local macro_rules |`(tactic| walk_at "b")=>`(tactic| (refine Zg5 ?_;walk_at "d"))
noncomputable abbrev IL (ns:List Int):Za:=.list (ns.map .int)
theorem Vs {a b:Int}(h:a.natAbs<2^64):IntMulOk a b:=by
 refine IntMulOk.of_left ?_
 unfold Builtin.Int.intBits
 split
 ·exact Nat.zero_le _
 ·rename_i h0
  have:a.natAbs≠0:=by simpa using h0
  have:=(Nat.log2_lt this).mpr h
  assumption
theorem B6 {a b:Int}(h:b.natAbs<2^64):IntMulOk a b:=by
 refine IntMulOk.of_right ?_
 unfold Builtin.Int.intBits
 split
 ·exact Nat.zero_le _
 ·rename_i h0
  have:b.natAbs≠0:=by simpa using h0
  have:=(Nat.log2_lt this).mpr h
  assumption
theorem WV {a:Int}{k:Nat}(h:a.natAbs<2^k):intBits a≤k:=by
 unfold intBits Builtin.Int.intBits
 split
 ·exact Nat.zero_le _
 ·rename_i h0
  have:a.natAbs≠0:=by simpa using h0
  have:=(Nat.log2_lt this).mpr h
  assumption
theorem Zd5 {x y:Int}(h:y.natAbs<2^64):Builtin.divisionGoesByPylong x y=false:=by
 unfold Builtin.divisionGoesByPylong
 have:¬ ((if (y==0)=true then 0 else y.natAbs.log2 / 30+1)>300):=by
  split
  ·decide
  ·rename_i h0
   have:y.natAbs≠0:=by simpa using h0
   have:=(Nat.log2_lt this).mpr h
   grind
 simp only [this,decide_false,Bool.false_and]
noncomputable def Y1 (left:Int):List Int→Int
|[]=>left
|c::cs=>Y1 (left*2-c) cs
theorem C8 (cs:List Int):∀ (left c:Int),Y1 left (cs++[c])=Y1 left cs*2-c:=by
 induction cs with
|nil=>intro left c;rfl
|cons d cs ih=>intro left c;exact ih _ c
theorem Xm {α:Type}{l:List α}{k:Nat}{c:α}(h:l[k]?=some c):l.take (k+1)=l.take k++[c]:=by
 rw [List.take_add_one,h];rfl
theorem Zh {σ γ:List Za}{x:Nat}{o:Za}(h:σ[x]?=some o):(σ++γ)[x]?=some o:=by
 rw [List.getElem?_append_left (List.getElem?_eq_some_iff.mp h).1];exact h
theorem GI {l:List AV}:∀ avs∈l.map (fun v=>[v]),avs.length=1:=by
 intro avs h
 obtain ⟨v,_,rfl⟩:=List.mem_map.mp h
 rfl
theorem BO {a:Int}{n:Nat}:∀ avs∈(List.range n).map (fun (i:Nat)=>[AV.int (a+i)]),avs.length=1:=by
 intro avs h
 obtain ⟨v,_,rfl⟩:=List.mem_map.mp h
 rfl
theorem BK {l:List AV}:∀ avs∈l.zipIdx.map (fun p=>[AV.int p.2,p.1]),avs.length=2:=by
 intro avs h
 obtain ⟨v,_,rfl⟩:=List.mem_map.mp h
 rfl
theorem Bu {a:Int}{n k:Nat}{avs:List AV}(h:((List.range n).map fun (i:Nat)=>[AV.int (a+i)])[k]?=some avs):k<n∧avs=[.int (a+k)]:=by
 simp only [List.getElem?_map,Option.map_eq_some_iff] at h
 obtain ⟨i,h1,h2⟩:=h
 have hk:k<n:=by have:=(List.getElem?_eq_some_iff.mp h1).1;simpa using this
 rw [List.getElem?_range hk] at h1
 cases h1
 exact ⟨hk,h2.symm⟩
theorem Bt {cs:List Int}{k:Nat}{avs:List AV}(h:((cs.map AV.int).zipIdx.map fun p=>[AV.int p.2,p.1])[k]?=some avs):∃ c,cs[k]?=some c∧avs=[.int k,.int c]:=by
 simp only [List.getElem?_map,Option.map_eq_some_iff,List.getElem?_zipIdx,Nat.zero_add] at h
 obtain ⟨p,⟨a,⟨c,h1,rfl⟩,rfl⟩,rfl⟩:=h
 exact ⟨c,h1,rfl⟩
theorem ZbR {σ:List Za}{x:Nat}{k:Int}{ls:List AV}{v:AV}{Q:Zq}(h:σ[x]?=some (.list ls))(h0:0≤k)(hv:ls[k.toNat]?=some v)(hl:ls.length≤1000000)(q:Q v σ):X5 (.obj x) (.int k) σ Q:=
 .inl ⟨ls,h,h0,qDp hl (List.getElem?_eq_some_iff.mp hv).1,v,hv,q⟩
theorem Z8 {σ:List Za}{x:Nat}{k:Int}{ns:List Int}{c:Int}{Q:Zq}(h:σ[x]?=some (IL ns))(h0:0≤k)(hv:ns[k.toNat]?=some c)(hl:ns.length≤1000000)(q:Q (.int c) σ):X5 (.obj x) (.int k) σ Q:=
 ZbR h h0 (by rw [List.getElem?_map,hv];rfl) (by simpa using hl) q
theorem XT {σ:List Za}{x:Nat}{k c:Int}{ns:List Int}{Q:List Za→Prop}(h:σ[x]?=some (IL ns))(h0:0≤k)(hv:k<ns.length)(hl:ns.length≤1000000)(q:Q (σ.set x (IL (ns.set k.toNat c)))):Vz (.obj x) (.int k) (.int c) σ Q:=
 .inl ⟨ns.map .int,h,h0,by simpa using hv,by simpa using hl,by rw [← List.map_set];exact q⟩
theorem WH {σ:List Za}{a b:Za}:(σ++[a]).set σ.length b=σ++[b]:=by simp
noncomputable def Kp (S:List Nat)(σ σ':List Za):Prop:=σ.length≤σ'.length∧∀ (i:Nat) o,i∉S→σ[i]?=some o→σ'[i]?=some o
theorem Kp.refl {S:List Nat}{σ:List Za}:Kp S σ σ:=⟨Nat.le_refl _,fun _ _ _ h=>h⟩
theorem Kp.trans {S:List Nat}{a b c:List Za}(h:Kp S a b)(k:Kp S b c):Kp S a c:=⟨Nat.le_trans h.1 k.1,fun i o hi e=>k.2 i o hi (h.2 i o hi e)⟩
theorem Kp.sub {S S':List Nat}{a b:List Za}(h:Kp S a b)(hs:∀ i∈S,i∈S'):Kp S' a b:=⟨h.1,fun i o hi e=>h.2 i o (fun q=>hi (hs i q)) e⟩
theorem Kp.of0 {S:List Nat}{a b:List Za}(h:Kp [] a b):Kp S a b:=h.sub (by simp)
theorem Kp.app {S:List Nat}{a b:List Za}(h:Kp S a b)(γ:List Za):Kp S a (b++γ):=⟨by have:=h.1;simp;lia,fun i o hi e=>Zh (h.2 i o hi e)⟩
theorem Kp.set {S:List Nat}{a b:List Za}{x:Nat}(h:Kp S a b)(o:Za)(hx:x∈S∨a.length≤x):Kp S a (b.set x o):=⟨by simp;exact h.1,fun i o' hi e=>by
 have h1:i<a.length:=(List.getElem?_eq_some_iff.mp e).1
 have h2:x≠i:=fun q=>by subst q;rcases hx with q|q;exact hi q;lia
 rw [List.getElem?_set_ne h2];exact h.2 i o' hi e⟩
theorem Kp.at {S:List Nat}{a b:List Za}{i:Nat}{o:Za}(h:Kp S a b)(e:a[i]?=some o)(hi:i∉S:=by simp):b[i]?=some o:=h.2 i o hi e
theorem Kp.new {S:List Nat}{a b c:List Za}(h:Kp [] a b)(k:Kp S b c)(hs:∀ i∈S,a.length≤i):Kp [] a c:=⟨Nat.le_trans h.1 k.1,fun i o _ e=>k.2 i o (fun q=>by have:=hs i q;have:=(List.getElem?_eq_some_iff.mp e).1;lia) (h.2 i o (by simp) e)⟩
theorem ZL {α:Type}{l:List α}{i:Nat}{o:α}(h:l[i]?=some o):i<l.length:=(List.getElem?_eq_some_iff.mp h).1
theorem Zm {σ:List Za}{o:Za}:(σ++[o])[σ.length]?=some o:=by simp
theorem ZJ {σ:List Za}{x:Nat}{o o':Za}(h:σ[x]?=some o'):(σ.set x o)[x]?=some o:=by rw [List.getElem?_set_self (ZL h)]
theorem YM {σ:List Za}{x y:Nat}{o o':Za}(h:σ[y]?=some o')(hn:x≠y):(σ.set x o)[y]?=some o':=by rw [List.getElem?_set_ne hn];exact h
section
variable {σ:List Za}{l:Zc}{m:Nat}{B:(Nat→Zc→List Za→Prop)→Nat→Zc→List Za→List AV→Prop}{D:Zc→List Za→Prop}
theorem VS {it:Yb}{i0z:List (List AV)}(I:Nat→Zc→List Za→Prop)(hm:∀ avs∈i0z,avs.length=m)(h0:I 0 l σ)(hs:∀ k l σ',k≤i0z.length→I k l σ'→Z0 it σ' i0z)
  (step:∀ k l σ' avs,i0z[k]?=some avs→I k l σ'→B I k l σ' avs) (done:∀ l σ',I i0z.length l σ'→D l σ') :
  ∃ (i0z:List (List AV)) (I:Nat→Zc→List Za→Prop),(∀ avs∈i0z,avs.length=m)∧I 0 l σ∧(∀ k l σ',k≤i0z.length→I k l σ'→Z0 it σ' i0z)∧(∀ k l σ' avs,i0z[k]?=some avs→I k l σ'→B I k l σ' avs)∧∀ l σ',I i0z.length l σ'→D l σ':=
 ⟨i0z,I,hm,h0,hs,step,done⟩
theorem WD {a:Int}{n:Nat}(I:Nat→Zc→List Za→Prop)(h0:I 0 l σ)(step:∀ k l σ',k<n→I k l σ'→B I k l σ' [.int (a+k)])(done:∀ l σ',I n l σ'→D l σ')(hm:m=1:=by rfl) :
  ∃ (i0z:List (List AV)) (I:Nat→Zc→List Za→Prop),(∀ avs∈i0z,avs.length=m)∧I 0 l σ∧(∀ k l σ',k≤i0z.length→I k l σ'→Z0 (.rng a n) σ' i0z)∧(∀ k l σ' avs,i0z[k]?=some avs→I k l σ'→B I k l σ' avs)∧∀ l σ',I i0z.length l σ'→D l σ':=
 VS (i0z:=(List.range n).map fun (i:Nat)=>[.int (a+i)]) I (by rw [hm];exact BO) h0 (fun _ _ _ _ _=>rfl) (fun k l σ' avs h hI=>by
  obtain ⟨h1,rfl⟩:=Bu h
  exact step k l σ' h1 hI) fun l σ' hI=>done l σ' (by simpa using hI)
theorem Hw {x:Nat}{ls:List AV}(hx:σ[x]?=some (.list ls))(I:Nat→Zc→List Za→Prop)(h0:I 0 l σ)(hs:∀ k l σ',I k l σ'→σ'[x]?=some (.list ls))
  (step:∀ k l σ' v,ls[k]?=some v→I k l σ'→B I k l σ' [v]) (done:∀ l σ',I ls.length l σ'→D l σ') (hm:m=1:=by rfl) :
  ∃ it,XQ (.obj x) σ it∧∃ (i0z:List (List AV)) (I:Nat→Zc→List Za→Prop),(∀ avs∈i0z,avs.length=m)∧I 0 l σ∧(∀ k l σ',k≤i0z.length→I k l σ'→Z0 it σ' i0z)∧(∀ k l σ' avs,i0z[k]?=some avs→I k l σ'→B I k l σ' avs)∧∀ l σ',I i0z.length l σ'→D l σ':=
 ⟨.lst x,.inl ⟨_,hx,rfl⟩,VS (i0z:=ls.map fun v=>[v]) I (by rw [hm];exact GI) h0 (fun k l σ' _ hI=>⟨ls,hs k l σ' hI,rfl⟩) (fun k l σ' avs h hI=>by
  rw [List.getElem?_map] at h
  obtain ⟨v,h1,rfl⟩:=Option.map_eq_some_iff.mp h
  exact step k l σ' v h1 hI) fun l σ' hI=>done l σ' (by simpa using hI)⟩
theorem Zcy {x:Nat}{ls:List AV}(hx:σ[x]?=some (.tup ls))(I:Nat→Zc→List Za→Prop)(h0:I 0 l σ)(hs:∀ k l σ',I k l σ'→σ'[x]?=some (.tup ls))
  (step:∀ k l σ' v,ls[k]?=some v→I k l σ'→B I k l σ' [v]) (done:∀ l σ',I ls.length l σ'→D l σ') (hm:m=1:=by rfl) :
  ∃ it,XQ (.obj x) σ it∧∃ (i0z:List (List AV)) (I:Nat→Zc→List Za→Prop),(∀ avs∈i0z,avs.length=m)∧I 0 l σ∧(∀ k l σ',k≤i0z.length→I k l σ'→Z0 it σ' i0z)∧(∀ k l σ' avs,i0z[k]?=some avs→I k l σ'→B I k l σ' avs)∧∀ l σ',I i0z.length l σ'→D l σ':=
 ⟨.tup x,.inr (.inl ⟨_,hx,rfl⟩),VS (i0z:=ls.map fun v=>[v]) I (by rw [hm];exact GI) h0 (fun k l σ' _ hI=>⟨ls,hs k l σ' hI,rfl⟩) (fun k l σ' avs h hI=>by
  rw [List.getElem?_map] at h
  obtain ⟨v,h1,rfl⟩:=Option.map_eq_some_iff.mp h
  exact step k l σ' v h1 hI) fun l σ' hI=>done l σ' (by simpa using hI)⟩
theorem Vr {x:Nat}{ns:List Int}(hx:σ[x]?=some (IL ns))(I:Nat→Zc→List Za→Prop)(h0:I 0 l σ)(hs:∀ k l σ',I k l σ'→σ'[x]?=some (IL ns))
  (step:∀ k l σ' c,ns[k]?=some c→I k l σ'→B I k l σ' [.int c]) (done:∀ l σ',I ns.length l σ'→D l σ') (hm:m=1:=by rfl) :
  ∃ it,XQ (.obj x) σ it∧∃ (i0z:List (List AV)) (I:Nat→Zc→List Za→Prop),(∀ avs∈i0z,avs.length=m)∧I 0 l σ∧(∀ k l σ',k≤i0z.length→I k l σ'→Z0 it σ' i0z)∧(∀ k l σ' avs,i0z[k]?=some avs→I k l σ'→B I k l σ' avs)∧∀ l σ',I i0z.length l σ'→D l σ':=
 Hw hx I h0 hs (fun k l σ' v h hI=>by
  rw [List.getElem?_map] at h
  obtain ⟨c,h1,rfl⟩:=Option.map_eq_some_iff.mp h
  exact step k l σ' c h1 hI) (fun l σ' hI=>done l σ' (by simpa using hI)) hm
theorem BU {x:Nat}{ns:List Int}(hx:σ[x]?=some (IL ns))(I:Nat→Zc→List Za→Prop)(h0:I 0 l σ)(hs:∀ k l σ',I k l σ'→σ'[x]?=some (IL ns))
  (step:∀ k l σ' c,ns[k]?=some c→I k l σ'→B I k l σ' [.int k,.int c]) (done:∀ l σ',I ns.length l σ'→D l σ') (hm:m=2:=by rfl) :
  ∃ ls,σ[x]?=some (.list ls)∧∃ (i0z:List (List AV)) (I:Nat→Zc→List Za→Prop),(∀ avs∈i0z,avs.length=m)∧I 0 l σ∧(∀ k l σ',k≤i0z.length→I k l σ'→Z0 (.enm x) σ' i0z)∧(∀ k l σ' avs,i0z[k]?=some avs→I k l σ'→B I k l σ' avs)∧∀ l σ',I i0z.length l σ'→D l σ':=
 ⟨_,hx,VS (i0z:=(ns.map AV.int).zipIdx.map fun p=>[AV.int p.2,p.1]) I (by rw [hm];exact BK) h0 (fun k l σ' _ hI=>⟨_,hs k l σ' hI,rfl⟩) (fun k l σ' avs h hI=>by
  obtain ⟨c,h1,rfl⟩:=Bt h
  exact step k l σ' c h1 hI) fun l σ' hI=>done l σ' (by simpa using hI)⟩
end
theorem QJ {n x:Nat}{cs:List Int}{σ:List Za}{Q:Zq}{X:Zx}(hn:3≤n)(hx:σ[x]?=some (IL cs))(hl:cs.length≤1000)
  (hQ:∀ σ',Kp [] σ σ'→Q (.int (Y1 1 (cs.drop 1))) σ'):WF n 85 [.obj x] σ Q X:=by
 refine WF.mini [_,_] ZaX Zfh ZdZ .nil hn ?_
 walk_at "b"
 walk_at "n"
 refine ⟨some 1,none,⟨rfl,by decide⟩,rfl,cs.map .int,.inl hx,by simp [sizeLine];exact q4,?_⟩
 refine Vr (ns:=cs.drop 1) (by simp [pick]) (fun k l σ'=>∃ tv,l=[some (.obj x),some (.int (Y1 1 ((cs.drop 1).take k))),tv]∧σ'=σ++[IL (cs.drop 1)]) ⟨none,rfl,by simp [pick]⟩ ?_ ?_ ?_
 ·rintro k l σ' ⟨tv,rfl,rfl⟩
  simp
 ·rintro k l σ' c hc ⟨tv,rfl,rfl⟩
  walk_at "b"
  refine ⟨B6 (by decide),ZF ⟨some (.int c),?_,rfl⟩⟩
  rw [Xm hc,C8]
 ·rintro l σ' ⟨tv,rfl,rfl⟩
  walk_at "n"
  rw [List.take_length]
  exact hQ _ (Kp.refl.app _)
theorem ZK {n:Nat}{l:Zc}{σ:List Za}{Q:SQ}{X:SX}(h:Q .next l σ):vB n .nil l σ Q X:=h
noncomputable def Zj (L:Nat)(ns:List Int):List Int:=(List.range (L+1)).map fun (k:Nat)=>(ns.count (k:Int):Int)
theorem Yn {L:Nat}{ns:List Int}:(Zj L ns).length=L+1:=by simp [Zj]
theorem X2 {L:Nat}{ns:List Int}{k:Nat}(h:k≤L):(Zj L ns)[k]?=some (ns.count (k:Int):Int):=by
 simp [Zj,List.getElem?_range (show k<L+1 by exact Nat.lt_succ_of_le ‹_›)]
theorem Sm {L:Nat}{ns:List Int}{c:Int}(h0:0≤c)(h1:c≤L):Zj L (ns++[c])=(Zj L ns).set c.toNat ((ns.count c:Int)+1):=by
 refine List.ext_getElem? fun k=>?_
 rw [List.getElem?_set]
 by_cases hk:k≤L
 ·rw [X2 hk]
  split
  ·rename_i e
   rw [Yn,if_pos (by exact Internal.qP ‹_› ‹_›)]
   have:(k:Int)=c:=by lia
   rw [this];simp
  ·rename_i e
   rw [X2 hk]
   have:¬ c=(k:Int):=by lia
   simp [List.count_cons,this]
 ·rw [List.getElem?_eq_none (by rw [Yn];exact Nat.lt_of_not_le ‹_›)]
  split
  ·grind
  ·rw [List.getElem?_eq_none (by rw [Yn];exact Nat.lt_of_not_le ‹_›)]
theorem Sl {L:Nat}:Zj L []=List.replicate (L+1) 0:=by
 refine List.ext_getElem? fun k=>?_
 rw [List.getElem?_replicate]
 split
 ·rw [X2 (by exact Nat.le_of_lt_succ ‹_›)];rfl
 ·rw [List.getElem?_eq_none (by rw [Yn];exact Nat.le_of_not_lt ‹_›)]
noncomputable def ZO (L:Nat)(ns:List Int):Prop:=∀ n∈ns,0≤n∧n≤L
theorem GB {n:Nat}{v:AV}:(List.replicate n [v]).flatten=List.replicate n v:=by
 induction n with
|zero=>rfl
|succ n ih=>rw [List.replicate_succ,List.flatten_cons,ih];rfl
theorem GM {σ:List Za}{x:Nat}{n:Int}{v:AV}{R:List AV→Prop}(hx:σ[x]?=some (.list [v]))(h0:0≤n)(h1:n≤256)(q:R [v]) :
  Yj.mul=.mul∧∃ ls,σ[x]?=some (.list ls)∧n<2^63∧-(2^63:Int)≤n∧ls.length*n.toNat≤256∧R ls:=
 ⟨rfl,_,hx,by exact qw ‹_› (by decide),by exact Internal.qBp ‹_› (by decide),by simp;assumption,q⟩
theorem ZD {n:Nat}(h:n≤1000:=by decide):n≤sizeLine:=by unfold sizeLine;exact q4
inductive MO (L:Nat)(ns:List Int)(x:Nat)(σ:List Za)(k:Nat)(l:Zc)(σ':List Za):Prop
|mk (tv:Option AV):(l=[some (.obj x),some (.int L),some (.obj (σ.length+1)),tv])→(ZO L (ns.take k))→(σ'=(σ++[IL [0]])++[IL (Zj L (ns.take k))])→MO L ns x σ k l σ'
theorem T9 {n x L:Nat}{ns:List Int}{σ:List Za}{Q:Zq}{X:Zx}(hn:3≤n)(hx:σ[x]?=some (IL ns))(hL:L≤100)(hl:ns.length≤1000)(hs:∀ c∈ns,c.natAbs<2^64)
  (hQ:ZO L ns→∀ σ' i,Kp [] σ σ'→σ'[i]?=some (IL (Zj L ns))→σ.length≤i→Q (.obj i) σ') (hX:¬ ZO L ns→∀ σ',Kp [] σ σ'→X .badCode σ'):WF n 78 [.obj x,.int L] σ Q X:=by
 refine WF.mini [_,_] Zay ZeS ZdA .nil hn ?_
 walk_at "b"
 refine ⟨ZD,?_⟩
 refine GM (n:=L+1) (v:=.int 0) Zm (by exact Int.natCast_nonneg _) (by exact qu ‹_› (by decide)) ?_
 rw [GB]
 walk_at "n"
 refine Vr (ns:=ns) (Zh (Zh hx)) (MO L ns x σ) ⟨none,?_,fun n h=>by simp at h,?_⟩ ?_ ?_ ?_
 ·simp
 ·rw [List.take_zero,Sl];simp
 ·rintro k l σ' ⟨tv,rfl,hi,rfl⟩
  exact Zh (Zh hx)
 ·rintro k l σ' c hc ⟨tv,rfl,hi,rfl⟩
  have hcm:=List.mem_of_getElem? hc
  have bad:¬ (0≤c∧c≤L)→c.natAbs.log2<1920∧∀ t:List Nat,Z2 X .badCode [some (.obj x),some (.int L),some (.obj (σ.length+1)),some (.int c)] ((σ++[IL [0]])++[IL (Zj L (ns.take k))]):=fun h=>by
   refine ⟨?_,fun t=>hX (fun q=>h (q c hcm)) _ ((Kp.refl.app _).app _)⟩
   by_cases h0:c.natAbs=0
   ·rw [h0];decide
   ·exact Nat.lt_trans ((Nat.log2_lt h0).mpr (hs c hcm)) (by decide)
  walk_at "b"
  refine ZU (fun h0=>Xz (fun h1=>?_) fun h1=>?_) (fun h0=>?_)
  ·walk_at "b";exact bad fun q=>h1 q.2
  ·have e:((σ++[IL [0]])++[IL (Zj L (ns.take k))])[σ.length+1]?=some (IL (Zj L (ns.take k))):=by simp
   refine ZK ?_
   walk_at "n"
   refine Z8 e h0 (X2 (by exact Internal.qBn ‹_›)) (by rw [Yn];exact q6) ?_
   walk_at "d"
   refine XT e h0 (by rw [Yn];grind) (by rw [Yn];exact q6) (ZF ⟨some (.int c),rfl,?_,?_⟩)
   ·rw [Xm hc]
    intro n hn
    rcases List.mem_append.mp hn with q|q
    ·exact hi n q
    ·rw [List.mem_singleton.mp q];exact ⟨h0,h1⟩
   ·rw [Xm hc,Sm h0 h1,show σ.length+1=(σ++[IL [0]]).length by simp,WH]
    have:((c.toNat:Nat):Int)=c:=by exact Int.toNat_of_nonneg ‹_›
    rw [this]
  ·walk_at "b";exact bad fun q=>h0 q.1
 ·rintro l σ' ⟨tv,rfl,hi,rfl⟩
  rw [List.take_length] at hi ⊢
  walk_at "n"
  exact hQ hi _ _ ((Kp.refl.app _).app _) (by simp) (by exact Nat.le_succ _)
theorem Xk {σ:List Za}{x:Nat}{ns:List Int}{R:List AV→Prop}(hx:σ[x]?=some (IL ns))(hl:ns.length≤1000000)(q:R (ns.map .int)):∃ ls,σ[x]?=some (.list ls)∧ls.length≤1099511627776∧R ls:=
 ⟨_,hx,by simp;exact q4,q⟩
theorem ZY {ns:List Int}:(ns.map AV.int).length=ns.length:=List.length_map _
theorem Zhw {n x L:Nat}{ns:List Int}{σ:List Za}{Q:Zq}{X:Zx}(hn:4≤n)(hx:σ[x]?=some (IL ns))(hL:L≤100)(hl:ns.length≤1000)(hR:ZO L ns)
  (hQ:∀ σ',Kp [] σ σ'→Q (.int (Y1 1 ((Zj L ns).drop 1))) σ'):WF n 92 [.obj x,.int L] σ Q X:=by
 refine WF.mini [] ZaW Zfg ZdY .nil (by exact Nat.le_of_lt ‹_›) ?_
 walk_at "b"
 refine T9 (by exact q2) hx hL hl (fun c hc=>by have:=hR c hc;lia) (fun _ σ₁ i k e _=>?_) fun q=>absurd hR q
 exact QJ (by exact q2) e (by rw [Yn];exact q6) fun σ₂ k₂=>hQ _ (k.trans k₂)
noncomputable def YV (ns:List Int):Int:=(ns.length:Int)-ns.count 0
noncomputable def Yc (L:Nat)(ns:List Int)(lone:Bool):Bool:=if YV ns=0 then lone else if Y1 1 ((Zj L ns).drop 1)<0 then false else if 0<Y1 1 ((Zj L ns).drop 1) then lone&&(decide (YV ns=1)&&decide ((ns.count 1:Int)=1)) else true
theorem JS {L:Nat}{ns:List Int}{lone:Bool}(h:YV ns=0):Yc L ns lone=lone:=by unfold Yc;rw [if_pos h]
theorem NH {L:Nat}{ns:List Int}{lone:Bool}(h:¬ YV ns=0)(h1:Y1 1 ((Zj L ns).drop 1)<0):Yc L ns lone=false:=by unfold Yc;rw [if_neg h,if_pos h1]
theorem Uv {L:Nat}{ns:List Int}{lone:Bool}(h:¬ YV ns=0)(h1:¬ Y1 1 ((Zj L ns).drop 1)<0)(h2:0<Y1 1 ((Zj L ns).drop 1)):Yc L ns lone=(lone&&(decide (YV ns=1)&&decide ((ns.count 1:Int)=1))):=by unfold Yc;rw [if_neg h,if_neg h1,if_pos h2]
theorem NI {L:Nat}{ns:List Int}{lone:Bool}(h:¬ YV ns=0)(h1:¬ Y1 1 ((Zj L ns).drop 1)<0)(h2:¬ 0<Y1 1 ((Zj L ns).drop 1)):Yc L ns lone=true:=by unfold Yc;rw [if_neg h,if_neg h1,if_neg h2]
theorem Qz {n x L:Nat}{ns:List Int}{lone:Bool}{σ:List Za}{Q:Zq}{X:Zx}(hn:4≤n)(hx:σ[x]?=some (IL ns))(hL:L≤100)(hl:ns.length≤1000)(hs:∀ c∈ns,c.natAbs<2^64)
  (hQ:ZO L ns→Yc L ns lone=true→∀ σ',Kp [] σ σ'→Q .none σ') (hX:(ZO L ns→Yc L ns lone=false)→∀ σ',Kp [] σ σ'→X .badCode σ'):WF n 100 [.obj x,.int L,.bool lone] σ Q X:=by
 refine WF.mini [_,_,_] Zax ZeR Zdz .nil (by exact Nat.le_of_lt ‹_›) ?_
 walk_at "b"
 refine T9 (by exact q2) hx hL hl hs (fun hi σ₁ i k e _=>?_) fun q σ' k=>hX (fun h=>absurd h q) _ k
 walk_at "n"
 refine Xk (k.at hx) (by exact q4) (Z8 e (by decide) (X2 (Nat.zero_le _)) (by rw [Yn];exact q6) ?_)
 walk_at "d"
 rw [ZY]
 walk_at "n"
 refine ZU (fun h0=>?_) fun h0=>?_
 ·walk_at "b"
  have h0':YV ns=0:=h0
  cases lone with
 |false=>
   refine ZA ?_
   walk_at "b"
   exact hX (fun _=>JS h0') _ k
 |true=>
   refine ZI (ZK ?_)
   walk_at "n"
   exact hQ hi (JS h0') _ k
 ·have h0':¬ YV ns=0:=h0
  refine ZK ?_
  walk_at "n"
  refine QJ (by exact q2) e (by rw [Yn];exact q6) fun σ₂ k₂=>?_
  have k':=k.trans k₂
  walk_at "n"
  refine ZU (fun h1=>?_) fun h1=>ZK ?_
  ·walk_at "b"
   exact hX (fun _=>NH h0' h1) _ k'
  ·walk_at "n"
   have bad:(ZO L ns→Yc L ns lone=false)→Z2 X .badCode [some (.obj x),some (.int L),some (.bool lone),some (.obj i),some (.int (YV ns)),some (.int (Y1 1 ((Zj L ns).drop 1)))] σ₂:=fun h=>hX h _ k'
   have good:Yc L ns lone=true→ZT Q .next [some (.obj x),some (.int L),some (.bool lone),some (.obj i),some (.int (YV ns)),some (.int (Y1 1 ((Zj L ns).drop 1)))] σ₂:=fun h=>hQ hi h _ k'
   refine ZU (fun h2=>?_) fun h2=>?_
   ·cases lone with
   |false=>
     refine ZI (ZA (ZA ?_))
     walk_at "b"
     exact bad fun _=>by rw [Uv h0' h1 h2];rfl
   |true=>
     refine ZA (ZU (fun h3=>?_) fun h3=>?_)
     ·have h3':YV ns=1:=h3
      have hL1:1≤L:=by
       refine Nat.pos_of_ne_zero fun q=>?_
       subst q
       have:∀ c∈ns,c=0:=fun c hc=>by have:=hi c hc;lia
       have:ns.count 0=ns.length:=by
        rw [List.count_eq_length];exact fun c hc=>(this c hc).symm
       simp [YV,this] at h3'
      refine Z8 (k₂.at e) (by decide) (X2 hL1) (by rw [Yn];exact q6) ?_
      walk_at "d"
      refine ZU (fun h4=>?_) fun h4=>?_
      ·refine ZI (ZI (ZK (Zl ?_)))
       exact good (by rw [Uv h0' h1 h2,h3'];simpa using h4)
      ·refine ZA (ZA ?_)
       walk_at "b"
       exact bad fun _=>by rw [Uv h0' h1 h2,h3'];simpa using h4
     ·refine ZA (ZA ?_)
      walk_at "b"
      have h3':¬ YV ns=1:=h3
      exact bad fun _=>by rw [Uv h0' h1 h2];simp [h3']
   ·refine ZI (ZK (Zl ?_))
    exact good (NI h0' h1 h2)
noncomputable def Zk (ns:List Int):Int:=ns.foldl (fun m c=>if m<c then c else m) 0
theorem ZbM (ns:List Int)(c:Int):Zk (ns++[c])=if Zk ns<c then c else Zk ns:=by
 unfold Zk;rw [List.foldl_append];rfl
theorem Mq {n x:Nat}{ns:List Int}{σ:List Za}{Q:Zq}{X:Zx}(hn:3≤n)(hx:σ[x]?=some (IL ns))(hQ:Q (.int (Zk ns)) σ):WF n 107 [.obj x] σ Q X:=by
 refine WF.mini [_,_] ZaC ZeW ZdE .nil ‹_› ?_
 walk_at "b"
 walk_at "n"
 refine Vr hx (fun k l σ'=>∃ tv,l=[some (.obj x),some (.int (Zk (ns.take k))),tv]∧σ'=σ) ⟨none,rfl,rfl⟩ ?_ ?_ ?_
 ·rintro k l σ' ⟨tv,rfl,rfl⟩
  exact hx
 ·rintro k l σ' c hc ⟨tv,rfl,rfl⟩
  have e:=ZbM (ns.take k) c
  rw [← Xm hc] at e
  walk_at "b"
  refine ZU (fun h=>?_) fun h=>?_
  ·walk_at "b"
   rw [if_pos h] at e
   exact ZF ⟨some (.int c),by rw [e],rfl⟩
  ·rw [if_neg h] at e
   exact ⟨some (.int c),by rw [e],rfl⟩
 ·rintro l σ' ⟨tv,rfl,rfl⟩
  rw [List.take_length]
  walk_at "n"
  exact hQ
noncomputable def Yg (cs:List Int):Nat→Int
|0=>0
|l+1=>(Yg cs l+if l=0 then 0 else cs.getD l 0)*2
theorem S9 (cs:List Int)(l:Nat):Yg cs (l+1)=(Yg cs l+if l=0 then 0 else cs.getD l 0)*2:=rfl
theorem N1 {cs:List Int}(hc:∀ c∈cs,0≤c∧c≤1000):∀ l,0≤Yg cs l∧Yg cs l≤2000*2^l-2000
|0=>⟨Int.le_refl 0,(by decide:(0:Int)≤2000*2^0-2000)⟩
|l+1=>by
  have ih:=N1 hc l
  have hg:0≤cs.getD l 0∧cs.getD l 0≤1000:=by
   rw [List.getD_eq_getElem?_getD]
   cases h:cs[l]? with
  |none=>simp
  |some c=>exact hc c (List.mem_of_getElem? h)
  have hp:(0:Int)<2^l:=Int.pow_pos (by decide)
  show 0≤(Yg cs l+if l=0 then 0 else cs.getD l 0)*2∧(Yg cs l+if l=0 then 0 else cs.getD l 0)*2≤2000*2^(l+1)-2000
  have e:(2:Int)^(l+1)=2^l*2:=Int.pow_succ ..
  rw [e]
  split<;>lia
theorem JE {a:Int}(h0:0≤a){m:Nat}(hm:m≤100)(h1:a≤2000*2^m):(intBits a:Int)+1≤2^27:=by
 have h2:(2:Int)^m≤2^100:=by exact_mod_cast Nat.pow_le_pow_right (by decide:0<2) hm
 have:intBits a≤200:=WV (by lia)
 exact qu ‹_› (by decide)
theorem map_set {f g:Nat→Int}{m k:Nat}{v:Int}(hk:k<m)(h:∀ j,j≠k→g j=f j)(hv:g k=v):((List.range m).map f).set k v=(List.range m).map g:=by
 refine List.ext_getElem? fun j=>?_
 rw [List.getElem?_set]
 split
 ·rename_i e
  subst e
  simp [List.getElem?_range hk,hk,hv]
 ·rename_i e
  by_cases hj:j<m
  ·simp [List.getElem?_range hj,h j (fun q=>e q.symm)]
  ·simp [List.getElem?_eq_none,Nat.le_of_not_lt hj]
theorem GK {f:Nat→Int}{m k:Nat}(hk:k<m):((List.range m).map f)[k]?=some (f k):=by simp [List.getElem?_range hk]
theorem B0 {m:Nat}:List.replicate m (0:Int)=(List.range m).map fun _=>0:=by simp [List.map_const']
theorem D5 {m:Nat}{v:Int}:List.replicate m (AV.int v)=(List.replicate m v).map AV.int:=by simp
inductive Jw (cs:List Int)(x:Nat)(σ:List Za)(k:Nat)(l:Zc)(σ':List Za):Prop
|mk (t1 t2:Option AV):(l=[some (.obj x),some (.obj (σ.length+1)),some (.int (Yg cs k)),t1,t2])→(Kp [] σ σ')→(σ'[σ.length+1]?=some (IL ((List.range cs.length).map fun j=>if j≤k then Yg cs j else 0)))→Jw cs x σ k l σ'
theorem Zhe {n x:Nat}{cs:List Int}{σ:List Za}{Q:Zq}{X:Zx}(hn:3≤n)(hx:σ[x]?=some (IL cs))(hl:cs.length≤101)(hc:∀ c∈cs,0≤c∧c≤1000)
  (hQ:∀ σ' i,Kp [] σ σ'→σ'[i]?=some (IL ((List.range cs.length).map (Yg cs)))→σ.length≤i→Q (.obj i) σ'):WF n 114 [.obj x] σ Q X:=by
 refine WF.mini [_,_,_,_] ZaA ZeU ZdC .nil ‹_› ?_
 walk_at "b"
 refine ⟨ZD,Xk (Zh hx) (by exact q4) ?_⟩
 rw [ZY]
 refine GM (n:=cs.length) (v:=.int 0) Zm (by exact Int.natCast_nonneg _) (by exact qv ‹_› (by decide)) ?_
 rw [GB]
 refine ⟨rfl,ZD,?_⟩
 rw [show ((cs.length:Int)).toNat=cs.length by exact Int.toNat_natCast _,D5,B0]
 walk_at "n"
 refine Xk (Zh (Zh (Zh hx))) (by exact q4) ⟨by decide,by decide,by exact qt (by decide),by rw [ZY];exact qu ‹_› (by decide),?_⟩
 have en:(((cs.map AV.int).length:Int)-1).toNat=cs.length-1:=by rw [ZY];simp
 rw [en]
 refine WD (Jw cs x σ) ⟨none,none,?_,?_,?_⟩ ?_ ?_
 ·rw [List.length_append];rfl
 ·exact ((Kp.refl.app _).app _).app _
 ·have:(fun j=>if j≤0 then Yg cs j else 0)=fun _=>(0:Int):=by
   funext j
   split
   ·rename_i h;have:j=0:=by lia
    subst this;rfl
   ·rfl
  rw [this]
  exact Zh (by simp)
 ·rintro k l σ' hk ⟨t1,t2,rfl,kp,e⟩
  have ex:=kp.at hx
  have hb:=N1 hc k
  have fin:∀ sh:Int,sh=(if k=0 then 0 else cs.getD k 0)→∀ {P:Zc→List Za→Prop} {Q Q':SQ} {X:SX} {m:Nat},(∀ l σ',Jw cs x σ (k+1) l σ'→P l σ') →
    Y0 (fun l₁ σ₁=>vB m (.cons (.assign 2 (.bin .shl (.bin .add (.slot 2) (.slot 4)) (.const (.int 1)))) (.cons (.setIdx (.slot 1) (.slot 3) (.slot 2)) .nil)) l₁ σ₁ (Y0 P Q) X) Q' .next [some (.obj x),some (.obj (σ.length+1)),some (.int (Yg cs k)),some (.int (1+k)),some (.int sh)] σ':=by
   intro sh hsh P Q Q' X m hP
   have hg:0≤sh∧sh≤1000:=by
    rw [hsh]
    split
    ·decide
    ·rw [List.getD_eq_getElem?_getD]
     cases h:cs[k]? with
    |none=>simp
    |some c=>exact hc c (List.mem_of_getElem? h)
   walk_at "n"
   refine ⟨by decide,JE (m:=k) (by omega) (by exact Internal.qAd ‹_› ‹_›) (by lia),?_⟩
   have e1:(Yg cs k+sh)*2^(1:Int).toNat=Yg cs (k+1):=by rw [hsh];rfl
   rw [e1]
   walk_at "n"
   refine XT e (by exact Int.natCast_nonneg _) (by simp;exact Internal.qK ‹_›) (by simp;exact q4) (Zl (ZF (hP _ _ ⟨_,_,rfl,kp.set _ (.inr (by exact Nat.le_succ _)),?_⟩)))
   rw [show (1+(k:Int)).toNat=k+1 by exact ql,map_set (g:=fun j=>if j≤k+1 then Yg cs j else 0) (by exact Internal.qJ ‹_›) (fun j hj=>by
    split<;>split<;>first|rfl|lia) (by simp)]
   exact ZJ e
  walk_at "b"
  refine ZU (fun h=>?_) fun h=>?_
  ·have hk0:k≠0:=by grind
   obtain ⟨c,hcc⟩:∃ c,cs[k]?=some c:=⟨_,List.getElem?_eq_getElem (show k<cs.length by exact Internal.qAx ‹_›)⟩
   refine Z8 ex (by omega) (c:=c) (by rw [show (1+(k:Int)-1).toNat=k by simp +arith];exact hcc) (by exact q4) (fin c ?_ fun _ _ h=>h)
   rw [if_neg hk0,List.getD_eq_getElem?_getD,hcc];rfl
  ·exact fin 0 (by rw [if_pos (by grind)]) fun _ _ h=>h
 ·rintro l σ' ⟨t1,t2,rfl,kp,e⟩
  walk_at "n"
  refine hQ _ _ kp ?_ (by exact Nat.le_succ _)
  rw [e]
  have:(List.range cs.length).map (fun j=>if j≤cs.length-1 then Yg cs j else 0)=(List.range cs.length).map (Yg cs):=List.map_congr_left fun j hj=>by
   rw [if_pos (qDo (List.mem_range.mp hj))]
  rw [this]
theorem Gn {L:Nat}{ns:List Int}(hl:ns.length≤1000):∀ c∈Zj L ns,0≤c∧c≤1000:=by
 intro c hc
 simp only [Zj,List.mem_map] at hc
 obtain ⟨k,_,rfl⟩:=hc
 have:=List.count_le_length (a:=(k:Int)) (l:=ns)
 omega
theorem XA {ns:List Int}{c:Int}:ns.map AV.int++[.int c]=(ns++[c]).map .int:=by simp
theorem VE {σ:List Za}{x:Nat}{ns:List Int}{R:List AV→Prop}(hx:σ[x]?=some (IL ns))(hl:ns.length≤1000000)(q:R (ns.map .int)):∃ ls,σ[x]?=some (.list ls)∧ls.length≤sizeLine∧R ls:=
 ⟨_,hx,by rw [ZY];unfold sizeLine;exact q4,q⟩
noncomputable def YQ (L:Nat)(ns:List Int)(k:Nat):Int:=if ns.getD k 0=0 then 0 else Yg (Zj L ns) (ns.getD k 0).toNat+((ns.take k).count (ns.getD k 0):Int)
theorem NE {L:Nat}{ns:List Int}{k:Nat}:(List.range k).map (YQ L ns)++[YQ L ns k]=(List.range (k+1)).map (YQ L ns):=by
 rw [List.range_succ,List.map_append];rfl
theorem YS {ns:List Int}{k:Nat}{c:Int}(h:ns[k]?=some c):ns.getD k 0=c:=by rw [List.getD_eq_getElem?_getD,h];rfl
theorem Vf {ns:List Int}{k:Nat}{c:Int}(h:ns[k]?=some c)(j:Int):((ns.take (k+1)).count j:Int)=(ns.take k).count j+if j=c then 1 else 0:=by
 rw [Xm h,List.count_append,List.count_singleton]
 by_cases e:j=c
 ·subst e;simp
 ·have:¬ c=j:=fun q=>e q.symm
  simp [e,this]
inductive MP (L:Nat)(f:Nat)(ns:List Int)(x:Nat)(σ:List Za)(σ₂:List Za)(k:Nat)(l:Zc)(σ':List Za):Prop
|mk (tv:Option AV):(l=[some (.obj x),some (.obj f),some (.obj σ₂.length),tv])→(Kp [] σ σ')→(σ'[f]?=some (IL ((List.range (L+1)).map fun j=>Yg (Zj L ns) j+if j=0 then 0 else ((ns.take k).count (j:Int):Int))))→(σ'[σ₂.length]?=some (IL ((List.range k).map (YQ L ns))))→MP L f ns x σ σ₂ k l σ'
theorem Qy {n x L:Nat}{ns:List Int}{σ:List Za}{Q:Zq}{X:Zx}(hn:5≤n)(hx:σ[x]?=some (IL ns))(hL:L≤100)(hg:Zk ns=L)(hl:ns.length≤1000)(hR:ZO L ns)
  (hQ:∀ σ' i,Kp [] σ σ'→σ'[i]?=some (IL ((List.range ns.length).map (YQ L ns)))→σ.length≤i→Q (.obj i) σ'):WF n 121 [.obj x] σ Q X:=by
 refine WF.mini [_,_,_] Zaw ZeQ Zdy .nil (by exact q1) ?_
 walk_at "b"
 refine Mq (by exact q2) hx ?_
 rw [hg]
 refine T9 (by exact q2) hx hL hl (fun c hc=>by have:=hR c hc;lia) (fun _ σ₁ i k e hi=>?_) fun q=>absurd hR q
 refine Zhe (by exact q2) e (by rw [Yn];exact Nat.lt_succ_of_le ‹_›) (Gn hl) fun σ₂ f k₂ ef hf=>?_
 have kp:=k.trans k₂
 rw [Yn] at ef
 walk_at "n"
 refine ⟨ZD,?_⟩
 walk_at "n"
 have hff:=ZL ef
 have hl1:=k.1
 have hl2:=k₂.1
 refine Vr (Zh (kp.at hx)) (MP L f ns x σ σ₂) ⟨none,rfl,kp.app _,?_,?_⟩ ?_ ?_ ?_
 ·have:(fun j=>Yg (Zj L ns) j+if j=0 then 0 else ((ns.take 0).count (j:Int):Int))=Yg (Zj L ns):=by funext j;simp
  rw [this];exact Zh ef
 ·simp
 ·rintro k l σ' ⟨tv,rfl,k',_,_⟩
  exact k'.at hx
 ·rintro k l σ' c hc ⟨tv,rfl,k',e1,e2⟩
  have hcR:=hR c (List.mem_of_getElem? hc)
  have hkl:=ZL hc
  have hd:=YS hc
  walk_at "b"
  refine ZU (fun h=>?_) fun h=>?_
  ·walk_at "b"
   refine ⟨⟨_,e2⟩,VE e2 (by simp;exact Internal.qBy ‹_› ‹_› (by rfl)) ?_⟩
   rw [XA]
   refine Zl (Zl (ZF ⟨_,rfl,k'.set _ (.inr (by exact Nat.le_trans ‹_› ‹_›)),?_,?_⟩))
   ·rw [List.getElem?_set_ne (by exact Nat.ne_of_gt ‹_›),e1]
    congr 3
    funext j
    split
    ·rfl
    ·rw [Vf hc,if_neg (by omega)];rfl
   ·rw [ZJ e2,← NE]
    simp only [YQ,hd,if_pos h]
  ·walk_at "b"
   refine ⟨⟨_,e2⟩,Z8 e1 hcR.1 (GK (by exact Internal.qBe ‹_›)) (by simp;exact q4) ?_⟩
   refine VE e2 (by simp;grind) ?_
   rw [XA]
   walk_at "n"
   have e1':=YM (o:=IL ((List.range k).map (YQ L ns)++[Yg (Zj L ns) c.toNat+if c.toNat=0 then 0 else ((ns.take k).count ((c.toNat:Nat):Int):Int)])) e1 (show σ₂.length≠f by exact Nat.ne_of_gt ‹_›)
   refine Z8 e1' hcR.1 (GK (by exact Internal.qBe ‹_›)) (by simp;exact q4) ?_
   walk_at "d"
   refine XT e1' hcR.1 (by simp;lia) (by simp;exact q4) (Zl (Zl (ZF ⟨_,rfl,(k'.set _ (.inr (by exact Nat.le_trans ‹_› ‹_›))).set _ (.inr (by exact Nat.le_trans ‹_› ‹_›)),?_,?_⟩)))
   ·rw [ZJ e1',map_set (g:=fun j=>Yg (Zj L ns) j+if j=0 then 0 else ((ns.take (k+1)).count (j:Int):Int)) (by exact Internal.qBe ‹_›) (fun j hj=>?_) ?_]
    ·have:c.toNat≠0:=by lia
     rw [if_neg this,if_neg this,Vf hc,if_pos (by exact Internal.qR ‹_›)];omega
    ·show _+_=_+_
     split
     ·rfl
     ·rw [Vf hc,if_neg (by omega)];rfl
   ·rw [List.getElem?_set_ne (by exact Nat.ne_of_lt ‹_›),ZJ e2,← NE]
    have h1:c.toNat≠0:=by lia
    have h2:((c.toNat:Nat):Int)=c:=by exact Internal.qR ‹_›
    simp only [YQ,hd,if_neg h,if_neg h1,h2]
 ·rintro l σ' ⟨tv,rfl,k',e1,e2⟩
  walk_at "n"
  exact hQ _ _ k' e2 (by exact Nat.le_trans ‹_› ‹_›)
noncomputable def Z6 (ns:List Int)(l:Int):Nat:=ns.countP fun c=>decide (1≤c∧c<l)
theorem JB (ns:List Int){l:Int}(h:1≤l):Z6 ns (l+1)=Z6 ns l+ns.count l:=by
 unfold Z6
 induction ns with
|nil=>rfl
|cons a ns ih=>
  rw [List.countP_cons,List.countP_cons,List.count_cons,ih]
  by_cases h1:1≤a∧a<l
  ·have h2:1≤a∧a<l+1:=by lia
   have h3:¬ a=l:=by grind
   rw [decide_eq_true h1,decide_eq_true h2,beq_eq_false_iff_ne.mpr h3];simp;try exact Internal.qBk
  ·by_cases h4:a=l
   ·subst h4
    have h2:1≤a∧a<a+1:=by lia
    rw [decide_eq_false h1,decide_eq_true h2,beq_self_eq_true];simp;try exact Int.toNat_natCast _
   ·have h2:¬ (1≤a∧a<l+1):=by lia
    rw [decide_eq_false h1,decide_eq_false h2,beq_eq_false_iff_ne.mpr h4];simp
theorem JA (ns:List Int){l m:Int}(h:l≤m):Z6 ns l≤Z6 ns m:=List.countP_mono_left fun c _ hc=>by
 simp at hc ⊢;omega
theorem Nt (ns:List Int):Z6 ns 1=0:=by
 unfold Z6
 rw [List.countP_eq_zero]
 intro c _ h
 have:=of_decide_eq_true h
 lia
theorem Nr (ns:List Int)(l:Int):Z6 ns l≤ns.length:=List.countP_le_length
noncomputable def Yy (ns:List Int)(s:Nat)(l:Int):Nat:=Z6 ns l+(ns.take s).count l
theorem Uw {ns:List Int}{s k:Nat}{l:Int}(h:ns[s]?=some l)(hk:s<k):(ns.take s).count l<(ns.take k).count l:=by
 have e:(ns.take (s+1)).count l=(ns.take s).count l+1:=by rw [Xm h,List.count_append];simp
 have:(ns.take (s+1)).count l≤(ns.take k).count l:=(List.take_sublist_take_left ‹_›).count_le l
 lia
theorem DW {ns:List Int}{s:Nat}{l:Int}(h:ns[s]?=some l)(hl:1≤l):Yy ns s l<Z6 ns (l+1):=by
 rw [JB ns hl]
 have h1:=Uw h (ZL h)
 rw [List.take_length] at h1
 unfold Yy;omega
theorem Zep {ns:List Int}{s k:Nat}{l m:Int}(h:ns[s]?=some l)(hk:ns[k]?=some m)(hl:1≤l)(hm:1≤m)(hs:s<k):Yy ns s l≠Yy ns k m:=by
 have h1:=DW h hl
 have h2:=DW hk hm
 rcases Int.lt_trichotomy l m with q|q|q
 ·have:=JA ns (show l+1≤m by assumption)
  have:Z6 ns m≤Yy ns k m:=by unfold Yy;simp
  omega
 ·subst q
  have:=Uw h hs
  unfold Yy;lia
 ·have:=JA ns (show m+1≤l by assumption)
  have:Z6 ns l≤Yy ns s l:=by unfold Yy;simp
  lia
noncomputable def YE (cs:List Int):Nat→Int
|0=>0
|l+1=>YE cs l+if l=0 then 0 else cs.getD l 0
theorem DV {L:Nat}{ns:List Int}:∀ l,l≤L→YE (Zj L ns) (l+1)=Z6 ns (l+1)
|0,_=>by
  have:((0:Nat):Int)+1=1:=rfl
  rw [this,Nt];rfl
|l+1,h=>by
  have ih:=DV (L:=L) (ns:=ns) l (by exact Nat.le_of_lt ‹_›)
  show YE (Zj L ns) (l+1)+(if l+1=0 then 0 else (Zj L ns).getD (l+1) 0)=_
  rw [ih,if_neg (by simp),YS (X2 (k:=l+1) h)]
  have:=JB ns (show (1:Int)≤((l+1:Nat):Int) by simp +arith)
  have e:((l+1:Nat):Int)=(l:Int)+1:=by rfl
  rw [e] at this ⊢
  rw [this];rfl
noncomputable def Y2 (ns fs:List Int):Prop:=fs.length=Z6 ns (Zk ns+1)∧∀ (s:Nat) (l:Int),ns[s]?=some l→1≤l→fs[Yy ns s l]?=some (s:Int)
inductive MQ (L:Nat)(i:Nat)(ns:List Int)(x:Nat)(σ₁:List Za)(k:Nat)(l:Zc)(σ':List Za):Prop
|mk (t1 t2 t3:Option AV):(l=[some (.obj x),some (.obj i),some (.obj (σ₁.length+1)),some (.int (YE (Zj L ns) (k+1))),t1,t2,t3])→(Kp [] σ₁ σ')→(σ'[σ₁.length+1]?=some (IL ((List.range (L+1)).map fun j=>if j≤k then YE (Zj L ns) j else 0)))→MQ L i ns x σ₁ k l σ'
inductive MT (L:Nat)(i:Nat)(ns:List Int)(x:Nat)(σ':List Za)(σ₁:List Za)(k:Nat)(l:Zc)(σ'':List Za):Prop
|mk (t1 t2:Option AV):(l=[some (.obj x),some (.obj i),some (.obj (σ₁.length+1)),some (.int (Z6 ns (L+1))),t1,some (.obj (σ'.length+1)),t2])→(Kp [] σ₁ σ'')→(σ''[σ₁.length+1]?=some (IL ((List.range (L+1)).map fun j=>YE (Zj L ns) j+if j=0 then 0 else ((ns.take k).count (j:Int):Int))))→(∃ fs:List Int,fs.length=Z6 ns (L+1)∧σ''[σ'.length+1]?=some (IL fs)∧∀ (s:Nat) (l:Int),s<k→ns[s]?=some l→1≤l→fs[Yy ns s l]?=some (s:Int))→MT L i ns x σ' σ₁ k l σ''
theorem Zha {n x L:Nat}{ns:List Int}{σ:List Za}{Q:Zq}{X:Zx}(hn:5≤n)(hx:σ[x]?=some (IL ns))(hL:L≤100)(hg:Zk ns=L)(hl:ns.length≤200)(hR:ZO L ns)
  (hQ:∀ σ' i fs,Y2 ns fs→Kp [] σ σ'→σ'[i]?=some (IL fs)→σ.length≤i→Q (.obj i) σ'):WF n 128 [.obj x] σ Q X:=by
 refine WF.mini [_,_,_,_,_,_] Zav ZeP Zdx .nil (by exact q1) ?_
 walk_at "b"
 refine Mq (by exact q2) hx ?_
 rw [hg]
 refine T9 (by exact q2) hx hL (by exact q4) (fun c hc=>by have:=hR c hc;lia) (fun _ σ₁ i k e hi=>?_) fun q=>absurd hR q
 have hl1:=k.1
 have hiL:=ZL e
 walk_at "n"
 refine ⟨ZD,Xk (Zh e) (by rw [Yn];exact q6) ?_⟩
 rw [ZY,Yn]
 refine GM (n:=((L+1:Nat):Int)) (v:=.int 0) Zm (by exact Int.natCast_nonneg _) (by exact qu ‹_› (by decide)) ?_
 rw [GB]
 refine ⟨rfl,ZD,?_⟩
 rw [show (((L+1:Nat):Int)).toNat=L+1 by exact Int.toNat_natCast _,D5,B0]
 walk_at "n"
 refine Xk (Zh (Zh (Zh e))) (by rw [Yn];exact q6) ⟨by decide,by decide,by exact qt (by decide),by rw [ZY,Yn];omega,?_⟩
 have en:((((Zj L ns).map AV.int).length:Int)-1).toNat=L:=by rw [ZY,Yn];exact qj
 rw [en]
 refine WD (MQ L i ns x σ₁) ⟨none,none,none,?_,?_,?_⟩ ?_ ?_
 ·rw [List.length_append];rfl
 ·exact ((Kp.refl.app _).app _).app _
 ·have:(fun j=>if j≤0 then YE (Zj L ns) j else 0)=fun _=>(0:Int):=by
   funext j
   split
   ·rename_i h;have:j=0:=by lia
    subst this;rfl
   ·rfl
  rw [this]
  exact Zh (by simp)
 ·rintro k l σ' hk ⟨t1,t2,t3,rfl,kp,e1⟩
  walk_at "b"
  refine XT e1 (by exact Int.natCast_nonneg _) (by simp;exact Internal.qK ‹_›) (by simp;exact q4) ?_
  walk_at "n"
  have e':=(kp.set (IL (((List.range (L+1)).map fun j=>if j≤k then YE (Zj L ns) j else 0).set (1+(k:Int)).toNat (YE (Zj L ns) (k+1)))) (x:=σ₁.length+1) (.inr (by exact Nat.le_succ _))).at e
  refine Z8 e' (by exact Int.natCast_nonneg _) (c:=ns.count (((1+(k:Int)).toNat:Nat):Int)) (X2 (by grind)) (by rw [Yn];exact q6) ?_
  walk_at "d"
  refine Zl (ZF ⟨some (.int (1+k)),t2,t3,?_,kp.set _ (.inr (by exact Nat.le_succ _)),?_⟩)
  ·have:YE (Zj L ns) (k+1+1)=YE (Zj L ns) (k+1)+(ns.count (((1+(k:Int)).toNat:Nat):Int):Int):=by
    show YE (Zj L ns) (k+1)+(if k+1=0 then 0 else (Zj L ns).getD (k+1) 0)=_
    rw [if_neg (by simp),YS (X2 (show k+1≤L by assumption)),show (1+(k:Int)).toNat=k+1 by exact ql]
   rw [this]
  ·rw [ZJ e1,show (1+(k:Int)).toNat=k+1 by exact ql,map_set (g:=fun j=>if j≤k+1 then YE (Zj L ns) j else 0) (by exact Nat.succ_lt_succ ‹_›) (fun j hj=>by
    split<;>split<;>first|rfl|lia) (by simp)]
 ·rintro l σ' ⟨t1,t2,t3,rfl,kp,e1⟩
  have hu:YE (Zj L ns) (L+1)=(Z6 ns (L+1):Int):=DV L (Nat.le_refl _)
  have hub:=Nr ns (L+1)
  have epl:(List.range (L+1)).map (fun j=>if j≤L then YE (Zj L ns) j else 0)=(List.range (L+1)).map (YE (Zj L ns)):=List.map_congr_left fun j hj=>by
   have:=List.mem_range.mp hj
   rw [if_pos (by exact Nat.le_of_lt_succ ‹_›)]
  rw [epl] at e1
  have hlt:=ZL e1
  rw [hu]
  walk_at "n"
  refine ⟨ZD,?_⟩
  refine GM (n:=Z6 ns (L+1)) (v:=.int 0) Zm (by exact Int.natCast_nonneg _) (by exact Internal.qCb ‹_› ‹_› (by decide)) ?_
  rw [GB,show ((Z6 ns (L+1):Int)).toNat=Z6 ns (L+1) by exact Int.toNat_natCast _,D5]
  walk_at "n"
  have hxx:σ'[x]?=some (IL ns):=kp.at (k.at hx)
  refine BU (ns:=ns) (Zh (Zh hxx)) (MT L i ns x σ' σ₁) ⟨t1,t3,?_,(kp.app _).app _,?_,List.replicate (Z6 ns (L+1)) 0,by simp,?_,fun s l h=>by contradiction⟩ ?_ ?_ ?_
  ·simp
  ·have:(fun j=>YE (Zj L ns) j+if j=0 then 0 else ((ns.take 0).count (j:Int):Int))=YE (Zj L ns):=by funext j;simp
   rw [this];exact Zh (Zh e1)
  ·simp
  ·rintro _ l σ'' ⟨t1,t2,rfl,k',_⟩
   exact k'.at (k.at hx)
  ·rintro k' l σ'' c hc ⟨t1,t2,rfl,k2,e2,fs,f1,f2,f3⟩
   have hcR:=hR c (List.mem_of_getElem? hc)
   have hkl:=ZL hc
   walk_at "b"
   refine ZU (fun h=>?_) fun h=>?_
   ·walk_at "b"
    have hpos:YE (Zj L ns) c.toNat+(if c.toNat=0 then 0 else ((ns.take k').count ((c.toNat:Nat):Int):Int))=(Yy ns k' c:Int):=by
     rw [if_neg (by grind)]
     obtain ⟨m,hm⟩:∃ m,c.toNat=m+1:=⟨c.toNat-1,by exact Internal.qS ‹_›⟩
     have e3:((c.toNat:Nat):Int)=c:=by exact Internal.qR ‹_›
     rw [hm,DV m (by lia),← hm,e3,show (m:Int)+1=c by grind]
     unfold Yy;rfl
    have hb:=DW hc (by assumption:(1:Int)≤c)
    have hb2:=JA ns (show c+1≤L+1 by omega)
    refine Z8 e2 hcR.1 (GK (by exact Internal.qBe ‹_›)) (by simp;exact q4) ?_
    rw [hpos]
    refine XT f2 (by exact Int.natCast_nonneg _) (by rw [f1];lia) (by rw [f1];exact Internal.qBx ‹_› ‹_› (by rfl)) ?_
    walk_at "n"
    have e2':=YM (o:=IL (fs.set ((Yy ns k' c:Int)).toNat (k':Int))) e2 (show σ'.length+1≠σ₁.length+1 by grind)
    refine Z8 e2' hcR.1 (GK (by exact Internal.qBe ‹_›)) (by simp;exact q4) ?_
    walk_at "d"
    refine XT e2' hcR.1 (by simp;omega) (by simp;exact q4) (Zl (Zl (ZF ⟨_,_,rfl,(k2.set _ (.inr (by have:=kp.1;lia))).set _ (.inr (by exact Nat.le_succ _)),?_,fs.set (Yy ns k' c) (k':Int),by simpa using f1,?_,?_⟩)))
    ·rw [ZJ e2',map_set (g:=fun j=>YE (Zj L ns) j+if j=0 then 0 else ((ns.take (k'+1)).count (j:Int):Int)) (by exact Internal.qBe ‹_›) (fun j hj=>?_) ?_]
     ·have:c.toNat≠0:=by grind
      rw [if_neg this,if_neg this,Vf hc,if_pos (by grind)];simp +arith
     ·show _+_=_+_
      split
      ·rfl
      ·rw [Vf hc,if_neg (by lia)];rfl
    ·rw [List.getElem?_set_ne (by grind),ZJ f2]
     rfl
    ·intro s l hs hsl hl1
     by_cases q:s=k'
     ·subst q
      rw [hc] at hsl;cases hsl
      rw [List.getElem?_set_self (by rw [f1];exact Nat.lt_of_lt_of_le ‹_› ‹_›)]
     ·rw [List.getElem?_set_ne (fun q'=>Zep hsl hc hl1 ‹_› (by exact Internal.qBj ‹_› ‹_›) q'.symm)]
      exact f3 s l (by exact Internal.qBj ‹_› ‹_›) hsl hl1
   ·refine ZK (Zl (ZF ⟨_,_,rfl,k2,?_,fs,f1,f2,?_⟩))
    ·rw [e2]
     congr 3
     funext j
     split
     ·rfl
     ·rw [Vf hc,if_neg (by lia)];rfl
    ·intro s l hs hsl hl1
     by_cases q:s=k'
     ·subst q
      rw [hc] at hsl;cases hsl
      contradiction
     ·exact f3 s l (by exact Internal.qBj ‹_› ‹_›) hsl hl1
  ·rintro l σ'' ⟨t1,t2,rfl,k2,e2,fs,f1,f2,f3⟩
   walk_at "n"
   have:=kp.1
   exact hQ _ _ fs ⟨by rw [hg];exact f1,fun s l h hl1=>f3 s l (ZL h) h hl1⟩ (k.trans k2) f2 (by lia)
theorem ZX {σ:List Za}{x:Nat}{c:Yk}{fs:List (ZE×AV)}{f:ZE}{v:AV}{Q:Zq}(h:σ[x]?=some (.inst c fs))(hv:fs.lookup f=some v)(q:Q v σ):WQ f (.obj x) σ Q:=⟨c,fs,h,v,hv,q⟩
theorem Xc {σ:List Za}{x:Nat}{c:Yk}{fs fs':List (ZE×AV)}{f:ZE}{v:AV}{Q:List Za→Prop}(h:σ[x]?=some (.inst c fs))(hl:fs.length.ble 20=true)(hf:VL f v fs=fs')(q:Q (σ.set x (.inst c fs'))):Um f (.obj x) v σ Q:=⟨c,fs,h,Nat.le_of_ble_eq_true hl,by rw [hf];exact q⟩
theorem Xa {σ:List Za}{x:Nat}{c:Yk}{fs:List (ZE×AV)}{m:MN}{a:Addr}{R:Addr→Prop}(h:σ[x]?=some (.inst c fs))(hm:VU c m=some a)(q:R a):∃ c fs a,σ[x]?=some (.inst c fs)∧VU c m=some a∧R a:=⟨c,fs,a,h,hm,q⟩
theorem Mr {n:Nat}{c:Int}{σ:List Za}{Q:Zq}{X:Zx}(hn:3≤n)(h0:0≤c)(hQ:Q .none σ):WF n 199 [.int c] σ Q X:=by
 refine WF.mini [] ZaU Zfe ZdW .nil ‹_› ?_
 walk_at "b"
 refine ZA (ZA (Xz (fun h=>?_) fun h=>absurd h (by omega)))
 refine ZI (ZK (Zl ?_))
 exact hQ
noncomputable def Xq (l:List UInt8)(p:Nat):Int:=(((l.getD (p / 8) 0).toNat / 2^(p % 8) % 2:Nat):Int)
noncomputable abbrev LR (l:List UInt8)(p:Nat):Za:=.inst .lowR [(.data,.bytes l),(.stop,.int l.length),(.position,.int p)]
theorem X3 {a k:Nat}:(a:Int).fdiv (2^k)=((a / 2^k:Nat):Int):=by
 rw [Int.fdiv_eq_ediv_of_nonneg _ (by exact_mod_cast Nat.zero_le _)]
 exact_mod_cast rfl
theorem RU (x:Int):Builtin.bitOr 0 x=x:=by
 rw [bitOr_and,bitAnd_comm,bitAnd_zero];simp
theorem Zhh {n p:Nat}{l:List UInt8}{σ:List Za}{Q:Zq}{X:Zx}(hn:3≤n)(hl:l.length≤1000)(hQ:∀ σ',Kp [] σ σ'→Q (.int (Xq l p)) σ'):WF n 220 [.bytes l,.int p,.int 1,.int l.length] σ Q X:=by
 refine WF.mini [_,_,_,_] ZaB ZeV ZdD .nil ‹_› ?_
 have e8:(p:Int).fdiv (2^(3:Int).toNat)=((p / 8:Nat):Int):=X3 (k:=3)
 have e7:Builtin.bitAnd (p:Int) 7=((p % 8:Nat):Int):=by rw [bitAnd_m3];rfl
 walk_at "b"
 refine ⟨by decide,rfl,ZD,?_⟩
 rw [e8,e7]
 walk_at "n"
 refine ⟨fun m L σ'=>Kp [] σ σ'∧∃ v g q i:Int,L=[some (.bytes l),some (.int p),some (.int 1),some (.int l.length),some (.int v),some (.int g),some (.int q),some (.int i)]∧((m=1∧v=0∧g=0∧q=((p / 8:Nat):Int)∧i=((p % 8:Nat):Int))∨(m=0∧1≤g∧v % 2=Xq l p)),1,⟨Kp.refl.app _,0,0,_,_,rfl,.inl ⟨rfl,rfl,rfl,rfl,rfl⟩⟩,?_⟩
 rintro m L σ' ⟨kp,v,g,q,i,rfl,h⟩
 have out:v % 2=Xq l p→Y0 (fun l₁ σ₁=>vB (n-1) (.cons (.ret (.bin .band (.slot 4) (.bin .sub (.bin .shl (.const (.int 1)) (.slot 2)) (.const (.int 1))))) .nil) l₁ σ₁ (ZT Q) (Z2 X)) (ZT Q) .next [some (.bytes l),some (.int p),some (.int 1),some (.int l.length),some (.int v),some (.int g),some (.int q),some (.int i)] σ':=fun hv=>by
  walk_at "n"
  refine ⟨by decide,by decide,?_⟩
  have:Builtin.bitAnd v (1*2^(1:Int).toNat-1)=Xq l p:=by
   rw [show (1*2^(1:Int).toNat-1:Int)=1 by decide,bitAnd_m1,hv]
  rw [this]
  exact hQ _ kp
 walk_at "d"
 rcases h with ⟨rfl,rfl,rfl,rfl,rfl⟩|⟨rfl,h1,h2⟩
 ·refine Hn (by decide) (ZU (fun h=>?_) fun h=>?_)
  ·have hlt:p / 8<l.length:=by exact Internal.qBn ‹_›
   obtain ⟨b,hb⟩:∃ b,l[p / 8]?=some b:=⟨_,List.getElem?_eq_getElem hlt⟩
   walk_at "b"
   refine ⟨by exact Int.natCast_nonneg _,by exact q4,b,hb,by exact Int.natCast_nonneg _,?_⟩
   have e1:((b.toNat:Nat):Int).fdiv (2^(((p % 8:Nat):Int)).toNat)=((b.toNat / 2^(p % 8):Nat):Int):=by
    rw [show (((p % 8:Nat):Int)).toNat=p % 8 by exact Int.toNat_natCast _];exact X3
   have e2:((b.toNat / 2^(p % 8):Nat):Int)*2^(0:Int).toNat=((b.toNat / 2^(p % 8):Nat):Int):=by
    show _*1=_
    simp
   have hb2:b.toNat / 2^(p % 8)<256:=Nat.lt_of_le_of_lt (Nat.div_le_self _ _) b.toNat_lt
   have hbits:(intBits ((b.toNat / 2^(p % 8):Nat):Int):Int)+0≤2^27:=by
    have:intBits ((b.toNat / 2^(p % 8):Nat):Int)≤200:=WV (by rw [Int.natAbs_natCast];exact Nat.lt_trans hb2 (by decide))
    exact qv ‹_› (by decide)
   rw [e1]
   walk_at "d"
   rw [e2,RU]
   refine ⟨by decide,hbits,?_⟩
   walk_at "n"
   walk_at "n"
   walk_at "n"
   refine Zl (ZF ⟨0,by exact Nat.le_refl _,kp,_,_,_,_,rfl,.inr ⟨rfl,by grind,?_⟩⟩)
   unfold Xq
   rw [List.getD_eq_getElem?_getD,hb]
   rfl
  ·refine ZI (out ?_)
   unfold Xq
   rw [List.getD_eq_getElem?_getD,List.getElem?_eq_none (by omega)]
   simp
 ·refine ifF (by lia) (ZI (out h2))
theorem Zhp {n p r:Nat}{l:List UInt8}{σ:List Za}{Q:Zq}{X:Zx}(hn:4≤n)(hl:l.length≤1000)(hr:σ[r]?=some (LR l p))(hQ:∀ σ',Kp [] σ σ'→Q (.int (Xq l p)) σ'):WF n 249 [.obj r,.int 1] σ Q X:=by
 refine WF.mini [] Zai ZeF Zdn .nil (by exact Nat.le_of_lt ‹_›) ?_
 walk_at "b"
 refine Mr (by exact q2) (by decide) ?_
 walk_at "n"
 refine ZX hr rfl (ZX hr rfl (ZX hr rfl ?_))
 exact Zhh (by exact q2) hl hQ
theorem Zhj {n p r:Nat}{l:List UInt8}{σ:List Za}{Q:Zq}{X:Zx}(hn:3≤n)(hr:σ[r]?=some (LR l p))(hQ:Q (.int (8*l.length-p)) σ):WF n 242 [.obj r] σ Q X:=by
 refine WF.mini [] Zah ZeE Zdm .nil ‹_› ?_
 walk_at "b"
 refine ZX hr rfl ⟨Vs (by decide),ZX hr rfl ?_⟩
 exact hQ
theorem Zhy {n p r:Nat}{l:List UInt8}{σ:List Za}{Q:Zq}{X:Zx}(hn:4≤n)(hr:σ[r]?=some (LR l p))(hQ:p<8*l.length→Q .none (σ.set r (LR l (p+1))))(hX:8*l.length≤p→X .cutShort σ):WF n 256 [.obj r,.int 1] σ Q X:=by
 refine WF.mini [] Zaj ZeG Zdo .nil (by exact Nat.le_of_lt ‹_›) ?_
 walk_at "b"
 refine Mr (by exact q2) (by decide) ?_
 walk_at "n"
 refine Xa hr rfl ?_
 refine Zhj (by exact q2) hr ?_
 refine ZU (fun h=>?_) fun h=>ZK ?_
 ·walk_at "b"
  exact hX (by lia)
 ·walk_at "n"
  refine ZX hr rfl ?_
  walk_at "d"
  refine Xc hr rfl rfl (Zl ?_)
  exact hQ (by grind)
theorem Zg9 {n p r:Nat}{l:List UInt8}{σ:List Za}{Q:Zq}{X:Zx}(hn:5≤n)(hl:l.length≤1000)(hr:σ[r]?=some (LR l p))(hQ:p<8*l.length→∀ σ',Kp [r] σ σ'→σ'[r]?=some (LR l (p+1))→Q (.int (Xq l p)) σ')(hX:8*l.length≤p→∀ σ',Kp [] σ σ'→X .cutShort σ'):WF n 263 [.obj r,.int 1] σ Q X:=by
 refine WF.mini [_] Zaf ZeC Zdk .nil (by exact q1) ?_
 walk_at "b"
 refine Xa hr rfl (Zhp (by exact q2) hl hr fun σ₁ k=>?_)
 walk_at "n"
 refine Xa (k.at hr) rfl (Zhy (by exact q2) (k.at hr) (fun h=>?_) fun h=>hX h _ k)
 walk_at "n"
 exact hQ h _ (k.of0.set _ (.inl (by simp))) (ZJ (k.at hr))
theorem Zg8 {n p r:Nat}{l:List UInt8}{σ:List Za}{Q:Zq}{X:Zx}(hn:6≤n)(hl:l.length≤1000)(hr:σ[r]?=some (LR l p))(hQ:p<8*l.length→∀ σ',Kp [r] σ σ'→σ'[r]?=some (LR l (p+1))→Q (.int (Xq l p)) σ')(hX:8*l.length≤p→∀ σ',Kp [] σ σ'→X .cutShort σ'):WF n 270 [.obj r] σ Q X:=by
 refine WF.mini [] Zae ZeB Zdj .nil (by exact q1) ?_
 walk_at "b"
 exact Xa hr rfl (Zg9 (by exact q2) hl hr hQ hX)
theorem Zhd {n:Nat}{l:List UInt8}{σ:List Za}{Q:Zq}{X:Zx}(hn:3≤n)(hl:l.length≤1000)(hQ:Q (.int l.length) σ):WF n 213 [.bytes l,.int 0,.none] σ Q X:=by
 refine WF.mini [_] Zaz ZeT ZdB .nil ‹_› ?_
 walk_at "b"
 refine ZA ⟨by exact q4,?_⟩
 walk_at "n"
 refine Hn (by decide) (Hn (by exact Int.natCast_nonneg _) ⟨by exact q4,Xz (fun h=>absurd h (by simp)) fun h=>ZK ?_⟩)
 walk_at "n"
 exact hQ
theorem Zhm {n r:Nat}{l:List UInt8}{σ:List Za}{Q:Zq}{X:Zx}(hn:4≤n)(hl:l.length≤1000)(hr:σ[r]?=some (.inst .lowR []))(hQ:∀ σ',Kp [r] σ σ'→σ'[r]?=some (LR l 0)→Q .none σ'):WF n 235 [.obj r,.bytes l] σ Q X:=by
 refine WF.mini [] Zag (dargs:=[.int 0,.none]) ZeD Zdl (.cons ⟨_,rfl⟩ (.cons rfl .nil)) (by exact Nat.le_of_lt ‹_›) ?_
 walk_at "b"
 refine Xc hr rfl rfl ?_
 walk_at "n"
 have h1:(σ.set r (.inst .lowR [(.data,.bytes l)]))[r]?=some (.inst .lowR [(.data,.bytes l)]):=ZJ hr
 refine ZX h1 rfl (Zhd (by exact q2) hl (Xc h1 rfl rfl ?_))
 walk_at "n"
 refine ⟨Vs (by decide),Xc (ZJ h1) rfl rfl (Zl ?_)⟩
 exact hQ _ (((Kp.refl.set _ (.inl (by simp))).set _ (.inl (by simp))).set _ (.inl (by simp))) (ZJ (ZJ h1))
noncomputable abbrev LW (m:Nat)(h b:Int):Za:=.inst .lowW [(.made,.obj m),(.held,.int h),(.heldBits,.int b)]
theorem Zhx {n w m:Nat}{h b:Int}{l:List UInt8}{σ:List Za}{Q:Zq}{X:Zx}(hn:3≤n)(hw:σ[w]?=some (LW m h b))(hm:σ[m]?=some (.barr l))(hl:l.length≤1000)(hQ:Q (.int (8*l.length+b)) σ):WF n 361 [.obj w] σ Q X:=by
 refine WF.mini [] Zao ZeL Zdt .nil ‹_› ?_
 walk_at "b"
 refine ZX hw rfl ⟨_,hm,by exact q4,Vs (by decide),ZX hw rfl ?_⟩
 exact hQ
theorem Zhc {n w m:Nat}{h b:Int}{l:List UInt8}{σ:List Za}{Q:Zq}{X:Zx}(hn:3≤n)(hw:σ[w]?=some (LW m h b))(hm:σ[m]?=some (.barr l))(hl:l.length≤1000)(h0:0≤h)(h1:h<256)
  (hQ:∀ σ',Kp [] σ σ'→Q (.bytes (l++if 0<b then [h.toNat.toUInt8] else [])) σ'):WF n 368 [.obj w] σ Q X:=by
 refine WF.mini [_] Zam ZeJ Zdr .nil ‹_› ?_
 walk_at "b"
 refine ZX hw rfl (ZU (fun hb=>?_) fun hb=>?_)
 ·refine ZX hw rfl ⟨by simp [sizeLine],?_⟩
  walk_at "n"
  refine ZX (Zh hw) rfl ⟨_,Zh hm,by unfold sizeLine;exact q4,[h],by simp,by simp [sizeLine],by intro x hx;rw [List.mem_singleton.mp hx];exact ⟨h0,h1⟩,rfl,by simp;exact q4,?_⟩
  rw [if_pos hb] at hQ
  exact hQ _ (Kp.refl.app _)
 ·refine ⟨ZD,?_⟩
  walk_at "n"
  refine ZX (Zh hw) rfl ⟨_,Zh hm,by unfold sizeLine;exact q4,[],by simp,by simp [sizeLine],by simp,rfl,by simp;exact q4,?_⟩
  rw [if_neg hb] at hQ
  exact hQ _ (Kp.refl.app _)
theorem QG {n:Nat}{v s:Int}{σ:List Za}{Q:Zq}{X:Zx}(hn:4≤n)(h0:0≤v)(hs:0≤s)(h1:v.fdiv (2^s.toNat)=0)(hQ:Q .none σ):WF n 206 [.int v,.int s] σ Q X:=by
 refine WF.mini [] ZaV Zff ZdX .nil (by exact Nat.le_of_lt ‹_›) ?_
 walk_at "b"
 refine Mr (by exact q2) hs ?_
 walk_at "n"
 refine ZA (Xz (fun h=>⟨hs,?_⟩) fun h=>absurd h (by lia))
 rw [h1]
 refine ZA (ZI (ZK (Zl ?_)))
 exact hQ
theorem UE:∀ (ns:List Int) (m:Int),m≤ns.foldl (fun m c=>if m<c then c else m) m∧(∀ c∈ns,c≤ns.foldl (fun m c=>if m<c then c else m) m)∧(ns.foldl (fun m c=>if m<c then c else m) m=m∨ns.foldl (fun m c=>if m<c then c else m) m∈ns)
|[],m=>⟨Int.le_refl _,by simp,.inl rfl⟩
|a::ns,m=>by
  have ih:=UE ns (if m<a then a else m)
  rw [List.foldl_cons]
  obtain ⟨h1,h2,h3⟩:=ih
  by_cases h:m<a
  ·rw [if_pos h] at h1 h2 h3 ⊢
   refine ⟨by omega,fun c hc=>?_,.inr ?_⟩
   ·rcases List.mem_cons.mp hc with q|q
    ·rw [q];exact h1
    ·exact h2 c q
   ·rcases h3 with q|q
    ·rw [q];exact List.mem_cons_self
    ·exact List.mem_cons_of_mem _ q
  ·rw [if_neg h] at h1 h2 h3 ⊢
   refine ⟨h1,fun c hc=>?_,h3.imp id fun q=>List.mem_cons_of_mem _ q⟩
   rcases List.mem_cons.mp hc with q|q
   ·rw [q];lia
   ·exact h2 c q
theorem Hk (ns:List Int):0≤Zk ns:=(UE ns 0).1
theorem Bj {ns:List Int}{c:Int}(h:c∈ns):c≤Zk ns:=(UE ns 0).2.1 c h
theorem Bm {ns:List Int}{L:Nat}(h:ZO L ns):Zk ns≤L:=by
 rcases (UE ns 0).2.2 with q|q
 ·unfold Zk;rw [q];exact Int.natCast_nonneg _
 ·exact (h _ q).2
theorem Bl {ns:List Int}{L:Nat}(h:ZO L ns):ZO (Zk ns).toNat ns:=fun c hc=>⟨(h c hc).1,by have:=Bj hc;have:=Hk ns;omega⟩
noncomputable abbrev RD (L:Nat)(ci si:Nat):Za:=.inst .reader [(.most,.int L),(.counts,.obj ci),(.symbols,.obj si)]
theorem D2 {n r x Lx:Nat}{ns:List Int}{lone:Bool}{σ:List Za}{Q:Zq}{X:Zx}(hn:6≤n)(hr:σ[r]?=some (.inst .reader []))(hx:σ[x]?=some (IL ns))(hL:Lx≤100)(hl:ns.length≤200)(hs:∀ c∈ns,c.natAbs<2^64)
  (hQ:ZO Lx ns→Yc Lx ns lone=true→∀ σ' ci si fs,Y2 ns fs→Kp [r] σ σ'→σ'[r]?=some (RD (Zk ns).toNat ci si)→σ'[ci]?=some (IL (Zj (Zk ns).toNat ns))→σ'[si]?=some (IL fs)→Q .none σ')
  (hX:(ZO Lx ns→Yc Lx ns lone=false)→∀ σ',Kp [] σ σ'→X .badCode σ'):vB (n-1) BY [some (.obj r),some (.obj x),some (.int Lx),some (.bool lone)] σ (ZT Q) (Z2 X):=by
 walk_at "b"
 refine Qz (by exact q2) hx hL (by exact q4) hs (fun hi hc σ₁ k=>?_) fun h σ' k=>hX h _ k
 have hg:=Bm hi
 have hg0:=Hk ns
 have hgi:=Bl hi
 have eL:Zk ns=((Zk ns).toNat:Int):=by exact (Int.toNat_of_nonneg ‹_›).symm
 walk_at "n"
 refine Mq (by exact q2) (k.at hx) ?_
 rw [eL]
 have hlt:=ZL hr
 refine Xc (fs':=[(.most,.int (Zk ns).toNat)]) (k.at hr) rfl rfl ?_
 walk_at "n"
 have k1:Kp [r] σ (σ₁.set r (.inst .reader [(.most,.int (Zk ns).toNat)])):=k.of0.set _ (.inl (by simp))
 have hr1:=ZJ (o:=.inst .reader [(.most,.int (Zk ns).toNat)]) (k.at hr)
 have hxr:x∉[r]:=by
  intro q
  rw [List.mem_singleton.mp q,hr] at hx;cases hx
 refine ZX hr1 rfl ?_
 refine T9 (by exact q2) (k1.at hx hxr) (by lia) (by exact q4) hs (fun _ σ₂ ci k2 e2 hci=>?_) fun q=>absurd hgi q
 refine Xc (fs':=[(.most,.int (Zk ns).toNat),(.counts,.obj ci)]) (k2.at hr1) rfl rfl ?_
 walk_at "n"
 have k2':=(k1.trans k2.of0).set (x:=r) (.inst .reader [(.most,.int (Zk ns).toNat),(.counts,.obj ci)]) (.inl (by simp))
 have hr2:=ZJ (o:=.inst .reader [(.most,.int (Zk ns).toNat),(.counts,.obj ci)]) (k2.at hr1)
 have hlen:r<(σ₁.set r (.inst .reader [(.most,.int (Zk ns).toNat)])).length:=ZL hr1
 refine Zha (by exact q2) (k2'.at hx hxr) (L:=(Zk ns).toNat) (by lia) eL ‹_› hgi fun σ₃ si fs hb k3 e3 hsi=>?_
 have hr3:=k3.at hr2
 have e2':=k3.at (YM (o:=.inst .reader [(.most,.int (Zk ns).toNat),(.counts,.obj ci)]) e2 (by grind))
 have hlen2:=ZL hr2
 refine Xc (fs':=[(.most,.int (Zk ns).toNat),(.counts,.obj ci),(.symbols,.obj si)]) hr3 rfl rfl (Zl ?_)
 exact hQ hi hc _ ci si fs hb ((k2'.trans k3.of0).set _ (.inl (by simp))) (ZJ hr3) (YM e2' (by grind)) (YM e3 (by omega))
section
variable {n r x:Nat}{ns:List Int}{σ:List Za}{Q:Zq}{X:Zx}
theorem Zhv {Lx:Nat}{lone:Bool}(hn:6≤n)(hr:σ[r]?=some (.inst .reader []))(hx:σ[x]?=some (IL ns))(hL:Lx≤100)(hl:ns.length≤200)(hs:∀ c∈ns,c.natAbs<2^64)
  (hQ:ZO Lx ns→Yc Lx ns lone=true→∀ σ' ci si fs,Y2 ns fs→Kp [r] σ σ'→σ'[r]?=some (RD (Zk ns).toNat ci si)→σ'[ci]?=some (IL (Zj (Zk ns).toNat ns))→σ'[si]?=some (IL fs)→Q .none σ')
  (hX:(ZO Lx ns→Yc Lx ns lone=false)→∀ σ',Kp [] σ σ'→X .badCode σ'):WF n 143 [.obj r,.obj x,.int Lx,.bool lone] σ Q X:=
 WF.mini [] Zap D4 HC .nil (by exact q1) (D2 hn hr hx hL hl hs hQ hX)
theorem Zhu {Lx:Nat}(hn:6≤n)(hr:σ[r]?=some (.inst .reader []))(hx:σ[x]?=some (IL ns))(hL:Lx≤100)(hl:ns.length≤200)(hs:∀ c∈ns,c.natAbs<2^64)
  (hQ:ZO Lx ns→Yc Lx ns false=true→∀ σ' ci si fs,Y2 ns fs→Kp [r] σ σ'→σ'[r]?=some (RD (Zk ns).toNat ci si)→σ'[ci]?=some (IL (Zj (Zk ns).toNat ns))→σ'[si]?=some (IL fs)→Q .none σ')
  (hX:(ZO Lx ns→Yc Lx ns false=false)→∀ σ',Kp [] σ σ'→X .badCode σ'):WF n 143 [.obj r,.obj x,.int Lx] σ Q X:=
 WF.mini [] Zar (dargs:=[.bool false]) D4 HC (.cons rfl .nil) (by exact q1) (D2 hn hr hx hL hl hs hQ hX)
theorem QI (hn:6≤n)(hr:σ[r]?=some (.inst .reader []))(hx:σ[x]?=some (IL ns))(hl:ns.length≤200)(hs:∀ c∈ns,c.natAbs<2^64)
  (hQ:ZO 15 ns→Yc 15 ns false=true→∀ σ' ci si fs,Y2 ns fs→Kp [r] σ σ'→σ'[r]?=some (RD (Zk ns).toNat ci si)→σ'[ci]?=some (IL (Zj (Zk ns).toNat ns))→σ'[si]?=some (IL fs)→Q .none σ')
  (hX:(ZO 15 ns→Yc 15 ns false=false)→∀ σ',Kp [] σ σ'→X .badCode σ'):WF n 143 [.obj r,.obj x] σ Q X:=
 WF.mini [] Zaq (dargs:=[.int 15,.bool false]) D4 HC (.cons ⟨_,rfl⟩ (.cons rfl .nil)) (by exact q1) (D2 (Lx:=15) hn hr hx (by simp) hl hs hQ hX)
end
inductive VA where
|sym (i:Int) (p:Nat)|cut|bad
noncomputable def Yr (cs:List Int)(bit:Nat→Option Int):Nat→Nat→Int→Int→Int→Nat→VA
|0,_,_,_,_,_=>.bad
|m+1,k,code,first,place,p=>(bit p).elim .cut fun b=>
   if code*2+b-first<cs.getD k 0 then .sym (place+(code*2+b)-first) (p+1) else Yr cs bit m (k+1) (code*2+b) ((first+cs.getD k 0)*2) (place+cs.getD k 0) (p+1)
theorem DZ (cs:List Int)(bit:Nat→Option Int)(m k:Nat)(code first place:Int)(p:Nat):Yr cs bit (m+1) k code first place p=(bit p).elim .cut fun b=>if code*2+b-first<cs.getD k 0 then .sym (place+(code*2+b)-first) (p+1) else Yr cs bit m (k+1) (code*2+b) ((first+cs.getD k 0)*2) (place+cs.getD k 0) (p+1):=rfl
theorem C1 {cs:List Int}{bit:Nat→Option Int}{m k:Nat}{code first place b:Int}{p:Nat}(h:bit p=some b):Yr cs bit (m+1) k code first place p=if code*2+b-first<cs.getD k 0 then .sym (place+(code*2+b)-first) (p+1) else Yr cs bit m (k+1) (code*2+b) ((first+cs.getD k 0)*2) (place+cs.getD k 0) (p+1):=by rw [DZ,h];rfl
theorem C0 {cs:List Int}{bit:Nat→Option Int}{m k:Nat}{code first place:Int}{p:Nat}(h:bit p=none):Yr cs bit (m+1) k code first place p=.cut:=by rw [DZ,h];rfl
noncomputable def Z1 (l:List UInt8)(p:Nat):Option Int:=if p<8*l.length then some (Xq l p) else none
theorem JC (l:List UInt8)(p:Nat):Xq l p=0∨Xq l p=1:=by unfold Xq;exact Internal.qG _
theorem NB {c b:Int}(hb:b=0∨b=1):Builtin.bitOr (c*2) b=c*2+b:=by
 rcases hb with rfl|rfl
 ·rw [bitOr_and,bitAnd_zero];simp
 ·rw [bitOr_and,bitAnd_m1];simp
theorem Yh {σ:List Za}{i j:Nat}{o o':Za}(h:σ[i]?=some o)(h':σ[j]?=some o')(hne:o≠o'):i≠j:=by
 rintro rfl
 rw [h] at h';cases h';exact hne rfl
inductive MU (L:Nat)(b:Nat)(cs:List Int)(l:List UInt8)(p:Nat)(r:Nat)(σ:List Za)(k:Nat)(loc:Zc)(σ':List Za):Prop
|mk (code first place:Int) (p':Nat) (t1 t2:Option AV):(loc=[some (.obj r),some (.obj b),some (.int code),some (.int first),some (.int place),t1,t2])→(k≤L)→(Yr cs (Z1 l) (L-k) (1+k) code first place p'=Yr cs (Z1 l) L 1 0 0 0 p)→(0≤code)→(code<2^k)→(0≤first)→(first≤2000*2^k-2000)→(Kp [b] σ σ')→(σ'[b]?=some (LR l p'))→MU L b cs l p r σ k loc σ'
theorem Zht {n r b ci si L p:Nat}{cs fs:List Int}{l:List UInt8}{σ:List Za}{Q:Zq}{X:Zx}(hn:7≤n)(hr:σ[r]?=some (RD L ci si))(hci:σ[ci]?=some (IL cs))(hsi:σ[si]?=some (IL fs))(hb:σ[b]?=some (LR l p))(hl:l.length≤1000)
  (hL:L≤100) (hcl:cs.length=L+1) (hc:∀ c∈cs,0≤c∧c≤1000) (hfl:fs.length≤1000)
  (hQ:∀ i p',Yr cs (Z1 l) L 1 0 0 0 p=.sym i p'→0≤i∧∃ v,fs[i.toNat]?=some v∧∀ σ',Kp [b] σ σ'→σ'[b]?=some (LR l p')→Q (.int v) σ')
  (hX1:Yr cs (Z1 l) L 1 0 0 0 p=.cut→∀ σ',Kp [b] σ σ'→X .cutShort σ') (hX2:Yr cs (Z1 l) L 1 0 0 0 p=.bad→∀ σ',Kp [b] σ σ'→X .badCode σ'):WF n 150 [.obj r,.obj b] σ Q X:=by
 refine WF.mini [_,_,_,_,_] Zas ZeM Zdu .nil (by exact q1) ?_
 have nr:r∉[b]:=by intro q;exact Yh hr hb (by intro e;cases e) (List.mem_singleton.mp q)
 have nci:ci∉[b]:=by intro q;exact Yh hci hb (by intro e;cases e) (List.mem_singleton.mp q)
 have nsi:si∉[b]:=by intro q;exact Yh hsi hb (by intro e;cases e) (List.mem_singleton.mp q)
 walk_at "b"
 refine ⟨rfl,ZD,?_⟩
 walk_at "n"
 refine ZX (Zh hr) rfl ⟨by decide,by decide,by exact qt (by decide),by lia,?_⟩
 have en:((L:Int)+1-1).toNat=L:=by exact qj
 rw [en]
 refine WD (MU L b cs l p r σ)
  ⟨0,0,0,p,none,none,rfl,by exact Nat.zero_le _,rfl,by decide,by decide,by decide,by decide,Kp.refl.app _,Zh hb⟩ ?_ ?_
 ·rintro k loc σ' hk ⟨code,first,place,p',t1,t2,rfl,hkL,hrd,h1,h2,h3,h4,kp,eb⟩
  obtain ⟨m,hm⟩:∃ m,L-k=m+1:=⟨L-k-1,by exact qn ‹_›⟩
  rw [hm] at hrd
  have hp2:(2:Int)^k≤2^100:=by exact_mod_cast Nat.pow_le_pow_right (by decide:0<2) (by exact Nat.le_trans ‹_› ‹_›)
  have ep:(2:Int)^(k+1)=2^k*2:=Int.pow_succ ..
  obtain ⟨c,hcc⟩:∃ c,cs[1+k]?=some c:=⟨_,List.getElem?_eq_getElem (by exact Internal.qAu ‹_› ‹_›)⟩
  have hcb:=hc c (List.mem_of_getElem? hcc)
  have hcd:=YS hcc
  walk_at "b"
  refine ⟨by decide,JE (m:=k) h1 (by exact Nat.le_trans ‹_› ‹_›) (by lia),?_⟩
  rw [show code*2^(1:Int).toNat=code*2 from rfl]
  refine Xa eb rfl (Zg8 (by exact q2) hl eb (fun hlt σ₁ k1 e1=>?_) fun hge σ₁ k1=>?_)
  ·have hbo:Z1 l p'=some (Xq l p'):=if_pos hlt
   have kp1:=kp.trans k1
   walk_at "d"
   rw [NB (JC l p')]
   rw [C1 hbo] at hrd
   have hb01:=JC l p'
   walk_at "n"
   refine ZX (kp1.at hr nr) rfl (Z8 (kp1.at hci nci) (by exact Int.natCast_nonneg _) (c:=c) (by rw [show (1+(k:Int)).toNat=1+k by exact Int.toNat_natCast _];exact hcc) (by grind) ?_)
   walk_at "n"
   rw [hcd] at hrd
   refine ZU (fun h=>?_) fun h=>ZK ?_
   ·rw [if_pos h] at hrd
    obtain ⟨hi,v,hv,q⟩:=hQ _ _ hrd.symm
    walk_at "b"
    refine ZX (kp1.at hr nr) rfl (Z8 (kp1.at hsi nsi) hi hv (by exact q4) ?_)
    exact q _ kp1 e1
   ·rw [if_neg h] at hrd
    walk_at "n"
    walk_at "n"
    refine ⟨by decide,JE (m:=k) (by omega) (by exact Nat.le_trans ‹_› ‹_›) (by grind),Zl (ZF ⟨_,_,_,p'+1,_,_,rfl,by assumption,?_,by lia,by lia,?_,?_,kp1,e1⟩)⟩
    ·rw [← hrd,show L-(k+1)=m by exact Internal.qF ‹_›,show 1+(k+1)=1+k+1 by exact Int.toNat_natCast _];rfl
    ·show 0≤(first+c)*2
     lia
    ·show (first+c)*2≤_
     lia
  ·have hbo:Z1 l p'=none:=if_neg (by omega)
   rw [C0 hbo] at hrd
   exact hX1 hrd.symm _ (kp.trans k1.of0)
 ·rintro loc σ' ⟨code,first,place,p',t1,t2,rfl,hkL,hrd,h1,h2,h3,h4,kp,eb⟩
  rw [Nat.sub_self] at hrd
  walk_at "n"
  exact hX2 hrd.symm _ kp
noncomputable abbrev PW (li ci:Nat):Za:=.inst .writer [(.lengths,.obj li),(.codes,.obj ci)]
noncomputable def Xu (ns:List Int)(s:Int):AV:=if 0≤s∧s<ns.length∧ns.getD s.toNat 0≠0 then .int (ns.getD s.toNat 0) else .none
theorem UI {p:Prop}{hd:Decidable p}{A B:Prop}(h1:p→A)(h2:¬ p→B):YH (!!decide p) A B:=by
 by_cases h:p
 ·rw [decide_eq_true h];exact h1 h
 ·rw [decide_eq_false h];exact h2 h
theorem Jp {n w li ci:Nat}{ns:List Int}{s:Int}{σ:List Za}{Q:Zq}{X:Zx}(hn:3≤n)(hw:σ[w]?=some (PW li ci))(hli:σ[li]?=some (IL ns))(hl:ns.length≤1000)(hQ:Q (Xu ns s) σ):WF n 178 [.obj w,.int s] σ Q X:=by
 refine WF.mini [] Zat ZeN Zdv .nil ‹_› ?_
 walk_at "b"
 have no:¬ (0≤s∧s<ns.length∧ns.getD s.toNat 0≠0)→ZT Q (.ret .none) [some (.obj w),some (.int s)] σ:=fun h=>by
  have:Xu ns s=.none:=if_neg h
  rw [this] at hQ
  exact hQ
 refine ZU (fun h0=>ZX hw rfl (Xk hli (by exact q4) ?_)) fun h0=>ZI (ZA ?_)
 ·rw [ZY]
  refine UI (fun h1=>?_) fun h1=>ZA ?_
  ·obtain ⟨c,hc⟩:∃ c,ns[s.toNat]?=some c:=⟨_,List.getElem?_eq_getElem (by exact Internal.qO ‹_› ‹_›)⟩
   have hd:=YS hc
   refine ZX hw rfl (Z8 hli h0 hc (by exact q4) ?_)
   walk_at "d"
   refine Xz (fun h2=>ZI (ZK ?_)) fun h2=>ZA ?_
   ·walk_at "n"
    refine ZX hw rfl (Z8 hli h0 hc (by exact q4) ?_)
    have:Xu ns s=.int c:=by
     unfold Xu;rw [hd,if_pos ⟨h0,h1,h2⟩]
    rw [this] at hQ
    exact hQ
   ·walk_at "b"
    exact no (by rw [hd];exact fun q=>q.2.2 h2)
  ·walk_at "b"
   exact no (fun q=>h1 q.2.1)
 ·walk_at "b"
  exact no (fun q=>h0 q.1)
theorem ZhA {n w x L:Nat}{ns:List Int}{σ:List Za}{Q:Zq}{X:Zx}(hn:6≤n)(hw:σ[w]?=some (.inst .writer []))(hx:σ[x]?=some (IL ns))(hL:L≤100)(hg:Zk ns=L)(hl:ns.length≤1000)(hR:ZO L ns)
  (hQ:∀ σ' li ci,Kp [w] σ σ'→σ'[w]?=some (PW li ci)→σ'[li]?=some (IL ns)→σ'[ci]?=some (IL ((List.range ns.length).map (YQ L ns)))→Q .none σ'):WF n 171 [.obj w,.obj x] σ Q X:=by
 refine WF.mini [] Zau ZeO Zdw .nil (by exact q1) ?_
 have hxw:x≠w:=Yh hx hw (by intro e;cases e)
 have hwl:=ZL hw
 walk_at "b"
 refine ⟨_,hx,by rw [ZY];unfold sizeLine;exact q4,Xc (fs':=[(.lengths,.obj σ.length)]) (Zh hw) rfl rfl ?_⟩
 walk_at "n"
 have k1:Kp [w] σ ((σ++[IL ns]).set w (.inst .writer [(.lengths,.obj σ.length)])):=(Kp.refl.app _).set _ (.inl (by simp))
 have hw1:=ZJ (o:=.inst .writer [(.lengths,.obj σ.length)]) (Zh (γ:=[IL ns]) hw)
 have hli:=YM (o:=.inst .writer [(.lengths,.obj σ.length)]) (Zm (σ:=σ) (o:=IL ns)) (show w≠σ.length by exact Nat.ne_of_lt ‹_›)
 have hli':=ZL hli
 refine Qy (by exact q2) (k1.at hx (by simpa using hxw)) hL hg hl hR fun σ₂ ci k2 e2 hci=>?_
 have hci':((σ++[IL ns]).set w (.inst .writer [(.lengths,.obj σ.length)])).length≤ci:=hci
 refine Xc (k2.at hw1) rfl rfl (Zl ?_)
 exact hQ _ σ.length ci ((k1.trans k2.of0).set _ (.inl (by simp))) (ZJ (k2.at hw1)) (YM (k2.at hli) (by exact Nat.ne_of_lt ‹_›)) (YM e2 (by lia))
inductive MV (ns:List Int)(x:Nat)(σ:List Za)(k:Nat)(l:Zc)(σ':List Za):Prop
|mk (w:Int) (tv:Option AV):(l=[some (.obj x),some (.int w),tv])→(0≤w)→(σ'=σ++[IL (ns.take 24)])→MV ns x σ k l σ'
theorem Zhq {n x:Nat}{o:Unit→Obj}{ns:List Int}{σ:List Za}{Q:Zq}{X:Zx}(hn:3≤n)(hx:σ[x]?=some (.frz o ns))(hl:ns.length≤1000)
  (hQ:∀ σ' i w,0≤w→Kp [] σ σ'→σ'[i]?=some (IL [w,0])→σ.length≤i→Q (.obj i) σ'):WF n 382 [.obj x] σ Q X:=by
 refine WF.mini [_,_] ZaN Ze7 ZdP .nil ‹_› ?_
 walk_at "b"
 walk_at "n"
 refine ⟨none,some 24,rfl,⟨rfl,by decide⟩,ns.map .int,.inr ⟨o,ns,hx,rfl⟩,by rw [ZY];unfold sizeLine;exact q4,?_⟩
 refine Vr (ns:=ns.take 24) (by simp [pick]) (MV ns x σ) ⟨0,none,rfl,Int.le_refl _,by simp [pick]⟩ ?_ ?_ ?_
 ·rintro k l σ' ⟨w,tv,rfl,hw,rfl⟩
  simp
 ·rintro k l σ' c hc ⟨w,tv,rfl,hw,rfl⟩
  walk_at "b"
  have h10:(10:Int)^(70:Int).toNat≠0:=by decide
  refine ⟨B6 (by decide),Vs (by decide),by decide,by decide,h10,ZF ⟨_,_,rfl,Int.fmod_nonneg_of_pos _ (by decide),rfl⟩⟩
 ·rintro l σ' ⟨w,tv,rfl,hw,rfl⟩
  walk_at "n"
  refine ⟨ZD,?_⟩
  exact hQ _ _ w hw ((Kp.refl.app _).app _) (by simp) (by simp)
noncomputable def Z5 (p:Nat)(σ:List Za):Prop:=∃ w c:Int,0≤w∧σ[p]?=some (IL [w,c])
theorem Z5.keep {p:Nat}{S:List Nat}{σ σ':List Za}(h:Z5 p σ)(k:Kp S σ σ')(hp:p∉S:=by simp):Z5 p σ':=by
 obtain ⟨w,c,h1,h2⟩:=h
 exact ⟨w,c,h1,k.at h2 hp⟩
theorem Xn {n p:Nat}{m:Int}{σ:List Za}{Q:Zq}{X:Zx}(hn:3≤n)(hp:Z5 p σ)(hm:0<m)(hm2:m<2^63)
  (hQ:∀ d σ',0≤d→d<m→Kp [p] σ σ'→Z5 p σ'→σ'.length=σ.length→Q (.int d) σ'):WF n 389 [.obj p,.int m] σ Q X:=by
 refine WF.mini [_] ZaQ Zfa ZdS .nil ‹_› ?_
 obtain ⟨w,c,hw,e⟩:=hp
 have l2:∀ a b:Int,[a,b].length≤1000000:=fun _ _=>by simp
 walk_at "b"
 refine Z8 e (by decide) rfl (l2 _ _) ?_
 walk_at "d"
 refine ZU (fun h=>?_) fun h=>ZK ?_
 ·walk_at "b"
  refine Z8 e (by decide) rfl (l2 _ _) ?_
  walk_at "d"
  refine ⟨by lia,?_⟩
  walk_at "n"
  refine Z8 e (by decide) rfl (l2 _ _) ?_
  walk_at "d"
  refine ⟨by grind,Zd5 (by exact Internal.qAt ‹_› ‹_›),XT e (by decide) (by simp) (l2 _ _) ?_⟩
  walk_at "n"
  refine hQ _ _ (Int.fmod_nonneg_of_pos _ hm) (Int.fmod_lt_of_pos _ hm) (Kp.refl.set _ (.inl (by simp))) ⟨w.fdiv m,c,Int.fdiv_nonneg hw (by exact Int.le_of_lt ‹_›),ZJ e⟩ (by simp)
 ·walk_at "n"
  refine Z8 e (by decide) rfl (l2 _ _) ?_
  walk_at "d"
  refine XT e (by decide) (by simp) (l2 _ _) ?_
  walk_at "n"
  refine Z8 (ZJ (o:=IL [w,c+1]) e) (by decide) rfl (l2 _ _) ?_
  walk_at "d"
  refine ⟨Vs (by decide),by grind,?_⟩
  exact hQ _ _ (Int.fmod_nonneg_of_pos _ hm) (Int.fmod_lt_of_pos _ hm) (Kp.refl.set _ (.inl (by simp))) ⟨w,c+1,hw,ZJ e⟩ (by simp)
noncomputable def Wx (c:Int):Nat:=if 0<c then 2^(6-c.toNat) else 0
noncomputable def kr (ns:List Int):Nat:=(ns.map Wx).sum
theorem Bx (a b:List Int):kr (a++b)=kr a+kr b:=by simp [kr]
theorem By (ns:List Int)(i:Nat)(c:Int):kr (ns.take i++c::ns.drop i)=kr ns+Wx c:=by
 rw [Bx]
 have:kr (c::ns.drop i)=Wx c+kr (ns.drop i):=by simp [kr]
 rw [this]
 have h:=Bx (ns.take i) (ns.drop i)
 rw [List.take_append_drop] at h
 grind
theorem Zcc {ns:List Int}{i:Nat}{c d:Int}(h:ns[i]?=some c):kr (ns.set i d)+Wx c=kr ns+Wx d:=by
 induction ns generalizing i with
|nil=>simp at h
|cons a ns ih=>
  cases i with
 |zero=>
   simp at h
   subst h
   simp [kr];simp +arith
 |succ i=>
   have:=ih (i:=i) (by simpa using h)
   simp only [kr,List.set_cons_succ,List.map_cons,List.sum_cons] at this ⊢
   grind
theorem Zcb {c:Int}(h1:1≤c)(h2:c≤5):Wx c=2*Wx (c+1):=by
 unfold Wx
 rw [if_pos ‹_›,if_pos (by lia)]
 obtain ⟨m,hm⟩:∃ m,6-c.toNat=m+1:=⟨5-c.toNat,by exact Internal.qAh ‹_›⟩
 rw [hm,show 6-(c+1).toNat=m by exact Internal.qAi ‹_› ‹_›,Nat.pow_succ];simp +arith
theorem B1 {ns:List Int}{i:Nat}{c a:Int}(h:a∈ns.take i++c::ns.drop i):a∈ns∨a=c:=by
 rcases List.mem_append.mp h with q|q
 ·exact .inl (List.mem_of_mem_take q)
 ·rcases List.mem_cons.mp q with q|q
  ·exact .inr q
  ·exact .inl (List.mem_of_mem_drop q)
theorem BL {ns:List Int}{i:Nat}{c:Int}:(ns.take i++c::ns.drop i).length=ns.length+1:=by
 simp;exact Internal.qAg
theorem BZ {ns:List Int}{i:Nat}{c:Int}:(ns.map AV.int).take i++AV.int c::(ns.map AV.int).drop i=(ns.take i++c::ns.drop i).map .int:=by
 simp
theorem Br {σ:List Za}{x:Nat}{i:Int}{ns:List Int}{R:List AV→Prop}(hx:σ[x]?=some (IL ns))(hl:ns.length≤1000)(h0:0≤i)(h1:i<2^62)(q:R (ns.map .int)):∃ ls,σ[x]?=some (.list ls)∧ls.length≤sizeLine∧0≤i∧i<2^63∧R ls:=
 ⟨_,hx,by rw [ZY];unfold sizeLine;exact q4,h0,by exact qx ‹_› (by decide),q⟩
noncomputable def Xo (ns:List Int):Prop:=ns.length≤9∧(∀ c∈ns,0≤c∧c≤6)∧kr ns=64
inductive Jx (p:Nat)(σ:List Za)(k:Nat)(l:Zc)(σ':List Za):Prop
|mk (t1 t2 t3:Option AV) (ns:List Int):(l=[some (.obj p),some (.obj σ.length),t1,t2,t3])→(Kp [p] σ σ')→(Z5 p σ')→(σ'[σ.length]?=some (IL ns))→(ns.length=2+k)→((∀ c∈ns,1≤c∧c≤1+k))→(kr ns=64)→Jx p σ k l σ'
inductive MW (p:Nat)(t2:Option AV)(t3:Option AV)(σ:List Za)(k:Nat)(l:Zc)(σ':List Za):Prop
|mk (t1:Option AV) (ns:List Int):(l=[some (.obj p),some (.obj σ.length),t1,t2,t3])→(Kp [p] σ σ')→(Z5 p σ')→(σ'[σ.length]?=some (IL ns))→(ns.length≤7+k)→((∀ c∈ns,0≤c∧c≤6))→(kr ns=64)→MW p t2 t3 σ k l σ'
theorem Zhg {n p:Nat}{σ:List Za}{Q:Zq}{X:Zx}(hn:4≤n)(hp:Z5 p σ)
  (hQ:∀ σ' i ns,Xo ns→Kp [p] σ σ'→Z5 p σ'→σ'[i]?=some (IL ns)→σ.length≤i→Q (.obj i) σ'):WF n 396 [.obj p] σ Q X:=by
 refine WF.mini [_,_,_,_] ZaJ Ze3 ZdL .nil (by exact Nat.le_of_lt ‹_›) ?_
 have hpl:p<σ.length:=by obtain ⟨w,c,_,e⟩:=hp;exact ZL e
 walk_at "b"
 refine ⟨ZD,?_⟩
 walk_at "n"
 refine Xn (by exact q2) (hp.keep (Kp.refl.app (S:=[]) _)) (by decide) (by decide) fun d σ₁ h0 h1 k1 p1 _=>?_
 refine ⟨by exact qz ‹_› (by decide),by exact qx ‹_› (by decide),?_⟩
 have kσ:Kp [p] σ σ₁:=(Kp.refl.app _).trans k1
 have e1:σ₁[σ.length]?=some (IL [1,1]):=k1.at (by simp) (by simp;exact Nat.ne_of_gt ‹_›)
 refine WD (Jx p σ) ⟨none,none,none,[1,1],rfl,kσ,p1,e1,rfl,by simp,by simp [kr,Wx]⟩ ?_ ?_
 ·rintro k l σ' hk ⟨t1,t2,t3,ns,rfl,kp,pp,e,hlen,hall,hkr⟩
  have hk5:k<5:=by lia
  walk_at "b"
  refine Xk e (by lia) ?_
  rw [ZY]
  refine Xn (by exact q2) pp (by lia) (by lia) fun a σ₂ a0 a1 k2 p2 _=>?_
  walk_at "n"
  refine Xn (by exact q2) p2 (by decide) (by decide) fun b σ₃ b0 b1 k3 p3 _=>?_
  have k23:=k2.trans k3
  have e3:=k23.at e (by simp;exact Nat.ne_of_gt ‹_›)
  have rest:∀ at_:Int,0≤at_→at_<ns.length→∀ {P:Zc→List Za→Prop} {Q Q':SQ},(∀ l σ',Jx p σ (k+1) l σ'→P l σ') →
    Y0 (fun l₁ σ₁=>vB (n-1) (.cons (.assign 4 (.bin .add (.idx (.slot 1) (.slot 3)) (.const (.int 1)))) (.cons (.setIdx (.slot 1) (.slot 3) (.slot 4)) (.cons (.expr (.bm .insert (.slot 1) (.cons (.call 389 (.cons (.slot 0) (.cons (.bin .add (.blt .len (.cons (.slot 1) .nil)) (.const (.int 1))) .nil))) (.cons (.slot 4) .nil)))) .nil))) l₁ σ₁ (Y0 P Q) (Z2 X)) Q' .next
     [some (.obj p),some (.obj σ.length),some (.int (0+k)),some (.int at_),t3] σ₃:=by
   intro at_ h0 h1 P Q Q' hP
   obtain ⟨c,hc⟩:∃ c,ns[at_.toNat]?=some c:=⟨_,List.getElem?_eq_getElem (by exact Internal.qO ‹_› ‹_›)⟩
   have hcb:=hall c (List.mem_of_getElem? hc)
   walk_at "n"
   refine Z8 e3 h0 hc (by lia) ?_
   walk_at "d"
   walk_at "n"
   refine XT e3 h0 h1 (by grind) ?_
   walk_at "n"
   have e4:=ZJ (o:=IL (ns.set at_.toNat (c+1))) e3
   refine ⟨⟨_,e4⟩,Xk e4 (by simp;grind) ?_⟩
   rw [ZY,List.length_set]
   have kset:Kp [σ.length] σ₃ (σ₃.set σ.length (IL (ns.set at_.toNat (c+1)))):=Kp.refl.set _ (.inl (by simp))
   refine Xn (by exact q2) (p3.keep kset (by simp;exact Nat.ne_of_lt ‹_›)) (by simp) (by omega) fun f σ₅ f0 f1 k5 p5 _=>?_
   have e5:=k5.at e4 (by simp;exact Nat.ne_of_gt ‹_›)
   refine Br e5 (by simp;grind) f0 (by lia) ?_
   rw [BZ]
   walk_at "d"
   refine Zl (ZF (hP _ _ ⟨_,_,_,_,rfl,?_,?_,ZJ e5,?_,?_,?_⟩))
   ·exact (((kp.trans k23).set _ (.inr (Nat.le_refl _))).trans k5).set _ (.inr (Nat.le_refl _))
   ·exact p5.keep (Kp.refl.set (S:=[σ.length]) _ (.inl (by simp))) (by simp;exact Nat.ne_of_lt ‹_›)
   ·rw [BL,List.length_set];grind
   ·intro a ha
    rcases B1 ha with q|q
    ·rcases List.mem_or_eq_of_mem_set q with q|q
     ·have:=hall a q;omega
     ·lia
    ·grind
   ·rw [By]
    have h3:=Zcc (d:=c+1) hc
    have h4:=Zcb hcb.1 (by lia)
    lia
  refine ZU (fun h=>?_) fun h=>ZK (rest a a0 a1 fun _ _ h=>h)
  walk_at "b"
  refine Xk e3 (by grind) ?_
  rw [ZY]
  exact Zl (rest _ (by omega) (by simp +arith) fun _ _ h=>h)
 ·rintro l σ' ⟨t1,t2,t3,ns,rfl,kp,pp,e,hlen,hall,hkr⟩
  walk_at "n"
  refine Xn (by exact q2) pp (by decide) (by decide) fun d2 σ₂ g0 g1 k2 p2 _=>?_
  have e2:=k2.at e (by simp;exact Nat.ne_of_gt ‹_›)
  refine ⟨by exact qz ‹_› (by decide),by exact qx ‹_› (by decide),?_⟩
  refine WD (MW p t2 t3 σ) ⟨t1,ns,rfl,kp.trans k2,p2,e2,by omega,fun c hc=>by have:=hall c hc;grind,hkr⟩ ?_ ?_
  ·rintro k l σ' hk ⟨t1,ns,rfl,kp,pp,e,hlen,hall,hkr⟩
   walk_at "b"
   refine ⟨⟨_,e⟩,Xk e (by grind) ?_⟩
   rw [ZY]
   refine Xn (by exact q2) pp (by simp) (by lia) fun f σ₅ f0 f1 k5 p5 _=>?_
   have e5:=k5.at e (by simp;exact Nat.ne_of_gt ‹_›)
   refine Br e5 (by grind) f0 (by omega) ?_
   rw [BZ]
   walk_at "d"
   refine Zl (ZF ⟨_,_,rfl,(kp.trans k5).set _ (.inr (Nat.le_refl _)),p5.keep (Kp.refl.set (S:=[σ.length]) _ (.inl (by simp))) (by simp;exact Nat.ne_of_lt ‹_›),ZJ e5,by rw [BL];exact Nat.lt_succ_of_le ‹_›,fun a ha=>?_,?_⟩)
   ·rcases B1 ha with q|q
    ·exact hall a q
    ·omega
   ·rw [By,hkr];rfl
  ·rintro l σ' ⟨t1,ns,rfl,kp,pp,e,hlen,hall,hkr⟩
   walk_at "n"
   exact hQ _ _ ns ⟨by lia,hall,hkr⟩ kp pp e (Nat.le_refl _)
section
variable {σ:List Za}{m:Nat}{B:(Nat→List Za→Prop)→Nat→List Za→List AV→Prop}{D:List Za→Prop}
theorem Ve {a:Int}{n:Nat}(I:Nat→List Za→Prop)(h0:I 0 σ)(step:∀ k σ',k<n→I k σ'→B I k σ' [.int (a+k)])(done:∀ σ',I n σ'→D σ')(hm:m=1:=by rfl) :
  YZ (.rng a n)=true∧∃ (i0z:List (List AV)) (I:Nat→List Za→Prop),(∀ avs∈i0z,avs.length=m)∧I 0 σ∧(∀ k σ',k≤i0z.length→I k σ'→Z0 (.rng a n) σ' i0z)∧(∀ k σ' avs,i0z[k]?=some avs→I k σ'→B I k σ' avs)∧∀ σ',I i0z.length σ'→D σ':=
 ⟨rfl,(List.range n).map fun (i:Nat)=>[.int (a+i)],I,by rw [hm];exact BO,h0,fun _ _ _ _=>rfl,fun k σ' avs h hI=>by
  obtain ⟨h1,rfl⟩:=Bu h
  exact step k σ' h1 hI,fun σ' hI=>done σ' (by simpa using hI)⟩
variable {σs:List Za}
theorem Su {x:Nat}{ls:List AV}(hx:σs[x]?=some (.list ls))(I:Nat→List Za→Prop)(h0:I 0 σ)(hs:∀ k σ',I k σ'→σ'[x]?=some (.list ls))
  (step:∀ k σ' v,ls[k]?=some v→I k σ'→B I k σ' [v]) (done:∀ σ',I ls.length σ'→D σ') (hm:m=1:=by rfl) :
  ∃ it,XQ (.obj x) σs it∧YZ it=true∧∃ (i0z:List (List AV)) (I:Nat→List Za→Prop),(∀ avs∈i0z,avs.length=m)∧I 0 σ∧(∀ k σ',k≤i0z.length→I k σ'→Z0 it σ' i0z)∧(∀ k σ' avs,i0z[k]?=some avs→I k σ'→B I k σ' avs)∧∀ σ',I i0z.length σ'→D σ':=
 ⟨.lst x,.inl ⟨_,hx,rfl⟩,rfl,ls.map fun v=>[v],I,by rw [hm];exact GI,h0,fun k σ' _ hI=>⟨ls,hs k σ' hI,rfl⟩,fun k σ' avs h hI=>by
  rw [List.getElem?_map] at h
  obtain ⟨v,h1,rfl⟩:=Option.map_eq_some_iff.mp h
  exact step k σ' v h1 hI,fun σ' hI=>done σ' (by simpa using hI)⟩
theorem JX {x:Nat}{ns:List Int}(hx:σs[x]?=some (IL ns))(I:Nat→List Za→Prop)(h0:I 0 σ)(hs:∀ k σ',I k σ'→σ'[x]?=some (IL ns))
  (step:∀ k σ' c,ns[k]?=some c→I k σ'→B I k σ' [.int c]) (done:∀ σ',I ns.length σ'→D σ') (hm:m=1:=by rfl) :
  ∃ it,XQ (.obj x) σs it∧YZ it=true∧∃ (i0z:List (List AV)) (I:Nat→List Za→Prop),(∀ avs∈i0z,avs.length=m)∧I 0 σ∧(∀ k σ',k≤i0z.length→I k σ'→Z0 it σ' i0z)∧(∀ k σ' avs,i0z[k]?=some avs→I k σ'→B I k σ' avs)∧∀ σ',I i0z.length σ'→D σ':=
 Su hx I h0 hs (fun k σ' v h hI=>by
  rw [List.getElem?_map] at h
  obtain ⟨c,h1,rfl⟩:=Option.map_eq_some_iff.mp h
  exact step k σ' c h1 hI) (fun σ' hI=>done σ' (by simpa using hI)) hm
theorem NP {x:Nat}{ns:List Int}(hx:σs[x]?=some (IL ns))(I:Nat→List Za→Prop)(h0:I 0 σ)(hs:∀ k σ',I k σ'→σ'[x]?=some (IL ns))
  (step:∀ k σ' c,ns[k]?=some c→I k σ'→B I k σ' [.int k,.int c]) (done:∀ σ',I ns.length σ'→D σ') (hm:m=2:=by rfl) :
  ∃ ls,σs[x]?=some (.list ls)∧YZ (.enm x)=true∧∃ (i0z:List (List AV)) (I:Nat→List Za→Prop),(∀ avs∈i0z,avs.length=m)∧I 0 σ∧(∀ k σ',k≤i0z.length→I k σ'→Z0 (.enm x) σ' i0z)∧(∀ k σ' avs,i0z[k]?=some avs→I k σ'→B I k σ' avs)∧∀ σ',I i0z.length σ'→D σ':=
 ⟨_,hx,rfl,(ns.map AV.int).zipIdx.map fun p=>[AV.int p.2,p.1],I,by rw [hm];exact BK,h0,fun k σ' _ hI=>⟨_,hs k σ' hI,rfl⟩,fun k σ' avs h hI=>by
  obtain ⟨c,h1,rfl⟩:=Bt h
  exact step k σ' c h1 hI,fun σ' hI=>done σ' (by simpa using hI)⟩
end
theorem W4 {σ:List Za}{x:Nat}{ns:List Int}{R:List AV→Prop}(hx:σ[x]?=some (IL ns))(hl:ns.length<1000000)(q:R (ns.map .int)):∃ ls,σ[x]?=some (.list ls)∧ls.length<1000000∧R ls:=
 ⟨_,hx,by rw [ZY];exact hl,q⟩
theorem ZgZ {ns:List Int}{k:Nat}{c:Int}(h:ns[k]?=some c)(p:Int→Bool):(ns.take (k+1)).filter p=(ns.take k).filter p++if p c then [c] else []:=by
 rw [Xm h,List.filter_append]
 cases hp:p c<;>simp [hp]
noncomputable def Va (ns:List Int):Prop:=ns≠[]∧ns.length≤10∧∀ c∈ns,0≤c∧c≤7
inductive MX (p:Nat)(σ:List Za)(σ₃:List Za)(k:Nat)(σ':List Za):Prop
|mk (vs:List Int):(vs.length=k)→((∀ c∈vs,0≤c∧c≤7))→(Kp [p] σ σ')→(Z5 p σ')→(σ'[σ₃.length]?=some (IL vs))→MX p σ σ₃ k σ'
theorem QH {n p x:Nat}{ns:List Int}{σ:List Za}{Q:Zq}{X:Zx}(hn:4≤n)(hp:Z5 p σ)(hx:σ[x]?=some (IL ns))(hne:ns≠[])(hl:ns.length≤9)(hc:∀ c∈ns,0≤c∧c≤6)(hxp:x≠p)
  (hQ:∀ σ' i ms,Va ms→Kp [p] σ σ'→Z5 p σ'→σ'[i]?=some (IL ms)→σ.length≤i→Q (.obj i) σ'):WF n 401 [.obj p,.obj x] σ Q X:=by
 refine WF.mini [_,_,_] ZaM Ze6 ZdO .nil (by exact Nat.le_of_lt ‹_›) ?_
 have hpl:p<σ.length:=by obtain ⟨w,c,_,e⟩:=hp;exact ZL e
 have hlen:0<ns.length:=List.length_pos_iff.mpr hne
 have hxp':x∉[p]:=by simpa using hxp
 walk_at "b"
 refine Xn (by exact q2) hp (by decide) (by decide) fun way σ₁ w0 w1 k1 p1 _=>?_
 refine Xk (k1.at hx hxp') (by exact q4) ?_
 rw [ZY]
 refine Xn (by exact q2) p1 (by exact Int.ofNat_lt.mpr ‹_›) (by exact qu ‹_› (by decide)) fun at_ σ₂ a0 a1 k2 p2 _=>?_
 have k12:=k1.trans k2
 refine VE (k12.at hx hxp') (by exact q4) ⟨rfl,ZD,?_⟩
 have hle:σ.length≤σ₂.length:=k12.1
 have e3:((σ₂++[IL ns])++[.tup [.int way,.int at_,.obj σ₂.length]])[σ₂.length]?=some (IL ns):=Zh (by simp)
 have k3:Kp [] σ₂ ((σ₂++[IL ns])++[.tup [.int way,.int at_,.obj σ₂.length]]):=(Kp.refl.app _).app _
 have p3:=p2.keep k3
 obtain ⟨c,hcc⟩:∃ c,ns[at_.toNat]?=some c:=⟨_,List.getElem?_eq_getElem (by exact Internal.qO ‹_› ‹_›)⟩
 have hcb:=hc c (List.mem_of_getElem? hcc)
 have k13:=k12.trans k3.of0
 generalize ((σ₂++[IL ns])++[.tup [.int way,.int at_,.obj σ₂.length]])=σ₃ at e3 k3 p3 k13
 have fin:∀ (σ':List Za) (i:Nat) (ms:List Int) (t:Option AV),Va ms→Kp [p] σ σ'→Z5 p σ'→σ'[i]?=some (IL ms)→σ.length≤i→Y0 (fun l₁ σ₁=>vB (n-1) (.cons (.ret (.slot 4)) .nil) l₁ σ₁ (ZT Q) (Z2 X)) (ZT Q) .next [some (.obj p),some (.obj x),some (.int way),some (.int at_),some (.obj i)] σ':=fun σ' i ms t h1 h2 h3 h4 h5=>by
  walk_at "n"
  exact hQ σ' i ms h1 h2 h3 h4 h5
 have okSet:∀ v:Int,0≤v→v≤7→Va (ns.set at_.toNat v):=fun v h0 h7=>⟨fun q=>by rw [List.set_eq_nil_iff] at q;exact hne q,by simp;exact q4,fun a ha=>by
  rcases List.mem_or_eq_of_mem_set ha with q|q
  ·have:=hc a q;lia
  ·grind⟩
 have setFin:∀ v:Int,0≤v→v≤7→Y0 (fun l₁ σ₁=>vB (n-1) (.cons (.ret (.slot 4)) .nil) l₁ σ₁ (ZT Q) (Z2 X)) (ZT Q) .next [some (.obj p),some (.obj x),some (.int way),some (.int at_),some (.obj σ₂.length)] (σ₃.set σ₂.length (IL (ns.set at_.toNat v))):=fun v h0 h7=>
  fin _ _ _ none (okSet v h0 h7) (k13.set _ (.inr hle)) (p3.keep (Kp.refl.set (S:=[σ₂.length]) _ (.inl (by simp))) (by simp;lia)) (ZJ e3) hle
 walk_at "n"
 refine ZU (fun h=>?_) fun h=>?_
 ·walk_at "b"
  refine Z8 e3 a0 hcc (by exact q4) ?_
  walk_at "d"
  exact XT e3 a0 a1 (by exact q4) (Zl (setFin _ (by omega) (by exact Internal.qCh ‹_› (by decide))))
 walk_at "b"
 refine ZU (fun h=>?_) fun h=>?_
 ·walk_at "b"
  refine Z8 e3 a0 hcc (by exact q4) ?_
  walk_at "d"
  refine XT e3 a0 a1 (by exact q4) (Zl (Zl (setFin _ ?_ ?_)))
  ·split<;>omega
  ·split<;>omega
 walk_at "b"
 refine ZU (fun h=>?_) fun h=>?_
 ·walk_at "b"
  exact XT e3 a0 a1 (by exact q4) (Zl (Zl (Zl (setFin 0 (by decide) (by decide)))))
 walk_at "b"
 refine ZU (fun h=>?_) fun h=>?_
 ·walk_at "b"
  refine ⟨⟨_,e3⟩,Xn (by exact q2) p3 (by decide) (by decide) fun d σ₄ d0 d1 k4 p4 _=>?_⟩
  have e4:=k4.at e3 (by simp;lia)
  refine VE e4 (by exact q4) ?_
  rw [XA]
  refine Zl (Zl (Zl (Zl (fin _ _ _ none ⟨by simp,by simp;assumption,fun a ha=>?_⟩ ((k13.trans k4).set _ (.inr hle)) (p4.keep (Kp.refl.set (S:=[σ₂.length]) _ (.inl (by simp))) (by simp;grind)) (ZJ e4) hle))))
  rcases List.mem_append.mp ha with q|q
  ·have:=hc a q;lia
  ·have:=List.mem_singleton.mp q;grind
 have hlt3:=ZL e3
 have p3l:p≠σ₃.length:=by grind
 walk_at "b"
 refine ZU (fun h=>?_) fun h=>?_
 ·walk_at "b"
  refine JX (k13.at hx hxp') (fun k σ'=>σ'=σ₃++[IL (List.replicate k 0)]) (by simp) ?_ ?_ ?_
  ·rintro k σ' rfl
   exact Zh (k13.at hx hxp')
  ·rintro k σ' c hk rfl
   walk_at "d"
   refine ZA (W4 Zm (by have:=ZL hk;simp;exact Internal.qBz ‹_› ‹_› (by rfl)) ?_)
   rw [XA,← List.replicate_succ']
   exact WH
  ·rintro σ' rfl
   refine Zl (Zl (Zl (Zl (Zl (fin _ _ _ none ⟨by simp;assumption,by simp;exact q4,fun a ha=>?_⟩ (k13.app _) (p3.keep (Kp.refl.app (S:=[]) _)) Zm (by grind))))))
   have:=List.eq_of_mem_replicate ha;grind
 ·walk_at "b"
  refine Xk (k13.at hx hxp') (by exact q4) ⟨by exact qt (by decide),by rw [ZY];exact qu ‹_› (by decide),?_⟩
  rw [ZY]
  refine Ve (MX p σ σ₃) ⟨[],rfl,by simp,k13.app _,p3.keep (Kp.refl.app (S:=[]) _),by simp⟩ ?_ ?_
  ·rintro k σ' hk ⟨vs,v1,v2,kp,pp,e⟩
   walk_at "d"
   refine ZA (Xn (by exact q2) pp (by decide) (by decide) fun d σ₄ d0 d1 k4 p4 _=>?_)
   walk_at "d"
   have e4:=k4.at e (by simp;grind)
   have hif:∀ b:Bool,(if b=true then (1:Int) else 0)=1∨(if b=true then (1:Int) else 0)=0:=fun b=>by cases b<;>simp
   refine ⟨Vs (by rcases hif (decide (0+(k:Int)=at_)) with q|q<;>rw [q]<;>decide),W4 e4 (by omega) ?_⟩
   rw [XA]
   refine ⟨_,by simp;assumption,fun a ha=>?_,(kp.trans k4).set _ (.inr (by have:=k13.1;assumption)),p4.keep (Kp.refl.set (S:=[σ₃.length]) _ (.inl (by simp))) (by simp;assumption),ZJ e4⟩
   rcases List.mem_append.mp ha with q|q
   ·exact v2 a q
   ·rw [List.mem_singleton.mp q]
    rcases hif (decide (0+(k:Int)=at_)) with q|q<;>rw [q]<;>lia
  ·rintro σ' ⟨vs,v1,v2,kp,pp,e⟩
   refine Zl (Zl (Zl (Zl (Zl (fin _ _ vs none ⟨?_,by exact Internal.qBw ‹_› ‹_› (by rfl),v2⟩ kp pp e (by have:=k13.1;assumption))))))
   intro q
   rw [q] at v1
   simp at v1
   lia
noncomputable def Wb (L:Nat)(c:Int):Nat:=if 0<c then 2^(L-c.toNat) else 0
noncomputable def Yz (L:Nat)(ns:List Int):Nat:=(ns.map (Wb L)).sum
theorem ZgO {L:Nat}{ns:List Int}{k:Nat}{c:Int}(h:ns[k]?=some c):Yz L (ns.take (k+1))=Yz L (ns.take k)+Wb L c:=by
 rw [Xm h];simp [Yz]
theorem QK {n x L:Nat}{ns:List Int}{σ:List Za}{Q:Zq}{X:Zx}(hn:3≤n)(hx:σ[x]?=some (IL ns))(hL:L≤100)(hc:∀ c∈ns,c≤L)(hQ:Q (.int (Yz L ns)) σ):WF n 408 [.obj x,.int L] σ Q X:=by
 refine WF.mini [_,_] ZaP Ze9 ZdR .nil ‹_› ?_
 walk_at "b"
 walk_at "n"
 refine Vr hx (fun k l σ'=>∃ tv,l=[some (.obj x),some (.int L),some (.int (Yz L (ns.take k))),tv]∧σ'=σ) ⟨none,rfl,rfl⟩ ?_ ?_ ?_
 ·rintro k l σ' ⟨tv,rfl,rfl⟩
  exact hx
 ·rintro k l σ' c hk ⟨tv,rfl,rfl⟩
  have hcL:=hc c (List.mem_of_getElem? hk)
  have e:=ZgO (L:=L) hk
  walk_at "b"
  refine ZU (fun h=>?_) fun h=>ZK (Zl (ZF ⟨some (.int c),?_,rfl⟩))
  ·walk_at "b"
   have hb:intBits 1≤200:=WV (by decide)
   refine ⟨by lia,by omega,Zl (Zl (ZF ⟨some (.int c),?_,rfl⟩))⟩
   have:((Yz L (ns.take k):Nat):Int)+1*2^((L:Int)-c).toNat=((Yz L (ns.take (k+1)):Nat):Int):=by
    rw [e,show ((L:Int)-c).toNat=L-c.toNat from qDc h,Wb,if_pos h]
    push_cast
    simp
   rw [this]
  ·rw [e,Wb,if_neg h];rfl
 ·rintro l σ' ⟨tv,rfl,rfl⟩
  rw [List.take_length]
  walk_at "n"
  exact hQ
noncomputable def Yd (ns:List Int):List Int:=ns.filter fun c=>decide (0<c)
noncomputable def Y7 (L:Nat)(ns:List Int)(lone:Bool):Bool:=(lone&&(decide (Yd ns=[])||decide (Yd ns=[1])))||(!decide (Yd ns=[])&&decide (((Yz L ns:Nat):Int)=1*2^((L:Int)).toNat))
theorem NY {σ:List Za}{x y:Nat}{ns ms:List Int}{P:Bool→Prop}(hx:σ[x]?=some (IL ns))(hy:σ[y]?=some (IL ms))(q:P (decide (ns=ms))):YC .eq (.obj x) (.obj y) σ P:=⟨.inl rfl,.inl ⟨ns,ms,hx,hy,q⟩⟩
theorem Zd0 {σ:List Za}{x y:Nat}{ns ms:List Int}{P:Bool→Prop}(hx:σ[x]?=some (IL ns))(hy:σ[y]?=some (IL ms))(q:P (!decide (ns=ms))):YC .ne (.obj x) (.obj y) σ P:=⟨.inr rfl,.inl ⟨ns,ms,hx,hy,q⟩⟩
theorem SP {σ:List Za}{a b:Int}{P:Bool→Prop}(q:P (decide (a=b))):YC .eq (.int a) (.int b) σ P:=q
theorem Zhk {n x L:Nat}{ns:List Int}{lone:Bool}{σ:List Za}{Q:Zq}{X:Zx}(hn:4≤n)(hx:σ[x]?=some (IL ns))(hl:ns.length≤1000)(hL:L≤100)(hc:∀ c∈ns,c≤L)(hQ:∀ σ',Kp [] σ σ'→Q (.bool (Y7 L ns lone)) σ'):WF n 413 [.obj x,.int L,.bool lone] σ Q X:=by
 refine WF.mini [_] ZaK Ze4 ZdM .nil (by exact Nat.le_of_lt ‹_›) ?_
 walk_at "b"
 refine JX hx (fun k σ'=>σ'=σ++[IL (Yd (ns.take k))]) rfl ?_ ?_ ?_
 ·rintro k σ' rfl
  exact Zh hx
 ·rintro k σ' c hk rfl
  have e:=ZgZ hk fun c=>decide (0<c)
  walk_at "d"
  refine ZU (fun h=>ZA ?_) fun h=>ZI ?_
  ·rw [decide_eq_true h,if_pos rfl] at e
   refine W4 Zm ?_ ?_
   ·have:=List.length_filter_le (fun c=>decide (0<c)) (ns.take k)
    have:=(List.take_sublist k ns).length_le
    unfold Yd;lia
   rw [XA]
   unfold Yd
   rw [e]
   exact WH
  ·rw [decide_eq_false h,if_neg (by decide)] at e
   unfold Yd
   rw [e,List.append_nil]
 rintro σ' rfl
 rw [List.take_length]
 have Xd:∀ σ':List Za,Kp [] (σ++[IL (Yd ns)]) σ'→(lone&&(decide (Yd ns=[])||decide (Yd ns=[1])))=false→Y0 (fun l₁ σ₁=>vB (n-1) (.cons (.ret (.bools .And (.cons (.cmp (.slot 3) (.one .ne (.list .nil))) (.cons (.cmp (.call 408 (.cons (.slot 0) (.cons (.slot 1) .nil))) (.one .eq (.bin .shl (.const (.int 1)) (.slot 1)))) .nil)))) .nil) l₁ σ₁ (ZT Q) (Z2 X)) (ZT Q) .next
   [some (.obj x),some (.int L),some (.bool lone),some (.obj σ.length)] σ':=fun σ' k hb=>by
  have k0:Kp [] σ σ':=(Kp.refl.app _).trans k
  have hq:∀ σ'',Kp [] σ' σ''→∀ b:Bool,Y7 L ns lone=b→Q (.bool b) σ'':=fun σ'' k b e=>e▸hQ _ (k0.trans k)
  have eu:=k.at (Zm (σ:=σ) (o:=IL (Yd ns)))
  (with_reducible refine Jn ?_;dsimp only [TX,TY,vS,vE,vEs,vI,vT,vC,vA,vAt,vH,GL,Jr,W6,Vp,Xh,Wt,UO,Vy,Vd,Xx,ZZ,Z3,Wi,W3,X6,Xe,XZ,Wq,X0,List.reverse,List.reverseAux,List.length_cons,List.length_nil,List.cons_append,List.nil_append])
  refine ⟨ZD,Zd0 (ns:=Yd ns) (ms:=[]) (Zh eu) Zm ?_⟩
  refine Xz (fun h=>?_) fun h=>?_
  ·refine QK (by exact q2) (Zh (k0.at hx)) hL hc ?_
   have hb1:intBits 1≤200:=WV (by decide)
   refine ⟨by exact Int.natCast_nonneg _,by lia,SP ?_⟩
   refine hq _ (Kp.refl.app _) _ ?_
   unfold Y7
   rw [hb,decide_eq_false h]
   rfl
  ·refine hq _ (Kp.refl.app _) _ ?_
   unfold Y7
   rw [hb,decide_eq_true h]
   rfl
 have one:∀ σ':List Za,Kp [] (σ++[IL (Yd ns)]) σ'→Y7 L ns lone=true→vB (n-1) (.cons (.ret (.const (.bool true))) .nil) [some (.obj x),some (.int L),some (.bool lone),some (.obj σ.length)] σ' (Y0 (fun l₁ σ₁=>vB (n-1) (.cons (.ret (.bools .And (.cons (.cmp (.slot 3) (.one .ne (.list .nil))) (.cons (.cmp (.call 408 (.cons (.slot 0) (.cons (.slot 1) .nil))) (.one .eq (.bin .shl (.const (.int 1)) (.slot 1)))) .nil)))) .nil) l₁ σ₁ (ZT Q) (Z2 X)) (ZT Q)) (Z2 X):=fun σ' k hb=>by
  walk_at "b"
  have:=hQ _ ((Kp.refl.app _).trans k)
  rw [hb] at this
  exact this
 (with_reducible refine Jn ?_;dsimp only [TX,TY,vS,vE,vEs,vI,vT,vC,vA,vAt,vH,GL,Jr,W6,Vp,Xh,Wt,UO,Vy,Vd,Xx,ZZ,Z3,Wi,W3,X6,Xe,XZ,Wq,X0,List.reverse,List.reverseAux,List.length_cons,List.length_nil,List.cons_append,List.nil_append])
 cases lone with
|false=>exact ZI (ZI (ZK (Xd _ Kp.refl rfl)))
|true=>
  refine ZA ⟨ZD,NY (ns:=Yd ns) (ms:=[]) (Zh Zm) Zm ?_⟩
  refine Xz (fun h=>?_) fun h=>?_
  ·refine ⟨ZD,NY (ns:=Yd ns) (ms:=[1]) (Zh (Zh Zm)) Zm ?_⟩
   refine Xz (fun h'=>?_) fun h'=>?_
   ·refine ZI (ZI (ZK (Xd _ ((Kp.refl.app _).app _) ?_)))
    rw [decide_eq_false h,decide_eq_false h']
    rfl
   ·refine ZA (ZA (one _ ((Kp.refl.app _).app _) ?_))
    unfold Y7
    rw [decide_eq_true h']
    simp
  ·refine ZA (ZA (one _ (Kp.refl.app _) ?_))
   unfold Y7
   rw [decide_eq_true h]
   simp
theorem QA {n x L:Nat}{ns:List Int}{lone:Bool}{σ:List Za}{Q:Zq}{X:Zx}(hn:5≤n)(hx:σ[x]?=some (IL ns))(hL:L≤100)(hl:ns.length≤1000)(hs:∀ c∈ns,c.natAbs<2^64)
  (hT:ZO L ns→Yc L ns lone=true→∀ σ',Kp [] σ σ'→Q (.bool true) σ') (hF:(ZO L ns→Yc L ns lone=false)→∀ σ',Kp [] σ σ'→Q (.bool false) σ'):WF n 420 [.obj x,.int L,.bool lone] σ Q X:=by
 refine WF.mini [] ZaF ZeZ ZdH .nil (by exact q1) ?_
 walk_at "b"
 walk_at "b"
 refine Qz (by exact q2) hx hL hl hs (fun h1 h2 σ' k=>?_) fun h σ' k=>?_
 ·walk_at "d"
  refine Zl ?_
  walk_at "n"
  exact hT h1 h2 _ k
 ·refine ZA ?_
  exact hF h _ k
noncomputable def Wl (ns:List Int)(L:Nat):Nat→Nat
|0=>0
|l+1=>Wl ns L l+if l=0 then 0 else ns.count (l:Int)*2^(L-l)
theorem ZgP (ns:List Int)(L l:Nat):Wl ns L (l+1)=Wl ns L l+if l=0 then 0 else ns.count (l:Int)*2^(L-l):=rfl
noncomputable def ZV (v l:Nat):List Nat:=(List.range l).map fun i=>48+v / 2^(l-1-i) % 2
noncomputable def Xv (ns:List Int)(s:Nat):Nat:=(ns.getD s 0).toNat
noncomputable def XI (ns:List Int)(L s:Nat):Nat:=(Wl ns L (Xv ns s)+(ns.take s).count (Xv ns s:Int)*2^(L-Xv ns s)) / 2^(L-Xv ns s)
noncomputable def Xg (ns:List Int)(L s:Nat):Int×List Nat:=((s:Int),ZV (XI ns L s) (Xv ns s))
noncomputable def XD (ns:List Int)(l j:Nat):List Nat:=(List.range j).filter fun s=>decide (ns.getD s 0=(l:Int))
noncomputable def Y6 (ns:List Int)(k:Nat):List Nat:=(List.range k).flatMap fun i=>XD ns (i+1) ns.length
theorem UN {ns:List Int}{l j s:Nat}:s∈XD ns l j↔s<j∧ns.getD s 0=(l:Int):=by simp [XD]
theorem UM {ns:List Int}{k s:Nat}:s∈Y6 ns k↔∃ i,i<k∧s<ns.length∧ns.getD s 0=((i+1:Nat):Int):=by
 unfold Y6
 rw [List.mem_flatMap]
 constructor
 ·rintro ⟨i,h1,h2⟩
  exact ⟨i,List.mem_range.mp h1,UN.mp h2⟩
 ·rintro ⟨i,h1,h2⟩
  exact ⟨i,List.mem_range.mpr h1,UN.mpr h2⟩
theorem JQ {ns:List Int}{k:Nat}:Y6 ns (k+1)=Y6 ns k++XD ns (k+1) ns.length:=by simp [Y6,List.range_succ]
theorem ZgY {ns:List Int}{l j:Nat}{c:Int}(h:ns[j]?=some c):XD ns l (j+1)=XD ns l j++if c=l then [j] else []:=by
 unfold XD
 rw [List.range_succ,List.filter_append]
 congr 1
 have:=YS h
 by_cases e:c=l
 ·rw [if_pos e];subst e;rw [List.filter_cons,this,if_pos (by simp)];rfl
 ·rw [if_neg e,List.filter_cons,this,if_neg (by simpa using e)];rfl
theorem Qo {ns:List Int}{l j:Nat}:(XD ns l j).Nodup:=List.Pairwise.filter _ List.nodup_range
theorem JP {ns:List Int}:∀ k,(Y6 ns k).Nodup
|0=>by simp [Y6]
|k+1=>by
  rw [JQ]
  refine List.nodup_append.mpr ⟨JP k,Qo,fun a ha b hb e=>?_⟩
  subst e
  obtain ⟨i,h1,h2,h3⟩:=UM.mp ha
  obtain ⟨h4,h5⟩:=UN.mp hb
  omega
theorem Zem {ns:List Int}{k j:Nat}:(Y6 ns k++XD ns (k+1) j).Nodup:=by
 refine List.nodup_append.mpr ⟨JP k,Qo,fun a ha b hb e=>?_⟩
 subst e
 obtain ⟨i,h1,h2,h3⟩:=UM.mp ha
 obtain ⟨h4,h5⟩:=UN.mp hb
 grind
theorem Qn {ns:List Int}{l j:Nat}:(XD ns l j).length≤j:=by
 have:=List.length_filter_le (fun s=>decide (ns.getD s 0=(l:Int))) (List.range j)
 rw [List.length_range] at this
 exact this
theorem JO {ns:List Int}:∀ k,(Y6 ns k).length≤k*ns.length
|0=>by simp [Y6]
|k+1=>by
  rw [JQ,List.length_append,Nat.succ_mul]
  exact Nat.add_le_add (JO k) Qn
noncomputable abbrev DI (ds:List (Int×List Nat))(ep:Nat):Za:=.dict (ds.map fun d=>(d.1,.str d.2)) ep
theorem Ww {ds:List (Int×List Nat)}:(ds.map fun d=>(d.1,AV.str d.2)).map Prod.fst=ds.map Prod.fst:=by simp
theorem Hr {ns:List Int}{L:Nat}{l:List Nat}:(l.map (Xg ns L)).map Prod.fst=l.map fun (s:Nat)=>(s:Int):=by
 rw [List.map_map];rfl
theorem Cb {l:List Nat}(h:l.Nodup):(l.map fun (s:Nat)=>(s:Int)).Nodup:=by
 rw [List.Nodup,List.pairwise_map]
 exact h.imp fun h e=>h (by exact_mod_cast e)
theorem Gd {a:Nat}:Builtin.bitAnd (a:Int) 1=((a % 2:Nat):Int):=by rw [bitAnd_m1];rfl
theorem Jf {σ:List Za}{x:Nat}{vs:List AV}{R:List AV→Prop}(hx:σ[x]?=some (.list vs))(hl:vs.length<1000000)(q:R vs):∃ ls,σ[x]?=some (.list ls)∧ls.length<1000000∧R ls:=⟨_,hx,hl,q⟩
noncomputable abbrev SL (rs:List (List Nat)):Za:=.list (rs.map .str)
theorem Jk {rs:List (List Nat)}{r:List Nat}:rs.map AV.str++[.str r]=(rs++[r]).map .str:=by simp
theorem UB {α:Type}{f:α→Nat}{l:List α}:(l.map fun x=>[f x]).flatten=l.map f:=by
 induction l with
|nil=>rfl
|cons a l ih=>simp [ih]
theorem DX {α:Type}{f:Nat→α}{i:Nat}:(List.range i).map f++[f i]=(List.range (i+1)).map f:=by rw [List.range_succ,List.map_append];rfl
theorem Hq {σ:List Za}{x:Nat}{rs:List (List Nat)}{R:List (List Nat)→Prop}(hx:σ[x]?=some (SL rs))(hl:rs.flatten.length≤1000000)(q:R rs):∃ ls:List (List Nat),σ[x]?=some (.list (ls.map .str))∧ls.flatten.length≤1000000∧R ls:=⟨rs,hx,hl,q⟩
theorem Zd4 {σ:List Za}{x:Nat}{k:Int}{v:List Nat}{ds:List (Int×List Nat)}{ep:Nat}{Q:List Za→Prop}(hx:σ[x]?=some (DI ds ep))(hn:(ds.map Prod.fst).Nodup)(hk:k∉ds.map Prod.fst)(hl:ds.length≤1000000)(q:∀ ep',Q (σ.set x (DI (ds++[(k,v)]) ep'))):Vz (.obj x) (.int k) (.str v) σ Q:=
 .inr ⟨_,ep,hx,by rw [Ww];exact hn,by rw [Ww];exact hk,by simpa using hl,fun ep'=>by
  rw [show (ds.map fun d=>(d.1,AV.str d.2))++[(k,AV.str v)]=(ds++[(k,v)]).map fun d=>(d.1,AV.str d.2) by simp]
  exact q ep'⟩
inductive MY (L:Nat)(ns:List Int)(x:Nat)(σ:List Za)(k:Nat)(loc:Zc)(σ':List Za):Prop
|mk (t1 t2 t3 t4:Option AV) (ep:Nat):(loc=[some (.obj x),some (.int L),some (.obj σ.length),some (.int (Wl ns L (k+1))),t1,t2,t3,t4])→(Kp [] σ σ')→(σ'[σ.length]?=some (DI ((Y6 ns k).map (Xg ns L)) ep))→MY L ns x σ k loc σ'
inductive MZ (L:Nat)(k:Nat)(ns:List Int)(x:Nat)(σ:List Za)(j:Nat)(loc:Zc)(σ':List Za):Prop
|mk (t2 t3 t4:Option AV) (ep:Nat):(loc=[some (.obj x),some (.int L),some (.obj σ.length),some (.int ((Wl ns L (k+1)+(ns.take j).count ((k+1:Nat):Int)*2^(L-(k+1)):Nat):Int)),some (.int (1+k)),t2,t3,t4])→(Kp [] σ σ')→(σ'[σ.length]?=some (DI ((Y6 ns k++XD ns (k+1) j).map (Xg ns L)) ep))→MZ L k ns x σ j loc σ'
theorem QD {n x L:Nat}{ns:List Int}{σ:List Za}{Q:Zq}{X:Zx}(hn:3≤n)(hx:σ[x]?=some (IL ns))(hL:L≤20)(hl:ns.length≤100)(hc:∀ c∈ns,0≤c∧c≤L)
  (hQ:∀ σ' i ep,Kp [] σ σ'→σ'[i]?=some (DI ((Y6 ns L).map (Xg ns L)) ep)→σ.length≤i→Q (.obj i) σ'):WF n 425 [.obj x,.int L] σ Q X:=by
 refine WF.mini [_,_,_,_,_,_] ZaG Ze0 ZdI .nil ‹_› ?_
 walk_at "b"
 intro ep0
 refine ⟨rfl,ZD,?_⟩
 walk_at "n"
 refine ⟨by decide,by decide,by exact qt (by decide),by lia,?_⟩
 rw [show ((L:Int)+1-1).toNat=L by exact qj]
 refine WD (MY L ns x σ) ⟨none,none,none,none,ep0,rfl,(Kp.refl.app _).app _,by simp [Y6]⟩ ?_ ?_
 ·rintro k loc σ' hk ⟨t1,t2,t3,t4,ep,rfl,kp,e⟩
  walk_at "b"
  refine BU (ns:=ns) (kp.at hx) (MZ L k ns x σ) ⟨t2,t3,t4,ep,by simp,kp,by simpa [XD] using e⟩ ?_ ?_ ?_
  ·rintro j loc σ' ⟨t2,t3,t4,ep,rfl,kp,e⟩
   exact kp.at hx
  ·rintro j loc σ' c hj ⟨t2,t3,t4,ep,rfl,kp,e⟩
   have hcj:=hc c (List.mem_of_getElem? hj)
   have hjl:=ZL hj
   have hdj:=YS hj
   have hcs:=Vf hj ((k+1:Nat):Int)
   have hss:=ZgY (l:=k+1) hj
   walk_at "b"
   refine ZU (fun h=>?_) fun h=>?_
   ·have hck:c=((k+1:Nat):Int):=by exact Internal.qCj ‹_›
    rw [if_pos hck] at hss
    rw [if_pos hck.symm] at hcs
    have hln:Xv ns j=k+1:=by unfold Xv;rw [hdj];grind
    walk_at "b"
    refine ⟨by lia,?_⟩
    have epl:(((Wl ns L (k+1)+(ns.take j).count ((k+1:Nat):Int)*2^(L-(k+1)):Nat):Int)).fdiv (2^((L:Int)-(1+(k:Int))).toNat)=((XI ns L j:Nat):Int):=by
     rw [show ((L:Int)-(1+(k:Int))).toNat=L-(k+1) by exact Internal.qB _ _,X3]
     unfold XI
     rw [hln]
    rw [epl]
    walk_at "n"
    refine ⟨trivial,by exact qt (by decide),by grind,?_⟩
    rw [show (1+(k:Int)).toNat=k+1 by exact ql]
    refine Ve (fun i σ''=>σ''=σ'++[SL ((List.range i).map fun i=>[48+XI ns L j / 2^(k+1-1-i) % 2])]) rfl ?_ ?_
    ·rintro i σ'' hi rfl
     walk_at "d"
     refine ZA ⟨by lia,?_⟩
     rw [show (1+(k:Int)-1-(0+(i:Int))).toNat=k+1-1-i by exact Internal.qA _ _,X3]
     rw [Gd,Int.toNat_natCast]
     refine ⟨by exact Internal.qG _,Jf Zm ?_ ?_⟩
     ·simp;lia
     have er:=DX (f:=fun i=>[48+XI ns L j / 2^(k+1-1-i) % 2]) (i:=i)
     rw [Jk,er]
     exact WH
    ·rintro σ'' rfl
     have efl:((List.range (k+1)).map fun i=>[48+XI ns L j / 2^(k+1-1-i) % 2]).flatten=ZV (XI ns L j) (k+1):=by
      unfold ZV
      exact UB
     refine Hq Zm (by rw [efl];simp [ZV];exact Internal.qBy ‹_› ‹_› (by rfl)) ?_
     rw [efl]
     have e':=Zh (γ:=[SL ((List.range (k+1)).map fun i=>[48+XI ns L j / 2^(k+1-1-i) % 2])]) e
     refine Zd4 e' (by rw [Hr];exact Cb Zem) ?_ ?_ fun ep'=>?_
     ·rw [Hr]
      intro hm
      obtain ⟨s,hs,hsj⟩:=List.mem_map.mp hm
      have hsj':s=j:=by exact_mod_cast hsj
      subst hsj'
      rcases List.mem_append.mp hs with q|q
      ·obtain ⟨i,q1,q2,q3⟩:=UM.mp q
       rw [hdj] at q3;lia
      ·have:=(UN.mp q).1;grind
     ·rw [List.length_map,List.length_append]
      have h1:=JO (ns:=ns) k
      have h2:=Qn (ns:=ns) (l:=k+1) (j:=j)
      have h3:k*ns.length≤20*100:=Nat.mul_le_mul (by exact Nat.le_of_lt (Nat.lt_of_lt_of_le ‹_› ‹_›)) hl
      lia
     ·walk_at "n"
      have hb1:intBits 1≤200:=WV (by decide)
      refine ⟨by lia,by grind,Zl (Zl (ZF ⟨some (.int j),some (.int c),some (.int (XI ns L j)),ep',?_,(kp.app _).set _ (.inr (Nat.le_refl _)),?_⟩))⟩
      ·have:((Wl ns L (k+1)+(ns.take j).count ((k+1:Nat):Int)*2^(L-(k+1)):Nat):Int)+1*2^((L:Int)-(1+(k:Int))).toNat=((Wl ns L (k+1)+(ns.take (j+1)).count ((k+1:Nat):Int)*2^(L-(k+1)):Nat):Int):=by
        rw [show ((L:Int)-(1+(k:Int))).toNat=L-(k+1) by exact Internal.qB _ _]
        have:(ns.take (j+1)).count ((k+1:Nat):Int)=(ns.take j).count ((k+1:Nat):Int)+1:=by grind
        rw [this,Nat.add_mul]
        push_cast
        simp +arith
       rw [this]
      ·rw [ZJ e',hss,← List.append_assoc,List.map_append (l₁:=Y6 ns k++XD ns (k+1) j)]
       have:([j].map (Xg ns L))=[((j:Int),ZV (XI ns L j) (k+1))]:=by
        simp only [List.map_cons,List.map_nil,Xg,hln]
       rw [this]
   ·have hck:¬ c=((k+1:Nat):Int):=by lia
    rw [if_neg hck,List.append_nil] at hss
    rw [if_neg (fun q=>hck q.symm)] at hcs
    refine ZK (Zl (ZF ⟨some (.int j),some (.int c),t4,ep,?_,kp,?_⟩))
    ·have:(ns.take (j+1)).count ((k+1:Nat):Int)=(ns.take j).count ((k+1:Nat):Int):=by lia
     rw [this]
    ·rw [hss];exact e
  ·rintro loc σ' ⟨t2,t3,t4,ep,rfl,kp,e⟩
   refine Zl (ZF ⟨some (.int (1+k)),t2,t3,t4,ep,?_,kp,?_⟩)
   ·rw [List.take_length]
    rfl
   ·rw [JQ];exact e
 ·rintro loc σ' ⟨t1,t2,t3,t4,ep,rfl,kp,e⟩
  walk_at "n"
  exact hQ _ _ ep kp e (Nat.le_refl _)
noncomputable def Ys:Nat→List (List Nat)
|0=>[[]]
|t+1=>(Ys t).flatMap fun r=>[r++[48],r++[49]]
theorem D7 (t:Nat):Ys (t+1)=(Ys t).flatMap fun r=>[r++[48],r++[49]]:=rfl
theorem Qb:∀ t,(Ys t).length=2^t
|0=>rfl
|t+1=>by
  rw [D7,List.length_flatMap]
  have:((Ys t).map fun r=>[r++[48],r++[49]].length).sum=(Ys t).length*2:=by
   generalize Ys t=l
   induction l with
  |nil=>rfl
  |cons a l ih=>simp at ih ⊢;grind
  rw [this,Qb t,Nat.pow_succ]
theorem Jh:∀ t,∀ r∈Ys t,r.length=t
|0,r,h=>by cases List.mem_singleton.mp h;rfl
|t+1,r,h=>by
  rw [D7,List.mem_flatMap] at h
  obtain ⟨a,h1,h2⟩:=h
  have:=Jh t a h1
  simp at h2
  rcases h2 with rfl|rfl<;>simp [this]
theorem St {σ σs:List Za}{m:Nat}{B:(Nat→List Za→Prop)→Nat→List Za→List AV→Prop}{D:List Za→Prop}{x ep:Nat}{ds:List (Int×List Nat)}(hx:σs[x]?=some (DI ds ep))(hn:(ds.map Prod.fst).Nodup)(I:Nat→List Za→Prop)(h0:I 0 σ)(hs:∀ k σ',I k σ'→σ'[x]?=some (DI ds ep))
  (step:∀ k σ' d,ds[k]?=some d→I k σ'→B I k σ' [.int d.1]) (done:∀ σ',I ds.length σ'→D σ') (hm:m=1:=by rfl) :
  ∃ it,XQ (.obj x) σs it∧YZ it=true∧∃ (i0z:List (List AV)) (I:Nat→List Za→Prop),(∀ avs∈i0z,avs.length=m)∧I 0 σ∧(∀ k σ',k≤i0z.length→I k σ'→Z0 it σ' i0z)∧(∀ k σ' avs,i0z[k]?=some avs→I k σ'→B I k σ' avs)∧∀ σ',I i0z.length σ'→D σ':=
 ⟨.dct x ds.length ep,.inr (.inr ⟨_,_,hx,by rw [Ww];exact hn,by simp⟩),rfl,ds.map fun d=>[.int d.1],I,by
  rw [hm]
  intro avs h
  obtain ⟨v,_,rfl⟩:=List.mem_map.mp h
  rfl,h0,fun k σ' _ hI=>⟨_,hs k σ' hI,by simp,by rw [Ww];exact hn,by simp⟩,fun k σ' avs h hI=>by
  rw [List.getElem?_map] at h
  obtain ⟨c,h1,rfl⟩:=Option.map_eq_some_iff.mp h
  exact step k σ' c h1 hI,fun σ' hI=>done σ' (by simpa using hI)⟩
theorem BS {σ:List Za}{l:Zc}{m:Nat}{B:(Nat→Zc→List Za→Prop)→Nat→Zc→List Za→List AV→Prop}{D:Zc→List Za→Prop}{x ep:Nat}{ds:List (Int×List Nat)}(hx:σ[x]?=some (DI ds ep))(hn:(ds.map Prod.fst).Nodup)(I:Nat→Zc→List Za→Prop)(h0:I 0 l σ)(hs:∀ k l σ',I k l σ'→σ'[x]?=some (DI ds ep))
  (step:∀ k l σ' d,ds[k]?=some d→I k l σ'→B I k l σ' [.int d.1]) (done:∀ l σ',I ds.length l σ'→D l σ') (hm:m=1:=by rfl) :
  ∃ it,XQ (.obj x) σ it∧∃ (i0z:List (List AV)) (I:Nat→Zc→List Za→Prop),(∀ avs∈i0z,avs.length=m)∧I 0 l σ∧(∀ k l σ',k≤i0z.length→I k l σ'→Z0 it σ' i0z)∧(∀ k l σ' avs,i0z[k]?=some avs→I k l σ'→B I k l σ' avs)∧∀ l σ',I i0z.length l σ'→D l σ':=
 ⟨.dct x ds.length ep,.inr (.inr ⟨_,_,hx,by rw [Ww];exact hn,by simp⟩),VS (i0z:=ds.map fun d=>[.int d.1]) I (by
  rw [hm]
  intro avs h
  obtain ⟨v,_,rfl⟩:=List.mem_map.mp h
  rfl) h0 (fun k l σ' _ hI=>⟨_,hs k l σ' hI,by simp,by rw [Ww];exact hn,by simp⟩) (fun k l σ' avs h hI=>by
  rw [List.getElem?_map] at h
  obtain ⟨c,h1,rfl⟩:=Option.map_eq_some_iff.mp h
  exact step k l σ' c h1 hI) fun l σ' hI=>done l σ' (by simpa using hI)⟩
theorem Sv {σ σs:List Za}{B:(Nat→List Za→Prop)→Nat→List Za→AV→Prop}{D:List Za→Prop}{x:Nat}{ls:List AV}(hx:σs[x]?=some (.list ls))(I:Nat→List Za→Prop)(h0:I 0 σ)(hs:∀ k σ',I k σ'→σ'[x]?=some (.list ls))
  (step:∀ k σ' v,ls[k]?=some v→I k σ'→B I k σ' v) (done:∀ σ',I ls.length σ'→D σ') :
  ∃ it,XQ (.obj x) σs it∧YZ it=true∧∃ (i0z:List (List AV)) (I:Nat→List Za→Prop),(∀ avs∈i0z,avs.length=1)∧I 0 σ∧(∀ k σ',k≤i0z.length→I k σ'→Z0 it σ' i0z)∧(∀ k σ' av,i0z[k]?=some [av]→I k σ'→B I k σ' av)∧∀ σ',I i0z.length σ'→D σ':=
 ⟨.lst x,.inl ⟨_,hx,rfl⟩,rfl,ls.map fun v=>[v],I,GI,h0,fun k σ' _ hI=>⟨ls,hs k σ' hI,rfl⟩,fun k σ' av h hI=>by
  rw [List.getElem?_map] at h
  obtain ⟨v,h1,h2⟩:=Option.map_eq_some_iff.mp h
  cases h2
  exact step k σ' _ h1 hI,fun σ' hI=>done σ' (by simpa using hI)⟩
theorem BR:∀ {ds:List (Int×List Nat)} {d:Int×List Nat},(ds.map Prod.fst).Nodup→d∈ds→(ds.map fun d=>(d.1,AV.str d.2)).lookup d.1=some (.str d.2)
|a::ds,d,hn,h=>by
  rw [List.map_cons] at hn ⊢
  have hn':=List.nodup_cons.mp hn
  rw [List.lookup_cons]
  rcases List.mem_cons.mp h with q|q
  ·subst q;simp
  ·have:(d.1==a.1)=false:=by
    rw [beq_eq_false_iff_ne]
    intro e
    exact hn'.1 (by rw [← e];exact List.mem_map_of_mem q)
   rw [this]
   exact BR hn'.2 q
theorem VP {σ:List Za}{x ep:Nat}{ds:List (Int×List Nat)}{d:Int×List Nat}{Q:Zq}(hx:σ[x]?=some (DI ds ep))(hn:(ds.map Prod.fst).Nodup)(hd:d∈ds)(q:Q (.str d.2) σ):X5 (.obj x) (.int d.1) σ Q:=
 .inr ⟨_,ep,hx,by rw [Ww];exact hn,_,BR hn hd,q⟩
noncomputable def XM (r:List Nat)(ds:List (Int×List Nat)):List (Int×List Nat):=ds.filter fun d=>decide (r.take d.2.length=d.2)
theorem ZbO {r:List Nat}{ds:List (Int×List Nat)}{k:Nat}{d:Int×List Nat}(h:ds[k]?=some d):XM r (ds.take (k+1))=XM r (ds.take k)++if r.take d.2.length=d.2 then [d] else []:=by
 unfold XM
 rw [Xm h,List.filter_append]
 by_cases e:r.take d.2.length=d.2
 ·rw [if_pos e,List.filter_cons,if_pos (by simpa using e)];rfl
 ·rw [if_neg e,List.filter_cons,if_neg (by simpa using e)];rfl
inductive M0 (L:Nat)(x:Nat)(σ:List Za)(k:Nat)(loc:Zc)(σ':List Za):Prop
|mk (g:Nat) (t3 t4:Option AV):(loc=[some (.obj x),some (.int L),some (.obj g),t3,t4])→(Kp [] σ σ')→(σ'[g]?=some (SL (Ys k)))→M0 L x σ k loc σ'
theorem Zhf {n x ep L:Nat}{ds:List (Int×List Nat)}{σ:List Za}{Q:Zq}{X:Zx}(hn:3≤n)(hx:σ[x]?=some (DI ds ep))(hnd:(ds.map Prod.fst).Nodup)(hdl:ds.length≤1000)(hds:∀ d∈ds,d.2.length≤1000)(hL:L≤6)(hok:∀ r∈Ys L,(XM r ds).length=1)
  (hQ:∀ σ',Kp [] σ σ'→Q (.bool true) σ'):WF n 430 [.obj x,.int L] σ Q X:=by
 refine WF.mini [_,_,_] ZaI Ze2 ZdK .nil ‹_› ?_
 walk_at "b"
 refine ⟨ZD,?_⟩
 walk_at "n"
 refine ⟨by exact qt (by decide),by exact qu ‹_› (by decide),?_⟩
 rw [Int.toNat_natCast]
 refine WD (M0 L x σ) ⟨σ.length,none,none,rfl,Kp.refl.app _,List.getElem?_concat_length⟩ ?_ ?_
 ·rintro k loc σ' hk ⟨g,t3,t4,rfl,kp,e⟩
  have hlen:(Ys k).length≤64:=by
   rw [Qb]
   exact Nat.le_trans (Nat.pow_le_pow_right (by decide) (by exact Nat.le_of_lt (Nat.lt_of_lt_of_le ‹_› ‹_›):k≤6)) (by decide)
  walk_at "b"
  refine Sv e (fun j σ''=>Kp [] σ' σ''∧σ''[σ'.length]?=some (SL (((Ys k).take j).flatMap fun r=>[r++[48],r++[49]]))) ⟨Kp.refl.app [.list []],by simp⟩ ?_ ?_ ?_
  ·rintro j σ'' ⟨k2,e2⟩
   exact k2.at e
  ·rintro j σ'' v hv ⟨k2,e2⟩
   rw [List.getElem?_map] at hv
   obtain ⟨r,hr,rfl⟩:=Option.map_eq_some_iff.mp hv
   have hrl:=Jh k r (List.mem_of_getElem? hr)
   have hj:=ZL hr
   have hfl:(((Ys k).take j).flatMap fun r=>[r++[48],r++[49]]).length≤2*64:=by
    rw [List.length_flatMap]
    have:((((Ys k).take j)).map fun r=>[r++[48],r++[49]].length).sum=((Ys k).take j).length*2:=by
     generalize (Ys k).take j=l
     induction l with
    |nil=>rfl
    |cons a l ih=>simp at ih ⊢;grind
    rw [this]
    have:=(List.take_sublist j (Ys k)).length_le
    lia
   walk_at "d"
   refine ⟨_,⟨by decide,rfl⟩,rfl,[[.str [48]],[.str [49]]],fun i σ₃=>Kp [] σ' σ₃∧σ₃[σ'.length]?=some (SL ((((Ys k).take j).flatMap fun r=>[r++[48],r++[49]])++([[48],[49]].take i).map fun s=>r++s)),by simp,⟨k2,by simpa using e2⟩,fun _ _ _ _=>rfl,?_,?_⟩
   ·rintro i σ₃ bvs hb ⟨k3,e3⟩
    obtain ⟨s,hs,rfl⟩:∃ s,[[48],[49]][i]?=some s∧bvs=[.str s]:=by
     match i,hb with
    |0,h=>cases h;exact ⟨_,rfl,rfl⟩
    |1,h=>cases h;exact ⟨_,rfl,rfl⟩
    |i+2,h=>cases h
    have hsl:s.length=1:=by
     match i,hs with
    |0,h=>cases h;rfl
    |1,h=>cases h;rfl
    |i+2,h=>cases h
    have hil:=ZL hs
    walk_at "d"
    refine ⟨rfl,by unfold sizeLine;exact Internal.qBa ‹_› ‹_› ‹_› ‹_›,Jf e3 ?_ ?_⟩
    ·rw [List.length_map,List.length_append,List.length_map]
     have h2:((([[48],[49]]:List (List Nat))).take i).length≤2:=(List.take_sublist i [[48],[49]]).length_le
     grind
    ·rw [Jk]
     refine ⟨k3.set _ (.inr (Nat.le_refl _)),?_⟩
     have em:(((Ys k).take j).flatMap fun r=>[r++[48],r++[49]])++(([[48],[49]]:List (List Nat)).take i++[s]).map (fun s=>r++s)=((((Ys k).take j).flatMap fun r=>[r++[48],r++[49]])++(([[48],[49]]:List (List Nat)).take i).map fun s=>r++s)++[r++s]:=by simp
     rw [ZJ e3,Xm hs,em]
   ·rintro σ₃ ⟨k3,e3⟩
    refine ⟨k3,?_⟩
    rw [e3,Xm hr,List.flatMap_append]
    simp
  ·rintro σ'' ⟨k2,e2⟩
   rw [List.length_map,List.take_length] at e2
   exact Zl (ZF ⟨_,_,_,rfl,kp.trans k2,e2⟩)
 ·rintro loc σ' ⟨g,t3,t4,rfl,kp,e⟩
  walk_at "n"
  refine Hw e (fun k loc σ''=>∃ t4,loc=[some (.obj x),some (.int L),some (.obj g),t3,t4]∧Kp [] σ' σ'') ⟨t4,rfl,Kp.refl⟩ ?_ ?_ ?_
  ·rintro k loc σ'' ⟨t4,rfl,k2⟩
   exact k2.at e
  ·rintro k loc σ'' v hv ⟨t4,rfl,k2⟩
   rw [List.getElem?_map] at hv
   obtain ⟨r,hr,rfl⟩:=Option.map_eq_some_iff.mp hv
   have hrm:=List.mem_of_getElem? hr
   have hrl:=Jh L r hrm
   have hxx:=k2.at (kp.at hx)
   walk_at "b"
   refine St hxx hnd (fun j σ₃=>σ₃=σ''++[IL ((XM r (ds.take j)).map Prod.fst)]) rfl ?_ ?_ ?_
   ·rintro j σ₃ rfl
    exact Zh hxx
   ·rintro j σ₃ d hd rfl
    have hdm:=List.mem_of_getElem? hd
    have hx3:=Zh (γ:=[IL ((XM r (ds.take j)).map Prod.fst)]) hxx
    have hsn:=ZbO (r:=r) hd
    walk_at "d"
    refine VP hx3 hnd hdm ?_
    walk_at "d"
    refine ⟨by have:=hds d hdm;exact q4,none,some (d.2.length:Int),rfl,⟨rfl,by exact Int.natCast_nonneg _⟩,by unfold sizeLine;exact Internal.qBw ‹_› ‹_› (by rfl),VP hx3 hnd hdm ?_⟩
    walk_at "d"
    have ep:pick r none (some (d.2.length:Int))=r.take d.2.length:=by simp [pick]
    rw [ep]
    refine ZU (fun h=>ZA ?_) fun h=>ZI ?_
    ·rw [if_pos h] at hsn
     refine W4 Zm ?_ ?_
     ·rw [List.length_map]
      have h1:(XM r (ds.take j)).length≤(ds.take j).length:=List.length_filter_le _ _
      have h2:=(List.take_sublist j ds).length_le
      grind
     ·have em:(XM r (ds.take j)++[d]).map Prod.fst=(XM r (ds.take j)).map Prod.fst++[d.1]:=by simp
      rw [XA,hsn,em]
      exact WH
    ·rw [if_neg h,List.append_nil] at hsn
     rw [hsn]
   ·rintro σ₃ rfl
    rw [List.take_length]
    refine Xk Zm ?_ ?_
    ·rw [List.length_map,hok r hrm];decide
    ·rw [ZY,List.length_map,hok r hrm]
     refine Xz (fun h=>absurd rfl h) fun _=>ZK (Zl (ZF ⟨_,rfl,k2.app _⟩))
  ·rintro loc σ'' ⟨t4,rfl,k2⟩
   walk_at "n"
   exact hQ _ (kp.trans k2)
noncomputable def WZ (b:UInt8):List Nat:=(List.range 8).map fun i=>48+b.toNat / 2^i % 2
noncomputable def ZW (l:List UInt8):List Nat:=l.flatMap WZ
theorem Zcx {σ:List Za}{l:Zc}{m:Nat}{B:(Nat→Zc→List Za→Prop)→Nat→Zc→List Za→List AV→Prop}{D:Zc→List Za→Prop}{bs:List UInt8}(I:Nat→Zc→List Za→Prop)(h0:I 0 l σ)
  (step:∀ k l σ' b,bs[k]?=some b→I k l σ'→B I k l σ' [.int (b.toNat:Nat)]) (done:∀ l σ',I bs.length l σ'→D l σ') (hm:m=1:=by rfl) :
  ∃ it,XQ (.bytes bs) σ it∧∃ (i0z:List (List AV)) (I:Nat→Zc→List Za→Prop),(∀ avs∈i0z,avs.length=m)∧I 0 l σ∧(∀ k l σ',k≤i0z.length→I k l σ'→Z0 it σ' i0z)∧(∀ k l σ' avs,i0z[k]?=some avs→I k l σ'→B I k l σ' avs)∧∀ l σ',I i0z.length l σ'→D l σ':=
 ⟨.byt bs,rfl,VS (i0z:=bs.map fun (b:UInt8)=>[AV.int ((b.toNat:Nat):Int)]) I (by
  rw [hm]
  intro avs h
  obtain ⟨v,_,rfl⟩:=List.mem_map.mp h
  rfl) h0 (fun _ _ _ _ _=>rfl) (fun k l σ' avs h hI=>by
  rw [List.getElem?_map] at h
  obtain ⟨c,h1,rfl⟩:=Option.map_eq_some_iff.mp h
  exact step k l σ' c h1 hI) fun l σ' hI=>done l σ' (by simpa using hI)⟩
theorem Je (b:UInt8):(WZ b).length=8:=by simp [WZ]
theorem XG:∀ l,(ZW l).length=8*l.length
|[]=>rfl
|b::l=>by
  have:=XG l
  simp only [ZW,List.flatMap_cons,List.length_append,Je,List.length_cons] at this ⊢
  lia
inductive M1 (bs:List UInt8)(σ:List Za)(k:Nat)(loc:Zc)(σ':List Za):Prop
|mk (tv:Option AV):(loc=[some (.bytes bs),some (.obj σ.length),tv])→(Kp [] σ σ')→(σ'[σ.length]?=some (SL ((ZW (bs.take k)).map fun x=>[x])))→M1 bs σ k loc σ'
theorem Jo {n:Nat}{bs:List UInt8}{σ:List Za}{Q:Zq}{X:Zx}(hn:3≤n)(hl:bs.length≤1000)(hQ:∀ σ',Kp [] σ σ'→Q (.str (ZW bs)) σ'):WF n 435 [.bytes bs] σ Q X:=by
 refine WF.mini [_,_] ZaE ZeY ZdG .nil ‹_› ?_
 walk_at "b"
 refine ⟨ZD,?_⟩
 walk_at "n"
 refine Zcx (M1 bs σ) ⟨none,rfl,Kp.refl.app _,by simp [ZW]⟩ ?_ ?_
 ·rintro k loc σ' b hb ⟨tv,rfl,kp,e⟩
  have hs:ZW (bs.take (k+1))=ZW (bs.take k)++WZ b:=by rw [Xm hb];simp [ZW]
  have hk:=ZL hb
  have hlk:(ZW (bs.take k)).length≤8000:=by
   rw [XG]
   have:=(List.take_sublist k bs).length_le
   omega
  walk_at "b"
  refine ⟨⟨_,e⟩,by decide,by decide,Ve (fun i σ''=>σ''=σ'++[SL ((List.range i).map fun i=>[48+b.toNat / 2^i % 2])]) rfl ?_ ?_⟩
  ·rintro i σ'' hi rfl
   walk_at "d"
   refine ZA ⟨by exact Int.natCast_nonneg _,?_⟩
   rw [show (0+(i:Int)).toNat=i by exact qk,X3,Gd,Int.toNat_natCast]
   refine ⟨by exact Internal.qG _,Jf Zm ?_ ?_⟩
   ·simp;exact q7
   have er:=DX (f:=fun i=>[48+b.toNat / 2^i % 2]) (i:=i)
   rw [Jk,er]
   exact WH
  ·rintro σ'' rfl
   have e':=Zh (γ:=[SL ((List.range (8:Int).toNat).map fun i=>[48+b.toNat / 2^i % 2])]) e
   refine ⟨_,_,e',Zm,by simp,by simp;exact q4,Zl (ZF ⟨_,rfl,(kp.app _).set _ (.inr (Nat.le_refl _)),?_⟩)⟩
   have em:((ZW (bs.take k)).map fun x=>[x]).map AV.str++((List.range (8:Int).toNat).map fun i=>[48+b.toNat / 2^i % 2]).map AV.str=((ZW (bs.take (k+1))).map fun x=>[x]).map AV.str:=by
    rw [hs]
    simp [WZ]
   rw [em]
   exact ZJ e'
 ·rintro loc σ' ⟨tv,rfl,kp,e⟩
  rw [List.take_length] at e
  walk_at "n"
  refine ⟨trivial,Hq e ?_ ?_⟩
  ·rw [UB,List.map_id',XG];omega
  ·rw [UB,List.map_id']
   exact hQ _ kp
noncomputable def XR (ds:List (Int×List Nat))(st:List Nat):Option (Int×List Nat):=ds.find? fun d=>decide (st.take d.2.length=d.2)
inductive Reads (ds:List (Int×List Nat)):List Nat→List Int→Prop where
|stop {st:List Nat}:XR ds st=none→Reads ds st []
|more {st:List Nat} {d:Int×List Nat} {ss:List Int}:XR ds st=some d→Reads ds (st.drop d.2.length) ss→Reads ds st (d.1::ss)
theorem Zab {ds:List (Int×List Nat)}{st:List Nat}{k:Nat}{d:Int×List Nat}(h:ds[k]?=some d):XR (ds.take (k+1)) st=(XR (ds.take k) st).or (if decide (st.take d.2.length=d.2)=true then some d else none):=by
 unfold XR
 rw [Xm h,List.find?_append]
 congr 1
 rw [List.find?_cons]
 cases decide (st.take d.2.length=d.2)<;>rfl
inductive M2 (ds:List (Int×List Nat))(ss:List Int)(st:List Nat)(x:Nat)(σ:List Za)(m:Nat)(loc:Zc)(σ':List Za):Prop
|mk (place:Nat) (more:Bool) (pre rest:List Int) (t5 t6:Option AV):(loc=[some (.obj x),some (.str st),some (.obj σ.length),some (.int place),some (.bool more),t5,t6])→(Kp [] σ σ')→(σ'[σ.length]?=some (IL pre))→(ss=pre++rest)→(((more=true∧m=rest.length+1∧Reads ds (st.drop place) rest)∨(more=false∧m=0∧rest=[])))→M2 ds ss st x σ m loc σ'
inductive M3 (ds:List (Int×List Nat))(place:Nat)(pre:List Int)(st:List Nat)(x:Nat)(σ:List Za)(k:Nat)(loc:Zc)(σ'':List Za):Prop
|mk (place':Nat) (more':Bool) (pre':List Int) (t5 t6:Option AV):(loc=[some (.obj x),some (.str st),some (.obj σ.length),some (.int place'),some (.bool more'),t5,t6])→(Kp [] σ σ'')→(σ''[σ.length]?=some (IL pre'))→(match XR (ds.take k) (st.drop place) with
  |none=>more'=false∧place'=place∧pre'=pre
  |some d=>more'=true∧place'=place+d.2.length∧pre'=pre++[d.1])→M3 ds place pre st x σ k loc σ''
theorem QE {n x ep:Nat}{ds:List (Int×List Nat)}{st:List Nat}{ss:List Int}{σ:List Za}{Q:Zq}{X:Zx}(hn:3≤n)(hx:σ[x]?=some (DI ds ep))(hnd:(ds.map Prod.fst).Nodup)(hds:∀ d∈ds,d.2.length≤1000)(hst:st.length≤10000)(hR:Reads ds st ss)(hss:ss.length≤10000)
  (hQ:∀ σ' i,Kp [] σ σ'→σ'[i]?=some (IL ss)→σ.length≤i→Q (.obj i) σ'):WF n 442 [.obj x,.str st] σ Q X:=by
 refine WF.mini [_,_,_,_,_] ZaO Ze8 ZdQ .nil ‹_› ?_
 walk_at "b"
 refine ⟨ZD,rfl,ZD,?_⟩
 walk_at "n"
 refine ⟨M2 ds ss st x σ,ss.length+1,⟨0,true,[],ss,none,none,rfl,(Kp.refl.app _).app _,by simp,rfl,.inl ⟨rfl,rfl,hR⟩⟩,?_⟩
 rintro m loc σ' ⟨place,more,pre,rest,t5,t6,rfl,kp,e,hpre,h⟩
 walk_at "d"
 rcases h with ⟨rfl,hm,hr⟩|⟨rfl,hm,rfl⟩
 ·refine ZA ?_
  walk_at "b"
  walk_at "n"
  refine BS (kp.at hx) hnd (M3 ds place pre st x σ) ⟨place,false,pre,t5,t6,rfl,kp,e,by simp [XR]⟩ ?_ ?_ ?_
  ·rintro k loc σ'' ⟨place',more',pre',t5,t6,rfl,kp',_⟩
   exact kp'.at hx
  ·rintro k loc σ'' d hd ⟨place',more',pre',t5,t6,rfl,kp',e',hmt⟩
   have hdm:=List.mem_of_getElem? hd
   have hfs:=Zab (st:=st.drop place) hd
   walk_at "b"
   refine VP (kp'.at hx) hnd hdm ?_
   walk_at "n"
   cases hmk:XR (ds.take k) (st.drop place) with
  |some d'=>
    rw [hmk] at hmt hfs
    rw [Option.some_or] at hfs
    obtain ⟨rfl,h2,h3⟩:=hmt
    refine ZI (ZI (ZK (Zl (ZF ⟨place',true,pre',_,_,rfl,kp',e',?_⟩))))
    rw [hfs]
    exact ⟨rfl,h2,h3⟩
  |none=>
    rw [hmk] at hmt hfs
    rw [Option.none_or] at hfs
    obtain ⟨rfl,rfl,rfl⟩:=hmt
    refine ZA ⟨by have:=hds d hdm;exact q4,some (place':Int),some ((place':Int)+d.2.length),⟨rfl,by exact Int.natCast_nonneg _⟩,⟨rfl,by exact Int.natCast_nonneg _⟩,by unfold sizeLine;exact q4,?_⟩
    have epk:pick st (some (place':Int)) (some ((place':Int)+d.2.length))=(st.drop place').take d.2.length:=by
     simp only [pick,Option.elim]
     rw [show ((place':Int)+d.2.length).toNat=place'+d.2.length by exact Int.toNat_natCast _,Int.toNat_natCast,List.drop_take]
     congr 1;exact Nat.add_sub_cancel_left ..
    rw [epk]
    walk_at "d"
    refine ZU (fun hh=>?_) fun hh=>?_
    ·skip
     rw [decide_eq_true hh,if_pos rfl] at hfs
     have hlen:pre'.length≤10000:=by rw [hpre] at hss;rw [List.length_append] at hss;lia
     refine ZA ?_
     walk_at "b"
     refine ⟨⟨_,e'⟩,VE e' (by exact q4) ?_⟩
     rw [XA]
     walk_at "n"
     refine ⟨by have:=hds d hdm;exact q4,?_⟩
     walk_at "n"
     refine Zl (Zl (ZF ⟨place'+d.2.length,true,pre'++[d.1],some (.int d.1),some (.str d.2),by rw [Int.natCast_add],kp'.set _ (.inr (Nat.le_refl _)),ZJ e',?_⟩))
     rw [hfs]
     exact ⟨rfl,rfl,rfl⟩
    ·skip
     rw [decide_eq_false hh,if_neg (by decide)] at hfs
     refine ZI (ZK (Zl (ZF ⟨place',false,pre',_,_,rfl,kp',e',?_⟩)))
     rw [hfs]
     exact ⟨rfl,rfl,rfl⟩
  ·rintro loc σ'' ⟨place',more',pre',t5,t6,rfl,kp',e',hmt⟩
   rw [List.take_length] at hmt
   refine Zl (ZF ?_)
   cases hr with
  |stop h0=>
    rw [h0] at hmt
    obtain ⟨rfl,rfl,rfl⟩:=hmt
    exact ⟨0,by grind,place',false,pre',[],_,_,rfl,kp',e',hpre,.inr ⟨rfl,rfl,rfl⟩⟩
  |more h0 h1=>
    rename_i d ss'
    rw [h0] at hmt
    obtain ⟨rfl,rfl,rfl⟩:=hmt
    refine ⟨ss'.length+1,by rw [hm];simp,place+d.2.length,true,pre++[d.1],ss',_,_,rfl,kp',e',by rw [hpre];simp,.inl ⟨rfl,rfl,?_⟩⟩
    rw [List.drop_drop] at h1
    exact h1
 ·refine ZI ?_
  walk_at "n"
  rw [List.append_nil] at hpre
  subst hpre
  exact hQ _ _ kp e (Nat.le_refl _)
noncomputable def VA.tell (r:VA)(F:Int→Nat→List Int×List Nat):List Int×List Nat:=match r with
|.sym i p'=>F i p'
|.cut=>([],[99,117,116])
|.bad=>([],[98,97,100])
noncomputable def YF (cs fs:List Int)(bit:Nat→Option Int)(L:Nat):Nat→Nat→List Int×List Nat
|0,_=>([],[111,110])
|m+1,p=>(Yr cs bit L 1 0 0 0 p).tell fun i p'=>(fs.getD i.toNat 0::(YF cs fs bit L m p').1,(YF cs fs bit L m p').2)
theorem Zg2 (cs fs:List Int)(bit:Nat→Option Int)(L p:Nat):YF cs fs bit L 0 p=([],[111,110]):=rfl
theorem Mm {cs fs:List Int}{bit:Nat→Option Int}{L m p p':Nat}{i:Int}(h:Yr cs bit L 1 0 0 0 p=.sym i p'):YF cs fs bit L (m+1) p=(fs.getD i.toNat 0::(YF cs fs bit L m p').1,(YF cs fs bit L m p').2):=congrArg (fun r:VA=>r.tell _) h
theorem Qr {cs fs:List Int}{bit:Nat→Option Int}{L m p:Nat}(h:Yr cs bit L 1 0 0 0 p=.cut):YF cs fs bit L (m+1) p=([],[99,117,116]):=congrArg (fun r:VA=>r.tell _) h
theorem Zg1 {cs fs:List Int}{bit:Nat→Option Int}{L m p:Nat}(h:Yr cs bit L 1 0 0 0 p=.bad):YF cs fs bit L (m+1) p=([],[98,97,100]):=congrArg (fun r:VA=>r.tell _) h
inductive M4 (L:Nat)(M:Nat)(b:Nat)(cs:List Int)(fs:List Int)(l:List UInt8)(p:Nat)(r:Nat)(σ:List Za)(k:Nat)(loc:Zc)(σ':List Za):Prop
|mk (p':Nat) (pre:List Int) (tv:Option AV):(loc=[some (.obj r),some (.obj b),some (.int M),some (.obj σ.length),tv])→(k≤M)→(pre.length=k)→(Kp [b] σ σ')→(σ'[b]?=some (LR l p'))→(σ'[σ.length]?=some (IL pre))→((YF cs fs (Z1 l) L M p).1=pre++(YF cs fs (Z1 l) L (M-k) p').1)→((YF cs fs (Z1 l) L M p).2=(YF cs fs (Z1 l) L (M-k) p').2)→M4 L M b cs fs l p r σ k loc σ'
theorem Jq {n r b ci si L p M:Nat}{cs fs:List Int}{l:List UInt8}{σ:List Za}{Q:Zq}{X:Zx}(hn:8≤n)(hr:σ[r]?=some (RD L ci si))(hci:σ[ci]?=some (IL cs))(hsi:σ[si]?=some (IL fs))(hb:σ[b]?=some (LR l p))(hl:l.length≤1000)
  (hL:L≤100) (hcl:cs.length=L+1) (hc:∀ c∈cs,0≤c∧c≤1000) (hfl:fs.length≤1000) (hM:M≤1000)
  (hsym:∀ p i p',Yr cs (Z1 l) L 1 0 0 0 p=.sym i p'→0≤i∧i.toNat<fs.length)
  (hQ:∀ σ' t f,Kp [b] σ σ'→σ'[t]?=some (.tup [.obj f,.str (YF cs fs (Z1 l) L M p).2])→σ'[f]?=some (IL (YF cs fs (Z1 l) L M p).1)→Q (.obj t) σ'):WF n 449 [.obj r,.obj b,.int M] σ Q X:=by
 refine WF.mini [_,_] ZaR Zfb ZdT .nil (by exact q1) ?_
 have nr:r∉[b]:=by intro q;exact Yh hr hb (by intro e;cases e) (List.mem_singleton.mp q)
 have nci:ci∉[b]:=by intro q;exact Yh hci hb (by intro e;cases e) (List.mem_singleton.mp q)
 have nsi:si∉[b]:=by intro q;exact Yh hsi hb (by intro e;cases e) (List.mem_singleton.mp q)
 have hbl:=ZL hb
 walk_at "b"
 refine ⟨ZD,?_⟩
 walk_at "n"
 refine ⟨by exact qt (by decide),by exact qu ‹_› (by decide),?_⟩
 rw [Int.toNat_natCast]
 refine WD (M4 L M b cs fs l p r σ)
  ⟨p,[],none,rfl,Nat.zero_le _,rfl,Kp.refl.app _,Zh hb,by simp,rfl,rfl⟩ ?_ ?_
 ·rintro k loc σ' hk ⟨p',pre,tv,rfl,hkM,hpl,kp,eb,ef,h1,h2⟩
  obtain ⟨m,hm⟩:∃ m,M-k=m+1:=⟨M-k-1,by exact qn ‹_›⟩
  rw [hm] at h1 h2
  walk_at "b"
  walk_at "b"
  have nf:σ.length∉[b]:=by simp;exact Nat.ne_of_gt ‹_›
  refine ⟨⟨_,ef⟩,Xa (kp.at hr nr) rfl (Zht (by exact q2) (kp.at hr nr) (kp.at hci nci) (kp.at hsi nsi) eb hl hL hcl hc hfl (fun i p'' hrd=>?_) (fun hrd σ₁ k1=>?_) fun hrd σ₁ k1=>?_)⟩
  ·rw [Mm hrd] at h1 h2
   dsimp only at h1 h2
   obtain ⟨i0,i1⟩:=hsym _ _ _ hrd
   have hv:fs[i.toNat]?=some (fs.getD i.toNat 0):=by rw [List.getD_eq_getElem?_getD,List.getElem?_eq_getElem i1];rfl
   refine ⟨i0,_,hv,fun σ₁ k1 e1=>?_⟩
   refine VE (k1.at ef nf) (by lia) ?_
   rw [XA]
   refine Zl (Zl (ZF ⟨p'',pre++[fs.getD i.toNat 0],_,rfl,by assumption,by simp [hpl],(kp.trans k1).set _ (.inr (Nat.le_refl _)),YM e1 (by exact Nat.ne_of_gt ‹_›),ZJ (k1.at ef nf),?_,?_⟩))
   ·rw [h1,show M-(k+1)=m by exact Internal.qF ‹_›];simp
   ·rw [h2,show M-(k+1)=m by exact Internal.qF ‹_›]
  ·rw [Qr hrd] at h1 h2
   dsimp only at h1 h2
   rw [List.append_nil] at h1
   refine ZA ?_
   refine hQ _ _ σ.length ((kp.trans k1).app _) ?_ ?_
   ·rw [h2];simp
   ·rw [h1];exact Zh (k1.at ef nf)
  ·rw [Zg1 hrd] at h1 h2
   dsimp only at h1 h2
   rw [List.append_nil] at h1
   refine ZI (ZA ?_)
   refine hQ _ _ σ.length ((kp.trans k1).app _) ?_ ?_
   ·rw [h2];simp
   ·rw [h1];exact Zh (k1.at ef nf)
 ·rintro loc σ' ⟨p',pre,tv,rfl,hkM,hpl,kp,eb,ef,h1,h2⟩
  rw [Nat.sub_self] at h1 h2
  rw [Zg2] at h1 h2
  rw [List.append_nil] at h1
  walk_at "n"
  refine ⟨ZD,?_⟩
  refine hQ _ _ σ.length (kp.app _) ?_ ?_
  ·rw [h2];simp
  ·rw [h1];exact Zh ef
theorem R4 {a v b:Nat}(h:a<2^b):Builtin.bitOr (a:Int) ((v:Int)*2^b)=((a+v*2^b:Nat):Int):=by
 have e:(v:Int)*2^b=((v*2^b:Nat):Int):=by push_cast;rfl
 have z:a &&& v*2^b=0:=by
  refine Nat.eq_of_testBit_eq fun i=>?_
  rw [Nat.testBit_and,Nat.zero_testBit,Nat.mul_comm,Nat.testBit_two_pow_mul]
  by_cases hi:i≥b
  ·rw [Nat.testBit_lt_two_pow (Nat.lt_of_lt_of_le h (Nat.pow_le_pow_right (by decide) hi)),Bool.false_and]
  ·rw [decide_eq_false hi,Bool.false_and,Bool.and_false]
 rw [e,bitOr_and,show Builtin.bitAnd (a:Int) ((v*2^b:Nat):Int)=((a &&& v*2^b:Nat):Int) from by
  unfold Builtin.bitAnd
  rw [decide_eq_true (by exact Int.natCast_nonneg _:(0:Int)≤(a:Int)),decide_eq_true (by exact Int.natCast_nonneg _:(0:Int)≤((v*2^b:Nat):Int))]
  rfl,z]
 rfl
noncomputable def YJ:List UInt8→Nat
|[]=>0
|b::l=>b.toNat+256*YJ l
theorem BC (b:UInt8)(l:List UInt8):YJ (b::l)=b.toNat+256*YJ l:=rfl
theorem BE (l:List UInt8)(b:UInt8):YJ (l++[b])=YJ l+2^(8*l.length)*b.toNat:=by
 induction l with
|nil=>
  show b.toNat+256*0=0+2^0*b.toNat
  rw [Nat.pow_zero,Nat.one_mul,Nat.zero_add];rfl
|cons c l ih=>
  rw [List.cons_append,BC,ih,BC,List.length_cons,show 8*(l.length+1)=8*l.length+8 by exact Int.toNat_natCast _,Nat.pow_add]
  have:256*(2^(8*l.length)*b.toNat)=2^(8*l.length)*2^8*b.toNat:=by rw [show (2:Nat)^8=256 by decide];ac_rfl
  exact qDf this
structure Wr (V N:Nat)(l:List UInt8)(h b:Nat):Prop where
 num:V=YJ l+2^(8*l.length)*h
 len:N=8*l.length+b
 lt:h<2^b
theorem Wr.nil:Wr 0 0 [] 0 0:=⟨rfl,rfl,by decide⟩
theorem Wr.more {V N h b v c:Nat}{l:List UInt8}(w:Wr V N l h b)(hv:v<2^c):Wr (V+v*2^N) (N+c) l (h+v*2^b) (b+c):=by
 refine ⟨?_,by rw [w.len];simp +arith,?_⟩
 ·rw [w.num,w.len,Nat.pow_add,Nat.mul_add]
  have:v*(2^(8*l.length)*2^b)=2^(8*l.length)*(v*2^b):=by ac_rfl
  exact qDg this
 ·have h1:=w.lt
  have:(v+1)*2^b≤2^c*2^b:=Nat.mul_le_mul_right _ hv
  rw [Nat.pow_add,Nat.mul_comm (2^b)]
  rw [Nat.add_mul] at this
  lia
theorem Wr.out {V N h b:Nat}{l:List UInt8}(w:Wr V N l h b)(hb:8≤b):Wr V N (l++[UInt8.ofNat (h % 256)]) (h / 256) (b-8):=by
 refine ⟨?_,by rw [w.len];simp;grind,?_⟩
 ·rw [BE,List.length_append,List.length_singleton,show 8*(l.length+1)=8*l.length+8 by exact Int.toNat_natCast _,Nat.pow_add,w.num]
  have e:(UInt8.ofNat (h % 256)).toNat=h % 256:=by simp
  rw [e,show (2:Nat)^8=256 by decide]
  have:2^(8*l.length)*h=2^(8*l.length)*(h % 256+256*(h / 256)):=by rw [Nat.mod_add_div]
  rw [this,Nat.mul_add]
  have:2^(8*l.length)*256*(h / 256)=2^(8*l.length)*(256*(h / 256)):=by ac_rfl
  grind
 ·have:=w.lt
  rw [Nat.div_lt_iff_lt_mul (by decide),show (256:Nat)=2^8 by decide,← Nat.pow_add,show b-8+8=b by exact Nat.sub_add_cancel ‹_›]
  exact this
theorem QF {n w:Nat}{σ:List Za}{Q:Zq}{X:Zx}(hn:3≤n)(hw:σ[w]?=some (.inst .lowW []))(hQ:∀ σ' m,Kp [w] σ σ'→σ'[w]?=some (LW m 0 0)→σ'[m]?=some (.barr [])→σ.length≤m→Q .none σ'):WF n 319 [.obj w] σ Q X:=by
 refine WF.mini [] Zan ZeK Zds .nil ‹_› ?_
 walk_at "b"
 refine Xc (fs':=[(.made,.obj σ.length)]) (Zh hw) rfl rfl ?_
 walk_at "n"
 have h1:=ZJ (o:=.inst .lowW [(.made,.obj σ.length)]) (Zh (γ:=[.barr []]) hw)
 refine Xc (fs':=[(.made,.obj σ.length),(.held,.int 0)]) h1 rfl rfl ?_
 walk_at "n"
 have h2:=ZJ (o:=.inst .lowW [(.made,.obj σ.length),(.held,.int 0)]) h1
 refine Xc (fs':=[(.made,.obj σ.length),(.held,.int 0),(.heldBits,.int 0)]) h2 rfl rfl (Zl ?_)
 have hlt:=ZL hw
 refine hQ _ σ.length ((((Kp.refl.app _).set _ (.inl (by simp))).set _ (.inl (by simp))).set _ (.inl (by simp))) (ZJ h2) ?_ (Nat.le_refl _)
 have e0:(σ++[Za.barr []])[σ.length]?=some (.barr []):=by simp
 exact YM (YM (YM e0 (by exact Nat.ne_of_lt ‹_›)) (by exact Nat.ne_of_lt ‹_›)) (by exact Nat.ne_of_lt ‹_›)
inductive M5 (N:Nat)(V:Nat)(c:Nat)(m:Nat)(v:Nat)(w:Nat)(σ:List Za)(M:Nat)(L:Zc)(σ':List Za):Prop
|mk (l':List UInt8) (h' b':Nat):(M=b')→(L=[some (.obj w),some (.int v),some (.int c)])→(Kp [w,m] σ σ')→(σ'[w]?=some (LW m (h':Nat) (b':Nat)))→(σ'[m]?=some (.barr l'))→(Wr (V+v*2^N) (N+c) l' h' b')→M5 N V c m v w σ M L σ'
theorem Zhn {n w m v c V N h b:Nat}{l:List UInt8}{σ:List Za}{Q:Zq}{X:Zx}(hn:5≤n)(hw:σ[w]?=some (LW m h b))(hm:σ[m]?=some (.barr l))(hl:N+c≤4000)(W:Wr V N l h b)(hv:v<2^c)
  (hQ:∀ σ' l' h' b',Kp [w,m] σ σ'→σ'[w]?=some (LW m (h':Nat) (b':Nat))→σ'[m]?=some (.barr l')→Wr (V+v*2^N) (N+c) l' h' b'→b'<8→Q .none σ'):WF n 326 [.obj w,.int v,.int c] σ Q X:=by
 refine WF.mini [] Zak ZeH Zdp .nil (by exact q1) ?_
 walk_at "b"
 refine QG (by exact q2) (by exact Int.natCast_nonneg _) (by exact Int.natCast_nonneg _) ?_ ?_
 ·rw [show ((c:Int)).toNat=c by exact Int.toNat_natCast _,X3,Nat.div_eq_of_lt hv];rfl
 walk_at "n"
 have hwm:w≠m:=Yh hw hm (by intro e;cases e)
 have hbl:(intBits ((v:Nat):Int):Int)+(b:Int)≤2^27:=by
  have h1:intBits ((v:Nat):Int)≤c:=WV (by rw [Int.natAbs_natCast];exact hv)
  have h2:=W.len
  grind
 refine ZX hw rfl (ZX hw rfl ⟨by exact Int.natCast_nonneg _,hbl,?_⟩)
 walk_at "d"
 rw [show ((b:Int)).toNat=b by exact Int.toNat_natCast _,R4 W.lt]
 have W1:=W.more hv
 refine Xc (fs':=[(.made,.obj m),(.held,.int (h+v*2^b:Nat)),(.heldBits,.int b)]) hw rfl rfl ?_
 walk_at "n"
 have hw1:=ZJ (o:=LW m (h+v*2^b:Nat) b) hw
 refine ZX hw1 rfl ?_
 walk_at "d"
 refine Xc (fs':=[(.made,.obj m),(.held,.int (h+v*2^b:Nat)),(.heldBits,.int (b+c:Nat))]) hw1 rfl rfl ?_
 walk_at "n"
 have hw2:=ZJ (o:=LW m (h+v*2^b:Nat) (b+c:Nat)) hw1
 have hm2:=YM (o:=LW m (h+v*2^b:Nat) (b+c:Nat)) (YM (o:=LW m (h+v*2^b:Nat) b) hm hwm) hwm
 have k2:Kp [w,m] σ ((σ.set w (LW m (h+v*2^b:Nat) b)).set w (LW m (h+v*2^b:Nat) (b+c:Nat))):=((Kp.refl).set _ (.inl (by simp))).set _ (.inl (by simp))
 refine ⟨M5 N V c m v w σ,b+c,⟨l,_,_,rfl,rfl,k2,hw2,hm2,W1⟩,?_⟩
 rintro M L σ' ⟨l',h',b',rfl,rfl,kp,e1,e2,W'⟩
 walk_at "d"
 refine ZX e1 rfl (ZU (fun hb=>?_) fun hb=>?_)
 ·walk_at "b"
  have hlen:=W'.len
  have W2:=W'.out (by exact Internal.qBn ‹_›)
  refine ZX e1 rfl ⟨⟨_,e2⟩,ZX e1 rfl ?_⟩
  walk_at "d"
  have eb:Builtin.bitAnd (h':Int) 255=((h' % 256:Nat):Int):=by rw [bitAnd_m8];rfl
  rw [eb]
  refine ⟨l',e2,by exact Int.natCast_nonneg _,by grind,by unfold sizeLine;lia,?_⟩
  have eu:((h' % 256:Nat):Int).toNat.toUInt8=UInt8.ofNat (h' % 256):=by rw [Int.toNat_natCast]
  rw [eu]
  have e3:=ZJ (o:=.barr (l'++[UInt8.ofNat (h' % 256)])) e2
  have e4:=YM (o:=.barr (l'++[UInt8.ofNat (h' % 256)])) e1 (Ne.symm hwm)
  walk_at "n"
  refine ZX e4 rfl ?_
  walk_at "d"
  refine ⟨by decide,?_⟩
  have ed:((h':Nat):Int).fdiv (2^(8:Int).toNat)=((h' / 256:Nat):Int):=X3 (k:=8)
  rw [ed]
  refine Xc (fs':=[(.made,.obj m),(.held,.int (h' / 256:Nat)),(.heldBits,.int M)]) e4 rfl rfl ?_
  walk_at "n"
  have e5:=ZJ (o:=LW m (h' / 256:Nat) M) e4
  refine ZX e5 rfl ?_
  walk_at "d"
  refine Xc (fs':=[(.made,.obj m),(.held,.int (h' / 256:Nat)),(.heldBits,.int (M-8:Nat))]) e5 rfl ?_ (Zl (ZF ⟨M-8,by exact Internal.qBh ‹_›,_,_,_,rfl,rfl,?_,ZJ e5,YM (YM e3 hwm) hwm,W2⟩))
  ·rw [show ((M:Int)-8)=((M-8:Nat):Int) by grind];rfl
  ·exact ((kp.set _ (.inl (by simp))).set _ (.inl (by simp))).set _ (.inl (by simp))
 ·exact ZF (ZK (hQ _ _ _ _ kp e1 e2 W' (by lia)))
noncomputable def YL (v:Nat):Nat→Nat
|0=>0
|k+1=>YL v k*2+v / 2^k % 2
theorem D6 (v:Nat):∀ k,YL v k<2^k
|0=>Nat.one_pos
|k+1=>by
  have:=D6 v k
  show YL v k*2+v / 2^k % 2<_
  rw [Nat.pow_succ];grind
theorem Zho {n w m v c V N h b:Nat}{l:List UInt8}{σ:List Za}{Q:Zq}{X:Zx}(hn:6≤n)(hw:σ[w]?=some (LW m h b))(hm:σ[m]?=some (.barr l))(hl:N+c≤4000)(W:Wr V N l h b)(hv:v<2^c)(hc:c≤100)
  (hQ:∀ σ' l' h' b',Kp [w,m] σ σ'→σ'[w]?=some (LW m (h':Nat) (b':Nat))→σ'[m]?=some (.barr l')→Wr (V+YL v c*2^N) (N+c) l' h' b'→b'<8→Q .none σ'):WF n 340 [.obj w,.int v,.int c] σ Q X:=by
 refine WF.mini [_,_] Zal ZeI Zdq .nil (by exact q1) ?_
 walk_at "b"
 refine QG (by exact q2) (by exact Int.natCast_nonneg _) (by exact Int.natCast_nonneg _) ?_ ?_
 ·rw [show ((c:Int)).toNat=c by exact Int.toNat_natCast _,X3,Nat.div_eq_of_lt hv];rfl
 walk_at "n"
 walk_at "n"
 refine ⟨by exact qt (by decide),by exact qu ‹_› (by decide),?_⟩
 refine WD (fun k loc σ'=>∃ t1,loc=[some (.obj w),some (.int v),some (.int c),some (.int (YL v k:Nat)),t1]∧σ'=σ) ⟨none,rfl,rfl⟩ ?_ ?_
 ·rintro k loc σ' hk ⟨t1,rfl,rfl⟩
  walk_at "b"
  have hbl:(intBits ((YL v k:Nat):Int):Int)+1≤2^27:=by
   have h1:intBits ((YL v k:Nat):Int)≤k:=WV (by rw [Int.natAbs_natCast];exact D6 v k)
   lia
  refine ⟨by decide,hbl,by exact Int.natCast_nonneg _,?_⟩
  have e:Builtin.bitOr (((YL v k:Nat):Int)*2^(1:Int).toNat) (Builtin.bitAnd ((v:Int).fdiv (2^(0+(k:Int)).toNat)) 1)=((YL v (k+1):Nat):Int):=by
   rw [show (0+(k:Int)).toNat=k by exact qk,X3,Gd,show ((YL v k:Nat):Int)*2^(1:Int).toNat=((YL v k:Nat):Int)*2 from rfl,NB (by exact Internal.qG _)]
   rfl
  rw [e]
  exact Zl (ZF ⟨_,rfl,rfl⟩)
 ·rintro loc σ' ⟨t1,rfl,rfl⟩
  walk_at "n"
  rw [show ((c:Int)).toNat=c by exact Int.toNat_natCast _]
  refine Xa hw rfl (Zhn (by exact q2) hw hm hl W (D6 v c) ?_)
  intro σ₁ l' h' b' k1 e1 e2 W' hb
  walk_at "d"
  exact Zl (hQ σ₁ l' h' b' k1 e1 e2 W' hb)
theorem Zhs {n p w m li ci s v c V N h b:Nat}{l:List UInt8}{ns cs:List Int}{σ:List Za}{Q:Zq}{X:Zx}(hn:7≤n)(hp:σ[p]?=some (PW li ci))(hli:σ[li]?=some (IL ns))(hci:σ[ci]?=some (IL cs))(hnl:ns.length≤1000)(hcl:cs.length≤1000)
  (hs:ns[s]?=some (c:Int)) (hcs:cs[s]?=some (v:Int)) (hc0:c≠0) (hw:σ[w]?=some (LW m h b)) (hm:σ[m]?=some (.barr l)) (hl:N+c≤4000) (W:Wr V N l h b) (hv:v<2^c) (hc:c≤100)
  (hQ:∀ σ' l' h' b',Kp [w,m] σ σ'→σ'[w]?=some (LW m (h':Nat) (b':Nat))→σ'[m]?=some (.barr l')→Wr (V+YL v c*2^N) (N+c) l' h' b'→b'<8→Q .none σ'):WF n 185 [.obj p,.obj w,.int s] σ Q X:=by
 refine WF.mini [] N6 C6 B7 .nil (by exact q1) ?_
 have e:Xu ns (s:Int)=.int c:=by
  unfold Xu
  have hlt:=ZL hs
  rw [Int.toNat_natCast,YS hs,if_pos ⟨by exact Int.natCast_nonneg _,by exact Int.ofNat_lt.mpr ‹_›,by lia⟩]
 walk_at "b"
 refine Xa hp rfl (Jp (by exact q2) hp hli hnl ?_)
 rw [e]
 walk_at "d"
 refine ZI (ZK ?_)
 walk_at "n"
 refine Xa hw rfl (ZX hp rfl (Z8 hci (by exact Int.natCast_nonneg _) hcs (by exact q4) (ZX hp rfl (Z8 hli (by exact Int.natCast_nonneg _) hs (by exact q4) ?_))))
 refine Zho (by exact q2) hw hm hl W hv hc fun σ₁ l' h' b' k1 e1 e2 W' hb=>?_
 walk_at "d"
 exact Zl (hQ σ₁ l' h' b' k1 e1 e2 W' hb)
theorem Zhr {n p w li ci:Nat}{s:Int}{ns:List Int}{σ:List Za}{Q:Zq}{X:Zx}(hn:7≤n)(hp:σ[p]?=some (PW li ci))(hli:σ[li]?=some (IL ns))(hnl:ns.length≤1000)
  (e:Xu ns s=.none) (hs2:s.natAbs≤1000) (hX:X .badCode σ):WF n 185 [.obj p,.obj w,.int s] σ Q X:=by
 refine WF.mini [] N6 C6 B7 .nil (by exact q1) ?_
 walk_at "b"
 refine Xa hp rfl (Jp (by exact q2) hp hli hnl ?_)
 rw [e]
 walk_at "d"
 refine ZA ?_
 walk_at "b"
 refine ⟨?_,fun t=>hX⟩
 exact Nat.lt_of_le_of_lt (Nat.log2_le_self _) (by exact q6)
noncomputable def gk (ns:List Int):Nat→Nat
|0=>0
|k+1=>2*gk ns k+ns.count ((k+1:Nat):Int)
theorem VO (ns:List Int)(k:Nat):gk ns (k+1)=2*gk ns k+ns.count ((k+1:Nat):Int):=rfl
theorem Bi (ns:List Int):∀ d k,2^d*gk ns k≤gk ns (k+d)
|0,k=>by simp
|d+1,k=>by
  have:=Bi ns d k
  show _≤2*gk ns (k+d)+_
  rw [Nat.pow_succ,Nat.mul_comm (2^d) 2,Nat.mul_assoc]
  lia
theorem ZbK {ns:List Int}{L k:Nat}(h:gk ns L=2^L)(hk:k≤L):gk ns k≤2^k:=by
 have:=Bi ns (L-k) k
 rw [show k+(L-k)=L by exact Internal.qAv ‹_›,h,show 2^L=2^(L-k)*2^k by rw [← Nat.pow_add];congr 1;exact (Nat.sub_add_cancel ‹_›).symm] at this
 exact Nat.le_of_mul_le_mul_left this (Nat.two_pow_pos _)
theorem N2 {ns:List Int}{L:Nat}:∀ k,k≤L→Yg (Zj L ns) (k+1)=((2*gk ns k:Nat):Int)
|0,_=>rfl
|k+1,h=>by
  have ih:=N2 (ns:=ns) (L:=L) k (by exact Nat.le_of_lt ‹_›)
  rw [S9,ih,if_neg (by simp),YS (X2 h)]
  show _=((2*(2*gk ns k+ns.count ((k+1:Nat):Int)):Nat):Int)
  simp +arith
theorem Qh {ns:List Int}{L:Nat}:∀ k,k≤L→Wl ns L (k+1)=gk ns k*2^(L-k)
|0,_=>(Nat.zero_mul _).symm
|k+1,h=>by
  have ih:=Qh (ns:=ns) (L:=L) k (by exact Nat.le_of_lt ‹_›)
  rw [ZgP,ih,if_neg (by simp),VO,show L-k=(L-(k+1))+1 by exact qn ‹_›,Nat.pow_succ,Nat.add_mul]
  have:gk ns k*(2^(L-(k+1))*2)=2*gk ns k*2^(L-(k+1)):=by ac_rfl
  lia
noncomputable def cv (ns:List Int)(s:Nat):Nat:=2*gk ns (Xv ns s-1)+(ns.take s).count ((Xv ns s:Nat):Int)
theorem Wz {ns:List Int}{s l:Nat}(h:ns[s]?=some (l:Int)):Xv ns s=l:=by unfold Xv;rw [YS h];rfl
theorem Sc {ns:List Int}{L s l:Nat}(h:ns[s]?=some (l:Int))(h1:1≤l)(hL:l≤L):XI ns L s=cv ns s:=by
 unfold XI cv
 rw [Wz h]
 obtain ⟨k,rfl⟩:∃ k,l=k+1:=⟨l-1,by exact qr ‹_›⟩
 rw [Qh k (by exact Nat.le_of_lt ‹_›),show L-k=(L-(k+1))+1 by exact qn ‹_›,Nat.pow_succ,show gk ns k*(2^(L-(k+1))*2)=2*gk ns k*2^(L-(k+1)) by ac_rfl,← Nat.add_mul,Nat.mul_div_cancel _ (Nat.two_pow_pos _)]
 rfl
theorem ND {ns:List Int}{L s l:Nat}(h:ns[s]?=some (l:Int))(h1:1≤l)(hL:l≤L):YQ L ns s=(cv ns s:Int):=by
 unfold YQ cv
 rw [YS h,if_neg (by grind),Wz h]
 obtain ⟨k,rfl⟩:∃ k,l=k+1:=⟨l-1,by exact qr ‹_›⟩
 rw [Int.toNat_natCast,N2 k (by exact Nat.le_of_lt ‹_›)]
 simp
theorem Zet {ns:List Int}{s:Nat}{c:Int}(h:ns[s]?=some c):(ns.take s).count c<ns.count c:=by
 have h2:=Uw h (show s<s+1 by exact Nat.le_refl _)
 have:(ns.take (s+1)).count c≤ns.count c:=List.Sublist.count_le _ (List.take_sublist _ _)
 exact Nat.lt_of_lt_of_le ‹_› ‹_›
theorem DY {c:Int}:∀ {ns:List Int} {r:Nat},r<ns.count c→∃ s,ns[s]?=some c∧(ns.take s).count c=r
|[],r,h=>by simp at h
|a::ns,r,h=>by
  by_cases ha:a=c
  ·subst ha
   cases r with
  |zero=>exact ⟨0,rfl,by simp⟩
  |succ r=>
    rw [List.count_cons_self] at h
    obtain ⟨s,h1,h2⟩:=DY (c:=a) (ns:=ns) (r:=r) (by exact Nat.le_of_lt_succ ‹_›)
    exact ⟨s+1,by simpa using h1,by rw [List.take_succ_cons,List.count_cons_self,h2]⟩
  ·rw [List.count_cons_of_ne ha] at h
   obtain ⟨s,h1,h2⟩:=DY (c:=c) (ns:=ns) h
   exact ⟨s+1,by simpa using h1,by rw [List.take_succ_cons,List.count_cons_of_ne ha,h2]⟩
theorem Zes {ns:List Int}{s t:Nat}{c:Int}(h:ns[s]?=some c)(h':ns[t]?=some c)(e:(ns.take s).count c=(ns.take t).count c):s=t:=by
 rcases Nat.lt_trichotomy s t with q|q|q
 ·have:=Uw h q;omega
 ·exact q
 ·have:=Uw h' q;lia
theorem NR {ns:List Int}{s l:Nat}(h:ns[s]?=some (l:Int))(h1:1≤l):2*gk ns (l-1)≤cv ns s∧cv ns s<gk ns l:=by
 unfold cv
 rw [Wz h]
 obtain ⟨k,rfl⟩:∃ k,l=k+1:=⟨l-1,by exact qr ‹_›⟩
 have:=Zet h
 refine ⟨by simp,?_⟩
 show _<2*gk ns k+ns.count ((k+1:Nat):Int)
 have:k+1-1=k:=by simp
 rw [this]
 lia
noncomputable def Ym (st:List Nat):Prop:=∀ c∈st,c=48∨c=49
noncomputable def ZR (st:List Nat):Nat:=st.foldl (fun a c=>2*a+(c-48)) 0
theorem Mo (st:List Nat)(c:Nat):ZR (st++[c])=2*ZR st+(c-48):=by simp [ZR]
theorem XF (v l:Nat):(ZV v l).length=l:=by simp [ZV]
theorem Nx (v l:Nat):ZV v (l+1)=ZV (v / 2) l++[48+v % 2]:=by
 unfold ZV
 rw [List.range_succ,List.map_append]
 congr 1
 ·refine List.map_congr_left fun i hi=>?_
  rw [List.mem_range] at hi
  rw [show l+1-1-i=(l-1-i)+1 from qDe hi,Nat.pow_succ,Nat.mul_comm,← Nat.div_div_eq_div_mul]
 ·simp
theorem Qw:∀ l v,v<2^l→ZR (ZV v l)=v
|0,v,h=>by
  rw [Nat.pow_zero] at h
  have:v=0:=by lia
  subst this
  rfl
|l+1,v,h=>by
  rw [Nx,Mo,Qw l (v / 2) (by rw [Nat.pow_succ] at h;grind)]
  grind
theorem ZgI {P:List Nat→Prop}(h0:P [])(h1:∀ t c,P t→P (t++[c]))(t:List Nat):P t:=by
 have:∀ l:List Nat,P l.reverse:=fun l=>by
  induction l with
 |nil=>exact h0
 |cons a l ih=>rw [List.reverse_cons];exact h1 _ _ ih
 simpa using this t.reverse
theorem JD (t:List Nat):Ym t→ZV (ZR t) t.length=t∧ZR t<2^t.length:=by
 refine ZgI (P:=fun t=>Ym t→ZV (ZR t) t.length=t∧ZR t<2^t.length) (fun _=>⟨rfl,by decide⟩) (fun t c ih hb=>?_) t
 obtain ⟨i1,i2⟩:=ih fun d hd=>hb d (List.mem_append_left _ hd)
 have hc:=hb c (by simp)
 rw [Mo,List.length_append,List.length_singleton,Nx,Nat.pow_succ]
 refine ⟨?_,by exact Internal.qAj ‹_› ‹_›⟩
 rw [show (2*ZR t+(c-48)) / 2=ZR t by exact Internal.qE ‹_›,i1,show 48+(2*ZR t+(c-48)) % 2=c by exact Internal.qD ‹_›]
theorem Ym.take {st:List Nat}(h:Ym st)(k:Nat):Ym (st.take k):=fun c hc=>h c (List.mem_of_mem_take hc)
theorem Ym.drop {st:List Nat}(h:Ym st)(k:Nat):Ym (st.drop k):=fun c hc=>h c (List.mem_of_mem_drop hc)
theorem Qq {st:List Nat}{k v:Nat}(hb:Ym st)(hv:v<2^k):st.take k=ZV v k↔k≤st.length∧ZR (st.take k)=v:=by
 constructor
 ·intro h
  have hl:=congrArg List.length h
  rw [XF,List.length_take] at hl
  exact ⟨by grind,by rw [h,Qw k v hv]⟩
 ·rintro ⟨h1,rfl⟩
  have:=(JD _ (hb.take k)).1
  rw [List.length_take,Nat.min_eq_left h1] at this
  exact this.symm
theorem Qx {st:List Nat}{k c:Nat}(h:st[k]?=some c):ZR (st.take (k+1))=2*ZR (st.take k)+(c-48):=by
 rw [Xm h,Mo]
theorem Mp {st:List Nat}(hb:Ym st):∀ {k},k+1≤st.length→ZR (st.take (k+1)) / 2=ZR (st.take k):=fun {k} h=>by
 obtain ⟨c,hc⟩:∃ c,st[k]?=some c:=⟨_,List.getElem?_eq_getElem ‹_›⟩
 have:=hb c (List.mem_of_getElem? hc)
 rw [Qx hc];exact Internal.qE ‹_›
theorem Mn {ns:List Int}{st:List Nat}(hb:Ym st):∀ d j,j+d≤st.length→gk ns (j+d)≤ZR (st.take (j+d))→gk ns j≤ZR (st.take j)
|0,j,_,h=>h
|d+1,j,hl,h=>by
  refine Mn hb d j (by exact Nat.le_of_lt ‹_›) ?_
  have:=Mp hb (k:=j+d) ‹_›
  have h':2*gk ns (j+d)+ns.count ((j+d+1:Nat):Int)≤ZR (st.take (j+d+1)):=h
  exact Internal.qAn ‹_› ‹_›
section
variable {ns:List Int}{L:Nat}{st:List Nat}
noncomputable def YN (ns:List Int)(st:List Nat)(j:Nat):Prop:=1≤j∧j≤st.length∧2*gk ns (j-1)≤ZR (st.take j)∧ZR (st.take j)<gk ns j
theorem YN.unique (hb:Ym st){j k:Nat}(h:YN ns st j)(h':YN ns st k):j=k:=by
 have key:∀ {j k:Nat},YN ns st j→YN ns st k→j<k→False:=fun {j k} h h' hlt=>by
  obtain ⟨a1,a2,a3,a4⟩:=h
  obtain ⟨b1,b2,b3,b4⟩:=h'
  obtain ⟨m,rfl⟩:∃ m,k=m+1:=⟨k-1,by exact qr ‹_›⟩
  have e:=Mp hb (k:=m) b2
  have:gk ns m≤ZR (st.take m):=by
   rw [show m+1-1=m by simp] at b3;lia
  have:=Mn hb (m-j) j (by exact Internal.qBb ‹_› ‹_›) (by rw [show j+(m-j)=m by grind];exact this)
  lia
 rcases Nat.lt_trichotomy j k with q|q|q
 ·exact (key h h' q).elim
 ·exact q
 ·exact (key h' h q).elim
noncomputable def Xp (ns:List Int)(st:List Nat)(s:Nat):Prop:=∃ l:Nat,ns[s]?=some (l:Int)∧1≤l∧l≤st.length∧ZR (st.take l)=cv ns s
theorem Xp.lev {s:Nat}(h:Xp ns st s):∃ l:Nat,ns[s]?=some (l:Int)∧YN ns st l∧ZR (st.take l)=cv ns s:=by
 obtain ⟨l,h1,h2,h3,h4⟩:=h
 have:=NR h1 h2
 exact ⟨l,h1,⟨h2,h3,by omega,by lia⟩,h4⟩
theorem Xp.unique (hb:Ym st){s t:Nat}(h:Xp ns st s)(h':Xp ns st t):s=t:=by
 obtain ⟨l,h1,h2,h3⟩:=h.lev
 obtain ⟨l',g1,g2,g3⟩:=h'.lev
 obtain rfl:=YN.unique hb h2 g2
 refine Zes h1 g1 ?_
 rw [h3] at g3
 unfold cv at g3
 rw [Wz h1,Wz g1] at g3
 grind
theorem YN.mat {j:Nat}(h:YN ns st j):∃ s,Xp ns st s∧ns[s]?=some (j:Int)∧Yy ns s j+2*gk ns (j-1)=Z6 ns j+ZR (st.take j):=by
 obtain ⟨a1,a2,a3,a4⟩:=h
 obtain ⟨m,rfl⟩:∃ m,j=m+1:=⟨j-1,by exact qr ‹_›⟩
 have e:gk ns (m+1)=2*gk ns m+ns.count ((m+1:Nat):Int):=rfl
 rw [show m+1-1=m by simp +arith] at a3 ⊢
 obtain ⟨s,h1,h2⟩:=DY (c:=((m+1:Nat):Int)) (ns:=ns) (r:=ZR (st.take (m+1))-2*gk ns m) (by exact Internal.qAm ‹_› ‹_› ‹_›)
 refine ⟨s,⟨m+1,h1,a1,a2,?_⟩,h1,?_⟩
 ·unfold cv
  rw [Wz h1,h2,show m+1-1=m by simp]
  exact Internal.qAl ‹_›
 ·unfold Yy
  rw [h2]
  exact Internal.qQ ‹_›
theorem BP (hb:Ym st)(hg:gk ns L=2^L)(hL:L≤st.length):∃ j,j≤L∧YN ns st j:=by
 have hv:ZR (st.take L)<gk ns L:=by
  rw [hg]
  have:=(JD _ (hb.take L)).2
  rw [List.length_take,Nat.min_eq_left hL] at this
  exact this
 have go:∀ k,k≤st.length→ZR (st.take k)<gk ns k→∃ j,j≤k∧YN ns st j:=by
  intro k
  induction k with
 |zero=>intro _ h;exact absurd h (Nat.not_lt_zero _)
 |succ k ih=>
   intro hk h
   by_cases q:ZR (st.take k)<gk ns k
   ·obtain ⟨j,h1,h2⟩:=ih (by exact Nat.le_of_lt ‹_›) q
    exact ⟨j,by grind,h2⟩
   ·have:=Mp hb hk
    exact ⟨k+1,Nat.le_refl _,by simp,hk,by rw [show k+1-1=k by simp];grind,h⟩
 exact go L hL hv
end
noncomputable abbrev DS (ns:List Int)(L:Nat):List (Int×List Nat):=(Y6 ns L).map (Xg ns L)
theorem Wn {ns:List Int}{L:Nat}:((DS ns L).map Prod.fst).Nodup:=by
 rw [Hr];exact Cb (JP L)
theorem Cd {α β:Type}{f:α→β}:∀ {l:List α},(l.map f).Nodup→l.Nodup
|[],_=>List.nodup_nil
|a::l,h=>by
  rw [List.map_cons,List.nodup_cons] at h
  exact List.nodup_cons.mpr ⟨fun q=>h.1 (List.mem_map_of_mem q),Cd h.2⟩
theorem N3 {α:Type}{p:α→Bool}{a:α}:∀ {l:List α},l.Nodup→a∈l→p a=true→(∀ b∈l,p b=true→b=a)→l.filter p=[a]
|[],_,h,_,_=>by cases h
|x::l,hn,ha,hp,hu=>by
  rw [List.nodup_cons] at hn
  rcases List.mem_cons.mp ha with rfl|ha
  ·rw [List.filter_cons_of_pos hp]
   congr 1
   refine List.filter_eq_nil_iff.mpr fun b hb q=>hn.1 ?_
   rw [← hu b (List.mem_cons_of_mem _ hb) q];exact hb
  ·have hx:¬ p x=true:=fun q=>hn.1 (by rw [hu x List.mem_cons_self q];exact ha)
   rw [List.filter_cons_of_neg hx]
   exact N3 hn.2 ha hp fun b hb=>hu b (List.mem_cons_of_mem _ hb)
section
variable {ns:List Int}{L:Nat}{st:List Nat}
theorem Gw {s l:Nat}(h:ns[s]?=some (l:Int))(h1:1≤l)(h2:l≤L):Xg ns L s∈DS ns L:=by
 refine List.mem_map_of_mem (UM.mpr ⟨l-1,by lia,ZL h,?_⟩)
 rw [YS h];congr 1;exact qr ‹_›
theorem VT {d:Int×List Nat}(h:d∈DS ns L):∃ s l:Nat,ns[s]?=some (l:Int)∧1≤l∧l≤L∧d=Xg ns L s:=by
 obtain ⟨s,h1,rfl⟩:=List.mem_map.mp h
 obtain ⟨i,h2,h3,h4⟩:=UM.mp h1
 refine ⟨s,i+1,?_,by simp,by assumption,rfl⟩
 rw [← h4,List.getD_eq_getElem?_getD,List.getElem?_eq_getElem h3];rfl
theorem VK {s l:Nat}(h:ns[s]?=some (l:Int))(h1:1≤l)(h2:l≤L):Xg ns L s=((s:Int),ZV (cv ns s) l):=by
 unfold Xg
 rw [Sc h h1 h2,Wz h]
theorem Gq (hg:gk ns L=2^L){s l:Nat}(h:ns[s]?=some (l:Int))(h1:1≤l)(h2:l≤L):cv ns s<2^l:=Nat.lt_of_lt_of_le (NR h h1).2 (ZbK hg h2)
theorem UA (hg:gk ns L=2^L)(hb:Ym st){s l:Nat}(h:ns[s]?=some (l:Int))(h1:1≤l)(h2:l≤L):st.take (Xg ns L s).2.length=(Xg ns L s).2↔Xp ns st s:=by
 rw [VK h h1 h2]
 show st.take (ZV (cv ns s) l).length=ZV (cv ns s) l↔_
 rw [XF,Qq hb (Gq hg h h1 h2)]
 constructor
 ·rintro ⟨a,b⟩;exact ⟨l,h,h1,a,b⟩
 ·rintro ⟨l',g,g1,g2,g3⟩
  have:l'=l:=by rw [h] at g;injection g with g;grind
  subst this
  exact ⟨g2,g3⟩
theorem ZbP (hg:gk ns L=2^L)(hb:Ym st)(hl:st.length=L):(XM st (DS ns L)).length=1:=by
 obtain ⟨j,hj,lv⟩:=BP hb hg (by lia)
 obtain ⟨s,m,hs,_⟩:=lv.mat
 have:XM st (DS ns L)=[Xg ns L s]:=by
  refine N3 (Cd Wn) (Gw hs lv.1 hj) (decide_eq_true ((UA hg hb hs lv.1 hj).mpr m)) fun d hd q=>?_
  obtain ⟨t,l,ht,a1,a2,rfl⟩:=VT hd
  have:=(UA hg hb ht a1 a2).mp (of_decide_eq_true q)
  rw [Xp.unique hb m this]
 rw [this];rfl
theorem B5 (hg:gk ns L=2^L)(hb:Ym st){s l:Nat}(h:ns[s]?=some (l:Int))(h1:1≤l)(h2:l≤L)(m:Xp ns st s):XR (DS ns L) st=some (Xg ns L s):=by
 unfold XR
 cases q:(DS ns L).find? fun d=>decide (st.take d.2.length=d.2) with
|none=>
  rw [List.find?_eq_none] at q
  exact absurd (decide_eq_true ((UA hg hb h h1 h2).mpr m)) (q _ (Gw h h1 h2))
|some d=>
  have q1:=List.find?_some q
  obtain ⟨t,l',ht,a1,a2,rfl⟩:=VT (List.mem_of_find?_eq_some q)
  rw [Xp.unique hb m ((UA hg hb ht a1 a2).mp (of_decide_eq_true q1))]
theorem B4 (hg:gk ns L=2^L)(hb:Ym st)(h:∀ j,j≤L→¬ YN ns st j):XR (DS ns L) st=none:=by
 unfold XR
 rw [List.find?_eq_none]
 intro d hd q
 obtain ⟨t,l',ht,a1,a2,rfl⟩:=VT hd
 obtain ⟨l,g,lv,_⟩:=((UA hg hb ht a1 a2).mp (of_decide_eq_true q)).lev
 have:l=l':=by rw [ht] at g;injection g with g;grind
 exact h l (by exact Internal.qBt ‹_› ‹_›) lv
theorem Zeu (hg:gk ns L=2^L)(hb:Ym st){bit:Nat→Option Int}{p0:Nat}(hbit:∀ j,bit (p0+j)=st[j]?.map fun c=>((c-48:Nat):Int)) :
  ∀ m k,k+m=L→k≤st.length→gk ns k≤ZR (st.take k) →
   (∃ (j s:Nat),j≤L∧YN ns st j∧ns[s]?=some (j:Int)∧Xp ns st s∧Yr (Zj L ns) bit m (k+1) (ZR (st.take k):Nat) (2*gk ns k:Nat) (Z6 ns ((k+1:Nat):Int):Nat) (p0+k)=.sym (Yy ns s j:Nat) (p0+j)) ∨
   (Yr (Zj L ns) bit m (k+1) (ZR (st.take k):Nat) (2*gk ns k:Nat) (Z6 ns ((k+1:Nat):Int):Nat) (p0+k)=.cut∧∀ j,j≤L→¬ YN ns st j):=by
 intro m
 induction m with
|zero=>
  intro k hk hl h
  obtain rfl:k=L:=by assumption
  have:=(JD _ (hb.take k)).2
  rw [List.length_take,Nat.min_eq_left hl] at this
  omega
|succ m ih=>
  intro k hk hl h
  rw [DZ,hbit]
  cases hc:st[k]? with
 |none=>
   right
   refine ⟨rfl,fun j hj lv=>?_⟩
   have e:st.length≤k:=List.getElem?_eq_none_iff.mp hc
   have:=lv.2.1
   have:=Mn (ns:=ns) hb (k-j) j (by exact Internal.qBd ‹_› ‹_› ‹_›) (by rw [show j+(k-j)=k by exact Internal.qBc ‹_› ‹_›];exact h)
   have:=lv.2.2.2
   grind
 |some c=>
   have hlt:=ZL hc
   have hv:=Qx hc
   have hcc:=hb c (List.mem_of_getElem? hc)
   simp only [Option.map_some,Option.elim_some]
   have e1:((ZR (st.take k):Nat):Int)*2+((c-48:Nat):Int)=((ZR (st.take (k+1)):Nat):Int):=by rw [hv];simp +arith
   have e2:(Zj L ns).getD (k+1) 0=(ns.count ((k+1:Nat):Int):Int):=YS (X2 (by exact Internal.qCs ‹_›))
   have eg:gk ns (k+1)=2*gk ns k+ns.count ((k+1:Nat):Int):=rfl
   rw [e1,e2]
   by_cases q:ZR (st.take (k+1))<gk ns (k+1)
   ·left
    have lv:YN ns st (k+1):=⟨by simp,by assumption,by rw [show k+1-1=k by simp];grind,q⟩
    obtain ⟨s,m1,m2,m3⟩:=lv.mat
    refine ⟨k+1,s,by grind,lv,m2,m1,?_⟩
    rw [if_pos (by grind)]
    rw [show k+1-1=k by simp] at m3
    congr 1
    lia
   ·rw [if_neg (by lia)]
    have eb:(Z6 ns ((k+1:Nat):Int):Int)+(ns.count ((k+1:Nat):Int):Int)=((Z6 ns ((k+1+1:Nat):Int):Nat):Int):=by
     rw [show (((k+1+1:Nat)):Int)=((k+1:Nat):Int)+1 by rfl,JB ns (by lia)];simp
    have ef:(((2*gk ns k:Nat):Int)+(ns.count ((k+1:Nat):Int):Int))*2=((2*gk ns (k+1):Nat):Int):=by rw [eg];simp +arith
    rw [eb,ef]
    exact ih (k+1) (by exact Internal.qCt ‹_›) ‹_› (by exact Nat.le_of_not_lt ‹_›)
end
theorem Zed (b:UInt8){i:Nat}(h:i<8):(WZ b)[i]?=some (48+b.toNat / 2^i % 2):=by simp [WZ,List.getElem?_range h]
noncomputable def XE (l:List UInt8)(p:Nat):Nat:=(l.getD (p / 8) 0).toNat / 2^(p % 8) % 2
theorem Ge:∀ (l:List UInt8) (p:Nat),p<8*l.length→(ZW l)[p]?=some (48+XE l p)
|[],p,h=>by simp at h
|b::l,p,h=>by
  show (WZ b++ZW l)[p]?=_
  by_cases q:p<8
  ·rw [List.getElem?_append_left (by rw [Je];exact q),Zed b q]
   unfold XE
   rw [Nat.div_eq_of_lt q,Nat.mod_eq_of_lt q];rfl
  ·rw [List.getElem?_append_right (by rw [Je];exact Nat.le_of_not_lt ‹_›),Je,Ge l (p-8) (by rw [List.length_cons] at h;exact Internal.qAy ‹_› ‹_›)]
   unfold XE
   have e1:p / 8=(p-8) / 8+1:=by exact Internal.qL ‹_›
   have e2:p % 8=(p-8) % 8:=by exact Internal.qM ‹_›
   rw [e1,e2];rfl
theorem RT (l:List UInt8)(p:Nat):Z1 l p=(ZW l)[p]?.map fun c=>((c-48:Nat):Int):=by
 unfold Z1
 by_cases h:p<8*l.length
 ·rw [if_pos h,Ge l p h]
  simp only [Option.map_some]
  rw [show 48+XE l p-48=XE l p by exact Nat.add_sub_cancel_left ..]
  rfl
 ·rw [if_neg h,List.getElem?_eq_none (by rw [XG];exact Nat.le_of_not_lt ‹_›)];rfl
theorem Ut (l:List UInt8):Ym (ZW l):=by
 intro c hc
 obtain ⟨i,hi⟩:=List.getElem?_of_mem hc
 have hlt:i<8*l.length:=by rw [← XG];exact ZL hi
 rw [Ge l i hlt] at hi
 injection hi with hi
 have:XE l i<2:=Nat.mod_lt _ (by decide)
 grind
section
variable {ns fs:List Int}{L:Nat}{l:List UInt8}
theorem D0 (hg:gk ns L=2^L)(p:Nat) :
  (∃ (j s:Nat),j≤L∧YN ns ((ZW l).drop p) j∧ns[s]?=some (j:Int)∧Xp ns ((ZW l).drop p) s∧Yr (Zj L ns) (Z1 l) L 1 0 0 0 p=.sym (Yy ns s j:Nat) (p+j)) ∨
  (Yr (Zj L ns) (Z1 l) L 1 0 0 0 p=.cut∧∀ j,j≤L→¬ YN ns ((ZW l).drop p) j):=by
 have h:=Zeu hg ((Ut l).drop p) (bit:=Z1 l) (p0:=p) (fun j=>by rw [RT,List.getElem?_drop]) L 0 (by exact qk) (Nat.zero_le _) (Nat.zero_le _)
 have e:Z6 ns ((0+1:Nat):Int)=0:=Nt ns
 rw [e] at h
 exact h
theorem JK (hby:Y2 ns fs){s j:Nat}(hs:ns[s]?=some (j:Int))(h1:1≤j):fs[Yy ns s j]?=some (s:Int):=hby.2 s j hs (by exact Int.ofNat_le.mpr ‹_›)
theorem D1 (hg:gk ns L=2^L)(hby:Y2 ns fs){p p':Nat}{i:Int}(h:Yr (Zj L ns) (Z1 l) L 1 0 0 0 p=.sym i p'):0≤i∧i.toNat<fs.length:=by
 rcases D0 (l:=l) hg p with ⟨j,s,_,lv,hs,_,e⟩|⟨e,_⟩
 ·rw [e] at h
  cases h
  exact ⟨by exact Int.natCast_nonneg _,by rw [Int.toNat_natCast];exact ZL (JK hby hs lv.1)⟩
 ·rw [e] at h;cases h
theorem Zg3 (hg:gk ns L=2^L)(hby:Y2 ns fs){rest:List Nat}:∀ (ss:List Nat) (p:Nat),(∀ s∈ss,∃ j:Nat,ns[s]?=some (j:Int)∧1≤j∧j≤L) →
  (ZW l).drop p=(ss.map fun s=>ZV (cv ns s) (Xv ns s)).flatten++rest→YF (Zj L ns) fs (Z1 l) L ss.length p=(ss.map fun (s:Nat)=>(s:Int),[111,110]):=by
 intro ss
 induction ss with
|nil=>intro p _ _;rfl
|cons s ss IH=>
  intro p hs h
  obtain ⟨j,h0,h1,h2⟩:=hs s List.mem_cons_self
  rw [List.map_cons,List.flatten_cons,Wz h0,List.append_assoc] at h
  have hB:=(Ut l).drop p
  have ht:((ZW l).drop p).take j=ZV (cv ns s) j:=by
   rw [h,List.take_append_of_le_length (by rw [XF];exact Nat.le_refl _),List.take_of_length_le (by rw [XF];exact Nat.le_refl _)]
  have hm:Xp ns ((ZW l).drop p) s:=⟨j,h0,h1,(Qq hB (Gq hg h0 h1 h2)).mp ht⟩
  have hd:(ZW l).drop (p+j)=(ss.map fun s=>ZV (cv ns s) (Xv ns s)).flatten++rest:=by
   rw [← List.drop_drop,h,List.drop_append_of_le_length (by rw [XF];exact Nat.le_refl _),List.drop_of_length_le (by rw [XF];exact Nat.le_refl _),List.nil_append]
  have ih:=IH (p+j) (fun t ht=>hs t (List.mem_cons_of_mem _ ht)) hd
  rw [List.length_cons]
  rcases D0 (l:=l) hg p with ⟨k,t,hk,lv,ht2,mt,e⟩|⟨e,no⟩
  ·obtain rfl:=Xp.unique hB mt hm
   have:k=j:=by rw [h0] at ht2;injection ht2 with q;lia
   subst this
   rw [Mm e,ih,Int.toNat_natCast,YS (JK hby h0 h1)]
   rfl
  ·obtain ⟨k,g,lv,_⟩:=hm.lev
   have:k=j:=by rw [h0] at g;injection g with q;grind
   subst this
   exact (no k h2 lv).elim
end
noncomputable def YK (V N:Nat):List Nat:=(List.range N).map fun i=>48+V / 2^i % 2
theorem Wa (V N:Nat):(YK V N).length=N:=by simp [YK]
theorem GJ (V N:Nat){i:Nat}(h:i<N):(YK V N)[i]?=some (48+V / 2^i % 2):=by simp [YK,List.getElem?_range h]
theorem BV {V v N i:Nat}(h:i<N):(V+v*2^N) / 2^i % 2=V / 2^i % 2:=by
 obtain ⟨d,rfl⟩:∃ d,N=i+(d+1):=⟨N-i-1,by exact Internal.qT ‹_›⟩
 have:v*2^(i+(d+1))=2^i*(v*2^d*2):=by rw [Nat.pow_add,Nat.pow_succ];ac_rfl
 rw [this,Nat.add_mul_div_left _ _ (Nat.two_pow_pos i),Nat.add_mul_mod_self_right]
theorem Bn {V v N i:Nat}(hV:V<2^N):(V+v*2^N) / 2^(N+i)=v / 2^i:=by
 rw [Nat.pow_add,← Nat.div_div_eq_div_mul,Nat.add_mul_div_right _ _ (Nat.two_pow_pos N),Nat.div_eq_of_lt hV,Nat.zero_add]
theorem BW {V v N c:Nat}(hV:V<2^N):YK (V+v*2^N) (N+c)=YK V N++YK v c:=by
 refine List.ext_getElem? fun i=>?_
 by_cases h:i<N+c
 ·rw [GJ _ _ h]
  by_cases q:i<N
  ·rw [List.getElem?_append_left (by rw [Wa];exact q),GJ _ _ q,BV q]
  ·obtain ⟨j,rfl⟩:∃ j,i=N+j:=⟨i-N,by exact qDj ‹_›⟩
   rw [List.getElem?_append_right (by rw [Wa];exact Nat.le_of_not_lt ‹_›),Wa,show N+j-N=j by exact Nat.add_sub_cancel_left ..,GJ _ _ (by lia),Bn hV]
 ·rw [List.getElem?_eq_none (by rw [Wa];exact Nat.le_of_not_lt ‹_›),List.getElem?_eq_none (by rw [List.length_append,Wa,Wa];exact Nat.le_of_not_lt ‹_›)]
theorem C7 (v:Nat):∀ k i,i<k→YL v k / 2^i % 2=v / 2^(k-1-i) % 2
|k+1,0,_=>by
  show (YL v k*2+v / 2^k % 2) / 2^0 % 2=v / 2^(k+1-1-0) % 2
  rw [show k+1-1-0=k by simp,Nat.pow_zero,Nat.div_one];simp
|k+1,i+1,h=>by
  show (YL v k*2+v / 2^k % 2) / 2^(i+1) % 2=_
  rw [Nat.pow_succ,Nat.mul_comm (2^i) 2,← Nat.div_div_eq_div_mul,show (YL v k*2+v / 2^k % 2) / 2=YL v k by exact Internal.qAp,C7 v k i (by exact Nat.le_of_lt_succ ‹_›),show k+1-1-(i+1)=k-1-i by grind]
theorem Zcz (v c:Nat):YK (YL v c) c=ZV v c:=by
 unfold YK ZV
 refine List.map_congr_left fun i hi=>?_
 rw [C7 v c i (List.mem_range.mp hi)]
theorem BD:∀ l:List UInt8,YJ l<2^(8*l.length)
|[]=>by decide
|b::l=>by
  have h1:=BD l
  have h2:=b.toNat_lt
  show b.toNat+256*YJ l<_
  rw [List.length_cons,show 8*(l.length+1)=8*l.length+8 by exact Int.toNat_natCast _,Nat.pow_add]
  have:(2:Nat)^8=256:=by decide
  exact Internal.qBf ‹_› ‹_›
theorem Wr.lt_pow {V N h b:Nat}{l:List UInt8}(w:Wr V N l h b):V<2^N:=by
 have h1:=BD l
 have h2:(h+1)*2^(8*l.length)≤2^b*2^(8*l.length):=Nat.mul_le_mul_right _ w.lt
 rw [w.num,w.len,Nat.pow_add,Nat.mul_comm (2^(8*l.length)) (2^b),Nat.mul_comm (2^(8*l.length)) h]
 rw [Nat.add_mul] at h2
 lia
theorem Nw:∀ (l:List UInt8) (p:Nat),XE l p=YJ l / 2^p % 2
|[],p=>by rw [show YJ []=0 from rfl];simp [XE]
|b::l,p=>by
  have hb:=b.toNat_lt
  show _=(b.toNat+256*YJ l) / 2^p % 2
  by_cases q:p<8
  ·unfold XE
   rw [Nat.div_eq_of_lt q,Nat.mod_eq_of_lt q]
   have:=BV (V:=b.toNat) (v:=YJ l) (N:=8) q
   rw [show YJ l*2^8=256*YJ l by rw [show (2:Nat)^8=256 by decide,Nat.mul_comm]] at this
   rw [this];rfl
  ·have ih:=Nw l (p-8)
   have e:XE (b::l) p=XE l (p-8):=by
    unfold XE
    have e1:p / 8=(p-8) / 8+1:=by exact Internal.qL ‹_›
    have e2:p % 8=(p-8) % 8:=by exact Internal.qM ‹_›
    rw [e1,e2];rfl
   have:=Bn (V:=b.toNat) (v:=YJ l) (N:=8) (i:=p-8) (by rw [show (2:Nat)^8=256 by decide];exact hb)
   rw [show YJ l*2^8=256*YJ l by rw [show (2:Nat)^8=256 by decide,Nat.mul_comm],show 8+(p-8)=p by exact Internal.qN ‹_›] at this
   rw [e,ih,this]
theorem RV (l:List UInt8):ZW l=YK (YJ l) (8*l.length):=by
 refine List.ext_getElem? fun i=>?_
 by_cases h:i<8*l.length
 ·rw [Ge l i h,GJ _ _ h,Nw]
 ·rw [List.getElem?_eq_none (by rw [XG];exact Nat.le_of_not_lt ‹_›),List.getElem?_eq_none (by rw [Wa];exact Nat.le_of_not_lt ‹_›)]
noncomputable def Yq (l:List UInt8)(h b:Nat):List UInt8:=l++if 0<(b:Int) then [(h:Int).toNat.toUInt8] else []
theorem CM {V N h b:Nat}{l:List UInt8}(w:Wr V N l h b)(hb:b<8):ZW (Yq l h b)=YK V N++List.replicate (8*(Yq l h b).length-N) 48∧N≤8*(Yq l h b).length∧(Yq l h b).length≤l.length+1:=by
 have hh:h<256:=Nat.lt_of_lt_of_le w.lt (Nat.pow_le_pow_right (by decide) (show b≤8 by exact Nat.le_of_lt ‹_›))
 have e:YJ (Yq l h b)=V∧N≤8*(Yq l h b).length∧(Yq l h b).length≤l.length+1:=by
  unfold Yq
  by_cases q:0<b
  ·rw [if_pos (by exact Int.ofNat_lt.mpr ‹_›),BE,w.num,w.len,List.length_append,List.length_singleton]
   refine ⟨?_,by exact Internal.qBl ‹_›,by exact Nat.le_refl _⟩
   congr 2
   rw [Int.toNat_natCast]
   show (UInt8.ofNat h).toNat=h
   rw [UInt8.toNat_ofNat'];exact Nat.mod_eq_of_lt hh
  ·have:b=0:=by lia
   subst this
   have:=w.lt
   rw [Nat.pow_zero] at this
   have h0:h=0:=by lia
   subst h0
   rw [if_neg (by simp),List.append_nil,w.num,w.len]
   exact ⟨by exact Int.toNat_natCast _,by exact Nat.le_refl _,by exact Nat.le_succ _⟩
 refine ⟨?_,e.2⟩
 rw [RV,e.1]
 have:=BW (V:=V) (v:=0) (N:=N) (c:=8*(Yq l h b).length-N) w.lt_pow
 rw [Nat.zero_mul,Nat.add_zero,show N+(8*(Yq l h b).length-N)=8*(Yq l h b).length by have:=e.2;exact Internal.qAq ‹_›] at this
 rw [this]
 congr 1
 unfold YK
 rw [show (fun i=>48+0 / 2^i % 2)=fun (_:Nat)=>48 from funext fun i=>by rw [Nat.zero_div],List.map_const',List.length_range]
theorem C9 (ns:List Int)(L:Nat):Y1 1 ((Zj L ns).drop 1)=(2^L:Nat)-(gk ns L:Int):=by
 have e:(Zj L ns).drop 1=(List.range L).map fun (k:Nat)=>(ns.count ((k+1:Nat):Int):Int):=by
  unfold Zj
  rw [List.range_succ_eq_map,List.map_cons,List.drop_succ_cons,List.drop_zero,List.map_map]
  rfl
 rw [e]
 induction L with
|zero=>rfl
|succ L ih=>
  have ih':=ih (by
   unfold Zj
   rw [List.range_succ_eq_map,List.map_cons,List.drop_succ_cons,List.drop_zero,List.map_map]
   rfl)
  rw [List.range_succ,List.map_append,List.map_cons,List.map_nil,C8,ih',VO,Nat.pow_succ]
  grind
theorem Bh (a:Int)(ns:List Int):∀ k:Nat,gk (a::ns) k=gk ns k+if 1≤a∧a≤k then 2^(k-a.toNat) else 0
|0=>by rw [if_neg (by omega)];rfl
|k+1=>by
  rw [VO,VO,Bh a ns k,List.count_cons]
  by_cases h1:1≤a∧a≤k
  ·have n1:¬ (a==((k+1:Nat):Int))=true:=by rw [beq_iff_eq];omega
   have n2:1≤a∧a≤((k+1:Nat):Int):=by lia
   rw [if_pos h1,if_neg n1,if_pos n2,show k+1-a.toNat=(k-a.toNat)+1 by exact Internal.qAe ‹_›,Nat.pow_succ];exact qDd
  ·rw [if_neg h1]
   by_cases h2:a=((k+1:Nat):Int)
   ·have n1:(a==((k+1:Nat):Int))=true:=by rw [beq_iff_eq];exact h2
    have n2:1≤a∧a≤((k+1:Nat):Int):=qDk h2
    rw [if_pos n1,if_pos n2,show k+1-a.toNat=0 by exact Internal.qAf ‹_›,Nat.pow_zero];exact Int.toNat_natCast _
   ·have n1:¬ (a==((k+1:Nat):Int))=true:=by rw [beq_iff_eq];exact h2
    have n2:¬ (1≤a∧a≤((k+1:Nat):Int)):=qDl h1 h2
    rw [if_neg n1,if_neg n2];exact Int.toNat_natCast _
theorem Un {L:Nat}:∀ {ns:List Int},(∀ c∈ns,c≤L)→Yz L ns=gk ns L
|[],_=>by
  have:∀ k,gk [] k=0:=fun k=>by
   induction k with
  |zero=>rfl
  |succ k ih=>rw [VO,ih];rfl
  rw [this];rfl
|a::ns,h=>by
  have ha:=h a List.mem_cons_self
  rw [Bh,← Un (fun c hc=>h c (List.mem_cons_of_mem _ hc))]
  show Wb L a+Yz L ns=_
  unfold Wb
  by_cases q:0<a
  ·rw [if_pos q,if_pos (by lia)];exact Nat.add_comm ..
  ·rw [if_neg q,if_neg (by lia)];exact qk
theorem Hj {ns:List Int}{m:Nat}(h:∀ c∈ns,c≤m):∀ d,gk ns (m+d)=2^d*gk ns m
|0=>by simp
|d+1=>by
  rw [← Nat.add_assoc,VO,Hj h d,List.count_eq_zero.mpr fun q=>by have:=h _ q;lia,Nat.pow_succ,Nat.mul_comm (2^d) 2,Nat.mul_assoc];simp
theorem Wv {ns:List Int}(h:Xo ns):gk ns (Zk ns).toNat=2^(Zk ns).toNat∧1≤(Zk ns).toNat∧(Zk ns).toNat≤6∧Zk ns=((Zk ns).toNat:Int)∧ZO (Zk ns).toNat ns:=by
 obtain ⟨h1,h2,h3⟩:=h
 have hR:ZO 6 ns:=fun c hc=>by have:=h2 c hc;assumption
 have g0:=Hk ns
 have g6:=Bm hR
 have e6:gk ns 6=64:=by rw [← Un (L:=6) (fun c hc=>(hR c hc).2)];exact h3
 have hi:=Bl hR
 have ea:=Hj (ns:=ns) (m:=(Zk ns).toNat) (fun c hc=>(hi c hc).2) (6-(Zk ns).toNat)
 rw [show (Zk ns).toNat+(6-(Zk ns).toNat)=6 by exact qDi ‹_›,e6] at ea
 have:(64:Nat)=2^(6-(Zk ns).toNat)*2^(Zk ns).toNat:=by rw [← Nat.pow_add,show 6-(Zk ns).toNat+(Zk ns).toNat=6 by exact Internal.qBm ‹_›]
 rw [this] at ea
 have eg:=Nat.eq_of_mul_eq_mul_left (Nat.two_pow_pos _) ea
 refine ⟨eg.symm,?_,by exact Internal.qBn ‹_›,by exact (Int.toNat_of_nonneg ‹_›).symm,hi⟩
 cases q:(Zk ns).toNat with
|zero=>rw [q] at eg;exact absurd eg (show ¬ (1=0) by decide)
|succ k=>simp
theorem Qv:∀ {ns:List Int},(∀ c∈ns,0≤c)→YV ns=(Yd ns).length
|[],_=>rfl
|a::ns,h=>by
  have ih:=Qv (ns:=ns) fun c hc=>h c (List.mem_cons_of_mem _ hc)
  have ha:=h a List.mem_cons_self
  unfold YV Yd at ih ⊢
  rw [List.length_cons,List.count_cons,List.filter_cons]
  by_cases q:a=0
  ·subst q;simp at ih ⊢;grind
  ·rw [if_neg (by simpa using q),if_pos (by simp;omega),List.length_cons];simp at ih ⊢;grind
theorem Zg4 (ns:List Int):(Yd ns).count 1=ns.count 1:=by
 unfold Yd
 rw [List.count_filter (by decide)]
theorem Mg (L:Nat):∀ ns:List Int,Yz L (Yd ns)=Yz L ns
|[]=>rfl
|a::ns=>by
  have ih:=Mg L ns
  unfold Yd at ih ⊢
  rw [List.filter_cons]
  show _=Wb L a+Yz L ns
  by_cases q:0<a
  ·rw [if_pos (by simpa using q)]
   show Wb L a+Yz L _=_
   rw [ih]
  ·rw [if_neg (by simpa using q),ih]
   unfold Wb;rw [if_neg q];exact (Nat.zero_add _).symm
theorem Zei {l:List Int}:l=[1]↔l.length=1∧l.count 1=1:=by
 constructor
 ·rintro rfl;exact ⟨rfl,rfl⟩
 ·rintro ⟨h1,h2⟩
  match l,h1 with
 |[a],_=>
   by_cases q:a=1
   ·rw [q]
   ·rw [List.count_cons_of_ne (by simpa using q)] at h2;cases h2
theorem JT {ns:List Int}{m d:Nat}{lone:Bool}(hm:1≤m)(hR:ZO m ns):Yc (m+d) ns lone=Y7 m ns lone:=by
 have hu:=Qv (ns:=ns) fun c hc=>(hR c hc).1
 have hc:=Zg4 ns
 have hs:=Un (L:=m) (ns:=ns) fun c hc=>(hR c hc).2
 have ha:=Hj (ns:=ns) (m:=m) (fun c hc=>(hR c hc).2) d
 have hroom:=C9 ns (m+d)
 have e2:((2^(m+d):Nat):Int)-(gk ns (m+d):Int)=(2^d:Nat)*(((2^m:Nat):Int)-(Yz m ns:Int)):=by
  rw [ha,hs,Nat.pow_add,Int.mul_sub]
  push_cast
  rw [Int.mul_comm (2^m) (2^d)]
 rw [e2] at hroom
 have hd:(0:Int)<(2^d:Nat):=by exact_mod_cast Nat.two_pow_pos d
 have el:(1:Int)*2^((m:Int)).toNat=((2^m:Nat):Int):=by rw [Int.toNat_natCast,Int.one_mul];push_cast;rfl
 unfold Y7
 rw [el]
 by_cases h0:Yd ns=[]
 ·rw [JS (by rw [hu,h0];rfl),h0];simp
 ·have h1:¬ YV ns=0:=by
   rw [hu]
   intro q
   exact h0 (List.length_eq_zero_iff.mp (by exact_mod_cast q))
  have hone:Yd ns=[1]→Yz m ns<2^m:=fun q=>by
   rw [← Mg,q]
   show Wb m 1+0<_
   unfold Wb
   rw [if_pos (by decide)]
   obtain ⟨k,rfl⟩:∃ k,m=k+1:=⟨m-1,by exact qr ‹_›⟩
   rw [Nat.pow_succ,show k+1-(1:Int).toNat=k from rfl]
   have:=Nat.two_pow_pos k
   lia
  rcases Int.lt_trichotomy (((2^m:Nat):Int)-(Yz m ns:Int)) 0 with q|q|q
  ·rw [NH h1 (by rw [hroom];exact Int.mul_neg_of_pos_of_neg hd q)]
   have n1:¬ Yd ns=[1]:=fun z=>by have:=hone z;grind
   rw [decide_eq_false h0,decide_eq_false n1,decide_eq_false (by grind)];simp
  ·rw [NI h1 (by rw [hroom,q];simp) (by rw [hroom,q];simp)]
   rw [decide_eq_false h0,decide_eq_true (show ((Yz m ns:Nat):Int)=((2^m:Nat):Int) by grind)];simp
  ·rw [Uv h1 (by rw [hroom];have:=Int.mul_pos hd q;grind) (by rw [hroom];exact Int.mul_pos hd q)]
   rw [decide_eq_false h0,decide_eq_false (show ¬ ((Yz m ns:Nat):Int)=((2^m:Nat):Int) by omega)]
   have:(decide (YV ns=1)&&decide ((ns.count 1:Int)=1))=decide (Yd ns=[1]):=by
    rw [hu,← hc,← Bool.decide_and]
    refine decide_eq_decide.mpr ?_
    rw [Zei];lia
   rw [this];simp
theorem Zfj {ns:List Int}{m:Nat}(hR:ZO m ns):Y1 1 ((Zj m ns).drop 1)=(1:Int)*2^((m:Int)).toNat-(Yz m ns:Int):=by
 rw [C9,Un fun c hc=>(hR c hc).2,Int.toNat_natCast,Int.one_mul]
 push_cast;rfl
theorem Qa:∀ t,∀ r∈Ys t,Ym r
|0,r,h=>by
  cases List.mem_singleton.mp h
  intro c hc;cases hc
|t+1,r,h=>by
  rw [D7,List.mem_flatMap] at h
  obtain ⟨a,h1,h2⟩:=h
  have:=Qa t a h1
  simp at h2
  rcases h2 with rfl|rfl <;>
   ·intro c hc
    rcases List.mem_append.mp hc with q|q
    ·exact this c q
    ·rw [List.mem_singleton.mp q];simp
theorem ZaZ {ns:List Int}{L:Nat}(hg:gk ns L=2^L):∀ r∈Ys L,(XM r (DS ns L)).length=1:=fun r h=>ZbP hg (Qa L r h) (Jh L r h)
section
variable {ns fs:List Int}{L:Nat}{l:List UInt8}
theorem C2 (hg:gk ns L=2^L):∀ m (st:List Nat),Ym st→st.length<m→∃ ss,ss.length≤st.length∧Reads (DS ns L) st ss:=by
 intro m
 induction m with
|zero=>intro st _ h;contradiction
|succ m ih=>
  intro st hb hm
  by_cases h:∃ j,j≤L∧YN ns st j
  ·obtain ⟨j,hj,lv⟩:=h
   obtain ⟨s,mt,hs,_⟩:=lv.mat
   have h1:=lv.1
   have h2:=lv.2.1
   have e2:=B5 hg hb hs h1 hj mt
   rw [VK hs h1 hj] at e2
   obtain ⟨ss,g1,g2⟩:=ih (st.drop j) (hb.drop j) (by rw [List.length_drop];exact Internal.qAz ‹_› ‹_› ‹_›)
   rw [List.length_drop] at g1
   refine ⟨(s:Int)::ss,by rw [List.length_cons];grind,Reads.more e2 ?_⟩
   show Reads _ (st.drop (ZV (cv ns s) j).length) ss
   rw [XF]
   exact g2
  ·exact ⟨[],Nat.zero_le _,Reads.stop (B4 hg hb fun j hj lv=>h ⟨j,hj,lv⟩)⟩
theorem Qt (hg:gk ns L=2^L)(hby:Y2 ns fs):∀ m p ss,p≤8*l.length→8*l.length-p<m→Reads (DS ns L) ((ZW l).drop p) ss→YF (Zj L ns) fs (Z1 l) L m p=(ss,[99,117,116]):=by
 intro m
 induction m with
|zero=>intro p ss _ h;contradiction
|succ m ih=>
  intro p ss hp hm hr
  have hB:=(Ut l).drop p
  rcases D0 (l:=l) hg p with ⟨j,s,hj,lv,hs,mt,e⟩|⟨e,no⟩
  ·have hl:=lv.2.1
   rw [List.length_drop,XG] at hl
   have h1:=lv.1
   have e2:=B5 hg hB hs h1 hj mt
   rw [VK hs h1 hj] at e2
   cases hr with
  |stop q=>rw [e2] at q;cases q
  |@more _ d ss' q r=>
    rw [e2] at q
    cases q
    have r':Reads (DS ns L) ((ZW l).drop (p+j)) ss':=by
     have r2:Reads (DS ns L) (((ZW l).drop p).drop (ZV (cv ns s) j).length) ss':=r
     rw [XF,List.drop_drop] at r2
     exact r2
    rw [Mm e,ih (p+j) _ (by exact Internal.qU ‹_› ‹_›) (by exact Internal.qV ‹_› ‹_› ‹_› ‹_›) r',Int.toNat_natCast,YS (JK hby hs h1)]
  ·have e2:=B4 hg hB no
   rw [Qr e]
   cases hr with
  |stop q=>rfl
  |more q r=>rw [e2] at q;cases q
end
theorem VX {n:Nat}{c:Yk}{vs:List AV}{σ:List Za}{Q:Zq}{X:Zx}(hn:1≤n)(h:WF (n-1) (Vm c) (.obj σ.length::vs) (σ++[.inst c []]) (fun r σ₂=>r=.none∧Q (.obj σ.length) σ₂) X):VW n c vs σ Q X:=⟨n-1,by exact qr ‹_›,h⟩
theorem Zhz {n p li ci:Nat}{s:Int}{ns:List Int}{σ:List Za}{Q:Zq}{X:Zx}(hn:9≤n)(hp:σ[p]?=some (PW li ci))(hli:σ[li]?=some (IL ns))(hnl:ns.length≤1000)
  (e:Xu ns s=.none) (hs2:s.natAbs≤1000) (hQ:∀ σ',Kp [] σ σ'→Q (.bool true) σ'):WF n 461 [.obj p,.int s] σ Q X:=by
 refine WF.mini [] ZaS Zfc ZdU .nil (by exact q1) ?_
 walk_at "b"
 walk_at "b"
 refine Xa hp rfl (VX (by exact q2) (QF (by exact q3) Zm fun σ₁ m k1 e1 e2 _=>⟨rfl,?_⟩))
 have k0:Kp [] σ σ₁:=(Kp.refl.app [.inst .lowW []]).new k1 (by simp)
 refine Zhr (by exact q2) (k0.at hp) (k0.at hli) hnl e hs2 (ZA ?_)
 exact hQ _ k0
noncomputable def Yu:Nat→MB→MB
|0,m=>m
|k+1,.cons _ r=>Yu k r
|_+1,.nil=>.nil
noncomputable def Jy (ns:List Int)(L:Nat)(ss:List Nat):Prop:=∀ s∈ss,∃ j:Nat,ns[s]?=some (j:Int)∧1≤j∧j≤L
noncomputable def YD (ns:List Int)(ss:List Nat):List Nat:=(ss.map fun s=>ZV (cv ns s) (Xv ns s)).flatten
noncomputable abbrev CI (ns:List Int)(L:Nat):Za:=IL ((List.range ns.length).map (YQ L ns))
section
variable {n p x d sm sy w m o li ci L ep:Nat}{ns:List Int}{ss:List Nat}{σ:List Za}{Q:Zq}{X:Zx}
inductive M6 (d:Nat)(m:Nat)(ns:List Int)(o:Nat)(p:Nat)(sm:Nat)(ss:List Nat)(sy:Nat)(w:Nat)(x:Nat)(σ:List Za)(k:Nat)(loc:Zc)(σ':List Za):Prop
|mk (V N h b:Nat) (l:List UInt8) (t8:Option AV):(loc=[some (.obj p),some (.obj x),some (.obj d),some (.obj sm),some (.obj sy),some (.obj w),some (.obj o),some (.str (YK V N)),t8,none,none])→(Kp [w,m] σ σ')→(σ'[w]?=some (LW m (h:Nat) (b:Nat)))→(σ'[m]?=some (.barr l))→(Wr V N l h b)→(b<8)→(N≤6*k)→(YK V N=YD ns (ss.take k))→M6 d m ns o p sm ss sy w x σ k loc σ'
theorem ZhF (hn:12≤n)(hx:σ[x]?=some (IL ns))(hd:σ[d]?=some (DI (DS ns L) ep))(hf:Xo ns)(hL:L=(Zk ns).toNat)(hsy:σ[sy]?=some (IL (ss.map fun (s:Nat)=>(s:Int))))(hss:Jy ns L ss)(h6:ss.length=6)
  (hw:σ[w]?=some (LW m 0 0)) (hm:σ[m]?=some (.barr [])) (ho:σ[o]?=some (PW li ci)) (hli:σ[li]?=some (IL ns)) (hci:σ[ci]?=some (CI ns L))
  (hQ:∀ σ' V N h b l t8,Kp [w,m] σ σ'→σ'[w]?=some (LW m (h:Nat) (b:Nat))→σ'[m]?=some (.barr l)→Wr V N l h b→b<8→N≤36→YK V N=YD ns ss →
   vB (n-1) (Yu 4 WW) [some (.obj p),some (.obj x),some (.obj d),some (.obj sm),some (.obj sy),some (.obj w),some (.obj o),some (.str (YD ns ss)),t8,none,none] σ' (ZT Q) (Z2 X)) :
  vB (n-1) (Yu 3 WW) [some (.obj p),some (.obj x),some (.obj d),some (.obj sm),some (.obj sy),some (.obj w),some (.obj o),some (.str []),none,none,none] σ (ZT Q) (Z2 X):=by
 obtain ⟨hg,hL1,hL6,hLe,hR⟩:=Wv hf
 rw [← hL] at hg hL1 hL6 hR
 have hnl:=hf.1
 have nd:d∉[w,m]:=by
  intro q;rcases List.mem_cons.mp q with q|q
  ·exact Yh hd hw (by intro e;cases e) q
  ·exact Yh hd hm (by intro e;cases e) (List.mem_singleton.mp q)
 have nsy:sy∉[w,m]:=by
  intro q;rcases List.mem_cons.mp q with q|q
  ·exact Yh hsy hw (by intro e;cases e) q
  ·exact Yh hsy hm (by intro e;cases e) (List.mem_singleton.mp q)
 have no:o∉[w,m]:=by
  intro q;rcases List.mem_cons.mp q with q|q
  ·exact Yh ho hw (by intro e;cases e) q
  ·exact Yh ho hm (by intro e;cases e) (List.mem_singleton.mp q)
 have nli:li∉[w,m]:=by
  intro q;rcases List.mem_cons.mp q with q|q
  ·exact Yh hli hw (by intro e;cases e) q
  ·exact Yh hli hm (by intro e;cases e) (List.mem_singleton.mp q)
 have nci:ci∉[w,m]:=by
  intro q;rcases List.mem_cons.mp q with q|q
  ·exact Yh hci hw (by intro e;cases e) q
  ·exact Yh hci hm (by intro e;cases e) (List.mem_singleton.mp q)
 walk_at "b"
 refine Vr hsy (M6 d m ns o p sm ss sy w x σ) ⟨0,0,0,0,[],none,rfl,Kp.refl,hw,hm,Wr.nil,by decide,by exact Nat.le_refl _,rfl⟩ ?_ ?_ ?_
 ·rintro k loc σ' ⟨V,N,h,b,l,t8,rfl,kp,_⟩
  exact kp.at hsy nsy
 ·rintro k loc σ' c hc ⟨V,N,h,b,l,t8,rfl,kp,e1,e2,W,hb,hN,hV⟩
  rw [List.getElem?_map] at hc
  obtain ⟨s,hs,rfl⟩:=Option.map_eq_some_iff.mp hc
  have hk:=ZL hs
  obtain ⟨j,hj,j1,jL⟩:=hss s (List.mem_of_getElem? hs)
  have hsl:=ZL hj
  have hcs:((List.range ns.length).map (YQ L ns))[s]?=some ((cv ns s:Nat):Int):=by
   rw [List.getElem?_map,List.getElem?_range hsl,Option.map_some,ND hj j1 jL]
  walk_at "b"
  refine Xa (kp.at ho no) rfl (Zhs (by exact q2) (kp.at ho no) (kp.at hli nli) (kp.at hci nci) (by exact q4) (by simp;exact q4) hj hcs (by exact Nat.ne_of_gt ‹_›) e1 e2 (by grind) W (Gq hg hj j1 jL) (by exact Internal.qBx ‹_› ‹_› (by rfl)) fun σ₂ l' h' b' k2 e3 e4 W' hb'=>?_)
  have k2':=kp.trans k2
  walk_at "n"
  have hmem:=Gw hj j1 jL
  have hent:=VK hj j1 jL
  rw [hent] at hmem
  refine VP (d:=((s:Int),ZV (cv ns s) j)) (k2'.at hd nd) Wn hmem ?_
  walk_at "d"
  have hs1:ss.take (k+1)=ss.take k++[s]:=Xm hs
  have hV':YK V N++ZV (cv ns s) j=YK (V+YL (cv ns s) j*2^N) (N+j):=by rw [BW W.lt_pow,Zcz]
  refine ⟨rfl,by rw [Wa,XF];unfold sizeLine;omega,?_⟩
  rw [hV']
  walk_at "n"
  refine Xa (k2'.at ho no) rfl (Jp (by exact q2) (k2'.at ho no) (k2'.at hli nli) (by exact q4) ?_)
  have ec:Xu ns (s:Int)=.int j:=by
   unfold Xu
   rw [Int.toNat_natCast,YS hj,if_pos ⟨by exact Int.natCast_nonneg _,by exact Int.ofNat_lt.mpr ‹_›,by grind⟩]
  rw [ec]
  walk_at "d"
  refine VP (d:=((s:Int),ZV (cv ns s) j)) (k2'.at hd nd) Wn hmem ?_
  walk_at "d"
  refine ⟨by rw [XF];exact Internal.qBx ‹_› ‹_› (by rfl),UI (fun _=>?_) fun q=>absurd (by rw [XF]) q⟩
  refine Xa e3 rfl (Zhx (by exact q2) e3 e4 (by have:=W'.len;grind) ?_)
  walk_at "d"
  refine ⟨by rw [Wa];grind,?_⟩
  have hlen:=W'.len
  refine UI (fun _=>ZI (ZK (Zl (ZF ⟨_,_,h',b',l',_,rfl,k2',e3,e4,W',hb',by grind,?_⟩)))) fun q=>absurd (by rw [Wa];grind) q
  rw [hs1,← hV',hV]
  unfold YD
  rw [List.map_append,List.flatten_append,List.map_cons,List.map_nil,List.flatten_cons,List.flatten_nil,List.append_nil,Wz hj]
 ·rintro loc σ' ⟨V,N,h,b,l,t8,rfl,kp,e1,e2,W,hb,hN,hV⟩
  rw [List.length_map,h6] at hN
  rw [List.length_map,List.take_length] at hV
  rw [hV]
  exact ZF (hQ σ' V N h b l t8 kp e1 e2 W hb hN hV)
theorem Zd7:∀ k,k<8→Txt.contains ⟨(List.replicate k 48).toArray⟩ ⟨[49].toArray⟩=false:=by decide +kernel
theorem ZhE {V N h b:Nat}{l:List UInt8}{t8:Option AV}(hn:12≤n)(hw:σ[w]?=some (LW m (h:Nat) (b:Nat)))(hm:σ[m]?=some (.barr l))(W:Wr V N l h b)(hb:b<8)(hN:N≤36)(hV:YK V N=YD ns ss)
  (hQ:∀ σ',Kp [] σ σ'→vB (n-1) (Yu 6 WW) [some (.obj p),some (.obj x),some (.obj d),some (.obj sm),some (.obj sy),some (.obj w),some (.obj o),some (.str (YD ns ss)),t8,some (.bytes (Yq l h b)),none] σ' (ZT Q) (Z2 X)) :
  vB (n-1) (Yu 4 WW) [some (.obj p),some (.obj x),some (.obj d),some (.obj sm),some (.obj sy),some (.obj w),some (.obj o),some (.str (YD ns ss)),t8,none,none] σ (ZT Q) (Z2 X):=by
 have hlen:=W.len
 obtain ⟨o1,o2,o3⟩:=CM W hb
 have hN':(YD ns ss).length=N:=by rw [← hV,Wa]
 have hh:(h:Int)<256:=by
  have:=Nat.lt_of_lt_of_le W.lt (Nat.pow_le_pow_right (by decide) (show b≤8 by exact Nat.le_of_lt ‹_›))
  exact Int.ofNat_lt.mpr ‹_›
 walk_at "b"
 refine Xa hw rfl (Zhc (by exact q2) hw hm (by grind) (by exact Int.natCast_nonneg _) hh fun σ₁ k1=>?_)
 rw [show (l++if 0<(b:Int) then [(h:Int).toNat.toUInt8] else [])=Yq l h b from rfl]
 walk_at "n"
 refine Jo (by exact q2) (by lia) fun σ₂ k2=>?_
 rw [o1,hV]
 have hrl:(YD ns ss++List.replicate (8*(Yq l h b).length-N) 48).length≤sizeLine:=by
  rw [List.length_append,hN',List.length_replicate];unfold sizeLine;grind
 have p1:pick (YD ns ss++List.replicate (8*(Yq l h b).length-N) 48) none (some ((YD ns ss).length:Int))=YD ns ss:=by simp [pick]
 have p2:pick (YD ns ss++List.replicate (8*(Yq l h b).length-N) 48) (some ((YD ns ss).length:Int)) none=List.replicate (8*(Yq l h b).length-N) 48:=by simp [pick]
 refine ⟨by grind,none,some ((YD ns ss).length:Int),rfl,⟨rfl,by exact Int.natCast_nonneg _⟩,hrl,?_⟩
 rw [p1]
 walk_at "d"
 refine UI (fun _=>?_) fun q=>absurd rfl q
 refine Jo (by exact q2) (by grind) fun σ₃ k3=>?_
 rw [o1,hV]
 refine ⟨by grind,some ((YD ns ss).length:Int),none,⟨rfl,by exact Int.natCast_nonneg _⟩,rfl,hrl,?_⟩
 rw [p2]
 walk_at "d"
 have hol:8*(Yq l h b).length-N<8:=by
  unfold Yq
  rw [List.length_append]
  by_cases q:0<(b:Int)
  ·rw [if_pos q,List.length_singleton];exact Internal.qAa ‹_› ‹_›
  ·rw [if_neg q,List.length_nil];exact Internal.qAb ‹_›
 rw [Zd7 _ hol]
 exact ZA (ZI (ZK (ZF (hQ _ ((k1.trans k2).trans k3)))))
end
theorem T2 {n x:Nat}{vs:List AV}{ns:List Int}{σ:List Za}{Q:Zq}{X:Zx}(hn:2≤n)(hx:σ[x]?=some (IL ns))
  (hinit:∀ (σ₀:List Za) (r:Nat) (Q₀:Zq),σ₀[r]?=some (.inst .reader [])→σ₀[x]?=some (IL ns)→(∀ σ' ci si fs,Y2 ns fs→Kp [r] σ₀ σ'→σ'[r]?=some (RD (Zk ns).toNat ci si)→σ'[ci]?=some (IL (Zj (Zk ns).toNat ns))→σ'[si]?=some (IL fs)→Q₀ .none σ')→WF (n-1) 143 (.obj r::vs) σ₀ Q₀ X)
  (hQ:∀ σ' r ci si fs,Y2 ns fs→Kp [] σ σ'→σ'[r]?=some (RD (Zk ns).toNat ci si)→σ'[ci]?=some (IL (Zj (Zk ns).toNat ns))→σ'[si]?=some (IL fs)→Q (.obj r) σ'):VW n .reader vs σ Q X:=by
 refine VX (by exact Nat.le_of_lt ‹_›) (hinit _ _ _ Zm (Zh hx) fun σ₁ ci si fs hby k e1 e2 e3=>⟨rfl,?_⟩)
 exact hQ σ₁ σ.length ci si fs hby ((Kp.refl.app [.inst .reader []]).new k (by simp)) e1 e2 e3
theorem UL {n:Nat}{o:List UInt8}{σ:List Za}{Q:Zq}{X:Zx}(hn:5≤n)(hl:o.length≤1000)(hQ:∀ σ' b,Kp [] σ σ'→σ'[b]?=some (LR o 0)→σ.length≤b→Q (.obj b) σ'):VW n .lowR [.bytes o] σ Q X:=by
 refine VX (by exact q1) (Zhm (by exact q2) hl Zm fun σ₁ k e=>⟨rfl,?_⟩)
 exact hQ σ₁ σ.length ((Kp.refl.app [.inst .lowR []]).new k (by simp)) e (Nat.le_refl _)
theorem NJ {ns:List Int}{L:Nat}{lone:Bool}(hL1:1≤L)(hL:L≤15)(hR:ZO L ns)(hg:gk ns L=2^L):Yc 15 ns lone=true:=by
 have:=JT (d:=15-L) (lone:=lone) hL1 hR
 rw [show L+(15-L)=15 by exact Internal.qAv ‹_›] at this
 rw [this]
 unfold Y7
 have h0:¬ Yd ns=[]:=fun q=>by
  have h1:=Mg L ns
  rw [q,Un fun c hc=>(hR c hc).2,hg] at h1
  have:Yz L []=0:=rfl
  have:=Nat.two_pow_pos L
  exact Internal.qCn ‹_› ‹_›
 rw [decide_eq_false h0,Un fun c hc=>(hR c hc).2,hg,Int.toNat_natCast,Int.one_mul]
 push_cast
 simp
theorem Bo {ns:List Int}{L M:Nat}(h:ZO L ns)(hM:L≤M):ZO M ns:=fun c hc=>⟨(h c hc).1,by have:=(h c hc).2;omega⟩
theorem Bp {n x:Nat}{ns:List Int}{X:Zx}(hn:7≤n)(hf:Xo ns)(σ₀:List Za)(r:Nat)(Q₀:Zq)(hr:σ₀[r]?=some (.inst .reader []))(hx:σ₀[x]?=some (IL ns))
  (hQ:∀ σ' ci si fs,Y2 ns fs→Kp [r] σ₀ σ'→σ'[r]?=some (RD (Zk ns).toNat ci si)→σ'[ci]?=some (IL (Zj (Zk ns).toNat ns))→σ'[si]?=some (IL fs)→Q₀ .none σ'):WF (n-1) 143 [.obj r,.obj x,.int 15] σ₀ Q₀ X:=by
 obtain ⟨hg,hL1,hL6,hLe,hR⟩:=Wv hf
 refine Zhu (Lx:=15) (by exact q2) hr hx (by simp) (by have:=hf.1;exact q4) (fun c hc=>by have:=hf.2.1 c hc;exact Internal.qAs ‹_› (by decide)) (fun _ _=>hQ) fun h=>?_
 exact absurd ((NJ hL1 (by exact q4) hR hg).symm.trans (h (Bo hR (by exact q4)))) (by decide)
theorem Hd {ns fs:List Int}(h:Y2 ns fs):fs.length≤ns.length:=by rw [h.1];exact Nr _ _
section
variable {n p x d sm sy w m o li ci L ep:Nat}{ns:List Int}{ss:List Nat}{σ:List Za}{Q:Zq}{X:Zx}
theorem ZhH {V N h b:Nat}{l:List UInt8}{t8:Option AV}(hn:12≤n)(hx:σ[x]?=some (IL ns))(hf:Xo ns)(hL:L=(Zk ns).toNat)(hsy:σ[sy]?=some (IL (ss.map fun (s:Nat)=>(s:Int))))(hss:Jy ns L ss)(h6:ss.length=6)(W:Wr V N l h b)(hb:b<8)(hN:N≤36)(hV:YK V N=YD ns ss)
  (hQ:∀ σ',Kp [] σ σ'→vB (n-1) (Yu 7 WW) [some (.obj p),some (.obj x),some (.obj d),some (.obj sm),some (.obj sy),some (.obj w),some (.obj o),some (.str (YD ns ss)),t8,some (.bytes (Yq l h b)),none] σ' (ZT Q) (Z2 X)) :
  vB (n-1) (Yu 6 WW) [some (.obj p),some (.obj x),some (.obj d),some (.obj sm),some (.obj sy),some (.obj w),some (.obj o),some (.str (YD ns ss)),t8,some (.bytes (Yq l h b)),none] σ (ZT Q) (Z2 X):=by
 obtain ⟨hg,hL1,hL6,hLe,hR⟩:=Wv hf
 obtain ⟨o1,o2,o3⟩:=CM W hb
 have hlen:=W.len
 have hnl:=hf.1
 walk_at "b"
 refine T2 (by exact q2) hx (fun σ₀ r Q₀=>Bp (by exact q2) hf σ₀ r Q₀) fun σ₁ r ci si fs hby k1 e1 e2 e3=>?_
 refine UL (by exact q2) (by lia) fun σ₂ bi k2 e4 hbi=>?_
 refine Xk ((k1.trans k2).at hsy) (by rw [List.length_map];exact q8) ?_
 rw [ZY,List.length_map]
 refine Jq (M:=ss.length) (p:=0) (by exact q2) (k2.at e1) (k2.at e2) (k2.at e3) e4 (by grind) (by exact q4) Yn (Gn (by exact q4)) (by have:=Hd hby;exact Internal.qBx ‹_› ‹_› (by rfl)) (by exact q8) (fun p i p'=>D1 hg hby) fun σ₃ t f k3 e5 e6=>?_
 have ht:=Zg3 (L:=(Zk ns).toNat) hg hby (l:=Yq l h b) ss 0 (by rw [← hL];exact hss) (by rw [List.drop_zero,o1,hV];rfl)
 rw [ht] at e5 e6
 have kk:Kp [] σ σ₃:=(k1.trans k2).new k3 (fun i hi=>by rw [List.mem_singleton.mp hi];have:=k1.1;exact Nat.le_trans ‹_› ‹_›)
 refine ⟨ZD,.inr rfl,.inr ⟨f,sy,_,_,_,_,Zh e5,Zm,Zh e6,Zh (kk.at hsy),(show Y9 [111,110]=true by decide),(show Y9 [111,110]=true by decide),?_⟩⟩
 rw [if_neg (by decide),decide_eq_true ⟨rfl,rfl⟩]
 refine ZI (ZK (ZF (hQ _ (kk.app _))))
noncomputable def Nj (ns:List Int)(z:Int):Prop:=Xu ns z=.none∧z.natAbs≤1000
inductive M7 (ns:List Int)(σ:List Za)(k:Nat)(σ':List Za):Prop
|mk (zs:List Int):(σ'=σ++[IL zs])→(zs.length≤k)→(∀ z∈zs,Nj ns z)→M7 ns σ k σ'
theorem ZhG {oc:AV}{t8:Option AV}(hn:12≤n)(hx:σ[x]?=some (IL ns))(hnl:ns.length≤9)(ho:σ[o]?=some (PW li ci))(hli:σ[li]?=some (IL ns))(hQ:∀ σ',Kp [] σ σ'→Q (.bool true) σ') :
  vB (n-1) (Yu 7 WW) [some (.obj p),some (.obj x),some (.obj d),some (.obj sm),some (.obj sy),some (.obj w),some (.obj o),some (.str (YD ns ss)),t8,some oc,none] σ (ZT Q) (Z2 X):=by
 walk_at "b"
 refine NP hx (M7 ns σ) ⟨[],rfl,Nat.zero_le _,by simp⟩ ?_ ?_ ?_
 ·rintro k σ' ⟨zs,rfl,_⟩
  exact Zh hx
 ·rintro k σ' c hc ⟨zs,rfl,hzl,hz⟩
  have hk:=ZL hc
  walk_at "d"
  refine ZU (fun h=>ZA ?_) fun h=>ZI ⟨zs,rfl,by lia,hz⟩
  refine W4 Zm (by omega) ⟨zs++[(k:Int)],?_,by simp;assumption,fun z hzz=>?_⟩
  ·rw [XA];exact WH
  ·rcases List.mem_append.mp hzz with q|q
   ·exact hz z q
   ·rw [List.mem_singleton.mp q]
    refine ⟨?_,by exact Internal.qBy ‹_› ‹_› (by rfl)⟩
    unfold Xu
    rw [if_neg]
    rintro ⟨_,_,h3⟩
    rw [Int.toNat_natCast,YS hc] at h3
    exact h3 h
 ·rintro σ' ⟨zs,rfl,hzl,hz⟩
  refine ⟨_,Zh hx,by rw [ZY];exact q4,ZD,rfl,_,_,Zh Zm,Zm,by simp;exact Internal.qBx ‹_› ‹_› (by rfl),?_⟩
  have em:zs.map AV.int++[.int (-1),.int (ns.map AV.int).length]=(zs++[-1,(ns.length:Int)]).map .int:=by simp
  rw [em]
  have hodd:∀ z∈zs++[-1,(ns.length:Int)],Nj ns z:=fun z hzz=>by
   rcases List.mem_append.mp hzz with q|q
   ·exact hz z q
   ·rcases List.mem_cons.mp q with q|q
    ·rw [q]
     refine ⟨?_,by decide⟩
     unfold Xu
     rw [if_neg]
     rintro ⟨h1,_⟩
     exact absurd h1 (by decide)
    ·rw [List.mem_singleton.mp q]
     refine ⟨?_,by exact q4⟩
     unfold Xu
     rw [if_neg]
     rintro ⟨_,h2,_⟩
     lia
  have hlen:(zs++[-1,(ns.length:Int)]).length≤100:=by simp;exact Internal.qBx ‹_› ‹_› (by rfl)
  generalize zs++[-1,(ns.length:Int)]=od at hodd hlen
  have kk:Kp [] σ ((σ++[IL zs])++[Za.list [.int (-1),.int (ns.map AV.int).length]]++[IL od]):=((Kp.refl.app _).app _).app _
  have e1:((σ++[IL zs])++[Za.list [.int (-1),.int (ns.map AV.int).length]]++[IL od])[((σ++[IL zs])++[Za.list [.int (-1),.int (ns.map AV.int).length]]).length]?=some (IL od):=Zm
  generalize ((σ++[IL zs])++[Za.list [.int (-1),.int (ns.map AV.int).length]]).length=oi at e1
  generalize ((σ++[IL zs])++[Za.list [.int (-1),.int (ns.map AV.int).length]]++[IL od])=σ₂ at kk e1
  walk_at "n"
  refine JX e1 (fun k σ'=>Kp [] σ₂ σ'∧σ'[σ₂.length]?=some (IL [])) ⟨Kp.refl.app _,Zm⟩ ?_ ?_ ?_
  ·rintro k σ' ⟨k1,_⟩
   exact k1.at e1
  ·rintro k σ' c hc ⟨k1,e2⟩
   obtain ⟨c1,c2⟩:=hodd c (List.mem_of_getElem? hc)
   have kc:=kk.trans k1
   walk_at "d"
   refine Xa (kc.at ho) rfl (Jp (by exact q2) (kc.at ho) (kc.at hli) (by exact q4) ?_)
   rw [c1]
   walk_at "d"
   refine ZA (Zhz (by exact q2) (kc.at ho) (kc.at hli) (by exact q4) c1 c2 fun σ₃ k3=>?_)
   walk_at "d"
   exact ZA (ZI ⟨k1.trans k3,k3.at e2⟩)
  ·rintro σ' ⟨k1,e2⟩
   refine ⟨ZD,.inl rfl,.inl ⟨[],[],Zh e2,Zm,?_⟩⟩
   exact hQ _ ((kk.trans k1).app _)
end
section
variable {n p x d L ep:Nat}{ns:List Int}{σ:List Za}{Q:Zq}{X:Zx}
theorem Jt (hl:ns.length≤9)(hL:L≤6):(DS ns L).length<64:=by
 rw [List.length_map]
 have h1:=JO (ns:=ns) L
 have:L*ns.length≤6*9:=Nat.mul_le_mul hL hl
 lia
theorem RE (hf:Xo ns)(hL:L=(Zk ns).toNat):DS ns L≠[]:=by
 obtain ⟨hg,hL1,hL6,hLe,hR⟩:=Wv hf
 rw [← hL] at hg hL1
 intro q
 obtain ⟨j,hj,lv⟩:=BP (st:=List.replicate L 48) (L:=L) (ns:=ns) (by intro c hc;rw [(List.mem_replicate.mp hc).2];simp) hg (by simp)
 obtain ⟨s,_,hs,_⟩:=lv.mat
 have:=Gw hs lv.1 hj
 rw [q] at this;cases this
theorem ZgJ {sm:List Int}(h:sm.Perm ((DS ns L).map Prod.fst)):∀ c∈sm,∃ s:Nat,c=(s:Int)∧∃ j:Nat,ns[s]?=some (j:Int)∧1≤j∧j≤L:=fun c hc=>by
 have:=h.mem_iff.mp hc
 obtain ⟨d,hd,rfl⟩:=List.mem_map.mp this
 obtain ⟨s,l,h1,h2,h3,rfl⟩:=VT hd
 exact ⟨s,rfl,l,h1,h2,h3⟩
inductive M8 (L:Nat)(ns:List Int)(p:Nat)(σ₁:List Za)(k:Nat)(σ':List Za):Prop
|mk (ss:List Nat):(ss.length=k)→(Jy ns L ss)→(Kp [p] σ₁ σ')→(Z5 p σ')→(σ'[σ₁.length]?=some (IL (ss.map fun (s:Nat)=>(s:Int))))→M8 L ns p σ₁ k σ'
theorem ZhB (hn:12≤n)(hp:Z5 p σ)(hx:σ[x]?=some (IL ns))(hd:σ[d]?=some (DI (DS ns L) ep))(hf:Xo ns)(hL:L=(Zk ns).toNat)(hpx:x≠p)
  (hQ:∀ σ',Kp [p] σ σ'→Z5 p σ'→Q (.bool true) σ'):WF n 454 [.obj p,.obj x,.obj d] σ Q X:=by
 refine WF.mini [_,_,_,_,_,_,_,_] ZaT Zfd ZdV .nil (by exact q1) ?_
 obtain ⟨hg,hL1,hL6,hLe,hR⟩:=Wv hf
 have hnl:=hf.1
 have hpd:d∉[p]:=by
  obtain ⟨w,c,_,e⟩:=hp
  intro q;exact Yh hd e (by intro e;cases e) (List.mem_singleton.mp q)
 have hpx':x∉[p]:=by simpa using hpx
 walk_at "b"
 refine ⟨_,ep,hd,by rw [Ww];exact Wn,by rw [List.length_map];exact Jt hnl (by exact Internal.qBt ‹_› ‹_›),fun sm hperm _=>?_⟩
 rw [Ww] at hperm
 have hsm:=ZgJ hperm
 have hsl:sm.length=(DS ns L).length:=by rw [hperm.length_eq,List.length_map]
 have hsl64:sm.length<64:=by rw [hsl];exact Jt hnl (by lia)
 have hs1:1≤sm.length:=by
  rw [hsl]
  exact List.length_pos_iff.mpr (RE hf hL)
 have k0:Kp [p] σ (σ++[IL sm]):=Kp.refl.app _
 have e0:(σ++[IL sm])[σ.length]?=some (IL sm):=Zm
 have p0:Z5 p (σ++[IL sm]):=hp.keep (Kp.refl.app (S:=[]) _)
 have hps:σ.length∉[p]:=by
  obtain ⟨w,c,_,e⟩:=hp
  have:=ZL e
  simp;exact Nat.ne_of_gt ‹_›
 generalize hsg:σ++[IL sm]=σ₁ at k0 e0 p0
 walk_at "n"
 refine ⟨by decide,by decide,?_⟩
 refine Ve (M8 L ns p σ₁) ⟨[],rfl,(fun s hs=>nomatch hs),Kp.refl.app _,p0.keep (Kp.refl.app (S:=[]) _),Zm⟩ ?_ ?_
 ·rintro k σ' hk ⟨ss,hl,hss,kp,pp,e⟩
  walk_at "d"
  refine ZA (Xk (kp.at e0 hps) (by exact q5) ?_)
  rw [ZY]
  refine Xn (by exact q2) pp (by exact Int.ofNat_lt.mpr ‹_›) (by exact qv ‹_› (by decide)) fun v σ₂ v0 v1 k2 p2 _=>?_
  obtain ⟨c,hc⟩:∃ c,sm[v.toNat]?=some c:=⟨_,List.getElem?_eq_getElem (by exact Internal.qO ‹_› ‹_›)⟩
  obtain ⟨s,rfl,hs⟩:=hsm c (List.mem_of_getElem? hc)
  have kp2:=kp.trans k2
  have hne:σ₁.length∉[p]:=by
   obtain ⟨w,c,_,e⟩:=p0
   have:=ZL e
   simp;exact Nat.ne_of_gt ‹_›
  refine Z8 (kp2.at e0 hps) v0 hc (by exact q5) (W4 (k2.at e hne) (by rw [List.length_map];lia) ⟨ss++[s],by simp [hl],fun t ht=>?_,kp2.set _ (.inr (Nat.le_refl _)),?_,?_⟩)
  ·rcases List.mem_append.mp ht with q|q
   ·exact hss t q
   ·rw [List.mem_singleton.mp q];exact hs
  ·obtain ⟨w,c,h0,e⟩:=p2
   have hq:p<σ₁.length:=by
    obtain ⟨_,_,_,e⟩:=p0
    exact ZL e
   exact ⟨w,c,h0,YM e (by exact Nat.ne_of_gt ‹_›)⟩
  ·rw [XA,show (ss.map fun (s:Nat)=>(s:Int))++[(s:Int)]=(ss++[s]).map fun (s:Nat)=>(s:Int) by simp]
   exact ZJ (k2.at e hne)
 ·rintro σ' ⟨ss,hl,hss,kp,pp,e⟩
  walk_at "n"
  refine VX (by exact q2) (QF (by exact q3) Zm fun σ₂ m k2 e2 e3 hm=>⟨rfl,?_⟩)
  have k2':Kp [] σ' σ₂:=(Kp.refl.app [.inst .lowW []]).new k2 (by simp)
  have kx:=(k0.trans kp).trans k2'.of0
  refine VX (by exact q2) (ZhA (L:=L) (by exact q3) Zm (Zh (kx.at hx hpx')) (by exact Internal.qBw ‹_› ‹_› (by rfl)) (by grind) (by exact q4) (by rw [hL];exact hR) fun σ₃ li ci k3 e4 e5 e6=>⟨rfl,?_⟩)
  have k3':Kp [] σ₂ σ₃:=(Kp.refl.app [.inst .writer []]).new k3 (by simp)
  refine ⟨rfl,ZD,ZF ?_⟩
  have k4:Kp [] σ₂ (σ₃++[.tup [.obj σ'.length,.obj σ₂.length,.str []]]):=k3'.app _
  have k5:=k2'.trans k4
  have k6:=kx.trans k4.of0
  have pp6:=pp.keep k5
  have hw6:=k4.at e2
  have hm6:=k4.at e3
  have ho6:=Zh (γ:=[.tup [.obj σ'.length,.obj σ₂.length,.str []]]) e4
  have hl6:=Zh (γ:=[.tup [.obj σ'.length,.obj σ₂.length,.str []]]) e5
  have hc6:=Zh (γ:=[.tup [.obj σ'.length,.obj σ₂.length,.str []]]) e6
  have hs6:=k5.at e
  have hwm:∀ i∈[σ'.length,m],σ'.length≤i:=by
   intro i hi
   rcases List.mem_cons.mp hi with q|q
   ·grind
   ·rw [List.mem_singleton.mp q];simp at hm;exact Nat.le_of_lt ‹_›
  generalize σ₃++[.tup [.obj σ'.length,.obj σ₂.length,.str []]]=σ₄ at k4 k5 k6 pp6 hw6 hm6 ho6 hl6 hc6 hs6 ⊢
  have out:∀ σ₅,Kp [σ'.length,m] σ₄ σ₅→Kp [p] σ σ₅∧Z5 p σ₅:=fun σ₅ k=>by
   have k7:=k5.new k hwm
   exact ⟨(k0.trans kp).trans k7.of0,pp.keep k7⟩
  refine ZhF hn (k6.at hx hpx') (k6.at hd hpd) hf hL hs6 hss (by rw [hl];rfl) hw6 hm6 ho6 hl6 hc6 fun σ₅ V N h b l t8 k7 e7 e8 W hb hN hV=>?_
  refine ZhE hn e7 e8 W hb hN hV fun σ₆ k8=>?_
  have k9:=k7.trans k8.of0
  have no:σ₂.length∉[σ'.length,m]:=by
   intro q;rcases List.mem_cons.mp q with q|q
   ·exact Yh ho6 hw6 (by intro e;cases e) q
   ·exact Yh ho6 hm6 (by intro e;cases e) (List.mem_singleton.mp q)
  have nl:li∉[σ'.length,m]:=by
   intro q;rcases List.mem_cons.mp q with q|q
   ·exact Yh hl6 hw6 (by intro e;cases e) q
   ·exact Yh hl6 hm6 (by intro e;cases e) (List.mem_singleton.mp q)
  have kA:Kp [] σ' σ₆:=k5.new k9 hwm
  have hxA:=((k0.trans kp).trans kA.of0).at hx hpx'
  have hoA:=k9.at ho6 no
  have hlA:=k9.at hl6 nl
  refine ZhH hn hxA hf hL (kA.at e) hss (by rw [hl];rfl) W hb hN hV fun σ₇ k11=>?_
  refine ZhG hn (k11.at hxA) hnl (k11.at hoA) (k11.at hlA) fun σ₈ k12=>?_
  obtain ⟨q1,q2⟩:=out σ₈ ((k9.trans k11.of0).trans k12.of0)
  exact hQ _ q1 q2
end
noncomputable def Z4 (a m:Nat):List Int:=(List.range m).map fun i=>if i=a then 1 else 0
theorem DT:∀ m,m<5→∀ a,a<m→Zk (Z4 a m)=1∧Yc 15 (Z4 a m) true=true∧(∀ c∈Z4 a m,0≤c∧c≤15)∧Zj 1 (Z4 a m)=[(m:Int)-1,1]∧Z6 (Z4 a m) 2=1∧Yy (Z4 a m) a 1=0∧(Z4 a m)[a]?=some 1:=by decide +kernel
theorem Zeh:∀ m:Nat,m<5→∀ a:Nat,a<m→YF [(m:Int)-1,1] [(a:Int)] (Z1 [0]) 1 8 0=(List.replicate 8 (a:Int),[111,110]):=by decide +kernel
theorem Zef:∀ m:Nat,m<5→∀ a:Nat,a<m→YF [(m:Int)-1,1] [(a:Int)] (Z1 [254,255,255,255]) 1 9 0=([(a:Int)],[98,97,100]):=by decide +kernel
theorem Zeg {m:Int}{l:List UInt8}{p p':Nat}{i:Int}(h:Yr [m,1] (Z1 l) 1 1 0 0 0 p=.sym i p'):i=0:=by
 cases q:Z1 l p with
|none=>rw [C0 q] at h;cases h
|some b=>
  have hb:b=0∨b=1:=by
   unfold Z1 at q
   split at q
   ·cases q;exact JC l p
   ·cases q
  rw [C1 q] at h
  rcases hb with rfl|rfl
  ·cases h;rfl
  ·cases h
theorem Zee {a m:Nat}{fs:List Int}(hm:m<5)(ha:a<m)(h:Y2 (Z4 a m) fs):fs=[(a:Int)]:=by
 obtain ⟨f1,_,_,_,f5,f6,f7⟩:=DT m hm a ha
 obtain ⟨h1,h2⟩:=h
 rw [f1] at h1
 have h1':fs.length=1:=h1.trans f5
 have h3:=h2 a 1 f7 (by decide)
 rw [f6] at h3
 match fs,h1' with
|[b],_=>cases h3;rfl
section
variable {n p x:Nat}{σ:List Za}{Q:Zq}{X:Zx}
theorem Bq {a m:Nat}(hn:7≤n)(hm:m<5)(ha:a<m)(σ₀:List Za)(r:Nat)(Q₀:Zq)(hr:σ₀[r]?=some (.inst .reader []))(hx:σ₀[x]?=some (IL (Z4 a m)))
  (hQ:∀ σ' ci si fs,Y2 (Z4 a m) fs→Kp [r] σ₀ σ'→σ'[r]?=some (RD (Zk (Z4 a m)).toNat ci si)→σ'[ci]?=some (IL (Zj (Zk (Z4 a m)).toNat (Z4 a m)))→σ'[si]?=some (IL fs)→Q₀ .none σ'):WF (n-1) 143 [.obj r,.obj x,.int 15,.bool true] σ₀ Q₀ X:=by
 obtain ⟨f1,f2,f3,_⟩:=DT m hm a ha
 refine Zhv (Lx:=15) (by exact Internal.q2) hr hx (by simp) (by simp [Z4];exact q5) (fun c hc=>by have:=f3 c hc;exact Internal.qAs ‹_› (by decide)) (fun _ _=>hQ) fun h=>?_
 exact absurd (f2.symm.trans (h f3)) (by decide)
theorem BQ {a m M:Nat}{l:List UInt8}(hn:9≤n)(hm:m<5)(ha:a<m)(hx:σ[x]?=some (IL (Z4 a m)))(hl:l.length≤1000)(hM:M≤1000){R:Zq}
  (hR:∀ σ' t f,Kp [] σ σ'→σ'[t]?=some (.tup [.obj f,.str (YF [(m:Int)-1,1] [(a:Int)] (Z1 l) 1 M 0).2])→σ'[f]?=some (IL (YF [(m:Int)-1,1] [(a:Int)] (Z1 l) 1 M 0).1)→R (.obj t) σ')
  {r b ci si:Nat} {fs:List Int} {σ₁ σ₂:List Za} (hby:Y2 (Z4 a m) fs) (k:Kp [] σ σ₁) (e1:σ₁[r]?=some (RD (Zk (Z4 a m)).toNat ci si)) (e2:σ₁[ci]?=some (IL (Zj (Zk (Z4 a m)).toNat (Z4 a m)))) (e3:σ₁[si]?=some (IL fs))
  (k2:Kp [] σ₁ σ₂) (e4:σ₂[b]?=some (LR l 0)) (hb:σ₁.length≤b):WF n 449 [.obj r,.obj b,.int M] σ₂ R X:=by
 obtain ⟨f1,f2,f3,f4,_⟩:=DT m hm a ha
 obtain rfl:=Zee hm ha hby
 rw [f1] at e1 e2
 have e2':σ₁[ci]?=some (IL [(m:Int)-1,1]):=by rw [← f4];exact e2
 refine Jq (L:=1) (p:=0) (by exact Nat.le_of_lt ‹_›) (k2.at e1) (k2.at e2') (k2.at e3) e4 hl (by simp) rfl (fun c hc=>?_) (by simp) hM (fun p i p' h=>by rw [Zeg h];simp) fun σ₃ t f k3 e5 e6=>?_
 ·rcases List.mem_cons.mp hc with q|q
  ·grind
  ·rw [List.mem_singleton.mp q];decide
 ·exact hR σ₃ t f ((k.trans k2).new k3 fun i hi=>by rw [List.mem_singleton.mp hi];have:=k.1;exact Nat.le_trans ‹_› ‹_›) e5 e6
theorem Zhl (hn:10≤n)(hp:Z5 p σ)(hQ:∀ σ',Kp [p] σ σ'→Z5 p σ'→Q (.bool true) σ'):WF n 466 [.obj p] σ Q X:=by
 refine WF.mini [_,_,_] ZaL Ze5 ZdN .nil (by exact Internal.q1) ?_
 walk_at "b"
 refine Xn (by exact Internal.q2) hp (by decide) (by decide) fun d σ₁ d0 d1 k1 p1 _=>?_
 walk_at "n"
 refine Xn (by exact Internal.q2) p1 (by lia) (by lia) fun at_ σ₂ a0 a1 k2 p2 _=>?_
 walk_at "n"
 refine ⟨by lia,by lia,?_⟩
 obtain ⟨m,hm⟩:∃ m:Nat,1+d=m:=⟨(1+d).toNat,by lia⟩
 obtain ⟨a,rfl⟩:∃ a:Nat,at_=a:=⟨at_.toNat,by exact (Int.toNat_of_nonneg ‹_›).symm⟩
 rw [hm] at a1 ⊢
 rw [Int.toNat_natCast]
 refine Ve (fun k σ'=>σ'=σ₂++[IL (Z4 a k)]) rfl ?_ ?_
 ·rintro k σ' hk rfl
  walk_at "d"
  refine ZA (W4 Zm (by simp [Z4];grind) ?_)
  have es:Z4 a k++[if decide (0+(k:Int)=(a:Int))=true then 1 else 0]=Z4 a (k+1):=by
   unfold Z4
   rw [List.range_succ,List.map_append,List.map_cons,List.map_nil]
   congr 2
   by_cases q:k=a
   ·rw [if_pos (by rw [decide_eq_true_eq];lia),if_pos q]
   ·rw [if_neg (by rw [decide_eq_true_eq];lia),if_neg q]
  rw [XA,es]
  exact WH
 ·rintro σ' rfl
  have k3:Kp [p] σ (σ₂++[IL (Z4 a m)]):=(k1.trans k2).app _
  have e3:(σ₂++[IL (Z4 a m)])[σ₂.length]?=some (IL (Z4 a m)):=Zm
  have p3:Z5 p (σ₂++[IL (Z4 a m)]):=p2.keep (Kp.refl.app (S:=[]) _)
  generalize σ₂++[IL (Z4 a m)]=σ₃ at k3 e3 p3 ⊢
  walk_at "n"
  have hm5:m<5:=by omega
  have ham:a<m:=by exact Internal.qO ‹_› ‹_›
  refine T2 (by exact Internal.q2) e3 (fun σ₀ r Q₀=>Bq (by exact Internal.q2) hm5 ham σ₀ r Q₀) fun σ₄ r ci si fs hby k4 q1 q2 q3=>?_
  refine ⟨ZD,[0],Zm,ZD,by simp,?_⟩
  refine UL (by exact Internal.q2) (by simp) fun σ₅ bi k5 q4 hbi=>?_
  refine BQ (M:=8) (by exact Internal.q2) hm5 ham e3 (by simp) (by decide) (fun σ₆ t f k6 q5 q6=>?_) hby k4 q1 q2 q3 ((Kp.refl.app (S:=[]) _).trans k5) q4 (by simp at hbi;exact Nat.le_of_lt ‹_›)
  rw [show [(0:Int)].map (fun n=>n.toNat.toUInt8)=[0] from rfl,Zeh m hm5 a ham] at q5 q6
  refine ⟨ZD,rfl,_,Zm,by decide,by decide,Nat.le_of_ble_eq_true rfl,ZD,?_⟩
  have er:(List.replicate (8:Int).toNat [AV.int (a:Int)]).flatten=(List.replicate 8 (a:Int)).map AV.int:=rfl
  rw [er]
  refine ⟨.inr rfl,.inr ⟨f,_,_,_,_,_,Zh (Zh (Zh q5)),Zm,Zh (Zh (Zh q6)),Zh Zm,(show Y9 [111,110]=true by decide),(show Y9 [111,110]=true by decide),?_⟩⟩
  rw [if_neg (by decide),decide_eq_true ⟨rfl,rfl⟩]
  refine ZI (ZK (ZF ?_))
  have k7:=((k6.app [.list [.int (a:Int)]]).app [IL (List.replicate 8 (a:Int))]).app [.tup [.obj (σ₆++[Za.list [AV.int (a:Int)]]).length,.str [111,110]]]
  generalize ((σ₆++[.list [.int (a:Int)]])++[IL (List.replicate 8 (a:Int))])++[.tup [.obj (σ₆++[Za.list [AV.int (a:Int)]]).length,.str [111,110]]]=σ₇ at k7 ⊢
  walk_at "b"
  refine T2 (by exact Internal.q2) (k7.at e3) (fun σ₀ r Q₀=>Bq (by exact Internal.q2) hm5 ham σ₀ r Q₀) fun σ₈ r ci si fs hby k8 q1 q2 q3=>?_
  refine ⟨ZD,[254,255,255,255],Zm,ZD,by simp,?_⟩
  refine UL (by exact Internal.q2) (by simp) fun σ₉ bi k9 q4 hbi=>?_
  refine BQ (M:=9) (by exact Internal.q2) hm5 ham (k7.at e3) (by simp) (by decide) (fun σB t f kB q5 q6=>?_) hby k8 q1 q2 q3 ((Kp.refl.app (S:=[]) _).trans k9) q4 (by simp at hbi;exact Nat.le_of_lt ‹_›)
  rw [show [(254:Int),255,255,255].map (fun n=>n.toNat.toUInt8)=[254,255,255,255] from rfl,Zef m hm5 a ham] at q5 q6
  have eI:Za.list [AV.int (a:Int)]=IL [(a:Int)]:=rfl
  rw [eI]
  refine ⟨ZD,ZD,.inl rfl,.inr ⟨f,_,_,_,_,_,Zh (Zh q5),Zm,Zh (Zh q6),Zh Zm,(show Y9 [98,97,100]=true by decide),(show Y9 [98,97,100]=true by decide),?_⟩⟩
  rw [if_pos rfl,decide_eq_true ⟨rfl,rfl⟩]
  have kE:=(k7.trans kB).app [IL [(a:Int)]] |>.app [.tup [.obj σB.length,.str [98,97,100]]]
  exact hQ _ (k3.trans kE.of0) (p3.keep kE)
end
noncomputable def WN:List Int:=((List.range 15).map fun (i:Nat)=>1+(i:Int))++[15]
noncomputable def VJ:List Int:=((List.range 16).map fun (i:Nat)=>1+(i:Int))++[16]
theorem SO:Zk WN=15∧gk WN 15=2^15∧(∀ c∈WN,0≤c∧c≤15)∧WN.length=16:=by decide +kernel
theorem SN:¬ (∀ c∈VJ,0≤c∧c≤15)∧(∀ c∈VJ,c.natAbs<2^64)∧VJ.length=17:=by decide +kernel
theorem Ha {ns:List Int}{L:Nat}(hL:L≤1000):∀ d∈DS ns L,d.2.length≤1000:=fun d hd=>by
 obtain ⟨s,l,h1,h2,h3,rfl⟩:=VT hd
 rw [VK h1 h2 h3]
 show (ZV _ _).length≤_
 rw [XF];exact Nat.le_trans ‹_› ‹_›
section
variable {n:Nat}{σ:List Za}{Q:Zq}{X:Zx}
theorem Zhb (hn:10≤n)(hQ:∀ σ',Kp [] σ σ'→Q (.bool true) σ'):WF n 473 [] σ Q X:=by
 refine WF.mini [_,_,_] ZaH Ze1 ZdJ .nil (by exact Internal.q1) ?_
 obtain ⟨f1,f2,f3,f4⟩:=SO
 walk_at "b"
 refine ⟨by decide,by decide,by decide,by decide,by decide,?_⟩
 have row:((List.range ((16:Int)-1).toNat).map fun (i:Nat)=>AV.int (1+(i:Int)))++[AV.int 15]=WN.map AV.int:=rfl
 refine ⟨ZD,rfl,_,_,Zh Zm,Zm,by simp,ZD,[255,255,85],Zm,ZD,by simp,rfl,ZD,?_⟩
 rw [row]
 have e1:=Zm (σ:=(σ++[Za.list ((List.range ((16:Int)-1).toNat).map fun (i:Nat)=>AV.int (1+(i:Int)))])++[Za.list [AV.int 15]]) (o:=IL WN)
 have k1:Kp [] σ (((σ++[Za.list ((List.range ((16:Int)-1).toNat).map fun (i:Nat)=>AV.int (1+(i:Int)))])++[Za.list [AV.int 15]])++[IL WN]):=((Kp.refl.app _).app _).app _
 generalize ((σ++[Za.list ((List.range ((16:Int)-1).toNat).map fun (i:Nat)=>AV.int (1+(i:Int)))])++[Za.list [AV.int 15]]).length=ri at e1 ⊢
 generalize ((σ++[Za.list ((List.range ((16:Int)-1).toNat).map fun (i:Nat)=>AV.int (1+(i:Int)))])++[Za.list [AV.int 15]])++[IL WN]=σ₁ at e1 k1 ⊢
 have k2:Kp [] σ₁ ((σ₁++[Za.list [AV.int 255,AV.int 255,AV.int 85]])++[Za.tup [AV.obj ri,AV.bytes (([255,255,85]:List Int).map fun n=>n.toNat.toUInt8)]]):=(Kp.refl.app _).app _
 have k12:=k1.trans k2
 have e2:=k2.at e1
 generalize ((σ₁++[Za.list [AV.int 255,AV.int 255,AV.int 85]])++[Za.tup [AV.obj ri,AV.bytes (([255,255,85]:List Int).map fun n=>n.toNat.toUInt8)]])=σ₂ at k12 e2 ⊢
 rw [show (([255,255,85]:List Int).map fun n=>n.toNat.toUInt8)=[255,255,85] from rfl]
 walk_at "n"
 refine QD (L:=15) (by exact Internal.q2) e2 (by simp) (by exact Internal.q8) f3 fun σ₃ ci ep k3 e3 _=>?_
 refine Jo (by exact Internal.q2) (by simp) fun σ₄ k4=>?_
 obtain ⟨ss,hsl,hR⟩:=C2 f2 25 (ZW [255,255,85]) (Ut _) (by rw [XG];decide)
 rw [XG] at hsl
 have hsl':ss.length≤24:=hsl
 refine QE (by exact Internal.q2) (k4.at e3) Wn (Ha (by simp)) (by rw [XG];decide) hR (by exact Internal.q4) fun σ₅ si k5 e5 _=>?_
 have k25:=(k3.trans k4).trans k5
 walk_at "n"
 refine T2 (by exact Internal.q2) (k25.at e2) (fun σ₀ r Q₀ hr hx hQ=>?_) fun σ₆ r ci' si' fs hby k6 q1 q2 q3=>?_
 ·refine QI (by exact Internal.q3) hr hx (by exact Internal.q8) (fun c hc=>by have:=f3 c hc;lia) (fun _ _=>hQ) fun h=>?_
  exact absurd ((NJ (by decide) (Nat.le_refl _) f3 f2).symm.trans (h f3)) (by decide)
 rw [f1,show (15:Int).toNat=15 from rfl] at q1 q2
 refine UL (by exact Internal.q2) (by simp) fun σ₇ bi k7 q4 hbi=>?_
 refine Jq (M:=25) (L:=15) (p:=0) (by exact Internal.q2) (k7.at q1) (k7.at q2) (k7.at q3) q4 (by simp) (by simp) Yn (Gn (by exact Internal.q8)) (by have:=Hd hby;exact Internal.q4) (by decide) (fun p i p'=>D1 f2 hby) fun σ₈ t f k8 q5 q6=>?_
 have ht:=Qt (l:=[255,255,85]) f2 hby 25 0 ss (by simp) (by simp) hR
 rw [ht] at q5 q6
 have k68:Kp [] σ₅ σ₈:=(k6.trans k7).new k8 fun i hi=>by rw [List.mem_singleton.mp hi];have:=k6.1;exact Nat.le_trans ‹_› ‹_›
 refine ⟨ZD,.inr rfl,.inr ⟨f,si,_,_,_,_,Zh q5,Zm,Zh q6,Zh (k68.at e5),(show Y9 [99,117,116]=true by decide),(show Y9 [99,117,116]=true by decide),?_⟩⟩
 rw [if_neg (by decide),decide_eq_true ⟨rfl,rfl⟩]
 refine ZI (ZK (ZF ?_))
 have k9:Kp [] σ (σ₈++[.tup [.obj si,.str [99,117,116]]]):=((k12.trans k25).trans k68).app _
 generalize σ₈++[.tup [.obj si,.str [99,117,116]]]=σ₉ at k9 ⊢
 walk_at "b"
 refine ⟨by decide,by decide,by decide,by decide,by decide,?_⟩
 have rowG:((List.range ((17:Int)-1).toNat).map fun (i:Nat)=>AV.int (1+(i:Int)))++[AV.int 16]=VJ.map AV.int:=rfl
 refine ⟨ZD,rfl,_,_,Zh Zm,Zm,by simp,?_⟩
 rw [rowG]
 obtain ⟨g1,g2,g3⟩:=SN
 have e9:=Zm (σ:=(σ₉++[Za.list ((List.range ((17:Int)-1).toNat).map fun (i:Nat)=>AV.int (1+(i:Int)))])++[Za.list [AV.int 16]]) (o:=IL VJ)
 have kG:Kp [] σ (((σ₉++[Za.list ((List.range ((17:Int)-1).toNat).map fun (i:Nat)=>AV.int (1+(i:Int)))])++[Za.list [AV.int 16]])++[IL VJ]):=((k9.app _).app _).app _
 walk_at "d"
 refine VX (by exact Internal.q2) (QI (by exact Internal.q3) Zm (Zh e9) (by exact Internal.q8) g2 (fun hi _=>absurd hi g1) fun _ σ' k=>ZA ?_)
 exact hQ _ (kG.trans ((Kp.refl.app _).trans k))
end
theorem Zdg {ns:List Int}{M:Int}(h:M∈ns)(ha:∀ a∈ns,a≤M)(h0:∀ c∈ns,0≤c):M=Zk ns:=by
 have h1:=Bj h
 rcases (UE ns 0).2.2 with q|q
 ·have:Zk ns=0:=q
  have:=h0 M h
  lia
 ·have:Zk ns≤M:=ha _ q
  lia
theorem He {ns:List Int}(hf:Xo ns)(q:ns=[]):False:=by
 subst q
 have:=hf.2.2
 exact absurd this (by decide)
section
variable {n:Nat}{σ:List Za}{Q:Zq}{X:Zx}
noncomputable abbrev BA (s p i L:Nat):Zc:=[some (.obj s),some (.obj p),some (.obj i),some (.int L),none,none,none,none,none,none,none,none,none]
theorem Zcj {s:Nat}{o:Unit→Obj}{xs:List Int}(hn:14≤n)(hs:σ[s]?=some (.frz o xs))(hl:xs.length≤1000)
  (hQ:∀ σ' p i ns L,Xo ns→L=(Zk ns).toNat→Kp [] σ σ'→Z5 p σ'→σ'[i]?=some (IL ns)→σ.length≤p→p≠i→σ.length≤i→vB (n-1) (Yu 3 Xw) (BA s p i L) σ' (ZT Q) (Z2 X)) :
  vB (n-1) Xw [some (.obj s),none,none,none,none,none,none,none,none,none,none,none,none] σ (ZT Q) (Z2 X):=by
 walk_at "b"
 refine Zhq (by exact Internal.q2) hs hl fun σ₁ p w w0 k1 e1 hp=>?_
 walk_at "n"
 have p1:Z5 p σ₁:=⟨w,0,w0,e1⟩
 refine Zhg (by exact Internal.q2) p1 fun σ₂ i ns hf k2 p2 e2 hi=>?_
 have hpl:=ZL e1
 walk_at "n"
 have hne:ns≠[]:=fun q=>He hf q
 refine ⟨ns,e2,hne,fun M hM hall=>?_⟩
 have hg:=Zdg hM hall fun c hc=>(hf.2.1 c hc).1
 obtain ⟨g1,g2,g3,g4,g5⟩:=Wv hf
 rw [hg,g4]
 have k12:Kp [] σ σ₂:=k1.new k2 fun j hj=>by rw [List.mem_singleton.mp hj];exact hp
 exact ZF (hQ σ₂ p i ns _ hf rfl k12 p2 e2 hp (by lia) (by have:=k1.1;exact Nat.le_trans ‹_› ‹_›))
end
noncomputable def Hc:MB→MB
|.cons (.for _ _ b) _=>b
|m=>m
theorem ZbW {rs:List Int}{m:Nat}(h0:∀ c∈rs,0≤c)(h:∀ c∈rs,c≤(m:Int)):ZO m rs:=fun c hc=>⟨h0 c hc,h c hc⟩
theorem Zea {rs:List Int}{m:Nat}:¬ ZO m (rs++[-1]):=fun h=>by have:=(h (-1) (by simp)).1;contradiction
theorem QB {n x L:Nat}{ns:List Int}{lone b:Bool}{σ:List Za}{Q:Zq}{X:Zx}(hn:5≤n)(hx:σ[x]?=some (IL ns))(hL:L≤100)(hl:ns.length≤1000)(hs:∀ c∈ns,c.natAbs<2^64)
  (hR:ZO L ns) (hb:Yc L ns lone=b) (hQ:∀ σ',Kp [] σ σ'→Q (.bool b) σ'):WF n 420 [.obj x,.int L,.bool lone] σ Q X:=by
 refine QA hn hx hL hl hs (fun _ h σ' k=>?_) fun h σ' k=>?_
 ·rw [h] at hb;subst hb;exact hQ _ k
 ·rw [h hR] at hb;subst hb;exact hQ _ k
theorem QC {n x L:Nat}{ns:List Int}{lone:Bool}{σ:List Za}{Q:Zq}{X:Zx}(hn:5≤n)(hx:σ[x]?=some (IL ns))(hL:L≤100)(hl:ns.length≤1000)(hs:∀ c∈ns,c.natAbs<2^64)
  (hR:¬ ZO L ns) (hQ:∀ σ',Kp [] σ σ'→Q (.bool false) σ'):WF n 420 [.obj x,.int L,.bool lone] σ Q X:=
 QA hn hx hL hl hs (fun h _ _ _=>absurd h hR) fun _ σ' k=>hQ _ k
section
variable {n s p i L r:Nat}{rs:List Int}{σ:List Za}{Qs:SQ}{X:SX}{t5 t6 t7:Option AV}
noncomputable abbrev T3 (s p i L r:Nat)(t5 t6 t7:Option AV):Zc:=[some (.obj s),some (.obj p),some (.obj i),some (.int L),some (.obj r),t5,t6,t7,none,none,none,none,none]
theorem Zck {m:Nat}{lone:Bool}(hn:14≤n)(hr:σ[r]?=some (IL rs))(hok:Va rs)(hm1:1≤m)(hm:m≤7)(hR:ZO m rs)(hQ:∀ σ' t7,Kp [] σ σ'→Qs .next (T3 s p i L r (some (.int m)) (some (.bool lone)) t7) σ') :
  vB (n-1) (Hc (Yu 2 (Hc (Yu 3 Xw)))) (T3 s p i L r (some (.int m)) (some (.bool lone)) t7) σ Qs X:=by
 have hl:=hok.2.1
 have hs:∀ c∈rs,c.natAbs<2^64:=fun c hc=>by have:=hok.2.2 c hc;exact Internal.qAs ‹_› (by decide)
 have h0:=JT (d:=0) (lone:=lone) hm1 hR
 have h2:=JT (d:=2) (lone:=lone) hm1 hR
 walk_at "b"
 refine Zhk (by exact Internal.q2) hr (by exact Internal.q4) (by exact Internal.q4) (fun c hc=>(hR c hc).2) fun σ₁ k1=>?_
 walk_at "n"
 refine QB (by exact Internal.q2) (k1.at hr) (by exact Internal.q4) (by exact Internal.q4) hs hR h0 fun σ₂ k2=>?_
 walk_at "d"
 rw [show (Y7 m rs lone==Y7 m rs lone)=true from by cases Y7 m rs lone<;>rfl]
 refine ZA ?_
 rw [show (m:Int)+2=((m+2:Nat):Int) by rfl]
 have k12:=k1.trans k2
 refine QB (by exact Internal.q2) (k12.at hr) (by grind) (by exact Internal.q4) hs (Bo hR (by simp)) h2 fun σ₃ k3=>?_
 have k13:=k12.trans k3
 walk_at "d"
 rw [show (Y7 m rs lone==Y7 m rs lone)=true from by cases Y7 m rs lone<;>rfl]
 refine ZA (ZI (ZK ?_))
 walk_at "n"
 refine ⟨ZD,rfl,_,_,Zh (k13.at hr),Zm,by rw [ZY];simp;exact Internal.q4,?_⟩
 rw [show rs.map AV.int++[AV.int (-1)]=(rs++[-1]).map AV.int by simp]
 have e4:=Zm (σ:=σ₃++[Za.list [AV.int (-1)]]) (o:=IL (rs++[-1]))
 have k4:Kp [] σ ((σ₃++[Za.list [AV.int (-1)]])++[IL (rs++[-1])]):=(k13.app _).app _
 generalize (σ₃++[Za.list [AV.int (-1)]]).length=q1 at e4 ⊢
 generalize (σ₃++[Za.list [AV.int (-1)]])++[IL (rs++[-1])]=σ₄ at e4 k4 ⊢
 refine QC (by exact Internal.q2) e4 (by exact Internal.q4) (by simp;exact Internal.q4) (fun c hc=>?_) Zea fun σ₅ k5=>?_
 ·rcases List.mem_append.mp hc with q|q
  ·exact hs c q
  ·rw [List.mem_singleton.mp q];decide
 have k45:=k4.trans k5
 walk_at "d"
 refine ZA ⟨rs,k45.at hr,hok.1,fun M hM hall=>?_⟩
 refine ZU (fun h1=>?_) fun h1=>?_
 ·refine ⟨rs,k45.at hr,hok.1,fun M' hM' hall'=>?_⟩
  have hMM:M'=M:=Int.le_antisymm (hall M' hM') (hall' M hM)
  subst hMM
  have hMb:=hok.2.2 M' hM
  rw [show M'-1=(((M'-1).toNat:Nat):Int) by exact Internal.qBg ‹_›]
  refine QC (by exact Internal.q2) (k45.at hr) (by grind) (by exact Internal.q4) hs (fun h=>by have:=(h M' hM).2;grind) fun σ₆ k6=>?_
  walk_at "d"
  refine ZI (ZA (ZI (ZK (Zl ?_))))
  exact hQ _ _ (k45.trans k6)
 ·refine ZA (ZI (ZK (Zl ?_)))
  exact hQ _ _ k45
inductive M9 (L:Nat)(i:Nat)(m:Nat)(p:Nat)(r:Nat)(s:Nat)(σ₅:List Za)(k:Nat)(loc:Zc)(σ':List Za):Prop
|mk (t6 t7:Option AV):(loc=T3 s p i L r (some (.int m)) t6 t7)→(Kp [] (σ₅++[.tup [.bool false,.bool true]]) σ')→M9 L i m p r s σ₅ k loc σ'
theorem Zcl (hn:14≤n)(hr:σ[r]?=some (IL rs))(hok:Va rs)(hQ:∀ σ' t5 t6 t7,Kp [] σ σ'→Qs .next (T3 s p i L r t5 t6 t7) σ') :
  vB (n-1) (Hc (Yu 3 Xw)) (T3 s p i L r t5 t6 t7) σ Qs X:=by
 have hl:=hok.2.1
 walk_at "b"
 refine ⟨ZD,rfl,_,_,Zh hr,Zm,by rw [ZY];simp;exact Internal.q4,?_⟩
 rw [show rs.map AV.int++[AV.int 1]=(rs++[1]).map AV.int by simp]
 have e4:=Zm (σ:=σ++[Za.list [AV.int 1]]) (o:=IL (rs++[1]))
 have k4:Kp [] σ ((σ++[Za.list [AV.int 1]])++[IL (rs++[1])]):=(Kp.refl.app _).app _
 generalize (σ++[Za.list [AV.int 1]]).length=q1 at e4 ⊢
 generalize (σ++[Za.list [AV.int 1]])++[IL (rs++[1])]=σ₄ at e4 k4 ⊢
 refine ⟨_,e4,by simp,fun M hM hall=>?_⟩
 have hb:∀ c∈rs++[1],0≤c∧c≤7:=fun c hc=>by
  rcases List.mem_append.mp hc with q|q
  ·exact hok.2.2 c q
  ·rw [List.mem_singleton.mp q];decide
 have hM1:=hall 1 (by simp)
 have hM7:=(hb M hM).2
 obtain ⟨m,rfl⟩:∃ m:Nat,M=m:=⟨M.toNat,by lia⟩
 have hR:ZO m rs:=ZbW (fun c hc=>(hok.2.2 c hc).1) fun c hc=>hall c (List.mem_append_left _ hc)
 walk_at "n"
 refine Zhw (by exact Internal.q2) (k4.at hr) (by grind) (by exact Internal.q4) hR fun σ₅ k5=>?_
 have k45:=k4.trans k5
 have hib:(intBits 1:Int)+(m:Int)≤2^27:=by
  have:intBits 1≤1:=WV (by decide)
  grind
 refine ⟨by exact Int.natCast_nonneg _,hib,?_⟩
 refine QK (by exact Internal.q2) (k45.at hr) (by grind) (fun c hc=>(hR c hc).2) ?_
 walk_at "d"
 rw [Zfj hR]
 refine Xz (fun q=>absurd rfl q) fun _=>ZK ?_
 walk_at "n"
 refine ⟨ZD,?_⟩
 refine Zcy Zm (M9 L i m p r s σ₅) ⟨_,_,rfl,Kp.refl⟩ ?_ ?_ ?_
 ·rintro k loc σ' ⟨t6,t7,rfl,kp⟩
  exact kp.at Zm
 ·rintro k loc σ' v hv ⟨t6,t7,rfl,kp⟩
  obtain ⟨lone,rfl⟩:∃ lone:Bool,v=.bool lone:=by
   match k,hv with
  |0,hv=>cases hv;exact ⟨_,rfl⟩
  |1,hv=>cases hv;exact ⟨_,rfl⟩
  exact Zck hn (((k45.app _).trans kp).at hr) hok (by grind) (by lia) hR fun σ'' t7' k6=>⟨_,_,rfl,kp.trans k6⟩
 ·rintro loc σ' ⟨t6,t7,rfl,kp⟩
  exact ZF (ZK (hQ _ _ _ _ ((k45.app _).trans kp)))
end
section
variable {n s p i L:Nat}{ns:List Int}{σ:List Za}{Q:Zq}{X:Zx}
noncomputable abbrev HB (s p i L:Nat)(t4 t5 t6 t7:Option AV):Zc:=[some (.obj s),some (.obj p),some (.obj i),some (.int L),t4,t5,t6,t7,none,none,none,none,none]
theorem Za0 (hf:Xo ns):Va ns:=⟨fun q=>He hf q,by have:=hf.1;exact Internal.q4,fun c hc=>by have:=hf.2.1 c hc;lia⟩
inductive Na (L:Nat)(i:Nat)(p:Nat)(s:Nat)(σ₃:List Za)(k:Nat)(loc:Zc)(σ':List Za):Prop
|mk (t4 t5 t6 t7:Option AV):(loc=HB s p i L t4 t5 t6 t7)→(Kp [] σ₃ σ')→Na L i p s σ₃ k loc σ'
theorem Zcm (hn:14≤n)(hf:Xo ns)(hp:Z5 p σ)(hx:σ[i]?=some (IL ns))(hpi:p≠i)
  (hQ:∀ σ' t4 t5 t6 t7,Kp [p] σ σ'→Z5 p σ'→vB (n-1) (Yu 4 Xw) (HB s p i L t4 t5 t6 t7) σ' (ZT Q) (Z2 X)) :
  vB (n-1) (Yu 3 Xw) (BA s p i L) σ (ZT Q) (Z2 X):=by
 have hne:ns≠[]:=fun q=>He hf q
 have hip:i∉[p]:=by simpa using Ne.symm hpi
 walk_at "b"
 refine QH (by exact Internal.q2) hp hx hne hf.1 hf.2.1 (Ne.symm hpi) fun σ₁ m1 r1 o1 k1 p1 e1 h1=>?_
 refine QH (by exact Internal.q2) p1 (k1.at hx hip) hne hf.1 hf.2.1 (Ne.symm hpi) fun σ₂ m2 r2 o2 k2 p2 e2 h2=>?_
 have hpl:p<σ.length:=by obtain ⟨w,c,_,e⟩:=hp;exact ZL e
 have k12:=k1.trans k2
 have kk:Kp [p] σ (σ₂++[Za.list [AV.obj i,AV.obj m1,AV.obj m2]]):=k12.app _
 have pp:Z5 p (σ₂++[Za.list [AV.obj i,AV.obj m1,AV.obj m2]]):=p2.keep (Kp.refl.app (S:=[]) _)
 have el:=Zm (σ:=σ₂) (o:=Za.list [AV.obj i,AV.obj m1,AV.obj m2])
 have ex:=kk.at hx hip
 have ea:=Zh (γ:=[Za.list [AV.obj i,AV.obj m1,AV.obj m2]]) (k2.at e1 (by simp;lia))
 have eb:=Zh (γ:=[Za.list [AV.obj i,AV.obj m1,AV.obj m2]]) e2
 refine ⟨ZD,?_⟩
 generalize σ₂++[Za.list [AV.obj i,AV.obj m1,AV.obj m2]]=σ₃ at kk pp el ex ea eb ⊢
 refine Hw el (Na L i p s σ₃) ⟨_,_,_,_,rfl,Kp.refl⟩ ?_ ?_ ?_
 ·rintro k loc σ' ⟨t4,t5,t6,t7,rfl,kp⟩
  exact kp.at el
 ·rintro k loc σ' v hv ⟨t4,t5,t6,t7,rfl,kp⟩
  obtain ⟨r,rs,rfl,er,ok⟩:∃ (r:Nat) (rs:List Int),v=.obj r∧σ₃[r]?=some (IL rs)∧Va rs:=by
   match k,hv with
  |0,hv=>cases hv;exact ⟨i,ns,rfl,ex,Za0 hf⟩
  |1,hv=>cases hv;exact ⟨m1,r1,rfl,ea,o1⟩
  |2,hv=>cases hv;exact ⟨m2,r2,rfl,eb,o2⟩
  exact Zcl hn (kp.at er) ok fun σ'' t5' t6' t7' k6=>⟨_,_,_,_,rfl,kp.trans k6⟩
 ·rintro loc σ' ⟨t4,t5,t6,t7,rfl,kp⟩
  exact ZF (hQ _ _ _ _ _ (kk.trans kp.of0) (pp.keep kp))
end
section
variable {n s p i L d c ep:Nat}{ns:List Int}{σ:List Za}{Q:Zq}{X:Zx}{t4 t5 t6 t7:Option AV}
noncomputable abbrev Vi (s p i L d c:Nat)(t4 t5 t6 t7 t10 t11:Option AV):Zc:=[some (.obj s),some (.obj p),some (.obj i),some (.int L),t4,t5,t6,t7,some (.obj d),some (.obj c),t10,t11,none]
theorem Zch (hn:14≤n)(hf:Xo ns)(hL:L=(Zk ns).toNat)(hx:σ[i]?=some (IL ns))
  (hQ:∀ σ' d c ep,Kp [] σ σ'→σ'[d]?=some (DI (DS ns L) ep)→σ'[c]?=some (CI ns L)→vB (n-1) (Yu 6 Xw) (Vi s p i L d c t4 t5 t6 t7 none none) σ' (ZT Q) (Z2 X)) :
  vB (n-1) (Yu 4 Xw) (HB s p i L t4 t5 t6 t7) σ (ZT Q) (Z2 X):=by
 obtain ⟨hg,hL1,hL6,hLe,hR⟩:=Wv hf
 rw [← hL] at hg hL1 hL6 hR
 have hnl:=hf.1
 walk_at "b"
 refine QD (by exact Internal.q2) hx (by exact Internal.q4) (by exact Internal.q4) hR fun σ₁ d ep k1 e1 _=>?_
 refine Qy (L:=L) (by exact Internal.q2) (k1.at hx) (by exact Internal.q4) (by grind) (by exact Internal.q4) hR fun σ₂ c k2 e2 _=>?_
 refine ⟨rfl,ZD,?_⟩
 have k12:=(k1.trans k2).app [.tup [.obj d,.obj c]]
 have ed:=Zh (γ:=[.tup [.obj d,.obj c]]) (k2.at e1)
 have ec:=Zh (γ:=[.tup [.obj d,.obj c]]) e2
 generalize σ₂++[.tup [.obj d,.obj c]]=σ₃ at k12 ed ec ⊢
 walk_at "n"
 have hci:((List.range ns.length).map (YQ L ns)).length=ns.length:=by simp
 refine ⟨_,ec,by rw [ZY,hci];exact Internal.q4,_,k12.at hx,by rw [ZY];exact Internal.q4,?_⟩
 refine UI (fun _=>?_) fun q=>absurd (by rw [ZY,ZY,hci]) q
 refine Zhf (by exact Internal.q2) ed Wn (Nat.le_of_lt (Nat.lt_trans (Jt (L:=L) hnl ‹_›) (by decide))) (Ha (by exact Internal.q4)) ‹_› (ZaZ hg) fun σ₄ k4=>?_
 walk_at "d"
 exact ZA (ZI (ZK (ZF (hQ σ₄ d c ep (k12.trans k4) (k4.at ed) (k4.at ec)))))
inductive Nb (L:Nat)(c:Nat)(d:Nat)(i:Nat)(p:Nat)(s:Nat)(t4:Option AV)(t5:Option AV)(t6:Option AV)(t7:Option AV)(σ:List Za)(k:Nat)(loc:Zc)(σ':List Za):Prop
|mk (t10 t11:Option AV):(loc=Vi s p i L d c t4 t5 t6 t7 t10 t11)→(Kp [] σ σ')→Nb L c d i p s t4 t5 t6 t7 σ k loc σ'
theorem Zcn (hn:14≤n)(hf:Xo ns)(hL:L=(Zk ns).toNat)(hx:σ[i]?=some (IL ns))(hd:σ[d]?=some (DI (DS ns L) ep))(hc:σ[c]?=some (CI ns L))
  (hQ:∀ σ' t10 t11,Kp [] σ σ'→vB (n-1) (Yu 7 Xw) (Vi s p i L d c t4 t5 t6 t7 t10 t11) σ' (ZT Q) (Z2 X)) :
  vB (n-1) (Yu 6 Xw) (Vi s p i L d c t4 t5 t6 t7 none none) σ (ZT Q) (Z2 X):=by
 obtain ⟨hg,hL1,hL6,hLe,hR⟩:=Wv hf
 rw [← hL] at hg hL1 hL6 hR
 have hnl:=hf.1
 walk_at "b"
 refine BS hd Wn (Nb L c d i p s t4 t5 t6 t7 σ) ⟨_,_,rfl,Kp.refl⟩ ?_ ?_ ?_
 ·rintro k loc σ' ⟨t10,t11,rfl,kp⟩
  exact kp.at hd
 ·rintro k loc σ' e he ⟨t10,t11,rfl,kp⟩
  obtain ⟨sy,l,h1,h2,h3,rfl⟩:=VT (List.mem_of_getElem? he)
  have hmem:=List.mem_of_getElem? he
  rw [VK h1 h2 h3] at hmem ⊢
  walk_at "b"
  refine Z8 (kp.at hx) (by exact Int.natCast_nonneg _) h1 (by exact Internal.q4) ?_
  walk_at "n"
  have hsl:=ZL h1
  have hcs:((List.range ns.length).map (YQ L ns))[sy]?=some ((cv ns sy:Nat):Int):=by
   rw [List.getElem?_map,List.getElem?_range hsl,Option.map_some,ND h1 h2 h3]
  have hcl:((List.range ns.length).map (YQ L ns)).length≤1000000:=by simp;exact Internal.q4
  have hcp:=Gq hg h1 h2 h3
  rw [Int.toNat_natCast]
  refine ⟨trivial,by exact qt (by decide),by lia,?_⟩
  refine Ve (fun k σ''=>σ''=σ'++[SL ((List.range k).map fun b=>[48+cv ns sy / 2^(l-1-b) % 2])]) rfl ?_ ?_
  ·rintro b σ'' hb rfl
   walk_at "d"
   refine ZA (Z8 (Zh (kp.at hc)) (by exact Int.natCast_nonneg _) (by rw [Int.toNat_natCast];exact hcs) hcl ?_)
   walk_at "d"
   refine ⟨by lia,?_⟩
   rw [show ((l:Int)-1-(0+(b:Int))).toNat=l-1-b by simp,X3,Gd,Int.toNat_natCast]
   refine ⟨by exact Internal.qG _,Jf Zm (by simp;lia) ?_⟩
   have er:=DX (f:=fun b=>[48+cv ns sy / 2^(l-1-b) % 2]) (i:=b)
   rw [Jk,er]
   exact WH
  ·rintro σ'' rfl
   refine Hq Zm ?_ ?_
   ·rw [UB,List.length_map,List.length_range];exact Internal.qBx ‹_› ‹_› (by rfl)
   rw [UB]
   have kp':Kp [] σ (σ'++[SL ((List.range l).map fun b=>[48+cv ns sy / 2^(l-1-b) % 2])]):=kp.app _
   generalize σ'++[SL ((List.range l).map fun b=>[48+cv ns sy / 2^(l-1-b) % 2])]=σ₂ at kp' ⊢
   refine VP (d:=((sy:Int),ZV (cv ns sy) l)) (kp'.at hd) Wn hmem ?_
   walk_at "d"
   refine Xz (fun q=>absurd rfl q) fun _=>ZK ?_
   walk_at "n"
   refine Z8 (kp'.at hc) (by exact Int.natCast_nonneg _) (by rw [Int.toNat_natCast];exact hcs) hcl ?_
   walk_at "d"
   refine ⟨by exact Int.natCast_nonneg _,?_⟩
   rw [Int.toNat_natCast,X3,Nat.div_eq_of_lt hcp]
   refine Xz (fun q=>absurd rfl q) fun _=>ZK (Zl (ZF ⟨_,_,rfl,kp'⟩))
 ·rintro loc σ' ⟨t10,t11,rfl,kp⟩
  exact ZF (hQ _ _ _ kp)
end
section
variable {n s p i L d c ep:Nat}{ns xs:List Int}{σ:List Za}{Q:Zq}{X:Zx}{t4 t5 t6 t7 t10 t11:Option AV}
theorem Zco {o:Unit→Obj}(hn:14≤n)(hnl:ns.length≤9)(hx:σ[i]?=some (IL ns))(hc:σ[c]?=some (CI ns L))(hs:σ[s]?=some (.frz o xs))(hxl:xs.length≤1000)
  (hQ:∀ σ',Kp [] σ σ'→vB (n-1) (Yu 9 Xw) (Vi s p i L d c t4 t5 t6 t7 t10 t11) σ' (ZT Q) (Z2 X)) :
  vB (n-1) (Yu 7 Xw) (Vi s p i L d c t4 t5 t6 t7 t10 t11) σ (ZT Q) (Z2 X):=by
 walk_at "b"
 refine NP hx (fun k σ'=>σ'=σ++[IL []]) rfl ?_ ?_ ?_
 ·rintro k σ' rfl
  exact Zh hx
 ·rintro k σ' v hv rfl
  have hk:=ZL hv
  walk_at "d"
  refine ZU (fun h=>?_) fun h=>ZI rfl
  have hcs:((List.range ns.length).map (YQ L ns))[k]?=some 0:=by
   rw [List.getElem?_map,List.getElem?_range hk,Option.map_some]
   unfold YQ
   rw [YS hv,if_pos h]
  refine Z8 (Zh hc) (by exact Int.natCast_nonneg _) (by rw [Int.toNat_natCast];exact hcs) (by simp;exact Internal.q4) ?_
  walk_at "d"
  exact Xz (fun q=>absurd rfl q) fun _=>ZI rfl
 ·rintro σ' rfl
  refine ⟨ZD,.inr rfl,.inl ⟨[],[],Zh Zm,Zm,?_⟩⟩
  refine ZI (ZK ?_)
  have k1:Kp [] σ ((σ++[IL []])++[Za.list []]):=(Kp.refl.app _).app _
  generalize (σ++[IL []])++[Za.list []]=σ₁ at k1 ⊢
  walk_at "n"
  refine ⟨o,xs,k1.at hs,by exact Internal.q4,?_⟩
  refine ZU (fun h=>?_) fun h=>?_
  ·refine Zhb (by exact Internal.q2) fun σ₂ k2=>?_
   walk_at "d"
   exact ZI (ZI (ZK (ZF (hQ _ (k1.trans k2)))))
  ·exact ZI (ZK (ZF (hQ _ k1)))
inductive Nc (p:Nat)(σ₁:List Za)(k:Nat)(σ':List Za):Prop
|mk (os:List Int):(os.length=k)→((∀ o∈os,0≤o∧o<256))→(Kp [p] σ₁ σ')→(Z5 p σ')→(σ'[σ₁.length]?=some (IL os))→Nc p σ₁ k σ'
theorem Zci (hn:14≤n)(hf:Xo ns)(hL:L=(Zk ns).toNat)(hp:Z5 p σ)(hx:σ[i]?=some (IL ns))(hd:σ[d]?=some (DI (DS ns L) ep))(hpi:i≠p)
  (hQ:∀ σ',Kp [p] σ σ'→Q (.bool true) σ') :
  vB (n-1) (Yu 9 Xw) (Vi s p i L d c t4 t5 t6 t7 t10 t11) σ (ZT Q) (Z2 X):=by
 obtain ⟨hg,hL1,hL6,hLe,hR⟩:=Wv hf
 have hnl:=hf.1
 have hip:i∉[p]:=by simpa using hpi
 have hpl:p<σ.length:=by obtain ⟨w,c,_,e⟩:=hp;exact ZL e
 have hdp:d∉[p]:=by
  obtain ⟨w,c,_,e⟩:=hp
  intro q;exact Yh hd e (by intro e;cases e) (List.mem_singleton.mp q)
 walk_at "b"
 refine Xn (by exact Internal.q2) hp (by decide) (by decide) fun v σ₁ v0 v1 k1 p1 hl1=>?_
 refine ⟨by grind,by grind,?_⟩
 refine Ve (Nc p σ₁) ⟨[],rfl,by simp,Kp.refl.app _,p1.keep (Kp.refl.app (S:=[]) _),Zm⟩ ?_ ?_
 ·rintro k σ' hk ⟨os,hl,hos,kp,pp,e⟩
  walk_at "d"
  refine ZA (Xn (by exact Internal.q2) pp (by decide) (by decide) fun o σ₂ o0 o1 k2 p2 _=>?_)
  have hne:σ₁.length∉[p]:=by simp;lia
  refine W4 (k2.at e hne) (by lia) ⟨os++[o],by simp [hl],fun z hz=>?_,(kp.trans k2).set _ (.inr (Nat.le_refl _)),?_,?_⟩
  ·rcases List.mem_append.mp hz with q|q
   ·exact hos z q
   ·rw [List.mem_singleton.mp q];omega
  ·obtain ⟨w,c,h0,e'⟩:=p2
   exact ⟨w,c,h0,YM e' (by omega)⟩
  ·rw [XA]
   exact ZJ (k2.at e hne)
 ·rintro σ' ⟨os,hl,hos,kp,pp,e⟩
  have hol:os.length≤6:=by grind
  refine ⟨os,e,by unfold sizeLine;exact Internal.q4,hos,?_⟩
  have hbl:(os.map fun n=>n.toNat.toUInt8).length≤6:=by rw [List.length_map];exact hol
  generalize (os.map fun n=>n.toNat.toUInt8)=bs at hbl ⊢
  have k2:=k1.trans kp
  walk_at "n"
  refine Jo (by exact Internal.q2) (by exact Internal.q4) fun σ₂ k3=>?_
  obtain ⟨ss,hsl,hRd⟩:=C2 hg ((ZW bs).length+1) (ZW bs) (Ut _) (Nat.lt_succ_self _)
  rw [XG] at hsl
  rw [← hL] at hRd
  have k23:=k2.trans k3.of0
  refine QE (by exact Internal.q2) (k23.at hd hdp) Wn (Ha (by exact Internal.qBw ‹_› ‹_› (by rfl))) (by rw [XG];lia) hRd (by grind) fun σ₃ si k4 e4 _=>?_
  have k34:=k23.trans k4.of0
  have pp3:=pp.keep (k3.trans k4)
  walk_at "n"
  refine T2 (by exact Internal.q2) (k34.at hx hip) (fun σ₀ r Q₀=>Bp (by exact Internal.q2) hf σ₀ r Q₀) fun σ₄ r ci si' fs hby k5 q1 q2 q3=>?_
  refine UL (by exact Internal.q2) (by exact Internal.q4) fun σ₅ bi k6 q4 hbi=>?_
  refine ⟨by exact Internal.q4,Vs (by decide),?_⟩
  rw [show (8:Int)*(bs.length:Int)+1=((8*bs.length+1:Nat):Int) by rfl]
  refine Jq (M:=8*bs.length+1) (p:=0) (by exact Internal.q2) (k6.at q1) (k6.at q2) (k6.at q3) q4 (by exact Internal.q4) (by exact Internal.q4) Yn (Gn (by exact Internal.q4)) (by have:=Hd hby;exact Internal.qBx ‹_› ‹_› (by rfl)) (by lia) (fun p i p'=>D1 hg hby) fun σ₆ t f k7 q5 q6=>?_
  have ht:=Qt (l:=bs) hg hby (8*bs.length+1) 0 ss (Nat.zero_le _) (by exact Nat.le_refl _) (by rw [← hL,List.drop_zero];exact hRd)
  rw [ht] at q5 q6
  have k57:Kp [] σ₃ σ₆:=(k5.trans k6).new k7 fun j hj=>by rw [List.mem_singleton.mp hj];have:=k5.1;exact Nat.le_trans ‹_› ‹_›
  refine ⟨ZD,.inr rfl,.inr ⟨f,si,_,_,_,_,Zh q5,Zm,Zh q6,Zh (k57.at e4),(show Y9 [99,117,116]=true by decide),(show Y9 [99,117,116]=true by decide),?_⟩⟩
  rw [if_neg (by decide),decide_eq_true ⟨rfl,rfl⟩]
  refine ZI (ZK (ZF ?_))
  have k8:Kp [] σ₃ (σ₆++[.tup [.obj si,.str [99,117,116]]]):=k57.app _
  have k9:=k34.trans k8.of0
  have pp9:=pp3.keep k8
  generalize σ₆++[.tup [.obj si,.str [99,117,116]]]=σ₇ at k8 k9 pp9 ⊢
  walk_at "b"
  refine ZhB (by exact Internal.q2) pp9 (k9.at hx hip) (k9.at hd hdp) hf hL hpi fun σ₈ kA ppA=>?_
  walk_at "d"
  refine ZA (Zhl (by exact Internal.q2) ppA fun σ₉ kB _=>?_)
  exact hQ _ ((k9.trans kA).trans kB)
end
theorem Zhi {n s:Nat}{o:Unit→Obj}{xs:List Int}{σ:List Za}{Q:Zq}{X:Zx}(hn:14≤n)(hs:σ[s]?=some (.frz o xs))(hxl:xs.length≤1000)(hQ:∀ σ',Kp [] σ σ'→Q (.bool true) σ'):WF n 478 [.obj s] σ Q X:=by
 refine WF.mini [_,_,_,_,_,_,_,_,_,_,_,_] ZaD ZeX ZdF .nil (by exact Internal.q1) ?_
 refine Zcj hn hs hxl fun σ₁ p i ns L hf hL k1 p1 e1 hp hpi hi=>?_
 have hsl:=ZL hs
 refine Zcm hn hf p1 e1 hpi fun σ₂ t4 t5 t6 t7 k2 p2=>?_
 have kA:Kp [] σ σ₂:=k1.new k2 fun j hj=>by rw [List.mem_singleton.mp hj];exact hp
 have hip:i∉[p]:=by simpa using Ne.symm hpi
 have e2:=k2.at e1 hip
 refine Zch hn hf hL e2 fun σ₃ d c ep k3 e3 e4=>?_
 refine Zcn hn hf hL (k3.at e2) e3 e4 fun σ₄ t10 t11 k4=>?_
 have k34:=k3.trans k4
 refine Zco hn hf.1 (k34.at e2) (k4.at e4) ((kA.trans k34).at hs) hxl fun σ₅ k5=>?_
 refine Zci hn hf hL ((p2.keep k34).keep k5) (k5.at (k34.at e2)) (k5.at (k4.at e3)) (Ne.symm hpi) fun σ₆ k6=>?_
 exact hQ _ (((kA.trans k34).trans k5).new k6 fun j hj=>by rw [List.mem_singleton.mp hj];exact hp)
noncomputable abbrev Γ0:Ctx:=⟨.builtin "claim.caller" {},none,none,[],none⟩
theorem RB:holds? Γ0.code=false∧WK Γ0.below:=⟨by show (!W0.contains "claim.caller")=false;decide +kernel,fun x hx=>nomatch hx⟩
theorem Zbf {M:Model}{t:Sem Fin}{R:Result→Ws→Prop}{s:Ws}(h:Zb M callerA t (fun fin s'=>∃ f,fin=.done f∧R (.ok f) s') (fun e s'=>R (.error e) s') s)(p:Pos) :
  Sem.wp M Γ0 t (Sem.finPost M Γ0 R) (fun e _ s'=>R (.error e) s') p s:=by
 refine Sem.wp_mono M Γ0 t (fun fin p' s' h'=>?_) (fun _ _ _ h'=>h') p s (h Γ0 p caller_in RB.1 RB.2)
 obtain ⟨f,rfl,hf⟩:=h'
 exact hf
inductive MK (prog:Program)(w:World)(t:Sem Fin)(s:Ws)(R:Result→Ws→Prop):Prop
|mk (n:Nat) (r:Result) (s' s'':Ws) (h:runN (denote table) prog w n s ⟨t,.builtin "claim.caller" {},default,[]⟩=.halted (outcomeOf r) s')
  (h2:schedN (denote table) prog w n (.single s ⟨t,.builtin "claim.caller" {},default,[]⟩)=.halted (outcomeOf r) s') (f:s'.forget=s''.forget) (k:R r s''):MK prog w t s R
theorem Zbg {prog:Program}{w:World}{t:Sem Fin}{s:Ws}{R:Result→Ws→Prop}(hreg:s.asleep)
  (h:Zb (model prog w) callerA t (fun fin s'=>∃ f,fin=.done f∧(R (.ok f) s'∧leftWithCleanup s'.gens=false)) (fun e s'=>R (.error e) s'∧leftWithCleanup s'.gens=false) s) :
  MK prog w t s R:=by
 obtain ⟨n,r,s₁,s₂,hs,hn,hfo,hR⟩:=wp_halts_full (M:=model prog w) (R:=R) hreg (Zbf (R:=fun r s'=>R r s'∧leftWithCleanup s'.gens=false) h default)
 exact ⟨n,r,s₂,s₁,hn,hs,hfo,hR⟩
theorem Zbn {c:ClaimW}{tree:List Value→Sem Fin}{w:World}{s:Ws}{free:Addr→Prop}{gens:Prop}{kept:Heap→Prop}(hz:s.asleep)(hgens:s.gens=#[])
  (spec:∀ args,c.pre args=true→WData.layableAll args=true→∀ ord:List DictEntry→List DictEntry,(∀ l,(ord l).Perm l)→∃ vs s₁,layAllW c.records (classAt s.heap) w.params ord args s=some (vs,s₁) ∧
   Zb (model c.prog w) callerA (tree vs) (fun fin s'=>∃ f,fin=.done f∧(c.Ends s args vs s₁ (.ok f) s'∧s'.os=s.os∧AllBare s'.gens∧kept s'.heap)) (fun e s'=>c.Ends s args vs s₁ (.error e) s'∧s'.os=s.os∧AllBare s'.gens∧kept s'.heap) s₁) :
  c.CallFrom (fun vs=>⟨tree vs,.builtin "claim.caller" {},default,[]⟩) w free gens kept s:=by
 intro args hpre hlay ord hord
 refine Classical.byContradiction fun hG=>?_
 obtain ⟨vs,s₁,hlaid,hcode⟩:=spec args hpre hlay ord hord
 have rest:=layAllW_rest _ _ _ hlaid
 have good:=hcode.mono (Q':=fun fin s'=>∃ f,fin=.done f∧((c.Ends s args vs s₁ (.ok f) s'∧s'.os=s.os∧kept s'.heap)∧leftWithCleanup s'.gens=false)) (E':=fun e s'=>(c.Ends s args vs s₁ (.error e) s'∧s'.os=s.os∧kept s'.heap)∧leftWithCleanup s'.gens=false)
  (fun fin s' q=>by obtain ⟨f,e,a1,a2,a3,a4⟩:=q;exact ⟨f,e,⟨a1,a2,a4⟩,leftWithCleanup_false_of_bare a3⟩) (fun e s' q=>by obtain ⟨a1,a2,a3,a4⟩:=q;exact ⟨⟨a1,a2,a4⟩,leftWithCleanup_false_of_bare a3⟩)
 obtain ⟨k,r,s',s'',hrun,hsched,hfo,hcase,hos,hkp⟩:=Zbg (R:=fun r s'=>c.Ends s args vs s₁ r s'∧s'.os=s.os∧kept s'.heap) (Shared.asleep_of_life rest.2.2.2 hz) good
 obtain ⟨eh,_,_,eo,_⟩:=Shared.forget_eq hfo
 have hcase:=hcase.congr eh
 have hkp':kept s'.heap:=by rw [eh];exact hkp
 rw [← eo] at hos
 have hlife:s'.heap.life=s.heap.life:=(runN_life _ _ _ hrun).trans rest.2.2.2
 refine hG ⟨vs,s₁,hlaid,k,_,s',hsched,?_,(fun _ i x hx=>by rw [hgens] at hx;simp at hx),hkp',by rw [hlife],Shared.rest_eq hos⟩
 rcases hcase with ⟨v,rfl,d1,d2,d3,d4,d5⟩|⟨e,ob,cls,rfl,d1,d2,d3,d4,d5⟩
 ·exact .inl ⟨v,rfl,d1,d2,d3,fun b o y _=>d4 b o y,d5⟩
 ·exact .inr ⟨e,ob,cls,rfl,d1,d2,d3,d4,fun b o y _=>d5 b o y⟩
theorem Zbz {r:OpenRow}{d:DefRec}{kwd:List (Str×Expr)}{Xt:Ws→Bool}{XP:(Str→Option Value)→Heap→Prop}{α:Type}{Yf:Ws→α}{Ya:World→α}{YP:World→Heap→Prop}{N:Nat}{q:Program}{X9:List Str}
  (left:LeftO r.prog q X9 Xt Yf Ya N) (hY:∀ w s,Yf s=Ya w→YP w s.heap) (hX:∀ s,Xt s=true→XP (s.heap.nsMap mainGlobals) s.heap) (hXk:∀ mg h h',XP mg h→(∀ b o,h.get? b=some o→h'.get? b=some o)→XP mg h')
  (hdef:defOf q r.name=some (d,kwd)) (hp:r.prog.theDef r.name=some (d.params,d.body,d.scope)) (hk:kwWritten? d.params.kwonlyargs d.params.kw_defaults=some kwd) (hRf:∀ s,Xt s=true→RecFacts r.records s.heap) (hwr:(!r.writes||r.records.isEmpty)=true)
  (k1:r.wellSaid=true) (ok:(chainsOk q&&opensWell r.prog&&(frees r.toRowW&&r.within.isEmpty))=true) (hb:r.prog.bare) (hw:r.toRowW.promised)
  (call:∀ (w:World) (s s₁:Ws) (mg mb:Str→Option Value),Ground q X9 r.records XP w s mg mb s.heap→YP w s.heap→∀ (a:Addr),mg r.name=some (.ref a)→∀ (args:List WData) (vs:List Value) (as:List Addr),r.toRowW.claim.pre args=true→WData.layableAll args=true→Laid r.records w s s₁ args vs as →
   Zb (model r.prog w) callerA (PySem.call (.ref a) vs) (fun v s'=>GoodWG r.toRowW.claim (classAt s.heap) (ExcName.means s.heap) args s₁ (.ok (.ret v)) s') (fun e s'=>GoodWG r.toRowW.claim (classAt s.heap) (ExcName.means s.heap) args s₁ (.error e) s') s₁):r.Holds:=by
 refine ⟨k1,hw,?_⟩
 refine Classical.byContradiction fun hG=>?_
 obtain ⟨ok,k5⟩:=Bool.and_eq_true_iff.mp ok
 obtain ⟨hch,o1⟩:=Bool.and_eq_true_iff.mp ok
 obtain ⟨k5,k6⟩:=Bool.and_eq_true_iff.mp k5
 obtain ⟨hsame,hu,ha,hap,hm⟩:=frees_parts k5
 refine hG ⟨⟨hb,o1,by show r.makers.map _=[];rw [hm];rfl⟩,hw.witness,fun w=>⟨(left.behind hX hch w).1,fun s' hs'=>?_⟩⟩
 refine Classical.byContradiction fun hG=>?_
 obtain ⟨s₀,hf,hg0,s,hT,hz,hgens,hg,G00,y⟩:=(left.behind (XP:=fun mg h=>XP mg h∧RecFacts r.records h) (fun s hs=>⟨hX s hs,hRf s hs⟩) hch w).2 s' hs'
 have G0:Ground q X9 [] XP w s (s.heap.nsMap mainGlobals) (s.heap.nsMap builtinsNs) s.heap:=⟨G00.T,G00.B,G00.D,G00.TE,G00.TD,G00.W,G00.X.1,G00.cls,G00.has,G00.apart,G00.once,G00.K⟩
 have RF:=G00.X.2
 have hT':=hT
 refine hG ⟨s₀,hf,hg0,s,hT,(fun n hn=>?_),RF.1,RF.2.1,?_⟩
 ·obtain rfl:n=r.name:=by split at hn<;>simp_all
  exact pinned_of_view hg G0 hdef hp hk
 have hgens:s.gens=#[]:=Array.eq_empty_of_size_eq_zero (beq_iff_eq.mp hgens)
 have G:Ground q X9 r.records XP w s _ _ s.heap:=RF.ground G0
 refine Zbn (c:=r.toRowW.claim) hz hgens fun args hpre hlay ord hord=>?_
 refine Classical.byContradiction fun hG=>?_
 obtain ⟨⟨vs,s₁⟩,hlaid⟩:=Option.isSome_iff_exists.mp (layAllW_isSome (P:=w.params) (ord:=ord) G.has args r.args s (pre_splitW hpre).1)
 have keeps:=layAllW_keeps _ _ _ hlaid
 have rest:=layAllW_rest _ _ _ hlaid
 obtain ⟨as,hrd,hin,hold⟩:=reads_layAllW hord _ _ _ hlaid hlay s₁.heap (fun _ _ e=>e)
 have L:Laid r.records w s s₁ args vs as:=⟨⟨ord,hord,hlaid⟩,hrd,hin,hold,keeps,rest.1.trans hgens,rest.2.2.1⟩
 obtain ⟨a,o,pm,cd,doc,dV,kV,h1,_⟩:=G.fn hdef
 have h:=call w s s₁ _ _ G (hY w s y) a h1 args vs as hpre hlay L
 have hi:=ident_freeW hu ha hap
 have hwi:r.toRowW.claim.within=[]:=List.isEmpty_iff.mp k6
 refine hG ⟨vs,s₁,hlaid,?_⟩
 have hg1:s₁.heap.Ns mainGlobals (s.heap.nsMap mainGlobals):=G.T.g.keeps keeps
 refine .step (wpAny_nsGet hg1 ?_)
 rw [h1]
 refine .bind (h.mono (fun v s' g=>?_) fun e s' g=>?_)
 ·refine .pure ?_
  have z:=g.laid (c:=r.toRowW.claim) hsame hwi hi L
  exact ⟨_,rfl,z.1,z.2.1,z.2.2,fun q=>⟨namesKept_of hT' hg _ keeps g.2.1.old,noTable hwr q⟩⟩
 ·have z:=g.laid (c:=r.toRowW.claim) hsame hwi hi L
  exact ⟨z.1,z.2.1,z.2.2,fun q=>⟨namesKept_of hT' hg _ keeps g.2.1.old,noTable hwr q⟩⟩
noncomputable def Wc (h:Heap)(a:Addr):Heap:=⟨h.objs.modify a (fun o=>{o with data:=.freed}),h.life⟩
theorem QL (h:Heap)(a:Addr):(Wc h a).get? a=none:=by
 unfold Wc Heap.get?
 dsimp only
 rw [Array.getElem?_modify,if_pos rfl]
 cases h.objs[a]?<;>rfl
theorem Ms (h:Heap){a b:Addr}(hb:b≠a):(Wc h a).get? b=h.get? b:=by
 unfold Wc Heap.get?
 dsimp only
 rw [Array.getElem?_modify,if_neg (Ne.symm hb)]
theorem ZhD (h:Heap)(a:Addr):(Wc h a).objs.size=h.objs.size:=by
 exact Array.size_modify
theorem Zcg (P:Wp):nsIn (KK P) mainGlobals "law" = some (some (.ref 478)):=by kernel_rfl
theorem Zb3 {d:WData}(h:WShape.has [] d .int=true):∃ i,d=.int i:=by
 cases d<;>first|exact ⟨_,rfl⟩|exact absurd (show false=true from h) Bool.false_ne_true
theorem Zb4 {xs:List WData}(h:WShape.hasItems [] xs .int=true):∃ ns:List Int,xs=ns.map .int:=by
 induction xs with
|nil=>exact ⟨[],rfl⟩
|cons x xs ih=>
  obtain ⟨h1,h2⟩:=Bool.and_eq_true_iff.mp (show (WShape.has [] x .int&&WShape.hasItems [] xs .int)=true from h)
  obtain ⟨i,rfl⟩:=Zb3 h1
  obtain ⟨ns,rfl⟩:=ih h2
  exact ⟨i::ns,rfl⟩
theorem Zcr {d:WData}(h:WShape.has [] d (.list .int)=true):∃ ns:List Int,d=.list (ns.map .int):=by
 cases d<;>first
 |exact absurd (show false=true from h) Bool.false_ne_true
 |(rename_i l;have h':(WShape.hasItems [] l .int||false)=true:=h;rw [Bool.or_false] at h';obtain ⟨ns,rfl⟩:=Zb4 h';exact ⟨ns,rfl⟩)
theorem RL {args:List WData}(h:WShape.hasAll [] args [.list .int]=true):∃ xs:List Int,args=[.list (xs.map .int)]:=by
 cases args with
|nil=>exact absurd (show false=true from h) Bool.false_ne_true
|cons x r=>
  obtain ⟨h1,h2⟩:=Bool.and_eq_true_iff.mp (show (WShape.has [] x (.list .int)&&WShape.hasAll [] r [])=true from h)
  obtain ⟨ns,rfl⟩:=Zcr h1
  cases r with
 |nil=>exact ⟨ns,rfl⟩
 |cons y r=>exact absurd (show false=true from h2) Bool.false_ne_true
theorem Zev {cl:Str→Option Addr}{h:Heap}:∀ {xs:List Int} {vs:List Value} {as:List Addr},ReadsAllW [] cl h vs (xs.map .int) as→IntsAre vs xs∧as=[]:=by
 intro xs
 induction xs with
|nil=>intro vs as r;cases r;exact ⟨.nil,rfl⟩
|cons x xs ih=>
  intro vs as r
  cases r with
 |cons r1 r2=>
   cases r1
   obtain ⟨h1,h2⟩:=ih r2
   exact ⟨.cons _ _ h1,by rw [h2];rfl⟩
theorem Zeq (args ds:List WData):XS.toRowW.claim.post args (.bool true) ds=true:=by
 show (WShape.has [] (.bool true) .bool&&WTm.holds [] (.eq .res (.lit (.bool true))) {args:=args,res:=some (.bool true),after:=ds})=true
 have h1:WShape.has [] (.bool true) .bool=true:=by kernel_rfl
 have h2:WTm.holds [] (.eq .res (.lit (.bool true))) {args:=args,res:=some (.bool true),after:=ds}=true:=by kernel_rfl
 rw [h1,h2];rfl
theorem Zcq {xs:List Int}(h:WTm.holds XS.toRowW.records XS.toRowW.pre {args:=[.list (xs.map .int)]}=true):xs.length≤1000:=by
 have h:WTm.holds [] (.and (.not (.lt (.lit (.int 63)) (.len (.arg 0)))) (.lit (.bool true))) {args:=[.list (xs.map .int)]}=true:=h
 have e:WTm.holds [] (.and (.not (.lt (.lit (.int 63)) (.len (.arg 0)))) (.lit (.bool true))) {args:=[.list (xs.map .int)]}=WTm.holds [] (.and (.not (.lit (.bool (decide ((63:Int)<((xs.map WData.int).length:Nat)))))) (.lit (.bool true))) {args:=[]}:=by kernel_rfl
 rw [e,List.length_map] at h
 by_cases q:(63:Int)<xs.length
 ·rw [decide_eq_true q] at h
  exact absurd h (by rw [show WTm.holds [] (.and (.not (.lit (.bool true))) (.lit (.bool true))) {args:=[]}=false by kernel_rfl];exact Bool.false_ne_true)
 ·exact Nat.le_trans (Int.ofNat_le.mp (Int.not_lt.mp q)) (by decide)
theorem Zex {cl:Str→Option Addr}{h:Heap}{xs:List Int}{vs:List Value}{as:List Addr}(hr:ReadsAllW [] cl h vs [.list (xs.map .int)] as):∃ l o i0z n,vs=[.ref l]∧as=[l]∧h.get? l=some o∧o.cls=.type "list" ∧ o.data=.seq i0z n∧IntsAre i0z.toList xs:=by
 cases hr with
|cons r1 r2=>
  cases r2
  cases r1 with
 |@list l o i0z n _ asl ho hc hd hrs=>
   obtain ⟨hi,rfl⟩:=Zev hrs
   exact ⟨l,o,i0z,n,rfl,rfl,ho,hc,hd,hi⟩
theorem R5 (w:World)(s s₁:Ws)(mg mb:Str→Option Value)(G:Ground qq X9 XS.toRowW.records (XL qq []) w s mg mb s.heap)(Y:HK.says w s.heap)(a:Addr)(ha:mg XS.name=some (.ref a))(args:List WData)(vs:List Value)(as:List Addr)
  (hpre:XS.toRowW.claim.pre args=true) (hlay:WData.layableAll args=true) (L:Laid XS.toRowW.records w s s₁ args vs as) :
  Zb (model XS.toRowW.prog w) callerA (PySem.call (.ref a) vs) (fun v s'=>GoodWG XS.toRowW.claim (classAt s.heap) (ExcName.means s.heap) args s₁ (.ok (.ret v)) s') (fun e s'=>GoodWG XS.toRowW.claim (classAt s.heap) (ExcName.means s.heap) args s₁ (.error e) s') s₁:=by
 obtain ⟨hsh,hpr⟩:=pre_splitW hpre
 obtain ⟨xs,rfl⟩:=RL hsh
 have X:(KK w.params).In s.heap:=kIn_of Y
 have hlaw:mg XS.name=some (.ref 478):=mg_of X G.T.g (Zcg w.params)
 have ha':a=478:=by rw [hlaw] at ha;cases ha;rfl
 subst ha'
 obtain ⟨l,o,i0z,n,rfl,rfl,ho,hc,hd,hi⟩:=Zex L.reads
 have hlow:=(L.within.2.2 l (by simp)).1
 have keep0:∀ b o',s.heap.get? b=some o'→(Wc s₁.heap l).get? b=some o':=fun b o' e=>by
  rw [Ms]
  ·exact L.keeps b o' e
  ·intro q;subst q;exact absurd (Heap.lt_size e) (Nat.not_lt.mpr hlow)
 let Gx0:Gx:=⟨w,Wc s₁.heap l,s₁.gens,s₁.os,mg,mb,X.keeps keep0,G.T.g.keeps keep0,G.T.b.keeps keep0,G.T.nolimit.keeps keep0,G.T.builtins⟩
 have C:CS Gx0 [] [] [] [l] [.frz (fun _=>o) xs] s₁:=by
  refine ⟨[[(l,o)]],[],.cons ⟨rfl,hc,i0z.toList,n,by rw [hd],hi⟩ .nil,trivial,trivial,fun p hp=>?_,by simp,fun b o' e=>?_,by show (Wc s₁.heap l).objs.size≤_;rw [ZhD];exact Nat.le_refl _,rfl,rfl⟩
  ·simp at hp;subst hp
   exact ⟨ho,QL _ _⟩
  ·by_cases q:b=l
   ·subst q
    rw [show Gx0.h=Wc s₁.heap b from rfl,QL] at e;cases e
   ·rw [show Gx0.h=Wc s₁.heap l from rfl,Ms _ q] at e;exact e
 have hroom:ZG 14 callerA:=⟨fun _=>rfl,by decide,by decide⟩
 have hxl:xs.length≤1000:=Zcq hpr
 have W:=Zhi (n:=14) (s:=0) (o:=fun _=>o) (xs:=xs) (σ:=[.frz (fun _=>o) xs]) (Q:=fun v σ'=>v=.bool true∧Kp [] [.frz (fun _=>o) xs] σ') (X:=fun _ _=>False) (Nat.le_refl _) rfl hxl fun σ' k=>⟨rfl,k⟩
 refine .call (W Gx0 callerA [] [] [] [l] s₁ [.ref l] _ hroom rfl C (.cons ⟨l,rfl,rfl⟩ .nil) (fun v av σ' β' s' q p C' hv=>?_) fun c σ' β' e s' x=>x.elim)
 obtain ⟨rfl,kp⟩:=q
 obtain ⟨b0z,frn,real,_,_,all,_,keepE,_,hgen,hos⟩:=C'
 obtain ⟨a0,b0,pre,post,e1,⟨e2,_⟩,e3,_⟩:=real.at (kp.at (i:=0) rfl)
 obtain rfl:v=.bool true:=hv
 have hl0:a0=l:=by
  obtain ⟨γ,rfl⟩:=p
  simpa using e1.symm
 subst hl0
 have hol:s'.heap.get? a0=some o:=by
  refine (all (a0,o) ?_).1
  rw [e3,e2];simp
 refine ⟨.inl ⟨.bool true,.bool true,[],rfl,fun cls=>rfl,.bool true,?_,fun _=>⟨List.nodup_nil,fun _ h=>nomatch h⟩⟩,.of_keep fun b o' e=>?_,hos,?_⟩
 ·exact Zeq _ _
 ·by_cases q:b=a0
  ·subst q
   rw [ho] at e;cases e;exact hol
  ·exact keepE b o' (by show (Wc s₁.heap a0).get? b=_;rw [Ms _ q];exact e)
 ·rw [hgen];exact .of_eq L.gens
theorem Zcv:looksOpen PySem.Challenge.rw_no0100_01.row.prog=true:=by
 refine look_both (look_both (look_both (look_both (look_both ?_ ?_) ?_) ?_) ?_) ?_
 all_goals decide +kernel
theorem ZgD:PySem.Challenge.rw_no0100_01.row.wellSaid=true:=by
 refine look_both (look_both (look_both (look_both (look_both (look_both (look_both (look_both (look_both (look_both (look_both (look_both (look_both (look_both (look_both Zcv ?_) ?_) ?_) ?_) ?_) ?_) ?_) ?_) ?_) ?_) ?_) ?_) ?_) ?_) ?_
 all_goals decide +kernel
theorem ZgC:PySem.Challenge.rw_no0100_01.wellSaid=true:=by
 refine look_both (look_both (look_both (look_both (look_both (look_both (look_both (look_both (look_both (look_both (look_both (look_both (look_both (look_both (look_both (look_both (look_both (look_both ZgD ?_) ?_) ?_) ?_) ?_) ?_) ?_) ?_) ?_) ?_) ?_) ?_) ?_) ?_) ?_) ?_) ?_) ?_
 all_goals decide +kernel
theorem Zii:PySem.Challenge.rw_no0100_01.Holds:=by
 refine holds_law ZgC fun said=>?_
 refine Zbz (q:=qq) (X9:=X9) (Xt:=Jz) (XP:=XL qq []) (Yf:=HK.obs) (Ya:=HK.val) (YP:=HK.says) (N:=7000) left (Hook.of HK) (fun s e=>xl_of s (Bool.and_eq_true_iff.mp e).1) XL.keeps (by rfl) (by rfl) (by rfl) (fun s e=>recFacts_of (Bool.and_eq_true_iff.mp e).2) (by rfl) ‹_› (by decide +kernel) ⟨rfl,rfl,rfl,rfl,rfl,by decide +kernel⟩ ?hw fun w s s₁ mg mb G Y a ha args vs as h1 h2 L=>R5 w s s₁ mg mb G Y a ha args vs as h1 h2 L
 w_witness2
end Mine.Internal
theorem PySem.Challenge.cw_no0100_01_holds : PySem.Challenge.rw_no0100_01.Holds :=
 Mine.Internal.Zii
