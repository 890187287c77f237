import PyProof.Rows.All
import Wide.All
import OpenK.AllK
import Wide.FinOn
import KE.KSortTup
import KE.KDictOf
import PySem.Challenge.RW_np0332_01
set_option linter.all false
set_option Elab.async false
set_option compiler.extract_closed false
set_option tactic.hygienic false
set_option backward.match.sparseCases false
set_option genInjectivity false
noncomputable section
set_option bootstrap.genMatcherCode false
set_option maxRecDepth 100000
open PyProof.Rows PySem PySem.W
namespace Mine
noncomputable abbrev pw : Program:=PySem.Challenge.pw_np0332_01
noncomputable def fS (st : Stmt) : Arguments × List Stmt × Scope:=match st with
 | .FunctionDef _ a b _ _ _ sc ..=>(a,b,sc)
 | _=>default
noncomputable def topS (i : Nat) : Stmt:=pw.main.body[i]?.getD default
noncomputable def clsB (i : Nat) : List Stmt:=match topS i with
 | .ClassDef _ _ _ b ..=>b
 | _=>[]
noncomputable def fA (i : Nat) : Arguments:=(fS (topS i)).1
noncomputable def fB (i : Nat) : List Stmt:=(fS (topS i)).2.1
noncomputable def fC (i : Nat) : Scope:=(fS (topS i)).2.2
noncomputable def mA (i j : Nat) : Arguments:=(fS ((clsB i)[j]?.getD default)).1
noncomputable def mB (i j : Nat) : List Stmt:=(fS ((clsB i)[j]?.getD default)).2.1
noncomputable def mC (i j : Nat) : Scope:=(fS ((clsB i)[j]?.getD default)).2.2
noncomputable abbrev bn:=BT.node
noncomputable abbrev bz:=BT.nil
namespace Z
noncomputable abbrev O:=Params -> Obj
noncomputable abbrev sn (x : String) : Str:=Str.ofString x
noncomputable abbrev s (x : String) (k : Nat) : Value:=Value.str (Str.ofString x) k
noncomputable abbrev i (k : Int) : Value:=Value.int k 0
noncomputable abbrev r (k : Nat) : Value:=Value.ref k
noncomputable abbrev n : Value:=Value.none
noncomputable abbrev d (P : Params) (x : String) (k : Nat) (v : Value) : DictEntry:=DictEntry.mk (PyData.keyHash P (Str.ofString x)) (Value.str (Str.ofString x) k) v
noncomputable abbrev tu (xs : Array Value) : Obj:=Obj.mk (Value.type "tuple") none (Data.seq xs) #[]
noncomputable abbrev fl (xs : Array Value) : Obj:=Obj.mk n none (Data.fields xs) #[]
noncomputable abbrev co (xs : Array Value) : Obj:=Obj.mk (Value.type "code") none (Data.fields xs) #[]
noncomputable abbrev dc (xs : Array DictEntry) (k : Nat) : Obj:=Obj.mk (Value.type "dict") none (Data.dict xs k) #[]
noncomputable abbrev f0 (a b : String) (A : Arguments) (B : List Stmt) (C : Scope) : Obj:=Obj.mk n none (Data.func (FuncData.mk (sn a) (sn b) A (FuncBody.stmts B) C 0 [] n n n n none n n 0)) #[]
noncomputable abbrev fk (a b : String) (A : Arguments) (B : List Stmt) (C : Scope) (D : Value) (m : String) (j k : Nat) : FuncData:=FuncData.mk (sn a) (sn b) A (FuncBody.stmts B) C 3 [] D n n (s m j) none (r k) n 0
noncomputable abbrev fo (f : FuncData) : Obj:=Obj.mk (Value.type "function") none (Data.func f) #[]
noncomputable abbrev c1 (a : String) (x : Nat) (b : String) (y z : Nat) (f na g : Int) (p q u v w : Nat) (h f2 : Int) (l : Nat) : Obj:=co #[s a x,s b y,s "/claim/cut.py" z,i f,i na,i 0,i 0,i g,r p,Value.bool Bool.true,i 181,r q,n,r u,r v,r w,i h,i f2,s "/claim/cut.py" l]
end Z
open Z
noncomputable abbrev bl (o : Obj) : BT:=BT.node o BT.nil BT.nil
noncomputable def o11 : O:=fun uw=>tu #[]
noncomputable def o12 : O:=fun uw=>fl #[]
noncomputable def o13 : O:=fun uw=>co #[s "<module>" 182,s "<module>" 183,s "/claim/cut.py" 184,i 1,i 0,i 0,i 0,i 0,r 11,Value.bool Bool.false,i 181,r 12,n,n,n,n,i 185,i 1,s "/claim/cut.py" 186]
noncomputable def o14 : O:=fun uw=>Obj.mk (Value.type "frame") none Data.plain #[some (r 13),some (r 3),some (r 3),none,some (s "__main__" 164),none,some (r 0)]
noncomputable def Tb (P : Params) : BT:=(bn (boot_o_0 P) (bn (boot_o_1 P) (bn (boot_o_3 P) (bn (boot_o_7 P) bz bz) (bl (o11 P))) (bn (boot_o_5 P) (bn (boot_o_9 P) bz bz) (bl (o13 P)))) (bn (boot_o_2 P) (bn (boot_o_4 P) (bn (boot_o_8 P) bz bz) (bl (o12 P))) (bn (boot_o_6 P) (bn (boot_o_10 P) bz bz) (bl (o14 P)))))
noncomputable def o3_0 : O:=fun P=>dc #[d P "__name__" 165 (s "lendcore.mir" 194),d P "__doc__" 166 n,d P "__package__" 167 n,d P "__loader__" 168 (Value.builtin "__main__.__loader__#opaque"),d P "__spec__" 169 n,d P "__annotations__" 170 (r 6),d P "__builtins__" 171 (r 4),d P "__file__" 173 (s "/claim/cut.py" 172),d P "__cached__" 174 n,d P "_wall" 193 (r 21)] 10
noncomputable def o12_0 : O:=fun uw=>fl #[i 1,i 0,r 20]
noncomputable def o15 : O:=fun uw=>tu #[]
noncomputable def o16 : O:=fun uw=>fl #[]
noncomputable def o17 : O:=fun uw=>tu #[s "k" 190]
noncomputable def o18 : O:=fun uw=>tu #[]
noncomputable def o19 : O:=fun uw=>f0 "_wall" "_wall" (fA 0) (fB 0) (fC 0)
noncomputable def o20 : O:=fun uw=>c1 "_wall" 187 "_wall" 188 189 1 1 3 15 16 17 18 19 191 1 192
noncomputable def o21 : O:=fun uw=>fo (fk "_wall" "_wall" (fA 0) (fB 0) (fC 0) n "__main__" 164 20)
noncomputable def T0 (P : Params) : BT:=(bn (boot_o_0 P) (bn (boot_o_1 P) (bn (o3_0 P) (bn (boot_o_7 P) (bl (o15 P)) bz) (bn (o11 P) (bl (o19 P)) bz)) (bn (boot_o_5 P) (bn (boot_o_9 P) (bl (o17 P)) bz) (bn (o13 P) (bl (o21 P)) bz))) (bn (boot_o_2 P) (bn (boot_o_4 P) (bn (boot_o_8 P) (bl (o16 P)) bz) (bn (o12_0 P) (bl (o20 P)) bz)) (bn (boot_o_6 P) (bn (boot_o_10 P) (bl (o18 P)) bz) (bl (o14 P)))))
noncomputable def o3_1 : O:=fun P=>dc #[d P "__name__" 165 (s "lendcore.mir" 194),d P "__doc__" 166 n,d P "__package__" 167 n,d P "__loader__" 168 (Value.builtin "__main__.__loader__#opaque"),d P "__spec__" 169 n,d P "__annotations__" 170 (r 6),d P "__builtins__" 171 (r 4),d P "__file__" 173 (s "/claim/cut.py" 172),d P "__cached__" 174 n,d P "_wall" 193 (r 21),d P "Body" 281 (r 82)] 11
noncomputable def o12_1 : O:=fun uw=>fl #[i 1,i 0,r 20,i 5,i 0,r 27]
noncomputable def o22 : O:=fun uw=>tu #[]
noncomputable def o23 : O:=fun uw=>Obj.mk (Value.type "builtin_function_or_method") none (Data.fields #[Value.builtin "type.__prepare__",Value.type "type"]) #[]
noncomputable def o24 : O:=fun P=>dc #[d P "__module__" 203 (s "lendcore.mir" 194),d P "__qualname__" 205 (s "Body" 204),d P "__firstlineno__" 207 (Value.int 5 206),d P "__init__" 219 (r 36),d P "type_of" 227 (r 43),d P "args" 234 (r 50),d P "statements" 242 (r 57),d P "terminator" 250 (r 64),d P "spot" 258 (r 71),d P "new_local" 268 (r 79),d P "__static_attributes__" 274 (r 80)] 11
noncomputable def o25 : O:=fun uw=>tu #[]
noncomputable def o26 : O:=fun uw=>fl #[i 7,i 4,r 35,i 14,i 4,r 42,i 17,i 4,r 49,i 20,i 4,r 56,i 23,i 4,r 63,i 26,i 4,r 70,i 29,i 4,r 78]
noncomputable def o27 : O:=fun uw=>co #[s "Body" 198,s "Body" 199,s "/claim/cut.py" 200,i 5,i 0,i 0,i 0,i 0,r 25,Value.bool Bool.false,i 181,r 26,n,n,n,n,i 201,i 5,s "/claim/cut.py" 202]
noncomputable def o28 : O:=fun uw=>Obj.mk (Value.type "frame") none Data.plain #[some (r 27),some (r 3),some (r 24),none,some (s "lendcore.mir" 194),none,some (r 0)]
noncomputable def o29 : O:=fun uw=>tu #[n,n]
noncomputable def o30 : O:=fun uw=>tu #[]
noncomputable def o31 : O:=fun uw=>fl #[]
noncomputable def o32 : O:=fun uw=>tu #[s "self" 211,s "name" 212,s "arg_count" 213,s "locals_told" 214,s "blocks" 215,s "spots" 216]
noncomputable def o33 : O:=fun uw=>tu #[]
noncomputable def o34 : O:=fun uw=>f0 "__init__" "Body.__init__" (mA 2 0) (mB 2 0) (mC 2 0)
noncomputable def o35 : O:=fun uw=>c1 "__init__" 208 "Body.__init__" 209 210 7 6 3 30 31 32 33 34 217 7 218
noncomputable def o36 : O:=fun uw=>fo (fk "__init__" "Body.__init__" (mA 2 0) (mB 2 0) (mC 2 0) (r 29) "lendcore.mir" 194 35)
noncomputable def o37 : O:=fun uw=>tu #[]
noncomputable def o38 : O:=fun uw=>fl #[]
noncomputable def o39 : O:=fun uw=>tu #[s "self" 223,s "local" 224]
noncomputable def o40 : O:=fun uw=>tu #[]
noncomputable def o41 : O:=fun uw=>f0 "type_of" "Body.type_of" (mA 2 1) (mB 2 1) (mC 2 1)
noncomputable def o42 : O:=fun uw=>c1 "type_of" 220 "Body.type_of" 221 222 14 2 3 37 38 39 40 41 225 14 226
noncomputable def o43 : O:=fun uw=>fo (fk "type_of" "Body.type_of" (mA 2 1) (mB 2 1) (mC 2 1) n "lendcore.mir" 194 42)
noncomputable def o44 : O:=fun uw=>tu #[]
noncomputable def o45 : O:=fun uw=>fl #[]
noncomputable def o46 : O:=fun uw=>tu #[s "self" 231]
noncomputable def o47 : O:=fun uw=>tu #[]
noncomputable def o48 : O:=fun uw=>f0 "args" "Body.args" (mA 2 2) (mB 2 2) (mC 2 2)
noncomputable def o49 : O:=fun uw=>c1 "args" 228 "Body.args" 229 230 17 1 3 44 45 46 47 48 232 17 233
noncomputable def o50 : O:=fun uw=>fo (fk "args" "Body.args" (mA 2 2) (mB 2 2) (mC 2 2) n "lendcore.mir" 194 49)
noncomputable def o51 : O:=fun uw=>tu #[]
noncomputable def o52 : O:=fun uw=>fl #[]
noncomputable def o53 : O:=fun uw=>tu #[s "self" 238,s "block" 239]
noncomputable def o54 : O:=fun uw=>tu #[]
noncomputable def o55 : O:=fun uw=>f0 "statements" "Body.statements" (mA 2 3) (mB 2 3) (mC 2 3)
noncomputable def o56 : O:=fun uw=>c1 "statements" 235 "Body.statements" 236 237 20 2 3 51 52 53 54 55 240 20 241
noncomputable def o57 : O:=fun uw=>fo (fk "statements" "Body.statements" (mA 2 3) (mB 2 3) (mC 2 3) n "lendcore.mir" 194 56)
noncomputable def o58 : O:=fun uw=>tu #[]
noncomputable def o59 : O:=fun uw=>fl #[]
noncomputable def o60 : O:=fun uw=>tu #[s "self" 246,s "block" 247]
noncomputable def o61 : O:=fun uw=>tu #[]
noncomputable def o62 : O:=fun uw=>f0 "terminator" "Body.terminator" (mA 2 4) (mB 2 4) (mC 2 3)
noncomputable def o63 : O:=fun uw=>c1 "terminator" 243 "Body.terminator" 244 245 23 2 3 58 59 60 61 62 248 23 249
noncomputable def o64 : O:=fun uw=>fo (fk "terminator" "Body.terminator" (mA 2 4) (mB 2 4) (mC 2 3) n "lendcore.mir" 194 63)
noncomputable def o65 : O:=fun uw=>tu #[]
noncomputable def o66 : O:=fun uw=>fl #[]
noncomputable def o67 : O:=fun uw=>tu #[s "self" 254,s "point" 255]
noncomputable def o68 : O:=fun uw=>tu #[]
noncomputable def o69 : O:=fun uw=>f0 "spot" "Body.spot" (mA 2 5) (mB 2 5) (mC 2 5)
noncomputable def o70 : O:=fun uw=>c1 "spot" 251 "Body.spot" 252 253 26 2 3 65 66 67 68 69 256 26 257
noncomputable def o71 : O:=fun uw=>fo (fk "spot" "Body.spot" (mA 2 5) (mB 2 5) (mC 2 5) n "lendcore.mir" 194 70)
noncomputable def o72 : O:=fun uw=>tu #[Value.bool Bool.true,n]
noncomputable def o73 : O:=fun uw=>tu #[]
noncomputable def o74 : O:=fun uw=>fl #[]
noncomputable def o75 : O:=fun uw=>tu #[s "self" 262,s "told" 263,s "is_mut" 264,s "name" 265]
noncomputable def o76 : O:=fun uw=>tu #[]
noncomputable def o77 : O:=fun uw=>f0 "new_local" "Body.new_local" (mA 2 6) (mB 2 6) (mC 2 6)
noncomputable def o78 : O:=fun uw=>c1 "new_local" 259 "Body.new_local" 260 261 29 4 3 73 74 75 76 77 266 29 267
noncomputable def o79 : O:=fun uw=>fo (fk "new_local" "Body.new_local" (mA 2 6) (mB 2 6) (mC 2 6) (r 72) "lendcore.mir" 194 78)
noncomputable def o80 : O:=fun uw=>tu #[s "arg_count" 269,s "blocks" 270,s "locals" 271,s "name" 272,s "spots" 273]
noncomputable def o81 : O:=fun P=>dc #[d P "__module__" 203 (s "lendcore.mir" 194),d P "__firstlineno__" 207 (Value.int 5 206),d P "__init__" 219 (r 36),d P "type_of" 227 (r 43),d P "args" 234 (r 50),d P "statements" 242 (r 57),d P "terminator" 250 (r 64),d P "spot" 258 (r 71),d P "new_local" 268 (r 79),d P "__static_attributes__" 274 (r 80),d P "__dict__" 276 (r 83),d P "__weakref__" 278 (r 84),d P "__doc__" 279 n] 4
noncomputable def o82 : O:=fun uw=>Obj.mk (Value.type "type") none (Data.cls (ClassData.mk (sn "Body") [Value.type "object"] [r 82,Value.type "object"] 81 (sn "Body") Bool.true [] [] Bool.false none Bool.false)) #[none,none,some (s "Body" 196),some (s "Body" 204),some (Value.builtin "object.__new__"),some (Value.bool Bool.true)]
noncomputable def o83 : O:=fun uw=>Obj.mk (Value.type "getset_descriptor") none (Data.fields #[s "__dict__" 275,r 82,Value.builtin "function.__dict__",Value.builtin "function.__dict__#set"]) #[]
noncomputable def o84 : O:=fun uw=>Obj.mk (Value.type "getset_descriptor") none (Data.fields #[s "__weakref__" 277,r 82,Value.builtin "ExceptionGroup.__weakref__",n]) #[]
noncomputable def o85 : O:=fun uw=>Obj.mk (Value.type "super") none (Data.fields #[r 82,r 82,r 82]) #[]
noncomputable def o86 : O:=fun uw=>Obj.mk (Value.type "builtin_function_or_method") none (Data.fields #[Value.builtin "object.__init_subclass__",r 82]) #[]
noncomputable def T1 (P : Params) : BT:=(bn (boot_o_0 P) (bn (boot_o_1 P) (bn (o3_1 P) (bn (boot_o_7 P) (bn (o15 P) (bn (o31 P) (bl (o63 P)) bz) (bn (o47 P) (bl (o79 P)) bz)) (bn (o23 P) (bn (o39 P) (bl (o71 P)) bz) (bl (o55 P)))) (bn (o11 P) (bn (o19 P) (bn (o35 P) (bl (o67 P)) bz) (bn (o51 P) (bl (o83 P)) bz)) (bn (o27 P) (bn (o43 P) (bl (o75 P)) bz) (bl (o59 P))))) (bn (boot_o_5 P) (bn (boot_o_9 P) (bn (o17 P) (bn (o33 P) (bl (o65 P)) bz) (bn (o49 P) (bl (o81 P)) bz)) (bn (o25 P) (bn (o41 P) (bl (o73 P)) bz) (bl (o57 P)))) (bn (o13 P) (bn (o21 P) (bn (o37 P) (bl (o69 P)) bz) (bn (o53 P) (bl (o85 P)) bz)) (bn (o29 P) (bn (o45 P) (bl (o77 P)) bz) (bl (o61 P)))))) (bn (boot_o_2 P) (bn (boot_o_4 P) (bn (boot_o_8 P) (bn (o16 P) (bn (o32 P) (bl (o64 P)) bz) (bn (o48 P) (bl (o80 P)) bz)) (bn (o24 P) (bn (o40 P) (bl (o72 P)) bz) (bl (o56 P)))) (bn (o12_1 P) (bn (o20 P) (bn (o36 P) (bl (o68 P)) bz) (bn (o52 P) (bl (o84 P)) bz)) (bn (o28 P) (bn (o44 P) (bl (o76 P)) bz) (bl (o60 P))))) (bn (boot_o_6 P) (bn (boot_o_10 P) (bn (o18 P) (bn (o34 P) (bl (o66 P)) bz) (bn (o50 P) (bl (o82 P)) bz)) (bn (o26 P) (bn (o42 P) (bl (o74 P)) bz) (bl (o58 P)))) (bn (o14 P) (bn (o22 P) (bn (o38 P) (bl (o70 P)) bz) (bn (o54 P) (bl (o86 P)) bz)) (bn (o30 P) (bn (o46 P) (bl (o78 P)) bz) (bl (o62 P)))))))
noncomputable def o3_2 : O:=fun P=>dc #[d P "__name__" 165 (s "lendcore.flow" 326),d P "__doc__" 166 n,d P "__package__" 167 n,d P "__loader__" 168 (Value.builtin "__main__.__loader__#opaque"),d P "__spec__" 169 n,d P "__annotations__" 170 (r 6),d P "__builtins__" 171 (r 4),d P "__file__" 173 (s "/claim/cut.py" 172),d P "__cached__" 174 n,d P "_wall" 193 (r 21),d P "Body" 281 (r 82),d P "points" 287 (r 91),d P "successors" 293 (r 96),d P "predecessors" 299 (r 101),d P "operands_of" 307 (r 108),d P "operands_at" 319 (r 115),d P "indices_of" 325 (r 120)] 17
noncomputable def o12_2 : O:=fun uw=>fl #[i 1,i 0,r 20,i 5,i 0,r 27,i 31,i 0,r 90,i 36,i 0,r 95,i 55,i 0,r 100,i 61,i 0,r 107,i 74,i 0,r 114,i 85,i 0,r 119]
noncomputable def o87 : O:=fun uw=>tu #[]
noncomputable def o88 : O:=fun uw=>fl #[]
noncomputable def o89 : O:=fun uw=>f0 "points" "points" (fA 3) (fB 3) (fC 3)
noncomputable def o90 : O:=fun uw=>co #[s "points" 282,s "points" 283,s "/claim/cut.py" 284,i 31,i 1,i 0,i 0,i 3,r 87,Value.bool Bool.true,i 181,r 88,n,n,n,r 89,i 285,i 31,s "/claim/cut.py" 286]
noncomputable def o91 : O:=fun uw=>fo (fk "points" "points" (fA 3) (fB 3) (fC 3) n "lendcore.mir" 194 90)
noncomputable def o92 : O:=fun uw=>tu #[]
noncomputable def o93 : O:=fun uw=>fl #[]
noncomputable def o94 : O:=fun uw=>f0 "successors" "successors" (fA 4) (fB 4) (fC 4)
noncomputable def o95 : O:=fun uw=>co #[s "successors" 288,s "successors" 289,s "/claim/cut.py" 290,i 36,i 1,i 0,i 0,i 3,r 92,Value.bool Bool.true,i 181,r 93,n,n,n,r 94,i 291,i 36,s "/claim/cut.py" 292]
noncomputable def o96 : O:=fun uw=>fo (fk "successors" "successors" (fA 4) (fB 4) (fC 4) n "lendcore.mir" 194 95)
noncomputable def o97 : O:=fun uw=>tu #[]
noncomputable def o98 : O:=fun uw=>fl #[]
noncomputable def o99 : O:=fun uw=>f0 "predecessors" "predecessors" (fA 5) (fB 5) (fC 5)
noncomputable def o100 : O:=fun uw=>co #[s "predecessors" 294,s "predecessors" 295,s "/claim/cut.py" 296,i 55,i 1,i 0,i 0,i 3,r 97,Value.bool Bool.true,i 181,r 98,n,n,n,r 99,i 297,i 55,s "/claim/cut.py" 298]
noncomputable def o101 : O:=fun uw=>fo (fk "predecessors" "predecessors" (fA 5) (fB 5) (fC 5) n "lendcore.mir" 194 100)
noncomputable def o102 : O:=fun uw=>tu #[]
noncomputable def o103 : O:=fun uw=>fl #[]
noncomputable def o104 : O:=fun uw=>tu #[s "rvalue" 303,s "word" 304]
noncomputable def o105 : O:=fun uw=>tu #[]
noncomputable def o106 : O:=fun uw=>f0 "operands_of" "operands_of" (fA 6) (fB 6) (fC 6)
noncomputable def o107 : O:=fun uw=>c1 "operands_of" 300 "operands_of" 301 302 61 1 3 102 103 104 105 106 305 61 306
noncomputable def o108 : O:=fun uw=>fo (fk "operands_of" "operands_of" (fA 6) (fB 6) (fC 6) n "lendcore.mir" 194 107)
noncomputable def o109 : O:=fun uw=>tu #[]
noncomputable def o110 : O:=fun uw=>fl #[]
noncomputable def o111 : O:=fun uw=>tu #[s "body" 311,s "point" 312,s "block" 313,s "index" 314,s "statement" 315,s "terminator" 316]
noncomputable def o112 : O:=fun uw=>tu #[]
noncomputable def o113 : O:=fun uw=>f0 "operands_at" "operands_at" (fA 7) (fB 7) (fC 7)
noncomputable def o114 : O:=fun uw=>c1 "operands_at" 308 "operands_at" 309 310 74 2 3 109 110 111 112 113 317 74 318
noncomputable def o115 : O:=fun uw=>fo (fk "operands_at" "operands_at" (fA 7) (fB 7) (fC 7) n "lendcore.mir" 194 114)
noncomputable def o116 : O:=fun uw=>tu #[]
noncomputable def o117 : O:=fun uw=>fl #[]
noncomputable def o118 : O:=fun uw=>f0 "indices_of" "indices_of" (fA 8) (fB 8) (fC 8)
noncomputable def o119 : O:=fun uw=>co #[s "indices_of" 320,s "indices_of" 321,s "/claim/cut.py" 322,i 85,i 1,i 0,i 0,i 3,r 116,Value.bool Bool.true,i 181,r 117,n,n,n,r 118,i 323,i 85,s "/claim/cut.py" 324]
noncomputable def o120 : O:=fun uw=>fo (fk "indices_of" "indices_of" (fA 8) (fB 8) (fC 8) n "lendcore.mir" 194 119)
noncomputable def T2 (P : Params) : BT:=(bn (boot_o_0 P) (bn (boot_o_1 P) (bn (o3_2 P) (bn (boot_o_7 P) (bn (o15 P) (bn (o31 P) (bl (o63 P)) (bl (o95 P))) (bn (o47 P) (bl (o79 P)) (bl (o111 P)))) (bn (o23 P) (bn (o39 P) (bl (o71 P)) (bl (o103 P))) (bn (o55 P) (bl (o87 P)) (bl (o119 P))))) (bn (o11 P) (bn (o19 P) (bn (o35 P) (bl (o67 P)) (bl (o99 P))) (bn (o51 P) (bl (o83 P)) (bl (o115 P)))) (bn (o27 P) (bn (o43 P) (bl (o75 P)) (bl (o107 P))) (bn (o59 P) (bl (o91 P)) bz)))) (bn (boot_o_5 P) (bn (boot_o_9 P) (bn (o17 P) (bn (o33 P) (bl (o65 P)) (bl (o97 P))) (bn (o49 P) (bl (o81 P)) (bl (o113 P)))) (bn (o25 P) (bn (o41 P) (bl (o73 P)) (bl (o105 P))) (bn (o57 P) (bl (o89 P)) bz))) (bn (o13 P) (bn (o21 P) (bn (o37 P) (bl (o69 P)) (bl (o101 P))) (bn (o53 P) (bl (o85 P)) (bl (o117 P)))) (bn (o29 P) (bn (o45 P) (bl (o77 P)) (bl (o109 P))) (bn (o61 P) (bl (o93 P)) bz))))) (bn (boot_o_2 P) (bn (boot_o_4 P) (bn (boot_o_8 P) (bn (o16 P) (bn (o32 P) (bl (o64 P)) (bl (o96 P))) (bn (o48 P) (bl (o80 P)) (bl (o112 P)))) (bn (o24 P) (bn (o40 P) (bl (o72 P)) (bl (o104 P))) (bn (o56 P) (bl (o88 P)) (bl (o120 P))))) (bn (o12_2 P) (bn (o20 P) (bn (o36 P) (bl (o68 P)) (bl (o100 P))) (bn (o52 P) (bl (o84 P)) (bl (o116 P)))) (bn (o28 P) (bn (o44 P) (bl (o76 P)) (bl (o108 P))) (bn (o60 P) (bl (o92 P)) bz)))) (bn (boot_o_6 P) (bn (boot_o_10 P) (bn (o18 P) (bn (o34 P) (bl (o66 P)) (bl (o98 P))) (bn (o50 P) (bl (o82 P)) (bl (o114 P)))) (bn (o26 P) (bn (o42 P) (bl (o74 P)) (bl (o106 P))) (bn (o58 P) (bl (o90 P)) bz))) (bn (o14 P) (bn (o22 P) (bn (o38 P) (bl (o70 P)) (bl (o102 P))) (bn (o54 P) (bl (o86 P)) (bl (o118 P)))) (bn (o30 P) (bn (o46 P) (bl (o78 P)) (bl (o110 P))) (bn (o62 P) (bl (o94 P)) bz))))))
noncomputable def o3_3 : O:=fun P=>dc #[d P "__name__" 165 (s "lendcore.flow" 326),d P "__doc__" 166 n,d P "__package__" 167 n,d P "__loader__" 168 (Value.builtin "__main__.__loader__#opaque"),d P "__spec__" 169 n,d P "__annotations__" 170 (r 6),d P "__builtins__" 171 (r 4),d P "__file__" 173 (s "/claim/cut.py" 172),d P "__cached__" 174 n,d P "_wall" 193 (r 21),d P "Body" 281 (r 82),d P "points" 287 (r 91),d P "successors" 293 (r 96),d P "predecessors" 299 (r 101),d P "operands_of" 307 (r 108),d P "operands_at" 319 (r 115),d P "indices_of" 325 (r 120),d P "joined" 335 (r 127),d P "behind_block" 348 (r 134),d P "back_to" 360 (r 141),d P "solve_backward" 376 (r 148)] 21
noncomputable def o12_3 : O:=fun uw=>fl #[i 1,i 0,r 20,i 5,i 0,r 27,i 31,i 0,r 90,i 36,i 0,r 95,i 55,i 0,r 100,i 61,i 0,r 107,i 74,i 0,r 114,i 85,i 0,r 119,i 88,i 0,r 126,i 90,i 0,r 133,i 95,i 0,r 140,i 99,i 0,r 147]
noncomputable def o121 : O:=fun uw=>tu #[]
noncomputable def o122 : O:=fun uw=>fl #[]
noncomputable def o123 : O:=fun uw=>tu #[s "one" 331,s "other" 332]
noncomputable def o124 : O:=fun uw=>tu #[]
noncomputable def o125 : O:=fun uw=>f0 "joined" "joined" (fA 10) (fB 10) (fC 10)
noncomputable def o126 : O:=fun uw=>c1 "joined" 328 "joined" 329 330 88 2 3 121 122 123 124 125 333 88 334
noncomputable def o127 : O:=fun uw=>fo (fk "joined" "joined" (fA 10) (fB 10) (fC 10) n "lendcore.flow" 326 126)
noncomputable def o128 : O:=fun uw=>tu #[]
noncomputable def o129 : O:=fun uw=>fl #[]
noncomputable def o130 : O:=fun uw=>tu #[s "body" 339,s "facts" 340,s "block" 341,s "end" 342,s "join" 343,s "here" 344,s "target" 345]
noncomputable def o131 : O:=fun uw=>tu #[]
noncomputable def o132 : O:=fun uw=>f0 "behind_block" "behind_block" (fA 11) (fB 11) (fC 11)
noncomputable def o133 : O:=fun uw=>c1 "behind_block" 336 "behind_block" 337 338 90 5 3 128 129 130 131 132 346 90 347
noncomputable def o134 : O:=fun uw=>fo (fk "behind_block" "behind_block" (fA 11) (fB 11) (fC 11) n "lendcore.flow" 326 133)
noncomputable def o135 : O:=fun uw=>tu #[]
noncomputable def o136 : O:=fun uw=>fl #[]
noncomputable def o137 : O:=fun uw=>tu #[s "body" 352,s "facts" 353,s "block" 354,s "index" 355,s "step" 356,s "place" 357]
noncomputable def o138 : O:=fun uw=>tu #[]
noncomputable def o139 : O:=fun uw=>f0 "back_to" "back_to" (fA 12) (fB 12) (fC 12)
noncomputable def o140 : O:=fun uw=>c1 "back_to" 349 "back_to" 350 351 95 5 3 135 136 137 138 139 358 95 359
noncomputable def o141 : O:=fun uw=>fo (fk "back_to" "back_to" (fA 12) (fB 12) (fC 12) n "lendcore.flow" 326 140)
noncomputable def o142 : O:=fun uw=>tu #[]
noncomputable def o143 : O:=fun uw=>fl #[]
noncomputable def o144 : O:=fun uw=>tu #[s "body" 364,s "end" 365,s "step" 366,s "join" 367,s "facts" 368,s "ahead" 369,s "left" 370,s "block" 371,s "here" 372,s "other" 373]
noncomputable def o145 : O:=fun uw=>tu #[]
noncomputable def o146 : O:=fun uw=>f0 "solve_backward" "solve_backward" (fA 13) (fB 13) (fC 13)
noncomputable def o147 : O:=fun uw=>c1 "solve_backward" 361 "solve_backward" 362 363 99 4 3 142 143 144 145 146 374 99 375
noncomputable def o148 : O:=fun uw=>fo (fk "solve_backward" "solve_backward" (fA 13) (fB 13) (fC 13) n "lendcore.flow" 326 147)
noncomputable def T3 (P : Params) : BT:=(bn (boot_o_0 P) (bn (boot_o_1 P) (bn (o3_3 P) (bn (boot_o_7 P) (bn (o15 P) (bn (o31 P) (bn (o63 P) (bl (o127 P)) bz) (bl (o95 P))) (bn (o47 P) (bn (o79 P) (bl (o143 P)) bz) (bl (o111 P)))) (bn (o23 P) (bn (o39 P) (bn (o71 P) (bl (o135 P)) bz) (bl (o103 P))) (bn (o55 P) (bl (o87 P)) (bl (o119 P))))) (bn (o11 P) (bn (o19 P) (bn (o35 P) (bn (o67 P) (bl (o131 P)) bz) (bl (o99 P))) (bn (o51 P) (bn (o83 P) (bl (o147 P)) bz) (bl (o115 P)))) (bn (o27 P) (bn (o43 P) (bn (o75 P) (bl (o139 P)) bz) (bl (o107 P))) (bn (o59 P) (bl (o91 P)) (bl (o123 P)))))) (bn (boot_o_5 P) (bn (boot_o_9 P) (bn (o17 P) (bn (o33 P) (bn (o65 P) (bl (o129 P)) bz) (bl (o97 P))) (bn (o49 P) (bn (o81 P) (bl (o145 P)) bz) (bl (o113 P)))) (bn (o25 P) (bn (o41 P) (bn (o73 P) (bl (o137 P)) bz) (bl (o105 P))) (bn (o57 P) (bl (o89 P)) (bl (o121 P))))) (bn (o13 P) (bn (o21 P) (bn (o37 P) (bn (o69 P) (bl (o133 P)) bz) (bl (o101 P))) (bn (o53 P) (bl (o85 P)) (bl (o117 P)))) (bn (o29 P) (bn (o45 P) (bn (o77 P) (bl (o141 P)) bz) (bl (o109 P))) (bn (o61 P) (bl (o93 P)) (bl (o125 P))))))) (bn (boot_o_2 P) (bn (boot_o_4 P) (bn (boot_o_8 P) (bn (o16 P) (bn (o32 P) (bn (o64 P) (bl (o128 P)) bz) (bl (o96 P))) (bn (o48 P) (bn (o80 P) (bl (o144 P)) bz) (bl (o112 P)))) (bn (o24 P) (bn (o40 P) (bn (o72 P) (bl (o136 P)) bz) (bl (o104 P))) (bn (o56 P) (bl (o88 P)) (bl (o120 P))))) (bn (o12_3 P) (bn (o20 P) (bn (o36 P) (bn (o68 P) (bl (o132 P)) bz) (bl (o100 P))) (bn (o52 P) (bn (o84 P) (bl (o148 P)) bz) (bl (o116 P)))) (bn (o28 P) (bn (o44 P) (bn (o76 P) (bl (o140 P)) bz) (bl (o108 P))) (bn (o60 P) (bl (o92 P)) (bl (o124 P)))))) (bn (boot_o_6 P) (bn (boot_o_10 P) (bn (o18 P) (bn (o34 P) (bn (o66 P) (bl (o130 P)) bz) (bl (o98 P))) (bn (o50 P) (bn (o82 P) (bl (o146 P)) bz) (bl (o114 P)))) (bn (o26 P) (bn (o42 P) (bn (o74 P) (bl (o138 P)) bz) (bl (o106 P))) (bn (o58 P) (bl (o90 P)) (bl (o122 P))))) (bn (o14 P) (bn (o22 P) (bn (o38 P) (bn (o70 P) (bl (o134 P)) bz) (bl (o102 P))) (bn (o54 P) (bl (o86 P)) (bl (o118 P)))) (bn (o30 P) (bn (o46 P) (bn (o78 P) (bl (o142 P)) bz) (bl (o110 P))) (bn (o62 P) (bl (o94 P)) (bl (o126 P))))))))
noncomputable def o3_4 : O:=fun P=>dc #[d P "__name__" 165 (s "lendcore.flow" 326),d P "__doc__" 166 n,d P "__package__" 167 n,d P "__loader__" 168 (Value.builtin "__main__.__loader__#opaque"),d P "__spec__" 169 n,d P "__annotations__" 170 (r 6),d P "__builtins__" 171 (r 4),d P "__file__" 173 (s "/claim/cut.py" 172),d P "__cached__" 174 n,d P "_wall" 193 (r 21),d P "Body" 281 (r 82),d P "points" 287 (r 91),d P "successors" 293 (r 96),d P "predecessors" 299 (r 101),d P "operands_of" 307 (r 108),d P "operands_at" 319 (r 115),d P "indices_of" 325 (r 120),d P "joined" 335 (r 127),d P "behind_block" 348 (r 134),d P "back_to" 360 (r 141),d P "solve_backward" 376 (r 148),d P "facts_before" 390 (r 155),d P "looked_at" 402 (r 162),d P "written_at" 414 (r 169),d P "dropped_at" 426 (r 176)] 25
noncomputable def o12_4 : O:=fun uw=>fl #[i 1,i 0,r 20,i 5,i 0,r 27,i 31,i 0,r 90,i 36,i 0,r 95,i 55,i 0,r 100,i 61,i 0,r 107,i 74,i 0,r 114,i 85,i 0,r 119,i 88,i 0,r 126,i 90,i 0,r 133,i 95,i 0,r 140,i 99,i 0,r 147,i 112,i 0,r 154,i 115,i 0,r 161,i 125,i 0,r 168,i 131,i 0,r 175]
noncomputable def o149 : O:=fun uw=>tu #[]
noncomputable def o150 : O:=fun uw=>fl #[]
noncomputable def o151 : O:=fun uw=>tu #[s "body" 380,s "facts" 381,s "point" 382,s "end" 383,s "step" 384,s "join" 385,s "block" 386,s "index" 387]
noncomputable def o152 : O:=fun uw=>tu #[]
noncomputable def o153 : O:=fun uw=>f0 "facts_before" "facts_before" (fA 14) (fB 14) (fC 14)
noncomputable def o154 : O:=fun uw=>c1 "facts_before" 377 "facts_before" 378 379 112 6 3 149 150 151 152 153 388 112 389
noncomputable def o155 : O:=fun uw=>fo (fk "facts_before" "facts_before" (fA 14) (fB 14) (fC 14) n "lendcore.flow" 326 154)
noncomputable def o156 : O:=fun uw=>tu #[]
noncomputable def o157 : O:=fun uw=>fl #[]
noncomputable def o158 : O:=fun uw=>tu #[s "body" 394,s "point" 395,s "block" 396,s "index" 397,s "statements" 398,s "rvalue" 399]
noncomputable def o159 : O:=fun uw=>tu #[]
noncomputable def o160 : O:=fun uw=>f0 "looked_at" "looked_at" (fA 15) (fB 15) (fC 15)
noncomputable def o161 : O:=fun uw=>c1 "looked_at" 391 "looked_at" 392 393 115 2 3 156 157 158 159 160 400 115 401
noncomputable def o162 : O:=fun uw=>fo (fk "looked_at" "looked_at" (fA 15) (fB 15) (fC 15) n "lendcore.flow" 326 161)
noncomputable def o163 : O:=fun uw=>tu #[]
noncomputable def o164 : O:=fun uw=>fl #[]
noncomputable def o165 : O:=fun uw=>tu #[s "body" 406,s "point" 407,s "block" 408,s "index" 409,s "statements" 410,s "terminator" 411]
noncomputable def o166 : O:=fun uw=>tu #[]
noncomputable def o167 : O:=fun uw=>f0 "written_at" "written_at" (fA 16) (fB 16) (fC 16)
noncomputable def o168 : O:=fun uw=>c1 "written_at" 403 "written_at" 404 405 125 2 3 163 164 165 166 167 412 125 413
noncomputable def o169 : O:=fun uw=>fo (fk "written_at" "written_at" (fA 16) (fB 16) (fC 16) n "lendcore.flow" 326 168)
noncomputable def o170 : O:=fun uw=>tu #[]
noncomputable def o171 : O:=fun uw=>fl #[]
noncomputable def o172 : O:=fun uw=>tu #[s "body" 418,s "point" 419,s "block" 420,s "index" 421,s "statements" 422,s "terminator" 423]
noncomputable def o173 : O:=fun uw=>tu #[]
noncomputable def o174 : O:=fun uw=>f0 "dropped_at" "dropped_at" (fA 17) (fB 17) (fC 16)
noncomputable def o175 : O:=fun uw=>c1 "dropped_at" 415 "dropped_at" 416 417 131 2 3 170 171 172 173 174 424 131 425
noncomputable def o176 : O:=fun uw=>fo (fk "dropped_at" "dropped_at" (fA 17) (fB 17) (fC 16) n "lendcore.flow" 326 175)
noncomputable def T4 (P : Params) : BT:=(bn (boot_o_0 P) (bn (boot_o_1 P) (bn (o3_4 P) (bn (boot_o_7 P) (bn (o15 P) (bn (o31 P) (bn (o63 P) (bl (o127 P)) bz) (bn (o95 P) (bl (o159 P)) bz)) (bn (o47 P) (bn (o79 P) (bl (o143 P)) bz) (bn (o111 P) (bl (o175 P)) bz))) (bn (o23 P) (bn (o39 P) (bn (o71 P) (bl (o135 P)) bz) (bn (o103 P) (bl (o167 P)) bz)) (bn (o55 P) (bn (o87 P) (bl (o151 P)) bz) (bl (o119 P))))) (bn (o11 P) (bn (o19 P) (bn (o35 P) (bn (o67 P) (bl (o131 P)) bz) (bn (o99 P) (bl (o163 P)) bz)) (bn (o51 P) (bn (o83 P) (bl (o147 P)) bz) (bl (o115 P)))) (bn (o27 P) (bn (o43 P) (bn (o75 P) (bl (o139 P)) bz) (bn (o107 P) (bl (o171 P)) bz)) (bn (o59 P) (bn (o91 P) (bl (o155 P)) bz) (bl (o123 P)))))) (bn (boot_o_5 P) (bn (boot_o_9 P) (bn (o17 P) (bn (o33 P) (bn (o65 P) (bl (o129 P)) bz) (bn (o97 P) (bl (o161 P)) bz)) (bn (o49 P) (bn (o81 P) (bl (o145 P)) bz) (bl (o113 P)))) (bn (o25 P) (bn (o41 P) (bn (o73 P) (bl (o137 P)) bz) (bn (o105 P) (bl (o169 P)) bz)) (bn (o57 P) (bn (o89 P) (bl (o153 P)) bz) (bl (o121 P))))) (bn (o13 P) (bn (o21 P) (bn (o37 P) (bn (o69 P) (bl (o133 P)) bz) (bn (o101 P) (bl (o165 P)) bz)) (bn (o53 P) (bn (o85 P) (bl (o149 P)) bz) (bl (o117 P)))) (bn (o29 P) (bn (o45 P) (bn (o77 P) (bl (o141 P)) bz) (bn (o109 P) (bl (o173 P)) bz)) (bn (o61 P) (bn (o93 P) (bl (o157 P)) bz) (bl (o125 P))))))) (bn (boot_o_2 P) (bn (boot_o_4 P) (bn (boot_o_8 P) (bn (o16 P) (bn (o32 P) (bn (o64 P) (bl (o128 P)) bz) (bn (o96 P) (bl (o160 P)) bz)) (bn (o48 P) (bn (o80 P) (bl (o144 P)) bz) (bn (o112 P) (bl (o176 P)) bz))) (bn (o24 P) (bn (o40 P) (bn (o72 P) (bl (o136 P)) bz) (bn (o104 P) (bl (o168 P)) bz)) (bn (o56 P) (bn (o88 P) (bl (o152 P)) bz) (bl (o120 P))))) (bn (o12_4 P) (bn (o20 P) (bn (o36 P) (bn (o68 P) (bl (o132 P)) bz) (bn (o100 P) (bl (o164 P)) bz)) (bn (o52 P) (bn (o84 P) (bl (o148 P)) bz) (bl (o116 P)))) (bn (o28 P) (bn (o44 P) (bn (o76 P) (bl (o140 P)) bz) (bn (o108 P) (bl (o172 P)) bz)) (bn (o60 P) (bn (o92 P) (bl (o156 P)) bz) (bl (o124 P)))))) (bn (boot_o_6 P) (bn (boot_o_10 P) (bn (o18 P) (bn (o34 P) (bn (o66 P) (bl (o130 P)) bz) (bn (o98 P) (bl (o162 P)) bz)) (bn (o50 P) (bn (o82 P) (bl (o146 P)) bz) (bl (o114 P)))) (bn (o26 P) (bn (o42 P) (bn (o74 P) (bl (o138 P)) bz) (bn (o106 P) (bl (o170 P)) bz)) (bn (o58 P) (bn (o90 P) (bl (o154 P)) bz) (bl (o122 P))))) (bn (o14 P) (bn (o22 P) (bn (o38 P) (bn (o70 P) (bl (o134 P)) bz) (bn (o102 P) (bl (o166 P)) bz)) (bn (o54 P) (bn (o86 P) (bl (o150 P)) bz) (bl (o118 P)))) (bn (o30 P) (bn (o46 P) (bn (o78 P) (bl (o142 P)) bz) (bn (o110 P) (bl (o174 P)) bz)) (bn (o62 P) (bn (o94 P) (bl (o158 P)) bz) (bl (o126 P))))))))
noncomputable def o3_5 : O:=fun P=>dc #[d P "__name__" 165 (s "lendcore.liveness" 438),d P "__doc__" 166 n,d P "__package__" 167 n,d P "__loader__" 168 (Value.builtin "__main__.__loader__#opaque"),d P "__spec__" 169 n,d P "__annotations__" 170 (r 6),d P "__builtins__" 171 (r 4),d P "__file__" 173 (s "/claim/cut.py" 172),d P "__cached__" 174 n,d P "_wall" 193 (r 21),d P "Body" 281 (r 82),d P "points" 287 (r 91),d P "successors" 293 (r 96),d P "predecessors" 299 (r 101),d P "operands_of" 307 (r 108),d P "operands_at" 319 (r 115),d P "indices_of" 325 (r 120),d P "joined" 335 (r 127),d P "behind_block" 348 (r 134),d P "back_to" 360 (r 141),d P "solve_backward" 376 (r 148),d P "facts_before" 390 (r 155),d P "looked_at" 402 (r 162),d P "written_at" 414 (r 169),d P "dropped_at" 426 (r 176),d P "turned_at" 437 (r 183),d P "NOTHING" 440 (r 184)] 27
noncomputable def o12_5 : O:=fun uw=>fl #[i 1,i 0,r 20,i 5,i 0,r 27,i 31,i 0,r 90,i 36,i 0,r 95,i 55,i 0,r 100,i 61,i 0,r 107,i 74,i 0,r 114,i 85,i 0,r 119,i 88,i 0,r 126,i 90,i 0,r 133,i 95,i 0,r 140,i 99,i 0,r 147,i 112,i 0,r 154,i 115,i 0,r 161,i 125,i 0,r 168,i 131,i 0,r 175,i 135,i 0,r 182]
noncomputable def o177 : O:=fun uw=>tu #[]
noncomputable def o178 : O:=fun uw=>fl #[]
noncomputable def o179 : O:=fun uw=>tu #[s "body" 430,s "point" 431,s "block" 432,s "index" 433,s "statements" 434]
noncomputable def o180 : O:=fun uw=>tu #[]
noncomputable def o181 : O:=fun uw=>f0 "turned_at" "turned_at" (fA 18) (fB 18) (fC 18)
noncomputable def o182 : O:=fun uw=>c1 "turned_at" 427 "turned_at" 428 429 135 2 3 177 178 179 180 181 435 135 436
noncomputable def o183 : O:=fun uw=>fo (fk "turned_at" "turned_at" (fA 18) (fB 18) (fC 18) n "lendcore.flow" 326 182)
noncomputable def o184 : O:=fun P=>Obj.mk (Value.type "frozenset") none (Data.set #[] 0 (SetTable.mk 7 #[] #[] 0 (!Params.followText P "set-order") 0 Bool.true)) #[]
noncomputable def T5 (P : Params) : BT:=(bn (boot_o_0 P) (bn (boot_o_1 P) (bn (o3_5 P) (bn (boot_o_7 P) (bn (o15 P) (bn (o31 P) (bn (o63 P) (bl (o127 P)) bz) (bn (o95 P) (bl (o159 P)) bz)) (bn (o47 P) (bn (o79 P) (bl (o143 P)) bz) (bn (o111 P) (bl (o175 P)) bz))) (bn (o23 P) (bn (o39 P) (bn (o71 P) (bl (o135 P)) bz) (bn (o103 P) (bl (o167 P)) bz)) (bn (o55 P) (bn (o87 P) (bl (o151 P)) bz) (bn (o119 P) (bl (o183 P)) bz)))) (bn (o11 P) (bn (o19 P) (bn (o35 P) (bn (o67 P) (bl (o131 P)) bz) (bn (o99 P) (bl (o163 P)) bz)) (bn (o51 P) (bn (o83 P) (bl (o147 P)) bz) (bn (o115 P) (bl (o179 P)) bz))) (bn (o27 P) (bn (o43 P) (bn (o75 P) (bl (o139 P)) bz) (bn (o107 P) (bl (o171 P)) bz)) (bn (o59 P) (bn (o91 P) (bl (o155 P)) bz) (bl (o123 P)))))) (bn (boot_o_5 P) (bn (boot_o_9 P) (bn (o17 P) (bn (o33 P) (bn (o65 P) (bl (o129 P)) bz) (bn (o97 P) (bl (o161 P)) bz)) (bn (o49 P) (bn (o81 P) (bl (o145 P)) bz) (bn (o113 P) (bl (o177 P)) bz))) (bn (o25 P) (bn (o41 P) (bn (o73 P) (bl (o137 P)) bz) (bn (o105 P) (bl (o169 P)) bz)) (bn (o57 P) (bn (o89 P) (bl (o153 P)) bz) (bl (o121 P))))) (bn (o13 P) (bn (o21 P) (bn (o37 P) (bn (o69 P) (bl (o133 P)) bz) (bn (o101 P) (bl (o165 P)) bz)) (bn (o53 P) (bn (o85 P) (bl (o149 P)) bz) (bn (o117 P) (bl (o181 P)) bz))) (bn (o29 P) (bn (o45 P) (bn (o77 P) (bl (o141 P)) bz) (bn (o109 P) (bl (o173 P)) bz)) (bn (o61 P) (bn (o93 P) (bl (o157 P)) bz) (bl (o125 P))))))) (bn (boot_o_2 P) (bn (boot_o_4 P) (bn (boot_o_8 P) (bn (o16 P) (bn (o32 P) (bn (o64 P) (bl (o128 P)) bz) (bn (o96 P) (bl (o160 P)) bz)) (bn (o48 P) (bn (o80 P) (bl (o144 P)) bz) (bn (o112 P) (bl (o176 P)) bz))) (bn (o24 P) (bn (o40 P) (bn (o72 P) (bl (o136 P)) bz) (bn (o104 P) (bl (o168 P)) bz)) (bn (o56 P) (bn (o88 P) (bl (o152 P)) bz) (bn (o120 P) (bl (o184 P)) bz)))) (bn (o12_5 P) (bn (o20 P) (bn (o36 P) (bn (o68 P) (bl (o132 P)) bz) (bn (o100 P) (bl (o164 P)) bz)) (bn (o52 P) (bn (o84 P) (bl (o148 P)) bz) (bn (o116 P) (bl (o180 P)) bz))) (bn (o28 P) (bn (o44 P) (bn (o76 P) (bl (o140 P)) bz) (bn (o108 P) (bl (o172 P)) bz)) (bn (o60 P) (bn (o92 P) (bl (o156 P)) bz) (bl (o124 P)))))) (bn (boot_o_6 P) (bn (boot_o_10 P) (bn (o18 P) (bn (o34 P) (bn (o66 P) (bl (o130 P)) bz) (bn (o98 P) (bl (o162 P)) bz)) (bn (o50 P) (bn (o82 P) (bl (o146 P)) bz) (bn (o114 P) (bl (o178 P)) bz))) (bn (o26 P) (bn (o42 P) (bn (o74 P) (bl (o138 P)) bz) (bn (o106 P) (bl (o170 P)) bz)) (bn (o58 P) (bn (o90 P) (bl (o154 P)) bz) (bl (o122 P))))) (bn (o14 P) (bn (o22 P) (bn (o38 P) (bn (o70 P) (bl (o134 P)) bz) (bn (o102 P) (bl (o166 P)) bz)) (bn (o54 P) (bn (o86 P) (bl (o150 P)) bz) (bn (o118 P) (bl (o182 P)) bz))) (bn (o30 P) (bn (o46 P) (bn (o78 P) (bl (o142 P)) bz) (bn (o110 P) (bl (o174 P)) bz)) (bn (o62 P) (bn (o94 P) (bl (o158 P)) bz) (bl (o126 P))))))))
noncomputable def o3_6 : O:=fun P=>dc #[d P "__name__" 165 (s "lendcore.liveness" 438),d P "__doc__" 166 n,d P "__package__" 167 n,d P "__loader__" 168 (Value.builtin "__main__.__loader__#opaque"),d P "__spec__" 169 n,d P "__annotations__" 170 (r 6),d P "__builtins__" 171 (r 4),d P "__file__" 173 (s "/claim/cut.py" 172),d P "__cached__" 174 n,d P "_wall" 193 (r 21),d P "Body" 281 (r 82),d P "points" 287 (r 91),d P "successors" 293 (r 96),d P "predecessors" 299 (r 101),d P "operands_of" 307 (r 108),d P "operands_at" 319 (r 115),d P "indices_of" 325 (r 120),d P "joined" 335 (r 127),d P "behind_block" 348 (r 134),d P "back_to" 360 (r 141),d P "solve_backward" 376 (r 148),d P "facts_before" 390 (r 155),d P "looked_at" 402 (r 162),d P "written_at" 414 (r 169),d P "dropped_at" 426 (r 176),d P "turned_at" 437 (r 183),d P "NOTHING" 440 (r 184),d P "used_locals" 453 (r 191),d P "is_return" 463 (r 198),d P "dropped_locals" 472 (r 205),d P "set_locals" 483 (r 212)] 31
noncomputable def o12_6 : O:=fun uw=>fl #[i 1,i 0,r 20,i 5,i 0,r 27,i 31,i 0,r 90,i 36,i 0,r 95,i 55,i 0,r 100,i 61,i 0,r 107,i 74,i 0,r 114,i 85,i 0,r 119,i 88,i 0,r 126,i 90,i 0,r 133,i 95,i 0,r 140,i 99,i 0,r 147,i 112,i 0,r 154,i 115,i 0,r 161,i 125,i 0,r 168,i 131,i 0,r 175,i 135,i 0,r 182,i 143,i 0,r 190,i 161,i 0,r 197,i 164,i 0,r 204,i 167,i 0,r 211]
noncomputable def o185 : O:=fun uw=>tu #[]
noncomputable def o186 : O:=fun uw=>fl #[]
noncomputable def o187 : O:=fun uw=>tu #[s "body" 444,s "point" 445,s "found" 446,s "operand" 447,s "place" 448,s "looked" 449,s "written" 450]
noncomputable def o188 : O:=fun uw=>tu #[]
noncomputable def o189 : O:=fun uw=>f0 "used_locals" "used_locals" (fA 21) (fB 21) (fC 21)
noncomputable def o190 : O:=fun uw=>c1 "used_locals" 441 "used_locals" 442 443 143 2 3 185 186 187 188 189 451 143 452
noncomputable def o191 : O:=fun uw=>fo (fk "used_locals" "used_locals" (fA 21) (fB 21) (fC 21) n "lendcore.liveness" 438 190)
noncomputable def o192 : O:=fun uw=>tu #[]
noncomputable def o193 : O:=fun uw=>fl #[]
noncomputable def o194 : O:=fun uw=>tu #[s "body" 457,s "point" 458,s "statements" 459,s "terminator" 460]
noncomputable def o195 : O:=fun uw=>tu #[]
noncomputable def o196 : O:=fun uw=>f0 "is_return" "is_return" (fA 22) (fB 22) (fC 22)
noncomputable def o197 : O:=fun uw=>c1 "is_return" 454 "is_return" 455 456 161 2 3 192 193 194 195 196 461 161 462
noncomputable def o198 : O:=fun uw=>fo (fk "is_return" "is_return" (fA 22) (fB 22) (fC 22) n "lendcore.liveness" 438 197)
noncomputable def o199 : O:=fun uw=>tu #[]
noncomputable def o200 : O:=fun uw=>fl #[]
noncomputable def o201 : O:=fun uw=>tu #[s "body" 467,s "point" 468,s "place" 469]
noncomputable def o202 : O:=fun uw=>tu #[]
noncomputable def o203 : O:=fun uw=>f0 "dropped_locals" "dropped_locals" (fA 23) (fB 23) (fC 23)
noncomputable def o204 : O:=fun uw=>c1 "dropped_locals" 464 "dropped_locals" 465 466 164 2 3 199 200 201 202 203 470 164 471
noncomputable def o205 : O:=fun uw=>fo (fk "dropped_locals" "dropped_locals" (fA 23) (fB 23) (fC 23) n "lendcore.liveness" 438 204)
noncomputable def o206 : O:=fun uw=>tu #[]
noncomputable def o207 : O:=fun uw=>fl #[]
noncomputable def o208 : O:=fun uw=>tu #[s "body" 476,s "point" 477,s "local" 478,s "written" 479,s "found" 480]
noncomputable def o209 : O:=fun uw=>tu #[]
noncomputable def o210 : O:=fun uw=>f0 "set_locals" "set_locals" (fA 24) (fB 24) (fC 24)
noncomputable def o211 : O:=fun uw=>c1 "set_locals" 473 "set_locals" 474 475 167 2 3 206 207 208 209 210 481 167 482
noncomputable def o212 : O:=fun uw=>fo (fk "set_locals" "set_locals" (fA 24) (fB 24) (fC 24) n "lendcore.liveness" 438 211)
noncomputable def T6 (P : Params) : BT:=(bn (boot_o_0 P) (bn (boot_o_1 P) (bn (o3_6 P) (bn (boot_o_7 P) (bn (o15 P) (bn (o31 P) (bn (o63 P) (bl (o127 P)) (bl (o191 P))) (bn (o95 P) (bl (o159 P)) bz)) (bn (o47 P) (bn (o79 P) (bl (o143 P)) (bl (o207 P))) (bn (o111 P) (bl (o175 P)) bz))) (bn (o23 P) (bn (o39 P) (bn (o71 P) (bl (o135 P)) (bl (o199 P))) (bn (o103 P) (bl (o167 P)) bz)) (bn (o55 P) (bn (o87 P) (bl (o151 P)) bz) (bn (o119 P) (bl (o183 P)) bz)))) (bn (o11 P) (bn (o19 P) (bn (o35 P) (bn (o67 P) (bl (o131 P)) (bl (o195 P))) (bn (o99 P) (bl (o163 P)) bz)) (bn (o51 P) (bn (o83 P) (bl (o147 P)) (bl (o211 P))) (bn (o115 P) (bl (o179 P)) bz))) (bn (o27 P) (bn (o43 P) (bn (o75 P) (bl (o139 P)) (bl (o203 P))) (bn (o107 P) (bl (o171 P)) bz)) (bn (o59 P) (bn (o91 P) (bl (o155 P)) bz) (bn (o123 P) (bl (o187 P)) bz))))) (bn (boot_o_5 P) (bn (boot_o_9 P) (bn (o17 P) (bn (o33 P) (bn (o65 P) (bl (o129 P)) (bl (o193 P))) (bn (o97 P) (bl (o161 P)) bz)) (bn (o49 P) (bn (o81 P) (bl (o145 P)) (bl (o209 P))) (bn (o113 P) (bl (o177 P)) bz))) (bn (o25 P) (bn (o41 P) (bn (o73 P) (bl (o137 P)) (bl (o201 P))) (bn (o105 P) (bl (o169 P)) bz)) (bn (o57 P) (bn (o89 P) (bl (o153 P)) bz) (bn (o121 P) (bl (o185 P)) bz)))) (bn (o13 P) (bn (o21 P) (bn (o37 P) (bn (o69 P) (bl (o133 P)) (bl (o197 P))) (bn (o101 P) (bl (o165 P)) bz)) (bn (o53 P) (bn (o85 P) (bl (o149 P)) bz) (bn (o117 P) (bl (o181 P)) bz))) (bn (o29 P) (bn (o45 P) (bn (o77 P) (bl (o141 P)) (bl (o205 P))) (bn (o109 P) (bl (o173 P)) bz)) (bn (o61 P) (bn (o93 P) (bl (o157 P)) bz) (bn (o125 P) (bl (o189 P)) bz)))))) (bn (boot_o_2 P) (bn (boot_o_4 P) (bn (boot_o_8 P) (bn (o16 P) (bn (o32 P) (bn (o64 P) (bl (o128 P)) (bl (o192 P))) (bn (o96 P) (bl (o160 P)) bz)) (bn (o48 P) (bn (o80 P) (bl (o144 P)) (bl (o208 P))) (bn (o112 P) (bl (o176 P)) bz))) (bn (o24 P) (bn (o40 P) (bn (o72 P) (bl (o136 P)) (bl (o200 P))) (bn (o104 P) (bl (o168 P)) bz)) (bn (o56 P) (bn (o88 P) (bl (o152 P)) bz) (bn (o120 P) (bl (o184 P)) bz)))) (bn (o12_6 P) (bn (o20 P) (bn (o36 P) (bn (o68 P) (bl (o132 P)) (bl (o196 P))) (bn (o100 P) (bl (o164 P)) bz)) (bn (o52 P) (bn (o84 P) (bl (o148 P)) (bl (o212 P))) (bn (o116 P) (bl (o180 P)) bz))) (bn (o28 P) (bn (o44 P) (bn (o76 P) (bl (o140 P)) (bl (o204 P))) (bn (o108 P) (bl (o172 P)) bz)) (bn (o60 P) (bn (o92 P) (bl (o156 P)) bz) (bn (o124 P) (bl (o188 P)) bz))))) (bn (boot_o_6 P) (bn (boot_o_10 P) (bn (o18 P) (bn (o34 P) (bn (o66 P) (bl (o130 P)) (bl (o194 P))) (bn (o98 P) (bl (o162 P)) bz)) (bn (o50 P) (bn (o82 P) (bl (o146 P)) (bl (o210 P))) (bn (o114 P) (bl (o178 P)) bz))) (bn (o26 P) (bn (o42 P) (bn (o74 P) (bl (o138 P)) (bl (o202 P))) (bn (o106 P) (bl (o170 P)) bz)) (bn (o58 P) (bn (o90 P) (bl (o154 P)) bz) (bn (o122 P) (bl (o186 P)) bz)))) (bn (o14 P) (bn (o22 P) (bn (o38 P) (bn (o70 P) (bl (o134 P)) (bl (o198 P))) (bn (o102 P) (bl (o166 P)) bz)) (bn (o54 P) (bn (o86 P) (bl (o150 P)) bz) (bn (o118 P) (bl (o182 P)) bz))) (bn (o30 P) (bn (o46 P) (bn (o78 P) (bl (o142 P)) (bl (o206 P))) (bn (o110 P) (bl (o174 P)) bz)) (bn (o62 P) (bn (o94 P) (bl (o158 P)) bz) (bn (o126 P) (bl (o190 P)) bz)))))))
noncomputable def o3_7 : O:=fun P=>dc #[d P "__name__" 165 (s "lendcore.liveness" 438),d P "__doc__" 166 n,d P "__package__" 167 n,d P "__loader__" 168 (Value.builtin "__main__.__loader__#opaque"),d P "__spec__" 169 n,d P "__annotations__" 170 (r 6),d P "__builtins__" 171 (r 4),d P "__file__" 173 (s "/claim/cut.py" 172),d P "__cached__" 174 n,d P "_wall" 193 (r 21),d P "Body" 281 (r 82),d P "points" 287 (r 91),d P "successors" 293 (r 96),d P "predecessors" 299 (r 101),d P "operands_of" 307 (r 108),d P "operands_at" 319 (r 115),d P "indices_of" 325 (r 120),d P "joined" 335 (r 127),d P "behind_block" 348 (r 134),d P "back_to" 360 (r 141),d P "solve_backward" 376 (r 148),d P "facts_before" 390 (r 155),d P "looked_at" 402 (r 162),d P "written_at" 414 (r 169),d P "dropped_at" 426 (r 176),d P "turned_at" 437 (r 183),d P "NOTHING" 440 (r 184),d P "used_locals" 453 (r 191),d P "is_return" 463 (r 198),d P "dropped_locals" 472 (r 205),d P "set_locals" 483 (r 212),d P "Liveness" 552 (r 257)] 32
noncomputable def o12_7 : O:=fun uw=>fl #[i 1,i 0,r 20,i 5,i 0,r 27,i 31,i 0,r 90,i 36,i 0,r 95,i 55,i 0,r 100,i 61,i 0,r 107,i 74,i 0,r 114,i 85,i 0,r 119,i 88,i 0,r 126,i 90,i 0,r 133,i 95,i 0,r 140,i 99,i 0,r 147,i 112,i 0,r 154,i 115,i 0,r 161,i 125,i 0,r 168,i 131,i 0,r 175,i 135,i 0,r 182,i 143,i 0,r 190,i 161,i 0,r 197,i 164,i 0,r 204,i 167,i 0,r 211,i 173,i 0,r 218]
noncomputable def o213 : O:=fun uw=>tu #[]
noncomputable def o214 : O:=fun uw=>Obj.mk (Value.type "builtin_function_or_method") none (Data.fields #[Value.builtin "type.__prepare__",Value.type "type"]) #[]
noncomputable def o215 : O:=fun P=>dc #[d P "__module__" 491 (s "lendcore.liveness" 438),d P "__qualname__" 493 (s "Liveness" 492),d P "__firstlineno__" 495 (Value.int 173 494),d P "__init__" 503 (r 226),d P "use_step" 514 (r 233),d P "drop_step" 525 (r 240),d P "for_use" 533 (r 247),d P "for_drop" 541 (r 254),d P "__static_attributes__" 545 (r 255)] 9
noncomputable def o216 : O:=fun uw=>tu #[]
noncomputable def o217 : O:=fun uw=>fl #[i 175,i 4,r 225,i 180,i 4,r 232,i 184,i 4,r 239,i 188,i 4,r 246,i 191,i 4,r 253]
noncomputable def o218 : O:=fun uw=>co #[s "Liveness" 486,s "Liveness" 487,s "/claim/cut.py" 488,i 173,i 0,i 0,i 0,i 0,r 216,Value.bool Bool.false,i 181,r 217,n,n,n,n,i 489,i 173,s "/claim/cut.py" 490]
noncomputable def o219 : O:=fun uw=>Obj.mk (Value.type "frame") none Data.plain #[some (r 218),some (r 3),some (r 215),none,some (s "lendcore.liveness" 438),none,some (r 0)]
noncomputable def o220 : O:=fun uw=>tu #[]
noncomputable def o221 : O:=fun uw=>fl #[]
noncomputable def o222 : O:=fun uw=>tu #[s "self" 499,s "body" 500]
noncomputable def o223 : O:=fun uw=>tu #[]
noncomputable def o224 : O:=fun uw=>f0 "__init__" "Liveness.__init__" (mA 25 0) (mB 25 0) (mC 25 0)
noncomputable def o225 : O:=fun uw=>c1 "__init__" 496 "Liveness.__init__" 497 498 175 2 3 220 221 222 223 224 501 175 502
noncomputable def o226 : O:=fun uw=>fo (fk "__init__" "Liveness.__init__" (mA 25 0) (mB 25 0) (mC 25 0) n "lendcore.liveness" 438 225)
noncomputable def o227 : O:=fun uw=>tu #[]
noncomputable def o228 : O:=fun uw=>fl #[]
noncomputable def o229 : O:=fun uw=>tu #[s "self" 507,s "facts" 508,s "block" 509,s "index" 510,s "point" 511]
noncomputable def o230 : O:=fun uw=>tu #[]
noncomputable def o231 : O:=fun uw=>f0 "use_step" "Liveness.use_step" (mA 25 1) (mB 25 1) (mC 25 1)
noncomputable def o232 : O:=fun uw=>c1 "use_step" 504 "Liveness.use_step" 505 506 180 4 3 227 228 229 230 231 512 180 513
noncomputable def o233 : O:=fun uw=>fo (fk "use_step" "Liveness.use_step" (mA 25 1) (mB 25 1) (mC 25 1) n "lendcore.liveness" 438 232)
noncomputable def o234 : O:=fun uw=>tu #[]
noncomputable def o235 : O:=fun uw=>fl #[]
noncomputable def o236 : O:=fun uw=>tu #[s "self" 518,s "facts" 519,s "block" 520,s "index" 521,s "point" 522]
noncomputable def o237 : O:=fun uw=>tu #[]
noncomputable def o238 : O:=fun uw=>f0 "drop_step" "Liveness.drop_step" (mA 25 2) (mB 25 2) (mC 25 2)
noncomputable def o239 : O:=fun uw=>c1 "drop_step" 515 "Liveness.drop_step" 516 517 184 4 3 234 235 236 237 238 523 184 524
noncomputable def o240 : O:=fun uw=>fo (fk "drop_step" "Liveness.drop_step" (mA 25 2) (mB 25 2) (mC 25 2) n "lendcore.liveness" 438 239)
noncomputable def o241 : O:=fun uw=>tu #[]
noncomputable def o242 : O:=fun uw=>fl #[]
noncomputable def o243 : O:=fun uw=>tu #[s "self" 529,s "point" 530]
noncomputable def o244 : O:=fun uw=>tu #[]
noncomputable def o245 : O:=fun uw=>f0 "for_use" "Liveness.for_use" (mA 25 3) (mB 25 3) (mC 25 3)
noncomputable def o246 : O:=fun uw=>c1 "for_use" 526 "Liveness.for_use" 527 528 188 2 3 241 242 243 244 245 531 188 532
noncomputable def o247 : O:=fun uw=>fo (fk "for_use" "Liveness.for_use" (mA 25 3) (mB 25 3) (mC 25 3) n "lendcore.liveness" 438 246)
noncomputable def o248 : O:=fun uw=>tu #[]
noncomputable def o249 : O:=fun uw=>fl #[]
noncomputable def o250 : O:=fun uw=>tu #[s "self" 537,s "point" 538]
noncomputable def o251 : O:=fun uw=>tu #[]
noncomputable def o252 : O:=fun uw=>f0 "for_drop" "Liveness.for_drop" (mA 25 4) (mB 25 4) (mC 25 3)
noncomputable def o253 : O:=fun uw=>c1 "for_drop" 534 "Liveness.for_drop" 535 536 191 2 3 248 249 250 251 252 539 191 540
noncomputable def o254 : O:=fun uw=>fo (fk "for_drop" "Liveness.for_drop" (mA 25 4) (mB 25 4) (mC 25 3) n "lendcore.liveness" 438 253)
noncomputable def o255 : O:=fun uw=>tu #[s "body" 542,s "drop_facts" 543,s "use_facts" 544]
noncomputable def o256 : O:=fun P=>dc #[d P "__module__" 491 (s "lendcore.liveness" 438),d P "__firstlineno__" 495 (Value.int 173 494),d P "__init__" 503 (r 226),d P "use_step" 514 (r 233),d P "drop_step" 525 (r 240),d P "for_use" 533 (r 247),d P "for_drop" 541 (r 254),d P "__static_attributes__" 545 (r 255),d P "__dict__" 547 (r 258),d P "__weakref__" 549 (r 259),d P "__doc__" 550 n] 4
noncomputable def o257 : O:=fun uw=>Obj.mk (Value.type "type") none (Data.cls (ClassData.mk (sn "Liveness") [Value.type "object"] [r 257,Value.type "object"] 256 (sn "Liveness") Bool.true [] [] Bool.false none Bool.false)) #[none,none,some (s "Liveness" 484),some (s "Liveness" 492),some (Value.builtin "object.__new__"),some (Value.bool Bool.true)]
noncomputable def o258 : O:=fun uw=>Obj.mk (Value.type "getset_descriptor") none (Data.fields #[s "__dict__" 546,r 257,Value.builtin "function.__dict__",Value.builtin "function.__dict__#set"]) #[]
noncomputable def o259 : O:=fun uw=>Obj.mk (Value.type "getset_descriptor") none (Data.fields #[s "__weakref__" 548,r 257,Value.builtin "ExceptionGroup.__weakref__",n]) #[]
noncomputable def o260 : O:=fun uw=>Obj.mk (Value.type "super") none (Data.fields #[r 257,r 257,r 257]) #[]
noncomputable def o261 : O:=fun uw=>Obj.mk (Value.type "builtin_function_or_method") none (Data.fields #[Value.builtin "object.__init_subclass__",r 257]) #[]
noncomputable def T7 (P : Params) : BT:=(bn (boot_o_0 P) (bn (boot_o_1 P) (bn (o3_7 P) (bn (boot_o_7 P) (bn (o15 P) (bn (o31 P) (bn (o63 P) (bn (o127 P) (bl (o255 P)) bz) (bl (o191 P))) (bn (o95 P) (bl (o159 P)) (bl (o223 P)))) (bn (o47 P) (bn (o79 P) (bl (o143 P)) (bl (o207 P))) (bn (o111 P) (bl (o175 P)) (bl (o239 P))))) (bn (o23 P) (bn (o39 P) (bn (o71 P) (bl (o135 P)) (bl (o199 P))) (bn (o103 P) (bl (o167 P)) (bl (o231 P)))) (bn (o55 P) (bn (o87 P) (bl (o151 P)) (bl (o215 P))) (bn (o119 P) (bl (o183 P)) (bl (o247 P)))))) (bn (o11 P) (bn (o19 P) (bn (o35 P) (bn (o67 P) (bn (o131 P) (bl (o259 P)) bz) (bl (o195 P))) (bn (o99 P) (bl (o163 P)) (bl (o227 P)))) (bn (o51 P) (bn (o83 P) (bl (o147 P)) (bl (o211 P))) (bn (o115 P) (bl (o179 P)) (bl (o243 P))))) (bn (o27 P) (bn (o43 P) (bn (o75 P) (bl (o139 P)) (bl (o203 P))) (bn (o107 P) (bl (o171 P)) (bl (o235 P)))) (bn (o59 P) (bn (o91 P) (bl (o155 P)) (bl (o219 P))) (bn (o123 P) (bl (o187 P)) (bl (o251 P))))))) (bn (boot_o_5 P) (bn (boot_o_9 P) (bn (o17 P) (bn (o33 P) (bn (o65 P) (bn (o129 P) (bl (o257 P)) bz) (bl (o193 P))) (bn (o97 P) (bl (o161 P)) (bl (o225 P)))) (bn (o49 P) (bn (o81 P) (bl (o145 P)) (bl (o209 P))) (bn (o113 P) (bl (o177 P)) (bl (o241 P))))) (bn (o25 P) (bn (o41 P) (bn (o73 P) (bl (o137 P)) (bl (o201 P))) (bn (o105 P) (bl (o169 P)) (bl (o233 P)))) (bn (o57 P) (bn (o89 P) (bl (o153 P)) (bl (o217 P))) (bn (o121 P) (bl (o185 P)) (bl (o249 P)))))) (bn (o13 P) (bn (o21 P) (bn (o37 P) (bn (o69 P) (bn (o133 P) (bl (o261 P)) bz) (bl (o197 P))) (bn (o101 P) (bl (o165 P)) (bl (o229 P)))) (bn (o53 P) (bn (o85 P) (bl (o149 P)) (bl (o213 P))) (bn (o117 P) (bl (o181 P)) (bl (o245 P))))) (bn (o29 P) (bn (o45 P) (bn (o77 P) (bl (o141 P)) (bl (o205 P))) (bn (o109 P) (bl (o173 P)) (bl (o237 P)))) (bn (o61 P) (bn (o93 P) (bl (o157 P)) (bl (o221 P))) (bn (o125 P) (bl (o189 P)) (bl (o253 P)))))))) (bn (boot_o_2 P) (bn (boot_o_4 P) (bn (boot_o_8 P) (bn (o16 P) (bn (o32 P) (bn (o64 P) (bn (o128 P) (bl (o256 P)) bz) (bl (o192 P))) (bn (o96 P) (bl (o160 P)) (bl (o224 P)))) (bn (o48 P) (bn (o80 P) (bl (o144 P)) (bl (o208 P))) (bn (o112 P) (bl (o176 P)) (bl (o240 P))))) (bn (o24 P) (bn (o40 P) (bn (o72 P) (bl (o136 P)) (bl (o200 P))) (bn (o104 P) (bl (o168 P)) (bl (o232 P)))) (bn (o56 P) (bn (o88 P) (bl (o152 P)) (bl (o216 P))) (bn (o120 P) (bl (o184 P)) (bl (o248 P)))))) (bn (o12_7 P) (bn (o20 P) (bn (o36 P) (bn (o68 P) (bn (o132 P) (bl (o260 P)) bz) (bl (o196 P))) (bn (o100 P) (bl (o164 P)) (bl (o228 P)))) (bn (o52 P) (bn (o84 P) (bl (o148 P)) (bl (o212 P))) (bn (o116 P) (bl (o180 P)) (bl (o244 P))))) (bn (o28 P) (bn (o44 P) (bn (o76 P) (bl (o140 P)) (bl (o204 P))) (bn (o108 P) (bl (o172 P)) (bl (o236 P)))) (bn (o60 P) (bn (o92 P) (bl (o156 P)) (bl (o220 P))) (bn (o124 P) (bl (o188 P)) (bl (o252 P))))))) (bn (boot_o_6 P) (bn (boot_o_10 P) (bn (o18 P) (bn (o34 P) (bn (o66 P) (bn (o130 P) (bl (o258 P)) bz) (bl (o194 P))) (bn (o98 P) (bl (o162 P)) (bl (o226 P)))) (bn (o50 P) (bn (o82 P) (bl (o146 P)) (bl (o210 P))) (bn (o114 P) (bl (o178 P)) (bl (o242 P))))) (bn (o26 P) (bn (o42 P) (bn (o74 P) (bl (o138 P)) (bl (o202 P))) (bn (o106 P) (bl (o170 P)) (bl (o234 P)))) (bn (o58 P) (bn (o90 P) (bl (o154 P)) (bl (o218 P))) (bn (o122 P) (bl (o186 P)) (bl (o250 P)))))) (bn (o14 P) (bn (o22 P) (bn (o38 P) (bn (o70 P) (bl (o134 P)) (bl (o198 P))) (bn (o102 P) (bl (o166 P)) (bl (o230 P)))) (bn (o54 P) (bn (o86 P) (bl (o150 P)) (bl (o214 P))) (bn (o118 P) (bl (o182 P)) (bl (o246 P))))) (bn (o30 P) (bn (o46 P) (bn (o78 P) (bl (o142 P)) (bl (o206 P))) (bn (o110 P) (bl (o174 P)) (bl (o238 P)))) (bn (o62 P) (bn (o94 P) (bl (o158 P)) (bl (o222 P))) (bn (o126 P) (bl (o190 P)) (bl (o254 P)))))))))
noncomputable def o3_8 : O:=fun P=>dc #[d P "__name__" 165 (s "law_np0332_01" 559),d P "__doc__" 166 n,d P "__package__" 167 n,d P "__loader__" 168 (Value.builtin "__main__.__loader__#opaque"),d P "__spec__" 169 n,d P "__annotations__" 170 (r 6),d P "__builtins__" 171 (r 4),d P "__file__" 173 (s "/claim/cut.py" 172),d P "__cached__" 174 n,d P "_wall" 193 (r 21),d P "Body" 281 (r 82),d P "points" 287 (r 91),d P "successors" 293 (r 96),d P "predecessors" 299 (r 101),d P "operands_of" 307 (r 108),d P "operands_at" 319 (r 115),d P "indices_of" 325 (r 120),d P "joined" 335 (r 127),d P "behind_block" 348 (r 134),d P "back_to" 360 (r 141),d P "solve_backward" 376 (r 148),d P "facts_before" 390 (r 155),d P "looked_at" 402 (r 162),d P "written_at" 414 (r 169),d P "dropped_at" 426 (r 176),d P "turned_at" 437 (r 183),d P "NOTHING" 440 (r 184),d P "used_locals" 453 (r 191),d P "is_return" 463 (r 198),d P "dropped_locals" 472 (r 205),d P "set_locals" 483 (r 212),d P "Liveness" 552 (r 257),d P "live_points" 558 (r 266),d P "_law_pool" 571 (r 273),d P "_law_take" 580 (r 280),d P "_law_one" 588 (r 287)] 36
noncomputable def o12_8 : O:=fun uw=>fl #[i 1,i 0,r 20,i 5,i 0,r 27,i 31,i 0,r 90,i 36,i 0,r 95,i 55,i 0,r 100,i 61,i 0,r 107,i 74,i 0,r 114,i 85,i 0,r 119,i 88,i 0,r 126,i 90,i 0,r 133,i 95,i 0,r 140,i 99,i 0,r 147,i 112,i 0,r 154,i 115,i 0,r 161,i 125,i 0,r 168,i 131,i 0,r 175,i 135,i 0,r 182,i 143,i 0,r 190,i 161,i 0,r 197,i 164,i 0,r 204,i 167,i 0,r 211,i 173,i 0,r 218,i 193,i 0,r 265,i 203,i 0,r 272,i 210,i 0,r 279,i 217,i 0,r 286]
noncomputable def o262 : O:=fun uw=>tu #[]
noncomputable def o263 : O:=fun uw=>fl #[]
noncomputable def o264 : O:=fun uw=>f0 "live_points" "live_points" (fA 26) (fB 26) (fC 26)
noncomputable def o265 : O:=fun uw=>co #[s "live_points" 553,s "live_points" 554,s "/claim/cut.py" 555,i 193,i 1,i 0,i 0,i 3,r 262,Value.bool Bool.true,i 181,r 263,n,n,n,r 264,i 556,i 193,s "/claim/cut.py" 557]
noncomputable def o266 : O:=fun uw=>fo (fk "live_points" "live_points" (fA 26) (fB 26) (fC 26) n "lendcore.liveness" 438 265)
noncomputable def o267 : O:=fun uw=>tu #[]
noncomputable def o268 : O:=fun uw=>fl #[]
noncomputable def o269 : O:=fun uw=>tu #[s "script" 564,s "k" 565,s "cell" 566,s "big" 567,s "mixed" 568]
noncomputable def o270 : O:=fun uw=>tu #[]
noncomputable def o271 : O:=fun uw=>f0 "_law_pool" "_law_pool" (fA 28) (fB 28) (fC 28)
noncomputable def o272 : O:=fun uw=>c1 "_law_pool" 561 "_law_pool" 562 563 203 2 3 267 268 269 270 271 569 203 570
noncomputable def o273 : O:=fun uw=>fo (fk "_law_pool" "_law_pool" (fA 28) (fB 28) (fC 28) n "law_np0332_01" 559 272)
noncomputable def o274 : O:=fun uw=>tu #[]
noncomputable def o275 : O:=fun uw=>fl #[]
noncomputable def o276 : O:=fun uw=>tu #[s "source" 575,s "top" 576,s "drawn" 577]
noncomputable def o277 : O:=fun uw=>tu #[]
noncomputable def o278 : O:=fun uw=>f0 "_law_take" "_law_take" (fA 29) (fB 29) (fC 29)
noncomputable def o279 : O:=fun uw=>c1 "_law_take" 572 "_law_take" 573 574 210 2 3 274 275 276 277 278 578 210 579
noncomputable def o280 : O:=fun uw=>fo (fk "_law_take" "_law_take" (fA 29) (fB 29) (fC 29) n "law_np0332_01" 559 279)
noncomputable def o281 : O:=fun uw=>tu #[]
noncomputable def o282 : O:=fun uw=>fl #[]
noncomputable def o283 : O:=fun uw=>tu #[s "source" 584,s "things" 585]
noncomputable def o284 : O:=fun uw=>tu #[]
noncomputable def o285 : O:=fun uw=>f0 "_law_one" "_law_one" (fA 30) (fB 30) (fC 30)
noncomputable def o286 : O:=fun uw=>c1 "_law_one" 581 "_law_one" 582 583 217 2 3 281 282 283 284 285 586 217 587
noncomputable def o287 : O:=fun uw=>fo (fk "_law_one" "_law_one" (fA 30) (fB 30) (fC 30) n "law_np0332_01" 559 286)
noncomputable def T8 (P : Params) : BT:=(bn (boot_o_0 P) (bn (boot_o_1 P) (bn (o3_8 P) (bn (boot_o_7 P) (bn (o15 P) (bn (o31 P) (bn (o63 P) (bn (o127 P) (bl (o255 P)) bz) (bl (o191 P))) (bn (o95 P) (bn (o159 P) (bl (o287 P)) bz) (bl (o223 P)))) (bn (o47 P) (bn (o79 P) (bn (o143 P) (bl (o271 P)) bz) (bl (o207 P))) (bn (o111 P) (bl (o175 P)) (bl (o239 P))))) (bn (o23 P) (bn (o39 P) (bn (o71 P) (bn (o135 P) (bl (o263 P)) bz) (bl (o199 P))) (bn (o103 P) (bl (o167 P)) (bl (o231 P)))) (bn (o55 P) (bn (o87 P) (bn (o151 P) (bl (o279 P)) bz) (bl (o215 P))) (bn (o119 P) (bl (o183 P)) (bl (o247 P)))))) (bn (o11 P) (bn (o19 P) (bn (o35 P) (bn (o67 P) (bn (o131 P) (bl (o259 P)) bz) (bl (o195 P))) (bn (o99 P) (bl (o163 P)) (bl (o227 P)))) (bn (o51 P) (bn (o83 P) (bn (o147 P) (bl (o275 P)) bz) (bl (o211 P))) (bn (o115 P) (bl (o179 P)) (bl (o243 P))))) (bn (o27 P) (bn (o43 P) (bn (o75 P) (bn (o139 P) (bl (o267 P)) bz) (bl (o203 P))) (bn (o107 P) (bl (o171 P)) (bl (o235 P)))) (bn (o59 P) (bn (o91 P) (bn (o155 P) (bl (o283 P)) bz) (bl (o219 P))) (bn (o123 P) (bl (o187 P)) (bl (o251 P))))))) (bn (boot_o_5 P) (bn (boot_o_9 P) (bn (o17 P) (bn (o33 P) (bn (o65 P) (bn (o129 P) (bl (o257 P)) bz) (bl (o193 P))) (bn (o97 P) (bl (o161 P)) (bl (o225 P)))) (bn (o49 P) (bn (o81 P) (bn (o145 P) (bl (o273 P)) bz) (bl (o209 P))) (bn (o113 P) (bl (o177 P)) (bl (o241 P))))) (bn (o25 P) (bn (o41 P) (bn (o73 P) (bn (o137 P) (bl (o265 P)) bz) (bl (o201 P))) (bn (o105 P) (bl (o169 P)) (bl (o233 P)))) (bn (o57 P) (bn (o89 P) (bn (o153 P) (bl (o281 P)) bz) (bl (o217 P))) (bn (o121 P) (bl (o185 P)) (bl (o249 P)))))) (bn (o13 P) (bn (o21 P) (bn (o37 P) (bn (o69 P) (bn (o133 P) (bl (o261 P)) bz) (bl (o197 P))) (bn (o101 P) (bl (o165 P)) (bl (o229 P)))) (bn (o53 P) (bn (o85 P) (bn (o149 P) (bl (o277 P)) bz) (bl (o213 P))) (bn (o117 P) (bl (o181 P)) (bl (o245 P))))) (bn (o29 P) (bn (o45 P) (bn (o77 P) (bn (o141 P) (bl (o269 P)) bz) (bl (o205 P))) (bn (o109 P) (bl (o173 P)) (bl (o237 P)))) (bn (o61 P) (bn (o93 P) (bn (o157 P) (bl (o285 P)) bz) (bl (o221 P))) (bn (o125 P) (bl (o189 P)) (bl (o253 P)))))))) (bn (boot_o_2 P) (bn (boot_o_4 P) (bn (boot_o_8 P) (bn (o16 P) (bn (o32 P) (bn (o64 P) (bn (o128 P) (bl (o256 P)) bz) (bl (o192 P))) (bn (o96 P) (bl (o160 P)) (bl (o224 P)))) (bn (o48 P) (bn (o80 P) (bn (o144 P) (bl (o272 P)) bz) (bl (o208 P))) (bn (o112 P) (bl (o176 P)) (bl (o240 P))))) (bn (o24 P) (bn (o40 P) (bn (o72 P) (bn (o136 P) (bl (o264 P)) bz) (bl (o200 P))) (bn (o104 P) (bl (o168 P)) (bl (o232 P)))) (bn (o56 P) (bn (o88 P) (bn (o152 P) (bl (o280 P)) bz) (bl (o216 P))) (bn (o120 P) (bl (o184 P)) (bl (o248 P)))))) (bn (o12_8 P) (bn (o20 P) (bn (o36 P) (bn (o68 P) (bn (o132 P) (bl (o260 P)) bz) (bl (o196 P))) (bn (o100 P) (bl (o164 P)) (bl (o228 P)))) (bn (o52 P) (bn (o84 P) (bn (o148 P) (bl (o276 P)) bz) (bl (o212 P))) (bn (o116 P) (bl (o180 P)) (bl (o244 P))))) (bn (o28 P) (bn (o44 P) (bn (o76 P) (bn (o140 P) (bl (o268 P)) bz) (bl (o204 P))) (bn (o108 P) (bl (o172 P)) (bl (o236 P)))) (bn (o60 P) (bn (o92 P) (bn (o156 P) (bl (o284 P)) bz) (bl (o220 P))) (bn (o124 P) (bl (o188 P)) (bl (o252 P))))))) (bn (boot_o_6 P) (bn (boot_o_10 P) (bn (o18 P) (bn (o34 P) (bn (o66 P) (bn (o130 P) (bl (o258 P)) bz) (bl (o194 P))) (bn (o98 P) (bl (o162 P)) (bl (o226 P)))) (bn (o50 P) (bn (o82 P) (bn (o146 P) (bl (o274 P)) bz) (bl (o210 P))) (bn (o114 P) (bl (o178 P)) (bl (o242 P))))) (bn (o26 P) (bn (o42 P) (bn (o74 P) (bn (o138 P) (bl (o266 P)) bz) (bl (o202 P))) (bn (o106 P) (bl (o170 P)) (bl (o234 P)))) (bn (o58 P) (bn (o90 P) (bn (o154 P) (bl (o282 P)) bz) (bl (o218 P))) (bn (o122 P) (bl (o186 P)) (bl (o250 P)))))) (bn (o14 P) (bn (o22 P) (bn (o38 P) (bn (o70 P) (bn (o134 P) (bl (o262 P)) bz) (bl (o198 P))) (bn (o102 P) (bl (o166 P)) (bl (o230 P)))) (bn (o54 P) (bn (o86 P) (bn (o150 P) (bl (o278 P)) bz) (bl (o214 P))) (bn (o118 P) (bl (o182 P)) (bl (o246 P))))) (bn (o30 P) (bn (o46 P) (bn (o78 P) (bn (o142 P) (bl (o270 P)) bz) (bl (o206 P))) (bn (o110 P) (bl (o174 P)) (bl (o238 P)))) (bn (o62 P) (bn (o94 P) (bn (o158 P) (bl (o286 P)) bz) (bl (o222 P))) (bn (o126 P) (bl (o190 P)) (bl (o254 P)))))))))
noncomputable def o3_9 : O:=fun P=>dc #[d P "__name__" 165 (s "law_np0332_01" 559),d P "__doc__" 166 n,d P "__package__" 167 n,d P "__loader__" 168 (Value.builtin "__main__.__loader__#opaque"),d P "__spec__" 169 n,d P "__annotations__" 170 (r 6),d P "__builtins__" 171 (r 4),d P "__file__" 173 (s "/claim/cut.py" 172),d P "__cached__" 174 n,d P "_wall" 193 (r 21),d P "Body" 281 (r 82),d P "points" 287 (r 91),d P "successors" 293 (r 96),d P "predecessors" 299 (r 101),d P "operands_of" 307 (r 108),d P "operands_at" 319 (r 115),d P "indices_of" 325 (r 120),d P "joined" 335 (r 127),d P "behind_block" 348 (r 134),d P "back_to" 360 (r 141),d P "solve_backward" 376 (r 148),d P "facts_before" 390 (r 155),d P "looked_at" 402 (r 162),d P "written_at" 414 (r 169),d P "dropped_at" 426 (r 176),d P "turned_at" 437 (r 183),d P "NOTHING" 440 (r 184),d P "used_locals" 453 (r 191),d P "is_return" 463 (r 198),d P "dropped_locals" 472 (r 205),d P "set_locals" 483 (r 212),d P "Liveness" 552 (r 257),d P "live_points" 558 (r 266),d P "_law_pool" 571 (r 273),d P "_law_take" 580 (r 280),d P "_law_one" 588 (r 287),d P "_law_INT" 591 (r 288),d P "_law_place" 599 (r 295),d P "_law_operand" 606 (r 302),d P "_law_statement" 614 (r 309),d P "_law_end" 625 (r 316)] 41
noncomputable def o12_9 : O:=fun uw=>fl #[i 1,i 0,r 20,i 5,i 0,r 27,i 31,i 0,r 90,i 36,i 0,r 95,i 55,i 0,r 100,i 61,i 0,r 107,i 74,i 0,r 114,i 85,i 0,r 119,i 88,i 0,r 126,i 90,i 0,r 133,i 95,i 0,r 140,i 99,i 0,r 147,i 112,i 0,r 154,i 115,i 0,r 161,i 125,i 0,r 168,i 131,i 0,r 175,i 135,i 0,r 182,i 143,i 0,r 190,i 161,i 0,r 197,i 164,i 0,r 204,i 167,i 0,r 211,i 173,i 0,r 218,i 193,i 0,r 265,i 203,i 0,r 272,i 210,i 0,r 279,i 217,i 0,r 286,i 220,i 0,r 294,i 227,i 0,r 301,i 229,i 0,r 308,i 242,i 0,r 315]
noncomputable def o288 : O:=fun uw=>tu #[s "int" 589,s "i32" 590]
noncomputable def o289 : O:=fun uw=>tu #[]
noncomputable def o290 : O:=fun uw=>fl #[]
noncomputable def o291 : O:=fun uw=>tu #[s "source" 595,s "way" 596]
noncomputable def o292 : O:=fun uw=>tu #[]
noncomputable def o293 : O:=fun uw=>f0 "_law_place" "_law_place" (fA 32) (fB 32) (fC 32)
noncomputable def o294 : O:=fun uw=>c1 "_law_place" 592 "_law_place" 593 594 220 1 3 289 290 291 292 293 597 220 598
noncomputable def o295 : O:=fun uw=>fo (fk "_law_place" "_law_place" (fA 32) (fB 32) (fC 32) n "law_np0332_01" 559 294)
noncomputable def o296 : O:=fun uw=>tu #[]
noncomputable def o297 : O:=fun uw=>fl #[]
noncomputable def o298 : O:=fun uw=>tu #[s "source" 603]
noncomputable def o299 : O:=fun uw=>tu #[]
noncomputable def o300 : O:=fun uw=>f0 "_law_operand" "_law_operand" (fA 33) (fB 33) (fC 33)
noncomputable def o301 : O:=fun uw=>c1 "_law_operand" 600 "_law_operand" 601 602 227 1 3 296 297 298 299 300 604 227 605
noncomputable def o302 : O:=fun uw=>fo (fk "_law_operand" "_law_operand" (fA 33) (fB 33) (fC 33) n "law_np0332_01" 559 301)
noncomputable def o303 : O:=fun uw=>tu #[]
noncomputable def o304 : O:=fun uw=>fl #[]
noncomputable def o305 : O:=fun uw=>tu #[s "source" 610,s "way" 611]
noncomputable def o306 : O:=fun uw=>tu #[]
noncomputable def o307 : O:=fun uw=>f0 "_law_statement" "_law_statement" (fA 34) (fB 34) (fC 34)
noncomputable def o308 : O:=fun uw=>c1 "_law_statement" 607 "_law_statement" 608 609 229 1 3 303 304 305 306 307 612 229 613
noncomputable def o309 : O:=fun uw=>fo (fk "_law_statement" "_law_statement" (fA 34) (fB 34) (fC 34) n "law_np0332_01" 559 308)
noncomputable def o310 : O:=fun uw=>tu #[]
noncomputable def o311 : O:=fun uw=>fl #[]
noncomputable def o312 : O:=fun uw=>tu #[s "source" 618,s "many" 619,s "way" 620,s "goal" 621,s "other" 622]
noncomputable def o313 : O:=fun uw=>tu #[]
noncomputable def o314 : O:=fun uw=>f0 "_law_end" "_law_end" (fA 35) (fB 35) (fC 35)
noncomputable def o315 : O:=fun uw=>c1 "_law_end" 615 "_law_end" 616 617 242 2 3 310 311 312 313 314 623 242 624
noncomputable def o316 : O:=fun uw=>fo (fk "_law_end" "_law_end" (fA 35) (fB 35) (fC 35) n "law_np0332_01" 559 315)
noncomputable def T9 (P : Params) : BT:=(bn (boot_o_0 P) (bn (boot_o_1 P) (bn (o3_9 P) (bn (boot_o_7 P) (bn (o15 P) (bn (o31 P) (bn (o63 P) (bn (o127 P) (bl (o255 P)) bz) (bl (o191 P))) (bn (o95 P) (bn (o159 P) (bl (o287 P)) bz) (bl (o223 P)))) (bn (o47 P) (bn (o79 P) (bn (o143 P) (bl (o271 P)) bz) (bl (o207 P))) (bn (o111 P) (bn (o175 P) (bl (o303 P)) bz) (bl (o239 P))))) (bn (o23 P) (bn (o39 P) (bn (o71 P) (bn (o135 P) (bl (o263 P)) bz) (bl (o199 P))) (bn (o103 P) (bn (o167 P) (bl (o295 P)) bz) (bl (o231 P)))) (bn (o55 P) (bn (o87 P) (bn (o151 P) (bl (o279 P)) bz) (bl (o215 P))) (bn (o119 P) (bn (o183 P) (bl (o311 P)) bz) (bl (o247 P)))))) (bn (o11 P) (bn (o19 P) (bn (o35 P) (bn (o67 P) (bn (o131 P) (bl (o259 P)) bz) (bl (o195 P))) (bn (o99 P) (bn (o163 P) (bl (o291 P)) bz) (bl (o227 P)))) (bn (o51 P) (bn (o83 P) (bn (o147 P) (bl (o275 P)) bz) (bl (o211 P))) (bn (o115 P) (bn (o179 P) (bl (o307 P)) bz) (bl (o243 P))))) (bn (o27 P) (bn (o43 P) (bn (o75 P) (bn (o139 P) (bl (o267 P)) bz) (bl (o203 P))) (bn (o107 P) (bn (o171 P) (bl (o299 P)) bz) (bl (o235 P)))) (bn (o59 P) (bn (o91 P) (bn (o155 P) (bl (o283 P)) bz) (bl (o219 P))) (bn (o123 P) (bn (o187 P) (bl (o315 P)) bz) (bl (o251 P))))))) (bn (boot_o_5 P) (bn (boot_o_9 P) (bn (o17 P) (bn (o33 P) (bn (o65 P) (bn (o129 P) (bl (o257 P)) bz) (bl (o193 P))) (bn (o97 P) (bn (o161 P) (bl (o289 P)) bz) (bl (o225 P)))) (bn (o49 P) (bn (o81 P) (bn (o145 P) (bl (o273 P)) bz) (bl (o209 P))) (bn (o113 P) (bn (o177 P) (bl (o305 P)) bz) (bl (o241 P))))) (bn (o25 P) (bn (o41 P) (bn (o73 P) (bn (o137 P) (bl (o265 P)) bz) (bl (o201 P))) (bn (o105 P) (bn (o169 P) (bl (o297 P)) bz) (bl (o233 P)))) (bn (o57 P) (bn (o89 P) (bn (o153 P) (bl (o281 P)) bz) (bl (o217 P))) (bn (o121 P) (bn (o185 P) (bl (o313 P)) bz) (bl (o249 P)))))) (bn (o13 P) (bn (o21 P) (bn (o37 P) (bn (o69 P) (bn (o133 P) (bl (o261 P)) bz) (bl (o197 P))) (bn (o101 P) (bn (o165 P) (bl (o293 P)) bz) (bl (o229 P)))) (bn (o53 P) (bn (o85 P) (bn (o149 P) (bl (o277 P)) bz) (bl (o213 P))) (bn (o117 P) (bn (o181 P) (bl (o309 P)) bz) (bl (o245 P))))) (bn (o29 P) (bn (o45 P) (bn (o77 P) (bn (o141 P) (bl (o269 P)) bz) (bl (o205 P))) (bn (o109 P) (bn (o173 P) (bl (o301 P)) bz) (bl (o237 P)))) (bn (o61 P) (bn (o93 P) (bn (o157 P) (bl (o285 P)) bz) (bl (o221 P))) (bn (o125 P) (bl (o189 P)) (bl (o253 P)))))))) (bn (boot_o_2 P) (bn (boot_o_4 P) (bn (boot_o_8 P) (bn (o16 P) (bn (o32 P) (bn (o64 P) (bn (o128 P) (bl (o256 P)) bz) (bl (o192 P))) (bn (o96 P) (bn (o160 P) (bl (o288 P)) bz) (bl (o224 P)))) (bn (o48 P) (bn (o80 P) (bn (o144 P) (bl (o272 P)) bz) (bl (o208 P))) (bn (o112 P) (bn (o176 P) (bl (o304 P)) bz) (bl (o240 P))))) (bn (o24 P) (bn (o40 P) (bn (o72 P) (bn (o136 P) (bl (o264 P)) bz) (bl (o200 P))) (bn (o104 P) (bn (o168 P) (bl (o296 P)) bz) (bl (o232 P)))) (bn (o56 P) (bn (o88 P) (bn (o152 P) (bl (o280 P)) bz) (bl (o216 P))) (bn (o120 P) (bn (o184 P) (bl (o312 P)) bz) (bl (o248 P)))))) (bn (o12_9 P) (bn (o20 P) (bn (o36 P) (bn (o68 P) (bn (o132 P) (bl (o260 P)) bz) (bl (o196 P))) (bn (o100 P) (bn (o164 P) (bl (o292 P)) bz) (bl (o228 P)))) (bn (o52 P) (bn (o84 P) (bn (o148 P) (bl (o276 P)) bz) (bl (o212 P))) (bn (o116 P) (bn (o180 P) (bl (o308 P)) bz) (bl (o244 P))))) (bn (o28 P) (bn (o44 P) (bn (o76 P) (bn (o140 P) (bl (o268 P)) bz) (bl (o204 P))) (bn (o108 P) (bn (o172 P) (bl (o300 P)) bz) (bl (o236 P)))) (bn (o60 P) (bn (o92 P) (bn (o156 P) (bl (o284 P)) bz) (bl (o220 P))) (bn (o124 P) (bn (o188 P) (bl (o316 P)) bz) (bl (o252 P))))))) (bn (boot_o_6 P) (bn (boot_o_10 P) (bn (o18 P) (bn (o34 P) (bn (o66 P) (bn (o130 P) (bl (o258 P)) bz) (bl (o194 P))) (bn (o98 P) (bn (o162 P) (bl (o290 P)) bz) (bl (o226 P)))) (bn (o50 P) (bn (o82 P) (bn (o146 P) (bl (o274 P)) bz) (bl (o210 P))) (bn (o114 P) (bn (o178 P) (bl (o306 P)) bz) (bl (o242 P))))) (bn (o26 P) (bn (o42 P) (bn (o74 P) (bn (o138 P) (bl (o266 P)) bz) (bl (o202 P))) (bn (o106 P) (bn (o170 P) (bl (o298 P)) bz) (bl (o234 P)))) (bn (o58 P) (bn (o90 P) (bn (o154 P) (bl (o282 P)) bz) (bl (o218 P))) (bn (o122 P) (bn (o186 P) (bl (o314 P)) bz) (bl (o250 P)))))) (bn (o14 P) (bn (o22 P) (bn (o38 P) (bn (o70 P) (bn (o134 P) (bl (o262 P)) bz) (bl (o198 P))) (bn (o102 P) (bn (o166 P) (bl (o294 P)) bz) (bl (o230 P)))) (bn (o54 P) (bn (o86 P) (bn (o150 P) (bl (o278 P)) bz) (bl (o214 P))) (bn (o118 P) (bn (o182 P) (bl (o310 P)) bz) (bl (o246 P))))) (bn (o30 P) (bn (o46 P) (bn (o78 P) (bn (o142 P) (bl (o270 P)) bz) (bl (o206 P))) (bn (o110 P) (bn (o174 P) (bl (o302 P)) bz) (bl (o238 P)))) (bn (o62 P) (bn (o94 P) (bn (o158 P) (bl (o286 P)) bz) (bl (o222 P))) (bn (o126 P) (bl (o190 P)) (bl (o254 P)))))))))
noncomputable def o3_10 : O:=fun P=>dc #[d P "__name__" 165 (s "law_np0332_01" 559),d P "__doc__" 166 n,d P "__package__" 167 n,d P "__loader__" 168 (Value.builtin "__main__.__loader__#opaque"),d P "__spec__" 169 n,d P "__annotations__" 170 (r 6),d P "__builtins__" 171 (r 4),d P "__file__" 173 (s "/claim/cut.py" 172),d P "__cached__" 174 n,d P "_wall" 193 (r 21),d P "Body" 281 (r 82),d P "points" 287 (r 91),d P "successors" 293 (r 96),d P "predecessors" 299 (r 101),d P "operands_of" 307 (r 108),d P "operands_at" 319 (r 115),d P "indices_of" 325 (r 120),d P "joined" 335 (r 127),d P "behind_block" 348 (r 134),d P "back_to" 360 (r 141),d P "solve_backward" 376 (r 148),d P "facts_before" 390 (r 155),d P "looked_at" 402 (r 162),d P "written_at" 414 (r 169),d P "dropped_at" 426 (r 176),d P "turned_at" 437 (r 183),d P "NOTHING" 440 (r 184),d P "used_locals" 453 (r 191),d P "is_return" 463 (r 198),d P "dropped_locals" 472 (r 205),d P "set_locals" 483 (r 212),d P "Liveness" 552 (r 257),d P "live_points" 558 (r 266),d P "_law_pool" 571 (r 273),d P "_law_take" 580 (r 280),d P "_law_one" 588 (r 287),d P "_law_INT" 591 (r 288),d P "_law_place" 599 (r 295),d P "_law_operand" 606 (r 302),d P "_law_statement" 614 (r 309),d P "_law_end" 625 (r 316),d P "_law_body" 631 (r 321),d P "_law_within" 637 (r 326),d P "_law_read" 644 (r 333),d P "_law_uses" 656 (r 340),d P "_law_drops" 663 (r 347)] 46
noncomputable def o12_10 : O:=fun uw=>fl #[i 1,i 0,r 20,i 5,i 0,r 27,i 31,i 0,r 90,i 36,i 0,r 95,i 55,i 0,r 100,i 61,i 0,r 107,i 74,i 0,r 114,i 85,i 0,r 119,i 88,i 0,r 126,i 90,i 0,r 133,i 95,i 0,r 140,i 99,i 0,r 147,i 112,i 0,r 154,i 115,i 0,r 161,i 125,i 0,r 168,i 131,i 0,r 175,i 135,i 0,r 182,i 143,i 0,r 190,i 161,i 0,r 197,i 164,i 0,r 204,i 167,i 0,r 211,i 173,i 0,r 218,i 193,i 0,r 265,i 203,i 0,r 272,i 210,i 0,r 279,i 217,i 0,r 286,i 220,i 0,r 294,i 227,i 0,r 301,i 229,i 0,r 308,i 242,i 0,r 315,i 253,i 0,r 320,i 262,i 0,r 325,i 264,i 0,r 332,i 266,i 0,r 339,i 283,i 0,r 346]
noncomputable def o317 : O:=fun uw=>tu #[]
noncomputable def o318 : O:=fun uw=>fl #[]
noncomputable def o319 : O:=fun uw=>f0 "_law_body" "_law_body" (fA 36) (fB 36) (fC 36)
noncomputable def o320 : O:=fun uw=>co #[s "_law_body" 626,s "_law_body" 627,s "/claim/cut.py" 628,i 253,i 1,i 0,i 0,i 3,r 317,Value.bool Bool.true,i 181,r 318,n,n,n,r 319,i 629,i 253,s "/claim/cut.py" 630]
noncomputable def o321 : O:=fun uw=>fo (fk "_law_body" "_law_body" (fA 36) (fB 36) (fC 36) n "law_np0332_01" 559 320)
noncomputable def o322 : O:=fun uw=>tu #[]
noncomputable def o323 : O:=fun uw=>fl #[]
noncomputable def o324 : O:=fun uw=>f0 "_law_within" "_law_within" (fA 37) (fB 37) (fC 37)
noncomputable def o325 : O:=fun uw=>co #[s "_law_within" 632,s "_law_within" 633,s "/claim/cut.py" 634,i 262,i 1,i 0,i 0,i 3,r 322,Value.bool Bool.true,i 181,r 323,n,n,n,r 324,i 635,i 262,s "/claim/cut.py" 636]
noncomputable def o326 : O:=fun uw=>fo (fk "_law_within" "_law_within" (fA 37) (fB 37) (fC 37) n "law_np0332_01" 559 325)
noncomputable def o327 : O:=fun uw=>tu #[]
noncomputable def o328 : O:=fun uw=>fl #[]
noncomputable def o329 : O:=fun uw=>tu #[s "operand" 641]
noncomputable def o330 : O:=fun uw=>tu #[]
noncomputable def o331 : O:=fun uw=>f0 "_law_read" "_law_read" (fA 38) (fB 38) (fC 38)
noncomputable def o332 : O:=fun uw=>c1 "_law_read" 638 "_law_read" 639 640 264 1 3 327 328 329 330 331 642 264 643
noncomputable def o333 : O:=fun uw=>fo (fk "_law_read" "_law_read" (fA 38) (fB 38) (fC 38) n "law_np0332_01" 559 332)
noncomputable def o334 : O:=fun uw=>tu #[]
noncomputable def o335 : O:=fun uw=>fl #[]
noncomputable def o336 : O:=fun uw=>tu #[s "line" 648,s "word" 649,s "found" 650,s "made" 651,s "some" 652,s "operand" 653]
noncomputable def o337 : O:=fun uw=>tu #[]
noncomputable def o338 : O:=fun uw=>f0 "_law_uses" "_law_uses" (fA 39) (fB 39) (fC 39)
noncomputable def o339 : O:=fun uw=>c1 "_law_uses" 645 "_law_uses" 646 647 266 1 3 334 335 336 337 338 654 266 655
noncomputable def o340 : O:=fun uw=>fo (fk "_law_uses" "_law_uses" (fA 39) (fB 39) (fC 39) n "law_np0332_01" 559 339)
noncomputable def o341 : O:=fun uw=>tu #[]
noncomputable def o342 : O:=fun uw=>fl #[]
noncomputable def o343 : O:=fun uw=>tu #[s "line" 660]
noncomputable def o344 : O:=fun uw=>tu #[]
noncomputable def o345 : O:=fun uw=>f0 "_law_drops" "_law_drops" (fA 40) (fB 40) (fC 40)
noncomputable def o346 : O:=fun uw=>c1 "_law_drops" 657 "_law_drops" 658 659 283 1 3 341 342 343 344 345 661 283 662
noncomputable def o347 : O:=fun uw=>fo (fk "_law_drops" "_law_drops" (fA 40) (fB 40) (fC 40) n "law_np0332_01" 559 346)
noncomputable def T10 (P : Params) : BT:=(bn (boot_o_0 P) (bn (boot_o_1 P) (bn (o3_10 P) (bn (boot_o_7 P) (bn (o15 P) (bn (o31 P) (bn (o63 P) (bn (o127 P) (bl (o255 P)) bz) (bn (o191 P) (bl (o319 P)) bz)) (bn (o95 P) (bn (o159 P) (bl (o287 P)) bz) (bl (o223 P)))) (bn (o47 P) (bn (o79 P) (bn (o143 P) (bl (o271 P)) bz) (bn (o207 P) (bl (o335 P)) bz)) (bn (o111 P) (bn (o175 P) (bl (o303 P)) bz) (bl (o239 P))))) (bn (o23 P) (bn (o39 P) (bn (o71 P) (bn (o135 P) (bl (o263 P)) bz) (bn (o199 P) (bl (o327 P)) bz)) (bn (o103 P) (bn (o167 P) (bl (o295 P)) bz) (bl (o231 P)))) (bn (o55 P) (bn (o87 P) (bn (o151 P) (bl (o279 P)) bz) (bn (o215 P) (bl (o343 P)) bz)) (bn (o119 P) (bn (o183 P) (bl (o311 P)) bz) (bl (o247 P)))))) (bn (o11 P) (bn (o19 P) (bn (o35 P) (bn (o67 P) (bn (o131 P) (bl (o259 P)) bz) (bn (o195 P) (bl (o323 P)) bz)) (bn (o99 P) (bn (o163 P) (bl (o291 P)) bz) (bl (o227 P)))) (bn (o51 P) (bn (o83 P) (bn (o147 P) (bl (o275 P)) bz) (bn (o211 P) (bl (o339 P)) bz)) (bn (o115 P) (bn (o179 P) (bl (o307 P)) bz) (bl (o243 P))))) (bn (o27 P) (bn (o43 P) (bn (o75 P) (bn (o139 P) (bl (o267 P)) bz) (bn (o203 P) (bl (o331 P)) bz)) (bn (o107 P) (bn (o171 P) (bl (o299 P)) bz) (bl (o235 P)))) (bn (o59 P) (bn (o91 P) (bn (o155 P) (bl (o283 P)) bz) (bn (o219 P) (bl (o347 P)) bz)) (bn (o123 P) (bn (o187 P) (bl (o315 P)) bz) (bl (o251 P))))))) (bn (boot_o_5 P) (bn (boot_o_9 P) (bn (o17 P) (bn (o33 P) (bn (o65 P) (bn (o129 P) (bl (o257 P)) bz) (bn (o193 P) (bl (o321 P)) bz)) (bn (o97 P) (bn (o161 P) (bl (o289 P)) bz) (bl (o225 P)))) (bn (o49 P) (bn (o81 P) (bn (o145 P) (bl (o273 P)) bz) (bn (o209 P) (bl (o337 P)) bz)) (bn (o113 P) (bn (o177 P) (bl (o305 P)) bz) (bl (o241 P))))) (bn (o25 P) (bn (o41 P) (bn (o73 P) (bn (o137 P) (bl (o265 P)) bz) (bn (o201 P) (bl (o329 P)) bz)) (bn (o105 P) (bn (o169 P) (bl (o297 P)) bz) (bl (o233 P)))) (bn (o57 P) (bn (o89 P) (bn (o153 P) (bl (o281 P)) bz) (bn (o217 P) (bl (o345 P)) bz)) (bn (o121 P) (bn (o185 P) (bl (o313 P)) bz) (bl (o249 P)))))) (bn (o13 P) (bn (o21 P) (bn (o37 P) (bn (o69 P) (bn (o133 P) (bl (o261 P)) bz) (bn (o197 P) (bl (o325 P)) bz)) (bn (o101 P) (bn (o165 P) (bl (o293 P)) bz) (bl (o229 P)))) (bn (o53 P) (bn (o85 P) (bn (o149 P) (bl (o277 P)) bz) (bn (o213 P) (bl (o341 P)) bz)) (bn (o117 P) (bn (o181 P) (bl (o309 P)) bz) (bl (o245 P))))) (bn (o29 P) (bn (o45 P) (bn (o77 P) (bn (o141 P) (bl (o269 P)) bz) (bn (o205 P) (bl (o333 P)) bz)) (bn (o109 P) (bn (o173 P) (bl (o301 P)) bz) (bl (o237 P)))) (bn (o61 P) (bn (o93 P) (bn (o157 P) (bl (o285 P)) bz) (bl (o221 P))) (bn (o125 P) (bn (o189 P) (bl (o317 P)) bz) (bl (o253 P)))))))) (bn (boot_o_2 P) (bn (boot_o_4 P) (bn (boot_o_8 P) (bn (o16 P) (bn (o32 P) (bn (o64 P) (bn (o128 P) (bl (o256 P)) bz) (bn (o192 P) (bl (o320 P)) bz)) (bn (o96 P) (bn (o160 P) (bl (o288 P)) bz) (bl (o224 P)))) (bn (o48 P) (bn (o80 P) (bn (o144 P) (bl (o272 P)) bz) (bn (o208 P) (bl (o336 P)) bz)) (bn (o112 P) (bn (o176 P) (bl (o304 P)) bz) (bl (o240 P))))) (bn (o24 P) (bn (o40 P) (bn (o72 P) (bn (o136 P) (bl (o264 P)) bz) (bn (o200 P) (bl (o328 P)) bz)) (bn (o104 P) (bn (o168 P) (bl (o296 P)) bz) (bl (o232 P)))) (bn (o56 P) (bn (o88 P) (bn (o152 P) (bl (o280 P)) bz) (bn (o216 P) (bl (o344 P)) bz)) (bn (o120 P) (bn (o184 P) (bl (o312 P)) bz) (bl (o248 P)))))) (bn (o12_10 P) (bn (o20 P) (bn (o36 P) (bn (o68 P) (bn (o132 P) (bl (o260 P)) bz) (bn (o196 P) (bl (o324 P)) bz)) (bn (o100 P) (bn (o164 P) (bl (o292 P)) bz) (bl (o228 P)))) (bn (o52 P) (bn (o84 P) (bn (o148 P) (bl (o276 P)) bz) (bn (o212 P) (bl (o340 P)) bz)) (bn (o116 P) (bn (o180 P) (bl (o308 P)) bz) (bl (o244 P))))) (bn (o28 P) (bn (o44 P) (bn (o76 P) (bn (o140 P) (bl (o268 P)) bz) (bn (o204 P) (bl (o332 P)) bz)) (bn (o108 P) (bn (o172 P) (bl (o300 P)) bz) (bl (o236 P)))) (bn (o60 P) (bn (o92 P) (bn (o156 P) (bl (o284 P)) bz) (bl (o220 P))) (bn (o124 P) (bn (o188 P) (bl (o316 P)) bz) (bl (o252 P))))))) (bn (boot_o_6 P) (bn (boot_o_10 P) (bn (o18 P) (bn (o34 P) (bn (o66 P) (bn (o130 P) (bl (o258 P)) bz) (bn (o194 P) (bl (o322 P)) bz)) (bn (o98 P) (bn (o162 P) (bl (o290 P)) bz) (bl (o226 P)))) (bn (o50 P) (bn (o82 P) (bn (o146 P) (bl (o274 P)) bz) (bn (o210 P) (bl (o338 P)) bz)) (bn (o114 P) (bn (o178 P) (bl (o306 P)) bz) (bl (o242 P))))) (bn (o26 P) (bn (o42 P) (bn (o74 P) (bn (o138 P) (bl (o266 P)) bz) (bn (o202 P) (bl (o330 P)) bz)) (bn (o106 P) (bn (o170 P) (bl (o298 P)) bz) (bl (o234 P)))) (bn (o58 P) (bn (o90 P) (bn (o154 P) (bl (o282 P)) bz) (bn (o218 P) (bl (o346 P)) bz)) (bn (o122 P) (bn (o186 P) (bl (o314 P)) bz) (bl (o250 P)))))) (bn (o14 P) (bn (o22 P) (bn (o38 P) (bn (o70 P) (bn (o134 P) (bl (o262 P)) bz) (bn (o198 P) (bl (o326 P)) bz)) (bn (o102 P) (bn (o166 P) (bl (o294 P)) bz) (bl (o230 P)))) (bn (o54 P) (bn (o86 P) (bn (o150 P) (bl (o278 P)) bz) (bn (o214 P) (bl (o342 P)) bz)) (bn (o118 P) (bn (o182 P) (bl (o310 P)) bz) (bl (o246 P))))) (bn (o30 P) (bn (o46 P) (bn (o78 P) (bn (o142 P) (bl (o270 P)) bz) (bn (o206 P) (bl (o334 P)) bz)) (bn (o110 P) (bn (o174 P) (bl (o302 P)) bz) (bl (o238 P)))) (bn (o62 P) (bn (o94 P) (bn (o158 P) (bl (o286 P)) bz) (bl (o222 P))) (bn (o126 P) (bn (o190 P) (bl (o318 P)) bz) (bl (o254 P)))))))))
noncomputable def o3_11 : O:=fun P=>dc #[d P "__name__" 165 (s "law_np0332_01" 559),d P "__doc__" 166 n,d P "__package__" 167 n,d P "__loader__" 168 (Value.builtin "__main__.__loader__#opaque"),d P "__spec__" 169 n,d P "__annotations__" 170 (r 6),d P "__builtins__" 171 (r 4),d P "__file__" 173 (s "/claim/cut.py" 172),d P "__cached__" 174 n,d P "_wall" 193 (r 21),d P "Body" 281 (r 82),d P "points" 287 (r 91),d P "successors" 293 (r 96),d P "predecessors" 299 (r 101),d P "operands_of" 307 (r 108),d P "operands_at" 319 (r 115),d P "indices_of" 325 (r 120),d P "joined" 335 (r 127),d P "behind_block" 348 (r 134),d P "back_to" 360 (r 141),d P "solve_backward" 376 (r 148),d P "facts_before" 390 (r 155),d P "looked_at" 402 (r 162),d P "written_at" 414 (r 169),d P "dropped_at" 426 (r 176),d P "turned_at" 437 (r 183),d P "NOTHING" 440 (r 184),d P "used_locals" 453 (r 191),d P "is_return" 463 (r 198),d P "dropped_locals" 472 (r 205),d P "set_locals" 483 (r 212),d P "Liveness" 552 (r 257),d P "live_points" 558 (r 266),d P "_law_pool" 571 (r 273),d P "_law_take" 580 (r 280),d P "_law_one" 588 (r 287),d P "_law_INT" 591 (r 288),d P "_law_place" 599 (r 295),d P "_law_operand" 606 (r 302),d P "_law_statement" 614 (r 309),d P "_law_end" 625 (r 316),d P "_law_body" 631 (r 321),d P "_law_within" 637 (r 326),d P "_law_read" 644 (r 333),d P "_law_uses" 656 (r 340),d P "_law_drops" 663 (r 347),d P "_law_sets" 671 (r 354),d P "_law_lines" 684 (r 361),d P "_law_behind" 690 (r 366),d P "_law_live" 696 (r 371),d P "law" 702 (r 376)] 51
noncomputable def o12_11 : O:=fun uw=>fl #[i 1,i 0,r 20,i 5,i 0,r 27,i 31,i 0,r 90,i 36,i 0,r 95,i 55,i 0,r 100,i 61,i 0,r 107,i 74,i 0,r 114,i 85,i 0,r 119,i 88,i 0,r 126,i 90,i 0,r 133,i 95,i 0,r 140,i 99,i 0,r 147,i 112,i 0,r 154,i 115,i 0,r 161,i 125,i 0,r 168,i 131,i 0,r 175,i 135,i 0,r 182,i 143,i 0,r 190,i 161,i 0,r 197,i 164,i 0,r 204,i 167,i 0,r 211,i 173,i 0,r 218,i 193,i 0,r 265,i 203,i 0,r 272,i 210,i 0,r 279,i 217,i 0,r 286,i 220,i 0,r 294,i 227,i 0,r 301,i 229,i 0,r 308,i 242,i 0,r 315,i 253,i 0,r 320,i 262,i 0,r 325,i 264,i 0,r 332,i 266,i 0,r 339,i 283,i 0,r 346,i 285,i 0,r 353,i 290,i 0,r 360,i 297,i 0,r 365,i 304,i 0,r 370,i 318,i 0,r 375]
noncomputable def o348 : O:=fun uw=>tu #[]
noncomputable def o349 : O:=fun uw=>fl #[]
noncomputable def o350 : O:=fun uw=>tu #[s "line" 667,s "goal" 668]
noncomputable def o351 : O:=fun uw=>tu #[]
noncomputable def o352 : O:=fun uw=>f0 "_law_sets" "_law_sets" (fA 41) (fB 41) (fC 41)
noncomputable def o353 : O:=fun uw=>c1 "_law_sets" 664 "_law_sets" 665 666 285 1 3 348 349 350 351 352 669 285 670
noncomputable def o354 : O:=fun uw=>fo (fk "_law_sets" "_law_sets" (fA 41) (fB 41) (fC 41) n "law_np0332_01" 559 353)
noncomputable def o355 : O:=fun uw=>tu #[]
noncomputable def o356 : O:=fun uw=>fl #[]
noncomputable def o357 : O:=fun uw=>tu #[s "body" 675,s "found" 676,s "block" 677,s "lines" 678,s "end" 679,s "at" 680,s "line" 681]
noncomputable def o358 : O:=fun uw=>tu #[]
noncomputable def o359 : O:=fun uw=>f0 "_law_lines" "_law_lines" (fA 42) (fB 42) (fC 42)
noncomputable def o360 : O:=fun uw=>c1 "_law_lines" 672 "_law_lines" 673 674 290 1 3 355 356 357 358 359 682 290 683
noncomputable def o361 : O:=fun uw=>fo (fk "_law_lines" "_law_lines" (fA 42) (fB 42) (fC 42) n "law_np0332_01" 559 360)
noncomputable def o362 : O:=fun uw=>tu #[]
noncomputable def o363 : O:=fun uw=>fl #[]
noncomputable def o364 : O:=fun uw=>f0 "_law_behind" "_law_behind" (fA 43) (fB 43) (fC 43)
noncomputable def o365 : O:=fun uw=>co #[s "_law_behind" 685,s "_law_behind" 686,s "/claim/cut.py" 687,i 297,i 2,i 0,i 0,i 3,r 362,Value.bool Bool.true,i 181,r 363,n,n,n,r 364,i 688,i 297,s "/claim/cut.py" 689]
noncomputable def o366 : O:=fun uw=>fo (fk "_law_behind" "_law_behind" (fA 43) (fB 43) (fC 43) n "law_np0332_01" 559 365)
noncomputable def o367 : O:=fun uw=>tu #[]
noncomputable def o368 : O:=fun uw=>fl #[]
noncomputable def o369 : O:=fun uw=>f0 "_law_live" "_law_live" (fA 44) (fB 44) (fC 44)
noncomputable def o370 : O:=fun uw=>co #[s "_law_live" 691,s "_law_live" 692,s "/claim/cut.py" 693,i 304,i 3,i 0,i 0,i 3,r 367,Value.bool Bool.true,i 181,r 368,n,n,n,r 369,i 694,i 304,s "/claim/cut.py" 695]
noncomputable def o371 : O:=fun uw=>fo (fk "_law_live" "_law_live" (fA 44) (fB 44) (fC 44) n "law_np0332_01" 559 370)
noncomputable def o372 : O:=fun uw=>tu #[]
noncomputable def o373 : O:=fun uw=>fl #[]
noncomputable def o374 : O:=fun uw=>f0 "law" "law" (fA 45) (fB 45) (fC 45)
noncomputable def o375 : O:=fun uw=>co #[s "law" 697,s "law" 698,s "/claim/cut.py" 699,i 318,i 1,i 0,i 0,i 3,r 372,Value.bool Bool.true,i 181,r 373,n,n,n,r 374,i 700,i 318,s "/claim/cut.py" 701]
noncomputable def o376 : O:=fun uw=>fo (fk "law" "law" (fA 45) (fB 45) (fC 45) n "law_np0332_01" 559 375)
noncomputable def T11 (P : Params) : BT:=(bn (boot_o_0 P) (bn (boot_o_1 P) (bn (o3_11 P) (bn (boot_o_7 P) (bn (o15 P) (bn (o31 P) (bn (o63 P) (bn (o127 P) (bl (o255 P)) bz) (bn (o191 P) (bl (o319 P)) bz)) (bn (o95 P) (bn (o159 P) (bl (o287 P)) bz) (bn (o223 P) (bl (o351 P)) bz))) (bn (o47 P) (bn (o79 P) (bn (o143 P) (bl (o271 P)) bz) (bn (o207 P) (bl (o335 P)) bz)) (bn (o111 P) (bn (o175 P) (bl (o303 P)) bz) (bn (o239 P) (bl (o367 P)) bz)))) (bn (o23 P) (bn (o39 P) (bn (o71 P) (bn (o135 P) (bl (o263 P)) bz) (bn (o199 P) (bl (o327 P)) bz)) (bn (o103 P) (bn (o167 P) (bl (o295 P)) bz) (bn (o231 P) (bl (o359 P)) bz))) (bn (o55 P) (bn (o87 P) (bn (o151 P) (bl (o279 P)) bz) (bn (o215 P) (bl (o343 P)) bz)) (bn (o119 P) (bn (o183 P) (bl (o311 P)) bz) (bn (o247 P) (bl (o375 P)) bz))))) (bn (o11 P) (bn (o19 P) (bn (o35 P) (bn (o67 P) (bn (o131 P) (bl (o259 P)) bz) (bn (o195 P) (bl (o323 P)) bz)) (bn (o99 P) (bn (o163 P) (bl (o291 P)) bz) (bn (o227 P) (bl (o355 P)) bz))) (bn (o51 P) (bn (o83 P) (bn (o147 P) (bl (o275 P)) bz) (bn (o211 P) (bl (o339 P)) bz)) (bn (o115 P) (bn (o179 P) (bl (o307 P)) bz) (bn (o243 P) (bl (o371 P)) bz)))) (bn (o27 P) (bn (o43 P) (bn (o75 P) (bn (o139 P) (bl (o267 P)) bz) (bn (o203 P) (bl (o331 P)) bz)) (bn (o107 P) (bn (o171 P) (bl (o299 P)) bz) (bn (o235 P) (bl (o363 P)) bz))) (bn (o59 P) (bn (o91 P) (bn (o155 P) (bl (o283 P)) bz) (bn (o219 P) (bl (o347 P)) bz)) (bn (o123 P) (bn (o187 P) (bl (o315 P)) bz) (bl (o251 P))))))) (bn (boot_o_5 P) (bn (boot_o_9 P) (bn (o17 P) (bn (o33 P) (bn (o65 P) (bn (o129 P) (bl (o257 P)) bz) (bn (o193 P) (bl (o321 P)) bz)) (bn (o97 P) (bn (o161 P) (bl (o289 P)) bz) (bn (o225 P) (bl (o353 P)) bz))) (bn (o49 P) (bn (o81 P) (bn (o145 P) (bl (o273 P)) bz) (bn (o209 P) (bl (o337 P)) bz)) (bn (o113 P) (bn (o177 P) (bl (o305 P)) bz) (bn (o241 P) (bl (o369 P)) bz)))) (bn (o25 P) (bn (o41 P) (bn (o73 P) (bn (o137 P) (bl (o265 P)) bz) (bn (o201 P) (bl (o329 P)) bz)) (bn (o105 P) (bn (o169 P) (bl (o297 P)) bz) (bn (o233 P) (bl (o361 P)) bz))) (bn (o57 P) (bn (o89 P) (bn (o153 P) (bl (o281 P)) bz) (bn (o217 P) (bl (o345 P)) bz)) (bn (o121 P) (bn (o185 P) (bl (o313 P)) bz) (bl (o249 P)))))) (bn (o13 P) (bn (o21 P) (bn (o37 P) (bn (o69 P) (bn (o133 P) (bl (o261 P)) bz) (bn (o197 P) (bl (o325 P)) bz)) (bn (o101 P) (bn (o165 P) (bl (o293 P)) bz) (bn (o229 P) (bl (o357 P)) bz))) (bn (o53 P) (bn (o85 P) (bn (o149 P) (bl (o277 P)) bz) (bn (o213 P) (bl (o341 P)) bz)) (bn (o117 P) (bn (o181 P) (bl (o309 P)) bz) (bn (o245 P) (bl (o373 P)) bz)))) (bn (o29 P) (bn (o45 P) (bn (o77 P) (bn (o141 P) (bl (o269 P)) bz) (bn (o205 P) (bl (o333 P)) bz)) (bn (o109 P) (bn (o173 P) (bl (o301 P)) bz) (bn (o237 P) (bl (o365 P)) bz))) (bn (o61 P) (bn (o93 P) (bn (o157 P) (bl (o285 P)) bz) (bn (o221 P) (bl (o349 P)) bz)) (bn (o125 P) (bn (o189 P) (bl (o317 P)) bz) (bl (o253 P)))))))) (bn (boot_o_2 P) (bn (boot_o_4 P) (bn (boot_o_8 P) (bn (o16 P) (bn (o32 P) (bn (o64 P) (bn (o128 P) (bl (o256 P)) bz) (bn (o192 P) (bl (o320 P)) bz)) (bn (o96 P) (bn (o160 P) (bl (o288 P)) bz) (bn (o224 P) (bl (o352 P)) bz))) (bn (o48 P) (bn (o80 P) (bn (o144 P) (bl (o272 P)) bz) (bn (o208 P) (bl (o336 P)) bz)) (bn (o112 P) (bn (o176 P) (bl (o304 P)) bz) (bn (o240 P) (bl (o368 P)) bz)))) (bn (o24 P) (bn (o40 P) (bn (o72 P) (bn (o136 P) (bl (o264 P)) bz) (bn (o200 P) (bl (o328 P)) bz)) (bn (o104 P) (bn (o168 P) (bl (o296 P)) bz) (bn (o232 P) (bl (o360 P)) bz))) (bn (o56 P) (bn (o88 P) (bn (o152 P) (bl (o280 P)) bz) (bn (o216 P) (bl (o344 P)) bz)) (bn (o120 P) (bn (o184 P) (bl (o312 P)) bz) (bn (o248 P) (bl (o376 P)) bz))))) (bn (o12_11 P) (bn (o20 P) (bn (o36 P) (bn (o68 P) (bn (o132 P) (bl (o260 P)) bz) (bn (o196 P) (bl (o324 P)) bz)) (bn (o100 P) (bn (o164 P) (bl (o292 P)) bz) (bn (o228 P) (bl (o356 P)) bz))) (bn (o52 P) (bn (o84 P) (bn (o148 P) (bl (o276 P)) bz) (bn (o212 P) (bl (o340 P)) bz)) (bn (o116 P) (bn (o180 P) (bl (o308 P)) bz) (bn (o244 P) (bl (o372 P)) bz)))) (bn (o28 P) (bn (o44 P) (bn (o76 P) (bn (o140 P) (bl (o268 P)) bz) (bn (o204 P) (bl (o332 P)) bz)) (bn (o108 P) (bn (o172 P) (bl (o300 P)) bz) (bn (o236 P) (bl (o364 P)) bz))) (bn (o60 P) (bn (o92 P) (bn (o156 P) (bl (o284 P)) bz) (bn (o220 P) (bl (o348 P)) bz)) (bn (o124 P) (bn (o188 P) (bl (o316 P)) bz) (bl (o252 P))))))) (bn (boot_o_6 P) (bn (boot_o_10 P) (bn (o18 P) (bn (o34 P) (bn (o66 P) (bn (o130 P) (bl (o258 P)) bz) (bn (o194 P) (bl (o322 P)) bz)) (bn (o98 P) (bn (o162 P) (bl (o290 P)) bz) (bn (o226 P) (bl (o354 P)) bz))) (bn (o50 P) (bn (o82 P) (bn (o146 P) (bl (o274 P)) bz) (bn (o210 P) (bl (o338 P)) bz)) (bn (o114 P) (bn (o178 P) (bl (o306 P)) bz) (bn (o242 P) (bl (o370 P)) bz)))) (bn (o26 P) (bn (o42 P) (bn (o74 P) (bn (o138 P) (bl (o266 P)) bz) (bn (o202 P) (bl (o330 P)) bz)) (bn (o106 P) (bn (o170 P) (bl (o298 P)) bz) (bn (o234 P) (bl (o362 P)) bz))) (bn (o58 P) (bn (o90 P) (bn (o154 P) (bl (o282 P)) bz) (bn (o218 P) (bl (o346 P)) bz)) (bn (o122 P) (bn (o186 P) (bl (o314 P)) bz) (bl (o250 P)))))) (bn (o14 P) (bn (o22 P) (bn (o38 P) (bn (o70 P) (bn (o134 P) (bl (o262 P)) bz) (bn (o198 P) (bl (o326 P)) bz)) (bn (o102 P) (bn (o166 P) (bl (o294 P)) bz) (bn (o230 P) (bl (o358 P)) bz))) (bn (o54 P) (bn (o86 P) (bn (o150 P) (bl (o278 P)) bz) (bn (o214 P) (bl (o342 P)) bz)) (bn (o118 P) (bn (o182 P) (bl (o310 P)) bz) (bn (o246 P) (bl (o374 P)) bz)))) (bn (o30 P) (bn (o46 P) (bn (o78 P) (bn (o142 P) (bl (o270 P)) bz) (bn (o206 P) (bl (o334 P)) bz)) (bn (o110 P) (bn (o174 P) (bl (o302 P)) bz) (bn (o238 P) (bl (o366 P)) bz))) (bn (o62 P) (bn (o94 P) (bn (o158 P) (bl (o286 P)) bz) (bn (o222 P) (bl (o350 P)) bz)) (bn (o126 P) (bn (o190 P) (bl (o318 P)) bz) (bl (o254 P)))))))))
noncomputable def bd : List Stmt:=behindTheImports pw
noncomputable def envT : Env:={ scope:=pw.main.scope,locals:=mainNs,globals:=mainNs,cells:=[],code:=.ref 13,frame:=some 14 }
noncomputable def cE : Code:=.body bd envT
noncomputable def q0 : Pos:=⟨0,0,0,0⟩
noncomputable abbrev fr0 : List Frame:=[topFrame q0]
noncomputable abbrev ann0 : Option Value:=some (.ref 6)
noncomputable def Ha (P : Params) : Heap:=⟨Array.mk [boot_o_0 P,boot_o_1 P,boot_o_2 P,boot_o_3 P,boot_o_4 P,boot_o_5 P,boot_o_6 P,boot_o_7 P,boot_o_8 P,boot_o_9 P,boot_o_10 P,o11 P,o12 P,o13 P,o14 P],{}⟩
noncomputable def Sbt (w : World) (os : OsState) : SharedT:=⟨Tb w.params,15,{},Array.mk [],{},187,os⟩
noncomputable def grp (a n : Nat) : List Stmt:=(bd.drop a).take n
noncomputable def S0 (w : World) (os : OsState) : SharedT:=⟨T0 w.params,22,{},Array.mk [],{},196,os⟩
noncomputable def ps0 : Pos:=⟨4,0,4,8⟩
noncomputable def S1 (w : World) (os : OsState) : SharedT:=⟨T1 w.params,87,{},Array.mk [],{},282,os⟩
noncomputable def ps1 : Pos:=⟨5,0,30,16⟩
noncomputable def S2 (w : World) (os : OsState) : SharedT:=⟨T2 w.params,121,{},Array.mk [],{},328,os⟩
noncomputable def ps2 : Pos:=⟨87,0,87,8⟩
noncomputable def S3 (w : World) (os : OsState) : SharedT:=⟨T3 w.params,149,{},Array.mk [],{},377,os⟩
noncomputable def ps3 : Pos:=⟨99,0,111,16⟩
noncomputable def S4 (w : World) (os : OsState) : SharedT:=⟨T4 w.params,177,{},Array.mk [],{},427,os⟩
noncomputable def ps4 : Pos:=⟨131,0,134,90⟩
noncomputable def S5 (w : World) (os : OsState) : SharedT:=⟨T5 w.params,185,{},Array.mk [],{},441,os⟩
noncomputable def ps5 : Pos:=⟨142,0,142,7⟩
noncomputable def S6 (w : World) (os : OsState) : SharedT:=⟨T6 w.params,213,{},Array.mk [],{},484,os⟩
noncomputable def ps6 : Pos:=⟨167,0,172,16⟩
noncomputable def S7 (w : World) (os : OsState) : SharedT:=⟨T7 w.params,262,{},Array.mk [],{},553,os⟩
noncomputable def ps7 : Pos:=⟨173,0,192,95⟩
noncomputable def S8 (w : World) (os : OsState) : SharedT:=⟨T8 w.params,288,{},Array.mk [],{},589,os⟩
noncomputable def ps8 : Pos:=⟨217,0,218,49⟩
noncomputable def S9 (w : World) (os : OsState) : SharedT:=⟨T9 w.params,317,{},Array.mk [],{},626,os⟩
noncomputable def ps9 : Pos:=⟨242,0,252,64⟩
noncomputable def S10 (w : World) (os : OsState) : SharedT:=⟨T10 w.params,348,{},Array.mk [],{},664,os⟩
noncomputable def ps10 : Pos:=⟨283,0,284,52⟩
noncomputable def S11 (w : World) (os : OsState) : SharedT:=⟨T11 w.params,377,{},Array.mk [],{},703,os⟩
noncomputable def ps11 : Pos:=⟨318,0,326,82⟩
end Mine
end
section
set_option maxRecDepth 100000
open PyProof.Rows PySem PySem.W
namespace Mine
theorem r7 (w : World) (os : OsState) : topGo treeTable pw w 11 ann0 12 ⟨boot_heap w.params,Array.mk [],boot_drawn,boot_toks,os⟩ (topStub pw) = some (⟨Ha w.params,Array.mk [],{},187,os⟩,⟨denote treeTable cE,cE,q0,fr0⟩):=by kernel_rfl!
theorem oG (w : World) (os : OsState) : segRun treeTable pw w 11 ann0 1 1 ⟨Ha w.params,Array.mk [],{},187,os⟩ (blockOf bd envT cE q0 fr0) = some (.next,(Sbt w os).abs,cE,q0):=by kernel_rfl!
theorem rC (w : World) (os : OsState) : segRunT treeTable pw w 11 ann0 1 39 (Sbt w os) (piecesOf (grp 0 2) envT cE q0 fr0) = some (.next,S0 w os,cE,ps0):=by kernel_rfl!
theorem rB (w : World) (os : OsState) : segRunT treeTable pw w 11 ann0 1 426 (S0 w os) (piecesOf (grp 2 1) envT cE ps0 fr0) = some (.next,S1 w os,cE,ps1):=by kernel_rfl!
theorem rA (w : World) (os : OsState) : segRunT treeTable pw w 11 ann0 1 178 (S1 w os) (piecesOf (grp 3 7) envT cE ps1 fr0) = some (.next,S2 w os,cE,ps2):=by kernel_rfl!
theorem rq (w : World) (os : OsState) : segRunT treeTable pw w 11 ann0 1 138 (S2 w os) (piecesOf (grp 10 4) envT cE ps2 fr0) = some (.next,S3 w os,cE,ps3):=by kernel_rfl!
theorem rh (w : World) (os : OsState) : segRunT treeTable pw w 11 ann0 1 139 (S3 w os) (piecesOf (grp 14 4) envT cE ps3 fr0) = some (.next,S4 w os,cE,ps4):=by kernel_rfl!
theorem rg (w : World) (os : OsState) : segRunT treeTable pw w 11 ann0 1 70 (S4 w os) (piecesOf (grp 18 3) envT cE ps4 fr0) = some (.next,S5 w os,cE,ps5):=by kernel_rfl!
theorem rf (w : World) (os : OsState) : segRunT treeTable pw w 11 ann0 1 132 (S5 w os) (piecesOf (grp 21 4) envT cE ps5 fr0) = some (.next,S6 w os,cE,ps6):=by kernel_rfl!
theorem re (w : World) (os : OsState) : segRunT treeTable pw w 11 ann0 1 359 (S6 w os) (piecesOf (grp 25 1) envT cE ps6 fr0) = some (.next,S7 w os,cE,ps7):=by kernel_rfl!
theorem rc (w : World) (os : OsState) : segRunT treeTable pw w 11 ann0 1 130 (S7 w os) (piecesOf (grp 26 5) envT cE ps7 fr0) = some (.next,S8 w os,cE,ps8):=by kernel_rfl!
theorem r9 (w : World) (os : OsState) : segRunT treeTable pw w 11 ann0 1 135 (S8 w os) (piecesOf (grp 31 5) envT cE ps8 fr0) = some (.next,S9 w os,cE,ps9):=by kernel_rfl!
theorem pz (w : World) (os : OsState) : segRunT treeTable pw w 11 ann0 1 145 (S9 w os) (piecesOf (grp 36 5) envT cE ps9 fr0) = some (.next,S10 w os,cE,ps10):=by kernel_rfl!
theorem px (w : World) (os : OsState) : segRunT treeTable pw w 11 ann0 1 144 (S10 w os) (piecesOf (grp 41 5) envT cE ps10 fr0) = some (.next,S11 w os,cE,ps11):=by kernel_rfl!
noncomputable section
noncomputable def Hf (P : Params) : Heap:=absHeap (T11 P) 377 {}
noncomputable def steps : Nat:=12 + (1 + (39 + (426 + (178 + (138 + (139 + (70 + (132 + (359 + (130 + (135 + (145 + (144 + 2)))))))))))))
theorem bd_split : bd = grp 0 2 ++ (grp 2 1 ++ (grp 3 7 ++ (grp 10 4 ++ (grp 14 4 ++ (grp 18 3 ++ (grp 21 4 ++ (grp 25 1 ++ (grp 26 5 ++ (grp 31 5 ++ (grp 36 5 ++ (grp 41 5 ++ []))))))))))):=by kernel_rfl!
theorem rU (w : World) (os : OsState) : topRun treeTable pw w 11 ann0 2 (S11 w os).abs ⟨doneF .next,cE,ps11,fr0⟩ = some (S11 w os).abs:=by kernel_rfl!
theorem qW (w : World) (os : OsState) : topRun treeTable pw w 11 ann0 steps ⟨boot_heap w.params,Array.mk [],boot_drawn,boot_toks,os⟩ (topStub pw) = some ⟨Hf w.params,Array.mk [],{},703,os⟩:=by
 have k12 : topRun treeTable pw w 11 ann0 2 (S11 w os).abs (restOf [] envT cE ps11 fr0) = some (S11 w os).abs:=piece_nil (rU w os)
 have k11:=piece_app (segRun_of (px w os)) k12
 have k10:=piece_app (segRun_of (pz w os)) k11
 have k9:=piece_app (segRun_of (r9 w os)) k10
 have k8:=piece_app (segRun_of (rc w os)) k9
 have k7:=piece_app (segRun_of (re w os)) k8
 have k6:=piece_app (segRun_of (rf w os)) k7
 have k5:=piece_app (segRun_of (rg w os)) k6
 have k4:=piece_app (segRun_of (rh w os)) k5
 have k3:=piece_app (segRun_of (rq w os)) k4
 have k2:=piece_app (segRun_of (rA w os)) k3
 have k1:=piece_app (segRun_of (rB w os)) k2
 have k0:=piece_app (segRun_of (rC w os)) k1
 rw [<- bd_split] at k0
 exact go_top (r7 w os) (piece_block (oG w os) k0)
noncomputable def looseN : List Str:=["_wall","Body","points","successors","predecessors","operands_of","operands_at","indices_of","joined","behind_block","back_to","solve_backward","facts_before","looked_at","written_at","dropped_at","turned_at","NOTHING","used_locals","is_return","dropped_locals","set_locals","Liveness","live_points","_law_pool","_law_take","_law_one","_law_INT","_law_place","_law_operand","_law_statement","_law_end","_law_body","_law_within","_law_read","_law_uses","_law_drops","_law_sets","_law_lines","_law_behind","_law_live"].map Str.ofString
noncomputable def qv : Program:=view pw [45]
theorem pn (w : World) : ((boot_heap w.params).isNs mainGlobals && (Array.mk [] : Array GenState).size == 0,(boot_heap w.params).objs.size,(boot_heap w.params).nsMap mainGlobals "__annotations__") = (true,11,ann0):=by kernel_rfl!
theorem open_e : opening pw = plainProg pw.main.scope.names:=by kernel_rfl!
theorem rD (s : Shared) : fenceModules? pw s = some s:=by kernel_rfl!
theorem to (w : World) (os : OsState) : (staticsOk (importedModules pw.main.body) (boot_heap w.params) (Hf w.params) && namesBound pw (Hf w.params) && gensDone ⟨Hf w.params,Array.mk [],{},703,os⟩ && laidKept (boot_heap w.params) (Hf w.params)) = true:=by kernel_rfl!
theorem tn (w : World) (os : OsState) : openSeen qv looseN (importedModules pw.main.body) (fun uw=>true) true ⟨Hf w.params,Array.mk [],{},703,os⟩ = openGood qv looseN:=by kernel_rfl!
theorem left : LeftO pw qv looseN (fun uw=>true) (fun s=>s.heap) (fun w=>Hf w.params) 4000 :=
 LeftO.of_pieces (boot_open open_e (by decide) rD) pn qW (by decide) fun w=>funext fun os=>by
  rw [to w os,tn w os]
end
end Mine
end
section
set_option bootstrap.genMatcherCode false
open PySem
namespace Mine
noncomputable def cdL : List Nat -> Nat
 | []=>0
 | c :: r=>if c < 255 then 1 + c + 256 * cdL r else 256 * (2 ^ c * (2 * cdL r + 1))
theorem pow_inj : ∀ {a b m n : Nat},2 ^ a * (2 * m + 1) = 2 ^ b * (2 * n + 1) -> a = b /\ m = n
 | 0,0,_,_,h=>⟨rfl,by lia⟩
 | 0,b + 1,_,_,h=>by rw [Nat.pow_succ,Nat.mul_comm _ 2,Nat.mul_assoc] at h; lia
 | a + 1,0,_,_,h=>by rw [Nat.pow_succ,Nat.mul_comm _ 2,Nat.mul_assoc] at h; lia
 | a + 1,b + 1,m,n,h=>by
  rw [Nat.pow_succ,Nat.mul_comm _ 2,Nat.mul_assoc,Nat.pow_succ,Nat.mul_comm (2 ^ b) 2,Nat.mul_assoc] at h
  have:=pow_inj (a:=a) (b:=b) (m:=m) (n:=n) (by lia)
  exact ⟨by lia,this.2⟩
theorem mH (a m : Nat) : 2 ^ a * (2 * m + 1) ≠ 0:=Nat.mul_ne_zero (Nat.pos_iff_ne_zero.mp (Nat.two_pow_pos a)) (by lia)
theorem cdL_inj : ∀ {l r : List Nat},cdL l = cdL r -> l = r
 | [],[],_=>rfl
 | [],c :: r,h=>by
  unfold cdL at h
  have:=mH c (cdL r)
  split at h <;> lia
 | c :: l,[],h=>by
  unfold cdL at h
  have:=mH c (cdL l)
  split at h <;> lia
 | a :: l,b :: r,h=>by
  unfold cdL at h
  split at h <;> split at h
  ·have:=cdL_inj (l:=l) (r:=r) (by lia)
   rw [this,show a = b by lia]
  ·lia
  ·lia
  ·obtain ⟨e,e2⟩:=pow_inj (a:=a) (b:=b) (m:=cdL l) (n:=cdL r) (by lia)
   rw [e,cdL_inj e2]
noncomputable def tabN : List Nat:=[2053468259,465541557603,112581619904628,504380420209,435661729895,1735222900,521408966506,1718577773,128008890379619,545146639311817734841973,1970303348,549960808294275031922036,1702064248,1701671029,500185719399,499934784109,469802184813,8020600,111529134485858,112658827343731,1835167848,439770836337,28551441281347952,122494253298786,1902540148,1969710701,6647654,1718838889,31356377082000248,7696234,3355754,1835885156,495639426416,1717920366,1869246571,108,2054120046,500186509684,115880187558004,1903194981,129138500596834,2166296281396187133300,435442575714,1952871542,500119401317,129129977701492,1718510191,2166300787185895895906,128013151006829,111529134750054,439922816629,504380420977,6776435,1719102061,1700947557,1835886180,6842979,7434357,6714486,134635991296611,526256386082717435982705,504464633956,111490580377709,122541699327603,2148281306746555102326,8171347716604327030,549960014527118290482021,2091865015450892006245,127991894665589,30050,500051374184,122618320220934706796195949,525637743458,6713200,129082699506293,7434353,28838499397628007,8174160202924519527,435510930030,478761087845,435627125351,1936351857,7893107,1718513780,111490731303544,495640207981,1886744680,440073544311,7958627,28541588374710628,525921841014,1970561636,7693666,36344401762247694545480608357,2054254692,44,111490696898932,28519,103,28783,1869837941,111,113,98,115,104]
noncomputable def at0 (n : Nat) : List Nat -> Nat -> Nat
 | [],k=>k + n
 | a :: r,k=>if Nat.beq a n then k else at0 n r (k + 1)
theorem kF {m n : Nat} : ∀ {l : List Nat} {k : Nat},at0 m l k = at0 n l k -> m = n
 | [],k,h=>by unfold at0 at h; lia
 | a :: r,k,h=>by
  have ge : ∀ (q : Nat) (l : List Nat) (k : Nat),k ≤ at0 q l k:=fun q l=>by
   induction l with
   | nil=>exact fun k=>Nat.le_add_right _ _
   | cons b l ih =>
    intro k
    unfold at0
    split
    ·exact Nat.le_refl _
    ·exact Nat.le_of_succ_le (ih _)
  unfold at0 at h
  split at h <;> split at h
  ·rename_i x y; rw [<- Nat.eq_of_beq_eq_true x,<- Nat.eq_of_beq_eq_true y]
  ·have:=ge n r (k + 1); lia
  ·have:=ge m r (k + 1); lia
  ·exact kF h
noncomputable def cd (s : Str) : Nat:=at0 (cdL s.cps.toList) tabN 0
theorem b0 {s t : Str} (h : cd s = cd t) : s = t:=by
 obtain ⟨⟨l⟩⟩:=s
 obtain ⟨⟨r⟩⟩:=t
 rw [show l = r from cdL_inj (kF h)]
theorem tI {s t : Str} : (cd s = cd t) = (s = t):=propext ⟨b0,congrArg cd⟩
end Mine
end
section
set_option bootstrap.genMatcherCode false
set_option genSizeOf false
open PySem
namespace Mine
theorem nn {α : Type} {a : α} {G : Prop} (h : none = some a) : G:=nomatch h
theorem tf {G : Prop} (h : false = true) : G:=nomatch h
inductive Blt where
 | len | range | list | dict | set | frozenset | sorted | enumerate | max | int
 deriving DecidableEq
inductive AV where
 | none
 | bool (b : Bool)
 | int (i : Int)
 | str (s : Nat)
 | tup (xs : List AV)
 | fset (xs : List Int)
 | pset (xs : List Int)
 | ints (xs : List Int)
 | rng (a b c : Int)
 | ref (a : Nat)
 | fn (k : Nat)
 | cls (k : Nat)
 | blt (b : Blt)
 | meth (self : AV) (k : Nat)
inductive AO where
 | list (xs : List AV)
 | dict (es : List (AV × AV)) (ep : Nat)
 | inst (c : Nat) (d : Nat)
 | attrs (as : List (Nat × AV))
inductive Bop where | add | sub | mul | fdiv | mod | pow | bor
 deriving DecidableEq
inductive Cop where | eq | ne | lt | gt | ge | isIn | notIn | is | isNot
 deriving DecidableEq
inductive X where
 | lit (c : AV)
 | loc (x : Nat)
 | glo (g : AV)
 | nothing
 | tup (es : List X)
 | lst (es : List X)
 | attr (e : X) (a : Nat)
 | sub (e i : X)
 | slc (e lo hi : X)
 | bin (op : Bop) (a b : X)
 | neg (a : X)
 | cmp (op : Cop) (a b : X)
 | and (es : List X)
 | ite (t a b : X)
 | call (f : X) (es : List X)
 | mcall (o : X) (a : Nat) (es : List X)
 | comp (elt : X) (ts : List Nat) (it : X) (cs : List X)
 | edict
 | dget (ks : List Nat) (vs : List X) (k d : X)
inductive XS where
 | asg (x : Nat) (e : X)
 | asgN (xs : List Nat) (e : X)
 | setA (o : X) (a : Nat) (e : X)
 | setI (o i e : X)
 | expr (e : X)
 | ret (e : X)
 | ifs (t : X) (a b : List XS)
 | for1 (x : Nat) (it : X) (b : List XS)
 | forE (x y : Nat) (it : X) (b : List XS)
 | whl (t : X) (b : List XS)
structure Fun where
 params : List Nat
 dflts : List AV:=[]
 body : List XS
noncomputable abbrev Hp:=List AO
noncomputable abbrev Env:=List (Nat × AV)
noncomputable def setVar (x : Nat) (v : AV) : Env -> Env
 | []=>[(x,v)]
 | (y,w) :: r=>if y = x then (x,v) :: r else (y,w) :: setVar x v r
noncomputable def setVars : List Nat -> List AV -> Env -> Env
 | x :: xs,v :: vs,ρ=>setVars xs vs (setVar x v ρ)
 | _,_,ρ=>ρ
noncomputable def getVar (x : Nat) : Env -> Option AV
 | []=>Option.none
 | (y,w) :: r=>if y = x then some w else getVar x r
noncomputable abbrev top : Nat:=4000
noncomputable def rngOk (a b c : Int) : Bool:=decide (a.natAbs ≤ top) && decide (b.natAbs ≤ top) && (decide (c = 1) || decide (c = -1))
noncomputable def shortI (i : Int) : Bool:=decide (i.natAbs < 2 ^ 62)
noncomputable def gI : AV -> Option Int | .int i=>some i | _=>Option.none
noncomputable def gR : AV -> Option Nat | .ref p=>some p | _=>Option.none
noncomputable def gT : AV -> Option (List AV) | .tup xs=>some xs | _=>Option.none
noncomputable def gF : AV -> Option (List Int) | .fset xs=>some xs | _=>Option.none
noncomputable def gP : AV -> Option (List Int) | .pset xs=>some xs | _=>Option.none
noncomputable def gN : AV -> Option (List Int) | .ints xs=>some xs | _=>Option.none
noncomputable def gS : AV -> Option Nat | .str s=>some s | _=>Option.none
noncomputable def gB : AV -> Option Bool | .bool b=>some b | _=>Option.none
noncomputable def allO {α β : Type} (f : α -> Option β) : List α -> Option (List β)
 | []=>some []
 | x :: r=>(f x).bind fun y=>(allO f r).map (y :: ·)
noncomputable def asInts : List AV -> Option (List Int):=allO gI
noncomputable def lstAt (σ : Hp) (p : Nat) : Option (List AV):=match σ[p]? with | some (.list xs)=>some xs | _=>Option.none
noncomputable def dctAt (σ : Hp) (p : Nat) : Option (List (AV × AV)):=match σ[p]? with | some (.dict es _)=>some es | _=>Option.none
noncomputable def gL (σ : Hp) (v : AV) : Option (List AV):=(gR v).bind (lstAt σ)
noncomputable def one {α : Type} : List α -> Option α
 | []=>Option.none
 | a :: r=>if r.isEmpty then some a else Option.none
inductive Ky where
 | int (i : Int)
 | str (s : Nat)
 | tup (xs : List Int)
 deriving DecidableEq
noncomputable def kyA : AV -> Option Ky
 | .int i=>some (.int i)
 | .str s=>some (.str s)
 | .tup xs=>(asInts xs).map .tup
 | _=>Option.none
noncomputable def kdK : Ky -> Nat
 | .int _=>0
 | .str _=>1
 | .tup _=>2
noncomputable def keyOf (v : AV) : Option (List Int):=(gT v).bind asInts
noncomputable def allKeys : List AV -> Option (List (List Int)):=allO keyOf
noncomputable def rowsOf (σ : Hp) : List AV -> Option (List (List (List Int))):=allO fun x=>(gL σ x).bind allKeys
noncomputable def eqT (xs ys : List AV) : Option Bool:=if ys.isEmpty then some xs.isEmpty else Option.none
noncomputable def eqL (σ : Hp) (xs ys : List AV) : Option Bool:=if xs.length = ys.length then (rowsOf σ xs).bind fun k=>(rowsOf σ ys).map fun l=>decide (k = l) else some false
noncomputable def eqA (σ : Hp) (a b : AV) : Option Bool:=match a with
 | .int i=>(gI b).map fun j=>decide (i = j)
 | .str s=>(gS b).map fun t=>decide (s = t)
 | .tup xs=>(gT b).bind fun ys=>eqT xs ys
 | .ref p=>(lstAt σ p).bind fun xs=>(gL σ b).bind fun ys=>eqL σ xs ys
 | _=>Option.none
noncomputable def eqF (a b : AV) : Option Bool:=(gF a).bind fun s=>(gF b).map fun t=>decide (s = t)
noncomputable def memA (x : AV) (ys : List AV) : Option Bool:=(kyA x).bind fun k=>(allO kyA ys).bind fun js=>if js.all fun j=>kdK j == kdK k then some (js.contains k) else Option.none
noncomputable def dGet (k : List Int) : List (AV × AV) -> Option AV
 | []=>Option.none
 | (y,w) :: r=>if keyOf y = some k then some w else dGet k r
noncomputable def dHas (k : List Int) (es : List (AV × AV)) : Bool:=es.any fun e=>keyOf e.1 = some k
noncomputable def dPut (key : AV) (k : List Int) (v : AV) : List (AV × AV) -> List (AV × AV)
 | []=>[(key,v)]
 | (y,w) :: r=>if keyOf y = some k then (y,v) :: r else (y,w) :: dPut key k v r
noncomputable def insI (x : Int) : List Int -> List Int
 | []=>[x]
 | y :: r=>if x < y then x :: y :: r else if x = y then y :: r else y :: insI x r
noncomputable def sortI (xs : List Int) : List Int:=xs.foldr insI []
noncomputable def ltL : List Int -> List Int -> Bool
 | _,[]=>false
 | [],_ :: _=>true
 | x :: xs,y :: ys=>if x = y then ltL xs ys else decide (x < y)
noncomputable def insK (x : List Int) : List (List Int) -> List (List Int)
 | []=>[x]
 | y :: r=>if ltL y x then y :: insK x r else x :: y :: r
noncomputable def sortK (xs : List (List Int)) : List (List Int):=xs.foldr insK []
noncomputable def smallI (xs : List Int) : Bool:=xs.all fun i=>decide (0 ≤ i) && decide (i ≤ 6)
noncomputable def allInts (xs : List AV) : Option (List Int):=(asInts xs).bind fun is=>if smallI is then some is else Option.none
noncomputable def pairA (v : AV) : Option (AV × AV):=(gT v).bind fun l=>match l with
 | []=>Option.none
 | k :: r=>(one r).map fun w=>(k,w)
noncomputable def nextOf (σ : Hp) (v : AV) (i : Nat) (ep : Nat) : Option (Option AV):=match v with
 | .ref a=>match σ[a]? with
  | some (.list xs)=>if ep = 0 then some xs[i]? else Option.none
  | some (.dict es e)=>if e + 1 = ep /\ es.length + 1 = ep then some (es[i]?.map (·.1)) else Option.none
  | _=>Option.none
 | .tup xs=>some xs[i]?
 | .rng a b c=>if c = 1 then some (if a + i < b then some (.int (a + i)) else Option.none)
   else if c = -1 then some (if b < a - i then some (.int (a - i)) else Option.none) else Option.none
 | _=>Option.none
noncomputable def epOf (σ : Hp) : AV -> Nat
 | .ref a=>match σ[a]? with
  | some (.dict _ e)=>e + 1
  | _=>0
 | _=>0
noncomputable def rngL (a b c : Int) : Option (List AV):=if c = 1 then some ((List.range (b - a).toNat).map fun (i : Nat)=>AV.int (a + (i : Int))) else Option.none
noncomputable def itemsOf (σ : Hp) (v : AV) : Option (List AV):=match v with
 | .ref p=>lstAt σ p
 | .tup xs=>some xs
 | .rng a b c=>rngL a b c
 | _=>Option.none
noncomputable def mkList (σ : Hp) (xs : List AV) : Option (AV × Hp):=if xs.length ≤ top then some (.ref σ.length,σ ++ [.list xs]) else Option.none
noncomputable def putList (σ : Hp) (p : Nat) (xs : List AV) : Option Hp:=if xs.length ≤ top then some (σ.set p (.list xs)) else Option.none
noncomputable def lenA (σ : Hp) (v : AV) : Option Nat:=match v with
 | .ref p=>(lstAt σ p).map List.length
 | .ints xs=>some xs.length
 | _=>Option.none
noncomputable def rngA (a b c : Int) (σ : Hp) : Option (AV × Hp):=if rngOk a b c then some (.rng a b c,σ) else Option.none
noncomputable def rngArgs (as : List AV) : Option (Int × Int × Int):=match as with
 | []=>Option.none
 | a :: r=>match r with
  | []=>(gI a).map fun n=>(0,n,1)
  | b :: r=>(gI a).bind fun i=>(gI b).bind fun j=>(one r).bind fun c=>(gI c).map fun k=>(i,j,k)
noncomputable def dictA (σ : Hp) (ps : List (AV × AV)) : Option (AV × Hp):=(allKeys (ps.map Prod.fst)).bind fun ks=>if ks.Nodup /\ ps.length ≤ top then some (.ref σ.length,σ ++ [.dict ps ps.length]) else Option.none
noncomputable def sortA (σ : Hp) (xs : List AV) : Option (AV × Hp):=(allKeys xs).bind fun ks=>if 64 ≤ ks.length || ks.any List.isEmpty then Option.none else mkList σ ((sortK ks).map fun k=>.tup (k.map .int))
noncomputable def sortedA (σ : Hp) (v : AV) : Option (AV × Hp):=match v with
 | .fset xs=>mkList σ (xs.map .int)
 | .pset xs=>mkList σ (xs.map .int)
 | .ref p=>(lstAt σ p).bind (sortA σ)
 | _=>Option.none
noncomputable def maxA (as : List AV) : Option Int:=match as with
 | []=>Option.none
 | a :: r=>(gI a).bind fun i=>(one r).bind fun b=>(gI b).map fun j=>if i < j then j else i
noncomputable def intA (v : AV) : Option Int:=match v with
 | .int i=>some i
 | .bool b=>some (if b then 1 else 0)
 | _=>Option.none
noncomputable def bltCall (b : Blt) (as : List AV) (σ : Hp) : Option (AV × Hp):=match b with
 | .len=>(one as).bind fun a=>(lenA σ a).map fun (n : Nat)=>(.int n,σ)
 | .range=>(rngArgs as).bind fun r=>rngA r.1 r.2.1 r.2.2 σ
 | .list=>(one as).bind fun a=>(itemsOf σ a).bind (mkList σ)
 | .dict=>(one as).bind fun a=>(gL σ a).bind fun xs=>(allO pairA xs).bind (dictA σ)
 | .set=>(one as).bind fun a=>(gL σ a).bind fun xs=>(allInts xs).map fun is=>(.pset (sortI is),σ)
 | .frozenset=>(one as).bind fun a=>(gL σ a).bind fun xs=>(allInts xs).map fun is=>(.fset (sortI is),σ)
 | .sorted=>(one as).bind (sortedA σ)
 | .max=>(maxA as).map fun i=>(.int i,σ)
 | .int=>(one as).bind fun a=>(intA a).map fun i=>(.int i,σ)
 | .enumerate=>Option.none
noncomputable def binI (op : Bop) (i j : Int) : Option Int:=match op with
 | .add=>some (i + j)
 | .sub=>some (i - j)
 | .mul=>if shortI i || shortI j then some (i * j) else Option.none
 | .fdiv=>if j = 0 \/ 2 ^ 30 ≤ j.natAbs then Option.none else some (Int.fdiv i j)
 | .mod=>if j = 0 then Option.none else some (Int.fmod i j)
 | .pow=>if i = 10 /\ j = 18 then some (10 ^ 18) else Option.none
 | .bor=>Option.none
noncomputable def binL (op : Bop) (xs : List AV) (b : AV) (σ : Hp) : Option (AV × Hp):=match op with
 | .add=>(gL σ b).bind fun ys=>mkList σ (xs ++ ys)
 | .mul=>(one xs).bind fun v=>(gI b).bind fun k=>if 0 ≤ k then mkList σ (List.replicate k.toNat v) else Option.none
 | _=>Option.none
noncomputable def binF (op : Bop) (s t : List Int) : Option (List Int):=match op with
 | .bor=>some (sortI (s ++ t))
 | .sub=>some (s.filter fun x=>!t.contains x)
 | _=>Option.none
noncomputable def binA (op : Bop) (a b : AV) (σ : Hp) : Option (AV × Hp):=match a with
 | .int i=>(gI b).bind fun j=>(binI op i j).map fun k=>(.int k,σ)
 | .ref p=>(lstAt σ p).bind fun xs=>binL op xs b σ
 | .fset s=>(gF b).bind fun t=>(binF op s t).map fun r=>(.fset r,σ)
 | _=>Option.none
noncomputable def isNoneA : AV -> Bool
 | .none=>true
 | _=>false
noncomputable def ordA (f : Int -> Int -> Bool) (a b : AV) : Option Bool:=(gI a).bind fun i=>(gI b).map fun j=>f i j
noncomputable def inA (σ : Hp) (a b : AV) : Option Bool:=match b with
 | .tup ys=>memA a ys
 | .ref q=>(lstAt σ q).bind (memA a)
 | _=>Option.none
noncomputable def cmpA (op : Cop) (a b : AV) (σ : Hp) : Option Bool:=match op with
 | .eq=>eqA σ a b
 | .ne=>((eqA σ a b).or (eqF a b)).map (!·)
 | .lt=>ordA (fun i j=>decide (i < j)) a b
 | .gt=>ordA (fun i j=>decide (j < i)) a b
 | .ge=>ordA (fun i j=>decide (j ≤ i)) a b
 | .isIn=>inA σ a b
 | .notIn=>(inA σ a b).map (!·)
 | .is=>if isNoneA b then some (isNoneA a) else Option.none
 | .isNot=>if isNoneA b then some (!isNoneA a) else Option.none
noncomputable def nth {α : Type} (xs : List α) (k : Int) : Option α:=if 0 ≤ k then xs[k.toNat]? else Option.none
noncomputable def subA (a i : AV) (σ : Hp) : Option AV:=match a with
 | .tup xs=>(gI i).bind (nth xs)
 | .ints xs=>(gI i).bind fun k=>(nth xs k).map .int
 | .ref p=>((lstAt σ p).bind fun xs=>(gI i).bind (nth xs)).or ((dctAt σ p).bind fun es=>(keyOf i).bind fun k=>dGet k es)
 | _=>Option.none
noncomputable def slcA (a : AV) (lo hi : AV) : Option AV:=(gT a).bind fun xs=>(gI lo).bind fun i=>(gI hi).bind fun j =>
 if 1 ≤ i /\ i ≤ j /\ 0 < xs.length then some (.tup ((xs.drop i.toNat).take (j - i).toNat)) else Option.none
noncomputable def insAt (σ : Hp) (p : Nat) : Option (Nat × Nat):=match σ[p]? with | some (.inst c e)=>some (c,e) | _=>Option.none
noncomputable def atrAt (σ : Hp) (p : Nat) : Option (List (Nat × AV)):=match σ[p]? with | some (.attrs l)=>some l | _=>Option.none
noncomputable def isLm (a : Nat) : Bool:=Nat.beq a 18 || Nat.beq a 49 || Nat.beq a 75
noncomputable def join2 {α : Type} (o : Option (Option α)) : Option α:=o.bind id
noncomputable def lookA (mt : Nat -> Nat -> Option (Option Nat)) (p : Nat) (a : Nat) (σ : Hp) : Option (AV ⊕ Nat):=(insAt σ p).bind fun ce=>(atrAt σ ce.2).bind fun l=>match getVar a l with
 | some w=>(mt ce.1 a).bind fun m=>if m.isNone then some (.inl w) else Option.none
 | Option.none=>((mt ce.1 a).bind id).map .inr
noncomputable def isMeth : AV ⊕ Nat -> Option Nat
 | .inr k=>some k
 | .inl _=>Option.none
noncomputable def calleeM (mt : Nat -> Nat -> Option (Option Nat)) (v : AV) (a : Nat) (σ : Hp) : Option (Option Nat):=(gR v).bind fun p =>
 ((lstAt σ p).bind fun uw=>if isLm a then some Option.none else Option.none).or (((lookA mt p a σ).bind isMeth).map some)
noncomputable def attrOf (v : AV) : AV ⊕ Nat -> AV
 | .inl w=>w
 | .inr k=>.meth v k
noncomputable def attrA (mt : Nat -> Nat -> Option (Option Nat)) (v : AV) (a : Nat) (σ : Hp) : Option AV:=(gR v).bind fun p=>(lookA mt p a σ).map (attrOf v)
inductive Fl where
 | next
 | ret (v : AV)
structure Prg where
 fn : Nat -> Option Fun
 mt : Nat -> Nat -> Option (Option Nat)
 init : Nat -> Option Nat
noncomputable def bindA : List Nat -> List AV -> List AV -> Option Env
 | [],[],_=>some []
 | [],_ :: _,_=>Option.none
 | x :: xs,v :: vs,ds=>(bindA xs vs ds).map ((x,v) :: ·)
 | x :: xs,[],ds=>match ds[ds.length - (x :: xs).length]? with
  | some v=>if (x :: xs).length ≤ ds.length then (bindA xs [] ds).map ((x,v) :: ·) else Option.none
  | Option.none=>Option.none
noncomputable def mcallL (σ : Hp) (p : Nat) (xs : List AV) (a : Nat) (vs : List AV) : Option (AV × Hp) :=
 if Nat.beq a 18 then (one vs).bind fun v=>(putList σ p (xs ++ [v])).map (.none,·)
 else if Nat.beq a 49 then (one vs).bind fun v=>(gL σ v).bind fun ys=>(putList σ p (xs ++ ys)).map (.none,·)
 else if Nat.beq a 75 && vs.isEmpty then xs.getLast?.bind fun v=>(putList σ p xs.dropLast).map (v,·)
 else Option.none
noncomputable def bind2 (t u : Nat) (v : AV) : Option Env:=(pairA v).map fun p=>[(t,p.1),(u,p.2)]
noncomputable def bindT (ts : List Nat) (x : AV) : Option Env:=match ts with
 | []=>Option.none
 | t :: r=>match r with
  | []=>some [(t,x)]
  | u :: q=>if q.isEmpty then bind2 t u x else Option.none
noncomputable def goodKeys (ks : List Nat) (n : Nat) : Bool:=decide ks.Nodup && decide (ks.length ≤ 15) && !ks.isEmpty && decide (ks.length = n)
end Mine
end
section
set_option bootstrap.genMatcherCode false
open PySem
namespace Mine
noncomputable abbrev sN (x : String) : Str:=Str.ofString x
noncomputable def f140 : Fun:=⟨[5,46,47,71,8,37],[.none],[
  (.setA (.loc 5) 46 (.loc 46)),
  (.setA (.loc 5) 47 (.loc 47)),
  (.setA (.loc 5) 48 (.call (.glo (.blt .list)) [(.loc 71)])),
  (.setA (.loc 5) 8 (.ite (.cmp .is (.loc 8) (.lit .none)) (.lst []) (.loc 8))),
  (.setA (.loc 5) 37 (.ite (.cmp .is (.loc 37) (.lit .none)) .edict (.loc 37)))]⟩
noncomputable def f143 : Fun:=⟨[5,1],[],[
  (.ret (.sub (.sub (.attr (.loc 5) 8) (.loc 1)) (.lit (.int 0))))]⟩
noncomputable def f144 : Fun:=⟨[5,1],[],[
  (.ret (.sub (.sub (.attr (.loc 5) 8) (.loc 1)) (.lit (.int 1))))]⟩
noncomputable def f3 : Fun:=⟨[0],[],[
  (.asg 4 (.lst [])),
  (.for1 1 (.call (.glo (.blt .range)) [(.call (.glo (.blt .len)) [(.attr (.loc 0) 8)])]) [(.expr (.mcall (.loc 4) 49 [(.comp (.tup [(.loc 1),(.loc 6)]) [6] (.call (.glo (.blt .range)) [(.bin .add (.call (.glo (.blt .len)) [(.mcall (.loc 0) 11 [(.loc 1)])]) (.lit (.int 1)))]) [])]))]),
  (.ret (.loc 4))]⟩
noncomputable def f4 : Fun:=⟨[9],[],[
  (.asg 12 (.sub (.loc 9) (.lit (.int 0)))),
  (.ifs (.cmp .eq (.loc 12) (.lit (.str 86))) [(.asg 13 (.lst [(.sub (.loc 9) (.lit (.int 1)))]))] [(.ifs (.cmp .eq (.loc 12) (.lit (.str 38))) [(.asg 13 (.bin .add (.comp (.loc 1) [87,1] (.sub (.loc 9) (.lit (.int 2))) []) (.lst [(.sub (.loc 9) (.lit (.int 3)))])))] [(.ifs (.cmp .eq (.loc 12) (.lit (.str 31))) [(.asg 13 (.lst [(.sub (.loc 9) (.lit (.int 4)))]))] [(.ifs (.cmp .eq (.loc 12) (.lit (.str 39))) [(.asg 13 (.lst [(.sub (.loc 9) (.lit (.int 2)))]))] [(.ifs (.cmp .eq (.loc 12) (.lit (.str 40))) [(.asg 13 (.lst [(.sub (.loc 9) (.lit (.int 4)))]))] [(.asg 13 (.lst []))])])])])]),
  (.asg 4 (.lst [])),
  (.for1 1 (.loc 13) [(.ifs (.and [(.cmp .isNot (.loc 1) (.lit .none)),(.cmp .notIn (.loc 1) (.loc 4))]) [(.expr (.mcall (.loc 4) 18 [(.loc 1)]))] [])]),
  (.ret (.loc 4))]⟩
noncomputable def f5 : Fun:=⟨[0],[],[
  (.asg 4 (.comp (.lst []) [1] (.attr (.loc 0) 8) [])),
  (.for1 1 (.call (.glo (.blt .range)) [(.call (.glo (.blt .len)) [(.attr (.loc 0) 8)])]) [(.for1 20 (.call (.glo (.fn 4)) [(.mcall (.loc 0) 9 [(.loc 1)])]) [(.expr (.mcall (.sub (.loc 4) (.loc 20)) 18 [(.loc 1)]))])]),
  (.ret (.loc 4))]⟩
noncomputable def f6 : Fun:=⟨[19],[],[
  (.asg 12 (.sub (.loc 19) (.lit (.int 0)))),
  (.ifs (.cmp .isIn (.loc 12) (.tup [(.lit (.str 58)),(.lit (.str 88))])) [(.ret (.lst [(.sub (.loc 19) (.lit (.int 1)))]))] []),
  (.ifs (.cmp .isIn (.loc 12) (.tup [(.lit (.str 59)),(.lit (.str 89))])) [(.ret (.lst [(.sub (.loc 19) (.lit (.int 2))),(.sub (.loc 19) (.lit (.int 3)))]))] []),
  (.ifs (.cmp .eq (.loc 12) (.lit (.str 90))) [(.ret (.lst [(.sub (.loc 19) (.lit (.int 2)))]))] []),
  (.ifs (.cmp .eq (.loc 12) (.lit (.str 91))) [(.ret (.lst [(.sub (.loc 19) (.lit (.int 1)))]))] []),
  (.ifs (.cmp .isIn (.loc 12) (.tup [(.lit (.str 50)),(.lit (.str 72))])) [(.ret (.call (.glo (.blt .list)) [(.sub (.loc 19) (.lit (.int 1)))]))] []),
  (.ret (.ite (.cmp .eq (.loc 12) (.lit (.str 92))) (.call (.glo (.blt .list)) [(.sub (.loc 19) (.lit (.int 3)))]) (.lst [])))]⟩
noncomputable def f7 : Fun:=⟨[0,3],[],[
  (.asgN [1,6] (.loc 3)),
  (.ifs (.cmp .lt (.loc 6) (.call (.glo (.blt .len)) [(.mcall (.loc 0) 11 [(.loc 1)])])) [(.asg 41 (.sub (.mcall (.loc 0) 11 [(.loc 1)]) (.loc 6))),(.ifs (.cmp .eq (.sub (.loc 41) (.lit (.int 0))) (.lit (.str 23))) [(.ret (.call (.glo (.fn 6)) [(.sub (.loc 41) (.lit (.int 2)))]))] []),(.ret (.ite (.cmp .eq (.sub (.loc 41) (.lit (.int 0))) (.lit (.str 51))) (.lst [(.sub (.loc 41) (.lit (.int 1)))]) (.lst [])))] []),
  (.asg 9 (.mcall (.loc 0) 9 [(.loc 1)])),
  (.ifs (.cmp .eq (.sub (.loc 9) (.lit (.int 0))) (.lit (.str 31))) [(.ret (.call (.glo (.blt .list)) [(.sub (.loc 9) (.lit (.int 2)))]))] []),
  (.ret (.ite (.cmp .isIn (.sub (.loc 9) (.lit (.int 0))) (.tup [(.lit (.str 38)),(.lit (.str 40))])) (.lst [(.sub (.loc 9) (.lit (.int 1)))]) (.lst [])))]⟩
noncomputable def f8 : Fun:=⟨[21],[],[
  (.ret (.comp (.sub (.loc 60) (.lit (.int 1))) [60] (.sub (.loc 21) (.lit (.int 1))) [(.cmp .eq (.sub (.loc 60) (.lit (.int 0))) (.lit (.str 6)))]))]⟩
noncomputable def f10 : Fun:=⟨[73,32],[],[
  (.ret (.bin .bor (.loc 73) (.loc 32)))]⟩
noncomputable def f11 : Fun:=⟨[0,14,1,26,34],[],[
  (.asg 27 (.loc 26)),
  (.for1 74 (.call (.glo (.fn 4)) [(.sub (.sub (.attr (.loc 0) 8) (.loc 1)) (.lit (.int 1)))]) [(.asg 27 (.call (.loc 34) [(.loc 27),(.sub (.loc 14) (.loc 74))]))]),
  (.ret (.loc 27))]⟩
noncomputable def f12 : Fun:=⟨[0,14,1,6,24],[],[
  (.for1 21 (.call (.glo (.blt .range)) [(.call (.glo (.blt .len)) [(.sub (.sub (.attr (.loc 0) 8) (.loc 1)) (.lit (.int 0)))]),(.bin .sub (.loc 6) (.lit (.int 1))),(.neg (.lit (.int 1)))]) [(.asg 14 (.call (.loc 24) [(.loc 14),(.loc 1),(.loc 21)]))]),
  (.ret (.loc 14))]⟩
noncomputable def f13 : Fun:=⟨[0,26,24,34],[],[
  (.asg 14 (.bin .mul (.lst [(.loc 26)]) (.call (.glo (.blt .len)) [(.attr (.loc 0) 8)]))),
  (.asg 42 (.call (.glo (.fn 5)) [(.loc 0)])),
  (.asg 25 (.call (.glo (.blt .list)) [(.call (.glo (.blt .range)) [(.call (.glo (.blt .len)) [(.attr (.loc 0) 8)])])])),
  (.whl (.cmp .ne (.loc 25) (.lst [])) [(.asg 1 (.mcall (.loc 25) 75 [])),(.asg 27 (.call (.glo (.fn 12)) [(.loc 0),(.call (.glo (.fn 11)) [(.loc 0),(.loc 14),(.loc 1),(.loc 26),(.loc 34)]),(.loc 1),(.lit (.int 0)),(.loc 24)])),(.ifs (.cmp .ne (.loc 27) (.sub (.loc 14) (.loc 1))) [(.setI (.loc 14) (.loc 1) (.loc 27)),(.for1 32 (.sub (.loc 42) (.loc 1)) [(.ifs (.cmp .notIn (.loc 32) (.loc 25)) [(.expr (.mcall (.loc 25) 18 [(.loc 32)]))] [])])] [])]),
  (.ret (.loc 14))]⟩
noncomputable def f14 : Fun:=⟨[0,14,3,26,24,34],[],[
  (.asgN [1,6] (.loc 3)),
  (.ret (.call (.glo (.fn 12)) [(.loc 0),(.call (.glo (.fn 11)) [(.loc 0),(.loc 14),(.loc 1),(.loc 26),(.loc 34)]),(.loc 1),(.loc 6),(.loc 24)]))]⟩
noncomputable def f15 : Fun:=⟨[0,3],[],[
  (.asgN [1,6] (.loc 3)),
  (.asg 11 (.sub (.sub (.attr (.loc 0) 8) (.loc 1)) (.lit (.int 0)))),
  (.ifs (.and [(.cmp .lt (.loc 6) (.call (.glo (.blt .len)) [(.loc 11)])),(.cmp .eq (.sub (.sub (.loc 11) (.loc 6)) (.lit (.int 0))) (.lit (.str 23)))]) [(.asg 19 (.sub (.sub (.loc 11) (.loc 6)) (.lit (.int 2)))),(.ifs (.cmp .eq (.sub (.loc 19) (.lit (.int 0))) (.lit (.str 52))) [(.ret (.sub (.loc 19) (.lit (.int 3))))] []),(.ifs (.cmp .eq (.sub (.loc 19) (.lit (.int 0))) (.lit (.str 93))) [(.ret (.sub (.loc 19) (.lit (.int 1))))] [])] []),
  (.ret (.lit .none))]⟩
noncomputable def f16 : Fun:=⟨[0,3],[],[
  (.asgN [1,6] (.loc 3)),
  (.asgN [11,9] (.sub (.attr (.loc 0) 8) (.loc 1))),
  (.ifs (.cmp .lt (.loc 6) (.call (.glo (.blt .len)) [(.loc 11)])) [(.ret (.ite (.cmp .eq (.sub (.sub (.loc 11) (.loc 6)) (.lit (.int 0))) (.lit (.str 23))) (.sub (.sub (.loc 11) (.loc 6)) (.lit (.int 1))) (.lit .none)))] []),
  (.ret (.ite (.cmp .eq (.sub (.loc 9) (.lit (.int 0))) (.lit (.str 31))) (.sub (.loc 9) (.lit (.int 3))) (.lit .none)))]⟩
noncomputable def f17 : Fun:=⟨[0,3],[],[
  (.asgN [1,6] (.loc 3)),
  (.asgN [11,9] (.sub (.attr (.loc 0) 8) (.loc 1))),
  (.ret (.ite (.and [(.cmp .eq (.loc 6) (.call (.glo (.blt .len)) [(.loc 11)])),(.cmp .eq (.sub (.loc 9) (.lit (.int 0))) (.lit (.str 39)))]) (.sub (.loc 9) (.lit (.int 1))) (.lit .none)))]⟩
noncomputable def f18 : Fun:=⟨[0,3],[],[
  (.asgN [1,6] (.loc 3)),
  (.asg 11 (.sub (.sub (.attr (.loc 0) 8) (.loc 1)) (.lit (.int 0)))),
  (.ifs (.and [(.cmp .lt (.loc 6) (.call (.glo (.blt .len)) [(.loc 11)])),(.cmp .isIn (.sub (.sub (.loc 11) (.loc 6)) (.lit (.int 0))) (.tup [(.lit (.str 53)),(.lit (.str 54))]))]) [(.ret (.sub (.sub (.loc 11) (.loc 6)) (.lit (.int 1))))] []),
  (.ret (.lit .none))]⟩
noncomputable def f21 : Fun:=⟨[0,3],[],[
  (.asg 4 (.lst [])),
  (.for1 22 (.call (.glo (.fn 7)) [(.loc 0),(.loc 3)]) [(.ifs (.cmp .ne (.sub (.loc 22) (.lit (.int 0))) (.lit (.str 61))) [(.expr (.mcall (.loc 4) 18 [(.sub (.sub (.loc 22) (.lit (.int 1))) (.lit (.int 0)))])),(.expr (.mcall (.loc 4) 49 [(.call (.glo (.fn 8)) [(.sub (.loc 22) (.lit (.int 1)))])]))] [])]),
  (.for1 21 (.tup [(.call (.glo (.fn 15)) [(.loc 0),(.loc 3)]),(.call (.glo (.fn 17)) [(.loc 0),(.loc 3)])]) [(.ifs (.cmp .isNot (.loc 21) (.lit .none)) [(.expr (.mcall (.loc 4) 49 [(.call (.glo (.fn 8)) [(.loc 21)])]))] [])]),
  (.asgN [62,28] (.tup [(.call (.glo (.fn 15)) [(.loc 0),(.loc 3)]),(.call (.glo (.fn 16)) [(.loc 0),(.loc 3)])])),
  (.ifs (.cmp .isNot (.loc 62) (.lit .none)) [(.expr (.mcall (.loc 4) 18 [(.sub (.loc 62) (.lit (.int 0)))]))] []),
  (.ifs (.and [(.cmp .isNot (.loc 28) (.lit .none)),(.cmp .ne (.sub (.loc 28) (.lit (.int 1))) (.tup []))]) [(.expr (.mcall (.loc 4) 18 [(.sub (.loc 28) (.lit (.int 0)))])),(.expr (.mcall (.loc 4) 49 [(.call (.glo (.fn 8)) [(.loc 28)])]))] []),
  (.ifs (.call (.glo (.fn 22)) [(.loc 0),(.loc 3)]) [(.expr (.mcall (.loc 4) 18 [(.lit (.int 0))]))] []),
  (.ret (.call (.glo (.blt .sorted)) [(.call (.glo (.blt .set)) [(.loc 4)])]))]⟩
noncomputable def f22 : Fun:=⟨[0,3],[],[
  (.asgN [11,9] (.sub (.attr (.loc 0) 8) (.sub (.loc 3) (.lit (.int 0))))),
  (.ret (.and [(.cmp .eq (.sub (.loc 3) (.lit (.int 1))) (.call (.glo (.blt .len)) [(.loc 11)])),(.cmp .eq (.sub (.loc 9) (.lit (.int 0))) (.lit (.str 63)))]))]⟩
noncomputable def f23 : Fun:=⟨[0,3],[],[
  (.asg 21 (.call (.glo (.fn 17)) [(.loc 0),(.loc 3)])),
  (.ret (.ite (.cmp .is (.loc 21) (.lit .none)) (.lst []) (.lst [(.sub (.loc 21) (.lit (.int 0)))])))]⟩
noncomputable def f24 : Fun:=⟨[0,3],[],[
  (.asgN [16,28] (.tup [(.call (.glo (.fn 18)) [(.loc 0),(.loc 3)]),(.call (.glo (.fn 16)) [(.loc 0),(.loc 3)])])),
  (.asg 4 (.ite (.cmp .is (.loc 16) (.lit .none)) (.lst []) (.lst [(.loc 16)]))),
  (.ifs (.and [(.cmp .isNot (.loc 28) (.lit .none)),(.cmp .eq (.sub (.loc 28) (.lit (.int 1))) (.tup []))]) [(.expr (.mcall (.loc 4) 18 [(.sub (.loc 28) (.lit (.int 0)))]))] []),
  (.ret (.loc 4))]⟩
noncomputable def f600 : Fun:=⟨[5,0],[],[
  (.setA (.loc 5) 0 (.loc 0)),
  (.setA (.loc 5) 64 (.call (.glo (.fn 13)) [(.loc 0),.nothing,(.attr (.loc 5) 65),(.glo (.fn 10))])),
  (.setA (.loc 5) 66 (.call (.glo (.fn 13)) [(.loc 0),.nothing,(.attr (.loc 5) 67),(.glo (.fn 10))]))]⟩
noncomputable def f601 : Fun:=⟨[5,14,1,6],[],[
  (.asg 3 (.tup [(.loc 1),(.loc 6)])),
  (.ret (.bin .bor (.bin .sub (.loc 14) (.call (.glo (.blt .frozenset)) [(.call (.glo (.fn 24)) [(.attr (.loc 5) 0),(.loc 3)])])) (.call (.glo (.blt .frozenset)) [(.call (.glo (.fn 21)) [(.attr (.loc 5) 0),(.loc 3)])])))]⟩
noncomputable def f602 : Fun:=⟨[5,14,1,6],[],[
  (.asg 3 (.tup [(.loc 1),(.loc 6)])),
  (.ret (.bin .bor (.bin .sub (.loc 14) (.call (.glo (.blt .frozenset)) [(.call (.glo (.fn 24)) [(.attr (.loc 5) 0),(.loc 3)])])) (.call (.glo (.blt .frozenset)) [(.call (.glo (.fn 23)) [(.attr (.loc 5) 0),(.loc 3)])])))]⟩
noncomputable def f603 : Fun:=⟨[5,3],[],[
  (.ret (.call (.glo (.fn 14)) [(.attr (.loc 5) 0),(.attr (.loc 5) 64),(.loc 3),.nothing,(.attr (.loc 5) 65),(.glo (.fn 10))]))]⟩
noncomputable def f604 : Fun:=⟨[5,3],[],[
  (.ret (.call (.glo (.fn 14)) [(.attr (.loc 5) 0),(.attr (.loc 5) 66),(.loc 3),.nothing,(.attr (.loc 5) 67),(.glo (.fn 10))]))]⟩
noncomputable def f26 : Fun:=⟨[0],[],[
  (.asg 13 (.call (.glo (.cls 25)) [(.loc 0)])),
  (.asgN [43,44] (.tup [(.comp (.lst []) [16] (.attr (.loc 0) 48) []),(.comp (.lst []) [16] (.attr (.loc 0) 48) [])])),
  (.for1 3 (.call (.glo (.fn 3)) [(.loc 0)]) [(.for1 16 (.call (.glo (.blt .sorted)) [(.mcall (.loc 13) 76 [(.loc 3)])]) [(.expr (.mcall (.sub (.loc 43) (.loc 16)) 18 [(.loc 3)]))]),(.for1 16 (.call (.glo (.blt .sorted)) [(.mcall (.loc 13) 77 [(.loc 3)])]) [(.expr (.mcall (.sub (.loc 44) (.loc 16)) 18 [(.loc 3)]))])]),
  (.ret (.tup [(.loc 43),(.loc 44)]))]⟩
noncomputable def f28 : Fun:=⟨[45,35],[],[
  (.asg 55 (.lit (.int 0))),
  (.ifs (.cmp .lt (.loc 35) (.call (.glo (.blt .len)) [(.loc 45)])) [(.asg 55 (.sub (.loc 45) (.loc 35)))] []),
  (.asg 56 (.call (.glo (.blt .max)) [(.call (.glo (.blt .int)) [(.loc 55)]),(.call (.glo (.blt .int)) [(.bin .sub (.neg (.lit (.int 1))) (.loc 55))])])),
  (.asg 78 (.bin .mod (.call (.glo (.blt .int)) [(.bin .mul (.bin .add (.bin .add (.bin .add (.bin .mod (.call (.glo (.blt .int)) [(.loc 56)]) (.lit (.int 2147483629))) (.bin .mul (.bin .mul (.lit (.int 7919)) (.loc 35)) (.loc 35))) (.bin .mul (.lit (.int 31)) (.loc 35))) (.lit (.int 17))) (.lit (.int 48271)))]) (.lit (.int 2147483647)))),
  (.ret (.lst [(.bin .mul (.loc 56) (.call (.glo (.blt .int)) [(.cmp .ge (.loc 56) (.bin .pow (.lit (.int 10)) (.lit (.int 18))))])),(.loc 78)]))]⟩
noncomputable def f29 : Fun:=⟨[2,57],[],[
  (.ifs (.cmp .gt (.sub (.loc 2) (.lit (.int 0))) (.lit (.int 0))) [(.asg 79 (.bin .mod (.call (.glo (.blt .int)) [(.sub (.loc 2) (.lit (.int 0)))]) (.loc 57))),(.setI (.loc 2) (.lit (.int 0)) (.bin .fdiv (.sub (.loc 2) (.lit (.int 0))) (.loc 57))),(.ret (.loc 79))] []),
  (.setI (.loc 2) (.lit (.int 1)) (.bin .mod (.call (.glo (.blt .int)) [(.bin .add (.bin .mul (.sub (.loc 2) (.lit (.int 1))) (.lit (.int 39373))) (.lit (.int 7)))]) (.lit (.int 2147483647)))),
  (.ret (.bin .mod (.call (.glo (.blt .int)) [(.bin .fdiv (.bin .mod (.call (.glo (.blt .int)) [(.bin .mul (.sub (.loc 2) (.lit (.int 1))) (.sub (.loc 2) (.lit (.int 1))))]) (.lit (.int 2147483629))) (.lit (.int 32)))]) (.loc 57)))]⟩
noncomputable def f30 : Fun:=⟨[2,68],[],[
  (.ret (.sub (.loc 68) (.call (.glo (.fn 29)) [(.loc 2),(.call (.glo (.blt .len)) [(.loc 68)])])))]⟩
noncomputable def f32 : Fun:=⟨[2],[],[
  (.asg 17 (.call (.glo (.fn 29)) [(.loc 2),(.lit (.int 6))])),
  (.ifs (.cmp .lt (.loc 17) (.lit (.int 3))) [(.ret (.tup [(.bin .add (.lit (.int 1)) (.loc 17)),(.tup [])]))] []),
  (.ifs (.cmp .eq (.loc 17) (.lit (.int 3))) [(.ret (.tup [(.lit (.int 4)),(.tup [(.tup [(.lit (.str 80)),(.call (.glo (.fn 29)) [(.loc 2),(.lit (.int 2))])])])]))] []),
  (.ret (.tup [(.lit (.int 5)),(.tup [(.tup [(.lit (.str 6)),(.bin .add (.lit (.int 1)) (.call (.glo (.fn 29)) [(.loc 2),(.lit (.int 3))]))])])]))]⟩
noncomputable def f33 : Fun:=⟨[2],[],[
  (.ret (.ite (.cmp .eq (.call (.glo (.fn 29)) [(.loc 2),(.lit (.int 4))]) (.lit (.int 0))) (.tup [(.lit (.str 61)),(.glo (.tup [(.str 29),(.str 30)])),(.lit (.int 7))]) (.tup [(.lit (.str 94)),(.call (.glo (.fn 32)) [(.loc 2)])])))]⟩
noncomputable def f34 : Fun:=⟨[2],[],[
  (.asg 17 (.call (.glo (.fn 29)) [(.loc 2),(.lit (.int 7))])),
  (.ifs (.cmp .lt (.loc 17) (.lit (.int 2))) [(.ret (.tup [(.lit (.str 23)),(.call (.glo (.fn 32)) [(.loc 2)]),(.tup [(.lit (.str 58)),(.call (.glo (.fn 33)) [(.loc 2)])])]))] []),
  (.ifs (.cmp .eq (.loc 17) (.lit (.int 2))) [(.ret (.tup [(.lit (.str 23)),(.tup [(.bin .add (.lit (.int 1)) (.call (.glo (.fn 29)) [(.loc 2),(.lit (.int 3))])),(.tup [])]),(.tup [(.lit (.str 59)),(.lit (.str 95)),(.call (.glo (.fn 33)) [(.loc 2)]),(.call (.glo (.fn 33)) [(.loc 2)])])]))] []),
  (.ifs (.cmp .eq (.loc 17) (.lit (.int 3))) [(.ret (.tup [(.lit (.str 23)),(.tup [(.lit (.int 4)),(.tup [])]),(.tup [(.lit (.str 50)),(.tup [(.call (.glo (.fn 33)) [(.loc 2)]),(.call (.glo (.fn 33)) [(.loc 2)])])])]))] []),
  (.ifs (.cmp .eq (.loc 17) (.lit (.int 4))) [(.ret (.tup [(.lit (.str 23)),(.tup [(.lit (.int 6)),(.tup [])]),(.tup [(.lit (.str 52)),(.lit .none),(.lit (.str 96)),(.call (.glo (.fn 32)) [(.loc 2)])])]))] []),
  (.ifs (.cmp .eq (.loc 17) (.lit (.int 5))) [(.ret (.tup [(.call (.glo (.fn 30)) [(.loc 2),(.lst [(.lit (.str 53)),(.lit (.str 54))])]),(.bin .add (.lit (.int 1)) (.call (.glo (.fn 29)) [(.loc 2),(.lit (.int 6))]))]))] []),
  (.ret (.tup [(.lit (.str 51)),(.call (.glo (.fn 33)) [(.loc 2)])]))]⟩
noncomputable def f35 : Fun:=⟨[2,36],[],[
  (.asgN [17,20,32] (.tup [(.call (.glo (.fn 29)) [(.loc 2),(.lit (.int 6))]),(.call (.glo (.fn 29)) [(.loc 2),(.loc 36)]),(.call (.glo (.fn 29)) [(.loc 2),(.loc 36)])])),
  (.ifs (.cmp .eq (.loc 17) (.lit (.int 0))) [(.ret (.tup [(.lit (.str 63))]))] []),
  (.ifs (.cmp .eq (.loc 17) (.lit (.int 1))) [(.ret (.tup [(.lit (.str 39)),(.call (.glo (.fn 30)) [(.loc 2),(.lst [(.tup [(.lit (.int 4)),(.tup [])]),(.tup [(.lit (.int 5)),(.tup [])]),(.tup [(.lit (.int 4)),(.tup [(.tup [(.lit (.str 80)),(.lit (.int 1))])])]),(.tup [(.lit (.int 6)),(.tup [])])])]),(.loc 20)]))] []),
  (.ifs (.cmp .eq (.loc 17) (.lit (.int 2))) [(.ret (.tup [(.lit (.str 31)),(.tup [(.lit (.str 97)),(.lit (.str 98)),(.tup [])]),(.tup [(.call (.glo (.fn 33)) [(.loc 2)])]),(.call (.glo (.fn 32)) [(.loc 2)]),(.loc 20)]))] []),
  (.ifs (.cmp .eq (.loc 17) (.lit (.int 3))) [(.ret (.tup [(.lit (.str 40)),(.call (.glo (.fn 33)) [(.loc 2)]),(.lit (.bool true)),(.lit (.str 99)),(.loc 20)]))] []),
  (.ret (.tup [(.lit (.str 38)),(.call (.glo (.fn 33)) [(.loc 2)]),(.tup [(.tup [(.lit (.int 0)),(.loc 20)])]),(.loc 32)]))]⟩
noncomputable def f36 : Fun:=⟨[2],[],[
  (.asgN [36,8] (.tup [(.bin .add (.lit (.int 2)) (.call (.glo (.fn 29)) [(.loc 2),(.lit (.int 2))])),(.lst [])])),
  (.for1 100 (.call (.glo (.blt .range)) [(.loc 36)]) [(.asg 15 (.comp (.call (.glo (.fn 34)) [(.loc 2)]) [24] (.call (.glo (.blt .range)) [(.bin .add (.lit (.int 1)) (.call (.glo (.fn 29)) [(.loc 2),(.lit (.int 2))]))]) [])),(.expr (.mcall (.loc 8) 18 [(.lst [(.loc 15),(.call (.glo (.fn 35)) [(.loc 2),(.loc 36)])])]))]),
  (.asgN [81,82] (.tup [(.tup [(.lit (.str 50)),(.tup [(.glo (.tup [(.str 29),(.str 30)])),(.glo (.tup [(.str 29),(.str 30)]))])]),(.tup [(.lit (.str 72)),(.glo (.tup [(.str 29),(.str 30)])),(.lit (.int 3))])])),
  (.asg 13 (.bin .add (.lst [(.tup [(.glo (.tup [(.str 29),(.str 30)])),(.lit (.bool true)),(.lit .none)])]) (.comp (.tup [(.glo (.tup [(.str 29),(.str 30)])),(.lit (.bool true)),(.lit (.str 101))]) [69] (.call (.glo (.blt .range)) [(.lit (.int 3))]) []))),
  (.asg 13 (.bin .add (.loc 13) (.lst [(.tup [(.loc 81),(.lit (.bool true)),(.lit (.str 102))]),(.tup [(.loc 82),(.lit (.bool true)),(.lit (.str 103))]),(.tup [(.tup [(.lit (.str 52)),(.lit .none),(.lit (.bool false)),(.glo (.tup [(.str 29),(.str 30)]))]),(.lit (.bool true)),(.lit (.str 104))])]))),
  (.ret (.call (.glo (.cls 2)) [(.lit (.str 105)),(.lit (.int 0)),(.loc 13),(.loc 8)]))]⟩
noncomputable def f37 : Fun:=⟨[21],[],[
  (.ret (.bin .add (.lst [(.sub (.loc 21) (.lit (.int 0)))]) (.comp (.sub (.loc 24) (.lit (.int 1))) [24] (.sub (.loc 21) (.lit (.int 1))) [(.cmp .eq (.sub (.loc 24) (.lit (.int 0))) (.lit (.str 6)))])))]⟩
noncomputable def f38 : Fun:=⟨[22],[],[
  (.ret (.ite (.cmp .eq (.sub (.loc 22) (.lit (.int 0))) (.lit (.str 61))) (.lst []) (.call (.glo (.fn 37)) [(.sub (.loc 22) (.lit (.int 1)))])))]⟩
noncomputable def f39 : Fun:=⟨[7],[],[
  (.asgN [12,4] (.tup [(.sub (.loc 7) (.lit (.int 0))),(.lst [])])),
  (.ifs (.cmp .eq (.loc 12) (.lit (.str 23))) [(.asg 33 (.sub (.loc 7) (.lit (.int 2)))),(.asg 83 (.dget [58,59,50] [(.slc (.loc 33) (.lit (.int 1)) (.lit (.int 2))),(.slc (.loc 33) (.lit (.int 2)) (.lit (.int 4))),(.sub (.loc 33) (.lit (.int 1)))] (.sub (.loc 33) (.lit (.int 0))) (.tup []))),(.for1 22 (.loc 83) [(.asg 4 (.bin .add (.loc 4) (.call (.glo (.fn 38)) [(.loc 22)])))]),(.ifs (.cmp .eq (.sub (.loc 33) (.lit (.int 0))) (.lit (.str 52))) [(.asg 4 (.bin .add (.loc 4) (.call (.glo (.fn 37)) [(.sub (.loc 33) (.lit (.int 3)))])))] []),(.ret (.bin .add (.loc 4) (.ite (.cmp .ne (.sub (.sub (.loc 7) (.lit (.int 1))) (.lit (.int 1))) (.tup [])) (.call (.glo (.fn 37)) [(.sub (.loc 7) (.lit (.int 1)))]) (.lst []))))] []),
  (.ifs (.cmp .eq (.loc 12) (.lit (.str 31))) [(.for1 22 (.sub (.loc 7) (.lit (.int 2))) [(.asg 4 (.bin .add (.loc 4) (.call (.glo (.fn 38)) [(.loc 22)])))]),(.ret (.bin .add (.loc 4) (.ite (.cmp .ne (.sub (.sub (.loc 7) (.lit (.int 3))) (.lit (.int 1))) (.tup [])) (.call (.glo (.fn 37)) [(.sub (.loc 7) (.lit (.int 3)))]) (.lst []))))] []),
  (.ifs (.cmp .isIn (.loc 12) (.lst [(.lit (.str 51)),(.lit (.str 40)),(.lit (.str 38))])) [(.ret (.call (.glo (.fn 38)) [(.sub (.loc 7) (.lit (.int 1)))]))] []),
  (.ret (.ite (.cmp .eq (.loc 12) (.lit (.str 63))) (.lst [(.lit (.int 0))]) (.lst [])))]⟩
noncomputable def f40 : Fun:=⟨[7],[],[
  (.ret (.ite (.cmp .eq (.sub (.loc 7) (.lit (.int 0))) (.lit (.str 39))) (.lst [(.sub (.sub (.loc 7) (.lit (.int 1))) (.lit (.int 0)))]) (.lst [])))]⟩
noncomputable def f41 : Fun:=⟨[7],[],[
  (.ifs (.cmp .isIn (.sub (.loc 7) (.lit (.int 0))) (.lst [(.lit (.str 53)),(.lit (.str 54))])) [(.ret (.lst [(.sub (.loc 7) (.lit (.int 1)))]))] []),
  (.asg 20 (.ite (.cmp .eq (.sub (.loc 7) (.lit (.int 0))) (.lit (.str 23))) (.sub (.loc 7) (.lit (.int 1))) (.ite (.cmp .eq (.sub (.loc 7) (.lit (.int 0))) (.lit (.str 31))) (.sub (.loc 7) (.lit (.int 3))) (.lit .none)))),
  (.ret (.ite (.and [(.cmp .isNot (.loc 20) (.lit .none)),(.cmp .eq (.sub (.loc 20) (.lit (.int 1))) (.tup []))]) (.lst [(.sub (.loc 20) (.lit (.int 0)))]) (.lst [])))]⟩
noncomputable def f42 : Fun:=⟨[0],[],[
  (.asg 4 .edict),
  (.for1 1 (.call (.glo (.blt .range)) [(.call (.glo (.blt .len)) [(.attr (.loc 0) 8)])]) [(.asgN [15,26] (.sub (.attr (.loc 0) 8) (.loc 1))),(.forE 69 7 (.bin .add (.call (.glo (.blt .list)) [(.loc 15)]) (.lst [(.loc 26)])) [(.setI (.loc 4) (.tup [(.loc 1),(.loc 69)]) (.loc 7))])]),
  (.ret (.loc 4))]⟩
noncomputable def f43 : Fun:=⟨[10,7],[],[
  (.ifs (.cmp .isIn (.sub (.loc 7) (.lit (.int 0))) (.lst [(.lit (.str 23)),(.lit (.str 53)),(.lit (.str 54)),(.lit (.str 51))])) [(.ret (.lst [(.tup [(.sub (.loc 10) (.lit (.int 0))),(.bin .add (.sub (.loc 10) (.lit (.int 1))) (.lit (.int 1)))])]))] []),
  (.asg 70 (.dget [39,31,40] [(.slc (.loc 7) (.lit (.int 2)) (.lit (.int 3))),(.slc (.loc 7) (.lit (.int 4)) (.lit (.int 5))),(.slc (.loc 7) (.lit (.int 4)) (.lit (.int 5)))] (.sub (.loc 7) (.lit (.int 0))) (.tup []))),
  (.ifs (.cmp .eq (.sub (.loc 7) (.lit (.int 0))) (.lit (.str 38))) [(.asg 70 (.tup [(.sub (.sub (.sub (.loc 7) (.lit (.int 2))) (.lit (.int 0))) (.lit (.int 1))),(.sub (.loc 7) (.lit (.int 3)))]))] []),
  (.ret (.comp (.tup [(.loc 20),(.lit (.int 0))]) [20] (.loc 70) []))]⟩
noncomputable def f44 : Fun:=⟨[15,16,84],[],[
  (.asg 42 (.call (.glo (.blt .dict)) [(.comp (.tup [(.loc 10),(.lst [])]) [10] (.loc 15) [])])),
  (.for1 10 (.loc 15) [(.for1 85 (.call (.glo (.fn 43)) [(.loc 10),(.sub (.loc 15) (.loc 10))]) [(.expr (.mcall (.sub (.loc 42) (.loc 85)) 18 [(.loc 10)]))])]),
  (.asg 25 (.comp (.loc 10) [10] (.loc 15) [(.cmp .isIn (.loc 16) (.sub (.loc 84) (.loc 10)))])),
  (.asg 4 (.call (.glo (.blt .list)) [(.loc 25)])),
  (.whl (.cmp .ne (.loc 25) (.lst [])) [(.asg 27 (.mcall (.loc 25) 75 [])),(.for1 10 (.sub (.loc 42) (.loc 27)) [(.ifs (.and [(.cmp .notIn (.loc 10) (.loc 4)),(.cmp .notIn (.loc 16) (.call (.glo (.fn 41)) [(.sub (.loc 15) (.loc 10))]))]) [(.expr (.mcall (.loc 4) 18 [(.loc 10)])),(.expr (.mcall (.loc 25) 18 [(.loc 10)]))] [])])]),
  (.ret (.call (.glo (.blt .sorted)) [(.loc 4)]))]⟩
noncomputable def f45 : Fun:=⟨[45],[],[
  (.asg 0 (.call (.glo (.fn 36)) [(.call (.glo (.fn 28)) [(.loc 45),(.lit (.int 0))])])),
  (.asg 15 (.call (.glo (.fn 42)) [(.loc 0)])),
  (.asg 43 (.call (.glo (.blt .dict)) [(.comp (.tup [(.loc 10),(.call (.glo (.fn 39)) [(.sub (.loc 15) (.loc 10))])]) [10] (.loc 15) [])])),
  (.asg 44 (.call (.glo (.blt .dict)) [(.comp (.tup [(.loc 10),(.call (.glo (.fn 40)) [(.sub (.loc 15) (.loc 10))])]) [10] (.loc 15) [])])),
  (.asg 13 (.call (.glo (.fn 26)) [(.loc 0)])),
  (.ifs (.cmp .ne (.call (.glo (.blt .list)) [(.sub (.loc 13) (.lit (.int 0)))]) (.comp (.call (.glo (.fn 44)) [(.loc 15),(.loc 16),(.loc 43)]) [16] (.call (.glo (.blt .range)) [(.lit (.int 7))]) [])) [(.ret (.lit (.bool false)))] []),
  (.ret (.cmp .eq (.call (.glo (.blt .list)) [(.sub (.loc 13) (.lit (.int 1)))]) (.comp (.call (.glo (.fn 44)) [(.loc 15),(.loc 16),(.loc 44)]) [16] (.call (.glo (.blt .range)) [(.lit (.int 7))]) [])))]⟩
noncomputable def fnL : List (Nat × Fun):=[(3,f3),(4,f4),(5,f5),(6,f6),(7,f7),(8,f8),(10,f10),(11,f11),(12,f12),(13,f13),(14,f14),(15,f15),(16,f16),(17,f17),(18,f18),(21,f21),(22,f22),(23,f23),(24,f24),(26,f26),(28,f28),(29,f29),(30,f30),(32,f32),(33,f33),(34,f34),(35,f35),(36,f36),(37,f37),(38,f38),(39,f39),(40,f40),(41,f41),(42,f42),(43,f43),(44,f44),(45,f45),(140,f140),(143,f143),(144,f144),(600,f600),(601,f601),(602,f602),(603,f603),(604,f604)]
noncomputable def fnT (k : Nat) : Option Fun:=fnL.lookup k
noncomputable def globs : List (Str × AV):=[(sN "points",.fn 3),
 (sN "successors",.fn 4),
 (sN "predecessors",.fn 5),
 (sN "operands_of",.fn 6),
 (sN "operands_at",.fn 7),
 (sN "indices_of",.fn 8),
 (sN "joined",.fn 10),
 (sN "behind_block",.fn 11),
 (sN "back_to",.fn 12),
 (sN "solve_backward",.fn 13),
 (sN "facts_before",.fn 14),
 (sN "looked_at",.fn 15),
 (sN "written_at",.fn 16),
 (sN "dropped_at",.fn 17),
 (sN "turned_at",.fn 18),
 (sN "used_locals",.fn 21),
 (sN "is_return",.fn 22),
 (sN "dropped_locals",.fn 23),
 (sN "set_locals",.fn 24),
 (sN "live_points",.fn 26),
 (sN "_law_pool",.fn 28),
 (sN "_law_take",.fn 29),
 (sN "_law_one",.fn 30),
 (sN "_law_place",.fn 32),
 (sN "_law_operand",.fn 33),
 (sN "_law_statement",.fn 34),
 (sN "_law_end",.fn 35),
 (sN "_law_body",.fn 36),
 (sN "_law_within",.fn 37),
 (sN "_law_read",.fn 38),
 (sN "_law_uses",.fn 39),
 (sN "_law_drops",.fn 40),
 (sN "_law_sets",.fn 41),
 (sN "_law_lines",.fn 42),
 (sN "_law_behind",.fn 43),
 (sN "_law_live",.fn 44),
 (sN "law",.fn 45),
 (sN "Body",.cls 2),
 (sN "Liveness",.cls 25),
 (sN "NOTHING",.fset []),
 (sN "_law_INT",.tup [.str 29,.str 30]),
 (sN "len",.blt .len),
 (sN "range",.blt .range),
 (sN "list",.blt .list),
 (sN "dict",.blt .dict),
 (sN "set",.blt .set),
 (sN "frozenset",.blt .frozenset),
 (sN "sorted",.blt .sorted),
 (sN "enumerate",.blt .enumerate),
 (sN "max",.blt .max),
 (sN "int",.blt .int)]
noncomputable def gidT (x : Str) : Option AV:=globs.lookup x
noncomputable def mt2 : List (Nat × Option Nat):=[(46,none),(47,none),(48,none),(8,none),(37,none),(11,some 143),(9,some 144)]
noncomputable def mt25 : List (Nat × Option Nat):=[(0,none),(64,none),(66,none),(65,some 601),(67,some 602),(76,some 603),(77,some 604)]
noncomputable def mtT (c : Nat) (a : Nat) : Option (Option Nat):=if c = 2 then mt2.lookup a else if c = 25 then mt25.lookup a else none
noncomputable def initT (c : Nat) : Option Nat:=if c = 2 then some 140 else if c = 25 then some 600 else none
noncomputable def prg : Prg:=⟨fnT,mtT,initT⟩
end Mine
end
section
open PyProof.Rows PySem PySem.Calls PySem.W
namespace Mine
theorem size_push (h : Heap) (o : Obj) : (h.push o).objs.size = h.objs.size + 1:=by cases h; simp [Heap.push]
theorem size_update (h : Heap) (a : Addr) (f : Obj -> Obj) : (h.update a f).objs.size = h.objs.size:=by cases h; simp [Heap.update]
theorem runs_size {M : Model} {Γ : Ctx} {p : Pos} {t : Sem Fin} {fs : List Frame} {s s' : Shared} {e : End} (h : Runs M Γ p t fs s e s') : s.heap.objs.size ≤ s'.heap.objs.size:=by
 induction h <;> (try simp only [Shared.setGen,size_push,size_update] at *) <;> lia
theorem fZ {M : Model} {Γ : Ctx} {p : Pos} {s s' : Shared} {r : Result} (h : Returns M Γ p s r s') : s.heap.objs.size ≤ s'.heap.objs.size:=runs_size h
theorem iZ {M : Model} {Γ : Ctx} {p : Pos} {g : Nat} {r : Resume} {s s' : Shared} {res : GenResult} (h : Wakes M Γ p g r s res s') : s.heap.objs.size ≤ s'.heap.objs.size:=by
 unfold Wakes at h
 split at h
 ·exact h.elim
 ·split at h
  ·obtain ⟨e₁,s₁,hr,_,_,rfl⟩:=h; exact (runs_size hr : (s.setGen g .running).heap.objs.size ≤ s₁.heap.objs.size)
  ·rw [h.2]; exact Nat.le_refl _
  ·rw [h.2]; exact Nat.le_refl _
 ·obtain ⟨e₁,s₁,hr,_,_,rfl⟩:=h; exact (runs_size hr : (s.setGen g .running).heap.objs.size ≤ s₁.heap.objs.size)
 ·rw [h.2]; exact Nat.le_refl _
 ·rw [h.2]; exact Nat.le_refl _
theorem oO {α : Type} (M : Model) (Γ : Ctx) (n : Nat) (t : Sem α) : ∀ (Q : α -> Pos -> Shared -> Prop) (E : Value -> Pos -> Shared -> Prop) (p : Pos) (s : Shared),n ≤ s.heap.objs.size -> Sem.wp M Γ t Q E p s ->
  Sem.wp M Γ t (fun a p' s'=>n ≤ s'.heap.objs.size /\ Q a p' s') (fun e p' s'=>n ≤ s'.heap.objs.size /\ E e p' s') p s:=by
 induction t with
 | pure a=>intro Q E p s hn h; exact ⟨hn,h⟩
 | raise e=>intro Q E p s hn h; exact ⟨hn,h⟩
 | unsupported _=>intro Q E p s _ h; exact h
 | finish _=>intro Q E p s _ h; exact h
 | rule _ k ih=>intro Q E p s hn h; exact ih () Q E p s hn h
 | «at» p' k ih=>intro Q E p s hn h; exact ih () Q E p' s hn h
 | load a _ k ih=>intro Q E p s hn h; obtain ⟨o,ho,h⟩:=h; exact ⟨o,ho,ih o Q E p s hn h⟩
 | update a _ f k ih=>intro Q E p s hn h; exact ⟨h.1,ih () Q E p _ (by simpa only [size_update] using hn) h.2⟩
 | loadIfAlive a k ih=>intro Q E p s hn h; exact ih _ Q E p s hn h
 | point _ k ih=>intro Q E p s hn h; exact ih () Q E p s hn h
 | register _ _=>intro Q E p s _ h; exact h
 | alloc o k ih=>intro Q E p s hn h; exact ih _ Q E p _ (by simp only [size_push]; lia) h
 | fresh k ih=>intro Q E p s hn h; exact ih _ Q E p _ hn h
 | ask k ih=>intro Q E p s hn h; exact ih _ Q E p s hn h
 | choose src m k ih=>intro Q E p s hn h; exact ⟨h.1,ih _ Q E p _ hn h.2⟩
 | os q _ k ih=>intro Q E p s hn h; exact ih _ Q E p _ hn h
 | call c hd _ _ k ih=>intro Q E p s hn h; obtain ⟨r,s',hr,h⟩:=h; exact ⟨r,s',hr,ih r Q E p s' (Nat.le_trans hn (fZ hr)) h⟩
 | handled own k ih=>intro Q E p s hn h; exact ih _ Q E p s hn h
 | genState g k ih=>intro Q E p s hn h; obtain ⟨st,hs,h⟩:=h; exact ⟨st,hs,ih _ Q E p s hn h⟩
 | newGen c k ih=>intro Q E p s hn h; exact ih _ Q E p _ hn h
 | resume g r _ k ih=>intro Q E p s hn h; obtain ⟨res,s',hw,h⟩:=h; exact ⟨res,s',hw,ih res Q E p s' (Nat.le_trans hn (iZ hw)) h⟩
 | yield _ _ _ _=>intro Q E p s _ h; exact h
 | stack k ih=>intro Q E p s hn h; exact ih _ Q E p s hn h
 | fork _ _=>intro Q E p s _ h; exact h
 | thread k ih=>intro Q E p s hn h; exact ih _ Q E p s hn h
 | await _ _ _ _ _=>intro Q E p s _ h; exact h
theorem iX {α : Type} {M : Model} {A : Around} {s : Shared} {t : Sem α} {Q : α -> Shared -> Prop} {E : Value -> Shared -> Prop}
  (h : wpAny M A t (fun a s'=>s.heap.objs.size ≤ s'.heap.objs.size -> Q a s') (fun e s'=>s.heap.objs.size ≤ s'.heap.objs.size -> E e s') s) : wpAny M A t Q E s :=
 fun Γ p hΓ=>Sem.wp_mono M Γ _ (fun uw uw uw x=>x.2 x.1) (fun uw uw uw x=>x.2 x.1) _ _ (oO M Γ _ t _ _ p s (Nat.le_refl _) (h Γ p hΓ))
theorem aj {α : Type} {M : Model} {A : Around} {s : Shared} {t : Sem α} {Q : α -> Shared -> Prop} {E : Value -> Shared -> Prop}
  (h : wpAny M A t (fun a s'=>s.heap.objs.size ≤ s'.heap.objs.size -> Q a s') E s) : wpAny M A t Q E s :=
 iX (wpAny_mono h (fun uw uw q=>q) fun uw uw q uw=>q)
end Mine
end
section
namespace Mine
theorem lh {p0 : Prop} {p1 : Prop} {p2 : Prop} {G : Prop} (h : p0 /\ p1 /\ p2) (k : p0 -> p1 -> p2 -> G) : G:=by obtain ⟨a0,a1,a2⟩:=h; exact k a0 a1 a2
theorem tc {p0 : Prop} {p1 : Prop} {p2 : Prop} {p3 : Prop} {G : Prop} (h : p0 /\ p1 /\ p2 /\ p3) (k : p0 -> p1 -> p2 -> p3 -> G) : G:=by obtain ⟨a0,a1,a2,a3⟩:=h; exact k a0 a1 a2 a3
theorem rE {p0 : Prop} {p1 : Prop} {p2 : Prop} {p3 : Prop} {p4 : Prop} {G : Prop} (h : p0 /\ p1 /\ p2 /\ p3 /\ p4) (k : p0 -> p1 -> p2 -> p3 -> p4 -> G) : G:=by obtain ⟨a0,a1,a2,a3,a4⟩:=h; exact k a0 a1 a2 a3 a4
theorem ta {A : Sort _} {p0 : Prop} {p2 : A -> Prop} {p3 : A -> Prop} {G : Prop} (h : p0 /\ ∃ x : A,p2 x /\ p3 x) (k : p0 -> ∀ x : A,p2 x -> p3 x -> G) : G:=by obtain ⟨a0,a1,a2,a3⟩:=h; exact k a0 a1 a2 a3
theorem kc {A : Sort _} {p0 : Prop} {p2 : A -> Prop} {p3 : A -> Prop} {p4 : A -> Prop} {p5 : A -> Prop} {G : Prop} (h : p0 /\ ∃ x : A,p2 x /\ p3 x /\ p4 x /\ p5 x) (k : p0 -> ∀ x : A,p2 x -> p3 x -> p4 x -> p5 x -> G) : G:=by obtain ⟨a0,a1,a2,a3,a4,a5⟩:=h; exact k a0 a1 a2 a3 a4 a5
theorem aw {A : Sort _} {p1 : A -> Prop} {p2 : A -> Prop} {G : Prop} (h : ∃ x : A,p1 x /\ p2 x) (k : ∀ x : A,p1 x -> p2 x -> G) : G:=by obtain ⟨a0,a1,a2⟩:=h; exact k a0 a1 a2
theorem bq {A : Sort _} {p1 : A -> Prop} {p2 : A -> Prop} {p3 : A -> Prop} {G : Prop} (h : ∃ x : A,p1 x /\ p2 x /\ p3 x) (k : ∀ x : A,p1 x -> p2 x -> p3 x -> G) : G:=by obtain ⟨a0,a1,a2,a3⟩:=h; exact k a0 a1 a2 a3
theorem mU {A : Sort _} {p1 : A -> Prop} {p2 : A -> Prop} {p3 : A -> Prop} {p4 : A -> Prop} {G : Prop} (h : ∃ x : A,p1 x /\ p2 x /\ p3 x /\ p4 x) (k : ∀ x : A,p1 x -> p2 x -> p3 x -> p4 x -> G) : G:=by obtain ⟨a0,a1,a2,a3,a4⟩:=h; exact k a0 a1 a2 a3 a4
theorem mS {A : Sort _} {B : Sort _} {p1 : A -> Prop} {p2 : A -> Prop} {p4 : A -> B -> Prop} {G : Prop} (h : ∃ x : A,p1 x /\ p2 x /\ ∃ y : B,p4 x y) (k : ∀ x : A,p1 x -> p2 x -> ∀ y : B,p4 x y -> G) : G:=by obtain ⟨a0,a1,a2,a3,a4⟩:=h; exact k a0 a1 a2 a3 a4
theorem io {A : Sort _} {B : Sort _} {C : Sort _} {p1 : A -> Prop} {p4 : A -> B -> C -> Prop} {p5 : A -> B -> C -> Prop} {p6 : A -> B -> C -> Prop} {G : Prop} (h : ∃ x : A,p1 x /\ ∃ y : B,∃ z : C,p4 x y z /\ p5 x y z /\ p6 x y z) (k : ∀ x : A,p1 x -> ∀ y : B,∀ z : C,p4 x y z -> p5 x y z -> p6 x y z -> G) : G:=by obtain ⟨a0,a1,a2,a3,a4,a5,a6⟩:=h; exact k a0 a1 a2 a3 a4 a5 a6
theorem pK {A : Sort _} {B : Sort _} {p2 : A -> B -> Prop} {G : Prop} (h : ∃ x : A,∃ y : B,p2 x y) (k : ∀ x : A,∀ y : B,p2 x y -> G) : G:=by obtain ⟨a0,a1,a2⟩:=h; exact k a0 a1 a2
theorem eJ {A : Sort _} {B : Sort _} {p2 : A -> B -> Prop} {p3 : A -> B -> Prop} {G : Prop} (h : ∃ x : A,∃ y : B,p2 x y /\ p3 x y) (k : ∀ x : A,∀ y : B,p2 x y -> p3 x y -> G) : G:=by obtain ⟨a0,a1,a2,a3⟩:=h; exact k a0 a1 a2 a3
theorem bJ {A : Sort _} {B : Sort _} {p2 : A -> B -> Prop} {p3 : A -> B -> Prop} {p4 : A -> B -> Prop} {G : Prop} (h : ∃ x : A,∃ y : B,p2 x y /\ p3 x y /\ p4 x y) (k : ∀ x : A,∀ y : B,p2 x y -> p3 x y -> p4 x y -> G) : G:=by obtain ⟨a0,a1,a2,a3,a4⟩:=h; exact k a0 a1 a2 a3 a4
theorem dk {A : Sort _} {B : Sort _} {p2 : A -> B -> Prop} {p3 : A -> B -> Prop} {p4 : A -> B -> Prop} {p5 : A -> B -> Prop} {p6 : A -> B -> Prop} {G : Prop} (h : ∃ x : A,∃ y : B,p2 x y /\ p3 x y /\ p4 x y /\ p5 x y /\ p6 x y) (k : ∀ x : A,∀ y : B,p2 x y -> p3 x y -> p4 x y -> p5 x y -> p6 x y -> G) : G:=by obtain ⟨a0,a1,a2,a3,a4,a5,a6⟩:=h; exact k a0 a1 a2 a3 a4 a5 a6
theorem av {A : Sort _} {B : Sort _} {C : Sort _} {p3 : A -> B -> C -> Prop} {p4 : A -> B -> C -> Prop} {G : Prop} (h : ∃ x : A,∃ y : B,∃ z : C,p3 x y z /\ p4 x y z) (k : ∀ x : A,∀ y : B,∀ z : C,p3 x y z -> p4 x y z -> G) : G:=by obtain ⟨a0,a1,a2,a3,a4⟩:=h; exact k a0 a1 a2 a3 a4
theorem cK {A : Sort _} {B : Sort _} {C : Sort _} {p3 : A -> B -> C -> Prop} {p4 : A -> B -> C -> Prop} {p5 : A -> B -> C -> Prop} {G : Prop} (h : ∃ x : A,∃ y : B,∃ z : C,p3 x y z /\ p4 x y z /\ p5 x y z) (k : ∀ x : A,∀ y : B,∀ z : C,p3 x y z -> p4 x y z -> p5 x y z -> G) : G:=by obtain ⟨a0,a1,a2,a3,a4,a5⟩:=h; exact k a0 a1 a2 a3 a4 a5
theorem bf {A : Sort _} {B : Sort _} {C : Sort _} {p3 : A -> B -> C -> Prop} {p4 : A -> B -> C -> Prop} {p5 : A -> B -> C -> Prop} {p6 : A -> B -> C -> Prop} {G : Prop} (h : ∃ x : A,∃ y : B,∃ z : C,p3 x y z /\ p4 x y z /\ p5 x y z /\ p6 x y z) (k : ∀ x : A,∀ y : B,∀ z : C,p3 x y z -> p4 x y z -> p5 x y z -> p6 x y z -> G) : G:=by obtain ⟨a0,a1,a2,a3,a4,a5,a6⟩:=h; exact k a0 a1 a2 a3 a4 a5 a6
theorem jj {A : Sort _} {B : Sort _} {C : Sort _} {p3 : A -> B -> C -> Prop} {p4 : A -> B -> C -> Prop} {p5 : A -> B -> C -> Prop} {p6 : A -> B -> C -> Prop} {p7 : A -> B -> C -> Prop} {p8 : A -> B -> C -> Prop} {G : Prop} (h : ∃ x : A,∃ y : B,∃ z : C,p3 x y z /\ p4 x y z /\ p5 x y z /\ p6 x y z /\ p7 x y z /\ p8 x y z) (k : ∀ x : A,∀ y : B,∀ z : C,p3 x y z -> p4 x y z -> p5 x y z -> p6 x y z -> p7 x y z -> p8 x y z -> G) : G:=by obtain ⟨a0,a1,a2,a3,a4,a5,a6,a7,a8⟩:=h; exact k a0 a1 a2 a3 a4 a5 a6 a7 a8
theorem dX {A : Sort _} {B : Sort _} {C : Sort _} {D : Sort _} {p4 : A -> B -> C -> D -> Prop} {p5 : A -> B -> C -> D -> Prop} {p6 : A -> B -> C -> D -> Prop} {p7 : A -> B -> C -> D -> Prop} {p8 : A -> B -> C -> D -> Prop} {p9 : A -> B -> C -> D -> Prop} {G : Prop} (h : ∃ x : A,∃ y : B,∃ z : C,∃ u : D,p4 x y z u /\ p5 x y z u /\ p6 x y z u /\ p7 x y z u /\ p8 x y z u /\ p9 x y z u) (k : ∀ x : A,∀ y : B,∀ z : C,∀ u : D,p4 x y z u -> p5 x y z u -> p6 x y z u -> p7 x y z u -> p8 x y z u -> p9 x y z u -> G) : G:=by obtain ⟨a0,a1,a2,a3,a4,a5,a6,a7,a8,a9⟩:=h; exact k a0 a1 a2 a3 a4 a5 a6 a7 a8 a9
theorem cY {A : Sort _} {B : Sort _} {C : Sort _} {D : Sort _} {p4 : A -> B -> C -> D -> Prop} {p5 : A -> B -> C -> D -> Prop} {p6 : A -> B -> C -> D -> Prop} {p7 : A -> B -> C -> D -> Prop} {p8 : A -> B -> C -> D -> Prop} {p9 : A -> B -> C -> D -> Prop} {p10 : A -> B -> C -> D -> Prop} {p11 : A -> B -> C -> D -> Prop} {p12 : A -> B -> C -> D -> Prop} {p13 : A -> B -> C -> D -> Prop} {p14 : A -> B -> C -> D -> Prop} {p15 : A -> B -> C -> D -> Prop} {p16 : A -> B -> C -> D -> Prop} {G : Prop} (h : ∃ x : A,∃ y : B,∃ z : C,∃ u : D,p4 x y z u /\ p5 x y z u /\ p6 x y z u /\ p7 x y z u /\ p8 x y z u /\ p9 x y z u /\ p10 x y z u /\ p11 x y z u /\ p12 x y z u /\ p13 x y z u /\ p14 x y z u /\ p15 x y z u /\ p16 x y z u) (k : ∀ x : A,∀ y : B,∀ z : C,∀ u : D,p4 x y z u -> p5 x y z u -> p6 x y z u -> p7 x y z u -> p8 x y z u -> p9 x y z u -> p10 x y z u -> p11 x y z u -> p12 x y z u -> p13 x y z u -> p14 x y z u -> p15 x y z u -> p16 x y z u -> G) : G:=by obtain ⟨a0,a1,a2,a3,a4,a5,a6,a7,a8,a9,a10,a11,a12,a13,a14,a15,a16⟩:=h; exact k a0 a1 a2 a3 a4 a5 a6 a7 a8 a9 a10 a11 a12 a13 a14 a15 a16
end Mine
end
section
open PyProof.Rows PySem PySem.Calls PySem.W
namespace Mine
section
variable {α : Type} {M : Model} {A : Around} {Q : α -> Shared -> Prop} {E : Value -> Shared -> Prop} {s : Shared} {t u : Sem α}
theorem aE (e : t = u) (h : wpAny M A u Q E s) : wpAny M A t Q E s:=e ▸ h
theorem bH {c : Prop} [Decidable c] (e : c) (h : wpAny M A t Q E s) : wpAny M A (if c then t else u) Q E s:=aE (if_pos e) h
theorem aq {c : Prop} [Decidable c] (e : ¬ c) (h : wpAny M A u Q E s) : wpAny M A (if c then t else u) Q E s:=aE (if_neg e) h
end
structure Cx where
 prog : Program
 w : World
 fa : Nat -> Addr
 ca : Nat -> Addr
 base : Heap
noncomputable def clsIs (c : Value) (T : String) : Bool:=match c with
 | .type t=>t == T
 | _=>false
noncomputable def immO (o : Obj) : Bool:=match o.data with
 | .set ..=>true
 | .fields _=>clsIs o.cls "range" || clsIs o.cls "method"
 | .seq _ _=>clsIs o.cls "tuple"
 | _=>false
noncomputable def ImmK (h h' : Heap) : Prop:=∀ a o,h.get? a = some o -> immO o = true -> h'.get? a = some o
theorem ImmK.refl (h : Heap) : ImmK h h:=fun uw uw e uw=>e
theorem ImmK.trans {a b c : Heap} (x : ImmK a b) (y : ImmK b c) : ImmK a c:=fun q o e i=>y q o (x q o e i) i
noncomputable def bltVal : Blt -> Value
 | .len=>.builtin "len" | .range=>.type "range" | .list=>.type "list" | .dict=>.type "dict" | .set=>.type "set" | .frozenset=>.type "frozenset"
 | .sorted=>.builtin "sorted" | .enumerate=>.type "enumerate" | .max=>.builtin "max" | .int=>.type "int"
structure Sm (xs : List Int) : Prop where
 inc : xs.Pairwise (· < ·)
 lo : ∀ i ∈ xs,0 ≤ i /\ i ≤ 6
noncomputable def ownTable (mask moves : Nat) (led : Bool) (xs : List Int) : SetTable:=⟨mask,(xs.map Int.toNat).toArray,#[],0,led,moves,true⟩
structure SetBody (C : Cx) (es : Array (Int × Value)) (t : SetTable) (xs : List Int) : Prop where
 hs : es.toList.map (·.1) = xs
 vs : ∀ e ∈ es.toList,∃ tk,e.2 = Value.int e.1 tk
 tab : ∃ mask moves led,t = ownTable mask moves led xs /\ (mask = 7 \/ mask = 15 \/ mask = 31) /\ (led = true \/ C.w.params.followText "set-order" = true)
 sm : Sm xs
noncomputable def SetAt (C : Cx) (h : Heap) (cls : String) (a : Addr) (xs : List Int) : Prop :=
 ∃ es ep t,h.get? a = some ⟨.type cls,none,.set es ep t,#[]⟩ /\ SetBody C es t xs
inductive R2 {α β : Type} (R : α -> β -> Prop) : List α -> List β -> Prop
 | nil : R2 R [] []
 | cons {x : α} {v : β} {xs : List α} {vs : List β} : R x v -> R2 R xs vs -> R2 R (x :: xs) (v :: vs)
inductive VRep (C : Cx) (ι : List Addr) (h : Heap) : AV -> Value -> Prop
 | none : VRep C ι h .none .none
 | bool (b : Bool) : VRep C ι h (.bool b) (.bool b)
 | int (i : Int) (t : Tok) : VRep C ι h (.int i) (.int i t)
 | str {n : Nat} (s : Str) (t : Tok) : cd s = n -> VRep C ι h (.str n) (.str s t)
 | tup {xs : List AV} {vs : List Value} {a : Addr} {n : Nat} : h.get? a = some ⟨.type "tuple",Option.none,.seq vs.toArray n,#[]⟩ -> R2 (VRep C ι h) xs vs -> xs.length ≤ top -> VRep C ι h (.tup xs) (.ref a)
 | fset {xs : List Int} {a : Addr} : SetAt C h "frozenset" a xs -> VRep C ι h (.fset xs) (.ref a)
 | pset {xs : List Int} {a : Addr} : SetAt C h "set" a xs -> VRep C ι h (.pset xs) (.ref a)
 | ints {xs : List Int} {vs : List Value} {a : Addr} : C.base.IsList a vs.toArray -> IntsAre vs xs -> xs.length ≤ top -> VRep C ι h (.ints xs) (.ref a)
 | rng {r : Addr} {a b c : Int} {t u v : Tok} : IsRange h r a b c t u v -> rngOk a b c = true -> VRep C ι h (.rng a b c) (.ref r)
 | ref {α : Nat} {a : Addr} : ι[α]? = some a -> VRep C ι h (.ref α) (.ref a)
 | fn (k : Nat) : VRep C ι h (.fn k) (.ref (C.fa k))
 | cls (k : Nat) : VRep C ι h (.cls k) (.ref (C.ca k))
 | blt (b : Blt) : VRep C ι h (.blt b) (bltVal b)
 | meth {s : AV} {v : Value} {k : Nat} {a : Addr} : h.get? a = some (methodObj (.ref (C.fa k)) v) -> VRep C ι h s v -> VRep C ι h (.meth s k) (.ref a)
noncomputable abbrev VReps (C : Cx) (ι : List Addr) (h : Heap) : List AV -> List Value -> Prop:=R2 (VRep C ι h)
section
variable {C : Cx} {ι ι' : List Addr} {h h' : Heap}
theorem SetAt.mono {cls : String} {a : Addr} {xs : List Int} (k : ImmK h h') (x : SetAt C h cls a xs) : SetAt C h' cls a xs :=
 let ⟨es,ep,t,g,r⟩:=x; ⟨es,ep,t,k _ _ g rfl,r⟩
theorem cm {α : Nat} {a : Addr} (p : ι <+: ι') (e : ι[α]? = some a) : ι'[α]? = some a:=by
 obtain ⟨r,rfl⟩:=p
 rw [List.getElem?_append_left (by obtain ⟨l,_⟩:=List.getElem?_eq_some_iff.mp e; exact l)]; exact e
theorem VRep.mono (p : ι <+: ι') (k : ImmK h h') {x : AV} {v : Value} (r : VRep C ι h x v) : VRep C ι' h' x v :=
 VRep.rec (motive_1:=fun x v uw=>VRep C ι' h' x v) (motive_2:=fun xs vs uw=>R2 (VRep C ι' h') xs vs) .none .bool .int .str (fun g uw l r=>.tup (k _ _ g rfl) r l) (fun g=>.fset (g.mono k)) (fun g=>.pset (g.mono k)) (fun g r l=>.ints g r l) (fun g o=>.rng (k _ _ g rfl) o)
  (fun e=>.ref (cm p e)) .fn .cls .blt (fun g uw r=>.meth (k _ _ g rfl) r) .nil (fun uw uw a b=>.cons a b) r
theorem VReps.mono (p : ι <+: ι') (k : ImmK h h') {xs : List AV} {vs : List Value} (r : VReps C ι h xs vs) : VReps C ι' h' xs vs:=by
 induction r with
 | nil=>exact .nil
 | cons a _ ih=>exact .cons (a.mono p k) ih
theorem R2.mono (p : ι <+: ι') (k : ImmK h h') {xs : List AV} {vs : List Value} (r : R2 (VRep C ι h) xs vs) : R2 (VRep C ι' h') xs vs:=VReps.mono p k r
end
section
variable {α β : Type} {R : α -> β -> Prop} {xs ys : List α} {vs us : List β}
theorem R2.length (r : R2 R xs vs) : xs.length = vs.length:=by
 induction r with
 | nil=>rfl
 | cons _ _ ih=>exact congrArg (· + 1) ih
theorem R2.get {x : α} (r : R2 R xs vs) : ∀ {i : Nat},xs[i]? = some x -> ∃ v,vs[i]? = some v /\ R x v:=by
 induction r with
 | nil=>intro i e; cases e
 | cons a _ ih=>intro i e; cases i with
  | zero=>exact ⟨_,rfl,Option.some.inj e ▸ a⟩
  | succ i=>exact ih e
theorem R2.none_at {i : Nat} (r : R2 R xs vs) (e : xs[i]? = Option.none) : vs[i]? = Option.none :=
 List.getElem?_eq_none_iff.mpr (r.length ▸ List.getElem?_eq_none_iff.mp e)
theorem R2.append (r : R2 R xs vs) (y : R2 R ys us) : R2 R (xs ++ ys) (vs ++ us):=by
 induction r with
 | nil=>exact y
 | cons a _ ih=>exact .cons a ih
theorem R2.set {x : α} {v : β} (r : R2 R xs vs) (y : R x v) : ∀ i,R2 R (xs.set i x) (vs.set i v):=by
 induction r with
 | nil=>exact fun uw=>.nil
 | cons a b ih=>exact fun i=>match i with
  | 0=>.cons y b
  | i + 1=>.cons a (ih i)
theorem R2.take (r : R2 R xs vs) : ∀ i,R2 R (xs.take i) (vs.take i):=by
 induction r with
 | nil=>intro i; cases i <;> exact .nil
 | cons a _ ih=>exact fun i=>match i with
  | 0=>.nil
  | i + 1=>.cons a (ih i)
theorem R2.drop (r : R2 R xs vs) : ∀ i,R2 R (xs.drop i) (vs.drop i):=by
 induction r with
 | nil=>intro i; cases i <;> exact .nil
 | cons a b ih=>exact fun i=>match i with
  | 0=>.cons a b
  | i + 1=>ih i
end
inductive DReps (C : Cx) (ι : List Addr) (h : Heap) : List (AV × AV) -> List (List Int × Addr × Value) -> Prop
 | nil : DReps C ι h [] []
 | cons {k v : AV} {ks : List Int} {a : Addr} {u : Value} {es : List (AV × AV)} {xs : List (List Int × Addr × Value)} :
   keyOf k = some ks -> VRep C ι h k (.ref a) -> VRep C ι h v u -> DReps C ι h es xs -> DReps C ι h ((k,v) :: es) ((ks,a,u) :: xs)
noncomputable abbrev tk (C : Cx) : HeapKind C.prog C.w (List Int):=tupleKind (intKind C.prog C.w)
inductive ORep (C : Cx) (ι : List Addr) (h : Heap) : AO -> Addr -> Prop
 | list {xs : List AV} {vs : List Value} {a : Addr} {n : Nat} : h.get? a = some ⟨.type "list",none,.seq vs.toArray n,#[]⟩ -> VReps C ι h xs vs -> xs.length ≤ top -> ORep C ι h (.list xs) a
 | dict {es : List (AV × AV)} {xs : List (List Int × Addr × Value)} {ents : Array DictEntry} {ep : Nat} {a : Addr} : h.get? a = some ⟨.type "dict",none,.dict ents ep,#[]⟩ ->
   ents.toList = xs.map (entryOfKey (tk C)) -> DReps C ι h es xs -> (xs.map (·.1)).Nodup -> es.length ≤ top -> ORep C ι h (.dict es ep) a
 | inst {c d : Nat} {a dx : Addr} : h.get? a = some (instObj (C.ca c) dx) -> ι[d]? = some dx -> ORep C ι h (.inst c d) a
 | attrs {as : List (Nat × AV)} {m : Str -> Option Value} {a : Addr} : h.Ns a m -> (∃ o es ep,h.get? a = some o /\ o.data = .dict es ep /\ es.size ≤ as.length) -> (∀ x,match getVar (cd x) as with | some v=>∃ u,m x = some u /\ VRep C ι h v u | none=>m x = none) -> ORep C ι h (.attrs as) a
section
variable {C : Cx} {ι ι' : List Addr} {h h' : Heap}
theorem DReps.mono (p : ι <+: ι') (k : ImmK h h') {es : List (AV × AV)} {xs : List (List Int × Addr × Value)} (x : DReps C ι h es xs) : DReps C ι' h' es xs:=by
 induction x with
 | nil=>exact .nil
 | cons e a b _ ih=>exact .cons e (a.mono p k) (b.mono p k) ih
theorem ORep.mono (p : ι <+: ι') (k : ImmK h h') {o : AO} {a : Addr} (q : ∀ o',h.get? a = some o' -> h'.get? a = some o') (x : ORep C ι h o a) : ORep C ι' h' o a:=by
 cases x with
 | list g r l=>exact .list (q _ g) (r.mono p k) l
 | dict g e r n l=>exact .dict (q _ g) e (r.mono p k) n l
 | inst g e=>exact .inst (q _ g) (cm p e)
 | attrs g z m =>
  refine av g fun o es ep e r=>?_
  refine av z fun o2 es2 ep2 e2 r2=>?_
  refine .attrs ⟨o,es,ep,q _ e,r⟩ ⟨o2,es2,ep2,q _ e2,r2⟩ fun x=>?_
  have:=m x
  split <;> rename_i hx <;> rw [hx] at this
  ·refine aw this fun u e r=>?_
   exact ⟨u,e,r.mono p k⟩
  ·exact this
noncomputable def cellLike (o : Obj) : Bool:=match o.data with
 | .seq ..=>true
 | .dict ..=>true
 | .plain=>true
 | _=>false
theorem ORep.some {o : AO} {a : Addr} (x : ORep C ι h o a) : ∃ o',h.get? a = .some o' /\ immO o' = false /\ cellLike o' = true:=by
 cases x with
 | list g _ _=>exact ⟨_,g,rfl,rfl⟩
 | dict g _ _ _ _=>exact ⟨_,g,rfl,rfl⟩
 | inst g _=>exact ⟨_,g,rfl,rfl⟩
 | attrs g _ _=>obtain ⟨o,es,ep,e,d,_⟩:=g; exact ⟨o,e,by unfold immO; rw [d],by unfold cellLike; rw [d]⟩
end
structure HOk (C : Cx) (ι : List Addr) (σ : Hp) (h : Heap) : Prop where
 len : ι.length = σ.length
 nod : ι.Nodup
 base : ∀ b o,C.base.get? b = some o -> h.get? b = some o
 abv : ∀ a ∈ ι,C.base.objs.size ≤ a
 rep : ∀ {α : Nat} {o : AO} {a : Addr},σ[α]? = some o -> ι[α]? = some a -> ORep C ι h o a
 low : C.base.objs.size ≤ h.objs.size
structure Step (own : Addr -> Prop) (ι : List Addr) (s : Shared) (ι' : List Addr) (s' : Shared) : Prop where
 imm : ImmK s.heap s'.heap
 keep : ∀ a o,s.heap.get? a = some o -> ¬ own a -> a ∉ ι -> s'.heap.get? a = some o
 pre : ι <+: ι'
 fresh : ∀ a,a ∈ ι' -> a ∉ ι -> s.heap.objs.size ≤ a
 size : s.heap.objs.size ≤ s'.heap.objs.size
 os : s'.os = s.os
 gens : s'.gens = s.gens
noncomputable abbrev Keeps (h h' : Heap) : Prop:=∀ b o,h.get? b = some o -> h'.get? b = some o
theorem Keeps.imm {h h' : Heap} (k : Keeps h h') : ImmK h h':=fun a o e uw=>k a o e
section
variable {own : Addr -> Prop} {ι ι' ι'' : List Addr} {s s' s'' : Shared} {C : Cx} {σ σ' : Hp}
theorem Step.refl : Step own ι s ι s:=⟨.refl _,fun uw uw e uw uw=>e,List.prefix_refl _,fun uw a b=>absurd a b,Nat.le_refl _,rfl,rfl⟩
theorem Step.grow (k : Keeps s.heap s'.heap) (z : s.heap.objs.size ≤ s'.heap.objs.size) (o : s'.os = s.os:=by rfl) (g : s'.gens = s.gens:=by rfl) : Step own ι s ι s' :=
 ⟨k.imm,fun a o e uw uw=>k a o e,List.prefix_refl _,fun uw a b=>absurd a b,z,o,g⟩
theorem Step.trans (x : Step own ι s ι' s') (y : Step own ι' s' ι'' s'') : Step own ι s ι'' s'' where
 imm:=x.imm.trans y.imm
 keep:=fun a o e n i=>y.keep a o (x.keep a o e n i) n fun m=>by
  by_cases q : a ∈ ι
  ·exact i q
  ·exact absurd (Heap.lt_size e) (Nat.not_lt.mpr (x.fresh a m q))
 pre:=x.pre.trans y.pre
 fresh:=fun a m n=>by
  by_cases q : a ∈ ι'
  ·exact x.fresh a q n
  ·exact Nat.le_trans x.size (y.fresh a m q)
 size:=Nat.le_trans x.size y.size
 os:=y.os.trans x.os
 gens:=y.gens.trans x.gens
theorem Step.weaken {own' : Addr -> Prop} (x : Step own ι s ι' s') (k : ∀ a,own a -> own' a \/ s.heap.objs.size ≤ a) : Step own' ι s ι' s' :=
 { x with keep:=fun a o e n i=>x.keep a o e (fun q=>(k a q).elim n fun z=>absurd (Heap.lt_size e) (Nat.not_lt.mpr z)) i }
theorem HOk.grow {h h' : Heap} (H : HOk C ι σ h) (k : Keeps h h') (z : h.objs.size ≤ h'.objs.size) : HOk C ι σ h' :=
 ⟨H.len,H.nod,fun b o e=>k b o (H.base b o e),H.abv,fun e i=>(H.rep e i).mono (List.prefix_refl _) k.imm fun o q=>k _ o q,Nat.le_trans H.low z⟩
theorem HOk.obj {h : Heap} (H : HOk C ι σ h) {a : Addr} (m : a ∈ ι) : ∃ o',h.get? a = .some o' /\ immO o' = false /\ cellLike o' = true:=by
 obtain ⟨α,l,e⟩:=List.getElem_of_mem m
 exact e ▸ (H.rep (List.getElem?_eq_getElem (H.len ▸ l)) (List.getElem?_eq_getElem l)).some
theorem HOk.lt {h : Heap} (H : HOk C ι σ h) {a : Addr} (m : a ∈ ι) : a < h.objs.size:=let ⟨_,g,_⟩:=H.obj m; Heap.lt_size g
theorem HOk.notLike {h : Heap} (H : HOk C ι σ h) {a : Addr} {o : Obj} (g : h.get? a = .some o) (n : cellLike o = false) : a ∉ ι:=fun m=>by
 refine bq (H.obj m) fun o' g' uw c=>?_
 rw [g] at g'; cases g'; rw [n] at c; cases c
theorem HOk.push {h : Heap} (H : HOk C ι σ h) {o : Obj} {x : AO} (r : ORep C (ι ++ [h.objs.size]) (h.push o) x h.objs.size) : HOk C (ι ++ [h.objs.size]) (σ ++ [x]) (h.push o):=by
 have k : Keeps h (h.push o):=fun b o' e=>Heap.get?_push_of_some _ e
 have hz : (h.push o).objs.size = h.objs.size + 1:=by cases h; simp [Heap.push]
 refine ⟨by simp [H.len],?_,fun b o' e=>k b o' (H.base b o' e),?_,?_,by have:=H.low; lia⟩
 ·refine List.nodup_append.mpr ⟨H.nod,by simp,fun a ha b hb=>?_⟩
  simp only [List.mem_singleton] at hb
  subst hb
  exact Nat.ne_of_lt (H.lt ha)
 ·intro a ha
  rcases List.mem_append.mp ha with q | q
  ·exact H.abv a q
  ·simp only [List.mem_singleton] at q; subst q; exact H.low
 ·intro α y a e i
  by_cases q : α < σ.length
  ·rw [List.getElem?_append_left q] at e
   rw [List.getElem?_append_left (H.len ▸ q)] at i
   exact (H.rep e i).mono (List.prefix_append _ _) k.imm fun o q=>k _ o q
  ·have q' : α = σ.length:=by
    obtain ⟨l,_⟩:=List.getElem?_eq_some_iff.mp e
    simp at l; lia
   subst q'
   rw [List.getElem?_append_right (Nat.le_refl _)] at e
   rw [<- H.len,List.getElem?_append_right (Nat.le_refl _)] at i
   simp at e i
   subst e; subst i; exact r
theorem Step.push {o : Obj} {t : Nat} : Step own ι s (ι ++ [s.heap.objs.size]) { s with heap:=s.heap.push o,toks:=t }:=by
 have hz : (s.heap.push o).objs.size = s.heap.objs.size + 1:=by cases s.heap; simp [Heap.push]
 refine ⟨fun a o e uw=>Heap.get?_push_of_some _ e,fun a o e uw uw=>Heap.get?_push_of_some _ e,List.prefix_append _ _,fun a m n=>?_,by show _ ≤ (s.heap.push o).objs.size; lia,rfl,rfl⟩
 rcases List.mem_append.mp m with q | q
 ·exact absurd q n
 ·simp only [List.mem_singleton] at q; exact Nat.le_of_eq q.symm
theorem HOk.set {h h' : Heap} (H : HOk C ι σ h) {α : Nat} {a : Addr} {x : AO} (i : ι[α]? = some a) (b : Heap.SameBut a h h') (r : ORep C ι h' x a) : HOk C ι (σ.set α x) h':=by
 have la : α < σ.length:=by obtain ⟨l,_⟩:=List.getElem?_eq_some_iff.mp i; exact H.len ▸ l
 refine bq (H.obj (List.mem_of_getElem? i)) fun oa ga ia uw=>?_
 have k : ImmK h h':=fun c o e q=>by
  by_cases z : c = a
  ·subst z; rw [ga] at e; cases e; rw [ia] at q; cases q
  ·exact (b.2 c z).trans e
 refine ⟨by simp [H.len],H.nod,fun c o e=>?_,H.abv,?_,by rw [b.1]; exact H.low⟩
 ·by_cases z : c = a
  ·subst z
   have:=H.abv c (List.mem_of_getElem? i)
   exact absurd (Heap.lt_size e) (Nat.not_lt.mpr this)
  ·exact (b.2 c z).trans (H.base c o e)
 ·intro β y c e j
  by_cases z : β = α
  ·subst z
   rw [List.getElem?_set_self la] at e
   cases e
   rw [i] at j; cases j
   exact r
  ·rw [List.getElem?_set_ne (Ne.symm z)] at e
   have hc : c ≠ a:=fun q=>by
    subst q
    exact z (by
     obtain ⟨l1,e1⟩:=List.getElem?_eq_some_iff.mp i
     obtain ⟨l2,e2⟩:=List.getElem?_eq_some_iff.mp j
     exact (List.getElem_inj H.nod).mp (e2.trans e1.symm))
   exact (H.rep e j).mono (List.prefix_refl _) k fun o q=>(b.2 c hc).trans q
theorem HOk.setImm {h h' : Heap} (H : HOk C ι σ h) {α : Nat} {a : Addr} (i : ι[α]? = some a) (b : Heap.SameBut a h h') : ImmK h h':=by
 have la : α < σ.length:=by obtain ⟨l,_⟩:=List.getElem?_eq_some_iff.mp i; exact H.len ▸ l
 refine bq (H.obj (List.mem_of_getElem? i)) fun oa ga ia uw=>?_
 exact fun c o e q=>by
  by_cases z : c = a
  ·subst z; rw [ga] at e; cases e; rw [ia] at q; cases q
  ·exact (b.2 c z).trans e
theorem Step.set {h' : Heap} (H : HOk C ι σ s.heap) {α : Nat} {a : Addr} {t : Nat} (i : ι[α]? = some a) (b : Heap.SameBut a s.heap h') : Step own ι s ι { s with heap:=h',toks:=t } :=
 ⟨H.setImm i b,fun c o e uw n=>(b.2 c fun q=>n (q ▸ List.mem_of_getElem? i)).trans e,List.prefix_refl _,fun uw a b=>absurd a b,by rw [b.1]; exact Nat.le_refl _,rfl,rfl⟩
end
structure Room (A : Around) (d : Nat) : Prop where
 handled : A.handled = none
 depth : A.depth + d < recursionLimit
 units : A.units + 64 * (d + 1) < cLine
end Mine
end
section
set_option bootstrap.genMatcherCode false
open PySem
namespace Mine
noncomputable section
noncomputable def trC : Const -> Option AV
 | .none=>some .none
 | .bool b=>some (.bool b)
 | .int i=>some (.int i)
 | .str s=>some (.str (cd s))
 | _=>none
noncomputable def trB : Operator -> Option Bop
 | .Add=>some .add | .Sub=>some .sub | .Mult=>some .mul | .FloorDiv=>some .fdiv | .Mod=>some .mod | .Pow=>some .pow | .BitOr=>some .bor
 | _=>none
noncomputable def trK : CmpOp -> Option Cop
 | .Eq=>some .eq | .NotEq=>some .ne | .Lt=>some .lt | .Gt=>some .gt | .GtE=>some .ge | .In=>some .isIn | .NotIn=>some .notIn | .Is=>some .is | .IsNot=>some .isNot
 | _=>none
noncomputable def strKey (o : Option Expr) : Option Str:=o.bind fun e=>match e with
 | .Constant c _ _=>(match c with | .str s=>some s | _=>none)
 | _=>none
noncomputable def nameT : Expr -> Option Str
 | .Name x _=>some x
 | _=>none
noncomputable def superCall : Expr -> Bool
 | .Call _ _ _ _=>true
 | _=>false
noncomputable def compOk (kd : List (Str × NameKind)) (sc : Scope) (ts : List Str) : Bool :=
 (match sc.kind with | .function=>true | _=>false) && sc.names.all (fun y=>y.2 != .cell) && sc.names.all (fun y=>y.2 != .local || sc.names.lookup y.1 == some .local)
  && ts.all (fun t=>sc.names.lookup t == some .local && t != Str.ofString ".0") && sc.names.all (fun y=>y.2 != .local || ts.contains y.1 || y.1 == Str.ofString ".0") && sc.names.all (fun y=>y.2 != .free || kd.lookup y.1 == some .cell)
noncomputable def plainE : Expr -> Bool
 | .Compare _ _ _ _=>true
 | .Call _ _ _ _=>true
 | _=>false
noncomputable def tstE : Expr -> Bool
 | .Compare _ _ _ _=>true
 | .Call _ _ _ _=>true
 | .BoolOp _ _ _=>true
 | _=>false
noncomputable def trName (kd : List (Str × NameKind)) (x : Str) : Option X:=if x == Str.ofString "__debug__" || x == Str.ofString "__classdict__" || x == Str.ofString ".0" then none else (kd.lookup x).bind fun k=>match k with
 | .globalImplicit=>(gidT x).map fun g=>match g with
  | .fset _=>.nothing
  | g=>.glo g
 | .local=>some (.loc (cd x))
 | .cell=>some (.loc (cd x))
 | .free=>some (.loc (cd x))
 | _=>none
section
variable (kd : List (Str × NameKind)) (f g : Expr -> Option X)
noncomputable def trSub (e i : Expr) : Option X:=match i with
 | .Slice lo hi st _=>if st.isSome then none else lo.bind fun l=>hi.bind fun h=>(f e).bind fun x=>(f l).bind fun y=>(f h).map fun z=>.slc x y z
 | i=>(f e).bind fun x=>(f i).map fun y=>.sub x y
noncomputable def trDget (ks : List (Option Expr)) (vs es : List Expr) : Option X:=match es with
 | [k,dv]=>(ks.mapM strKey).bind fun ks'=>if goodKeys (ks'.map cd) vs.length then (vs.mapM f).bind fun vs'=>(f k).bind fun x=>(f dv).map fun y=>.dget (ks'.map cd) vs' x y else none
 | _=>none
noncomputable def trOn (o : Expr) (a : Str) (es : List Expr) : Option X:=match o with
 | .Dict ks vs _=>if a = Str.ofString "get" then trDget f ks vs es else none
 | o=>(f o).bind fun x=>(es.mapM f).map fun ys=>.mcall x (cd a) ys
noncomputable def trMeth (o : Expr) (a : Str) (ap : Pos) (es : List Expr) (p : Pos) : Option X :=
 if superCall o || decide (ap.endLine ≠ p.line) || decide (30 ≤ es.length) then none else trOn f o a es
noncomputable def trCall (h : Expr) (es : List Expr) (p : Pos) : Option X:=match h with
 | .Attribute o a ap=>trMeth f o a ap es p
 | h=>(f h).bind fun x=>(es.mapM f).map fun ys=>.call x ys
noncomputable def targetT : Expr -> Option (List Str)
 | .Name t _=>some [t]
 | .Tuple es _ _=>(es.mapM nameT).bind fun l=>match l with
  | [t,u]=>if t = u then none else some [t,u]
  | _=>none
 | _=>none
noncomputable def trComp (elt : Expr) (gens : List Comprehension) (sc : Scope) : Option X:=(one gens).bind fun c=>if c.is_async = 0 then (targetT c.target).bind fun ts=>if compOk kd sc ts then
  (g elt).bind fun x=>(f c.iter).bind fun y=>if c.ifs.all plainE then (c.ifs.mapM g).map fun zs=>.comp x (ts.map cd) y zs else none else none else none
end
noncomputable def trE : Nat -> List (Str × NameKind) -> Expr -> Option X
 | 0,_,_=>none
 | n + 1,kd,e=>match e with
  | .Constant c _ _=>(trC c).map .lit
  | .Name x _=>trName kd x
  | .Tuple es _ _=>if es.length ≤ 4000 then (es.mapM (trE n kd)).map .tup else none
  | .List es _=>(es.mapM (trE n kd)).map .lst
  | .Dict ks vs _=>if ks.isEmpty && vs.isEmpty then some .edict else none
  | .Attribute e a _=>if superCall e then none else (trE n kd e).map (.attr · (cd a))
  | .Subscript e i _=>trSub (trE n kd) e i
  | .BinOp a op b _=>(trB op).bind fun o=>(trE n kd a).bind fun x=>(trE n kd b).map fun y=>.bin o x y
  | .UnaryOp op a _=>match op with
   | .USub=>(trE n kd a).map .neg
   | _=>none
  | .Compare a ops bs _=>(one ops).bind fun op=>(one bs).bind fun b=>(trK op).bind fun o=>(trE n kd a).bind fun x=>(trE n kd b).map fun y=>.cmp o x y
  | .BoolOp op es _=>match op with
   | .And=>if es.all plainE && !es.isEmpty then (es.mapM (trE n kd)).map .and else none
   | .Or=>none
  | .IfExp t a b _=>if tstE t then (trE n kd t).bind fun x=>(trE n kd a).bind fun y=>(trE n kd b).map fun z=>.ite x y z else none
  | .Call f es ks p=>if ks.isEmpty then trCall (trE n kd) f es p else none
  | .ListComp elt gens sc _=>trComp kd (trE n kd) (trE n sc.names) elt gens sc
  | _=>none
noncomputable def stK (kd : List (Str × NameKind)) (x : Str) : Bool:=match kd.lookup x with
 | some k=>(match k with | .local=>true | .cell=>true | _=>false)
 | none=>false
noncomputable def isComp : Expr -> Bool
 | .ListComp ..=>true
 | .SetComp ..=>true
 | .DictComp ..=>true
 | _=>false
noncomputable def dullTuple : Expr -> Bool
 | .Tuple vs _ _=>vs.all (constantsAlone 8)
 | _=>false
section
variable (kd : List (Str × NameKind)) (f : Expr -> Option X) (fs : List Stmt -> Option (List XS))
noncomputable def trAsg (t e : Expr) : Option XS:=match t with
 | .Name x _=>if stK kd x then (f e).map (.asg (cd x)) else none
 | .Tuple ts _ _=>if isComp e || dullTuple e then none else (ts.mapM nameT).bind fun xs=>if xs.all (stK kd) && decide xs.Nodup then (f e).map (.asgN (xs.map cd)) else none
 | .Attribute o a _=>if isComp e then none else (f o).bind fun x=>(f e).map fun y=>.setA x (cd a) y
 | .Subscript o i _=>if isComp e then none else (f o).bind fun x=>(f i).bind fun y=>(f e).map fun z=>.setI x y z
 | _=>none
noncomputable def gG : X -> Option AV
 | .glo v=>some v
 | _=>none
noncomputable def gBl : AV -> Option Blt
 | .blt b=>some b
 | _=>none
noncomputable def enumE : Expr -> Option Expr
 | .Call h es ks _=>if ks.isEmpty then (nameT h).bind fun x=>(trName kd x).bind fun y=>(gG y).bind fun v=>(gBl v).bind fun b=>if b = .enumerate then one es else none else none
 | _=>none
noncomputable def trFor (t it : Expr) (b : List Stmt) : Option XS:=match t with
 | .Name x _=>if stK kd x then (f it).bind fun y=>(fs b).map fun z=>.for1 (cd x) y z else none
 | .Tuple ts _ _=>(ts.mapM nameT).bind fun l=>match l with
  | [x,y]=>if stK kd x && stK kd y && x != y then (enumE kd it).bind fun i=>(f i).bind fun j=>(fs b).map fun z=>.forE (cd x) (cd y) j z else none
  | _=>none
 | _=>none
end
noncomputable def trS : Nat -> List (Str × NameKind) -> Stmt -> Option XS
 | 0,_,_=>none
 | n + 1,kd,s=>match s with
  | .Assign ts e _=>(one ts).bind fun t=>trAsg kd (trE n kd) t e
  | .Expr e _=>if superCall e then (trE n kd e).map .expr else none
  | .Return e _=>e.bind fun e=>(trE n kd e).map .ret
  | .If t a b _=>if tstE t then (trE n kd t).bind fun x=>(a.mapM (trS n kd)).bind fun y=>(b.mapM (trS n kd)).map fun z=>.ifs x y z else none
  | .For t it b oe _=>if oe.isEmpty then trFor kd (trE n kd) (fun l=>l.mapM (trS n kd)) t it b else none
  | .While t b oe _=>if oe.isEmpty && tstE t then (trE n kd t).bind fun x=>(b.mapM (trS n kd)).map fun y=>.whl x y else none
  | _=>none
end
noncomputable section
noncomputable def Ob {α : Type} (o : Option α) (Q : α -> Prop) : Prop:=match o with | some a=>Q a | none=>False
noncomputable def Bb (v : AV) (A B : Prop) : Prop:=match v with | .bool r=>(match r with | true=>A | false=>B) | _=>False
noncomputable def Ib (v : AV) (Q : Int -> Prop) : Prop:=match v with | .int i=>Q i | _=>False
noncomputable def Sb (v : AV) (Q : Nat -> Prop) : Prop:=match v with | .str i=>Q i | _=>False
noncomputable def Rb (v : AV) (Q : Nat -> Prop) : Prop:=match v with | .ref i=>Q i | _=>False
noncomputable def unpk (v : AV) (σ : Hp) : Option (List AV):=match v with | .tup vs=>some vs | .ref p=>lstAt σ p | _=>none
noncomputable def retOf : Fl -> AV
 | .next=>.none
 | .ret v=>v
noncomputable abbrev Orc:=Nat -> List AV -> Hp -> (AV -> Hp -> Prop) -> Prop
section
variable (c c' : Orc)
noncomputable def CVo (u : AV) (vs : List AV) (σ : Hp) (Q : AV -> Hp -> Prop) : Prop:=match u with
 | .fn k=>c k vs σ Q
 | .meth s k=>c k (s :: vs) σ Q
 | .blt b=>Ob (bltCall b vs σ) fun r=>Q r.1 r.2
 | .cls k=>Ob (prg.init k) fun i=>c' i (.ref (σ.length + 1) :: vs) (σ ++ [.attrs [],.inst k σ.length]) fun r σ'=>r = .none /\ Q (.ref (σ.length + 1)) σ'
 | _=>False
noncomputable def MVo (m : Option Nat) (u : AV) (a : Nat) (vs : List AV) (σ : Hp) (Q : AV -> Hp -> Prop) : Prop:=match m with
 | some k=>c k (u :: vs) σ Q
 | none=>Rb u fun p=>Ob (lstAt σ p) fun xs=>Ob (mcallL σ p xs a vs) fun r=>Q r.1 r.2
end
noncomputable abbrev TrE:=Env -> Hp -> (AV -> Hp -> Prop) -> Prop
noncomputable abbrev TrB:=Env -> Hp -> (Bool -> Hp -> Prop) -> Prop
noncomputable abbrev TrF:=Env -> Hp -> (Fl -> Env -> Hp -> Prop) -> Prop
noncomputable def CLo (T : TrB) (E : TrE) (ts : List Nat) (v : AV) (ep α : Nat) (ρ : Env) (Q : AV -> Hp -> Prop) : Nat -> Nat -> Hp -> Prop
 | 0,_,_=>False
 | n + 1,i,σ=>Ob (nextOf σ v i ep) fun o=>match o with
  | none=>Q (.ref α) σ
  | some u=>Ob (bindT ts u) fun be=>T (be ++ ρ) σ fun b σ1=>match b with
   | true=>E (be ++ ρ) σ1 fun z σ2=>Ob (lstAt σ2 α) fun xs=>xs.length < 4000 /\ CLo T E ts v ep α ρ Q n (i + 1) (σ2.set α (.list (xs ++ [z])))
   | false=>CLo T E ts v ep α ρ Q n (i + 1) σ1
noncomputable def FLo (B : TrF) (x : Nat) (v : AV) (ep : Nat) (Q : Fl -> Env -> Hp -> Prop) : Nat -> Nat -> Env -> Hp -> Prop
 | 0,_,_,_=>False
 | n + 1,i,ρ,σ=>Ob (nextOf σ v i ep) fun o=>match o with
  | none=>Q .next ρ σ
  | some u=>B (setVar x u ρ) σ fun f ρ1 σ1=>match f with
   | .next=>FLo B x v ep Q n (i + 1) ρ1 σ1
   | .ret w=>Q (.ret w) ρ1 σ1
noncomputable def FEo (B : TrF) (x y : Nat) (p : Nat) (Q : Fl -> Env -> Hp -> Prop) : Nat -> Nat -> Env -> Hp -> Prop
 | 0,_,_,_=>False
 | n + 1,i,ρ,σ=>Ob (lstAt σ p) fun xs=>match xs[i]? with
  | none=>Q .next ρ σ
  | some u=>B (setVar y u (setVar x (.int i) ρ)) σ fun f ρ1 σ1=>match f with
   | .next=>FEo B x y p Q n (i + 1) ρ1 σ1
   | .ret w=>Q (.ret w) ρ1 σ1
noncomputable def WLo (T : TrE) (B : TrF) (Q : Fl -> Env -> Hp -> Prop) : Nat -> Env -> Hp -> Prop
 | 0,_,_=>False
 | n + 1,ρ,σ=>T ρ σ fun v σ1=>Bb v (B ρ σ1 fun f ρ1 σ2=>match f with
   | .next=>WLo T B Q n ρ1 σ2
   | .ret w=>Q (.ret w) ρ1 σ2) (Q .next ρ σ1)
section
variable (c c' : Orc)
mutual
noncomputable def wXo : X -> Env -> Hp -> (AV -> Hp -> Prop) -> Prop
 | .lit k,_,σ,Q=>Q k σ
 | .loc x,ρ,σ,Q=>Ob (getVar x ρ) fun v=>Q v σ
 | .glo g,_,σ,Q=>Q g σ
 | .nothing,_,σ,Q=>Q (.fset []) σ
 | .tup es,ρ,σ,Q=>wXso es ρ σ fun vs σ1=>Q (.tup vs) σ1
 | .lst es,ρ,σ,Q=>wXso es ρ σ fun vs σ1=>vs.length ≤ 4000 /\ Q (.ref σ1.length) (σ1 ++ [.list vs])
 | .attr e a,ρ,σ,Q=>wXo e ρ σ fun v σ1=>Ob (attrA prg.mt v a σ1) fun w=>Q w σ1
 | .sub a b,ρ,σ,Q=>wXo a ρ σ fun v σ1=>wXo b ρ σ1 fun w σ2=>Ob (subA v w σ2) fun u=>Q u σ2
 | .slc e a b,ρ,σ,Q=>wXo e ρ σ fun v σ1=>wXo a ρ σ1 fun w σ2=>wXo b ρ σ2 fun u σ3=>Ob (slcA v w u) fun z=>Q z σ3
 | .bin op a b,ρ,σ,Q=>wXo a ρ σ fun v σ1=>wXo b ρ σ1 fun w σ2=>Ob (binA op v w σ2) fun r=>Q r.1 r.2
 | .neg a,ρ,σ,Q=>wXo a ρ σ fun v σ1=>Ib v fun i=>Q (.int (-i)) σ1
 | .cmp op a b,ρ,σ,Q=>wXo a ρ σ fun v σ1=>wXo b ρ σ1 fun w σ2=>Ob (cmpA op v w σ2) fun r=>Q (.bool r) σ2
 | .and es,ρ,σ,Q=>wTo es ρ σ fun r σ1=>Q (.bool r) σ1
 | .ite t a b,ρ,σ,Q=>wXo t ρ σ fun v σ1=>Bb v (wXo a ρ σ1 Q) (wXo b ρ σ1 Q)
 | .call f es,ρ,σ,Q=>wXo f ρ σ fun u σ1=>wXso es ρ σ1 fun vs σ2=>CVo c c' u vs σ2 Q
 | .mcall o a es,ρ,σ,Q=>wXo o ρ σ fun u σ1=>Ob (calleeM prg.mt u a σ1) fun m=>wXso es ρ σ1 fun vs σ2=>MVo c m u a vs σ2 Q
 | .comp elt ts it cs,ρ,σ,Q=>wXo it ρ σ fun v σ1=>∃ n,CLo (wTo cs) (wXo elt) ts v (epOf σ1 v) σ1.length ρ Q n 0 (σ1 ++ [.list []])
 | .edict,_,σ,Q=>Q (.ref σ.length) (σ ++ [.dict [] 0])
 | .dget ks vs k dv,ρ,σ,Q=>wXso vs ρ σ fun ws σ1=>wXo k ρ σ1 fun kv σ2=>wXo dv ρ σ2 fun z σ3=>Sb kv fun s=>Q (((ks.zip ws).lookup s).getD z) σ3
noncomputable def wXso : List X -> Env -> Hp -> (List AV -> Hp -> Prop) -> Prop
 | [],_,σ,Q=>Q [] σ
 | e :: es,ρ,σ,Q=>wXo e ρ σ fun v σ1=>wXso es ρ σ1 fun vs σ2=>Q (v :: vs) σ2
noncomputable def wTo : List X -> Env -> Hp -> (Bool -> Hp -> Prop) -> Prop
 | [],_,σ,Q=>Q true σ
 | e :: es,ρ,σ,Q=>wXo e ρ σ fun v σ1=>Bb v (wTo es ρ σ1 Q) (Q false σ1)
end
mutual
noncomputable def wSo : XS -> Env -> Hp -> (Fl -> Env -> Hp -> Prop) -> Prop
 | .asg x e,ρ,σ,Q=>wXo c c' e ρ σ fun v σ1=>Q .next (setVar x v ρ) σ1
 | .asgN ts e,ρ,σ,Q=>wXo c c' e ρ σ fun v σ1=>Ob (unpk v σ1) fun vs=>vs.length = ts.length /\ Q .next (setVars ts vs ρ) σ1
 | .setA o x e,ρ,σ,Q=>wXo c c' e ρ σ fun v σ1=>wXo c c' o ρ σ1 fun u σ2=>∃ p k z l,u = .ref p /\ σ2[p]? = some (.inst k z) /\ σ2[z]? = some (.attrs l) /\ prg.mt k x = some none /\ l.length < top /\ Q .next ρ (σ2.set z (.attrs (setVar x v l)))
 | .setI o i e,ρ,σ,Q=>wXo c c' e ρ σ fun v σ1=>wXo c c' o ρ σ1 fun u σ2=>wXo c c' i ρ σ2 fun w σ3=>∃ p,u = .ref p /\
   ((∃ xs,∃ k : Nat,σ3[p]? = some (.list xs) /\ w = .int k /\ k < xs.length /\ xs.length ≤ top /\ Q .next ρ (σ3.set p (.list (xs.set k v)))) \/
    ∃ en ep kk,σ3[p]? = some (.dict en ep) /\ keyOf w = some kk /\ en.length < top /\ Q .next ρ (σ3.set p (.dict (dPut w kk v en) (if dHas kk en then ep else ep + 1))))
 | .expr e,ρ,σ,Q=>wXo c c' e ρ σ fun v σ1=>v = .none /\ Q .next ρ σ1
 | .ret e,ρ,σ,Q=>wXo c c' e ρ σ fun v σ1=>Q (.ret v) ρ σ1
 | .ifs t a b,ρ,σ,Q=>wXo c c' t ρ σ fun v σ1=>Bb v (wSso a ρ σ1 Q) (wSso b ρ σ1 Q)
 | .for1 x it b,ρ,σ,Q=>wXo c c' it ρ σ fun v σ1=>∃ n,FLo (wSso b) x v (epOf σ1 v) Q n 0 ρ σ1
 | .forE x y it b,ρ,σ,Q=>wXo c c' it ρ σ fun v σ1=>Rb v fun p=>∃ n,FEo (wSso b) x y p Q n 0 ρ σ1
 | .whl t b,ρ,σ,Q=>∃ n,WLo (wXo c c' t) (wSso b) Q n ρ σ
noncomputable def wSso : List XS -> Env -> Hp -> (Fl -> Env -> Hp -> Prop) -> Prop
 | [],ρ,σ,Q=>Q .next ρ σ
 | s :: ss,ρ,σ,Q=>wSo s ρ σ fun f ρ1 σ1=>match f with
  | .next=>wSso ss ρ1 σ1 Q
  | .ret v=>Q (.ret v) ρ1 σ1
end
end
noncomputable def bodyO (c c' : Orc) : Orc:=fun k as σ Q=>Ob (prg.fn k) fun f=>Ob (bindA f.params as f.dflts) fun ρ=>wSso c c' f.body ρ σ fun r uw σ'=>Q (retOf r) σ'
noncomputable def CFP : Nat -> Orc × Orc
 | 0=>(fun uw uw uw uw=>False,fun uw uw uw uw=>False)
 | d + 1=>(bodyO (CFP d).1 (CFP d).2,(CFP d).1)
noncomputable def CFW (d : Nat) : Orc:=(CFP d).1
noncomputable def CFK (d : Nat) : Orc:=(CFP d).2
end
end Mine
end
section
open PySem
namespace Mine
theorem aC {α : Type} {o : Option α} {Q R : α -> Prop} (i : ∀ a,Q a -> R a) (h : Ob o Q) : Ob o R:=by
 cases o with
 | none=>exact h
 | some a=>exact i a h
theorem eE {v : AV} {A B A' B' : Prop} (i : A -> A') (j : B -> B') (h : Bb v A B) : Bb v A' B':=by
 cases v with
 | bool b=>cases b with
  | true=>exact i h
  | false=>exact j h
 | _=>exact h
theorem qq {v : AV} {Q R : Int -> Prop} (i : ∀ a,Q a -> R a) (h : Ib v Q) : Ib v R:=by
 cases v with
 | int b=>exact i b h
 | _=>exact h
theorem qp {v : AV} {Q R : Nat -> Prop} (i : ∀ a,Q a -> R a) (h : Sb v Q) : Sb v R:=by
 cases v with
 | str b=>exact i b h
 | _=>exact h
theorem kH {v : AV} {Q R : Nat -> Prop} (i : ∀ a,Q a -> R a) (h : Rb v Q) : Rb v R:=by
 cases v with
 | ref b=>exact i b h
 | _=>exact h
noncomputable def OMono (c : Orc) : Prop:=∀ ⦃k : Nat⦄ ⦃as : List AV⦄ ⦃σ : Hp⦄ ⦃Q R : AV -> Hp -> Prop⦄,(∀ v τ,Q v τ -> R v τ) -> c k as σ Q -> c k as σ R
noncomputable def EMono (E : TrE) : Prop:=∀ ⦃ρ : Env⦄ ⦃σ : Hp⦄ ⦃Q R : AV -> Hp -> Prop⦄,(∀ v τ,Q v τ -> R v τ) -> E ρ σ Q -> E ρ σ R
noncomputable def BMono (E : TrB) : Prop:=∀ ⦃ρ : Env⦄ ⦃σ : Hp⦄ ⦃Q R : Bool -> Hp -> Prop⦄,(∀ v τ,Q v τ -> R v τ) -> E ρ σ Q -> E ρ σ R
noncomputable def FMono (E : TrF) : Prop:=∀ ⦃ρ : Env⦄ ⦃σ : Hp⦄ ⦃Q R : Fl -> Env -> Hp -> Prop⦄,(∀ f ρ τ,Q f ρ τ -> R f ρ τ) -> E ρ σ Q -> E ρ σ R
section
variable {c c' : Orc}
theorem oN (hc : OMono c) (hc' : OMono c') {u : AV} {vs : List AV} {σ : Hp} {Q R : AV -> Hp -> Prop} (i : ∀ v τ,Q v τ -> R v τ) (h : CVo c c' u vs σ Q) : CVo c c' u vs σ R:=by
 cases u with
 | fn k=>exact hc i h
 | meth s k=>exact hc i h
 | blt b=>exact aC (fun r=>i r.1 r.2) h
 | cls k=>exact aC (fun uw=>hc' fun uw τ q=>⟨q.1,i _ τ q.2⟩) h
 | _=>exact h
theorem oM (hc : OMono c) {m : Option Nat} {u : AV} {a : Nat} {vs : List AV} {σ : Hp} {Q R : AV -> Hp -> Prop} (i : ∀ v τ,Q v τ -> R v τ) (h : MVo c m u a vs σ Q) : MVo c m u a vs σ R:=by
 cases m with
 | some k=>exact hc i h
 | none=>exact kH (fun uw=>aC fun uw=>aC fun r=>i r.1 r.2) h
theorem eY {T : TrB} {E : TrE} (hT : BMono T) (hE : EMono E) {ts : List Nat} {v : AV} {ep α : Nat} {ρ : Env} {Q R : AV -> Hp -> Prop} (i : ∀ v τ,Q v τ -> R v τ) : ∀ (n : Nat) {j : Nat} {σ : Hp},CLo T E ts v ep α ρ Q n j σ -> CLo T E ts v ep α ρ R n j σ
 | 0,_,_,h=>h
 | n + 1,_,_,h=>aC (fun o h=>match o,h with
  | none,h=>i _ _ h
  | some _,h=>aC (fun uw=>hT fun b uw h=>match b,h with
   | true,h=>hE (fun uw uw=>aC fun uw h=>⟨h.1,eY hT hE i n h.2⟩) h
   | false,h=>eY hT hE i n h) h) h
theorem eV {B : TrF} (hB : FMono B) {x : Nat} {v : AV} {ep : Nat} {Q R : Fl -> Env -> Hp -> Prop} (i : ∀ f ρ τ,Q f ρ τ -> R f ρ τ) : ∀ (n : Nat) {j : Nat} {ρ : Env} {σ : Hp},FLo B x v ep Q n j ρ σ -> FLo B x v ep R n j ρ σ
 | 0,_,_,_,h=>h
 | n + 1,_,_,_,h=>aC (fun o h=>match o,h with
  | none,h=>i _ _ _ h
  | some _,h=>hB (fun f uw uw h=>match f,h with
   | .next,h=>eV hB i n h
   | .ret _,h=>i _ _ _ h) h) h
theorem eW {B : TrF} (hB : FMono B) {x y : Nat} {p : Nat} {Q R : Fl -> Env -> Hp -> Prop} (i : ∀ f ρ τ,Q f ρ τ -> R f ρ τ) : ∀ (n : Nat) {j : Nat} {ρ : Env} {σ : Hp},FEo B x y p Q n j ρ σ -> FEo B x y p R n j ρ σ
 | 0,_,_,_,h=>h
 | n + 1,j,_,_,h=>aC (fun xs h=>by
  revert h; generalize xs[j]? = o; intro h
  exact match o,h with
  | none,h=>i _ _ _ h
  | some _,h=>hB (fun f uw uw h=>match f,h with
   | .next,h=>eW hB i n h
   | .ret _,h=>i _ _ _ h) h) h
theorem eT {T : TrE} {B : TrF} (hT : EMono T) (hB : FMono B) {Q R : Fl -> Env -> Hp -> Prop} (i : ∀ f ρ τ,Q f ρ τ -> R f ρ τ) : ∀ (n : Nat) {ρ : Env} {σ : Hp},WLo T B Q n ρ σ -> WLo T B R n ρ σ
 | 0,_,_,h=>h
 | n + 1,_,_,h=>hT (fun uw uw=>eE (hB fun f uw uw h=>match f,h with
   | .next,h=>eT hT hB i n h
   | .ret _,h=>i _ _ _ h) (i _ _ _)) h
variable (hc : OMono c) (hc' : OMono c')
include hc hc'
mutual
theorem wXo_mono : ∀ (x : X) {ρ : Env} {σ : Hp} {Q R : AV -> Hp -> Prop},(∀ v τ,Q v τ -> R v τ) -> wXo c c' x ρ σ Q -> wXo c c' x ρ σ R
 | .lit _,_,_,_,_,i,h=>i _ _ h
 | .loc _,_,_,_,_,i,h=>aC (fun uw=>i _ _) h
 | .glo _,_,_,_,_,i,h=>i _ _ h
 | .nothing,_,_,_,_,i,h=>i _ _ h
 | .tup es,_,_,_,_,i,h=>wXso_mono es (fun uw uw=>i _ _) h
 | .lst es,_,_,_,_,i,h=>wXso_mono es (fun uw uw h=>⟨h.1,i _ _ h.2⟩) h
 | .attr e _,_,_,_,_,i,h=>wXo_mono e (fun uw uw=>aC fun uw=>i _ _) h
 | .sub a b,_,_,_,_,i,h=>wXo_mono a (fun uw uw=>wXo_mono b fun uw uw=>aC fun uw=>i _ _) h
 | .slc e a b,_,_,_,_,i,h=>wXo_mono e (fun uw uw=>wXo_mono a fun uw uw=>wXo_mono b fun uw uw=>aC fun uw=>i _ _) h
 | .bin _ a b,_,_,_,_,i,h=>wXo_mono a (fun uw uw=>wXo_mono b fun uw uw=>aC fun uw=>i _ _) h
 | .neg a,_,_,_,_,i,h=>wXo_mono a (fun uw uw=>qq fun uw=>i _ _) h
 | .cmp _ a b,_,_,_,_,i,h=>wXo_mono a (fun uw uw=>wXo_mono b fun uw uw=>aC fun uw=>i _ _) h
 | .and es,_,_,_,_,i,h=>wTo_mono es (fun uw uw=>i _ _) h
 | .ite t a b,_,_,_,_,i,h=>wXo_mono t (fun uw uw=>eE (wXo_mono a i) (wXo_mono b i)) h
 | .call f es,_,_,_,_,i,h=>wXo_mono f (fun uw uw=>wXso_mono es fun uw uw=>oN hc hc' i) h
 | .mcall o _ es,_,_,_,_,i,h=>wXo_mono o (fun uw uw=>aC fun uw=>wXso_mono es fun uw uw=>oM hc i) h
 | .comp elt _ it cs,_,_,_,_,i,h=>wXo_mono it (fun uw uw ⟨n,h⟩=>⟨n,eY (T:=wTo c c' cs) (E:=wXo c c' elt) (fun uw uw uw uw=>wTo_mono cs) (fun uw uw uw uw=>wXo_mono elt) i n h⟩) h
 | .edict,_,_,_,_,i,h=>i _ _ h
 | .dget _ vs k dv,_,_,_,_,i,h=>wXso_mono vs (fun uw uw=>wXo_mono k fun uw uw=>wXo_mono dv fun uw uw=>qp fun uw=>i _ _) h
theorem wXso_mono : ∀ (x : List X) {ρ : Env} {σ : Hp} {Q R : List AV -> Hp -> Prop},(∀ v τ,Q v τ -> R v τ) -> wXso c c' x ρ σ Q -> wXso c c' x ρ σ R
 | [],_,_,_,_,i,h=>i _ _ h
 | e :: es,_,_,_,_,i,h=>wXo_mono e (fun uw uw=>wXso_mono es fun uw uw=>i _ _) h
theorem wTo_mono : ∀ (x : List X) {ρ : Env} {σ : Hp} {Q R : Bool -> Hp -> Prop},(∀ v τ,Q v τ -> R v τ) -> wTo c c' x ρ σ Q -> wTo c c' x ρ σ R
 | [],_,_,_,_,i,h=>i _ _ h
 | e :: es,_,_,_,_,i,h=>wXo_mono e (fun uw uw=>eE (wTo_mono es i) (i _ _)) h
end
mutual
theorem wSo_mono : ∀ (x : XS) {ρ : Env} {σ : Hp} {Q R : Fl -> Env -> Hp -> Prop},(∀ f ρ τ,Q f ρ τ -> R f ρ τ) -> wSo c c' x ρ σ Q -> wSo c c' x ρ σ R
 | .asg _ e,_,_,_,_,i,h=>wXo_mono hc hc' e (fun uw uw=>i _ _ _) h
 | .asgN _ e,_,_,_,_,i,h=>wXo_mono hc hc' e (fun uw uw=>aC fun uw h=>⟨h.1,i _ _ _ h.2⟩) h
 | .setA o _ e,_,_,_,_,i,h=>wXo_mono hc hc' e (fun uw uw=>wXo_mono hc hc' o fun uw uw ⟨p,k,z,l,a,b,c,d,e,h⟩=>⟨p,k,z,l,a,b,c,d,e,i _ _ _ h⟩) h
 | .setI o j e,_,_,_,_,i,h=>wXo_mono hc hc' e (fun uw uw=>wXo_mono hc hc' o fun uw uw=>wXo_mono hc hc' j fun uw uw ⟨p,a,h⟩=>⟨p,a,h.imp (fun ⟨x,k,a,b,c,d,h⟩=>⟨x,k,a,b,c,d,i _ _ _ h⟩) fun ⟨x,k,l,a,b,c,h⟩=>⟨x,k,l,a,b,c,i _ _ _ h⟩⟩) h
 | .expr e,_,_,_,_,i,h=>wXo_mono hc hc' e (fun uw uw h=>⟨h.1,i _ _ _ h.2⟩) h
 | .ret e,_,_,_,_,i,h=>wXo_mono hc hc' e (fun uw uw=>i _ _ _) h
 | .ifs t a b,_,_,_,_,i,h=>wXo_mono hc hc' t (fun uw uw=>eE (wSso_mono a i) (wSso_mono b i)) h
 | .for1 _ it b,_,_,_,_,i,h=>wXo_mono hc hc' it (fun uw uw ⟨n,h⟩=>⟨n,eV (B:=wSso c c' b) (fun uw uw uw uw=>wSso_mono b) i n h⟩) h
 | .forE _ _ it b,_,_,_,_,i,h=>wXo_mono hc hc' it (fun uw uw=>kH fun uw ⟨n,h⟩=>⟨n,eW (B:=wSso c c' b) (fun uw uw uw uw=>wSso_mono b) i n h⟩) h
 | .whl t b,_,_,_,_,i,h=>let ⟨n,h⟩:=h; ⟨n,eT (T:=wXo c c' t) (B:=wSso c c' b) (fun uw uw uw uw=>wXo_mono hc hc' t) (fun uw uw uw uw=>wSso_mono b) i n h⟩
theorem wSso_mono : ∀ (x : List XS) {ρ : Env} {σ : Hp} {Q R : Fl -> Env -> Hp -> Prop},(∀ f ρ τ,Q f ρ τ -> R f ρ τ) -> wSso c c' x ρ σ Q -> wSso c c' x ρ σ R
 | [],_,_,_,_,i,h=>i _ _ _ h
 | s :: ss,_,_,_,_,i,h=>wSo_mono s (fun f uw uw h=>match f,h with
  | .next,h=>wSso_mono ss i h
  | .ret _,h=>i _ _ _ h) h
end
end
theorem jB {c c' : Orc} (hc : OMono c) (hc' : OMono c') : OMono (bodyO c c'):=fun uw uw uw uw uw i h=>aC (fun f=>aC fun uw=>wSso_mono hc hc' (Fun.body f) fun uw uw uw=>i _ _) h
theorem CFP_m : ∀ d,OMono (CFP d).1 /\ OMono (CFP d).2
 | 0=>⟨fun uw uw uw uw uw uw h=>h,fun uw uw uw uw uw uw h=>h⟩
 | d + 1=>⟨jB (CFP_m d).1 (CFP_m d).2,(CFP_m d).1⟩
end Mine
end
section
open PyProof.Rows PySem PySem.Calls PySem.W
namespace Mine
structure iV (env : PySem.Env) : Prop where
 kind : env.scope.kind = .function
 glob : env.globals = mainGlobals
 blt : env.builtins = builtinsNs
noncomputable def isVar : Option NameKind -> Bool
 | some .local | some .cell | some .free=>true
 | _=>false
noncomputable def KdOk (kd : List (Str × NameKind)) (env : PySem.Env) : Prop :=
 ∀ x,(isVar (kd.lookup x) = true -> isVar (env.kindOf x) = true) /\ (kd.lookup x = some .globalImplicit -> env.kindOf x = some .globalImplicit) /\ (kd.lookup x = some .cell -> env.kindOf x = some .cell)
noncomputable def NameIs (env : PySem.Env) (h : Heap) (x : Str) (u : Value) : Prop:=match env.kindOf x with
 | some .local=>∃ m,h.Ns env.locals m /\ m x = some u
 | some .cell | some .free=>∃ c,env.cells.lookup x = some c /\ h.IsCell c (some u)
 | _=>False
structure EnvOk (C : Cx) (env : PySem.Env) (ρ : Env) (ι : List Addr) (h : Heap) : Prop where
 vars : ∀ x v,x ≠ Str.ofString ".0" -> getVar (cd x) ρ = some v -> isVar (env.kindOf x) = true -> ∃ u,VRep C ι h v u /\ NameIs env h x u
 sep : env.locals ∉ ι
 ns : ∃ m,h.Ns env.locals m
 cells : ∀ x,env.kindOf x = some .cell -> ∃ c,env.cells.lookup x = some c
structure bi (C : Cx) : Prop where
 glob : ∀ x g,gidT x = some g -> ∃ u mg mb,C.base.Ns mainGlobals mg /\ C.base.Ns builtinsNs mb /\ (mg x = some u \/ (mg x = none /\ mb x = some u)) /\ VRep C [] C.base g u
 nothing : ∀ x l,gidT x = some (.fset l) -> l = []
 nolimit : C.base.NoLimit
 low : sysModules < C.base.objs.size
noncomputable abbrev Nought : Value -> Shared -> Prop:=fun uw uw=>False
noncomputable abbrev NoOwn : Addr -> Prop:=fun uw=>False
noncomputable abbrev PostE (C : Cx) (ι : List Addr) (s : Shared) (σ' : Hp) (v : AV) : Value -> Shared -> Prop :=
 fun w s'=>∃ ι',Step NoOwn ι s ι' s' /\ HOk C ι' σ' s'.heap /\ VRep C ι' s'.heap v w
section
variable (C : Cx) (ι : List Addr) (s : Shared)
inductive PE (Q : AV -> Hp -> Prop) (w : Value) (s' : Shared) : Prop
 | mk {v : AV} {σ' : Hp} {ι' : List Addr} (q : Q v σ') (x : Step NoOwn ι s ι' s') (H : HOk C ι' σ' s'.heap) (r : VRep C ι' s'.heap v w)
inductive PEs (Q : List AV -> Hp -> Prop) (w : List Value) (s' : Shared) : Prop
 | mk {v : List AV} {σ' : Hp} {ι' : List Addr} (q : Q v σ') (x : Step NoOwn ι s ι' s') (H : HOk C ι' σ' s'.heap) (r : VReps C ι' s'.heap v w)
inductive PB (Q : Bool -> Hp -> Prop) (b : Bool) (s' : Shared) : Prop
 | mk {σ' : Hp} {ι' : List Addr} (q : Q b σ') (x : Step NoOwn ι s ι' s') (H : HOk C ι' σ' s'.heap)
end
noncomputable abbrev wX (d : Nat):=wXo (CFW d) (CFK d)
noncomputable abbrev wXs (d : Nat):=wXso (CFW d) (CFK d)
noncomputable abbrev wT (d : Nat):=wTo (CFW d) (CFK d)
structure At (C : Cx) (d : Nat) (kd : List (Str × NameKind)) (env : PySem.Env) (A : Around) (ρ : Env) (σ : Hp) (ι : List Addr) (s : Shared) : Prop where
 kd : KdOk kd env
 es : iV env
 room : Room A d
 env : EnvOk C env ρ ι s.heap
 heap : HOk C ι σ s.heap
section
variable (C : Cx) (d : Nat) (k : Nat)
noncomputable def SndE : Prop:=∀ ⦃kd e x ρ σ Q env A ι s⦄,trE k kd e = some x -> wX d x ρ σ Q -> At C d kd env A ρ σ ι s ->
 wpAny (model C.prog C.w) A (eval e env) (PE C ι s Q) Nought s
noncomputable def SndEs : Prop:=∀ ⦃kd es xs ρ σ Q env A ι s pos⦄,es.mapM (trE k kd) = some xs -> wXs d xs ρ σ Q -> At C d kd env A ρ σ ι s ->
 wpAny (model C.prog C.w) A (spliced (backTo pos (starEach es env))) (PEs C ι s Q) Nought s
noncomputable def SndT : Prop:=∀ ⦃kd e x ρ σ Q env A ι s⦄,tstE e = true -> trE k kd e = some x -> wX d x ρ σ (fun v σ1=>Bb v (Q true σ1) (Q false σ1)) -> At C d kd env A ρ σ ι s ->
 wpAny (model C.prog C.w) A (isTrue e env (eval e env)) (PB C ι s Q) Nought s
end
section
variable {C : Cx} {ι ι' : List Addr} {σ σ' : Hp} {s s' : Shared} {env : PySem.Env} {ρ : Env} {A : Around} {d k : Nat} {kd : List (Str × NameKind)}
theorem HOk.notCell {h : Heap} (H : HOk C ι σ h) {c : Addr} {v : Option Value} (x : h.IsCell c v) : c ∉ ι:=let ⟨_,e,d⟩:=x; H.notLike e (by unfold cellLike; rw [d])
theorem Ns.lt {h : Heap} {a : Addr} {m : Str -> Option Value} (x : h.Ns a m) : a < h.objs.size:=let ⟨_,_,_,e,_⟩:=x; Heap.lt_size e
theorem Step.ns {own : Addr -> Prop} (x : Step own ι s ι' s') {a : Addr} {m : Str -> Option Value} (n : s.heap.Ns a m) (i : a ∉ ι) (j : ¬ own a) : s'.heap.Ns a m :=
 let ⟨o,es,ep,e,r⟩:=n; ⟨o,es,ep,x.keep a o e j i,r⟩
theorem Step.cell {own : Addr -> Prop} (x : Step own ι s ι' s') (H : HOk C ι σ s.heap) {a : Addr} {v : Option Value} (n : s.heap.IsCell a v) (j : ¬ own a) : s'.heap.IsCell a v :=
 let ⟨o,e,r⟩:=n; ⟨o,x.keep a o e j (H.notCell ⟨o,e,r⟩),r⟩
theorem NameIs.keep {h h' : Heap} {x : Str} {u : Value} (i : NameIs env h x u) (n : ∀ m,h.Ns env.locals m -> ∃ m',h'.Ns env.locals m' /\ (m x = some u -> m' x = some u)) (c : ∀ a,env.cells.lookup x = some a -> h.IsCell a (some u) -> h'.IsCell a (some u)) : NameIs env h' x u:=by
 revert i
 unfold NameIs
 cases env.kindOf x with
 | none=>exact id
 | some k=>intro i; cases k with
  | «local»=>exact let ⟨m,a,q⟩:=i; let ⟨m',a',f⟩:=n m a; ⟨m',a',f q⟩
  | cell=>exact let ⟨a,l,q⟩:=i; ⟨a,l,c a l q⟩
  | free=>exact let ⟨a,l,q⟩:=i; ⟨a,l,c a l q⟩
  | _=>exact i
theorem EnvOk.keep {h h' : Heap} (O : EnvOk C env ρ ι h) (p : ι <+: ι') (im : ImmK h h') (sep : env.locals ∉ ι') (n : ∀ m,h.Ns env.locals m -> h'.Ns env.locals m) (c : ∀ a v,h.IsCell a v -> h'.IsCell a v) : EnvOk C env ρ ι' h' where
 vars:=fun y v n0 e k=>let ⟨u,r,i⟩:=O.vars y v n0 e k; ⟨u,r.mono p im,i.keep (fun m a=>⟨m,n m a,id⟩) fun a uw=>c a _⟩
 sep:=sep
 ns:=let ⟨m,a⟩:=O.ns; ⟨m,n m a⟩
 cells:=O.cells
theorem Step.notIn {own : Addr -> Prop} (x : Step own ι s ι' s') {a : Addr} (n : a ∉ ι) (l : a < s.heap.objs.size) : a ∉ ι':=fun m=>Nat.not_lt.mpr (x.fresh a m n) l
theorem EnvOk.step (O : EnvOk C env ρ ι s.heap) (x : Step NoOwn ι s ι' s') (H : HOk C ι σ s.heap) : EnvOk C env ρ ι' s'.heap :=
 O.keep x.pre x.imm (x.notIn O.sep (let ⟨_,n⟩:=O.ns; Ns.lt n)) (fun uw n=>x.ns n O.sep id) fun uw uw q=>x.cell H q id
theorem At.step (a : At C d kd env A ρ σ ι s) (x : Step NoOwn ι s ι' s') (H : HOk C ι' σ' s'.heap) : At C d kd env A ρ σ' ι' s' :=
 ⟨a.kd,a.es,a.room,a.env.step x a.heap,H⟩
theorem HOk.toks {h : Heap} (H : HOk C ι σ h) : HOk C ι σ h:=H
theorem Step.tok {own : Addr -> Prop} (t : Nat) : Step own ι s ι { s with toks:=t }:=.grow (fun uw uw e=>e) (Nat.le_refl _)
theorem At.tok (a : At C d kd env A ρ σ ι s) (t : Nat) : At C d kd env A ρ σ ι { s with toks:=t }:=⟨a.kd,a.es,a.room,a.env,a.heap⟩
theorem ah {α β : Type} {o : Option α} {f : α -> Option β} {b : β} {G : Prop} (h : o.bind f = some b) (k : ∀ a,o = some a -> f a = some b -> G) : G:=by
 cases o with
 | none=>cases h
 | some a=>exact k a rfl h
theorem aG {α β : Type} {o : Option α} {f : α -> β} {b : β} {G : Prop} (h : o.map f = some b) (k : ∀ a,o = some a -> f a = b -> G) : G:=by
 cases o with
 | none=>cases h
 | some a=>cases h; exact k a rfl rfl
theorem d4 {α : Type} {o : Option α} {f : α -> X} {b : X} {G : Prop} {Q : AV -> Hp -> Prop} (h : o.map f = some b) (p : wX d b ρ σ Q) (k : ∀ a,o = some a -> wX d (f a) ρ σ Q -> G) : G:=aG h fun a h e=>k a h (e ▸ p)
theorem hJ {β : Type} {a b : β} {P : β -> Prop} (h : some a = some b) (p : P b) : P a:=by cases h; exact p
theorem ifC {β : Type} {c : Prop} [Decidable c] {o : Option β} {b : β} {G : Prop} (h : (if c then o else none) = some b) (k : c -> o = some b -> G) : G:=by
 split at h
 ·exact k ‹_› h
 ·cases h
theorem ifN {β : Type} {c : Prop} [Decidable c] {o : Option β} {b : β} {G : Prop} (h : (if c then none else o) = some b) (k : ¬ c -> o = some b -> G) : G:=by
 split at h
 ·cases h
 ·exact k ‹_› h
theorem bE {α : Type} {o : Option α} {Q : α -> Prop} {G : Prop} (h : Ob o Q) (k : ∀ a,o = some a -> Q a -> G) : G:=by
 cases o with
 | none=>exact h.elim
 | some a=>exact k a rfl h
theorem mapM_cons {α β : Type} {f : α -> Option β} {a : α} {l : List α} {r : List β} (h : (a :: l).mapM f = some r) : ∃ x xs,f a = some x /\ l.mapM f = some xs /\ r = x :: xs:=by
 rw [List.mapM_cons] at h
 cases e : f a with
 | none=>rw [e] at h; cases h
 | some x =>
  rw [e] at h
  cases e' : l.mapM f with
  | none=>rw [e'] at h; cases h
  | some xs=>rw [e'] at h; cases h; exact ⟨x,xs,rfl,rfl,rfl⟩
theorem mapM_nil {α β : Type} {f : α -> Option β} {r : List β} (h : ([] : List α).mapM f = some r) : r = []:=by
 simpa using h.symm
theorem bv {α β : Type} {f : α -> Option β} {a : α} {l : List α} {r : List β} {G : Prop} (h : (a :: l).mapM f = some r) (k : ∀ x xs,f a = some x -> l.mapM f = some xs -> r = x :: xs -> G) : G :=
 let ⟨x,xs,h1,h2,e⟩:=mapM_cons h
 k x xs h1 h2 e
theorem cB {k : Nat} {e : Expr} {rest : List Expr} {x : X} (h : trE k kd e = some x) : starEach (e :: rest) env = (false,eval e env) :: starEach rest env:=by
 cases k with
 | zero=>exact nn h
 | succ k=>cases e <;> first | rfl | exact nn h
theorem aF {m : Sem Value} {Q : AV -> Hp -> Prop} {R : Value -> Shared -> Prop} (h : wpAny (model C.prog C.w) A m (PE C ι s Q) Nought s)
  (k : ∀ v w σ₁ s₁ ι₁,Q v σ₁ -> Step NoOwn ι s ι₁ s₁ -> HOk C ι₁ σ₁ s₁.heap -> VRep C ι₁ s₁.heap v w -> R w s₁) : wpAny (model C.prog C.w) A m R Nought s :=
 wpAny_mono h (fun w s₁ ⟨q,x,H,r⟩=>k _ w _ s₁ _ q x H r) fun uw uw f=>f
theorem cU {m : Sem (List Value)} {Q : List AV -> Hp -> Prop} {R : List Value -> Shared -> Prop} (h : wpAny (model C.prog C.w) A m (PEs C ι s Q) Nought s)
  (k : ∀ v w σ₁ s₁ ι₁,Q v σ₁ -> Step NoOwn ι s ι₁ s₁ -> HOk C ι₁ σ₁ s₁.heap -> VReps C ι₁ s₁.heap v w -> R w s₁) : wpAny (model C.prog C.w) A m R Nought s :=
 wpAny_mono h (fun w s₁ ⟨q,x,H,r⟩=>k _ w _ s₁ _ q x H r) fun uw uw f=>f
theorem fw {m : Sem Bool} {Q : Bool -> Hp -> Prop} {R : Bool -> Shared -> Prop} (h : wpAny (model C.prog C.w) A m (PB C ι s Q) Nought s)
  (k : ∀ b σ₁ s₁ ι₁,Q b σ₁ -> Step NoOwn ι s ι₁ s₁ -> HOk C ι₁ σ₁ s₁.heap -> R b s₁) : wpAny (model C.prog C.w) A m R Nought s :=
 wpAny_mono h (fun w s₁ ⟨q,x,H⟩=>k w _ s₁ _ q x H) fun uw uw f=>f
theorem iB {m : Sem Value} {Q : AV -> Hp -> Prop} {s₁ s₂ : Shared} {ι₁ : List Addr} (x : Step NoOwn ι s ι₁ s₁) (h : wpAny (model C.prog C.w) A m (PE C ι₁ s₁ Q) Nought s₂) : wpAny (model C.prog C.w) A m (PE C ι s Q) Nought s₂ :=
 wpAny_mono h (fun uw uw ⟨q,y,H,r⟩=>⟨q,x.trans y,H,r⟩) fun uw uw f=>f
theorem qG {m : Sem Bool} {Q : Bool -> Hp -> Prop} {s₁ s₂ : Shared} {ι₁ : List Addr} (x : Step NoOwn ι s ι₁ s₁) (h : wpAny (model C.prog C.w) A m (PB C ι₁ s₁ Q) Nought s₂) : wpAny (model C.prog C.w) A m (PB C ι s Q) Nought s₂ :=
 wpAny_mono h (fun uw uw ⟨q,y,H⟩=>⟨q,x.trans y,H⟩) fun uw uw f=>f
theorem opE {m : Sem Value} {Q : AV -> Hp -> Prop} {s₁ s₂ : Shared} {ι₁ : List Addr} {v : AV} (x : Step NoOwn ι s ι₁ s₁) (q : Q v σ') (h : wpAny (model C.prog C.w) A m (PostE C ι₁ s₁ σ' v) Nought s₂) : wpAny (model C.prog C.w) A m (PE C ι s Q) Nought s₂ :=
 wpAny_mono h (fun uw uw ⟨_,y,H,r⟩=>⟨q,x.trans y,H,r⟩) fun uw uw f=>f
theorem iJ {v : AV} {w : Value} {Q : AV -> Hp -> Prop} {t : Nat} (H : HOk C ι σ s.heap) (q : Q v σ) (r : VRep C ι s.heap v w) : PE C ι s Q w { s with toks:=t }:=⟨q,.tok _,H,r⟩
theorem bS {v : AV} {w : Value} {t : Nat} (H : HOk C ι σ s.heap) (r : VRep C ι s.heap v w) : PostE C ι s σ v w { s with toks:=t }:=⟨ι,.tok _,H,r⟩
theorem fY {c : Const} {kk : Nat} {pos : Pos} {x : X} {Q : AV -> Hp -> Prop} (h : (trC c).map .lit = some x) (hw : wX d x ρ σ Q) (H : HOk C ι σ s.heap) :
  wpAny (model C.prog C.w) A (eval (.Constant c kk pos) env) (PE C ι s Q) Nought s:=by
 refine d4 h hw fun a h q=>?_
 rw [eval_Constant]
 cases c with
 | none=>exact wpAny_pure (iJ (t:=s.toks) H (hJ (P:=fun a=>Q a σ) h q) .none)
 | bool b=>exact wpAny_pure (iJ (t:=s.toks) H (hJ (P:=fun a=>Q a σ) h q) (.bool b))
 | int i=>exact wpAny_mkInt (iJ H (hJ (P:=fun a=>Q a σ) h q) (.int i _))
 | str x=>exact wpAny_mkText (iJ H (hJ (P:=fun a=>Q a σ) h q) (.str x _ rfl))
 | _=>exact nn h
theorem ph {x : Str} {pos : Pos} {Q : AV -> Hp -> Prop} (n1 : (x == Str.ofString "__debug__") = false) (n2 : (x == Str.ofString "__classdict__") = false) (n0 : x ≠ Str.ofString ".0") (hk : isVar (env.kindOf x) = true) (hw : wX d (.loc (cd x)) ρ σ Q) (a : At C d kd env A ρ σ ι s) :
  wpAny (model C.prog C.w) A (eval (.Name x pos) env) (PE C ι s Q) Nought s:=by
 refine bE hw fun v hv q=>?_
 obtain ⟨w,r,i⟩:=a.env.vars x v n0 hv hk
 refine wpAny_Name ?_ n1
 have fin : PE C ι s Q w { s with toks:=s.toks }:=iJ a.heap q r
 unfold NameIs at i
 split at i
 ·obtain ⟨m,ns,q⟩:=i; exact wpAny_loadName_local a.es.kind ‹_› ns q fin
 ·obtain ⟨c,ns,q⟩:=i; exact wpAny_loadName_cell a.es.kind ‹_› ns q fin
 ·obtain ⟨c,ns,q⟩:=i; exact wpAny_loadName_free a.es.kind ‹_› ns q fin n2
 ·exact i.elim
theorem pX (T : bi C) {x : Str} {g : AV} {Q : Value -> Shared -> Prop} (eg : gidT x = some g) (hx : env.kindOf x = some .globalImplicit) (n1 : (x == Str.ofString "__debug__") = false) (a : At C d kd env A ρ σ ι s) {pos : Pos} (k : ∀ u,VRep C ι s.heap g u -> Q u s) :
  wpAny (model C.prog C.w) A (eval (.Name x pos) env) Q Nought s:=by
 refine bf (T.glob x g eg) fun u mg mb g1 g2 q r=>?_
 have q0 : Q u s:=k u (r.mono List.nil_prefix (Keeps.imm a.heap.base))
 have n1' : s.heap.Ns env.globals mg:=a.es.glob ▸ g1.keeps a.heap.base
 have n2 : s.heap.Ns env.builtins mb:=a.es.blt ▸ g2.keeps a.heap.base
 refine Name_function_global a.es.kind hx ?_ n1
 rcases q with q | ⟨q1,q2⟩
 ·exact loadGlobal_global n1' q q0
 ·exact loadGlobal_builtin n1' q1 n2 q2 q0
theorem hP {x : Str} {pos : Pos} {y : X} {Q : AV -> Hp -> Prop} (T : bi C) (h : trName kd x = some y) (hw : wX d y ρ σ Q) (a : At C d kd env A ρ σ ι s) :
  wpAny (model C.prog C.w) A (eval (.Name x pos) env) (PE C ι s Q) Nought s:=by
 refine ifN h fun hn h=>ah h fun kk ek h=>?_
 simp only [Bool.or_eq_true,not_or,Bool.not_eq_true] at hn
 have n0 : x ≠ Str.ofString ".0":=beq_eq_false_iff_ne.mp hn.2
 have var (e : isVar (some kk) = true) (hy : some (X.loc (cd x)) = some y) : wpAny (model C.prog C.w) A (eval (.Name x pos) env) (PE C ι s Q) Nought s :=
  ph hn.1.1 hn.1.2 n0 ((a.kd x).1 (ek ▸ e)) (hJ (P:=fun y=>wX d y ρ σ Q) hy hw) a
 cases kk with
 | globalImplicit =>
  refine d4 h hw fun g eg hw=>pX T eg ((a.kd x).2.1 ek) hn.1.1 a fun u r=>?_
  cases g with
  | fset l=>cases T.nothing x l eg; exact ⟨hw,.refl,a.heap,r⟩
  | _=>exact ⟨hw,.refl,a.heap,r⟩
 | «local»=>exact var rfl h
 | cell=>exact var rfl h
 | free=>exact var rfl h
 | _=>exact nn h
end
section
variable (C : Cx)
noncomputable def Keeper (A : Around) (u : Value) (s : Shared) : Prop:=∃ kp,wpAny (model C.prog C.w) A (keeperOf u) (fun k s'=>k = kp /\ s' = s) Nought s
noncomputable def Back (Q : Value -> Shared -> Prop) : Result -> Shared -> Prop:=fun r s'=>match r with
 | .ok (.ret w)=>Q w s'
 | _=>False
noncomputable def SndF (c : Orc) (d : Nat) : Prop:=∀ ⦃k as σ Q A ι s us⦄,c k as σ Q -> VReps C ι s.heap as us -> HOk C ι σ s.heap -> Room A d ->
 Keeper C A (.ref (C.fa k)) s /\ codeAny (model C.prog C.w) A (.call (.ref (C.fa k)) ⟨us,[]⟩) (Back (PE C ι s Q)) s
noncomputable def SndV (d : Nat) : Prop:=∀ ⦃f as σ Q A ι s u us⦄,CVo (CFW d) (CFK d) f as σ Q -> VRep C ι s.heap f u -> VReps C ι s.heap as us -> HOk C ι σ s.heap -> Room A d ->
 Keeper C A u s /\ wpAny (model C.prog C.w) A (call u us) (PE C ι s Q) Nought s
structure Ops : Prop where
 top : bi C
 bin : ∀ {op o a b σ v σ' A d ι s u w},binA o a b σ = some (v,σ') -> trB op = some o -> VRep C ι s.heap a u -> VRep C ι s.heap b w -> HOk C ι σ s.heap -> Room A d ->
  wpAny (model C.prog C.w) A (binaryOp op u w) (PostE C ι s σ' v) Nought s
 neg : ∀ {i t A Q} {s : Shared},Q (Value.int (-i) s.toks) { s with toks:=s.toks + 1 } -> wpAny (model C.prog C.w) A (unaryOp .USub (.int i t)) Q Nought s
 cmp : ∀ {op o a b σ r A d ι s u w},cmpA o a b σ = some r -> trK op = some o -> VRep C ι s.heap a u -> VRep C ι s.heap b w -> HOk C ι σ s.heap -> Room A d ->
  wpAny (model C.prog C.w) A (compareOp op u w) (PostE C ι s σ (.bool r)) Nought s
 sub : ∀ {a i σ v A d ι s u w value slice},subA a i σ = some v -> (∀ o i,subscripted slice false o i = operate [o,i] (getItem o i)) -> VRep C ι s.heap a u -> VRep C ι s.heap i w -> HOk C ι σ s.heap -> Room A d ->
  wpAny (model C.prog C.w) A (subscriptTail value slice u w) (PostE C ι s σ v) Nought s
 slc : ∀ {a i j σ v A d ι s u lo hi lw hg p value},slcA a i j = some v -> VRep C ι s.heap a u -> VRep C ι s.heap i lo -> VRep C ι s.heap j hi -> HOk C ι σ s.heap -> Room A d ->
  wpAny (model C.prog C.w) A (newFields "slice" [lo,hi,.none]) (fun i s'=>wpAny (model C.prog C.w) A (subscriptTail value (.Slice (some lw) (some hg) none p) u i) (PostE C ι s σ v) Nought s') Nought s
 attr : ∀ {a σ v A d ι s u} {x : Str},attrA prg.mt a (cd x) σ = some v -> VRep C ι s.heap a u -> HOk C ι σ s.heap -> Room A d ->
  wpAny (model C.prog C.w) A (getAttr u x true) (PostE C ι s σ v) Nought s
 callee : ∀ {a c σ A d ι s u pl} {x : Str},calleeM prg.mt a (cd x) σ = some c -> VRep C ι s.heap a u -> HOk C ι σ s.heap -> Room A d ->
  wpAny (model C.prog C.w) A (getMethod u x pl) (fun q s'=>(match c with | some k=>q = (.ref (C.fa k),[u]) | none=>q = (.builtin ("list." ++ x.toString),[u])) /\ ∃ t,s' = { s with toks:=t }) Nought s
 blt : ∀ {b as σ v σ' A d ι s us},bltCall b as σ = some (v,σ') -> VReps C ι s.heap as us -> HOk C ι σ s.heap -> Room A d ->
  wpAny (model C.prog C.w) A (call (bltVal b) us) (PostE C ι s σ' v) Nought s
 listM : ∀ {σ p xs as v σ' A d ι s a us} {x : Str},mcallL σ p xs (cd x) as = some (v,σ') -> σ[p]? = some (.list xs) -> ι[p]? = some a -> VReps C ι s.heap as us -> HOk C ι σ s.heap -> Room A d ->
  wpAny (model C.prog C.w) A (call (.builtin ("list." ++ x.toString)) (.ref a :: us)) (PostE C ι s σ' v) Nought s
 dget : ∀ {d k kd ks vs es x ρ σ Q env A ι s ap p pd},SndE C d k -> trDget (trE k kd) ks vs es = some x -> wX d x ρ σ Q -> At C d kd env A ρ σ ι s -> ap.endLine = p.line ->
  wpAny (model C.prog C.w) A (eval (.Call (.Attribute (.Dict ks vs pd) (Str.ofString "get") ap) es [] p) env) (PE C ι s Q) Nought s
 edict : ∀ {σ p env A d ι s},HOk C ι σ s.heap -> Room A d -> wpAny (model C.prog C.w) A (eval (.Dict [] [] p) env) (PostE C ι s (σ ++ [.dict [] 0]) (.ref σ.length)) Nought s
end
section
variable {C : Cx} {ι ι' : List Addr} {σ σ' : Hp} {s s' : Shared} {env : PySem.Env} {ρ : Env} {A : Around} {d k : Nat} {kd : List (Str × NameKind)} {x : X} {pos : Pos} {Q : AV -> Hp -> Prop}
theorem dC {M : Model} {f : Value} {us : List Value} {Q : Value -> Shared -> Prop} (h : codeAny M A (.call f ⟨us,[]⟩) (Back Q) s) : wpAny M A (call f us) Q Nought s :=
 wpAny_call (codeAny_mono h fun r s' z=>by
  rcases r with e | (_ | _ | _ | _) <;> first | exact z | exact z.elim)
theorem dJ (I : SndE C d k) : SndEs C d k:=by
 intro kd es
 induction es with
 | nil =>
  intro xs ρ σ Q env A ι s pos h hw a
  cases mapM_nil h
  exact spliced_none ⟨hw,.refl,a.heap,.nil⟩
 | cons e es ih =>
  intro xs ρ σ Q env A ι s pos h hw a
  refine bv h fun y ys h1 h2 e=>?_
  cases e
  exact spliced_more (aF (I h1 hw a) fun v w σ₁ s₁ ι₁ hw x H r=>cU (ih h2 hw (a.step x H)) fun vs ws σ₂ s₂ ι₂ q x₂ H₂ r₂ =>
   ⟨q,x.trans x₂,H₂,.cons (r.mono x₂.pre x₂.imm) r₂⟩) (cB h1)
theorem jK {c c' : Orc} : ∀ {xs : List X} {ρ : Env} {σ : Hp} {Q : List AV -> Hp -> Prop},OMono c -> OMono c' -> wXso c c' xs ρ σ Q -> wXso c c' xs ρ σ (fun vs τ=>vs.length = xs.length /\ Q vs τ)
 | [],_,_,_,_,_,h=>⟨rfl,h⟩
 | x :: _,_,_,_,hc,hc',h=>wXo_mono hc hc' x (fun uw uw h=>wXso_mono hc hc' _ (fun uw uw h=>⟨congrArg (· + 1) h.1,h.2⟩) (jK hc hc' h)) h
theorem eM {α β : Type} {f : α -> Option β} : ∀ {l : List α} {r : List β},l.mapM f = some r -> r.length = l.length
 | [],_,h=>by cases mapM_nil h; rfl
 | _ :: _,_,h=>bv h fun uw uw uw h e=>e ▸ congrArg (· + 1) (eM h)
theorem aQ (h : Heap) (o : Obj) : h.objs.size ≤ (h.push o).objs.size:=by rw [size_push]; exact Nat.le_succ _
theorem kQ {es : List Expr} {kk : Nat} (I : SndE C d k) (h : trE (k + 1) kd (.Tuple es kk pos) = some x) (hw : wX d x ρ σ Q) (a : At C d kd env A ρ σ ι s) :
  wpAny (model C.prog C.w) A (eval (.Tuple es kk pos) env) (PE C ι s Q) Nought s:=by
 refine ifC h fun hl h=>d4 h hw fun ys h hw=>wpAny_Tuple_spliced ?_
 refine cU (dJ I h (jK (CFP_m d).1 (CFP_m d).2 hw) a) fun vs ws σ₁ s₁ ι₁ q x₁ H₁ r₁=>?_
 have hl' : vs.length ≤ top:=by rw [q.1,eM h]; exact hl
 have kp : Keeps s₁.heap (s₁.heap.push { cls:=.type "tuple",data:=.seq ws.toArray }):=fun uw uw e=>Heap.get?_push_of_some _ e
 exact ⟨by rw [<- r₁.length]; exact Nat.le_trans hl' (by decide),q.2,x₁.trans (.grow kp (aQ _ _)),H₁.grow kp (aQ _ _),.tup (Heap.get?_push_size _ rfl) (r₁.mono (List.prefix_refl _) kp.imm) hl'⟩
theorem n9 {ι₁ : List Addr} {σ₁ : Hp} {s₁ : Shared} {xs : List AV} {vs : List Value} (x₁ : Step NoOwn ι s ι₁ s₁) (H₁ : HOk C ι₁ σ₁ s₁.heap) (r₁ : VReps C ι₁ s₁.heap xs vs) (hl : xs.length ≤ 4000) (q : Q (.ref σ₁.length) (σ₁ ++ [.list xs])) :
  vs.length ≤ sizeLine /\ PE C ι s Q (.ref s₁.heap.objs.size) { s₁ with heap:=s₁.heap.push { cls:=.type "list",data:=.seq vs.toArray } } :=
 ⟨by rw [<- r₁.length]; exact Nat.le_trans hl (by decide),q,x₁.trans (.push (t:=s₁.toks)),H₁.push (.list (Heap.get?_push_size _ rfl) (r₁.mono (List.prefix_append _ _) fun uw uw e uw=>Heap.get?_push_of_some _ e) hl),.ref (by rw [<- H₁.len]; simp)⟩
theorem mo {es : List Expr} (I : SndE C d k) (h : trE (k + 1) kd (.List es pos) = some x) (hw : wX d x ρ σ Q) (a : At C d kd env A ρ σ ι s) :
  wpAny (model C.prog C.w) A (eval (.List es pos) env) (PE C ι s Q) Nought s :=
 d4 h hw fun uw h hw=>wpAny_List_spliced (cU (dJ I h hw a) fun uw uw uw uw uw q x₁ H₁ r₁=>n9 x₁ H₁ r₁ q.1 q.2)
theorem kT {l r : Expr} {op : Operator} (O : Ops C) (I : SndE C d k) (h : trE (k + 1) kd (.BinOp l op r pos) = some x) (hw : wX d x ρ σ Q) (a : At C d kd env A ρ σ ι s) :
  wpAny (model C.prog C.w) A (eval (.BinOp l op r pos) env) (PE C ι s Q) Nought s :=
 ah h fun uw ho h=>ah h fun uw hl h=>d4 h hw fun uw hr hw =>
  wpAny_BinOp (aF (I hl hw a) fun uw uw uw uw uw hw x₁ H₁ r₁=>aF (I hr hw (a.step x₁ H₁)) fun uw uw uw uw uw q x₂ H₂ r₂ =>
   bE q fun uw e q=>opE (x₁.trans x₂) q (O.bin e ho (r₁.mono x₂.pre x₂.imm) r₂ H₂ a.room))
theorem tw {h : Heap} {v : AV} {u : Value} {P : Int -> Prop} {G : Value -> Prop} (r : VRep C ι h v u) (q : Ib v P) (k : ∀ i t,P i -> G (.int i t)) : G u:=by
 cases r <;> first | exact k _ _ q | exact q.elim
theorem r6 {h : Heap} {v : AV} {u : Value} {P : Nat -> Prop} {G : Value -> Prop} (r : VRep C ι h v u) (q : Rb v P) (k : ∀ p b,ι[p]? = some b -> P p -> G (.ref b)) : G u:=by
 cases r <;> first | exact k _ _ ‹_› q | exact q.elim
theorem bm {p : Nat} {xs : List AV} (h : lstAt σ p = some xs) : σ[p]? = some (.list xs):=by
 unfold lstAt at h
 split at h
 ·cases h; assumption
 ·cases h
theorem oD {h : Heap} {v : AV} {u : Value} {P : Bool -> Prop} {G : AV -> Value -> Prop} (r : VRep C ι h v u) (q : Bb v (P true) (P false)) (k : ∀ b,P b -> G (.bool b) (.bool b)) : G v u:=by
 cases r <;> first | exact q.elim | (cases b <;> exact k _ q)
theorem r8 {e : Expr} {G : Expr -> Prop} (h : plainE e = true) (c : ∀ l o r p,G (.Compare l o r p)) (d : ∀ f es ks p,G (.Call f es ks p)) : G e:=by
 cases e <;> first | exact c _ _ _ _ | exact d _ _ _ _ | exact tf h
theorem tW {e : Expr} {G : Expr -> Prop} (h : tstE e = true) (c : plainE e = true -> G e) (d : ∀ o es p,G (.BoolOp o es p)) : G e:=by
 cases e <;> first | exact d _ _ _ | exact c rfl | exact tf h
theorem iS (op : UnaryOp) (e : Expr) (p : Pos) : eval (.UnaryOp op e p) env = (do let v <- eval e env; standAt p; holding [v] (unaryOp op v)):=rfl
theorem hM {e : Expr} {op : UnaryOp} (O : Ops C) (I : SndE C d k) (h : trE (k + 1) kd (.UnaryOp op e pos) = some x) (hw : wX d x ρ σ Q) (a : At C d kd env A ρ σ ι s) :
  wpAny (model C.prog C.w) A (eval (.UnaryOp op e pos) env) (PE C ι s Q) Nought s:=by
 cases op with
 | USub =>
  refine d4 h hw fun y h hw=>?_
  rw [iS]
  refine wpAny_bind (aF (I h hw a) fun v u σ₁ s₁ ι₁ q x₁ H₁ r₁=>wpAny_bind (wpAny_standAt (wpAny_holding ?_)))
  exact tw (G:=fun u=>wpAny (model C.prog C.w) A (unaryOp .USub u) (PE C ι s Q) Nought s₁) r₁ q fun i t q=>O.neg ⟨q,x₁.trans (.tok _),H₁,.int _ _⟩
 | _=>exact nn h
theorem bZ {α : Type} {l : List α} {a : α} (h : one l = some a) : l = [a]:=by
 cases l with
 | nil=>cases h
 | cons b r=>cases r with
  | nil=>cases h; rfl
  | cons=>cases h
theorem pH {α β : Type} {l : List α} {f : α -> Option β} {b : β} {G : List α -> Prop} (h : (one l).bind f = some b) (k : ∀ a,f a = some b -> G [a]) : G l :=
 ah h fun a e h=>bZ e ▸ k a h
theorem fG {op : CmpOp} {r : Expr} {z : X} (h : trE k kd r = some z) : behindInMarks op r = false:=by
 cases k with
 | zero=>exact nn h
 | succ k=>cases r <;> first | rfl | exact nn h
theorem jS {l r : Expr} {op : CmpOp} {o : Cop} {y z : X} {R : Value -> Shared -> Prop} (O : Ops C) (I : SndE C d k) (ho : trK op = some o) (hl : trE k kd l = some y) (hr : trE k kd r = some z) (hw : wX d (.cmp o y z) ρ σ Q) (a : At C d kd env A ρ σ ι s)
  (fin : ∀ w s',PE C ι s Q w s' -> R w s') : wpAny (model C.prog C.w) A (eval (.Compare l [op] [r] pos) env) R Nought s :=
 wpAny_Compare1 (aF (I hl hw a) fun uw uw uw uw uw hw x₁ H₁ r₁=>aF (I hr hw (a.step x₁ H₁)) fun uw uw uw uw uw q x₂ H₂ r₂ =>
   bE q fun uw e q=>wpAny_mono (opE (x₁.trans x₂) q (O.cmp e ho (r₁.mono x₂.pre x₂.imm) r₂ H₂ a.room)) fin fun uw uw f=>f) (fG hr)
theorem tG {l : Expr} {ops : List CmpOp} {rs : List Expr} {G : List CmpOp -> List Expr -> Prop} (h : trE (k + 1) kd (.Compare l ops rs pos) = some x) (hw : wX d x ρ σ Q)
  (K : ∀ op r o y z,trK op = some o -> trE k kd l = some y -> trE k kd r = some z -> wX d (.cmp o y z) ρ σ Q -> G [op] [r]) : G ops rs :=
 pH (l:=ops) (G:=fun ops=>G ops rs) h fun op h=>pH (l:=rs) (G:=fun rs=>G [op] rs) h fun r h=>ah h fun uw ho h=>ah h fun uw hl h=>d4 h hw fun uw hr hw=>K op r _ _ _ ho hl hr hw
theorem hU {l : Expr} {ops : List CmpOp} {rs : List Expr} (O : Ops C) (I : SndE C d k) (h : trE (k + 1) kd (.Compare l ops rs pos) = some x) (hw : wX d x ρ σ Q) (a : At C d kd env A ρ σ ι s) :
  wpAny (model C.prog C.w) A (eval (.Compare l ops rs pos) env) (PE C ι s Q) Nought s :=
 tG (G:=fun ops rs=>wpAny (model C.prog C.w) A (eval (.Compare l ops rs pos) env) (PE C ι s Q) Nought s) h hw fun uw uw uw uw uw ho hl hr hw=>jS O I ho hl hr hw a fun uw uw p=>p
theorem oC {P : Bool -> Hp -> Prop} {R : Bool -> Shared -> Prop} {u : Value} (q : PE C ι s (fun v σ1=>Bb v (P true σ1) (P false σ1)) u s') (k : ∀ b,PB C ι s P b s' -> R b s') :
  wpAny (model C.prog C.w) A (truthy u) R Nought s':=by
 obtain ⟨q,x,H,r⟩:=q
 exact oD (G:=fun uw u=>wpAny (model C.prog C.w) A (truthy u) R Nought s') r q fun b q=>wpAny_truthy_bool (k b ⟨q,x,H⟩)
theorem du {M : Model} {E : Value -> Shared -> Prop} {l r : Expr} {op : CmpOp} {whole : Sem Value} {Q : Bool -> Shared -> Prop} (hm : behindInMarks op r = false)
  (h : wpAny M A (eval (.Compare l [op] [r] pos) env) (fun v s'=>wpAny M A (truthy v) Q E s') E s) : wpAny M A (isTrue (.Compare l [op] [r] pos) env whole) Q E s:=fun Γ p hΓ=>by
 have h:=h Γ p hΓ
 simp only [eval_Compare1,isTrue_Compare1,markedBehindIn_of_false hm,Sem.wp_bind',Sem.wp_holding,Sem.wp_cmd_standAt,Sem.wp_operate] at h ⊢
 exact Sem.wp_mono M Γ _ (fun a p₁ s₁ h₁=>Sem.wp_mono M Γ _ (fun b uw s₂ h₂=>Sem.wp_mono M Γ _ (fun c p₃ s₃ h₃=>h₃ Γ p₃ hΓ)
  (fun uw uw uw h'=>h') _ _ h₂) (fun uw uw uw h'=>h') _ _ h₁) (fun uw uw uw h'=>h') _ _ h
theorem cV {P : Bool -> Hp -> Prop} {e : Expr} (O : Ops C) (I : ∀ m ≤ k,SndE C d m) (hp : plainE e = true) (h : trE k kd e = some x) (hw : wX d x ρ σ fun v σ1=>Bb v (P true σ1) (P false σ1)) (a : At C d kd env A ρ σ ι s) :
  wpAny (model C.prog C.w) A (isTrue e env (eval e env)) (PB C ι s P) Nought s:=by
 cases k with
 | zero=>exact nn h
 | succ k =>
  revert h
  refine r8 (G:=fun e=>trE (k + 1) kd e = some x -> wpAny (model C.prog C.w) A (isTrue e env (eval e env)) (PB C ι s P) Nought s) hp (fun l ops rs pos h=>?_) fun f es ks pos h=>?_
  ·exact tG (G:=fun ops rs=>wpAny (model C.prog C.w) A (isTrue (.Compare l ops rs pos) env (eval (.Compare l ops rs pos) env)) (PB C ι s P) Nought s) h hw fun uw uw uw uw uw ho hl hr hw=>du (fG hr) (jS O (I k (Nat.le_succ k)) ho hl hr hw a fun uw uw p=>oC p fun uw p=>p)
  ·exact isTrue_plain (wpAny_mono (I _ (Nat.le_refl _) h hw a) (fun uw uw p=>oC p fun uw p=>p) fun uw uw f=>f)
theorem m9 {P : Bool -> Hp -> Prop} (O : Ops C) (I : ∀ m ≤ k,SndE C d m) {whole : Sem Value} : ∀ {es : List Expr} {xs : List X} {σ : Hp} {ι : List Addr} {s : Shared},es.all plainE = true -> es.mapM (trE k kd) = some xs -> wT d xs ρ σ P -> At C d kd env A ρ σ ι s ->
  wpAny (model C.prog C.w) A (isTrue (.BoolOp .And es pos) env whole) (PB C ι s P) Nought s
 | [],_,_,_,_,_,h,hw,a=>by cases mapM_nil h; exact isTrue_and_nil ⟨hw,.refl,a.heap⟩
 | e :: es,_,_,_,_,hp,h,hw,a=>by
  refine bv h fun y ys h1 h2 e=>?_
  cases e
  rw [List.all_cons,Bool.and_eq_true] at hp
  refine isTrue_and (fw (cV (P:=fun b σ1=>match b with | true=>wT d ys ρ σ1 P | false=>P false σ1) O I hp.1 h1 hw a) fun b σ₁ s₁ ι₁ q x₁ H₁=>?_)
  cases b with
  | true=>exact qG x₁ (m9 O I hp.2 h2 q (a.step x₁ H₁))
  | false=>exact ⟨q,x₁,H₁⟩
theorem eG (O : Ops C) (I : ∀ m ≤ k,SndE C d m) : SndT C d k:=by
 intro kd e x ρ σ P env A ι s ht h hw a
 refine tW (G:=fun e=>trE k kd e = some x -> wpAny (model C.prog C.w) A (isTrue e env (eval e env)) (PB C ι s P) Nought s) ht (fun hp h=>cV O I hp h hw a) (fun op es pos h=>?_) h
 cases k with
 | zero=>exact nn h
 | succ k =>
  cases op with
  | Or=>exact nn h
  | And=>exact ifC h fun hp h=>d4 h hw fun ys h hw=>m9 O (fun m l=>I m (Nat.le_succ_of_le l)) (Bool.and_eq_true_iff.mp hp).1 h (wTo_mono (CFP_m d).1 (CFP_m d).2 ys (fun b uw q=>by cases b <;> exact q) hw) a
set_option backward.match.sparseCases true in
theorem jT (I : SndE C d k) : ∀ {es : List Expr} {e : Expr} {xs : List X} {σ : Hp} {ι : List Addr} {s : Shared},(e :: es).mapM (trE k kd) = some xs -> wT d xs ρ σ (fun r σ1=>Q (.bool r) σ1) -> At C d kd env A ρ σ ι s ->
  wpAny (model C.prog C.w) A (boolOp pos .And (evalEach (e :: es) env)) (PE C ι s Q) Nought s
 | [],e,_,σ,ι,s,h,hw,a=>bv h fun y ys h1 h2 e=>by
  rw [e,mapM_nil h2] at hw
  exact wpAny_mono (I h1 hw a) (fun w s' p=>let ⟨q,x,H,r⟩:=p; oD (P:=fun b=>Q (.bool b) _) (G:=fun uw u=>PE C ι s Q u s') r q fun b q=>⟨q,x,H,.bool b⟩) fun uw uw f=>f
 | e2 :: es,e,_,σ,ι,s,h,hw,a=>bv h fun y ys h1 h2 eq=>by
  rw [eq] at hw
  show wpAny _ _ (do
   let v <- eval e env
   standAt pos
   let t <- holding [v] (truthy v)
   match BoolOp.And,t with
   | .And,false | .Or,true=>pure v
   | _,_=>boolOp pos .And (evalEach (e2 :: es) env)) _ _ _
  refine wpAny_bind (aF (I h1 hw a) fun v u σ₁ s₁ ι₁ q x₁ H₁ r₁=>wpAny_bind (wpAny_standAt ?_))
  refine oD (P:=fun b=>match b with | true=>wT d ys ρ σ₁ (fun r σ1=>Q (.bool r) σ1) | false=>Q (.bool false) σ₁) (G:=fun uw u=>wpAny (model C.prog C.w) A (holding [u] (truthy u) >>= fun t=>match BoolOp.And,t with
   | .And,false | .Or,true=>pure u
   | _,_=>boolOp pos .And (evalEach (e2 :: es) env)) (PE C ι s Q) Nought s₁) r₁ q fun b q=>wpAny_bind (wpAny_holding (wpAny_truthy_bool ?_))
  cases b with
  | false=>exact wpAny_pure ⟨q,x₁,H₁,.bool _⟩
  | true=>exact iB x₁ (jT I h2 q (a.step x₁ H₁))
theorem j9 {es : List Expr} {op : BoolOp} (I : SndE C d k) (h : trE (k + 1) kd (.BoolOp op es pos) = some x) (hw : wX d x ρ σ Q) (a : At C d kd env A ρ σ ι s) :
  wpAny (model C.prog C.w) A (eval (.BoolOp op es pos) env) (PE C ι s Q) Nought s:=by
 cases op with
 | Or=>exact nn h
 | And =>
  refine ifC h fun hp h=>d4 h hw fun ys h hw=>?_
  cases es with
  | nil=>cases hp
  | cons e es=>exact jT I h hw a
theorem kR {t b o : Expr} (O : Ops C) (I : ∀ m ≤ k,SndE C d m) (h : trE (k + 1) kd (.IfExp t b o pos) = some x) (hw : wX d x ρ σ Q) (a : At C d kd env A ρ σ ι s) :
  wpAny (model C.prog C.w) A (eval (.IfExp t b o pos) env) (PE C ι s Q) Nought s:=by
 have J:=I k (Nat.le_refl k)
 refine ifC h fun ht h=>ah h fun y h1 h=>ah h fun z h2 h=>d4 h hw fun q h3 hw=>?_
 refine wpAny_IfExp (fw (eG (Q:=fun b σ1=>match b with | true=>wX d z ρ σ1 Q | false=>wX d q ρ σ1 Q) O I ht h1 hw a) fun c σ₁ s₁ ι₁ q x₁ H₁=>?_)
 cases c with
 | true=>exact iB x₁ (J h2 q (a.step x₁ H₁))
 | false=>exact iB x₁ (J h3 q (a.step x₁ H₁))
end
section
variable {C : Cx} {ι ι' : List Addr} {σ σ' : Hp} {s s' : Shared} {env : PySem.Env} {ρ : Env} {A : Around} {d k : Nat} {kd : List (Str × NameKind)} {x : X} {pos : Pos} {Q : AV -> Hp -> Prop}
theorem bp {o : Expr} {a : Str} {whole : Sem Value} (h : superCall o = false) : attributeBase o a env whole = whole:=by
 cases o <;> first | rfl | exact tf h.symm
theorem fq (e : Expr) (a : Str) (p : Pos) : eval (.Attribute e a p) env = (do
  let o <- attributeBase e a env (eval e env)
  standAt p.atName
  let r <- holding [o] (getAttr o a true)
  letTemporaryGo e o r
  pure r):=rfl
theorem fh {e : Expr} {a : Str} (O : Ops C) (I : SndE C d k) (h : trE (k + 1) kd (.Attribute e a pos) = some x) (hw : wX d x ρ σ Q) (at' : At C d kd env A ρ σ ι s) :
  wpAny (model C.prog C.w) A (eval (.Attribute e a pos) env) (PE C ι s Q) Nought s:=by
 refine ifN h fun hs h=>d4 h hw fun y h hw=>?_
 rw [fq,bp (Bool.not_eq_true _ ▸ hs)]
 exact wpAny_bind (aF (I h hw at') fun v u σ₁ s₁ ι₁ q x₁ H₁ r₁=>wpAny_bind (wpAny_standAt (wpAny_bind (wpAny_holding (bE q fun w e q =>
  wpAny_mono (opE x₁ q (O.attr e r₁ H₁ at'.room)) (fun w s₂ p=>wpAny_bind (wpAny_letTemporaryGo (wpAny_pure p))) fun uw uw f=>f)))))
theorem mX {i : Expr} {z : X} (h : trE k kd i = some z) (o j : Value) : subscripted i false o j = operate [o,j] (getItem o j):=by
 cases k with
 | zero=>exact nn h
 | succ k=>cases i <;> first | rfl | exact nn h
theorem qU {e i : Expr} {f : Expr -> Option X} {G : Expr -> Prop} (h : trSub f e i = some x)
  (a : ∀ l h' p,(f e).bind (fun x=>(f l).bind fun y=>(f h').map fun z=>.slc x y z) = some x -> G (.Slice (some l) (some h') none p))
  (b : ∀ i,(f e).bind (fun x=>(f i).map fun y=>.sub x y) = some x -> G i) : G i:=by
 cases i with
 | Slice lo hi st p =>
  cases st with
  | some=>cases h
  | none=>cases lo with
   | none=>cases h
   | some l=>cases hi with
    | none=>cases h
    | some h'=>exact a _ _ _ h
 | _=>exact b _ h
theorem ff {e i : Expr} (O : Ops C) (I : SndE C d k) (h : trE (k + 1) kd (.Subscript e i pos) = some x) (hw : wX d x ρ σ Q) (a : At C d kd env A ρ σ ι s) :
  wpAny (model C.prog C.w) A (eval (.Subscript e i pos) env) (PE C ι s Q) Nought s:=by
 refine qU (G:=fun i=>wpAny (model C.prog C.w) A (eval (.Subscript e i pos) env) (PE C ι s Q) Nought s) h (fun lo hi p h=>?_) fun i h=>?_
 ·refine ah h fun y h1 h=>ah h fun z h2 h=>d4 h hw fun t h3 hw=>Subscript_ (aF (I h1 hw a) fun v u σ₁ s₁ ι₁ hw x₁ H₁ r₁=>?_)
  have a₁:=a.step x₁ H₁
  show wpAny _ _ (do
   let l <- eval lo env
   let u' <- holding [l] (eval hi env)
   let s' <- holding [l,u'] (pure Value.none : Sem Value)
   newFields "slice" [l,u',s']) _ _ _
  refine wpAny_bind (aF (I h2 hw a₁) fun v2 w σ₂ s₂ ι₂ hw x₂ H₂ r₂=>wpAny_bind (wpAny_holding (aF (I h3 hw (a₁.step x₂ H₂)) fun v3 w' σ₃ s₃ ι₃ q x₃ H₃ r₃=>wpAny_bind (wpAny_holding (wpAny_pure ?_)))))
  have x₂₃:=x₂.trans x₃
  exact bE q fun uw e q=>wpAny_mono (O.slc (σ:=σ₃) e (r₁.mono x₂₃.pre x₂₃.imm) (r₂.mono x₃.pre x₃.imm) r₃ H₃ a.room) (fun uw uw p=>opE (x₁.trans x₂₃) q p) fun uw uw f=>f
 ·exact ah h fun uw h1 h=>d4 h hw fun uw h2 hw=>Subscript_ (aF (I h1 hw a) fun uw uw uw uw uw hw x₁ H₁ r₁=>aF (I h2 hw (a.step x₁ H₁)) fun uw uw uw uw uw q x₂ H₂ r₂ =>
   bE q fun uw e q=>opE (x₁.trans x₂) q (O.sub e (mX h2) (r₁.mono x₂.pre x₂.imm) r₂ H₂ a.room))
theorem gU {u : Value} {first : List Value} {args : List (Bool × Sem Value)} {Q : Value -> Shared -> Prop} (hst : args.any (·.1) = false)
  (h : wpAny (model C.prog C.w) A (evalArgs u true args []) (fun as s₁=>∃ vs,as = ⟨vs,[]⟩ /\ Keeper C A u s₁ /\ wpAny (model C.prog C.w) A (call u (first ++ vs)) Q Nought s₁) Nought s) :
  wpAny (model C.prog C.w) A (callWith pos u first args []) Q Nought s:=by
 unfold callWith
 refine wpAny_bind (wpAny_holding (wpAny_mono h (fun as s₁ h₁=>?_) fun uw uw f=>f))
 obtain ⟨vs,rfl,⟨kp,hk⟩,hc⟩:=h₁
 refine wpAny_bind (wpAny_standAt ?_)
 dsimp only
 simp only [hst,List.any_nil,Bool.or_false]
 have tail : ∀ {t : Sem Value},wpAny (model C.prog C.w) A t Q Nought s₁ -> wpAny (model C.prog C.w) A (t >>= fun r=>holding [r] point >>= fun uw=>pure r) Q Nought s₁ :=
  fun ht=>wpAny_bind (wpAny_mono ht (fun r s₂ hr=>wpAny_bind (wpAny_holding (wpAny_point (wpAny_pure hr)))) fun uw uw x=>x)
 refine wpAny_bind (wpAny_mono hk (fun kp' s₂ e=>?_) fun uw uw f=>f)
 obtain ⟨rfl,rfl⟩:=e
 cases kp' with
 | frame =>
  dsimp only
  split
  ·exact tail hc
  ·exact tail (by unfold callMarked; exact wpAny_keep hc)
 | boundFrame =>
  dsimp only
  split
  ·exact tail hc
  ·exact tail (by unfold callMarked; exact wpAny_keep hc)
 | machine=>exact tail hc
 | caller=>exact tail (wpAny_operating hc)
theorem jl {es : List Expr} {xs : List X} (h : es.mapM (trE k kd) = some xs) : (backTo pos (starEach es env)).any (·.1) = false:=by
 induction es generalizing xs with
 | nil=>rfl
 | cons e es ih =>
  refine bv h fun y ys h1 h2 uw=>?_
  rw [cB h1]
  exact ih h2
theorem gO {M : Model} {E : Value -> Shared -> Prop} {f : Value} {Q : Args -> Shared -> Prop} (h : wpAny M A (spliced []) (fun vs s'=>Q ⟨vs,[]⟩ s') E s) : wpAny M A (evalArgs f true [] []) Q E s:=by
 unfold evalArgs
 show wpAny M A (spliced [] >>= _) Q E s
 refine wpAny_bind (wpAny_mono h (fun vs s' h'=>?_) fun uw uw x=>x)
 refine wpAny_holding ?_
 exact wpAny_bind (wpAny_pure (wpAny_bind (wpAny_pure (wpAny_pure h'))))
theorem bD {u : Value} {first : List Value} {es : List Expr} {xs : List X} {Q : Value -> Shared -> Prop} (hm : es.mapM (trE k kd) = some xs)
  (h : wpAny (model C.prog C.w) A (spliced (backTo pos (starEach es env))) (fun vs s₁=>Keeper C A u s₁ /\ wpAny (model C.prog C.w) A (call u (first ++ vs)) Q Nought s₁) Nought s) {p : Pos} :
  wpAny (model C.prog C.w) A (callWith p u first (backTo pos (starEach es env)) []) Q Nought s:=by
 refine gU (jl hm) ?_
 cases es with
 | nil=>exact gO (wpAny_mono h (fun vs s₁ q=>⟨vs,rfl,q⟩) fun uw uw f=>f)
 | cons e es =>
  refine bv hm fun y ys h1 uw uw=>?_
  rw [cB h1] at h ⊢
  exact evalArgs_plain (wpAny_mono h (fun vs s₁ q=>⟨vs,rfl,q⟩) fun uw uw f=>f)
theorem fQ {o : Expr} {a : Str} {ap p : Pos} {es : List Expr} : eval (.Call (.Attribute o a ap) es [] p) env = (do
  let ov <- attributeBase o a env (eval o env)
  standAt ap.atName
  methodCall o a ap p env ov (es.length + ([] : List Keyword).length) (backTo p (starEach es env)) (backToKw p (keywordEach [] env))):=rfl
theorem qf {h : Expr} {es : List Expr} {p : Pos} {f : Expr -> Option X} {G : Expr -> Prop} (e : trCall f h es p = some x) (a : ∀ o a ap,trMeth f o a ap es p = some x -> G (.Attribute o a ap))
  (b : ∀ h,eval (.Call h es [] p) env = (do callWith p (<- eval h env) [] (backTo p (starEach es env)) (backToKw p (keywordEach [] env))) -> (f h).bind (fun x=>(es.mapM f).map fun ys=>.call x ys) = some x -> G h) : G h:=by
 cases h <;> first | exact a _ _ _ e | exact b _ rfl e
theorem bK {id : String} : Keeper C A (.builtin id) s:=⟨.machine,wpAny_pure ⟨rfl,rfl⟩⟩
theorem e9 {id : String} : Keeper C A (.type id) s:=⟨.machine,wpAny_pure ⟨rfl,rfl⟩⟩
theorem onC {o : Expr} {a : Str} {es : List Expr} {f : Expr -> Option X} {G : Expr -> Prop} (h : trOn f o a es = some x) (d : ∀ ks vs p,(if a = Str.ofString "get" then trDget f ks vs es else none) = some x -> G (.Dict ks vs p))
  (b : ∀ o,(f o).bind (fun x=>(es.mapM f).map fun ys=>.mcall x (cd a) ys) = some x -> G o) : G o:=by
 cases o <;> first | exact d _ _ _ h | exact b _ h
theorem rX {es : List Expr} {ys : List X} (h : es.mapM (trE k kd) = some ys) (l : es.length < 30) : methodCallForm (es.length + ([] : List Keyword).length) (backTo pos (starEach es env)) (backToKw pos (keywordEach [] env)) = true:=by
 unfold methodCallForm
 have:=jl (pos:=pos) (env:=env) h
 rw [List.any_eq_false] at this
 rw [Bool.and_eq_true,Bool.and_eq_true]
 exact ⟨⟨List.all_eq_true.mpr fun x hx=>by simpa using this x hx,rfl⟩,decide_eq_true l⟩
theorem ng {o : Expr} {at' : Str} {ap : Pos} {es : List Expr} {ys : List X} {ov f : Value} {fs : List Value} {R : Value -> Shared -> Prop} (hp : ap.endLine = pos.line) (hl : es.length < 30) (h2 : es.mapM (trE k kd) = some ys)
  (hg : ∀ pl,wpAny (model C.prog C.w) A (getMethod ov at' pl) (fun q s'=>q = (f,fs) /\
   wpAny (model C.prog C.w) A (spliced (backTo pos (starEach es env))) (fun vs s₁=>Keeper C A f s₁ /\ wpAny (model C.prog C.w) A (call f (fs ++ vs)) R Nought s₁) Nought s') Nought s) :
  wpAny (model C.prog C.w) A (methodCall o at' ap pos env ov (es.length + ([] : List Keyword).length) (backTo pos (starEach es env)) (backToKw pos (keywordEach [] env))) R Nought s:=by
 unfold methodCall
 rw [rX h2 hl]
 refine wpAny_bind (wpAny_holding ?_)
 show wpAny _ _ (getMethod ov at' _) _ _ _
 refine wpAny_mono (hg _) (fun m s₂ hm=>?_) fun uw uw f=>f
 have pc : methodCallPos true o env ap pos = pure pos:=by unfold methodCallPos; simp [hp]
 refine wpAny_bind ?_
 rw [pc]
 refine wpAny_pure ?_
 rw [hm.1]
 exact bD h2 hm.2
theorem kP {o : Expr} {at' : Str} {ap : Pos} {es : List Expr} {y : X} {ys : List X} (O : Ops C) (F : SndF C (CFW d) d) (I : SndE C d k) (hs : superCall o = false) (hp : ap.endLine = pos.line) (hl : es.length < 30) (h1 : trE k kd o = some y) (h2 : es.mapM (trE k kd) = some ys)
  (hw : wX d (.mcall y (cd at') ys) ρ σ Q) (a : At C d kd env A ρ σ ι s) : wpAny (model C.prog C.w) A (eval (.Call (.Attribute o at' ap) es [] pos) env) (PE C ι s Q) Nought s:=by
 rw [fQ,bp hs]
 refine wpAny_bind (aF (I h1 hw a) fun v u σ₁ s₁ ι₁ q x₁ H₁ r₁=>wpAny_bind (wpAny_standAt (bE q fun c ec q=>?_)))
 refine ng (f:=match c with | some k=>.ref (C.fa k) | none=>.builtin ("list." ++ at'.toString)) (fs:=[u]) hp hl h2 fun pl=>(wpAny_mono (O.callee ec r₁ H₁ a.room) (fun m s₂ hm=>⟨by cases c <;> exact hm.1,?_⟩) fun uw uw f=>f)
 obtain ⟨_,t,rfl⟩:=hm
 refine cU (dJ I h2 q ((a.step x₁ H₁).tok t)) fun vs ws σ₃ s₃ ι₃ q x₃ H₃ r₃=>?_
 have x₃' : Step NoOwn ι₁ s₁ ι₃ s₃:=(Step.tok t).trans x₃
 cases c with
 | some kf =>
  have fc:=F q (.cons (r₁.mono x₃'.pre x₃'.imm) r₃) H₃ a.room
  exact ⟨fc.1,iB (x₁.trans x₃') (dC fc.2)⟩
 | none =>
  refine ⟨bK,?_⟩
  refine r6 (G:=fun u=>wpAny (model C.prog C.w) A (call (.builtin ("list." ++ at'.toString)) ([u] ++ ws)) (PE C ι s Q) Nought s₃) r₁ q fun p b ip q=>bE q fun xs el q=>bE q fun r er q=>?_
  exact opE (x₁.trans x₃') q (O.listM er (bm el) (cm x₃'.pre ip) r₃ H₃ a.room)
theorem mq {f : Expr} {es : List Expr} {ks : List Keyword} (O : Ops C) (F : SndF C (CFW d) d) (V : SndV C d) (I : SndE C d k) (h : trE (k + 1) kd (.Call f es ks pos) = some x) (hw : wX d x ρ σ Q) (a : At C d kd env A ρ σ ι s) :
  wpAny (model C.prog C.w) A (eval (.Call f es ks pos) env) (PE C ι s Q) Nought s:=by
 refine ifC h fun hk h=>?_
 cases ks with
 | cons=>cases hk
 | nil =>
  refine qf (env:=env) (G:=fun f=>wpAny (model C.prog C.w) A (eval (.Call f es [] pos) env) (PE C ι s Q) Nought s) h (fun o b ap h=>ifN h fun hn h=>?_) fun f he h=>ah h fun y h1 h=>d4 h hw fun ys h2 hw=>?_
  ·simp only [Bool.or_eq_true,not_or,Bool.not_eq_true,decide_eq_true_eq,ne_eq,Decidable.not_not,Nat.not_le] at hn
   refine onC (G:=fun o=>superCall o = false -> wpAny (model C.prog C.w) A (eval (.Call (.Attribute o b ap) es [] pos) env) (PE C ι s Q) Nought s) h (fun ks vs p h uw=>ifC h fun hb h=>?_) (fun o h hs=>?_) hn.1.1
   ·rw [hb]
    exact O.dget I h hw a hn.1.2
   ·exact ah h fun y h1 h=>d4 h hw fun ys h2 hw=>kP O F I hs hn.1.2 hn.2 h1 h2 hw a
  ·rw [he]
   refine wpAny_bind (aF (I h1 hw a) fun v u σ₁ s₁ ι₁ q x₁ H₁ r₁=>bD h2 (cU (dJ I h2 q (a.step x₁ H₁)) fun vs ws σ₂ s₂ ι₂ q x₂ H₂ r₂=>?_))
   have fc:=V q (r₁.mono x₂.pre x₂.imm) r₂ H₂ a.room
   exact ⟨fc.1,iB (x₁.trans x₂) fc.2⟩
end
structure StOk (C : Cx) (env : PySem.Env) (own : Addr -> Prop) (h : Heap) : Prop where
 loc : own env.locals
 low : ∀ a,own a -> C.base.objs.size ≤ a
 old : ∀ a,own a -> a < h.objs.size
 cell : ∀ x,env.kindOf x = some .cell -> ∃ c v,env.cells.lookup x = some c /\ h.IsCell c v /\ own c
 inj : ∀ x y c,env.cells.lookup x = some c -> env.cells.lookup y = some c -> x = y
theorem bT (x y : Nat) (v : AV) : ∀ ρ : Env,getVar y (setVar x v ρ) = if x = y then some v else getVar y ρ
 | []=>by simp only [setVar,getVar]
 | (z,w) :: r=>by
  unfold setVar
  split
  ·rename_i e; subst e
   simp only [getVar]
   split <;> rfl
  ·rename_i e
   simp only [getVar,bT x y v r]
   split
   ·rename_i e2; subst e2
    rw [if_neg (fun q=>e q.symm)]
   ·rfl
theorem br (x y : Str) (v : AV) (ρ : Env) : getVar (cd y) (setVar (cd x) v ρ) = if x = y then some v else getVar (cd y) ρ:=by
 rw [bT]
 by_cases e : x = y
 ·rw [if_pos e,if_pos (congrArg cd e)]
 ·rw [if_neg e,if_neg fun q=>e (b0 q)]
theorem Ns.unique {h : Heap} {a : Addr} {m m' : Str -> Option Value} (x : h.Ns a m) (y : h.Ns a m') : m = m':=by
 refine bf x fun o es ep e d uw f=>?_
 refine bf y fun o' es' ep' e' d' uw f'=>?_
 rw [e] at e'; cases e'
 rw [d] at d'; cases d'
 funext n
 rw [<- f,<- f']
section
variable {C : Cx} {ι ι' : List Addr} {σ σ' : Hp} {s s' : Shared} {env : PySem.Env} {ρ : Env} {A : Around} {d k : Nat} {kd : List (Str × NameKind)} {v : AV} {x : X} {pos : Pos} {own : Addr -> Prop}
theorem StOk.keep {h h' : Heap} (S : StOk C env own h) (z : h.objs.size ≤ h'.objs.size) (c : ∀ a v,h.IsCell a v -> h'.IsCell a v) : StOk C env own h' :=
 ⟨S.loc,S.low,fun a o=>Nat.lt_of_lt_of_le (S.old a o) z,fun y k=>let ⟨a,v,l,b,o⟩:=S.cell y k; ⟨a,v,l,c a v b,o⟩,S.inj⟩
theorem StOk.step (S : StOk C env own s.heap) (x : Step NoOwn ι s ι' s') (H : HOk C ι σ s.heap) : StOk C env own s'.heap:=S.keep x.size fun uw uw b=>x.cell H b id
theorem aN {h h' : Heap} {a : Addr} {o : Obj} (b : Heap.SameBut a h h') (g : h.get? a = some o) (i : immO o = false) : ImmK h h':=fun c o' e q=>by
 by_cases z : c = a
 ·rw [z,g] at e; cases e; rw [i] at q; cases q
 ·exact (b.2 c z).trans e
theorem Step.one {L : Addr} {h' : Heap} {o : Obj} {t : Nat} (b : Heap.SameBut L s.heap h') (g : s.heap.get? L = some o) (i : immO o = false) (ow : own L) : Step own ι s ι { s with heap:=h',toks:=t } :=
 ⟨aN b g i,fun a uw e n uw=>(b.2 a fun q=>n (q ▸ ow)).trans e,List.prefix_refl _,fun uw a b=>absurd a b,by rw [b.1]; exact Nat.le_refl _,rfl,rfl⟩
theorem HOk.one {L : Addr} {h h' : Heap} {o : Obj} (H : HOk C ι σ h) (b : Heap.SameBut L h h') (g : h.get? L = some o) (i : immO o = false) (n : L ∉ ι) (lo : C.base.objs.size ≤ L) : HOk C ι σ h' :=
 ⟨H.len,H.nod,fun c o e=>(b.2 c fun q=>Nat.not_lt.mpr lo (q ▸ Heap.lt_size e)).trans (H.base c o e),H.abv,fun {_ _ a} e j=>(H.rep e j).mono (List.prefix_refl _) (aN b g i) fun uw q=>(b.2 a fun z=>n (z ▸ List.mem_of_getElem? j)).trans q,by rw [b.1]; exact H.low⟩
theorem eD {h : Heap} {c L : Addr} {v : Option Value} {m : Str -> Option Value} (q : h.IsCell c v) (n : h.Ns L m) : c ≠ L:=fun e=>by
 refine aw q fun o g d=>?_
 refine cK n fun o2 es2 ep2 g2 d2 uw=>?_
 rw [e,g2] at g; cases g; rw [d2] at d; cases d
theorem gC {h : Heap} {L : Addr} {m : Str -> Option Value} (n : h.Ns L m) : ∃ o,h.get? L = some o /\ immO o = false:=let ⟨o,_,_,g,d,_⟩:=n; ⟨o,g,by unfold immO; rw [d]⟩
theorem nM {h : Heap} {c : Addr} {v : Option Value} (n : h.IsCell c v) : ∃ o,h.get? c = some o /\ immO o = false:=let ⟨o,g,d⟩:=n; ⟨o,g,by unfold immO; rw [d]⟩
theorem EnvOk.store {h h' : Heap} {y : Str} {u : Value} (E : EnvOk C env ρ ι h) (im : ImmK h h') (r : VRep C ι h v u) (hy : NameIs env h' y u) (nsq : ∃ m,h'.Ns env.locals m) (hz : ∀ z w,z ≠ y -> NameIs env h z w -> NameIs env h' z w) : EnvOk C env (setVar (cd y) v ρ) ι h' where
 vars:=fun z w n0 e k=>by
  rw [br] at e
  by_cases q : y = z
  ·rw [if_pos q] at e
   exact ⟨u,Option.some.inj e ▸ r.mono (List.prefix_refl _) im,q ▸ hy⟩
  ·rw [if_neg q] at e
   exact let ⟨u,r,i⟩:=E.vars z w n0 e k; ⟨u,r.mono (List.prefix_refl _) im,hz z u (Ne.symm q) i⟩
 sep:=E.sep
 ns:=nsq
 cells:=E.cells
theorem dI {x : Str} (h : stK kd x = true) : kd.lookup x = some .local \/ kd.lookup x = some .cell:=by
 unfold stK at h
 cases e : kd.lookup x with
 | none=>rw [e] at h; cases h
 | some k =>
  rw [e] at h
  cases k with
  | «local»=>exact .inl rfl
  | cell=>exact .inr rfl
  | _=>cases h
theorem bX {y : Str} {u : Value} {Q : Unit -> Shared -> Prop} (hs : stK env.scope.names y = true) (es : iV env) (E : EnvOk C env ρ ι s.heap) (S : StOk C env own s.heap) (H : HOk C ι σ s.heap) (r : VRep C ι s.heap v u)
  (h : ∀ s',Step own ι s ι s' -> HOk C ι σ s'.heap -> EnvOk C env (setVar (cd y) v ρ) ι s'.heap -> StOk C env own s'.heap -> Q () s') :
  wpAny (model C.prog C.w) A (storeName env y u) Q Nought s:=by
 obtain ⟨m,ns⟩:=E.ns
 rcases dI hs with hk | hk
 ·refine wpAny_storeName_local hk ns (fun h' n' b=>?_) (by rw [es.kind]; rfl)
  refine aw (gC ns) fun o g im=>?_
  have ce : ∀ a v,s.heap.IsCell a v -> h'.IsCell a v:=fun uw uw q=>q.sameBut b (eD q ns)
  refine h _ (.one b g im S.loc) (H.one b g im E.sep (S.low _ S.loc)) (E.store (aN b g im) r ?_ ⟨_,n'⟩ fun z w ne i=>i.keep (fun m2 n2=>⟨_,n',fun q=>?_⟩) fun a uw=>ce a _) (S.keep (by rw [b.1]; exact Nat.le_refl _) ce)
  ·unfold NameIs; rw [show env.kindOf y = some .local from hk]; exact ⟨_,n',if_pos rfl⟩
  ·rw [if_neg ne,Ns.unique ns n2]; exact q
 ·refine bJ (S.cell y hk) fun c w l q oc=>?_
  refine wpAny_storeName_cell es.kind hk l q fun h' n' b=>?_
  refine aw (nM q) fun o g im=>?_
  refine h _ (.one (t:=s.toks) b g im oc) (H.one b g im (H.notCell q) (S.low _ oc)) (E.store (aN b g im) r ?_ ⟨_,ns.sameBut b (eD q ns).symm⟩ fun z w ne i=>i.keep (fun m2 n2=>⟨m2,n2.sameBut b (eD q n2).symm,id⟩) fun a l2 q2=>q2.sameBut b fun e=>ne (S.inj _ _ _ l2 (e ▸ l))) ?_
  ·unfold NameIs; rw [show env.kindOf y = some .cell from hk]; exact ⟨_,l,n'⟩
  ·refine ⟨S.loc,S.low,fun a o=>by rw [b.1]; exact S.old a o,fun z k=>?_,S.inj⟩
   refine bJ (S.cell z k) fun c2 w2 l2 q2 o2=>?_
   by_cases e : c2 = c
   ·exact ⟨c2,_,l2,e ▸ n',o2⟩
   ·exact ⟨c2,w2,l2,q2.sameBut b e,o2⟩
end
section
variable {prog : Program} {w : World} {A : Around} {E : Value -> Shared -> Prop} {s : Shared} {d it : Addr} {es : Array DictEntry} {ep i : Nat}
noncomputable def dObj (es : Array DictEntry) (ep : Nat) : Obj:=⟨.type "dict",none,.dict es ep,#[]⟩
theorem lC {Q : Value -> Shared -> Prop} (lo : (d == sysModules) = false) (g : s.heap.get? d = some (dObj es ep))
  (h : Q (.ref s.heap.objs.size) { s with heap:=s.heap.push { cls:=.type "dict_keyiterator",data:=.fields #[.ref d,.int 0 0,.int es.size 0,.int ep 0] } }) :
  wpAny (model prog w) A (pyIter (.ref d)) Q E s:=by
 have T : s.TypeIs (.ref d) "dict":=⟨_,g,rfl⟩
 refine wpAny_pyIter_slot T PySem.F.slot_dict_iter (wpAny_call_entry PySem.F.slot_dict_iter T PySem.F.entry_dict_iter ?_ (PySem.F.args_dict_iter_1 _))
 unfold Builtin.«dict.__iter__» Builtin.Dict.dictSlotNone
 refine wpAny_bind (wpAny_bind (wpAny_notOrdered_dict T (wpAny_pure ?_)))
 show wpAny _ _ (Builtin.Dict.showsAll d >>= _) _ _ s
 unfold Builtin.Dict.showsAll
 rw [if_neg (by rw [lo]; exact Bool.false_ne_true)]
 refine wpAny_bind (wpAny_pure (wpAny_bind (wpAny_dictEntries g rfl (wpAny_bind (wpAny_dictEpoch g rfl ?_)))))
 exact wpAny_bind (wpAny_newObj_type (wpAny_pure ⟨_,rfl,"dict_keyiterator",_,⟨_,Heap.get?_push_size _ rfl,rfl⟩,PySem.F.slot_dict_keyiterator_next.lookup,h⟩))
theorem eK {e : DictEntry} {Q : Option Value -> Shared -> Prop} (hit : s.heap.IsKeyIter it d i es.size ep) (g : s.heap.get? d = some (dObj es ep)) (hx : es[i]? = some e)
  (h : ∀ h',h'.IsKeyIter it d (i + 1) es.size ep -> Heap.SameBut it s.heap h' -> Q (some e.key) { s with heap:=h' }) : wpAny (model prog w) A (pyNext (.ref it)) Q E s:=by
 refine bq (id hit) fun o ho hc hd=>?_
 have lt : i < es.size:=(Array.getElem?_eq_some_iff.mp hx).1
 have ek : es[i] = e:=(Array.getElem?_eq_some_iff.mp hx).2
 unfold pyNext
 refine wpAny_bind (wpAny_attempt (wpAny_callSpecial?_slot (name:=Str.ofString "__next__") hit.typeIs PySem.F.slot_dict_keyiterator_next
  (wpAny_call_entry PySem.F.slot_dict_keyiterator_next hit.typeIs PySem.F.entry_dict_keyiterator_next ?_ (PySem.F.args_dict_keyiterator_next_1 _))))
 refine wpAny_bind (wpAny_pure (wpAny_bind (wpAny_bind (wpAny_bind (wpAny_typeNameOfWhole_keyiter hit.typeIs (wpAny_pure (wpAny_bind (wpAny_fieldsOf ho hd ?_))))))))
 refine aq (show ¬ ((Value.ref d == Value.none) = true) from Bool.false_ne_true) ?_
 refine wpAny_bind (wpAny_pure (wpAny_bind (wpAny_dictEntries g rfl ?_)))
 refine aq (by simp) ?_
 refine wpAny_bind (wpAny_pure (wpAny_bind (wpAny_dictEpoch g rfl ?_)))
 refine aq (by simp) ?_
 refine wpAny_pure ?_
 simp only [show ¬ ((i : Int) < 0) from by lia,if_false,Int.toNat_natCast,Array.getElem?_eq_getElem lt]
 refine wpAny_bind (wpAny_bind (wpAny_typeNameOfWhole_keyiter hit.typeIs (wpAny_pure (wpAny_bind (wpAny_isOneOf_keyiter hit.typeIs ?_)))))
 show wpAny _ _ (setField (.ref it) 1 (rawInt ((i : Int) + 1)) >>= _) _ _ s
 refine wpAny_bind (wpAny_setField ho hd (by simp) ?_)
 have hit' : (s.heap.update it (Obj.mapFields (·.setIfInBounds 1 (rawInt ((i : Int) + 1))))).IsKeyIter it d (i + 1) es.size ep :=
  ⟨_,Heap.get?_update_self _ ho (Obj.isFreed_of_fields (Obj.data_mapFields hd _)),(Obj.cls_mapFields ..).trans hc,by rw [Obj.data_mapFields hd]; simp [rawInt]⟩
 refine wpAny_bind (wpAny_holding (wpAny_bind (wpAny_isOneOf_keyiter (s:={ s with heap:=s.heap.update it (Obj.mapFields (·.setIfInBounds 1 (rawInt ((i : Int) + 1)))) }) hit'.typeIs ?_)))
 show wpAny _ _ (pure es[i].key) _ _ _
 rw [ek]
 exact wpAny_pure (wpAny_pure ⟨_,rfl,wpAny_pure (h _ hit' (Heap.SameBut.update ..))⟩)
theorem fi {Q : Option Value -> Shared -> Prop} (hh : A.handled = none) (hit : s.heap.IsKeyIter it d i es.size ep) (g : s.heap.get? d = some (dObj es ep)) (hx : es.size ≤ i)
  (h : ∀ h',Heap.ExtBut it s.heap h' -> Q none { s with heap:=h' }) : wpAny (model prog w) A (pyNext (.ref it)) Q E s:=by
 refine bq (id hit) fun o ho hc hd=>?_
 unfold pyNext
 refine wpAny_bind (wpAny_attempt (wpAny_callSpecial?_slot (name:=Str.ofString "__next__") hit.typeIs PySem.F.slot_dict_keyiterator_next
  (wpAny_call_entry PySem.F.slot_dict_keyiterator_next hit.typeIs PySem.F.entry_dict_keyiterator_next ?_ (PySem.F.args_dict_keyiterator_next_1 _))))
 refine wpAny_bind (wpAny_pure (wpAny_bind (wpAny_bind (wpAny_bind (wpAny_typeNameOfWhole_keyiter hit.typeIs (wpAny_pure (wpAny_bind (wpAny_fieldsOf ho hd ?_))))))))
 refine aq (show ¬ ((Value.ref d == Value.none) = true) from Bool.false_ne_true) ?_
 refine wpAny_bind (wpAny_pure (wpAny_bind (wpAny_dictEntries g rfl ?_)))
 refine aq (by simp) ?_
 refine wpAny_bind (wpAny_pure (wpAny_bind (wpAny_dictEpoch g rfl ?_)))
 refine aq (by simp) ?_
 refine wpAny_pure ?_
 simp only [show ¬ ((i : Int) < 0) from by lia,if_false,Int.toNat_natCast,Array.getElem?_eq_none hx]
 refine wpAny_bind (wpAny_bind (wpAny_typeNameOfWhole_keyiter hit.typeIs (wpAny_pure ?_)))
 show wpAny _ _ (setField (.ref it) 0 .none >>= _) _ _ s
 refine wpAny_bind (wpAny_setField ho hd (by simp) ?_)
 show wpAny _ _ (newExc (.type "StopIteration") [] >>= _) _ _ _
 simp only [newExc,newTuple]
 refine wpAny_bind (wpAny_bind (wpAny_newObj_type ?_ (by size_fits)))
 refine wpAny_bind (m:=firstArgMember _ _) (wpAny_of_eq (a:=Value.none) (by first | rfl | (simp only [firstArgMember]; rfl)) (wpAny_newObj_type ?_ (by size_fits)))
 simp only [raiseNew]
 refine wpAny_bind (wpAny_handled ?_)
 rw [show A.in1.handled = none from hh]
 refine wpAny_bind (wpAny_pure (wpAny_throw ?_))
 refine wpAny_bind (wpAny_isInstance (T:="StopIteration") (b:=true) ⟨_,Heap.get?_push_size _ rfl,rfl⟩ isSubtype_stop ?_)
 exact wpAny_pure (h _ (((Heap.SameBut.update ..).extBut.push _).push _))
end
inductive ItR (C : Cx) (ι : List Addr) (h : Heap) (it : Addr) (i : Nat) : AV -> Nat -> Prop
 | list {α : Nat} {a : Addr} : ι[α]? = some a -> h.IsListIter it a i -> ItR C ι h it i (.ref α) 0
 | dict {α k : Nat} {a : Addr} : ι[α]? = some a -> h.IsKeyIter it a i k k -> ItR C ι h it i (.ref α) (k + 1)
 | tup {xs : List AV} {vs : List Value} {a : Addr} {n ep : Nat} : h.get? a = some ⟨.type "tuple",Option.none,.seq vs.toArray n,#[]⟩ -> VReps C ι h xs vs -> h.IsTupleIter it a i -> ItR C ι h it i (.tup xs) ep
 | rng {a b c : Int} {ep : Nat} : rngOk a b c = true -> IsRangeIter h it (a + i * c) (Builtin.Range.rangeSize a b c - i) c -> ItR C ι h it i (.rng a b c) ep
theorem ch (a b : Int) : Builtin.Range.rangeSize a b 1 = if a < b then b - a else 0:=by
 unfold Builtin.Range.rangeSize
 simp only [show (1 : Int) > 0 by decide,if_true,Int.ediv_one]
 split <;> lia
theorem cC (a b : Int) : Builtin.Range.rangeSize a b (-1) = if b < a then a - b else 0:=by
 unfold Builtin.Range.rangeSize
 simp only [show ¬ (-1 : Int) > 0 by decide,if_false,gt_iff_lt,Int.neg_neg,Int.ediv_one]
 split <;> lia
section
variable {C : Cx} {ι ι' : List Addr} {σ σ' : Hp} {s s' : Shared} {env : PySem.Env} {ρ : Env} {A : Around} {d k : Nat} {kd : List (Str × NameKind)} {v : AV} {x : X} {pos : Pos} {own : Addr -> Prop} {it : Addr} {i ep : Nat}
theorem ItR.keep (r : ItR C ι s.heap it i v ep) (p : ι <+: ι') (k : ImmK s.heap s'.heap) (g : ∀ o,s.heap.get? it = some o -> s'.heap.get? it = some o) : ItR C ι' s'.heap it i v ep:=by
 cases r with
 | list e r=>exact .list (cm p e) (r.at g)
 | dict e r=>exact .dict (cm p e) (r.at g)
 | tup t r i=>exact .tup (k _ _ t rfl) (r.mono p k) (i.at g)
 | rng o r=>exact .rng o (g _ r)
noncomputable def itLike (o : Obj) : Prop:=∃ T vs,o.cls = .type T /\ o.data = .fields vs /\ (["list_iterator","dict_keyiterator","tuple_iterator","range_iterator"].contains T) = true
theorem ItR.obj (r : ItR C ι s.heap it i v ep) : ∃ o,s.heap.get? it = some o /\ itLike o:=by
 cases r with
 | list _ r=>exact let ⟨o,e,c,d⟩:=r; ⟨o,e,_,_,c,d,by decide⟩
 | dict _ r=>exact let ⟨o,e,c,d⟩:=r; ⟨o,e,_,_,c,d,by decide⟩
 | tup _ _ r=>exact let ⟨o,e,c,d⟩:=r; ⟨o,e,_,_,c,d,by decide⟩
 | rng _ r=>exact ⟨_,r,_,_,rfl,rfl,by decide⟩
theorem ItR.lt (r : ItR C ι s.heap it i v ep) : it < s.heap.objs.size:=let ⟨_,e,_⟩:=r.obj; Heap.lt_size e
theorem ItR.notIn (r : ItR C ι s.heap it i v ep) (H : HOk C ι σ s.heap) : it ∉ ι:=let ⟨_,e,_,_,_,d,_⟩:=r.obj; H.notLike e (by unfold cellLike; rw [d])
theorem ItR.imm (r : ItR C ι s.heap it i v ep) : ∃ o,s.heap.get? it = some o /\ immO o = false:=by
 refine io r.obj fun o e T vs c d t=>?_
 refine ⟨o,e,?_⟩
 unfold immO
 rw [d,c]
 show (T == "range" || T == "method") = false
 rw [Bool.or_eq_false_iff]
 exact ⟨beq_eq_false_iff_ne.mpr fun q=>(by rw [q] at t; cases t),beq_eq_false_iff_ne.mpr fun q=>(by rw [q] at t; cases t)⟩
theorem ItR.notCell (r : ItR C ι s.heap it i v ep) : ∃ o,s.heap.get? it = some o /\ (∀ v,o.data ≠ .cell v):=let ⟨o,e,_,_,_,d,_⟩:=r.obj; ⟨o,e,fun v q=>by rw [d] at q; cases q⟩
theorem HOk.extBut {h h' : Heap} (H : HOk C ι σ h) (b : Heap.ExtBut it h h') {o : Obj} (g : h.get? it = some o) (im : immO o = false) (n : it ∉ ι) (lo : C.base.objs.size ≤ it) (z : h.objs.size ≤ h'.objs.size) : HOk C ι σ h' :=
 ⟨H.len,H.nod,fun c o e=>b c o (fun q=>Nat.not_lt.mpr lo (q ▸ Heap.lt_size e)) (H.base c o e),H.abv,fun {_ _ a} e j=>(H.rep e j).mono (List.prefix_refl _) (fun c o' e q=>b c o' (fun y=>by rw [y,g] at e; cases e; rw [im] at q; cases q) e) fun o q=>b a o (fun z=>n (z ▸ List.mem_of_getElem? j)) q,Nat.le_trans H.low z⟩
theorem Step.extBut {h' : Heap} (b : Heap.ExtBut it s.heap h') {o : Obj} (g : s.heap.get? it = some o) (im : immO o = false) (z : s.heap.objs.size ≤ h'.objs.size) : Step (· = it) ι s ι { s with heap:=h' } :=
 ⟨fun c o' e q=>b c o' (fun y=>by rw [y,g] at e; cases e; rw [im] at q; cases q) e,fun a o e n uw=>b a o n e,List.prefix_refl _,fun uw a b=>absurd a b,z,rfl,rfl⟩
theorem bj {α : Nat} {a : Addr} {xs : List AV} (H : HOk C ι σ s.heap) (e : σ[α]? = some (.list xs)) (i : ι[α]? = some a) : ∃ vs n,s.heap.get? a = some ⟨.type "list",none,.seq vs.toArray n,#[]⟩ /\ VReps C ι s.heap xs vs /\ xs.length ≤ top:=by
 cases H.rep e i with
 | list g r l=>exact ⟨_,_,g,r,l⟩
theorem cJ {α : Nat} {a : Addr} {es : List (AV × AV)} (H : HOk C ι σ s.heap) (e : σ[α]? = some (.dict es ep)) (i : ι[α]? = some a) : ∃ ents xs,s.heap.get? a = some (dObj ents ep) /\
  ents.toList = xs.map (entryOfKey (tk C)) /\ DReps C ι s.heap es xs /\ (xs.map (·.1)).Nodup /\ es.length ≤ top:=by
 cases H.rep e i with
 | dict g r l n t=>exact ⟨_,_,g,r,l,n,t⟩
theorem DReps.length : ∀ {es : List (AV × AV)} {xs : List (List Int × Addr × Value)},DReps C ι s.heap es xs -> es.length = xs.length
 | _,_,.nil=>rfl
 | _,_,.cons _ _ _ b=>congrArg (· + 1) b.length
theorem DReps.get : ∀ {es : List (AV × AV)} {xs : List (List Int × Addr × Value)} {i : Nat} {e : AV × AV},DReps C ι s.heap es xs -> es[i]? = some e -> ∃ k a u,xs[i]? = some (k,a,u) /\ keyOf e.1 = some k /\ VRep C ι s.heap e.1 (.ref a) /\ VRep C ι s.heap e.2 u
 | _,_,_,_,.nil,e=>by simp at e
 | _ :: _,_,0,_,.cons a b c _,e=>by cases e; exact ⟨_,_,_,rfl,a,b,c⟩
 | _ :: _,_,i + 1,_,.cons _ _ _ b,e=>by
  rw [List.getElem?_cons_succ] at e
  refine av (b.get e) fun k a u g r=>?_
  exact ⟨k,a,u,by rw [List.getElem?_cons_succ]; exact g,r⟩
theorem dR {ents : Array DictEntry} {es : List (AV × AV)} {xs : List (List Int × Addr × Value)} (e : ents.toList = xs.map (entryOfKey (tk C))) (r : DReps C ι s.heap es xs) : ents.size = es.length:=by
 rw [<- Array.length_toList,e,List.length_map,r.length]
theorem iF (T : bi C) {u : Value} (hv : VRep C ι s.heap v u) (H : HOk C ι σ s.heap) (hn : (nextOf σ v 0 (epOf σ v)).isSome = true) {Q : Value -> Shared -> Prop}
  (h : ∀ it s',Step NoOwn ι s ι s' -> HOk C ι σ s'.heap -> s.heap.objs.size ≤ it -> ItR C ι s'.heap it 0 v (epOf σ v) -> Q (.ref it) s') : wpAny (model C.prog C.w) A (pyIter u) Q Nought s:=by
 have grow : ∀ {o : Obj},Step NoOwn ι s ι { s with heap:=s.heap.push o } /\ HOk C ι σ (s.heap.push o):=fun {o} =>
  ⟨.grow (fun uw uw e=>Heap.get?_push_of_some _ e) (by show _ ≤ (s.heap.push o).objs.size; rw [Mine.size_push]; lia),H.grow (fun uw uw e=>Heap.get?_push_of_some _ e) (by rw [Mine.size_push]; lia)⟩
 cases hv with
 | ref e =>
  unfold nextOf at hn
  dsimp only at hn
  split at hn
  ·rename_i eσ
   refine bJ (bj H eσ e) fun vs n g r l=>?_
   have z : epOf σ (.ref α) = 0:=by unfold epOf; dsimp only; rw [eσ]
   rw [z] at h
   exact wpAny_pyIter_list (show s.heap.IsList a vs.toArray from ⟨_,g,rfl,n,rfl⟩) (h _ _ grow.1 grow.2 (Nat.le_refl _) (.list e ⟨_,Heap.get?_push_size _ rfl,rfl,rfl⟩))
  ·rename_i eσ
   have z : epOf σ (.ref α) = e_1 + 1:=by unfold epOf; dsimp only; rw [eσ]
   rw [z] at hn h
   split at hn
   ·rename_i hl
    refine dk (cJ H eσ e) fun ents xs g q r nd l=>?_
    have zs:=dR q r
    refine lC (by
     have a1:=H.abv a (List.mem_of_getElem? e)
     have a2:=T.low
     exact beq_eq_false_iff_ne.mpr (Nat.ne_of_gt (Nat.lt_of_lt_of_le a2 a1))) g ?_
    refine h _ _ grow.1 grow.2 (Nat.le_refl _) (.dict e ⟨_,Heap.get?_push_size _ rfl,rfl,?_⟩)
    rw [zs,show es.length = e_1 by lia]
    rfl
   ·cases hn
  ·cases hn
 | tup g r l =>
  have gl : s.heap.IsTuple a vs.toArray:=⟨_,g,rfl,n,rfl⟩
  exact wpAny_pyIter_tuple gl (h _ _ grow.1 grow.2 (Nat.le_refl _) (.tup (Heap.get?_push_of_some _ g) (r.mono (List.prefix_refl _) fun uw uw e uw=>Heap.get?_push_of_some _ e) ⟨_,Heap.get?_push_size _ rfl,rfl,rfl⟩))
 | rng g o =>
  have ok:=o
  unfold rngOk at ok
  simp only [Bool.and_eq_true,Bool.or_eq_true,decide_eq_true_eq] at ok
  refine wpAny_pyIter_range g ?_ (h _ _ grow.1 grow.2 (Nat.le_refl _) (.rng o ?_))
  ·obtain ⟨⟨o1,o2⟩,rfl | rfl⟩:=ok
   ·unfold top at o1 o2; exact small_one (by lia) (by lia) (by lia) (by lia)
   ·unfold top at o1 o2; exact small_down (by lia) (by lia) (by lia) (by lia)
  ·show Heap.get? _ _ = _
   rw [Heap.get?_push_size _ rfl]
   simp [rawInt]
 | _=>cases hn
theorem nH {Q : Value -> Shared -> Prop} (r : ItR C ι s.heap it i v ep) (h : Q (.ref it) s) : wpAny (model C.prog C.w) A (pyIter (.ref it)) Q Nought s:=by
 cases r with
 | list _ r=>exact wpAny_pyIter_listiter r h
 | dict _ r=>exact wpAny_pyIter_keyiter r h
 | tup _ _ r=>exact wpAny_pyIter_tupleiter r h
 | rng _ r=>exact wpAny_pyIter_rangeiter r h
theorem kn (hh : A.handled = none) (r : ItR C ι s.heap it i v ep) (H : HOk C ι σ s.heap) (lo : C.base.objs.size ≤ it) {o : Option AV} (hn : nextOf σ v i ep = some o) {Q : Option Value -> Shared -> Prop}
  (h0 : o = none -> ∀ s',Step (· = it) ι s ι s' -> HOk C ι σ s'.heap -> Q none s')
  (h1 : ∀ y u s',o = some y -> Step (· = it) ι s ι s' -> HOk C ι σ s'.heap -> VRep C ι s'.heap y u -> ItR C ι s'.heap it (i + 1) v ep -> Q (some u) s') : wpAny (model C.prog C.w) A (pyNext (.ref it)) Q Nought s:=by
 have ni:=r.notIn H
 refine aw r.imm fun o0 g0 im=>?_
 have same : ∀ {h' : Heap} {t : Nat},Heap.SameBut it s.heap h' -> Step (· = it) ι s ι { s with heap:=h',toks:=t } /\ HOk C ι σ h':=fun b=>⟨.one b g0 im rfl,H.one b g0 im ni lo⟩
 have ext : ∀ {h' : Heap},Heap.ExtBut it s.heap h' -> s.heap.objs.size ≤ h'.objs.size -> Step (· = it) ι s ι { s with heap:=h' } /\ HOk C ι σ h':=fun b z=>⟨.extBut b g0 im z,H.extBut b g0 im ni lo z⟩
 cases r with
 | list e r =>
  unfold nextOf at hn
  dsimp only at hn
  split at hn
  ·rename_i eσ
   simp only [if_true,Option.some.injEq] at hn
   refine bJ (bj H eσ e) fun vs n g q l=>?_
   have gl : s.heap.IsList a vs.toArray:=⟨_,g,rfl,n,rfl⟩
   cases hx : xs[i]? with
   | none =>
    refine aj (wpAny_pyNext_list_end hh r gl (by simpa using q.none_at hx) fun h' b z=>?_)
    exact h0 (by rw [<- hn,hx]) _ (ext b z).1 (ext b z).2
   | some y =>
    refine aw (q.get hx) fun u gu ru=>?_
    refine wpAny_pyNext_list_item r gl (x:=u) (by simpa using gu) fun h' r' b=>?_
    have:=same (t:=s.toks) b
    exact h1 y u _ (by rw [<- hn,hx]) this.1 this.2 (ru.mono (List.prefix_refl _) this.1.imm) (.list e r')
  ·rename_i eσ
   split at hn
   ·lia
   ·cases hn
  ·cases hn
 | dict e r =>
  unfold nextOf at hn
  dsimp only at hn
  split at hn
  ·simp only [Nat.add_eq_zero_iff,Nat.succ_ne_self,and_false,if_false] at hn
   cases hn
  ·rename_i eσ
   split at hn
   ·rename_i hl
    simp only [Option.some.injEq] at hn
    refine dk (cJ H eσ e) fun ents xs g q r' nd l=>?_
    have zs:=dR q r'
    have e1 : e_1 = k:=by lia
    have e2 : es.length = k:=by lia
    subst e1
    have rr : s.heap.IsKeyIter it a i ents.size e_1:=by rw [zs,e2]; exact r
    cases hx : es[i]? with
    | none =>
     refine aj (fi hh rr g (by rw [zs]; simpa using hx) fun h' b z=>?_)
     exact h0 (by rw [<- hn,hx]; rfl) _ (ext b z).1 (ext b z).2
    | some y =>
     refine bf (r'.get hx) fun kk b u gx gk rk ru=>?_
     have ge : ents[i]? = some (entryOfKey (tk C) (kk,b,u)):=by rw [<- Array.getElem?_toList,q,List.getElem?_map,gx]; rfl
     refine eK rr g ge fun h' r'' b'=>?_
     have:=same (t:=s.toks) b'
     exact h1 y.1 (.ref b) _ (by rw [<- hn,hx]; rfl) this.1 this.2 (rk.mono (List.prefix_refl _) this.1.imm) (.dict e (by rw [zs,e2] at r''; exact r''))
   ·cases hn
  ·cases hn
 | tup t q r =>
  have gl : s.heap.IsTuple a vs.toArray:=⟨_,t,rfl,_,rfl⟩
  unfold nextOf at hn
  simp only [Option.some.injEq] at hn
  cases hx : xs[i]? with
  | none =>
   refine aj (wpAny_pyNext_tuple_end hh r gl (by simpa using q.none_at hx) fun h' b z=>?_)
   exact h0 (by rw [<- hn,hx]) _ (ext b z).1 (ext b z).2
  | some y =>
   refine aw (q.get hx) fun u gu ru=>?_
   refine wpAny_pyNext_tuple_item r gl (x:=u) (by simpa using gu) fun h' r' b=>?_
   have:=same (t:=s.toks) b
   exact h1 y u _ (by rw [<- hn,hx]) this.1 this.2 (ru.mono (List.prefix_refl _) this.1.imm) (.tup (this.1.imm _ _ t rfl) (q.mono (List.prefix_refl _) this.1.imm) r')
 | rng ok r =>
  have ok':=ok
  unfold rngOk at ok'
  simp only [Bool.and_eq_true,Bool.or_eq_true,decide_eq_true_eq] at ok'
  have item : ∀ z,o = some (AV.int z) -> z = a + i * c -> 0 < Builtin.Range.rangeSize a b c - i -> wpAny (model C.prog C.w) A (pyNext (.ref it)) Q Nought s:=by
   intro z eo ez hp
   refine wpAny_pyNext_range_item r hp fun h' r' bb=>?_
   have:=same (t:=s.toks + 1) bb
   refine h1 (.int z) _ _ eo this.1 this.2 (by rw [ez]; exact .int _ _) (.rng ok ?_)
   have e1 : a + ((i + 1 : Nat) : Int) * c = a + i * c + c:=by rw [Int.natCast_add,Int.add_mul]; lia
   have e2 : Builtin.Range.rangeSize a b c - ((i + 1 : Nat) : Int) = Builtin.Range.rangeSize a b c - i - 1:=by lia
   rw [e1,e2]; exact r'
  have fin : o = none -> Builtin.Range.rangeSize a b c - i ≤ 0 -> wpAny (model C.prog C.w) A (pyNext (.ref it)) Q Nought s:=fun eo hp =>
   aj (wpAny_pyNext_range_end hh r hp fun h' bb z=>h0 eo _ (ext bb z).1 (ext bb z).2)
  obtain ⟨_,rfl | rfl⟩:=ok'
  ·unfold nextOf at hn
   simp only [if_true,Option.some.injEq] at hn
   split at hn
   ·rename_i hl
    refine item _ hn.symm (by lia) ?_
    rw [ch,if_pos (by lia)]; lia
   ·rename_i hl
    refine fin hn.symm ?_
    rw [ch]; split <;> lia
  ·unfold nextOf at hn
   simp only [show ¬ (-1 : Int) = 1 by decide,if_false,if_true,Option.some.injEq] at hn
   split at hn
   ·rename_i hl
    refine item _ hn.symm (by lia) ?_
    rw [cC,if_pos (by lia)]; lia
   ·rename_i hl
    refine fin hn.symm ?_
    rw [cC]; split <;> lia
end
noncomputable def closL (env : PySem.Env) : List (Str × NameKind) -> List (Str × Addr) -> List (Str × Addr)
 | [],acc=>acc
 | (n,k) :: r,acc=>if k == .free then closL env r ((n,(env.cells.lookup n).getD 0) :: acc) else closL env r acc
theorem d6 {env : PySem.Env} : ∀ (names : List (Str × NameKind)) (acc : List (Str × Addr)),(∀ y ∈ names,y.2 = .free -> ∃ c,env.cells.lookup y.1 = some c) ->
  (forIn names acc fun (x : Str × NameKind) (r : List (Str × Addr))=>if (x.2 == NameKind.free) = true then do let a <- cellOf env x.1; pure (ForInStep.yield ((x.1,a) :: r)) else pure (ForInStep.yield r) : Sem (List (Str × Addr))) = pure (closL env names acc)
 | [],acc,_=>by rw [List.forIn_nil]; rfl
 | (n,k) :: r,acc,h=>by
  rw [List.forIn_cons]
  unfold closL
  dsimp only
  by_cases e : k == .free
  ·obtain ⟨c,hc⟩:=h _ List.mem_cons_self (by simpa using e)
   simp only [e,if_true]
   have hc' : env.cells.lookup n = some c:=hc
   unfold cellOf
   rw [hc']
   simp only [pure_bind,Option.getD_some]
   exact d6 r _ fun y hy=>h y (List.mem_cons_of_mem _ hy)
  ·simp only [e,Bool.false_eq_true,if_false,pure_bind]
   exact d6 r _ fun y hy=>h y (List.mem_cons_of_mem _ hy)
theorem jA {env : PySem.Env} {sc : Scope} (h : ∀ y ∈ sc.names,y.2 = .free -> ∃ c,env.cells.lookup y.1 = some c) : closureFor sc env = pure (closL env sc.names []):=by
 rw [<- d6 sc.names [] h]
 unfold closureFor
 simp only [bind_pure]
theorem bC {env : PySem.Env} {x : Str} : ∀ (names : List (Str × NameKind)) (acc : List (Str × Addr)),
  (closL env names acc).lookup x = if names.any (fun y=>y.2 == .free && y.1 == x) then some ((env.cells.lookup x).getD 0) else acc.lookup x
 | [],acc=>by simp [closL]
 | (n,k) :: r,acc=>by
  unfold closL
  by_cases e : k == .free
  ·simp only [e,if_true,Bool.true_and,List.any_cons]
   rw [bC r]
   by_cases e2 : n = x
   ·subst e2
    simp only [beq_self_eq_true,Bool.true_or,if_true,List.lookup_cons,ite_self]
   ·have : (n == x) = false:=beq_eq_false_iff_ne.mpr e2
    have e3 : (x == n) = false:=beq_eq_false_iff_ne.mpr (Ne.symm e2)
    simp only [this,Bool.false_or,List.lookup_cons,e3]
  ·simp only [e,Bool.false_eq_true,if_false,List.any_cons,Bool.false_and,Bool.false_or]
   exact bC r acc
section
variable {C : Cx} {ι ι' : List Addr} {σ σ' : Hp} {s s' : Shared} {env : PySem.Env} {ρ : Env} {A : Around} {d k : Nat} {kd : List (Str × NameKind)} {v : AV} {x : X} {pos : Pos} {own : Addr -> Prop} {it : Addr} {i ep : Nat}
noncomputable abbrev Fresh (s : Shared) : Addr -> Prop:=fun a=>s.heap.objs.size ≤ a
theorem Step.fresh' {ι₀ : List Addr} {s₀ : Shared} (x : Step (Fresh s₀) ι₀ s₀ ι s) : Step NoOwn ι₀ s₀ ι s:=x.weaken fun uw h=>.inr h
theorem Step.ofNo (x : Step NoOwn ι s ι' s') : Step own ι s ι' s':=x.weaken fun uw h=>h.elim
theorem lx (r : ItR C ι s.heap it i v ep) {es : List Expr} {k : Nat} {p : Pos} {u : Value} {M : Model} {E : Value -> Shared -> Prop} {Q : Unit -> Shared -> Prop} (h : Q () s) : wpAny M A (letOwnedTupleGo (.Tuple es k p) (.ref it) u) Q E s:=by
 refine io r.obj fun o e T vs c dd t=>?_
 cases u with
 | ref a =>
  refine wpAny_bind (m:=load it) (wpAny_load e ?_)
  rw [c,dd]
  dsimp only
  rw [if_neg]
  ·exact wpAny_pure h
  ·rw [Bool.and_eq_true]
   rintro ⟨q,_⟩
   have t:=List.contains_iff_mem.mp t
   simp only [List.mem_cons,List.not_mem_nil,or_false] at t
   rcases t with rfl | rfl | rfl | rfl <;> cases q
 | _=>exact wpAny_pure h
theorem dH {y : Str} {u : Value} {m : Str -> Option Value} {Q : Unit -> Shared -> Prop} (hk : env.kindOf y = some .local) (hf : env.scope.kind = .function) (ns : s.heap.Ns env.locals m) (ni : env.locals ∉ ι) (lo : C.base.objs.size ≤ env.locals) (H : HOk C ι σ s.heap)
  (h : ∀ s',Step (· = env.locals) ι s ι s' -> HOk C ι σ s'.heap -> s'.heap.Ns env.locals (fun x=>if x = y then some u else m x) -> Q () s') : wpAny (model C.prog C.w) A (storeName env y u) Q Nought s:=by
 refine wpAny_storeName_local hk ns (fun h' n' b=>?_) (by rw [hf]; rfl)
 exact let ⟨_,g,im⟩:=gC ns; h _ (.one b g im rfl) (H.one b g im ni lo) n'
theorem bB {h h' : Heap} (b : Heap.ExtBut h.objs.size h h') : Keeps h h':=fun c o e=>b c o (Nat.ne_of_lt (Heap.lt_size e)) e
theorem d8 {elts : List Expr} {kk : Nat} {pos : Pos} {a : Addr} {items : Array Value} {Q : Unit -> Shared -> Prop} {M : Program} {w : World} {E : Value -> Shared -> Prop} (hh : A.handled = none) (ht : s.heap.IsTuple a items \/ s.heap.IsList a items)
  (hn : (assignEach elts env).length = items.size) (hstar : (assignEach elts env).findIdx? (·.1) = none)
  (h : ∀ h',Keeps s.heap h' -> s.heap.objs.size ≤ h'.objs.size -> wpAny (model M w) A (assignInOrder ((assignEach elts env).map (·.2)) items.toList) Q E { s with heap:=h' }) :
  wpAny (model M w) A (assign (.Tuple elts kk pos) env (.ref a)) Q E s:=by
 rw [arm_assign_Tuple]
 refine wpAny_bind (wpAny_standAt ?_)
 unfold unpack
 rw [hn,hstar]
 refine wpAny_bind (wpAny_holding (aj ?_))
 rcases ht with ht | ht
 ·exact wpAny_unpackItems_tuple hh ht fun h' he z=>h h' (bB he) z
 ·exact kun_itemsOf hh ht fun h' he z=>h h' (bB he) z
theorem kj {e : Expr} {x : Str} {G : Expr -> Prop} (h : nameT e = some x) (k : ∀ p,G (.Name x p)) : G e:=by
 cases e <;> first | exact Option.some.inj h ▸ k _ | exact nn h
theorem ki {es : List Expr} {t u : Str} {G : List Expr -> Prop} (h : es.mapM nameT = some [t,u]) (k : ∀ p q,G [.Name t p,.Name u q]) : G es:=by
 cases es with
 | nil=>cases mapM_nil h
 | cons a r =>
  refine bv h fun x xs h1 h2 e=>?_
  cases r with
  | nil=>cases (mapM_nil h2) ▸ e
  | cons b r =>
   refine bv h2 fun y ys h3 h4 e2=>?_
   cases r with
   | nil =>
    rw [e2,mapM_nil h4] at e
    injection e with e e'
    injection e' with e' _
    exact kj (G:=fun a=>G [a,b]) (e ▸ h1) fun p=>kj (G:=fun b=>G [.Name t p,b]) (e' ▸ h3) fun q=>k p q
   | cons c r=>exact bv h4 fun z zs uw uw e3=>by rw [e2,e3] at e; cases e
theorem oV {target : Expr} {ts : List Str} {G : Expr -> List Str -> Prop} (h : targetT target = some ts) (a : ∀ t p,G (.Name t p) [t]) (b : ∀ t u p q k r,t ≠ u -> G (.Tuple [.Name t p,.Name u q] k r) [t,u]) : G target ts:=by
 cases target with
 | Name t p=>exact Option.some.inj h ▸ a _ _
 | Tuple es k r =>
  refine ah (G:=G (.Tuple es k r) ts) h fun l hl h=>?_
  rcases l with _ | ⟨t,_ | ⟨u,_ | ⟨w,l⟩⟩⟩
  ·exact nn h
  ·exact nn h
  ·exact ifN (G:=G (.Tuple es k r) ts) h fun ne h=>Option.some.inj h ▸ ki (G:=fun es=>G (.Tuple es k r) [t,u]) hl fun p q=>b t u p q k r ne
  ·exact nn h
 | _=>exact nn h
theorem qz {x : AV} {p : AV × AV} {G : AV -> Prop} (h : pairA x = some p) (k : G (.tup [p.1,p.2])) : G x:=by
 cases x with
 | tup xs =>
  cases xs with
  | nil=>exact nn h
  | cons y r=>exact aG h fun w e q=>by rw [bZ e]; rw [<- q] at k; exact k
 | _=>exact nn h
theorem sD {t u : Nat} {x : AV} {b : Env} (h : bindT [t,u] x = some b) : ∃ y z,x = .tup [y,z] /\ b = [(t,y),(u,z)] :=
 aG (o:=pairA x) h fun p e q=>qz (G:=fun x=>∃ y z,x = .tup [y,z] /\ b = [(t,y),(u,z)]) e ⟨_,_,rfl,q.symm⟩
theorem t4 {h : Heap} {y z : AV} {u : Value} {G : Value -> Prop} (r : VRep C ι h (.tup [y,z]) u) (k : ∀ a u1 u2,h.IsTuple a #[u1,u2] -> VRep C ι h y u1 -> VRep C ι h z u2 -> G (.ref a)) : G u:=by
 cases r with
 | tup g rs l=>cases rs with
  | cons r1 rs=>cases rs with
   | cons r2 rs=>cases rs; exact k _ _ _ ⟨_,g,rfl,_,rfl⟩ r1 r2
noncomputable def Bound (C : Cx) (ι : List Addr) (h : Heap) (ts : List Str) (m : Str -> Option Value) (b : Env) : Prop:=∀ y,match getVar (cd y) b with
 | some w=>y ∈ ts /\ ∃ u,VRep C ι h w u /\ m y = some u
 | none=>y ∉ ts
theorem jz {target : Expr} {ts : List Str} (tg : targetT target = some ts) {x : AV} {u : Value} {b : Env} {m : Str -> Option Value} {Q : Unit -> Shared -> Prop} (r0 : ItR C ι s.heap it i v ep) (hh : A.handled = none) (hk : ∀ t ∈ ts,env.kindOf t = some .local) (hf : env.scope.kind = .function)
  (ns : s.heap.Ns env.locals m) (ni : env.locals ∉ ι) (lo : C.base.objs.size ≤ env.locals) (H : HOk C ι σ s.heap) (hb : bindT (ts.map cd) x = some b) (r : VRep C ι s.heap x u)
  (h : ∀ s' m',Step (· = env.locals) ι s ι s' -> HOk C ι σ s'.heap -> s'.heap.Ns env.locals m' -> Bound C ι s'.heap ts m' b -> Q () s') :
  wpAny (model C.prog C.w) A (letOwnedTupleGo target (.ref it) u) (fun uw s'=>wpAny (model C.prog C.w) A (assign target env u) Q Nought s') Nought s:=by
 revert hk hb h
 refine oV (G:=fun target ts=>(∀ t ∈ ts,env.kindOf t = some .local) -> bindT (ts.map cd) x = some b -> (∀ s' m',Step (· = env.locals) ι s ι s' -> HOk C ι σ s'.heap -> s'.heap.Ns env.locals m' -> Bound C ι s'.heap ts m' b -> Q () s') ->
  wpAny (model C.prog C.w) A (letOwnedTupleGo target (.ref it) u) (fun uw s'=>wpAny (model C.prog C.w) A (assign target env u) Q Nought s') Nought s) tg (fun t p hk hb h=>?_) fun t t2 p q kk p3 ne hk hb h=>?_
 ·cases Option.some.inj hb
  refine wpAny_pure (wpAny_assign_Name (dH (hk t List.mem_cons_self) hf ns ni lo H fun s' x' H' n'=>h s' _ x' H' n' fun y=>?_))
  have e : getVar (cd y) [(cd t,x)] = if t = y then some x else none:=br t y x []
  rw [e]
  by_cases q : t = y
  ·rw [if_pos q]; exact q ▸ ⟨List.mem_cons_self,u,r.mono x'.pre x'.imm,if_pos rfl⟩
  ·rw [if_neg q]; exact fun m=>q (List.mem_singleton.mp m).symm
 ·refine lx r0 ?_
  refine eJ (sD hb) fun y1 y2 hx eb=>?_
  rw [hx] at r
  rw [eb] at h
  refine t4 (G:=fun u=>wpAny (model C.prog C.w) A (assign (.Tuple [.Name t p,.Name t2 q] kk p3) env u) Q Nought s) r fun a u1 u2 gl r1 r2=>d8 hh (.inl gl) rfl rfl fun h₁ kp z=>?_
  have x1 : Step (· = env.locals) ι s ι { s with heap:=h₁ }:=.grow kp z
  show wpAny _ A (do holding [u2] (assign (.Name t p) env u1); do holding [] (assign (.Name t2 q) env u2); pure ()) _ _ _
  refine wpAny_bind (wpAny_holding (wpAny_assign_Name (dH (s:={ s with heap:=h₁ }) (hk t (by simp)) hf (ns.keeps kp) ni lo (H.grow kp z) fun s2 x2 H2 n2=>?_)))
  refine wpAny_bind (wpAny_holding (wpAny_assign_Name (dH (hk t2 (by simp)) hf n2 ni lo H2 fun s3 x3 H3 n3=>wpAny_pure ?_)))
  have xx:=(x1.trans x2).trans x3
  refine h s3 _ xx H3 n3 fun y=>?_
  have e : getVar (cd y) [(cd t,y1),(cd t2,y2)] = if t = y then some y1 else if t2 = y then some y2 else none:=by
   have e1:=br t y y1 [(cd t2,y2)]
   have e2:=br t2 y y2 []
   by_cases q : t = y
   ·subst q; rw [if_pos rfl]; exact if_pos rfl
   ·rw [if_neg q] at e1 ⊢
    exact (if_neg fun z=>q (b0 z)).trans e2
  rw [e]
  by_cases q1 : t = y
  ·rw [if_pos q1]; exact q1 ▸ ⟨List.mem_cons_self,u1,r1.mono xx.pre xx.imm,(if_neg ne).trans (if_pos rfl)⟩
  ·rw [if_neg q1]
   by_cases q2 : t2 = y
   ·rw [if_pos q2]; exact q2 ▸ ⟨List.mem_cons_of_mem _ List.mem_cons_self,u2,r2.mono xx.pre xx.imm,if_pos rfl⟩
   ·rw [if_neg q2]; exact fun m=>(List.mem_cons.mp m).elim (fun e=>q1 e.symm) fun m=>q2 (List.mem_singleton.mp m).symm
noncomputable abbrev testsOf (ifs : List Expr) (env : PySem.Env) : Sem Bool:=forIn ifs true fun c r=>if r = true then do let ok <- isTrue c env (eval c env); pure (ForInStep.yield ok) else pure (ForInStep.yield r)
theorem dS {M : Model} {E : Value -> Shared -> Prop} {Q : Bool -> Shared -> Prop} (h : Q false s) : ∀ ifs : List Expr,wpAny M A (forIn ifs false fun c r=>if r = true then do let ok <- isTrue c env (eval c env); pure (ForInStep.yield ok) else pure (ForInStep.yield r)) Q E s
 | []=>by rw [List.forIn_nil]; exact wpAny_pure h
 | c :: r=>by
  rw [List.forIn_cons]
  simp only [Bool.false_eq_true,if_false,pure_bind]
  exact dS h r
theorem h9 {P : Bool -> Hp -> Prop} (O : Ops C) (I : ∀ m ≤ k,SndE C d m) : ∀ {es : List Expr} {xs : List X} {σ : Hp} {ι : List Addr} {s : Shared},es.all plainE = true -> es.mapM (trE k kd) = some xs -> wT d xs ρ σ P -> At C d kd env A ρ σ ι s ->
  wpAny (model C.prog C.w) A (testsOf es env) (PB C ι s P) Nought s
 | [],_,_,_,_,_,h,hw,a=>by
  rw [mapM_nil h] at hw
  unfold testsOf
  rw [List.forIn_nil]
  exact wpAny_pure ⟨hw,.refl,a.heap⟩
 | c :: es,_,_,_,_,hp,h,hw,a=>bv h fun y ys h1 h2 eq=>by
  rw [eq] at hw
  rw [List.all_cons,Bool.and_eq_true] at hp
  unfold testsOf
  rw [List.forIn_cons]
  refine wpAny_bind (wpAny_bind (fw (cV (P:=fun b σ1=>match b with | true=>wT d ys ρ σ1 P | false=>P false σ1) O I hp.1 h1 hw a) fun b σ₁ s₁ ι₁ q x₁ H₁=>wpAny_pure ?_))
  cases b with
  | true=>exact qG x₁ (h9 O I hp.2 h2 q (a.step x₁ H₁))
  | false=>exact dS ⟨q,x₁,H₁⟩ es
theorem jy {prog : Program} {w : World} {R : Result -> Shared -> Prop} {elt target iter : Expr} {ifs : List Expr} {scope : Scope} {it acc : Value} (I : Nat -> Shared -> Prop)
  (turn : ∀ n s,I n s -> wpAny (model prog w) A (pyNext it) (fun r s₁=>match r with
   | none=>R (.ok .next) s₁
   | some v=>wpAny (model prog w) A (letOwnedTupleGo target it v) (fun uw s₁'=>wpAny (model prog w) A (assign target env v) (fun uw s₂=>wpAny (model prog w) A (testsOf ifs env) (fun ok s₃ =>
     if ok = true then wpAny (model prog w) A (eval elt env) (fun x s₄=>wpAny (model prog w) A (call (.builtin "list.append") [acc,x]) (fun uw s₅=>∃ m,m < n /\ I m s₅) Nought s₄) Nought s₃
     else ∃ m,m < n /\ I m s₃) Nought s₂) Nought s₁') Nought s₁) Nought s)
  (n : Nat) (h : I n s) : codeAny (model prog w) A (.compLoop (.ListComp elt [⟨target,iter,ifs,0⟩] scope pos) 0 it acc env) R s:=by
 have no : ∀ {α : Type} {t : Sem α} {Q : α -> Shared -> Prop} {E : Value -> Shared -> Prop} {s : Shared},wpAny (model prog w) A t Q Nought s -> wpAny (model prog w) A t Q E s:=fun h=>wpAny_mono h (fun uw uw q=>q) fun uw uw f=>f.elim
 refine codeAny_loop rfl I (fun n s hI=>?_) n h
 show wpAny _ A ((compTurn (.ListComp elt [⟨target,iter,ifs,0⟩] scope pos) 0 it acc env).onRaise (fun x=>do noteFrame x env; theTreesLotGoes x)) _ _ s
 refine wpAny_noted ?_
 rw [compTurn_list]
 refine wpAny_bind (wpAny_standAt (wpAny_bind (no (wpAny_mono (turn n s hI) (fun r s₁ h₁=>?_) fun uw uw f=>f))))
 cases r with
 | none=>exact wpAny_pure h₁
 | some v =>
  refine wpAny_bind (no (wpAny_mono h₁ (fun uw s₁' h₁'=>?_) fun uw uw f=>f))
  refine wpAny_bind (no (wpAny_mono h₁' (fun uw s₂ h₂=>?_) fun uw uw f=>f))
  refine wpAny_bind (no (wpAny_mono h₂ (fun ok s₃ h₃=>?_) fun uw uw f=>f))
  cases ok with
  | false=>exact wpAny_pure ⟨rfl,by simpa using h₃⟩
  | true =>
   simp only [if_true] at h₃ ⊢
   exact wpAny_bind (wpAny_bind (no (wpAny_mono h₃ (fun x s₄ h₄=>wpAny_bind (no (wpAny_mono h₄ (fun uw s₅ h₅=>wpAny_pure (wpAny_pure ⟨rfl,h₅⟩)) fun uw uw f=>f))) fun uw uw f=>f)))
structure CompE (kd : List (Str × NameKind)) (env cenv : PySem.Env) (sc : Scope) (ts : List Str) : Prop where
 ok : compOk kd sc ts = true
 scope : cenv.scope = relabel sc env
 glob : cenv.globals = env.globals
 blt : cenv.builtins = env.builtins
 cells : cenv.cells = closL env sc.names []
theorem aZ {α β : Type} [BEq α] [LawfulBEq α] {l : List (α × β)} {x : α} {b : β} (h : l.lookup x = some b) : (x,b) ∈ l:=by
 induction l with
 | nil=>cases h
 | cons y r ih =>
  obtain ⟨z,c⟩:=y
  rw [List.lookup_cons] at h
  split at h
  ·rename_i e; cases h; rw [beq_iff_eq.mp e]; exact List.mem_cons_self
  ·exact List.mem_cons_of_mem _ (ih h)
theorem jn {β γ : Type} (f : Str -> β -> γ) (l : List (Str × β)) (x : Str) : (l.map fun y=>(y.1,f y.1 y.2)).lookup x = (l.lookup x).map (f x):=by
 induction l with
 | nil=>rfl
 | cons y r ih =>
  obtain ⟨z,c⟩:=y
  simp only [List.map_cons,List.lookup_cons]
  split
  ·rename_i e; rw [beq_iff_eq.mp e]; rfl
  ·exact ih
variable {cenv : PySem.Env} {sc : Scope} {ts : List Str}
theorem aB (h : compOk kd sc ts = true) : sc.kind = .function /\ (∀ y ∈ sc.names,y.2 ≠ .cell) /\ (∀ y ∈ sc.names,y.2 = .local -> sc.names.lookup y.1 = some .local) /\ (∀ t ∈ ts,sc.names.lookup t = some .local /\ t ≠ Str.ofString ".0") /\ (∀ y ∈ sc.names,y.2 = .local -> y.1 ∈ ts \/ y.1 = Str.ofString ".0") /\
  (∀ y ∈ sc.names,y.2 = .free -> kd.lookup y.1 = some .cell):=by
 unfold compOk at h
 simp only [Bool.and_eq_true,List.all_eq_true,Bool.or_eq_true,bne_iff_ne,beq_iff_eq,ne_eq,List.contains_iff_mem] at h
 obtain ⟨⟨⟨⟨⟨h1,h2⟩,h3⟩,h4⟩,h6⟩,h5⟩:=h
 refine ⟨by revert h1; cases sc.kind <;> simp,h2,fun y hy e=>(h3 y hy).resolve_left (fun n=>n e),h4,fun y hy e=>(h6 y hy).imp (fun q=>q.resolve_left fun n=>n e) id,fun y hy e=>(h5 y hy).resolve_left (fun n=>n e)⟩
noncomputable def relK (env : PySem.Env) (n : Str) (k : NameKind) : NameKind:=if (k == .free && env.scope.kind == .function && env.kindOf n == some .cell) then .cell else k
theorem CompE.kind (E : CompE kd env cenv sc ts) (y : Str) : cenv.kindOf y = (sc.names.lookup y).map (relK env y):=by
 unfold Env.kindOf
 rw [E.scope]
 rw [<- jn (relK env)]
 unfold relabel relK
 congr 1
 apply List.map_congr_left
 intro z _
 obtain ⟨a,b⟩:=z
 dsimp only
 split <;> rfl
theorem CompE.kindLoc (E : CompE kd env cenv sc ts) {t : Str} (h : t ∈ ts) : cenv.kindOf t = some .local:=by
 rw [E.kind,((aB E.ok).2.2.2.1 t h).1]
 unfold relK
 simp
theorem CompE.fn (E : CompE kd env cenv sc ts) : cenv.scope.kind = .function:=by rw [E.scope]; exact (aB E.ok).1
theorem CompE.envS (E : CompE kd env cenv sc ts) (e : iV env) : iV cenv:=⟨E.fn,E.glob.trans e.glob,E.blt.trans e.blt⟩
theorem CompE.kdOk (E : CompE kd env cenv sc ts) (K : KdOk kd env) (ES : iV env) : KdOk sc.names cenv:=fun y=>by
 rw [E.kind]
 cases e : sc.names.lookup y with
 | none=>refine ⟨fun h=>?_,fun h=>?_,fun h=>?_⟩ <;> (revert h; simp [isVar])
 | some k =>
  refine ⟨fun h=>?_,fun h=>?_,fun h=>?_⟩
  ·simp only [Option.map_some]
   unfold relK
   split
   ·rfl
   ·exact h
  ·simp only [Option.some.injEq] at h
   subst h
   unfold relK
   simp
  ·simp only [Option.some.injEq] at h
   subst h
   exact absurd rfl ((aB E.ok).2.1 _ (aZ e))
theorem CompE.free (E : CompE kd env cenv sc ts) (K : KdOk kd env) (ES : iV env) (O : EnvOk C env ρ ι s.heap) {y : Str} (h : isVar (cenv.kindOf y) = true) (n : y ∉ ts) (d0 : y ≠ Str.ofString ".0") :
  env.kindOf y = some .cell /\ cenv.kindOf y = some .cell /\ cenv.cells.lookup y = env.cells.lookup y:=by
 have hk:=E.kind y
 cases e : sc.names.lookup y with
 | none=>rw [hk,e] at h; cases h
 | some k =>
  have m:=aZ e
  cases k with
  | free =>
   have h1:=(K y).2.2 ((aB E.ok).2.2.2.2.2 _ m rfl)
   refine ⟨h1,?_,?_⟩
   ·rw [hk,e]; unfold relK; simp [h1,ES.kind]
   ·rw [E.cells,bC,if_pos (List.any_eq_true.mpr ⟨_,m,by simp⟩)]
    obtain ⟨c,hc⟩:=O.cells y h1
    rw [hc]; rfl
  | «local»=>exact absurd (((aB E.ok).2.2.2.2.1 _ m rfl).resolve_left n) d0
  | cell=>exact absurd rfl ((aB E.ok).2.1 _ m)
  | _=>rw [hk,e] at h; unfold relK isVar at h; simp at h
theorem CompE.at (E : CompE kd env cenv sc ts) {ι₀ : List Addr} {s₀ : Shared} {σ₀ : Hp} {b : Env} {m : Str -> Option Value} (a : At C d kd env A ρ σ₀ ι₀ s₀) (x : Step NoOwn ι₀ s₀ ι s) (H : HOk C ι σ s.heap) (ni : cenv.locals ∉ ι) (ns : s.heap.Ns cenv.locals m)
  (hb : Bound C ι s.heap ts m b) : At C d sc.names cenv A (b ++ ρ) σ ι s:=by
 refine ⟨E.kdOk a.kd a.es,E.envS a.es,a.room,⟨fun y w n0 e k=>?_,ni,⟨_,ns⟩,fun y k=>?_⟩,H⟩
 ·have ga : ∀ (b : Env),getVar (cd y) (b ++ ρ) = match getVar (cd y) b with | some w=>some w | none=>getVar (cd y) ρ:=fun b=>by
   induction b with
   | nil=>rfl
   | cons z r ih =>
    obtain ⟨z,w⟩:=z
    simp only [List.cons_append,getVar]
    split
    ·rfl
    ·exact ih
  have hb:=hb y
  rw [ga] at e
  cases eb : getVar (cd y) b with
  | some w' =>
   rw [eb] at e hb
   cases e
   refine ta hb fun mt u r q=>?_
   refine ⟨u,r,?_⟩
   unfold NameIs
   rw [E.kindLoc mt]
   exact ⟨m,ns,q⟩
  | none =>
   rw [eb] at e hb
   refine lh (E.free a.kd a.es a.env k hb n0) fun k1 k2 k3=>?_
   have O:=a.env.step x a.heap
   refine aw (O.vars y w n0 e (by rw [k1]; rfl)) fun u r i=>?_
   refine ⟨u,r,?_⟩
   unfold NameIs at i ⊢
   rw [k1] at i
   rw [k2,k3]
   exact i
 ·have hk:=E.kind y
  cases e : sc.names.lookup y with
  | none=>rw [hk,e] at k; cases k
  | some kk =>
   have m0:=aZ e
   cases kk with
   | free =>
    have h1:=(a.kd y).2.2 ((aB E.ok).2.2.2.2.2 _ m0 rfl)
    rw [E.cells,bC,if_pos (List.any_eq_true.mpr ⟨_,m0,by simp⟩)]
    exact ⟨_,rfl⟩
   | cell=>exact absurd rfl ((aB E.ok).2.1 _ m0)
   | _=>rw [hk,e] at k; cases k
end
section
variable {C : Cx} {ι ι' : List Addr} {σ σ' : Hp} {s s' : Shared} {env : PySem.Env} {ρ : Env} {A : Around} {d k : Nat} {kd : List (Str × NameKind)} {v : AV} {x : X} {pos : Pos} {own : Addr -> Prop} {it : Addr} {i ep : Nat} {Q : AV -> Hp -> Prop}
variable {cenv : PySem.Env} {sc : Scope} {ts : List Str}
theorem ItR.step (x : Step own ι s ι' s') (r : ItR C ι s.heap it i v ep) (H : HOk C ι σ s.heap) (hn : ¬ own it) : ItR C ι' s'.heap it i v ep :=
 r.keep x.pre x.imm fun o e=>x.keep _ o e hn (r.notIn H)
theorem cd_append : cd (Str.ofString "append") = 18:=by kernel_rfl
theorem gm {α : Nat} {xs : List AV} {z : AV} (l : xs.length < 4000) : mcallL σ α xs (cd (Str.ofString "append")) [z] = some (.none,σ.set α (.list (xs ++ [z]))):=by
 rw [cd_append]
 show (putList _ _ _).map _ = _
 unfold putList
 rw [if_pos (by rw [List.length_append]; exact l)]; rfl
inductive uo (C : Cx) (T : TrB) (E : TrE) (ts : List Nat) (v : AV) (ep α : Nat) (ρ : Env) (Q : AV -> Hp -> Prop) (ι₀ : List Addr) (s₀ : Shared) (it D L : Addr) (n : Nat) (s : Shared) : Prop
 | mk {i : Nat} {σ : Hp} {ι : List Addr} {m : Str -> Option Value} (h : CLo T E ts v ep α ρ Q n i σ) (x : Step (Fresh s₀) ι₀ s₀ ι s) (H : HOk C ι σ s.heap) (r : ItR C ι s.heap it i v ep) (hD : ι[α]? = some D) (ns : s.heap.Ns L m) (ni : L ∉ ι)
theorem lK (I : ∀ m ≤ k,SndE C d m) (O : Ops C) {elt iter target : Expr} {cs : List Expr} {elt' : X} {cs' : List X} (he : trE k sc.names elt = some elt') (hc : cs.mapM (trE k sc.names) = some cs') (hp : cs.all plainE = true) (tg : targetT target = some ts)
  (E : CompE kd env cenv sc ts) {ι₀ : List Addr} {s₀ : Shared} {σ₀ : Hp} (a : At C d kd env A ρ σ₀ ι₀ s₀) {α : Nat} {D : Addr} {R : Result -> Shared -> Prop}
  (lo1 : s₀.heap.objs.size ≤ it) (lo2 : s₀.heap.objs.size ≤ cenv.locals) (ne : it ≠ cenv.locals)
  (hR : ∀ s' ι' σ',Q (.ref α) σ' -> Step (Fresh s₀) ι₀ s₀ ι' s' -> HOk C ι' σ' s'.heap -> VRep C ι' s'.heap (.ref α) (.ref D) -> (∃ m,s'.heap.Ns cenv.locals m) -> cenv.locals ∉ ι' -> R (.ok .next) s')
  {m : Str -> Option Value} {n : Nat} (h : CLo (wT d cs') (wX d elt') (ts.map cd) v ep α ρ Q n i σ) (x : Step (Fresh s₀) ι₀ s₀ ι s) (H : HOk C ι σ s.heap) (r : ItR C ι s.heap it i v ep) (hD : ι[α]? = some D) (ns : s.heap.Ns cenv.locals m) (ni : cenv.locals ∉ ι) :
  codeAny (model C.prog C.w) A (.compLoop (.ListComp elt [⟨target,iter,cs,0⟩] sc pos) 0 (.ref it) (.ref D) cenv) R s:=by
 refine jy (uo C (wT d cs') (wX d elt') (ts.map cd) v ep α ρ Q ι₀ s₀ it D cenv.locals) (fun n s z=>?_) n ⟨h,x,H,r,hD,ns,ni⟩
 clear h x H r hD ns ni
 obtain ⟨h,x,H,r,hD,ns,ni⟩:=z
 cases n with
 | zero=>exact h.elim
 | succ n =>
  refine bE h fun o eo h=>?_
  have bl : C.base.objs.size ≤ s₀.heap.objs.size:=a.heap.low
  refine kn a.room.handled r H (Nat.le_trans bl lo1) eo (fun e s1 x1 H1=>?_) fun y u s1 e x1 H1 r1 it1=>?_
  ·rw [e] at h
   exact hR s1 _ _ h (x.trans (x1.weaken fun b hb=>.inl (hb ▸ lo1))) H1 (.ref hD) ⟨_,x1.ns ns ni (fun q=>ne q.symm)⟩ ni
  ·rw [e] at h
   refine bE h fun b eb h=>?_
   have ns1:=x1.ns ns ni (fun q=>ne q.symm)
   refine jz tg it1 a.room.handled (fun t ht=>E.kindLoc ht) E.fn ns1 ni (Nat.le_trans bl lo2) H1 eb r1 fun s2 m2 x2 H2 n2 hb=>?_
   have it2:=it1.step x2 H1 ne
   have x12:=(x.trans (x1.weaken (own':=Fresh s₀) fun b hb=>.inl (hb ▸ lo1))).trans (x2.weaken fun b hb=>.inl (hb ▸ lo2))
   have at2:=E.at a x12.fresh' H2 ni n2 hb
   refine fw (h9 O I hp hc h at2) fun t σ3 s3 ι3 q x3 H3=>?_
   have x13:=x12.trans x3.ofNo
   have ni3:=x3.notIn ni n2.lt
   cases t with
   | false=>exact ⟨n,Nat.lt_succ_self _,q,x13,H3,it2.step x3 H2 id,cm x3.pre hD,x3.ns n2 ni id,ni3⟩
   | true =>
    refine aF (I k (Nat.le_refl k) he q (at2.step x3 H3)) fun z w σ4 s4 ι4 q x4 H4 r4=>bE q fun xs e5 q=>?_
    have x34:=x3.trans x4
    have ap:=O.listM (gm q.1) (bm e5) (cm x34.pre hD) (.cons r4 .nil) H4 a.room
    rw [show "list." ++ (Str.ofString "append").toString = "list.append" by decide +kernel] at ap
    refine wpAny_mono ap (fun w5 s5 p=>?_) fun uw uw f=>f
    refine bq p fun ι5 x5 H5 uw=>?_
    have x35:=x34.trans x5
    exact ⟨n,Nat.lt_succ_self _,q.2,x12.trans x35.ofNo,H5,it2.step x35 H2 id,cm x35.pre hD,x35.ns n2 ni id,x35.notIn ni n2.lt⟩
theorem mY {e : Expr} {z : X} (h : trE k kd e = some z) (env : PySem.Env) (u : Value) : foldedSetIterable e env u = pure u:=by
 cases k with
 | zero=>exact nn h
 | succ k=>cases e <;> first | rfl | exact nn h
theorem r5 (H : HOk C ι σ s.heap) {α : Nat} {u : Value} (r : VRep C ι s.heap (.ref α) u) : α < σ.length:=by
 cases r with
 | ref e=>obtain ⟨l,_⟩:=List.getElem?_eq_some_iff.mp e; exact H.len ▸ l
theorem ix (H : HOk C ι σ s.heap) {u : Value} (r : VRep C ι s.heap v u) (y : AO) : nextOf (σ ++ [y]) v i ep = nextOf σ v i ep:=by
 cases v with
 | ref α=>unfold nextOf; dsimp only; rw [List.getElem?_append_left (r5 H r)]
 | _=>rfl
theorem iN (T : bi C) (I : ∀ m ≤ k,SndE C d m) (O : Ops C) {elt iter target : Expr} {cs : List Expr} {elt' it' : X} {cs' : List X} (he : trE k sc.names elt = some elt') (hc : cs.mapM (trE k sc.names) = some cs') (hp : cs.all plainE = true) (tg : targetT target = some ts)
  (ok : compOk kd sc ts = true) (hi : trE k kd iter = some it') (hw : wX d (.comp elt' (ts.map cd) it' cs') ρ σ Q) (a : At C d kd env A ρ σ ι s)
  {ps : Pos} {use : Option (Value -> Sem Unit)} {R : Value -> Shared -> Prop}
  (hQ : ∀ D L s' ι' σ' {v},Q v σ' -> Step (Fresh s) ι s ι' s' -> HOk C ι' σ' s'.heap -> VRep C ι' s'.heap v (.ref D) -> (∃ m,s'.heap.Ns L m) -> L ∉ ι' -> s.heap.objs.size ≤ L -> compPost (model C.prog C.w) A Nought use R (.ref D) L (.ok .next) s') :
  wpAny (model C.prog C.w) A (comprehension (.ListComp elt [⟨target,iter,cs,0⟩] sc pos) sc env ps (newList []) false (eval iter env) use) R Nought s:=by
 have parts:=aB ok
 have hfree : ∀ y ∈ sc.names,y.2 = .free -> ∃ c,env.cells.lookup y.1 = some c:=fun y hy e=>a.env.cells y.1 ((a.kd y.1).2.2 (parts.2.2.2.2.2 y hy e))
 refine wpAny_comprehension_free (use:=use) rfl (mY hi env) (jA hfree) parts.1 parts.2.2.1 ?_
 refine aF (I k (Nat.le_refl k) hi hw a) fun v u σ1 s1 ι1 q x1 H1 r1=>?_
 obtain ⟨n,h2⟩:=q
 have first : (nextOf σ1 v 0 (epOf σ1 v)).isSome = true:=by
  rw [<- ix H1 r1 (.list [])]
  cases n with
  | zero=>exact h2.elim
  | succ n=>exact bE h2 fun o eo uw=>by rw [eo]; rfl
 refine iF T r1 H1 first fun it s2 x2 H2 lo itr=>?_
 refine wpAny_newList ?_ (by decide)
 have H3:=H2.push (o:={ cls:=.type "list",data:=.seq ([] : List Value).toArray }) (.list (xs:=[]) (vs:=[]) (n:=0) (Heap.get?_push_size _ rfl) .nil (by decide))
 have x3 : Step NoOwn ι1 s2 (ι1 ++ [s2.heap.objs.size]) { s2 with heap:=s2.heap.push { cls:=.type "list",data:=.seq ([] : List Value).toArray } }:=.push (t:=s2.toks)
 refine wpAny_newFunctionEnv parts.2.1 (by intro y hy; simp at hy) (fun h4 n4 b4=>?_) parts.1
 dsimp only at n4 b4 ⊢
 generalize hs3 : ({ s2 with heap:=s2.heap.push { cls:=.type "list",data:=.seq ([] : List Value).toArray } } : Shared) = s3 at *
 have e3 : s3.heap = s2.heap.push { cls:=.type "list",data:=.seq ([] : List Value).toArray }:=by rw [<- hs3]
 rw [<- e3] at H3 n4 b4 ⊢
 have k4 : Keeps s3.heap h4:=fun c o e=>(b4.2 c (Nat.ne_of_lt (Heap.lt_size e))).trans (Heap.get?_push_of_some _ e)
 have z4 : s3.heap.objs.size ≤ h4.objs.size:=by rw [b4.1,Mine.size_push]; lia
 have x13 : Step (Fresh s) ι s (ι1 ++ [s2.heap.objs.size]) s3:=((x1.trans x2).trans x3).ofNo
 have l3 : s2.heap.objs.size < s3.heap.objs.size:=by rw [e3,Mine.size_push]; lia
 have z2 : s.heap.objs.size ≤ s2.heap.objs.size:=Nat.le_trans x1.size x2.size
 have zL : s.heap.objs.size ≤ s3.heap.objs.size:=Nat.le_trans z2 (Nat.le_of_lt l3)
 have itl:=itr.lt
 have eg : s3.gens = s2.gens /\ s3.drawn = s2.drawn /\ s3.toks = s2.toks /\ s3.os = s2.os:=by rw [<- hs3]; exact ⟨rfl,rfl,rfl,rfl⟩
 have start : ∀ s4 : Shared,s4 = ⟨h4,s3.gens,s3.drawn,s3.toks + ([] : List (Str × Value)).length,s3.os⟩ -> codeAny (model C.prog C.w) A (.compStart (.ListComp elt [⟨target,iter,cs,0⟩] sc pos) 0 (.ref it) (.ref s2.heap.objs.size)
   { newEnv sc s3.heap.objs.size env.globals (closL env sc.names []) env.qual none .none (some env) builtinsNs with scope:=relabel sc env })
   (compPost (model C.prog C.w) A Nought use R (.ref s2.heap.objs.size) s3.heap.objs.size) s4:=by
  rintro s4 rfl
  have x4 : Step (Fresh s) (ι1 ++ [s2.heap.objs.size]) s3 (ι1 ++ [s2.heap.objs.size]) ⟨h4,s3.gens,s3.drawn,s3.toks + ([] : List (Str × Value)).length,s3.os⟩:=.grow k4 z4
  have H4 : HOk C (ι1 ++ [s2.heap.objs.size]) (σ1 ++ [.list []]) h4:=H3.grow k4 z4
  have it3 : ItR C (ι1 ++ [s2.heap.objs.size]) s3.heap it 0 v (epOf σ1 v):=itr.step x3 H2 id
  have it4 : ItR C (ι1 ++ [s2.heap.objs.size]) h4 it 0 v (epOf σ1 v):=it3.keep (s':=⟨h4,s3.gens,s3.drawn,s3.toks + ([] : List (Str × Value)).length,s3.os⟩) (List.prefix_refl _) k4.imm fun o e=>k4 _ _ e
  have E : CompE kd env { newEnv sc s3.heap.objs.size env.globals (closL env sc.names []) env.qual none .none (some env) builtinsNs with scope:=relabel sc env } sc ts:=⟨ok,rfl,rfl,rfl,rfl⟩
  have hD : (ι1 ++ [s2.heap.objs.size])[σ1.length]? = some s2.heap.objs.size:=by rw [<- H2.len]; simp
  have ni : s3.heap.objs.size ∉ ι1 ++ [s2.heap.objs.size]:=fun m=>Nat.lt_irrefl _ (H3.lt m)
  have loop:=lK (s:=⟨h4,s3.gens,s3.drawn,s3.toks + ([] : List (Str × Value)).length,s3.os⟩) (R:=compPost (model C.prog C.w) A Nought use R (.ref s2.heap.objs.size) s3.heap.objs.size) (iter:=iter) (pos:=pos) I O he hc hp tg E a (Nat.le_trans x1.size lo) zL (Nat.ne_of_lt (Nat.lt_trans itl l3))
   (fun s' ι' σ' q y H' r' ns' ni'=>hQ _ _ s' ι' _ q y H' r' ns' ni' zL) (n:=n) h2 (x13.trans x4) H4 it4 hD n4 ni
  exact codeAny_compStart_list loop (wpAny_mono (nH it4 loop) (fun uw uw q=>q) fun uw uw f=>f.elim)
 exact start _ (by rw [eg.1,eg.2.1,eg.2.2.1,eg.2.2.2])
theorem qO {elt : Expr} {gens : List Comprehension} {f g : Expr -> Option X} {G : List Comprehension -> Prop} (h : trComp kd f g elt gens sc = some x)
  (K : ∀ target iter cs ts elt' it' cs',targetT target = some ts -> compOk kd sc ts = true -> g elt = some elt' -> f iter = some it' -> cs.all plainE = true -> cs.mapM g = some cs' -> x = .comp elt' (ts.map cd) it' cs' -> G [⟨target,iter,cs,0⟩]) : G gens :=
 pH (G:=G) h fun c h=>by
  obtain ⟨target,iter,cs,as⟩:=c
  exact ifC h fun ha h=>ah h fun ts ht h=>ifC h fun ok h=>ah h fun e he h=>ah h fun i hi h=>ifC h fun hp h=>aG h fun zs hz e=>(show as = 0 from ha) ▸ K _ _ _ _ _ _ _ ht ok he hi hp hz e.symm
theorem de (T : bi C) (I : ∀ m ≤ k,SndE C d m) (O : Ops C) {elt : Expr} {gens : List Comprehension} (h : trE (k + 1) kd (.ListComp elt gens sc pos) = some x) (hw : wX d x ρ σ Q) (a : At C d kd env A ρ σ ι s) :
  wpAny (model C.prog C.w) A (eval (.ListComp elt gens sc pos) env) (PE C ι s Q) Nought s :=
 qO (G:=fun gens=>wpAny (model C.prog C.w) A (eval (.ListComp elt gens sc pos) env) (PE C ι s Q) Nought s) h fun target iter cs ts elt' it' cs' tg ok h1 h2 hp h3 e=>by
  rw [e] at hw
  rw [eval_ListComp]
  refine iN T I O h1 h3 hp tg ok h2 hw a (use:=none) fun D L s' ι' σ' {v} q y H r' ns nL lo=>?_
  obtain ⟨m,ns⟩:=ns
  refine ⟨m,ns,fun h' b=>?_⟩
  refine aw (gC ns) fun o g im=>?_
  have x2 : Step (Fresh s) ι' s' ι' { s' with heap:=h',toks:=s'.toks }:=.one b g im lo
  exact ⟨q,(y.trans x2).fresh',H.one b g im nL (Nat.le_trans a.heap.low lo),r'.mono (List.prefix_refl _) x2.imm⟩
theorem lJ {ks : List (Option Expr)} {vs : List Expr} {G : List (Option Expr) -> List Expr -> Prop} (h : (ks.isEmpty && vs.isEmpty) = true) (k : G [] []) : G ks vs:=by
 cases ks with
 | nil=>cases vs with
  | nil=>exact k
  | cons=>exact tf h
 | cons=>exact tf h
theorem kX (T : bi C) (O : Ops C) (F : SndF C (CFW d) d) (V : SndV C d) (I : ∀ m ≤ k,SndE C d m) : SndE C d (k + 1):=by
 intro kd e x ρ σ Q env A ι s h hw a
 have J:=I k (Nat.le_refl _)
 cases e with
 | Constant c kk pos=>exact fY h hw a.heap
 | Name y pos=>exact hP T h hw a
 | Tuple es kk pos=>exact kQ J h hw a
 | List es pos=>exact mo J h hw a
 | Dict ks vs pos=>exact ifC h fun hn h=>lJ (G:=fun ks vs=>wpAny (model C.prog C.w) A (eval (.Dict ks vs pos) env) (PE C ι s Q) Nought s) hn (opE .refl (Option.some.inj h ▸ hw : wX d .edict ρ σ Q) (O.edict a.heap a.room))
 | Attribute e b pos=>exact fh O J h hw a
 | Subscript e i pos=>exact ff O J h hw a
 | BinOp l op r pos=>exact kT O J h hw a
 | UnaryOp op e pos=>exact hM O J h hw a
 | Compare l ops rs pos=>exact hU O J h hw a
 | BoolOp op es pos=>exact j9 J h hw a
 | IfExp t b o pos=>exact kR O I h hw a
 | Call f es ks pos=>exact mq O F V J h hw a
 | ListComp elt gens sc pos=>exact de T I O h hw a
 | _=>exact nn h
theorem fX (T : bi C) (O : Ops C) (F : SndF C (CFW d) d) (V : SndV C d) : ∀ k,∀ m ≤ k,SndE C d m
 | 0,m,l=>fun uw uw uw uw uw uw uw uw uw uw h=>by rw [Nat.le_zero.mp l] at h; exact nn h
 | k + 1,m,l=>(Nat.lt_or_eq_of_le l).elim (fun l=>fX T O F V k m (Nat.le_of_lt_succ l)) fun e=>e ▸ kX T O F V (fX T O F V k)
end
noncomputable def FlR (C : Cx) (ι : List Addr) (h : Heap) : Fl -> Flow -> Prop
 | .next,f=>f = .next
 | .ret v,f=>∃ u,f = .ret u /\ VRep C ι h v u
inductive PF (C : Cx) (env : PySem.Env) (own : Addr -> Prop) (ι : List Addr) (s : Shared) (Q : Fl -> Env -> Hp -> Prop) (f : Flow) (s' : Shared) : Prop
 | mk {fl : Fl} {ρ' : Env} {σ' : Hp} {ι' : List Addr} (q : Q fl ρ' σ') (x : Step own ι s ι' s') (H : HOk C ι' σ' s'.heap) (E : EnvOk C env ρ' ι' s'.heap) (S : StOk C env own s'.heap) (r : FlR C ι' s'.heap fl f)
structure AtS (C : Cx) (own : Addr -> Prop) (d : Nat) (kd : List (Str × NameKind)) (env : PySem.Env) (A : Around) (ρ : Env) (σ : Hp) (ι : List Addr) (s : Shared) : Prop where
 at' : At C d kd env A ρ σ ι s
 st : StOk C env own s.heap
 kd : kd = env.scope.names
noncomputable abbrev wS (d : Nat):=wSo (CFW d) (CFK d)
noncomputable abbrev wSs (d : Nat):=wSso (CFW d) (CFK d)
section
variable (C : Cx)
noncomputable def SndX (d k : Nat) : Prop:=∀ ⦃kd st x ρ σ Q env A ι s own⦄,trS k kd st = some x -> wS d x ρ σ Q -> AtS C own d kd env A ρ σ ι s ->
 wpAny (model C.prog C.w) A (exec st env) (PF C env own ι s Q) Nought s
noncomputable def SndXs (d k : Nat) : Prop:=∀ ⦃kd st x ρ σ Q env A ι s own⦄,st.mapM (trS k kd) = some x -> wSs d x ρ σ Q -> AtS C own d kd env A ρ σ ι s ->
 wpAny (model C.prog C.w) A (execs st env) (PF C env own ι s Q) Nought s
structure OpsS : Prop where
 setA : ∀ {p c z : Nat} {as v w A d ι} {x : Str} {σ : Hp} {s a},σ[p]? = some (AO.inst c z) -> σ[z]? = some (AO.attrs as) -> prg.mt c (cd x) = some none -> as.length < top -> ι[p]? = some a -> VRep C ι s.heap v w -> HOk C ι σ s.heap -> Room A d ->
  wpAny (model C.prog C.w) A (setAttr (.ref a) x w) (fun uw s'=>Step NoOwn ι s ι s' /\ HOk C ι (σ.set z (.attrs (setVar (cd x) v as))) s'.heap) Nought s
 setL : ∀ {p : Nat} {xs i t v w A d ι} {σ σ' : Hp} {s a},σ[p]? = some (AO.list xs) -> 0 ≤ i -> i.toNat < xs.length -> putList σ p (xs.set i.toNat v) = some σ' -> ι[p]? = some a -> VRep C ι s.heap v w -> HOk C ι σ s.heap -> Room A d ->
  wpAny (model C.prog C.w) A (setItem (.ref a) (.int i t) w) (fun uw s'=>Step NoOwn ι s ι s' /\ HOk C ι σ' s'.heap) Nought s
 setD : ∀ {p : Nat} {es ep key k kw v w A d ι} {σ : Hp} {s a},σ[p]? = some (AO.dict es ep) -> keyOf key = some k -> es.length < top -> ι[p]? = some a -> VRep C ι s.heap key kw -> VRep C ι s.heap v w -> HOk C ι σ s.heap -> Room A d ->
  wpAny (model C.prog C.w) A (setItem (.ref a) kw w) (fun uw s'=>Step NoOwn ι s ι s' /\ HOk C ι (σ.set p (.dict (dPut key k v es) (if dHas k es then ep else ep + 1))) s'.heap) Nought s
end
section
variable {C : Cx} {ι ι' : List Addr} {σ σ' : Hp} {s s' : Shared} {env : PySem.Env} {ρ ρ' : Env} {A : Around} {d k : Nat} {kd : List (Str × NameKind)} {v : AV} {x : X} {pos : Pos} {own : Addr -> Prop} {Q : Fl -> Env -> Hp -> Prop}
theorem AtS.step (a : AtS C own d kd env A ρ σ ι s) (x : Step NoOwn ι s ι' s') (H : HOk C ι' σ' s'.heap) : AtS C own d kd env A ρ σ' ι' s':=⟨a.at'.step x H,a.st.step x a.at'.heap,a.kd⟩
theorem AtS.next (a : AtS C own d kd env A ρ σ ι s) {s' : Shared} (H : HOk C ι' σ' s'.heap) (E : EnvOk C env ρ' ι' s'.heap) (S : StOk C env own s'.heap) : AtS C own d kd env A ρ' σ' ι' s':=⟨⟨a.at'.kd,a.at'.es,a.at'.room,E,H⟩,S,a.kd⟩
theorem EnvOk.congr {h : Heap} (E : EnvOk C env ρ ι h) (g : ∀ y,getVar (cd y) ρ' = getVar (cd y) ρ) : EnvOk C env ρ' ι h:=⟨fun x v n0 e k=>E.vars x v n0 (by rw [<- g]; exact e) k,E.sep,E.ns,E.cells⟩
theorem nB {M : Model} {m : Sem Flow} {s₁ s₂ : Shared} {ι₁ : List Addr} (x : Step own ι s ι₁ s₁) (h : wpAny M A m (PF C env own ι₁ s₁ Q) Nought s₂) : wpAny M A m (PF C env own ι s Q) Nought s₂ :=
 wpAny_mono h (fun uw uw ⟨q,y,H,E,S,r⟩=>⟨q,x.trans y,H,E,S,r⟩) fun uw uw f=>f
theorem iI {fl : Fl} {f : Flow} (x : Step NoOwn ι s ι' s') (a : AtS C own d kd env A ρ σ ι s) (q : Q fl ρ σ') (H : HOk C ι' σ' s'.heap) (r : FlR C ι' s'.heap fl f) : PF C env own ι s Q f s' :=
 ⟨q,x.ofNo,H,a.at'.env.step x a.at'.heap,a.st.step x a.at'.heap,r⟩
theorem m8 (J : SndX C d k) : SndXs C d k:=by
 intro kd st
 induction st with
 | nil =>
  intro x ρ σ Q env A ι s own h hw a
  rw [mapM_nil h] at hw
  exact wpAny_execs_nil ⟨hw,.refl,a.at'.heap,a.at'.env,a.st,rfl⟩
 | cons st rest ih =>
  intro x ρ σ Q env A ι s own h hw a
  refine bv h fun y ys h1 h2 e=>?_
  rw [e] at hw
  refine wpAny_execs_cons (wpAny_mono (J h1 hw a) (fun f s1 p=>?_) fun uw uw f=>f)
  obtain ⟨q,x1,H1,E1,S1,r1⟩:=p
  cases fl with
  | next=>rw [show f = .next from r1]; exact nB x1 (ih h2 q (a.next H1 E1 S1))
  | ret w=>exact let ⟨u,e,r⟩:=r1; e ▸ ⟨q,x1,H1,E1,S1,⟨u,rfl,r⟩⟩
theorem g9 {e : Expr} (h : isComp e = false) (t : Option Expr) (l : Nat) : swapsWith e t l env = pure false:=by
 cases e <;> first | rfl | exact tf h.symm
theorem fe {y : Str} {e : Expr} {yp : Pos} (J : SndE C d k) (hc : isComp e = false) (hs : stK kd y = true) (he : trE k kd e = some x) (hw : wS d (.asg (cd y) x) ρ σ Q) (a : AtS C own d kd env A ρ σ ι s) :
  wpAny (model C.prog C.w) A (exec (.Assign [.Name y yp] e pos) env) (PF C env own ι s Q) Nought s :=
 wpAny_Assign_Name (aF (J he hw a.at') fun uw uw uw uw uw q x1 H1 r1 =>
  have a1:=a.step x1 H1
  bX (a.kd ▸ hs) a.at'.es a1.at'.env a1.st H1 r1 fun uw x2 H2 E2 S2=>⟨q,x1.ofNo.trans x2,H2,E2,S2,rfl⟩) (g9 hc _ _)
theorem fW (T : bi C) (I : ∀ m ≤ k,SndE C d m) (O : Ops C) {y : Str} {yp : Pos} {elt : Expr} {gens : List Comprehension} {sc : Scope} {cp : Pos} (hs : stK kd y = true)
  (he : trE (k + 1) kd (.ListComp elt gens sc cp) = some x) (hw : wS d (.asg (cd y) x) ρ σ Q) (a : AtS C own d kd env A ρ σ ι s) :
  wpAny (model C.prog C.w) A (exec (.Assign [.Name y yp] (.ListComp elt gens sc cp) pos) env) (PF C env own ι s Q) Nought s:=by
 have two : ∀ b : Bool,swapsWith (.ListComp elt gens sc cp) (some (.Name y yp)) pos.line env = pure b -> wpAny (model C.prog C.w) A (exec (.Assign [.Name y yp] (.ListComp elt gens sc cp) pos) env) (PF C env own ι s Q) Nought s:=fun b hb=>by
  cases b with
  | false =>
   exact wpAny_Assign_Name (aF (de T I O he hw a.at') fun uw uw uw uw uw q x1 H1 r1 =>
    have a1:=a.step x1 H1
    bX (a.kd ▸ hs) a.at'.es a1.at'.env a1.st H1 r1 fun uw x2 H2 E2 S2=>⟨q,x1.ofNo.trans x2,H2,E2,S2,rfl⟩) hb
  | true =>
   revert hb
   refine qO (G:=fun gens=>swapsWith (.ListComp elt gens sc cp) (some (.Name y yp)) pos.line env = pure true -> wpAny (model C.prog C.w) A (exec (.Assign [.Name y yp] (.ListComp elt gens sc cp) pos) env) (PF C env own ι s Q) Nought s) he fun target iter cs ts elt' it' cs' tg ok h1 h2 hp h3 e hb=>?_
   rw [e] at hw
   rw [exec_Assign_Name_used _ _ _ _ hb]
   refine wpAny_bind (wpAny_standAt (wpAny_bind ?_))
   show wpAny _ A (do let _ <- comprehension (.ListComp elt [⟨target,iter,cs,0⟩] sc cp) sc env _ (newList []) false (eval iter env) (some (assign (.Name y yp) env))) _ _ s
   refine wpAny_bind (wpAny_mono (iN T I O h1 h3 hp tg ok h2 hw a.at' (use:=some (assign (.Name y yp) env)) (R:=fun uw s'=>PF C env own ι s Q .next s') fun D L s' ι' σ' {v} q z H r' ns nL lo=>?_) (fun uw s' hq=>wpAny_pure (wpAny_pure hq)) fun uw uw f=>f)
   obtain ⟨m,ns⟩:=ns
   show wpAny _ A (assign (.Name y yp) env (.ref D)) _ _ s'
   have a1:=a.step z.fresh' H
   have neL : env.locals ≠ L:=fun e=>let ⟨m0,n0⟩:=a.at'.env.ns; absurd n0.lt (Nat.not_lt.mpr (e ▸ lo))
   have noL : ¬ own L:=fun o=>absurd (a.st.old L o) (Nat.not_lt.mpr lo)
   refine wpAny_assign_Name (bX (a.kd ▸ hs) a.at'.es a1.at'.env a1.st H r' fun s2 x2 H2 E2 S2=>?_)
   have ns2:=x2.ns ns nL noL
   refine ⟨m,ns2,fun h' b=>?_⟩
   refine aw (gC ns2) fun o g im=>?_
   have x3 : Step (fun c=>own c \/ s.heap.objs.size ≤ c) ι' s2 ι' { s2 with heap:=h',toks:=s2.toks }:=.one b g im (.inr lo)
   have w1:=((z.weaken fun c q=>.inl (.inr q)).trans (x2.weaken fun c q=>.inl (.inl q))).trans x3
   have ce : ∀ c v,s2.heap.IsCell c v -> h'.IsCell c v:=fun uw uw q=>q.sameBut b (eD q ns2)
   exact ⟨q,w1.weaken fun c q=>q,H2.one b g im nL (Nat.le_trans a.at'.heap.low lo),E2.keep (List.prefix_refl _) x3.imm E2.sep (fun uw n=>n.sameBut b neL) ce,S2.keep x3.size ce,rfl⟩
 exact two _ rfl
inductive bw (M : Model) (A : Around) (env : PySem.Env) : List (Value -> Sem Unit) -> List Str -> Prop
 | nil : bw M A env [] []
 | cons {f : Value -> Sem Unit} {y : Str} {fs : List (Value -> Sem Unit)} {ys : List Str} : (∀ u s (Q : Unit -> Shared -> Prop),wpAny M A (storeName env y u) Q Nought s -> wpAny M A (f u) Q Nought s) -> bw M A env fs ys -> bw M A env (f :: fs) (y :: ys)
noncomputable abbrev PostN (C : Cx) (env : PySem.Env) (own : Addr -> Prop) (ι : List Addr) (s : Shared) (ρ' : Env) (σ' : Hp) : Unit -> Shared -> Prop:=fun uw s'=>Step own ι s ι s' /\ HOk C ι σ' s'.heap /\ EnvOk C env ρ' ι s'.heap /\ StOk C env own s'.heap
theorem dG {fs : List (Value -> Sem Unit)} {ys : List Str} (f : bw (model C.prog C.w) A env fs ys) (es : iV env) : ∀ {ρ : Env} {vs : List AV} {us : List Value} {s : Shared},(∀ y ∈ ys,stK env.scope.names y = true) -> VReps C ι s.heap vs us -> vs.length = ys.length ->
  EnvOk C env ρ ι s.heap -> StOk C env own s.heap -> HOk C ι σ s.heap -> wpAny (model C.prog C.w) A (assignInOrder fs us) (PostN C env own ι s (setVars (ys.map cd) vs ρ) σ) Nought s:=by
 induction f with
 | nil =>
  intro ρ vs us s _ r l E S H
  cases vs with
  | nil=>cases r; exact assignInOrder_nil ⟨.refl,H,E,S⟩
  | cons=>cases l
 | cons hf _ ih =>
  intro ρ vs us s hs r l E S H
  cases r with
  | nil=>cases l
  | cons r1 r2 =>
   refine assignInOrder_cons (hf _ _ _ (bX (hs _ List.mem_cons_self) es E S H r1 fun s2 x2 H2 E2 S2=>?_))
   refine wpAny_mono (ih (fun y hy=>hs y (List.mem_cons_of_mem _ hy)) (r2.mono x2.pre x2.imm) (by simpa using l) E2 S2 H2) (fun uw s3 p=>?_) fun uw uw f=>f
   refine tc p fun x3 H3 E3 S3=>?_
   exact ⟨x2.trans x3,H3,E3,S3⟩
theorem bL {y : Nat} : ∀ {ys : List Nat} {vs : List AV} {ρ : Env},ys.Nodup -> vs.length = ys.length -> getVar y (setVars ys vs ρ) = match (ys.zip vs).lookup y with | some v=>some v | none=>getVar y ρ
 | [],[],_,_,_=>rfl
 | [],_ :: _,_,_,h=>by cases h
 | _ :: _,[],_,_,h=>by cases h
 | z :: ys,v :: vs,ρ,nd,l=>by
  rw [List.nodup_cons] at nd
  show getVar y (setVars ys vs (setVar z v ρ)) = _
  rw [bL nd.2 (by simpa using l),List.zip_cons_cons,List.lookup_cons,bT]
  by_cases e : y = z
  ·subst e
   simp only [beq_self_eq_true,if_true]
   have : (ys.zip vs).lookup y = none:=by
    rw [List.lookup_eq_none_iff]
    intro p hp
    have:=(List.of_mem_zip hp).1
    exact bne_iff_ne.mpr fun q=>nd.1 (q ▸ this)
   rw [this]
  ·have e1 : (y == z) = false:=beq_eq_false_iff_ne.mpr e
   rw [e1,if_neg (Ne.symm e)]
theorem cQ {β : Type} {l : List (Nat × β)} {y : Nat} {v : β} (nd : (l.map (·.1)).Nodup) (h : (y,v) ∈ l) : l.lookup y = some v:=by
 induction l with
 | nil=>cases h
 | cons z r ih =>
  rw [List.map_cons,List.nodup_cons] at nd
  rw [List.lookup_cons]
  rcases List.mem_cons.mp h with e | m
  ·subst e; simp
  ·split
   ·rename_i e
    have e:=beq_iff_eq.mp e
    subst e
    exact absurd (List.mem_map_of_mem (f:=(·.1)) m) nd.1
   ·exact ih nd.2 m
theorem iy {β : Type} {l l' : List (Nat × β)} (y : Nat) (nd : (l.map (·.1)).Nodup) (p : l'.Perm l) : l'.lookup y = l.lookup y:=by
 have nd' : (l'.map (·.1)).Nodup:=(p.map _).nodup_iff.mpr nd
 cases e : l.lookup y with
 | some v=>exact cQ nd' (p.mem_iff.mpr (aZ e))
 | none =>
  cases e' : l'.lookup y with
  | none=>rfl
  | some v=>rw [cQ nd (p.mem_iff.mp (aZ e'))] at e; cases e
theorem d9 {α β : Type} : ∀ {a : List α} {b : List β},a.length = b.length -> a.reverse.zip b.reverse = (a.zip b).reverse
 | [],[],_=>rfl
 | [],_ :: _,h=>by cases h
 | _ :: _,[],h=>by cases h
 | x :: a,y :: b,h=>by
  rw [List.reverse_cons,List.reverse_cons,List.zip_append (by simpa using h),d9 (by simpa using h)]
  show (a.zip b).reverse ++ [(x,y)] = ((x,y) :: a.zip b).reverse
  rw [List.reverse_cons]
theorem jr {y : Nat} {ys : List Nat} {vs : List AV} (nd : ys.Nodup) (l : vs.length = ys.length) : getVar y (setVars ys.reverse vs.reverse ρ) = getVar y (setVars ys vs ρ):=by
 rw [bL ((List.reverse_perm ys).nodup_iff.mpr nd) (by simpa using l),bL nd l,d9 l.symm,iy y _ (List.reverse_perm _)]
 rw [List.map_fst_zip (by lia)]; exact nd
theorem VReps.reverse {xs : List AV} {vs : List Value} {h : Heap} (r : VReps C ι h xs vs) : VReps C ι h xs.reverse vs.reverse:=by
 induction xs generalizing vs with
 | nil=>cases r; exact .nil
 | cons x xs ih =>
  cases r with
  | cons a b =>
   rw [List.reverse_cons,List.reverse_cons]
   exact (ih b).append (.cons a .nil)
theorem fb {ts : List Expr} {xs : List Str} {kk : Nat} {p : Pos} {e : Expr} (h : ts.mapM nameT = some xs) (hd : dullTuple e = false) :
  swappedStores [.Tuple ts kk p] e env = pure none \/ swappedStores [.Tuple ts kk p] e env = pure (some xs):=by
 have names : ∀ {ts : List Expr} {xs : List Str} (f : Expr -> Option Str),(∀ t x,f t = some x -> nameT t = some x) -> ts.mapM nameT = some xs -> (ts.filterMap f).length = ts.length -> ts.filterMap f = xs:=by
  intro ts
  induction ts with
  | nil=>intro xs f _ h _; cases mapM_nil h; rfl
  | cons t ts ih =>
   intro xs f hf h l
   obtain ⟨y,ys,h1,h2,rfl⟩:=mapM_cons h
   cases e : f t with
   | none =>
    rw [List.filterMap_cons_none e] at l
    have:=List.length_filterMap_le f ts
    simp only [List.length_cons] at l
    lia
   | some z =>
    rw [List.filterMap_cons_some e] at l ⊢
    have:=hf _ _ e
    rw [h1] at this
    cases this
    rw [ih f hf h2 (by simpa using l)]
 cases e with
 | Tuple vs k2 p2 =>
  unfold swappedStores
  dsimp only
  split
  ·exact .inl rfl
  ·split
   ·exact .inl rfl
   ·split
    ·exact .inl rfl
    ·rename_i hl
     split
     ·exact .inl rfl
     ·split
      ·rename_i hq
       unfold dullTuple at hd
       dsimp only at hd
       rw [hq] at hd
       cases hd
      ·refine .inr ?_
       simp only [Bool.or_eq_true,bne_iff_ne,ne_eq,not_or,Decidable.not_not] at hl
       rw [names _ ?_ h hl.1]
       intro t x ht
       cases t <;> first | exact nn ht | exact ifC ht fun uw e=>e
 | _=>exact .inl rfl
theorem d5 (M : Model) (A : Around) : ∀ {ts : List Expr} {xs : List Str},ts.mapM nameT = some xs -> bw M A env ((assignEach ts env).map (·.2)) xs /\ (assignEach ts env).length = xs.length /\ (assignEach ts env).findIdx? (·.1) = none
 | [],xs,h=>mapM_nil h ▸ ⟨.nil,rfl,rfl⟩
 | t :: ts,xs,h=>bv h fun y ys h1 h2 e=>e ▸ kj (G:=fun t=>bw M A env ((assignEach (t :: ts) env).map (·.2)) (y :: ys) /\ (assignEach (t :: ts) env).length = (y :: ys).length /\ (assignEach (t :: ts) env).findIdx? (·.1) = none) h1 fun p=>by
  refine lh (d5 M A h2) fun s1 s2 s3=>?_
  refine ⟨.cons (fun u s Q q=>wpAny_assign_Name q) s1,congrArg (· + 1) s2,?_⟩
  show List.findIdx? (·.1) ((false,assign (.Name y p) env) :: assignEach ts env) = none
  rw [List.findIdx?_cons,if_neg Bool.false_ne_true,s3]; rfl
theorem fM (M : Model) (A : Around) : ∀ (xs : List Str),bw M A env (xs.map fun n=>bindName env n) xs
 | []=>.nil
 | x :: xs=>.cons (fun u s Q q=>wpAny_bindName q) (fM M A xs)
theorem sV {h : Heap} {vs : List AV} {u : Value} {G : Value -> Prop} (r : VRep C ι h v u) (e : unpk v σ = some vs) (t : ∀ a us n,h.get? a = some ⟨.type "tuple",none,.seq (List.toArray us) n,#[]⟩ -> VReps C ι h vs us -> G (.ref a)) (l : ∀ p a,ι[p]? = some a -> lstAt σ p = some vs -> G (.ref a)) : G u:=by
 cases r <;> first | exact nn e | (refine l _ _ ?_ e; assumption) | skip
 exact t _ _ _ a_1 (Option.some.inj e ▸ a_2)
theorem fv {vs : List AV} {u : Value} (H : HOk C ι σ s.heap) (r : VRep C ι s.heap v u) (h : unpk v σ = some vs) :
  ∃ a us,u = .ref a /\ (s.heap.IsTuple a (List.toArray us) \/ s.heap.IsList a (List.toArray us)) /\ VReps C ι s.heap vs us :=
 sV (G:=fun u=>∃ a us,u = .ref a /\ (s.heap.IsTuple a (List.toArray us) \/ s.heap.IsList a (List.toArray us)) /\ VReps C ι s.heap vs us) r h (fun a us n g r=>⟨a,us,rfl,.inl ⟨_,g,rfl,n,rfl⟩,r⟩)
  fun p a i e=>let ⟨us,n,g,r,_⟩:=bj H (bm e) i; ⟨a,us,rfl,.inr ⟨_,g,rfl,n,rfl⟩,r⟩
theorem mZ {xs : List Str} (nd : xs.Nodup) : (xs.map cd).Nodup:=(List.pairwise_map).mpr (nd.imp fun ne e=>ne (b0 e))
theorem mn {ts : List Expr} {xs : List Str} {e : Expr} {kk : Nat} {tp : Pos} (J : SndE C d k) (hc : isComp e = false) (hd : dullTuple e = false) (hx : ts.mapM nameT = some xs) (hs : xs.all (stK kd) = true) (nd : xs.Nodup)
  (he : trE k kd e = some x) (hw : wS d (.asgN (xs.map cd) x) ρ σ Q) (a : AtS C own d kd env A ρ σ ι s) :
  wpAny (model C.prog C.w) A (exec (.Assign [.Tuple ts kk tp] e pos) env) (PF C env own ι s Q) Nought s:=by
 refine lh (d5 (env:=env) (model C.prog C.w) A hx) fun n1 n2 n3=>?_
 have hst : ∀ y ∈ xs,stK env.scope.names y = true:=fun y hy=>a.kd ▸ List.all_eq_true.mp hs y hy
 have hh:=a.at'.room.handled
 have sole : swapsWithSole [.Tuple ts kk tp] e pos.line env = pure false:=by
  show swapsWith e (some (.Tuple ts kk tp)) pos.line env = pure false
  exact g9 hc _ _
 rcases fb (env:=env) (kk:=kk) (p:=tp) hx hd with hw' | hw'
 ·refine Assign_Tuple (aF (J he hw a.at') fun v u σ1 s1 ι1 q x1 H1 r1=>bE q fun vs ev q=>?_) sole hw'
  have ql : vs.length = xs.length:=by rw [q.1,List.length_map]
  have a1:=a.step x1 H1
  refine bJ (fv H1 r1 ev) fun b us eu ht rs=>?_
  rw [eu]
  refine d8 hh ht (by rw [n2,<- ql,rs.length]; simp) n3 fun h2 k2 z2=>?_
  have x2 : Step NoOwn ι1 s1 ι1 { s1 with heap:=h2 }:=.grow k2 z2
  have a2:=a1.step x2 (H1.grow k2 z2)
  refine wpAny_mono (dG n1 a.at'.es hst (rs.mono (List.prefix_refl _) k2.imm) ql a2.at'.env a2.st a2.at'.heap) (fun uw s3 p=>?_) fun uw uw f=>f
  exact ⟨q.2,(x1.trans x2).ofNo.trans p.1,p.2.1,p.2.2.1,p.2.2.2,rfl⟩
 ·refine Assign_Tuple_swapped (names:=xs) (aF (J he hw a.at') fun v u σ1 s1 ι1 q x1 H1 r1=>bE q fun vs ev q=>?_) sole hw'
  have ql : vs.length = xs.length:=by rw [q.1,List.length_map]
  have a1:=a.step x1 H1
  refine bJ (fv H1 r1 ev) fun b us eu ht rs=>?_
  rw [eu]
  have fin : ∀ h2,Keeps s1.heap h2 -> s1.heap.objs.size ≤ h2.objs.size -> wpAny (model C.prog C.w) A (assignInOrder (xs.reverse.map fun n=>bindName env n) us.reverse) (fun uw=>PF C env own ι s Q .next) Nought { s1 with heap:=h2 }:=fun h2 k2 z2=>by
   have x2 : Step NoOwn ι1 s1 ι1 { s1 with heap:=h2 }:=.grow k2 z2
   have a2:=a1.step x2 (H1.grow k2 z2)
   refine wpAny_mono (dG (vs:=vs.reverse) (fM (env:=env) (model C.prog C.w) A xs.reverse) a.at'.es (fun y hy=>hst y (List.mem_reverse.mp hy)) (VReps.reverse (rs.mono (List.prefix_refl _) k2.imm)) (by rw [List.length_reverse,List.length_reverse]; exact ql) a2.at'.env a2.st a2.at'.heap) (fun uw s3 p=>?_) fun uw uw f=>f
   exact ⟨q.2,(x1.trans x2).ofNo.trans p.1,p.2.1,p.2.2.1.congr fun y=>by rw [List.map_reverse,jr (mZ nd) q.1],p.2.2.2,rfl⟩
  rw [show xs.length = (List.toArray us).size by rw [<- ql,rs.length]; simp]
  refine aj ?_
  rcases ht with ht | ht
  ·exact wpAny_unpackItems_tuple hh ht fun h' he z=>fin h' (bB he) z
  ·exact kun_itemsOf hh ht fun h' he z=>fin h' (bB he) z
end
section
variable {C : Cx} {ι ι' : List Addr} {σ σ' : Hp} {s s' : Shared} {env : PySem.Env} {ρ ρ' : Env} {A : Around} {d k : Nat} {kd : List (Str × NameKind)} {v : AV} {x : X} {pos : Pos} {own own' : Addr -> Prop} {it : Addr} {i ep : Nat} {Q : Fl -> Env -> Hp -> Prop}
theorem pZ (E : iV env) : interactive env = false:=by unfold interactive; rw [E.kind]; rfl
theorem t5 {h : Heap} {p : Nat} {u : Value} {G : Value -> Prop} (r : VRep C ι h (.ref p) u) (k : ∀ b,ι[p]? = some b -> G (.ref b)) : G u :=
 r6 (P:=(· = p)) (G:=G) r (rfl : p = p) fun uw b i e=>k b (e ▸ i)
theorem md {o e : Expr} {at' : Str} {ap : Pos} {y : X} (J : SndE C d k) (O : OpsS C) (hc : isComp e = false) (ho : trE k kd o = some y) (he : trE k kd e = some x) (hw : wS d (.setA y (cd at') x) ρ σ Q) (a : AtS C own d kd env A ρ σ ι s) :
  wpAny (model C.prog C.w) A (exec (.Assign [.Attribute o at' ap] e pos) env) (PF C env own ι s Q) Nought s :=
 plainObj_wpAny_Assign_Attribute (aF (J he hw a.at') fun v u σ1 s1 ι1 q x1 H1 r1=>aF (J ho q (a.at'.step x1 H1)) fun v2 w σ2 s2 ι2 q x2 H2 r2=>by
  refine dX q fun p c z as e3 e4 e5 e6 e7 q=>?_
  rw [e3] at r2
  exact t5 (G:=fun w=>wpAny (model C.prog C.w) A (setAttr w at' u) (fun uw s'=>PF C env own ι s Q .next s') Nought s2) r2 fun b i =>
   wpAny_mono (O.setA e4 e5 e6 e7 i (r1.mono x2.pre x2.imm) H2 a.at'.room) (fun uw s3 p=>iI ((x1.trans x2).trans p.1) a q p.2 rfl) fun uw uw f=>f) (g9 hc _ _)
theorem ma {o e ie : Expr} {ap : Pos} {y z : X} (J : SndE C d k) (O : OpsS C) (hc : isComp e = false) (ho : trE k kd o = some y) (hi : trE k kd ie = some z) (he : trE k kd e = some x) (hw : wS d (.setI y z x) ρ σ Q) (a : AtS C own d kd env A ρ σ ι s) :
  wpAny (model C.prog C.w) A (exec (.Assign [.Subscript o ie ap] e pos) env) (PF C env own ι s Q) Nought s:=by
 refine wpAny_Assign_Subscript (aF (J he hw a.at') fun v u σ1 s1 ι1 q x1 H1 r1=>aF (J ho q (a.at'.step x1 H1)) fun v2 ov σ2 s2 ι2 q x2 H2 r2=>aF (J hi q ((a.at'.step x1 H1).step x2 H2)) fun v3 iv σ3 s3 ι3 q x3 H3 r3=>?_) (g9 hc _ _)
 have x23:=x2.trans x3
 have x13:=x1.trans x23
 have r1':=r1.mono x23.pre x23.imm
 refine aw q fun p e4 q=>?_
 rw [e4] at r2
 refine t5 (G:=fun ov=>wpAny (model C.prog C.w) A (setItem ov iv u) (fun uw s'=>PF C env own ι s Q .next s') Nought s3) (r2.mono x3.pre x3.imm) fun b i=>?_
 rcases q with ⟨xs,t,g1,g2,g3,g4,q⟩ | ⟨es,ep,kk,g1,g2,g3,q⟩
 ·rw [g2] at r3
  refine tw (P:=(· = (t : Int))) (G:=fun iv=>wpAny (model C.prog C.w) A (setItem (.ref b) iv u) (fun uw s'=>PF C env own ι s Q .next s') Nought s3) r3 (rfl : (t : Int) = t) fun j tk ej=>?_
  rw [ej]
  exact wpAny_mono (O.setL g1 (Int.natCast_nonneg t) g3 (if_pos (by rw [List.length_set]; exact g4)) i r1' H3 a.at'.room) (fun uw s4 p=>iI (x13.trans p.1) a q p.2 rfl) fun uw uw f=>f
 ·exact wpAny_mono (O.setD g1 g2 g3 i r3 r1' H3 a.at'.room) (fun uw s4 p=>iI (x13.trans p.1) a q p.2 rfl) fun uw uw f=>f
noncomputable abbrev Own2 (own : Addr -> Prop) (s : Shared) : Addr -> Prop:=fun a=>own a \/ s.heap.objs.size ≤ a
theorem Step.own2 {s₀ : Shared} {ι₀ : List Addr} (x : Step (Own2 own s₀) ι₀ s₀ ι s) : Step own ι₀ s₀ ι s:=x.weaken fun uw h=>h
theorem EnvOk.pass (E : EnvOk C env ρ ι s.heap) (S : StOk C env own s.heap) (H : HOk C ι σ s.heap) (x : Step own' ι s ι s') (nl : ¬ own' env.locals) (nc : ∀ c v,s.heap.IsCell c v -> ¬ own' c) : EnvOk C env ρ ι s'.heap /\ StOk C env own s'.heap :=
 ⟨E.keep x.pre x.imm E.sep (fun uw n=>x.ns n E.sep nl) fun uw uw q=>x.cell H q (nc _ _ q),S.keep x.size fun uw uw q=>x.cell H q (nc _ _ q)⟩
theorem ItR.notC (r : ItR C ι s.heap it i v ep) {c : Addr} {w : Option Value} (h : s.heap.IsCell c w) : c ≠ it:=fun e=>by
 refine aw r.notCell fun o g n=>?_
 refine aw h fun o' g' dd=>?_
 rw [e,g] at g'; cases g'; exact n _ dd
noncomputable def Turn (R : Result -> Shared -> Prop) (I : Nat -> Shared -> Prop) (n : Nat) (f : Flow) (s : Shared) : Prop:=(f = .next /\ ∃ m,m < n /\ I m s) \/ ∃ v,f = .ret v /\ R (.ok (.ret v)) s
theorem et {α : Type} {M : Model} {t : Sem α} {Q : α -> Shared -> Prop} {E : Value -> Shared -> Prop} (h : wpAny M A t Q Nought s) : wpAny M A t Q E s:=wpAny_mono h (fun uw uw q=>q) fun uw uw f=>f.elim
theorem gZ {R : Result -> Shared -> Prop} {I : Nat -> Shared -> Prop} {n : Nat} {f : Flow} (h : Turn R I n f s) : (match (generalizing:=false) f with
  | .next | .cont=>∃ m,m < n /\ I m s
  | .brk=>R (.ok .next) s
  | .ret v=>R (.ok (.ret v)) s):=by
 rcases h with ⟨rfl,h⟩ | ⟨v,rfl,h⟩
 ·exact h
 ·exact h
theorem iK {R : Result -> Shared -> Prop} {prog : Program} {w : World} {target : Expr} {u : Value} {body : List Stmt} (I : Nat -> Shared -> Prop)
  (turn : ∀ n s,I n s -> wpAny (model prog w) A (pyNext u) (fun r s₁=>match r with
   | none=>R (.ok .next) s₁
   | some v=>wpAny (model prog w) A (letOwnedTupleGo target u v) (fun uw s₁'=>wpAny (model prog w) A (assign target env v) (fun uw s₂=>wpAny (model prog w) A (execs body env) (Turn R I n) Nought s₂) Nought s₁') Nought s₁) Nought s)
  (n : Nat) (h : I n s) : codeAny (model prog w) A (.forLoop target u body [] env) R s :=
 codeAny_forLoop_any I (fun n s h=>wpAny_mono (turn n s h) (fun r s₁ h=>by
  cases r with
  | none=>exact wpAny_execs_nil h
  | some v=>exact et (wpAny_mono h (fun uw uw h=>et (wpAny_mono h (fun uw uw h=>et (wpAny_mono h (fun uw uw h=>gZ h) fun uw uw f=>f)) fun uw uw f=>f)) fun uw uw f=>f)) fun uw uw f=>f.elim) n h
theorem iY {R : Result -> Shared -> Prop} {prog : Program} {w : World} {test : Expr} {body : List Stmt} (I : Nat -> Shared -> Prop)
  (turn : ∀ n s,I n s -> wpAny (model prog w) A (isTrue test env (eval test env)) (fun b s₁=>match b with
   | true=>wpAny (model prog w) A (execs body env) (Turn R I n) Nought s₁
   | false=>R (.ok .next) s₁) Nought s)
  (n : Nat) (h : I n s) : codeAny (model prog w) A (.whileLoop test body [] env) R s :=
 codeAny_whileLoop I (fun n s h=>wpAny_mono (turn n s h) (fun b s₁ h=>by
  cases b with
  | true=>exact et (wpAny_mono h (fun uw uw h=>gZ h) fun uw uw f=>f)
  | false=>exact wpAny_execs_nil h) fun uw uw f=>f.elim) n h
theorem lY {M : Model} {R : Result -> Shared -> Prop} {I : Nat -> Shared -> Prop} {n : Nat} {b : List Stmt} {P : Env -> Hp -> Prop} {ι₀ : List Addr} {s₀ : Shared}
  (h : wpAny M A (execs b env) (PF C env own ι s fun f ρ1 σ1=>match f with | .next=>P ρ1 σ1 | .ret w=>Q (.ret w) ρ1 σ1) Nought s) (x0 : Step (Own2 own s₀) ι₀ s₀ ι s) (hR : ∀ f s',PF C env own ι₀ s₀ Q f s' -> R (.ok f) s')
  (K : ∀ ρ1 σ1 ι1 s1,P ρ1 σ1 -> Step own ι s ι1 s1 -> HOk C ι1 σ1 s1.heap -> EnvOk C env ρ1 ι1 s1.heap -> StOk C env own s1.heap -> ∃ m,m < n /\ I m s1) : wpAny M A (execs b env) (Turn R I n) Nought s :=
 wpAny_mono h (fun f s1 ⟨q,x,H,E,S,r⟩=>by
  rename_i fl ρ1 σ1 ι1
  cases fl with
  | next=>exact .inl ⟨r,K _ _ _ _ q x H E S⟩
  | ret w=>exact let ⟨u,e,r⟩:=r; .inr ⟨u,e,hR _ _ ⟨q,(x0.trans (x.weaken fun uw q=>.inl (.inl q))).own2,H,E,S,⟨u,rfl,r⟩⟩⟩) fun uw uw f=>f
inductive tO (C : Cx) (env : PySem.Env) (own : Addr -> Prop) (B : TrF) (y : Nat) (v : AV) (ep : Nat) (Q : Fl -> Env -> Hp -> Prop) (ι₀ : List Addr) (s₀ : Shared) (it : Addr) (n : Nat) (s : Shared) : Prop
 | mk {i : Nat} {ρ : Env} {σ : Hp} {ι : List Addr} (h : FLo B y v ep Q n i ρ σ) (x : Step (Own2 own s₀) ι₀ s₀ ι s) (H : HOk C ι σ s.heap) (E : EnvOk C env ρ ι s.heap) (S : StOk C env own s.heap) (r : ItR C ι s.heap it i v ep)
theorem nR (I : SndXs C d k) {y : Str} {yp : Pos} {body : List Stmt} {b : List XS} {ι₀ : List Addr} {s₀ : Shared} {ρ₀ : Env} {σ₀ : Hp} (a : AtS C own d kd env A ρ₀ σ₀ ι₀ s₀) (hs : stK kd y = true) (hb : body.mapM (trS k kd) = some b) (lo : s₀.heap.objs.size ≤ it) {R : Result -> Shared -> Prop}
  (hR : ∀ f s',PF C env own ι₀ s₀ Q f s' -> R (.ok f) s') {n : Nat} (h : tO C env own (wSs d b) (cd y) v ep Q ι₀ s₀ it n s) :
  codeAny (model C.prog C.w) A (.forLoop (.Name y yp) (.ref it) body [] env) R s:=by
 have nit : ¬ own it:=fun o=>absurd (a.st.old it o) (Nat.not_lt.mpr lo)
 refine iK (tO C env own (wSs d b) (cd y) v ep Q ι₀ s₀ it) (fun n s z=>?_) n h
 obtain ⟨h,x,H,E,S,r⟩:=z
 cases n with
 | zero=>exact h.elim
 | succ n =>
  refine bE h fun o eo h=>?_
  have pas {s1} (x1 : Step (· = it) ι s ι s1):=E.pass S H x1 (fun e=>nit (e ▸ S.loc)) fun uw uw=>r.notC
  have w1 {s1} (x1 : Step (· = it) ι s ι s1):=x.trans (x1.weaken (own':=Own2 own s₀) fun c q=>.inl (.inr (by rw [q]; exact lo)))
  refine kn a.at'.room.handled r H (Nat.le_trans a.at'.heap.low lo) eo (fun e s1 x1 H1=>?_) fun z u s1 e x1 H1 r1 it1=>?_
  ·rw [e] at h
   exact hR _ _ ⟨h,(w1 x1).own2,H1,(pas x1).1,(pas x1).2,rfl⟩
  ·rw [e] at h
   refine wpAny_pure (wpAny_assign_Name (bX (a.kd ▸ hs) a.at'.es (pas x1).1 (pas x1).2 H1 r1 fun s2 x2 H2 E2 S2=>?_))
   have x12:=(w1 x1).trans (x2.weaken (own':=Own2 own s₀) fun c q=>.inl (.inl q))
   exact lY (I hb h ⟨⟨a.at'.kd,a.at'.es,a.at'.room,E2,H2⟩,S2,a.kd⟩) x12 hR fun ρ3 σ3 ι3 s3 q x3 H3 E3 S3=>⟨n,Nat.lt_succ_self _,q,x12.trans (x3.weaken fun c q=>.inl (.inl q)),H3,E3,S3,(it1.step x2 H1 nit).step x3 H2 nit⟩
theorem mi (T : bi C) (I : SndXs C d k) (J : SndE C d k) {y : Str} {yp : Pos} {iter : Expr} {it' : X} {body : List Stmt} {b : List XS} (hs : stK kd y = true) (hi : trE k kd iter = some it') (hb : body.mapM (trS k kd) = some b)
  (hw : wS d (.for1 (cd y) it' b) ρ σ Q) (a : AtS C own d kd env A ρ σ ι s) :
  wpAny (model C.prog C.w) A (exec (.For (.Name y yp) iter body [] pos) env) (PF C env own ι s Q) Nought s:=by
 refine wpAny_For (aF (J hi hw a.at') fun v u σ1 s1 ι1 q x1 H1 r1=>?_) (mY hi env)
 obtain ⟨n,h⟩:=q
 have first : (nextOf σ1 v 0 (epOf σ1 v)).isSome = true:=by
  cases n with
  | zero=>exact h.elim
  | succ n=>exact bE h fun o eo uw=>by rw [eo]; rfl
 refine iF T r1 H1 first fun it s2 x2 H2 lo itr=>?_
 have a2:=(a.step x1 H1).step x2 H2
 exact nR I a hs hb (Nat.le_trans x1.size lo) (fun uw uw p=>p) ⟨h,(x1.trans x2).ofNo,H2,a2.at'.env,a2.st,itr⟩
inductive un (C : Cx) (env : PySem.Env) (own : Addr -> Prop) (T : TrE) (B : TrF) (Q : Fl -> Env -> Hp -> Prop) (ι₀ : List Addr) (s₀ : Shared) (n : Nat) (s : Shared) : Prop
 | mk {ρ : Env} {σ : Hp} {ι : List Addr} (h : WLo T B Q n ρ σ) (x : Step own ι₀ s₀ ι s) (H : HOk C ι σ s.heap) (E : EnvOk C env ρ ι s.heap) (S : StOk C env own s.heap)
theorem kO (I : SndXs C d k) (J : SndT C d k) {test : Expr} {t : X} {body : List Stmt} {b : List XS} (ht : tstE test = true) (h1 : trE k kd test = some t) (hb : body.mapM (trS k kd) = some b)
  (hw : wS d (.whl t b) ρ σ Q) (a : AtS C own d kd env A ρ σ ι s) :
  wpAny (model C.prog C.w) A (exec (.While test body [] pos) env) (PF C env own ι s Q) Nought s:=by
 obtain ⟨n,h⟩:=hw
 refine wpAny_While (iY (un C env own (wX d t) (wSs d b) Q ι s) (fun n s1 z=>?_) n ⟨h,.refl,a.at'.heap,a.at'.env,a.st⟩)
 obtain ⟨h,x,H,E,S⟩:=z
 cases n with
 | zero=>exact h.elim
 | succ n =>
  refine fw (J (Q:=fun c σ2=>match c with
   | true=>wSs d b ρ_1 σ2 fun f ρ3 σ3=>match f with | .next=>WLo (wX d t) (wSs d b) Q n ρ3 σ3 | .ret w=>Q (.ret w) ρ3 σ3
   | false=>Q .next ρ_1 σ2) ht h1 h ⟨a.at'.kd,a.at'.es,a.at'.room,E,H⟩) fun c σ2 s2 ι2 q x2 H2=>?_
  have E2:=E.step x2 H
  have S2:=S.step x2 H
  have x12:=x.trans x2.ofNo
  cases c with
  | true=>exact lY (I hb q ⟨⟨a.at'.kd,a.at'.es,a.at'.room,E2,H2⟩,S2,a.kd⟩) (x12.weaken fun c q=>.inl (.inl q)) (fun uw uw p=>p) fun ρ3 σ3 ι3 s3 q x3 H3 E3 S3=>⟨n,Nat.lt_succ_self _,q,x12.trans x3,H3,E3,S3⟩
  | false=>exact ⟨q,x12,H2,E2,S2,rfl⟩
end
section
variable {C : Cx} {ι ι' : List Addr} {σ σ' : Hp} {s s' : Shared} {env : PySem.Env} {ρ ρ' : Env} {A : Around} {d k : Nat} {kd : List (Str × NameKind)} {v : AV} {x : X} {pos : Pos} {own own' : Addr -> Prop} {it : Addr} {i ep : Nat} {Q : Fl -> Env -> Hp -> Prop}
theorem Step.free {h' : Heap} {t : Nat} (k : ∀ b o,¬ own b -> s.heap.get? b = some o -> h'.get? b = some o) (im : ∀ b o,own b -> s.heap.get? b = some o -> immO o = false) (z : s.heap.objs.size ≤ h'.objs.size) : Step own ι s ι { s with heap:=h',toks:=t } :=
 ⟨fun c o e q=>k c o (fun oc=>by rw [im c o oc e] at q; cases q) e,fun a o e n uw=>k a o n e,List.prefix_refl _,fun uw a b=>absurd a b,z,rfl,rfl⟩
theorem HOk.free {h' : Heap} (H : HOk C ι σ s.heap) (k : ∀ b o,¬ own b -> s.heap.get? b = some o -> h'.get? b = some o) (im : ∀ b o,own b -> s.heap.get? b = some o -> immO o = false) (z : s.heap.objs.size ≤ h'.objs.size)
  (ni : ∀ b,own b -> b ∉ ι /\ C.base.objs.size ≤ b) : HOk C ι σ h':=by
 have K : ImmK s.heap h':=fun c o e q=>k c o (fun oc=>by rw [im c o oc e] at q; cases q) e
 refine ⟨H.len,H.nod,fun c o e=>k c o (fun oc=>?_) (H.base c o e),H.abv,fun {α o a} e i=>(H.rep e i).mono (List.prefix_refl _) K fun o q=>k a o (fun oc=>(ni a oc).1 (List.mem_of_getElem? i)) q,Nat.le_trans H.low z⟩
 exact Nat.not_lt.mpr (ni c oc).2 (Heap.lt_size e)
structure EnR (C : Cx) (ι : List Addr) (h : Heap) (e it : Addr) (i : Nat) (α : Nat) : Prop where
 en : ∃ old,IsEnum h e it i old
 li : ∃ a,ι[α]? = some a /\ h.IsListIter it a i
inductive tN (C : Cx) (env : PySem.Env) (own : Addr -> Prop) (B : TrF) (t u : Nat) (α : Nat) (Q : Fl -> Env -> Hp -> Prop) (ι₀ : List Addr) (s₀ : Shared) (e it : Addr) (n : Nat) (s : Shared) : Prop
 | mk {i : Nat} {ρ : Env} {σ : Hp} {ι : List Addr} (h : FEo B t u α Q n i ρ σ) (x : Step (Own2 own s₀) ι₀ s₀ ι s) (H : HOk C ι σ s.heap) (E : EnvOk C env ρ ι s.heap) (S : StOk C env own s.heap) (r : EnR C ι s.heap e it i α)
theorem lE (I : SndXs C d k) {t u : Str} {tp up pt : Pos} {kk : Nat} {body : List Stmt} {b : List XS} {ι₀ : List Addr} {s₀ : Shared} {ρ₀ : Env} {σ₀ : Hp} {e : Addr} {α : Nat} (a₀ : AtS C own d kd env A ρ₀ σ₀ ι₀ s₀) (ht : stK kd t = true) (hu : stK kd u = true) (hb : body.mapM (trS k kd) = some b)
  (lo : s₀.heap.objs.size ≤ it) (lo2 : s₀.heap.objs.size ≤ e) (ne : e ≠ it) {R : Result -> Shared -> Prop} (hR : ∀ f s',PF C env own ι₀ s₀ Q f s' -> R (.ok f) s') {n : Nat} (h : tN C env own (wSs d b) (cd t) (cd u) α Q ι₀ s₀ e it n s) :
  codeAny (model C.prog C.w) A (.forLoop (.Tuple [.Name t tp,.Name u up] kk pt) (.ref e) body [] env) R s:=by
 have nit : ¬ own it:=fun o=>absurd (a₀.st.old it o) (Nat.not_lt.mpr lo)
 have nie : ¬ own e:=fun o=>absurd (a₀.st.old e o) (Nat.not_lt.mpr lo2)
 have bl:=a₀.at'.heap.low
 refine iK (tN C env own (wSs d b) (cd t) (cd u) α Q ι₀ s₀ e it) (fun n s z=>?_) n h
 obtain ⟨h,x,H,E,S,r⟩:=z
 cases n with
 | zero=>exact h.elim
 | succ n =>
  obtain ⟨⟨ol,en⟩,⟨a,hα,li⟩⟩:=r
  refine bE h fun xs eσ h=>?_
  refine bJ (bj H (bm eσ) hα) fun vs n0 g q l=>?_
  have gl : s.heap.IsList a vs.toArray:=⟨_,g,rfl,n0,rfl⟩
  have itr : ItR C ι s.heap it i (.ref α) 0:=.list hα li
  have neι : e ∉ ι:=H.notLike en rfl
  have ime : ∀ b o,(b = e \/ b = it) -> s.heap.get? b = some o -> immO o = false:=fun b o ob gb=>by
   rcases ob with rfl | rfl
   ·rw [en] at gb; cases gb; exact (by decide : clsIs (.type "enumerate") "range" = false)
   ·obtain ⟨o',g',im⟩:=itr.imm; rw [g'] at gb; cases gb; exact im
  have niA : ∀ b,(b = e \/ b = it) -> b ∉ ι /\ C.base.objs.size ≤ b:=fun b ob=>by
   rcases ob with rfl | rfl
   ·exact ⟨neι,Nat.le_trans bl lo2⟩
   ·exact ⟨itr.notIn H,Nat.le_trans bl lo⟩
  have nc : ∀ c v,s.heap.IsCell c v -> ¬ (c = e \/ c = it):=fun c v hc ob=>by
   rcases ob with rfl | rfl
   ·obtain ⟨o,g',dd⟩:=hc; rw [en] at g'; cases g'; cases dd
   ·exact itr.notC hc rfl
  have nl : ¬ (env.locals = e \/ env.locals = it):=fun q=>q.elim (fun q=>nie (q ▸ S.loc)) fun q=>nit (q ▸ S.loc)
  have w2 {s1} (x1 : Step (fun b=>b = e \/ b = it) ι s ι s1) : Step (Own2 own s₀) ι₀ s₀ ι s1:=x.trans (x1.weaken fun c q=>.inl (.inr (q.elim (fun q=>q ▸ lo2) fun q=>q ▸ lo)))
  cases hx : xs[i]? with
  | none =>
   rw [hx] at h
   refine aj (wpAny_pyNext_enum_end a₀.at'.room.handled en li gl (by simpa using q.none_at hx) fun h1 b1 z=>?_)
   have kk1 : ∀ b o,¬ (b = e \/ b = it) -> s.heap.get? b = some o -> h1.get? b = some o:=fun b o nb gb=>b1 b o (fun q=>nb (.inr q)) gb
   have x1 : Step (fun b=>b = e \/ b = it) ι s ι { s with heap:=h1,toks:=s.toks }:=.free kk1 ime z
   have p:=E.pass S H x1 nl nc
   exact hR _ _ ⟨h,(w2 x1).own2,H.free kk1 ime z niA,p.1,p.2,rfl⟩
  | some y =>
   rw [hx] at h
   obtain ⟨uv,gu,ru⟩:=q.get hx
   refine wpAny_pyNext_enum_item en li gl (x:=uv) (by simpa using gu) ne fun h1 heo li1 ht1 z1 k1=>wpAny_letOwnedTupleGo_enum heo fun h2 he2 b2=>?_
   have sz : s.heap.objs.size ≤ h2.objs.size:=by rw [b2.1,z1]; exact Nat.le_succ _
   have kk2 : ∀ b o,¬ (b = e \/ b = it) -> s.heap.get? b = some o -> h2.get? b = some o:=fun b o nb gb=>(b2.2 b fun q=>nb (.inl q)).trans (k1 b o (fun q=>nb (.inl q)) (fun q=>nb (.inr q)) gb)
   have x2 : Step (fun b=>b = e \/ b = it) ι s ι { s with heap:=h2,toks:=s.toks + 1 }:=.free kk2 ime sz
   have p2:=E.pass S H x2 nl nc
   have tup2 : h2.IsTuple s.heap.objs.size #[.int i s.toks,uv]:=⟨_,(b2.2 _ (Nat.ne_of_gt (Heap.lt_size en))).trans ht1,rfl,_,rfl⟩
   refine d8 a₀.at'.room.handled (.inl tup2) rfl rfl fun h3 k3 z3=>?_
   have x3 : Step NoOwn ι { s with heap:=h2,toks:=s.toks + 1 } ι { s with heap:=h3,toks:=s.toks + 1 }:=.grow k3 z3
   have H2:=H.free kk2 ime sz niA
   have H3 : HOk C ι σ h3:=H2.grow k3 z3
   have x13:=(w2 x2).trans x3.ofNo
   have st : bw (model C.prog C.w) A env ((assignEach [.Name t tp,.Name u up] env).map (·.2)) [t,u]:=(d5 (model C.prog C.w) A (ts:=[.Name t tp,.Name u up]) rfl).1
   have rs : VReps C ι h3 [.int i,y] [.int i s.toks,uv]:=.cons (.int _ _) (.cons ((ru.mono (List.prefix_refl _) x2.imm).mono (List.prefix_refl _) x3.imm) .nil)
   refine wpAny_mono (dG (s:={ s with heap:=h3,toks:=s.toks + 1 }) st a₀.at'.es (fun z hz=>(List.mem_cons.mp hz).elim (fun e=>a₀.kd ▸ e ▸ ht) fun m=>a₀.kd ▸ (List.mem_singleton.mp m) ▸ hu) rs rfl (p2.1.step x3 H2) (p2.2.step x3 H2) H3) (fun uw s4 p=>?_) fun uw uw f=>f.elim
   obtain ⟨x4,H4,E4,S4⟩:=p
   have x14:=x13.trans (x4.weaken fun c q=>.inl (.inl q))
   have itr3 : ItR C ι h3 it (i + 1) (.ref α) 0:=.list hα ((li1.extBut b2.extBut (Ne.symm ne)).at fun o g=>k3 _ _ g)
   have en4:=x4.keep e _ (k3 _ _ he2) nie neι
   refine lY (I hb h ⟨⟨a₀.at'.kd,a₀.at'.es,a₀.at'.room,E4,H4⟩,S4,a₀.kd⟩) x14 hR fun ρ5 σ5 ι5 s5 q x5 H5 E5 S5=>⟨n,Nat.lt_succ_self _,q,x14.trans (x5.weaken fun c q=>.inl (.inl q)),H5,E5,S5,⟨⟨uv,?_⟩,?_⟩⟩
   ·rw [show ((i + 1 : Nat) : Int) = (i : Int) + 1 by omega]; exact x5.keep e _ en4 nie neι
   ·cases (itr3.step (s:={ s with heap:=h3,toks:=s.toks + 1 }) x4 H3 nit).step x5 H4 nit with
    | list e r=>exact ⟨_,e,r⟩
theorem mh (T : bi C) (I : SndXs C d k) (J : SndE C d k) {t u f : Str} {tp up pt fp cp : Pos} {kk : Nat} {iter : Expr} {it' : X} {body : List Stmt} {b : List XS} (ht : stK kd t = true) (hu : stK kd u = true) (hb : body.mapM (trS k kd) = some b)
  (hf : trName kd f = some (.glo (.blt .enumerate))) (hi : trE k kd iter = some it') (hw : wS d (.forE (cd t) (cd u) it' b) ρ σ Q) (a : AtS C own d kd env A ρ σ ι s) :
  wpAny (model C.prog C.w) A (exec (.For (.Tuple [.Name t tp,.Name u up] kk pt) (.Call (.Name f fp) [iter] [] cp) body [] pos) env) (PF C env own ι s Q) Nought s:=by
 refine wpAny_For ?_ (fun uw=>rfl)
 show wpAny _ _ (do callWith cp (<- eval (.Name f fp) env) [] (backTo cp (starEach [iter] env)) (backToKw cp (keywordEach [] env))) _ _ _
 refine wpAny_bind (aF (hP (Q:=fun v σ'=>v = .blt .enumerate /\ σ' = σ) T hf ⟨rfl,rfl⟩ a.at') fun v w σ0 s0 ι0 q0 x0 H0 r0=>?_)
 rw [q0.1] at r0
 rw [q0.2] at H0
 have hm : [iter].mapM (trE k kd) = some [it']:=by rw [List.mapM_cons,hi,List.mapM_nil]; rfl
 cases r0 with
 | blt =>
  refine bD hm (cU (dJ (Q:=fun vs σ1=>∃ v,vs = [v] /\ Rb v fun p=>∃ n,FEo (wSs d b) (cd t) (cd u) p Q n 0 ρ σ1) J hm (wXo_mono (CFP_m d).1 (CFP_m d).2 it' (fun uw uw q=>⟨_,rfl,q⟩) hw) (a.at'.step x0 H0)) fun vs ws σ1 s1 ι1 q x1 H1 r1=>⟨e9,?_⟩)
  refine aw q fun v1 ev q=>?_
  rw [ev] at r1
  cases r1 with
  | cons r1 rn =>
   cases rn
   refine r6 (G:=fun u1=>wpAny (model C.prog C.w) A (call (bltVal .enumerate) ([] ++ [u1])) _ Nought s1) r1 q fun α c hα q=>?_
   obtain ⟨n,h⟩:=q
   have lst : ∃ xs,lstAt σ1 α = some xs:=by
    cases n with
    | zero=>exact h.elim
    | succ n=>exact bE h fun xs e uw=>⟨xs,e⟩
   obtain ⟨xs,eσ⟩:=lst
   refine bJ (bj H1 (bm eσ) hα) fun vs n0 g q l=>?_
   refine aj (call_enumerate_1 g fun h2 en li z2 k2 z=>?_)
   have z2' : s1.heap.objs.size ≤ h2.objs.size:=by omega
   have x2 : Step NoOwn ι1 s1 ι1 { s1 with heap:=h2 }:=.grow k2 z2'
   have H2 : HOk C ι1 σ1 h2:=H1.grow k2 z2'
   refine wpAny_pyIter_enum en ?_
   have a2:=((a.step x0 H0).step x1 H1).step (s':={ s1 with heap:=h2 }) x2 H2
   have zz : s.heap.objs.size ≤ s1.heap.objs.size:=Nat.le_trans x0.size x1.size
   exact lE I a ht hu hb zz (Nat.le_succ_of_le zz) (Nat.succ_ne_self _) (fun uw uw p=>p) ⟨h,((x0.trans x1).trans x2).ofNo,H2,a2.at'.env,a2.st,⟨_,en⟩,⟨_,hα,li⟩⟩
theorem ja (T : bi C) (O : Ops C) (OS : OpsS C) (I : ∀ m ≤ k,SndE C d m) {t e : Expr} {xs : XS} (h : trAsg kd (trE k kd) t e = some xs) (hw : wS d xs ρ σ Q) (a : AtS C own d kd env A ρ σ ι s) :
  wpAny (model C.prog C.w) A (exec (.Assign [t] e pos) env) (PF C env own ι s Q) Nought s:=by
 have J:=I k (Nat.le_refl k)
 cases t with
 | Name y p =>
  refine ifC h fun hs h=>aG h fun x he ex=>?_
  rw [<- ex] at hw
  cases hc : isComp e with
  | false=>exact fe J hc hs he hw a
  | true =>
   cases k with
   | zero=>exact nn he
   | succ k =>
    revert he
    cases e <;> first | exact tf hc | exact fun he=>nn he | exact fun he=>fW T (fun m l=>I m (Nat.le_succ_of_le l)) O hs he hw a
 | Tuple ts kk p =>
  refine ifN h fun hn h=>ah h fun ys hx h=>ifC h fun ok h=>aG h fun x he ex=>?_
  rw [<- ex] at hw
  rw [Bool.or_eq_true,not_or,Bool.not_eq_true,Bool.not_eq_true] at hn
  rw [Bool.and_eq_true,decide_eq_true_eq] at ok
  exact mn J hn.1 hn.2 hx ok.1 ok.2 he hw a
 | Attribute o b p =>
  refine ifN h fun hn h=>ah h fun y ho h=>aG h fun x he ex=>?_
  rw [<- ex] at hw
  exact md J OS (Bool.not_eq_true _ ▸ hn) ho he hw a
 | Subscript o i p =>
  refine ifN h fun hn h=>ah h fun y ho h=>ah h fun z hi h=>aG h fun x he ex=>?_
  rw [<- ex] at hw
  exact ma J OS (Bool.not_eq_true _ ▸ hn) ho hi he hw a
 | _=>exact nn h
theorem ju {α : Type} {l : List α} {G : List α -> Prop} (h : l.isEmpty = true) (k : G []) : G l:=by
 cases l with
 | nil=>exact k
 | cons=>exact tf h
theorem pY {x : X} {v : AV} (h : gG x = some v) : x = .glo v:=by
 cases x <;> first | exact nn h | exact congrArg X.glo (Option.some.inj h)
theorem nQ {v : AV} {b : Blt} (h : gBl v = some b) : v = .blt b:=by
 cases v <;> first | exact nn h | exact congrArg AV.blt (Option.some.inj h)
theorem tF {it i : Expr} {G : Expr -> Prop} (h : enumE kd it = some i) (k : ∀ f fp cp,trName kd f = some (.glo (.blt .enumerate)) -> G (.Call (.Name f fp) [i] [] cp)) : G it:=by
 cases it with
 | Call f es ks cp =>
  refine ifC h fun hk h=>ah h fun x hx h=>ah h fun y hy h=>ah h fun v hv h=>ah h fun b hb h=>ifC h fun e h=>?_
  refine ju (G:=fun ks=>G (.Call f es ks cp)) hk (kj (G:=fun f=>G (.Call f es [] cp)) hx fun fp=>?_)
  exact bZ h ▸ k _ _ _ (hy.trans (congrArg some ((pY hv).trans (congrArg X.glo ((nQ hb).trans (congrArg AV.blt e))))))
 | _=>exact nn h
theorem oz {e : Expr} (h : superCall e = true) (l : Nat) : swapsWith e none l env = pure false:=by
 cases e <;> first | rfl | exact tf h
theorem te {h : Heap} {u : Value} {G : Value -> Prop} (r : VRep C ι h .none u) (k : G .none) : G u:=by
 cases r; exact k
theorem pi (T : bi C) (I : SndXs C d k) (J : SndE C d k) {t it : Expr} {body : List Stmt} {x : XS} (h : trFor kd (trE k kd) (fun l=>l.mapM (trS k kd)) t it body = some x) (hw : wS d x ρ σ Q) (a : AtS C own d kd env A ρ σ ι s) :
  wpAny (model C.prog C.w) A (exec (.For t it body [] pos) env) (PF C env own ι s Q) Nought s:=by
 cases t with
 | Name y p =>
  refine ifC h fun hs h=>ah h fun y hi h=>aG h fun b hb ex=>?_
  rw [<- ex] at hw
  exact mi T I J hs hi hb hw a
 | Tuple ts kk p =>
  refine ah h fun l hl h=>?_
  rcases l with _ | ⟨y,_ | ⟨z,_ | ⟨w,l⟩⟩⟩
  ·exact nn h
  ·exact nn h
  ·refine ifC h fun hs h=>ah h fun i hn h=>ah h fun j hi h=>aG h fun b hb ex=>?_
   rw [<- ex] at hw
   rw [Bool.and_eq_true,Bool.and_eq_true] at hs
   exact ki (G:=fun ts=>wpAny (model C.prog C.w) A (exec (.For (.Tuple ts kk p) it body [] pos) env) (PF C env own ι s Q) Nought s) hl fun p1 p2 =>
    tF (G:=fun it=>wpAny (model C.prog C.w) A (exec (.For (.Tuple [.Name y p1,.Name z p2] kk p) it body [] pos) env) (PF C env own ι s Q) Nought s) hn fun f fp cp hf=>mh T I J hs.1.1 hs.1.2 hb hf hi hw a
  ·exact nn h
 | _=>exact nn h
set_option backward.match.sparseCases true in
theorem kU (T : bi C) (O : Ops C) (OS : OpsS C) (I : ∀ m ≤ k,SndE C d m) (X : SndX C d k) : SndX C d (k + 1):=by
 intro kd st x ρ σ Q env A ι s own h hw a
 have J:=I k (Nat.le_refl k)
 have Xs:=m8 X
 cases st with
 | Assign ts e pos=>exact pH (G:=fun ts=>wpAny (model C.prog C.w) A (exec (.Assign ts e pos) env) (PF C env own ι s Q) Nought s) h fun t h=>ja T O OS I h hw a
 | Expr e pos =>
  refine ifC h fun hs h=>aG h fun y hy ex=>?_
  rw [<- ex] at hw
  exact wpAny_Expr (aF (J hy hw a.at') fun v u σ1 s1 ι1 q x1 H1 r1=>te (G:=fun u=>match u with | .ref _=>False | _=>PF C env own ι s Q .next s1) (q.1 ▸ r1) (iI x1 a q.2 H1 rfl)) (pZ a.at'.es) (oz hs _)
 | Return e pos =>
  cases e with
  | none=>exact nn h
  | some e =>
   refine aG h fun y hy ex=>?_
   rw [<- ex] at hw
   exact wpAny_Return_some (aF (J hy hw a.at') fun v u σ1 s1 ι1 q x1 H1 r1=>iI x1 a q H1 ⟨u,rfl,r1⟩)
 | If t p q pos =>
  refine ifC h fun ht h=>ah h fun y h1 h=>ah h fun b1 h2 h=>aG h fun b2 h3 ex=>?_
  rw [<- ex] at hw
  refine wpAny_If (fw (eG (Q:=fun c σ1=>match c with | true=>wSs d b1 ρ σ1 Q | false=>wSs d b2 ρ σ1 Q) O I ht h1 hw a.at') fun c σ1 s1 ι1 q x1 H1=>?_)
  cases c with
  | true=>exact nB x1.ofNo (Xs h2 q (a.step x1 H1))
  | false=>exact nB x1.ofNo (Xs h3 q (a.step x1 H1))
 | While t b oe pos =>
  refine ifC h fun hc h=>ah h fun y h1 h=>aG h fun b1 h2 ex=>?_
  rw [<- ex] at hw
  rw [Bool.and_eq_true] at hc
  exact ju (G:=fun oe=>wpAny (model C.prog C.w) A (exec (.While t b oe pos) env) (PF C env own ι s Q) Nought s) hc.1 (kO Xs (eG O I) hc.2 h1 h2 hw a)
 | For t it b oe pos=>exact ifC h fun hc h=>ju (G:=fun oe=>wpAny (model C.prog C.w) A (exec (.For t it b oe pos) env) (PF C env own ι s Q) Nought s) hc (pi T Xs J h hw a)
 | _=>exact nn h
theorem hV (T : bi C) (O : Ops C) (OS : OpsS C) (F : SndF C (CFW d) d) (V : SndV C d) : ∀ k,SndX C d k
 | 0=>fun uw uw uw uw uw uw uw uw uw uw uw h=>nn h
 | k + 1=>kU T O OS (fX T O F V k) (hV T O OS F V k)
end
structure az (C : Cx) (k : Nat) (f : Fun) : Prop where
 ok : ∃ o fd body kk,C.base.get? (C.fa k) = some o /\ o.data = .func fd /\ fd.body = .stmts body /\ body.mapM (trS kk fd.scope.names) = some f.body /\ C.base.CodeRec fd.code fd.qualname /\ fd.closure = [] /\ fd.globals = mainGlobals /\ fd.builtins = builtinsNs /\
  fd.scope.kind = .function /\ fd.scope.isCoroutine = false /\ fd.scope.isGenerator = false /\ (∀ x,cd x ∈ f.params -> stK fd.scope.names x = true) /\
  ∀ {as ρ us ι} {s : Shared},bindA f.params as f.dflts = some ρ -> VReps C ι s.heap as us -> Keeps C.base s.heap -> ∃ binds,BindsTo s fd ⟨us,[]⟩ binds /\ (binds.map fun b=>cd b.1) = f.params /\ ∀ x v,getVar (cd x) ρ = some v -> ∃ u,(x,u) ∈ binds /\ VRep C ι s.heap v u
 nodup : f.params.Nodup
theorem iP {kd : Str -> Option NameKind} : ∀ {binds : List (Str × Value)} {m : Str -> Option Value} {x : Str} {u : Value},(binds.map (·.1)).Nodup -> (x,u) ∈ binds -> kd x = some .local -> bindL kd binds m x = some u
 | (n,v) :: r,m,x,u,nd,h,k=>by
  rw [List.map_cons,List.nodup_cons] at nd
  unfold bindL
  rcases List.mem_cons.mp h with e | h
  ·cases e
   have : ∀ (r : List (Str × Value)) (m : Str -> Option Value),n ∉ r.map (·.1) -> bindL kd r m n = m n:=by
    intro r
    induction r with
    | nil=>intro m _; rfl
    | cons y r ih =>
     obtain ⟨z,w⟩:=y
     intro m hn
     simp only [List.map_cons,List.mem_cons,not_or] at hn
     unfold bindL
     rw [ih _ hn.2]
     split
     ·exact if_neg hn.1
     ·rfl
   rw [this r _ nd.1,if_pos k]
   exact if_pos rfl
  ·exact iP nd.2 h k
theorem iQ {kd : Str -> Option NameKind} : ∀ {binds : List (Str × Value)} {m : Str -> Option Value} {x : Str} {u : Value},(binds.map (·.1)).Nodup -> (x,u) ∈ binds -> kd x ≠ some .local -> bindC kd binds m x = some u
 | (n,v) :: r,m,x,u,nd,h,k=>by
  rw [List.map_cons,List.nodup_cons] at nd
  unfold bindC
  rcases List.mem_cons.mp h with e | h
  ·cases e
   have : ∀ (r : List (Str × Value)) (m : Str -> Option Value),n ∉ r.map (·.1) -> bindC kd r m n = m n:=by
    intro r
    induction r with
    | nil=>intro m _; rfl
    | cons y r ih =>
     obtain ⟨z,w⟩:=y
     intro m hn
     simp only [List.map_cons,List.mem_cons,not_or] at hn
     unfold bindC
     rw [ih _ hn.2]
     split
     ·rfl
     ·exact if_neg hn.1
   rw [this r _ nd.1,if_neg k]
   exact if_pos rfl
  ·exact iQ nd.2 h k
theorem bU {x : Str} : ∀ (names : List (Str × NameKind)) (n : Nat) (acc : List (Str × Addr)),(x,NameKind.cell) ∈ names \/ (acc.lookup x).isSome = true -> ((cellsFrom n names acc).lookup x).isSome = true
 | [],_,_,h=>h.elim (fun m=>by cases m) id
 | (y,k) :: r,n,acc,h=>by
  unfold cellsFrom
  split
  ·refine bU r _ _ ?_
   rcases h with m | m
   ·rcases List.mem_cons.mp m with e | m
    ·cases e; right; simp
    ·exact .inl m
   ·right
    rw [List.lookup_cons]
    split
    ·rfl
    ·exact m
  ·rename_i hk
   refine bU r _ _ ?_
   rcases h with m | m
   ·rcases List.mem_cons.mp m with e | m
    ·cases e; exact absurd rfl hk
    ·exact .inl m
   ·exact .inr m
section
variable {C : Cx} {ι ι' : List Addr} {σ σ' : Hp} {s s' : Shared} {env : PySem.Env} {ρ ρ' : Env} {A : Around} {d k : Nat} {kd : List (Str × NameKind)} {v : AV} {x : X} {pos : Pos} {own own' : Addr -> Prop} {it : Addr} {i ep : Nat} {Q : AV -> Hp -> Prop}
theorem Room.deeper (r : Room A (d + 1)) : Room (A.deeper env) d:=⟨r.handled,by show A.depth + 1 + d < _; have:=r.depth; lia,by show A.units + 3 + 64 * (d + 1) < _; have:=r.units; lia⟩
theorem kW {c c' : Orc} (T : bi C) (F : ∀ k f,prg.fn k = some f -> az C k f) (X : ∀ n ⦃kd st x ρ σ Q env A ι s own⦄,st.mapM (trS n kd) = some x -> wSso c c' x ρ σ Q -> AtS C own d kd env A ρ σ ι s -> wpAny (model C.prog C.w) A (execs st env) (PF C env own ι s Q) Nought s) : SndF C (bodyO c c') (d + 1):=by
 intro k as σ Q A ι s us hw rs H rm
 refine bE hw fun f hf hw=>bE hw fun ρ hb hw=>?_
 have K:=F k f hf
 refine cY K.ok fun o fd body kk g dat bod tr cr clo glob blt kind nco ngen pk bnd=>?_
 refine bq (bnd (s:=s) hb rs H.base) fun binds hbt hpar hrel=>?_
 have g' : s.heap.get? (C.fa k) = some o:=H.base _ _ g
 refine ⟨⟨.frame,?_⟩,?_⟩
 ·unfold keeperOf
  refine wpAny_bind (wpAny_load g' ?_)
  rw [dat]
  exact wpAny_pure ⟨rfl,rfl⟩
 ·refine codeAny_call_function (by have:=rm.depth; lia) g' dat nco ngen bod (cr.keeps H.base) (hbt _ _ _ _ ?_)
  rw [clo]
  have stp : ∀ x ∈ binds,stK fd.scope.names x.1 = true:=fun x hx=>pk _ (hpar ▸ List.mem_map.mpr ⟨x,hx,rfl⟩)
  have has : ∀ y,fd.scope.names.lookup y = some .cell -> ∃ c,(cellsFrom (s.heap.objs.size + 1) fd.scope.names []).lookup y = some c:=fun y hy=>Option.isSome_iff_exists.mp (bU _ _ _ (.inl (aZ hy)))
  refine wpAny_newFunctionEnv_cells kind (fun x hx=>?_) fun env he s1 ic=>?_
  ·rcases dI (stp x hx) with e | e
   ·exact .inl e
   ·exact .inr ⟨e,by obtain ⟨c,hc⟩:=has _ e; rw [hc]; rfl⟩
  have hL : env.locals = s.heap.objs.size:=by rw [he]; rfl
  have hsc : env.scope = fd.scope:=by rw [he]; rfl
  have hcl : env.cells = cellsFrom (s.heap.objs.size + 1) fd.scope.names []:=by rw [he]; rfl
  have hgl : env.globals = mainGlobals:=by rw [he]; exact glob
  have hbl : env.builtins = builtinsNs:=by rw [he]; exact blt
  have kp : Keeps s.heap s1.heap:=ic.toInCall.keep
  have hk : ∀ y,env.kindOf y = fd.scope.names.lookup y:=fun y=>by unfold Env.kindOf; rw [hsc]
  have low:=H.low
  have ltL : env.locals < s1.heap.objs.size:=ic.toInCall.ns.lt
  have sz : s.heap.objs.size ≤ s1.heap.objs.size:=Nat.le_of_lt (hL ▸ ltL)
  refine pK ic.toInCall.same fun h1 tk es1=>?_
  have st1 : Step NoOwn ι s ι s1:=by rw [es1] at kp sz ⊢; exact .grow kp sz
  have H1 : HOk C ι σ s1.heap:=H.grow kp sz
  have nd : (binds.map (·.1)).Nodup:=by
   have:=hpar ▸ K.nodup
   rw [List.Nodup,List.pairwise_map] at this ⊢
   exact this.imp fun ne e=>ne (congrArg cd e)
  have cellsE : ∀ y,env.kindOf y = some .cell -> ∃ c,env.cells.lookup y = some c:=fun y hy=>by rw [hcl]; exact has y (by rw [<- hk]; exact hy)
  let own : Addr -> Prop:=fun a=>a = env.locals \/ ∃ y,env.cells.lookup y = some a
  have abv : ∀ a,own a -> s.heap.objs.size ≤ a:=fun a oa=>by
   rcases oa with rfl | ⟨y,hy⟩
   ·exact Nat.le_of_eq hL.symm
   ·exact Nat.le_of_lt (Nat.lt_of_le_of_lt (Nat.le_of_eq hL.symm) (ic.above y a (mem_of_lookup hy)))
  have S1 : StOk C env own s1.heap:=by
   refine ⟨.inl rfl,fun a oa=>Nat.le_trans low (abv a oa),fun a oa=>?_,fun y hy=>?_,fun x y c hx hy=>name_of_addr ic.apart (mem_of_lookup hx) (mem_of_lookup hy)⟩
   ·rcases oa with rfl | ⟨y,hy⟩
    ·exact ltL
    ·exact (ic.cell y a hy).lt
   ·obtain ⟨c,hc⟩:=cellsE y hy
    exact ⟨c,_,hc,ic.cell y c hc,.inr ⟨y,hc⟩⟩
  have E1 : EnvOk C env ρ ι s1.heap:=by
   refine ⟨fun y w uw e k=>?_,fun m=>?_,⟨_,ic.toInCall.ns⟩,cellsE⟩
   ·refine aw (hrel y w e) fun u mu r=>?_
    refine ⟨u,r.mono (List.prefix_refl _) st1.imm,?_⟩
    have sk:=stp _ mu
    rcases dI sk with e1 | e1
    ·have e2 : env.kindOf y = some .local:=by rw [hk]; exact e1
     unfold NameIs
     rw [e2]
     exact ⟨_,ic.toInCall.ns,iP nd mu e2⟩
    ·have e2 : env.kindOf y = some .cell:=by rw [hk]; exact e1
     unfold NameIs
     rw [e2]
     obtain ⟨c,hc⟩:=cellsE y e2
     have:=ic.cell y c hc
     rw [iQ nd mu (by rw [e2]; simp)] at this
     exact ⟨c,hc,this⟩
   ·have:=H.lt m; rw [hL] at this; exact Nat.lt_irrefl _ this
  refine ⟨(T.nolimit.keeps H.base).keeps kp,codeAny_func ?_⟩
  have AT : AtS C own d fd.scope.names env (A.deeper env) ρ σ ι s1:=by
   refine ⟨⟨fun y=>?_,⟨by rw [hsc]; exact kind,hgl,hbl⟩,rm.deeper,E1,H1⟩,S1,by rw [hsc]⟩
   rw [hk]
   exact ⟨id,id,id⟩
  refine wpAny_mono (X kk tr hw AT) (fun f s2 p=>?_) fun uw uw f=>f.elim
  obtain ⟨q,x2,H2,E2,S2,r2⟩:=p
  have fin:=Step.fresh' (st1.ofNo.trans (x2.weaken fun a oa=>.inl (abv a oa)))
  cases fl with
  | next=>exact (show f = .next from r2) ▸ ⟨q,fin,H2,.none⟩
  | ret w=>exact let ⟨u,e,r⟩:=r2; e ▸ ⟨q,fin,H2,r⟩
structure eX (C : Cx) (K : Frag) (c : Nat) : Prop where
 makes : makesIn K (C.ca c) = true
 geta : findIn K (.ref (C.ca c)) "__getattribute__" = some (some (.builtin "object.__getattribute__"))
 getn : findIn K (.ref (C.ca c)) "__getattr__" = some none
 seta : findIn K (.ref (C.ca c)) "__setattr__" = some (some (.builtin "object.__setattr__"))
 over : plainOver K (C.ca c) = true
 dict : hasDictIn K (C.ca c) = true
 init : ∀ k,prg.init c = some k -> findIn K (.ref (C.ca c)) "__init__" = some (some (.ref (C.fa k))) /\ typeIn K (.ref (C.fa k)) = some (.type "function")
 names : ∀ a r,prg.mt c (cd a) = some r -> findIn K (.ref (C.ca c)) a = some (r.map fun k=>.ref (C.fa k)) /\ copiedNames.contains a = false /\
  ∀ k,r = some k -> typeIn K (.ref (C.fa k)) = some (.type "function") /\ specialIn K (.ref (C.fa k)) "__get__" = some (some (.builtin "function.__get__")) /\ takesIn K (.ref (C.fa k)) = some false
structure bV (C : Cx) (K : Frag) : Prop where
 top : bi C
 inn : K.In C.base
 fns : ∀ k f,prg.fn k = some f -> az C k f
 cls : ∀ c,(prg.init c).isSome = true \/ (∃ a,(prg.mt c a).isSome = true) -> eX C K c
end
section
variable {C : Cx} {ι ι' : List Addr} {σ σ' : Hp} {s s' : Shared} {env : PySem.Env} {ρ ρ' : Env} {A : Around} {d k : Nat} {kd : List (Str × NameKind)} {v : AV} {x : X} {pos : Pos} {own own' : Addr -> Prop} {it : Addr} {i ep : Nat} {Q : AV -> Hp -> Prop}
theorem tx {f : Fun} (F : az C k f) : ∃ o fd,C.base.get? (C.fa k) = some o /\ o.data = .func fd:=let ⟨o,fd,_,_,g,d,_⟩:=F.ok; ⟨o,fd,g,d⟩
theorem sP {as : List AV} (h : CFW d k as σ Q) : ∃ f,prg.fn k = some f:=by
 cases d with
 | zero=>exact h.elim
 | succ d=>exact bE h fun f e uw=>⟨f,e⟩
theorem pj {K : Frag} (T : bV C K) (O : Ops C) (F : SndF C (CFW d) d) (G : ∀ e,d = e + 1 -> SndF C (CFK d) e) : SndV C d:=by
 intro f as σ Q A ι s u us hw r rs H rm
 cases r with
 | fn k=>exact let ⟨kp,hc⟩:=F hw rs H rm; ⟨kp,dC hc⟩
 | blt b=>exact ⟨by cases b <;> first | exact bK | exact e9,bE hw fun uw e q=>opE .refl q (O.blt e rs H rm)⟩
 | meth g rself =>
  obtain ⟨fn,hfn⟩:=sP hw
  refine eJ (tx (T.fns _ fn hfn)) fun o fd go dof=>?_
  have hc:=(F hw (.cons rself rs) H rm).2
  refine ⟨⟨.boundFrame,?_⟩,dC (method_call g hc)⟩
  unfold keeperOf
  refine wpAny_bind (wpAny_load g (wpAny_bind (m:=load _) (wpAny_load (H.base _ _ go) ?_)))
  rw [dof]
  exact wpAny_pure ⟨rfl,rfl⟩
 | cls c =>
  refine bE hw fun k hk hw=>?_
  cases d with
  | zero=>exact hw.elim
  | succ d =>
   have K1:=T.cls c (.inl (by rw [hk]; rfl))
   obtain ⟨i1,i2⟩:=K1.init k hk
   have X : K.In s.heap:=T.inn.keeps H.base
   have Y:=makes_of (M:=model C.prog C.w) X K1.makes
   refine ⟨⟨.machine,?_⟩,?_⟩
   ·obtain ⟨⟨oc,od,cd,sl,hC,_⟩,_,_,_,_,call,_⟩:=Y
    unfold keeperOf
    refine wpAny_bind (wpAny_load hC ?_)
    refine wpAny_bind (call.here ?_)
    exact wpAny_pure ⟨rfl,rfl⟩
   ·have D0 : ORep C (ι ++ [s.heap.objs.size]) (s.heap.push emptyDict) (.attrs []) s.heap.objs.size:=.attrs (Heap.Ns.new s.heap (.type "dict")) ⟨_,_,_,Heap.get?_push_size _ rfl,rfl,Nat.le_refl _⟩ fun x=>rfl
    have H1:=H.push D0
    have z1 : (s.heap.push emptyDict).objs.size = s.heap.objs.size + 1:=Mine.size_push _ _
    have D1 : ORep C ((ι ++ [s.heap.objs.size]) ++ [(s.heap.push emptyDict).objs.size]) ((s.heap.push emptyDict).push (instObj (C.ca c) s.heap.objs.size)) (.inst c σ.length) (s.heap.push emptyDict).objs.size:=by
     refine .inst (dx:=s.heap.objs.size) (Heap.get?_push_size _ rfl) ?_
     rw [List.append_assoc,List.getElem?_append_right (by rw [H.len]; exact Nat.le_refl _),H.len]; simp
    have H2:=H1.push D1
    have x1 : Step NoOwn ι s (ι ++ [s.heap.objs.size]) { s with heap:=s.heap.push emptyDict }:=.push (t:=s.toks)
    have x2 : Step NoOwn (ι ++ [s.heap.objs.size]) { s with heap:=s.heap.push emptyDict } ((ι ++ [s.heap.objs.size]) ++ [(s.heap.push emptyDict).objs.size]) { s with heap:=(s.heap.push emptyDict).push (instObj (C.ca c) s.heap.objs.size) }:=.push (s:={ s with heap:=s.heap.push emptyDict }) (t:=s.toks)
    have x12:=x1.trans x2
    obtain ⟨hh,g,dr,t,os⟩:=s
    have rm' : Room (A.under (.builtin "type.__call__" ⟨.ref (C.ca c) :: us,[]⟩)) d:=⟨rm.handled,by
     have:=rm.depth
     show A.depth + (0 + 1 + (if guardIds.contains "type.__call__" = true then 1 else 0) + 0) + d < _
     rw [if_neg (by decide +kernel)]; lia,by
     have:=rm.units
     show A.units + 1 + 64 * (d + 1) < _
     lia⟩
    have hx : ((ι ++ [hh.objs.size]) ++ [(hh.push emptyDict).objs.size])[σ.length + 1]? = some (hh.push emptyDict).objs.size:=by
     rw [List.getElem?_append_right (by simp [H.len])]; simp [H.len]
    have hσ : (σ ++ [AO.attrs []]) ++ [AO.inst c σ.length] = σ ++ [AO.attrs [],AO.inst c σ.length]:=List.append_assoc _ _ _
    have hcall:=(G d rfl (A:=A.under (.builtin "type.__call__" ⟨.ref (C.ca c) :: us,[]⟩)) (ι:=(ι ++ [hh.objs.size]) ++ [(hh.push emptyDict).objs.size]) (s:=⟨(hh.push emptyDict).push (instObj (C.ca c) hh.objs.size),g,dr,t,os⟩) (us:=.ref (hh.objs.size + 1) :: us) hw
     (.cons (.ref (by rw [hx,z1])) (rs.mono x12.pre x12.imm)) (by rw [<- hσ]; exact H2) rm').2
    refine wpAny_call (make_core Y (looks_findIn X i1) (fun self=>bind_fn X self i2) (.inl rfl) (codeAny_mono hcall fun r s' z=>?_))
    rcases r with e | (w | _ | _ | _) <;> first | exact z.elim | skip
    obtain ⟨q,x3,H3,r3⟩:=z
    rw [q.1] at r3
    cases r3
    exact ⟨rfl,q.2,x12.trans x3,H3,.ref (cm x3.pre (by rw [hx,z1]))⟩
 | _=>exact hw.elim
theorem fD {K : Frag} (T : bV C K) (O : Ops C) (OS : OpsS C) : ∀ d,SndF C (CFW d) d /\ ∀ e,d = e + 1 -> SndF C (CFK d) e
 | 0=>⟨fun uw uw uw uw uw uw uw uw h=>h.elim,fun uw e=>nomatch e⟩
 | d + 1 =>
  have I:=fD T O OS d
  ⟨kW T.top T.fns fun n=>m8 (hV T.top O OS I.1 (pj T O I.1 I.2) n),fun e h=>Nat.succ.inj h ▸ I.1⟩
end
end Mine
end
section
open PyProof.Rows PySem PySem.W
namespace Mine
section
variable (r : Nat -> Nat) (N : Nat)
noncomputable def kOk {α : Type} : KasT α -> (α -> Prop) -> Prop
 | .ret a,Q=>Q a
 | .ask i j k,Q=>i < N /\ j < N /\ kOk (k (decide (r i < r j))) Q
end
section
variable {r : Nat -> Nat} {N : Nat} {α β : Type}
theorem nG {Q Q' : α -> Prop} (h : ∀ a,Q a -> Q' a) : ∀ {t : KasT α},kOk r N t Q -> kOk r N t Q'
 | .ret a,q=>h a q
 | .ask i j k,q=>⟨q.1,q.2.1,nG h q.2.2⟩
theorem c8 {f : α -> KasT β} {Q : β -> Prop} : ∀ {t : KasT α},kOk r N t (fun a=>kOk r N (f a) Q) -> kOk r N (t.bind f) Q
 | .ret a,q=>q
 | .ask i j k,q=>⟨q.1,q.2.1,c8 q.2.2⟩
theorem nE {cmp : Nat -> Nat -> (Bool -> Shared -> Prop) -> Shared -> Prop} {G : α -> Shared -> Prop} {s : Shared} (hc : ∀ i j (C : Bool -> Shared -> Prop),i < N -> j < N -> C (decide (r i < r j)) s -> cmp i j C s) {Q : α -> Prop} (hQ : ∀ a,Q a -> G a s) :
  ∀ {t : KasT α},kOk r N t Q -> t.kasWp cmp G s
 | .ret a,q=>hQ a q
 | .ask i j k,q=>hc i j _ q.1 q.2.1 (nE hc hQ q.2.2)
noncomputable abbrev vl (r : Nat -> Nat) (p : Array Nat) (k : Nat) : Nat:=r (p.getD k 0)
structure Ent (N : Nat) (p : Array Nat) : Prop where
 size : p.size = N
 lt : ∀ k,p.getD k 0 < N
 perm : p.toList.Perm (List.range N)
theorem Ent.of {p q : Array Nat} (e : Ent N p) (h : q.Perm p) : Ent N q:=by
 have hp:=Array.perm_iff_toList_perm.mp h
 refine ⟨h.size_eq.trans e.size,fun k=>?_,hp.trans e.perm⟩
 have n0 : 0 < N:=Nat.lt_of_le_of_lt (Nat.zero_le _) (e.lt 0)
 rw [Array.getD_eq_getD_getElem?]
 cases hx : q[k]? with
 | none=>exact n0
 | some x =>
  have : x ∈ q.toList:=by rw [Array.mem_toList_iff]; exact Array.mem_of_getElem? hx
  exact List.mem_range.mp ((hp.trans e.perm).mem_iff.mp this)
theorem gE {p : Array Nat} {i j : Nat} (hj : j ≤ p.size) (k : Nat) : (kas_rev p i j).getD k 0 = if i ≤ k /\ k < j then p.getD (i + j - 1 - k) 0 else p.getD k 0:=by
 unfold kas_rev
 rw [Array.getD_eq_getD_getElem?,getElem?_mirror_all hj]
 split <;> rw [Array.getD_eq_getD_getElem?]
theorem kr {p : Array Nat} {src d : Nat} (hs : src < p.size) (hd : d ≤ src) (k : Nat) : (bubble p src d).getD k 0 = if k = src - d then p.getD src 0 else if src - d < k /\ k ≤ src then p.getD (k - 1) 0 else p.getD k 0:=by
 rw [Array.getD_eq_getD_getElem?,getElem?_bubble hs d hd]
 simp only [Array.getD_eq_getD_getElem?]
 repeat' split
 all_goals rfl
theorem dB {p : Array Nat} {i j : Nat} (e : Ent N p) : Ent N (kas_rev p i j):=e.of (mirror_perm _ _ _ _)
theorem qd {p : Array Nat} {src d : Nat} (e : Ent N p) : Ent N (bubble p src d):=e.of (bubble_perm _ _ _)
noncomputable def Up (r : Nat -> Nat) (p : Array Nat) (k : Nat) : Prop:=∀ i j,i ≤ j -> j < k -> vl r p i ≤ vl r p j
noncomputable def Down (r : Nat -> Nat) (p : Array Nat) (k : Nat) : Prop:=∀ i j,i ≤ j -> j < k -> vl r p j ≤ vl r p i
theorem ji {p : Array Nat} (e : Ent N p) {Q : Nat -> Prop} : ∀ (f n : Nat),1 ≤ n -> n + f ≤ N -> Up r p n -> (∀ m,n ≤ m -> m ≤ n + f -> Up r p m -> (m = n + f \/ vl r p m < vl r p (m - 1)) -> Q m) -> kOk r N (kas_asc p f n) Q
 | 0,n,h1,hn,hs,h=>h n (Nat.le_refl _) (by lia) hs (.inl (by lia))
 | f + 1,n,h1,hn,hs,h=>by
  refine ⟨e.lt _,e.lt _,?_⟩
  by_cases hc : vl r p n < vl r p (n - 1)
  ·rw [decide_eq_true hc]
   simp only [if_true]
   exact h n (Nat.le_refl _) (by lia) hs (.inr hc)
  ·rw [decide_eq_false hc]
   simp only [Bool.false_eq_true,if_false]
   refine ji e f (n + 1) (by lia) (by lia) (fun i j hij hj=>?_) fun m a b c d=>h m (by lia) (by lia) c (by rcases d with d | d; exact .inl (by lia); exact .inr d)
   by_cases hjn : j < n
   ·exact hs i j hij hjn
   ·have : j = n:=by lia
    subst this
    by_cases hi : i = j
    ·subst hi; exact Nat.le_refl _
    ·have:=hs i (j - 1) (by lia) (by lia); lia
theorem ik {p : Array Nat} {n : Nat} {Q : Nat × Array Nat -> Prop} (e : Ent N p) (h1 : 1 ≤ n) (hn : n ≤ N) (hs : Down r p n) (h : ∀ m p',Ent N p' -> 1 ≤ m -> m ≤ N -> Up r p' m -> Q (m,p')) : kOk r N (kas_tail3 n N p) Q:=by
 unfold kas_tail3
 refine c8 (ji (dB e) _ _ h1 (by lia) (fun i j hij hj=>?_) fun m a b c uw=>h m _ (dB e) (by lia) (by lia) c)
 have hz : n ≤ p.size:=by rw [e.size]; exact hn
 show r _ ≤ r _
 rw [gE hz,gE hz,if_pos (by lia),if_pos (by lia)]
 exact hs _ _ (by lia) (by lia)
theorem bY {p : Array Nat} {i j : Nat} (hj : j ≤ p.size) (heq : ∀ k,i ≤ k -> k < j -> vl r p k = vl r p (j - 1)) (k : Nat) : vl r (kas_rev p i j) k = vl r p k:=by
 show r _ = r _
 rw [gE hj]
 split
 ·have a:=heq (i + j - 1 - k) (by lia) (by lia)
  have b:=heq k (by lia) (by lia)
  exact a.trans b.symm
 ·rfl
theorem eh {Q : Array Nat × Nat × Nat -> Prop} : ∀ (f : Nat) (p : Array Nat) (n q : Nat),Ent N p -> 1 ≤ n -> n + f ≤ N -> Down r p n -> q + 1 ≤ n -> (∀ i,n - (q + 1) ≤ i -> i < n -> vl r p i = vl r p (n - 1)) ->
  (∀ p' m q',Ent N p' -> n ≤ m -> m ≤ N -> Down r p' m -> q' + 1 ≤ m -> (∀ i,m - (q' + 1) ≤ i -> i < m -> vl r p' i = vl r p' (m - 1)) -> Q (p',m,q')) -> kOk r N (kas_desc f p n q) Q
 | 0,p,n,q,e,h1,hn,hs,hq,he,h=>h p n q e (Nat.le_refl _) (by lia) hs hq he
 | f + 1,p,n,q,e,h1,hn,hs,hq,he,h=>by
  have hz : n ≤ p.size:=by rw [e.size]; lia
  refine ⟨e.lt _,e.lt _,?_⟩
  by_cases hc : vl r p n < vl r p (n - 1)
  ·rw [decide_eq_true hc]
   simp only [if_true]
   have hF : ∀ xs : Array Nat,(∀ k,vl r xs k = vl r p k) -> Down r xs (n + 1):=by
    intro xs hk i j hij hj
    rw [hk,hk]
    by_cases hjx : j < n
    ·exact hs i j hij hjx
    ·have hj' : j = n:=by lia
     subst hj'
     by_cases hi' : i = j
     ·subst hi'; exact Nat.le_refl _
     ·have:=hs i (j - 1) (by lia) (by lia); lia
   split
   ·exact eh f _ (n + 1) 0 (dB e) (by lia) (by lia) (hF _ (bY hz he)) (by lia) (fun i a b=>by congr 1; congr 1; lia) fun p' m q' a b c d x y=>h p' m q' a (by lia) c d x y
   ·exact eh f _ (n + 1) 0 e (by lia) (by lia) (hF _ fun uw=>rfl) (by lia) (fun i a b=>by congr 1; congr 1; lia) fun p' m q' a b c d x y=>h p' m q' a (by lia) c d x y
  ·rw [decide_eq_false hc]
   simp only [Bool.false_eq_true,if_false]
   refine ⟨e.lt _,e.lt _,?_⟩
   by_cases hd : vl r p (n - 1) < vl r p n
   ·rw [decide_eq_true hd]
    simp only [if_true]
    exact h p n q e (Nat.le_refl _) (by lia) hs hq he
   ·rw [decide_eq_false hd]
    simp only [Bool.false_eq_true,if_false]
    have hx : vl r p n = vl r p (n - 1):=by lia
    refine eh f p (n + 1) (q + 1) e (by lia) (by lia) (fun i j hij hj=>?_) (by lia) (fun i a b=>?_) fun p' m q' a b c d x y=>h p' m q' a (by lia) c d x y
    ·by_cases hjx : j < n
     ·exact hs i j hij hjx
     ·have hj' : j = n:=by lia
      subst hj'
      by_cases hi' : i = j
      ·subst hi'; exact Nat.le_refl _
      ·have:=hs i (j - 1) (by lia) (by lia); lia
    ·rw [show n + 1 - 1 = n by lia]
     by_cases hix : i = n
     ·subst hix; rfl
     ·rw [hx]; exact he i (by lia) (by lia)
theorem dW {p : Array Nat} {n : Nat} {Q : Nat × Array Nat -> Prop} (e : Ent N p) (hn : n + 1 ≤ N) (hs : Down r p (n + 1)) (h : ∀ m p',Ent N p' -> 1 ≤ m -> m ≤ N -> Up r p' m -> Q (m,p')) : kOk r N (kas_descPart n N p) Q:=by
 unfold kas_descPart
 refine c8 (eh _ p (n + 1) 0 e (by lia) (by lia) hs (by lia) (fun i a b=>by congr 1; congr 1; lia) fun p' m q' e' b c d x y=>?_)
 have hz : m ≤ p'.size:=by rw [e'.size]; exact c
 show kOk r N (if q' > 0 then kas_tail3 m N (kas_rev p' (m - (q' + 1)) m) else kas_tail3 m N p') Q
 have hm1 : 1 ≤ m:=by lia
 split
 ·refine ik (dB e') hm1 c (fun i j hij hj=>?_) h
  rw [bY hz y,bY hz y]
  exact d i j hij hj
 ·exact ik e' hm1 c d h
theorem mQ {p : Array Nat} {Q : Nat × Array Nat -> Prop} (e : Ent N p) (h1 : 1 ≤ N) (h : ∀ m p',Ent N p' -> 1 ≤ m -> m ≤ N -> Up r p' m -> Q (m,p')) : kOk r N (kas_count N p) Q:=by
 unfold kas_count
 refine c8 (ji e _ _ (Nat.le_refl 1) (by lia) (fun i j hij hj=>by have : i = j:=(by lia); subst this; exact Nat.le_refl _) fun n a b hs hor=>?_)
 by_cases hnn : n = N
 ·rw [if_pos (by simpa using hnn)]
  exact h n p e a (by lia) hs
 ·rw [if_neg (by simpa using hnn)]
  have hlt : vl r p n < vl r p (n - 1):=hor.resolve_left (by lia)
  have hz : n ≤ p.size:=by rw [e.size]; lia
  split
  ·refine ⟨e.lt _,e.lt _,?_⟩
   by_cases hrose : vl r p 0 < vl r p (n - 1)
   ·rw [decide_eq_true hrose]
    simp only [if_true]
    exact h n p e a (by lia) hs
   ·rw [decide_eq_false hrose]
    simp only [Bool.false_eq_true,if_false]
    have hall : ∀ k,0 ≤ k -> k < n -> vl r p k = vl r p (n - 1):=by
     intro k _ hk
     have a1:=hs 0 k (by lia) hk
     have a2:=hs k (n - 1) (by lia) (by lia)
     lia
    refine dW (dB e) (by lia) (fun i j hij hj=>?_) h
    rw [bY hz hall,bY hz hall]
    by_cases hjn : j < n
    ·rw [hall i (by lia) (by lia),hall j (by lia) hjn]; exact Nat.le_refl _
    ·have hj' : j = n:=by lia
     subst hj'
     by_cases hi : i = j
     ·subst hi; exact Nat.le_refl _
     ·rw [hall i (by lia) (by lia)]; lia
  ·refine dW e (by lia) (fun i j hij hj=>?_) h
   have hn1 : n = 1:=by lia
   subst hn1
   by_cases hi : i = j
   ·subst hi; exact Nat.le_refl _
   ·have : i = 0:=by lia
    have : j = 1:=by lia
    subst i; subst j
    exact Nat.le_of_lt hlt
theorem eI {p : Array Nat} {k : Nat} (e : Ent N p) (hk : k < N) (hs : Up r p k) {Q : Nat -> Prop} (h : ∀ l,l ≤ k -> (∀ i,i < l -> vl r p i ≤ vl r p k) -> (∀ i,l ≤ i -> i < k -> vl r p k < vl r p i) -> Q l) :
  ∀ (f l m : Nat),l ≤ m -> m ≤ k -> m - l ≤ f -> (∀ i,i < l -> vl r p i ≤ vl r p k) -> (∀ i,m ≤ i -> i < k -> vl r p k < vl r p i) -> kOk r N (kas_place p k f l m) Q
 | 0,l,m,hlm,hm,hf,hlo,hhi=>h l (by lia) hlo fun i a b=>hhi i (by lia) b
 | f + 1,l,m,hlm,hm,hf,hlo,hhi=>by
  unfold kas_place
  by_cases hge : l ≥ m
  ·rw [if_pos hge]
   exact h l (by lia) hlo fun i a b=>hhi i (by lia) b
  ·rw [if_neg hge]
   refine ⟨e.lt _,e.lt _,?_⟩
   by_cases hc : vl r p k < vl r p ((l + m) / 2)
   ·rw [decide_eq_true hc]
    simp only [if_true]
    refine eI e hk hs h f _ _ (by lia) (by lia) (by lia) hlo fun i a b=>?_
    have:=hs ((l + m) / 2) i a b
    lia
   ·rw [decide_eq_false hc]
    simp only [Bool.false_eq_true,if_false]
    refine eI e hk hs h f _ _ (by lia) (by lia) (by lia) (fun i a=>?_) hhi
    have:=hs i ((l + m) / 2) (by lia) (by lia)
    lia
theorem mR {Q : Array Nat -> Prop} (h : ∀ p,Ent N p -> Up r p N -> Q p) : ∀ (f : Nat) (p : Array Nat) (k : Nat),Ent N p -> k + f = N -> Up r p k -> kOk r N (kas_bin f p k) Q
 | 0,p,k,e,hk,hs=>h p e ((show k = N by lia) ▸ hs)
 | f + 1,p,k,e,hk,hs=>by
  show kOk r N ((kas_place p k k 0 k).bind fun l=>kas_bin f (bubble p k (k - l)) (k + 1)) Q
  refine c8 (eI e (by lia) hs (fun l hl hlo hhi=>?_) k 0 k (Nat.zero_le _) (Nat.le_refl _) (by lia) (fun i a=>by lia) fun i a b=>by lia)
  refine mR h f _ (k + 1) (qd e) (by lia) fun i j hij hj=>?_
  have hks : k < p.size:=by rw [e.size]; lia
  show r _ ≤ r _
  rw [kr hks (by lia),kr hks (by lia),show k - (k - l) = l by lia]
  unfold Up at hs
  unfold vl at hlo hhi hs
  obtain ⟨g,hg⟩ : ∃ g : Nat -> Nat,∀ k,p.getD k 0 = g k:=⟨_,fun uw=>rfl⟩
  simp only [hg] at hlo hhi hs ⊢
  repeat' split
  all_goals first
   | (exfalso; lia)
   | exact Nat.le_refl _
   | exact hlo _ (by lia)
   | exact Nat.le_of_lt (hhi _ (by lia) (by lia))
   | exact hs _ _ (by lia) (by lia)
theorem pJ {Q : Array Nat -> Prop} (h1 : 1 ≤ N) (h : ∀ p,Ent N p -> Up r p N -> Q p) : kOk r N (kas_sort N) Q:=by
 unfold kas_sort
 have e0 : Ent N (List.toArray (List.range N)):=by
  refine ⟨by simp,fun k=>?_,by simp⟩
  rw [Array.getD_eq_getD_getElem?]
  cases hx : (List.toArray (List.range N))[k]? with
  | none=>exact h1
  | some x =>
   have : x ∈ List.range N:=by
    have:=Array.mem_of_getElem? hx
    simpa using this
   exact List.mem_range.mp this
 refine c8 (mQ e0 h1 fun m p e a b hs=>?_)
 dsimp only
 split
 ·rw [show max m 1 = m by lia]
  exact mR h _ p m e (by lia) hs
 ·have : m = N:=by lia
  exact h p e (this ▸ hs)
end
end Mine
end
section
open PyProof.Rows PySem PySem.Calls PySem.W
namespace Mine
section
variable {prog : Program} {w : World} {A : Around} {E : Value -> Shared -> Prop} {s : Shared}
theorem jh {b : Bool} {x y : Int} {t u : Tok} {Q : Bool -> Shared -> Prop} (h : Q (decide (x < y)) s) : wpAny (model prog w) A (oneLt' b (.int x t) (.int y u)) Q E s:=by
 cases b with
 | true=>exact oneLt_int h
 | false=>exact kat_one _ _ (PyProof.Rows.lt_int h)
theorem nz {Q : Bool -> Shared -> Prop} {fin : Bool} : ∀ {vs us : List Value} {xs ys : List Int} (i : Nat),IntsAre vs xs -> IntsAre us ys -> fin = decide (xs.length < ys.length) -> Q (ltL xs ys) s -> KatLex prog w A true fin Q (vs.zip us) i s
 | _,_,_,_,i,.nil,.nil,hf,h=>by subst hf; exact kat_nil (by simpa [ltL] using h)
 | _,_,_,_,i,.nil,.cons _ _ _,hf,h=>by subst hf; exact kat_nil (by simpa [ltL] using h)
 | _,_,_,_,i,.cons _ _ _,.nil,hf,h=>by subst hf; exact kat_nil (by simpa [ltL] using h)
 | _,_,_,_,i,.cons x t hx,.cons y u hy,hf,h=>by
  rw [List.zip_cons_cons]
  refine kat_cons (wpAny_eqBool_int ?_)
  refine kat_go (fun e=>kat_yes ?_) fun e=>kat_no ?_
  ·have e' : x = y:=by simpa using e
   subst e'
   exact nz (i + 1) hx hy (by rw [hf]; simp) (by simpa [ltL] using h)
  ·have e' : x ≠ y:=by simpa using e
   exact jh (by simpa [ltL,e'] using h)
inductive TupsAre (h : Heap) : List Value -> List (List Int) -> Prop
 | nil : TupsAre h [] []
 | cons {a : Addr} {vs : List Value} {ns : List Int} {n : Nat} {us : List Value} {ks : List (List Int)} : h.get? a = some ⟨.type "tuple",none,.seq vs.toArray n,#[]⟩ -> IntsAre vs ns -> ns ≠ [] -> TupsAre h us ks -> TupsAre h (.ref a :: us) (ns :: ks)
theorem TupsAre.length {h : Heap} {vs : List Value} {ks : List (List Int)} (x : TupsAre h vs ks) : vs.length = ks.length:=by
 induction x with
 | nil=>rfl
 | cons _ _ _ _ ih=>simp [ih]
theorem TupsAre.keeps {h h' : Heap} {vs : List Value} {ks : List (List Int)} (x : TupsAre h vs ks) (k : Keeps h h') : TupsAre h' vs ks:=by
 induction x with
 | nil=>exact .nil
 | cons g i n _ ih=>exact .cons (k _ _ g) i n ih
theorem TupsAre.get {h : Heap} : ∀ {vs : List Value} {ks : List (List Int)} (x : TupsAre h vs ks) {i : Nat},i < vs.length -> ∃ a n us,vs.getD i .none = .ref a /\ h.get? a = some ⟨.type "tuple",none,.seq us.toArray n,#[]⟩ /\ IntsAre us (ks.getD i [])
 | _,_,.nil,_,l=>by simp at l
 | _,_,.cons g i _ r,0,_=>⟨_,_,_,rfl,g,i⟩
 | _,_,.cons g i _ r,j + 1,l=>by
  have:=r.get (i:=j) (by simpa using l)
  simpa using this
theorem TupsAre.firsts {h : Heap} : ∀ {vs : List Value} {ks : List (List Int)} (x : TupsAre h vs ks),∃ fs,KatTups h vs fs /\ fs.length = vs.length /\ ∀ f ∈ fs,∃ i t,f = .int i t
 | _,_,.nil=>⟨[],trivial,rfl,fun f h=>by simp at h⟩
 | _,_,.cons g i n r=>by
  refine bq r.firsts fun fs h1 h2 h3=>?_
  cases i with
  | nil=>exact absurd rfl n
  | cons x t hr=>exact ⟨.int x t :: fs,.cons g rfl rfl (by simp) h1,by simp [h2],fun f hf=>by
    rcases List.mem_cons.mp hf with rfl | q
    ·exact ⟨_,_,rfl⟩
    ·exact h3 f q⟩
theorem TupsAre.lt {h : Heap} {vs : List Value} {ks : List (List Int)} (x : TupsAre h vs ks) (k : Keeps h s.heap) {i j : Nat} (hi : i < vs.length) (hj : j < vs.length) {Q : Bool -> Shared -> Prop} (q : Q (ltL (ks.getD i []) (ks.getD j [])) s) :
  wpAny (model prog w) A (keyLt' (tuples' true) (vs.getD i .none) (vs.getD j .none)) Q E s:=by
 refine cK (x.get hi) fun a n us e1 g1 i1=>?_
 refine cK (x.get hj) fun b m ws e2 g2 i2=>?_
 rw [e1,e2]
 refine kat_lt (k _ _ g1) rfl (k _ _ g2) rfl ?_
 exact nz 0 i1 i2 (by simp [i1.length,i2.length]) q
end
theorem ltL_irrefl : ∀ a,ltL a a = false
 | []=>rfl
 | x :: xs=>by simp [ltL,ltL_irrefl xs]
theorem ltL_trans : ∀ a b c,ltL a b = true -> ltL b c = true -> ltL a c = true
 | _,[],_,h,_=>by simp [ltL] at h
 | _,_ :: _,[],_,h=>by simp [ltL] at h
 | [],_ :: _,_ :: _,_,_=>by simp [ltL]
 | x :: xs,y :: ys,z :: zs,h1,h2=>by
  simp only [ltL] at h1 h2 ⊢
  split at h1
  ·rename_i e; subst e
   split at h2
   ·rename_i e; subst e; simp only [if_true]; exact ltL_trans xs ys zs h1 h2
   ·rename_i e; rw [if_neg e]; exact h2
  ·rename_i e
   split at h2
   ·rename_i e2; subst e2; rw [if_neg e]; exact h1
   ·have a1 : x < y:=by simpa using h1
    have a2 : y < z:=by simpa using h2
    rw [if_neg (by omega)]; simp; omega
theorem ltL_total : ∀ a b,ltL a b = false -> ltL b a = false -> a = b
 | [],[],_,_=>rfl
 | [],_ :: _,h,_=>by simp [ltL] at h
 | _ :: _,[],_,h=>by simp [ltL] at h
 | x :: xs,y :: ys,h1,h2=>by
  simp only [ltL] at h1 h2
  by_cases e : x = y
  ·subst e
   simp only [if_true] at h1 h2
   rw [ltL_total xs ys h1 h2]
  ·rw [if_neg e] at h1
   rw [if_neg (fun q=>e q.symm)] at h2
   simp at h1 h2; omega
noncomputable def rankL (ks : List (List Int)) (i : Nat) : Nat:=(ks.filter fun k=>ltL k (ks.getD i [])).length
theorem dP {α : Type} {p q : α -> Bool} (h : ∀ x,p x = true -> q x = true) : ∀ l : List α,(l.filter p).length ≤ (l.filter q).length
 | []=>Nat.le_refl _
 | x :: l=>by
  have:=dP h l
  rw [List.filter_cons,List.filter_cons]
  cases hp : p x with
  | true=>rw [h x hp]; simpa using this
  | false=>cases hq : q x <;> simp <;> omega
theorem fL {α : Type} {p q : α -> Bool} (h : ∀ x,p x = true -> q x = true) : ∀ l : List α,(∃ x ∈ l,q x = true /\ p x = false) -> (l.filter p).length < (l.filter q).length
 | [],hx=>by obtain ⟨x,m,_⟩:=hx; simp at m
 | y :: l,hx=>by
  refine bq hx fun x m hq hp=>?_
  rw [List.filter_cons,List.filter_cons]
  rcases List.mem_cons.mp m with e | e
  ·subst e
   rw [hq,hp]
   have:=dP h l
   simp; omega
  ·have:=fL h l ⟨x,e,hq,hp⟩
   cases hpy : p y with
   | true=>rw [h y hpy]; simpa using this
   | false=>cases hqy : q y <;> simp <;> omega
theorem jY {ks : List (List Int)} {i j : Nat} (hi : i < ks.length) (hj : j < ks.length) : ltL (ks.getD i []) (ks.getD j []) = decide (rankL ks i < rankL ks j):=by
 cases h : ltL (ks.getD i []) (ks.getD j []) with
 | true =>
  symm
  refine decide_eq_true (fL (fun x hx=>ltL_trans _ _ _ hx h) ks ⟨ks.getD i [],?_,h,ltL_irrefl _⟩)
  rw [List.getD_eq_getElem?_getD,List.getElem?_eq_getElem hi]; exact List.getElem_mem hi
 | false =>
  symm
  refine decide_eq_false (Nat.not_lt.mpr ?_)
  cases h2 : ltL (ks.getD j []) (ks.getD i []) with
  | true=>exact dP (fun x hx=>ltL_trans _ _ _ hx h2) ks
  | false=>unfold rankL; rw [ltL_total _ _ h h2]; exact Nat.le_refl _
theorem dO (x : List Int) : ∀ l,(insK x l).Perm (x :: l)
 | []=>.refl _
 | y :: r=>by
  unfold insK; split
  ·exact ((dO x r).cons y).trans (.swap _ _ _)
  ·exact .refl _
noncomputable abbrev leK (a b : List Int) : Prop:=ltL b a = false
theorem lA {a b : List Int} (h : ltL a b = true) : leK a b:=by
 unfold leK
 cases h2 : ltL b a with
 | false=>rfl
 | true=>have:=ltL_trans _ _ _ h h2; rw [ltL_irrefl] at this; cases this
theorem lz {a b c : List Int} (h1 : leK a b) (h2 : leK b c) : leK a c:=by
 unfold leK at *
 cases h : ltL c a with
 | false=>rfl
 | true =>
  cases h3 : ltL a b with
  | true=>have:=ltL_trans _ _ _ h h3; rw [h2] at this; cases this
  | false=>rw [ltL_total a b h3 h1] at h; rw [h2] at h; cases h
theorem ed (x : List Int) : ∀ l : List (List Int),l.Pairwise leK -> (insK x l).Pairwise leK
 | [],_=>by simp [insK]
 | y :: r,h=>by
  have h':=List.pairwise_cons.mp h
  unfold insK; split
  ·rename_i hl
   refine List.pairwise_cons.mpr ⟨fun z hz=>?_,ed x r h'.2⟩
   rcases List.mem_cons.mp ((dO x r).mem_iff.mp hz) with rfl | q
   ·exact lA hl
   ·exact h'.1 z q
  ·rename_i hl
   have hxy : leK x y:=by simpa using hl
   refine List.pairwise_cons.mpr ⟨fun z hz=>?_,h⟩
   rcases List.mem_cons.mp hz with rfl | q
   ·exact hxy
   ·exact lz hxy (h'.1 z q)
theorem sortK_perm : ∀ l,(sortK l).Perm l
 | []=>.refl _
 | x :: r=>(dO x _).trans ((sortK_perm r).cons x)
theorem sortK_sorted : ∀ l,(sortK l).Pairwise leK
 | []=>.nil
 | x :: r=>ed x _ (sortK_sorted r)
theorem j8 {l k : List (List Int)} (p : k.Perm l) (h : k.Pairwise leK) : k = sortK l :=
 (p.trans (sortK_perm l).symm).eq_of_pairwise (le:=leK) (fun a b uw uw h1 h2=>ltL_total a b h2 h1) h (sortK_sorted l)
theorem jd {N : Nat} {p : Array Nat} {ks : List (List Int)} (hN : ks.length = N) (e : Ent N p) (u : Up (rankL ks) p N) : p.toList.map (fun i=>ks.getD i []) = sortK ks:=by
 refine j8 ?_ ?_
 ·refine (e.perm.map _).trans ?_
  have : (List.range N).map (fun i=>ks.getD i []) = ks:=by
   subst hN
   apply List.ext_getElem?
   intro i
   rw [List.getElem?_map]
   by_cases hi : i < ks.length
   ·simp [hi]
   ·simp [hi]
  rw [this]
 ·rw [List.pairwise_iff_getElem]
  intro i j hi hj hij
  rw [List.length_map,Array.length_toList,e.size] at hi hj
  have ei : ∀ i (h : i < N),p.getD i 0 = p[i]'(by rw [e.size]; exact h):=fun i h=>by simp [Array.getD,e.size,h]
  have:=u i j (by lia) hj
  unfold vl at this
  have l1:=e.lt i
  have l2:=e.lt j
  simp only [List.getElem_map,Array.getElem_toList]
  rw [<- ei i hi,<- ei j hj]
  unfold leK
  rw [jY (by lia) (by lia)]
  exact decide_eq_false (by lia)
theorem Inc.ext : ∀ {a b : List Int},a.Pairwise (· < ·) -> b.Pairwise (· < ·) -> (∀ i,i ∈ a ↔ i ∈ b) -> a = b
 | [],[],_,_,_=>rfl
 | [],y :: b,_,_,h=>absurd ((h y).mpr (List.mem_cons_self)) (by simp)
 | x :: a,[],_,_,h=>absurd ((h x).mp (List.mem_cons_self)) (by simp)
 | x :: a,y :: b,ha,hb,h=>by
  rw [List.pairwise_cons] at ha hb
  have e : x = y:=by
   rcases List.mem_cons.mp ((h x).mp List.mem_cons_self) with p | p
   ·exact p
   ·rcases List.mem_cons.mp ((h y).mpr List.mem_cons_self) with q | q
    ·exact q.symm
    ·have:=hb.1 x p; have:=ha.1 y q; lia
  subst e
  rw [Inc.ext ha.2 hb.2 fun i=>⟨fun m=>?_,fun m=>?_⟩]
  ·rcases List.mem_cons.mp ((h i).mp (List.mem_cons_of_mem _ m)) with p | p
   ·have:=ha.1 i m; lia
   ·exact p
  ·rcases List.mem_cons.mp ((h i).mpr (List.mem_cons_of_mem _ m)) with p | p
   ·have:=hb.1 i m; lia
   ·exact p
theorem mem_insI (x i : Int) : ∀ xs : List Int,i ∈ insI x xs ↔ i = x \/ i ∈ xs
 | []=>by simp [insI]
 | y :: r=>by
  unfold insI
  split
  ·simp
  ·split
   ·rename_i e; subst e; simp
   ·rw [List.mem_cons,mem_insI x i r,List.mem_cons]
    constructor
    ·rintro (a | a | a)
     ·exact .inr (.inl a)
     ·exact .inl a
     ·exact .inr (.inr a)
    ·rintro (a | a | a)
     ·exact .inr (.inl a)
     ·exact .inl a
     ·exact .inr (.inr a)
theorem eP (x : Int) : ∀ xs : List Int,xs.Pairwise (· < ·) -> (insI x xs).Pairwise (· < ·)
 | [],_=>by simp [insI]
 | y :: r,h=>by
  have h':=List.pairwise_cons.mp h
  unfold insI
  split
  ·rename_i l
   refine List.pairwise_cons.mpr ⟨fun z hz=>?_,h⟩
   rcases List.mem_cons.mp hz with rfl | q
   ·exact l
   ·have:=h'.1 z q; lia
  ·split
   ·exact h
   ·rename_i a b
    refine List.pairwise_cons.mpr ⟨fun z hz=>?_,eP x r h'.2⟩
    rcases (mem_insI x z r).mp hz with rfl | q
    ·lia
    ·exact h'.1 z q
theorem mem_sortI (i : Int) : ∀ xs : List Int,i ∈ sortI xs ↔ i ∈ xs
 | []=>by simp [sortI]
 | x :: r=>by
  show i ∈ insI x (sortI r) ↔ _
  rw [mem_insI,mem_sortI i r,List.mem_cons]
theorem inc_sortI : ∀ xs : List Int,(sortI xs).Pairwise (· < ·)
 | []=>by simp [sortI]
 | x :: r=>eP x _ (inc_sortI r)
theorem Sm.nil : Sm []:=⟨.nil,fun uw h=>by simp at h⟩
theorem Sm.ins {xs : List Int} {x : Int} (h : Sm xs) (l : 0 ≤ x /\ x ≤ 6) : Sm (insI x xs) :=
 ⟨eP x xs h.inc,fun i m=>by rcases (mem_insI x i xs).mp m with rfl | q; exact l; exact h.lo i q⟩
theorem Sm.sort {xs : List Int} (h : ∀ i ∈ xs,0 ≤ i /\ i ≤ 6) : Sm (sortI xs):=⟨inc_sortI xs,fun i m=>h i ((mem_sortI i xs).mp m)⟩
theorem Sm.ext {a b : List Int} (ha : Sm a) (hb : Sm b) (h : ∀ i,i ∈ a ↔ i ∈ b) : a = b:=Inc.ext ha.inc hb.inc h
noncomputable def subsI : List Int -> List (List Int)
 | []=>[[]]
 | x :: r=>subsI r ++ (subsI r).map (x :: ·)
theorem nil_subsI : ∀ l,[] ∈ subsI l
 | []=>by simp [subsI]
 | x :: r=>by simp [subsI,nil_subsI r]
theorem mem_subsI : ∀ (l : List Int),l.Pairwise (· < ·) -> ∀ xs : List Int,xs.Pairwise (· < ·) -> (∀ i ∈ xs,i ∈ l) -> xs ∈ subsI l
 | _,_,[],_,_=>nil_subsI _
 | [],_,y :: r,_,h=>absurd (h y List.mem_cons_self) (by simp)
 | x :: l,hl,y :: r,hr,h=>by
  have hl':=List.pairwise_cons.mp hl
  have hr':=List.pairwise_cons.mp hr
  by_cases e : y = x
  ·subst e
   refine List.mem_append_right _ (List.mem_map.mpr ⟨r,mem_subsI l hl'.2 r hr'.2 fun i m=>?_,rfl⟩)
   rcases List.mem_cons.mp (h i (List.mem_cons_of_mem _ m)) with p | p
   ·have:=hr'.1 i m; lia
   ·exact p
  ·refine List.mem_append_left _ (mem_subsI l hl'.2 (y :: r) hr fun i m=>?_)
   have hy : y ∈ l:=by rcases List.mem_cons.mp (h y List.mem_cons_self) with p | p; exact absurd p e; exact p
   rcases List.mem_cons.mp (h i m) with p | p
   ·have:=hl'.1 y hy
    rcases List.mem_cons.mp m with q | q
    ·exact absurd (q.symm.trans p) e
    ·have:=hr'.1 i q; lia
   ·exact p
noncomputable def allS : List (List Int):=subsI [0,1,2,3,4,5,6]
theorem cW {i : Int} (h : 0 ≤ i /\ i ≤ 6) : i ∈ [0,1,2,3,4,5,(6 : Int)]:=by
 obtain ⟨n,e⟩:=Int.eq_ofNat_of_zero_le h.1
 subst e
 exact (by decide : ∀ n : Nat,n < 7 -> (n : Int) ∈ [0,1,2,3,4,5,(6 : Int)]) n (Nat.lt_succ_of_le (Int.ofNat_le.mp h.2))
theorem Sm.enum {xs : List Int} (h : Sm xs) : xs ∈ allS:=mem_subsI _ (by decide) xs h.inc fun i m=>cW (h.lo i m)
noncomputable def liveOf (mask : Nat) (owner : Array (Option Nat)) : List (Nat × Nat):=(List.range (mask + 1)).filterMap fun j=>(owner.getD j none).map (j,·)
set_option maxRecDepth 100000 in
theorem lay_facts : ∀ xs ∈ allS,∀ m ∈ [7,15,31],(SetTable.layClean m xs.toArray).map (fun o=>((liveOf m o).map (·.1),(liveOf m o).map (·.2))) = some (xs.map Int.toNat,List.range xs.length):=by decide +kernel
set_option maxRecDepth 100000 in
theorem put_facts : ∀ xs ∈ allS,∀ i ∈ [0,1,2,3,4,5,(6 : Int)],i ∉ xs -> (xs.map Int.toNat).toArray[SetTable.below (xs.map Int.toNat).toArray i.toNat]? ≠ some i.toNat /\
  xs.take (SetTable.below (xs.map Int.toNat).toArray i.toNat) ++ i :: xs.drop (SetTable.below (xs.map Int.toNat).toArray i.toNat) = insI i xs:=by decide +kernel
set_option maxRecDepth 100000 in
theorem next_facts : ∀ xs ∈ allS,∀ k ∈ List.range 8,k ≤ xs.length -> SetTable.below (xs.map Int.toNat).toArray (if k = 0 then 0 else (xs.getD (k - 1) 0).toNat + 1) = k:=by decide +kernel
theorem hash_facts : ∀ i ∈ [0,1,2,3,4,5,(6 : Int)],hashInt i = i:=by decide +kernel
theorem len_facts : ∀ xs ∈ allS,xs.length ≤ 7:=by decide +kernel
theorem iC {xs : List Int} (h : Sm xs) {m : Nat} (hm : m = 7 \/ m = 15 \/ m = 31) (fg mv : Nat) (led pl : Bool) :
  SetTable.laid m fg mv led pl xs.toArray = some (⟨m,(xs.map Int.toNat).toArray,#[],fg,led,mv,pl⟩,(List.range xs.length).toArray):=by
 have f:=lay_facts xs h.enum m (by rcases hm with rfl | rfl | rfl <;> decide)
 unfold SetTable.laid
 cases e : SetTable.layClean m xs.toArray with
 | none=>rw [e] at f; cases f
 | some o =>
  rw [e] at f
  simp only [Option.map_some,Option.some.injEq,Prod.mk.injEq] at f
  show some (_,_) = _
  rw [<- f.1,<- f.2]
  rfl
section
variable {C : Cx} {es : Array (Int × Value)} {t : SetTable} {xs : List Int}
theorem SetBody.size (b : SetBody C es t xs) : es.size = xs.length:=by rw [<- b.hs]; simp
theorem SetBody.fits (b : SetBody C es t xs) : t.fits es.size = true:=by
 obtain ⟨m,mv,led,rfl,hm,_⟩:=b.tab
 have:=len_facts xs b.sm.enum
 rw [b.size]
 simp [SetTable.fits,SetTable.fill,ownTable]
 lia
theorem SetBody.low (b : SetBody C es t xs) : es.size < scanBound:=by
 have:=len_facts xs b.sm.enum
 rw [b.size]; unfold scanBound; lia
theorem SetBody.el (b : SetBody C es t xs) {e : Int × Value} (h : e ∈ es.toList) : ∃ tk,e = (e.1,Value.int e.1 tk) /\ e.1 ∈ xs /\ 0 ≤ e.1 /\ e.1 ≤ 6:=by
 obtain ⟨tk,q⟩:=b.vs e h
 have m : e.1 ∈ xs:=by rw [<- b.hs]; exact List.mem_map.mpr ⟨e,h,rfl⟩
 exact ⟨tk,by rw [<- q],m,b.sm.lo _ m⟩
theorem SetBody.elems (b : SetBody C es t xs) : ElemsOf (intKind C.prog C.w) es.toList:=fun e h=>by
 refine bq (b.el h) fun tk q m l=>?_
 have hh:=hash_facts e.1 (cW l)
 refine ⟨⟨e.1,by rw [q]; exact intKind_is _ _ _ _,?_⟩,by rw [q]; rfl⟩
 exact hh.symm
theorem SetBody.isAt (b : SetBody C es t xs) {e : Int × Value} (h : e ∈ es.toList) (i : Int) : (intKind C.prog C.w).is i e.2 = decide (i = e.1):=by
 refine bq (b.el h) fun tk q m l=>?_
 refine KeyKind.is_eq_decide (k:=e.1) ?_ i
 rw [q]; exact intKind_is _ _ _ _
theorem SetBody.find_none (b : SetBody C es t xs) {i : Int} (n : i ∉ xs) : es.toList.findIdx? (fun e=>(intKind C.prog C.w).is i e.2) = none:=by
 refine List.findIdx?_eq_none_iff.mpr fun e h=>?_
 rw [b.isAt h]
 refine bq (b.el h) fun tk q m l=>?_
 exact decide_eq_false fun z=>n (z ▸ m)
theorem SetBody.find_some (b : SetBody C es t xs) {i : Int} (n : i ∈ xs) : ∃ j,es.toList.findIdx? (fun e=>(intKind C.prog C.w).is i e.2) = some j:=by
 cases hr : es.toList.findIdx? (fun e=>(intKind C.prog C.w).is i e.2) with
 | some j=>exact ⟨j,rfl⟩
 | none =>
  rw [<- b.hs] at n
  refine aw (List.mem_map.mp n) fun e he q=>?_
  have:=List.findIdx?_eq_none_iff.mp hr e he
  rw [b.isAt he] at this
  simp [q] at this
theorem nP {t : SetTable} {g : Nat -> Int} {i : Int} {f : Nat} {p : SetTable.Probe} (h : t.slot p.j = .empty) : SetTable.probe.go t g i (f + 1) p = some (.empty p.j p.dummy):=by
 have e : SetTable.probe.go t g i (f + 1) p = (match t.slot p.j with
  | .empty=>some (.empty p.j p.dummy)
  | .dummy=>SetTable.probe.go t g i f (t.advance { p with dummy:=some p.j })
  | .live i'=>if g i' == i then some (.candidate p.j i' (t.advance p)) else SetTable.probe.go t g i f (t.advance p)):=rfl
 rw [e,h]
theorem gK {m mv : Nat} {led : Bool} {i : Int} (hm : m = 7 \/ m = 15 \/ m = 31) (hx : Sm xs) (hi : 0 ≤ i /\ i ≤ 6) (n : i ∉ xs) : (ownTable m mv led xs).freeSlot i = some (i.toNat,false):=by
 have f:=(put_facts xs hx.enum i (cW hi) n).1
 have hb : SetTable.bits i = i.toNat:=by unfold SetTable.bits; rw [Int.emod_eq_of_lt hi.1 (by lia)]
 have hj : SetTable.bits i % (m + 1) = i.toNat:=by rw [hb]; exact Nat.mod_eq_of_lt (by lia)
 have hs : (ownTable m mv led xs).slot i.toNat = .empty:=by
  unfold SetTable.slot ownTable
  dsimp only
  rw [if_neg (by simpa using f)]
  rw [if_neg (by delta SetTable.has SetTable.below; simp)]
 unfold SetTable.freeSlot SetTable.probe SetTable.turns
 have e : 10 * ((ownTable m mv led xs).mask + 15) = (10 * (m + 15) - 1) + 1:=by show 10 * (m + 15) = _; lia
 rw [e]
 have hp : ((ownTable m mv led xs).probeStart i).j = i.toNat:=hj
 rw [nP (by rw [hp]; exact hs),hp]
 rfl
theorem jo {m mv : Nat} {led : Bool} {i : Int} (x : Value) (hm : m = 7 \/ m = 15 \/ m = 31) (hx : Sm xs) (hz : es.size = xs.length) (hi : 0 ≤ i /\ i ≤ 6) (n : i ∉ xs) :
  layNew (ownTable m mv led xs) es i x = (SetTable.insertAt es (SetTable.below (xs.map Int.toNat).toArray i.toNat) (i,x),ownTable m mv led (insI i xs),false,false):=by
 have f:=(put_facts xs hx.enum i (cW hi) n).2
 have hl:=len_facts _ (hx.ins hi).enum
 unfold layNew
 rw [gK hm hx hi n]
 have e1 : ((ownTable m mv led xs).put i.toNat).1 = ownTable m mv led (insI i xs):=by
  unfold SetTable.put ownTable
  dsimp only
  have e2 : SetTable.insertAt (xs.map Int.toNat).toArray (SetTable.below (xs.map Int.toNat).toArray i.toNat) i.toNat = ((insI i xs).map Int.toNat).toArray:=by
   apply Array.toList_inj.mp
   rw [SetTable.toList_insertAt,<- f]
   simp
  rw [e2]
  delta SetTable.has SetTable.below
  simp
 have e3 : (SetTable.insertAt es (SetTable.below (xs.map Int.toNat).toArray i.toNat) (i,x)).size = (insI i xs).length:=by
  rw [<- Array.length_toList,SetTable.toList_insertAt,<- f]
  simp [hz]
 have e4 : (ownTable m mv led (insI i xs)).fits (insI i xs).length = true:=by
  simp [SetTable.fits,SetTable.fill,ownTable]; lia
 show (SetTable.insertAt es ((ownTable m mv led xs).put i.toNat).2 (i,x),((ownTable m mv led xs).put i.toNat).1.orStandIn (SetTable.insertAt es ((ownTable m mv led xs).put i.toNat).2 (i,x)).size,false,!((ownTable m mv led xs).put i.toNat).1.fits (SetTable.insertAt es ((ownTable m mv led xs).put i.toNat).2 (i,x)).size) = _
 rw [e1,show ((ownTable m mv led xs).put i.toNat).2 = SetTable.below (xs.map Int.toNat).toArray i.toNat from rfl,e3]
 unfold SetTable.orStandIn
 rw [e4]
 rfl
theorem iO {m mv : Nat} {led : Bool} {i : Int} {tk : Tok} (b : SetBody C es (ownTable m mv led xs) xs) (hm : m = 7 \/ m = 15 \/ m = 31) (hl : led = true \/ C.w.params.followText "set-order" = true) (hi : 0 ≤ i /\ i ≤ 6) (n : i ∉ xs) {m' mv' : Nat} (hm' : m' = 7 \/ m' = 15 \/ m' = 31) :
  SetBody C (SetTable.insertAt es (SetTable.below (xs.map Int.toNat).toArray i.toNat) (i,Value.int i tk)) (ownTable m' mv' led (insI i xs)) (insI i xs):=by
 have f:=(put_facts xs b.sm.enum i (cW hi) n).2
 refine ⟨?_,fun e h=>?_,⟨m',mv',led,rfl,hm',hl⟩,b.sm.ins hi⟩
 ·rw [SetTable.toList_insertAt,<- f,List.map_append,List.map_cons,List.map_take,List.map_drop,b.hs]
 ·rw [SetTable.toList_insertAt] at h
  rcases List.mem_append.mp h with q | q
  ·exact b.vs e (List.mem_of_mem_take q)
  ·rcases List.mem_cons.mp q with rfl | q
   ·exact ⟨tk,rfl⟩
   ·exact b.vs e (List.mem_of_mem_drop q)
theorem cn {α : Type} (es : Array α) : (List.range es.size).toArray.filterMap (es[·]?) = es:=by
 apply Array.toList_inj.mp
 rw [Array.toList_filterMap]
 exact filterMap_getElem?_range es
theorem fE {m mv : Nat} {led : Bool} (b : SetBody C es (ownTable m mv led xs) xs) {wanted : Nat} (hw : wanted ≤ 28) :
  (ownTable m mv led xs).relaid (es.map (·.1)) wanted = some (ownTable (SetTable.sizeAbove wanted - 1) ((ownTable m mv led xs).movedTo (SetTable.sizeAbove wanted - 1)) led xs,(List.range xs.length).toArray):=by
 have hz : ∀ n ∈ List.range 29,SetTable.sizeAbove n - 1 = 7 \/ SetTable.sizeAbove n - 1 = 15 \/ SetTable.sizeAbove n - 1 = 31:=by decide +kernel
 unfold SetTable.relaid
 have e : es.map (·.1) = xs.toArray:=by
  apply Array.toList_inj.mp
  rw [Array.toList_map,b.hs]
 rw [e,iC b.sm (hz wanted (List.mem_range.mpr (by lia)))]
 rfl
theorem g7 {m mv : Nat} {led : Bool} (b : SetBody C es (ownTable m mv led xs) xs) {wanted : Nat} (hw : wanted ≤ 28) :
  ∃ m' mv',relayAll (ownTable m mv led xs) es wanted = (es,ownTable m' mv' led xs,false) /\ (m' = 7 \/ m' = 15 \/ m' = 31):=by
 have hz : ∀ n ∈ List.range 29,SetTable.sizeAbove n - 1 = 7 \/ SetTable.sizeAbove n - 1 = 15 \/ SetTable.sizeAbove n - 1 = 31:=by decide +kernel
 have hm':=hz wanted (List.mem_range.mpr (by lia))
 refine ⟨_,(ownTable m mv led xs).movedTo (SetTable.sizeAbove wanted - 1),?_,hm'⟩
 unfold relayAll
 rw [fE b hw]
 dsimp only
 have e1 : (List.range xs.length).toArray.filterMap (es[·]?) = es:=by rw [<- b.size]; exact cn es
 rw [e1]
 have hl:=len_facts _ b.sm.enum
 have e4 : (ownTable (SetTable.sizeAbove wanted - 1) ((ownTable m mv led xs).movedTo (SetTable.sizeAbove wanted - 1)) led xs).fits es.size = true:=by
  rw [b.size]
  simp [SetTable.fits,SetTable.fill,ownTable]; lia
 have e5 : coversAll (List.range xs.length).toArray es.size = true:=by
  unfold coversAll
  rw [b.size]
  simp [List.isPerm_iff]
 rw [e4,e5]
 rfl
end
section
variable {C : Cx} {A : Around} {E : Value -> Shared -> Prop} {s : Shared} {a : Addr} {cls : String} {xs : List Int}
theorem bW {h : Heap} {es es' : Array (Int × Value)} {ep : Nat} {t t' : SetTable} (g : h.get? a = some ⟨.type cls,none,.set es ep t,#[]⟩) (xs' : List Int) (b : SetBody C es' t' xs') :
  (h.update a (Obj.putSet es' t')).get? a = some ⟨.type cls,none,.set es' (ep + 1) t',#[]⟩ /\ SetAt C (h.update a (Obj.putSet es' t')) cls a xs':=by
 have hg : (h.update a (Obj.putSet es' t')).get? a = some ⟨.type cls,none,.set es' (ep + 1) t',#[]⟩:=by
  have:=Heap.get?_update_self (Obj.putSet es' t') g (by rw [putSet_of es' t' rfl]; rfl)
  rw [putSet_of es' t' rfl] at this; exact this
 exact ⟨hg,_,_,_,hg,b⟩
theorem qx {i : Int} {tk : Tok} {adding : Bool} {es : Array (Int × Value)} {ep : Nat} {t : SetTable} {Q : ScanMet -> Shared -> Prop} (ho : s.heap.get? a = some ⟨.type cls,none,.set es ep t,#[]⟩) (b : SetBody C es t xs) (hi : 0 ≤ i /\ i ≤ 6)
  (h : Q (match es.toList.findIdx? (fun e=>(intKind C.prog C.w).is i e.2) with | some j=>.found (0 + j) | none=>.absent) s) : wpAny (model C.prog C.w) A (setScan a (.int i tk) i adding es) Q E s:=by
 have hh : (intKind C.prog C.w).hash i = i:=hash_facts i (cW hi)
 have:=wpAny_setScan_of (E:=E) (A:=A) (knd:=intKind C.prog C.w) (k:=i) (x:=Value.int i tk) (adding:=adding) (intKind_is _ _ _ _) ho rfl b.fits b.elems h
 rw [hh] at this
 exact this
theorem sO {i : Int} {tk : Tok} {Q : Bool -> Shared -> Prop} (hS : SetAt C s.heap cls a xs) (hi : 0 ≤ i /\ i ≤ 6)
  (h : ∀ h',Heap.SameBut a s.heap h' -> SetAt C h' cls a (insI i xs) -> Q (!decide (i ∈ xs)) { s with heap:=h' }) :
  wpAny (model C.prog C.w) A (setAddHashed a (.int i tk) i) Q E s:=by
 refine av hS fun es ep t ho b=>?_
 obtain ⟨m,mv,led,rfl,hm,hl⟩:=b.tab
 unfold setAddHashed setAddHashedIn
 refine wpAny_holding (wpAny_bind (wpAny_setState_of ho rfl b.fits ?_))
 dsimp only
 rw [byScan_of (knd:=intKind C.prog C.w) rfl b.low b.elems]
 simp only [↓reduceIte]
 unfold setAddByScan
 refine wpAny_bind ?_
 refine wpAny_bind (wpAny_rule ?_)
 refine wpAny_bind (qx ho b hi ?_)
 by_cases n : i ∈ xs
 ·obtain ⟨j,hj⟩:=b.find_some n
  rw [hj]
  dsimp only
  refine wpAny_pure (wpAny_pure ?_)
  have e : insI i xs = xs:=Sm.ext (b.sm.ins hi) b.sm fun k=>by rw [mem_insI]; exact ⟨fun q=>q.elim (fun z=>z ▸ n) id,.inr⟩
  have:=h s.heap (Heap.SameBut.refl a s.heap) (by rw [e]; exact ⟨es,ep,_,ho,b⟩)
  simpa [n] using this
 ·rw [b.find_none n]
  dsimp only
  rw [jo _ hm b.sm b.size hi n]
  dsimp only
  refine wpAny_bind (wpAny_pure ?_)
  have b':=iO (tk:=tk) b hm hl hi n hm (mv':=mv)
  rw [hashByValue_scannable 8 (x:=Value.int i tk) rfl]
  have hpl : (ownTable m mv led (insI i xs)).plain = true:=rfl
  refine bH hpl ?_
  refine wpAny_bind (wpAny_pure ?_)
  simp only [show plainKind (Value.int i tk) = true from rfl,if_true,Bool.not_false,Bool.true_and]
  refine wpAny_bind (wpAny_storeSet_of ho rfl ?_ (fits_of_scanBound b'.low))
  obtain ⟨ho1,hS1⟩:=bW ho _ b'
  have hsb1:=Heap.SameBut.update s.heap a (Obj.putSet (SetTable.insertAt es (SetTable.below (xs.map Int.toNat).toArray i.toNat) (i,Value.int i tk)) (ownTable m mv led (insI i xs)))
  have hd : (!decide (i ∈ xs)) = true:=by simp [n]
  rw [hd] at h
  split
  ·have hl7:=len_facts _ b'.sm.enum
   have hw : SetTable.grown (SetTable.insertAt es (SetTable.below (xs.map Int.toNat).toArray i.toNat) (i,Value.int i tk)).size ≤ 28:=by
    rw [b'.size]; unfold SetTable.grown; split <;> lia
   refine eJ (g7 b' hw) fun m' mv' e hm'=>?_
   have b2:=iO (tk:=tk) b hm hl hi n hm' (mv':=mv')
   rw [e]
   dsimp only
   refine wpAny_bind (wpAny_pure ?_)
   refine wpAny_bind (wpAny_storeSet_of ho1 rfl ?_ (fits_of_scanBound b2.low))
   refine wpAny_pure (wpAny_pure ?_)
   obtain ⟨_,hS2⟩:=bW ho1 _ b2
   exact h _ (hsb1.trans (Heap.SameBut.update _ a _)) hS2
  ·exact wpAny_pure (wpAny_pure (h _ hsb1 hS1))
theorem qL {i : Int} {tk : Tok} {Q : Option Nat -> Shared -> Prop} (hS : SetAt C s.heap cls a xs) (hi : 0 ≤ i /\ i ≤ 6) (h : ∀ r : Option Nat,r.isSome = decide (i ∈ xs) -> Q r s) :
  wpAny (model C.prog C.w) A (setFind a (.int i tk) i) Q E s:=by
 refine av hS fun es ep t ho b=>?_
 unfold setFind setFindIn
 refine wpAny_bind (wpAny_setState_of ho rfl b.fits ?_)
 dsimp only
 rw [byScan_of (knd:=intKind C.prog C.w) rfl b.low b.elems]
 simp only [↓reduceIte]
 refine wpAny_bind (wpAny_rule ?_)
 refine wpAny_bind (qx ho b hi ?_)
 by_cases n : i ∈ xs
 ·obtain ⟨j,hj⟩:=b.find_some n
  rw [hj]
  exact wpAny_pure (h _ (by simp [n]))
 ·rw [b.find_none n]
  exact wpAny_pure (h _ (by simp [n]))
theorem cR {α : Type} : ∀ (l : List α) (i : Nat) (x : α),l[i]? = some x -> List.Perm (x :: l.eraseIdx i) l
 | [],_,_,h=>by simp at h
 | y :: l,0,x,h=>by simp at h; subst h; exact .refl _
 | y :: l,i + 1,x,h=>by
  rw [List.getElem?_cons_succ] at h
  rw [List.eraseIdx_cons_succ]
  exact (List.Perm.swap _ _ _).trans ((cR l i x h).cons y)
theorem dU {α : Type} (next : Nat -> Nat) : ∀ (f k : Nat) (l : List α) (out : Array α),l.length = f -> List.Perm (pickOrder.go next f k l out).toList (out.toList ++ l)
 | 0,k,l,out,h=>by
  have : l = []:=List.length_eq_zero_iff.mp h
  subst this
  show List.Perm out.toList (out.toList ++ [])
  rw [List.append_nil]
 | f + 1,k,l,out,h=>by
  have e : pickOrder.go next (f + 1) k l out = (match l[next k % l.length]? with
   | some x=>pickOrder.go next f (k + 1) (l.eraseIdx (next k % l.length)) (out.push x)
   | none=>out):=rfl
  have hk : next k % l.length < l.length:=Nat.mod_lt _ (by lia)
  rw [e,List.getElem?_eq_getElem hk]
  refine (dU next f (k + 1) _ _ (by rw [List.length_eraseIdx]; simp [hk]; lia)).trans ?_
  rw [Array.toList_push,List.append_assoc]
  exact List.Perm.append_left _ (cR l _ _ (List.getElem?_eq_getElem hk))
theorem dL {α : Type} (next : Nat -> Nat) (es : Array α) : List.Perm (pickOrder next es).toList es.toList:=by
 have:=dU next es.size 0 es.toList #[] (by simp)
 show List.Perm (pickOrder.go next es.size 0 es.toList #[]).toList es.toList
 simpa using this
theorem sT {Q : Array (Int × Value) -> Shared -> Prop} (hS : SetAt C s.heap cls a xs)
  (h : ∀ ws : Array (Int × Value),(∀ e ∈ ws.toList,∃ tk,e = (e.1,Value.int e.1 tk) /\ 0 ≤ e.1 /\ e.1 ≤ 6) -> (ws.toList.map (·.1)).Perm xs -> Q ws s) :
  wpAny (model C.prog C.w) A (setWalk a) Q E s:=by
 refine av hS fun es ep t ho b=>?_
 have hel : ∀ e ∈ es.toList,∃ tk,e = (e.1,Value.int e.1 tk) /\ 0 ≤ e.1 /\ e.1 ≤ 6:=fun e he=>let ⟨tk,q,_,l⟩:=b.el he; ⟨tk,q,l⟩
 obtain ⟨m,mv,led,rfl,hm,hl⟩:=b.tab
 unfold setWalk setsByText
 refine wpAny_bind (wpAny_setState_of ho rfl b.fits ?_)
 refine wpAny_bind (wpAny_bind (wpAny_askSetting (wpAny_pure ?_)))
 show wpAny _ _ (if C.w.params.followText "set-order" = true then _ else _) _ _ _
 by_cases hb : C.w.params.followText "set-order" = true
 ·refine bH hb ?_
  refine wpAny_bind (wpAny_askSetting (wpAny_pure (h _ (fun e he=>hel e ((dL _ es).mem_iff.mp he)) ?_)))
  rw [<- b.hs]
  exact (dL _ es).map _
 ·refine aq hb ?_
  have hl' : led = true:=hl.resolve_right hb
  subst hl'
  refine wpAny_pure (h _ hel (by rw [b.hs]))
theorem fT {others : List Addr} {filled : Option Addr} {Q : Array (Int × Value) -> Shared -> Prop} (hS : SetAt C s.heap cls a xs)
  (h : ∀ ws : Array (Int × Value),(∀ e ∈ ws.toList,∃ tk,e = (e.1,Value.int e.1 tk) /\ 0 ≤ e.1 /\ e.1 ≤ 6) -> (ws.toList.map (·.1)).Perm xs -> Q ws s) :
  wpAny (model C.prog C.w) A (setWalkUnseen a others filled) Q E s:=by
 have hw:=sT (A:=A) (E:=E) (Q:=Q) hS h
 refine av hS fun es ep t ho b=>?_
 obtain ⟨m,mv,led,rfl,hm,hl⟩:=b.tab
 unfold setWalkUnseen setsByText
 refine wpAny_bind (wpAny_setState_of ho rfl b.fits ?_)
 refine wpAny_bind (wpAny_bind (wpAny_askSetting (wpAny_pure ?_)))
 dsimp only
 have hc : (C.w.params.followText "set-order" || ((ownTable m mv led xs).led && (ownTable m mv led xs).plain) || decide (es.size ≤ 1)) = true:=by rcases hl with rfl | q <;> simp [ownTable, *]
 show wpAny _ _ (if (C.w.params.followText "set-order" || ((ownTable m mv led xs).led && (ownTable m mv led xs).plain) || decide (es.size ≤ 1)) = true then _ else _) _ _ _
 refine bH hc ?_
 exact hw
end
section
variable {C : Cx} {A : Around} {E : Value -> Shared -> Prop} {s : Shared} {a o : Addr} {cls cls' : String} {xs ys : List Int}
theorem SetAt.at (hS : SetAt C s.heap cls a xs) {h' : Heap} (k : ∀ o,s.heap.get? a = some o -> h'.get? a = some o) : SetAt C h' cls a xs :=
 let ⟨es,ep,t,g,b⟩:=hS; ⟨es,ep,t,k _ g,b⟩
theorem ew {Q : Value -> Shared -> Prop} (h : ∀ t,SetBody C #[] t [] ->
   Q (.ref s.heap.objs.size) { s with heap:=s.heap.push ⟨.type cls,none,.set #[] 0 t,#[]⟩ }) :
  wpAny (model C.prog C.w) A (newSet (.type cls)) Q E s:=by
 unfold newSet setsByText
 refine wpAny_bind (wpAny_bind (wpAny_askSetting (wpAny_pure ?_)))
 dsimp only
 simp only [newObj]
 refine wpAny_bind (wpAny_alloc (wpAny_pure (h _ ⟨rfl,fun e he=>by simp at he,⟨7,0,!C.w.params.followText "set-order",rfl,.inl rfl,?_⟩,.nil⟩)))
 cases C.w.params.followText "set-order" <;> simp
theorem i7 {es : Array (Int × Value)} {t t' : SetTable} {bad : Sem (Array (Int × Value) × SetTable)} {Q : Array (Int × Value) × SetTable -> Shared -> Prop} (b : SetBody C es t xs) (h : Q (es,t') s) :
  wpAny (model C.prog C.w) A (if ((List.range xs.length).toArray.filterMap (es[·]?)).size != es.size then bad else pure ((List.range xs.length).toArray.filterMap (es[·]?),t')) Q E s:=by
 rw [show (List.range xs.length).toArray.filterMap (es[·]?) = es by rw [<- b.size]; exact cn es]
 refine aq (by simp) ?_
 exact wpAny_pure h
theorem qZ {wanted : Nat} {Q : Unit -> Shared -> Prop} (hS : SetAt C s.heap cls a xs) (hw : wanted ≤ 28) (h : ∀ h',Heap.SameBut a s.heap h' -> SetAt C h' cls a xs -> Q () { s with heap:=h' }) :
  wpAny (model C.prog C.w) A (setRelay a wanted) Q E s:=by
 refine av hS fun es ep t ho b=>?_
 obtain ⟨m,mv,led,rfl,hm,hl⟩:=b.tab
 have hz : ∀ n ∈ List.range 29,SetTable.sizeAbove n ≤ 32 /\ (SetTable.sizeAbove n - 1 = 7 \/ SetTable.sizeAbove n - 1 = 15 \/ SetTable.sizeAbove n - 1 = 31):=by decide +kernel
 have hz':=hz wanted (List.mem_range.mpr (by lia))
 unfold setRelay
 refine wpAny_bind (wpAny_setState_of ho rfl b.fits ?_)
 dsimp only
 rw [if_neg (by have:=hz'.1; rw [sizeLine_eq]; lia),fE b hw]
 refine wpAny_bind (i7 b ?_)
 dsimp only
 have b2 : SetBody C es (ownTable (SetTable.sizeAbove wanted - 1) ((ownTable m mv led xs).movedTo (SetTable.sizeAbove wanted - 1)) led xs) xs:=⟨b.hs,b.vs,⟨_,_,_,rfl,hz'.2,hl⟩,b.sm⟩
 refine wpAny_storeSet_of ho rfl ?_ (fits_of_scanBound b2.low)
 exact h _ (Heap.SameBut.update _ a _) (bW ho _ b2).2
theorem sZ {n : Nat} {Q : Unit -> Shared -> Prop} (hS : SetAt C s.heap cls a xs) (hn : n ≤ 7) (h : ∀ h',Heap.SameBut a s.heap h' -> SetAt C h' cls a xs -> Q () { s with heap:=h' }) :
  wpAny (model C.prog C.w) A (setRoomFor a n) Q E s:=by
 have hr:=@qZ C A E s a cls xs ((xs.length + n) * 2) Q hS
 have h0:=h s.heap (.refl _ _) hS
 refine av hS fun es ep t ho b=>?_
 have hl:=len_facts _ b.sm.enum
 obtain ⟨m,mv,led,rfl,hm,_⟩:=b.tab
 unfold setRoomFor
 refine wpAny_bind (wpAny_setState_of ho rfl b.fits ?_)
 have e : (ownTable m mv led xs).roomFor n = if (xs.length + n) * 5 ≥ m * 3 then some ((xs.length + n) * 2) else none:=by
  unfold SetTable.roomFor SetTable.fill ownTable
  simp
 dsimp only
 rw [e]
 split
 ·rename_i he
  split at he
  ·cases he; exact hr (by lia) h
  ·cases he
 ·exact wpAny_pure h0
theorem c9 {α β : Type} (ws : Array α) (b : β) (f : α -> β -> Sem (ForInStep β)) : forIn ws b f = forIn ws.toList b f:=by cases ws; simp
noncomputable def EltOk (e : Int × Value) : Prop:=∃ tk,e = (e.1,Value.int e.1 tk) /\ 0 ≤ e.1 /\ e.1 ≤ 6
theorem kG {body : Int × Value -> PUnit -> Sem (ForInStep PUnit)} {oo : Obj} {Q : PUnit -> Shared -> Prop} (hne : o ≠ a)
  (hb : ∀ e (s' : Shared) (R : ForInStep PUnit -> Shared -> Prop),EltOk e -> s'.heap.get? o = some oo -> wpAny (model C.prog C.w) A (setAddHashed a e.2 e.1) (fun uw s''=>s''.heap.get? o = some oo /\ R (.yield ⟨⟩) s'') E s' -> wpAny (model C.prog C.w) A (body e ⟨⟩) R E s') :
  ∀ (l : List (Int × Value)) (xs : List Int) (s : Shared),(∀ e ∈ l,EltOk e) -> SetAt C s.heap cls a xs -> s.heap.get? o = some oo ->
   (∀ h' zs,Heap.SameBut a s.heap h' -> SetAt C h' cls a zs -> (∀ i,i ∈ zs ↔ i ∈ xs \/ i ∈ l.map (·.1)) -> Q ⟨⟩ { s with heap:=h' }) -> wpAny (model C.prog C.w) A (forIn l ⟨⟩ body) Q E s
 | [],xs,s,_,hS,_,h=>by
  rw [List.forIn_nil]
  exact wpAny_pure (h s.heap xs (.refl _ _) hS fun i=>by simp)
 | e :: l,xs,s,hl,hS,ho,h=>by
  rw [List.forIn_cons]
  refine aw (hl e List.mem_cons_self) fun tk he l1=>?_
  refine wpAny_bind (hb e s _ (hl e List.mem_cons_self) ho ?_)
  rw [he]
  refine sO hS l1 fun h' sb hS'=>⟨(sb.2 o hne).trans ho,?_⟩
  refine kG hne hb l _ _ (fun e he=>hl e (List.mem_cons_of_mem _ he)) hS' ((sb.2 o hne).trans ho) fun h'' zs sb' hz hm=>?_
  exact h h'' zs (sb.trans sb') hz fun i=>by
   rw [hm i,mem_insI,List.map_cons,List.mem_cons]
   constructor
   ·rintro ((q | q) | q)
    ·exact .inr (.inl q)
    ·exact .inl q
    ·exact .inr (.inr q)
   ·rintro (q | q | q)
    ·exact .inl (.inr q)
    ·exact .inl (.inl q)
    ·exact .inr q
theorem nh {each : Sem Unit} {es : Array (Int × Value)} {ep : Nat} {t : SetTable} {Q : Unit -> Shared -> Prop} (hne : o ≠ a) (hS : SetAt C s.heap cls a xs) (ho : s.heap.get? o = some ⟨.type cls',none,.set es ep t,#[]⟩) (b : SetBody C es t ys)
  (hea : ∀ (s' : Shared) (Q : Unit -> Shared -> Prop),s'.heap.get? o = some ⟨.type cls',none,.set es ep t,#[]⟩ -> Q () s' -> wpAny (model C.prog C.w) A each Q E s')
  (h : ∀ h' zs,Heap.SameBut a s.heap h' -> SetAt C h' cls a zs -> (∀ i,i ∈ zs ↔ i ∈ xs \/ i ∈ ys) -> Q () { s with heap:=h' }) :
  wpAny (model C.prog C.w) A (setMerge a o each) Q E s:=by
 unfold setMerge
 refine aq (by simp; exact fun q=>hne q.symm) ?_
 refine wpAny_bind (wpAny_setState_of ho rfl b.fits ?_)
 dsimp only
 by_cases hem : es.isEmpty = true
 ·refine bH hem ?_
  refine wpAny_pure (h s.heap xs (.refl _ _) hS fun i=>?_)
  have : ys = []:=by
   have:=b.size
   rw [Array.isEmpty_iff] at hem
   rw [hem] at this
   exact List.length_eq_zero_iff.mp this.symm
  rw [this]; simp
 ·refine aq hem ?_
  have hlen : es.size ≤ 7:=by rw [b.size]; exact len_facts _ b.sm.enum
  refine wpAny_bind (sZ hS hlen fun h1 sb1 hS1=>?_)
  refine av hS1 fun es1 ep1 t1 ho1 b1=>?_
  have hoo : h1.get? o = some ⟨.type cls',none,.set es ep t,#[]⟩:=(sb1.2 o hne).trans ho
  refine wpAny_bind (wpAny_setState_of ho1 rfl b1.fits ?_)
  dsimp only
  obtain ⟨m1,mv1,led1,rfl,hm1,hl1⟩:=b1.tab
  obtain ⟨m,mv,led,rfl,hm,hl⟩:=b.tab
  have hl' : (led1 && led) = true \/ C.w.params.followText "set-order" = true:=by
   rcases hl1 with rfl | q
   ·rcases hl with rfl | q
    ·exact .inl rfl
    ·exact .inr q
   ·exact .inr q
  have hx0 : (ownTable m1 mv1 led1 xs).fill = xs.length:=by simp [SetTable.fill,ownTable]
  by_cases hf : (ownTable m1 mv1 led1 xs).fill = 0
  ·have hxs : xs = []:=List.length_eq_zero_iff.mp (hx0.symm.trans hf)
   subst hxs
   by_cases hmm : m1 = m
   ·subst hmm
    have hr : (ownTable m1 mv1 led1 []).road (ownTable m1 mv led ys) = .slotForSlot:=by unfold SetTable.road; rw [if_neg (by simp [hf]),if_pos (by simp [ownTable])]
    rw [hr]
    have b2 : SetBody C es (ownTable m1 mv1 (led1 && led) ys) ys:=⟨b.hs,b.vs,⟨_,_,_,rfl,hm,hl'⟩,b.sm⟩
    refine wpAny_storeSet_of ho1 rfl ?_ (fits_of_scanBound b.low)
    exact h _ ys (sb1.trans (Heap.SameBut.update _ a _)) (bW ho1 _ b2).2 fun i=>by simp
   ·have hr : (ownTable m1 mv1 led1 []).road (ownTable m mv led ys) = .clean:=by unfold SetTable.road; rw [if_neg (by simp [hf]),if_neg (by simp [ownTable,hmm])]
    rw [hr]
    have e : es.map (·.1) = ys.toArray:=by
     apply Array.toList_inj.mp
     rw [Array.toList_map,b.hs]
    dsimp only
    have e2 : SetTable.laid (ownTable m1 mv1 led1 []).mask (ownTable m1 mv1 led1 []).finger (ownTable m1 mv1 led1 []).moves ((ownTable m1 mv1 led1 []).led && (ownTable m mv led ys).led) ((ownTable m1 mv1 led1 []).plain && (ownTable m mv led ys).plain) ys.toArray = some (ownTable m1 mv1 (led1 && led) ys,(List.range ys.length).toArray):=iC b.sm hm1 _ _ _ _
    rw [e,e2]
    refine wpAny_bind (i7 b ?_)
    dsimp only
    have b2 : SetBody C es (ownTable m1 mv1 (led1 && led) ys) ys:=⟨b.hs,b.vs,⟨_,_,_,rfl,hm1,hl'⟩,b.sm⟩
    refine wpAny_storeSet_of ho1 rfl ?_ (fits_of_scanBound b.low)
    exact h _ ys (sb1.trans (Heap.SameBut.update _ a _)) (bW ho1 _ b2).2 fun i=>by simp
  ·have hr : (ownTable m1 mv1 led1 xs).road (ownTable m mv led ys) = .oneByOne:=by unfold SetTable.road; rw [if_pos (by simp [hf])]
   rw [hr]
   dsimp only
   refine wpAny_bind (fT (cls:=cls') (xs:=ys) ⟨es,ep,_,hoo,b⟩ fun ws hw hp=>?_)
   rw [c9]
   refine wpAny_bind (kG (cls:=cls) (oo:=⟨.type cls',none,.set es ep (ownTable m mv led ys),#[]⟩) (Q:=fun uw s'=>wpAny (model C.prog C.w) A (pure ()) Q E s') hne (fun e s' R hE hoo' hadd=>?_) ws.toList xs _ hw ⟨es1,ep1,_,ho1,b1⟩ hoo fun h' zs sb' hz hmz=>?_)
   ·refine wpAny_bind (wpAny_holding (wpAny_mono hadd (fun uw s'' q=>?_) fun uw uw z=>z))
    refine wpAny_bind (hea s'' _ q.1 ?_)
    refine wpAny_bind (wpAny_setState_of q.1 rfl b.fits ?_)
    dsimp only
    refine aq (by simp) ?_
    exact wpAny_pure q.2
   ·refine wpAny_pure (h h' zs (sb1.trans sb') hz fun i=>?_)
    rw [hmz i]
    exact or_congr Iff.rfl hp.mem_iff
end
theorem mro_fs : mroOf (.type "frozenset") = pure [.type "frozenset",.type "object"]:=by rw [mroOf_type]; kernel_rfl
theorem sub_fs_set : isSubtype (.type "frozenset") (.type "set") = pure false:=by rw [isSubtype_type]; kernel_rfl
theorem sub_fs_fs : isSubtype (.type "frozenset") (.type "frozenset") = pure true:=by rw [isSubtype_type]; kernel_rfl
theorem owner_fs : Manifest.owners.lookup (String.ofList ['t','e','s','n','e','z','o','r','f'].reverse) = some Manifest.sig_frozenset:=by kernel_rfl
theorem slot_fs_or : Slot "frozenset" (dunder "or") "frozenset.__or__" :=
 .of (owner:="frozenset") (n:="__or__") (by rw [typeLookup_type,builtinLookup_eq_fast]; kernel_rfl) (by decide +kernel) (by decide +kernel) (by decide +kernel)
  (by first | exact .inl (by decide +kernel) | exact .inr (by decide +kernel)) (by rw [isSubtype_type]; kernel_rfl)
theorem fills_fs_or : fillsNumberSlot (.type "frozenset") "or" = pure true :=
 fillsNumberSlot_of (id:="frozenset.__or__") (r:=some (.builtin "frozenset.__ror__")) (by rw [typeLookup_type,builtinLookup_eq_fast]; kernel_rfl) (by decide +kernel) (by rw [typeLookup_type,builtinLookup_eq_fast]; kernel_rfl)
theorem jG (a b : Value) : argsOk "frozenset.__or__" ⟨[a,b],[]⟩:=by
 unfold argsOk; rw [signature?_of (id:="frozenset.__or__") (n:=['_','_','r','o','_','_']) (o:=['t','e','s','n','e','z','o','r','f']) (by kernel_rfl) owner_fs]; kernel_rfl
theorem entry_fs_or : entryFor table "frozenset.__or__" = some Builtin.«frozenset.__or__»:=entryFor_of_fast (by kernel_rfl)
theorem slot_fs_sub : Slot "frozenset" (dunder "sub") "frozenset.__sub__" :=
 .of (owner:="frozenset") (n:="__sub__") (by rw [typeLookup_type,builtinLookup_eq_fast]; kernel_rfl) (by decide +kernel) (by decide +kernel) (by decide +kernel)
  (by first | exact .inl (by decide +kernel) | exact .inr (by decide +kernel)) (by rw [isSubtype_type]; kernel_rfl)
theorem fills_fs_sub : fillsNumberSlot (.type "frozenset") "sub" = pure true :=
 fillsNumberSlot_of (id:="frozenset.__sub__") (r:=some (.builtin "frozenset.__rsub__")) (by rw [typeLookup_type,builtinLookup_eq_fast]; kernel_rfl) (by decide +kernel) (by rw [typeLookup_type,builtinLookup_eq_fast]; kernel_rfl)
theorem iT (a b : Value) : argsOk "frozenset.__sub__" ⟨[a,b],[]⟩:=by
 unfold argsOk; rw [signature?_of (id:="frozenset.__sub__") (n:=['_','_','b','u','s','_','_']) (o:=['t','e','s','n','e','z','o','r','f']) (by kernel_rfl) owner_fs]; kernel_rfl
theorem entry_fs_sub : entryFor table "frozenset.__sub__" = some Builtin.«frozenset.__sub__»:=entryFor_of_fast (by kernel_rfl)
theorem slot_fs_ne : Slot "frozenset" (cmpInfo .NotEq).2.1 "frozenset.__ne__" :=
 .of (owner:="frozenset") (n:="__ne__") (by rw [typeLookup_type,builtinLookup_eq_fast]; kernel_rfl) (by decide +kernel) (by decide +kernel) (by decide +kernel)
  (by first | exact .inl (by decide +kernel) | exact .inr (by decide +kernel)) (by rw [isSubtype_type]; kernel_rfl)
theorem jH (a b : Value) : argsOk "frozenset.__ne__" ⟨[a,b],[]⟩:=by
 unfold argsOk; rw [signature?_of (id:="frozenset.__ne__") (n:=['_','_','e','n','_','_']) (o:=['t','e','s','n','e','z','o','r','f']) (by kernel_rfl) owner_fs]; kernel_rfl
theorem entry_fs_ne : entryFor table "frozenset.__ne__" = some Builtin.«frozenset.__ne__»:=entryFor_of_fast (by kernel_rfl)
theorem slot_fs_iter : Slot "frozenset" "__iter__" "frozenset.__iter__" :=
 .of (owner:="frozenset") (n:="__iter__") (by rw [typeLookup_type,builtinLookup_eq_fast]; kernel_rfl) (by decide +kernel) (by decide +kernel) (by decide +kernel)
  (by first | exact .inl (by decide +kernel) | exact .inr (by decide +kernel)) (by rw [isSubtype_type]; kernel_rfl)
theorem gX (a : Value) : argsOk "frozenset.__iter__" ⟨[a],[]⟩:=by
 unfold argsOk; rw [signature?_of (id:="frozenset.__iter__") (n:=['_','_','r','e','t','i','_','_']) (o:=['t','e','s','n','e','z','o','r','f']) (by kernel_rfl) owner_fs]; kernel_rfl
theorem entry_fs_iter : entryFor table "frozenset.__iter__" = some Builtin.«frozenset.__iter__»:=entryFor_of_fast (by kernel_rfl)
theorem slot_set_iter' : Slot "set" "__iter__" "set.__iter__" :=
 .of (owner:="set") (n:="__iter__") (by rw [typeLookup_type,builtinLookup_eq_fast]; kernel_rfl) (by decide +kernel) (by decide +kernel) (by decide +kernel)
  (by first | exact .inl (by decide +kernel) | exact .inr (by decide +kernel)) (by rw [isSubtype_type]; kernel_rfl)
theorem entry_set_iter' : entryFor table "set.__iter__" = some Builtin.«frozenset.__iter__» :=
 entryFor_alias (id':="frozenset.__iter__") (by kernel_rfl) rfl (by decide +kernel) (by kernel_rfl)
theorem ft (a : Value) : argsOk "set.__iter__" ⟨[a],[]⟩:=by
 unfold argsOk; rw [signature?_of (id:="set.__iter__") (n:=['_','_','r','e','t','i','_','_']) (o:=['t','e','s']) (by kernel_rfl) F.owner_set]; kernel_rfl
theorem lookup_fs_new : typeLookup (.type "frozenset") "__new__" = pure (some (.builtin "frozenset.__new__")):=by rw [typeLookup_type,builtinLookup_eq_fast]; kernel_rfl
theorem slot_fs_init : Slot "frozenset" "__init__" "object.__init__" :=
 .of (owner:="object") (n:="__init__") (by rw [typeLookup_type,builtinLookup_eq_fast]; kernel_rfl) (by decide +kernel) (by decide +kernel) (by decide +kernel)
  (by first | exact .inl (by decide +kernel) | exact .inr (by decide +kernel)) (by rw [isSubtype_type]; kernel_rfl)
theorem called_fs : TypeCalled "frozenset" "frozenset.__new__" "object.__init__" :=
 ⟨by decide +kernel,by decide +kernel,⟨_,_,mro_fs⟩,madeBy_type mro_fs lookup_fs_new (by decide +kernel),by decide +kernel,by rw [isSubtype_type]; kernel_rfl,slot_fs_init⟩
end Mine
namespace Mine
open PySem
theorem eZ (a : Value) : checkTypeCall "frozenset" ⟨[a],[]⟩ = pure ():=by kernel_rfl
theorem gh (a : Value) : checkBuiltinCall "frozenset.__new__" ⟨[.type "frozenset",a],[]⟩ = pure ():=by kernel_rfl
theorem entry_fs_new : entryFor table "frozenset.__new__" = some Builtin.«frozenset.__new__»:=entryFor_of_tree (by kernel_rfl)
theorem plain_fs_new : plainId "frozenset.__new__" = true:=by decide +kernel
theorem lookup_fs_init : typeLookup (.type "frozenset") "__init__" = pure (some (.builtin "object.__init__")):=by rw [typeLookup_type,builtinLookup_eq_fast]; kernel_rfl
theorem sub_list_fs : isSubtype (.type "list") (.type "frozenset") = pure false:=by rw [isSubtype_type]; kernel_rfl
theorem sub_list_set' : isSubtype (.type "list") (.type "set") = pure false:=by rw [isSubtype_type]; kernel_rfl
section
variable {C : Cx} {A : Around} {E : Value -> Shared -> Prop} {s : Shared} {a b : Addr} {cls : String} {xs ys : List Int}
theorem SetAt.typeIs (hS : SetAt C s.heap cls a xs) : s.TypeIs (.ref a) cls:=let ⟨_,_,_,g,_⟩:=hS; ⟨_,g,rfl⟩
theorem SetAt.same (hS : SetAt C s.heap cls a xs) (hS' : SetAt C s.heap cls a ys) : xs = ys:=by
 refine av hS fun es ep t g b=>?_
 refine av hS' fun es' ep' t' g' b'=>?_
 rw [g] at g'
 injection g' with g'
 injection g' with _ _ g' _
 injection g' with g1 _ _
 subst g1
 rw [<- b.hs,<- b'.hs]
theorem b8 {v : Value} {Q : Bool -> Shared -> Prop} (h : s.TypeIs v "frozenset") (q : Q true s) : wpAny (model C.prog C.w) A (Builtin.Frozenset.isAnySet v) Q E s:=by
 unfold Builtin.Frozenset.isAnySet
 refine wpAny_bind (wpAny_isInstance h sub_fs_set ?_)
 exact wpAny_isInstance h sub_fs_fs q
theorem kD {Q : Value -> Shared -> Prop} (h : s.TypeIs (.ref a) "frozenset") (q : Q (.type "frozenset") s) : wpAny (model C.prog C.w) A (Builtin.Frozenset.baseOf a) Q E s:=by
 unfold Builtin.Frozenset.baseOf
 exact wpAny_bind (wpAny_isInstance h sub_fs_set (wpAny_pure q))
theorem SetAt.ne_top (hS : SetAt C s.heap cls a xs) : a ≠ s.heap.objs.size:=by
 obtain ⟨_,_,_,g,_⟩:=hS; exact Nat.ne_of_lt (Heap.lt_size g)
theorem fH {h h' : Heap} {o : Obj} (sb : Heap.SameBut h.objs.size (h.push o) h') : Keeps h h' /\ h.objs.size ≤ h'.objs.size:=by
 refine ⟨fun c oc e=>(sb.2 c (Nat.ne_of_lt (Heap.lt_size e))).trans (Heap.get?_push_of_some _ e),?_⟩
 rw [sb.1]; cases h; simp [Heap.push]
theorem qN {Q : Value -> Shared -> Prop} (hA : SetAt C s.heap "frozenset" a xs)
  (h : ∀ h',Heap.SameBut s.heap.objs.size (s.heap.push ⟨.type "frozenset",none,.set #[] 0 default,#[]⟩) h' -> Keeps s.heap h' -> s.heap.objs.size ≤ h'.objs.size -> SetAt C h' "frozenset" s.heap.objs.size xs -> Q (.ref s.heap.objs.size) { s with heap:=h' }) :
  wpAny (model C.prog C.w) A (Builtin.Frozenset.copyOf a) Q E s:=by
 unfold Builtin.Frozenset.copyOf
 refine wpAny_bind (kD hA.typeIs (wpAny_bind (ew fun t bt=>?_)))
 unfold Builtin.Frozenset.addrOf
 refine wpAny_bind (wpAny_pure ?_)
 refine av (id hA) fun es ep t1 g b1=>?_
 refine wpAny_bind (nh (ys:=xs) (xs:=[]) (cls:="frozenset") (cls':="frozenset") hA.ne_top ⟨_,_,_,Heap.get?_push_size _ rfl,bt⟩ (Heap.get?_push_of_some _ g) b1 (fun s' Q uw q=>wpAny_pure q) fun h' zs sb hz hm=>?_)
 have e : zs = xs:=by
  refine av hz fun uw uw uw uw bz=>?_
  exact Sm.ext bz.sm b1.sm fun i=>by rw [hm i]; simp
 subst e
 obtain ⟨k,z⟩:=fH sb
 refine wpAny_pure (h h' ⟨?_,fun c hc=>(sb.2 c hc).trans ?_⟩ k z hz)
 ·rw [sb.1]; cases s.heap; simp [Heap.push]
 ·rw [Heap.get?_push_ne _ _ _ hc,Heap.get?_push_ne _ _ _ hc]
theorem orS {Q : Value -> Shared -> Prop} (hA : SetAt C s.heap "frozenset" a xs) (hB : SetAt C s.heap "frozenset" b ys)
  (h : ∀ h' zs,Keeps s.heap h' -> s.heap.objs.size ≤ h'.objs.size -> SetAt C h' "frozenset" s.heap.objs.size zs -> (∀ i,i ∈ zs ↔ i ∈ xs \/ i ∈ ys) -> Q (.ref s.heap.objs.size) { s with heap:=h' }) :
  wpAny (model C.prog C.w) A (binaryOp .BitOr (.ref a) (.ref b)) Q E s:=by
 refine wpAny_binaryOp_same (op:=.BitOr) hA.typeIs hB.typeIs fills_fs_or slot_fs_or (wpAny_call_entry slot_fs_or hA.typeIs entry_fs_or ?_ (jG _ _))
 unfold Builtin.«frozenset.__or__»
 refine wpAny_bind (wpAny_pure ?_)
 dsimp only
 rw [if_neg Bool.false_ne_true]
 dsimp only
 refine wpAny_bind (wpAny_bind (b8 hA.typeIs (b8 hB.typeIs ?_)))
 refine aq (by simp) ?_
 unfold Builtin.Frozenset.addrOf
 refine wpAny_bind (wpAny_pure ?_)
 refine wpAny_bind ?_
 show wpAny _ _ (do
  let result <- Builtin.Frozenset.copyOf a
  if Value.ref b != .ref a then do
   holding [result] (Builtin.Frozenset.updateFrom (toString "frozenset." ++ toString "__or__") (<- Builtin.Frozenset.addrOf result) (.ref b))
   pure result
  else pure result) _ _ _
 refine wpAny_bind (qN hA fun h1 uw k1 z1 hA1=>?_)
 by_cases hab : b = a
 ·subst hab
  have e:=hA.same hB
  subst e
  refine aq (by simp) ?_
  refine wpAny_pure (wpAny_pure ⟨_,rfl,(fun q=>nomatch q),h h1 _ k1 z1 hA1 fun i=>by simp⟩)
 ·refine bH (by simp [hab]) ?_
  unfold Builtin.Frozenset.addrOf
  refine wpAny_bind (wpAny_pure ?_)
  have hB1 : SetAt C h1 "frozenset" b ys:=hB.at fun uw e=>k1 _ _ e
  refine wpAny_bind (wpAny_holding ?_)
  unfold Builtin.Frozenset.updateFrom
  refine wpAny_bind (b8 (SetAt.typeIs (s:={ s with heap:=h1 }) hB1) ?_)
  dsimp only
  refine bH rfl ?_
  unfold Builtin.Frozenset.addrOf Builtin.Frozenset.merge
  refine wpAny_bind (wpAny_pure ?_)
  refine av (id hB1) fun es ep t1 g b1=>?_
  refine wpAny_bind (wpAny_setEpoch_of g rfl b1.fits ?_)
  refine nh (ys:=ys) (xs:=xs) (cls:="frozenset") (cls':="frozenset") hB.ne_top hA1 g b1 (fun s' Q g' q=>?_) fun h' zs sb hz hm=>?_
  ·unfold Builtin.Frozenset.unchanged
   refine wpAny_bind (wpAny_setEpoch_of g' rfl b1.fits ?_)
   refine aq (by simp) ?_
   exact wpAny_pure q
  ·refine wpAny_pure (wpAny_pure ⟨_,rfl,(fun q=>nomatch q),h h' zs (fun c oc e=>(sb.2 c (Nat.ne_of_lt (Heap.lt_size e))).trans (k1 _ _ e)) ?_ hz hm⟩)
   have : h1.objs.size = h'.objs.size:=sb.1.symm
   exact this ▸ z1
end
section
variable {C : Cx} {A : Around} {E : Value -> Shared -> Prop} {s : Shared} {a b r : Addr} {cls : String} {xs ys : List Int}
theorem dg {Q : Nat -> Shared -> Prop} (hA : SetAt C s.heap cls a xs) (q : Q xs.length s) : wpAny (model C.prog C.w) A (Builtin.Frozenset.sizeOf a) Q E s:=by
 refine av hA fun es ep t g b=>?_
 unfold Builtin.Frozenset.sizeOf
 refine wpAny_bind (wpAny_setEntries_of g rfl b.fits (wpAny_pure ?_))
 rw [b.size]; exact q
theorem fV {body : Int × Value -> PUnit -> Sem (ForInStep PUnit)} {oa : Obj} {Q : PUnit -> Shared -> Prop} (hra : a ≠ r) (hrb : b ≠ r)
  (hb : ∀ e (s' : Shared) (R : ForInStep PUnit -> Shared -> Prop),EltOk e -> s'.heap.get? a = some oa -> SetAt C s'.heap "frozenset" b ys ->
   (if e.1 ∈ ys then R (.yield ⟨⟩) s' else wpAny (model C.prog C.w) A (setAddHashed r e.2 e.1) (fun uw s''=>s''.heap.get? a = some oa /\ R (.yield ⟨⟩) s'') E s') -> wpAny (model C.prog C.w) A (body e ⟨⟩) R E s') :
  ∀ (l : List (Int × Value)) (xs : List Int) (s : Shared),(∀ e ∈ l,EltOk e) -> SetAt C s.heap cls r xs -> s.heap.get? a = some oa -> SetAt C s.heap "frozenset" b ys ->
   (∀ h' zs,Heap.SameBut r s.heap h' -> SetAt C h' cls r zs -> (∀ i,i ∈ zs ↔ i ∈ xs \/ (i ∈ l.map (·.1) /\ i ∉ ys)) -> Q ⟨⟩ { s with heap:=h' }) -> wpAny (model C.prog C.w) A (forIn l ⟨⟩ body) Q E s
 | [],xs,s,_,hS,_,_,h=>by
  rw [List.forIn_nil]
  exact wpAny_pure (h s.heap xs (.refl _ _) hS fun i=>by simp)
 | e :: l,xs,s,hl,hS,ha,hB,h=>by
  rw [List.forIn_cons]
  refine aw (hl e List.mem_cons_self) fun tk he l1=>?_
  refine wpAny_bind (hb e s _ (hl e List.mem_cons_self) ha hB ?_)
  split
  ·rename_i hy
   refine fV hra hrb hb l xs s (fun e he=>hl e (List.mem_cons_of_mem _ he)) hS ha hB fun h' zs sb hz hm=>h h' zs sb hz fun i=>?_
   rw [hm i,List.map_cons,List.mem_cons]
   constructor
   ·rintro (q | q)
    ·exact .inl q
    ·exact .inr ⟨.inr q.1,q.2⟩
   ·rintro (q | ⟨q | q,n⟩)
    ·exact .inl q
    ·exact absurd (q ▸ hy) n
    ·exact .inr ⟨q,n⟩
  ·rename_i hy
   rw [he]
   refine sO hS l1 fun h' sb hS'=>⟨(sb.2 a hra).trans ha,?_⟩
   refine fV hra hrb hb l _ _ (fun e he=>hl e (List.mem_cons_of_mem _ he)) hS' ((sb.2 a hra).trans ha) (hB.at fun o q=>(sb.2 b hrb).trans q) fun h'' zs sb' hz hm=>?_
   exact h h'' zs (sb.trans sb') hz fun i=>by
    rw [hm i,mem_insI,List.map_cons,List.mem_cons]
    constructor
    ·rintro ((q | q) | q)
     ·exact .inr ⟨.inl q,q ▸ hy⟩
     ·exact .inl q
     ·exact .inr ⟨.inr q.1,q.2⟩
    ·rintro (q | ⟨q | q,n⟩)
     ·exact .inl (.inr q)
     ·exact .inl (.inl q)
     ·exact .inr ⟨q,n⟩
theorem lI {nm : String} {Q : Unit -> Shared -> Prop} (hA : SetAt C s.heap "frozenset" r xs) (hB : SetAt C s.heap "frozenset" b []) (hne : b ≠ r) (q : Q () s) :
  wpAny (model C.prog C.w) A (Builtin.Frozenset.differenceUpdate nm r (.ref b)) Q E s:=by
 unfold Builtin.Frozenset.differenceUpdate
 refine aq (by simp [hne]) ?_
 refine wpAny_bind (b8 hB.typeIs ?_)
 refine bH rfl ?_
 unfold Builtin.Frozenset.addrOf
 refine wpAny_bind (wpAny_pure ?_)
 refine wpAny_bind (dg hB (wpAny_bind (dg hA ?_)))
 refine aq (by simp) ?_
 refine av (id hB) fun es ep t g bb=>?_
 refine wpAny_bind (wpAny_setEpoch_of g rfl bb.fits ?_)
 refine wpAny_bind (wpAny_holding ?_)
 refine wpAny_bind (fT hB fun ws hw hp=>?_)
 have hws : ws.toList = []:=by
  have:=hp.length_eq
  simp at this
  simp [this]
 rw [c9,hws,List.forIn_nil]
 refine wpAny_bind (wpAny_pure (wpAny_pure ?_))
 refine av (id hA) fun es ep t g ba=>?_
 obtain ⟨m,mv,led,rfl,hm,hl⟩:=ba.tab
 unfold setTidy
 refine wpAny_bind (wpAny_setState_of g rfl ba.fits ?_)
 dsimp only
 refine aq (by delta SetTable.tooManyDummies ownTable; simp) ?_
 exact wpAny_pure q
theorem tZ {Q : Value -> Shared -> Prop} (hA : SetAt C s.heap "frozenset" a xs) (hB : SetAt C s.heap "frozenset" b ys)
  (h : ∀ h' zs,Keeps s.heap h' -> s.heap.objs.size ≤ h'.objs.size -> SetAt C h' "frozenset" s.heap.objs.size zs -> (∀ i,i ∈ zs ↔ i ∈ xs /\ i ∉ ys) -> Q (.ref s.heap.objs.size) { s with heap:=h' }) :
  wpAny (model C.prog C.w) A (binaryOp .Sub (.ref a) (.ref b)) Q E s:=by
 refine wpAny_binaryOp_same (op:=.Sub) hA.typeIs hB.typeIs fills_fs_sub slot_fs_sub (wpAny_call_entry slot_fs_sub hA.typeIs entry_fs_sub ?_ (iT _ _))
 unfold Builtin.«frozenset.__sub__»
 refine wpAny_bind (wpAny_pure ?_)
 dsimp only
 rw [if_neg Bool.false_ne_true]
 dsimp only
 refine wpAny_bind (wpAny_bind (b8 hA.typeIs (b8 hB.typeIs ?_)))
 refine aq (by simp) ?_
 unfold Builtin.Frozenset.addrOf
 refine wpAny_bind (wpAny_pure ?_)
 refine wpAny_bind ?_
 unfold Builtin.Frozenset.difference
 refine wpAny_bind (b8 hB.typeIs ?_)
 refine aq Bool.false_ne_true ?_
 refine wpAny_bind ?_
 unfold Builtin.Frozenset.addrOf
 refine wpAny_pure ?_
 refine aq Bool.false_ne_true ?_
 refine bH rfl ?_
 refine wpAny_bind (dg hB (wpAny_bind (dg hA ?_)))
 split
 ·rename_i hbig
  have hys : ys = []:=by
   refine av (id hA) fun uw uw uw uw ba=>?_
   have:=len_facts _ ba.sm.enum
   have : ys.length = 0:=by lia
   exact List.length_eq_zero_iff.mp this
  subst hys
  refine wpAny_bind (wpAny_rule ?_)
  refine wpAny_bind (qN hA fun h1 sb1 k1 z1 hA1=>?_)
  refine wpAny_bind (wpAny_pure ?_)
  refine wpAny_bind (wpAny_holding (lI hA1 (hB.at fun uw e=>k1 _ _ e) hB.ne_top ?_))
  exact wpAny_pure (wpAny_pure ⟨_,rfl,(fun q=>nomatch q),h h1 xs k1 z1 hA1 fun i=>by simp⟩)
 ·refine wpAny_bind (kD hA.typeIs (wpAny_bind (ew fun t bt=>?_)))
  refine wpAny_bind (wpAny_pure ?_)
  have kp : Keeps s.heap (s.heap.push ⟨.type "frozenset",none,.set #[] 0 t,#[]⟩):=fun c oc e=>Heap.get?_push_of_some _ e
  refine av (id hA) fun es ep t1 g ba=>?_
  refine wpAny_bind (wpAny_setEpoch_of (kp _ _ g) rfl ba.fits ?_)
  refine wpAny_bind (wpAny_holding ?_)
  refine wpAny_bind (bH rfl (fT (cls:="frozenset") (xs:=xs) ⟨es,ep,t1,kp _ _ g,ba⟩ fun ws hw hp=>?_))
  simp only [if_true]
  rw [c9]
  refine wpAny_bind (fV (a:=a) (b:=b) (r:=s.heap.objs.size) (ys:=ys) (cls:="frozenset") (oa:=⟨.type "frozenset",none,.set es ep t1,#[]⟩) (Q:=fun uw s'=>wpAny (model C.prog C.w) A.in1 (pure ()) _ E s') hA.ne_top hB.ne_top (fun e s' R hE ha hB' hR=>?_) ws.toList [] _ hw ⟨_,_,_,Heap.get?_push_size _ rfl,bt⟩ (kp _ _ g) (hB.at fun uw e=>kp _ _ e) fun h' zs sb hz hm=>?_)
  ·refine aw hE fun tk he l1=>?_
   refine wpAny_bind (wpAny_holding ?_)
   rw [he]
   refine wpAny_bind (qL hB' l1 fun rr hrr=>wpAny_bind (wpAny_pure ?_))
   rw [hrr]
   split at hR
   ·rename_i hy
    refine aq (by simp [hy]) ?_
    refine wpAny_pure ?_
    unfold Builtin.Frozenset.unchanged
    refine wpAny_bind (wpAny_bind (wpAny_setEpoch_of ha rfl ba.fits ?_))
    refine aq (by simp) ?_
    exact wpAny_pure (wpAny_pure hR)
   ·rename_i hy
    refine bH (by simp [hy]) ?_
    rw [he] at hR
    refine wpAny_bind (wpAny_mono hR (fun uw s'' q=>wpAny_pure ?_) fun uw uw z=>z)
    unfold Builtin.Frozenset.unchanged
    refine wpAny_bind (wpAny_bind (wpAny_setEpoch_of q.1 rfl ba.fits ?_))
    refine aq (by simp) ?_
    exact wpAny_pure (wpAny_pure q.2)
  ·obtain ⟨k,z⟩:=fH sb
   refine wpAny_pure (wpAny_pure (wpAny_pure ⟨_,rfl,(fun q=>nomatch q),h h' zs k z hz fun i=>?_⟩))
   rw [hm i,hp.mem_iff]; simp
end
section
variable {C : Cx} {A : Around} {E : Value -> Shared -> Prop} {s : Shared} {a b r : Addr} {cls : String} {xs ys : List Int}
theorem dh {α β : Type} {M : Model} {body : α -> β -> Sem (ForInStep β)} {z : β} {Q : β -> Shared -> Prop} {s : Shared} : ∀ (l : List α),(∀ x ∈ l,∀ (R : ForInStep β -> Shared -> Prop),R (.yield z) s -> wpAny M A (body x z) R E s) -> Q z s -> wpAny M A (forIn l z body) Q E s
 | [],_,q=>by rw [List.forIn_nil]; exact wpAny_pure q
 | x :: l,hb,q=>by
  rw [List.forIn_cons]
  exact wpAny_bind (hb x List.mem_cons_self _ (dh l (fun y m=>hb y (List.mem_cons_of_mem _ m)) q))
theorem dK {M : Model} {i : Int} {tk : Tok} {Q : Bool -> Shared -> Prop} (q : Q true s) : wpAny M A (Builtin.Frozenset.quietEq (.int i tk)) Q E s:=wpAny_pure q
theorem SetBody.ok {es : Array (Int × Value)} {t : SetTable} (b : SetBody C es t xs) : ∀ e ∈ es.toList,EltOk e:=fun uw h=>let ⟨tk,q,_,l⟩:=b.el h; ⟨tk,q,l⟩
theorem kZ {es ws : Array (Int × Value)} (h1 : ∀ e ∈ es.toList,EltOk e) (h2 : ∀ e ∈ ws.toList,EltOk e) : ∀ e ∈ es.toList ++ ws.toList,EltOk e:=fun e m=>(List.mem_append.mp m).elim (h1 e) (h2 e)
theorem Inc.sub : ∀ {xs ys : List Int},xs.Pairwise (· < ·) -> ys.Pairwise (· < ·) -> (∀ i ∈ xs,i ∈ ys) -> xs.Sublist ys
 | [],_,_,_,_=>List.nil_sublist _
 | x :: xs,[],_,_,h=>absurd (h x List.mem_cons_self) (by simp)
 | x :: xs,y :: ys,hx,hy,h=>by
  have hx':=List.pairwise_cons.mp hx
  have hy':=List.pairwise_cons.mp hy
  by_cases e : x = y
  ·subst e
   refine (Inc.sub hx'.2 hy'.2 fun i m=>?_).cons_cons _
   rcases List.mem_cons.mp (h i (List.mem_cons_of_mem _ m)) with q | q
   ·have:=hx'.1 i m; lia
   ·exact q
  ·have hxy : x ∈ ys:=(List.mem_cons.mp (h x List.mem_cons_self)).resolve_left e
   refine (Inc.sub hx hy'.2 fun i m=>?_).cons _
   rcases List.mem_cons.mp (h i m) with q | q
   ·have:=hy'.1 x hxy
    rcases List.mem_cons.mp m with z | z
    ·exact absurd (z.symm.trans q) e
    ·have:=hx'.1 i z; lia
   ·exact q
theorem fy {β : Type} {n : β} {d : β} {body : Int × Value -> β -> Sem (ForInStep β)} {Q : β -> Shared -> Prop}
  (hb : ∀ e (R : ForInStep β -> Shared -> Prop),EltOk e -> (if e.1 ∈ ys then R (.yield n) s else R (.done d) s) -> wpAny (model C.prog C.w) A (body e n) R E s) :
  ∀ (l : List (Int × Value)),(∀ e ∈ l,EltOk e) -> Q (if (l.map (·.1)).all (fun i=>decide (i ∈ ys)) = true then n else d) s -> wpAny (model C.prog C.w) A (forIn l n body) Q E s
 | [],_,q=>by
  rw [List.forIn_nil]
  exact wpAny_pure (by simpa using q)
 | e :: l,hl,q=>by
  rw [List.forIn_cons]
  refine wpAny_bind (hb e _ (hl e List.mem_cons_self) ?_)
  split
  ·rename_i hy
   refine fy hb l (fun e m=>hl e (List.mem_cons_of_mem _ m)) ?_
   rw [List.map_cons,List.all_cons,decide_eq_true hy,Bool.true_and] at q
   exact q
  ·rename_i hy
   refine wpAny_pure ?_
   rw [List.map_cons,List.all_cons,decide_eq_false hy,Bool.false_and] at q
   exact q
theorem oY {nm : String} {Q : Bool -> Shared -> Prop} (hA : SetAt C s.heap "frozenset" a xs) (hB : SetAt C s.heap "frozenset" b ys) (hz : xs.length = ys.length) (q : Q (decide (xs = ys)) s) :
  wpAny (model C.prog C.w) A (Builtin.Frozenset.subsetOf nm a b) Q E s:=by
 unfold Builtin.Frozenset.subsetOf
 refine wpAny_bind (dg hA (wpAny_bind (dg hB ?_)))
 refine aq (by lia) ?_
 refine av (id hA) fun es ep t g ba=>?_
 refine av (id hB) fun es' ep' t' g' bb=>?_
 refine wpAny_bind (wpAny_setEpoch_of g rfl ba.fits ?_)
 unfold Builtin.Frozenset.walkUnseen
 refine wpAny_bind (wpAny_bind (wpAny_setEntries_of g rfl ba.fits (wpAny_bind (wpAny_setEntries_of g' rfl bb.fits (wpAny_bind (dh _ (fun e m R hR=>?_) ?_))))))
 ·refine aw (kZ ba.ok bb.ok e m) fun tk he uw=>?_
  rw [he]
  exact wpAny_bind (dK (wpAny_pure hR))
 ·refine wpAny_pure ?_
  refine wpAny_bind (fy (ys:=ys) (d:=(some false,())) (fun e R hE hR=>?_) es.toList ba.ok ?_)
  ·refine aw hE fun tk he l1=>?_
   rw [he]
   refine wpAny_bind (wpAny_holding (qL hB l1 fun rr hrr=>?_))
   have hn : rr.isNone = !decide (e.1 ∈ ys):=by rw [<- hrr]; cases rr <;> rfl
   rw [hn]
   split at hR
   ·rename_i hy
    refine aq (by simp [hy]) ?_
    unfold Builtin.Frozenset.unchanged
    refine wpAny_bind (wpAny_bind (wpAny_setEpoch_of g rfl ba.fits ?_))
    refine aq (by simp) ?_
    exact wpAny_pure (wpAny_pure hR)
   ·rename_i hy
    refine bH (by simp [hy]) ?_
    exact wpAny_pure hR
  ·rw [ba.hs]
   by_cases e : xs = ys
   ·subst e
    rw [if_pos (by simp)]
    refine wpAny_pure ?_
    simpa using q
   ·rw [if_neg fun hall=>e ?_]
    ·refine wpAny_pure ?_
     simpa [e] using q
    ·simp only [List.all_eq_true,decide_eq_true_eq] at hall
     exact (Inc.sub ba.sm.inc bb.sm.inc hall).eq_of_length hz
theorem neS {Q : Value -> Shared -> Prop} (hA : SetAt C s.heap "frozenset" a xs) (hB : SetAt C s.heap "frozenset" b ys) (hu : A.units < cLine)
  (h : Q (.bool (!decide (xs = ys))) s) :
  wpAny (model C.prog C.w) A (compareOp .NotEq (.ref a) (.ref b)) Q E s:=by
 show wpAny _ _ (richCompare .NotEq (.ref a) (.ref b)) _ _ _
 refine wpAny_richCompare_same_room (op:=.NotEq) hA.typeIs hB.typeIs slot_fs_ne (wpAny_call_entry slot_fs_ne hA.typeIs entry_fs_ne ?_ (jH _ _)) hu
 unfold Builtin.«frozenset.__ne__»
 refine wpAny_bind (wpAny_pure ?_)
 dsimp only
 refine wpAny_bind (b8 hB.typeIs ?_)
 refine aq (by simp) ?_
 unfold Builtin.Frozenset.addrOf
 refine wpAny_bind (wpAny_pure ?_)
 refine wpAny_bind (wpAny_pure ?_)
 refine wpAny_bind (dg hA (wpAny_bind (dg hB ?_)))
 refine wpAny_bind ?_
 have fin : ∀ r : Bool,r = decide (xs = ys) -> wpAny (model C.prog C.w) A.in1 (ret (Value.bool !r)) (fun fin s'=>∃ v,fin = Fin.done (Flow.ret v) /\ v ≠ Value.notImplemented /\ Q v s') E s:=fun r hr =>
  wpAny_pure ⟨_,rfl,(fun q=>nomatch q),hr ▸ h⟩
 split
 ·rename_i hne
  refine wpAny_pure (fin false ?_)
  have : xs ≠ ys:=fun q=>by subst q; simp at hne
  simp [this]
 ·rename_i hne
  have hz : xs.length = ys.length:=by simpa using hne
  refine wpAny_bind (wpAny_bind (wpAny_isInstance hA.typeIs sub_fs_fs (wpAny_isInstance hB.typeIs sub_fs_fs ?_)))
  refine bH rfl ?_
  refine av (id hA) fun es ep t g ba=>?_
  refine av (id hB) fun es' ep' t' g' bb=>?_
  refine wpAny_bind (wpAny_setEntries_of g rfl ba.fits (wpAny_bind (wpAny_setEntries_of g' rfl bb.fits ?_)))
  split
  ·rename_i hh
   refine wpAny_bind ?_
   rw [c9]
   refine dh _ (fun e m R hR=>?_) ?_
   ·refine aw (ba.ok e m) fun tk he uw=>?_
    rw [he]
    refine wpAny_bind (dK ?_)
    refine aq (by simp) ?_
    exact wpAny_pure hR
   ·refine wpAny_bind ?_
    rw [c9]
    refine dh _ (fun e m R hR=>?_) ?_
    ·refine aw (bb.ok e m) fun tk he uw=>?_
     rw [he]
     refine wpAny_bind (dK ?_)
     refine aq (by simp) ?_
     exact wpAny_pure hR
    ·refine wpAny_bind (wpAny_rule (wpAny_pure (fin false ?_)))
     have : xs ≠ ys:=fun q=>by
      rw [ba.hs,bb.hs,q] at hh
      simp at hh
     simp [this]
  ·exact oY hA hB hz (fin _ rfl)
end
section
variable {C : Cx} {A : Around} {E : Value -> Shared -> Prop} {s : Shared} {a b r I L : Addr} {cls : String} {xs ys : List Int}
theorem IntsAre.at {vs : List Value} {ns : List Int} (h : IntsAre vs ns) {i : Nat} {v : Value} (e : vs[i]? = some v) : ∃ t,v = .int (ns.getD i 0) t /\ i < ns.length:=by
 obtain ⟨t,q⟩:=h.int_at i v e
 obtain ⟨l,_⟩:=List.getElem?_eq_some_iff.mp e
 exact ⟨t,q,by rw [<- h.length]; exact l⟩
theorem tj {vs : List Value} {ns : List Int} {R : Result -> Shared -> Prop} (hh : A.handled = none) (hi : IntsAre vs ns) (hs : ∀ i ∈ ns,0 ≤ i /\ i ≤ 6) (hIa : I ≠ a) (hLa : L ≠ a) (hLI : L ≠ I) :
  ∀ (k i : Nat) (s : Shared) (xs : List Int),vs.length - i = k -> s.heap.IsListIter I L i -> s.heap.IsList L vs.toArray -> SetAt C s.heap cls a xs ->
   (∀ h' t zs,(∀ c o,c ≠ a -> c ≠ I -> s.heap.get? c = some o -> h'.get? c = some o) -> SetAt C h' cls a zs -> (∀ j,j ∈ zs ↔ j ∈ xs \/ j ∈ ns.drop i) -> R (.ok (.ret .none)) { s with heap:=h',toks:=t }) ->
   codeAny (model C.prog C.w) A (.builtin "set.update.loop" ⟨[.ref a,.ref I],[]⟩) R s:=by
 intro k
 induction k with
 | zero =>
  intro i s xs hk hI hL hS hR
  refine codeAny_builtin PyProof.Rows.F.entry_set_update_loop ?_
  rw [Around.under_plainId PyProof.Rows.F.plain_set_update_loop _]
  show wpAny _ A.in1 (pyNext (.ref I) >>= _) _ _ s
  refine wpAny_bind (wpAny_pyNext_list_end (by simpa using hh) hI hL (by simp; omega) fun h' b=>?_)
  show wpAny _ A.in1 (ret Value.none) _ _ _
  refine av hS fun es ep t g bd=>?_
  refine wpAny_pure (hR h' s.toks xs (fun c o n1 n2 e=>b c o n2 e) ⟨es,ep,t,b _ _ (Ne.symm hIa) g,bd⟩ fun j=>?_)
  rw [List.drop_of_length_le (by rw [<- hi.length]; omega)]; simp
 | succ k ih =>
  intro i s xs hk hI hL hS hR
  have hlt : i < vs.length:=by omega
  refine codeAny_builtin PyProof.Rows.F.entry_set_update_loop ?_
  rw [Around.under_plainId PyProof.Rows.F.plain_set_update_loop _]
  show wpAny _ A.in1 (pyNext (.ref I) >>= _) _ _ s
  refine wpAny_bind (wpAny_pyNext_list_item hI hL (x:=vs[i]) (by simp [hlt]) fun h' hI' b=>?_)
  refine aw (IntsAre.at hi (List.getElem?_eq_getElem hlt)) fun t e hn=>?_
  rw [e]
  have l1:=hs _ (List.getElem_mem hn)
  have eg : ns.getD i 0 = ns[i]:=by simp [hn]
  rw [eg]
  show wpAny _ A.in1 (holding [Value.int _ t] (setAdd a (.int _ t)) >>= _) _ _ _
  refine wpAny_bind (wpAny_holding ?_)
  unfold setAdd
  refine wpAny_holding ?_
  refine wpAny_bind ((intKind C.prog C.w).pyHash (k:=ns[i]) (intKind_is _ _ _ _) ?_)
  rw [show (intKind C.prog C.w).hash ns[i] = ns[i] from hash_facts _ (cW l1)]
  refine sO (hS.at (h':=h') fun o g=>(b.2 _ (Ne.symm hIa)).trans g) l1 fun h2 b2 hS2=>?_
  refine wpAny_pure ⟨plainId_quiet PyProof.Rows.F.plain_set_update_loop _,ih (i + 1) _ _ (by omega) (hI'.at fun o g=>(b2.2 _ hIa).trans g) ((hL.at fun o g=>(b.2 _ hLI).trans g).at fun o g=>(b2.2 _ hLa).trans g) hS2 fun h3 t3 zs k3 hz hm=>?_⟩
  refine hR h3 t3 zs (fun c o n1 n2 g=>k3 c o n1 n2 ((b2.2 _ n1).trans ((b.2 _ n2).trans g))) hz fun j=>?_
  rw [hm j,mem_insI,List.drop_eq_getElem_cons hn,List.mem_cons]
  constructor
  ·rintro ((q | q) | q)
   ·exact .inr (.inl q)
   ·exact .inl q
   ·exact .inr (.inr q)
  ·rintro (q | q | q)
   ·exact .inl (.inr q)
   ·exact .inl (.inl q)
   ·exact .inr q
theorem fK {nm : String} {vs : List Value} {ns : List Int} {Q : Unit -> Shared -> Prop} (hh : A.handled = none) (hL : s.heap.IsList L vs.toArray) (hi : IntsAre vs ns) (hs : ∀ i ∈ ns,0 ≤ i /\ i ≤ 6) (hS : SetAt C s.heap cls a []) (hLa : L ≠ a)
  (h : ∀ h' t,(∀ c o,c ≠ a -> s.heap.get? c = some o -> h'.get? c = some o) -> SetAt C h' cls a (sortI ns) -> Q () { s with heap:=h',toks:=t }) :
  wpAny (model C.prog C.w) A (Builtin.Frozenset.updateFrom nm a (.ref L)) Q E s:=by
 have ha : a < s.heap.objs.size:=by obtain ⟨_,_,_,g,_⟩:=hS; exact Heap.lt_size g
 have hl : L < s.heap.objs.size:=by obtain ⟨_,g,_⟩:=hL; exact Heap.lt_size g
 have hT : s.TypeIs (.ref L) "list":=by obtain ⟨o,g,c,_⟩:=hL; exact ⟨o,g,c⟩
 unfold Builtin.Frozenset.updateFrom Builtin.Frozenset.isAnySet
 refine wpAny_bind (wpAny_bind (wpAny_isInstance hT sub_list_set' ?_))
 refine wpAny_isInstance hT sub_list_fs ?_
 refine aq Bool.false_ne_true ?_
 refine wpAny_bind (wpAny_typeOf hT ?_)
 refine aq (by decide) ?_
 refine wpAny_bind (wpAny_pyIter_list hL ?_)
 refine wpAny_bind (wpAny_runValue ?_)
 have kp : Keeps s.heap (s.heap.push { cls:=.type "list_iterator",data:=.fields #[.ref L,.int 0 0] }):=fun c oc e=>Heap.get?_push_of_some _ e
 refine tj (cls:=cls) (by simpa using hh) hi hs (Nat.ne_of_gt ha) hLa (Nat.ne_of_lt hl) (vs.length - 0) 0 _ [] rfl ⟨_,Heap.get?_push_size _ rfl,rfl,rfl⟩ (hL.at fun o g=>kp _ _ g) (hS.at fun o g=>kp _ _ g) fun h' t zs k hz hm=>?_
 refine wpAny_pure (h h' t (fun c o n g=>k c o n (Nat.ne_of_lt (Heap.lt_size g)) (kp _ _ g)) ?_)
 have e : zs = sortI ns:=by
  refine av hz fun uw uw uw uw bz=>?_
  exact Sm.ext bz.sm (Sm.sort hs) fun j=>by rw [hm j,mem_sortI]; simp
 exact e ▸ hz
theorem iH (obj l : Value) : argsOk "object.__init__" ⟨[obj,l],[]⟩:=by unfold argsOk; kernel_rfl
end
section
variable {C : Cx} {A : Around} {E : Value -> Shared -> Prop} {s : Shared} {a b r I L : Addr} {cls : String} {xs ys : List Int}
noncomputable def FromSpec (C : Cx) (cls : String) (L : Addr) (vs : List Value) (ns : List Int) : PySem.Spec:=fun A R s=>A.handled = none /\ s.heap.IsList L vs.toArray /\ IntsAre vs ns /\ (∀ i ∈ ns,0 ≤ i /\ i ≤ 6) /\
 ∀ h' t,Keeps s.heap h' -> SetAt C h' cls s.heap.objs.size (sortI ns) -> R (.ok (.ret (.ref s.heap.objs.size))) { s with heap:=h',toks:=t }
theorem rH (L : Addr) (vs : List Value) (ns : List Int) : MeetsIn C.prog C.w (Builtin.«frozenset.__new__» ⟨[.type "frozenset",.ref L],[]⟩) (FromSpec C "frozenset" L vs ns) :=
 .of_wp fun A R s h=>by
  refine rE h fun hh hL hi hs h=>?_
  have hsub:=sub_fs_fs
  have hlk:=lookup_fs_init
  have hT : s.TypeIs (.ref L) "list":=by obtain ⟨o,g,c,_⟩:=hL; exact ⟨o,g,c⟩
  unfold Builtin.«frozenset.__new__» Builtin.Frozenset.newClass
  generalize hNF : Builtin.Frozenset.newFrom = NF
  wp_walk
  subst hNF
  unfold Builtin.Frozenset.newFrom
  refine wpAny_bind (ew fun t bt=>?_)
  have kp : Keeps s.heap (s.heap.push ⟨.type "frozenset",none,.set #[] 0 t,#[]⟩):=fun c oc e=>Heap.get?_push_of_some _ e
  have hl : L < s.heap.objs.size:=by obtain ⟨_,g,_⟩:=hL; exact Heap.lt_size g
  unfold Builtin.Frozenset.addrOf
  refine wpAny_bind (wpAny_pure ?_)
  refine wpAny_bind (wpAny_holding (fK (cls:="frozenset") (by simpa using hh) (hL.at fun o g=>kp _ _ g) hi hs ⟨_,_,_,Heap.get?_push_size _ rfl,bt⟩ (Nat.ne_of_lt hl) fun h' t k hS=>?_))
  refine wpAny_pure (wpAny_pure ⟨_,rfl,h h' t (fun c o g=>k c o (Nat.ne_of_lt (Heap.lt_size g)) (kp _ _ g)) hS⟩)
theorem qg {vs : List Value} {ns : List Int} {Q : Value -> Shared -> Prop} (hh : A.handled = none) (hL : s.heap.IsList L vs.toArray) (hi : IntsAre vs ns) (hs : ∀ i ∈ ns,0 ≤ i /\ i ≤ 6)
  (h : ∀ h' t,Keeps s.heap h' -> SetAt C h' "frozenset" s.heap.objs.size (sortI ns) -> Q (.ref s.heap.objs.size) { s with heap:=h',toks:=t }) :
  wpAny (model C.prog C.w) A (call (.type "frozenset") [.ref L]) Q E s :=
 callType_newIn called_fs (by decide) (eZ _) (gh _) (fun obj=>iH obj _) entry_fs_new (rH L vs ns)
  ⟨by simpa using hh,hL,hi,hs,fun h' t k hS=>⟨SetAt.typeIs (s:={ s with heap:=h',toks:=t }) hS,h h' t k hS⟩⟩
theorem fj (a : Value) {Q₁ : Value -> Shared -> Prop} (h : ∀ t,SetBody C #[] t [] -> Q₁ (.ref s.heap.objs.size) { s with heap:=s.heap.push ⟨.type "set",none,.set #[] 0 t,#[]⟩ }) :
  codeAny (model C.prog C.w) A (.call (.builtin "set.__new__") ⟨[.type "set",a],[]⟩) (wants Q₁ E) s:=by
 refine codeAny_of_tree ?_
 show wpAny _ A.in1 (do checkBuiltinCall "set.__new__" ⟨[.type "set",a],[]⟩; again (.builtin "set.__new__" ⟨[.type "set",a],[]⟩)) _ _ s
 refine wpAny_bind (wpAny_of_eq (PySem.F.newCall_set_1 a) (wpAny_pure ⟨plainId_quiet PySem.F.plain_set_new _,codeAny_builtin PySem.F.entry_set_new ?_⟩))
 rw [Around.under_plainId PySem.F.plain_set_new _]
 unfold Builtin.«set.__new__» Builtin.Frozenset.newClass
 have hsub:=sub_set_self
 generalize hNF : newSet = NF
 wp_walk
 subst hNF
 refine ew fun t bt=>?_
 exact wpAny_pure (h t bt)
end
section
variable {C : Cx} {A : Around} {E : Value -> Shared -> Prop} {s : Shared} {a b r I L : Addr} {cls : String} {xs ys : List Int}
theorem sL {v : Value} {Q : Bool -> Shared -> Prop} (h : s.TypeIs v "set") (q : Q true s) : wpAny (model C.prog C.w) A (Builtin.Frozenset.isAnySet v) Q E s:=by
 unfold Builtin.Frozenset.isAnySet
 refine wpAny_bind (wpAny_isInstance h sub_set_self ?_)
 exact wpAny_pure q
set_option maxRecDepth 100000 in
set_option maxHeartbeats 3200000 in
theorem oy {vs : List Value} {ns : List Int} {Q : Value -> Shared -> Prop} (hh : A.handled = none) (hL : s.heap.IsList L vs.toArray) (hi : IntsAre vs ns) (hs : ∀ i ∈ ns,0 ≤ i /\ i ≤ 6)
  (h : ∀ h' t,Keeps s.heap h' -> SetAt C h' "set" s.heap.objs.size (sortI ns) -> Q (.ref s.heap.objs.size) { s with heap:=h',toks:=t }) :
  wpAny (model C.prog C.w) A (call (.type "set") [.ref L]) Q E s:=by
 refine pK PySem.F.called_set.mro fun c tl hmro=>?_
 have hmade:=PySem.F.called_set.made
 have hsub:=PySem.F.called_set.sub
 refine wpAny_call (codeAny_of_tree ?_)
 show wpAny _ _ (callAny (.type "set") _) _ _ _
 refine wpAny_pure ⟨Code.quiet_builtin _ (by decide +kernel),codeAny_builtin PySem.F.entry_type_call ?_⟩
 rw [Around.under_plain (weight_type_call_type "set" [.ref L] []) rfl]
 have h1:=PySem.F.called_set.notType
 have h2:=PySem.F.called_set.canCreate
 have hct:=PySem.F.typeCall_set_1 (.ref L)
 repeat (any_goals (first | assumption | wp_step))
 refine codeAny_mono (fj (E:=E) (.ref L) (Q₁:=fun obj s₁=>∃ t,SetBody C #[] t [] /\ obj = .ref s.heap.objs.size /\ s₁ = { s with heap:=s.heap.push ⟨.type "set",none,.set #[] 0 t,#[]⟩ }) fun t bt=>⟨t,bt,rfl,rfl⟩) fun r s₁ hr=>?_
 cases r with
 | error e=>exact hr
 | ok fl =>
  cases fl with
  | ret obj =>
   obtain ⟨t,bt,rfl,rfl⟩:=hr
   have hS : (s.heap.push ⟨.type "set",none,.set #[] 0 t,#[]⟩).get? s.heap.objs.size = some ⟨.type "set",none,.set #[] 0 t,#[]⟩:=Heap.get?_push_size _ rfl
   have hSt : SetAt C (s.heap.push ⟨.type "set",none,.set #[] 0 t,#[]⟩) "set" s.heap.objs.size []:=⟨_,_,_,hS,bt⟩
   have hT : Shared.TypeIs { s with heap:=s.heap.push ⟨.type "set",none,.set #[] 0 t,#[]⟩ } (.ref s.heap.objs.size) "set":=⟨_,hS,rfl⟩
   have hli:=PySem.F.called_set.init.lookup
   have hbi:=PySem.F.called_set.init.bind (.ref s.heap.objs.size)
   repeat (any_goals (first | assumption | wp_step))
   have kp : Keeps s.heap (s.heap.push ⟨.type "set",none,.set #[] 0 t,#[]⟩):=fun c oc e=>Heap.get?_push_of_some _ e
   have hl : L < s.heap.objs.size:=by obtain ⟨_,g,_⟩:=hL; exact Heap.lt_size g
   refine codeAny_mono (codeAny_call_builtin (R:=wants (fun r s₂=>r = .none /\ Q (.ref s.heap.objs.size) s₂) E) PySem.F.called_set.init.plain PySem.F.entry_set_init (check_set_init_1 hT ?_)) fun r₂ s₂ hr₂=>?_
   ·unfold Builtin.«set.__init__» noKeywords
    generalize hUF : Builtin.Frozenset.updateFrom = UF
    wp_walk
    subst hUF
    obtain ⟨m,mv,led,rfl,hm,hled⟩:=id bt.tab
    refine aq (by simp [ownTable,SetTable.fill]) ?_
    refine wpAny_pure (wpAny_pure ?_)
    show wpAny _ _ (if ((ownTable m mv led []).fill != 0) = true then _ else _) _ _ _
    refine aq (by simp [ownTable,SetTable.fill]) ?_
    refine wpAny_bind (fK (cls:="set") (by simpa using hh) (hL.at fun o g=>kp _ _ g) hi hs hSt (Nat.ne_of_lt hl) fun h' t k hS=>?_)
    refine wpAny_pure ?_
    exact ⟨rfl,h h' t (fun c o g=>k c o (Nat.ne_of_lt (Heap.lt_size g)) (kp _ _ g)) hS⟩
   ·cases r₂ with
    | error e=>exact hr₂
    | ok fl₂ =>
     cases fl₂ with
     | ret r =>
      obtain ⟨rfl,hq⟩:=hr₂
      repeat (any_goals (first | assumption | wp_step))
     | _=>exact hr₂.elim
  | _=>exact hr.elim
end
theorem owner_sit : Manifest.owners.lookup (String.ofList ['r','o','t','a','r','e','t','i','_','t','e','s'].reverse) = some Manifest.sig_set_iterator:=by kernel_rfl
theorem slot_sit_next : Slot "set_iterator" "__next__" "set_iterator.__next__" :=
 .of (owner:="set_iterator") (n:="__next__") (by rw [typeLookup_type,builtinLookup_eq_fast]; kernel_rfl) (by decide +kernel) (by decide +kernel) (by decide +kernel)
  (by first | exact .inl (by decide +kernel) | exact .inr (by decide +kernel)) (by rw [isSubtype_type]; kernel_rfl)
theorem slot_sit_iter : Slot "set_iterator" "__iter__" "set_iterator.__iter__" :=
 .of (owner:="set_iterator") (n:="__iter__") (by rw [typeLookup_type,builtinLookup_eq_fast]; kernel_rfl) (by decide +kernel) (by decide +kernel) (by decide +kernel)
  (by first | exact .inl (by decide +kernel) | exact .inr (by decide +kernel)) (by rw [isSubtype_type]; kernel_rfl)
theorem cS (a : Value) : argsOk "set_iterator.__next__" ⟨[a],[]⟩:=by
 unfold argsOk; rw [signature?_of (id:="set_iterator.__next__") (n:=['_','_','t','x','e','n','_','_']) (o:=['r','o','t','a','r','e','t','i','_','t','e','s']) (by kernel_rfl) owner_sit]; kernel_rfl
theorem entry_sit_next : entryFor table "set_iterator.__next__" = some Builtin.«set_iterator.__next__»:=entryFor_of_fast (by kernel_rfl)
theorem len_fs : typeLookup (.type "frozenset") "__len__" = pure (some (.builtin "frozenset.__len__")):=by rw [typeLookup_type,builtinLookup_eq_fast]; kernel_rfl
theorem len_set : typeLookup (.type "set") "__len__" = pure (some (.builtin "set.__len__")):=by rw [typeLookup_type,builtinLookup_eq_fast]; kernel_rfl
noncomputable def setIt (a : Addr) (n ep slot i : Nat) : Obj:=⟨.type "set_iterator",none,.fields #[.int slot 0,.int i 0,.ref a,.int n 0,.int ep 0],#[]⟩
section
variable {C : Cx} {A : Around} {E : Value -> Shared -> Prop} {s : Shared} {a b r I L : Addr} {cls : String} {xs ys : List Int}
noncomputable def walkOrd (C : Cx) (a : Addr) (ep : Nat) (es : Array (Int × Value)) : Array (Int × Value):=if C.w.params.followText "set-order" = true then pickOrder (C.w.params.setOrder a ep) es else es
noncomputable def slotAt (C : Cx) (xs : List Int) (i : Nat) : Nat:=if C.w.params.followText "set-order" = true then 0 else if i = 0 then 0 else (xs.getD (i - 1) 0).toNat + 1
theorem cg (es : Array (Int × Value)) (ep : Nat) : (walkOrd C a ep es).toList.Perm es.toList:=by
 unfold walkOrd; split
 ·exact dL _ _
 ·exact .refl _
theorem bx (es : Array (Int × Value)) (ep : Nat) : (walkOrd C a ep es).size = es.size:=by
 have:=(cg (C:=C) (a:=a) es ep).length_eq; simpa using this
theorem hW {es : Array (Int × Value)} {ep : Nat} {t : SetTable} {Q : Array (Int × Value) -> Shared -> Prop} (g : s.heap.get? a = some ⟨.type cls,none,.set es ep t,#[]⟩) (b : SetBody C es t xs) (h : Q (walkOrd C a ep es) s) :
  wpAny (model C.prog C.w) A (setWalk a) Q E s:=by
 obtain ⟨m,mv,led,rfl,hm,hl⟩:=b.tab
 unfold setWalk setsByText
 refine wpAny_bind (wpAny_setState_of g rfl b.fits ?_)
 refine wpAny_bind (wpAny_bind (wpAny_askSetting (wpAny_pure ?_)))
 show wpAny _ _ (if C.w.params.followText "set-order" = true then _ else _) _ _ _
 unfold walkOrd at h
 by_cases hb : C.w.params.followText "set-order" = true
 ·rw [if_pos hb] at h ⊢
  exact wpAny_bind (wpAny_askSetting (wpAny_pure h))
 ·rw [if_neg hb] at h ⊢
  have hl' : led = true:=hl.resolve_right hb
  subst hl'
  exact wpAny_pure h
theorem hZ {es : Array (Int × Value)} {ep i : Nat} {t : SetTable} {Q : Option (Value × Nat) -> Shared -> Prop} (g : s.heap.get? a = some ⟨.type cls,none,.set es ep t,#[]⟩) (b : SetBody C es t xs) (hi : i ≤ xs.length)
  (h : Q ((walkOrd C a ep es)[i]?.map fun e=>(e.2,slotAt C xs (i + 1))) s) :
  wpAny (model C.prog C.w) A (setNext a (slotAt C xs i) i ep) Q E s:=by
 unfold setNext setsByText
 refine wpAny_bind (wpAny_setState_of g rfl b.fits ?_)
 refine wpAny_bind (wpAny_bind (wpAny_askSetting (wpAny_pure ?_)))
 show wpAny _ _ (if C.w.params.followText "set-order" = true then _ else _) _ _ _
 by_cases hb : C.w.params.followText "set-order" = true
 ·refine bH hb ?_
  simp only [bne_self_eq_false,Bool.false_eq_true,if_false]
  refine wpAny_bind (hW g b (wpAny_pure ?_))
  unfold slotAt at h ⊢
  rw [if_pos hb] at h ⊢
  exact h
 ·refine aq hb ?_
  have hz:=b.size
  have hel:=b.hs
  have hsm:=b.sm
  obtain ⟨m,mv,led,rfl,hm,hl⟩:=b.tab
  have hl' : led = true:=hl.resolve_right hb
  subst hl'
  refine wpAny_pure ?_
  have hn:=next_facts xs hsm.enum i (List.mem_range.mpr (by have:=len_facts _ hsm.enum; lia)) hi
  unfold slotAt at h ⊢
  rw [if_neg hb] at h ⊢
  unfold walkOrd at h
  rw [if_neg hb] at h
  have e1 : (ownTable m mv true xs).place = (xs.map Int.toNat).toArray:=rfl
  rw [e1,hn]
  by_cases hlt : i < xs.length
  ·have e2 : es[i]? = some es[i]:=Array.getElem?_eq_getElem (by rw [hz]; exact hlt)
   have e3 : (xs.map Int.toNat).toArray[i]? = some xs[i].toNat:=by simp [hlt]
   rw [e2,e3]
   rw [e2] at h
   have e4 : xs.getD (i + 1 - 1) 0 = xs[i]:=by simp [hlt]
   rw [if_neg (by lia),e4] at h
   exact h
  ·have e2 : es[i]? = none:=Array.getElem?_eq_none (by lia)
   rw [e2] at h ⊢
   exact h
end
structure eU (cls : String) : Prop where
 iter : ∃ id,Slot cls "__iter__" id /\ entryFor table id = some Builtin.«frozenset.__iter__» /\ ∀ a,argsOk id ⟨[a],[]⟩
 len : ∃ id o n,typeLookup (.type cls) "__len__" = pure (some (.builtin id)) /\ splitId id = some (o,n) /\ isSubtype (.type cls) (.type o) = pure true /\ (id = "set.__len__" \/ id = "frozenset.__len__")
 cls : cls = "set" \/ cls = "frozenset"
theorem setCls_set : eU "set":=⟨⟨_,slot_set_iter',entry_set_iter',ft⟩,⟨_,"set","__len__",len_set,by decide +kernel,sub_set_self,.inl rfl⟩,.inl rfl⟩
theorem setCls_fs : eU "frozenset":=⟨⟨_,slot_fs_iter,entry_fs_iter,gX⟩,⟨_,"frozenset","__len__",len_fs,by decide +kernel,sub_fs_fs,.inr rfl⟩,.inr rfl⟩
section
variable {C : Cx} {A : Around} {E : Value -> Shared -> Prop} {s : Shared} {a b r I L : Addr} {cls : String} {xs ys : List Int}
theorem tt {es : Array (Int × Value)} {ep : Nat} {t : SetTable} {Q : Value -> Shared -> Prop} (K : eU cls) (g : s.heap.get? a = some ⟨.type cls,none,.set es ep t,#[]⟩) (bd : SetBody C es t xs)
  (h : Q (.ref s.heap.objs.size) { s with heap:=s.heap.push (setIt a xs.length ep (slotAt C xs 0) 0) }) :
  wpAny (model C.prog C.w) A (pyIter (.ref a)) Q E s:=by
 refine bq K.iter fun id hs he ha=>?_
 have T : s.TypeIs (.ref a) cls:=⟨_,g,rfl⟩
 have hS : SetAt C s.heap cls a xs:=⟨_,_,_,g,bd⟩
 refine wpAny_pyIter_slot T hs (wpAny_call_entry hs T he ?_ (ha _))
 unfold Builtin.«frozenset.__iter__» Builtin.Frozenset.slot0 slotArgs
 simp only [List.isEmpty_nil,Bool.not_true,Bool.false_eq_true,↓reduceIte,bind_assoc,List.length_nil,bne_self_eq_false]
 unfold Builtin.Frozenset.addrOf
 refine wpAny_bind (wpAny_pure ?_)
 try dsimp only
 refine wpAny_bind (wpAny_pure ?_)
 refine wpAny_bind (dg hS ?_)
 have fin : wpAny (model C.prog C.w) A.in1 (setEpoch a >>= fun e=>newFields "set_iterator" [rawInt 0,rawInt 0,.ref a,rawInt xs.length,rawInt e] >>= ret) (fun fin s'=>∃ v,fin = Fin.done (Flow.ret v) /\ ∃ T' r,s'.TypeIs v T' /\ typeLookup (.type T') "__next__" = pure (some r) /\ Q v s') E s:=by
  refine wpAny_bind (wpAny_setEpoch_of g rfl bd.fits ?_)
  refine wpAny_bind (wpAny_newObj_type (wpAny_pure ⟨_,rfl,"set_iterator",_,⟨_,Heap.get?_push_size _ rfl,rfl⟩,slot_sit_next.lookup,?_⟩))
  have e0 : slotAt C xs 0 = 0:=by unfold slotAt; split <;> rfl
  rw [e0] at h
  exact h
 unfold setDrawn setsByText
 refine wpAny_bind (wpAny_bind (wpAny_setState_of g rfl bd.fits ?_))
 refine wpAny_bind (wpAny_bind (wpAny_askSetting (wpAny_pure (wpAny_pure ?_))))
 have hd : ∀ f : Bool,(if (f && false) = true then (drawOrder xs.length (List.range xs.length) >>= fun d=>newTuple (List.map (fun i : Nat=>rawInt ↑i) d) >>= fun first=>setEpoch a >>= fun e=>newFields "set_iterator" [first,rawInt 0,.ref a,rawInt xs.length,rawInt e] >>= ret) else (pure (rawInt 0) >>= fun first=>setEpoch a >>= fun e=>newFields "set_iterator" [first,rawInt 0,.ref a,rawInt xs.length,rawInt e] >>= ret)) = (setEpoch a >>= fun e=>newFields "set_iterator" [rawInt 0,rawInt 0,.ref a,rawInt xs.length,rawInt e] >>= ret):=fun f=>by
  rw [Bool.and_false,if_neg Bool.false_ne_true]; rfl
 obtain ⟨m,mv,led,rfl,hm,hl⟩:=bd.tab
 exact aE (hd _) fin
end
section
variable {C : Cx} {A : Around} {E : Value -> Shared -> Prop} {s : Shared} {a b r I L : Addr} {cls : String} {xs ys : List Int} {es : Array (Int × Value)} {ep i : Nat} {t : SetTable}
theorem aY (g : s.heap.get? I = some (setIt a xs.length ep (slotAt C xs i) i)) : s.TypeIs (.ref I) "set_iterator":=⟨_,g,rfl⟩
theorem n8 {e : Int × Value} {Q : Option Value -> Shared -> Prop} (hI : s.heap.get? I = some (setIt a xs.length ep (slotAt C xs i) i)) (g : s.heap.get? a = some ⟨.type cls,none,.set es ep t,#[]⟩) (bd : SetBody C es t xs) (hne : a ≠ I)
  (he : (walkOrd C a ep es)[i]? = some e)
  (h : ∀ h',h'.get? I = some (setIt a xs.length ep (slotAt C xs (i + 1)) (i + 1)) -> Heap.SameBut I s.heap h' -> Q (some e.2) { s with heap:=h' }) : wpAny (model C.prog C.w) A (pyNext (.ref I)) Q E s:=by
 have hlt : i < xs.length:=by
  obtain ⟨l,_⟩:=Array.getElem?_eq_some_iff.mp he
  rw [bx,bd.size] at l; exact l
 unfold pyNext
 refine wpAny_bind (wpAny_attempt (wpAny_callSpecial?_slot (name:=Str.ofString "__next__") (aY hI) slot_sit_next
  (wpAny_call_entry slot_sit_next (aY hI) entry_sit_next ?_ (cS _))))
 unfold Builtin.«set_iterator.__next__»
 refine wpAny_bind (wpAny_pure (wpAny_bind (wpAny_fieldsOf hI rfl ?_)))
 show wpAny _ _ (do
   if ((<- setEntries a).size : Int) != (xs.length : Int) then _
   else _) _ _ s
 refine wpAny_bind (wpAny_setEntries_of g rfl bd.fits ?_)
 refine aq (by rw [bd.size]; simp) ?_
 simp only [Int.toNat_natCast]
 refine wpAny_bind (hZ g bd (by lia) ?_)
 rw [he]
 dsimp only [Option.map_some]
 refine wpAny_bind (wpAny_setField hI rfl (by simp) ?_)
 have g1 : (s.heap.update I (Obj.mapFields (·.setIfInBounds 0 (rawInt (slotAt C xs (i + 1)))))).get? I = some (setIt a xs.length ep (slotAt C xs (i + 1)) i):=by
  have:=Heap.get?_update_self (Obj.mapFields (·.setIfInBounds 0 (rawInt (slotAt C xs (i + 1))))) hI rfl
  simpa [Obj.mapFields,setIt,rawInt] using this
 refine wpAny_bind (wpAny_setField g1 rfl (by simp) ?_)
 have g2 : ((s.heap.update I (Obj.mapFields (·.setIfInBounds 0 (rawInt (slotAt C xs (i + 1)))))).update I (Obj.mapFields (·.setIfInBounds 1 (rawInt ((i : Int) + 1))))).get? I = some (setIt a xs.length ep (slotAt C xs (i + 1)) (i + 1)):=by
  have:=Heap.get?_update_self (Obj.mapFields (·.setIfInBounds 1 (rawInt ((i : Int) + 1)))) g1 rfl
  simpa [Obj.mapFields,setIt,rawInt] using this
 exact wpAny_pure ⟨_,rfl,wpAny_pure (h _ g2 ((Heap.SameBut.update ..).trans (Heap.SameBut.update ..)))⟩
theorem pM {Q : Option Value -> Shared -> Prop} (hh : A.handled = none) (hI : s.heap.get? I = some (setIt a xs.length ep (slotAt C xs i) i)) (g : s.heap.get? a = some ⟨.type cls,none,.set es ep t,#[]⟩) (bd : SetBody C es t xs) (hne : a ≠ I) (hi : i = xs.length)
  (h : ∀ h',Heap.ExtBut I s.heap h' -> Q none { s with heap:=h' }) : wpAny (model C.prog C.w) A (pyNext (.ref I)) Q E s:=by
 unfold pyNext
 refine wpAny_bind (wpAny_attempt (wpAny_callSpecial?_slot (name:=Str.ofString "__next__") (aY hI) slot_sit_next
  (wpAny_call_entry slot_sit_next (aY hI) entry_sit_next ?_ (cS _))))
 unfold Builtin.«set_iterator.__next__»
 refine wpAny_bind (wpAny_pure (wpAny_bind (wpAny_fieldsOf hI rfl ?_)))
 show wpAny _ _ (do
   if ((<- setEntries a).size : Int) != (xs.length : Int) then _
   else _) _ _ s
 refine wpAny_bind (wpAny_setEntries_of g rfl bd.fits ?_)
 refine aq (by rw [bd.size]; simp) ?_
 simp only [Int.toNat_natCast]
 refine wpAny_bind (hZ g bd (by lia) ?_)
 rw [show (walkOrd C a ep es)[i]? = none from Array.getElem?_eq_none (by rw [bx,bd.size]; lia)]
 dsimp only [Option.map_none]
 refine wpAny_bind (wpAny_setField hI rfl (by simp) ?_)
 show wpAny _ _ (newExc (.type "StopIteration") [] >>= _) _ _ _
 simp only [newExc,newTuple]
 refine wpAny_bind (wpAny_bind (wpAny_newObj_type ?_ (by size_fits)))
 refine wpAny_bind (m:=firstArgMember _ _) (wpAny_of_eq (a:=Value.none) (by first | rfl | (simp only [firstArgMember]; rfl)) (wpAny_newObj_type ?_ (by size_fits)))
 simp only [raiseNew]
 refine wpAny_bind (wpAny_handled ?_)
 rw [show A.in1.handled = none from hh]
 refine wpAny_bind (wpAny_pure (wpAny_throw ?_))
 refine wpAny_bind (wpAny_isInstance (T:="StopIteration") (b:=true) ⟨_,Heap.get?_push_size _ rfl,rfl⟩ isSubtype_stop ?_)
 exact wpAny_pure (h _ (((Heap.SameBut.update ..).extBut.push _).push _))
end
theorem entry_sit_iter : entryFor table "set_iterator.__iter__" = some Builtin.«dict_keyiterator.__iter__» :=
 entryFor_alias (id':="dict_keyiterator.__iter__") (by kernel_rfl) rfl (by decide +kernel) (by kernel_rfl)
theorem fr (a : Value) : argsOk "set_iterator.__iter__" ⟨[a],[]⟩:=by
 unfold argsOk; rw [signature?_of (id:="set_iterator.__iter__") (n:=['_','_','r','e','t','i','_','_']) (o:=['r','o','t','a','r','e','t','i','_','t','e','s']) (by kernel_rfl) owner_sit]; kernel_rfl
section
variable {C : Cx} {A : Around} {E : Value -> Shared -> Prop} {s : Shared} {a b r I L : Addr} {cls : String} {xs ys : List Int} {es : Array (Int × Value)} {ep i : Nat} {t : SetTable}
theorem lS (hh : A.handled = none) (bd : SetBody C es t xs) (hne : a ≠ I) :
  WalksS C.prog C.w A I [I,a] [I] (fun x y=>x = y) xs.length (fun i v=>∃ e,(walkOrd C a ep es)[i]? = some e /\ v = e.2)
   (fun i s=>s.heap.get? I = some (setIt a xs.length ep (slotAt C xs i) i) /\ s.heap.get? a = some ⟨.type cls,none,.set es ep t,#[]⟩) where
 sub:=fun b hb=>by simp at hb; simp [hb]
 grefl:=fun uw=>rfl
 gtrans:=fun uw uw uw x y=>x.trans y
 frame:=fun i s h' tk st uw k=>⟨k I (by simp) _ st.1,k a (by simp) _ st.2⟩
 item:=fun i s Q E hi st hQ=>by
  have hl : i < (walkOrd C a ep es).size:=by rw [bx,bd.size]; exact hi
  refine n8 st.1 st.2 bd hne (Array.getElem?_eq_getElem hl) fun h' g' sb=>?_
  exact hQ _ _ ⟨_,Array.getElem?_eq_getElem hl,rfl⟩ ⟨g',(sb.2 _ hne).trans st.2⟩ ⟨fun b o hb e=>(sb.2 b (by simpa using hb)).trans e,rfl,rfl,rfl,Nat.le_refl _⟩
 done:=fun s Q E st hQ=>pM hh st.1 st.2 bd hne rfl fun h' k=>hQ _ ⟨fun b o hb e=>k b o (by simpa using hb) e,rfl,rfl,rfl,Nat.le_refl _⟩
 self:=fun i s Q E st hQ=>by
  refine wpAny_pyIter_slot (aY st.1) slot_sit_iter (wpAny_call_entry slot_sit_iter (aY st.1) entry_sit_iter ?_ (fr _))
  exact wpAny_pure ⟨_,rfl,"set_iterator",_,aY st.1,slot_sit_next.lookup,hQ⟩
theorem sQ {I : Addr} {s s' : Shared} (hm : Moved [I] (fun x y=>x = y) s s') : s' = { s with heap:=s'.heap,toks:=s'.toks }:=by
 obtain ⟨_,g,d,o,_⟩:=hm
 cases s; cases s'; simp_all
set_option maxHeartbeats 3200000 in
theorem ot {Q : List Value -> Shared -> Prop} (hh : A.handled = none) (K : eU cls) (hS : SetAt C s.heap cls a xs)
  (h : ∀ (vs : List Value) (ns : List Int) h' tk,Keeps s.heap h' -> IntsAre vs ns -> ns.Perm xs -> Q vs { s with heap:=h',toks:=tk }) : wpAny (model C.prog C.w) A (collect (.ref a)) Q E s:=by
 refine av (id hS) fun es ep t g bd=>?_
 have la:=Heap.lt_size g
 unfold collect
 refine wpAny_bind (wpAny_runValue (codeAny_builtin entry_proto_collect' ?_))
 show wpAny _ _ (do again (.builtin "list.__iadd__" ⟨[<- newList [],.ref a],[]⟩)) _ _ s
 refine wpAny_bind (wpAny_newList (wpAny_pure ⟨Code.quiet_builtin _ (by decide +kernel),codeAny_builtin entry_list_iadd' ?_⟩))
 rw [Around.under_plainId PySem.F.plain_list_iadd _]
 show wpAny _ _ (Builtin.List.listExtendWith (.ref s.heap.objs.size) (.ref a) (.ref s.heap.objs.size)) _ _ { s with heap:=s.heap.push (seqObj "list" #[] 0) }
 unfold Builtin.List.listExtendWith
 have k1 : Keeps s.heap (s.heap.push (seqObj "list" #[] 0)):=fun c oc e=>Heap.get?_push_of_some _ e
 have g1:=k1 _ _ g
 have T1 : Shared.TypeIs { s with heap:=s.heap.push (seqObj "list" #[] 0) } (.ref a) cls:=⟨_,g1,rfl⟩
 refine wpAny_bind (wpAny_typeOf T1 ?_)
 have c1 : Builtin.List.listSameRef (.ref s.heap.objs.size) (.ref a) = false:=by simp [Builtin.List.listSameRef]; exact Nat.ne_of_gt la
 have c2 : (Value.type cls == Value.type "list") = false:=by rcases K.cls with rfl | rfl <;> decide
 have c3 : (Value.type cls == Value.type "tuple") = false:=by rcases K.cls with rfl | rfl <;> decide
 refine aq (by rw [c1,c2,c3]; simp) ?_
 refine wpAny_bind (tt K g1 bd ?_)
 have hI : (s.heap.push (seqObj "list" #[] 0)).objs.size = s.heap.objs.size + 1:=size_push' _ _
 have hne : a ≠ (s.heap.push (seqObj "list" #[] 0)).objs.size:=by rw [hI]; exact Nat.ne_of_lt (Nat.lt_succ_of_lt la)
 have k2 : Keeps (s.heap.push (seqObj "list" #[] 0)) ((s.heap.push (seqObj "list" #[] 0)).push (setIt a xs.length ep (slotAt C xs 0) 0)):=fun c oc e=>Heap.get?_push_of_some _ e
 have g2:=k2 _ _ g1
 have T2 : Shared.TypeIs { s with heap:=(s.heap.push (seqObj "list" #[] 0)).push (setIt a xs.length ep (slotAt C xs 0) 0) } (.ref a) cls:=⟨_,g2,rfl⟩
 refine wpAny_bind (wpAny_holding ?_)
 refine bf K.len fun id ow nm hlen hsp hsub hid=>?_
 unfold Builtin.List.listLengthHint
 refine wpAny_bind (wpAny_specialOf T2 hlen ?_)
 dsimp only; rw [hsp]
 refine wpAny_bind (wpAny_isInstance T2 hsub ?_)
 refine aq (by simp) ?_
 refine aE (if_pos (by rcases hid with rfl | rfl <;> kernel_rfl)) ?_
 refine wpAny_bind (wpAny_typeOf T2 (wpAny_pure ?_))
 refine aE (if_pos (by rcases K.cls with rfl | rfl <;> decide)) ?_
 refine wpAny_bind (wpAny_rule ?_)
 have hL1 : ((s.heap.push (seqObj "list" #[] 0)).push (setIt a xs.length ep (slotAt C xs 0) 0)).get? s.heap.objs.size = some (seqObj "list" #[] 0):=k2 _ _ (Heap.get?_push_size _ rfl)
 refine wpAny_bind ?_
 show wpAny _ A.in1 (updateSeq s.heap.objs.size (·.push .none) >>= fun uw=>updateSeq s.heap.objs.size (·.pop)) _ _ _
 refine wpAny_bind (wpAny_updateSeq hL1 rfl ?_)
 have hL2:=Heap.get?_update_self (Obj.mapSeq (·.push Value.none)) hL1 rfl
 refine wpAny_updateSeq hL2 rfl ?_
 have hL3:=Heap.get?_update_self (Obj.mapSeq (·.pop)) hL2 rfl
 have oth : ∀ c o,c ≠ s.heap.objs.size -> ((s.heap.push (seqObj "list" #[] 0)).push (setIt a xs.length ep (slotAt C xs 0) 0)).get? c = some o ->
   ((((s.heap.push (seqObj "list" #[] 0)).push (setIt a xs.length ep (slotAt C xs 0) 0)).update s.heap.objs.size (Obj.mapSeq (·.push Value.none))).update s.heap.objs.size (Obj.mapSeq (·.pop))).get? c = some o :=
  fun c o hc e=>(Heap.get?_update_other _ _ (Ne.symm hc)).trans ((Heap.get?_update_other _ _ (Ne.symm hc)).trans e)
 have hl7:=len_facts _ bd.sm.enum
 have hSf : s.heap.objs.size ∉ [(s.heap.push (seqObj "list" #[] 0)).objs.size,a]:=by
  rw [hI]; simp only [List.mem_cons,List.not_mem_nil,or_false,not_or]
  exact ⟨Nat.ne_of_lt (Nat.lt_succ_self _),Nat.ne_of_gt la⟩
 have hi0 : ((s.heap.push (seqObj "list" #[] 0)).push (setIt a xs.length ep (slotAt C xs 0) 0)).get? (s.heap.push (seqObj "list" #[] 0)).objs.size = some (setIt a xs.length ep (slotAt C xs 0) 0):=Heap.get?_push_size _ rfl
 refine wpAny_pure ⟨plainId_quiet PySem.F.plain_extend_loop _,codeAny_extend_loopS (lS (A:=A.in1) (by simpa using hh) bd hne) (by rw [sizeLine_eq]; lia) _ hSf _ xs.length 0 _ _ _ rfl (Nat.zero_le _)
  ⟨oth _ _ (by rw [hI]; exact Nat.ne_of_gt (Nat.lt_succ_self _)) hi0,oth _ _ (Nat.ne_of_lt la) g2⟩ hL3 (ItemsOf.nil _) fun s' acc' c' hm hS' hacc=>?_⟩
 show wpAny _ A (load s.heap.objs.size >>= _) _ _ s'
 refine wpAny_bind (wpAny_load hS' ?_)
 refine wpAny_pure ?_
 have e1 : s' = { s with heap:=s'.heap,toks:=s'.toks }:=by
  obtain ⟨_,g,d,o,_⟩:=hm
  obtain ⟨h1,g1,d1,t1,o1⟩:=s'
  simp only at g d o
  subst g; subst d; subst o; rfl
 rw [e1]
 have ev : acc'.toList = (walkOrd C a ep es).toList.map (·.2):=by
  apply List.ext_getElem?
  intro i
  rw [Array.getElem?_toList,List.getElem?_map,Array.getElem?_toList]
  cases hx : acc'[i]? with
  | some v=>obtain ⟨e,he,rfl⟩:=hacc.2 i v hx; rw [he]; rfl
  | none =>
   have:=Array.getElem?_eq_none_iff.mp hx
   rw [hacc.1] at this
   rw [Array.getElem?_eq_none (by rw [bx,bd.size]; exact this)]; rfl
 show Q acc'.toList _
 rw [ev]
 refine h _ ((walkOrd C a ep es).toList.map (·.1)) _ _ (fun c o e=>?_) ?_ ?_
 ·have hc:=Heap.lt_size e
  refine hm.heap c o ?_ (oth c o (Nat.ne_of_lt hc) (k2 _ _ (k1 _ _ e)))
  rw [hI]; simp only [List.mem_cons,List.not_mem_nil,or_false,not_or]
  exact ⟨Nat.ne_of_lt hc,Nat.ne_of_lt (Nat.lt_succ_of_lt hc)⟩
 ·have : ∀ l : List (Int × Value),(∀ e ∈ l,EltOk e) -> IntsAre (l.map (·.2)) (l.map (·.1)):=by
   intro l
   induction l with
   | nil=>intro _; exact .nil
   | cons e l ih =>
    intro hl
    refine aw (hl e List.mem_cons_self) fun tk he uw=>?_
    rw [List.map_cons,List.map_cons,he]
    exact .cons _ _ (ih fun x hx=>hl x (List.mem_cons_of_mem _ hx))
  exact this _ fun e he=>bd.ok e ((cg es ep).mem_iff.mp he)
 ·rw [<- bd.hs]
  exact (cg es ep).map _
end
section
variable {C : Cx} {A : Around} {E : Value -> Shared -> Prop} {s : Shared} {a b r I L : Addr} {cls : String} {xs ys : List Int} {ι : List Addr} {σ : Hp} {own : Addr -> Prop}
theorem Sm.of_perm {ns : List Int} (h : Sm xs) (p : ns.Perm xs) (le : ns.Pairwise (· ≤ ·)) : ns = xs:=by
 have nd : ns.Nodup:=p.symm.nodup (h.inc.imp fun {x y} l=>by lia)
 have lt : ns.Pairwise (· < ·):=(le.and nd).imp fun {x y} q=>by have:=q.1; have:=q.2; lia
 exact Inc.ext lt h.inc fun i=>p.mem_iff
theorem m6 {vs : List Value} {ns : List Int} {Q : Value -> Shared -> Prop} (hI : IntsAre vs ns) (h64 : vs.length < 64)
  (h : ∀ h' (out : List Value) (ns' : List Int) n,Keeps s.heap h' -> h'.get? s.heap.objs.size = some ⟨.type "list",none,.seq out.toArray n,#[]⟩ -> IntsAre out ns' -> ns'.Perm ns -> ns'.Pairwise (· ≤ ·) -> Q (.ref s.heap.objs.size) { s with heap:=h' }) :
  wpAny (model C.prog C.w) A (do let l <- newList vs; let _ <- holding [l] (call (.builtin "list.sort") [l] []); ret l) (fun fin s'=>∃ v,fin = Fin.done (Flow.ret v) /\ Q v s') E s:=by
 refine wpAny_bind (wpAny_newList ?_)
 have hoL : (s.heap.push (seqObj "list" vs.toArray 0)).get? s.heap.objs.size = some (seqObj "list" vs.toArray 0):=Heap.get?_push_size _ rfl
 refine wpAny_bind (wpAny_holding (wpAny_call_entry slot_list_sort ⟨_,hoL,rfl⟩ entry_list_sort (list_sort_tree hoL hI h64 fun out ns' a1 a2 a3=>⟨_,rfl,?_⟩) (args_list_sort _)))
 refine wpAny_pure ⟨_,rfl,?_⟩
 obtain ⟨n,hn⟩:=sortedHeap_at (out:=out) hoL
 refine h _ out.toList ns' n (fun c o e=>?_) (by simpa using hn) a1 a2 a3
 have lc:=Heap.lt_size e
 rw [sortedHeap_old (Nat.ne_of_lt lc) (by rw [size_push']; exact Nat.lt_succ_of_lt lc)]
 exact Heap.get?_push_of_some _ e
theorem jR {Q : Value -> Shared -> Prop} (hh : A.handled = none) (K : eU cls) (hS : SetAt C s.heap cls a xs)
  (h : ∀ L h' (out : List Value) n tk,s.heap.objs.size ≤ L -> Keeps s.heap h' -> h'.get? L = some ⟨.type "list",none,.seq out.toArray n,#[]⟩ -> IntsAre out xs -> Q (.ref L) { s with heap:=h',toks:=tk }) :
  wpAny (model C.prog C.w) A (call (.builtin "sorted") [.ref a]) Q E s:=by
 refine Calls.call_function_entry kind_sorted plain_sorted entry_sorted (args_sorted1 _) ?_
 unfold Builtin.«sorted»
 refine wpAny_bind (m:=checkCount "sorted" 1 1 _) (wpAny_pure ?_)
 have sm : Sm xs:=by obtain ⟨_,_,_,_,bd⟩:=hS; exact bd.sm
 refine wpAny_bind (aj (ot (by simpa using hh) K hS fun vs ns h1 tk k1 hi hp z1=>?_))
 have h64 : vs.length < 64:=by rw [hi.length,hp.length_eq]; have:=len_facts _ sm.enum; lia
 exact m6 (C:=C) (s:={ s with heap:=h1,toks:=tk }) hi h64 fun h' out ns' n k2 g i2 p2 le=>by
  have e:=sm.of_perm (p2.trans hp) le
  subst e
  exact h _ h' out n tk z1 (fun c o e=>k2 _ _ (k1 _ _ e)) g i2
end
theorem TupsAre.keepT {h h' : Heap} {vs : List Value} {ks : List (List Int)} (x : TupsAre h vs ks) (k : ∀ c o,h.get? c = some o -> o.cls = .type "tuple" -> h'.get? c = some o) : TupsAre h' vs ks:=by
 induction x with
 | nil=>exact .nil
 | cons g i n _ ih=>exact .cons (k _ _ g rfl) i n ih
theorem TupsAre.ne {h : Heap} : ∀ {vs : List Value} {ks : List (List Int)} (x : TupsAre h vs ks) {i : Nat},i < vs.length -> ks.getD i [] ≠ []
 | _,_,.nil,_,l=>by simp at l
 | _,_,.cons g i n r,0,_=>by simpa using n
 | _,_,.cons g i _ r,j + 1,l=>by
  have:=r.ne (i:=j) (by simpa using l)
  simpa using this
section
variable {prog : Program} {w : World} {A : Around} {E : Value -> Shared -> Prop} {s : Shared}
theorem kL {a : Addr} {vs : List Value} {ks : List (List Int)} {n : Nat} {P : PySem.Fin -> Shared -> Prop} (ho : s.heap.get? a = some (seqObj "list" vs.toArray n)) (hT : TupsAre s.heap vs ks) (hna : ∀ c o,s.heap.get? c = some o -> o.cls = .type "tuple" -> c ≠ a) (h64 : vs.length < 64)
  (h : ∀ out : List Value,TupsAre s.heap out (sortK ks) -> P (.done (.ret .none)) { s with heap:=sortedHeap s.heap a vs out.toArray }) :
  wpAny (model prog w) A (Builtin.«list.sort» ⟨[.ref a],[]⟩) P E s:=by
 rw [list_sort_plain]
 have ha : a < s.heap.objs.size:=Heap.lt_size ho
 refine wpAny_bind (listItems_at ho rfl ?_)
 refine wpAny_bind (listUpdate_at ho rfl ?_ (by rw [List.size_toArray,sizeLine_eq]; lia) (Nat.zero_le _))
 obtain ⟨e1,ho1⟩ : ∃ e1,(s.heap.update a (Obj.mapSeq fun uw=>#[])).get? a = some (seqObj "list" #[] e1):=⟨_,get?_update_seq ho (fun uw=>#[])⟩
 refine wpAny_bind (seqEpoch_at ho1 rfl ?_)
 refine wpAny_bind (wpAny_newTuple ?_ (by rw [sizeLine_eq]; simp; lia))
 refine wpAny_bind (wpAny_newList ?_)
 refine wpAny_holding ?_
 have ho6 : (((s.heap.update a (Obj.mapSeq fun uw=>#[])).push (seqObj "tuple" vs.toArray 0)).push (seqObj "list" #[] 0)).get? a = some (seqObj "list" #[] e1):=by
  rw [Heap.get?_push_ne _ _ _ (by rw [size_push',Heap.size_update]; exact Nat.ne_of_lt (Nat.lt_succ_of_lt ha)),Heap.get?_push_ne _ _ _ (by rw [Heap.size_update]; exact Nat.ne_of_lt ha)]
  exact ho1
 have kt : ∀ c o,s.heap.get? c = some o -> o.cls = .type "tuple" -> (((s.heap.update a (Obj.mapSeq fun uw=>#[])).push (seqObj "tuple" vs.toArray 0)).push (seqObj "list" #[] 0)).get? c = some o:=fun c o e hc =>
  Heap.get?_push_of_some _ (Heap.get?_push_of_some _ ((Heap.get?_update_other _ _ (Ne.symm (hna c o e hc))).trans e))
 have hT' : TupsAre (((s.heap.update a (Obj.mapSeq fun uw=>#[])).push (seqObj "tuple" vs.toArray 0)).push (seqObj "list" #[] 0)) vs ks:=hT.keepT kt
 show wpAny (model prog w) A _ P E { s with heap:=((s.heap.update a (Obj.mapSeq fun uw=>#[])).push (seqObj "tuple" vs.toArray 0)).push (seqObj "list" #[] 0) }
 dsimp only
 have hsz : vs.toArray.size = vs.length:=by simp
 have hl:=hT.length
 by_cases h2 : vs.toArray.size < 2
 ·rw [if_pos h2,if_pos h2]
  refine wpAny_bind (wpAny_pure ?_)
  rw [StateT.run_pure]
  refine wpAny_bind (wpAny_pure ?_)
  dsimp only
  refine wpAny_bind (seqEpoch_at ho6 rfl ?_)
  have ez : ∀ st : SortSt,st = SortSt.mk' general' (vs.toArray.zip vs.toArray) #[] 7 none -> (arrOf st).map (·.2) = vs.toArray:=by
   rintro _ rfl
   show (vs.toArray.zip vs.toArray).map (·.2) = vs.toArray
   apply Array.toList_inj.mp
   simp [List.map_snd_zip]
  refine wpAny_bind (listUpdate_at ho6 rfl ?_ (hsz2:=by show ((arrOf (SortSt.mk' general' (vs.toArray.zip vs.toArray) #[] 7 none)).map (·.2)).size ≤ _; rw [ez _ rfl,hsz,sizeLine_eq]; lia))
  simp only [bne_self_eq_false,Bool.false_eq_true,if_false]
  refine wpAny_pure ?_
  have es : sortK ks = ks:=by
   match ks,hl with
   | [],_=>rfl
   | [_],_=>rfl
   | _ :: _ :: _,hl=>exfalso; simp at hl; lia
  have h0:=h vs (by rw [es]; exact hT)
  rw [<- ez _ rfl] at h0
  exact h0
 ·rw [if_neg h2,if_neg h2]
  refine bq hT'.firsts fun fs kf lf hf=>?_
  refine wpAny_bind (kat_kind (T:=.type "int") kf (by lia) (fun v hv=>?_) (by decide) ?_)
  ·obtain ⟨i,t,rfl⟩:=hf v hv
   exact Looks.now
  rw [show (Value.type "int" != Value.type "tuple") = true by decide]
  refine wpAny_bind (wpAny_mono (kat_run (ks:=vs) (vs:=vs) (κ:=tuples' true)
   (Q:=fun st' s'=>failedOf st' = none /\ (∃ p,Ent vs.length p /\ Up (rankL ks) p vs.length /\ arrOf st' = p.map (kas_item (vs.toArray.zip vs.toArray))) /\ s' = { s with heap:=((s.heap.update a (Obj.mapSeq fun uw=>#[])).push (seqObj "tuple" vs.toArray 0)).push (seqObj "list" #[] 0) })
   (G:=fun p s'=>s' = { s with heap:=((s.heap.update a (Obj.mapSeq fun uw=>#[])).push (seqObj "tuple" vs.toArray 0)).push (seqObj "list" #[] 0) } /\ Ent vs.length p /\ Up (rankL ks) p vs.length) rfl (by lia) h64 (fun p st' s' hp har hfl hG=>⟨hfl,⟨p,hG.2.1,hG.2.2,har⟩,hG.1⟩)
   (nE (r:=rankL ks) (N:=vs.length) (fun i j C hi hj hC=>?_) (Q:=fun p=>Ent vs.length p /\ Up (rankL ks) p vs.length) (fun p q=>⟨rfl,q⟩) (pJ (by lia) fun p e u=>⟨e,u⟩))) ?_ fun uw uw z=>z)
  ·unfold kas_ask
   refine hT'.lt (fun uw uw e=>e) hi hj ?_
   rw [jY (by lia) (by lia)]
   exact hC
  ·rintro ⟨⟨⟩,st'⟩ s' ⟨hfl,⟨p,ep,up,har⟩,rfl⟩
   dsimp only
   have hsn:=kat_snds (ks:=vs) (vs:=vs) rfl har
   have hlen : (p.toList.map fun i=>vs.getD i Value.none).length = vs.length:=by simp [ep.size]
   refine wpAny_bind (seqEpoch_at ho6 rfl ?_)
   refine wpAny_bind (listUpdate_at ho6 rfl ?_ (hsz2:=by show ((arrOf st').map (·.2)).size ≤ _; rw [hsn,List.size_toArray,hlen,sizeLine_eq]; lia))
   rw [hfl]
   simp only [bne_self_eq_false,Bool.false_eq_true,if_false]
   refine wpAny_pure ?_
   rw [hsn]
   refine h _ ?_
   rw [<- jd hl.symm ep up]
   have : ∀ l : List Nat,(∀ i ∈ l,i < vs.length) -> TupsAre s.heap (l.map fun i=>vs.getD i Value.none) (l.map fun i=>ks.getD i []):=by
    intro l
    induction l with
    | nil=>intro _; exact .nil
    | cons i l ih =>
     intro hm
     refine cK (hT.get (hm i List.mem_cons_self)) fun c n us e1 g1 i1=>?_
     rw [List.map_cons,List.map_cons,e1]
     refine .cons g1 i1 ?_ (ih fun j m=>hm j (List.mem_cons_of_mem _ m))
     exact hT.ne (hm i List.mem_cons_self)
   exact this _ fun i m=>List.mem_range.mp (ep.perm.mem_iff.mp m)
end
section
variable {prog : Program} {w : World} {A : Around} {E : Value -> Shared -> Prop} {s : Shared}
theorem oZ {l : Addr} {vs : List Value} {ks : List (List Int)} {Q : Value -> Shared -> Prop} (hl : s.heap.IsList l vs.toArray) (hT : TupsAre s.heap vs ks) (h64 : vs.length < 64)
  (h : ∀ L h' (out : List Value) n,s.heap.objs.size ≤ L -> Keeps s.heap h' -> h'.get? L = some ⟨.type "list",none,.seq out.toArray n,#[]⟩ -> TupsAre h' out (sortK ks) -> Q (.ref L) { s with heap:=h' }) :
  wpAny (model prog w) A (call (.builtin "sorted") [.ref l]) Q E s:=by
 refine Calls.call_function_entry kind_sorted plain_sorted entry_sorted (args_sorted1 _) ?_
 unfold Builtin.«sorted»
 refine wpAny_bind (m:=checkCount "sorted" 1 1 _) (wpAny_pure ?_)
 refine wpAny_bind (collect_list hl ?_ (by rw [sizeLine_eq]; omega))
 refine wpAny_bind (wpAny_newList ?_)
 have hsz : ((s.heap.push (seqObj "list" #[] 0)).update s.heap.objs.size (Obj.mapSeq (· ++ vs.toArray))).objs.size = s.heap.objs.size + 1:=by
  rw [Heap.size_update,size_push']
 have hoL : (((s.heap.push (seqObj "list" #[] 0)).update s.heap.objs.size (Obj.mapSeq (· ++ vs.toArray))).push (seqObj "list" vs.toArray 0)).get? (s.heap.objs.size + 1) = some (seqObj "list" vs.toArray 0):=by
  rw [<- hsz]; exact Heap.get?_push_size _ rfl
 have kp : Keeps s.heap (((s.heap.push (seqObj "list" #[] 0)).update s.heap.objs.size (Obj.mapSeq (· ++ vs.toArray))).push (seqObj "list" vs.toArray 0)):=fun c o e =>
  Heap.get?_push_of_some _ ((Heap.get?_update_other _ _ (Ne.symm (Nat.ne_of_lt (Heap.lt_size e)))).trans (Heap.get?_push_of_some _ e))
 show wpAny _ _ _ _ _ { s with heap:=((s.heap.push (seqObj "list" #[] 0)).update s.heap.objs.size (Obj.mapSeq (· ++ vs.toArray))).push (seqObj "list" vs.toArray 0) }
 rw [hsz]
 refine wpAny_bind (wpAny_holding (wpAny_call_entry slot_list_sort ⟨_,hoL,rfl⟩ entry_list_sort (kL hoL (hT.keeps kp) (fun c o e hc q=>?_) h64 fun out hO=>⟨_,rfl,?_⟩) (args_list_sort _)))
 ·subst q
  rw [hoL] at e; cases e; exact absurd hc (show Value.type "list" ≠ Value.type "tuple" by decide)
 ·obtain ⟨n,hn⟩:=sortedHeap_at (out:=out.toArray) hoL
  have lt : s.heap.objs.size + 1 < (((s.heap.push (seqObj "list" #[] 0)).update s.heap.objs.size (Obj.mapSeq (· ++ vs.toArray))).push (seqObj "list" vs.toArray 0)).objs.size:=Heap.lt_size hoL
  have ks : ∀ c o,c ≠ s.heap.objs.size + 1 -> (((s.heap.push (seqObj "list" #[] 0)).update s.heap.objs.size (Obj.mapSeq (· ++ vs.toArray))).push (seqObj "list" vs.toArray 0)).get? c = some o -> (sortedHeap (((s.heap.push (seqObj "list" #[] 0)).update s.heap.objs.size (Obj.mapSeq (· ++ vs.toArray))).push (seqObj "list" vs.toArray 0)) (s.heap.objs.size + 1) vs out.toArray).get? c = some o:=fun c o hc e=>by
   rw [sortedHeap_old hc (Heap.lt_size e)]; exact e
  refine wpAny_pure ⟨_,rfl,h _ _ out n (Nat.le_succ _) (fun c o e=>ks c o (Nat.ne_of_lt (Nat.lt_succ_of_lt (Heap.lt_size e))) (kp _ _ e)) hn (hO.keepT fun c o e hc=>ks c o (fun q=>?_) e)⟩
  subst q
  rw [hoL] at e; cases e; exact absurd hc (show Value.type "list" ≠ Value.type "tuple" by decide)
end
section
variable {C : Cx} {ι : List Addr} {σ : Hp} {s : Shared} {A : Around} {d : Nat}
theorem aU {v : AV} {w : Value} {h' : Heap} {t : Nat} (H : HOk C ι σ s.heap) (k : Keeps s.heap h') (z : s.heap.objs.size ≤ h'.objs.size) (r : VRep C ι h' v w) : PostE C ι s σ v w { s with heap:=h',toks:=t } :=
 ⟨ι,.grow k z,H.grow k z,r⟩
theorem HOk.fresh {h h' : Heap} {L : Addr} {x : AO} (H : HOk C ι σ h) (k : Keeps h h') (z : h.objs.size ≤ h'.objs.size) (l : h.objs.size ≤ L) (r : ORep C (ι ++ [L]) h' x L) : HOk C (ι ++ [L]) (σ ++ [x]) h':=by
 refine ⟨by simp [H.len],?_,fun b o' e=>k b o' (H.base b o' e),?_,?_,Nat.le_trans H.low z⟩
 ·refine List.nodup_append.mpr ⟨H.nod,by simp,fun a ha b hb=>?_⟩
  simp only [List.mem_singleton] at hb
  subst hb
  exact Nat.ne_of_lt (Nat.lt_of_lt_of_le (H.lt ha) l)
 ·intro a ha
  rcases List.mem_append.mp ha with q | q
  ·exact H.abv a q
  ·simp only [List.mem_singleton] at q; subst q; exact Nat.le_trans H.low l
 ·intro α y a e i
  by_cases q : α < σ.length
  ·rw [List.getElem?_append_left q] at e
   rw [List.getElem?_append_left (H.len ▸ q)] at i
   exact (H.rep e i).mono (List.prefix_append _ _) k.imm fun o q=>k _ o q
  ·have q' : α = σ.length:=by
    obtain ⟨l,_⟩:=List.getElem?_eq_some_iff.mp e
    simp at l; omega
   subst q'
   rw [List.getElem?_append_right (Nat.le_refl _)] at e
   rw [<- H.len,List.getElem?_append_right (Nat.le_refl _)] at i
   simp at e i
   subst e; subst i; exact r
theorem Step.freshS {own : Addr -> Prop} {h' : Heap} {t : Nat} {L : Addr} (k : Keeps s.heap h') (z : s.heap.objs.size ≤ h'.objs.size) (l : s.heap.objs.size ≤ L) : Step own ι s (ι ++ [L]) { s with heap:=h',toks:=t } :=
 ⟨k.imm,fun a o e uw uw=>k a o e,List.prefix_append _ _,fun a m n=>by
  rcases List.mem_append.mp m with q | q
  ·exact absurd q n
  ·simp only [List.mem_singleton] at q; subst q; exact l,z,rfl,rfl⟩
theorem dj {xs : List AV} {vs : List Value} {r : AV × Hp} {h' : Heap} {t n : Nat} {L : Addr} (H : HOk C ι σ s.heap) (k : Keeps s.heap h') (z : s.heap.objs.size ≤ h'.objs.size) (l : s.heap.objs.size ≤ L) (g : h'.get? L = some ⟨.type "list",none,.seq vs.toArray n,#[]⟩) (rv : VReps C ι h' xs vs) (e : mkList σ xs = some r) :
  PostE C ι s r.2 r.1 (.ref L) { s with heap:=h',toks:=t }:=by
 unfold mkList at e
 split at e
 ·rename_i hl
  cases e
  refine ⟨ι ++ [L],Step.freshS k z l,H.fresh k z l (.list g (rv.mono (List.prefix_append _ _) fun uw uw e uw=>e) hl),.ref ?_⟩
  rw [<- H.len]; simp
 ·cases e
theorem cZ {xs : List AV} {r : AV × Hp} (e : mkList σ xs = some r) : xs.length ≤ top:=by
 unfold mkList at e
 split at e
 ·rename_i h; exact h
 ·cases e
theorem jb {i j : Int} (h : (shortI i || shortI j) = true) : IntMulOk i j:=by
 unfold shortI at h
 simp only [Bool.or_eq_true,decide_eq_true_eq] at h
 rcases h with h | h
 ·exact .of_left (intBits_le_64 (by omega) (by omega))
 ·exact .of_right (intBits_le_64 (by omega) (by omega))
theorem VReps.replicate {h : Heap} {v : AV} {u : Value} (r : VRep C ι h v u) : ∀ n,VReps C ι h (List.replicate n v) (List.replicate n u)
 | 0=>.nil
 | n + 1=>.cons r (VReps.replicate r n)
section
variable {h : Heap} {a : AV} {u : Value} {G : Value -> Prop}
theorem bR {i : Int} (r : VRep C ι h a u) (e : gI a = some i) (k : ∀ t,G (.int i t)) : G u:=by
 cases r <;> first | exact nn e | exact Option.some.inj e ▸ k _
theorem g8 {p : Nat} (r : VRep C ι h a u) (e : gR a = some p) (k : ∀ c,ι[p]? = some c -> G (.ref c)) : G u:=by
 cases r <;> first | exact nn e | (refine k _ ?_; rw [<- Option.some.inj e]; assumption)
theorem f9 {xs : List AV} (r : VRep C ι h a u) (e : gT a = some xs) (k : ∀ c vs n,h.get? c = some ⟨.type "tuple",none,.seq (List.toArray vs) n,#[]⟩ -> VReps C ι h xs vs -> xs.length ≤ top -> G (.ref c)) : G u:=by
 cases r <;> first | exact nn e | skip
 cases e
 exact k _ _ _ ‹_› ‹_› ‹_›
theorem mw {xs : List Int} (r : VRep C ι h a u) (e : gF a = some xs) (k : ∀ c,SetAt C h "frozenset" c xs -> G (.ref c)) : G u:=by
 cases r <;> first | exact nn e | exact k _ (Option.some.inj e ▸ ‹_›)
theorem qT {n : Nat} (r : VRep C ι h a u) (e : gS a = some n) (k : ∀ s t,cd s = n -> G (.str s t)) : G u:=by
 cases r <;> first | exact nn e | exact k _ _ (Option.some.inj e ▸ ‹_›)
theorem ef {p : Nat} {c : Addr} {xs : List AV} {G : Prop} (H : HOk C ι σ h) (i : ι[p]? = some c) (e : lstAt σ p = some xs) (k : ∀ vs n,h.get? c = some ⟨.type "list",none,.seq (List.toArray vs) n,#[]⟩ -> VReps C ι h xs vs -> xs.length ≤ top -> G) : G:=by
 cases H.rep (bm e) i with
 | list g r l=>exact k _ _ g r l
theorem e8 {xs : List AV} (H : HOk C ι σ h) (r : VRep C ι h a u) (e : gL σ a = some xs) (k : ∀ p c vs n,ι[p]? = some c -> lstAt σ p = some xs -> h.get? c = some ⟨.type "list",none,.seq (List.toArray vs) n,#[]⟩ -> VReps C ι h xs vs -> xs.length ≤ top -> G (.ref c)) : G u :=
 ah (o:=gR a) e fun p ep e=>g8 r ep fun c i=>ef H i e fun vs n g r l=>k p c vs n i e g r l
theorem jx {p : Nat} {es : List (AV × AV)} (e : dctAt σ p = some es) : ∃ ep,σ[p]? = some (.dict es ep):=by
 unfold dctAt at e
 split at e
 ·cases e; exact ⟨_,‹_›⟩
 ·cases e
theorem jJ {α β : Type} {f : α -> Option β} : ∀ {l : List α} {r : List β},allO f l = some r -> R2 (fun x y=>f x = some y) l r
 | [],_,h=>Option.some.inj h ▸ .nil
 | _ :: _,_,h=>ah h fun uw e h=>aG h fun uw e2 q=>q ▸ .cons e (jJ e2)
theorem R2.comp {α β γ : Type} {P : α -> β -> Prop} {Q : α -> γ -> Prop} {R : β -> γ -> Prop} {xs : List α} {ys : List β} {zs : List γ} (a : R2 P xs ys) (b : R2 Q xs zs) (k : ∀ x y z,P x y -> Q x z -> R y z) : R2 R ys zs:=by
 induction a generalizing zs with
 | nil=>cases b; exact .nil
 | cons p _ ih=>cases b with | cons q b=>exact .cons (k _ _ _ p q) (ih b)
theorem R2.imp {α β : Type} {P Q : α -> β -> Prop} (k : ∀ x y,P x y -> Q x y) {xs : List α} {ys : List β} (a : R2 P xs ys) : R2 Q xs ys:=by
 induction a with
 | nil=>exact .nil
 | cons p _ ih=>exact .cons (k _ _ p) ih
theorem R2.swap {α β : Type} {P : α -> β -> Prop} {xs : List α} {ys : List β} (a : R2 P xs ys) : R2 (fun y x=>P x y) ys xs:=by
 induction a with
 | nil=>exact .nil
 | cons p _ ih=>exact .cons p ih
theorem R2.getR {α β : Type} {P : α -> β -> Prop} {xs : List α} {ys : List β} (a : R2 P xs ys) {i : Nat} {y : β} (e : ys[i]? = some y) : ∃ x,xs[i]? = some x /\ P x y:=a.swap.get e
theorem R2.memL {α β : Type} {P : α -> β -> Prop} {xs : List α} {ys : List β} (a : R2 P xs ys) (x : α) (m : x ∈ xs) : ∃ y,y ∈ ys /\ P x y :=
 let ⟨_,e⟩:=List.getElem?_of_mem m
 let ⟨y,g,p⟩:=a.get e
 ⟨y,List.mem_of_getElem? g,p⟩
theorem orC {β : Type} {a b : Option β} {r : β} {G : Prop} (h : a.or b = some r) (x : a = some r -> G) (y : b = some r -> G) : G:=by
 cases a with
 | none=>exact y h
 | some=>exact x h
theorem jg {α : Type} {l : List AV} {vs : List Value} {σh : Heap} {f : AV -> Option α} {b : α} {G : List Value -> Prop} (h : (one l).bind f = some b) (rs : VReps C ι σh l vs) (k : ∀ a u,f a = some b -> VRep C ι σh a u -> G [u]) : G vs :=
 ah h fun a e h=>by
  rw [bZ e] at rs
  cases rs with
  | cons r rn=>cases rn; exact k _ _ h r
end
end
section
variable {C : Cx} {ι : List Addr} {σ : Hp} {s : Shared} {A : Around} {d : Nat}
noncomputable def opOf : Bop -> Operator
 | .add=>.Add | .sub=>.Sub | .mul=>.Mult | .fdiv=>.FloorDiv | .mod=>.Mod | .pow=>.Pow | .bor=>.BitOr
theorem tY {op : Operator} {o : Bop} {G : Operator -> Prop} (h : trB op = some o) (k : G (opOf o)) : G op:=by
 cases op <;> first | exact nn h | exact (Option.some.inj h ▸ k : _)
theorem SetAt.sm {h : Heap} {c : String} {a : Addr} {xs : List Int} (x : SetAt C h c a xs) : Sm xs:=let ⟨_,_,_,_,b⟩:=x; b.sm
theorem qm {o : Bop} {i j k : Int} {t u : Tok} {Q : Value -> Shared -> Prop} (e : binI o i j = some k) (q : ∀ t2 n,Q (.int k t2) { s with toks:=n }) :
  wpAny (model C.prog C.w) A (binaryOp (opOf o) (.int i t) (.int j u)) Q Nought s:=by
 cases o with
 | add=>cases e; exact PyProof.Rows.add_int (q _ _)
 | sub=>cases e; exact PyProof.Rows.sub_int (q _ _)
 | mul=>exact ifC e fun hs e=>PyProof.Rows.mul_int (Option.some.inj e ▸ q _ _) (jb hs)
 | mod=>exact ifN e fun hs e=>PyProof.Rows.mod_int' hs (Option.some.inj e ▸ q _ _)
 | fdiv=>exact ifN e fun hs e=>PyProof.Rows.floordiv_int (fun q=>hs (.inl q)) (Option.some.inj e ▸ q _ _) (.inl (PyProof.noPylong_small (by have:=fun q=>hs (.inr q); lia)))
 | pow =>
  refine ifC e fun hs e=>?_
  obtain ⟨rfl,rfl⟩:=hs
  cases e
  exact PyProof.Rows.pow_int (by decide) (by decide +kernel) (q _ _)
 | bor=>exact nn e
theorem ct (u : Value) : ∀ (n : Nat) (acc : Array Value),(List.replicate n (#[u] : Array Value)).foldl (fun x y=>x ++ y) acc = (acc.toList ++ List.replicate n u).toArray
 | 0,acc=>by simp
 | n + 1,acc=>by
  rw [List.replicate_succ,List.foldl_cons,ct u n]
  rw [List.replicate_succ]; simp
theorem pP {l : Addr} {u : Value} {k : Nat} {x : Int} {t : Tok} {Q : Value -> Shared -> Prop} {E : Value -> Shared -> Prop} (hl : s.heap.get? l = some ⟨.type "list",none,.seq #[u] k,#[]⟩) (h0 : 0 ≤ x) (h1 : x.toNat ≤ top)
  (h : Q (.ref s.heap.objs.size) { s with heap:=s.heap.push { cls:=.type "list",data:=.seq (List.replicate x.toNat u).toArray } }) :
  wpAny (model C.prog C.w) A (binaryOp .Mult (.ref l) (.int x t)) Q E s:=by
 have h1' : x.toNat ≤ 4000:=h1
 have hm : ((#[u] : Array Value).size : Int) * (x.toNat : Int) = (x.toNat : Int):=Int.one_mul _
 refine wpAny_binaryOp_repeat_ref (T:="list") (U:="int") (by decide) ⟨_,hl,rfl⟩ (fun s'=>typeIs_int s' x t) noFill_list_mul PySem.F.fills_int_mul PySem.F.slot_int_rmul repeat_list PySem.F.slot_int_index.lookup
  (call_meets PySem.F.slot_int_rmul (typeIs_int s x t) PySem.F.entry_int_rmul (PySem.F.args_int_rmul_2 _ _) (int___rmul___int_list x t l #[u] k)
   ⟨hl,rfl,⟨_,hl,rfl⟩,call_meets PySem.F.slot_list_mul ⟨_,hl,rfl⟩ PySem.F.entry_list_mul (PySem.F.args_list_mul_2 _ _)
    (AutoListH.list___mul___list_int_3 l #[u] k x t (by simp [Builtin.List.listFitsIndex]; lia) (by lia) (by have hm : (#[u] : Array Value).size * x.toNat = x.toNat:=Nat.one_mul _; rw [hm]; simp [Builtin.List.listTooLong,sizeLine]; lia))
    ⟨hl,?_⟩⟩)
 have e : List.foldl (fun x1 x2=>x1 ++ x2) #[] (List.replicate (if (#[u] : Array Value).isEmpty = true then 0 else x.toNat) #[u]) = (List.replicate x.toNat u).toArray:=by
  rw [if_neg (by simp),ct]; simp
 rw [e]
 exact h
theorem uk {op : Bop} {a b : AV} {r : AV × Hp} {G : AV -> Prop} (e : binA op a b σ = some r) (i : ∀ i,((gI b).bind fun j=>(binI op i j).map fun k=>(AV.int k,σ)) = some r -> G (.int i))
  (l : ∀ p,((lstAt σ p).bind fun xs=>binL op xs b σ) = some r -> G (.ref p)) (f : ∀ s,((gF b).bind fun t=>(binF op s t).map fun q=>(AV.fset q,σ)) = some r -> G (.fset s)) : G a:=by
 cases a <;> first | exact nn e | exact i _ e | exact l _ e | exact f _ e
theorem tL {op : Bop} {xs : List AV} {b : AV} {r : AV × Hp} {G : Bop -> Prop} (e : binL op xs b σ = some r) (p : ((gL σ b).bind fun ys=>mkList σ (xs ++ ys)) = some r -> G .add)
  (m : ((one xs).bind fun v=>(gI b).bind fun k=>if 0 ≤ k then mkList σ (List.replicate k.toNat v) else none) = some r -> G .mul) : G op:=by
 cases op <;> first | exact nn e | exact p e | exact m e
theorem push_keeps {h : Heap} {o : Obj} : Keeps h (h.push o):=fun uw uw e=>Heap.get?_push_of_some _ e
theorem VReps.keeps {h h' : Heap} {xs : List AV} {vs : List Value} (r : VReps C ι h xs vs) (k : Keeps h h') : VReps C ι h' xs vs:=r.mono (List.prefix_refl _) k.imm
theorem i9 {xs : List AV} {vs : List Value} {v : AV} {σ' : Hp} (H : HOk C ι σ s.heap) (r : VReps C ι s.heap xs vs) (e : mkList σ xs = some (v,σ')) :
  PostE C ι s σ' v (.ref s.heap.objs.size) { s with heap:=s.heap.push { cls:=.type "list",data:=.seq vs.toArray } } :=
 dj (t:=s.toks) H push_keeps (aQ _ _) (Nat.le_refl _) (Heap.get?_push_size _ rfl) (r.keeps push_keeps) e
theorem pF {op : Operator} {o : Bop} {a b : AV} {σ' : Hp} {v : AV} {u w : Value} (e : binA o a b σ = some (v,σ')) (h : trB op = some o) (ra : VRep C ι s.heap a u) (rb : VRep C ι s.heap b w) (H : HOk C ι σ s.heap) :
  wpAny (model C.prog C.w) A (binaryOp op u w) (PostE C ι s σ' v) Nought s:=by
 refine tY (G:=fun op=>wpAny (model C.prog C.w) A (binaryOp op u w) (PostE C ι s σ' v) Nought s) h ?_
 revert ra
 refine uk (G:=fun a=>VRep C ι s.heap a u -> wpAny (model C.prog C.w) A (binaryOp (opOf o) u w) (PostE C ι s σ' v) Nought s) e (fun i e ra=>?_) (fun p e ra=>?_) fun x e ra=>?_
 ·refine bR (G:=fun u=>wpAny (model C.prog C.w) A (binaryOp (opOf o) u w) (PostE C ι s σ' v) Nought s) ra rfl fun t=>ah e fun j ej e=>?_
  refine bR (G:=fun w=>wpAny (model C.prog C.w) A (binaryOp (opOf o) (.int i t) w) (PostE C ι s σ' v) Nought s) rb ej fun t2=>aG e fun k ek e=>?_
  cases e
  exact qm ek fun uw uw=>bS H (.int _ _)
 ·refine g8 (G:=fun u=>wpAny (model C.prog C.w) A (binaryOp (opOf o) u w) (PostE C ι s σ' v) Nought s) ra rfl fun c ic=>ah e fun xs ex e=>?_
  refine ef H ic ex fun vs n g r l=>tL (G:=fun o=>wpAny (model C.prog C.w) A (binaryOp (opOf o) (.ref c) w) (PostE C ι s σ' v) Nought s) e (fun e=>ah e fun ys ey e=>?_) fun e=>ah e fun v0 e1 e=>ah e fun k ek e=>?_
  ·refine e8 (G:=fun w=>wpAny (model C.prog C.w) A (binaryOp .Add (.ref c) w) (PostE C ι s σ' v) Nought s) H rb ey fun q c2 us m uw uw g' r' l'=>?_
   have hz:=cZ e
   have hz' : (xs ++ ys).length ≤ 4000:=hz
   refine P.add_list (hsz:=by rw [sizeLine_eq]; rw [List.length_append] at hz'; simp [<- r.length,<- r'.length]; lia) g g' ?_
   rw [show vs.toArray ++ us.toArray = (vs ++ us).toArray by simp]
   exact i9 H (r.append r') e
  ·refine bR (G:=fun w=>wpAny (model C.prog C.w) A (binaryOp .Mult (.ref c) w) (PostE C ι s σ' v) Nought s) rb ek fun t2=>ifC e fun h0 e=>?_
   rw [bZ e1] at r
   cases r with
   | cons r0 rr =>
    cases rr
    have hz:=cZ e
    rw [List.length_replicate] at hz
    exact pP g h0 hz (i9 H (VReps.replicate r0 _) e)
 ·refine mw (G:=fun u=>wpAny (model C.prog C.w) A (binaryOp (opOf o) u w) (PostE C ι s σ' v) Nought s) ra rfl fun c hA=>ah e fun y ey e=>?_
  refine mw (G:=fun w=>wpAny (model C.prog C.w) A (binaryOp (opOf o) (.ref c) w) (PostE C ι s σ' v) Nought s) rb ey fun c2 hB=>aG e fun r er e=>?_
  cases e
  cases o with
  | bor =>
   cases er
   exact orS hA hB fun h' zs k z hz hm=>aU (t:=s.toks) H k z (.fset ((Sm.ext hz.sm (Sm.sort fun i m=>(List.mem_append.mp m).elim (hA.sm.lo i) (hB.sm.lo i)) fun i=>by rw [hm i,mem_sortI,List.mem_append]) ▸ hz))
  | sub =>
   cases er
   have m : ∀ i,i ∈ x.filter (fun i=>!y.contains i) ↔ i ∈ x /\ ¬ i ∈ y:=fun i=>by rw [List.mem_filter]; simp
   exact tZ hA hB fun h' zs k z hz hm=>aU (t:=s.toks) H k z (.fset ((Sm.ext hz.sm ⟨hA.sm.inc.filter _,fun i q=>hA.sm.lo i (List.mem_filter.mp q).1⟩ fun i=>(hm i).trans (m i).symm) ▸ hz))
  | _=>exact nn er
end
end Mine
end
section
open PyProof.Rows PySem PySem.Calls PySem.SeqAt PySem.W
namespace Mine
section
variable {C : Cx} {ι : List Addr} {σ : Hp} {s : Shared} {A : Around} {d : Nat} {h : Heap}
theorem IntsAre.inj {vs : List Value} {xs ys : List Int} (a : IntsAre vs xs) (b : IntsAre vs ys) : xs = ys:=by
 induction a generalizing ys with
 | nil=>cases b; rfl
 | cons n t _ ih=>cases b with | cons _ _ r=>rw [ih r]
theorem dw {xs : List AV} {vs : List Value} {is : List Int} (e : asInts xs = some is) (r : VReps C ι h xs vs) : IntsAre vs is:=by
 have z : R2 (fun i v=>∃ t,v = Value.int i t) is vs:=(jJ e).comp r fun x i v p q=>bR (G:=fun v=>∃ t,v = .int i t) q p fun t=>⟨t,rfl⟩
 clear e r
 induction z with
 | nil=>exact .nil
 | cons p _ ih=>obtain ⟨t,rfl⟩:=p; exact .cons _ _ ih
noncomputable def IsKey (h : Heap) (v : Value) (k : List Int) : Prop:=∃ a vs n,v = .ref a /\ h.get? a = some ⟨.type "tuple",none,.seq (List.toArray vs) n,#[]⟩ /\ IntsAre vs k
noncomputable abbrev Keys (h : Heap) : List (List Int) -> List Value -> Prop:=R2 fun k v=>IsKey h v k
theorem eN {x : AV} {k : List Int} {v : Value} (e : keyOf x = some k) (r : VRep C ι h x v) : IsKey h v k :=
 ah e fun uw ex e=>f9 (G:=fun v=>IsKey h v k) r ex fun c vs n g rr uw=>⟨c,vs,n,rfl,g,dw e rr⟩
theorem km {xs : List AV} {vs : List Value} {ks : List (List Int)} (e : allKeys xs = some ks) (r : VReps C ι h xs vs) : Keys h ks vs:=(jJ e).comp r fun uw uw uw p q=>eN p q
theorem oS {ks : List (List Int)} {vs : List Value} (r : Keys h ks vs) : (∀ k ∈ ks,k ≠ []) -> TupsAre h vs ks:=by
 induction r with
 | nil=>exact fun uw=>.nil
 | cons p _ ih =>
  intro hn
  obtain ⟨a,us,n,rfl,g,i⟩:=p
  exact .cons g i (hn _ List.mem_cons_self) (ih fun x m=>hn x (List.mem_cons_of_mem _ m))
theorem eC {α : Type} {l : List α} {j : Nat} (d : α) (h : j < l.length) : l.getD j d = l[j]:=by rw [List.getD_eq_getElem?_getD,List.getElem?_eq_getElem h]; rfl
theorem sM {α : Type} [DecidableEq α] (d : α) : ∀ {xs ys : List α},xs.length = ys.length -> (List.range xs.length).all (fun j=>decide (xs.getD j d = ys.getD j d)) = decide (xs = ys):=by
 intro xs ys hz
 rw [Bool.eq_iff_iff,List.all_eq_true,decide_eq_true_eq]
 constructor
 ·intro q
  apply List.ext_getElem hz
  intro i h1 h2
  have:=of_decide_eq_true (q i (List.mem_range.mpr h1))
  rwa [eC d h1,eC d h2] at this
 ·rintro rfl i _; exact decide_eq_true rfl
theorem R2.eqAt {α : Type} {R S : α -> Value -> Prop} (d : α) {e : α -> α -> Bool} {B : Around} (k : ∀ {x y v w},R x v -> S y w -> EqAt B s v w (e x y)) {xs ys : List α} {vs us : List Value} (a : R2 R xs vs) (b : R2 S ys us) :
  ∀ j (h1 : j < vs.toArray.size) (h2 : j < us.toArray.size),EqAt B s vs.toArray[j] us.toArray[j] (e (xs.getD j d) (ys.getD j d)):=by
 intro j h1 h2
 rw [List.size_toArray] at h1 h2
 rw [List.getElem_toArray,List.getElem_toArray,eC d (a.length ▸ h1),eC d (b.length ▸ h2)]
 refine aw (a.get (List.getElem?_eq_getElem (a.length ▸ h1))) fun v gv r1=>?_
 refine aw (b.get (List.getElem?_eq_getElem (b.length ▸ h2))) fun w gw r2=>?_
 rw [(List.getElem?_eq_some_iff.mp gv).2,(List.getElem?_eq_some_iff.mp gw).2]
 exact k r1 r2
theorem nI {vs : List Value} {k : List Int} (i : IntsAre vs k) : R2 (fun i v=>∃ t,v = Value.int i t) k vs:=by
 induction i with
 | nil=>exact .nil
 | cons n t _ ih=>exact .cons ⟨t,rfl⟩ ih
theorem jV {a : Addr} {T : String} {vs us : List Value} {n m : Nat} (g : h.get? a = some ⟨.type T,none,.seq vs.toArray n,#[]⟩) (g' : h.get? a = some ⟨.type T,none,.seq us.toArray m,#[]⟩) : vs = us:=by
 rw [g] at g'
 injection g' with g'
 injection g' with _ _ g' _
 injection g' with g1 _
 exact congrArg Array.toList g1
theorem IsKey.inj {v : Value} {k j : List Int} (a : IsKey h v k) (b : IsKey h v j) : k = j:=by
 obtain ⟨p,vs,n,rfl,g,i⟩:=a
 refine cK b fun q us m e g' i'=>?_
 injection e with e; subst e
 exact Mine.IntsAre.inj i (jV g g' ▸ i')
theorem iL {v w : Value} {k j : List Int} (hu : A.units < cLine) (a : IsKey s.heap v k) (b : IsKey s.heap w j) : EqAt A s v w (decide (k = j)):=by
 obtain ⟨p,vs,n,rfl,g,i⟩:=id a
 obtain ⟨q,us,m,rfl,g',i'⟩:=id b
 by_cases e : p = q
 ·subst e
  rw [a.inj b,decide_eq_true rfl]
  exact EqAt.same (A:=A) (s:=s) (.ref p)
 ·have r:=RcAt.tuples (A:=A) (s:=s) (l:=p) (b:=q) ⟨_,g,rfl,n,rfl⟩ ⟨_,g',rfl,m,rfl⟩ hu ((nI i).eqAt (0 : Int) (e:=fun x y=>decide (x = y)) (B:=A.in1) (fun p q=>by obtain ⟨t,rfl⟩:=p; obtain ⟨u,rfl⟩:=q; exact EqAt.int_int _ _ _ _) (nI i'))
  have ez : ((List.range (min vs.toArray.size us.toArray.size)).all (fun x=>decide (k.getD x 0 = j.getD x 0)) && vs.toArray.size == us.toArray.size) = decide (k = j):=by
   rw [List.size_toArray,List.size_toArray,i.length,i'.length]
   by_cases hz : k.length = j.length
   ·rw [<- hz,Nat.min_self,sM 0 hz,beq_self_eq_true,Bool.and_true]
   ·rw [beq_eq_false_iff_ne.mpr hz,Bool.and_false,decide_eq_false fun q=>hz (congrArg _ q)]
  rw [ez] at r
  exact EqAt.of_refs e r
noncomputable def KyV (h : Heap) (v : Value) : Ky -> Prop
 | .int i=>∃ t,v = .int i t
 | .str n=>∃ x t,v = .str x t /\ cd x = n
 | .tup k=>IsKey h v k
theorem kyC {x : AV} {k : Ky} {G : AV -> Ky -> Prop} (e : kyA x = some k) (i : ∀ i,G (.int i) (.int i)) (c : ∀ n,G (.str n) (.str n)) (t : ∀ xs is,asInts xs = some is -> G (.tup xs) (.tup is)) : G x k:=by
 cases x <;> first | exact nn e | exact Option.some.inj e ▸ i _ | exact Option.some.inj e ▸ c _ | exact aG (o:=asInts _) e fun uw e q=>q ▸ t _ _ e
theorem qH {x : AV} {k : Ky} {v : Value} (e : kyA x = some k) (r : VRep C ι h x v) : KyV h v k :=
 kyC (G:=fun x k=>VRep C ι h x v -> KyV h v k) e (fun i r=>bR (G:=fun v=>KyV h v (.int i)) r rfl fun t=>⟨t,rfl⟩) (fun n r=>qT (G:=fun v=>KyV h v (.str n)) r rfl fun x t e=>⟨x,t,rfl,e⟩)
  (fun xs is e r=>f9 (G:=fun v=>KyV h v (.tup is)) r rfl fun c vs n g rr uw=>⟨c,vs,n,rfl,g,dw e rr⟩) r
theorem KyV.inj {v : Value} {k j : Ky} (a : KyV h v k) (b : KyV h v j) : k = j:=by
 cases k with
 | int i=>obtain ⟨t,rfl⟩:=a; cases j with
  | int j=>obtain ⟨u,e⟩:=b; cases e; rfl
  | str j=>obtain ⟨_,_,e,_⟩:=b; cases e
  | tup j=>obtain ⟨_,_,_,e,_⟩:=b; cases e
 | str i=>obtain ⟨x,t,rfl,q⟩:=a; cases j with
  | int j=>obtain ⟨u,e⟩:=b; cases e
  | str j=>obtain ⟨_,_,e,q2⟩:=b; cases e; rw [<- q,<- q2]
  | tup j=>obtain ⟨_,_,_,e,_⟩:=b; cases e
 | tup i=>obtain ⟨p,_,_,e0,_⟩:=id a; cases j with
  | int j=>obtain ⟨u,e⟩:=b; rw [e0] at e; cases e
  | str j=>obtain ⟨_,_,e,_⟩:=b; rw [e0] at e; cases e
  | tup j=>rw [IsKey.inj a b]
open Classical in
noncomputable def isKy (h : Heap) (k : Ky) (v : Value) : Bool:=decide (KyV h v k)
open Classical in
theorem ko {v : Value} {k j : Ky} (a : KyV h v j) : isKy h k v = decide (j = k):=by
 unfold isKy
 by_cases e : j = k
 ·rw [decide_eq_true e,decide_eq_true (e ▸ a)]
 ·rw [decide_eq_false e,decide_eq_false fun b=>e (a.inj b)]
theorem cF {p q : Prop} [Decidable p] [Decidable q] (a : p ↔ q) : decide p = decide q:=by
 by_cases e : p
 ·rw [decide_eq_true e,decide_eq_true (a.mp e)]
 ·rw [decide_eq_false e,decide_eq_false fun b=>e (a.mpr b)]
theorem qc {v w : Value} {k j : Ky} (hu : A.units < cLine) (a : KyV s.heap v k) (b : KyV s.heap w j) (sk : kdK k = kdK j) : EqAt A s v w (decide (k = j)):=by
 cases k <;> cases j <;> first | (cases sk; done) | skip
 ·obtain ⟨t,rfl⟩:=a; obtain ⟨u,rfl⟩:=b
  rw [<- cF (p:=i = i_1) ⟨fun h=>h ▸ rfl,fun h=>by cases h; rfl⟩]
  exact EqAt.int_int (A:=A) (s:=s) i t i_1 u
 ·obtain ⟨x,t,rfl,rfl⟩:=a; obtain ⟨y,u,rfl,rfl⟩:=b
  rw [<- cF (p:=x = y) ⟨fun h=>h ▸ rfl,fun h=>b0 (by injection h)⟩]
  have:=EqAt.str_str (A:=A) (s:=s) x t y u
  rwa [show (x == y) = decide (x = y) from rfl] at this
 ·rw [<- cF (p:=xs = xs_1) ⟨fun h=>h ▸ rfl,fun h=>by cases h; rfl⟩]
  exact iL hu a b
theorem R2.mem {α β : Type} {R : α -> β -> Prop} {xs : List α} {vs : List β} (a : R2 R xs vs) : ∀ v ∈ vs,∃ x ∈ xs,R x v:=by
 induction a with
 | nil=>exact fun v m=>nomatch m
 | cons p _ ih=>exact fun v m=>(List.mem_cons.mp m).elim (fun e=>⟨_,List.mem_cons_self,e ▸ p⟩) fun m=>let ⟨x,mx,r⟩:=ih v m; ⟨x,List.mem_cons_of_mem _ mx,r⟩
theorem sK {k : Ky} {js : List Ky} {vs : List Value} (a : R2 (fun j v=>KyV h v j) js vs) : vs.any (isKy h k) = js.contains k:=by
 induction a with
 | nil=>rfl
 | @cons j _ _ _ p _ ih =>
  rw [List.any_cons,List.contains_cons,ih,ko p]
  exact congrArg (· || _) (cF eq_comm)
theorem th {x : AV} {ys : List AV} {b : Bool} {vs : List Value} {w : Value} {G : Prop} (e : memA x ys = some b) (rw' : VRep C ι s.heap x w) (rr : VReps C ι s.heap ys vs) (hu : A.units < cLine)
  (K : ∀ f : Value -> Bool,(∀ y,y ∈ vs.toArray -> EqAt A s y w (f y)) -> vs.toArray.any f = b -> G) : G :=
 ah e fun k ek e=>ah e fun js ej e=>ifC e fun ok e=>by
  have z : R2 (fun j v=>KyV s.heap v j) js vs:=(jJ ej).comp rr fun uw uw uw p q=>qH p q
  refine K (isKy s.heap k) (fun y m=>?_) (by rw [List.any_toArray,sK z]; exact Option.some.inj e)
  refine aw (z.mem y (List.mem_toArray.mp m)) fun j mj r=>?_
  rw [ko r]
  exact qc hu r (qH ek rw') (beq_iff_eq.mp (List.all_eq_true.mp ok j mj))
theorem inC {x y : AV} {b : Bool} {G : AV -> Prop} (e : inA σ x y = some b) (t : ∀ ys,memA x ys = some b -> G (.tup ys)) (l : ∀ p,(lstAt σ p).bind (memA x) = some b -> G (.ref p)) : G y:=by
 cases y <;> first | exact nn e | exact t _ e | exact l _ e
theorem ou {x y : AV} {b : Bool} {u w : Value} {A : Around} (hu : A.units + 1 < cLine) (e : inA σ x y = some b) (ra : VRep C ι s.heap x u) (rb : VRep C ι s.heap y w) (H : HOk C ι σ s.heap) {Q : Value -> Shared -> Prop} :
  (Q (.bool b) s -> wpAny (model C.prog C.w) A (compareOp .In u w) Q Nought s) /\ (Q (.bool !b) s -> wpAny (model C.prog C.w) A (compareOp .NotIn u w) Q Nought s) :=
 inC (G:=fun y=>VRep C ι s.heap y w -> (Q (.bool b) s -> wpAny (model C.prog C.w) A (compareOp .In u w) Q Nought s) /\ (Q (.bool !b) s -> wpAny (model C.prog C.w) A (compareOp .NotIn u w) Q Nought s)) e
  (fun ys e rb=>f9 (G:=fun w=>(Q (.bool b) s -> wpAny (model C.prog C.w) A (compareOp .In u w) Q Nought s) /\ (Q (.bool !b) s -> wpAny (model C.prog C.w) A (compareOp .NotIn u w) Q Nought s)) rb rfl fun c vs n g rr uw =>
   th (A:=A.in1) e ra rr hu fun f a c=>⟨fun q=>in_tupleAt _ ⟨_,g,rfl,_,rfl⟩ a (c.symm ▸ q),fun q=>notIn_tupleAt _ ⟨_,g,rfl,_,rfl⟩ a (c.symm ▸ q)⟩)
  (fun p e rb=>e8 (G:=fun w=>(Q (.bool b) s -> wpAny (model C.prog C.w) A (compareOp .In u w) Q Nought s) /\ (Q (.bool !b) s -> wpAny (model C.prog C.w) A (compareOp .NotIn u w) Q Nought s)) H rb (xs:=(lstAt σ p).getD []) (ah e fun xs ex uw=>by show lstAt σ p = _; rw [ex]; rfl) fun uw c vs n uw uw g rr uw =>
   ah e fun xs ex e=>by
    rw [ex] at rr
    exact th (A:=A.in1) e ra rr hu fun f a c=>⟨fun q=>in_listAt _ ⟨_,g,rfl,_,rfl⟩ a (c.symm ▸ q),fun q=>notIn_listAt _ ⟨_,g,rfl,_,rfl⟩ a (c.symm ▸ q)⟩) rb
end
section
variable {C : Cx} {ι : List Addr} {σ : Hp} {s : Shared} {A : Around} {d : Nat} {h : Heap}
theorem R2.inj {α β : Type} {P : α -> β -> Prop} (k : ∀ x y v,P x v -> P y v -> x = y) {xs ys : List α} {vs : List β} (a : R2 P xs vs) : R2 P ys vs -> xs = ys:=by
 induction a generalizing ys with
 | nil=>intro b; cases b; rfl
 | cons p _ ih=>intro b; cases b with | cons q b=>rw [k _ _ _ p q,ih b]
noncomputable def IsRow (h : Heap) (v : Value) (ks : List (List Int)) : Prop:=∃ (a : Addr) (vs : List Value) (n : Nat),v = .ref a /\ h.get? a = some ⟨.type "list",none,.seq vs.toArray n,#[]⟩ /\ Keys h ks vs
noncomputable abbrev RowsV (h : Heap) : List (List (List Int)) -> List Value -> Prop:=R2 fun k v=>IsRow h v k
theorem rows_of (H : HOk C ι σ h) {xs : List AV} {vs : List Value} {ks : List (List (List Int))} (e : rowsOf σ xs = some ks) (r : VReps C ι h xs vs) : RowsV h ks vs :=
 (jJ e).comp r fun uw uw uw p q=>ah p fun uw ea p=>e8 (G:=fun v=>IsRow h v _) H q ea fun uw c us n uw uw g ru uw=>⟨c,us,n,rfl,g,km p ru⟩
theorem pu {p q : Addr} {vs us : List Value} {n m : Nat} {k j : List (List Int)} (hu : A.units + 1 < cLine) (g : s.heap.get? p = some ⟨.type "list",none,.seq vs.toArray n,#[]⟩) (g' : s.heap.get? q = some ⟨.type "list",none,.seq us.toArray m,#[]⟩)
  (i : Keys s.heap k vs) (i' : Keys s.heap j us) : RcAt A s (.ref p) (.ref q) (decide (k = j)):=by
 by_cases hz : vs.length = us.length
 ·have r:=RcAt.lists (A:=A) (s:=s) (l:=p) (b:=q) ⟨_,g,rfl,n,rfl⟩ ⟨_,g',rfl,m,rfl⟩ (by rw [List.size_toArray,List.size_toArray,hz]) (Nat.lt_of_succ_lt hu) (i.eqAt ([] : List Int) (e:=fun x y=>decide (x = y)) (B:=A.in1) (fun p q=>iL hu p q) i')
  rw [List.size_toArray,<- i.length,sM [] (by rw [i.length,i'.length,hz])] at r
  exact r
 ·rw [decide_eq_false fun q=>hz (by rw [<- i.length,<- i'.length,q])]
  exact RcAt.lists_lengths ⟨_,g,rfl,n,rfl⟩ ⟨_,g',rfl,m,rfl⟩ (bne_iff_ne.mpr (by rw [List.size_toArray,List.size_toArray]; exact hz)) (Nat.lt_of_succ_lt hu)
theorem og {v w : Value} {k j : List (List Int)} (hu : A.units + 1 < cLine) (a : IsRow s.heap v k) (b : IsRow s.heap w j) : EqAt A s v w (decide (k = j)):=by
 obtain ⟨p,vs,n,rfl,g,i⟩:=a
 obtain ⟨q,us,m,rfl,g',i'⟩:=b
 by_cases e : p = q
 ·subst e
  rw [show k = j from i.inj (P:=fun k v=>IsKey s.heap v k) (fun uw uw uw=>IsKey.inj) (jV g g' ▸ i'),decide_eq_true rfl]
  exact EqAt.same (A:=A) (s:=s) (.ref p)
 ·exact EqAt.of_refs e (pu hu g g' i i')
noncomputable def Both (C : Cx) (A : Around) (s : Shared) (Q : Value -> Shared -> Prop) (b : Bool) (u w : Value) : Prop:=(Q (.bool b) s -> wpAny (model C.prog C.w) A (compareOp .Eq u w) Q Nought s) /\ (Q (.bool !b) s -> wpAny (model C.prog C.w) A (compareOp .NotEq u w) Q Nought s)
theorem gV {a b : Value} {k : Bool} {Q : Value -> Shared -> Prop} (h : RcAt A s a b k) (g : RcNeAt A s a b !k) : Both C A s Q k a b:=⟨fun hq=>h C.prog C.w Nought Q hq,fun hq=>g C.prog C.w Nought Q hq⟩
theorem eqC {x y : AV} {b : Bool} {G : AV -> Prop} (e : eqA σ x y = some b) (i : ∀ i,((gI y).map fun j=>decide (i = j)) = some b -> G (.int i)) (n : ∀ n,((gS y).map fun m=>decide (n = m)) = some b -> G (.str n))
  (t : ∀ xs,((gT y).bind fun ys=>eqT xs ys) = some b -> G (.tup xs)) (r : ∀ p,((lstAt σ p).bind fun xs=>(gL σ y).bind fun ys=>eqL σ xs ys) = some b -> G (.ref p)) : G x:=by
 cases x <;> first | exact nn e | exact i _ e | exact n _ e | exact t _ e | exact r _ e
theorem oB {p q : Addr} {vs us : List Value} {n m : Nat} {xs ys : List AV} {b : Bool} {Q : Value -> Shared -> Prop} (hu : A.units < cLine) (g : s.heap.get? p = some ⟨.type "tuple",none,.seq vs.toArray n,#[]⟩) (g' : s.heap.get? q = some ⟨.type "tuple",none,.seq us.toArray m,#[]⟩)
  (r : VReps C ι s.heap xs vs) (r' : VReps C ι s.heap ys us) (e : eqT xs ys = some b) : Both C A s Q b (.ref p) (.ref q):=by
 refine ifC e fun hy e=>?_
 cases ys with
 | cons=>cases hy
 | nil =>
  cases r'
  have ez : ((List.range (min vs.toArray.size ([] : List Value).toArray.size)).all (fun uw=>true) && vs.toArray.size == ([] : List Value).toArray.size) = b:=by
   cases e
   cases xs with
   | nil=>cases r; rfl
   | cons=>cases r; simp
  exact ez ▸ gV (RcAt.tuples (e:=fun uw=>true) ⟨_,g,rfl,_,rfl⟩ ⟨_,g',rfl,_,rfl⟩ hu fun j uw h2=>absurd h2 (Nat.not_lt_zero _)) (RcNeAt.tuples (e:=fun uw=>true) ⟨_,g,rfl,_,rfl⟩ ⟨_,g',rfl,_,rfl⟩ hu fun j uw h2=>absurd h2 (Nat.not_lt_zero _))
theorem lM {p q : Addr} {vs us : List Value} {n m : Nat} {xs ys : List AV} {b : Bool} {Q : Value -> Shared -> Prop} (hu : A.units + 2 < cLine) (H : HOk C ι σ s.heap) (g : s.heap.get? p = some ⟨.type "list",none,.seq vs.toArray n,#[]⟩) (g' : s.heap.get? q = some ⟨.type "list",none,.seq us.toArray m,#[]⟩)
  (r : VReps C ι s.heap xs vs) (r' : VReps C ι s.heap ys us) (e : eqL σ xs ys = some b) : Both C A s Q b (.ref p) (.ref q):=by
 have hu1 : A.units < cLine:=by lia
 unfold eqL at e
 split at e
 ·rename_i hz
  have hz' : vs.toArray.size = us.toArray.size:=by rw [List.size_toArray,List.size_toArray,<- r.length,<- r'.length,hz]
  refine ah e fun k ek e=>aG e fun l el e=>?_
  have i:=rows_of H ek r
  have i':=rows_of H el r'
  have ez : (List.range vs.toArray.size).all (fun x=>decide (k.getD x [] = l.getD x [])) = b:=by
   rw [List.size_toArray,<- i.length]
   exact (sM [] (by rw [i.length,i'.length,<- r.length,<- r'.length,hz])).trans e
  have q:=i.eqAt (s:=s) ([] : List (List Int)) (e:=fun x y=>decide (x = y)) (B:=A.in1) (fun p q=>og hu p q) i'
  exact ez ▸ gV (RcAt.lists ⟨_,g,rfl,_,rfl⟩ ⟨_,g',rfl,_,rfl⟩ hz' hu1 q) (RcNeAt.lists ⟨_,g,rfl,_,rfl⟩ ⟨_,g',rfl,_,rfl⟩ hz' hu1 q)
 ·rename_i hz
  have hz' : (vs.toArray.size != us.toArray.size) = true:=bne_iff_ne.mpr (by rw [List.size_toArray,List.size_toArray,<- r.length,<- r'.length]; exact hz)
  exact Option.some.inj e ▸ gV (RcAt.lists_lengths ⟨_,g,rfl,_,rfl⟩ ⟨_,g',rfl,_,rfl⟩ hz' hu1) (RcNeAt.lists_lengths ⟨_,g,rfl,_,rfl⟩ ⟨_,g',rfl,_,rfl⟩ hz' hu1)
theorem ox {x y : AV} {b : Bool} {u w : Value} (hu : A.units + 3 < cLine) (e : eqA σ x y = some b) (ra : VRep C ι s.heap x u) (rb : VRep C ι s.heap y w) (H : HOk C ι σ s.heap) {Q : Value -> Shared -> Prop} : Both C A s Q b u w:=by
 revert ra
 refine eqC (G:=fun x=>VRep C ι s.heap x u -> Both C A s Q b u w) e (fun i e ra=>?_) (fun n e ra=>?_) (fun xs e ra=>?_) fun p e ra=>?_
 ·exact bR (G:=fun u=>Both C A s Q b u w) ra rfl fun t=>aG e fun j ej e=>bR (G:=fun w=>Both C A s Q b (.int i t) w) rb ej fun t2=>e ▸ ⟨fun q=>PyProof.Rows.eq_int q,fun q=>PyProof.Rows.ne_int q⟩
 ·refine qT (G:=fun u=>Both C A s Q b u w) ra rfl fun x t ex=>aG e fun j ej e=>qT (G:=fun w=>Both C A s Q b (.str x t) w) rb ej fun y t2 ey=>?_
  have z : (x == y) = b:=by rw [<- e,<- ex,<- ey]; exact cF (p:=x = y) (by rw [tI])
  exact z ▸ ⟨fun q=>PyProof.Rows.eq_str q,fun q=>PyProof.Rows.ne_str q⟩
 ·exact f9 (G:=fun u=>Both C A s Q b u w) ra rfl fun c vs n g r uw=>ah e fun ys ey e=>f9 (G:=fun w=>Both C A s Q b (.ref c) w) rb ey fun c2 us m g' r' uw=>oB (by lia) g g' r r' e
 ·exact g8 (G:=fun u=>Both C A s Q b u w) ra rfl fun c ic=>ah e fun xs ex e=>ef H ic ex fun vs n g r uw=>ah e fun ys ey e=>e8 (G:=fun w=>Both C A s Q b (.ref c) w) H rb ey fun uw c2 us m uw uw g' r' uw=>lM (by lia) H g g' r r' e
noncomputable def copOf : Cop -> CmpOp
 | .eq=>.Eq | .ne=>.NotEq | .lt=>.Lt | .gt=>.Gt | .ge=>.GtE | .isIn=>.In | .notIn=>.NotIn | .is=>.Is | .isNot=>.IsNot
theorem tX {op : CmpOp} {o : Cop} {G : CmpOp -> Prop} (h : trK op = some o) (k : G (copOf o)) : G op:=by
 cases op <;> first | exact nn h | exact (Option.some.inj h ▸ k : _)
theorem qA {x : AV} {u : Value} {G : Value -> Prop} (r : VRep C ι h x u) (e : isNoneA x = true) (k : G .none) : G u:=by
 cases r <;> first | exact tf e | exact k
theorem fJ {x : AV} {u : Value} (r : VRep C ι h x u) : (u == Value.none) = isNoneA x:=by
 cases r <;> first | rfl | (cases b <;> rfl)
theorem je {f : Int -> Int -> Bool} {op : CmpOp} {a b : AV} {r : Bool} {u w : Value} {Q : Value -> Shared -> Prop} (e : ordA f a b = some r) (ra : VRep C ι s.heap a u) (rb : VRep C ι s.heap b w) (k : ∀ i j t t',f i j = r -> wpAny (model C.prog C.w) A (compareOp op (.int i t) (.int j t')) Q Nought s) : wpAny (model C.prog C.w) A (compareOp op u w) Q Nought s :=
 ah e fun i ei e=>aG e fun j ej e=>bR (G:=fun u=>wpAny (model C.prog C.w) A (compareOp op u w) Q Nought s) ra ei fun t=>bR (G:=fun w=>wpAny (model C.prog C.w) A (compareOp op (.int i t) w) Q Nought s) rb ej fun t'=>k i j t t' e
theorem pD {op : CmpOp} {o : Cop} {a b : AV} {r : Bool} {u w : Value} (e : cmpA o a b σ = some r) (h : trK op = some o) (ra : VRep C ι s.heap a u) (rb : VRep C ι s.heap b w) (H : HOk C ι σ s.heap) (R : Room A d) :
  wpAny (model C.prog C.w) A (compareOp op u w) (PostE C ι s σ (.bool r)) Nought s:=by
 have hu : A.units + 3 < cLine:=by have:=R.units; lia
 have hu1 : A.units + 1 < cLine:=by lia
 have fin : PostE C ι s σ (.bool r) (.bool r) s:=bS (t:=s.toks) H (.bool r)
 refine tX (G:=fun op=>wpAny (model C.prog C.w) A (compareOp op u w) (PostE C ι s σ (.bool r)) Nought s) h ?_
 clear h
 cases o with
 | eq=>exact (ox hu e ra rb H).1 fin
 | ne =>
  refine aG (o:=(eqA σ a b).or (eqF a b)) e fun c e q=>orC e (fun e=>(ox hu e ra rb H).2 (q ▸ fin)) fun e=>ah e fun x ex e=>aG e fun y ey e=>?_
  refine mw (G:=fun u=>wpAny (model C.prog C.w) A (compareOp .NotEq u w) (PostE C ι s σ (.bool r)) Nought s) ra ex fun c1 hA=>mw (G:=fun w=>wpAny (model C.prog C.w) A (compareOp .NotEq (.ref c1) w) (PostE C ι s σ (.bool r)) Nought s) rb ey fun c2 hB=>?_
  exact neS hA hB (by lia) (by rw [e,q]; exact fin)
 | lt=>exact je e ra rb fun i j t t' q=>PyProof.Rows.lt_int (q ▸ fin)
 | gt=>exact je e ra rb fun i j t t' q=>PyProof.Rows.gt_int (q ▸ fin)
 | ge=>exact je e ra rb fun i j t t' q=>ge_int (q ▸ fin)
 | isIn=>exact (ou hu1 e ra rb H).1 fin
 | notIn=>exact aG (o:=inA σ a b) e fun c e q=>(ou hu1 e ra rb H).2 (q ▸ fin)
 | is=>exact ifC e fun z e=>qA (G:=fun w=>wpAny (model C.prog C.w) A (compareOp .Is u w) (PostE C ι s σ (.bool r)) Nought s) rb z (is_none_gen (by rw [fJ ra,Option.some.inj e]; exact fin))
 | isNot=>exact ifC e fun z e=>qA (G:=fun w=>wpAny (model C.prog C.w) A (compareOp .IsNot u w) (PostE C ι s σ (.bool r)) Nought s) rb z (isNot_none (by rw [fJ ra,Option.some.inj e]; exact fin))
end
end Mine
end
section
open PyProof.Rows PySem PySem.Calls PySem.W
namespace Mine
section
variable {C : Cx} {ι : List Addr} {σ : Hp} {s : Shared} {A : Around} {d : Nat} {h : Heap}
theorem iU (a b n : Nat) (ha : 1 ≤ a) : Builtin.Slice.sliceAdjust (some (a : Int)) (some (b : Int)) 1 (n : Int) = (((min a n : Nat) : Int),((min b n : Nat) : Int)):=by
 unfold Builtin.Slice.sliceAdjust
 have h1 : ¬ (1 : Int) < 0:=by lia
 have h2 : ¬ (a : Int) < 0:=by lia
 have h3 : ¬ (b : Int) < 0:=by lia
 simp only [h1,h2,h3,if_false]
 rw [Prod.mk.injEq]
 constructor <;> lia
theorem ig (a b : Nat) : Builtin.Slice.slicePlaces (a : Int) (b : Int) 1 = b - a:=by
 unfold Builtin.Slice.slicePlaces
 simp only [show (1 : Int) > 0 by decide,if_true,Int.ediv_one]
 split <;> lia
theorem df {sl : Addr} {a b n : Nat} {u w : Tok} {E : Value -> Shared -> Prop} {Q : Int × Int × Nat -> Shared -> Prop} (hs : s.heap.IsSliceOf sl (.int a u) (.int b w) .none) (ha : 1 ≤ a) (q : Q (((min a n : Nat) : Int),1,min b n - min a n) s) :
  wpAny (model C.prog C.w) A (Builtin.Slice.sliceApplied (.ref sl) (pure (n : Int))) Q E s:=by
 refine bq (id hs) fun os hos hcs hds=>?_
 unfold Builtin.Slice.sliceApplied Builtin.Slice.sliceFields
 refine wpAny_bind (wpAny_bind (wpAny_field hos hds (x:=.int a u) rfl (wpAny_bind (wpAny_field hos hds (x:=.int b w) rfl (wpAny_bind (wpAny_field hos hds (x:=.none) rfl (wpAny_pure ?_)))))))
 refine wpAny_bind (slicePart_none ?_)
 show wpAny _ _ (if ((1 : Int) == 0) = true then _ else _) _ _ s
 refine aq (by decide) ?_
 refine wpAny_bind (slicePart_int (wpAny_bind (slicePart_int (wpAny_bind (wpAny_pure ?_)))))
 show wpAny _ _ (match Builtin.Slice.sliceAdjust (some (a : Int)) (some (b : Int)) 1 (n : Int) with | (lo,hi)=>pure (lo,(1 : Int),Builtin.Slice.slicePlaces lo hi 1)) _ _ s
 rw [iU a b n ha]
 show wpAny _ _ (pure (((min a n : Nat) : Int),(1 : Int),Builtin.Slice.slicePlaces ((min a n : Nat) : Int) ((min b n : Nat) : Int) 1)) _ _ s
 rw [ig]
 exact wpAny_pure q
theorem l8 (xs : List Value) (a n : Nat) (h : a + n ≤ xs.length) : ((List.range n).filterMap fun (k : Nat)=>xs.toArray[((a : Int) + (k : Int) * 1).toNat]?) = (xs.drop a).take n:=by
 have e : (fun (k : Nat)=>xs.toArray[((a : Int) + (k : Int) * 1).toNat]?) = fun k=>xs[a + k]?:=by
  funext k
  have : ((a : Int) + (k : Int) * 1).toNat = a + k:=by lia
  rw [this]; simp
 rw [e]
 clear e
 induction n with
 | zero=>simp
 | succ n ih =>
  rw [List.range_succ,List.filterMap_append,ih (by lia),List.filterMap_cons,List.filterMap_nil]
  have hl : a + n < xs.length:=by lia
  rw [List.getElem?_eq_getElem hl]
  rw [List.take_add_one]
  simp [List.getElem?_drop,hl]
theorem kK {α : Type} (xs : List α) (i j : Nat) (h : i ≤ j) : (xs.drop (min i xs.length)).take (min j xs.length - min i xs.length) = (xs.drop i).take (j - i):=by
 by_cases hi : i ≤ xs.length
 ·rw [Nat.min_eq_left hi]
  by_cases hj : j ≤ xs.length
  ·rw [Nat.min_eq_left hj]
  ·rw [Nat.min_eq_right (by lia)]
   rw [List.take_of_length_le (by simp),List.take_of_length_le (by simp; lia)]
 ·rw [Nat.min_eq_right (by lia),Nat.min_eq_right (by lia)]
  rw [List.drop_of_length_le (Nat.le_refl _),List.drop_of_length_le (by lia)]; simp
theorem gH {t sl : Addr} {vs : List Value} {a b : Nat} {u w : Tok} {E : Value -> Shared -> Prop} {Q : Value -> Shared -> Prop} (ht : IsTup s.heap t vs.toArray) (hs : s.heap.IsSliceOf sl (.int a u) (.int b w) .none) (h1 : 1 ≤ a) (hab : a ≤ b) (h0 : 0 < vs.length) (hz : vs.length ≤ top)
  (h : Q (.ref s.heap.objs.size) { s with heap:=s.heap.push { cls:=.type "tuple",data:=.seq ((vs.drop a).take (b - a)).toArray } }) :
  wpAny (model C.prog C.w) A (getItem (.ref t) (.ref sl)) Q E s:=by
 have hz' : vs.length ≤ 4000:=hz
 have hdrop : sizeOk (.seq ((vs.drop a).take (b - a)).toArray):=by
  show ((vs.drop a).take (b - a)).toArray.size ≤ sizeLine
  rw [List.size_toArray,List.length_take,List.length_drop,sizeLine_eq]
  lia
 refine bq (id hs) fun os hos hcs hds=>?_
 have hTs : s.TypeIs (.ref sl) "slice":=⟨os,hos,hcs⟩
 unfold getItem
 try with_reducible refine wpAny_holding ?_
 first | refine wpAny_bind (wpAny_pure ?_) | skip
 refine wpAny_bind (wpAny_sequenceKey ht.typeIs (by decide) ?_)
 refine wpAny_bind (wpAny_callSpecial?_slot (name:=Str.ofString "__getitem__") ht.typeIs slot_tuple_getitem
  (wpAny_call_entry slot_tuple_getitem ht.typeIs entry_tuple_getitem ?_ (args_tuple_getitem _ _)))
 show wpAny _ _ (Builtin.Tuple.tupleItemsOf (.ref t) >>= _) _ _ s
 refine wpAny_bind (tupleItemsOf_ ht ?_)
 refine wpAny_bind (wpAny_typeOf hTs ?_)
 refine bH (by decide) ?_
 refine wpAny_bind (df (n:=vs.toArray.size) hs h1 ?_)
 have hm : 1 ≤ min a vs.toArray.size:=by simp; lia
 have hno : ¬ ((((min a vs.toArray.size : Nat) : Int) == 0 && (1 : Int) == 1 && (min b vs.toArray.size - min a vs.toArray.size) == vs.toArray.size) = true):=by
  have : (((min a vs.toArray.size : Nat) : Int) == 0) = false:=by rw [beq_eq_false_iff_ne]; lia
  rw [this]; simp
 show wpAny _ _ (if (((min a vs.toArray.size : Nat) : Int) == 0 && (1 : Int) == 1 && (min b vs.toArray.size - min a vs.toArray.size) == vs.toArray.size) = true then _ else _) _ _ s
 rw [if_neg hno,List.size_toArray,l8 vs _ _ (by lia),kK vs a b hab]
 first
  | exact wpAny_bind (m:=Builtin.Tuple.tupleExact _) (wpAny_newObj_type (wpAny_pure ⟨_,rfl,wpAny_pure h⟩) hdrop)
  | exact wpAny_bind (m:=Builtin.Tuple.tupleExact _) (wpAny_newObj_type (wpAny_bind (wpAny_pure (wpAny_pure ⟨_,rfl,wpAny_pure h⟩))) hdrop)
  | exact wpAny_bind (wpAny_bind (m:=Builtin.Tuple.tupleExact _) (wpAny_newObj_type (wpAny_pure (wpAny_pure ⟨_,rfl,wpAny_pure h⟩)) hdrop))
  | exact wpAny_bind (wpAny_bind (m:=Builtin.Tuple.tupleExact _) (wpAny_newObj_type (wpAny_pure ⟨_,rfl,wpAny_pure h⟩) hdrop))
end
section
variable {C : Cx} {ι : List Addr} {σ : Hp} {s : Shared} {A : Around} {d : Nat} {h : Heap}
theorem iE {us : List Value} {k : List Int} (i : IntsAre us k) : ItemsAre (intKind C.prog C.w) k us:=by
 induction i with
 | nil=>exact .nil
 | cons n t _ ih=>exact .cons (intKind_is _ _ _ _) ih
theorem m3 {v : Value} {k : List Int} {G : Value -> Prop} (a : IsKey h v k) (K : ∀ p,(tk C).is h k p -> G (.ref p)) : G v:=by
 obtain ⟨p,us,n,rfl,g,i⟩:=a
 exact K p ⟨_,_,_,g,rfl,rfl,by simpa using iE i⟩
theorem DReps.keys {es : List (AV × AV)} {xs : List (List Int × Addr × Value)} (r : DReps C ι h es xs) : ∀ x ∈ xs,(tk C).is h x.1 x.2.1:=by
 induction r with
 | nil=>intro x m; cases m
 | @cons k v ks a u _ _ e r1 _ _ ih =>
  intro x m
  rcases List.mem_cons.mp m with rfl | m
  ·exact m3 (C:=C) (G:=fun z=>z = .ref a -> (tk C).is h ks a) (eN e r1) (fun p t q=>by injection q with q; exact q ▸ t) rfl
  ·exact ih x m
theorem DReps.at {es : List (AV × AV)} {xs : List (List Int × Addr × Value)} {k : List Int} {v : AV} (r : DReps C ι h es xs) (e : dGet k es = some v) : ∃ p,atKey xs k = some p /\ VRep C ι h v p.2:=by
 induction r with
 | nil=>cases e
 | @cons y v' ks a' u es xs e1 a b _ ih =>
  unfold dGet at e
  unfold atKey
  rw [List.find?_cons]
  split at e
  ·rename_i hk
   cases e
   rw [e1] at hk
   injection hk with hk
   subst hk
   exact ⟨(a',u),by simp,b⟩
  ·rename_i hk
   rw [decide_eq_false fun q=>hk (by rw [e1,show ks = k from q])]
   exact ih e
theorem qV {k : Int} {n : Nat} (h0 : 0 ≤ k) (hl : k.toNat < n) : seqIndex? k n = some k.toNat:=by
 unfold seqIndex?
 first
  | (rw [if_neg (by lia)]; simp; lia)
  | (simp; lia)
  | simp [h0,hl]
theorem u4 {a i v : AV} {G : AV -> Prop} (e : subA a i σ = some v) (t : ∀ xs,(gI i).bind (nth xs) = some v -> G (.tup xs)) (n : ∀ xs,((gI i).bind fun k=>(nth xs k).map .int) = some v -> G (.ints xs))
  (r : ∀ p,((lstAt σ p).bind fun xs=>(gI i).bind (nth xs)).or ((dctAt σ p).bind fun es=>(keyOf i).bind fun k=>dGet k es) = some v -> G (.ref p)) : G a:=by
 cases a <;> first | exact nn e | exact t _ e | exact n _ e | exact r _ e
theorem qJ {xs : List Int} {u : Value} {G : Value -> Prop} (r : VRep C ι h (.ints xs) u) (k : ∀ c vs,C.base.IsList c (List.toArray vs) -> IntsAre vs xs -> xs.length ≤ top -> G (.ref c)) : G u:=by
 cases r; exact k _ _ ‹_› ‹_› ‹_›
theorem fI {value slice : Expr} {p : Addr} {vs : List Value} {k : Int} {t : Tok} {x : Value} {Q : Value -> Shared -> Prop} (g : s.heap.IsList p vs.toArray) (l : vs.length ≤ top) (h0 : 0 ≤ k) (hx : vs[k.toNat]? = some x) (hs : ∀ o i,subscripted slice false o i = operate [o,i] (getItem o i)) (q : Q x s) :
  wpAny (model C.prog C.w) A (subscriptTail value slice (.ref p) (.int k t)) Q Nought s:=by
 have l' : vs.length ≤ 4000:=l
 have:=(List.getElem?_eq_some_iff.mp hx).1
 exact tail_any (let ⟨o,a,b,_⟩:=g; ⟨o,a,b⟩) slot_list_getitem.lookup (wpAny_getItem_list g h0 (by lia) (by rw [List.getElem?_toArray]; exact hx) q) (hs _ _)
theorem pB {a i : AV} {v : AV} {u w : Value} {value slice : Expr} (R : Room A d) (e : subA a i σ = some v) (hs : ∀ o i,subscripted slice false o i = operate [o,i] (getItem o i)) (ra : VRep C ι s.heap a u) (ri : VRep C ι s.heap i w) (H : HOk C ι σ s.heap) :
  wpAny (model C.prog C.w) A (subscriptTail value slice u w) (PostE C ι s σ v) Nought s:=by
 revert ra
 refine u4 (G:=fun a=>VRep C ι s.heap a u -> wpAny (model C.prog C.w) A (subscriptTail value slice u w) (PostE C ι s σ v) Nought s) e (fun xs e ra=>?_) (fun xs e ra=>?_) fun p e ra=>?_
 ·refine f9 (G:=fun u=>wpAny (model C.prog C.w) A (subscriptTail value slice u w) (PostE C ι s σ v) Nought s) ra rfl fun c vs n g rr l=>ah e fun k ek e=>bR (G:=fun w=>wpAny (model C.prog C.w) A (subscriptTail value slice (.ref c) w) (PostE C ι s σ v) Nought s) ri ek fun t=>ifC e fun h0 e=>?_
  have l' : xs.length ≤ 4000:=l
  refine aw (rr.get e) fun x gx rx=>?_
  have hl : k.toNat < _:=(List.getElem?_eq_some_iff.mp gx).1
  have hz:=rr.length
  exact item_tupleT ⟨_,g,rfl,_,rfl⟩ (by lia) (by lia) (qV h0 hl) gx (bS (t:=s.toks) H rx) (hs _ _)
 ·refine qJ (G:=fun u=>wpAny (model C.prog C.w) A (subscriptTail value slice u w) (PostE C ι s σ v) Nought s) ra fun c vs g rr l=>ah e fun k ek e=>bR (G:=fun w=>wpAny (model C.prog C.w) A (subscriptTail value slice (.ref c) w) (PostE C ι s σ v) Nought s) ri ek fun t=>aG (o:=nth xs k) e fun j e q=>ifC e fun h0 e=>?_
  obtain ⟨x,gx,t',rfl⟩:=(nI rr).get e
  refine mS g fun o ho hc n hd=>?_
  exact fI ⟨o,H.base _ _ ho,hc,n,hd⟩ (rr.length ▸ l) h0 gx hs (q ▸ bS (t:=s.toks) H (.int _ _))
 ·refine g8 (G:=fun u=>wpAny (model C.prog C.w) A (subscriptTail value slice u w) (PostE C ι s σ v) Nought s) ra rfl fun c ic=>orC e (fun e=>ah e fun xs ex e=>ef H ic ex fun vs n g rr l=>ah e fun k ek e=>?_) fun e=>ah e fun es ee e=>ah e fun key ek e=>?_
  ·refine bR (G:=fun w=>wpAny (model C.prog C.w) A (subscriptTail value slice (.ref c) w) (PostE C ι s σ v) Nought s) ri ek fun t=>ifC e fun h0 e=>?_
   refine aw (rr.get e) fun x gx rx=>?_
   exact fI ⟨_,g,rfl,n,rfl⟩ (rr.length ▸ l) h0 gx hs (bS (t:=s.toks) H rx)
  ·obtain ⟨ep,hx⟩:=jx ee
   refine dk (cJ H hx ic) fun ents xs g q r nd l=>?_
   refine aw (r.at e) fun p ep' rp=>?_
   have hu : A.in1.units < cLine:=by have:=R.units; simp; lia
   exact m3 (C:=C) (G:=fun w=>wpAny (model C.prog C.w) A (subscriptTail value slice (.ref c) w) (PostE C ι s σ v) Nought s) (eN ek ri) fun b tb =>
    tail_any ⟨_,g,rfl⟩ PySem.F.slot_dict_getitem.lookup (wpAny_getItem_heap (knd:=tk C) (xs:=xs) hu tb ⟨_,ents,_,g,⟨rfl,rfl,rfl⟩,rfl,q,r.keys,nd⟩ ep' (bS H rp)) (hs _ _)
theorem pC {a i j : AV} {v : AV} {u lo hi : Value} {value : Expr} {lw hg : Expr} {p : Pos} (e : slcA a i j = some v) (ra : VRep C ι s.heap a u) (ri : VRep C ι s.heap i lo) (rj : VRep C ι s.heap j hi) (H : HOk C ι σ s.heap) :
  wpAny (model C.prog C.w) A (newFields "slice" [lo,hi,.none]) (fun i s'=>wpAny (model C.prog C.w) A (subscriptTail value (.Slice (some lw) (some hg) none p) u i) (PostE C ι s σ v) Nought s') Nought s:=by
 refine ah e fun xs ex e=>ah e fun i ei e=>ah e fun j ej e=>ifC e fun hc e=>?_
 refine bR (G:=fun lo=>wpAny (model C.prog C.w) A (newFields "slice" [lo,hi,.none]) (fun i s'=>wpAny (model C.prog C.w) A (subscriptTail value (.Slice (some lw) (some hg) none p) u i) (PostE C ι s σ v) Nought s') Nought s) ri ei fun t=>?_
 refine bR (G:=fun hi=>wpAny (model C.prog C.w) A (newFields "slice" [.int i t,hi,.none]) (fun i s'=>wpAny (model C.prog C.w) A (subscriptTail value (.Slice (some lw) (some hg) none p) u i) (PostE C ι s σ v) Nought s') Nought s) rj ej fun t'=>?_
 refine f9 (G:=fun u=>wpAny (model C.prog C.w) A (newFields "slice" [.int i t,.int j t',.none]) (fun i s'=>wpAny (model C.prog C.w) A (subscriptTail value (.Slice (some lw) (some hg) none p) u i) (PostE C ι s σ v) Nought s') Nought s) ra ex fun c vs n g rr l=>?_
 cases e
 obtain ⟨x,rfl⟩ : ∃ x : Nat,i = x:=⟨i.toNat,by lia⟩
 obtain ⟨y,rfl⟩ : ∃ y : Nat,j = y:=⟨j.toNat,by lia⟩
 refine wpAny_newObj_type (tail_any (ops:=[.ref s.heap.objs.size,.ref c]) ⟨_,push_keeps _ _ g,rfl⟩ slot_tuple_getitem.lookup (gH (s:={ s with heap:=s.heap.push { cls:=.type "slice",data:=.fields #[.int x t,.int y t',.none] } }) ⟨_,push_keeps _ _ g,rfl,n,rfl⟩ (Heap.IsSliceOf.new ..) (by lia) (by lia) (by rw [<- rr.length]; exact hc.2.2) (by rw [<- rr.length]; exact l) ?_) rfl)
 have k2 : Keeps s.heap ((s.heap.push { cls:=.type "slice",data:=.fields #[.int x t,.int y t',.none] }).push { cls:=.type "tuple",data:=.seq ((vs.drop x).take (y - x)).toArray }):=fun uw uw e=>push_keeps _ _ (push_keeps _ _ e)
 refine aU (t:=s.toks) H k2 (Nat.le_trans (aQ _ _) (aQ _ _)) ?_
 rw [Int.toNat_natCast,show ((y : Int) - (x : Int)).toNat = y - x by lia]
 exact .tup (Heap.get?_push_size _ rfl) (VReps.keeps ((rr.drop x).take (y - x)) k2) (Nat.le_trans (by rw [List.length_take,List.length_drop]; lia) l)
end
section
variable {C : Cx} {K : Frag} {ι : List Addr} {σ : Hp} {s : Shared} {A : Around} {d : Nat} {h : Heap}
theorem pT {a : Addr} {m : Str -> Option Value} (hn : h.Ns a m) : ∃ o,h.get? a = some o /\ ∀ x,lookIn x o = some (m x):=by
 refine bf hn fun o es ep ho hd hk hf=>?_
 refine ⟨o,ho,fun x=>?_⟩
 unfold lookIn
 rw [hd]
 dsimp only
 have hr : es.toList.any (·.refKey) = false:=by
  rw [List.any_eq_false]
  intro e m
  refine pK (hk e (by simpa using m)) fun n t q=>?_
  unfold DictEntry.refKey
  rw [q]; simp
 rw [<- hf x]
 unfold nsFind findBy
 rw [hr]
 obtain ⟨l⟩:=es
 rw [List.find?_toArray]
 cases l.find? (fun e=>e.key.isStr x) <;> rfl
theorem jp {p : Nat} {ce : Nat × Nat} (e : insAt σ p = some ce) : σ[p]? = some (.inst ce.1 ce.2):=by
 unfold insAt at e
 split at e
 ·cases e; assumption
 ·cases e
theorem jF {p : Nat} {l : List (Nat × AV)} (e : atrAt σ p = some l) : σ[p]? = some (.attrs l):=by
 unfold atrAt at e
 split at e
 ·cases e; assumption
 ·cases e
theorem qK {p c e : Nat} {a : Addr} {l : List (Nat × AV)} {G : Prop} (H : HOk C ι σ h) (i : ι[p]? = some a) (hp : σ[p]? = some (.inst c e)) (he : σ[e]? = some (.attrs l))
  (k : ∀ dx m o,ι[e]? = some dx -> h.Ns dx m -> (∀ x,lookIn x o = some (m x)) -> InstAt h a (instObj (C.ca c) dx) (C.ca c) (some o) -> (∀ x,match getVar (cd x) l with | some v=>∃ u,m x = some u /\ VRep C ι h v u | none=>m x = none) ->
   (∃ o es ep,h.get? dx = some o /\ o.data = .dict es ep /\ es.size ≤ l.length) -> G) : G:=by
 cases H.rep hp i with
 | inst g j =>
  cases H.rep he j with
  | attrs n z mm =>
   refine aw (pT n) fun o ho hl=>?_
   exact k _ _ o j n hl ⟨g,rfl,rfl,ho⟩ mm z
theorem lD {v : AV} {u : Value} (r : VRep C ι h v u) : handedIn u = true:=by
 cases r <;> first | rfl | (cases b <;> rfl)
theorem qE {p : Nat} {a : Addr} {x : Str} {r : AV ⊕ Nat} {G : AV ⊕ Nat -> Prop} (T : bV C K) (H : HOk C ι σ h) (i : ι[p]? = some a) (e : lookA prg.mt p (cd x) σ = some r)
  (own : ∀ c dx o w u,InstAt h a (instObj (C.ca c) dx) (C.ca c) (some o) -> eX C K c -> prg.mt c (cd x) = some none -> lookIn x o = some (some u) -> VRep C ι h w u -> G (.inl w))
  (met : ∀ c dx o k,InstAt h a (instObj (C.ca c) dx) (C.ca c) (some o) -> eX C K c -> prg.mt c (cd x) = some (some k) -> lookIn x o = some none -> G (.inr k)) : G r :=
 ah e fun ce e1 e=>ah e fun l e2 e=>qK H i (jp e1) (jF e2) fun dx m o uw uw hl I mm uw=>by
  have hx:=mm x
  cases hg : getVar (cd x) l with
  | some w =>
   rw [hg] at e hx
   refine aw hx fun u hu ru=>?_
   exact ah (o:=prg.mt ce.1 (cd x)) e fun m1 hm e=>ifC e fun hn e=>by
    cases m1 with
    | some=>cases hn
    | none=>exact Option.some.inj e ▸ own ce.1 dx o w u I (T.cls _ (.inr ⟨_,by rw [hm]; rfl⟩)) hm (by rw [hl,hu]) ru
  | none =>
   rw [hg] at e hx
   exact aG (o:=(prg.mt ce.1 (cd x)).bind id) e fun k e q=>ah e fun m1 hm e=>q ▸ met ce.1 dx o k I (T.cls _ (.inr ⟨_,by rw [hm]; rfl⟩)) (hm.trans (congrArg some e)) (by rw [hl,hx])
theorem mN (T : bV C K) {a : AV} {x : Str} {v : AV} {u : Value} (e : attrA prg.mt a (cd x) σ = some v) (ra : VRep C ι s.heap a u) (H : HOk C ι σ s.heap) :
  wpAny (model C.prog C.w) A (getAttr u x true) (PostE C ι s σ v) Nought s:=by
 refine ah e fun p ep e=>?_
 have X : K.In s.heap:=T.inn.keeps fun b o e=>H.base b o e
 refine g8 (G:=fun u=>VRep C ι s.heap a u -> wpAny (model C.prog C.w) A (getAttr u x true) (PostE C ι s σ v) Nought s) ra ep (fun b ib ra=>aG e fun r er q=>q ▸ ?_) ra
 refine qE (G:=fun r=>wpAny (model C.prog C.w) A (getAttr (.ref b) x true) (PostE C ι s σ (attrOf a r)) Nought s) T H ib er (fun c dx o w u I CO hm hl ru=>?_) fun c dx o k I CO hm hl=>?_
 ·exact get_value X I CO.geta (findObj_own CO.dict (CO.names x none hm).1 rfl hl) (lD ru) (bS H ru)
 ·refine lh (CO.names x (some k) hm) fun n1 n2 n3=>?_
  refine lh (n3 k rfl) fun t1 t2 t3=>?_
  exact get_bind X I CO.geta (findObj_fn CO.dict n1 t2 t3 n2 hl) CO.getn (wpAny_call (fn_get (s:={ s with toks:=s.toks + 1 }) X t1 (handed_on rfl (aU H push_keeps (aQ _ _) (.meth (Heap.get?_push_size _ rfl) (ra.mono (List.prefix_refl _) push_keeps.imm))))))
theorem cd_extend : cd (Str.ofString "extend") = 49:=by kernel_rfl
theorem cd_pop : cd (Str.ofString "pop") = 75:=by kernel_rfl
theorem lmC {x : Str} {G : Str -> Prop} (e : isLm (cd x) = true) (a : G (Str.ofString "append")) (b : G (Str.ofString "extend")) (c : G (Str.ofString "pop")) : G x:=by
 unfold isLm at e
 rw [Bool.or_eq_true,Bool.or_eq_true] at e
 rcases e with (e | e) | e
 ·exact b0 ((Nat.eq_of_beq_eq_true e).trans cd_append.symm) ▸ a
 ·exact b0 ((Nat.eq_of_beq_eq_true e).trans cd_extend.symm) ▸ b
 ·exact b0 ((Nat.eq_of_beq_eq_true e).trans cd_pop.symm) ▸ c
noncomputable def CalR (C : Cx) (s : Shared) (x : Str) (u : Value) (c : Option Nat) (q : Value × List Value) (s' : Shared) : Prop:=(match c with | some k=>q = (.ref (C.fa k),[u]) | none=>q = (.builtin ("list." ++ x.toString),[u])) /\ ∃ t,s' = { s with toks:=t }
theorem jf (T : bV C K) {a : AV} {x : Str} {c : Option Nat} {u : Value} {pl : Sem Bool} (e : calleeM prg.mt a (cd x) σ = some c) (ra : VRep C ι s.heap a u) (H : HOk C ι σ s.heap) :
  wpAny (model C.prog C.w) A (getMethod u x pl) (CalR C s x u c) Nought s:=by
 refine ah e fun p ep e=>g8 (G:=fun u=>wpAny (model C.prog C.w) A (getMethod u x pl) (CalR C s x u c) Nought s) ra ep fun b ib=>orC e (fun e=>ah e fun xs ex e=>ifC e fun hl e=>ef H ib ex fun vs n g uw uw=>?_) fun e=>aG e fun k e q=>ah e fun r er e=>?_
 ·cases e
  have L : s.TypeIs (.ref b) "list":=⟨_,g,rfl⟩
  refine lmC (G:=fun x=>wpAny (model C.prog C.w) A (getMethod (.ref b) x pl) (CalR C s x (.ref b) none) Nought s) hl ?_ ?_ ?_
  ·exact getMethod_builtin L PySem.F.plainAttrs_list PySem.F.slot_list_append PySem.F.type_list_append (fun b q=>by cases q; exact ⟨_,g,rfl⟩) ⟨rfl,s.toks,rfl⟩
  ·exact getMethod_builtin L PySem.F.plainAttrs_list PySem.F.slot_list_extend PySem.F.type_list_extend (fun b q=>by cases q; exact ⟨_,g,rfl⟩) ⟨rfl,s.toks,rfl⟩
  ·exact getMethod_builtin L PySem.F.plainAttrs_list PySem.F.slot_list_pop PySem.F.type_list_pop (fun b q=>by cases q; exact ⟨_,g,rfl⟩) ⟨rfl,s.toks,rfl⟩
 ·have X : K.In s.heap:=T.inn.keeps fun b o e=>H.base b o e
  refine qE (G:=fun r=>isMeth r = some k -> wpAny (model C.prog C.w) A (getMethod (.ref b) x pl) (CalR C s x (.ref b) c) Nought s) T H ib er (fun uw uw uw uw uw uw uw uw uw uw e=>nn e) (fun c' dx o k' I CO hm hl e=>?_) e
  refine lh (CO.names x (some k') hm) fun n1 n2 n3=>?_
  cases e
  exact q ▸ method_fn X I CO.geta CO.getn n1 (n3 _ rfl).1 (by unfold shadowIn; dsimp only; rw [hl]; rfl) ⟨rfl,s.toks,rfl⟩
end
section
variable {C : Cx} {K : Frag} {ι : List Addr} {σ : Hp} {s : Shared} {A : Around} {d : Nat} {h : Heap}
theorem kC {p n t : Nat} {a : Addr} {vs us : List Value} {ys : List AV} {f : Array Value -> Array Value} (H : HOk C ι σ s.heap) (i : ι[p]? = some a) (g : s.heap.get? a = some (seqObj "list" vs.toArray n)) (e : f vs.toArray = us.toArray) (r : VReps C ι s.heap ys us) (l : ys.length ≤ top) :
  Step NoOwn ι s ι { s with heap:=s.heap.update a (Obj.mapSeq f),toks:=t } /\ HOk C ι (σ.set p (.list ys)) (s.heap.update a (Obj.mapSeq f)):=by
 have b:=Heap.SameBut.update s.heap a (Obj.mapSeq f)
 obtain ⟨n',g'⟩ : ∃ n',(s.heap.update a (Obj.mapSeq f)).get? a = some (seqObj "list" (f vs.toArray) n'):=⟨_,get?_update_seq g f⟩
 refine ⟨.set H i b,H.set i b (.list (n:=n') (by rw [g',e]) (r.mono (List.prefix_refl _) (H.setImm i b)) l)⟩
theorem po {l : Addr} {vs : List Value} {k : Int} {t : Tok} {v : Value} {n : Nat} {E : Value -> Shared -> Prop} {Q : Unit -> Shared -> Prop} (ho : s.heap.get? l = some (seqObj "list" vs.toArray n))
  (h0 : 0 ≤ k) (hfit : k < 2 ^ 63) (hn : k.toNat < vs.length) (hQ : Q () { s with heap:=s.heap.update l (Obj.mapSeq (·.setIfInBounds k.toNat v)) }) :
  wpAny (model C.prog C.w) A (setItem (.ref l) (.int k t) v) Q E s:=by
 have T : s.TypeIs (.ref l) "list":=⟨_,ho,rfl⟩
 unfold setItem
 try with_reducible refine wpAny_holding ?_
 first | refine wpAny_bind (wpAny_pure ?_) | skip
 refine wpAny_bind (wpAny_sequenceKey T (by decide) ?_)
 refine wpAny_bind (wpAny_callSpecial?_slot (name:=Str.ofString "__setitem__") T slot_list_setitem
  (wpAny_call_entry slot_list_setitem T entry_list_setitem ?_ (args_list_setitem _ _ _)))
 show wpAny _ _ (Builtin.List.listSubscript? (.int k t) >>= _) _ _ s
 refine wpAny_bind (wpAny_listSubscript_int (fitsIndex_of h0 hfit) ?_)
 clear hfit
 obtain ⟨j,rfl⟩:=Int.eq_ofNat_of_zero_le h0
 have hj : j < vs.toArray.size:=by simpa using hn
 have hx' : vs.toArray[j]? = some vs.toArray[j]:=Array.getElem?_eq_getElem hj
 show wpAny _ _ ((seqItemAt l j >>= fun r=>pure (r.map (j,·))) >>= _) _ _ s
 refine wpAny_bind (wpAny_bind (wpAny_seqItemAt ho rfl (wpAny_pure ?_)))
 rw [hx']
 show wpAny _ _ (setSeqItemAt l j v >>= _) _ _ s
 refine wpAny_bind (wpAny_setSeqItemAt ho rfl ?_)
 first
  | exact wpAny_bind (wpAny_pure (wpAny_pure ⟨.none,rfl,wpAny_pure hQ⟩))
  | exact wpAny_pure ⟨.none,rfl,wpAny_pure hQ⟩
theorem dT {p : Nat} {xs : List AV} {σ' : Hp} (e : putList σ p xs = some σ') : xs.length ≤ top /\ σ' = σ.set p (.list xs):=by
 unfold putList at e
 split at e
 ·rename_i h; cases e; exact ⟨h,rfl⟩
 ·cases e
theorem mI {p : Nat} {xs : List AV} {i : Int} {t : Tok} {v : AV} {w : Value} {σ' : Hp} {a : Addr} (e1 : σ[p]? = some (AO.list xs)) (h0 : 0 ≤ i) (hl : i.toNat < xs.length) (e2 : putList σ p (xs.set i.toNat v) = some σ') (ia : ι[p]? = some a) (r : VRep C ι s.heap v w) (H : HOk C ι σ s.heap) :
  wpAny (model C.prog C.w) A (setItem (.ref a) (.int i t) w) (fun uw s'=>Step NoOwn ι s ι s' /\ HOk C ι σ' s'.heap) Nought s:=by
 refine bJ (bj H e1 ia) fun vs n g rr l=>?_
 obtain ⟨hz,rfl⟩:=dT e2
 have hz' : xs.length ≤ 4000:=l
 exact po (n:=n) g h0 (by lia) (by rw [<- rr.length]; exact hl) (kC (t:=s.toks) H ia g (by rw [List.setIfInBounds_toArray]) (rr.set r i.toNat) hz)
theorem gr {p n : Nat} {a : Addr} {vs us : List Value} {ys : List AV} {f : Array Value -> Array Value} {v : AV} {w : Value} {σ' : Hp} (H : HOk C ι σ s.heap) (i : ι[p]? = some a) (g : s.heap.get? a = some (seqObj "list" vs.toArray n)) (e : f vs.toArray = us.toArray) (r : VReps C ι s.heap ys us) (hz : putList σ p ys = some σ') (rv : VRep C ι s.heap v w) :
  PostE C ι s σ' v w { s with heap:=s.heap.update a (Obj.mapSeq f) }:=by
 obtain ⟨l,rfl⟩:=dT hz
 obtain ⟨st,H'⟩:=kC (t:=s.toks) (f:=f) H i g e r l
 exact ⟨ι,st,H',rv.mono (List.prefix_refl _) st.imm⟩
theorem pI {l : List AV} {v : AV} {vs : List Value} {G : List Value -> Prop} (e : one l = some v) (rs : VReps C ι h l vs) (k : ∀ u,VRep C ι h v u -> G [u]) : G vs:=by
 rw [bZ e] at rs
 cases rs with
 | cons r rn=>cases rn; exact k _ r
theorem lg {p : Nat} {xs : List AV} {x : Str} {as : List AV} {v : AV} {σ' : Hp} {a : Addr} {us : List Value} (e : mcallL σ p xs (cd x) as = some (v,σ')) (e1 : σ[p]? = some (.list xs)) (ia : ι[p]? = some a) (ra : VReps C ι s.heap as us) (H : HOk C ι σ s.heap) :
  wpAny (model C.prog C.w) A (call (.builtin ("list." ++ x.toString)) (.ref a :: us)) (PostE C ι s σ' v) Nought s:=by
 refine bJ (bj H e1 ia) fun vs n g rr l=>?_
 have l' : xs.length ≤ 4000:=l
 have lv : vs.length ≤ 4000:=rr.length ▸ l'
 have hs : vs.toArray.size + 1 ≤ 10000:=by rw [List.size_toArray]; lia
 have L : s.TypeIs (.ref a) "list":=⟨_,g,rfl⟩
 unfold mcallL at e
 split at e
 ·rename_i hx
  rw [b0 ((Nat.eq_of_beq_eq_true hx).trans cd_append.symm)]
  refine ah e fun v0 e0 e=>aG e fun σ2 e2 q=>pI (G:=fun us=>wpAny (model C.prog C.w) A (call (.builtin ("list." ++ (Str.ofString "append").toString)) (.ref a :: us)) (PostE C ι s σ' v) Nought s) e0 ra fun u0 r0=>?_
  cases q
  exact call_meets (id:="list.append") PySem.F.slot_list_append L PySem.F.entry_list_append (PySem.F.args_list_append_2 _ _) (list_append a vs.toArray n _ (by rw [sizeLine_eq]; lia)) ⟨g,gr (f:=fun xs=>xs.push u0) H ia g (List.push_toArray ..) (rr.append (.cons r0 .nil)) e2 .none⟩
 ·split at e
  ·rename_i hx
   rw [b0 ((Nat.eq_of_beq_eq_true hx).trans cd_extend.symm)]
   refine ah e fun v0 e0 e=>ah e fun ys ey e=>aG e fun σ2 e2 q=>pI (G:=fun us=>wpAny (model C.prog C.w) A (call (.builtin ("list." ++ (Str.ofString "extend").toString)) (.ref a :: us)) (PostE C ι s σ' v) Nought s) e0 ra fun u0 r0=>?_
   refine e8 (G:=fun u0=>wpAny (model C.prog C.w) A (call (.builtin ("list." ++ (Str.ofString "extend").toString)) (.ref a :: [u0])) (PostE C ι s σ' v) Nought s) H r0 ey fun uw b ws m uw uw g' rw' lw=>?_
   cases q
   have lw' : ys.length ≤ 4000:=lw
   have lws : ws.toArray.size ≤ 4000:=by rw [List.size_toArray]; exact rw'.length ▸ lw'
   exact call_meets (id:="list.extend") PySem.F.slot_list_extend L PySem.F.entry_list_extend (PySem.F.args_list_extend_2 _ _) (AutoSeq1.list_extend_list_list_0 a vs.toArray n b ws.toArray m (by simp [Builtin.List.listTooLong,sizeLine]; simp at lws hs; lia) (by rw [sizeLine_eq]; lia) (by rw [sizeLine_eq]; lia)) ⟨g,g',gr (f:=fun xs=>xs ++ ws.toArray) H ia g (List.append_toArray ..) (rr.append rw') e2 .none⟩
  ·refine ifC e fun hx e=>ah e fun w hw e=>aG e fun σ2 e2 q=>?_
   rw [Bool.and_eq_true] at hx
   rw [b0 ((Nat.eq_of_beq_eq_true hx.1).trans cd_pop.symm)]
   cases q
   cases as with
   | cons=>cases hx.2
   | nil =>
    cases ra
    have hpos : xs ≠ []:=fun q=>by subst q; cases hw
    have hl : 0 < xs.length:=List.length_pos_iff.mpr hpos
    have hg : xs[xs.length - 1]? = some v:=by rw [<- List.getLast?_eq_getElem?]; exact hw
    refine aw (rr.get hg) fun y gy ry=>?_
    have ez:=rr.length
    rw [List.dropLast_eq_take] at e2
    refine call_meets (id:="list.pop") PySem.F.slot_list_pop L PySem.F.entry_list_pop (PySem.F.args_list_pop_1 _) (MeetsSeq.list_pop_last a vs.toArray n y (by rw [List.size_toArray,<- ez,List.getElem?_toArray]; exact gy) (by rw [sizeLine_eq]; lia)) ⟨g,gr (f:=fun xs=>xs.eraseIdxIfInBounds (vs.toArray.size - 1)) H ia g ?_ (rr.take (xs.length - 1)) e2 ry⟩
    apply Array.toList_inj.mp
    have hlt : vs.length - 1 < vs.length:=by lia
    simp [Array.eraseIdxIfInBounds,hlt,ez]
    rw [List.dropLast_eq_take]
end
section
open PySem.Sem
variable {M : Model} {Γ : Ctx} {E : Value -> Pos -> Shared -> Prop} {p : Pos} {s : Shared}
theorem kI {a : Addr} {m : Str -> Option Value} {o : Obj} {es : Array DictEntry} {ep : Nat} (hk : StrKeys es) (hm : ∀ name,nsFind es name = m name) (ho : s.heap.get? a = some o) (hd : o.data = .dict es ep) (name : Str) (v : Value) (Q : Unit -> Pos -> Shared -> Prop)
  (hQ : ∀ h' o' es' ep',h'.Ns a (fun x=>if x = name then some v else m x) -> Heap.SameBut a s.heap h' -> h'.get? a = some o' -> o'.data = .dict es' ep' -> es'.size ≤ es.size + (if (m name).isSome then 0 else 1) ->
   Q () p { s with heap:=h',toks:=s.toks + 1 }) : Sem.wp M Γ (nsSet a name v) Q E p s:=by
 simp only [nsSet,strHash,wp_bind',wp_cmd_ask,wp_pure',wp_cmd_mkText]
 rw [wp_loadPart_of M Γ E p { s with toks:=s.toks + 1 } (o:=o) _ ho]
 have hany : es.any (·.refKey) = false:=by
  rw [Array.any_eq_false']; intro e he; obtain ⟨n,t,h⟩:=hk e he; simp [DictEntry.refKey,h]
 simp only [hd,aRefKeyMayBeTheName_eq,aRefKeyMayBeTheNameByArray,hany,Bool.and_false,Bool.false_eq_true,if_false,wp_cmd_updatePart]
 obtain ⟨c,d,dt,sl⟩:=o
 subst hd
 refine ⟨by rw [ho]; rfl,?_⟩
 have hf:=findBy_of_findIdx? (fun n v=>v.isStr n) es name
 cases hi : es.findIdx? (·.key.isStr name) with
 | some i =>
  have hg:=Heap.get?_update_self (Obj.putName name (PyData.keyHash M.w.params name) (.str name s.toks) v) ho (by simp only [Obj.putName_eq,Obj.putNameByArray,hi]; rfl)
  have hdt : (Obj.putName name (PyData.keyHash M.w.params name) (.str name s.toks) v ⟨c,d,.dict es ep,sl⟩).data = .dict (es.modify i fun e=>{ e with val:=v }) ep:=by simp only [Obj.putName_eq,Obj.putNameByArray,hi]
  refine hQ _ _ _ _ ⟨_,_,ep,hg,hdt,hk.modify _ _,fun x=>?_⟩ (Heap.SameBut.update ..) hg hdt ?_
  ·show _ = if x = name then some v else m x
   rw [<- hm]; exact findBy_modify (fun n v=>v.isStr n) Value.isStr_inj es name x v i hi
  ·simp
 | none =>
  have hg:=Heap.get?_update_self (Obj.putName name (PyData.keyHash M.w.params name) (.str name s.toks) v) ho (by simp only [Obj.putName_eq,Obj.putNameByArray,hi]; rfl)
  have hdt : (Obj.putName name (PyData.keyHash M.w.params name) (.str name s.toks) v ⟨c,d,.dict es ep,sl⟩).data = .dict (es.push ⟨PyData.keyHash M.w.params name,.str name s.toks,v⟩) (ep + 1):=by simp only [Obj.putName_eq,Obj.putNameByArray,hi]
  refine hQ _ _ _ _ ⟨_,_,ep + 1,hg,hdt,hk.push _ _ _ _,fun x=>?_⟩ (Heap.SameBut.update ..) hg hdt ?_
  ·show _ = if x = name then some v else m x
   rw [<- hm]
   exact findBy_push (fun n v=>v.isStr n) es name x _ _ v (fun y=>by
    show (name == y) = decide (y = name)
    by_cases q : y = name
    ·subst q; simp
    ·simp [q,Ne.symm q]) hi
  ·have : m name = none:=by rw [<- hm]; unfold nsFind; rw [hf,hi]
   rw [this]; simp
end
section
variable {C : Cx} {K : Frag} {ι : List Addr} {σ : Hp} {s : Shared} {A : Around} {d : Nat} {h : Heap}
theorem rF {M : Model} {E : Value -> Shared -> Prop} {a : Addr} {m : Str -> Option Value} {o : Obj} {es : Array DictEntry} {ep : Nat} {name : Str} {v : Value} {Q : Unit -> Shared -> Prop} (hn : s.heap.Ns a m) (ho : s.heap.get? a = some o) (hd : o.data = .dict es ep)
  (hQ : ∀ h' o' es' ep',h'.Ns a (fun x=>if x = name then some v else m x) -> Heap.SameBut a s.heap h' -> h'.get? a = some o' -> o'.data = .dict es' ep' -> es'.size ≤ es.size + (if (m name).isSome then 0 else 1) ->
   Q () { s with heap:=h',toks:=s.toks + 1 }) : wpAny M A (nsSet a name v) Q E s:=by
 refine bf hn fun o2 es2 ep2 ho2 hd2 hk hm=>?_
 rw [ho] at ho2
 cases ho2
 rw [hd] at hd2
 cases hd2
 exact fun Γ p uw=>kI hk hm ho hd name v _ hQ
theorem cX (x : Nat) (v : AV) : ∀ as : List (Nat × AV),(setVar x v as).length = as.length + (if (getVar x as).isSome then 0 else 1)
 | []=>rfl
 | (y,w) :: r=>by
  unfold setVar getVar
  split
  ·simp
  ·rw [List.length_cons,cX x v r,List.length_cons]; lia
theorem mK (T : bV C K) {p c z : Nat} {as : List (Nat × AV)} {x : Str} {v : AV} {w : Value} {a : Addr} (e1 : σ[p]? = some (AO.inst c z)) (e2 : σ[z]? = some (AO.attrs as)) (hm : prg.mt c (cd x) = some none) (hl : as.length < top) (ia : ι[p]? = some a) (r : VRep C ι s.heap v w) (H : HOk C ι σ s.heap) :
  wpAny (model C.prog C.w) A (setAttr (.ref a) x w) (fun uw s'=>Step NoOwn ι s ι s' /\ HOk C ι (σ.set z (.attrs (setVar (cd x) v as))) s'.heap) Nought s:=by
 refine qK H ia e1 e2 fun dx m o j n hlk I mm zz=>?_
 have X : K.In s.heap:=T.inn.keeps fun b o e=>H.base b o e
 have CO:=T.cls c (.inr ⟨_,by rw [hm]; rfl⟩)
 obtain ⟨g,_,_,_⟩:=id I
 refine set_plain X I CO.seta (osa_open (s:={ s with toks:=s.toks + 1 }) X I CO.over (r:=none) (by unfold takerIn; rw [(CO.names x none hm).1]; rfl) fun b=>?_)
 refine aw (any_some CO.dict) fun cd' hc hd'=>?_
 refine wpAny_bind (wpAny_pure (wpAny_bind (wpAny_bind (wpAny_loadPart g (wpAny_bind (Looks.here (s:={ s with toks:=s.toks + 1 }) (looks_clsIn X hc) ?_))))))
 rw [hd']
 refine wpAny_pure (a:=some dx) (wpAny_bind (wpAny_pure (wpAny_bind ?_)))
 refine cK zz fun o2 es ep ho2 hd2 hz=>?_
 refine rF (s:={ s with toks:=s.toks + 1 }) n ho2 hd2 fun h' o' es' ep' n' sb g' d' z'=>?_
 have hz' : es'.size ≤ (setVar (cd x) v as).length:=by
  rw [cX]
  have:=mm x
  cases hx : getVar (cd x) as with
  | none=>rw [hx] at this; rw [this] at z'; exact Nat.le_trans z' (Nat.add_le_add_right hz _)
  | some y=>rw [hx] at this; obtain ⟨u,hu,_⟩:=this; rw [hu] at z'; exact Nat.le_trans z' (Nat.add_le_add_right hz _)
 have hzz : (setVar (cd x) v as).length ≤ 4001:=by
  rw [cX]
  have : as.length < 4000:=hl
  split <;> lia
 refine wpAny_bind (wpAny_lookBehind g' (by rw [d']; exact pastItsLine_dict (by rw [sizeLine_eq]; lia)) (wpAny_pure ⟨.set H j sb,H.set j sb (.attrs n' ⟨o',es',ep',g',d',hz'⟩ fun y=>?_)⟩))
 have k:=H.setImm j sb
 rw [br]
 by_cases q : x = y
 ·rw [if_pos q]; exact ⟨w,if_pos q.symm,r.mono (List.prefix_refl _) k⟩
 ·rw [if_neg q,if_neg fun e=>q e.symm]
  have:=mm y
  split <;> rename_i hy <;> rw [hy] at this
  ·refine aw this fun u hu ru=>?_
   exact ⟨u,hu,ru.mono (List.prefix_refl _) k⟩
  ·exact this
theorem DReps.has {es : List (AV × AV)} {xs : List (List Int × Addr × Value)} {k : List Int} (r : DReps C ι h es xs) : dHas k es = (atKey xs k).isSome:=by
 induction r with
 | nil=>rfl
 | @cons y v' ks a' u es xs e1 a b _ ih =>
  unfold dHas at ih ⊢
  unfold atKey at ih ⊢
  rw [List.any_cons,List.find?_cons,ih,e1]
  by_cases q : ks = k
  ·subst q; simp
  ·simp [q]
theorem DReps.putOld {es : List (AV × AV)} {xs : List (List Int × Addr × Value)} {k : List Int} {key v : AV} {u : Value} (r : DReps C ι h es xs) (nd : (xs.map (·.1)).Nodup) (hh : dHas k es = true) (rv : VRep C ι h v u) : DReps C ι h (dPut key k v es) (xs.map (putAt k u)):=by
 induction r with
 | nil=>cases hh
 | @cons y v' ks a' u' es xs e1 a b rr ih =>
  rw [List.map_cons,List.nodup_cons] at nd
  unfold dPut
  rw [List.map_cons]
  by_cases q : ks = k
  ·subst q
   rw [if_pos e1]
   have e2 : xs.map (putAt ks u) = xs:=by
    have : ∀ x ∈ xs,putAt ks u x = x:=fun x m=>by
     unfold putAt
     refine if_neg fun q=>nd.1 (List.mem_map.mpr ⟨x,m,q⟩)
    rw [List.map_congr_left this]; simp
   rw [e2]
   have : putAt ks u (ks,a',u') = (ks,a',u):=by unfold putAt; rw [if_pos rfl]
   rw [this]
   exact .cons e1 a rv rr
  ·have hne : ¬ keyOf y = some k:=fun z=>q (by rw [e1] at z; injection z)
   rw [if_neg hne]
   have : putAt k u (ks,a',u') = (ks,a',u'):=by unfold putAt; rw [if_neg q]
   rw [this]
   refine .cons e1 a b (ih nd.2 ?_)
   unfold dHas at hh ⊢
   rw [List.any_cons] at hh
   simpa [hne] using hh
theorem DReps.putNew {es : List (AV × AV)} {xs : List (List Int × Addr × Value)} {k : List Int} {key v : AV} {u : Value} {p : Addr} (r : DReps C ι h es xs) (hh : dHas k es = false) (ek : keyOf key = some k) (rk : VRep C ι h key (.ref p)) (rv : VRep C ι h v u) : DReps C ι h (dPut key k v es) (xs ++ [(k,p,u)]):=by
 induction r with
 | nil=>exact .cons ek rk rv .nil
 | @cons y v' ks a' u' es xs e1 a b rr ih =>
  unfold dHas at hh ih
  rw [List.any_cons,Bool.or_eq_false_iff] at hh
  have hne : ¬ keyOf y = some k:=by simpa using hh.1
  unfold dPut
  rw [if_neg hne]
  exact .cons e1 a b (ih hh.2)
theorem eQ (key : AV) (k : List Int) (v : AV) : ∀ es : List (AV × AV),(dPut key k v es).length ≤ es.length + 1
 | []=>by simp [dPut]
 | (y,w) :: r=>by
  unfold dPut; split
  ·simp
  ·have:=eQ key k v r; simp; lia
theorem mJ {p : Nat} {es : List (AV × AV)} {ep : Nat} {key : AV} {k : List Int} {kw : Value} {v : AV} {w : Value} {a : Addr} (R : Room A d) (e1 : σ[p]? = some (AO.dict es ep)) (ek : keyOf key = some k) (hl : es.length < top) (ia : ι[p]? = some a) (rk : VRep C ι s.heap key kw) (rv : VRep C ι s.heap v w) (H : HOk C ι σ s.heap) :
  wpAny (model C.prog C.w) A (setItem (.ref a) kw w) (fun uw s'=>Step NoOwn ι s ι s' /\ HOk C ι (σ.set p (.dict (dPut key k v es) (if dHas k es then ep else ep + 1))) s'.heap) Nought s:=by
 have hu : A.units + 64 * (d + 1) < cLine:=R.units
 refine dk (cJ H e1 ia) fun ents xs g q r nd l=>?_
 obtain ⟨b,rfl,tb⟩ : ∃ b,kw = .ref b /\ (tk C).is s.heap k b:=m3 (C:=C) (G:=fun kw=>∃ b,kw = .ref b /\ (tk C).is s.heap k b) (eN ek rk) fun b tb=>⟨b,rfl,tb⟩
 have T : s.TypeIs (.ref a) "dict":=⟨_,g,rfl⟩
 have hl' : es.length < 4000:=hl
 have zs:=dR q r
 unfold setItem
 try with_reducible refine wpAny_holding ?_
 refine wpAny_bind (wpAny_sequenceKey T (by decide) ?_)
 refine wpAny_bind (wpAny_callSpecial?_slot (name:=Str.ofString "__setitem__") T PySem.F.slot_dict_setitem
  (wpAny_call_entry PySem.F.slot_dict_setitem T PySem.F.entry_dict_setitem ?_ (PySem.F.args_dict_setitem_3 _ _ _)))
 show wpAny _ _ (Builtin.Dict.notOrdered "__setitem__" ⟨[.ref a,.ref b,w],[]⟩ >>= _) _ _ s
 refine wpAny_bind (wpAny_notOrdered_dict T ?_)
 show wpAny _ _ (dictSet a (.ref b) w >>= _) _ _ s
 refine wpAny_bind ?_
 have hu' : (tk C).room A.in1:=by show A.in1.units < cLine; simp; lia
 unfold dictSet
 try with_reducible refine wpAny_holding ?_
 refine wpAny_bind ((tk C).pyHash hu' tb ?_)
 unfold dictSetHashed
 try with_reducible refine wpAny_holding ?_
 refine wpAny_bind (wpAny_dictFind_heap (knd:=tk C) (s:={ s with toks:=s.toks + (tk C).draws k }) hu' tb g rfl q r.keys nd ?_ ?_)
 ·intro hno
  have ha:=atKey_none_of_get hno
  have hh : dHas k es = false:=by rw [r.has (k:=k),ha]; rfl
  have hnot : k ∉ xs.map (·.1):=not_mem_keys_of_get hno
  refine wpAny_bind (wpAny_rule (wpAny_updateDictKeys (hz:=by rw [zs,sizeLine_eq]; lia) (s:={ s with toks:=s.toks + (tk C).draws k }) g rfl ?_))
  refine wpAny_pure ⟨_,rfl,wpAny_pure ?_⟩
  have sb:=Heap.SameBut.update s.heap a (Obj.mapDictKeys (·.push ⟨(tk C).hash k,.ref b,w⟩))
  have g' : (s.heap.update a (Obj.mapDictKeys (·.push ⟨(tk C).hash k,.ref b,w⟩))).get? a = some (dObj (ents.push ⟨(tk C).hash k,.ref b,w⟩) (ep + 1)):=Heap.get?_update_self _ g rfl
  have k0:=H.setImm ia sb
  rw [hh]
  refine ⟨.set H ia sb,H.set ia sb (.dict g' (xs:=xs ++ [(k,b,w)]) (by simp [q,entryOfKey]) ((r.putNew hh ek rk rv).mono (List.prefix_refl _) k0) ?_ (Nat.le_trans (eQ key k v es) hl))⟩
  rw [List.map_append,List.nodup_append]
  refine ⟨nd,by simp,?_⟩
  intro x hx y hy
  simp only [List.map_cons,List.map_nil,List.mem_singleton] at hy
  subst hy
  exact fun e=>hnot (e ▸ hx)
 ·intro j p' hj
  have ha:=atKey_of_get nd hj
  have hh : dHas k es = true:=by rw [r.has (k:=k),ha]; rfl
  refine wpAny_bind (wpAny_rule (wpAny_bind (wpAny_updateDict (s:={ s with toks:=s.toks + (tk C).draws k }) g rfl (wpAny_point ?_))))
  refine wpAny_pure ⟨_,rfl,wpAny_pure ?_⟩
  have sb:=Heap.SameBut.update s.heap a (Obj.mapDict (·.modify j fun e=>{ e with val:=w }))
  have g' : (s.heap.update a (Obj.mapDict (·.modify j fun e=>{ e with val:=w }))).get? a = some (dObj (ents.modify j fun e=>{ e with val:=w }) ep):=Heap.get?_update_self _ g rfl
  have k0:=H.setImm ia sb
  rw [hh]
  refine ⟨.set H ia sb,H.set ia sb (.dict g' (xs:=xs.map (putAt k w)) ?_ ((r.putOld nd hh rv).mono (List.prefix_refl _) k0) (by rw [keys_map_putAt]; exact nd) (Nat.le_trans (eQ key k v es) hl))⟩
  have:=modify_map_putAt (entryOfKey (tk C)) (fun e : DictEntry=>{ e with val:=w }) k w (fun uw uw=>rfl) nd hj
  rw [<- q] at this
  obtain ⟨l⟩:=ents
  simpa using this
end
end Mine
end
section
set_option maxRecDepth 100000
open PyProof.Rows PySem PySem.Calls PySem.W
namespace Mine
theorem lk_list_keys : typeLookup (.type "list") "keys" = pure none:=by rw [typeLookup_type,builtinLookup_eq_fast]; kernel_rfl
section
variable {prog : Program} {w : World} {A : Around} {E : Value -> Shared -> Prop} {s : Shared} {a : Addr} {xs : Array Value} {k : Nat}
theorem lB {Q : Option Value -> Shared -> Prop} (hA : A.handled = none) (hx : s.heap.get? a = some ⟨.type "list",none,.seq xs k,#[]⟩) (h : ∀ h' tk,Keeps s.heap h' -> Q none { s with heap:=h',toks:=tk }) :
  wpAny (model prog w) A (getAttr? (.ref a) "keys") Q E s:=by
 obtain ⟨hp,g,d,tk,os⟩:=s
 have hT : ∀ tk',(⟨hp,g,d,tk',os⟩ : Shared).TypeIs (.ref a) "list":=fun uw=>⟨_,hx,rfl⟩
 have f1:=sub_AttributeError
 have f3:=PySem.F.slot_list_getattribute.lookup
 have f4:=PySem.F.slot_list_getattribute.bind (.ref a)
 have f5:=am_list_getattr_none
 unfold getAttr? getAttrBy? getAttrBy
 repeat (any_goals (first | assumption | exact hT _ | ((with_reducible show wpAny _ _ (call (Value.builtin "list.__getattribute__") _ _) _ _ _); refine call_meets PySem.F.slot_list_getattribute (hT _) am_entry_list_getattribute (PySem.F.args_list_getattribute_2 _ _) (meets_getattribute_miss_list a xs k #[] "keys" _ lk_list_keys (by decide) (by size_fits)) ⟨hx,hA,fun h' tk' e hx'=>?_⟩) | wp_step))
 refine pK hx'.there fun t' u' he=>?_
 show wpAny _ _ (getattributeRaised _ _ _ _ _ _ _) _ _ _
 unfold getattributeRaised
 repeat (any_goals (first | assumption | wp_step))
 exact h _ _ hx'.keeps
end
theorem plain_dul : plainId "dict.update.loop" = true:=by decide +kernel
theorem entry_dul : entryFor table "dict.update.loop" = some Builtin.«dict.update.loop»:=entryFor_of_tree (by kernel_rfl)
section
variable {C : Cx} {A : Around} {E : Value -> Shared -> Prop} {s : Shared} {D I L : Addr} {ι : List Addr}
theorem jw {ents : Array DictEntry} {ep : Nat} {xs : List (List Int × Addr × Value)} {k : List Int} {b : Addr} {w : Value} {Q : Unit -> Shared -> Prop} (hu : A.units < cLine) (g : s.heap.get? D = some (dObj ents ep)) (q : ents.toList = xs.map (entryOfKey (tk C))) (hk : ∀ x ∈ xs,(tk C).is s.heap x.1 x.2.1) (nd : (xs.map (·.1)).Nodup)
  (tb : (tk C).is s.heap k b) (hn : k ∉ xs.map (·.1)) (hz : xs.length ≤ 4000) (h : ∀ t,Q () { s with heap:=s.heap.update D (Obj.mapDictKeys (·.push ⟨(tk C).hash k,.ref b,w⟩)),toks:=t }) :
  wpAny (model C.prog C.w) A (dictSet D (.ref b) w) Q E s:=by
 have zs : ents.size = xs.length:=by rw [<- Array.length_toList,q,List.length_map]
 unfold dictSet
 try with_reducible refine wpAny_holding ?_
 refine wpAny_bind ((tk C).pyHash (show (tk C).room A from hu) tb ?_)
 unfold dictSetHashed
 try with_reducible refine wpAny_holding ?_
 refine wpAny_bind (wpAny_dictFind_heap (knd:=tk C) (s:={ s with toks:=s.toks + (tk C).draws k }) (show (tk C).room A from hu) tb g rfl q hk nd ?_ ?_)
 ·intro hno
  exact wpAny_bind (wpAny_rule (wpAny_updateDictKeys (hz:=by rw [zs,sizeLine_eq]; lia) (s:={ s with toks:=s.toks + (tk C).draws k }) g rfl (h _)))
 ·intro j p hj
  exact absurd (List.mem_map.mpr ⟨_,List.mem_of_getElem? hj,rfl⟩) hn
section
variable {h h1 : Heap} {c : Addr} {o : Obj}
theorem noI {j : Nat} (hI : h.IsListIter I L j) (e : h.get? c = some o) (z : immO o = true \/ o.cls = .type "tuple") : c ≠ I:=fun w=>by
 subst w
 refine bq hI fun oi gi ci di=>?_
 rw [gi] at e; cases e
 rcases z with z | z
 ·unfold immO at z; rw [di,ci] at z; exact absurd z (show ¬ ((clsIs (.type "list_iterator") "range" || clsIs (.type "list_iterator") "method") = true) by decide)
 ·rw [ci] at z; exact absurd z (by decide)
theorem noD {en : Array DictEntry} {e0 : Nat} (gD : h.get? D = some (dObj en e0)) (e : h.get? c = some o) (z : immO o = true \/ o.cls = .type "tuple") : c ≠ D:=fun w=>by
 subst w
 rw [gD] at e; cases e
 rcases z with z | z
 ·exact Bool.noConfusion z
 ·exact absurd z (show ¬ (Value.type "dict" = Value.type "tuple") by decide)
theorem uf {j : Nat} (hI : h.IsListIter I L j) (b : Heap.SameBut I h h1) : ImmK h h1:=fun c uw e z=>(b.2 c (noI hI e (.inl z))).trans e
theorem ug {en : Array DictEntry} {e0 : Nat} (g : h.get? D = some (dObj en e0)) (b : Heap.SameBut D h h1) : ImmK h h1:=fun c uw e z=>(b.2 c (noD g e (.inl z))).trans e
theorem isI {j : Nat} {k : List Int} (hI : h.IsListIter I L j) (b : Heap.SameBut I h h1) : (tk C).is h k c -> (tk C).is h1 k c:=fun ⟨o,items,n,g0,c0,d0,i0⟩=>⟨o,items,n,(b.2 _ (noI hI g0 (.inr c0))).trans g0,c0,d0,i0⟩
theorem isD {en : Array DictEntry} {e0 : Nat} {k : List Int} (g : h.get? D = some (dObj en e0)) (b : Heap.SameBut D h h1) : (tk C).is h k c -> (tk C).is h1 k c:=fun ⟨o,items,n,g0,c0,d0,i0⟩=>⟨o,items,n,(b.2 _ (noD g g0 (.inr c0))).trans g0,c0,d0,i0⟩
@[elab_as_elim] theorem t7 {x y : AV} {u : Value} {k : List Int} {G : Value -> Prop} (r : VRep C ι h (.tup [x,y]) u) (e : keyOf x = some k)
  (K : ∀ a n b v,h.get? a = some ⟨.type "tuple",none,.seq [.ref b,v].toArray n,#[]⟩ -> (tk C).is h k b -> VRep C ι h x (.ref b) -> VRep C ι h y v -> G (.ref a)) : G u:=by
 refine f9 (G:=G) r rfl fun c vs n g rt uw=>?_
 cases rt with
 | cons rk rt=>cases rt with
  | cons rv rt =>
   cases rt
   obtain ⟨p,us,m,rfl,g',i⟩:=eN e rk
   exact K _ _ _ _ g ⟨_,_,_,g',rfl,rfl,by simpa using iE i⟩ rk rv
end
theorem tm {us : List Value} (hh : A.handled = none) (hu : A.units + 2 < cLine) (hID : I ≠ D) (hLD : L ≠ D) (hLI : L ≠ I) :
  ∀ (ps : List (AV × AV)) (i : Nat) (s : Shared) (r : Nat) (xs : List (List Int × Addr × Value)) (ents : Array DictEntry) (ep : Nat) {R : Result -> Shared -> Prop},(∀ j (p : AV × AV),ps[j]? = some p -> ∃ u,us[i + j]? = some u /\ VRep C ι s.heap (.tup [p.1,p.2]) u) -> us.length = i + ps.length ->
   (∀ p ∈ ps,∃ k,keyOf p.1 = some k /\ k ∉ xs.map (·.1)) -> (ps.map fun p=>keyOf p.1).Nodup ->
   s.heap.IsListIter I L i -> s.heap.IsList L us.toArray -> s.heap.get? D = some (dObj ents ep) -> ents.toList = xs.map (entryOfKey (tk C)) -> (∀ x ∈ xs,(tk C).is s.heap x.1 x.2.1) -> (xs.map (·.1)).Nodup -> xs.length + ps.length ≤ 4000 ->
   (∀ h' t ents' xs',(∀ c o,c ≠ D -> c ≠ I -> s.heap.get? c = some o -> h'.get? c = some o) -> h'.get? D = some (dObj ents' (ep + ps.length)) -> ents'.toList = (xs ++ xs').map (entryOfKey (tk C)) -> DReps C ι h' ps xs' -> ((xs ++ xs').map (·.1)).Nodup -> R (.ok (.ret .none)) { s with heap:=h',toks:=t }) ->
   codeAny (model C.prog C.w) A (.builtin "dict.update.loop" ⟨[.ref D,.ref I,rawInt r,.none],[]⟩) R s:=by
 intro ps
 induction ps with
 | nil =>
  intro i s r xs ents ep R hr hl hk hn hI hL g q hx nd hz h
  refine codeAny_builtin entry_dul ?_
  rw [Around.under_plainId plain_dul _]
  show wpAny _ A.in1 (pyNext (.ref I) >>= _) _ _ s
  refine wpAny_bind (wpAny_pyNext_list_end (by simpa using hh) hI hL (by simp at hl ⊢; lia) fun h' b=>?_)
  refine wpAny_pure ?_
  exact (h h' s.toks ents [] (fun c o n1 n2 e=>b c o n2 e) (b _ _ (Ne.symm hID) g) (by simpa using q) .nil (by simpa using nd))
 | cons p ps ih =>
  intro i s r xs ents ep R hr hl hk hn hI hL g q hx nd hz h
  refine aw (hr 0 p rfl) fun u gu ru=>?_
  refine aw (hk p List.mem_cons_self) fun k ek nk=>?_
  have ⟨n1,n2⟩:=List.nodup_cons.mp hn
  refine codeAny_builtin entry_dul ?_
  rw [Around.under_plainId plain_dul _]
  show wpAny _ A.in1 (pyNext (.ref I) >>= _) _ _ s
  refine wpAny_bind (wpAny_pyNext_list_item hI hL (x:=u) (by simpa using gu) fun h1 hI1 b1=>?_)
  have im:=uf hI b1
  have g1:=(b1.2 _ (Ne.symm hID)).trans g
  have hx1 : ∀ x ∈ xs,(tk C).is h1 x.1 x.2.1:=fun x m=>isI hI b1 (hx x m)
  have hL1:=hL.at fun o e=>(b1.2 _ hLI).trans e
  refine t7 (ru.mono (List.prefix_refl _) im) ek fun a n bk vv gt tb rk rv=>?_
  show wpAny _ A.in1 (holding [Value.ref a] _ >>= _) _ _ _
  refine wpAny_bind (wpAny_holding ?_)
  refine wpAny_bind (wpAny_tryCatch ?_)
  unfold Builtin.Dict.pairItems
  refine wpAny_bind (wpAny_typeOf (T:="tuple") (s:={ s with heap:=h1 }) (v:=.ref a) ⟨_,gt,rfl⟩ ?_)
  refine aE (if_pos rfl) ?_
  refine wpAny_bind (wpAny_seqItems gt rfl (wpAny_pure ?_))
  show wpAny _ _ (holding [Value.ref bk,vv] (dictSet D (.ref bk) vv)) _ _ _
  refine wpAny_holding (jw (s:={ s with heap:=h1 }) (by simp; lia) g1 q hx1 nd tb nk (by rw [List.length_cons] at hz; lia) fun t2=>?_)
  have sb2:=Heap.SameBut.update h1 D (Obj.mapDictKeys (·.push ⟨(tk C).hash k,.ref bk,vv⟩))
  have g2:=Heap.get?_update_self (Obj.mapDictKeys (·.push ⟨(tk C).hash k,.ref bk,vv⟩)) g1 rfl
  revert sb2 g2
  generalize h1.update D (Obj.mapDictKeys (·.push ⟨(tk C).hash k,.ref bk,vv⟩)) = h2
  intro sb2 g2
  have im2:=ug g1 sb2
  have hI2:=hI1.at fun o e=>(sb2.2 _ hID).trans e
  have hL2:=hL1.at fun o e=>(sb2.2 _ hLD).trans e
  refine wpAny_pure ⟨plainId_quiet plain_dul _,?_⟩
  refine ih (i + 1) { s with heap:=h2,toks:=t2 } (r + 1) (xs ++ [(k,bk,vv)]) (ents.push ⟨(tk C).hash k,.ref bk,vv⟩) (ep + 1) (fun j p' e=>?_) (by rw [List.length_cons] at hl; lia) (fun p' m'=>?_) n2 hI2 hL2 g2 (by simp [q,entryOfKey]) (fun x m'=>?_) ?_ (by rw [List.length_cons] at hz; rw [List.length_append,List.length_singleton]; lia) fun h' t ents' xs' kp gD q' dr nd'=>?_
  ·refine aw (hr (j + 1) p' e) fun u' gu' ru'=>?_
   exact ⟨u',by rw [<- gu']; congr 1; lia,(ru'.mono (List.prefix_refl _) im).mono (List.prefix_refl _) im2⟩
  ·refine aw (hk p' (List.mem_cons_of_mem _ m')) fun k' ek' nk'=>?_
   refine ⟨k',ek',?_⟩
   rw [List.map_append,List.mem_append]
   rintro (z | z)
   ·exact nk' z
   ·exact n1 (List.mem_map.mpr ⟨p',m',ek'.trans ((congrArg some (List.mem_singleton.mp z)).trans ek.symm)⟩)
  ·exact (List.mem_append.mp m').elim (fun z=>isD g1 sb2 (hx1 x z)) fun z=>List.mem_singleton.mp z ▸ isD g1 sb2 tb
  ·rw [List.map_append,List.nodup_append]
   exact ⟨nd,List.nodup_cons.mpr ⟨(fun m=>nomatch m),.nil⟩,fun x hx y hy e=>nk ((e.trans (List.mem_singleton.mp hy) : _ = k) ▸ hx)⟩
  ·have im3 : ImmK h2 h':=fun c o e z=>kp c o (noD g2 e (.inl z)) (noI hI2 e (.inl z)) e
   refine h h' t ents' ((k,bk,vv) :: xs') (fun c o n1 n2 e=>kp c o n1 n2 ((sb2.2 _ n1).trans ((b1.2 _ n2).trans e))) (by rw [gD,List.length_cons]; congr 2; lia) (by rw [q',List.append_assoc]; rfl) (.cons ek ((rk.mono (List.prefix_refl _) im2).mono (List.prefix_refl _) im3) ((rv.mono (List.prefix_refl _) im2).mono (List.prefix_refl _) im3) dr) (by rw [List.append_assoc] at nd'; exact nd')
end
section
variable {C : Cx} {A : Around} {s : Shared} {L : Addr} {ι : List Addr} {σ : Hp}
theorem oA {ps : List (AV × AV)} {us : List Value} {n : Nat} {Q : Value -> Shared -> Prop} (hh : A.handled = none) (hu : A.units + 16 < cLine) (hL : s.heap.get? L = some ⟨.type "list",none,.seq us.toArray n,#[]⟩)
  (hr : ∀ (j : Nat) (p : AV × AV),ps[j]? = some p -> ∃ u,us[j]? = some u /\ VRep C ι s.heap (.tup [p.1,p.2]) u) (hl : us.length = ps.length) (hk : ∀ p ∈ ps,∃ k,keyOf p.1 = some k) (hn : (ps.map fun p=>keyOf p.1).Nodup) (hz : ps.length ≤ top)
  (h : ∀ h' t ents xs,Keeps s.heap h' -> h'.get? s.heap.objs.size = some (dObj ents ps.length) -> ents.toList = xs.map (entryOfKey (tk C)) -> DReps C ι h' ps xs -> (xs.map (·.1)).Nodup -> Q (.ref s.heap.objs.size) { s with heap:=h',toks:=t }) :
  wpAny (model C.prog C.w) A (call (.type "dict") [.ref L]) Q Nought s:=by
 refine callType_codes (Q₁:=fun obj s₁=>obj = .ref s.heap.objs.size /\ s₁ = { s with heap:=s.heap.push { cls:=.type "dict",data:=.dict #[] } }) PySem.F.kt_called_dict (PySem.F.kt_typeCall_dict_1 _) PySem.F.entry_dict_init (kt_code_dict_new _ ⟨rfl,rfl⟩) ?_
 rintro obj s₁ ⟨rfl,rfl⟩
 have kp : Keeps s.heap (s.heap.push { cls:=.type "dict",data:=.dict #[] }):=fun c oc e=>Heap.get?_push_of_some _ e
 have ll:=Heap.lt_size hL
 have gd : (s.heap.push { cls:=.type "dict",data:=.dict #[] }).get? s.heap.objs.size = some (dObj #[] 0):=Heap.get?_push_size _ rfl
 have Td : Shared.TypeIs { s with heap:=s.heap.push { cls:=.type "dict",data:=.dict #[] } } (.ref s.heap.objs.size) "dict":=⟨_,gd,rfl⟩
 have Tl : Shared.TypeIs { s with heap:=s.heap.push { cls:=.type "dict",data:=.dict #[] } } (.ref L) "list":=⟨_,kp _ _ hL,rfl⟩
 refine ⟨Td,PySem.F.args_dict_init_2 _ _,?_⟩
 unfold Builtin.«dict.__init__»
 refine wpAny_bind ?_
 unfold Builtin.Dict.selfAndRest
 refine wpAny_bind (wpAny_notOrdered_dict Td ?_)
 show wpAny _ _ (pure (s.heap.objs.size,[Value.ref L])) _ _ _
 refine wpAny_pure ?_
 show wpAny _ _ (Builtin.Dict.updateFrom "dict.__init__" s.heap.objs.size (.ref L) [] .none) _ _ _
 unfold Builtin.Dict.updateFrom
 refine wpAny_bind (wpAny_typeOf Tl ?_)
 refine bH (by decide) ?_
 refine wpAny_bind (lB (s:={ s with heap:=s.heap.push { cls:=.type "dict",data:=.dict #[] } }) (by simpa using hh) (kp _ _ hL) fun h1 t1 k1=>?_)
 simp only [Option.isNone_none,if_true]
 refine wpAny_bind (wpAny_rule ?_)
 have gl1:=k1 _ _ (kp _ _ hL)
 refine wpAny_bind (wpAny_pyIter_list (s:={ s with heap:=h1,toks:=t1 }) ⟨_,gl1,rfl,n,rfl⟩ ?_)
 have k2 : Keeps h1 (h1.push { cls:=.type "list_iterator",data:=.fields #[.ref L,.int 0 0] }):=fun c oc e=>Heap.get?_push_of_some _ e
 have z1 : s.heap.objs.size < h1.objs.size:=Heap.lt_size (k1 _ _ gd)
 have z2 : L < h1.objs.size:=Heap.lt_size gl1
 have kall : Keeps s.heap (h1.push { cls:=.type "list_iterator",data:=.fields #[.ref L,.int 0 0] }):=fun c o e=>k2 _ _ (k1 _ _ (kp _ _ e))
 refine wpAny_pure ⟨plainId_quiet plain_dul _,?_⟩
 have l0 : ps.length ≤ 4000:=hz
 refine tm (C:=C) (ι:=ι) (us:=us) (L:=L) (by simpa using hh) (by simp; lia) (Nat.ne_of_gt z1) (Nat.ne_of_lt ll) (Nat.ne_of_lt z2) ps 0 { s with heap:=h1.push { cls:=.type "list_iterator",data:=.fields #[.ref L,.int 0 0] },toks:=t1 } 0 [] #[] 0 (fun j p e=>?_) (by simpa using hl) (fun p m=>?_) hn ⟨_,Heap.get?_push_size _ rfl,rfl,rfl⟩ ⟨_,k2 _ _ gl1,rfl,n,rfl⟩ (k2 _ _ (k1 _ _ gd)) (by simp) (fun x m=>by simp at m) (by simp) (by simpa using l0) fun h' t ents xs kp' gD q dr nd=>?_
 ·refine aw (hr j p e) fun u gu ru=>?_
  exact ⟨u,by simpa using gu,ru.mono (List.prefix_refl _) (Keeps.imm kall)⟩
 ·obtain ⟨k,ek⟩:=hk p m
  exact ⟨k,ek,by simp⟩
 ·refine ⟨rfl,h h' t ents xs (fun c o e=>kp' c o (Nat.ne_of_lt (Heap.lt_size e)) (Nat.ne_of_lt (Nat.lt_trans (Heap.lt_size e) z1)) (kall _ _ e)) (by simpa using gD) (by simpa using q) dr (by simpa using nd)⟩
end
section
variable {C : Cx} {A : Around} {s : Shared} {ι : List Addr} {σ : Hp} {d : Nat} {h : Heap}
theorem kq {vs : List Value} {ns : List Int} {h : Heap} (i : IntsAre vs ns) : VReps C ι h (ns.map .int) vs:=by
 induction i with
 | nil=>exact .nil
 | cons n t _ ih=>exact .cons (.int n t) ih
theorem oT {h : Heap} {vs : List Value} {ks : List (List Int)} (t : TupsAre h vs ks) (l : ∀ k ∈ ks,k.length ≤ top) : VReps C ι h (ks.map fun k=>.tup (k.map .int)) vs:=by
 induction t with
 | nil=>exact .nil
 | cons g i n _ ih=>exact .cons (.tup g (kq i) (by simpa using l _ List.mem_cons_self)) (ih fun k m=>l k (List.mem_cons_of_mem _ m))
noncomputable abbrev CallB (C : Cx) (A : Around) (s : Shared) (b : Blt) (P : Value -> Shared -> Prop) (us : List Value) : Prop:=wpAny (model C.prog C.w) A (call (bltVal b) us) P Nought s
theorem ud {v : AV} {n : Nat} {G : AV -> Prop} (e : lenA σ v = some n) (r : ∀ p,(lstAt σ p).map List.length = some n -> G (.ref p)) (i : ∀ xs,xs.length = n -> G (.ints xs)) : G v:=by
 cases v <;> first | exact nn e | exact r _ e | exact i _ (Option.some.inj e)
theorem iA {a : Addr} {vs : List Value} {n : Nat} {Q : Value -> Shared -> Prop} (g : s.heap.IsList a vs.toArray) (z : vs.length = n) (l : n ≤ top) (q : ∀ t m,Q (.int n t) { s with toks:=m }) : CallB C A s .len Q [.ref a]:=by
 have l' : n ≤ 4000:=l
 have hs : vs.toArray.size = n:=by rw [List.size_toArray,z]
 exact call_len_list g (by rw [hs]; lia) (by rw [hs]; exact q _ _)
theorem qj {a : AV} {n : Nat} {u : Value} {P : Value -> Shared -> Prop} (e : lenA σ a = some n) (r : VRep C ι s.heap a u) (H : HOk C ι σ s.heap) (k : ∀ t m,P (.int n t) { s with toks:=m }) : CallB C A s .len P [u]:=by
 revert r
 refine ud (G:=fun a=>VRep C ι s.heap a u -> CallB C A s .len P [u]) e (fun p e r=>g8 (G:=fun u=>CallB C A s .len P [u]) r rfl fun c ic=>aG e fun xs ex q=>ef H ic ex fun vs m g rr l=>?_) fun xs q r=>qJ (G:=fun u=>CallB C A s .len P [u]) r fun c vs g rr l=>?_
 ·exact iA ⟨_,g,rfl,m,rfl⟩ (rr.length ▸ q) (q ▸ l) k
 ·refine mS g fun o ho hc m hd=>?_
  exact iA ⟨o,H.base _ _ ho,hc,m,hd⟩ (rr.length.trans q) (q ▸ l) k
theorem u9 {as : List AV} {r : Int × Int × Int} {us : List Value} {G : Int × Int × Int -> List Value -> Prop} (e : rngArgs as = some r) (rs : VReps C ι h as us) (k1 : ∀ n t,G (0,n,1) [.int n t]) (k3 : ∀ a b c t t' t2,G (a,b,c) [.int a t,.int b t',.int c t2]) : G r us:=by
 cases rs with
 | nil=>exact nn e
 | cons r0 rs=>cases rs with
  | nil=>exact aG (o:=gI _) e fun n en q=>q ▸ bR (G:=fun u=>G (0,n,1) [u]) r0 en fun t=>k1 n t
  | cons r1 rs=>exact ah (o:=gI _) e fun i ei e=>ah e fun j ej e=>ah e fun c ec e=>aG e fun k ek q=>q ▸ pI (G:=fun us=>G (i,j,k) (_ :: _ :: us)) ec rs fun u2 r2=>bR (G:=fun u=>G (i,j,k) [u,_,u2]) r0 ei fun t=>bR (G:=fun u=>G (i,j,k) [.int i t,u,u2]) r1 ej fun t'=>bR (G:=fun u=>G (i,j,k) [.int i t,.int j t',u]) r2 ek fun t2=>k3 i j k t t' t2
theorem lN {as : List AV} {v : AV} {σ' : Hp} {us : List Value} (e : bltCall .range as σ = some (v,σ')) (r : VReps C ι s.heap as us) (H : HOk C ι σ s.heap) : CallB C A s .range (PostE C ι s σ' v) us :=
 ah (o:=rngArgs as) e fun q eq e=>u9 (G:=fun q us=>rngA q.1 q.2.1 q.2.2 σ = some (v,σ') -> CallB C A s .range (PostE C ι s σ' v) us) eq r
  (fun n t e=>ifC e fun ok e=>by
   cases e
   exact call_range_1 (aU H push_keeps (aQ _ _) (.rng (Heap.get?_push_size _ rfl) ok)))
  (fun a b c t t' t2 e=>ifC e fun ok e=>by
   cases e
   have ok':=ok
   unfold rngOk at ok'
   simp only [Bool.and_eq_true,Bool.or_eq_true,decide_eq_true_eq] at ok'
   exact call_range_3 (by lia) (aU H push_keeps (aQ _ _) (.rng (Heap.get?_push_size _ rfl) ok)) (.inl (PyProof.noPylong_small (by lia)))) e
theorem eS {xs : List AV} {is : List Int} {G : Prop} (e : allInts xs = some is) (k : asInts xs = some is -> (∀ i ∈ is,0 ≤ i /\ i ≤ 6) -> G) : G :=
 ah (o:=asInts xs) e fun js ej e=>ifC e fun hs e=>k (ej.trans e) fun i m=>by
  rw [<- Option.some.inj e] at m
  have:=List.all_eq_true.mp hs i m
  rw [Bool.and_eq_true,decide_eq_true_eq,decide_eq_true_eq] at this
  exact this
theorem qh {a : AV} {is : List Int} {xs : List AV} {u : Value} (hh : A.handled = none) (e : gL σ a = some xs) (e2 : allInts xs = some is) (r : VRep C ι s.heap a u) (H : HOk C ι σ s.heap) : CallB C A s .set (PostE C ι s σ (.pset (sortI is))) [u] :=
 e8 (G:=fun u=>CallB C A s .set (PostE C ι s σ (.pset (sortI is))) [u]) H r e fun uw c vs n uw uw g rr uw=>eS e2 fun e3 e4=>aj (oy hh ⟨_,g,rfl,n,rfl⟩ (dw e3 rr) e4 fun h' t k hS z=>aU H k z (.pset hS))
theorem sC {a : AV} {is : List Int} {xs : List AV} {u : Value} (hh : A.handled = none) (e : gL σ a = some xs) (e2 : allInts xs = some is) (r : VRep C ι s.heap a u) (H : HOk C ι σ s.heap) : CallB C A s .frozenset (PostE C ι s σ (.fset (sortI is))) [u] :=
 e8 (G:=fun u=>CallB C A s .frozenset (PostE C ι s σ (.fset (sortI is))) [u]) H r e fun uw c vs n uw uw g rr uw=>eS e2 fun e3 e4=>aj (qg hh ⟨_,g,rfl,n,rfl⟩ (dw e3 rr) e4 fun h' t k hS z=>aU H k z (.fset hS))
theorem nD {ks : List (List Int)} {xs : List AV} {vs : List Value} (e : allKeys xs = some ks) (r : VReps C ι h xs vs) : ∀ k ∈ ks,k.length ≤ top:=fun k m=>by
 refine aw (((jJ e).comp (R:=fun k (_ : Value)=>k.length ≤ top) r fun x k v p q=>ah p fun ys ey p=>f9 (G:=fun uw=>k.length ≤ top) q ey fun c us n g rr l=>by rw [(dw p rr).length.symm,<- rr.length]; exact l).memL k m) fun v mv q=>?_
 exact q
theorem pe {v : AV} {r : AV × Hp} {G : AV -> Prop} (e : sortedA σ v = some r) (f : ∀ xs,mkList σ (xs.map .int) = some r -> G (.fset xs)) (p : ∀ xs,mkList σ (xs.map .int) = some r -> G (.pset xs)) (l : ∀ q,(lstAt σ q).bind (sortA σ) = some r -> G (.ref q)) : G v:=by
 cases v <;> first | exact nn e | exact f _ e | exact p _ e | exact l _ e
theorem t6 {xs : List Int} {u : Value} {G : Value -> Prop} (r : VRep C ι h (.pset xs) u) (k : ∀ c,SetAt C h "set" c xs -> G (.ref c)) : G u:=by
 cases r; exact k _ ‹_›
theorem jC {a : AV} {v : AV} {σ' : Hp} {u : Value} (hh : A.handled = none) (e : sortedA σ a = some (v,σ')) (r : VRep C ι s.heap a u) (H : HOk C ι σ s.heap) : CallB C A s .sorted (PostE C ι s σ' v) [u]:=by
 have fin : ∀ {xs : List Int} {L : Addr} {h' : Heap} {out : List Value} {n tk : Nat},mkList σ (xs.map .int) = some (v,σ') -> s.heap.objs.size ≤ L -> Keeps s.heap h' -> h'.get? L = some ⟨.type "list",none,.seq out.toArray n,#[]⟩ -> IntsAre out xs -> s.heap.objs.size ≤ h'.objs.size -> PostE C ι s σ' v (.ref L) { s with heap:=h',toks:=tk }:=fun e l k g i z=>dj H k z l g (kq i) e
 revert r
 refine pe (G:=fun a=>VRep C ι s.heap a u -> CallB C A s .sorted (PostE C ι s σ' v) [u]) e (fun xs e r=>?_) (fun xs e r=>?_) fun p e r=>?_
 ·exact mw (G:=fun u=>CallB C A s .sorted (PostE C ι s σ' v) [u]) r rfl fun c hS=>aj (jR hh setCls_fs hS fun L h' out n tk l k g i z=>fin e l k g i z)
 ·exact t6 (G:=fun u=>CallB C A s .sorted (PostE C ι s σ' v) [u]) r fun c hS=>aj (jR hh setCls_set hS fun L h' out n tk l k g i z=>fin e l k g i z)
 ·refine g8 (G:=fun u=>CallB C A s .sorted (PostE C ι s σ' v) [u]) r rfl fun c ic=>ah e fun xs ex e=>ef H ic ex fun vs n g rr l=>ah (o:=allKeys xs) e fun ks hk e=>ifN e fun hb e=>?_
  simp only [Bool.or_eq_true,decide_eq_true_eq,not_or,Bool.not_eq_true] at hb
  have kk:=km hk rr
  have T:=oS kk fun k m q=>by have:=List.any_eq_false.mp hb.2 k m; rw [q] at this; exact this rfl
  have lk:=nD hk rr
  exact aj (oZ (l:=c) ⟨_,g,rfl,n,rfl⟩ T (by rw [<- kk.length]; lia) fun L h' out m l2 k g' t z=>dj (t:=s.toks) H k z l2 g' (oT t fun k m=>lk k ((sortK_perm ks).mem_iff.mp m)) e)
theorem qi {as : List AV} {m : Int} {us : List Value} (hh : A.handled = none) (e : maxA as = some m) (r : VReps C ι s.heap as us) (H : HOk C ι σ s.heap) : CallB C A s .max (PostE C ι s σ (.int m)) us:=by
 cases r with
 | nil=>exact nn e
 | cons r0 rs =>
  refine ah (o:=gI _) e fun i ei e=>ah e fun b eb e=>aG e fun j ej q=>pI (G:=fun us=>CallB C A s .max (PostE C ι s σ (.int m)) (_ :: us)) eb rs fun u1 r1=>?_
  refine bR (G:=fun u=>CallB C A s .max (PostE C ι s σ (.int m)) [u,u1]) r0 ei fun t=>bR (G:=fun w=>CallB C A s .max (PostE C ι s σ (.int m)) [.int i t,w]) r1 ej fun t'=>aj (max_two_ints hh fun h' tk k z=>?_)
  rw [<- q]
  by_cases hc : i < j
  ·rw [if_pos hc,if_pos (show j > i from hc)]; exact aU H k z (.int _ _)
  ·rw [if_neg hc,if_neg (show ¬ j > i from hc)]; exact aU H k z (.int _ _)
theorem tv {v : AV} {n : Int} {G : AV -> Prop} (e : intA v = some n) (i : G (.int n)) (b : ∀ b,(if b then 1 else 0) = n -> G (.bool b)) : G v:=by
 cases v <;> first | exact nn e | exact Option.some.inj e ▸ i | exact b _ (Option.some.inj e)
theorem qk {a : AV} {n : Int} {u : Value} (e : intA a = some n) (r : VRep C ι s.heap a u) (H : HOk C ι σ s.heap) : CallB C A s .int (PostE C ι s σ (.int n)) [u]:=by
 revert r
 refine tv (G:=fun a=>VRep C ι s.heap a u -> CallB C A s .int (PostE C ι s σ (.int n)) [u]) e (fun r=>?_) fun b q r=>?_
 ·exact bR (G:=fun u=>CallB C A s .int (PostE C ι s σ (.int n)) [u]) r rfl fun t=>call_int_int (bS (t:=s.toks) H (.int _ _))
 ·cases r; rw [<- q]; exact call_int_bool (bS H (.int _ _))
theorem jX {h : Heap} : ∀ {xs : List AV} {vs : List Value},xs.length = vs.length -> (∀ (i : Nat) x v,xs[i]? = some x -> vs[i]? = some v -> VRep C ι h x v) -> VReps C ι h xs vs
 | [],[],_,_=>.nil
 | x :: xs,v :: vs,hl,h=>.cons (h 0 x v rfl rfl) (jX (by simpa using hl) fun i x v a b=>h (i + 1) x v (by simpa using a) (by simpa using b))
 | [],_ :: _,hl,_=>by simp at hl
 | _ :: _,[],hl,_=>by simp at hl
theorem rR {v : AV} {xs : List AV} {G : AV -> Prop} (e : itemsOf σ v = some xs) (l : ∀ p,lstAt σ p = some xs -> G (.ref p)) (t : G (.tup xs)) (n : ∀ a b c,rngL a b c = some xs -> G (.rng a b c)) : G v:=by
 cases v <;> first | exact nn e | exact l _ e | exact Option.some.inj e ▸ t | exact n _ _ _ e
theorem u8 {a b c : Int} {u : Value} {G : Value -> Prop} (r : VRep C ι h (.rng a b c) u) (k : ∀ x t u v,IsRange h x a b c t u v -> rngOk a b c = true -> G (.ref x)) : G u:=by
 cases r; exact k _ _ _ _ ‹_› ‹_›
theorem oE {a : AV} {xs : List AV} {v : AV} {σ' : Hp} {u : Value} (hh : A.handled = none) (e0 : itemsOf σ a = some xs) (e : mkList σ xs = some (v,σ')) (r : VRep C ι s.heap a u) (H : HOk C ι σ s.heap) : CallB C A s .list (PostE C ι s σ' v) [u]:=by
 have hz:=cZ e
 have hz' : xs.length ≤ 4000:=hz
 have seq : ∀ {T : String} {c : Addr} {vs : List Value} {n : Nat},(T = "list" \/ T = "tuple") -> s.heap.get? c = some ⟨.type T,none,.seq vs.toArray n,#[]⟩ -> VReps C ι s.heap xs vs -> CallB C A s .list (PostE C ι s σ' v) [.ref c]:=fun hT g rr =>
  aj (call_list_seq _ hT g rfl rfl (fun h' c' k g' z=>dj (t:=s.toks) H k z (Nat.le_refl _) g' (rr.keeps k) e) (by rw [sizeLine_eq,List.size_toArray,<- rr.length]; lia))
 revert r
 refine rR (G:=fun a=>VRep C ι s.heap a u -> CallB C A s .list (PostE C ι s σ' v) [u]) e0 (fun p e0 r=>?_) (fun r=>?_) fun a b c e0 r=>?_
 ·exact g8 (G:=fun u=>CallB C A s .list (PostE C ι s σ' v) [u]) r rfl fun c ic=>ef H ic e0 fun vs n g rr l=>seq (.inl rfl) g rr
 ·exact f9 (G:=fun u=>CallB C A s .list (PostE C ι s σ' v) [u]) r rfl fun c vs n g rr l=>seq (.inr rfl) g rr
 ·refine u8 (G:=fun u=>CallB C A s .list (PostE C ι s σ' v) [u]) r fun x t u w ir ok=>ifC e0 fun hc e0=>?_
  subst hc
  cases e0
  have ok':=ok
  unfold rngOk at ok'
  simp only [Bool.and_eq_true,Bool.or_eq_true,decide_eq_true_eq] at ok'
  have oa : a.natAbs ≤ 4000:=ok'.1.1
  have ob : b.natAbs ≤ 4000:=ok'.1.2
  have hn : Builtin.Range.rangeSize a b 1 = ((b - a).toNat : Int):=by rw [ch]; split <;> lia
  refine aj (call_list_range (n:=(b - a).toNat) hh ir (small_one (by lia) (by lia) (by lia) (by lia)) hn (by lia) fun h' tk acc' c' k g' it z=>?_)
  refine dj (vs:=acc'.toList) H k z (Nat.le_refl _) (by rw [Array.toArray_toList]; exact g') (jX (by rw [List.length_map,List.length_range,Array.length_toList]; exact it.1.symm) fun i x y hx hy=>?_) e
  rw [Array.getElem?_toList] at hy
  obtain ⟨t',rfl⟩:=it.2 i y hy
  rw [List.getElem?_map] at hx
  obtain ⟨j,hj,rfl⟩:=Option.map_eq_some_iff.mp hx
  obtain ⟨_,rfl⟩:=List.getElem?_eq_some_iff.mp hj
  simp only [List.getElem_range,Int.mul_one]
  exact .int _ _
theorem ld {xs : List AV} {ps : List (AV × AV)} (e : allO pairA xs = some ps) : R2 (fun x p=>x = AV.tup [p.1,p.2]) xs ps:=(jJ e).imp fun x p e=>qz (G:=fun x=>x = .tup [p.1,p.2]) e rfl
theorem qI {ks : List (List Int)} : ∀ {ps : List (AV × AV)},allKeys (ps.map Prod.fst) = some ks -> (∀ p ∈ ps,∃ k,keyOf p.1 = some k) /\ ps.map (fun p=>keyOf p.1) = ks.map some
 | [],e=>by cases e; exact ⟨(fun uw m=>nomatch m),rfl⟩
 | p :: ps,e=>ah (o:=keyOf p.1) e fun k ek e=>aG e fun l el q=>q ▸ by
  obtain ⟨a,b⟩:=qI el
  exact ⟨fun x m=>(List.mem_cons.mp m).elim (fun q=>q ▸ ⟨k,ek⟩) (a x),by rw [List.map_cons,List.map_cons,b,ek]⟩
theorem oF {a : AV} {xs : List AV} {ps : List (AV × AV)} {v : AV} {σ' : Hp} {u : Value} (R : Room A d) (e0 : gL σ a = some xs) (hp : allO pairA xs = some ps) (e : dictA σ ps = some (v,σ')) (r : VRep C ι s.heap a u) (H : HOk C ι σ s.heap) : CallB C A s .dict (PostE C ι s σ' v) [u]:=by
 have hu : A.units + 64 * (d + 1) < cLine:=R.units
 refine ah (o:=allKeys (ps.map Prod.fst)) e fun ks hk e=>ifC e fun hc e=>e8 (G:=fun u=>CallB C A s .dict (PostE C ι s σ' v) [u]) H r e0 fun uw c vs n uw uw g rr l=>?_
 cases e
 obtain ⟨e2,e3⟩:=qI hk
 have nd : (ps.map fun p=>keyOf p.1).Nodup:=by rw [e3]; exact List.pairwise_map.mpr (hc.1.imp fun ne e=>ne (Option.some.inj e))
 have pg:=ld hp
 refine aj (oA (C:=C) (ι:=ι) (ps:=ps) (us:=vs) R.handled (by lia) g (fun j p e=>?_) (by rw [<- rr.length,pg.length]) e2 nd hc.2 fun h' t ents xs' k g' q dr nd z=>?_)
 ·refine aw (pg.getR e) fun y gy q=>?_
  exact q ▸ rr.get gy
 ·refine ⟨ι ++ [s.heap.objs.size],Step.freshS k z (Nat.le_refl _),H.fresh k z (Nat.le_refl _) (.dict g' q (dr.mono (List.prefix_append _ _) fun uw uw e uw=>e) nd hc.2),.ref ?_⟩
  rw [<- H.len,List.getElem?_append_right (Nat.le_refl _),Nat.sub_self]; rfl
theorem pE {b : Blt} {as : List AV} {v : AV} {σ' : Hp} {us : List Value} (R : Room A d) (e : bltCall b as σ = some (v,σ')) (r : VReps C ι s.heap as us) (H : HOk C ι σ s.heap) : CallB C A s b (PostE C ι s σ' v) us:=by
 cases b with
 | range=>exact lN e r H
 | max=>exact aG (o:=maxA as) e fun m em q=>by cases q; exact qi R.handled em r H
 | enumerate=>exact nn e
 | len=>exact jg (G:=CallB C A s .len (PostE C ι s σ' v)) e r fun a u e r=>aG e fun n en q=>by cases q; exact qj en r H fun t m=>bS H (.int _ _)
 | list=>exact jg (G:=CallB C A s .list (PostE C ι s σ' v)) e r fun a u e r=>ah e fun xs ex e=>oE R.handled ex e r H
 | dict=>exact jg (G:=CallB C A s .dict (PostE C ι s σ' v)) e r fun a u e r=>ah e fun xs ex e=>ah e fun ps ep e=>oF R ex ep e r H
 | set=>exact jg (G:=CallB C A s .set (PostE C ι s σ' v)) e r fun a u e r=>ah e fun xs ex e=>aG e fun is ei q=>by cases q; exact qh R.handled ex ei r H
 | frozenset=>exact jg (G:=CallB C A s .frozenset (PostE C ι s σ' v)) e r fun a u e r=>ah e fun xs ex e=>aG e fun is ei q=>by cases q; exact sC R.handled ex ei r H
 | sorted=>exact jg (G:=CallB C A s .sorted (PostE C ι s σ' v)) e r fun a u e r=>jC R.handled e r H
 | int=>exact jg (G:=CallB C A s .int (PostE C ι s σ' v)) e r fun a u e r=>aG e fun n en q=>by cases q; exact qk en r H
end
section
variable {C : Cx} {K : Frag} {ι : List Addr} {σ : Hp} {s : Shared} {env : PySem.Env} {ρ : Env} {A : Around} {d k : Nat} {kd : List (Str × NameKind)}
theorem jP {o : Option Expr} {x : Str} {G : Option Expr -> Prop} (h : strKey o = some x) (K : ∀ a b,G (some (.Constant (.str x) a b))) : G o:=by
 cases o with
 | none=>exact nn h
 | some e=>cases e with
  | Constant c a b=>cases c <;> first | exact nn h | exact Option.some.inj h ▸ K _ _
  | _=>exact nn h
theorem fF {pd : Pos} (I : SndE C d k) : ∀ {ks : List (Option Expr)} {vs : List Expr} {ss : List Str} {ys : List X} {σ : Hp} {ι : List Addr} {s : Shared} {Q : List AV -> Hp -> Prop} {R : List (Value × Value) -> Shared -> Prop},ks.mapM strKey = some ss -> vs.mapM (trE k kd) = some ys -> ss.length = vs.length -> wXs d ys ρ σ Q -> At C d kd env A ρ σ ι s ->
  (∀ xs ps σ' ι' s',Q xs σ' -> Step NoOwn ι s ι' s' -> HOk C ι' σ' s'.heap -> ss.length = ps.length -> Carries (strKind C.prog C.w) ps (ss.zip (ps.map (·.2))) -> VReps C ι' s'.heap xs (ps.map (·.2)) -> R ps s') ->
  wpAny (model C.prog C.w) A (evalPairs (pairTrees ks vs env pd)) R Nought s
 | [],[],_,_,_,_,s,_,_,hk,hv,_,hw,a,h=>by
  rw [mapM_nil hv] at hw
  rw [mapM_nil hk] at h
  exact pairTrees_nil_walk (h [] [] _ _ s hw .refl a.heap rfl trivial .nil)
 | [],_ :: _,_,_,_,_,_,_,_,hk,_,hl,_,_,_=>by rw [mapM_nil hk] at hl; cases hl
 | _ :: _,[],_,_,_,_,_,_,_,hk,_,hl,_,_,_=>bv hk fun uw uw uw uw e=>by rw [e] at hl; cases hl
 | ke :: ks,v :: vs,_,_,σ,ι,s,_,R,hk,hv,hl,hw,a,h=>bv hk fun y ss' h1 h2 e1=>bv hv fun z ys' h3 h4 e2=>by
  subst e1
  rw [e2] at hw
  refine jP (G:=fun ke=>wpAny (model C.prog C.w) A (evalPairs (pairTrees (ke :: ks) (v :: vs) env pd)) R Nought s) h1 fun p1 p2=>pairTrees_cons_walk (wpAny_Constant_str ?_)
  have a0:=a.tok (s.toks + 1)
  refine aF (I h3 hw a0) fun x w σ₁ s₁ ι₁ q x₁ H₁ r₁=>?_
  refine fF I h2 h4 (Nat.succ.inj hl) q (a0.step x₁ H₁) fun xs ps σ' ι' s' q x' H' l1 c r=>?_
  exact h _ _ σ' ι' s' q (((Step.tok (s.toks + 1)).trans x₁).trans x') H' (congrArg (· + 1) l1) ⟨strKind_is _ _ _ _,rfl,c⟩ (.cons (r₁.mono x'.pre x'.imm) r)
theorem lQ {ss : List Str} {us : List Value} {x : Str} : ((ss.zip us).find? fun kv=>kv.1 = x).map (·.2) = (ss.zip us).lookup x:=by
 induction ss generalizing us with
 | nil=>rfl
 | cons t ss ih =>
  cases us with
  | nil=>rfl
  | cons u us =>
   rw [List.zip_cons_cons,List.find?_cons,List.lookup_cons]
   by_cases q : t = x
   ·subst q; simp
   ·have : (x == t) = false:=by simpa using Ne.symm q
    simp only [q,decide_false,this]
    exact ih
theorem dZ {h : Heap} {x : Str} {z : AV} {zv : Value} (rz : VRep C ι h z zv) : ∀ {ss : List Str} {xs : List AV} {us : List Value},VReps C ι h xs us -> VRep C ι h ((((ss.map cd).zip xs).lookup (cd x)).getD z) (((ss.zip us).lookup x).getD zv)
 | [],_,_,_=>rz
 | _ :: _,[],_,.nil=>rz
 | t :: ss,_,_,.cons r rr=>by
  rw [List.map_cons,List.zip_cons_cons,List.zip_cons_cons,List.lookup_cons,List.lookup_cons]
  by_cases q : x = t
  ·rw [beq_iff_eq.mpr q,beq_iff_eq.mpr (congrArg cd q)]; exact r
  ·rw [beq_eq_false_iff_ne.mpr q,beq_eq_false_iff_ne.mpr fun e=>q (b0 e)]; exact dZ rz rr
theorem strKeys_some : ∀ {ks : List (Option Expr)} {ss : List Str},ks.mapM strKey = some ss -> ks.all Option.isSome = true
 | [],_,_=>rfl
 | k :: ks,_,h=>bv h fun x xs h1 h2 uw=>by rw [List.all_cons,strKeys_some h2,Bool.and_true]; exact jP (G:=fun k=>k.isSome = true) h1 fun uw uw=>rfl
theorem iw {xs : List Str} (nd : (xs.map cd).Nodup) : xs.Nodup:=(List.pairwise_map.mp nd).imp fun ne e=>ne (congrArg cd e)
theorem dgC {f : Expr -> Option X} {ks : List (Option Expr)} {vs es : List Expr} {x : X} {G : List Expr -> Prop} (h : trDget f ks vs es = some x) (K : ∀ k dv ss ys ky dy,ks.mapM strKey = some ss -> goodKeys (ss.map cd) vs.length = true -> vs.mapM f = some ys -> f k = some ky -> f dv = some dy -> x = .dget (ss.map cd) ys ky dy -> G [k,dv]) : G es:=by
 rcases es with _ | ⟨a,_ | ⟨b,_ | ⟨c,r⟩⟩⟩
 ·exact nn h
 ·exact nn h
 ·exact ah h fun ss h1 h=>ifC h fun hg h=>ah h fun ys h2 h=>ah h fun ky h3 h=>aG h fun dy h4 e=>K _ _ _ _ _ _ h1 hg h2 h3 h4 e.symm
 ·exact nn h
theorem m4 (h : Heap) (o : Obj) : (h.push o).objs.size = h.objs.size + 1:=Mine.size_push _ _
theorem uh {p : Pos} {kx dv : Expr} (h : (backTo p (starEach [kx,dv] env)).any (·.1) = false) : methodCallForm ([kx,dv].length + ([] : List Keyword).length) (backTo p (starEach [kx,dv] env)) (backToKw p (keywordEach [] env)) = true:=by
 unfold methodCallForm
 rw [List.any_eq_false] at h
 rw [Bool.and_eq_true,Bool.and_eq_true]
 exact ⟨⟨List.all_eq_true.mpr fun x hx=>by simpa using h x hx,rfl⟩,rfl⟩
theorem mM (T : bi C) (I : SndE C d k) {ks : List (Option Expr)} {vs es : List Expr} {x : X} {Q : AV -> Hp -> Prop} {ap p pd : Pos} (h : trDget (trE k kd) ks vs es = some x) (hw : wX d x ρ σ Q) (at' : At C d kd env A ρ σ ι s) (hp : ap.endLine = p.line) :
  wpAny (model C.prog C.w) A (eval (.Call (.Attribute (.Dict ks vs pd) (Str.ofString "get") ap) es [] p) env) (PE C ι s Q) Nought s:=by
 refine dgC (G:=fun es=>wpAny (model C.prog C.w) A (eval (.Call (.Attribute (.Dict ks vs pd) (Str.ofString "get") ap) es [] p) env) (PE C ι s Q) Nought s) h fun kx dv ss ys ky dy h1 hg h2 h3 h4 e=>?_
 rw [e] at hw
 clear e h
 unfold goodKeys at hg
 rw [Bool.and_eq_true,Bool.and_eq_true,Bool.and_eq_true,decide_eq_true_eq,decide_eq_true_eq,decide_eq_true_eq,List.length_map] at hg
 obtain ⟨⟨⟨g1,g2⟩,g3⟩,g4⟩:=hg
 have lk : ss.length = ks.length:=eM h1
 rw [fQ,bp rfl]
 have x0 : Step NoOwn ι s ι { s with heap:=s.heap.push { cls:=.type "dict",data:=.dict #[] } }:=.grow push_keeps (aQ _ _)
 have H0 : HOk C ι σ (s.heap.push { cls:=.type "dict",data:=.dict #[] }):=at'.heap.grow push_keeps (aQ _ _)
 have nlt : s.heap.objs.size ∉ ι:=fun m=>Nat.lt_irrefl _ (at'.heap.lt m)
 refine wpAny_bind (wpAny_Dict_walk (knd:=strKind C.prog C.w) (strKeys_some h1) (lk.symm.trans g4) (fun q=>by rw [q] at h1; rw [mapM_nil h1] at g3; cases g3) (by rw [<- lk]; exact g2)
  (fF I h1 h2 g4 hw (at'.step x0 H0) fun ws ps σ₁ ι₁ s₁ q x₁ H₁ l1 c r₁=>?_))
 have gD : s₁.heap.get? s.heap.objs.size = some (dObj #[] 0):=x₁.keep _ _ (Heap.get?_push_size _ rfl) (fun q=>q) nlt
 have nin : s.heap.objs.size ∉ ι₁:=fun m=>by
  have:=x₁.fresh _ m nlt
  rw [m4] at this
  lia
 have lo : C.base.objs.size ≤ s.heap.objs.size:=at'.heap.low
 refine ⟨ss.zip (ps.map (·.2)),c,(let ⟨o,es,ep,g,r⟩:=Heap.DictOf.new (knd:=strKind C.prog C.w) s.heap; ⟨o,es,ep,x₁.keep _ _ g (fun q=>q) nlt,r⟩),fun h' hd sb=>?_⟩
 rw [merged_nil_of_nodup _ (by rw [List.map_fst_zip (by rw [List.length_map,l1]; exact Nat.le_refl _)]; exact iw g1)] at hd
 have H2 : HOk C ι₁ σ₁ h':=H₁.one sb gD rfl nin lo
 have xs2 : Step NoOwn ι s ι₁ { s₁ with heap:=h',toks:=s₁.toks + ps.length }:=(((x0.trans x₁).ofNo (own:=(· = s.heap.objs.size))).trans (.one sb gD rfl rfl)).weaken fun a e=>.inr (Nat.le_of_eq e.symm)
 have a2:=at'.step xs2 H2
 have r₂:=r₁.mono (List.prefix_refl _) (aN sb gD rfl)
 refine wpAny_bind (wpAny_standAt ?_)
 have hm2 : [kx,dv].mapM (trE k kd) = some [ky,dy]:=by rw [List.mapM_cons,List.mapM_cons,List.mapM_nil,h3,h4]; rfl
 unfold methodCall
 rw [uh (jl hm2)]
 refine jj (id hd) fun od es ep god exd dd kd' pr ndk=>?_
 refine wpAny_bind (wpAny_holding ?_)
 show wpAny _ _ (getMethod (.ref s.heap.objs.size) "get" _) _ _ _
 refine getMethod_builtin ⟨od,god,exd.1⟩ PySem.F.plainAttrs_dict PySem.F.slot_dict_get PySem.F.type_dict_get (fun b q=>by cases q; exact ⟨od,god,exd.2.1⟩) (wpAny_bind ?_)
 have pc : methodCallPos true (.Dict ks vs pd) env ap p = pure p:=by unfold methodCallPos; simp [hp]
 rw [pc]
 refine wpAny_pure (bD hm2 (cU (dJ (Q:=fun as τ=>∃ kv z,as = [kv,z] /\ Sb kv fun n=>Q ((((ss.map cd).zip ws).lookup n).getD z) τ) I hm2 (wXo_mono (CFP_m d).1 (CFP_m d).2 ky (fun kv uw q=>wXo_mono (CFP_m d).1 (CFP_m d).2 dy (fun z uw q=>⟨kv,z,rfl,q⟩) q) q) a2) fun as us σ₃ s₃ ι₃ q x₃ H₃ r₃=>?_))
 refine eJ q fun kv z e q=>?_
 rw [e] at r₃
 cases r₃ with
 | cons ra rn=>cases rn with
  | cons rb rn =>
   cases rn
   cases ra <;> first | exact q.elim | skip
   refine ⟨bK,?_⟩
   have g3:=x₃.keep _ _ god (fun q=>q) nin
   have hd3 : s₃.heap.DictOf (strKind C.prog C.w) s.heap.objs.size (ss.zip (ps.map (·.2))):=⟨od,_,ep,g3,exd,dd,kd',pr,ndk⟩
   have lo2 : (s.heap.objs.size == sysModules) = false:=beq_eq_false_iff_ne.mpr (Nat.ne_of_gt (Nat.lt_of_lt_of_le T.low lo))
   refine call_meetsIn PySem.F.slot_dict_get ⟨od,g3,exd.1⟩ PySem.F.entry_dict_get (PySem.F.args_dict_get_3 _ _ _) (meets_dict_get_default (strKind C.prog C.w) _ (strKind_is _ _ _ _) lo2 _) ⟨_,hd3.mapOf,?_⟩
   unfold valueAt
   rw [lQ]
   exact ⟨q,(xs2.trans x₃).trans (.tok _),H₃,‹cd _ = _› ▸ dZ rb (r₂.mono x₃.pre x₃.imm)⟩
theorem pG (T : bV C K) : Ops C where
 top:=T.top
 bin:=fun e h ra rb H uw=>pF e h ra rb H
 neg:=fun h=>PyProof.Rows.neg_int h
 cmp:=fun e h ra rb H R=>pD e h ra rb H R
 sub:=fun e hs ra ri H R=>pB R e hs ra ri H
 slc:=fun e ra ri rj H uw=>pC e ra ri rj H
 attr:=fun e ra H uw=>mN T e ra H
 callee:=fun e ra H uw=>jf T e ra H
 blt:=fun e r H R=>pE R e r H
 listM:=fun e e1 ia r H uw=>lg e e1 ia r H
 dget:=fun I h hw a hp=>mM T.top I h hw a hp
 edict:=fun {σ p env A d ι s} H R=>wpAny_Dict_empty ⟨ι ++ [s.heap.objs.size],.push (t:=s.toks),H.push (.dict (xs:=[]) (Heap.get?_push_size _ rfl) rfl .nil .nil (Nat.zero_le _)),.ref (by rw [<- H.len,List.getElem?_append_right (Nat.le_refl _),Nat.sub_self]; rfl)⟩
theorem mO (T : bV C K) : OpsS C where
 setA:=fun e1 e2 hm hl ia r H uw=>mK T e1 e2 hm hl ia r H
 setL:=fun e1 h0 hl e2 ia r H uw=>mI e1 h0 hl e2 ia r H
 setD:=fun e1 ek hl ia rk rv H R=>mJ R e1 ek hl ia rk rv H
theorem sW (T : bV C K) (d : Nat) : SndF C (CFW d) d:=(fD T (pG T) (mO T) d).1
end
noncomputable def faT (k : Nat) : Addr:=(([(3,91),(4,96),(5,101),(6,108),(7,115),(8,120),(10,127),(11,134),(12,141),(13,148),(14,155),(15,162),(16,169),(17,176),(18,183),(21,191),(22,198),(23,205),(24,212),(26,266),(28,273),(29,280),(30,287),(32,295),(33,302),(34,309),(35,316),(36,321),(37,326),(38,333),(39,340),(40,347),(41,354),(42,361),(43,366),(44,371),(45,376),(140,36),(143,57),(144,64),(600,226),(601,233),(602,240),(603,247),(604,254)] : List (Nat × Nat)).lookup k).getD 0
noncomputable def caT (k : Nat) : Addr:=(([(2,82),(25,257)] : List (Nat × Nat)).lookup k).getD 0
structure Lay (C : Cx) (P : Params) : Prop where
 hB : ∀ b o,(Hf P).get? b = some o -> C.base.get? b = some o
 hw : C.w.params = P
 fa : C.fa = faT
 ca : C.ca = caT
noncomputable def nmsOf (fd : FuncData) : List Str:=fd.params.args.map Arg.arg
theorem bindA_plain : ∀ {ps : List Nat} {as : List AV} {ρ : Env},bindA ps as [] = some ρ -> as.length = ps.length /\ ρ = ps.zip as
 | [],[],_,e=>⟨rfl,(Option.some.inj e).symm⟩
 | [],_ :: _,_,e=>nn e
 | _ :: _,[],_,e=>nn e
 | _ :: _,_ :: _,_,e=>aG (o:=bindA _ _ []) e fun uw e q=>let ⟨a,b⟩:=bindA_plain e; ⟨congrArg (· + 1) a,by rw [<- q,b]; rfl⟩
theorem fN {w : AV} : ∀ {ps : List Nat} {as : List AV} {ρ : Env},bindA ps as [w] = some ρ -> (as.length = ps.length /\ ρ = ps.zip as) \/ (as.length + 1 = ps.length /\ ρ = ps.zip (as ++ [w]))
 | [],[],_,e=>.inl ⟨rfl,(Option.some.inj e).symm⟩
 | [],_ :: _,_,e=>nn e
 | [_],[],_,e=>.inr ⟨rfl,(Option.some.inj e).symm⟩
 | _ :: _ :: _,[],_,e=>by
  unfold bindA at e
  split at e
  ·exact ifC e fun h uw=>absurd h (by simp)
  ·cases e
 | _ :: _,_ :: _,_,e=>aG (o:=bindA _ _ [w]) e fun uw e q=>(fN e).imp (fun ⟨a,b⟩=>⟨congrArg (· + 1) a,by rw [<- q,b]; rfl⟩) fun ⟨a,b⟩=>⟨congrArg (· + 1) a,by rw [<- q,b]; rfl⟩
theorem ck {C : Cx} {ι : List Addr} {h : Heap} {x : Str} {v : AV} : ∀ {ps : List Str} {as : List AV} {us : List Value},VReps C ι h as us -> getVar (cd x) ((ps.map cd).zip as) = some v -> ∃ u,(x,u) ∈ ps.zip us /\ VRep C ι h v u
 | [],_,_,_,e=>nn e
 | _ :: _,[],_,_,e=>nn e
 | p :: ps,_,_,.cons r rr,e=>by
  rw [List.map_cons,List.zip_cons_cons] at e
  unfold getVar at e
  split at e
  ·rename_i q; cases e; exact ⟨_,(b0 q) ▸ List.mem_cons_self,r⟩
  ·exact let ⟨u,m,z⟩:=ck rr e; ⟨u,List.mem_cons_of_mem _ m,z⟩
theorem ag {P : Params} {a : Addr} {o : Obj} (h1 : a < 377:=by decide) (h2 : (T11 P).get a = some o:=by kernel_rfl!) (h3 : alive o = some o:=by kernel_rfl!) : (Hf P).get? a = some o:=(abs_get (t:=T11 P) (n:=377) (life:={}) (a:=a) (o:=o) h1 h2).trans h3
noncomputable def fdOk (f : Fun) (fd : FuncData) (body : List Stmt) : Bool:=fd.closure.isEmpty && Nat.beq fd.globals mainGlobals && Nat.beq fd.builtins builtinsNs && (match fd.scope.kind with | .function=>true | _=>false) && !fd.scope.isCoroutine && !fd.scope.isGenerator && (nmsOf fd).all (stK fd.scope.names) && decide f.params.Nodup
theorem qB {C : Cx} {P : Params} {k c : Nat} {f : Fun} {fd : FuncData} (o oc : Obj) {body : List Stmt} {cv : Array Value} {tk : Tok} (L : Lay C P) (hd : o.data = .func fd) (hbody : fd.body = .stmts body) (hcode : fd.code = .ref c) (hc : oc.data = .fields cv) (hq : cv[1]? = some (.str fd.qualname tk))
  (g : (Hf P).get? (faT k) = some o) (tr : body.mapM (trS 60 fd.scope.names) = some f.body) (gc : (Hf P).get? c = some oc) (ok : fdOk f fd body = true) (hn : (nmsOf fd).map cd = f.params)
  (hb : ∀ {as ρ us ι} {s : Shared},bindA f.params as f.dflts = some ρ -> VReps C ι s.heap as us -> Keeps C.base s.heap -> ∃ binds,BindsTo s fd ⟨us,[]⟩ binds /\ (binds.map fun b=>cd b.1) = f.params /\ ∀ x v,getVar (cd x) ρ = some v -> ∃ u,(x,u) ∈ binds /\ VRep C ι s.heap v u) : az C k f:=by
 unfold fdOk at ok
 simp only [Bool.and_eq_true,Bool.not_eq_true',decide_eq_true_eq,List.isEmpty_iff] at ok
 obtain ⟨⟨⟨⟨⟨⟨⟨h1,h2⟩,h3⟩,h4⟩,h5⟩,h6⟩,h7⟩,h8⟩:=ok
 refine ⟨⟨o,fd,body,60,by rw [L.fa]; exact L.hB _ _ g,hd,hbody,tr,⟨c,oc,cv,tk,hcode,L.hB _ _ gc,hc,hq⟩,h1,Nat.eq_of_beq_eq_true h2,Nat.eq_of_beq_eq_true h3,?_,h5,h6,fun x m=>?_,hb⟩,h8⟩
 ·split at h4
  ·assumption
  ·cases h4
 ·rw [<- hn,List.mem_map] at m
  refine aw m fun y my e=>?_
  exact List.all_eq_true.mp h7 x (b0 e ▸ my)
theorem iW {ps : List Str} {us : List Value} (h : us.length = ps.length) : ((ps.zip us).map fun b=>cd b.1) = ps.map cd:=by
 rw [show (fun b : Str × Value=>cd b.1) = cd ∘ Prod.fst from rfl,<- List.map_map,List.map_fst_zip (Nat.le_of_eq h.symm)]
theorem aH {C : Cx} {P : Params} {k c : Nat} {f : Fun} {fd : FuncData} (o oc : Obj) {body : List Stmt} {cv : Array Value} {tk : Tok} (L : Lay C P) (hd : o.data = .func fd:=by rfl) (hbody : fd.body = .stmts body:=by rfl) (hcode : fd.code = .ref c:=by rfl) (hc : oc.data = .fields cv:=by rfl) (hq : cv[1]? = some (.str fd.qualname tk):=by rfl)
  (g : (Hf P).get? (faT k) = some o:=by exact ag) (tr : body.mapM (trS 60 fd.scope.names) = some f.body:=by kernel_rfl!) (gc : (Hf P).get? c = some oc:=by exact ag) (ok : fdOk f fd body = true:=by kernel_rfl!) (hn : (nmsOf fd).map cd = f.params:=by kernel_rfl!) (h8 : f.dflts = []:=by rfl)
  (hb : ∀ us : List Value,us.length = f.params.length -> bindArgs fd ⟨us,[]⟩ = pure ((nmsOf fd).zip us)) : az C k f :=
 qB o oc L hd hbody hcode hc hq g tr gc ok hn fun {as ρ us ι s} e r kp=>by
  rw [h8] at e
  obtain ⟨l,rfl⟩:=bindA_plain e
  have lu : us.length = f.params.length:=by rw [<- r.length,l]
  exact ⟨(nmsOf fd).zip us,.of_eq (hb us lu),(iW (lu.trans (by rw [<- hn,List.length_map]))).trans hn,fun x v hv=>ck r (by rw [hn]; exact hv)⟩
section
variable {G : List Value -> Prop} {us : List Value}
theorem ue (k : G []) : ∀ us : List Value,us.length = 0 -> G us:=fun us h=>by rw [List.eq_nil_of_length_eq_zero h]; exact k
theorem ly {n : Nat} (k : ∀ a us,us.length = n -> G (a :: us)) : ∀ us : List Value,us.length = n + 1 -> G us:=fun us h=>by
 cases us with
 | nil=>cases h
 | cons a r=>exact k a r (Nat.succ.inj h)
theorem ar1 (k : ∀ a,G [a]) : ∀ us : List Value,us.length = 1 -> G us:=ly fun a=>ue (G:=fun us=>G (a :: us)) (k a)
theorem ar2 (k : ∀ a b,G [a,b]) : ∀ us : List Value,us.length = 2 -> G us:=ly fun a=>ar1 (G:=fun us=>G (a :: us)) (k a)
theorem ar3 (k : ∀ a b c,G [a,b,c]) : ∀ us : List Value,us.length = 3 -> G us:=ly fun a=>ar2 (G:=fun us=>G (a :: us)) (k a)
theorem ar4 (k : ∀ a b c d,G [a,b,c,d]) : ∀ us : List Value,us.length = 4 -> G us:=ly fun a=>ar3 (G:=fun us=>G (a :: us)) (k a)
theorem ar5 (k : ∀ a b c d e,G [a,b,c,d,e]) : ∀ us : List Value,us.length = 5 -> G us:=ly fun a=>ar4 (G:=fun us=>G (a :: us)) (k a)
theorem ar6 (k : ∀ a b c d e f,G [a,b,c,d,e,f]) : ∀ us : List Value,us.length = 6 -> G us:=ly fun a=>ar5 (G:=fun us=>G (a :: us)) (k a)
end
section
variable {C : Cx} {P : Params} (L : Lay C P)
include L
theorem fn3 : az C 3 f3:=aH (o91 P) (o90 P) L (hb:=ar1 fun uw=>by kernel_rfl!)
theorem fn4 : az C 4 f4:=aH (o96 P) (o95 P) L (hb:=ar1 fun uw=>by kernel_rfl!)
theorem fn5 : az C 5 f5:=aH (o101 P) (o100 P) L (hb:=ar1 fun uw=>by kernel_rfl!)
theorem fn6 : az C 6 f6:=aH (o108 P) (o107 P) L (hb:=ar1 fun uw=>by kernel_rfl!)
theorem fn7 : az C 7 f7:=aH (o115 P) (o114 P) L (hb:=ar2 fun uw uw=>by kernel_rfl!)
theorem fn8 : az C 8 f8:=aH (o120 P) (o119 P) L (hb:=ar1 fun uw=>by kernel_rfl!)
theorem fn10 : az C 10 f10:=aH (o127 P) (o126 P) L (hb:=ar2 fun uw uw=>by kernel_rfl!)
theorem fn11 : az C 11 f11:=aH (o134 P) (o133 P) L (hb:=ar5 fun uw uw uw uw uw=>by kernel_rfl!)
theorem fn12 : az C 12 f12:=aH (o141 P) (o140 P) L (hb:=ar5 fun uw uw uw uw uw=>by kernel_rfl!)
theorem fn13 : az C 13 f13:=aH (o148 P) (o147 P) L (hb:=ar4 fun uw uw uw uw=>by kernel_rfl!)
theorem fn14 : az C 14 f14:=aH (o155 P) (o154 P) L (hb:=ar6 fun uw uw uw uw uw uw=>by kernel_rfl!)
theorem fn15 : az C 15 f15:=aH (o162 P) (o161 P) L (hb:=ar2 fun uw uw=>by kernel_rfl!)
theorem fn16 : az C 16 f16:=aH (o169 P) (o168 P) L (hb:=ar2 fun uw uw=>by kernel_rfl!)
theorem fn17 : az C 17 f17:=aH (o176 P) (o175 P) L (hb:=ar2 fun uw uw=>by kernel_rfl!)
theorem fn18 : az C 18 f18:=aH (o183 P) (o182 P) L (hb:=ar2 fun uw uw=>by kernel_rfl!)
theorem fn21 : az C 21 f21:=aH (o191 P) (o190 P) L (hb:=ar2 fun uw uw=>by kernel_rfl!)
theorem fn22 : az C 22 f22:=aH (o198 P) (o197 P) L (hb:=ar2 fun uw uw=>by kernel_rfl!)
theorem fn23 : az C 23 f23:=aH (o205 P) (o204 P) L (hb:=ar2 fun uw uw=>by kernel_rfl!)
theorem fn24 : az C 24 f24:=aH (o212 P) (o211 P) L (hb:=ar2 fun uw uw=>by kernel_rfl!)
theorem fn26 : az C 26 f26:=aH (o266 P) (o265 P) L (hb:=ar1 fun uw=>by kernel_rfl!)
theorem fn28 : az C 28 f28:=aH (o273 P) (o272 P) L (hb:=ar2 fun uw uw=>by kernel_rfl!)
theorem fn29 : az C 29 f29:=aH (o280 P) (o279 P) L (hb:=ar2 fun uw uw=>by kernel_rfl!)
theorem fn30 : az C 30 f30:=aH (o287 P) (o286 P) L (hb:=ar2 fun uw uw=>by kernel_rfl!)
theorem fn32 : az C 32 f32:=aH (o295 P) (o294 P) L (hb:=ar1 fun uw=>by kernel_rfl!)
theorem fn33 : az C 33 f33:=aH (o302 P) (o301 P) L (hb:=ar1 fun uw=>by kernel_rfl!)
theorem fn34 : az C 34 f34:=aH (o309 P) (o308 P) L (hb:=ar1 fun uw=>by kernel_rfl!)
theorem fn35 : az C 35 f35:=aH (o316 P) (o315 P) L (hb:=ar2 fun uw uw=>by kernel_rfl!)
theorem fn36 : az C 36 f36:=aH (o321 P) (o320 P) L (hb:=ar1 fun uw=>by kernel_rfl!)
theorem fn37 : az C 37 f37:=aH (o326 P) (o325 P) L (hb:=ar1 fun uw=>by kernel_rfl!)
theorem fn38 : az C 38 f38:=aH (o333 P) (o332 P) L (hb:=ar1 fun uw=>by kernel_rfl!)
theorem fn39 : az C 39 f39:=aH (o340 P) (o339 P) L (hb:=ar1 fun uw=>by kernel_rfl!)
theorem fn40 : az C 40 f40:=aH (o347 P) (o346 P) L (hb:=ar1 fun uw=>by kernel_rfl!)
theorem fn41 : az C 41 f41:=aH (o354 P) (o353 P) L (hb:=ar1 fun uw=>by kernel_rfl!)
theorem fn42 : az C 42 f42:=aH (o361 P) (o360 P) L (hb:=ar1 fun uw=>by kernel_rfl!)
theorem fn43 : az C 43 f43:=aH (o366 P) (o365 P) L (hb:=ar2 fun uw uw=>by kernel_rfl!)
theorem fn44 : az C 44 f44:=aH (o371 P) (o370 P) L (hb:=ar3 fun uw uw uw=>by kernel_rfl!)
theorem fn45 : az C 45 f45:=aH (o376 P) (o375 P) L (hb:=ar1 fun uw=>by kernel_rfl!)
theorem fn143 : az C 143 f143:=aH (o57 P) (o56 P) L (hb:=ar2 fun uw uw=>by kernel_rfl!)
theorem fn144 : az C 144 f144:=aH (o64 P) (o63 P) L (hb:=ar2 fun uw uw=>by kernel_rfl!)
theorem fn600 : az C 600 f600:=aH (o226 P) (o225 P) L (hb:=ar2 fun uw uw=>by kernel_rfl!)
theorem fn601 : az C 601 f601:=aH (o233 P) (o232 P) L (hb:=ar4 fun uw uw uw uw=>by kernel_rfl!)
theorem fn602 : az C 602 f602:=aH (o240 P) (o239 P) L (hb:=ar4 fun uw uw uw uw=>by kernel_rfl!)
theorem fn603 : az C 603 f603:=aH (o247 P) (o246 P) L (hb:=ar2 fun uw uw=>by kernel_rfl!)
theorem fn604 : az C 604 f604:=aH (o254 P) (o253 P) L (hb:=ar2 fun uw uw=>by kernel_rfl!)
end
theorem dQ {α : Type} {Q : α -> Prop} : ∀ x ∈ ([] : List α),Q x:=fun uw m=>nomatch m
theorem aa {α : Type} {Q : α -> Prop} {a : α} {l : List α} (h : Q a) (t : ∀ x ∈ l,Q x) : ∀ x ∈ a :: l,Q x:=fun x m=>(List.mem_cons.mp m).elim (fun e=>e ▸ h) (t x)
theorem gj {α β : Type} [BEq α] [LawfulBEq α] {l : List (α × β)} {x : α} {b : β} {G : α × β -> Prop} (t : ∀ e ∈ l,G e) (h : l.lookup x = some b) : G (x,b):=t _ (aZ h)
theorem t9 (P : Params) : (Hf P).get? 184 = some (o184 P):=ag
theorem t8 (P : Params) : (Hf P).get? 288 = some (o288 P):=ag
noncomputable def kfr (P : Params) : Frag:=[(82,o82 P),(81,o81 P),(257,o257 P),(256,o256 P),(29,o29 P),(36,o36 P),(57,o57 P),(64,o64 P),(226,o226 P),(233,o233 P),(240,o240 P),(247,o247 P),(254,o254 P)]
theorem ku {h : Heap} : ∀ {K : Frag},(∀ p ∈ K,h.get? p.1 = some p.2) -> K.In h
 | [],_=>fun a o e=>by cases e
 | (b,ob) :: K,hp=>fun a o e=>by
  rw [List.lookup_cons] at e
  split at e
  ·rename_i q
   cases e
   have : a = b:=by simpa using q
   subst this
   exact hp _ List.mem_cons_self
  ·exact ku (fun p m=>hp p (List.mem_cons_of_mem _ m)) a o e
theorem agB {C : Cx} {P : Params} (L : Lay C P) {a : Addr} {o : Obj} (h1 : a < 377:=by decide) (h2 : (T11 P).get a = some o:=by kernel_rfl!) (h3 : alive o = some o:=by kernel_rfl!) : (fun p : Addr × Obj=>C.base.get? p.1 = some p.2) (a,o):=L.hB _ _ (ag h1 h2 h3)
theorem nC {C : Cx} {P : Params} (L : Lay C P) : (kfr P).In C.base:=ku (aa (agB L) (aa (agB L) (aa (agB L) (aa (agB L) (aa (agB L) (aa (agB L) (aa (agB L) (aa (agB L) (aa (agB L) (aa (agB L) (aa (agB L) (aa (agB L) (aa (agB L) (dQ))))))))))))))
noncomputable def mS2 : List (Str × Option Nat):=[(sN "name",none),(sN "arg_count",none),(sN "locals",none),(sN "blocks",none),(sN "spots",none),(sN "statements",some 143),(sN "terminator",some 144)]
noncomputable def mS25 : List (Str × Option Nat):=[(sN "body",none),(sN "use_facts",none),(sN "drop_facts",none),(sN "use_step",some 601),(sN "drop_step",some 602),(sN "for_use",some 603),(sN "for_drop",some 604)]
theorem ny {β : Type} {x : Str} : ∀ l : List (Str × β),(l.map fun e=>(cd e.1,e.2)).lookup (cd x) = l.lookup x
 | []=>rfl
 | (y,b) :: l=>by
  rw [List.map_cons,List.lookup_cons,List.lookup_cons]
  by_cases e : x = y
  ·rw [beq_iff_eq.mpr e,beq_iff_eq.mpr (congrArg cd e)]
  ·rw [beq_eq_false_iff_ne.mpr e,beq_eq_false_iff_ne.mpr fun q=>e (b0 q),ny l]
noncomputable def NmOk (C : Cx) (K : Frag) (c : Nat) (e : Str × Option Nat) : Prop:=findIn K (.ref (C.ca c)) e.1 = some (e.2.map fun k=>.ref (C.fa k)) /\ copiedNames.contains e.1 = false /\
  ∀ k,e.2 = some k -> typeIn K (.ref (C.fa k)) = some (.type "function") /\ specialIn K (.ref (C.fa k)) "__get__" = some (some (.builtin "function.__get__")) /\ takesIn K (.ref (C.fa k)) = some false
section
variable {C : Cx} {P : Params} {c : Nat} {a : Str}
theorem nmN (L : Lay C P) (h : findIn (kfr P) (.ref (caT c)) a = some none:=by kernel_rfl!) (h2 : copiedNames.contains a = false:=by kernel_rfl!) : NmOk C (kfr P) c (a,none):=⟨by rw [L.ca]; exact h,h2,fun uw e=>nn e⟩
theorem nmS (L : Lay C P) {k : Nat} (h : findIn (kfr P) (.ref (caT c)) a = some (some (.ref (faT k))):=by kernel_rfl!) (h2 : copiedNames.contains a = false:=by kernel_rfl!) (h3 : typeIn (kfr P) (.ref (faT k)) = some (.type "function"):=by kernel_rfl!)
  (h4 : specialIn (kfr P) (.ref (faT k)) "__get__" = some (some (.builtin "function.__get__")):=by kernel_rfl!) (h5 : takesIn (kfr P) (.ref (faT k)) = some false:=by kernel_rfl!) : NmOk C (kfr P) c (a,some k) :=
 ⟨by rw [L.ca,L.fa]; exact h,h2,fun k' e=>by cases e; rw [L.fa]; exact ⟨h3,h4,h5⟩⟩
theorem qC (L : Lay C P) {k : Nat} {l : List (Str × Option Nat)} (hm : ∀ x,mtT c x = (l.map fun e=>(cd e.1,e.2)).lookup x) (hn : ∀ e ∈ l,NmOk C (kfr P) c e) (hi : initT c = some k:=by rfl) (h1 : makesIn (kfr P) (caT c) = true:=by kernel_rfl!) (h2 : findIn (kfr P) (.ref (caT c)) "__getattribute__" = some (some (.builtin "object.__getattribute__")):=by kernel_rfl!)
  (h3 : findIn (kfr P) (.ref (caT c)) "__getattr__" = some none:=by kernel_rfl!) (h4 : findIn (kfr P) (.ref (caT c)) "__setattr__" = some (some (.builtin "object.__setattr__")):=by kernel_rfl!) (h5 : plainOver (kfr P) (caT c) = true:=by kernel_rfl!) (h6 : hasDictIn (kfr P) (caT c) = true:=by kernel_rfl!)
  (h7 : findIn (kfr P) (.ref (caT c)) "__init__" = some (some (.ref (faT k))):=by kernel_rfl!) (h8 : typeIn (kfr P) (.ref (faT k)) = some (.type "function"):=by kernel_rfl!) : eX C (kfr P) c where
 makes:=by rw [L.ca]; exact h1
 geta:=by rw [L.ca]; exact h2
 getn:=by rw [L.ca]; exact h3
 seta:=by rw [L.ca]; exact h4
 over:=by rw [L.ca]; exact h5
 dict:=by rw [L.ca]; exact h6
 init:=fun k' e=>by
  rw [show prg.init c = some k from hi] at e
  cases e
  rw [L.ca,L.fa]
  exact ⟨h7,h8⟩
 names:=fun a r e=>gj hn ((ny l).symm.trans ((hm (cd a)).symm.trans e))
end
theorem uj {C : Cx} {P : Params} (L : Lay C P) : eX C (kfr P) 2:=qC L (k:=140) (l:=mS2) (fun x=>congrArg (List.lookup x) (show mt2 = _ by kernel_rfl!)) (aa (nmN L) (aa (nmN L) (aa (nmN L) (aa (nmN L) (aa (nmN L) (aa (nmS L) (aa (nmS L) (dQ))))))))
theorem tH {C : Cx} {P : Params} (L : Lay C P) : eX C (kfr P) 25:=qC L (k:=600) (l:=mS25) (fun x=>congrArg (List.lookup x) (show mt25 = _ by kernel_rfl!)) (aa (nmN L) (aa (nmN L) (aa (nmN L) (aa (nmS L) (aa (nmS L) (aa (nmS L) (aa (nmS L) (dQ))))))))
noncomputable def fd140 : FuncData:=Z.fk "__init__" "Body.__init__" (mA 2 0) (mB 2 0) (mC 2 0) (.ref 29) "lendcore.mir" 194 35
theorem tJ (P : Params) (S : Setting) (v0 v1 v2 v3 v4 v5 : Value) : peek (kfr P) S (bindArgs fd140 ⟨[v0,v1,v2,v3,v4,v5],[]⟩) = some ((nmsOf fd140).zip [v0,v1,v2,v3,v4,v5]):=by kernel_rfl!
theorem tK (P : Params) (S : Setting) (v0 v1 v2 v3 v4 : Value) : peek (kfr P) S (bindArgs fd140 ⟨[v0,v1,v2,v3,v4],[]⟩) = some ((nmsOf fd140).zip [v0,v1,v2,v3,v4,.none]):=by kernel_rfl!
theorem ty {C : Cx} {P : Params} (L : Lay C P) : az C 140 f140 :=
 qB (fd:=fd140) (o36 P) (o35 P) L rfl rfl rfl rfl rfl ag (by kernel_rfl!) ag (by kernel_rfl!) (by kernel_rfl!) fun {as ρ us ι s} e r kp=>by
  have X : (kfr P).In s.heap:=fun a o q=>kp _ _ (nC L a o q)
  have hn : (nmsOf fd140).map cd = f140.params:=by kernel_rfl!
  have l6 : (nmsOf fd140).length = 6:=by kernel_rfl!
  rcases fN e with ⟨l,rfl⟩ | ⟨l,rfl⟩
  ·have lu : us.length = 6:=by rw [<- r.length,l]; rfl
   exact ⟨(nmsOf fd140).zip us,kp_binds X fun S=>ar6 (G:=fun us=>peek (kfr P) S (bindArgs fd140 ⟨us,[]⟩) = some ((nmsOf fd140).zip us)) (tJ P S) us lu,(iW (lu.trans l6.symm)).trans hn,fun x v hv=>ck r (by rw [hn]; exact hv)⟩
  ·have lu : us.length = 5:=by rw [<- r.length]; exact Nat.succ.inj l
   exact ⟨(nmsOf fd140).zip (us ++ [.none]),kp_binds X fun S=>ar5 (G:=fun us=>peek (kfr P) S (bindArgs fd140 ⟨us,[]⟩) = some ((nmsOf fd140).zip (us ++ [.none]))) (tK P S) us lu,(iW (by rw [List.length_append,lu,l6]; rfl)).trans hn,fun x v hv=>ck (R2.append r (.cons .none .nil)) (by rw [hn]; exact hv)⟩
theorem rT {C : Cx} {P : Params} (L : Lay C P) (k : Nat) (f : Fun) (h : fnT k = some f) : az C k f:=gj (G:=fun e=>az C e.1 e.2) (aa (fn3 L) (aa (fn4 L) (aa (fn5 L) (aa (fn6 L) (aa (fn7 L) (aa (fn8 L) (aa (fn10 L) (aa (fn11 L) (aa (fn12 L) (aa (fn13 L) (aa (fn14 L) (aa (fn15 L) (aa (fn16 L) (aa (fn17 L) (aa (fn18 L) (aa (fn21 L) (aa (fn22 L) (aa (fn23 L) (aa (fn24 L) (aa (fn26 L) (aa (fn28 L) (aa (fn29 L) (aa (fn30 L) (aa (fn32 L) (aa (fn33 L) (aa (fn34 L) (aa (fn35 L) (aa (fn36 L) (aa (fn37 L) (aa (fn38 L) (aa (fn39 L) (aa (fn40 L) (aa (fn41 L) (aa (fn42 L) (aa (fn43 L) (aa (fn44 L) (aa (fn45 L) (aa (ty L) (aa (fn143 L) (aa (fn144 L) (aa (fn600 L) (aa (fn601 L) (aa (fn602 L) (aa (fn603 L) (aa (fn604 L) (dQ)))))))))))))))))))))))))))))))))))))))))))))) h
noncomputable def dictOf (o : Obj) : Array DictEntry:=match o.data with
 | .dict es _=>es
 | _=>#[]
noncomputable def epOfO (o : Obj) : Nat:=match o.data with
 | .dict _ n=>n
 | _=>0
noncomputable def keyStr (e : DictEntry) : Bool:=match e.key with
 | .str _ _=>true
 | _=>false
theorem j7 {es : Array DictEntry} (h : es.toList.all keyStr = true) : StrKeys es:=fun e m=>by
 have:=List.all_eq_true.mp h e (by simpa using m)
 unfold keyStr at this
 split at this
 ·exact ⟨_,_,‹_›⟩
 ·cases this
theorem mV {h : Heap} {a : Addr} {o : Obj} {es : Array DictEntry} {ep : Nat} (g : h.get? a = some o) (d : o.data = .dict es ep) (k : es.toList.all keyStr = true) : h.Ns a (nsFind es):=⟨o,es,ep,g,d,j7 k,fun uw=>rfl⟩
theorem ob3 (P : Params) : (Hf P).get? 3 = some (o3_11 P):=ag
theorem ob0 (P : Params) : (Hf P).get? 0 = some (boot_o_0 P):=ag
theorem ob2 (P : Params) : (Hf P).get? 2 = some (boot_o_2 P):=ag
section
variable {C : Cx} {P : Params}
theorem nsM (L : Lay C P) : C.base.Ns mainGlobals (nsFind (dictOf (o3_11 P))):=mV (ep:=epOfO (o3_11 P)) (L.hB _ _ (ob3 P)) (by kernel_rfl!) (by kernel_rfl!)
theorem nsB (L : Lay C P) : C.base.Ns builtinsNs (nsFind (dictOf (boot_o_0 P))):=mV (ep:=epOfO (boot_o_0 P)) (L.hB _ _ (ob0 P)) (by kernel_rfl!) (by kernel_rfl!)
theorem nsC (L : Lay C P) : C.base.Ns cStatics (nsFind (dictOf (boot_o_2 P))):=mV (ep:=epOfO (boot_o_2 P)) (L.hB _ _ (ob2 P)) (by kernel_rfl!) (by kernel_rfl!)
theorem jk (L : Lay C P) : SetAt C C.base "frozenset" 184 []:=⟨#[],0,_,L.hB _ _ (t9 P),⟨rfl,fun e m=>by simp at m,⟨7,0,!P.followText "set-order",rfl,.inl rfl,by rw [L.hw]; cases P.followText "set-order" <;> simp⟩,.nil⟩⟩
noncomputable def GlobX (C : Cx) (x : Str) (g : AV) : Prop:=∃ u mg mb,C.base.Ns mainGlobals mg /\ C.base.Ns builtinsNs mb /\ (mg x = some u \/ (mg x = none /\ mb x = some u)) /\ VRep C [] C.base g u
theorem gf (L : Lay C P) {k : Nat} {x : Str} (h : nsFind (dictOf (o3_11 P)) x = some (.ref (faT k)):=by kernel_rfl!) : GlobX C x (.fn k):=⟨_,_,_,nsM L,nsB L,.inl h,by have:=VRep.fn (C:=C) (ι:=[]) (h:=C.base) k; rw [L.fa] at this; exact this⟩
theorem gc (L : Lay C P) {k : Nat} {x : Str} (h : nsFind (dictOf (o3_11 P)) x = some (.ref (caT k)):=by kernel_rfl!) : GlobX C x (.cls k):=⟨_,_,_,nsM L,nsB L,.inl h,by have:=VRep.cls (C:=C) (ι:=[]) (h:=C.base) k; rw [L.ca] at this; exact this⟩
theorem gb (L : Lay C P) {b : Blt} {x : Str} (h : nsFind (dictOf (o3_11 P)) x = none:=by kernel_rfl!) (h2 : nsFind (dictOf (boot_o_0 P)) x = some (bltVal b):=by kernel_rfl!) : GlobX C x (.blt b):=⟨_,_,_,nsM L,nsB L,.inr ⟨h,h2⟩,.blt b⟩
theorem gNo (L : Lay C P) : GlobX C (sN "NOTHING") (.fset []):=⟨.ref 184,_,_,nsM L,nsB L,.inl (by kernel_rfl!),.fset (jk L)⟩
theorem gI2 (L : Lay C P) : GlobX C (sN "_law_INT") (.tup [.str 29,.str 30]):=⟨.ref 288,_,_,nsM L,nsB L,.inl (by kernel_rfl!),.tup (vs:=[.str (sN "int") 589,.str (sN "i32") 590]) (L.hB _ _ (t8 P)) (.cons (.str _ _ (by kernel_rfl!)) (.cons (.str _ _ (by kernel_rfl!)) .nil)) (by decide)⟩
theorem pW (L : Lay C P) (x : Str) (g : AV) (h : gidT x = some g) : GlobX C x g:=gj (G:=fun e=>GlobX C e.1 e.2) (aa (gf L) (aa (gf L) (aa (gf L) (aa (gf L) (aa (gf L) (aa (gf L) (aa (gf L) (aa (gf L) (aa (gf L) (aa (gf L) (aa (gf L) (aa (gf L) (aa (gf L) (aa (gf L) (aa (gf L) (aa (gf L) (aa (gf L) (aa (gf L) (aa (gf L) (aa (gf L) (aa (gf L) (aa (gf L) (aa (gf L) (aa (gf L) (aa (gf L) (aa (gf L) (aa (gf L) (aa (gf L) (aa (gf L) (aa (gf L) (aa (gf L) (aa (gf L) (aa (gf L) (aa (gf L) (aa (gf L) (aa (gf L) (aa (gf L) (aa (gc L) (aa (gc L) (aa (gNo L) (aa (gI2 L) (aa (gb L) (aa (gb L) (aa (gb L) (aa (gb L) (aa (gb L) (aa (gb L) (aa (gb L) (aa (gb L) (aa (gb L) (aa (gb L) (dQ)))))))))))))))))))))))))))))))))))))))))))))))))))) h
noncomputable def notF (e : Str × AV) : Prop:=∀ l,e.2 = .fset l -> l = []
theorem nF {x : Str} {g : AV} (h : gF g = none:=by rfl) : notF (x,g):=fun l e=>by rw [show g = .fset l from e] at h; cases h
theorem qS (L : Lay C P) (lo : sysModules < C.base.objs.size) : bi C where
 glob:=pW L
 nothing:=fun x l h=>gj (G:=notF) (aa nF (aa nF (aa nF (aa nF (aa nF (aa nF (aa nF (aa nF (aa nF (aa nF (aa nF (aa nF (aa nF (aa nF (aa nF (aa nF (aa nF (aa nF (aa nF (aa nF (aa nF (aa nF (aa nF (aa nF (aa nF (aa nF (aa nF (aa nF (aa nF (aa nF (aa nF (aa nF (aa nF (aa nF (aa nF (aa nF (aa nF (aa nF (aa nF (aa (fun uw e=>by cases e; rfl) (aa nF (aa nF (aa nF (aa nF (aa nF (aa nF (aa nF (aa nF (aa nF (aa nF (aa nF (dQ)))))))))))))))))))))))))))))))))))))))))))))))))))) h l rfl
 nolimit:=⟨_,nsC L,by kernel_rfl!⟩
 low:=lo
theorem sB (L : Lay C P) (c : Nat) (h : (initT c).isSome = true \/ (∃ a,(mtT c a).isSome = true)) : eX C (kfr P) c:=by
 by_cases c2 : c = 2
 ·exact c2 ▸ uj L
 ·by_cases c3 : c = 25
  ·exact c3 ▸ tH L
  ·have h1 : initT c = none:=(if_neg c2).trans (if_neg c3)
   have h2 : ∀ a,mtT c a = none:=fun a=>(if_neg c2).trans (if_neg c3)
   rcases h with h | ⟨a,h⟩
   ·rw [h1] at h; cases h
   ·rw [h2] at h; cases h
theorem oU (L : Lay C P) (lo : sysModules < C.base.objs.size) : bV C (kfr P) where
 top:=qS L lo
 inn:=nC L
 fns:=rT L
 cls:=sB L
end
noncomputable def LawOk : Prop:=∀ xs : List Int,xs.length ≤ 63 -> CFW 19 45 [.ints xs] [] fun v uw=>v = .bool true
theorem rQ (P : Params) : nsFind (dictOf (o3_11 P)) (Str.ofString "law") = some (.ref 376):=by kernel_rfl!
theorem pL {h : Heap} {a : Addr} {m m' : Str -> Option Value} (x : h.Ns a m) (y : h.Ns a m') (n : Str) : m n = m' n:=by
 refine bf x fun o es ep g d uw f=>?_
 refine bf y fun o' es' ep' g' d' uw f'=>?_
 rw [g] at g'; cases g'
 rw [d] at d'; cases d'
 rw [<- f,<- f']
theorem nA (hlaw : LawOk) {w : World} {s₁ : Shared} {a l : Addr} {vs : List Value} {ns : List Int} {mg : Str -> Option Value} (Y : ∀ b o,(Hf w.params).get? b = some o -> s₁.heap.get? b = some o) (hg : s₁.heap.Ns mainGlobals mg) (hmg : mg (Str.ofString "law") = some (.ref a))
  (hL : s₁.heap.IsList l vs.toArray) (hI : IntsAre vs ns) (h63 : ns.length ≤ 63) :
  wpAny (model pw w) callerA (call (.ref a) [.ref l]) (fun v s'=>v = .bool true /\ (∀ b o,s₁.heap.get? b = some o -> s'.heap.get? b = some o) /\ s'.os = s₁.os /\ s'.gens = s₁.gens) Nought s₁:=by
 have hc:=hlaw ns h63
 have L : Lay ⟨pw,w,faT,caT,s₁.heap⟩ w.params:=⟨Y,rfl,rfl,rfl⟩
 have T:=oU L (Nat.lt_of_le_of_lt (show sysModules ≤ 3 by decide) (Heap.lt_size (Y _ _ (ob3 w.params))))
 have hm:=pL hg (nsM L) (Str.ofString "law")
 rw [hmg,rQ] at hm
 injection hm with hm
 injection hm with hm
 subst hm
 have H : HOk ⟨pw,w,faT,caT,s₁.heap⟩ [] [] s₁.heap:=⟨rfl,.nil,fun b o e=>e,fun a m=>(by cases m),fun e=>(by cases e),Nat.le_refl _⟩
 have R : Room callerA 19:=⟨rfl,by decide,by decide⟩
 obtain ⟨_,hcall⟩:=sW T 19 hc (.cons (.ints hL hI (Nat.le_trans h63 (by decide))) .nil) H R
 refine wpAny_mono (dC hcall) (fun v s' p=>?_) fun uw uw f=>f
 obtain ⟨q,x,H',r⟩:=p
 subst q
 cases r
 exact ⟨rfl,fun b o e=>x.keep b o e (fun q=>q) (by simp),x.os,x.gens⟩
theorem pv (x y : List WData) : PySem.Challenge.rw_np0332_01.row.claim.post x (.bool true) y = true:=by
 first
  | kernel_rfl!
  | w_up
set_option maxHeartbeats 8000000 in
theorem holds_of (hlaw : LawOk) : PySem.Challenge.rw_np0332_01.Holds:=by
 w_on
 refine holds_law (by decide +kernel) fun said=>?_
 refine holds_open (q:=qv) (loose:=looseN) (Xt:=fun uw=>true) (XP:=fun uw uw=>True) (Yf:=fun s=>s.heap) (Ya:=fun w=>Hf w.params) (YP:=fun w h=>∀ b o,(Hf w.params).get? b = some o -> h.get? b = some o) (N:=4000)
  left (fun w s e b o g=>?hY) (fun w h h' k k2 b o g=>k2 _ _ (k _ _ g)) (fun uw uw=>trivial) (fun uw uw uw uw uw=>trivial) (by rfl) (by rfl) (by rfl) (fun uw uw=>?hRf) (by rfl) (by decide +kernel) (by decide +kernel) ⟨rfl,rfl,rfl,rfl,rfl,by decide +kernel⟩ ?hw ?hc
 case hY=>rw [e]; exact g
 case hRf=>exact recFacts_nil rfl
 case hw=>w_witness2
 case hc =>
  intro w s₀ s₁ mg mb G Y a o pm cd doc dV kV ho hd hcd hD hmg hgens args vals as hpre hlay hrd hwl hlo
  clear hd hD
  wrow_args hpre hlay hrd hwl hlo
  rename_i hL ra wl r0 hI hr hc1 hc2
  refine wpAny_mono (nA hlaw Y G.T.g hmg hL hI (by omega)) (fun v s' p=>?_) (fun uw uw f=>f.elim)
  obtain ⟨rfl,k,os,gens⟩:=p
  refine ⟨.inl ⟨_,.bool true,[],rfl,fun cls=>rfl,.bool true,?_,fun uw=>⟨.nil,fun a m=>by cases m⟩⟩,.of_keep k,os,.of_eq (gens.trans hgens)⟩
  exact pv _ _
end Mine
end
section
set_option bootstrap.genMatcherCode false
open PySem
namespace Mine.K
structure vX (d : Nat) (e : X) (ρ : Env) (σ : Hp) (Q : AV -> Hp -> Prop) : Prop where of :: go : wXo (CFW d) (CFK d) e ρ σ Q
structure vXs (d : Nat) (e : List X) (ρ : Env) (σ : Hp) (Q : List AV -> Hp -> Prop) : Prop where of :: go : wXso (CFW d) (CFK d) e ρ σ Q
structure vT (d : Nat) (e : List X) (ρ : Env) (σ : Hp) (Q : Bool -> Hp -> Prop) : Prop where of :: go : wTo (CFW d) (CFK d) e ρ σ Q
structure vS (d : Nat) (e : XS) (ρ : Env) (σ : Hp) (Q : Fl -> Env -> Hp -> Prop) : Prop where of :: go : wSo (CFW d) (CFK d) e ρ σ Q
structure vSs (d : Nat) (e : List XS) (ρ : Env) (σ : Hp) (Q : Fl -> Env -> Hp -> Prop) : Prop where of :: go : wSso (CFW d) (CFK d) e ρ σ Q
structure vF (d k : Nat) (as : List AV) (σ : Hp) (Q : AV -> Hp -> Prop) : Prop where of :: go : CFW d k as σ Q
section
variable {d : Nat} {ρ : Env} {σ : Hp}
theorem vX.m {e : X} {Q R : AV -> Hp -> Prop} (h : vX d e ρ σ Q) (i : ∀ v τ,Q v τ -> R v τ) : wXo (CFW d) (CFK d) e ρ σ R:=wXo_mono (CFP_m d).1 (CFP_m d).2 e i h.go
theorem vXs.m {e : List X} {Q R : List AV -> Hp -> Prop} (h : vXs d e ρ σ Q) (i : ∀ v τ,Q v τ -> R v τ) : wXso (CFW d) (CFK d) e ρ σ R:=wXso_mono (CFP_m d).1 (CFP_m d).2 e i h.go
theorem vT.m {e : List X} {Q R : Bool -> Hp -> Prop} (h : vT d e ρ σ Q) (i : ∀ v τ,Q v τ -> R v τ) : wTo (CFW d) (CFK d) e ρ σ R:=wTo_mono (CFP_m d).1 (CFP_m d).2 e i h.go
theorem vS.m {e : XS} {Q R : Fl -> Env -> Hp -> Prop} (h : vS d e ρ σ Q) (i : ∀ f ρ τ,Q f ρ τ -> R f ρ τ) : wSo (CFW d) (CFK d) e ρ σ R:=wSo_mono (CFP_m d).1 (CFP_m d).2 e i h.go
theorem vSs.m {e : List XS} {Q R : Fl -> Env -> Hp -> Prop} (h : vSs d e ρ σ Q) (i : ∀ f ρ τ,Q f ρ τ -> R f ρ τ) : wSso (CFW d) (CFK d) e ρ σ R:=wSso_mono (CFP_m d).1 (CFP_m d).2 e i h.go
theorem vF.m {k : Nat} {as : List AV} {Q R : AV -> Hp -> Prop} (h : vF d k as σ Q) (i : ∀ v τ,Q v τ -> R v τ) : CFW d k as σ R:=(CFP_m d).1 i h.go
end
theorem aK {α : Type} {o : Option α} {a : α} {Q : α -> Prop} (h : o = some a) (q : Q a) : Ob o Q:=by rw [h]; exact q
theorem Bt {b : Bool} {A B : Prop} (h : b = true) (q : A) : Bb (.bool b) A B:=by subst h; exact q
theorem Bf {b : Bool} {A B : Prop} (h : b = false) (q : B) : Bb (.bool b) A B:=by subst h; exact q
structure Hc (σ : Hp) (p : Nat) (o : AO) : Prop where of :: go : σ[p]? = some o
structure Nt (xs : List AV) (i : Nat) (u : AV) : Prop where of :: go : xs[i]? = some u
structure Nx (xs : List AV) (i : Int) (u : AV) : Prop where of :: go : nth xs i = some u
structure Gv (ρ : Env) (x : Nat) (v : AV) : Prop where of :: go : getVar x ρ = some v
structure Ga (σ : Hp) (v : AV) (a : Nat) (w : AV) : Prop where of :: go : attrA prg.mt v a σ = some w
structure Cm (σ : Hp) (v : AV) (a : Nat) (c : Option Nat) : Prop where of :: go : calleeM prg.mt v a σ = some c
structure Su (σ : Hp) (v w u : AV) : Prop where of :: go : subA v w σ = some u
structure Sl (v z w u : AV) : Prop where of :: go : slcA v z w = some u
structure Bi (op : Bop) (v w : AV) (σ : Hp) (u : AV) (τ : Hp) : Prop where of :: go : binA op v w σ = some (u,τ)
structure Cp (op : Cop) (v w : AV) (σ : Hp) (r : Bool) : Prop where of :: go : cmpA op v w σ = some r
structure Bl (f : Blt) (vs : List AV) (σ : Hp) (u : AV) (τ : Hp) : Prop where of :: go : bltCall f vs σ = some (u,τ)
structure Dg (ks : List Nat) (ws : List AV) (m : Nat) (z u : AV) : Prop where of :: go : ((ks.zip ws).lookup m).getD z = u
inductive By (A B : Prop) : Bool -> Prop
 | t : A -> By A B true
 | f : B -> By A B false
theorem ay {A B : Prop} {r : Bool} (e : r = true) (a : A) : By A B r:=by subst e; exact .t a
theorem ai {A B : Prop} {r : Bool} (e : r = false) (a : B) : By A B r:=by subst e; exact .f a
structure Ev (e : X) (ρ : Env) (σ : Hp) (v : AV) : Prop where of :: go : ∀ (c c' : Orc) (Q : AV -> Hp -> Prop),Q v σ -> wXo c c' e ρ σ Q
structure Evs (e : List X) (ρ : Env) (σ : Hp) (v : List AV) : Prop where of :: go : ∀ (c c' : Orc) (Q : List AV -> Hp -> Prop),Q v σ -> wXso c c' e ρ σ Q
structure EvT (e : List X) (ρ : Env) (σ : Hp) (v : Bool) : Prop where of :: go : ∀ (c c' : Orc) (Q : Bool -> Hp -> Prop),Q v σ -> wTo c c' e ρ σ Q
section
variable {ρ : Env} {σ : Hp} {a b e t : X} {es : List X} {v w u : AV} {vs ws : List AV} {x n : Nat}
theorem Ev.lit : Ev (.lit v) ρ σ v:=⟨fun uw uw uw q=>q⟩
theorem Ev.glo : Ev (.glo v) ρ σ v:=⟨fun uw uw uw q=>q⟩
theorem Ev.loc (h : Gv ρ x v) : Ev (.loc x) ρ σ v:=⟨fun uw uw uw q=>aK h.go q⟩
theorem Ev.no : Ev .nothing ρ σ (.fset []):=⟨fun uw uw uw q=>q⟩
theorem Evs.nil : Evs [] ρ σ []:=⟨fun uw uw uw q=>q⟩
theorem Evs.cons (h : Ev e ρ σ v) (g : Evs es ρ σ vs) : Evs (e :: es) ρ σ (v :: vs):=⟨fun c c' Q q=>h.go c c' _ (g.go c c' _ q)⟩
theorem Ev.tup (h : Evs es ρ σ vs) : Ev (.tup es) ρ σ (.tup vs):=⟨fun c c' Q q=>h.go c c' _ q⟩
theorem Ev.attr (h : Ev e ρ σ v) (k : Ga σ v n w) : Ev (.attr e n) ρ σ w:=⟨fun c c' Q q=>h.go c c' _ (aK k.go q)⟩
theorem Ev.sub (h : Ev a ρ σ v) (g : Ev b ρ σ w) (k : Su σ v w u) : Ev (.sub a b) ρ σ u:=⟨fun c c' Q q=>h.go c c' _ (g.go c c' _ (aK k.go q))⟩
theorem Ev.slc {l : X} {z : AV} (h : Ev e ρ σ v) (f : Ev l ρ σ z) (g : Ev b ρ σ w) (k : Sl v z w u) : Ev (.slc e l b) ρ σ u:=⟨fun c c' Q q=>h.go c c' _ (f.go c c' _ (g.go c c' _ (aK k.go q)))⟩
theorem Ev.bin {op : Bop} (h : Ev a ρ σ v) (g : Ev b ρ σ w) (k : Bi op v w σ u σ) : Ev (.bin op a b) ρ σ u:=⟨fun c c' Q q=>h.go c c' _ (g.go c c' _ (aK k.go q))⟩
theorem Ev.neg {i : Int} (h : Ev a ρ σ (.int i)) : Ev (.neg a) ρ σ (.int (-i)):=⟨fun c c' Q q=>h.go c c' _ q⟩
theorem Ev.cmp {op : Cop} {r : Bool} (h : Ev a ρ σ v) (g : Ev b ρ σ w) (k : Cp op v w σ r) : Ev (.cmp op a b) ρ σ (.bool r):=⟨fun c c' Q q=>h.go c c' _ (g.go c c' _ (aK k.go q))⟩
theorem Ev.and {r : Bool} (h : EvT es ρ σ r) : Ev (.and es) ρ σ (.bool r):=⟨fun c c' Q q=>h.go c c' _ q⟩
theorem Ev.ite {r : Bool} (h : Ev t ρ σ (.bool r)) (g : By (Ev a ρ σ v) (Ev b ρ σ v) r) : Ev (.ite t a b) ρ σ v:=⟨fun c c' uw q=>h.go c c' _ (by cases g with | t g=>exact g.go _ _ _ q | f g=>exact g.go _ _ _ q)⟩
theorem Ev.blt {f : Blt} (h : Evs es ρ σ vs) (k : Bl f vs σ u σ) : Ev (.call (.glo (.blt f)) es) ρ σ u:=⟨fun c c' Q q=>h.go c c' _ (aK k.go q)⟩
theorem Ev.dget {ks : List Nat} {fs : List X} {m : Nat} {z : AV} (h : Evs fs ρ σ ws) (g : Ev a ρ σ (.str m)) (f : Ev b ρ σ z) (k : Dg ks ws m z u) : Ev (.dget ks fs a b) ρ σ u:=⟨fun c c' Q q=>h.go c c' _ (g.go c c' _ (f.go c c' _ (by cases k with | of k=>subst k; exact q)))⟩
theorem EvT.nil : EvT [] ρ σ true:=⟨fun uw uw uw q=>q⟩
theorem EvT.c {r s : Bool} (h : Ev e ρ σ (.bool r)) (g : By (EvT es ρ σ s) (s = false) r) : EvT (e :: es) ρ σ s:=⟨fun c c' uw q=>h.go c c' _ (by cases g with | t g=>exact g.go _ _ _ q | f g=>subst g; exact q)⟩
end
theorem le4 {n : Nat} (h : Nat.ble n 4000 = true) : n ≤ 4000:=Nat.le_of_ble_eq_true h
section
variable {σ τ : Hp} {p : Nat} {xs : List AV} {k : Int} {u v w : AV} {o o' : AO}
theorem cP {α : Type} {l : List α} {p : Nat} {o : α} (h : l[p]? = some o) : p < l.length:=(List.getElem?_eq_some_iff.mp h).1
theorem Hc.lt (h : Hc σ p o) : p < σ.length:=cP h.go
theorem Hc.keep (h : Hc σ p o) {l : Hp} : Hc (σ ++ l) p o:=⟨by rw [List.getElem?_append_left h.lt]; exact h.go⟩
theorem Hc.a0 {l : Hp} : Hc (σ ++ o :: l) σ.length o:=⟨by rw [List.getElem?_append_right (Nat.le_refl _),Nat.sub_self]; rfl⟩
theorem Hc.a1 {l : Hp} : Hc (σ ++ o' :: o :: l) (σ.length + 1) o:=⟨by rw [List.getElem?_append_right (Nat.le_add_right _ _),Nat.add_sub_cancel_left]; rfl⟩
theorem Hc.same (h : Hc σ p o') : Hc (σ.set p o) p o:=⟨List.getElem?_set_self h.lt⟩
theorem Hc.ne {q : Nat} (h : Hc σ p o) (n : q ≠ p) : Hc (σ.set q o') p o:=⟨by rw [List.getElem?_set_ne n]; exact h.go⟩
theorem Hc.inj (h : Hc σ p o) (g : Hc σ p o') : o = o':=by have:=h.go; rw [g.go] at this; exact (Option.some.inj this).symm
theorem Hc.lst (h : Hc σ p (.list xs)) : lstAt σ p = some xs:=by unfold lstAt; rw [h.go]
theorem Nx.nat {i : Nat} (h : Nt xs i u) : Nx xs (i : Int) u:=⟨by unfold nth; rw [if_pos (Int.natCast_nonneg i)]; exact h.go⟩
theorem Su.l (h : Hc σ p (.list xs)) (e : Nx xs k u) : Su σ (.ref p) (.int k) u:=⟨by
 show ((lstAt σ p).bind fun xs=>nth xs k).or _ = _
 rw [h.lst]; show (nth xs k).or _ = _; rw [e.go]; rfl⟩
theorem Su.d {es : List (AV × AV)} {ep : Nat} {kk : List Int} (h : Hc σ p (.dict es ep)) (g : keyOf w = some kk) (e : dGet kk es = some u) : Su σ (.ref p) w u:=⟨by
 show ((lstAt σ p).bind fun xs=>(gI w).bind (nth xs)).or ((dctAt σ p).bind fun es=>(keyOf w).bind fun k=>dGet k es) = _
 rw [show lstAt σ p = none by unfold lstAt; rw [h.go],show dctAt σ p = some es by unfold dctAt; rw [h.go],g]; exact e⟩
theorem Bl.len (h : Hc σ p (.list xs)) : Bl .len [.ref p] σ (.int xs.length) σ:=⟨by
 show (((lstAt σ p).map List.length).map _) = _
 rw [h.lst]; rfl⟩
theorem rO {c e a : Nat} {l : List (Nat × AV)} (h : Hc σ p (.inst c e)) (h2 : Hc σ e (.attrs l)) (g : getVar a l = some w) (m : prg.mt c a = some none) : lookA prg.mt p a σ = some (.inl w):=by
 unfold lookA; rw [show insAt σ p = some (c,e) by unfold insAt; rw [h.go]]; show (atrAt σ e).bind _ = _; rw [show atrAt σ e = some l by unfold atrAt; rw [h2.go]]
 show (match getVar a l with | some w=>_ | none=>_) = _
 rw [g]; show (prg.mt c a).bind _ = _; rw [m]; rfl
theorem nv {c e a k : Nat} {l : List (Nat × AV)} (h : Hc σ p (.inst c e)) (h2 : Hc σ e (.attrs l)) (g : getVar a l = none) (m : prg.mt c a = some (some k)) : lookA prg.mt p a σ = some (.inr k):=by
 unfold lookA; rw [show insAt σ p = some (c,e) by unfold insAt; rw [h.go]]; show (atrAt σ e).bind _ = _; rw [show atrAt σ e = some l by unfold atrAt; rw [h2.go]]
 show (match getVar a l with | some w=>_ | none=>_) = _
 rw [g]; show ((prg.mt c a).bind id).map _ = _; rw [m]; rfl
theorem Ga.at {c e a : Nat} {l : List (Nat × AV)} (h : Hc σ p (.inst c e)) (h2 : Hc σ e (.attrs l)) (g : getVar a l = some w) (m : prg.mt c a = some none) : Ga σ (.ref p) a w:=⟨congrArg (Option.map (attrOf (.ref p))) (rO h h2 g m)⟩
theorem Ga.me {c e a k : Nat} {l : List (Nat × AV)} (h : Hc σ p (.inst c e)) (h2 : Hc σ e (.attrs l)) (g : getVar a l = none) (m : prg.mt c a = some (some k)) : Ga σ (.ref p) a (.meth (.ref p) k):=⟨congrArg (Option.map (attrOf (.ref p))) (nv h h2 g m)⟩
theorem Cm.me {c e a k : Nat} {l : List (Nat × AV)} (h : Hc σ p (.inst c e)) (h2 : Hc σ e (.attrs l)) (g : getVar a l = none) (m : prg.mt c a = some (some k)) : Cm σ (.ref p) a (some k):=⟨by
 show ((lstAt σ p).bind fun uw=>_).or (((lookA prg.mt p a σ).bind isMeth).map some) = _
 rw [show lstAt σ p = none by unfold lstAt; rw [h.go],nv h h2 g m]; rfl⟩
theorem Cm.l {a : Nat} (h : Hc σ p (.list xs)) (l : isLm a = true) : Cm σ (.ref p) a none:=⟨by
 show ((lstAt σ p).bind fun uw=>_).or _ = _
 rw [h.lst]; show (if isLm a = true then _ else _ : Option (Option Nat)).or _ = _; rw [if_pos l]; rfl⟩
theorem Bl.fs {is : List Int} (h : Hc σ p (.list xs)) (e : allInts xs = some is) : Bl .frozenset [.ref p] σ (.fset (sortI is)) σ:=⟨by
 show ((lstAt σ p).bind fun xs=>(allInts xs).map _) = _; rw [h.lst]; show (allInts xs).map _ = _; rw [e]; rfl⟩
theorem Bl.st {is : List Int} (h : Hc σ p (.list xs)) (e : allInts xs = some is) : Bl .set [.ref p] σ (.pset (sortI is)) σ:=⟨by
 show ((lstAt σ p).bind fun xs=>(allInts xs).map _) = _; rw [h.lst]; show (allInts xs).map _ = _; rw [e]; rfl⟩
theorem Cp.il {r : Bool} (h : Hc σ p (.list xs)) (e : memA v xs = some r) : Cp .isIn v (.ref p) σ r:=⟨by
 show (lstAt σ p).bind (memA v) = _; rw [h.lst]; exact e⟩
theorem Cp.nl {r : Bool} (h : Hc σ p (.list xs)) (e : memA v xs = some r) : Cp .notIn v (.ref p) σ (!r):=⟨congrArg (Option.map (!·)) (Cp.il h e).go⟩
theorem eF (h : Hc σ p (.list xs)) : unpk (.ref p) σ = some xs:=h.lst
theorem Cp.lt {i j : Int} (h : i < j) : Cp .lt (.int i) (.int j) σ true:=⟨congrArg some (decide_eq_true h)⟩
theorem Cp.nlt {i j : Int} (h : ¬ i < j) : Cp .lt (.int i) (.int j) σ false:=⟨congrArg some (decide_eq_false h)⟩
theorem Cp.gt {i j : Int} (h : j < i) : Cp .gt (.int i) (.int j) σ true:=⟨congrArg some (decide_eq_true h)⟩
theorem Cp.ngt {i j : Int} (h : ¬ j < i) : Cp .gt (.int i) (.int j) σ false:=⟨congrArg some (decide_eq_false h)⟩
theorem Cp.eq {i j : Int} (h : i = j) : Cp .eq (.int i) (.int j) σ true:=⟨congrArg some (decide_eq_true h)⟩
theorem Cp.neq {i j : Int} (h : i ≠ j) : Cp .eq (.int i) (.int j) σ false:=⟨congrArg some (decide_eq_false h)⟩
end
inductive KK (d : Nat) (ss : List XS) (F : Fl -> Env -> Hp -> Prop) : Fl -> Env -> Hp -> Prop
 | next {ρ : Env} {σ : Hp} : vSs d ss ρ σ F -> KK d ss F .next ρ σ
 | ret {ρ : Env} {σ : Hp} {v : AV} : F (.ret v) ρ σ -> KK d ss F (.ret v) ρ σ
structure Rt (Q : AV -> Hp -> Prop) (f : Fl) (ρ : Env) (σ : Hp) : Prop where of :: go : Q (retOf f) σ
theorem ae {d k : Nat} {f : Fun} {as : List AV} {σ : Hp} {ρ : Env} {Q : AV -> Hp -> Prop} (h : vSs d f.body ρ σ (Rt Q)) (e : prg.fn k = some f:=by rfl) (g : bindA f.params as f.dflts = some ρ:=by rfl) : vF (d + 1) k as σ Q:=⟨aK e (aK g (h.m fun uw uw uw q=>q.go))⟩
section
variable {d : Nat} {ρ : Env} {σ : Hp} {a b e t o : X} {es : List X} {ss A B : List XS} {v w u : AV} {vs ws : List AV} {x n k p : Nat} {Q : AV -> Hp -> Prop} {R : List AV -> Hp -> Prop} {F : Fl -> Env -> Hp -> Prop}
theorem on {s : XS} (h : vS d s ρ σ (KK d ss F)) : vSs d (s :: ss) ρ σ F:=⟨h.m fun f uw uw q=>by cases q with | next q=>exact q.go | ret q=>exact q⟩
theorem fO (h : F .next ρ σ) : vSs d [] ρ σ F:=⟨h⟩
theorem ab (h : vSs d ss ρ σ F) : vSs d [] ρ σ (KK d ss F):=⟨.next h⟩
theorem iD (h : F (.ret v) ρ σ) : KK d ss F (.ret v) ρ σ:=.ret h
theorem b7 (h : Q v σ) : Rt Q (.ret v) ρ σ:=⟨h⟩
theorem an (h : vX d e ρ σ fun v τ=>vSs d ss (setVar x v ρ) τ F) : vSs d (.asg x e :: ss) ρ σ F:=⟨h.m fun uw uw q=>q.go⟩
theorem au (h : Ev e ρ σ v) (q : vSs d ss (setVar x v ρ) σ F) : vSs d (.asg x e :: ss) ρ σ F:=⟨h.go _ _ _ q.go⟩
theorem aM {ts : List Nat} (h : Ev e ρ σ v) (g : unpk v σ = some vs) (l : vs.length = ts.length) (q : vSs d ss (setVars ts vs ρ) σ F) : vSs d (.asgN ts e :: ss) ρ σ F:=⟨h.go _ _ _ (aK g ⟨l,q.go⟩)⟩
theorem cO {ts : List Nat} (h : vX d e ρ σ fun v τ=>∃ vs,unpk v τ = some vs /\ vs.length = ts.length /\ vSs d ss (setVars ts vs ρ) τ F) : vSs d (.asgN ts e :: ss) ρ σ F:=⟨h.m fun uw uw ⟨_,g,l,q⟩=>aK g ⟨l,q.go⟩⟩
theorem ax (h : Ev e ρ σ v) (q : F (.ret v) ρ σ) : vSs d (.ret e :: ss) ρ σ F:=⟨h.go _ _ _ q⟩
theorem ac (h : vX d e ρ σ fun v τ=>F (.ret v) ρ τ) : vSs d (.ret e :: ss) ρ σ F:=⟨h.m fun uw uw q=>q⟩
theorem am {r : Bool} (h : Ev t ρ σ (.bool r)) (q : By (vSs d A ρ σ (KK d ss F)) (vSs d B ρ σ (KK d ss F)) r) : vSs d (.ifs t A B :: ss) ρ σ F:=on ⟨h.go _ _ _ (by cases q with | t q=>exact q.go | f q=>exact q.go)⟩
theorem cw (h : vX d t ρ σ fun v τ=>∃ r,v = .bool r /\ By (vSs d A ρ τ (KK d ss F)) (vSs d B ρ τ (KK d ss F)) r) : vSs d (.ifs t A B :: ss) ρ σ F :=
 on ⟨h.m fun uw uw ⟨r,e,q⟩=>by rw [e]; cases q with | t q=>exact q.go | f q=>exact q.go⟩
theorem um (h : vX d e ρ σ fun v τ=>v = .none /\ vSs d ss ρ τ F) : vSs d (.expr e :: ss) ρ σ F:=⟨h.m fun uw uw q=>⟨q.1,q.2.go⟩⟩
theorem ti {xs : List AV} (l : (xs ++ [v]).length ≤ 4000) : mcallL σ p xs 18 [v] = some (.none,σ.set p (.list (xs ++ [v]))):=by
 show (putList σ p _).map _ = _; unfold putList; rw [if_pos l]; rfl
theorem uc {xs ys : List AV} (h : Hc σ n (.list ys)) (l : (xs ++ ys).length ≤ 4000) : mcallL σ p xs 49 [.ref n] = some (.none,σ.set p (.list (xs ++ ys))):=by
 show (lstAt σ n).bind _ = _; rw [h.lst]; show (putList σ p _).map _ = _; unfold putList; rw [if_pos l]; rfl
theorem ub {xs : List AV} (l : (xs ++ [v]).length ≤ 4000) : mcallL σ p (xs ++ [v]) 75 [] = some (v,σ.set p (.list xs)):=by
 show ((xs ++ [v]).getLast?).bind _ = _; rw [List.getLast?_append,List.getLast?_singleton]; show (putList σ p _).map _ = _; unfold putList
 rw [List.dropLast_concat,if_pos (by rw [List.length_append] at l; exact Nat.le_trans (Nat.le_add_right _ _) l)]; rfl
theorem eR {xs : List AV} (h : Ev o ρ σ (.ref p)) (g : Ev e ρ σ v) (hp : Hc σ p (.list xs)) (l : (xs ++ [v]).length ≤ 4000) (q : vSs d ss ρ (σ.set p (.list (xs ++ [v]))) F) : vSs d (.expr (.mcall o 18 [e]) :: ss) ρ σ F :=
 ⟨h.go _ _ _ (aK ((Cm.l hp rfl).go) (g.go _ _ _ (aK (hp.lst) (aK (ti l) ⟨rfl,q.go⟩))))⟩
theorem sI {xs : List AV} (h : Ev o ρ σ (.ref p)) (hp : Hc σ p (.list xs)) (g : vX d e ρ σ fun v τ=>∃ xs,Hc τ p (.list xs) /\ (xs ++ [v]).length ≤ 4000 /\ vSs d ss ρ (τ.set p (.list (xs ++ [v]))) F) : vSs d (.expr (.mcall o 18 [e]) :: ss) ρ σ F :=
 ⟨h.go _ _ _ (aK ((Cm.l hp rfl).go) (g.m fun uw uw ⟨_,hp,l,q⟩=>aK (hp.lst) (aK (ti l) ⟨rfl,q.go⟩)))⟩
theorem oI {xs : List AV} (h : Ev o ρ σ (.ref p)) (hp : Hc σ p (.list xs)) (g : vX d e ρ σ fun v τ=>∃ xs ys r,v = .ref r /\ Hc τ p (.list xs) /\ Hc τ r (.list ys) /\ (xs ++ ys).length ≤ 4000 /\ vSs d ss ρ (τ.set p (.list (xs ++ ys))) F) : vSs d (.expr (.mcall o 49 [e]) :: ss) ρ σ F :=
 ⟨h.go _ _ _ (aK ((Cm.l hp rfl).go) (g.m fun uw uw ⟨_,_,_,ev,hp,hr,l,q⟩=>by rw [ev]; exact aK (hp.lst) (aK (uc hr l) ⟨rfl,q.go⟩)))⟩
theorem ar (h : Ev e ρ σ v) (q : Q v σ) : vX d e ρ σ Q:=⟨h.go _ _ _ q⟩
theorem aD (h : vXs d es ρ σ fun vs τ=>Q (.tup vs) τ) : vX d (.tup es) ρ σ Q:=⟨h.m fun uw uw q=>q⟩
theorem ak (h : Evs es ρ σ vs) (l : vs.length ≤ 4000) (q : Q (.ref σ.length) (σ ++ [.list vs])) : vX d (.lst es) ρ σ Q:=⟨h.go _ _ _ ⟨l,q⟩⟩
theorem qQ (h : vXs d es ρ σ fun vs τ=>vs.length ≤ 4000 /\ Q (.ref τ.length) (τ ++ [.list vs])) : vX d (.lst es) ρ σ Q:=⟨h.m fun uw uw q=>q⟩
theorem aI (h : Evs es ρ σ vs) (q : vF d k vs σ Q) : vX d (.call (.glo (.fn k)) es) ρ σ Q:=⟨h.go _ _ _ q.go⟩
theorem fu (h : vXs d es ρ σ fun vs τ=>vF d k vs τ Q) : vX d (.call (.glo (.fn k)) es) ρ σ Q:=⟨h.m fun uw uw q=>q.go⟩
theorem tT (g : Ev o ρ σ (.fn k)) (h : vXs d es ρ σ fun vs τ=>vF d k vs τ Q) : vX d (.call o es) ρ σ Q:=⟨g.go _ _ _ (h.m fun uw uw q=>q.go)⟩
theorem tR (g : Ev o ρ σ (.meth w k)) (h : vXs d es ρ σ fun vs τ=>vF d k (w :: vs) τ Q) : vX d (.call o es) ρ σ Q:=⟨g.go _ _ _ (h.m fun uw uw q=>q.go)⟩
theorem x_m (g : Ev o ρ σ w) (c : Cm σ w n (some k)) (h : vXs d es ρ σ fun vs τ=>vF d k (w :: vs) τ Q) : vX d (.mcall o n es) ρ σ Q:=⟨g.go _ _ _ (aK c.go (h.m fun uw uw q=>q.go))⟩
theorem bM {f : Blt} (h : vXs d es ρ σ fun vs τ=>∃ r υ,Bl f vs τ r υ /\ Q r υ) : vX d (.call (.glo (.blt f)) es) ρ σ Q:=⟨h.m fun uw uw ⟨_,_,e,q⟩=>aK e.go q⟩
theorem aR {f : Blt} {τ : Hp} (h : Evs es ρ σ vs) (g : Bl f vs σ u τ) (q : Q u τ) : vX d (.call (.glo (.blt f)) es) ρ σ Q:=⟨h.go _ _ _ (aK g.go q)⟩
theorem tU (h : vX d e ρ σ fun v τ=>∃ w,Ga τ v n w /\ Q w τ) : vX d (.attr e n) ρ σ Q:=⟨h.m fun uw uw ⟨_,e,q⟩=>aK e.go q⟩
theorem qr (h : vX d a ρ σ fun v τ=>vX d b ρ τ fun w υ=>∃ u,Su υ v w u /\ Q u υ) : vX d (.sub a b) ρ σ Q:=⟨h.m fun uw uw h=>h.m fun uw uw ⟨_,e,q⟩=>aK e.go q⟩
theorem b9 {op : Bop} (h : vX d a ρ σ fun v τ=>vX d b ρ τ fun w υ=>∃ r φ,Bi op v w υ r φ /\ Q r φ) : vX d (.bin op a b) ρ σ Q:=⟨h.m fun uw uw h=>h.m fun uw uw ⟨_,_,e,q⟩=>aK e.go q⟩
theorem bG {op : Cop} (h : vX d a ρ σ fun v τ=>vX d b ρ τ fun w υ=>∃ r,Cp op v w υ r /\ Q (.bool r) υ) : vX d (.cmp op a b) ρ σ Q:=⟨h.m fun uw uw h=>h.m fun uw uw ⟨_,e,q⟩=>aK e.go q⟩
theorem aS {r : Bool} (h : Ev t ρ σ (.bool r)) (q : By (vX d a ρ σ Q) (vX d b ρ σ Q) r) : vX d (.ite t a b) ρ σ Q:=⟨h.go _ _ _ (by cases q with | t q=>exact q.go | f q=>exact q.go)⟩
theorem sS (h : vT d es ρ σ fun r τ=>Q (.bool r) τ) : vX d (.and es) ρ σ Q:=⟨h.m fun uw uw q=>q⟩
theorem sR (q : Q (.ref σ.length) (σ ++ [.dict [] 0])) : vX d .edict ρ σ Q:=⟨q⟩
theorem ad (q : R [] σ) : vXs d [] ρ σ R:=⟨q⟩
theorem cy (h : Evs es ρ σ vs) (q : R vs σ) : vXs d es ρ σ R:=⟨h.go _ _ _ q⟩
theorem aL (h : Ev e ρ σ v) (q : vXs d es ρ σ fun vs τ=>R (v :: vs) τ) : vXs d (e :: es) ρ σ R:=⟨h.go _ _ _ (q.m fun uw uw q=>q)⟩
theorem af (h : vX d e ρ σ fun v τ=>vXs d es ρ τ fun vs υ=>R (v :: vs) υ) : vXs d (e :: es) ρ σ R:=⟨h.m fun uw uw h=>h.m fun uw uw q=>q⟩
theorem t_c {S : Bool -> Hp -> Prop} {r : Bool} (h : Ev e ρ σ (.bool r)) (q : By (vT d es ρ σ S) (S false σ) r) : vT d (e :: es) ρ σ S:=⟨h.go _ _ _ (by cases q with | t q=>exact q.go | f q=>exact q)⟩
theorem t_X {S : Bool -> Hp -> Prop} (h : vX d e ρ σ fun v τ=>∃ r,v = .bool r /\ By (vT d es ρ τ S) (S false τ) r) : vT d (e :: es) ρ σ S:=⟨h.m fun uw uw ⟨r,e,q⟩=>by rw [e]; cases q with | t q=>exact q.go | f q=>exact q⟩
theorem t_n {S : Bool -> Hp -> Prop} (q : S true σ) : vT d [] ρ σ S:=⟨q⟩
theorem tS {Q' : AV -> Hp -> Prop} (h : vX d e ρ σ Q') (i : ∀ v τ,Q' v τ -> Q v τ) : vX d e ρ σ Q:=⟨h.m i⟩
theorem ui {as : List AV} {Q' : AV -> Hp -> Prop} (h : vF d k as σ Q') (i : ∀ v τ,Q' v τ -> Q v τ) : vF d k as σ Q:=⟨h.m i⟩
end
inductive Pl where | w (i : Nat) | f (k : Nat) | x (k : Nat)
inductive Op where | c | p (a : Pl)
inductive Rv where | use (o : Op) | bin (a b : Op) | tup (a b : Op) | ref (a : Pl)
inductive St where | asg (a : Pl) (r : Rv) | live (i : Nat) | dead (i : Nat) | print (o : Op)
inductive Tm where | ret | drop (a : Pl) (g : Nat) | call (o : Op) (a : Pl) (g : Nat) | asrt (o : Op) (g : Nat) | sw (o : Op) (g h : Nat)
noncomputable def locP : Pl -> Nat
 | .w i=>i
 | .f _=>4
 | .x _=>5
noncomputable def prj : Pl -> List AV
 | .w _=>[]
 | .f k=>[.tup [.str 80,.int k]]
 | .x k=>[.tup [.str 6,.int k]]
noncomputable def avP (a : Pl) : AV:=.tup [.int (locP a),.tup (prj a)]
noncomputable abbrev avI : AV:=.tup [.str 29,.str 30]
noncomputable def avO : Op -> AV
 | .c=>.tup [.str 61,avI,.int 7]
 | .p a=>.tup [.str 94,avP a]
noncomputable def avR : Rv -> AV
 | .use o=>.tup [.str 58,avO o]
 | .bin a b=>.tup [.str 59,.str 95,avO a,avO b]
 | .tup a b=>.tup [.str 50,.tup [avO a,avO b]]
 | .ref a=>.tup [.str 52,.none,.str 96,avP a]
noncomputable def avS : St -> AV
 | .asg a r=>.tup [.str 23,avP a,avR r]
 | .live i=>.tup [.str 53,.int i]
 | .dead i=>.tup [.str 54,.int i]
 | .print o=>.tup [.str 51,avO o]
noncomputable def avT : Tm -> AV
 | .ret=>.tup [.str 63]
 | .drop a g=>.tup [.str 39,avP a,.int g]
 | .call o a g=>.tup [.str 31,.tup [.str 97,.str 98,.tup []],.tup [avO o],avP a,.int g]
 | .asrt o g=>.tup [.str 40,avO o,.bool true,.str 99,.int g]
 | .sw o g h=>.tup [.str 38,avO o,.tup [.tup [.int 0,.int g]],.int h]
noncomputable abbrev Blk:=List St × Tm
noncomputable def spotA (s : Nat × Nat) : AV:=.tup [.int s.1,.int s.2]
inductive Ln where | s (s : St) | t (t : Tm)
noncomputable def avL : Ln -> AV
 | .s s=>avS s
 | .t t=>avT t
noncomputable def linesB (B : List Blk) (b : Nat) : List Ln:=match B[b]? with
 | some (ss,t)=>ss.map .s ++ [.t t]
 | none=>[]
noncomputable def lineAt (B : List Blk) (b i : Nat) : Option Ln:=(linesB B b)[i]?
structure Ext (σ τ : Hp) : Prop where of :: hc : ∀ {p : Nat} {o : AO},Hc σ p o -> Hc τ p o
theorem Ext.refl {σ : Hp} : Ext σ σ:=⟨id⟩
theorem Ext.trans {σ τ υ : Hp} (a : Ext σ τ) (b : Ext τ υ) : Ext σ υ:=⟨fun h=>b.hc (a.hc h)⟩
theorem Ext.app {σ τ : Hp} (a : Ext σ τ) (l : Hp) : Ext σ (τ ++ l):=⟨fun h=>(a.hc h).keep⟩
theorem Ext.set {σ τ : Hp} {q : Nat} {o : AO} (a : Ext σ τ) (h : σ.length ≤ q) : Ext σ (τ.set q o):=⟨fun g=>(a.hc g).ne (Nat.ne_of_gt (Nat.lt_of_lt_of_le g.lt h))⟩
structure AtX (σ : Hp) (pb : Nat) (B : List Blk) (db pk q : Nat) (al : List (Nat × AV)) (ln bs : List AV) : Prop where
 i : Hc σ pb (.inst 2 db)
 d : Hc σ db (.attrs al)
 b : getVar 8 al = some (.ref pk)
 l : getVar 48 al = some (.ref q)
 s : getVar 11 al = none
 t : getVar 9 al = none
 ql : Hc σ q (.list ln)
 n7 : ln.length = 7
 kl : Hc σ pk (.list bs)
 n : bs.length = B.length
 bk : ∀ (b : Nat) (ss : List St) (t : Tm),B[b]? = some (ss,t) -> ∃ lb ll : Nat,Nt bs b (.ref lb) /\ Hc σ lb (.list [.ref ll,avT t]) /\ Hc σ ll (.list (ss.map avS))
inductive At (σ : Hp) (pb : Nat) (B : List Blk) : Prop
 | mk {db pk q : Nat} {al : List (Nat × AV)} {ln bs : List AV} : AtX σ pb B db pk q al ln bs -> At σ pb B
theorem At.ext {σ τ : Hp} {pb : Nat} {B : List Blk} (h : At σ pb B) (x : Ext σ τ) : At τ pb B :=
 let ⟨h⟩:=h
 ⟨x.hc h.i,x.hc h.d,h.b,h.l,h.s,h.t,x.hc h.ql,h.n7,x.hc h.kl,h.n,fun b ss t g=>let ⟨lb,ll,g1,g2,g3⟩:=h.bk b ss t g; ⟨lb,ll,g1,x.hc g2,x.hc g3⟩⟩
theorem mt8 : prg.mt 2 8 = some none:=by kernel_rfl
theorem mt48 : prg.mt 2 48 = some none:=by kernel_rfl
theorem mt11 : prg.mt 2 11 = some (some 143):=by kernel_rfl
theorem mt9 : prg.mt 2 9 = some (some 144):=by kernel_rfl
section
variable {σ : Hp} {pb b i : Nat} {B : List Blk}
theorem At.bl {G : Prop} (h : At σ pb B) (k : ∀ pk bs,Ga σ (.ref pb) 8 (.ref pk) -> Hc σ pk (.list bs) -> bs.length = B.length -> G) : G:=let ⟨h⟩:=h; k _ _ (.at h.i h.d h.b mt8) h.kl h.n
theorem At.lo {G : Prop} (h : At σ pb B) (k : ∀ q ln,Ga σ (.ref pb) 48 (.ref q) -> Hc σ q (.list ln) -> ln.length = 7 -> G) : G:=let ⟨h⟩:=h; k _ _ (.at h.i h.d h.l mt48) h.ql h.n7
theorem At.bk {G : Prop} {ss : List St} {t : Tm} (h : At σ pb B) (hb : B[b]? = some (ss,t)) (k : ∀ pk bs lb ll,Ga σ (.ref pb) 8 (.ref pk) -> Hc σ pk (.list bs) -> Nt bs b (.ref lb) -> Hc σ lb (.list [.ref ll,avT t]) -> Hc σ ll (.list (ss.map avS)) -> Cm σ (.ref pb) 11 (some 143) -> Cm σ (.ref pb) 9 (some 144) -> G) : G :=
 let ⟨h⟩:=h
 let ⟨_,_,g1,g2,g3⟩:=h.bk b ss t hb
 k _ _ _ _ (.at h.i h.d h.b mt8) h.kl g1 g2 g3 (.me h.i h.d h.s mt11) (.me h.i h.d h.t mt9)
theorem iz {l : Ln} {G : Ln -> Prop} (hl : lineAt B b i = some l) (s : ∀ ss t x,B[b]? = some (ss,t) -> ss[i]? = some x -> i < ss.length -> G (.s x)) (t : ∀ ss t,B[b]? = some (ss,t) -> i = ss.length -> G (.t t)) : G l:=by
 unfold lineAt linesB at hl
 cases hb : B[b]? with
 | none=>rw [hb] at hl; cases hl
 | some st =>
  obtain ⟨ss,t'⟩:=st
  rw [hb] at hl
  rcases Nat.lt_or_ge i ss.length with lt | ge
  ·rw [List.getElem?_append_left (by rw [List.length_map]; exact lt),List.getElem?_map,List.getElem?_eq_getElem lt] at hl
   exact Option.some.inj hl ▸ s ss t' _ hb (List.getElem?_eq_getElem lt) lt
  ·rw [List.getElem?_append_right (by rw [List.length_map]; exact ge),List.length_map] at hl
   have e:=cP hl
   rw [List.length_singleton] at e
   have e : i = ss.length:=by lia
   rw [e,Nat.sub_self] at hl
   exact Option.some.inj hl ▸ t ss t' hb e
theorem At.ln {l : Ln} {G : Ln -> Prop} (h : At σ pb B) (hl : lineAt B b i = some l)
  (s : ∀ pk bs lb ll t cs x,Ga σ (.ref pb) 8 (.ref pk) -> Hc σ pk (.list bs) -> Nt bs b (.ref lb) -> Hc σ lb (.list [.ref ll,avT t]) -> Hc σ ll (.list cs) -> Nt cs i (avS x) -> (i : Int) < (cs.length : Int) -> (i : Int) ≠ (cs.length : Int) -> Cm σ (.ref pb) 11 (some 143) -> Cm σ (.ref pb) 9 (some 144) -> G (.s x))
  (t : ∀ pk bs lb ll t cs,Ga σ (.ref pb) 8 (.ref pk) -> Hc σ pk (.list bs) -> Nt bs b (.ref lb) -> Hc σ lb (.list [.ref ll,avT t]) -> Hc σ ll (.list cs) -> (i : Int) = (cs.length : Int) -> ¬ (i : Int) < (cs.length : Int) -> Cm σ (.ref pb) 11 (some 143) -> Cm σ (.ref pb) 9 (some 144) -> G (.t t)) : G l :=
 iz hl (fun ss uw uw hb hi lt=>h.bk hb fun uw uw uw uw a1 a2 a3 a4 a5 a6 a7=>s _ _ _ _ _ _ _ a1 a2 a3 a4 a5 ⟨by rw [List.getElem?_map,hi]; rfl⟩ (by rw [List.length_map]; exact Int.ofNat_lt.mpr lt) (by rw [List.length_map]; exact Int.ne_of_lt (Int.ofNat_lt.mpr lt)) a6 a7)
  fun ss uw hb e=>h.bk hb fun uw uw uw uw a1 a2 a3 a4 a5 a6 a7=>t _ _ _ _ _ _ a1 a2 a3 a4 a5 (by rw [List.length_map,e]) (by rw [List.length_map,e]; exact Int.lt_irrefl _) a6 a7
end
noncomputable def lookL : Ln -> Option Pl
 | .s (.asg _ (.ref a))=>some a
 | _=>none
noncomputable def writL : Ln -> Option Pl
 | .s (.asg a _)=>some a
 | .t (.call _ a _)=>some a
 | _=>none
noncomputable def dropL : Ln -> Option Pl
 | .t (.drop a _)=>some a
 | _=>none
noncomputable def avPo : Option Pl -> AV
 | none=>.none
 | some a=>avP a
noncomputable def turnL : Ln -> Option Nat
 | .s (.live i)=>some i
 | .s (.dead i)=>some i
 | _=>none
noncomputable def avNo : Option Nat -> AV
 | none=>.none
 | some i=>.int i
noncomputable def retL : Ln -> Bool
 | .t .ret=>true
 | _=>false
section
variable {d pb b i : Nat} {σ : Hp} {B : List Blk} {l : Ln} {Q : AV -> Hp -> Prop} (h : At σ pb B) (hl : lineAt B b i = some l)
include h hl
theorem o3 (k : Q (avPo (lookL l)) σ) : vF (d + 1) 15 [.ref pb,spotA (b,i)] σ Q:=by
 revert k
 refine h.ln (G:=fun l=>Q (avPo (lookL l)) σ -> vF (d + 1) 15 [.ref pb,spotA (b,i)] σ Q) hl (fun pk bs lb ll t cs x a1 a2 a3 a4 a5 a6 a7 a8 uw uw k=>ae ?_) fun pk bs lb ll t cs a1 a2 a3 a4 a5 a7 a8 uw uw k=>ae ?_
 ·refine aM (Ev.loc ⟨rfl⟩) rfl rfl ?_
  refine au (Ev.sub (Ev.sub (Ev.attr (Ev.loc ⟨rfl⟩) a1) (Ev.loc ⟨rfl⟩) (Su.l a2 (Nx.nat a3))) Ev.lit (Su.l a4 ⟨rfl⟩)) ?_
  cases x with
  | asg w r =>
   refine am (Ev.and (EvT.c (Ev.cmp (Ev.loc ⟨rfl⟩) (Ev.blt (Evs.cons (Ev.loc ⟨rfl⟩) Evs.nil) (Bl.len a5)) (Cp.lt a7)) (ay rfl (EvT.c (Ev.cmp (Ev.sub (Ev.sub (Ev.loc ⟨rfl⟩) (Ev.loc ⟨rfl⟩) (Su.l a5 (Nx.nat a6))) Ev.lit ⟨rfl⟩) Ev.lit ⟨rfl⟩) (ay rfl EvT.nil))))) (ay rfl ?_)
   refine au (Ev.sub (Ev.sub (Ev.loc ⟨rfl⟩) (Ev.loc ⟨rfl⟩) (Su.l a5 (Nx.nat a6))) Ev.lit ⟨rfl⟩) ?_
   cases r <;> first | (refine am (Ev.cmp (Ev.sub (Ev.loc ⟨rfl⟩) Ev.lit ⟨rfl⟩) Ev.lit ⟨rfl⟩) (ai rfl ?_); refine ab ?_; refine am (Ev.cmp (Ev.sub (Ev.loc ⟨rfl⟩) Ev.lit ⟨rfl⟩) Ev.lit ⟨rfl⟩) (ai rfl ?_); refine ab ?_; refine ab ?_; refine ax Ev.lit ?_; refine b7 ?_; exact k) | (refine am (Ev.cmp (Ev.sub (Ev.loc ⟨rfl⟩) Ev.lit ⟨rfl⟩) Ev.lit ⟨rfl⟩) (ay rfl ?_); refine ax (Ev.sub (Ev.loc ⟨rfl⟩) Ev.lit ⟨rfl⟩) ?_; refine iD ?_; refine iD ?_; refine b7 ?_; exact k)
  | _=>first | (refine am (Ev.and (EvT.c (Ev.cmp (Ev.loc ⟨rfl⟩) (Ev.blt (Evs.cons (Ev.loc ⟨rfl⟩) Evs.nil) (Bl.len a5)) (Cp.lt a7)) (ay rfl (EvT.c (Ev.cmp (Ev.sub (Ev.sub (Ev.loc ⟨rfl⟩) (Ev.loc ⟨rfl⟩) (Su.l a5 (Nx.nat a6))) Ev.lit ⟨rfl⟩) Ev.lit ⟨rfl⟩) (ai rfl rfl))))) (ai rfl ?_); refine ab ?_; refine ax Ev.lit ?_; refine b7 ?_; exact k)
 ·refine aM (Ev.loc ⟨rfl⟩) rfl rfl ?_
  refine au (Ev.sub (Ev.sub (Ev.attr (Ev.loc ⟨rfl⟩) a1) (Ev.loc ⟨rfl⟩) (Su.l a2 (Nx.nat a3))) Ev.lit (Su.l a4 ⟨rfl⟩)) ?_
  refine am (Ev.and (EvT.c (Ev.cmp (Ev.loc ⟨rfl⟩) (Ev.blt (Evs.cons (Ev.loc ⟨rfl⟩) Evs.nil) (Bl.len a5)) (Cp.nlt a8)) (ai rfl rfl))) (ai rfl ?_)
  refine ab ?_
  refine ax Ev.lit ?_
  refine b7 ?_
  exact k
theorem nZ (k : Q (avPo (writL l)) σ) : vF (d + 1) 16 [.ref pb,spotA (b,i)] σ Q:=by
 revert k
 refine h.ln (G:=fun l=>Q (avPo (writL l)) σ -> vF (d + 1) 16 [.ref pb,spotA (b,i)] σ Q) hl (fun pk bs lb ll t cs x a1 a2 a3 a4 a5 a6 a7 a8 uw uw k=>ae ?_) fun pk bs lb ll t cs a1 a2 a3 a4 a5 a7 a8 uw uw k=>ae ?_
 ·refine aM (Ev.loc ⟨rfl⟩) rfl rfl ?_
  refine aM (Ev.sub (Ev.attr (Ev.loc ⟨rfl⟩) a1) (Ev.loc ⟨rfl⟩) (Su.l a2 (Nx.nat a3))) (eF a4) rfl ?_
  refine am (Ev.cmp (Ev.loc ⟨rfl⟩) (Ev.blt (Evs.cons (Ev.loc ⟨rfl⟩) Evs.nil) (Bl.len a5)) (Cp.lt a7)) (ay rfl ?_)
  cases x <;> first | (refine ax (Ev.ite (Ev.cmp (Ev.sub (Ev.sub (Ev.loc ⟨rfl⟩) (Ev.loc ⟨rfl⟩) (Su.l a5 (Nx.nat a6))) Ev.lit ⟨rfl⟩) Ev.lit ⟨rfl⟩) (ay rfl (Ev.sub (Ev.sub (Ev.loc ⟨rfl⟩) (Ev.loc ⟨rfl⟩) (Su.l a5 (Nx.nat a6))) Ev.lit ⟨rfl⟩))) ?_; refine iD ?_; refine b7 ?_; exact k) | (refine ax (Ev.ite (Ev.cmp (Ev.sub (Ev.sub (Ev.loc ⟨rfl⟩) (Ev.loc ⟨rfl⟩) (Su.l a5 (Nx.nat a6))) Ev.lit ⟨rfl⟩) Ev.lit ⟨rfl⟩) (ai rfl Ev.lit)) ?_; refine iD ?_; refine b7 ?_; exact k)
 ·refine aM (Ev.loc ⟨rfl⟩) rfl rfl ?_
  refine aM (Ev.sub (Ev.attr (Ev.loc ⟨rfl⟩) a1) (Ev.loc ⟨rfl⟩) (Su.l a2 (Nx.nat a3))) (eF a4) rfl ?_
  refine am (Ev.cmp (Ev.loc ⟨rfl⟩) (Ev.blt (Evs.cons (Ev.loc ⟨rfl⟩) Evs.nil) (Bl.len a5)) (Cp.nlt a8)) (ai rfl ?_)
  cases t <;> first | (refine ab ?_; refine ax (Ev.ite (Ev.cmp (Ev.sub (Ev.loc ⟨rfl⟩) Ev.lit ⟨rfl⟩) Ev.lit ⟨rfl⟩) (ai rfl Ev.lit)) ?_; refine b7 ?_; exact k) | (refine ab ?_; refine ax (Ev.ite (Ev.cmp (Ev.sub (Ev.loc ⟨rfl⟩) Ev.lit ⟨rfl⟩) Ev.lit ⟨rfl⟩) (ay rfl (Ev.sub (Ev.loc ⟨rfl⟩) Ev.lit ⟨rfl⟩))) ?_; refine b7 ?_; exact k)
theorem nY (k : Q (avPo (dropL l)) σ) : vF (d + 1) 17 [.ref pb,spotA (b,i)] σ Q:=by
 revert k
 refine h.ln (G:=fun l=>Q (avPo (dropL l)) σ -> vF (d + 1) 17 [.ref pb,spotA (b,i)] σ Q) hl (fun pk bs lb ll t cs x a1 a2 a3 a4 a5 a6 a7 a8 uw uw k=>ae ?_) fun pk bs lb ll t cs a1 a2 a3 a4 a5 a7 a8 uw uw k=>ae ?_
 ·refine aM (Ev.loc ⟨rfl⟩) rfl rfl ?_
  refine aM (Ev.sub (Ev.attr (Ev.loc ⟨rfl⟩) a1) (Ev.loc ⟨rfl⟩) (Su.l a2 (Nx.nat a3))) (eF a4) rfl ?_
  refine ax (Ev.ite (Ev.and (EvT.c (Ev.cmp (Ev.loc ⟨rfl⟩) (Ev.blt (Evs.cons (Ev.loc ⟨rfl⟩) Evs.nil) (Bl.len a5)) (Cp.neq a8)) (ai rfl rfl))) (ai rfl Ev.lit)) ?_
  refine b7 ?_
  exact k
 ·refine aM (Ev.loc ⟨rfl⟩) rfl rfl ?_
  refine aM (Ev.sub (Ev.attr (Ev.loc ⟨rfl⟩) a1) (Ev.loc ⟨rfl⟩) (Su.l a2 (Nx.nat a3))) (eF a4) rfl ?_
  cases t <;> first | (refine ax (Ev.ite (Ev.and (EvT.c (Ev.cmp (Ev.loc ⟨rfl⟩) (Ev.blt (Evs.cons (Ev.loc ⟨rfl⟩) Evs.nil) (Bl.len a5)) (Cp.eq a7)) (ay rfl (EvT.c (Ev.cmp (Ev.sub (Ev.loc ⟨rfl⟩) Ev.lit ⟨rfl⟩) Ev.lit ⟨rfl⟩) (ai rfl rfl))))) (ai rfl Ev.lit)) ?_; refine b7 ?_; exact k) | (refine ax (Ev.ite (Ev.and (EvT.c (Ev.cmp (Ev.loc ⟨rfl⟩) (Ev.blt (Evs.cons (Ev.loc ⟨rfl⟩) Evs.nil) (Bl.len a5)) (Cp.eq a7)) (ay rfl (EvT.c (Ev.cmp (Ev.sub (Ev.loc ⟨rfl⟩) Ev.lit ⟨rfl⟩) Ev.lit ⟨rfl⟩) (ay rfl EvT.nil))))) (ay rfl (Ev.sub (Ev.loc ⟨rfl⟩) Ev.lit ⟨rfl⟩))) ?_; refine b7 ?_; exact k)
theorem sv (k : Q (avNo (turnL l)) σ) : vF (d + 1) 18 [.ref pb,spotA (b,i)] σ Q:=by
 revert k
 refine h.ln (G:=fun l=>Q (avNo (turnL l)) σ -> vF (d + 1) 18 [.ref pb,spotA (b,i)] σ Q) hl (fun pk bs lb ll t cs x a1 a2 a3 a4 a5 a6 a7 a8 uw uw k=>ae ?_) fun pk bs lb ll t cs a1 a2 a3 a4 a5 a7 a8 uw uw k=>ae ?_
 ·refine aM (Ev.loc ⟨rfl⟩) rfl rfl ?_
  refine au (Ev.sub (Ev.sub (Ev.attr (Ev.loc ⟨rfl⟩) a1) (Ev.loc ⟨rfl⟩) (Su.l a2 (Nx.nat a3))) Ev.lit (Su.l a4 ⟨rfl⟩)) ?_
  cases x <;> first | (refine am (Ev.and (EvT.c (Ev.cmp (Ev.loc ⟨rfl⟩) (Ev.blt (Evs.cons (Ev.loc ⟨rfl⟩) Evs.nil) (Bl.len a5)) (Cp.lt a7)) (ay rfl (EvT.c (Ev.cmp (Ev.sub (Ev.sub (Ev.loc ⟨rfl⟩) (Ev.loc ⟨rfl⟩) (Su.l a5 (Nx.nat a6))) Ev.lit ⟨rfl⟩) (Ev.tup (Evs.cons Ev.lit (Evs.cons Ev.lit Evs.nil))) ⟨rfl⟩) (ai rfl rfl))))) (ai rfl ?_); refine ab ?_; refine ax Ev.lit ?_; refine b7 ?_; exact k) | (refine am (Ev.and (EvT.c (Ev.cmp (Ev.loc ⟨rfl⟩) (Ev.blt (Evs.cons (Ev.loc ⟨rfl⟩) Evs.nil) (Bl.len a5)) (Cp.lt a7)) (ay rfl (EvT.c (Ev.cmp (Ev.sub (Ev.sub (Ev.loc ⟨rfl⟩) (Ev.loc ⟨rfl⟩) (Su.l a5 (Nx.nat a6))) Ev.lit ⟨rfl⟩) (Ev.tup (Evs.cons Ev.lit (Evs.cons Ev.lit Evs.nil))) ⟨rfl⟩) (ay rfl EvT.nil))))) (ay rfl ?_); refine ax (Ev.sub (Ev.sub (Ev.loc ⟨rfl⟩) (Ev.loc ⟨rfl⟩) (Su.l a5 (Nx.nat a6))) Ev.lit ⟨rfl⟩) ?_; refine iD ?_; refine b7 ?_; exact k)
 ·refine aM (Ev.loc ⟨rfl⟩) rfl rfl ?_
  refine au (Ev.sub (Ev.sub (Ev.attr (Ev.loc ⟨rfl⟩) a1) (Ev.loc ⟨rfl⟩) (Su.l a2 (Nx.nat a3))) Ev.lit (Su.l a4 ⟨rfl⟩)) ?_
  refine am (Ev.and (EvT.c (Ev.cmp (Ev.loc ⟨rfl⟩) (Ev.blt (Evs.cons (Ev.loc ⟨rfl⟩) Evs.nil) (Bl.len a5)) (Cp.nlt a8)) (ai rfl rfl))) (ai rfl ?_)
  refine ab ?_
  refine ax Ev.lit ?_
  refine b7 ?_
  exact k
theorem sr (k : Q (.bool (retL l)) σ) : vF (d + 1) 22 [.ref pb,spotA (b,i)] σ Q:=by
 revert k
 refine h.ln (G:=fun l=>Q (.bool (retL l)) σ -> vF (d + 1) 22 [.ref pb,spotA (b,i)] σ Q) hl (fun pk bs lb ll t cs x a1 a2 a3 a4 a5 a6 a7 a8 uw uw k=>ae ?_) fun pk bs lb ll t cs a1 a2 a3 a4 a5 a7 a8 uw uw k=>ae ?_
 ·refine aM (Ev.sub (Ev.attr (Ev.loc ⟨rfl⟩) a1) (Ev.sub (Ev.loc ⟨rfl⟩) Ev.lit ⟨rfl⟩) (Su.l a2 (Nx.nat a3))) (eF a4) rfl ?_
  refine ax (Ev.and (EvT.c (Ev.cmp (Ev.sub (Ev.loc ⟨rfl⟩) Ev.lit ⟨rfl⟩) (Ev.blt (Evs.cons (Ev.loc ⟨rfl⟩) Evs.nil) (Bl.len a5)) (Cp.neq a8)) (ai rfl rfl))) ?_
  refine b7 ?_
  exact k
 ·refine aM (Ev.sub (Ev.attr (Ev.loc ⟨rfl⟩) a1) (Ev.sub (Ev.loc ⟨rfl⟩) Ev.lit ⟨rfl⟩) (Su.l a2 (Nx.nat a3))) (eF a4) rfl ?_
  cases t <;> first | (refine ax (Ev.and (EvT.c (Ev.cmp (Ev.sub (Ev.loc ⟨rfl⟩) Ev.lit ⟨rfl⟩) (Ev.blt (Evs.cons (Ev.loc ⟨rfl⟩) Evs.nil) (Bl.len a5)) (Cp.eq a7)) (ay rfl (EvT.c (Ev.cmp (Ev.sub (Ev.loc ⟨rfl⟩) Ev.lit ⟨rfl⟩) Ev.lit ⟨rfl⟩) (ay rfl EvT.nil))))) ?_; refine b7 ?_; exact k) | (refine ax (Ev.and (EvT.c (Ev.cmp (Ev.sub (Ev.loc ⟨rfl⟩) Ev.lit ⟨rfl⟩) (Ev.blt (Evs.cons (Ev.loc ⟨rfl⟩) Evs.nil) (Bl.len a5)) (Cp.eq a7)) (ay rfl (EvT.c (Ev.cmp (Ev.sub (Ev.loc ⟨rfl⟩) Ev.lit ⟨rfl⟩) Ev.lit ⟨rfl⟩) (ai rfl rfl))))) ?_; refine b7 ?_; exact k)
theorem sq (k : Q (.ref σ.length) (σ ++ [.list (match dropL l with | none=>[] | some a=>[.int (locP a)])])) : vF (d + 2) 23 [.ref pb,spotA (b,i)] σ Q:=by
 refine ae ?_
 refine an (aI (Evs.cons (Ev.loc ⟨rfl⟩) (Evs.cons (Ev.loc ⟨rfl⟩) Evs.nil)) (nY h hl ?_))
 revert k
 cases dropL l with
 | none=>exact fun k=>ac (aS (Ev.cmp (Ev.loc ⟨rfl⟩) Ev.lit ⟨rfl⟩) (ay rfl (ak .nil (le4 rfl) ⟨k⟩)))
 | some a=>exact fun k=>ac (aS (Ev.cmp (Ev.loc ⟨rfl⟩) Ev.lit ⟨rfl⟩) (ai rfl (ak (Evs.cons (Ev.sub (Ev.loc ⟨rfl⟩) Ev.lit ⟨rfl⟩) Evs.nil) (le4 rfl) ⟨k⟩)))
end
inductive Lp (P : Env -> Hp -> Prop) (F : Fl -> Env -> Hp -> Prop) : Fl -> Env -> Hp -> Prop
 | next {ρ : Env} {σ : Hp} : P ρ σ -> Lp P F .next ρ σ
 | ret {ρ : Env} {σ : Hp} {v : AV} : F (.ret v) ρ σ -> Lp P F (.ret v) ρ σ
section
variable {d x y i n p ep α : Nat} {b ss : List XS} {v u w : AV} {ρ : Env} {σ : Hp} {F : Fl -> Env -> Hp -> Prop} {Q : AV -> Hp -> Prop} {it elt t : X} {ts : List Nat} {cs : List X} {xs : List AV} {be : Env}
theorem aJ {P : Env -> Hp -> Prop} (h : P ρ σ) : vSs d [] ρ σ (Lp P F):=⟨.next h⟩
theorem uq {P : Env -> Hp -> Prop} (h : F (.ret v) ρ σ) : Lp P F (.ret v) ρ σ:=.ret h
structure vL (d x : Nat) (v : AV) (ep n i : Nat) (b : List XS) (ρ : Env) (σ : Hp) (F : Fl -> Env -> Hp -> Prop) : Prop where of :: go : FLo (wSso (CFW d) (CFK d) b) x v ep F n i ρ σ
theorem aW (h : vX d it ρ σ fun v τ=>∃ n,vL d x v (epOf τ v) n 0 b ρ τ (KK d ss F)) : vSs d (.for1 x it b :: ss) ρ σ F :=
 ⟨h.m fun uw uw ⟨n,q⟩=>⟨n,eV (B:=wSso (CFW d) (CFK d) b) (fun uw uw uw uw=>wSso_mono (CFP_m d).1 (CFP_m d).2 b) (fun f uw uw q=>by cases q with | next q=>exact q.go | ret q=>exact q) n q.go⟩⟩
theorem bI (h : nextOf σ v i ep = some none) (q : F .next ρ σ) : vL d x v ep (n + 1) i b ρ σ F:=⟨aK h q⟩
theorem aX (h : nextOf σ v i ep = some (some u)) (q : vSs d b (setVar x u ρ) σ (Lp (fun ρ τ=>vL d x v ep n (i + 1) b ρ τ F) F)) : vL d x v ep (n + 1) i b ρ σ F :=
 ⟨aK h (q.m fun f uw uw q=>by cases q with | next q=>exact q.go | ret q=>exact q)⟩
theorem lU (I : Nat -> Env -> Hp -> Prop) (n : Nat) (step : ∀ j ρ σ,j < n -> I j ρ σ -> ∃ u,nextOf σ v j ep = some (some u) /\ vSs d b (setVar x u ρ) σ (Lp (I (j + 1)) F)) (fin : ∀ ρ σ,I n ρ σ -> nextOf σ v n ep = some none /\ F .next ρ σ) :
  ∀ (k j : Nat) (ρ : Env) (σ : Hp),j + k = n -> I j ρ σ -> vL d x v ep (k + 1) j b ρ σ F
 | 0,j,ρ,σ,e,h=>by
  have e : j = n:=e
  subst e
  exact bI (fin _ _ h).1 (fin _ _ h).2
 | k + 1,j,ρ,σ,e,h =>
  let ⟨_,g,q⟩:=step j ρ σ (by lia) h
  aX g ⟨q.m fun f uw uw q=>by cases q with | next q=>exact .next (lU I n step fin k (j + 1) _ _ (by lia) q) | ret q=>exact .ret q⟩
theorem dF (I : Nat -> Env -> Hp -> Prop) (n : Nat) (h0 : I 0 ρ σ) (step : ∀ j ρ σ,j < n -> I j ρ σ -> ∃ u,nextOf σ v j ep = some (some u) /\ vSs d b (setVar x u ρ) σ (Lp (I (j + 1)) F)) (fin : ∀ ρ σ,I n ρ σ -> nextOf σ v n ep = some none /\ F .next ρ σ) : ∃ m,vL d x v ep m 0 b ρ σ F:=⟨n + 1,lU I n step fin n 0 _ _ (Nat.zero_add n) h0⟩
structure vE (d x y p n i : Nat) (b : List XS) (ρ : Env) (σ : Hp) (F : Fl -> Env -> Hp -> Prop) : Prop where of :: go : FEo (wSso (CFW d) (CFK d) b) x y p F n i ρ σ
theorem sH (h : vX d it ρ σ fun v τ=>∃ p n,v = .ref p /\ vE d x y p n 0 b ρ τ (KK d ss F)) : vSs d (.forE x y it b :: ss) ρ σ F :=
 ⟨h.m fun uw uw ⟨p,n,e,q⟩=>by rw [e]; exact ⟨n,eW (B:=wSso (CFW d) (CFK d) b) (fun uw uw uw uw=>wSso_mono (CFP_m d).1 (CFP_m d).2 b) (fun f uw uw q=>by cases q with | next q=>exact q.go | ret q=>exact q) n q.go⟩⟩
theorem lV (I : Nat -> Env -> Hp -> Prop) (n : Nat) (step : ∀ j ρ σ,j < n -> I j ρ σ -> ∃ xs u,Hc σ p (.list xs) /\ xs[j]? = some u /\ vSs d b (setVar y u (setVar x (.int j) ρ)) σ (Lp (I (j + 1)) F)) (fin : ∀ ρ σ,I n ρ σ -> (∃ xs,Hc σ p (.list xs) /\ xs[n]? = none) /\ F .next ρ σ) :
  ∀ (k j : Nat) (ρ : Env) (σ : Hp),j + k = n -> I j ρ σ -> vE d x y p (k + 1) j b ρ σ F
 | 0,j,ρ,σ,e,h=>by
  have e : j = n:=e
  subst e
  obtain ⟨⟨xs,a,c⟩,q⟩:=fin _ _ h
  exact ⟨aK a.lst (by show (match xs[j]? with | none=>_ | some u=>_); rw [c]; exact q)⟩
 | k + 1,j,ρ,σ,e,h=>by
  refine bJ (step j ρ σ (by lia) h) fun xs u g gu q=>?_
  exact ⟨aK g.lst (by
   show (match xs[j]? with | none=>_ | some u=>_)
   rw [gu]
   exact q.m fun f uw uw q=>by cases q with | next q=>exact (lV I n step fin k (j + 1) _ _ (by lia) q).go | ret q=>exact q)⟩
theorem tV (I : Nat -> Env -> Hp -> Prop) (n : Nat) (h0 : I 0 ρ σ) (step : ∀ j ρ σ,j < n -> I j ρ σ -> ∃ xs u,Hc σ p (.list xs) /\ xs[j]? = some u /\ vSs d b (setVar y u (setVar x (.int j) ρ)) σ (Lp (I (j + 1)) F)) (fin : ∀ ρ σ,I n ρ σ -> (∃ xs,Hc σ p (.list xs) /\ xs[n]? = none) /\ F .next ρ σ) : ∃ m,vE d x y p m 0 b ρ σ F:=⟨n + 1,lV I n step fin n 0 _ _ (Nat.zero_add n) h0⟩
structure vW (d : Nat) (t : X) (b : List XS) (n : Nat) (ρ : Env) (σ : Hp) (F : Fl -> Env -> Hp -> Prop) : Prop where of :: go : WLo (wXo (CFW d) (CFK d) t) (wSso (CFW d) (CFK d) b) F n ρ σ
theorem qP (h : ∃ n,vW d t b n ρ σ (KK d ss F)) : vSs d (.whl t b :: ss) ρ σ F :=
 let ⟨n,q⟩:=h
 ⟨⟨n,eT (T:=wXo (CFW d) (CFK d) t) (B:=wSso (CFW d) (CFK d) b) (fun uw uw uw uw=>wXo_mono (CFP_m d).1 (CFP_m d).2 t) (fun uw uw uw uw=>wSso_mono (CFP_m d).1 (CFP_m d).2 b) (fun f uw uw q=>by cases q with | next q=>exact q.go | ret q=>exact q) n q.go⟩⟩
theorem lT (I : Nat -> Env -> Hp -> Prop) (step : ∀ m ρ σ,I m ρ σ -> vX d t ρ σ fun v τ=>∃ r,v = .bool r /\ By (vSs d b ρ τ (Lp (fun ρ υ=>∃ k,k < m /\ I k ρ υ) F)) (F .next ρ τ) r) :
  ∀ (n m : Nat) (ρ : Env) (σ : Hp),m < n -> I m ρ σ -> vW d t b n ρ σ F
 | 0,_,_,_,e,_=>absurd e (Nat.not_lt_zero _)
 | n + 1,m,ρ,σ,e,h=>⟨(step m ρ σ h).m fun uw uw ⟨r,ev,q⟩=>by
  rw [ev]
  cases q with
  | f q=>exact q
  | t q=>exact q.m fun f uw uw q=>by cases q with | next q=>exact let ⟨k,lt,q⟩:=q; (lT I step n k _ _ (by lia) q).go | ret q=>exact q⟩
theorem sU (I : Nat -> Env -> Hp -> Prop) (m : Nat) (h0 : I m ρ σ) (step : ∀ m ρ σ,I m ρ σ -> vX d t ρ σ fun v τ=>∃ r,v = .bool r /\ By (vSs d b ρ τ (Lp (fun ρ υ=>∃ k,k < m /\ I k ρ υ) F)) (F .next ρ τ) r) : ∃ n,vW d t b n ρ σ F:=⟨m + 1,lT I step _ m _ _ (Nat.lt_succ_self m) h0⟩
structure vC (d : Nat) (elt : X) (ts : List Nat) (v : AV) (ep α : Nat) (cs : List X) (n i : Nat) (ρ : Env) (σ : Hp) (Q : AV -> Hp -> Prop) : Prop where of :: go : CLo (wTo (CFW d) (CFK d) cs) (wXo (CFW d) (CFK d) elt) ts v ep α ρ Q n i σ
theorem aT (h : vX d it ρ σ fun v τ=>∃ n,vC d elt ts v (epOf τ v) τ.length cs n 0 ρ (τ ++ [.list []]) Q) : vX d (.comp elt ts it cs) ρ σ Q:=⟨h.m fun uw uw ⟨n,q⟩=>⟨n,q.go⟩⟩
theorem cz (h : nextOf σ v i ep = some none) (q : Q (.ref α) σ) : vC d elt ts v ep α cs (n + 1) i ρ σ Q:=⟨aK h q⟩
theorem cG (h : nextOf σ v i ep = some (some u)) (hb : bindT ts u = some be) (q : vT d cs (be ++ ρ) σ fun r τ=>By (vX d elt (be ++ ρ) τ fun z υ=>∃ xs,Hc υ α (.list xs) /\ xs.length < 4000 /\ vC d elt ts v ep α cs n (i + 1) ρ (υ.set α (.list (xs ++ [z]))) Q) (vC d elt ts v ep α cs n (i + 1) ρ τ Q) r) : vC d elt ts v ep α cs (n + 1) i ρ σ Q :=
 ⟨aK h (aK hb (q.m fun r uw q=>by cases q with | t q=>exact q.m fun uw uw ⟨_,g,l,q⟩=>aK g.lst ⟨l,q.go⟩ | f q=>exact q.go))⟩
theorem j0 (I : Nat -> Hp -> Prop) (n : Nat) (step : ∀ j σ,j < n -> I j σ -> ∃ u be,nextOf σ v j ep = some (some u) /\ bindT ts u = some be /\ vT d cs (be ++ ρ) σ fun r τ=>By (vX d elt (be ++ ρ) τ fun z υ=>∃ xs,Hc υ α (.list xs) /\ xs.length < 4000 /\ I (j + 1) (υ.set α (.list (xs ++ [z])))) (I (j + 1) τ) r)
  (fin : ∀ σ,I n σ -> nextOf σ v n ep = some none /\ Q (.ref α) σ) : ∀ (k j : Nat) (σ : Hp),j + k = n -> I j σ -> vC d elt ts v ep α cs (k + 1) j ρ σ Q
 | 0,j,σ,e,h=>by
  have e : j = n:=e
  subst e
  exact cz (fin _ h).1 (fin _ h).2
 | k + 1,j,σ,e,h =>
  let ⟨_,_,g,gb,q⟩:=step j σ (by lia) h
  cG g gb ⟨q.m fun r uw q=>by
   cases q with
   | t q=>exact .t ⟨q.m fun uw uw ⟨_,g,l,q⟩=>⟨_,g,l,j0 I n step fin k (j + 1) _ (by lia) q⟩⟩
   | f q=>exact .f (j0 I n step fin k (j + 1) _ (by lia) q)⟩
theorem gY (I : Nat -> Hp -> Prop) (n : Nat) (h0 : I 0 σ) (step : ∀ j σ,j < n -> I j σ -> ∃ u be,nextOf σ v j ep = some (some u) /\ bindT ts u = some be /\ vT d cs (be ++ ρ) σ fun r τ=>By (vX d elt (be ++ ρ) τ fun z υ=>∃ xs,Hc υ α (.list xs) /\ xs.length < 4000 /\ I (j + 1) (υ.set α (.list (xs ++ [z])))) (I (j + 1) τ) r)
  (fin : ∀ σ,I n σ -> nextOf σ v n ep = some none /\ Q (.ref α) σ) : ∃ m,vC d elt ts v ep α cs m 0 ρ σ Q:=⟨n + 1,j0 I n step fin n 0 _ (Nat.zero_add n) h0⟩
theorem gv_set : ∀ {ρ : Env},Gv (setVar x v ρ) x v
 | []=>⟨if_pos rfl⟩
 | (z,w) :: r=>⟨by
  unfold setVar
  split
  ·exact if_pos rfl
  ·rename_i e; unfold getVar; rw [if_neg e]; exact (gv_set (ρ:=r)).go⟩
theorem ao (n : Nat.beq y x = false) : ∀ {ρ : Env},Gv ρ x v -> Gv (setVar y w ρ) x v
 | [],h=>nomatch h.go
 | (z,w') :: r,h=>⟨by
  have h:=h.go
  have n' : ¬ y = x:=fun e=>by rw [e,Nat.beq_refl] at n; cases n
  unfold getVar at h
  unfold setVar
  split
  ·rename_i e; subst e; rw [if_neg n'] at h; unfold getVar; rw [if_neg n']; exact h
  ·unfold getVar
   split
   ·rename_i e2; rw [if_pos e2] at h; exact h
   ·rename_i e2; rw [if_neg e2] at h; exact (ao n ⟨h⟩).go⟩
theorem dM (h : Hc σ p (.list xs)) : nextOf σ (.ref p) i 0 = some xs[i]?:=by
 unfold nextOf; dsimp only; rw [h.go]; rfl
theorem gQ (h : Hc σ p (.list xs)) : epOf σ (.ref p) = 0:=by
 unfold epOf; dsimp only; rw [h.go]
theorem iq (m : Int) (lt : (i : Int) < m) : nextOf σ (.rng 0 m 1) i ep = some (some (.int i)):=by
 show some (if (0 : Int) + i < m then some (AV.int (0 + i)) else none) = _
 rw [Int.zero_add,if_pos lt]
theorem dY (m : Int) (h : ¬ (i : Int) < m) : nextOf σ (.rng 0 m 1) i ep = some none:=by
 show some (if (0 : Int) + i < m then some (AV.int (0 + i)) else none) = _
 rw [Int.zero_add,if_neg h]
end
noncomputable abbrev RetL (σ : Hp) (l : List AV) (Q : AV -> Hp -> Prop) : Prop:=∀ p τ,Ext σ τ -> σ.length ≤ p -> Hc τ p (.list l) -> Q (.ref p) τ
theorem RetL.here {σ : Hp} {l : List AV} {Q : AV -> Hp -> Prop} (k : RetL σ l Q) : Q (.ref σ.length) (σ ++ [.list l]):=k _ _ (Ext.refl.app _) (Nat.le_refl _) .a0
noncomputable def idx : Pl -> List Nat
 | .x k=>[k]
 | _=>[]
noncomputable def nums (l : List Nat) : List AV:=l.map fun (n : Nat)=>AV.int (n : Int)
theorem Bl.lt {xs : List AV} {σ : Hp} (l : xs.length ≤ 4000) : Bl .list [.tup xs] σ (.ref σ.length) (σ ++ [.list xs]):=⟨if_pos l⟩
theorem tA {d : Nat} {σ : Hp} {a : Pl} {Q : AV -> Hp -> Prop} (k : RetL σ (nums (idx a)) Q) : vF (d + 1) 8 [avP a] σ Q:=by
 refine ae ?_
 refine ac (aT (ar (Ev.sub (Ev.loc ⟨rfl⟩) Ev.lit ⟨rfl⟩) ?_))
 cases a with
 | w i=>exact ⟨1,cz rfl ⟨k.here⟩⟩
 | f i =>
  refine ⟨2,cG rfl rfl (t_c (Ev.cmp (Ev.sub (Ev.loc ⟨rfl⟩) Ev.lit ⟨rfl⟩) Ev.lit ⟨rfl⟩) ?_)⟩
  exact ai rfl (.f (cz rfl ⟨k.here⟩))
 | x i =>
  refine ⟨2,cG rfl rfl (t_c (Ev.cmp (Ev.sub (Ev.loc ⟨rfl⟩) Ev.lit ⟨rfl⟩) Ev.lit ⟨rfl⟩) ?_)⟩
  refine ay rfl (t_n (.t (ar (Ev.sub (Ev.loc ⟨rfl⟩) Ev.lit ⟨rfl⟩) ⟨_,.a0,Nat.zero_lt_succ _,cz rfl ⟨k _ _ ((Ext.refl.app _).set (Nat.le_refl _)) (Nat.le_refl _) (Hc.a0.same)⟩⟩)))
theorem sy {d : Nat} {σ : Hp} {s t : List Int} {Q : AV -> Hp -> Prop} (k : Q (.fset (sortI (s ++ t))) σ) : vF (d + 1) 10 [.fset s,.fset t] σ Q:=by
 refine ae ?_
 refine ax (Ev.bin (Ev.loc ⟨rfl⟩) (Ev.loc ⟨rfl⟩) ⟨rfl⟩) ?_
 refine b7 ?_
 exact k
noncomputable def opsR : Rv -> List Op
 | .use o=>[o]
 | .bin a b=>[a,b]
 | .tup a b=>[a,b]
 | .ref _=>[]
noncomputable def opsL : Ln -> List Op
 | .s (.asg _ r)=>opsR r
 | .s (.print o)=>[o]
 | .t (.call o _ _)=>[o]
 | .t (.asrt o _)=>[o]
 | .t (.sw o _ _)=>[o]
 | _=>[]
theorem tC {d : Nat} {σ : Hp} {r : Rv} {Q : AV -> Hp -> Prop} (k : RetL σ ((opsR r).map avO) Q) : vF (d + 1) 6 [avR r] σ Q:=by
 refine ae ?_
 cases r with
 | use o =>
  refine au (Ev.sub (Ev.loc ⟨rfl⟩) Ev.lit ⟨rfl⟩) ?_
  refine am (Ev.cmp (Ev.loc ⟨rfl⟩) (Ev.tup (Evs.cons Ev.lit (Evs.cons Ev.lit Evs.nil))) ⟨rfl⟩) (ay rfl ?_)
  exact ac (ak (Evs.cons (Ev.sub (Ev.loc ⟨rfl⟩) Ev.lit ⟨rfl⟩) Evs.nil) (le4 rfl) (.ret ⟨k.here⟩))
 | bin a b =>
  refine au (Ev.sub (Ev.loc ⟨rfl⟩) Ev.lit ⟨rfl⟩) ?_
  refine am (Ev.cmp (Ev.loc ⟨rfl⟩) (Ev.tup (Evs.cons Ev.lit (Evs.cons Ev.lit Evs.nil))) ⟨rfl⟩) (ai rfl ?_)
  refine ab ?_
  refine am (Ev.cmp (Ev.loc ⟨rfl⟩) (Ev.tup (Evs.cons Ev.lit (Evs.cons Ev.lit Evs.nil))) ⟨rfl⟩) (ay rfl ?_)
  exact ac (ak (Evs.cons (Ev.sub (Ev.loc ⟨rfl⟩) Ev.lit ⟨rfl⟩) (Evs.cons (Ev.sub (Ev.loc ⟨rfl⟩) Ev.lit ⟨rfl⟩) Evs.nil)) (le4 rfl) (.ret ⟨k.here⟩))
 | tup a b =>
  refine au (Ev.sub (Ev.loc ⟨rfl⟩) Ev.lit ⟨rfl⟩) ?_
  refine am (Ev.cmp (Ev.loc ⟨rfl⟩) (Ev.tup (Evs.cons Ev.lit (Evs.cons Ev.lit Evs.nil))) ⟨rfl⟩) (ai rfl ?_)
  refine ab ?_
  refine am (Ev.cmp (Ev.loc ⟨rfl⟩) (Ev.tup (Evs.cons Ev.lit (Evs.cons Ev.lit Evs.nil))) ⟨rfl⟩) (ai rfl ?_)
  refine ab ?_
  refine am (Ev.cmp (Ev.loc ⟨rfl⟩) Ev.lit ⟨rfl⟩) (ai rfl ?_)
  refine ab ?_
  refine am (Ev.cmp (Ev.loc ⟨rfl⟩) Ev.lit ⟨rfl⟩) (ai rfl ?_)
  refine ab ?_
  refine am (Ev.cmp (Ev.loc ⟨rfl⟩) (Ev.tup (Evs.cons Ev.lit (Evs.cons Ev.lit Evs.nil))) ⟨rfl⟩) (ay rfl ?_)
  exact ac (aR (Evs.cons (Ev.sub (Ev.loc ⟨rfl⟩) Ev.lit ⟨rfl⟩) Evs.nil) (.lt (le4 rfl)) (.ret ⟨k.here⟩))
 | ref a =>
  refine au (Ev.sub (Ev.loc ⟨rfl⟩) Ev.lit ⟨rfl⟩) ?_
  refine am (Ev.cmp (Ev.loc ⟨rfl⟩) (Ev.tup (Evs.cons Ev.lit (Evs.cons Ev.lit Evs.nil))) ⟨rfl⟩) (ai rfl ?_)
  refine ab ?_
  refine am (Ev.cmp (Ev.loc ⟨rfl⟩) (Ev.tup (Evs.cons Ev.lit (Evs.cons Ev.lit Evs.nil))) ⟨rfl⟩) (ai rfl ?_)
  refine ab ?_
  refine am (Ev.cmp (Ev.loc ⟨rfl⟩) Ev.lit ⟨rfl⟩) (ai rfl ?_)
  refine ab ?_
  refine am (Ev.cmp (Ev.loc ⟨rfl⟩) Ev.lit ⟨rfl⟩) (ai rfl ?_)
  refine ab ?_
  refine am (Ev.cmp (Ev.loc ⟨rfl⟩) (Ev.tup (Evs.cons Ev.lit (Evs.cons Ev.lit Evs.nil))) ⟨rfl⟩) (ai rfl ?_)
  refine ab ?_
  exact ac (aS (Ev.cmp (Ev.loc ⟨rfl⟩) Ev.lit ⟨rfl⟩) (ai rfl (ak Evs.nil (le4 rfl) ⟨k.here⟩)))
section
variable {d pb b i pk lb ll : Nat} {σ : Hp} {bs : List AV} {u : AV} {Q : AV -> Hp -> Prop} (a1 : Ga σ (.ref pb) 8 (.ref pk)) (a2 : Hc σ pk (.list bs)) (a3 : Nt bs b (.ref lb)) (a4 : Hc σ lb (.list [.ref ll,u]))
include a1 a2 a3 a4
theorem gM (k : Q (.ref ll) σ) : vF (d + 1) 143 [.ref pb,.int b] σ Q:=by
 refine ae ?_
 refine ax (Ev.sub (Ev.sub (Ev.attr (Ev.loc ⟨rfl⟩) a1) (Ev.loc ⟨rfl⟩) (Su.l a2 (Nx.nat a3))) Ev.lit (Su.l a4 ⟨rfl⟩)) ?_
 refine b7 ?_
 exact k
theorem o5 (k : Q u σ) : vF (d + 1) 144 [.ref pb,.int b] σ Q:=by
 refine ae ?_
 refine ax (Ev.sub (Ev.sub (Ev.attr (Ev.loc ⟨rfl⟩) a1) (Ev.loc ⟨rfl⟩) (Su.l a2 (Nx.nat a3))) Ev.lit (Su.l a4 ⟨rfl⟩)) ?_
 refine b7 ?_
 exact k
end
section
variable {d pb b i : Nat} {σ : Hp} {B : List Blk} {l : Ln} {Q : AV -> Hp -> Prop} (h : At σ pb B) (hl : lineAt B b i = some l)
include h hl
theorem tB (k : RetL σ ((opsL l).map avO) Q) : vF (d + 2) 7 [.ref pb,spotA (b,i)] σ Q:=by
 revert k
 refine h.ln (G:=fun l=>RetL σ ((opsL l).map avO) Q -> vF (d + 2) 7 [.ref pb,spotA (b,i)] σ Q) hl (fun pk bs lb ll t cs x a1 a2 a3 a4 a5 a6 a7 a8 c1 c2 k=>ae ?_) fun pk bs lb ll t cs a1 a2 a3 a4 a5 a7 a8 c1 c2 k=>ae ?_
 ·refine aM (Ev.loc ⟨rfl⟩) rfl rfl ?_
  refine cw (bG (ar (Ev.loc ⟨rfl⟩) (bM (af (x_m (Ev.loc ⟨rfl⟩) c1 (cy (Evs.cons (Ev.loc ⟨rfl⟩) Evs.nil) (gM a1 a2 a3 a4 (ad ⟨_,_,.len a5,_,.lt a7,_,rfl,.t ?_⟩))))))))
  refine an (qr (x_m (Ev.loc ⟨rfl⟩) c1 (cy (Evs.cons (Ev.loc ⟨rfl⟩) Evs.nil) (gM a1 a2 a3 a4 (ar (Ev.loc ⟨rfl⟩) ⟨_,.l a5 (.nat a6),?_⟩)))))
  cases x with
  | asg w r =>
   refine am (Ev.cmp (Ev.sub (Ev.loc ⟨rfl⟩) Ev.lit ⟨rfl⟩) Ev.lit ⟨rfl⟩) (ay rfl ?_)
   exact ac (aI (Evs.cons (Ev.sub (Ev.loc ⟨rfl⟩) Ev.lit ⟨rfl⟩) Evs.nil) (tC fun p τ x g c=>.ret (.ret ⟨k p τ x g c⟩)))
  | print o =>
   refine am (Ev.cmp (Ev.sub (Ev.loc ⟨rfl⟩) Ev.lit ⟨rfl⟩) Ev.lit ⟨rfl⟩) (ai rfl ?_)
   refine ab ?_
   exact ac (aS (Ev.cmp (Ev.sub (Ev.loc ⟨rfl⟩) Ev.lit ⟨rfl⟩) Ev.lit ⟨rfl⟩) (ay rfl (ak (Evs.cons (Ev.sub (Ev.loc ⟨rfl⟩) Ev.lit ⟨rfl⟩) Evs.nil) (le4 rfl) (.ret ⟨k.here⟩))))
  | live j =>
   refine am (Ev.cmp (Ev.sub (Ev.loc ⟨rfl⟩) Ev.lit ⟨rfl⟩) Ev.lit ⟨rfl⟩) (ai rfl ?_)
   refine ab ?_
   exact ac (aS (Ev.cmp (Ev.sub (Ev.loc ⟨rfl⟩) Ev.lit ⟨rfl⟩) Ev.lit ⟨rfl⟩) (ai rfl (ak Evs.nil (le4 rfl) (.ret ⟨k.here⟩))))
  | dead j =>
   refine am (Ev.cmp (Ev.sub (Ev.loc ⟨rfl⟩) Ev.lit ⟨rfl⟩) Ev.lit ⟨rfl⟩) (ai rfl ?_)
   refine ab ?_
   exact ac (aS (Ev.cmp (Ev.sub (Ev.loc ⟨rfl⟩) Ev.lit ⟨rfl⟩) Ev.lit ⟨rfl⟩) (ai rfl (ak Evs.nil (le4 rfl) (.ret ⟨k.here⟩))))
 ·refine aM (Ev.loc ⟨rfl⟩) rfl rfl ?_
  refine cw (bG (ar (Ev.loc ⟨rfl⟩) (bM (af (x_m (Ev.loc ⟨rfl⟩) c1 (cy (Evs.cons (Ev.loc ⟨rfl⟩) Evs.nil) (gM a1 a2 a3 a4 (ad ⟨_,_,.len a5,_,.nlt a8,_,rfl,.f (ab ?_)⟩))))))))
  refine an (x_m (Ev.loc ⟨rfl⟩) c2 (cy (Evs.cons (Ev.loc ⟨rfl⟩) Evs.nil) (o5 a1 a2 a3 a4 ?_)))
  cases t with
  | call o w g =>
   refine am (Ev.cmp (Ev.sub (Ev.loc ⟨rfl⟩) Ev.lit ⟨rfl⟩) Ev.lit ⟨rfl⟩) (ay rfl ?_)
   exact ac (aR (Evs.cons (Ev.sub (Ev.loc ⟨rfl⟩) Ev.lit ⟨rfl⟩) Evs.nil) (.lt (le4 rfl)) (.ret ⟨k.here⟩))
  | asrt o g =>
   refine am (Ev.cmp (Ev.sub (Ev.loc ⟨rfl⟩) Ev.lit ⟨rfl⟩) Ev.lit ⟨rfl⟩) (ai rfl ?_)
   refine ab ?_
   exact ac (aS (Ev.cmp (Ev.sub (Ev.loc ⟨rfl⟩) Ev.lit ⟨rfl⟩) (Ev.tup (Evs.cons Ev.lit (Evs.cons Ev.lit Evs.nil))) ⟨rfl⟩) (ay rfl (ak (Evs.cons (Ev.sub (Ev.loc ⟨rfl⟩) Ev.lit ⟨rfl⟩) Evs.nil) (le4 rfl) ⟨k.here⟩)))
  | sw o g g2 =>
   refine am (Ev.cmp (Ev.sub (Ev.loc ⟨rfl⟩) Ev.lit ⟨rfl⟩) Ev.lit ⟨rfl⟩) (ai rfl ?_)
   refine ab ?_
   exact ac (aS (Ev.cmp (Ev.sub (Ev.loc ⟨rfl⟩) Ev.lit ⟨rfl⟩) (Ev.tup (Evs.cons Ev.lit (Evs.cons Ev.lit Evs.nil))) ⟨rfl⟩) (ay rfl (ak (Evs.cons (Ev.sub (Ev.loc ⟨rfl⟩) Ev.lit ⟨rfl⟩) Evs.nil) (le4 rfl) ⟨k.here⟩)))
  | _ =>
   refine am (Ev.cmp (Ev.sub (Ev.loc ⟨rfl⟩) Ev.lit ⟨rfl⟩) Ev.lit ⟨rfl⟩) (ai rfl ?_)
   refine ab ?_
   exact ac (aS (Ev.cmp (Ev.sub (Ev.loc ⟨rfl⟩) Ev.lit ⟨rfl⟩) (Ev.tup (Evs.cons Ev.lit (Evs.cons Ev.lit Evs.nil))) ⟨rfl⟩) (ai rfl (ak Evs.nil (le4 rfl) ⟨k.here⟩)))
end
noncomputable def within : Pl -> List Nat
 | .w i=>[i]
 | .f _=>[4]
 | .x k=>[5,k]
theorem dE (a : Pl) : within a = locP a :: idx a:=by cases a <;> rfl
noncomputable def drawsP : Op -> List Nat
 | .c=>[]
 | .p a=>within a
noncomputable def partP : Pl -> List Nat
 | .w _=>[]
 | a=>within a
noncomputable def setP : Pl -> List Nat
 | .w i=>[i]
 | _=>[]
noncomputable def tl : Option Nat -> List Nat
 | none=>[]
 | some i=>[i]
noncomputable def sl : Option Pl -> List Nat
 | none=>[]
 | some a=>setP a
noncomputable def setsL (l : Ln) : List Nat:=tl (turnL l) ++ sl (writL l)
noncomputable def dropsL : Ln -> List Nat
 | .t (.drop a _)=>[locP a]
 | _=>[]
noncomputable def drawsR : Rv -> List Nat
 | .use o=>drawsP o
 | .bin a b=>drawsP a ++ drawsP b
 | .tup a b=>drawsP a ++ drawsP b
 | .ref a=>within a
noncomputable def usesL : Ln -> List Nat
 | .s (.asg a r)=>drawsR r ++ partP a
 | .s (.print o)=>drawsP o
 | .t .ret=>[0]
 | .t (.call o a _)=>drawsP o ++ partP a
 | .t (.asrt o _)=>drawsP o
 | .t (.sw o _ _)=>drawsP o
 | _=>[]
noncomputable def GoodP : Pl -> Prop
 | .w i=>(i : Int) ≤ 6
 | .f _=>True
 | .x k=>(k : Int) ≤ 6
noncomputable def GoodO : Op -> Prop
 | .c=>True
 | .p a=>GoodP a
noncomputable def GoodR : Rv -> Prop
 | .use o=>GoodO o
 | .bin a b=>GoodO a /\ GoodO b
 | .tup a b=>GoodO a /\ GoodO b
 | .ref a=>GoodP a
noncomputable def GoodS : St -> Prop
 | .asg a r=>GoodP a /\ GoodR r
 | .live i=>(i : Int) ≤ 6
 | .dead i=>(i : Int) ≤ 6
 | .print o=>GoodO o
noncomputable def GoodT (m : Nat) : Tm -> Prop
 | .ret=>True
 | .drop a g=>GoodP a /\ idx a = [] /\ g < m
 | .call o a g=>GoodO o /\ GoodP a /\ g < m
 | .asrt o g=>GoodO o /\ g < m
 | .sw o g h=>GoodO o /\ g < m /\ h < m
noncomputable def GoodL (m : Nat) : Ln -> Prop
 | .s s=>GoodS s
 | .t t=>GoodT m t
noncomputable def zz (l : List Nat) : List Int:=l.map fun (n : Nat)=>(n : Int)
theorem bg (a b : List Nat) : nums (a ++ b) = nums a ++ nums b:=List.map_append ..
theorem dl (a : List Nat) : (nums a).length = a.length:=List.length_map ..
theorem tP (a b : List Nat) : zz (a ++ b) = zz a ++ zz b:=List.map_append ..
theorem kg (l : List Nat) : nums l = (zz l).map .int:=by rw [zz,List.map_map]; rfl
theorem mem_zz {x : Int} {l : List Nat} : x ∈ zz l ↔ ∃ n,n ∈ l /\ (n : Int) = x:=List.mem_map
theorem zz_mem {n : Nat} {l : List Nat} : (n : Int) ∈ zz l ↔ n ∈ l:=mem_zz.trans ⟨fun ⟨m,h,e⟩=>(Int.ofNat.inj e) ▸ h,fun h=>⟨n,h,rfl⟩⟩
theorem asInts_int : ∀ l : List Int,asInts (l.map .int) = some l
 | []=>rfl
 | x :: l=>by
  show (asInts (l.map .int)).map (x :: ·) = _
  rw [asInts_int l]; rfl
noncomputable abbrev Sml (l : List Nat) : Prop:=∀ x ∈ l,x ≤ 6
theorem smallI_iff {l : List Int} : smallI l = true ↔ ∀ x ∈ l,0 ≤ x /\ x ≤ 6:=by
 unfold smallI
 rw [List.all_eq_true]
 exact ⟨fun h x m=>by have:=h x m; rwa [Bool.and_eq_true,decide_eq_true_eq,decide_eq_true_eq] at this,fun h x m=>by rw [Bool.and_eq_true,decide_eq_true_eq,decide_eq_true_eq]; exact h x m⟩
theorem mr {l : List Nat} (h : Sml l) : smallI (zz l) = true:=smallI_iff.mpr fun x m=>let ⟨n,hn,e⟩:=mem_zz.mp m; e ▸ ⟨Int.natCast_nonneg n,Int.ofNat_le.mpr (h n hn)⟩
theorem tM {l : List Int} (h : smallI l = true) : allInts (l.map .int) = some l:=by
 unfold allInts; rw [asInts_int]; exact if_pos h
theorem qo {l : List Nat} (h : Sml l) : allInts (nums l) = some (zz l):=kg l ▸ tM (mr h)
theorem mem_insI (x y : Int) (l : List Int) : x ∈ insI y l ↔ x = y \/ x ∈ l:=by
 induction l with
 | nil=>simp [insI]
 | cons a r ih =>
  unfold insI
  split
  ·simp
  ·split
   ·rename_i h; subst h; simp
   ·simp [ih]; constructor <;> rintro (h | h | h) <;> simp [h]
theorem mem_sortI (x : Int) (l : List Int) : x ∈ sortI l ↔ x ∈ l:=by
 induction l with
 | nil=>simp [sortI]
 | cons a r ih=>show x ∈ insI a (sortI r) ↔ _; rw [mem_insI,ih]; simp
theorem nK (x : Int) (l : List Int) : (insI x l).length ≤ l.length + 1:=by
 induction l with
 | nil=>simp [insI]
 | cons a r ih=>unfold insI; split <;> (try split) <;> simp <;> lia
theorem kM (l : List Int) : (sortI l).length ≤ l.length:=by
 induction l with
 | nil=>simp [sortI]
 | cons a r ih=>have:=nK a (sortI r); simp; exact Nat.le_trans this (by lia)
noncomputable def Up : List Int -> Prop
 | []=>True
 | x :: r=>(∀ y ∈ r,x < y) /\ Up r
theorem jN (x : Int) : ∀ (l : List Int),Up l -> Up (insI x l)
 | [],_=>⟨by simp,trivial⟩
 | a :: r,h=>by
  unfold insI
  split
  ·refine ⟨fun y hy=>?_,h⟩
   rcases List.mem_cons.mp hy with rfl | hy
   ·assumption
   ·have:=h.1 y hy; lia
  ·split
   ·exact h
   ·refine ⟨fun y hy=>?_,jN x r h.2⟩
    rcases (mem_insI y x r).mp hy with rfl | hy
    ·lia
    ·exact h.1 y hy
theorem cA (l : List Int) : Up (sortI l):=by
 induction l with
 | nil=>trivial
 | cons a r ih=>exact jN a _ ih
theorem up_ext : ∀ (a b : List Int),Up a -> Up b -> (∀ x,x ∈ a ↔ x ∈ b) -> a = b
 | [],[],_,_,_=>rfl
 | [],y :: b,_,_,h=>by have:=(h y).mpr (by simp); cases this
 | x :: a,[],_,_,h=>by have:=(h x).mp (by simp); cases this
 | x :: a,y :: b,ha,hb,h=>by
  have e : x = y:=by
   rcases List.mem_cons.mp ((h x).mp (by simp)) with e | e
   ·exact e
   ·rcases List.mem_cons.mp ((h y).mpr (by simp)) with g | g
    ·exact g.symm
    ·have:=hb.1 _ e; have:=ha.1 _ g; lia
  subst e
  rw [up_ext a b ha.2 hb.2 fun z=>?_]
  constructor
  ·intro hz
   rcases List.mem_cons.mp ((h z).mp (by simp [hz])) with e | e
   ·have:=ha.1 _ hz; lia
   ·exact e
  ·intro hz
   rcases List.mem_cons.mp ((h z).mpr (by simp [hz])) with e | e
   ·have:=hb.1 _ hz; lia
   ·exact e
theorem kN {a b : List Int} (h : ∀ x,x ∈ a ↔ x ∈ b) : sortI a = sortI b:=up_ext _ _ (cA a) (cA b) fun x=>by rw [mem_sortI,mem_sortI]; exact h x
theorem m7 {a : List Int} (h : Up a) : sortI a = a:=up_ext _ _ (cA a) h fun x=>mem_sortI x a
theorem u5 {a : List Int} (h : smallI a = true) : smallI (sortI a) = true:=smallI_iff.mpr fun x m=>smallI_iff.mp h x ((mem_sortI x a).mp m)
theorem tQ {d x : Nat} {t : Option Nat} {ρ : Env} {σ : Hp} {Q : AV -> Hp -> Prop} (h : Gv ρ x (avNo t)) (k : Q (.ref σ.length) (σ ++ [.list (nums (tl t))])) : vX d (.ite (.cmp .is (.loc x) (.lit .none)) (.lst []) (.lst [.loc x])) ρ σ Q:=by
 cases t with
 | none=>exact aS (Ev.cmp (Ev.loc h) Ev.lit ⟨rfl⟩) (ay rfl (ak .nil (le4 rfl) k))
 | some i=>exact aS (Ev.cmp (Ev.loc h) Ev.lit ⟨rfl⟩) (ai rfl (ak (.cons (.loc h) .nil) (le4 rfl) k))
theorem nN (a : Pl) : (idx a).length ≤ 1:=by cases a <;> exact Nat.le_of_ble_eq_true rfl
structure Fd (σ : Hp) (p : Nat) (xs : List Nat) (τ : Hp) : Prop where
 c : Hc τ p (.list (nums xs))
 k : ∀ {q : Nat} {o : AO},q ≠ p -> Hc σ q o -> Hc τ q o
section
variable {d p x y n : Nat} {σ τ υ σ0 : Hp} {xs ys : List Nat} {ρ : Env} {ss : List XS} {F : Fl -> Env -> Hp -> Prop} {e : X} {a : Pl} {o : Option Pl}
theorem Fd.ext (h : Fd σ p xs τ) (x : Ext σ0 σ) (g : σ0.length ≤ p) : Ext σ0 τ:=⟨fun {q o} e=>h.k (Nat.ne_of_lt (Nat.lt_of_lt_of_le e.lt g)) (x.hc e)⟩
theorem Fd.up (h : Fd σ p xs τ) (x : Ext τ υ) : Fd σ p xs υ:=⟨x.hc h.c,fun n e=>x.hc (h.k n e)⟩
theorem Fd.trans (h : Fd σ p xs τ) (g : Fd τ p ys υ) : Fd σ p ys υ:=⟨g.c,fun n e=>g.k n (h.k n e)⟩
theorem Fd.put (h : Fd σ p xs τ) {l : List AV} (e : l = nums ys) : Fd σ p ys (τ.set p (.list l)):=by
 subst e
 exact ⟨h.c.same,fun n e=>(h.k n e).ne (Ne.symm n)⟩
theorem bA {a b : List Nat} {k : Nat} (h : a.length + b.length ≤ k) : (nums a ++ nums b).length ≤ k:=by rw [List.length_append,dl,dl]; exact h
theorem i6 (h : Gv ρ 4 (.ref p)) (g : Ev e ρ τ (.int n)) (f : Fd σ p xs τ) (l : xs.length + 1 ≤ 4000) (q : ∀ υ,Fd σ p (xs ++ [n]) υ -> vSs d ss ρ υ F) : vSs d (.expr (.mcall (.loc 4) 18 [e]) :: ss) ρ τ F :=
 eR (.loc h) g f.c (bA (b:=[n]) l) (q _ (f.put (bg xs [n]).symm))
theorem mD (h : Gv ρ 4 (.ref p)) (g : Ev e ρ τ (avP a)) (f : Fd σ p xs τ) (l : xs.length + 1 ≤ 4000) (q : ∀ υ,Fd σ p (xs ++ idx a) υ -> vSs (d + 1) ss ρ υ F) : vSs (d + 1) (.expr (.mcall (.loc 4) 49 [.call (.glo (.fn 8)) [e]]) :: ss) ρ τ F :=
 oI (.loc h) f.c (aI (.cons g .nil) (tA fun r υ x uw c=>⟨nums xs,nums (idx a),r,rfl,x.hc f.c,c,bA (Nat.le_trans (Nat.add_le_add_left (nN a) _) l),q _ ((f.up x).put (bg _ _).symm)⟩))
end
noncomputable def ol (f : Pl -> List Nat) : Option Pl -> List Nat
 | none=>[]
 | some a=>f a
theorem o9 (a : Pl) (σ : Hp) : ∃ r,Cp .eq (.tup (prj a)) (.tup []) σ r /\ setP a = (match r with | true=>[locP a] | false=>[]) /\ Cp .ne (.tup (prj a)) (.tup []) σ (!r) /\ partP a = (match r with | true=>[] | false=>locP a :: idx a):=by
 cases a with
 | w i=>exact ⟨true,⟨rfl⟩,rfl,⟨rfl⟩,rfl⟩
 | _=>exact ⟨false,⟨rfl⟩,rfl,⟨rfl⟩,rfl⟩
section
variable {d pb b i : Nat} {σ : Hp} {B : List Blk} {l : Ln} {Q : AV -> Hp -> Prop} (h : At σ pb B) (hl : lineAt B b i = some l)
include h hl
theorem nX (k : RetL σ (nums (setsL l)) Q) : vF (d + 2) 24 [.ref pb,spotA (b,i)] σ Q:=by
 refine ae ?_
 refine cO (aD (af (aI (Evs.cons (Ev.loc ⟨rfl⟩) (Evs.cons (Ev.loc ⟨rfl⟩) Evs.nil)) (sv h hl (af (aI (Evs.cons (Ev.loc ⟨rfl⟩) (Evs.cons (Ev.loc ⟨rfl⟩) Evs.nil)) (nZ h hl (ad ⟨_,rfl,rfl,?_⟩))))))))
 unfold setsL at k
 refine an (tQ ⟨rfl⟩ ?_)
 have f0 : Fd (σ ++ [.list (nums (tl (turnL l)))]) σ.length (tl (turnL l)) (σ ++ [.list (nums (tl (turnL l)))]):=⟨.a0,fun uw e=>e⟩
 have lt : (tl (turnL l)).length + 1 ≤ 4000:=by cases turnL l <;> exact le4 rfl
 have x0 : Ext σ (σ ++ [.list (nums (tl (turnL l)))]):=Ext.refl.app _
 have fin : ∀ xs υ,Fd (σ ++ [.list (nums (tl (turnL l)))]) σ.length xs υ -> xs = tl (turnL l) ++ sl (writL l) -> Q (.ref σ.length) υ:=fun xs υ f e=>k _ _ (f.ext x0 (Nat.le_refl _)) (Nat.le_refl _) (e ▸ f.c)
 clear k
 revert fin
 cases writL l with
 | none =>
  intro fin
  refine am (Ev.and (EvT.c (Ev.cmp (Ev.loc ⟨rfl⟩) Ev.lit ⟨rfl⟩) (ai rfl rfl))) (ai rfl (ab (ax (Ev.loc ⟨rfl⟩) ⟨fin _ _ f0 (List.append_nil _).symm⟩)))
 | some a =>
  intro fin
  refine mU (o9 a (σ ++ [.list (nums (tl (turnL l)))])) fun r c1 e1 uw uw=>?_
  refine am (r:=r) (.and (.c (Ev.cmp (Ev.loc ⟨rfl⟩) Ev.lit ⟨rfl⟩) (.t (.c (.cmp (Ev.sub (Ev.loc ⟨rfl⟩) Ev.lit ⟨rfl⟩) (Ev.tup Evs.nil) c1) (by cases r with | true=>exact .t .nil | false=>exact .f rfl))))) ?_
  cases r with
  | true=>exact .t (i6 ⟨rfl⟩ (Ev.sub (Ev.loc ⟨rfl⟩) Ev.lit ⟨rfl⟩) f0 lt fun υ f=>ab (ax (Ev.loc ⟨rfl⟩) ⟨fin _ _ f (congrArg (tl (turnL l) ++ ·) e1.symm)⟩))
  | false=>exact .f (ab (ax (Ev.loc ⟨rfl⟩) ⟨fin _ _ f0 (by rw [show sl (some a) = [] from e1,List.append_nil])⟩))
end
noncomputable def flatD (l : Ln) : List Nat:=(opsL l).flatMap drawsP
theorem lH (o : Op) : (drawsP o).length ≤ 2:=by rcases o with _ | (_ | _ | _) <;> exact Nat.le_of_ble_eq_true rfl
theorem kb (l : Ln) : (opsL l).length ≤ 2:=by rcases l with ⟨_,_ | _ | _ | _⟩ | _ | _ | _ | _ | _ | _ | _ | _ <;> exact Nat.le_of_ble_eq_true rfl
theorem flat_le : ∀ (os : List Op),(os.flatMap drawsP).length ≤ 2 * os.length
 | []=>Nat.le_refl _
 | o :: os=>by
  have:=flat_le os
  have:=lH o
  rw [List.flatMap_cons,List.length_append,List.length_cons]
  lia
theorem nS (l : Ln) : (flatD l).length ≤ 4:=Nat.le_trans (flat_le _) (Nat.mul_le_mul_left 2 (kb l))
section
variable {d p x n : Nat} {σ τ υ σ0 : Hp} {xs ys : List Nat} {ρ : Env} {ss : List XS} {F : Fl -> Env -> Hp -> Prop} {e : X} {a : Pl} {o : Option Pl}
theorem rM {q : Nat} {os : List Op} {v3 : AV} {v0 : AV} {e0 : Env} (hq : Hc τ q (.list (os.map avO))) (n : q ≠ p) (f : Fd σ p xs τ) (l : xs.length + 2 * os.length ≤ 100) (k : ∀ e' υ,Fd σ p (xs ++ os.flatMap drawsP) υ -> F .next ((0,v0) :: (3,v3) :: (4,.ref p) :: e') υ) :
  ∃ m,vL (d + 1) 22 (.ref q) (epOf τ (.ref q)) m 0 [(.ifs (.cmp .ne (.sub (.loc 22) (.lit (.int 0))) (.lit (.str 61))) [(.expr (.mcall (.loc 4) 18 [(.sub (.sub (.loc 22) (.lit (.int 1))) (.lit (.int 0)))])),(.expr (.mcall (.loc 4) 49 [(.call (.glo (.fn 8)) [(.sub (.loc 22) (.lit (.int 1)))])]))] [])] ((0,v0) :: (3,v3) :: (4,.ref p) :: e0) τ F:=by
 rw [gQ hq]
 refine dF (fun j ρ υ=>(∃ e',ρ = (0,v0) :: (3,v3) :: (4,.ref p) :: e') /\ Fd τ p (xs ++ (os.take j).flatMap drawsP) υ) os.length ⟨⟨_,rfl⟩,⟨by rw [List.take_zero,List.flatMap_nil,List.append_nil]; exact f.c,fun uw h=>h⟩⟩ ?_ fun ρ υ ⟨⟨e',i1⟩,i2⟩=>⟨by rw [dM (i2.k n hq),List.getElem?_map,List.getElem?_eq_none (Nat.le_refl _)]; rfl,by rw [i1]; exact k e' υ (f.trans (by rw [List.take_length] at i2; exact i2))⟩
 intro j ρ υ hj ⟨⟨e',i1⟩,i2⟩
 subst i1
 refine ⟨avO os[j],by rw [dM (i2.k n hq),List.getElem?_map,List.getElem?_eq_getElem hj]; rfl,?_⟩
 have tk : (os.take (j + 1)).flatMap drawsP = (os.take j).flatMap drawsP ++ drawsP os[j]:=by rw [List.take_add_one,List.getElem?_eq_getElem hj,List.flatMap_append]; exact congrArg _ (List.append_nil _)
 have le:=flat_le (os.take j)
 have le2 : (os.take j).length ≤ os.length:=by rw [List.length_take]; exact Nat.min_le_right _ _
 rw [tk]
 cases os[j] with
 | c=>exact am (Ev.cmp (Ev.sub (Ev.loc gv_set) Ev.lit ⟨rfl⟩) Ev.lit ⟨rfl⟩) (ai rfl (ab (aJ ⟨⟨_,rfl⟩,by rw [show drawsP .c = [] from rfl,List.append_nil]; exact i2⟩)))
 | p a =>
  refine am (Ev.cmp (Ev.sub (Ev.loc gv_set) Ev.lit ⟨rfl⟩) Ev.lit ⟨rfl⟩) (ay rfl ?_)
  refine i6 ⟨rfl⟩ (Ev.sub (Ev.sub (Ev.loc gv_set) Ev.lit ⟨rfl⟩) Ev.lit ⟨rfl⟩) i2 (by rw [List.length_append]; lia) fun υ2 f2=>?_
  refine mD ⟨rfl⟩ (Ev.sub (Ev.loc gv_set) Ev.lit ⟨rfl⟩) f2 (by rw [List.length_append,List.length_append,List.length_singleton]; lia) fun υ3 f3=>ab (aJ ⟨⟨_,rfl⟩,?_⟩)
  rw [show drawsP (.p a) = [locP a] ++ idx a from dE a,<- List.append_assoc,<- List.append_assoc]
  exact ⟨f3.c,fun n h=>f3.k n h⟩
end
noncomputable def all21 (l : Ln) : List Nat:=flatD l ++ ol idx (lookL l) ++ ol idx (dropL l) ++ ol (fun a=>[locP a]) (lookL l) ++ ol partP (writL l) ++ (match retL l with | true=>[0] | false=>[])
theorem qD {m : Nat} {l : Ln} (hg : GoodL m l) (x : Nat) : x ∈ all21 l ↔ x ∈ usesL l:=by
 have k : ∀ {a e : List Nat},x ∈ a ++ [] ++ [] ++ [] ++ e ++ [] ↔ x ∈ a ++ e:=fun {a e}=>by
  rw [List.append_nil,List.append_nil,List.append_nil,List.append_nil]
 have k0 : ∀ {a : List Nat},x ∈ a ++ [] ++ [] ++ [] ++ [] ++ [] ↔ x ∈ a:=fun {a}=>k.trans (by rw [List.append_nil])
 have n : ∀ a : List Nat,a ++ [] = a:=List.append_nil
 rcases l with (⟨w,⟨o⟩ | ⟨o,o2⟩ | ⟨o,o2⟩ | a⟩ | i | i | o) | (_ | ⟨a,g⟩ | ⟨o,a,g⟩ | ⟨o,g⟩ | ⟨o,g,h⟩)
 ·exact (k (a:=drawsP o ++ []) (e:=partP w)).trans (by rw [n])
 ·exact (k (a:=drawsP o ++ (drawsP o2 ++ [])) (e:=partP w)).trans (by rw [n])
 ·exact (k (a:=drawsP o ++ (drawsP o2 ++ [])) (e:=partP w)).trans (by rw [n])
 ·show x ∈ [] ++ idx a ++ [] ++ [locP a] ++ partP w ++ [] ↔ x ∈ within a ++ partP w
  rw [n,n,List.nil_append,List.mem_append,List.mem_append,List.mem_singleton,dE,List.mem_append,List.mem_cons,or_comm (a:=x ∈ idx a)]
 ·exact k0
 ·exact k0
 ·show x ∈ (drawsP o ++ []) ++ [] ++ [] ++ [] ++ [] ++ [] ↔ x ∈ drawsP o
  rw [k0,n]
 ·exact Iff.rfl
 ·show x ∈ [] ++ [] ++ idx a ++ [] ++ [] ++ [] ↔ _
  rw [hg.2.1]; exact Iff.rfl
 ·show x ∈ (drawsP o ++ []) ++ [] ++ [] ++ [] ++ partP a ++ [] ↔ x ∈ drawsP o ++ partP a
  rw [k,n]
 ·show x ∈ (drawsP o ++ []) ++ [] ++ [] ++ [] ++ [] ++ [] ↔ x ∈ drawsP o
  rw [k0,n]
 ·show x ∈ (drawsP o ++ []) ++ [] ++ [] ++ [] ++ [] ++ [] ↔ x ∈ drawsP o
  rw [k0,n]
theorem rS {a : Pl} (h : GoodP a) : Sml (idx a):=by
 cases a with
 | x k=>exact fun x m=>by rw [List.mem_singleton.mp m]; exact Int.ofNat_le.mp h
 | _=>exact fun x m=>nomatch m
theorem nw {a : Pl} (h : GoodP a) : locP a ≤ 6:=by
 cases a with
 | w i=>exact Int.ofNat_le.mp h
 | _=>exact Nat.le_of_ble_eq_true rfl
theorem dD {a : Pl} (h : GoodP a) : Sml (within a):=fun x m=>by
 rw [dE] at m
 exact (List.mem_cons.mp m).elim (fun e=>e ▸ nw h) (rS h x)
theorem ka {a : Pl} (h : GoodP a) : Sml (partP a):=fun x m=>by
 cases a with
 | w i=>cases m
 | _=>exact dD h x m
theorem bh {o : Op} (h : GoodO o) : Sml (drawsP o):=by
 cases o with
 | c=>exact fun x m=>nomatch m
 | p a=>exact dD h
theorem lG {r : Rv} (h : GoodR r) : Sml (drawsR r):=by
 cases r with
 | use o=>exact bh h
 | bin a b=>exact fun x m=>(List.mem_append.mp m).elim (bh h.1 x) (bh h.2 x)
 | tup a b=>exact fun x m=>(List.mem_append.mp m).elim (bh h.1 x) (bh h.2 x)
 | ref a=>exact dD h
theorem jL {m : Nat} {l : Ln} (h : GoodL m l) : Sml (usesL l):=by
 rcases l with (⟨a,r⟩ | _ | _ | _) | (_ | _ | _ | _ | _)
 ·exact fun x m=>(List.mem_append.mp m).elim (lG h.2 x) (ka h.1 x)
 ·exact fun x m=>nomatch m
 ·exact fun x m=>nomatch m
 ·exact bh h
 ·exact fun x m=>by rw [List.mem_singleton.mp m]; exact Nat.zero_le _
 ·exact fun x m=>nomatch m
 ·exact fun x m=>(List.mem_append.mp m).elim (bh h.1 x) (ka h.2.1 x)
 ·exact bh h.1
 ·exact bh h.1
theorem jU {m : Nat} {l : Ln} (h : GoodL m l) : Sml (setsL l):=by
 have one : ∀ {i : Nat},(i : Int) ≤ 6 -> Sml [i]:=fun h x m=>by rw [List.mem_singleton.mp m]; exact Int.ofNat_le.mp h
 have set : ∀ {a : Pl},GoodP a -> Sml (setP a):=fun {a} h=>by
  cases a with
  | w i=>exact one h
  | _=>exact fun x m=>nomatch m
 have nil : Sml []:=fun x m=>nomatch m
 have app : ∀ {a b : List Nat},Sml a -> Sml b -> Sml (a ++ b):=fun p q x m=>(List.mem_append.mp m).elim (p x) (q x)
 rcases l with (⟨a,r⟩ | _ | _ | _) | (_ | _ | _ | _ | _)
 ·exact app nil (set h.1)
 ·exact app (one h) nil
 ·exact app (one h) nil
 ·exact app nil nil
 ·exact app nil nil
 ·exact app nil nil
 ·exact app nil (set h.2.1)
 ·exact app nil nil
 ·exact app nil nil
section
variable {d p x y n : Nat} {σ τ υ σ0 : Hp} {xs ys : List Nat} {ρ : Env} {ss : List XS} {F : Fl -> Env -> Hp -> Prop} {e : X} {a : Pl} {o : Option Pl}
theorem qy (h : Gv ρ 4 (.ref p)) (g : Gv ρ 21 (avPo o)) (f : Fd σ p xs τ) (l : xs.length + 1 ≤ 4000) (q : ∀ υ,Fd σ p (xs ++ ol idx o) υ -> vSs (d + 1) ss ρ υ F) : vSs (d + 1) (.ifs (.cmp .isNot (.loc 21) (.lit .none)) [(.expr (.mcall (.loc 4) 49 [(.call (.glo (.fn 8)) [(.loc 21)])]))] [] :: ss) ρ τ F:=by
 cases o with
 | none=>exact am (.cmp (.loc g) .lit ⟨rfl⟩) (ai rfl (ab (q _ (by rw [show ol idx none = [] from rfl,List.append_nil]; exact f))))
 | some a=>exact am (.cmp (.loc g) .lit ⟨rfl⟩) (ay rfl (mD h (.loc g) f l fun υ f=>ab (q _ f)))
theorem sY (h : Gv ρ 4 (.ref p)) (g : Gv ρ 62 (avPo o)) (f : Fd σ p xs τ) (l : xs.length + 1 ≤ 4000) (q : ∀ υ,Fd σ p (xs ++ ol (fun a=>[locP a]) o) υ -> vSs d ss ρ υ F) : vSs d (.ifs (.cmp .isNot (.loc 62) (.lit .none)) [(.expr (.mcall (.loc 4) 18 [(.sub (.loc 62) (.lit (.int 0)))]))] [] :: ss) ρ τ F:=by
 cases o with
 | none=>exact am (.cmp (.loc g) .lit ⟨rfl⟩) (ai rfl (ab (q _ (by rw [show ol _ none = [] from rfl,List.append_nil]; exact f))))
 | some a=>exact am (.cmp (.loc g) .lit ⟨rfl⟩) (ay rfl (i6 h (.sub (.loc g) .lit ⟨rfl⟩) f l fun υ f=>ab (q _ f)))
theorem sX (h : Gv ρ 4 (.ref p)) (g : Gv ρ 28 (avPo o)) (f : Fd σ p xs τ) (l : xs.length + 2 ≤ 4000) (q : ∀ υ,Fd σ p (xs ++ ol partP o) υ -> vSs (d + 1) ss ρ υ F) :
  vSs (d + 1) (.ifs (.and [(.cmp .isNot (.loc 28) (.lit .none)),(.cmp .ne (.sub (.loc 28) (.lit (.int 1))) (.tup []))]) [(.expr (.mcall (.loc 4) 18 [(.sub (.loc 28) (.lit (.int 0)))])),(.expr (.mcall (.loc 4) 49 [(.call (.glo (.fn 8)) [(.loc 28)])]))] [] :: ss) ρ τ F:=by
 cases o with
 | none=>exact am (.and (.c (.cmp (.loc g) .lit ⟨rfl⟩) (ai rfl rfl))) (ai rfl (ab (q _ (by rw [show ol partP none = [] from rfl,List.append_nil]; exact f))))
 | some a =>
  refine mU (o9 a τ) fun r uw uw c1 e1=>?_
  refine am (r:=!r) (.and (.c (.cmp (.loc g) .lit ⟨rfl⟩) (ay rfl (.c (.cmp (.sub (.loc g) .lit ⟨rfl⟩) (.tup .nil) c1) (by cases r with | true=>exact .f rfl | false=>exact .t .nil))))) ?_
  cases r with
  | true=>exact .f (ab (q _ (by rw [show ol partP (some a) = [] from e1,List.append_nil]; exact f)))
  | false =>
   refine .t (i6 h (.sub (.loc g) .lit ⟨rfl⟩) f (Nat.le_of_succ_le l) fun υ f=>mD h (.loc g) f (by rw [List.length_append,List.length_singleton]; exact l) fun υ f=>ab (q _ ?_))
   rw [show ol partP (some a) = [locP a] ++ idx a from e1,<- List.append_assoc]
   exact f
theorem Bl.sp {s : List Int} (l : (s.map AV.int).length ≤ 4000) : Bl .sorted [.pset s] σ (.ref σ.length) (σ ++ [.list (s.map .int)]):=⟨if_pos l⟩
end
section
variable {d pb b i m : Nat} {σ : Hp} {B : List Blk} {l : Ln} {Q : AV -> Hp -> Prop} (h : At σ pb B) (hl : lineAt B b i = some l) (hg : GoodL m l)
include h hl hg
theorem su (k : ∀ p τ xs,Ext σ τ -> Hc τ p (.list (xs.map .int)) -> smallI xs = true -> (∀ x,x ∈ xs ↔ x ∈ zz (usesL l)) -> Q (.ref p) τ) : vF (d + 3) 21 [.ref pb,spotA (b,i)] σ Q:=by
 refine ae ?_
 have x0 : Ext σ (σ ++ [.list []]):=Ext.refl.app _
 have at' : ∀ {xs υ},Fd (σ ++ [.list []]) σ.length xs υ -> At υ pb B:=fun f=>h.ext (f.ext x0 (Nat.le_refl _))
 have f0 : Fd (σ ++ [.list []]) σ.length [] (σ ++ [.list []]):=⟨.a0,fun uw e=>e⟩
 have lf:=nS l
 have li : ∀ o,(ol idx o).length ≤ 1:=fun o=>by cases o with | none=>exact Nat.zero_le _ | some a=>exact nN a
 have ll : (ol (fun a=>[locP a]) (lookL l)).length ≤ 1:=by cases lookL l <;> exact Nat.le_of_ble_eq_true rfl
 have lp : (ol partP (writL l)).length ≤ 2:=by cases writL l with | none=>exact Nat.zero_le _ | some a=>cases a <;> exact Nat.le_of_ble_eq_true rfl
 have l1:=li (lookL l)
 have l2:=li (dropL l)
 refine an (ak .nil (le4 rfl) ?_)
 refine aW (aI (Evs.cons (Ev.loc ⟨rfl⟩) (Evs.cons (Ev.loc ⟨rfl⟩) Evs.nil)) (tB (h.ext x0) hl fun q τ x g c=>rM (xs:=[]) c (Nat.ne_of_gt (Nat.lt_of_lt_of_le (Nat.lt_succ_self _) (by rw [List.length_append] at g; exact g))) (f0.up x) (by have:=kb l; rw [List.length_nil]; lia) fun e' υ f=>.next ?_))
 refine aW (aD (af (aI (Evs.cons (Ev.loc ⟨rfl⟩) (Evs.cons (Ev.loc ⟨rfl⟩) Evs.nil)) (o3 (at' f) hl (af (aI (Evs.cons (Ev.loc ⟨rfl⟩) (Evs.cons (Ev.loc ⟨rfl⟩) Evs.nil)) (nY (at' f) hl (ad ⟨3,aX rfl ?_⟩))))))))
 refine qy (by exact ⟨rfl⟩) gv_set f (by show (flatD l).length + 1 ≤ 4000; lia) fun υ1 f1=>aJ (aX rfl ?_)
 refine qy (ao rfl (ao rfl ⟨rfl⟩)) gv_set f1 (by rw [List.length_append]; show (flatD l).length + _ + 1 ≤ 4000; lia) fun υ2 f2=>aJ (bI rfl (.next ?_))
 refine cO (aD (af (aI (Evs.cons (Ev.loc ⟨rfl⟩) (Evs.cons (Ev.loc ⟨rfl⟩) Evs.nil)) (o3 (at' f2) hl (af (aI (Evs.cons (Ev.loc ⟨rfl⟩) (Evs.cons (Ev.loc ⟨rfl⟩) Evs.nil)) (nZ (at' f2) hl (ad ⟨_,rfl,rfl,?_⟩))))))))
 refine sY (by exact ⟨rfl⟩) (ao rfl gv_set) f2 (by rw [List.length_append,List.length_append]; show (flatD l).length + _ + _ + 1 ≤ 4000; lia) fun υ3 f3=>?_
 refine sX (by exact ⟨rfl⟩) gv_set f3 (by rw [List.length_append,List.length_append,List.length_append]; show (flatD l).length + _ + _ + _ + 2 ≤ 4000; lia) fun υ4 f4=>?_
 have fin : ∀ υ,Fd (σ ++ [.list []]) σ.length (all21 l) υ -> vSs (d + 2) [.ret (.call (.glo (.blt .sorted)) [(.call (.glo (.blt .set)) [(.loc 4)])])] (setVars [62,28] [avPo (lookL l),avPo (writL l)] (setVar 21 (avPo (dropL l)) (setVar 21 (avPo (lookL l)) ((0,AV.ref pb) :: (3,spotA (b,i)) :: (4,AV.ref σ.length) :: e')))) υ (Rt Q):=fun υ f=>by
  have sm : Sml (all21 l):=fun x m=>jL hg x ((qD hg x).mp m)
  refine ac (bM (af (aR (Evs.cons (Ev.loc ⟨rfl⟩) Evs.nil) (.st f.c (qo sm)) (ad ⟨_,_,.sp ?_,⟨k _ _ _ ((f.ext x0 (Nat.le_refl _)).app _) .a0 (u5 (mr sm)) fun x=>(mem_sortI _ _).trans (mem_zz.trans (Iff.trans ?_ mem_zz.symm))⟩⟩))))
  ·rw [List.length_map]
   refine Nat.le_trans (kM _) ?_
   rw [zz,List.length_map,all21]
   simp only [List.length_append]
   cases retL l <;> simp only [List.length_cons,List.length_nil] <;> lia
  ·exact exists_congr fun n=>and_congr_left fun uw=>qD hg n
 refine cw (aI (Evs.cons (Ev.loc ⟨rfl⟩) (Evs.cons (Ev.loc ⟨rfl⟩) Evs.nil)) (sr (at' f4) hl ⟨_,rfl,?_⟩))
 have e4 : all21 l = flatD l ++ ol idx (lookL l) ++ ol idx (dropL l) ++ ol (fun a=>[locP a]) (lookL l) ++ ol partP (writL l) ++ (match retL l with | true=>[0] | false=>[]):=rfl
 cases hr : retL l with
 | true=>exact .t (i6 (by exact ⟨rfl⟩) .lit f4 (by simp only [List.length_append,List.length_nil]; simp only [flatD] at lf; lia) fun υ f=>ab (fin υ (by rw [e4,hr]; exact f)))
 | false=>exact .f (ab (fin υ4 (by rw [e4,hr]; show Fd _ _ (_ ++ []) _; rw [List.append_nil]; exact f4)))
end
theorem Bl.rng {a b c : Int} {σ : Hp} (ok : rngOk a b c = true) : Bl .range [.int a,.int b,.int c] σ (.rng a b c) σ:=⟨if_pos ok⟩
theorem Bl.rng1 {n : Nat} {σ : Hp} (ok : n ≤ 4000) : Bl .range [.int n] σ (.rng 0 n 1) σ:=⟨if_pos (by unfold rngOk; rw [Bool.and_eq_true,Bool.and_eq_true,decide_eq_true_eq,decide_eq_true_eq]; exact ⟨⟨Nat.zero_le _,ok⟩,rfl⟩)⟩
noncomputable def stepF (u : Ln -> List Nat) (l : Ln) (s : List Int) : List Int:=sortI (s.filter (fun x=>!decide (x ∈ zz (setsL l))) ++ zz (u l))
theorem bF (u : Ln -> List Nat) (l : Ln) (s : List Int) (x : Int) : x ∈ stepF u l s ↔ (x ∈ s /\ x ∉ zz (setsL l)) \/ x ∈ zz (u l):=by
 unfold stepF
 rw [mem_sortI,List.mem_append,List.mem_filter,Bool.not_eq_true',decide_eq_false_iff_not]
theorem jQ (u : Ln -> List Nat) (l : Ln) (s xs : List Int) (h : ∀ x,x ∈ xs ↔ x ∈ zz (u l)) : sortI (s.filter (fun x=>!(sortI (zz (setsL l))).contains x) ++ sortI xs) = stepF u l s:=kN fun x=>by
 rw [List.mem_append,List.mem_append,mem_sortI,h,List.mem_filter,List.mem_filter,Bool.not_eq_true',Bool.not_eq_true',decide_eq_false_iff_not,<- Bool.not_eq_true,List.contains_iff_mem,mem_sortI]
theorem iM {m : Nat} {l : Ln} (h : GoodL m l) : Sml (dropsL l):=by
 rcases l with _ | (_ | ⟨a,g⟩ | _ | _ | _)
 case t.drop=>exact fun x m=>by rw [List.mem_singleton.mp m]; exact nw h.1
 all_goals exact fun x m=>nomatch m
theorem oh (l : Ln) : (match dropL l with | none=>[] | some a=>[AV.int (locP a)]) = nums (dropsL l):=by rcases l with _ | (_ | _ | _ | _ | _) <;> rfl
section
variable {d pb ps b i m : Nat} {σ : Hp} {B : List Blk} {l : Ln} {s : List Int} {Q : AV -> Hp -> Prop} (h : At σ pb B) (hl : lineAt B b i = some l) (hg : GoodL m l) (hs : ∀ τ,Ext σ τ -> Ga τ (.ref ps) 0 (.ref pb))
include h hl hg hs
theorem q9 (k : ∀ τ,Ext σ τ -> Q (.fset (stepF usesL l s)) τ) : vF (d + 4) 601 [.ref ps,.fset s,.int b,.int i] σ Q:=by
 have g0:=hs σ .refl
 refine ae ?_
 refine au (Ev.tup (Evs.cons (Ev.loc ⟨rfl⟩) (Evs.cons (Ev.loc ⟨rfl⟩) Evs.nil))) ?_
 refine ac (b9 (b9 (ar (Ev.loc ⟨rfl⟩) (bM (af (aI (Evs.cons (Ev.attr (Ev.loc ⟨rfl⟩) g0) (Evs.cons (Ev.loc ⟨rfl⟩) Evs.nil)) (nX h hl fun p τ x uw c=>ad ⟨_,_,.fs c (qo (jU hg)),_,_,⟨rfl⟩,?_⟩)))))))
 have g1:=hs τ x
 refine bM (af (aI (Evs.cons (Ev.attr (Ev.loc ⟨rfl⟩) g1) (Evs.cons (Ev.loc ⟨rfl⟩) Evs.nil)) (su (h.ext x) hl hg fun p2 υ xs x2 c2 sm e=>ad ⟨_,_,.fs c2 (tM sm),_,_,⟨rfl⟩,⟨?_⟩⟩)))
 rw [<- jQ usesL l s xs e] at k
 exact k υ (x.trans x2)
theorem q8 (k : ∀ τ,Ext σ τ -> Q (.fset (stepF dropsL l s)) τ) : vF (d + 4) 602 [.ref ps,.fset s,.int b,.int i] σ Q:=by
 have g0:=hs σ .refl
 refine ae ?_
 refine au (Ev.tup (Evs.cons (Ev.loc ⟨rfl⟩) (Evs.cons (Ev.loc ⟨rfl⟩) Evs.nil))) ?_
 refine ac (b9 (b9 (ar (Ev.loc ⟨rfl⟩) (bM (af (aI (Evs.cons (Ev.attr (Ev.loc ⟨rfl⟩) g0) (Evs.cons (Ev.loc ⟨rfl⟩) Evs.nil)) (nX h hl fun p τ x uw c=>ad ⟨_,_,.fs c (qo (jU hg)),_,_,⟨rfl⟩,?_⟩)))))))
 have g1:=hs τ x
 refine bM (af (aI (Evs.cons (Ev.attr (Ev.loc ⟨rfl⟩) g1) (Evs.cons (Ev.loc ⟨rfl⟩) Evs.nil)) (sq (h.ext x) hl (ad ⟨_,_,.fs .a0 (oh l ▸ qo (iM hg)),_,_,⟨rfl⟩,⟨?_⟩⟩))))
 rw [<- jQ dropsL l s _ fun uw=>Iff.rfl] at k
 exact k _ (x.trans (Ext.refl.app _))
end
noncomputable def goesT : Tm -> List Nat
 | .ret=>[]
 | .drop _ g=>[g]
 | .call _ _ g=>[g]
 | .asrt _ g=>[g]
 | .sw _ g h=>[g,h]
noncomputable def dd2 (l : List Nat) : List Nat:=match l with
 | [g,h]=>if g = h then [g] else [g,h]
 | l=>l
noncomputable def succT (t : Tm) : List Nat:=dd2 (goesT t)
theorem cM (t : Tm) (x : Nat) : x ∈ succT t ↔ x ∈ goesT t:=by
 cases t with
 | sw o g h =>
  show x ∈ (if g = h then [g] else [g,h]) ↔ _
  split
  ·rename_i e; subst e; exact ⟨fun m=>List.mem_cons.mpr (.inl (List.mem_singleton.mp m)),fun m=>List.mem_singleton.mpr ((List.mem_cons.mp m).elim id List.mem_singleton.mp)⟩
  ·exact Iff.rfl
 | _=>exact Iff.rfl
theorem oX (t : Tm) : (succT t).Nodup:=by
 cases t with
 | sw o g h =>
  show (if g = h then [g] else [g,h]).Nodup
  split
  ·exact List.nodup_cons.mpr ⟨(fun m=>nomatch m),.nil⟩
  ·rename_i e; exact List.nodup_cons.mpr ⟨fun m=>e (List.mem_singleton.mp m),List.nodup_cons.mpr ⟨(fun m=>nomatch m),.nil⟩⟩
 | ret=>exact .nil
 | _=>exact List.nodup_cons.mpr ⟨(fun m=>nomatch m),.nil⟩
theorem m5 (t : Tm) : (succT t).length ≤ 2:=by
 cases t with
 | sw o g h =>
  show (if g = h then [g] else [g,h]).length ≤ 2
  split <;> exact Nat.le_of_ble_eq_true rfl
 | _=>exact Nat.le_of_ble_eq_true rfl
theorem Bi.addL {σ : Hp} {p q : Nat} {xs ys : List AV} (a : Hc σ p (.list xs)) (b : Hc σ q (.list ys)) (l : (xs ++ ys).length ≤ 4000) : Bi .add (.ref p) (.ref q) σ (.ref σ.length) (σ ++ [.list (xs ++ ys)]):=⟨by
 show (lstAt σ p).bind (fun xs=>(lstAt σ q).bind fun ys=>mkList σ (xs ++ ys)) = _
 rw [a.lst,b.lst]; exact if_pos l⟩
structure Kp (S : List Nat) (σ τ : Hp) : Prop where of :: hc : ∀ {q : Nat} {o : AO},q ∉ S -> Hc σ q o -> Hc τ q o
section
variable {S T : List Nat} {σ τ υ : Hp} {p : Nat} {o : AO}
theorem Kp.refl : Kp S σ σ:=⟨fun uw h=>h⟩
theorem Kp.trans (a : Kp S σ τ) (b : Kp S τ υ) : Kp S σ υ:=⟨fun n h=>b.hc n (a.hc n h)⟩
theorem Kp.up (a : Kp S σ τ) (b : Ext τ υ) : Kp S σ υ:=⟨fun n h=>b.hc (a.hc n h)⟩
theorem Kp.set (a : Kp S σ τ) (m : p ∈ S) : Kp S σ (τ.set p o):=⟨fun n h=>(a.hc n h).ne fun e=>n (e ▸ m)⟩
theorem Kp.ext (a : Kp S σ τ) (h : ∀ q ∈ S,σ.length ≤ q) : Ext σ τ:=⟨fun g=>a.hc (fun m=>Nat.not_lt.mpr (h _ m) g.lt) g⟩
theorem Ext.kp (a : Ext σ τ) : Kp S σ τ:=⟨fun uw h=>a.hc h⟩
theorem Kp.mono (a : Kp S σ τ) (h : ∀ q ∈ S,q ∈ T) : Kp T σ τ:=⟨fun n g=>a.hc (fun m=>n (h _ m)) g⟩
theorem Ext.pre {l : Hp} (h : Ext (σ ++ l) τ) : Ext σ τ:=⟨fun g=>h.hc g.keep⟩
theorem Kp.pre {l : Hp} (h : Kp S (σ ++ l) τ) : Kp S σ τ:=⟨fun n g=>h.hc n g.keep⟩
end
noncomputable def behF (fs : List (List Int)) (gs : List Nat) : List Int:=gs.foldl (fun h g=>sortI (h ++ (fs[g]?).getD [])) []
noncomputable def backF (u : Ln -> List Nat) (ls : List Ln) (s : List Int) : List Int:=ls.foldr (stepF u) s
theorem lO (fs : List (List Int)) (l : List Nat) (g : Nat) : behF fs (l ++ [g]) = sortI (behF fs l ++ (fs[g]?).getD []):=by unfold behF; rw [List.foldl_append]; rfl
structure aA (B : List Blk) : Prop where
 lo : 1 ≤ B.length
 hi : B.length ≤ 3
 bk : ∀ (b : Nat) (ss : List St) (t : Tm),B[b]? = some (ss,t) -> ss.length ≤ 2 /\ (∀ s ∈ ss,GoodS s) /\ GoodT B.length t
theorem eB {m : Nat} {t : Tm} (h : GoodT m t) : ∀ g ∈ goesT t,g < m:=by
 cases t with
 | ret=>exact fun g m=>nomatch m
 | drop a g=>exact fun x m=>List.mem_singleton.mp m ▸ h.2.2
 | call o a g=>exact fun x m=>List.mem_singleton.mp m ▸ h.2.2
 | asrt o g=>exact fun x m=>List.mem_singleton.mp m ▸ h.2
 | sw o g k=>exact fun x m=>(List.mem_cons.mp m).elim (fun e=>e ▸ h.2.1) fun m=>List.mem_singleton.mp m ▸ h.2.2
theorem dp {B : List Blk} {b : Nat} {ss : List St} {t : Tm} (hb : B[b]? = some (ss,t)) : linesB B b = ss.map .s ++ [.t t]:=by unfold linesB; rw [hb]
theorem c7 {B : List Blk} {b : Nat} {ss : List St} {t : Tm} (hb : B[b]? = some (ss,t)) : (linesB B b).length = ss.length + 1:=by rw [dp hb,List.length_append,List.length_map]; rfl
theorem ua {a b : Int} {i ep : Nat} {σ : Hp} (lt : b < a - i) : nextOf σ (.rng a b (-1)) i ep = some (some (.int (a - i))):=by
 show some (if b < a - i then some (AV.int (a - i)) else none) = _
 rw [if_pos lt]
theorem td {a b : Int} {i ep : Nat} {σ : Hp} (h : ¬ b < a - i) : nextOf σ (.rng a b (-1)) i ep = some none:=by
 show some (if b < a - i then some (AV.int (a - i)) else none) = _
 rw [if_neg h]
theorem kh {l : List Nat} {j : Nat} {σ : Hp} {p : Nat} (h : Hc σ p (.list (nums l))) (hj : j < l.length) : nextOf σ (.ref p) j 0 = some (some (.int l[j])):=by
 rw [dM h,nums,List.getElem?_map,List.getElem?_eq_getElem hj]; rfl
theorem iu {l : List Nat} {σ : Hp} {p : Nat} (h : Hc σ p (.list (nums l))) : nextOf σ (.ref p) l.length 0 = some none:=by
 rw [dM h,nums,List.getElem?_map,List.getElem?_eq_none (Nat.le_refl _)]; rfl
theorem all_nums : ∀ l : List Nat,allO kyA (nums l) = some (l.map fun (n : Nat)=>Ky.int (n : Int))
 | []=>rfl
 | n :: l=>by
  show (allO kyA (nums l)).map (Ky.int (n : Int) :: ·) = _
  rw [all_nums l]; rfl
theorem dm (c : Nat) (l : List Nat) : memA (.int c) (nums l) = some (decide (c ∈ l)):=by
 show (allO kyA (nums l)).bind (fun js=>if js.all (fun j=>kdK j == kdK (.int c)) then some (js.contains (.int c)) else none) = _
 rw [all_nums]
 show (if (l.map fun (n : Nat)=>Ky.int (n : Int)).all (fun j=>kdK j == kdK (.int c)) then some ((l.map fun (n : Nat)=>Ky.int (n : Int)).contains (.int c)) else none) = _
 rw [if_pos (by rw [List.all_map]; exact List.all_eq_true.mpr fun uw uw=>rfl)]
 congr 1
 rw [Bool.eq_iff_iff,List.contains_iff_mem,decide_eq_true_eq,List.mem_map]
 exact ⟨fun ⟨n,m,e⟩=>by injection e with e; exact Int.ofNat.inj e ▸ m,fun m=>⟨c,m,rfl⟩⟩
section
variable {d : Nat} {σ σ1 : Hp} {Q : AV -> Hp -> Prop}
theorem mz {ρ : Env} {τ : Hp} {p g : Nat} {xs : List Nat} {F : Fl -> Env -> Hp -> Prop} (h1 : Gv ρ 1 (.int g)) (h4 : Gv ρ 4 (.ref p)) (c : Hc τ p (.list (nums xs))) (l : xs.length + 1 ≤ 4000) (k1 : g ∈ xs -> F .next ρ τ) (k2 : g ∉ xs -> F .next ρ (τ.set p (.list (nums (xs ++ [g]))))) :
  vSs d [(.ifs (.and [(.cmp .isNot (.loc 1) (.lit .none)),(.cmp .notIn (.loc 1) (.loc 4))]) [(.expr (.mcall (.loc 4) 18 [(.loc 1)]))] [])] ρ τ F:=by
 refine am (r:=!decide (g ∈ xs)) (.and (.c (.cmp (.loc h1) .lit ⟨rfl⟩) (ay rfl (.c (.cmp (.loc h1) (.loc h4) (.nl c (dm g xs))) ?_)))) ?_
 ·cases decide (g ∈ xs) with
  | true=>exact .f rfl
  | false=>exact .t .nil
 ·by_cases m : g ∈ xs
  ·exact ai (by rw [decide_eq_true m]; rfl) (ab (fO (k1 m)))
  ·refine ay (by rw [decide_eq_false m]; rfl) (eR (.loc h4) (.loc h1) c (bA (b:=[g]) l) (ab (fO ?_)))
   have k2:=k2 m
   rw [bg] at k2
   exact k2
theorem dA {t : Tm} {q : Nat} {v9 v12 : AV} (x : Ext σ σ1) (c : Hc σ1 q (.list (nums (goesT t)))) (k : RetL σ (nums (succT t)) Q) :
  vSs d [(.asg 4 (.lst [])),(.for1 1 (.loc 13) [(.ifs (.and [(.cmp .isNot (.loc 1) (.lit .none)),(.cmp .notIn (.loc 1) (.loc 4))]) [(.expr (.mcall (.loc 4) 18 [(.loc 1)]))] [])]),(.ret (.loc 4))] [(9,v9),(12,v12),(13,.ref q)] σ1 (Rt Q):=by
 refine an (ak .nil (le4 rfl) (aW (ar (Ev.loc ⟨rfl⟩) ?_)))
 rw [gQ c.keep]
 have gs : σ.length ≤ σ1.length:=by
  rcases Nat.lt_or_ge σ1.length σ.length with h | h
  ·exact absurd (x.hc (p:=σ1.length) ⟨List.getElem?_eq_getElem h⟩).lt (Nat.lt_irrefl _)
  ·exact h
 have n : q ≠ σ1.length:=Nat.ne_of_lt c.lt
 have fin : ∀ {e ρ τ},ρ = (9,v9) :: (12,v12) :: (13,AV.ref q) :: (4,AV.ref σ1.length) :: e -> Fd (σ1 ++ [.list []]) σ1.length (succT t) τ -> KK d [.ret (.loc 4)] (Rt Q) .next ρ τ:=fun e f=>by
  rw [e]
  exact .next (ax (Ev.loc ⟨rfl⟩) ⟨k _ _ (f.ext (x.app _) gs) gs f.c⟩)
 have f0 : Fd (σ1 ++ [.list []]) σ1.length [] (σ1 ++ [.list []]):=⟨.a0,fun uw e=>e⟩
 revert c fin
 have le : (goesT t).length ≤ 2:=by cases t <;> exact Nat.le_of_ble_eq_true rfl
 revert le
 unfold succT
 generalize goesT t = l
 intro le c fin
 have nx : ∀ {xs τ i u},Fd (σ1 ++ [.list []]) σ1.length xs τ -> (nums l)[i]? = u -> nextOf τ (.ref q) i 0 = some u:=fun f e=>by rw [dM (f.k n c.keep),e]
 rcases l with _ | ⟨g,_ | ⟨g2,_ | ⟨g3,r⟩⟩⟩
 ·exact ⟨1,bI (nx f0 rfl) (fin rfl f0)⟩
 ·refine ⟨2,aX (nx f0 rfl) (mz gv_set ⟨rfl⟩ f0.c (le4 rfl) (fun m=>nomatch m) fun uw=>.next (bI (nx (f0.put rfl) rfl) (fin rfl (f0.put rfl))))⟩
 ·have f1 : Fd (σ1 ++ [.list []]) σ1.length [g] ((σ1 ++ [AO.list []]).set σ1.length (AO.list (nums ([] ++ [g])))):=f0.put rfl
  refine ⟨3,aX (nx f0 rfl) (mz gv_set ⟨rfl⟩ f0.c (le4 rfl) (fun m=>nomatch m) fun uw=>.next (aX (nx f1 rfl) (mz gv_set ⟨rfl⟩ f1.c (le4 rfl) (fun m=>.next (bI (nx f1 rfl) (fin rfl ?_))) fun m=>.next (bI (nx (f1.put rfl) rfl) (fin rfl (f1.put ?_))))))⟩
  ·rw [show dd2 [g,g2] = [g] from if_pos (List.mem_singleton.mp m).symm]; exact f1
  ·rw [show dd2 [g,g2] = [g,g2] from if_neg fun e=>m (List.mem_singleton.mpr e.symm)]; rfl
 ·exact absurd le (by simp only [List.length_cons]; lia)
theorem qM {t : Tm} (k : RetL σ (nums (succT t)) Q) : vF (d + 1) 4 [avT t] σ Q:=by
 refine ae ?_
 cases t with
 | ret =>
  refine au (Ev.sub (Ev.loc ⟨rfl⟩) Ev.lit ⟨rfl⟩) ?_
  refine am (Ev.cmp (Ev.loc ⟨rfl⟩) Ev.lit ⟨rfl⟩) (ai rfl ?_)
  refine am (Ev.cmp (Ev.loc ⟨rfl⟩) Ev.lit ⟨rfl⟩) (ai rfl ?_)
  refine am (Ev.cmp (Ev.loc ⟨rfl⟩) Ev.lit ⟨rfl⟩) (ai rfl ?_)
  refine am (Ev.cmp (Ev.loc ⟨rfl⟩) Ev.lit ⟨rfl⟩) (ai rfl ?_)
  refine am (Ev.cmp (Ev.loc ⟨rfl⟩) Ev.lit ⟨rfl⟩) (ai rfl ?_)
  exact an (ak .nil (le4 rfl) (ab (ab (ab (ab (ab (dA (t:=.ret) (Ext.refl.app _) .a0 k)))))))
 | drop a g =>
  refine au (Ev.sub (Ev.loc ⟨rfl⟩) Ev.lit ⟨rfl⟩) ?_
  refine am (Ev.cmp (Ev.loc ⟨rfl⟩) Ev.lit ⟨rfl⟩) (ai rfl ?_)
  refine am (Ev.cmp (Ev.loc ⟨rfl⟩) Ev.lit ⟨rfl⟩) (ai rfl ?_)
  refine am (Ev.cmp (Ev.loc ⟨rfl⟩) Ev.lit ⟨rfl⟩) (ai rfl ?_)
  refine am (Ev.cmp (Ev.loc ⟨rfl⟩) Ev.lit ⟨rfl⟩) (ay rfl ?_)
  exact an (ak (Evs.cons (Ev.sub (Ev.loc ⟨rfl⟩) Ev.lit ⟨rfl⟩) Evs.nil) (le4 rfl) (ab (ab (ab (ab (dA (t:=.drop a g) (Ext.refl.app _) .a0 k))))))
 | call o a g =>
  refine au (Ev.sub (Ev.loc ⟨rfl⟩) Ev.lit ⟨rfl⟩) ?_
  refine am (Ev.cmp (Ev.loc ⟨rfl⟩) Ev.lit ⟨rfl⟩) (ai rfl ?_)
  refine am (Ev.cmp (Ev.loc ⟨rfl⟩) Ev.lit ⟨rfl⟩) (ai rfl ?_)
  refine am (Ev.cmp (Ev.loc ⟨rfl⟩) Ev.lit ⟨rfl⟩) (ay rfl ?_)
  exact an (ak (Evs.cons (Ev.sub (Ev.loc ⟨rfl⟩) Ev.lit ⟨rfl⟩) Evs.nil) (le4 rfl) (ab (ab (ab (dA (t:=.call o a g) (Ext.refl.app _) .a0 k)))))
 | asrt o g =>
  refine au (Ev.sub (Ev.loc ⟨rfl⟩) Ev.lit ⟨rfl⟩) ?_
  refine am (Ev.cmp (Ev.loc ⟨rfl⟩) Ev.lit ⟨rfl⟩) (ai rfl ?_)
  refine am (Ev.cmp (Ev.loc ⟨rfl⟩) Ev.lit ⟨rfl⟩) (ai rfl ?_)
  refine am (Ev.cmp (Ev.loc ⟨rfl⟩) Ev.lit ⟨rfl⟩) (ai rfl ?_)
  refine am (Ev.cmp (Ev.loc ⟨rfl⟩) Ev.lit ⟨rfl⟩) (ai rfl ?_)
  refine am (Ev.cmp (Ev.loc ⟨rfl⟩) Ev.lit ⟨rfl⟩) (ay rfl ?_)
  exact an (ak (Evs.cons (Ev.sub (Ev.loc ⟨rfl⟩) Ev.lit ⟨rfl⟩) Evs.nil) (le4 rfl) (ab (ab (ab (ab (ab (dA (t:=.asrt o g) (Ext.refl.app _) .a0 k)))))))
 | sw o g h =>
  refine au (Ev.sub (Ev.loc ⟨rfl⟩) Ev.lit ⟨rfl⟩) ?_
  refine am (Ev.cmp (Ev.loc ⟨rfl⟩) Ev.lit ⟨rfl⟩) (ai rfl ?_)
  refine am (Ev.cmp (Ev.loc ⟨rfl⟩) Ev.lit ⟨rfl⟩) (ay rfl ?_)
  refine an (b9 (aT (ar (Ev.sub (Ev.loc ⟨rfl⟩) Ev.lit ⟨rfl⟩) ⟨2,cG rfl rfl (t_n (.t (ar (Ev.loc ⟨rfl⟩) ⟨_,.a0,Nat.zero_lt_succ _,cz rfl ?_⟩)))⟩)))
  have c1 : Hc ((σ ++ [AO.list []]).set σ.length (AO.list ([] ++ [AV.int g]))) σ.length (.list [.int g]):=Hc.a0.same
  have x1 : Ext σ ((σ ++ [AO.list []]).set σ.length (AO.list ([] ++ [AV.int g]))):=(Ext.refl.app _).set (Nat.le_refl _)
  refine ak (Evs.cons (Ev.sub (Ev.loc ⟨rfl⟩) Ev.lit ⟨rfl⟩) Evs.nil) (le4 rfl) ⟨_,_,.addL c1.keep .a0 (le4 rfl),ab (ab ?_)⟩
  exact dA (t:=.sw o g h) ((x1.app _).app _) .a0 k
end
section
variable {d pb pf ps b i kk : Nat} {σ : Hp} {B : List Blk} {ss : List St} {t : Tm} {fs : List (List Int)} {s : List Int} {u : Ln -> List Nat} {Q : AV -> Hp -> Prop}
theorem gJ {g : Nat} (h : g < fs.length) : (fs[g]?).getD [] = fs[g]:=by rw [List.getElem?_eq_getElem h]; rfl
theorem o8 (h : At σ pb B) (hB : aA B) (hb : B[b]? = some (ss,t)) (hf : Hc σ pf (.list (fs.map .fset))) (hn : fs.length = B.length) (k : ∀ τ,Ext σ τ -> Q (.fset (behF fs (succT t))) τ) : vF (d + 2) 11 [.ref pb,.ref pf,.int b,.fset [],.fn 10] σ Q:=by
 refine h.bk hb fun pk bs lb ll a1 a2 a3 a4 uw uw uw=>ae ?_
 refine au (Ev.loc ⟨rfl⟩) ?_
 refine aW (aI (Evs.cons (Ev.sub (Ev.sub (Ev.attr (Ev.loc ⟨rfl⟩) a1) (Ev.loc ⟨rfl⟩) (Su.l a2 (Nx.nat a3))) Ev.lit (Su.l a4 ⟨rfl⟩)) Evs.nil) (qM fun p χ x uw c=>?_))
 rw [gQ c]
 refine dF (fun j ρ υ=>(∃ e,ρ = (0,AV.ref pb) :: (14,AV.ref pf) :: (1,AV.int b) :: (26,AV.fset []) :: (34,AV.fn 10) :: (27,AV.fset (behF fs ((succT t).take j))) :: e) /\ υ = χ) (succT t).length ⟨⟨[],rfl⟩,rfl⟩ ?_ fun ρ υ ⟨⟨e,i1⟩,i2⟩=>by
  subst i1; subst i2
  exact ⟨iu c,.next (ax (Ev.loc ⟨rfl⟩) ⟨by rw [List.take_length]; exact k _ x⟩)⟩
 intro j ρ υ hj ⟨⟨e,i1⟩,i2⟩
 subst i1; subst i2
 refine ⟨_,kh c hj,?_⟩
 have hg : (succT t)[j] < fs.length:=hn ▸ eB (hB.bk b ss t hb).2.2 _ ((cM t _).mp (List.getElem_mem hj))
 have cf:=x.hc hf
 have nt : Nt (fs.map .fset) (succT t)[j] (.fset fs[(succT t)[j]]):=⟨by rw [List.getElem?_map,List.getElem?_eq_getElem hg]; rfl⟩
 refine an (tT (Ev.loc ⟨rfl⟩) (cy (.cons (Ev.loc ⟨rfl⟩) (.cons (.sub (Ev.loc ⟨rfl⟩) (.loc gv_set) (.l cf (.nat nt))) .nil)) (sy (aJ ⟨⟨setVar 74 (.int ((succT t)[j] : Nat)) e,?_⟩,rfl⟩))))
 rw [List.take_add_one,List.getElem?_eq_getElem hj]
 refine Eq.trans ?_ (congrArg (fun z=>(0,AV.ref pb) :: (14,AV.ref pf) :: (1,AV.int b) :: (26,AV.fset []) :: (34,AV.fn 10) :: (27,AV.fset z) :: _) (lO fs _ _).symm)
 rw [gJ hg]
 exact rfl
theorem o7 (h : At σ pb B) (hB : aA B) (hb : B[b]? = some (ss,t)) (hi : i ≤ ss.length) (hs : ∀ σ' s i l Q,Ext σ σ' -> lineAt B b i = some l -> (∀ τ,Ext σ' τ -> Q (.fset (stepF u l s)) τ) -> vF d kk [.ref ps,.fset s,.int b,.int i] σ' Q)
  (k : ∀ τ,Ext σ τ -> Q (.fset (backF u ((linesB B b).drop i) s)) τ) : vF (d + 1) 12 [.ref pb,.fset s,.int b,.int i,.meth (.ref ps) kk] σ Q:=by
 have l2:=(hB.bk b ss t hb).1
 have ln:=c7 hb
 refine h.bk hb fun pk bs lb ll a1 a2 a3 a4 a5 uw uw=>ae ?_
 have ro : rngOk ((ss.map avS).length : Int) ((i : Int) - 1) (-1) = true:=by
  rw [List.length_map]
  unfold rngOk
  rw [Bool.and_eq_true,Bool.and_eq_true,decide_eq_true_eq,decide_eq_true_eq]
  exact ⟨⟨by show _ ≤ 4000; omega,by show _ ≤ 4000; omega⟩,rfl⟩
 refine aW (aR (.cons (Ev.blt (Evs.cons (Ev.sub (Ev.sub (Ev.attr (Ev.loc ⟨rfl⟩) a1) (Ev.loc ⟨rfl⟩) (Su.l a2 (Nx.nat a3))) Ev.lit (Su.l a4 ⟨rfl⟩)) Evs.nil) (Bl.len a5)) (.cons (Ev.bin (Ev.loc ⟨rfl⟩) Ev.lit ⟨rfl⟩) (.cons (Ev.neg Ev.lit) .nil))) (.rng ro) ?_)
 rw [List.length_map]
 refine dF (fun j ρ υ=>(∃ e,ρ = (0,AV.ref pb) :: (14,AV.fset (backF u ((linesB B b).drop (ss.length + 1 - j)) s)) :: (1,AV.int b) :: (6,AV.int i) :: (24,AV.meth (.ref ps) kk) :: e) /\ Ext σ υ) (ss.length + 1 - i) ⟨⟨[],by rw [Nat.sub_zero,<- ln,List.drop_length]; rfl⟩,.refl⟩ ?_ fun ρ υ ⟨⟨e,i1⟩,i2⟩=>by
  subst i1
  refine ⟨td (by omega),.next (ax (Ev.loc ⟨rfl⟩) ⟨?_⟩)⟩
  rw [show ss.length + 1 - (ss.length + 1 - i) = i by omega]
  exact k _ i2
 intro j ρ υ hj ⟨⟨e,i1⟩,i2⟩
 subst i1
 have lt : ss.length - j < (linesB B b).length:=by omega
 have ej : ((ss.length : Int) - (j : Int)) = ((ss.length - j : Nat) : Int):=by omega
 refine ⟨_,ua (by omega),?_⟩
 rw [ej]
 refine an (tR (Ev.loc ⟨rfl⟩) (cy (.cons (Ev.loc ⟨rfl⟩) (.cons (Ev.loc ⟨rfl⟩) (.cons (.loc gv_set) .nil))) (hs υ _ _ _ _ i2 (List.getElem?_eq_getElem lt) fun τ x=>aJ ⟨⟨setVar 21 (.int (ss.length - j : Nat)) e,?_⟩,i2.trans x⟩)))
 rw [show ss.length + 1 - (j + 1) = ss.length - j by omega,List.drop_eq_getElem_cons lt,show ss.length - j + 1 = ss.length + 1 - j by omega]
 exact rfl
theorem o4 (h : At σ pb B) (hB : aA B) (hb : B[b]? = some (ss,t)) (hi : i ≤ ss.length) (hf : Hc σ pf (.list (fs.map .fset))) (hn : fs.length = B.length) (hs : ∀ σ' s i l Q,Ext σ σ' -> lineAt B b i = some l -> (∀ τ,Ext σ' τ -> Q (.fset (stepF u l s)) τ) -> vF (d + 1) kk [.ref ps,.fset s,.int b,.int i] σ' Q)
  (k : ∀ τ,Ext σ τ -> Q (.fset (backF u ((linesB B b).drop i) (behF fs (succT t)))) τ) : vF (d + 3) 14 [.ref pb,.ref pf,spotA (b,i),.fset [],.meth (.ref ps) kk,.fn 10] σ Q:=by
 refine ae ?_
 refine aM (Ev.loc ⟨rfl⟩) rfl rfl ?_
 refine ac (fu (aL (Ev.loc ⟨rfl⟩) (af (aI (Evs.cons (Ev.loc ⟨rfl⟩) (Evs.cons (Ev.loc ⟨rfl⟩) (Evs.cons (Ev.loc ⟨rfl⟩) (Evs.cons (Ev.loc ⟨rfl⟩) (Evs.cons (Ev.loc ⟨rfl⟩) Evs.nil))))) (o8 h hB hb hf hn fun τ x=>cy (Evs.cons (Ev.loc ⟨rfl⟩) (Evs.cons (Ev.loc ⟨rfl⟩) (Evs.cons (Ev.loc ⟨rfl⟩) Evs.nil))) (o7 (h.ext x) hB hb hi (fun σ' s i l Q y=>hs σ' s i l Q (x.trans y)) fun υ y=>⟨k υ (x.trans y)⟩))))))
end
noncomputable def behL (b i : Nat) : Ln -> List (Nat × Nat)
 | .s _=>[(b,i + 1)]
 | .t t=>(goesT t).map fun g=>(g,0)
noncomputable def term (B : List Blk) (b : Nat) : Tm:=((B[b]?).map (·.2)).getD .ret
inductive cx (B : List Blk) (u : Ln -> List Nat) (x : Int) : Nat × Nat -> Prop
 | here {b i l} : lineAt B b i = some l -> x ∈ zz (u l) -> cx B u x (b,i)
 | step {b i l q} : lineAt B b i = some l -> x ∉ zz (setsL l) -> q ∈ behL b i l -> cx B u x q -> cx B u x (b,i)
theorem dn (fs : List (List Int)) (gs : List Nat) (x : Int) : x ∈ behF fs gs ↔ ∃ g,g ∈ gs /\ x ∈ (fs[g]?).getD []:=by
 suffices h : ∀ s : List Int,x ∈ gs.foldl (fun h g=>sortI (h ++ (fs[g]?).getD [])) s ↔ x ∈ s \/ ∃ g,g ∈ gs /\ x ∈ (fs[g]?).getD [] from (h []).trans ⟨fun e=>e.elim (fun m=>nomatch m) id,.inr⟩
 induction gs with
 | nil=>exact fun s=>⟨.inl,fun e=>e.elim id fun ⟨_,m,_⟩=>nomatch m⟩
 | cons g gs ih =>
  intro s
  rw [List.foldl_cons,ih,mem_sortI,List.mem_append]
  constructor
  ·rintro ((h | h) | ⟨g2,m,h⟩)
   ·exact .inl h
   ·exact .inr ⟨g,List.mem_cons_self,h⟩
   ·exact .inr ⟨g2,List.mem_cons_of_mem _ m,h⟩
  ·rintro (h | ⟨g2,m,h⟩)
   ·exact .inl (.inl h)
   ·exact (List.mem_cons.mp m).elim (fun e=>.inl (.inr (e ▸ h))) fun m=>.inr ⟨g2,m,h⟩
theorem gz {B : List Blk} {b : Nat} {ss : List St} {t : Tm} (hb : B[b]? = some (ss,t)) : lineAt B b ss.length = some (.t t):=by
 unfold lineAt; rw [dp hb,List.getElem?_append_right (by rw [List.length_map]; exact Nat.le_refl _),List.length_map,Nat.sub_self]; rfl
theorem pU {B : List Blk} {b i : Nat} {ss : List St} {t : Tm} (hb : B[b]? = some (ss,t)) (hi : i < ss.length) : lineAt B b i = some (.s ss[i]):=by
 unfold lineAt; rw [dp hb,List.getElem?_append_left (by rw [List.length_map]; exact hi),List.getElem?_map,List.getElem?_eq_getElem hi]; rfl
theorem da {B : List Blk} {b : Nat} {ss : List St} {t : Tm} (hb : B[b]? = some (ss,t)) : term B b = t:=by unfold term; rw [hb]; rfl
noncomputable def atF (B : List Blk) (u : Ln -> List Nat) (fs : List (List Int)) (b i : Nat) : List Int:=backF u ((linesB B b).drop i) (behF fs (succT (term B b)))
theorem iR {B : List Blk} {u : Ln -> List Nat} {fs : List (List Int)} {b i : Nat} {l : Ln} (h : lineAt B b i = some l) : atF B u fs b i = stepF u l (atF B u fs b (i + 1)):=by
 have lt : i < (linesB B b).length:=cP h
 unfold atF
 rw [List.drop_eq_getElem_cons lt,(List.getElem?_eq_some_iff.mp h).2]
 rfl
theorem kE {B : List Blk} {u : Ln -> List Nat} {fs : List (List Int)} {b : Nat} {ss : List St} {t : Tm} (hb : B[b]? = some (ss,t)) : atF B u fs b (ss.length + 1) = behF fs (succT t):=by
 rw [atF,List.drop_eq_nil_of_le (by rw [c7 hb]; exact Nat.le_refl _),da hb]; rfl
theorem fP {B : List Blk} {u : Ln -> List Nat} {fs : List (List Int)} {x : Int} (hf : ∀ g,x ∈ (fs[g]?).getD [] -> cx B u x (g,0)) {b : Nat} {ss : List St} {t : Tm} (hb : B[b]? = some (ss,t)) :
  ∀ (k i : Nat),i + k = ss.length -> x ∈ atF B u fs b i -> cx B u x (b,i):=by
 intro k
 induction k with
 | zero =>
  intro i e h
  have e' : i = ss.length:=by lia
  subst e'
  rw [iR (gz hb),bF,kE hb,dn] at h
  rcases h with ⟨⟨g,hg,hx⟩,hn⟩ | h
  ·refine .step (q:=(g,0)) (gz hb) hn ?_ (hf g hx)
   rw [cM] at hg
   exact List.mem_map.mpr ⟨g,hg,rfl⟩
  ·exact .here (gz hb) h
 | succ k ih =>
  intro i e h
  have li:=pU hb (show i < ss.length by lia)
  rw [iR li,bF] at h
  rcases h with ⟨h,hn⟩ | h
  ·exact .step (q:=(b,i + 1)) li hn (by simp [behL]) (ih (i + 1) (by lia) h)
  ·exact .here li h
theorem oL {B : List Blk} {u : Ln -> List Nat} {fs : List (List Int)} {x : Int} (hf : ∀ g,g < B.length -> x ∈ atF B u fs g 0 -> x ∈ (fs[g]?).getD []) (hB : aA B) {p : Nat × Nat} (h : cx B u x p) : x ∈ atF B u fs p.1 p.2:=by
 induction h with
 | here hl hx=>rw [iR hl,bF]; exact .inr hx
 | @step b i l q hl hn hq _ ih =>
  rw [iR hl,bF]
  refine .inl ⟨?_,hn⟩
  revert hq
  refine iz (G:=fun l=>q ∈ behL b i l -> x ∈ atF B u fs b (i + 1)) hl (fun uw uw uw uw uw uw hq=>?_) fun ss t hb e hq=>?_
  ·have:=List.mem_singleton.mp hq; subst this; exact ih
  ·refine aw (List.mem_map.mp hq) fun g hg e2=>?_
   subst e2
   rw [e,kE hb,dn]
   exact ⟨g,(cM _ _).mpr hg,hf g (eB (hB.bk b ss t hb).2.2 g hg) ih⟩
theorem cD {B : List Blk} (hB : aA B) {b i : Nat} {l : Ln} (h : lineAt B b i = some l) : GoodL B.length l :=
 iz (G:=GoodL B.length) h (fun ss t x hb hx uw=>(hB.bk b ss t hb).2.1 x (List.mem_of_getElem? hx)) fun ss t hb uw=>(hB.bk b ss t hb).2.2
noncomputable abbrev Fair (u : Ln -> List Nat) : Prop:=∀ m l,GoodL m l -> Sml (u l)
theorem gn {B : List Blk} {u : Ln -> List Nat} (hu : Fair u) (hB : aA B) {x : Int} {p : Nat × Nat} (h : cx B u x p) : 0 ≤ x /\ x ≤ 6:=by
 induction h with
 | here hl hx =>
  refine aw (mem_zz.mp hx) fun n hn e=>?_
  exact e ▸ ⟨Int.natCast_nonneg n,Int.ofNat_le.mpr (hu _ _ (cD hB hl) n hn)⟩
 | step _ _ _ _ ih=>exact ih
theorem lW (u : Ln -> List Nat) (l : Ln) (s : List Int) : Up (stepF u l s):=cA _
theorem j6 {B : List Blk} {u : Ln -> List Nat} {fs : List (List Int)} {b i : Nat} {l : Ln} (h : lineAt B b i = some l) : Up (atF B u fs b i):=by
 rw [iR h]; exact lW _ _ _
theorem up_len : ∀ (l : List Int) (k : Nat),Up l -> (∀ x ∈ l,(7 - (k : Int)) ≤ x /\ x ≤ 6) -> l.length ≤ k
 | [],k,_,_=>Nat.zero_le _
 | a :: r,k,h,g=>by
  have ga:=g a (by simp)
  have : r.length ≤ k - 1:=up_len r (k - 1) h.2 fun x hx=>by
   have:=h.1 x hx
   have:=(g x (by simp [hx])).2
   lia
  simp; lia
theorem up_sub : ∀ (a b : List Int),Up a -> Up b -> (∀ x ∈ a,x ∈ b) -> a.length ≤ b.length
 | [],b,_,_,_=>Nat.zero_le _
 | x :: a,[],_,_,h=>by have:=h x (by simp); cases this
 | x :: a,y :: b,ha,hb,h=>by
  have : a.length ≤ b.length:=up_sub a b ha.2 hb.2 fun z hz=>by
   rcases List.mem_cons.mp (h z (by simp [hz])) with e | e
   ·subst e
    have zx:=ha.1 _ hz
    rcases List.mem_cons.mp (h x (by simp)) with e | e
    ·lia
    ·have:=hb.1 _ e; lia
   ·exact e
  simp; lia
theorem oR {a b : List Int} (ha : Up a) (hb : Up b) (h : ∀ x ∈ a,x ∈ b) (n : b ≠ a) : a.length < b.length:=by
 rcases Nat.lt_or_ge a.length b.length with g | g
 ·exact g
 ·exfalso
  apply n
  refine up_ext b a hb ha fun x=>⟨fun hx=>?_,h x⟩
  rcases Classical.em (x ∈ a) with m | m
  ·exact m
  ·exfalso
   have : (sortI (x :: a)).length ≤ b.length:=up_sub _ b (cA _) hb fun z hz=>by
    rw [mem_sortI] at hz
    rcases List.mem_cons.mp hz with e | e
    ·subst e; exact hx
    ·exact h z e
   have k : (sortI (x :: a)).length = a.length + 1:=by
    show (insI x (sortI a)).length = _
    rw [m7 ha]
    revert m
    generalize a = a
    intro m
    induction a with
    | nil=>rfl
    | cons y r ih =>
     simp at m
     unfold insI
     split
     ·rfl
     ·rw [if_neg m.1]; simp [ih m.2]
   lia
noncomputable def gap (fs : List (List Int)) : Nat:=(fs.map fun s=>7 - s.length).sum
theorem gap_set : ∀ (fs : List (List Int)) (b : Nat) (h : b < fs.length) (s : List Int),gap (fs.set b s) + (7 - fs[b].length) = gap fs + (7 - s.length)
 | [],b,h,_=>absurd h (by simp)
 | a :: fs,0,h,s=>by simp [gap]; lia
 | a :: fs,b + 1,h,s=>by
  have:=gap_set fs b (by simpa using h) s
  simp [gap] at this ⊢
  lia
theorem jm {l : List Nat} {n : Nat} (nd : l.Nodup) (h : ∀ c ∈ l,c < n) : l.length ≤ n:=by
 have:=nd.length_le_of_subset (l₂:=List.range n) (fun c hc=>by simpa using h c hc)
 simpa using this
theorem d7 {u : Ln -> List Nat} {x : Int} : ∀ (ls : List Ln) {s s' : List Int},(x ∈ s -> x ∈ s') -> x ∈ backF u ls s -> x ∈ backF u ls s'
 | [],s,s',h,hx=>h hx
 | l :: ls,s,s',h,hx=>by
  rw [show backF u (l :: ls) s = stepF u l (backF u ls s) from rfl,bF] at hx
  rw [show backF u (l :: ls) s' = stepF u l (backF u ls s') from rfl,bF]
  rcases hx with ⟨a,b⟩ | a
  ·exact .inl ⟨d7 ls h a,b⟩
  ·exact .inr a
theorem oK {B : List Blk} {u : Ln -> List Nat} {fs fs' : List (List Int)} {x : Int} (h : ∀ g : Nat,x ∈ (fs[g]?).getD [] -> x ∈ (fs'[g]?).getD []) {b i : Nat} (hx : x ∈ atF B u fs b i) : x ∈ atF B u fs' b i :=
 d7 _ (fun k=>by
  rw [dn] at k ⊢
  refine aw k fun g hg hx=>?_
  exact ⟨g,hg,h g hx⟩) hx
theorem oJ {B : List Blk} {u : Ln -> List Nat} {fs : List (List Int)} {b c i : Nat} {s : List Int} (h : c ∉ succT (term B b)) {x : Int} (hx : x ∈ atF B u (fs.set c s) b i) : x ∈ atF B u fs b i :=
 d7 _ (fun k=>by
  rw [dn] at k ⊢
  refine aw k fun g hg hx=>?_
  rw [List.getElem?_set_ne (by rintro rfl; exact h hg)] at hx
  exact ⟨g,hg,hx⟩) hx
noncomputable def Tab (σ : Hp) (rs : List Nat) (L : Nat -> List AV) : Prop:=∀ (b a : Nat),rs[b]? = some a -> Hc σ a (.list (L b))
section
variable {σ τ : Hp} {rs S : List Nat} {L M : Nat -> List AV}
theorem Tab.ext (h : Tab σ rs L) (x : Ext σ τ) : Tab τ rs L:=fun b a e=>x.hc (h b a e)
theorem Tab.kp (h : Tab σ rs L) (x : Kp S σ τ) (n : ∀ a ∈ rs,a ∉ S) : Tab τ rs L:=fun b a e=>x.hc (n a (List.mem_of_getElem? e)) (h b a e)
theorem Tab.put (h : Tab σ rs L) (nd : rs.Nodup) {b a : Nat} (hb : rs[b]? = some a) {x : List AV} (e : ∀ c,c < rs.length -> M c = if c = b then x else L c) : Tab (σ.set a (.list x)) rs M:=fun c a' e'=>by
 rw [e c (cP e')]
 by_cases g : c = b
 ·subst g
  rw [hb] at e'
  cases e'
  rw [if_pos rfl]; exact (h c a hb).same
 ·rw [if_neg g]
  refine (h c a' e').ne fun q=>?_
  subst q
  exact g ((List.getElem?_inj (cP e') nd).mp (e'.trans hb.symm))
theorem Tab.cong (h : Tab σ rs L) (e : ∀ b,b < rs.length -> L b = M b) : Tab σ rs M:=fun b a g=>by rw [<- e b (cP g)]; exact h b a g
end
theorem jO {d T y X : Nat} (hT : Nat.beq y T = false) (hX : Nat.beq y X = false) {rs : List Nat} {q gp : Nat} {gs : List Int} {x : AV} {L : Nat -> List AV} {K : Env -> Env} {e0 : Env} {σ : Hp} {F : Fl -> Env -> Hp -> Prop} (hK : ∀ v e,setVar y v (K e) = K (setVar y v e))
  (hg : ∀ g ∈ gs,0 ≤ g /\ g.toNat < rs.length) (hgp : Hc σ gp (.list (gs.map .int))) (hq : Hc σ q (.list (rs.map .ref))) (ht : Tab σ rs L) (nd : rs.Nodup) (n1 : gp ∉ rs) (n2 : q ∉ rs)
  (r1 : ∀ e,Gv (K e) T (.ref q)) (r2 : Gv (K e0) X x) (hb : ∀ b,b < rs.length -> (L b).length + gs.length ≤ 4000)
  (k : ∀ e' σ',Gv (K e') X x -> Tab σ' rs (fun b=>L b ++ List.replicate (gs.count (b : Int)) x) -> Kp rs σ σ' -> F .next (K e') σ') :
  ∃ m,vL d y (.ref gp) (epOf σ (.ref gp)) m 0 [.expr (.mcall (.sub (.loc T) (.loc y)) 18 [.loc X])] (K e0) σ F:=by
 rw [gQ hgp]
 refine dF (fun j ρ' σ'=>∃ e,ρ' = K e /\ Gv (K e) X x /\ Tab σ' rs (fun b=>L b ++ List.replicate ((gs.take j).count (b : Int)) x) /\ Kp rs σ σ') gs.length ⟨_,rfl,r2,ht.cong fun b uw=>(List.append_nil _).symm,.refl⟩ ?_ fun ρ' σ' ⟨e,i0,i1,i2,i3⟩=>by
  rw [List.take_length] at i2
  exact ⟨by rw [dM (i3.hc n1 hgp),List.getElem?_map,List.getElem?_eq_none (Nat.le_refl _)]; rfl,i0 ▸ k e σ' i1 i2 i3⟩
 intro j ρ' σ' hj ⟨e,i0,i1,i2,i3⟩
 subst i0
 have q':=i3.hc n2 hq
 have hgj:=hg gs[j] (List.getElem_mem hj)
 have ha : rs[gs[j].toNat]? = some rs[gs[j].toNat]:=List.getElem?_eq_getElem hgj.2
 have e0 : (gs[j].toNat : Int) = gs[j]:=Int.toNat_of_nonneg hgj.1
 have hc:=i2 _ _ ha
 have nt : Nx (rs.map AV.ref) gs[j] (.ref rs[gs[j].toNat]):=by
  have:=Nx.nat (xs:=rs.map AV.ref) (i:=gs[j].toNat) (u:=.ref rs[gs[j].toNat]) ⟨by rw [List.getElem?_map,ha]; rfl⟩
  rwa [e0] at this
 have hl : ((gs.take j).count (gs[j].toNat : Int)) < gs.length:=Nat.lt_of_le_of_lt List.count_le_length (by rw [List.length_take]; exact Nat.lt_of_le_of_lt (Nat.min_le_left _ _) hj)
 have hlen:=hb _ hgj.2
 refine ⟨.int gs[j],by rw [dM (i3.hc n1 hgp),List.getElem?_map,List.getElem?_eq_getElem hj]; rfl,?_⟩
 rw [hK]
 refine eR (.sub (.loc (r1 _)) (.loc (hK _ _ ▸ gv_set)) (.l q' nt)) (.loc (hK _ _ ▸ ao hX i1)) hc ?_ (aJ ⟨_,rfl,hK _ _ ▸ ao hX i1,i2.put nd ha fun c lc=>?_,i3.set (List.getElem_mem _)⟩)
 ·rw [List.length_append,List.length_append,List.length_replicate,List.length_singleton]; lia
 ·have tk : gs.take (j + 1) = gs.take j ++ [gs[j]]:=by rw [List.take_add_one,List.getElem?_eq_getElem hj]; rfl
  rw [tk,List.count_append]
  by_cases g : c = gs[j].toNat
  ·subst g
   rw [if_pos rfl,e0,List.count_singleton_self,List.append_assoc,List.replicate_succ',e0]
  ·rw [if_neg g,List.count_eq_zero_of_not_mem (l:=[gs[j]]) fun m=>g (by have:=List.mem_singleton.mp m; lia)]; rfl
theorem jv {d x pk n : Nat} {bs : List AV} {ρ : Env} {σ : Hp} {Q : AV -> Hp -> Prop} (hp : Hc σ pk (.list bs)) (hn : bs.length = n) (h4 : n ≤ 4000)
  (k : ∀ (rs : List Nat) σ',Hc σ' σ.length (.list (rs.map .ref)) -> rs.length = n -> rs.Nodup -> (∀ a ∈ rs,σ.length < a /\ a < σ'.length) -> Tab σ' rs (fun uw=>[]) -> Ext σ σ' -> Q (.ref σ.length) σ') :
  ∃ m,vC d (.lst []) [x] (.ref pk) (epOf σ (.ref pk)) σ.length [] m 0 ρ (σ ++ [.list []]) Q:=by
 rw [gQ hp]
 refine gY (fun j τ=>∃ rs : List Nat,rs.length = j /\ Hc τ σ.length (.list (rs.map .ref)) /\ rs.Nodup /\ (∀ a ∈ rs,σ.length < a /\ a < τ.length) /\ Tab τ rs (fun uw=>[]) /\ Ext σ τ) n ⟨[],rfl,.a0,.nil,(fun uw m=>nomatch m),(fun uw uw e=>nomatch e),Ext.refl.app _⟩ ?_ fun τ ⟨rs,e,g1,g2,g3,g4,g5⟩=>⟨by rw [dM (g5.hc hp),List.getElem?_eq_none (by rw [hn]; exact Nat.le_refl _)],k rs τ g1 e g2 g3 g4 g5⟩
 intro j τ hj ⟨rs,e,g1,g2,g3,g4,g5⟩
 refine ⟨_,_,by rw [dM (g5.hc hp),List.getElem?_eq_getElem (hn ▸ hj)],rfl,t_n (.t (ak .nil (le4 rfl) ⟨_,g1.keep,by rw [List.length_map,e]; lia,rs ++ [τ.length],by rw [List.length_append,e]; rfl,?_,?_,fun a m=>?_,?_,(g5.app _).set (Nat.le_refl _)⟩))⟩
 ·rw [List.map_append]; exact g1.keep.same
 ·refine List.nodup_append.mpr ⟨g2,List.nodup_cons.mpr ⟨(fun m=>nomatch m),.nil⟩,fun a ha b hb=>?_⟩
  rw [List.mem_singleton.mp hb]; exact Nat.ne_of_lt (g3 a ha).2
 ·rw [List.length_set,List.length_append]
  have lt:=g1.lt
  rcases List.mem_append.mp m with m | m
  ·exact ⟨(g3 a m).1,Nat.lt_succ_of_lt (g3 a m).2⟩
  ·rw [List.mem_singleton.mp m]; exact ⟨lt,Nat.lt_succ_self _⟩
 ·intro b a ea
  have lt:=g1.lt
  rcases Nat.lt_or_ge b rs.length with h | h
  ·rw [List.getElem?_append_left h] at ea
   exact ((g4 b a ea).keep).ne (Nat.ne_of_lt (g3 a (List.mem_of_getElem? ea)).1)
  ·rw [List.getElem?_append_right h] at ea
   have : b - rs.length = 0:=by have:=cP ea; rw [List.length_singleton] at this; lia
   rw [this] at ea
   cases ea
   exact Hc.a0.ne (Nat.ne_of_lt lt)
noncomputable def predB (B : List Blk) (j b : Nat) : List Nat:=(List.range j).filter fun c=>decide (b ∈ succT (term B c))
theorem l5 (B : List Blk) (j b : Nat) : (predB B j b).length ≤ j:=by
 have:=List.length_filter_le (fun c=>decide (b ∈ succT (term B c))) (List.range j)
 rw [List.length_range] at this
 exact this
theorem jc (B : List Blk) (j b : Nat) : predB B (j + 1) b = predB B j b ++ if b ∈ succT (term B j) then [j] else []:=by
 unfold predB
 rw [List.range_succ,List.filter_append]
 congr 1
 by_cases h : b ∈ succT (term B j)
 ·rw [if_pos h,List.filter_cons,if_pos (decide_eq_true h)]; rfl
 ·rw [if_neg h,List.filter_cons,if_neg (by rw [decide_eq_false h]; exact Bool.false_ne_true)]; rfl
theorem mem_predB {B : List Blk} {b c : Nat} : c ∈ predB B B.length b ↔ c < B.length /\ b ∈ succT (term B c):=by unfold predB; rw [List.mem_filter,List.mem_range,decide_eq_true_eq]
theorem om {l : List Nat} (nd : l.Nodup) (b : Nat) : (zz l).count (b : Int) = if b ∈ l then 1 else 0:=by
 have : (zz l).Nodup:=by
  unfold zz
  rw [List.Nodup,List.pairwise_map]
  exact nd.imp fun h e=>h (Int.ofNat.inj e)
 rw [List.Nodup.count this]
 by_cases h : b ∈ l
 ·rw [if_pos h,if_pos (zz_mem.mpr h)]
 ·rw [if_neg h,if_neg fun m=>h (zz_mem.mp m)]
section
variable {d pb : Nat} {σ : Hp} {B : List Blk} {Q : AV -> Hp -> Prop}
theorem tD (h : At σ pb B) (hB : aA B) (k : ∀ q rs σ',σ.length ≤ q -> Hc σ' q (.list (rs.map .ref)) -> rs.length = B.length -> rs.Nodup -> (∀ a ∈ rs,q < a) -> Tab σ' rs (fun b=>nums (predB B B.length b)) -> Ext σ σ' -> Q (.ref q) σ') : vF (d + 2) 5 [.ref pb] σ Q:=by
 have l3:=hB.hi
 have l4 : B.length ≤ 4000:=Nat.le_trans l3 (le4 rfl)
 refine h.bl fun pk bs a1 a2 n=>ae ?_
 refine an (aT (ar (Ev.attr (Ev.loc ⟨rfl⟩) a1) (jv a2 n l4 fun rs τ g1 g2 g3 g4 g5 g6=>?_)))
 clear a1 a2 n
 refine (h.ext g6).bl fun pk bs a1 a2 n=>?_
 refine aW (aR (Evs.cons (Ev.blt (Evs.cons (Ev.attr (Ev.loc ⟨rfl⟩) a1) Evs.nil) (Bl.len a2)) Evs.nil) (.rng1 (n ▸ l4)) ?_)
 rw [n]
 have nq : σ.length ∉ rs:=fun m=>Nat.lt_irrefl _ (g4 _ m).1
 have xs : ∀ {υ},Kp rs τ υ -> Ext σ υ:=fun i=>(g6.kp.trans i).ext fun a m=>Nat.le_of_lt (g4 a m).1
 refine dF (fun j ρ υ=>(∃ e,ρ = (0,AV.ref pb) :: (4,AV.ref σ.length) :: e) /\ Tab υ rs (fun b=>nums (predB B j b)) /\ Kp rs τ υ) B.length ⟨⟨[],rfl⟩,g5,.refl⟩ ?_ fun ρ υ ⟨⟨e,i1⟩,i2,i3⟩=>by
  subst i1
  exact ⟨dY _ (Int.lt_irrefl _),.next (ax (Ev.loc ⟨rfl⟩) ⟨k _ rs υ (Nat.le_refl _) (i3.hc nq g1) g2 g3 (fun a m=>(g4 a m).1) i2 (xs i3)⟩)⟩
 intro j ρ υ hj ⟨⟨e,i1⟩,i2,i3⟩
 subst i1
 obtain ⟨ss,t,hb⟩ : ∃ ss t,B[j]? = some (ss,t):=⟨_,_,List.getElem?_eq_getElem hj⟩
 have tr:=da hb
 have lu : ∀ a ∈ rs,a < υ.length:=fun a m=>by
  obtain ⟨i,hi⟩:=List.getElem?_of_mem m
  exact (i2 i a hi).lt
 refine ⟨_,iq _ (Int.ofNat_lt.mpr hj),?_⟩
 clear a1 a2 n
 refine (h.ext (xs i3)).bk hb fun pk bs lb ll a1 a2 a3 a4 uw uw c2=>?_
 refine aW (fu (af (x_m (Ev.loc ⟨rfl⟩) c2 (cy (.cons (.loc gv_set) .nil) (o5 a1 a2 a3 a4 (ad (qM fun p χ x g c=>?_)))))))
 refine jO (rs:=rs) (q:=σ.length) (gs:=zz (succT t)) (x:=.int j) (K:=fun e=>(0,AV.ref pb) :: (4,AV.ref σ.length) :: e) (L:=fun b=>nums (predB B j b)) rfl rfl (fun uw uw=>rfl) (fun g hg=>?_) (kg _ ▸ c) (x.hc (i3.hc nq g1)) (i2.ext x) g3 (fun m=>Nat.not_lt.mpr g (lu _ m)) nq (fun uw=>⟨rfl⟩) ⟨(gv_set (x:=1) (ρ:=e)).go⟩ (fun b uw=>?_) fun e' σ' uw s1 s2=>.next (fO (.next ⟨⟨e',rfl⟩,s1.cong fun b uw=>?_,(i3.up x).trans s2⟩))
 ·obtain ⟨m,hm,rfl⟩:=mem_zz.mp hg
  exact ⟨Int.natCast_nonneg m,by rw [Int.toNat_natCast,g2]; exact eB (hB.bk j ss t hb).2.2 m ((cM _ _).mp hm)⟩
 ·have:=l5 B j b
  have:=m5 t
  rw [dl,zz,List.length_map]
  lia
 ·rw [om (oX t),jc,bg,tr]
  by_cases m : b ∈ succT t
  ·rw [if_pos m,if_pos m]; rfl
  ·rw [if_neg m,if_neg m]; rfl
end
theorem rJ {p : Prop} [Decidable p] (h : p) : (!decide p) = false:=by rw [decide_eq_true h]; rfl
theorem rK {p : Prop} [Decidable p] (h : ¬ p) : (!decide p) = true:=by rw [decide_eq_false h]; rfl
section
variable {d x p q n k : Nat} {σ : Hp} {ρ : Env} {e o i : X} {v : AV} {xs ys : List AV} {ss : List XS} {F : Fl -> Env -> Hp -> Prop} {Q : AV -> Hp -> Prop}
theorem qt (h : Ev o ρ σ (.ref p)) (c : Hc σ p (.list (xs ++ [v]))) (l : (xs ++ [v]).length ≤ 4000) (q : Q v (σ.set p (.list xs))) : vX d (.mcall o 75 []) ρ σ Q:=⟨h.go _ _ _ (aK (Cm.l c rfl).go (aK c.lst (aK (ub l) q)))⟩
theorem jD (he : Ev e ρ σ v) (ho : Ev o ρ σ (.ref p)) (hi : Ev i ρ σ (.int k)) (c : Hc σ p (.list xs)) (lt : k < xs.length) (l : xs.length ≤ 4000) (q : vSs d ss ρ (σ.set p (.list (xs.set k v))) F) : vSs d (.setI o i e :: ss) ρ σ F :=
 ⟨he.go _ _ _ (ho.go _ _ _ (hi.go _ _ _ ⟨p,rfl,.inl ⟨xs,k,c.go,rfl,lt,l,q.go⟩⟩))⟩
theorem cN (h : vX d e ρ σ fun v τ=>∃ p k z l,Gv ρ x (.ref p) /\ Hc τ p (.inst k z) /\ Hc τ z (.attrs l) /\ prg.mt k n = some none /\ l.length < 4000 /\ vSs d ss ρ (τ.set z (.attrs (setVar n v l))) F) : vSs d (.setA (.loc x) n e :: ss) ρ σ F :=
 ⟨h.m fun uw uw h=>by
  refine dX h fun p k z l a1 a2 a3 a4 a5 q=>?_
  exact aK a1.go ⟨p,k,z,l,rfl,a2.go,a3.go,a4,a5,q.go⟩⟩
theorem rI {l : List Nat} (a : Hc σ p (.list (nums l))) (b : Hc σ q (.list [])) : Cp .ne (.ref p) (.ref q) σ (!l.isEmpty):=⟨by
 show Option.map _ (((lstAt σ p).bind fun xs=>(lstAt σ q).bind fun ys=>eqL σ xs ys).or _) = _
 rw [a.lst,b.lst]
 cases l <;> rfl⟩
theorem rN {pl pa m : Nat} {ps l0 : List Nat} {K : Env -> Env} {e0 : Env} (hK : ∀ v e,setVar 32 v (K e) = K (setVar 32 v e)) (r1 : ∀ e,Gv (K e) 25 (.ref pl)) (hl : Hc σ pl (.list (nums l0))) (ha : Hc σ pa (.list (nums ps))) (ne : pa ≠ pl) (n4 : m ≤ 3) (nd : l0.Nodup) (lt : ∀ c ∈ l0,c < m) (lp : ∀ c ∈ ps,c < m)
  (k : ∀ e' σ' l,Kp [pl] σ σ' -> Hc σ' pl (.list (nums l)) -> l.Nodup -> (∀ c ∈ l,c < m) -> (∀ c ∈ l0,c ∈ l) -> (∀ c ∈ ps,c ∈ l) -> F .next (K e') σ') :
  ∃ m,vL d 32 (.ref pa) (epOf σ (.ref pa)) m 0 [.ifs (.cmp .notIn (.loc 32) (.loc 25)) [.expr (.mcall (.loc 25) 18 [.loc 32])] []] (K e0) σ F:=by
 have na : pa ∉ [pl]:=fun m=>ne (List.mem_singleton.mp m)
 rw [gQ ha]
 refine dF (fun j ρ' σ'=>(∃ e,ρ' = K e) /\ Kp [pl] σ σ' /\ ∃ l,Hc σ' pl (.list (nums l)) /\ l.Nodup /\ (∀ c ∈ l,c < m) /\ (∀ c ∈ l0,c ∈ l) /\ (∀ c ∈ ps.take j,c ∈ l)) ps.length ⟨⟨_,rfl⟩,.refl,l0,hl,nd,lt,(fun uw h=>h),fun uw h=>by cases h⟩ ?_ fun ρ' σ' ⟨⟨e,i0⟩,i2,l,g1,g2,g3,g4,g5⟩=>by
  rw [List.take_length] at g5
  exact ⟨iu (i2.hc na ha),i0 ▸ k e σ' l i2 g1 g2 g3 g4 g5⟩
 intro j ρ' σ' hj ⟨⟨e,i0⟩,i2,l,g1,g2,g3,g4,g5⟩
 subst i0
 refine ⟨_,kh (i2.hc na ha) hj,?_⟩
 rw [hK]
 have r0 : Gv (K (setVar 32 (.int (ps[j] : Nat)) e)) 32 (.int (ps[j] : Nat)):=hK _ _ ▸ gv_set
 have tk : ps.take (j + 1) = ps.take j ++ [ps[j]]:=by rw [List.take_add_one,List.getElem?_eq_getElem hj]; rfl
 rw [tk]
 have ll : l.length ≤ 3:=Nat.le_trans (jm g2 g3) n4
 refine am (.cmp (.loc r0) (.loc (r1 _)) (.nl g1 (dm ps[j] l))) ?_
 by_cases mm : ps[j] ∈ l
 ·exact ai (by rw [decide_eq_true mm]; rfl) (ab (aJ ⟨⟨_,rfl⟩,i2,l,g1,g2,g3,g4,fun c hc=>(List.mem_append.mp hc).elim (g5 c) fun h=>List.mem_singleton.mp h ▸ mm⟩))
 ·refine ay (by rw [decide_eq_false mm]; rfl) (eR (.loc (r1 _)) (.loc r0) g1 (bA (b:=[ps[j]]) (Nat.le_trans (Nat.add_le_add_right ll 1) (le4 rfl))) (ab (aJ ⟨⟨_,rfl⟩,i2.set (List.mem_singleton.mpr rfl),l ++ [ps[j]],by rw [bg]; exact g1.same,?_,fun c hc=>?_,fun c hc=>List.mem_append_left _ (g4 c hc),fun c hc=>?_⟩)))
  ·exact List.nodup_append.mpr ⟨g2,List.nodup_cons.mpr ⟨(fun m=>nomatch m),.nil⟩,fun a ha b hb e=>mm (List.mem_singleton.mp hb ▸ e ▸ ha)⟩
  ·exact (List.mem_append.mp hc).elim (g3 c) fun h=>List.mem_singleton.mp h ▸ lp _ (List.getElem_mem hj)
  ·exact (List.mem_append.mp hc).elim (fun h=>List.mem_append_left _ (g5 c h)) fun h=>List.mem_append_right _ h
end
theorem aV {fs : List (List Int)} {b : Nat} (h : b < fs.length) (s : List Int) : ((fs.set b s)[b]?).getD [] = s:=by rw [List.getElem?_set_self h]; rfl
theorem bu {fs : List (List Int)} {b c : Nat} (h : b ≠ c) (s : List Int) : ((fs.set b s)[c]?).getD [] = (fs[c]?).getD []:=by rw [List.getElem?_set_ne h]
structure Fx (B : List Blk) (u : Ln -> List Nat) (fs : List (List Int)) (left : List Nat) : Prop where
 n : fs.length = B.length
 nd : left.Nodup
 lt : ∀ c ∈ left,c < B.length
 up : ∀ (b : Nat),Up ((fs[b]?).getD [])
 lo : ∀ x (b : Nat),b < B.length -> x ∈ (fs[b]?).getD [] -> x ∈ atF B u fs b 0
 live : ∀ x (g : Nat),x ∈ (fs[g]?).getD [] -> cx B u x (g,0)
 done : ∀ (b : Nat),b < B.length -> b ∉ left -> ∀ x,x ∈ atF B u fs b 0 -> x ∈ (fs[b]?).getD []
section
variable {B : List Blk} {u : Ln -> List Nat} {fs : List (List Int)} {left l' l : List Nat} {c : Nat}
theorem Fx.start (hB : aA B) : Fx B u (List.replicate B.length []) (List.range B.length):=by
 have e : ∀ b : Nat,((List.replicate B.length ([] : List Int))[b]?).getD [] = []:=fun b=>by rw [List.getElem?_replicate]; split <;> rfl
 refine ⟨List.length_replicate,List.nodup_range,fun c m=>List.mem_range.mp m,fun b=>?_,fun x b uw m=>?_,fun x b m=>?_,fun b lt n=>absurd (List.mem_range.mpr lt) n⟩
 ·rw [e]; trivial
 ·rw [e] at m; cases m
 ·rw [e] at m; cases m
theorem Fx.same (h : Fx B u fs (l' ++ [c])) (e : atF B u fs c 0 = (fs[c]?).getD []) : Fx B u fs l' :=
 ⟨h.n,(List.nodup_append.mp h.nd).1,fun c m=>h.lt c (List.mem_append_left _ m),h.up,h.lo,h.live,fun b lt n x hx=>by
  by_cases bc : b = c
  ·subst bc; rw [e] at hx; exact hx
  ·exact h.done b lt (fun m=>(List.mem_append.mp m).elim n fun m=>bc (List.mem_singleton.mp m)) x hx⟩
theorem Fx.grow (h : Fx B u fs (l' ++ [c])) (hB : aA B) (hu : Fair u) (e : atF B u fs c 0 ≠ (fs[c]?).getD []) (nd : l.Nodup) (lt : ∀ b ∈ l,b < B.length) (sub : ∀ b ∈ l',b ∈ l) (ps : ∀ b ∈ predB B B.length c,b ∈ l) :
  Fx B u (fs.set c (atF B u fs c 0)) l /\ gap (fs.set c (atF B u fs c 0)) + 1 ≤ gap fs:=by
 have cb : c < B.length:=h.lt c (List.mem_append_right _ (List.mem_singleton.mpr rfl))
 have cf : c < fs.length:=h.n ▸ cb
 obtain ⟨ss,t,hb⟩ : ∃ ss t,B[c]? = some (ss,t):=⟨_,_,List.getElem?_eq_getElem cb⟩
 obtain ⟨l0,hl0⟩ : ∃ l0,lineAt B c 0 = some l0:=⟨_,List.getElem?_eq_getElem (by rw [c7 hb]; exact Nat.succ_pos _)⟩
 have upc:=j6 (u:=u) (fs:=fs) hl0
 have snd : ∀ x,x ∈ atF B u fs c 0 -> cx B u x (c,0):=fun x hx=>fP (h.live x) hb ss.length 0 (Nat.zero_add _) hx
 have big:=oR (h.up c) upc (h.lo · c cb) e
 have len7 : (atF B u fs c 0).length ≤ 7:=up_len _ 7 upc fun x hx=>gn hu hB (snd x hx)
 have gs:=gap_set fs c cf (atF B u fs c 0)
 have fc : fs[c] = (fs[c]?).getD []:=(gJ cf).symm
 rw [fc] at gs
 refine ⟨⟨by rw [List.length_set]; exact h.n,nd,lt,fun b=>?_,fun x b lt hx=>?_,fun x g hx=>?_,fun b lt n x hx=>?_⟩,by lia⟩
 ·by_cases bc : c = b
  ·subst bc; rw [aV cf]; exact upc
  ·rw [bu bc]; exact h.up b
 ·refine oK (fun g hg=>?_) (show x ∈ atF B u fs b 0 from ?_)
  ·by_cases gc : c = g
   ·subst gc; rw [aV cf]; exact h.lo x c cb hg
   ·rw [bu gc]; exact hg
  ·by_cases bc : c = b
   ·subst bc; rwa [aV cf] at hx
   ·rw [bu bc] at hx; exact h.lo x b lt hx
 ·by_cases gc : c = g
  ·subst gc; rw [aV cf] at hx; exact snd x hx
  ·rw [bu gc] at hx; exact h.live x g hx
 ·have hx:=oJ (fun m=>n (ps b (mem_predB.mpr ⟨lt,m⟩))) hx
  by_cases bc : c = b
  ·subst bc; rw [aV cf]; exact hx
  ·rw [bu bc]; exact h.done b lt (fun m=>(List.mem_append.mp m).elim (fun m=>n (sub b m)) fun m=>bc (List.mem_singleton.mp m).symm) x hx
end
section
variable {d pb ps kk : Nat} {σ : Hp} {B : List Blk} {u : Ln -> List Nat} (h : At σ pb B) (hB : aA B) (hu : Fair u)
 (hs : ∀ σ' s (b i : Nat) l Q,Ext σ σ' -> lineAt B b i = some l -> (∀ τ,Ext σ' τ -> Q (.fset (stepF u l s)) τ) -> vF (d + 1) kk [.ref ps,.fset s,.int b,.int i] σ' Q)
include h hB hu hs
theorem oQ {F : Fl -> Env -> Hp -> Prop} {pf pl pa : Nat} {rs : List Nat} {τ : Hp} {e0 : Env} (x0 : Ext σ τ) (npf : σ.length ≤ pf) (npl : σ.length ≤ pl) (nf : pf ≠ pl) (na : pa ≠ pf /\ pa ≠ pl) (nr : pf ∉ rs /\ pl ∉ rs)
  (hpf : Hc τ pf (.list ((List.replicate B.length []).map .fset))) (hpl : Hc τ pl (.list (nums (List.range B.length)))) (hpa : Hc τ pa (.list (rs.map .ref))) (hrs : rs.length = B.length) (ht : Tab τ rs (fun b=>nums (predB B B.length b)))
  (k : ∀ (fs : List (List Int)) e τ',Hc τ' pf (.list (fs.map .fset)) -> Fx B u fs [] -> Ext σ τ' -> F .next ((0,.ref pb) :: (26,.fset []) :: (24,.meth (.ref ps) kk) :: (34,.fn 10) :: (14,.ref pf) :: (42,.ref pa) :: (25,.ref pl) :: e) τ') :
  ∃ n,vW (d + 2) (.cmp .ne (.loc 25) (.lst [])) [(.asg 1 (.mcall (.loc 25) 75 [])),(.asg 27 (.call (.glo (.fn 12)) [(.loc 0),(.call (.glo (.fn 11)) [(.loc 0),(.loc 14),(.loc 1),(.loc 26),(.loc 34)]),(.loc 1),(.lit (.int 0)),(.loc 24)])),
   (.ifs (.cmp .ne (.loc 27) (.sub (.loc 14) (.loc 1))) [(.setI (.loc 14) (.loc 1) (.loc 27)),(.for1 32 (.sub (.loc 42) (.loc 1)) [(.ifs (.cmp .notIn (.loc 32) (.loc 25)) [(.expr (.mcall (.loc 25) 18 [(.loc 32)]))] [])])] [])]
   n ((0,.ref pb) :: (26,.fset []) :: (24,.meth (.ref ps) kk) :: (34,.fn 10) :: (14,.ref pf) :: (42,.ref pa) :: (25,.ref pl) :: e0) τ F:=by
 have l3:=hB.hi
 have S1 : ∀ q ∈ [pf,pl],σ.length ≤ q:=fun q m=>(List.mem_cons.mp m).elim (fun e=>e ▸ npf) fun m=>List.mem_singleton.mp m ▸ npl
 have mf : pf ∈ [pf,pl]:=List.mem_cons_self
 have ml : pl ∈ [pf,pl]:=List.mem_cons_of_mem _ (List.mem_singleton.mpr rfl)
 have not2 : ∀ {q},q ≠ pf -> q ≠ pl -> q ∉ [pf,pl]:=fun a b m=>(List.mem_cons.mp m).elim a fun m=>b (List.mem_singleton.mp m)
 refine sU (fun m ρ υ=>(∃ e,ρ = (0,AV.ref pb) :: (26,AV.fset []) :: (24,AV.meth (.ref ps) kk) :: (34,AV.fn 10) :: (14,AV.ref pf) :: (42,AV.ref pa) :: (25,AV.ref pl) :: e) /\ Kp [pf,pl] τ υ /\ ∃ fs left,Hc υ pf (.list (fs.map .fset)) /\ Hc υ pl (.list (nums left)) /\ Fx B u fs left /\ m = gap fs * 4 + left.length) _ ⟨⟨_,rfl⟩,.refl,_,_,hpf,hpl,.start hB,rfl⟩ ?_
 intro m ρ υ ⟨⟨e,i1⟩,i2,fs,left,g1,g3,fx,g10⟩
 subst i1
 have xe : Ext σ υ:=(x0.kp.trans i2).ext S1
 refine bG (ar (Ev.loc ⟨rfl⟩) (ak .nil (le4 rfl) ⟨_,rI g3.keep .a0,_,rfl,?_⟩))
 rcases List.eq_nil_or_concat left with e1 | ⟨l',c,e1⟩
 ·subst e1
  exact .f (k fs e _ g1.keep fx (xe.app _))
 rw [List.concat_eq_append] at e1
 subst e1
 have lne : (!(l' ++ [c]).isEmpty) = true:=by cases l' <;> rfl
 refine ay lne ?_
 have ll:=jm fx.nd fx.lt
 rw [List.length_append,List.length_singleton] at ll
 rw [bg] at g3
 have cb : c < B.length:=fx.lt c (List.mem_append_right _ (List.mem_singleton.mpr rfl))
 obtain ⟨ss,t,hb⟩ : ∃ ss t,B[c]? = some (ss,t):=⟨_,_,List.getElem?_eq_getElem cb⟩
 refine an (qt (Ev.loc ⟨rfl⟩) g3.keep (bA (b:=[c]) (Nat.le_trans ll (Nat.le_trans l3 (le4 rfl)))) ?_)
 have k1 : Kp [pl] υ ((υ ++ [AO.list []]).set pl (.list (nums l'))):=((Ext.refl.app [AO.list []]).kp).set (List.mem_singleton.mpr rfl)
 have gl : Hc ((υ ++ [AO.list []]).set pl (.list (nums l'))) pl (.list (nums l')):=g3.keep.same
 revert k1 gl
 generalize (υ ++ [AO.list []]).set pl (.list (nums l')) = χ
 intro k1 gl
 have kχ : Kp [pf,pl] τ χ:=i2.trans (k1.mono fun q m=>List.mem_cons_of_mem _ m)
 have xχ : Ext σ χ:=(x0.kp.trans kχ).ext S1
 have gf : Hc χ pf (.list (fs.map .fset)):=k1.hc (fun m=>nf (List.mem_singleton.mp m)) g1
 refine an (fu (aL (Ev.loc ⟨rfl⟩) (af (aI (.cons (Ev.loc ⟨rfl⟩) (.cons (Ev.loc ⟨rfl⟩) (.cons (.loc ⟨(gv_set (x:=1) (ρ:=e)).go⟩) (.cons (Ev.loc ⟨rfl⟩) (.cons (Ev.loc ⟨rfl⟩) .nil))))) (o8 (h.ext xχ) hB hb gf fx.n fun τ3 x3=>cy (.cons (.loc ⟨(gv_set (x:=1) (ρ:=e)).go⟩) (.cons .lit (.cons (Ev.loc ⟨rfl⟩) .nil))) (o7 (i:=0) ((h.ext xχ).ext x3) hB hb (Nat.zero_le _) (fun σ' s i l Q x=>hs σ' s c i l Q (xχ.trans (x3.trans x))) fun τ4 x4=>?_))))))
 have hat : backF u ((linesB B c).drop 0) (behF fs (succT t)) = atF B u fs c 0:=by unfold atF; rw [da hb]
 rw [hat]
 have cf : c < fs.length:=fx.n ▸ cb
 have gf4:=x4.hc (x3.hc gf)
 have gl4:=x4.hc (x3.hc gl)
 have k4 : Kp [pf,pl] τ τ4:=(kχ.up x3).up x4
 have nt : Nt (fs.map .fset) c (.fset ((fs[c]?).getD [])):=⟨by rw [List.getElem?_map,gJ cf,List.getElem?_eq_getElem cf]; rfl⟩
 refine am (.cmp (.loc ⟨gv_set.go⟩) (.sub (Ev.loc ⟨rfl⟩) (.loc (ao rfl ⟨(gv_set (x:=1) (ρ:=e)).go⟩)) (.l gf4 (.nat nt))) ⟨rfl⟩) ?_
 by_cases e2 : atF B u fs c 0 = (fs[c]?).getD []
 ·refine ai (rJ e2) (ab (aJ ⟨gap fs * 4 + l'.length,?_,⟨_,rfl⟩,k4,fs,l',gf4,gl4,fx.same e2,rfl⟩))
  rw [g10,List.length_append,List.length_singleton]; lia
 ·refine ay (rK e2) (jD (k:=c) (.loc ⟨gv_set.go⟩) (Ev.loc ⟨rfl⟩) (.loc (ao rfl ⟨(gv_set (x:=1) (ρ:=e)).go⟩)) gf4 (by rw [List.length_map]; exact cf) (by rw [List.length_map,fx.n]; exact Nat.le_trans l3 (le4 rfl)) ?_)
  have k5 : Kp [pf,pl] τ (τ4.set pf (.list ((fs.map .fset).set c (.fset (atF B u fs c 0))))):=k4.set mf
  have gf5 : Hc (τ4.set pf (.list ((fs.map .fset).set c (.fset (atF B u fs c 0))))) pf (.list ((fs.set c (atF B u fs c 0)).map .fset)):=by rw [List.map_set]; exact gf4.same
  have gl5 : Hc (τ4.set pf (.list ((fs.map .fset).set c (.fset (atF B u fs c 0))))) pl (.list (nums l')):=gl4.ne nf
  revert k5 gf5 gl5
  generalize τ4.set pf (.list ((fs.map .fset).set c (.fset (atF B u fs c 0)))) = ω
  intro k5 gf5 gl5
  have cr : c < rs.length:=hrs ▸ cb
  have hm : rs[c] ∈ rs:=List.getElem_mem cr
  have hpr:=k5.hc (not2 (fun e=>nr.1 (e ▸ hm)) fun e=>nr.2 (e ▸ hm)) (ht c _ (List.getElem?_eq_getElem cr))
  have ntr : Nt (rs.map .ref) c (.ref rs[c]):=⟨by rw [List.getElem?_map,List.getElem?_eq_getElem cr]; rfl⟩
  refine aW (ar (.sub (Ev.loc ⟨rfl⟩) (.loc (ao rfl ⟨(gv_set (x:=1) (ρ:=e)).go⟩)) (.l (k5.hc (not2 na.1 na.2) hpa) (.nat ntr))) (rN (m:=B.length) (K:=fun e=>(0,AV.ref pb) :: (26,AV.fset []) :: (24,AV.meth (.ref ps) kk) :: (34,AV.fn 10) :: (14,AV.ref pf) :: (42,AV.ref pa) :: (25,AV.ref pl) :: e) (fun uw uw=>rfl) (fun uw=>⟨rfl⟩) gl5 hpr (fun e=>nr.2 (e ▸ hm)) l3 (List.nodup_append.mp fx.nd).1 (fun c m=>fx.lt c (List.mem_append_left _ m)) (fun b m=>(mem_predB.mp m).1) fun e3 ψ l kp hl nd lt sub subp=>?_))
  obtain ⟨fx',gg⟩:=fx.grow hB hu e2 nd lt sub subp
  refine .next (ab (aJ ⟨gap (fs.set c (atF B u fs c 0)) * 4 + l.length,?_,⟨_,rfl⟩,k5.trans (kp.mono fun q m=>List.mem_cons_of_mem _ m),_,l,kp.hc (fun m=>nf (List.mem_singleton.mp m)) gf5,hl,fx',rfl⟩))
  have:=jm nd lt
  rw [g10,List.length_append,List.length_singleton]; lia
end
theorem Bi.rep {σ : Hp} {p n : Nat} {v : AV} (a : Hc σ p (.list [v])) (l : n ≤ 4000) : Bi .mul (.ref p) (.int n) σ (.ref σ.length) (σ ++ [.list (List.replicate n v)]):=⟨by
 show (lstAt σ p).bind (fun xs=>(one xs).bind fun v=>if (0 : Int) ≤ n then mkList σ (List.replicate (n : Int).toNat v) else none) = _
 rw [a.lst]
 show (if (0 : Int) ≤ n then mkList σ (List.replicate (n : Int).toNat v) else none) = _
 rw [if_pos (Int.natCast_nonneg n),Int.toNat_natCast]
 exact if_pos (by rw [List.length_replicate]; exact l)⟩
theorem Bl.lr {σ : Hp} {n : Nat} (l : n ≤ 4000) : Bl .list [.rng 0 n 1] σ (.ref σ.length) (σ ++ [.list (nums (List.range n))]):=⟨by
 show (rngL 0 n 1).bind (mkList σ) = _
 have e : rngL 0 n 1 = some (nums (List.range n)):=by
  unfold rngL nums
  rw [if_pos rfl,Int.sub_zero,Int.toNat_natCast]
  exact congrArg some (List.map_congr_left fun i uw=>by rw [Int.zero_add])
 rw [e]
 exact if_pos (by rw [dl,List.length_range]; exact l)⟩
section
variable {d pb ps kk : Nat} {σ : Hp} {B : List Blk} {u : Ln -> List Nat} {Q : AV -> Hp -> Prop}
theorem o6 (h : At σ pb B) (hB : aA B) (hu : Fair u) (hs : ∀ σ' s (b i : Nat) l Q,Ext σ σ' -> lineAt B b i = some l -> (∀ τ,Ext σ' τ -> Q (.fset (stepF u l s)) τ) -> vF (d + 1) kk [.ref ps,.fset s,.int b,.int i] σ' Q)
  (k : ∀ pf fs τ,σ.length ≤ pf -> Hc τ pf (.list (fs.map .fset)) -> Fx B u fs [] -> Ext σ τ -> Q (.ref pf) τ) : vF (d + 3) 13 [.ref pb,.fset [],.meth (.ref ps) kk,.fn 10] σ Q:=by
 have l3:=hB.hi
 have l4 : B.length ≤ 4000:=Nat.le_trans l3 (le4 rfl)
 have x0 : Ext σ (σ ++ [.list [.fset []]]):=Ext.refl.app _
 refine (h.ext x0).bl fun pk bs a1 a2 n=>ae ?_
 refine an (b9 (ak (Evs.cons (Ev.loc ⟨rfl⟩) Evs.nil) (le4 rfl) (ar (Ev.blt (Evs.cons (Ev.attr (Ev.loc ⟨rfl⟩) a1) Evs.nil) (Bl.len a2)) ⟨_,_,.rep .a0 (n ▸ l4),?_⟩)))
 rw [n]
 have x1:=x0.app [AO.list (List.replicate B.length (AV.fset []))]
 have c1 : Hc ((σ ++ [.list [.fset []]]) ++ [.list (List.replicate B.length (.fset []))]) (σ ++ [AO.list [.fset []]]).length (.list (List.replicate B.length (.fset []))):=.a0
 have g1 : σ.length ≤ (σ ++ [AO.list [.fset []]]).length:=by rw [List.length_append]; exact Nat.le_add_right _ _
 revert x1 c1
 generalize (σ ++ [.list [.fset []]]) ++ [.list (List.replicate B.length (.fset []))] = σ1
 generalize (σ ++ [AO.list [.fset []]]).length = pf at g1
 intro x1 c1
 refine an (aI (Evs.cons (Ev.loc ⟨rfl⟩) Evs.nil) (tD (h.ext x1) hB fun pa rs τ g2 c2 e2 nd gt tb x2=>?_))
 clear a1 a2 n
 refine (h.ext (x1.trans x2)).bl fun pk bs a1 a2 n=>?_
 refine an (aR (.cons (.blt (.cons (.blt (.cons (Ev.attr (Ev.loc ⟨rfl⟩) a1) .nil) (.len a2)) .nil) (.rng1 (n ▸ l4))) .nil) (.lr (n ▸ l4)) ?_)
 rw [n]
 have np : pf < pa:=Nat.lt_of_lt_of_le c1.lt g2
 have npl : pa < τ.length:=c2.lt
 have rl : ∀ a ∈ rs,a < τ.length:=fun a m=>by
  obtain ⟨i,hi⟩:=List.getElem?_of_mem m
  exact (tb i a hi).lt
 refine qP (oQ h hB hu hs (pf:=pf) (pl:=τ.length) (pa:=pa) (rs:=rs) ((x1.trans x2).app _) g1 (Nat.le_trans g1 (Nat.le_of_lt (Nat.lt_trans np npl))) (Nat.ne_of_lt (Nat.lt_trans np npl)) ⟨Nat.ne_of_gt np,Nat.ne_of_lt npl⟩ ⟨fun m=>Nat.lt_asymm np (gt _ m),fun m=>Nat.lt_irrefl _ (rl _ m)⟩ ?_ .a0 c2.keep e2 (tb.ext (Ext.refl.app _)) fun fs e τ' f1 f2 f3=>.next (ax (Ev.loc ⟨rfl⟩) ⟨k pf fs τ' g1 f1 f2 f3⟩))
 rw [List.map_replicate]; exact (x2.hc c1).keep
end
theorem mt0 : prg.mt 25 0 = some none:=by kernel_rfl
theorem mt64 : prg.mt 25 64 = some none:=by kernel_rfl
theorem mt66 : prg.mt 25 66 = some none:=by kernel_rfl
theorem mt65 : prg.mt 25 65 = some (some 601):=by kernel_rfl
theorem mt67 : prg.mt 25 67 = some (some 602):=by kernel_rfl
theorem mt76 : prg.mt 25 76 = some (some 603):=by kernel_rfl
theorem mt77 : prg.mt 25 77 = some (some 604):=by kernel_rfl
inductive LvA (σ : Hp) (ps pb : Nat) (B : List Blk) (f1 f2 : List (List Int)) : Prop
 | mk {z p1 p2 : Nat} : Hc σ ps (.inst 25 z) -> Hc σ z (.attrs [(0,.ref pb),(64,.ref p1),(66,.ref p2)]) -> Hc σ p1 (.list (f1.map .fset)) -> Hc σ p2 (.list (f2.map .fset)) -> LvA σ ps pb B f1 f2
theorem LvA.ext {σ τ : Hp} {ps pb : Nat} {B : List Blk} {f1 f2 : List (List Int)} (h : LvA σ ps pb B f1 f2) (x : Ext σ τ) : LvA τ ps pb B f1 f2:=let ⟨a,b,c,d⟩:=h; ⟨x.hc a,x.hc b,x.hc c,x.hc d⟩
section
variable {d pb ps z b i : Nat} {σ : Hp} {B : List Blk} {f1 f2 : List (List Int)} {al : List (Nat × AV)} {Q : AV -> Hp -> Prop}
theorem hF (h : At σ pb B) (hB : aA B) (hi : Hc σ ps (.inst 25 z)) (hz : Hc σ z (.attrs al)) (g : getVar 0 al = some (.ref pb)) : ∀ σ' s (b i : Nat) l Q,Ext σ σ' -> lineAt B b i = some l -> (∀ τ,Ext σ' τ -> Q (.fset (stepF usesL l s)) τ) -> vF (d + 4) 601 [.ref ps,.fset s,.int b,.int i] σ' Q :=
 fun σ' s b i l Q x hl q=>q9 (h.ext x) hl (cD hB hl) (fun τ y=>.at (y.hc (x.hc hi)) (y.hc (x.hc hz)) g mt0) q
theorem qw (h : At σ pb B) (hB : aA B) (hi : Hc σ ps (.inst 25 z)) (hz : Hc σ z (.attrs al)) (g : getVar 0 al = some (.ref pb)) : ∀ σ' s (b i : Nat) l Q,Ext σ σ' -> lineAt B b i = some l -> (∀ τ,Ext σ' τ -> Q (.fset (stepF dropsL l s)) τ) -> vF (d + 4) 602 [.ref ps,.fset s,.int b,.int i] σ' Q :=
 fun σ' s b i l Q x hl q=>q8 (h.ext x) hl (cD hB hl) (fun τ y=>.at (y.hc (x.hc hi)) (y.hc (x.hc hz)) g mt0) q
theorem fair_uses : Fair usesL:=fun uw uw h=>jL h
theorem fair_drops : Fair dropsL:=fun uw uw h=>iM h
theorem qa (h : At σ pb B) (hB : aA B) (k : ∀ f1 f2 τ,LvA τ (σ.length + 1) pb B f1 f2 -> Fx B usesL f1 [] -> Fx B dropsL f2 [] -> Ext σ τ -> Q .none τ) : vF (d + 7) 600 [.ref (σ.length + 1),.ref pb] (σ ++ [.attrs [],.inst 25 σ.length]) Q:=by
 have m1 : ∀ q ∈ [σ.length],σ.length ≤ q:=fun q m=>List.mem_singleton.mp m ▸ Nat.le_refl _
 have ms : σ.length ∈ [σ.length]:=List.mem_singleton.mpr rfl
 have nm : ∀ {q},q ≠ σ.length -> q ∉ [σ.length]:=fun n m=>n (List.mem_singleton.mp m)
 refine ae ?_
 refine cN (ar (Ev.loc ⟨rfl⟩) ⟨σ.length + 1,25,σ.length,[],⟨rfl⟩,.a1,.a0,mt0,le4 rfl,?_⟩)
 have k1 : Kp [σ.length] σ ((σ ++ [AO.attrs [],.inst 25 σ.length]).set σ.length (.attrs (setVar 0 (.ref pb) []))):=((Ext.refl.app [AO.attrs [],.inst 25 σ.length]).kp).set ms
 have i1 : Hc ((σ ++ [AO.attrs [],.inst 25 σ.length]).set σ.length (.attrs (setVar 0 (.ref pb) []))) (σ.length + 1) (.inst 25 σ.length):=Hc.a1.ne (Nat.ne_of_lt (Nat.lt_succ_self _))
 have z1 : Hc ((σ ++ [AO.attrs [],.inst 25 σ.length]).set σ.length (.attrs (setVar 0 (.ref pb) []))) σ.length (.attrs [(0,.ref pb)]):=Hc.a0.same
 revert k1 i1 z1
 generalize (σ ++ [AO.attrs [],.inst 25 σ.length]).set σ.length (.attrs (setVar 0 (.ref pb) [])) = σ1
 intro k1 i1 z1
 have A1:=h.ext (k1.ext m1)
 have u1 : Ga σ1 (.ref (σ.length + 1)) 65 (.meth (.ref (σ.length + 1)) 601):=.me i1 z1 rfl mt65
 refine cN (aI (Evs.cons (Ev.loc ⟨rfl⟩) (Evs.cons Ev.no (Evs.cons (Ev.attr (Ev.loc ⟨rfl⟩) u1) (Evs.cons Ev.glo Evs.nil)))) (o6 A1 hB fair_uses (hF A1 hB i1 z1 rfl) fun p1 f1 τ g1 c1 s1 x1=>⟨σ.length + 1,25,σ.length,[(0,.ref pb)],⟨rfl⟩,x1.hc i1,x1.hc z1,mt64,le4 rfl,?_⟩))
 have k2 : Kp [σ.length] σ (τ.set σ.length (.attrs (setVar 64 (.ref p1) [(0,.ref pb)]))):=(k1.up x1).set ms
 have i2 : Hc (τ.set σ.length (.attrs (setVar 64 (.ref p1) [(0,.ref pb)]))) (σ.length + 1) (.inst 25 σ.length):=(x1.hc i1).ne (Nat.ne_of_lt (Nat.lt_succ_self _))
 have z2 : Hc (τ.set σ.length (.attrs (setVar 64 (.ref p1) [(0,.ref pb)]))) σ.length (.attrs [(0,.ref pb),(64,.ref p1)]):=(x1.hc z1).same
 have c2 : Hc (τ.set σ.length (.attrs (setVar 64 (.ref p1) [(0,.ref pb)]))) p1 (.list (f1.map .fset)):=c1.ne (Nat.ne_of_lt (Nat.lt_of_lt_of_le z1.lt g1))
 have lp : σ.length < p1:=Nat.lt_of_lt_of_le z1.lt g1
 revert k2 i2 z2 c2
 generalize τ.set σ.length (.attrs (setVar 64 (.ref p1) [(0,.ref pb)])) = σ2
 intro k2 i2 z2 c2
 have A2:=h.ext (k2.ext m1)
 have u2 : Ga σ2 (.ref (σ.length + 1)) 67 (.meth (.ref (σ.length + 1)) 602):=.me i2 z2 rfl mt67
 refine cN (aI (Evs.cons (Ev.loc ⟨rfl⟩) (Evs.cons Ev.no (Evs.cons (Ev.attr (Ev.loc ⟨rfl⟩) u2) (Evs.cons Ev.glo Evs.nil)))) (o6 A2 hB fair_drops (qw A2 hB i2 z2 rfl) fun p2 f2 υ g2 c3 s2 x2=>⟨σ.length + 1,25,σ.length,[(0,.ref pb),(64,.ref p1)],⟨rfl⟩,x2.hc i2,x2.hc z2,mt66,le4 rfl,fO ⟨k f1 f2 _ ⟨(x2.hc i2).ne (Nat.ne_of_lt (Nat.lt_succ_self _)),(x2.hc z2).same,(x2.hc c2).ne (Nat.ne_of_lt lp),c3.ne (Nat.ne_of_lt (Nat.lt_of_lt_of_le z2.lt g2))⟩ s1 s2 (((k2.up x2).set ms).ext m1)⟩⟩))
variable {ss : List St} {t : Tm}
theorem q7 (h : At σ pb B) (hB : aA B) (hv : LvA σ ps pb B f1 f2) (hb : B[b]? = some (ss,t)) (hi : i ≤ ss.length) (n1 : f1.length = B.length) (k : ∀ τ,Ext σ τ -> Q (.fset (atF B usesL f1 b i)) τ) : vF (d + 8) 603 [.ref ps,spotA (b,i)] σ Q:=by
 obtain ⟨i1,z1,c1,c2⟩:=hv
 have u1 : Ga σ (.ref ps) 65 (.meth (.ref ps) 601):=.me i1 z1 rfl mt65
 have u2 : Ga σ (.ref ps) 0 (.ref pb):=.at i1 z1 rfl mt0
 have u3:=Ga.at i1 z1 rfl mt64
 refine ae ?_
 exact ac (aI (Evs.cons (Ev.attr (Ev.loc ⟨rfl⟩) u2) (Evs.cons (Ev.attr (Ev.loc ⟨rfl⟩) u3) (Evs.cons (Ev.loc ⟨rfl⟩) (Evs.cons Ev.no (Evs.cons (Ev.attr (Ev.loc ⟨rfl⟩) u1) (Evs.cons Ev.glo Evs.nil)))))) (o4 h hB hb hi c1 n1 (fun σ' s i l Q=>hF h hB i1 z1 rfl σ' s b i l Q) fun τ x=>⟨by have:=k τ x; unfold atF at this; rw [da hb] at this; exact this⟩))
theorem q6 (h : At σ pb B) (hB : aA B) (hv : LvA σ ps pb B f1 f2) (hb : B[b]? = some (ss,t)) (hi : i ≤ ss.length) (n1 : f2.length = B.length) (k : ∀ τ,Ext σ τ -> Q (.fset (atF B dropsL f2 b i)) τ) : vF (d + 8) 604 [.ref ps,spotA (b,i)] σ Q:=by
 obtain ⟨i1,z1,c1,c2⟩:=hv
 have u1 : Ga σ (.ref ps) 67 (.meth (.ref ps) 602):=.me i1 z1 rfl mt67
 have u2 : Ga σ (.ref ps) 0 (.ref pb):=.at i1 z1 rfl mt0
 have u3:=Ga.at i1 z1 rfl mt66
 refine ae ?_
 exact ac (aI (Evs.cons (Ev.attr (Ev.loc ⟨rfl⟩) u2) (Evs.cons (Ev.attr (Ev.loc ⟨rfl⟩) u3) (Evs.cons (Ev.loc ⟨rfl⟩) (Evs.cons Ev.no (Evs.cons (Ev.attr (Ev.loc ⟨rfl⟩) u1) (Evs.cons Ev.glo Evs.nil)))))) (o4 h hB hb hi c2 n1 (fun σ' s i l Q=>qw h hB i1 z1 rfl σ' s b i l Q) fun τ x=>⟨by have:=k τ x; unfold atF at this; rw [da hb] at this; exact this⟩))
end
noncomputable def lenB (B : List Blk) (b : Nat) : Nat:=((B[b]?).map (·.1.length)).getD 0
noncomputable def ptsU (B : List Blk) (j : Nat) : List (Nat × Nat):=(List.range j).flatMap fun b=>(List.range (lenB B b + 1)).map fun i=>(b,i)
noncomputable def pts (B : List Blk) : List (Nat × Nat):=ptsU B B.length
noncomputable def spots (l : List (Nat × Nat)) : List AV:=l.map spotA
theorem cI (B : List Blk) (j : Nat) : ptsU B (j + 1) = ptsU B j ++ (List.range (lenB B j + 1)).map fun i=>(j,i):=by
 unfold ptsU
 rw [List.range_succ,List.flatMap_append,List.flatMap_cons,List.flatMap_nil,List.append_nil]
theorem dq {B : List Blk} {b : Nat} {ss : List St} {t : Tm} (hb : B[b]? = some (ss,t)) : lenB B b = ss.length:=by unfold lenB; rw [hb]; rfl
theorem pV {B : List Blk} (hB : aA B) (b : Nat) : lenB B b ≤ 2:=by
 cases h : B[b]? with
 | none=>unfold lenB; rw [h]; exact Nat.zero_le _
 | some x=>rw [dq (ss:=x.1) (t:=x.2) h]; exact (hB.bk b x.1 x.2 h).1
theorem eH {B : List Blk} (hB : aA B) (j : Nat) : (ptsU B j).length ≤ 3 * j:=by
 induction j with
 | zero=>exact Nat.le_refl _
 | succ j ih=>rw [cI,List.length_append,List.length_map,List.length_range]; have:=pV hB j; lia
theorem cj {B : List Blk} (hB : aA B) : (pts B).length ≤ 9:=Nat.le_trans (eH hB _) (Nat.mul_le_mul_left 3 hB.hi)
theorem aP (a b : List (Nat × Nat)) : spots (a ++ b) = spots a ++ spots b:=List.map_append ..
theorem aO (a : List (Nat × Nat)) : (spots a).length = a.length:=List.length_map ..
theorem bO {σ τ : Hp} (x : Ext σ τ) : σ.length ≤ τ.length:=by
 rcases Nat.lt_or_ge τ.length σ.length with h | h
 ·exact absurd (x.hc (p:=τ.length) ⟨List.getElem?_eq_getElem h⟩).lt (Nat.lt_irrefl _)
 ·exact h
section
variable {d pb : Nat} {σ : Hp} {B : List Blk} {Q : AV -> Hp -> Prop}
theorem tE (h : At σ pb B) (hB : aA B) (k : RetL σ (spots (pts B)) Q) : vF (d + 2) 3 [.ref pb] σ Q:=by
 have x0 : Ext σ (σ ++ [.list []]):=Ext.refl.app _
 have l3:=hB.hi
 refine ae ?_
 refine an (ak .nil (le4 rfl) ?_)
 refine (h.ext x0).bl fun pk bs a1 a2 n=>?_
 refine aW (aR (Evs.cons (Ev.blt (Evs.cons (Ev.attr (Ev.loc ⟨rfl⟩) a1) Evs.nil) (Bl.len a2)) Evs.nil) (.rng1 (n ▸ Nat.le_trans l3 (le4 rfl))) ?_)
 rw [n]
 refine dF (fun j ρ υ=>(∃ e,ρ = (0,AV.ref pb) :: (4,AV.ref σ.length) :: e) /\ Hc υ σ.length (.list (spots (ptsU B j))) /\ Ext σ υ) B.length ⟨⟨[],rfl⟩,.a0,x0⟩ ?_ fun ρ υ ⟨⟨e,i1⟩,i2,i3⟩=>by
  subst i1
  exact ⟨dY _ (Int.lt_irrefl _),.next (ax (Ev.loc ⟨rfl⟩) ⟨k _ _ i3 (Nat.le_refl _) i2⟩)⟩
 intro j ρ υ hj ⟨⟨e,i1⟩,i2,i3⟩
 subst i1
 obtain ⟨ss,t,hb⟩ : ∃ ss t,B[j]? = some (ss,t):=⟨_,_,List.getElem?_eq_getElem hj⟩
 have l2:=(hB.bk j ss t hb).1
 refine ⟨_,iq _ (Int.ofNat_lt.mpr hj),?_⟩
 clear a1 a2 n
 refine (h.ext i3).bk hb fun pk bs lb ll a1 a2 a3 a4 a5 c1 uw=>?_
 have add : Bi .add (.int ((ss.map avS).length : Nat)) (.int 1) υ (.int ((ss.length + 1 : Nat) : Int)) υ:=⟨by rw [List.length_map]; rfl⟩
 have g1 : Gv ((0,AV.ref pb) :: (4,AV.ref σ.length) :: setVar 1 (.int j) e) 1 (.int j):=⟨(gv_set (x:=1) (ρ:=e)).go⟩
 refine oI (.loc ⟨rfl⟩) i2 (aT (bM (af (b9 (bM (af (x_m (.loc ⟨rfl⟩) c1 (cy (.cons (.loc g1) .nil) (gM a1 a2 a3 a4 (ad ⟨_,_,.len a5,ar .lit ⟨_,_,add,ad ⟨_,_,.rng1 (Nat.le_trans (Nat.succ_le_succ l2) (le4 rfl)),?_⟩⟩⟩))))))))))
 refine gY (fun i χ=>Hc χ υ.length (.list (spots ((List.range i).map fun i=>(j,i)))) /\ Ext υ χ) (ss.length + 1) ⟨.a0,Ext.refl.app _⟩ ?_ fun χ ⟨c,x⟩=>⟨dY _ (Int.lt_irrefl _),_,_,_,rfl,x.hc i2,c,?_,aJ ⟨⟨_,rfl⟩,?_,(i3.trans x).set (Nat.le_refl _)⟩⟩
 ·intro i χ hi ⟨c,x⟩
  refine ⟨_,_,iq _ (Int.ofNat_lt.mpr hi),rfl,t_n (.t (ar (v:=spotA (j,i)) (.tup (.cons (.loc ⟨g1.go⟩) (.cons (.loc ⟨rfl⟩) .nil))) ⟨_,c,?_,?_,(x.set (Nat.le_refl _))⟩))⟩
  ·rw [aO,List.length_map,List.length_range]; lia
  ·rw [List.range_succ,List.map_append,aP]; exact c.same
 ·have:=eH hB j
  rw [List.length_append,aO,aO,List.length_map,List.length_range]; lia
 ·rw [cI,dq hb,aP]; exact (x.hc i2).same
end
noncomputable def lstF (B : List Blk) (u : Ln -> List Nat) (fs : List (List Int)) (P : List (Nat × Nat)) (b : Nat) : List AV:=spots (P.filter fun p=>decide ((b : Int) ∈ atF B u fs p.1 p.2))
theorem nu (B : List Blk) (u : Ln -> List Nat) (fs : List (List Int)) (P : List (Nat × Nat)) (b : Nat) : (lstF B u fs P b).length ≤ P.length:=by
 unfold lstF; rw [aO]; exact List.length_filter_le ..
theorem up_nd : ∀ (l : List Int),Up l -> l.Nodup
 | [],_=>List.nodup_nil
 | a :: r,h=>List.nodup_cons.mpr ⟨fun m=>Int.lt_irrefl _ (h.1 a m),up_nd r h.2⟩
theorem lq (B : List Blk) (u : Ln -> List Nat) (fs : List (List Int)) (P : List (Nat × Nat)) (p : Nat × Nat) (b : Nat) (hn : (atF B u fs p.1 p.2).Nodup) : lstF B u fs (P ++ [p]) b = lstF B u fs P b ++ List.replicate ((atF B u fs p.1 p.2).count (b : Int)) (spotA p):=by
 unfold lstF
 rw [List.filter_append,aP,List.Nodup.count hn]
 congr 1
 by_cases h : (b : Int) ∈ atF B u fs p.1 p.2
 ·rw [if_pos h,List.filter_cons,if_pos (decide_eq_true h)]; rfl
 ·rw [if_neg h,List.filter_cons,if_neg (by rw [decide_eq_false h]; exact Bool.false_ne_true)]; rfl
theorem pts_at {B : List Blk} {p : Nat × Nat} : p ∈ pts B ↔ ∃ ss t,B[p.1]? = some (ss,t) /\ p.2 ≤ ss.length:=by
 obtain ⟨b,i⟩:=p
 unfold pts ptsU
 rw [List.mem_flatMap]
 constructor
 ·rintro ⟨c,hc,m⟩
  refine aw (List.mem_map.mp m) fun j hj e=>?_
  cases e
  have hb:=List.getElem?_eq_getElem (List.mem_range.mp hc)
  rw [dq hb] at hj
  exact ⟨_,_,hb,Nat.lt_succ_iff.mp (List.mem_range.mp hj)⟩
 ·rintro ⟨ss,t,hb,hi⟩
  exact ⟨b,List.mem_range.mpr (cP hb),List.mem_map.mpr ⟨i,List.mem_range.mpr (by rw [dq hb]; exact Nat.lt_succ_iff.mpr hi),rfl⟩⟩
theorem i8 {B : List Blk} {p : Nat × Nat} (h : p ∈ pts B) : ∃ l,lineAt B p.1 p.2 = some l:=by
 refine eJ (pts_at.mp h) fun ss t hb hi=>?_
 exact ⟨_,List.getElem?_eq_getElem (by rw [c7 hb]; exact Nat.lt_succ_iff.mpr hi)⟩
theorem bN {B : List Blk} {u : Ln -> List Nat} {fs : List (List Int)} (hB : aA B) (h : Fx B u fs []) {p : Nat × Nat} (hp : p ∈ pts B) (x : Int) : x ∈ atF B u fs p.1 p.2 ↔ cx B u x p:=by
 refine eJ (pts_at.mp hp) fun ss t hb hi=>?_
 exact ⟨fun hx=>fP (h.live x) hb (ss.length - p.2) p.2 (Nat.add_sub_cancel' hi) hx,fun hx=>oL (fun g hg=>h.done g hg (fun m=>nomatch m) x) hB hx⟩
theorem qu {d c k : Nat} {ρ : Env} {σ : Hp} {es : List X} {vs : List AV} {Q : AV -> Hp -> Prop} (h : Evs es ρ σ vs) (e : prg.init c = some k) (q : vF d k (.ref (σ.length + 1) :: vs) (σ ++ [.attrs [],.inst c σ.length]) fun r τ=>r = .none /\ Q (.ref (σ.length + 1)) τ) : vX (d + 1) (.call (.glo (.cls c)) es) ρ σ Q:=⟨h.go _ _ _ (aK e q.go)⟩
theorem Bl.sf {s : List Int} {σ : Hp} (l : (s.map AV.int).length ≤ 4000) : Bl .sorted [.fset s] σ (.ref σ.length) (σ ++ [.list (s.map .int)]):=⟨if_pos l⟩
theorem lZ {d T k : Nat} {u : Ln -> List Nat} {fs : List (List Int)} {B : List Blk} {rs : List Nat} {q ps : Nat} {p : Nat × Nat} {P : List (Nat × Nat)} {K : Env -> Env} {e0 : Env} {σ : Hp} {ss : List XS} {F : Fl -> Env -> Hp -> Prop} {m : Nat}
  (hT : Nat.beq 16 T = false) (hK : ∀ v e,setVar 16 v (K e) = K (setVar 16 v e)) (r1 : ∀ e,Gv (K e) T (.ref q)) (r2 : ∀ e,Gv (K e) 13 (.ref ps)) (r3 : Gv (K e0) 3 (spotA p)) (hc : Cm σ (.ref ps) m (some k))
  (hk : ∀ Q,(∀ τ,Ext σ τ -> Q (.fset (atF B u fs p.1 p.2)) τ) -> vF d k [.ref ps,spotA p] σ Q) (up : Up (atF B u fs p.1 p.2)) (sm : ∀ x ∈ atF B u fs p.1 p.2,0 ≤ x /\ x ≤ 6) (n7 : rs.length = 7) (lP : P.length ≤ 9)
  (hq : Hc σ q (.list (rs.map .ref))) (ht : Tab σ rs (lstF B u fs P)) (nd : rs.Nodup) (n2 : q ∉ rs) (lt : ∀ a ∈ rs,a < σ.length)
  (K2 : ∀ e' τ,Gv (K e') 3 (spotA p) -> Tab τ rs (lstF B u fs (P ++ [p])) -> Kp rs σ τ -> vSs d ss (K e') τ F) :
  vSs d ((.for1 16 (.call (.glo (.blt .sorted)) [(.mcall (.loc 13) m [(.loc 3)])]) [(.expr (.mcall (.sub (.loc T) (.loc 16)) 18 [(.loc 3)]))]) :: ss) (K e0) σ F:=by
 have l7 : (atF B u fs p.1 p.2).length ≤ 7:=up_len _ 7 up fun x hx=>by have:=sm x hx; lia
 refine aW (bM (af (x_m (.loc (r2 _)) hc (cy (.cons (.loc r3) .nil) (hk _ fun τ x=>ad ⟨_,_,.sf (by rw [List.length_map]; exact Nat.le_trans l7 (le4 rfl)),?_⟩)))))
 have x1 : Ext σ (τ ++ [AO.list ((atF B u fs p.1 p.2).map .int)]):=x.app _
 refine jO hT rfl hK (fun g hg=>⟨(sm g hg).1,by have:=sm g hg; rw [n7]; lia⟩) .a0 (x1.hc hq) (ht.ext x1) nd (fun m=>Nat.not_lt.mpr (bO x) (lt _ m)) n2 r1 r3 (fun b uw=>?_) fun e' τ' r4 t1 k1=>.next (K2 e' τ' r4 ?_ (x1.kp.trans k1))
 ·have:=nu B u fs P b; lia
 ·exact t1.cong fun b uw=>(lq B u fs P p b (up_nd _ up)).symm
section
variable {d pb : Nat} {σ : Hp} {B : List Blk} {Q : AV -> Hp -> Prop}
theorem so (h : At σ pb B) (hB : aA B)
  (k : ∀ q1 q2 rs1 rs2 f1 f2 τ,Fx B usesL f1 [] -> Fx B dropsL f2 [] -> Hc τ q1 (.list (rs1.map .ref)) -> Hc τ q2 (.list (rs2.map .ref)) -> rs1.length = 7 -> rs2.length = 7 -> Tab τ rs1 (lstF B usesL f1 (pts B)) -> Tab τ rs2 (lstF B dropsL f2 (pts B)) -> Ext σ τ -> Q (.tup [.ref q1,.ref q2]) τ) :
  vF (d + 9) 26 [.ref pb] σ Q:=by
 refine ae ?_
 refine an (qu (k:=600) (Evs.cons (Ev.loc ⟨rfl⟩) Evs.nil) rfl (qa h hB fun f1 f2 τ V s1 s2 x0=>⟨rfl,?_⟩))
 generalize σ.length + 1 = ps at V
 refine (h.ext x0).lo fun q0 ln l1 l2 l3=>?_
 refine cO (aD (af (aT (ar (Ev.attr (Ev.loc ⟨rfl⟩) l1) (jv l2 l3 (le4 rfl) fun rs1 τ2 b1 b2 b3 b4 b5 b6=>?_)))))
 clear l1 l2 l3
 refine ((h.ext x0).ext b6).lo fun q0 ln l1 l2 l3=>?_
 refine af (aT (ar (Ev.attr (Ev.loc ⟨rfl⟩) l1) (jv l2 l3 (le4 rfl) fun rs2 τ3 c1 c2 c3 c4 c5 c6=>ad ⟨_,rfl,rfl,?_⟩)))
 clear l1 l2 l3
 have x3 : Ext σ τ3:=(x0.trans b6).trans c6
 refine aW (aI (Evs.cons (Ev.loc ⟨rfl⟩) Evs.nil) (tE (h.ext x3) hB fun pp τ4 d1 d2 d3=>?_))
 rw [gQ d3]
 have lq1:=b1.lt
 have xl:=bO x0
 have xl2:=bO b6
 have xl3:=bO c6
 have n1 : τ.length ∉ rs1:=fun m=>Nat.lt_irrefl _ (b4 _ m).1
 have n2 : τ.length ∉ rs2:=fun m=>Nat.lt_asymm lq1 (c4 _ m).1
 have n3 : τ2.length ∉ rs1:=fun m=>Nat.lt_irrefl _ (b4 _ m).2
 have n4 : τ2.length ∉ rs2:=fun m=>Nat.lt_irrefl _ (c4 _ m).1
 have n5 : ∀ a ∈ rs1,a ∉ rs2:=fun a m m'=>Nat.lt_asymm (b4 _ m).2 (c4 _ m').1
 have m12 : ∀ {a},a ∉ rs1 -> a ∉ rs2 -> a ∉ rs1 ++ rs2:=fun a b m=>(List.mem_append.mp m).elim a b
 have s0 : ∀ a ∈ rs1 ++ rs2,τ.length ≤ a:=fun a m=>(List.mem_append.mp m).elim (fun m=>Nat.le_of_lt (b4 _ m).1) fun m=>Nat.le_trans xl2 (Nat.le_of_lt (c4 _ m).1)
 have lt4:=bO d1
 have y4 : Ext τ τ4:=(b6.trans c6).trans d1
 have ppn : pp ∉ rs1 ++ rs2:=m12 (fun m=>Nat.not_lt.mpr d2 (Nat.lt_of_lt_of_le (b4 _ m).2 xl3)) fun m=>Nat.not_lt.mpr d2 (c4 _ m).2
 have pl:=cj hB
 refine dF (fun j ρ υ=>(∃ e,ρ = (0,AV.ref pb) :: (13,AV.ref ps) :: (43,AV.ref τ.length) :: (44,AV.ref τ2.length) :: e) /\ Kp (rs1 ++ rs2) τ4 υ /\ Tab υ rs1 (lstF B usesL f1 ((pts B).take j)) /\ Tab υ rs2 (lstF B dropsL f2 ((pts B).take j))) (pts B).length ⟨⟨[],rfl⟩,.refl,(b5.ext c6).ext d1,c5.ext d1⟩ ?_ fun ρ υ ⟨⟨e,i1⟩,i2,i3,i4⟩=>by
  subst i1
  rw [List.take_length] at i3 i4
  exact ⟨by rw [dM (i2.hc ppn d3),spots,List.getElem?_map,List.getElem?_eq_none (Nat.le_refl _)]; rfl,.next (ax (Ev.tup (Evs.cons (Ev.loc ⟨rfl⟩) (Evs.cons (Ev.loc ⟨rfl⟩) Evs.nil))) ⟨k _ _ rs1 rs2 f1 f2 υ s1 s2 (i2.hc (m12 n1 n2) (d1.hc (c6.hc b1))) (i2.hc (m12 n3 n4) (d1.hc c1)) b2 c2 i3 i4 (x0.trans ((y4.kp.trans i2).ext s0))⟩)⟩
 intro j ρ υ hj ⟨⟨e,i1⟩,i2,i3,i4⟩
 subst i1
 have yυ : Ext τ υ:=(y4.kp.trans i2).ext s0
 have mp:=List.getElem_mem hj
 refine ⟨spotA (pts B)[j],by rw [dM (i2.hc ppn d3),spots,List.getElem?_map,List.getElem?_eq_getElem hj]; rfl,?_⟩
 have tk : (pts B).take (j + 1) = (pts B).take j ++ [(pts B)[j]]:=by rw [List.take_add_one,List.getElem?_eq_getElem hj]; rfl
 rw [tk]
 have lP : ((pts B).take j).length ≤ 9:=Nat.le_trans (by rw [List.length_take]; exact Nat.min_le_right _ _) pl
 revert mp lP
 generalize (pts B)[j] = p
 generalize (pts B).take j = P at i3 i4
 intro mp lP
 refine eJ (pts_at.mp mp) fun ss t hb hi=>?_
 obtain ⟨l,hl⟩:=i8 mp
 have At' : ∀ {χ},Ext τ χ -> At χ pb B:=fun x=>h.ext (x0.trans x)
 have cu : ∀ {χ},Ext τ χ -> Cm χ (.ref ps) 76 (some 603) /\ Cm χ (.ref ps) 77 (some 604):=fun x=>let ⟨v1,v2,_,_⟩:=V.ext x; ⟨.me v1 v2 rfl mt76,.me v1 v2 rfl mt77⟩
 have lt1 : ∀ {rs L χ},Tab χ rs L -> ∀ a ∈ rs,a < χ.length:=fun t a m=>by
  obtain ⟨i,hi⟩:=List.getElem?_of_mem m
  exact (t i a hi).lt
 refine lZ (T:=43) (m:=76) (k:=603) (u:=usesL) (fs:=f1) (B:=B) (rs:=rs1) (q:=τ.length) (ps:=ps) (p:=p) (P:=P) (K:=fun e=>(0,AV.ref pb) :: (13,AV.ref ps) :: (43,AV.ref τ.length) :: (44,AV.ref τ2.length) :: e) (e0:=setVar 3 (spotA p) e) rfl (fun uw uw=>rfl) (fun uw=>⟨rfl⟩) (fun uw=>⟨rfl⟩) ⟨(gv_set (x:=3) (ρ:=e)).go⟩ (cu yυ).1
  (fun Q k=>q7 (At' yυ) hB (V.ext yυ) hb hi s1.n k) (j6 hl) (fun x hx=>gn fair_uses hB ((bN hB s1 mp x).mp hx)) b2 lP (i2.hc (m12 n1 n2) (d1.hc (c6.hc b1))) i3 b3 n1 (lt1 i3) fun e2 υ2 r3 t1 k1=>?_
 have i2:=i2.trans (k1.mono (T:=rs1 ++ rs2) fun q m=>List.mem_append_left _ m)
 have i4:=i4.kp k1 fun a m m'=>n5 a m' m
 have yυ : Ext τ υ2:=(y4.kp.trans i2).ext s0
 refine lZ (T:=44) (m:=77) (k:=604) (u:=dropsL) (fs:=f2) (B:=B) (rs:=rs2) (q:=τ2.length) (ps:=ps) (p:=p) (P:=P) (K:=fun e=>(0,AV.ref pb) :: (13,AV.ref ps) :: (43,AV.ref τ.length) :: (44,AV.ref τ2.length) :: e) (e0:=e2) rfl (fun uw uw=>rfl) (fun uw=>⟨rfl⟩) (fun uw=>⟨rfl⟩) r3 (cu yυ).2
  (fun Q k=>q6 (At' yυ) hB (V.ext yυ) hb hi s2.n k) (j6 hl) (fun x hx=>gn fair_drops hB ((bN hB s2 mp x).mp hx)) c2 lP (i2.hc (m12 n3 n4) (d1.hc c1)) i4 c3 n4 (lt1 i4) fun e3 υ3 uw t2 k2=>aJ ⟨⟨_,rfl⟩,i2.trans (k2.mono fun q m=>List.mem_append_right _ m),t1.kp k2 n5,t2⟩
end
section
variable {σ : Hp} {i j : Int}
theorem Bi.add : Bi .add (.int i) (.int j) σ (.int (i + j)) σ:=⟨rfl⟩
theorem Bi.sub : Bi .sub (.int i) (.int j) σ (.int (i - j)) σ:=⟨rfl⟩
theorem Bi.mulL (h : shortI i = true) : Bi .mul (.int i) (.int j) σ (.int (i * j)) σ:=⟨by
 show (binI .mul i j).map _ = _
 rw [show binI .mul i j = some (i * j) from if_pos (by rw [h]; rfl)]; rfl⟩
theorem Bi.mulR (h : shortI j = true) : Bi .mul (.int i) (.int j) σ (.int (i * j)) σ:=⟨by
 show (binI .mul i j).map _ = _
 rw [show binI .mul i j = some (i * j) from if_pos (by rw [h,Bool.or_true])]; rfl⟩
theorem Bi.mod (h : j ≠ 0) : Bi .mod (.int i) (.int j) σ (.int (Int.fmod i j)) σ:=⟨by
 show (binI .mod i j).map _ = _
 rw [show binI .mod i j = some (Int.fmod i j) from if_neg h]; rfl⟩
theorem Bi.fdiv {j : Nat} (h : 0 < j) (g : j ≤ 4000) : Bi .fdiv (.int i) (.int j) σ (.int (Int.fdiv i j)) σ:=⟨by
 show (binI .fdiv i j).map _ = _
 rw [show binI .fdiv i j = some (Int.fdiv i j) from if_neg fun e=>e.elim (fun e=>Nat.ne_of_gt h (Int.ofNat.inj e)) fun e=>by rw [Int.natAbs_natCast] at e; omega]; rfl⟩
theorem oH (h : i = 10 /\ j = 18) : binI .pow i j = some (10 ^ 18):=if_pos h
theorem Bi.pow : Bi .pow (.int 10) (.int 18) σ (.int (10 ^ 18)) σ:=⟨congrArg (Option.map fun k=>(AV.int k,σ)) (oH ⟨rfl,rfl⟩)⟩
theorem Bl.ii : Bl .int [.int i] σ (.int i) σ:=⟨rfl⟩
theorem Bl.b {b : Bool} : Bl .int [.bool b] σ (.int (if b then 1 else 0)) σ:=⟨rfl⟩
theorem Bl.mx : Bl .max [.int i,.int j] σ (.int (if i < j then j else i)) σ:=⟨rfl⟩
theorem u7 {b : Bool} : shortI (if b then 1 else 0) = true:=by cases b <;> kernel_rfl
theorem sh_n : shortI 7919 = true:=by kernel_rfl
theorem sh_m : shortI 48271 = true:=by kernel_rfl
theorem sh_k : shortI 31 = true:=by kernel_rfl
theorem sh_l : shortI 39373 = true:=by kernel_rfl
theorem u6 {x : Int} : shortI (Int.fmod x 2147483647) = true:=by
 have h1:=Int.fmod_lt_of_pos x (show (0 : Int) < 2147483647 by decide)
 have h2:=Int.fmod_nonneg_of_pos x (show (0 : Int) < 2147483647 by decide)
 exact decide_eq_true (by omega)
theorem fm {t : Nat} (t0 : 0 < t) (x : Int) : ∃ r : Nat,r < t /\ Int.fmod x t = r:=by
 have h1:=Int.fmod_lt_of_pos x (Int.ofNat_lt.mpr t0)
 have h2:=Int.fmod_nonneg_of_pos x (Int.ofNat_lt.mpr t0)
 exact ⟨(Int.fmod x t).toNat,by clear t0; omega,(Int.toNat_of_nonneg h2).symm⟩
end
inductive Src (σ : Hp) (p : Nat) : Prop
 | mk {a b : Int} : Hc σ p (.list [.int a,.int b]) -> Src σ p
section
variable {σ τ : Hp} {p : Nat}
theorem Src.lt (h : Src σ p) : p < σ.length:=let ⟨h⟩:=h; h.lt
theorem Src.ap (h : Src σ p) (l : Hp) : Src (σ ++ l) p:=let ⟨h⟩:=h; ⟨h.keep⟩
theorem Src.set (h : Src σ p) {q : Nat} {o : AO} (n : q ≠ p) : Src (σ.set q o) p:=let ⟨h⟩:=h; ⟨h.ne n⟩
end
section
variable {d p : Nat} {ρ : Env} {σ : Hp} {a b : X} {i j : Int} {ss A B : List XS} {F : Fl -> Env -> Hp -> Prop} {Q : AV -> Hp -> Prop}
theorem sG (h : Ev a ρ σ (.int i)) (g : Ev b ρ σ (.int j)) (t : i < j -> vSs d A ρ σ (KK d ss F)) (f : ¬ i < j -> vSs d B ρ σ (KK d ss F)) : vSs d (.ifs (.cmp .lt a b) A B :: ss) ρ σ F:=am (r:=decide (i < j)) (.cmp h g ⟨rfl⟩) (by
 by_cases c : i < j
 ·exact ay (decide_eq_true c) (t c)
 ·exact ai (decide_eq_false c) (f c))
theorem ul (h : Ev a ρ σ (.int i)) (g : Ev b ρ σ (.int j)) (t : j < i -> vSs d A ρ σ (KK d ss F)) (f : ¬ j < i -> vSs d B ρ σ (KK d ss F)) : vSs d (.ifs (.cmp .gt a b) A B :: ss) ρ σ F:=am (r:=decide (j < i)) (.cmp h g ⟨rfl⟩) (by
 by_cases c : j < i
 ·exact ay (decide_eq_true c) (t c)
 ·exact ai (decide_eq_false c) (f c))
theorem gW (h : Ev a ρ σ (.int i)) (g : Ev b ρ σ (.int j)) (t : i = j -> vSs d A ρ σ (KK d ss F)) (f : ¬ i = j -> vSs d B ρ σ (KK d ss F)) : vSs d (.ifs (.cmp .eq a b) A B :: ss) ρ σ F:=am (r:=decide (i = j)) (.cmp h g ⟨rfl⟩) (by
 by_cases c : i = j
 ·exact ay (decide_eq_true c) (t c)
 ·exact ai (decide_eq_false c) (f c))
theorem sj (xs : List Int) (k : ∀ a b,Q (.ref σ.length) (σ ++ [.list [.int a,.int b]])) : vF (d + 1) 28 [.ints xs,.int 0] σ Q:=by
 have h : ∀ c,vSs d (f28.body.drop 2) [(45,.ints xs),(35,.int 0),(55,.int c)] σ (Rt Q):=fun c=>by
  refine au (.blt (.cons (.blt (.cons (.loc ⟨rfl⟩) .nil) .ii) (.cons (.blt (.cons (.bin (.neg .lit) (.loc ⟨rfl⟩) .sub) .nil) .ii) .nil)) .mx) ?_
  refine au (.bin (.blt (.cons (.bin (.bin (.bin (.bin (.bin (.blt (.cons (.loc ⟨rfl⟩) .nil) .ii) .lit (.mod (by decide))) (.bin (.bin .lit (.loc ⟨rfl⟩) (.mulL sh_n)) (.loc ⟨rfl⟩) (.mulR rfl)) .add) (.bin .lit (.loc ⟨rfl⟩) (.mulL sh_k)) .add) .lit .add) .lit (.mulR sh_m)) .nil) .ii) .lit (.mod (by decide))) ?_
  exact ac (ak (.cons (.bin (.loc ⟨rfl⟩) (.blt (.cons (.cmp (.loc ⟨rfl⟩) (.bin .lit .lit .pow) ⟨rfl⟩) .nil) .b) (.mulR u7)) (.cons (.loc ⟨rfl⟩) .nil)) (le4 rfl) ⟨k _ _⟩)
 refine ae (au .lit ?_)
 cases xs with
 | nil=>exact am (.cmp (.loc ⟨rfl⟩) (.blt (.cons (.loc ⟨rfl⟩) .nil) ⟨rfl⟩) ⟨rfl⟩) (ai rfl (ab (h 0)))
 | cons x xs=>exact sG (.loc ⟨rfl⟩) (.blt (.cons (.loc ⟨rfl⟩) .nil) ⟨rfl⟩) (fun uw=>au (.sub (.loc ⟨rfl⟩) (.loc ⟨rfl⟩) ⟨rfl⟩) (ab (h x))) fun uw=>ab (h 0)
theorem nV {t : Nat} (h : Src σ p) (t0 : 0 < t) (t1 : t ≤ 4000) (k : ∀ (r : Nat) τ,r < t -> Src τ p -> Kp [p] σ τ -> Q (.int r) τ) : vF (d + 1) 29 [.ref p,.int t] σ Q:=by
 have tz : (t : Int) ≠ 0:=fun e=>Nat.ne_of_gt t0 (Int.ofNat.inj e)
 have pp : p ∈ [p]:=List.mem_singleton.mpr rfl
 refine ae ?_
 obtain @⟨a,b,h⟩:=h
 refine ul (.sub (.loc ⟨rfl⟩) .lit (.l h ⟨rfl⟩)) .lit (fun uw=>?_) fun uw=>ab ?_
 ·refine au (.bin (.blt (.cons (.sub (.loc ⟨rfl⟩) .lit (.l h ⟨rfl⟩)) .nil) .ii) (.loc ⟨rfl⟩) (.mod tz)) ?_
  refine jD (k:=0) (.bin (.sub (.loc ⟨rfl⟩) .lit (.l h ⟨rfl⟩)) (.loc ⟨rfl⟩) (.fdiv t0 t1)) (.loc ⟨rfl⟩) .lit h (Nat.zero_lt_succ _) (le4 rfl) ?_
  refine aw (fm t0 a) fun r hr e=>?_
  rw [e]
  exact ax (.loc ⟨rfl⟩) (.ret ⟨k r _ hr ⟨h.same⟩ (Kp.refl.set pp)⟩)
 ·refine jD (k:=1) (.bin (.blt (.cons (.bin (.bin (.sub (.loc ⟨rfl⟩) .lit (.l h ⟨rfl⟩)) .lit (.mulR sh_l)) .lit .add) .nil) .ii) .lit (.mod (by decide))) (.loc ⟨rfl⟩) .lit h (Nat.le_refl _) (le4 rfl) ?_
  refine ax (.bin (.blt (.cons (.bin (.bin (.blt (.cons (.bin (.sub (.loc ⟨rfl⟩) .lit (.l h.same ⟨rfl⟩)) (.sub (.loc ⟨rfl⟩) .lit (.l h.same ⟨rfl⟩)) (.mulR u6)) .nil) .ii) .lit (.mod (by decide))) .lit (.fdiv (j:=32) (i:=Int.fmod (Int.fmod (b * 39373 + 7) 2147483647 * Int.fmod (b * 39373 + 7) 2147483647) 2147483629) (Nat.zero_lt_succ _) (le4 rfl))) .nil) .ii) (.loc ⟨rfl⟩) (.mod tz)) ?_
  refine aw (fm t0 (Int.fdiv (Int.fmod (Int.fmod (b * 39373 + 7) 2147483647 * Int.fmod (b * 39373 + 7) 2147483647) 2147483629) 32)) fun r hr e=>?_
  exact ⟨e ▸ k r _ hr ⟨h.same⟩ (Kp.refl.set pp)⟩
theorem nU {q : Nat} {xs : List AV} (h : Src σ p) (hq : Hc σ q (.list xs)) (x0 : 0 < xs.length) (x1 : xs.length ≤ 4000) (n : q ≠ p) (k : ∀ (r : Nat) v τ,Nt xs r v -> Src τ p -> Kp [p] σ τ -> Q v τ) : vF (d + 2) 30 [.ref p,.ref q] σ Q:=by
 refine ae (ac (qr (ar (.loc ⟨rfl⟩) (aI (.cons (.loc ⟨rfl⟩) (.cons (.blt (.cons (.loc ⟨rfl⟩) .nil) (.len hq)) .nil)) (nV h x0 x1 fun r τ hr s kp=>?_)))))
 have nt : Nt xs r xs[r]:=⟨List.getElem?_eq_getElem hr⟩
 exact ⟨_,.l (kp.hc (fun m=>n (List.mem_singleton.mp m)) hq) (.nat nt),⟨k r _ τ nt s kp⟩⟩
end
theorem le6 {r t : Nat} (h : r < t) (e : Nat.ble t 6 = true) : ((1 + r : Nat) : Int) ≤ 6:=Int.ofNat_le.mpr (Nat.le_trans (Nat.add_comm 1 r ▸ h) (Nat.le_of_ble_eq_true e))
theorem qR {d : Nat} {t a b : X} {ρ : Env} {σ : Hp} {Q : AV -> Hp -> Prop} (h : vX d t ρ σ fun v τ=>∃ r,v = .bool r /\ By (vX d a ρ τ Q) (vX d b ρ τ Q) r) : vX d (.ite t a b) ρ σ Q:=⟨h.m fun uw uw ⟨r,e,q⟩=>by rw [e]; cases q with | t q=>exact q.go | f q=>exact q.go⟩
section
variable {d p : Nat} {σ : Hp} {ρ : Env} {Q : AV -> Hp -> Prop} (h : Src σ p)
include h
theorem x29 {e : X} (t : Nat) (e0 : Nat.ble 1 t = true) (e1 : Nat.ble t 4000 = true) (g : Gv ρ 2 (.ref p)) (ht : Ev e ρ σ (.int t)) (k : ∀ (r : Nat) τ,r < t -> Src τ p -> Kp [p] σ τ -> Q (.int r) τ) : vX (d + 1) (.call (.glo (.fn 29)) [.loc 2,e]) ρ σ Q :=
 aI (.cons (.loc g) (.cons ht .nil)) (nV h (Nat.le_of_ble_eq_true e0) (le4 e1) k)
theorem si (k : ∀ a τ,GoodP a -> Src τ p -> Kp [p] σ τ -> Q (avP a) τ) : vF (d + 2) 32 [.ref p] σ Q:=by
 refine ae ?_
 refine an (x29 h 6 rfl rfl ⟨rfl⟩ .lit fun r τ hr s kp=>?_)
 refine sG (.loc gv_set) .lit (fun c=>?_) fun uw=>ab ?_
 ·exact ax (.tup (.cons (.bin .lit (.loc gv_set) .add) (.cons (.tup .nil) .nil))) (.ret ⟨k (.w (1 + r)) τ (le6 (Int.ofNat_lt.mp (show (r : Int) < (3 : Nat) from c)) rfl) s kp⟩)
 refine gW (.loc gv_set) .lit (fun c=>?_) fun uw=>ab ?_
 ·exact ac <| aD <| aL .lit <| af <| aD <| af <| aD <| aL .lit <| af <| x29 s 2 rfl rfl ⟨rfl⟩ .lit fun r τ uw s kp2=>ad <| ad <| ad <| .ret ⟨k (.f r) τ trivial s (kp.trans kp2)⟩
 ·exact ac <| aD <| aL .lit <| af <| aD <| af <| aD <| aL .lit <| af <| b9 <| ar .lit <| x29 s 3 rfl rfl ⟨rfl⟩ .lit fun r τ hr s kp2=>⟨_,_,.add,ad <| ad <| ad ⟨k (.x (1 + r)) τ (le6 hr rfl) s (kp.trans kp2)⟩⟩
theorem x32 (g : Gv ρ 2 (.ref p)) (k : ∀ a τ,GoodP a -> Src τ p -> Kp [p] σ τ -> Q (avP a) τ) : vX (d + 2) (.call (.glo (.fn 32)) [.loc 2]) ρ σ Q:=aI (.cons (.loc g) .nil) (si h k)
theorem sh (k : ∀ a τ,GoodO a -> Src τ p -> Kp [p] σ τ -> Q (avO a) τ) : vF (d + 3) 33 [.ref p] σ Q:=by
 refine ae ?_
 refine ac (qR (bG (x29 h 4 rfl rfl ⟨rfl⟩ .lit fun r τ hr s kp=>ar .lit ⟨_,⟨rfl⟩,_,rfl,?_⟩)))
 by_cases c : (r : Int) = 0
 ·exact ay (decide_eq_true c) (ar (.tup (.cons .lit (.cons .glo (.cons .lit .nil)))) ⟨k .c τ trivial s kp⟩)
 ·exact ai (decide_eq_false c) (aD <| aL .lit <| af <| x32 s ⟨rfl⟩ fun a τ2 g s2 kp2=>ad ⟨k (.p a) τ2 g s2 (kp.trans kp2)⟩)
theorem x33 (g : Gv ρ 2 (.ref p)) (k : ∀ a τ,GoodO a -> Src τ p -> Kp [p] σ τ -> Q (avO a) τ) : vX (d + 3) (.call (.glo (.fn 33)) [.loc 2]) ρ σ Q:=aI (.cons (.loc g) .nil) (sh h k)
theorem sg (k : ∀ a τ,GoodS a -> Src τ p -> Kp [p] σ τ -> Q (avS a) τ) : vF (d + 4) 34 [.ref p] σ Q:=by
 refine ae ?_
 refine an (x29 h 7 rfl rfl ⟨rfl⟩ .lit fun r τ hr s kp=>?_)
 refine sG (.loc gv_set) .lit (fun c=>?_) fun uw=>ab ?_
 ·exact ac <| aD <| aL .lit <| af <| x32 s ⟨rfl⟩ fun a τ2 g s2 kp2=>af <| aD <| aL .lit <| af <| x33 s2 ⟨rfl⟩ fun o τ3 g3 s3 kp3=>ad <| ad <| .ret ⟨k (.asg a (.use o)) τ3 ⟨g,g3⟩ s3 ((kp.trans kp2).trans kp3)⟩
 refine gW (.loc gv_set) .lit (fun c=>?_) fun uw=>ab ?_
 ·exact ac <| aD <| aL .lit <| af <| aD <| af <| b9 <| ar .lit <| x29 s 3 rfl rfl ⟨rfl⟩ .lit fun r2 τ2 hr2 s2 kp2=>⟨_,_,.add,aL (.tup .nil) <| ad <| af <| aD <| aL .lit <| aL .lit <| af <| x33 s2 ⟨rfl⟩ fun o τ3 g3 s3 kp3=>af <| x33 s3 ⟨rfl⟩ fun o2 τ4 g4 s4 kp4=>ad <| ad <| .ret ⟨k (.asg (.w (1 + r2)) (.bin o o2)) τ4 ⟨le6 hr2 rfl,g3,g4⟩ s4 (((kp.trans kp2).trans kp3).trans kp4)⟩⟩
 refine gW (.loc gv_set) .lit (fun c=>?_) fun uw=>ab ?_
 ·exact ac <| aD <| aL .lit <| aL (.tup (.cons .lit (.cons (.tup .nil) .nil))) <| af <| aD <| aL .lit <| af <| aD <| af <| x33 s ⟨rfl⟩ fun o τ3 g3 s3 kp3=>af <| x33 s3 ⟨rfl⟩ fun o2 τ4 g4 s4 kp4=>ad <| ad <| ad <| .ret ⟨k (.asg (.w 4) (.tup o o2)) τ4 ⟨le6 (r:=3) (t:=4) (Nat.le_refl _) rfl,g3,g4⟩ s4 ((kp.trans kp3).trans kp4)⟩
 refine gW (.loc gv_set) .lit (fun c=>?_) fun uw=>ab ?_
 ·exact ac <| aD <| aL .lit <| aL (.tup (.cons .lit (.cons (.tup .nil) .nil))) <| af <| aD <| aL .lit <| aL .lit <| aL .lit <| af <| x32 s ⟨rfl⟩ fun a τ2 g s2 kp2=>ad <| ad <| .ret ⟨k (.asg (.w 6) (.ref a)) τ2 ⟨le6 (r:=5) (t:=6) (Nat.le_refl _) rfl,g⟩ s2 (kp.trans kp2)⟩
 refine gW (.loc gv_set) .lit (fun c=>?_) fun uw=>ab ?_
 ·refine ac <| aD <| af <| fu <| aL (.loc ⟨rfl⟩) <| af <| ak (.cons .lit (.cons .lit .nil)) (le4 rfl) <| ad <| nU (s.ap _) .a0 (Nat.zero_lt_succ _) (le4 rfl) (Nat.ne_of_gt s.lt) fun r2 v τ2 nt s2 kp2=>af <| b9 <| ar .lit <| x29 s2 6 rfl rfl ⟨rfl⟩ .lit fun r3 τ3 hr3 s3 kp3=>⟨_,_,.add,ad <| .ret ⟨?_⟩⟩
  have kk : Kp [p] σ τ3:=(kp.trans kp2.pre).trans kp3
  rcases r2 with _ | _ | r2
  ·exact Option.some.inj nt.go ▸ k (.live (1 + r3)) τ3 (le6 hr3 rfl) s3 kk
  ·exact Option.some.inj nt.go ▸ k (.dead (1 + r3)) τ3 (le6 hr3 rfl) s3 kk
  ·exact nomatch nt.go
 ·exact ac <| aD <| aL .lit <| af <| x33 s ⟨rfl⟩ fun o τ3 g3 s3 kp3=>ad ⟨k (.print o) τ3 g3 s3 (kp.trans kp3)⟩
end
section
variable {d p m : Nat} {σ : Hp} {ρ : Env} {Q : AV -> Hp -> Prop}
theorem se (h : Src σ p) (m0 : Nat.ble 1 m = true) (m1 : Nat.ble m 4000 = true) (k : ∀ a τ,GoodT m a -> Src τ p -> Kp [p] σ τ -> Q (avT a) τ) : vF (d + 4) 35 [.ref p,.int m] σ Q:=by
 refine ae ?_
 refine cO <| aD <| af <| x29 h 6 rfl rfl ⟨rfl⟩ .lit fun r τ hr s kp=>af <| x29 s m m0 m1 ⟨rfl⟩ (.loc ⟨rfl⟩) fun g τ2 hg s2 kp2=>af <| x29 s2 m m0 m1 ⟨rfl⟩ (.loc ⟨rfl⟩) fun g2 τ3 hg2 s3 kp3=>ad ⟨_,rfl,rfl,?_⟩
 have kp':=(kp.trans kp2).trans kp3
 refine gW (.loc ⟨rfl⟩) .lit (fun c=>?_) fun uw=>ab ?_
 ·exact ax (.tup (.cons .lit .nil)) (.ret ⟨k .ret τ3 trivial s3 kp'⟩)
 refine gW (.loc ⟨rfl⟩) .lit (fun c=>?_) fun uw=>ab ?_
 ·refine ac <| aD <| aL .lit <| af <| fu <| aL (.loc ⟨rfl⟩) <| af <| ak (vs:=[avP (.w 4),avP (.w 5),avP (.f 1),avP (.w 6)]) (Evs.cons (Ev.tup (Evs.cons Ev.lit (Evs.cons (Ev.tup Evs.nil) Evs.nil))) (Evs.cons (Ev.tup (Evs.cons Ev.lit (Evs.cons (Ev.tup Evs.nil) Evs.nil))) (Evs.cons (Ev.tup (Evs.cons Ev.lit (Evs.cons (Ev.tup (Evs.cons (Ev.tup (Evs.cons Ev.lit (Evs.cons Ev.lit Evs.nil))) Evs.nil)) Evs.nil))) (Evs.cons (Ev.tup (Evs.cons Ev.lit (Evs.cons (Ev.tup Evs.nil) Evs.nil))) Evs.nil)))) (le4 rfl) <| ad <| nU (s3.ap _) .a0 (Nat.zero_lt_succ _) (le4 rfl) (Nat.ne_of_gt s3.lt) fun r2 v τ4 nt s4 kp4=>aL (.loc ⟨rfl⟩) <| ad <| .ret ⟨?_⟩
  have go (pl : Pl) (gp : GoodP pl) (gi : idx pl = []) (e : avP pl = v) : Q (.tup [.str 39,v,.int g]) τ4:=e ▸ k (.drop pl g) τ4 ⟨gp,gi,hg⟩ s4 (kp'.trans kp4.pre)
  rcases r2 with _ | _ | _ | _ | r2
  ·exact go (.w 4) (le6 (r:=3) (t:=4) (Nat.le_refl _) rfl) rfl (Option.some.inj nt.go)
  ·exact go (.w 5) (le6 (r:=4) (t:=5) (Nat.le_refl _) rfl) rfl (Option.some.inj nt.go)
  ·exact go (.f 1) trivial rfl (Option.some.inj nt.go)
  ·exact go (.w 6) (le6 (r:=5) (t:=6) (Nat.le_refl _) rfl) rfl (Option.some.inj nt.go)
  ·exact nomatch nt.go
 refine gW (.loc ⟨rfl⟩) .lit (fun c=>?_) fun uw=>ab ?_
 ·exact ac <| aD <| aL .lit <| aL (.tup (.cons .lit (.cons .lit (.cons (.tup .nil) .nil)))) <| af <| aD <| af <| x33 s3 ⟨rfl⟩ fun o τ4 g4 s4 kp4=>ad <| af <| x32 s4 ⟨rfl⟩ fun a τ5 g5 s5 kp5=>aL (.loc ⟨rfl⟩) <| ad <| .ret ⟨k (.call o a g) τ5 ⟨g4,g5,hg⟩ s5 ((kp'.trans kp4).trans kp5)⟩
 refine gW (.loc ⟨rfl⟩) .lit (fun c=>?_) fun uw=>ab ?_
 ·exact ac <| aD <| aL .lit <| af <| x33 s3 ⟨rfl⟩ fun o τ4 g4 s4 kp4=>aL .lit <| aL .lit <| aL (.loc ⟨rfl⟩) <| ad <| .ret ⟨k (.asrt o g) τ4 ⟨g4,hg⟩ s4 (kp'.trans kp4)⟩
 ·exact ac <| aD <| aL .lit <| af <| x33 s3 ⟨rfl⟩ fun o τ4 g4 s4 kp4=>aL (.tup (.cons (.tup (.cons .lit (.cons (.loc ⟨rfl⟩) .nil))) .nil)) <| aL (.loc ⟨rfl⟩) <| ad ⟨k (.sw o g g2) τ4 ⟨g4,hg,hg2⟩ s4 (kp'.trans kp4)⟩
end
theorem mt46 : prg.mt 2 46 = some none:=by kernel_rfl
theorem mt47 : prg.mt 2 47 = some none:=by kernel_rfl
theorem mt37 : prg.mt 2 37 = some none:=by kernel_rfl
section
variable {d x n z kk p : Nat} {ρ : Env} {σ : Hp} {e : X} {v : AV} {l : List (Nat × AV)} {ss : List XS} {F : Fl -> Env -> Hp -> Prop}
theorem jE (h : Ev e ρ σ v) (a : Gv ρ x (.ref p)) (b : Hc σ p (.inst kk z)) (c : Hc σ z (.attrs l)) (m : prg.mt kk n = some none) (lt : l.length < 4000) (q : vSs d ss ρ (σ.set z (.attrs (setVar n v l))) F) : vSs d (.setA (.loc x) n e :: ss) ρ σ F:=cN (ar h ⟨_,_,_,_,a,b,c,m,lt,q⟩)
end
theorem Bl.ls {σ : Hp} {p : Nat} {xs : List AV} (h : Hc σ p (.list xs)) (l : xs.length ≤ 4000) : Bl .list [.ref p] σ (.ref σ.length) (σ ++ [.list xs]):=⟨by
 show (itemsOf σ (.ref p)).bind (mkList σ) = _
 rw [show itemsOf σ (.ref p) = some xs from h.lst]; exact if_pos l⟩
structure Nw (σ τ : Hp) (c : Nat) (l : List (Nat × AV)) : Prop where
 i : Hc τ (σ.length + 1) (.inst c σ.length)
 z : Hc τ σ.length (.attrs l)
 k : Ext σ τ
section
variable {σ τ : Hp} {c : Nat} {l l' : List (Nat × AV)}
theorem Nw.set (h : Nw σ τ c l) : Nw σ (τ.set σ.length (.attrs l')) c l':=⟨h.i.ne (Nat.ne_of_lt (Nat.lt_succ_self _)),h.z.same,h.k.set (Nat.le_refl _)⟩
theorem Nw.ap (h : Nw σ τ c l) (x : Hp) : Nw σ (τ ++ x) c l:=⟨h.i.keep,h.z.keep,h.k.app _⟩
end
structure Blks (σ : Hp) (lo m : Nat) (bs : List AV) (B : List Blk) : Prop where
 n : bs.length = B.length
 g : ∀ (b : Nat) (ss : List St) (t : Tm),B[b]? = some (ss,t) -> ss.length ≤ 2 /\ (∀ s ∈ ss,GoodS s) /\ GoodT m t
 k : ∀ (b : Nat) (ss : List St) (t : Tm),B[b]? = some (ss,t) -> ∃ lb ll : Nat,lo < lb /\ lo < ll /\ Nt bs b (.ref lb) /\ Hc σ lb (.list [.ref ll,avT t]) /\ Hc σ ll (.list (ss.map avS))
theorem jI {α : Type} {l : List α} {a v : α} {b : Nat} (h : (l ++ [a])[b]? = some v) {P : Prop} (x : l[b]? = some v -> P) (y : b = l.length -> a = v -> P) : P:=by
 rcases Nat.lt_or_ge b l.length with lt | ge
 ·rw [List.getElem?_append_left lt] at h; exact x h
 ·have le:=cP h
  rw [List.length_append] at le
  have e : b = l.length:=Nat.le_antisymm (Nat.le_of_lt_succ le) ge
  subst e
  rw [List.getElem?_append_right (Nat.le_refl _),Nat.sub_self] at h
  exact y rfl (Option.some.inj h)
section
variable {σ τ : Hp} {lo m lb ll : Nat} {bs : List AV} {B : List Blk} {ss : List St} {t : Tm}
theorem Blks.up (h : Blks σ lo m bs B) (mv : ∀ {q o},lo < q -> Hc σ q o -> Hc τ q o) : Blks τ lo m bs B:=⟨h.n,h.g,fun b ss t e=>let ⟨lb,ll,a1,a2,a3,a4,a5⟩:=h.k b ss t e; ⟨lb,ll,a1,a2,a3,mv a1 a4,mv a2 a5⟩⟩
theorem Blks.snoc (h : Blks σ lo m bs B) (a1 : lo < lb) (a2 : lo < ll) (a4 : Hc σ lb (.list [.ref ll,avT t])) (a5 : Hc σ ll (.list (ss.map avS))) (g : ss.length ≤ 2 /\ (∀ s ∈ ss,GoodS s) /\ GoodT m t) : Blks σ lo m (bs ++ [.ref lb]) (B ++ [(ss,t)]) where
 n:=by rw [List.length_append,List.length_append,h.n]; rfl
 g b ss' t' e:=jI e (h.g b ss' t') fun uw e=>by cases e; exact g
 k b ss' t' e:=jI e (fun e=>let ⟨lb,ll,a1,a2,a3,a4,a5⟩:=h.k b ss' t' e; ⟨lb,ll,a1,a2,⟨by rw [List.getElem?_append_left (cP a3.go)]; exact a3.go⟩,a4,a5⟩) fun eb e2=>by
  cases e2
  exact ⟨lb,ll,a1,a2,⟨by rw [eb,<- h.n,List.getElem?_append_right (Nat.le_refl _),Nat.sub_self]; rfl⟩,a4,a5⟩
end
section
variable {d lo m pk pt : Nat} {σ : Hp} {B : List Blk} {bs ts : List AV} {nm : AV} {Q : AV -> Hp -> Prop}
theorem qb (hk : Hc σ pk (.list bs)) (hb : Blks σ lo m bs B) (ht : Hc σ pt (.list ts)) (h7 : ts.length = 7) (k : ∀ τ,At τ (σ.length + 1) B -> Q .none τ) :
  vF (d + 1) 140 [.ref (σ.length + 1),nm,.int 0,.ref pt,.ref pk] (σ ++ [.attrs [],.inst 2 σ.length]) Q:=by
 refine ae ?_
 have n0 : Nw σ (σ ++ [.attrs [],.inst 2 σ.length]) 2 []:=⟨.a1,.a0,Ext.refl.app _⟩
 refine jE (Ev.loc ⟨rfl⟩) ⟨rfl⟩ n0.i n0.z mt46 (le4 rfl) ?_
 have n1:=n0.set (l':=setVar 46 nm [])
 refine jE (Ev.loc ⟨rfl⟩) ⟨rfl⟩ n1.i n1.z mt47 (le4 rfl) ?_
 have n2:=n1.set (l':=setVar 47 (.int 0) (setVar 46 nm []))
 clear n0 n1
 revert n2
 generalize List.set _ _ (AO.attrs (setVar 47 _ _)) = τ2
 intro n2
 refine cN (aR (Evs.cons (Ev.loc ⟨rfl⟩) Evs.nil) (.ls (n2.k.hc ht) (h7 ▸ le4 rfl)) ⟨_,_,_,_,⟨rfl⟩,(n2.ap _).i,(n2.ap _).z,mt48,le4 rfl,?_⟩)
 have n3:=(n2.ap [.list ts]).set (l':=setVar 48 (.ref τ2.length) (setVar 47 (.int 0) (setVar 46 nm [])))
 have q3 : Hc ((τ2 ++ [AO.list ts]).set σ.length (.attrs (setVar 48 (.ref τ2.length) (setVar 47 (.int 0) (setVar 46 nm []))))) τ2.length (.list ts):=Hc.a0.ne (Nat.ne_of_lt n2.z.lt)
 have gt:=n2.z.lt
 clear n2
 revert n3 q3
 generalize List.set _ _ (AO.attrs (setVar 48 _ _)) = τ3
 intro n3 q3
 refine jE (.ite (.cmp (.loc ⟨rfl⟩) .lit ⟨rfl⟩) (.f (.loc ⟨rfl⟩))) ⟨rfl⟩ n3.i n3.z mt8 (le4 rfl) ?_
 have n4:=n3.set (l':=setVar 8 (.ref pk) (setVar 48 (.ref τ2.length) (setVar 47 (.int 0) (setVar 46 nm []))))
 have q4 : Hc (τ3.set σ.length (.attrs (setVar 8 (.ref pk) (setVar 48 (.ref τ2.length) (setVar 47 (.int 0) (setVar 46 nm [])))))) τ2.length (.list ts):=q3.ne (Nat.ne_of_lt gt)
 clear n3 q3
 revert n4 q4
 generalize List.set _ _ (AO.attrs (setVar 8 _ _)) = τ4
 intro n4 q4
 refine cN (aS (r:=true) (.cmp (.loc ⟨rfl⟩) .lit ⟨rfl⟩) (.t (sR ⟨_,_,_,_,⟨rfl⟩,(n4.ap _).i,(n4.ap _).z,mt37,le4 rfl,?_⟩)))
 have n5:=(n4.ap [.dict [] 0]).set (l':=setVar 37 (.ref τ4.length) (setVar 8 (.ref pk) (setVar 48 (.ref τ2.length) (setVar 47 (.int 0) (setVar 46 nm [])))))
 have q5 : Hc ((τ4 ++ [AO.dict [] 0]).set σ.length (.attrs (setVar 37 (.ref τ4.length) (setVar 8 (.ref pk) (setVar 48 (.ref τ2.length) (setVar 47 (.int 0) (setVar 46 nm []))))))) τ2.length (.list ts):=q4.keep.ne (Nat.ne_of_lt gt)
 exact fO ⟨k _ ⟨⟨n5.i,n5.z,rfl,rfl,rfl,rfl,q5,h7,n5.k.hc hk,hb.n,fun b ss t e=>let ⟨lb,ll,_,_,a3,a4,a5⟩:=hb.k b ss t e; ⟨lb,ll,a3,n5.k.hc a4,n5.k.hc a5⟩⟩⟩⟩
end
theorem dz {x y : Nat} {u v : AV} {ρ : Env} (n : Nat.beq y x = false) (h : Gv ρ x v) : Gv ((y,u) :: ρ) x v:=⟨by
 unfold getVar
 rw [if_neg fun e=>by rw [e,Nat.beq_refl] at n; cases n]
 exact h.go⟩
theorem Bi.addN {a b : Nat} {σ : Hp} : Bi .add (.int a) (.int b) σ (.int ((a + b : Nat) : Int)) σ:=⟨rfl⟩
structure Row (σ : Hp) (p j : Nat) (ss : List St) (τ : Hp) : Prop where
 n : ss.length = j
 g : ∀ s ∈ ss,GoodS s
 s : Src τ p
 k : Kp [p] σ τ
 c : Hc τ σ.length (.list (ss.map avS))
theorem qX {d p n : Nat} {ρ : Env} {σ : Hp} {Q : AV -> Hp -> Prop} (h : Src σ p) (n4 : n ≤ 3) (rs : Gv ρ 2 (.ref p)) (k : ∀ (ss : List St) τ,Row σ p n ss τ -> Q (.ref σ.length) τ) :
  ∃ m,vC (d + 4) (.call (.glo (.fn 34)) [.loc 2]) [24] (.rng 0 n 1) (epOf σ (.rng 0 n 1)) σ.length [] m 0 ρ (σ ++ [.list []]) Q:=by
 have lt:=h.lt
 refine gY (fun j τ=>∃ ss,Row σ p j ss τ) n ⟨[],rfl,(fun uw m=>nomatch m),h.ap _,(Ext.refl.app _).kp,.a0⟩ (fun j τ hj ⟨ss,r⟩=>⟨_,_,iq _ (Int.ofNat_lt.mpr hj),rfl,t_n (.t (aI (.cons (.loc (dz rfl rs)) .nil) (sg r.s fun s τ2 gs s2 kp2=>?_)))⟩) fun τ ⟨ss,r⟩=>⟨dY _ (Int.lt_irrefl _),k ss τ r⟩
 have c2:=kp2.hc (fun m=>Nat.ne_of_gt lt (List.mem_singleton.mp m)) r.c
 refine ⟨_,c2,by rw [List.length_map,r.n]; exact Nat.lt_of_lt_of_le hj (Nat.le_trans n4 (le4 rfl)),ss ++ [s],by rw [List.length_append,r.n]; rfl,fun x hx=>(List.mem_append.mp hx).elim (r.g x) fun m=>List.mem_singleton.mp m ▸ gs,s2.set (Nat.ne_of_gt lt),⟨fun n g=>(kp2.hc n (r.k.hc n g)).ne (Nat.ne_of_gt g.lt)⟩,?_⟩
 rw [List.map_append]
 exact c2.same
theorem qY {d n : Nat} {elt : X} {v : AV} {ρ : Env} {σ : Hp} {Q : AV -> Hp -> Prop} (n4 : n ≤ 4000) (he : ∀ u τ,Ev elt ((69,u) :: ρ) τ v) (k : ∀ τ,Ext σ τ -> Hc τ σ.length (.list (List.replicate n v)) -> Q (.ref σ.length) τ) :
  ∃ m,vC d elt [69] (.rng 0 n 1) (epOf σ (.rng 0 n 1)) σ.length [] m 0 ρ (σ ++ [.list []]) Q:=by
 refine gY (fun j τ=>Ext σ τ /\ Hc τ σ.length (.list (List.replicate j v))) n ⟨Ext.refl.app _,.a0⟩ (fun j τ hj ⟨x,c⟩=>⟨_,_,iq _ (Int.ofNat_lt.mpr hj),rfl,t_n (.t (ar (he _ _) ⟨_,c,by rw [List.length_replicate]; exact Nat.lt_of_lt_of_le hj n4,x.set (Nat.le_refl _),?_⟩))⟩) fun τ ⟨x,c⟩=>⟨dY _ (Int.lt_irrefl _),k τ x c⟩
 rw [List.replicate_succ']
 exact c.same
theorem sd {d p : Nat} {σ : Hp} {Q : AV -> Hp -> Prop} (h : Src σ p) (k : ∀ pb B τ,At τ pb B -> aA B -> Q (.ref pb) τ) : vF (d + 6) 36 [.ref p] σ Q:=by
 refine ae ?_
 refine cO <| aD <| af <| b9 <| ar .lit <| x29 h 2 rfl rfl ⟨rfl⟩ .lit fun r τ hr s kp=>⟨_,_,Bi.addN (a:=2) (b:=r),af <| ak .nil (le4 rfl) <| ad ⟨_,rfl,rfl,?_⟩⟩
 obtain ⟨m,hm⟩ : ∃ m,m = 2 + r:=⟨_,rfl⟩
 rw [<- hm]
 have m1 : m ≤ 3:=hm ▸ Nat.add_le_add_left (Nat.le_of_lt_succ hr) 2
 have m2 : 1 ≤ m:=hm ▸ Nat.le_trans (Nat.le_succ 1) (Nat.le_add_right _ _)
 clear hm hr kp h
 have lp:=s.lt
 refine aW (aR (Evs.cons (Ev.loc ⟨rfl⟩) Evs.nil) (.rng1 (Nat.le_trans m1 (le4 rfl))) ?_)
 refine dF (fun j ρ υ=>(∃ e,ρ = (2,AV.ref p) :: (36,AV.int m) :: (8,AV.ref τ.length) :: e) /\ Src υ p /\ ∃ bs B,Hc υ τ.length (.list bs) /\ B.length = j /\ Blks υ τ.length m bs B) m ⟨⟨[],rfl⟩,s.ap _,[],[],.a0,rfl,rfl,(fun b ss t e=>nomatch e),fun b ss t e=>nomatch e⟩ ?_ fun ρ υ h=>?_
 ·intro j ρ υ hj h
  obtain ⟨⟨e,i1⟩,i2,bs,B,i3,i4,i5⟩:=h
  subst i1
  refine ⟨_,iq _ (Int.ofNat_lt.mpr hj),?_⟩
  refine an <| aT <| bM <| af <| b9 <| ar .lit <| x29 i2 2 rfl rfl ⟨rfl⟩ .lit fun r2 υ2 hr2 s2 kp2=>⟨_,_,Bi.addN (a:=1) (b:=r2),ad ⟨_,_,.rng1 ?_,qX s2 ?_ ⟨rfl⟩ fun ss υ3 r=>?_⟩⟩
  ·lia
  ·lia
  have np : τ.length ∉ [p]:=fun m=>Nat.ne_of_gt lp (List.mem_singleton.mp m)
  have i3:=kp2.hc np i3
  have l2:=i3.lt
  have i3:=r.k.hc np i3
  refine sI (.loc ⟨rfl⟩) i3 <| qQ <| aL (.loc gv_set) <| af <| aI (.cons (.loc ⟨rfl⟩) (.cons (.loc ⟨rfl⟩) .nil)) <| se r.s (Nat.ble_eq_true_of_le m2) (Nat.ble_eq_true_of_le (Nat.le_trans m1 (le4 rfl))) fun t υ4 gt s4 kp4=>ad ⟨le4 rfl,bs,(kp4.hc np i3).keep,?_,fO (.next ⟨⟨_,rfl⟩,(s4.ap _).set (Nat.ne_of_gt lp),_,B ++ [(ss,t)],(kp4.hc np i3).keep.same,?_,?_⟩)⟩
  ·rw [List.length_append,i5.n,i4]; exact Nat.le_trans (Nat.succ_le_of_lt hj) (Nat.le_trans m1 (le4 rfl))
  ·rw [List.length_append,i4]; rfl
  ·have nn : ∀ {q},τ.length < q -> q ∉ [p]:=fun g m=>Nat.lt_asymm lp (List.mem_singleton.mp m ▸ g)
   have i4:=kp4.hc np i3
   exact (i5.up fun g h=>((kp4.hc (nn g) (r.k.hc (nn g) (kp2.hc (nn g) h))).keep).ne (Nat.ne_of_lt g)).snoc i4.lt l2 (Hc.a0.ne (Nat.ne_of_lt i4.lt)) ((kp4.hc (nn l2) r.c).keep.ne (Nat.ne_of_lt l2)) ⟨by rw [r.n,Nat.add_comm]; exact hr2,r.g,gt⟩
 ·obtain ⟨⟨e,i1⟩,i2,bs,B,i3,i4,i5⟩:=h
  subst i1
  refine ⟨dY _ (Int.lt_irrefl _),.next ?_⟩
  refine aM (Ev.tup (Evs.cons (Ev.tup (Evs.cons Ev.lit (Evs.cons (Ev.tup (Evs.cons Ev.glo (Evs.cons Ev.glo Evs.nil))) Evs.nil))) (Evs.cons (Ev.tup (Evs.cons Ev.lit (Evs.cons Ev.glo (Evs.cons Ev.lit Evs.nil)))) Evs.nil))) rfl rfl ?_
  change vSs _ _ (setVar 82 _ (setVar 81 _ _)) _ _
  refine an <| b9 <| ak (Evs.cons (Ev.tup (Evs.cons Ev.glo (Evs.cons Ev.lit (Evs.cons Ev.lit Evs.nil)))) Evs.nil) (le4 rfl) <| aT <| aR (Evs.cons Ev.lit Evs.nil) (.rng1 (n:=3) (le4 rfl)) <| qY (n:=3) (le4 rfl) (fun uw uw=>Ev.tup (Evs.cons Ev.glo (Evs.cons Ev.lit (Evs.cons Ev.lit Evs.nil)))) fun υ2 x c=>⟨_,_,.addL (x.hc .a0) c (le4 rfl),?_⟩
  refine an <| b9 <| ar (.loc gv_set) <| ak (.cons (.tup (.cons (.loc (ao rfl (ao rfl gv_set))) (.cons .lit (.cons .lit .nil)))) (.cons (.tup (.cons (.loc (ao rfl gv_set)) (.cons .lit (.cons .lit .nil)))) (.cons (.tup (.cons (.tup (.cons .lit (.cons .lit (.cons .lit (.cons .glo .nil))))) (.cons .lit (.cons .lit .nil)))) .nil))) (le4 rfl) ⟨_,_,.addL Hc.a0.keep .a0 (le4 rfl),?_⟩
  have x:=x.pre
  exact ac (qu (.cons .lit (.cons .lit (.cons (.loc gv_set) (.cons (.loc ⟨rfl⟩) .nil)))) rfl (qb ((((x.hc i3).keep).keep).keep) (i5.up fun uw h=>(((x.hc h).keep).keep).keep) .a0 rfl fun τ A=>⟨rfl,⟨k _ B τ A ⟨i4 ▸ m2,i4 ▸ m1,i4 ▸ i5.g⟩⟩⟩))
theorem RetL.up {σ τ : Hp} {l : List AV} {Q : AV -> Hp -> Prop} (k : RetL σ l Q) (x : Ext σ τ) : Q (.ref τ.length) (τ ++ [.list l]):=k _ _ (x.app _) (bO x) .a0
theorem RetL.ex {σ τ : Hp} {l : List AV} {Q : AV -> Hp -> Prop} (k : RetL σ l Q) (x : Ext σ τ) : RetL τ l Q:=fun p υ y g c=>k p υ (x.trans y) (Nat.le_trans (bO x) g) c
theorem cc (a : Pl) : (within a).length ≤ 2:=by cases a <;> exact Nat.le_of_ble_eq_true rfl
theorem bo (o : Op) : (drawsP o).length ≤ 2:=by
 cases o with
 | c=>exact Nat.le_of_ble_eq_true rfl
 | p a=>exact cc a
section
variable {d : Nat} {σ τ : Hp} {ρ : Env} {Q : AV -> Hp -> Prop}
theorem jt {a : Pl} (k : RetL σ (nums (within a)) Q) : vF (d + 1) 37 [avP a] σ Q:=by
 refine ae ?_
 refine ac (b9 (ak (.cons (.sub (.loc ⟨rfl⟩) .lit ⟨rfl⟩) .nil) (le4 rfl) (aT (ar (v:=.tup (prj a)) (.sub (.loc ⟨rfl⟩) .lit ⟨rfl⟩) ?_))))
 have x : Ext σ (σ ++ [AO.list [.int (locP a)]]):=Ext.refl.app _
 cases a with
 | w i=>exact ⟨1,cz rfl ⟨_,_,.addL Hc.a0.keep .a0 (le4 rfl),⟨k.up (x.app _)⟩⟩⟩
 | f i=>exact ⟨2,cG rfl rfl (t_c (r:=false) (.cmp (.sub (.loc ⟨rfl⟩) .lit ⟨rfl⟩) .lit ⟨rfl⟩) (.f (.f (cz rfl ⟨_,_,.addL Hc.a0.keep .a0 (le4 rfl),⟨k.up (x.app _)⟩⟩))))⟩
 | x i=>exact ⟨2,cG rfl rfl (t_c (r:=true) (.cmp (.sub (.loc ⟨rfl⟩) .lit ⟨rfl⟩) .lit ⟨rfl⟩) (.t (t_n (.t (ar (.sub (.loc ⟨rfl⟩) .lit ⟨rfl⟩) ⟨_,.a0,Nat.zero_lt_succ _,cz rfl ⟨_,_,.addL (((Ext.refl.app _).set (Nat.le_refl _)).hc Hc.a0) Hc.a0.same (le4 rfl),⟨k.up (x.trans ((Ext.refl.app _).set (Nat.le_refl _)))⟩⟩⟩)))))⟩
theorem nT {o : Op} (k : RetL σ (nums (drawsP o)) Q) : vF (d + 2) 38 [avO o] σ Q:=by
 refine ae ?_
 cases o with
 | c=>exact ac (aS (r:=true) (.cmp (.sub (.loc ⟨rfl⟩) .lit ⟨rfl⟩) .lit ⟨rfl⟩) (.t (ak .nil (le4 rfl) ⟨k.here⟩)))
 | p a=>exact ac (aS (r:=false) (.cmp (.sub (.loc ⟨rfl⟩) .lit ⟨rfl⟩) .lit ⟨rfl⟩) (.f (aI (.cons (.sub (.loc ⟨rfl⟩) .lit ⟨rfl⟩) .nil) (jt fun p τ x g c=>⟨k p τ x g c⟩))))
section
variable {xs : List Nat} {q : Nat} {ss : List XS} {F : Fl -> Env -> Hp -> Prop} (x : Ext σ τ) (g4 : Gv ρ 4 (.ref q)) (c : Hc τ q (.list (nums xs)))
include x g4 c
theorem pq {a : Pl} {e : X} (g : Ev e ρ τ (avP a)) (l : xs.length + 2 ≤ 4000) (k : ∀ q' τ',Ext σ τ' -> Hc τ' q' (.list (nums (xs ++ within a))) -> vSs (d + 1) ss (setVar 4 (.ref q') ρ) τ' F) : vSs (d + 1) (.asg 4 (.bin .add (.loc 4) (.call (.glo (.fn 37)) [e])) :: ss) ρ τ F :=
 an (b9 (ar (.loc g4) (aI (.cons g .nil) (jt fun p υ y uw c'=>⟨_,_,.addL (y.hc c) c' (bA (Nat.le_trans (Nat.add_le_add_left (cc a) _) l)),k _ _ ((x.trans y).app _) (bg xs (within a) ▸ .a0)⟩))))
theorem cH {o : Op} {e : X} (g : Ev e ρ τ (avO o)) (l : xs.length + 2 ≤ 4000) (k : ∀ q' τ',Ext σ τ' -> Hc τ' q' (.list (nums (xs ++ drawsP o))) -> vSs (d + 2) ss (setVar 4 (.ref q') ρ) τ' F) : vSs (d + 2) (.asg 4 (.bin .add (.loc 4) (.call (.glo (.fn 38)) [e])) :: ss) ρ τ F :=
 an (b9 (ar (.loc g4) (aI (.cons g .nil) (nT fun p υ y uw c'=>⟨_,_,.addL (y.hc c) c' (bA (Nat.le_trans (Nat.add_le_add_left (bo o) _) l)),k _ _ ((x.trans y).app _) (bg xs (drawsP o) ▸ .a0)⟩))))
theorem lR {a : Pl} {e : X} (g : Ev e ρ τ (avP a)) (l : xs.length + 2 ≤ 4000) (k : RetL σ (nums (xs ++ partP a)) Q) : vX (d + 1) (.bin .add (.loc 4) (.ite (.cmp .ne (.sub e (.lit (.int 1))) (.tup [])) (.call (.glo (.fn 37)) [e]) (.lst []))) ρ τ Q:=by
 refine b9 (ar (.loc g4) ?_)
 rw [bg] at k
 have w (h : partP a = within a) : vX (d + 1) (.call (.glo (.fn 37)) [e]) ρ τ fun w υ=>∃ r φ,Bi .add (.ref q) w υ r φ /\ Q r φ:=aI (.cons g .nil) (jt fun p υ y uw c'=>⟨_,_,.addL (y.hc c) c' (bA (Nat.le_trans (Nat.add_le_add_left (cc a) _) l)),h ▸ k.up (x.trans y)⟩)
 cases a with
 | w i=>exact aS (r:=false) (.cmp (.sub g .lit ⟨rfl⟩) (.tup .nil) ⟨rfl⟩) (.f (ak .nil (le4 rfl) ⟨_,_,.addL c.keep .a0 (bA (b:=[]) (Nat.le_trans (Nat.le_add_right _ 2) l)),k.up (x.app _)⟩))
 | f i=>exact aS (r:=true) (.cmp (.sub g .lit ⟨rfl⟩) (.tup .nil) ⟨rfl⟩) (.t (w rfl))
 | x i=>exact aS (r:=true) (.cmp (.sub g .lit ⟨rfl⟩) (.tup .nil) ⟨rfl⟩) (.t (w rfl))
end
end
noncomputable def thenOf : List XS -> List XS
 | .ifs _ A _ :: _=>A
 | _=>[]
theorem RetL.kk {d : Nat} {ss : List XS} {σ : Hp} {l : List AV} {Q : AV -> Hp -> Prop} {ρ : Env} (k : RetL σ l Q) : RetL σ l fun v τ=>KK d ss (Rt Q) (.ret v) ρ τ:=fun p τ x g c=>.ret ⟨k p τ x g c⟩
theorem RetL.rt {σ : Hp} {l : List AV} {Q : AV -> Hp -> Prop} {ρ : Env} (k : RetL σ l Q) : RetL σ l fun v τ=>Rt Q (.ret v) ρ τ:=fun p τ x g c=>⟨k p τ x g c⟩
section
variable {d : Nat} {σ τ : Hp} {Q : AV -> Hp -> Prop}
theorem mP (a b : Op) : (drawsP a ++ drawsP b).length ≤ 4:=by rw [List.length_append]; exact Nat.add_le_add (bo a) (bo b)
theorem s39 {a : Pl} {r : Rv} (x : Ext σ τ) {q : Nat} (c : Hc τ q (.list (nums []))) (k : RetL σ (nums (drawsR r ++ partP a)) Q) {s : Nat} :
  vSs (d + 2) (thenOf (f39.body.drop 1)) [(7,avL (.s (.asg a r))),(12,.str s),(4,.ref q)] τ (KK (d + 2) (f39.body.drop 2) (Rt Q)):=by
 refine au (v:=avR r) (.sub (.loc ⟨rfl⟩) .lit ⟨rfl⟩) ?_
 have fin : ∀ {q υ e xs},Ext σ υ -> Hc υ q (.list (nums xs)) -> xs.length ≤ 4 -> xs = drawsR r -> vSs (d + 2) ((thenOf (f39.body.drop 1)).drop 4) ((7,avL (.s (.asg a r))) :: (12,.str s) :: (4,.ref q) :: e) υ (KK (d + 2) (f39.body.drop 2) (Rt Q)):=fun {q υ e xs} x c l eq=>by
  subst eq
  exact ac (lR x ⟨rfl⟩ c (.sub (.loc ⟨rfl⟩) .lit ⟨rfl⟩) (Nat.le_trans (Nat.add_le_add_right l 2) (le4 rfl)) k.kk)
 cases r with
 | use o =>
  refine au (Ev.dget (Evs.cons (Ev.slc (Ev.loc ⟨rfl⟩) Ev.lit Ev.lit ⟨rfl⟩) (Evs.cons (Ev.slc (Ev.loc ⟨rfl⟩) Ev.lit Ev.lit ⟨rfl⟩) (Evs.cons (Ev.sub (Ev.loc ⟨rfl⟩) Ev.lit ⟨rfl⟩) Evs.nil))) (Ev.sub (Ev.loc ⟨rfl⟩) Ev.lit ⟨rfl⟩) (Ev.tup Evs.nil) ⟨rfl⟩) ?_
  refine aW (ar (.loc ⟨rfl⟩) ⟨2,aX rfl (cH x ⟨rfl⟩ c (.loc ⟨rfl⟩) (le4 rfl) fun q' υ x' c'=>aJ (bI rfl (.next ?_)))⟩)
  exact am (r:=false) (.cmp (.sub (.loc ⟨rfl⟩) .lit ⟨rfl⟩) .lit ⟨rfl⟩) (.f (ab (fin x' c' (Nat.le_trans (bo o) (Nat.le_of_ble_eq_true rfl)) rfl)))
 | bin o o2 =>
  refine au (Ev.dget (Evs.cons (Ev.slc (Ev.loc ⟨rfl⟩) Ev.lit Ev.lit ⟨rfl⟩) (Evs.cons (Ev.slc (Ev.loc ⟨rfl⟩) Ev.lit Ev.lit ⟨rfl⟩) (Evs.cons (Ev.sub (Ev.loc ⟨rfl⟩) Ev.lit ⟨rfl⟩) Evs.nil))) (Ev.sub (Ev.loc ⟨rfl⟩) Ev.lit ⟨rfl⟩) (Ev.tup Evs.nil) ⟨rfl⟩) ?_
  refine aW (ar (.loc ⟨rfl⟩) ⟨3,aX rfl (cH x ⟨rfl⟩ c (.loc ⟨rfl⟩) (le4 rfl) fun q' υ x' c'=>aJ (aX rfl (cH x' ⟨rfl⟩ c' (.loc ⟨rfl⟩) (Nat.le_trans (Nat.add_le_add_right (bo o) 2) (le4 rfl)) fun q2 υ2 x2 c2=>aJ (bI rfl (.next ?_)))))⟩)
  exact am (r:=false) (.cmp (.sub (.loc ⟨rfl⟩) .lit ⟨rfl⟩) .lit ⟨rfl⟩) (.f (ab (fin x2 c2 (mP o o2) rfl)))
 | tup o o2 =>
  refine au (Ev.dget (Evs.cons (Ev.slc (Ev.loc ⟨rfl⟩) Ev.lit Ev.lit ⟨rfl⟩) (Evs.cons (Ev.slc (Ev.loc ⟨rfl⟩) Ev.lit Ev.lit ⟨rfl⟩) (Evs.cons (Ev.sub (Ev.loc ⟨rfl⟩) Ev.lit ⟨rfl⟩) Evs.nil))) (Ev.sub (Ev.loc ⟨rfl⟩) Ev.lit ⟨rfl⟩) (Ev.tup Evs.nil) ⟨rfl⟩) ?_
  refine aW (ar (.loc ⟨rfl⟩) ⟨3,aX rfl (cH x ⟨rfl⟩ c (.loc ⟨rfl⟩) (le4 rfl) fun q' υ x' c'=>aJ (aX rfl (cH x' ⟨rfl⟩ c' (.loc ⟨rfl⟩) (Nat.le_trans (Nat.add_le_add_right (bo o) 2) (le4 rfl)) fun q2 υ2 x2 c2=>aJ (bI rfl (.next ?_)))))⟩)
  exact am (r:=false) (.cmp (.sub (.loc ⟨rfl⟩) .lit ⟨rfl⟩) .lit ⟨rfl⟩) (.f (ab (fin x2 c2 (mP o o2) rfl)))
 | ref b =>
  refine au (Ev.dget (Evs.cons (Ev.slc (Ev.loc ⟨rfl⟩) Ev.lit Ev.lit ⟨rfl⟩) (Evs.cons (Ev.slc (Ev.loc ⟨rfl⟩) Ev.lit Ev.lit ⟨rfl⟩) (Evs.cons (Ev.sub (Ev.loc ⟨rfl⟩) Ev.lit ⟨rfl⟩) Evs.nil))) (Ev.sub (Ev.loc ⟨rfl⟩) Ev.lit ⟨rfl⟩) (Ev.tup Evs.nil) ⟨rfl⟩) ?_
  refine aW (ar (.loc ⟨rfl⟩) ⟨1,bI rfl (.next ?_)⟩)
  exact am (r:=true) (.cmp (.sub (.loc ⟨rfl⟩) .lit ⟨rfl⟩) .lit ⟨rfl⟩) (.t (pq x ⟨rfl⟩ c (.sub (.loc ⟨rfl⟩) .lit ⟨rfl⟩) (le4 rfl) fun q' υ x' c'=>ab (fin x' c' (Nat.le_trans (cc b) (Nat.le_of_ble_eq_true rfl)) rfl)))
theorem jq {s : Nat} {l : List Nat} : memA (.str s) (l.map AV.str) = some (decide (s ∈ l)):=by
 have all : ∀ l : List Nat,allO kyA (l.map AV.str) = some (l.map Ky.str):=fun l=>by
  induction l with
  | nil=>rfl
  | cons a r ih=>show (allO kyA (r.map AV.str)).map (Ky.str a :: ·) = _; rw [ih]; rfl
 show (allO kyA (l.map AV.str)).bind (fun js=>if js.all (fun j=>kdK j == kdK (.str s)) then some (js.contains (.str s)) else none) = _
 rw [all]
 show (if (l.map Ky.str).all (fun j=>kdK j == kdK (.str s)) then some ((l.map Ky.str).contains (.str s)) else none) = _
 rw [if_pos (by rw [List.all_map]; exact List.all_eq_true.mpr fun uw uw=>rfl)]
 congr 1
 rw [Bool.eq_iff_iff,List.contains_iff_mem,decide_eq_true_eq,List.mem_map]
 exact ⟨fun ⟨n,m,e⟩=>by injection e with e; exact e ▸ m,fun m=>⟨s,m,rfl⟩⟩
theorem sa {l : Ln} (k : RetL σ (nums (usesL l)) Q) : vF (d + 3) 39 [avL l] σ Q:=by
 refine ae ?_
 have x : Ext σ (σ ++ [AO.list []]):=Ext.refl.app _
 have tail : ∀ {s v},(Nat.beq s 23) = false -> (Nat.beq s 31) = false -> vSs (d + 2) (f39.body.drop 3) [(7,v),(12,.str s),(4,.ref σ.length)] (σ ++ [AO.list []]) (Rt Q) -> vSs (d + 2) (f39.body.drop 1) [(7,v),(12,.str s),(4,.ref σ.length)] (σ ++ [AO.list []]) (Rt Q):=fun {s v} a b h=>by
  refine am (r:=false) (.cmp (.loc ⟨rfl⟩) .lit ⟨?_⟩) (.f (ab (am (r:=false) (.cmp (.loc ⟨rfl⟩) .lit ⟨?_⟩) (.f (ab h)))))
  ·exact congrArg some (decide_eq_false (Nat.ne_of_beq_eq_false a))
  ·exact congrArg some (decide_eq_false (Nat.ne_of_beq_eq_false b))
 have rd : ∀ {s v o},Su (σ ++ [AO.list []] ++ [AO.list [.str 51,.str 40,.str 38]]) v (.int 1) (avO o) -> decide (s ∈ [51,40,38]) = true -> RetL σ (nums (drawsP o)) Q -> vSs (d + 2) (f39.body.drop 3) [(7,v),(12,.str s),(4,.ref σ.length)] (σ ++ [AO.list []]) (Rt Q):=fun {s v o} h e k=>by
  refine cw (bG (ar (.loc ⟨rfl⟩) (ak (Evs.cons Ev.lit (Evs.cons Ev.lit (Evs.cons Ev.lit Evs.nil))) (le4 rfl) ⟨_,.il .a0 (jq (l:=[51,40,38])),_,rfl,?_⟩)))
  rw [e]
  exact .t (ac (aI (.cons (.sub (.loc ⟨rfl⟩) .lit h) .nil) (nT (k.ex (x.app _)).kk)))
 have no : ∀ {s v l},decide (s ∈ [51,40,38]) = false -> RetL σ (nums l) Q -> l = (match Nat.beq s 63 with | true=>[0] | false=>[]) -> vSs (d + 2) (f39.body.drop 3) [(7,v),(12,.str s),(4,.ref σ.length)] (σ ++ [AO.list []]) (Rt Q):=fun {s v l} e k el=>by
  refine cw (bG (ar (.loc ⟨rfl⟩) (ak (Evs.cons Ev.lit (Evs.cons Ev.lit (Evs.cons Ev.lit Evs.nil))) (le4 rfl) ⟨_,.il .a0 (jq (l:=[51,40,38])),_,rfl,?_⟩)))
  rw [e]
  refine .f (ab (ac (aS (r:=Nat.beq s 63) (.cmp (.loc ⟨rfl⟩) .lit ⟨?_⟩) ?_)))
  ·exact congrArg some (by rw [Bool.eq_iff_iff,decide_eq_true_eq,Nat.beq_eq])
  ·revert el
   cases Nat.beq s 63 with
   | true=>exact fun el=>.t (ak (Evs.cons Ev.lit Evs.nil) (le4 rfl) ⟨(el ▸ k).up (x.app _)⟩)
   | false=>exact fun el=>.f (ak .nil (le4 rfl) ⟨(el ▸ k).up (x.app _)⟩)
 have st : ∀ {l s},Ev (.sub (.loc 7) (.lit (.int 0))) [(7,avL l)] σ (.str s) -> vSs (d + 2) (f39.body.drop 1) [(7,avL l),(12,.str s),(4,.ref σ.length)] (σ ++ [AO.list []]) (Rt Q) -> vSs (d + 2) f39.body [(7,avL l)] σ (Rt Q):=fun h g=>cO (aD (aL h (af (ak .nil (le4 rfl) (ad ⟨_,rfl,rfl,g⟩)))))
 rcases l with (⟨a,r⟩ | _ | _ | o) | (_ | ⟨a,g⟩ | ⟨o,a,g⟩ | ⟨o,g⟩ | ⟨o,g,h⟩)
 ·exact st (Ev.sub (Ev.loc ⟨rfl⟩) Ev.lit ⟨rfl⟩) (am (r:=true) (.cmp (.loc ⟨rfl⟩) .lit ⟨rfl⟩) (.t (s39 x .a0 k)))
 ·exact st (Ev.sub (Ev.loc ⟨rfl⟩) Ev.lit ⟨rfl⟩) (tail rfl rfl (no rfl k rfl))
 ·exact st (Ev.sub (Ev.loc ⟨rfl⟩) Ev.lit ⟨rfl⟩) (tail rfl rfl (no rfl k rfl))
 ·exact st (Ev.sub (Ev.loc ⟨rfl⟩) Ev.lit ⟨rfl⟩) (tail rfl rfl (rd ⟨rfl⟩ rfl k))
 ·exact st (Ev.sub (Ev.loc ⟨rfl⟩) Ev.lit ⟨rfl⟩) (tail rfl rfl (no rfl k rfl))
 ·exact st (Ev.sub (Ev.loc ⟨rfl⟩) Ev.lit ⟨rfl⟩) (tail rfl rfl (no rfl k rfl))
 ·refine st (Ev.sub (Ev.loc ⟨rfl⟩) Ev.lit ⟨rfl⟩) (am (r:=false) (.cmp (.loc ⟨rfl⟩) .lit ⟨rfl⟩) (.f (ab (am (r:=true) (.cmp (.loc ⟨rfl⟩) .lit ⟨rfl⟩) (.t ?_)))))
  refine aW (ar (v:=.tup [avO o]) (.sub (.loc ⟨rfl⟩) .lit ⟨rfl⟩) ⟨2,aX rfl (cH (xs:=[]) x ⟨rfl⟩ .a0 (.loc ⟨rfl⟩) (le4 rfl) fun q' υ x' c'=>aJ (bI rfl (.next ?_)))⟩)
  exact ac (lR x' ⟨rfl⟩ c' (.sub (.loc ⟨rfl⟩) .lit ⟨rfl⟩) (Nat.le_trans (Nat.add_le_add_right (bo o) 2) (le4 rfl)) k.kk)
 ·exact st (Ev.sub (Ev.loc ⟨rfl⟩) Ev.lit ⟨rfl⟩) (tail rfl rfl (rd ⟨rfl⟩ rfl k))
 ·exact st (Ev.sub (Ev.loc ⟨rfl⟩) Ev.lit ⟨rfl⟩) (tail rfl rfl (rd ⟨rfl⟩ rfl k))
end
section
variable {d : Nat} {σ : Hp} {Q : AV -> Hp -> Prop}
theorem s9 {l : Ln} (k : RetL σ (nums (dropsL l)) Q) : vF (d + 1) 40 [avL l] σ Q:=by
 refine ae ?_
 have no : dropsL l = [] -> ∀ {s : Nat} {r : Bool},Su σ (avL l) (.int 0) (.str s) -> decide (s = 39) = false -> vSs d f40.body [(7,avL l)] σ (Rt Q):=fun e {s r} h g=>ac (aS (r:=false) (.cmp (.sub (.loc ⟨rfl⟩) .lit h) .lit ⟨congrArg some g⟩) (.f (ak .nil (le4 rfl) ⟨(e ▸ k : RetL σ (nums []) Q).here⟩)))
 rcases l with (⟨a,r⟩ | _ | _ | o) | (_ | ⟨a,g⟩ | ⟨o,a,g⟩ | ⟨o,g⟩ | ⟨o,g,h⟩)
 case t.drop=>exact ac (aS (r:=true) (.cmp (.sub (.loc ⟨rfl⟩) .lit ⟨rfl⟩) .lit ⟨rfl⟩) (.t (ak (Evs.cons (Ev.sub (Ev.sub (Ev.loc ⟨rfl⟩) Ev.lit ⟨rfl⟩) Ev.lit ⟨rfl⟩) Evs.nil) (le4 rfl) ⟨k.here⟩)))
 all_goals exact no rfl (r:=true) ⟨rfl⟩ rfl
theorem s8 {l : Ln} (k : RetL σ (nums (setsL l)) Q) : vF (d + 1) 41 [avL l] σ Q:=by
 refine ae ?_
 have x : Ext σ (σ ++ [AO.list [.str 53,.str 54]]):=Ext.refl.app _
 have tail : ∀ {s : Nat} {v : AV},Su σ v (.int 0) (.str s) -> decide (s ∈ [53,54]) = false -> vSs d (f41.body.drop 1) [(7,v)] (σ ++ [AO.list [.str 53,.str 54]]) (Rt Q) -> vSs d f41.body [(7,v)] σ (Rt Q):=fun {s v} h e g=>by
  refine cw (bG (ar (.sub (.loc ⟨rfl⟩) .lit h) (ak (Evs.cons Ev.lit (Evs.cons Ev.lit Evs.nil)) (le4 rfl) ⟨_,.il .a0 (jq (l:=[53,54])),_,rfl,?_⟩)))
  rw [e]
  exact .f (ab g)
 have hd : ∀ {s : Nat} {v : AV},Su σ v (.int 0) (.str s) -> decide (s ∈ [53,54]) = true -> (∀ {τ},∃ i : Nat,Su τ v (.int 1) (.int i) /\ RetL σ (nums [i]) Q) -> vSs d f41.body [(7,v)] σ (Rt Q):=fun {s v} h e g=>by
  refine cw (bG (ar (.sub (.loc ⟨rfl⟩) .lit h) (ak (Evs.cons Ev.lit (Evs.cons Ev.lit Evs.nil)) (le4 rfl) ⟨_,.il .a0 (jq (l:=[53,54])),_,rfl,?_⟩)))
  rw [e]
  obtain ⟨i,h1,k⟩:=g
  exact .t (ac (ak (.cons (.sub (.loc ⟨rfl⟩) .lit h1) .nil) (le4 rfl) (.ret ⟨k.up x⟩)))
 have fin : ∀ {v : AV} {a : Pl},RetL σ (nums (setP a)) Q -> vSs d (f41.body.drop 2) [(7,v),(20,avP a)] (σ ++ [AO.list [.str 53,.str 54]]) (Rt Q):=fun {v a} k=>by
  cases a with
  | w i=>exact ac (aS (r:=true) (.and (.c (.cmp (.loc ⟨rfl⟩) .lit ⟨rfl⟩) (.t (.c (.cmp (.sub (.loc ⟨rfl⟩) .lit ⟨rfl⟩) (.tup .nil) ⟨rfl⟩) (.t .nil))))) (.t (ak (.cons (.sub (.loc ⟨rfl⟩) .lit ⟨rfl⟩) .nil) (le4 rfl) ⟨k.up x⟩)))
  | f i=>exact ac (aS (r:=false) (.and (.c (.cmp (.loc ⟨rfl⟩) .lit ⟨rfl⟩) (.t (.c (r:=false) (.cmp (.sub (.loc ⟨rfl⟩) .lit ⟨rfl⟩) (.tup .nil) ⟨rfl⟩) (.f rfl))))) (.f (ak .nil (le4 rfl) ⟨k.up x⟩)))
  | x i=>exact ac (aS (r:=false) (.and (.c (.cmp (.loc ⟨rfl⟩) .lit ⟨rfl⟩) (.t (.c (r:=false) (.cmp (.sub (.loc ⟨rfl⟩) .lit ⟨rfl⟩) (.tup .nil) ⟨rfl⟩) (.f rfl))))) (.f (ak .nil (le4 rfl) ⟨k.up x⟩)))
 have non : ∀ {v : AV},RetL σ (nums []) Q -> vSs d (f41.body.drop 2) [(7,v),(20,.none)] (σ ++ [AO.list [.str 53,.str 54]]) (Rt Q):=fun k=>ac (aS (r:=false) (.and (.c (r:=false) (.cmp (.loc ⟨rfl⟩) .lit ⟨rfl⟩) (.f rfl))) (.f (ak .nil (le4 rfl) ⟨k.up x⟩)))
 rcases l with (⟨a,r⟩ | i | i | o) | (_ | ⟨a,g⟩ | ⟨o,a,g⟩ | ⟨o,g⟩ | ⟨o,g,h⟩)
 ·exact tail ⟨rfl⟩ rfl (au (Ev.ite (Ev.cmp (Ev.sub (Ev.loc ⟨rfl⟩) Ev.lit ⟨rfl⟩) Ev.lit ⟨rfl⟩) (ay rfl (Ev.sub (Ev.loc ⟨rfl⟩) Ev.lit ⟨rfl⟩))) (fin k))
 ·exact hd ⟨rfl⟩ rfl fun {τ}=>⟨i,⟨rfl⟩,k⟩
 ·exact hd ⟨rfl⟩ rfl fun {τ}=>⟨i,⟨rfl⟩,k⟩
 ·exact tail ⟨rfl⟩ rfl (au (Ev.ite (Ev.cmp (Ev.sub (Ev.loc ⟨rfl⟩) Ev.lit ⟨rfl⟩) Ev.lit ⟨rfl⟩) (ai rfl (Ev.ite (Ev.cmp (Ev.sub (Ev.loc ⟨rfl⟩) Ev.lit ⟨rfl⟩) Ev.lit ⟨rfl⟩) (ai rfl Ev.lit)))) (non k))
 ·exact tail ⟨rfl⟩ rfl (au (Ev.ite (Ev.cmp (Ev.sub (Ev.loc ⟨rfl⟩) Ev.lit ⟨rfl⟩) Ev.lit ⟨rfl⟩) (ai rfl (Ev.ite (Ev.cmp (Ev.sub (Ev.loc ⟨rfl⟩) Ev.lit ⟨rfl⟩) Ev.lit ⟨rfl⟩) (ai rfl Ev.lit)))) (non k))
 ·exact tail ⟨rfl⟩ rfl (au (Ev.ite (Ev.cmp (Ev.sub (Ev.loc ⟨rfl⟩) Ev.lit ⟨rfl⟩) Ev.lit ⟨rfl⟩) (ai rfl (Ev.ite (Ev.cmp (Ev.sub (Ev.loc ⟨rfl⟩) Ev.lit ⟨rfl⟩) Ev.lit ⟨rfl⟩) (ai rfl Ev.lit)))) (non k))
 ·exact tail ⟨rfl⟩ rfl (au (Ev.ite (Ev.cmp (Ev.sub (Ev.loc ⟨rfl⟩) Ev.lit ⟨rfl⟩) Ev.lit ⟨rfl⟩) (ai rfl (Ev.ite (Ev.cmp (Ev.sub (Ev.loc ⟨rfl⟩) Ev.lit ⟨rfl⟩) Ev.lit ⟨rfl⟩) (ay rfl (Ev.sub (Ev.loc ⟨rfl⟩) Ev.lit ⟨rfl⟩))))) (fin k))
 ·exact tail ⟨rfl⟩ rfl (au (Ev.ite (Ev.cmp (Ev.sub (Ev.loc ⟨rfl⟩) Ev.lit ⟨rfl⟩) Ev.lit ⟨rfl⟩) (ai rfl (Ev.ite (Ev.cmp (Ev.sub (Ev.loc ⟨rfl⟩) Ev.lit ⟨rfl⟩) Ev.lit ⟨rfl⟩) (ai rfl Ev.lit)))) (non k))
 ·exact tail ⟨rfl⟩ rfl (au (Ev.ite (Ev.cmp (Ev.sub (Ev.loc ⟨rfl⟩) Ev.lit ⟨rfl⟩) Ev.lit ⟨rfl⟩) (ai rfl (Ev.ite (Ev.cmp (Ev.sub (Ev.loc ⟨rfl⟩) Ev.lit ⟨rfl⟩) Ev.lit ⟨rfl⟩) (ai rfl Ev.lit)))) (non k))
theorem nO {ρ : Env} {gs : List Nat} (g : Gv ρ 70 (.tup (nums gs))) (l : gs.length ≤ 2) (k : RetL σ (spots (gs.map fun g=>(g,0))) Q) : vX d (.comp (.tup [.loc 20,.lit (.int 0)]) [20] (.loc 70) []) ρ σ Q:=by
 refine aT (ar (.loc g) (gY (fun j τ=>Ext σ τ /\ Hc τ σ.length (.list (spots ((gs.take j).map fun g=>(g,0))))) gs.length ⟨Ext.refl.app _,.a0⟩ (fun j τ hj ⟨x,c⟩=>⟨_,_,show some (nums gs)[j]? = some (some (.int (gs[j] : Nat))) by rw [nums,List.getElem?_map,List.getElem?_eq_getElem hj]; rfl,rfl,t_n (.t (ar (.tup (.cons (.loc ⟨rfl⟩) (.cons .lit .nil))) ⟨_,c,?_,x.set (Nat.le_refl _),?_⟩))⟩) fun τ ⟨x,c⟩=>⟨show some (nums gs)[gs.length]? = some none by rw [nums,List.getElem?_map,List.getElem?_eq_none (Nat.le_refl _)]; rfl,k _ _ x (Nat.le_refl _) (by rw [List.take_length] at c; exact c)⟩))
 ·rw [aO,List.length_map,List.length_take]
  exact Nat.lt_of_le_of_lt (Nat.min_le_right _ _) (Nat.lt_of_le_of_lt l (le4 rfl))
 ·rw [List.take_add_one,List.getElem?_eq_getElem hj,List.map_append,aP]
  exact c.same
theorem s6 {b i : Nat} {l : Ln} (k : RetL σ (spots (behL b i l)) Q) : vF (d + 1) 43 [spotA (b,i),avL l] σ Q:=by
 refine ae ?_
 have x : Ext σ (σ ++ [AO.list [.str 23,.str 53,.str 54,.str 51]]):=Ext.refl.app _
 have hd : ∀ {s : Nat} {v : AV},Su σ v (.int 0) (.str s) -> decide (s ∈ [23,53,54,51]) = true -> RetL σ [spotA (b,i + 1)] Q -> vSs d f43.body [(10,spotA (b,i)),(7,v)] σ (Rt Q):=fun {s v} h e k=>by
  refine cw (bG (ar (.sub (.loc ⟨rfl⟩) .lit h) (ak (Evs.cons Ev.lit (Evs.cons Ev.lit (Evs.cons Ev.lit (Evs.cons Ev.lit Evs.nil)))) (le4 rfl) ⟨_,.il .a0 (jq (l:=[23,53,54,51])),_,rfl,?_⟩)))
  rw [e]
  exact .t (ac (ak (.cons (.tup (.cons (.sub (.loc ⟨rfl⟩) .lit ⟨rfl⟩) (.cons (.bin (.sub (.loc ⟨rfl⟩) .lit ⟨rfl⟩) .lit (.addN (b:=1))) .nil))) .nil) (le4 rfl) (.ret ⟨k.up x⟩)))
 have tl : ∀ {s : Nat} {v u : AV} {gs : List Nat},Su σ v (.int 0) (.str s) -> decide (s ∈ [23,53,54,51]) = false -> (∀ {τ},Ev (.dget [39,31,40] [(.slc (.loc 7) (.lit (.int 2)) (.lit (.int 3))),(.slc (.loc 7) (.lit (.int 4)) (.lit (.int 5))),(.slc (.loc 7) (.lit (.int 4)) (.lit (.int 5)))] (.sub (.loc 7) (.lit (.int 0))) (.tup [])) [(10,spotA (b,i)),(7,v)] τ (.tup (nums gs))) -> (∀ {τ},Su τ v (.int 0) (.str s)) -> decide (s = 38) = false -> gs.length ≤ 2 -> RetL σ (spots (gs.map fun g=>(g,0))) Q -> vSs d f43.body [(10,spotA (b,i)),(7,v)] σ (Rt Q):=fun {s v u gs} h e a h0 n l k=>by
  refine cw (bG (ar (.sub (.loc ⟨rfl⟩) .lit h) (ak (Evs.cons Ev.lit (Evs.cons Ev.lit (Evs.cons Ev.lit (Evs.cons Ev.lit Evs.nil)))) (le4 rfl) ⟨_,.il .a0 (jq (l:=[23,53,54,51])),_,rfl,?_⟩)))
  rw [e]
  exact .f (ab (au a (am (r:=false) (.cmp (.sub (.loc ⟨rfl⟩) .lit h0) .lit ⟨congrArg some n⟩) (.f (ab (ac (nO ⟨rfl⟩ l ((k.ex x).rt))))))))
 rcases l with (⟨a,r⟩ | i | i | o) | (_ | ⟨a,g⟩ | ⟨o,a,g⟩ | ⟨o,g⟩ | ⟨o,g,h⟩)
 ·exact hd ⟨rfl⟩ rfl k
 ·exact hd ⟨rfl⟩ rfl k
 ·exact hd ⟨rfl⟩ rfl k
 ·exact hd ⟨rfl⟩ rfl k
 ·exact tl (gs:=[]) (u:=.none) ⟨rfl⟩ rfl (by intro τ; exact Ev.dget (Evs.cons (Ev.slc (Ev.loc ⟨rfl⟩) Ev.lit Ev.lit ⟨rfl⟩) (Evs.cons (Ev.slc (Ev.loc ⟨rfl⟩) Ev.lit Ev.lit ⟨rfl⟩) (Evs.cons (Ev.slc (Ev.loc ⟨rfl⟩) Ev.lit Ev.lit ⟨rfl⟩) Evs.nil))) (Ev.sub (Ev.loc ⟨rfl⟩) Ev.lit ⟨rfl⟩) (Ev.tup Evs.nil) ⟨rfl⟩) ⟨rfl⟩ rfl (Nat.zero_le _) k
 ·exact tl (gs:=[g]) (u:=.none) ⟨rfl⟩ rfl (by intro τ; exact Ev.dget (Evs.cons (Ev.slc (Ev.loc ⟨rfl⟩) Ev.lit Ev.lit ⟨rfl⟩) (Evs.cons (Ev.slc (Ev.loc ⟨rfl⟩) Ev.lit Ev.lit ⟨rfl⟩) (Evs.cons (Ev.slc (Ev.loc ⟨rfl⟩) Ev.lit Ev.lit ⟨rfl⟩) Evs.nil))) (Ev.sub (Ev.loc ⟨rfl⟩) Ev.lit ⟨rfl⟩) (Ev.tup Evs.nil) ⟨rfl⟩) ⟨rfl⟩ rfl (Nat.le_succ 1) k
 ·exact tl (gs:=[g]) (u:=.none) ⟨rfl⟩ rfl (by intro τ; exact Ev.dget (Evs.cons (Ev.slc (Ev.loc ⟨rfl⟩) Ev.lit Ev.lit ⟨rfl⟩) (Evs.cons (Ev.slc (Ev.loc ⟨rfl⟩) Ev.lit Ev.lit ⟨rfl⟩) (Evs.cons (Ev.slc (Ev.loc ⟨rfl⟩) Ev.lit Ev.lit ⟨rfl⟩) Evs.nil))) (Ev.sub (Ev.loc ⟨rfl⟩) Ev.lit ⟨rfl⟩) (Ev.tup Evs.nil) ⟨rfl⟩) ⟨rfl⟩ rfl (Nat.le_succ 1) k
 ·exact tl (gs:=[g]) (u:=.none) ⟨rfl⟩ rfl (by intro τ; exact Ev.dget (Evs.cons (Ev.slc (Ev.loc ⟨rfl⟩) Ev.lit Ev.lit ⟨rfl⟩) (Evs.cons (Ev.slc (Ev.loc ⟨rfl⟩) Ev.lit Ev.lit ⟨rfl⟩) (Evs.cons (Ev.slc (Ev.loc ⟨rfl⟩) Ev.lit Ev.lit ⟨rfl⟩) Evs.nil))) (Ev.sub (Ev.loc ⟨rfl⟩) Ev.lit ⟨rfl⟩) (Ev.tup Evs.nil) ⟨rfl⟩) ⟨rfl⟩ rfl (Nat.le_succ 1) k
 ·refine cw (bG (ar (.sub (.loc ⟨rfl⟩) .lit ⟨rfl⟩) (ak (Evs.cons Ev.lit (Evs.cons Ev.lit (Evs.cons Ev.lit (Evs.cons Ev.lit Evs.nil)))) (le4 rfl) ⟨_,.il .a0 (jq (s:=38) (l:=[23,53,54,51])),_,rfl,?_⟩)))
  refine ai rfl (ab (au (Ev.dget (Evs.cons (Ev.slc (Ev.loc ⟨rfl⟩) Ev.lit Ev.lit ⟨rfl⟩) (Evs.cons (Ev.slc (Ev.loc ⟨rfl⟩) Ev.lit Ev.lit ⟨rfl⟩) (Evs.cons (Ev.slc (Ev.loc ⟨rfl⟩) Ev.lit Ev.lit ⟨rfl⟩) Evs.nil))) (Ev.sub (Ev.loc ⟨rfl⟩) Ev.lit ⟨rfl⟩) (Ev.tup Evs.nil) ⟨rfl⟩) (am (r:=true) (.cmp (.sub (.loc ⟨rfl⟩) .lit ⟨rfl⟩) .lit ⟨rfl⟩) (.t (au (v:=.tup (nums [g,h])) (Ev.tup (Evs.cons (Ev.sub (Ev.sub (Ev.sub (Ev.loc ⟨rfl⟩) Ev.lit ⟨rfl⟩) Ev.lit ⟨rfl⟩) Ev.lit ⟨rfl⟩) (Evs.cons (Ev.sub (Ev.loc ⟨rfl⟩) Ev.lit ⟨rfl⟩) Evs.nil))) (ab (ac (nO ⟨rfl⟩ (Nat.le_refl _) ((k.ex x).rt)))))))))
end
noncomputable abbrev Pt:=Nat × Nat
noncomputable def kS (p : Pt) : List Int:=[(p.1 : Int),(p.2 : Int)]
theorem eO {p q : Pt} (h : kS p = kS q) : p = q:=by
 injection h with h1 h2
 injection h2 with h2 _
 exact Prod.ext (Int.ofNat.inj h1) (Int.ofNat.inj h2)
noncomputable def dOf (P : List Pt) (f : Pt -> AV) : List (AV × AV):=P.map fun p=>(spotA p,f p)
theorem bP (P : List Pt) (f : Pt -> AV) : (dOf P f).length = P.length:=List.length_map ..
theorem qe (P R : List Pt) (f : Pt -> AV) : dOf (P ++ R) f = dOf P f ++ dOf R f:=List.map_append ..
theorem bQ {f : Pt -> AV} {p : Pt} : ∀ {P : List Pt},p ∈ P -> dGet (kS p) (dOf P f) = some (f p)
 | a :: P,h=>by
  show (if some (kS a) = some (kS p) then some (f a) else dGet (kS p) (dOf P f)) = _
  by_cases e : a = p
  ·subst e; exact if_pos rfl
  ·rw [if_neg fun g=>e (eO (Option.some.inj g))]
   exact bQ ((List.mem_cons.mp h).elim (fun g=>absurd g.symm e) id)
theorem kB {f : Pt -> AV} {p : Pt} : ∀ {P : List Pt},p ∉ P -> dHas (kS p) (dOf P f) = false
 | [],_=>rfl
 | a :: P,h=>by
  show (decide (some (kS a) = some (kS p)) || dHas (kS p) (dOf P f)) = _
  rw [decide_eq_false fun g=>h (List.mem_cons.mpr (.inl (eO (Option.some.inj g)).symm)),kB fun m=>h (List.mem_cons_of_mem _ m)]; rfl
theorem kA {f : Pt -> AV} {p : Pt} {v : AV} : ∀ {P : List Pt},p ∉ P -> dPut (spotA p) (kS p) v (dOf P f) = dOf P f ++ [(spotA p,v)]
 | [],_=>rfl
 | a :: P,h=>by
  show (if some (kS a) = some (kS p) then _ else (spotA a,f a) :: dPut (spotA p) (kS p) v (dOf P f)) = _
  rw [if_neg fun g=>h (List.mem_cons.mpr (.inl (eO (Option.some.inj g)).symm)),kA fun m=>h (List.mem_cons_of_mem _ m)]; rfl
theorem row_mem {j n : Nat} {p : Pt} : p ∈ (List.range n).map (fun i=>(j,i)) ↔ p.1 = j /\ p.2 < n:=by
 rw [List.mem_map]
 exact ⟨fun ⟨i,hi,e⟩=>e ▸ ⟨rfl,List.mem_range.mp hi⟩,fun ⟨e,h⟩=>⟨p.2,List.mem_range.mpr h,by rw [<- e]⟩⟩
theorem jZ {B : List Blk} {j : Nat} {p : Pt} (h : p ∈ ptsU B j) : p.1 < j:=by
 refine aw (List.mem_flatMap.mp h) fun c hc m=>?_
 rw [row_mem.mp m |>.1]
 exact List.mem_range.mp hc
noncomputable abbrev ltP (p q : Pt) : Prop:=p.1 < q.1 \/ (p.1 = q.1 /\ p.2 < q.2)
noncomputable def UpP : List Pt -> Prop
 | []=>True
 | x :: r=>(∀ y ∈ r,ltP x y) /\ UpP r
theorem eA (p : Pt) : ¬ ltP p p:=fun h=>h.elim (Nat.lt_irrefl _) fun h=>Nat.lt_irrefl _ h.2
theorem nj {p q r : Pt} (a : ltP p q) (b : ltP q r) : ltP p r:=by
 rcases a with a | ⟨a,a'⟩ <;> rcases b with b | ⟨b,b'⟩
 ·exact .inl (Nat.lt_trans a b)
 ·exact .inl (b ▸ a)
 ·exact .inl (a ▸ b)
 ·exact .inr ⟨a.trans b,Nat.lt_trans a' b'⟩
theorem pQ {p q : Pt} (h : p ≠ q) (n : ¬ ltP p q) : ltP q p:=by
 rcases Nat.lt_trichotomy p.1 q.1 with c | c | c
 ·exact absurd (.inl c) n
 ·rcases Nat.lt_trichotomy p.2 q.2 with e | e | e
  ·exact absurd (.inr ⟨c,e⟩) n
  ·exact absurd (Prod.ext c e) h
  ·exact .inr ⟨c.symm,e⟩
 ·exact .inl c
theorem upP_app : ∀ (a b : List Pt),UpP a -> UpP b -> (∀ x ∈ a,∀ y ∈ b,ltP x y) -> UpP (a ++ b)
 | [],b,_,hb,_=>hb
 | x :: a,b,ha,hb,h=>⟨fun y hy=>(List.mem_append.mp hy).elim (ha.1 y) (h x (List.mem_cons_self ..) y),upP_app a b ha.2 hb fun z hz=>h z (List.mem_cons_of_mem _ hz)⟩
theorem cT (f : Pt -> Bool) : ∀ (a : List Pt),UpP a -> UpP (a.filter f)
 | [],_=>trivial
 | x :: a,h=>by
  rw [List.filter_cons]
  split
  ·exact ⟨fun y hy=>h.1 y (List.mem_filter.mp hy).1,cT f a h.2⟩
  ·exact cT f a h.2
theorem lX (b : Nat) : ∀ (n : Nat),UpP ((List.range n).map fun i=>(b,i))
 | 0=>trivial
 | n + 1=>by
  rw [List.range_succ,List.map_append]
  refine upP_app _ _ (lX b n) ⟨(fun y m=>nomatch m),trivial⟩ fun x hx y hy=>?_
  rw [List.mem_singleton.mp hy]
  have:=row_mem.mp hx
  exact .inr this
theorem fR (B : List Blk) : ∀ (j : Nat),UpP (ptsU B j)
 | 0=>trivial
 | j + 1=>by
  rw [cI]
  refine upP_app _ _ (fR B j) (lX j _) fun x hx y hy=>.inl ?_
  rw [(row_mem.mp hy).1]
  exact jZ hx
theorem upP_nd : ∀ {a : List Pt},UpP a -> a.Nodup
 | [],_=>.nil
 | x :: a,h=>List.nodup_cons.mpr ⟨fun m=>eA _ (h.1 x m),upP_nd h.2⟩
theorem mF (B : List Blk) : (pts B).Nodup:=upP_nd (fR B _)
theorem upP_ext : ∀ (a b : List Pt),UpP a -> UpP b -> (∀ x,x ∈ a ↔ x ∈ b) -> a = b
 | [],[],_,_,_=>rfl
 | [],y :: b,_,_,h=>nomatch (h y).mpr (List.mem_cons_self ..)
 | x :: a,[],_,_,h=>nomatch (h x).mp (List.mem_cons_self ..)
 | x :: a,y :: b,ha,hb,h=>by
  have e : x = y:=by
   rcases List.mem_cons.mp ((h x).mp (List.mem_cons_self ..)) with e | e
   ·exact e
   ·rcases List.mem_cons.mp ((h y).mpr (List.mem_cons_self ..)) with g | g
    ·exact g.symm
    ·exact absurd (nj (hb.1 _ e) (ha.1 _ g)) (eA _)
  subst e
  rw [upP_ext a b ha.2 hb.2 fun z=>⟨fun hz=>?_,fun hz=>?_⟩]
  ·exact (List.mem_cons.mp ((h z).mp (List.mem_cons_of_mem _ hz))).elim (fun e=>absurd (ha.1 _ hz) (e ▸ eA _)) id
  ·exact (List.mem_cons.mp ((h z).mpr (List.mem_cons_of_mem _ hz))).elim (fun e=>absurd (hb.1 _ hz) (e ▸ eA _)) id
noncomputable def lineOf (B : List Blk) (p : Pt) : Ln:=(lineAt B p.1 p.2).getD (.t .ret)
noncomputable def lnD (B : List Blk) (p : Pt) : AV:=avL (lineOf B p)
section
variable {d p kk0 : Nat} {ρ : Env} {σ : Hp} {e o i : X} {v w : AV} {en : List (AV × AV)} {ep : Nat} {kk : List Int} {ss : List XS} {F : Fl -> Env -> Hp -> Prop}
theorem sF (he : Ev e ρ σ v) (ho : Ev o ρ σ (.ref p)) (hi : Ev i ρ σ w) (c : Hc σ p (.dict en ep)) (key : keyOf w = some kk) (lt : en.length < 4000) (no : dHas kk en = false) (q : vSs d ss ρ (σ.set p (.dict (dPut w kk v en) (ep + 1))) F) : vSs d (.setI o i e :: ss) ρ σ F :=
 ⟨he.go _ _ _ (ho.go _ _ _ (hi.go _ _ _ ⟨p,rfl,.inr ⟨en,ep,kk,c.go,key,lt,by rw [if_neg (by rw [no]; exact Bool.false_ne_true)]; exact q.go⟩⟩))⟩
end
section
variable {d pb : Nat} {σ : Hp} {B : List Blk} {Q : AV -> Hp -> Prop}
noncomputable def rowP (B : List Blk) (j i : Nat) : List Pt:=ptsU B j ++ (List.range i).map fun i=>(j,i)
theorem mE (hB : aA B) {j i : Nat} (hj : j ≤ 3) (hi : i ≤ 3) : (rowP B j i).length < 4000:=by
 have:=eH hB j
 unfold rowP
 rw [List.length_append,List.length_map,List.length_range]; lia
theorem jW {j i : Nat} : (j,i) ∉ rowP B j i:=fun m=>(List.mem_append.mp m).elim (fun m=>Nat.lt_irrefl _ (jZ m)) fun m=>Nat.lt_irrefl _ (row_mem.mp m).2
theorem kY {j i : Nat} : rowP B j (i + 1) = rowP B j i ++ [(j,i)]:=by
 unfold rowP; rw [List.range_succ,List.map_append,List.append_assoc]; rfl
theorem rW (hB : aA B) {j lp c0 : Nat} {w0 : AV} (hj : j ≤ 3) (l3 : (linesB B j).length ≤ 3) {ss : List XS} {F : Fl -> Env -> Hp -> Prop} {e0 : Env} {τ : Hp} (hl : Hc τ lp (.list ((linesB B j).map avL))) (ne : lp ≠ c0) (g1 : Gv ((0,w0) :: (4,.ref c0) :: e0) 1 (.int j)) (hc : Hc τ c0 (.dict (dOf (rowP B j 0) (lnD B)) (rowP B j 0).length))
  (k : ∀ e υ,Kp [c0] τ υ -> Hc υ c0 (.dict (dOf (rowP B j (linesB B j).length) (lnD B)) (rowP B j (linesB B j).length).length) -> vSs d ss ((0,w0) :: (4,.ref c0) :: e) υ F) :
  ∃ m,vE d 69 7 lp m 0 [(.setI (.loc 4) (.tup [(.loc 1),(.loc 69)]) (.loc 7))] ((0,w0) :: (4,.ref c0) :: e0) τ (KK d ss F):=by
 have mc : c0 ∈ [c0]:=List.mem_singleton.mpr rfl
 refine tV (fun i ρ υ=>(∃ e,ρ = (0,w0) :: (4,.ref c0) :: e) /\ Gv ρ 1 (.int j) /\ Kp [c0] τ υ /\ Hc υ c0 (.dict (dOf (rowP B j i) (lnD B)) (rowP B j i).length)) (linesB B j).length ⟨⟨_,rfl⟩,g1,.refl,hc⟩ ?_ fun ρ υ h=>?_
 ·intro i ρ υ hi h
  obtain ⟨⟨e,i0⟩,i1,i2,i3⟩:=h
  subst i0
  have hl':=i2.hc (fun m=>ne (List.mem_singleton.mp m)) hl
  refine ⟨_,avL (linesB B j)[i],hl',by rw [List.getElem?_map,List.getElem?_eq_getElem hi]; rfl,?_⟩
  refine sF (.loc gv_set) (.loc (ao rfl (ao rfl ⟨rfl⟩))) (w:=spotA (j,i)) (.tup (.cons (.loc (ao rfl (ao rfl i1))) (.cons (.loc (ao rfl gv_set)) .nil))) i3 rfl (by rw [bP]; exact mE hB hj (Nat.le_trans (Nat.le_of_lt hi) l3)) (kB jW) (aJ ⟨⟨_,rfl⟩,ao rfl (ao rfl i1),i2.set mc,?_⟩)
  have ev : avL (linesB B j)[i] = lnD B (j,i):=by
   unfold lnD lineOf lineAt; rw [List.getElem?_eq_getElem hi]; rfl
  rw [kY,qe,List.length_append,ev]
  have e:=kA (f:=lnD B) (v:=lnD B (j,i)) (jW (B:=B) (j:=j) (i:=i))
  show Hc (υ.set c0 (.dict (dPut (spotA (j,i)) (kS (j,i)) (lnD B (j,i)) (dOf (rowP B j i) (lnD B))) _)) _ _
  rw [e]
  exact i3.same
 ·obtain ⟨⟨e,i0⟩,i1,i2,i3⟩:=h
  subst i0
  exact ⟨⟨_,i2.hc (fun m=>ne (List.mem_singleton.mp m)) hl,by rw [List.getElem?_map,List.getElem?_eq_none (Nat.le_refl _)]; rfl⟩,.next (k e υ i2 i3)⟩
theorem s7 (h : At σ pb B) (hB : aA B) (k : ∀ p τ,Hc τ p (.dict (dOf (pts B) (lnD B)) (pts B).length) -> Ext σ τ -> Q (.ref p) τ) : vF (d + 1) 42 [.ref pb] σ Q:=by
 have l3:=hB.hi
 refine ae ?_
 refine an (sR ?_)
 have x0 : Ext σ (σ ++ [AO.dict [] 0]):=Ext.refl.app _
 refine (h.ext x0).bl fun pk bs a1 a2 n=>?_
 refine aW (aR (.cons (.blt (.cons (.attr (.loc ⟨rfl⟩) a1) .nil) (.len a2)) .nil) (.rng1 (n ▸ Nat.le_trans l3 (le4 rfl))) ?_)
 rw [n]
 clear a1 a2 n
 refine dF (fun j ρ υ=>(∃ e,ρ = (0,AV.ref pb) :: (4,AV.ref σ.length) :: e) /\ Ext σ υ /\ Hc υ σ.length (.dict (dOf (ptsU B j) (lnD B)) (ptsU B j).length)) B.length ⟨⟨[],rfl⟩,x0,.a0⟩ ?_ fun ρ υ h=>?_
 ·intro j ρ υ hj h'
  obtain ⟨⟨e,i0⟩,i1,i2⟩:=h'
  subst i0
  obtain ⟨ss,t,hb⟩ : ∃ ss t,B[j]? = some (ss,t):=⟨_,_,List.getElem?_eq_getElem hj⟩
  refine ⟨_,iq _ (Int.ofNat_lt.mpr hj),?_⟩
  refine (h.ext i1).bk hb fun pk bs lb ll a1 a2 a3 a4 a5 uw uw=>?_
  have ls:=(hB.bk j ss t hb).1
  have lsm : (ss.map avS).length ≤ 2:=by rw [List.length_map]; exact ls
  refine aM (.sub (.attr (.loc ⟨rfl⟩) a1) (.loc gv_set) (.l a2 (.nat a3))) (eF a4) rfl ?_
  refine sH <| b9 <| aR (.cons (.loc (ao rfl gv_set)) .nil) (.ls a5 (Nat.le_trans lsm (le4 rfl))) <| ak (.cons (.loc gv_set) .nil) (le4 rfl) ⟨_,_,.addL (Hc.a0.keep) .a0 (by rw [List.length_append]; exact Nat.le_trans (Nat.add_le_add_right lsm _) (le4 rfl)),?_⟩
  have el : ss.map avS ++ [avT t] = (linesB B j).map avL:=by rw [dp hb,List.map_append,List.map_map]; rfl
  rw [el]
  have r0 : rowP B j 0 = ptsU B j:=List.append_nil _
  have il:=c7 hb
  have lt:=i2.lt
  refine ⟨_,_,rfl,(rW (e0:=setVar 26 (avT t) (setVar 15 (.ref ll) (setVar 1 (.int j) e))) (w0:=.ref pb) (c0:=σ.length) (d:=d) (ss:=[]) (F:=Lp (fun ρ υ=>(∃ e,ρ = (0,AV.ref pb) :: (4,AV.ref σ.length) :: e) /\ Ext σ υ /\ Hc υ σ.length (.dict (dOf (ptsU B (j + 1)) (lnD B)) (ptsU B (j + 1)).length)) (KK d [.ret (.loc 4)] (Rt Q))) hB (Nat.le_trans (Nat.le_of_lt hj) l3) (il ▸ Nat.succ_le_succ ls) Hc.a0 ?_ ?_ (r0.symm ▸ ((i2.keep).keep).keep) fun e' υ' k1 k2=>aJ ⟨⟨_,rfl⟩,?_,?_⟩).choose_spec⟩
  ·rw [List.length_append,List.length_append]; lia
  ·exact ⟨(ao (y:=26) rfl (ao (y:=15) rfl (gv_set (x:=1) (ρ:=(0,.ref pb) :: (4,.ref σ.length) :: e)))).go⟩
  ·exact (((i1.app _).app _).app _).kp.trans k1 |>.ext fun q m=>List.mem_singleton.mp m ▸ Nat.le_refl _
  ·rw [cI,dq hb,<- il]; exact k2
 ·obtain ⟨⟨e,i0⟩,i1,i2⟩:=h
  subst i0
  exact ⟨dY _ (Int.lt_irrefl _),.next (ax (.loc ⟨rfl⟩) ⟨k _ _ i2 i1⟩)⟩
end
section
variable {σ : Hp} {p i n : Nat} {es : List (AV × AV)}
theorem Hc.dct (h : Hc σ p (.dict es n)) : dctAt σ p = some es:=by unfold dctAt; rw [h.go]
theorem sA (h : Hc σ p (.dict es n)) : epOf σ (.ref p) = n + 1:=by unfold epOf; dsimp only; rw [h.go]
theorem lj (h : Hc σ p (.dict es n)) (e : es.length = n) : nextOf σ (.ref p) i (n + 1) = some (es[i]?.map (·.1)):=by
 unfold nextOf; dsimp only; rw [h.go]; exact if_pos ⟨rfl,congrArg (· + 1) e⟩
theorem keys_spots : ∀ (l : List Pt),allKeys (spots l) = some (l.map kS)
 | []=>rfl
 | a :: r=>by
  show (allKeys (spots r)).map (kS a :: ·) = _
  rw [keys_spots r]; rfl
theorem ij (f : Pt -> AV) : ∀ (P : List Pt),allO pairA (P.map fun p=>.tup [spotA p,f p]) = some (dOf P f)
 | []=>rfl
 | a :: P=>by
  show (allO pairA (P.map fun p=>.tup [spotA p,f p])).map ((spotA a,f a) :: ·) = _
  rw [ij f P]; rfl
theorem tq {P : List Pt} (h : P.Nodup) : (P.map kS).Nodup:=by
 rw [List.nodup_iff_pairwise_ne,List.pairwise_map]
 exact (List.nodup_iff_pairwise_ne.mp h).imp fun n e=>n (eO e)
theorem Bl.dict {P : List Pt} {f : Pt -> AV} (h : Hc σ p (.list (P.map fun p=>.tup [spotA p,f p]))) (nd : P.Nodup) (l : P.length ≤ 4000) : Bl .dict [.ref p] σ (.ref σ.length) (σ ++ [.dict (dOf P f) P.length]):=⟨by
 show (lstAt σ p).bind (fun xs=>(allO pairA xs).bind (dictA σ)) = _
 rw [h.lst]
 show (allO pairA (P.map fun p=>.tup [spotA p,f p])).bind (dictA σ) = _
 rw [ij]
 show (allKeys ((dOf P f).map Prod.fst)).bind (fun ks=>if ks.Nodup /\ (dOf P f).length ≤ top then some (AV.ref σ.length,σ ++ [.dict (dOf P f) (dOf P f).length]) else none) = _
 rw [show (dOf P f).map Prod.fst = spots P by unfold dOf; rw [List.map_map]; rfl,keys_spots,bP]
 exact if_pos ⟨tq nd,l⟩⟩
end
structure DT (σ τ : Hp) (P : List Pt) (r : Pt -> Nat) (L : Pt -> List AV) : Prop where
 c : Hc τ σ.length (.list (P.map fun p=>.tup [spotA p,.ref (r p)]))
 t : ∀ p ∈ P,Hc τ (r p) (.list (L p))
 i : ∀ p ∈ P,∀ q ∈ P,r p = r q -> p = q
 g : ∀ p ∈ P,σ.length < r p
 x : Ext σ τ
theorem DT.snoc {σ τ υ : Hp} {P : List Pt} {r : Pt -> Nat} {L : Pt -> List AV} {p : Pt} {q : Nat} (h : DT σ τ P r L) (n : p ∉ P) (x : Ext τ υ) (gq : τ.length ≤ q) (cq : Hc υ q (.list (L p))) :
  DT σ (υ.set σ.length (.list ((P.map fun p=>.tup [spotA p,.ref (r p)]) ++ [.tup [spotA p,.ref q]]))) (P ++ [p]) (fun z=>if z = p then q else r z) L:=by
 have lt:=h.c.lt
 have ev : ∀ z ∈ P,(if z = p then q else r z) = r z:=fun z m=>if_neg fun e : z = p=>n (e ▸ m)
 have ep : (if p = p then q else r p) = q:=if_pos rfl
 have sp : ∀ {Z : Pt -> Prop},(∀ z ∈ P,Z z) -> Z p -> ∀ z ∈ P ++ [p],Z z:=fun a b z m=>(List.mem_append.mp m).elim (a z) fun m=>List.mem_singleton.mp m ▸ b
 refine ⟨?_,sp (fun z m=>?_) ?_,sp (fun z m=>sp (fun y m'=>?_) ?_) (sp (fun y m'=>?_) fun uw=>rfl),sp (fun z m=>?_) ?_,(h.x.trans x).set (Nat.le_refl _)⟩
 ·rw [List.map_append,List.map_congr_left (f:=fun z=>AV.tup [spotA z,.ref (if z = p then q else r z)]) (g:=fun p=>AV.tup [spotA p,.ref (r p)]) fun z m=>by rw [ev z m]]
  rw [show List.map (fun z=>AV.tup [spotA z,.ref (if z = p then q else r z)]) [p] = [.tup [spotA p,.ref q]] by rw [List.map_singleton,ep]]
  exact (x.hc h.c).same
 ·rw [ev z m]; exact (x.hc (h.t z m)).ne (Nat.ne_of_lt (h.g z m))
 ·rw [ep]; exact cq.ne (Nat.ne_of_lt (Nat.lt_of_lt_of_le lt gq))
 ·rw [ev z m,ev y m']; exact h.i z m y m'
 ·rw [ev z m,ep]; exact fun e=>absurd (h.t z m).lt (Nat.not_lt.mpr (e ▸ gq))
 ·rw [ev y m',ep]; exact fun e=>absurd (h.t y m').lt (Nat.not_lt.mpr (e ▸ gq))
 ·rw [ev z m]; exact h.g z m
 ·rw [ep]; exact Nat.lt_of_lt_of_le lt gq
theorem oW {P : List Pt} (nd : P.Nodup) {j : Nat} (hj : j < P.length) : P[j] ∉ P.take j /\ P.take (j + 1) = P.take j ++ [P[j]]:=by
 have tk : P.take (j + 1) = P.take j ++ [P[j]]:=by rw [List.take_add_one,List.getElem?_eq_getElem hj]; rfl
 refine ⟨fun m=>?_,tk⟩
 rw [<- List.take_append_drop (j + 1) P,tk] at nd
 exact (List.nodup_append.mp (List.nodup_append.mp nd).1).2.2 _ m _ (List.mem_singleton.mpr rfl) rfl
theorem oj {d pl : Nat} {P : List Pt} {f : Pt -> AV} {ρ : Env} {σ : Hp} {e2 : X} {L : Pt -> List AV} {Q : AV -> Hp -> Prop} (nd : P.Nodup) (l9 : P.length ≤ 9) (hl : Hc σ pl (.dict (dOf P f) P.length))
  (he : ∀ p τ Q,p ∈ P -> Ext σ τ -> RetL τ (L p) Q -> vX d e2 ((10,spotA p) :: ρ) τ Q) (k : ∀ r τ,DT σ τ P r L -> Q (.ref σ.length) τ) :
  ∃ m,vC d (.tup [.loc 10,e2]) [10] (.ref pl) (epOf σ (.ref pl)) σ.length [] m 0 ρ (σ ++ [.list []]) Q:=by
 rw [sA hl]
 refine gY (fun j τ=>∃ r,DT σ τ (P.take j) r L) P.length ⟨fun uw=>0,.a0,(fun uw m=>nomatch m),(fun uw m=>nomatch m),(fun uw m=>nomatch m),Ext.refl.app _⟩ (fun j τ hj h=>?_) fun τ h=>?_
 ·obtain ⟨r,h⟩:=h
  obtain ⟨np,tk⟩:=oW nd hj
  refine ⟨spotA P[j],_,?_,rfl,t_n (.t (aD (aL (.loc ⟨rfl⟩) (af (he _ _ _ (List.getElem_mem hj) h.x fun q υ x gq cq=>ad ⟨_,x.hc h.c,?_,fun z=>if z = P[j] then q else r z,?_⟩)))))⟩
  ·rw [lj (h.x.hc hl) (bP _ _),dOf,List.getElem?_map,List.getElem?_eq_getElem hj]; rfl
  ·rw [List.length_map,List.length_take]; exact Nat.lt_of_le_of_lt (Nat.min_le_right _ _) (Nat.lt_of_le_of_lt l9 (Nat.lt_of_sub_ne_zero (by decide)))
  ·rw [tk]; exact h.snoc np x gq cq
 ·obtain ⟨r,h⟩:=h
  rw [List.take_length] at h
  exact ⟨by rw [lj (h.x.hc hl) (bP _ _),dOf,List.getElem?_map,List.getElem?_eq_none (Nat.le_refl _)]; rfl,k r τ h⟩
noncomputable def PT (σ : Hp) (P : List Pt) (r : Pt -> Nat) (L : Pt -> List Pt) : Prop:=∀ p ∈ P,Hc σ (r p) (.list (spots (L p)))
section
variable {σ τ : Hp} {S : List Nat} {P : List Pt} {r : Pt -> Nat} {L : Pt -> List Pt}
theorem PT.ext (h : PT σ P r L) (x : Ext σ τ) : PT τ P r L:=fun p hp=>x.hc (h p hp)
theorem PT.kp (h : PT σ P r L) (x : Kp S σ τ) (n : ∀ p ∈ P,r p ∉ S) : PT τ P r L:=fun p hp=>x.hc (n p hp) (h p hp)
theorem PT.put (h : PT σ P r L) (i : ∀ p ∈ P,∀ q ∈ P,r p = r q -> p = q) {p : Pt} (hp : p ∈ P) (x : List Pt) : PT (σ.set (r p) (.list (spots x))) P r (fun q=>if q = p then x else L q):=fun q hq=>by
 by_cases e : q = p
 ·subst e; dsimp only; rw [if_pos rfl]; exact (h q hq).same
 ·dsimp only; rw [if_neg e]; exact (h q hq).ne fun g=>e (i q hq p hp g.symm)
end
theorem hH {σ : Hp} {p j : Nat} {l : List Pt} (h : Hc σ p (.list (spots l))) (hj : j < l.length) : nextOf σ (.ref p) j 0 = some (some (spotA l[j])):=by
 rw [dM h,spots,List.getElem?_map,List.getElem?_eq_getElem hj]; rfl
theorem fz {σ : Hp} {p : Nat} {l : List Pt} (h : Hc σ p (.list (spots l))) : nextOf σ (.ref p) l.length 0 = some none:=by
 rw [dM h,spots,List.getElem?_map,List.getElem?_eq_none (Nat.le_refl _)]; rfl
theorem fU {α : Type} {l : List α} {j : Nat} (hj : j < l.length) : l.take (j + 1) = l.take j ++ [l[j]]:=by rw [List.take_add_one,List.getElem?_eq_getElem hj]; rfl
theorem pA {A : Prop} {q s p g : Pt} {l : List Pt} : (A \/ (q = s /\ p ∈ l)) \/ (q = s /\ p = g) ↔ A \/ (q = s /\ p ∈ l ++ [g]):=by
 rw [List.mem_append,List.mem_singleton]
 exact ⟨fun h=>h.elim (fun h=>h.elim .inl fun h=>.inr ⟨h.1,.inl h.2⟩) fun h=>.inr ⟨h.1,.inr h.2⟩,fun h=>h.elim (fun h=>.inl (.inl h)) fun h=>h.2.elim (fun g=>.inl (.inr ⟨h.1,g⟩)) fun g=>.inr ⟨h.1,g⟩⟩
theorem pS {d pa gp nn : Nat} {P gs : List Pt} {r : Pt -> Nat} {L : Pt -> List Pt} {s : Pt} {K : Env -> Env} {e0 : Env} {σ : Hp} {F : Fl -> Env -> Hp -> Prop} (hK : ∀ v e,setVar 85 v (K e) = K (setVar 85 v e)) (r1 : ∀ e,Gv (K e) 42 (.ref pa)) (r2 : Gv (K e0) 10 (spotA s))
  (hg : ∀ g ∈ gs,g ∈ P) (hgp : Hc σ gp (.list (spots gs))) (hpa : Hc σ pa (.dict (dOf P fun p=>.ref (r p)) nn)) (ht : PT σ P r L) (inj : ∀ p ∈ P,∀ q ∈ P,r p = r q -> p = q) (n1 : gp ∉ P.map r) (n2 : pa ∉ P.map r) (hb : ∀ p ∈ P,(L p).length + gs.length ≤ 4000)
  (k : ∀ e' σ' L',PT σ' P r L' -> (∀ p ∈ P,∀ q,q ∈ L' p ↔ q ∈ L p \/ (q = s /\ p ∈ gs)) -> (∀ p ∈ P,(L' p).length ≤ (L p).length + gs.length) -> Kp (P.map r) σ σ' -> F .next (K e') σ') :
  ∃ m,vL d 85 (.ref gp) (epOf σ (.ref gp)) m 0 [.expr (.mcall (.sub (.loc 42) (.loc 85)) 18 [.loc 10])] (K e0) σ F:=by
 rw [gQ hgp]
 refine dF (fun j ρ σ'=>(∃ e,ρ = K e /\ Gv (K e) 10 (spotA s)) /\ Kp (P.map r) σ σ' /\ ∃ L',PT σ' P r L' /\ (∀ p ∈ P,∀ q,q ∈ L' p ↔ q ∈ L p \/ (q = s /\ p ∈ gs.take j)) /\ ∀ p ∈ P,(L' p).length ≤ (L p).length + j) gs.length ⟨⟨_,rfl,r2⟩,.refl,L,ht,fun p uw q=>⟨.inl,fun h=>h.elim id fun h=>nomatch h.2⟩,fun p uw=>Nat.le_refl _⟩ (fun j ρ σ' hj h=>?_) fun ρ σ' h=>?_
 ·obtain ⟨⟨e,i0,i1⟩,i2,L',i3,i4,i5⟩:=h
  subst i0
  have mg : gs[j] ∈ P:=hg _ (List.getElem_mem hj)
  refine ⟨_,hH (i2.hc n1 hgp) hj,?_⟩
  rw [hK]
  have g85 : Gv (K (setVar 85 (spotA gs[j]) e)) 85 (spotA gs[j]):=hK _ _ ▸ gv_set
  have g10 : Gv (K (setVar 85 (spotA gs[j]) e)) 10 (spotA s):=hK _ _ ▸ ao rfl i1
  rw [fU hj]
  revert mg g85 g10
  generalize gs[j] = g
  intro mg g85 g10
  have l1:=i5 g mg
  have l2:=hb g mg
  refine eR (.sub (.loc (r1 _)) (.loc g85) (.d (i2.hc n2 hpa) rfl (bQ mg))) (.loc g10) (i3 g mg) ?_ (aJ ⟨⟨_,rfl,g10⟩,i2.set (List.mem_map.mpr ⟨g,mg,rfl⟩),fun q=>if q = g then L' g ++ [s] else L' q,?_,fun p hp q=>?_,fun p hp=>?_⟩)
  ·rw [List.length_append,aO]; exact Nat.le_trans (Nat.le_trans (Nat.add_le_add_right l1 1) (by rw [Nat.add_assoc]; exact Nat.add_le_add_left hj _)) l2
  ·rw [show spots (L' g) ++ [spotA s] = spots (L' g ++ [s]) from (aP (L' g) [s]).symm]
   exact i3.put inj mg _
  ·refine Iff.trans ?_ pA
   rw [<- i4 p hp q]
   dsimp only
   by_cases e : p = g
   ·subst e; rw [if_pos rfl,List.mem_append,List.mem_singleton]
    exact ⟨fun h=>h.imp id fun h=>⟨h,rfl⟩,fun h=>h.imp id And.left⟩
   ·rw [if_neg e]; exact ⟨.inl,fun h=>h.elim id fun h=>absurd h.2 e⟩
  ·have:=i5 p hp
   dsimp only
   by_cases e : p = g
   ·subst e; rw [if_pos rfl,List.length_append]; exact Nat.add_le_add_right this 1
   ·rw [if_neg e]; exact Nat.le_succ_of_le this
 ·obtain ⟨⟨e,i0,i1⟩,i2,L',i3,i4,i5⟩:=h
  subst i0
  rw [List.take_length] at i4
  exact ⟨fz (i2.hc n1 hgp),k e σ' L' i3 i4 i5 i2⟩
theorem gA {B : List Blk} {p : Pt} (h : p ∈ pts B) : lineAt B p.1 p.2 = some (lineOf B p):=by
 obtain ⟨l,hl⟩:=i8 h
 unfold lineOf; rw [hl]; rfl
theorem sE {B : List Blk} (hB : aA B) {p q : Pt} (h : p ∈ pts B) (hq : q ∈ behL p.1 p.2 (lineOf B p)) : q ∈ pts B:=by
 have hl:=gA h
 revert hq
 refine iz (G:=fun l=>q ∈ behL p.1 p.2 l -> q ∈ pts B) hl (fun ss t x hb hi lt hq=>?_) fun ss t hb e hq=>?_
 ·rw [List.mem_singleton.mp hq]; exact pts_at.mpr ⟨ss,t,hb,lt⟩
 ·refine aw (List.mem_map.mp hq) fun g hg e=>?_
  have lt:=eB (hB.bk _ ss t hb).2.2 g hg
  rw [<- e]
  exact pts_at.mpr ⟨_,_,List.getElem?_eq_getElem lt,Nat.zero_le _⟩
theorem qn (b i : Nat) (l : Ln) : (behL b i l).length ≤ 2:=by
 cases l with
 | s s=>exact Nat.le_succ 1
 | t t =>
  show ((goesT t).map _).length ≤ 2
  rw [List.length_map]
  cases t <;> exact Nat.le_of_ble_eq_true rfl
theorem rV {d pl pa nn : Nat} {B : List Blk} {σ : Hp} {r : Pt -> Nat} {w1 w2 : AV} {e0 : Env} {F : Fl -> Env -> Hp -> Prop} (hB : aA B) (hl : Hc σ pl (.dict (dOf (pts B) (lnD B)) (pts B).length)) (hpa : Hc σ pa (.dict (dOf (pts B) fun p=>.ref (r p)) nn)) (ht : PT σ (pts B) r (fun uw=>[])) (inj : ∀ p ∈ pts B,∀ q ∈ pts B,r p = r q -> p = q) (n1 : pl ∉ (pts B).map r) (n2 : pa ∉ (pts B).map r)
  (k : ∀ e' σ' L,Kp ((pts B).map r) σ σ' -> PT σ' (pts B) r L -> (∀ p ∈ pts B,∀ q,q ∈ L p ↔ (q ∈ pts B /\ p ∈ behL q.1 q.2 (lineOf B q))) -> F .next ((15,AV.ref pl) :: (16,w1) :: (84,w2) :: (42,AV.ref pa) :: e') σ') :
  ∃ m,vL (d + 1) 10 (.ref pl) (epOf σ (.ref pl)) m 0 [.for1 85 (.call (.glo (.fn 43)) [.loc 10,.sub (.loc 15) (.loc 10)]) [.expr (.mcall (.sub (.loc 42) (.loc 85)) 18 [.loc 10])]] ((15,AV.ref pl) :: (16,w1) :: (84,w2) :: (42,AV.ref pa) :: e0) σ F:=by
 have l9:=cj hB
 rw [sA hl]
 refine dF (fun j ρ σ'=>(∃ e,ρ = (15,AV.ref pl) :: (16,w1) :: (84,w2) :: (42,AV.ref pa) :: e) /\ Kp ((pts B).map r) σ σ' /\ ∃ L,PT σ' (pts B) r L /\ (∀ p ∈ pts B,∀ q,q ∈ L p ↔ (q ∈ (pts B).take j /\ p ∈ behL q.1 q.2 (lineOf B q))) /\ ∀ p ∈ pts B,(L p).length ≤ 2 * j) (pts B).length ⟨⟨_,rfl⟩,.refl,_,ht,fun p uw q=>⟨(fun h=>nomatch h),(fun h=>nomatch h.1)⟩,fun p uw=>Nat.le_refl _⟩ (fun j ρ σ' hj h=>?_) fun ρ σ' h=>?_
 ·obtain ⟨⟨e,i0⟩,i2,L,i3,i4,i5⟩:=h
  subst i0
  have mp : (pts B)[j] ∈ pts B:=List.getElem_mem hj
  have hl':=i2.hc n1 hl
  refine ⟨spotA (pts B)[j],by rw [lj hl' (bP _ _),dOf,List.getElem?_map,List.getElem?_eq_getElem hj]; rfl,?_⟩
  rw [fU hj]
  revert mp
  generalize (pts B)[j] = p
  intro mp
  refine aW (aI (.cons (.loc gv_set) (.cons (.sub (.loc ⟨rfl⟩) (.loc gv_set) (.d hl' rfl (bQ mp))) .nil)) (s6 (b:=p.1) (i:=p.2) fun gp χ x g c=>?_))
  have bl:=qn p.1 p.2 (lineOf B p)
  refine pS (s:=p) (P:=pts B) (gs:=behL p.1 p.2 (lineOf B p)) (K:=fun e=>(15,AV.ref pl) :: (16,w1) :: (84,w2) :: (42,AV.ref pa) :: e) (e0:=setVar 10 (spotA p) e) (fun uw uw=>rfl) (fun uw=>⟨rfl⟩) ⟨(gv_set (x:=10) (ρ:=e)).go⟩ (fun q hq=>sE hB mp hq) c (x.hc (i2.hc n2 hpa)) (i3.ext x) inj (fun m=>?_) n2 (fun z hz=>?_) fun e2 τ3 L2 k2 k3 k4 k5=>.next (aJ ⟨⟨_,rfl⟩,(i2.up x).trans k5,L2,k2,fun z hz q=>?_,fun z hz=>?_⟩)
  ·refine aw (List.mem_map.mp m) fun z hz e=>?_
   exact Nat.not_lt.mpr (e ▸ g) (i3 z hz).lt
  ·have:=i5 z hz
   lia
  ·rw [k3 z hz q,i4 z hz q,List.mem_append,List.mem_singleton]
   exact ⟨fun h=>h.elim (fun h=>⟨.inl h.1,h.2⟩) fun h=>⟨.inr h.1,h.1 ▸ h.2⟩,fun h=>h.1.elim (fun g=>.inl ⟨g,h.2⟩) fun g=>.inr ⟨g,g ▸ h.2⟩⟩
  ·have:=k4 z hz
   have:=i5 z hz
   lia
 ·obtain ⟨⟨e,i0⟩,i2,L,i3,i4,i5⟩:=h
  subst i0
  rw [List.take_length] at i4
  exact ⟨by rw [lj (i2.hc n1 hl) (bP _ _),dOf,List.getElem?_map,List.getElem?_eq_none (Nat.le_refl _)]; rfl,k e σ' L i2 i3 i4⟩
theorem rL (p q : Pt) : ltL (kS p) (kS q) = decide (ltP p q):=by
 obtain ⟨a,b⟩:=p
 obtain ⟨c,d⟩:=q
 show (if (a : Int) = c then (if (b : Int) = d then false else decide ((b : Int) < d)) else decide ((a : Int) < c)) = decide (a < c \/ (a = c /\ b < d))
 by_cases e : a = c
 ·subst e
  rw [if_pos rfl]
  by_cases f : b = d
  ·subst f
   rw [if_pos rfl]
   exact (decide_eq_false fun h=>h.elim (Nat.lt_irrefl _) fun h=>Nat.lt_irrefl _ h.2).symm
  ·rw [if_neg fun h : (b : Int) = d=>f (Int.ofNat.inj h)]
   exact decide_eq_decide.mpr (Int.ofNat_lt.trans ⟨fun h=>.inr ⟨rfl,h⟩,fun h=>h.elim (fun h=>absurd h (Nat.lt_irrefl _)) And.right⟩)
 ·rw [if_neg fun h : (a : Int) = c=>e (Int.ofNat.inj h)]
  exact decide_eq_decide.mpr (Int.ofNat_lt.trans ⟨.inl,fun h=>h.elim id fun h=>absurd h.1 e⟩)
noncomputable def insP (x : Pt) : List Pt -> List Pt
 | []=>[x]
 | y :: r=>if ltP y x then y :: insP x r else x :: y :: r
noncomputable def sortP (l : List Pt) : List Pt:=l.foldr insP []
theorem nJ (x : Pt) : ∀ (l : List Pt),insK (kS x) (l.map kS) = (insP x l).map kS
 | []=>rfl
 | y :: r=>by
  show (if ltL (kS y) (kS x) then kS y :: insK (kS x) (r.map kS) else kS x :: kS y :: r.map kS) = (if ltP y x then y :: insP x r else x :: y :: r).map kS
  rw [rL]
  by_cases h : ltP y x
  ·rw [if_pos (decide_eq_true h),if_pos h,nJ x r]; rfl
  ·rw [if_neg (by rw [decide_eq_false h]; exact Bool.false_ne_true),if_neg h]; rfl
theorem sortP_k : ∀ (l : List Pt),sortK (l.map kS) = (sortP l).map kS
 | []=>rfl
 | x :: r=>by
  show insK (kS x) (sortK (r.map kS)) = _
  rw [sortP_k r,nJ]; rfl
theorem eL (x y : Pt) : ∀ (l : List Pt),x ∈ insP y l ↔ x = y \/ x ∈ l
 | []=>List.mem_cons
 | a :: r=>by
  show x ∈ (if ltP a y then a :: insP y r else y :: a :: r) ↔ _
  split
  ·rw [List.mem_cons,eL x y r,List.mem_cons]
   exact ⟨fun h=>h.elim (fun h=>.inr (.inl h)) fun h=>h.imp id .inr,fun h=>h.elim (fun h=>.inr (.inl h)) fun h=>h.imp id .inr⟩
  ·exact List.mem_cons
theorem dN (x : Pt) : ∀ (l : List Pt),x ∈ sortP l ↔ x ∈ l
 | []=>Iff.rfl
 | a :: r=>(eL x a (sortP r)).trans ((or_congr Iff.rfl (dN x r)).trans List.mem_cons.symm)
theorem iG (x : Pt) : ∀ (l : List Pt),(insP x l).length = l.length + 1
 | []=>rfl
 | y :: r=>by
  show (if ltP y x then y :: insP x r else x :: y :: r).length = _
  split
  ·exact congrArg (· + 1) (iG x r)
  ·rfl
theorem sortP_len : ∀ (l : List Pt),(sortP l).length = l.length
 | []=>rfl
 | x :: r=>(iG x (sortP r)).trans (congrArg (· + 1) (sortP_len r))
theorem jM (x : Pt) : ∀ (l : List Pt),UpP l -> x ∉ l -> UpP (insP x l)
 | [],_,_=>⟨(fun y m=>nomatch m),trivial⟩
 | a :: r,h,n=>by
  show UpP (if ltP a x then a :: insP x r else x :: a :: r)
  split
  ·rename_i lt
   exact ⟨fun y hy=>((eL y x r).mp hy).elim (fun e=>e ▸ lt) (h.1 y),jM x r h.2 fun m=>n (List.mem_cons_of_mem _ m)⟩
  ·rename_i nl
   have xa:=pQ (p:=a) (q:=x) (fun e=>n (e ▸ List.mem_cons_self ..)) nl
   exact ⟨fun y hy=>(List.mem_cons.mp hy).elim (fun e=>e ▸ xa) fun m=>nj xa (h.1 y m),h⟩
theorem up_sortP : ∀ (l : List Pt),l.Nodup -> UpP (sortP l)
 | [],_=>trivial
 | a :: r,h=>jM a _ (up_sortP r (List.nodup_cons.mp h).2) fun m=>(List.nodup_cons.mp h).1 ((dN a r).mp m)
section
variable {σ : Hp} {a n : Nat}
theorem Bl.srt {F T : List Pt} (h : Hc σ a (.list (spots F))) (nd : F.Nodup) (l : F.length ≤ 9) (up : UpP T) (m : ∀ x,x ∈ T ↔ x ∈ F) : Bl .sorted [.ref a] σ (.ref σ.length) (σ ++ [.list (spots T)]):=⟨by
 have e : sortP F = T:=upP_ext _ _ (up_sortP F nd) up fun x=>by rw [dN,m]
 show (lstAt σ a).bind (sortA σ) = _
 rw [h.lst]
 show (allKeys (spots F)).bind (fun ks=>if 64 ≤ ks.length || ks.any List.isEmpty then Option.none else mkList σ ((sortK ks).map fun k=>.tup (k.map .int))) = _
 rw [keys_spots]
 have c : (decide (64 ≤ (F.map kS).length) || (F.map kS).any List.isEmpty) = false:=by
  rw [List.length_map,decide_eq_false (fun h=>by lia),Bool.false_or,List.any_map]
  exact List.any_eq_false.mpr fun uw uw=>Bool.false_ne_true
 show (if (decide (64 ≤ (F.map kS).length) || (F.map kS).any List.isEmpty) = true then _ else _) = _
 rw [c,if_neg Bool.false_ne_true,sortP_k,e,List.map_map]
 exact if_pos (by rw [List.length_map,<- e,sortP_len]; exact Nat.le_trans l (le4 rfl))⟩
theorem all_spots : ∀ l : List Pt,allO kyA (spots l) = some (l.map fun p=>Ky.tup (kS p))
 | []=>rfl
 | p :: l=>by
  show (allO kyA (spots l)).map (Ky.tup (kS p) :: ·) = _
  rw [all_spots l]; rfl
theorem lm (p : Pt) (l : List Pt) : memA (spotA p) (spots l) = some (decide (p ∈ l)):=by
 show (allO kyA (spots l)).bind (fun js=>if js.all (fun j=>kdK j == kdK (.tup (kS p))) then some (js.contains (.tup (kS p))) else none) = _
 rw [all_spots]
 show (if (l.map fun p=>Ky.tup (kS p)).all (fun j=>kdK j == kdK (.tup (kS p))) then some ((l.map fun p=>Ky.tup (kS p)).contains (.tup (kS p))) else none) = _
 rw [if_pos (by rw [List.all_map]; exact List.all_eq_true.mpr fun uw uw=>beq_self_eq_true _)]
 congr 1
 rw [Bool.eq_iff_iff,List.contains_iff_mem,decide_eq_true_eq,List.mem_map]
 exact ⟨fun ⟨q,m,e⟩=>by injection e with e; exact eO e ▸ m,fun m=>⟨p,m,rfl⟩⟩
noncomputable def wantF (B : List Blk) (u : Ln -> List Nat) (n : Nat) (l : List Pt) : List Pt:=l.filter fun p=>decide (n ∈ u (lineOf B p))
theorem kJ {B : List Blk} {u : Ln -> List Nat} {n : Nat} {l : List Pt} {p : Pt} : wantF B u n (l ++ [p]) = wantF B u n l ++ if n ∈ u (lineOf B p) then [p] else []:=by
 unfold wantF
 rw [List.filter_append,List.filter_cons]
 by_cases m : n ∈ u (lineOf B p)
 ·rw [if_pos m,if_pos (decide_eq_true m)]; rfl
 ·rw [if_neg m,if_neg (by rw [decide_eq_false m]; exact Bool.false_ne_true)]; rfl
theorem rP {d pl pw : Nat} {B : List Blk} {r : Pt -> Nat} {u : Ln -> List Nat} {ρ : Env} {Q : AV -> Hp -> Prop} (hB : aA B) (hl : Hc σ pl (.dict (dOf (pts B) (lnD B)) (pts B).length)) (hw : Hc σ pw (.dict (dOf (pts B) fun p=>.ref (r p)) (pts B).length)) (hr : ∀ p ∈ pts B,Hc σ (r p) (.list (nums (u (lineOf B p)))))
  (r1 : Gv ρ 16 (.int n)) (r2 : Gv ρ 84 (.ref pw)) (k : ∀ τ,Ext σ τ -> Hc τ σ.length (.list (spots (wantF B u n (pts B)))) -> Q (.ref σ.length) τ) :
  ∃ m,vC d (.loc 10) [10] (.ref pl) (epOf σ (.ref pl)) σ.length [.cmp .isIn (.loc 16) (.sub (.loc 84) (.loc 10))] m 0 ρ (σ ++ [.list []]) Q:=by
 have l9:=cj hB
 rw [sA hl]
 refine gY (fun j τ=>Ext σ τ /\ Hc τ σ.length (.list (spots (wantF B u n ((pts B).take j))))) (pts B).length ⟨Ext.refl.app _,.a0⟩ (fun j τ hj h=>?_) fun τ h=>?_
 ·obtain ⟨x,c⟩:=h
  have mp : (pts B)[j] ∈ pts B:=List.getElem_mem hj
  refine ⟨spotA (pts B)[j],[(10,spotA (pts B)[j])],by rw [lj (x.hc hl) (bP _ _),dOf,List.getElem?_map,List.getElem?_eq_getElem hj]; rfl,rfl,?_⟩
  rw [fU hj]
  have lt : (spots (wantF B u n ((pts B).take j))).length < 4000:=by
   rw [aO]
   exact Nat.lt_of_le_of_lt (Nat.le_trans (List.length_filter_le ..) (by rw [List.length_take]; exact Nat.min_le_right _ _)) (Nat.lt_of_le_of_lt l9 (Nat.lt_of_sub_ne_zero (by decide)))
  revert mp
  generalize (pts B)[j] = p
  intro mp
  rw [kJ]
  refine t_c (r:=decide (n ∈ u (lineOf B p))) (.cmp (.loc (dz rfl r1)) (.sub (.loc (dz rfl r2)) (.loc ⟨rfl⟩) (.d (x.hc hw) rfl (bQ mp))) (.il (x.hc (hr p mp)) (dm _ _))) ?_
  by_cases m : n ∈ u (lineOf B p)
  ·rw [decide_eq_true m,if_pos m,aP]
   exact .t (t_n (.t (ar (.loc ⟨rfl⟩) ⟨_,c,lt,x.set (Nat.le_refl _),c.same⟩)))
  ·rw [decide_eq_false m,if_neg m,List.append_nil]
   exact .f (.f ⟨x,c⟩)
 ·obtain ⟨x,c⟩:=h
  rw [List.take_length] at c
  exact ⟨by rw [lj (x.hc hl) (bP _ _),dOf,List.getElem?_map,List.getElem?_eq_none (Nat.le_refl _)]; rfl,k τ x c⟩
end
structure WL (B : List Blk) (u : Ln -> List Nat) (n : Nat) (W F L X : List Pt) (m : Nat) : Prop where
 nd : F.Nodup
 fp : ∀ p ∈ F,p ∈ pts B
 lv : ∀ p ∈ F,cx B u n p
 w : ∀ p ∈ W,p ∈ F
 lf : ∀ p ∈ L,p ∈ F
 cl : ∀ q ∈ F,q ∉ L -> q ∉ X -> ∀ p ∈ pts B,q ∈ behL p.1 p.2 (lineOf B p) -> n ∉ setsL (lineOf B p) -> p ∈ F
 le : L.length ≤ F.length
 m : m = ((pts B).length - F.length) + L.length
section
variable {B : List Blk} {u : Ln -> List Nat} {n m : Nat} {W F L X : List Pt} {p c : Pt}
theorem WL.len (h : WL B u n W F L X m) : F.length ≤ (pts B).length:=h.nd.length_le_of_subset h.fp
theorem pO {l : List Pt} (h : l.Nodup) (n : p ∉ l) : (l ++ [p]).Nodup:=List.nodup_append.mpr ⟨h,List.nodup_cons.mpr ⟨(fun m=>nomatch m),.nil⟩,fun a ha b hb e=>n (List.mem_singleton.mp hb ▸ e ▸ ha)⟩
theorem WL.add (h : WL B u n W F L X m) (mp : p ∈ pts B) (np : p ∉ F) (lv : cx B u n p) : WL B u n W (F ++ [p]) (L ++ [p]) X m:=by
 have sp : ∀ {l : List Pt} {Z : Pt -> Prop},(∀ z ∈ l,Z z) -> Z p -> ∀ z ∈ l ++ [p],Z z:=fun a b z m=>(List.mem_append.mp m).elim (a z) fun m=>List.mem_singleton.mp m ▸ b
 have nd:=pO h.nd np
 have fp:=sp h.fp mp
 have l1 : (F ++ [p]).length ≤ (pts B).length:=nd.length_le_of_subset fp
 have e1 : (F ++ [p]).length = F.length + 1:=List.length_append
 have e2 : (L ++ [p]).length = L.length + 1:=List.length_append
 refine ⟨nd,fp,sp h.lv lv,fun q hq=>List.mem_append_left _ (h.w q hq),sp (fun q hq=>List.mem_append_left _ (h.lf q hq)) (List.mem_append_right _ (List.mem_singleton.mpr rfl)),fun q hq nq nx r hr hb ns=>?_,by rw [e1,e2]; exact Nat.succ_le_succ h.le,?_⟩
 ·have hq' : q ∈ F:=(List.mem_append.mp hq).elim id fun g=>absurd (List.mem_append_right _ g) nq
  exact List.mem_append_left _ (h.cl q hq' (fun g=>nq (List.mem_append_left _ g)) nx r hr hb ns)
 ·have:=h.m
  rw [e1] at l1
  rw [e1,e2]; lia
theorem WL.pop (h : WL B u n W F (L ++ [c]) [] m) : WL B u n W F L [c] (m - 1) /\ 1 ≤ m:=by
 have e2 : (L ++ [c]).length = L.length + 1:=List.length_append
 have le:=h.le
 have hm:=h.m
 rw [e2] at le hm
 refine ⟨⟨h.nd,h.fp,h.lv,h.w,fun q hq=>h.lf q (List.mem_append_left _ hq),fun q hq nq nx=>h.cl q hq (fun g=>(List.mem_append.mp g).elim nq nx) (fun g=>nomatch g),Nat.le_of_succ_le le,?_⟩,?_⟩
 ·rw [hm]; rfl
 ·rw [hm]; exact Nat.le_add_left _ _
theorem WL.done (h : WL B u n W F L [c] m) (g : ∀ p ∈ pts B,c ∈ behL p.1 p.2 (lineOf B p) -> n ∉ setsL (lineOf B p) -> p ∈ F) : WL B u n W F L [] m :=
 ⟨h.nd,h.fp,h.lv,h.w,h.lf,fun q hq nq uw p hp hb ns=>(Decidable.em (q = c)).elim (fun e=>g p hp (e ▸ hb) ns) fun e=>h.cl q hq nq (fun m=>e (List.mem_singleton.mp m)) p hp hb ns,h.le,h.m⟩
theorem WL.all (h : WL B u n W F [] [] m) (hw : ∀ p ∈ pts B,n ∈ u (lineOf B p) -> p ∈ W) (mp : p ∈ pts B) : cx B u n p -> p ∈ F:=fun lv=>by
 have at' : ∀ {b i l},lineAt B b i = some l -> (b,i) ∈ pts B /\ l = lineOf B (b,i):=fun {b i l} hl=>by
  refine ⟨?_,by unfold lineOf; rw [hl]; rfl⟩
  refine iz (G:=fun uw=>(b,i) ∈ pts B) hl (fun ss t x hb hi lt=>pts_at.mpr ⟨ss,t,hb,Nat.le_of_lt lt⟩) fun ss t hb e=>pts_at.mpr ⟨ss,t,hb,Nat.le_of_eq e⟩
 clear mp
 induction lv with
 | @here b i l hl hx =>
  obtain ⟨mp,e⟩:=at' hl
  exact h.w _ (hw _ mp (e ▸ zz_mem.mp hx))
 | @step b i l q hl hn hq hv ih =>
  obtain ⟨mp,e⟩:=at' hl
  subst e
  exact h.cl q ih (fun g=>nomatch g) (fun g=>nomatch g) (b,i) mp hq fun s=>hn (zz_mem.mpr s)
end
theorem pN {σ : Hp} {p q : Nat} {xs : List AV} (a : Hc σ p (.list xs)) (b : Hc σ q (.list [])) : Cp .ne (.ref p) (.ref q) σ (!xs.isEmpty):=⟨by
 show Option.map _ (((lstAt σ p).bind fun xs=>(lstAt σ q).bind fun ys=>eqL σ xs ys).or _) = _
 rw [a.lst,b.lst]
 cases xs <;> rfl⟩
noncomputable def K44 (pl pa n : Nat) (w2 : AV) (e : Env) : Env:=(15,.ref pl) :: (16,.int n) :: (84,w2) :: (42,.ref pa) :: e
structure G44 (pl pa pf pt n : Nat) (w2 : AV) (e : Env) : Prop where
 t : Gv (K44 pl pa n w2 e) 25 (.ref pt)
 f : Gv (K44 pl pa n w2 e) 4 (.ref pf)
theorem G44.set {pl pa pf pt n x : Nat} {w2 v : AV} {e : Env} (h : G44 pl pa pf pt n w2 e) (a : Nat.beq x 25 = false) (b : Nat.beq x 4 = false) (c : setVar x v (K44 pl pa n w2 e) = K44 pl pa n w2 (setVar x v e)) : G44 pl pa pf pt n w2 (setVar x v e):=⟨c ▸ ao a h.t,c ▸ ao b h.f⟩
theorem pR {d pl pa pf pt ga n m : Nat} {w2 : AV} {B : List Blk} {u : Ln -> List Nat} {W F0 L0 G : List Pt} {c : Pt} {e0 : Env} {σ : Hp} {Q : Fl -> Env -> Hp -> Prop} (hB : aA B) (hl : Hc σ pl (.dict (dOf (pts B) (lnD B)) (pts B).length)) (hG : Hc σ ga (.list (spots G))) (mG : ∀ q,q ∈ G ↔ (q ∈ pts B /\ c ∈ behL q.1 q.2 (lineOf B q))) (lc : cx B u n c) (h0 : WL B u n W F0 L0 [c] m) (hf : Hc σ pf (.list (spots F0))) (ht : Hc σ pt (.list (spots L0)))
  (n1 : pf ≠ pt) (n2 : ga ∉ [pf,pt]) (n3 : pl ∉ [pf,pt]) (g0 : G44 pl pa pf pt n w2 e0)
  (k : ∀ e' σ' F L,G44 pl pa pf pt n w2 e' -> Kp [pf,pt] σ σ' -> Hc σ' pf (.list (spots F)) -> Hc σ' pt (.list (spots L)) -> WL B u n W F L [] m -> Q .next (K44 pl pa n w2 e') σ') :
  ∃ m,vL (d + 1) 10 (.ref ga) (epOf σ (.ref ga)) m 0 [.ifs (.and [(.cmp .notIn (.loc 10) (.loc 4)),(.cmp .notIn (.loc 16) (.call (.glo (.fn 41)) [(.sub (.loc 15) (.loc 10))]))]) [(.expr (.mcall (.loc 4) 18 [(.loc 10)])),(.expr (.mcall (.loc 25) 18 [(.loc 10)]))] []] (K44 pl pa n w2 e0) σ Q:=by
 have l9:=cj hB
 have mf : pf ∈ [pf,pt]:=List.mem_cons_self ..
 have mt : pt ∈ [pf,pt]:=List.mem_cons_of_mem _ (List.mem_singleton.mpr rfl)
 rw [gQ hG]
 refine dF (fun j ρ σ'=>∃ e,(ρ = K44 pl pa n w2 e /\ G44 pl pa pf pt n w2 e) /\ Kp [pf,pt] σ σ' /\ ∃ F L,Hc σ' pf (.list (spots F)) /\ Hc σ' pt (.list (spots L)) /\ WL B u n W F L [c] m /\ ∀ p ∈ G.take j,n ∉ setsL (lineOf B p) -> p ∈ F) G.length ⟨e0,⟨rfl,g0⟩,.refl,F0,L0,hf,ht,h0,fun p h=>nomatch h⟩ (fun j ρ υ hj h=>?_) fun ρ υ h=>?_
 ·obtain ⟨e,⟨i0,i1⟩,i2,F,L,hf,ht,wl,i3⟩:=h
  subst i0
  have mg : G[j] ∈ G:=List.getElem_mem hj
  refine ⟨_,hH (i2.hc n2 hG) hj,?_⟩
  have c1 : setVar 10 (spotA G[j]) (K44 pl pa n w2 e) = K44 pl pa n w2 (setVar 10 (spotA G[j]) e):=rfl
  have g10 : Gv (K44 pl pa n w2 (setVar 10 (spotA G[j]) e)) 10 (spotA G[j]):=c1 ▸ gv_set
  have i1:=i1.set rfl rfl c1
  rw [c1,fU hj]
  clear c1
  revert mg g10 i1
  generalize G[j] = p
  intro mg g10 i1
  obtain ⟨mp,hb⟩:=(mG p).mp mg
  have lF:=wl.len
  have sn : ∀ {F' : List Pt},(∀ p ∈ F,p ∈ F') -> (n ∉ setsL (lineOf B p) -> p ∈ F') -> ∀ q ∈ G.take j ++ [p],n ∉ setsL (lineOf B q) -> q ∈ F':=fun a b q hq ns=>(List.mem_append.mp hq).elim (fun hq=>a q (i3 q hq ns)) fun hq=>by
   have e:=List.mem_singleton.mp hq
   subst e; exact b ns
  refine cw (sS (t_c (r:=!decide (p ∈ F)) (.cmp (.loc g10) (.loc i1.f) (.nl hf (lm p F))) ?_))
  by_cases m : p ∈ F
  ·exact ai (rJ m) ⟨_,rfl,.f (ab (aJ ⟨_,⟨rfl,i1⟩,i2,F,L,hf,ht,wl,sn (fun uw h=>h) fun uw=>m⟩))⟩
  refine ay (rK m) (t_X (bG (ar (.loc ⟨rfl⟩) (aI (.cons (.sub (.loc ⟨rfl⟩) (.loc g10) (.d (i2.hc n3 hl) rfl (bQ mp))) .nil) (s8 fun q τ x uw cq=>⟨_,.nl cq (dm _ _),_,rfl,?_⟩)))))
  by_cases sx : n ∈ setsL (lineOf B p)
  ·exact ai (rJ sx) ⟨_,rfl,.f (ab (aJ ⟨_,⟨rfl,i1⟩,i2.up x,F,L,x.hc hf,x.hc ht,wl,sn (fun uw h=>h) fun h=>absurd sx h⟩))⟩
  have le:=wl.le
  have b1 : ∀ {l : List Pt},l.length ≤ 9 -> (spots l ++ [spotA p]).length ≤ 4000:=fun h=>by rw [List.length_append,aO]; exact Nat.le_trans (Nat.add_le_add_right h 1) (le4 rfl)
  have e1 : ∀ {l : List Pt},spots l ++ [spotA p] = spots (l ++ [p]):=fun {l}=>(aP l [p]).symm
  have hf':=(x.hc hf).same (o:=.list (spots F ++ [spotA p]))
  have ht':=(x.hc ht).ne (o':=.list (spots F ++ [spotA p])) n1
  have wl':=wl.add mp m (.step (gA mp) (fun s=>sx (zz_mem.mp s)) hb lc)
  refine ay (rK sx) (t_n ⟨_,rfl,.t (eR (.loc i1.f) (.loc g10) (x.hc hf) (b1 (Nat.le_trans lF l9)) (eR (.loc i1.t) (.loc g10) ht' (b1 (Nat.le_trans le (Nat.le_trans lF l9))) (ab (aJ ⟨_,⟨rfl,i1⟩,((i2.up x).set mf).set mt,F ++ [p],L ++ [p],?_,?_,wl',sn (fun q h=>List.mem_append_left _ h) fun uw=>List.mem_append_right _ (List.mem_singleton.mpr rfl)⟩))))⟩)
  ·rw [<- e1]; exact hf'.ne (Ne.symm n1)
  ·rw [<- e1]; exact ht'.same
 ·obtain ⟨e,⟨i0,i1⟩,i2,F,L,hf,ht,wl,i3⟩:=h
  subst i0
  rw [List.take_length] at i3
  exact ⟨fz (i2.hc n2 hG),k e υ F L i1 i2 hf ht (wl.done fun p hp hb ns=>i3 p ((mG p).mpr ⟨hp,hb⟩) ns)⟩
noncomputable def bdW : List XS:=[(.asg 27 (.mcall (.loc 25) 75 [])),(.for1 10 (.sub (.loc 42) (.loc 27)) [(.ifs (.and [(.cmp .notIn (.loc 10) (.loc 4)),(.cmp .notIn (.loc 16) (.call (.glo (.fn 41)) [(.sub (.loc 15) (.loc 10))]))]) [(.expr (.mcall (.loc 4) 18 [(.loc 10)])),(.expr (.mcall (.loc 25) 18 [(.loc 10)]))] [])])]
theorem rG {α : Type} (l : List α) : l = [] \/ ∃ l' c,l = l' ++ [c]:=by
 rcases List.eq_nil_or_concat l with h | ⟨l',c,h⟩
 ·exact .inl h
 ·exact .inr ⟨l',c,h.trans (List.concat_eq_append ..)⟩
theorem sJ {α : Type} (l : List α) (c : α) : (l ++ [c]).isEmpty = false:=by cases l <;> rfl
theorem oP {d pl pa pf pt na n : Nat} {w2 : AV} {B : List Blk} {u : Ln -> List Nat} {W : List Pt} {r : Pt -> Nat} {L : Pt -> List Pt} {e0 : Env} {σ : Hp} {Q : Fl -> Env -> Hp -> Prop} (hB : aA B) (hl : Hc σ pl (.dict (dOf (pts B) (lnD B)) (pts B).length)) (hpa : Hc σ pa (.dict (dOf (pts B) fun p=>.ref (r p)) na)) (hL : PT σ (pts B) r L) (mL : ∀ p ∈ pts B,∀ q,q ∈ L p ↔ (q ∈ pts B /\ p ∈ behL q.1 q.2 (lineOf B q)))
  (n1 : pf ≠ pt) (n2 : ∀ p ∈ pts B,r p ∉ [pf,pt]) (n3 : pl ∉ [pf,pt]) (n4 : pa ∉ [pf,pt]) (hf : Hc σ pf (.list (spots W))) (ht : Hc σ pt (.list (spots W))) (h0 : WL B u n W W W [] ((pts B).length - W.length + W.length)) (mW : ∀ p ∈ pts B,n ∈ u (lineOf B p) -> p ∈ W) (g0 : G44 pl pa pf pt n w2 e0)
  (k : ∀ e' σ' F,G44 pl pa pf pt n w2 e' -> Kp [pf,pt] σ σ' -> Hc σ' pf (.list (spots F)) -> F.Nodup -> (∀ p,p ∈ F ↔ (p ∈ pts B /\ cx B u n p)) -> Q .next (K44 pl pa n w2 e') σ') :
  ∃ m,vW (d + 1) (.cmp .ne (.loc 25) (.lst [])) bdW m (K44 pl pa n w2 e0) σ Q:=by
 have l9:=cj hB
 have mf : pf ∈ [pf,pt]:=List.mem_cons_self ..
 have mt : pt ∈ [pf,pt]:=List.mem_cons_of_mem _ (List.mem_singleton.mpr rfl)
 refine sU (fun m ρ σ'=>∃ e,(ρ = K44 pl pa n w2 e /\ G44 pl pa pf pt n w2 e) /\ Kp [pf,pt] σ σ' /\ ∃ F L,Hc σ' pf (.list (spots F)) /\ Hc σ' pt (.list (spots L)) /\ WL B u n W F L [] m) _ ⟨e0,⟨rfl,g0⟩,.refl,W,W,hf,ht,h0⟩ fun m ρ υ h=>?_
 obtain ⟨e,⟨i0,i1⟩,i2,F,L',hf,ht,wl⟩:=h
 subst i0
 refine bG (ar (.loc i1.t) (ak .nil (le4 rfl) ⟨_,pN ht.keep .a0,_,rfl,?_⟩))
 rcases rG L' with e1 | ⟨l',c,e1⟩
 ·subst e1
  exact .f (k e _ F i1 (i2.up (Ext.refl.app _)) hf.keep wl.nd fun p=>⟨fun h=>⟨wl.fp p h,wl.lv p h⟩,fun h=>wl.all mW h.1 h.2⟩)
 subst e1
 rw [aP]
 rw [aP] at ht
 have lF:=wl.len
 have lL:=wl.le
 have cL : c ∈ l' ++ [c]:=List.mem_append_right _ (List.mem_singleton.mpr rfl)
 have lc:=wl.lv c (wl.lf c cL)
 have mc:=wl.fp c (wl.lf c cL)
 obtain ⟨wp,m1⟩:=wl.pop
 have el : (!(spots l' ++ spots [c]).isEmpty) = true:=congrArg (!·) (sJ _ _)
 refine ay el (an (qt (.loc i1.t) ht.keep ?_ ?_))
 ·rw [show spots l' ++ [spotA c] = spots (l' ++ [c]) from (aP l' [c]).symm,aO]; exact Nat.le_trans (Nat.le_trans lL (Nat.le_trans lF l9)) (le4 rfl)
 have kχ : Kp [pf,pt] σ ((υ ++ [AO.list []]).set pt (.list (spots l'))):=(i2.up (Ext.refl.app _)).set mt
 have gf : Hc ((υ ++ [AO.list []]).set pt (.list (spots l'))) pf (.list (spots F)):=hf.keep.ne (Ne.symm n1)
 have gt : Hc ((υ ++ [AO.list []]).set pt (.list (spots l'))) pt (.list (spots l')):=ht.keep.same
 revert kχ gf gt
 generalize (υ ++ [AO.list []]).set pt (.list (spots l')) = χ
 intro kχ gf gt
 have c1 : setVar 27 (spotA c) (K44 pl pa n w2 e) = K44 pl pa n w2 (setVar 27 (spotA c) e):=rfl
 have i1:=i1.set rfl rfl c1
 have g27 : Gv (K44 pl pa n w2 (setVar 27 (spotA c) e)) 27 (spotA c):=c1 ▸ gv_set
 rw [c1]
 clear c1
 refine aW (ar (.sub (.loc ⟨rfl⟩) (.loc g27) (.d (kχ.hc n4 hpa) rfl (bQ mc))) (pR (u:=u) (G:=L c) hB (kχ.hc n3 hl) (kχ.hc (n2 c mc) (hL c mc)) (mL c mc) lc wp gf gt n1 (n2 c mc) n3 i1 fun e2 τ F2 L2 j1 j2 j3 j4 j5=>.next (aJ ⟨m - 1,Nat.sub_lt m1 (Nat.zero_lt_succ 0),e2,⟨rfl,j1⟩,kχ.trans j2,F2,L2,j3,j4,j5⟩)))
theorem rZ {d pl pw n : Nat} {B : List Blk} {σ : Hp} {r : Pt -> Nat} {u : Ln -> List Nat} {T : List Pt} {Q : AV -> Hp -> Prop} (hB : aA B) (hl : Hc σ pl (.dict (dOf (pts B) (lnD B)) (pts B).length)) (hw : Hc σ pw (.dict (dOf (pts B) fun p=>.ref (r p)) (pts B).length)) (hr : ∀ p ∈ pts B,Hc σ (r p) (.list (nums (u (lineOf B p)))))
  (hT : UpP T) (mT : ∀ p,p ∈ T ↔ (p ∈ pts B /\ cx B u n p)) (k : RetL σ (spots T) Q) : vF (d + 2) 44 [.ref pl,.int n,.ref pw] σ Q:=by
 have l9:=cj hB
 have nd:=mF B
 have lpl:=hl.lt
 refine ae ?_
 refine an (bM (af (aT (ar (.loc ⟨rfl⟩) (oj (L:=fun uw=>[]) nd l9 hl (fun p τ Q mp x k=>ak .nil (le4 rfl) k.here) fun r2 τ D=>ad ⟨_,_,.dict D.c nd (Nat.le_trans l9 (le4 rfl)),?_⟩)))))
 have xd : Ext τ (τ ++ [AO.dict (dOf (pts B) fun p=>.ref (r2 p)) (pts B).length]):=Ext.refl.app _
 have np : ∀ {x},x ∈ (pts B).map r2 -> σ.length < x /\ x < τ.length:=fun {x} hx=>by
  refine aw (List.mem_map.mp hx) fun p hp e=>?_
  exact e ▸ ⟨D.g p hp,(D.t p hp).lt⟩
 have n5 : τ.length ∉ (pts B).map r2:=fun m=>Nat.lt_irrefl _ (np m).2
 have n6 : pl ∉ (pts B).map r2:=fun m=>Nat.lt_asymm lpl (np m).1
 have hpa : Hc (τ ++ [AO.dict (dOf (pts B) fun p=>.ref (r2 p)) (pts B).length]) τ.length (.dict (dOf (pts B) fun p=>.ref (r2 p)) (pts B).length):=.a0
 refine aW (ar (.loc ⟨rfl⟩) (rV (w1:=.int n) (w2:=.ref pw) (e0:=[]) hB (xd.hc (D.x.hc hl)) hpa (fun p hp=>xd.hc (D.t p hp)) D.i n6 n5 fun e2 τ2 L b2 b3 b4=>.next ?_))
 have x2 : Ext σ τ2:=((D.x.trans xd).kp.trans b2).ext fun a m=>Nat.le_of_lt (np m).1
 have hpa:=b2.hc n5 hpa
 have lpa:=hpa.lt
 clear xd
 refine an (aT (ar (.loc ⟨rfl⟩) (rP (r:=r) (u:=u) (n:=n) hB (x2.hc hl) (x2.hc hw) (fun p hp=>x2.hc (hr p hp)) ⟨rfl⟩ ⟨rfl⟩ fun τ3 x3 c3=>?_)))
 have wl : (wantF B u n (pts B)).length ≤ 9:=Nat.le_trans (List.length_filter_le ..) l9
 have wm : ∀ {p},p ∈ wantF B u n (pts B) ↔ (p ∈ pts B /\ n ∈ u (lineOf B p)):=fun {p}=>by unfold wantF; rw [List.mem_filter,decide_eq_true_eq]
 have wn : (wantF B u n (pts B)).Nodup:=nd.filter _
 revert wl wm wn c3
 generalize wantF B u n (pts B) = W
 intro c3 wl wm wn
 have l3:=c3.lt
 refine an (aR (.cons (.loc gv_set) .nil) (.ls c3 (by rw [aO]; exact Nat.le_trans wl (le4 rfl))) ?_)
 have x4 : Ext τ2 (τ3 ++ [AO.list (spots W)]):=x3.app _
 have lσ:=bO x2
 have two : ∀ {a},a < τ2.length -> a ∉ [τ3.length,τ2.length]:=fun {a} h m=>(List.mem_cons.mp m).elim (fun e=>by lia) fun m=>by have:=List.mem_singleton.mp m; lia
 refine qP (oP (pf:=τ3.length) (pt:=τ2.length) (pl:=pl) (pa:=τ.length) (n:=n) (w2:=.ref pw) (e0:=setVar 4 (.ref τ3.length) (setVar 25 (.ref τ2.length) e2)) (u:=u) hB (x4.hc (x2.hc hl)) (x4.hc hpa) (b3.ext x4) b4 (Nat.ne_of_gt l3) (fun p hp=>two (b3 p hp).lt) (two (Nat.lt_of_lt_of_le lpl lσ)) (two lpa) .a0 c3.keep ⟨wn,fun p hp=>(wm.mp hp).1,fun p hp=>.here (gA (wm.mp hp).1) (zz_mem.mpr (wm.mp hp).2),fun uw h=>h,fun uw h=>h,fun q hq nq=>absurd hq nq,Nat.le_refl _,rfl⟩ (fun p mp h=>wm.mpr ⟨mp,h⟩) ⟨?_,?_⟩ fun e3 τ5 F j1 j2 j3 j4 j5=>.next ?_)
 ·exact ⟨(ao (y:=4) rfl (gv_set (x:=25) (ρ:=K44 pl τ.length n (.ref pw) e2))).go⟩
 ·exact ⟨(gv_set (x:=4) (ρ:=setVar 25 (.ref τ2.length) (K44 pl τ.length n (.ref pw) e2))).go⟩
 have x5 : Ext σ τ5:=((x2.trans x4).kp.trans j2).ext fun a m=>(List.mem_cons.mp m).elim (fun e=>by lia) fun m=>by have:=List.mem_singleton.mp m; lia
 have fl : F.length ≤ 9:=Nat.le_trans (j4.length_le_of_subset fun p hp=>((j5 p).mp hp).1) l9
 exact ac (aR (.cons (.loc j1.f) .nil) (.srt j3 j4 fl hT fun x=>by rw [mT,j5]) ⟨k.up x5⟩)
theorem rows_of {σ : Hp} : ∀ (rs : List Nat) (L : Nat -> List Pt) (o : Nat),(∀ (b a : Nat),rs[b]? = some a -> Hc σ a (.list (spots (L (o + b))))) -> rowsOf σ (rs.map .ref) = some ((List.range' o rs.length).map fun b=>(L b).map kS)
 | [],L,o,_=>rfl
 | p :: rs,L,o,h=>by
  have h0:=h 0 p rfl
  have ih:=rows_of rs L (o + 1) fun b a e=>by rw [Nat.add_assoc,Nat.add_comm 1 b]; exact h (b + 1) a e
  show ((lstAt σ p).bind allKeys).bind (fun y=>(rowsOf σ (rs.map .ref)).map (y :: ·)) = _
  rw [h0.lst,ih]
  show (allKeys (spots (L (o + 0)))).bind _ = _
  rw [keys_spots]
  rfl
theorem kz {σ : Hp} {p q : Nat} {rs qs : List Nat} {L : Nat -> List Pt} (hp : Hc σ p (.list (rs.map .ref))) (hq : Hc σ q (.list (qs.map .ref))) (l : rs.length = qs.length) (h1 : Tab σ rs fun b=>spots (L b)) (h2 : Tab σ qs fun b=>spots (L b)) : Cp .eq (.ref p) (.ref q) σ true:=⟨by
 show (lstAt σ p).bind (fun xs=>(lstAt σ q).bind fun ys=>eqL σ xs ys) = _
 rw [hp.lst,hq.lst]
 show (if (rs.map AV.ref).length = (qs.map AV.ref).length then (rowsOf σ (rs.map .ref)).bind (fun k=>(rowsOf σ (qs.map .ref)).map fun l=>decide (k = l)) else some false) = _
 rw [if_pos (by rw [List.length_map,List.length_map,l]),rows_of rs L 0 fun b a e=>by rw [Nat.zero_add]; exact h1 b a e,rows_of qs L 0 fun b a e=>by rw [Nat.zero_add]; exact h2 b a e,l]
 exact congrArg some (decide_eq_true rfl)⟩
theorem Cp.of_eq {σ : Hp} {v w : AV} {r : Bool} (h : Cp .eq v w σ r) : Cp .ne v w σ (!r):=⟨by
 show ((eqA σ v w).or (eqF v w)).map (!·) = _
 rw [show eqA σ v w = some r from h.go]; rfl⟩
theorem oq {d pl pw w : Nat} {B : List Blk} {r : Pt -> Nat} {u : Ln -> List Nat} {T : Nat -> List Pt} {σ : Hp} {ρ : Env} {Q : AV -> Hp -> Prop} (hB : aA B) (hl : Hc σ pl (.dict (dOf (pts B) (lnD B)) (pts B).length)) (hw : Hc σ pw (.dict (dOf (pts B) fun p=>.ref (r p)) (pts B).length)) (hr : ∀ p ∈ pts B,Hc σ (r p) (.list (nums (u (lineOf B p)))))
  (hT : ∀ n,UpP (T n)) (mT : ∀ (n : Nat) p,p ∈ T n ↔ (p ∈ pts B /\ cx B u n p)) (r1 : Gv ρ 15 (.ref pl)) (r2 : Gv ρ w (.ref pw)) (nW : Nat.beq 16 w = false)
  (k : ∀ (qs : List Nat) τ,qs.length = 7 -> Hc τ σ.length (.list (qs.map .ref)) -> (Tab τ qs fun b=>spots (T b)) -> Ext σ τ -> Q (.ref σ.length) τ) :
  ∃ m,vC (d + 2) (.call (.glo (.fn 44)) [.loc 15,.loc 16,.loc w]) [16] (.rng 0 7 1) (epOf σ (.rng 0 7 1)) σ.length [] m 0 ρ (σ ++ [.list []]) Q:=by
 refine gY (fun j τ=>Ext σ τ /\ ∃ qs : List Nat,qs.length = j /\ Hc τ σ.length (.list (qs.map .ref)) /\ (Tab τ qs fun b=>spots (T b)) /\ ∀ a ∈ qs,σ.length < a) 7 ⟨Ext.refl.app _,[],rfl,.a0,(fun uw uw e=>nomatch e),fun uw m=>nomatch m⟩ (fun j τ hj h=>?_) fun τ h=>?_
 ·refine kc h fun x qs h1 h2 h3 h4=>?_
  have lt:=h2.lt
  refine ⟨_,_,iq _ (Int.ofNat_lt.mpr hj),rfl,t_n (.t (aI (.cons (.loc (dz rfl r1)) (.cons (.loc ⟨rfl⟩) (.cons (.loc (dz nW r2)) .nil))) (rZ (r:=r) (T:=T j) hB (x.hc hl) (x.hc hw) (fun p hp=>x.hc (hr p hp)) (hT j) (mT j) fun q υ y g c=>⟨_,y.hc h2,?_,(x.trans y).set (Nat.le_refl _),qs ++ [q],?_,?_,fun b a e=>?_,fun a m=>(List.mem_append.mp m).elim (h4 a) fun m=>List.mem_singleton.mp m ▸ Nat.lt_of_lt_of_le lt g⟩)))⟩
  ·rw [List.length_map,h1]; exact Nat.lt_trans hj (Nat.lt_of_sub_ne_zero (by decide))
  ·rw [List.length_append,h1]; rfl
  ·rw [List.map_append]; exact (y.hc h2).same
  ·refine jI e (fun e=>(y.hc (h3 b a e)).ne (Nat.ne_of_lt (h4 a (List.mem_of_getElem? e)))) fun e1 e2=>?_
   subst e1 e2
   rw [h1]
   exact c.ne (Nat.ne_of_lt (Nat.lt_of_lt_of_le lt g))
 ·refine kc h fun x qs h1 h2 h3 h4=>?_
  exact ⟨dY _ (Int.lt_irrefl _),k qs τ h1 h2 h3 x⟩
theorem qF {B : List Blk} {u : Ln -> List Nat} {fs : List (List Int)} (hB : aA B) (h : Fx B u fs []) (n : Nat) (p : Pt) : p ∈ (pts B).filter (fun p=>decide ((n : Int) ∈ atF B u fs p.1 p.2)) ↔ (p ∈ pts B /\ cx B u n p):=by
 rw [List.mem_filter,decide_eq_true_eq]
 exact ⟨fun g=>⟨g.1,(bN hB h g.1 n).mp g.2⟩,fun g=>⟨g.1,(bN hB h g.1 n).mpr g.2⟩⟩
theorem rY (xs : List Int) : vF 19 45 [.ints xs] [] fun v uw=>v = .bool true:=by
 refine ae ?_
 refine an (fu (af (aI (.cons (.loc ⟨rfl⟩) (.cons .lit .nil)) (sj xs fun a b=>ad (sd (.mk .a0) fun pb B σ A hB=>?_)))))
 have l9:=cj hB
 have nd:=mF B
 have l4 : (pts B).length ≤ 4000:=Nat.le_trans l9 (le4 rfl)
 refine an (aI (.cons (.loc ⟨rfl⟩) .nil) (s7 A hB fun pl τ a1 x0=>?_))
 have A:=A.ext x0
 clear x0
 refine an (bM (af (aT (ar (.loc ⟨rfl⟩) (oj (L:=fun p=>nums (usesL (lineOf B p))) nd l9 a1 (fun p τ' Q mp x k=>aI (.cons (.sub (.loc ⟨rfl⟩) (.loc ⟨rfl⟩) (.d (x.hc a1) rfl (bQ mp))) .nil) (sa k)) fun ru τ1 D1=>ad ⟨_,_,.dict D1.c nd l4,?_⟩)))))
 have y1 : Ext τ1 (τ1 ++ [AO.dict (dOf (pts B) fun p=>.ref (ru p)) (pts B).length]):=Ext.refl.app _
 have u1 : Hc (τ1 ++ [AO.dict (dOf (pts B) fun p=>.ref (ru p)) (pts B).length]) τ1.length (.dict (dOf (pts B) fun p=>.ref (ru p)) (pts B).length):=.a0
 have u2:=fun p hp=>y1.hc (D1.t p hp)
 have a1:=y1.hc (D1.x.hc a1)
 have A:=(A.ext D1.x).ext y1
 clear D1 y1
 revert u1 u2 a1 A
 generalize τ1 ++ [AO.dict (dOf (pts B) fun p=>.ref (ru p)) (pts B).length] = τ2
 intro u1 u2 a1 A
 refine an (bM (af (aT (ar (.loc ⟨rfl⟩) (oj (L:=fun p=>nums (dropsL (lineOf B p))) nd l9 a1 (fun p τ' Q mp x k=>aI (.cons (.sub (.loc ⟨rfl⟩) (.loc ⟨rfl⟩) (.d (x.hc a1) rfl (bQ mp))) .nil) (s9 k)) fun rd τ3 D1=>ad ⟨_,_,.dict D1.c nd l4,?_⟩)))))
 have y1 : Ext τ3 (τ3 ++ [AO.dict (dOf (pts B) fun p=>.ref (rd p)) (pts B).length]):=Ext.refl.app _
 have d1 : Hc (τ3 ++ [AO.dict (dOf (pts B) fun p=>.ref (rd p)) (pts B).length]) τ3.length (.dict (dOf (pts B) fun p=>.ref (rd p)) (pts B).length):=.a0
 have d2:=fun p hp=>y1.hc (D1.t p hp)
 have x3:=D1.x.trans y1
 clear D1 y1
 revert d1 d2 x3
 generalize τ3 ++ [AO.dict (dOf (pts B) fun p=>.ref (rd p)) (pts B).length] = τ4
 intro d1 d2 x3
 have A:=A.ext x3
 have a1:=x3.hc a1
 have u1:=x3.hc u1
 have u2:=fun p hp=>x3.hc (u2 p hp)
 refine an (aI (.cons (.loc ⟨rfl⟩) .nil) (so A hB fun q1 q2 rs1 rs2 f1 f2 τ5 s1 s2 e1 e2 n1 n2 t1 t2 x=>?_))
 have up : ∀ u f n,UpP ((pts B).filter fun p=>decide (((n : Nat) : Int) ∈ atF B u f p.1 p.2)):=fun u f n=>cT _ _ (fR B _)
 have l7 : ∀ {rs : List Nat},rs.length = 7 -> (rs.map AV.ref).length ≤ 4000:=fun h=>by rw [List.length_map,h]; exact le4 rfl
 clear A
 refine cw (bG (aR (.cons (.sub (.loc ⟨rfl⟩) .lit ⟨rfl⟩) .nil) (.ls e1 (l7 n1)) (aT (aR (.cons .lit .nil) (.rng1 (n:=7) (le4 rfl)) (oq (r:=ru) (u:=usesL) (T:=fun n=>(pts B).filter fun p=>decide ((n : Int) ∈ atF B usesL f1 p.1 p.2)) hB ((x.app _).hc a1) ((x.app _).hc u1) (fun p hp=>(x.app _).hc (u2 p hp)) (up _ _) (qF hB s1) ⟨rfl⟩ ⟨rfl⟩ rfl fun qs τ6 h1 h2 h3 h4=>⟨_,.of_eq (kz (h4.hc .a0) h2 (n1.trans h1.symm) ((t1.ext (Ext.refl.app _)).ext h4) h3),_,rfl,.f (ab ?_)⟩)))))
 have x6:=h4.pre
 have x:=x.trans x6
 exact ac (bG (aR (.cons (.sub (.loc ⟨rfl⟩) .lit ⟨rfl⟩) .nil) (.ls (x6.hc e2) (l7 n2)) (aT (aR (.cons .lit .nil) (.rng1 (n:=7) (le4 rfl)) (oq (r:=rd) (u:=dropsL) (T:=fun n=>(pts B).filter fun p=>decide ((n : Int) ∈ atF B dropsL f2 p.1 p.2)) hB ((x.app _).hc a1) ((x.app _).hc d1) (fun p hp=>(x.app _).hc (d2 p hp)) (up _ _) (qF hB s2) ⟨rfl⟩ ⟨rfl⟩ rfl fun qs2 τ7 j1 j2 j3 j4=>⟨_,kz (j4.hc .a0) j2 (n2.trans j1.symm) (((t2.ext x6).ext (Ext.refl.app _)).ext j4) j3,⟨rfl⟩⟩)))))
theorem law_ok' : ∀ xs : List Int,xs.length ≤ 63 -> CFW 19 45 [.ints xs] [] fun v uw=>v = .bool true:=fun xs uw=>(rY xs).go
end Mine.K
end
theorem PySem.Challenge.cw_np0332_01_holds : PySem.Challenge.rw_np0332_01.Holds := by
  exact Mine.holds_of Mine.K.law_ok'
