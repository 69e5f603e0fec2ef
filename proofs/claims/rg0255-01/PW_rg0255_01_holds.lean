import PyProof.Rows.All
import Wide.All
import OpenK.AllK
import Wide.FinOn
import PySem.Challenge.RW_rg0255_01
open PySem PySem.W PyProof.Rows
set_option Elab.async false
set_option maxRecDepth 100000
set_option maxHeartbeats 8000000
set_option linter.unusedVariables false
namespace Mine
theorem roomA9 {u c k R : Nat} (h : u + k < R) (e : c ≤ k) : u + c < R := Nat.lt_of_le_of_lt (Nat.add_le_add_left e u) h
abbrev bn : BT := .nil
abbrev zo (s : String) : Str := Str.ofString s
abbrev zs (s : String) (t : Tok) : Value := .str (Str.ofString s) t
abbrev ze (P : Params) (s : String) (t : Tok) (v : Value) : DictEntry := ⟨PyData.keyHash P (Str.ofString s), .str (Str.ofString s) t, v⟩
def fns1 : Stmt → List (Arguments × List Stmt × Scope)
  | .FunctionDef _ p b _ _ _ s _ _ _ => [(p, b, s)]
  | _ => []
def fns2 : Stmt → List (Arguments × List Stmt × Scope)
  | .ClassDef _ _ _ b _ _ _ _ _ _ _ => b.flatMap fns1
  | s => fns1 s
noncomputable def allFns : List (Arguments × List Stmt × Scope) := PySem.Challenge.pw_rg0255_01.main.body.flatMap fns2
noncomputable def zf (i : Nat) (name qual : Str) (globals : Addr) (closure : List (Str × Addr)) (defaults kwdefaults doc pyModule : Value) (annotations : Option Addr) (code closureTuple : Value) (builtins : Addr) : FuncData :=
  match allFns[i]? with
  | some (p, b, s) => ⟨name, qual, p, .stmts b, s, globals, closure, defaults, kwdefaults, doc, pyModule, annotations, code, closureTuple, builtins⟩
  | none => ⟨name, qual, default, .stmts [], default, globals, closure, defaults, kwdefaults, doc, pyModule, annotations, code, closureTuple, builtins⟩
noncomputable def zo_43 (P : Params) : Obj := (Obj.mk (Value.type "tuple") none (Data.seq #[] 0) #[])
noncomputable def zo_44 (P : Params) : Obj := (Obj.mk Value.none none (Data.fields #[]) #[])
noncomputable def zo_45 (P : Params) : Obj := (Obj.mk (Value.type "code") none (Data.fields (List.toArray [(zs "<module>" 182), (zs "<module>" 183), (zs "/claim/cut.py" 184), (Value.int 1 0), (Value.int 0 0), (Value.int 0 0), (Value.int 0 0), (Value.int 0 0), (Value.ref 11), (Value.bool false), (Value.int 181 0), (Value.ref 12), Value.none, Value.none, Value.none, Value.none, (Value.int 185 0), (Value.int 1 0), (zs "/claim/cut.py" 186)])) #[])
noncomputable def zo_46 (P : Params) : Obj := (Obj.mk (Value.type "frame") none Data.plain (List.toArray [(Option.some (Value.ref 13)), (Option.some (Value.ref 3)), (Option.some (Value.ref 3)), none, (Option.some (zs "__main__" 164)), none, (Option.some (Value.ref 0))]))
noncomputable def zo_49 (P : Params) : Obj := (Obj.mk (Value.type "dict") none (Data.dict (List.toArray [(ze P "__name__" 165 (zs "quic.newreno" 194)), (ze P "__doc__" 166 Value.none), (ze P "__package__" 167 Value.none), (ze P "__loader__" 168 (Value.builtin "__main__.__loader__#opaque")), (ze P "__spec__" 169 Value.none), (ze P "__annotations__" 170 (Value.ref 6)), (ze P "__builtins__" 171 (Value.ref 4)), (ze P "__file__" 173 (zs "/claim/cut.py" 172)), (ze P "__cached__" 174 Value.none), (ze P "_wall" 193 (Value.ref 21)), (ze P "INITIAL_PACKETS" 197 (Value.int 10 196)), (ze P "INITIAL_OCTETS" 199 (Value.int 14720 198)), (ze P "LEAST_PACKETS" 201 (Value.int 2 200)), (ze P "initial_window" 208 (Value.ref 28))]) 14) #[])
noncomputable def zo_50 (P : Params) : Obj := (Obj.mk Value.none none (Data.fields (List.toArray [(Value.int 1 0), (Value.int 0 0), (Value.ref 20), (Value.int 8 0), (Value.int 0 0), (Value.ref 27)])) #[])
noncomputable def zo_51 (P : Params) : Obj := (Obj.mk (Value.type "tuple") none (Data.seq #[] 0) #[])
noncomputable def zo_52 (P : Params) : Obj := (Obj.mk Value.none none (Data.fields #[]) #[])
noncomputable def zo_53 (P : Params) : Obj := (Obj.mk (Value.type "tuple") none (Data.seq (List.toArray [(zs "k" 190)]) 0) #[])
noncomputable def zo_54 (P : Params) : Obj := (Obj.mk (Value.type "tuple") none (Data.seq #[] 0) #[])
noncomputable def zo_55 (P : Params) : Obj := (Obj.mk Value.none none (Data.func (zf 0 (zo "_wall") (zo "_wall") 0 [] Value.none Value.none Value.none Value.none none Value.none Value.none 0)) #[])
noncomputable def zo_56 (P : Params) : Obj := (Obj.mk (Value.type "code") none (Data.fields (List.toArray [(zs "_wall" 187), (zs "_wall" 188), (zs "/claim/cut.py" 189), (Value.int 1 0), (Value.int 1 0), (Value.int 0 0), (Value.int 0 0), (Value.int 3 0), (Value.ref 15), (Value.bool true), (Value.int 181 0), (Value.ref 16), Value.none, (Value.ref 17), (Value.ref 18), (Value.ref 19), (Value.int 191 0), (Value.int 1 0), (zs "/claim/cut.py" 192)])) #[])
noncomputable def zo_57 (P : Params) : Obj := (Obj.mk (Value.type "function") none (Data.func (zf 0 (zo "_wall") (zo "_wall") 3 [] Value.none Value.none Value.none (zs "__main__" 164) none (Value.ref 20) Value.none 0)) #[])
noncomputable def zo_58 (P : Params) : Obj := (Obj.mk (Value.type "tuple") none (Data.seq #[] 0) #[])
noncomputable def zo_59 (P : Params) : Obj := (Obj.mk Value.none none (Data.fields #[]) #[])
noncomputable def zo_60 (P : Params) : Obj := (Obj.mk (Value.type "tuple") none (Data.seq (List.toArray [(zs "datagram" 205)]) 0) #[])
noncomputable def zo_61 (P : Params) : Obj := (Obj.mk (Value.type "tuple") none (Data.seq #[] 0) #[])
noncomputable def zo_62 (P : Params) : Obj := (Obj.mk Value.none none (Data.func (zf 1 (zo "initial_window") (zo "initial_window") 0 [] Value.none Value.none Value.none Value.none none Value.none Value.none 0)) #[])
noncomputable def zo_63 (P : Params) : Obj := (Obj.mk (Value.type "code") none (Data.fields (List.toArray [(zs "initial_window" 202), (zs "initial_window" 203), (zs "/claim/cut.py" 204), (Value.int 8 0), (Value.int 1 0), (Value.int 0 0), (Value.int 0 0), (Value.int 3 0), (Value.ref 22), (Value.bool true), (Value.int 181 0), (Value.ref 23), Value.none, (Value.ref 24), (Value.ref 25), (Value.ref 26), (Value.int 206 0), (Value.int 8 0), (zs "/claim/cut.py" 207)])) #[])
noncomputable def zo_64 (P : Params) : Obj := (Obj.mk (Value.type "function") none (Data.func (zf 1 (zo "initial_window") (zo "initial_window") 3 [] Value.none Value.none Value.none (zs "quic.newreno" 194) none (Value.ref 27) Value.none 0)) #[])
noncomputable def zo_65 (P : Params) : Obj := (Obj.mk (Value.type "dict") none (Data.dict (List.toArray [(ze P "__name__" 165 (zs "quic.newreno" 194)), (ze P "__doc__" 166 Value.none), (ze P "__package__" 167 Value.none), (ze P "__loader__" 168 (Value.builtin "__main__.__loader__#opaque")), (ze P "__spec__" 169 Value.none), (ze P "__annotations__" 170 (Value.ref 6)), (ze P "__builtins__" 171 (Value.ref 4)), (ze P "__file__" 173 (zs "/claim/cut.py" 172)), (ze P "__cached__" 174 Value.none), (ze P "_wall" 193 (Value.ref 21)), (ze P "INITIAL_PACKETS" 197 (Value.int 10 196)), (ze P "INITIAL_OCTETS" 199 (Value.int 14720 198)), (ze P "LEAST_PACKETS" 201 (Value.int 2 200)), (ze P "initial_window" 208 (Value.ref 28)), (ze P "NewReno" 327 (Value.ref 115))]) 15) #[])
noncomputable def zo_66 (P : Params) : Obj := (Obj.mk Value.none none (Data.fields (List.toArray [(Value.int 1 0), (Value.int 0 0), (Value.ref 20), (Value.int 8 0), (Value.int 0 0), (Value.ref 27), (Value.int 10 0), (Value.int 0 0), (Value.ref 34)])) #[])
noncomputable def zo_67 (P : Params) : Obj := (Obj.mk (Value.type "tuple") none (Data.seq #[] 0) #[])
noncomputable def zo_68 (P : Params) : Obj := (Obj.mk (Value.type "builtin_function_or_method") none (Data.fields (List.toArray [(Value.builtin "type.__prepare__"), (Value.type "type")])) #[])
noncomputable def zo_69 (P : Params) : Obj := (Obj.mk (Value.type "dict") none (Data.dict (List.toArray [(ze P "__module__" 216 (zs "quic.newreno" 194)), (ze P "__qualname__" 218 (zs "NewReno" 217)), (ze P "__firstlineno__" 220 (Value.int 10 219)), (ze P "__init__" 228 (Value.ref 42)), (ze P "may_send" 236 (Value.ref 49)), (ze P "is_slow_start" 243 (Value.ref 56)), (ze P "in_recovery" 251 (Value.ref 63)), (ze P "on_sent" 259 (Value.ref 70)), (ze P "on_discarded" 267 (Value.ref 77)), (ze P "on_acked" 279 (Value.ref 84)), (ze P "widen" 287 (Value.ref 91)), (ze P "on_congestion" 296 (Value.ref 98)), (ze P "on_lost" 306 (Value.ref 105)), (ze P "on_persistent" 313 (Value.ref 112)), (ze P "__static_attributes__" 320 (Value.ref 113))]) 15) #[])
noncomputable def zo_70 (P : Params) : Obj := (Obj.mk (Value.type "tuple") none (Data.seq #[] 0) #[])
noncomputable def zo_71 (P : Params) : Obj := (Obj.mk Value.none none (Data.fields (List.toArray [(Value.int 12 0), (Value.int 4 0), (Value.ref 41), (Value.int 20 0), (Value.int 4 0), (Value.ref 48), (Value.int 23 0), (Value.int 4 0), (Value.ref 55), (Value.int 26 0), (Value.int 4 0), (Value.ref 62), (Value.int 29 0), (Value.int 4 0), (Value.ref 69), (Value.int 32 0), (Value.int 4 0), (Value.ref 76), (Value.int 35 0), (Value.int 4 0), (Value.ref 83), (Value.int 38 0), (Value.int 4 0), (Value.ref 90), (Value.int 41 0), (Value.int 4 0), (Value.ref 97), (Value.int 44 0), (Value.int 4 0), (Value.ref 104), (Value.int 47 0), (Value.int 4 0), (Value.ref 111)])) #[])
noncomputable def zo_72 (P : Params) : Obj := (Obj.mk (Value.type "code") none (Data.fields (List.toArray [(zs "NewReno" 211), (zs "NewReno" 212), (zs "/claim/cut.py" 213), (Value.int 10 0), (Value.int 0 0), (Value.int 0 0), (Value.int 0 0), (Value.int 0 0), (Value.ref 32), (Value.bool false), (Value.int 181 0), (Value.ref 33), Value.none, Value.none, Value.none, Value.none, (Value.int 214 0), (Value.int 10 0), (zs "/claim/cut.py" 215)])) #[])
noncomputable def zo_73 (P : Params) : Obj := (Obj.mk (Value.type "frame") none Data.plain (List.toArray [(Option.some (Value.ref 34)), (Option.some (Value.ref 3)), (Option.some (Value.ref 31)), none, (Option.some (zs "quic.newreno" 194)), none, (Option.some (Value.ref 0))]))
noncomputable def zo_74 (P : Params) : Obj := (Obj.mk (Value.type "tuple") none (Data.seq #[] 0) #[])
noncomputable def zo_75 (P : Params) : Obj := (Obj.mk Value.none none (Data.fields #[]) #[])
noncomputable def zo_76 (P : Params) : Obj := (Obj.mk (Value.type "tuple") none (Data.seq (List.toArray [(zs "self" 224), (zs "datagram" 225)]) 0) #[])
noncomputable def zo_77 (P : Params) : Obj := (Obj.mk (Value.type "tuple") none (Data.seq #[] 0) #[])
noncomputable def zo_78 (P : Params) : Obj := (Obj.mk Value.none none (Data.func (zf 2 (zo "__init__") (zo "NewReno.__init__") 0 [] Value.none Value.none Value.none Value.none none Value.none Value.none 0)) #[])
noncomputable def zo_79 (P : Params) : Obj := (Obj.mk (Value.type "code") none (Data.fields (List.toArray [(zs "__init__" 221), (zs "NewReno.__init__" 222), (zs "/claim/cut.py" 223), (Value.int 12 0), (Value.int 2 0), (Value.int 0 0), (Value.int 0 0), (Value.int 3 0), (Value.ref 36), (Value.bool true), (Value.int 181 0), (Value.ref 37), Value.none, (Value.ref 38), (Value.ref 39), (Value.ref 40), (Value.int 226 0), (Value.int 12 0), (zs "/claim/cut.py" 227)])) #[])
noncomputable def zo_80 (P : Params) : Obj := (Obj.mk (Value.type "function") none (Data.func (zf 2 (zo "__init__") (zo "NewReno.__init__") 3 [] Value.none Value.none Value.none (zs "quic.newreno" 194) none (Value.ref 41) Value.none 0)) #[])
noncomputable def zo_81 (P : Params) : Obj := (Obj.mk (Value.type "tuple") none (Data.seq #[] 0) #[])
noncomputable def zo_82 (P : Params) : Obj := (Obj.mk Value.none none (Data.fields #[]) #[])
noncomputable def zo_83 (P : Params) : Obj := (Obj.mk (Value.type "tuple") none (Data.seq (List.toArray [(zs "self" 232), (zs "size" 233)]) 0) #[])
noncomputable def zo_84 (P : Params) : Obj := (Obj.mk (Value.type "tuple") none (Data.seq #[] 0) #[])
noncomputable def zo_85 (P : Params) : Obj := (Obj.mk Value.none none (Data.func (zf 3 (zo "may_send") (zo "NewReno.may_send") 0 [] Value.none Value.none Value.none Value.none none Value.none Value.none 0)) #[])
noncomputable def zo_86 (P : Params) : Obj := (Obj.mk (Value.type "code") none (Data.fields (List.toArray [(zs "may_send" 229), (zs "NewReno.may_send" 230), (zs "/claim/cut.py" 231), (Value.int 20 0), (Value.int 2 0), (Value.int 0 0), (Value.int 0 0), (Value.int 3 0), (Value.ref 43), (Value.bool true), (Value.int 181 0), (Value.ref 44), Value.none, (Value.ref 45), (Value.ref 46), (Value.ref 47), (Value.int 234 0), (Value.int 20 0), (zs "/claim/cut.py" 235)])) #[])
noncomputable def zo_87 (P : Params) : Obj := (Obj.mk (Value.type "function") none (Data.func (zf 3 (zo "may_send") (zo "NewReno.may_send") 3 [] Value.none Value.none Value.none (zs "quic.newreno" 194) none (Value.ref 48) Value.none 0)) #[])
noncomputable def zo_88 (P : Params) : Obj := (Obj.mk (Value.type "tuple") none (Data.seq #[] 0) #[])
noncomputable def zo_89 (P : Params) : Obj := (Obj.mk Value.none none (Data.fields #[]) #[])
noncomputable def zo_90 (P : Params) : Obj := (Obj.mk (Value.type "tuple") none (Data.seq (List.toArray [(zs "self" 240)]) 0) #[])
noncomputable def zo_91 (P : Params) : Obj := (Obj.mk (Value.type "tuple") none (Data.seq #[] 0) #[])
noncomputable def zo_92 (P : Params) : Obj := (Obj.mk Value.none none (Data.func (zf 4 (zo "is_slow_start") (zo "NewReno.is_slow_start") 0 [] Value.none Value.none Value.none Value.none none Value.none Value.none 0)) #[])
noncomputable def zo_93 (P : Params) : Obj := (Obj.mk (Value.type "code") none (Data.fields (List.toArray [(zs "is_slow_start" 237), (zs "NewReno.is_slow_start" 238), (zs "/claim/cut.py" 239), (Value.int 23 0), (Value.int 1 0), (Value.int 0 0), (Value.int 0 0), (Value.int 3 0), (Value.ref 50), (Value.bool true), (Value.int 181 0), (Value.ref 51), Value.none, (Value.ref 52), (Value.ref 53), (Value.ref 54), (Value.int 241 0), (Value.int 23 0), (zs "/claim/cut.py" 242)])) #[])
noncomputable def zo_94 (P : Params) : Obj := (Obj.mk (Value.type "function") none (Data.func (zf 4 (zo "is_slow_start") (zo "NewReno.is_slow_start") 3 [] Value.none Value.none Value.none (zs "quic.newreno" 194) none (Value.ref 55) Value.none 0)) #[])
noncomputable def zo_95 (P : Params) : Obj := (Obj.mk (Value.type "tuple") none (Data.seq #[] 0) #[])
noncomputable def zo_96 (P : Params) : Obj := (Obj.mk Value.none none (Data.fields #[]) #[])
noncomputable def zo_97 (P : Params) : Obj := (Obj.mk (Value.type "tuple") none (Data.seq (List.toArray [(zs "self" 247), (zs "sent_at" 248)]) 0) #[])
noncomputable def zo_98 (P : Params) : Obj := (Obj.mk (Value.type "tuple") none (Data.seq #[] 0) #[])
noncomputable def zo_99 (P : Params) : Obj := (Obj.mk Value.none none (Data.func (zf 5 (zo "in_recovery") (zo "NewReno.in_recovery") 0 [] Value.none Value.none Value.none Value.none none Value.none Value.none 0)) #[])
noncomputable def zo_100 (P : Params) : Obj := (Obj.mk (Value.type "code") none (Data.fields (List.toArray [(zs "in_recovery" 244), (zs "NewReno.in_recovery" 245), (zs "/claim/cut.py" 246), (Value.int 26 0), (Value.int 2 0), (Value.int 0 0), (Value.int 0 0), (Value.int 3 0), (Value.ref 57), (Value.bool true), (Value.int 181 0), (Value.ref 58), Value.none, (Value.ref 59), (Value.ref 60), (Value.ref 61), (Value.int 249 0), (Value.int 26 0), (zs "/claim/cut.py" 250)])) #[])
noncomputable def zo_101 (P : Params) : Obj := (Obj.mk (Value.type "function") none (Data.func (zf 5 (zo "in_recovery") (zo "NewReno.in_recovery") 3 [] Value.none Value.none Value.none (zs "quic.newreno" 194) none (Value.ref 62) Value.none 0)) #[])
noncomputable def zo_102 (P : Params) : Obj := (Obj.mk (Value.type "tuple") none (Data.seq #[] 0) #[])
noncomputable def zo_103 (P : Params) : Obj := (Obj.mk Value.none none (Data.fields #[]) #[])
noncomputable def zo_104 (P : Params) : Obj := (Obj.mk (Value.type "tuple") none (Data.seq (List.toArray [(zs "self" 255), (zs "size" 256)]) 0) #[])
noncomputable def zo_105 (P : Params) : Obj := (Obj.mk (Value.type "tuple") none (Data.seq #[] 0) #[])
noncomputable def zo_106 (P : Params) : Obj := (Obj.mk Value.none none (Data.func (zf 6 (zo "on_sent") (zo "NewReno.on_sent") 0 [] Value.none Value.none Value.none Value.none none Value.none Value.none 0)) #[])
noncomputable def zo_107 (P : Params) : Obj := (Obj.mk (Value.type "code") none (Data.fields (List.toArray [(zs "on_sent" 252), (zs "NewReno.on_sent" 253), (zs "/claim/cut.py" 254), (Value.int 29 0), (Value.int 2 0), (Value.int 0 0), (Value.int 0 0), (Value.int 3 0), (Value.ref 64), (Value.bool true), (Value.int 181 0), (Value.ref 65), Value.none, (Value.ref 66), (Value.ref 67), (Value.ref 68), (Value.int 257 0), (Value.int 29 0), (zs "/claim/cut.py" 258)])) #[])
noncomputable def zo_108 (P : Params) : Obj := (Obj.mk (Value.type "function") none (Data.func (zf 6 (zo "on_sent") (zo "NewReno.on_sent") 3 [] Value.none Value.none Value.none (zs "quic.newreno" 194) none (Value.ref 69) Value.none 0)) #[])
noncomputable def zo_109 (P : Params) : Obj := (Obj.mk (Value.type "tuple") none (Data.seq #[] 0) #[])
noncomputable def zo_110 (P : Params) : Obj := (Obj.mk Value.none none (Data.fields #[]) #[])
noncomputable def zo_111 (P : Params) : Obj := (Obj.mk (Value.type "tuple") none (Data.seq (List.toArray [(zs "self" 263), (zs "size" 264)]) 0) #[])
noncomputable def zo_112 (P : Params) : Obj := (Obj.mk (Value.type "tuple") none (Data.seq #[] 0) #[])
noncomputable def zo_113 (P : Params) : Obj := (Obj.mk Value.none none (Data.func (zf 7 (zo "on_discarded") (zo "NewReno.on_discarded") 0 [] Value.none Value.none Value.none Value.none none Value.none Value.none 0)) #[])
noncomputable def zo_114 (P : Params) : Obj := (Obj.mk (Value.type "code") none (Data.fields (List.toArray [(zs "on_discarded" 260), (zs "NewReno.on_discarded" 261), (zs "/claim/cut.py" 262), (Value.int 32 0), (Value.int 2 0), (Value.int 0 0), (Value.int 0 0), (Value.int 3 0), (Value.ref 71), (Value.bool true), (Value.int 181 0), (Value.ref 72), Value.none, (Value.ref 73), (Value.ref 74), (Value.ref 75), (Value.int 265 0), (Value.int 32 0), (zs "/claim/cut.py" 266)])) #[])
noncomputable def zo_115 (P : Params) : Obj := (Obj.mk (Value.type "function") none (Data.func (zf 7 (zo "on_discarded") (zo "NewReno.on_discarded") 3 [] Value.none Value.none Value.none (zs "quic.newreno" 194) none (Value.ref 76) Value.none 0)) #[])
noncomputable def zo_116 (P : Params) : Obj := (Obj.mk (Value.type "tuple") none (Data.seq #[] 0) #[])
noncomputable def zo_117 (P : Params) : Obj := (Obj.mk Value.none none (Data.fields #[]) #[])
noncomputable def zo_118 (P : Params) : Obj := (Obj.mk (Value.type "tuple") none (Data.seq (List.toArray [(zs "self" 271), (zs "size" 272), (zs "sent_at" 273), (zs "is_limited" 274), (zs "now" 275), (zs "smoothed" 276)]) 0) #[])
noncomputable def zo_119 (P : Params) : Obj := (Obj.mk (Value.type "tuple") none (Data.seq #[] 0) #[])
noncomputable def zo_120 (P : Params) : Obj := (Obj.mk Value.none none (Data.func (zf 8 (zo "on_acked") (zo "NewReno.on_acked") 0 [] Value.none Value.none Value.none Value.none none Value.none Value.none 0)) #[])
noncomputable def zo_121 (P : Params) : Obj := (Obj.mk (Value.type "code") none (Data.fields (List.toArray [(zs "on_acked" 268), (zs "NewReno.on_acked" 269), (zs "/claim/cut.py" 270), (Value.int 35 0), (Value.int 6 0), (Value.int 0 0), (Value.int 0 0), (Value.int 3 0), (Value.ref 78), (Value.bool true), (Value.int 181 0), (Value.ref 79), Value.none, (Value.ref 80), (Value.ref 81), (Value.ref 82), (Value.int 277 0), (Value.int 35 0), (zs "/claim/cut.py" 278)])) #[])
noncomputable def zo_122 (P : Params) : Obj := (Obj.mk (Value.type "function") none (Data.func (zf 8 (zo "on_acked") (zo "NewReno.on_acked") 3 [] Value.none Value.none Value.none (zs "quic.newreno" 194) none (Value.ref 83) Value.none 0)) #[])
noncomputable def zo_123 (P : Params) : Obj := (Obj.mk (Value.type "tuple") none (Data.seq #[] 0) #[])
noncomputable def zo_124 (P : Params) : Obj := (Obj.mk Value.none none (Data.fields #[]) #[])
noncomputable def zo_125 (P : Params) : Obj := (Obj.mk (Value.type "tuple") none (Data.seq (List.toArray [(zs "self" 283), (zs "size" 284)]) 0) #[])
noncomputable def zo_126 (P : Params) : Obj := (Obj.mk (Value.type "tuple") none (Data.seq #[] 0) #[])
noncomputable def zo_127 (P : Params) : Obj := (Obj.mk Value.none none (Data.func (zf 9 (zo "widen") (zo "NewReno.widen") 0 [] Value.none Value.none Value.none Value.none none Value.none Value.none 0)) #[])
noncomputable def zo_128 (P : Params) : Obj := (Obj.mk (Value.type "code") none (Data.fields (List.toArray [(zs "widen" 280), (zs "NewReno.widen" 281), (zs "/claim/cut.py" 282), (Value.int 38 0), (Value.int 2 0), (Value.int 0 0), (Value.int 0 0), (Value.int 3 0), (Value.ref 85), (Value.bool true), (Value.int 181 0), (Value.ref 86), Value.none, (Value.ref 87), (Value.ref 88), (Value.ref 89), (Value.int 285 0), (Value.int 38 0), (zs "/claim/cut.py" 286)])) #[])
noncomputable def zo_129 (P : Params) : Obj := (Obj.mk (Value.type "function") none (Data.func (zf 9 (zo "widen") (zo "NewReno.widen") 3 [] Value.none Value.none Value.none (zs "quic.newreno" 194) none (Value.ref 90) Value.none 0)) #[])
noncomputable def zo_130 (P : Params) : Obj := (Obj.mk (Value.type "tuple") none (Data.seq #[] 0) #[])
noncomputable def zo_131 (P : Params) : Obj := (Obj.mk Value.none none (Data.fields #[]) #[])
noncomputable def zo_132 (P : Params) : Obj := (Obj.mk (Value.type "tuple") none (Data.seq (List.toArray [(zs "self" 291), (zs "sent_at" 292), (zs "now" 293)]) 0) #[])
noncomputable def zo_133 (P : Params) : Obj := (Obj.mk (Value.type "tuple") none (Data.seq #[] 0) #[])
noncomputable def zo_134 (P : Params) : Obj := (Obj.mk Value.none none (Data.func (zf 10 (zo "on_congestion") (zo "NewReno.on_congestion") 0 [] Value.none Value.none Value.none Value.none none Value.none Value.none 0)) #[])
noncomputable def zo_135 (P : Params) : Obj := (Obj.mk (Value.type "code") none (Data.fields (List.toArray [(zs "on_congestion" 288), (zs "NewReno.on_congestion" 289), (zs "/claim/cut.py" 290), (Value.int 41 0), (Value.int 3 0), (Value.int 0 0), (Value.int 0 0), (Value.int 3 0), (Value.ref 92), (Value.bool true), (Value.int 181 0), (Value.ref 93), Value.none, (Value.ref 94), (Value.ref 95), (Value.ref 96), (Value.int 294 0), (Value.int 41 0), (zs "/claim/cut.py" 295)])) #[])
noncomputable def zo_136 (P : Params) : Obj := (Obj.mk (Value.type "function") none (Data.func (zf 10 (zo "on_congestion") (zo "NewReno.on_congestion") 3 [] Value.none Value.none Value.none (zs "quic.newreno" 194) none (Value.ref 97) Value.none 0)) #[])
noncomputable def zo_137 (P : Params) : Obj := (Obj.mk (Value.type "tuple") none (Data.seq #[] 0) #[])
noncomputable def zo_138 (P : Params) : Obj := (Obj.mk Value.none none (Data.fields #[]) #[])
noncomputable def zo_139 (P : Params) : Obj := (Obj.mk (Value.type "tuple") none (Data.seq (List.toArray [(zs "self" 300), (zs "size" 301), (zs "newest" 302), (zs "now" 303)]) 0) #[])
noncomputable def zo_140 (P : Params) : Obj := (Obj.mk (Value.type "tuple") none (Data.seq #[] 0) #[])
noncomputable def zo_141 (P : Params) : Obj := (Obj.mk Value.none none (Data.func (zf 11 (zo "on_lost") (zo "NewReno.on_lost") 0 [] Value.none Value.none Value.none Value.none none Value.none Value.none 0)) #[])
noncomputable def zo_142 (P : Params) : Obj := (Obj.mk (Value.type "code") none (Data.fields (List.toArray [(zs "on_lost" 297), (zs "NewReno.on_lost" 298), (zs "/claim/cut.py" 299), (Value.int 44 0), (Value.int 4 0), (Value.int 0 0), (Value.int 0 0), (Value.int 3 0), (Value.ref 99), (Value.bool true), (Value.int 181 0), (Value.ref 100), Value.none, (Value.ref 101), (Value.ref 102), (Value.ref 103), (Value.int 304 0), (Value.int 44 0), (zs "/claim/cut.py" 305)])) #[])
noncomputable def zo_143 (P : Params) : Obj := (Obj.mk (Value.type "function") none (Data.func (zf 11 (zo "on_lost") (zo "NewReno.on_lost") 3 [] Value.none Value.none Value.none (zs "quic.newreno" 194) none (Value.ref 104) Value.none 0)) #[])
noncomputable def zo_144 (P : Params) : Obj := (Obj.mk (Value.type "tuple") none (Data.seq #[] 0) #[])
noncomputable def zo_145 (P : Params) : Obj := (Obj.mk Value.none none (Data.fields #[]) #[])
noncomputable def zo_146 (P : Params) : Obj := (Obj.mk (Value.type "tuple") none (Data.seq (List.toArray [(zs "self" 310)]) 0) #[])
noncomputable def zo_147 (P : Params) : Obj := (Obj.mk (Value.type "tuple") none (Data.seq #[] 0) #[])
noncomputable def zo_148 (P : Params) : Obj := (Obj.mk Value.none none (Data.func (zf 12 (zo "on_persistent") (zo "NewReno.on_persistent") 0 [] Value.none Value.none Value.none Value.none none Value.none Value.none 0)) #[])
noncomputable def zo_149 (P : Params) : Obj := (Obj.mk (Value.type "code") none (Data.fields (List.toArray [(zs "on_persistent" 307), (zs "NewReno.on_persistent" 308), (zs "/claim/cut.py" 309), (Value.int 47 0), (Value.int 1 0), (Value.int 0 0), (Value.int 0 0), (Value.int 3 0), (Value.ref 106), (Value.bool true), (Value.int 181 0), (Value.ref 107), Value.none, (Value.ref 108), (Value.ref 109), (Value.ref 110), (Value.int 311 0), (Value.int 47 0), (zs "/claim/cut.py" 312)])) #[])
noncomputable def zo_150 (P : Params) : Obj := (Obj.mk (Value.type "function") none (Data.func (zf 12 (zo "on_persistent") (zo "NewReno.on_persistent") 3 [] Value.none Value.none Value.none (zs "quic.newreno" 194) none (Value.ref 111) Value.none 0)) #[])
noncomputable def zo_151 (P : Params) : Obj := (Obj.mk (Value.type "tuple") none (Data.seq (List.toArray [(zs "credit" 314), (zs "datagram" 315), (zs "in_flight" 316), (zs "recovery_at" 317), (zs "threshold" 318), (zs "window" 319)]) 0) #[])
noncomputable def zo_152 (P : Params) : Obj := (Obj.mk (Value.type "dict") none (Data.dict (List.toArray [(ze P "__module__" 216 (zs "quic.newreno" 194)), (ze P "__firstlineno__" 220 (Value.int 10 219)), (ze P "__init__" 228 (Value.ref 42)), (ze P "may_send" 236 (Value.ref 49)), (ze P "is_slow_start" 243 (Value.ref 56)), (ze P "in_recovery" 251 (Value.ref 63)), (ze P "on_sent" 259 (Value.ref 70)), (ze P "on_discarded" 267 (Value.ref 77)), (ze P "on_acked" 279 (Value.ref 84)), (ze P "widen" 287 (Value.ref 91)), (ze P "on_congestion" 296 (Value.ref 98)), (ze P "on_lost" 306 (Value.ref 105)), (ze P "on_persistent" 313 (Value.ref 112)), (ze P "__static_attributes__" 320 (Value.ref 113)), (ze P "__dict__" 322 (Value.ref 116)), (ze P "__weakref__" 324 (Value.ref 117)), (ze P "__doc__" 325 Value.none)]) 4) #[])
noncomputable def zo_153 (P : Params) : Obj := (Obj.mk (Value.type "type") none (Data.cls (ClassData.mk (zo "NewReno") [(Value.type "object")] [(Value.ref 115), (Value.type "object")] 114 (zo "NewReno") true [] [] false none false)) (List.toArray [none, none, (Option.some (zs "NewReno" 209)), (Option.some (zs "NewReno" 217)), (Option.some (Value.builtin "object.__new__")), (Option.some (Value.bool true))]))
noncomputable def zo_154 (P : Params) : Obj := (Obj.mk (Value.type "getset_descriptor") none (Data.fields (List.toArray [(zs "__dict__" 321), (Value.ref 115), (Value.builtin "function.__dict__"), (Value.builtin "function.__dict__#set")])) #[])
noncomputable def zo_155 (P : Params) : Obj := (Obj.mk (Value.type "getset_descriptor") none (Data.fields (List.toArray [(zs "__weakref__" 323), (Value.ref 115), (Value.builtin "ExceptionGroup.__weakref__"), Value.none])) #[])
noncomputable def zo_156 (P : Params) : Obj := (Obj.mk (Value.type "super") none (Data.fields (List.toArray [(Value.ref 115), (Value.ref 115), (Value.ref 115)])) #[])
noncomputable def zo_157 (P : Params) : Obj := (Obj.mk (Value.type "builtin_function_or_method") none (Data.fields (List.toArray [(Value.builtin "object.__init_subclass__"), (Value.ref 115)])) #[])
noncomputable def zo_158 (P : Params) : Obj := (Obj.mk (Value.type "dict") none (Data.dict (List.toArray [(ze P "__name__" 165 (zs "quic.rtt" 328)), (ze P "__doc__" 166 Value.none), (ze P "__package__" 167 Value.none), (ze P "__loader__" 168 (Value.builtin "__main__.__loader__#opaque")), (ze P "__spec__" 169 Value.none), (ze P "__annotations__" 170 (Value.ref 6)), (ze P "__builtins__" 171 (Value.ref 4)), (ze P "__file__" 173 (zs "/claim/cut.py" 172)), (ze P "__cached__" 174 Value.none), (ze P "_wall" 193 (Value.ref 21)), (ze P "INITIAL_PACKETS" 197 (Value.int 10 196)), (ze P "INITIAL_OCTETS" 199 (Value.int 14720 198)), (ze P "LEAST_PACKETS" 201 (Value.int 2 200)), (ze P "initial_window" 208 (Value.ref 28)), (ze P "NewReno" 327 (Value.ref 115)), (ze P "INITIAL_RTT" 331 (Value.int 333000 330)), (ze P "without_delay" 340 (Value.ref 126))]) 17) #[])
noncomputable def zo_159 (P : Params) : Obj := (Obj.mk Value.none none (Data.fields (List.toArray [(Value.int 1 0), (Value.int 0 0), (Value.ref 20), (Value.int 8 0), (Value.int 0 0), (Value.ref 27), (Value.int 10 0), (Value.int 0 0), (Value.ref 34), (Value.int 51 0), (Value.int 0 0), (Value.ref 125)])) #[])
noncomputable def zo_160 (P : Params) : Obj := (Obj.mk (Value.type "tuple") none (Data.seq #[] 0) #[])
noncomputable def zo_161 (P : Params) : Obj := (Obj.mk Value.none none (Data.fields #[]) #[])
noncomputable def zo_162 (P : Params) : Obj := (Obj.mk (Value.type "tuple") none (Data.seq (List.toArray [(zs "latest" 335), (zs "least" 336), (zs "ack_delay" 337)]) 0) #[])
noncomputable def zo_163 (P : Params) : Obj := (Obj.mk (Value.type "tuple") none (Data.seq #[] 0) #[])
noncomputable def zo_164 (P : Params) : Obj := (Obj.mk Value.none none (Data.func (zf 13 (zo "without_delay") (zo "without_delay") 0 [] Value.none Value.none Value.none Value.none none Value.none Value.none 0)) #[])
noncomputable def zo_165 (P : Params) : Obj := (Obj.mk (Value.type "code") none (Data.fields (List.toArray [(zs "without_delay" 332), (zs "without_delay" 333), (zs "/claim/cut.py" 334), (Value.int 51 0), (Value.int 3 0), (Value.int 0 0), (Value.int 0 0), (Value.int 3 0), (Value.ref 120), (Value.bool true), (Value.int 181 0), (Value.ref 121), Value.none, (Value.ref 122), (Value.ref 123), (Value.ref 124), (Value.int 338 0), (Value.int 51 0), (zs "/claim/cut.py" 339)])) #[])
noncomputable def zo_166 (P : Params) : Obj := (Obj.mk (Value.type "function") none (Data.func (zf 13 (zo "without_delay") (zo "without_delay") 3 [] Value.none Value.none Value.none (zs "quic.rtt" 328) none (Value.ref 125) Value.none 0)) #[])
noncomputable def zo_167 (P : Params) : Obj := (Obj.mk (Value.type "dict") none (Data.dict (List.toArray [(ze P "__name__" 165 (zs "quic.connloss" 416)), (ze P "__doc__" 166 Value.none), (ze P "__package__" 167 Value.none), (ze P "__loader__" 168 (Value.builtin "__main__.__loader__#opaque")), (ze P "__spec__" 169 Value.none), (ze P "__annotations__" 170 (Value.ref 6)), (ze P "__builtins__" 171 (Value.ref 4)), (ze P "__file__" 173 (zs "/claim/cut.py" 172)), (ze P "__cached__" 174 Value.none), (ze P "_wall" 193 (Value.ref 21)), (ze P "INITIAL_PACKETS" 197 (Value.int 10 196)), (ze P "INITIAL_OCTETS" 199 (Value.int 14720 198)), (ze P "LEAST_PACKETS" 201 (Value.int 2 200)), (ze P "initial_window" 208 (Value.ref 28)), (ze P "NewReno" 327 (Value.ref 115)), (ze P "INITIAL_RTT" 331 (Value.int 333000 330)), (ze P "without_delay" 340 (Value.ref 126)), (ze P "Rtt" 415 (Value.ref 179))]) 18) #[])
noncomputable def zo_168 (P : Params) : Obj := (Obj.mk Value.none none (Data.fields (List.toArray [(Value.int 1 0), (Value.int 0 0), (Value.ref 20), (Value.int 8 0), (Value.int 0 0), (Value.ref 27), (Value.int 10 0), (Value.int 0 0), (Value.ref 34), (Value.int 51 0), (Value.int 0 0), (Value.ref 125), (Value.int 53 0), (Value.int 0 0), (Value.ref 132)])) #[])
noncomputable def zo_169 (P : Params) : Obj := (Obj.mk (Value.type "tuple") none (Data.seq #[] 0) #[])
noncomputable def zo_170 (P : Params) : Obj := (Obj.mk (Value.type "builtin_function_or_method") none (Data.fields (List.toArray [(Value.builtin "type.__prepare__"), (Value.type "type")])) #[])
noncomputable def zo_171 (P : Params) : Obj := (Obj.mk (Value.type "dict") none (Data.dict (List.toArray [(ze P "__module__" 348 (zs "quic.rtt" 328)), (ze P "__qualname__" 350 (zs "Rtt" 349)), (ze P "__firstlineno__" 352 (Value.int 53 351)), (ze P "__init__" 360 (Value.ref 141)), (ze P "smoothed" 367 (Value.ref 148)), (ze P "variance" 374 (Value.ref 155)), (ze P "sample" 387 (Value.ref 162)), (ze P "begin_least" 394 (Value.ref 169)), (ze P "probe_base" 401 (Value.ref 176)), (ze P "__static_attributes__" 408 (Value.ref 177))]) 10) #[])
noncomputable def zo_172 (P : Params) : Obj := (Obj.mk (Value.type "tuple") none (Data.seq #[] 0) #[])
noncomputable def zo_173 (P : Params) : Obj := (Obj.mk Value.none none (Data.fields (List.toArray [(Value.int 55 0), (Value.int 4 0), (Value.ref 140), (Value.int 63 0), (Value.int 4 0), (Value.ref 147), (Value.int 66 0), (Value.int 4 0), (Value.ref 154), (Value.int 69 0), (Value.int 4 0), (Value.ref 161), (Value.int 85 0), (Value.int 4 0), (Value.ref 168), (Value.int 88 0), (Value.int 4 0), (Value.ref 175)])) #[])
noncomputable def zo_174 (P : Params) : Obj := (Obj.mk (Value.type "code") none (Data.fields (List.toArray [(zs "Rtt" 343), (zs "Rtt" 344), (zs "/claim/cut.py" 345), (Value.int 53 0), (Value.int 0 0), (Value.int 0 0), (Value.int 0 0), (Value.int 0 0), (Value.ref 130), (Value.bool false), (Value.int 181 0), (Value.ref 131), Value.none, Value.none, Value.none, Value.none, (Value.int 346 0), (Value.int 53 0), (zs "/claim/cut.py" 347)])) #[])
noncomputable def zo_175 (P : Params) : Obj := (Obj.mk (Value.type "frame") none Data.plain (List.toArray [(Option.some (Value.ref 132)), (Option.some (Value.ref 3)), (Option.some (Value.ref 129)), none, (Option.some (zs "quic.rtt" 328)), none, (Option.some (Value.ref 0))]))
noncomputable def zo_176 (P : Params) : Obj := (Obj.mk (Value.type "tuple") none (Data.seq (List.toArray [Value.none]) 0) #[])
noncomputable def zo_177 (P : Params) : Obj := (Obj.mk (Value.type "tuple") none (Data.seq #[] 0) #[])
noncomputable def zo_178 (P : Params) : Obj := (Obj.mk Value.none none (Data.fields #[]) #[])
noncomputable def zo_179 (P : Params) : Obj := (Obj.mk (Value.type "tuple") none (Data.seq (List.toArray [(zs "self" 356), (zs "since" 357)]) 0) #[])
noncomputable def zo_180 (P : Params) : Obj := (Obj.mk (Value.type "tuple") none (Data.seq #[] 0) #[])
noncomputable def zo_181 (P : Params) : Obj := (Obj.mk Value.none none (Data.func (zf 14 (zo "__init__") (zo "Rtt.__init__") 0 [] Value.none Value.none Value.none Value.none none Value.none Value.none 0)) #[])
noncomputable def zo_182 (P : Params) : Obj := (Obj.mk (Value.type "code") none (Data.fields (List.toArray [(zs "__init__" 353), (zs "Rtt.__init__" 354), (zs "/claim/cut.py" 355), (Value.int 55 0), (Value.int 2 0), (Value.int 0 0), (Value.int 0 0), (Value.int 3 0), (Value.ref 135), (Value.bool true), (Value.int 181 0), (Value.ref 136), Value.none, (Value.ref 137), (Value.ref 138), (Value.ref 139), (Value.int 358 0), (Value.int 55 0), (zs "/claim/cut.py" 359)])) #[])
noncomputable def zo_183 (P : Params) : Obj := (Obj.mk (Value.type "function") none (Data.func (zf 14 (zo "__init__") (zo "Rtt.__init__") 3 [] (Value.ref 134) Value.none Value.none (zs "quic.rtt" 328) none (Value.ref 140) Value.none 0)) #[])
noncomputable def zo_184 (P : Params) : Obj := (Obj.mk (Value.type "tuple") none (Data.seq #[] 0) #[])
noncomputable def zo_185 (P : Params) : Obj := (Obj.mk Value.none none (Data.fields #[]) #[])
noncomputable def zo_186 (P : Params) : Obj := (Obj.mk (Value.type "tuple") none (Data.seq (List.toArray [(zs "self" 364)]) 0) #[])
noncomputable def zo_187 (P : Params) : Obj := (Obj.mk (Value.type "tuple") none (Data.seq #[] 0) #[])
noncomputable def zo_188 (P : Params) : Obj := (Obj.mk Value.none none (Data.func (zf 15 (zo "smoothed") (zo "Rtt.smoothed") 0 [] Value.none Value.none Value.none Value.none none Value.none Value.none 0)) #[])
noncomputable def zo_189 (P : Params) : Obj := (Obj.mk (Value.type "code") none (Data.fields (List.toArray [(zs "smoothed" 361), (zs "Rtt.smoothed" 362), (zs "/claim/cut.py" 363), (Value.int 63 0), (Value.int 1 0), (Value.int 0 0), (Value.int 0 0), (Value.int 3 0), (Value.ref 142), (Value.bool true), (Value.int 181 0), (Value.ref 143), Value.none, (Value.ref 144), (Value.ref 145), (Value.ref 146), (Value.int 365 0), (Value.int 63 0), (zs "/claim/cut.py" 366)])) #[])
noncomputable def zo_190 (P : Params) : Obj := (Obj.mk (Value.type "function") none (Data.func (zf 15 (zo "smoothed") (zo "Rtt.smoothed") 3 [] Value.none Value.none Value.none (zs "quic.rtt" 328) none (Value.ref 147) Value.none 0)) #[])
noncomputable def zo_191 (P : Params) : Obj := (Obj.mk (Value.type "tuple") none (Data.seq #[] 0) #[])
noncomputable def zo_192 (P : Params) : Obj := (Obj.mk Value.none none (Data.fields #[]) #[])
noncomputable def zo_193 (P : Params) : Obj := (Obj.mk (Value.type "tuple") none (Data.seq (List.toArray [(zs "self" 371)]) 0) #[])
noncomputable def zo_194 (P : Params) : Obj := (Obj.mk (Value.type "tuple") none (Data.seq #[] 0) #[])
noncomputable def zo_195 (P : Params) : Obj := (Obj.mk Value.none none (Data.func (zf 16 (zo "variance") (zo "Rtt.variance") 0 [] Value.none Value.none Value.none Value.none none Value.none Value.none 0)) #[])
noncomputable def zo_196 (P : Params) : Obj := (Obj.mk (Value.type "code") none (Data.fields (List.toArray [(zs "variance" 368), (zs "Rtt.variance" 369), (zs "/claim/cut.py" 370), (Value.int 66 0), (Value.int 1 0), (Value.int 0 0), (Value.int 0 0), (Value.int 3 0), (Value.ref 149), (Value.bool true), (Value.int 181 0), (Value.ref 150), Value.none, (Value.ref 151), (Value.ref 152), (Value.ref 153), (Value.int 372 0), (Value.int 66 0), (zs "/claim/cut.py" 373)])) #[])
noncomputable def zo_197 (P : Params) : Obj := (Obj.mk (Value.type "function") none (Data.func (zf 16 (zo "variance") (zo "Rtt.variance") 3 [] Value.none Value.none Value.none (zs "quic.rtt" 328) none (Value.ref 154) Value.none 0)) #[])
noncomputable def zo_198 (P : Params) : Obj := (Obj.mk (Value.type "tuple") none (Data.seq #[] 0) #[])
noncomputable def zo_199 (P : Params) : Obj := (Obj.mk Value.none none (Data.fields #[]) #[])
noncomputable def zo_200 (P : Params) : Obj := (Obj.mk (Value.type "tuple") none (Data.seq (List.toArray [(zs "self" 378), (zs "latest" 379), (zs "ack_delay" 380), (zs "most_delay" 381), (zs "now" 382), (zs "adjusted" 383), (zs "apart" 384)]) 0) #[])
noncomputable def zo_201 (P : Params) : Obj := (Obj.mk (Value.type "tuple") none (Data.seq #[] 0) #[])
noncomputable def zo_202 (P : Params) : Obj := (Obj.mk Value.none none (Data.func (zf 17 (zo "sample") (zo "Rtt.sample") 0 [] Value.none Value.none Value.none Value.none none Value.none Value.none 0)) #[])
noncomputable def zo_203 (P : Params) : Obj := (Obj.mk (Value.type "code") none (Data.fields (List.toArray [(zs "sample" 375), (zs "Rtt.sample" 376), (zs "/claim/cut.py" 377), (Value.int 69 0), (Value.int 5 0), (Value.int 0 0), (Value.int 0 0), (Value.int 3 0), (Value.ref 156), (Value.bool true), (Value.int 181 0), (Value.ref 157), Value.none, (Value.ref 158), (Value.ref 159), (Value.ref 160), (Value.int 385 0), (Value.int 69 0), (zs "/claim/cut.py" 386)])) #[])
noncomputable def zo_204 (P : Params) : Obj := (Obj.mk (Value.type "function") none (Data.func (zf 17 (zo "sample") (zo "Rtt.sample") 3 [] Value.none Value.none Value.none (zs "quic.rtt" 328) none (Value.ref 161) Value.none 0)) #[])
noncomputable def zo_205 (P : Params) : Obj := (Obj.mk (Value.type "tuple") none (Data.seq #[] 0) #[])
noncomputable def zo_206 (P : Params) : Obj := (Obj.mk Value.none none (Data.fields #[]) #[])
noncomputable def zo_207 (P : Params) : Obj := (Obj.mk (Value.type "tuple") none (Data.seq (List.toArray [(zs "self" 391)]) 0) #[])
noncomputable def zo_208 (P : Params) : Obj := (Obj.mk (Value.type "tuple") none (Data.seq #[] 0) #[])
noncomputable def zo_209 (P : Params) : Obj := (Obj.mk Value.none none (Data.func (zf 18 (zo "begin_least") (zo "Rtt.begin_least") 0 [] Value.none Value.none Value.none Value.none none Value.none Value.none 0)) #[])
noncomputable def zo_210 (P : Params) : Obj := (Obj.mk (Value.type "code") none (Data.fields (List.toArray [(zs "begin_least" 388), (zs "Rtt.begin_least" 389), (zs "/claim/cut.py" 390), (Value.int 85 0), (Value.int 1 0), (Value.int 0 0), (Value.int 0 0), (Value.int 3 0), (Value.ref 163), (Value.bool true), (Value.int 181 0), (Value.ref 164), Value.none, (Value.ref 165), (Value.ref 166), (Value.ref 167), (Value.int 392 0), (Value.int 85 0), (zs "/claim/cut.py" 393)])) #[])
noncomputable def zo_211 (P : Params) : Obj := (Obj.mk (Value.type "function") none (Data.func (zf 18 (zo "begin_least") (zo "Rtt.begin_least") 3 [] Value.none Value.none Value.none (zs "quic.rtt" 328) none (Value.ref 168) Value.none 0)) #[])
noncomputable def zo_212 (P : Params) : Obj := (Obj.mk (Value.type "tuple") none (Data.seq #[] 0) #[])
noncomputable def zo_213 (P : Params) : Obj := (Obj.mk Value.none none (Data.fields #[]) #[])
noncomputable def zo_214 (P : Params) : Obj := (Obj.mk (Value.type "tuple") none (Data.seq (List.toArray [(zs "self" 398)]) 0) #[])
noncomputable def zo_215 (P : Params) : Obj := (Obj.mk (Value.type "tuple") none (Data.seq #[] 0) #[])
noncomputable def zo_216 (P : Params) : Obj := (Obj.mk Value.none none (Data.func (zf 19 (zo "probe_base") (zo "Rtt.probe_base") 0 [] Value.none Value.none Value.none Value.none none Value.none Value.none 0)) #[])
noncomputable def zo_217 (P : Params) : Obj := (Obj.mk (Value.type "code") none (Data.fields (List.toArray [(zs "probe_base" 395), (zs "Rtt.probe_base" 396), (zs "/claim/cut.py" 397), (Value.int 88 0), (Value.int 1 0), (Value.int 0 0), (Value.int 0 0), (Value.int 3 0), (Value.ref 170), (Value.bool true), (Value.int 181 0), (Value.ref 171), Value.none, (Value.ref 172), (Value.ref 173), (Value.ref 174), (Value.int 399 0), (Value.int 88 0), (zs "/claim/cut.py" 400)])) #[])
noncomputable def zo_218 (P : Params) : Obj := (Obj.mk (Value.type "function") none (Data.func (zf 19 (zo "probe_base") (zo "Rtt.probe_base") 3 [] Value.none Value.none Value.none (zs "quic.rtt" 328) none (Value.ref 175) Value.none 0)) #[])
noncomputable def zo_219 (P : Params) : Obj := (Obj.mk (Value.type "tuple") none (Data.seq (List.toArray [(zs "first_at" 402), (zs "latest" 403), (zs "least" 404), (zs "since" 405), (zs "smoothed8" 406), (zs "variance4" 407)]) 0) #[])
noncomputable def zo_220 (P : Params) : Obj := (Obj.mk (Value.type "dict") none (Data.dict (List.toArray [(ze P "__module__" 348 (zs "quic.rtt" 328)), (ze P "__firstlineno__" 352 (Value.int 53 351)), (ze P "__init__" 360 (Value.ref 141)), (ze P "smoothed" 367 (Value.ref 148)), (ze P "variance" 374 (Value.ref 155)), (ze P "sample" 387 (Value.ref 162)), (ze P "begin_least" 394 (Value.ref 169)), (ze P "probe_base" 401 (Value.ref 176)), (ze P "__static_attributes__" 408 (Value.ref 177)), (ze P "__dict__" 410 (Value.ref 180)), (ze P "__weakref__" 412 (Value.ref 181)), (ze P "__doc__" 413 Value.none)]) 4) #[])
noncomputable def zo_221 (P : Params) : Obj := (Obj.mk (Value.type "type") none (Data.cls (ClassData.mk (zo "Rtt") [(Value.type "object")] [(Value.ref 179), (Value.type "object")] 178 (zo "Rtt") true [] [] false none false)) (List.toArray [none, none, (Option.some (zs "Rtt" 341)), (Option.some (zs "Rtt" 349)), (Option.some (Value.builtin "object.__new__")), (Option.some (Value.bool true))]))
noncomputable def zo_222 (P : Params) : Obj := (Obj.mk (Value.type "getset_descriptor") none (Data.fields (List.toArray [(zs "__dict__" 409), (Value.ref 179), (Value.builtin "function.__dict__"), (Value.builtin "function.__dict__#set")])) #[])
noncomputable def zo_223 (P : Params) : Obj := (Obj.mk (Value.type "getset_descriptor") none (Data.fields (List.toArray [(zs "__weakref__" 411), (Value.ref 179), (Value.builtin "ExceptionGroup.__weakref__"), Value.none])) #[])
noncomputable def zo_224 (P : Params) : Obj := (Obj.mk (Value.type "super") none (Data.fields (List.toArray [(Value.ref 179), (Value.ref 179), (Value.ref 179)])) #[])
noncomputable def zo_225 (P : Params) : Obj := (Obj.mk (Value.type "builtin_function_or_method") none (Data.fields (List.toArray [(Value.builtin "object.__init_subclass__"), (Value.ref 179)])) #[])
noncomputable def zo_226 (P : Params) : Obj := (Obj.mk Value.none none (Data.dict (List.toArray [(ze P "type.__subclasses__.Exception.0" 469 (Value.int 214 0)), (ze P "type.__subclasses__.Exception.n" 470 (Value.int 1 0))]) 2) #[])
noncomputable def zo_227 (P : Params) : Obj := (Obj.mk (Value.type "dict") none (Data.dict (List.toArray [(ze P "__name__" 165 (zs "quic.connin" 473)), (ze P "__doc__" 166 Value.none), (ze P "__package__" 167 Value.none), (ze P "__loader__" 168 (Value.builtin "__main__.__loader__#opaque")), (ze P "__spec__" 169 Value.none), (ze P "__annotations__" 170 (Value.ref 6)), (ze P "__builtins__" 171 (Value.ref 4)), (ze P "__file__" 173 (zs "/claim/cut.py" 172)), (ze P "__cached__" 174 Value.none), (ze P "_wall" 193 (Value.ref 21)), (ze P "INITIAL_PACKETS" 197 (Value.int 10 196)), (ze P "INITIAL_OCTETS" 199 (Value.int 14720 198)), (ze P "LEAST_PACKETS" 201 (Value.int 2 200)), (ze P "initial_window" 208 (Value.ref 28)), (ze P "NewReno" 327 (Value.ref 115)), (ze P "INITIAL_RTT" 331 (Value.int 333000 330)), (ze P "without_delay" 340 (Value.ref 126)), (ze P "Rtt" 415 (Value.ref 179)), (ze P "begin_anew" 426 (Value.ref 190)), (ze P "renew_way" 435 (Value.ref 197)), (ze P "PROTOCOL_VIOLATION" 439 (Value.int 10 438)), (ze P "QuicError" 472 (Value.ref 214)), (ze P "NEW_TOKEN_TYPE" 476 (Value.int 7 475)), (ze P "is_for" 487 (Value.ref 224)), (ze P "take_answer" 496 (Value.ref 231))]) 25) #[])
noncomputable def zo_228 (P : Params) : Obj := (Obj.mk Value.none none (Data.fields (List.toArray [(Value.int 1 0), (Value.int 0 0), (Value.ref 20), (Value.int 8 0), (Value.int 0 0), (Value.ref 27), (Value.int 10 0), (Value.int 0 0), (Value.ref 34), (Value.int 51 0), (Value.int 0 0), (Value.ref 125), (Value.int 53 0), (Value.int 0 0), (Value.ref 132), (Value.int 91 0), (Value.int 0 0), (Value.ref 189), (Value.int 95 0), (Value.int 0 0), (Value.ref 196), (Value.int 102 0), (Value.int 0 0), (Value.ref 203), (Value.int 111 0), (Value.int 0 0), (Value.ref 223), (Value.int 121 0), (Value.int 0 0), (Value.ref 230)])) #[])
noncomputable def zo_229 (P : Params) : Obj := (Obj.mk (Value.type "tuple") none (Data.seq #[] 0) #[])
noncomputable def zo_230 (P : Params) : Obj := (Obj.mk Value.none none (Data.fields #[]) #[])
noncomputable def zo_231 (P : Params) : Obj := (Obj.mk (Value.type "tuple") none (Data.seq (List.toArray [(zs "conn" 421), (zs "now" 422), (zs "out" 423)]) 0) #[])
noncomputable def zo_232 (P : Params) : Obj := (Obj.mk (Value.type "tuple") none (Data.seq #[] 0) #[])
noncomputable def zo_233 (P : Params) : Obj := (Obj.mk Value.none none (Data.func (zf 20 (zo "begin_anew") (zo "begin_anew") 0 [] Value.none Value.none Value.none Value.none none Value.none Value.none 0)) #[])
noncomputable def zo_234 (P : Params) : Obj := (Obj.mk (Value.type "code") none (Data.fields (List.toArray [(zs "begin_anew" 418), (zs "begin_anew" 419), (zs "/claim/cut.py" 420), (Value.int 91 0), (Value.int 2 0), (Value.int 0 0), (Value.int 0 0), (Value.int 3 0), (Value.ref 184), (Value.bool true), (Value.int 181 0), (Value.ref 185), Value.none, (Value.ref 186), (Value.ref 187), (Value.ref 188), (Value.int 424 0), (Value.int 91 0), (zs "/claim/cut.py" 425)])) #[])
noncomputable def zo_235 (P : Params) : Obj := (Obj.mk (Value.type "function") none (Data.func (zf 20 (zo "begin_anew") (zo "begin_anew") 3 [] Value.none Value.none Value.none (zs "quic.connloss" 416) none (Value.ref 189) Value.none 0)) #[])
noncomputable def zo_236 (P : Params) : Obj := (Obj.mk (Value.type "tuple") none (Data.seq #[] 0) #[])
noncomputable def zo_237 (P : Params) : Obj := (Obj.mk Value.none none (Data.fields #[]) #[])
noncomputable def zo_238 (P : Params) : Obj := (Obj.mk (Value.type "tuple") none (Data.seq (List.toArray [(zs "conn" 430), (zs "now" 431), (zs "active" 432)]) 0) #[])
noncomputable def zo_239 (P : Params) : Obj := (Obj.mk (Value.type "tuple") none (Data.seq #[] 0) #[])
noncomputable def zo_240 (P : Params) : Obj := (Obj.mk Value.none none (Data.func (zf 21 (zo "renew_way") (zo "renew_way") 0 [] Value.none Value.none Value.none Value.none none Value.none Value.none 0)) #[])
noncomputable def zo_241 (P : Params) : Obj := (Obj.mk (Value.type "code") none (Data.fields (List.toArray [(zs "renew_way" 427), (zs "renew_way" 428), (zs "/claim/cut.py" 429), (Value.int 95 0), (Value.int 2 0), (Value.int 0 0), (Value.int 0 0), (Value.int 3 0), (Value.ref 191), (Value.bool true), (Value.int 181 0), (Value.ref 192), Value.none, (Value.ref 193), (Value.ref 194), (Value.ref 195), (Value.int 433 0), (Value.int 95 0), (zs "/claim/cut.py" 434)])) #[])
noncomputable def zo_242 (P : Params) : Obj := (Obj.mk (Value.type "function") none (Data.func (zf 21 (zo "renew_way") (zo "renew_way") 3 [] Value.none Value.none Value.none (zs "quic.connloss" 416) none (Value.ref 196) Value.none 0)) #[])
noncomputable def zo_243 (P : Params) : Obj := (Obj.mk (Value.type "tuple") none (Data.seq (List.toArray [(Value.type "Exception")]) 0) #[])
noncomputable def zo_244 (P : Params) : Obj := (Obj.mk (Value.type "builtin_function_or_method") none (Data.fields (List.toArray [(Value.builtin "type.__prepare__"), (Value.type "type")])) #[])
noncomputable def zo_245 (P : Params) : Obj := (Obj.mk (Value.type "dict") none (Data.dict (List.toArray [(ze P "__module__" 447 (zs "quic.errors" 436)), (ze P "__qualname__" 449 (zs "QuicError" 448)), (ze P "__firstlineno__" 451 (Value.int 102 450)), (ze P "__init__" 461 (Value.ref 211)), (ze P "__static_attributes__" 465 (Value.ref 212))]) 5) #[])
noncomputable def zo_246 (P : Params) : Obj := (Obj.mk (Value.type "tuple") none (Data.seq #[] 0) #[])
noncomputable def zo_247 (P : Params) : Obj := (Obj.mk Value.none none (Data.fields (List.toArray [(Value.int 104 0), (Value.int 4 0), (Value.ref 210)])) #[])
noncomputable def zo_248 (P : Params) : Obj := (Obj.mk (Value.type "code") none (Data.fields (List.toArray [(zs "QuicError" 442), (zs "QuicError" 443), (zs "/claim/cut.py" 444), (Value.int 102 0), (Value.int 0 0), (Value.int 0 0), (Value.int 0 0), (Value.int 0 0), (Value.ref 201), (Value.bool false), (Value.int 181 0), (Value.ref 202), Value.none, Value.none, Value.none, Value.none, (Value.int 445 0), (Value.int 102 0), (zs "/claim/cut.py" 446)])) #[])
noncomputable def zo_249 (P : Params) : Obj := (Obj.mk (Value.type "frame") none Data.plain (List.toArray [(Option.some (Value.ref 203)), (Option.some (Value.ref 3)), (Option.some (Value.ref 200)), none, (Option.some (zs "quic.errors" 436)), none, (Option.some (Value.ref 0))]))
noncomputable def zo_250 (P : Params) : Obj := (Obj.mk (Value.type "tuple") none (Data.seq #[] 0) #[])
noncomputable def zo_251 (P : Params) : Obj := (Obj.mk Value.none none (Data.fields #[]) #[])
noncomputable def zo_252 (P : Params) : Obj := (Obj.mk (Value.type "tuple") none (Data.seq (List.toArray [(zs "self" 455), (zs "code" 456), (zs "frame_type" 457), (zs "text" 458)]) 0) #[])
noncomputable def zo_253 (P : Params) : Obj := (Obj.mk (Value.type "tuple") none (Data.seq #[] 0) #[])
noncomputable def zo_254 (P : Params) : Obj := (Obj.mk Value.none none (Data.func (zf 22 (zo "__init__") (zo "QuicError.__init__") 0 [] Value.none Value.none Value.none Value.none none Value.none Value.none 0)) #[])
noncomputable def zo_255 (P : Params) : Obj := (Obj.mk (Value.type "code") none (Data.fields (List.toArray [(zs "__init__" 452), (zs "QuicError.__init__" 453), (zs "/claim/cut.py" 454), (Value.int 104 0), (Value.int 4 0), (Value.int 0 0), (Value.int 0 0), (Value.int 3 0), (Value.ref 205), (Value.bool true), (Value.int 181 0), (Value.ref 206), Value.none, (Value.ref 207), (Value.ref 208), (Value.ref 209), (Value.int 459 0), (Value.int 104 0), (zs "/claim/cut.py" 460)])) #[])
noncomputable def zo_256 (P : Params) : Obj := (Obj.mk (Value.type "function") none (Data.func (zf 22 (zo "__init__") (zo "QuicError.__init__") 3 [] Value.none Value.none Value.none (zs "quic.errors" 436) none (Value.ref 210) Value.none 0)) #[])
noncomputable def zo_257 (P : Params) : Obj := (Obj.mk (Value.type "tuple") none (Data.seq (List.toArray [(zs "code" 462), (zs "frame_type" 463), (zs "text" 464)]) 0) #[])
noncomputable def zo_258 (P : Params) : Obj := (Obj.mk (Value.type "dict") none (Data.dict (List.toArray [(ze P "__module__" 447 (zs "quic.errors" 436)), (ze P "__firstlineno__" 451 (Value.int 102 450)), (ze P "__init__" 461 (Value.ref 211)), (ze P "__static_attributes__" 465 (Value.ref 212)), (ze P "__weakref__" 467 (Value.ref 215)), (ze P "__doc__" 468 Value.none)]) 3) #[])
noncomputable def zo_259 (P : Params) : Obj := (Obj.mk (Value.type "type") none (Data.cls (ClassData.mk (zo "QuicError") [(Value.type "Exception")] [(Value.ref 214), (Value.type "Exception"), (Value.type "BaseException"), (Value.type "object")] 213 (zo "QuicError") true [] [] false none false)) (List.toArray [(Option.some (Value.ref 198)), none, (Option.some (zs "QuicError" 440)), (Option.some (zs "QuicError" 448)), (Option.some (Value.builtin "Exception.__new__")), (Option.some (Value.bool true))]))
noncomputable def zo_260 (P : Params) : Obj := (Obj.mk (Value.type "getset_descriptor") none (Data.fields (List.toArray [(zs "__weakref__" 466), (Value.ref 214), (Value.builtin "ExceptionGroup.__weakref__"), Value.none])) #[])
noncomputable def zo_261 (P : Params) : Obj := (Obj.mk (Value.type "super") none (Data.fields (List.toArray [(Value.ref 214), (Value.ref 214), (Value.ref 214)])) #[])
noncomputable def zo_262 (P : Params) : Obj := (Obj.mk (Value.type "builtin_function_or_method") none (Data.fields (List.toArray [(Value.builtin "object.__init_subclass__"), (Value.ref 214)])) #[])
noncomputable def zo_263 (P : Params) : Obj := (Obj.mk (Value.type "tuple") none (Data.seq #[] 0) #[])
noncomputable def zo_264 (P : Params) : Obj := (Obj.mk Value.none none (Data.fields #[]) #[])
noncomputable def zo_265 (P : Params) : Obj := (Obj.mk (Value.type "tuple") none (Data.seq (List.toArray [(zs "conn" 480), (zs "raw" 481), (zs "size" 482), (zs "is_first" 483), (zs "is_long" 484)]) 0) #[])
noncomputable def zo_266 (P : Params) : Obj := (Obj.mk (Value.type "tuple") none (Data.seq #[] 0) #[])
noncomputable def zo_267 (P : Params) : Obj := (Obj.mk Value.none none (Data.func (zf 23 (zo "is_for") (zo "is_for") 0 [] Value.none Value.none Value.none Value.none none Value.none Value.none 0)) #[])
noncomputable def zo_268 (P : Params) : Obj := (Obj.mk (Value.type "code") none (Data.fields (List.toArray [(zs "is_for" 477), (zs "is_for" 478), (zs "/claim/cut.py" 479), (Value.int 111 0), (Value.int 3 0), (Value.int 0 0), (Value.int 0 0), (Value.int 3 0), (Value.ref 218), (Value.bool true), (Value.int 181 0), (Value.ref 219), Value.none, (Value.ref 220), (Value.ref 221), (Value.ref 222), (Value.int 485 0), (Value.int 111 0), (zs "/claim/cut.py" 486)])) #[])
noncomputable def zo_269 (P : Params) : Obj := (Obj.mk (Value.type "function") none (Data.func (zf 23 (zo "is_for") (zo "is_for") 3 [] Value.none Value.none Value.none (zs "quic.connin" 473) none (Value.ref 223) Value.none 0)) #[])
noncomputable def zo_270 (P : Params) : Obj := (Obj.mk (Value.type "tuple") none (Data.seq #[] 0) #[])
noncomputable def zo_271 (P : Params) : Obj := (Obj.mk Value.none none (Data.fields #[]) #[])
noncomputable def zo_272 (P : Params) : Obj := (Obj.mk (Value.type "tuple") none (Data.seq (List.toArray [(zs "conn" 491), (zs "data" 492), (zs "now" 493)]) 0) #[])
noncomputable def zo_273 (P : Params) : Obj := (Obj.mk (Value.type "tuple") none (Data.seq #[] 0) #[])
noncomputable def zo_274 (P : Params) : Obj := (Obj.mk Value.none none (Data.func (zf 24 (zo "take_answer") (zo "take_answer") 0 [] Value.none Value.none Value.none Value.none none Value.none Value.none 0)) #[])
noncomputable def zo_275 (P : Params) : Obj := (Obj.mk (Value.type "code") none (Data.fields (List.toArray [(zs "take_answer" 488), (zs "take_answer" 489), (zs "/claim/cut.py" 490), (Value.int 121 0), (Value.int 3 0), (Value.int 0 0), (Value.int 0 0), (Value.int 3 0), (Value.ref 225), (Value.bool true), (Value.int 181 0), (Value.ref 226), Value.none, (Value.ref 227), (Value.ref 228), (Value.ref 229), (Value.int 494 0), (Value.int 121 0), (zs "/claim/cut.py" 495)])) #[])
noncomputable def zo_276 (P : Params) : Obj := (Obj.mk (Value.type "function") none (Data.func (zf 24 (zo "take_answer") (zo "take_answer") 3 [] Value.none Value.none Value.none (zs "quic.connin" 473) none (Value.ref 230) Value.none 0)) #[])
noncomputable def zo_277 (P : Params) : Obj := (Obj.mk (Value.type "dict") none (Data.dict (List.toArray [(ze P "__name__" 165 (zs "quic.cids" 509)), (ze P "__doc__" 166 Value.none), (ze P "__package__" 167 Value.none), (ze P "__loader__" 168 (Value.builtin "__main__.__loader__#opaque")), (ze P "__spec__" 169 Value.none), (ze P "__annotations__" 170 (Value.ref 6)), (ze P "__builtins__" 171 (Value.ref 4)), (ze P "__file__" 173 (zs "/claim/cut.py" 172)), (ze P "__cached__" 174 Value.none), (ze P "_wall" 193 (Value.ref 21)), (ze P "INITIAL_PACKETS" 197 (Value.int 10 196)), (ze P "INITIAL_OCTETS" 199 (Value.int 14720 198)), (ze P "LEAST_PACKETS" 201 (Value.int 2 200)), (ze P "initial_window" 208 (Value.ref 28)), (ze P "NewReno" 327 (Value.ref 115)), (ze P "INITIAL_RTT" 331 (Value.int 333000 330)), (ze P "without_delay" 340 (Value.ref 126)), (ze P "Rtt" 415 (Value.ref 179)), (ze P "begin_anew" 426 (Value.ref 190)), (ze P "renew_way" 435 (Value.ref 197)), (ze P "PROTOCOL_VIOLATION" 439 (Value.int 10 438)), (ze P "QuicError" 472 (Value.ref 214)), (ze P "NEW_TOKEN_TYPE" 476 (Value.int 7 475)), (ze P "is_for" 487 (Value.ref 224)), (ze P "take_answer" 496 (Value.ref 231)), (ze P "take_path_frame" 508 (Value.ref 238)), (ze P "FRAME_RETIRE" 512 (Value.int 25 511))]) 27) #[])
noncomputable def zo_278 (P : Params) : Obj := (Obj.mk Value.none none (Data.fields (List.toArray [(Value.int 1 0), (Value.int 0 0), (Value.ref 20), (Value.int 8 0), (Value.int 0 0), (Value.ref 27), (Value.int 10 0), (Value.int 0 0), (Value.ref 34), (Value.int 51 0), (Value.int 0 0), (Value.ref 125), (Value.int 53 0), (Value.int 0 0), (Value.ref 132), (Value.int 91 0), (Value.int 0 0), (Value.ref 189), (Value.int 95 0), (Value.int 0 0), (Value.ref 196), (Value.int 102 0), (Value.int 0 0), (Value.ref 203), (Value.int 111 0), (Value.int 0 0), (Value.ref 223), (Value.int 121 0), (Value.int 0 0), (Value.ref 230), (Value.int 124 0), (Value.int 0 0), (Value.ref 237)])) #[])
noncomputable def zo_279 (P : Params) : Obj := (Obj.mk (Value.type "tuple") none (Data.seq #[] 0) #[])
noncomputable def zo_280 (P : Params) : Obj := (Obj.mk Value.none none (Data.fields #[]) #[])
noncomputable def zo_281 (P : Params) : Obj := (Obj.mk (Value.type "tuple") none (Data.seq (List.toArray [(zs "conn" 500), (zs "frame" 501), (zs "raw" 502), (zs "path" 503), (zs "now" 504), (zs "kind" 505)]) 0) #[])
noncomputable def zo_282 (P : Params) : Obj := (Obj.mk (Value.type "tuple") none (Data.seq #[] 0) #[])
noncomputable def zo_283 (P : Params) : Obj := (Obj.mk Value.none none (Data.func (zf 25 (zo "take_path_frame") (zo "take_path_frame") 0 [] Value.none Value.none Value.none Value.none none Value.none Value.none 0)) #[])
noncomputable def zo_284 (P : Params) : Obj := (Obj.mk (Value.type "code") none (Data.fields (List.toArray [(zs "take_path_frame" 497), (zs "take_path_frame" 498), (zs "/claim/cut.py" 499), (Value.int 124 0), (Value.int 5 0), (Value.int 0 0), (Value.int 0 0), (Value.int 3 0), (Value.ref 232), (Value.bool true), (Value.int 181 0), (Value.ref 233), Value.none, (Value.ref 234), (Value.ref 235), (Value.ref 236), (Value.int 506 0), (Value.int 124 0), (zs "/claim/cut.py" 507)])) #[])
noncomputable def zo_285 (P : Params) : Obj := (Obj.mk (Value.type "function") none (Data.func (zf 25 (zo "take_path_frame") (zo "take_path_frame") 3 [] Value.none Value.none Value.none (zs "quic.connin" 473) none (Value.ref 237) Value.none 0)) #[])
noncomputable def zo_286 (P : Params) : Obj := (Obj.mk (Value.type "dict") none (Data.dict (List.toArray [(ze P "__name__" 165 (zs "quic.cids" 509)), (ze P "__doc__" 166 Value.none), (ze P "__package__" 167 Value.none), (ze P "__loader__" 168 (Value.builtin "__main__.__loader__#opaque")), (ze P "__spec__" 169 Value.none), (ze P "__annotations__" 170 (Value.ref 6)), (ze P "__builtins__" 171 (Value.ref 4)), (ze P "__file__" 173 (zs "/claim/cut.py" 172)), (ze P "__cached__" 174 Value.none), (ze P "_wall" 193 (Value.ref 21)), (ze P "INITIAL_PACKETS" 197 (Value.int 10 196)), (ze P "INITIAL_OCTETS" 199 (Value.int 14720 198)), (ze P "LEAST_PACKETS" 201 (Value.int 2 200)), (ze P "initial_window" 208 (Value.ref 28)), (ze P "NewReno" 327 (Value.ref 115)), (ze P "INITIAL_RTT" 331 (Value.int 333000 330)), (ze P "without_delay" 340 (Value.ref 126)), (ze P "Rtt" 415 (Value.ref 179)), (ze P "begin_anew" 426 (Value.ref 190)), (ze P "renew_way" 435 (Value.ref 197)), (ze P "PROTOCOL_VIOLATION" 439 (Value.int 10 438)), (ze P "QuicError" 472 (Value.ref 214)), (ze P "NEW_TOKEN_TYPE" 476 (Value.int 7 475)), (ze P "is_for" 487 (Value.ref 224)), (ze P "take_answer" 496 (Value.ref 231)), (ze P "take_path_frame" 508 (Value.ref 238)), (ze P "FRAME_RETIRE" 512 (Value.int 25 511)), (ze P "LocalIds" 596 (Value.ref 295))]) 28) #[])
noncomputable def zo_287 (P : Params) : Obj := (Obj.mk Value.none none (Data.fields (List.toArray [(Value.int 1 0), (Value.int 0 0), (Value.ref 20), (Value.int 8 0), (Value.int 0 0), (Value.ref 27), (Value.int 10 0), (Value.int 0 0), (Value.ref 34), (Value.int 51 0), (Value.int 0 0), (Value.ref 125), (Value.int 53 0), (Value.int 0 0), (Value.ref 132), (Value.int 91 0), (Value.int 0 0), (Value.ref 189), (Value.int 95 0), (Value.int 0 0), (Value.ref 196), (Value.int 102 0), (Value.int 0 0), (Value.ref 203), (Value.int 111 0), (Value.int 0 0), (Value.ref 223), (Value.int 121 0), (Value.int 0 0), (Value.ref 230), (Value.int 124 0), (Value.int 0 0), (Value.ref 237), (Value.int 141 0), (Value.int 0 0), (Value.ref 244)])) #[])
noncomputable def zo_288 (P : Params) : Obj := (Obj.mk (Value.type "tuple") none (Data.seq #[] 0) #[])
noncomputable def zo_289 (P : Params) : Obj := (Obj.mk (Value.type "builtin_function_or_method") none (Data.fields (List.toArray [(Value.builtin "type.__prepare__"), (Value.type "type")])) #[])
noncomputable def zo_290 (P : Params) : Obj := (Obj.mk (Value.type "dict") none (Data.dict (List.toArray [(ze P "__module__" 520 (zs "quic.cids" 509)), (ze P "__qualname__" 522 (zs "LocalIds" 521)), (ze P "__firstlineno__" 524 (Value.int 141 523)), (ze P "__init__" 533 (Value.ref 252)), (ze P "kept_count" 539 (Value.ref 257)), (ze P "may_issue" 546 (Value.ref 264)), (ze P "issue" 556 (Value.ref 271)), (ze P "ask_to_retire" 564 (Value.ref 278)), (ze P "on_retire" 573 (Value.ref 285)), (ze P "sequence_of" 582 (Value.ref 292)), (ze P "__static_attributes__" 589 (Value.ref 293))]) 11) #[])
noncomputable def zo_291 (P : Params) : Obj := (Obj.mk (Value.type "tuple") none (Data.seq #[] 0) #[])
noncomputable def zo_292 (P : Params) : Obj := (Obj.mk Value.none none (Data.fields (List.toArray [(Value.int 143 0), (Value.int 4 0), (Value.ref 251), (Value.int 151 0), (Value.int 4 0), (Value.ref 256), (Value.int 154 0), (Value.int 4 0), (Value.ref 263), (Value.int 157 0), (Value.int 4 0), (Value.ref 270), (Value.int 166 0), (Value.int 4 0), (Value.ref 277), (Value.int 169 0), (Value.int 4 0), (Value.ref 284), (Value.int 178 0), (Value.int 4 0), (Value.ref 291)])) #[])
noncomputable def zo_293 (P : Params) : Obj := (Obj.mk (Value.type "code") none (Data.fields (List.toArray [(zs "LocalIds" 515), (zs "LocalIds" 516), (zs "/claim/cut.py" 517), (Value.int 141 0), (Value.int 0 0), (Value.int 0 0), (Value.int 0 0), (Value.int 0 0), (Value.ref 242), (Value.bool false), (Value.int 181 0), (Value.ref 243), Value.none, Value.none, Value.none, Value.none, (Value.int 518 0), (Value.int 141 0), (zs "/claim/cut.py" 519)])) #[])
noncomputable def zo_294 (P : Params) : Obj := (Obj.mk (Value.type "frame") none Data.plain (List.toArray [(Option.some (Value.ref 244)), (Option.some (Value.ref 3)), (Option.some (Value.ref 241)), none, (Option.some (zs "quic.cids" 509)), none, (Option.some (Value.ref 0))]))
noncomputable def zo_295 (P : Params) : Obj := (Obj.mk (Value.type "tuple") none (Data.seq #[] 0) #[])
noncomputable def zo_296 (P : Params) : Obj := (Obj.mk Value.none none (Data.fields #[]) #[])
noncomputable def zo_297 (P : Params) : Obj := (Obj.mk (Value.type "tuple") none (Data.seq (List.toArray [(zs "self" 528), (zs "first" 529), (zs "limit" 530)]) 0) #[])
noncomputable def zo_298 (P : Params) : Obj := (Obj.mk (Value.type "tuple") none (Data.seq #[] 0) #[])
noncomputable def zo_299 (P : Params) : Obj := (Obj.mk Value.none none (Data.func (zf 26 (zo "__init__") (zo "LocalIds.__init__") 0 [] Value.none Value.none Value.none Value.none none Value.none Value.none 0)) #[])
noncomputable def zo_300 (P : Params) : Obj := (Obj.mk (Value.type "code") none (Data.fields (List.toArray [(zs "__init__" 525), (zs "LocalIds.__init__" 526), (zs "/claim/cut.py" 527), (Value.int 143 0), (Value.int 3 0), (Value.int 0 0), (Value.int 0 0), (Value.int 3 0), (Value.ref 246), (Value.bool true), (Value.int 181 0), (Value.ref 247), Value.none, (Value.ref 248), (Value.ref 249), (Value.ref 250), (Value.int 531 0), (Value.int 143 0), (zs "/claim/cut.py" 532)])) #[])
noncomputable def zo_301 (P : Params) : Obj := (Obj.mk (Value.type "function") none (Data.func (zf 26 (zo "__init__") (zo "LocalIds.__init__") 3 [] Value.none Value.none Value.none (zs "quic.cids" 509) none (Value.ref 251) Value.none 0)) #[])
noncomputable def zo_302 (P : Params) : Obj := (Obj.mk (Value.type "tuple") none (Data.seq #[] 0) #[])
noncomputable def zo_303 (P : Params) : Obj := (Obj.mk Value.none none (Data.fields #[]) #[])
noncomputable def zo_304 (P : Params) : Obj := (Obj.mk Value.none none (Data.func (zf 27 (zo "kept_count") (zo "LocalIds.kept_count") 0 [] Value.none Value.none Value.none Value.none none Value.none Value.none 0)) #[])
noncomputable def zo_305 (P : Params) : Obj := (Obj.mk (Value.type "code") none (Data.fields (List.toArray [(zs "kept_count" 534), (zs "LocalIds.kept_count" 535), (zs "/claim/cut.py" 536), (Value.int 151 0), (Value.int 1 0), (Value.int 0 0), (Value.int 0 0), (Value.int 3 0), (Value.ref 253), (Value.bool true), (Value.int 181 0), (Value.ref 254), Value.none, Value.none, Value.none, (Value.ref 255), (Value.int 537 0), (Value.int 151 0), (zs "/claim/cut.py" 538)])) #[])
noncomputable def zo_306 (P : Params) : Obj := (Obj.mk (Value.type "function") none (Data.func (zf 27 (zo "kept_count") (zo "LocalIds.kept_count") 3 [] Value.none Value.none Value.none (zs "quic.cids" 509) none (Value.ref 256) Value.none 0)) #[])
noncomputable def zo_307 (P : Params) : Obj := (Obj.mk (Value.type "tuple") none (Data.seq #[] 0) #[])
noncomputable def zo_308 (P : Params) : Obj := (Obj.mk Value.none none (Data.fields #[]) #[])
noncomputable def zo_309 (P : Params) : Obj := (Obj.mk (Value.type "tuple") none (Data.seq (List.toArray [(zs "self" 543)]) 0) #[])
noncomputable def zo_310 (P : Params) : Obj := (Obj.mk (Value.type "tuple") none (Data.seq #[] 0) #[])
noncomputable def zo_311 (P : Params) : Obj := (Obj.mk Value.none none (Data.func (zf 28 (zo "may_issue") (zo "LocalIds.may_issue") 0 [] Value.none Value.none Value.none Value.none none Value.none Value.none 0)) #[])
noncomputable def zo_312 (P : Params) : Obj := (Obj.mk (Value.type "code") none (Data.fields (List.toArray [(zs "may_issue" 540), (zs "LocalIds.may_issue" 541), (zs "/claim/cut.py" 542), (Value.int 154 0), (Value.int 1 0), (Value.int 0 0), (Value.int 0 0), (Value.int 3 0), (Value.ref 258), (Value.bool true), (Value.int 181 0), (Value.ref 259), Value.none, (Value.ref 260), (Value.ref 261), (Value.ref 262), (Value.int 544 0), (Value.int 154 0), (zs "/claim/cut.py" 545)])) #[])
noncomputable def zo_313 (P : Params) : Obj := (Obj.mk (Value.type "function") none (Data.func (zf 28 (zo "may_issue") (zo "LocalIds.may_issue") 3 [] Value.none Value.none Value.none (zs "quic.cids" 509) none (Value.ref 263) Value.none 0)) #[])
noncomputable def zo_314 (P : Params) : Obj := (Obj.mk (Value.type "tuple") none (Data.seq #[] 0) #[])
noncomputable def zo_315 (P : Params) : Obj := (Obj.mk Value.none none (Data.fields #[]) #[])
noncomputable def zo_316 (P : Params) : Obj := (Obj.mk (Value.type "tuple") none (Data.seq (List.toArray [(zs "self" 550), (zs "cid" 551), (zs "token" 552), (zs "number" 553)]) 0) #[])
noncomputable def zo_317 (P : Params) : Obj := (Obj.mk (Value.type "tuple") none (Data.seq #[] 0) #[])
noncomputable def zo_318 (P : Params) : Obj := (Obj.mk Value.none none (Data.func (zf 29 (zo "issue") (zo "LocalIds.issue") 0 [] Value.none Value.none Value.none Value.none none Value.none Value.none 0)) #[])
noncomputable def zo_319 (P : Params) : Obj := (Obj.mk (Value.type "code") none (Data.fields (List.toArray [(zs "issue" 547), (zs "LocalIds.issue" 548), (zs "/claim/cut.py" 549), (Value.int 157 0), (Value.int 3 0), (Value.int 0 0), (Value.int 0 0), (Value.int 3 0), (Value.ref 265), (Value.bool true), (Value.int 181 0), (Value.ref 266), Value.none, (Value.ref 267), (Value.ref 268), (Value.ref 269), (Value.int 554 0), (Value.int 157 0), (zs "/claim/cut.py" 555)])) #[])
noncomputable def zo_320 (P : Params) : Obj := (Obj.mk (Value.type "function") none (Data.func (zf 29 (zo "issue") (zo "LocalIds.issue") 3 [] Value.none Value.none Value.none (zs "quic.cids" 509) none (Value.ref 270) Value.none 0)) #[])
noncomputable def zo_321 (P : Params) : Obj := (Obj.mk (Value.type "tuple") none (Data.seq #[] 0) #[])
noncomputable def zo_322 (P : Params) : Obj := (Obj.mk Value.none none (Data.fields #[]) #[])
noncomputable def zo_323 (P : Params) : Obj := (Obj.mk (Value.type "tuple") none (Data.seq (List.toArray [(zs "self" 560), (zs "prior" 561)]) 0) #[])
noncomputable def zo_324 (P : Params) : Obj := (Obj.mk (Value.type "tuple") none (Data.seq #[] 0) #[])
noncomputable def zo_325 (P : Params) : Obj := (Obj.mk Value.none none (Data.func (zf 30 (zo "ask_to_retire") (zo "LocalIds.ask_to_retire") 0 [] Value.none Value.none Value.none Value.none none Value.none Value.none 0)) #[])
noncomputable def zo_326 (P : Params) : Obj := (Obj.mk (Value.type "code") none (Data.fields (List.toArray [(zs "ask_to_retire" 557), (zs "LocalIds.ask_to_retire" 558), (zs "/claim/cut.py" 559), (Value.int 166 0), (Value.int 2 0), (Value.int 0 0), (Value.int 0 0), (Value.int 3 0), (Value.ref 272), (Value.bool true), (Value.int 181 0), (Value.ref 273), Value.none, (Value.ref 274), (Value.ref 275), (Value.ref 276), (Value.int 562 0), (Value.int 166 0), (zs "/claim/cut.py" 563)])) #[])
noncomputable def zo_327 (P : Params) : Obj := (Obj.mk (Value.type "function") none (Data.func (zf 30 (zo "ask_to_retire") (zo "LocalIds.ask_to_retire") 3 [] Value.none Value.none Value.none (zs "quic.cids" 509) none (Value.ref 277) Value.none 0)) #[])
noncomputable def zo_328 (P : Params) : Obj := (Obj.mk (Value.type "tuple") none (Data.seq #[] 0) #[])
noncomputable def zo_329 (P : Params) : Obj := (Obj.mk Value.none none (Data.fields #[]) #[])
noncomputable def zo_330 (P : Params) : Obj := (Obj.mk (Value.type "tuple") none (Data.seq (List.toArray [(zs "self" 568), (zs "number" 569), (zs "used" 570)]) 0) #[])
noncomputable def zo_331 (P : Params) : Obj := (Obj.mk (Value.type "tuple") none (Data.seq #[] 0) #[])
noncomputable def zo_332 (P : Params) : Obj := (Obj.mk Value.none none (Data.func (zf 31 (zo "on_retire") (zo "LocalIds.on_retire") 0 [] Value.none Value.none Value.none Value.none none Value.none Value.none 0)) #[])
noncomputable def zo_333 (P : Params) : Obj := (Obj.mk (Value.type "code") none (Data.fields (List.toArray [(zs "on_retire" 565), (zs "LocalIds.on_retire" 566), (zs "/claim/cut.py" 567), (Value.int 169 0), (Value.int 3 0), (Value.int 0 0), (Value.int 0 0), (Value.int 3 0), (Value.ref 279), (Value.bool true), (Value.int 181 0), (Value.ref 280), Value.none, (Value.ref 281), (Value.ref 282), (Value.ref 283), (Value.int 571 0), (Value.int 169 0), (zs "/claim/cut.py" 572)])) #[])
noncomputable def zo_334 (P : Params) : Obj := (Obj.mk (Value.type "function") none (Data.func (zf 31 (zo "on_retire") (zo "LocalIds.on_retire") 3 [] Value.none Value.none Value.none (zs "quic.cids" 509) none (Value.ref 284) Value.none 0)) #[])
noncomputable def zo_335 (P : Params) : Obj := (Obj.mk (Value.type "tuple") none (Data.seq #[] 0) #[])
noncomputable def zo_336 (P : Params) : Obj := (Obj.mk Value.none none (Data.fields #[]) #[])
noncomputable def zo_337 (P : Params) : Obj := (Obj.mk (Value.type "tuple") none (Data.seq (List.toArray [(zs "self" 577), (zs "cid" 578), (zs "number" 579)]) 0) #[])
noncomputable def zo_338 (P : Params) : Obj := (Obj.mk (Value.type "tuple") none (Data.seq #[] 0) #[])
noncomputable def zo_339 (P : Params) : Obj := (Obj.mk Value.none none (Data.func (zf 32 (zo "sequence_of") (zo "LocalIds.sequence_of") 0 [] Value.none Value.none Value.none Value.none none Value.none Value.none 0)) #[])
noncomputable def zo_340 (P : Params) : Obj := (Obj.mk (Value.type "code") none (Data.fields (List.toArray [(zs "sequence_of" 574), (zs "LocalIds.sequence_of" 575), (zs "/claim/cut.py" 576), (Value.int 178 0), (Value.int 2 0), (Value.int 0 0), (Value.int 0 0), (Value.int 3 0), (Value.ref 286), (Value.bool true), (Value.int 181 0), (Value.ref 287), Value.none, (Value.ref 288), (Value.ref 289), (Value.ref 290), (Value.int 580 0), (Value.int 178 0), (zs "/claim/cut.py" 581)])) #[])
noncomputable def zo_341 (P : Params) : Obj := (Obj.mk (Value.type "function") none (Data.func (zf 32 (zo "sequence_of") (zo "LocalIds.sequence_of") 3 [] Value.none Value.none Value.none (zs "quic.cids" 509) none (Value.ref 291) Value.none 0)) #[])
noncomputable def zo_342 (P : Params) : Obj := (Obj.mk (Value.type "tuple") none (Data.seq (List.toArray [(zs "ever" 583), (zs "is_empty" 584), (zs "issued" 585), (zs "limit" 586), (zs "next_sequence" 587), (zs "retire_prior" 588)]) 0) #[])
noncomputable def zo_343 (P : Params) : Obj := (Obj.mk (Value.type "dict") none (Data.dict (List.toArray [(ze P "__module__" 520 (zs "quic.cids" 509)), (ze P "__firstlineno__" 524 (Value.int 141 523)), (ze P "__init__" 533 (Value.ref 252)), (ze P "kept_count" 539 (Value.ref 257)), (ze P "may_issue" 546 (Value.ref 264)), (ze P "issue" 556 (Value.ref 271)), (ze P "ask_to_retire" 564 (Value.ref 278)), (ze P "on_retire" 573 (Value.ref 285)), (ze P "sequence_of" 582 (Value.ref 292)), (ze P "__static_attributes__" 589 (Value.ref 293)), (ze P "__dict__" 591 (Value.ref 296)), (ze P "__weakref__" 593 (Value.ref 297)), (ze P "__doc__" 594 Value.none)]) 4) #[])
noncomputable def zo_344 (P : Params) : Obj := (Obj.mk (Value.type "type") none (Data.cls (ClassData.mk (zo "LocalIds") [(Value.type "object")] [(Value.ref 295), (Value.type "object")] 294 (zo "LocalIds") true [] [] false none false)) (List.toArray [none, none, (Option.some (zs "LocalIds" 513)), (Option.some (zs "LocalIds" 521)), (Option.some (Value.builtin "object.__new__")), (Option.some (Value.bool true))]))
noncomputable def zo_345 (P : Params) : Obj := (Obj.mk (Value.type "getset_descriptor") none (Data.fields (List.toArray [(zs "__dict__" 590), (Value.ref 295), (Value.builtin "function.__dict__"), (Value.builtin "function.__dict__#set")])) #[])
noncomputable def zo_346 (P : Params) : Obj := (Obj.mk (Value.type "getset_descriptor") none (Data.fields (List.toArray [(zs "__weakref__" 592), (Value.ref 295), (Value.builtin "ExceptionGroup.__weakref__"), Value.none])) #[])
noncomputable def zo_347 (P : Params) : Obj := (Obj.mk (Value.type "super") none (Data.fields (List.toArray [(Value.ref 295), (Value.ref 295), (Value.ref 295)])) #[])
noncomputable def zo_348 (P : Params) : Obj := (Obj.mk (Value.type "builtin_function_or_method") none (Data.fields (List.toArray [(Value.builtin "object.__init_subclass__"), (Value.ref 295)])) #[])
noncomputable def zo_349 (P : Params) : Obj := (Obj.mk (Value.type "dict") none (Data.dict (List.toArray [(ze P "__name__" 165 (zs "quic.spaces" 657)), (ze P "__doc__" 166 Value.none), (ze P "__package__" 167 Value.none), (ze P "__loader__" 168 (Value.builtin "__main__.__loader__#opaque")), (ze P "__spec__" 169 Value.none), (ze P "__annotations__" 170 (Value.ref 6)), (ze P "__builtins__" 171 (Value.ref 4)), (ze P "__file__" 173 (zs "/claim/cut.py" 172)), (ze P "__cached__" 174 Value.none), (ze P "_wall" 193 (Value.ref 21)), (ze P "INITIAL_PACKETS" 197 (Value.int 10 196)), (ze P "INITIAL_OCTETS" 199 (Value.int 14720 198)), (ze P "LEAST_PACKETS" 201 (Value.int 2 200)), (ze P "initial_window" 208 (Value.ref 28)), (ze P "NewReno" 327 (Value.ref 115)), (ze P "INITIAL_RTT" 331 (Value.int 333000 330)), (ze P "without_delay" 340 (Value.ref 126)), (ze P "Rtt" 415 (Value.ref 179)), (ze P "begin_anew" 426 (Value.ref 190)), (ze P "renew_way" 435 (Value.ref 197)), (ze P "PROTOCOL_VIOLATION" 439 (Value.int 10 438)), (ze P "QuicError" 472 (Value.ref 214)), (ze P "NEW_TOKEN_TYPE" 476 (Value.int 7 475)), (ze P "is_for" 487 (Value.ref 224)), (ze P "take_answer" 496 (Value.ref 231)), (ze P "take_path_frame" 508 (Value.ref 238)), (ze P "FRAME_RETIRE" 512 (Value.int 25 511)), (ze P "LocalIds" 596 (Value.ref 295)), (ze P "MOST_IDS" 600 (Value.int 8 599)), (ze P "issue_ids" 610 (Value.ref 306)), (ze P "VERSION_NONE" 614 (Value.int 0 613)), (ze P "RawPacket" 656 (Value.ref 323))]) 32) #[])
noncomputable def zo_350 (P : Params) : Obj := (Obj.mk Value.none none (Data.fields (List.toArray [(Value.int 1 0), (Value.int 0 0), (Value.ref 20), (Value.int 8 0), (Value.int 0 0), (Value.ref 27), (Value.int 10 0), (Value.int 0 0), (Value.ref 34), (Value.int 51 0), (Value.int 0 0), (Value.ref 125), (Value.int 53 0), (Value.int 0 0), (Value.ref 132), (Value.int 91 0), (Value.int 0 0), (Value.ref 189), (Value.int 95 0), (Value.int 0 0), (Value.ref 196), (Value.int 102 0), (Value.int 0 0), (Value.ref 203), (Value.int 111 0), (Value.int 0 0), (Value.ref 223), (Value.int 121 0), (Value.int 0 0), (Value.ref 230), (Value.int 124 0), (Value.int 0 0), (Value.ref 237), (Value.int 141 0), (Value.int 0 0), (Value.ref 244), (Value.int 185 0), (Value.int 0 0), (Value.ref 305), (Value.int 197 0), (Value.int 0 0), (Value.ref 312)])) #[])
noncomputable def zo_351 (P : Params) : Obj := (Obj.mk (Value.type "tuple") none (Data.seq #[] 0) #[])
noncomputable def zo_352 (P : Params) : Obj := (Obj.mk Value.none none (Data.fields #[]) #[])
noncomputable def zo_353 (P : Params) : Obj := (Obj.mk (Value.type "tuple") none (Data.seq (List.toArray [(zs "conn" 604), (zs "address" 605), (zs "number" 606), (zs "frame" 607)]) 0) #[])
noncomputable def zo_354 (P : Params) : Obj := (Obj.mk (Value.type "tuple") none (Data.seq #[] 0) #[])
noncomputable def zo_355 (P : Params) : Obj := (Obj.mk Value.none none (Data.func (zf 33 (zo "issue_ids") (zo "issue_ids") 0 [] Value.none Value.none Value.none Value.none none Value.none Value.none 0)) #[])
noncomputable def zo_356 (P : Params) : Obj := (Obj.mk (Value.type "code") none (Data.fields (List.toArray [(zs "issue_ids" 601), (zs "issue_ids" 602), (zs "/claim/cut.py" 603), (Value.int 185 0), (Value.int 1 0), (Value.int 0 0), (Value.int 0 0), (Value.int 3 0), (Value.ref 300), (Value.bool true), (Value.int 181 0), (Value.ref 301), Value.none, (Value.ref 302), (Value.ref 303), (Value.ref 304), (Value.int 608 0), (Value.int 185 0), (zs "/claim/cut.py" 609)])) #[])
noncomputable def zo_357 (P : Params) : Obj := (Obj.mk (Value.type "function") none (Data.func (zf 33 (zo "issue_ids") (zo "issue_ids") 3 [] Value.none Value.none Value.none (zs "quic.connshake" 597) none (Value.ref 305) Value.none 0)) #[])
noncomputable def zo_358 (P : Params) : Obj := (Obj.mk (Value.type "tuple") none (Data.seq #[] 0) #[])
noncomputable def zo_359 (P : Params) : Obj := (Obj.mk (Value.type "builtin_function_or_method") none (Data.fields (List.toArray [(Value.builtin "type.__prepare__"), (Value.type "type")])) #[])
noncomputable def zo_360 (P : Params) : Obj := (Obj.mk (Value.type "dict") none (Data.dict (List.toArray [(ze P "__module__" 622 (zs "quic.longheads" 611)), (ze P "__qualname__" 624 (zs "RawPacket" 623)), (ze P "__firstlineno__" 626 (Value.int 197 625)), (ze P "__init__" 637 (Value.ref 320)), (ze P "__static_attributes__" 649 (Value.ref 321))]) 5) #[])
noncomputable def zo_361 (P : Params) : Obj := (Obj.mk (Value.type "tuple") none (Data.seq #[] 0) #[])
noncomputable def zo_362 (P : Params) : Obj := (Obj.mk Value.none none (Data.fields (List.toArray [(Value.int 199 0), (Value.int 4 0), (Value.ref 319)])) #[])
noncomputable def zo_363 (P : Params) : Obj := (Obj.mk (Value.type "code") none (Data.fields (List.toArray [(zs "RawPacket" 617), (zs "RawPacket" 618), (zs "/claim/cut.py" 619), (Value.int 197 0), (Value.int 0 0), (Value.int 0 0), (Value.int 0 0), (Value.int 0 0), (Value.ref 310), (Value.bool false), (Value.int 181 0), (Value.ref 311), Value.none, Value.none, Value.none, Value.none, (Value.int 620 0), (Value.int 197 0), (zs "/claim/cut.py" 621)])) #[])
noncomputable def zo_364 (P : Params) : Obj := (Obj.mk (Value.type "frame") none Data.plain (List.toArray [(Option.some (Value.ref 312)), (Option.some (Value.ref 3)), (Option.some (Value.ref 309)), none, (Option.some (zs "quic.longheads" 611)), none, (Option.some (Value.ref 0))]))
noncomputable def zo_365 (P : Params) : Obj := (Obj.mk (Value.type "tuple") none (Data.seq #[] 0) #[])
noncomputable def zo_366 (P : Params) : Obj := (Obj.mk Value.none none (Data.fields #[]) #[])
noncomputable def zo_367 (P : Params) : Obj := (Obj.mk (Value.type "tuple") none (Data.seq (List.toArray [(zs "self" 630), (zs "kind" 631), (zs "first" 632), (zs "dcid" 633), (zs "start" 634)]) 0) #[])
noncomputable def zo_368 (P : Params) : Obj := (Obj.mk (Value.type "tuple") none (Data.seq #[] 0) #[])
noncomputable def zo_369 (P : Params) : Obj := (Obj.mk Value.none none (Data.func (zf 34 (zo "__init__") (zo "RawPacket.__init__") 0 [] Value.none Value.none Value.none Value.none none Value.none Value.none 0)) #[])
noncomputable def zo_370 (P : Params) : Obj := (Obj.mk (Value.type "code") none (Data.fields (List.toArray [(zs "__init__" 627), (zs "RawPacket.__init__" 628), (zs "/claim/cut.py" 629), (Value.int 199 0), (Value.int 5 0), (Value.int 0 0), (Value.int 0 0), (Value.int 3 0), (Value.ref 314), (Value.bool true), (Value.int 181 0), (Value.ref 315), Value.none, (Value.ref 316), (Value.ref 317), (Value.ref 318), (Value.int 635 0), (Value.int 199 0), (zs "/claim/cut.py" 636)])) #[])
noncomputable def zo_371 (P : Params) : Obj := (Obj.mk (Value.type "function") none (Data.func (zf 34 (zo "__init__") (zo "RawPacket.__init__") 3 [] Value.none Value.none Value.none (zs "quic.longheads" 611) none (Value.ref 319) Value.none 0)) #[])
noncomputable def zo_372 (P : Params) : Obj := (Obj.mk (Value.type "tuple") none (Data.seq (List.toArray [(zs "dcid" 638), (zs "end" 639), (zs "first" 640), (zs "kind" 641), (zs "number_at" 642), (zs "scid" 643), (zs "start" 644), (zs "tag" 645), (zs "token" 646), (zs "version" 647), (zs "versions" 648)]) 0) #[])
noncomputable def zo_373 (P : Params) : Obj := (Obj.mk (Value.type "dict") none (Data.dict (List.toArray [(ze P "__module__" 622 (zs "quic.longheads" 611)), (ze P "__firstlineno__" 626 (Value.int 197 625)), (ze P "__init__" 637 (Value.ref 320)), (ze P "__static_attributes__" 649 (Value.ref 321)), (ze P "__dict__" 651 (Value.ref 324)), (ze P "__weakref__" 653 (Value.ref 325)), (ze P "__doc__" 654 Value.none)]) 4) #[])
noncomputable def zo_374 (P : Params) : Obj := (Obj.mk (Value.type "type") none (Data.cls (ClassData.mk (zo "RawPacket") [(Value.type "object")] [(Value.ref 323), (Value.type "object")] 322 (zo "RawPacket") true [] [] false none false)) (List.toArray [none, none, (Option.some (zs "RawPacket" 615)), (Option.some (zs "RawPacket" 623)), (Option.some (Value.builtin "object.__new__")), (Option.some (Value.bool true))]))
noncomputable def zo_375 (P : Params) : Obj := (Obj.mk (Value.type "getset_descriptor") none (Data.fields (List.toArray [(zs "__dict__" 650), (Value.ref 323), (Value.builtin "function.__dict__"), (Value.builtin "function.__dict__#set")])) #[])
noncomputable def zo_376 (P : Params) : Obj := (Obj.mk (Value.type "getset_descriptor") none (Data.fields (List.toArray [(zs "__weakref__" 652), (Value.ref 323), (Value.builtin "ExceptionGroup.__weakref__"), Value.none])) #[])
noncomputable def zo_377 (P : Params) : Obj := (Obj.mk (Value.type "super") none (Data.fields (List.toArray [(Value.ref 323), (Value.ref 323), (Value.ref 323)])) #[])
noncomputable def zo_378 (P : Params) : Obj := (Obj.mk (Value.type "builtin_function_or_method") none (Data.fields (List.toArray [(Value.builtin "object.__init_subclass__"), (Value.ref 323)])) #[])
noncomputable def zo_379 (P : Params) : Obj := (Obj.mk (Value.type "dict") none (Data.dict (List.toArray [(ze P "__name__" 165 (zs "quic.spaces" 657)), (ze P "__doc__" 166 Value.none), (ze P "__package__" 167 Value.none), (ze P "__loader__" 168 (Value.builtin "__main__.__loader__#opaque")), (ze P "__spec__" 169 Value.none), (ze P "__annotations__" 170 (Value.ref 6)), (ze P "__builtins__" 171 (Value.ref 4)), (ze P "__file__" 173 (zs "/claim/cut.py" 172)), (ze P "__cached__" 174 Value.none), (ze P "_wall" 193 (Value.ref 21)), (ze P "INITIAL_PACKETS" 197 (Value.int 10 196)), (ze P "INITIAL_OCTETS" 199 (Value.int 14720 198)), (ze P "LEAST_PACKETS" 201 (Value.int 2 200)), (ze P "initial_window" 208 (Value.ref 28)), (ze P "NewReno" 327 (Value.ref 115)), (ze P "INITIAL_RTT" 331 (Value.int 333000 330)), (ze P "without_delay" 340 (Value.ref 126)), (ze P "Rtt" 415 (Value.ref 179)), (ze P "begin_anew" 426 (Value.ref 190)), (ze P "renew_way" 435 (Value.ref 197)), (ze P "PROTOCOL_VIOLATION" 439 (Value.int 10 438)), (ze P "QuicError" 472 (Value.ref 214)), (ze P "NEW_TOKEN_TYPE" 476 (Value.int 7 475)), (ze P "is_for" 487 (Value.ref 224)), (ze P "take_answer" 496 (Value.ref 231)), (ze P "take_path_frame" 508 (Value.ref 238)), (ze P "FRAME_RETIRE" 512 (Value.int 25 511)), (ze P "LocalIds" 596 (Value.ref 295)), (ze P "MOST_IDS" 600 (Value.int 8 599)), (ze P "issue_ids" 610 (Value.ref 306)), (ze P "VERSION_NONE" 614 (Value.int 0 613)), (ze P "RawPacket" 656 (Value.ref 323)), (ze P "Space" 846 (Value.ref 470))]) 33) #[])
noncomputable def zo_380 (P : Params) : Obj := (Obj.mk Value.none none (Data.fields (List.toArray [(Value.int 1 0), (Value.int 0 0), (Value.ref 20), (Value.int 8 0), (Value.int 0 0), (Value.ref 27), (Value.int 10 0), (Value.int 0 0), (Value.ref 34), (Value.int 51 0), (Value.int 0 0), (Value.ref 125), (Value.int 53 0), (Value.int 0 0), (Value.ref 132), (Value.int 91 0), (Value.int 0 0), (Value.ref 189), (Value.int 95 0), (Value.int 0 0), (Value.ref 196), (Value.int 102 0), (Value.int 0 0), (Value.ref 203), (Value.int 111 0), (Value.int 0 0), (Value.ref 223), (Value.int 121 0), (Value.int 0 0), (Value.ref 230), (Value.int 124 0), (Value.int 0 0), (Value.ref 237), (Value.int 141 0), (Value.int 0 0), (Value.ref 244), (Value.int 185 0), (Value.int 0 0), (Value.ref 305), (Value.int 197 0), (Value.int 0 0), (Value.ref 312), (Value.int 212 0), (Value.int 0 0), (Value.ref 333)])) #[])
noncomputable def zo_381 (P : Params) : Obj := (Obj.mk (Value.type "tuple") none (Data.seq #[] 0) #[])
noncomputable def zo_382 (P : Params) : Obj := (Obj.mk (Value.type "builtin_function_or_method") none (Data.fields (List.toArray [(Value.builtin "type.__prepare__"), (Value.type "type")])) #[])
noncomputable def zo_383 (P : Params) : Obj := (Obj.mk (Value.type "dict") none (Data.dict (List.toArray [(ze P "__module__" 666 (zs "quic.spaces" 657)), (ze P "__qualname__" 668 (zs "Space" 667)), (ze P "__firstlineno__" 670 (Value.int 212 669)), (ze P "__init__" 678 (Value.ref 341)), (ze P "is_known" 686 (Value.ref 348)), (ze P "on_received" 697 (Value.ref 355)), (ze P "ack_frame" 706 (Value.ref 362)), (ze P "on_ack_sent" 713 (Value.ref 369)), (ze P "owes_ack" 720 (Value.ref 376)), (ze P "take_number" 727 (Value.ref 383)), (ze P "on_sent" 738 (Value.ref 390)), (ze P "take" 746 (Value.ref 397)), (ze P "acked_by" 754 (Value.ref 404)), (ze P "note_acked" 762 (Value.ref 411)), (ze P "note_ranges" 770 (Value.ref 418)), (ze P "is_beyond" 778 (Value.ref 425)), (ze P "note_largest" 786 (Value.ref 432)), (ze P "eliciting_left" 793 (Value.ref 439)), (ze P "bare_numbers" 800 (Value.ref 446)), (ze P "octets_out" 807 (Value.ref 453)), (ze P "sent_rows" 814 (Value.ref 460)), (ze P "forget" 821 (Value.ref 467)), (ze P "__static_attributes__" 839 (Value.ref 468))]) 23) #[])
noncomputable def zo_384 (P : Params) : Obj := (Obj.mk (Value.type "tuple") none (Data.seq #[] 0) #[])
noncomputable def zo_385 (P : Params) : Obj := (Obj.mk Value.none none (Data.fields (List.toArray [(Value.int 214 0), (Value.int 4 0), (Value.ref 340), (Value.int 233 0), (Value.int 4 0), (Value.ref 347), (Value.int 236 0), (Value.int 4 0), (Value.ref 354), (Value.int 239 0), (Value.int 4 0), (Value.ref 361), (Value.int 242 0), (Value.int 4 0), (Value.ref 368), (Value.int 245 0), (Value.int 4 0), (Value.ref 375), (Value.int 248 0), (Value.int 4 0), (Value.ref 382), (Value.int 251 0), (Value.int 4 0), (Value.ref 389), (Value.int 254 0), (Value.int 4 0), (Value.ref 396), (Value.int 257 0), (Value.int 4 0), (Value.ref 403), (Value.int 260 0), (Value.int 4 0), (Value.ref 410), (Value.int 263 0), (Value.int 4 0), (Value.ref 417), (Value.int 266 0), (Value.int 4 0), (Value.ref 424), (Value.int 269 0), (Value.int 4 0), (Value.ref 431), (Value.int 272 0), (Value.int 4 0), (Value.ref 438), (Value.int 275 0), (Value.int 4 0), (Value.ref 445), (Value.int 278 0), (Value.int 4 0), (Value.ref 452), (Value.int 281 0), (Value.int 4 0), (Value.ref 459), (Value.int 284 0), (Value.int 4 0), (Value.ref 466)])) #[])
noncomputable def zo_386 (P : Params) : Obj := (Obj.mk (Value.type "code") none (Data.fields (List.toArray [(zs "Space" 661), (zs "Space" 662), (zs "/claim/cut.py" 663), (Value.int 212 0), (Value.int 0 0), (Value.int 0 0), (Value.int 0 0), (Value.int 0 0), (Value.ref 331), (Value.bool false), (Value.int 181 0), (Value.ref 332), Value.none, Value.none, Value.none, Value.none, (Value.int 664 0), (Value.int 212 0), (zs "/claim/cut.py" 665)])) #[])
noncomputable def zo_387 (P : Params) : Obj := (Obj.mk (Value.type "frame") none Data.plain (List.toArray [(Option.some (Value.ref 333)), (Option.some (Value.ref 3)), (Option.some (Value.ref 330)), none, (Option.some (zs "quic.spaces" 657)), none, (Option.some (Value.ref 0))]))
noncomputable def zo_388 (P : Params) : Obj := (Obj.mk (Value.type "tuple") none (Data.seq #[] 0) #[])
noncomputable def zo_389 (P : Params) : Obj := (Obj.mk Value.none none (Data.fields #[]) #[])
noncomputable def zo_390 (P : Params) : Obj := (Obj.mk (Value.type "tuple") none (Data.seq (List.toArray [(zs "self" 674), (zs "name" 675)]) 0) #[])
noncomputable def zo_391 (P : Params) : Obj := (Obj.mk (Value.type "tuple") none (Data.seq #[] 0) #[])
noncomputable def zo_392 (P : Params) : Obj := (Obj.mk Value.none none (Data.func (zf 35 (zo "__init__") (zo "Space.__init__") 0 [] Value.none Value.none Value.none Value.none none Value.none Value.none 0)) #[])
noncomputable def zo_393 (P : Params) : Obj := (Obj.mk (Value.type "code") none (Data.fields (List.toArray [(zs "__init__" 671), (zs "Space.__init__" 672), (zs "/claim/cut.py" 673), (Value.int 214 0), (Value.int 2 0), (Value.int 0 0), (Value.int 0 0), (Value.int 3 0), (Value.ref 335), (Value.bool true), (Value.int 181 0), (Value.ref 336), Value.none, (Value.ref 337), (Value.ref 338), (Value.ref 339), (Value.int 676 0), (Value.int 214 0), (zs "/claim/cut.py" 677)])) #[])
noncomputable def zo_394 (P : Params) : Obj := (Obj.mk (Value.type "function") none (Data.func (zf 35 (zo "__init__") (zo "Space.__init__") 3 [] Value.none Value.none Value.none (zs "quic.spaces" 657) none (Value.ref 340) Value.none 0)) #[])
noncomputable def zo_395 (P : Params) : Obj := (Obj.mk (Value.type "tuple") none (Data.seq #[] 0) #[])
noncomputable def zo_396 (P : Params) : Obj := (Obj.mk Value.none none (Data.fields #[]) #[])
noncomputable def zo_397 (P : Params) : Obj := (Obj.mk (Value.type "tuple") none (Data.seq (List.toArray [(zs "self" 682), (zs "number" 683)]) 0) #[])
noncomputable def zo_398 (P : Params) : Obj := (Obj.mk (Value.type "tuple") none (Data.seq #[] 0) #[])
noncomputable def zo_399 (P : Params) : Obj := (Obj.mk Value.none none (Data.func (zf 36 (zo "is_known") (zo "Space.is_known") 0 [] Value.none Value.none Value.none Value.none none Value.none Value.none 0)) #[])
noncomputable def zo_400 (P : Params) : Obj := (Obj.mk (Value.type "code") none (Data.fields (List.toArray [(zs "is_known" 679), (zs "Space.is_known" 680), (zs "/claim/cut.py" 681), (Value.int 233 0), (Value.int 2 0), (Value.int 0 0), (Value.int 0 0), (Value.int 3 0), (Value.ref 342), (Value.bool true), (Value.int 181 0), (Value.ref 343), Value.none, (Value.ref 344), (Value.ref 345), (Value.ref 346), (Value.int 684 0), (Value.int 233 0), (zs "/claim/cut.py" 685)])) #[])
noncomputable def zo_401 (P : Params) : Obj := (Obj.mk (Value.type "function") none (Data.func (zf 36 (zo "is_known") (zo "Space.is_known") 3 [] Value.none Value.none Value.none (zs "quic.spaces" 657) none (Value.ref 347) Value.none 0)) #[])
noncomputable def zo_402 (P : Params) : Obj := (Obj.mk (Value.type "tuple") none (Data.seq #[] 0) #[])
noncomputable def zo_403 (P : Params) : Obj := (Obj.mk Value.none none (Data.fields #[]) #[])
noncomputable def zo_404 (P : Params) : Obj := (Obj.mk (Value.type "tuple") none (Data.seq (List.toArray [(zs "self" 690), (zs "number" 691), (zs "now" 692), (zs "has_eliciting" 693), (zs "mark" 694)]) 0) #[])
noncomputable def zo_405 (P : Params) : Obj := (Obj.mk (Value.type "tuple") none (Data.seq #[] 0) #[])
noncomputable def zo_406 (P : Params) : Obj := (Obj.mk Value.none none (Data.func (zf 37 (zo "on_received") (zo "Space.on_received") 0 [] Value.none Value.none Value.none Value.none none Value.none Value.none 0)) #[])
noncomputable def zo_407 (P : Params) : Obj := (Obj.mk (Value.type "code") none (Data.fields (List.toArray [(zs "on_received" 687), (zs "Space.on_received" 688), (zs "/claim/cut.py" 689), (Value.int 236 0), (Value.int 5 0), (Value.int 0 0), (Value.int 0 0), (Value.int 3 0), (Value.ref 349), (Value.bool true), (Value.int 181 0), (Value.ref 350), Value.none, (Value.ref 351), (Value.ref 352), (Value.ref 353), (Value.int 695 0), (Value.int 236 0), (zs "/claim/cut.py" 696)])) #[])
noncomputable def zo_408 (P : Params) : Obj := (Obj.mk (Value.type "function") none (Data.func (zf 37 (zo "on_received") (zo "Space.on_received") 3 [] Value.none Value.none Value.none (zs "quic.spaces" 657) none (Value.ref 354) Value.none 0)) #[])
noncomputable def zo_409 (P : Params) : Obj := (Obj.mk (Value.type "tuple") none (Data.seq #[] 0) #[])
noncomputable def zo_410 (P : Params) : Obj := (Obj.mk Value.none none (Data.fields #[]) #[])
noncomputable def zo_411 (P : Params) : Obj := (Obj.mk (Value.type "tuple") none (Data.seq (List.toArray [(zs "self" 701), (zs "now" 702), (zs "exponent" 703)]) 0) #[])
noncomputable def zo_412 (P : Params) : Obj := (Obj.mk (Value.type "tuple") none (Data.seq #[] 0) #[])
noncomputable def zo_413 (P : Params) : Obj := (Obj.mk Value.none none (Data.func (zf 38 (zo "ack_frame") (zo "Space.ack_frame") 0 [] Value.none Value.none Value.none Value.none none Value.none Value.none 0)) #[])
noncomputable def zo_414 (P : Params) : Obj := (Obj.mk (Value.type "code") none (Data.fields (List.toArray [(zs "ack_frame" 698), (zs "Space.ack_frame" 699), (zs "/claim/cut.py" 700), (Value.int 239 0), (Value.int 3 0), (Value.int 0 0), (Value.int 0 0), (Value.int 3 0), (Value.ref 356), (Value.bool true), (Value.int 181 0), (Value.ref 357), Value.none, (Value.ref 358), (Value.ref 359), (Value.ref 360), (Value.int 704 0), (Value.int 239 0), (zs "/claim/cut.py" 705)])) #[])
noncomputable def zo_415 (P : Params) : Obj := (Obj.mk (Value.type "function") none (Data.func (zf 38 (zo "ack_frame") (zo "Space.ack_frame") 3 [] Value.none Value.none Value.none (zs "quic.spaces" 657) none (Value.ref 361) Value.none 0)) #[])
noncomputable def zo_416 (P : Params) : Obj := (Obj.mk (Value.type "tuple") none (Data.seq #[] 0) #[])
noncomputable def zo_417 (P : Params) : Obj := (Obj.mk Value.none none (Data.fields #[]) #[])
noncomputable def zo_418 (P : Params) : Obj := (Obj.mk (Value.type "tuple") none (Data.seq (List.toArray [(zs "self" 710)]) 0) #[])
noncomputable def zo_419 (P : Params) : Obj := (Obj.mk (Value.type "tuple") none (Data.seq #[] 0) #[])
noncomputable def zo_420 (P : Params) : Obj := (Obj.mk Value.none none (Data.func (zf 39 (zo "on_ack_sent") (zo "Space.on_ack_sent") 0 [] Value.none Value.none Value.none Value.none none Value.none Value.none 0)) #[])
noncomputable def zo_421 (P : Params) : Obj := (Obj.mk (Value.type "code") none (Data.fields (List.toArray [(zs "on_ack_sent" 707), (zs "Space.on_ack_sent" 708), (zs "/claim/cut.py" 709), (Value.int 242 0), (Value.int 1 0), (Value.int 0 0), (Value.int 0 0), (Value.int 3 0), (Value.ref 363), (Value.bool true), (Value.int 181 0), (Value.ref 364), Value.none, (Value.ref 365), (Value.ref 366), (Value.ref 367), (Value.int 711 0), (Value.int 242 0), (zs "/claim/cut.py" 712)])) #[])
noncomputable def zo_422 (P : Params) : Obj := (Obj.mk (Value.type "function") none (Data.func (zf 39 (zo "on_ack_sent") (zo "Space.on_ack_sent") 3 [] Value.none Value.none Value.none (zs "quic.spaces" 657) none (Value.ref 368) Value.none 0)) #[])
noncomputable def zo_423 (P : Params) : Obj := (Obj.mk (Value.type "tuple") none (Data.seq #[] 0) #[])
noncomputable def zo_424 (P : Params) : Obj := (Obj.mk Value.none none (Data.fields #[]) #[])
noncomputable def zo_425 (P : Params) : Obj := (Obj.mk (Value.type "tuple") none (Data.seq (List.toArray [(zs "self" 717)]) 0) #[])
noncomputable def zo_426 (P : Params) : Obj := (Obj.mk (Value.type "tuple") none (Data.seq #[] 0) #[])
noncomputable def zo_427 (P : Params) : Obj := (Obj.mk Value.none none (Data.func (zf 40 (zo "owes_ack") (zo "Space.owes_ack") 0 [] Value.none Value.none Value.none Value.none none Value.none Value.none 0)) #[])
noncomputable def zo_428 (P : Params) : Obj := (Obj.mk (Value.type "code") none (Data.fields (List.toArray [(zs "owes_ack" 714), (zs "Space.owes_ack" 715), (zs "/claim/cut.py" 716), (Value.int 245 0), (Value.int 1 0), (Value.int 0 0), (Value.int 0 0), (Value.int 3 0), (Value.ref 370), (Value.bool true), (Value.int 181 0), (Value.ref 371), Value.none, (Value.ref 372), (Value.ref 373), (Value.ref 374), (Value.int 718 0), (Value.int 245 0), (zs "/claim/cut.py" 719)])) #[])
noncomputable def zo_429 (P : Params) : Obj := (Obj.mk (Value.type "function") none (Data.func (zf 40 (zo "owes_ack") (zo "Space.owes_ack") 3 [] Value.none Value.none Value.none (zs "quic.spaces" 657) none (Value.ref 375) Value.none 0)) #[])
noncomputable def zo_430 (P : Params) : Obj := (Obj.mk (Value.type "tuple") none (Data.seq #[] 0) #[])
noncomputable def zo_431 (P : Params) : Obj := (Obj.mk Value.none none (Data.fields #[]) #[])
noncomputable def zo_432 (P : Params) : Obj := (Obj.mk (Value.type "tuple") none (Data.seq (List.toArray [(zs "self" 724)]) 0) #[])
noncomputable def zo_433 (P : Params) : Obj := (Obj.mk (Value.type "tuple") none (Data.seq #[] 0) #[])
noncomputable def zo_434 (P : Params) : Obj := (Obj.mk Value.none none (Data.func (zf 41 (zo "take_number") (zo "Space.take_number") 0 [] Value.none Value.none Value.none Value.none none Value.none Value.none 0)) #[])
noncomputable def zo_435 (P : Params) : Obj := (Obj.mk (Value.type "code") none (Data.fields (List.toArray [(zs "take_number" 721), (zs "Space.take_number" 722), (zs "/claim/cut.py" 723), (Value.int 248 0), (Value.int 1 0), (Value.int 0 0), (Value.int 0 0), (Value.int 3 0), (Value.ref 377), (Value.bool true), (Value.int 181 0), (Value.ref 378), Value.none, (Value.ref 379), (Value.ref 380), (Value.ref 381), (Value.int 725 0), (Value.int 248 0), (zs "/claim/cut.py" 726)])) #[])
noncomputable def zo_436 (P : Params) : Obj := (Obj.mk (Value.type "function") none (Data.func (zf 41 (zo "take_number") (zo "Space.take_number") 3 [] Value.none Value.none Value.none (zs "quic.spaces" 657) none (Value.ref 382) Value.none 0)) #[])
noncomputable def zo_437 (P : Params) : Obj := (Obj.mk (Value.type "tuple") none (Data.seq #[] 0) #[])
noncomputable def zo_438 (P : Params) : Obj := (Obj.mk Value.none none (Data.fields #[]) #[])
noncomputable def zo_439 (P : Params) : Obj := (Obj.mk (Value.type "tuple") none (Data.seq (List.toArray [(zs "self" 731), (zs "number" 732), (zs "now" 733), (zs "size" 734), (zs "frames" 735)]) 0) #[])
noncomputable def zo_440 (P : Params) : Obj := (Obj.mk (Value.type "tuple") none (Data.seq #[] 0) #[])
noncomputable def zo_441 (P : Params) : Obj := (Obj.mk Value.none none (Data.func (zf 42 (zo "on_sent") (zo "Space.on_sent") 0 [] Value.none Value.none Value.none Value.none none Value.none Value.none 0)) #[])
noncomputable def zo_442 (P : Params) : Obj := (Obj.mk (Value.type "code") none (Data.fields (List.toArray [(zs "on_sent" 728), (zs "Space.on_sent" 729), (zs "/claim/cut.py" 730), (Value.int 251 0), (Value.int 5 0), (Value.int 0 0), (Value.int 0 0), (Value.int 3 0), (Value.ref 384), (Value.bool true), (Value.int 181 0), (Value.ref 385), Value.none, (Value.ref 386), (Value.ref 387), (Value.ref 388), (Value.int 736 0), (Value.int 251 0), (zs "/claim/cut.py" 737)])) #[])
noncomputable def zo_443 (P : Params) : Obj := (Obj.mk (Value.type "function") none (Data.func (zf 42 (zo "on_sent") (zo "Space.on_sent") 3 [] Value.none Value.none Value.none (zs "quic.spaces" 657) none (Value.ref 389) Value.none 0)) #[])
noncomputable def zo_444 (P : Params) : Obj := (Obj.mk (Value.type "tuple") none (Data.seq #[] 0) #[])
noncomputable def zo_445 (P : Params) : Obj := (Obj.mk Value.none none (Data.fields #[]) #[])
noncomputable def zo_446 (P : Params) : Obj := (Obj.mk (Value.type "tuple") none (Data.seq (List.toArray [(zs "self" 742), (zs "numbers" 743)]) 0) #[])
noncomputable def zo_447 (P : Params) : Obj := (Obj.mk (Value.type "tuple") none (Data.seq #[] 0) #[])
noncomputable def zo_448 (P : Params) : Obj := (Obj.mk Value.none none (Data.func (zf 43 (zo "take") (zo "Space.take") 0 [] Value.none Value.none Value.none Value.none none Value.none Value.none 0)) #[])
noncomputable def zo_449 (P : Params) : Obj := (Obj.mk (Value.type "code") none (Data.fields (List.toArray [(zs "take" 739), (zs "Space.take" 740), (zs "/claim/cut.py" 741), (Value.int 254 0), (Value.int 2 0), (Value.int 0 0), (Value.int 0 0), (Value.int 3 0), (Value.ref 391), (Value.bool true), (Value.int 181 0), (Value.ref 392), Value.none, (Value.ref 393), (Value.ref 394), (Value.ref 395), (Value.int 744 0), (Value.int 254 0), (zs "/claim/cut.py" 745)])) #[])
noncomputable def zo_450 (P : Params) : Obj := (Obj.mk (Value.type "function") none (Data.func (zf 43 (zo "take") (zo "Space.take") 3 [] Value.none Value.none Value.none (zs "quic.spaces" 657) none (Value.ref 396) Value.none 0)) #[])
noncomputable def zo_451 (P : Params) : Obj := (Obj.mk (Value.type "tuple") none (Data.seq #[] 0) #[])
noncomputable def zo_452 (P : Params) : Obj := (Obj.mk Value.none none (Data.fields #[]) #[])
noncomputable def zo_453 (P : Params) : Obj := (Obj.mk (Value.type "tuple") none (Data.seq (List.toArray [(zs "self" 750), (zs "ranges" 751)]) 0) #[])
noncomputable def zo_454 (P : Params) : Obj := (Obj.mk (Value.type "tuple") none (Data.seq #[] 0) #[])
noncomputable def zo_455 (P : Params) : Obj := (Obj.mk Value.none none (Data.func (zf 44 (zo "acked_by") (zo "Space.acked_by") 0 [] Value.none Value.none Value.none Value.none none Value.none Value.none 0)) #[])
noncomputable def zo_456 (P : Params) : Obj := (Obj.mk (Value.type "code") none (Data.fields (List.toArray [(zs "acked_by" 747), (zs "Space.acked_by" 748), (zs "/claim/cut.py" 749), (Value.int 257 0), (Value.int 2 0), (Value.int 0 0), (Value.int 0 0), (Value.int 3 0), (Value.ref 398), (Value.bool true), (Value.int 181 0), (Value.ref 399), Value.none, (Value.ref 400), (Value.ref 401), (Value.ref 402), (Value.int 752 0), (Value.int 257 0), (zs "/claim/cut.py" 753)])) #[])
noncomputable def zo_457 (P : Params) : Obj := (Obj.mk (Value.type "function") none (Data.func (zf 44 (zo "acked_by") (zo "Space.acked_by") 3 [] Value.none Value.none Value.none (zs "quic.spaces" 657) none (Value.ref 403) Value.none 0)) #[])
noncomputable def zo_458 (P : Params) : Obj := (Obj.mk (Value.type "tuple") none (Data.seq #[] 0) #[])
noncomputable def zo_459 (P : Params) : Obj := (Obj.mk Value.none none (Data.fields #[]) #[])
noncomputable def zo_460 (P : Params) : Obj := (Obj.mk (Value.type "tuple") none (Data.seq (List.toArray [(zs "self" 758), (zs "numbers" 759)]) 0) #[])
noncomputable def zo_461 (P : Params) : Obj := (Obj.mk (Value.type "tuple") none (Data.seq #[] 0) #[])
noncomputable def zo_462 (P : Params) : Obj := (Obj.mk Value.none none (Data.func (zf 45 (zo "note_acked") (zo "Space.note_acked") 0 [] Value.none Value.none Value.none Value.none none Value.none Value.none 0)) #[])
noncomputable def zo_463 (P : Params) : Obj := (Obj.mk (Value.type "code") none (Data.fields (List.toArray [(zs "note_acked" 755), (zs "Space.note_acked" 756), (zs "/claim/cut.py" 757), (Value.int 260 0), (Value.int 2 0), (Value.int 0 0), (Value.int 0 0), (Value.int 3 0), (Value.ref 405), (Value.bool true), (Value.int 181 0), (Value.ref 406), Value.none, (Value.ref 407), (Value.ref 408), (Value.ref 409), (Value.int 760 0), (Value.int 260 0), (zs "/claim/cut.py" 761)])) #[])
noncomputable def zo_464 (P : Params) : Obj := (Obj.mk (Value.type "function") none (Data.func (zf 45 (zo "note_acked") (zo "Space.note_acked") 3 [] Value.none Value.none Value.none (zs "quic.spaces" 657) none (Value.ref 410) Value.none 0)) #[])
noncomputable def zo_465 (P : Params) : Obj := (Obj.mk (Value.type "tuple") none (Data.seq #[] 0) #[])
noncomputable def zo_466 (P : Params) : Obj := (Obj.mk Value.none none (Data.fields #[]) #[])
noncomputable def zo_467 (P : Params) : Obj := (Obj.mk (Value.type "tuple") none (Data.seq (List.toArray [(zs "self" 766), (zs "ranges" 767)]) 0) #[])
noncomputable def zo_468 (P : Params) : Obj := (Obj.mk (Value.type "tuple") none (Data.seq #[] 0) #[])
noncomputable def zo_469 (P : Params) : Obj := (Obj.mk Value.none none (Data.func (zf 46 (zo "note_ranges") (zo "Space.note_ranges") 0 [] Value.none Value.none Value.none Value.none none Value.none Value.none 0)) #[])
noncomputable def zo_470 (P : Params) : Obj := (Obj.mk (Value.type "code") none (Data.fields (List.toArray [(zs "note_ranges" 763), (zs "Space.note_ranges" 764), (zs "/claim/cut.py" 765), (Value.int 263 0), (Value.int 2 0), (Value.int 0 0), (Value.int 0 0), (Value.int 3 0), (Value.ref 412), (Value.bool true), (Value.int 181 0), (Value.ref 413), Value.none, (Value.ref 414), (Value.ref 415), (Value.ref 416), (Value.int 768 0), (Value.int 263 0), (zs "/claim/cut.py" 769)])) #[])
noncomputable def zo_471 (P : Params) : Obj := (Obj.mk (Value.type "function") none (Data.func (zf 46 (zo "note_ranges") (zo "Space.note_ranges") 3 [] Value.none Value.none Value.none (zs "quic.spaces" 657) none (Value.ref 417) Value.none 0)) #[])
noncomputable def zo_472 (P : Params) : Obj := (Obj.mk (Value.type "tuple") none (Data.seq #[] 0) #[])
noncomputable def zo_473 (P : Params) : Obj := (Obj.mk Value.none none (Data.fields #[]) #[])
noncomputable def zo_474 (P : Params) : Obj := (Obj.mk (Value.type "tuple") none (Data.seq (List.toArray [(zs "self" 774), (zs "ranges" 775)]) 0) #[])
noncomputable def zo_475 (P : Params) : Obj := (Obj.mk (Value.type "tuple") none (Data.seq #[] 0) #[])
noncomputable def zo_476 (P : Params) : Obj := (Obj.mk Value.none none (Data.func (zf 47 (zo "is_beyond") (zo "Space.is_beyond") 0 [] Value.none Value.none Value.none Value.none none Value.none Value.none 0)) #[])
noncomputable def zo_477 (P : Params) : Obj := (Obj.mk (Value.type "code") none (Data.fields (List.toArray [(zs "is_beyond" 771), (zs "Space.is_beyond" 772), (zs "/claim/cut.py" 773), (Value.int 266 0), (Value.int 2 0), (Value.int 0 0), (Value.int 0 0), (Value.int 3 0), (Value.ref 419), (Value.bool true), (Value.int 181 0), (Value.ref 420), Value.none, (Value.ref 421), (Value.ref 422), (Value.ref 423), (Value.int 776 0), (Value.int 266 0), (zs "/claim/cut.py" 777)])) #[])
noncomputable def zo_478 (P : Params) : Obj := (Obj.mk (Value.type "function") none (Data.func (zf 47 (zo "is_beyond") (zo "Space.is_beyond") 3 [] Value.none Value.none Value.none (zs "quic.spaces" 657) none (Value.ref 424) Value.none 0)) #[])
noncomputable def zo_479 (P : Params) : Obj := (Obj.mk (Value.type "tuple") none (Data.seq #[] 0) #[])
noncomputable def zo_480 (P : Params) : Obj := (Obj.mk Value.none none (Data.fields #[]) #[])
noncomputable def zo_481 (P : Params) : Obj := (Obj.mk (Value.type "tuple") none (Data.seq (List.toArray [(zs "self" 782), (zs "number" 783)]) 0) #[])
noncomputable def zo_482 (P : Params) : Obj := (Obj.mk (Value.type "tuple") none (Data.seq #[] 0) #[])
noncomputable def zo_483 (P : Params) : Obj := (Obj.mk Value.none none (Data.func (zf 48 (zo "note_largest") (zo "Space.note_largest") 0 [] Value.none Value.none Value.none Value.none none Value.none Value.none 0)) #[])
noncomputable def zo_484 (P : Params) : Obj := (Obj.mk (Value.type "code") none (Data.fields (List.toArray [(zs "note_largest" 779), (zs "Space.note_largest" 780), (zs "/claim/cut.py" 781), (Value.int 269 0), (Value.int 2 0), (Value.int 0 0), (Value.int 0 0), (Value.int 3 0), (Value.ref 426), (Value.bool true), (Value.int 181 0), (Value.ref 427), Value.none, (Value.ref 428), (Value.ref 429), (Value.ref 430), (Value.int 784 0), (Value.int 269 0), (zs "/claim/cut.py" 785)])) #[])
noncomputable def zo_485 (P : Params) : Obj := (Obj.mk (Value.type "function") none (Data.func (zf 48 (zo "note_largest") (zo "Space.note_largest") 3 [] Value.none Value.none Value.none (zs "quic.spaces" 657) none (Value.ref 431) Value.none 0)) #[])
noncomputable def zo_486 (P : Params) : Obj := (Obj.mk (Value.type "tuple") none (Data.seq #[] 0) #[])
noncomputable def zo_487 (P : Params) : Obj := (Obj.mk Value.none none (Data.fields #[]) #[])
noncomputable def zo_488 (P : Params) : Obj := (Obj.mk (Value.type "tuple") none (Data.seq (List.toArray [(zs "self" 790)]) 0) #[])
noncomputable def zo_489 (P : Params) : Obj := (Obj.mk (Value.type "tuple") none (Data.seq #[] 0) #[])
noncomputable def zo_490 (P : Params) : Obj := (Obj.mk Value.none none (Data.func (zf 49 (zo "eliciting_left") (zo "Space.eliciting_left") 0 [] Value.none Value.none Value.none Value.none none Value.none Value.none 0)) #[])
noncomputable def zo_491 (P : Params) : Obj := (Obj.mk (Value.type "code") none (Data.fields (List.toArray [(zs "eliciting_left" 787), (zs "Space.eliciting_left" 788), (zs "/claim/cut.py" 789), (Value.int 272 0), (Value.int 1 0), (Value.int 0 0), (Value.int 0 0), (Value.int 3 0), (Value.ref 433), (Value.bool true), (Value.int 181 0), (Value.ref 434), Value.none, (Value.ref 435), (Value.ref 436), (Value.ref 437), (Value.int 791 0), (Value.int 272 0), (zs "/claim/cut.py" 792)])) #[])
noncomputable def zo_492 (P : Params) : Obj := (Obj.mk (Value.type "function") none (Data.func (zf 49 (zo "eliciting_left") (zo "Space.eliciting_left") 3 [] Value.none Value.none Value.none (zs "quic.spaces" 657) none (Value.ref 438) Value.none 0)) #[])
noncomputable def zo_493 (P : Params) : Obj := (Obj.mk (Value.type "tuple") none (Data.seq #[] 0) #[])
noncomputable def zo_494 (P : Params) : Obj := (Obj.mk Value.none none (Data.fields #[]) #[])
noncomputable def zo_495 (P : Params) : Obj := (Obj.mk (Value.type "tuple") none (Data.seq (List.toArray [(zs "self" 797)]) 0) #[])
noncomputable def zo_496 (P : Params) : Obj := (Obj.mk (Value.type "tuple") none (Data.seq #[] 0) #[])
noncomputable def zo_497 (P : Params) : Obj := (Obj.mk Value.none none (Data.func (zf 50 (zo "bare_numbers") (zo "Space.bare_numbers") 0 [] Value.none Value.none Value.none Value.none none Value.none Value.none 0)) #[])
noncomputable def zo_498 (P : Params) : Obj := (Obj.mk (Value.type "code") none (Data.fields (List.toArray [(zs "bare_numbers" 794), (zs "Space.bare_numbers" 795), (zs "/claim/cut.py" 796), (Value.int 275 0), (Value.int 1 0), (Value.int 0 0), (Value.int 0 0), (Value.int 3 0), (Value.ref 440), (Value.bool true), (Value.int 181 0), (Value.ref 441), Value.none, (Value.ref 442), (Value.ref 443), (Value.ref 444), (Value.int 798 0), (Value.int 275 0), (zs "/claim/cut.py" 799)])) #[])
noncomputable def zo_499 (P : Params) : Obj := (Obj.mk (Value.type "function") none (Data.func (zf 50 (zo "bare_numbers") (zo "Space.bare_numbers") 3 [] Value.none Value.none Value.none (zs "quic.spaces" 657) none (Value.ref 445) Value.none 0)) #[])
noncomputable def zo_500 (P : Params) : Obj := (Obj.mk (Value.type "tuple") none (Data.seq #[] 0) #[])
noncomputable def zo_501 (P : Params) : Obj := (Obj.mk Value.none none (Data.fields #[]) #[])
noncomputable def zo_502 (P : Params) : Obj := (Obj.mk (Value.type "tuple") none (Data.seq (List.toArray [(zs "self" 804)]) 0) #[])
noncomputable def zo_503 (P : Params) : Obj := (Obj.mk (Value.type "tuple") none (Data.seq #[] 0) #[])
noncomputable def zo_504 (P : Params) : Obj := (Obj.mk Value.none none (Data.func (zf 51 (zo "octets_out") (zo "Space.octets_out") 0 [] Value.none Value.none Value.none Value.none none Value.none Value.none 0)) #[])
noncomputable def zo_505 (P : Params) : Obj := (Obj.mk (Value.type "code") none (Data.fields (List.toArray [(zs "octets_out" 801), (zs "Space.octets_out" 802), (zs "/claim/cut.py" 803), (Value.int 278 0), (Value.int 1 0), (Value.int 0 0), (Value.int 0 0), (Value.int 3 0), (Value.ref 447), (Value.bool true), (Value.int 181 0), (Value.ref 448), Value.none, (Value.ref 449), (Value.ref 450), (Value.ref 451), (Value.int 805 0), (Value.int 278 0), (zs "/claim/cut.py" 806)])) #[])
noncomputable def zo_506 (P : Params) : Obj := (Obj.mk (Value.type "function") none (Data.func (zf 51 (zo "octets_out") (zo "Space.octets_out") 3 [] Value.none Value.none Value.none (zs "quic.spaces" 657) none (Value.ref 452) Value.none 0)) #[])
noncomputable def zo_507 (P : Params) : Obj := (Obj.mk (Value.type "tuple") none (Data.seq #[] 0) #[])
noncomputable def zo_508 (P : Params) : Obj := (Obj.mk Value.none none (Data.fields #[]) #[])
noncomputable def zo_509 (P : Params) : Obj := (Obj.mk (Value.type "tuple") none (Data.seq (List.toArray [(zs "self" 811)]) 0) #[])
noncomputable def zo_510 (P : Params) : Obj := (Obj.mk (Value.type "tuple") none (Data.seq #[] 0) #[])
noncomputable def zo_511 (P : Params) : Obj := (Obj.mk Value.none none (Data.func (zf 52 (zo "sent_rows") (zo "Space.sent_rows") 0 [] Value.none Value.none Value.none Value.none none Value.none Value.none 0)) #[])
noncomputable def zo_512 (P : Params) : Obj := (Obj.mk (Value.type "code") none (Data.fields (List.toArray [(zs "sent_rows" 808), (zs "Space.sent_rows" 809), (zs "/claim/cut.py" 810), (Value.int 281 0), (Value.int 1 0), (Value.int 0 0), (Value.int 0 0), (Value.int 3 0), (Value.ref 454), (Value.bool true), (Value.int 181 0), (Value.ref 455), Value.none, (Value.ref 456), (Value.ref 457), (Value.ref 458), (Value.int 812 0), (Value.int 281 0), (zs "/claim/cut.py" 813)])) #[])
noncomputable def zo_513 (P : Params) : Obj := (Obj.mk (Value.type "function") none (Data.func (zf 52 (zo "sent_rows") (zo "Space.sent_rows") 3 [] Value.none Value.none Value.none (zs "quic.spaces" 657) none (Value.ref 459) Value.none 0)) #[])
noncomputable def zo_514 (P : Params) : Obj := (Obj.mk (Value.type "tuple") none (Data.seq #[] 0) #[])
noncomputable def zo_515 (P : Params) : Obj := (Obj.mk Value.none none (Data.fields #[]) #[])
noncomputable def zo_516 (P : Params) : Obj := (Obj.mk (Value.type "tuple") none (Data.seq (List.toArray [(zs "self" 818)]) 0) #[])
noncomputable def zo_517 (P : Params) : Obj := (Obj.mk (Value.type "tuple") none (Data.seq #[] 0) #[])
noncomputable def zo_518 (P : Params) : Obj := (Obj.mk Value.none none (Data.func (zf 53 (zo "forget") (zo "Space.forget") 0 [] Value.none Value.none Value.none Value.none none Value.none Value.none 0)) #[])
noncomputable def zo_519 (P : Params) : Obj := (Obj.mk (Value.type "code") none (Data.fields (List.toArray [(zs "forget" 815), (zs "Space.forget" 816), (zs "/claim/cut.py" 817), (Value.int 284 0), (Value.int 1 0), (Value.int 0 0), (Value.int 0 0), (Value.int 3 0), (Value.ref 461), (Value.bool true), (Value.int 181 0), (Value.ref 462), Value.none, (Value.ref 463), (Value.ref 464), (Value.ref 465), (Value.int 819 0), (Value.int 284 0), (zs "/claim/cut.py" 820)])) #[])
noncomputable def zo_520 (P : Params) : Obj := (Obj.mk (Value.type "function") none (Data.func (zf 53 (zo "forget") (zo "Space.forget") 3 [] Value.none Value.none Value.none (zs "quic.spaces" 657) none (Value.ref 466) Value.none 0)) #[])
noncomputable def zo_521 (P : Params) : Obj := (Obj.mk (Value.type "tuple") none (Data.seq (List.toArray [(zs "acked" 822), (zs "ecn" 823), (zs "first_unacked" 824), (zs "floor" 825), (zs "has_new" 826), (zs "is_gone" 827), (zs "largest_acked" 828), (zs "largest_seen" 829), (zs "largest_time" 830), (zs "last_eliciting_time" 831), (zs "loss_time" 832), (zs "name" 833), (zs "next_number" 834), (zs "received" 835), (zs "sent" 836), (zs "unacked" 837), (zs "wants_now" 838)]) 0) #[])
noncomputable def zo_522 (P : Params) : Obj := (Obj.mk (Value.type "dict") none (Data.dict (List.toArray [(ze P "__module__" 666 (zs "quic.spaces" 657)), (ze P "__firstlineno__" 670 (Value.int 212 669)), (ze P "__init__" 678 (Value.ref 341)), (ze P "is_known" 686 (Value.ref 348)), (ze P "on_received" 697 (Value.ref 355)), (ze P "ack_frame" 706 (Value.ref 362)), (ze P "on_ack_sent" 713 (Value.ref 369)), (ze P "owes_ack" 720 (Value.ref 376)), (ze P "take_number" 727 (Value.ref 383)), (ze P "on_sent" 738 (Value.ref 390)), (ze P "take" 746 (Value.ref 397)), (ze P "acked_by" 754 (Value.ref 404)), (ze P "note_acked" 762 (Value.ref 411)), (ze P "note_ranges" 770 (Value.ref 418)), (ze P "is_beyond" 778 (Value.ref 425)), (ze P "note_largest" 786 (Value.ref 432)), (ze P "eliciting_left" 793 (Value.ref 439)), (ze P "bare_numbers" 800 (Value.ref 446)), (ze P "octets_out" 807 (Value.ref 453)), (ze P "sent_rows" 814 (Value.ref 460)), (ze P "forget" 821 (Value.ref 467)), (ze P "__static_attributes__" 839 (Value.ref 468)), (ze P "__dict__" 841 (Value.ref 471)), (ze P "__weakref__" 843 (Value.ref 472)), (ze P "__doc__" 844 Value.none)]) 4) #[])
noncomputable def zo_523 (P : Params) : Obj := (Obj.mk (Value.type "type") none (Data.cls (ClassData.mk (zo "Space") [(Value.type "object")] [(Value.ref 470), (Value.type "object")] 469 (zo "Space") true [] [] false none false)) (List.toArray [none, none, (Option.some (zs "Space" 659)), (Option.some (zs "Space" 667)), (Option.some (Value.builtin "object.__new__")), (Option.some (Value.bool true))]))
noncomputable def zo_524 (P : Params) : Obj := (Obj.mk (Value.type "getset_descriptor") none (Data.fields (List.toArray [(zs "__dict__" 840), (Value.ref 470), (Value.builtin "function.__dict__"), (Value.builtin "function.__dict__#set")])) #[])
noncomputable def zo_525 (P : Params) : Obj := (Obj.mk (Value.type "getset_descriptor") none (Data.fields (List.toArray [(zs "__weakref__" 842), (Value.ref 470), (Value.builtin "ExceptionGroup.__weakref__"), Value.none])) #[])
noncomputable def zo_526 (P : Params) : Obj := (Obj.mk (Value.type "super") none (Data.fields (List.toArray [(Value.ref 470), (Value.ref 470), (Value.ref 470)])) #[])
noncomputable def zo_527 (P : Params) : Obj := (Obj.mk (Value.type "builtin_function_or_method") none (Data.fields (List.toArray [(Value.builtin "object.__init_subclass__"), (Value.ref 470)])) #[])
noncomputable def zo_616 (P : Params) : Obj := (Obj.mk (Value.type "dict") none (Data.dict (List.toArray [(ze P "__name__" 165 (zs "law_rg0255_01" 847)), (ze P "__doc__" 166 Value.none), (ze P "__package__" 167 Value.none), (ze P "__loader__" 168 (Value.builtin "__main__.__loader__#opaque")), (ze P "__spec__" 169 Value.none), (ze P "__annotations__" 170 (Value.ref 6)), (ze P "__builtins__" 171 (Value.ref 4)), (ze P "__file__" 173 (zs "/claim/cut.py" 172)), (ze P "__cached__" 174 Value.none), (ze P "_wall" 193 (Value.ref 21)), (ze P "INITIAL_PACKETS" 197 (Value.int 10 196)), (ze P "INITIAL_OCTETS" 199 (Value.int 14720 198)), (ze P "LEAST_PACKETS" 201 (Value.int 2 200)), (ze P "initial_window" 208 (Value.ref 28)), (ze P "NewReno" 327 (Value.ref 115)), (ze P "INITIAL_RTT" 331 (Value.int 333000 330)), (ze P "without_delay" 340 (Value.ref 126)), (ze P "Rtt" 415 (Value.ref 179)), (ze P "begin_anew" 426 (Value.ref 190)), (ze P "renew_way" 435 (Value.ref 197)), (ze P "PROTOCOL_VIOLATION" 439 (Value.int 10 438)), (ze P "QuicError" 472 (Value.ref 214)), (ze P "NEW_TOKEN_TYPE" 476 (Value.int 7 475)), (ze P "is_for" 487 (Value.ref 224)), (ze P "take_answer" 496 (Value.ref 231)), (ze P "take_path_frame" 508 (Value.ref 238)), (ze P "FRAME_RETIRE" 512 (Value.int 25 511)), (ze P "LocalIds" 596 (Value.ref 295)), (ze P "MOST_IDS" 600 (Value.int 8 599)), (ze P "issue_ids" 610 (Value.ref 306)), (ze P "VERSION_NONE" 614 (Value.int 0 613)), (ze P "RawPacket" 656 (Value.ref 323)), (ze P "Space" 846 (Value.ref 470)), (ze P "_law_take" 856 (Value.ref 481)), (ze P "_law_state" 867 (Value.ref 488)), (ze P "_law_for_right" 882 (Value.ref 495)), (ze P "_law_retired_right" 888 (Value.ref 500)), (ze P "law" 897 (Value.ref 507))]) 38) #[])
noncomputable def zo_617 (P : Params) : Obj := (Obj.mk Value.none none (Data.fields (List.toArray [(Value.int 1 0), (Value.int 0 0), (Value.ref 20), (Value.int 8 0), (Value.int 0 0), (Value.ref 27), (Value.int 10 0), (Value.int 0 0), (Value.ref 34), (Value.int 51 0), (Value.int 0 0), (Value.ref 125), (Value.int 53 0), (Value.int 0 0), (Value.ref 132), (Value.int 91 0), (Value.int 0 0), (Value.ref 189), (Value.int 95 0), (Value.int 0 0), (Value.ref 196), (Value.int 102 0), (Value.int 0 0), (Value.ref 203), (Value.int 111 0), (Value.int 0 0), (Value.ref 223), (Value.int 121 0), (Value.int 0 0), (Value.ref 230), (Value.int 124 0), (Value.int 0 0), (Value.ref 237), (Value.int 141 0), (Value.int 0 0), (Value.ref 244), (Value.int 185 0), (Value.int 0 0), (Value.ref 305), (Value.int 197 0), (Value.int 0 0), (Value.ref 312), (Value.int 212 0), (Value.int 0 0), (Value.ref 333), (Value.int 287 0), (Value.int 0 0), (Value.ref 480), (Value.int 292 0), (Value.int 0 0), (Value.ref 487), (Value.int 300 0), (Value.int 0 0), (Value.ref 494), (Value.int 313 0), (Value.int 0 0), (Value.ref 499), (Value.int 334 0), (Value.int 0 0), (Value.ref 506)])) #[])
noncomputable def zo_618 (P : Params) : Obj := (Obj.mk (Value.type "tuple") none (Data.seq #[] 0) #[])
noncomputable def zo_619 (P : Params) : Obj := (Obj.mk Value.none none (Data.fields #[]) #[])
noncomputable def zo_620 (P : Params) : Obj := (Obj.mk (Value.type "tuple") none (Data.seq (List.toArray [(zs "box" 852), (zs "many" 853)]) 0) #[])
noncomputable def zo_621 (P : Params) : Obj := (Obj.mk (Value.type "tuple") none (Data.seq #[] 0) #[])
noncomputable def zo_622 (P : Params) : Obj := (Obj.mk Value.none none (Data.func (zf 54 (zo "_law_take") (zo "_law_take") 0 [] Value.none Value.none Value.none Value.none none Value.none Value.none 0)) #[])
noncomputable def zo_623 (P : Params) : Obj := (Obj.mk (Value.type "code") none (Data.fields (List.toArray [(zs "_law_take" 849), (zs "_law_take" 850), (zs "/claim/cut.py" 851), (Value.int 287 0), (Value.int 2 0), (Value.int 0 0), (Value.int 0 0), (Value.int 3 0), (Value.ref 475), (Value.bool true), (Value.int 181 0), (Value.ref 476), Value.none, (Value.ref 477), (Value.ref 478), (Value.ref 479), (Value.int 854 0), (Value.int 287 0), (zs "/claim/cut.py" 855)])) #[])
noncomputable def zo_624 (P : Params) : Obj := (Obj.mk (Value.type "function") none (Data.func (zf 54 (zo "_law_take") (zo "_law_take") 3 [] Value.none Value.none Value.none (zs "law_rg0255_01" 847) none (Value.ref 480) Value.none 0)) #[])
noncomputable def zo_625 (P : Params) : Obj := (Obj.mk (Value.type "tuple") none (Data.seq #[] 0) #[])
noncomputable def zo_626 (P : Params) : Obj := (Obj.mk Value.none none (Data.fields #[]) #[])
noncomputable def zo_627 (P : Params) : Obj := (Obj.mk (Value.type "tuple") none (Data.seq (List.toArray [(zs "is_client" 860), (zs "limit" 861), (zs "conn" 862), (zs "number" 863)]) 0) #[])
noncomputable def zo_628 (P : Params) : Obj := (Obj.mk (Value.type "tuple") none (Data.seq (List.toArray [(zs "is_client" 864)]) 0) #[])
noncomputable def zo_629 (P : Params) : Obj := (Obj.mk Value.none none (Data.func (zf 55 (zo "_law_state") (zo "_law_state") 0 [] Value.none Value.none Value.none Value.none none Value.none Value.none 0)) #[])
noncomputable def zo_630 (P : Params) : Obj := (Obj.mk (Value.type "code") none (Data.fields (List.toArray [(zs "_law_state" 857), (zs "_law_state" 858), (zs "/claim/cut.py" 859), (Value.int 292 0), (Value.int 2 0), (Value.int 0 0), (Value.int 0 0), (Value.int 3 0), (Value.ref 482), (Value.bool true), (Value.int 181 0), (Value.ref 483), Value.none, (Value.ref 484), (Value.ref 485), (Value.ref 486), (Value.int 865 0), (Value.int 292 0), (zs "/claim/cut.py" 866)])) #[])
noncomputable def zo_631 (P : Params) : Obj := (Obj.mk (Value.type "function") none (Data.func (zf 55 (zo "_law_state") (zo "_law_state") 3 [] Value.none Value.none Value.none (zs "law_rg0255_01" 847) none (Value.ref 487) Value.none 0)) #[])
noncomputable def zo_632 (P : Params) : Obj := (Obj.mk (Value.type "tuple") none (Data.seq #[] 0) #[])
noncomputable def zo_633 (P : Params) : Obj := (Obj.mk Value.none none (Data.fields #[]) #[])
noncomputable def zo_634 (P : Params) : Obj := (Obj.mk (Value.type "tuple") none (Data.seq (List.toArray [(zs "box" 871), (zs "is_client" 872), (zs "conn" 873), (zs "kind" 874), (zs "to" 875), (zs "source" 876), (zs "raw" 877), (zs "size" 878), (zs "due" 879)]) 0) #[])
noncomputable def zo_635 (P : Params) : Obj := (Obj.mk (Value.type "tuple") none (Data.seq #[] 0) #[])
noncomputable def zo_636 (P : Params) : Obj := (Obj.mk Value.none none (Data.func (zf 56 (zo "_law_for_right") (zo "_law_for_right") 0 [] Value.none Value.none Value.none Value.none none Value.none Value.none 0)) #[])
noncomputable def zo_637 (P : Params) : Obj := (Obj.mk (Value.type "code") none (Data.fields (List.toArray [(zs "_law_for_right" 868), (zs "_law_for_right" 869), (zs "/claim/cut.py" 870), (Value.int 300 0), (Value.int 1 0), (Value.int 0 0), (Value.int 0 0), (Value.int 3 0), (Value.ref 489), (Value.bool true), (Value.int 181 0), (Value.ref 490), Value.none, (Value.ref 491), (Value.ref 492), (Value.ref 493), (Value.int 880 0), (Value.int 300 0), (zs "/claim/cut.py" 881)])) #[])
noncomputable def zo_638 (P : Params) : Obj := (Obj.mk (Value.type "function") none (Data.func (zf 56 (zo "_law_for_right") (zo "_law_for_right") 3 [] Value.none Value.none Value.none (zs "law_rg0255_01" 847) none (Value.ref 494) Value.none 0)) #[])
noncomputable def zo_639 (P : Params) : Obj := (Obj.mk (Value.type "tuple") none (Data.seq #[] 0) #[])
noncomputable def zo_640 (P : Params) : Obj := (Obj.mk Value.none none (Data.fields #[]) #[])
noncomputable def zo_641 (P : Params) : Obj := (Obj.mk Value.none none (Data.func (zf 57 (zo "_law_retired_right") (zo "_law_retired_right") 0 [] Value.none Value.none Value.none Value.none none Value.none Value.none 0)) #[])
noncomputable def zo_642 (P : Params) : Obj := (Obj.mk (Value.type "code") none (Data.fields (List.toArray [(zs "_law_retired_right" 883), (zs "_law_retired_right" 884), (zs "/claim/cut.py" 885), (Value.int 313 0), (Value.int 1 0), (Value.int 0 0), (Value.int 0 0), (Value.int 3 0), (Value.ref 496), (Value.bool true), (Value.int 181 0), (Value.ref 497), Value.none, Value.none, Value.none, (Value.ref 498), (Value.int 886 0), (Value.int 313 0), (zs "/claim/cut.py" 887)])) #[])
noncomputable def zo_643 (P : Params) : Obj := (Obj.mk (Value.type "function") none (Data.func (zf 57 (zo "_law_retired_right") (zo "_law_retired_right") 3 [] Value.none Value.none Value.none (zs "law_rg0255_01" 847) none (Value.ref 499) Value.none 0)) #[])
noncomputable def zo_644 (P : Params) : Obj := (Obj.mk (Value.type "tuple") none (Data.seq #[] 0) #[])
noncomputable def zo_645 (P : Params) : Obj := (Obj.mk Value.none none (Data.fields #[]) #[])
noncomputable def zo_646 (P : Params) : Obj := (Obj.mk (Value.type "tuple") none (Data.seq (List.toArray [(zs "script" 892), (zs "box" 893), (zs "turn" 894)]) 0) #[])
noncomputable def zo_647 (P : Params) : Obj := (Obj.mk (Value.type "tuple") none (Data.seq #[] 0) #[])
noncomputable def zo_648 (P : Params) : Obj := (Obj.mk Value.none none (Data.func (zf 58 (zo "law") (zo "law") 0 [] Value.none Value.none Value.none Value.none none Value.none Value.none 0)) #[])
noncomputable def zo_649 (P : Params) : Obj := (Obj.mk (Value.type "code") none (Data.fields (List.toArray [(zs "law" 889), (zs "law" 890), (zs "/claim/cut.py" 891), (Value.int 334 0), (Value.int 1 0), (Value.int 0 0), (Value.int 0 0), (Value.int 3 0), (Value.ref 501), (Value.bool true), (Value.int 181 0), (Value.ref 502), Value.none, (Value.ref 503), (Value.ref 504), (Value.ref 505), (Value.int 895 0), (Value.int 334 0), (zs "/claim/cut.py" 896)])) #[])
noncomputable def zo_650 (P : Params) : Obj := (Obj.mk (Value.type "function") none (Data.func (zf 58 (zo "law") (zo "law") 3 [] Value.none Value.none Value.none (zs "law_rg0255_01" 847) none (Value.ref 506) Value.none 0)) #[])
noncomputable def hd.heap_39 : Params → Frag := fun P => (nat_lit 2, zo_226 P) :: (nat_lit 3, zo_616 P) :: (nat_lit 15, zo_647 P) :: (nat_lit 17, zo_53 P) :: (nat_lit 18, zo_647 P) :: (nat_lit 20, zo_56 P) :: (nat_lit 21, zo_57 P) :: (nat_lit 22, zo_647 P) :: (nat_lit 24, zo_60 P) :: (nat_lit 25, zo_647 P) :: (nat_lit 27, zo_63 P) :: (nat_lit 28, zo_64 P) :: (nat_lit 36, zo_647 P) :: (nat_lit 38, zo_76 P) :: (nat_lit 39, zo_647 P) :: (nat_lit 41, zo_79 P) :: (nat_lit 42, zo_80 P) :: (nat_lit 43, zo_647 P) :: (nat_lit 45, zo_83 P) :: (nat_lit 46, zo_647 P) :: (nat_lit 48, zo_86 P) :: (nat_lit 49, zo_87 P) :: (nat_lit 50, zo_647 P) :: (nat_lit 52, zo_90 P) :: (nat_lit 53, zo_647 P) :: (nat_lit 55, zo_93 P) :: (nat_lit 56, zo_94 P) :: (nat_lit 57, zo_647 P) :: (nat_lit 59, zo_97 P) :: (nat_lit 60, zo_647 P) :: (nat_lit 62, zo_100 P) :: (nat_lit 63, zo_101 P) :: (nat_lit 64, zo_647 P) :: (nat_lit 66, zo_104 P) :: (nat_lit 67, zo_647 P) :: (nat_lit 69, zo_107 P) :: (nat_lit 70, zo_108 P) :: (nat_lit 71, zo_647 P) :: (nat_lit 73, zo_111 P) :: (nat_lit 74, zo_647 P) :: (nat_lit 76, zo_114 P) :: (nat_lit 77, zo_115 P) :: (nat_lit 78, zo_647 P) :: (nat_lit 80, zo_118 P) :: (nat_lit 81, zo_647 P) :: (nat_lit 83, zo_121 P) :: (nat_lit 84, zo_122 P) :: (nat_lit 85, zo_647 P) :: (nat_lit 87, zo_125 P) :: (nat_lit 88, zo_647 P) :: (nat_lit 90, zo_128 P) :: (nat_lit 91, zo_129 P) :: (nat_lit 92, zo_647 P) :: (nat_lit 94, zo_132 P) :: (nat_lit 95, zo_647 P) :: (nat_lit 97, zo_135 P) :: (nat_lit 98, zo_136 P) :: (nat_lit 99, zo_647 P) :: (nat_lit 101, zo_139 P) :: (nat_lit 102, zo_647 P) :: (nat_lit 104, zo_142 P) :: (nat_lit 105, zo_143 P) :: (nat_lit 106, zo_647 P) :: (nat_lit 108, zo_146 P) :: (nat_lit 109, zo_647 P) :: (nat_lit 111, zo_149 P) :: (nat_lit 112, zo_150 P) :: (nat_lit 113, zo_151 P) :: (nat_lit 114, zo_152 P) :: (nat_lit 115, zo_153 P) :: (nat_lit 116, zo_154 P) :: (nat_lit 117, zo_155 P) :: (nat_lit 120, zo_647 P) :: (nat_lit 122, zo_162 P) :: (nat_lit 123, zo_647 P) :: (nat_lit 125, zo_165 P) :: (nat_lit 126, zo_166 P) :: (nat_lit 134, zo_176 P) :: (nat_lit 135, zo_647 P) :: (nat_lit 137, zo_179 P) :: (nat_lit 138, zo_647 P) :: (nat_lit 140, zo_182 P) :: (nat_lit 141, zo_183 P) :: (nat_lit 142, zo_647 P) :: (nat_lit 144, zo_186 P) :: (nat_lit 145, zo_647 P) :: (nat_lit 147, zo_189 P) :: (nat_lit 148, zo_190 P) :: (nat_lit 149, zo_647 P) :: (nat_lit 151, zo_193 P) :: (nat_lit 152, zo_647 P) :: (nat_lit 154, zo_196 P) :: (nat_lit 155, zo_197 P) :: (nat_lit 156, zo_647 P) :: (nat_lit 158, zo_200 P) :: (nat_lit 159, zo_647 P) :: (nat_lit 161, zo_203 P) :: (nat_lit 162, zo_204 P) :: (nat_lit 163, zo_647 P) :: (nat_lit 165, zo_207 P) :: (nat_lit 166, zo_647 P) :: (nat_lit 168, zo_210 P) :: (nat_lit 169, zo_211 P) :: (nat_lit 170, zo_647 P) :: (nat_lit 172, zo_214 P) :: (nat_lit 173, zo_647 P) :: (nat_lit 175, zo_217 P) :: (nat_lit 176, zo_218 P) :: (nat_lit 177, zo_219 P) :: (nat_lit 178, zo_220 P) :: (nat_lit 179, zo_221 P) :: (nat_lit 180, zo_222 P) :: (nat_lit 181, zo_223 P) :: (nat_lit 184, zo_647 P) :: (nat_lit 186, zo_231 P) :: (nat_lit 187, zo_647 P) :: (nat_lit 189, zo_234 P) :: (nat_lit 190, zo_235 P) :: (nat_lit 191, zo_647 P) :: (nat_lit 193, zo_238 P) :: (nat_lit 194, zo_647 P) :: (nat_lit 196, zo_241 P) :: (nat_lit 197, zo_242 P) :: (nat_lit 198, zo_243 P) :: (nat_lit 205, zo_647 P) :: (nat_lit 207, zo_252 P) :: (nat_lit 208, zo_647 P) :: (nat_lit 210, zo_255 P) :: (nat_lit 211, zo_256 P) :: (nat_lit 212, zo_257 P) :: (nat_lit 213, zo_258 P) :: (nat_lit 214, zo_259 P) :: (nat_lit 215, zo_260 P) :: (nat_lit 218, zo_647 P) :: (nat_lit 220, zo_265 P) :: (nat_lit 221, zo_647 P) :: (nat_lit 223, zo_268 P) :: (nat_lit 224, zo_269 P) :: (nat_lit 225, zo_647 P) :: (nat_lit 227, zo_272 P) :: (nat_lit 228, zo_647 P) :: (nat_lit 230, zo_275 P) :: (nat_lit 231, zo_276 P) :: (nat_lit 232, zo_647 P) :: (nat_lit 234, zo_281 P) :: (nat_lit 235, zo_647 P) :: (nat_lit 237, zo_284 P) :: (nat_lit 238, zo_285 P) :: (nat_lit 246, zo_647 P) :: (nat_lit 248, zo_297 P) :: (nat_lit 249, zo_647 P) :: (nat_lit 251, zo_300 P) :: (nat_lit 252, zo_301 P) :: (nat_lit 253, zo_647 P) :: (nat_lit 256, zo_305 P) :: (nat_lit 257, zo_306 P) :: (nat_lit 258, zo_647 P) :: (nat_lit 260, zo_309 P) :: (nat_lit 261, zo_647 P) :: (nat_lit 263, zo_312 P) :: (nat_lit 264, zo_313 P) :: (nat_lit 265, zo_647 P) :: (nat_lit 267, zo_316 P) :: (nat_lit 268, zo_647 P) :: (nat_lit 270, zo_319 P) :: (nat_lit 271, zo_320 P) :: (nat_lit 272, zo_647 P) :: (nat_lit 274, zo_323 P) :: (nat_lit 275, zo_647 P) :: (nat_lit 277, zo_326 P) :: (nat_lit 278, zo_327 P) :: (nat_lit 279, zo_647 P) :: (nat_lit 281, zo_330 P) :: (nat_lit 282, zo_647 P) :: (nat_lit 284, zo_333 P) :: (nat_lit 285, zo_334 P) :: (nat_lit 286, zo_647 P) :: (nat_lit 288, zo_337 P) :: (nat_lit 289, zo_647 P) :: (nat_lit 291, zo_340 P) :: (nat_lit 292, zo_341 P) :: (nat_lit 293, zo_342 P) :: (nat_lit 294, zo_343 P) :: (nat_lit 295, zo_344 P) :: (nat_lit 296, zo_345 P) :: (nat_lit 297, zo_346 P) :: (nat_lit 300, zo_647 P) :: (nat_lit 302, zo_353 P) :: (nat_lit 303, zo_647 P) :: (nat_lit 305, zo_356 P) :: (nat_lit 306, zo_357 P) :: (nat_lit 314, zo_647 P) :: (nat_lit 316, zo_367 P) :: (nat_lit 317, zo_647 P) :: (nat_lit 319, zo_370 P) :: (nat_lit 320, zo_371 P) :: (nat_lit 321, zo_372 P) :: (nat_lit 322, zo_373 P) :: (nat_lit 323, zo_374 P) :: (nat_lit 324, zo_375 P) :: (nat_lit 325, zo_376 P) :: (nat_lit 335, zo_647 P) :: (nat_lit 337, zo_390 P) :: (nat_lit 338, zo_647 P) :: (nat_lit 340, zo_393 P) :: (nat_lit 341, zo_394 P) :: (nat_lit 342, zo_647 P) :: (nat_lit 344, zo_397 P) :: (nat_lit 345, zo_647 P) :: (nat_lit 347, zo_400 P) :: (nat_lit 348, zo_401 P) :: (nat_lit 349, zo_647 P) :: (nat_lit 351, zo_404 P) :: (nat_lit 352, zo_647 P) :: (nat_lit 354, zo_407 P) :: (nat_lit 355, zo_408 P) :: (nat_lit 356, zo_647 P) :: (nat_lit 358, zo_411 P) :: (nat_lit 359, zo_647 P) :: (nat_lit 361, zo_414 P) :: (nat_lit 362, zo_415 P) :: (nat_lit 363, zo_647 P) :: (nat_lit 365, zo_418 P) :: (nat_lit 366, zo_647 P) :: (nat_lit 368, zo_421 P) :: (nat_lit 369, zo_422 P) :: (nat_lit 370, zo_647 P) :: (nat_lit 372, zo_425 P) :: (nat_lit 373, zo_647 P) :: (nat_lit 375, zo_428 P) :: (nat_lit 376, zo_429 P) :: (nat_lit 377, zo_647 P) :: (nat_lit 379, zo_432 P) :: (nat_lit 380, zo_647 P) :: (nat_lit 382, zo_435 P) :: (nat_lit 383, zo_436 P) :: (nat_lit 384, zo_647 P) :: (nat_lit 386, zo_439 P) :: (nat_lit 387, zo_647 P) :: (nat_lit 389, zo_442 P) :: (nat_lit 390, zo_443 P) :: (nat_lit 391, zo_647 P) :: (nat_lit 393, zo_446 P) :: (nat_lit 394, zo_647 P) :: (nat_lit 396, zo_449 P) :: (nat_lit 397, zo_450 P) :: (nat_lit 398, zo_647 P) :: (nat_lit 400, zo_453 P) :: (nat_lit 401, zo_647 P) :: (nat_lit 403, zo_456 P) :: (nat_lit 404, zo_457 P) :: (nat_lit 405, zo_647 P) :: (nat_lit 407, zo_460 P) :: (nat_lit 408, zo_647 P) :: (nat_lit 410, zo_463 P) :: (nat_lit 411, zo_464 P) :: (nat_lit 412, zo_647 P) :: (nat_lit 414, zo_467 P) :: (nat_lit 415, zo_647 P) :: (nat_lit 417, zo_470 P) :: (nat_lit 418, zo_471 P) :: (nat_lit 419, zo_647 P) :: (nat_lit 421, zo_474 P) :: (nat_lit 422, zo_647 P) :: (nat_lit 424, zo_477 P) :: (nat_lit 425, zo_478 P) :: (nat_lit 426, zo_647 P) :: (nat_lit 428, zo_481 P) :: (nat_lit 429, zo_647 P) :: (nat_lit 431, zo_484 P) :: (nat_lit 432, zo_485 P) :: (nat_lit 433, zo_647 P) :: (nat_lit 435, zo_488 P) :: (nat_lit 436, zo_647 P) :: (nat_lit 438, zo_491 P) :: (nat_lit 439, zo_492 P) :: (nat_lit 440, zo_647 P) :: (nat_lit 442, zo_495 P) :: (nat_lit 443, zo_647 P) :: (nat_lit 445, zo_498 P) :: (nat_lit 446, zo_499 P) :: (nat_lit 447, zo_647 P) :: (nat_lit 449, zo_502 P) :: (nat_lit 450, zo_647 P) :: (nat_lit 452, zo_505 P) :: (nat_lit 453, zo_506 P) :: (nat_lit 454, zo_647 P) :: (nat_lit 456, zo_509 P) :: (nat_lit 457, zo_647 P) :: (nat_lit 459, zo_512 P) :: (nat_lit 460, zo_513 P) :: (nat_lit 461, zo_647 P) :: (nat_lit 463, zo_516 P) :: (nat_lit 464, zo_647 P) :: (nat_lit 466, zo_519 P) :: (nat_lit 467, zo_520 P) :: (nat_lit 468, zo_521 P) :: (nat_lit 469, zo_522 P) :: (nat_lit 470, zo_523 P) :: (nat_lit 471, zo_524 P) :: (nat_lit 472, zo_525 P) :: (nat_lit 475, zo_647 P) :: (nat_lit 477, zo_620 P) :: (nat_lit 478, zo_647 P) :: (nat_lit 480, zo_623 P) :: (nat_lit 481, zo_624 P) :: (nat_lit 482, zo_647 P) :: (nat_lit 484, zo_627 P) :: (nat_lit 485, zo_628 P) :: (nat_lit 487, zo_630 P) :: (nat_lit 488, zo_631 P) :: (nat_lit 489, zo_647 P) :: (nat_lit 491, zo_634 P) :: (nat_lit 492, zo_647 P) :: (nat_lit 494, zo_637 P) :: (nat_lit 495, zo_638 P) :: (nat_lit 496, zo_647 P) :: (nat_lit 499, zo_642 P) :: (nat_lit 500, zo_643 P) :: (nat_lit 501, zo_647 P) :: (nat_lit 503, zo_646 P) :: (nat_lit 504, zo_647 P) :: (nat_lit 506, zo_649 P) :: (nat_lit 507, zo_650 P) :: []
noncomputable abbrev zp : Program := PySem.Challenge.rw_rg0255_01.row.toRowW.prog
noncomputable def hd.view_39 : Program := { zp with main := { zp.main with body := [0, 2, 3, 4, 5, 6, 8, 9, 10, 12, 13, 15, 16, 18, 19, 20, 21, 23, 24, 26, 27, 29, 30, 32, 34, 35, 36, 37, 38].filterMap fun i => zp.main.body[i]? } }
def addrs : List Addr := [2, 3, 15, 17, 18, 20, 21, 22, 24, 25, 27, 28, 36, 38, 39, 41, 42, 43, 45, 46, 48, 49, 50, 52, 53, 55, 56, 57, 59, 60, 62, 63, 64, 66, 67, 69, 70, 71, 73, 74, 76, 77, 78, 80, 81, 83, 84, 85, 87, 88, 90, 91, 92, 94, 95, 97, 98, 99, 101, 102, 104, 105, 106, 108, 109, 111, 112, 113, 114, 115, 116, 117, 120, 122, 123, 125, 126, 134, 135, 137, 138, 140, 141, 142, 144, 145, 147, 148, 149, 151, 152, 154, 155, 156, 158, 159, 161, 162, 163, 165, 166, 168, 169, 170, 172, 173, 175, 176, 177, 178, 179, 180, 181, 184, 186, 187, 189, 190, 191, 193, 194, 196, 197, 198, 205, 207, 208, 210, 211, 212, 213, 214, 215, 218, 220, 221, 223, 224, 225, 227, 228, 230, 231, 232, 234, 235, 237, 238, 246, 248, 249, 251, 252, 253, 256, 257, 258, 260, 261, 263, 264, 265, 267, 268, 270, 271, 272, 274, 275, 277, 278, 279, 281, 282, 284, 285, 286, 288, 289, 291, 292, 293, 294, 295, 296, 297, 300, 302, 303, 305, 306, 314, 316, 317, 319, 320, 321, 322, 323, 324, 325, 335, 337, 338, 340, 341, 342, 344, 345, 347, 348, 349, 351, 352, 354, 355, 356, 358, 359, 361, 362, 363, 365, 366, 368, 369, 370, 372, 373, 375, 376, 377, 379, 380, 382, 383, 384, 386, 387, 389, 390, 391, 393, 394, 396, 397, 398, 400, 401, 403, 404, 405, 407, 408, 410, 411, 412, 414, 415, 417, 418, 419, 421, 422, 424, 425, 426, 428, 429, 431, 432, 433, 435, 436, 438, 439, 440, 442, 443, 445, 446, 447, 449, 450, 452, 453, 454, 456, 457, 459, 460, 461, 463, 464, 466, 467, 468, 469, 470, 471, 472, 475, 477, 478, 480, 481, 482, 484, 485, 487, 488, 489, 491, 492, 494, 495, 496, 499, 500, 501, 503, 504, 506, 507]
theorem addrs_ok : ∀ P, addrs = (Mine.hd.heap_39 P).map (·.1) := fun _ => by kernel_rfl
noncomputable abbrev HK : Hook := kmHook Mine.hd.heap_39 addrs addrs_ok [483]
noncomputable abbrev zbody : List Stmt := behindTheImports zp
noncomputable def zenv : Env := (Env.mk (Module.scope (Program.main zp)) mainNs mainNs [] Str.empty none (Value.ref 13) (Option.some 14) 0)
def zlife : Life := (Life.mk [] [] [] 0 [] [] false #[] [] 0 false false false 0 [2000, 10, 10] false 0 true [] [] 0 false)
noncomputable def ztree_47 (P : Params) : BT := .node (PySem.W.boot_o_0 P) (.node (PySem.W.boot_o_1 P) (.node (PySem.W.boot_o_3 P) (.node (PySem.W.boot_o_7 P) bn bn) (.node (zo_43 P) bn bn)) (.node (PySem.W.boot_o_5 P) (.node (PySem.W.boot_o_9 P) bn bn) (.node (zo_45 P) bn bn))) (.node (PySem.W.boot_o_2 P) (.node (PySem.W.boot_o_4 P) (.node (PySem.W.boot_o_8 P) bn bn) (.node (zo_44 P) bn bn)) (.node (PySem.W.boot_o_6 P) (.node (PySem.W.boot_o_10 P) bn bn) (.node (zo_46 P) bn bn)))
noncomputable def ztree_64 (P : Params) : BT := .node (PySem.W.boot_o_0 P) (.node (PySem.W.boot_o_1 P) (.node (zo_49 P) (.node (PySem.W.boot_o_7 P) (.node (zo_51 P) bn bn) (.node (zo_59 P) bn bn)) (.node (zo_43 P) (.node (zo_55 P) bn bn) (.node (zo_63 P) bn bn))) (.node (PySem.W.boot_o_5 P) (.node (PySem.W.boot_o_9 P) (.node (zo_53 P) bn bn) (.node (zo_61 P) bn bn)) (.node (zo_45 P) (.node (zo_57 P) bn bn) bn))) (.node (PySem.W.boot_o_2 P) (.node (PySem.W.boot_o_4 P) (.node (PySem.W.boot_o_8 P) (.node (zo_52 P) bn bn) (.node (zo_60 P) bn bn)) (.node (zo_50 P) (.node (zo_56 P) bn bn) (.node (zo_64 P) bn bn))) (.node (PySem.W.boot_o_6 P) (.node (PySem.W.boot_o_10 P) (.node (zo_54 P) bn bn) (.node (zo_62 P) bn bn)) (.node (zo_46 P) (.node (zo_58 P) bn bn) bn)))
noncomputable def ztree_157 (P : Params) : BT := .node (PySem.W.boot_o_0 P) (.node (PySem.W.boot_o_1 P) (.node (zo_65 P) (.node (PySem.W.boot_o_7 P) (.node (zo_51 P) (.node (zo_69 P) (.node (zo_101 P) bn bn) (.node (zo_133 P) bn bn)) (.node (zo_85 P) (.node (zo_117 P) bn bn) (.node (zo_149 P) bn bn))) (.node (zo_59 P) (.node (zo_77 P) (.node (zo_109 P) bn bn) (.node (zo_141 P) bn bn)) (.node (zo_93 P) (.node (zo_125 P) bn bn) (.node (zo_157 P) bn bn)))) (.node (zo_43 P) (.node (zo_55 P) (.node (zo_73 P) (.node (zo_105 P) bn bn) (.node (zo_137 P) bn bn)) (.node (zo_89 P) (.node (zo_121 P) bn bn) (.node (zo_153 P) bn bn))) (.node (zo_63 P) (.node (zo_81 P) (.node (zo_113 P) bn bn) (.node (zo_145 P) bn bn)) (.node (zo_97 P) (.node (zo_129 P) bn bn) bn)))) (.node (PySem.W.boot_o_5 P) (.node (PySem.W.boot_o_9 P) (.node (zo_53 P) (.node (zo_71 P) (.node (zo_103 P) bn bn) (.node (zo_135 P) bn bn)) (.node (zo_87 P) (.node (zo_119 P) bn bn) (.node (zo_151 P) bn bn))) (.node (zo_61 P) (.node (zo_79 P) (.node (zo_111 P) bn bn) (.node (zo_143 P) bn bn)) (.node (zo_95 P) (.node (zo_127 P) bn bn) bn))) (.node (zo_45 P) (.node (zo_57 P) (.node (zo_75 P) (.node (zo_107 P) bn bn) (.node (zo_139 P) bn bn)) (.node (zo_91 P) (.node (zo_123 P) bn bn) (.node (zo_155 P) bn bn))) (.node (zo_67 P) (.node (zo_83 P) (.node (zo_115 P) bn bn) (.node (zo_147 P) bn bn)) (.node (zo_99 P) (.node (zo_131 P) bn bn) bn))))) (.node (PySem.W.boot_o_2 P) (.node (PySem.W.boot_o_4 P) (.node (PySem.W.boot_o_8 P) (.node (zo_52 P) (.node (zo_70 P) (.node (zo_102 P) bn bn) (.node (zo_134 P) bn bn)) (.node (zo_86 P) (.node (zo_118 P) bn bn) (.node (zo_150 P) bn bn))) (.node (zo_60 P) (.node (zo_78 P) (.node (zo_110 P) bn bn) (.node (zo_142 P) bn bn)) (.node (zo_94 P) (.node (zo_126 P) bn bn) bn))) (.node (zo_66 P) (.node (zo_56 P) (.node (zo_74 P) (.node (zo_106 P) bn bn) (.node (zo_138 P) bn bn)) (.node (zo_90 P) (.node (zo_122 P) bn bn) (.node (zo_154 P) bn bn))) (.node (zo_64 P) (.node (zo_82 P) (.node (zo_114 P) bn bn) (.node (zo_146 P) bn bn)) (.node (zo_98 P) (.node (zo_130 P) bn bn) bn)))) (.node (PySem.W.boot_o_6 P) (.node (PySem.W.boot_o_10 P) (.node (zo_54 P) (.node (zo_72 P) (.node (zo_104 P) bn bn) (.node (zo_136 P) bn bn)) (.node (zo_88 P) (.node (zo_120 P) bn bn) (.node (zo_152 P) bn bn))) (.node (zo_62 P) (.node (zo_80 P) (.node (zo_112 P) bn bn) (.node (zo_144 P) bn bn)) (.node (zo_96 P) (.node (zo_128 P) bn bn) bn))) (.node (zo_46 P) (.node (zo_58 P) (.node (zo_76 P) (.node (zo_108 P) bn bn) (.node (zo_140 P) bn bn)) (.node (zo_92 P) (.node (zo_124 P) bn bn) (.node (zo_156 P) bn bn))) (.node (zo_68 P) (.node (zo_84 P) (.node (zo_116 P) bn bn) (.node (zo_148 P) bn bn)) (.node (zo_100 P) (.node (zo_132 P) bn bn) bn)))))
noncomputable def ztree_166 (P : Params) : BT := .node (PySem.W.boot_o_0 P) (.node (PySem.W.boot_o_1 P) (.node (zo_158 P) (.node (PySem.W.boot_o_7 P) (.node (zo_51 P) (.node (zo_69 P) (.node (zo_101 P) bn bn) (.node (zo_133 P) bn bn)) (.node (zo_85 P) (.node (zo_117 P) bn bn) (.node (zo_149 P) bn bn))) (.node (zo_59 P) (.node (zo_77 P) (.node (zo_109 P) bn bn) (.node (zo_141 P) bn bn)) (.node (zo_93 P) (.node (zo_125 P) bn bn) (.node (zo_157 P) bn bn)))) (.node (zo_43 P) (.node (zo_55 P) (.node (zo_73 P) (.node (zo_105 P) bn bn) (.node (zo_137 P) bn bn)) (.node (zo_89 P) (.node (zo_121 P) bn bn) (.node (zo_153 P) bn bn))) (.node (zo_63 P) (.node (zo_81 P) (.node (zo_113 P) bn bn) (.node (zo_145 P) bn bn)) (.node (zo_97 P) (.node (zo_129 P) bn bn) (.node (zo_163 P) bn bn))))) (.node (PySem.W.boot_o_5 P) (.node (PySem.W.boot_o_9 P) (.node (zo_53 P) (.node (zo_71 P) (.node (zo_103 P) bn bn) (.node (zo_135 P) bn bn)) (.node (zo_87 P) (.node (zo_119 P) bn bn) (.node (zo_151 P) bn bn))) (.node (zo_61 P) (.node (zo_79 P) (.node (zo_111 P) bn bn) (.node (zo_143 P) bn bn)) (.node (zo_95 P) (.node (zo_127 P) bn bn) (.node (zo_161 P) bn bn)))) (.node (zo_45 P) (.node (zo_57 P) (.node (zo_75 P) (.node (zo_107 P) bn bn) (.node (zo_139 P) bn bn)) (.node (zo_91 P) (.node (zo_123 P) bn bn) (.node (zo_155 P) bn bn))) (.node (zo_67 P) (.node (zo_83 P) (.node (zo_115 P) bn bn) (.node (zo_147 P) bn bn)) (.node (zo_99 P) (.node (zo_131 P) bn bn) (.node (zo_165 P) bn bn)))))) (.node (PySem.W.boot_o_2 P) (.node (PySem.W.boot_o_4 P) (.node (PySem.W.boot_o_8 P) (.node (zo_52 P) (.node (zo_70 P) (.node (zo_102 P) bn bn) (.node (zo_134 P) bn bn)) (.node (zo_86 P) (.node (zo_118 P) bn bn) (.node (zo_150 P) bn bn))) (.node (zo_60 P) (.node (zo_78 P) (.node (zo_110 P) bn bn) (.node (zo_142 P) bn bn)) (.node (zo_94 P) (.node (zo_126 P) bn bn) (.node (zo_160 P) bn bn)))) (.node (zo_159 P) (.node (zo_56 P) (.node (zo_74 P) (.node (zo_106 P) bn bn) (.node (zo_138 P) bn bn)) (.node (zo_90 P) (.node (zo_122 P) bn bn) (.node (zo_154 P) bn bn))) (.node (zo_64 P) (.node (zo_82 P) (.node (zo_114 P) bn bn) (.node (zo_146 P) bn bn)) (.node (zo_98 P) (.node (zo_130 P) bn bn) (.node (zo_164 P) bn bn))))) (.node (PySem.W.boot_o_6 P) (.node (PySem.W.boot_o_10 P) (.node (zo_54 P) (.node (zo_72 P) (.node (zo_104 P) bn bn) (.node (zo_136 P) bn bn)) (.node (zo_88 P) (.node (zo_120 P) bn bn) (.node (zo_152 P) bn bn))) (.node (zo_62 P) (.node (zo_80 P) (.node (zo_112 P) bn bn) (.node (zo_144 P) bn bn)) (.node (zo_96 P) (.node (zo_128 P) bn bn) (.node (zo_162 P) bn bn)))) (.node (zo_46 P) (.node (zo_58 P) (.node (zo_76 P) (.node (zo_108 P) bn bn) (.node (zo_140 P) bn bn)) (.node (zo_92 P) (.node (zo_124 P) bn bn) (.node (zo_156 P) bn bn))) (.node (zo_68 P) (.node (zo_84 P) (.node (zo_116 P) bn bn) (.node (zo_148 P) bn bn)) (.node (zo_100 P) (.node (zo_132 P) bn bn) (.node (zo_166 P) bn bn))))))
noncomputable def ztree_225 (P : Params) : BT := .node (PySem.W.boot_o_0 P) (.node (PySem.W.boot_o_1 P) (.node (zo_167 P) (.node (PySem.W.boot_o_7 P) (.node (zo_51 P) (.node (zo_69 P) (.node (zo_101 P) (.node (zo_169 P) bn bn) bn) (.node (zo_133 P) (.node (zo_201 P) bn bn) bn)) (.node (zo_85 P) (.node (zo_117 P) (.node (zo_185 P) bn bn) bn) (.node (zo_149 P) (.node (zo_217 P) bn bn) bn))) (.node (zo_59 P) (.node (zo_77 P) (.node (zo_109 P) (.node (zo_177 P) bn bn) bn) (.node (zo_141 P) (.node (zo_209 P) bn bn) bn)) (.node (zo_93 P) (.node (zo_125 P) (.node (zo_193 P) bn bn) bn) (.node (zo_157 P) (.node (zo_225 P) bn bn) bn)))) (.node (zo_43 P) (.node (zo_55 P) (.node (zo_73 P) (.node (zo_105 P) (.node (zo_173 P) bn bn) bn) (.node (zo_137 P) (.node (zo_205 P) bn bn) bn)) (.node (zo_89 P) (.node (zo_121 P) (.node (zo_189 P) bn bn) bn) (.node (zo_153 P) (.node (zo_221 P) bn bn) bn))) (.node (zo_63 P) (.node (zo_81 P) (.node (zo_113 P) (.node (zo_181 P) bn bn) bn) (.node (zo_145 P) (.node (zo_213 P) bn bn) bn)) (.node (zo_97 P) (.node (zo_129 P) (.node (zo_197 P) bn bn) bn) (.node (zo_163 P) bn bn))))) (.node (PySem.W.boot_o_5 P) (.node (PySem.W.boot_o_9 P) (.node (zo_53 P) (.node (zo_71 P) (.node (zo_103 P) (.node (zo_171 P) bn bn) bn) (.node (zo_135 P) (.node (zo_203 P) bn bn) bn)) (.node (zo_87 P) (.node (zo_119 P) (.node (zo_187 P) bn bn) bn) (.node (zo_151 P) (.node (zo_219 P) bn bn) bn))) (.node (zo_61 P) (.node (zo_79 P) (.node (zo_111 P) (.node (zo_179 P) bn bn) bn) (.node (zo_143 P) (.node (zo_211 P) bn bn) bn)) (.node (zo_95 P) (.node (zo_127 P) (.node (zo_195 P) bn bn) bn) (.node (zo_161 P) bn bn)))) (.node (zo_45 P) (.node (zo_57 P) (.node (zo_75 P) (.node (zo_107 P) (.node (zo_175 P) bn bn) bn) (.node (zo_139 P) (.node (zo_207 P) bn bn) bn)) (.node (zo_91 P) (.node (zo_123 P) (.node (zo_191 P) bn bn) bn) (.node (zo_155 P) (.node (zo_223 P) bn bn) bn))) (.node (zo_67 P) (.node (zo_83 P) (.node (zo_115 P) (.node (zo_183 P) bn bn) bn) (.node (zo_147 P) (.node (zo_215 P) bn bn) bn)) (.node (zo_99 P) (.node (zo_131 P) (.node (zo_199 P) bn bn) bn) (.node (zo_165 P) bn bn)))))) (.node (PySem.W.boot_o_2 P) (.node (PySem.W.boot_o_4 P) (.node (PySem.W.boot_o_8 P) (.node (zo_52 P) (.node (zo_70 P) (.node (zo_102 P) (.node (zo_170 P) bn bn) bn) (.node (zo_134 P) (.node (zo_202 P) bn bn) bn)) (.node (zo_86 P) (.node (zo_118 P) (.node (zo_186 P) bn bn) bn) (.node (zo_150 P) (.node (zo_218 P) bn bn) bn))) (.node (zo_60 P) (.node (zo_78 P) (.node (zo_110 P) (.node (zo_178 P) bn bn) bn) (.node (zo_142 P) (.node (zo_210 P) bn bn) bn)) (.node (zo_94 P) (.node (zo_126 P) (.node (zo_194 P) bn bn) bn) (.node (zo_160 P) bn bn)))) (.node (zo_168 P) (.node (zo_56 P) (.node (zo_74 P) (.node (zo_106 P) (.node (zo_174 P) bn bn) bn) (.node (zo_138 P) (.node (zo_206 P) bn bn) bn)) (.node (zo_90 P) (.node (zo_122 P) (.node (zo_190 P) bn bn) bn) (.node (zo_154 P) (.node (zo_222 P) bn bn) bn))) (.node (zo_64 P) (.node (zo_82 P) (.node (zo_114 P) (.node (zo_182 P) bn bn) bn) (.node (zo_146 P) (.node (zo_214 P) bn bn) bn)) (.node (zo_98 P) (.node (zo_130 P) (.node (zo_198 P) bn bn) bn) (.node (zo_164 P) bn bn))))) (.node (PySem.W.boot_o_6 P) (.node (PySem.W.boot_o_10 P) (.node (zo_54 P) (.node (zo_72 P) (.node (zo_104 P) (.node (zo_172 P) bn bn) bn) (.node (zo_136 P) (.node (zo_204 P) bn bn) bn)) (.node (zo_88 P) (.node (zo_120 P) (.node (zo_188 P) bn bn) bn) (.node (zo_152 P) (.node (zo_220 P) bn bn) bn))) (.node (zo_62 P) (.node (zo_80 P) (.node (zo_112 P) (.node (zo_180 P) bn bn) bn) (.node (zo_144 P) (.node (zo_212 P) bn bn) bn)) (.node (zo_96 P) (.node (zo_128 P) (.node (zo_196 P) bn bn) bn) (.node (zo_162 P) bn bn)))) (.node (zo_46 P) (.node (zo_58 P) (.node (zo_76 P) (.node (zo_108 P) (.node (zo_176 P) bn bn) bn) (.node (zo_140 P) (.node (zo_208 P) bn bn) bn)) (.node (zo_92 P) (.node (zo_124 P) (.node (zo_192 P) bn bn) bn) (.node (zo_156 P) (.node (zo_224 P) bn bn) bn))) (.node (zo_68 P) (.node (zo_84 P) (.node (zo_116 P) (.node (zo_184 P) bn bn) bn) (.node (zo_148 P) (.node (zo_216 P) bn bn) bn)) (.node (zo_100 P) (.node (zo_132 P) (.node (zo_200 P) bn bn) bn) (.node (zo_166 P) bn bn))))))
noncomputable def ztree_276 (P : Params) : BT := .node (PySem.W.boot_o_0 P) (.node (PySem.W.boot_o_1 P) (.node (zo_227 P) (.node (PySem.W.boot_o_7 P) (.node (zo_51 P) (.node (zo_69 P) (.node (zo_101 P) (.node (zo_169 P) bn bn) (.node (zo_236 P) bn bn)) (.node (zo_133 P) (.node (zo_201 P) bn bn) (.node (zo_268 P) bn bn))) (.node (zo_85 P) (.node (zo_117 P) (.node (zo_185 P) bn bn) (.node (zo_252 P) bn bn)) (.node (zo_149 P) (.node (zo_217 P) bn bn) bn))) (.node (zo_59 P) (.node (zo_77 P) (.node (zo_109 P) (.node (zo_177 P) bn bn) (.node (zo_244 P) bn bn)) (.node (zo_141 P) (.node (zo_209 P) bn bn) (.node (zo_276 P) bn bn))) (.node (zo_93 P) (.node (zo_125 P) (.node (zo_193 P) bn bn) (.node (zo_260 P) bn bn)) (.node (zo_157 P) (.node (zo_225 P) bn bn) bn)))) (.node (zo_43 P) (.node (zo_55 P) (.node (zo_73 P) (.node (zo_105 P) (.node (zo_173 P) bn bn) (.node (zo_240 P) bn bn)) (.node (zo_137 P) (.node (zo_205 P) bn bn) (.node (zo_272 P) bn bn))) (.node (zo_89 P) (.node (zo_121 P) (.node (zo_189 P) bn bn) (.node (zo_256 P) bn bn)) (.node (zo_153 P) (.node (zo_221 P) bn bn) bn))) (.node (zo_63 P) (.node (zo_81 P) (.node (zo_113 P) (.node (zo_181 P) bn bn) (.node (zo_248 P) bn bn)) (.node (zo_145 P) (.node (zo_213 P) bn bn) bn)) (.node (zo_97 P) (.node (zo_129 P) (.node (zo_197 P) bn bn) (.node (zo_264 P) bn bn)) (.node (zo_163 P) (.node (zo_232 P) bn bn) bn))))) (.node (PySem.W.boot_o_5 P) (.node (PySem.W.boot_o_9 P) (.node (zo_53 P) (.node (zo_71 P) (.node (zo_103 P) (.node (zo_171 P) bn bn) (.node (zo_238 P) bn bn)) (.node (zo_135 P) (.node (zo_203 P) bn bn) (.node (zo_270 P) bn bn))) (.node (zo_87 P) (.node (zo_119 P) (.node (zo_187 P) bn bn) (.node (zo_254 P) bn bn)) (.node (zo_151 P) (.node (zo_219 P) bn bn) bn))) (.node (zo_61 P) (.node (zo_79 P) (.node (zo_111 P) (.node (zo_179 P) bn bn) (.node (zo_246 P) bn bn)) (.node (zo_143 P) (.node (zo_211 P) bn bn) bn)) (.node (zo_95 P) (.node (zo_127 P) (.node (zo_195 P) bn bn) (.node (zo_262 P) bn bn)) (.node (zo_161 P) (.node (zo_230 P) bn bn) bn)))) (.node (zo_45 P) (.node (zo_57 P) (.node (zo_75 P) (.node (zo_107 P) (.node (zo_175 P) bn bn) (.node (zo_242 P) bn bn)) (.node (zo_139 P) (.node (zo_207 P) bn bn) (.node (zo_274 P) bn bn))) (.node (zo_91 P) (.node (zo_123 P) (.node (zo_191 P) bn bn) (.node (zo_258 P) bn bn)) (.node (zo_155 P) (.node (zo_223 P) bn bn) bn))) (.node (zo_67 P) (.node (zo_83 P) (.node (zo_115 P) (.node (zo_183 P) bn bn) (.node (zo_250 P) bn bn)) (.node (zo_147 P) (.node (zo_215 P) bn bn) bn)) (.node (zo_99 P) (.node (zo_131 P) (.node (zo_199 P) bn bn) (.node (zo_266 P) bn bn)) (.node (zo_165 P) (.node (zo_234 P) bn bn) bn)))))) (.node (zo_226 P) (.node (PySem.W.boot_o_4 P) (.node (PySem.W.boot_o_8 P) (.node (zo_52 P) (.node (zo_70 P) (.node (zo_102 P) (.node (zo_170 P) bn bn) (.node (zo_237 P) bn bn)) (.node (zo_134 P) (.node (zo_202 P) bn bn) (.node (zo_269 P) bn bn))) (.node (zo_86 P) (.node (zo_118 P) (.node (zo_186 P) bn bn) (.node (zo_253 P) bn bn)) (.node (zo_150 P) (.node (zo_218 P) bn bn) bn))) (.node (zo_60 P) (.node (zo_78 P) (.node (zo_110 P) (.node (zo_178 P) bn bn) (.node (zo_245 P) bn bn)) (.node (zo_142 P) (.node (zo_210 P) bn bn) bn)) (.node (zo_94 P) (.node (zo_126 P) (.node (zo_194 P) bn bn) (.node (zo_261 P) bn bn)) (.node (zo_160 P) (.node (zo_229 P) bn bn) bn)))) (.node (zo_228 P) (.node (zo_56 P) (.node (zo_74 P) (.node (zo_106 P) (.node (zo_174 P) bn bn) (.node (zo_241 P) bn bn)) (.node (zo_138 P) (.node (zo_206 P) bn bn) (.node (zo_273 P) bn bn))) (.node (zo_90 P) (.node (zo_122 P) (.node (zo_190 P) bn bn) (.node (zo_257 P) bn bn)) (.node (zo_154 P) (.node (zo_222 P) bn bn) bn))) (.node (zo_64 P) (.node (zo_82 P) (.node (zo_114 P) (.node (zo_182 P) bn bn) (.node (zo_249 P) bn bn)) (.node (zo_146 P) (.node (zo_214 P) bn bn) bn)) (.node (zo_98 P) (.node (zo_130 P) (.node (zo_198 P) bn bn) (.node (zo_265 P) bn bn)) (.node (zo_164 P) (.node (zo_233 P) bn bn) bn))))) (.node (PySem.W.boot_o_6 P) (.node (PySem.W.boot_o_10 P) (.node (zo_54 P) (.node (zo_72 P) (.node (zo_104 P) (.node (zo_172 P) bn bn) (.node (zo_239 P) bn bn)) (.node (zo_136 P) (.node (zo_204 P) bn bn) (.node (zo_271 P) bn bn))) (.node (zo_88 P) (.node (zo_120 P) (.node (zo_188 P) bn bn) (.node (zo_255 P) bn bn)) (.node (zo_152 P) (.node (zo_220 P) bn bn) bn))) (.node (zo_62 P) (.node (zo_80 P) (.node (zo_112 P) (.node (zo_180 P) bn bn) (.node (zo_247 P) bn bn)) (.node (zo_144 P) (.node (zo_212 P) bn bn) bn)) (.node (zo_96 P) (.node (zo_128 P) (.node (zo_196 P) bn bn) (.node (zo_263 P) bn bn)) (.node (zo_162 P) (.node (zo_231 P) bn bn) bn)))) (.node (zo_46 P) (.node (zo_58 P) (.node (zo_76 P) (.node (zo_108 P) (.node (zo_176 P) bn bn) (.node (zo_243 P) bn bn)) (.node (zo_140 P) (.node (zo_208 P) bn bn) (.node (zo_275 P) bn bn))) (.node (zo_92 P) (.node (zo_124 P) (.node (zo_192 P) bn bn) (.node (zo_259 P) bn bn)) (.node (zo_156 P) (.node (zo_224 P) bn bn) bn))) (.node (zo_68 P) (.node (zo_84 P) (.node (zo_116 P) (.node (zo_184 P) bn bn) (.node (zo_251 P) bn bn)) (.node (zo_148 P) (.node (zo_216 P) bn bn) bn)) (.node (zo_100 P) (.node (zo_132 P) (.node (zo_200 P) bn bn) (.node (zo_267 P) bn bn)) (.node (zo_166 P) (.node (zo_235 P) bn bn) bn))))))
noncomputable def ztree_285 (P : Params) : BT := .node (PySem.W.boot_o_0 P) (.node (PySem.W.boot_o_1 P) (.node (zo_277 P) (.node (PySem.W.boot_o_7 P) (.node (zo_51 P) (.node (zo_69 P) (.node (zo_101 P) (.node (zo_169 P) bn bn) (.node (zo_236 P) bn bn)) (.node (zo_133 P) (.node (zo_201 P) bn bn) (.node (zo_268 P) bn bn))) (.node (zo_85 P) (.node (zo_117 P) (.node (zo_185 P) bn bn) (.node (zo_252 P) bn bn)) (.node (zo_149 P) (.node (zo_217 P) bn bn) bn))) (.node (zo_59 P) (.node (zo_77 P) (.node (zo_109 P) (.node (zo_177 P) bn bn) (.node (zo_244 P) bn bn)) (.node (zo_141 P) (.node (zo_209 P) bn bn) (.node (zo_276 P) bn bn))) (.node (zo_93 P) (.node (zo_125 P) (.node (zo_193 P) bn bn) (.node (zo_260 P) bn bn)) (.node (zo_157 P) (.node (zo_225 P) bn bn) bn)))) (.node (zo_43 P) (.node (zo_55 P) (.node (zo_73 P) (.node (zo_105 P) (.node (zo_173 P) bn bn) (.node (zo_240 P) bn bn)) (.node (zo_137 P) (.node (zo_205 P) bn bn) (.node (zo_272 P) bn bn))) (.node (zo_89 P) (.node (zo_121 P) (.node (zo_189 P) bn bn) (.node (zo_256 P) bn bn)) (.node (zo_153 P) (.node (zo_221 P) bn bn) bn))) (.node (zo_63 P) (.node (zo_81 P) (.node (zo_113 P) (.node (zo_181 P) bn bn) (.node (zo_248 P) bn bn)) (.node (zo_145 P) (.node (zo_213 P) bn bn) (.node (zo_282 P) bn bn))) (.node (zo_97 P) (.node (zo_129 P) (.node (zo_197 P) bn bn) (.node (zo_264 P) bn bn)) (.node (zo_163 P) (.node (zo_232 P) bn bn) bn))))) (.node (PySem.W.boot_o_5 P) (.node (PySem.W.boot_o_9 P) (.node (zo_53 P) (.node (zo_71 P) (.node (zo_103 P) (.node (zo_171 P) bn bn) (.node (zo_238 P) bn bn)) (.node (zo_135 P) (.node (zo_203 P) bn bn) (.node (zo_270 P) bn bn))) (.node (zo_87 P) (.node (zo_119 P) (.node (zo_187 P) bn bn) (.node (zo_254 P) bn bn)) (.node (zo_151 P) (.node (zo_219 P) bn bn) bn))) (.node (zo_61 P) (.node (zo_79 P) (.node (zo_111 P) (.node (zo_179 P) bn bn) (.node (zo_246 P) bn bn)) (.node (zo_143 P) (.node (zo_211 P) bn bn) (.node (zo_280 P) bn bn))) (.node (zo_95 P) (.node (zo_127 P) (.node (zo_195 P) bn bn) (.node (zo_262 P) bn bn)) (.node (zo_161 P) (.node (zo_230 P) bn bn) bn)))) (.node (zo_45 P) (.node (zo_57 P) (.node (zo_75 P) (.node (zo_107 P) (.node (zo_175 P) bn bn) (.node (zo_242 P) bn bn)) (.node (zo_139 P) (.node (zo_207 P) bn bn) (.node (zo_274 P) bn bn))) (.node (zo_91 P) (.node (zo_123 P) (.node (zo_191 P) bn bn) (.node (zo_258 P) bn bn)) (.node (zo_155 P) (.node (zo_223 P) bn bn) bn))) (.node (zo_67 P) (.node (zo_83 P) (.node (zo_115 P) (.node (zo_183 P) bn bn) (.node (zo_250 P) bn bn)) (.node (zo_147 P) (.node (zo_215 P) bn bn) (.node (zo_284 P) bn bn))) (.node (zo_99 P) (.node (zo_131 P) (.node (zo_199 P) bn bn) (.node (zo_266 P) bn bn)) (.node (zo_165 P) (.node (zo_234 P) bn bn) bn)))))) (.node (zo_226 P) (.node (PySem.W.boot_o_4 P) (.node (PySem.W.boot_o_8 P) (.node (zo_52 P) (.node (zo_70 P) (.node (zo_102 P) (.node (zo_170 P) bn bn) (.node (zo_237 P) bn bn)) (.node (zo_134 P) (.node (zo_202 P) bn bn) (.node (zo_269 P) bn bn))) (.node (zo_86 P) (.node (zo_118 P) (.node (zo_186 P) bn bn) (.node (zo_253 P) bn bn)) (.node (zo_150 P) (.node (zo_218 P) bn bn) bn))) (.node (zo_60 P) (.node (zo_78 P) (.node (zo_110 P) (.node (zo_178 P) bn bn) (.node (zo_245 P) bn bn)) (.node (zo_142 P) (.node (zo_210 P) bn bn) (.node (zo_279 P) bn bn))) (.node (zo_94 P) (.node (zo_126 P) (.node (zo_194 P) bn bn) (.node (zo_261 P) bn bn)) (.node (zo_160 P) (.node (zo_229 P) bn bn) bn)))) (.node (zo_278 P) (.node (zo_56 P) (.node (zo_74 P) (.node (zo_106 P) (.node (zo_174 P) bn bn) (.node (zo_241 P) bn bn)) (.node (zo_138 P) (.node (zo_206 P) bn bn) (.node (zo_273 P) bn bn))) (.node (zo_90 P) (.node (zo_122 P) (.node (zo_190 P) bn bn) (.node (zo_257 P) bn bn)) (.node (zo_154 P) (.node (zo_222 P) bn bn) bn))) (.node (zo_64 P) (.node (zo_82 P) (.node (zo_114 P) (.node (zo_182 P) bn bn) (.node (zo_249 P) bn bn)) (.node (zo_146 P) (.node (zo_214 P) bn bn) (.node (zo_283 P) bn bn))) (.node (zo_98 P) (.node (zo_130 P) (.node (zo_198 P) bn bn) (.node (zo_265 P) bn bn)) (.node (zo_164 P) (.node (zo_233 P) bn bn) bn))))) (.node (PySem.W.boot_o_6 P) (.node (PySem.W.boot_o_10 P) (.node (zo_54 P) (.node (zo_72 P) (.node (zo_104 P) (.node (zo_172 P) bn bn) (.node (zo_239 P) bn bn)) (.node (zo_136 P) (.node (zo_204 P) bn bn) (.node (zo_271 P) bn bn))) (.node (zo_88 P) (.node (zo_120 P) (.node (zo_188 P) bn bn) (.node (zo_255 P) bn bn)) (.node (zo_152 P) (.node (zo_220 P) bn bn) bn))) (.node (zo_62 P) (.node (zo_80 P) (.node (zo_112 P) (.node (zo_180 P) bn bn) (.node (zo_247 P) bn bn)) (.node (zo_144 P) (.node (zo_212 P) bn bn) (.node (zo_281 P) bn bn))) (.node (zo_96 P) (.node (zo_128 P) (.node (zo_196 P) bn bn) (.node (zo_263 P) bn bn)) (.node (zo_162 P) (.node (zo_231 P) bn bn) bn)))) (.node (zo_46 P) (.node (zo_58 P) (.node (zo_76 P) (.node (zo_108 P) (.node (zo_176 P) bn bn) (.node (zo_243 P) bn bn)) (.node (zo_140 P) (.node (zo_208 P) bn bn) (.node (zo_275 P) bn bn))) (.node (zo_92 P) (.node (zo_124 P) (.node (zo_192 P) bn bn) (.node (zo_259 P) bn bn)) (.node (zo_156 P) (.node (zo_224 P) bn bn) bn))) (.node (zo_68 P) (.node (zo_84 P) (.node (zo_116 P) (.node (zo_184 P) bn bn) (.node (zo_251 P) bn bn)) (.node (zo_148 P) (.node (zo_216 P) bn bn) (.node (zo_285 P) bn bn))) (.node (zo_100 P) (.node (zo_132 P) (.node (zo_200 P) bn bn) (.node (zo_267 P) bn bn)) (.node (zo_166 P) (.node (zo_235 P) bn bn) bn))))))
noncomputable def ztree_348 (P : Params) : BT := .node (PySem.W.boot_o_0 P) (.node (PySem.W.boot_o_1 P) (.node (zo_286 P) (.node (PySem.W.boot_o_7 P) (.node (zo_51 P) (.node (zo_69 P) (.node (zo_101 P) (.node (zo_169 P) (.node (zo_304 P) bn bn) bn) (.node (zo_236 P) bn bn)) (.node (zo_133 P) (.node (zo_201 P) (.node (zo_336 P) bn bn) bn) (.node (zo_268 P) bn bn))) (.node (zo_85 P) (.node (zo_117 P) (.node (zo_185 P) (.node (zo_320 P) bn bn) bn) (.node (zo_252 P) bn bn)) (.node (zo_149 P) (.node (zo_217 P) bn bn) (.node (zo_288 P) bn bn)))) (.node (zo_59 P) (.node (zo_77 P) (.node (zo_109 P) (.node (zo_177 P) (.node (zo_312 P) bn bn) bn) (.node (zo_244 P) bn bn)) (.node (zo_141 P) (.node (zo_209 P) (.node (zo_344 P) bn bn) bn) (.node (zo_276 P) bn bn))) (.node (zo_93 P) (.node (zo_125 P) (.node (zo_193 P) (.node (zo_328 P) bn bn) bn) (.node (zo_260 P) bn bn)) (.node (zo_157 P) (.node (zo_225 P) bn bn) (.node (zo_296 P) bn bn))))) (.node (zo_43 P) (.node (zo_55 P) (.node (zo_73 P) (.node (zo_105 P) (.node (zo_173 P) (.node (zo_308 P) bn bn) bn) (.node (zo_240 P) bn bn)) (.node (zo_137 P) (.node (zo_205 P) (.node (zo_340 P) bn bn) bn) (.node (zo_272 P) bn bn))) (.node (zo_89 P) (.node (zo_121 P) (.node (zo_189 P) (.node (zo_324 P) bn bn) bn) (.node (zo_256 P) bn bn)) (.node (zo_153 P) (.node (zo_221 P) bn bn) (.node (zo_292 P) bn bn)))) (.node (zo_63 P) (.node (zo_81 P) (.node (zo_113 P) (.node (zo_181 P) (.node (zo_316 P) bn bn) bn) (.node (zo_248 P) bn bn)) (.node (zo_145 P) (.node (zo_213 P) (.node (zo_348 P) bn bn) bn) (.node (zo_282 P) bn bn))) (.node (zo_97 P) (.node (zo_129 P) (.node (zo_197 P) (.node (zo_332 P) bn bn) bn) (.node (zo_264 P) bn bn)) (.node (zo_163 P) (.node (zo_232 P) bn bn) (.node (zo_300 P) bn bn)))))) (.node (PySem.W.boot_o_5 P) (.node (PySem.W.boot_o_9 P) (.node (zo_53 P) (.node (zo_71 P) (.node (zo_103 P) (.node (zo_171 P) (.node (zo_306 P) bn bn) bn) (.node (zo_238 P) bn bn)) (.node (zo_135 P) (.node (zo_203 P) (.node (zo_338 P) bn bn) bn) (.node (zo_270 P) bn bn))) (.node (zo_87 P) (.node (zo_119 P) (.node (zo_187 P) (.node (zo_322 P) bn bn) bn) (.node (zo_254 P) bn bn)) (.node (zo_151 P) (.node (zo_219 P) bn bn) (.node (zo_290 P) bn bn)))) (.node (zo_61 P) (.node (zo_79 P) (.node (zo_111 P) (.node (zo_179 P) (.node (zo_314 P) bn bn) bn) (.node (zo_246 P) bn bn)) (.node (zo_143 P) (.node (zo_211 P) (.node (zo_346 P) bn bn) bn) (.node (zo_280 P) bn bn))) (.node (zo_95 P) (.node (zo_127 P) (.node (zo_195 P) (.node (zo_330 P) bn bn) bn) (.node (zo_262 P) bn bn)) (.node (zo_161 P) (.node (zo_230 P) bn bn) (.node (zo_298 P) bn bn))))) (.node (zo_45 P) (.node (zo_57 P) (.node (zo_75 P) (.node (zo_107 P) (.node (zo_175 P) (.node (zo_310 P) bn bn) bn) (.node (zo_242 P) bn bn)) (.node (zo_139 P) (.node (zo_207 P) (.node (zo_342 P) bn bn) bn) (.node (zo_274 P) bn bn))) (.node (zo_91 P) (.node (zo_123 P) (.node (zo_191 P) (.node (zo_326 P) bn bn) bn) (.node (zo_258 P) bn bn)) (.node (zo_155 P) (.node (zo_223 P) bn bn) (.node (zo_294 P) bn bn)))) (.node (zo_67 P) (.node (zo_83 P) (.node (zo_115 P) (.node (zo_183 P) (.node (zo_318 P) bn bn) bn) (.node (zo_250 P) bn bn)) (.node (zo_147 P) (.node (zo_215 P) bn bn) (.node (zo_284 P) bn bn))) (.node (zo_99 P) (.node (zo_131 P) (.node (zo_199 P) (.node (zo_334 P) bn bn) bn) (.node (zo_266 P) bn bn)) (.node (zo_165 P) (.node (zo_234 P) bn bn) (.node (zo_302 P) bn bn))))))) (.node (zo_226 P) (.node (PySem.W.boot_o_4 P) (.node (PySem.W.boot_o_8 P) (.node (zo_52 P) (.node (zo_70 P) (.node (zo_102 P) (.node (zo_170 P) (.node (zo_305 P) bn bn) bn) (.node (zo_237 P) bn bn)) (.node (zo_134 P) (.node (zo_202 P) (.node (zo_337 P) bn bn) bn) (.node (zo_269 P) bn bn))) (.node (zo_86 P) (.node (zo_118 P) (.node (zo_186 P) (.node (zo_321 P) bn bn) bn) (.node (zo_253 P) bn bn)) (.node (zo_150 P) (.node (zo_218 P) bn bn) (.node (zo_289 P) bn bn)))) (.node (zo_60 P) (.node (zo_78 P) (.node (zo_110 P) (.node (zo_178 P) (.node (zo_313 P) bn bn) bn) (.node (zo_245 P) bn bn)) (.node (zo_142 P) (.node (zo_210 P) (.node (zo_345 P) bn bn) bn) (.node (zo_279 P) bn bn))) (.node (zo_94 P) (.node (zo_126 P) (.node (zo_194 P) (.node (zo_329 P) bn bn) bn) (.node (zo_261 P) bn bn)) (.node (zo_160 P) (.node (zo_229 P) bn bn) (.node (zo_297 P) bn bn))))) (.node (zo_287 P) (.node (zo_56 P) (.node (zo_74 P) (.node (zo_106 P) (.node (zo_174 P) (.node (zo_309 P) bn bn) bn) (.node (zo_241 P) bn bn)) (.node (zo_138 P) (.node (zo_206 P) (.node (zo_341 P) bn bn) bn) (.node (zo_273 P) bn bn))) (.node (zo_90 P) (.node (zo_122 P) (.node (zo_190 P) (.node (zo_325 P) bn bn) bn) (.node (zo_257 P) bn bn)) (.node (zo_154 P) (.node (zo_222 P) bn bn) (.node (zo_293 P) bn bn)))) (.node (zo_64 P) (.node (zo_82 P) (.node (zo_114 P) (.node (zo_182 P) (.node (zo_317 P) bn bn) bn) (.node (zo_249 P) bn bn)) (.node (zo_146 P) (.node (zo_214 P) bn bn) (.node (zo_283 P) bn bn))) (.node (zo_98 P) (.node (zo_130 P) (.node (zo_198 P) (.node (zo_333 P) bn bn) bn) (.node (zo_265 P) bn bn)) (.node (zo_164 P) (.node (zo_233 P) bn bn) (.node (zo_301 P) bn bn)))))) (.node (PySem.W.boot_o_6 P) (.node (PySem.W.boot_o_10 P) (.node (zo_54 P) (.node (zo_72 P) (.node (zo_104 P) (.node (zo_172 P) (.node (zo_307 P) bn bn) bn) (.node (zo_239 P) bn bn)) (.node (zo_136 P) (.node (zo_204 P) (.node (zo_339 P) bn bn) bn) (.node (zo_271 P) bn bn))) (.node (zo_88 P) (.node (zo_120 P) (.node (zo_188 P) (.node (zo_323 P) bn bn) bn) (.node (zo_255 P) bn bn)) (.node (zo_152 P) (.node (zo_220 P) bn bn) (.node (zo_291 P) bn bn)))) (.node (zo_62 P) (.node (zo_80 P) (.node (zo_112 P) (.node (zo_180 P) (.node (zo_315 P) bn bn) bn) (.node (zo_247 P) bn bn)) (.node (zo_144 P) (.node (zo_212 P) (.node (zo_347 P) bn bn) bn) (.node (zo_281 P) bn bn))) (.node (zo_96 P) (.node (zo_128 P) (.node (zo_196 P) (.node (zo_331 P) bn bn) bn) (.node (zo_263 P) bn bn)) (.node (zo_162 P) (.node (zo_231 P) bn bn) (.node (zo_299 P) bn bn))))) (.node (zo_46 P) (.node (zo_58 P) (.node (zo_76 P) (.node (zo_108 P) (.node (zo_176 P) (.node (zo_311 P) bn bn) bn) (.node (zo_243 P) bn bn)) (.node (zo_140 P) (.node (zo_208 P) (.node (zo_343 P) bn bn) bn) (.node (zo_275 P) bn bn))) (.node (zo_92 P) (.node (zo_124 P) (.node (zo_192 P) (.node (zo_327 P) bn bn) bn) (.node (zo_259 P) bn bn)) (.node (zo_156 P) (.node (zo_224 P) bn bn) (.node (zo_295 P) bn bn)))) (.node (zo_68 P) (.node (zo_84 P) (.node (zo_116 P) (.node (zo_184 P) (.node (zo_319 P) bn bn) bn) (.node (zo_251 P) bn bn)) (.node (zo_148 P) (.node (zo_216 P) bn bn) (.node (zo_285 P) bn bn))) (.node (zo_100 P) (.node (zo_132 P) (.node (zo_200 P) (.node (zo_335 P) bn bn) bn) (.node (zo_267 P) bn bn)) (.node (zo_166 P) (.node (zo_235 P) bn bn) (.node (zo_303 P) bn bn)))))))
noncomputable def ztree_378 (P : Params) : BT := .node (PySem.W.boot_o_0 P) (.node (PySem.W.boot_o_1 P) (.node (zo_349 P) (.node (PySem.W.boot_o_7 P) (.node (zo_51 P) (.node (zo_69 P) (.node (zo_101 P) (.node (zo_169 P) (.node (zo_304 P) bn bn) bn) (.node (zo_236 P) (.node (zo_370 P) bn bn) bn)) (.node (zo_133 P) (.node (zo_201 P) (.node (zo_336 P) bn bn) bn) (.node (zo_268 P) bn bn))) (.node (zo_85 P) (.node (zo_117 P) (.node (zo_185 P) (.node (zo_320 P) bn bn) bn) (.node (zo_252 P) bn bn)) (.node (zo_149 P) (.node (zo_217 P) (.node (zo_354 P) bn bn) bn) (.node (zo_288 P) bn bn)))) (.node (zo_59 P) (.node (zo_77 P) (.node (zo_109 P) (.node (zo_177 P) (.node (zo_312 P) bn bn) bn) (.node (zo_244 P) (.node (zo_378 P) bn bn) bn)) (.node (zo_141 P) (.node (zo_209 P) (.node (zo_344 P) bn bn) bn) (.node (zo_276 P) bn bn))) (.node (zo_93 P) (.node (zo_125 P) (.node (zo_193 P) (.node (zo_328 P) bn bn) bn) (.node (zo_260 P) bn bn)) (.node (zo_157 P) (.node (zo_225 P) (.node (zo_362 P) bn bn) bn) (.node (zo_296 P) bn bn))))) (.node (zo_43 P) (.node (zo_55 P) (.node (zo_73 P) (.node (zo_105 P) (.node (zo_173 P) (.node (zo_308 P) bn bn) bn) (.node (zo_240 P) (.node (zo_374 P) bn bn) bn)) (.node (zo_137 P) (.node (zo_205 P) (.node (zo_340 P) bn bn) bn) (.node (zo_272 P) bn bn))) (.node (zo_89 P) (.node (zo_121 P) (.node (zo_189 P) (.node (zo_324 P) bn bn) bn) (.node (zo_256 P) bn bn)) (.node (zo_153 P) (.node (zo_221 P) (.node (zo_358 P) bn bn) bn) (.node (zo_292 P) bn bn)))) (.node (zo_63 P) (.node (zo_81 P) (.node (zo_113 P) (.node (zo_181 P) (.node (zo_316 P) bn bn) bn) (.node (zo_248 P) bn bn)) (.node (zo_145 P) (.node (zo_213 P) (.node (zo_348 P) bn bn) bn) (.node (zo_282 P) bn bn))) (.node (zo_97 P) (.node (zo_129 P) (.node (zo_197 P) (.node (zo_332 P) bn bn) bn) (.node (zo_264 P) bn bn)) (.node (zo_163 P) (.node (zo_232 P) (.node (zo_366 P) bn bn) bn) (.node (zo_300 P) bn bn)))))) (.node (PySem.W.boot_o_5 P) (.node (PySem.W.boot_o_9 P) (.node (zo_53 P) (.node (zo_71 P) (.node (zo_103 P) (.node (zo_171 P) (.node (zo_306 P) bn bn) bn) (.node (zo_238 P) (.node (zo_372 P) bn bn) bn)) (.node (zo_135 P) (.node (zo_203 P) (.node (zo_338 P) bn bn) bn) (.node (zo_270 P) bn bn))) (.node (zo_87 P) (.node (zo_119 P) (.node (zo_187 P) (.node (zo_322 P) bn bn) bn) (.node (zo_254 P) bn bn)) (.node (zo_151 P) (.node (zo_219 P) (.node (zo_356 P) bn bn) bn) (.node (zo_290 P) bn bn)))) (.node (zo_61 P) (.node (zo_79 P) (.node (zo_111 P) (.node (zo_179 P) (.node (zo_314 P) bn bn) bn) (.node (zo_246 P) bn bn)) (.node (zo_143 P) (.node (zo_211 P) (.node (zo_346 P) bn bn) bn) (.node (zo_280 P) bn bn))) (.node (zo_95 P) (.node (zo_127 P) (.node (zo_195 P) (.node (zo_330 P) bn bn) bn) (.node (zo_262 P) bn bn)) (.node (zo_161 P) (.node (zo_230 P) (.node (zo_364 P) bn bn) bn) (.node (zo_298 P) bn bn))))) (.node (zo_45 P) (.node (zo_57 P) (.node (zo_75 P) (.node (zo_107 P) (.node (zo_175 P) (.node (zo_310 P) bn bn) bn) (.node (zo_242 P) (.node (zo_376 P) bn bn) bn)) (.node (zo_139 P) (.node (zo_207 P) (.node (zo_342 P) bn bn) bn) (.node (zo_274 P) bn bn))) (.node (zo_91 P) (.node (zo_123 P) (.node (zo_191 P) (.node (zo_326 P) bn bn) bn) (.node (zo_258 P) bn bn)) (.node (zo_155 P) (.node (zo_223 P) (.node (zo_360 P) bn bn) bn) (.node (zo_294 P) bn bn)))) (.node (zo_67 P) (.node (zo_83 P) (.node (zo_115 P) (.node (zo_183 P) (.node (zo_318 P) bn bn) bn) (.node (zo_250 P) bn bn)) (.node (zo_147 P) (.node (zo_215 P) (.node (zo_352 P) bn bn) bn) (.node (zo_284 P) bn bn))) (.node (zo_99 P) (.node (zo_131 P) (.node (zo_199 P) (.node (zo_334 P) bn bn) bn) (.node (zo_266 P) bn bn)) (.node (zo_165 P) (.node (zo_234 P) (.node (zo_368 P) bn bn) bn) (.node (zo_302 P) bn bn))))))) (.node (zo_226 P) (.node (PySem.W.boot_o_4 P) (.node (PySem.W.boot_o_8 P) (.node (zo_52 P) (.node (zo_70 P) (.node (zo_102 P) (.node (zo_170 P) (.node (zo_305 P) bn bn) bn) (.node (zo_237 P) (.node (zo_371 P) bn bn) bn)) (.node (zo_134 P) (.node (zo_202 P) (.node (zo_337 P) bn bn) bn) (.node (zo_269 P) bn bn))) (.node (zo_86 P) (.node (zo_118 P) (.node (zo_186 P) (.node (zo_321 P) bn bn) bn) (.node (zo_253 P) bn bn)) (.node (zo_150 P) (.node (zo_218 P) (.node (zo_355 P) bn bn) bn) (.node (zo_289 P) bn bn)))) (.node (zo_60 P) (.node (zo_78 P) (.node (zo_110 P) (.node (zo_178 P) (.node (zo_313 P) bn bn) bn) (.node (zo_245 P) bn bn)) (.node (zo_142 P) (.node (zo_210 P) (.node (zo_345 P) bn bn) bn) (.node (zo_279 P) bn bn))) (.node (zo_94 P) (.node (zo_126 P) (.node (zo_194 P) (.node (zo_329 P) bn bn) bn) (.node (zo_261 P) bn bn)) (.node (zo_160 P) (.node (zo_229 P) (.node (zo_363 P) bn bn) bn) (.node (zo_297 P) bn bn))))) (.node (zo_350 P) (.node (zo_56 P) (.node (zo_74 P) (.node (zo_106 P) (.node (zo_174 P) (.node (zo_309 P) bn bn) bn) (.node (zo_241 P) (.node (zo_375 P) bn bn) bn)) (.node (zo_138 P) (.node (zo_206 P) (.node (zo_341 P) bn bn) bn) (.node (zo_273 P) bn bn))) (.node (zo_90 P) (.node (zo_122 P) (.node (zo_190 P) (.node (zo_325 P) bn bn) bn) (.node (zo_257 P) bn bn)) (.node (zo_154 P) (.node (zo_222 P) (.node (zo_359 P) bn bn) bn) (.node (zo_293 P) bn bn)))) (.node (zo_64 P) (.node (zo_82 P) (.node (zo_114 P) (.node (zo_182 P) (.node (zo_317 P) bn bn) bn) (.node (zo_249 P) bn bn)) (.node (zo_146 P) (.node (zo_214 P) (.node (zo_351 P) bn bn) bn) (.node (zo_283 P) bn bn))) (.node (zo_98 P) (.node (zo_130 P) (.node (zo_198 P) (.node (zo_333 P) bn bn) bn) (.node (zo_265 P) bn bn)) (.node (zo_164 P) (.node (zo_233 P) (.node (zo_367 P) bn bn) bn) (.node (zo_301 P) bn bn)))))) (.node (PySem.W.boot_o_6 P) (.node (PySem.W.boot_o_10 P) (.node (zo_54 P) (.node (zo_72 P) (.node (zo_104 P) (.node (zo_172 P) (.node (zo_307 P) bn bn) bn) (.node (zo_239 P) (.node (zo_373 P) bn bn) bn)) (.node (zo_136 P) (.node (zo_204 P) (.node (zo_339 P) bn bn) bn) (.node (zo_271 P) bn bn))) (.node (zo_88 P) (.node (zo_120 P) (.node (zo_188 P) (.node (zo_323 P) bn bn) bn) (.node (zo_255 P) bn bn)) (.node (zo_152 P) (.node (zo_220 P) (.node (zo_357 P) bn bn) bn) (.node (zo_291 P) bn bn)))) (.node (zo_62 P) (.node (zo_80 P) (.node (zo_112 P) (.node (zo_180 P) (.node (zo_315 P) bn bn) bn) (.node (zo_247 P) bn bn)) (.node (zo_144 P) (.node (zo_212 P) (.node (zo_347 P) bn bn) bn) (.node (zo_281 P) bn bn))) (.node (zo_96 P) (.node (zo_128 P) (.node (zo_196 P) (.node (zo_331 P) bn bn) bn) (.node (zo_263 P) bn bn)) (.node (zo_162 P) (.node (zo_231 P) (.node (zo_365 P) bn bn) bn) (.node (zo_299 P) bn bn))))) (.node (zo_46 P) (.node (zo_58 P) (.node (zo_76 P) (.node (zo_108 P) (.node (zo_176 P) (.node (zo_311 P) bn bn) bn) (.node (zo_243 P) (.node (zo_377 P) bn bn) bn)) (.node (zo_140 P) (.node (zo_208 P) (.node (zo_343 P) bn bn) bn) (.node (zo_275 P) bn bn))) (.node (zo_92 P) (.node (zo_124 P) (.node (zo_192 P) (.node (zo_327 P) bn bn) bn) (.node (zo_259 P) bn bn)) (.node (zo_156 P) (.node (zo_224 P) (.node (zo_361 P) bn bn) bn) (.node (zo_295 P) bn bn)))) (.node (zo_68 P) (.node (zo_84 P) (.node (zo_116 P) (.node (zo_184 P) (.node (zo_319 P) bn bn) bn) (.node (zo_251 P) bn bn)) (.node (zo_148 P) (.node (zo_216 P) (.node (zo_353 P) bn bn) bn) (.node (zo_285 P) bn bn))) (.node (zo_100 P) (.node (zo_132 P) (.node (zo_200 P) (.node (zo_335 P) bn bn) bn) (.node (zo_267 P) bn bn)) (.node (zo_166 P) (.node (zo_235 P) (.node (zo_369 P) bn bn) bn) (.node (zo_303 P) bn bn)))))))
noncomputable def ztree_527 (P : Params) : BT := .node (PySem.W.boot_o_0 P) (.node (PySem.W.boot_o_1 P) (.node (zo_379 P) (.node (PySem.W.boot_o_7 P) (.node (zo_51 P) (.node (zo_69 P) (.node (zo_101 P) (.node (zo_169 P) (.node (zo_304 P) bn bn) (.node (zo_436 P) bn bn)) (.node (zo_236 P) (.node (zo_370 P) bn bn) (.node (zo_500 P) bn bn))) (.node (zo_133 P) (.node (zo_201 P) (.node (zo_336 P) bn bn) (.node (zo_468 P) bn bn)) (.node (zo_268 P) (.node (zo_404 P) bn bn) bn))) (.node (zo_85 P) (.node (zo_117 P) (.node (zo_185 P) (.node (zo_320 P) bn bn) (.node (zo_452 P) bn bn)) (.node (zo_252 P) (.node (zo_388 P) bn bn) (.node (zo_516 P) bn bn))) (.node (zo_149 P) (.node (zo_217 P) (.node (zo_354 P) bn bn) (.node (zo_484 P) bn bn)) (.node (zo_288 P) (.node (zo_420 P) bn bn) bn)))) (.node (zo_59 P) (.node (zo_77 P) (.node (zo_109 P) (.node (zo_177 P) (.node (zo_312 P) bn bn) (.node (zo_444 P) bn bn)) (.node (zo_244 P) (.node (zo_378 P) bn bn) (.node (zo_508 P) bn bn))) (.node (zo_141 P) (.node (zo_209 P) (.node (zo_344 P) bn bn) (.node (zo_476 P) bn bn)) (.node (zo_276 P) (.node (zo_412 P) bn bn) bn))) (.node (zo_93 P) (.node (zo_125 P) (.node (zo_193 P) (.node (zo_328 P) bn bn) (.node (zo_460 P) bn bn)) (.node (zo_260 P) (.node (zo_396 P) bn bn) (.node (zo_524 P) bn bn))) (.node (zo_157 P) (.node (zo_225 P) (.node (zo_362 P) bn bn) (.node (zo_492 P) bn bn)) (.node (zo_296 P) (.node (zo_428 P) bn bn) bn))))) (.node (zo_43 P) (.node (zo_55 P) (.node (zo_73 P) (.node (zo_105 P) (.node (zo_173 P) (.node (zo_308 P) bn bn) (.node (zo_440 P) bn bn)) (.node (zo_240 P) (.node (zo_374 P) bn bn) (.node (zo_504 P) bn bn))) (.node (zo_137 P) (.node (zo_205 P) (.node (zo_340 P) bn bn) (.node (zo_472 P) bn bn)) (.node (zo_272 P) (.node (zo_408 P) bn bn) bn))) (.node (zo_89 P) (.node (zo_121 P) (.node (zo_189 P) (.node (zo_324 P) bn bn) (.node (zo_456 P) bn bn)) (.node (zo_256 P) (.node (zo_392 P) bn bn) (.node (zo_520 P) bn bn))) (.node (zo_153 P) (.node (zo_221 P) (.node (zo_358 P) bn bn) (.node (zo_488 P) bn bn)) (.node (zo_292 P) (.node (zo_424 P) bn bn) bn)))) (.node (zo_63 P) (.node (zo_81 P) (.node (zo_113 P) (.node (zo_181 P) (.node (zo_316 P) bn bn) (.node (zo_448 P) bn bn)) (.node (zo_248 P) (.node (zo_384 P) bn bn) (.node (zo_512 P) bn bn))) (.node (zo_145 P) (.node (zo_213 P) (.node (zo_348 P) bn bn) (.node (zo_480 P) bn bn)) (.node (zo_282 P) (.node (zo_416 P) bn bn) bn))) (.node (zo_97 P) (.node (zo_129 P) (.node (zo_197 P) (.node (zo_332 P) bn bn) (.node (zo_464 P) bn bn)) (.node (zo_264 P) (.node (zo_400 P) bn bn) bn)) (.node (zo_163 P) (.node (zo_232 P) (.node (zo_366 P) bn bn) (.node (zo_496 P) bn bn)) (.node (zo_300 P) (.node (zo_432 P) bn bn) bn)))))) (.node (PySem.W.boot_o_5 P) (.node (PySem.W.boot_o_9 P) (.node (zo_53 P) (.node (zo_71 P) (.node (zo_103 P) (.node (zo_171 P) (.node (zo_306 P) bn bn) (.node (zo_438 P) bn bn)) (.node (zo_238 P) (.node (zo_372 P) bn bn) (.node (zo_502 P) bn bn))) (.node (zo_135 P) (.node (zo_203 P) (.node (zo_338 P) bn bn) (.node (zo_470 P) bn bn)) (.node (zo_270 P) (.node (zo_406 P) bn bn) bn))) (.node (zo_87 P) (.node (zo_119 P) (.node (zo_187 P) (.node (zo_322 P) bn bn) (.node (zo_454 P) bn bn)) (.node (zo_254 P) (.node (zo_390 P) bn bn) (.node (zo_518 P) bn bn))) (.node (zo_151 P) (.node (zo_219 P) (.node (zo_356 P) bn bn) (.node (zo_486 P) bn bn)) (.node (zo_290 P) (.node (zo_422 P) bn bn) bn)))) (.node (zo_61 P) (.node (zo_79 P) (.node (zo_111 P) (.node (zo_179 P) (.node (zo_314 P) bn bn) (.node (zo_446 P) bn bn)) (.node (zo_246 P) (.node (zo_382 P) bn bn) (.node (zo_510 P) bn bn))) (.node (zo_143 P) (.node (zo_211 P) (.node (zo_346 P) bn bn) (.node (zo_478 P) bn bn)) (.node (zo_280 P) (.node (zo_414 P) bn bn) bn))) (.node (zo_95 P) (.node (zo_127 P) (.node (zo_195 P) (.node (zo_330 P) bn bn) (.node (zo_462 P) bn bn)) (.node (zo_262 P) (.node (zo_398 P) bn bn) (.node (zo_526 P) bn bn))) (.node (zo_161 P) (.node (zo_230 P) (.node (zo_364 P) bn bn) (.node (zo_494 P) bn bn)) (.node (zo_298 P) (.node (zo_430 P) bn bn) bn))))) (.node (zo_45 P) (.node (zo_57 P) (.node (zo_75 P) (.node (zo_107 P) (.node (zo_175 P) (.node (zo_310 P) bn bn) (.node (zo_442 P) bn bn)) (.node (zo_242 P) (.node (zo_376 P) bn bn) (.node (zo_506 P) bn bn))) (.node (zo_139 P) (.node (zo_207 P) (.node (zo_342 P) bn bn) (.node (zo_474 P) bn bn)) (.node (zo_274 P) (.node (zo_410 P) bn bn) bn))) (.node (zo_91 P) (.node (zo_123 P) (.node (zo_191 P) (.node (zo_326 P) bn bn) (.node (zo_458 P) bn bn)) (.node (zo_258 P) (.node (zo_394 P) bn bn) (.node (zo_522 P) bn bn))) (.node (zo_155 P) (.node (zo_223 P) (.node (zo_360 P) bn bn) (.node (zo_490 P) bn bn)) (.node (zo_294 P) (.node (zo_426 P) bn bn) bn)))) (.node (zo_67 P) (.node (zo_83 P) (.node (zo_115 P) (.node (zo_183 P) (.node (zo_318 P) bn bn) (.node (zo_450 P) bn bn)) (.node (zo_250 P) (.node (zo_386 P) bn bn) (.node (zo_514 P) bn bn))) (.node (zo_147 P) (.node (zo_215 P) (.node (zo_352 P) bn bn) (.node (zo_482 P) bn bn)) (.node (zo_284 P) (.node (zo_418 P) bn bn) bn))) (.node (zo_99 P) (.node (zo_131 P) (.node (zo_199 P) (.node (zo_334 P) bn bn) (.node (zo_466 P) bn bn)) (.node (zo_266 P) (.node (zo_402 P) bn bn) bn)) (.node (zo_165 P) (.node (zo_234 P) (.node (zo_368 P) bn bn) (.node (zo_498 P) bn bn)) (.node (zo_302 P) (.node (zo_434 P) bn bn) bn))))))) (.node (zo_226 P) (.node (PySem.W.boot_o_4 P) (.node (PySem.W.boot_o_8 P) (.node (zo_52 P) (.node (zo_70 P) (.node (zo_102 P) (.node (zo_170 P) (.node (zo_305 P) bn bn) (.node (zo_437 P) bn bn)) (.node (zo_237 P) (.node (zo_371 P) bn bn) (.node (zo_501 P) bn bn))) (.node (zo_134 P) (.node (zo_202 P) (.node (zo_337 P) bn bn) (.node (zo_469 P) bn bn)) (.node (zo_269 P) (.node (zo_405 P) bn bn) bn))) (.node (zo_86 P) (.node (zo_118 P) (.node (zo_186 P) (.node (zo_321 P) bn bn) (.node (zo_453 P) bn bn)) (.node (zo_253 P) (.node (zo_389 P) bn bn) (.node (zo_517 P) bn bn))) (.node (zo_150 P) (.node (zo_218 P) (.node (zo_355 P) bn bn) (.node (zo_485 P) bn bn)) (.node (zo_289 P) (.node (zo_421 P) bn bn) bn)))) (.node (zo_60 P) (.node (zo_78 P) (.node (zo_110 P) (.node (zo_178 P) (.node (zo_313 P) bn bn) (.node (zo_445 P) bn bn)) (.node (zo_245 P) (.node (zo_381 P) bn bn) (.node (zo_509 P) bn bn))) (.node (zo_142 P) (.node (zo_210 P) (.node (zo_345 P) bn bn) (.node (zo_477 P) bn bn)) (.node (zo_279 P) (.node (zo_413 P) bn bn) bn))) (.node (zo_94 P) (.node (zo_126 P) (.node (zo_194 P) (.node (zo_329 P) bn bn) (.node (zo_461 P) bn bn)) (.node (zo_261 P) (.node (zo_397 P) bn bn) (.node (zo_525 P) bn bn))) (.node (zo_160 P) (.node (zo_229 P) (.node (zo_363 P) bn bn) (.node (zo_493 P) bn bn)) (.node (zo_297 P) (.node (zo_429 P) bn bn) bn))))) (.node (zo_380 P) (.node (zo_56 P) (.node (zo_74 P) (.node (zo_106 P) (.node (zo_174 P) (.node (zo_309 P) bn bn) (.node (zo_441 P) bn bn)) (.node (zo_241 P) (.node (zo_375 P) bn bn) (.node (zo_505 P) bn bn))) (.node (zo_138 P) (.node (zo_206 P) (.node (zo_341 P) bn bn) (.node (zo_473 P) bn bn)) (.node (zo_273 P) (.node (zo_409 P) bn bn) bn))) (.node (zo_90 P) (.node (zo_122 P) (.node (zo_190 P) (.node (zo_325 P) bn bn) (.node (zo_457 P) bn bn)) (.node (zo_257 P) (.node (zo_393 P) bn bn) (.node (zo_521 P) bn bn))) (.node (zo_154 P) (.node (zo_222 P) (.node (zo_359 P) bn bn) (.node (zo_489 P) bn bn)) (.node (zo_293 P) (.node (zo_425 P) bn bn) bn)))) (.node (zo_64 P) (.node (zo_82 P) (.node (zo_114 P) (.node (zo_182 P) (.node (zo_317 P) bn bn) (.node (zo_449 P) bn bn)) (.node (zo_249 P) (.node (zo_385 P) bn bn) (.node (zo_513 P) bn bn))) (.node (zo_146 P) (.node (zo_214 P) (.node (zo_351 P) bn bn) (.node (zo_481 P) bn bn)) (.node (zo_283 P) (.node (zo_417 P) bn bn) bn))) (.node (zo_98 P) (.node (zo_130 P) (.node (zo_198 P) (.node (zo_333 P) bn bn) (.node (zo_465 P) bn bn)) (.node (zo_265 P) (.node (zo_401 P) bn bn) bn)) (.node (zo_164 P) (.node (zo_233 P) (.node (zo_367 P) bn bn) (.node (zo_497 P) bn bn)) (.node (zo_301 P) (.node (zo_433 P) bn bn) bn)))))) (.node (PySem.W.boot_o_6 P) (.node (PySem.W.boot_o_10 P) (.node (zo_54 P) (.node (zo_72 P) (.node (zo_104 P) (.node (zo_172 P) (.node (zo_307 P) bn bn) (.node (zo_439 P) bn bn)) (.node (zo_239 P) (.node (zo_373 P) bn bn) (.node (zo_503 P) bn bn))) (.node (zo_136 P) (.node (zo_204 P) (.node (zo_339 P) bn bn) (.node (zo_471 P) bn bn)) (.node (zo_271 P) (.node (zo_407 P) bn bn) bn))) (.node (zo_88 P) (.node (zo_120 P) (.node (zo_188 P) (.node (zo_323 P) bn bn) (.node (zo_455 P) bn bn)) (.node (zo_255 P) (.node (zo_391 P) bn bn) (.node (zo_519 P) bn bn))) (.node (zo_152 P) (.node (zo_220 P) (.node (zo_357 P) bn bn) (.node (zo_487 P) bn bn)) (.node (zo_291 P) (.node (zo_423 P) bn bn) bn)))) (.node (zo_62 P) (.node (zo_80 P) (.node (zo_112 P) (.node (zo_180 P) (.node (zo_315 P) bn bn) (.node (zo_447 P) bn bn)) (.node (zo_247 P) (.node (zo_383 P) bn bn) (.node (zo_511 P) bn bn))) (.node (zo_144 P) (.node (zo_212 P) (.node (zo_347 P) bn bn) (.node (zo_479 P) bn bn)) (.node (zo_281 P) (.node (zo_415 P) bn bn) bn))) (.node (zo_96 P) (.node (zo_128 P) (.node (zo_196 P) (.node (zo_331 P) bn bn) (.node (zo_463 P) bn bn)) (.node (zo_263 P) (.node (zo_399 P) bn bn) (.node (zo_527 P) bn bn))) (.node (zo_162 P) (.node (zo_231 P) (.node (zo_365 P) bn bn) (.node (zo_495 P) bn bn)) (.node (zo_299 P) (.node (zo_431 P) bn bn) bn))))) (.node (zo_46 P) (.node (zo_58 P) (.node (zo_76 P) (.node (zo_108 P) (.node (zo_176 P) (.node (zo_311 P) bn bn) (.node (zo_443 P) bn bn)) (.node (zo_243 P) (.node (zo_377 P) bn bn) (.node (zo_507 P) bn bn))) (.node (zo_140 P) (.node (zo_208 P) (.node (zo_343 P) bn bn) (.node (zo_475 P) bn bn)) (.node (zo_275 P) (.node (zo_411 P) bn bn) bn))) (.node (zo_92 P) (.node (zo_124 P) (.node (zo_192 P) (.node (zo_327 P) bn bn) (.node (zo_459 P) bn bn)) (.node (zo_259 P) (.node (zo_395 P) bn bn) (.node (zo_523 P) bn bn))) (.node (zo_156 P) (.node (zo_224 P) (.node (zo_361 P) bn bn) (.node (zo_491 P) bn bn)) (.node (zo_295 P) (.node (zo_427 P) bn bn) bn)))) (.node (zo_68 P) (.node (zo_84 P) (.node (zo_116 P) (.node (zo_184 P) (.node (zo_319 P) bn bn) (.node (zo_451 P) bn bn)) (.node (zo_251 P) (.node (zo_387 P) bn bn) (.node (zo_515 P) bn bn))) (.node (zo_148 P) (.node (zo_216 P) (.node (zo_353 P) bn bn) (.node (zo_483 P) bn bn)) (.node (zo_285 P) (.node (zo_419 P) bn bn) bn))) (.node (zo_100 P) (.node (zo_132 P) (.node (zo_200 P) (.node (zo_335 P) bn bn) (.node (zo_467 P) bn bn)) (.node (zo_267 P) (.node (zo_403 P) bn bn) bn)) (.node (zo_166 P) (.node (zo_235 P) (.node (zo_369 P) bn bn) (.node (zo_499 P) bn bn)) (.node (zo_303 P) (.node (zo_435 P) bn bn) bn)))))))
noncomputable def ztree_650 (P : Params) : BT := .node (PySem.W.boot_o_0 P) (.node (PySem.W.boot_o_1 P) (.node (zo_616 P) (.node (PySem.W.boot_o_7 P) (.node (zo_51 P) (.node (zo_69 P) (.node (zo_101 P) (.node (zo_169 P) (.node (zo_304 P) bn bn) (.node (zo_436 P) bn bn)) (.node (zo_236 P) (.node (zo_370 P) bn bn) (.node (zo_500 P) bn bn))) (.node (zo_133 P) (.node (zo_201 P) (.node (zo_336 P) bn bn) (.node (zo_468 P) bn bn)) (.node (zo_268 P) (.node (zo_404 P) bn bn) (.node (zo_622 P) bn bn)))) (.node (zo_85 P) (.node (zo_117 P) (.node (zo_185 P) (.node (zo_320 P) bn bn) (.node (zo_452 P) bn bn)) (.node (zo_252 P) (.node (zo_388 P) bn bn) (.node (zo_516 P) bn bn))) (.node (zo_149 P) (.node (zo_217 P) (.node (zo_354 P) bn bn) (.node (zo_484 P) bn bn)) (.node (zo_288 P) (.node (zo_420 P) bn bn) (.node (zo_638 P) bn bn))))) (.node (zo_59 P) (.node (zo_77 P) (.node (zo_109 P) (.node (zo_177 P) (.node (zo_312 P) bn bn) (.node (zo_444 P) bn bn)) (.node (zo_244 P) (.node (zo_378 P) bn bn) (.node (zo_508 P) bn bn))) (.node (zo_141 P) (.node (zo_209 P) (.node (zo_344 P) bn bn) (.node (zo_476 P) bn bn)) (.node (zo_276 P) (.node (zo_412 P) bn bn) (.node (zo_630 P) bn bn)))) (.node (zo_93 P) (.node (zo_125 P) (.node (zo_193 P) (.node (zo_328 P) bn bn) (.node (zo_460 P) bn bn)) (.node (zo_260 P) (.node (zo_396 P) bn bn) (.node (zo_524 P) bn bn))) (.node (zo_157 P) (.node (zo_225 P) (.node (zo_362 P) bn bn) (.node (zo_492 P) bn bn)) (.node (zo_296 P) (.node (zo_428 P) bn bn) (.node (zo_646 P) bn bn)))))) (.node (zo_43 P) (.node (zo_55 P) (.node (zo_73 P) (.node (zo_105 P) (.node (zo_173 P) (.node (zo_308 P) bn bn) (.node (zo_440 P) bn bn)) (.node (zo_240 P) (.node (zo_374 P) bn bn) (.node (zo_504 P) bn bn))) (.node (zo_137 P) (.node (zo_205 P) (.node (zo_340 P) bn bn) (.node (zo_472 P) bn bn)) (.node (zo_272 P) (.node (zo_408 P) bn bn) (.node (zo_626 P) bn bn)))) (.node (zo_89 P) (.node (zo_121 P) (.node (zo_189 P) (.node (zo_324 P) bn bn) (.node (zo_456 P) bn bn)) (.node (zo_256 P) (.node (zo_392 P) bn bn) (.node (zo_520 P) bn bn))) (.node (zo_153 P) (.node (zo_221 P) (.node (zo_358 P) bn bn) (.node (zo_488 P) bn bn)) (.node (zo_292 P) (.node (zo_424 P) bn bn) (.node (zo_642 P) bn bn))))) (.node (zo_63 P) (.node (zo_81 P) (.node (zo_113 P) (.node (zo_181 P) (.node (zo_316 P) bn bn) (.node (zo_448 P) bn bn)) (.node (zo_248 P) (.node (zo_384 P) bn bn) (.node (zo_512 P) bn bn))) (.node (zo_145 P) (.node (zo_213 P) (.node (zo_348 P) bn bn) (.node (zo_480 P) bn bn)) (.node (zo_282 P) (.node (zo_416 P) bn bn) (.node (zo_634 P) bn bn)))) (.node (zo_97 P) (.node (zo_129 P) (.node (zo_197 P) (.node (zo_332 P) bn bn) (.node (zo_464 P) bn bn)) (.node (zo_264 P) (.node (zo_400 P) bn bn) (.node (zo_618 P) bn bn))) (.node (zo_163 P) (.node (zo_232 P) (.node (zo_366 P) bn bn) (.node (zo_496 P) bn bn)) (.node (zo_300 P) (.node (zo_432 P) bn bn) (.node (zo_650 P) bn bn))))))) (.node (PySem.W.boot_o_5 P) (.node (PySem.W.boot_o_9 P) (.node (zo_53 P) (.node (zo_71 P) (.node (zo_103 P) (.node (zo_171 P) (.node (zo_306 P) bn bn) (.node (zo_438 P) bn bn)) (.node (zo_238 P) (.node (zo_372 P) bn bn) (.node (zo_502 P) bn bn))) (.node (zo_135 P) (.node (zo_203 P) (.node (zo_338 P) bn bn) (.node (zo_470 P) bn bn)) (.node (zo_270 P) (.node (zo_406 P) bn bn) (.node (zo_624 P) bn bn)))) (.node (zo_87 P) (.node (zo_119 P) (.node (zo_187 P) (.node (zo_322 P) bn bn) (.node (zo_454 P) bn bn)) (.node (zo_254 P) (.node (zo_390 P) bn bn) (.node (zo_518 P) bn bn))) (.node (zo_151 P) (.node (zo_219 P) (.node (zo_356 P) bn bn) (.node (zo_486 P) bn bn)) (.node (zo_290 P) (.node (zo_422 P) bn bn) (.node (zo_640 P) bn bn))))) (.node (zo_61 P) (.node (zo_79 P) (.node (zo_111 P) (.node (zo_179 P) (.node (zo_314 P) bn bn) (.node (zo_446 P) bn bn)) (.node (zo_246 P) (.node (zo_382 P) bn bn) (.node (zo_510 P) bn bn))) (.node (zo_143 P) (.node (zo_211 P) (.node (zo_346 P) bn bn) (.node (zo_478 P) bn bn)) (.node (zo_280 P) (.node (zo_414 P) bn bn) (.node (zo_632 P) bn bn)))) (.node (zo_95 P) (.node (zo_127 P) (.node (zo_195 P) (.node (zo_330 P) bn bn) (.node (zo_462 P) bn bn)) (.node (zo_262 P) (.node (zo_398 P) bn bn) (.node (zo_526 P) bn bn))) (.node (zo_161 P) (.node (zo_230 P) (.node (zo_364 P) bn bn) (.node (zo_494 P) bn bn)) (.node (zo_298 P) (.node (zo_430 P) bn bn) (.node (zo_648 P) bn bn)))))) (.node (zo_45 P) (.node (zo_57 P) (.node (zo_75 P) (.node (zo_107 P) (.node (zo_175 P) (.node (zo_310 P) bn bn) (.node (zo_442 P) bn bn)) (.node (zo_242 P) (.node (zo_376 P) bn bn) (.node (zo_506 P) bn bn))) (.node (zo_139 P) (.node (zo_207 P) (.node (zo_342 P) bn bn) (.node (zo_474 P) bn bn)) (.node (zo_274 P) (.node (zo_410 P) bn bn) (.node (zo_628 P) bn bn)))) (.node (zo_91 P) (.node (zo_123 P) (.node (zo_191 P) (.node (zo_326 P) bn bn) (.node (zo_458 P) bn bn)) (.node (zo_258 P) (.node (zo_394 P) bn bn) (.node (zo_522 P) bn bn))) (.node (zo_155 P) (.node (zo_223 P) (.node (zo_360 P) bn bn) (.node (zo_490 P) bn bn)) (.node (zo_294 P) (.node (zo_426 P) bn bn) (.node (zo_644 P) bn bn))))) (.node (zo_67 P) (.node (zo_83 P) (.node (zo_115 P) (.node (zo_183 P) (.node (zo_318 P) bn bn) (.node (zo_450 P) bn bn)) (.node (zo_250 P) (.node (zo_386 P) bn bn) (.node (zo_514 P) bn bn))) (.node (zo_147 P) (.node (zo_215 P) (.node (zo_352 P) bn bn) (.node (zo_482 P) bn bn)) (.node (zo_284 P) (.node (zo_418 P) bn bn) (.node (zo_636 P) bn bn)))) (.node (zo_99 P) (.node (zo_131 P) (.node (zo_199 P) (.node (zo_334 P) bn bn) (.node (zo_466 P) bn bn)) (.node (zo_266 P) (.node (zo_402 P) bn bn) (.node (zo_620 P) bn bn))) (.node (zo_165 P) (.node (zo_234 P) (.node (zo_368 P) bn bn) (.node (zo_498 P) bn bn)) (.node (zo_302 P) (.node (zo_434 P) bn bn) bn))))))) (.node (zo_226 P) (.node (PySem.W.boot_o_4 P) (.node (PySem.W.boot_o_8 P) (.node (zo_52 P) (.node (zo_70 P) (.node (zo_102 P) (.node (zo_170 P) (.node (zo_305 P) bn bn) (.node (zo_437 P) bn bn)) (.node (zo_237 P) (.node (zo_371 P) bn bn) (.node (zo_501 P) bn bn))) (.node (zo_134 P) (.node (zo_202 P) (.node (zo_337 P) bn bn) (.node (zo_469 P) bn bn)) (.node (zo_269 P) (.node (zo_405 P) bn bn) (.node (zo_623 P) bn bn)))) (.node (zo_86 P) (.node (zo_118 P) (.node (zo_186 P) (.node (zo_321 P) bn bn) (.node (zo_453 P) bn bn)) (.node (zo_253 P) (.node (zo_389 P) bn bn) (.node (zo_517 P) bn bn))) (.node (zo_150 P) (.node (zo_218 P) (.node (zo_355 P) bn bn) (.node (zo_485 P) bn bn)) (.node (zo_289 P) (.node (zo_421 P) bn bn) (.node (zo_639 P) bn bn))))) (.node (zo_60 P) (.node (zo_78 P) (.node (zo_110 P) (.node (zo_178 P) (.node (zo_313 P) bn bn) (.node (zo_445 P) bn bn)) (.node (zo_245 P) (.node (zo_381 P) bn bn) (.node (zo_509 P) bn bn))) (.node (zo_142 P) (.node (zo_210 P) (.node (zo_345 P) bn bn) (.node (zo_477 P) bn bn)) (.node (zo_279 P) (.node (zo_413 P) bn bn) (.node (zo_631 P) bn bn)))) (.node (zo_94 P) (.node (zo_126 P) (.node (zo_194 P) (.node (zo_329 P) bn bn) (.node (zo_461 P) bn bn)) (.node (zo_261 P) (.node (zo_397 P) bn bn) (.node (zo_525 P) bn bn))) (.node (zo_160 P) (.node (zo_229 P) (.node (zo_363 P) bn bn) (.node (zo_493 P) bn bn)) (.node (zo_297 P) (.node (zo_429 P) bn bn) (.node (zo_647 P) bn bn)))))) (.node (zo_617 P) (.node (zo_56 P) (.node (zo_74 P) (.node (zo_106 P) (.node (zo_174 P) (.node (zo_309 P) bn bn) (.node (zo_441 P) bn bn)) (.node (zo_241 P) (.node (zo_375 P) bn bn) (.node (zo_505 P) bn bn))) (.node (zo_138 P) (.node (zo_206 P) (.node (zo_341 P) bn bn) (.node (zo_473 P) bn bn)) (.node (zo_273 P) (.node (zo_409 P) bn bn) (.node (zo_627 P) bn bn)))) (.node (zo_90 P) (.node (zo_122 P) (.node (zo_190 P) (.node (zo_325 P) bn bn) (.node (zo_457 P) bn bn)) (.node (zo_257 P) (.node (zo_393 P) bn bn) (.node (zo_521 P) bn bn))) (.node (zo_154 P) (.node (zo_222 P) (.node (zo_359 P) bn bn) (.node (zo_489 P) bn bn)) (.node (zo_293 P) (.node (zo_425 P) bn bn) (.node (zo_643 P) bn bn))))) (.node (zo_64 P) (.node (zo_82 P) (.node (zo_114 P) (.node (zo_182 P) (.node (zo_317 P) bn bn) (.node (zo_449 P) bn bn)) (.node (zo_249 P) (.node (zo_385 P) bn bn) (.node (zo_513 P) bn bn))) (.node (zo_146 P) (.node (zo_214 P) (.node (zo_351 P) bn bn) (.node (zo_481 P) bn bn)) (.node (zo_283 P) (.node (zo_417 P) bn bn) (.node (zo_635 P) bn bn)))) (.node (zo_98 P) (.node (zo_130 P) (.node (zo_198 P) (.node (zo_333 P) bn bn) (.node (zo_465 P) bn bn)) (.node (zo_265 P) (.node (zo_401 P) bn bn) (.node (zo_619 P) bn bn))) (.node (zo_164 P) (.node (zo_233 P) (.node (zo_367 P) bn bn) (.node (zo_497 P) bn bn)) (.node (zo_301 P) (.node (zo_433 P) bn bn) bn)))))) (.node (PySem.W.boot_o_6 P) (.node (PySem.W.boot_o_10 P) (.node (zo_54 P) (.node (zo_72 P) (.node (zo_104 P) (.node (zo_172 P) (.node (zo_307 P) bn bn) (.node (zo_439 P) bn bn)) (.node (zo_239 P) (.node (zo_373 P) bn bn) (.node (zo_503 P) bn bn))) (.node (zo_136 P) (.node (zo_204 P) (.node (zo_339 P) bn bn) (.node (zo_471 P) bn bn)) (.node (zo_271 P) (.node (zo_407 P) bn bn) (.node (zo_625 P) bn bn)))) (.node (zo_88 P) (.node (zo_120 P) (.node (zo_188 P) (.node (zo_323 P) bn bn) (.node (zo_455 P) bn bn)) (.node (zo_255 P) (.node (zo_391 P) bn bn) (.node (zo_519 P) bn bn))) (.node (zo_152 P) (.node (zo_220 P) (.node (zo_357 P) bn bn) (.node (zo_487 P) bn bn)) (.node (zo_291 P) (.node (zo_423 P) bn bn) (.node (zo_641 P) bn bn))))) (.node (zo_62 P) (.node (zo_80 P) (.node (zo_112 P) (.node (zo_180 P) (.node (zo_315 P) bn bn) (.node (zo_447 P) bn bn)) (.node (zo_247 P) (.node (zo_383 P) bn bn) (.node (zo_511 P) bn bn))) (.node (zo_144 P) (.node (zo_212 P) (.node (zo_347 P) bn bn) (.node (zo_479 P) bn bn)) (.node (zo_281 P) (.node (zo_415 P) bn bn) (.node (zo_633 P) bn bn)))) (.node (zo_96 P) (.node (zo_128 P) (.node (zo_196 P) (.node (zo_331 P) bn bn) (.node (zo_463 P) bn bn)) (.node (zo_263 P) (.node (zo_399 P) bn bn) (.node (zo_527 P) bn bn))) (.node (zo_162 P) (.node (zo_231 P) (.node (zo_365 P) bn bn) (.node (zo_495 P) bn bn)) (.node (zo_299 P) (.node (zo_431 P) bn bn) (.node (zo_649 P) bn bn)))))) (.node (zo_46 P) (.node (zo_58 P) (.node (zo_76 P) (.node (zo_108 P) (.node (zo_176 P) (.node (zo_311 P) bn bn) (.node (zo_443 P) bn bn)) (.node (zo_243 P) (.node (zo_377 P) bn bn) (.node (zo_507 P) bn bn))) (.node (zo_140 P) (.node (zo_208 P) (.node (zo_343 P) bn bn) (.node (zo_475 P) bn bn)) (.node (zo_275 P) (.node (zo_411 P) bn bn) (.node (zo_629 P) bn bn)))) (.node (zo_92 P) (.node (zo_124 P) (.node (zo_192 P) (.node (zo_327 P) bn bn) (.node (zo_459 P) bn bn)) (.node (zo_259 P) (.node (zo_395 P) bn bn) (.node (zo_523 P) bn bn))) (.node (zo_156 P) (.node (zo_224 P) (.node (zo_361 P) bn bn) (.node (zo_491 P) bn bn)) (.node (zo_295 P) (.node (zo_427 P) bn bn) (.node (zo_645 P) bn bn))))) (.node (zo_68 P) (.node (zo_84 P) (.node (zo_116 P) (.node (zo_184 P) (.node (zo_319 P) bn bn) (.node (zo_451 P) bn bn)) (.node (zo_251 P) (.node (zo_387 P) bn bn) (.node (zo_515 P) bn bn))) (.node (zo_148 P) (.node (zo_216 P) (.node (zo_353 P) bn bn) (.node (zo_483 P) bn bn)) (.node (zo_285 P) (.node (zo_419 P) bn bn) (.node (zo_637 P) bn bn)))) (.node (zo_100 P) (.node (zo_132 P) (.node (zo_200 P) (.node (zo_335 P) bn bn) (.node (zo_467 P) bn bn)) (.node (zo_267 P) (.node (zo_403 P) bn bn) (.node (zo_621 P) bn bn))) (.node (zo_166 P) (.node (zo_235 P) (.node (zo_369 P) bn bn) (.node (zo_499 P) bn bn)) (.node (zo_303 P) (.node (zo_435 P) bn bn) bn)))))))
noncomputable def zheap_46 (P : Params) : Heap := Heap.mk (Array.mk [(PySem.W.boot_o_0 P), (PySem.W.boot_o_1 P), (PySem.W.boot_o_2 P), (PySem.W.boot_o_3 P), (PySem.W.boot_o_4 P), (PySem.W.boot_o_5 P), (PySem.W.boot_o_6 P), (PySem.W.boot_o_7 P), (PySem.W.boot_o_8 P), (PySem.W.boot_o_9 P), (PySem.W.boot_o_10 P), (zo_43 P), (zo_44 P), (zo_45 P), (zo_46 P)]) zlife
noncomputable def zheap_651 (P : Params) : Heap := Heap.mk (Array.mk [(PySem.W.boot_o_0 P), (PySem.W.boot_o_1 P), (zo_226 P), (zo_616 P), (PySem.W.boot_o_4 P), (PySem.W.boot_o_5 P), (PySem.W.boot_o_6 P), (PySem.W.boot_o_7 P), (PySem.W.boot_o_8 P), (PySem.W.boot_o_9 P), (PySem.W.boot_o_10 P), (zo_43 P), (zo_617 P), (zo_45 P), (zo_46 P), (zo_51 P), (zo_52 P), (zo_53 P), (zo_54 P), (zo_55 P), (zo_56 P), (zo_57 P), (zo_58 P), (zo_59 P), (zo_60 P), (zo_61 P), (zo_62 P), (zo_63 P), (zo_64 P), (zo_67 P), (zo_68 P), (zo_69 P), (zo_70 P), (zo_71 P), (zo_72 P), (zo_73 P), (zo_74 P), (zo_75 P), (zo_76 P), (zo_77 P), (zo_78 P), (zo_79 P), (zo_80 P), (zo_81 P), (zo_82 P), (zo_83 P), (zo_84 P), (zo_85 P), (zo_86 P), (zo_87 P), (zo_88 P), (zo_89 P), (zo_90 P), (zo_91 P), (zo_92 P), (zo_93 P), (zo_94 P), (zo_95 P), (zo_96 P), (zo_97 P), (zo_98 P), (zo_99 P), (zo_100 P), (zo_101 P), (zo_102 P), (zo_103 P), (zo_104 P), (zo_105 P), (zo_106 P), (zo_107 P), (zo_108 P), (zo_109 P), (zo_110 P), (zo_111 P), (zo_112 P), (zo_113 P), (zo_114 P), (zo_115 P), (zo_116 P), (zo_117 P), (zo_118 P), (zo_119 P), (zo_120 P), (zo_121 P), (zo_122 P), (zo_123 P), (zo_124 P), (zo_125 P), (zo_126 P), (zo_127 P), (zo_128 P), (zo_129 P), (zo_130 P), (zo_131 P), (zo_132 P), (zo_133 P), (zo_134 P), (zo_135 P), (zo_136 P), (zo_137 P), (zo_138 P), (zo_139 P), (zo_140 P), (zo_141 P), (zo_142 P), (zo_143 P), (zo_144 P), (zo_145 P), (zo_146 P), (zo_147 P), (zo_148 P), (zo_149 P), (zo_150 P), (zo_151 P), (zo_152 P), (zo_153 P), (zo_154 P), (zo_155 P), (zo_156 P), (zo_157 P), (zo_160 P), (zo_161 P), (zo_162 P), (zo_163 P), (zo_164 P), (zo_165 P), (zo_166 P), (zo_169 P), (zo_170 P), (zo_171 P), (zo_172 P), (zo_173 P), (zo_174 P), (zo_175 P), (zo_176 P), (zo_177 P), (zo_178 P), (zo_179 P), (zo_180 P), (zo_181 P), (zo_182 P), (zo_183 P), (zo_184 P), (zo_185 P), (zo_186 P), (zo_187 P), (zo_188 P), (zo_189 P), (zo_190 P), (zo_191 P), (zo_192 P), (zo_193 P), (zo_194 P), (zo_195 P), (zo_196 P), (zo_197 P), (zo_198 P), (zo_199 P), (zo_200 P), (zo_201 P), (zo_202 P), (zo_203 P), (zo_204 P), (zo_205 P), (zo_206 P), (zo_207 P), (zo_208 P), (zo_209 P), (zo_210 P), (zo_211 P), (zo_212 P), (zo_213 P), (zo_214 P), (zo_215 P), (zo_216 P), (zo_217 P), (zo_218 P), (zo_219 P), (zo_220 P), (zo_221 P), (zo_222 P), (zo_223 P), (zo_224 P), (zo_225 P), (zo_229 P), (zo_230 P), (zo_231 P), (zo_232 P), (zo_233 P), (zo_234 P), (zo_235 P), (zo_236 P), (zo_237 P), (zo_238 P), (zo_239 P), (zo_240 P), (zo_241 P), (zo_242 P), (zo_243 P), (zo_244 P), (zo_245 P), (zo_246 P), (zo_247 P), (zo_248 P), (zo_249 P), (zo_250 P), (zo_251 P), (zo_252 P), (zo_253 P), (zo_254 P), (zo_255 P), (zo_256 P), (zo_257 P), (zo_258 P), (zo_259 P), (zo_260 P), (zo_261 P), (zo_262 P), (zo_263 P), (zo_264 P), (zo_265 P), (zo_266 P), (zo_267 P), (zo_268 P), (zo_269 P), (zo_270 P), (zo_271 P), (zo_272 P), (zo_273 P), (zo_274 P), (zo_275 P), (zo_276 P), (zo_279 P), (zo_280 P), (zo_281 P), (zo_282 P), (zo_283 P), (zo_284 P), (zo_285 P), (zo_288 P), (zo_289 P), (zo_290 P), (zo_291 P), (zo_292 P), (zo_293 P), (zo_294 P), (zo_295 P), (zo_296 P), (zo_297 P), (zo_298 P), (zo_299 P), (zo_300 P), (zo_301 P), (zo_302 P), (zo_303 P), (zo_304 P), (zo_305 P), (zo_306 P), (zo_307 P), (zo_308 P), (zo_309 P), (zo_310 P), (zo_311 P), (zo_312 P), (zo_313 P), (zo_314 P), (zo_315 P), (zo_316 P), (zo_317 P), (zo_318 P), (zo_319 P), (zo_320 P), (zo_321 P), (zo_322 P), (zo_323 P), (zo_324 P), (zo_325 P), (zo_326 P), (zo_327 P), (zo_328 P), (zo_329 P), (zo_330 P), (zo_331 P), (zo_332 P), (zo_333 P), (zo_334 P), (zo_335 P), (zo_336 P), (zo_337 P), (zo_338 P), (zo_339 P), (zo_340 P), (zo_341 P), (zo_342 P), (zo_343 P), (zo_344 P), (zo_345 P), (zo_346 P), (zo_347 P), (zo_348 P), (zo_351 P), (zo_352 P), (zo_353 P), (zo_354 P), (zo_355 P), (zo_356 P), (zo_357 P), (zo_358 P), (zo_359 P), (zo_360 P), (zo_361 P), (zo_362 P), (zo_363 P), (zo_364 P), (zo_365 P), (zo_366 P), (zo_367 P), (zo_368 P), (zo_369 P), (zo_370 P), (zo_371 P), (zo_372 P), (zo_373 P), (zo_374 P), (zo_375 P), (zo_376 P), (zo_377 P), (zo_378 P), (zo_381 P), (zo_382 P), (zo_383 P), (zo_384 P), (zo_385 P), (zo_386 P), (zo_387 P), (zo_388 P), (zo_389 P), (zo_390 P), (zo_391 P), (zo_392 P), (zo_393 P), (zo_394 P), (zo_395 P), (zo_396 P), (zo_397 P), (zo_398 P), (zo_399 P), (zo_400 P), (zo_401 P), (zo_402 P), (zo_403 P), (zo_404 P), (zo_405 P), (zo_406 P), (zo_407 P), (zo_408 P), (zo_409 P), (zo_410 P), (zo_411 P), (zo_412 P), (zo_413 P), (zo_414 P), (zo_415 P), (zo_416 P), (zo_417 P), (zo_418 P), (zo_419 P), (zo_420 P), (zo_421 P), (zo_422 P), (zo_423 P), (zo_424 P), (zo_425 P), (zo_426 P), (zo_427 P), (zo_428 P), (zo_429 P), (zo_430 P), (zo_431 P), (zo_432 P), (zo_433 P), (zo_434 P), (zo_435 P), (zo_436 P), (zo_437 P), (zo_438 P), (zo_439 P), (zo_440 P), (zo_441 P), (zo_442 P), (zo_443 P), (zo_444 P), (zo_445 P), (zo_446 P), (zo_447 P), (zo_448 P), (zo_449 P), (zo_450 P), (zo_451 P), (zo_452 P), (zo_453 P), (zo_454 P), (zo_455 P), (zo_456 P), (zo_457 P), (zo_458 P), (zo_459 P), (zo_460 P), (zo_461 P), (zo_462 P), (zo_463 P), (zo_464 P), (zo_465 P), (zo_466 P), (zo_467 P), (zo_468 P), (zo_469 P), (zo_470 P), (zo_471 P), (zo_472 P), (zo_473 P), (zo_474 P), (zo_475 P), (zo_476 P), (zo_477 P), (zo_478 P), (zo_479 P), (zo_480 P), (zo_481 P), (zo_482 P), (zo_483 P), (zo_484 P), (zo_485 P), (zo_486 P), (zo_487 P), (zo_488 P), (zo_489 P), (zo_490 P), (zo_491 P), (zo_492 P), (zo_493 P), (zo_494 P), (zo_495 P), (zo_496 P), (zo_497 P), (zo_498 P), (zo_499 P), (zo_500 P), (zo_501 P), (zo_502 P), (zo_503 P), (zo_504 P), (zo_505 P), (zo_506 P), (zo_507 P), (zo_508 P), (zo_509 P), (zo_510 P), (zo_511 P), (zo_512 P), (zo_513 P), (zo_514 P), (zo_515 P), (zo_516 P), (zo_517 P), (zo_518 P), (zo_519 P), (zo_520 P), (zo_521 P), (zo_522 P), (zo_523 P), (zo_524 P), (zo_525 P), (zo_526 P), (zo_527 P), (zo_618 P), (zo_619 P), (zo_620 P), (zo_621 P), (zo_622 P), (zo_623 P), (zo_624 P), (zo_625 P), (zo_626 P), (zo_627 P), (zo_628 P), (zo_629 P), (zo_630 P), (zo_631 P), (zo_632 P), (zo_633 P), (zo_634 P), (zo_635 P), (zo_636 P), (zo_637 P), (zo_638 P), (zo_639 P), (zo_640 P), (zo_641 P), (zo_642 P), (zo_643 P), (zo_644 P), (zo_645 P), (zo_646 P), (zo_647 P), (zo_648 P), (zo_649 P), (zo_650 P)]) zlife
noncomputable abbrev zat (T : BT) (n k : Nat) (os : OsState) : SharedT := SharedT.mk T n zlife #[] ⟨0, 0, 0, 0⟩ k os
noncomputable abbrev zcode : Code := .body zbody zenv
noncomputable def zl1 : List Stmt := (zbody.drop 0).take 6
noncomputable def zl2 : List Stmt := (zbody.drop 6).take 1
noncomputable def zl3 : List Stmt := (zbody.drop 7).take 3
noncomputable def zl4 : List Stmt := (zbody.drop 10).take 2
noncomputable def zl5 : List Stmt := (zbody.drop 12).take 9
noncomputable def zl6 : List Stmt := (zbody.drop 21).take 3
noncomputable def zl7 : List Stmt := (zbody.drop 24).take 1
noncomputable def zl8 : List Stmt := (zbody.drop 25).take 7
noncomputable def zl9 : List Stmt := (zbody.drop 32).take 1
noncomputable def zl10 : List Stmt := (zbody.drop 33).take 6
theorem zsplit : zbody = zl1 ++ (zl2 ++ (zl3 ++ (zl4 ++ (zl5 ++ (zl6 ++ (zl7 ++ (zl8 ++ (zl9 ++ (zl10 ++ []))))))))) := by kernel_rfl
theorem z1 : ∀ w : World, (fun os => topGo treeTable zp w 11 (some (.ref 6)) 12 ⟨boot_heap w.params, #[], boot_drawn, boot_toks, os⟩ (topStub zp)) = fun os => some (⟨zheap_46 w.params, #[], ⟨0, 0, 0, 0⟩, 187, os⟩, (⟨denote treeTable zcode, zcode, ⟨0, 0, 0, 0⟩, [topFrame ⟨0, 0, 0, 0⟩]⟩ : Thread)) := fun w => by kernel_rfl
theorem z2 : ∀ w : World, (fun os => segRun treeTable zp w 11 (some (.ref 6)) 1 1 ⟨zheap_46 w.params, #[], ⟨0, 0, 0, 0⟩, 187, os⟩ (blockOf zbody zenv zcode ⟨0, 0, 0, 0⟩ [topFrame ⟨0, 0, 0, 0⟩])) = fun os => some (Flow.next, (zat (ztree_47 w.params) 15 187 os).abs, zcode, ⟨0, 0, 0, 0⟩) := fun w => by kernel_rfl
theorem y1 : ∀ w : World, (fun os => segRunT treeTable zp w 11 (some (.ref 6)) 1 95 (zat (ztree_47 w.params) 15 187 os) (piecesOf zl1 zenv zcode ⟨0, 0, 0, 0⟩ [topFrame ⟨0, 0, 0, 0⟩])) = fun os => some (Flow.next, zat (ztree_64 w.params) 29 209 os, zcode, ⟨8, 0, 9, 89⟩) := fun w => by kernel_rfl
theorem y2 : ∀ w : World, (fun os => segRunT treeTable zp w 11 (some (.ref 6)) 1 553 (zat (ztree_64 w.params) 29 209 os) (piecesOf zl2 zenv zcode ⟨8, 0, 9, 89⟩ [topFrame ⟨0, 0, 0, 0⟩])) = fun os => some (Flow.next, zat (ztree_157 w.params) 120 328 os, zcode, ⟨10, 0, 48, 16⟩) := fun w => by kernel_rfl
theorem y3 : ∀ w : World, (fun os => segRunT treeTable zp w 11 (some (.ref 6)) 1 50 (zat (ztree_157 w.params) 120 328 os) (piecesOf zl3 zenv zcode ⟨10, 0, 48, 16⟩ [topFrame ⟨0, 0, 0, 0⟩])) = fun os => some (Flow.next, zat (ztree_166 w.params) 127 341 os, zcode, ⟨51, 0, 52, 72⟩) := fun w => by kernel_rfl
theorem y4 : ∀ w : World, (fun os => segRunT treeTable zp w 11 (some (.ref 6)) 1 399 (zat (ztree_166 w.params) 127 341 os) (piecesOf zl4 zenv zcode ⟨51, 0, 52, 72⟩ [topFrame ⟨0, 0, 0, 0⟩])) = fun os => some (Flow.next, zat (ztree_225 w.params) 184 418 os, zcode, ⟨90, 0, 90, 8⟩) := fun w => by kernel_rfl
theorem y5 : ∀ w : World, (fun os => segRunT treeTable zp w 11 (some (.ref 6)) 1 395 (zat (ztree_225 w.params) 184 418 os) (piecesOf zl5 zenv zcode ⟨90, 0, 90, 8⟩ [topFrame ⟨0, 0, 0, 0⟩])) = fun os => some (Flow.next, zat (ztree_276 w.params) 232 497 os, zcode, ⟨121, 0, 123, 24⟩) := fun w => by kernel_rfl
theorem y6 : ∀ w : World, (fun os => segRunT treeTable zp w 11 (some (.ref 6)) 1 53 (zat (ztree_276 w.params) 232 497 os) (piecesOf zl6 zenv zcode ⟨121, 0, 123, 24⟩ [topFrame ⟨0, 0, 0, 0⟩])) = fun os => some (Flow.next, zat (ztree_285 w.params) 239 513 os, zcode, ⟨140, 0, 140, 12⟩) := fun w => by kernel_rfl
theorem y7 : ∀ w : World, (fun os => segRunT treeTable zp w 11 (some (.ref 6)) 1 420 (zat (ztree_285 w.params) 239 513 os) (piecesOf zl7 zenv zcode ⟨140, 0, 140, 12⟩ [topFrame ⟨0, 0, 0, 0⟩])) = fun os => some (Flow.next, zat (ztree_348 w.params) 300 597 os, zcode, ⟨141, 0, 182, 19⟩) := fun w => by kernel_rfl
theorem y8 : ∀ w : World, (fun os => segRunT treeTable zp w 11 (some (.ref 6)) 1 313 (zat (ztree_348 w.params) 300 597 os) (piecesOf zl8 zenv zcode ⟨141, 0, 182, 19⟩ [topFrame ⟨0, 0, 0, 0⟩])) = fun os => some (Flow.next, zat (ztree_378 w.params) 328 659 os, zcode, ⟨211, 0, 211, 8⟩) := fun w => by kernel_rfl
theorem y9 : ∀ w : World, (fun os => segRunT treeTable zp w 11 (some (.ref 6)) 1 814 (zat (ztree_378 w.params) 328 659 os) (piecesOf zl9 zenv zcode ⟨211, 0, 211, 8⟩ [topFrame ⟨0, 0, 0, 0⟩])) = fun os => some (Flow.next, zat (ztree_527 w.params) 475 847 os, zcode, ⟨212, 0, 285, 17⟩) := fun w => by kernel_rfl
theorem y10 : ∀ w : World, (fun os => segRunT treeTable zp w 11 (some (.ref 6)) 1 167 (zat (ztree_527 w.params) 475 847 os) (piecesOf zl10 zenv zcode ⟨212, 0, 285, 17⟩ [topFrame ⟨0, 0, 0, 0⟩])) = fun os => some (Flow.next, zat (ztree_650 w.params) 508 898 os, zcode, ⟨334, 0, 339, 34⟩) := fun w => by kernel_rfl
theorem z6 : ∀ w : World, (fun os => topRun treeTable zp w 11 (some (.ref 6)) 2 (zat (ztree_650 w.params) 508 898 os).abs ⟨doneF Flow.next, zcode, ⟨334, 0, 339, 34⟩, [topFrame ⟨0, 0, 0, 0⟩]⟩) = fun os => some (⟨zheap_651 w.params, #[], ⟨0, 0, 0, 0⟩, 898, os⟩ : Shared) := fun w => by kernel_rfl
theorem zrun (w : World) (os : OsState) : topRun treeTable zp w 11 (some (.ref 6)) (12 + (1 + (95 + (553 + (50 + (399 + (395 + (53 + (420 + (313 + (814 + (167 + 2)))))))))))) ⟨boot_heap w.params, #[], boot_drawn, boot_toks, os⟩ (topStub zp) = some (⟨zheap_651 w.params, #[], ⟨0, 0, 0, 0⟩, 898, os⟩ : Shared) := by
  refine go_top (congrFun (z1 w) os) (piece_block (congrFun (z2 w) os) ?_)
  have e : restOf zbody zenv zcode ⟨0, 0, 0, 0⟩ [topFrame ⟨0, 0, 0, 0⟩] = restOf (zl1 ++ (zl2 ++ (zl3 ++ (zl4 ++ (zl5 ++ (zl6 ++ (zl7 ++ (zl8 ++ (zl9 ++ (zl10 ++ [])))))))))) zenv zcode ⟨0, 0, 0, 0⟩ [topFrame ⟨0, 0, 0, 0⟩] := congrArg (fun b => restOf b zenv zcode ⟨0, 0, 0, 0⟩ [topFrame ⟨0, 0, 0, 0⟩]) zsplit
  rw [e]
  exact (piece_app (segRun_of (congrFun (y1 w) os)) (piece_app (segRun_of (congrFun (y2 w) os)) (piece_app (segRun_of (congrFun (y3 w) os)) (piece_app (segRun_of (congrFun (y4 w) os)) (piece_app (segRun_of (congrFun (y5 w) os)) (piece_app (segRun_of (congrFun (y6 w) os)) (piece_app (segRun_of (congrFun (y7 w) os)) (piece_app (segRun_of (congrFun (y8 w) os)) (piece_app (segRun_of (congrFun (y9 w) os)) (piece_app (segRun_of (congrFun (y10 w) os)) (piece_nil (congrFun (z6 w) os))))))))))))
theorem zsize : ∀ w : World, ((boot_heap w.params).isNs mainGlobals && (#[] : Array GenState).size == 0, (boot_heap w.params).objs.size, (boot_heap w.params).nsMap mainGlobals "__annotations__") = (true, 11, some (Value.ref 6)) := fun w => by kernel_rfl
noncomputable abbrev zX (s : Shared) : Bool := xlAt Mine.hd.view_39 [] s && recOk (RowW.records PySem.Challenge.rw_rg0255_01.row.toRowW) s
theorem zk1 : ∀ w : World, (fun os : OsState => staticsOk (importedModules zp.main.body) (boot_heap w.params) (zheap_651 w.params)) = fun _ => true := fun w => by kernel_rfl
theorem zk2 : ∀ w : World, (fun os : OsState => namesBound zp (zheap_651 w.params)) = fun _ => true := fun w => by kernel_rfl
theorem zk3 : ∀ w : World, (fun os : OsState => gensDone (⟨zheap_651 w.params, #[], ⟨0, 0, 0, 0⟩, 898, os⟩ : Shared)) = fun _ => true := fun w => by kernel_rfl
theorem zk4 : ∀ w : World, (fun os : OsState => laidKept (boot_heap w.params) (zheap_651 w.params)) = fun _ => true := fun w => by kernel_rfl
theorem zk5a : ∀ w : World, (fun os : OsState => seen ((recsOf Mine.hd.view_39).map (·.name)) (ownsOf Mine.hd.view_39) [] { (⟨zheap_651 w.params, #[], ⟨0, 0, 0, 0⟩, 898, os⟩ : Shared) with gens := #[] }) = fun _ => expectedOf Mine.hd.view_39 := fun w => by kernel_rfl
theorem zk5b : ∀ w : World, (fun os : OsState => (⟨zheap_651 w.params, #[], ⟨0, 0, 0, 0⟩, 898, os⟩ : Shared).heap.bltView) = fun _ => bltViewBooted := fun w => by kernel_rfl
theorem zk5c : ∀ w : World, (fun os : OsState => ((⟨zheap_651 w.params, #[], ⟨0, 0, 0, 0⟩, 898, os⟩ : Shared).heap.keysOk (looseW Mine.hd.view_39 []) ((recsOf Mine.hd.view_39).map (·.name)) ((litsOf Mine.hd.view_39).map (·.1)) ((clssOf Mine.hd.view_39 (looseW Mine.hd.view_39 [])).map (·.name)) && (⟨zheap_651 w.params, #[], ⟨0, 0, 0, 0⟩, 898, os⟩ : Shared).heap.accountedOkI (importedModules zp.main.body) && (⟨zheap_651 w.params, #[], ⟨0, 0, 0, 0⟩, 898, os⟩ : Shared).heap.isNs mainGlobals && (⟨zheap_651 w.params, #[], ⟨0, 0, 0, 0⟩, 898, os⟩ : Shared).heap.isNs builtinsNs && tablesOk Mine.hd.view_39 (⟨zheap_651 w.params, #[], ⟨0, 0, 0, 0⟩, 898, os⟩ : Shared).heap && zX (⟨zheap_651 w.params, #[], ⟨0, 0, 0, 0⟩, 898, os⟩ : Shared) && (if true then (⟨zheap_651 w.params, #[], ⟨0, 0, 0, 0⟩, 898, os⟩ : Shared).gens.size == 0 else !leftWithCleanup (⟨zheap_651 w.params, #[], ⟨0, 0, 0, 0⟩, 898, os⟩ : Shared).gens))) = fun _ => true := fun w => by kernel_rfl
theorem zk5d : ∀ w : World, (fun os : OsState => tabsOk Mine.hd.view_39 (⟨zheap_651 w.params, #[], ⟨0, 0, 0, 0⟩, 898, os⟩ : Shared)) = fun _ => true := fun w => by kernel_rfl
theorem zk5e : ∀ w : World, (fun os : OsState => pinSeenD Mine.hd.view_39 (drecsOf Mine.hd.view_39) (⟨zheap_651 w.params, #[], ⟨0, 0, 0, 0⟩, 898, os⟩ : Shared)) = fun _ => pinGoodD (drecsOf Mine.hd.view_39) := fun w => by kernel_rfl
theorem zk5f : ∀ w : World, (fun os : OsState => plainSeenE Mine.hd.view_39 (looseW Mine.hd.view_39 []) (⟨zheap_651 w.params, #[], ⟨0, 0, 0, 0⟩, 898, os⟩ : Shared)) = fun _ => plainGoodE Mine.hd.view_39 (looseW Mine.hd.view_39 []) := fun w => by kernel_rfl
theorem zk5g : ∀ w : World, (fun os : OsState => plainSeenD Mine.hd.view_39 [] (⟨zheap_651 w.params, #[], ⟨0, 0, 0, 0⟩, 898, os⟩ : Shared)) = fun _ => plainGoodD Mine.hd.view_39 [] := fun w => by kernel_rfl
theorem zk5h : ∀ w : World, (fun os : OsState => wideSeen Mine.hd.view_39 (⟨zheap_651 w.params, #[], ⟨0, 0, 0, 0⟩, 898, os⟩ : Shared)) = fun _ => wideGood Mine.hd.view_39 := fun w => by kernel_rfl
theorem zk5i : ∀ w : World, (fun os : OsState => clsSeenW Mine.hd.view_39 [] (⟨zheap_651 w.params, #[], ⟨0, 0, 0, 0⟩, 898, os⟩ : Shared)) = fun _ => clsGoodW Mine.hd.view_39 [] := fun w => by kernel_rfl
theorem zk6a : ∀ w : World, (fun os : OsState => addrs.map (⟨zheap_651 w.params, #[], ⟨0, 0, 0, 0⟩, 898, os⟩ : Shared).heap.get?) = fun _ => (Mine.hd.heap_39 w.params).map fun p => some p.2 := fun w => by kernel_rfl
theorem zk6b : ∀ w : World, (fun os : OsState => [483].map (⟨zheap_651 w.params, #[], ⟨0, 0, 0, 0⟩, 898, os⟩ : Shared).heap.get?) = fun _ => [483].map fun _ => some (tabObj #[]) := fun w => by kernel_rfl
theorem zlooks : ∀ w : World, (fun os => ((staticsOk (importedModules zp.main.body) (boot_heap w.params) (zheap_651 w.params) && namesBound zp (zheap_651 w.params) && gensDone ⟨zheap_651 w.params, #[], ⟨0, 0, 0, 0⟩, 898, os⟩ && laidKept (boot_heap w.params) (zheap_651 w.params)),
        openSeen Mine.hd.view_39 [] (importedModules zp.main.body) zX true ⟨zheap_651 w.params, #[], ⟨0, 0, 0, 0⟩, 898, os⟩, Hook.obs HK ⟨zheap_651 w.params, #[], ⟨0, 0, 0, 0⟩, 898, os⟩)) = fun _ => (true, openGood Mine.hd.view_39 [], Hook.val HK w) := fun w => funext fun os => looks_pair (look_both (look_both (look_both (congrFun (zk1 w) os) (congrFun (zk2 w) os)) (congrFun (zk3 w) os)) (congrFun (zk4 w) os)) (looks_pair (looks_pair (congrFun (zk5a w) os) (looks_pair (congrFun (zk5b w) os) (looks_pair (congrFun (zk5c w) os) (looks_pair (congrFun (zk5d w) os) (looks_pair (congrFun (zk5e w) os) (looks_pair (congrFun (zk5f w) os) (looks_pair (congrFun (zk5g w) os) (looks_pair (congrFun (zk5h w) os) (congrFun (zk5i w) os))))))))) (looks_pair (congrFun (zk6a w) os) (congrFun (zk6b w) os)))
noncomputable abbrev zl : OpenLaw := PySem.Challenge.rw_rg0255_01
theorem zq1 : sreFenced zp.main = true := by kernel_rfl
theorem zq2 : ((moduleNames zp.main.body).isEmpty || lookedIntoSs (moduleNames zp.main.body) zp.main.body) = true := by kernel_rfl
theorem zq3 : namesResolve zp = true := by kernel_rfl
theorem zq4 : zp.boundNames.all (fun n => !worldNames.contains n) = true := by kernel_rfl
theorem zq5 : noRoadLSs { strict := !(importedModules zp.main.body).all cThrough.contains, foot := none, bare := (["vars", "dir", "locals"] : List Str).filter (readsOut zp zp.main.body) } zp.main.body = true := by kernel_rfl
theorem zq6 : namesMeet zp zp.main.body (fun _ n => attrL n) = true := by kernel_rfl
theorem zopen : looksOpen zl.row.prog = true := (look_both (look_both (look_both (look_both (look_both zq1 zq2) zq3) zq4) zq5) zq6)
theorem zsolid : zl.row.toRowW.solid = true := by kernel_rfl
theorem zpart : zl.row.partSaid = true := (look_both (look_both (look_both (look_both (look_both (look_both (look_both (look_both (look_both (look_both (look_both (look_both (look_both zopen (by kernel_rfl)) (by kernel_rfl)) (by kernel_rfl)) (by kernel_rfl)) (by kernel_rfl)) (by kernel_rfl)) zsolid) (by kernel_rfl)) (by kernel_rfl)) (by kernel_rfl)) (by kernel_rfl)) (by kernel_rfl)) (by kernel_rfl))
theorem zsaidR : zl.row.wellSaid = true := (look_both (look_both zpart (by kernel_rfl)) (by kernel_rfl))
theorem zr1 : noRoadLSs { strict := true, foot := some zl.bound', writes := zl.writes, may := zl.may } zl.footing = true := by kernel_rfl
theorem zr2 : zl.namesIt = true := by kernel_rfl
theorem zr3 : namesMeet zl.prog zl.above (fun _ n => !zl.own.contains n) = true := by kernel_rfl
theorem zsaid : zl.wellSaid = true := (look_both (look_both (look_both (look_both (look_both (look_both (look_both (look_both (look_both (look_both (look_both (look_both (look_both (look_both (look_both (look_both (look_both (look_both zsaidR (by kernel_rfl)) (by kernel_rfl)) (by kernel_rfl)) (by kernel_rfl)) (by kernel_rfl)) zr1) (by kernel_rfl)) zr2) (by kernel_rfl)) (by kernel_rfl)) (by kernel_rfl)) (by kernel_rfl)) (by kernel_rfl)) (by kernel_rfl)) (by kernel_rfl)) (by kernel_rfl)) zr3) (by kernel_rfl))
theorem zo1 : chainsOk Mine.hd.view_39 = true := by kernel_rfl
theorem zo2 : (opening zp).tameTopW = true := by kernel_rfl
theorem zo3 : (!bearImports (behindTheImports zp)) = true := by kernel_rfl
theorem zo4 : opensWell zp = true := look_both zo2 zo3
theorem zo5 : (frees zl.row.toRowW && zl.row.within.isEmpty) = true := by kernel_rfl
theorem zok : (chainsOk Mine.hd.view_39 && opensWell zp && (frees zl.row.toRowW && zl.row.within.isEmpty)) = true := look_both (look_both zo1 zo4) zo5
theorem left : LeftO zp Mine.hd.view_39 [] zX (Hook.obs HK) (Hook.val HK) 6624 := LeftO.of_pieces (boot_open (by kernel_rfl) (by decide) (fun s => by kernel_rfl)) zsize zrun (by decide) zlooks
end Mine
open PySem.Calls
local macro_rules | `(tactic| k_all) => `(tactic| assumption)
local macro_rules | `(tactic| k_mem) => `(tactic| ((repeat (first | with_reducible assumption | exact List.mem_cons_self | refine List.mem_cons_of_mem _ ?_)); done))
local macro_rules | `(tactic| k_room) => `(tactic| ktr_room)
local macro_rules | `(tactic| k_units) => `(tactic| ktr_units)
local macro_rules | `(tactic| k_lt $h:ident) => `(tactic| (replace $h := allLt_of $h; simp only [AllLt, and_true] at $h:ident; (repeat ((have w9 := And.left $h); replace $h := And.right $h)); (try (replace $h := ktn_ltOf $h))))
local macro_rules | `(tactic| k_ne) => `(tactic| (refine neN ?_; (try dsimp only); first | with_reducible assumption | (refine Ne.symm ?_; with_reducible assumption) | exact Nat.ne_of_lt (by with_reducible assumption) | exact Nat.ne_of_gt (by with_reducible assumption) | omega))
local macro_rules | `(tactic| walk_at $s:str) => `(tactic| k_extra $s)
local macro_rules | `(tactic| ktr_room) => `(tactic| first | exact Mine.roomA9 (by with_reducible assumption) (by decide) | (simp only [Nat.add_assoc, Nat.reduceAdd]; exact Mine.roomA9 (by with_reducible assumption) (by decide)))
local macro_rules | `(tactic| ktr_units) => `(tactic| first | exact Mine.roomA9 (by with_reducible assumption) (by decide) | (simp only [Nat.add_assoc, Nat.reduceAdd]; exact Mine.roomA9 (by with_reducible assumption) (by decide)))
section
open LCg LCt PySem.Spec
namespace Mine
section
variable {prog : Program} {w : World} {A : Around} {E : Value → Shared → Prop} {s : Shared} {h₀ : Heap} {L : Addr} {m : Str → Option Value} {env : Env}

/-- the end of such a turn: the key comes back, the ledger stands -/
def KEnd (s : Shared) (h₀ : Heap) (L : Addr) (m : Str → Option Value) (n : Int) (news : List (Addr × Obj)) (y : Value) (s' : Shared) : Prop :=
  ∃ h' tk' t', y = .int n t' ∧ s' = { s with heap := h', toks := tk' } ∧ Fr h₀ L h' m ∧ News h₀ L h' news
theorem KEnd.intro {n : Int} {t' : Tok} {h' : Heap} {tk' : Nat} {news : List (Addr × Obj)} (F : Fr h₀ L h' m) (N : News h₀ L h' news) : KEnd s h₀ L m n news (.int n t') { s with heap := h', toks := tk' } :=
  ⟨h', tk', t', rfl, rfl, F, N⟩
/-- one turn of a comprehension over a dict's keys, whose test is true and whose element is the key -/
def KeyTurn (prog : Program) (w : World) (A : Around) (h₀ : Heap) (L : Addr) (m : Str → Option Value) (env : Env) (ct elt : Expr) (x : Str) (scope : Scope) (cl : List (Str × Addr)) (s : Shared) (news : List (Addr × Obj)) (kvs : List (Int × Value)) : Prop :=
  ∀ n t I oI C oC D ys m₂ h tk (E' : Value → Shared → Prop), n ∈ kvs.map (·.1) → NsObj oC m₂ → m₂ x = some (.int n t) → Fr h₀ L h m → News h₀ L h ((I, oI) :: (C, oC) :: (D, lst ys) :: news) →
    wpAny (model prog w) A (isTrue ct (compEnvC scope cl C env) (eval ct (compEnvC scope cl C env))) (fun ok s' => ok = true ∧
      wpAny (model prog w) A (eval elt (compEnvC scope cl C env)) (KEnd s h₀ L m n ((I, oI) :: (C, oC) :: (D, lst ys) :: news)) E' s') E' { s with heap := h, toks := tk }

theorem key_rest {ct elt : Expr} {x : Str} {scope : Scope} {cl : List (Str × Addr)} {news : List (Addr × Obj)} {S : List (Addr × Obj) → Prop} {kvs : List (Int × Value)} {Fin : List Value → List (Addr × Obj) → Prop} (hS : S news)
    (turn : KeyTurn prog w A h₀ L m env ct elt x scope cl s news kvs) (fin : ∀ ys, IntsAre ys (kvs.map (·.1)) → Fin ys news) :
    ∀ (k i : Nat) (ys : List Value), i + k = kvs.length → IntsAre ys ((kvs.map (·.1)).take i) →
      CompRestT prog w A h₀ L m env ct elt x scope cl s S (fun i v => ∃ k y, kvs[i]? = some (k, y) ∧ (PySem.intKind prog w).is k v = true) Fin k i ys news
  | 0, i, ys, hi, hy => CompRestT.zero (fin ys (by rw [List.take_of_length_le (by rw [List.length_map]; omega)] at hy; exact hy))
  | k + 1, i, ys, hi, hy => by
    refine CompRestT.succ ?_
    rintro v I oI C oC D m₂ h tk E' ⟨n, y, hn, hk⟩ hC hx F N off ne
    obtain ⟨t, rfl⟩ := PySem.Value.isInt_shape hk
    have hmem : n ∈ kvs.map (·.1) := List.mem_map.mpr ⟨(n, y), List.mem_of_getElem? hn, rfl⟩
    refine wpAny_mono (turn n t I oI C oC D ys m₂ h tk E' hmem hC hx F N) (fun ok s' hok => ?_) fun _ _ e => e
    obtain ⟨rfl, h2⟩ := hok
    simp only [if_true]
    refine wpAny_mono h2 (fun v s'' hv => ?_) fun _ _ e => e
    obtain ⟨h', tk', t', rfl, rfl, F', N'⟩ := hv
    refine CompEnd.intro F' N' news (fun p hp => hp) off hS ?_
    refine key_rest hS turn fin k (i + 1) _ (by omega) ?_
    have e : (kvs.map (·.1)).take (i + 1) = (kvs.map (·.1)).take i ++ [n] := by
      rw [List.take_add_one, List.getElem?_map, hn]; rfl
    rw [e]
    exact IntsAre.append hy (IntsAre.cons n t' IntsAre.nil)

/-- the iterable is a dict of the ledger -/
def SrcK (prog : Program) (w : World) (A : Around) (h₀ : Heap) (L : Addr) (m : Str → Option Value) (env : Env) (ct elt : Expr) (x : Str) (scope : Scope) (cl : List (Str × Addr)) (Q : Value → Shared → Prop) (xv : Value) (s₁ : Shared) : Prop :=
  ∃ d o kvs news, xv = .ref d ∧ A.handled = none ∧ Fr h₀ L s₁.heap m ∧ News h₀ L s₁.heap news ∧ (d, o) ∈ news ∧ o.IsDictOf (PySem.intKind prog w) kvs ∧ (d == sysModules) = false ∧ kvs.length ≤ sizeLine ∧
      (∀ g, KeyTurn prog w A h₀ L m env ct elt x scope cl { s₁ with heap := g } news kvs) ∧
      (∀ D ys h' tk, Fr h₀ L h' m → News h₀ L h' ((D, lst ys) :: news) → Off1 D news → IntsAre ys (kvs.map (·.1)) → Q (.ref D) { s₁ with heap := h', toks := tk })
theorem SrcK.intro {ct elt : Expr} {x : Str} {scope : Scope} {cl : List (Str × Addr)} {Q : Value → Shared → Prop} {d : Addr} {o : Obj} {kvs : List (Int × Value)} {news : List (Addr × Obj)} {s₁ : Shared}
    (hh : A.handled = none) (F : Fr h₀ L s₁.heap m) (N : News h₀ L s₁.heap news) (hm : (d, o) ∈ news) (hd : o.IsDictOf (PySem.intKind prog w) kvs) (lo : (d == sysModules) = false) (hz : kvs.length ≤ sizeLine)
    (turn : ∀ g, KeyTurn prog w A h₀ L m env ct elt x scope cl { s₁ with heap := g } news kvs)
    (fin : ∀ D ys h' tk, Fr h₀ L h' m → News h₀ L h' ((D, lst ys) :: news) → Off1 D news → IntsAre ys (kvs.map (·.1)) → Q (.ref D) { s₁ with heap := h', toks := tk }) :
    SrcK prog w A h₀ L m env ct elt x scope cl Q (.ref d) s₁ := ⟨d, o, kvs, news, rfl, hh, F, N, hm, hd, lo, hz, turn, fin⟩

theorem lc_keys {ct elt iter : Expr} {x : Str} {px : Pos} {scope : Scope} {cl : List (Str × Addr)} {pos : Pos} {Q : Value → Shared → Prop} (F₀ : Fr h₀ L s.heap m)
    (hclos : closureFor scope env = pure cl) (hcell : ∀ y ∈ scope.names, y.2 ≠ .cell) (hkind : scope.kind = .function)
    (hnames : ∀ y ∈ scope.names, y.2 = .local → scope.names.lookup y.1 = some .local) (hx : scope.names.lookup x = some .local)
    (h : wpAny (model prog w) A (eval iter env) (SrcK prog w A h₀ L m env ct elt x scope cl Q) E s)
    (hs : ∀ x, foldedSetIterable iter env x = pure x := by intro _; rfl) :
    wpAny (model prog w) A (eval (.ListComp elt [⟨.Name x px, iter, [ct], 0⟩] scope pos) env) Q E s := by
  rw [eval_ListComp]
  refine wpAny_comprehension_free (use := none) rfl hs hclos hkind hnames (wpAny_mono h (fun xv s₁ h₁ => ?_) fun _ _ e => e)
  obtain ⟨d, o, kvs, news, rfl, hh, F, N, hm, hd, lo, hsz, turn, fin⟩ := h₁
  obtain ⟨ep, ha⟩ := KdkAt.of hd
  have hdat := ha.dictAt (N _ hm).1
  have hlt : d < s₁.heap.objs.size := Heap.lt_size (N _ hm).1
  refine wpAny_pyIter_dict lo hdat ?_
  have up : ∀ (ob : Obj) b o, s₁.heap.get? b = some o → (s₁.heap.push ob).get? b = some o := fun _ b o e => Heap.get?_push_of_some _ e
  refine block_T (S := fun nw => nw = news) (news := news) (Walks.dictKeys (knd := PySem.intKind prog w) hh s₁.heap.objs.size d (Nat.ne_of_lt hlt) kvs ep) hsz (fun i h st => by obtain ⟨o, e, _⟩ := st.1; exact ⟨o, e⟩) ?_ hcell hkind hx ⟨⟨_, Heap.get?_push_size _ rfl, rfl, rfl⟩, hdat.push _⟩ (fun b hb => ?_)
      (F.push _) (N.grown (up _)) (Nat.ne_of_lt F.ns.lt) (next_is_new F) (fun p hp => Nat.ne_of_lt (Heap.lt_size (N p hp).1)) rfl
      (key_rest (S := fun nw => nw = news) (Fin := fun ys news' => news' = news ∧ IntsAre ys (kvs.map (·.1))) rfl (turn _) (fun ys hy => ⟨rfl, hy⟩) _ 0 [] (Nat.zero_add _) IntsAre.nil) ?_
  · rintro i h h' oI nw st e e' hk N' rfl
    exact ⟨st.1.at fun o eo => by rw [e] at eo; cases eo; exact e', ha.dictAt (N' _ hm).1⟩
  · show b < (s₁.heap.push _).objs.size
    rw [Heap.size_push]
    rcases List.mem_cons.mp hb with rfl | hb
    · exact Nat.lt_succ_self _
    · rw [List.mem_singleton.mp hb]; exact Nat.lt_succ_of_lt hlt
  · intro D C h tk m' ys news' F' N' o1 hn hC₀ hD₀ hCL hDL hCD offC hfin
    obtain ⟨rfl, hy⟩ := hfin
    refine ⟨m', hn, fun h'' hs'' => fin D ys h'' tk (F'.change hs'' hCL hC₀) (fun p hp => ?_) o1 hy⟩
    refine ⟨hs''.extBut _ _ ?_ (N' p hp).1, (N' p hp).2⟩
    rcases List.mem_cons.mp hp with rfl | hp
    · exact Ne.symm hCD
    · exact offC p hp
end
end Mine
end
section
open PySem.Spec
namespace Mine
/-- an entry taken out of a ledger -/
inductive Pick (a : Addr) (o : Obj) : List (Addr × Obj) → List (Addr × Obj) → Prop
  | head {r} : Pick a o ((a, o) :: r) r
  | tail {p r r'} : Pick a o r r' → Pick a o (p :: r) (p :: r')
theorem Pick.mem {a : Addr} {o : Obj} {l l' : List (Addr × Obj)} (h : Pick a o l l') : ∀ p ∈ (a, o) :: l', p ∈ l := by
  induction h with
  | head => exact fun _ hp => hp
  | tail _ ih =>
    intro p hp
    rcases List.mem_cons.mp hp with rfl | hp
    · exact .tail _ (ih _ (.head _))
    · rcases List.mem_cons.mp hp with rfl | hp
      · exact .head _
      · exact .tail _ (ih _ (.tail _ hp))
theorem Pick.up {a : Addr} {o : Obj} {l l' : List (Addr × Obj)} (h : Pick a o l l') : ∀ p ∈ l', p ∈ l := fun p hp => h.mem p (.tail _ hp)
theorem Pick.it {a : Addr} {o : Obj} {l l' : List (Addr × Obj)} (h : Pick a o l l') : (a, o) ∈ l := h.mem _ (.head _)
theorem Pick.off {P : Addr × Obj → Prop} {a : Addr} {o : Obj} {l l' : List (Addr × Obj)} (h : Pick a o l l') (k : ∀ p ∈ l, P p) : ∀ p ∈ l', P p := fun p hp => k p (h.up p hp)
section
variable {prog : Program} {w : World} {A : Around} {E : Value → Shared → Prop} {s : Shared} {h₀ : Heap} {L : Addr} {m : Str → Option Value}
theorem len_ints {l : Addr} {ys : List Value} {ns : List Int} {Q : Value → Shared → Prop} (hl : s.heap.IsList l ys.toArray) (hi : IntsAre ys ns) (hb : ns.length ≤ 1000)
    (h : Q (.int ns.length (s.toks + 1)) { s with toks := s.toks + 1 + 1 }) : wpAny (model prog w) A (call (.builtin "len") [.ref l]) Q E s := by
  have e := len_list_made (A := A) (E := E) (s := s) (prog := prog) (w := w) (Q := Q) hl hi.carried (by rw [List.length_map]; exact Nat.le_trans hb (by decide))
  rw [List.length_map] at e
  exact e h
end
/-- the entries of a LocalIds' dict -/
abbrev lids (P : Params) (t1 t2 t3 t4 t5 t6 : Tok) (lim : Value) (d le : Addr) (ns rp : Value) (emp : Bool) : List DictEntry :=
  [⟨PyData.keyHash P (Str.ofString "limit"), .str (Str.ofString "limit") t1, lim⟩,
   ⟨PyData.keyHash P (Str.ofString "issued"), .str (Str.ofString "issued") t2, .ref d⟩,
   ⟨PyData.keyHash P (Str.ofString "ever"), .str (Str.ofString "ever") t3, .ref le⟩,
   ⟨PyData.keyHash P (Str.ofString "next_sequence"), .str (Str.ofString "next_sequence") t4, ns⟩,
   ⟨PyData.keyHash P (Str.ofString "retire_prior"), .str (Str.ofString "retire_prior") t5, rp⟩,
   ⟨PyData.keyHash P (Str.ofString "is_empty"), .str (Str.ofString "is_empty") t6, .bool emp⟩]
end Mine
end
local macro_rules | `(tactic| tb_start) => `(tactic| first | with_reducible exact Mine.Pick.head | (refine' Mine.Pick.tail ?b; (case b => tb_start)))
section
open PySem.Spec
namespace Mine
theorem unr_pick {h₀ : Heap} {L I : Addr} {it : Obj} {rest : (Str → Option Value) → List (Addr × Obj) → Prop} {s₁ : Shared} {h' : Heap} {tk : Nat} {m' : Str → Option Value} {all rem : List (Addr × Obj)} (F : Fr h₀ L h' m') (N : News h₀ L h' all)
    (pk : Pick I it all rem) (off : ∀ p ∈ rem, p.1 ≠ I) (r : rest m' rem) : UnrEnd h₀ L s₁ I it rest { s₁ with heap := h', toks := tk } :=
  UnrEnd.intro F N rem pk.mem off r
end Mine
end
section
namespace Mine
section
theorem take_spec {w : World} {p : Program} {loose : List Str} {mean : ExcName → Option Value} {mg mb : Str → Option Value} {dp un : Nat} {gd : Option (List Code)} {cn : Str} {cs : Scope} {a : Addr} {ccd : Value} {cl : List (Str × Addr)} {outer : List Env} {A₀ : Around} {base h₀ : Heap} {L : Addr} {m : Str → Option Value}
  {rest : List (Addr × Obj)} {s : Shared} {Q E : Value → Shared → Prop} {ba la : Addr} {k many : Int} {tk tm : Tok} {n n' : Nat} {vs : List Value} {ns : List Int}
  (B : Below A₀ base outer h₀) (F : Fr h₀ L s.heap m) (X : (hd.heap_39 w.params).In h₀) (N : News h₀ L s.heap ((ba, listOf #[.ref la, .int k tk] n) :: (la, listOf vs.toArray n') :: rest)) (T : Top p loose mean mg mb h₀) (hk : cs.kind = .function)
  (hd : dp + 5 < recursionLimit)
  (hI : IntsAre vs ns) (hlen : ns.length ≤ 30) (hne : @Ne Nat la ba) (hrest : ∀ p ∈ rest, p.1 ≠ ba) (hk0 : 0 ≤ k) (hk1 : k ≤ 40) (hm0 : 2 ≤ many) (hm1 : many ≤ 8)
  (ret : ∀ r t h' tk' tk2, 0 ≤ r → r < many → Fr h₀ L h' m → News h₀ L h' ((ba, listOf #[.ref la, .int (k+1) tk2] n) :: (la, listOf vs.toArray n') :: rest) → Q (.int r t) { s with heap := h', toks := tk' }) :
  wpAny (model PySem.Challenge.rw_rg0255_01.row.prog w) (ktrTop dp un gd cn cs L a ccd cl outer) (call (.ref 481) [.ref ba, .int many tm]) Q E s := by
  k_with_none
  revert X; k_fill; intro X
  refine wpAny_call ?_
  k_dflt ktr_enter
  k_steps
  · exact ret _ _ _ _ _ (fmod_lo _ (by omega)) (fmod_hi _ (by omega)) (by assumption) (by assumption)
  · exact ret _ _ _ _ _ (fmod_lo _ (by omega)) (fmod_hi _ (by omega)) (by assumption) (by assumption)
end
theorem take_use {w : World} {p : Program} {loose : List Str} {mean : ExcName → Option Value} {mg mb : Str → Option Value} {dp un : Nat} {gd : Option (List Code)} {cn : Str} {cs : Scope} {a : Addr} {ccd : Value} {cl : List (Str × Addr)} {outer : List Env} {A₀ : Around} {base h₀ : Heap} {L : Addr} {m : Str → Option Value}
  {news : List (Addr × Obj)} {g : Obj → List (Addr × Obj)} {s : Shared} {Q E : Value → Shared → Prop} {ba la : Addr} {k many : Int} {tk tm : Tok} {n n' : Nat} {vs : List Value} {ns : List Int}
  (B : Below A₀ base outer h₀) (F : Fr h₀ L s.heap m) (X : (hd.heap_39 w.params).In h₀) (N : News h₀ L s.heap news) (T : Top p loose mean mg mb h₀) (hk : cs.kind = .function)
  (U : UpdF ba (listOf #[.ref la, .int k tk] n) news g) (hl : (la, listOf vs.toArray n') ∈ news) 
  (hd : dp + 5 < recursionLimit)
  (hI : IntsAre vs ns) (hlen : ns.length ≤ 30) (hne : @Ne Nat la ba) (hk0 : 0 ≤ k) (hk1 : k ≤ 40) (hm0 : 2 ≤ many) (hm1 : many ≤ 8)
  (ret : ∀ r t h' tk' tk2, 0 ≤ r → r < many → Fr h₀ L h' m → News h₀ L h' (g (listOf #[.ref la, .int (k+1) tk2] n)) → Q (.int r t) { s with heap := h', toks := tk' }) :
  wpAny (model PySem.Challenge.rw_rg0255_01.row.prog w) (ktrTop dp un gd cn cs L a ccd cl outer) (call (.ref 481) [.ref ba, .int many tm]) Q E s := by
  obtain ⟨pre, post, rfl, hg, h1, h2⟩ := U.split
  refine take_spec (rest := pre ++ post) (n := n) (n' := n') (tk := tk) B F X ?_ T hk hd hI hlen hne ?_ hk0 hk1 hm0 hm1 ?_
  · intro q hq
    rcases List.mem_cons.mp hq with rfl | hq
    · exact N _ (List.mem_append_right _ (.head _))
    rcases List.mem_cons.mp hq with rfl | hq
    · exact N _ hl
    rcases List.mem_append.mp hq with hq | hq
    · exact N _ (List.mem_append_left _ hq)
    · exact N _ (List.mem_append_right _ (.tail _ hq))
  · intro q hq
    rcases List.mem_append.mp hq with hq | hq
    · exact h1 q hq
    · exact h2 q hq
  · intro r t h' tk' tk2 h0 hlt F' N'
    refine ret r t h' tk' tk2 h0 hlt F' ?_
    rw [hg]
    intro q hq
    rcases List.mem_append.mp hq with hq | hq
    · exact N' _ (.tail _ (.tail _ (List.mem_append_left _ hq)))
    rcases List.mem_cons.mp hq with rfl | hq
    · exact N' _ (.head _)
    · exact N' _ (.tail _ (.tail _ (List.mem_append_right _ hq)))
end Mine
end
section
namespace Mine
local macro_rules | `(tactic| k_mem) => `(tactic| first | with_reducible assumption | exact List.mem_cons_self | (refine List.mem_cons_of_mem _ ?_; k_mem))
section
variable {w : World} {p : Program} {loose : List Str} {mean : ExcName → Option Value} {mg mb : Str → Option Value} {dp un : Nat} {gd : Option (List Code)} {cn : Str} {cs : Scope} {a : Addr} {ccd : Value} {cl : List (Str × Addr)} {outer : List Env} {A₀ : Around} {base h₀ : Heap} {L : Addr} {m : Str → Option Value}
  {s : Shared} {Q E : Value → Shared → Prop}
theorem kept_spec {news : List (Addr × Obj)} {lx dlx d le : Addr} {t1 t2 t3 t4 t5 t6 t9 : Tok} {lim ns : Value} {emp : Bool} {o : Obj} {kvs : List (Int × Value)} {m6 : Nat}
  (B : Below A₀ base outer h₀) (F : Fr h₀ L s.heap m) (X : (hd.heap_39 w.params).In h₀) (N : News h₀ L s.heap news) (T : Top p loose mean mg mb h₀) (hk : cs.kind = .function)
  (hd : dp + 10 < recursionLimit) (hu : un + 80 < cLine)
  (i1 : (lx, instObj 295 dlx) ∈ news) (i2 : (dlx, dictOf (lids w.params t1 t2 t3 t4 t5 t6 lim d le ns (.int 0 t9) emp) m6) ∈ news) (i3 : (d, o) ∈ news)
  (hd0 : o.IsDictOf (PySem.intKind PySem.Challenge.rw_rg0255_01.row.prog w) kvs) (hlo : (d == sysModules) = false) (hz : kvs.length ≤ 1000) (hpos : ∀ q ∈ kvs, 0 ≤ q.1)
  (ret : ∀ h' tk' t, Fr h₀ L h' m → News h₀ L h' news → Q (.int (kvs.length : Int) t) { s with heap := h', toks := tk' }) :
  wpAny (model PySem.Challenge.rw_rg0255_01.row.prog w) (ktrTop dp un gd cn cs L a ccd cl outer) (call (.ref 257) [.ref lx]) Q E s := by
  k_with_none
  k_with "eval ListComp" => (k_here; k_dflt (refine lc_keys (by k_asm) (by with_unfolding_all rfl) (by decide) (by rfl) (by decide) (by rfl) ?_))
  k_with "SrcK" => (k_here; k_dflt (refine' SrcK.intro ?hh ?F ?N ?hm ?hd ?lo ?hz ?_ ?_; (case hh => exact rfl); (case F => k_asm); (case N => k_asm); (case hm => k_mem); (case hd => k_asm); (case lo => k_asm); (case hz => rw [sizeLine_eq]; omega)))
  k_with "forall" => (with_reducible (show ∀ g, KeyTurn _ _ _ _ _ _ _ _ _ _ _ _ _ _ _); intro g_k9'; unfold KeyTurn; intro n_k9' t_k9' I_k9' oI_k9' C_k9' oC_k9' D_k9' ys_k9' m_k9' h_k9' tk_k9' E_k9' hm_k9' hC_k9' hx_k9' F_k9' N_k9')
  k_with "forall" => (intro D_k9' ys_k9' h_k9' tk_k9' F_k9' N_k9' o1_k9' hi_k9')
  k_with "call builtin:len" => (k_here; (with_reducible show wpAny _ _ (call (Value.builtin "len") [Value.ref _]) _ _ _); k_dflt (refine' len_ints ?l ?i ?z ?_; (case l => exact News.isList (by k_asm) (by k_mem)); (case i => k_asm); (case z => (simp only [List.length_map]; omega))); (try simp only [List.length_map]))
  k_with "KEnd" => exact KEnd.intro (by k_asm) (by k_asm)
  revert X ret; k_fill; intro X ret
  refine wpAny_call ?_
  obtain ⟨k9, n9, g9, c9, e9⟩ := cs
  dsimp only at hk
  subst hk
  k_dflt k_enter
  k_steps
  · obtain ⟨q9, hq9, e9⟩ := List.mem_map.mp (by assumption : _ ∈ List.map (fun x => x.fst) kvs)
    subst e9
    exact decide_eq_true (hpos q9 hq9)
  · exact ret _ _ _ (by assumption) (fun p hp => (by assumption : News h₀ L _ _) p (by repeat first | exact hp | refine List.Mem.tail _ ?_))
end
end Mine
end
section
namespace Mine
local macro_rules | `(tactic| k_mem) => `(tactic| first | with_reducible assumption | exact List.mem_cons_self | (refine List.mem_cons_of_mem _ ?_; k_mem))
section
variable {w : World} {p : Program} {loose : List Str} {mean : ExcName → Option Value} {mg mb : Str → Option Value} {dp un : Nat} {gd : Option (List Code)} {cn : Str} {cs : Scope} {a : Addr} {ccd : Value} {cl : List (Str × Addr)} {outer : List Env} {A₀ : Around} {base h₀ : Heap} {L : Addr} {m : Str → Option Value}
  {s : Shared} {Q E : Value → Shared → Prop}
theorem may_spec {news : List (Addr × Obj)} {lx dlx d le : Addr} {t1 t2 t3 t4 t5 t6 t7 t9 : Tok} {lim : Int} {ns : Value} {o : Obj} {kvs : List (Int × Value)} {m6 : Nat}
  (B : Below A₀ base outer h₀) (F : Fr h₀ L s.heap m) (X : (hd.heap_39 w.params).In h₀) (N : News h₀ L s.heap news) (T : Top p loose mean mg mb h₀) (hk : cs.kind = .function)
  (hd : dp + 20 < recursionLimit) (hu : un + 160 < cLine)
  (i1 : (lx, instObj 295 dlx) ∈ news) (i2 : (dlx, dictOf (lids w.params t1 t2 t3 t4 t5 t6 (.int lim t7) d le ns (.int 0 t9) false) m6) ∈ news) (i3 : (d, o) ∈ news)
  (hd0 : o.IsDictOf (PySem.intKind PySem.Challenge.rw_rg0255_01.row.prog w) kvs) (hlo : (d == sysModules) = false) (hz : kvs.length ≤ 1000) (hpos : ∀ q ∈ kvs, 0 ≤ q.1)
  (ret : ∀ h' tk', Fr h₀ L h' m → News h₀ L h' news → Q (.bool (decide ((kvs.length : Int) < lim))) { s with heap := h', toks := tk' }) :
  wpAny (model PySem.Challenge.rw_rg0255_01.row.prog w) (ktrTop dp un gd cn cs L a ccd cl outer) (call (.ref 264) [.ref lx]) Q E s := by
  k_with_none
  k_with "call ref" => (k_here; (with_reducible show wpAny _ _ (call (Value.ref 257) _) _ _ _); k_dflt (refine' kept_spec ?B ?F ?X ?N ?T ?hk ?hd ?hu ?i1 ?i2 ?i3 ?hd0 ?hlo ?hz ?hpos ?_; (case B => k_asm); (case F => k_asm); (case X => k_asm); (case N => k_asm); (case T => k_asm); (case hk => exact rfl); (case hd => ktr_room); (case hu => ktr_units); (case i1 => k_mem); (case i2 => k_mem); (case i3 => k_mem); (case hd0 => k_asm); (case hlo => k_asm); (case hz => k_asm); (case hpos => k_asm)); intro h_k9' tk_k9' t_k9' F_k9' N_k9'; (try k_sweep))
  revert X ret; k_fill; intro X ret
  refine wpAny_call ?_
  obtain ⟨k9, n9, g9, c9, e9⟩ := cs
  dsimp only at hk
  subst hk
  k_dflt k_enter
  k_steps
  exact ret _ _ (by assumption) (by assumption)
end
end Mine
end
section
open PySem.Spec
namespace Mine
theorem eqGives_bytes (b c : Array UInt8) (t u : Tok) : MeetsSeq.EqGives (.bytes b t) (.bytes c u) (b.toList == c.toList) := fun prog w A E s Q h => by
  unfold eqBool
  show wpAny _ _ (if (Value.bytes b t == Value.bytes c u) = true then _ else _) Q E s
  by_cases hab : (Value.bytes b t == Value.bytes c u) = true
  · rw [if_pos hab]
    have e : b = c := by have := eq_of_beq hab; injection this
    subst e
    exact wpAny_bind (wpAny_rule (wpAny_pure (by simpa using h)))
  · rw [if_neg hab]
    exact wpAny_bind (show wpAny (model prog w) A (compareOp .Eq (.bytes b t) (.bytes c u)) _ E s from eq_bytes (wpAny_truthy_bool h))
/-- bytes none of which is b -/
def NoBytes (vs : List Value) (b : Array UInt8) : Prop := ∀ v ∈ vs, ∃ c t, v = Value.bytes c t ∧ c.toList ≠ b.toList
theorem in_bytes_no {prog : Program} {w : World} {A : Around} {E : Value → Shared → Prop} {s : Shared} {Q : Value → Shared → Prop} {l : Addr} {vs : List Value} {b : Array UInt8} {t : Tok} (hl : s.heap.IsList l vs.toArray) (hn : NoBytes vs b)
    (h : Q (.bool false) s) : wpAny (model prog w) A (compareOp .In (.bytes b t) (.ref l)) Q E s := by
  have key : ∀ y, y ∈ vs.toArray → MeetsSeq.EqGives y (.bytes b t) false := fun y hy => by
    obtain ⟨c, u, rfl, hne⟩ := hn y (by simpa using hy)
    have e := eqGives_bytes c b u t
    rw [show (c.toList == b.toList) = false from beq_eq_false_iff_ne.mpr hne] at e
    exact e
  refine SeqInW.in_listW (fun _ => false) key hl ?_
  rw [show vs.toArray.any (fun _ => false) = false by simp]
  exact h
end Mine
end
section
namespace Mine
section
variable {w : World} {p : Program} {loose : List Str} {mean : ExcName → Option Value} {mg mb : Str → Option Value} {dp un : Nat} {gd : Option (List Code)} {cn : Str} {cs : Scope} {a : Addr} {ccd : Value} {cl : List (Str × Addr)} {outer : List Env} {A₀ : Around} {base h₀ : Heap} {L : Addr} {m : Str → Option Value}
  {s : Shared} {Q E : Value → Shared → Prop}
theorem issue_spec {rest : List (Addr × Obj)} {lx dlx d le : Addr} {t1 t2 t3 t4 t5 t6 t7 t8 t9 tc tt : Tok} {lim ns : Int} {o : Obj} {kvs : List (Int × Value)} {n0 : Nat} {evs : List Value} {cb tb : Array UInt8}
  (B : Below A₀ base outer h₀) (F : Fr h₀ L s.heap m) (X : (hd.heap_39 w.params).In h₀) (N : News h₀ L s.heap ((lx, instObj 295 dlx) :: (dlx, dictOf (lids w.params t1 t2 t3 t4 t5 t6 (.int lim t7) d le (.int ns t8) (.int 0 t9) false) 6) :: (d, o) :: (le, listOf evs.toArray n0) :: rest)) (T : Top p loose mean mg mb h₀) (hk : cs.kind = .function)
  (hd : dp + 30 < recursionLimit) (hu : un + 240 < cLine)
  (ne1 : @Ne Nat lx dlx) (ne2 : @Ne Nat lx d) (ne3 : @Ne Nat lx le) (ne4 : @Ne Nat dlx d) (ne5 : @Ne Nat dlx le) (ne6 : @Ne Nat d le) (r2 : ∀ p ∈ rest, p.1 ≠ dlx) (r3 : ∀ p ∈ rest, p.1 ≠ d) (r4 : ∀ p ∈ rest, p.1 ≠ le)
  (hd0 : o.IsDictOf (PySem.intKind PySem.Challenge.rw_rg0255_01.row.prog w) kvs) (hlo : (d == sysModules) = false) (hz : kvs.length ≤ 1000) (hpos : ∀ q ∈ kvs, 0 ≤ q.1)
  (hnew : kvs.any (fun kv => decide (kv.1 = ns)) = false) (hroom : (kvs.length : Int) < lim) (hno : NoBytes evs cb) (hev : evs.length ≤ 1000)
  (ret : ∀ x h' tk' ta tb' tc' o', Fr h₀ L h' m → o'.IsDictOf (PySem.intKind PySem.Challenge.rw_rg0255_01.row.prog w) (kvs ++ [(ns, Value.bytes cb tc)]) →
    News h₀ L h' ((x, { cls := .type "tuple", data := .seq [.str (Str.ofString "new_connection_id") ta, .int ns t8, .int 0 t9, .bytes cb tc, .bytes tb tt].toArray }) :: (lx, instObj 295 dlx) :: (dlx, dictOf (lids w.params t1 t2 t3 t4 t5 t6 (.int lim t7) d le (.int (ns + 1) tb') (.int 0 t9) false) 6) :: (d, o') :: (le, listOf (evs ++ [Value.bytes cb tc]).toArray tc') :: rest) →
    (∀ q ∈ ((lx, instObj 295 dlx) :: (dlx, dictOf [] 0) :: (d, o') :: (le, dictOf [] 0) :: rest), q.1 < x) → Q (.ref x) { s with heap := h', toks := tk' }) :
  wpAny (model PySem.Challenge.rw_rg0255_01.row.prog w) (ktrTop dp un gd cn cs L a ccd cl outer) (call (.ref 271) [.ref lx, .bytes cb tc, .bytes tb tt]) Q E s := by
  k_with_none
  k_with "call ref" => (k_here; (with_reducible show wpAny _ _ (call (Value.ref 264) _) _ _ _); k_dflt (refine' may_spec ?B ?F ?X ?N ?T ?hk ?hd ?hu ?i1 ?i2 ?i3 ?hd0 ?hlo ?hz ?hpos ?_; (case B => k_asm); (case F => k_asm); (case X => k_asm); (case N => k_asm); (case T => k_asm); (case hk => exact rfl); (case hd => ktr_room); (case hu => ktr_units); (case i1 => k_mem); (case i2 => k_mem); (case i3 => k_mem); (case hd0 => k_asm); (case hlo => k_asm); (case hz => k_asm); (case hpos => k_asm)); intro h_k9' tk_k9' F_k9' N_k9'; (try k_sweep))
  k_with "setItem ref int" => (k_here; k_dflt (refine' kda_set (knd := PySem.intKind _ _) ?F ?N ?U ?d (intKind_is _ _ _ _) ?z ?_; (case F => k_asm); (case N => k_asm); (case U => k_updF); (case d => k_asm); (case z => rw [sizeLine_eq]; omega)); intro h_k9' o_k9' F_k9' N_k9' hd_k9'; (try dsimp only at N_k9'))
  k_with "compareOp In bytes ref" => (k_here; k_dflt (refine' in_bytes_no ?l ?n ?_; (case l => exact News.isList (by k_asm) (by k_mem)); (case n => k_asm)))
  revert X ret; k_fill; intro X ret
  refine wpAny_call ?_
  obtain ⟨k9, n9, g9, c9, e9⟩ := cs
  dsimp only at hk
  subst hk
  k_dflt k_enter
  k_steps
  have hst : stored kvs ns (Value.bytes cb tc) = kvs ++ [(ns, Value.bytes cb tc)] := by unfold stored; rw [hnew]; rfl
  have N9 := (by assumption : News h₀ L _ _)
  rw [List.push_toArray] at N9
  exact ret _ _ _ _ _ _ _ (by assumption) (hst ▸ by assumption) N9 (by first | exact ktn_ltOf (by simp only [AllLt]; assumption) | exact List.forall_mem_cons.mpr ⟨by assumption, List.forall_mem_cons.mpr ⟨by assumption, List.forall_mem_cons.mpr ⟨by assumption, List.forall_mem_cons.mpr ⟨by assumption, by assumption⟩⟩⟩⟩)
end
end Mine
end
section
open PySem.Spec
namespace Mine
theorem updF_upd {d : Addr} {o o' : Obj} {l : List (Addr × Obj)} {g : Obj → List (Addr × Obj)} (h : UpdF d o l g) : Upd d o o' l (g o') := by
  induction h with
  | head k => exact Upd.head k
  | tail k _ ih => exact Upd.tail k ih
theorem isStr_iff {v : Value} {n : Str} : v.isStr n = true ↔ ∃ t, v = .str n t := by
  cases v with
  | str x t =>
    show (x == n) = true ↔ _
    constructor
    · intro h; exact ⟨t, by rw [eq_of_beq h]⟩
    · rintro ⟨u, e⟩; cases e; exact beq_self_eq_true _
  | _ => exact ⟨fun h => absurd h Bool.false_ne_true, fun ⟨_, e⟩ => by cases e⟩
theorem getL_put_self {name : Str} {hsh : Int} {t : Tok} {v : Value} : ∀ {es : List DictEntry}, getL name (putL name hsh (.str name t) v es) = some (some v)
  | [] => by
    have h : (Value.str name t).isStr name = true := isStr_iff.mpr ⟨t, rfl⟩
    simp [getL, putL, List.find?_cons, h]
  | e :: r => by
    cases h : e.key.isStr name with
    | true => simp [getL, putL, List.find?_cons, h]
    | false =>
      have ih := getL_put_self (name := name) (hsh := hsh) (t := t) (v := v) (es := r)
      have hk : (Value.str name t).isStr name = true := isStr_iff.mpr ⟨t, rfl⟩
      have hs : ((putL name hsh (.str name t) v r).find? fun x => x.key.isStr name).isSome = true := by
        clear ih h
        induction r with
        | nil => simp [putL, List.find?_cons, hk]
        | cons e r ih =>
          cases h : e.key.isStr name with
          | true => simp [putL, List.find?_cons, h]
          | false => simpa [putL, List.find?_cons, h] using ih
      obtain ⟨x, hx⟩ := Option.isSome_iff_exists.mp hs
      have e1 : getL name (putL name hsh (.str name t) v r) = some (some x.val) := by unfold getL; rw [hx]
      rw [e1] at ih
      unfold getL putL
      rw [h]
      simp only [Bool.false_eq_true, if_false, List.find?_cons, h]
      rw [hx]
      exact ih
theorem putL_keys {name : Str} {hsh : Int} {t : Tok} {v : Value} : ∀ {es : List DictEntry}, (putL name hsh (.str name t) v es).map (·.key) = es.map (·.key) ∨ (putL name hsh (.str name t) v es).map (·.key) = es.map (·.key) ++ [.str name t]
  | [] => .inr rfl
  | e :: r => by
    unfold putL
    cases h : e.key.isStr name with
    | true => exact .inl rfl
    | false =>
      rcases putL_keys (name := name) (hsh := hsh) (t := t) (v := v) (es := r) with q | q
      · left; simp [q]
      · right; simp [q]
theorem putL_len {name : Str} {hsh : Int} {t : Tok} {v : Value} {es : List DictEntry} : (putL name hsh (.str name t) v es).length ≤ es.length + 1 := by
  rcases putL_keys (name := name) (hsh := hsh) (t := t) (v := v) (es := es) with q | q <;> have := congrArg List.length q <;> simp at this <;> omega
theorem isStr_other {name nm : Str} (hne : nm ≠ name) {v : Value} (h : v.isStr name = true) : v.isStr nm = false := by
  obtain ⟨u, eu⟩ := isStr_iff.mp h
  cases q : v.isStr nm with
  | false => rfl
  | true => obtain ⟨u', e'⟩ := isStr_iff.mp q; rw [eu] at e'; cases e'; exact absurd rfl hne
theorem find_put_ne {name nm : Str} {hsh : Int} {t : Tok} {v : Value} (hne : nm ≠ name) : ∀ {es : List DictEntry}, (putL name hsh (.str name t) v es).find? (fun x => x.key.isStr nm) = es.find? (fun x => x.key.isStr nm)
  | [] => by
    have h : (Value.str name t).isStr nm = false := isStr_other hne (isStr_iff.mpr ⟨t, rfl⟩)
    simp [putL, h]
  | e :: r => by
    have ih := find_put_ne (name := name) (nm := nm) (hsh := hsh) (t := t) (v := v) hne (es := r)
    cases h : e.key.isStr name with
    | true => simp [putL, h, List.find?_cons, isStr_other hne h]
    | false => simp [putL, h, List.find?_cons, ih]
theorem any_put {name : Str} {hsh : Int} {t : Tok} {v : Value} : ∀ {es : List DictEntry}, (putL name hsh (.str name t) v es).any (·.refKey) = es.any (·.refKey)
  | [] => rfl
  | e :: r => by
    have ih := any_put (name := name) (hsh := hsh) (t := t) (v := v) (es := r)
    cases h : e.key.isStr name with
    | true => simp only [putL, h, if_true, List.any_cons]; rfl
    | false => simp only [putL, h, Bool.false_eq_true, if_false, List.any_cons, ih]
theorem getL_put_ne {name nm : Str} {hsh : Int} {t : Tok} {v : Value} (hne : nm ≠ name) {es : List DictEntry} : getL nm (putL name hsh (.str name t) v es) = getL nm es := by
  unfold getL
  rw [find_put_ne hne]
  cases List.find? (fun x => x.key.isStr nm) es with
  | some e => rfl
  | none => simp only [any_put]
theorem getL_via {name nm : Str} {es es' : List DictEntry} {x : Option (Option Value)} (h : ∀ n, n ≠ name → getL n es' = getL n es) (ne : nm ≠ name) (r : getL nm es = x) : getL nm es' = x := (h nm ne).trans r
section
variable {prog : Program} {w : World} {A : Around} {E : Value → Shared → Prop} {s : Shared} {K : Frag} {x C dx L : Addr} {h₀ : Heap} {m : Str → Option Value} {news : List (Addr × Obj)} {g : Obj → List (Addr × Obj)} {ox : Obj} {es : List DictEntry} {n : Nat} {name : Str} {v : Value}
/-- a store into an object's dict of which only the reads are known -/
theorem set_abs {Q : Unit → Shared → Prop} {u : Option Value} {k : Nat} (F : Fr h₀ L s.heap m) (X₀ : K.In h₀) (N : News h₀ L s.heap news) (I : InstAt s.heap x ox C (some (dictOf es n))) (hd : ox.dict = some dx)
    (hs : findIn K (.ref C) "__setattr__" = some (some (.builtin "object.__setattr__"))) (hp : plainOver K C = true) (ht : takerIn K C name = some none) (hh : hasDictIn K C = true) (hl : getL name es = some u) (hz : es.length ≤ k) (hk : k ≤ 900)
    (U : UpdF dx (dictOf es n) news g)
    (h : ∀ h' es' n', Fr h₀ L h' m → News h₀ L h' (g (dictOf es' n')) → getL name es' = some (some v) → (∀ nm, nm ≠ name → getL nm es' = getL nm es) → es'.length ≤ k + 1 → Q () { s with heap := h', toks := s.toks + 2 }) :
    wpAny (model prog w) A (setAttr (.ref x) name v) Q E s :=
  set_dict F X₀ N I hd hs hp ht hh (by rw [hl]; rfl) rfl (updF_upd U) (Nat.le_trans putL_len (by omega)) fun h' F' N' =>
    h h' _ _ F' N' getL_put_self (fun nm hne => getL_put_ne hne) (Nat.le_trans putL_len (by omega))
end
end Mine
end
local macro_rules | `(tactic| k_get) => `(tactic| first | with_reducible assumption | (refine' Mine.getL_via ?h ?n ?r; (case h => with_reducible assumption); (case n => decide); (case r => k_get)))
section
namespace Mine
section
variable {w : World} {p : Program} {loose : List Str} {mean : ExcName → Option Value} {mg mb : Str → Option Value} {dp un : Nat} {gd : Option (List Code)} {cn : Str} {cs : Scope} {a : Addr} {ccd : Value} {cl : List (Str × Addr)} {outer : List Env} {A₀ : Around} {base h₀ : Heap} {L : Addr} {m : Str → Option Value}
  {s : Shared} {Q E : Value → Shared → Prop}
theorem space_spec {news : List (Addr × Obj)} {t : Tok}
  (B : Below A₀ base outer h₀) (F : Fr h₀ L s.heap m) (X : (hd.heap_39 w.params).In h₀) (N : News h₀ L s.heap news) (T : Top p loose mean mg mb h₀) (hk : cs.kind = .function)
  (hd : dp + 30 < recursionLimit) (hu : un + 240 < cLine)
  (ret : ∀ x dx es n h' tk', Fr h₀ L h' m → News h₀ L h' ((x, instObj 470 dx) :: (dx, dictOf es n) :: news) → (∀ q ∈ news, q.1 < dx) → @LT.lt Nat _ dx x → es.length ≤ 17 →
    (∀ nm ∈ ["is_client", "role", "original", "config", "local", "params", "owed", "choose", "has_peer_moved_cid", "first_peer_cid"], getL (Str.ofString nm) es = some none) → Q (.ref x) { s with heap := h', toks := tk' }) :
  wpAny (model PySem.Challenge.rw_rg0255_01.row.prog w) (ktrTop dp un gd cn cs L a ccd cl outer) (call (.ref 470) [.str (Str.ofString "state") t]) Q E s := by
  k_with_none
  revert X ret; k_fill; intro X ret
  obtain ⟨k9, n9, g9, c9, e9⟩ := cs
  dsimp only at hk
  subst hk
  k_steps
  refine ret _ _ _ _ _ _ (by assumption) (fun p hp => (by assumption : News h₀ L _ _) p (List.mem_cons_of_mem _ (List.mem_cons_of_mem _ (List.mem_cons_of_mem _ (List.mem_cons_of_mem _ hp))))) (by assumption) (by assumption) (Nat.le_of_ble_eq_true rfl) ?_
  refine List.forall_mem_cons.mpr ⟨?_, List.forall_mem_cons.mpr ⟨?_, List.forall_mem_cons.mpr ⟨?_, List.forall_mem_cons.mpr ⟨?_, List.forall_mem_cons.mpr ⟨?_, List.forall_mem_cons.mpr ⟨?_, List.forall_mem_cons.mpr ⟨?_, List.forall_mem_cons.mpr ⟨?_, List.forall_mem_cons.mpr ⟨?_, List.forall_mem_cons.mpr ⟨?_, List.forall_mem_nil _⟩⟩⟩⟩⟩⟩⟩⟩⟩⟩
  all_goals (first | k_get | fail "g")
end
end Mine
end
section
namespace Mine
abbrev ownZero : Array UInt8 := [111, 119, 110, 45, 122, 101, 114, 111].toArray
theorem sub4 {a b c d : Addr × Obj} {r : List (Addr × Obj)} : ∀ p ∈ a :: b :: c :: d :: r, p ∈ d :: c :: a :: b :: r := by
  intro p hp
  simp only [List.mem_cons] at hp ⊢
  rcases hp with h | h | h | h | h <;> simp only [h, true_or, or_true]
theorem allTrans9 {news : List (Addr × Obj)} {a b : Addr} (h2 : @LT.lt Nat _ a b) (h : ∀ q ∈ news, q.1 < a) : ∀ q ∈ news, q.1 < b := fun q hq => Nat.lt_trans (h q hq) h2
section
variable {w : World} {p : Program} {loose : List Str} {mean : ExcName → Option Value} {mg mb : Str → Option Value} {dp un : Nat} {gd : Option (List Code)} {cn : Str} {cs : Scope} {a : Addr} {ccd : Value} {cl : List (Str × Addr)} {outer : List Env} {A₀ : Around} {base h₀ : Heap} {L : Addr} {m : Str → Option Value}
  {s : Shared} {Q E : Value → Shared → Prop}
theorem ids_spec {news : List (Addr × Obj)} {ft tl : Tok} {lim : Int}
  (B : Below A₀ base outer h₀) (F : Fr h₀ L s.heap m) (X : (hd.heap_39 w.params).In h₀) (N : News h₀ L s.heap news) (T : Top p loose mean mg mb h₀) (hk : cs.kind = .function)
  (hd : dp + 30 < recursionLimit) (hu : un + 240 < cLine)
  (ret : ∀ lx dlx d le o t1 t2 t3 t4 t5 t6 t8 t9 n0 h' tk', Fr h₀ L h' m →
    News h₀ L h' ((lx, instObj 295 dlx) :: (dlx, dictOf (lids w.params t1 t2 t3 t4 t5 t6 (.int lim tl) d le (.int 1 t8) (.int 0 t9) false) 6) :: (d, o) :: (le, listOf [Value.bytes ownZero ft].toArray n0) :: news) →
    o.IsDictOf (PySem.intKind PySem.Challenge.rw_rg0255_01.row.prog w) [(0, Value.bytes ownZero ft)] → (d == sysModules) = false →
    (∀ q ∈ news, q.1 < dlx) → @LT.lt Nat _ dlx lx → @LT.lt Nat _ lx d → @LT.lt Nat _ d le → (∀ q ∈ news, q.1 < d) → (∀ q ∈ news, q.1 < le) → (∀ q ∈ news, q.1 < lx) → Q (.ref lx) { s with heap := h', toks := tk' }) :
  wpAny (model PySem.Challenge.rw_rg0255_01.row.prog w) (ktrTop dp un gd cn cs L a ccd cl outer) (call (.ref 295) [.bytes ownZero ft, .int lim tl]) Q E s := by
  k_with_none
  revert X ret; k_fill; intro X ret
  obtain ⟨k9, n9, g9, c9, e9⟩ := cs
  dsimp only at hk
  subst hk
  k_steps
  exact ret _ _ _ _ _ _ _ _ _ _ _ _ _ _ _ _ (by assumption) (fun p hp => (by assumption : News h₀ L _ _) p (sub4 p hp)) (by assumption) (by assumption) (by assumption) (by assumption) (by first | assumption | omega) (by first | assumption | omega) (by first | assumption | exact allTrans9 (by assumption) (by assumption) | exact fun q hq => Nat.lt_trans ((by assumption : ∀ p ∈ news, p.1 < _) q hq) (by omega)) (by first | assumption | exact allTrans9 (by assumption) (by assumption) | exact fun q hq => Nat.lt_trans ((by assumption : ∀ p ∈ news, p.1 < _) q hq) (by omega)) (by first | assumption | exact allTrans9 (by assumption) (by assumption) | exact fun q hq => Nat.lt_trans ((by assumption : ∀ p ∈ news, p.1 < _) q hq) (by omega))
end
end Mine
end
section
open PySem.Spec
namespace Mine
theorem NoBytes.nil {b : Array UInt8} : NoBytes [] b := fun _ h => nomatch h
theorem NoBytes.cons {b c : Array UInt8} {t : Tok} {vs : List Value} (h : c.toList ≠ b.toList) (r : NoBytes vs b) : NoBytes (.bytes c t :: vs) b := fun v hv => by
  rcases List.mem_cons.mp hv with rfl | hv
  · exact ⟨c, t, rfl, h⟩
  · exact r v hv
/-- what choose gives -/
abbrev repB (k : Nat) (v : Int) : Array UInt8 := byteArr (List.replicate k v)
theorem ints_rep {v : Int} {t : Tok} : ∀ {k : Nat}, IntsAre (List.replicate k [Value.int v t]).flatten (List.replicate k v)
  | 0 => IntsAre.nil
  | k + 1 => by
    rw [List.replicate_succ, List.replicate_succ, List.flatten_cons]
    exact IntsAre.cons v t ints_rep
section
variable {prog : Program} {w : World} {A : Around} {E : Value → Shared → Prop} {s : Shared} {h₀ : Heap} {L D : Addr} {m : Str → Option Value} {news : List (Addr × Obj)}
theorem mul_one {l : Addr} {v x : Int} {t u : Tok} {n : Nat} {Q : Value → Shared → Prop} (F : Fr h₀ L s.heap m) (N : News h₀ L s.heap news) (hl : (l, listOf #[Value.int v t] n) ∈ news) (h0 : 0 ≤ x) (h1 : x ≤ 200)
    (h : ∀ D h', Fr h₀ L h' m → News h₀ L h' ((D, listOf (List.replicate x.toNat [Value.int v t]).flatten.toArray 0) :: news) → (∀ p ∈ news, p.1 < D) → Q (.ref D) { s with heap := h' }) :
    wpAny (model prog w) A (binaryOp .Mult (.ref l) (.int x u)) Q E s :=
  KMa.mul (vs := [Value.int v t]) F N ⟨_, (N _ hl).1, rfl, n, rfl⟩ (by omega) (by omega) (by show 1 * x.toNat ≤ 256; omega) rfl h
theorem bytes_rep {k : Nat} {v : Int} {t : Tok} {n : Nat} {Q : Value → Shared → Prop} (F : Fr h₀ L s.heap m) (N : News h₀ L s.heap news) (hh : A.handled = none) (hl : (D, listOf (List.replicate k [Value.int v t]).flatten.toArray n) ∈ news) (h0 : 0 ≤ v) (h1 : v < 256) (hk : k ≤ 200)
    (h : ∀ h' t' k', Fr h₀ L h' m → News h₀ L h' news → Q (.bytes (repB k v) t') { s with heap := h', toks := k' }) : wpAny (model prog w) A (call (.type "bytes") [.ref D]) Q E s :=
  KBa.make_K F N hh ⟨_, (N _ hl).1, rfl, n, rfl⟩ ints_rep (fun x hx => by rw [List.eq_of_mem_replicate hx]; exact ⟨h0, h1⟩) (by rw [List.length_replicate]; omega) fun h' t' k' F' N' _ => h h' t' k' F' N'
end
abbrev fnObj (fd : FuncData) : Obj := { cls := .type "function", data := .func fd }
/-- a call of f (its code and cells in own) gives b -/
def ClientAt (w : World) (f : Addr) (fd : FuncData) (own : List (Addr × Obj)) (b : Bool) : Prop :=
  ∀ (p : Program) (loose : List Str) (mean : ExcName → Option Value) (mg mb : Str → Option Value) (dp un : Nat) (gd : Option (List Code)) (cn : Str) (cs : Scope) (a : Addr) (ccd : Value) (cl : List (Str × Addr)) (outer : List Env) (A₀ : Around) (base h₀ : Heap) (L : Addr) (m : Str → Option Value)
    (s : Shared) (Q E : Value → Shared → Prop) (news : List (Addr × Obj)),
    Below A₀ base outer h₀ → Fr h₀ L s.heap m → (hd.heap_39 w.params).In h₀ → News h₀ L s.heap news → Top p loose mean mg mb h₀ → CodeHd base 487 483 → cs.kind = .function → dp + 10 < recursionLimit → un + 80 < cLine →
    (f, fnObj fd) ∈ news → (∀ q ∈ own, q ∈ news) → (∀ h' tk', Fr h₀ L h' m → News h₀ L h' news → Q (.bool b) { s with heap := h', toks := tk' }) →
    wpAny (model PySem.Challenge.rw_rg0255_01.row.prog w) (ktrTop dp un gd cn cs L a ccd cl outer) (call (.ref f) []) Q E s
/-- a call of f (its code in own) gives bytes of a number -/
def ChooseAt (w : World) (f : Addr) (fd : FuncData) (own : List (Addr × Obj)) : Prop :=
  ∀ (p : Program) (loose : List Str) (mean : ExcName → Option Value) (mg mb : Str → Option Value) (dp un : Nat) (gd : Option (List Code)) (cn : Str) (cs : Scope) (a : Addr) (ccd : Value) (cl : List (Str × Addr)) (outer : List Env) (A₀ : Around) (base h₀ : Heap) (L : Addr) (m : Str → Option Value)
    (s : Shared) (Q E : Value → Shared → Prop) (news : List (Addr × Obj)) (n : Int) (t1 t2 t3 : Tok) (tok : Bool),
    Below A₀ base outer h₀ → Fr h₀ L s.heap m → (hd.heap_39 w.params).In h₀ → News h₀ L s.heap news → Top p loose mean mg mb h₀ → CodeHd base 487 483 → cs.kind = .function → dp + 10 < recursionLimit → un + 80 < cLine →
    (f, fnObj fd) ∈ news → (∀ q ∈ own, q ∈ news) → 0 ≤ n → n ≤ 50 → (∀ h' tk' t', Fr h₀ L h' m → News h₀ L h' news → Q (.bytes (if tok then repB 16 (n + 200) else repB 8 (n + 100)) t') { s with heap := h', toks := tk' }) →
    wpAny (model PySem.Challenge.rw_rg0255_01.row.prog w) (ktrTop dp un gd cn cs L a ccd cl outer) (call (.ref f) [.str (if tok then Str.ofString "token" else Str.ofString "cid") t1, .int n t2, .int (if tok then 16 else 8) t3]) Q E s
/-- the table of the lambdas' codes -/
abbrev psOf (c1 c2 : Addr) : Array Value := #[rawInt 294, rawInt 61, .ref c1, rawInt 296, rawInt 18, .ref c2]
inductive TabSt where
  | none
  | some (c1 : Addr) (o1 : Obj) (c2 : Addr) (o2 : Obj)
abbrev tabL : TabSt → List (Addr × Obj)
  | .none => [(483, tabObj #[])]
  | .some c1 o1 c2 o2 => [(483, tabObj (psOf c1 c2)), (c1, o1), (c2, o2)]
def IsCodeOf (o : Obj) (q : Str) : Prop := ∃ vs t, o.data = .fields vs ∧ vs[1]? = some (.str q t)
end Mine
end
section
namespace Mine
section
variable {w : World} {p : Program} {loose : List Str} {mean : ExcName → Option Value} {mg mb : Str → Option Value} {dp un : Nat} {gd : Option (List Code)} {cn : Str} {cs : Scope} {a : Addr} {ccd : Value} {cl : List (Str × Addr)} {outer : List Env} {A₀ : Around} {base h₀ : Heap} {L : Addr} {m : Str → Option Value}
  {s : Shared} {Q E : Value → Shared → Prop}
theorem issue_use {news r1 r2' r3' rest : List (Addr × Obj)} {lx dlx d le : Addr} {t1 t2 t3 t4 t5 t6 t7 t8 t9 tc tt : Tok} {lim ns : Int} {o : Obj} {kvs : List (Int × Value)} {n0 : Nat} {evs : List Value} {cb tb : Array UInt8}
  (B : Below A₀ base outer h₀) (F : Fr h₀ L s.heap m) (X : (hd.heap_39 w.params).In h₀) (N : News h₀ L s.heap news) (T : Top p loose mean mg mb h₀) (hk : cs.kind = .function)
  (hd : dp + 30 < recursionLimit) (hu : un + 240 < cLine)
  (p1 : Pick lx (instObj 295 dlx) news r1) (p2 : Pick dlx (dictOf (lids w.params t1 t2 t3 t4 t5 t6 (.int lim t7) d le (.int ns t8) (.int 0 t9) false) 6) r1 r2') (p3 : Pick d o r2' r3') (p4 : Pick le (listOf evs.toArray n0) r3' rest)
  (ne1 : @Ne Nat lx dlx) (ne2 : @Ne Nat lx d) (ne3 : @Ne Nat lx le) (ne4 : @Ne Nat dlx d) (ne5 : @Ne Nat dlx le) (ne6 : @Ne Nat d le) (r2 : ∀ p ∈ rest, p.1 ≠ dlx) (r3 : ∀ p ∈ rest, p.1 ≠ d) (r4 : ∀ p ∈ rest, p.1 ≠ le)
  (hd0 : o.IsDictOf (PySem.intKind PySem.Challenge.rw_rg0255_01.row.prog w) kvs) (hlo : (d == sysModules) = false) (hz : kvs.length ≤ 1000) (hpos : ∀ q ∈ kvs, 0 ≤ q.1)
  (hnew : kvs.any (fun kv => decide (kv.1 = ns)) = false) (hroom : (kvs.length : Int) < lim) (hno : NoBytes evs cb) (hev : evs.length ≤ 1000)
  (ret : ∀ x h' tk' ta tb' tc' o', Fr h₀ L h' m → o'.IsDictOf (PySem.intKind PySem.Challenge.rw_rg0255_01.row.prog w) (kvs ++ [(ns, Value.bytes cb tc)]) →
    News h₀ L h' ((x, { cls := .type "tuple", data := .seq [.str (Str.ofString "new_connection_id") ta, .int ns t8, .int 0 t9, .bytes cb tc, .bytes tb tt].toArray }) :: (lx, instObj 295 dlx) :: (dlx, dictOf (lids w.params t1 t2 t3 t4 t5 t6 (.int lim t7) d le (.int (ns + 1) tb') (.int 0 t9) false) 6) :: (d, o') :: (le, listOf (evs ++ [Value.bytes cb tc]).toArray tc') :: rest) →
    (∀ q ∈ ((lx, instObj 295 dlx) :: (dlx, dictOf [] 0) :: (d, o') :: (le, dictOf [] 0) :: rest), q.1 < x) → Q (.ref x) { s with heap := h', toks := tk' }) :
  wpAny (model PySem.Challenge.rw_rg0255_01.row.prog w) (ktrTop dp un gd cn cs L a ccd cl outer) (call (.ref 271) [.ref lx, .bytes cb tc, .bytes tb tt]) Q E s :=
  issue_spec B F X (fun q hq => by
    rcases List.mem_cons.mp hq with rfl | hq
    · exact N _ p1.it
    rcases List.mem_cons.mp hq with rfl | hq
    · exact N _ (p1.up _ p2.it)
    rcases List.mem_cons.mp hq with rfl | hq
    · exact N _ (p1.up _ (p2.up _ p3.it))
    rcases List.mem_cons.mp hq with rfl | hq
    · exact N _ (p1.up _ (p2.up _ (p3.up _ p4.it)))
    · exact N _ (p1.up _ (p2.up _ (p3.up _ (p4.up _ hq))))) T hk hd hu ne1 ne2 ne3 ne4 ne5 ne6 r2 r3 r4 hd0 hlo hz hpos hnew hroom hno hev ret
end
end Mine
end
section
namespace Mine
def stBody : List Stmt := match PySem.Challenge.pw_rg0255_01.theDef (Str.ofString "_law_state") with
  | some (_, b, _) => b
  | none => []
def lamC : Expr := match stBody with
  | _ :: .Assign _ (.Tuple (e :: _) _ _) _ :: _ => e
  | _ => .Constant .none 0 ⟨0, 0, 0, 0⟩
def lamK : Expr := match stBody with
  | _ :: _ :: _ :: .Assign _ e _ :: _ => e
  | _ => .Constant .none 0 ⟨0, 0, 0, 0⟩
section
variable {w : World} {p : Program} {loose : List Str} {mean : ExcName → Option Value} {mg mb : Str → Option Value} {dp un : Nat} {gd : Option (List Code)} {cn : Str} {cs : Scope} {a : Addr} {ccd : Value} {cl : List (Str × Addr)} {outer : List Env} {A₀ : Around} {base h₀ : Heap} {L : Addr} {m : Str → Option Value}
  {s : Shared} {Q E : Value → Shared → Prop}
theorem choose_of {f c' : Addr} {oc : Obj} {qual nm : Str} {pm ctv : Value} {vs : Array Value} {t : Tok} (hdat : oc.data = .fields vs) (hv : vs[1]? = some (.str qual t)) :
    ∀ P Bd S pos, lamK = .Lambda P Bd S pos → ChooseAt w f (kla_fn nm qual P Bd S [] pm (.ref c') ctv) [(c', oc)] := by
  k_with_none
  k_with "binaryOp Mult ref int" => (k_here; (with_reducible show wpAny _ _ (binaryOp Operator.Mult (Value.ref _) (Value.int _ _)) _ _ _); k_dflt (refine' mul_one ?F ?N ?l ?h0 ?h1 ?_; (case F => k_asm); (case N => k_asm); (case l => k_mem); (case h0 => first | decide | omega); (case h1 => first | decide | omega)); intro D_k9' h_k9' F_k9' N_k9' l1_k9; (try k_lt l1_k9))
  k_with "call type:bytes" => (k_here; (with_reducible show wpAny _ _ (call (Value.type "bytes") [Value.ref _]) _ _ _); k_dflt (refine' bytes_rep ?F ?N ?hh ?hl ?h0 ?h1 ?hk ?_; (case F => k_asm); (case N => k_asm); (case hh => exact rfl); (case hl => k_mem); (case h0 => first | decide | omega); (case h1 => first | decide | omega); (case hk => first | decide | omega)); intro h_k9' t_k9' tk_k9' F_k9' N_k9'; (try k_sweep))
  intro P Bd S pos hL
  conv at hL => lhs; whnf
  cases hL
  intro p loose mean mg mb dp un gd cn cs a ccd cl outer A₀ base h₀ L m s Q E news n t1 t2 t3 tok B F X N T codeHd hk hd hu i1 i2 n0 n1 ret
  revert X ret; k_fill; intro X ret
  obtain ⟨k9, n9, g9, c9, e9⟩ := cs
  dsimp only at hk
  subst hk
  have i3 := i2 (c', oc) (.head _)
  cases tok
  · simp only [Bool.false_eq_true, if_false] at ret ⊢
    refine wpAny_call ?_
    k_dflt kla_enter
    k_steps
    exact ret _ _ _ (by assumption) (fun p hp => (by assumption : News h₀ L _ _) p (by repeat first | exact hp | refine List.Mem.tail _ ?_))
  · simp only [if_true] at ret ⊢
    refine wpAny_call ?_
    k_dflt kla_enter
    k_steps
    exact ret _ _ _ (by assumption) (fun p hp => (by assumption : News h₀ L _ _) p (by repeat first | exact hp | refine List.Mem.tail _ ?_))
theorem client_of {f c' ce : Addr} {oc oe : Obj} {qual nm : Str} {pm ctv : Value} {vs : Array Value} {t : Tok} {b : Bool} (hdat : oc.data = .fields vs) (hv : vs[1]? = some (.str qual t)) (he : oe.data = .cell (some (.bool b))) :
    ∀ P Bd S pos, lamC = .Lambda P Bd S pos → ClientAt w f (kla_fn nm qual P Bd S [(Str.ofString "is_client", ce)] pm (.ref c') ctv) [(c', oc), (ce, oe)] b := by
  intro P Bd S pos hL
  conv at hL => lhs; whnf
  cases hL
  intro p loose mean mg mb dp un gd cn cs a ccd cl outer A₀ base h₀ L m s Q E news B F X N T codeHd hk hd hu i1 i2 ret
  revert X ret; k_fill; intro X ret
  obtain ⟨k9, n9, g9, c9, e9⟩ := cs
  dsimp only at hk
  subst hk
  have i3 := i2 (c', oc) (.head _)
  have i4 := i2 (ce, oe) (.tail _ (.head _))
  refine wpAny_call ?_
  k_dflt kla_enter
  k_steps
  exact ret _ _ (by assumption) (by assumption)
end
end Mine
end
section
namespace Mine
abbrev lamQ : Str := ((Str.ofString "_law_state" ++ (".<locals>." : Str)) ++ ("<lambda>" : Str))
theorem ite_str {M : Model} {A : Around} {env : Env} {E : Value → Shared → Prop} {s : Shared} {b : Bool} {x y : String} {k k' : Nat} {p1 p2 : Pos} {Q : Value → Shared → Prop}
    (h : ∀ t, Q (.str (if b then Str.ofString x else Str.ofString y) t) { s with toks := s.toks + 1 }) :
    if b = true then wpAny M A (eval (.Constant (.str (Str.ofString x)) k p1) env) Q E s else wpAny M A (eval (.Constant (.str (Str.ofString y)) k' p2) env) Q E s := by
  cases b
  · rw [if_neg Bool.false_ne_true]; exact fun _ _ _ => h _
  · rw [if_pos rfl]; exact fun _ _ _ => h _
section
variable {w : World} {p : Program} {loose : List Str} {mean : ExcName → Option Value} {mg mb : Str → Option Value} {dp un : Nat} {gd : Option (List Code)} {cn : Str} {cs : Scope} {a : Addr} {ccd : Value} {cl : List (Str × Addr)} {outer : List Env} {A₀ : Around} {base h₀ : Heap} {L : Addr} {m : Str → Option Value}
  {s : Shared} {Q E : Value → Shared → Prop}
theorem choose_cid {news : List (Addr × Obj)} {f c' : Addr} {oc : Obj} {qual nm : Str} {pm ctv : Value} {vs : Array Value} {t t1 t2 t3 : Tok} {n : Int} {P : Arguments} {Bd : Expr} {S : Scope} {pos : Pos}
  (B : Below A₀ base outer h₀) (F : Fr h₀ L s.heap m) (X : (hd.heap_39 w.params).In h₀) (N : News h₀ L s.heap news) (T : Top p loose mean mg mb h₀) (hk : cs.kind = .function)
  (hd : dp + 10 < recursionLimit) (hu : un + 80 < cLine) (codeHd : CodeHd base 487 483) (i1 : (f, kla_obj nm qual P Bd S [] pm c' ctv) ∈ news) (hL : lamK = .Lambda P Bd S pos) (i2 : (c', oc) ∈ news) (hdat : oc.data = .fields vs) (hv : vs[1]? = some (.str qual t)) (n0 : 0 ≤ n) (n1 : n ≤ 50)
  (ret : ∀ h' tk' t', Fr h₀ L h' m → News h₀ L h' news → Q (.bytes (repB 8 (n + 100)) t') { s with heap := h', toks := tk' }) :
  wpAny (model PySem.Challenge.rw_rg0255_01.row.prog w) (ktrTop dp un gd cn cs L a ccd cl outer) (call (.ref f) [.str (Str.ofString "cid") t1, .int n t2, .int 8 t3]) Q E s :=
  choose_of (f := f) (nm := nm) (pm := pm) (ctv := ctv) hdat hv P Bd S pos hL p loose mean mg mb dp un gd cn cs a ccd cl outer A₀ base h₀ L m s Q E news n t1 t2 t3 false B F X N T codeHd hk hd hu i1 (fun q hq => by rw [List.mem_singleton.mp hq]; exact i2) n0 n1 ret
theorem choose_tok {news : List (Addr × Obj)} {f c' : Addr} {oc : Obj} {qual nm : Str} {pm ctv : Value} {vs : Array Value} {t t1 t2 t3 : Tok} {n : Int} {P : Arguments} {Bd : Expr} {S : Scope} {pos : Pos}
  (B : Below A₀ base outer h₀) (F : Fr h₀ L s.heap m) (X : (hd.heap_39 w.params).In h₀) (N : News h₀ L s.heap news) (T : Top p loose mean mg mb h₀) (hk : cs.kind = .function)
  (hd : dp + 10 < recursionLimit) (hu : un + 80 < cLine) (codeHd : CodeHd base 487 483) (i1 : (f, kla_obj nm qual P Bd S [] pm c' ctv) ∈ news) (hL : lamK = .Lambda P Bd S pos) (i2 : (c', oc) ∈ news) (hdat : oc.data = .fields vs) (hv : vs[1]? = some (.str qual t)) (n0 : 0 ≤ n) (n1 : n ≤ 50)
  (ret : ∀ h' tk' t', Fr h₀ L h' m → News h₀ L h' news → Q (.bytes (repB 16 (n + 200)) t') { s with heap := h', toks := tk' }) :
  wpAny (model PySem.Challenge.rw_rg0255_01.row.prog w) (ktrTop dp un gd cn cs L a ccd cl outer) (call (.ref f) [.str (Str.ofString "token") t1, .int n t2, .int 16 t3]) Q E s :=
  choose_of (f := f) (nm := nm) (pm := pm) (ctv := ctv) hdat hv P Bd S pos hL p loose mean mg mb dp un gd cn cs a ccd cl outer A₀ base h₀ L m s Q E news n t1 t2 t3 true B F X N T codeHd hk hd hu i1 (fun q hq => by rw [List.mem_singleton.mp hq]; exact i2) n0 n1 ret
end
end Mine
end
section
open PySem.Spec
namespace Mine
/-- the id of a number -/
abbrev cidB (i : Int) : Array UInt8 := if i = 0 then ownZero else repB 8 (i + 100)
def cidKvs (t : Nat → Tok) (n : Nat) : List (Int × Value) := (List.range n).map fun (i : Nat) => ((i : Int), Value.bytes (cidB i) (t i))
theorem cid2 (a b : Tok) : [((0 : Int), Value.bytes ownZero a)] ++ [((1 : Int), Value.bytes (repB 8 (1 + 100)) b)] = cidKvs (fun i => if i = 0 then a else b) 2 := rfl
theorem cid3 (a b c : Tok) : [((0 : Int), Value.bytes ownZero a)] ++ [((1 : Int), Value.bytes (repB 8 (1 + 100)) b)] ++ [((2 : Int), Value.bytes (repB 8 (2 + 100)) c)] = cidKvs (fun i => if i = 0 then a else if i = 1 then b else c) 3 := rfl
theorem cid4 (a b c d : Tok) : [((0 : Int), Value.bytes ownZero a)] ++ [((1 : Int), Value.bytes (repB 8 (1 + 100)) b)] ++ [((2 : Int), Value.bytes (repB 8 (2 + 100)) c)] ++ [((3 : Int), Value.bytes (repB 8 (3 + 100)) d)] = cidKvs (fun i => if i = 0 then a else if i = 1 then b else if i = 2 then c else d) 4 := rfl
abbrev stL (w : World) (lim : Int) (tl : Tok) (rest : List (Addr × Obj)) (x dx lx dlx d le ol dcfg dpar f1 ce f2 c1 c2 : Addr) (es : List DictEntry) (n n1 n2 : Nat) (o ocfg opar oce o1 o2 : Obj) (fd1 fd2 : FuncData) (t1 t2 t3 t4 t5 t6 t8 t9 : Tok) (evs : List Value) : List (Addr × Obj) :=
  (x, instObj 470 dx) :: (dx, dictOf es n) :: (lx, instObj 295 dlx) :: (dlx, dictOf (lids w.params t1 t2 t3 t4 t5 t6 (.int lim tl) d le (.int lim t8) (.int 0 t9) false) 6) :: (d, o) :: (le, listOf evs.toArray n1) :: (ol, listOf #[] n2) :: (dcfg, ocfg) :: (dpar, opar) :: (f1, fnObj fd1) :: (ce, oce) :: (f2, fnObj fd2) :: (483, tabObj (psOf c1 c2)) :: (c1, o1) :: (c2, o2) :: rest
/-- what is known of a made state -/
structure StF (w : World) (b : Bool) (lim : Int) (rest : List (Addr × Obj)) (x dx lx dlx d le ol dcfg dpar f1 ce f2 c1 c2 : Addr) (es : List DictEntry) (o ocfg opar oce o1 o2 : Obj) (fd1 fd2 : FuncData) (kvs : List (Int × Value)) (evs : List Value) (tr to ti ti' : Tok) (t : Nat → Tok) : Prop where
  g1 : getL (Str.ofString "is_client") es = some (some (.ref f1))
  g2 : getL (Str.ofString "role") es = some (some (.str (if b then Str.ofString "client" else Str.ofString "server") tr))
  g3 : getL (Str.ofString "original") es = some (some (.bytes [102, 105, 114, 115, 116, 45, 105, 100].toArray to))
  g4 : getL (Str.ofString "config") es = some (some (.ref dcfg))
  g5 : getL (Str.ofString "local") es = some (some (.ref lx))
  g6 : getL (Str.ofString "params") es = some (some (.ref dpar))
  g7 : getL (Str.ofString "owed") es = some (some (.ref ol))
  g8 : getL (Str.ofString "choose") es = some (some (.ref f2))
  g9 : getL (Str.ofString "has_peer_moved_cid") es = some none
  g10 : getL (Str.ofString "first_peer_cid") es = some none
  gz : es.length ≤ 30
  hcfg : ocfg.IsDictOf (PySem.strKind PySem.Challenge.rw_rg0255_01.row.prog w) (strPairs [(.str (Str.ofString "initial") ti, .int 1200 ti')])
  hpar : opar.IsDictOf (PySem.strKind PySem.Challenge.rw_rg0255_01.row.prog w) []
  hd0 : o.IsDictOf (PySem.intKind PySem.Challenge.rw_rg0255_01.row.prog w) kvs
  hlo : (d == sysModules) = false
  hlp : (dpar == sysModules) = false
  hlc : (dcfg == sysModules) = false
  hk0 : kvs = cidKvs t lim.toNat
  he0 : evs = (cidKvs t lim.toNat).map Prod.snd
  cl : ClientAt w f1 fd1 [(c1, o1), (ce, oce)] b
  ch : ChooseAt w f2 fd2 [(c2, o2)]
  i1 : IsCodeOf o1 lamQ
  i2 : IsCodeOf o2 lamQ
  q1 : ∀ p ∈ rest, p.1 < ce
  q2 : @LT.lt Nat _ 483 ce
  q3 : @LT.lt Nat _ ce dx
  q4 : @LT.lt Nat _ dx x
  q5 : @LT.lt Nat _ x f1
  q6 : @LT.lt Nat _ f1 dcfg
  q7 : @LT.lt Nat _ dcfg dlx
  q8 : @LT.lt Nat _ dlx lx
  q9 : @LT.lt Nat _ lx d
  q10 : @LT.lt Nat _ d le
  q11 : @LT.lt Nat _ le dpar
  q12 : @LT.lt Nat _ dpar ol
  q13 : @LT.lt Nat _ ol f2
  u1 : @Ne Nat c1 dx ∧ @Ne Nat c1 x ∧ @Ne Nat c1 dlx ∧ @Ne Nat c1 lx ∧ @Ne Nat c1 d ∧ @Ne Nat c1 le ∧ @Ne Nat c1 ol ∧ @Ne Nat c1 483
  u2 : @Ne Nat c2 dx ∧ @Ne Nat c2 x ∧ @Ne Nat c2 dlx ∧ @Ne Nat c2 lx ∧ @Ne Nat c2 d ∧ @Ne Nat c2 le ∧ @Ne Nat c2 ol ∧ @Ne Nat c2 483
abbrev StRet (w : World) (b : Bool) (lim : Int) (tl : Tok) (rest : List (Addr × Obj)) (h₀ : Heap) (L : Addr) (m : Str → Option Value) (s : Shared) (Q : Value → Shared → Prop) : Prop :=
  ∀ x dx lx dlx d le ol dcfg dpar f1 ce f2 c1 c2 es n n1 n2 o ocfg opar oce o1 o2 fd1 fd2 t1 t2 t3 t4 t5 t6 t8 t9 kvs evs tr to ti ti' t h' tk', Fr h₀ L h' m →
    News h₀ L h' (stL w lim tl rest x dx lx dlx d le ol dcfg dpar f1 ce f2 c1 c2 es n n1 n2 o ocfg opar oce o1 o2 fd1 fd2 t1 t2 t3 t4 t5 t6 t8 t9 evs) →
    StF w b lim rest x dx lx dlx d le ol dcfg dpar f1 ce f2 c1 c2 es o ocfg opar oce o1 o2 fd1 fd2 kvs evs tr to ti ti' t → Q (.ref x) { s with heap := h', toks := tk' }
theorem st_fin {w : World} {b : Bool} {lim : Int} {tl : Tok} {rest : List (Addr × Obj)} {h₀ : Heap} {L : Addr} {m : Str → Option Value} {s : Shared} {Q : Value → Shared → Prop} {x dx lx dlx d le ol dcfg dpar f1 ce f2 c1 c2 : Addr} {es : List DictEntry} {n n1 n2 : Nat} {o ocfg opar oce o1 o2 : Obj} {fd1 fd2 : FuncData} {t1 t2 t3 t4 t5 t6 t8 t9 tr to ti ti' : Tok} {t : Nat → Tok} {kvs : List (Int × Value)} {evs : List Value} {h' : Heap} {tk' : Tok} {all : List (Addr × Obj)}
  (ret : StRet w b lim tl rest h₀ L m s Q) (F : Fr h₀ L h' m) (N : News h₀ L h' all) (m1 : (x, instObj 470 dx) ∈ all) (m2 : (dx, dictOf es n) ∈ all)
  (g1 : getL (Str.ofString "is_client") es = some (some (.ref f1)))
  (g2 : getL (Str.ofString "role") es = some (some (.str (if b then Str.ofString "client" else Str.ofString "server") tr)))
  (g3 : getL (Str.ofString "original") es = some (some (.bytes [102, 105, 114, 115, 116, 45, 105, 100].toArray to)))
  (g4 : getL (Str.ofString "config") es = some (some (.ref dcfg)))
  (g5 : getL (Str.ofString "local") es = some (some (.ref lx)))
  (g6 : getL (Str.ofString "params") es = some (some (.ref dpar)))
  (g7 : getL (Str.ofString "owed") es = some (some (.ref ol)))
  (g8 : getL (Str.ofString "choose") es = some (some (.ref f2)))
  (g9 : getL (Str.ofString "has_peer_moved_cid") es = some none)
  (g10 : getL (Str.ofString "first_peer_cid") es = some none)
  (gz : es.length ≤ 30)
  (m3 : (lx, instObj 295 dlx) ∈ all) (m4 : (dlx, dictOf (lids w.params t1 t2 t3 t4 t5 t6 (.int lim tl) d le (.int lim t8) (.int 0 t9) false) 6) ∈ all) (m5 : (d, o) ∈ all) (m6 : (le, listOf evs.toArray n1) ∈ all) (m7 : (ol, listOf #[] n2) ∈ all)
  (m8 : (dcfg, ocfg) ∈ all) (m9 : (dpar, opar) ∈ all) (m10 : (f1, fnObj fd1) ∈ all) (m12 : (f2, fnObj fd2) ∈ all) (m13 : (483, tabObj (psOf c1 c2)) ∈ all) (m14 : (c1, o1) ∈ all) (m15 : (c2, o2) ∈ all) (m11 : (ce, oce) ∈ all)
  (hcfg : ocfg.IsDictOf (PySem.strKind PySem.Challenge.rw_rg0255_01.row.prog w) (strPairs [(.str (Str.ofString "initial") ti, .int 1200 ti')]))
  (hpar : opar.IsDictOf (PySem.strKind PySem.Challenge.rw_rg0255_01.row.prog w) [])
  (hd0 : o.IsDictOf (PySem.intKind PySem.Challenge.rw_rg0255_01.row.prog w) kvs)
  (hlo : (d == sysModules) = false)
  (hlp : (dpar == sysModules) = false)
  (hlc : (dcfg == sysModules) = false)
  (hk0 : kvs = cidKvs t lim.toNat)
  (he0 : evs = (cidKvs t lim.toNat).map Prod.snd)
  (cl : ClientAt w f1 fd1 [(c1, o1), (ce, oce)] b)
  (ch : ChooseAt w f2 fd2 [(c2, o2)])
  (i1 : IsCodeOf o1 lamQ)
  (i2 : IsCodeOf o2 lamQ)
  (q1 : ∀ p ∈ rest, p.1 < ce)
  (q : @LT.lt Nat _ 483 ce ∧ @LT.lt Nat _ ce dx ∧ @LT.lt Nat _ dx x ∧ @LT.lt Nat _ x f1 ∧ @LT.lt Nat _ f1 dcfg ∧ @LT.lt Nat _ dcfg dlx ∧ @LT.lt Nat _ dlx lx ∧ @LT.lt Nat _ lx d ∧ @LT.lt Nat _ d le ∧ @LT.lt Nat _ le dpar ∧ @LT.lt Nat _ dpar ol ∧ @LT.lt Nat _ ol f2)
  (u1 : @Ne Nat c1 dx ∧ @Ne Nat c1 x ∧ @Ne Nat c1 dlx ∧ @Ne Nat c1 lx ∧ @Ne Nat c1 d ∧ @Ne Nat c1 le ∧ @Ne Nat c1 ol ∧ @Ne Nat c1 483)
  (u2 : @Ne Nat c2 dx ∧ @Ne Nat c2 x ∧ @Ne Nat c2 dlx ∧ @Ne Nat c2 lx ∧ @Ne Nat c2 d ∧ @Ne Nat c2 le ∧ @Ne Nat c2 ol ∧ @Ne Nat c2 483)
  (mr : ∀ p ∈ rest, p ∈ all) : Q (.ref x) { s with heap := h', toks := tk' } := by
  refine ret x dx lx dlx d le ol dcfg dpar f1 ce f2 c1 c2 es n n1 n2 o ocfg opar oce o1 o2 fd1 fd2 t1 t2 t3 t4 t5 t6 t8 t9 kvs evs tr to ti ti' t h' tk' F (fun p hp => N p (?_ : p ∈ all)) ⟨g1, g2, g3, g4, g5, g6, g7, g8, g9, g10, gz, hcfg, hpar, hd0, hlo, hlp, hlc, hk0, he0, cl, ch, i1, i2, q1, q.1, q.2.1, q.2.2.1, q.2.2.2.1, q.2.2.2.2.1, q.2.2.2.2.2.1, q.2.2.2.2.2.2.1, q.2.2.2.2.2.2.2.1, q.2.2.2.2.2.2.2.2.1, q.2.2.2.2.2.2.2.2.2.1, q.2.2.2.2.2.2.2.2.2.2.1, q.2.2.2.2.2.2.2.2.2.2.2, u1, u2⟩
  revert p
  exact List.forall_mem_cons.mpr ⟨m1, List.forall_mem_cons.mpr ⟨m2, List.forall_mem_cons.mpr ⟨m3, List.forall_mem_cons.mpr ⟨m4, List.forall_mem_cons.mpr ⟨m5, List.forall_mem_cons.mpr ⟨m6, List.forall_mem_cons.mpr ⟨m7, List.forall_mem_cons.mpr ⟨m8, List.forall_mem_cons.mpr ⟨m9, List.forall_mem_cons.mpr ⟨m10, List.forall_mem_cons.mpr ⟨m11, List.forall_mem_cons.mpr ⟨m12, List.forall_mem_cons.mpr ⟨m13, List.forall_mem_cons.mpr ⟨m14, List.forall_mem_cons.mpr ⟨m15, mr⟩⟩⟩⟩⟩⟩⟩⟩⟩⟩⟩⟩⟩⟩⟩
end Mine
end
section
open PySem.Spec
namespace Mine
/-- a place where the walk is to stop -/
def Stop (P : Prop) : Prop := P
theorem Stop.go {P : Prop} (h : Stop P) : P := h
section
variable {prog : Program} {w : World} {A : Around} {E : Value → Shared → Prop} {s : Shared} {env : Env} {h₀ : Heap} {x : Str} {body : List Stmt} {Q : Flow → Shared → Prop}
theorem unr_mono {I : Addr} {it : Obj} {r r' : (Str → Option Value) → List (Addr × Obj) → Prop} {s₁ : Shared} (h : ∀ m n, r m n → r' m n) (f : Flow) (s₂ : Shared) (u : UnrPost h₀ env.locals s₁ I it r Q f s₂) : UnrPost h₀ env.locals s₁ I it r' Q f s₂ := by
  have k : UnrEnd h₀ env.locals s₁ I it r s₂ → UnrEnd h₀ env.locals s₁ I it r' s₂ := fun ⟨h', tk, m', n', e, F, N, o, q⟩ => ⟨h', tk, m', n', e, F, N, o, h _ _ q⟩
  cases f with
  | ret v => exact u
  | brk => exact u
  | next => exact k u
  | cont => exact k u
theorem range_inv {r : Addr} {a₀ b₀ : Int} {t₀ u₀ v₀ : Tok} {n : Nat} {m₀ : Str → Option Value} {news : List (Addr × Obj)} (Inv : Addr → Nat → (Str → Option Value) → List (Addr × Obj) → Prop)
    (hh : A.handled = none) (hr : IsRange s.heap r a₀ b₀ 1 t₀ u₀ v₀) (hsmall : Builtin.Range.small a₀ b₀ 1 = true) (hn : Builtin.Range.rangeSize a₀ b₀ 1 = (n : Int)) (F : Fr h₀ env.locals s.heap m₀) (N : News h₀ env.locals s.heap news)
    (init : ∀ I : Addr, (∀ p ∈ news, p.1 < I) → Inv I 0 m₀ news)
    (last : ∀ I m' news' h tk, Inv I n m' news' → Fr h₀ env.locals h m' → News h₀ env.locals h news' → Q .next { s with heap := h, toks := tk })
    (step : ∀ I i m' news' t h tk, i < n → Inv I i m' news' → Fr h₀ env.locals h (fun y => if y = x then some (.int (a₀ + (i : Int)) t) else m' y) → News h₀ env.locals h ((I, itR (a₀ + ((i + 1 : Nat) : Int)) ((n : Int) - ((i + 1 : Nat) : Int))) :: news') →
      wpAny (model prog w) A (execs body env) (UnrPost h₀ env.locals { s with heap := h, toks := tk } I (itR (a₀ + ((i + 1 : Nat) : Int)) ((n : Int) - ((i + 1 : Nat) : Int))) (Inv I (i + 1)) Q) E { s with heap := h, toks := tk }) :
    wpAny (model prog w) A (pyIter (.ref r)) (fun it s₂ => LoopAtV prog w A h₀ env x body Q E it s₂) E s := by
  refine iter_rangeUnr hh hr hsmall hn F N fun I hI => ?_
  have key : ∀ k i m' news', i + k = n → Inv I i m' news' → RangeRest prog w A E h₀ env x body Q s I a₀ n k i m' news' := by
    intro k
    induction k with
    | zero =>
      intro i m' news' hi hv
      have : i = n := by omega
      subst this
      exact RangeRest.zero fun h tk F' N' => last I m' news' h tk hv F' N'
    | succ k ih =>
      intro i m' news' hi hv
      exact RangeRest.succ fun t h tk F' N' => wpAny_mono (step I i m' news' t h tk (by omega) hv F' N') (unr_mono fun m2 n2 q => ih (i + 1) m2 n2 (by omega) q) fun _ _ e => e
  exact key n 0 m₀ news (by omega) (init I hI)
end
theorem cid_len {t : Nat → Tok} {n : Nat} : (cidKvs t n).length = n := by simp [cidKvs]
theorem cid_snoc {t : Nat → Tok} {n : Nat} {u : Tok} (h : 0 < n) : cidKvs t n ++ [((n : Int), Value.bytes (repB 8 ((n : Int) + 100)) u)] = cidKvs (fun i => if i = n then u else t i) (n + 1) := by
  unfold cidKvs
  rw [List.range_succ, List.map_append]
  congr 1
  · apply List.map_congr_left
    intro i hi
    have : i ≠ n := Nat.ne_of_lt (List.mem_range.mp hi)
    simp [this]
  · have : (n : Int) ≠ 0 := by omega
    simp only [List.map_cons, List.map_nil, cidB, if_neg this, if_true]
theorem cid_any {t : Nat → Tok} {n : Nat} : (cidKvs t n).any (fun kv => decide (kv.1 = (n : Int))) = false := by
  rw [List.any_eq_false]
  intro q hq
  obtain ⟨i, hi, rfl⟩ := List.mem_map.mp hq
  have := List.mem_range.mp hi
  simp only [decide_eq_true_eq]
  omega
theorem cid_pos {t : Nat → Tok} {n : Nat} : ∀ q ∈ cidKvs t n, 0 ≤ q.1 := by
  intro q hq
  obtain ⟨i, hi, rfl⟩ := List.mem_map.mp hq
  exact Int.natCast_nonneg i
theorem cid_no {t : Nat → Tok} {n : Nat} (h0 : 0 < n) (h : n ≤ 4) : NoBytes ((cidKvs t n).map Prod.snd) (repB 8 ((n : Int) + 100)) := by
  intro v hv
  obtain ⟨q, hq, rfl⟩ := List.mem_map.mp hv
  obtain ⟨i, hi, rfl⟩ := List.mem_map.mp hq
  refine ⟨_, _, rfl, ?_⟩
  have hi := List.mem_range.mp hi
  have hn : n = 1 ∨ n = 2 ∨ n = 3 ∨ n = 4 := by omega
  have hi' : i = 0 ∨ i = 1 ∨ i = 2 ∨ i = 3 := by omega
  rcases hn with rfl | rfl | rfl | rfl <;> rcases hi' with rfl | rfl | rfl | rfl <;> first | omega | decide
section
variable {w : World} {p : Program} {loose : List Str} {mean : ExcName → Option Value} {mg mb : Str → Option Value} {dp un : Nat} {gd : Option (List Code)} {cn : Str} {cs : Scope} {a : Addr} {ccd : Value} {cl : List (Str × Addr)} {outer : List Env} {A₀ : Around} {base h₀ : Heap} {L : Addr} {m : Str → Option Value}
  {s : Shared} {Q E : Value → Shared → Prop}
theorem choose_at_cid {news : List (Addr × Obj)} {f c' : Addr} {oc : Obj} {fd : FuncData} {t1 t2 t3 : Tok} {n : Int}
  (B : Below A₀ base outer h₀) (F : Fr h₀ L s.heap m) (X : (hd.heap_39 w.params).In h₀) (N : News h₀ L s.heap news) (T : Top p loose mean mg mb h₀) (hk : cs.kind = .function)
  (hd : dp + 10 < recursionLimit) (hu : un + 80 < cLine) (codeHd : CodeHd base 487 483) (ch : ChooseAt w f fd [(c', oc)]) (i1 : (f, fnObj fd) ∈ news) (i2 : (c', oc) ∈ news) (n0 : 0 ≤ n) (n1 : n ≤ 50)
  (ret : ∀ h' tk' t', Fr h₀ L h' m → News h₀ L h' news → Q (.bytes (repB 8 (n + 100)) t') { s with heap := h', toks := tk' }) :
  wpAny (model PySem.Challenge.rw_rg0255_01.row.prog w) (ktrTop dp un gd cn cs L a ccd cl outer) (call (.ref f) [.str (Str.ofString "cid") t1, .int n t2, .int 8 t3]) Q E s :=
  ch p loose mean mg mb dp un gd cn cs a ccd cl outer A₀ base h₀ L m s Q E news n t1 t2 t3 false B F X N T codeHd hk hd hu i1 (fun q hq => by rw [List.mem_singleton.mp hq]; exact i2) n0 n1 ret
theorem choose_at_tok {news : List (Addr × Obj)} {f c' : Addr} {oc : Obj} {fd : FuncData} {t1 t2 t3 : Tok} {n : Int}
  (B : Below A₀ base outer h₀) (F : Fr h₀ L s.heap m) (X : (hd.heap_39 w.params).In h₀) (N : News h₀ L s.heap news) (T : Top p loose mean mg mb h₀) (hk : cs.kind = .function)
  (hd : dp + 10 < recursionLimit) (hu : un + 80 < cLine) (codeHd : CodeHd base 487 483) (ch : ChooseAt w f fd [(c', oc)]) (i1 : (f, fnObj fd) ∈ news) (i2 : (c', oc) ∈ news) (n0 : 0 ≤ n) (n1 : n ≤ 50)
  (ret : ∀ h' tk' t', Fr h₀ L h' m → News h₀ L h' news → Q (.bytes (repB 16 (n + 200)) t') { s with heap := h', toks := tk' }) :
  wpAny (model PySem.Challenge.rw_rg0255_01.row.prog w) (ktrTop dp un gd cn cs L a ccd cl outer) (call (.ref f) [.str (Str.ofString "token") t1, .int n t2, .int 16 t3]) Q E s :=
  ch p loose mean mg mb dp un gd cn cs a ccd cl outer A₀ base h₀ L m s Q E news n t1 t2 t3 true B F X N T codeHd hk hd hu i1 (fun q hq => by rw [List.mem_singleton.mp hq]; exact i2) n0 n1 ret
end
def forS : Stmt := match stBody with
  | _ :: _ :: _ :: _ :: f :: _ => f
  | _ => .Pass ⟨0, 0, 0, 0⟩
def stSc : Scope := match PySem.Challenge.pw_rg0255_01.theDef (Str.ofString "_law_state") with
  | some (_, _, sc) => sc
  | none => { kind := .function, names := [], isGenerator := false, isCoroutine := false }
end Mine
end
section
open PySem.Spec
namespace Mine
abbrev excMro : List Value := [.type "Exception", .type "BaseException", .type "object"]
theorem quic_cls {P : Params} {h : Heap} (X : (hd.heap_39 P).In h) : ∃ nm qn bs hdct sn sub ab col dd k0 k1 k2 k3 k5, h.get? 214 = some (excClassObj nm qn 214 213 bs excMro hdct sn sub ab col dd k0 k1 k2 k3 k5 "Exception.__new__") := by
  refine' ⟨_, _, _, _, _, _, _, _, _, _, _, _, _, _, X 214 _ ?h⟩
  case h => exact rfl
/-- the object of an exception just made -/
abbrev excObj (C t : Addr) (d : Option Addr) : Obj := { cls := .ref C, dict := d, data := .fields #[.ref t, .none, .none, .none, .bool false, .none] }
abbrev tupObj (vs : List Value) : Obj := { cls := .type "tuple", data := .seq vs.toArray }
section
variable {prog : Program} {w : World} {A : Around} {h : Heap} {g : Array GenState} {d : Drawn} {t : Nat} {os : OsState}
variable {nm q : Str} {C N : Addr} {bs : List Value} {hdct : Bool} {sn : List Str} {sub : List Value} {ab : Bool} {col : Option Bool} {dd : Option Addr} {k0 k1 k2 k3 k5 : Option Value}
theorem exc_type_call {mN : Str → Option Value} {rest : List Value} {fI : Addr} {K : Frag} {Q : Fin → Shared → Prop} {E : Value → Shared → Prop} (X : K.In h) (hf : typeIn K (.ref fI) = some (.type "function"))
    (hC : h.get? C = some (excClassObj nm q C N bs excMro hdct sn sub ab col dd k0 k1 k2 k3 k5 "Exception.__new__")) (hn : h.Ns N mN) (hni : mN "__init__" = some (.ref fI))
    (hq : codeAny (model prog w) A (.call (.ref fI) ⟨.ref (h.objs.size + 1) :: rest, []⟩) (InitBack (h.objs.size + 1) fun r s' => match r with | .ok f => Q (.done f) s' | .error e => E e s') ⟨(h.push (tupObj rest)).push (excObj C h.objs.size none), g, d, t, os⟩) (hrest : rest.length ≤ sizeLine := by size_fits) :
    wpAny (model prog w) A (Builtin.«type.__call__» ⟨.ref C :: rest, []⟩) Q E ⟨h, g, d, t, os⟩ := by
  have Fn := PySem.F.excBase_Exception
  have T : OwnTail h excMro excMro := .base
  repeat (first | with_reducible refine wpAny_loadPart_at hC ?_ | with_reducible refine wpAny_madeBy_exc hC ?_ | wp_step)
  refine codeAny_call_builtin_code (Code.quiet_builtin _ Fn.quiet) (wpAny_check_new_subU Fn Fn.hasB T hC ?_)
  refine codeAny_exc_new_subU Fn Fn.hasB Fn T hC ?_ hrest
  show wpAny _ _ _ _ _ _
  have hC₁ := Heap.get?_push_of_some (excObj C h.objs.size none) (Heap.get?_push_of_some (tupObj rest) hC)
  have hn₁ : ((h.push (tupObj rest)).push (excObj C h.objs.size none)).Ns N mN :=
    let ⟨o, es, ep, e, r⟩ := hn; ⟨o, es, ep, Heap.get?_push_of_some _ (Heap.get?_push_of_some _ e), r⟩
  have hget : ((h.push (tupObj rest)).push (excObj C h.objs.size none)).get? (h.objs.size + 1) = some (excObj C h.objs.size none) := by heap_get
  have hcC : (Value.ref C :: excMro).contains (.ref C) = true := by simp
  have T₁ : OwnTail ((h.push (tupObj rest)).push (excObj C h.objs.size none)) excMro excMro := .base
  have X₁ : K.In ((h.push (tupObj rest)).push (excObj C h.objs.size none)) := X.keeps fun b o e => Heap.get?_push_of_some _ (Heap.get?_push_of_some _ e)
  unfold isInstance
  repeat (first | with_reducible refine wpAny_loadPart_at hget ?_ | (with_reducible refine wpAny_isSubtype_exc hC₁ ?_; rw [hcC]) | wp_step)
  show wpAny _ _ (typeLookup (.ref C) _) _ _ _
  refine wpAny_typeLookup_tail hC₁ hn₁ T₁ Fn.mroIs Fn.init.lookup ?_
  rw [hni]
  dsimp only
  refine wpAny_holding (wpAny_bind ((bind_fn X₁ _ hf).here ?_))
  dsimp only
  refine wpAny_bind (wpAny_call (codeAny_mono hq fun r s' z => ?_))
  rcases r with e | (v | _ | _ | _) <;> first | exact z | exact z.elim | skip
  obtain ⟨rfl, z⟩ := z
  exact wpAny_pure (wpAny_pure z)
theorem exc_call {mN : Str → Option Value} {rest : List Value} {fI : Addr} {K : Frag} {R : Result → Shared → Prop} (X : K.In h) (hf : typeIn K (.ref fI) = some (.type "function"))
    (hC : h.get? C = some (excClassObj nm q C N bs excMro hdct sn sub ab col dd k0 k1 k2 k3 k5 "Exception.__new__")) (hn : h.Ns N mN) (hni : mN "__init__" = some (.ref fI))
    (hq : codeAny (model prog w) (A.under (.builtin "type.__call__" ⟨.ref C :: rest, []⟩)) (.call (.ref fI) ⟨.ref (h.objs.size + 1) :: rest, []⟩) (InitBack (h.objs.size + 1) R) ⟨(h.push (tupObj rest)).push (excObj C h.objs.size none), g, d, t, os⟩) (hrest : rest.length ≤ sizeLine := by size_fits) :
    codeAny (model prog w) A (.call (.ref C) ⟨rest, []⟩) R ⟨h, g, d, t, os⟩ := by
  have f1 := tc_lookup
  have f2 := tc_bind (.ref C)
  have hT : (⟨h, g, d, t, os⟩ : Shared).TypeIs (.ref C) "type" := ⟨_, hC, rfl⟩
  refine codeAny_of_tree ?_
  show wpAny _ _ (callAny (.ref C) _) _ _ _
  repeat (any_goals (first | assumption | with_reducible refine wpAny_loadPart_at hC ?_ | wp_step))
  refine ⟨rfl, ?_⟩
  refine codeAny_call_builtin_at (Code.quiet_builtin _ (by decide +kernel)) entry_typeCall (wpAny_check_type_call_sub hC (exc_type_call (hrest := hrest) X hf hC hn hni ?_))
  refine codeAny_mono hq fun r s' z => ?_
  rcases r with e | (v | _ | _ | _) <;> exact z
end
end Mine
end
section
namespace Mine
theorem subr {a b c d e x : Addr × Obj} {r : List (Addr × Obj)} : ∀ p ∈ x :: b :: c :: d :: e :: a :: r, p ∈ a :: x :: b :: c :: d :: e :: r := by
  intro p hp
  simp only [List.mem_cons] at hp ⊢
  rcases hp with h | h | h | h | h | h | h <;> simp only [h, true_or, or_true]
theorem posApp {kvs : List (Int × Value)} {n : Int} {v : Value} (h : ∀ q ∈ kvs, 0 ≤ q.1) (h0 : 0 ≤ n) : ∀ q ∈ kvs ++ [(n, v)], 0 ≤ q.1 := fun q hq => by
  rcases List.mem_append.mp hq with hq | hq
  · exact h q hq
  · rw [List.mem_singleton.mp hq]; exact h0
theorem get_empty {prog : Program} {w : World} {A : Around} {E : Value → Shared → Prop} {s : Shared} {h₀ : Heap} {L d : Addr} {news : List (Addr × Obj)} {o : Obj} {key : Str} {tk : Tok} {Q : Value → Shared → Prop} (N : News h₀ L s.heap news) (hp : (d, o) ∈ news) (hd : o.IsDictOf (PySem.strKind prog w) []) (lo : (d == sysModules) = false)
    (h : Q .none { s with toks := s.toks + 1 }) : wpAny (model prog w) A (call (.builtin "dict.get") [.ref d, .str key tk]) Q E s := kdg_get1 N hp hd lo (strKind_is _ _ _ _) none rfl h
section
variable {w : World} {p : Program} {loose : List Str} {mean : ExcName → Option Value} {mg mb : Str → Option Value} {dp un : Nat} {gd : Option (List Code)} {cn : Str} {cs : Scope} {a : Addr} {ccd : Value} {cl : List (Str × Addr)} {outer : List Env} {A₀ : Around} {base h₀ : Heap} {L : Addr} {m : Str → Option Value}
  {s : Shared} {Q E : Value → Shared → Prop}
theorem iss0_spec {news : List (Addr × Obj)} {x dx lx dlx d le ol dpar f2 c2 : Addr} {es : List DictEntry} {n n1 n2 : Nat} {o opar o2 : Obj} {fd2 : FuncData} {kvs : List (Int × Value)} {evs ows : List Value} {lim ns : Int} {b : Bool} {t1 t2 t3 t4 t5 t6 t7 t8 t9 tr : Tok}
  (B : Below A₀ base outer h₀) (F : Fr h₀ L s.heap m) (X : (hd.heap_39 w.params).In h₀) (N : News h₀ L s.heap news) (T : Top p loose mean mg mb h₀) (hk : cs.kind = .function) (codeHd : CodeHd base 487 483)
  (hd : dp + 80 < recursionLimit) (hu : un + 600 < cLine)
  (x1 : (x, instObj 470 dx) ∈ news) (x2 : (dx, dictOf es n) ∈ news) (x3 : (dpar, opar) ∈ news) (x4 : (f2, fnObj fd2) ∈ news) (x5 : (c2, o2) ∈ news)
  (g2 : getL (Str.ofString "role") es = some (some (.str (if b then Str.ofString "client" else Str.ofString "server") tr))) (g5 : getL (Str.ofString "local") es = some (some (.ref lx))) (g6 : getL (Str.ofString "params") es = some (some (.ref dpar))) (g7 : getL (Str.ofString "owed") es = some (some (.ref ol))) (g8 : getL (Str.ofString "choose") es = some (some (.ref f2)))
  (hpar : opar.IsDictOf (PySem.strKind PySem.Challenge.rw_rg0255_01.row.prog w) []) (hlp : (dpar == sysModules) = false) (ch : ChooseAt w f2 fd2 [(c2, o2)])
  (hd0 : o.IsDictOf (PySem.intKind PySem.Challenge.rw_rg0255_01.row.prog w) kvs) (hlo : (d == sysModules) = false) (hz : kvs.length ≤ 1000) (hpos : ∀ q ∈ kvs, 0 ≤ q.1)
  (m1 : (lx, instObj 295 dlx) ∈ news) (m2 : (dlx, dictOf (lids w.params t1 t2 t3 t4 t5 t6 (.int lim t7) d le (.int ns t8) (.int 0 t9) false) 6) ∈ news) (m3 : (d, o) ∈ news) (hfull : lim ≤ (kvs.length : Int))
  (ret : ∀ h' tk', Fr h₀ L h' m → News h₀ L h' news → Q .none { s with heap := h', toks := tk' }) :
  wpAny (model PySem.Challenge.rw_rg0255_01.row.prog w) (ktrTop dp un gd cn cs L a ccd cl outer) (call (.ref 306) [.ref x]) Q E s := by
  k_with_none
  k_with "call ref" => (k_here; (with_reducible show wpAny _ _ (call (Value.ref 264) _) _ _ _); k_dflt (refine' may_spec ?B ?F ?X ?N ?T ?hk ?hd ?hu ?i1 ?i2 ?i3 ?hd0 ?hlo ?hz ?hpos ?_; (case B => k_asm); (case F => k_asm); (case X => k_asm); (case N => k_asm); (case T => k_asm); (case hk => exact rfl); (case hd => ktr_room); (case hu => ktr_units); (case i1 => k_mem); (case i2 => k_mem); (case i3 => k_mem); (case hd0 => k_asm); (case hlo => k_asm); (case hz => first | assumption | ((simp only [List.length_append, List.length_cons, List.length_nil]); omega)); (case hpos => first | assumption | exact posApp (by assumption) (by omega))); (intro h_k9' tk_k9' F_k9' N_k9'; (try k_sweep)))
  k_with "call ref" => (k_here; (with_reducible show wpAny _ _ (call (Value.ref 257) _) _ _ _); k_dflt (refine' kept_spec ?B ?F ?X ?N ?T ?hk ?hd ?hu ?i1 ?i2 ?i3 ?hd0 ?hlo ?hz ?hpos ?_; (case B => k_asm); (case F => k_asm); (case X => k_asm); (case N => k_asm); (case T => k_asm); (case hk => exact rfl); (case hd => ktr_room); (case hu => ktr_units); (case i1 => k_mem); (case i2 => k_mem); (case i3 => k_mem); (case hd0 => k_asm); (case hlo => k_asm); (case hz => first | assumption | ((simp only [List.length_append, List.length_cons, List.length_nil]); omega)); (case hpos => first | assumption | exact posApp (by assumption) (by omega))); (intro h_k9' tk_k9' t_k9' F_k9' N_k9'; (try k_sweep)))
  k_with "call ref" => (k_here; (with_reducible show wpAny _ _ (call (Value.ref 271) _) _ _ _); k_dflt (refine' issue_use ?B ?F ?X ?N ?T ?hk ?hd ?hu ?p1 ?p2 ?p3 ?p4 ?ne1 ?ne2 ?ne3 ?ne4 ?ne5 ?ne6 ?r2 ?r3 ?r4 ?hd0 ?hlo ?hz ?hpos ?hnew ?hroom ?hno ?hev ?_; (case B => k_asm); (case F => k_asm); (case X => k_asm); (case N => k_asm); (case T => k_asm); (case hk => exact rfl); (case hd => ktr_room); (case hu => ktr_units); (case p1 => tb_start); (case p2 => tb_start); (case p3 => tb_start); (case p4 => tb_start); (case ne1 => k_ne); (case ne2 => k_ne); (case ne3 => k_ne); (case ne4 => k_ne); (case ne5 => k_ne); (case ne6 => k_ne); (case r2 => k_all); (case r3 => k_all); (case r4 => k_all); (case hd0 => k_asm); (case hlo => k_asm); (case hz => assumption); (case hpos => assumption); (case hnew => assumption); (case hroom => omega); (case hno => assumption); (case hev => assumption)); (intro x_k9' h_k9' tk_k9' ta_k9' tb_k9' tc_k9' o_k9' F_k9' hd_k9' N_k9' l1_k9; (try dsimp only at N_k9'); (try k_lt l1_k9); (try k_sweep)))
  k_with "call ref" => (k_here; (with_reducible show wpAny _ _ (call (Value.ref _) [Value.str (Str.ofString "cid") _, Value.int _ _, Value.int 8 _]) _ _ _); k_dflt (refine' choose_at_cid ?B ?F ?X ?N ?T ?hk ?hd ?hu ?codeHd ?ch ?i1 ?i2 ?n0 ?n1 ?_; (case B => k_asm); (case F => k_asm); (case X => k_asm); (case N => k_asm); (case T => k_asm); (case hk => exact rfl); (case hd => ktr_room); (case hu => ktr_units); (case codeHd => assumption); (case ch => assumption); (case i1 => k_mem); (case i2 => k_mem); (case n0 => first | decide | omega); (case n1 => first | decide | omega)); intro h_k9' tk_k9' t_k9' F_k9' N_k9'; (try k_sweep))
  k_with "call ref" => (k_here; (with_reducible show wpAny _ _ (call (Value.ref _) [Value.str (Str.ofString "token") _, Value.int _ _, Value.int 16 _]) _ _ _); k_dflt (refine' choose_at_tok ?B ?F ?X ?N ?T ?hk ?hd ?hu ?codeHd ?ch ?i1 ?i2 ?n0 ?n1 ?_; (case B => k_asm); (case F => k_asm); (case X => k_asm); (case N => k_asm); (case T => k_asm); (case hk => exact rfl); (case hd => ktr_room); (case hu => ktr_units); (case codeHd => assumption); (case ch => assumption); (case i1 => k_mem); (case i2 => k_mem); (case n0 => first | decide | omega); (case n1 => first | decide | omega)); intro h_k9' tk_k9' t_k9' F_k9' N_k9'; (try k_sweep))
  k_with "getMethod ref" => (k_here; (with_reducible show wpAny _ _ (getMethod (Value.ref _) (Str.ofString "choose") _) _ _ _); k_dflt (refine' kmu_own ?k1 ?k2 ?k3 ?k4 ?k5 ?_; (case k1 => k_asm); (case k2 => k_asm); (case k3 => k_inst); (case k4 => k_is); (case k5 => k_is); k_whole))
  k_with "getMethod ref" => (k_here; (with_reducible show wpAny _ _ (getMethod (Value.ref _) (Str.ofString "get") _) _ _ _); k_dflt (refine kdg_method (knd := PySem.strKind _ _) (by k_asm) (by k_mem) (by k_asm) ?_))
  k_with "call builtin:dict.get" => (k_here; k_dflt (refine' get_empty ?N ?hp ?hd ?lo ?_; (case N => k_asm); (case hp => k_mem); (case hd => assumption); (case lo => assumption)))
  k_with "WhlIf" => (first | (refine WhlIf.yes (decide_eq_true (by omega)) ?_) | (refine WhlIf.no (decide_eq_false (by omega)) ?_) | (refine WhlIf.no (decide_eq_false (by simp only [List.length_append, List.length_cons, List.length_nil]; omega)) ?_))
  k_with "ite" => (first | (refine ite_pos (decide_eq_true (by omega)) ?_) | (refine ite_neg (by rw [decide_eq_false (by omega)]; exact Bool.false_ne_true) ?_) | (refine ite_neg (by rw [decide_eq_false (by simp only [List.length_append, List.length_cons, List.length_nil]; omega)]; exact Bool.false_ne_true) ?_))
  revert X ret; k_fill; intro X ret
  obtain ⟨k9, n9, g9, c9, e9⟩ := cs
  dsimp only at hk
  subst hk
  cases b
  all_goals (refine wpAny_call ?_; k_dflt k_enter; k_steps)
  all_goals exact ret _ _ (by assumption) (by assumption)
theorem iss1_spec {R : List (Addr × Obj)} {x dx lx dlx d le ol dpar f2 c2 : Addr} {es : List DictEntry} {n n1 n2 : Nat} {o opar o2 : Obj} {fd2 : FuncData} {kvs : List (Int × Value)} {evs ows : List Value} {lim ns : Int} {b : Bool} {t1 t2 t3 t4 t5 t6 t7 t8 t9 tr : Tok}
  (B : Below A₀ base outer h₀) (F : Fr h₀ L s.heap m) (X : (hd.heap_39 w.params).In h₀) (N : News h₀ L s.heap ((lx, instObj 295 dlx) :: (dlx, dictOf (lids w.params t1 t2 t3 t4 t5 t6 (.int lim t7) d le (.int ns t8) (.int 0 t9) false) 6) :: (d, o) :: (le, listOf evs.toArray n1) :: (ol, listOf ows.toArray n2) :: R)) (T : Top p loose mean mg mb h₀) (hk : cs.kind = .function) (codeHd : CodeHd base 487 483)
  (hd : dp + 80 < recursionLimit) (hu : un + 600 < cLine)
  (x1 : (x, instObj 470 dx) ∈ R) (x2 : (dx, dictOf es n) ∈ R) (x3 : (dpar, opar) ∈ R) (x4 : (f2, fnObj fd2) ∈ R) (x5 : (c2, o2) ∈ R)
  (g2 : getL (Str.ofString "role") es = some (some (.str (if b then Str.ofString "client" else Str.ofString "server") tr))) (g5 : getL (Str.ofString "local") es = some (some (.ref lx))) (g6 : getL (Str.ofString "params") es = some (some (.ref dpar))) (g7 : getL (Str.ofString "owed") es = some (some (.ref ol))) (g8 : getL (Str.ofString "choose") es = some (some (.ref f2)))
  (hpar : opar.IsDictOf (PySem.strKind PySem.Challenge.rw_rg0255_01.row.prog w) []) (hlp : (dpar == sysModules) = false) (ch : ChooseAt w f2 fd2 [(c2, o2)])
  (hd0 : o.IsDictOf (PySem.intKind PySem.Challenge.rw_rg0255_01.row.prog w) kvs) (hlo : (d == sysModules) = false) (hz : kvs.length ≤ 1000) (hpos : ∀ q ∈ kvs, 0 ≤ q.1)
  (ne1 : @Ne Nat lx dlx) (ne2 : @Ne Nat lx d) (ne3 : @Ne Nat lx le) (ne4 : @Ne Nat dlx d) (ne5 : @Ne Nat dlx le) (ne6 : @Ne Nat d le) (ne7 : @Ne Nat ol lx) (ne8 : @Ne Nat ol dlx) (ne9 : @Ne Nat ol d) (ne10 : @Ne Nat ol le) (r1 : ∀ p ∈ R, p.1 ≠ lx) (r2 : ∀ p ∈ R, p.1 ≠ dlx) (r3 : ∀ p ∈ R, p.1 ≠ d) (r4 : ∀ p ∈ R, p.1 ≠ le) (r5 : ∀ p ∈ R, p.1 ≠ ol)
  (hroom : (kvs.length : Int) + 1 = lim) (hlim : lim ≤ 8) (hns : 0 ≤ ns ∧ ns ≤ 8) (hnew : kvs.any (fun kv => decide (kv.1 = ns)) = false) (hno : NoBytes evs (repB 8 (ns + 100))) (hev : evs.length ≤ 1000) (how : ows.length ≤ 100)
  (ret : ∀ x9 h' tk' ta tb tc tt n1' o' n2', Fr h₀ L h' m → o'.IsDictOf (PySem.intKind PySem.Challenge.rw_rg0255_01.row.prog w) (kvs ++ [(ns, Value.bytes (repB 8 (ns + 100)) tc)]) →
    News h₀ L h' ((x9, tupObj [.str (Str.ofString "new_connection_id") ta, .int ns t8, .int 0 t9, .bytes (repB 8 (ns + 100)) tc, .bytes (repB 16 (ns + 200)) tt]) :: (lx, instObj 295 dlx) :: (dlx, dictOf (lids w.params t1 t2 t3 t4 t5 t6 (.int lim t7) d le (.int (ns + 1) tb) (.int 0 t9) false) 6) :: (d, o') :: (le, listOf (evs ++ [Value.bytes (repB 8 (ns + 100)) tc]).toArray n1') :: (ol, listOf (ows ++ [Value.ref x9]).toArray n2') :: R) →
    (∀ q ∈ R, q.1 < x9) → @LT.lt Nat _ lx x9 → @LT.lt Nat _ dlx x9 → @LT.lt Nat _ d x9 → @LT.lt Nat _ le x9 → @LT.lt Nat _ ol x9 → Q .none { s with heap := h', toks := tk' }) :
  wpAny (model PySem.Challenge.rw_rg0255_01.row.prog w) (ktrTop dp un gd cn cs L a ccd cl outer) (call (.ref 306) [.ref x]) Q E s := by
  revert X ret; k_fill; intro X ret
  obtain ⟨k9, n9, g9, c9, e9⟩ := cs
  dsimp only at hk
  subst hk
  cases b
  all_goals (refine wpAny_call ?_; k_dflt k_enter; k_steps)
  all_goals (have N9 := (by assumption : News h₀ L _ _); rw [List.push_toArray] at N9; refine' ret _ _ _ _ _ _ _ _ _ _ ?_ ?_ N9 ?_ ?_ ?_ ?_ ?_ ?_)
  all_goals (first | assumption | omega | skip)
end
end Mine
end
section
open PySem.Spec
namespace Mine
/-- the dict of an object -/
def DictIs (h : Heap) (e : Addr) (d : Option Addr) : Prop := ∃ o, h.get? e = some o ∧ o.dict = d
/-- a tree without calls whose stores keep each object's dict -/
inductive Tame : {α : Type} → Sem α → Prop
  | pure {α : Type} (a : α) : Tame (.pure a)
  | raise {α : Type} (e : Value) : Tame (.raise e : Sem α)
  | unsup {α : Type} (t : String) : Tame (.unsupported t : Sem α)
  | rule {α : Type} {t : String} {k : Unit → Sem α} (h : ∀ x, Tame (k x)) : Tame (.rule t k)
  | at {α : Type} {p : Pos} {k : Unit → Sem α} (h : ∀ x, Tame (k x)) : Tame (.at p k)
  | load {α : Type} {a : Addr} {p : Option Value} {k : Obj → Sem α} (h : ∀ x, Tame (k x)) : Tame (.load a p k)
  | update {α : Type} {a : Addr} {p : Option Value} {f : Obj → Obj} {k : Unit → Sem α} (hf : ∀ o, (f o).dict = o.dict ∧ (f o).isFreed = o.isFreed) (h : ∀ x, Tame (k x)) : Tame (.update a p f k)
  | alloc {α : Type} {o : Obj} {k : Addr → Sem α} (h : ∀ x, Tame (k x)) : Tame (.alloc o k)
  | stack {α : Type} {k : List (Code × Pos) → Sem α} (h : ∀ x, Tame (k x)) : Tame (.stack k)
  | ask {α : Type} {k : Setting → Sem α} (h : ∀ x, Tame (k x)) : Tame (.ask k)
  | handled {α : Type} {o : Bool} {k : Option Value → Sem α} (h : ∀ x, Tame (k x)) : Tame (.handled o k)
  | fresh {α : Type} {k : Tok → Sem α} (h : ∀ x, Tame (k x)) : Tame (.fresh k)
theorem DictIs.update {h : Heap} {e a : Addr} {d : Option Addr} {f : Obj → Obj} (hf : ∀ o, (f o).dict = o.dict ∧ (f o).isFreed = o.isFreed) (x : DictIs h e d) : DictIs (h.update a f) e d := by
  obtain ⟨o, ho, hd⟩ := x
  by_cases q : a = e
  · subst q
    exact ⟨f o, Heap.get?_update_self f ho ((hf o).2.trans (Heap.get?_some_iff.mp ho).2), (hf o).1.trans hd⟩
  · exact ⟨o, (Heap.get?_update_other _ _ q).trans ho, hd⟩
theorem Tame.wp {α : Type} {t : Sem α} (T : Tame t) : ∀ {M : Model} {Γ : PySem.Ctx} {Q : α → Pos → Shared → Prop} {E : Value → Pos → Shared → Prop} {p : Pos} {s : Shared} {e : Addr} {d : Option Addr}, DictIs s.heap e d → Sem.wp M Γ t Q E p s →
    Sem.wp M Γ t (fun a p s' => Q a p s' ∧ DictIs s'.heap e d) (fun v p s' => E v p s' ∧ DictIs s'.heap e d) p s := by
  induction T with
  | pure a => intro M Γ Q E p s e d hD h; rw [Sem.wp] at h ⊢; exact ⟨h, hD⟩
  | raise e => intro M Γ Q E p s e d hD h; rw [Sem.wp] at h ⊢; exact ⟨h, hD⟩
  | unsup t => intro M Γ Q E p s e d hD h; rw [Sem.wp] at h; exact h.elim
  | rule _ ih => intro M Γ Q E p s e d hD h; rw [Sem.wp] at h ⊢; exact ih _ hD h
  | «at» _ ih => intro M Γ Q E p s e d hD h; rw [Sem.wp] at h ⊢; exact ih _ hD h
  | load _ ih => intro M Γ Q E p s e d hD h; rw [Sem.wp] at h ⊢; obtain ⟨o, ho, h⟩ := h; exact ⟨o, ho, ih _ hD h⟩
  | update hf _ ih => intro M Γ Q E p s e d hD h; rw [Sem.wp] at h ⊢; exact ⟨h.1, ih _ (s := { s with heap := s.heap.update _ _ }) (hD.update hf) h.2⟩
  | alloc _ ih =>
    intro M Γ Q E p s e d hD h
    rw [Sem.wp] at h ⊢
    obtain ⟨o, ho, hd⟩ := hD
    exact ih _ (s := { s with heap := s.heap.push _ }) ⟨o, Heap.get?_push_of_some _ ho, hd⟩ h
  | stack _ ih => intro M Γ Q E p s e d hD h; rw [Sem.wp] at h ⊢; exact ih _ hD h
  | ask _ ih => intro M Γ Q E p s e d hD h; rw [Sem.wp] at h ⊢; exact ih _ hD h
  | handled _ ih => intro M Γ Q E p s e d hD h; rw [Sem.wp] at h ⊢; exact ih _ hD h
  | fresh _ ih => intro M Γ Q E p s e d hD h; rw [Sem.wp] at h ⊢; exact ih _ (s := { s with toks := s.toks + 1 }) hD h
theorem tame_any {α : Type} {t : Sem α} (T : Tame t) {M : Model} {A : Around} {Q : α → Shared → Prop} {E : Value → Shared → Prop} {s : Shared} {e : Addr} {d : Option Addr} (hD : DictIs s.heap e d)
    (h : wpAny M A t (fun a s' => DictIs s'.heap e d → Q a s') (fun v s' => DictIs s'.heap e d → E v s') s) : wpAny M A t Q E s := fun Γ p hΓ =>
  Sem.wp_mono M Γ t (fun a _ s' z => z.1 z.2) (fun v _ s' z => z.1 z.2) p s (T.wp hD (h Γ p hΓ))
theorem Tame.bind {α β : Type} {t : Sem α} (T : Tame t) {f : α → Sem β} (hf : ∀ a, Tame (f a)) : Tame (t >>= f) := by
  show Tame (t.bind f)
  induction T with
  | pure a => exact hf a
  | raise e => exact .raise e
  | unsup t => exact .unsup t
  | rule _ ih => exact .rule fun x => ih x
  | «at» _ ih => exact .at fun x => ih x
  | load _ ih => exact .load fun x => ih x
  | update hg _ ih => exact .update hg fun x => ih x
  | alloc _ ih => exact .alloc fun x => ih x
  | stack _ ih => exact .stack fun x => ih x
  | ask _ ih => exact .ask fun x => ih x
  | handled _ ih => exact .handled fun x => ih x
  | fresh _ ih => exact .fresh fun x => ih x
theorem Tame.ite {α : Type} {c : Prop} [Decidable c] {a b : Sem α} (ha : Tame a) (hb : Tame b) : Tame (if c then a else b) := by
  by_cases h : c
  · rw [if_pos h]; exact ha
  · rw [if_neg h]; exact hb
theorem Tame.ret {α : Type} (a : α) : Tame (Pure.pure a : Sem α) := .pure a
theorem tame_load (a : Addr) : Tame (PySem.load a) := .load fun x => .pure x
theorem tame_stack : Tame PySem.stack := .stack fun x => .pure x
theorem tame_uns {α : Type} (t : String) : Tame (PySem.unsupported t : Sem α) := .unsup t
theorem tame_fieldsOf (v : Value) : Tame (fieldsOf v) := by
  unfold fieldsOf
  cases v with
  | ref a =>
    refine Tame.bind (tame_load a) fun o => ?_
    cases o.data <;> first | exact .ret _ | exact tame_uns _
  | _ => exact tame_uns _
theorem tame_field (v : Value) (i : Nat) : Tame (field v i) := by
  unfold field
  refine Tame.bind (tame_fieldsOf v) fun vs => ?_
  cases vs[i]? with
  | none => exact tame_uns _
  | some x => exact .ret _
theorem freed_map (f : Array Value → Array Value) (o : Obj) : (Obj.mapFields f o).dict = o.dict ∧ (Obj.mapFields f o).isFreed = o.isFreed := by
  obtain ⟨c, d, dt, sl⟩ := o
  cases dt <;> exact ⟨rfl, rfl⟩
theorem tame_setField (v : Value) (i : Nat) (x : Value) : Tame (setField v i x) := by
  unfold setField
  cases v with
  | ref a =>
    show Tame (updateField a i x)
    unfold updateField
    refine Tame.bind (tame_load a) fun o => ?_
    cases o.data with
    | fields vs => exact Tame.ite (.update (freed_map _) fun u => .pure u) (tame_uns _)
    | _ => exact tame_uns _
  | _ => exact tame_uns _
theorem tame_setFlight (e : Value) (f : Option Addr) : Tame (setFlight e f) := by
  unfold setFlight
  refine Tame.bind (tame_field e 1) fun tb => ?_
  exact Tame.ite (tame_setField _ _ _) (.ret _)
theorem tame_behind (env : Env) (outer : List Env) : Tame (behindIsImport env outer) := by
  unfold behindIsImport
  refine Tame.ite (.ret _) ?_
  show Tame (if _ then _ else _)
  refine Tame.ite (.ret _) ?_
  exact Tame.bind (tame_field _ _) fun v => .ret _
theorem tame_under : Tame underTheClaimsCaller := by
  unfold underTheClaimsCaller
  repeat (first | exact .ret _ | exact tame_uns _ | exact tame_stack | (refine Tame.bind ?_ fun _ => ?_) | refine Tame.ite ?_ ?_)
theorem tame_kept (env : Env) (i : Bool) (outer : List Env) : Tame (keptBack env i outer) := by
  cases outer with
  | nil =>
    unfold keptBack
    refine Tame.ite (.ret _) ?_
    exact Tame.bind tame_under fun b => .ret _
  | cons c r => unfold keptBack; exact .ret _
theorem tame_ready : ∀ l : List Env, Tame (readyFrames l)
  | [] => by unfold readyFrames; exact .ret _
  | env :: outer => by
    unfold readyFrames
    cases env.frame with
    | none => exact tame_uns _
    | some f =>
      refine Tame.bind (tame_load f) fun o => ?_
      refine Tame.ite (.ret _) ?_
      show Tame (_ >>= _)
      refine Tame.bind (tame_behind _ _) fun i => ?_
      refine Tame.bind (tame_kept _ _ _) fun b => ?_
      refine Tame.bind (t := PySem.update f _) (.update (fun o => by obtain ⟨c, d, dt, sl⟩ := o; cases dt <;> exact ⟨rfl, rfl⟩) fun u => .pure u) fun _ => ?_
      exact tame_ready outer
theorem tame_frameObject (l : List Env) : Tame (frameObject l) := by
  cases l with
  | nil => unfold frameObject; exact .ret _
  | cons e r => unfold frameObject; exact Tame.bind (tame_ready _) fun _ => .ret _
theorem tame_frameOf (env : Env) : Tame (PySem.frameOf env) := by
  unfold PySem.frameOf frameEnvs
  refine Tame.bind (Tame.bind tame_stack fun _ => .ret _) fun l => ?_
  refine Tame.bind (tame_frameObject _) fun f => ?_
  cases f with
  | none => exact tame_uns _
  | some v => exact .ret _
theorem tame_place (f : Addr) (b : Bool) : Tame (entryPlaceOf f b) := by
  unfold entryPlaceOf
  refine Tame.bind tame_stack fun acts => ?_
  cases acts.find? _ with
  | none => exact .ret _
  | some p => obtain ⟨c, pos⟩ := p; exact .ret _
theorem tame_entry (a b c d e : Value) (pl : List Value) : Tame (EntryCells.newEntry a b c d e pl) := by
  unfold EntryCells.newEntry newFields newObj newObjAsIs
  dsimp only
  repeat (first | exact .ret _ | exact .alloc fun x => .pure x | exact tame_uns _ | refine Tame.ite ?_ ?_ | (refine Tame.bind ?_ fun _ => ?_) | split)
theorem tame_note (e : Value) (env : Env) : Tame (noteFrame e env) := by
  unfold noteFrame
  cases env.frame with
  | none => exact tame_uns _
  | some f =>
    have tail : ∀ head, Tame (do setField e 1 (← EntryCells.newEntry head (← PySem.frameOf env) .none (rawInt f) .none (← entryPlaceOf f (head != .none)))) := fun head =>
      Tame.bind (tame_frameOf env) fun _ => Tame.bind (tame_place _ _) fun _ => Tame.bind (tame_entry _ _ _ _ _ _) fun _ => tame_setField _ _ _
    refine Tame.bind (tame_field e 1) fun head => ?_
    refine Tame.ite ?_ (tail head)
    refine Tame.bind (tame_field head 3) fun v => ?_
    refine Tame.ite (.ret _) ?_
    exact Tame.bind (tame_setField _ _ _) fun _ => tail head
theorem tame_leaving (env : Env) (e : Value) : Tame (leaving env e) := by
  unfold leaving
  exact Tame.bind (tame_note e env) fun _ => tame_setFlight e none
end Mine
end
section
open Builtin Builtin.ObjectAttr PySem.Spec
namespace Mine
theorem exc_refuse (self : Value) : refuseLoop self "__setattr__" excMro = pure () := by kernel_rfl
section
variable {prog : Program} {w : World} {A : Around} {s : Shared} {K : Frag} {x C L : Addr} {h₀ : Heap} {m : Str → Option Value} {news : List (Addr × Obj)} {name : Str} {v : Value} {R : Result → Shared → Prop} {E : Value → Shared → Prop} {cd : ClassData}
theorem osa_openE {ox : Obj} {od : Option Obj} {tk : Tok} (X : K.In s.heap) (I : InstAt s.heap x ox C od) (hc : clsIn K C = some cd) (hmro : cd.mro = .ref C :: excMro) (ht : findIn K (.ref C) name = some none)
    (h : ∀ b, wpAny (model prog w) A.in1 (storeInOwnDict (.ref x) (.ref C) (.str name tk) name v b) (fun fin s' => match fin with | .done f => R (.ok f) s' | .again c' => c'.quiet = true ∧ codeAny (model prog w) A c' R s') (fun e s' => R (.error e) s') s) :
    codeAny (model prog w) A (.call (.builtin "object.__setattr__") ⟨[.ref x, .str name tk, v], []⟩) R s := by
  have SF := PySem.F.store_object
  have sub : Looks (model prog w) s.heap (isInstance (.ref x) (.type "object")) true := I.type.andThen (looks_mroIn X (by unfold mroIn; rw [hc, Option.bind_some, hmro, if_neg (by simp)]; simp))
  refine codeAny_call_builtin SF.slot.plain SF.entry (@check_slot (model prog w) _ _ s "object.__setattr__" "object" "__setattr__" (.ref x) [.str name tk, v] [] _ SF.kind SF.split sub (SF.args (.ref x) (.str name tk) v) ?_)
  have hm : Looks (model prog w) s.heap (mroOf (.ref C)) cd.mro := (looks_clsIn X hc).andThen .now
  rw [osa_eq, refuse_eq]
  refine wpAny_bind (wpAny_bind (I.type.here (wpAny_bind (hm.here ?_))))
  rw [hmro, refuseLoop_ref, exc_refuse]
  refine wpAny_pure (wpAny_bind (I.type.here (wpAny_bind ((looks_findIn X ht).here (wpAny_bind (Looks.here (Looks.now (a := none)) ?_))))))
  exact h _
theorem store_in {dx : Addr} {es : List DictEntry} {n : Nat} {tk : Tok} {g : Obj → List (Addr × Obj)} {Q : PySem.Fin → Shared → Prop} (F : Fr h₀ L s.heap m) (N : News h₀ L s.heap news) (U : UpdF dx (dictOf es n) news g) (hl : (getL name es).isSome = true) (hz : es.length ≤ 900)
    (h : ∀ h' es' n', Fr h₀ L h' m → News h₀ L h' (g (dictOf es' n')) → getL name es' = some (some v) → (∀ nm, nm ≠ name → getL nm es' = getL nm es) → es'.length ≤ es.length + 1 → Q (.done (.ret .none)) { s with heap := h', toks := s.toks + 1 }) :
    wpAny (model prog w) A (storeInDict dx (.str name tk) name v) Q E s := by
  obtain ⟨pre, post, rfl, hg, h1, h2⟩ := U.split
  obtain ⟨U1, U2⟩ := news_upd (f := Obj.putName name (PyData.keyHash w.params name) (.str name s.toks) v) F N h1 h2 (putName_dict _ _ _ _ _ _) rfl
  have D := (N (dx, dictOf es n) (by simp)).1
  have D' := (U2 (dx, _) (by simp; exact .inr (.inl rfl))).1
  unfold storeInDict newKeyGuard
  refine wpAny_bind (wpAny_pure (wpAny_bind ?_))
  unfold nsSet
  refine wpAny_bind (wpAny_bind (wpAny_askSetting (wpAny_pure (wpAny_bind (wpAny_mkText (wpAny_bind (wpAny_loadPart D ?_)))))))
  dsimp only
  have c : (!es.toArray.any (·.key.isStr name) && es.toArray.any (·.refKey)) = false := by
    unfold getL at hl
    rw [List.any_toArray, List.any_toArray]
    split at hl
    · rename_i en he
      rw [List.any_eq_true.mpr ⟨en, List.mem_of_find?_eq_some he, List.find?_some he⟩]; rfl
    · split at hl
      · cases hl
      · rename_i z; rw [Bool.not_eq_true] at z; rw [z, Bool.and_false]
  rw [aRefKeyMayBeTheName_at, c]
  have hlen : (putL name (PyData.keyHash w.params name) (.str name s.toks) v es).length ≤ es.length + 1 := putL_len
  refine wpAny_updatePart D ?_
  refine wpAny_bind (wpAny_lookBehind D' (pastItsLine_dict (by rw [List.size_toArray, sizeLine_eq]; omega)) ?_)
  refine wpAny_pure (h _ _ _ U1 (by rw [hg]; exact U2) getL_put_self (fun nm hne => getL_put_ne hne) hlen)
/-- a store into an exception that has its dict -/
theorem set_exc {ox : Obj} {dx : Addr} {es : List DictEntry} {n k : Nat} {u : Option Value} {g : Obj → List (Addr × Obj)} {Q : Unit → Shared → Prop} (F : Fr h₀ L s.heap m) (X₀ : K.In h₀) (N : News h₀ L s.heap news) (hx : (x, ox) ∈ news) (hcl : ox.cls = .ref C) (hno : notCls ox = true) (hd : ox.dict = some dx)
    (hc : clsIn K C = some cd) (hmro : cd.mro = .ref C :: excMro) (hdd : cd.hasDict = true) (ht : findIn K (.ref C) name = some none) (hs : findIn K (.ref C) "__setattr__" = some (some (.builtin "object.__setattr__")))
    (U : UpdF dx (dictOf es n) news g) (hl : getL name es = some u) (hz : es.length ≤ k) (hk : k ≤ 900)
    (h : ∀ h' es' n', Fr h₀ L h' m → News h₀ L h' (g (dictOf es' n')) → getL name es' = some (some v) → (∀ nm, nm ≠ name → getL nm es' = getL nm es) → es'.length ≤ k + 1 → Q () { s with heap := h', toks := s.toks + 2 }) :
    wpAny (model prog w) A (setAttr (.ref x) name v) Q E s := by
  have X := X₀.keeps F.keep
  have D : s.heap.get? dx = some (dictOf es n) := by
    obtain ⟨pre, post, e, hg, h1, h2⟩ := U.split
    rw [e] at N
    exact (N (dx, dictOf es n) (by simp)).1
  have hx' := (N _ hx).1
  have I : InstAt s.heap x ox C (some (dictOf es n)) := ⟨hx', hcl, hno, by rw [hd]; exact D⟩
  refine set_plain X I hs ?_
  have I' : InstAt ({ s with toks := s.toks + 1 } : Shared).heap x ox C (some (dictOf es n)) := I
  refine osa_openE X I' hc hmro ht fun b => ?_
  obtain ⟨oc, odi, oda, osl⟩ := ox
  dsimp only at hcl hd hx'
  subst hcl hd
  refine wpAny_bind (wpAny_pure (wpAny_bind (wpAny_bind (wpAny_loadPart hx' (wpAny_bind (looks_clsIn X hc _ _ _ _ (fun _ _ e => e) ?_))))))
  rw [hdd]
  refine wpAny_pure (a := some dx) ?_
  exact store_in (s := { s with toks := s.toks + 1 }) F N U (by rw [hl]; rfl) (by omega) fun h' es' n' F' N' g1 g2 z => h h' es' n' F' N' g1 g2 (by omega)
/-- the first store into an exception: its dict is made -/
theorem set_exc0 {ox : Obj} {g : Obj → List (Addr × Obj)} {Q : Unit → Shared → Prop} (F : Fr h₀ L s.heap m) (X₀ : K.In h₀) (N : News h₀ L s.heap news) (hcl : ox.cls = .ref C) (hno : notCls ox = true) (hd : ox.dict = none) (hfr : ox.isFreed = false)
    (hc : clsIn K C = some cd) (hmro : cd.mro = .ref C :: excMro) (hdd : cd.hasDict = true) (ht : findIn K (.ref C) name = some none) (hs : findIn K (.ref C) "__setattr__" = some (some (.builtin "object.__setattr__")))
    (U : UpdF x ox news g)
    (h : ∀ dx h' es' n', Fr h₀ L h' m → News h₀ L h' ((dx, dictOf es' n') :: g { ox with dict := some dx }) → (∀ q ∈ news, q.1 < dx) → getL name es' = some (some v) → (∀ nm, nm ≠ name → getL nm es' = some none) → es'.length ≤ 1 → Q () { s with heap := h', toks := s.toks + 2 }) :
    wpAny (model prog w) A (setAttr (.ref x) name v) Q E s := by
  have X := X₀.keeps F.keep
  obtain ⟨pre, post, e, hg, h1, h2⟩ := U.split
  have hx : s.heap.get? x = some ox := (N (x, ox) (by rw [e]; simp)).1
  have I : InstAt s.heap x ox C none := ⟨hx, hcl, hno, by rw [hd]; trivial⟩
  refine set_plain X I hs ?_
  have I' : InstAt ({ s with toks := s.toks + 1 } : Shared).heap x ox C none := I
  refine osa_openE X I' hc hmro ht fun b => ?_
  obtain ⟨oc, odi, oda, osl⟩ := ox
  dsimp only at hcl hd
  subst hcl hd
  refine wpAny_bind (wpAny_pure (wpAny_bind (wpAny_bind (wpAny_loadPart hx (wpAny_bind (looks_clsIn X hc _ _ _ _ (fun _ _ e => e) ?_))))))
  rw [hdd]
  have lt : ∀ q ∈ news, q.1 < s.heap.objs.size := fun q hq => Heap.lt_size (N q hq).1
  have F1 : Fr h₀ L (s.heap.push emptyDict) m := F.push _
  have N1 := N.push F emptyDict
  have hxs : s.heap.objs.size ≠ x := Ne.symm (Nat.ne_of_lt (Heap.lt_size hx))
  obtain ⟨F2, N2⟩ := news_upd (pre := (s.heap.objs.size, emptyDict) :: pre) (post := post) (d := x) (o := ⟨.ref C, none, oda, osl⟩) (o' := ⟨.ref C, some s.heap.objs.size, oda, osl⟩) (f := fun o => { o with dict := some s.heap.objs.size }) F1 (by rw [e] at N1; exact N1)
    (by intro p hp; rcases List.mem_cons.mp hp with rfl | hp; exact hxs; exact h1 p hp) h2 rfl (by cases oda <;> first | rfl | exact hfr)
  have fin : wpAny (model prog w) A.in1 (do
      let d ← alloc { cls := .type "dict", data := .dict #[] }
      PySem.update x fun o => { o with dict := some d }
      dictMade (.ref C) x d) (fun a s' => wpAny (model prog w) A.in1 (match a with
            | some d => storeInDict d (Value.str name s.toks) name v
            | none => noDictFor (Value.ref x) (Value.ref C) name b)
            (fun fin s' => match fin with | .done f => (match Except.ok f with | Except.ok (Flow.ret v) => Q () s' | Except.ok a => False | Except.error e => E e s') | .again c' => c'.quiet = true ∧ codeAny (model prog w) A c' (fun r s' => match r with | Except.ok (Flow.ret v) => Q () s' | Except.ok a => False | Except.error e => E e s') s')
            (fun e s' => match Except.error e with | Except.ok (Flow.ret v) => Q () s' | Except.ok a => False | Except.error e => E e s') s')
      (fun e s' => match Except.error e with | Except.ok (Flow.ret v) => Q () s' | Except.ok a => False | Except.error e => E e s') { s with toks := s.toks + 1 } := by
    refine wpAny_bind (wpAny_alloc (wpAny_bind (wpAny_update (Heap.get?_push_of_some _ hx) (wpAny_pure ?_))))
    refine store_in (s := ⟨(s.heap.push emptyDict).update x fun o => { o with dict := some s.heap.objs.size }, s.gens, s.drawn, s.toks + 1, s.os⟩) (es := []) (n := 0) F2 N2 (g := fun o => (s.heap.objs.size, o) :: (pre ++ (x, ⟨.ref C, some s.heap.objs.size, oda, osl⟩) :: post)) (UpdF.head ?_) rfl (by simp) fun h' es' n' F' N' g1 g2 z => h s.heap.objs.size h' es' n' F' ?_ lt g1 (fun nm hne => (g2 nm hne).trans rfl) z
    · intro p hp
      rcases List.mem_append.mp hp with hp | hp
      · exact Nat.ne_of_lt (lt p (by rw [e]; exact List.mem_append_left _ hp))
      · rcases List.mem_cons.mp hp with rfl | hp
        · exact Ne.symm hxs
        · exact Nat.ne_of_lt (lt p (by rw [e]; exact List.mem_append_right _ (.tail _ hp)))
    · rw [hg]; exact N'
  cases oda <;> first | exact fin | cases hno
end
end Mine
end
section
open Builtin Builtin.ObjectAttr PySem.Spec
namespace Mine
section
variable {prog : Program} {w : World} {A : Around} {s : Shared} {K : Frag} {x C L : Addr} {h₀ : Heap} {m : Str → Option Value} {news : List (Addr × Obj)} {name : Str} {v : Value} {E : Value → Shared → Prop} {Q : Value → Shared → Prop} {expr : Bool}
theorem get_exc0 {ox : Obj} {od : Option Obj} (X : K.In s.heap) (I : InstAt s.heap x ox C od) (hga : findIn K (.ref C) "__getattribute__" = some (some (.builtin "BaseException.__getattribute__"))) (hgg : findIn K (.ref C) "__getattr__" = some none)
    (hb : mroIn K C (.type "BaseException") = some true) (hf : findObj K C od name = some (.value v)) (hh : handedIn v = true) (h : Q v { s with toks := s.toks + 1 }) : wpAny (model prog w) A (getAttr (.ref x) name expr) Q E s := by
  obtain ⟨hh', g, d, t, os⟩ := s
  have FB := PySem.F.attrBase_Exception
  have L0 := I.type (M := model prog w)
  have L1 := looks_findIn (M := model prog w) X hga
  have L2 := looks_findIn (M := model prog w) X hgg
  have L3 := looks_find (M := model prog w) X I hf
  have f3 := FB.ga.bind (.ref x)
  unfold getAttr getAttrBy
  refine wpAny_bind (wpAny_mkText (wpAny_holding (wpAny_bind (L0.at (wpAny_bind (L1.at ?_))))))
  have hx2 : (Value.builtin "BaseException.__getattribute__" == Value.builtin "object.__getattribute__") = false := by decide +kernel
  dsimp only
  rw [hx2, Bool.and_false]
  show wpAny _ _ (getAttrByItsOwn _ _ _ _ _ _) _ _ _
  unfold getAttrByItsOwn hookBefore
  refine wpAny_bind ((show Looks (model prog w) hh' (if onTheHeap (Value.ref C) = true then typeLookup (Value.ref C) "__getattr__" else pure none) none from L2).at ?_)
  refine wpAny_bind (wpAny_attempt (wpAny_holding ?_))
  have hx0 : (expr && onTheHeap (Value.builtin "BaseException.__getattribute__")) = false := by cases expr <;> rfl
  unfold callGetattribute
  rw [hx0]
  show wpAny _ _ (boundAndCalled _ _ _) _ _ _
  unfold boundAndCalled
  rw [f3]
  refine wpAny_bind (wpAny_pure ?_)
  dsimp only
  have hk : builtinKind "BaseException.__getattribute__" = some .slot := by decide +kernel
  have hsplit : splitId "BaseException.__getattribute__" = some ("BaseException", "__getattribute__") := by decide +kernel
  have sub : Looks (model prog w) hh' (isInstance (.ref x) (.type "BaseException")) true := L0.andThen (looks_mroIn X hb)
  refine wpAny_call (codeAny_call_builtin FB.ga.plain PySem.F.entry_bexc_ga (@check_slot (model prog w) _ _ _ "BaseException.__getattribute__" "BaseException" "__getattribute__" (.ref x) [.str name t] [] _ hk hsplit sub (PySem.F.args_bexc_ga _ _) ?_))
  unfold Builtin.«object.__getattribute__»
  refine wpAny_bind (wpAny_pure (wpAny_bind (wpAny_pure (wpAny_bind (L0.at (wpAny_bind (L3.at ?_)))))))
  refine wpAny_pure ?_
  show wpAny _ _ (handedOut v) _ _ _
  rw [handedOut_of hh]
  exact wpAny_pure h
/-- an attribute out of an exception's dict -/
theorem get_exc {ox : Obj} {dx : Addr} {es : List DictEntry} {n : Nat} (F : Fr h₀ L s.heap m) (X₀ : K.In h₀) (N : News h₀ L s.heap news) (hx : (x, ox) ∈ news) (hcl : ox.cls = .ref C) (hno : notCls ox = true) (hd : ox.dict = some dx) (hdx : (dx, dictOf es n) ∈ news)
    (hga : findIn K (.ref C) "__getattribute__" = some (some (.builtin "BaseException.__getattribute__"))) (hgg : findIn K (.ref C) "__getattr__" = some none)
    (hb : mroIn K C (.type "BaseException") = some true) (hdd : hasDictIn K C = true) (ht : findIn K (.ref C) name = some none) (hl : getL name es = some (some v)) (hh : handedIn v = true) (h : Q v { s with toks := s.toks + 1 }) : wpAny (model prog w) A (getAttr (.ref x) name expr) Q E s :=
  get_exc0 (X₀.keeps F.keep) ⟨(N _ hx).1, hcl, hno, by rw [hd]; exact (N _ hdx).1⟩ hga hgg hb (findObj_own hdd ht rfl (by rw [lookIn_dict]; exact hl)) hh h
end
end Mine
end
section
open Builtin Builtin.ObjectAttr PySem.Spec
namespace Mine
section
variable {prog : Program} {w : World} {A : Around} {s : Shared} {K : Frag} {x C N' L t : Addr} {h₀ : Heap} {m : Str → Option Value} {news : List (Addr × Obj)} {name : Str} {v : Value} {E : Value → Shared → Prop} {Q : Value → Shared → Prop}
variable {nm q : Str} {bs : List Value} {hdct : Bool} {sn : List Str} {sub : List Value} {ab : Bool} {col : Option Bool} {dd : Option Addr} {k0 k1 k2 k3 k5 : Option Value}
theorem exc_init {rest : List Value} {g : Obj → List (Addr × Obj)} (F : Fr h₀ L s.heap m) (N : News h₀ L s.heap news)
    (hC : s.heap.get? C = some (excClassObj nm q C N' bs excMro hdct sn sub ab col dd k0 k1 k2 k3 k5 "Exception.__new__")) (U : UpdF x (excObj C t none) news g) (hrest : rest.length ≤ 1000)
    (h : ∀ t' h', Fr h₀ L h' m → News h₀ L h' ((t', tupObj rest) :: g (excObj C t' none)) → (∀ q ∈ news, q.1 < t') → Q .none { s with heap := h' }) :
    wpAny (model prog w) A (call (.builtin "Exception.__init__") (.ref x :: rest)) Q E s := by
  obtain ⟨pre, post, e, hg, h1, h2⟩ := U.split
  have hx : s.heap.get? x = some (excObj C t none) := (N (x, _) (by rw [e]; simp)).1
  have Fn := PySem.F.excBase_Exception
  have T : OwnTail s.heap excMro excMro := .base
  have lt : ∀ q ∈ news, q.1 < s.heap.objs.size := fun q hq => Heap.lt_size (N q hq).1
  have F1 : Fr h₀ L (s.heap.push (tupObj rest)) m := F.push _
  have N1 := N.push F (tupObj rest)
  have hxs : s.heap.objs.size ≠ x := Ne.symm (Nat.ne_of_lt (Heap.lt_size hx))
  obtain ⟨F2, N2⟩ := news_upd (pre := (s.heap.objs.size, tupObj rest) :: pre) (post := post) (d := x) (o := excObj C t none) (o' := excObj C s.heap.objs.size none) (f := Obj.mapFields (·.setIfInBounds 0 (.ref s.heap.objs.size))) F1 (by rw [e] at N1; exact N1)
    (by intro p hp; rcases List.mem_cons.mp hp with rfl | hp; exact hxs; exact h1 p hp) h2 rfl rfl
  have fin := h s.heap.objs.size _ F2 (by rw [hg]; exact N2) lt
  obtain ⟨hh, sg, sd, st, so⟩ := s
  have hx1 := Heap.get?_push_of_some (tupObj rest) hx
  refine wpAny_call (codeAny_call_builtin Fn.init.plain Fn.initEntry (wpAny_check_init_subU Fn T hC hx rfl ?_))
  wp_walk
  rw [if_neg (Nat.not_lt.mpr (by rw [List.size_toArray, sizeLine_eq]; omega))]
  refine wpAny_bind (wpAny_alloc ?_)
  refine wpAny_pure ?_
  unfold BaseException.bexcPut
  refine wpAny_bind (wpAny_bind (wpAny_field (x := .ref t) hx1 rfl rfl (wpAny_bind (wpAny_setField hx1 rfl (by simp) ?_))))
  wp_walk
  exact fin
end
end Mine
end
section
namespace Mine
theorem subq {a b c d : Addr × Obj} {r : List (Addr × Obj)} : ∀ p ∈ c :: a :: r, p ∈ a :: b :: c :: d :: r := by
  intro p hp
  simp only [List.mem_cons] at hp ⊢
  rcases hp with h | h | h <;> simp only [h, true_or, or_true]
theorem meta_Exc : typeOf (.type "Exception") = pure (.type "type") := by kernel_rfl
theorem quic_cd (P : Params) : ∃ cd, clsIn (hd.heap_39 P) 214 = some cd ∧ cd.mro = .ref 214 :: excMro ∧ cd.hasDict = true := ⟨_, rfl, rfl, rfl⟩
theorem ns_at {K : Frag} {h : Heap} {N : Addr} {mg : Str → Option Value} {n : Str} {v : Value} (X : K.In h) (G : h.Ns N mg) (e : nsIn K N n = some (some v)) : mg n = some v := by
  obtain ⟨o, es, ep, ho, hd, _, hf⟩ := G
  unfold nsIn at e
  split at e
  · rename_i c d es' n' sl q
    have := X _ _ q
    rw [ho] at this
    cases this
    cases hd
    split at e
    · rename_i en he
      cases e
      rw [← hf]
      unfold nsFind findBy
      rw [← Array.find?_toList, he]
      rfl
    · split at e <;> cases e
  · cases e
theorem quic_ns {P : Params} {h : Heap} (X : (hd.heap_39 P).In h) : ∃ mN, h.Ns 213 mN ∧ mN (Str.ofString "__init__") = some (.ref 211) := by
  have G : h.Ns 213 (h.nsMap 213) := .of_isNs (isNs_of_in X (by kernel_rfl))
  exact ⟨_, G, ns_at X G (by kernel_rfl)⟩
section
variable {w : World} {A : Around} {s : Shared} {x L t : Addr} {h₀ : Heap} {m : Str → Option Value} {news : List (Addr × Obj)} {name : Str} {v : Value} {E : Value → Shared → Prop}
theorem quic_init {rest : List Value} {g : Obj → List (Addr × Obj)} {Q : Value → Shared → Prop} (F : Fr h₀ L s.heap m) (X : (hd.heap_39 w.params).In h₀) (N : News h₀ L s.heap news) (U : UpdF x (excObj 214 t none) news g) (hrest : rest.length ≤ 1000)
    (h : ∀ t' h', Fr h₀ L h' m → News h₀ L h' ((t', tupObj rest) :: g (excObj 214 t' none)) → (∀ q ∈ news, q.1 < t') → Q .none { s with heap := h' }) :
    wpAny (model PySem.Challenge.rw_rg0255_01.row.prog w) A (call (.builtin "Exception.__init__") (.ref x :: rest)) Q E s := by
  obtain ⟨_, _, _, _, _, _, _, _, _, _, _, _, _, _, hC⟩ := quic_cls (X.keeps F.keep)
  exact exc_init F N hC U hrest h
theorem quic_set0 {g : Obj → List (Addr × Obj)} {Q : Unit → Shared → Prop} (F : Fr h₀ L s.heap m) (X : (hd.heap_39 w.params).In h₀) (N : News h₀ L s.heap news) (ht : findIn (hd.heap_39 w.params) (.ref 214) name = some none)
    (U : UpdF x (excObj 214 t none) news g)
    (h : ∀ dx h' es' n', Fr h₀ L h' m → News h₀ L h' ((dx, dictOf es' n') :: g (excObj 214 t (some dx))) → (∀ q ∈ news, q.1 < dx) → getL name es' = some (some v) → (∀ nm, nm ≠ name → getL nm es' = some none) → es'.length ≤ 1 → Q () { s with heap := h', toks := s.toks + 2 }) :
    wpAny (model PySem.Challenge.rw_rg0255_01.row.prog w) A (setAttr (.ref x) name v) Q E s := by
  obtain ⟨cd, c1, c2, c3⟩ := quic_cd w.params
  exact set_exc0 F X N rfl rfl rfl rfl c1 c2 c3 ht (by rfl) U h
theorem quic_set {dx : Addr} {es : List DictEntry} {n k : Nat} {u : Option Value} {g : Obj → List (Addr × Obj)} {Q : Unit → Shared → Prop} (F : Fr h₀ L s.heap m) (X : (hd.heap_39 w.params).In h₀) (N : News h₀ L s.heap news) (ht : findIn (hd.heap_39 w.params) (.ref 214) name = some none)
    (hx : (x, excObj 214 t (some dx)) ∈ news) (U : UpdF dx (dictOf es n) news g) (hl : getL name es = some u) (hz : es.length ≤ k) (hk : k ≤ 900)
    (h : ∀ h' es' n', Fr h₀ L h' m → News h₀ L h' (g (dictOf es' n')) → getL name es' = some (some v) → (∀ nm, nm ≠ name → getL nm es' = getL nm es) → es'.length ≤ k + 1 → Q () { s with heap := h', toks := s.toks + 2 }) :
    wpAny (model PySem.Challenge.rw_rg0255_01.row.prog w) A (setAttr (.ref x) name v) Q E s := by
  obtain ⟨cd, c1, c2, c3⟩ := quic_cd w.params
  exact set_exc F X N hx rfl rfl rfl c1 c2 c3 ht (by rfl) U hl hz hk h
end
section
variable {w : World} {p : Program} {loose : List Str} {mean : ExcName → Option Value} {mg mb : Str → Option Value} {dp un : Nat} {gd : Option (List Code)} {cn : Str} {cs : Scope} {a : Addr} {ccd : Value} {cl : List (Str × Addr)} {outer : List Env} {A₀ : Around} {base h₀ : Heap} {L : Addr} {m : Str → Option Value}
  {s : Shared} {Q E : Value → Shared → Prop}
theorem quic_new {news : List (Addr × Obj)} {x : Str} {t1 t2 t3 : Tok}
  (B : Below A₀ base outer h₀) (F : Fr h₀ L s.heap m) (X : (hd.heap_39 w.params).In h₀) (N : News h₀ L s.heap news) (T : Top p loose mean mg mb h₀) (hk : cs.kind = .function)
  (hd : dp + 30 < recursionLimit) (hu : un + 240 < cLine) (hx : x.length ≤ 200)
  (ret : ∀ e dE es n t h' tk', Fr h₀ L h' m → News h₀ L h' ((e, excObj 214 t (some dE)) :: (dE, dictOf es n) :: news) → getL (Str.ofString "code") es = some (some (.int 10 t1)) → getL (Str.ofString "frame_type") es = some (some (.int 25 t2)) → (∀ q ∈ news, q.1 < e) → @LT.lt Nat _ e dE → Q (.ref e) { s with heap := h', toks := tk' }) :
  wpAny (model PySem.Challenge.rw_rg0255_01.row.prog w) (ktrTop dp un gd cn cs L a ccd cl outer) (call (.ref 214) [.int 10 t1, .int 25 t2, .str x t3]) Q E s := by
  k_with_none
  k_with "getMethod type:Exception" => (k_here; refine' method_type ?F ?X ?m (by decide +kernel) ?e ?h ?_; (case F => k_asm); (case X => k_asm); (case m => exact meta_Exc); (case e => k_dflt k_is); (case h => k_handed))
  k_with "call builtin:Exception.__init__" => (k_here; k_dflt (refine' quic_init ?F ?X ?N ?U ?hr ?_; (case F => k_asm); (case X => k_asm); (case N => k_asm); (case U => k_updF); (case hr => exact Nat.le_of_ble_eq_true rfl)); intro t_k9' h_k9' F_k9' N_k9' l1_k9; (try dsimp only at N_k9'); (try k_lt l1_k9); (try k_sweep))
  k_with "setAttr ref" => (k_here; k_dflt (refine' quic_set ?F ?X ?N ?ht ?hx ?U ?hl ?hz ?hk ?_; (case F => k_asm); (case X => k_asm); (case N => k_asm); (case ht => k_is); (case hx => k_mem); (case U => k_updF); (case hl => k_get); (case hz => with_reducible assumption); (case hk => first | decide | omega)); intro h_k9' es_k9' n_k9' F_k9' N_k9' g_k9' f_k9' z_k9'; (try dsimp only at N_k9'); (try k_sweep))
  k_with "setAttr ref" => (k_here; k_dflt (refine' quic_set0 ?F ?X ?N ?ht ?U ?_; (case F => k_asm); (case X => k_asm); (case N => k_asm); (case ht => k_is); (case U => k_updF)); intro dx_k9' h_k9' es_k9' n_k9' F_k9' N_k9' l1_k9 g_k9' f_k9' z_k9'; (try dsimp only at N_k9'); (have f1' := f_k9' (Str.ofString "frame_type") (by decide)); (have f2' := f_k9' (Str.ofString "text") (by decide)); clear f_k9'; (try k_lt l1_k9); (try k_sweep))
  revert X ret; k_fill; intro X ret
  obtain ⟨k9, n9, g9, c9, e9⟩ := cs
  dsimp only at hk
  subst hk
  obtain ⟨sh, sg, sd, st9, so⟩ := s
  have kX := X.keeps F.keep
  obtain ⟨_, _, _, _, _, _, _, _, _, _, _, _, _, _, hC⟩ := quic_cls kX
  obtain ⟨mN, hn, hni⟩ := quic_ns kX
  refine wpAny_call (exc_call kX (by k_is) hC hn hni ?_)
  have F1 : Fr h₀ L ((sh.push (tupObj [.int 10 t1, .int 25 t2, .str x t3])).push (excObj 214 sh.objs.size none)) m := (F.push _).push _
  have N1 := (N.push F (tupObj [.int 10 t1, .int 25 t2, .str x t3])).push (F.push _) (excObj 214 sh.objs.size none)
  rw [Heap.size_push] at N1
  have l1 : ∀ q ∈ news, q.1 < sh.objs.size := fun q hq => Heap.lt_size (N q hq).1
  have l2 : @LT.lt Nat _ sh.objs.size (sh.objs.size + 1) := Nat.lt_succ_self _
  have l3 : ∀ q ∈ news, q.1 ≠ sh.objs.size + 1 := fun q hq => Nat.ne_of_lt (Nat.lt_succ_of_lt (l1 q hq))
  dsimp only at l2 l3 ⊢ N1
  generalize ((sh.push (tupObj [.int 10 t1, .int 25 t2, .str x t3])).push (excObj 214 sh.objs.size none)) = h1 at F1 N1 ⊢
  clear F N hC hn hni kX
  generalize hE : sh.objs.size + 1 = eA at N1 l2 l3 ⊢
  generalize sh.objs.size = tA at N1 l1 l2
  k_dflt k_enter
  k_steps
  have N9 := (by assumption : News h₀ L _ _)
  refine' ret _ _ _ _ _ _ _ (by assumption) (fun p hp => N9 p (subq p hp)) ?a ?b ?c ?d
  case a => k_get
  case b => k_get
  case c => exact fun q hq => Nat.lt_trans (l1 q hq) l2
  case d => omega
end
end Mine
end
section
open PySem.Spec
namespace Mine
section
variable {M : Model} {A : Around} {E : Value → Shared → Prop} {s s' : Shared} {env : Env} {P : Params}
/-- what a raise of the law's exception hands on -/
def RaiseP (P : Params) (E : Value → Shared → Prop) (v : Value) (s : Shared) : Prop := ∃ e t dE, v = .ref e ∧ (hd.heap_39 P).In s.heap ∧ s.heap.get? e = some (excObj 214 t (some dE)) ∧ E (.ref e) s
theorem raise_made {xv : Sem Value} {Q : Flow → Shared → Prop} (hh : A.handled = none) (h : wpAny M A xv (RaiseP P E) E s) : wpAny M A (raiseStmt env (some xv) none) Q E s := by
  unfold raiseStmt
  refine wpAny_bind (wpAny_mono h (fun v s₁ h₁ => ?_) fun _ _ x => x)
  obtain ⟨e, t, dE, rfl, hX, he, hE⟩ := h₁
  obtain ⟨hp, g, d, tk, os⟩ := s₁
  obtain ⟨_, _, _, _, _, _, _, _, _, _, _, _, _, _, hC⟩ := quic_cls hX
  have hcB : (Value.ref 214 :: excMro).contains (.type "BaseException") = true := by simp
  repeat (first | with_reducible refine wpAny_loadPart_at he ?_ | with_reducible refine wpAny_loadPart_at hC ?_ | (with_reducible refine wpAny_isSubtype_exc hC ?_; rw [hcB]) | wp_step)
  exact wpAny_raiseNew_none hh hE
theorem raise_any {x : PySem.Expr} {pos : Pos} {Q : Flow → Shared → Prop} (hh : A.handled = none) (h : wpAny M A (eval x env) (RaiseP P E) E s) : wpAny M A (exec (.Raise (some x) none pos) env) Q E s := by
  rw [arm_exec_Raise]
  refine wpAny_bind (wpAny_standAt ?_)
  exact raise_made (xv := eval x env >>= fun v => standAt pos >>= fun _ => pure v) hh (wpAny_bind (wpAny_mono h (fun v s₁ z => wpAny_bind (wpAny_standAt (wpAny_pure z))) fun _ _ z => z))
end
section
variable {M : Model} {A : Around} {E : Value → Shared → Prop} {s' : Shared} {base g g₂ : Heap} {outer : List Env} {L a e t dE : Addr} {m : Str → Option Value} {name : Str} {scope : Scope} {cd : Value} {Q : Unit → Shared → Prop} {news : List (Addr × Obj)}
theorem leave_first (K : Below A base outer g) (F : Fr g L s'.heap m) (N : News g L s'.heap ((e, excObj 214 t (some dE)) :: news)) (hne : ∀ q ∈ news, q.1 ≠ e)
    (hQ : ∀ h', RaisedSN base g outer e (.ref 214) news h' → DictIs h' e (some dE) → g.UpToSlots h' → Q () { s' with heap := h' }) (hk : scope.kind = .function := by rfl) :
    wpAny M (A.deeper (envOf name scope L a cd)) (leaving (envOf name scope L a cd) (.ref e)) Q E s' := by
  have he := N _ (.head _)
  refine tame_any (tame_leaving _ _) (e := e) (d := some dE) ⟨_, he.1, rfl⟩ ?_
  have K' := K.push (name := name) (a := a) (cd := cd) F hk
  have hin : ∀ env ∈ (envOf name scope L a cd :: outer), ∀ b, env.frame = some b → b ∈ e :: (envOf name scope L a cd :: outer).filterMap (·.frame) := fun env he b hb => .tail _ (List.mem_filterMap.mpr ⟨env, he, hb⟩)
  have hbe : base.get? e = none := fresh_of_stays K.stays he.2.2
  have st : base.StaysIn (hideAll s'.heap (e :: (envOf name scope L a cd :: outer).filterMap (·.frame))) := fun b o q => hideAll_get _ (K'.stays b o q) fun hm => by
    rcases List.mem_cons.mp hm with z | hm
    · rw [z, hbe] at q; cases q
    · rw [(K'.frames.mem hm).1] at q; cases q
  have sg : ∀ b o, g.get? b = some o → b ∉ outer.filterMap (·.frame) → (hideAll s'.heap (e :: (envOf name scope L a cd :: outer).filterMap (·.frame))).get? b = some o := fun b o q nm => hideAll_get _ (F.keep b o q) fun hm => by
    rcases List.mem_cons.mp hm with z | hm
    · rw [z, he.2.2] at q; cases q
    rcases kts_mem hm with z | z
    · rw [z, kts_self F] at q
      cases q
    · exact nm z
  have hl : ∀ q ∈ news, (hideAll s'.heap (e :: (envOf name scope L a cd :: outer).filterMap (·.frame))).get? q.1 = some q.2 ∧ g.get? q.1 = none ∧ base.get? q.1 = none := fun q hq => by
    have Nq := N q (.tail _ hq)
    refine ⟨hideAll_get _ Nq.1 fun hm => ?_, Nq.2.2, fresh_of_stays K.stays Nq.2.2⟩
    rcases List.mem_cons.mp hm with z | hm
    · exact hne q hq z
    obtain ⟨env, he', hf⟩ := List.mem_filterMap.mp hm
    rcases List.mem_cons.mp he' with rfl | he'
    · exact Nq.2.1 (Option.some.inj hf).symm
    · obtain ⟨o, ho, _⟩ := (K.frames.mem (List.mem_filterMap.mpr ⟨env, he', hf⟩)).2
      rw [Nq.2.2] at ho; cases ho
  have hen : (hideAll s'.heap (e :: (envOf name scope L a cd :: outer).filterMap (·.frame))).get? e = none := hideAll_none _ (.head _)
  refine wpAny_leaving_firstW (a0 := .ref t) K'.stack (funFrames_hide K'.frames hin) rfl he.1 (fun b o hb => of_hideAll _ hb) hen rfl rfl rfl fun h' hL D' => ?_
  obtain ⟨k1, ⟨_, _, k2⟩, k3, k4⟩ := hL
  exact hQ h' ⟨_, _, st, sg, hl, k1, hen, k2, k3⟩ D' ((Heap.UpToSlots.of_keeps F.keep).trans k4)
theorem leave_on {cls : Value} {d : Option Addr} (K : Below A base outer g) (F : Fr g L g₂ m) (R : RaisedSN base g₂ (envOf name scope L a cd :: outer) e cls news s'.heap) (D : DictIs s'.heap e d) (hsm : g₂.UpToSlots s'.heap)
    (hQ : ∀ h', RaisedSN base g outer e cls news h' → DictIs h' e d → g.UpToSlots h' → Q () { s' with heap := h' }) :
    wpAny M (A.deeper (envOf name scope L a cd)) (leaving (envOf name scope L a cd) (.ref e)) Q E s' :=
  tame_any (tame_leaving _ _) D (leave_onSN K F R hsm fun h' R' _ U' D' => hQ h' R' D' U')
end
end Mine
end
section
open PySem.Spec
namespace Mine
section
variable {prog : Program} {w : World} {A₀ : Around} {E : Value → Shared → Prop} {s' : Shared} {base g g₀ G : Heap} {outer : List Env} {L a e C : Addr} {m : Str → Option Value} {name : Str} {scope : Scope} {cd : Value}
  {n : Str} {b₀ : Stmt} {suite : List Stmt} {pos np : Pos} {rest : List ExceptHandler} {Q : Flow → Shared → Prop} {news : List (Addr × Obj)} {KF : Frag} {dd : Option Addr}
  {p : Program} {loose : List Str} {mean : ExcName → Option Value} {mg mb : Str → Option Value} {x : Str}
end
end Mine
end
section
open PySem.Spec
namespace Mine
section
variable {prog : Program} {w : World} {A : Around} {E : Value → Shared → Prop} {s : Shared} {env : Env} {h₀ : Heap} {x : Str} {body : List Stmt} {Q : Flow → Shared → Prop}
/-- a loop over the keys of a dict -/
theorem keys_inv {d : Addr} {o : Obj} {kvs : List (Int × Value)} {m₀ : Str → Option Value} {news : List (Addr × Obj)} (Inv : Addr → Nat → (Str → Option Value) → List (Addr × Obj) → Prop)
    (hh : A.handled = none) (F : Fr h₀ env.locals s.heap m₀) (N : News h₀ env.locals s.heap news) (hm : (d, o) ∈ news) (hd : o.IsDictOf (PySem.intKind prog w) kvs) (lo : (d == sysModules) = false)
    (init : ∀ I : Addr, (∀ p ∈ news, p.1 < I) → Inv I 0 m₀ news)
    (mem : ∀ I i m' news', Inv I i m' news' → (d, o) ∈ news')
    (last : ∀ I m' news' h tk, Inv I kvs.length m' news' → Fr h₀ env.locals h m' → News h₀ env.locals h news' → Q .next { s with heap := h, toks := tk })
    (step : ∀ I i k v m' news' it t h tk, kvs[i]? = some (k, v) → Inv I i m' news' → Fr h₀ env.locals h (fun y => if y = x then some (.int k t) else m' y) → News h₀ env.locals h ((I, it) :: news') →
      wpAny (model prog w) A (execs body env) (UnrPost h₀ env.locals { s with heap := h, toks := tk } I it (Inv I (i + 1)) Q) E { s with heap := h, toks := tk }) :
    wpAny (model prog w) A (pyIter (.ref d)) (fun it s₂ => LoopAtV prog w A h₀ env x body Q E it s₂) E s := by
  have hax := N _ hm
  obtain ⟨ep, ha⟩ := KdkAt.of hd
  have hdat := ha.dictAt hax.1
  have hlt : d < s.heap.objs.size := Heap.lt_size hax.1
  have hne : d ≠ s.heap.objs.size := Nat.ne_of_lt hlt
  refine wpAny_pyIter_dict lo hdat ?_
  have hnew := next_is_new F
  have W := Walks.dictKeys (prog := prog) (w := w) (knd := PySem.intKind prog w) hh s.heap.objs.size d hne kvs ep
  have i0 := init s.heap.objs.size fun p hp => Heap.lt_size (N p hp).1
  refine ⟨_, _, _, kvs.length, _, _, m₀, news, Inv s.heap.objs.size, rfl, W, ?_, ?_, ?_, ⟨⟨_, Heap.get?_push_size _ rfl, rfl, rfl⟩, hdat.push _⟩, F.push _, (fun p hp => ⟨Heap.get?_push_of_some _ (N p hp).1, (N p hp).2⟩), i0, ?_, ?_⟩
  · intro hmm
    rcases List.mem_cons.mp hmm with e | hmm
    · exact absurd F.ns.lt (e ▸ Nat.lt_irrefl _)
    · exact hax.2.1 (List.mem_singleton.mp hmm).symm
  · intro b hb
    rw [List.mem_singleton.mp hb]
    exact hnew
  · intro p hp hI
    exact absurd (Heap.lt_size (N p hp).1) ((List.mem_singleton.mp hI) ▸ Nat.lt_irrefl _)
  · rintro i v m₁ news₁ s₁ own ⟨hh', tk', rfl⟩ hin ⟨k, y, hk, hv⟩ hJ hoff hown hget hall hst F₁ N₁
    obtain ⟨t, rfl⟩ := PySem.Value.isInt_shape hv
    obtain ⟨it, hit, hic⟩ := hst.1
    have hmemI := hall s.heap.objs.size (List.mem_cons_self ..) hnew _ hit
    have hmem₁ := mem _ _ _ _ hJ
    have N₂ : News h₀ env.locals hh' ((s.heap.objs.size, it) :: news₁) := fun p hp => by
      rcases List.mem_cons.mp hp with rfl | hp
      · exact N₁ _ (List.mem_append_left _ hmemI)
      · exact N₁ _ (List.mem_append_right _ hp)
    refine wpAny_mono (step s.heap.objs.size i k y m₁ news₁ it t hh' tk' hk hJ F₁ N₂) (fun f s₂ p => ?_) fun _ _ e => e
    have fin : UnrEnd h₀ env.locals { s with heap := hh', toks := tk' } s.heap.objs.size it (Inv s.heap.objs.size (i + 1)) s₂ →
        LoopStepU h₀ env.locals [s.heap.objs.size] own (Inv s.heap.objs.size (i + 1)) { s with heap := hh', toks := tk' } .next s₂ := by
      rintro ⟨h', tk, m', news', e, F', N', ho, r⟩
      refine ⟨rfl, h', tk, m', news', e, F', fun p hp => ?_, fun p hp hI => ho p hp (List.mem_singleton.mp hI), r⟩
      rcases List.mem_append.mp hp with hp | hp
      · have h2 : hh'.get? p.1 = some p.2 := hget p hp
        rcases List.mem_cons.mp (hown p hp) with h1 | h1
        · have h3 : p = (s.heap.objs.size, it) := by
            rw [h1, hit] at h2
            exact Prod.ext h1 (Option.some.inj h2).symm
          rw [h3]; exact N' _ (List.mem_cons_self ..)
        · have h1' : p.1 = d := List.mem_singleton.mp h1
          have h3 : p = (d, o) := by
            rw [h1', (N₁ _ (List.mem_append_right _ hmem₁)).1] at h2
            exact Prod.ext h1' (Option.some.inj h2).symm
          rw [h3]; exact N' _ (List.mem_cons_of_mem _ (mem _ _ _ _ r))
      · exact N' _ (List.mem_cons_of_mem _ hp)
    cases f with
    | ret v => exact .ret p
    | brk => exact .brk p
    | next => exact .next (fin p)
    | cont => exact .cont (fin p)
  · rintro h' tk m' news' F' N' _ hJ
    exact last _ m' news' h' tk hJ F' N'
end
theorem cid_get {t : Nat → Tok} {n i : Nat} {k : Int} {v : Value} (h : (cidKvs t n)[i]? = some (k, v)) : k = (i : Int) ∧ v = .bytes (cidB (i : Int)) (t i) ∧ i < n := by
  unfold cidKvs at h
  rw [List.getElem?_map] at h
  have hi : i < n := by
    by_cases hi : i < n
    · exact hi
    · rw [List.getElem?_eq_none (by rw [List.length_range]; omega)] at h
      cases h
  rw [List.getElem?_range hi] at h
  cases h
  exact ⟨rfl, rfl, hi⟩
theorem cid_at {t : Nat → Tok} {n i : Nat} (hi : i < n) : (cidKvs t n)[i]? = some ((i : Int), .bytes (cidB (i : Int)) (t i)) := by
  unfold cidKvs
  rw [List.getElem?_map, List.getElem?_range hi]
  rfl
theorem cid_nodup {t : Nat → Tok} {n : Nat} : ((cidKvs t n).map (·.1)).Nodup := by
  unfold cidKvs
  rw [List.map_map]
  unfold List.Nodup
  rw [List.pairwise_map]
  refine List.Pairwise.imp (fun {a b} h => ?_) List.nodup_range
  intro e
  exact h (Int.ofNat.inj e)
theorem cid_value {t : Nat → Tok} {n i : Nat} (hi : i < n) : PySem.valueAt (cidKvs t n) (i : Int) = some (.bytes (cidB (i : Int)) (t i)) := PySem.valueAt_of_get cid_nodup (cid_at hi)
end Mine
end
section
open PySem.Spec
namespace Mine
abbrev bFirst : Array UInt8 := [102, 105, 114, 115, 116, 45, 105, 100].toArray
abbrev bPeer : Array UInt8 := [112, 101, 101, 114].toArray
section
variable {w : World} {p : Program} {loose : List Str} {mean : ExcName → Option Value} {mg mb : Str → Option Value} {dp un : Nat} {gd : Option (List Code)} {cn : Str} {cs : Scope} {a : Addr} {ccd : Value} {cl : List (Str × Addr)} {outer : List Env} {A₀ : Around} {base h₀ : Heap} {L : Addr} {m : Str → Option Value}
  {s : Shared} {Q E : Value → Shared → Prop}
theorem client_at {news : List (Addr × Obj)} {f c' ce : Addr} {oc oe : Obj} {fd : FuncData} {b : Bool}
  (B : Below A₀ base outer h₀) (F : Fr h₀ L s.heap m) (X : (hd.heap_39 w.params).In h₀) (N : News h₀ L s.heap news) (T : Top p loose mean mg mb h₀) (hk : cs.kind = .function)
  (hd : dp + 10 < recursionLimit) (hu : un + 80 < cLine) (codeHd : CodeHd base 487 483) (cl' : ClientAt w f fd [(c', oc), (ce, oe)] b) (i1 : (f, fnObj fd) ∈ news) (i2 : (c', oc) ∈ news) (i3 : (ce, oe) ∈ news)
  (ret : ∀ h' tk', Fr h₀ L h' m → News h₀ L h' news → Q (.bool b) { s with heap := h', toks := tk' }) :
  wpAny (model PySem.Challenge.rw_rg0255_01.row.prog w) (ktrTop dp un gd cn cs L a ccd cl outer) (call (.ref f) []) Q E s :=
  cl' p loose mean mg mb dp un gd cn cs a ccd cl outer A₀ base h₀ L m s Q E news B F X N T codeHd hk hd hu i1 (fun q hq => by
    rcases List.mem_cons.mp hq with rfl | hq
    · exact i2
    · rw [List.mem_singleton.mp hq]; exact i3) ret
end
/-- what is_for answers -/
def isForR (b : Bool) (kd : Str) (tok src dc : Array UInt8) (known mv : Bool) (size : Int) : Bool :=
  if (b && (kd == Str.ofString "initial") && decide (0 < (tok.size : Int))) = true then false
  else if (!known && !(!b && (kd == Str.ofString "initial") && (dc.toList == bFirst.toList))) = true then false
  else if ((kd != Str.ofString "short") && (!b || mv) && (src.toList != bPeer.toList)) = true then false
  else b || (kd != Str.ofString "initial") || decide (1200 ≤ size)
def isKnown (dc : Array UInt8) : Bool := decide (dc.toList = ownZero.toList) || decide (dc.toList = (repB 8 101).toList)
end Mine
end
section
namespace Mine
section
variable {prog : Program} {w : World} {A : Around} {E : Value → Shared → Prop} {s : Shared} {h₀ : Heap} {L d : Addr} {m : Str → Option Value} {news : List (Addr × Obj)} {o : Obj} {kvs : List (Int × Value)} {k : Int} {tk : Tok} {v dflt : Value}
theorem pop_none {Q : Value → Shared → Prop} (N : News h₀ L s.heap news) (hp : (d, o) ∈ news) (hd : o.IsDictOf (PySem.intKind prog w) kvs) (lo : (d == sysModules) = false) (hl : valueAt kvs k = none) (h : Q dflt { s with toks := s.toks + 1 }) :
    wpAny (model prog w) A (call (.builtin "dict.pop") [.ref d, .int k tk, dflt]) Q E s := by
  have hD := kda_dict N hp hd
  exact call_meetsIn PySem.F.slot_dict_pop hD.typeIs PySem.F.entry_dict_pop (PySem.F.args_dict_pop_3 _ _ _) (meets_dict_pop_default (PySem.intKind prog w) d (intKind_is _ _ _ _) lo (by rfl) dflt) ⟨kvs, hD, hl, h⟩
theorem in_some {Q : Value → Shared → Prop} (N : News h₀ L s.heap news) (hp : (d, o) ∈ news) (hd : o.IsDictOf (PySem.intKind prog w) kvs) (lo : (d == sysModules) = false) (hl : valueAt kvs k = some v) (h : Q (.bool true) { s with toks := s.toks + 1 }) :
    wpAny (model prog w) A (compareOp .In (.int k tk) (.ref d)) Q E s := kda_in N hp hd lo (intKind_is _ _ _ _) true (by rw [hl]; rfl) h
theorem in_none {Q : Value → Shared → Prop} (N : News h₀ L s.heap news) (hp : (d, o) ∈ news) (hd : o.IsDictOf (PySem.intKind prog w) kvs) (lo : (d == sysModules) = false) (hl : valueAt kvs k = none) (h : Q (.bool false) { s with toks := s.toks + 1 }) :
    wpAny (model prog w) A (compareOp .In (.int k tk) (.ref d)) Q E s := kda_in N hp hd lo (intKind_is _ _ _ _) false (by rw [hl]; rfl) h
end
theorem raise_anyK {M : Model} {A : Around} {E : Value → Shared → Prop} {s : Shared} {env : Env} {P : Params} {h₀ : Heap} {x : PySem.Expr} {pos : Pos} {Q : Flow → Shared → Prop} (X : (hd.heap_39 P).In h₀) (hh : A.handled = none) (h : wpAny M A (eval x env) (RaiseP P E) E s) : wpAny M A (exec (.Raise (some x) none pos) env) Q E s := raise_any hh h
section
variable {w : World} {p : Program} {loose : List Str} {mean : ExcName → Option Value} {mg mb : Str → Option Value} {dp un : Nat} {gd : Option (List Code)} {cn : Str} {cs : Scope} {a : Addr} {ccd : Value} {cl : List (Str × Addr)} {outer : List Env} {A₀ : Around} {base h₀ : Heap} {L : Addr} {m : Str → Option Value}
  {s : Shared} {Q E : Value → Shared → Prop}
/-- the construction, straight ahead of a raise -/
theorem quic_raise {news : List (Addr × Obj)} {x : Str} {t1 t2 t3 : Tok} {E' : Value → Shared → Prop}
  (B : Below A₀ base outer h₀) (F : Fr h₀ L s.heap m) (X : (hd.heap_39 w.params).In h₀) (N : News h₀ L s.heap news) (T : Top p loose mean mg mb h₀) (hk : cs.kind = .function)
  (hd : dp + 30 < recursionLimit) (hu : un + 240 < cLine) (hx : x.length ≤ 200)
  (ret : ∀ e dE es n t h' tk', Fr h₀ L h' m → News h₀ L h' ((e, excObj 214 t (some dE)) :: (dE, dictOf es n) :: news) → getL (Str.ofString "code") es = some (some (.int 10 t1)) → getL (Str.ofString "frame_type") es = some (some (.int 25 t2)) → (∀ q ∈ ((dE, dictOf es n) :: news : List (Addr × Obj)), q.1 ≠ e) → E' (.ref e) { s with heap := h', toks := tk' }) :
  wpAny (model PySem.Challenge.rw_rg0255_01.row.prog w) (ktrTop dp un gd cn cs L a ccd cl outer) (call (.ref 214) [.int 10 t1, .int 25 t2, .str x t3]) (RaiseP w.params E') E s :=
  quic_new B F X N T hk hd hu hx fun e dE es n t h' tk' F' N' c1 c2 l1 l2 => ⟨e, t, dE, rfl, X.keeps F'.keep, (N' _ (.head _)).1, ret e dE es n t h' tk' F' N' c1 c2 (fun q hq => by
    rcases List.mem_cons.mp hq with rfl | hq
    · exact Ne.symm (Nat.ne_of_lt l2)
    · exact Nat.ne_of_lt (l1 q hq))⟩
end
section
variable {w : World} {p : Program} {loose : List Str} {mean : ExcName → Option Value} {mg mb : Str → Option Value} {dp un : Nat} {gd : Option (List Code)} {cn : Str} {cs : Scope} {a : Addr} {ccd : Value} {cl : List (Str × Addr)} {outer : List Env} {A₀ : Around} {base h₀ : Heap} {L : Addr} {m : Str → Option Value}
  {s : Shared} {Q E : Value → Shared → Prop}
theorem ret_pop {news : List (Addr × Obj)} {lx dlx d le : Addr} {o : Obj} {kvs : List (Int × Value)} {lim rp : Value} {ns k : Int} {cb c : Array UInt8} {t1 t2 t3 t4 t5 t6 t8 tk tc tb : Tok} {g : Obj → List (Addr × Obj)}
  (B : Below A₀ base outer h₀) (F : Fr h₀ L s.heap m) (X : (hd.heap_39 w.params).In h₀) (N : News h₀ L s.heap news) (T : Top p loose mean mg mb h₀) (hk : cs.kind = .function)
  (hd : dp + 60 < recursionLimit) (hu : un + 480 < cLine)
  (m1 : (lx, instObj 295 dlx) ∈ news) (m2 : (dlx, dictOf (lids w.params t1 t2 t3 t4 t5 t6 lim d le (.int ns t8) rp false) 6) ∈ news) (m3 : (d, o) ∈ news)
  (hd0 : o.IsDictOf (PySem.intKind PySem.Challenge.rw_rg0255_01.row.prog w) kvs) (hlo : (d == sysModules) = false) (hz : kvs.length ≤ 1000)
  (U : UpdF d o news g) (hk1 : k < ns) (hv : valueAt kvs k = some (.bytes c tc)) (hne : (c.toList == cb.toList) = false)
  (ret : ∀ h' tk' o', Fr h₀ L h' m → News h₀ L h' (g o') → o'.IsDictOf (PySem.intKind PySem.Challenge.rw_rg0255_01.row.prog w) (without kvs k) → Q .none { s with heap := h', toks := tk' }) :
  wpAny (model PySem.Challenge.rw_rg0255_01.row.prog w) (ktrTop dp un gd cn cs L a ccd cl outer) (call (.ref 285) [.ref lx, .int k tk, .bytes cb tb]) Q E s := by
  k_with_none
  k_with "compareOp In int ref" => (k_here; (with_reducible show wpAny _ _ (compareOp CmpOp.In (Value.int _ _) (Value.ref _)) _ _ _); k_dflt (refine' in_none ?N ?hp ?hd ?lo ?hl ?_; (case N => k_asm); (case hp => k_mem); (case hd => k_asm); (case lo => k_asm); (case hl => assumption)); (skip))
  k_with "compareOp In int ref" => (k_here; (with_reducible show wpAny _ _ (compareOp CmpOp.In (Value.int _ _) (Value.ref _)) _ _ _); k_dflt (refine' in_some ?N ?hp ?hd ?lo ?hl ?_; (case N => k_asm); (case hp => k_mem); (case hd => k_asm); (case lo => k_asm); (case hl => assumption)); (skip))
  k_with "subscriptTail" => (k_here; k_dflt (refine kda_item (knd := PySem.intKind _ _) (by k_asm) (by k_mem) (by k_asm) (intKind_is _ _ _ _) (by assumption) ?_))
  k_with "subscriptTail Attribute Name Name ref int" => (k_here; k_dflt (refine kda_item (knd := PySem.intKind _ _) (by k_asm) (by k_mem) (by k_asm) (intKind_is _ _ _ _) (by assumption) ?_))
  k_with "getMethod ref" => (k_here; (with_reducible show wpAny _ _ (getMethod (Value.ref _) (Str.ofString "pop") _) _ _ _); k_dflt (refine kob_method (knd := PySem.intKind _ _) PySem.F.slot_dict_pop PySem.F.type_dict_pop (by k_asm) (by k_mem) (by k_asm) ?_))
  k_with "call builtin:dict.pop" => (k_here; k_dflt (refine' pop_none ?N ?hp ?hd ?lo ?hl ?_; (case N => k_asm); (case hp => k_mem); (case hd => k_asm); (case lo => k_asm); (case hl => assumption)))
  k_with "call builtin:dict.pop" => (k_here; k_dflt (refine' kob_pop (knd := PySem.intKind _ _) (more := [_]) ?F ?N ?U ?d (intKind_is _ _ _ _) (.inr ⟨_, rfl⟩) (by rfl) (PySem.F.args_dict_pop_3 _ _ _) ?l ?z ?_; (case F => k_asm); (case N => k_asm); (case U => assumption); (case d => k_asm); (case l => assumption); (case z => (rw [sizeLine_eq]; omega))); intro h_k9' o_k9' F_k9' N_k9' hd_k9'; (try dsimp only at N_k9'); (try k_sweep))
  k_with "exec Raise some none" => (k_here; k_dflt (refine' raise_anyK ?X rfl ?_; (case X => k_asm)))
  k_with "call ref" => (k_here; (with_reducible show wpAny _ _ (call (Value.ref 214) _) _ _ _); k_dflt (refine' quic_raise ?B ?F ?X ?N ?T ?hk ?hd ?hu ?hx ?_; (case B => k_asm); (case F => k_asm); (case X => k_asm); (case N => k_asm); (case T => k_asm); (case hk => exact rfl); (case hd => ktr_room); (case hu => ktr_units); (case hx => decide)); intro e_k9' dE_k9' es_k9' n_k9' t_k9' h_k9' tk_k9' F_k9' N_k9' c1_k9' c2_k9' l3_k9; (try dsimp only at N_k9'); (try k_sweep))
  k_with "leaving ref" => (k_here; k_dflt (refine' leave_first ?K ?F ?N ?hne ?_; (case K => assumption); (case F => assumption); (case N => assumption); (case hne => assumption)); intro h_k9' R_k9' D_k9' U_k9'; (try dsimp only))
  revert X ret; k_fill; intro X ret
  obtain ⟨k9, n9, g9, c9, e9⟩ := cs
  dsimp only at hk
  subst hk
  refine wpAny_call ?_
  k_dflt k_enter
  k_steps
  exact ret _ _ _ (by assumption) (by assumption) (by assumption)
theorem ret_none {news : List (Addr × Obj)} {lx dlx d le : Addr} {o : Obj} {kvs : List (Int × Value)} {lim rp : Value} {ns k : Int} {cb c : Array UInt8} {t1 t2 t3 t4 t5 t6 t8 tk tc tb : Tok}
  (B : Below A₀ base outer h₀) (F : Fr h₀ L s.heap m) (X : (hd.heap_39 w.params).In h₀) (N : News h₀ L s.heap news) (T : Top p loose mean mg mb h₀) (hk : cs.kind = .function)
  (hd : dp + 60 < recursionLimit) (hu : un + 480 < cLine)
  (m1 : (lx, instObj 295 dlx) ∈ news) (m2 : (dlx, dictOf (lids w.params t1 t2 t3 t4 t5 t6 lim d le (.int ns t8) rp false) 6) ∈ news) (m3 : (d, o) ∈ news)
  (hd0 : o.IsDictOf (PySem.intKind PySem.Challenge.rw_rg0255_01.row.prog w) kvs) (hlo : (d == sysModules) = false) (hz : kvs.length ≤ 1000)
  (hk1 : k < ns) (hv : valueAt kvs k = none)
  (ret : ∀ h' tk', Fr h₀ L h' m → News h₀ L h' news → Q .none { s with heap := h', toks := tk' }) :
  wpAny (model PySem.Challenge.rw_rg0255_01.row.prog w) (ktrTop dp un gd cn cs L a ccd cl outer) (call (.ref 285) [.ref lx, .int k tk, .bytes cb tb]) Q E s := by
  revert X ret; k_fill; intro X ret
  obtain ⟨k9, n9, g9, c9, e9⟩ := cs
  dsimp only at hk
  subst hk
  refine wpAny_call ?_
  k_dflt k_enter
  k_steps
  exact ret _ _ (by assumption) (by assumption)
theorem ret_raise1 {news : List (Addr × Obj)} {lx dlx d le : Addr} {o : Obj} {kvs : List (Int × Value)} {lim rp : Value} {ns k : Int} {cb c : Array UInt8} {t1 t2 t3 t4 t5 t6 t8 tk tc tb : Tok}
  (B : Below A₀ base outer h₀) (F : Fr h₀ L s.heap m) (X : (hd.heap_39 w.params).In h₀) (N : News h₀ L s.heap news) (T : Top p loose mean mg mb h₀) (hk : cs.kind = .function)
  (hd : dp + 60 < recursionLimit) (hu : un + 480 < cLine)
  (m1 : (lx, instObj 295 dlx) ∈ news) (m2 : (dlx, dictOf (lids w.params t1 t2 t3 t4 t5 t6 lim d le (.int ns t8) rp false) 6) ∈ news) (m3 : (d, o) ∈ news)
  (hd0 : o.IsDictOf (PySem.intKind PySem.Challenge.rw_rg0255_01.row.prog w) kvs) (hlo : (d == sysModules) = false) (hz : kvs.length ≤ 1000)
  (hk1 : ns ≤ k)
  (ret : ∀ g' h' e dE es n tk' u1 u2, Fr h₀ L g' m → RaisedSN base g' (envX cn cs L a ccd cl :: outer) e (.ref 214) ((dE, dictOf es n) :: news) h' → DictIs h' e (some dE) → g'.UpToSlots h' → getL (Str.ofString "code") es = some (some (.int 10 u1)) → getL (Str.ofString "frame_type") es = some (some (.int 25 u2)) → E (.ref e) { s with heap := h', toks := tk' }) :
  wpAny (model PySem.Challenge.rw_rg0255_01.row.prog w) (ktrTop dp un gd cn cs L a ccd cl outer) (call (.ref 285) [.ref lx, .int k tk, .bytes cb tb]) Q E s := by
  revert X ret; k_fill; intro X ret
  obtain ⟨k9, n9, g9, c9, e9⟩ := cs
  dsimp only at hk
  subst hk
  refine wpAny_call ?_
  k_dflt k_enter
  k_steps
  refine' ret _ _ _ _ _ _ _ _ _ ?f ?r ?d ?u ?c1 ?c2
  case r => assumption
  case f => assumption
  case d => assumption
  case u => assumption
  case c1 => assumption
  case c2 => assumption
theorem ret_raise3 {news : List (Addr × Obj)} {lx dlx d le : Addr} {o : Obj} {kvs : List (Int × Value)} {lim rp : Value} {ns k : Int} {cb c : Array UInt8} {t1 t2 t3 t4 t5 t6 t8 tk tc tb : Tok}
  (B : Below A₀ base outer h₀) (F : Fr h₀ L s.heap m) (X : (hd.heap_39 w.params).In h₀) (N : News h₀ L s.heap news) (T : Top p loose mean mg mb h₀) (hk : cs.kind = .function)
  (hd : dp + 60 < recursionLimit) (hu : un + 480 < cLine)
  (m1 : (lx, instObj 295 dlx) ∈ news) (m2 : (dlx, dictOf (lids w.params t1 t2 t3 t4 t5 t6 lim d le (.int ns t8) rp false) 6) ∈ news) (m3 : (d, o) ∈ news)
  (hd0 : o.IsDictOf (PySem.intKind PySem.Challenge.rw_rg0255_01.row.prog w) kvs) (hlo : (d == sysModules) = false) (hz : kvs.length ≤ 1000)
  (hk1 : k < ns) (hv : valueAt kvs k = some (.bytes c tc)) (hne : (c.toList == cb.toList) = true)
  (ret : ∀ g' h' e dE es n tk' u1 u2, Fr h₀ L g' m → RaisedSN base g' (envX cn cs L a ccd cl :: outer) e (.ref 214) ((dE, dictOf es n) :: news) h' → DictIs h' e (some dE) → g'.UpToSlots h' → getL (Str.ofString "code") es = some (some (.int 10 u1)) → getL (Str.ofString "frame_type") es = some (some (.int 25 u2)) → E (.ref e) { s with heap := h', toks := tk' }) :
  wpAny (model PySem.Challenge.rw_rg0255_01.row.prog w) (ktrTop dp un gd cn cs L a ccd cl outer) (call (.ref 285) [.ref lx, .int k tk, .bytes cb tb]) Q E s := by
  revert X ret; k_fill; intro X ret
  obtain ⟨k9, n9, g9, c9, e9⟩ := cs
  dsimp only at hk
  subst hk
  refine wpAny_call ?_
  k_dflt k_enter
  k_steps
  refine' ret _ _ _ _ _ _ _ _ _ ?f ?r ?d ?u ?c1 ?c2
  case r => assumption
  case f => assumption
  case d => assumption
  case u => assumption
  case c1 => assumption
  case c2 => assumption
end
end Mine
end
section
namespace Mine
/-- retiring k goes through -/
def NCond (kvs : List (Int × Value)) (ns k : Int) (cb : Array UInt8) : Prop := k < ns ∧ (valueAt kvs k = none ∨ ∃ c tc, valueAt kvs k = some (.bytes c tc) ∧ (c.toList == cb.toList) = false)
/-- retiring k raises -/
def RCond (kvs : List (Int × Value)) (ns k : Int) (cb : Array UInt8) : Prop := ns ≤ k ∨ (k < ns ∧ ∃ c tc, valueAt kvs k = some (.bytes c tc) ∧ (c.toList == cb.toList) = true)
theorem without_none {kvs : List (Int × Value)} {k : Int} (h : valueAt kvs k = none) : without kvs k = kvs := by
  unfold without
  rw [List.filter_eq_self]
  intro q hq
  unfold valueAt at h
  rw [Option.map_eq_none_iff, List.find?_eq_none] at h
  have := h q hq
  simpa using this
section
variable {w : World} {p : Program} {loose : List Str} {mean : ExcName → Option Value} {mg mb : Str → Option Value} {dp un : Nat} {gd : Option (List Code)} {cn : Str} {cs : Scope} {a : Addr} {ccd : Value} {cl : List (Str × Addr)} {outer : List Env} {A₀ : Around} {base h₀ : Heap} {L : Addr} {m : Str → Option Value}
  {s : Shared} {Q E : Value → Shared → Prop}
theorem ret_ok {news : List (Addr × Obj)} {lx dlx d le : Addr} {o : Obj} {kvs : List (Int × Value)} {lim rp : Value} {ns k : Int} {cb : Array UInt8} {t1 t2 t3 t4 t5 t6 t8 tk tb : Tok} {g : Obj → List (Addr × Obj)}
  (B : Below A₀ base outer h₀) (F : Fr h₀ L s.heap m) (X : (hd.heap_39 w.params).In h₀) (N : News h₀ L s.heap news) (T : Top p loose mean mg mb h₀) (hk : cs.kind = .function)
  (hd : dp + 60 < recursionLimit) (hu : un + 480 < cLine)
  (m1 : (lx, instObj 295 dlx) ∈ news) (m2 : (dlx, dictOf (lids w.params t1 t2 t3 t4 t5 t6 lim d le (.int ns t8) rp false) 6) ∈ news) (m3 : (d, o) ∈ news)
  (hd0 : o.IsDictOf (PySem.intKind PySem.Challenge.rw_rg0255_01.row.prog w) kvs) (hlo : (d == sysModules) = false) (hz : kvs.length ≤ 1000)
  (U : UpdF d o news g) (hc : NCond kvs ns k cb)
  (ret : ∀ h' tk' o', Fr h₀ L h' m → News h₀ L h' (g o') → o'.IsDictOf (PySem.intKind PySem.Challenge.rw_rg0255_01.row.prog w) (without kvs k) → Q .none { s with heap := h', toks := tk' }) :
  wpAny (model PySem.Challenge.rw_rg0255_01.row.prog w) (ktrTop dp un gd cn cs L a ccd cl outer) (call (.ref 285) [.ref lx, .int k tk, .bytes cb tb]) Q E s := by
  obtain ⟨h1, h2 | ⟨c, tc, h2, h3⟩⟩ := hc
  · obtain ⟨pre, post, e, hg, _, _⟩ := U.split
    exact ret_none (c := #[]) (tc := 0) B F X N T hk hd hu m1 m2 m3 hd0 hlo hz h1 h2 fun h' tk' F' N' => ret h' tk' o F' (by rw [hg, ← e]; exact N') (by rw [without_none h2]; exact hd0)
  · exact ret_pop B F X N T hk hd hu m1 m2 m3 hd0 hlo hz U h1 h2 h3 ret
theorem ret_raise {news : List (Addr × Obj)} {lx dlx d le : Addr} {o : Obj} {kvs : List (Int × Value)} {lim rp : Value} {ns k : Int} {cb : Array UInt8} {t1 t2 t3 t4 t5 t6 t8 tk tb : Tok}
  (B : Below A₀ base outer h₀) (F : Fr h₀ L s.heap m) (X : (hd.heap_39 w.params).In h₀) (N : News h₀ L s.heap news) (T : Top p loose mean mg mb h₀) (hk : cs.kind = .function)
  (hd : dp + 60 < recursionLimit) (hu : un + 480 < cLine)
  (m1 : (lx, instObj 295 dlx) ∈ news) (m2 : (dlx, dictOf (lids w.params t1 t2 t3 t4 t5 t6 lim d le (.int ns t8) rp false) 6) ∈ news) (m3 : (d, o) ∈ news)
  (hd0 : o.IsDictOf (PySem.intKind PySem.Challenge.rw_rg0255_01.row.prog w) kvs) (hlo : (d == sysModules) = false) (hz : kvs.length ≤ 1000)
  (hc : RCond kvs ns k cb)
  (ret : ∀ g' h' e dE es n tk' u1 u2, Fr h₀ L g' m → RaisedSN base g' (envX cn cs L a ccd cl :: outer) e (.ref 214) ((dE, dictOf es n) :: news) h' → DictIs h' e (some dE) → g'.UpToSlots h' → getL (Str.ofString "code") es = some (some (.int 10 u1)) → getL (Str.ofString "frame_type") es = some (some (.int 25 u2)) → E (.ref e) { s with heap := h', toks := tk' }) :
  wpAny (model PySem.Challenge.rw_rg0255_01.row.prog w) (ktrTop dp un gd cn cs L a ccd cl outer) (call (.ref 285) [.ref lx, .int k tk, .bytes cb tb]) Q E s := by
  rcases hc with h1 | ⟨h1, c, tc, h2, h3⟩
  · exact ret_raise1 (c := #[]) (tc := 0) B F X N T hk hd hu m1 m2 m3 hd0 hlo hz h1 ret
  · exact ret_raise3 B F X N T hk hd hu m1 m2 m3 hd0 hlo hz h1 h2 h3 ret
end
section
variable {w : World} {p : Program} {loose : List Str} {mean : ExcName → Option Value} {mg mb : Str → Option Value} {dp un : Nat} {gd : Option (List Code)} {cn : Str} {cs : Scope} {a : Addr} {ccd : Value} {cl : List (Str × Addr)} {outer : List Env} {A₀ : Around} {base h₀ : Heap} {L : Addr} {m : Str → Option Value}
  {s : Shared} {Q E : Value → Shared → Prop}
theorem tpf_ok {news : List (Addr × Obj)} {x dx fr rx drx lx dlx d le : Addr} {es er : List DictEntry} {n nr : Nat} {o : Obj} {kvs : List (Int × Value)} {lim rp : Value} {ns k : Int} {cb : Array UInt8} {t1 t2 t3 t4 t5 t6 t8 tk tb tf tw tn : Tok} {g : Obj → List (Addr × Obj)}
  (B : Below A₀ base outer h₀) (F : Fr h₀ L s.heap m) (X : (hd.heap_39 w.params).In h₀) (N : News h₀ L s.heap news) (T : Top p loose mean mg mb h₀) (hk : cs.kind = .function)
  (hd : dp + 80 < recursionLimit) (hu : un + 600 < cLine)
  (x1 : (x, instObj 470 dx) ∈ news) (x2 : (dx, dictOf es n) ∈ news) (x3 : (fr, tupObj [.str (Str.ofString "retire_connection_id") tf, .int k tk]) ∈ news) (x4 : (rx, instObj 323 drx) ∈ news) (x5 : (drx, dictOf er nr) ∈ news)
  (g4 : getL (Str.ofString "local") es = some (some (.ref lx))) (k2 : getL (Str.ofString "dcid") er = some (some (.bytes cb tb)))
  (m1 : (lx, instObj 295 dlx) ∈ news) (m2 : (dlx, dictOf (lids w.params t1 t2 t3 t4 t5 t6 lim d le (.int ns t8) rp false) 6) ∈ news) (m3 : (d, o) ∈ news)
  (hd0 : o.IsDictOf (PySem.intKind PySem.Challenge.rw_rg0255_01.row.prog w) kvs) (hlo : (d == sysModules) = false) (hz : kvs.length ≤ 1000)
  (U : UpdF d o news g) (hc : NCond kvs ns k cb)
  (ret : ∀ h' tk' o', Fr h₀ L h' m → News h₀ L h' (g o') → o'.IsDictOf (PySem.intKind PySem.Challenge.rw_rg0255_01.row.prog w) (without kvs k) → Q .none { s with heap := h', toks := tk' }) :
  wpAny (model PySem.Challenge.rw_rg0255_01.row.prog w) (ktrTop dp un gd cn cs L a ccd cl outer) (call (.ref 238) [.ref x, .ref fr, .ref rx, .str (Str.ofString "way") tw, .int 9 tn]) Q E s := by
  k_with_none
  k_with "call ref" => (k_here; (with_reducible show wpAny _ _ (call (Value.ref 285) _) _ _ _); k_dflt (refine' ret_ok ?B ?F ?X ?N ?T ?hk ?hd ?hu ?m1 ?m2 ?m3 ?hd0 ?hlo ?hz ?U ?hc ?_; (case B => k_asm); (case F => k_asm); (case X => k_asm); (case N => k_asm); (case T => k_asm); (case hk => exact rfl); (case hd => ktr_room); (case hu => ktr_units); (case m1 => k_mem); (case m2 => k_mem); (case U => assumption); (case m3 => assumption); (case hd0 => assumption); (case hlo => assumption); (case hz => assumption); (case hc => assumption)); (intro h_k9' tk_k9' o_k9' F_k9' N_k9' hd_k9'; (try dsimp only at N_k9'); (try k_sweep)))
  k_with "call ref" => (k_here; (with_reducible show wpAny _ _ (call (Value.ref 285) _) _ _ _); k_dflt (refine' ret_raise ?B ?F ?X ?N ?T ?hk ?hd ?hu ?m1 ?m2 ?m3 ?hd0 ?hlo ?hz ?hc ?_; (case B => k_asm); (case F => k_asm); (case X => k_asm); (case N => k_asm); (case T => k_asm); (case hk => exact rfl); (case hd => ktr_room); (case hu => ktr_units); (case m1 => k_mem); (case m2 => k_mem); (case m3 => assumption); (case hd0 => assumption); (case hlo => assumption); (case hz => assumption); (case hc => assumption)); (intro g_k9' h_k9' e_k9' dE_k9' es_k9' n_k9' tk_k9' u1_k9' u2_k9' F_k9' R_k9' D_k9' U_k9' c1_k9' c2_k9'))
  k_with "leaving ref" => (k_here; k_dflt (refine' leave_on ?K ?F ?R ?D ?U ?_; (case R => assumption); (case D => assumption); (case F => assumption); (case K => assumption); (case U => assumption)); intro h_k9' R_k9' D_k9' U_k9'; (try dsimp only))
  revert X ret; k_fill; intro X ret
  obtain ⟨k9, n9, g9, c9, e9⟩ := cs
  dsimp only at hk
  subst hk
  refine wpAny_call ?_
  k_dflt k_enter
  k_steps
  exact ret _ _ _ (by assumption) (by assumption) (by assumption)
theorem tpf_raise {news : List (Addr × Obj)} {x dx fr rx drx lx dlx d le : Addr} {es er : List DictEntry} {n nr : Nat} {o : Obj} {kvs : List (Int × Value)} {lim rp : Value} {ns k : Int} {cb : Array UInt8} {t1 t2 t3 t4 t5 t6 t8 tk tb tf tw tn : Tok}
  (B : Below A₀ base outer h₀) (F : Fr h₀ L s.heap m) (X : (hd.heap_39 w.params).In h₀) (N : News h₀ L s.heap news) (T : Top p loose mean mg mb h₀) (hk : cs.kind = .function)
  (hd : dp + 80 < recursionLimit) (hu : un + 600 < cLine)
  (x1 : (x, instObj 470 dx) ∈ news) (x2 : (dx, dictOf es n) ∈ news) (x3 : (fr, tupObj [.str (Str.ofString "retire_connection_id") tf, .int k tk]) ∈ news) (x4 : (rx, instObj 323 drx) ∈ news) (x5 : (drx, dictOf er nr) ∈ news)
  (g4 : getL (Str.ofString "local") es = some (some (.ref lx))) (k2 : getL (Str.ofString "dcid") er = some (some (.bytes cb tb)))
  (m1 : (lx, instObj 295 dlx) ∈ news) (m2 : (dlx, dictOf (lids w.params t1 t2 t3 t4 t5 t6 lim d le (.int ns t8) rp false) 6) ∈ news) (m3 : (d, o) ∈ news)
  (hd0 : o.IsDictOf (PySem.intKind PySem.Challenge.rw_rg0255_01.row.prog w) kvs) (hlo : (d == sysModules) = false) (hz : kvs.length ≤ 1000)
  (hc : RCond kvs ns k cb)
  (ret : ∀ g' h' e dE es n tk' u1 u2, Fr h₀ L g' m → RaisedSN base g' (envX cn cs L a ccd cl :: outer) e (.ref 214) ((dE, dictOf es n) :: news) h' → DictIs h' e (some dE) → g'.UpToSlots h' → getL (Str.ofString "code") es = some (some (.int 10 u1)) → getL (Str.ofString "frame_type") es = some (some (.int 25 u2)) → E (.ref e) { s with heap := h', toks := tk' }) :
  wpAny (model PySem.Challenge.rw_rg0255_01.row.prog w) (ktrTop dp un gd cn cs L a ccd cl outer) (call (.ref 238) [.ref x, .ref fr, .ref rx, .str (Str.ofString "way") tw, .int 9 tn]) Q E s := by
  revert X ret; k_fill; intro X ret
  obtain ⟨k9, n9, g9, c9, e9⟩ := cs
  dsimp only at hk
  subst hk
  refine wpAny_call ?_
  k_dflt k_enter
  k_steps
  refine' ret _ _ _ _ _ _ _ _ _ ?f ?r ?d ?u ?c1 ?c2
  case r => assumption
  case f => assumption
  case d => assumption
  case u => assumption
  case c1 => assumption
  case c2 => assumption
end
end Mine
end
section
open PySem.Spec
namespace Mine
section
variable {prog : Program} {w : World} {A₀ : Around} {E : Value → Shared → Prop} {s' : Shared} {base g g₀ G : Heap} {outer : List Env} {L a e C : Addr} {cl : List (Str × Addr)} {m : Str → Option Value} {name : Str} {scope : Scope} {cd : Value}
  {n : Str} {b₀ : Stmt} {suite : List Stmt} {pos np : Pos} {rest : List ExceptHandler} {Q : Flow → Shared → Prop} {news : List (Addr × Obj)} {KF : Frag} {dd : Option Addr}
  {p : Program} {loose : List Str} {mean : ExcName → Option Value} {mg mb : Str → Option Value} {x : Str}
theorem caught_QX (R : RaisedSN base G (envX name scope L a cd cl :: outer) e (.ref C) news s'.heap) (Dd : DictIs s'.heap e dd) (F : Fr g L G m) (K : Below A₀ base outer g) (hsm : G.UpToSlots s'.heap) (XB : KF.In base) (TB : Top p loose mean mg mb base)
    (D : KtsDicts (outer.filterMap (·.frame)) g) (T0 : KtsTurn (outer.filterMap (·.frame)) g₀ g)
    (ex : nsIn KF mainGlobals x = some (some (.ref C))) (q : ktsIn KF C "BaseException" = true)
    (k : ∀ h' g' oe tk, KtsTurn (outer.filterMap (·.frame)) g₀ g' → Fr g' L h' (fun y => if y = n then some (.ref e) else m y) → News g' L h' ((e, oe) :: news) → oe.cls = .ref C → oe.dict = dd → notCls oe = true → Below A₀ base outer g' → KF.In g' → Top p loose mean mg mb g' → KtsDicts (outer.filterMap (·.frame)) g' →
      wpAny (model prog w) ((A₀.deeper (envX name scope L a cd cl)).mark (some (.ref e))) (execs (b₀ :: suite) (envX name scope L a cd cl))
        (fun f s₄ => wpAny (model prog w) (A₀.deeper (envX name scope L a cd cl)) (do bindName (envX name scope L a cd cl) n .none; unbindBehindTheSuite (envX name scope L a cd cl) n pos) (fun _ s₅ => Q f s₅) E s₄)
        (AsSuiteRaised (model prog w) ((A₀.deeper (envX name scope L a cd cl)).mark (some (.ref e))) (envX name scope L a cd cl) n pos (notedBy (model prog w) ((A₀.deeper (envX name scope L a cd cl)).mark (some (.ref e))) (envX name scope L a cd cl) (cameBackBy (model prog w) (A₀.deeper (envX name scope L a cd cl)) (envX name scope L a cd cl) E)))
        { s' with heap := h', toks := tk })
    (hk : scope.kind = .function := by rfl) (hlo : (envX name scope L a cd cl).kindOf n = some .local := by rfl) (hx : (envX name scope L a cd cl).kindOf x = some .globalImplicit := by rfl) (hd : (x == ("__debug__" : Str)) = false := by decide) :
    wpAny (model prog w) (A₀.deeper (envX name scope L a cd cl)) (noteFrame (.ref e) (envX name scope L a cd cl))
      (fun _ s₂ => wpAny (model prog w) (A₀.deeper (envX name scope L a cd cl)) (setFlight (.ref e) none) (fun _ s₃ =>
        wpAny (model prog w) (A₀.deeper (envX name scope L a cd cl)) (handleBy (.ref e) (envX name scope L a cd cl) (.ExceptHandler (some (.Name x np)) (some n) (b₀ :: suite) pos :: rest)) Q E s₃) E s₂) E s' := by
  obtain ⟨B, a0, hB, hBG, hl, hfl⟩ := R
  have hL : B.get? L = none := by
    obtain ⟨_, ⟨L', _, hf, hn', _⟩, _⟩ := hfl.2.2.1
    obtain rfl : L = L' := Option.some.inj hf
    exact hn'
  refine tame_any (tame_note _ _) Dd (wpAny_looks_onW (Around.frames_deeper K.stack) rfl hfl fun h₄ hheld₄ hsm₄ D₄ => ?_)
  refine tame_any (tame_setFlight _ _) D₄ (wpAny_landsW hheld₄ fun h₅ hheld hsm₅' D₅ => ?_)
  have hsm₅ := hsm₄.trans hsm₅'
  obtain ⟨g₅, T₅, F₅, K₅⟩ := kts_ground (name := name) (scope := scope) (a := a) (cd := cd) K F hBG hheld.1 (hsm.trans hsm₅)
  have X₅ : KF.In g₅ := XB.keeps K₅.stays
  have P₅ : TopRead p loose mg mb g₅ := topRead_of (TB.keeps K₅.stays)
  obtain ⟨ob, hob, hobc⟩ := hheld.there
  obtain ⟨nm, q', N, bs, bm, hdct, sn, sub, ab, col, dd', k0, k1, k2, k3, k5, newId, hC, hbase, hbT⟩ := kts_cls X₅ q
  have hC₅ := F₅.keep _ _ hC
  refine wpAny_handleBy_cons (codeAny_handlers_test (nameX_K F₅ X₅ P₅ ex ?_ hk hx hd)) (by intro q; cases q)
  refine wpAny_excMatches_sub_self hC₅ hob hobc hbase (codeAny_handlers_suite_as ?_)
  refine tame_any (tame_setFlight _ _) D₅ (lands_againW hheld fun h₆ hfl₆ hsm₆ D₆ => ?_)
  obtain ⟨g₆, T₆, F₆, K₆⟩ := kts_ground (name := name) (scope := scope) (a := a) (cd := cd) K F hBG hfl₆.1 ((hsm.trans hsm₅).trans hsm₆)
  obtain ⟨oe, ws, hoe, hoec, hoed, hoe0⟩ := hfl₆.first
  have hdict : oe.dict = dd := by
    obtain ⟨o', ho', hdd⟩ := D₆
    rw [hoe] at ho'
    cases ho'
    exact hdd
  have ne₆ : g₆.get? e = none := T₆.none_ _ (kts_fresh (name := name) (scope := scope) (a := a) (cd := cd) F hBG hfl₆.2.1 fun o ho m => by
    obtain ⟨_, o', ho', hd⟩ := K.frames.mem m
    rw [ho] at ho'
    cases ho'
    obtain ⟨sl, hs⟩ := ((hsm.trans hsm₅).trans hsm₆) _ _ (F.keep _ _ ho) hd
    rw [hoe] at hs
    cases hs
    exact hd _ hoed)
  have Nl : News g₆ L h₆ news := fun q hq => ⟨hfl₆.1 _ _ (hl q hq).1, (fun z => by have := (hl q hq).1; rw [z, hL] at this; cases this), T₆.none_ _ (kts_none F.keep (hl q hq).2.1)⟩
  have N₆ := News.more F₆ Nl hoe (fun es n q => by rw [hoed] at q; cases q) ne₆
  have X₆ : KF.In g₆ := XB.keeps K₆.stays
  have P₆ : Top p loose mean mg mb g₆ := TB.keeps K₆.stays
  have D₆' : KtsDicts (outer.filterMap (·.frame)) g₆ := D.turn T₆
  refine storeX_L F₆ N₆ (fun h₇ F₇ N₇ => ?_) hk hlo
  exact k h₇ g₆ oe _ (T0.trans T₆) F₇ N₇ hoec hdict (by unfold notCls; rw [hoed]) K₆ X₆ P₆ D₆'
theorem goes_X {M : Model} {A : Around} {s : Shared} {n : Str} {pos : Pos} {h₀ : Heap} {L a : Addr} {m : Str → Option Value} {name : Str} {scope : Scope} {cd : Value} {cl : List (Str × Addr)} {news : List (Addr × Obj)} {E : Value → Shared → Prop} {Q : Unit → Shared → Prop} (F : Fr h₀ L s.heap m) (N : News h₀ L s.heap news)
    (h : ∀ h' v, Fr h₀ L h' (fun x => if x = n then v else m x) → News h₀ L h' news → Q () { s with heap := h', toks := s.toks + 1 })
    (hk : scope.kind = .function := by rfl) (hl : (envX name scope L a cd cl).kindOf n = some .local := by rfl) :
    wpAny M A (do bindName (envX name scope L a cd cl) n .none; unbindBehindTheSuite (envX name scope L a cd cl) n pos) Q E s :=
  wpAny_nameGoes_keeps hl F.ns (by show (scope.kind == .class || (scope.kind == .module && L != mainGlobals)) = false; rw [hk]; rfl) fun h' v hn hs => h h' v (F.set hn hs) (N.set hs)
end
section
variable {prog : Program} {w : World} {A₀ A : Around} {s : Shared} {base h₀ : Heap} {L a : Addr} {m : Str → Option Value} {cn : Str} {cs : Scope} {ccd : Value} {news : List (Addr × Obj)} {K : Frag} {p : Program} {loose : List Str} {mean : ExcName → Option Value} {mg mb : Str → Option Value}
    {R : Result → Shared → Prop} {name qual : Str} {params : Arguments} {body : List Stmt} {scope : Scope} {dV kV doc pm cdv ct oc : Value} {an od : Option Addr} {osl : Array (Option Value)} {f : Addr} {args : Args} {binds : List (Str × Value)}
/-- entering a def with cells, from the outermost frame, where something is caught -/
theorem code_defCS0 (B : Below A₀ base [] h₀) (F : Fr h₀ L s.heap m) (X₀ : K.In h₀) (N : News h₀ L s.heap news) (T : Top p loose mean mg mb h₀) (hA : A.frames = some [envOf cn cs L a ccd])
    (ho : K.lookup f = some ⟨oc, od, .func (fnOf name qual params body scope dV kV doc pm an cdv ct), osl⟩) (hcd : codeIn K cdv qual = true) (hroom : A.depth < recursionLimit)
    (hbind : BindsTo s (fnOf name qual params body scope dV kV doc pm an cdv ct) args binds) (hkind : (binds.all fun y => scope.names.lookup y.1 == some .local || scope.names.lookup y.1 == some .cell) = true)
    (hnd : ((cellsFrom 0 scope.names []).map (·.1)).Nodup)
    (h : ∀ g L' h₁ tk cells, Fr h₀ L g m → Fr g L' h₁ (bindL (envOfC qual scope L' f cdv).kindOf binds fun _ => none) → News g L' h₁ (cells ++ news) →
      CellsAre (bindC (envOfC qual scope L' f cdv).kindOf binds fun _ => none) (cellsFrom (L' + 1) scope.names []) cells → Below A base [envOf cn cs L a ccd] g → K.In g → Top p loose mean mg mb g → KtsDicts ([envOf cn cs L a ccd].filterMap (·.frame)) g → (∀ p ∈ news, p.1 < L') →
      wpAny (model prog w) (A.deeper (envOfC qual scope L' f cdv)) (execs body (envOfC qual scope L' f cdv))
        (fun fl s' => LeaveS0 ([envOf cn cs L a ccd].filterMap (·.frame)) h₀ L m g R (match fl with | .ret v => v | _ => .none) s')
        (fun e s' => wpAny (model prog w) (A.deeper (envOfC qual scope L' f cdv)) (leaving (envOfC qual scope L' f cdv) e) (fun _ s'' => R (.error e) s'') (fun e' s'' => R (.error e') s'') s')
        { s with heap := h₁, toks := tk })
    (hck : cs.kind = .function) (hco : scope.isCoroutine = false) (hgen : scope.isGenerator = false) (hk : scope.kind = .function) : codeAny (model prog w) A (.call (.ref f) args) R s := by
  have X := X₀.keeps F.keep
  obtain ⟨oL, es, ep, hLg, hLd, hN, hNs, st, B₂⟩ := kts_enter B F N hA hck
  refine codeAny_call_function hroom (X _ _ ho) rfl hco hgen rfl (codeRec_of X hcd) (hbind _ _ _ _ ?_)
  refine wpAny_newFunctionEnv_cells hk (kindsX hkind _) fun env' he s' x => ?_
  subst he
  refine ⟨(T.nolimit.keeps F.keep).keeps x.toInCall.keep, codeAny_func ?_⟩
  obtain ⟨h₁, tk, rfl, _⟩ := x.done
  have hk₁ := x.toInCall.keep
  obtain ⟨cells, NC, Y⟩ := Cl.news (h₀ := s.heap) (Nat.le_refl _) fun n c hm => ⟨x.cell n c (lookup_of_mem_nodup (cellsFrom_names scope.names 0 (s.heap.objs.size + 1) [] [] rfl ▸ hnd) hm), x.above n c hm⟩
  refine wpAny_mono (h _ s.heap.objs.size h₁ tk cells ⟨hN _ hLg, st, F.above⟩ ⟨x.toInCall.ns, fun b o e => hk₁ b o (of_hideAll _ e), Nat.le_of_eq (hideAll_size _ _)⟩ (fun p hp => ?_) Y B₂ (X₀.keeps st) (T.keeps st) (fun b hb => by
      rcases kts_mem hb with rfl | z
      · exact ⟨oL, es, ep, hLg, hLd⟩
      · simp at z) (fun p hp => Heap.lt_size (N p hp).1)) (fun fl s' hl => ?_) fun _ _ y => y
  · rcases List.mem_append.mp hp with hp | hp
    · refine ⟨(NC p hp).1, (NC p hp).2.1, ?_⟩
      cases q : (hideAll s.heap (news.map (·.1))).get? p.1 with
      | none => rfl
      | some o => have := of_hideAll _ q; rw [(NC p hp).2.2] at this; cases this
    · exact ⟨hk₁ _ _ (N p hp).1, Nat.ne_of_lt (Heap.lt_size (N p hp).1), hideAll_none _ (List.mem_map_of_mem hp)⟩
  obtain ⟨g', L', m', news', T', F', N', k⟩ := hl
  have nL₀ : h₀.get? L = none := kts_self F
  obtain ⟨sl, hs⟩ := T'.up hLg
  refine k ⟨hNs sl _ (F'.keep _ _ hs), fun b o e => F'.keep b o (T'.other b o (st b o e) (fun q => by
    rcases kts_mem q with z | z
    · rw [z, nL₀] at e
      cases e
    · simp at z)), F.above⟩ fun p hp => ⟨(N' p hp).1, fun q => ?_, ?_⟩
  · have := (N' p hp).2.2; rw [q, hs] at this; cases this
  · cases q : h₀.get? p.1 with
    | none => rfl
    | some o =>
      obtain ⟨sl', hs'⟩ := T'.up (st _ _ q)
      have := (N' p hp).2.2
      rw [hs'] at this
      cases this
end
end Mine
end
section
namespace Mine
def rrBody : List Stmt := match PySem.Challenge.pw_rg0255_01.theDef (Str.ofString "_law_retired_right") with
  | some (_, b, _) => b
  | none => []
def rrSc : Scope := match PySem.Challenge.pw_rg0255_01.theDef (Str.ofString "_law_retired_right") with
  | some (_, _, sc) => sc
  | none => { kind := .function, names := [], isGenerator := false, isCoroutine := false }
def rrFor : Stmt := rrBody.getD 3 (.Pass ⟨0, 0, 0, 0⟩)
def forBody : Stmt → List Stmt
  | .For _ _ b _ _ => b
  | _ => []
def rrTurn : List Stmt := forBody rrFor
def rrInner : Stmt := rrTurn.getD 1 (.Pass ⟨0, 0, 0, 0⟩)
def rrTry : Stmt := (forBody rrInner).getD 0 (.Pass ⟨0, 0, 0, 0⟩)
theorem UpdF.mem {d : Addr} {o : Obj} {l : List (Addr × Obj)} {g : Obj → List (Addr × Obj)} (U : UpdF d o l g) : (d, o) ∈ l := by
  obtain ⟨pre, post, e, _⟩ := U.split
  rw [e]
  exact List.mem_append_right _ List.mem_cons_self
theorem UpdF.skip {h₀ h : Heap} {L d : Addr} {o : Obj} {p : Addr × Obj} {l : List (Addr × Obj)} {g : Obj → List (Addr × Obj)} (N : News h₀ L h (p :: l)) (hc : p.2.cls ≠ o.cls) (U : UpdF d o l g) : UpdF d o (p :: l) (fun o' => p :: g o') := by
  refine UpdF.tail (fun e => hc ?_) U
  have h1 := (N p List.mem_cons_self).1
  have h2 := (N (d, o) (List.mem_cons_of_mem _ (UpdF.mem U))).1
  dsimp only at h2
  rw [e, h2] at h1
  cases h1
  rfl
theorem news_tail {h₀ h : Heap} {L : Addr} {p : Addr × Obj} {l : List (Addr × Obj)} (N : News h₀ L h (p :: l)) : News h₀ L h l := fun q hq => N q (List.mem_cons_of_mem _ hq)
theorem UpdF.skip4 {h₀ h : Heap} {L d : Addr} {o : Obj} {p q r t : Addr × Obj} {l : List (Addr × Obj)} {g : Obj → List (Addr × Obj)} (N : News h₀ L h (p :: q :: r :: t :: l)) (U : UpdF d o l g) (c1 : p.2.cls ≠ o.cls) (c2 : q.2.cls ≠ o.cls) (c3 : r.2.cls ≠ o.cls) (c4 : t.2.cls ≠ o.cls) :
    UpdF d o (p :: q :: r :: t :: l) (fun o' => p :: q :: r :: t :: g o') :=
  UpdF.skip N c1 (UpdF.skip (news_tail N) c2 (UpdF.skip (news_tail (news_tail N)) c3 (UpdF.skip (news_tail (news_tail (news_tail N))) c4 U)))
theorem news_drop3 {h₀ h : Heap} {L : Addr} {p a b c : Addr × Obj} {l : List (Addr × Obj)} (N : News h₀ L h (p :: a :: b :: c :: l)) : News h₀ L h (p :: l) := fun q hq => N q (by
  rcases List.mem_cons.mp hq with h | h
  · exact h ▸ List.mem_cons_self
  · exact List.mem_cons_of_mem _ (List.mem_cons_of_mem _ (List.mem_cons_of_mem _ (List.mem_cons_of_mem _ h))))
theorem fr_twice {h₀ h : Heap} {L : Addr} {m : Str → Option Value} {x : Str} {u v : Option Value} (F : Fr h₀ L h (fun y => if y = x then v else (fun z => if z = x then u else m z) y)) : Fr h₀ L h (fun y => if y = x then v else m y) := by
  have e : (fun y => if y = x then v else (fun z => if z = x then u else m z) y) = fun y => if y = x then v else m y := by
    funext y
    by_cases h : y = x
    · simp only [h, if_true]
    · simp only [h, if_false]
  exact e ▸ F
def UpdFF (d : Addr) (o : Obj) (ga : Obj → List (Addr × Obj)) (gg : Obj → Obj → List (Addr × Obj)) : Prop := ∀ o', UpdF d o (ga o') (gg o')
theorem UpdFF.at {d : Addr} {o : Obj} {ga : Obj → List (Addr × Obj)} {gg : Obj → Obj → List (Addr × Obj)} (h : UpdFF d o ga gg) (o' : Obj) : UpdF d o (ga o') (gg o') := h o'
theorem app_F {w : World} {A : Around} {E : Value → Shared → Prop} {s : Shared} {h₀ : Heap} {L D : Addr} {m : Str → Option Value} {news : List (Addr × Obj)} {g : Obj → List (Addr × Obj)} {ws : List Value} {n : Nat} {x : Value} {Q : Value → Shared → Prop} (F : Fr h₀ L s.heap m) (N : News h₀ L s.heap news) (U : UpdF D (listOf ws.toArray n) news g) (hsz : ws.length ≤ 200)
    (h : ∀ h', Fr h₀ L h' m → News h₀ L h' (g (listOf (ws ++ [x]).toArray (n + 1))) → Q .none { s with heap := h' }) : wpAny (model PySem.Challenge.rw_rg0255_01.row.prog w) A (call (.builtin "list.append") [.ref D, x]) Q E s := by
  have e : listOf (ws ++ [x]).toArray (n + 1) = listOf (ws.toArray.push x) (n + 1) := by rw [List.push_toArray]
  rw [e] at h
  exact append_K F N (updF_upd U) h (Nat.le_trans (by simpa using hsz) (by rw [PySem.sizeLine_eq]; omega))
theorem quic_get {w : World} {A : Around} {E : Value → Shared → Prop} {s : Shared} {h₀ : Heap} {L x dx : Addr} {m : Str → Option Value} {news : List (Addr × Obj)} {ox : Obj} {es : List DictEntry} {n : Nat} {name : Str} {v : Value} {expr : Bool} {Q : Value → Shared → Prop}
    (F : Fr h₀ L s.heap m) (X : (Mine.hd.heap_39 w.params).In h₀) (N : News h₀ L s.heap news) (hx : (x, ox) ∈ news) (hcl : ox.cls = .ref 214) (hno : notCls ox = true) (hd9 : ox.dict = some dx) (hdx : (dx, dictOf es n) ∈ news)
    (ht : findIn (Mine.hd.heap_39 w.params) (.ref 214) name = some none) (hl : getL name es = some (some v)) (hh : handedIn v = true) (h : Q v { s with toks := s.toks + 1 }) : wpAny (model PySem.Challenge.rw_rg0255_01.row.prog w) A (getAttr (.ref x) name expr) Q E s :=
  get_exc F X N hx hcl hno hd9 hdx (by rfl) (by rfl) (by rfl) (by rfl) ht hl hh h
section
variable {w : World} {p : Program} {loose : List Str} {mean : ExcName → Option Value} {mg mb : Str → Option Value} {dp un : Nat} {gd : Option (List Code)} {cn : Str} {cs : Scope} {a : Addr} {ccd : Value} {cl : List (Str × Addr)} {outer : List Env} {A₀ : Around} {base h₀ : Heap} {L : Addr} {m : Str → Option Value}
  {s : Shared} {Q E : Value → Shared → Prop}
theorem try_ok {news : List (Addr × Obj)} {sc : Scope} {fs : Stmt} {La x dx rx drx lx dlx d le wl : Addr} {es er : List DictEntry} {n nr nw : Nat} {o : Obj} {kvs : List (Int × Value)} {ws : List Value} {lim rp : Value} {ns k : Int} {cb : Array UInt8} {t1 t2 t3 t4 t5 t6 t8 tk tb : Tok} {g₀ : Heap} {Q : Flow → Shared → Prop} {ga : Obj → List (Addr × Obj)} {gg : Obj → Obj → List (Addr × Obj)}
  (B : Below (ktrTop dp un gd cn cs La a ccd cl outer) base (envX cn cs La a ccd cl :: outer) h₀) (F : Fr h₀ L s.heap m) (X : (Mine.hd.heap_39 w.params).In h₀)
  (N : News h₀ L s.heap news) (T : Top p loose mean mg mb h₀) (hk : cs.kind = .function) (XB : (Mine.hd.heap_39 w.params).In base) (TB : Top p loose mean mg mb base)
  (D : KtsDicts ((envX cn cs La a ccd cl :: outer).filterMap (·.frame)) h₀) (T0 : KtsTurn ((envX cn cs La a ccd cl :: outer).filterMap (·.frame)) g₀ h₀)
  (hd : dp + 120 < recursionLimit) (hu : un + 900 < cLine)
  (x1 : (x, instObj 470 dx) ∈ news) (x2 : (dx, dictOf es n) ∈ news) (x4 : (rx, instObj 323 drx) ∈ news) (x5 : (drx, dictOf er nr) ∈ news)
  (g4 : getL (Str.ofString "local") es = some (some (.ref lx))) (k2 : getL (Str.ofString "dcid") er = some (some (.bytes cb tb)))
  (m1 : (lx, instObj 295 dlx) ∈ news) (m2 : (dlx, dictOf (lids w.params t1 t2 t3 t4 t5 t6 lim d le (.int ns t8) rp false) 6) ∈ news) (m3 : (d, o) ∈ news)
  (hd0 : o.IsDictOf (PySem.intKind PySem.Challenge.rw_rg0255_01.row.prog w) kvs) (hlo : (d == sysModules) = false) (hz : kvs.length ≤ 1000)
  (hm1 : m (Str.ofString "conn") = some (.ref x)) (hm2 : m (Str.ofString "raw") = some (.ref rx)) (hm3 : m (Str.ofString "number") = some (.int k tk)) (hm4 : m (Str.ofString "wanted") = some (.ref wl)) (hfs : fs = rrTry) (hsc : sc = rrSc) (hw : ws.length ≤ 100)
  (U : UpdF d o news ga) (V : UpdFF wl (listOf ws.toArray nw) ga gg) (hc : NCond kvs ns k cb)
  (ret : ∀ h' tk' o' nw', Fr h₀ L h' m → News h₀ L h' (gg o' (listOf (ws ++ [Value.none]).toArray nw')) → o'.IsDictOf (PySem.intKind PySem.Challenge.rw_rg0255_01.row.prog w) (without kvs k) → Q .next { s with heap := h', toks := tk' }) :
  wpAny (model PySem.Challenge.rw_rg0255_01.row.prog w) ((ktrTop dp un gd cn cs La a ccd cl outer).deeper (envOfC (Str.ofString "_law_retired_right") sc L 500 (.ref 499))) (exec fs (envOfC (Str.ofString "_law_retired_right") sc L 500 (.ref 499))) Q E s := by
  k_with_none
  k_with "call builtin:list.append" => (k_here; k_dflt (refine' app_F ?F ?N ?U ?z ?_; (case F => k_asm); (case N => k_asm); (case U => ((first | assumption | ((refine' UpdF.skip (by assumption) ?c (by assumption)); (case c => ((intro h_k9; first | exact absurd (Value.type.inj h_k9) (by decide) | (rw [(by assumption : Obj.cls _ = Value.ref 214)] at h_k9; cases h_k9))))) | ((refine' UpdF.skip4 (by assumption) (by assumption) ?c1 ?c2 ?c3 ?c4); (case c1 => ((intro h_k9; first | exact absurd (Value.type.inj h_k9) (by decide) | (rw [(by assumption : Obj.cls _ = Value.ref 214)] at h_k9; cases h_k9)))); (case c2 => ((intro h_k9; first | exact absurd (Value.type.inj h_k9) (by decide) | (rw [(by assumption : Obj.cls _ = Value.ref 214)] at h_k9; cases h_k9)))); (case c3 => ((intro h_k9; first | exact absurd (Value.type.inj h_k9) (by decide) | (rw [(by assumption : Obj.cls _ = Value.ref 214)] at h_k9; cases h_k9)))); (case c4 => ((intro h_k9; first | exact absurd (Value.type.inj h_k9) (by decide) | (rw [(by assumption : Obj.cls _ = Value.ref 214)] at h_k9; cases h_k9)))))))); (case z => omega)); intro h_k9' F_k9' N_k9'; (try dsimp only at N_k9'); (try k_sweep))
  k_with "exec Try" => (k_here; k_dflt (refine wpAny_Try_except ?_))
  k_with "bind" => (k_here; k_dflt (refine' goes_X ?F ?N ?_; (case F => k_asm); (case N => k_asm)); intro h_k9' v_k9' F_k9' N_k9'; (try k_sweep))
  k_with "call ref" => (k_here; (with_reducible show wpAny _ _ (call (Value.ref 238) _) _ _ _); k_dflt (refine' tpf_ok ?B ?F ?X ?N ?T ?hk ?hd ?hu ?x1 ?x2 ?x3 ?x4 ?x5 ?g4 ?k2 ?m1 ?m2 ?m3 ?hd0 ?hlo ?hz ?U ?hc ?_; (case B => k_asm); (case F => k_asm); (case X => k_asm); (case N => k_asm); (case T => k_asm); (case hk => exact rfl); (case hd => ktr_room); (case hu => ktr_units); (case x1 => k_mem); (case x2 => k_mem); (case x3 => k_mem); (case x4 => k_mem); (case x5 => k_mem); (case g4 => assumption); (case k2 => assumption); (case m1 => k_mem); (case m2 => k_mem); (case hc => assumption); (case hd0 => assumption); (case m3 => k_mem); (case hlo => assumption); (case hz => assumption); (case U => (refine UpdF.tail (Ne.symm (Nat.ne_of_lt ((by assumption : ∀ q ∈ _, q.1 < _) (_, _) (by assumption)))) (by assumption)))); (intro h_k9' tk_k9' o_k9' F_k9' N_k9' hd_k9'; (try dsimp only at N_k9'); (have V9_k9 := UpdFF.at (by assumption) o_k9'); (have m9_k9 := UpdF.mem V9_k9); (try k_sweep)))
  k_with "call ref" => (k_here; (with_reducible show wpAny _ _ (call (Value.ref 238) _) _ _ _); k_dflt (refine' tpf_raise ?B ?F ?X ?N ?T ?hk ?hd ?hu ?x1 ?x2 ?x3 ?x4 ?x5 ?g4 ?k2 ?m1 ?m2 ?m3 ?hd0 ?hlo ?hz ?hc ?_; (case B => k_asm); (case F => k_asm); (case X => k_asm); (case N => k_asm); (case T => k_asm); (case hk => exact rfl); (case hd => ktr_room); (case hu => ktr_units); (case x1 => k_mem); (case x2 => k_mem); (case x3 => k_mem); (case x4 => k_mem); (case x5 => k_mem); (case g4 => assumption); (case k2 => assumption); (case m1 => k_mem); (case m2 => k_mem); (case hc => assumption); (case hd0 => assumption); (case m3 => k_mem); (case hlo => assumption); (case hz => assumption)); (intro g_k9' h_k9' e_k9' dE_k9' es_k9' n_k9' tk_k9' u1_k9' u2_k9' F_k9' R_k9' D_k9' U_k9' c1_k9' c2_k9'; (try dsimp only)))
  k_with "noteFrame ref" => (k_here; k_dflt (refine' caught_QX ?R ?Dd ?F ?K ?U ?XB ?TB ?D ?T0 ?ex ?q ?_; (case R => assumption); (case Dd => assumption); (case F => assumption); (case K => assumption); (case U => assumption); (case XB => assumption); (case TB => assumption); (case D => assumption); (case T0 => first | assumption | exact KtsTurn.refl); (case ex => k_is); (case q => kts_isx)); intro h_k9' g_k9' oe_k9' tk_k9' T_k9' F_k9' N_k9' hcl_k9' hdi_k9' hno_k9' K_k9' X_k9' P_k9' D_k9'; (try k_lift K_k9'); (try k_sweep))
  k_with "getAttr ref" => (k_here; k_dflt (refine' quic_get ?F ?X ?N ?hx ?hcl ?hno ?hd ?hdx ?ht ?hl ?hh ?_; (case F => k_asm); (case X => k_asm); (case N => k_asm); (case hcl => assumption); (case hno => assumption); (case hd => assumption); (case hx => k_mem); (case hdx => k_mem); (case ht => k_is); (case hl => assumption); (case hh => exact rfl)))
  revert X ret; k_fill; intro X ret
  have em : ∀ m : Str → Option Value, m (Str.ofString "conn") = some (.ref x) → m (Str.ofString "raw") = some (.ref rx) → m (Str.ofString "number") = some (.int k tk) → m (Str.ofString "wanted") = some (.ref wl) → m = fun y => if y = Str.ofString "conn" then some (.ref x) else if y = Str.ofString "raw" then some (.ref rx) else if y = Str.ofString "number" then some (.int k tk) else if y = Str.ofString "wanted" then some (.ref wl) else m y := by
    intro m e0 e1 e2 e3
    funext y
    by_cases q0 : y = Str.ofString "conn"
    · rw [if_pos q0, q0, e0]
    by_cases q1 : y = Str.ofString "raw"
    · rw [if_neg q0, if_pos q1, q1, e1]
    by_cases q2 : y = Str.ofString "number"
    · rw [if_neg q0, if_neg q1, if_pos q2, q2, e2]
    by_cases q3 : y = Str.ofString "wanted"
    · rw [if_neg q0, if_neg q1, if_neg q2, if_pos q3, q3, e3]
    rw [if_neg q0, if_neg q1, if_neg q2, if_neg q3]
  rw [em m hm1 hm2 hm3 hm4] at F
  conv at hfs => rhs; whnf
  conv at hsc => rhs; whnf
  subst hfs hsc
  obtain ⟨k9, n9, g9, c9, e9⟩ := cs
  dsimp only at hk
  subst hk
  refine wpAny_noRaise ?_
  k_steps
  exact ret _ _ _ _ (by rw [em m hm1 hm2 hm3 hm4]; assumption) (news_tail (by assumption)) (by assumption)
theorem try_raise {news : List (Addr × Obj)} {sc : Scope} {fs : Stmt} {La x dx rx drx lx dlx d le wl : Addr} {es er : List DictEntry} {n nr nw : Nat} {o : Obj} {kvs : List (Int × Value)} {ws : List Value} {lim rp : Value} {ns k : Int} {cb : Array UInt8} {t1 t2 t3 t4 t5 t6 t8 tk tb : Tok} {g₀ : Heap} {Q : Flow → Shared → Prop} {gw : Obj → List (Addr × Obj)}
  (B : Below (ktrTop dp un gd cn cs La a ccd cl outer) base (envX cn cs La a ccd cl :: outer) h₀) (F : Fr h₀ L s.heap m) (X : (Mine.hd.heap_39 w.params).In h₀)
  (N : News h₀ L s.heap news) (T : Top p loose mean mg mb h₀) (hk : cs.kind = .function) (XB : (Mine.hd.heap_39 w.params).In base) (TB : Top p loose mean mg mb base)
  (D : KtsDicts ((envX cn cs La a ccd cl :: outer).filterMap (·.frame)) h₀) (T0 : KtsTurn ((envX cn cs La a ccd cl :: outer).filterMap (·.frame)) g₀ h₀)
  (hd : dp + 120 < recursionLimit) (hu : un + 900 < cLine)
  (x1 : (x, instObj 470 dx) ∈ news) (x2 : (dx, dictOf es n) ∈ news) (x4 : (rx, instObj 323 drx) ∈ news) (x5 : (drx, dictOf er nr) ∈ news)
  (g4 : getL (Str.ofString "local") es = some (some (.ref lx))) (k2 : getL (Str.ofString "dcid") er = some (some (.bytes cb tb)))
  (m1 : (lx, instObj 295 dlx) ∈ news) (m2 : (dlx, dictOf (lids w.params t1 t2 t3 t4 t5 t6 lim d le (.int ns t8) rp false) 6) ∈ news) (m3 : (d, o) ∈ news)
  (hd0 : o.IsDictOf (PySem.intKind PySem.Challenge.rw_rg0255_01.row.prog w) kvs) (hlo : (d == sysModules) = false) (hz : kvs.length ≤ 1000)
  (hm1 : m (Str.ofString "conn") = some (.ref x)) (hm2 : m (Str.ofString "raw") = some (.ref rx)) (hm3 : m (Str.ofString "number") = some (.int k tk)) (hm4 : m (Str.ofString "wanted") = some (.ref wl)) (hfs : fs = rrTry) (hsc : sc = rrSc) (hw : ws.length ≤ 100)
  (V : UpdF wl (listOf ws.toArray nw) news gw) (hc : RCond kvs ns k cb)
  (ret : ∀ g' h' tk' tp nw' u1 u2 v9, KtsTurn ((envX cn cs La a ccd cl :: outer).filterMap (·.frame)) g₀ g' → Fr g' L h' (fun y => if y = Str.ofString "wrong" then v9 else m y) → News g' L h' ((tp, tupObj [.int 10 u1, .int 25 u2]) :: gw (listOf (ws ++ [Value.ref tp]).toArray nw')) → Below (ktrTop dp un gd cn cs La a ccd cl outer) base (envX cn cs La a ccd cl :: outer) g' → (Mine.hd.heap_39 w.params).In g' → Top p loose mean mg mb g' → KtsDicts ((envX cn cs La a ccd cl :: outer).filterMap (·.frame)) g' → (∀ q ∈ news, q.1 ≠ tp) → Q .next { s with heap := h', toks := tk' }) :
  wpAny (model PySem.Challenge.rw_rg0255_01.row.prog w) ((ktrTop dp un gd cn cs La a ccd cl outer).deeper (envOfC (Str.ofString "_law_retired_right") sc L 500 (.ref 499))) (exec fs (envOfC (Str.ofString "_law_retired_right") sc L 500 (.ref 499))) Q E s := by
  revert X ret; k_fill; intro X ret
  have em : ∀ m : Str → Option Value, m (Str.ofString "conn") = some (.ref x) → m (Str.ofString "raw") = some (.ref rx) → m (Str.ofString "number") = some (.int k tk) → m (Str.ofString "wanted") = some (.ref wl) → m = fun y => if y = Str.ofString "conn" then some (.ref x) else if y = Str.ofString "raw" then some (.ref rx) else if y = Str.ofString "number" then some (.int k tk) else if y = Str.ofString "wanted" then some (.ref wl) else m y := by
    intro m e0 e1 e2 e3
    funext y
    by_cases q0 : y = Str.ofString "conn"
    · rw [if_pos q0, q0, e0]
    by_cases q1 : y = Str.ofString "raw"
    · rw [if_neg q0, if_pos q1, q1, e1]
    by_cases q2 : y = Str.ofString "number"
    · rw [if_neg q0, if_neg q1, if_pos q2, q2, e2]
    by_cases q3 : y = Str.ofString "wanted"
    · rw [if_neg q0, if_neg q1, if_neg q2, if_pos q3, q3, e3]
    rw [if_neg q0, if_neg q1, if_neg q2, if_neg q3]
  rw [em m hm1 hm2 hm3 hm4] at F
  conv at hfs => rhs; whnf
  conv at hsc => rhs; whnf
  subst hfs hsc
  obtain ⟨k9, n9, g9, c9, e9⟩ := cs
  dsimp only at hk
  subst hk
  have m9 := UpdF.mem V
  refine wpAny_noRaise ?_
  k_steps
  exact ret _ _ _ _ _ _ _ _ (by assumption) (by rw [em m hm1 hm2 hm3 hm4]; exact fr_twice (by assumption)) (news_drop3 (by assumption)) (by assumption) (by assumption) (by assumption) (by assumption) (fun q hq => Nat.ne_of_lt ((by assumption : ∀ q ∈ _, q.1 < _) q hq))
end
end Mine
end
section
open PySem.Spec
namespace Mine
section
variable {g₀ g h : Heap} {L La : Addr} {m : Str → Option Value} {news all : List (Addr × Obj)} {o₀ : Obj}
theorem turn_hide_get (T : KtsTurn [La] g₀ g) {b : Addr} {o : Obj} (e : (hideAll g₀ [La]).get? b = some o) : g.get? b = some o := by
  refine T.other b o (of_hideAll _ e) fun hm => ?_
  rw [hideAll_none _ hm] at e
  cases e
theorem forget (hLa : g₀.get? La = some o₀) (T : KtsTurn [La] g₀ g) (F : Fr g L h m) (N : News g L h news) :
    ∃ sl, Fr (hideAll g₀ [La]) L h m ∧ News (hideAll g₀ [La]) L h ((La, { o₀ with slots := sl }) :: news) ∧ ∀ p ∈ news, p.1 ≠ La := by
  obtain ⟨sl, hs⟩ := T.frame La o₀ hLa List.mem_cons_self
  refine ⟨sl, ⟨F.ns, fun b o e => F.keep b o (turn_hide_get T e), by rw [hideAll_size, ← T.size]; exact F.above⟩, fun p hp => ?_, fun p hp e => ?_⟩
  · rcases List.mem_cons.mp hp with rfl | hp
    · refine ⟨F.keep _ _ hs, fun e => ?_, hideAll_none _ List.mem_cons_self⟩
      have := kts_self F
      dsimp only at e
      rw [← e, hs] at this
      cases this
    · refine ⟨(N p hp).1, (N p hp).2.1, ?_⟩
      cases q : (hideAll g₀ [La]).get? p.1 with
      | none => rfl
      | some o =>
        have := turn_hide_get T q
        rw [(N p hp).2.2] at this
        cases this
  · have := (N p hp).2.2
    rw [e, hs] at this
    cases this
theorem regain {sl : Array (Option Value)} (hLa : g₀.get? La = some o₀) (F : Fr (hideAll g₀ [La]) L h m) (N : News (hideAll g₀ [La]) L h all) (hm : (La, { o₀ with slots := sl }) ∈ all)
    (sub : ∀ p ∈ news, p ∈ all) (off : ∀ p ∈ news, p.1 ≠ La) : ∃ g, KtsTurn [La] g₀ g ∧ Fr g L h m ∧ News g L h news := by
  have keep : ∀ b o, g₀.get? b = some o → b ∉ [La] → h.get? b = some o := fun b o e nm => F.keep b o (hideAll_get _ e nm)
  obtain ⟨T, S⟩ := kts_turn_at (h := h) (fs := [La]) (g := g₀) (fun b hb => by
    rw [List.mem_singleton.mp hb]
    exact ⟨_, hLa⟩) keep (fun b o e hb => by
    rw [List.mem_singleton.mp hb] at e ⊢
    rw [hLa] at e
    cases e
    exact ⟨sl, (N _ hm).1⟩)
  refine ⟨_, T, ⟨F.ns, S, by rw [T.size, ← hideAll_size [La] g₀]; exact F.above⟩, fun p hp => ⟨(N p (sub p hp)).1, (N p (sub p hp)).2.1, ?_⟩⟩
  refine T.none_ _ ?_
  cases q : g₀.get? p.1 with
  | none => rfl
  | some o =>
    have := (N p (sub p hp)).2.2
    rw [hideAll_get _ q (fun z => off p hp (List.mem_singleton.mp z))] at this
    cases this
end
/-- what a walk needs of its ground -/
structure Gr (A : Around) (base : Heap) (outer : List Env) (KF : Frag) (p : Program) (loose : List Str) (mean : ExcName → Option Value) (mg mb : Str → Option Value) (g : Heap) : Prop where
  B : Below A base outer g
  X : KF.In g
  T : Top p loose mean mg mb g
  D : KtsDicts (outer.filterMap (·.frame)) g
theorem Gr.turn {A : Around} {base g g' : Heap} {outer : List Env} {KF : Frag} {p : Program} {loose : List Str} {mean : ExcName → Option Value} {mg mb : Str → Option Value} (G : Gr A base outer KF p loose mean mg mb g) (XB : KF.In base) (TB : Top p loose mean mg mb base) (T : KtsTurn (outer.filterMap (·.frame)) g g') : Gr A base outer KF p loose mean mg mb g' := by
  have B' : Below A base outer g' := ⟨G.B.stack, fun b o e => T.other b o (G.B.stays b o e) (fun hm => by
    rw [(G.B.frames.mem hm).1] at e
    cases e), G.B.frames.of_keeps fun b o e _ => by
    obtain ⟨sl, hs⟩ := T.up e
    exact ⟨_, hs, rfl⟩⟩
  exact ⟨B', XB.keeps B'.stays, TB.keeps B'.stays, G.D.turn T⟩
section
variable {prog : Program} {w : World} {A : Around} {E : Value → Shared → Prop} {s : Shared} {env : Env} {g₀ : Heap} {La : Addr} {o₀ : Obj} {x : Str} {body : List Stmt} {Q : Flow → Shared → Prop}
/-- the end of one round of a loop -/
def RoundEnd (g₀ : Heap) (La L : Addr) (s₁ : Shared) (I : Addr) (it : Obj) (rest : (Str → Option Value) → List (Addr × Obj) → Prop) (Q : Flow → Shared → Prop) (f : Flow) (s₂ : Shared) : Prop :=
  match f with
  | .ret v => Q (.ret v) s₂
  | .brk => Q .next s₂
  | _ => ∃ g h' tk m' news', s₂ = { s₁ with heap := h', toks := tk } ∧ KtsTurn [La] g₀ g ∧ Fr g L h' m' ∧ News g L h' ((I, it) :: news') ∧ (∀ p ∈ news', p.1 ≠ I) ∧ rest m' news'
theorem list_loopT {ax : Addr} {lo : Obj} {vs : List Value} {n : Nat} {m₀ : Str → Option Value} {news all : List (Addr × Obj)} {sl : Array (Option Value)}
    (Inv : List Value → (Str → Option Value) → List (Addr × Obj) → Prop)
    (hh : A.handled = none) (hLa : g₀.get? La = some o₀) (F : Fr (hideAll g₀ [La]) env.locals s.heap m₀) (N : News (hideAll g₀ [La]) env.locals s.heap all) (hsl : (La, { o₀ with slots := sl }) ∈ all)
    (sub : ∀ p ∈ news, p ∈ all) (off : ∀ p ∈ news, p.1 ≠ La) (hm : (ax, lo) ∈ all) (hc : lo.cls = .type "list") (hd : lo.data = .seq vs.toArray n) (hax : ∀ r m' n', Inv r m' n' → (ax, lo) ∈ n')
    (init : Inv vs m₀ news)
    (last : ∀ g m' news' h tk, KtsTurn [La] g₀ g → Fr g env.locals h m' → News g env.locals h news' → Inv [] m' news' → Q .next { s with heap := h, toks := tk })
    (step : ∀ v r I it g m' news' h tk, Inv (v :: r) m' news' → it.cls = .type "list_iterator" → KtsTurn [La] g₀ g → Fr g env.locals h (fun y => if y = x then some v else m' y) → News g env.locals h ((I, it) :: news') → (∀ p ∈ news', p.1 ≠ I) →
      wpAny (model prog w) A (execs body env) (RoundEnd g₀ La env.locals { s with heap := h, toks := tk } I it (Inv r) Q) E { s with heap := h, toks := tk }) :
    wpAny (model prog w) A (pyIter (.ref ax)) (fun it s₂ => LoopAtV prog w A (hideAll g₀ [La]) env x body Q E it s₂) E s := by
  have N₀ : News (hideAll g₀ [La]) env.locals s.heap ((La, { o₀ with slots := sl }) :: news) := fun p hp => by
    rcases List.mem_cons.mp hp with rfl | hp
    · exact N _ hsl
    · exact N _ (sub p hp)
  refine iter_listUnr hh F N₀ (List.mem_cons_of_mem _ (hax _ _ _ init)) hc hd fun I hI => ?_
  have key : ∀ r m' news' sl', Inv r m' news' → (∀ p ∈ news', p.1 ≠ I) → (∀ p ∈ news', p.1 ≠ La) → I ≠ La → ListRest prog w A E (hideAll g₀ [La]) env x body Q s I (ax, lo) r m' ((La, { o₀ with slots := sl' }) :: news') := by
    intro r
    induction r with
    | nil =>
      intro m' news' sl' hv hoff hoL hne
      refine ListRest.zero fun h tk F' N' => ?_
      obtain ⟨g, T, F₁, N₁⟩ := regain (news := news') hLa F' N' List.mem_cons_self (fun p hp => List.mem_cons_of_mem _ hp) hoL
      exact last g m' news' h tk T F₁ N₁ hv
    | cons v r ih =>
      intro m' news' sl' hv hoff hoL hne
      refine ListRest.succ fun it h tk hic F' N' => ?_
      obtain ⟨g, T, F₁, N₁⟩ := regain (news := (I, it) :: news') hLa F' N' (List.mem_cons_of_mem _ List.mem_cons_self) (fun p hp => by
        rcases List.mem_cons.mp hp with rfl | hp
        · exact List.mem_cons_self
        · exact List.mem_cons_of_mem _ (List.mem_cons_of_mem _ hp)) (fun p hp => by
        rcases List.mem_cons.mp hp with rfl | hp
        · exact hne
        · exact hoL p hp)
      refine wpAny_mono (step v r I it g m' news' h tk hv hic T F₁ N₁ hoff) (fun f s₂ z => ?_) fun _ _ e => e
      have fin : (∃ g h' tk' m' news', s₂ = { ({ s with heap := h, toks := tk } : Shared) with heap := h', toks := tk' } ∧ KtsTurn [La] g₀ g ∧ Fr g env.locals h' m' ∧ News g env.locals h' ((I, it) :: news') ∧ (∀ p ∈ news', p.1 ≠ I) ∧ Inv r m' news') →
          UnrEnd (hideAll g₀ [La]) env.locals { s with heap := h, toks := tk } I it (fun m' n' => (ax, lo) ∈ n' ∧ ListRest prog w A E (hideAll g₀ [La]) env x body Q s I (ax, lo) r m' n') s₂ := by
        rintro ⟨g', h', tk', m'', news'', e, T', F₂, N₂, ho, hv'⟩
        obtain ⟨sl'', F₃, N₃, ho₃⟩ := forget hLa T' F₂ N₂
        refine ⟨h', tk', m'', (La, { o₀ with slots := sl'' }) :: news'', e, F₃, fun p hp => ?_, fun p hp => ?_, List.mem_cons_of_mem _ (hax _ _ _ hv'), ih m'' news'' sl'' hv' ho (fun p hp => ho₃ p (List.mem_cons_of_mem _ hp)) hne⟩
        · rcases List.mem_cons.mp hp with rfl | hp
          · exact N₃ _ (List.mem_cons_of_mem _ List.mem_cons_self)
          · rcases List.mem_cons.mp hp with rfl | hp
            · exact N₃ _ List.mem_cons_self
            · exact N₃ _ (List.mem_cons_of_mem _ (List.mem_cons_of_mem _ hp))
        · rcases List.mem_cons.mp hp with rfl | hp
          · exact hne.symm
          · exact ho p hp
      cases f with
      | ret v => exact z
      | brk => exact z
      | next => exact fin z
      | cont => exact fin z
  exact key vs m₀ news sl init (fun p hp => Nat.ne_of_lt (hI p (List.mem_cons_of_mem _ hp))) off (Nat.ne_of_gt (hI _ List.mem_cons_self))
theorem range_loopT {r : Addr} {a₀ b₀ : Int} {t₀ u₀ v₀ : Tok} {n : Nat} {m₀ : Str → Option Value} {news all : List (Addr × Obj)} {sl : Array (Option Value)}
    (Inv : Nat → (Str → Option Value) → List (Addr × Obj) → Prop)
    (hh : A.handled = none) (hr : IsRange s.heap r a₀ b₀ 1 t₀ u₀ v₀) (hsmall : Builtin.Range.small a₀ b₀ 1 = true) (hn : Builtin.Range.rangeSize a₀ b₀ 1 = (n : Int)) (hLa : g₀.get? La = some o₀)
    (F : Fr (hideAll g₀ [La]) env.locals s.heap m₀) (N : News (hideAll g₀ [La]) env.locals s.heap all) (hsl : (La, { o₀ with slots := sl }) ∈ all)
    (sub : ∀ p ∈ news, p ∈ all) (off : ∀ p ∈ news, p.1 ≠ La) (init : Inv 0 m₀ news)
    (last : ∀ g m' news' h tk, KtsTurn [La] g₀ g → Fr g env.locals h m' → News g env.locals h news' → Inv n m' news' → Q .next { s with heap := h, toks := tk })
    (step : ∀ i I it t g m' news' h tk, i < n → Inv i m' news' → KtsTurn [La] g₀ g → Fr g env.locals h (fun y => if y = x then some (.int (a₀ + (i : Int)) t) else m' y) → News g env.locals h ((I, it) :: news') → (∀ p ∈ news', p.1 ≠ I) →
      wpAny (model prog w) A (execs body env) (RoundEnd g₀ La env.locals { s with heap := h, toks := tk } I it (Inv (i + 1)) Q) E { s with heap := h, toks := tk }) :
    wpAny (model prog w) A (pyIter (.ref r)) (fun it s₂ => LoopAtV prog w A (hideAll g₀ [La]) env x body Q E it s₂) E s := by
  have N₀ : News (hideAll g₀ [La]) env.locals s.heap ((La, { o₀ with slots := sl }) :: news) := fun p hp => by
    rcases List.mem_cons.mp hp with rfl | hp
    · exact N _ hsl
    · exact N _ (sub p hp)
  refine iter_rangeUnr hh hr hsmall hn F N₀ fun I hI => ?_
  have key : ∀ k i m' news' sl', i + k = n → Inv i m' news' → (∀ p ∈ news', p.1 ≠ I) → (∀ p ∈ news', p.1 ≠ La) → I ≠ La → RangeRest prog w A E (hideAll g₀ [La]) env x body Q s I a₀ n k i m' ((La, { o₀ with slots := sl' }) :: news') := by
    intro k
    induction k with
    | zero =>
      intro i m' news' sl' hi hv hoff hoL hne
      have : i = n := by omega
      subst this
      refine RangeRest.zero fun h tk F' N' => ?_
      obtain ⟨g, T, F₁, N₁⟩ := regain (news := news') hLa F' N' List.mem_cons_self (fun p hp => List.mem_cons_of_mem _ hp) hoL
      exact last g m' news' h tk T F₁ N₁ hv
    | succ k ih =>
      intro i m' news' sl' hi hv hoff hoL hne
      refine RangeRest.succ fun t h tk F' N' => ?_
      obtain ⟨g, T, F₁, N₁⟩ := regain (news := (I, _) :: news') hLa F' N' (List.mem_cons_of_mem _ List.mem_cons_self) (fun p hp => by
        rcases List.mem_cons.mp hp with rfl | hp
        · exact List.mem_cons_self
        · exact List.mem_cons_of_mem _ (List.mem_cons_of_mem _ hp)) (fun p hp => by
        rcases List.mem_cons.mp hp with rfl | hp
        · exact hne
        · exact hoL p hp)
      refine wpAny_mono (step i I _ t g m' news' h tk (by omega) hv T F₁ N₁ hoff) (fun f s₂ z => ?_) fun _ _ e => e
      generalize itR (a₀ + ((i + 1 : Nat) : Int)) ((n : Int) - ((i + 1 : Nat) : Int)) = it at z ⊢
      have fin : (∃ g h' tk' m' news', s₂ = { ({ s with heap := h, toks := tk } : Shared) with heap := h', toks := tk' } ∧ KtsTurn [La] g₀ g ∧ Fr g env.locals h' m' ∧ News g env.locals h' ((I, it) :: news') ∧ (∀ p ∈ news', p.1 ≠ I) ∧ Inv (i + 1) m' news') →
          UnrEnd (hideAll g₀ [La]) env.locals { s with heap := h, toks := tk } I it (RangeRest prog w A E (hideAll g₀ [La]) env x body Q s I a₀ n k (i + 1)) s₂ := by
        rintro ⟨g', h', tk', m'', news'', e, T', F₂, N₂, ho, hv'⟩
        obtain ⟨sl'', F₃, N₃, ho₃⟩ := forget hLa T' F₂ N₂
        refine ⟨h', tk', m'', (La, { o₀ with slots := sl'' }) :: news'', e, F₃, fun p hp => ?_, fun p hp => ?_, ih (i + 1) m'' news'' sl'' (by omega) hv' ho (fun p hp => ho₃ p (List.mem_cons_of_mem _ hp)) hne⟩
        · rcases List.mem_cons.mp hp with rfl | hp
          · exact N₃ _ (List.mem_cons_of_mem _ List.mem_cons_self)
          · rcases List.mem_cons.mp hp with rfl | hp
            · exact N₃ _ List.mem_cons_self
            · exact N₃ _ (List.mem_cons_of_mem _ (List.mem_cons_of_mem _ hp))
        · rcases List.mem_cons.mp hp with rfl | hp
          · exact hne.symm
          · exact ho p hp
      cases f with
      | ret v => exact z
      | brk => exact z
      | next => exact fin z
      | cont => exact fin z
  exact key n 0 m₀ news sl (by omega) init (fun p hp => Nat.ne_of_lt (hI p (List.mem_cons_of_mem _ hp))) off (Nat.ne_of_gt (hI _ List.mem_cons_self))
end
end Mine
end
section
namespace Mine
noncomputable def vals : List Value → List Int → Prop
  | [], [] => True
  | v :: r, k :: ks => (∃ t, v = .int k t) ∧ vals r ks
  | _, _ => False
/-- what the try left behind -/
noncomputable def Outs (tps : List (Addr × Obj)) : List Bool → List Value → Prop
  | [], [] => True
  | b :: bs, v :: vs => (b = true ∧ v = .none ∨ b = false ∧ ∃ tp u1 u2, v = .ref tp ∧ (tp, tupObj [.int 10 u1, .int 25 u2]) ∈ tps) ∧ Outs tps bs vs
  | _, _ => False
theorem Outs.mono {tps tps' : List (Addr × Obj)} (h : ∀ q ∈ tps, q ∈ tps') : ∀ {bs : List Bool} {vs : List Value}, Outs tps bs vs → Outs tps' bs vs
  | [], [], _ => trivial
  | b :: bs, v :: vs, ⟨x, y⟩ => ⟨x.imp id fun ⟨e, tp, u1, u2, e2, m⟩ => ⟨e, tp, u1, u2, e2, h _ m⟩, Outs.mono h y⟩
  | [], _ :: _, x => x
  | _ :: _, [], x => x
theorem Outs.snoc {tps : List (Addr × Obj)} {b : Bool} {v : Value} (hx : b = true ∧ v = .none ∨ b = false ∧ ∃ tp u1 u2, v = .ref tp ∧ (tp, tupObj [.int 10 u1, .int 25 u2]) ∈ tps) : ∀ {bs : List Bool} {vs : List Value}, Outs tps bs vs → Outs tps (bs ++ [b]) (vs ++ [v])
  | [], [], _ => ⟨hx, trivial⟩
  | _ :: _, _ :: _, ⟨x, y⟩ => ⟨x, Outs.snoc hx y⟩
  | [], _ :: _, x => x.elim
  | _ :: _, [], x => x.elim
theorem Outs.len {tps : List (Addr × Obj)} : ∀ {bs : List Bool} {vs : List Value}, Outs tps bs vs → vs.length = bs.length
  | [], [], _ => rfl
  | _ :: _, _ :: _, ⟨_, y⟩ => by simp [Outs.len y]
  | [], _ :: _, x => x.elim
  | _ :: _, [], x => x.elim
/-- retiring numbers one by one -/
inductive Steps (ns : Int) (cb : Array UInt8) : List Int → List (Int × Value) → List Bool → List (Int × Value) → Prop
  | nil {kvs} : Steps ns cb [] kvs [] kvs
  | ok {k r kvs bs kvs'} : NCond kvs ns k cb → Steps ns cb r (without kvs k) bs kvs' → Steps ns cb (k :: r) kvs (true :: bs) kvs'
  | bad {k r kvs bs kvs'} : RCond kvs ns k cb → Steps ns cb r kvs bs kvs' → Steps ns cb (k :: r) kvs (false :: bs) kvs'
def chn (m : Str → Option Value) (v8 v9 : Option Value) : Str → Option Value := fun y => if y = Str.ofString "wrong" then v9 else if y = Str.ofString "number" then v8 else m y
theorem chn_id (m : Str → Option Value) : chn m (m (Str.ofString "number")) (m (Str.ofString "wrong")) = m := by
  funext y
  unfold chn
  by_cases h : y = Str.ofString "wrong"
  · rw [if_pos h, h]
  · rw [if_neg h]
    by_cases h2 : y = Str.ofString "number"
    · rw [if_pos h2, h2]
    · rw [if_neg h2]
theorem chn_num (m : Str → Option Value) (v8 v9 v : Option Value) : (fun y => if y = Str.ofString "number" then v else chn m v8 v9 y) = chn m v v9 := by
  funext y
  unfold chn
  by_cases h : y = Str.ofString "number"
  · rw [if_pos h, if_neg (by rw [h]; decide), if_pos h]
  · rw [if_neg h, if_neg h, if_neg h]
theorem chn_wr (m : Str → Option Value) (v8 v9 v : Option Value) : (fun y => if y = Str.ofString "wrong" then v else chn m v8 v9 y) = chn m v8 v := by
  funext y
  unfold chn
  by_cases h : y = Str.ofString "wrong"
  · rw [if_pos h, if_pos h]
  · rw [if_neg h, if_neg h, if_neg h]
theorem chn_at (m : Str → Option Value) (v8 v9 : Option Value) : chn m v8 v9 (Str.ofString "number") = v8 := by
  unfold chn
  rw [if_neg (by decide), if_pos rfl]
theorem chn_ne {m : Str → Option Value} {v8 v9 : Option Value} {y : Str} (h : y ≠ Str.ofString "wrong") (h2 : y ≠ Str.ofString "number") : chn m v8 v9 y = m y := by
  unfold chn
  rw [if_neg h, if_neg h2]
theorem without_len {kvs : List (Int × Value)} {k : Int} : (without kvs k).length ≤ kvs.length := List.length_filter_le ..
def LoopSt (w : World) (base9 : List (Addr × Obj)) (m : Str → Option Value) (wl d : Addr) (ns : Int) (cb : Array UInt8) (bsAll : List Bool) (kvsEnd : List (Int × Value)) (r : List Value) (m' : Str → Option Value) (n' : List (Addr × Obj)) : Prop :=
  ∃ ks bs₁ bs₂ kvs' ws nw o' tps v8 v9, vals r ks ∧ Steps ns cb ks kvs' bs₂ kvsEnd ∧ bs₁ ++ bs₂ = bsAll ∧ Outs tps bs₁ ws ∧ o'.IsDictOf (PySem.intKind PySem.Challenge.rw_rg0255_01.row.prog w) kvs' ∧ kvs'.length ≤ 1000 ∧ n' = (wl, listOf ws.toArray nw) :: (d, o') :: (tps ++ base9) ∧
    (∀ p ∈ tps ++ base9, p.1 ≠ wl ∧ p.1 ≠ d) ∧ (wl ≠ d) ∧ (∀ q ∈ tps, q.2.cls = .type "tuple") ∧ m' = chn m v8 v9
section
variable {w : World} {p : Program} {loose : List Str} {mean : ExcName → Option Value} {mg mb : Str → Option Value} {dp un : Nat} {gd : Option (List Code)} {cn : Str} {cs : Scope} {a : Addr} {ccd : Value} {cl : List (Str × Addr)} {outer : List Env} {A₀ : Around} {base h₀ : Heap} {L : Addr} {m : Str → Option Value}
  {s : Shared} {Q E : Value → Shared → Prop}
theorem inner_loop {sc : Scope} {x9 : Str} {bd : List Stmt} {La x dx rx drx lx dlx d le wl ax : Addr} {es er : List DictEntry} {n nr n9 : Nat} {o o₀ lo : Obj} {kvs kvsEnd : List (Int × Value)} {lim rp : Value} {ns : Int} {cb : Array UInt8} {t1 t2 t3 t4 t5 t6 t8 tb : Tok} {g₀ : Heap} {base9 all : List (Addr × Obj)} {ks : List Int} {vs : List Value} {bsAll : List Bool} {Q : Flow → Shared → Prop}
  (G : Gr (ktrTop dp un gd cn cs La a ccd cl []) base [envX cn cs La a ccd cl] (Mine.hd.heap_39 w.params) p loose mean mg mb g₀) (XB : (Mine.hd.heap_39 w.params).In base) (TB : Top p loose mean mg mb base)
  (hLa : g₀.get? La = some o₀) (T0 : KtsTurn [La] g₀ h₀) (F : Fr h₀ L s.heap m) (N : News h₀ L s.heap all) (hk : cs.kind = .function)
  (hd : dp + 120 < recursionLimit) (hu : un + 900 < cLine)
  (hwl : (wl, listOf (([] : List Value).toArray) 0) ∈ all) (m3 : (d, o) ∈ all) (sub : ∀ p ∈ base9, p ∈ all) (off : ∀ p ∈ base9, p.1 ≠ wl ∧ p.1 ≠ d)
  (x1 : (x, instObj 470 dx) ∈ base9) (x2 : (dx, dictOf es n) ∈ base9) (x4 : (rx, instObj 323 drx) ∈ base9) (x5 : (drx, dictOf er nr) ∈ base9)
  (g4 : getL (Str.ofString "local") es = some (some (.ref lx))) (k2 : getL (Str.ofString "dcid") er = some (some (.bytes cb tb)))
  (m1 : (lx, instObj 295 dlx) ∈ base9) (m2 : (dlx, dictOf (lids w.params t1 t2 t3 t4 t5 t6 lim d le (.int ns t8) rp false) 6) ∈ base9)
  (hd0 : o.IsDictOf (PySem.intKind PySem.Challenge.rw_rg0255_01.row.prog w) kvs) (hlo : (d == sysModules) = false) (hz : kvs.length ≤ 1000)
  (hax : (ax, lo) ∈ base9) (hc : lo.cls = .type "list") (hdt : lo.data = .seq vs.toArray n9) (hvs : vals vs ks) (hst : Steps ns cb ks kvs bsAll kvsEnd) (hbl : bsAll.length ≤ 50)
  (hm1 : m (Str.ofString "conn") = some (.ref x)) (hm2 : m (Str.ofString "raw") = some (.ref rx)) (hm4 : m (Str.ofString "wanted") = some (.ref wl)) (hbd : bd = [rrTry]) (hsc : sc = rrSc) (hx9 : x9 = Str.ofString "number")
  (ret : ∀ g h' tk' o' ws nw tps v8 v9, KtsTurn [La] g₀ g → Fr g L h' (chn m v8 v9) → News g L h' ((wl, listOf ws.toArray nw) :: (d, o') :: (tps ++ base9)) → o'.IsDictOf (PySem.intKind PySem.Challenge.rw_rg0255_01.row.prog w) kvsEnd → Outs tps bsAll ws → (∀ p ∈ tps ++ base9, p.1 ≠ wl ∧ p.1 ≠ d) → (∀ q ∈ tps, q.2.cls = .type "tuple") → Q .next { s with heap := h', toks := tk' }) :
  wpAny (model PySem.Challenge.rw_rg0255_01.row.prog w) ((ktrTop dp un gd cn cs La a ccd cl []).deeper (envOfC (Str.ofString "_law_retired_right") sc L 500 (.ref 499))) (pyIter (.ref ax)) (fun it s₂ => LoopAtV PySem.Challenge.rw_rg0255_01.row.prog w ((ktrTop dp un gd cn cs La a ccd cl []).deeper (envOfC (Str.ofString "_law_retired_right") sc L 500 (.ref 499))) (hideAll g₀ [La]) (envOfC (Str.ofString "_law_retired_right") sc L 500 (.ref 499)) x9 bd Q E it s₂) E s := by
  subst hbd hx9
  obtain ⟨sl, F₁, N₁, hoff⟩ := forget hLa T0 F N
  have hwd : wl ≠ d := by
    intro e
    have h1 := (N _ hwl).1
    have h2 := (N _ m3).1
    dsimp only at h1 h2
    rw [e, h2] at h1
    obtain ⟨es', ep, _, hdat, _⟩ := hd0
    rw [Option.some.inj h1] at hdat
    cases hdat
  have subAll : ∀ q ∈ (wl, listOf (([] : List Value).toArray) 0) :: (d, o) :: base9, q ∈ all := fun q hq => by
    rcases List.mem_cons.mp hq with rfl | hq
    · exact hwl
    · rcases List.mem_cons.mp hq with rfl | hq
      · exact m3
      · exact sub q hq
  refine list_loopT (news := (wl, listOf (([] : List Value).toArray) 0) :: (d, o) :: base9) (LoopSt w base9 m wl d ns cb bsAll kvsEnd) rfl hLa F₁ N₁ List.mem_cons_self (fun q hq => List.mem_cons_of_mem _ (subAll q hq)) (fun q hq => hoff q (subAll q hq))
    (List.mem_cons_of_mem _ (sub _ hax)) hc hdt ?_ ?_ ?_ ?_
  · rintro r m' n' ⟨_, _, _, _, _, _, _, tps, _, _, _, _, _, _, _, _, rfl, _⟩
    exact List.mem_cons_of_mem _ (List.mem_cons_of_mem _ (List.mem_append_right _ hax))
  · exact ⟨ks, [], bsAll, kvs, [], 0, o, [], _, _, hvs, hst, rfl, trivial, hd0, hz, rfl, off, hwd, (fun _ hq => nomatch hq), (chn_id m).symm⟩
  · rintro g m' news' h tk T F' N' ⟨ks', bs₁, bs₂, kvs', ws, nw, o', tps, v8, v9, hv, hs, hb, ho, hd', hz', rfl, hoff', _, htup, rfl⟩
    cases ks' with
    | cons _ _ => exact hv.elim
    | nil =>
      cases hs
      rw [List.append_nil] at hb
      subst hb
      exact ret g h tk o' ws nw tps v8 v9 T F' N' hd' ho hoff' htup
  · rintro v r I it g m' news' h tk ⟨ks', bs₁, bs₂, kvs', ws, nw, o', tps, v8, v9, hv, hs, hb, ho, hd', hz', rfl, hoff', hwd', htup, rfl⟩ hic T F' N' hI
    cases ks' with
    | nil => exact hv.elim
    | cons k ks' =>
      obtain ⟨⟨t, rfl⟩, hv⟩ := hv
      rw [chn_num] at F'
      have G' := G.turn XB TB (g' := g) T
      have e0 : m (Str.ofString "conn") = some (.ref x) → chn m (some (.int k t)) v9 (Str.ofString "conn") = some (.ref x) := fun e => (chn_ne (by decide) (by decide)).trans e
      have e1 : m (Str.ofString "raw") = some (.ref rx) → chn m (some (.int k t)) v9 (Str.ofString "raw") = some (.ref rx) := fun e => (chn_ne (by decide) (by decide)).trans e
      have e2 : m (Str.ofString "wanted") = some (.ref wl) → chn m (some (.int k t)) v9 (Str.ofString "wanted") = some (.ref wl) := fun e => (chn_ne (by decide) (by decide)).trans e
      have up : ∀ {q}, q ∈ base9 → q ∈ (I, it) :: (wl, listOf ws.toArray nw) :: (d, o') :: (tps ++ base9) := fun hq => List.mem_cons_of_mem _ (List.mem_cons_of_mem _ (List.mem_cons_of_mem _ (List.mem_append_right _ hq)))
      have hwl' : ws.length ≤ 100 := by
        have := Outs.len ho
        have h3 := congrArg List.length hb
        rw [List.length_append] at h3
        omega
      have hId : I ≠ d := fun e => hI (d, o') (List.mem_cons_of_mem _ List.mem_cons_self) e.symm
      have hIw : I ≠ wl := fun e => hI (wl, listOf ws.toArray nw) List.mem_cons_self e.symm
      have V : ∀ o'', UpdF wl (listOf ws.toArray nw) ((I, it) :: (wl, listOf ws.toArray nw) :: (d, o'') :: (tps ++ base9)) (fun w' => (I, it) :: (wl, w') :: (d, o'') :: (tps ++ base9)) := fun o'' =>
        UpdF.tail hIw (UpdF.head fun q hq => by
          rcases List.mem_cons.mp hq with rfl | hq
          · exact hwd'.symm
          · exact (hoff' q hq).1)
      refine wpAny_execs_cons ?_
      cases hs with
      | ok hc' hs =>
        refine try_ok (ga := fun o'' => (I, it) :: (wl, listOf ws.toArray nw) :: (d, o'') :: (tps ++ base9)) (gg := fun o'' w' => (I, it) :: (wl, w') :: (d, o'') :: (tps ++ base9)) (ws := ws) (nw := nw) G'.B F' G'.X N' G'.T hk XB TB G'.D KtsTurn.refl hd hu (up x1) (up x2) (up x4) (up x5) g4 k2 (up m1) (up m2)
          (List.mem_cons_of_mem _ (List.mem_cons_of_mem _ List.mem_cons_self)) hd' hlo hz' (e0 hm1) (e1 hm2) (chn_at _ _ _) (e2 hm4) rfl hsc hwl'
          (UpdF.tail hId (UpdF.tail hwd' (UpdF.head fun q hq => (hoff' q hq).2))) V hc' ?_
        intro h' tk' o'' nw' F'' N'' hd''
        refine wpAny_execs_nil ?_
        refine ⟨g, h', tk', _, _, rfl, T, F'', N'', ?_, ks', bs₁ ++ [true], _, without kvs' k, ws ++ [Value.none], nw', o'', tps, _, _, hv, hs, ?_, Outs.snoc (.inl ⟨rfl, rfl⟩) ho, hd'', Nat.le_trans without_len hz', rfl, hoff', hwd', htup, rfl⟩
        · intro q hq
          rcases List.mem_cons.mp hq with rfl | hq
          · exact hIw.symm
          · rcases List.mem_cons.mp hq with rfl | hq
            · exact hId.symm
            · exact hI q (List.mem_cons_of_mem _ (List.mem_cons_of_mem _ hq))
        · rw [List.append_assoc]; exact hb
      | bad hc' hs =>
        refine try_raise (gw := fun w' => (I, it) :: (wl, w') :: (d, o') :: (tps ++ base9)) (ws := ws) (nw := nw) G'.B F' G'.X N' G'.T hk XB TB G'.D T hd hu (up x1) (up x2) (up x4) (up x5) g4 k2 (up m1) (up m2)
          (List.mem_cons_of_mem _ (List.mem_cons_of_mem _ List.mem_cons_self)) hd' hlo hz' (e0 hm1) (e1 hm2) (chn_at _ _ _) (e2 hm4) rfl hsc hwl' (V o') hc' ?_
        intro g' h' tk' tp nw' u1 u2 v9' T' F'' N'' _ _ _ _ htp
        rw [chn_wr] at F''
        have htp' : ∀ q ∈ tps ++ base9, q.1 ≠ tp := fun q hq => htp q (List.mem_cons_of_mem _ (List.mem_cons_of_mem _ (List.mem_cons_of_mem _ hq)))
        refine wpAny_execs_nil ?_
        refine ⟨g', h', tk', _, (wl, listOf (ws ++ [Value.ref tp]).toArray nw') :: (d, o') :: (((tp, tupObj [.int 10 u1, .int 25 u2]) :: tps) ++ base9), rfl, T', F'', ?_, ?_, ks', bs₁ ++ [false], _, kvs', ws ++ [Value.ref tp], nw', o', (tp, tupObj [.int 10 u1, .int 25 u2]) :: tps, _, _, hv, hs, ?_,
          Outs.snoc (.inr ⟨rfl, tp, u1, u2, rfl, List.mem_cons_self⟩) (ho.mono fun q hq => List.mem_cons_of_mem _ hq), hd', hz', rfl, ?_, hwd', (fun q hq => by
            rcases List.mem_cons.mp hq with rfl | hq
            · rfl
            · exact htup q hq), rfl⟩
        · intro q hq
          refine N'' q ?_
          simp only [List.mem_cons, List.mem_append, List.cons_append] at hq ⊢
          rcases hq with h | h | h | h | h | h
          · exact .inr (.inl h)
          · exact .inr (.inr (.inl h))
          · exact .inr (.inr (.inr (.inl h)))
          · exact .inl h
          · exact .inr (.inr (.inr (.inr (.inl h))))
          · exact .inr (.inr (.inr (.inr (.inr h))))
        · intro q hq
          simp only [List.mem_cons, List.mem_append, List.cons_append] at hq
          rcases hq with rfl | rfl | rfl | h | h
          · exact hIw.symm
          · exact hId.symm
          · exact (htp _ List.mem_cons_self).symm
          · exact hI q (List.mem_cons_of_mem _ (List.mem_cons_of_mem _ (List.mem_append_left _ h)))
          · exact hI q (List.mem_cons_of_mem _ (List.mem_cons_of_mem _ (List.mem_append_right _ h)))
        · rw [List.append_assoc]; exact hb
        · intro q hq
          rw [List.cons_append] at hq
          rcases List.mem_cons.mp hq with rfl | hq
          · exact ⟨(htp (wl, listOf ws.toArray nw) (List.mem_cons_of_mem _ List.mem_cons_self)).symm, (htp (d, o') (List.mem_cons_of_mem _ (List.mem_cons_of_mem _ List.mem_cons_self))).symm⟩
          · exact hoff' q hq
end
end Mine
end
section
namespace Mine
theorem ltAll {D p : Addr} {o : Obj} {l : List (Addr × Obj)} (h : ∀ q ∈ l, q.1 < D) (m : (p, o) ∈ l) : @LT.lt Nat _ p D := h _ m
theorem For_T {prog : Program} {w : World} {A : Around} {E : Value → Shared → Prop} {s : Shared} {env : Env} {x : Str} {body : List Stmt} {Q : Flow → Shared → Prop} {m : Str → Option Value} {px pos : Pos} {iter : Expr} {g₀ g : Heap} {La : Addr} (T : KtsTurn [La] g₀ g) (F : Fr g env.locals s.heap m) (hx : env.kindOf x = some .local)
    (hp : (env.scope.kind == .class || (env.scope.kind == .module && env.locals != env.globals)) = false)
    (h : wpAny (model prog w) A (eval iter env) (fun xv s₁ => wpAny (model prog w) A (pyIter xv) (fun it s₂ => LoopAtV prog w A (hideAll g₀ [La]) env x body Q E it s₂) E s₁) E s)
    (hs : ∀ x, foldedSetIterable iter env x = pure x := by intro _; rfl)
    (hE : PassesOwn (model prog w) A env E := by passes_own) :
    wpAny (model prog w) A (exec (.For (.Name x px) iter body [] pos) env) Q E s := For_invV (hideAll g₀ [La]) hx hp h hs
section
variable {w : World} {p : Program} {loose : List Str} {mean : ExcName → Option Value} {mg mb : Str → Option Value} {dp un : Nat} {gd : Option (List Code)} {cn : Str} {cs : Scope} {a : Addr} {ccd : Value} {cl : List (Str × Addr)} {outer : List Env} {A₀ : Around} {base h₀ : Heap} {L : Addr} {m : Str → Option Value}
  {s : Shared} {Q E : Value → Shared → Prop}
theorem inner_loop2 {sc : Scope} {La x dx rx drx lx dlx d le wl : Addr} {es er : List DictEntry} {n nr : Nat} {o o₀ : Obj} {kvs kvsEnd : List (Int × Value)} {lim rp : Value} {ns : Int} {cb : Array UInt8} {t1 t2 t3 t4 t5 t6 t8 tb : Tok} {g₀ : Heap} {base9 : List (Addr × Obj)} {bsAll : List Bool} {Q : Flow → Shared → Prop} {x9 : Str} {bd : List Stmt} {ax : Addr} {lo : Obj} {n9 : Nat} {ks : List Int} {vs : List Value} {all : List (Addr × Obj)}
  (G : Gr (ktrTop dp un gd cn cs La a ccd cl []) base [envX cn cs La a ccd cl] (Mine.hd.heap_39 w.params) p loose mean mg mb g₀) (XB : (Mine.hd.heap_39 w.params).In base) (TB : Top p loose mean mg mb base)
  (hLa : g₀.get? La = some o₀) (T0 : KtsTurn [La] g₀ h₀) (F : Fr h₀ L s.heap m) (N : News h₀ L s.heap all) (hk : cs.kind = .function)
  (hd : dp + 120 < recursionLimit) (hu : un + 900 < cLine)
  (hwl : (wl, listOf (([] : List Value).toArray) 0) ∈ all) (m3 : (d, o) ∈ all) (sub : ∀ p ∈ base9, p ∈ all) (off : ∀ p ∈ base9, p.1 ≠ wl ∧ p.1 ≠ d)
  (x1 : (x, instObj 470 dx) ∈ base9) (x2 : (dx, dictOf es n) ∈ base9) (x4 : (rx, instObj 323 drx) ∈ base9) (x5 : (drx, dictOf er nr) ∈ base9)
  (g4 : getL (Str.ofString "local") es = some (some (.ref lx))) (k2 : getL (Str.ofString "dcid") er = some (some (.bytes cb tb)))
  (m1 : (lx, instObj 295 dlx) ∈ base9) (m2 : (dlx, dictOf (lids w.params t1 t2 t3 t4 t5 t6 lim d le (.int ns t8) rp false) 6) ∈ base9)
  (hd0 : o.IsDictOf (PySem.intKind PySem.Challenge.rw_rg0255_01.row.prog w) kvs) (hlo : (d == sysModules) = false) (hz : kvs.length ≤ 1000)
  (hax : (ax, lo) ∈ all) (hc : lo.cls = .type "list") (hdt : lo.data = .seq vs.toArray n9) (hwa : ax ≠ wl) (hda : ax ≠ d) (hvs : vals vs ks) (hst : Steps ns cb ks kvs bsAll kvsEnd) (hbl : bsAll.length ≤ 50)
  (hm1 : m (Str.ofString "conn") = some (.ref x)) (hm2 : m (Str.ofString "raw") = some (.ref rx)) (hm4 : m (Str.ofString "wanted") = some (.ref wl)) (hbd : bd = [rrTry]) (hsc : sc = rrSc) (hx9 : x9 = Str.ofString "number")
  (ret : ∀ g h' tk' o' ws nw tps v8 v9, KtsTurn [La] g₀ g → Fr g L h' (chn m v8 v9) → News g L h' ((wl, listOf ws.toArray nw) :: (d, o') :: (tps ++ base9)) → o'.IsDictOf (PySem.intKind PySem.Challenge.rw_rg0255_01.row.prog w) kvsEnd → Outs tps bsAll ws → (∀ p ∈ tps ++ base9, p.1 ≠ wl ∧ p.1 ≠ d) → (∀ q ∈ tps, q.2.cls = .type "tuple") → Q .next { s with heap := h', toks := tk' }) :
  wpAny (model PySem.Challenge.rw_rg0255_01.row.prog w) ((ktrTop dp un gd cn cs La a ccd cl []).deeper (envOfC (Str.ofString "_law_retired_right") sc L 500 (.ref 499))) (pyIter (.ref ax)) (fun it s₂ => LoopAtV PySem.Challenge.rw_rg0255_01.row.prog w ((ktrTop dp un gd cn cs La a ccd cl []).deeper (envOfC (Str.ofString "_law_retired_right") sc L 500 (.ref 499))) (hideAll g₀ [La]) (envOfC (Str.ofString "_law_retired_right") sc L 500 (.ref 499)) x9 bd Q E it s₂) E s := by
  refine inner_loop (base9 := (ax, lo) :: base9) (x := x) (o := o) G XB TB hLa T0 F N hk hd hu hwl m3 (fun q hq => ?_) (fun q hq => ?_) (List.mem_cons_of_mem _ x1) (List.mem_cons_of_mem _ x2) (List.mem_cons_of_mem _ x4) (List.mem_cons_of_mem _ x5) g4 k2 (List.mem_cons_of_mem _ m1) (List.mem_cons_of_mem _ m2) hd0 hlo hz List.mem_cons_self hc hdt hvs hst hbl hm1 hm2 hm4 hbd hsc hx9 ?_
  · rcases List.mem_cons.mp hq with rfl | hq
    · exact hax
    · exact sub q hq
  · rcases List.mem_cons.mp hq with rfl | hq
    · exact ⟨hwa, hda⟩
    · exact off q hq
  · intro g h' tk' o' ws nw tps v8 v9 T' F' N' hd' ho hof htup
    have up : ∀ q ∈ tps ++ base9, q ∈ tps ++ (ax, lo) :: base9 := fun q hq => by
      rcases List.mem_append.mp hq with h | h
      · exact List.mem_append_left _ h
      · exact List.mem_append_right _ (List.mem_cons_of_mem _ h)
    refine ret g h' tk' o' ws nw tps v8 v9 T' F' (fun q hq => N' q ?_) hd' ho (fun q hq => hof q (up q hq)) htup
    rcases List.mem_cons.mp hq with h | hq
    · exact h ▸ List.mem_cons_self
    · rcases List.mem_cons.mp hq with h | hq
      · exact h ▸ List.mem_cons_of_mem _ List.mem_cons_self
      · exact List.mem_cons_of_mem _ (List.mem_cons_of_mem _ (up q hq))
theorem inner0 {sc : Scope} {La x dx rx drx lx dlx d le wl : Addr} {es er : List DictEntry} {n nr : Nat} {o o₀ : Obj} {kvs kvsEnd : List (Int × Value)} {lim rp : Value} {ns : Int} {cb : Array UInt8} {t1 t2 t3 t4 t5 t6 t8 tb : Tok} {g₀ : Heap} {base9 : List (Addr × Obj)} {bsAll : List Bool} {Q : Flow → Shared → Prop} {fs : Stmt} {news : List (Addr × Obj)} {oc : Obj} {gone lm : Int} {tg tl tt : Tok}
  (G : Gr (ktrTop dp un gd cn cs La a ccd cl []) base [envX cn cs La a ccd cl] (Mine.hd.heap_39 w.params) p loose mean mg mb g₀) (XB : (Mine.hd.heap_39 w.params).In base) (TB : Top p loose mean mg mb base)
  (hLa : g₀.get? La = some o₀) (T0 : KtsTurn [La] g₀ h₀) (F : Fr h₀ L s.heap m) (N : News h₀ L s.heap news) (hk : cs.kind = .function)
  (hd : dp + 120 < recursionLimit) (hu : un + 900 < cLine)
  (hwl : (wl, listOf (([] : List Value).toArray) 0) ∈ news) (m3 : (d, o) ∈ news) (sub : ∀ p ∈ base9, p ∈ news) (off : ∀ p ∈ base9, p.1 ≠ wl ∧ p.1 ≠ d)
  (x1 : (x, instObj 470 dx) ∈ base9) (x2 : (dx, dictOf es n) ∈ base9) (x4 : (rx, instObj 323 drx) ∈ base9) (x5 : (drx, dictOf er nr) ∈ base9)
  (g4 : getL (Str.ofString "local") es = some (some (.ref lx))) (k2 : getL (Str.ofString "dcid") er = some (some (.bytes cb tb)))
  (m1 : (lx, instObj 295 dlx) ∈ base9) (m2 : (dlx, dictOf (lids w.params t1 t2 t3 t4 t5 t6 lim d le (.int ns t8) rp false) 6) ∈ base9)
  (hd0 : o.IsDictOf (PySem.intKind PySem.Challenge.rw_rg0255_01.row.prog w) kvs) (hlo : (d == sysModules) = false) (hz : kvs.length ≤ 1000)
  (c1 : (L + 1, oc) ∈ news) (c2 : oc.data = .cell (some (.int gone tg))) (hm5 : m (Str.ofString "limit") = some (.int lm tl)) (hm6 : m (Str.ofString "turn") = some (.int 0 tt))
  (hm1 : m (Str.ofString "conn") = some (.ref x)) (hm2 : m (Str.ofString "raw") = some (.ref rx)) (hm4 : m (Str.ofString "wanted") = some (.ref wl)) (hst : Steps ns cb [gone, lm] kvs bsAll kvsEnd) (hbl : bsAll.length ≤ 50) (hfs : fs = rrInner) (hsc : sc = rrSc)
  (ret : ∀ g h' tk' o' ws nw tps v8 v9, KtsTurn [La] g₀ g → Fr g L h' (chn m v8 v9) → News g L h' ((wl, listOf ws.toArray nw) :: (d, o') :: (tps ++ base9)) → o'.IsDictOf (PySem.intKind PySem.Challenge.rw_rg0255_01.row.prog w) kvsEnd → Outs tps bsAll ws → (∀ p ∈ tps ++ base9, p.1 ≠ wl ∧ p.1 ≠ d) → (∀ q ∈ tps, q.2.cls = .type "tuple") → Q .next { s with heap := h', toks := tk' }) :
  wpAny (model PySem.Challenge.rw_rg0255_01.row.prog w) ((ktrTop dp un gd cn cs La a ccd cl []).deeper (envOfC (Str.ofString "_law_retired_right") sc L 500 (.ref 499))) (exec fs (envOfC (Str.ofString "_law_retired_right") sc L 500 (.ref 499))) Q E s := by
  k_with_none
  k_with "exec For Name Subscript cons nil" => (k_here; (with_unfolding_all refine' For_T ?T ?F ?k1 ?k2 ?_; (case T => assumption); (case F => assumption); (case k1 => exact rfl); (case k2 => exact rfl); k_whole))
  k_with "pyIter ref" => (k_here; (with_reducible show wpAny _ _ (pyIter (Value.ref _)) (fun it s₂ => LoopAtV _ _ _ _ _ _ _ _ _ it s₂) _ _); k_dflt (refine' inner_loop2 ?G ?XB ?TB ?hLa ?T0 ?F ?N ?hk ?hd ?hu ?hwl ?m3 ?sub ?off ?x1 ?x2 ?x4 ?x5 ?g4 ?k2 ?m1 ?m2 ?hd0 ?hlo ?hz ?hax ?hc ?hdt ?hwa ?hda ?hvs ?hst ?hbl ?hm1 ?hm2 ?hm4 ?hbd ?hsc ?hx9 ?_; (case off => assumption); (case hd0 => assumption); (case G => assumption); (case XB => assumption); (case TB => assumption); (case hLa => assumption); (case T0 => assumption); (case F => k_asm); (case N => k_asm); (case hk => exact rfl); (case hd => assumption); (case hu => assumption); (case hwl => k_mem); (case m3 => k_mem); (case hax => k_mem); (case hc => exact rfl); (case hdt => exact rfl); (case sub => (intro q_k9 hq_k9; (have hq9_k9 := (by assumption : ∀ p ∈ _, p ∈ _) q_k9 hq_k9); (repeat (first | exact hq9_k9 | refine List.mem_cons_of_mem _ ?_)))); (case x1 => assumption); (case x2 => assumption); (case x4 => assumption); (case x5 => assumption); (case g4 => assumption); (case k2 => assumption); (case m1 => assumption); (case m2 => assumption); (case hlo => assumption); (case hz => assumption); (case hwa => exact Nat.ne_of_gt (ltAll (by assumption) (by assumption))); (case hda => exact Nat.ne_of_gt (ltAll (by assumption) (by assumption))); (case hst => assumption); (case hvs => first | exact ⟨⟨_, rfl⟩, trivial⟩ | exact ⟨⟨_, rfl⟩, ⟨⟨_, rfl⟩, trivial⟩⟩); (case hbl => assumption); (case hm1 => first | assumption | (simp; done) | (with_unfolding_all exact rfl)); (case hm2 => first | assumption | (simp; done) | (with_unfolding_all exact rfl)); (case hm4 => first | assumption | (simp; done) | (with_unfolding_all exact rfl)); (case hbd => exact rfl); (case hsc => exact rfl); (case hx9 => exact rfl)); ((intro g_k9 h_k9' tk_k9' o_k9' ws_k9 nw_k9 tps_k9 v8_k9 v9_k9 T_k9' F_k9' N_k9' hd_k9' ho_k9 hof_k9 htup_k9)))
  revert ret; k_fill; intro ret
  have G1 := G.turn XB TB T0
  have B := G1.B
  have X := G1.X
  have T := G1.T
  have em : ∀ m : Str → Option Value, m (Str.ofString "conn") = some (.ref x) → m (Str.ofString "raw") = some (.ref rx) → m (Str.ofString "wanted") = some (.ref wl) → m (Str.ofString "limit") = some (.int lm tl) → m (Str.ofString "turn") = some (.int 0 tt) → m = fun y => if y = Str.ofString "conn" then some (.ref x) else if y = Str.ofString "raw" then some (.ref rx) else if y = Str.ofString "wanted" then some (.ref wl) else if y = Str.ofString "limit" then some (.int lm tl) else if y = Str.ofString "turn" then some (.int 0 tt) else m y := by
    intro m e0 e1 e2 e3 e4
    funext y
    by_cases q0 : y = Str.ofString "conn"
    · rw [if_pos q0, q0, e0]
    by_cases q1 : y = Str.ofString "raw"
    · rw [if_neg q0, if_pos q1, q1, e1]
    by_cases q2 : y = Str.ofString "wanted"
    · rw [if_neg q0, if_neg q1, if_pos q2, q2, e2]
    by_cases q3 : y = Str.ofString "limit"
    · rw [if_neg q0, if_neg q1, if_neg q2, if_pos q3, q3, e3]
    by_cases q4 : y = Str.ofString "turn"
    · rw [if_neg q0, if_neg q1, if_neg q2, if_neg q3, if_pos q4, q4, e4]
    rw [if_neg q0, if_neg q1, if_neg q2, if_neg q3, if_neg q4]
  rw [em m hm1 hm2 hm4 hm5 hm6] at F
  conv at hfs => rhs; whnf
  conv at hsc => rhs; whnf
  subst hfs hsc
  obtain ⟨k9, n9, g9, c9, e9⟩ := cs
  dsimp only at hk
  subst hk
  refine wpAny_noRaise ?_
  k_steps
  exact ret _ _ _ _ _ _ _ _ _ (by assumption) (by rw [em m hm1 hm2 hm4 hm5 hm6]; assumption) (by assumption) (by assumption) (by assumption) (by assumption) (by assumption)
theorem inner1 {sc : Scope} {La x dx rx drx lx dlx d le wl : Addr} {es er : List DictEntry} {n nr : Nat} {o o₀ : Obj} {kvs kvsEnd : List (Int × Value)} {lim rp : Value} {ns : Int} {cb : Array UInt8} {t1 t2 t3 t4 t5 t6 t8 tb : Tok} {g₀ : Heap} {base9 : List (Addr × Obj)} {bsAll : List Bool} {Q : Flow → Shared → Prop} {fs : Stmt} {news : List (Addr × Obj)} {oc : Obj} {gone lm : Int} {tg tl tt : Tok}
  (G : Gr (ktrTop dp un gd cn cs La a ccd cl []) base [envX cn cs La a ccd cl] (Mine.hd.heap_39 w.params) p loose mean mg mb g₀) (XB : (Mine.hd.heap_39 w.params).In base) (TB : Top p loose mean mg mb base)
  (hLa : g₀.get? La = some o₀) (T0 : KtsTurn [La] g₀ h₀) (F : Fr h₀ L s.heap m) (N : News h₀ L s.heap news) (hk : cs.kind = .function)
  (hd : dp + 120 < recursionLimit) (hu : un + 900 < cLine)
  (hwl : (wl, listOf (([] : List Value).toArray) 0) ∈ news) (m3 : (d, o) ∈ news) (sub : ∀ p ∈ base9, p ∈ news) (off : ∀ p ∈ base9, p.1 ≠ wl ∧ p.1 ≠ d)
  (x1 : (x, instObj 470 dx) ∈ base9) (x2 : (dx, dictOf es n) ∈ base9) (x4 : (rx, instObj 323 drx) ∈ base9) (x5 : (drx, dictOf er nr) ∈ base9)
  (g4 : getL (Str.ofString "local") es = some (some (.ref lx))) (k2 : getL (Str.ofString "dcid") er = some (some (.bytes cb tb)))
  (m1 : (lx, instObj 295 dlx) ∈ base9) (m2 : (dlx, dictOf (lids w.params t1 t2 t3 t4 t5 t6 lim d le (.int ns t8) rp false) 6) ∈ base9)
  (hd0 : o.IsDictOf (PySem.intKind PySem.Challenge.rw_rg0255_01.row.prog w) kvs) (hlo : (d == sysModules) = false) (hz : kvs.length ≤ 1000)
  (c1 : (L + 1, oc) ∈ news) (c2 : oc.data = .cell (some (.int gone tg))) (hm5 : m (Str.ofString "limit") = some (.int lm tl)) (hm6 : m (Str.ofString "turn") = some (.int 1 tt))
  (hm1 : m (Str.ofString "conn") = some (.ref x)) (hm2 : m (Str.ofString "raw") = some (.ref rx)) (hm4 : m (Str.ofString "wanted") = some (.ref wl)) (hst : Steps ns cb [gone] kvs bsAll kvsEnd) (hbl : bsAll.length ≤ 50) (hfs : fs = rrInner) (hsc : sc = rrSc)
  (ret : ∀ g h' tk' o' ws nw tps v8 v9, KtsTurn [La] g₀ g → Fr g L h' (chn m v8 v9) → News g L h' ((wl, listOf ws.toArray nw) :: (d, o') :: (tps ++ base9)) → o'.IsDictOf (PySem.intKind PySem.Challenge.rw_rg0255_01.row.prog w) kvsEnd → Outs tps bsAll ws → (∀ p ∈ tps ++ base9, p.1 ≠ wl ∧ p.1 ≠ d) → (∀ q ∈ tps, q.2.cls = .type "tuple") → Q .next { s with heap := h', toks := tk' }) :
  wpAny (model PySem.Challenge.rw_rg0255_01.row.prog w) ((ktrTop dp un gd cn cs La a ccd cl []).deeper (envOfC (Str.ofString "_law_retired_right") sc L 500 (.ref 499))) (exec fs (envOfC (Str.ofString "_law_retired_right") sc L 500 (.ref 499))) Q E s := by
  revert ret; k_fill; intro ret
  have G1 := G.turn XB TB T0
  have B := G1.B
  have X := G1.X
  have T := G1.T
  have em : ∀ m : Str → Option Value, m (Str.ofString "conn") = some (.ref x) → m (Str.ofString "raw") = some (.ref rx) → m (Str.ofString "wanted") = some (.ref wl) → m (Str.ofString "limit") = some (.int lm tl) → m (Str.ofString "turn") = some (.int 1 tt) → m = fun y => if y = Str.ofString "conn" then some (.ref x) else if y = Str.ofString "raw" then some (.ref rx) else if y = Str.ofString "wanted" then some (.ref wl) else if y = Str.ofString "limit" then some (.int lm tl) else if y = Str.ofString "turn" then some (.int 1 tt) else m y := by
    intro m e0 e1 e2 e3 e4
    funext y
    by_cases q0 : y = Str.ofString "conn"
    · rw [if_pos q0, q0, e0]
    by_cases q1 : y = Str.ofString "raw"
    · rw [if_neg q0, if_pos q1, q1, e1]
    by_cases q2 : y = Str.ofString "wanted"
    · rw [if_neg q0, if_neg q1, if_pos q2, q2, e2]
    by_cases q3 : y = Str.ofString "limit"
    · rw [if_neg q0, if_neg q1, if_neg q2, if_pos q3, q3, e3]
    by_cases q4 : y = Str.ofString "turn"
    · rw [if_neg q0, if_neg q1, if_neg q2, if_neg q3, if_pos q4, q4, e4]
    rw [if_neg q0, if_neg q1, if_neg q2, if_neg q3, if_neg q4]
  rw [em m hm1 hm2 hm4 hm5 hm6] at F
  conv at hfs => rhs; whnf
  conv at hsc => rhs; whnf
  subst hfs hsc
  obtain ⟨k9, n9, g9, c9, e9⟩ := cs
  dsimp only at hk
  subst hk
  refine wpAny_noRaise ?_
  k_steps
  exact ret _ _ _ _ _ _ _ _ _ (by assumption) (by rw [em m hm1 hm2 hm4 hm5 hm6]; assumption) (by assumption) (by assumption) (by assumption) (by assumption) (by assumption)
end
end Mine
end
section
namespace Mine
theorem perm1 {α : Type} {q a b c d e f : α} {R : List α} (h : q ∈ b :: c :: e :: f :: R) : q ∈ a :: b :: c :: d :: e :: f :: R := by
  simp only [List.mem_cons] at h ⊢
  rcases h with h | h | h | h | h <;> simp [h]
theorem perm2 {α : Type} {q a b c d e f : α} {T R : List α} (h : q ∈ b :: c :: d :: e :: f :: a :: (T ++ R)) : q ∈ a :: d :: (T ++ b :: c :: e :: f :: R) := by
  simp only [List.mem_cons, List.mem_append] at h ⊢
  rcases h with h | h | h | h | h | h | h | h <;> simp [h]
theorem perm3 {α : Type} {q b c e f : α} {R : List α} (h : q ∈ b :: c :: e :: f :: R) : q = b ∨ q = c ∨ q = e ∨ q = f ∨ q ∈ R := by
  simpa only [List.mem_cons] using h
section
variable {w : World} {p : Program} {loose : List Str} {mean : ExcName → Option Value} {mg mb : Str → Option Value} {dp un : Nat} {gd : Option (List Code)} {cn : Str} {cs : Scope} {a : Addr} {ccd : Value} {cl : List (Str × Addr)} {outer : List Env} {A₀ : Around} {base h₀ : Heap} {L : Addr} {m : Str → Option Value}
  {s : Shared} {Q E : Value → Shared → Prop}
theorem inner0T {sc : Scope} {La x dx rx drx lx dlx d le ol wl : Addr} {es er : List DictEntry} {n nr n1 n2 : Nat} {o o₀ oc : Obj} {kvs kvsEnd : List (Int × Value)} {evs ows : List Value} {lim ns gone : Int} {cb : Array UInt8} {t1 t2 t3 t4 t5 t6 t7 t8 t9 tb tg tl tt : Tok} {g₀ : Heap} {R : List (Addr × Obj)} {bsAll : List Bool} {fs : Stmt} {Q : Flow → Shared → Prop}
  (G : Gr (ktrTop dp un gd cn cs La a ccd cl []) base [envX cn cs La a ccd cl] (Mine.hd.heap_39 w.params) p loose mean mg mb g₀) (XB : (Mine.hd.heap_39 w.params).In base) (TB : Top p loose mean mg mb base)
  (hLa : g₀.get? La = some o₀) (T0 : KtsTurn [La] g₀ h₀) (F : Fr h₀ L s.heap m) (N : News h₀ L s.heap ((wl, listOf (([] : List Value).toArray) 0) :: (lx, instObj 295 dlx) :: (dlx, dictOf (lids w.params t1 t2 t3 t4 t5 t6 (.int lim t7) d le (.int ns t8) (.int 0 t9) false) 6) :: (d, o) :: (le, listOf evs.toArray n1) :: (ol, listOf ows.toArray n2) :: R)) (hk : cs.kind = .function)
  (hd : dp + 120 < recursionLimit) (hu : un + 900 < cLine)
  (x1 : (x, instObj 470 dx) ∈ R) (x2 : (dx, dictOf es n) ∈ R) (x4 : (rx, instObj 323 drx) ∈ R) (x5 : (drx, dictOf er nr) ∈ R)
  (g4 : getL (Str.ofString "local") es = some (some (.ref lx))) (k2 : getL (Str.ofString "dcid") er = some (some (.bytes cb tb)))
  (hd0 : o.IsDictOf (PySem.intKind PySem.Challenge.rw_rg0255_01.row.prog w) kvs) (hlo : (d == sysModules) = false) (hz : kvs.length ≤ 1000)
  (w1 : @LT.lt Nat _ lx wl) (w2 : @LT.lt Nat _ dlx wl) (w3 : @LT.lt Nat _ d wl) (w4 : @LT.lt Nat _ le wl) (w5 : @LT.lt Nat _ ol wl) (w6 : ∀ p ∈ R, @LT.lt Nat _ p.1 wl)
  (ne2 : @Ne Nat lx d) (ne4 : @Ne Nat dlx d) (ne6 : @Ne Nat d le) (ne9 : @Ne Nat ol d) (r1 : ∀ p ∈ R, p.1 ≠ lx) (r2 : ∀ p ∈ R, p.1 ≠ dlx) (r3 : ∀ p ∈ R, p.1 ≠ d) (r4 : ∀ p ∈ R, p.1 ≠ le) (r5 : ∀ p ∈ R, p.1 ≠ ol)
  (c1 : (L + 1, oc) ∈ R) (c2 : oc.data = .cell (some (.int gone tg))) (hm5 : m (Str.ofString "limit") = some (.int lim tl)) (hm6 : m (Str.ofString "turn") = some (.int 0 tt))
  (hm1 : m (Str.ofString "conn") = some (.ref x)) (hm2 : m (Str.ofString "raw") = some (.ref rx)) (hm4 : m (Str.ofString "wanted") = some (.ref wl)) (hst : Steps ns cb [gone, lim] kvs bsAll kvsEnd) (hbl : bsAll.length ≤ 50) (hfs : fs = rrInner) (hsc : sc = rrSc)
  (ret : ∀ g h' tk' o' ws nw tps v8 v9, KtsTurn [La] g₀ g → Fr g L h' (chn m v8 v9) → News g L h' ((lx, instObj 295 dlx) :: (dlx, dictOf (lids w.params t1 t2 t3 t4 t5 t6 (.int lim t7) d le (.int ns t8) (.int 0 t9) false) 6) :: (d, o') :: (le, listOf evs.toArray n1) :: (ol, listOf ows.toArray n2) :: (wl, listOf ws.toArray nw) :: (tps ++ R)) → o'.IsDictOf (PySem.intKind PySem.Challenge.rw_rg0255_01.row.prog w) kvsEnd → Outs tps bsAll ws →
    (∀ p ∈ (wl, listOf ws.toArray nw) :: (tps ++ R), p.1 ≠ lx) → (∀ p ∈ (wl, listOf ws.toArray nw) :: (tps ++ R), p.1 ≠ dlx) → (∀ p ∈ (wl, listOf ws.toArray nw) :: (tps ++ R), p.1 ≠ d) → (∀ p ∈ (wl, listOf ws.toArray nw) :: (tps ++ R), p.1 ≠ le) → (∀ p ∈ (wl, listOf ws.toArray nw) :: (tps ++ R), p.1 ≠ ol) → (∀ p ∈ tps ++ R, p.1 ≠ wl) → Q .next { s with heap := h', toks := tk' }) :
  wpAny (model PySem.Challenge.rw_rg0255_01.row.prog w) ((ktrTop dp un gd cn cs La a ccd cl []).deeper (envOfC (Str.ofString "_law_retired_right") sc L 500 (.ref 499))) (exec fs (envOfC (Str.ofString "_law_retired_right") sc L 500 (.ref 499))) Q E s := by
  refine inner0 (base9 := (lx, instObj 295 dlx) :: (dlx, dictOf (lids w.params t1 t2 t3 t4 t5 t6 (.int lim t7) d le (.int ns t8) (.int 0 t9) false) 6) :: (le, listOf evs.toArray n1) :: (ol, listOf ows.toArray n2) :: R) (o := o) (x := x) G XB TB hLa T0 F N hk hd hu List.mem_cons_self (List.mem_cons_of_mem _ (List.mem_cons_of_mem _ (List.mem_cons_of_mem _ (List.mem_cons_self)))) (fun q hq => ?_) (fun q hq => ?_)
    (List.mem_cons_of_mem _ (List.mem_cons_of_mem _ (List.mem_cons_of_mem _ (List.mem_cons_of_mem _ (x1))))) (List.mem_cons_of_mem _ (List.mem_cons_of_mem _ (List.mem_cons_of_mem _ (List.mem_cons_of_mem _ (x2))))) (List.mem_cons_of_mem _ (List.mem_cons_of_mem _ (List.mem_cons_of_mem _ (List.mem_cons_of_mem _ (x4))))) (List.mem_cons_of_mem _ (List.mem_cons_of_mem _ (List.mem_cons_of_mem _ (List.mem_cons_of_mem _ (x5))))) g4 k2 List.mem_cons_self (List.mem_cons_of_mem _ List.mem_cons_self) hd0 hlo hz (List.mem_cons_of_mem _ (List.mem_cons_of_mem _ (List.mem_cons_of_mem _ (List.mem_cons_of_mem _ (List.mem_cons_of_mem _ (List.mem_cons_of_mem _ (c1))))))) c2 hm5 hm6 hm1 hm2 hm4 hst hbl hfs hsc ?_
  · exact perm1 hq
  · rcases perm3 hq with rfl | rfl | rfl | rfl | hq
    · exact ⟨Nat.ne_of_lt w1, ne2⟩
    · exact ⟨Nat.ne_of_lt w2, ne4⟩
    · exact ⟨Nat.ne_of_lt w4, fun e => ne6 e.symm⟩
    · exact ⟨Nat.ne_of_lt w5, ne9⟩
    · exact ⟨Nat.ne_of_lt (w6 q hq), r3 q hq⟩
  · intro g h' tk' o' ws nw tps v8 v9 T' F' N' hd' ho hof htup
    have hin : ∀ q ∈ tps, q ∈ (wl, listOf ws.toArray nw) :: (d, o') :: (tps ++ (lx, instObj 295 dlx) :: (dlx, dictOf (lids w.params t1 t2 t3 t4 t5 t6 (.int lim t7) d le (.int ns t8) (.int 0 t9) false) 6) :: (le, listOf evs.toArray n1) :: (ol, listOf ows.toArray n2) :: R) := fun q hq => List.mem_cons_of_mem _ (List.mem_cons_of_mem _ (List.mem_append_left _ hq))
    have hB : ∀ {q}, q ∈ (lx, instObj 295 dlx) :: (dlx, dictOf (lids w.params t1 t2 t3 t4 t5 t6 (.int lim t7) d le (.int ns t8) (.int 0 t9) false) 6) :: (le, listOf evs.toArray n1) :: (ol, listOf ows.toArray n2) :: R → q ∈ (wl, listOf ws.toArray nw) :: (d, o') :: (tps ++ (lx, instObj 295 dlx) :: (dlx, dictOf (lids w.params t1 t2 t3 t4 t5 t6 (.int lim t7) d le (.int ns t8) (.int 0 t9) false) 6) :: (le, listOf evs.toArray n1) :: (ol, listOf ows.toArray n2) :: R) := fun hq => List.mem_cons_of_mem _ (List.mem_cons_of_mem _ (List.mem_append_right _ hq))
    have apart : ∀ (y : Addr) (oy : Obj), (y, oy) ∈ (lx, instObj 295 dlx) :: (dlx, dictOf (lids w.params t1 t2 t3 t4 t5 t6 (.int lim t7) d le (.int ns t8) (.int 0 t9) false) 6) :: (le, listOf evs.toArray n1) :: (ol, listOf ows.toArray n2) :: R → oy.cls ≠ .type "tuple" → ∀ q ∈ tps, q.1 ≠ y := fun y oy hy hc q hq e => by
      have h1 := (N' q (hin q hq)).1
      have h2 := (N' _ (hB hy)).1
      dsimp only at h2
      rw [e, h2] at h1
      exact hc ((congrArg Obj.cls (Option.some.inj h1)).trans (htup q hq))
    have fin : ∀ (y : Addr), (wl ≠ y) → (∀ q ∈ tps, q.1 ≠ y) → (∀ q ∈ R, q.1 ≠ y) → ∀ p ∈ (wl, listOf ws.toArray nw) :: (tps ++ R), p.1 ≠ y := fun y a b c p hp => by
      rcases List.mem_cons.mp hp with rfl | hp
      · exact a
      · rcases List.mem_append.mp hp with hp | hp
        · exact b p hp
        · exact c p hp
    refine ret g h' tk' o' ws nw tps v8 v9 T' F' (fun q hq => N' q ?_) hd' ho (fin lx (Nat.ne_of_gt w1) (apart lx _ (List.mem_cons_self) (by intro h; cases h)) r1) (fin dlx (Nat.ne_of_gt w2) (apart dlx _ (List.mem_cons_of_mem _ (List.mem_cons_self)) (by intro h; exact absurd (Value.type.inj h) (by decide))) r2) (fin d (Nat.ne_of_gt w3) (fun q hq => (hof q (List.mem_append_left _ hq)).2) r3)
      (fin le (Nat.ne_of_gt w4) (apart le _ (List.mem_cons_of_mem _ (List.mem_cons_of_mem _ (List.mem_cons_self))) (by intro h; exact absurd (Value.type.inj h) (by decide))) r4) (fin ol (Nat.ne_of_gt w5) (apart ol _ (List.mem_cons_of_mem _ (List.mem_cons_of_mem _ (List.mem_cons_of_mem _ (List.mem_cons_self)))) (by intro h; exact absurd (Value.type.inj h) (by decide))) r5) (fun q hq => ?_)
    · exact perm2 hq
    · rcases List.mem_append.mp hq with hq | hq
      · exact (hof q (List.mem_append_left _ hq)).1
      · exact Nat.ne_of_lt (w6 q hq)
theorem inner1T {sc : Scope} {La x dx rx drx lx dlx d le ol wl : Addr} {es er : List DictEntry} {n nr n1 n2 : Nat} {o o₀ oc : Obj} {kvs kvsEnd : List (Int × Value)} {evs ows : List Value} {lim ns gone : Int} {cb : Array UInt8} {t1 t2 t3 t4 t5 t6 t7 t8 t9 tb tg tl tt : Tok} {g₀ : Heap} {R : List (Addr × Obj)} {bsAll : List Bool} {fs : Stmt} {Q : Flow → Shared → Prop}
  (G : Gr (ktrTop dp un gd cn cs La a ccd cl []) base [envX cn cs La a ccd cl] (Mine.hd.heap_39 w.params) p loose mean mg mb g₀) (XB : (Mine.hd.heap_39 w.params).In base) (TB : Top p loose mean mg mb base)
  (hLa : g₀.get? La = some o₀) (T0 : KtsTurn [La] g₀ h₀) (F : Fr h₀ L s.heap m) (N : News h₀ L s.heap ((wl, listOf (([] : List Value).toArray) 0) :: (lx, instObj 295 dlx) :: (dlx, dictOf (lids w.params t1 t2 t3 t4 t5 t6 (.int lim t7) d le (.int ns t8) (.int 0 t9) false) 6) :: (d, o) :: (le, listOf evs.toArray n1) :: (ol, listOf ows.toArray n2) :: R)) (hk : cs.kind = .function)
  (hd : dp + 120 < recursionLimit) (hu : un + 900 < cLine)
  (x1 : (x, instObj 470 dx) ∈ R) (x2 : (dx, dictOf es n) ∈ R) (x4 : (rx, instObj 323 drx) ∈ R) (x5 : (drx, dictOf er nr) ∈ R)
  (g4 : getL (Str.ofString "local") es = some (some (.ref lx))) (k2 : getL (Str.ofString "dcid") er = some (some (.bytes cb tb)))
  (hd0 : o.IsDictOf (PySem.intKind PySem.Challenge.rw_rg0255_01.row.prog w) kvs) (hlo : (d == sysModules) = false) (hz : kvs.length ≤ 1000)
  (w1 : @LT.lt Nat _ lx wl) (w2 : @LT.lt Nat _ dlx wl) (w3 : @LT.lt Nat _ d wl) (w4 : @LT.lt Nat _ le wl) (w5 : @LT.lt Nat _ ol wl) (w6 : ∀ p ∈ R, @LT.lt Nat _ p.1 wl)
  (ne2 : @Ne Nat lx d) (ne4 : @Ne Nat dlx d) (ne6 : @Ne Nat d le) (ne9 : @Ne Nat ol d) (r1 : ∀ p ∈ R, p.1 ≠ lx) (r2 : ∀ p ∈ R, p.1 ≠ dlx) (r3 : ∀ p ∈ R, p.1 ≠ d) (r4 : ∀ p ∈ R, p.1 ≠ le) (r5 : ∀ p ∈ R, p.1 ≠ ol)
  (c1 : (L + 1, oc) ∈ R) (c2 : oc.data = .cell (some (.int gone tg))) (hm5 : m (Str.ofString "limit") = some (.int lim tl)) (hm6 : m (Str.ofString "turn") = some (.int 1 tt))
  (hm1 : m (Str.ofString "conn") = some (.ref x)) (hm2 : m (Str.ofString "raw") = some (.ref rx)) (hm4 : m (Str.ofString "wanted") = some (.ref wl)) (hst : Steps ns cb [gone] kvs bsAll kvsEnd) (hbl : bsAll.length ≤ 50) (hfs : fs = rrInner) (hsc : sc = rrSc)
  (ret : ∀ g h' tk' o' ws nw tps v8 v9, KtsTurn [La] g₀ g → Fr g L h' (chn m v8 v9) → News g L h' ((lx, instObj 295 dlx) :: (dlx, dictOf (lids w.params t1 t2 t3 t4 t5 t6 (.int lim t7) d le (.int ns t8) (.int 0 t9) false) 6) :: (d, o') :: (le, listOf evs.toArray n1) :: (ol, listOf ows.toArray n2) :: (wl, listOf ws.toArray nw) :: (tps ++ R)) → o'.IsDictOf (PySem.intKind PySem.Challenge.rw_rg0255_01.row.prog w) kvsEnd → Outs tps bsAll ws →
    (∀ p ∈ (wl, listOf ws.toArray nw) :: (tps ++ R), p.1 ≠ lx) → (∀ p ∈ (wl, listOf ws.toArray nw) :: (tps ++ R), p.1 ≠ dlx) → (∀ p ∈ (wl, listOf ws.toArray nw) :: (tps ++ R), p.1 ≠ d) → (∀ p ∈ (wl, listOf ws.toArray nw) :: (tps ++ R), p.1 ≠ le) → (∀ p ∈ (wl, listOf ws.toArray nw) :: (tps ++ R), p.1 ≠ ol) → (∀ p ∈ tps ++ R, p.1 ≠ wl) → Q .next { s with heap := h', toks := tk' }) :
  wpAny (model PySem.Challenge.rw_rg0255_01.row.prog w) ((ktrTop dp un gd cn cs La a ccd cl []).deeper (envOfC (Str.ofString "_law_retired_right") sc L 500 (.ref 499))) (exec fs (envOfC (Str.ofString "_law_retired_right") sc L 500 (.ref 499))) Q E s := by
  refine inner1 (base9 := (lx, instObj 295 dlx) :: (dlx, dictOf (lids w.params t1 t2 t3 t4 t5 t6 (.int lim t7) d le (.int ns t8) (.int 0 t9) false) 6) :: (le, listOf evs.toArray n1) :: (ol, listOf ows.toArray n2) :: R) (o := o) (x := x) G XB TB hLa T0 F N hk hd hu List.mem_cons_self (List.mem_cons_of_mem _ (List.mem_cons_of_mem _ (List.mem_cons_of_mem _ (List.mem_cons_self)))) (fun q hq => ?_) (fun q hq => ?_)
    (List.mem_cons_of_mem _ (List.mem_cons_of_mem _ (List.mem_cons_of_mem _ (List.mem_cons_of_mem _ (x1))))) (List.mem_cons_of_mem _ (List.mem_cons_of_mem _ (List.mem_cons_of_mem _ (List.mem_cons_of_mem _ (x2))))) (List.mem_cons_of_mem _ (List.mem_cons_of_mem _ (List.mem_cons_of_mem _ (List.mem_cons_of_mem _ (x4))))) (List.mem_cons_of_mem _ (List.mem_cons_of_mem _ (List.mem_cons_of_mem _ (List.mem_cons_of_mem _ (x5))))) g4 k2 List.mem_cons_self (List.mem_cons_of_mem _ List.mem_cons_self) hd0 hlo hz (List.mem_cons_of_mem _ (List.mem_cons_of_mem _ (List.mem_cons_of_mem _ (List.mem_cons_of_mem _ (List.mem_cons_of_mem _ (List.mem_cons_of_mem _ (c1))))))) c2 hm5 hm6 hm1 hm2 hm4 hst hbl hfs hsc ?_
  · exact perm1 hq
  · rcases perm3 hq with rfl | rfl | rfl | rfl | hq
    · exact ⟨Nat.ne_of_lt w1, ne2⟩
    · exact ⟨Nat.ne_of_lt w2, ne4⟩
    · exact ⟨Nat.ne_of_lt w4, fun e => ne6 e.symm⟩
    · exact ⟨Nat.ne_of_lt w5, ne9⟩
    · exact ⟨Nat.ne_of_lt (w6 q hq), r3 q hq⟩
  · intro g h' tk' o' ws nw tps v8 v9 T' F' N' hd' ho hof htup
    have hin : ∀ q ∈ tps, q ∈ (wl, listOf ws.toArray nw) :: (d, o') :: (tps ++ (lx, instObj 295 dlx) :: (dlx, dictOf (lids w.params t1 t2 t3 t4 t5 t6 (.int lim t7) d le (.int ns t8) (.int 0 t9) false) 6) :: (le, listOf evs.toArray n1) :: (ol, listOf ows.toArray n2) :: R) := fun q hq => List.mem_cons_of_mem _ (List.mem_cons_of_mem _ (List.mem_append_left _ hq))
    have hB : ∀ {q}, q ∈ (lx, instObj 295 dlx) :: (dlx, dictOf (lids w.params t1 t2 t3 t4 t5 t6 (.int lim t7) d le (.int ns t8) (.int 0 t9) false) 6) :: (le, listOf evs.toArray n1) :: (ol, listOf ows.toArray n2) :: R → q ∈ (wl, listOf ws.toArray nw) :: (d, o') :: (tps ++ (lx, instObj 295 dlx) :: (dlx, dictOf (lids w.params t1 t2 t3 t4 t5 t6 (.int lim t7) d le (.int ns t8) (.int 0 t9) false) 6) :: (le, listOf evs.toArray n1) :: (ol, listOf ows.toArray n2) :: R) := fun hq => List.mem_cons_of_mem _ (List.mem_cons_of_mem _ (List.mem_append_right _ hq))
    have apart : ∀ (y : Addr) (oy : Obj), (y, oy) ∈ (lx, instObj 295 dlx) :: (dlx, dictOf (lids w.params t1 t2 t3 t4 t5 t6 (.int lim t7) d le (.int ns t8) (.int 0 t9) false) 6) :: (le, listOf evs.toArray n1) :: (ol, listOf ows.toArray n2) :: R → oy.cls ≠ .type "tuple" → ∀ q ∈ tps, q.1 ≠ y := fun y oy hy hc q hq e => by
      have h1 := (N' q (hin q hq)).1
      have h2 := (N' _ (hB hy)).1
      dsimp only at h2
      rw [e, h2] at h1
      exact hc ((congrArg Obj.cls (Option.some.inj h1)).trans (htup q hq))
    have fin : ∀ (y : Addr), (wl ≠ y) → (∀ q ∈ tps, q.1 ≠ y) → (∀ q ∈ R, q.1 ≠ y) → ∀ p ∈ (wl, listOf ws.toArray nw) :: (tps ++ R), p.1 ≠ y := fun y a b c p hp => by
      rcases List.mem_cons.mp hp with rfl | hp
      · exact a
      · rcases List.mem_append.mp hp with hp | hp
        · exact b p hp
        · exact c p hp
    refine ret g h' tk' o' ws nw tps v8 v9 T' F' (fun q hq => N' q ?_) hd' ho (fin lx (Nat.ne_of_gt w1) (apart lx _ (List.mem_cons_self) (by intro h; cases h)) r1) (fin dlx (Nat.ne_of_gt w2) (apart dlx _ (List.mem_cons_of_mem _ (List.mem_cons_self)) (by intro h; exact absurd (Value.type.inj h) (by decide))) r2) (fin d (Nat.ne_of_gt w3) (fun q hq => (hof q (List.mem_append_left _ hq)).2) r3)
      (fin le (Nat.ne_of_gt w4) (apart le _ (List.mem_cons_of_mem _ (List.mem_cons_of_mem _ (List.mem_cons_self))) (by intro h; exact absurd (Value.type.inj h) (by decide))) r4) (fin ol (Nat.ne_of_gt w5) (apart ol _ (List.mem_cons_of_mem _ (List.mem_cons_of_mem _ (List.mem_cons_of_mem _ (List.mem_cons_self)))) (by intro h; exact absurd (Value.type.inj h) (by decide))) r5) (fun q hq => ?_)
    · exact perm2 hq
    · rcases List.mem_append.mp hq with hq | hq
      · exact (hof q (List.mem_append_left _ hq)).1
      · exact Nat.ne_of_lt (w6 q hq)
end
end Mine
end
section
namespace Mine
def rrLeft : Stmt := rrTurn.getD 5 (.Pass ⟨0, 0, 0, 0⟩)
theorem len_F {w : World} {A : Around} {E : Value → Shared → Prop} {s : Shared} {h₀ : Heap} {L fl : Addr} {news : List (Addr × Obj)} {frs : List Value} {n3 : Nat} {Q : Value → Shared → Prop} (N : News h₀ L s.heap news) (hm : (fl, listOf frs.toArray n3) ∈ news) (hz : frs.length ≤ 1)
    (h : Q (.int (frs.length : Int) (s.toks + 1)) { s with toks := s.toks + 1 + 1 }) : wpAny (model PySem.Challenge.rw_rg0255_01.row.prog w) A (call (.builtin "len") [.ref fl]) Q E s := by
  have e : frs.toArray.size = frs.length := by simp
  refine PySem.Calls.call_len_list ⟨_, (N _ hm).1, rfl, _, rfl⟩ (by rw [e]; omega) ?_
  rw [e]
  exact h
theorem rsmall {b : Int} (h0 : 0 ≤ b) (h1 : b ≤ 9) : Builtin.Range.small 0 b 1 = true := by
  have : b = 0 ∨ b = 1 ∨ b = 2 ∨ b = 3 ∨ b = 4 ∨ b = 5 ∨ b = 6 ∨ b = 7 ∨ b = 8 ∨ b = 9 := by omega
  rcases this with rfl | rfl | rfl | rfl | rfl | rfl | rfl | rfl | rfl | rfl <;> first | decide | rfl
theorem rsize {b : Int} {n : Nat} (h0 : (n : Int) = b) (h1 : b ≤ 9) : Builtin.Range.rangeSize 0 b 1 = ((n : Nat) : Int) := by
  subst h0
  have : n = 0 ∨ n = 1 ∨ n = 2 ∨ n = 3 ∨ n = 4 ∨ n = 5 ∨ n = 6 ∨ n = 7 ∨ n = 8 ∨ n = 9 := by omega
  rcases this with rfl | rfl | rfl | rfl | rfl | rfl | rfl | rfl | rfl | rfl <;> first | decide | rfl
theorem rest_ind {prog : Program} {w : World} {A : Around} {h₀ : Heap} {L : Addr} {m : Str → Option Value} {env : Env} {ct elt : Expr} {x : Str} {scope : Scope} {cl : List (Str × Addr)} {s : Shared} {P : Nat → Value → Prop} {Fin : List Value → List (Addr × Obj) → Prop} {n : Nat} {news : List (Addr × Obj)} (Inv : Nat → List Value → Prop)
    (step : ∀ i ys v I oI C oC D m₂ h tk (E' : Value → Shared → Prop), i < n → Inv i ys → P i v → LCg.NsObj oC m₂ → m₂ x = some v → Fr h₀ L h m → News h₀ L h ((I, oI) :: (C, oC) :: (D, LCg.lst ys) :: news) → LCg.Off3 I C D news → ((@Ne Nat I C) ∧ (@Ne Nat I D) ∧ (@Ne Nat C D)) →
      wpAny (model prog w) A (isTrue ct (compEnvC scope cl C env) (eval ct (compEnvC scope cl C env))) (fun ok s' => if ok = true then
        wpAny (model prog w) A (eval elt (compEnvC scope cl C env)) (LCg.CompEnd h₀ L m { s with heap := h, toks := tk } I oI C oC D (LCg.lst ys) (fun _ => True) (fun y news' => news' = news ∧ Inv (i + 1) (ys ++ [y]))) E' s'
        else LCg.CompEnd h₀ L m { s with heap := h, toks := tk } I oI C oC D (LCg.lst ys) (fun _ => True) (fun _ news' => news' = news ∧ Inv (i + 1) ys) Value.none s') E' { s with heap := h, toks := tk })
    (last : ∀ ys, Inv n ys → Fin ys news) (h0 : Inv 0 []) : LCt.CompRestT prog w A h₀ L m env ct elt x scope cl s (fun _ => True) P Fin n 0 [] news := by
  have up : ∀ {h : Heap} {tk : Nat} {I C D : Addr} {oI oC oD : Obj} {r r' : Value → List (Addr × Obj) → Prop} {y : Value} {s₂ : Shared}, (∀ y n, r y n → r' y n) → LCg.CompEnd h₀ L m { s with heap := h, toks := tk } I oI C oC D oD (fun _ => True) r y s₂ → LCg.CompEnd h₀ L m { s with heap := h, toks := tk } I oI C oC D oD (fun _ => True) r' y s₂ :=
    fun hr ⟨h', tk', n', e, F, N, o, S, r⟩ => ⟨h', tk', n', e, F, N, o, S, hr _ _ r⟩
  have key : ∀ k i ys, i + k = n → Inv i ys → LCt.CompRestT prog w A h₀ L m env ct elt x scope cl s (fun _ => True) P Fin k i ys news := by
    intro k
    induction k with
    | zero =>
      intro i ys hi hv
      have : i = n := by omega
      subst this
      exact LCt.CompRestT.zero (last ys hv)
    | succ k ih =>
      intro i ys hi hv
      refine LCt.CompRestT.succ fun v I oI C oC D m₂ h tk E' p1 p2 p3 F N o ne => ?_
      refine wpAny_mono (step i ys v I oI C oC D m₂ h tk E' (by omega) hv p1 p2 p3 F N o ne) (fun ok s' hq => ?_) fun _ _ e => e
      cases ok with
      | true =>
        rw [if_pos rfl] at hq ⊢
        exact wpAny_mono hq (fun y s'' z => up (fun y' n' ⟨e, q⟩ => by subst e; exact ih (i + 1) _ (by omega) q) z) fun _ _ e => e
      | false =>
        rw [if_neg Bool.false_ne_true] at hq ⊢
        exact up (fun y' n' ⟨e, q⟩ => by subst e; exact ih (i + 1) _ (by omega) q) hq
  exact key n 0 [] (by omega) h0
def lefts (gone used : Int) (i : Nat) : List Int := ((List.range i).map fun (j : Nat) => (j : Int)).filter fun j => decide (j ≠ gone ∨ gone = used)
theorem lefts_yes {gone used : Int} {i : Nat} (h : (i : Int) ≠ gone ∨ gone = used) : lefts gone used (i + 1) = lefts gone used i ++ [(i : Int)] := by
  simp [lefts, List.range_succ, List.filter_append, h]
theorem lefts_no {gone used : Int} {i : Nat} (h : ¬((i : Int) ≠ gone ∨ gone = used)) : lefts gone used (i + 1) = lefts gone used i := by
  simp [lefts, List.range_succ, List.filter_append, h]
theorem off1_all {D : Addr} : ∀ {l : List (Addr × Obj)}, LCg.Off1 D l → ∀ p ∈ l, p.1 ≠ D
  | [], _, _, h => nomatch h
  | _ :: _, x, p, h => by
    rcases List.mem_cons.mp h with rfl | h
    · exact x.1
    · exact off1_all x.2 p h
theorem ints_snoc {vs : List Value} {ns : List Int} {k : Int} {t : Tok} (h : IntsAre vs ns) : IntsAre (vs ++ [.int k t]) (ns ++ [k]) := by
  induction h with
  | nil => exact .cons k t .nil
  | cons a u r ih => exact .cons a u ih
section
variable {w : World} {p : Program} {loose : List Str} {mean : ExcName → Option Value} {mg mb : Str → Option Value} {dp un : Nat} {gd : Option (List Code)} {cn : Str} {cs : Scope} {a : Addr} {ccd : Value} {cl : List (Str × Addr)} {outer : List Env} {A₀ : Around} {base h₀ : Heap} {L : Addr} {m : Str → Option Value}
  {s : Shared} {Q E : Value → Shared → Prop}
theorem left_spec {sc : Scope} {La fl : Addr} {n3 nn : Nat} {oc ou : Obj} {frs : List Value} {lim gone used : Int} {tg tu tl : Tok} {news : List (Addr × Obj)} {fs : Stmt} {Q : Flow → Shared → Prop}
  (G : Gr (ktrTop dp un gd cn cs La a ccd cl []) base [envX cn cs La a ccd cl] (Mine.hd.heap_39 w.params) p loose mean mg mb h₀)
  (F : Fr h₀ L s.heap m) (N : News h₀ L s.heap news) (hk : cs.kind = .function)
  (hd : dp + 200 < recursionLimit) (hu : un + 1500 < cLine) (x8 : (fl, listOf frs.toArray n3) ∈ news)
  (c1 : (L + 1, oc) ∈ news) (c2 : oc.data = .cell (some (.int gone tg))) (c3 : (L + 2, ou) ∈ news) (c4 : ou.data = .cell (some (.int used tu)))
  (hm3 : m (Str.ofString "limit") = some (.int lim tl)) (hm5 : m (Str.ofString "frames") = some (.ref fl)) (hl0 : 0 ≤ lim) (hl : lim ≤ 8) (hfl : frs.length ≤ 1)
  (hnn : (nn : Int) = lim + (frs.length : Int)) (hbd : fs = rrLeft) (hsc : sc = rrSc)
  (ret : ∀ D h' tk' ys, Fr h₀ L h' (fun z => if z = Str.ofString "left" then some (.ref D) else m z) → News h₀ L h' ((D, listOf ys.toArray ys.length) :: news) → IntsAre ys (lefts gone used nn) → (∀ p ∈ news, p.1 ≠ D) → Q .next { s with heap := h', toks := tk' }) :
  wpAny (model PySem.Challenge.rw_rg0255_01.row.prog w) ((ktrTop dp un gd cn cs La a ccd cl []).deeper (envOfC (Str.ofString "_law_retired_right") sc L 500 (.ref 499))) (exec fs (envOfC (Str.ofString "_law_retired_right") sc L 500 (.ref 499))) Q E s := by
  k_with_none
  k_with "exec Assign cons ListComp" => (k_here; k_dflt (refine LCt.Assign_ListComp_T (F₀ := by k_asm) (by rfl) (by with_unfolding_all rfl) (by with_unfolding_all rfl) (by decide) (by rfl) (by decide) (by rfl) (by rfl) (by rfl) ?_))
  k_with "CompSrcT" => (k_here; k_dflt (refine' LCt.CompSrcT.range ?hh ?F ?N ?hr ?sm ?rs ?ls ?_; (case hh => exact rfl); (case F => k_asm); (case N => k_asm); (case hr => assumption); (case sm => exact rsmall (by omega) (by omega)); (case rs => exact rsize (by assumption) (by omega)); (case ls => (rw [PySem.sizeLine_eq]; omega))); intro g_k9')
  k_with "call builtin:len" => (k_here; k_dflt (refine' len_F ?N ?m ?z ?_; (case N => k_asm); (case m => k_mem); (case z => omega)))
  have B := G.B
  have X := G.X
  revert X; k_fill; intro X
  have T := G.T
  have em : ∀ m : Str → Option Value, m (Str.ofString "limit") = some (.int lim tl) → m (Str.ofString "frames") = some (.ref fl) → m = fun y => if y = Str.ofString "limit" then some (.int lim tl) else if y = Str.ofString "frames" then some (.ref fl) else m y := by
    intro m e0 e1
    funext y
    by_cases q0 : y = Str.ofString "limit"
    · rw [if_pos q0, q0, e0]
    by_cases q1 : y = Str.ofString "frames"
    · rw [if_neg q0, if_pos q1, q1, e1]
    rw [if_neg q0, if_neg q1]
  rw [em m hm3 hm5] at F
  conv at hbd => rhs; whnf
  conv at hsc => rhs; whnf
  subst hbd hsc
  obtain ⟨k9, n9, g9, c9, e9⟩ := cs
  dsimp only at hk
  subst hk
  refine wpAny_noRaise ?_
  k_steps
  refine rest_ind (fun i ys => IntsAre ys (lefts gone used i)) ?_ ?_ .nil
  · rintro i ys v I oI C oC D m₂ h tk E' hi hv ⟨t, rfl⟩ hC hx F' N' off' ne'
    k_steps
    all_goals refine LCg.CompEnd.intro (by assumption) (by assumption) news (fun _ hp => hp) (by assumption) trivial ⟨rfl, ?_⟩
    · rw [lefts_yes (.inl (by omega))]
      simp only [Int.zero_add]
      exact ints_snoc hv
    · rw [lefts_yes (.inr (by assumption))]
      simp only [Int.zero_add]
      exact ints_snoc hv
    · rw [lefts_no (by omega)]
      exact hv
  · intro ys hv
    unfold LCg.FinA
    intro D h tk F' N' o1
    exact ret D h tk ys (by rw [em m hm3 hm5]; exact F') N' hv (off1_all o1)
end
end Mine
end
section
open PySem.SeqAt PySem.Spec
namespace Mine
def TwinS : Value → Value → Prop
  | .none, v => v = .none
  | .int a _, v => ∃ t, v = .int a t
  | .str x _, v => ∃ t, v = .str x t
  | .bytes x _, v => ∃ t, v = .bytes x t
  | _, _ => False
noncomputable def TwinsS : List Value → List Value → Prop
  | [], us => us = []
  | v :: vs, us => ∃ u us', us = u :: us' ∧ TwinS v u ∧ TwinsS vs us'
def Twin (news : List (Addr × Obj)) (v u : Value) : Prop := TwinS v u ∨ ∃ a b xs ys, v = .ref a ∧ u = .ref b ∧ a ≠ b ∧ (a, tupObj xs) ∈ news ∧ (b, tupObj ys) ∈ news ∧ TwinsS xs ys
noncomputable def Twins (news : List (Addr × Obj)) : List Value → List Value → Prop
  | [], us => us = []
  | v :: vs, us => ∃ u us', us = u :: us' ∧ Twin news v u ∧ Twins news vs us'
theorem eqAt_bytes {A : Around} {s : Shared} {b : Array UInt8} {t u : Tok} : EqAt A s (.bytes b t) (.bytes b u) true := fun prog w E Q h => eqBool_bytes (by rw [decide_eq_true rfl]; exact h)
theorem TwinS.eq {A : Around} {s : Shared} {v u : Value} (h : TwinS v u) : EqAt A s v u true := by
  cases v with
  | none => cases h; exact EqAt.same _
  | int a t => obtain ⟨t', rfl⟩ := h; have := EqAt.int_int (A := A) (s := s) a t a t'; rwa [beq_self_eq_true] at this
  | str x t => obtain ⟨t', rfl⟩ := h; have := (SeqRoads2.EqGives.str x x t t').at A s; rwa [beq_self_eq_true] at this
  | bytes x t => obtain ⟨t', rfl⟩ := h; exact eqAt_bytes
  | _ => exact h.elim
theorem TwinsS.len : ∀ {vs us : List Value}, TwinsS vs us → vs.length = us.length
  | [], _, h => by rw [h]
  | _ :: _, _, ⟨_, _, rfl, _, r⟩ => by simp [TwinsS.len r]
theorem Twins.len {news : List (Addr × Obj)} : ∀ {vs us : List Value}, Twins news vs us → vs.length = us.length
  | [], _, h => by rw [h]
  | _ :: _, _, ⟨_, _, rfl, _, r⟩ => by simp [Twins.len r]
theorem TwinsS.at : ∀ {vs us : List Value}, TwinsS vs us → ∀ j (h1 : j < vs.length) (h2 : j < us.length), TwinS vs[j] us[j]
  | [], _, _, _, h1, _ => absurd h1 (Nat.not_lt_zero _)
  | _ :: _, _, ⟨_, _, rfl, x, r⟩, 0, _, _ => x
  | _ :: _, _, ⟨_, _, rfl, x, r⟩, j + 1, h1, h2 => TwinsS.at r j (Nat.lt_of_succ_lt_succ h1) (Nat.lt_of_succ_lt_succ h2)
theorem Twins.at {news : List (Addr × Obj)} : ∀ {vs us : List Value}, Twins news vs us → ∀ j (h1 : j < vs.length) (h2 : j < us.length), Twin news vs[j] us[j]
  | [], _, _, _, h1, _ => absurd h1 (Nat.not_lt_zero _)
  | _ :: _, _, ⟨_, _, rfl, x, r⟩, 0, _, _ => x
  | _ :: _, _, ⟨_, _, rfl, x, r⟩, j + 1, h1, h2 => Twins.at r j (Nat.lt_of_succ_lt_succ h1) (Nat.lt_of_succ_lt_succ h2)
theorem all_true (n : Nat) : (List.range n).all (fun _ => true) = true := by simp
theorem Twin.eq {A : Around} {s : Shared} {h₀ : Heap} {L : Addr} {news : List (Addr × Obj)} {v u : Value} (N : News h₀ L s.heap news) (hu : A.units < cLine) (h : Twin news v u) : EqAt A s v u true := by
  rcases h with h | ⟨a, b, xs, ys, rfl, rfl, ne, m1, m2, tw⟩
  · exact h.eq
  · have := RcAt.tuples (A := A) (s := s) (e := fun _ => true) ⟨_, (N _ m1).1, rfl, _, rfl⟩ ⟨_, (N _ m2).1, rfl, _, rfl⟩ hu fun j h1 h2 => by
      have := tw.at j (by simpa using h1) (by simpa using h2)
      simpa using this.eq
    have e : xs.toArray.size = ys.toArray.size := by simpa using tw.len
    rw [all_true, e, beq_self_eq_true] at this
    exact EqAt.of_refs ne this
theorem ne_twins {prog : Program} {w : World} {A : Around} {E : Value → Shared → Prop} {s : Shared} {h₀ : Heap} {L a b : Addr} {news : List (Addr × Obj)} {vs us : List Value} {n n' : Nat} {Q : Value → Shared → Prop} (N : News h₀ L s.heap news) (m1 : (a, listOf vs.toArray n) ∈ news) (m2 : (b, listOf us.toArray n') ∈ news)
    (tw : Twins news vs us) (hu : A.units + 4 < cLine) (h : Q (.bool false) s) : wpAny (model prog w) A (compareOp .NotEq (.ref a) (.ref b)) Q E s := by
  have e : vs.toArray.size = us.toArray.size := by simpa using tw.len
  have := RcNeAt.lists (A := A) (s := s) (e := fun _ => true) ⟨_, (N _ m1).1, rfl, _, rfl⟩ ⟨_, (N _ m2).1, rfl, _, rfl⟩ e (by omega) fun j h1 h2 => by
    have := tw.at j (by simpa using h1) (by simpa using h2)
    have z := Twin.eq (A := A.in1) N (by show A.units + 1 < cLine; omega) this
    simpa using z
  rw [all_true] at this
  exact this prog w E Q h
end Mine
end
section
open PySem.Spec
namespace Mine
theorem kf_of_ints : ∀ {vs : List Value} {ns : List Int}, IntsAre vs ns → kf_ints vs = true ∧ lks_nums vs = ns
  | _, _, .nil => ⟨rfl, rfl⟩
  | _, _, .cons k t r => by
    obtain ⟨a, b⟩ := kf_of_ints r
    constructor
    · simpa [kf_ints] using a
    · simp [lks_nums, b]
theorem ints_at : ∀ {vs : List Value} {ns : List Int}, vs.length = ns.length → (∀ (j : Nat) (v : Value), vs[j]? = some v → ∃ k t, ns[j]? = some k ∧ v = .int k t) → IntsAre vs ns
  | [], [], _, _ => .nil
  | v :: vs, k :: ns, hl, h => by
    obtain ⟨k', t, e, rfl⟩ := h 0 v rfl
    simp only [List.getElem?_cons_zero, Option.some.injEq] at e
    subst e
    exact .cons k t (ints_at (by simpa using hl) fun j u hu => by
      obtain ⟨k2, t2, e2, r⟩ := h (j + 1) u (by simpa using hu)
      exact ⟨k2, t2, by simpa using e2, r⟩)
  | [], _ :: _, hl, _ => by cases hl
  | _ :: _, [], hl, _ => by cases hl
theorem lks_ints : ∀ (ns : List Int) (i : Nat) (t : Nat → Tok), IntsAre (lks_vals ns i t) ns
  | [], _, _ => .nil
  | k :: r, i, t => .cons k (t i) (lks_ints r (i + 1) t)
theorem dict_sorted {w : World} {A : Around} {E : Value → Shared → Prop} {s : Shared} {h₀ : Heap} {L d : Addr} {m : Str → Option Value} {news : List (Addr × Obj)} {o : Obj} {kvs : List (Int × Value)} {Q : Value → Shared → Prop}
    (hh : A.handled = none) (F : Fr h₀ L s.heap m) (N : News h₀ L s.heap news) (hm : (d, o) ∈ news) (hd : o.IsDictOf (PySem.intKind PySem.Challenge.rw_rg0255_01.row.prog w) kvs) (lo : (d == sysModules) = false)
    (hne : kvs ≠ []) (hl : kvs.length < 64) (ha : lks_asc (kvs.map Prod.fst) = true)
    (h : ∀ B h' tk vs n', Fr h₀ L h' m → News h₀ L h' ((B, listOf vs.toArray n') :: news) → (∀ q ∈ news, q.1 < B) → IntsAre vs (kvs.map Prod.fst) → Q (.ref B) { s with heap := h', toks := tk }) :
    wpAny (model PySem.Challenge.rw_rg0255_01.row.prog w) A (call (.builtin "sorted") [.ref d]) Q E s := by
  have hD : s.heap.DictOf (PySem.intKind PySem.Challenge.rw_rg0255_01.row.prog w) d kvs := Heap.dictOf_iff.mpr ⟨o, (N _ hm).1, hd⟩
  obtain ⟨ep, hat⟩ := hD.dictAt
  refine kdu_sorted (kdl_dict (kvs := kvs) (ep := ep) lo) hh F N hat (kdl_size (by omega)) fun B h' tk vs F' N' l1 hlen hv => ?_
  have hI : IntsAre vs (kvs.map Prod.fst) := ints_at (by rw [hlen, List.length_map]) fun j u hu => by
    obtain ⟨k, x, hx, hk⟩ := hv j u hu
    obtain ⟨t, rfl⟩ := Value.isInt_shape hk
    exact ⟨k, t, by rw [List.getElem?_map, hx]; rfl, rfl⟩
  obtain ⟨a, b⟩ := kf_of_ints hI
  refine lks_sort (its := vs.toArray) (n := 0) (q := kvs.map Prod.fst) (news' := fun t => (B, listOf (lks_vals (kvs.map Prod.fst) 0 t).toArray 2) :: news) F' N' (fun t => Upd.head fun q hq => Nat.ne_of_lt (l1 q hq)) a ?_ ?_ (by show vs.length < 64; omega) fun t h'' F'' N'' => ?_
  · show lks_ok vs _ = true
    unfold lks_ok
    rw [b, ha, Bool.and_true]
    exact List.isPerm_iff.mpr (List.Perm.refl _)
  · show vs.isEmpty = false
    cases vs with
    | nil => cases kvs with
      | nil => exact absurd rfl hne
      | cons _ _ => cases hlen
    | cons _ _ => rfl
  · exact h B h'' tk _ 2 F'' N'' l1 (lks_ints _ _ _)
end Mine
end
section
open PySem.Spec
namespace Mine
theorem Gr.turn1 {A : Around} {base g g' : Heap} {cn : Str} {cs : Scope} {La a : Addr} {ccd : Value} {cl : List (Str × Addr)} {KF : Frag} {p : Program} {loose : List Str} {mean : ExcName → Option Value} {mg mb : Str → Option Value} (T : KtsTurn [La] g g') (G : Gr A base [envX cn cs La a ccd cl] KF p loose mean mg mb g) (XB : KF.In base) (TB : Top p loose mean mg mb base) : Gr A base [envX cn cs La a ccd cl] KF p loose mean mg mb g' := G.turn XB TB T
theorem Twin.mono {l l' : List (Addr × Obj)} {v u : Value} (hs : ∀ q ∈ l, q ∈ l') (h : Twin l v u) : Twin l' v u := h.imp id fun ⟨a, b, xs, ys, e1, e2, ne, m1, m2, t⟩ => ⟨a, b, xs, ys, e1, e2, ne, hs _ m1, hs _ m2, t⟩
theorem Twins.mono {l l' : List (Addr × Obj)} (hs : ∀ q ∈ l, q ∈ l') : ∀ {vs us : List Value}, Twins l vs us → Twins l' vs us
  | [], _, h => h
  | _ :: _, _, ⟨u, us', e, x, r⟩ => ⟨u, us', e, x.mono hs, Twins.mono hs r⟩
end Mine
end
section
namespace Mine
def rrIf6 : Stmt := rrTurn.getD 6 (.Pass ⟨0, 0, 0, 0⟩)
theorem ne_same_ints {w : World} {A : Around} {E : Value → Shared → Prop} {s : Shared} {h₀ : Heap} {L a b : Addr} {news : List (Addr × Obj)} {vs us : List Value} {n n' : Nat} {ns : List Int} {Q : Value → Shared → Prop} (N : News h₀ L s.heap news) (m1 : (a, listOf vs.toArray n) ∈ news) (m2 : (b, listOf us.toArray n') ∈ news)
    (i1 : IntsAre vs ns) (i2 : IntsAre us ns) (hu : A.units + 64 < cLine) (h : Q (.bool false) s) : wpAny (model PySem.Challenge.rw_rg0255_01.row.prog w) A (compareOp .NotEq (.ref a) (.ref b)) Q E s :=
  ne_intsK ⟨_, (N _ m1).1, rfl, _, rfl⟩ i1 ⟨_, (N _ m2).1, rfl, _, rfl⟩ i2 hu (by rw [decide_eq_true rfl]; exact h)
theorem outs_ff {tps news : List (Addr × Obj)} {ws : List Value} (sub : ∀ q ∈ tps, q ∈ news) (h : Outs tps [false, false] ws) : ∃ a b u1 u2 u3 u4, ws = [.ref a, .ref b] ∧ (a, tupObj [.int 10 u1, .int 25 u2]) ∈ news ∧ (b, tupObj [.int 10 u3, .int 25 u4]) ∈ news := by
  match ws, h with
  | [v, u], ⟨h1, h2, _⟩ =>
    rcases h1 with ⟨e, _⟩ | ⟨_, a, u1, u2, rfl, ma⟩
    · cases e
    · rcases h2 with ⟨e, _⟩ | ⟨_, b, u3, u4, rfl, mb⟩
      · cases e
      · exact ⟨a, b, u1, u2, u3, u4, rfl, sub _ ma, sub _ mb⟩
theorem outs_tf {tps news : List (Addr × Obj)} {ws : List Value} (sub : ∀ q ∈ tps, q ∈ news) (h : Outs tps [true, false] ws) : ∃ b u3 u4, ws = [.none, .ref b] ∧ (b, tupObj [.int 10 u3, .int 25 u4]) ∈ news := by
  match ws, h with
  | [v, u], ⟨h1, h2, _⟩ =>
    rcases h1 with ⟨_, rfl⟩ | ⟨e, _⟩
    · rcases h2 with ⟨e, _⟩ | ⟨_, b, u3, u4, rfl, mb⟩
      · cases e
      · exact ⟨b, u3, u4, rfl, sub _ mb⟩
    · cases e
theorem outs_f {tps news : List (Addr × Obj)} {ws : List Value} (sub : ∀ q ∈ tps, q ∈ news) (h : Outs tps [false] ws) : ∃ b u3 u4, ws = [.ref b] ∧ (b, tupObj [.int 10 u3, .int 25 u4]) ∈ news := by
  match ws, h with
  | [u], ⟨h2, _⟩ =>
    rcases h2 with ⟨e, _⟩ | ⟨_, b, u3, u4, rfl, mb⟩
    · cases e
    · exact ⟨b, u3, u4, rfl, sub _ mb⟩
theorem outs_t {tps : List (Addr × Obj)} {ws : List Value} (h : Outs tps [true] ws) : ws = [.none] := by
  match ws, h with
  | [u], ⟨h2, _⟩ =>
    rcases h2 with ⟨_, rfl⟩ | ⟨e, _⟩
    · rfl
    · cases e
theorem tw1 {news : List (Addr × Obj)} {a b : Addr} {u1 u2 u3 u4 : Tok} (ne : a ≠ b) (m1 : (a, tupObj [.int 10 u1, .int 25 u2]) ∈ news) (m2 : (b, tupObj [.int 10 u3, .int 25 u4]) ∈ news) : Twin news (.ref a) (.ref b) :=
  .inr ⟨a, b, _, _, rfl, rfl, ne, m1, m2, _, _, rfl, ⟨_, rfl⟩, _, _, rfl, ⟨_, rfl⟩, rfl⟩
section
variable {w : World} {p : Program} {loose : List Str} {mean : ExcName → Option Value} {mg mb : Str → Option Value} {dp un : Nat} {gd : Option (List Code)} {cn : Str} {cs : Scope} {a : Addr} {ccd : Value} {cl : List (Str × Addr)} {outer : List Env} {A₀ : Around} {base h₀ : Heap} {L : Addr} {m : Str → Option Value}
  {s : Shared} {Q E : Value → Shared → Prop}
theorem if6_0E {sc : Scope} {La x dx lx dlx d le ol wl lf fl : Addr} {es : List DictEntry} {n n2 n3 nw nl : Nat} {o oc ou : Obj} {kvs : List (Int × Value)} {ws ys ows frs : List Value} {lim ns gone used : Int} {t1 t2 t3 t4 t5 t6 t7 t8 t9 tg tu tt : Tok} {news tps : List (Addr × Obj)} {fs : Stmt} {Q : Flow → Shared → Prop}
  (G : Gr (ktrTop dp un gd cn cs La a ccd cl []) base [envX cn cs La a ccd cl] (Mine.hd.heap_39 w.params) p loose mean mg mb h₀)
  (F : Fr h₀ L s.heap m) (N : News h₀ L s.heap news) (hk : cs.kind = .function)
  (hd : dp + 200 < recursionLimit) (hu : un + 1500 < cLine)
  (x1 : (x, instObj 470 dx) ∈ news) (x2 : (dx, dictOf es n) ∈ news) (x8 : (fl, listOf frs.toArray n3) ∈ news) (x9 : (ol, listOf ows.toArray n2) ∈ news) (tw : Twins news ows frs)
  (i1 : (lx, instObj 295 dlx) ∈ news) (i2 : (dlx, dictOf (lids w.params t1 t2 t3 t4 t5 t6 (.int lim t7) d le (.int ns t8) (.int 0 t9) false) 6) ∈ news) (i3 : (d, o) ∈ news) (i4 : (wl, listOf ws.toArray nw) ∈ news) (i5 : (lf, listOf ys.toArray nl) ∈ news)
  (g4 : getL (Str.ofString "local") es = some (some (.ref lx))) (g7 : getL (Str.ofString "owed") es = some (some (.ref ol)))
  (hd0 : o.IsDictOf (PySem.intKind PySem.Challenge.rw_rg0255_01.row.prog w) kvs) (hlo : (d == sysModules) = false) (hne : kvs ≠ []) (hz : kvs.length < 64) (hasc : lks_asc (kvs.map Prod.fst) = true) (hys : IntsAre ys (kvs.map Prod.fst))
  (c1 : (L + 1, oc) ∈ news) (c2 : oc.data = .cell (some (.int gone tg))) (c3 : (L + 2, ou) ∈ news) (c4 : ou.data = .cell (some (.int used tu)))
  (hm1 : m (Str.ofString "conn") = some (.ref x)) (hm2 : m (Str.ofString "wanted") = some (.ref wl)) (hm3 : m (Str.ofString "left") = some (.ref lf)) (hm4 : m (Str.ofString "turn") = some (.int 0 tt)) (hm5 : m (Str.ofString "frames") = some (.ref fl))
  (ho : Outs tps [false, false] ws) (hsub : ∀ q ∈ tps, q ∈ news) (hE : gone = used) (hbd : fs = rrIf6) (hsc : sc = rrSc)
  (ret : ∀ h' tk', Fr h₀ L h' m → News h₀ L h' news → Q .next { s with heap := h', toks := tk' }) :
  wpAny (model PySem.Challenge.rw_rg0255_01.row.prog w) ((ktrTop dp un gd cn cs La a ccd cl []).deeper (envOfC (Str.ofString "_law_retired_right") sc L 500 (.ref 499))) (exec fs (envOfC (Str.ofString "_law_retired_right") sc L 500 (.ref 499))) Q E s := by
  k_with_none
  k_with "compareOp NotEq ref ref" => (k_here; k_dflt (refine' ne_twins ?N ?m1 ?m2 ?tw ?hu ?_; (case N => k_asm); (case m1 => k_mem); (case m2 => k_mem); (case tw => (first | (refine Twins.mono ?_ (by assumption); ((intro q_k9 hq_k9; (repeat (first | exact hq_k9 | exact List.mem_append_right _ hq_k9 | refine List.mem_cons_of_mem _ ?_))))) | (refine ⟨_, _, rfl, ?_, _, _, rfl, ?_, rfl⟩; (first | exact Or.inl rfl | (refine tw1 ?ne ?m1 ?m2; (case m1 => k_mem); (case m2 => k_mem); (case ne => exact Nat.ne_of_lt (by first | omega | exact ltAll (by assumption) (by assumption))))); (first | exact Or.inl rfl | (refine tw1 ?ne ?m1 ?m2; (case m1 => k_mem); (case m2 => k_mem); (case ne => exact Nat.ne_of_lt (by first | omega | exact ltAll (by assumption) (by assumption)))))) | (refine ⟨_, _, rfl, ?_, rfl⟩; (first | exact Or.inl rfl | (refine tw1 ?ne ?m1 ?m2; (case m1 => k_mem); (case m2 => k_mem); (case ne => exact Nat.ne_of_lt (by first | omega | exact ltAll (by assumption) (by assumption)))))))); (case hu => ktr_units)))
  k_with "compareOp NotEq ref ref" => (k_here; k_dflt (refine' ne_same_ints ?N ?m1 ?m2 ?i1 ?i2 ?hu ?_; (case N => k_asm); (case m1 => k_mem); (case m2 => k_mem); (case i1 => assumption); (case i2 => assumption); (case hu => ktr_units)))
  k_with "call builtin:sorted" => (k_here; k_dflt (refine' dict_sorted ?hh ?F ?N ?hm ?hd ?lo ?hne ?hl ?ha ?_; (case hh => exact rfl); (case F => k_asm); (case N => k_asm); (case hm => k_mem); (case hd => assumption); (case lo => assumption); (case hne => assumption); (case hl => assumption); (case ha => assumption)); intro B_k9' h_k9' tk_k9' vs_k9' n_k9' F_k9' N_k9' l1_k9 hI_k9; (try k_lt l1_k9); (try k_sweep))
  k_with "ite" => (first | (refine ite_pos (by simp [*]; done) ?_) | (refine ite_neg (by simp [*]; done) ?_))
  have B := G.B
  have X := G.X
  revert X; k_fill; intro X
  have T := G.T
  obtain ⟨ta, tb, u1, u2, u3, u4, rfl, ma, mb⟩ := outs_ff hsub ho
  subst hE
  have em : ∀ m : Str → Option Value, m (Str.ofString "conn") = some (.ref x) → m (Str.ofString "wanted") = some (.ref wl) → m (Str.ofString "left") = some (.ref lf) → m (Str.ofString "turn") = some (.int 0 tt) → m (Str.ofString "frames") = some (.ref fl) → m = fun y => if y = Str.ofString "conn" then some (.ref x) else if y = Str.ofString "wanted" then some (.ref wl) else if y = Str.ofString "left" then some (.ref lf) else if y = Str.ofString "turn" then some (.int 0 tt) else if y = Str.ofString "frames" then some (.ref fl) else m y := by
    intro m e0 e1 e2 e3 e4
    funext y
    by_cases q0 : y = Str.ofString "conn"
    · rw [if_pos q0, q0, e0]
    by_cases q1 : y = Str.ofString "wanted"
    · rw [if_neg q0, if_pos q1, q1, e1]
    by_cases q2 : y = Str.ofString "left"
    · rw [if_neg q0, if_neg q1, if_pos q2, q2, e2]
    by_cases q3 : y = Str.ofString "turn"
    · rw [if_neg q0, if_neg q1, if_neg q2, if_pos q3, q3, e3]
    by_cases q4 : y = Str.ofString "frames"
    · rw [if_neg q0, if_neg q1, if_neg q2, if_neg q3, if_pos q4, q4, e4]
    rw [if_neg q0, if_neg q1, if_neg q2, if_neg q3, if_neg q4]
  rw [em m hm1 hm2 hm3 hm4 hm5] at F
  conv at hbd => rhs; whnf
  conv at hsc => rhs; whnf
  subst hbd hsc
  obtain ⟨k9, n9, g9, c9, e9⟩ := cs
  dsimp only at hk
  subst hk
  refine wpAny_noRaise ?_
  k_steps
  all_goals first | (exfalso; omega) | exact ret _ _ (by rw [em m hm1 hm2 hm3 hm4 hm5]; assumption) (fun q hq => (by assumption : News h₀ L _ _) q (by repeat (first | exact hq | refine List.mem_cons_of_mem _ ?_)))
theorem if6_0N {sc : Scope} {La x dx lx dlx d le ol wl lf fl : Addr} {es : List DictEntry} {n n2 n3 nw nl : Nat} {o oc ou : Obj} {kvs : List (Int × Value)} {ws ys ows frs : List Value} {lim ns gone used : Int} {t1 t2 t3 t4 t5 t6 t7 t8 t9 tg tu tt : Tok} {news tps : List (Addr × Obj)} {fs : Stmt} {Q : Flow → Shared → Prop}
  (G : Gr (ktrTop dp un gd cn cs La a ccd cl []) base [envX cn cs La a ccd cl] (Mine.hd.heap_39 w.params) p loose mean mg mb h₀)
  (F : Fr h₀ L s.heap m) (N : News h₀ L s.heap news) (hk : cs.kind = .function)
  (hd : dp + 200 < recursionLimit) (hu : un + 1500 < cLine)
  (x1 : (x, instObj 470 dx) ∈ news) (x2 : (dx, dictOf es n) ∈ news) (x8 : (fl, listOf frs.toArray n3) ∈ news) (x9 : (ol, listOf ows.toArray n2) ∈ news) (tw : Twins news ows frs)
  (i1 : (lx, instObj 295 dlx) ∈ news) (i2 : (dlx, dictOf (lids w.params t1 t2 t3 t4 t5 t6 (.int lim t7) d le (.int ns t8) (.int 0 t9) false) 6) ∈ news) (i3 : (d, o) ∈ news) (i4 : (wl, listOf ws.toArray nw) ∈ news) (i5 : (lf, listOf ys.toArray nl) ∈ news)
  (g4 : getL (Str.ofString "local") es = some (some (.ref lx))) (g7 : getL (Str.ofString "owed") es = some (some (.ref ol)))
  (hd0 : o.IsDictOf (PySem.intKind PySem.Challenge.rw_rg0255_01.row.prog w) kvs) (hlo : (d == sysModules) = false) (hne : kvs ≠ []) (hz : kvs.length < 64) (hasc : lks_asc (kvs.map Prod.fst) = true) (hys : IntsAre ys (kvs.map Prod.fst))
  (c1 : (L + 1, oc) ∈ news) (c2 : oc.data = .cell (some (.int gone tg))) (c3 : (L + 2, ou) ∈ news) (c4 : ou.data = .cell (some (.int used tu)))
  (hm1 : m (Str.ofString "conn") = some (.ref x)) (hm2 : m (Str.ofString "wanted") = some (.ref wl)) (hm3 : m (Str.ofString "left") = some (.ref lf)) (hm4 : m (Str.ofString "turn") = some (.int 0 tt)) (hm5 : m (Str.ofString "frames") = some (.ref fl))
  (ho : Outs tps [true, false] ws) (hsub : ∀ q ∈ tps, q ∈ news) (hE : gone ≠ used) (hbd : fs = rrIf6) (hsc : sc = rrSc)
  (ret : ∀ h' tk', Fr h₀ L h' m → News h₀ L h' news → Q .next { s with heap := h', toks := tk' }) :
  wpAny (model PySem.Challenge.rw_rg0255_01.row.prog w) ((ktrTop dp un gd cn cs La a ccd cl []).deeper (envOfC (Str.ofString "_law_retired_right") sc L 500 (.ref 499))) (exec fs (envOfC (Str.ofString "_law_retired_right") sc L 500 (.ref 499))) Q E s := by
  have B := G.B
  have X := G.X
  revert X; k_fill; intro X
  have T := G.T
  obtain ⟨tb, u3, u4, rfl, mb⟩ := outs_tf hsub ho
  have em : ∀ m : Str → Option Value, m (Str.ofString "conn") = some (.ref x) → m (Str.ofString "wanted") = some (.ref wl) → m (Str.ofString "left") = some (.ref lf) → m (Str.ofString "turn") = some (.int 0 tt) → m (Str.ofString "frames") = some (.ref fl) → m = fun y => if y = Str.ofString "conn" then some (.ref x) else if y = Str.ofString "wanted" then some (.ref wl) else if y = Str.ofString "left" then some (.ref lf) else if y = Str.ofString "turn" then some (.int 0 tt) else if y = Str.ofString "frames" then some (.ref fl) else m y := by
    intro m e0 e1 e2 e3 e4
    funext y
    by_cases q0 : y = Str.ofString "conn"
    · rw [if_pos q0, q0, e0]
    by_cases q1 : y = Str.ofString "wanted"
    · rw [if_neg q0, if_pos q1, q1, e1]
    by_cases q2 : y = Str.ofString "left"
    · rw [if_neg q0, if_neg q1, if_pos q2, q2, e2]
    by_cases q3 : y = Str.ofString "turn"
    · rw [if_neg q0, if_neg q1, if_neg q2, if_pos q3, q3, e3]
    by_cases q4 : y = Str.ofString "frames"
    · rw [if_neg q0, if_neg q1, if_neg q2, if_neg q3, if_pos q4, q4, e4]
    rw [if_neg q0, if_neg q1, if_neg q2, if_neg q3, if_neg q4]
  rw [em m hm1 hm2 hm3 hm4 hm5] at F
  conv at hbd => rhs; whnf
  conv at hsc => rhs; whnf
  subst hbd hsc
  obtain ⟨k9, n9, g9, c9, e9⟩ := cs
  dsimp only at hk
  subst hk
  refine wpAny_noRaise ?_
  k_steps
  all_goals first | (exfalso; omega) | exact ret _ _ (by rw [em m hm1 hm2 hm3 hm4 hm5]; assumption) (fun q hq => (by assumption : News h₀ L _ _) q (by repeat (first | exact hq | refine List.mem_cons_of_mem _ ?_)))
theorem if6_1E {sc : Scope} {La x dx lx dlx d le ol wl lf fl : Addr} {es : List DictEntry} {n n2 n3 nw nl : Nat} {o oc ou : Obj} {kvs : List (Int × Value)} {ws ys ows frs : List Value} {lim ns gone used : Int} {t1 t2 t3 t4 t5 t6 t7 t8 t9 tg tu tt : Tok} {news tps : List (Addr × Obj)} {fs : Stmt} {Q : Flow → Shared → Prop}
  (G : Gr (ktrTop dp un gd cn cs La a ccd cl []) base [envX cn cs La a ccd cl] (Mine.hd.heap_39 w.params) p loose mean mg mb h₀)
  (F : Fr h₀ L s.heap m) (N : News h₀ L s.heap news) (hk : cs.kind = .function)
  (hd : dp + 200 < recursionLimit) (hu : un + 1500 < cLine)
  (x1 : (x, instObj 470 dx) ∈ news) (x2 : (dx, dictOf es n) ∈ news) (x8 : (fl, listOf frs.toArray n3) ∈ news) (x9 : (ol, listOf ows.toArray n2) ∈ news) (tw : Twins news ows frs)
  (i1 : (lx, instObj 295 dlx) ∈ news) (i2 : (dlx, dictOf (lids w.params t1 t2 t3 t4 t5 t6 (.int lim t7) d le (.int ns t8) (.int 0 t9) false) 6) ∈ news) (i3 : (d, o) ∈ news) (i4 : (wl, listOf ws.toArray nw) ∈ news) (i5 : (lf, listOf ys.toArray nl) ∈ news)
  (g4 : getL (Str.ofString "local") es = some (some (.ref lx))) (g7 : getL (Str.ofString "owed") es = some (some (.ref ol)))
  (hd0 : o.IsDictOf (PySem.intKind PySem.Challenge.rw_rg0255_01.row.prog w) kvs) (hlo : (d == sysModules) = false) (hne : kvs ≠ []) (hz : kvs.length < 64) (hasc : lks_asc (kvs.map Prod.fst) = true) (hys : IntsAre ys (kvs.map Prod.fst))
  (c1 : (L + 1, oc) ∈ news) (c2 : oc.data = .cell (some (.int gone tg))) (c3 : (L + 2, ou) ∈ news) (c4 : ou.data = .cell (some (.int used tu)))
  (hm1 : m (Str.ofString "conn") = some (.ref x)) (hm2 : m (Str.ofString "wanted") = some (.ref wl)) (hm3 : m (Str.ofString "left") = some (.ref lf)) (hm4 : m (Str.ofString "turn") = some (.int 1 tt)) (hm5 : m (Str.ofString "frames") = some (.ref fl))
  (ho : Outs tps [false] ws) (hsub : ∀ q ∈ tps, q ∈ news) (hE : gone = used) (hbd : fs = rrIf6) (hsc : sc = rrSc)
  (ret : ∀ h' tk', Fr h₀ L h' m → News h₀ L h' news → Q .next { s with heap := h', toks := tk' }) :
  wpAny (model PySem.Challenge.rw_rg0255_01.row.prog w) ((ktrTop dp un gd cn cs La a ccd cl []).deeper (envOfC (Str.ofString "_law_retired_right") sc L 500 (.ref 499))) (exec fs (envOfC (Str.ofString "_law_retired_right") sc L 500 (.ref 499))) Q E s := by
  have B := G.B
  have X := G.X
  revert X; k_fill; intro X
  have T := G.T
  obtain ⟨tb, u3, u4, rfl, mb⟩ := outs_f hsub ho
  subst hE
  have em : ∀ m : Str → Option Value, m (Str.ofString "conn") = some (.ref x) → m (Str.ofString "wanted") = some (.ref wl) → m (Str.ofString "left") = some (.ref lf) → m (Str.ofString "turn") = some (.int 1 tt) → m (Str.ofString "frames") = some (.ref fl) → m = fun y => if y = Str.ofString "conn" then some (.ref x) else if y = Str.ofString "wanted" then some (.ref wl) else if y = Str.ofString "left" then some (.ref lf) else if y = Str.ofString "turn" then some (.int 1 tt) else if y = Str.ofString "frames" then some (.ref fl) else m y := by
    intro m e0 e1 e2 e3 e4
    funext y
    by_cases q0 : y = Str.ofString "conn"
    · rw [if_pos q0, q0, e0]
    by_cases q1 : y = Str.ofString "wanted"
    · rw [if_neg q0, if_pos q1, q1, e1]
    by_cases q2 : y = Str.ofString "left"
    · rw [if_neg q0, if_neg q1, if_pos q2, q2, e2]
    by_cases q3 : y = Str.ofString "turn"
    · rw [if_neg q0, if_neg q1, if_neg q2, if_pos q3, q3, e3]
    by_cases q4 : y = Str.ofString "frames"
    · rw [if_neg q0, if_neg q1, if_neg q2, if_neg q3, if_pos q4, q4, e4]
    rw [if_neg q0, if_neg q1, if_neg q2, if_neg q3, if_neg q4]
  rw [em m hm1 hm2 hm3 hm4 hm5] at F
  conv at hbd => rhs; whnf
  conv at hsc => rhs; whnf
  subst hbd hsc
  obtain ⟨k9, n9, g9, c9, e9⟩ := cs
  dsimp only at hk
  subst hk
  refine wpAny_noRaise ?_
  k_steps
  all_goals first | (exfalso; omega) | exact ret _ _ (by rw [em m hm1 hm2 hm3 hm4 hm5]; assumption) (fun q hq => (by assumption : News h₀ L _ _) q (by repeat (first | exact hq | refine List.mem_cons_of_mem _ ?_)))
theorem if6_1N {sc : Scope} {La x dx lx dlx d le ol wl lf fl : Addr} {es : List DictEntry} {n n2 n3 nw nl : Nat} {o oc ou : Obj} {kvs : List (Int × Value)} {ws ys ows frs : List Value} {lim ns gone used : Int} {t1 t2 t3 t4 t5 t6 t7 t8 t9 tg tu tt : Tok} {news tps : List (Addr × Obj)} {fs : Stmt} {Q : Flow → Shared → Prop}
  (G : Gr (ktrTop dp un gd cn cs La a ccd cl []) base [envX cn cs La a ccd cl] (Mine.hd.heap_39 w.params) p loose mean mg mb h₀)
  (F : Fr h₀ L s.heap m) (N : News h₀ L s.heap news) (hk : cs.kind = .function)
  (hd : dp + 200 < recursionLimit) (hu : un + 1500 < cLine)
  (x1 : (x, instObj 470 dx) ∈ news) (x2 : (dx, dictOf es n) ∈ news) (x8 : (fl, listOf frs.toArray n3) ∈ news) (x9 : (ol, listOf ows.toArray n2) ∈ news) (tw : Twins news ows frs)
  (i1 : (lx, instObj 295 dlx) ∈ news) (i2 : (dlx, dictOf (lids w.params t1 t2 t3 t4 t5 t6 (.int lim t7) d le (.int ns t8) (.int 0 t9) false) 6) ∈ news) (i3 : (d, o) ∈ news) (i4 : (wl, listOf ws.toArray nw) ∈ news) (i5 : (lf, listOf ys.toArray nl) ∈ news)
  (g4 : getL (Str.ofString "local") es = some (some (.ref lx))) (g7 : getL (Str.ofString "owed") es = some (some (.ref ol)))
  (hd0 : o.IsDictOf (PySem.intKind PySem.Challenge.rw_rg0255_01.row.prog w) kvs) (hlo : (d == sysModules) = false) (hne : kvs ≠ []) (hz : kvs.length < 64) (hasc : lks_asc (kvs.map Prod.fst) = true) (hys : IntsAre ys (kvs.map Prod.fst))
  (c1 : (L + 1, oc) ∈ news) (c2 : oc.data = .cell (some (.int gone tg))) (c3 : (L + 2, ou) ∈ news) (c4 : ou.data = .cell (some (.int used tu)))
  (hm1 : m (Str.ofString "conn") = some (.ref x)) (hm2 : m (Str.ofString "wanted") = some (.ref wl)) (hm3 : m (Str.ofString "left") = some (.ref lf)) (hm4 : m (Str.ofString "turn") = some (.int 1 tt)) (hm5 : m (Str.ofString "frames") = some (.ref fl))
  (ho : Outs tps [true] ws) (hsub : ∀ q ∈ tps, q ∈ news) (hE : gone ≠ used) (hbd : fs = rrIf6) (hsc : sc = rrSc)
  (ret : ∀ h' tk', Fr h₀ L h' m → News h₀ L h' news → Q .next { s with heap := h', toks := tk' }) :
  wpAny (model PySem.Challenge.rw_rg0255_01.row.prog w) ((ktrTop dp un gd cn cs La a ccd cl []).deeper (envOfC (Str.ofString "_law_retired_right") sc L 500 (.ref 499))) (exec fs (envOfC (Str.ofString "_law_retired_right") sc L 500 (.ref 499))) Q E s := by
  have B := G.B
  have X := G.X
  revert X; k_fill; intro X
  have T := G.T
  obtain rfl := outs_t ho
  have em : ∀ m : Str → Option Value, m (Str.ofString "conn") = some (.ref x) → m (Str.ofString "wanted") = some (.ref wl) → m (Str.ofString "left") = some (.ref lf) → m (Str.ofString "turn") = some (.int 1 tt) → m (Str.ofString "frames") = some (.ref fl) → m = fun y => if y = Str.ofString "conn" then some (.ref x) else if y = Str.ofString "wanted" then some (.ref wl) else if y = Str.ofString "left" then some (.ref lf) else if y = Str.ofString "turn" then some (.int 1 tt) else if y = Str.ofString "frames" then some (.ref fl) else m y := by
    intro m e0 e1 e2 e3 e4
    funext y
    by_cases q0 : y = Str.ofString "conn"
    · rw [if_pos q0, q0, e0]
    by_cases q1 : y = Str.ofString "wanted"
    · rw [if_neg q0, if_pos q1, q1, e1]
    by_cases q2 : y = Str.ofString "left"
    · rw [if_neg q0, if_neg q1, if_pos q2, q2, e2]
    by_cases q3 : y = Str.ofString "turn"
    · rw [if_neg q0, if_neg q1, if_neg q2, if_pos q3, q3, e3]
    by_cases q4 : y = Str.ofString "frames"
    · rw [if_neg q0, if_neg q1, if_neg q2, if_neg q3, if_pos q4, q4, e4]
    rw [if_neg q0, if_neg q1, if_neg q2, if_neg q3, if_neg q4]
  rw [em m hm1 hm2 hm3 hm4 hm5] at F
  conv at hbd => rhs; whnf
  conv at hsc => rhs; whnf
  subst hbd hsc
  obtain ⟨k9, n9, g9, c9, e9⟩ := cs
  dsimp only at hk
  subst hk
  refine wpAny_noRaise ?_
  k_steps
  all_goals first | (exfalso; omega) | exact ret _ _ (by rw [em m hm1 hm2 hm3 hm4 hm5]; assumption) (fun q hq => (by assumption : News h₀ L _ _) q (by repeat (first | exact hq | refine List.mem_cons_of_mem _ ?_)))
end
end Mine
end
section
namespace Mine
theorem permA {α : Type} {q a b c d e f x : α} {T R : List α} (h : q ∈ a :: b :: c :: d :: e :: R) : q ∈ x :: a :: b :: c :: d :: e :: f :: (T ++ R) := by
  simp only [List.mem_cons, List.mem_append] at h ⊢
  rcases h with h | h | h | h | h | h <;> simp [h]
theorem hnnE {nn : Nat} {lim : Int} (h : (nn : Int) = lim) : (nn : Int) = lim + (([] : List Value).length : Int) := by simpa using h
theorem hnnN {nn : Nat} {lim : Int} {v : Value} (h : (nn : Int) = lim + 1) : (nn : Int) = lim + (([v] : List Value).length : Int) := by simpa using h
theorem ints_cast {vs : List Value} {a b : List Int} (e : a = b) (h : IntsAre vs b) : IntsAre vs a := e ▸ h
section
variable {w : World} {p : Program} {loose : List Str} {mean : ExcName → Option Value} {mg mb : Str → Option Value} {dp un : Nat} {gd : Option (List Code)} {cn : Str} {cs : Scope} {a : Addr} {ccd : Value} {cl : List (Str × Addr)} {outer : List Env} {A₀ : Around} {base h₀ : Heap} {L : Addr} {m : Str → Option Value}
  {s : Shared} {Q E : Value → Shared → Prop}
section
local macro_rules | `(tactic| k_mem) => `(tactic| ((repeat (first | with_reducible assumption | exact List.mem_cons_self | refine List.mem_cons_of_mem _ ?_ | refine List.mem_append_right _ ?_)); done))
theorem turn0E {sc : Scope} {La x dx rx drx lx dlx d le ol dpar f2 cc2 fl : Addr} {es er : List DictEntry} {n nr n1 n2 n3 nn : Nat} {o o₀ oc ou opar oc2 : Obj} {fd2 : FuncData} {kvs kvs2 : List (Int × Value)} {evs ows frs : List Value} {lim ns gone used : Int} {cb : Array UInt8} {t1 t2 t3 t4 t5 t6 t7 t8 t9 tb tg tu tl tt tr : Tok} {g₀ : Heap} {R : List (Addr × Obj)} {b : Bool} {bd : List Stmt} {Q : Flow → Shared → Prop}
  (G : Gr (ktrTop dp un gd cn cs La a ccd cl []) base [envX cn cs La a ccd cl] (Mine.hd.heap_39 w.params) p loose mean mg mb g₀) (XB : (Mine.hd.heap_39 w.params).In base) (TB : Top p loose mean mg mb base) (codeHd : CodeHd base 487 483)
  (hLa : g₀.get? La = some o₀) (T0 : KtsTurn [La] g₀ h₀) (F : Fr h₀ L s.heap m) (N : News h₀ L s.heap ((lx, instObj 295 dlx) :: (dlx, dictOf (lids w.params t1 t2 t3 t4 t5 t6 (.int lim t7) d le (.int ns t8) (.int 0 t9) false) 6) :: (d, o) :: (le, listOf evs.toArray n1) :: (ol, listOf ows.toArray n2) :: R)) (hk : cs.kind = .function)
  (hd : dp + 200 < recursionLimit) (hu : un + 1500 < cLine)
  (x1 : (x, instObj 470 dx) ∈ R) (x2 : (dx, dictOf es n) ∈ R) (x4 : (rx, instObj 323 drx) ∈ R) (x5 : (drx, dictOf er nr) ∈ R) (x3 : (dpar, opar) ∈ R) (x6 : (f2, fnObj fd2) ∈ R) (x7 : (cc2, oc2) ∈ R) (x8 : (fl, listOf frs.toArray n3) ∈ R) (tw : Twins R ows frs)
  (g2 : getL (Str.ofString "role") es = some (some (.str (if b then Str.ofString "client" else Str.ofString "server") tr))) (g4 : getL (Str.ofString "local") es = some (some (.ref lx))) (g6 : getL (Str.ofString "params") es = some (some (.ref dpar))) (g7 : getL (Str.ofString "owed") es = some (some (.ref ol))) (g8 : getL (Str.ofString "choose") es = some (some (.ref f2))) (k2 : getL (Str.ofString "dcid") er = some (some (.bytes cb tb)))
  (hpar : opar.IsDictOf (PySem.strKind PySem.Challenge.rw_rg0255_01.row.prog w) []) (hlp : (dpar == sysModules) = false) (ch : ChooseAt w f2 fd2 [(cc2, oc2)])
  (hd0 : o.IsDictOf (PySem.intKind PySem.Challenge.rw_rg0255_01.row.prog w) kvs) (hlo : (d == sysModules) = false) (hz : kvs.length ≤ 1000)
  (ne1 : @Ne Nat lx dlx) (ne2 : @Ne Nat lx d) (ne3 : @Ne Nat lx le) (ne4 : @Ne Nat dlx d) (ne5 : @Ne Nat dlx le) (ne6 : @Ne Nat d le) (ne7 : @Ne Nat ol lx) (ne8 : @Ne Nat ol dlx) (ne9 : @Ne Nat ol d) (ne10 : @Ne Nat ol le) (r1 : ∀ p ∈ R, p.1 ≠ lx) (r2 : ∀ p ∈ R, p.1 ≠ dlx) (r3 : ∀ p ∈ R, p.1 ≠ d) (r4 : ∀ p ∈ R, p.1 ≠ le) (r5 : ∀ p ∈ R, p.1 ≠ ol)
  (c1 : (L + 1, oc) ∈ R) (c2 : oc.data = .cell (some (.int gone tg))) (c3 : (L + 2, ou) ∈ R) (c4 : ou.data = .cell (some (.int used tu)))
  (hm1 : m (Str.ofString "conn") = some (.ref x)) (hm2 : m (Str.ofString "raw") = some (.ref rx)) (hm3 : m (Str.ofString "limit") = some (.int lim tl)) (hm4 : m (Str.ofString "turn") = some (.int 0 tt)) (hm5 : m (Str.ofString "frames") = some (.ref fl))
  (hst : Steps ns cb [gone, lim] kvs [false, false] kvs2) (hbl : [false, false].length ≤ 50) (hbd : bd = rrTurn) (hsc : sc = rrSc)
  (hl0 : 0 ≤ lim) (hl8 : lim ≤ 6) (hows : ows.length ≤ 1) (hE : gone = used) (hne : kvs2 ≠ []) (hz3 : (kvs2).length < 64) (hasc : lks_asc ((kvs2).map Prod.fst) = true) (hkeys : (kvs2).map Prod.fst = lefts gone used nn) (hnn : (nn : Int) = lim) (hfull : lim ≤ (kvs2.length : Int)) (hz2 : kvs2.length ≤ 1000) (hpos2 : ∀ q ∈ kvs2, 0 ≤ q.1) (hfr : frs = []) (how : ows = [])
  (ret : ∀ g h' tk' o' m', KtsTurn [La] g₀ g → Fr g L h' m' → m' (Str.ofString "conn") = some (.ref x) → m' (Str.ofString "raw") = some (.ref rx) → m' (Str.ofString "limit") = some (.int lim tl) → m' (Str.ofString "frames") = some (.ref fl) → News g L h' ((lx, instObj 295 dlx) :: (dlx, dictOf (lids w.params t1 t2 t3 t4 t5 t6 (.int lim t7) d le (.int ns t8) (.int 0 t9) false) 6) :: (d, o') :: (le, listOf evs.toArray n1) :: (ol, listOf ows.toArray n2) :: R) → o'.IsDictOf (PySem.intKind PySem.Challenge.rw_rg0255_01.row.prog w) kvs2 → Q .next { s with heap := h', toks := tk' }) :
  wpAny (model PySem.Challenge.rw_rg0255_01.row.prog w) ((ktrTop dp un gd cn cs La a ccd cl []).deeper (envOfC (Str.ofString "_law_retired_right") sc L 500 (.ref 499))) (execs bd (envOfC (Str.ofString "_law_retired_right") sc L 500 (.ref 499))) Q E s := by
  k_with_none
  k_with "exec For Name Subscript cons nil" => (k_here;  k_dflt (refine' inner0T ?G ?XB ?TB ?hLa ?T0 ?F ?N ?hk ?hd ?hu ?x1 ?x2 ?x4 ?x5 ?g4 ?k2 ?hd0 ?hlo ?hz ?w1 ?w2 ?w3 ?w4 ?w5 ?w6 ?ne2 ?ne4 ?ne6 ?ne9 ?r1 ?r2 ?r3 ?r4 ?r5 ?c1 ?c2 ?hm5 ?hm6 ?hm1 ?hm2 ?hm4 ?hst ?hbl ?hfs ?hsc ?_; (case hLa => assumption); (case G => assumption); (case XB => assumption); (case TB => assumption); (case T0 => assumption); (case F => k_asm); (case N => k_asm); (case hk => exact rfl); (case hd => omega); (case hu => omega); (case x1 => assumption); (case x2 => assumption); (case g4 => assumption); (case x4 => assumption); (case x5 => assumption); (case k2 => assumption); (case hd0 => assumption); (case hlo => assumption); (case hz => assumption); (case w1 => omega); (case w2 => omega); (case w3 => omega); (case w4 => omega); (case w5 => omega); (case w6 => assumption); (case ne2 => assumption); (case ne4 => assumption); (case ne6 => assumption); (case ne9 => assumption); (case r1 => assumption); (case r2 => assumption); (case r3 => assumption); (case r4 => assumption); (case r5 => assumption); (case c1 => assumption); (case c2 => assumption); (case hm5 => first | assumption | (simp; done) | (with_unfolding_all exact rfl)); (case hm6 => first | assumption | (simp; done) | (with_unfolding_all exact rfl)); (case hm1 => first | assumption | (simp; done) | (with_unfolding_all exact rfl)); (case hm2 => first | assumption | (simp; done) | (with_unfolding_all exact rfl)); (case hm4 => first | assumption | (simp; done) | (with_unfolding_all exact rfl)); (case hst => assumption); (case hbl => assumption); (case hfs => exact rfl); (case hsc => exact rfl)); (intro g_k9 h_k9' tk_k9' o_k9' ws_k9 nw_k9 tps_k9 v8_k9 v9_k9 T_k9' F_k9' N_k9' hd_k9' ho_k9 q1_k9 q2_k9 q3_k9 q4_k9 q5_k9 q6_k9; (have G2' := Gr.turn1 T_k9' (by assumption) (by assumption) (by assumption)); (have B2' := Gr.B G2'); (have X2' := Gr.X G2'); (have P2' := Gr.T G2')))
  k_with "compareOp NotEq ref ref" => (k_here; k_dflt (refine' ne_twins ?N ?m1 ?m2 ?tw ?hu ?_; (case N => k_asm); (case m1 => k_mem); (case m2 => k_mem); (case tw => (first | (refine Twins.mono ?_ (by assumption); ((intro q_k9 hq_k9; (repeat (first | exact hq_k9 | exact List.mem_append_right _ hq_k9 | refine List.mem_cons_of_mem _ ?_))))))); (case hu => ktr_units)))
  k_with "binaryOp Mult ref int" => (k_here; (with_reducible show wpAny _ _ (binaryOp Operator.Mult (Value.ref _) (Value.int _ _)) _ _ _); k_dflt (refine' mul_one ?F ?N ?l ?h0 ?h1 ?_; (case F => k_asm); (case N => k_asm); (case l => k_mem); (case h0 => first | decide | omega); (case h1 => first | decide | omega)); intro D_k9' h_k9' F_k9' N_k9' l1_k9; (try k_lt l1_k9))
  k_with "call type:bytes" => (k_here; (with_reducible show wpAny _ _ (call (Value.type "bytes") [Value.ref _]) _ _ _); k_dflt (refine' bytes_rep ?F ?N ?hh ?hl ?h0 ?h1 ?hk ?_; (case F => k_asm); (case N => k_asm); (case hh => exact rfl); (case hl => k_mem); (case h0 => first | decide | omega); (case h1 => first | decide | omega); (case hk => first | decide | omega)); intro h_k9' t_k9' tk_k9' F_k9' N_k9'; (try k_sweep))
  k_with "call ref" => (k_here; (with_reducible show wpAny _ _ (call (Value.ref 306) _) _ _ _); k_dflt (refine' iss0_spec (n1 := 0) (n2 := 0) (evs := []) (ows := []) ?B ?F ?X ?N ?T ?hk ?codeHd ?hd ?hu ?x1 ?x2 ?x3 ?x4 ?x5 ?g2 ?g5 ?g6 ?g7 ?g8 ?hpar ?hlp ?ch ?hd0 ?hlo ?hz ?hpos ?m1 ?m2 ?m3 ?hfull ?_; (case B => k_asm); (case F => k_asm); (case X => k_asm); (case N => k_asm); (case T => k_asm); (case hk => exact rfl); (case codeHd => assumption); (case hd => ktr_room); (case hu => ktr_units); (case x1 => k_mem); (case x2 => k_mem); (case g2 => assumption); (case g5 => assumption); (case g6 => assumption); (case g7 => assumption); (case g8 => assumption); (case hpar => assumption); (case hlp => assumption); (case ch => assumption); (case x3 => k_mem); (case x4 => k_mem); (case x5 => k_mem); (case hd0 => assumption); (case hlo => assumption); (case hz => assumption); (case hpos => assumption); (case m1 => k_mem); (case m2 => k_mem); (case m3 => k_mem); (case hfull => assumption)); (intro h_k9' tk_k9' F_k9' N_k9'; (try k_sweep)))
  k_with "exec Assign cons ListComp" => (k_here;  k_dflt (refine' left_spec ?G ?F ?N ?hk ?hd ?hu ?x8 ?c1 ?c2 ?c3 ?c4 ?hm3 ?hm5 ?hl0 ?hl ?hfl ?hnn ?hbd ?hsc ?_; (case F => k_asm); (case G => assumption); (case N => k_asm); (case hk => exact rfl); (case hd => assumption); (case hu => assumption); (case hm3 => first | assumption | (simp; done) | (with_unfolding_all exact rfl)); (case hm5 => first | assumption | (simp; done) | (with_unfolding_all exact rfl)); (case x8 => k_mem); (case c1 => k_mem); (case c3 => k_mem); (case c2 => assumption); (case c4 => assumption); (case hl0 => first | assumption | omega); (case hl => first | assumption | omega); (case hfl => (simp; done)); (case hnn => first | exact hnnE (by assumption) | exact hnnN (by assumption)); (case hbd => exact rfl); (case hsc => exact rfl)); (intro D_k9' h_k9' tk_k9' ys_k9' F_k9' N_k9' i9_k9 off9_k9; (have i8_k9 := ints_cast (by assumption) i9_k9)))
  k_with "exec If" => (k_here;  k_dflt (refine' if6_0E ?G ?F ?N ?hk ?hd ?hu ?x1 ?x2 ?x8 ?x9 ?tw ?i1 ?i2 ?i3 ?i4 ?i5 ?g4 ?g7 ?hd0 ?hlo ?hne ?hz ?hasc ?hys ?c1 ?c2 ?c3 ?c4 ?hm1 ?hm2 ?hm3 ?hm4 ?hm5 ?ho ?hsub ?hE ?hbd ?hsc ?_; (case hbd => exact rfl); (case hsc => exact rfl); (case F => k_asm); (case G => assumption); (case N => k_asm); (case hk => exact rfl); (case hd => assumption); (case hu => assumption); (case hm1 => first | assumption | (simp; done) | (with_unfolding_all exact rfl)); (case hm2 => first | assumption | (simp; done) | (with_unfolding_all exact rfl)); (case hm3 => first | assumption | (simp; done) | (with_unfolding_all exact rfl)); (case hm4 => first | assumption | (simp; done) | (with_unfolding_all exact rfl)); (case hm5 => first | assumption | (simp; done) | (with_unfolding_all exact rfl)); (case x1 => k_mem); (case x2 => k_mem); (case g4 => assumption); (case g7 => assumption); (case x8 => k_mem); (case x9 => k_mem); (case tw => (first | (refine Twins.mono ?_ (by assumption); ((intro q_k9 hq_k9; (repeat (first | exact hq_k9 | exact List.mem_append_right _ hq_k9 | refine List.mem_cons_of_mem _ ?_))))) | exact (rfl : Twins _ [] []) | (refine ⟨_, _, rfl, Or.inr ⟨_, _, _, _, rfl, rfl, ?ne, ?m1, ?m2, ?t⟩, rfl⟩; (case m1 => k_mem); (case m2 => k_mem); (case ne => first | omega | exact Nat.ne_of_lt (by first | omega | exact ltAll (by assumption) (by k_mem))); (case t => exact ⟨_, _, rfl, ⟨_, rfl⟩, _, _, rfl, ⟨_, rfl⟩, _, _, rfl, ⟨_, rfl⟩, _, _, rfl, ⟨_, by rw [Int.add_comm]⟩, _, _, rfl, ⟨_, by rw [Int.add_comm]⟩, rfl⟩)))); (case i1 => k_mem); (case i2 => k_mem); (case hd0 => assumption); (case i3 => k_mem); (case i4 => k_mem); (case i5 => k_mem); (case hlo => assumption); (case hne => assumption); (case hz => assumption); (case hasc => assumption); (case hys => assumption); (case c1 => k_mem); (case c3 => k_mem); (case c2 => assumption); (case c4 => assumption); (case hE => first | assumption | rfl); (case ho => assumption); (case hsub => (intro q_k9 hq_k9; (repeat (first | exact hq_k9 | exact List.mem_append_left _ hq_k9 | refine List.mem_cons_of_mem _ ?_))))); (intro h_k9' tk_k9' F_k9' N_k9'))
  k_with "ite" => (first | (refine ite_neg (by simp; done) ?_) | (refine ite_pos (bne_iff_ne.mpr (by assumption)) ?_) | (refine ite_pos (decide_eq_true (by omega)) ?_) | (refine ite_neg (by rw [decide_eq_false (by omega)]; exact Bool.false_ne_true) ?_))
  have G1 := G.turn XB TB T0
  have B := G1.B
  have X := G1.X
  revert X; k_fill; intro X
  have T := G1.T
  have em : ∀ m : Str → Option Value, m (Str.ofString "conn") = some (.ref x) → m (Str.ofString "raw") = some (.ref rx) → m (Str.ofString "limit") = some (.int lim tl) → m (Str.ofString "turn") = some (.int 0 tt) → m (Str.ofString "frames") = some (.ref fl) → m = fun y => if y = Str.ofString "conn" then some (.ref x) else if y = Str.ofString "raw" then some (.ref rx) else if y = Str.ofString "limit" then some (.int lim tl) else if y = Str.ofString "turn" then some (.int 0 tt) else if y = Str.ofString "frames" then some (.ref fl) else m y := by
    intro m e0 e1 e2 e3 e4
    funext y
    by_cases q0 : y = Str.ofString "conn"
    · rw [if_pos q0, q0, e0]
    by_cases q1 : y = Str.ofString "raw"
    · rw [if_neg q0, if_pos q1, q1, e1]
    by_cases q2 : y = Str.ofString "limit"
    · rw [if_neg q0, if_neg q1, if_pos q2, q2, e2]
    by_cases q3 : y = Str.ofString "turn"
    · rw [if_neg q0, if_neg q1, if_neg q2, if_pos q3, q3, e3]
    by_cases q4 : y = Str.ofString "frames"
    · rw [if_neg q0, if_neg q1, if_neg q2, if_neg q3, if_pos q4, q4, e4]
    rw [if_neg q0, if_neg q1, if_neg q2, if_neg q3, if_neg q4]
  rw [em m hm1 hm2 hm3 hm4 hm5] at F
  subst hfr how hE
  conv at hbd => rhs; whnf
  conv at hsc => rhs; whnf
  subst hbd hsc
  obtain ⟨k9, n9, g9, c9, e9⟩ := cs
  dsimp only at hk
  subst hk
  refine wpAny_noRaise ?_
  k_steps
  exact ret _ _ _ _ _ (by assumption) (by assumption) (by first | assumption | (simp [chn]; done) | (with_unfolding_all exact rfl)) (by first | assumption | (simp [chn]; done) | (with_unfolding_all exact rfl)) (by first | assumption | (simp [chn]; done) | (with_unfolding_all exact rfl)) (by first | assumption | (simp [chn]; done) | (with_unfolding_all exact rfl)) (fun q hq => (by assumption : News _ L _ _) q (permA hq)) (by assumption)
end
end
end Mine
end
section
namespace Mine
section
variable {w : World} {p : Program} {loose : List Str} {mean : ExcName → Option Value} {mg mb : Str → Option Value} {dp un : Nat} {gd : Option (List Code)} {cn : Str} {cs : Scope} {a : Addr} {ccd : Value} {cl : List (Str × Addr)} {outer : List Env} {A₀ : Around} {base h₀ : Heap} {L : Addr} {m : Str → Option Value}
  {s : Shared} {Q E : Value → Shared → Prop}
section
local macro_rules | `(tactic| k_mem) => `(tactic| ((repeat (first | with_reducible assumption | exact List.mem_cons_self | refine List.mem_cons_of_mem _ ?_ | refine List.mem_append_right _ ?_)); done))
theorem turn1E {sc : Scope} {La x dx rx drx lx dlx d le ol dpar f2 cc2 fl : Addr} {es er : List DictEntry} {n nr n1 n2 n3 nn : Nat} {o o₀ oc ou opar oc2 : Obj} {fd2 : FuncData} {kvs kvs2 : List (Int × Value)} {evs ows frs : List Value} {lim ns gone used : Int} {cb : Array UInt8} {t1 t2 t3 t4 t5 t6 t7 t8 t9 tb tg tu tl tt tr : Tok} {g₀ : Heap} {R : List (Addr × Obj)} {b : Bool} {bd : List Stmt} {Q : Flow → Shared → Prop}
  (G : Gr (ktrTop dp un gd cn cs La a ccd cl []) base [envX cn cs La a ccd cl] (Mine.hd.heap_39 w.params) p loose mean mg mb g₀) (XB : (Mine.hd.heap_39 w.params).In base) (TB : Top p loose mean mg mb base) (codeHd : CodeHd base 487 483)
  (hLa : g₀.get? La = some o₀) (T0 : KtsTurn [La] g₀ h₀) (F : Fr h₀ L s.heap m) (N : News h₀ L s.heap ((lx, instObj 295 dlx) :: (dlx, dictOf (lids w.params t1 t2 t3 t4 t5 t6 (.int lim t7) d le (.int ns t8) (.int 0 t9) false) 6) :: (d, o) :: (le, listOf evs.toArray n1) :: (ol, listOf ows.toArray n2) :: R)) (hk : cs.kind = .function)
  (hd : dp + 200 < recursionLimit) (hu : un + 1500 < cLine)
  (x1 : (x, instObj 470 dx) ∈ R) (x2 : (dx, dictOf es n) ∈ R) (x4 : (rx, instObj 323 drx) ∈ R) (x5 : (drx, dictOf er nr) ∈ R) (x3 : (dpar, opar) ∈ R) (x6 : (f2, fnObj fd2) ∈ R) (x7 : (cc2, oc2) ∈ R) (x8 : (fl, listOf frs.toArray n3) ∈ R) (tw : Twins R ows frs)
  (g2 : getL (Str.ofString "role") es = some (some (.str (if b then Str.ofString "client" else Str.ofString "server") tr))) (g4 : getL (Str.ofString "local") es = some (some (.ref lx))) (g6 : getL (Str.ofString "params") es = some (some (.ref dpar))) (g7 : getL (Str.ofString "owed") es = some (some (.ref ol))) (g8 : getL (Str.ofString "choose") es = some (some (.ref f2))) (k2 : getL (Str.ofString "dcid") er = some (some (.bytes cb tb)))
  (hpar : opar.IsDictOf (PySem.strKind PySem.Challenge.rw_rg0255_01.row.prog w) []) (hlp : (dpar == sysModules) = false) (ch : ChooseAt w f2 fd2 [(cc2, oc2)])
  (hd0 : o.IsDictOf (PySem.intKind PySem.Challenge.rw_rg0255_01.row.prog w) kvs) (hlo : (d == sysModules) = false) (hz : kvs.length ≤ 1000)
  (ne1 : @Ne Nat lx dlx) (ne2 : @Ne Nat lx d) (ne3 : @Ne Nat lx le) (ne4 : @Ne Nat dlx d) (ne5 : @Ne Nat dlx le) (ne6 : @Ne Nat d le) (ne7 : @Ne Nat ol lx) (ne8 : @Ne Nat ol dlx) (ne9 : @Ne Nat ol d) (ne10 : @Ne Nat ol le) (r1 : ∀ p ∈ R, p.1 ≠ lx) (r2 : ∀ p ∈ R, p.1 ≠ dlx) (r3 : ∀ p ∈ R, p.1 ≠ d) (r4 : ∀ p ∈ R, p.1 ≠ le) (r5 : ∀ p ∈ R, p.1 ≠ ol)
  (c1 : (L + 1, oc) ∈ R) (c2 : oc.data = .cell (some (.int gone tg))) (c3 : (L + 2, ou) ∈ R) (c4 : ou.data = .cell (some (.int used tu)))
  (hm1 : m (Str.ofString "conn") = some (.ref x)) (hm2 : m (Str.ofString "raw") = some (.ref rx)) (hm3 : m (Str.ofString "limit") = some (.int lim tl)) (hm4 : m (Str.ofString "turn") = some (.int 1 tt)) (hm5 : m (Str.ofString "frames") = some (.ref fl))
  (hst : Steps ns cb [gone] kvs [false] kvs2) (hbl : [false].length ≤ 50) (hbd : bd = rrTurn) (hsc : sc = rrSc)
  (hl0 : 0 ≤ lim) (hl8 : lim ≤ 6) (hows : ows.length ≤ 1) (hE : gone = used) (hne : kvs2 ≠ []) (hz3 : (kvs2).length < 64) (hasc : lks_asc ((kvs2).map Prod.fst) = true) (hkeys : (kvs2).map Prod.fst = lefts gone used nn) (hnn : (nn : Int) = lim) (hfull : lim ≤ (kvs2.length : Int)) (hz2 : kvs2.length ≤ 1000) (hpos2 : ∀ q ∈ kvs2, 0 ≤ q.1) (hfr : frs = []) (how : ows = [])
  (ret : ∀ g h' tk' m', KtsTurn [La] g₀ g → Fr g L h' m' → News g L h' R → Q .next { s with heap := h', toks := tk' }) :
  wpAny (model PySem.Challenge.rw_rg0255_01.row.prog w) ((ktrTop dp un gd cn cs La a ccd cl []).deeper (envOfC (Str.ofString "_law_retired_right") sc L 500 (.ref 499))) (execs bd (envOfC (Str.ofString "_law_retired_right") sc L 500 (.ref 499))) Q E s := by
  k_with_none
  k_with "exec For Name Subscript cons nil" => (k_here;  k_dflt (refine' inner1T ?G ?XB ?TB ?hLa ?T0 ?F ?N ?hk ?hd ?hu ?x1 ?x2 ?x4 ?x5 ?g4 ?k2 ?hd0 ?hlo ?hz ?w1 ?w2 ?w3 ?w4 ?w5 ?w6 ?ne2 ?ne4 ?ne6 ?ne9 ?r1 ?r2 ?r3 ?r4 ?r5 ?c1 ?c2 ?hm5 ?hm6 ?hm1 ?hm2 ?hm4 ?hst ?hbl ?hfs ?hsc ?_; (case hLa => assumption); (case G => assumption); (case XB => assumption); (case TB => assumption); (case T0 => assumption); (case F => k_asm); (case N => k_asm); (case hk => exact rfl); (case hd => omega); (case hu => omega); (case x1 => assumption); (case x2 => assumption); (case g4 => assumption); (case x4 => assumption); (case x5 => assumption); (case k2 => assumption); (case hd0 => assumption); (case hlo => assumption); (case hz => assumption); (case w1 => omega); (case w2 => omega); (case w3 => omega); (case w4 => omega); (case w5 => omega); (case w6 => assumption); (case ne2 => assumption); (case ne4 => assumption); (case ne6 => assumption); (case ne9 => assumption); (case r1 => assumption); (case r2 => assumption); (case r3 => assumption); (case r4 => assumption); (case r5 => assumption); (case c1 => assumption); (case c2 => assumption); (case hm5 => first | assumption | (simp; done) | (with_unfolding_all exact rfl)); (case hm6 => first | assumption | (simp; done) | (with_unfolding_all exact rfl)); (case hm1 => first | assumption | (simp; done) | (with_unfolding_all exact rfl)); (case hm2 => first | assumption | (simp; done) | (with_unfolding_all exact rfl)); (case hm4 => first | assumption | (simp; done) | (with_unfolding_all exact rfl)); (case hst => assumption); (case hbl => assumption); (case hfs => exact rfl); (case hsc => exact rfl)); (intro g_k9 h_k9' tk_k9' o_k9' ws_k9 nw_k9 tps_k9 v8_k9 v9_k9 T_k9' F_k9' N_k9' hd_k9' ho_k9 q1_k9 q2_k9 q3_k9 q4_k9 q5_k9 q6_k9; (have G2' := Gr.turn1 T_k9' (by assumption) (by assumption) (by assumption)); (have B2' := Gr.B G2'); (have X2' := Gr.X G2'); (have P2' := Gr.T G2')))
  k_with "compareOp NotEq ref ref" => (k_here; k_dflt (refine' ne_twins ?N ?m1 ?m2 ?tw ?hu ?_; (case N => k_asm); (case m1 => k_mem); (case m2 => k_mem); (case tw => (first | (refine Twins.mono ?_ (by assumption); ((intro q_k9 hq_k9; (repeat (first | exact hq_k9 | exact List.mem_append_right _ hq_k9 | refine List.mem_cons_of_mem _ ?_))))))); (case hu => ktr_units)))
  k_with "binaryOp Mult ref int" => (k_here; (with_reducible show wpAny _ _ (binaryOp Operator.Mult (Value.ref _) (Value.int _ _)) _ _ _); k_dflt (refine' mul_one ?F ?N ?l ?h0 ?h1 ?_; (case F => k_asm); (case N => k_asm); (case l => k_mem); (case h0 => first | decide | omega); (case h1 => first | decide | omega)); intro D_k9' h_k9' F_k9' N_k9' l1_k9; (try k_lt l1_k9))
  k_with "call type:bytes" => (k_here; (with_reducible show wpAny _ _ (call (Value.type "bytes") [Value.ref _]) _ _ _); k_dflt (refine' bytes_rep ?F ?N ?hh ?hl ?h0 ?h1 ?hk ?_; (case F => k_asm); (case N => k_asm); (case hh => exact rfl); (case hl => k_mem); (case h0 => first | decide | omega); (case h1 => first | decide | omega); (case hk => first | decide | omega)); intro h_k9' t_k9' tk_k9' F_k9' N_k9'; (try k_sweep))
  k_with "call ref" => (k_here; (with_reducible show wpAny _ _ (call (Value.ref 306) _) _ _ _); k_dflt (refine' iss0_spec (n1 := 0) (n2 := 0) (evs := []) (ows := []) ?B ?F ?X ?N ?T ?hk ?codeHd ?hd ?hu ?x1 ?x2 ?x3 ?x4 ?x5 ?g2 ?g5 ?g6 ?g7 ?g8 ?hpar ?hlp ?ch ?hd0 ?hlo ?hz ?hpos ?m1 ?m2 ?m3 ?hfull ?_; (case B => k_asm); (case F => k_asm); (case X => k_asm); (case N => k_asm); (case T => k_asm); (case hk => exact rfl); (case codeHd => assumption); (case hd => ktr_room); (case hu => ktr_units); (case x1 => k_mem); (case x2 => k_mem); (case g2 => assumption); (case g5 => assumption); (case g6 => assumption); (case g7 => assumption); (case g8 => assumption); (case hpar => assumption); (case hlp => assumption); (case ch => assumption); (case x3 => k_mem); (case x4 => k_mem); (case x5 => k_mem); (case hd0 => assumption); (case hlo => assumption); (case hz => assumption); (case hpos => assumption); (case m1 => k_mem); (case m2 => k_mem); (case m3 => k_mem); (case hfull => assumption)); (intro h_k9' tk_k9' F_k9' N_k9'; (try k_sweep)))
  k_with "exec Assign cons ListComp" => (k_here;  k_dflt (refine' left_spec ?G ?F ?N ?hk ?hd ?hu ?x8 ?c1 ?c2 ?c3 ?c4 ?hm3 ?hm5 ?hl0 ?hl ?hfl ?hnn ?hbd ?hsc ?_; (case F => k_asm); (case G => assumption); (case N => k_asm); (case hk => exact rfl); (case hd => assumption); (case hu => assumption); (case hm3 => first | assumption | (simp; done) | (with_unfolding_all exact rfl)); (case hm5 => first | assumption | (simp; done) | (with_unfolding_all exact rfl)); (case x8 => k_mem); (case c1 => k_mem); (case c3 => k_mem); (case c2 => assumption); (case c4 => assumption); (case hl0 => first | assumption | omega); (case hl => first | assumption | omega); (case hfl => (simp; done)); (case hnn => first | exact hnnE (by assumption) | exact hnnN (by assumption)); (case hbd => exact rfl); (case hsc => exact rfl)); (intro D_k9' h_k9' tk_k9' ys_k9' F_k9' N_k9' i9_k9 off9_k9; (have i8_k9 := ints_cast (by assumption) i9_k9)))
  k_with "exec If" => (k_here;  k_dflt (refine' if6_1E ?G ?F ?N ?hk ?hd ?hu ?x1 ?x2 ?x8 ?x9 ?tw ?i1 ?i2 ?i3 ?i4 ?i5 ?g4 ?g7 ?hd0 ?hlo ?hne ?hz ?hasc ?hys ?c1 ?c2 ?c3 ?c4 ?hm1 ?hm2 ?hm3 ?hm4 ?hm5 ?ho ?hsub ?hE ?hbd ?hsc ?_; (case hbd => exact rfl); (case hsc => exact rfl); (case F => k_asm); (case G => assumption); (case N => k_asm); (case hk => exact rfl); (case hd => assumption); (case hu => assumption); (case hm1 => first | assumption | (simp; done) | (with_unfolding_all exact rfl)); (case hm2 => first | assumption | (simp; done) | (with_unfolding_all exact rfl)); (case hm3 => first | assumption | (simp; done) | (with_unfolding_all exact rfl)); (case hm4 => first | assumption | (simp; done) | (with_unfolding_all exact rfl)); (case hm5 => first | assumption | (simp; done) | (with_unfolding_all exact rfl)); (case x1 => k_mem); (case x2 => k_mem); (case g4 => assumption); (case g7 => assumption); (case x8 => k_mem); (case x9 => k_mem); (case tw => (first | (refine Twins.mono ?_ (by assumption); ((intro q_k9 hq_k9; (repeat (first | exact hq_k9 | exact List.mem_append_right _ hq_k9 | refine List.mem_cons_of_mem _ ?_))))) | exact (rfl : Twins _ [] []) | (refine ⟨_, _, rfl, Or.inr ⟨_, _, _, _, rfl, rfl, ?ne, ?m1, ?m2, ?t⟩, rfl⟩; (case m1 => k_mem); (case m2 => k_mem); (case ne => first | omega | exact Nat.ne_of_lt (by first | omega | exact ltAll (by assumption) (by k_mem))); (case t => exact ⟨_, _, rfl, ⟨_, rfl⟩, _, _, rfl, ⟨_, rfl⟩, _, _, rfl, ⟨_, rfl⟩, _, _, rfl, ⟨_, by rw [Int.add_comm]⟩, _, _, rfl, ⟨_, by rw [Int.add_comm]⟩, rfl⟩)))); (case i1 => k_mem); (case i2 => k_mem); (case hd0 => assumption); (case i3 => k_mem); (case i4 => k_mem); (case i5 => k_mem); (case hlo => assumption); (case hne => assumption); (case hz => assumption); (case hasc => assumption); (case hys => assumption); (case c1 => k_mem); (case c3 => k_mem); (case c2 => assumption); (case c4 => assumption); (case hE => first | assumption | rfl); (case ho => assumption); (case hsub => (intro q_k9 hq_k9; (repeat (first | exact hq_k9 | exact List.mem_append_left _ hq_k9 | refine List.mem_cons_of_mem _ ?_))))); (intro h_k9' tk_k9' F_k9' N_k9'))
  k_with "ite" => (first | (refine ite_neg (by simp; done) ?_) | (refine ite_pos (by first | (simp; done) | (simp; assumption) | (simp; omega)) ?_) | (refine ite_pos (decide_eq_true (by omega)) ?_) | (refine ite_neg (by rw [decide_eq_false (by omega)]; exact Bool.false_ne_true) ?_))
  have G1 := G.turn XB TB T0
  have B := G1.B
  have X := G1.X
  revert X; k_fill; intro X
  have T := G1.T
  have em : ∀ m : Str → Option Value, m (Str.ofString "conn") = some (.ref x) → m (Str.ofString "raw") = some (.ref rx) → m (Str.ofString "limit") = some (.int lim tl) → m (Str.ofString "turn") = some (.int 1 tt) → m (Str.ofString "frames") = some (.ref fl) → m = fun y => if y = Str.ofString "conn" then some (.ref x) else if y = Str.ofString "raw" then some (.ref rx) else if y = Str.ofString "limit" then some (.int lim tl) else if y = Str.ofString "turn" then some (.int 1 tt) else if y = Str.ofString "frames" then some (.ref fl) else m y := by
    intro m e0 e1 e2 e3 e4
    funext y
    by_cases q0 : y = Str.ofString "conn"
    · rw [if_pos q0, q0, e0]
    by_cases q1 : y = Str.ofString "raw"
    · rw [if_neg q0, if_pos q1, q1, e1]
    by_cases q2 : y = Str.ofString "limit"
    · rw [if_neg q0, if_neg q1, if_pos q2, q2, e2]
    by_cases q3 : y = Str.ofString "turn"
    · rw [if_neg q0, if_neg q1, if_neg q2, if_pos q3, q3, e3]
    by_cases q4 : y = Str.ofString "frames"
    · rw [if_neg q0, if_neg q1, if_neg q2, if_neg q3, if_pos q4, q4, e4]
    rw [if_neg q0, if_neg q1, if_neg q2, if_neg q3, if_neg q4]
  rw [em m hm1 hm2 hm3 hm4 hm5] at F
  subst hfr how hE
  conv at hbd => rhs; whnf
  conv at hsc => rhs; whnf
  subst hbd hsc
  obtain ⟨k9, n9, g9, c9, e9⟩ := cs
  dsimp only at hk
  subst hk
  refine wpAny_noRaise ?_
  k_steps
  exact ret _ _ _ _ (by assumption) (by assumption) (fun q hq => (by assumption : News _ L _ _) q (by repeat (first | exact hq | refine List.mem_cons_of_mem _ ?_ | refine List.mem_append_right _ ?_)))
end
end
end Mine
end
section
namespace Mine
theorem mem_fr {a b c d e f : Addr × Obj} {l : List (Addr × Obj)} : ∀ q ∈ a :: b :: l, q ∈ a :: b :: c :: d :: e :: f :: l := by
  intro q hq
  simp only [List.mem_cons] at hq ⊢
  rcases hq with h | h | h <;> simp [h]
def rrFrames : Stmt := rrTurn.getD 4 (.Pass ⟨0, 0, 0, 0⟩)
section
variable {w : World} {p : Program} {loose : List Str} {mean : ExcName → Option Value} {mg mb : Str → Option Value} {dp un : Nat} {gd : Option (List Code)} {cn : Str} {cs : Scope} {a : Addr} {ccd : Value} {cl : List (Str × Addr)} {outer : List Env} {A₀ : Around} {base h₀ : Heap} {L : Addr} {m : Str → Option Value}
  {s : Shared} {Q E : Value → Shared → Prop}
theorem framesN {sc : Scope} {La : Addr} {oc ou : Obj} {lim gone used : Int} {tg tu tl : Tok} {news : List (Addr × Obj)} {fs : Stmt} {Q : Flow → Shared → Prop}
  (G : Gr (ktrTop dp un gd cn cs La a ccd cl []) base [envX cn cs La a ccd cl] (Mine.hd.heap_39 w.params) p loose mean mg mb h₀)
  (F : Fr h₀ L s.heap m) (N : News h₀ L s.heap news) (hk : cs.kind = .function)
  (hd : dp + 200 < recursionLimit) (hu : un + 1500 < cLine)
  (c1 : (L + 1, oc) ∈ news) (c2 : oc.data = .cell (some (.int gone tg))) (c3 : (L + 2, ou) ∈ news) (c4 : ou.data = .cell (some (.int used tu)))
  (hm3 : m (Str.ofString "limit") = some (.int lim tl)) (hl0 : 0 ≤ lim) (hl : lim ≤ 8) (hE : gone ≠ used) (hbd : fs = rrFrames) (hsc : sc = rrSc)
  (ret : ∀ D X9 h' tk' n' v1 v2 v3 v4 v5, Fr h₀ L h' (fun z => if z = Str.ofString "frames" then some (.ref D) else m z) → News h₀ L h' ((D, listOf [.ref X9].toArray n') :: (X9, tupObj [.str (Str.ofString "new_connection_id") v1, .int lim v2, .int 0 v3, .bytes (repB 8 (100 + lim)) v4, .bytes (repB 16 (200 + lim)) v5]) :: news) → (∀ p ∈ news, p.1 < X9) → @LT.lt Nat _ X9 D → Q .next { s with heap := h', toks := tk' }) :
  wpAny (model PySem.Challenge.rw_rg0255_01.row.prog w) ((ktrTop dp un gd cn cs La a ccd cl []).deeper (envOfC (Str.ofString "_law_retired_right") sc L 500 (.ref 499))) (exec fs (envOfC (Str.ofString "_law_retired_right") sc L 500 (.ref 499))) Q E s := by
  k_with_none
  k_with "binaryOp Mult ref int" => (k_here; (with_reducible show wpAny _ _ (binaryOp Operator.Mult (Value.ref _) (Value.int _ _)) _ _ _); k_dflt (refine' mul_one ?F ?N ?l ?h0 ?h1 ?_; (case F => k_asm); (case N => k_asm); (case l => k_mem); (case h0 => first | decide | omega); (case h1 => first | decide | omega)); intro D_k9' h_k9' F_k9' N_k9' l1_k9; (try k_lt l1_k9))
  k_with "call type:bytes" => (k_here; (with_reducible show wpAny _ _ (call (Value.type "bytes") [Value.ref _]) _ _ _); k_dflt (refine' bytes_rep ?F ?N ?hh ?hl ?h0 ?h1 ?hk ?_; (case F => k_asm); (case N => k_asm); (case hh => exact rfl); (case hl => k_mem); (case h0 => first | decide | omega); (case h1 => first | decide | omega); (case hk => first | decide | omega)); intro h_k9' t_k9' tk_k9' F_k9' N_k9'; (try k_sweep))
  have B := G.B
  have X := G.X
  revert X; k_fill; intro X
  have T := G.T
  have em : ∀ m : Str → Option Value, m (Str.ofString "limit") = some (.int lim tl) → m = fun y => if y = Str.ofString "limit" then some (.int lim tl) else m y := by
    intro m e0
    funext y
    by_cases q0 : y = Str.ofString "limit"
    · rw [if_pos q0, q0, e0]
    rw [if_neg q0]
  rw [em m hm3] at F
  conv at hbd => rhs; whnf
  conv at hsc => rhs; whnf
  subst hbd hsc
  obtain ⟨k9, n9, g9, c9, e9⟩ := cs
  dsimp only at hk
  subst hk
  refine wpAny_noRaise ?_
  k_steps
  all_goals first | (exfalso; omega) | (refine' ret _ _ _ _ _ _ _ _ _ _ ?F (fun q hq => (by assumption : News h₀ L _ _) q (mem_fr q hq)) ?a ?b; (case F => (rw [em m hm3]; assumption)); (case a => assumption); (case b => first | assumption | exact And.left (by assumption)))
end
end Mine
end
section
namespace Mine
theorem twinIssue {news : List (Addr × Obj)} {a b : Addr} {x : Str} {lim : Int} {v1 v2 v3 v4 v5 u1 u2 u3 u4 u5 : Tok} (ne : a ≠ b) (m1 : (a, tupObj [.str x v1, .int lim v2, .int 0 v3, .bytes (repB 8 (lim + 100)) v4, .bytes (repB 16 (lim + 200)) v5]) ∈ news)
    (m2 : (b, tupObj [.str x u1, .int lim u2, .int 0 u3, .bytes (repB 8 (100 + lim)) u4, .bytes (repB 16 (200 + lim)) u5]) ∈ news) : Twins news [.ref a] [.ref b] :=
  ⟨_, _, rfl, Or.inr ⟨a, b, _, _, rfl, rfl, ne, m1, m2, _, _, rfl, ⟨_, rfl⟩, _, _, rfl, ⟨_, rfl⟩, _, _, rfl, ⟨_, rfl⟩, _, _, rfl, ⟨_, by rw [Int.add_comm]⟩, _, _, rfl, ⟨_, by rw [Int.add_comm]⟩, rfl⟩, rfl⟩
section
variable {w : World} {p : Program} {loose : List Str} {mean : ExcName → Option Value} {mg mb : Str → Option Value} {dp un : Nat} {gd : Option (List Code)} {cn : Str} {cs : Scope} {a : Addr} {ccd : Value} {cl : List (Str × Addr)} {outer : List Env} {A₀ : Around} {base h₀ : Heap} {L : Addr} {m : Str → Option Value}
  {s : Shared} {Q E : Value → Shared → Prop}
section
local macro_rules | `(tactic| k_mem) => `(tactic| ((repeat (first | with_reducible assumption | exact List.mem_cons_self | refine List.mem_cons_of_mem _ ?_ | refine List.mem_append_right _ ?_)); done))
theorem turn1N {sc : Scope} {La x dx rx drx lx dlx d le ol dpar f2 cc2 fl : Addr} {es er : List DictEntry} {n nr n1 n2 n3 nn : Nat} {o o₀ oc ou opar oc2 : Obj} {fd2 : FuncData} {kvs kvs2 : List (Int × Value)} {evs ows frs : List Value} {lim ns gone used : Int} {cb : Array UInt8} {t1 t2 t3 t4 t5 t6 t7 t8 t9 tb tg tu tl tt tr : Tok} {g₀ : Heap} {R : List (Addr × Obj)} {b : Bool} {bd : List Stmt} {Q : Flow → Shared → Prop}
  (G : Gr (ktrTop dp un gd cn cs La a ccd cl []) base [envX cn cs La a ccd cl] (Mine.hd.heap_39 w.params) p loose mean mg mb g₀) (XB : (Mine.hd.heap_39 w.params).In base) (TB : Top p loose mean mg mb base) (codeHd : CodeHd base 487 483)
  (hLa : g₀.get? La = some o₀) (T0 : KtsTurn [La] g₀ h₀) (F : Fr h₀ L s.heap m) (N : News h₀ L s.heap ((lx, instObj 295 dlx) :: (dlx, dictOf (lids w.params t1 t2 t3 t4 t5 t6 (.int lim t7) d le (.int ns t8) (.int 0 t9) false) 6) :: (d, o) :: (le, listOf evs.toArray n1) :: (ol, listOf ows.toArray n2) :: R)) (hk : cs.kind = .function)
  (hd : dp + 200 < recursionLimit) (hu : un + 1500 < cLine)
  (x1 : (x, instObj 470 dx) ∈ R) (x2 : (dx, dictOf es n) ∈ R) (x4 : (rx, instObj 323 drx) ∈ R) (x5 : (drx, dictOf er nr) ∈ R) (x3 : (dpar, opar) ∈ R) (x6 : (f2, fnObj fd2) ∈ R) (x7 : (cc2, oc2) ∈ R) (x8 : (fl, listOf frs.toArray n3) ∈ R) (tw : Twins R ows frs)
  (g2 : getL (Str.ofString "role") es = some (some (.str (if b then Str.ofString "client" else Str.ofString "server") tr))) (g4 : getL (Str.ofString "local") es = some (some (.ref lx))) (g6 : getL (Str.ofString "params") es = some (some (.ref dpar))) (g7 : getL (Str.ofString "owed") es = some (some (.ref ol))) (g8 : getL (Str.ofString "choose") es = some (some (.ref f2))) (k2 : getL (Str.ofString "dcid") er = some (some (.bytes cb tb)))
  (hpar : opar.IsDictOf (PySem.strKind PySem.Challenge.rw_rg0255_01.row.prog w) []) (hlp : (dpar == sysModules) = false) (ch : ChooseAt w f2 fd2 [(cc2, oc2)])
  (hd0 : o.IsDictOf (PySem.intKind PySem.Challenge.rw_rg0255_01.row.prog w) kvs) (hlo : (d == sysModules) = false) (hz : kvs.length ≤ 1000)
  (ne1 : @Ne Nat lx dlx) (ne2 : @Ne Nat lx d) (ne3 : @Ne Nat lx le) (ne4 : @Ne Nat dlx d) (ne5 : @Ne Nat dlx le) (ne6 : @Ne Nat d le) (ne7 : @Ne Nat ol lx) (ne8 : @Ne Nat ol dlx) (ne9 : @Ne Nat ol d) (ne10 : @Ne Nat ol le) (r1 : ∀ p ∈ R, p.1 ≠ lx) (r2 : ∀ p ∈ R, p.1 ≠ dlx) (r3 : ∀ p ∈ R, p.1 ≠ d) (r4 : ∀ p ∈ R, p.1 ≠ le) (r5 : ∀ p ∈ R, p.1 ≠ ol)
  (c1 : (L + 1, oc) ∈ R) (c2 : oc.data = .cell (some (.int gone tg))) (c3 : (L + 2, ou) ∈ R) (c4 : ou.data = .cell (some (.int used tu)))
  (hm1 : m (Str.ofString "conn") = some (.ref x)) (hm2 : m (Str.ofString "raw") = some (.ref rx)) (hm3 : m (Str.ofString "limit") = some (.int lim tl)) (hm4 : m (Str.ofString "turn") = some (.int 1 tt)) (hm5 : m (Str.ofString "frames") = some (.ref fl))
  (hst : Steps ns cb [gone] kvs [true] kvs2) (hbl : [true].length ≤ 50) (hbd : bd = rrTurn) (hsc : sc = rrSc)
  (hl0 : 0 ≤ lim) (hl8 : lim ≤ 6) (hows : ows.length ≤ 1) (hE : gone ≠ used) (hne : kvs2 ≠ []) (hz3 : (kvs2).length < 64) (hasc : lks_asc ((kvs2).map Prod.fst) = true) (hkeys : (kvs2).map Prod.fst = lefts gone used nn) (hnn : (nn : Int) = lim + 1) (hfull : lim ≤ (kvs2.length : Int)) (hz2 : kvs2.length ≤ 1000) (hpos2 : ∀ q ∈ kvs2, 0 ≤ q.1) {y9 : Addr} {v1 v2 v3 v4 v5 : Tok} (how : ows = [.ref y9]) (hy9 : (y9, tupObj [.str (Str.ofString "new_connection_id") v1, .int lim v2, .int 0 v3, .bytes (repB 8 (lim + 100)) v4, .bytes (repB 16 (lim + 200)) v5]) ∈ R)
  (ret : ∀ g h' tk' m', KtsTurn [La] g₀ g → Fr g L h' m' → News g L h' R → Q .next { s with heap := h', toks := tk' }) :
  wpAny (model PySem.Challenge.rw_rg0255_01.row.prog w) ((ktrTop dp un gd cn cs La a ccd cl []).deeper (envOfC (Str.ofString "_law_retired_right") sc L 500 (.ref 499))) (execs bd (envOfC (Str.ofString "_law_retired_right") sc L 500 (.ref 499))) Q E s := by
  k_with_none
  k_with "exec For Name Subscript cons nil" => (k_here;  k_dflt (refine' inner1T ?G ?XB ?TB ?hLa ?T0 ?F ?N ?hk ?hd ?hu ?x1 ?x2 ?x4 ?x5 ?g4 ?k2 ?hd0 ?hlo ?hz ?w1 ?w2 ?w3 ?w4 ?w5 ?w6 ?ne2 ?ne4 ?ne6 ?ne9 ?r1 ?r2 ?r3 ?r4 ?r5 ?c1 ?c2 ?hm5 ?hm6 ?hm1 ?hm2 ?hm4 ?hst ?hbl ?hfs ?hsc ?_; (case hLa => assumption); (case G => assumption); (case XB => assumption); (case TB => assumption); (case T0 => assumption); (case F => k_asm); (case N => k_asm); (case hk => exact rfl); (case hd => omega); (case hu => omega); (case x1 => assumption); (case x2 => assumption); (case g4 => assumption); (case x4 => assumption); (case x5 => assumption); (case k2 => assumption); (case hd0 => assumption); (case hlo => assumption); (case hz => assumption); (case w1 => omega); (case w2 => omega); (case w3 => omega); (case w4 => omega); (case w5 => omega); (case w6 => assumption); (case ne2 => assumption); (case ne4 => assumption); (case ne6 => assumption); (case ne9 => assumption); (case r1 => assumption); (case r2 => assumption); (case r3 => assumption); (case r4 => assumption); (case r5 => assumption); (case c1 => assumption); (case c2 => assumption); (case hm5 => first | assumption | (simp; done) | (with_unfolding_all exact rfl)); (case hm6 => first | assumption | (simp; done) | (with_unfolding_all exact rfl)); (case hm1 => first | assumption | (simp; done) | (with_unfolding_all exact rfl)); (case hm2 => first | assumption | (simp; done) | (with_unfolding_all exact rfl)); (case hm4 => first | assumption | (simp; done) | (with_unfolding_all exact rfl)); (case hst => assumption); (case hbl => assumption); (case hfs => exact rfl); (case hsc => exact rfl)); (intro g_k9 h_k9' tk_k9' o_k9' ws_k9 nw_k9 tps_k9 v8_k9 v9_k9 T_k9' F_k9' N_k9' hd_k9' ho_k9 q1_k9 q2_k9 q3_k9 q4_k9 q5_k9 q6_k9; (have G2' := Gr.turn1 T_k9' (by assumption) (by assumption) (by assumption)); (have B2' := Gr.B G2'); (have X2' := Gr.X G2'); (have P2' := Gr.T G2')))
  k_with "compareOp NotEq ref ref" => (k_here; k_dflt (refine' ne_twins ?N ?m1 ?m2 ?tw ?hu ?_; (case N => k_asm); (case m1 => k_mem); (case m2 => k_mem); (case tw => (refine Twins.mono ?_ (by assumption); (intro q_k9 hq_k9; (repeat (first | exact hq_k9 | exact List.mem_append_right _ hq_k9 | refine List.mem_cons_of_mem _ ?_))))); (case hu => ktr_units)))
  k_with "call ref" => (k_here; (with_reducible show wpAny _ _ (call (Value.ref 306) _) _ _ _); k_dflt (refine' iss0_spec (n1 := 0) (n2 := 0) (evs := []) (ows := []) ?B ?F ?X ?N ?T ?hk ?codeHd ?hd ?hu ?x1 ?x2 ?x3 ?x4 ?x5 ?g2 ?g5 ?g6 ?g7 ?g8 ?hpar ?hlp ?ch ?hd0 ?hlo ?hz ?hpos ?m1 ?m2 ?m3 ?hfull ?_; (case B => k_asm); (case F => k_asm); (case X => k_asm); (case N => k_asm); (case T => k_asm); (case hk => exact rfl); (case codeHd => assumption); (case hd => ktr_room); (case hu => ktr_units); (case x1 => k_mem); (case x2 => k_mem); (case g2 => assumption); (case g5 => assumption); (case g6 => assumption); (case g7 => assumption); (case g8 => assumption); (case hpar => assumption); (case hlp => assumption); (case ch => assumption); (case x3 => k_mem); (case x4 => k_mem); (case x5 => k_mem); (case hd0 => assumption); (case hlo => assumption); (case hz => assumption); (case hpos => assumption); (case m1 => k_mem); (case m2 => k_mem); (case m3 => k_mem); (case hfull => assumption)); (intro h_k9' tk_k9' F_k9' N_k9'; (try k_sweep)))
  k_with "exec Assign cons ListComp" => (k_here;  k_dflt (refine' left_spec ?G ?F ?N ?hk ?hd ?hu ?x8 ?c1 ?c2 ?c3 ?c4 ?hm3 ?hm5 ?hl0 ?hl ?hfl ?hnn ?hbd ?hsc ?_; (case F => k_asm); (case G => assumption); (case N => k_asm); (case hk => exact rfl); (case hd => assumption); (case hu => assumption); (case hm3 => first | assumption | (simp; done) | (with_unfolding_all exact rfl)); (case hm5 => first | assumption | (simp; done) | (with_unfolding_all exact rfl)); (case x8 => k_mem); (case c1 => k_mem); (case c3 => k_mem); (case c2 => assumption); (case c4 => assumption); (case hl0 => first | assumption | omega); (case hl => first | assumption | omega); (case hfl => (simp; done)); (case hnn => first | exact hnnE (by assumption) | exact hnnN (by assumption)); (case hbd => exact rfl); (case hsc => exact rfl)); (intro D_k9' h_k9' tk_k9' ys_k9' F_k9' N_k9' i9_k9 off9_k9; (have i8_k9 := ints_cast (by assumption) i9_k9)))
  k_with "exec If" => (k_here; (with_reducible show wpAny _ _ (exec (Stmt.If (Expr.BoolOp _ _ _) _ _ _) _) _ _ _); k_dflt (refine' if6_1N ?G ?F ?N ?hk ?hd ?hu ?x1 ?x2 ?x8 ?x9 ?tw ?i1 ?i2 ?i3 ?i4 ?i5 ?g4 ?g7 ?hd0 ?hlo ?hne ?hz ?hasc ?hys ?c1 ?c2 ?c3 ?c4 ?hm1 ?hm2 ?hm3 ?hm4 ?hm5 ?ho ?hsub ?hE ?hbd ?hsc ?_; (case hbd => exact rfl); (case hsc => exact rfl); (case F => k_asm); (case G => assumption); (case N => k_asm); (case hk => exact rfl); (case hd => assumption); (case hu => assumption); (case hm1 => first | assumption | (simp; done) | (with_unfolding_all exact rfl)); (case hm2 => first | assumption | (simp; done) | (with_unfolding_all exact rfl)); (case hm3 => first | assumption | (simp; done) | (with_unfolding_all exact rfl)); (case hm4 => first | assumption | (simp; done) | (with_unfolding_all exact rfl)); (case hm5 => first | assumption | (simp; done) | (with_unfolding_all exact rfl)); (case x1 => k_mem); (case x2 => k_mem); (case g4 => assumption); (case g7 => assumption); (case x8 => k_mem); (case x9 => k_mem); (case tw => first | ((refine' twinIssue ?ne ?m1 ?m2); (case m1 => k_mem); (case m2 => k_mem); (case ne => exact Nat.ne_of_lt (by first | omega | exact ltAll (by assumption) (by k_mem)))) | (refine Twins.mono ?_ (by assumption); (intro q_k9 hq_k9; (repeat (first | exact hq_k9 | exact List.mem_append_right _ hq_k9 | refine List.mem_cons_of_mem _ ?_))))); (case i1 => k_mem); (case i2 => k_mem); (case hd0 => assumption); (case i3 => k_mem); (case i4 => k_mem); (case i5 => k_mem); (case hlo => assumption); (case hne => assumption); (case hz => assumption); (case hasc => assumption); (case hys => assumption); (case c1 => k_mem); (case c3 => k_mem); (case c2 => assumption); (case c4 => assumption); (case hE => first | assumption | rfl); (case ho => assumption); (case hsub => (intro q_k9 hq_k9; (repeat (first | exact hq_k9 | exact List.mem_append_left _ hq_k9 | refine List.mem_cons_of_mem _ ?_))))); (intro h_k9' tk_k9' F_k9' N_k9'))
  k_with "exec If" => (k_here; (with_reducible show wpAny _ _ (exec (Stmt.If (Expr.Compare (Expr.Name _ _) _ _ _) _ _ _) _) _ _ _); k_dflt (refine' framesN ?G ?F ?N ?hk ?hd ?hu ?c1 ?c2 ?c3 ?c4 ?hm3 ?hl0 ?hl ?hE ?hbd ?hsc ?_; (case F => k_asm); (case G => assumption); (case N => k_asm); (case hk => exact rfl); (case hd => assumption); (case hu => assumption); (case hm3 => first | assumption | (simp; done) | (with_unfolding_all exact rfl)); (case c1 => k_mem); (case c3 => k_mem); (case c2 => assumption); (case c4 => assumption); (case hl0 => first | assumption | omega); (case hl => first | assumption | omega); (case hE => assumption); (case hbd => exact rfl); (case hsc => exact rfl)); (intro D9_k9 X9_k9 h_k9' tk_k9' n9_k9' v1_k9' v2_k9' v3_k9' v4_k9' v5_k9' F_k9' N_k9' l1_k9 l2_k9))
  k_with "ite" => (first | (refine ite_neg (by simp; done) ?_) | (refine ite_pos (by first | (simp; done) | (simp; assumption)) ?_))
  have G1 := G.turn XB TB T0
  have B := G1.B
  have X := G1.X
  revert X; k_fill; intro X
  have T := G1.T
  have em : ∀ m : Str → Option Value, m (Str.ofString "conn") = some (.ref x) → m (Str.ofString "raw") = some (.ref rx) → m (Str.ofString "limit") = some (.int lim tl) → m (Str.ofString "turn") = some (.int 1 tt) → m (Str.ofString "frames") = some (.ref fl) → m = fun y => if y = Str.ofString "conn" then some (.ref x) else if y = Str.ofString "raw" then some (.ref rx) else if y = Str.ofString "limit" then some (.int lim tl) else if y = Str.ofString "turn" then some (.int 1 tt) else if y = Str.ofString "frames" then some (.ref fl) else m y := by
    intro m e0 e1 e2 e3 e4
    funext y
    by_cases q0 : y = Str.ofString "conn"
    · rw [if_pos q0, q0, e0]
    by_cases q1 : y = Str.ofString "raw"
    · rw [if_neg q0, if_pos q1, q1, e1]
    by_cases q2 : y = Str.ofString "limit"
    · rw [if_neg q0, if_neg q1, if_pos q2, q2, e2]
    by_cases q3 : y = Str.ofString "turn"
    · rw [if_neg q0, if_neg q1, if_neg q2, if_pos q3, q3, e3]
    by_cases q4 : y = Str.ofString "frames"
    · rw [if_neg q0, if_neg q1, if_neg q2, if_neg q3, if_pos q4, q4, e4]
    rw [if_neg q0, if_neg q1, if_neg q2, if_neg q3, if_neg q4]
  rw [em m hm1 hm2 hm3 hm4 hm5] at F
  subst how
  conv at hbd => rhs; whnf
  conv at hsc => rhs; whnf
  subst hbd hsc
  obtain ⟨k9, n9, g9, c9, e9⟩ := cs
  dsimp only at hk
  subst hk
  refine wpAny_noRaise ?_
  k_steps
  exact ret _ _ _ _ (by assumption) (by assumption) (fun q hq => (by assumption : News _ L _ _) q (by repeat (first | exact hq | refine List.mem_cons_of_mem _ ?_ | refine List.mem_append_right _ ?_)))
end
end
end Mine
end
section
namespace Mine
section
variable {w : World} {o : Obj} {kvs : List (Int × Value)} {k : Int} {v : Value}
theorem neApp (h : o.IsDictOf (PySem.intKind PySem.Challenge.rw_rg0255_01.row.prog w) (kvs ++ [(k, v)])) : kvs ++ [(k, v)] ≠ [] := by simp
theorem asApp (h : o.IsDictOf (PySem.intKind PySem.Challenge.rw_rg0255_01.row.prog w) (kvs ++ [(k, v)])) (a : lks_asc (kvs.map Prod.fst ++ [k]) = true) : lks_asc ((kvs ++ [(k, v)]).map Prod.fst) = true := by rw [List.map_append]; exact a
theorem keyApp {z : List Int} (h : o.IsDictOf (PySem.intKind PySem.Challenge.rw_rg0255_01.row.prog w) (kvs ++ [(k, v)])) (a : kvs.map Prod.fst ++ [k] = z) : (kvs ++ [(k, v)]).map Prod.fst = z := by rw [List.map_append]; exact a
theorem zApp (h : o.IsDictOf (PySem.intKind PySem.Challenge.rw_rg0255_01.row.prog w) (kvs ++ [(k, v)])) (a : kvs.length < 60) : (kvs ++ [(k, v)]).length < 64 := by rw [List.length_append, List.length_singleton]; omega
end
theorem permN {α : Type} {q e f y x a b c d o w : α} {T R : List α} (h : q ∈ a :: b :: c :: d :: o :: f :: y :: x :: R) : q ∈ e :: f :: y :: x :: a :: b :: c :: d :: o :: w :: (T ++ R) := by
  simp only [List.mem_cons, List.mem_append] at h ⊢
  rcases h with h | h | h | h | h | h | h | h | h <;> simp [h]
section
variable {w : World} {p : Program} {loose : List Str} {mean : ExcName → Option Value} {mg mb : Str → Option Value} {dp un : Nat} {gd : Option (List Code)} {cn : Str} {cs : Scope} {a : Addr} {ccd : Value} {cl : List (Str × Addr)} {outer : List Env} {A₀ : Around} {base h₀ : Heap} {L : Addr} {m : Str → Option Value}
  {s : Shared} {Q E : Value → Shared → Prop}
section
local macro_rules | `(tactic| k_mem) => `(tactic| ((repeat (first | with_reducible assumption | exact List.mem_cons_self | refine List.mem_cons_of_mem _ ?_ | refine List.mem_append_right _ ?_)); done))
theorem turn0N {sc : Scope} {La x dx rx drx lx dlx d le ol dpar f2 cc2 fl : Addr} {es er : List DictEntry} {n nr n1 n2 n3 nn : Nat} {o o₀ oc ou opar oc2 : Obj} {fd2 : FuncData} {kvs kvs2 : List (Int × Value)} {evs ows frs : List Value} {lim gone used : Int} {cb : Array UInt8} {t1 t2 t3 t4 t5 t6 t7 t8 t9 tb tg tu tl tt tr : Tok} {g₀ : Heap} {R : List (Addr × Obj)} {b : Bool} {bd : List Stmt} {Q : Flow → Shared → Prop}
  (G : Gr (ktrTop dp un gd cn cs La a ccd cl []) base [envX cn cs La a ccd cl] (Mine.hd.heap_39 w.params) p loose mean mg mb g₀) (XB : (Mine.hd.heap_39 w.params).In base) (TB : Top p loose mean mg mb base) (codeHd : CodeHd base 487 483)
  (hLa : g₀.get? La = some o₀) (T0 : KtsTurn [La] g₀ h₀) (F : Fr h₀ L s.heap m) (N : News h₀ L s.heap ((lx, instObj 295 dlx) :: (dlx, dictOf (lids w.params t1 t2 t3 t4 t5 t6 (.int lim t7) d le (.int lim t8) (.int 0 t9) false) 6) :: (d, o) :: (le, listOf evs.toArray n1) :: (ol, listOf ows.toArray n2) :: R)) (hk : cs.kind = .function)
  (hd : dp + 200 < recursionLimit) (hu : un + 1500 < cLine)
  (x1 : (x, instObj 470 dx) ∈ R) (x2 : (dx, dictOf es n) ∈ R) (x4 : (rx, instObj 323 drx) ∈ R) (x5 : (drx, dictOf er nr) ∈ R) (x3 : (dpar, opar) ∈ R) (x6 : (f2, fnObj fd2) ∈ R) (x7 : (cc2, oc2) ∈ R) (x8 : (fl, listOf frs.toArray n3) ∈ R) (tw : Twins R ows frs)
  (g2 : getL (Str.ofString "role") es = some (some (.str (if b then Str.ofString "client" else Str.ofString "server") tr))) (g4 : getL (Str.ofString "local") es = some (some (.ref lx))) (g6 : getL (Str.ofString "params") es = some (some (.ref dpar))) (g7 : getL (Str.ofString "owed") es = some (some (.ref ol))) (g8 : getL (Str.ofString "choose") es = some (some (.ref f2))) (k2 : getL (Str.ofString "dcid") er = some (some (.bytes cb tb)))
  (hpar : opar.IsDictOf (PySem.strKind PySem.Challenge.rw_rg0255_01.row.prog w) []) (hlp : (dpar == sysModules) = false) (ch : ChooseAt w f2 fd2 [(cc2, oc2)])
  (hd0 : o.IsDictOf (PySem.intKind PySem.Challenge.rw_rg0255_01.row.prog w) kvs) (hlo : (d == sysModules) = false) (hz : kvs.length ≤ 1000)
  (ne1 : @Ne Nat lx dlx) (ne2 : @Ne Nat lx d) (ne3 : @Ne Nat lx le) (ne4 : @Ne Nat dlx d) (ne5 : @Ne Nat dlx le) (ne6 : @Ne Nat d le) (ne7 : @Ne Nat ol lx) (ne8 : @Ne Nat ol dlx) (ne9 : @Ne Nat ol d) (ne10 : @Ne Nat ol le) (r1 : ∀ p ∈ R, p.1 ≠ lx) (r2 : ∀ p ∈ R, p.1 ≠ dlx) (r3 : ∀ p ∈ R, p.1 ≠ d) (r4 : ∀ p ∈ R, p.1 ≠ le) (r5 : ∀ p ∈ R, p.1 ≠ ol)
  (c1 : (L + 1, oc) ∈ R) (c2 : oc.data = .cell (some (.int gone tg))) (c3 : (L + 2, ou) ∈ R) (c4 : ou.data = .cell (some (.int used tu)))
  (hm1 : m (Str.ofString "conn") = some (.ref x)) (hm2 : m (Str.ofString "raw") = some (.ref rx)) (hm3 : m (Str.ofString "limit") = some (.int lim tl)) (hm4 : m (Str.ofString "turn") = some (.int 0 tt)) (hm5 : m (Str.ofString "frames") = some (.ref fl))
  (hst : Steps lim cb [gone, lim] kvs [true, false] kvs2) (hbl : [true, false].length ≤ 50) (hbd : bd = rrTurn) (hsc : sc = rrSc)
  (hl0 : 0 ≤ lim) (hl8 : lim ≤ 6) (hE : gone ≠ used) (hz3 : kvs2.length < 60) (hasc : lks_asc (kvs2.map Prod.fst ++ [lim]) = true) (hkeys : kvs2.map Prod.fst ++ [lim] = lefts gone used nn) (hnn : (nn : Int) = lim + 1) (hroom : (kvs2.length : Int) + 1 = lim) (hz2 : kvs2.length ≤ 1000) (hpos2 : ∀ q ∈ kvs2, 0 ≤ q.1) (hnew : kvs2.any (fun kv => decide (kv.1 = lim)) = false) (hno : NoBytes evs (repB 8 (lim + 100))) (hev : evs.length ≤ 1000) (how : ows = []) (hfr : frs = [])
  (ret : ∀ g h' tk' o' m' FL Y9 X9 n1' n2' n3' w8 u1 u2 u3 u4 u5 u6 u7 u8 u9 u0, KtsTurn [La] g₀ g → Fr g L h' m' → m' (Str.ofString "conn") = some (.ref x) → m' (Str.ofString "raw") = some (.ref rx) → m' (Str.ofString "limit") = some (.int lim tl) → m' (Str.ofString "frames") = some (.ref FL) → News g L h' ((lx, instObj 295 dlx) :: (dlx, dictOf (lids w.params t1 t2 t3 t4 t5 t6 (.int lim t7) d le (.int (lim + 1) w8) (.int 0 t9) false) 6) :: (d, o') :: (le, listOf (evs ++ [Value.bytes (repB 8 (lim + 100)) u9]).toArray n1') :: (ol, listOf [.ref X9].toArray n2') :: (FL, listOf [.ref Y9].toArray n3') :: (Y9, tupObj [.str (Str.ofString "new_connection_id") u1, .int lim u2, .int 0 u3, .bytes (repB 8 (100 + lim)) u4, .bytes (repB 16 (200 + lim)) u5]) :: (X9, tupObj [.str (Str.ofString "new_connection_id") u6, .int lim u7, .int 0 u8, .bytes (repB 8 (lim + 100)) u9, .bytes (repB 16 (lim + 200)) u0]) :: R) → o'.IsDictOf (PySem.intKind PySem.Challenge.rw_rg0255_01.row.prog w) (kvs2 ++ [(lim, Value.bytes (repB 8 (lim + 100)) u9)]) → (∀ p ∈ R, p.1 < X9) → @LT.lt Nat _ lx X9 → @LT.lt Nat _ dlx X9 → @LT.lt Nat _ d X9 → @LT.lt Nat _ le X9 → @LT.lt Nat _ ol X9 → @LT.lt Nat _ X9 Y9 → @LT.lt Nat _ Y9 FL → Q .next { s with heap := h', toks := tk' }) :
  wpAny (model PySem.Challenge.rw_rg0255_01.row.prog w) ((ktrTop dp un gd cn cs La a ccd cl []).deeper (envOfC (Str.ofString "_law_retired_right") sc L 500 (.ref 499))) (execs bd (envOfC (Str.ofString "_law_retired_right") sc L 500 (.ref 499))) Q E s := by
  k_with_none
  k_with "exec For Name Subscript cons nil" => (k_here;  k_dflt (refine' inner0T ?G ?XB ?TB ?hLa ?T0 ?F ?N ?hk ?hd ?hu ?x1 ?x2 ?x4 ?x5 ?g4 ?k2 ?hd0 ?hlo ?hz ?w1 ?w2 ?w3 ?w4 ?w5 ?w6 ?ne2 ?ne4 ?ne6 ?ne9 ?r1 ?r2 ?r3 ?r4 ?r5 ?c1 ?c2 ?hm5 ?hm6 ?hm1 ?hm2 ?hm4 ?hst ?hbl ?hfs ?hsc ?_; (case hLa => assumption); (case G => assumption); (case XB => assumption); (case TB => assumption); (case T0 => assumption); (case F => k_asm); (case N => k_asm); (case hk => exact rfl); (case hd => omega); (case hu => omega); (case x1 => assumption); (case x2 => assumption); (case g4 => assumption); (case x4 => assumption); (case x5 => assumption); (case k2 => assumption); (case hd0 => assumption); (case hlo => assumption); (case hz => assumption); (case w1 => omega); (case w2 => omega); (case w3 => omega); (case w4 => omega); (case w5 => omega); (case w6 => assumption); (case ne2 => assumption); (case ne4 => assumption); (case ne6 => assumption); (case ne9 => assumption); (case r1 => assumption); (case r2 => assumption); (case r3 => assumption); (case r4 => assumption); (case r5 => assumption); (case c1 => assumption); (case c2 => assumption); (case hm5 => first | assumption | (simp; done) | (with_unfolding_all exact rfl)); (case hm6 => first | assumption | (simp; done) | (with_unfolding_all exact rfl)); (case hm1 => first | assumption | (simp; done) | (with_unfolding_all exact rfl)); (case hm2 => first | assumption | (simp; done) | (with_unfolding_all exact rfl)); (case hm4 => first | assumption | (simp; done) | (with_unfolding_all exact rfl)); (case hst => assumption); (case hbl => assumption); (case hfs => exact rfl); (case hsc => exact rfl)); (intro g_k9 h_k9' tk_k9' o_k9' ws_k9 nw_k9 tps_k9 v8_k9 v9_k9 T_k9' F_k9' N_k9' hd_k9' ho_k9 q1_k9 q2_k9 q3_k9 q4_k9 q5_k9 q6_k9; (have G2' := Gr.turn1 T_k9' (by assumption) (by assumption) (by assumption)); (have B2' := Gr.B G2'); (have X2' := Gr.X G2'); (have P2' := Gr.T G2')))
  k_with "compareOp NotEq ref ref" => (k_here; k_dflt (refine' ne_twins ?N ?m1 ?m2 ?tw ?hu ?_; (case N => k_asm); (case m1 => k_mem); (case m2 => k_mem); (case tw => (refine Twins.mono ?_ (by assumption); (intro q_k9 hq_k9; (repeat (first | exact hq_k9 | exact List.mem_append_right _ hq_k9 | refine List.mem_cons_of_mem _ ?_))))); (case hu => ktr_units)))
  k_with "call ref" => (k_here; (with_reducible show wpAny _ _ (call (Value.ref 306) _) _ _ _); k_dflt (refine' iss1_spec ?B ?F ?X ?N ?T ?hk ?codeHd ?hd ?hu ?x1 ?x2 ?x3 ?x4 ?x5 ?g2 ?g5 ?g6 ?g7 ?g8 ?hpar ?hlp ?ch ?hd0 ?hlo ?hz ?hpos ?ne1 ?ne2 ?ne3 ?ne4 ?ne5 ?ne6 ?ne7 ?ne8 ?ne9 ?ne10 ?r1 ?r2 ?r3 ?r4 ?r5 ?hroom ?hlim ?hns ?hnew ?hno ?hev ?how ?_; (case B => k_asm); (case F => k_asm); (case X => k_asm); (case N => k_asm); (case T => k_asm); (case hk => exact rfl); (case codeHd => assumption); (case hd => ktr_room); (case hu => ktr_units); (case x1 => ((repeat (first | with_reducible assumption | refine List.mem_cons_of_mem _ ?_ | refine List.mem_append_right _ ?_)); done)); (case x2 => ((repeat (first | with_reducible assumption | refine List.mem_cons_of_mem _ ?_ | refine List.mem_append_right _ ?_)); done)); (case g2 => assumption); (case g5 => assumption); (case g6 => assumption); (case g7 => assumption); (case g8 => assumption); (case hpar => assumption); (case hlp => assumption); (case ch => assumption); (case x3 => ((repeat (first | with_reducible assumption | refine List.mem_cons_of_mem _ ?_ | refine List.mem_append_right _ ?_)); done)); (case x4 => ((repeat (first | with_reducible assumption | refine List.mem_cons_of_mem _ ?_ | refine List.mem_append_right _ ?_)); done)); (case x5 => ((repeat (first | with_reducible assumption | refine List.mem_cons_of_mem _ ?_ | refine List.mem_append_right _ ?_)); done)); (case hd0 => assumption); (case hlo => assumption); (case hz => assumption); (case hpos => assumption); (case ne1 => assumption); (case ne2 => assumption); (case ne3 => assumption); (case ne4 => assumption); (case ne5 => assumption); (case ne6 => assumption); (case ne7 => assumption); (case ne8 => assumption); (case ne9 => assumption); (case ne10 => assumption); (case r1 => assumption); (case r2 => assumption); (case r3 => assumption); (case r4 => assumption); (case r5 => assumption); (case hroom => first | assumption | omega); (case hlim => first | assumption | omega); (case hns => exact ⟨by omega, by omega⟩); (case hnew => assumption); (case hno => assumption); (case hev => assumption); (case how => first | assumption | (exact Nat.zero_le _))); (intro x9_k9' h_k9' tk_k9' ta_k9 tb_k9' tc_k9 tt_k9' n1_k9' o9_k9' n2_k9' F_k9' hd9_k9' N_k9' y1_k9 y2_k9 y3_k9 y4_k9 y5_k9 y6_k9; (have ne9' := neApp hd9_k9'); (have as9' := asApp hd9_k9' (by assumption)); (have z9' := zApp hd9_k9' (by assumption)); (have ke9' := keyApp hd9_k9' (by assumption)); (try k_sweep)))
  k_with "exec Assign cons ListComp" => (k_here;  k_dflt (refine' left_spec ?G ?F ?N ?hk ?hd ?hu ?x8 ?c1 ?c2 ?c3 ?c4 ?hm3 ?hm5 ?hl0 ?hl ?hfl ?hnn ?hbd ?hsc ?_; (case F => k_asm); (case G => assumption); (case N => k_asm); (case hk => exact rfl); (case hd => assumption); (case hu => assumption); (case hm3 => first | assumption | (simp; done) | (with_unfolding_all exact rfl)); (case hm5 => first | assumption | (simp; done) | (with_unfolding_all exact rfl)); (case x8 => k_mem); (case c1 => k_mem); (case c3 => k_mem); (case c2 => assumption); (case c4 => assumption); (case hl0 => first | assumption | omega); (case hl => first | assumption | omega); (case hfl => (simp; done)); (case hnn => first | exact hnnE (by assumption) | exact hnnN (by assumption)); (case hbd => exact rfl); (case hsc => exact rfl)); (intro D_k9' h_k9' tk_k9' ys_k9' F_k9' N_k9' i9_k9 off9_k9; (have i8_k9 := ints_cast (by assumption) i9_k9)))
  k_with "exec If" => (k_here; (with_reducible show wpAny _ _ (exec (Stmt.If (Expr.BoolOp _ _ _) _ _ _) _) _ _ _); k_dflt (refine' if6_0N ?G ?F ?N ?hk ?hd ?hu ?x1 ?x2 ?x8 ?x9 ?tw ?i1 ?i2 ?i3 ?i4 ?i5 ?g4 ?g7 ?hd0 ?hlo ?hne ?hz ?hasc ?hys ?c1 ?c2 ?c3 ?c4 ?hm1 ?hm2 ?hm3 ?hm4 ?hm5 ?ho ?hsub ?hE ?hbd ?hsc ?_; (case hbd => exact rfl); (case hsc => exact rfl); (case F => k_asm); (case G => assumption); (case N => k_asm); (case hk => exact rfl); (case hd => assumption); (case hu => assumption); (case hm1 => first | assumption | (simp; done) | (with_unfolding_all exact rfl)); (case hm2 => first | assumption | (simp; done) | (with_unfolding_all exact rfl)); (case hm3 => first | assumption | (simp; done) | (with_unfolding_all exact rfl)); (case hm4 => first | assumption | (simp; done) | (with_unfolding_all exact rfl)); (case hm5 => first | assumption | (simp; done) | (with_unfolding_all exact rfl)); (case x1 => k_mem); (case x2 => k_mem); (case g4 => assumption); (case g7 => assumption); (case x8 => k_mem); (case x9 => k_mem); (case tw => first | ((refine' twinIssue ?ne ?m1 ?m2); (case m1 => k_mem); (case m2 => k_mem); (case ne => exact Nat.ne_of_lt (by first | omega | exact ltAll (by assumption) (by k_mem)))) | (refine Twins.mono ?_ (by assumption); (intro q_k9 hq_k9; (repeat (first | exact hq_k9 | exact List.mem_append_right _ hq_k9 | refine List.mem_cons_of_mem _ ?_))))); (case i1 => k_mem); (case i2 => k_mem); (case hd0 => assumption); (case i3 => k_mem); (case i4 => k_mem); (case i5 => k_mem); (case hlo => assumption); (case hne => assumption); (case hz => assumption); (case hasc => assumption); (case hys => assumption); (case c1 => k_mem); (case c3 => k_mem); (case c2 => assumption); (case c4 => assumption); (case hE => first | assumption | rfl); (case ho => assumption); (case hsub => (intro q_k9 hq_k9; (repeat (first | exact hq_k9 | exact List.mem_append_left _ hq_k9 | refine List.mem_cons_of_mem _ ?_))))); (intro h_k9' tk_k9' F_k9' N_k9'))
  k_with "exec If" => (k_here; (with_reducible show wpAny _ _ (exec (Stmt.If (Expr.Compare (Expr.Name _ _) _ _ _) _ _ _) _) _ _ _); k_dflt (refine' framesN ?G ?F ?N ?hk ?hd ?hu ?c1 ?c2 ?c3 ?c4 ?hm3 ?hl0 ?hl ?hE ?hbd ?hsc ?_; (case F => k_asm); (case G => assumption); (case N => k_asm); (case hk => exact rfl); (case hd => assumption); (case hu => assumption); (case hm3 => first | assumption | (simp; done) | (with_unfolding_all exact rfl)); (case c1 => k_mem); (case c3 => k_mem); (case c2 => assumption); (case c4 => assumption); (case hl0 => first | assumption | omega); (case hl => first | assumption | omega); (case hE => assumption); (case hbd => exact rfl); (case hsc => exact rfl)); (intro D9_k9 X9_k9 h_k9' tk_k9' n9_k9' v1_k9' v2_k9' v3_k9' v4_k9' v5_k9' F_k9' N_k9' l1_k9 l2_k9))
  k_with "ite" => (first | (refine ite_neg (by simp; done) ?_) | (refine ite_pos (by first | (simp; done) | (simp; assumption)) ?_))
  have G1 := G.turn XB TB T0
  have B := G1.B
  have X := G1.X
  revert X; k_fill; intro X
  have T := G1.T
  have em : ∀ m : Str → Option Value, m (Str.ofString "conn") = some (.ref x) → m (Str.ofString "raw") = some (.ref rx) → m (Str.ofString "limit") = some (.int lim tl) → m (Str.ofString "turn") = some (.int 0 tt) → m (Str.ofString "frames") = some (.ref fl) → m = fun y => if y = Str.ofString "conn" then some (.ref x) else if y = Str.ofString "raw" then some (.ref rx) else if y = Str.ofString "limit" then some (.int lim tl) else if y = Str.ofString "turn" then some (.int 0 tt) else if y = Str.ofString "frames" then some (.ref fl) else m y := by
    intro m e0 e1 e2 e3 e4
    funext y
    by_cases q0 : y = Str.ofString "conn"
    · rw [if_pos q0, q0, e0]
    by_cases q1 : y = Str.ofString "raw"
    · rw [if_neg q0, if_pos q1, q1, e1]
    by_cases q2 : y = Str.ofString "limit"
    · rw [if_neg q0, if_neg q1, if_pos q2, q2, e2]
    by_cases q3 : y = Str.ofString "turn"
    · rw [if_neg q0, if_neg q1, if_neg q2, if_pos q3, q3, e3]
    by_cases q4 : y = Str.ofString "frames"
    · rw [if_neg q0, if_neg q1, if_neg q2, if_neg q3, if_pos q4, q4, e4]
    rw [if_neg q0, if_neg q1, if_neg q2, if_neg q3, if_neg q4]
  rw [em m hm1 hm2 hm3 hm4 hm5] at F
  subst how hfr
  conv at hbd => rhs; whnf
  conv at hsc => rhs; whnf
  subst hbd hsc
  obtain ⟨k9, n9, g9, c9, e9⟩ := cs
  dsimp only at hk
  subst hk
  refine wpAny_noRaise ?_
  k_steps
  refine' ret _ _ _ _ _ _ _ _ _ _ _ _ _ _ _ _ _ _ _ _ _ _ ?T ?F ?a1 ?a2 ?a3 ?a4 (fun q hq => (by assumption : News _ L _ _) q (permN hq)) ?D ?y1 ?y2 ?y3 ?y4 ?y5 ?y6 ?y7 ?y8
  case T => assumption
  case F => assumption
  case a1 => exact (by first | assumption | (simp [chn]; done) | (with_unfolding_all exact rfl))
  case a2 => exact (by first | assumption | (simp [chn]; done) | (with_unfolding_all exact rfl))
  case a3 => exact (by first | assumption | (simp [chn]; done) | (with_unfolding_all exact rfl))
  case a4 => exact (by first | assumption | (simp [chn]; done) | (with_unfolding_all exact rfl))
  case D => assumption
  case y1 => (intro p hp; exact (by assumption : ∀ q ∈ _ :: (_ ++ R), q.1 < _) p (List.mem_cons_of_mem _ (List.mem_append_right _ hp)))
  case y2 => assumption
  case y3 => assumption
  case y4 => assumption
  case y5 => assumption
  case y6 => assumption
  case y7 => exact ltAll (by assumption) (by k_mem)
  case y8 => assumption
end
end
end Mine
end
section
namespace Mine
theorem cid_ne : ∀ g u : Nat, g < 4 → u < 4 → g ≠ u → ((cidB (g : Int)).toList == (cidB (u : Int)).toList) = false := by
  intro g u hg hu h
  have hg' : g = 0 ∨ g = 1 ∨ g = 2 ∨ g = 3 := by omega
  have hu' : u = 0 ∨ u = 1 ∨ u = 2 ∨ u = 3 := by omega
  rcases hg' with rfl | rfl | rfl | rfl <;> rcases hu' with rfl | rfl | rfl | rfl <;> first | exact absurd rfl h | decide
structure FE (t : Nat → Tok) (n : Nat) (u : Nat) : Prop where
  s0 : Steps (n : Int) (cidB (u : Int)) [(u : Int), (n : Int)] (cidKvs t n) [false, false] (cidKvs t n)
  s1 : Steps (n : Int) (cidB (u : Int)) [(u : Int)] (cidKvs t n) [false] (cidKvs t n)
  ne : cidKvs t n ≠ []
  z : (cidKvs t n).length < 60
  asc : lks_asc ((cidKvs t n).map Prod.fst) = true
  keys : (cidKvs t n).map Prod.fst = lefts (u : Int) (u : Int) n
  full : (n : Int) ≤ ((cidKvs t n).length : Int)
theorem fe {t : Nat → Tok} {n u : Nat} (h : n = 2 ∨ n = 3 ∨ n = 4) (hu : u < n) : FE t n u := by
  have a : RCond (cidKvs t n) (n : Int) (u : Int) (cidB (u : Int)) := .inr ⟨by omega, _, _, cid_value hu, beq_self_eq_true _⟩
  have b : RCond (cidKvs t n) (n : Int) (n : Int) (cidB (u : Int)) := .inl (Int.le_refl _)
  refine ⟨.bad a (.bad b .nil), .bad a .nil, ?_, ?_, ?_, ?_, ?_⟩
  · rcases h with rfl | rfl | rfl <;> exact List.cons_ne_nil _ _
  · rw [cid_len]; omega
  · rcases h with rfl | rfl | rfl <;> rfl
  · have hu' : u = 0 ∨ u = 1 ∨ u = 2 ∨ u = 3 := by omega
    rcases h with rfl | rfl | rfl <;> rcases hu' with rfl | rfl | rfl | rfl <;> first | omega | rfl
  · rw [cid_len]; omega
structure FN (t : Nat → Tok) (n g u : Nat) : Prop where
  s0 : Steps (n : Int) (cidB (u : Int)) [(g : Int), (n : Int)] (cidKvs t n) [true, false] (without (cidKvs t n) (g : Int))
  z : (without (cidKvs t n) (g : Int)).length < 60
  asc : lks_asc ((without (cidKvs t n) (g : Int)).map Prod.fst ++ [(n : Int)]) = true
  keys : (without (cidKvs t n) (g : Int)).map Prod.fst ++ [(n : Int)] = lefts (g : Int) (u : Int) (n + 1)
  room : ((without (cidKvs t n) (g : Int)).length : Int) + 1 = (n : Int)
  pos : ∀ q ∈ without (cidKvs t n) (g : Int), 0 ≤ q.1
  new : (without (cidKvs t n) (g : Int)).any (fun kv => decide (kv.1 = (n : Int))) = false
  s1 : ∀ v, Steps ((n : Int) + 1) (cidB (u : Int)) [(g : Int)] (without (cidKvs t n) (g : Int) ++ [((n : Int), v)]) [true] (without (cidKvs t n) (g : Int) ++ [((n : Int), v)])
theorem fn {t : Nat → Tok} {n g u : Nat} (h : n = 2 ∨ n = 3 ∨ n = 4) (hg : g < n) (hu : u < n) (hn : g ≠ u) : FN t n g u := by
  have a : NCond (cidKvs t n) (n : Int) (g : Int) (cidB (u : Int)) := ⟨by omega, .inr ⟨_, _, cid_value hg, cid_ne g u (by omega) (by omega) hn⟩⟩
  have b : RCond (without (cidKvs t n) (g : Int)) (n : Int) (n : Int) (cidB (u : Int)) := .inl (Int.le_refl _)
  have hg' : g = 0 ∨ g = 1 ∨ g = 2 ∨ g = 3 := by omega
  have hu' : u = 0 ∨ u = 1 ∨ u = 2 ∨ u = 3 := by omega
  have ln : (without (cidKvs t n) (g : Int)).length + 1 = n := by
    rcases h with rfl | rfl | rfl <;> rcases hg' with rfl | rfl | rfl | rfl <;> first | omega | rfl
  refine ⟨.ok a (.bad b .nil), by omega, ?_, ?_, by omega, ?_, ?_, ?_⟩
  · rcases h with rfl | rfl | rfl <;> rcases hg' with rfl | rfl | rfl | rfl <;> first | omega | rfl
  · rcases h with rfl | rfl | rfl <;> rcases hg' with rfl | rfl | rfl | rfl <;> rcases hu' with rfl | rfl | rfl | rfl <;> first | omega | rfl
  · intro q hq
    exact cid_pos q ((List.mem_filter.mp hq).1)
  · rcases h with rfl | rfl | rfl <;> rcases hg' with rfl | rfl | rfl | rfl <;> first | omega | rfl
  · intro v
    have hv : (g : Int) ∉ (without (cidKvs t n) (g : Int) ++ [((n : Int), v)]).map (·.1) := by
      intro hm
      obtain ⟨q, hq, e⟩ := List.mem_map.mp hm
      rcases List.mem_append.mp hq with hq | hq
      · have := (List.mem_filter.mp hq).2
        simp only [decide_eq_true_eq] at this
        exact this e
      · rw [List.mem_singleton.mp hq] at e
        simp only at e
        omega
    have e := without_of_not_mem _ _ hv
    have c : NCond (without (cidKvs t n) (g : Int) ++ [((n : Int), v)]) ((n : Int) + 1) (g : Int) (cidB (u : Int)) := ⟨by omega, .inl (valueAt_none_of_not_mem hv)⟩
    have s := Steps.ok (r := []) c .nil
    rwa [e] at s
end Mine
end
section
namespace Mine
theorem n234 {n : Nat} (h : n = 2 ∨ n = 3 ∨ n = 4) : n ≤ 4 := by rcases h with rfl | rfl | rfl <;> decide
theorem n023 {n : Nat} (h : n = 2 ∨ n = 3 ∨ n = 4) : 0 < n := by rcases h with rfl | rfl | rfl <;> decide
theorem lt2 {i : Nat} (h : i < 2) : i = 0 ∨ i = 1 := by omega
theorem permI {α : Type} {q x a b c d e : α} {R : List α} (h : q ∈ x :: a :: b :: c :: d :: e :: R) : q ∈ a :: b :: c :: d :: e :: x :: R := by
  simp only [List.mem_cons] at h ⊢
  rcases h with h | h | h | h | h | h | h <;> simp [h]
theorem permJ {α : Type} {q x a b c d e : α} {R : List α} (h : q ∈ a :: b :: c :: d :: e :: x :: R) : q ∈ x :: a :: b :: c :: d :: e :: R := by
  simp only [List.mem_cons] at h ⊢
  rcases h with h | h | h | h | h | h | h <;> simp [h]
theorem offO {I d : Addr} {a b e f : Addr × Obj} {o' : Obj} (o2 : Obj) {R : List (Addr × Obj)} (h : ∀ p ∈ a :: b :: (d, o') :: e :: f :: R, p.1 ≠ I) : ∀ p ∈ a :: b :: (d, o2) :: e :: f :: R, p.1 ≠ I := fun p hp => by
  simp only [List.mem_cons] at hp
  rcases hp with rfl | rfl | rfl | hp
  · exact h _ List.mem_cons_self
  · exact h _ (List.mem_cons_of_mem _ List.mem_cons_self)
  · exact h (d, o') (List.mem_cons_of_mem _ (List.mem_cons_of_mem _ List.mem_cons_self))
  · exact h p (List.mem_cons_of_mem _ (List.mem_cons_of_mem _ (List.mem_cons_of_mem _ (by simpa only [List.mem_cons] using hp))))
theorem dropN {α : Type} {q i f y x : α} {R : List α} (h : q ∈ i :: R) : q ∈ i :: f :: y :: x :: R := by
  rcases List.mem_cons.mp h with h | h
  · exact h ▸ List.mem_cons_self
  · exact List.mem_cons_of_mem _ (List.mem_cons_of_mem _ (List.mem_cons_of_mem _ (List.mem_cons_of_mem _ h)))
theorem permI8 {α : Type} {q x a b c d e f y z : α} {R : List α} (h : q ∈ x :: a :: b :: c :: d :: e :: f :: y :: z :: R) : q ∈ a :: b :: c :: d :: e :: f :: y :: z :: x :: R := by
  simp only [List.mem_cons] at h ⊢
  rcases h with h | h | h | h | h | h | h | h | h | h <;> simp [h]
theorem offN {I lx dlx d le ol FL Y9 X9 : Addr} {o1 o2 o3 o4 o5 p1 p2 p3 p4 p5 a b c : Obj} {R : List (Addr × Obj)} (h : ∀ p ∈ (lx, o1) :: (dlx, o2) :: (d, o3) :: (le, o4) :: (ol, o5) :: R, p.1 ≠ I) (i : @LT.lt Nat _ I X9) (j : @LT.lt Nat _ X9 Y9) (k : @LT.lt Nat _ Y9 FL) :
    ∀ p ∈ (lx, p1) :: (dlx, p2) :: (d, p3) :: (le, p4) :: (ol, p5) :: (FL, a) :: (Y9, b) :: (X9, c) :: R, p.1 ≠ I := by
  simp only [List.forall_mem_cons] at h ⊢
  obtain ⟨h1, h2, h3, h4, h5, h6⟩ := h
  exact ⟨h1, h2, h3, h4, h5, Nat.ne_of_gt (Nat.lt_trans i (Nat.lt_trans j k)), Nat.ne_of_gt (Nat.lt_trans i j), Nat.ne_of_gt i, h6⟩
theorem offR {I FL Y9 X9 y : Addr} {i a b c : Obj} {R : List (Addr × Obj)} (hI : y ≠ I) (h3 : @LT.lt Nat _ y X9) (j : @LT.lt Nat _ X9 Y9) (k : @LT.lt Nat _ Y9 FL) (r : ∀ p ∈ R, p.1 ≠ y) : ∀ p ∈ (I, i) :: (FL, a) :: (Y9, b) :: (X9, c) :: R, p.1 ≠ y := by
  simp only [List.forall_mem_cons]
  exact ⟨fun e => hI e.symm, Nat.ne_of_gt (Nat.lt_trans h3 (Nat.lt_trans j k)), Nat.ne_of_gt (Nat.lt_trans h3 j), Nat.ne_of_gt h3, r⟩
theorem fn1 {t : Nat → Tok} {n g u : Nat} (F : FN t n g u) (hn : n ≤ 4) (v : Value) : without (cidKvs t n) (g : Int) ++ [((n : Int), v)] ≠ [] ∧ (without (cidKvs t n) (g : Int) ++ [((n : Int), v)]).length < 64 ∧ lks_asc ((without (cidKvs t n) (g : Int) ++ [((n : Int), v)]).map Prod.fst) = true ∧
    (without (cidKvs t n) (g : Int) ++ [((n : Int), v)]).map Prod.fst = lefts (g : Int) (u : Int) (n + 1) ∧ (n : Int) ≤ ((without (cidKvs t n) (g : Int) ++ [((n : Int), v)]).length : Int) ∧ (without (cidKvs t n) (g : Int) ++ [((n : Int), v)]).length ≤ 1000 ∧ ∀ q ∈ without (cidKvs t n) (g : Int) ++ [((n : Int), v)], 0 ≤ q.1 := by
  have e : (without (cidKvs t n) (g : Int) ++ [((n : Int), v)]).length = (without (cidKvs t n) (g : Int)).length + 1 := by simp
  have z := F.z
  have r := F.room
  refine ⟨by simp, by omega, by rw [List.map_append]; exact F.asc, by rw [List.map_append]; exact F.keys, by omega, by omega, fun q hq => ?_⟩
  rcases List.mem_append.mp hq with hq | hq
  · exact F.pos q hq
  · rw [List.mem_singleton.mp hq]
    exact Int.natCast_nonneg _
section
variable {w : World} {p : Program} {loose : List Str} {mean : ExcName → Option Value} {mg mb : Str → Option Value} {dp un : Nat} {gd : Option (List Code)} {cn : Str} {cs : Scope} {a : Addr} {ccd : Value} {cl : List (Str × Addr)} {outer : List Env} {A₀ : Around} {base h₀ : Heap} {L : Addr} {m : Str → Option Value}
  {s : Shared} {Q E : Value → Shared → Prop}
theorem rr_forE {sc : Scope} {La x dx rx drx lx dlx d le ol dpar f2 cc2 fl : Addr} {es er : List DictEntry} {n nr n1 n2 n3 nn u gg : Nat} {o o₀ oc ou opar oc2 : Obj} {fd2 : FuncData} {evs : List Value} {t1 t2 t3 t4 t5 t6 t7 t8 t9 tb tg tu tl tr : Tok} {g₀ : Heap} {R : List (Addr × Obj)} {t : Nat → Tok} {b : Bool} {fs : Stmt} {Q : Flow → Shared → Prop}
  (G : Gr (ktrTop dp un gd cn cs La a ccd cl []) base [envX cn cs La a ccd cl] (Mine.hd.heap_39 w.params) p loose mean mg mb g₀) (XB : (Mine.hd.heap_39 w.params).In base) (TB : Top p loose mean mg mb base) (codeHd : CodeHd base 487 483)
  (hLa : g₀.get? La = some o₀) (T0 : KtsTurn [La] g₀ h₀) (F : Fr h₀ L s.heap m) (N : News h₀ L s.heap ((lx, instObj 295 dlx) :: (dlx, dictOf (lids w.params t1 t2 t3 t4 t5 t6 (.int (nn : Int) t7) d le (.int (nn : Int) t8) (.int 0 t9) false) 6) :: (d, o) :: (le, listOf (evs).toArray n1) :: (ol, listOf (([] : List Value)).toArray n2) :: R)) (hk : cs.kind = .function)
  (hd : dp + 200 < recursionLimit) (hu : un + 1500 < cLine)
  (x1 : (x, instObj 470 dx) ∈ R) (x2 : (dx, dictOf es n) ∈ R) (x4 : (rx, instObj 323 drx) ∈ R) (x5 : (drx, dictOf er nr) ∈ R) (x3 : (dpar, opar) ∈ R) (x6 : (f2, fnObj fd2) ∈ R) (x7 : (cc2, oc2) ∈ R) (x8 : (fl, listOf ([] : List Value).toArray n3) ∈ R)
  (g2 : getL (Str.ofString "role") es = some (some (.str (if b then Str.ofString "client" else Str.ofString "server") tr))) (g4 : getL (Str.ofString "local") es = some (some (.ref lx))) (g6 : getL (Str.ofString "params") es = some (some (.ref dpar))) (g7 : getL (Str.ofString "owed") es = some (some (.ref ol))) (g8 : getL (Str.ofString "choose") es = some (some (.ref f2))) (k2 : getL (Str.ofString "dcid") er = some (some (.bytes (cidB (u : Int)) tb)))
  (hpar : opar.IsDictOf (PySem.strKind PySem.Challenge.rw_rg0255_01.row.prog w) []) (hlp : (dpar == sysModules) = false) (ch : ChooseAt w f2 fd2 [(cc2, oc2)])
  (hd0 : o.IsDictOf (PySem.intKind PySem.Challenge.rw_rg0255_01.row.prog w) (cidKvs t nn)) (hlo : (d == sysModules) = false)
  (ne1 : @Ne Nat lx dlx) (ne2 : @Ne Nat lx d) (ne3 : @Ne Nat lx le) (ne4 : @Ne Nat dlx d) (ne5 : @Ne Nat dlx le) (ne6 : @Ne Nat d le) (ne7 : @Ne Nat ol lx) (ne8 : @Ne Nat ol dlx) (ne9 : @Ne Nat ol d) (ne10 : @Ne Nat ol le) (r1 : ∀ p ∈ R, p.1 ≠ lx) (r2 : ∀ p ∈ R, p.1 ≠ dlx) (r3 : ∀ p ∈ R, p.1 ≠ d) (r4 : ∀ p ∈ R, p.1 ≠ le) (r5 : ∀ p ∈ R, p.1 ≠ ol)
  (c1 : (L + 1, oc) ∈ R) (c2 : oc.data = .cell (some (.int (gg : Int) tg))) (c3 : (L + 2, ou) ∈ R) (c4 : ou.data = .cell (some (.int (u : Int) tu)))
  (hm1 : m (Str.ofString "conn") = some (.ref x)) (hm2 : m (Str.ofString "raw") = some (.ref rx)) (hm3 : m (Str.ofString "limit") = some (.int (nn : Int) tl)) (hm5 : m (Str.ofString "frames") = some (.ref fl))
  (hN : nn = 2 ∨ nn = 3 ∨ nn = 4) (hgg : gg < nn) (huu : u < nn) (hfs : fs = rrFor) (hsc : sc = rrSc)
  (hE : gg = u)
  (ret : ∀ g h' tk' m', KtsTurn [La] g₀ g → Fr g L h' m' → News g L h' R → Q .next { s with heap := h', toks := tk' }) :
  wpAny (model PySem.Challenge.rw_rg0255_01.row.prog w) ((ktrTop dp un gd cn cs La a ccd cl []).deeper (envOfC (Str.ofString "_law_retired_right") sc L 500 (.ref 499))) (exec fs (envOfC (Str.ofString "_law_retired_right") sc L 500 (.ref 499))) Q E s := by
  k_with_none
  k_with "exec For Name Call cons nil" => (k_here; (with_unfolding_all refine' For_T ?T ?F ?k1 ?k2 ?_; (case T => assumption); (case F => assumption); (case k1 => exact rfl); (case k2 => exact rfl); k_whole))
  k_with "pyIter ref" => refine Stop.go ?_
  subst hE
  have G1 := G.turn XB TB T0
  have B := G1.B
  have X := G1.X
  revert X; k_fill; intro X
  have T := G1.T
  have em : ∀ m : Str → Option Value, m (Str.ofString "conn") = some (.ref x) → m (Str.ofString "raw") = some (.ref rx) → m (Str.ofString "limit") = some (.int (nn : Int) tl) → m (Str.ofString "frames") = some (.ref fl) → m = fun y => if y = Str.ofString "conn" then some (.ref x) else if y = Str.ofString "raw" then some (.ref rx) else if y = Str.ofString "limit" then some (.int (nn : Int) tl) else if y = Str.ofString "frames" then some (.ref fl) else m y := by
    intro m e0 e1 e2 e3
    funext y
    by_cases q0 : y = Str.ofString "conn"
    · rw [if_pos q0, q0, e0]
    by_cases q1 : y = Str.ofString "raw"
    · rw [if_neg q0, if_pos q1, q1, e1]
    by_cases q2 : y = Str.ofString "limit"
    · rw [if_neg q0, if_neg q1, if_pos q2, q2, e2]
    by_cases q3 : y = Str.ofString "frames"
    · rw [if_neg q0, if_neg q1, if_neg q2, if_pos q3, q3, e3]
    rw [if_neg q0, if_neg q1, if_neg q2, if_neg q3]
  rw [em m hm1 hm2 hm3 hm5] at F
  conv at hfs => rhs; whnf
  conv at hsc => rhs; whnf
  subst hfs hsc
  obtain ⟨k9, n9, g9, c9, e9⟩ := cs
  dsimp only at hk
  subst hk
  refine wpAny_noRaise ?_
  k_steps
  refine Stop.go (P := _) ?_
  show wpAny _ _ _ _ _ _
  rename Fr _ _ _ _ => F8
  rename News _ _ _ _ => N8
  rename IsRange _ _ _ _ _ _ _ _ => hr8
  obtain ⟨sl, F1, N1, off1⟩ := forget hLa T0 F8 N8
  refine range_loopT (n := 2) (news := (lx, instObj 295 dlx) :: (dlx, dictOf (lids w.params t1 t2 t3 t4 t5 t6 (.int (nn : Int) t7) d le (.int (nn : Int) t8) (.int 0 t9) false) 6) :: (d, o) :: (le, listOf (evs).toArray n1) :: (ol, listOf (([] : List Value)).toArray n2) :: R) (fun i m' news' => (i = 2 → news' = R) ∧ (i < 2 → (m' (Str.ofString "conn") = some (.ref x) ∧ m' (Str.ofString "raw") = some (.ref rx) ∧ m' (Str.ofString "limit") = some (.int (nn : Int) tl) ∧ m' (Str.ofString "frames") = some (.ref fl)) ∧ ∃ o', Obj.IsDictOf (PySem.intKind PySem.Challenge.rw_rg0255_01.row.prog w) o' (cidKvs t nn) ∧ news' = (lx, instObj 295 dlx) :: (dlx, dictOf (lids w.params t1 t2 t3 t4 t5 t6 (.int (nn : Int) t7) d le (.int (nn : Int) t8) (.int 0 t9) false) 6) :: (d, o') :: (le, listOf (evs).toArray n1) :: (ol, listOf (([] : List Value)).toArray n2) :: R)) rfl hr8 rfl rfl hLa F1 N1 List.mem_cons_self (fun p hp => List.mem_cons_of_mem _ hp) off1 ?init ?last ?step
  case init => exact ⟨fun h => absurd h (by decide), fun _ => ⟨⟨if_pos rfl, (if_neg (by decide)).trans (if_pos rfl), (if_neg (by decide)).trans ((if_neg (by decide)).trans (if_pos rfl)), (if_neg (by decide)).trans ((if_neg (by decide)).trans ((if_neg (by decide)).trans (if_pos rfl)))⟩, o, hd0, rfl⟩⟩
  case last => exact fun g m' news' h tk T9 F9 N9 I9 => ret g h tk m' T9 F9 (I9.1 rfl ▸ N9)
  case step =>
    intro i I it t' g m' news' h tk hi hv T' F' N' off'
    obtain ⟨⟨a1, a2, a3, a4⟩, o', hd', rfl⟩ := hv.2 hi
    have fe9 := fe (t := t) hN hgg
    have rI : ∀ y oy, (y, oy) ∈ (lx, instObj 295 dlx) :: (dlx, dictOf (lids w.params t1 t2 t3 t4 t5 t6 (.int (nn : Int) t7) d le (.int (nn : Int) t8) (.int 0 t9) false) 6) :: (d, o') :: (le, listOf (evs).toArray n1) :: (ol, listOf (([] : List Value)).toArray n2) :: R → y ≠ I := fun y oy hm => off' _ hm
    rcases lt2 hi with rfl | rfl
    · have F'' : Fr g L h (fun y => if y = Str.ofString "turn" then some (.int 0 t') else m' y) := F'
      refine turn0E (x := x) (o := o') (s := { s with heap := h, toks := tk }) (R := (I, it) :: R) G XB TB codeHd hLa (T') (F'') (fun q hq => N' q (permJ hq)) rfl hd hu (List.mem_cons_of_mem _ (x1)) (List.mem_cons_of_mem _ (x2)) (List.mem_cons_of_mem _ (x4)) (List.mem_cons_of_mem _ (x5)) (List.mem_cons_of_mem _ (x3)) (List.mem_cons_of_mem _ (x6)) (List.mem_cons_of_mem _ (x7)) (List.mem_cons_of_mem _ (x8)) rfl g2 g4 g6 g7 g8 k2 hpar hlp ch (hd') hlo ((by rw [cid_len]; exact Nat.le_trans (n234 hN) (by decide))) ne1 ne2 ne3 ne4 ne5 ne6 ne7 ne8 ne9 ne10 (List.forall_mem_cons.mpr ⟨fun e => rI _ _ (List.mem_cons_self) e.symm, r1⟩) (List.forall_mem_cons.mpr ⟨fun e => rI _ _ (List.mem_cons_of_mem _ (List.mem_cons_self)) e.symm, r2⟩) (List.forall_mem_cons.mpr ⟨fun e => rI _ _ (List.mem_cons_of_mem _ (List.mem_cons_of_mem _ (List.mem_cons_self))) e.symm, r3⟩) (List.forall_mem_cons.mpr ⟨fun e => rI _ _ (List.mem_cons_of_mem _ (List.mem_cons_of_mem _ (List.mem_cons_of_mem _ (List.mem_cons_self)))) e.symm, r4⟩) (List.forall_mem_cons.mpr ⟨fun e => rI _ _ (List.mem_cons_of_mem _ (List.mem_cons_of_mem _ (List.mem_cons_of_mem _ (List.mem_cons_of_mem _ (List.mem_cons_self))))) e.symm, r5⟩) (List.mem_cons_of_mem _ (c1)) c2 (List.mem_cons_of_mem _ (c3)) c4 ((if_neg (by decide)).trans a1) ((if_neg (by decide)).trans a2) ((if_neg (by decide)).trans a3) (if_pos rfl) ((if_neg (by decide)).trans a4) (fe9.s0) (by decide) rfl rfl (Int.natCast_nonneg _) (Int.ofNat_le.mpr (Nat.le_trans (n234 hN) (by decide))) (Nat.zero_le _) rfl (fe9.ne) (Nat.lt_trans fe9.z (by decide)) (fe9.asc) (fe9.keys) rfl (fe9.full) (Nat.le_of_lt (Nat.lt_trans fe9.z (by decide))) cid_pos rfl rfl ?_
      intro g' h' tk' o2 m2 T2 F2 b1 b2 b3 b4 N2 D2
      exact ⟨g', h', tk', m2, _, rfl, T2, F2, fun q hq => N2 q (permI hq), fun p hp => offO o2 off' p hp, ⟨fun h => absurd h (by decide), fun _ => ⟨⟨b1, b2, b3, b4⟩, o2, D2, rfl⟩⟩⟩
    · have F'' : Fr g L h (fun y => if y = Str.ofString "turn" then some (.int 1 t') else m' y) := F'
      refine turn1E (x := x) (o := o') (s := { s with heap := h, toks := tk }) (R := (I, it) :: R) G XB TB codeHd hLa (T') (F'') (fun q hq => N' q (permJ hq)) rfl hd hu (List.mem_cons_of_mem _ (x1)) (List.mem_cons_of_mem _ (x2)) (List.mem_cons_of_mem _ (x4)) (List.mem_cons_of_mem _ (x5)) (List.mem_cons_of_mem _ (x3)) (List.mem_cons_of_mem _ (x6)) (List.mem_cons_of_mem _ (x7)) (List.mem_cons_of_mem _ (x8)) rfl g2 g4 g6 g7 g8 k2 hpar hlp ch (hd') hlo ((by rw [cid_len]; exact Nat.le_trans (n234 hN) (by decide))) ne1 ne2 ne3 ne4 ne5 ne6 ne7 ne8 ne9 ne10 (List.forall_mem_cons.mpr ⟨fun e => rI _ _ (List.mem_cons_self) e.symm, r1⟩) (List.forall_mem_cons.mpr ⟨fun e => rI _ _ (List.mem_cons_of_mem _ (List.mem_cons_self)) e.symm, r2⟩) (List.forall_mem_cons.mpr ⟨fun e => rI _ _ (List.mem_cons_of_mem _ (List.mem_cons_of_mem _ (List.mem_cons_self))) e.symm, r3⟩) (List.forall_mem_cons.mpr ⟨fun e => rI _ _ (List.mem_cons_of_mem _ (List.mem_cons_of_mem _ (List.mem_cons_of_mem _ (List.mem_cons_self)))) e.symm, r4⟩) (List.forall_mem_cons.mpr ⟨fun e => rI _ _ (List.mem_cons_of_mem _ (List.mem_cons_of_mem _ (List.mem_cons_of_mem _ (List.mem_cons_of_mem _ (List.mem_cons_self))))) e.symm, r5⟩) (List.mem_cons_of_mem _ (c1)) c2 (List.mem_cons_of_mem _ (c3)) c4 ((if_neg (by decide)).trans a1) ((if_neg (by decide)).trans a2) ((if_neg (by decide)).trans a3) (if_pos rfl) ((if_neg (by decide)).trans a4) (fe9.s1) (by decide) rfl rfl (Int.natCast_nonneg _) (Int.ofNat_le.mpr (Nat.le_trans (n234 hN) (by decide))) (Nat.zero_le _) rfl (fe9.ne) (Nat.lt_trans fe9.z (by decide)) (fe9.asc) (fe9.keys) rfl (fe9.full) (Nat.le_of_lt (Nat.lt_trans fe9.z (by decide))) cid_pos rfl rfl ?_
      intro g' h' tk' m2 T2 F2 N2
      exact ⟨g', h', tk', m2, R, rfl, T2, F2, N2, fun p hp => off' p (List.mem_cons_of_mem _ (List.mem_cons_of_mem _ (List.mem_cons_of_mem _ (List.mem_cons_of_mem _ (List.mem_cons_of_mem _ hp))))), fun _ => rfl, fun h => absurd h (by decide)⟩
theorem rr_forN {sc : Scope} {La x dx rx drx lx dlx d le ol dpar f2 cc2 fl : Addr} {es er : List DictEntry} {n nr n1 n2 n3 nn u gg : Nat} {o o₀ oc ou opar oc2 : Obj} {fd2 : FuncData} {evs : List Value} {t1 t2 t3 t4 t5 t6 t7 t8 t9 tb tg tu tl tr : Tok} {g₀ : Heap} {R : List (Addr × Obj)} {t : Nat → Tok} {b : Bool} {fs : Stmt} {Q : Flow → Shared → Prop}
  (G : Gr (ktrTop dp un gd cn cs La a ccd cl []) base [envX cn cs La a ccd cl] (Mine.hd.heap_39 w.params) p loose mean mg mb g₀) (XB : (Mine.hd.heap_39 w.params).In base) (TB : Top p loose mean mg mb base) (codeHd : CodeHd base 487 483)
  (hLa : g₀.get? La = some o₀) (T0 : KtsTurn [La] g₀ h₀) (F : Fr h₀ L s.heap m) (N : News h₀ L s.heap ((lx, instObj 295 dlx) :: (dlx, dictOf (lids w.params t1 t2 t3 t4 t5 t6 (.int (nn : Int) t7) d le (.int (nn : Int) t8) (.int 0 t9) false) 6) :: (d, o) :: (le, listOf (evs).toArray n1) :: (ol, listOf (([] : List Value)).toArray n2) :: R)) (hk : cs.kind = .function)
  (hd : dp + 200 < recursionLimit) (hu : un + 1500 < cLine)
  (x1 : (x, instObj 470 dx) ∈ R) (x2 : (dx, dictOf es n) ∈ R) (x4 : (rx, instObj 323 drx) ∈ R) (x5 : (drx, dictOf er nr) ∈ R) (x3 : (dpar, opar) ∈ R) (x6 : (f2, fnObj fd2) ∈ R) (x7 : (cc2, oc2) ∈ R) (x8 : (fl, listOf ([] : List Value).toArray n3) ∈ R)
  (g2 : getL (Str.ofString "role") es = some (some (.str (if b then Str.ofString "client" else Str.ofString "server") tr))) (g4 : getL (Str.ofString "local") es = some (some (.ref lx))) (g6 : getL (Str.ofString "params") es = some (some (.ref dpar))) (g7 : getL (Str.ofString "owed") es = some (some (.ref ol))) (g8 : getL (Str.ofString "choose") es = some (some (.ref f2))) (k2 : getL (Str.ofString "dcid") er = some (some (.bytes (cidB (u : Int)) tb)))
  (hpar : opar.IsDictOf (PySem.strKind PySem.Challenge.rw_rg0255_01.row.prog w) []) (hlp : (dpar == sysModules) = false) (ch : ChooseAt w f2 fd2 [(cc2, oc2)])
  (hd0 : o.IsDictOf (PySem.intKind PySem.Challenge.rw_rg0255_01.row.prog w) (cidKvs t nn)) (hlo : (d == sysModules) = false)
  (ne1 : @Ne Nat lx dlx) (ne2 : @Ne Nat lx d) (ne3 : @Ne Nat lx le) (ne4 : @Ne Nat dlx d) (ne5 : @Ne Nat dlx le) (ne6 : @Ne Nat d le) (ne7 : @Ne Nat ol lx) (ne8 : @Ne Nat ol dlx) (ne9 : @Ne Nat ol d) (ne10 : @Ne Nat ol le) (r1 : ∀ p ∈ R, p.1 ≠ lx) (r2 : ∀ p ∈ R, p.1 ≠ dlx) (r3 : ∀ p ∈ R, p.1 ≠ d) (r4 : ∀ p ∈ R, p.1 ≠ le) (r5 : ∀ p ∈ R, p.1 ≠ ol)
  (c1 : (L + 1, oc) ∈ R) (c2 : oc.data = .cell (some (.int (gg : Int) tg))) (c3 : (L + 2, ou) ∈ R) (c4 : ou.data = .cell (some (.int (u : Int) tu)))
  (hm1 : m (Str.ofString "conn") = some (.ref x)) (hm2 : m (Str.ofString "raw") = some (.ref rx)) (hm3 : m (Str.ofString "limit") = some (.int (nn : Int) tl)) (hm5 : m (Str.ofString "frames") = some (.ref fl))
  (hN : nn = 2 ∨ nn = 3 ∨ nn = 4) (hgg : gg < nn) (huu : u < nn) (hfs : fs = rrFor) (hsc : sc = rrSc)
  (hE : gg ≠ u) (hev : evs = (cidKvs t nn).map Prod.snd)
  (ret : ∀ g h' tk' m', KtsTurn [La] g₀ g → Fr g L h' m' → News g L h' R → Q .next { s with heap := h', toks := tk' }) :
  wpAny (model PySem.Challenge.rw_rg0255_01.row.prog w) ((ktrTop dp un gd cn cs La a ccd cl []).deeper (envOfC (Str.ofString "_law_retired_right") sc L 500 (.ref 499))) (exec fs (envOfC (Str.ofString "_law_retired_right") sc L 500 (.ref 499))) Q E s := by
  subst hev
  have G1 := G.turn XB TB T0
  have B := G1.B
  have X := G1.X
  revert X; k_fill; intro X
  have T := G1.T
  have em : ∀ m : Str → Option Value, m (Str.ofString "conn") = some (.ref x) → m (Str.ofString "raw") = some (.ref rx) → m (Str.ofString "limit") = some (.int (nn : Int) tl) → m (Str.ofString "frames") = some (.ref fl) → m = fun y => if y = Str.ofString "conn" then some (.ref x) else if y = Str.ofString "raw" then some (.ref rx) else if y = Str.ofString "limit" then some (.int (nn : Int) tl) else if y = Str.ofString "frames" then some (.ref fl) else m y := by
    intro m e0 e1 e2 e3
    funext y
    by_cases q0 : y = Str.ofString "conn"
    · rw [if_pos q0, q0, e0]
    by_cases q1 : y = Str.ofString "raw"
    · rw [if_neg q0, if_pos q1, q1, e1]
    by_cases q2 : y = Str.ofString "limit"
    · rw [if_neg q0, if_neg q1, if_pos q2, q2, e2]
    by_cases q3 : y = Str.ofString "frames"
    · rw [if_neg q0, if_neg q1, if_neg q2, if_pos q3, q3, e3]
    rw [if_neg q0, if_neg q1, if_neg q2, if_neg q3]
  rw [em m hm1 hm2 hm3 hm5] at F
  conv at hfs => rhs; whnf
  conv at hsc => rhs; whnf
  subst hfs hsc
  obtain ⟨k9, n9, g9, c9, e9⟩ := cs
  dsimp only at hk
  subst hk
  refine wpAny_noRaise ?_
  k_steps
  refine Stop.go (P := _) ?_
  show wpAny _ _ _ _ _ _
  rename Fr _ _ _ _ => F8
  rename News _ _ _ _ => N8
  rename IsRange _ _ _ _ _ _ _ _ => hr8
  obtain ⟨sl, F1, N1, off1⟩ := forget hLa T0 F8 N8
  refine range_loopT (n := 2) (news := (lx, instObj 295 dlx) :: (dlx, dictOf (lids w.params t1 t2 t3 t4 t5 t6 (.int (nn : Int) t7) d le (.int (nn : Int) t8) (.int 0 t9) false) 6) :: (d, o) :: (le, listOf ((cidKvs t nn).map Prod.snd).toArray n1) :: (ol, listOf (([] : List Value)).toArray n2) :: R) (fun i m' news' => (i = 2 → news' = R) ∧ (i = 0 → (m' (Str.ofString "conn") = some (.ref x) ∧ m' (Str.ofString "raw") = some (.ref rx) ∧ m' (Str.ofString "limit") = some (.int (nn : Int) tl) ∧ m' (Str.ofString "frames") = some (.ref fl)) ∧ ∃ o', Obj.IsDictOf (PySem.intKind PySem.Challenge.rw_rg0255_01.row.prog w) o' (cidKvs t nn) ∧ news' = (lx, instObj 295 dlx) :: (dlx, dictOf (lids w.params t1 t2 t3 t4 t5 t6 (.int (nn : Int) t7) d le (.int (nn : Int) t8) (.int 0 t9) false) 6) :: (d, o') :: (le, listOf ((cidKvs t nn).map Prod.snd).toArray n1) :: (ol, listOf (([] : List Value)).toArray n2) :: R) ∧ (i = 1 → ∃ (o' : Obj) (FL Y9 X9 : Addr) (n1' n2' n3' : Nat) (w8 u1 u2 u3 u4 u5 u6 u7 u8 u9 u0 : Tok), (m' (Str.ofString "conn") = some (.ref x) ∧ m' (Str.ofString "raw") = some (.ref rx) ∧ m' (Str.ofString "limit") = some (.int (nn : Int) tl) ∧ m' (Str.ofString "frames") = some (.ref FL)) ∧ Obj.IsDictOf (PySem.intKind PySem.Challenge.rw_rg0255_01.row.prog w) o' (without (cidKvs t nn) (gg : Int) ++ [((nn : Int), Value.bytes (repB 8 ((nn : Int) + 100)) u9)]) ∧ (@LT.lt Nat _ lx X9 ∧ @LT.lt Nat _ dlx X9 ∧ @LT.lt Nat _ d X9 ∧ @LT.lt Nat _ le X9 ∧ @LT.lt Nat _ ol X9) ∧ @LT.lt Nat _ X9 Y9 ∧ @LT.lt Nat _ Y9 FL ∧ news' = (lx, instObj 295 dlx) :: (dlx, dictOf (lids w.params t1 t2 t3 t4 t5 t6 (.int (nn : Int) t7) d le (.int ((nn : Int) + 1) w8) (.int 0 t9) false) 6) :: (d, o') :: (le, listOf ((cidKvs t nn).map Prod.snd ++ [Value.bytes (repB 8 ((nn : Int) + 100)) u9]).toArray n1') :: (ol, listOf ([Value.ref X9]).toArray n2') :: (FL, listOf [Value.ref Y9].toArray n3') :: (Y9, tupObj [.str (Str.ofString "new_connection_id") u1, .int (nn : Int) u2, .int 0 u3, .bytes (repB 8 (100 + (nn : Int))) u4, .bytes (repB 16 (200 + (nn : Int))) u5]) :: (X9, tupObj [.str (Str.ofString "new_connection_id") u6, .int (nn : Int) u7, .int 0 u8, .bytes (repB 8 ((nn : Int) + 100)) u9, .bytes (repB 16 ((nn : Int) + 200)) u0]) :: R)) rfl hr8 rfl rfl hLa F1 N1 List.mem_cons_self (fun p hp => List.mem_cons_of_mem _ hp) off1 ?init ?last ?step
  case init => exact ⟨fun h => absurd h (by decide), fun _ => ⟨⟨if_pos rfl, (if_neg (by decide)).trans (if_pos rfl), (if_neg (by decide)).trans ((if_neg (by decide)).trans (if_pos rfl)), (if_neg (by decide)).trans ((if_neg (by decide)).trans ((if_neg (by decide)).trans (if_pos rfl)))⟩, o, hd0, rfl⟩, fun h => absurd h (by decide)⟩
  case last => exact fun g m' news' h tk T9 F9 N9 I9 => ret g h tk m' T9 F9 (I9.1 rfl ▸ N9)
  case step =>
    intro i I it t' g m' news' h tk hi hv T' F' N' off'
    have fn9 := fn (t := t) hN hgg huu hE
    rcases lt2 hi with rfl | rfl
    · obtain ⟨⟨a1, a2, a3, a4⟩, o', hd', rfl⟩ := hv.2.1 rfl
      have rI : ∀ y oy, (y, oy) ∈ (lx, instObj 295 dlx) :: (dlx, dictOf (lids w.params t1 t2 t3 t4 t5 t6 (.int (nn : Int) t7) d le (.int (nn : Int) t8) (.int 0 t9) false) 6) :: (d, o') :: (le, listOf ((cidKvs t nn).map Prod.snd).toArray n1) :: (ol, listOf (([] : List Value)).toArray n2) :: R → y ≠ I := fun y oy hm => off' _ hm
      have F'' : Fr g L h (fun y => if y = Str.ofString "turn" then some (.int 0 t') else m' y) := F'
      refine turn0N (x := x) (o := o') (s := { s with heap := h, toks := tk }) (R := (I, it) :: R) (nn := nn + 1) G XB TB codeHd hLa (T') (F'') (fun q hq => N' q (permJ hq)) rfl hd hu (List.mem_cons_of_mem _ (x1)) (List.mem_cons_of_mem _ (x2)) (List.mem_cons_of_mem _ (x4)) (List.mem_cons_of_mem _ (x5)) (List.mem_cons_of_mem _ (x3)) (List.mem_cons_of_mem _ (x6)) (List.mem_cons_of_mem _ (x7)) (List.mem_cons_of_mem _ (x8)) rfl g2 g4 g6 g7 g8 k2 hpar hlp ch (hd') hlo ((by rw [cid_len]; exact Nat.le_trans (n234 hN) (by decide))) ne1 ne2 ne3 ne4 ne5 ne6 ne7 ne8 ne9 ne10 (List.forall_mem_cons.mpr ⟨fun e => rI _ _ (List.mem_cons_self) e.symm, r1⟩) (List.forall_mem_cons.mpr ⟨fun e => rI _ _ (List.mem_cons_of_mem _ (List.mem_cons_self)) e.symm, r2⟩) (List.forall_mem_cons.mpr ⟨fun e => rI _ _ (List.mem_cons_of_mem _ (List.mem_cons_of_mem _ (List.mem_cons_self))) e.symm, r3⟩) (List.forall_mem_cons.mpr ⟨fun e => rI _ _ (List.mem_cons_of_mem _ (List.mem_cons_of_mem _ (List.mem_cons_of_mem _ (List.mem_cons_self)))) e.symm, r4⟩) (List.forall_mem_cons.mpr ⟨fun e => rI _ _ (List.mem_cons_of_mem _ (List.mem_cons_of_mem _ (List.mem_cons_of_mem _ (List.mem_cons_of_mem _ (List.mem_cons_self))))) e.symm, r5⟩) (List.mem_cons_of_mem _ (c1)) c2 (List.mem_cons_of_mem _ (c3)) c4 ((if_neg (by decide)).trans a1) ((if_neg (by decide)).trans a2) ((if_neg (by decide)).trans a3) (if_pos rfl) ((if_neg (by decide)).trans a4) (fn9.s0) (by decide) rfl rfl (Int.natCast_nonneg _) (Int.ofNat_le.mpr (Nat.le_trans (n234 hN) (by decide))) (fun e => hE (Int.ofNat.inj e)) (fn9.z) (fn9.asc) (fn9.keys) rfl (fn9.room) (Nat.le_of_lt (Nat.lt_trans fn9.z (by decide))) (fn9.pos) (fn9.new) (cid_no (n023 hN) (n234 hN)) ((by rw [List.length_map, cid_len]; exact Nat.le_trans (n234 hN) (by decide))) rfl rfl ?_
      intro g' h' tk' o2 m2 FL Y9 X9 n1' n2' n3' w8 u1 u2 u3 u4 u5 u6 u7 u8 u9 u0 T2 F2 b1 b2 b3 b4 N2 D2 y1 y2 y3 y4 y5 y6 y7 y8
      exact ⟨g', h', tk', m2, _, rfl, T2, F2, fun q hq => N2 q (permI8 hq), fun p hp => offN off' (y1 _ List.mem_cons_self) y7 y8 p hp, fun h => absurd h (by decide), fun h => absurd h (by decide), fun _ => ⟨o2, FL, Y9, X9, n1', n2', n3', w8, u1, u2, u3, u4, u5, u6, u7, u8, u9, u0, ⟨b1, b2, b3, b4⟩, D2, ⟨y2, y3, y4, y5, y6⟩, y7, y8, rfl⟩⟩
    · obtain ⟨o', FL, Y9, X9, n1', n2', n3', w8, u1, u2, u3, u4, u5, u6, u7, u8, u9, u0, ⟨a1, a2, a3, a4⟩, hd', ⟨y2, y3, y4, y5, y6⟩, y7, y8, rfl⟩ := hv.2.2 rfl
      obtain ⟨f1, f2', f3, f4, f5, f6, f7⟩ := fn1 fn9 (n234 hN) (Value.bytes (repB 8 ((nn : Int) + 100)) u9)
      have F'' : Fr g L h (fun y => if y = Str.ofString "turn" then some (.int 1 t') else m' y) := F'
      refine turn1N (x := x) (o := o') (s := { s with heap := h, toks := tk }) (nn := nn + 1) (y9 := X9) G XB TB codeHd hLa (T') (F'') (fun q hq => N' q (permJ hq)) rfl hd hu (List.mem_cons_of_mem _ (List.mem_cons_of_mem _ (List.mem_cons_of_mem _ (List.mem_cons_of_mem _ (x1))))) (List.mem_cons_of_mem _ (List.mem_cons_of_mem _ (List.mem_cons_of_mem _ (List.mem_cons_of_mem _ (x2))))) (List.mem_cons_of_mem _ (List.mem_cons_of_mem _ (List.mem_cons_of_mem _ (List.mem_cons_of_mem _ (x4))))) (List.mem_cons_of_mem _ (List.mem_cons_of_mem _ (List.mem_cons_of_mem _ (List.mem_cons_of_mem _ (x5))))) (List.mem_cons_of_mem _ (List.mem_cons_of_mem _ (List.mem_cons_of_mem _ (List.mem_cons_of_mem _ (x3))))) (List.mem_cons_of_mem _ (List.mem_cons_of_mem _ (List.mem_cons_of_mem _ (List.mem_cons_of_mem _ (x6))))) (List.mem_cons_of_mem _ (List.mem_cons_of_mem _ (List.mem_cons_of_mem _ (List.mem_cons_of_mem _ (x7))))) (List.mem_cons_of_mem _ List.mem_cons_self) (twinIssue (Nat.ne_of_lt y7) (List.mem_cons_of_mem _ (List.mem_cons_of_mem _ (List.mem_cons_of_mem _ List.mem_cons_self))) (List.mem_cons_of_mem _ (List.mem_cons_of_mem _ List.mem_cons_self))) g2 g4 g6 g7 g8 k2 hpar hlp ch (hd') hlo f6 ne1 ne2 ne3 ne4 ne5 ne6 ne7 ne8 ne9 ne10 (offR (off' _ (List.mem_cons_self)) y2 y7 y8 r1) (offR (off' _ (List.mem_cons_of_mem _ (List.mem_cons_self))) y3 y7 y8 r2) (offR (off' _ (List.mem_cons_of_mem _ (List.mem_cons_of_mem _ (List.mem_cons_self)))) y4 y7 y8 r3) (offR (off' _ (List.mem_cons_of_mem _ (List.mem_cons_of_mem _ (List.mem_cons_of_mem _ (List.mem_cons_self))))) y5 y7 y8 r4) (offR (off' _ (List.mem_cons_of_mem _ (List.mem_cons_of_mem _ (List.mem_cons_of_mem _ (List.mem_cons_of_mem _ (List.mem_cons_self)))))) y6 y7 y8 r5) (List.mem_cons_of_mem _ (List.mem_cons_of_mem _ (List.mem_cons_of_mem _ (List.mem_cons_of_mem _ (c1))))) c2 (List.mem_cons_of_mem _ (List.mem_cons_of_mem _ (List.mem_cons_of_mem _ (List.mem_cons_of_mem _ (c3))))) c4 ((if_neg (by decide)).trans a1) ((if_neg (by decide)).trans a2) ((if_neg (by decide)).trans a3) (if_pos rfl) ((if_neg (by decide)).trans a4) (fn9.s1 _) (by decide) rfl rfl (Int.natCast_nonneg _) (Int.ofNat_le.mpr (Nat.le_trans (n234 hN) (by decide))) (Nat.le_refl _) (fun e => hE (Int.ofNat.inj e)) f1 (f2') f3 f4 rfl f5 f6 f7 rfl (List.mem_cons_of_mem _ (List.mem_cons_of_mem _ (List.mem_cons_of_mem _ List.mem_cons_self))) ?_
      intro g' h' tk' m2 T2 F2 N2
      exact ⟨g', h', tk', m2, R, rfl, T2, F2, fun q hq => N2 q (dropN hq), fun p hp => off' p (by repeat (first | exact hp | refine List.mem_cons_of_mem _ ?_)), fun _ => rfl, fun h => absurd h (by decide), fun h => absurd h (by decide)⟩
end
end Mine
end
section
namespace Mine
section
variable {w : World} {p : Program} {loose : List Str} {mean : ExcName → Option Value} {mg mb : Str → Option Value} {dp un : Nat} {gd : Option (List Code)} {cn : Str} {cs : Scope} {a : Addr} {ccd : Value} {cl : List (Str × Addr)} {outer : List Env} {A₀ : Around} {base h₀ : Heap} {L : Addr} {m : Str → Option Value}
  {s : Shared} {Q E : Value → Shared → Prop}
theorem rr_for {sc : Scope} {La x dx rx drx lx dlx d le ol dpar f2 cc2 fl : Addr} {es er : List DictEntry} {n nr n1 n2 n3 : Nat} {o o₀ oc ou opar oc2 : Obj} {fd2 : FuncData} {evs : List Value} {t1 t2 t3 t4 t5 t6 t7 t8 t9 tb tg tu tl tr : Tok} {g₀ : Heap} {R : List (Addr × Obj)} {t : Nat → Tok} {b : Bool} {fs : Stmt} {lim gone used : Int} {Q : Flow → Shared → Prop}
  (G : Gr (ktrTop dp un gd cn cs La a ccd cl []) base [envX cn cs La a ccd cl] (Mine.hd.heap_39 w.params) p loose mean mg mb g₀) (XB : (Mine.hd.heap_39 w.params).In base) (TB : Top p loose mean mg mb base) (codeHd : CodeHd base 487 483)
  (hLa : g₀.get? La = some o₀) (T0 : KtsTurn [La] g₀ h₀) (F : Fr h₀ L s.heap m) (N : News h₀ L s.heap ((lx, instObj 295 dlx) :: (dlx, dictOf (lids w.params t1 t2 t3 t4 t5 t6 (.int lim t7) d le (.int lim t8) (.int 0 t9) false) 6) :: (d, o) :: (le, listOf (evs).toArray n1) :: (ol, listOf (([] : List Value)).toArray n2) :: R)) (hk : cs.kind = .function)
  (hd : dp + 200 < recursionLimit) (hu : un + 1500 < cLine)
  (x1 : (x, instObj 470 dx) ∈ R) (x2 : (dx, dictOf es n) ∈ R) (x4 : (rx, instObj 323 drx) ∈ R) (x5 : (drx, dictOf er nr) ∈ R) (x3 : (dpar, opar) ∈ R) (x6 : (f2, fnObj fd2) ∈ R) (x7 : (cc2, oc2) ∈ R) (x8 : (fl, listOf ([] : List Value).toArray n3) ∈ R)
  (g2 : getL (Str.ofString "role") es = some (some (.str (if b then Str.ofString "client" else Str.ofString "server") tr))) (g4 : getL (Str.ofString "local") es = some (some (.ref lx))) (g6 : getL (Str.ofString "params") es = some (some (.ref dpar))) (g7 : getL (Str.ofString "owed") es = some (some (.ref ol))) (g8 : getL (Str.ofString "choose") es = some (some (.ref f2))) (k2 : getL (Str.ofString "dcid") er = some (some (.bytes (cidB used) tb)))
  (hpar : opar.IsDictOf (PySem.strKind PySem.Challenge.rw_rg0255_01.row.prog w) []) (hlp : (dpar == sysModules) = false) (ch : ChooseAt w f2 fd2 [(cc2, oc2)])
  (hd0 : o.IsDictOf (PySem.intKind PySem.Challenge.rw_rg0255_01.row.prog w) (cidKvs t lim.toNat)) (hlo : (d == sysModules) = false)
  (ne1 : @Ne Nat lx dlx) (ne2 : @Ne Nat lx d) (ne3 : @Ne Nat lx le) (ne4 : @Ne Nat dlx d) (ne5 : @Ne Nat dlx le) (ne6 : @Ne Nat d le) (ne7 : @Ne Nat ol lx) (ne8 : @Ne Nat ol dlx) (ne9 : @Ne Nat ol d) (ne10 : @Ne Nat ol le) (r1 : ∀ p ∈ R, p.1 ≠ lx) (r2 : ∀ p ∈ R, p.1 ≠ dlx) (r3 : ∀ p ∈ R, p.1 ≠ d) (r4 : ∀ p ∈ R, p.1 ≠ le) (r5 : ∀ p ∈ R, p.1 ≠ ol)
  (c1 : (L + 1, oc) ∈ R) (c2 : oc.data = .cell (some (.int gone tg))) (c3 : (L + 2, ou) ∈ R) (c4 : ou.data = .cell (some (.int used tu)))
  (hm1 : m (Str.ofString "conn") = some (.ref x)) (hm2 : m (Str.ofString "raw") = some (.ref rx)) (hm3 : m (Str.ofString "limit") = some (.int lim tl)) (hm5 : m (Str.ofString "frames") = some (.ref fl))
  (hl2 : 2 ≤ lim) (hl4 : lim ≤ 4) (hg0 : 0 ≤ gone) (hg1 : gone < lim) (hu0 : 0 ≤ used) (hu1 : used < lim) (hev : evs = (cidKvs t lim.toNat).map Prod.snd) (hfs : fs = rrFor) (hsc : sc = rrSc)
  (ret : ∀ g h' tk' m', KtsTurn [La] g₀ g → Fr g L h' m' → News g L h' R → Q .next { s with heap := h', toks := tk' }) :
  wpAny (model PySem.Challenge.rw_rg0255_01.row.prog w) ((ktrTop dp un gd cn cs La a ccd cl []).deeper (envOfC (Str.ofString "_law_retired_right") sc L 500 (.ref 499))) (exec fs (envOfC (Str.ofString "_law_retired_right") sc L 500 (.ref 499))) Q E s := by
  obtain ⟨nn, rfl⟩ := Int.eq_ofNat_of_zero_le (show 0 ≤ lim by omega)
  obtain ⟨gg, rfl⟩ := Int.eq_ofNat_of_zero_le hg0
  obtain ⟨u, rfl⟩ := Int.eq_ofNat_of_zero_le hu0
  rw [Int.toNat_natCast] at hd0 hev
  by_cases hE : gg = u
  · exact rr_forE (u := u) (nn := nn) (o := o) (x := x) G XB TB codeHd hLa T0 F N hk hd hu x1 x2 x4 x5 x3 x6 x7 x8 g2 g4 g6 g7 g8 k2 hpar hlp ch hd0 hlo ne1 ne2 ne3 ne4 ne5 ne6 ne7 ne8 ne9 ne10 r1 r2 r3 r4 r5 c1 c2 c3 c4 hm1 hm2 hm3 hm5 (by omega) (by omega) (by omega) hfs hsc hE ret
  · exact rr_forN (u := u) (nn := nn) (o := o) (x := x) G XB TB codeHd hLa T0 F N hk hd hu x1 x2 x4 x5 x3 x6 x7 x8 g2 g4 g6 g7 g8 k2 hpar hlp ch hd0 hlo ne1 ne2 ne3 ne4 ne5 ne6 ne7 ne8 ne9 ne10 r1 r2 r3 r4 r5 c1 c2 c3 c4 hm1 hm2 hm3 hm5 (by omega) (by omega) (by omega) hfs hsc hE hev ret
theorem rr_forX {sc : Scope} {La x dx rx drx lx dlx d le ol dpar f2 cc2 fl : Addr} {es er : List DictEntry} {n nr n1 n2 n3 : Nat} {o o₀ oc ou opar oc2 : Obj} {fd2 : FuncData} {evs : List Value} {t1 t2 t3 t4 t5 t6 t7 t8 t9 tb tg tu tl tr : Tok} {g₀ : Heap} {news : List (Addr × Obj)} {tp : Addr} {ot : Obj} {t : Nat → Tok} {b : Bool} {fs : Stmt} {lim gone used : Int} {Q : Flow → Shared → Prop}
  (G : Gr (ktrTop dp un gd cn cs La a ccd cl []) base [envX cn cs La a ccd cl] (Mine.hd.heap_39 w.params) p loose mean mg mb g₀) (XB : (Mine.hd.heap_39 w.params).In base) (TB : Top p loose mean mg mb base) (codeHd : CodeHd base 487 483)
  (hLa : g₀.get? La = some o₀) (T0 : KtsTurn [La] g₀ h₀) (F : Fr h₀ L s.heap m) (N : News h₀ L s.heap news) (hk : cs.kind = .function)
  (hd : dp + 200 < recursionLimit) (hu : un + 1500 < cLine)
  (x1 : (x, instObj 470 dx) ∈ news) (x2 : (dx, dictOf es n) ∈ news) (x4 : (rx, instObj 323 drx) ∈ news) (x5 : (drx, dictOf er nr) ∈ news) (x3 : (dpar, opar) ∈ news) (x6 : (f2, fnObj fd2) ∈ news) (x7 : (cc2, oc2) ∈ news) (x8 : (fl, listOf ([] : List Value).toArray n3) ∈ news)
  (g2 : getL (Str.ofString "role") es = some (some (.str (if b then Str.ofString "client" else Str.ofString "server") tr))) (g4 : getL (Str.ofString "local") es = some (some (.ref lx))) (g6 : getL (Str.ofString "params") es = some (some (.ref dpar))) (g7 : getL (Str.ofString "owed") es = some (some (.ref ol))) (g8 : getL (Str.ofString "choose") es = some (some (.ref f2))) (k2 : getL (Str.ofString "dcid") er = some (some (.bytes (cidB used) tb)))
  (hpar : opar.IsDictOf (PySem.strKind PySem.Challenge.rw_rg0255_01.row.prog w) []) (hlp : (dpar == sysModules) = false) (ch : ChooseAt w f2 fd2 [(cc2, oc2)])
  (hd0 : o.IsDictOf (PySem.intKind PySem.Challenge.rw_rg0255_01.row.prog w) (cidKvs t lim.toNat)) (hlo : (d == sysModules) = false)
  (i1 : (lx, instObj 295 dlx) ∈ news) (i2 : (dlx, dictOf (lids w.params t1 t2 t3 t4 t5 t6 (.int lim t7) d le (.int lim t8) (.int 0 t9) false) 6) ∈ news) (i3 : (d, o) ∈ news) (i4 : (le, listOf evs.toArray n1) ∈ news) (i5 : (ol, listOf ([] : List Value).toArray n2) ∈ news) (xt : (tp, ot) ∈ news) (qt : @LT.lt Nat _ tp dx) (q1 : @LT.lt Nat _ (L + 1) dx) (q2 : @LT.lt Nat _ (L + 1 + 1) dx) (q3 : @LT.lt Nat _ dx x) (q4 : @LT.lt Nat _ x dlx) (q5 : @LT.lt Nat _ dlx lx) (q6 : @LT.lt Nat _ lx d) (q7 : @LT.lt Nat _ d le) (q8 : @LT.lt Nat _ le dpar) (q9 : @LT.lt Nat _ dpar ol) (q10 : @LT.lt Nat _ ol f2) (q11 : @LT.lt Nat _ f2 drx) (q12 : @LT.lt Nat _ drx rx) (q13 : @LT.lt Nat _ drx fl)
  (u2 : @Ne Nat cc2 dx ∧ @Ne Nat cc2 x ∧ @Ne Nat cc2 dlx ∧ @Ne Nat cc2 lx ∧ @Ne Nat cc2 d ∧ @Ne Nat cc2 le ∧ @Ne Nat cc2 ol ∧ @Ne Nat cc2 483)
  (c1 : (L + 1, oc) ∈ news) (c2 : oc.data = .cell (some (.int gone tg))) (c3 : (L + 2, ou) ∈ news) (c4 : ou.data = .cell (some (.int used tu)))
  (hm1 : m (Str.ofString "conn") = some (.ref x)) (hm2 : m (Str.ofString "raw") = some (.ref rx)) (hm3 : m (Str.ofString "limit") = some (.int lim tl)) (hm5 : m (Str.ofString "frames") = some (.ref fl))
  (hl2 : 2 ≤ lim) (hl4 : lim ≤ 4) (hg0 : 0 ≤ gone) (hg1 : gone < lim) (hu0 : 0 ≤ used) (hu1 : used < lim) (hev : evs = (cidKvs t lim.toNat).map Prod.snd) (hfs : fs = rrFor) (hsc : sc = rrSc)
  (ret : ∀ g h' tk' m', KtsTurn [La] g₀ g → Fr g L h' m' → News g L h' [(tp, ot)] → Q .next { s with heap := h', toks := tk' }) :
  wpAny (model PySem.Challenge.rw_rg0255_01.row.prog w) ((ktrTop dp un gd cn cs La a ccd cl []).deeper (envOfC (Str.ofString "_law_retired_right") sc L 500 (.ref 499))) (exec fs (envOfC (Str.ofString "_law_retired_right") sc L 500 (.ref 499))) Q E s := by
  obtain ⟨u21, u22, u23, u24, u25, u26, u27, u28⟩ := u2
  refine rr_for (x := x) (o := o) (lx := lx) (dlx := dlx) (d := d) (le := le) (ol := ol) (evs := evs) (n1 := n1) (n2 := n2) (t1 := t1) (t2 := t2) (t3 := t3) (t4 := t4) (t5 := t5) (t6 := t6) (t7 := t7) (t8 := t8) (t9 := t9) (R := [(fl, listOf ([] : List Value).toArray n3), (rx, instObj 323 drx), (drx, dictOf er nr), (x, instObj 470 dx), (dx, dictOf es n), (dpar, opar), (f2, fnObj fd2), (cc2, oc2), (L + 1, oc), (L + 2, ou), (tp, ot)]) G XB TB codeHd hLa T0 F ?N hk hd hu (List.mem_cons_of_mem _ (List.mem_cons_of_mem _ (List.mem_cons_of_mem _ (List.mem_cons_self)))) (List.mem_cons_of_mem _ (List.mem_cons_of_mem _ (List.mem_cons_of_mem _ (List.mem_cons_of_mem _ (List.mem_cons_self))))) (List.mem_cons_of_mem _ (List.mem_cons_self)) (List.mem_cons_of_mem _ (List.mem_cons_of_mem _ (List.mem_cons_self))) (List.mem_cons_of_mem _ (List.mem_cons_of_mem _ (List.mem_cons_of_mem _ (List.mem_cons_of_mem _ (List.mem_cons_of_mem _ (List.mem_cons_self)))))) (List.mem_cons_of_mem _ (List.mem_cons_of_mem _ (List.mem_cons_of_mem _ (List.mem_cons_of_mem _ (List.mem_cons_of_mem _ (List.mem_cons_of_mem _ (List.mem_cons_self))))))) (List.mem_cons_of_mem _ (List.mem_cons_of_mem _ (List.mem_cons_of_mem _ (List.mem_cons_of_mem _ (List.mem_cons_of_mem _ (List.mem_cons_of_mem _ (List.mem_cons_of_mem _ (List.mem_cons_self)))))))) (List.mem_cons_self) g2 g4 g6 g7 g8 k2 hpar hlp ch hd0 hlo (by omega) (by omega) (by omega) (by omega) (by omega) (by omega) (by omega) (by omega) (by omega) (by omega) ?r1 ?r2 ?r3 ?r4 ?r5 (List.mem_cons_of_mem _ (List.mem_cons_of_mem _ (List.mem_cons_of_mem _ (List.mem_cons_of_mem _ (List.mem_cons_of_mem _ (List.mem_cons_of_mem _ (List.mem_cons_of_mem _ (List.mem_cons_of_mem _ (List.mem_cons_self))))))))) c2 (List.mem_cons_of_mem _ (List.mem_cons_of_mem _ (List.mem_cons_of_mem _ (List.mem_cons_of_mem _ (List.mem_cons_of_mem _ (List.mem_cons_of_mem _ (List.mem_cons_of_mem _ (List.mem_cons_of_mem _ (List.mem_cons_of_mem _ (List.mem_cons_self)))))))))) c4 hm1 hm2 hm3 hm5 hl2 hl4 hg0 hg1 hu0 hu1 hev hfs hsc (fun g h' tk' m' T2 F2 N2 => ret g h' tk' m' T2 F2 (fun q hq => N2 q (by rw [List.mem_singleton.mp hq]; exact List.mem_cons_of_mem _ (List.mem_cons_of_mem _ (List.mem_cons_of_mem _ (List.mem_cons_of_mem _ (List.mem_cons_of_mem _ (List.mem_cons_of_mem _ (List.mem_cons_of_mem _ (List.mem_cons_of_mem _ (List.mem_cons_of_mem _ (List.mem_cons_of_mem _ (List.mem_cons_self)))))))))))))
  case N =>
    intro p hp
    refine N p ?_
    revert p
    simp only [List.forall_mem_cons]
    exact ⟨i1, i2, i3, i4, i5, x8, x4, x5, x1, x2, x3, x6, x7, c1, c3, xt, List.forall_mem_nil _⟩
  case r1 =>
    simp only [List.forall_mem_cons]
    exact ⟨by k_ne, by k_ne, by k_ne, by k_ne, by k_ne, by k_ne, by k_ne, by k_ne, by k_ne, by k_ne, by k_ne, List.forall_mem_nil _⟩
  case r2 =>
    simp only [List.forall_mem_cons]
    exact ⟨by k_ne, by k_ne, by k_ne, by k_ne, by k_ne, by k_ne, by k_ne, by k_ne, by k_ne, by k_ne, by k_ne, List.forall_mem_nil _⟩
  case r3 =>
    simp only [List.forall_mem_cons]
    exact ⟨by k_ne, by k_ne, by k_ne, by k_ne, by k_ne, by k_ne, by k_ne, by k_ne, by k_ne, by k_ne, by k_ne, List.forall_mem_nil _⟩
  case r4 =>
    simp only [List.forall_mem_cons]
    exact ⟨by k_ne, by k_ne, by k_ne, by k_ne, by k_ne, by k_ne, by k_ne, by k_ne, by k_ne, by k_ne, by k_ne, List.forall_mem_nil _⟩
  case r5 =>
    simp only [List.forall_mem_cons]
    exact ⟨by k_ne, by k_ne, by k_ne, by k_ne, by k_ne, by k_ne, by k_ne, by k_ne, by k_ne, by k_ne, by k_ne, List.forall_mem_nil _⟩
end
end Mine
end
section
namespace Mine
section
variable {w : World} {p : Program} {loose : List Str} {mean : ExcName → Option Value} {mg mb : Str → Option Value} {dp un : Nat} {gd : Option (List Code)} {cn : Str} {cs : Scope} {a : Addr} {ccd : Value} {cl : List (Str × Addr)} {outer : List Env} {A₀ : Around} {base h₀ : Heap} {L : Addr} {m : Str → Option Value}
  {s : Shared} {Q E : Value → Shared → Prop}
theorem seq_spec {news : List (Addr × Obj)} {lx dlx d le : Addr} {n : Nat} {t : Nat → Tok} {cb : Array UInt8} {o : Obj} {lim ns rp : Value} {t1 t2 t3 t4 t5 t6 tb : Tok}
  (B : Below A₀ base outer h₀) (F : Fr h₀ L s.heap m) (X : (hd.heap_39 w.params).In h₀) (N : News h₀ L s.heap news) (T : Top p loose mean mg mb h₀) (hk : cs.kind = .function)
  (hd : dp + 30 < recursionLimit) (hu : un + 240 < cLine)
  (m1 : (lx, instObj 295 dlx) ∈ news) (m2 : (dlx, dictOf (lids w.params t1 t2 t3 t4 t5 t6 lim d le ns rp false) 6) ∈ news) (m3 : (d, o) ∈ news)
  (hd0 : o.IsDictOf (PySem.intKind PySem.Challenge.rw_rg0255_01.row.prog w) (cidKvs t n)) (hlo : (d == sysModules) = false) (hz : n ≤ 100)
  (ret1 : ∀ i t' h' tk', i < n → (cidB i).toList = cb.toList → Fr h₀ L h' m → News h₀ L h' news → Q (.int (i : Nat) t') { s with heap := h', toks := tk' })
  (ret2 : ∀ h' tk', (∀ i, i < n → (cidB i).toList ≠ cb.toList) → Fr h₀ L h' m → News h₀ L h' news → Q .none { s with heap := h', toks := tk' }) :
  wpAny (model PySem.Challenge.rw_rg0255_01.row.prog w) (ktrTop dp un gd cn cs L a ccd cl outer) (call (.ref 292) [.ref lx, .bytes cb tb]) Q E s := by
  k_with_none
  k_with "pyIter ref" => refine Stop.go ?_
  k_with "UnrEnd" => refine Stop.go ?_
  k_with "subscriptTail" => (k_here; k_dflt (refine kda_item (knd := PySem.intKind _ _) (by k_asm) (by k_mem) (by k_asm) (intKind_is _ _ _ _) (by assumption) ?_))
  k_with "last subscriptTail" => (k_here; k_dflt (refine kda_item (knd := PySem.intKind _ _) (by k_asm) (by k_mem) (by k_asm) (intKind_is _ _ _ _) (by assumption) ?_))
  revert X ret1 ret2; k_fill; intro X ret1 ret2
  obtain ⟨k9, n9, g9, c9, e9⟩ := cs
  dsimp only at hk
  subst hk
  refine wpAny_call ?_
  k_dflt k_enter
  k_steps
  refine Stop.go (P := _) ?_
  show wpAny _ _ _ _ _ _
  have em : ∀ m : Str → Option Value, m (Str.ofString "self") = some (.ref lx) → m (Str.ofString "cid") = some (.bytes cb tb) → m = fun y => if y = Str.ofString "self" then some (.ref lx) else if y = Str.ofString "cid" then some (.bytes cb tb) else m y := by
    intro m a b
    funext y
    by_cases e : y = Str.ofString "self"
    · rw [if_pos e, e, a]
    · rw [if_neg e]
      by_cases e' : y = Str.ofString "cid"
      · rw [if_pos e', e', b]
      · rw [if_neg e']
  refine keys_inv (fun I i m' news' => m' (Str.ofString "self") = some (.ref lx) ∧ m' (Str.ofString "cid") = some (.bytes cb tb) ∧ (∀ j, j < i → (cidB (j : Nat)).toList ≠ cb.toList) ∧ (∀ p ∈ news, p.1 ≠ I) ∧ news' = news)
    rfl (by assumption) (by assumption) m3 hd0 hlo ?init ?mem ?last ?step
  case init => exact fun I hI => ⟨rfl, rfl, fun j hj => absurd hj (Nat.not_lt_zero j), fun p hp => Nat.ne_of_lt (hI p hp), rfl⟩
  case mem => exact fun I i m' news' hv => hv.2.2.2.2 ▸ m3
  case last =>
    intro I m' news' h tk hv F' N'
    obtain ⟨a1, a2, a3, a4, e⟩ := hv
    subst e
    rw [cid_len] at a3
    clear ret1
    rw [em m' a1 a2] at F'
    k_steps
    exact ret2 _ _ a3 (by assumption) (by assumption)
  case step =>
    intro I i k v m' news' it t' h tk hi hv F' N'
    obtain ⟨a1, a2, a3, a4, e⟩ := hv
    subst e
    rw [em m' a1 a2] at F'
    clear a1 a2
    obtain ⟨ek, ev, hin⟩ := cid_get hi
    subst ek ev
    have hva := cid_value (t := t) hin
    clear hi
    k_steps
    · exact ret1 i _ _ _ hin (eq_of_beq (by assumption)) (by assumption) (fun p hp => (by assumption : News h₀ L _ _) p (by repeat (first | exact hp | refine List.mem_cons_of_mem _ ?_)))
    · show UnrEnd _ _ _ _ _ _ _
      rename ((_ == _) = false) => hne
      refine UnrEnd.intro (by assumption) (by assumption) news' (fun p hp => hp) a4 ?_
      refine ⟨(if_neg (by decide)).trans (if_pos rfl), (if_neg (by decide)).trans ((if_neg (by decide)).trans (if_pos rfl)), fun j hj => ?_, a4, rfl⟩
      by_cases e : j = i
      · rw [e]; exact fun h => by rw [h] at hne; exact absurd hne (by simp)
      · exact a3 j (by omega)
end
end Mine
end
section
namespace Mine
theorem cidB0 : cidB ((0 : Nat) : Int) = ownZero := rfl
theorem cidB1 : cidB ((1 : Nat) : Int) = repB 8 101 := rfl
theorem known_of {dc : Array UInt8} {i : Nat} (h : i < 2) (e : (cidB i).toList = dc.toList) : isKnown dc = true := by
  have hi : i = 0 ∨ i = 1 := by omega
  unfold isKnown
  rcases hi with rfl | rfl
  · rw [cidB0] at e; rw [decide_eq_true e.symm]; rfl
  · rw [cidB1] at e; rw [decide_eq_true e.symm, Bool.or_true]
theorem unknown_of {dc : Array UInt8} (h : ∀ i, i < 2 → (cidB (i : Nat)).toList ≠ dc.toList) : isKnown dc = false := by
  have h0 := h 0 (by omega)
  have h1 := h 1 (by omega)
  rw [cidB0] at h0
  rw [cidB1] at h1
  unfold isKnown
  rw [decide_eq_false (fun e => h0 e.symm), decide_eq_false (fun e => h1 e.symm)]
  rfl
theorem conf_val {ti ti' : Tok} : PySem.valueAt (strPairs [(.str (Str.ofString "initial") ti, .int 1200 ti')]) (Str.ofString "initial") = some (.int 1200 ti') := rfl
theorem se0 : (Str.ofString "initial" == Str.ofString "initial") = true := by decide
theorem se1 : (Str.ofString "handshake" == Str.ofString "initial") = false := by decide
theorem se2 : (Str.ofString "short" == Str.ofString "initial") = false := by decide
theorem sb0 : (Str.ofString "initial" != Str.ofString "initial") = false := by decide
theorem sb1 : (Str.ofString "handshake" != Str.ofString "initial") = true := by decide
theorem sb2 : (Str.ofString "short" != Str.ofString "initial") = true := by decide
theorem sb3 : (Str.ofString "initial" != Str.ofString "short") = true := by decide
theorem sb4 : (Str.ofString "handshake" != Str.ofString "short") = true := by decide
theorem sb5 : (Str.ofString "short" != Str.ofString "short") = false := by decide
theorem len_bS {prog : Program} {w : World} {A : Around} {E : Value → Shared → Prop} {s : Shared} {b : Array UInt8} {t : Tok} {Q : Value → Shared → Prop} (hz : b.size ≤ 100) (h : Q (.int (b.size : Nat) (s.toks + 1)) { s with toks := s.toks + 1 + 1 }) : wpAny (model prog w) A (call (.builtin "len") [.bytes b t]) Q E s :=
  KBw.len_K (ks := KBw.bInts b) rfl (by rw [KBw.ints_length]; omega) (by rw [KBw.ints_length]; exact h)
section
variable {w : World} {p : Program} {loose : List Str} {mean : ExcName → Option Value} {mg mb : Str → Option Value} {dp un : Nat} {gd : Option (List Code)} {cn : Str} {cs : Scope} {a : Addr} {ccd : Value} {cl : List (Str × Addr)} {outer : List Env} {A₀ : Around} {base h₀ : Heap} {L : Addr} {m : Str → Option Value}
  {s : Shared} {Q E : Value → Shared → Prop}
theorem seq2_spec {news : List (Addr × Obj)} {lx dlx d le : Addr} {t : Nat → Tok} {cb : Array UInt8} {o : Obj} {lim ns rp : Value} {t1 t2 t3 t4 t5 t6 tb : Tok}
  (B : Below A₀ base outer h₀) (F : Fr h₀ L s.heap m) (X : (hd.heap_39 w.params).In h₀) (N : News h₀ L s.heap news) (T : Top p loose mean mg mb h₀) (hk : cs.kind = .function)
  (hd : dp + 30 < recursionLimit) (hu : un + 240 < cLine)
  (m1 : (lx, instObj 295 dlx) ∈ news) (m2 : (dlx, dictOf (lids w.params t1 t2 t3 t4 t5 t6 lim d le ns rp false) 6) ∈ news) (m3 : (d, o) ∈ news)
  (hd0 : o.IsDictOf (PySem.intKind PySem.Challenge.rw_rg0255_01.row.prog w) (cidKvs t 2)) (hlo : (d == sysModules) = false)
  (ret1 : ∀ i t' h' tk', isKnown cb = true → Fr h₀ L h' m → News h₀ L h' news → Q (.int (i : Nat) t') { s with heap := h', toks := tk' })
  (ret2 : ∀ h' tk', isKnown cb = false → Fr h₀ L h' m → News h₀ L h' news → Q .none { s with heap := h', toks := tk' }) :
  wpAny (model PySem.Challenge.rw_rg0255_01.row.prog w) (ktrTop dp un gd cn cs L a ccd cl outer) (call (.ref 292) [.ref lx, .bytes cb tb]) Q E s :=
  seq_spec B F X N T hk hd hu m1 m2 m3 hd0 hlo (by decide) (fun i t' h' tk' hi e F' N' => ret1 i t' h' tk' (known_of hi e) F' N') (fun h' tk' h F' N' => ret2 h' tk' (unknown_of h) F' N')
end
section
variable {w : World} {p : Program} {loose : List Str} {mean : ExcName → Option Value} {mg mb : Str → Option Value} {dp un : Nat} {gd : Option (List Code)} {cn : Str} {cs : Scope} {a : Addr} {ccd : Value} {cl : List (Str × Addr)} {outer : List Env} {A₀ : Around} {base h₀ : Heap} {L : Addr} {m : Str → Option Value}
  {s : Shared} {Q E : Value → Shared → Prop}
theorem isfor_spec {news : List (Addr × Obj)} {x dx lx dlx d le dcfg f1 c1 ce rx drx : Addr} {es er : List DictEntry} {n nr : Nat} {t : Nat → Tok} {tokb src dc : Array UInt8} {o ocfg oc oe : Obj} {fd1 : FuncData} {lim ns rp : Value} {t1 t2 t3 t4 t5 t6 u1 u2 u3 u4 u5 u6 u7 ti ti' : Tok} {b mv : Bool} {kd : Str} {size : Int}
  (B : Below A₀ base outer h₀) (F : Fr h₀ L s.heap m) (X : (hd.heap_39 w.params).In h₀) (N : News h₀ L s.heap news) (T : Top p loose mean mg mb h₀) (hk : cs.kind = .function) (codeHd : CodeHd base 487 483)
  (hd : dp + 60 < recursionLimit) (hu : un + 480 < cLine)
  (x1 : (x, instObj 470 dx) ∈ news) (x2 : (dx, dictOf es n) ∈ news) (m1 : (lx, instObj 295 dlx) ∈ news) (m2 : (dlx, dictOf (lids w.params t1 t2 t3 t4 t5 t6 lim d le ns rp false) 6) ∈ news) (m3 : (d, o) ∈ news) (x3 : (dcfg, ocfg) ∈ news) (x4 : (f1, fnObj fd1) ∈ news) (x5 : (c1, oc) ∈ news) (x6 : (ce, oe) ∈ news) (x7 : (rx, instObj 323 drx) ∈ news) (x8 : (drx, dictOf er nr) ∈ news)
  (hd0 : o.IsDictOf (PySem.intKind PySem.Challenge.rw_rg0255_01.row.prog w) (cidKvs t 2)) (hlo : (d == sysModules) = false)
  (hcfg : ocfg.IsDictOf (PySem.strKind PySem.Challenge.rw_rg0255_01.row.prog w) (strPairs [(.str (Str.ofString "initial") ti, .int 1200 ti')])) (hlc : (dcfg == sysModules) = false)
  (cl' : ClientAt w f1 fd1 [(c1, oc), (ce, oe)] b)
  (g1 : getL (Str.ofString "is_client") es = some (some (.ref f1))) (g2 : getL (Str.ofString "original") es = some (some (.bytes bFirst u1))) (g3 : getL (Str.ofString "config") es = some (some (.ref dcfg))) (g4 : getL (Str.ofString "local") es = some (some (.ref lx)))
  (g5 : getL (Str.ofString "has_peer_moved_cid") es = some (some (.bool mv))) (g6 : getL (Str.ofString "first_peer_cid") es = some (some (.bytes bPeer u2)))
  (k1 : getL (Str.ofString "kind") er = some (some (.str kd u3))) (k2 : getL (Str.ofString "dcid") er = some (some (.bytes dc u4))) (k3 : getL (Str.ofString "scid") er = some (some (.bytes src u5))) (k4 : getL (Str.ofString "token") er = some (some (.bytes tokb u6)))
  (hz : tokb.size ≤ 100) (hkd : kd = Str.ofString "initial" ∨ kd = Str.ofString "handshake" ∨ kd = Str.ofString "short")
  (ret : ∀ r h' tk', r = isForR b kd tokb src dc (isKnown dc) mv size → Fr h₀ L h' m → News h₀ L h' news → Q (.bool r) { s with heap := h', toks := tk' }) :
  wpAny (model PySem.Challenge.rw_rg0255_01.row.prog w) (ktrTop dp un gd cn cs L a ccd cl outer) (call (.ref 224) [.ref x, .ref rx, .int size u7]) Q E s := by
  k_with_none
  k_with "call ref" => (k_here; (with_reducible show wpAny _ _ (call (Value.ref _) []) _ _ _); k_dflt (refine' client_at ?B ?F ?X ?N ?T ?hk ?hd ?hu ?cH ?cl ?i1 ?i2 ?i3 ?_; (case B => k_asm); (case F => k_asm); (case X => k_asm); (case N => k_asm); (case T => k_asm); (case hk => exact rfl); (case hd => ktr_room); (case hu => ktr_units); (case cH => assumption); (case cl => assumption); (case i1 => k_mem); (case i2 => k_mem); (case i3 => k_mem)); (intro h_k9' tk_k9' F_k9' N_k9'; (try k_sweep)))
  k_with "call ref" => (k_here; (with_reducible show wpAny _ _ (call (Value.ref 292) [Value.ref _, Value.bytes _ _]) _ _ _); k_dflt (refine' seq2_spec ?B ?F ?X ?N ?T ?hk ?hd ?hu ?m1 ?m2 ?m3 ?hd0 ?hlo ?_ ?_; (case B => k_asm); (case F => k_asm); (case X => k_asm); (case N => k_asm); (case T => k_asm); (case hk => exact rfl); (case hd => ktr_room); (case hu => ktr_units); (case m1 => k_mem); (case m2 => k_mem); (case m3 => k_mem); (case hd0 => assumption); (case hlo => assumption)); (intros; (try k_sweep)))
  k_with "getMethod ref" => (k_here; (with_reducible show wpAny _ _ (getMethod (Value.ref _) (Str.ofString "is_client") _) _ _ _); k_dflt (refine' kmu_own ?k1 ?k2 ?k3 ?k4 ?k5 ?_; (case k1 => k_asm); (case k2 => k_asm); (case k3 => k_inst); (case k4 => k_is); (case k5 => k_is); k_whole))
  k_with "subscriptTail" => (k_here; (with_reducible show wpAny _ _ (subscriptTail _ _ (Value.ref _) (Value.str (Str.ofString "initial") _)) _ _ _); k_dflt (refine kda_item (knd := PySem.strKind _ _) (by k_asm) (by k_mem) (by k_asm) (strKind_is _ _ _ _) conf_val ?_))
  k_with "call builtin:len" => (k_here; (with_reducible show wpAny _ _ (call (Value.builtin "len") [Value.bytes _ _]) _ _ _); k_dflt (refine len_bS (by assumption) ?_))
  revert X ret; k_fill; intro X ret
  obtain ⟨k9, n9, g9, c9, e9⟩ := cs
  dsimp only at hk
  subst hk
  cases b <;> rcases hkd with hkd | hkd | hkd <;> subst hkd
  all_goals (refine wpAny_call ?_; k_dflt k_enter; k_steps)
  all_goals (refine ret _ _ _ ?_ (by assumption) (by assumption))
  all_goals (clear ret; (first | (simp only [isForR, se0, se1, se2, sb0, sb1, sb2, sb3, sb4, sb5, Bool.true_and, Bool.false_and, Bool.and_true, Bool.and_false, Bool.true_or, Bool.false_or, Bool.or_true, Bool.or_false, Bool.not_true, Bool.not_false, Bool.false_eq_true, if_true, if_false, decide_true, decide_false, *]; done) | skip))
end
end Mine
end
section
namespace Mine
theorem sub6 {x a b c d e : Addr × Obj} {r : List (Addr × Obj)} : ∀ p ∈ e :: a :: b :: c :: d :: r, p ∈ x :: a :: b :: c :: d :: e :: r := by
  intro p hp
  simp only [List.mem_cons] at hp ⊢
  rcases hp with h | h | h | h | h | h <;> simp only [h, true_or, or_true]
section
variable {w : World} {p : Program} {loose : List Str} {mean : ExcName → Option Value} {mg mb : Str → Option Value} {dp un : Nat} {gd : Option (List Code)} {cn : Str} {cs : Scope} {a : Addr} {ccd : Value} {cl : List (Str × Addr)} {outer : List Env} {A₀ : Around} {base h₀ : Heap} {L : Addr} {m : Str → Option Value}
  {s : Shared} {Q E : Value → Shared → Prop}
theorem for_spec {R : List (Addr × Obj)} {sc : Scope} {fs : Stmt} {La x dx lx dlx d le f2 c2 : Addr} {es : List DictEntry} {n n0 : Nat} {fd2 : FuncData} {o o2 : Obj} {lim : Int} {tl t1 t2 t3 t4 t5 t6 t8 t9 ft : Tok} {Q : Flow → Shared → Prop}
  (B : Below (ktrTop dp un gd cn cs La a ccd cl outer) base (envX cn cs La a ccd cl :: outer) h₀) (F : Fr h₀ L s.heap m) (X : (hd.heap_39 w.params).In h₀)
  (N : News h₀ L s.heap ((lx, instObj 295 dlx) :: (dlx, dictOf (lids w.params t1 t2 t3 t4 t5 t6 (.int lim tl) d le (.int 1 t8) (.int 0 t9) false) 6) :: (d, o) :: (le, listOf [Value.bytes ownZero ft].toArray n0) :: R)) (T : Top p loose mean mg mb h₀) (hk : cs.kind = .function) (codeHd : CodeHd base 487 483)
  (hd : dp + 60 < recursionLimit) (hu : un + 480 < cLine)
  (m1 : (x, instObj 470 dx) ∈ R) (m2 : (dx, dictOf es n) ∈ R) (g5 : getL (Str.ofString "local") es = some (some (.ref lx))) (g8 : getL (Str.ofString "choose") es = some (some (.ref f2)))
  (m3 : (f2, fnObj fd2) ∈ R) (m4 : (c2, o2) ∈ R) (ch : ChooseAt w f2 fd2 [(c2, o2)]) (hd0 : o.IsDictOf (PySem.intKind PySem.Challenge.rw_rg0255_01.row.prog w) [(0, Value.bytes ownZero ft)]) (hlo : (d == sysModules) = false)
  (ne1 : @Ne Nat lx dlx) (ne2 : @Ne Nat lx d) (ne3 : @Ne Nat lx le) (ne4 : @Ne Nat dlx d) (ne5 : @Ne Nat dlx le) (ne6 : @Ne Nat d le) (r1 : ∀ p ∈ R, p.1 ≠ lx) (r2 : ∀ p ∈ R, p.1 ≠ dlx) (r3 : ∀ p ∈ R, p.1 ≠ d) (r4 : ∀ p ∈ R, p.1 ≠ le)
  (hlim : 2 ≤ lim ∧ lim ≤ 4) (hm1 : m (Str.ofString "conn") = some (.ref x)) (hm2 : m (Str.ofString "limit") = some (.int lim tl)) (hfs : fs = forS) (hsc : sc = stSc)
  (ret : ∀ (h' : Heap) (tk' : Tok) (m' : Str → Option Value) (t8' : Tok) (n0' : Nat) (o' : Obj) (t : Nat → Tok), Fr h₀ L h' (fun y => if y = Str.ofString "conn" then some (.ref x) else m' y) → o'.IsDictOf (PySem.intKind PySem.Challenge.rw_rg0255_01.row.prog w) (cidKvs t lim.toNat) →
    News h₀ L h' ((lx, instObj 295 dlx) :: (dlx, dictOf (lids w.params t1 t2 t3 t4 t5 t6 (.int lim tl) d le (.int lim t8') (.int 0 t9) false) 6) :: (d, o') :: (le, listOf ((cidKvs t lim.toNat).map Prod.snd).toArray n0') :: R) → Q .next { s with heap := h', toks := tk' }) :
  wpAny (model PySem.Challenge.rw_rg0255_01.row.prog w) ((ktrTop dp un gd cn cs La a ccd cl outer).deeper (envOfC (Str.ofString "_law_state") sc L 488 (.ref 487))) (exec fs (envOfC (Str.ofString "_law_state") sc L 488 (.ref 487))) Q E s := by
  k_with_none
  k_with "call ref" => (k_here; (with_reducible show wpAny _ _ (call (Value.ref 271) _) _ _ _); k_dflt (refine' issue_use ?B ?F ?X ?N ?T ?hk ?hd ?hu ?p1 ?p2 ?p3 ?p4 ?ne1 ?ne2 ?ne3 ?ne4 ?ne5 ?ne6 ?r2 ?r3 ?r4 ?hd0 ?hlo ?hz ?hpos ?hnew ?hroom ?hno ?hev ?_; (case B => k_asm); (case F => k_asm); (case X => k_asm); (case N => k_asm); (case T => k_asm); (case hk => exact rfl); (case hd => ktr_room); (case hu => ktr_units); (case p1 => tb_start); (case p2 => tb_start); (case p3 => tb_start); (case p4 => tb_start); (case ne1 => k_ne); (case ne2 => k_ne); (case ne3 => k_ne); (case ne4 => k_ne); (case ne5 => k_ne); (case ne6 => k_ne); (case r2 => k_all); (case r3 => k_all); (case r4 => k_all); (case hd0 => assumption); (case hlo => k_asm); (case hz => (rw [cid_len]; omega)); (case hpos => exact cid_pos); (case hnew => exact cid_any); (case hroom => (rw [cid_len]; omega)); (case hno => exact cid_no (by omega) (by omega)); (case hev => (rw [List.length_map, cid_len]; omega))); intro x_k9' h_k9' tk_k9' ta_k9' tb_k9' tc_k9' o_k9' F_k9' hd_k9' N_k9' l1_k9; (try dsimp only at N_k9'); (try k_lt l1_k9); (try k_sweep))
  k_with "call ref" => (k_here; (with_reducible show wpAny _ _ (call (Value.ref _) [Value.str (Str.ofString "cid") _, Value.int _ _, Value.int 8 _]) _ _ _); k_dflt (refine' choose_at_cid ?B ?F ?X ?N ?T ?hk ?hd ?hu ?codeHd ?ch ?i1 ?i2 ?n0 ?n1 ?_; (case B => k_asm); (case F => k_asm); (case X => k_asm); (case N => k_asm); (case T => k_asm); (case hk => exact rfl); (case hd => ktr_room); (case hu => ktr_units); (case codeHd => assumption); (case ch => assumption); (case i1 => k_mem); (case i2 => k_mem); (case n0 => first | decide | omega); (case n1 => first | decide | omega)); intro h_k9' tk_k9' t_k9' F_k9' N_k9'; (try k_sweep))
  k_with "call ref" => (k_here; (with_reducible show wpAny _ _ (call (Value.ref _) [Value.str (Str.ofString "token") _, Value.int _ _, Value.int 16 _]) _ _ _); k_dflt (refine' choose_at_tok ?B ?F ?X ?N ?T ?hk ?hd ?hu ?codeHd ?ch ?i1 ?i2 ?n0 ?n1 ?_; (case B => k_asm); (case F => k_asm); (case X => k_asm); (case N => k_asm); (case T => k_asm); (case hk => exact rfl); (case hd => ktr_room); (case hu => ktr_units); (case codeHd => assumption); (case ch => assumption); (case i1 => k_mem); (case i2 => k_mem); (case n0 => first | decide | omega); (case n1 => first | decide | omega)); intro h_k9' tk_k9' t_k9' F_k9' N_k9'; (try k_sweep))
  k_with "call type:range" => ((rename Fr _ _ _ _ => F9_k9); (rename News _ _ _ _ => N9_k9); with_unfolding_all refine range2_rows F9_k9 N9_k9 ?_; intro _ _ _ _ _ _ _ _ _)
  k_with "pyIter ref" => refine Stop.go ?_
  k_with "UnrEnd" => refine Stop.go ?_
  revert X ret; k_fill; intro X ret
  have em : ∀ m : Str → Option Value, m (Str.ofString "conn") = some (.ref x) → m (Str.ofString "limit") = some (.int lim tl) → m = fun y => if y = Str.ofString "conn" then some (.ref x) else if y = Str.ofString "limit" then some (.int lim tl) else m y := by
    intro m a b
    funext y
    by_cases e : y = Str.ofString "conn"
    · rw [if_pos e, e, a]
    · rw [if_neg e]
      by_cases e' : y = Str.ofString "limit"
      · rw [if_pos e', e', b]
      · rw [if_neg e']
  rw [em m hm1 hm2] at F
  conv at hfs => rhs; whnf
  conv at hsc => rhs; whnf
  subst hfs hsc
  obtain ⟨k9, n9, g9, c9, e9⟩ := cs
  dsimp only at hk
  subst hk
  refine wpAny_noRaise ?_
  k_steps
  refine Stop.go (P := _) ?_
  show wpAny _ _ _ _ _ _
  have hn3 : lim = 2 ∨ lim = 3 ∨ lim = 4 := by omega
  refine range_inv (n := (lim - 1).toNat) (fun I i m' news' => m' (Str.ofString "conn") = some (.ref x) ∧ m' (Str.ofString "limit") = some (.int lim tl) ∧ (∀ p ∈ R, p.1 ≠ I) ∧ @Ne Nat lx I ∧ @Ne Nat dlx I ∧ @Ne Nat d I ∧ @Ne Nat le I ∧
    ∃ t t8' n0' o', Obj.IsDictOf (PySem.intKind PySem.Challenge.rw_rg0255_01.row.prog w) o' (cidKvs t (i + 1)) ∧
      news' = (lx, instObj 295 dlx) :: (dlx, dictOf (lids w.params t1 t2 t3 t4 t5 t6 (.int lim tl) d le (.int ((i + 1 : Nat) : Int) t8') (.int 0 t9) false) 6) :: (d, o') :: (le, listOf ((cidKvs t (i + 1)).map Prod.snd).toArray n0') :: R)
    rfl (by assumption) ?hs ?hn (by assumption) (by assumption) ?init ?last ?step
  case hs => rcases hn3 with e | e | e <;> subst e <;> rfl
  case hn => rcases hn3 with e | e | e <;> subst e <;> rfl
  case init =>
    intro I hI
    refine ⟨if_pos rfl, (if_neg (by decide)).trans (if_pos rfl), fun p hp => Nat.ne_of_lt (hI p (.tail _ (.tail _ (.tail _ (.tail _ hp))))), Nat.ne_of_lt (hI _ (.head _)), Nat.ne_of_lt (hI _ (.tail _ (.head _))), Nat.ne_of_lt (hI _ (.tail _ (.tail _ (.head _)))), Nat.ne_of_lt (hI _ (.tail _ (.tail _ (.tail _ (.head _))))), fun _ => ft, t8, n0, o, hd0, rfl⟩
  case last =>
    intro I m' news' h tk hv F' N'
    obtain ⟨a1, a2, _, _, _, _, _, t, t8', n0', o', hd', e⟩ := hv
    subst e
    have e1 : (lim - 1).toNat + 1 = lim.toNat := by omega
    have e2 : (((lim - 1).toNat + 1 : Nat) : Int) = lim := by omega
    rw [e2, e1] at N'
    rw [e1] at hd'
    have e3 : m' = fun y => if y = Str.ofString "conn" then some (.ref x) else m' y := by
      funext y
      by_cases e : y = Str.ofString "conn"
      · rw [if_pos e, e, a1]
      · rw [if_neg e]
    rw [e3] at F'
    exact ret h tk m' t8' n0' o' t F' hd' N'
  case step =>
    intro I i m' news' t' h tk hi hv F' N'
    obtain ⟨a1, a2, hR, hI1, hI2, hI3, hI4, t, t8', n0', o', hd', e⟩ := hv
    subst e
    have e1 : (1 + (i : Int)) = ((i + 1 : Nat) : Int) := by omega
    rw [e1, em m' a1 a2] at F'
    clear a1 a2 hm1 hm2 ret
    k_steps
    show UnrEnd _ _ _ _ _ _ _
    rename (Obj.IsDictOf _ _ (_ ++ _)) => h9
    rename News _ _ _ _ => N9
    have e8 : ∀ u, (cidKvs t (i + 1)).map Prod.snd ++ [Value.bytes (repB 8 (((i + 1 : Nat) : Int) + 100)) u] = (cidKvs (fun j => if j = i + 1 then u else t j) (i + 1 + 1)).map Prod.snd := fun u => by
      rw [← cid_snoc (Nat.succ_pos i), List.map_append]
      rfl
    have e7 : (((i + 1 : Nat) : Int) + 1) = ((i + 1 + 1 : Nat) : Int) := rfl
    rw [cid_snoc (Nat.succ_pos i)] at h9
    rw [e8, e7] at N9
    refine UnrEnd.intro (by assumption) N9 _ sub6 ?off ?r
    case off => exact List.forall_mem_cons.mpr ⟨hI1, List.forall_mem_cons.mpr ⟨hI2, List.forall_mem_cons.mpr ⟨hI3, List.forall_mem_cons.mpr ⟨hI4, hR⟩⟩⟩⟩
    case r => exact ⟨(if_neg (by decide)).trans (if_pos rfl), (if_neg (by decide)).trans ((if_neg (by decide)).trans (if_pos rfl)), hR, hI1, hI2, hI3, hI4, _, _, _, _, h9, rfl⟩
end
end Mine
end
section
namespace Mine
section
variable {w : World} {p : Program} {loose : List Str} {mean : ExcName → Option Value} {mg mb : Str → Option Value} {dp un : Nat} {gd : Option (List Code)} {cn : Str} {cs : Scope} {a : Addr} {ccd : Value} {cl : List (Str × Addr)} {outer : List Env} {A₀ : Around} {base h₀ : Heap} {L : Addr} {m : Str → Option Value}
  {s : Shared} {Q E : Value → Shared → Prop}
theorem for_use {news r1' r2' r3' R : List (Addr × Obj)} {sc : Scope} {fs : Stmt} {La x dx lx dlx d le f2 c2 : Addr} {es : List DictEntry} {n n0 : Nat} {fd2 : FuncData} {o o2 : Obj} {lim : Int} {tl t1 t2 t3 t4 t5 t6 t8 t9 ft : Tok} {Q : Flow → Shared → Prop}
  (B : Below (ktrTop dp un gd cn cs La a ccd cl outer) base (envX cn cs La a ccd cl :: outer) h₀) (F : Fr h₀ L s.heap m) (X : (hd.heap_39 w.params).In h₀)
  (N : News h₀ L s.heap news) (p1 : Pick lx (instObj 295 dlx) news r1') (p2 : Pick dlx (dictOf (lids w.params t1 t2 t3 t4 t5 t6 (.int lim tl) d le (.int 1 t8) (.int 0 t9) false) 6) r1' r2') (p3 : Pick d o r2' r3') (p4 : Pick le (listOf [Value.bytes ownZero ft].toArray n0) r3' R) (T : Top p loose mean mg mb h₀) (hk : cs.kind = .function) (codeHd : CodeHd base 487 483)
  (hd : dp + 60 < recursionLimit) (hu : un + 480 < cLine)
  (m1 : (x, instObj 470 dx) ∈ R) (m2 : (dx, dictOf es n) ∈ R) (g5 : getL (Str.ofString "local") es = some (some (.ref lx))) (g8 : getL (Str.ofString "choose") es = some (some (.ref f2)))
  (m3 : (f2, fnObj fd2) ∈ R) (m4 : (c2, o2) ∈ R) (ch : ChooseAt w f2 fd2 [(c2, o2)]) (hd0 : o.IsDictOf (PySem.intKind PySem.Challenge.rw_rg0255_01.row.prog w) [(0, Value.bytes ownZero ft)]) (hlo : (d == sysModules) = false)
  (ne1 : @Ne Nat lx dlx) (ne2 : @Ne Nat lx d) (ne3 : @Ne Nat lx le) (ne4 : @Ne Nat dlx d) (ne5 : @Ne Nat dlx le) (ne6 : @Ne Nat d le) (r1 : ∀ p ∈ R, p.1 ≠ lx) (r2 : ∀ p ∈ R, p.1 ≠ dlx) (r3 : ∀ p ∈ R, p.1 ≠ d) (r4 : ∀ p ∈ R, p.1 ≠ le)
  (hlim : 2 ≤ lim ∧ lim ≤ 4) (hm1 : m (Str.ofString "conn") = some (.ref x)) (hm2 : m (Str.ofString "limit") = some (.int lim tl)) (hfs : fs = forS) (hsc : sc = stSc)
  (ret : ∀ (h' : Heap) (tk' : Tok) (m' : Str → Option Value) (t8' : Tok) (n0' : Nat) (o' : Obj) (t : Nat → Tok), Fr h₀ L h' (fun y => if y = Str.ofString "conn" then some (.ref x) else m' y) → o'.IsDictOf (PySem.intKind PySem.Challenge.rw_rg0255_01.row.prog w) (cidKvs t lim.toNat) →
    News h₀ L h' ((lx, instObj 295 dlx) :: (dlx, dictOf (lids w.params t1 t2 t3 t4 t5 t6 (.int lim tl) d le (.int lim t8') (.int 0 t9) false) 6) :: (d, o') :: (le, listOf ((cidKvs t lim.toNat).map Prod.snd).toArray n0') :: R) → Q .next { s with heap := h', toks := tk' }) :
  wpAny (model PySem.Challenge.rw_rg0255_01.row.prog w) ((ktrTop dp un gd cn cs La a ccd cl outer).deeper (envOfC (Str.ofString "_law_state") sc L 488 (.ref 487))) (exec fs (envOfC (Str.ofString "_law_state") sc L 488 (.ref 487))) Q E s :=
  for_spec B F X (fun q hq => by
    rcases List.mem_cons.mp hq with rfl | hq
    · exact N _ p1.it
    rcases List.mem_cons.mp hq with rfl | hq
    · exact N _ (p1.up _ p2.it)
    rcases List.mem_cons.mp hq with rfl | hq
    · exact N _ (p1.up _ (p2.up _ p3.it))
    rcases List.mem_cons.mp hq with rfl | hq
    · exact N _ (p1.up _ (p2.up _ (p3.up _ p4.it)))
    · exact N _ (p1.up _ (p2.up _ (p3.up _ (p4.up _ hq))))) T hk codeHd hd hu m1 m2 g5 g8 m3 m4 ch hd0 hlo ne1 ne2 ne3 ne4 ne5 ne6 r1 r2 r3 r4 hlim hm1 hm2 hfs hsc ret
end
end Mine
end
section
namespace Mine
section
variable {w : World} {p : Program} {loose : List Str} {mean : ExcName → Option Value} {mg mb : Str → Option Value} {dp un : Nat} {gd : Option (List Code)} {cn : Str} {cs : Scope} {a : Addr} {ccd : Value} {cl : List (Str × Addr)} {outer : List Env} {A₀ : Around} {base h₀ : Heap} {L : Addr} {m : Str → Option Value}
  {s : Shared} {Q E : Value → Shared → Prop}
theorem state_none {rest : List (Addr × Obj)} {b : Bool} {tl : Tok} {lim : Int}
  (B : Below A₀ base outer h₀) (F : Fr h₀ L s.heap m) (X : (hd.heap_39 w.params).In h₀) (N : News h₀ L s.heap ((483, tabObj #[]) :: rest)) (T : Top p loose mean mg mb h₀) (hk : cs.kind = .function) (codeHd : CodeHd base 487 483)
  (hd : dp + 60 < recursionLimit) (hu : un + 480 < cLine)
  (r1 : ∀ p ∈ rest, p.1 ≠ 483) (hlim : 2 ≤ lim ∧ lim ≤ 4)
  (ret : StRet w b lim tl rest h₀ L m s Q) :
  wpAny (model PySem.Challenge.rw_rg0255_01.row.prog w) (ktrTop dp un gd cn cs L a ccd cl outer) (call (.ref 488) [.bool b, .int lim tl]) Q E s := by
  k_with_none
  k_with "call ref" => (k_here; (with_reducible show wpAny _ _ (call (Value.ref 470) _) _ _ _); k_dflt (refine' space_spec ?B ?F ?X ?N ?T ?hk ?hd ?hu ?_; (case B => k_asm); (case F => k_asm); (case X => k_asm); (case N => k_asm); (case T => k_asm); (case hk => exact rfl); (case hd => ktr_room); (case hu => ktr_units)); intro x_k9' dx_k9' es_k9' n_k9' h_k9' tk_k9' F_k9' N_k9' l1_k9 l2_k9 z_k9' gs_k9'; (have g1' := gs_k9' "is_client" (by decide)); (have g2' := gs_k9' "role" (by decide)); (have g3' := gs_k9' "original" (by decide)); (have g4' := gs_k9' "config" (by decide)); (have g5' := gs_k9' "local" (by decide)); (have g6' := gs_k9' "params" (by decide)); (have g7' := gs_k9' "owed" (by decide)); (have g8' := gs_k9' "choose" (by decide)); (have g9' := gs_k9' "has_peer_moved_cid" (by decide)); (have g10' := gs_k9' "first_peer_cid" (by decide)); clear gs_k9'; (try k_lt l1_k9); (try k_lt2 l2_k9); (try k_sweep))
  k_with "call ref" => (k_here; (with_reducible show wpAny _ _ (call (Value.ref 295) _) _ _ _); k_dflt (refine' ids_spec ?B ?F ?X ?N ?T ?hk ?hd ?hu ?_; (case B => k_asm); (case F => k_asm); (case X => k_asm); (case N => k_asm); (case T => k_asm); (case hk => exact rfl); (case hd => ktr_room); (case hu => ktr_units)); intro x_k9' dx_k9' d_k9' e_k9' o_k9' t1_k9' t2_k9' t3_k9' t4_k9' t5_k9' t6_k9' t8_k9' t9_k9' n0_k9' h_k9' tk_k9' F_k9' N_k9' hd_k9' lo_k9' l1_k9 l2_k9 l3_k9 l4_k9 l5_k9 l6_k9 l7_k9; (try dsimp only at N_k9'); (try k_lt l7_k9); (try k_lt l5_k9); (try k_lt l6_k9); (try k_lt l1_k9); (try k_lt2 l2_k9); (try k_lt2 l3_k9); (try k_lt2 l4_k9); (try k_sweep))
  k_with "setAttr ref" => (k_here; k_dflt (refine' set_abs ?k1 ?k2 ?k3 ?k4 ?k5 ?k6 ?k7 ?k8 ?k9 ?k10 ?k11 ?k12 ?U ?_; (case k1 => k_asm); (case k2 => k_asm); (case k3 => k_asm); (case k4 => k_inst); (case k5 => exact rfl); (case k6 => k_is); (case k7 => k_is); (case k8 => k_is); (case k9 => k_is); (case k10 => k_get); (case k11 => with_reducible assumption); (case k12 => first | decide | omega); (case U => k_updF); k_whole); intro h_k9' es_k9' n_k9' F_k9' N_k9' g_k9' f_k9' z_k9'; (try dsimp only at N_k9'); (try k_sweep))
  k_with "ite" => (refine ite_str ?_; intro t_k9')
  k_with "exec For Name Call cons nil" => refine Stop.go ?_
  revert X ret; k_fill; intro X ret
  obtain ⟨k9, n9, g9, c9, e9⟩ := cs
  dsimp only at hk
  subst hk
  refine wpAny_call ?_
  k_dflt k_enter
  k_steps
  show wpAny _ _ _ _ _ _
  refine' for_use ?B ?F ?X ?N ?p1 ?p2 ?p3 ?p4 ?T ?hk ?codeHd ?hd ?hu ?m1 ?m2 ?g5 ?g8 ?m3 ?m4 ?ch ?hd0 ?hlo ?ne1 ?ne2 ?ne3 ?ne4 ?ne5 ?ne6 ?r1 ?r2 ?r3 ?r4 ?hlim ?hm1 ?hm2 ?hfs ?hsc ?_
  case B => first | (k_asm) | fail "FOR B"
  case F => first | (k_asm) | fail "FOR F"
  case X => first | (k_asm) | fail "FOR X"
  case N => first | (k_asm) | fail "FOR N"
  case T => first | (k_asm) | fail "FOR T"
  case hk => first | (exact rfl) | fail "FOR hk"
  case hd => first | (ktr_room) | fail "FOR hd"
  case hu => first | (ktr_units) | fail "FOR hu"
  case codeHd => first | (assumption) | fail "FOR codeHd"
  case hm1 => first | (exact rfl) | fail "FOR hm1"
  case hm2 => first | (exact rfl) | fail "FOR hm2"
  case hfs => first | (exact rfl) | fail "FOR hfs"
  case hsc => first | (exact rfl) | fail "FOR hsc"
  case p1 => first | (tb_start) | fail "FOR p1"
  case p2 => first | (tb_start) | fail "FOR p2"
  case p3 => first | (tb_start) | fail "FOR p3"
  case p4 => first | (tb_start) | fail "FOR p4"
  case m1 => first | (k_mem) | fail "FOR m1"
  case m2 => first | (k_mem) | fail "FOR m2"
  case g5 => first | (k_get) | fail "FOR g5"
  case g8 => first | (k_get) | fail "FOR g8"
  case m3 => first | (k_mem) | fail "FOR m3"
  case ch => first | ((refine' choose_of ?a ?b _ _ _ _ ?d; (case d => exact rfl); (case a => assumption); (case b => assumption))) | fail "FOR ch"
  case m4 => first | (k_mem) | fail "FOR m4"
  case hd0 => first | (assumption) | fail "FOR hd0"
  case hlo => first | (assumption) | fail "FOR hlo"
  case ne1 => first | (k_ne) | fail "FOR ne1"
  case ne2 => first | (k_ne) | fail "FOR ne2"
  case ne3 => first | (k_ne) | fail "FOR ne3"
  case ne4 => first | (k_ne) | fail "FOR ne4"
  case ne5 => first | (k_ne) | fail "FOR ne5"
  case ne6 => first | (k_ne) | fail "FOR ne6"
  case r1 => first | (k_all) | fail "FOR r1"
  case r2 => first | (k_all) | fail "FOR r2"
  case r3 => first | (k_all) | fail "FOR r3"
  case r4 => first | (k_all) | fail "FOR r4"
  case hlim => first | (assumption) | fail "FOR hlim"
  intro h' tk' m' t8' n0' o' t' F' hd' N'
  k_steps
  refine' st_fin ret ?F ?N ?m1 ?m2 ?g1 ?g2 ?g3 ?g4 ?g5 ?g6 ?g7 ?g8 ?g9 ?g10 ?gz ?m3 ?m4 ?m5 ?m6 ?m7 ?m8 ?m9 ?m10 ?m12 ?m13 ?m14 ?m15 ?m11 ?hcfg ?hpar ?hd0 ?hlo ?hlp ?hlc ?hk0 ?he0 ?cl ?ch ?i1 ?i2 ?q1 ?q ?u1 ?u2 ?mr
  case F => first | assumption | fail "FIN F"
  case N => first | assumption | fail "FIN N"
  case m1 => first | k_mem | fail "FIN m1"
  case m2 => first | k_mem | fail "FIN m2"
  case g1 => first | k_get | fail "FIN g1"
  case g2 => first | k_get | fail "FIN g2"
  case g3 => first | k_get | fail "FIN g3"
  case g4 => first | k_get | fail "FIN g4"
  case g5 => first | k_get | fail "FIN g5"
  case g6 => first | k_get | fail "FIN g6"
  case g7 => first | k_get | fail "FIN g7"
  case g8 => first | k_get | fail "FIN g8"
  case g9 => first | k_get | fail "FIN g9"
  case g10 => first | k_get | fail "FIN g10"
  case gz => first | omega | fail "FIN gz"
  case m3 => first | k_mem | fail "FIN m3"
  case m4 => first | k_mem | fail "FIN m4"
  case m5 => first | k_mem | fail "FIN m5"
  case m6 => first | k_mem | fail "FIN m6"
  case m7 => first | k_mem | fail "FIN m7"
  case m8 => first | k_mem | fail "FIN m8"
  case m9 => first | k_mem | fail "FIN m9"
  case m10 => first | k_mem | fail "FIN m10"
  case m12 => first | k_mem | fail "FIN m12"
  case m13 => first | k_mem | fail "FIN m13"
  case m14 => first | k_mem | fail "FIN m14"
  case m15 => first | k_mem | fail "FIN m15"
  case cl => first | (refine' client_of ?a ?b ?c _ _ _ _ ?d; (case d => exact rfl); (case a => assumption); (case b => assumption); (case c => exact (Eq.trans (by assumption) rfl))) | fail "FIN cl"
  case ch => first | (refine' choose_of ?a ?b _ _ _ _ ?d; (case d => exact rfl); (case a => assumption); (case b => assumption)) | fail "FIN ch"
  case m11 => first | k_mem | fail "FIN m11"
  case hcfg => first | assumption | fail "FIN hcfg"
  case hpar => first | assumption | fail "FIN hpar"
  case hd0 => first | assumption | fail "FIN hd0"
  case hlo => first | assumption | fail "FIN hlo"
  case hlp => first | assumption | fail "FIN hlp"
  case hlc => first | assumption | fail "FIN hlc"
  case hk0 => first | exact rfl | fail "FIN hk0"
  case he0 => first | exact rfl | fail "FIN he0"
  case i1 => first | exact ⟨_, _, by assumption, by assumption⟩ | fail "FIN i1"
  case i2 => first | exact ⟨_, _, by assumption, by assumption⟩ | fail "FIN i2"
  case q1 => first | exact fun p hp => Nat.lt_succ_of_lt ((by assumption : ∀ p ∈ rest, p.1 < _) p hp) | fail "FIN q1"
  case q => first | exact ⟨by omega, by omega, by omega, by omega, by omega, by omega, by omega, by omega, by omega, by omega, by omega, by omega⟩ | fail "FIN q"
  case u1 => first | exact ⟨by k_ne, by k_ne, by k_ne, by k_ne, by k_ne, by k_ne, by k_ne, by k_ne⟩ | fail "FIN u1"
  case u2 => first | exact ⟨by k_ne, by k_ne, by k_ne, by k_ne, by k_ne, by k_ne, by k_ne, by k_ne⟩ | fail "FIN u2"
  case mr => first | (intro p hp; (repeat (first | exact hp | refine List.mem_cons_of_mem _ ?_))) | fail "FIN mr"
end
end Mine
end
section
namespace Mine
section
variable {w : World} {p : Program} {loose : List Str} {mean : ExcName → Option Value} {mg mb : Str → Option Value} {dp un : Nat} {gd : Option (List Code)} {cn : Str} {cs : Scope} {a : Addr} {ccd : Value} {cl : List (Str × Addr)} {outer : List Env} {A₀ : Around} {base h₀ : Heap} {L : Addr} {m : Str → Option Value}
  {s : Shared} {Q E : Value → Shared → Prop}
theorem state_some {rest : List (Addr × Obj)} {b : Bool} {tl : Tok} {lim : Int} {c1 c2 : Addr} {o1 o2 : Obj}
  (B : Below A₀ base outer h₀) (F : Fr h₀ L s.heap m) (X : (hd.heap_39 w.params).In h₀) (N : News h₀ L s.heap ((483, tabObj (psOf c1 c2)) :: (c1, o1) :: (c2, o2) :: rest)) (T : Top p loose mean mg mb h₀) (hk : cs.kind = .function) (codeHd : CodeHd base 487 483)
  (hd : dp + 60 < recursionLimit) (hu : un + 480 < cLine)
  (r1 : ∀ p ∈ rest, p.1 ≠ 483) (z1 : @Ne Nat c1 483) (z2 : @Ne Nat c2 483) (i1 : IsCodeOf o1 lamQ) (i2 : IsCodeOf o2 lamQ) (hlim : 2 ≤ lim ∧ lim ≤ 4)
  (ret : StRet w b lim tl rest h₀ L m s Q) :
  wpAny (model PySem.Challenge.rw_rg0255_01.row.prog w) (ktrTop dp un gd cn cs L a ccd cl outer) (call (.ref 488) [.bool b, .int lim tl]) Q E s := by
  k_with_none
  k_with "call ref" => (k_here; (with_reducible show wpAny _ _ (call (Value.ref 470) _) _ _ _); k_dflt (refine' space_spec ?B ?F ?X ?N ?T ?hk ?hd ?hu ?_; (case B => k_asm); (case F => k_asm); (case X => k_asm); (case N => k_asm); (case T => k_asm); (case hk => exact rfl); (case hd => ktr_room); (case hu => ktr_units)); intro x_k9' dx_k9' es_k9' n_k9' h_k9' tk_k9' F_k9' N_k9' l1_k9 l2_k9 z_k9' gs_k9'; (have g1' := gs_k9' "is_client" (by decide)); (have g2' := gs_k9' "role" (by decide)); (have g3' := gs_k9' "original" (by decide)); (have g4' := gs_k9' "config" (by decide)); (have g5' := gs_k9' "local" (by decide)); (have g6' := gs_k9' "params" (by decide)); (have g7' := gs_k9' "owed" (by decide)); (have g8' := gs_k9' "choose" (by decide)); (have g9' := gs_k9' "has_peer_moved_cid" (by decide)); (have g10' := gs_k9' "first_peer_cid" (by decide)); clear gs_k9'; (try k_lt l1_k9); (try k_lt2 l2_k9); (try k_sweep))
  k_with "call ref" => (k_here; (with_reducible show wpAny _ _ (call (Value.ref 295) _) _ _ _); k_dflt (refine' ids_spec ?B ?F ?X ?N ?T ?hk ?hd ?hu ?_; (case B => k_asm); (case F => k_asm); (case X => k_asm); (case N => k_asm); (case T => k_asm); (case hk => exact rfl); (case hd => ktr_room); (case hu => ktr_units)); intro x_k9' dx_k9' d_k9' e_k9' o_k9' t1_k9' t2_k9' t3_k9' t4_k9' t5_k9' t6_k9' t8_k9' t9_k9' n0_k9' h_k9' tk_k9' F_k9' N_k9' hd_k9' lo_k9' l1_k9 l2_k9 l3_k9 l4_k9 l5_k9 l6_k9 l7_k9; (try dsimp only at N_k9'); (try k_lt l7_k9); (try k_lt l5_k9); (try k_lt l6_k9); (try k_lt l1_k9); (try k_lt2 l2_k9); (try k_lt2 l3_k9); (try k_lt2 l4_k9); (try k_sweep))
  k_with "setAttr ref" => (k_here; k_dflt (refine' set_abs ?k1 ?k2 ?k3 ?k4 ?k5 ?k6 ?k7 ?k8 ?k9 ?k10 ?k11 ?k12 ?U ?_; (case k1 => k_asm); (case k2 => k_asm); (case k3 => k_asm); (case k4 => k_inst); (case k5 => exact rfl); (case k6 => k_is); (case k7 => k_is); (case k8 => k_is); (case k9 => k_is); (case k10 => k_get); (case k11 => with_reducible assumption); (case k12 => first | decide | omega); (case U => k_updF); k_whole); intro h_k9' es_k9' n_k9' F_k9' N_k9' g_k9' f_k9' z_k9'; (try dsimp only at N_k9'); (try k_sweep))
  k_with "ite" => (refine ite_str ?_; intro t_k9')
  k_with "exec For Name Call cons nil" => refine Stop.go ?_
  obtain ⟨vc1, tc1, ec1, fc1⟩ := i1
  obtain ⟨vc2, tc2, ec2, fc2⟩ := i2
  revert X ret; k_fill; intro X ret
  obtain ⟨k9, n9, g9, c9, e9⟩ := cs
  dsimp only at hk
  subst hk
  refine wpAny_call ?_
  k_dflt k_enter
  k_steps
  show wpAny _ _ _ _ _ _
  refine' for_use ?B ?F ?X ?N ?p1 ?p2 ?p3 ?p4 ?T ?hk ?codeHd ?hd ?hu ?m1 ?m2 ?g5 ?g8 ?m3 ?m4 ?ch ?hd0 ?hlo ?ne1 ?ne2 ?ne3 ?ne4 ?ne5 ?ne6 ?r1 ?r2 ?r3 ?r4 ?hlim ?hm1 ?hm2 ?hfs ?hsc ?_
  case B => first | (k_asm) | fail "FOR B"
  case F => first | (k_asm) | fail "FOR F"
  case X => first | (k_asm) | fail "FOR X"
  case N => first | (k_asm) | fail "FOR N"
  case T => first | (k_asm) | fail "FOR T"
  case hk => first | (exact rfl) | fail "FOR hk"
  case hd => first | (ktr_room) | fail "FOR hd"
  case hu => first | (ktr_units) | fail "FOR hu"
  case codeHd => first | (assumption) | fail "FOR codeHd"
  case hm1 => first | (exact rfl) | fail "FOR hm1"
  case hm2 => first | (exact rfl) | fail "FOR hm2"
  case hfs => first | (exact rfl) | fail "FOR hfs"
  case hsc => first | (exact rfl) | fail "FOR hsc"
  case p1 => first | (tb_start) | fail "FOR p1"
  case p2 => first | (tb_start) | fail "FOR p2"
  case p3 => first | (tb_start) | fail "FOR p3"
  case p4 => first | (tb_start) | fail "FOR p4"
  case m1 => first | (k_mem) | fail "FOR m1"
  case m2 => first | (k_mem) | fail "FOR m2"
  case g5 => first | (k_get) | fail "FOR g5"
  case g8 => first | (k_get) | fail "FOR g8"
  case m3 => first | (k_mem) | fail "FOR m3"
  case ch => first | ((refine' choose_of ?a ?b _ _ _ _ ?d; (case d => exact rfl); (case a => assumption); (case b => assumption))) | fail "FOR ch"
  case m4 => first | (k_mem) | fail "FOR m4"
  case hd0 => first | (assumption) | fail "FOR hd0"
  case hlo => first | (assumption) | fail "FOR hlo"
  case ne1 => first | (k_ne) | fail "FOR ne1"
  case ne2 => first | (k_ne) | fail "FOR ne2"
  case ne3 => first | (k_ne) | fail "FOR ne3"
  case ne4 => first | (k_ne) | fail "FOR ne4"
  case ne5 => first | (k_ne) | fail "FOR ne5"
  case ne6 => first | (k_ne) | fail "FOR ne6"
  case r1 => first | (k_all) | fail "FOR r1"
  case r2 => first | (k_all) | fail "FOR r2"
  case r3 => first | (k_all) | fail "FOR r3"
  case r4 => first | (k_all) | fail "FOR r4"
  case hlim => first | (assumption) | fail "FOR hlim"
  intro h' tk' m' t8' n0' o' t' F' hd' N'
  k_steps
  refine' st_fin ret ?F ?N ?m1 ?m2 ?g1 ?g2 ?g3 ?g4 ?g5 ?g6 ?g7 ?g8 ?g9 ?g10 ?gz ?m3 ?m4 ?m5 ?m6 ?m7 ?m8 ?m9 ?m10 ?m12 ?m13 ?m14 ?m15 ?m11 ?hcfg ?hpar ?hd0 ?hlo ?hlp ?hlc ?hk0 ?he0 ?cl ?ch ?i1 ?i2 ?q1 ?q ?u1 ?u2 ?mr
  case F => first | assumption | fail "FIN F"
  case N => first | assumption | fail "FIN N"
  case m1 => first | k_mem | fail "FIN m1"
  case m2 => first | k_mem | fail "FIN m2"
  case g1 => first | k_get | fail "FIN g1"
  case g2 => first | k_get | fail "FIN g2"
  case g3 => first | k_get | fail "FIN g3"
  case g4 => first | k_get | fail "FIN g4"
  case g5 => first | k_get | fail "FIN g5"
  case g6 => first | k_get | fail "FIN g6"
  case g7 => first | k_get | fail "FIN g7"
  case g8 => first | k_get | fail "FIN g8"
  case g9 => first | k_get | fail "FIN g9"
  case g10 => first | k_get | fail "FIN g10"
  case gz => first | omega | fail "FIN gz"
  case m3 => first | k_mem | fail "FIN m3"
  case m4 => first | k_mem | fail "FIN m4"
  case m5 => first | k_mem | fail "FIN m5"
  case m6 => first | k_mem | fail "FIN m6"
  case m7 => first | k_mem | fail "FIN m7"
  case m8 => first | k_mem | fail "FIN m8"
  case m9 => first | k_mem | fail "FIN m9"
  case m10 => first | k_mem | fail "FIN m10"
  case m12 => first | k_mem | fail "FIN m12"
  case m13 => first | k_mem | fail "FIN m13"
  case m14 => first | k_mem | fail "FIN m14"
  case m15 => first | k_mem | fail "FIN m15"
  case cl => first | (refine' client_of ?a ?b ?c _ _ _ _ ?d; (case d => exact rfl); (case a => assumption); (case b => assumption); (case c => exact (Eq.trans (by assumption) rfl))) | fail "FIN cl"
  case ch => first | (refine' choose_of ?a ?b _ _ _ _ ?d; (case d => exact rfl); (case a => assumption); (case b => assumption)) | fail "FIN ch"
  case m11 => first | k_mem | fail "FIN m11"
  case hcfg => first | assumption | fail "FIN hcfg"
  case hpar => first | assumption | fail "FIN hpar"
  case hd0 => first | assumption | fail "FIN hd0"
  case hlo => first | assumption | fail "FIN hlo"
  case hlp => first | assumption | fail "FIN hlp"
  case hlc => first | assumption | fail "FIN hlc"
  case hk0 => first | exact rfl | fail "FIN hk0"
  case he0 => first | exact rfl | fail "FIN he0"
  case i1 => first | exact ⟨_, _, by assumption, by assumption⟩ | fail "FIN i1"
  case i2 => first | exact ⟨_, _, by assumption, by assumption⟩ | fail "FIN i2"
  case q1 => first | exact fun p hp => Nat.lt_succ_of_lt ((by assumption : ∀ p ∈ rest, p.1 < _) p hp) | fail "FIN q1"
  case q => first | exact ⟨by omega, by omega, by omega, by omega, by omega, by omega, by omega, by omega, by omega, by omega, by omega, by omega⟩ | fail "FIN q"
  case u1 => first | exact ⟨by k_ne, by k_ne, by k_ne, by k_ne, by k_ne, by k_ne, by k_ne, by k_ne⟩ | fail "FIN u1"
  case u2 => first | exact ⟨by k_ne, by k_ne, by k_ne, by k_ne, by k_ne, by k_ne, by k_ne, by k_ne⟩ | fail "FIN u2"
  case mr => first | (intro p hp; (repeat (first | exact hp | refine List.mem_cons_of_mem _ ?_))) | fail "FIN mr"
end
end Mine
end
section
open PySem.Spec
namespace Mine
section
variable {prog : Program} {w : World} {A : Around} {E : Value → Shared → Prop} {s : Shared} {h₀ : Heap} {L : Addr} {m : Str → Option Value} {news : List (Addr × Obj)} {value slice : PySem.Expr}
theorem item_all {l : Addr} {vs : List Value} {n : Nat} {k : Int} {u : Tok} {Q : Value → Shared → Prop} (N : News h₀ L s.heap news) (hl : (l, listOf vs.toArray n) ∈ news) (h0 : 0 ≤ k) (h1 : k < (vs.length : Int)) (hfit : vs.length ≤ 100) (h : ∀ v ∈ vs, Q v s)
    (hs : subscripted slice false (.ref l) (.int k u) = operate [.ref l, .int k u] (getItem (.ref l) (.int k u)) := by with_unfolding_all rfl) :
    wpAny (model prog w) A (subscriptTail value slice (.ref l) (.int k u)) Q E s := by
  have hlt : k.toNat < vs.length := by omega
  have hl' := News.isList N hl
  exact tail_any hl'.typeIs slot_list_getitem.lookup (wpAny_getItem_list hl' h0 (by omega) (x := vs[k.toNat]) (by simp [hlt]) (h _ (List.getElem_mem hlt))) hs
def AllB (vs : List Value) : Prop := ∀ v ∈ vs, ∃ d t, v = .bytes d t ∧ d.size ≤ 100
def AllK3 (vs : List Value) : Prop := ∀ v ∈ vs, ∃ d t, v = .str d t ∧ (d = Str.ofString "initial" ∨ d = Str.ofString "handshake" ∨ d = Str.ofString "short")
def AllZ2 (vs : List Value) : Prop := ∀ v ∈ vs, ∃ d t, v = .int d t ∧ (d = 1200 ∨ d = 1199)
theorem AllB.nil : AllB [] := fun _ h => nomatch h
theorem AllB.cons {d t vs} (h : d.size ≤ 100) (r : AllB vs) : AllB (.bytes d t :: vs) := List.forall_mem_cons.mpr ⟨⟨d, t, rfl, h⟩, r⟩
theorem AllK3.nil : AllK3 [] := fun _ h => nomatch h
theorem AllK3.cons {d t vs} (h : d = Str.ofString "initial" ∨ d = Str.ofString "handshake" ∨ d = Str.ofString "short") (r : AllK3 vs) : AllK3 (.str d t :: vs) := List.forall_mem_cons.mpr ⟨⟨d, t, rfl, h⟩, r⟩
theorem AllZ2.nil : AllZ2 [] := fun _ h => nomatch h
theorem AllZ2.cons {d t vs} (h : d = 1200 ∨ d = 1199) (r : AllZ2 vs) : AllZ2 (.int d t :: vs) := List.forall_mem_cons.mpr ⟨⟨d, t, rfl, h⟩, r⟩
theorem item_B {l : Addr} {vs : List Value} {n : Nat} {k : Int} {u : Tok} {Q : Value → Shared → Prop} (N : News h₀ L s.heap news) (hl : (l, listOf vs.toArray n) ∈ news) (hv : AllB vs) (h0 : 0 ≤ k) (h1 : k < (vs.length : Int)) (hfit : vs.length ≤ 100) (h : ∀ d t, d.size ≤ 100 → Q (.bytes d t) s)
    (hs : subscripted slice false (.ref l) (.int k u) = operate [.ref l, .int k u] (getItem (.ref l) (.int k u)) := by with_unfolding_all rfl) :
    wpAny (model prog w) A (subscriptTail value slice (.ref l) (.int k u)) Q E s :=
  item_all N hl h0 h1 hfit (fun v hm => by obtain ⟨d, t, rfl, e⟩ := hv v hm; exact h d t e) hs
theorem item_K3 {l : Addr} {vs : List Value} {n : Nat} {k : Int} {u : Tok} {Q : Value → Shared → Prop} (N : News h₀ L s.heap news) (hl : (l, listOf vs.toArray n) ∈ news) (hv : AllK3 vs) (h0 : 0 ≤ k) (h1 : k < (vs.length : Int)) (hfit : vs.length ≤ 100) (h : ∀ d t, (d = Str.ofString "initial" ∨ d = Str.ofString "handshake" ∨ d = Str.ofString "short") → Q (.str d t) s)
    (hs : subscripted slice false (.ref l) (.int k u) = operate [.ref l, .int k u] (getItem (.ref l) (.int k u)) := by with_unfolding_all rfl) :
    wpAny (model prog w) A (subscriptTail value slice (.ref l) (.int k u)) Q E s :=
  item_all N hl h0 h1 hfit (fun v hm => by obtain ⟨d, t, rfl, e⟩ := hv v hm; exact h d t e) hs
theorem item_Z2 {l : Addr} {vs : List Value} {n : Nat} {k : Int} {u : Tok} {Q : Value → Shared → Prop} (N : News h₀ L s.heap news) (hl : (l, listOf vs.toArray n) ∈ news) (hv : AllZ2 vs) (h0 : 0 ≤ k) (h1 : k < (vs.length : Int)) (hfit : vs.length ≤ 100) (h : ∀ d t, (d = 1200 ∨ d = 1199) → Q (.int d t) s)
    (hs : subscripted slice false (.ref l) (.int k u) = operate [.ref l, .int k u] (getItem (.ref l) (.int k u)) := by with_unfolding_all rfl) :
    wpAny (model prog w) A (subscriptTail value slice (.ref l) (.int k u)) Q E s :=
  item_all N hl h0 h1 hfit (fun v hm => by obtain ⟨d, t, rfl, e⟩ := hv v hm; exact h d t e) hs
/-- is a value these bytes -/
def isB (dc : Array UInt8) : Value → Bool
  | .bytes c _ => c.toList == dc.toList
  | _ => false
theorem in_known {l : Addr} {dc : Array UInt8} {t ta tb : Tok} {Q : Value → Shared → Prop} (hl : s.heap.IsTuple l #[.bytes ownZero ta, .bytes (repB 8 101) tb]) (h : Q (.bool (isKnown dc)) s) : wpAny (model prog w) A (compareOp .In (.bytes dc t) (.ref l)) Q E s := by
  refine SeqAt.in_tupleAt (isB dc) hl (fun y hy => ?_) ?_
  · have hy' : y = .bytes ownZero ta ∨ y = .bytes (repB 8 101) tb := by simpa using hy
    rcases hy' with rfl | rfl <;> exact (eqGives_bytes _ _ _ _).at _ _
  · have e : (#[Value.bytes ownZero ta, Value.bytes (repB 8 101) tb] : Array Value).any (isB dc) = isKnown dc := by
      have e1 : ∀ x y : List UInt8, (x == y) = decide (y = x) := fun x y => by
        by_cases q : x = y
        · rw [q]; simp
        · rw [decide_eq_false (fun z => q z.symm)]; exact beq_eq_false_iff_ne.mpr q
      have e2 : isKnown dc = [Value.bytes ownZero ta, Value.bytes (repB 8 101) tb].any (isB dc) := by
        unfold isKnown
        rw [← e1, ← e1]
        simp only [List.any_cons, List.any_nil, isB, Bool.or_false]
      rw [e2, List.any_toArray]
    rw [e]
    exact h
end
section
variable {w : World} {p : Program} {loose : List Str} {mean : ExcName → Option Value} {mg mb : Str → Option Value} {dp un : Nat} {gd : Option (List Code)} {cn : Str} {cs : Scope} {a : Addr} {ccd : Value} {cl : List (Str × Addr)} {outer : List Env} {A₀ : Around} {base h₀ : Heap} {L : Addr} {m : Str → Option Value}
  {s : Shared} {Q E : Value → Shared → Prop}
/-- the table of the lambdas' codes: empty, or filled -/
def TabOk (T : Array Value) (rest : List (Addr × Obj)) : Prop := T = #[] ∨ ∃ c1 o1 c2 o2, T = psOf c1 c2 ∧ (c1, o1) ∈ rest ∧ (c2, o2) ∈ rest ∧ @Ne Nat c1 483 ∧ @Ne Nat c2 483 ∧ IsCodeOf o1 lamQ ∧ IsCodeOf o2 lamQ
theorem state_any {news rest : List (Addr × Obj)} {tb : Array Value} {b : Bool} {tl : Tok} {lim : Int}
  (B : Below A₀ base outer h₀) (F : Fr h₀ L s.heap m) (X : (hd.heap_39 w.params).In h₀) (N : News h₀ L s.heap news) (T : Top p loose mean mg mb h₀) (hk : cs.kind = .function) (codeHd : CodeHd base 487 483)
  (hd : dp + 60 < recursionLimit) (hu : un + 480 < cLine)
  (pk : Pick 483 (tabObj tb) news rest) (r1 : ∀ p ∈ rest, p.1 ≠ 483) (ht : TabOk tb rest) (hlim : 2 ≤ lim ∧ lim ≤ 4)
  (ret : StRet w b lim tl rest h₀ L m s Q) :
  wpAny (model PySem.Challenge.rw_rg0255_01.row.prog w) (ktrTop dp un gd cn cs L a ccd cl outer) (call (.ref 488) [.bool b, .int lim tl]) Q E s := by
  rcases ht with rfl | ⟨c1, o1, c2, o2, rfl, m1, m2, z1, z2, i1, i2⟩
  · exact state_none B F X (fun q hq => N q (pk.mem q hq)) T hk codeHd hd hu r1 hlim ret
  · refine state_some (c1 := c1) (c2 := c2) (o1 := o1) (o2 := o2) B F X (fun q hq => ?_) T hk codeHd hd hu r1 z1 z2 i1 i2 hlim ret
    rcases List.mem_cons.mp hq with rfl | hq
    · exact N _ pk.it
    rcases List.mem_cons.mp hq with rfl | hq
    · exact N _ (pk.up _ m1)
    rcases List.mem_cons.mp hq with rfl | hq
    · exact N _ (pk.up _ m2)
    · exact N _ (pk.up _ hq)
end
end Mine
end
section
namespace Mine
section
variable {w : World} {p : Program} {loose : List Str} {mean : ExcName → Option Value} {mg mb : Str → Option Value} {dp un : Nat} {gd : Option (List Code)} {cn : Str} {cs : Scope} {a : Addr} {ccd : Value} {cl : List (Str × Addr)} {outer : List Env} {A₀ : Around} {base h₀ : Heap} {L : Addr} {m : Str → Option Value}
  {s : Shared} {Q E : Value → Shared → Prop}
theorem raw_spec {news : List (Addr × Obj)} {kd : Str} {t1 t2 t3 t4 : Tok} {dc : Array UInt8} {fi : Int}
  (B : Below A₀ base outer h₀) (F : Fr h₀ L s.heap m) (X : (hd.heap_39 w.params).In h₀) (N : News h₀ L s.heap news) (T : Top p loose mean mg mb h₀) (hk : cs.kind = .function)
  (hd : dp + 30 < recursionLimit) (hu : un + 240 < cLine)
  (ret : ∀ x dx es n h' tk' u1 u2, Fr h₀ L h' m → News h₀ L h' ((x, instObj 323 dx) :: (dx, dictOf es n) :: news) → (∀ q ∈ news, q.1 < dx) → @LT.lt Nat _ dx x → es.length ≤ 11 →
    getL (Str.ofString "kind") es = some (some (.str kd t1)) → getL (Str.ofString "dcid") es = some (some (.bytes dc t3)) → getL (Str.ofString "scid") es = some (some u1) → getL (Str.ofString "token") es = some (some u2) → Q (.ref x) { s with heap := h', toks := tk' }) :
  wpAny (model PySem.Challenge.rw_rg0255_01.row.prog w) (ktrTop dp un gd cn cs L a ccd cl outer) (call (.ref 323) [.str kd t1, .int fi t2, .bytes dc t3, .int 0 t4]) Q E s := by
  k_with_none
  revert X ret; k_fill; intro X ret
  obtain ⟨k9, n9, g9, c9, e9⟩ := cs
  dsimp only at hk
  subst hk
  k_steps
  have N9 := (by assumption : News h₀ L _ _)
  refine' ret _ _ _ _ _ _ ?u1 ?u2 (by assumption) (fun p hp => N9 p (List.mem_cons_of_mem _ hp)) (by assumption) (by assumption) (Nat.le_of_ble_eq_true rfl) ?a ?b ?c ?d
  case a => exact rfl
  case b => exact rfl
  case c => exact rfl
  case d => exact rfl
end
end Mine
end
section
namespace Mine
def frBody : List Stmt := match PySem.Challenge.pw_rg0255_01.theDef (Str.ofString "_law_for_right") with
  | some (_, b, _) => b
  | none => []
def frSc : Scope := match PySem.Challenge.pw_rg0255_01.theDef (Str.ofString "_law_for_right") with
  | some (_, _, sc) => sc
  | none => { kind := .function, names := [], isGenerator := false, isCoroutine := false }
def frS (n : Nat) : Stmt := frBody.getD n (.Pass ⟨0, 0, 0, 0⟩)
def dueA (b : Bool) (kd : Str) (dc : Array UInt8) : Bool := isKnown dc || (!b && (kd == Str.ofString "initial") && (dc.toList == bFirst.toList))
def dueB (b : Bool) (kd : Str) (src : Array UInt8) (mv due : Bool) : Bool := if ((kd != Str.ofString "short") && (src.toList != bPeer.toList) && (!b || mv)) = true then false else due
def dueC (b : Bool) (kd : Str) (tok : Array UInt8) (size : Int) (due : Bool) : Bool := if ((kd == Str.ofString "initial") && (if b then tok.toList != [] else decide (size = 1199))) = true then false else due
theorem fun_put {m : Str → Option Value} {n : Str} {v : Value} (h : m n = some v) : m = fun y => if y = n then some v else m y := by
  funext y
  by_cases e : y = n
  · rw [if_pos e, e, h]
  · rw [if_neg e]
section
variable {w : World} {p : Program} {loose : List Str} {mean : ExcName → Option Value} {mg mb : Str → Option Value} {dp un : Nat} {gd : Option (List Code)} {cn : Str} {cs : Scope} {a : Addr} {ccd : Value} {cl : List (Str × Addr)} {outer : List Env} {A₀ : Around} {base h₀ : Heap} {L : Addr} {m : Str → Option Value}
  {s : Shared} {Q E : Value → Shared → Prop}
theorem due_spec {news : List (Addr × Obj)} {sc : Scope} {fs : Stmt} {La : Addr} {dc : Array UInt8} {kd : Str} {b : Bool} {t1 t2 : Tok} {Q : Flow → Shared → Prop}
  (B : Below (ktrTop dp un gd cn cs La a ccd cl outer) base (envX cn cs La a ccd cl :: outer) h₀) (F : Fr h₀ L s.heap m) (X : (hd.heap_39 w.params).In h₀)
  (N : News h₀ L s.heap news) (T : Top p loose mean mg mb h₀) (hk : cs.kind = .function)
  (hd : dp + 60 < recursionLimit) (hu : un + 480 < cLine)
  (hm1 : m (Str.ofString "to") = some (.bytes dc t1)) (hm2 : m (Str.ofString "kind") = some (.str kd t2)) (hm3 : m (Str.ofString "is_client") = some (.bool b)) (hfs : fs = frS 6) (hsc : sc = frSc)
  (ret : ∀ (h' : Heap) (tk' : Tok) (r : Bool), r = dueA b kd dc → Fr h₀ L h' (fun y => if y = Str.ofString "due" then some (.bool r) else m y) → News h₀ L h' news → Q .next { s with heap := h', toks := tk' }) :
  wpAny (model PySem.Challenge.rw_rg0255_01.row.prog w) ((ktrTop dp un gd cn cs La a ccd cl outer).deeper (envOf (Str.ofString "_law_for_right") sc L 495 (.ref 494))) (exec fs (envOf (Str.ofString "_law_for_right") sc L 495 (.ref 494))) Q E s := by
  k_with_none
  k_with "binaryOp Mult ref int" => (k_here; (with_reducible show wpAny _ _ (binaryOp Operator.Mult (Value.ref _) (Value.int _ _)) _ _ _); k_dflt (refine' mul_one ?F ?N ?l ?h0 ?h1 ?_; (case F => k_asm); (case N => k_asm); (case l => k_mem); (case h0 => first | decide | omega); (case h1 => first | decide | omega)); intro D_k9' h_k9' F_k9' N_k9' l1_k9; (try k_lt l1_k9))
  k_with "call type:bytes" => (k_here; (with_reducible show wpAny _ _ (call (Value.type "bytes") [Value.ref _]) _ _ _); k_dflt (refine' bytes_rep ?F ?N ?hh ?hl ?h0 ?h1 ?hk ?_; (case F => k_asm); (case N => k_asm); (case hh => exact rfl); (case hl => k_mem); (case h0 => first | decide | omega); (case h1 => first | decide | omega); (case hk => first | decide | omega)); intro h_k9' t_k9' tk_k9' F_k9' N_k9'; (try k_sweep))
  k_with "compareOp In bytes ref" => (k_here; k_dflt (refine' in_known ?l ?_; (case l => exact ⟨_, ((by assumption : News _ _ _ _) _ (by k_mem)).1, rfl, _, rfl⟩)))
  revert X ret; k_fill; intro X ret
  have em : ∀ m : Str → Option Value, m (Str.ofString "to") = some (.bytes dc t1) → m (Str.ofString "kind") = some (.str kd t2) → m (Str.ofString "is_client") = some (.bool b) → m = fun y => if y = Str.ofString "to" then some (.bytes dc t1) else if y = Str.ofString "kind" then some (.str kd t2) else if y = Str.ofString "is_client" then some (.bool b) else m y := by
    intro m e0 e1 e2
    funext y
    by_cases q0 : y = Str.ofString "to"
    · rw [if_pos q0, q0, e0]
    by_cases q1 : y = Str.ofString "kind"
    · rw [if_neg q0, if_pos q1, q1, e1]
    by_cases q2 : y = Str.ofString "is_client"
    · rw [if_neg q0, if_neg q1, if_pos q2, q2, e2]
    rw [if_neg q0, if_neg q1, if_neg q2]
  rw [em m hm1 hm2 hm3] at F
  conv at hfs => rhs; whnf
  conv at hsc => rhs; whnf
  subst hfs hsc
  obtain ⟨k9, n9, g9, c9, e9⟩ := cs
  dsimp only at hk
  subst hk
  refine wpAny_noRaise ?_
  k_steps
  all_goals (refine ret _ _ _ ?_ (by rw [em m hm1 hm2 hm3]; assumption) (fun p hp => (by assumption : News h₀ L _ _) p (by repeat (first | exact hp | refine List.mem_cons_of_mem _ ?_))))
  all_goals (clear ret em; (first | rfl | (simp only [dueA, Bool.true_and, Bool.false_and, Bool.and_true, Bool.and_false, Bool.true_or, Bool.false_or, Bool.or_true, Bool.or_false, Bool.not_true, Bool.not_false, Bool.false_eq_true, if_true, if_false, decide_true, decide_false, eq_self, *]; done) | skip))
theorem if1_spec {news : List (Addr × Obj)} {sc : Scope} {fs : Stmt} {La x dx : Addr} {src : Array UInt8} {kd : Str} {b mv due : Bool} {t1 t2 : Tok} {es : List DictEntry} {n : Nat} {Q : Flow → Shared → Prop}
  (B : Below (ktrTop dp un gd cn cs La a ccd cl outer) base (envX cn cs La a ccd cl :: outer) h₀) (F : Fr h₀ L s.heap m) (X : (hd.heap_39 w.params).In h₀)
  (N : News h₀ L s.heap news) (T : Top p loose mean mg mb h₀) (hk : cs.kind = .function)
  (hd : dp + 60 < recursionLimit) (hu : un + 480 < cLine)
  (x1 : (x, instObj 470 dx) ∈ news) (x2 : (dx, dictOf es n) ∈ news) (g5 : getL (Str.ofString "has_peer_moved_cid") es = some (some (.bool mv)))
  (hm1 : m (Str.ofString "kind") = some (.str kd t1)) (hm2 : m (Str.ofString "source") = some (.bytes src t2)) (hm3 : m (Str.ofString "is_client") = some (.bool b)) (hm4 : m (Str.ofString "conn") = some (.ref x)) (hm5 : m (Str.ofString "due") = some (.bool due)) (hfs : fs = frS 7) (hsc : sc = frSc)
  (ret : ∀ (h' : Heap) (tk' : Tok) (r : Bool), r = dueB b kd src mv due → Fr h₀ L h' (fun y => if y = Str.ofString "due" then some (.bool r) else m y) → News h₀ L h' news → Q .next { s with heap := h', toks := tk' }) :
  wpAny (model PySem.Challenge.rw_rg0255_01.row.prog w) ((ktrTop dp un gd cn cs La a ccd cl outer).deeper (envOf (Str.ofString "_law_for_right") sc L 495 (.ref 494))) (exec fs (envOf (Str.ofString "_law_for_right") sc L 495 (.ref 494))) Q E s := by
  revert X ret; k_fill; intro X ret
  have em : ∀ m : Str → Option Value, m (Str.ofString "kind") = some (.str kd t1) → m (Str.ofString "source") = some (.bytes src t2) → m (Str.ofString "is_client") = some (.bool b) → m (Str.ofString "conn") = some (.ref x) → m (Str.ofString "due") = some (.bool due) → m = fun y => if y = Str.ofString "kind" then some (.str kd t1) else if y = Str.ofString "source" then some (.bytes src t2) else if y = Str.ofString "is_client" then some (.bool b) else if y = Str.ofString "conn" then some (.ref x) else if y = Str.ofString "due" then some (.bool due) else m y := by
    intro m e0 e1 e2 e3 e4
    funext y
    by_cases q0 : y = Str.ofString "kind"
    · rw [if_pos q0, q0, e0]
    by_cases q1 : y = Str.ofString "source"
    · rw [if_neg q0, if_pos q1, q1, e1]
    by_cases q2 : y = Str.ofString "is_client"
    · rw [if_neg q0, if_neg q1, if_pos q2, q2, e2]
    by_cases q3 : y = Str.ofString "conn"
    · rw [if_neg q0, if_neg q1, if_neg q2, if_pos q3, q3, e3]
    by_cases q4 : y = Str.ofString "due"
    · rw [if_neg q0, if_neg q1, if_neg q2, if_neg q3, if_pos q4, q4, e4]
    rw [if_neg q0, if_neg q1, if_neg q2, if_neg q3, if_neg q4]
  rw [em m hm1 hm2 hm3 hm4 hm5] at F
  conv at hfs => rhs; whnf
  conv at hsc => rhs; whnf
  subst hfs hsc
  obtain ⟨k9, n9, g9, c9, e9⟩ := cs
  dsimp only at hk
  subst hk
  refine wpAny_noRaise ?_
  k_steps
  all_goals (first | (refine ret _ _ _ ?_ (by rw [em m hm1 hm2 hm3 hm4 hm5]; assumption) (fun p hp => (by assumption : News h₀ L _ _) p (by repeat (first | exact hp | refine List.mem_cons_of_mem _ ?_)))) | (refine ret _ _ due ?_ (by rw [← fun_put hm5, em m hm1 hm2 hm3 hm4 hm5]; assumption) (fun p hp => (by assumption : News h₀ L _ _) p (by repeat (first | exact hp | refine List.mem_cons_of_mem _ ?_)))))
  all_goals (clear ret em; (first | rfl | (simp only [dueB, Bool.true_and, Bool.false_and, Bool.and_true, Bool.and_false, Bool.true_or, Bool.false_or, Bool.or_true, Bool.or_false, Bool.not_true, Bool.not_false, Bool.false_eq_true, if_true, if_false, decide_true, decide_false, eq_self, *]; done) | skip))
theorem if2_spec {news : List (Addr × Obj)} {sc : Scope} {fs : Stmt} {La rx drx : Addr} {tokb : Array UInt8} {kd : Str} {b due : Bool} {size : Int} {t1 t2 u : Tok} {er : List DictEntry} {nr : Nat} {Q : Flow → Shared → Prop}
  (B : Below (ktrTop dp un gd cn cs La a ccd cl outer) base (envX cn cs La a ccd cl :: outer) h₀) (F : Fr h₀ L s.heap m) (X : (hd.heap_39 w.params).In h₀)
  (N : News h₀ L s.heap news) (T : Top p loose mean mg mb h₀) (hk : cs.kind = .function)
  (hd : dp + 60 < recursionLimit) (hu : un + 480 < cLine)
  (x1 : (rx, instObj 323 drx) ∈ news) (x2 : (drx, dictOf er nr) ∈ news) (g5 : getL (Str.ofString "token") er = some (some (.bytes tokb u)))
  (hm1 : m (Str.ofString "kind") = some (.str kd t1)) (hm2 : m (Str.ofString "raw") = some (.ref rx)) (hm3 : m (Str.ofString "is_client") = some (.bool b)) (hm4 : m (Str.ofString "size") = some (.int size t2)) (hm5 : m (Str.ofString "due") = some (.bool due)) (hfs : fs = frS 8) (hsc : sc = frSc)
  (ret : ∀ (h' : Heap) (tk' : Tok) (r : Bool), r = dueC b kd tokb size due → Fr h₀ L h' (fun y => if y = Str.ofString "due" then some (.bool r) else m y) → News h₀ L h' news → Q .next { s with heap := h', toks := tk' }) :
  wpAny (model PySem.Challenge.rw_rg0255_01.row.prog w) ((ktrTop dp un gd cn cs La a ccd cl outer).deeper (envOf (Str.ofString "_law_for_right") sc L 495 (.ref 494))) (exec fs (envOf (Str.ofString "_law_for_right") sc L 495 (.ref 494))) Q E s := by
  revert X ret; k_fill; intro X ret
  have em : ∀ m : Str → Option Value, m (Str.ofString "kind") = some (.str kd t1) → m (Str.ofString "raw") = some (.ref rx) → m (Str.ofString "is_client") = some (.bool b) → m (Str.ofString "size") = some (.int size t2) → m (Str.ofString "due") = some (.bool due) → m = fun y => if y = Str.ofString "kind" then some (.str kd t1) else if y = Str.ofString "raw" then some (.ref rx) else if y = Str.ofString "is_client" then some (.bool b) else if y = Str.ofString "size" then some (.int size t2) else if y = Str.ofString "due" then some (.bool due) else m y := by
    intro m e0 e1 e2 e3 e4
    funext y
    by_cases q0 : y = Str.ofString "kind"
    · rw [if_pos q0, q0, e0]
    by_cases q1 : y = Str.ofString "raw"
    · rw [if_neg q0, if_pos q1, q1, e1]
    by_cases q2 : y = Str.ofString "is_client"
    · rw [if_neg q0, if_neg q1, if_pos q2, q2, e2]
    by_cases q3 : y = Str.ofString "size"
    · rw [if_neg q0, if_neg q1, if_neg q2, if_pos q3, q3, e3]
    by_cases q4 : y = Str.ofString "due"
    · rw [if_neg q0, if_neg q1, if_neg q2, if_neg q3, if_pos q4, q4, e4]
    rw [if_neg q0, if_neg q1, if_neg q2, if_neg q3, if_neg q4]
  rw [em m hm1 hm2 hm3 hm4 hm5] at F
  conv at hfs => rhs; whnf
  conv at hsc => rhs; whnf
  subst hfs hsc
  obtain ⟨k9, n9, g9, c9, e9⟩ := cs
  dsimp only at hk
  subst hk
  refine wpAny_noRaise ?_
  k_steps
  all_goals (first | (refine ret _ _ _ ?_ (by rw [em m hm1 hm2 hm3 hm4 hm5]; assumption) (fun p hp => (by assumption : News h₀ L _ _) p (by repeat (first | exact hp | refine List.mem_cons_of_mem _ ?_)))) | (refine ret _ _ due ?_ (by rw [← fun_put hm5, em m hm1 hm2 hm3 hm4 hm5]; assumption) (fun p hp => (by assumption : News h₀ L _ _) p (by repeat (first | exact hp | refine List.mem_cons_of_mem _ ?_)))))
  all_goals (clear ret em; (first | rfl | (simp only [dueC, Bool.true_and, Bool.false_and, Bool.and_true, Bool.and_false, Bool.true_or, Bool.false_or, Bool.or_true, Bool.or_false, Bool.not_true, Bool.not_false, Bool.false_eq_true, if_true, if_false, decide_true, decide_false, eq_self, *]; done) | skip))
end
end Mine
end
section
open PySem.Spec
namespace Mine
theorem tok_pos (tok : Array UInt8) : (tok.toList != []) = decide (0 < (tok.size : Int)) := by
  obtain ⟨l⟩ := tok
  cases l with
  | nil => rfl
  | cons x r =>
    rw [decide_eq_true (by simp only [List.size_toArray, List.length_cons]; omega)]
    rfl
theorem fr_law (b : Bool) (kd : Str) (tok src dc : Array UInt8) (mv : Bool) (size : Int) (hkd : kd = Str.ofString "initial" ∨ kd = Str.ofString "handshake" ∨ kd = Str.ofString "short") (hsz : size = 1200 ∨ size = 1199) :
    (isForR b kd tok src dc (isKnown dc) mv size == dueC b kd tok size (dueB b kd src mv (dueA b kd dc))) = true := by
  unfold isForR dueC dueB dueA
  rw [tok_pos]
  have hs : decide (1200 ≤ size) = !decide (size = 1199) := by
    rcases hsz with rfl | rfl <;> rfl
  rw [hs]
  generalize isKnown dc = kn
  generalize decide (0 < (tok.size : Int)) = tp
  generalize decide (size = 1199) = sz
  generalize (dc.toList == bFirst.toList) = d
  generalize (src.toList != bPeer.toList) = sr
  rcases hkd with rfl | rfl | rfl
  · simp only [se0, sb0, sb3]
    revert b kn tp sz d sr mv
    decide
  · simp only [se1, sb1, sb4]
    revert b kn tp sz d sr mv
    decide
  · simp only [se2, sb2, sb5]
    revert b kn tp sz d sr mv
    decide
end Mine
end
section
namespace Mine
theorem st_lt {y ce dx x f1 dcfg dlx lx d le dpar ol f2 : Addr} (h : @LT.lt Nat _ y ce) (q3 : @LT.lt Nat _ ce dx) (q4 : @LT.lt Nat _ dx x) (q5 : @LT.lt Nat _ x f1) (q6 : @LT.lt Nat _ f1 dcfg) (q7 : @LT.lt Nat _ dcfg dlx) (q8 : @LT.lt Nat _ dlx lx) (q9 : @LT.lt Nat _ lx d) (q10 : @LT.lt Nat _ d le) (q11 : @LT.lt Nat _ le dpar) (q12 : @LT.lt Nat _ dpar ol) (q13 : @LT.lt Nat _ ol f2) : @LT.lt Nat _ y dx ∧ @LT.lt Nat _ y x ∧ @LT.lt Nat _ y f1 ∧ @LT.lt Nat _ y dcfg ∧ @LT.lt Nat _ y dlx ∧ @LT.lt Nat _ y lx ∧ @LT.lt Nat _ y d ∧ @LT.lt Nat _ y le ∧ @LT.lt Nat _ y dpar ∧ @LT.lt Nat _ y ol ∧ @LT.lt Nat _ y f2 := by
  have h0 := Nat.lt_trans h q3
  have h1 := Nat.lt_trans h0 q4
  have h2 := Nat.lt_trans h1 q5
  have h3 := Nat.lt_trans h2 q6
  have h4 := Nat.lt_trans h3 q7
  have h5 := Nat.lt_trans h4 q8
  have h6 := Nat.lt_trans h5 q9
  have h7 := Nat.lt_trans h6 q10
  have h8 := Nat.lt_trans h7 q11
  have h9 := Nat.lt_trans h8 q12
  have h10 := Nat.lt_trans h9 q13
  exact ⟨h0, h1, h2, h3, h4, h5, h6, h7, h8, h9, h10⟩
theorem st_lt0 {dx x f1 dcfg dlx lx d le dpar ol f2 : Addr} (q4 : @LT.lt Nat _ dx x) (q5 : @LT.lt Nat _ x f1) (q6 : @LT.lt Nat _ f1 dcfg) (q7 : @LT.lt Nat _ dcfg dlx) (q8 : @LT.lt Nat _ dlx lx) (q9 : @LT.lt Nat _ lx d) (q10 : @LT.lt Nat _ d le) (q11 : @LT.lt Nat _ le dpar) (q12 : @LT.lt Nat _ dpar ol) (q13 : @LT.lt Nat _ ol f2) : @LT.lt Nat _ dx f1 ∧ @LT.lt Nat _ dx dcfg ∧ @LT.lt Nat _ dx dlx ∧ @LT.lt Nat _ dx lx ∧ @LT.lt Nat _ dx d ∧ @LT.lt Nat _ dx le ∧ @LT.lt Nat _ dx dpar ∧ @LT.lt Nat _ dx ol ∧ @LT.lt Nat _ dx f2 := by
  have h1 := Nat.lt_trans q4 q5
  have h2 := Nat.lt_trans h1 q6
  have h3 := Nat.lt_trans h2 q7
  have h4 := Nat.lt_trans h3 q8
  have h5 := Nat.lt_trans h4 q9
  have h6 := Nat.lt_trans h5 q10
  have h7 := Nat.lt_trans h6 q11
  have h8 := Nat.lt_trans h7 q12
  have h9 := Nat.lt_trans h8 q13
  exact ⟨h1, h2, h3, h4, h5, h6, h7, h8, h9⟩
theorem ltN {a b : Addr} (h : a < b) : @LT.lt Nat _ a b := h
theorem TabOk.mono {T : Array Value} {r r' : List (Addr × Obj)} (h : TabOk T r) (k : ∀ p ∈ r, p ∈ r') : TabOk T r' := by
  rcases h with h | ⟨c1, o1, c2, o2, e, m1, m2, z⟩
  · exact .inl h
  · exact .inr ⟨c1, o1, c2, o2, e, k _ m1, k _ m2, z⟩
theorem code_ne {h₀ h : Heap} {L c b : Addr} {news : List (Addr × Obj)} {o : Obj} {q : Str} {vs : Array Value} {n : Nat} (N : News h₀ L h news) (m1 : (c, o) ∈ news) (i : IsCodeOf o q) (m2 : (b, listOf vs n) ∈ news) : @Ne Nat c b := by
  intro e
  have e : c = b := e
  subst e
  have h1 := (N _ m1).1
  rw [(N _ m2).1] at h1
  obtain ⟨v, t, hd, _⟩ := i
  cases h1
  cases hd
section
variable {w : World} {p : Program} {loose : List Str} {mean : ExcName → Option Value} {mg mb : Str → Option Value} {dp un : Nat} {gd : Option (List Code)} {cn : Str} {cs : Scope} {a : Addr} {ccd : Value} {cl : List (Str × Addr)} {outer : List Env} {A₀ : Around} {base h₀ : Heap} {L : Addr} {m : Str → Option Value}
  {s : Shared} {Q E : Value → Shared → Prop}
theorem fr_fin {rest all : List (Addr × Obj)} {ba la c1 c2 : Addr} {k k' : Int} {tk2 : Tok} {n n' : Nat} {vs : List Value} {o1 o2 : Obj} {P1 P2 P3 P4 P5 P6 P7 P1' P2' P3' P4' P5' P6' P7' : Prop} {r b mv dA dB dC : Bool} {kd : Str} {tok src dc : Array UInt8} {size : Int} {h' : Heap} {tk' : Tok}
  (ret : ∀ h' tk' tk2 c1 o1 c2 o2, Fr h₀ L h' m → News h₀ L h' ((ba, listOf #[.ref la, .int (k + 7) tk2] n) :: (la, listOf vs.toArray n') :: (483, tabObj (psOf c1 c2)) :: (c1, o1) :: (c2, o2) :: rest) → @Ne Nat c1 483 → @Ne Nat c2 483 → IsCodeOf o1 lamQ → IsCodeOf o2 lamQ → Q (.bool true) { s with heap := h', toks := tk' })
  (F : Fr h₀ L h' m) (N : News h₀ L h' all) (m1 : (ba, listOf #[.ref la, .int k' tk2] n) ∈ all) (hk : k' = k + 7) (m2 : (la, listOf vs.toArray n') ∈ all) (m3 : (483, tabObj (psOf c1 c2)) ∈ all) (m4 : (c1, o1) ∈ all) (m5 : (c2, o2) ∈ all) (mr : ∀ p ∈ rest, p ∈ all)
  (z1 : P1 ∧ P2 ∧ P3 ∧ P4 ∧ P5 ∧ P6 ∧ P7 ∧ @Ne Nat c1 483) (z2 : P1' ∧ P2' ∧ P3' ∧ P4' ∧ P5' ∧ P6' ∧ P7' ∧ @Ne Nat c2 483) (i1 : IsCodeOf o1 lamQ) (i2 : IsCodeOf o2 lamQ)
  (e1 : r = isForR b kd tok src dc (isKnown dc) mv size) (e2 : dA = dueA b kd dc) (e3 : dB = dueB b kd src mv dA) (e4 : dC = dueC b kd tok size dB) (hkd : kd = Str.ofString "initial" ∨ kd = Str.ofString "handshake" ∨ kd = Str.ofString "short") (hsz : size = 1200 ∨ size = 1199) : Q (.bool (r == dC)) { s with heap := h', toks := tk' } := by
  rw [e1, e4, e3, e2, fr_law _ _ _ _ _ _ _ hkd hsz]
  subst hk
  exact ret h' tk' tk2 c1 o1 c2 o2 F (fun p hp => N p (by
    revert p
    exact List.forall_mem_cons.mpr ⟨m1, List.forall_mem_cons.mpr ⟨m2, List.forall_mem_cons.mpr ⟨m3, List.forall_mem_cons.mpr ⟨m4, List.forall_mem_cons.mpr ⟨m5, mr⟩⟩⟩⟩⟩)) z1.2.2.2.2.2.2.2 z2.2.2.2.2.2.2.2 i1 i2
end
local macro_rules | `(tactic| k_lt $h:ident) => `(tactic| ((have q7 := ltN ($h (_, listOf #[Value.ref _, Value.int _ _] _) (by k_mem))); (try (have q6 := ltN ($h (_, dictOf _ _) (by k_mem)))); clear $h; (try dsimp only at q7); (try dsimp only at q6)))
section
variable {w : World} {p : Program} {loose : List Str} {mean : ExcName → Option Value} {mg mb : Str → Option Value} {dp un : Nat} {gd : Option (List Code)} {cn : Str} {cs : Scope} {a : Addr} {ccd : Value} {cl : List (Str × Addr)} {outer : List Env} {A₀ : Around} {base h₀ : Heap} {L : Addr} {m : Str → Option Value}
  {s : Shared} {Q E : Value → Shared → Prop}
theorem fr_spec {rest : List (Addr × Obj)} {tb : Array Value} {ba la : Addr} {k : Int} {tk tbx : Tok} {n n' : Nat} {vs : List Value} {ns : List Int}
  (B : Below A₀ base outer h₀) (F : Fr h₀ L s.heap m) (X : (hd.heap_39 w.params).In h₀) (N : News h₀ L s.heap ((ba, listOf #[.ref la, .int k tk] n) :: (la, listOf vs.toArray n') :: (483, tabObj tb) :: rest)) (T : Top p loose mean mg mb h₀) (hk : cs.kind = .function) (codeHd : CodeHd base 487 483)
  (hd : dp + 80 < recursionLimit) (hu : un + 600 < cLine) (hI : IntsAre vs ns) (hlen : ns.length ≤ 30) (ne1 : @Ne Nat la ba) (ne2 : @Ne Nat ba 483) (ne3 : @Ne Nat la 483) (r1 : ∀ p ∈ rest, p.1 ≠ ba) (r2 : ∀ p ∈ rest, p.1 ≠ 483) (hk0 : 0 ≤ k) (hk1 : k ≤ 20) (ht : TabOk tb rest)
  (ret : ∀ h' tk' tk2 c1 o1 c2 o2, Fr h₀ L h' m → News h₀ L h' ((ba, listOf #[.ref la, .int (k + 7) tk2] n) :: (la, listOf vs.toArray n') :: (483, tabObj (psOf c1 c2)) :: (c1, o1) :: (c2, o2) :: rest) → @Ne Nat c1 483 → @Ne Nat c2 483 → IsCodeOf o1 lamQ → IsCodeOf o2 lamQ → Q (.bool true) { s with heap := h', toks := tk' }) :
  wpAny (model PySem.Challenge.rw_rg0255_01.row.prog w) (ktrTop dp un gd cn cs L a ccd cl outer) (call (.ref 495) [.ref ba]) Q E s := by
  k_with_none
  k_with "setAttr ref" => (k_here; k_dflt (refine' set_abs ?k1 ?k2 ?k3 ?k4 ?k5 ?k6 ?k7 ?k8 ?k9 ?k10 ?k11 ?k12 ?U ?_; (case k1 => k_asm); (case k2 => k_asm); (case k3 => k_asm); (case k4 => k_inst); (case k5 => exact rfl); (case k6 => k_is); (case k7 => k_is); (case k8 => k_is); (case k9 => k_is); (case k10 => k_get); (case k11 => with_reducible assumption); (case k12 => first | decide | omega); (case U => k_updF); k_whole); intro h_k9' es_k9' n_k9' F_k9' N_k9' g_k9' f_k9' z_k9'; (try dsimp only at N_k9'); (try k_sweep))
  k_with "binaryOp Mult ref int" => (k_here; (with_reducible show wpAny _ _ (binaryOp Operator.Mult (Value.ref _) (Value.int _ _)) _ _ _); k_dflt (refine' mul_one ?F ?N ?l ?h0 ?h1 ?_; (case F => k_asm); (case N => k_asm); (case l => k_mem); (case h0 => first | decide | omega); (case h1 => first | decide | omega)); intro D_k9' h_k9' F_k9' N_k9' l1_k9; (try k_lt l1_k9))
  k_with "call type:bytes" => (k_here; (with_reducible show wpAny _ _ (call (Value.type "bytes") [Value.ref _]) _ _ _); k_dflt (refine' bytes_rep ?F ?N ?hh ?hl ?h0 ?h1 ?hk ?_; (case F => k_asm); (case N => k_asm); (case hh => exact rfl); (case hl => k_mem); (case h0 => first | decide | omega); (case h1 => first | decide | omega); (case hk => first | decide | omega)); intro h_k9' t_k9' tk_k9' F_k9' N_k9'; (try k_sweep))
  k_with "call ref" => (k_here; (with_reducible show wpAny _ _ (call (Value.ref 481) _) _ _ _); k_dflt (refine' take_use ?B ?F ?X ?N ?T ?hk ?U ?hl ?hd ?hI ?hlen ?hne ?hk0 ?hk1 ?hm0 ?hm1 ?_; (case B => k_asm); (case F => k_asm); (case X => k_asm); (case N => k_asm); (case T => k_asm); (case hk => exact rfl); (case U => k_updF); (case hl => k_mem); (case hd => ktr_room); (case hI => assumption); (case hlen => assumption); (case hne => k_ne); (case hk0 => first | decide | omega); (case hk1 => first | decide | omega); (case hm0 => decide); (case hm1 => decide)); (intro r_k9' t_k9' h_k9' tk_k9' tk2_k9' b0_k9' b1_k9' F_k9' N_k9'; (try dsimp only at N_k9'); (try k_sweep)))
  k_with "call ref" => (k_here; (with_reducible show wpAny _ _ (call (Value.ref 488) _) _ _ _); k_dflt (refine' state_any ?B ?F ?X ?N ?T ?hk ?codeHd ?hd ?hu ?pk ?r1 ?ht ?hlim ?_; (case B => k_asm); (case F => k_asm); (case X => k_asm); (case N => k_asm); (case T => k_asm); (case hk => exact rfl); (case codeHd => assumption); (case hd => ktr_room); (case hu => ktr_units); (case pk => tb_start); (case r1 => ((repeat (refine List.forall_mem_cons.mpr ⟨(by k_ne), ?_⟩)); assumption)); (case ht => (refine TabOk.mono (by assumption) ?_; (intro p_k9 hp_k9; (repeat (first | exact hp_k9 | refine List.mem_cons_of_mem _ ?_))))); (case hlim => decide)); (intro x_k9' dx_k9' lx_k9' dlx_k9' d_k9' le_k9' ol_k9' dcfg_k9' dpar_k9' f1_k9' ce_k9' f2_k9' c1_k9' c2_k9' es_k9' n_k9' n1_k9' n2_k9' o_k9' ocfg_k9' opar_k9' oce_k9' o1_k9' o2_k9' fd1_k9' fd2_k9' t1_k9' t2_k9' t3_k9' t4_k9' t5_k9' t6_k9' t8_k9' t9_k9' kvs_k9' evs_k9' tr_k9' to_k9' ti_k9' ti2_k9' t_k9' h_k9' tk_k9' F_k9' N_k9' st_k9'; obtain ⟨g1_k9', g2_k9', g3_k9', g4_k9', g5_k9', g6_k9', g7_k9', g8_k9', g9_k9', g10_k9', gz_k9', hcfg_k9', hpar_k9', hd0_k9', hlo_k9', hlp_k9', hlc_k9', hk0_k9', he0_k9', cl_k9', ch_k9', i1_k9', i2_k9', q1_k9', q2_k9', q3_k9', q4_k9', q5_k9', q6_k9', q7_k9', q8_k9', q9_k9', q10_k9', q11_k9', q12_k9', q13_k9', u1_k9', u2_k9'⟩ := st_k9'; (try dsimp only at N_k9'); subst hk0_k9' he0_k9'; (have v1' := code_ne N_k9' (by k_mem) i1_k9' (List.mem_cons_of_mem _ (by k_mem) : (_, listOf #[Value.ref _, Value.int _ _] _) ∈ _)); (have v2' := code_ne N_k9' (by k_mem) i2_k9' (List.mem_cons_of_mem _ (by k_mem) : (_, listOf #[Value.ref _, Value.int _ _] _) ∈ _)); (have q1b' := fun p_k9 hp_k9 => Nat.lt_trans (q1_k9' p_k9 hp_k9) q3_k9'); (have s0' := ltN (q1_k9' (_, listOf #[Value.ref _, Value.int _ _] _) (by k_mem))); (try dsimp only at s0'); (have s1' := st_lt s0' q3_k9' q4_k9' q5_k9' q6_k9' q7_k9' q8_k9' q9_k9' q10_k9' q11_k9' q12_k9' q13_k9'); (have s2' := st_lt0 q4_k9' q5_k9' q6_k9' q7_k9' q8_k9' q9_k9' q10_k9' q11_k9' q12_k9' q13_k9'); (repeat ((have w9_k9 := And.left s1'); replace s1' := And.right s1')); (repeat ((have w9_k9 := And.left s2'); replace s2' := And.right s2')); (have u3' := u1_k9'); (have u4' := u2_k9'); (repeat ((have w9_k9 := And.left u3'); replace u3' := And.right u3')); (repeat ((have w9_k9 := And.left u4'); replace u4' := And.right u4')); (replace q1b' := allLt_of q1b'; simp only [AllLt, and_true] at q1b'; (repeat ((have w9_k9 := And.left q1b'); replace q1b' := And.right q1b')); (try (replace q1b' := ktn_ltOf q1b'))); clear q1_k9'; (try k_sweep)))
  k_with "call ref" => (k_here; (with_reducible show wpAny _ _ (call (Value.ref 323) _) _ _ _); k_dflt (refine' raw_spec ?B ?F ?X ?N ?T ?hk ?hd ?hu ?_; (case B => k_asm); (case F => k_asm); (case X => k_asm); (case N => k_asm); (case T => k_asm); (case hk => exact rfl); (case hd => ktr_room); (case hu => ktr_units)); (intro x_k9' dx_k9' es_k9' n_k9' h_k9' tk_k9' u1_k9' u2_k9' F_k9' N_k9' l1_k9 l2_k9 z_k9' g1_k9' g2_k9' g3_k9' g4_k9'; (try dsimp only at N_k9'); (replace l1_k9 := allLt_of l1_k9; simp only [AllLt, and_true] at l1_k9; (repeat ((have w9_k9 := And.left l1_k9); replace l1_k9 := And.right l1_k9)); (try (replace l1_k9 := ktn_ltOf l1_k9))); (try k_sweep)))
  k_with "subscriptTail List" => (k_here; (with_reducible show wpAny _ _ (subscriptTail _ _ (Value.ref _) (Value.int _ _)) _ _ _); k_dflt (refine' item_Z2 ?N ?hl ?hv ?h0 ?h1 ?hf ?_; (case N => k_asm); (case hl => k_mem); (case hv => ((repeat (first | exact AllZ2.nil | (refine AllZ2.cons (by first | decide | omega) ?_))); done)); (case h0 => first | decide | omega); (case h1 => first | decide | omega); (case hf => exact Nat.le_of_ble_eq_true rfl)); intro d_k9' t_k9' z_k9'; (try k_sweep))
  k_with "subscriptTail List" => (k_here; (with_reducible show wpAny _ _ (subscriptTail _ _ (Value.ref _) (Value.int _ _)) _ _ _); k_dflt (refine' item_K3 ?N ?hl ?hv ?h0 ?h1 ?hf ?_; (case N => k_asm); (case hl => k_mem); (case hv => ((repeat (first | exact AllK3.nil | (refine AllK3.cons (by first | exact .inl rfl | exact .inr (.inl rfl) | exact .inr (.inr rfl)) ?_))); done)); (case h0 => first | decide | omega); (case h1 => first | decide | omega); (case hf => exact Nat.le_of_ble_eq_true rfl)); intro d_k9' t_k9' z_k9'; (try k_sweep))
  k_with "subscriptTail List" => (k_here; (with_reducible show wpAny _ _ (subscriptTail _ _ (Value.ref _) (Value.int _ _)) _ _ _); k_dflt (refine' item_B ?N ?hl ?hv ?h0 ?h1 ?hf ?_; (case N => k_asm); (case hl => k_mem); (case hv => ((repeat (first | exact AllB.nil | (refine AllB.cons (by decide) ?_))); done)); (case h0 => first | decide | omega); (case h1 => first | decide | omega); (case hf => exact Nat.le_of_ble_eq_true rfl)); intro d_k9' t_k9' z_k9'; (try k_sweep))
  k_with "exec Assign cons BoolOp" => (k_here; (with_reducible show wpAny _ _ (exec _ _) _ _ _); k_dflt (refine' due_spec ?B ?F ?X ?N ?T ?hk ?hd ?hu ?hm1 ?hm2 ?hm3 ?hfs ?hsc ?_; (case B => k_asm); (case F => k_asm); (case X => k_asm); (case N => k_asm); (case T => k_asm); (case hk => exact rfl); (case hd => ktr_room); (case hu => ktr_units); (case hfs => exact rfl); (case hsc => exact rfl); (case hm1 => exact rfl); (case hm2 => exact rfl); (case hm3 => exact rfl)); (intro h_k9' tk_k9' r_k9' hr_k9' F_k9' N_k9'; (try k_sweep)))
  k_with "exec If" => (k_here; (with_reducible show wpAny _ _ (exec _ _) _ _ _); k_dflt (refine' if1_spec ?B ?F ?X ?N ?T ?hk ?hd ?hu ?x1 ?x2 ?g5 ?hm1 ?hm2 ?hm3 ?hm4 ?hm5 ?hfs ?hsc ?_; (case B => k_asm); (case F => k_asm); (case X => k_asm); (case N => k_asm); (case T => k_asm); (case hk => exact rfl); (case hd => ktr_room); (case hu => ktr_units); (case hfs => exact rfl); (case hsc => exact rfl); (case hm4 => exact rfl); (case x1 => k_mem); (case x2 => k_mem); (case g5 => k_get); (case hm1 => exact rfl); (case hm2 => exact rfl); (case hm3 => exact rfl); (case hm5 => exact rfl)); (intro h_k9' tk_k9' r_k9' hr_k9' F_k9' N_k9'; (try k_sweep)))
  k_with "exec If" => (k_here; (with_reducible show wpAny _ _ (exec _ _) _ _ _); k_dflt (refine' if2_spec ?B ?F ?X ?N ?T ?hk ?hd ?hu ?x1 ?x2 ?g5 ?hm1 ?hm2 ?hm3 ?hm4 ?hm5 ?hfs ?hsc ?_; (case B => k_asm); (case F => k_asm); (case X => k_asm); (case N => k_asm); (case T => k_asm); (case hk => exact rfl); (case hd => ktr_room); (case hu => ktr_units); (case hfs => exact rfl); (case hsc => exact rfl); (case hm2 => exact rfl); (case x1 => k_mem); (case x2 => k_mem); (case g5 => k_get); (case hm1 => exact rfl); (case hm4 => exact rfl); (case hm3 => exact rfl); (case hm5 => exact rfl)); (intro h_k9' tk_k9' r_k9' hr_k9' F_k9' N_k9'; (try k_sweep)))
  k_with "call ref" => (k_here; (with_reducible show wpAny _ _ (call (Value.ref 224) _) _ _ _); k_dflt (refine' isfor_spec ?B ?F ?X ?N ?T ?hk ?codeHd ?hd ?hu ?x1 ?x2 ?m1 ?m2 ?m3 ?x3 ?x4 ?x5 ?x6 ?x7 ?x8 ?hd0 ?hlo ?hcfg ?hlc ?cl ?g1 ?g2 ?g3 ?g4 ?g5 ?g6 ?k1 ?k2 ?k3 ?k4 ?hz ?hkd ?_; (case B => k_asm); (case F => k_asm); (case X => k_asm); (case N => k_asm); (case T => k_asm); (case hk => exact rfl); (case hd => ktr_room); (case hu => ktr_units); (case codeHd => assumption); (case x1 => k_mem); (case x2 => k_mem); (case g1 => k_get); (case g3 => k_get); (case g4 => k_get); (case g2 => k_get); (case g5 => k_get); (case g6 => k_get); (case x4 => k_mem); (case m1 => k_mem); (case m2 => k_mem); (case m3 => k_mem); (case x3 => k_mem); (case hcfg => assumption); (case hd0 => assumption); (case hlo => assumption); (case hlc => assumption); (case cl => assumption); (case x5 => k_mem); (case x6 => k_mem); (case x7 => k_mem); (case x8 => k_mem); (case k1 => k_get); (case k2 => k_get); (case k3 => k_get); (case k4 => k_get); (case hz => assumption); (case hkd => assumption)); (intro r_k9' h_k9' tk_k9' hr_k9' F_k9' N_k9'; (try k_sweep)))
  revert X ret; k_fill; intro X ret
  obtain ⟨k9, n9, g9, c9, e9⟩ := cs
  dsimp only at hk
  subst hk
  refine wpAny_call ?_
  k_dflt k_enter
  k_steps
  refine' fr_fin ret ?F ?N ?m1 ?hk ?m2 ?m3 ?m4 ?m5 ?mr ?z1 ?z2 ?i1 ?i2 ?e1 ?e2 ?e3 ?e4 ?hkd ?hsz
  case F => assumption
  case N => assumption
  case m1 => k_mem
  case hk => omega
  case m2 => k_mem
  case m3 => k_mem
  case m4 => k_mem
  case m5 => k_mem
  case mr => (intro p hp; (repeat (first | exact hp | refine List.mem_cons_of_mem _ ?_)))
  case z1 => assumption
  case z2 => assumption
  case i1 => assumption
  case i2 => assumption
  case e1 => assumption
  case e2 => assumption
  case e3 => assumption
  case e4 => assumption
  case hkd => assumption
  case hsz => assumption
end
end Mine
end
section
namespace Mine
theorem memTab {T : Array Value} {l : List (Addr × Obj)} (h : (483, tabObj T) ∈ l) : (483, tabObj T) ∈ l := h
theorem news_nil {h₀ h : Heap} {L : Addr} {m : Str → Option Value} (F : Fr h₀ L h m) : News h₀ L h [] := fun _ hp => nomatch hp
theorem get_I {w : World} {A : Around} {E : Value → Shared → Prop} {s : Shared} {h₀ : Heap} {L d : Addr} {news : List (Addr × Obj)} {o : Obj} {kvs : List (Int × Value)} {k : Int} {t : Tok} {v : Value} {Q : Value → Shared → Prop} (N : News h₀ L s.heap news) (hp : (d, o) ∈ news) (hd : o.IsDictOf (PySem.intKind PySem.Challenge.rw_rg0255_01.row.prog w) kvs) (hl : PySem.valueAt kvs k = some v) (h : Q v { s with toks := s.toks + 1 }) :
    wpAny (model PySem.Challenge.rw_rg0255_01.row.prog w) A (getItem (.ref d) (.int k t)) Q E s := wpAny_getItem_of (intKind_is _ _ _ _) (kda_dict N hp hd).mapOf hl h
theorem cid_valueI {t : Nat → Tok} {lim i : Int} (h0 : 0 ≤ i) (h1 : i < lim) : PySem.valueAt (cidKvs t lim.toNat) i = some (.bytes (cidB i) (t i.toNat)) := by
  obtain ⟨j, rfl⟩ := Int.eq_ofNat_of_zero_le h0
  exact cid_value (by omega)
theorem code_cell {h₀ h : Heap} {L c b : Addr} {news : List (Addr × Obj)} {o ob : Obj} {q : Str} {v : Option Value} (N : News h₀ L h news) (m1 : (c, o) ∈ news) (i : IsCodeOf o q) (m2 : (b, ob) ∈ news) (hd : ob.data = .cell v) : @Ne Nat c b := by
  intro e
  have e : c = b := e
  subst e
  have h1 := (N _ m1).1
  rw [(N _ m2).1] at h1
  obtain ⟨v', t, hdd, _⟩ := i
  cases h1
  rw [hd] at hdd
  cases hdd
theorem cell_lt1 {h₀ h : Heap} {L ce : Addr} {m : Str → Option Value} {news : List (Addr × Obj)} {ob : Obj} (F : Fr h₀ L h m) (q : ∀ p ∈ news, p.1 < ce) (mm : (L + 1, ob) ∈ news) : @LT.lt Nat _ (L + 1) ce := q _ mm
theorem cell_lt2 {h₀ h : Heap} {L ce : Addr} {m : Str → Option Value} {news : List (Addr × Obj)} {ob : Obj} (F : Fr h₀ L h m) (q : ∀ p ∈ news, p.1 < ce) (mm : (L + 1 + 1, ob) ∈ news) : @LT.lt Nat _ (L + 1 + 1) ce := q _ mm
theorem code_cell1 {h₀ h : Heap} {L c : Addr} {m : Str → Option Value} {news : List (Addr × Obj)} {o ob : Obj} {q : Str} {v : Option Value} (F : Fr h₀ L h m) (N : News h₀ L h news) (m1 : (c, o) ∈ news) (i : IsCodeOf o q) (m2 : (L + 1, ob) ∈ news) (hd : ob.data = .cell v) : @Ne Nat c (L + 1) := code_cell N m1 i m2 hd
theorem code_cell2 {h₀ h : Heap} {L c : Addr} {m : Str → Option Value} {news : List (Addr × Obj)} {o ob : Obj} {q : Str} {v : Option Value} (F : Fr h₀ L h m) (N : News h₀ L h news) (m1 : (c, o) ∈ news) (i : IsCodeOf o q) (m2 : (L + 1 + 1, ob) ∈ news) (hd : ob.data = .cell v) : @Ne Nat c (L + 1 + 1) := code_cell N m1 i m2 hd
section
variable {w : World} {p : Program} {loose : List Str} {mean : ExcName → Option Value} {mg mb : Str → Option Value} {dp un : Nat} {gd : Option (List Code)} {cn : Str} {cs : Scope} {a : Addr} {ccd : Value} {cl : List (Str × Addr)} {outer : List Env} {A₀ : Around} {base h₀ : Heap} {L : Addr} {m : Str → Option Value}
  {s : Shared} {Q E : Value → Shared → Prop}
local macro_rules | `(tactic| k_lt $h:ident) => `(tactic| ((have q7 := ltN ($h (_, listOf #[Value.ref _, Value.int _ _] _) (by k_mem))); (try (have q6 := ltN ($h (_, dictOf _ _) (by k_mem)))); clear $h; (try dsimp only at q7); (try dsimp only at q6)))
theorem rr_spec {rest : List (Addr × Obj)} {tb : Array Value} {ba la : Addr} {k : Int} {tk tbx : Tok} {n n' : Nat} {vs : List Value} {ns : List Int}
  (B : Below A₀ base [] h₀) (F : Fr h₀ L s.heap m) (X : (hd.heap_39 w.params).In h₀) (N : News h₀ L s.heap ((ba, listOf #[.ref la, .int k tk] n) :: (la, listOf vs.toArray n') :: (483, tabObj tb) :: rest)) (T : Top p loose mean mg mb h₀) (hk : cs.kind = .function) (codeHd : CodeHd base 487 483) (XB : (hd.heap_39 w.params).In base) (TB : Top p loose mean mg mb base)
  (hd : dp + 240 < recursionLimit) (hu : un + 1800 < cLine) (hI : IntsAre vs ns) (hlen : ns.length ≤ 30) (ne1 : @Ne Nat la ba) (ne2 : @Ne Nat ba 483) (ne3 : @Ne Nat la 483) (r1 : ∀ p ∈ rest, p.1 ≠ ba) (r2 : ∀ p ∈ rest, p.1 ≠ 483) (hk0 : 0 ≤ k) (hk1 : k ≤ 20) (ht : TabOk tb rest)
  (ret : ∀ h' tk' T', Fr h₀ L h' m → News h₀ L h' [(483, tabObj T')] → Q (.bool true) { s with heap := h', toks := tk' }) :
  wpAny (model PySem.Challenge.rw_rg0255_01.row.prog w) (ktrTop dp un gd cn cs L a ccd [] []) (call (.ref 500) [.ref ba]) Q E s := by
  k_with_none
  k_with "call ref" => (k_here; (with_reducible show wpAny _ _ (call (Value.ref 481) _) _ _ _); k_dflt (refine' take_use ?B ?F ?X ?N ?T ?hk ?U ?hl ?hd ?hI ?hlen ?hne ?hk0 ?hk1 ?hm0 ?hm1 ?_; (case B => k_asm); (case F => k_asm); (case X => k_asm); (case N => k_asm); (case T => k_asm); (case hk => exact rfl); (case U => k_updF); (case hl => k_mem); (case hd => ktr_room); (case hI => assumption); (case hlen => assumption); (case hne => k_ne); (case hk0 => first | decide | omega); (case hk1 => first | decide | omega); (case hm0 => first | decide | omega); (case hm1 => first | decide | omega)); (intro r_k9' t_k9' h_k9' tk_k9' tk2_k9' b0_k9' b1_k9' F_k9' N_k9'; (try dsimp only at N_k9'); (try k_sweep)))
  k_with "call ref" => (k_here; (with_reducible show wpAny _ _ (call (Value.ref 488) _) _ _ _); k_dflt (refine' state_any ?B ?F ?X ?N ?T ?hk ?codeHd ?hd ?hu ?pk ?r1 ?ht ?hlim ?_; (case B => k_asm); (case F => k_asm); (case X => k_asm); (case N => k_asm); (case T => k_asm); (case hk => exact rfl); (case codeHd => assumption); (case hd => ktr_room); (case hu => ktr_units); (case pk => tb_start); (case r1 => ((repeat (refine List.forall_mem_cons.mpr ⟨(by k_ne), ?_⟩)); assumption)); (case ht => (refine TabOk.mono (by assumption) ?_; (intro p_k9 hp_k9; (repeat (first | exact hp_k9 | refine List.mem_cons_of_mem _ ?_))))); (case hlim => exact ⟨by omega, by omega⟩)); (intro x_k9' dx_k9' lx_k9' dlx_k9' d_k9' le_k9' ol_k9' dcfg_k9' dpar_k9' f1_k9' ce_k9' f2_k9' c1_k9' c2_k9' es_k9' n_k9' n1_k9' n2_k9' o_k9' ocfg_k9' opar_k9' oce_k9' o1_k9' o2_k9' fd1_k9' fd2_k9' t1_k9' t2_k9' t3_k9' t4_k9' t5_k9' t6_k9' t8_k9' t9_k9' kvs_k9' evs_k9' tr_k9' to_k9' ti_k9' ti2_k9' t_k9' h_k9' tk_k9' F_k9' N_k9' st_k9'; obtain ⟨g1_k9', g2_k9', g3_k9', g4_k9', g5_k9', g6_k9', g7_k9', g8_k9', g9_k9', g10_k9', gz_k9', hcfg_k9', hpar_k9', hd0_k9', hlo_k9', hlp_k9', hlc_k9', hk0_k9', he0_k9', cl_k9', ch_k9', i1_k9', i2_k9', q1_k9', q2_k9', q3_k9', q4_k9', q5_k9', q6_k9', q7_k9', q8_k9', q9_k9', q10_k9', q11_k9', q12_k9', q13_k9', u1_k9', u2_k9'⟩ := st_k9'; (try dsimp only at N_k9'); subst hk0_k9' he0_k9'; (have v1' := code_ne N_k9' (by k_mem) i1_k9' (List.mem_cons_of_mem _ (by k_mem) : (_, listOf #[Value.ref _, Value.int _ _] _) ∈ _)); (have v2' := code_ne N_k9' (by k_mem) i2_k9' (List.mem_cons_of_mem _ (by k_mem) : (_, listOf #[Value.ref _, Value.int _ _] _) ∈ _)); (have v3' := code_cell1 F_k9' N_k9' (by k_mem) i1_k9' (by k_mem) (by assumption)); (have v4' := code_cell2 F_k9' N_k9' (by k_mem) i1_k9' (by k_mem) (by assumption)); (have v5' := code_cell1 F_k9' N_k9' (by k_mem) i2_k9' (by k_mem) (by assumption)); (have v6' := code_cell2 F_k9' N_k9' (by k_mem) i2_k9' (by k_mem) (by assumption)); (have q1b' := fun p_k9 hp_k9 => Nat.lt_trans (q1_k9' p_k9 hp_k9) q3_k9'); (have s0' := ltN (q1_k9' (_, listOf #[Value.ref _, Value.int _ _] _) (by k_mem))); (try dsimp only at s0'); (have s1' := st_lt s0' q3_k9' q4_k9' q5_k9' q6_k9' q7_k9' q8_k9' q9_k9' q10_k9' q11_k9' q12_k9' q13_k9'); (have s2' := st_lt0 q4_k9' q5_k9' q6_k9' q7_k9' q8_k9' q9_k9' q10_k9' q11_k9' q12_k9' q13_k9'); (repeat ((have w9_k9 := And.left s1'); replace s1' := And.right s1')); (repeat ((have w9_k9 := And.left s2'); replace s2' := And.right s2')); (have u3' := u1_k9'); (have u4' := u2_k9'); (repeat ((have w9_k9 := And.left u3'); replace u3' := And.right u3')); (repeat ((have w9_k9 := And.left u4'); replace u4' := And.right u4')); (replace q1b' := allLt_of q1b'; simp only [AllLt, and_true] at q1b'; (repeat ((have w9_k9 := And.left q1b'); replace q1b' := And.right q1b')); (try (replace q1b' := ktn_ltOf q1b'))); (have s3' := cell_lt1 F_k9' q1_k9' (by k_mem)); (have s4' := st_lt s3' q3_k9' q4_k9' q5_k9' q6_k9' q7_k9' q8_k9' q9_k9' q10_k9' q11_k9' q12_k9' q13_k9'); (repeat ((have w9_k9 := And.left s4'); replace s4' := And.right s4')); (have s5' := cell_lt2 F_k9' q1_k9' (by k_mem)); (have s6' := st_lt s5' q3_k9' q4_k9' q5_k9' q6_k9' q7_k9' q8_k9' q9_k9' q10_k9' q11_k9' q12_k9' q13_k9'); (repeat ((have w9_k9 := And.left s6'); replace s6' := And.right s6')); clear q1_k9'; (try k_sweep)))
  k_with "call ref" => (k_here; (with_reducible show wpAny _ _ (call (Value.ref 323) _) _ _ _); k_dflt (refine' raw_spec ?B ?F ?X ?N ?T ?hk ?hd ?hu ?_; (case B => k_asm); (case F => k_asm); (case X => k_asm); (case N => k_asm); (case T => k_asm); (case hk => exact rfl); (case hd => ktr_room); (case hu => ktr_units)); (intro x_k9' dx_k9' es_k9' n_k9' h_k9' tk_k9' u1_k9' u2_k9' F_k9' N_k9' l1_k9 l2_k9 z_k9' g1_k9' g2_k9' g3_k9' g4_k9'; (try dsimp only at N_k9'); (replace l1_k9 := allLt_of l1_k9; simp only [AllLt, and_true] at l1_k9; (repeat ((have w9_k9 := And.left l1_k9); replace l1_k9 := And.right l1_k9)); (try (replace l1_k9 := ktn_ltOf l1_k9))); (try k_sweep)))
  k_with "getItem ref int" => (k_here; k_dflt (refine' get_I ?N ?hp ?hd ?hl ?_; (case N => k_asm); (case hp => k_mem); (case hd => assumption); (case hl => exact cid_valueI (by omega) (by omega))))
  k_with "exec For Name Call cons nil" => (k_here; k_dflt (refine' rr_forX ?G ?XB ?TB ?codeHd ?hLa ?T0 ?F ?N ?hk ?hd ?hu ?x1 ?x2 ?x4 ?x5 ?x3 ?x6 ?x7 ?x8 ?g2 ?g4 ?g6 ?g7 ?g8 ?k2 ?hpar ?hlp ?ch ?hd0 ?hlo ?i1 ?i2 ?i3 ?i4 ?i5 ?xt ?qt ?q1 ?q2 ?q3 ?q4 ?q5 ?q6 ?q7 ?q8 ?q9 ?q10 ?q11 ?q12 ?q13 ?u2 ?c1 ?c2 ?c3 ?c4 ?hm1 ?hm2 ?hm3 ?hm5 ?hl2 ?hl4 ?hg0 ?hg1 ?hu0 ?hu1 ?hev ?hfs ?hsc ?_; (case F => k_asm); (case G => assumption); (case XB => assumption); (case TB => assumption); (case codeHd => assumption); (case hLa => assumption); (case T0 => exact KtsTurn.refl); (case N => k_asm); (case hk => exact rfl); (case hd => omega); (case hu => omega); (case hfs => exact rfl); (case hsc => exact rfl); (case hm1 => first | (simp; done) | (with_unfolding_all exact rfl)); (case hm2 => first | (simp; done) | (with_unfolding_all exact rfl)); (case hm3 => first | (simp; done) | (with_unfolding_all exact rfl)); (case hm5 => first | (simp; done) | (with_unfolding_all exact rfl)); (case x1 => k_mem); (case x2 => k_mem); (case g4 => assumption); (case g6 => assumption); (case g7 => assumption); (case g8 => assumption); (case g2 => assumption); (case i1 => k_mem); (case i2 => k_mem); (case i3 => k_mem); (case i4 => k_mem); (case i5 => k_mem); (case x3 => k_mem); (case x6 => k_mem); (case hpar => assumption); (case hlp => assumption); (case ch => assumption); (case x7 => k_mem); (case hd0 => assumption); (case hlo => assumption); (case hev => exact rfl); (case x4 => k_mem); (case x5 => k_mem); (case k2 => assumption); (case x8 => k_mem); (case c1 => k_mem); (case c3 => k_mem); (case c2 => assumption); (case c4 => assumption); (case u2 => assumption); (case xt => (refine' memTab ?h9; (case h9 => k_mem))); (case qt => first | assumption | omega); (case q3 => first | assumption | omega); (case q4 => first | assumption | omega); (case q5 => first | assumption | omega); (case q6 => first | assumption | omega); (case q7 => first | assumption | omega); (case q8 => first | assumption | omega); (case q9 => first | assumption | omega); (case q10 => first | assumption | omega); (case q11 => first | assumption | omega); (case q12 => first | assumption | omega); (case q13 => first | assumption | omega); (case q1 => first | assumption | omega); (case q2 => first | assumption | omega); (case hl2 => omega); (case hl4 => omega); (case hg0 => omega); (case hg1 => omega); (case hu0 => omega); (case hu1 => omega)); (intro g9_k9 h_k9' tk_k9' m9_k9 T9_k9 F9_k9 N9_k9'))
  revert X ret; k_fill; intro X ret
  obtain ⟨k9, n9, g9, c9, e9⟩ := cs
  dsimp only at hk
  subst hk
  refine wpAny_call ?_
  refine' code_defCS0 ?k1 ?k2 ?k3 ?k4 ?k5 ?kA ?k6 ?k7 ?k8 ?k9 ?kB ?kD ?_ ?cK ?c2 ?c3 ?c4
  case k1 => k_asm
  case k2 => k_asm
  case k3 => k_asm
  case k4 => k_asm
  case k5 => k_asm
  case kA => exact rfl
  case k6 => k_is
  case k7 => k_is
  case k8 => k_room
  case k9 => exact BindsTo.of_eq rfl
  case kB => exact rfl
  case kD => decide +kernel
  case cK => exact rfl
  case c2 => exact rfl
  case c3 => exact rfl
  case c4 => exact rfl
  k_whole
  intro g' L' h' tk' cells' FG' F' N' Y' B' X' T' D' l1
  k_cells Y'
  (try simp only [List.cons_append, List.nil_append] at N')
  (try dsimp only)
  (try k_lift B')
  (try k_fold)
  have b1 : @LT.lt Nat _ ba L' := l1 _ List.mem_cons_self
  have b2 : @LT.lt Nat _ la L' := l1 _ (List.mem_cons_of_mem _ List.mem_cons_self)
  have b3 : @LT.lt Nat _ 483 L' := l1 _ (List.mem_cons_of_mem _ (List.mem_cons_of_mem _ List.mem_cons_self))
  have b4 : ∀ p ∈ rest, p.1 < L' := fun p hp => l1 p (List.mem_cons_of_mem _ (List.mem_cons_of_mem _ (List.mem_cons_of_mem _ hp)))
  have b5 : ∀ p ∈ rest, p.1 ≠ L' + 1 := fun p hp => Nat.ne_of_lt (Nat.lt_succ_of_lt (b4 p hp))
  have b6 : ∀ p ∈ rest, p.1 ≠ L' + 1 + 1 := fun p hp => Nat.ne_of_lt (Nat.lt_succ_of_lt (Nat.lt_succ_of_lt (b4 p hp)))
  clear l1
  have G9 : Gr _ base _ (Mine.hd.heap_39 w.params) p loose mean mg mb g' := ⟨B', X', T', D'⟩
  obtain ⟨oL, esL, epL, hLa9, hLd9⟩ := D' L List.mem_cons_self
  k_steps
  exact ret _ _ _ (by assumption) (by assumption)
end
end Mine
end
section
namespace Mine
theorem itIn {I : Addr} {a b : Int} {l : List (Addr × Obj)} (h : (I, itR a b) ∈ l) : (I, itR a b) ∈ l := h
theorem itFields {a b : Int} {q : Str} : ¬ IsCodeOf (itR a b) q := fun ⟨vs, t, h, e⟩ => by
  cases h
  cases e
theorem code_ne_it {h₀ h : Heap} {L c b : Addr} {news : List (Addr × Obj)} {o ob : Obj} {q : Str} (N : News h₀ L h news) (m1 : (c, o) ∈ news) (i : IsCodeOf o q) (m2 : (b, ob) ∈ news) (hd : ¬ IsCodeOf ob q) : @Ne Nat c b := by
  intro e
  have e : c = b := e
  subst e
  have h1 := (N _ m1).1
  rw [(N _ m2).1] at h1
  cases h1
  exact hd i
section
variable {w : World} {p : Program} {loose : List Str} {mean : ExcName → Option Value} {mg mb : Str → Option Value} {dp un : Nat} {gd : Option (List Code)} {cn : Str} {cs : Scope} {a : Addr} {ccd : Value} {cl : List (Str × Addr)} {outer : List Env} {A₀ : Around} {base h₀ : Heap} {L : Addr} {m : Str → Option Value}
  {s : Shared} {Q E : Value → Shared → Prop}
theorem fr_use {news ra rb rest : List (Addr × Obj)} {tb : Array Value} {ba la I : Addr} {it : Obj} {k : Int} {tk : Tok} {n n' : Nat} {vs : List Value} {ns : List Int}
  (B : Below A₀ base outer h₀) (F : Fr h₀ L s.heap m) (X : (hd.heap_39 w.params).In h₀) (N : News h₀ L s.heap news) (T : Top p loose mean mg mb h₀) (hk : cs.kind = .function) (codeHd : CodeHd base 487 483)
  (p1 : Pick ba (listOf #[.ref la, .int k tk] n) news ra) (p2 : Pick la (listOf vs.toArray n') ra rb) (p3 : Pick 483 (tabObj tb) rb rest) (mI : (I, it) ∈ rest) (hI9 : ¬ IsCodeOf it lamQ)
  (hd : dp + 80 < recursionLimit) (hu : un + 600 < cLine) (hI : IntsAre vs ns) (hlen : ns.length ≤ 30) (ne1 : @Ne Nat la ba) (ne2 : @Ne Nat ba 483) (ne3 : @Ne Nat la 483) (r1 : ∀ p ∈ rest, p.1 ≠ ba) (r2 : ∀ p ∈ rest, p.1 ≠ 483) (hk0 : 0 ≤ k) (hk1 : k ≤ 20) (ht : TabOk tb rest)
  (ret : ∀ h' tk' tk2 c1 o1 c2 o2, Fr h₀ L h' m → News h₀ L h' ((ba, listOf #[.ref la, .int (k + 7) tk2] n) :: (la, listOf vs.toArray n') :: (483, tabObj (psOf c1 c2)) :: (c1, o1) :: (c2, o2) :: rest) → @Ne Nat c1 483 → @Ne Nat c2 483 → @Ne Nat c1 ba → @Ne Nat c2 ba → @Ne Nat c1 I → @Ne Nat c2 I → TabOk (psOf c1 c2) [(c1, o1), (c2, o2)] → Q (.bool true) { s with heap := h', toks := tk' }) :
  wpAny (model PySem.Challenge.rw_rg0255_01.row.prog w) (ktrTop dp un gd cn cs L a ccd cl outer) (call (.ref 495) [.ref ba]) Q E s := by
  refine fr_spec (tbx := tk) (tk := tk) (n := n) (n' := n') B F X (fun q hq => ?_) T hk codeHd hd hu hI hlen ne1 ne2 ne3 r1 r2 hk0 hk1 ht ?_
  · rcases List.mem_cons.mp hq with rfl | hq
    · exact N _ p1.it
    rcases List.mem_cons.mp hq with rfl | hq
    · exact N _ (p1.up _ p2.it)
    rcases List.mem_cons.mp hq with rfl | hq
    · exact N _ (p1.up _ (p2.up _ p3.it))
    · exact N _ (p1.up _ (p2.up _ (p3.up _ hq)))
  · intro h' tk' tk2 c1 o1 c2 o2 F' N' z1 z2 i1 i2
    have m1 : (c1, o1) ∈ (ba, listOf #[Value.ref la, .int (k + 7) tk2] n) :: (la, listOf vs.toArray n') :: (483, tabObj (psOf c1 c2)) :: (c1, o1) :: (c2, o2) :: rest := .tail _ (.tail _ (.tail _ (.head _)))
    have m2 : (c2, o2) ∈ (ba, listOf #[Value.ref la, .int (k + 7) tk2] n) :: (la, listOf vs.toArray n') :: (483, tabObj (psOf c1 c2)) :: (c1, o1) :: (c2, o2) :: rest := .tail _ (.tail _ (.tail _ (.tail _ (.head _))))
    have m3 : (I, it) ∈ (ba, listOf #[Value.ref la, .int (k + 7) tk2] n) :: (la, listOf vs.toArray n') :: (483, tabObj (psOf c1 c2)) :: (c1, o1) :: (c2, o2) :: rest := .tail _ (.tail _ (.tail _ (.tail _ (.tail _ mI))))
    exact ret h' tk' tk2 c1 o1 c2 o2 F' N' z1 z2 (code_ne N' m1 i1 (.head _)) (code_ne N' m2 i2 (.head _)) (code_ne_it N' m1 i1 m3 hI9) (code_ne_it N' m2 i2 m3 hI9) (.inr ⟨c1, o1, c2, o2, rfl, .head _, .tail _ (.head _), z1, z2, i1, i2⟩)
theorem rr_use {news ra rb rest : List (Addr × Obj)} {tb : Array Value} {ba la : Addr} {k : Int} {tk : Tok} {n n' : Nat} {vs : List Value} {ns : List Int}
  (B : Below A₀ base [] h₀) (F : Fr h₀ L s.heap m) (X : (hd.heap_39 w.params).In h₀) (N : News h₀ L s.heap news) (T : Top p loose mean mg mb h₀) (hk : cs.kind = .function) (codeHd : CodeHd base 487 483) (XB : (hd.heap_39 w.params).In base) (TB : Top p loose mean mg mb base)
  (p1 : Pick ba (listOf #[.ref la, .int k tk] n) news ra) (p2 : Pick la (listOf vs.toArray n') ra rb) (p3 : Pick 483 (tabObj tb) rb rest)
  (hd : dp + 240 < recursionLimit) (hu : un + 1800 < cLine) (hI : IntsAre vs ns) (hlen : ns.length ≤ 30) (ne1 : @Ne Nat la ba) (ne2 : @Ne Nat ba 483) (ne3 : @Ne Nat la 483) (r1 : ∀ p ∈ rest, p.1 ≠ ba) (r2 : ∀ p ∈ rest, p.1 ≠ 483) (hk0 : 0 ≤ k) (hk1 : k ≤ 20) (ht : TabOk tb rest)
  (ret : ∀ h' tk' T', Fr h₀ L h' m → News h₀ L h' [(483, tabObj T')] → Q (.bool true) { s with heap := h', toks := tk' }) :
  wpAny (model PySem.Challenge.rw_rg0255_01.row.prog w) (ktrTop dp un gd cn cs L a ccd [] []) (call (.ref 500) [.ref ba]) Q E s := by
  refine rr_spec (tbx := tk) (tk := tk) (n := n) (n' := n') B F X (fun q hq => ?_) T hk codeHd XB TB hd hu hI hlen ne1 ne2 ne3 r1 r2 hk0 hk1 ht ret
  rcases List.mem_cons.mp hq with rfl | hq
  · exact N _ p1.it
  rcases List.mem_cons.mp hq with rfl | hq
  · exact N _ (p1.up _ p2.it)
  rcases List.mem_cons.mp hq with rfl | hq
  · exact N _ (p1.up _ (p2.up _ p3.it))
  · exact N _ (p1.up _ (p2.up _ (p3.up _ hq)))
end
end Mine
end
section
namespace Mine
section
variable {w : World} {p : Program} {loose : List Str} {mean : ExcName → Option Value} {mg mb : Str → Option Value} {dp un : Nat} {gd : Option (List Code)} {cn : Str} {cs : Scope} {a : Addr} {ccd : Value} {cl : List (Str × Addr)} {outer : List Env} {A₀ : Around} {base h₀ : Heap} {L : Addr} {m : Str → Option Value}
  {s : Shared} {Q E : Value → Shared → Prop}
end
section
theorem law_holds : PySem.Challenge.rw_rg0255_01.Holds := by
  w_on
  refine holds_law zsaid fun said => ?_
  refine holds_open (q := Mine.hd.view_39) (loose := []) (Xt := zX) (XP := XL Mine.hd.view_39 []) (Yf := Hook.obs (kmHook Mine.hd.heap_39 addrs addrs_ok [483])) (Ya := Hook.val (kmHook Mine.hd.heap_39 addrs addrs_ok [483])) (YP := Hook.says (kmHook Mine.hd.heap_39 addrs addrs_ok [483])) (N := 6624) left (Hook.of (kmHook Mine.hd.heap_39 addrs addrs_ok [483])) (Hook.keeps (kmHook Mine.hd.heap_39 addrs addrs_ok [483])) (fun s e => xl_of s (Bool.and_eq_true_iff.mp e).1) XL.keeps (by rfl) (by rfl) (by rfl) (fun s e => recFacts_of (Bool.and_eq_true_iff.mp e).2) (by rfl) said zok ⟨rfl, rfl, rfl, rfl, rfl, by decide +kernel⟩ ?hw ?hc
  case hw => w_witness2
  k_with_none
  k_with "UnrEnd" => (refine' unr_pick ?F ?N ?pk ?off ?_; (case F => assumption); (case N => assumption); (case pk => tb_start); (case off => ((repeat (refine List.forall_mem_cons.mpr ⟨(by k_ne), ?_⟩)); (first | exact List.forall_mem_nil _ | exact fun p hp => Nat.ne_of_lt ((by assumption : ∀ p ∈ _, p.1 < _) p hp)))))
  k_with "call ref" => (k_here; (with_reducible show wpAny _ _ (call (Value.ref 495) _) _ _ _); k_dflt (refine' fr_use ?B ?F ?X ?N ?T ?hk ?codeHd ?p1 ?p2 ?p3 ?mI ?hI9 ?hd ?hu ?hI ?hlen ?ne1 ?ne2 ?ne3 ?r1 ?r2 ?hk0 ?hk1 ?ht ?_; (case B => k_asm); (case F => k_asm); (case X => k_asm); (case N => k_asm); (case T => k_asm); (case hk => exact rfl); (case codeHd => assumption); (case hd => ktr_room); (case hu => ktr_units); (case p1 => tb_start); (case p2 => tb_start); (case p3 => tb_start); (case hI => assumption); (case hlen => first | assumption | omega); (case ne1 => k_ne); (case ne2 => k_ne); (case ne3 => k_ne); (case r1 => ((repeat (refine List.forall_mem_cons.mpr ⟨(by k_ne), ?_⟩)); exact List.forall_mem_nil _)); (case r2 => ((repeat (refine List.forall_mem_cons.mpr ⟨(by k_ne), ?_⟩)); exact List.forall_mem_nil _)); (case hk0 => first | decide | omega); (case hk1 => first | decide | omega); (case ht => first | exact Or.inl rfl | (refine TabOk.mono (by assumption) ?_; exact List.forall_mem_cons.mpr ⟨by k_mem, List.forall_mem_cons.mpr ⟨by k_mem, List.forall_mem_nil _⟩⟩)); (case mI => exact itIn (by k_mem)); (case hI9 => exact itFields)); (intro h_k9' tk_k9' tk2_k9' c1_k9' o1_k9' c2_k9' o2_k9' F_k9' N_k9' z1_k9' z2_k9' z3_k9' z4_k9' z5_k9' z6_k9' t9_k9'; (try k_sweep)))
  k_with "call ref" => (k_here; (with_reducible show wpAny _ _ (call (Value.ref 500) _) _ _ _); k_dflt (refine' rr_use ?B ?F ?X ?N ?T ?hk ?codeHd ?XB ?TB ?p1 ?p2 ?p3 ?hd ?hu ?hI ?hlen ?ne1 ?ne2 ?ne3 ?r1 ?r2 ?hk0 ?hk1 ?ht ?_; (case B => k_asm); (case F => k_asm); (case X => k_asm); (case N => k_asm); (case T => k_asm); (case hk => exact rfl); (case codeHd => assumption); (case hd => ktr_room); (case hu => ktr_units); (case p1 => tb_start); (case p2 => tb_start); (case p3 => tb_start); (case hI => assumption); (case hlen => first | assumption | omega); (case ne1 => k_ne); (case ne2 => k_ne); (case ne3 => k_ne); (case r1 => ((repeat (refine List.forall_mem_cons.mpr ⟨(by k_ne), ?_⟩)); exact List.forall_mem_nil _)); (case r2 => ((repeat (refine List.forall_mem_cons.mpr ⟨(by k_ne), ?_⟩)); exact List.forall_mem_nil _)); (case hk0 => first | decide | omega); (case hk1 => first | decide | omega); (case ht => first | exact Or.inl rfl | (refine TabOk.mono (by assumption) ?_; exact List.forall_mem_cons.mpr ⟨by k_mem, List.forall_mem_cons.mpr ⟨by k_mem, List.forall_mem_nil _⟩⟩)); (case XB => assumption); (case TB => assumption)); (intro h_k9' tk_k9' T9_k9' F_k9' N_k9'; (try k_sweep)))
  k_go0
  (all_goals try k_fold)
  k_steps
  done
end
end Mine
end
theorem PySem.Challenge.cw_rg0255_01_holds : PySem.Challenge.rw_rg0255_01.Holds := by
  exact Mine.law_holds
